import PyProof.Rows.All
import Wide.All
import OpenK.AllK
import Wide.FinOn
import KE.KStateDown
import HandS.ForMost
import HandS.ForExc
import HandS.IsInst
import HandS.Wide
import HandS.Defaults
import HandS.More
import HandS.Head0
import HandS.Head1
import HandS.Head2
import HandS.HeadEnd
import HandS.HeadHook1
import HandS.HeadHook2
import HandS.Flow
import HandS.RevRange
import HandS.Walk
import PySem.Challenge.RW_boughask_k31_lists_joined
set_option Elab.async false
set_option linter.all false
set_option maxRecDepth 100000
set_option maxHeartbeats 4000000

namespace Bg
open PySem PySem.Spec PyProof.Rows L2
/-! ### defs, methods, classes by their names -/
abbrev FnP (K : PySem.W.Frag) (x q : Str) (st : Stmt) (f : Addr) (fd : FuncData) : Prop := FunD K x q (defArgs st) (defBody st) (defScope st) [] [] f fd
structure Fn (P : Program) (w : World) (K : PySem.W.Frag) (mg : Str → Option Value) (base : Heap) (CX : CXT) (k : Nat) (x : Str) (ps : List Str) (sp : Sp) : Prop where
  ex : ∃ (f : Addr) (fd : FuncData), FnOk P w K mg base CX k f fd ps sp ∧ mg x = some (.ref f) ∧ PySem.W.keepIn K (.ref f) = true ∧ Binds K fd ps []
structure Mt (P : Program) (w : World) (K : PySem.W.Frag) (mg : Str → Option Value) (base : Heap) (CX : CXT) (k : Nat) (C : Addr) (m : Str) (ps : List Str) (sp : Sp) : Prop where
  ex : ∃ (f : Addr) (fd : FuncData), FnOk P w K mg base CX k f fd ps sp ∧ Meth K C m f ∧ Cls K C ∧ Binds K fd ps []
structure Mkr (P : Program) (w : World) (K : PySem.W.Frag) (mg : Str → Option Value) (base : Heap) (CX : CXT) (k : Nat) (C : Addr) (x : Str) (ps : List Str) (sp : Sp) : Prop where
  ex : ∃ (f : Addr) (fd : FuncData), FnOk P w K mg base CX k f fd ps sp ∧ Mk K C f ∧ mg x = some (.ref C) ∧ Binds K fd ps []
section
variable {X : Cx} {CX : CXT} {k : Nat} {C : Addr} {ps : List Str} {sp : Sp} {E : XK} {x m : Str} {p pos apos : Pos} {e o : Expr} {es : List Expr} {ta : TE} {t : TA}
theorem pe_callF (F : Fn X.prog X.w X.K X.mg X.base CX k x ps sp) (hr : Room k X.A) (hx : Passes CX X E) (ha : PA X (e :: es) t) (hg : Gl X x := by rfl) (hdb : (x == ("__debug__" : Str)) = false := by decide)
    (he : starEach (e :: es) X.env = (false, eval e X.env) :: starEach es X.env := by rfl) (hpl : (backTo pos (starEach es X.env)).any (·.1) = false := by rfl) :
    PE X (.Call (.Name x p) (e :: es) [] pos) (tCall sp [] E t) := by
  obtain ⟨f, fd, F, hm, hk, hb⟩ := F.ex
  exact pe_call F hr hg hm hk hb .nil hx ha hdb he hpl
theorem pe_callF0 (F : Fn X.prog X.w X.K X.mg X.base CX k x ps sp) (hr : Room k X.A) (hx : Passes CX X E) (hg : Gl X x := by rfl) (hdb : (x == ("__debug__" : Str)) = false := by decide) :
    PE X (.Call (.Name x p) [] [] pos) (tCall sp [] E tNil) := by
  obtain ⟨f, fd, F, hm, hk, hb⟩ := F.ex
  exact pe_call0 F hr hg hm hk hb .nil hx hdb
theorem pe_makeF (F : Mkr X.prog X.w X.K X.mg X.base CX k C x ps sp) (hr : Room (k + 1) X.A) (hx : Passes CX X E) (ha : PA X (e :: es) t) (hg : Gl X x := by rfl) (hdb : (x == ("__debug__" : Str)) = false := by decide)
    (he : starEach (e :: es) X.env = (false, eval e X.env) :: starEach es X.env := by rfl) (hpl : (backTo pos (starEach es X.env)).any (·.1) = false := by rfl) :
    PE X (.Call (.Name x p) (e :: es) [] pos) (tMake C sp [] E t) := by
  obtain ⟨f, fd, F, hm, hk, hb⟩ := F.ex
  exact pe_make hm F hr hg hk hb .nil hx ha hdb he hpl
theorem pe_makeF0 (F : Mkr X.prog X.w X.K X.mg X.base CX k C x ps sp) (hr : Room (k + 1) X.A) (hx : Passes CX X E) (hg : Gl X x := by rfl) (hdb : (x == ("__debug__" : Str)) = false := by decide) :
    PE X (.Call (.Name x p) [] [] pos) (tMake C sp [] E tNil) := by
  obtain ⟨f, fd, F, hm, hk, hb⟩ := F.ex
  exact pe_make0 hm F hr hg hk hb .nil hx hdb
theorem pe_methF {pl : Sem Bool} (he : PE X o ta) (F : Mt X.prog X.w X.K X.mg X.base CX k C m ps sp) (hr : Room k X.A) (hx : Passes CX X E) (ha : PA X (e :: es) t)
    (hst : starEach (e :: es) X.env = (false, eval e X.env) :: starEach es X.env := by rfl) (hpl : (backTo pos (starEach es X.env)).any (·.1) = false := by rfl)
    (ht : eval (.Call (.Attribute o m apos) (e :: es) [] pos) X.env = (do
      let ov ← eval o X.env
      standAt apos.atName
      let (f, first) ← holding [ov] (getMethod ov m pl)
      callWith pos f first (backTo pos (starEach (e :: es) X.env)) (backToKw pos (keywordEach [] X.env))) := by rfl) :
    PE X (.Call (.Attribute o m apos) (e :: es) [] pos) (tMeth C m sp [] E ta t) := by
  obtain ⟨f, fd, F, hm, c, hb⟩ := F.ex
  exact pe_meth he c hm F hr hb .nil hx ha hst hpl ht
theorem pe_methF0 {pl : Sem Bool} (he : PE X o ta) (F : Mt X.prog X.w X.K X.mg X.base CX k C m ps sp) (hr : Room k X.A) (hx : Passes CX X E)
    (ht : eval (.Call (.Attribute o m apos) [] [] pos) X.env = (do
      let ov ← eval o X.env
      standAt apos.atName
      let (f, first) ← holding [ov] (getMethod ov m pl)
      callWith pos f first (backTo pos (starEach [] X.env)) (backToKw pos (keywordEach [] X.env))) := by rfl) :
    PE X (.Call (.Attribute o m apos) [] [] pos) (tMeth C m sp [] E ta tNil) := by
  obtain ⟨f, fd, F, hm, c, hb⟩ := F.ex
  exact pe_meth0 he c hm F hr hb .nil hx ht
end
/-! ### the heap: all stands but what stands at a -/
def But (a : Addr) (H H' : Hp) : Prop := ∀ b o, b ≠ a → H b = some o → H' b = some o
theorem But.refl (a : Addr) (H : Hp) : But a H H := fun _ _ _ h => h
theorem But.trans {a : Addr} {H H1 H2 : Hp} (x : But a H H1) (y : But a H1 H2) : But a H H2 := fun b o n h => y b o n (x b o n h)
theorem But.of_same {a : Addr} {H H' : Hp} (x : Same H H') : But a H H' := fun b o _ h => x b o h
theorem But.upd {a : Addr} {H : Hp} {o : HO} : But a H (upd H a o) := fun b u n h => by rw [upd_ne n]; exact h
theorem But.upd' {a : Addr} {H H' : Hp} {o : HO} (x : But a H H') : But a H (L2.upd H' a o) := x.trans But.upd
theorem _root_.L2.Same.new {H : Hp} {p : Addr} {o : HO} (h : H p = none) : Same H (upd H p o) := fun a u e => by
  rw [upd_ne (ne_of_none e h)]
  exact e
theorem _root_.L2.Same.new' {H H' : Hp} {p : Addr} {o : HO} (s : Same H H') (h : H' p = none) : Same H (upd H' p o) := s.trans (Same.new h)
/-- what H does not know may change -/
theorem _root_.L2.Same.mut {H H' : Hp} {p : Addr} {o : HO} (s : Same H H') (h : H p = none) : Same H (upd H' p o) := fun a u ha => by
  rw [upd_ne (ne_of_none ha h)]
  exact s a u ha
theorem But.mut {a : Addr} {H H' : Hp} {p : Addr} {o : HO} (s : But a H H') (h : H p = none) : But a H (L2.upd H' p o) := fun b u n hb => by
  rw [upd_ne (ne_of_none hb h)]
  exact s b u n hb
theorem But.new' {a : Addr} {H H' : Hp} {p : Addr} {o : HO} (s : But a H H') (h : H' p = none) : But a H (L2.upd H' p o) := s.trans (But.of_same (Same.new h))
theorem But.free {a : Addr} {H H' : Hp} (s : But a H H') {p : Addr} (hp : p ≠ a) (h : H' p = none) : H p = none := by
  cases q : H p with
  | none => rfl
  | some o =>
    rw [s p o hp q] at h
    cases h
theorem ne_a {H : Hp} {a b : Addr} {o u : HO} (h : H a = some o) (h' : H b = some u) (d : o ≠ u) : a ≠ b := ne_of h h' d
theorem But.seq {K : PySem.W.Frag} {a l : Addr} {H H' : Hp} {xs : List V} {kvs : List (Key × V)} (s : But a H H') (ha : H a = some (.dK kvs)) (h : SqL K H l xs) : SqL K H' l xs := by
  rcases h with (h | ⟨o, h⟩) | h
  · exact .inl (.inl (s _ _ (ne_of h ha (by intro z; cases z)) h))
  · exact .inl (.inr ⟨o, s _ _ (ne_of h ha (by intro z; cases z)) h⟩)
  · exact .inr h
theorem But.tup {K : PySem.W.Frag} {a l : Addr} {H H' : Hp} {xs : List V} {kvs : List (Key × V)} (s : But a H H') (ha : H a = some (.dK kvs)) (h : SqT K H l xs) : SqT K H' l xs := by
  rcases h with (h | ⟨o, h⟩) | h
  · exact .inl (.inl (s _ _ (ne_of h ha (by intro z; cases z)) h))
  · exact .inl (.inr ⟨o, s _ _ (ne_of h ha (by intro z; cases z)) h⟩)
  · exact .inr h
theorem _root_.L2.Same.tup {K : PySem.W.Frag} {H H' : Hp} {a : Addr} {xs : List V} (e : Same H H') (h : SqT K H a xs) : SqT K H' a xs := by
  rcases h with (h | ⟨o, h⟩) | h
  · exact .inl (.inl (e _ _ h))
  · exact .inl (.inr ⟨o, e _ _ h⟩)
  · exact .inr h
/-- a new object; a changed one -/
theorem al {H H1 : Hp} {p : Addr} {o : HO} (e : L2.upd H p o = H1) (n : H p = none) : Same H H1 ∧ H1 p = some o := by
  subst e
  exact ⟨L2.Same.new n, upd_same⟩
theorem ml {H H1 : Hp} {p : Addr} {o : HO} (e : L2.upd H p o = H1) : But p H H1 ∧ H1 p = some o := by
  subst e
  exact ⟨But.upd, upd_same⟩
theorem same_of_but {p : Addr} {H H1 H2 : Hp} (s : Same H H1) (n : H p = none) (b : But p H1 H2) : Same H H2 := fun c o h => b c o (ne_of_none h n) (s c o h)
/-! ### sizes -/
theorem sz {n : Nat} (h : n ≤ 16777216) : n ≤ sizeLine := by rw [sizeLine_eq]; exact h
theorem szl {n : Nat} (h : n < 16777216) : n < sizeLine := by rw [sizeLine_eq]; exact h
/-! ### the law's source of draws -/
def srcD (n s t : Int) : List (Key × V) := [(Sum.inr "number", .int n), (Sum.inr "seed", .int s), (Sum.inr "turn", .int t)]
def Src (H : Hp) (a : Addr) : Prop := ∃ n s t : Int, H a = some (.dK (srcD n s t))
theorem kne {a b : Str} (h : ¬ a = b) : ¬ ((Sum.inr a : Key) = Sum.inr b) := fun z => h (Sum.inr.inj z)
theorem s_ns : ¬ (("number" : Str) = "seed") := by decide +kernel
theorem s_nt : ¬ (("number" : Str) = "turn") := by decide +kernel
theorem s_sn : ¬ (("seed" : Str) = "number") := by decide +kernel
theorem s_st : ¬ (("seed" : Str) = "turn") := by decide +kernel
theorem s_tn : ¬ (("turn" : Str) = "number") := by decide +kernel
theorem s_ts : ¬ (("turn" : Str) = "seed") := by decide +kernel
theorem src_n (n s t : Int) : valV (srcD n s t) (Sum.inr "number") = some (.int n) := valV_pos rfl
theorem src_s (n s t : Int) : valV (srcD n s t) (Sum.inr "seed") = some (.int s) := by
  have e1 := kne s_ns
  simp [valV, srcD, e1]
theorem src_t (n s t : Int) : valV (srcD n s t) (Sum.inr "turn") = some (.int t) := by
  have e1 := kne s_nt
  have e2 := kne s_st
  simp [valV, srcD, e1, e2]
theorem src_pn (n s t m : Int) : putK (srcD n s t) (Sum.inr "number") (.int m) = srcD m s t := by
  have e1 := kne s_sn
  have e2 := kne s_tn
  simp [putK, srcD, e1, e2]
theorem src_pt (n s t m : Int) : putK (srcD n s t) (Sum.inr "turn") (.int m) = srcD n s m := by
  have e1 := kne s_st
  have e2 := kne s_nt
  simp [putK, srcD, e1, e2]
theorem src_get_n {H : Hp} {a : Addr} {n s t : Int} (h : H a = some (.dK (srcD n s t))) : DGet H a (.str "number") (some (.int n)) := by
  have := DGet.k (k := Sum.inr "number") h
  rw [src_n] at this
  exact this
theorem src_get_s {H : Hp} {a : Addr} {n s t : Int} (h : H a = some (.dK (srcD n s t))) : DGet H a (.str "seed") (some (.int s)) := by
  have := DGet.k (k := Sum.inr "seed") h
  rw [src_s] at this
  exact this
theorem src_get_t {H : Hp} {a : Addr} {n s t : Int} (h : H a = some (.dK (srcD n s t))) : DGet H a (.str "turn") (some (.int t)) := by
  have := DGet.k (k := Sum.inr "turn") h
  rw [src_t] at this
  exact this
theorem src_put_n {H : Hp} {a : Addr} {n s t m : Int} (h : H a = some (.dK (srcD n s t))) : DPut H a (.str "number") (.int m) (upd H a (.dK (srcD m s t))) := by
  have := DPut.k (k := Sum.inr "number") (v := .int m) h (show 3 < sizeLine by decide)
  rw [src_pn] at this
  exact this
theorem src_put_t {H : Hp} {a : Addr} {n s t m : Int} (h : H a = some (.dK (srcD n s t))) : DPut H a (.str "turn") (.int m) (upd H a (.dK (srcD n s m))) := by
  have := DPut.k (k := Sum.inr "turn") (v := .int m) h (show 3 < sizeLine by decide)
  rw [src_pt] at this
  exact this
/-! ### kinds -/
/-- the built-in kinds that things here may be of -/
def known : List String := ["NoneType", "bool", "int", "str", "list", "tuple", "dict"]
def Knd (K : PySem.W.Frag) (H : Hp) (v : V) (t : String) : Prop := TyX K H v (.type t) ∧ t ∈ known
theorem kit_known : ∀ t ∈ known, kitB t "int" = some (t == "int" || t == "bool") ∧ kitB t "bool" = some (t == "bool") ∧ kitB t "str" = some (t == "str") ∧ kitB t "list" = some (t == "list") ∧ kitB t "tuple" = some (t == "tuple") := by decide +kernel
theorem TyX.same {K : PySem.W.Frag} {H H' : Hp} {v : V} {t : Value} (s : Same H H') (h : TyX K H v t) : TyX K H' v t := by
  cases h with
  | base b =>
    cases b with
    | non => exact .base .non
    | bl x => exact .base (.bl x)
    | int x => exact .base (.int x)
    | str x => exact .base (.str x)
    | flt x => exact .base (.flt x)
    | lst e => exact .base (.lst (s _ _ e))
    | frz e => exact .base (.frz (s _ _ e))
    | tup e => exact .base (.tup (s _ _ e))
    | dK e => exact .base (.dK (s _ _ e))
    | dT e => exact .base (.dT (s _ _ e))
    | ins e cl ha hn htk hm => exact .base (.ins (s _ _ e) cl ha hn htk hm)
  | byt b => exact .byt b
  | set e => exact .set (s _ _ e)
  | kList e c => exact .kList e c
  | kTuple e c => exact .kTuple e c
  | kDict e c => exact .kDict e c
  | fTuple e => exact .fTuple (s _ _ e)
  | fDict e => exact .fDict (s _ _ e)
theorem Knd.same {K : PySem.W.Frag} {H H' : Hp} {v : V} {t : String} (s : Same H H') (h : Knd K H v t) : Knd K H' v t := ⟨TyX.same s h.1, h.2⟩
theorem Knd.non {K : PySem.W.Frag} {H : Hp} : Knd K H .non "NoneType" := ⟨.base .non, by decide⟩
theorem Knd.bl {K : PySem.W.Frag} {H : Hp} (b : Bool) : Knd K H (.bl b) "bool" := ⟨.base (.bl b), by decide⟩
theorem Knd.int {K : PySem.W.Frag} {H : Hp} (i : Int) : Knd K H (.int i) "int" := ⟨.base (.int i), by decide⟩
theorem Knd.str {K : PySem.W.Frag} {H : Hp} (z : Str) : Knd K H (.str z) "str" := ⟨.base (.str z), by decide⟩
theorem Knd.lst {K : PySem.W.Frag} {H : Hp} {a : Addr} {xs : List V} (h : H a = some (.lst xs)) : Knd K H (.ref a) "list" := ⟨.base (.lst h), by decide⟩
theorem Knd.tup {K : PySem.W.Frag} {H : Hp} {a : Addr} {xs : List V} (h : H a = some (.tup xs)) : Knd K H (.ref a) "tuple" := ⟨.base (.tup h), by decide⟩
theorem Knd.dK {K : PySem.W.Frag} {H : Hp} {a : Addr} {kvs : List (Key × V)} (h : H a = some (.dK kvs)) : Knd K H (.ref a) "dict" := ⟨.base (.dK h), by decide⟩
end Bg

namespace Bg
open PySem PySem.Spec PyProof.Rows L2
/-! ### labels -/
def isLow (c : Nat) : Bool := decide (97 ≤ c) && decide (c ≤ 122)
def letters : List Nat := (("abcdefghijklmnopqrstuvwxyz" : Str)).cps.toList
theorem letters_eq : letters = [97, 98, 99, 100, 101, 102, 103, 104, 105, 106, 107, 108, 109, 110, 111, 112, 113, 114, 115, 116, 117, 118, 119, 120, 121, 122] := by decide +kernel
theorem mem_letters (c : Nat) : decide (c ∈ letters) = isLow c := by
  rw [letters_eq]
  unfold isLow
  rw [Bool.eq_iff_iff, decide_eq_true_iff, Bool.and_eq_true, decide_eq_true_iff, decide_eq_true_iff]
  simp only [List.mem_cons, List.not_mem_nil, or_false]
  omega
def labelB (z : Str) : Bool := decide (1 ≤ z.length) && decide (z.length ≤ 8) && z.cps.toList.all isLow
def labelV : V → Bool
  | .str z => labelB z
  | _ => false
theorem labelV_str (z : Str) : labelV (.str z) = labelB z := rfl
def inLetters (z : Str) : List Bool := z.cps.toList.map fun c => decide (c ∈ letters)
theorem labelB_in {z : Str} (h1 : (1 : Int) ≤ (z.length : Int)) (h2 : (z.length : Int) ≤ 8) : labelB z = (inLetters z).all id := by
  unfold labelB inLetters
  rw [decide_eq_true (show 1 ≤ z.length by omega), decide_eq_true (show z.length ≤ 8 by omega), List.all_map]
  simp only [Bool.true_and]
  congr 1
  funext c
  exact (mem_letters c).symm
theorem labelB_long {z : Str} (h : ¬ (z.length : Int) ≤ 8) : labelB z = false := by
  unfold labelB
  rw [decide_eq_false (show ¬ z.length ≤ 8 by omega)]
  simp
theorem labelB_empty {z : Str} (h : ¬ (1 : Int) ≤ (z.length : Int)) : labelB z = false := by
  unfold labelB
  rw [decide_eq_false (show ¬ 1 ≤ z.length by omega)]
  simp
theorem labelB_count {z : Str} (h1 : (1 : Int) ≤ (z.length : Int)) (h2 : (z.length : Int) ≤ 8) : labelB z = decide ((z.cps.toList.filter isLow).length = z.length) := by
  unfold labelB
  rw [decide_eq_true (show 1 ≤ z.length by omega), decide_eq_true (show z.length ≤ 8 by omega)]
  simp only [Bool.true_and]
  have e : z.length = z.cps.toList.length := by simp [Str.length]
  rw [e, Bool.eq_iff_iff, decide_eq_true_iff, List.all_eq_true]
  constructor
  · intro h
    rw [List.filter_eq_self.mpr h]
  · intro h
    exact List.filter_eq_self.mp (List.Sublist.eq_of_length List.filter_sublist h)
theorem take_snoc {α : Type} {l : List α} {i : Nat} {x : α} (h : l[i]? = some x) : l.take (i + 1) = l.take i ++ [x] := by
  rw [List.take_add_one, h]
  rfl
theorem ge_a (c : Nat) : (!decide ((⟨#[c]⟩ : Str).cps.toList < (("a" : Str)).cps.toList)) = decide (97 ≤ c) := by
  show (!decide (([c] : List Nat) < [97])) = decide (97 ≤ c)
  rw [Bool.eq_iff_iff]
  simp [List.cons_lt_cons_iff]
theorem le_z (c : Nat) : (!decide ((("z" : Str)).cps.toList < (⟨#[c]⟩ : Str).cps.toList)) = decide (c ≤ 122) := by
  show (!decide (([122] : List Nat) < [c])) = decide (c ≤ 122)
  rw [Bool.eq_iff_iff]
  simp [List.cons_lt_cons_iff]
theorem Knd.str_of {K : PySem.W.Frag} {H : Hp} {v : V} {t : String} (h : Knd K H v t) (e : t = "str") : ∃ z, v = .str z := by
  subst e
  obtain ⟨h, _⟩ := h
  generalize ht : Value.type "str" = tv at h
  cases h with
  | base b =>
    cases b with
    | str x => exact ⟨x, rfl⟩
    | _ => first | (injection ht with q; exact absurd q (by decide)) | cases ht
  | _ => first | (injection ht with q; exact absurd q (by decide)) | cases ht
theorem Knd.no_str {K : PySem.W.Frag} {H : Hp} {v : V} {t : String} (h : Knd K H v t) (e : t ≠ "str") : labelV v = false := by
  cases v with
  | str z =>
    obtain ⟨h, _⟩ := h
    generalize ht : Value.type t = tv at h
    cases h with
    | base b =>
      cases b with
      | str x => injection ht with q; exact absurd q e
  | _ => rfl
theorem sum_ones (ys : List Str) (h : ∀ y ∈ ys, y.length = 1) : (ys.map (·.length)).sum = ys.length := by
  induction ys with
  | nil => rfl
  | cons y r ih =>
    rw [List.map_cons, List.sum_cons, ih fun z hz => h z (List.mem_cons_of_mem _ hz), h y (List.mem_cons_self ..), List.length_cons]
    omega
theorem join_len (ys : List Str) : (Txt.join "" ys).length = (ys.map (·.length)).sum := by
  have h := size_glued ("" : Str) ys
  rw [show (("" : Str)).length = 0 from rfl, Nat.mul_zero, Nat.add_zero] at h
  exact h
/-! ### a comprehension over a text's signs -/
theorem lc_str {z : Str} {g : TG} {tt : TT} {te : TE} {vs : List Nat} {σ : L2.St} {H1 : Hp} {D : Addr} {Qd : Hp → Prop} (Pv : Nat → Hp → Prop) (h0 : Pv 0 (upd H1 D (.lst [])))
    (hs : ∀ i c H, z.cps.toList[i]? = some c → Pv i H → g (.str ⟨#[c]⟩) (wipe σ vs) H fun σ2 H2 => wipe σ2 vs = wipe σ vs ∧ tt σ2 H2 fun b H3 =>
      if b = true then te σ2 H3 fun y H4 => ∃ acc, H4 D = some (.lst acc) ∧ acc.length < sizeLine ∧ Pv (i + 1) (upd H4 D (.lst (acc ++ [y]))) else Pv (i + 1) H3) (hd : ∀ H, Pv z.cps.size H → Qd H) :
    ∃ W : Nat → Nat → Hp → Prop, (∃ m, W 0 m (upd H1 D (.lst []))) ∧ ∀ i m H, W i m H →
      ((Its z).stop i H ∧ Qd H) ∨ ((Its z).go i H ∧ ∃ Nx : Hp → Prop, (∀ H', Nx H' → ∃ m', m' < m ∧ W (i + 1) m' H') ∧ ∀ x H', (Its z).yld i H x H' → g x (wipe σ vs) H' fun σ2 H2 => wipe σ2 vs = wipe σ vs ∧ tt σ2 H2 fun b H3 =>
        if b = true then te σ2 H3 fun y H4 => ∃ acc, H4 D = some (.lst acc) ∧ acc.length < sizeLine ∧ Nx (upd H4 D (.lst (acc ++ [y]))) else Nx H3) :=
  lc_it (walk_str (z := z)) Pv h0 (fun _ _ _ _ => trivial) (fun i x H H' hi p y => by
    obtain ⟨rfl, c, hc, rfl⟩ := y
    exact hs i c _ (by simpa using hc) p) hd
theorem src_merge (a b c : Int) : mergeK [] [(Sum.inr "number", .int a), (Sum.inr "seed", .int b), (Sum.inr "turn", .int c)] = srcD a b c := by
  have e1 := kne s_ns
  have e2 := kne s_nt
  have e3 := kne s_st
  simp [mergeK, putK, srcD, e1, e2, e3]
theorem src_at {H : Hp} {p : Addr} {a b c : Int} : Src (upd H p (.dK (mergeK [] [(Sum.inr "number", .int a), (Sum.inr "seed", .int b), (Sum.inr "turn", .int c)]))) p := ⟨a, b, c, by rw [upd_same, src_merge]⟩
theorem sign_lt {z : Str} {i c : Nat} (h : z.cps.toList[i]? = some c) : i < z.length := by
  have := (List.getElem?_eq_some_iff.mp h).1
  simpa [Str.length] using this
def signs38 : Str := "abcdefghijklmnopqrstuvwxyzAZ019 _-/!(~"
theorem signs38_len : signs38.cps.toList.length = 38 := by decide +kernel
end Bg

namespace Bg
open PySem PySem.Spec PyProof.Rows L2
/-! ### tuples stay -/
def TK (H H' : Hp) : Prop := (∀ b xs, H b = some (.tup xs) → H' b = some (.tup xs)) ∧ ∀ b o xs, H b = some (.frz o (.tup xs)) → H' b = some (.frz o (.tup xs))
theorem TK.refl (H : Hp) : TK H H := ⟨fun _ _ h => h, fun _ _ _ h => h⟩
theorem TK.trans {H H1 H2 : Hp} (a : TK H H1) (b : TK H1 H2) : TK H H2 := ⟨fun c xs h => b.1 c xs (a.1 c xs h), fun c o xs h => b.2 c o xs (a.2 c o xs h)⟩
theorem TK.same {H H' : Hp} (s : Same H H') : TK H H' := ⟨fun b xs h => s b _ h, fun b o xs h => s b _ h⟩
theorem TK.butL {a : Addr} {H H' : Hp} {xs : List V} (s : But a H H') (h : H a = some (.lst xs)) : TK H H' :=
  ⟨fun b ys hb => s b _ (ne_of hb h (by intro z; cases z)) hb, fun b o ys hb => s b _ (ne_of hb h (by intro z; cases z)) hb⟩
theorem TK.butD {a : Addr} {H H' : Hp} {xs : List (Key × V)} (s : But a H H') (h : H a = some (.dK xs)) : TK H H' :=
  ⟨fun b ys hb => s b _ (ne_of hb h (by intro z; cases z)) hb, fun b o ys hb => s b _ (ne_of hb h (by intro z; cases z)) hb⟩
theorem TK.butT {a : Addr} {H H' : Hp} {xs : List (List Key × V)} (s : But a H H') (h : H a = some (.dT xs)) : TK H H' :=
  ⟨fun b ys hb => s b _ (ne_of hb h (by intro z; cases z)) hb, fun b o ys hb => s b _ (ne_of hb h (by intro z; cases z)) hb⟩
theorem TK.butI {a C dx : Addr} {H H' : Hp} {fs : List (Str × V)} (s : But a H H') (h : H a = some (.ins C dx fs)) : TK H H' :=
  ⟨fun b ys hb => s b _ (ne_of hb h (by intro z; cases z)) hb, fun b o ys hb => s b _ (ne_of hb h (by intro z; cases z)) hb⟩
theorem TK.updL {a : Addr} {H : Hp} {xs : List V} {o : HO} (h : H a = some (.lst xs)) : TK H (upd H a o) := TK.butL But.upd h
theorem TK.updD {a : Addr} {H : Hp} {xs : List (Key × V)} {o : HO} (h : H a = some (.dK xs)) : TK H (upd H a o) := TK.butD But.upd h
theorem TK.updT {a : Addr} {H : Hp} {xs : List (List Key × V)} {o : HO} (h : H a = some (.dT xs)) : TK H (upd H a o) := TK.butT But.upd h
theorem TK.src {a : Addr} {H H' : Hp} (s : But a H H') (h : Src H a) : TK H H' := by
  obtain ⟨_, _, _, h⟩ := h
  exact TK.butD s h
theorem TK.sq {K : PySem.W.Frag} {H H' : Hp} {a : Addr} {xs : List V} (t : TK H H') (h : SqT K H a xs) : SqT K H' a xs := by
  rcases h with (h | ⟨o, h⟩) | h
  · exact .inl (.inl (t.1 _ _ h))
  · exact .inl (.inr ⟨o, t.2 _ _ _ h⟩)
  · exact .inr h
end Bg
namespace PySem
/-! ### paired lists -/
section
variable {α β γ : Type} {F G : α → β → Prop}
theorem Paired.get : ∀ {l : List α} {m : List β} {i : Nat} {a : α}, Paired F l m → l[i]? = some a → ∃ b, m[i]? = some b ∧ F a b
  | _, _, _, _, .nil, h => by simp at h
  | _, _, 0, _, .cons h t, e => by simp at e; subst e; exact ⟨_, rfl, h⟩
  | _, _, i + 1, a, .cons h t, e => by
    obtain ⟨b, hb, hf⟩ := Paired.get (i := i) (a := a) t (by simpa using e)
    exact ⟨b, by simpa using hb, hf⟩
theorem Paired.get' : ∀ {l : List α} {m : List β} {i : Nat} {b : β}, Paired F l m → m[i]? = some b → ∃ a, l[i]? = some a ∧ F a b
  | _, _, _, _, .nil, h => by simp at h
  | _, _, 0, _, .cons h t, e => by simp at e; subst e; exact ⟨_, rfl, h⟩
  | _, _, i + 1, a, .cons h t, e => by
    obtain ⟨b, hb, hf⟩ := Paired.get' (i := i) (b := a) t (by simpa using e)
    exact ⟨b, by simpa using hb, hf⟩
theorem Paired.imp : ∀ {l : List α} {m : List β}, Paired F l m → (∀ a b, F a b → G a b) → Paired G l m
  | _, _, .nil, _ => .nil
  | _, _, .cons h t, f => .cons (f _ _ h) (Paired.imp t f)
theorem Paired.app : ∀ {l l' : List α} {m m' : List β}, Paired F l m → Paired F l' m' → Paired F (l ++ l') (m ++ m')
  | _, _, _, _, .nil, s => s
  | _, _, _, _, .cons h t, s => .cons h (Paired.app t s)
theorem Paired.take : ∀ {l : List α} {m : List β} (n : Nat), Paired F l m → Paired F (l.take n) (m.take n)
  | _, _, 0, _ => .nil
  | _, _, _ + 1, .nil => .nil
  | _, _, n + 1, .cons h t => .cons h (Paired.take n t)
theorem Paired.drop : ∀ {l : List α} {m : List β} (n : Nat), Paired F l m → Paired F (l.drop n) (m.drop n)
  | _, _, 0, h => h
  | _, _, _ + 1, .nil => .nil
  | _, _, n + 1, .cons h t => Paired.drop n t
theorem Paired.dropLast {l : List α} {m : List β} (h : Paired F l m) : Paired F l.dropLast m.dropLast := by
  rw [List.dropLast_eq_take, List.dropLast_eq_take, h.length]
  exact h.take _
theorem Paired.set {a : α} {b : β} (h : F a b) : ∀ {l : List α} {m : List β} (i : Nat), Paired F l m → Paired F (l.set i a) (m.set i b)
  | _, _, _, .nil => .nil
  | _, _, 0, .cons _ t => .cons h t
  | _, _, i + 1, .cons q t => .cons q (Paired.set h i t)
theorem Paired.mem {l : List α} {m : List β} (h : Paired F l m) {a : α} (ha : a ∈ l) : ∃ b ∈ m, F a b := by
  obtain ⟨i, hi⟩ := List.getElem?_of_mem ha
  obtain ⟨b, hb, hf⟩ := h.get hi
  exact ⟨b, List.mem_of_getElem? hb, hf⟩
theorem Paired.map_r {f : γ → β} : ∀ {l : List α} {m : List γ}, Paired F l (m.map f) → Paired (fun a c => F a (f c)) l m
  | [], [], _ => .nil
  | [], _ :: _, h => nomatch h
  | _ :: _, [], h => nomatch h
  | _ :: _, _ :: _, .cons h t => .cons h (Paired.map_r t)
theorem Paired.of_map_r {f : γ → β} : ∀ {l : List α} {m : List γ}, Paired (fun a c => F a (f c)) l m → Paired F l (m.map f)
  | _, _, .nil => .nil
  | _, _, .cons h t => .cons h (Paired.of_map_r t)
theorem Paired.of_get : ∀ {l : List α} {m : List β}, l.length = m.length → (∀ (i : Nat) a b, l[i]? = some a → m[i]? = some b → F a b) → Paired F l m
  | [], [], _, _ => .nil
  | [], _ :: _, h, _ => by simp at h
  | _ :: _, [], h, _ => by simp at h
  | a :: l, b :: m, h, f => .cons (f 0 a b rfl rfl) (Paired.of_get (by simpa using h) fun i x y hx hy => f (i + 1) x y (by simpa using hx) (by simpa using hy))
theorem paired_map {f : γ → α} {g : γ → β} : ∀ {l : List γ}, (∀ c ∈ l, F (f c) (g c)) → Paired F (l.map f) (l.map g)
  | [], _ => .nil
  | c :: l, h => .cons (h c (List.mem_cons_self ..)) (paired_map fun d hd => h d (List.mem_cons_of_mem _ hd))
theorem Paired.filter {p : α → Bool} {q : β → Bool} : ∀ {l : List α} {m : List β}, Paired F l m → (∀ a b, F a b → p a = q b) → Paired F (l.filter p) (m.filter q)
  | _, _, .nil, _ => .nil
  | a :: l, b :: m, .cons h t, e => by
    rw [List.filter_cons, List.filter_cons, e a b h]
    split
    · exact .cons h (Paired.filter t e)
    · exact Paired.filter t e
end
end PySem
namespace Bg
open PySem PySem.Spec PyProof.Rows L2
/-! ### data -/
theorem dpAll_iff {K : PySem.W.Frag} {H : Hp} : ∀ {vs : List V} {ds : List PyData}, DpAll K H vs ds ↔ Paired (Dp K H) vs ds
  | [], [] => ⟨fun _ => .nil, fun _ => .nil⟩
  | [], _ :: _ => ⟨fun h => (nomatch h), fun h => (nomatch h)⟩
  | _ :: _, [] => ⟨fun h => (nomatch h), fun h => (nomatch h)⟩
  | _ :: _, _ :: _ => ⟨fun h => by cases h with | cons a b => exact .cons a (dpAll_iff.mp b), fun h => by cases h with | cons a b => exact .cons a (dpAll_iff.mpr b)⟩
mutual
def flat : PyData → Bool
  | .none | .bool _ | .int _ | .str _ => true
  | .tuple ds => flatAll ds
  | .list _ | .dict _ => false
def flatAll : List PyData → Bool
  | [] => true
  | d :: ds => flat d && flatAll ds
end
mutual
theorem dp_tk {K : PySem.W.Frag} {H H' : Hp} (t : TK H H') : ∀ (d : PyData) (v : V), flat d = true → Dp K H v d → Dp K H' v d
  | .none, _, _, h => by cases h; exact .non
  | .bool b, _, _, h => by cases h; exact .bl b
  | .int i, _, _, h => by cases h; exact .int i
  | .str x, _, _, h => by cases h; exact .str x
  | .tuple ds, _, f, h => by cases h with | tup a b => exact .tup (t.sq a) (dpAll_tk t ds _ f b)
  | .list _, _, f, _ => nomatch f
  | .dict _, _, f, _ => nomatch f
theorem dpAll_tk {K : PySem.W.Frag} {H H' : Hp} (t : TK H H') : ∀ (ds : List PyData) (vs : List V), flatAll ds = true → DpAll K H vs ds → DpAll K H' vs ds
  | [], _, _, h => by cases h; exact .nil
  | d :: ds, _, f, h => by
    have f' : (flat d && flatAll ds) = true := f
    rw [Bool.and_eq_true] at f'
    cases h with | cons a b => exact .cons (dp_tk t d _ f'.1 a) (dpAll_tk t ds _ f'.2 b)
end
mutual
theorem dp_same {K : PySem.W.Frag} {H H' : Hp} (t : ∀ a xs, SqL K H a xs → SqL K H' a xs) (u : ∀ a xs, SqT K H a xs → SqT K H' a xs) : ∀ (d : PyData) (v : V), Dp K H v d → Dp K H' v d
  | .none, _, h => by cases h; exact .non
  | .bool b, _, h => by cases h; exact .bl b
  | .int i, _, h => by cases h; exact .int i
  | .str x, _, h => by cases h; exact .str x
  | .tuple ds, _, h => by cases h with | tup a b => exact .tup (u _ _ a) (dpAll_same t u ds _ b)
  | .list ds, _, h => by cases h with | lst a b => exact .lst (t _ _ a) (dpAll_same t u ds _ b)
  | .dict _, _, h => by cases h
theorem dpAll_same {K : PySem.W.Frag} {H H' : Hp} (t : ∀ a xs, SqL K H a xs → SqL K H' a xs) (u : ∀ a xs, SqT K H a xs → SqT K H' a xs) : ∀ (ds : List PyData) (vs : List V), DpAll K H vs ds → DpAll K H' vs ds
  | [], _, h => by cases h; exact .nil
  | d :: ds, _, h => by cases h with | cons a b => exact .cons (dp_same t u d _ a) (dpAll_same t u ds _ b)
end
theorem _root_.L2.Dp.same {K : PySem.W.Frag} {H H' : Hp} {v : V} {d : PyData} (h : Dp K H v d) (s : Same H H') : Dp K H' v d := dp_same (fun _ _ => s.seq) (fun _ _ => s.tup) d v h
theorem _root_.L2.Dp.butD {K : PySem.W.Frag} {H H' : Hp} {v : V} {d : PyData} {a : Addr} {kvs : List (Key × V)} (h : Dp K H v d) (s : But a H H') (ha : H a = some (.dK kvs)) : Dp K H' v d := dp_same (fun _ _ => s.seq ha) (fun _ _ => s.tup ha) d v h
theorem _root_.L2.Dp.src {K : PySem.W.Frag} {H H' : Hp} {v : V} {d : PyData} {a : Addr} (h : Dp K H v d) (s : But a H H') (ha : Src H a) : Dp K H' v d := by
  obtain ⟨_, _, _, ha⟩ := ha
  exact h.butD s ha
section
variable {K : PySem.W.Frag} {H H' : Hp} {v : V}
theorem dp_int {i : Int} (h : Dp K H v (.int i)) : v = .int i := by cases h; rfl
theorem dp_str {z : Str} (h : Dp K H v (.str z)) : v = .str z := by cases h; rfl
theorem dp_non (h : Dp K H v .none) : v = .non := by cases h; rfl
theorem dp_bl {b : Bool} (h : Dp K H v (.bool b)) : v = .bl b := by cases h; rfl
theorem dp_tup {ds : List PyData} (h : Dp K H v (.tuple ds)) : ∃ a xs, v = .ref a ∧ SqT K H a xs ∧ Paired (Dp K H) xs ds := by
  cases h with | tup a b => exact ⟨_, _, rfl, a, dpAll_iff.mp b⟩
theorem dp_lst {ds : List PyData} (h : Dp K H v (.list ds)) : ∃ a xs, v = .ref a ∧ SqL K H a xs ∧ Paired (Dp K H) xs ds := by
  cases h with | lst a b => exact ⟨_, _, rfl, a, dpAll_iff.mp b⟩
theorem dp_of_lst {a : Addr} {xs : List V} {ds : List PyData} (h : SqL K H a xs) (p : Paired (Dp K H) xs ds) : Dp K H (.ref a) (.list ds) := .lst h (dpAll_iff.mpr p)
theorem dp_of_tup {a : Addr} {xs : List V} {ds : List PyData} (h : SqT K H a xs) (p : Paired (Dp K H) xs ds) : Dp K H (.ref a) (.tuple ds) := .tup h (dpAll_iff.mpr p)
/-- three ints, a text and an int .. -/
theorem dp_t3 {x y z : Int} (h : Dp K H v (.tuple [.int x, .int y, .int z])) : ∃ a, v = .ref a ∧ SqT K H a [.int x, .int y, .int z] := by
  obtain ⟨a, xs, rfl, hs, p⟩ := dp_tup h
  cases p with | cons h1 p => cases p with | cons h2 p => cases p with | cons h3 p => cases p; rw [dp_int h1, dp_int h2, dp_int h3] at hs; exact ⟨a, rfl, hs⟩
theorem dp_row {x : Str} {y : Int} (h : Dp K H v (.tuple [.str x, .int y])) : ∃ a, v = .ref a ∧ SqT K H a [.str x, .int y] := by
  obtain ⟨a, xs, rfl, hs, p⟩ := dp_tup h
  cases p with | cons h1 p => cases p with | cons h2 p => cases p; rw [dp_str h1, dp_int h2] at hs; exact ⟨a, rfl, hs⟩
theorem dp_step {x z : Str} {y : Int} (h : Dp K H v (.tuple [.str x, .str z, .int y])) : ∃ a, v = .ref a ∧ SqT K H a [.str x, .str z, .int y] := by
  obtain ⟨a, xs, rfl, hs, p⟩ := dp_tup h
  cases p with | cons h1 p => cases p with | cons h2 p => cases p with | cons h3 p => cases p; rw [dp_str h1, dp_str h2, dp_int h3] at hs; exact ⟨a, rfl, hs⟩
end
/-! ### typed data: what a value is written as -/
def eS3 (x : Int × Int × Int) : PyData := .tuple [.int x.1, .int x.2.1, .int x.2.2]
def eRow (x : Str × Int) : PyData := .tuple [.str x.1, .int x.2]
def eStep (x : Str × Str × Int) : PyData := .tuple [.str x.1, .str x.2.1, .int x.2.2]
def eOpt : Option Int → PyData
  | some i => .int i
  | none => .none
def vOpt : Option Int → V
  | some i => .int i
  | none => .non
theorem dp_opt {K : PySem.W.Frag} {H : Hp} {v : V} {o : Option Int} (h : Dp K H v (eOpt o)) : v = vOpt o := by
  cases o with
  | none => exact dp_non h
  | some i => exact dp_int h
theorem dp_of_opt {K : PySem.W.Frag} {H : Hp} (o : Option Int) : Dp K H (vOpt o) (eOpt o) := by
  cases o with
  | none => exact .non
  | some i => exact .int i
abbrev PL {α : Type} (K : PySem.W.Frag) (H : Hp) (e : α → PyData) (vs : List V) (xs : List α) : Prop := Paired (fun v x => Dp K H v (e x)) vs xs
theorem PL.tk {α : Type} {K : PySem.W.Frag} {H H' : Hp} {e : α → PyData} {vs : List V} {xs : List α} (h : PL K H e vs xs) (t : TK H H') (f : ∀ x, flat (e x) = true) : PL K H' e vs xs := h.imp fun v x q => dp_tk t _ v (f x) q
theorem PL.same {α : Type} {K : PySem.W.Frag} {H H' : Hp} {e : α → PyData} {vs : List V} {xs : List α} (h : PL K H e vs xs) (t : Same H H') : PL K H' e vs xs := h.imp fun v x q => q.same t
theorem flat_S3 (x : Int × Int × Int) : flat (eS3 x) = true := rfl
theorem flat_row (x : Str × Int) : flat (eRow x) = true := rfl
theorem flat_step (x : Str × Str × Int) : flat (eStep x) = true := rfl
theorem flat_opt (x : Option Int) : flat (eOpt x) = true := by cases x <;> rfl
theorem PL.dp {α : Type} {K : PySem.W.Frag} {H : Hp} {e : α → PyData} {l : Addr} {vs : List V} {xs : List α} (h : PL K H e vs xs) (s : SqL K H l vs) : Dp K H (.ref l) (.list (xs.map e)) := dp_of_lst s h.of_map_r
theorem dp_pl {α : Type} {K : PySem.W.Frag} {H : Hp} {e : α → PyData} {v : V} {xs : List α} (h : Dp K H v (.list (xs.map e))) : ∃ l vs, v = .ref l ∧ SqL K H l vs ∧ PL K H e vs xs := by
  obtain ⟨l, vs, rfl, s, p⟩ := dp_lst h
  exact ⟨l, vs, rfl, s, p.map_r⟩
theorem pl_int {K : PySem.W.Frag} {H : Hp} {vs : List V} {xs : List Int} (h : PL K H PyData.int vs xs) : vs = xs.map V.int := by
  induction h with
  | nil => rfl
  | cons h t ih => rw [List.map_cons, ih, dp_int h]
theorem pl_of_int {K : PySem.W.Frag} {H : Hp} (xs : List Int) : PL K H PyData.int (xs.map V.int) xs := by
  induction xs with
  | nil => exact .nil
  | cons x xs ih => exact .cons (.int x) ih
theorem pl_str {K : PySem.W.Frag} {H : Hp} {vs : List V} {xs : List Str} (h : PL K H PyData.str vs xs) : vs = xs.map V.str := by
  induction h with
  | nil => rfl
  | cons h t ih => rw [List.map_cons, ih, dp_str h]
theorem pl_of_str {K : PySem.W.Frag} {H : Hp} (xs : List Str) : PL K H PyData.str (xs.map V.str) xs := by
  induction xs with
  | nil => exact .nil
  | cons x xs ih => exact .cons (.str x) ih
theorem pl_opt {K : PySem.W.Frag} {H : Hp} {vs : List V} {xs : List (Option Int)} (h : PL K H eOpt vs xs) : vs = xs.map vOpt := by
  induction h with
  | nil => rfl
  | cons h t ih => rw [List.map_cons, ih, dp_opt h]
theorem pl_of_opt {K : PySem.W.Frag} {H : Hp} (xs : List (Option Int)) : PL K H eOpt (xs.map vOpt) xs := by
  induction xs with
  | nil => exact .nil
  | cons x xs ih => exact .cons (dp_of_opt x) ih
/-! ### shapes for == -/
theorem canLayAll_of {ds : List PyData} (h : ∀ d ∈ ds, d.canLay0 = true) : PyData.canLayAll0 ds = true := by
  induction ds with
  | nil => rfl
  | cons d ds ih =>
    show (PyData.canLay0 d && PyData.canLayAll0 ds) = true
    rw [h d (List.mem_cons_self ..), ih fun x hx => h x (List.mem_cons_of_mem _ hx)]
    rfl
theorem depthAll_of {ds : List PyData} {n : Nat} (h : ∀ d ∈ ds, d.depth ≤ n) : PyData.depthAll ds ≤ n := by
  induction ds with
  | nil => exact Nat.zero_le _
  | cons d ds ih =>
    show max (PyData.depth d) (PyData.depthAll ds) ≤ n
    exact Nat.max_le.mpr ⟨h d (List.mem_cons_self ..), ih fun x hx => h x (List.mem_cons_of_mem _ hx)⟩
/-- good for ==, at most n deep -/
def Gd (n : Nat) (d : PyData) : Prop := d.canLay0 = true ∧ d.depth ≤ n
theorem Gd.lst {n : Nat} {ds : List PyData} (h : ∀ d ∈ ds, Gd n d) : Gd (n + 1) (.list ds) := ⟨canLayAll_of fun d hd => (h d hd).1, Nat.succ_le_succ (depthAll_of fun d hd => (h d hd).2)⟩
theorem Gd.tup {n : Nat} {ds : List PyData} (h : ∀ d ∈ ds, Gd n d) : Gd (n + 1) (.tuple ds) := ⟨canLayAll_of fun d hd => (h d hd).1, Nat.succ_le_succ (depthAll_of fun d hd => (h d hd).2)⟩
theorem Gd.map {α : Type} {n : Nat} {e : α → PyData} {xs : List α} (h : ∀ x ∈ xs, Gd n (e x)) : Gd (n + 1) (.list (xs.map e)) := Gd.lst fun d hd => by
  obtain ⟨x, hx, rfl⟩ := List.mem_map.mp hd
  exact h x hx
theorem Gd.shaped {n : Nat} {d : PyData} (h : Gd n d) (hn : n ≤ 64) : SeqAt.shaped d = true := by
  unfold SeqAt.shaped
  rw [h.1, decide_eq_true (Nat.le_trans h.2 hn)]
  rfl
theorem Gd.mono {n m : Nat} {d : PyData} (h : Gd n d) (hn : n ≤ m) : Gd m d := ⟨h.1, Nat.le_trans h.2 hn⟩
theorem gd_int (i : Int) : Gd 0 (.int i) := ⟨rfl, Nat.le_refl _⟩
theorem gd_bool (i : Bool) : Gd 0 (.bool i) := ⟨rfl, Nat.le_refl _⟩
theorem gd_none : Gd 0 .none := ⟨rfl, Nat.le_refl _⟩
theorem gd_str {z : Str} (h : PyData.strOk z = true) : Gd 0 (.str z) := ⟨h, Nat.le_refl _⟩
theorem gd_S3 (x : Int × Int × Int) : Gd 1 (eS3 x) := ⟨rfl, by show _ ≤ 1; simp [eS3, PyData.depth, PyData.depthAll]⟩
theorem Gd.eqv {n : Nat} {d : PyData} (h : Gd n d) : PyData.eqv d d = true := SeqAt.eqv_refl d h.1
/-- a list is not the empty one -/
theorem eqv_nil (ds : List PyData) : PyData.eqv (.list ds) (.list []) = ds.isEmpty := by
  cases ds with
  | nil => rfl
  | cons d r => rfl
end Bg

namespace Bg
open PySem L2
/-! ### stretches: begin, end, depth -/
abbrev S3 := Int × Int × Int
/-- l is beneath u -/
def sub3 (u l : S3) : Prop := u.1 < l.1 ∧ l.1 ≤ u.2.1
/-- .. by a way: w tells «anywhere» -/
def bn3 (w : Bool) (u l : S3) : Prop := sub3 u l ∧ (w = true ∨ u.2.2 + 1 = l.2.2)
def bn3B (w : Bool) (u l : S3) : Bool := decide (u.1 < l.1) && decide (l.1 ≤ u.2.1) && (w || decide (u.2.2 + 1 = l.2.2))
theorem bn3B_iff (w : Bool) (u l : S3) : bn3B w u l = true ↔ bn3 w u l := by
  unfold bn3B bn3 sub3
  simp
def upB (w : Bool) (us : List S3) (l : S3) : Bool := us.any fun u => bn3B w u l
def loB (w : Bool) (ls : List S3) (u : S3) : Bool := ls.any fun l => bn3B w u l
theorem upB_iff {w : Bool} {us : List S3} {l : S3} : upB w us l = true ↔ ∃ u ∈ us, bn3 w u l := by
  unfold upB
  rw [List.any_eq_true]
  simp only [bn3B_iff]
theorem loB_iff {w : Bool} {ls : List S3} {u : S3} : loB w ls u = true ↔ ∃ l ∈ ls, bn3 w u l := by
  unfold loB
  rw [List.any_eq_true]
  simp only [bn3B_iff]
structure Fam (A : S3 → Prop) : Prop where
  le : ∀ x, A x → x.1 ≤ x.2.1
  nest : ∀ x y, A x → A y → sub3 x y → y.2.1 ≤ x.2.1 ∧ x.2.2 < y.2.2
/-- a dict of begins -/
def has (kv : List (Key × V)) (b : Int) : Prop := (valV kv (Sum.inl b)).isSome = true
def put (kv : List (Key × V)) (b : Int) : List (Key × V) := putK kv (Sum.inl b) (.bl true)
theorem has_put (kv : List (Key × V)) (b c : Int) : has (put kv c) b ↔ b = c ∨ has kv b := by
  unfold has put
  rw [valV_put]
  by_cases e : b = c
  · subst e; simp
  · have : ¬ (Sum.inl b : Key) = Sum.inl c := fun z => e (Sum.inl.inj z)
    rw [if_neg this]
    simp [e]
theorem put_len (kv : List (Key × V)) (c : Int) : (put kv c).length ≤ kv.length + 1 := by
  unfold put putK
  split <;> simp
theorem has_nil (b : Int) : ¬ has [] b := by
  unfold has
  simp [valV]
/-- the dict behind a pop of x, r being left -/
def popd (w : Bool) (kv : List (Key × V)) (x : S3) : List S3 → List (Key × V)
  | [] => kv
  | y :: _ => if w = true ∧ (valV kv (Sum.inl x.1)).isSome = true then put kv y.1 else kv
/-- Open.close: the stack with its top ahead, the dict -/
def clo (w : Bool) (b : Int) : List S3 → List (Key × V) → List S3 × List (Key × V)
  | [], kv => ([], kv)
  | x :: r, kv => if x.2.1 < b then clo w b r (popd w kv x r) else (x :: r, kv)
theorem clo_fst (w : Bool) (b : Int) : ∀ (rs : List S3) (kv : List (Key × V)), (clo w b rs kv).1 = rs.dropWhile (fun x => decide (x.2.1 < b))
  | [], _ => rfl
  | x :: r, kv => by
    unfold clo
    by_cases h : x.2.1 < b
    · rw [if_pos h, clo_fst w b r, List.dropWhile_cons, decide_eq_true h, if_pos rfl]
    · rw [if_neg h, List.dropWhile_cons, decide_eq_false h, if_neg (by simp)]
/-- the ends fall towards the top -/
def Anti (rs : List S3) : Prop := rs.Pairwise fun x y => x.2.1 ≤ y.2.1
theorem drop_filter {b : Int} : ∀ {rs : List S3}, Anti rs → rs.dropWhile (fun x => decide (x.2.1 < b)) = rs.filter (fun x => decide (b ≤ x.2.1))
  | [], _ => rfl
  | x :: r, h => by
    have h1 := List.pairwise_cons.mp h
    by_cases c : x.2.1 < b
    · rw [List.dropWhile_cons, decide_eq_true c, if_pos rfl, List.filter_cons, if_neg (by simp; omega)]
      exact drop_filter h1.2
    · rw [List.dropWhile_cons, decide_eq_false c, if_neg (by simp)]
      refine (List.filter_eq_self.mpr fun y hy => ?_).symm
      rcases List.mem_cons.mp hy with rfl | hy
      · exact decide_eq_true (by omega)
      · have := h1.1 y hy
        exact decide_eq_true (by omega)
theorem clo_filter {w : Bool} {b : Int} {rs : List S3} {kv : List (Key × V)} (h : Anti rs) : (clo w b rs kv).1 = rs.filter (fun x => decide (b ≤ x.2.1)) := by
  rw [clo_fst, drop_filter h]
theorem clo_len (w : Bool) (b : Int) : ∀ (rs : List S3) (kv : List (Key × V)), (clo w b rs kv).2.length + (clo w b rs kv).1.length ≤ kv.length + rs.length
  | [], _ => Nat.le_refl _
  | x :: r, kv => by
    unfold clo
    by_cases h : x.2.1 < b
    · rw [if_pos h]
      have hm : (popd w kv x r).length ≤ kv.length + 1 := by
        cases r with
        | nil => exact Nat.le_succ _
        | cons y r' =>
          show (if _ then put kv y.1 else kv).length ≤ _
          split
          · exact put_len kv y.1
          · exact Nat.le_succ _
      have ih := clo_len w b r (popd w kv x r)
      rw [List.length_cons]
      omega
    · rw [if_neg h]
      exact Nat.le_refl _
/-- what is told of u by the lowers met so far -/
def tld (w : Bool) (done : List S3) (u : S3) : Prop := ∃ l ∈ done, bn3 w u l
/-- the open ones, top first; acc: one further in is marked -/
def opn (w : Bool) (T : S3 → Prop) (kv : List (Key × V)) : Prop → List S3 → Prop
  | _, [] => True
  | acc, x :: r => (T x ↔ ((w = true ∧ acc) ∨ has kv x.1)) ∧ opn w T kv (acc ∨ has kv x.1) r
theorem opn_acc {w : Bool} {T : S3 → Prop} {kv : List (Key × V)} : ∀ {rs : List S3} {a a' : Prop}, (a ↔ a') → opn w T kv a rs → opn w T kv a' rs
  | [], _, _, _, _ => trivial
  | x :: r, a, a', e, h => ⟨by rw [← e]; exact h.1, opn_acc (by rw [e]) h.2⟩
/-- marks of begins that are not among them do not matter -/
theorem opn_put {w : Bool} {T : S3 → Prop} {kv : List (Key × V)} {c : Int} : ∀ {rs : List S3} {a : Prop}, (∀ x ∈ rs, x.1 ≠ c) → opn w T kv a rs → opn w T (put kv c) a rs
  | [], _, _, _ => trivial
  | x :: r, a, n, h => by
    have hx : has (put kv c) x.1 ↔ has kv x.1 := by
      rw [has_put]
      have := n x (List.mem_cons_self ..)
      simp [this]
    exact ⟨by rw [hx]; exact h.1, opn_acc (by rw [hx]) (opn_put (fun y hy => n y (List.mem_cons_of_mem _ hy)) h.2)⟩
theorem opn_T {w : Bool} {T T' : S3 → Prop} {kv : List (Key × V)} : ∀ {rs : List S3} {a : Prop}, (∀ x ∈ rs, (T x ↔ T' x)) → opn w T kv a rs → opn w T' kv a rs
  | [], _, _, _ => trivial
  | x :: r, a, n, h => ⟨by rw [← n x (List.mem_cons_self ..)]; exact h.1, opn_T (fun y hy => n y (List.mem_cons_of_mem _ hy)) h.2⟩
/-- where the way is straight acc does not matter -/
theorem opn_no {T : S3 → Prop} {kv : List (Key × V)} : ∀ {rs : List S3} {a a' : Prop}, opn false T kv a rs → opn false T kv a' rs
  | [], _, _, _ => trivial
  | x :: r, a, a', q => ⟨by have := q.1; simpa using this, opn_no q.2⟩
theorem opn_all {T : S3 → Prop} {kv : List (Key × V)} : ∀ {rs : List S3} {a : Prop}, a → (∀ x ∈ rs, T x) → opn true T kv a rs
  | [], _, _, _ => trivial
  | x :: r, a, h, n => ⟨by simp [h, n x (List.mem_cons_self ..)], opn_all (.inl h) fun y hy => n y (List.mem_cons_of_mem _ hy)⟩
/-- closing: the marks of the closed ones are right, the open ones stay right, no others are marked -/
theorem clo_ok {w : Bool} {b : Int} {T : S3 → Prop} : ∀ {rs : List S3} {kv : List (Key × V)}, (rs.map (·.1)).Nodup → opn w T kv False rs →
    opn w T (clo w b rs kv).2 False (clo w b rs kv).1 ∧ (∀ x ∈ rs, x ∉ (clo w b rs kv).1 → (has (clo w b rs kv).2 x.1 ↔ T x)) ∧ (∀ c, (∀ x ∈ rs, x.1 ≠ c) → (has (clo w b rs kv).2 c ↔ has kv c)) ∧ (∀ c, has kv c → has (clo w b rs kv).2 c) ∧
    (∀ c, has (clo w b rs kv).2 c → has kv c ∨ ∃ x ∈ rs, x.1 = c)
  | [], kv, _, h => ⟨h, fun _ hx => (nomatch hx), fun _ _ => Iff.rfl, fun _ q => q, fun _ q => .inl q⟩
  | x :: r, kv, nd, h => by
    have nd2 := List.nodup_cons.mp (show (x.1 :: r.map (·.1)).Nodup from nd)
    unfold clo
    by_cases c : x.2.1 < b
    · rw [if_pos c]
      -- the dict behind the pop
      obtain ⟨kv', hk, hop, hx, hother, hmore, hback⟩ : ∃ kv', popd w kv x r = kv' ∧ opn w T kv' False r ∧ (has kv' x.1 ↔ T x) ∧ (∀ c, (∀ z ∈ r, z.1 ≠ c) → (has kv' c ↔ has kv c)) ∧ (∀ c, has kv c → has kv' c) ∧ (∀ c, has kv' c → has kv c ∨ ∃ z ∈ r, z.1 = c) := by
        have hT : T x ↔ has kv x.1 := by rw [h.1]; simp
        cases r with
        | nil => exact ⟨kv, rfl, trivial, hT.symm, fun _ _ => Iff.rfl, fun _ q => q, fun _ q => .inl q⟩
        | cons y r' =>
          by_cases cc : w = true ∧ (valV kv (Sum.inl x.1)).isSome = true
          · refine ⟨put kv y.1, if_pos cc, ?_, ?_, ?_, ?_, ?_⟩
            · have nd3 := List.nodup_cons.mp (show (y.1 :: r'.map (·.1)).Nodup from nd2.2)
              have hx : has kv x.1 := cc.2
              have h2 := h.2
              refine ⟨?_, ?_⟩
              · rw [h2.1, has_put]
                simp [cc.1, hx]
              · refine opn_put (fun z hz e => nd3.1 (List.mem_map.mpr ⟨z, hz, e⟩)) (opn_acc ?_ h2.2)
                rw [has_put]
                simp [hx]
            · rw [hT, has_put]
              have : x.1 ≠ y.1 := fun e => nd2.1 (by rw [e]; exact List.mem_map.mpr ⟨y, List.mem_cons_self .., rfl⟩)
              simp [this]
            · intro c hc
              rw [has_put]
              have := hc y (List.mem_cons_self ..)
              simp [Ne.symm this]
            · intro c hc
              rw [has_put]
              exact .inr hc
            · intro c hc
              rw [has_put] at hc
              rcases hc with rfl | hc
              · exact .inr ⟨y, List.mem_cons_self .., rfl⟩
              · exact .inl hc
          · refine ⟨kv, if_neg cc, ?_, hT.symm, fun _ _ => Iff.rfl, fun _ q => q, fun _ q => .inl q⟩
            cases hw : w with
            | true =>
              rw [hw] at h cc
              have : ¬ has kv x.1 := fun q => cc ⟨rfl, q⟩
              exact opn_acc (by simp [this]) h.2
            | false =>
              rw [hw] at h
              exact opn_no h.2
      rw [hk]
      obtain ⟨q1, q2, q3, q4, q5⟩ := clo_ok (b := b) nd2.2 hop
      have hxr : ∀ z ∈ r, z.1 ≠ x.1 := fun z hz e => nd2.1 (List.mem_map.mpr ⟨z, hz, e⟩)
      refine ⟨q1, ?_, ?_, fun c hc => q4 c (hmore c hc), ?_⟩
      · intro z hz hn
        rcases List.mem_cons.mp hz with rfl | hz
        · rw [q3 _ hxr, hx]
        · exact q2 z hz hn
      · intro c hc
        have hcr : ∀ z ∈ r, z.1 ≠ c := fun z hz => hc z (List.mem_cons_of_mem _ hz)
        rw [q3 c hcr, hother c hcr]
      · intro c hc
        rcases q5 c hc with hc | ⟨z, hz, e⟩
        · rcases hback c hc with hc | ⟨z, hz, e⟩
          · exact .inl hc
          · exact .inr ⟨z, List.mem_cons_of_mem _ hz, e⟩
        · exact .inr ⟨z, List.mem_cons_of_mem _ hz, e⟩
    · rw [if_neg c]
      refine ⟨h, fun z hz hn => absurd hz hn, fun _ _ => Iff.rfl, fun _ q => q, fun _ q => .inl q⟩
/-! ### the walk of with_upper, with_lower -/
structure Stk (us : List S3) (at_ : Nat) (cur : Int) (rs : List S3) : Prop where
  eq : rs.reverse = (us.take at_).filter fun u => decide (cur ≤ u.2.1)
  lo : ∀ u ∈ us.take at_, u.1 ≤ cur
  hi : ∀ u ∈ us.drop at_, cur ≤ u.1
def Srt (us : List S3) : Prop := us.Pairwise fun x y => x.1 < y.1
section
variable {A : S3 → Prop} (F : Fam A) {us ls : List S3} (hu : ∀ u ∈ us, A u) (su : Srt us)
theorem Stk.mem {at_ : Nat} {cur : Int} {rs : List S3} (h : Stk us at_ cur rs) {x : S3} : x ∈ rs ↔ x ∈ us.take at_ ∧ cur ≤ x.2.1 := by
  rw [← List.mem_reverse, h.eq, List.mem_filter, decide_eq_true_iff]
include F hu su in
theorem Stk.anti {at_ : Nat} {cur : Int} {rs : List S3} (h : Stk us at_ cur rs) : Anti rs := by
  have h1 : rs.reverse.Pairwise (fun x y => y.2.1 ≤ x.2.1) := by
    rw [h.eq]
    have hs : ((us.take at_).filter fun u => decide (cur ≤ u.2.1)).Pairwise fun x y => x.1 < y.1 := (su.sublist (List.take_sublist _ _)).sublist List.filter_sublist
    refine hs.imp_of_mem fun {x y} hx hy hxy => ?_
    rw [List.mem_filter, decide_eq_true_iff] at hx hy
    exact (F.nest x y (hu x (List.mem_of_mem_take hx.1)) (hu y (List.mem_of_mem_take hy.1)) ⟨hxy, Int.le_trans (h.lo y hy.1) hx.2⟩).1
  rw [List.pairwise_reverse] at h1
  exact h1
theorem Stk.start (h : ∀ u ∈ us, (0 : Int) ≤ u.1) : Stk us 0 0 [] := ⟨by simp, by simp, by simpa using h⟩
include su in
theorem Stk.nodup {at_ : Nat} {cur : Int} {rs : List S3} (h : Stk us at_ cur rs) : (rs.map (·.1)).Nodup := by
  have h1 : (rs.reverse.map (·.1)).Nodup := by
    rw [h.eq]
    have hs : ((us.take at_).filter fun u => decide (cur ≤ u.2.1)).Pairwise fun x y => x.1 < y.1 := (su.sublist (List.take_sublist _ _)).sublist List.filter_sublist
    rw [List.Nodup, List.pairwise_map]
    exact hs.imp fun {x y} q => by omega
  rw [List.map_reverse, List.Nodup, List.pairwise_reverse] at h1
  exact h1.imp fun q => Ne.symm q
include F hu su in
/-- closing up to a later begin -/
theorem Stk.close {at_ : Nat} {cur b : Int} {rs : List S3} {w : Bool} {kv : List (Key × V)} (h : Stk us at_ cur rs) (hb : cur ≤ b) (hd : ∀ u ∈ us.drop at_, b ≤ u.1) : Stk us at_ b (clo w b rs kv).1 := by
  refine ⟨?_, fun u q => Int.le_trans (h.lo u q) hb, hd⟩
  rw [clo_filter (h.anti F hu su), ← List.filter_reverse, h.eq, List.filter_filter]
  congr 1
  funext u
  rw [Bool.eq_iff_iff, Bool.and_eq_true, decide_eq_true_iff, decide_eq_true_iff]
  constructor
  · exact fun q => q.1
  · exact fun q => ⟨q, Int.le_trans hb q⟩
include F hu su in
theorem Stk.push {at_ : Nat} {cur : Int} {rs : List S3} {u : S3} {w : Bool} {kv : List (Key × V)} (h : Stk us at_ cur rs) (e : us[at_]? = some u) : Stk us (at_ + 1) u.1 (u :: (clo w u.1 rs kv).1) := by
  have hlt := (List.getElem?_eq_some_iff.mp e).1
  have hdr : us.drop at_ = u :: us.drop (at_ + 1) := by
    obtain ⟨h1, h2⟩ := List.getElem?_eq_some_iff.mp e
    rw [← h2, List.drop_eq_getElem_cons h1]
  have hcu : cur ≤ u.1 := h.hi u (by rw [hdr]; exact List.mem_cons_self ..)
  have sd : (u :: us.drop (at_ + 1)).Pairwise fun x y => x.1 < y.1 := by rw [← hdr]; exact su.sublist (List.drop_sublist _ _)
  have hge : ∀ v ∈ us.drop at_, u.1 ≤ v.1 := by
    rw [hdr]
    intro v hv
    rcases List.mem_cons.mp hv with rfl | hv
    · exact Int.le_refl _
    · exact Int.le_of_lt ((List.pairwise_cons.mp sd).1 v hv)
  have c := h.close F hu su (w := w) (kv := kv) hcu hge
  have hu1 : A u := hu u (List.mem_of_getElem? e)
  refine ⟨?_, ?_, ?_⟩
  · rw [List.reverse_cons, c.eq, take_snoc e, List.filter_append, List.filter_cons, if_pos (decide_eq_true (F.le u hu1))]
    rfl
  · intro v hv
    rw [take_snoc e] at hv
    rcases List.mem_append.mp hv with hv | hv
    · exact Int.le_trans (h.lo v hv) hcu
    · rw [List.mem_singleton.mp hv]
      exact Int.le_refl _
  · intro v hv
    exact hge v (by rw [hdr]; exact List.mem_cons_of_mem _ hv)
include su in
/-- the taken ones are those ahead of l -/
theorem taken_iff {at_ : Nat} {l : Int} (h1 : ∀ u ∈ us.take at_, u.1 < l) (h2 : ∀ u ∈ us.drop at_, l ≤ u.1) (u : S3) : u ∈ us.take at_ ↔ u ∈ us ∧ u.1 < l := by
  constructor
  · exact fun q => ⟨List.mem_of_mem_take q, h1 u q⟩
  · rintro ⟨q, c⟩
    rw [← List.take_append_drop at_ us] at q
    rcases List.mem_append.mp q with q | q
    · exact q
    · have := h2 u q
      omega
include F hu su in
/-- with_upper's answer at a lower -/
theorem upper_ans {at_ : Nat} {l : S3} {rs : List S3} (hl : A l) (h : Stk us at_ l.1 rs) (h1 : ∀ u ∈ us.take at_, u.1 < l.1) (w : Bool) :
    (∃ u ∈ us, bn3 w u l) ↔ ∃ t r, rs = t :: r ∧ (w = true ∨ t.2.2 + 1 = l.2.2) := by
  have hm : ∀ u, u ∈ rs ↔ u ∈ us ∧ sub3 u l := by
    intro u
    rw [h.mem, taken_iff su h1 h.hi]
    exact ⟨fun q => ⟨q.1.1, q.1.2, q.2⟩, fun q => ⟨⟨q.1, q.2.1⟩, q.2.2⟩⟩
  have ha := h.anti F hu su
  constructor
  · rintro ⟨u, hu', hs, hw⟩
    have hur : u ∈ rs := (hm u).mpr ⟨hu', hs⟩
    cases rs with
    | nil => exact absurd hur (by simp)
    | cons t r =>
      refine ⟨t, r, rfl, ?_⟩
      rcases hw with hw | hw
      · exact .inl hw
      · rcases List.mem_cons.mp hur with rfl | hur
        · exact .inr hw
        · exfalso
          have ht := (hm t).mp (List.mem_cons_self ..)
          have hrev : (t :: r).reverse.Pairwise fun x y => x.1 < y.1 := by
            rw [h.eq]
            exact (su.sublist (List.take_sublist _ _)).sublist List.filter_sublist
          rw [List.pairwise_reverse] at hrev
          have hut : u.1 < t.1 := (List.pairwise_cons.mp hrev).1 u hur
          have htu : sub3 u t := ⟨hut, Int.le_trans (Int.le_of_lt ht.2.1) hs.2⟩
          have n1 := (F.nest u t (hu u hu') (hu t ht.1) htu).2
          have n2 := (F.nest t l (hu t ht.1) hl ht.2).2
          omega
  · rintro ⟨t, r, rfl, hw⟩
    have ht := (hm t).mp (List.mem_cons_self ..)
    exact ⟨t, ht.1, ht.2, hw⟩
/-! ### with_lower -/
structure Low (w : Bool) (us done : List S3) (at_ : Nat) (cur : Int) (rs : List S3) (kv : List (Key × V)) : Prop where
  stk : Stk us at_ cur rs
  shut : ∀ u ∈ us.take at_, ¬ cur ≤ u.2.1 → (has kv u.1 ↔ tld w done u)
  op : opn w (tld w done) kv False rs
  only : ∀ c, has kv c → ∃ u ∈ us.take at_, u.1 = c
  met : ∀ l ∈ done, l.1 ≤ cur
theorem Low.start {w : Bool} (h : ∀ u ∈ us, (0 : Int) ≤ u.1) : Low w us [] 0 0 [] [] := ⟨Stk.start h, by simp, trivial, fun c q => absurd q (has_nil c), by simp⟩
include F hu su in
theorem Low.close {w : Bool} {done : List S3} {at_ : Nat} {cur b : Int} {rs : List S3} {kv : List (Key × V)} (h : Low w us done at_ cur rs kv) (hb : cur ≤ b) (hd : ∀ u ∈ us.drop at_, b ≤ u.1) :
    Low w us done at_ b (clo w b rs kv).1 (clo w b rs kv).2 := by
  have hs := h.stk.close F hu su (w := w) (kv := kv) hb hd
  obtain ⟨q1, q2, q3, q4, q5⟩ := clo_ok (b := b) (h.stk.nodup su) h.op
  refine ⟨hs, ?_, q1, ?_, fun l hl => Int.le_trans (h.met l hl) hb⟩
  · intro u hu' hn
    by_cases c : cur ≤ u.2.1
    · have hr : u ∈ rs := h.stk.mem.mpr ⟨hu', c⟩
      exact q2 u hr fun z => hn (hs.mem.mp z).2
    · have hnr : ∀ x ∈ rs, x.1 ≠ u.1 := by
        intro x hx e
        have hx' := h.stk.mem.mp hx
        have : x = u := by
          have nd := su.sublist (List.take_sublist at_ us)
          obtain ⟨i, hi, hxi⟩ := List.mem_iff_getElem.mp hx'.1
          obtain ⟨j, hj, huj⟩ := List.mem_iff_getElem.mp hu'
          rw [List.pairwise_iff_getElem] at nd
          rcases Nat.lt_trichotomy i j with hij | hij | hij
          · have := nd i j hi hj hij
            rw [hxi, huj] at this
            omega
          · subst hij
            rw [← hxi, ← huj]
          · have := nd j i hj hi hij
            rw [hxi, huj] at this
            omega
        rw [this] at hx'
        exact c hx'.2
      rw [q3 u.1 hnr]
      exact h.shut u hu' c
  · intro c hc
    rcases q5 c hc with hc | ⟨x, hx, e⟩
    · exact h.only c hc
    · exact ⟨x, (h.stk.mem.mp hx).1, e⟩
include F hu su in
theorem Low.push {w : Bool} {done : List S3} {at_ : Nat} {cur : Int} {rs : List S3} {kv : List (Key × V)} {u : S3} (h : Low w us done at_ cur rs kv) (e : us[at_]? = some u) :
    Low w us done (at_ + 1) u.1 (u :: (clo w u.1 rs kv).1) (clo w u.1 rs kv).2 := by
  have hdr : us.drop at_ = u :: us.drop (at_ + 1) := by
    obtain ⟨h1, h2⟩ := List.getElem?_eq_some_iff.mp e
    rw [← h2, List.drop_eq_getElem_cons h1]
  have sd : (u :: us.drop (at_ + 1)).Pairwise fun x y => x.1 < y.1 := by rw [← hdr]; exact su.sublist (List.drop_sublist _ _)
  have hcu : cur ≤ u.1 := h.stk.hi u (by rw [hdr]; exact List.mem_cons_self ..)
  have hge : ∀ v ∈ us.drop at_, u.1 ≤ v.1 := by
    rw [hdr]
    intro v hv
    rcases List.mem_cons.mp hv with rfl | hv
    · exact Int.le_refl _
    · exact Int.le_of_lt ((List.pairwise_cons.mp sd).1 v hv)
  have c := h.close F hu su hcu hge
  have hlt : ∀ v ∈ us.take at_, v.1 < u.1 := by
    intro v hv
    have : (us.take at_ ++ us.drop at_).Pairwise fun x y => x.1 < y.1 := by rw [List.take_append_drop]; exact su
    exact (List.pairwise_append.mp this).2.2 v hv u (by rw [hdr]; exact List.mem_cons_self ..)
  have hnew : ¬ has (clo w u.1 rs kv).2 u.1 := fun q => by
    obtain ⟨v, hv, e⟩ := c.only _ q
    have := hlt v hv
    omega
  have hT : ¬ tld w done u := by
    rintro ⟨l, hl, hs, _⟩
    have := c.met l hl
    have := hs.1
    omega
  refine ⟨h.stk.push F hu su e, ?_, ⟨by simp [hnew, hT], opn_acc (by simp [hnew]) c.op⟩, ?_, c.met⟩
  · intro v hv hn
    rw [take_snoc e] at hv
    rcases List.mem_append.mp hv with hv | hv
    · exact c.shut v hv hn
    · rw [List.mem_singleton.mp hv] at hn ⊢
      exact absurd (F.le u (hu u (List.mem_of_getElem? e))) hn
  · intro x hx
    obtain ⟨v, hv, e'⟩ := c.only x hx
    exact ⟨v, by rw [take_snoc e]; exact List.mem_append_left _ hv, e'⟩
/-- meet, behind its close -/
def mark (w : Bool) (l : S3) (rs : List S3) (kv : List (Key × V)) : List (Key × V) := match rs with
  | [] => kv
  | t :: _ => if w = true ∨ t.2.2 + 1 = l.2.2 then put kv t.1 else kv
include F hu su in
theorem Low.meet {w : Bool} {done : List S3} {at_ : Nat} {l : S3} {rs : List S3} {kv : List (Key × V)} (hl : A l) (h : Low w us done at_ l.1 rs kv) (h1 : ∀ u ∈ us.take at_, u.1 < l.1) :
    Low w us (done ++ [l]) at_ l.1 rs (mark w l rs kv) := by
  have hmem : ∀ u, u ∈ rs ↔ u ∈ us ∧ sub3 u l := by
    intro u
    rw [h.stk.mem, taken_iff su h1 h.stk.hi]
    exact ⟨fun q => ⟨q.1.1, q.1.2, q.2⟩, fun q => ⟨⟨q.1, q.2.1⟩, q.2.2⟩⟩
  have hT : ∀ u, tld w (done ++ [l]) u ↔ tld w done u ∨ bn3 w u l := by
    intro u
    constructor
    · rintro ⟨x, hx, q⟩
      rcases List.mem_append.mp hx with hx | hx
      · exact .inl ⟨x, hx, q⟩
      · rw [List.mem_singleton.mp hx] at q
        exact .inr q
    · rintro (⟨x, hx, q⟩ | q)
      · exact ⟨x, List.mem_append_left _ hx, q⟩
      · exact ⟨l, by simp, q⟩
  have nd := h.stk.nodup su
  refine ⟨h.stk, ?_, ?_, ?_, ?_⟩
  · intro u hu' hn
    have hnr : u ∉ rs := fun q => hn (h.stk.mem.mp q).2
    have hnb : ¬ bn3 w u l := fun q => hn q.1.2
    rw [hT]
    have e1 : has (mark w l rs kv) u.1 ↔ has kv u.1 := by
      unfold mark
      cases rs with
      | nil => exact Iff.rfl
      | cons t r =>
        show has (if _ then put kv t.1 else kv) u.1 ↔ _
        split
        · rw [has_put]
          have : u.1 ≠ t.1 := by
            intro e
            have ht := h.stk.mem.mp (List.mem_cons_self (a := t) (l := r))
            have : u = t := by
              have nd := su.sublist (List.take_sublist at_ us)
              obtain ⟨i, hi, hxi⟩ := List.mem_iff_getElem.mp hu'
              obtain ⟨j, hj, huj⟩ := List.mem_iff_getElem.mp ht.1
              rw [List.pairwise_iff_getElem] at nd
              rcases Nat.lt_trichotomy i j with hij | hij | hij
              · have := nd i j hi hj hij
                rw [hxi, huj] at this
                omega
              · subst hij
                rw [← hxi, ← huj]
              · have := nd j i hj hi hij
                rw [hxi, huj] at this
                omega
            rw [this] at hn
            exact hn ht.2
          simp [this]
        · exact Iff.rfl
    rw [e1, h.shut u hu' hn]
    simp [hnb]
  · cases rs with
    | nil => trivial
    | cons t r =>
      have nd2 := List.nodup_cons.mp (show (t.1 :: r.map (·.1)).Nodup from nd)
      have ht := (hmem t).mp (List.mem_cons_self ..)
      have ho := h.op
      have hrev : (t :: r).reverse.Pairwise fun x y => x.1 < y.1 := by
        rw [h.stk.eq]
        exact (su.sublist (List.take_sublist _ _)).sublist List.filter_sublist
      rw [List.pairwise_reverse] at hrev
      have hin : ∀ x ∈ r, x.2.2 < t.2.2 ∧ sub3 x l := by
        intro x hx
        have hx' := (hmem x).mp (List.mem_cons_of_mem _ hx)
        have hxt : x.1 < t.1 := (List.pairwise_cons.mp hrev).1 x hx
        exact ⟨(F.nest x t (hu x hx'.1) (hu t ht.1) ⟨hxt, Int.le_trans (Int.le_of_lt ht.2.1) hx'.2.2⟩).2, hx'.2⟩
      have htl := (F.nest t l (hu t ht.1) hl ht.2).2
      show opn w (tld w (done ++ [l])) (if w = true ∨ t.2.2 + 1 = l.2.2 then put kv t.1 else kv) False (t :: r)
      cases hw : w with
      | true =>
        rw [hw] at hT ho
        rw [if_pos (.inl rfl)]
        refine ⟨?_, opn_all (.inr ((has_put ..).mpr (.inl rfl))) fun x hx => (hT x).mpr (.inr ⟨(hin x hx).2, .inl rfl⟩)⟩
        rw [hT, has_put]
        have : bn3 true t l := ⟨ht.2, .inl rfl⟩
        simp [this]
      | false =>
        rw [hw] at hT ho
        have hr : ∀ x ∈ r, (tld false done x ↔ tld false (done ++ [l]) x) := by
          intro x hx
          rw [hT]
          have : ¬ bn3 false x l := by
            rintro ⟨_, q | q⟩
            · exact absurd q (by decide)
            · have := (hin x hx).1
              omega
          simp [this]
        by_cases c : t.2.2 + 1 = l.2.2
        · rw [if_pos (.inr c)]
          refine ⟨?_, opn_no (a := False) (opn_put (fun x hx e => nd2.1 (List.mem_map.mpr ⟨x, hx, e⟩)) (opn_T hr (opn_no ho.2)))⟩
          rw [hT, has_put]
          have : bn3 false t l := ⟨ht.2, .inr c⟩
          simp [this]
        · rw [if_neg (by rintro (q | q); exact absurd q (by decide); exact c q)]
          refine ⟨?_, opn_T hr ho.2⟩
          rw [hT, ← ho.1]
          have : ¬ bn3 false t l := by
            rintro ⟨_, q | q⟩
            · exact absurd q (by decide)
            · exact c q
          simp [this]
  · intro c hc
    unfold mark at hc
    cases rs with
    | nil => exact h.only c hc
    | cons t r =>
      have hc : has (if w = true ∨ t.2.2 + 1 = l.2.2 then put kv t.1 else kv) c := hc
      by_cases q : w = true ∨ t.2.2 + 1 = l.2.2
      · rw [if_pos q, has_put] at hc
        rcases hc with rfl | hc
        · exact ⟨t, (h.stk.mem.mp (List.mem_cons_self ..)).1, rfl⟩
        · exact h.only c hc
      · rw [if_neg q] at hc
        exact h.only c hc
  · intro x hx
    rcases List.mem_append.mp hx with hx | hx
    · exact h.met x hx
    · rw [List.mem_singleton.mp hx]
      exact Int.le_refl _
theorem mark_len (w : Bool) (l : S3) (rs : List S3) (kv : List (Key × V)) : (mark w l rs kv).length ≤ kv.length + 1 := by
  unfold mark
  cases rs with
  | nil => exact Nat.le_succ _
  | cons t r =>
    show (if _ then put kv t.1 else kv).length ≤ _
    split
    · exact put_len kv t.1
    · exact Nat.le_succ _
include F hu su in
/-- the last close -/
theorem Low.finish {w : Bool} {done : List S3} {at_ : Nat} {cur b : Int} {rs : List S3} {kv : List (Key × V)} (h : Low w us done at_ cur rs kv) (hb : ∀ x ∈ rs, x.2.1 < b) (hd : ∀ u ∈ us.drop at_, ∀ l ∈ done, l.1 ≤ u.1) (u : S3) (hu' : u ∈ us) :
    has (clo w b rs kv).2 u.1 ↔ tld w done u := by
  obtain ⟨q1, q2, q3, q4, q5⟩ := clo_ok (b := b) (h.stk.nodup su) h.op
  have hnil : (clo w b rs kv).1 = [] := by
    rw [clo_filter (h.stk.anti F hu su)]
    refine List.filter_eq_nil_iff.mpr fun x hx => ?_
    have := hb x hx
    simp
    omega
  have hinj : ∀ x ∈ us, x.1 = u.1 → x = u := by
    intro x hx e
    obtain ⟨i, hi, hxi⟩ := List.mem_iff_getElem.mp hx
    obtain ⟨j, hj, huj⟩ := List.mem_iff_getElem.mp hu'
    have nd := su
    unfold Srt at nd
    rw [List.pairwise_iff_getElem] at nd
    rcases Nat.lt_trichotomy i j with hij | hij | hij
    · have := nd i j hi hj hij
      rw [hxi, huj] at this
      omega
    · subst hij
      rw [← hxi, ← huj]
    · have := nd j i hj hi hij
      rw [hxi, huj] at this
      omega
  have hsub : ∀ x ∈ rs, x ∈ us := fun x hx => List.mem_of_mem_take (h.stk.mem.mp hx).1
  by_cases c : u ∈ rs
  · exact q2 u c (by rw [hnil]; exact List.not_mem_nil)
  · have hnr : ∀ x ∈ rs, x.1 ≠ u.1 := fun x hx e => c (by rw [← hinj x (hsub x hx) e]; exact hx)
    rw [q3 u.1 hnr]
    by_cases ct : u ∈ us.take at_
    · exact h.shut u ct fun z => c (h.stk.mem.mpr ⟨ct, z⟩)
    · have hdr : u ∈ us.drop at_ := by
        have := hu'
        rw [← List.take_append_drop at_ us] at this
        rcases List.mem_append.mp this with q | q
        · exact absurd q ct
        · exact q
      constructor
      · intro q
        obtain ⟨v, hv, e⟩ := h.only _ q
        exact absurd (by rw [← hinj v (List.mem_of_mem_take hv) e]; exact hv) ct
      · rintro ⟨l, hl, hs, _⟩
        have := hd u hdr l hl
        have := hs.1
        omega
/-- all is closed: the marks tell -/
theorem Low.done_ {w : Bool} {done : List S3} {at_ : Nat} {cur : Int} {kv : List (Key × V)} (h : Low w us done at_ cur [] kv) (hd : ∀ u ∈ us.drop at_, ∀ l ∈ done, l.1 ≤ u.1) (su : Srt us) (u : S3) (hu : u ∈ us) : has kv u.1 ↔ tld w done u := by
  by_cases c : u ∈ us.take at_
  · refine h.shut u c fun q => ?_
    have := h.stk.mem.mpr ⟨c, q⟩
    exact absurd this (by simp)
  · have hdr : u ∈ us.drop at_ := by
      rw [← List.take_append_drop at_ us] at hu
      rcases List.mem_append.mp hu with q | q
      · exact absurd q c
      · exact q
    constructor
    · intro q
      obtain ⟨v, hv, e⟩ := h.only _ q
      exfalso
      have : (us.take at_ ++ us.drop at_).Pairwise fun x y => x.1 < y.1 := by rw [List.take_append_drop]; exact su
      have := (List.pairwise_append.mp this).2.2 v hv u hdr
      omega
    · rintro ⟨l, hl, hs, _⟩
      have := hd u hdr l hl
      have := hs.1
      omega
end
end Bg

namespace Bg
open PySem L2
/-! ### trees by their depths -/
def dg (ds : List Int) (i : Nat) : Int := ds.getD i 0
theorem dg_of {ds : List Int} {i : Nat} {d : Int} (h : ds[i]? = some d) : dg ds i = d := by
  unfold dg
  rw [List.getD_eq_getElem?_getD, h]
  rfl
theorem dg_get {ds : List Int} {i : Nat} (h : i < ds.length) : ds[i]? = some (dg ds i) := by
  unfold dg
  rw [List.getD_eq_getElem?_getD, List.getElem?_eq_getElem h]
  rfl
/-- u is above k -/
def An (ds : List Int) (u k : Nat) : Prop := u < k ∧ k < ds.length ∧ ∀ j, u < j → j ≤ k → dg ds u < dg ds j
/-- the depths of a tree -/
structure Dv (ds : List Int) : Prop where
  one : dg ds 0 = 1
  two : ∀ i, i + 1 < ds.length → 2 ≤ dg ds (i + 1) ∧ dg ds (i + 1) ≤ dg ds i + 1
theorem Dv.pos {ds : List Int} (h : Dv ds) : ∀ i, i < ds.length → 1 ≤ dg ds i
  | 0, _ => by rw [h.one]; decide
  | i + 1, hi => by have := (h.two i hi).1; omega
theorem Dv.le {ds : List Int} (h : Dv ds) : ∀ i, i < ds.length → dg ds i ≤ i + 1
  | 0, _ => by rw [h.one]; decide
  | i + 1, hi => by
    have h1 := (h.two i hi).2
    have h2 := h.le i (by omega)
    omega
theorem An.trans {ds : List Int} {u v k : Nat} (a : An ds u v) (b : An ds v k) : An ds u k := by
  refine ⟨Nat.lt_trans a.1 b.1, b.2.1, fun j h1 h2 => ?_⟩
  by_cases c : j ≤ v
  · exact a.2.2 j h1 c
  · exact Int.lt_trans (a.2.2 v a.1 (Nat.le_refl _)) (b.2.2 j (by omega) h2)
theorem An.mid {ds : List Int} {u v k : Nat} (a : An ds u k) (b : An ds v k) (h : u < v) : An ds u v := ⟨h, Nat.lt_trans b.1 b.2.1, fun j h1 h2 => a.2.2 j h1 (Nat.le_trans h2 (Nat.le_of_lt b.1))⟩
theorem An.dlt {ds : List Int} {u k : Nat} (a : An ds u k) : dg ds u < dg ds k := a.2.2 k a.1 (Nat.le_refl _)
/-- u is straight above k -/
def Par (ds : List Int) (u k : Nat) : Prop := An ds u k ∧ dg ds u + 1 = dg ds k
/-- all above k: the one straight above, and all above that -/
theorem Par.all {ds : List Int} {u k : Nat} (p : Par ds u k) (w : Nat) : An ds w k ↔ w = u ∨ An ds w u := by
  constructor
  · intro a
    rcases Nat.lt_trichotomy w u with h | h | h
    · exact .inr (a.mid p.1 h)
    · exact .inl h
    · exfalso
      have h1 := (p.1.mid a h).dlt
      have h2 := a.dlt
      have h3 := p.2
      omega
  · rintro (rfl | a)
    · exact p.1
    · exact a.trans p.1
theorem Par.only {ds : List Int} {u w k : Nat} (p : Par ds u k) (q : Par ds w k) : w = u := by
  rcases (p.all w).mp q.1 with h | h
  · exact h
  · exfalso
    have h1 := h.dlt
    have h2 := p.2
    have h3 := q.2
    omega
/-- the uppers are right -/
def UpAt (ds : List Int) (k : Nat) : Option Int → Prop
  | some u => ∃ n : Nat, u = n ∧ Par ds n k
  | none => ∀ u, ¬ An ds u k
structure UpOk (ds : List Int) (us : List (Option Int)) : Prop where
  len : us.length = ds.length
  at_ : ∀ (k : Nat) (o : Option Int), us[k]? = some o → UpAt ds k o
/-- the line down to k -/
structure Line (ds : List Int) (k : Nat) (ln : List Int) : Prop where
  len : (ln.length : Int) = dg ds k
  at_ : ∀ (i : Nat) (m : Int), ln[i]? = some m → ∃ n : Nat, m = n ∧ dg ds n = (i : Int) + 1 ∧ (n = k ∨ An ds n k)
theorem Line.first {ds : List Int} (h : Dv ds) : Line ds 0 [0] := ⟨by rw [h.one]; rfl, fun i m e => by
  cases i with
  | zero => exact ⟨0, by simpa using e.symm, by rw [h.one]; rfl, .inl rfl⟩
  | succ i => simp at e⟩
theorem Line.next {ds : List Int} {k : Nat} {ln : List Int} (h : Dv ds) (l : Line ds k ln) (hk : k + 1 < ds.length) : Line ds (k + 1) (ln.take (dg ds (k + 1) - 1).toNat ++ [((k + 1 : Nat) : Int)]) := by
  have h2 := h.two k hk
  have hl := l.len
  refine ⟨?_, fun i m e => ?_⟩
  · rw [List.length_append, List.length_take, List.length_singleton]
    omega
  · by_cases c : i < (dg ds (k + 1) - 1).toNat
    · rw [List.getElem?_append_left (by rw [List.length_take]; omega), List.getElem?_take, if_pos c] at e
      obtain ⟨n, rfl, hd, hn⟩ := l.at_ i m e
      refine ⟨n, rfl, hd, .inr ⟨by rcases hn with rfl | a; omega; have := a.1; omega, hk, fun j h3 h4 => ?_⟩⟩
      by_cases cj : j = k + 1
      · rw [cj, hd]; omega
      · rcases hn with rfl | a
        · omega
        · exact a.2.2 j h3 (by omega)
    · have hlen : (ln.take (dg ds (k + 1) - 1).toNat).length = (dg ds (k + 1) - 1).toNat := by rw [List.length_take]; omega
      rw [List.getElem?_append_right (by omega), hlen] at e
      have hi : i - (dg ds (k + 1) - 1).toNat = 0 := by
        cases q : i - (dg ds (k + 1) - 1).toNat with
        | zero => rfl
        | succ z => rw [q] at e; simp at e
      rw [hi] at e
      exact ⟨k + 1, by simpa using e.symm, by omega, .inl rfl⟩
/-- its upper, read off the line -/
theorem Line.upper {ds : List Int} {k : Nat} {ln : List Int} {m : Int} (l : Line ds k ln) (hk : 1 < dg ds k) (hl : k < ds.length) (e : ln[(dg ds k - 2).toNat]? = some m) : UpAt ds k (some m) := by
  obtain ⟨n, rfl, hd, hn⟩ := l.at_ _ m e
  refine ⟨n, rfl, ?_, by omega⟩
  rcases hn with rfl | a
  · omega
  · exact a
theorem upAt_none {ds : List Int} {k : Nat} (h : Dv ds) (hk : ¬ 1 < dg ds k) : UpAt ds k none := fun u a => by
  have h1 := a.dlt
  have h2 := h.pos u (Nat.lt_trans a.1 a.2.1)
  omega
/-! ### ends -/
structure EndP (ds : List Int) (k e : Nat) : Prop where
  le : k ≤ e
  lt : e < ds.length
  in_ : ∀ j, k < j → j ≤ e → dg ds k < dg ds j
  out : e + 1 < ds.length → ¬ dg ds k < dg ds (e + 1)
theorem EndP.an {ds : List Int} {u e : Nat} (h : EndP ds u e) (k : Nat) : An ds u k ↔ u < k ∧ k ≤ e := by
  constructor
  · intro a
    refine ⟨a.1, ?_⟩
    rcases Nat.lt_or_ge e k with c | c
    · exact absurd (a.2.2 (e + 1) (by have := h.le; omega) (by omega)) (h.out (by have := a.2.1; omega))
    · exact c
  · rintro ⟨h1, h2⟩
    exact ⟨h1, Nat.lt_of_le_of_lt h2 h.lt, fun j a b => h.in_ j a (Nat.le_trans b h2)⟩
theorem EndP.only {ds : List Int} {u e f : Nat} (h : EndP ds u e) (g : EndP ds u f) : e = f := by
  rcases Nat.lt_trichotomy e f with c | c | c
  · exact absurd (g.in_ (e + 1) (by have := h.le; omega) (by omega)) (h.out (by have := g.lt; omega))
  · exact c
  · exact absurd (h.in_ (f + 1) (by have := g.le; omega) (by omega)) (g.out (by have := h.lt; omega))
theorem EndP.nest {ds : List Int} {u v e f : Nat} (h : EndP ds u e) (g : EndP ds v f) (c : u < v) (d : v ≤ e) : f ≤ e ∧ dg ds u < dg ds v := by
  have huv := h.in_ v c d
  refine ⟨?_, huv⟩
  rcases Nat.lt_or_ge e f with q | q
  · exfalso
    refine h.out (by have := g.lt; omega) (Int.lt_trans huv (g.in_ (e + 1) (by omega) (by omega)))
  · exact q
/-- the stretches of a tree -/
def IsS (ds : List Int) (x : S3) : Prop := ∃ k e : Nat, EndP ds k e ∧ x = ((k : Int), (e : Int), dg ds k)
theorem fam_of (ds : List Int) : Fam (IsS ds) := by
  refine ⟨?_, ?_⟩
  · rintro x ⟨k, e, h, rfl⟩
    have := h.le
    show (k : Int) ≤ e
    omega
  · rintro x y ⟨k, e, h, rfl⟩ ⟨l, f, g, rfl⟩ ⟨h1, h2⟩
    have h1 : (k : Int) < l := h1
    have h2 : (l : Int) ≤ e := h2
    have := h.nest g (by omega) (by omega)
    refine ⟨?_, this.2⟩
    show (f : Int) ≤ e
    omega
/-- beneath, by depths -/
def Bn (ds : List Int) (w : Bool) (u k : Nat) : Prop := An ds u k ∧ (w = true ∨ dg ds u + 1 = dg ds k)
theorem bn_s {ds : List Int} {w : Bool} {u k e f : Nat} (h : EndP ds u e) (g : EndP ds k f) : bn3 w ((u : Int), (e : Int), dg ds u) ((k : Int), (f : Int), dg ds k) ↔ Bn ds w u k := by
  unfold bn3 Bn sub3
  rw [h.an]
  show ((u : Int) < k ∧ (k : Int) ≤ e) ∧ _ ↔ _
  constructor
  · rintro ⟨⟨a, b⟩, c⟩
    exact ⟨⟨by omega, by omega⟩, c⟩
  · rintro ⟨⟨a, b⟩, c⟩
    exact ⟨⟨by omega, by omega⟩, c⟩
end Bg

namespace Bg
open PySem PySem.Spec PyProof.Rows L2
/-! ### all stands but two -/
def But2 (a b : Addr) (H H' : Hp) : Prop := ∀ c o, c ≠ a → c ≠ b → H c = some o → H' c = some o
theorem But2.refl (a b : Addr) (H : Hp) : But2 a b H H := fun _ _ _ _ h => h
theorem But2.trans {a b : Addr} {H H1 H2 : Hp} (x : But2 a b H H1) (y : But2 a b H1 H2) : But2 a b H H2 := fun c o n m h => y c o n m (x c o n m h)
theorem But2.of_same {a b : Addr} {H H' : Hp} (x : Same H H') : But2 a b H H' := fun c o _ _ h => x c o h
theorem But2.l {a b : Addr} {H H' : Hp} (x : But a H H') : But2 a b H H' := fun c o n _ h => x c o n h
theorem But2.r {a b : Addr} {H H' : Hp} (x : But b H H') : But2 a b H H' := fun c o _ n h => x c o n h
theorem same_of_but2 {a b : Addr} {H H1 H2 : Hp} (s : Same H H1) (n : H a = none) (m : H b = none) (x : But2 a b H1 H2) : Same H H2 := fun c o h => x c o (ne_of_none h n) (ne_of_none h m) (s c o h)
theorem TK.but2 {a b : Addr} {H H' : Hp} {xs : List V} {kv : List (Key × V)} (s : But2 a b H H') (h : H a = some (.lst xs)) (g : H b = some (.dK kv)) : TK H H' :=
  ⟨fun c ys hc => s c _ (ne_of hc h (by intro z; cases z)) (ne_of hc g (by intro z; cases z)) hc, fun c o ys hc => s c _ (ne_of hc h (by intro z; cases z)) (ne_of hc g (by intro z; cases z)) hc⟩
/-! ### last items -/
theorem paired_snoc_inv {α β : Type} {F : α → β → Prop} {b : β} : ∀ {l : List α} {m : List β}, Paired F l (m ++ [b]) → ∃ l' a, l = l' ++ [a] ∧ Paired F l' m ∧ F a b
  | [], [], h => nomatch h
  | [], _ :: _, h => nomatch h
  | a :: [], [], .cons h .nil => ⟨[], a, rfl, .nil, h⟩
  | _ :: _ :: _, [], .cons h t => nomatch t
  | a :: l, c :: m, .cons h t => by
    obtain ⟨l', x, e, p, q⟩ := paired_snoc_inv (l := l) (m := m) t
    exact ⟨a :: l', x, by rw [e]; rfl, .cons h p, q⟩
theorem last_get {α : Type} (l : List α) (a : α) : (l ++ [a])[(l ++ [a]).length - 1]? = some a := by simp
/-! ### a for over enumerate, two names -/
theorem for_enum {K : PySem.W.Frag} {a : Addr} {xs : List V} {i j : Nat} {tb : TS} {D : Ends} {σ : L2.St} {H : Hp} (Pv : Nat → L2.St → Hp → Prop) (h0 : Pv 0 σ H) (hl : ∀ n σ H, n ≤ xs.length → Pv n σ H → SqL K H a xs)
    (hs : ∀ n x T σ H, xs[n]? = some x → Pv n σ H → H T = none → tb { D with nx := Pv (n + 1), ct := Pv (n + 1), bk := D.nx } ((σ.set i (some (.int n))).set j (some x)) (upd H T (.tup [.int n, x]))) (hd : ∀ σ H, Pv xs.length σ H → D.nx σ H) :
    ∃ W : Nat → Nat → L2.St → Hp → Prop, (∃ m, W 0 m σ H) ∧ ∀ n m σ H, W n m σ H →
      ((Ite K a).stop n H ∧ D.nx σ H) ∨ ((Ite K a).go n H ∧ ∃ N : L2.St → Hp → Prop, (∀ σ' H', N σ' H' → ∃ m', m' < m ∧ W (n + 1) m' σ' H') ∧
        ∀ x H', (Ite K a).yld n H x H' → gTup K 2 (gCons (gName i) (gCons (gName j) gNil)) x σ H' fun σ2 H2 => tb { D with nx := N, ct := N, bk := D.nx } σ2 H2) :=
  for_it (walk_enum (K := K) (a := a) (xs := xs)) Pv h0 hl (fun n x σ H H' hn p y => by
    obtain ⟨T, u, v, rfl, hT, rfl, hu, hv⟩ := y
    cases Option.some.inj hu
    exact ⟨T, [.int n, v], rfl, SqT.of upd_same, rfl, _, _, rfl, _, _, rfl, rfl, hs n v T σ H hv p hT⟩) hd
/-! ### cuts -/
theorem cutV_to (xs : List V) (j : Int) (h : 0 ≤ j) : cutV xs none (some j) = xs.take j.toNat := by
  obtain ⟨n, rfl⟩ := Int.eq_ofNat_of_zero_le h
  unfold cutV
  rw [HT.sIx_none, HT.sIx_nat, Int.toNat_natCast, List.drop_zero, Nat.sub_zero]
  by_cases c : n ≤ xs.length
  · rw [Nat.min_eq_left c]
  · rw [Nat.min_eq_right (by omega), List.take_of_length_le (Nat.le_refl _), List.take_of_length_le (by omega)]
theorem cutV_from (xs : List V) (j : Int) (h : 0 ≤ j) : cutV xs (some j) none = xs.drop j.toNat := by
  obtain ⟨n, rfl⟩ := Int.eq_ofNat_of_zero_le h
  unfold cutV
  rw [HT.sIx_none, HT.sIx_nat, Int.toNat_natCast]
  by_cases c : n ≤ xs.length
  · rw [Nat.min_eq_left c, List.take_of_length_le (by rw [List.length_drop]; omega)]
  · rw [Nat.min_eq_right (by omega), List.drop_eq_nil_of_le (Nat.le_refl _), List.drop_eq_nil_of_le (by omega), List.take_nil]
/-! ### depths as they are drawn -/
def Dvp (ds : List Int) (ab : Int) : Prop := (ds = [] ∧ ab = 0) ∨ (ds ≠ [] ∧ Dv ds ∧ ab = dg ds (ds.length - 1))
theorem dg_app_l {ds es : List Int} {i : Nat} (h : i < ds.length) : dg (ds ++ es) i = dg ds i := by
  unfold dg
  rw [List.getD_eq_getElem?_getD, List.getD_eq_getElem?_getD, List.getElem?_append_left h]
theorem dg_app_r (ds : List Int) (d : Int) : dg (ds ++ [d]) ds.length = d := by
  unfold dg
  rw [List.getD_eq_getElem?_getD, List.getElem?_append_right (Nat.le_refl _)]
  simp
theorem Dvp.nil : Dvp [] 0 := .inl ⟨rfl, rfl⟩
theorem Dvp.nonneg {ds : List Int} {ab : Int} (h : Dvp ds ab) : 0 ≤ ab := by
  rcases h with ⟨_, rfl⟩ | ⟨hn, hd, rfl⟩
  · decide
  · have := hd.pos (ds.length - 1) (by have := List.length_pos_iff.mpr hn; omega)
    omega
theorem Dvp.zero {ds : List Int} {ab : Int} (h : Dvp ds ab) (e : ab = 0) : ds = [] := by
  rcases h with ⟨h, _⟩ | ⟨hn, hd, rfl⟩
  · exact h
  · have := hd.pos (ds.length - 1) (by have := List.length_pos_iff.mpr hn; omega)
    omega
theorem Dvp.snoc {ds : List Int} {ab d : Int} (h : Dvp ds ab) (h0 : ab = 0 → d = 1) (h1 : 0 < ab → 2 ≤ d ∧ d ≤ ab + 1) : Dvp (ds ++ [d]) d := by
  refine .inr ⟨by simp, ?_, by rw [List.length_append, List.length_singleton, Nat.add_sub_cancel, dg_app_r]⟩
  rcases h with ⟨rfl, e⟩ | ⟨hn, hd, e⟩
  · refine ⟨?_, fun i hi => by simp at hi⟩
    show d = 1
    exact h0 e
  · have hl := List.length_pos_iff.mpr hn
    refine ⟨by rw [dg_app_l hl]; exact hd.one, fun i hi => ?_⟩
    rw [List.length_append, List.length_singleton] at hi
    by_cases c : i + 1 < ds.length
    · rw [dg_app_l c, dg_app_l (by omega)]
      exact hd.two i c
    · have ei : i + 1 = ds.length := by omega
      rw [ei, dg_app_r, dg_app_l (by omega)]
      have hp := hd.pos (ds.length - 1) (by omega)
      have := h1 (by omega)
      rw [e, show ds.length - 1 = i by omega] at this
      exact this
theorem Dvp.dv {ds : List Int} {ab : Int} (h : Dvp ds ab) (hn : 1 ≤ ds.length) : Dv ds := by
  rcases h with ⟨rfl, _⟩ | ⟨_, hd, _⟩
  · simp at hn
  · exact hd
/-! ### dicts of pairs -/
def has2 (kv : List (List Key × V)) (u k : Int) : Prop := (valV kv [Sum.inl u, Sum.inl k]).isSome = true
def put2 (kv : List (List Key × V)) (u k : Int) : List (List Key × V) := putK kv [Sum.inl u, Sum.inl k] (.bl true)
theorem has2_put (kv : List (List Key × V)) (u k a b : Int) : has2 (put2 kv a b) u k ↔ (u = a ∧ k = b) ∨ has2 kv u k := by
  unfold has2 put2
  rw [valV_put]
  by_cases e : u = a ∧ k = b
  · obtain ⟨rfl, rfl⟩ := e; simp
  · have : ¬ ([Sum.inl u, Sum.inl k] : List Key) = [Sum.inl a, Sum.inl b] := fun z => e (by
      injection z with z1 z2
      injection z2 with z3 _
      exact ⟨Sum.inl.inj z1, Sum.inl.inj z3⟩)
    rw [if_neg this]
    simp [e]
theorem put2_len (kv : List (List Key × V)) (u k : Int) : (put2 kv u k).length ≤ kv.length + 1 := by
  unfold put2 putK
  split <;> simp
theorem has2_nil (u k : Int) : ¬ has2 [] u k := by
  unfold has2
  simp [valV]
/-- the pairs of a tree, the second below n -/
def Prs (ds : List Int) (w : Bool) (n : Nat) (kv : List (List Key × V)) : Prop := ∀ u k : Int, has2 kv u k ↔ ∃ a b : Nat, u = a ∧ k = b ∧ b < n ∧ Bn ds w a b
def om : Option Int → Nat
  | none => 0
  | some h => h.toNat + 1
/-- walked up to o -/
def Dn (a : Nat) : Option Int → Prop
  | none => True
  | some h => h < a
structure PWalk (ds : List Int) (w : Bool) (i : Nat) (o : Option Int) (kv : List (List Key × V)) : Prop where
  at_ : ∀ h, o = some h → ∃ n : Nat, h = n ∧ Bn ds w n i
  all : ∀ u k : Int, has2 kv u k ↔ (∃ a b : Nat, u = a ∧ k = b ∧ b < i ∧ Bn ds w a b) ∨ (∃ a : Nat, u = a ∧ k = i ∧ Bn ds w a i ∧ Dn a o)
theorem PWalk.start {ds : List Int} {w : Bool} {i : Nat} {o : Option Int} {kv : List (List Key × V)} (h : Prs ds w i kv) (u : UpAt ds i o) : PWalk ds w i o kv := by
  cases o with
  | none => exact ⟨fun _ q => (nomatch q), fun a b => by
      rw [h a b]
      constructor
      · exact .inl
      · rintro (q | ⟨c, _, _, q, _⟩)
        · exact q
        · exact absurd q.1 (u c)⟩
  | some m =>
    obtain ⟨n, rfl, p⟩ := u
    refine ⟨fun _ q => ⟨n, (Option.some.inj q).symm, p.1, .inr p.2⟩, fun a b => ?_⟩
    rw [h a b]
    constructor
    · exact .inl
    · rintro (q | ⟨c, _, _, q, d⟩)
      · exact q
      · have d : (n : Int) < c := d
        rcases (p.all c).mp q.1 with e | e
        · omega
        · have := e.1
          omega
theorem PWalk.end_ {ds : List Int} {w : Bool} {i : Nat} {kv : List (List Key × V)} (h : PWalk ds w i none kv) : Prs ds w (i + 1) kv := by
  intro a b
  rw [h.all a b]
  constructor
  · rintro (⟨x, y, e1, e2, l, q⟩ | ⟨x, e1, e2, q, _⟩)
    · exact ⟨x, y, e1, e2, by omega, q⟩
    · exact ⟨x, i, e1, e2, by omega, q⟩
  · rintro ⟨x, y, e1, e2, l, q⟩
    by_cases c : y < i
    · exact .inl ⟨x, y, e1, e2, c, q⟩
    · have : y = i := by omega
      subst this
      exact .inr ⟨x, e1, e2, q, trivial⟩
theorem PWalk.step {ds : List Int} {w : Bool} {i : Nat} {n : Nat} {o : Option Int} {kv : List (List Key × V)} (h : PWalk ds w i (some (n : Int)) kv) (ho : w = true → UpAt ds n o) (hs : w = false → o = none) : PWalk ds w i o (put2 kv n i) := by
  obtain ⟨n', en, bn⟩ := h.at_ _ rfl
  have en : n = n' := by omega
  subst en
  refine ⟨fun m e => ?_, fun a b => ?_⟩
  · cases w with
    | false => rw [hs rfl] at e; cases e
    | true =>
      subst e
      obtain ⟨x, rfl, p⟩ := ho rfl
      exact ⟨x, rfl, p.1.trans bn.1, .inl rfl⟩
  · rw [has2_put, h.all a b]
    have key : ∀ c : Nat, Bn ds w c i → (Dn c o ↔ c = n ∨ (n : Int) < c) := by
      intro c q
      cases w with
      | false =>
        rw [hs rfl]
        have p1 : Par ds c i := ⟨q.1, by simpa using q.2⟩
        have p2 : Par ds n i := ⟨bn.1, by simpa using bn.2⟩
        simp [Dn, p2.only p1]
      | true =>
        have hu := ho rfl
        rcases Nat.lt_trichotomy c n with l | l | l
        · have acn : An ds c n := q.1.mid bn.1 l
          cases o with
          | none => exact absurd acn (hu c)
          | some m =>
            obtain ⟨x, rfl, p⟩ := hu
            show (x : Int) < c ↔ _
            rcases (p.all c).mp acn with e | e
            · omega
            · have := e.1; omega
        · subst l
          cases o with
          | none => simp [Dn]
          | some m =>
            obtain ⟨x, rfl, p⟩ := hu
            have := p.1.1
            show (x : Int) < c ↔ _
            omega
        · cases o with
          | none => simp [Dn]; omega
          | some m =>
            obtain ⟨x, rfl, p⟩ := hu
            have := p.1.1
            show (x : Int) < c ↔ _
            omega
    constructor
    · rintro (⟨rfl, rfl⟩ | q | ⟨x, e1, e2, q, d⟩)
      · exact .inr ⟨n, rfl, rfl, bn, (key n bn).mpr (.inl rfl)⟩
      · exact .inl q
      · exact .inr ⟨x, e1, e2, q, (key x q).mpr (.inr d)⟩
    · rintro (q | ⟨x, e1, e2, q, d⟩)
      · exact .inr (.inl q)
      · rcases (key x q).mp d with e | e
        · subst e
          exact .inl ⟨e1, e2⟩
        · exact .inr (.inr ⟨x, e1, e2, q, e⟩)
/-! ### a chain -/
def chain80 (n : Nat) : List Int := (List.range n).map fun (k : Nat) => if (80 : Int) < (k : Int) + 1 then 80 else (k : Int) + 1
theorem chain80_len (n : Nat) : (chain80 n).length = n := by simp [chain80]
theorem chain80_snoc (n : Nat) : chain80 (n + 1) = chain80 n ++ [if (80 : Int) < (n : Int) + 1 then 80 else (n : Int) + 1] := by
  unfold chain80
  rw [List.range_succ, List.map_append]
  rfl
theorem chain80_dg (n i : Nat) (h : i < n) : dg (chain80 n) i = if (80 : Int) < (i : Int) + 1 then 80 else (i : Int) + 1 := by
  refine dg_of ?_
  unfold chain80
  rw [List.getElem?_map, List.getElem?_range h]
  rfl
theorem chain80_dv (n : Nat) (h : 1 ≤ n) : Dv (chain80 n) := by
  refine ⟨by rw [chain80_dg n 0 h]; rfl, fun i hi => ?_⟩
  rw [chain80_len] at hi
  rw [chain80_dg n (i + 1) hi, chain80_dg n i (by omega)]
  constructor <;> split <;> (try split) <;> omega
/-! ### all stretches of a tree -/
structure AllS (ds : List Int) (ss : List S3) : Prop where
  len : ss.length = ds.length
  at_ : ∀ (k : Nat) (x : S3), ss[k]? = some x → ∃ e, EndP ds k e ∧ x = ((k : Int), (e : Int), dg ds k)
theorem AllS.isS {ds : List Int} {ss : List S3} (h : AllS ds ss) : ∀ x ∈ ss, IsS ds x := fun x hx => by
  obtain ⟨k, hk⟩ := List.getElem?_of_mem hx
  obtain ⟨e, he, rfl⟩ := h.at_ k x hk
  exact ⟨k, e, he, rfl⟩
theorem AllS.srt {ds : List Int} {ss : List S3} (h : AllS ds ss) : Srt ss := by
  unfold Srt
  rw [List.pairwise_iff_getElem]
  intro i j hi hj hij
  obtain ⟨e, _, h1⟩ := h.at_ i _ (List.getElem?_eq_getElem hi)
  obtain ⟨f, _, h2⟩ := h.at_ j _ (List.getElem?_eq_getElem hj)
  rw [h1, h2]
  show (i : Int) < j
  omega
theorem isS_nonneg {ds : List Int} {x : S3} (h : IsS ds x) : 0 ≤ x.1 := by
  obtain ⟨k, e, _, rfl⟩ := h
  show (0 : Int) ≤ k
  omega
theorem prs_bn {ds : List Int} {w : Bool} {kv : List (List Key × V)} (h : Prs ds w ds.length kv) {u l : S3} (hu : IsS ds u) (hl : IsS ds l) : has2 kv u.1 l.1 ↔ bn3 w u l := by
  obtain ⟨a, e, he, rfl⟩ := hu
  obtain ⟨b, f, hf, rfl⟩ := hl
  rw [h, bn_s he hf]
  constructor
  · rintro ⟨x, y, e1, e2, _, q⟩
    have e1 : (a : Int) = x := e1
    have e2 : (b : Int) = y := e2
    have : a = x := by omega
    have : b = y := by omega
    subst_vars
    exact q
  · intro q
    exact ⟨a, b, rfl, rfl, q.1.2.1, q⟩
theorem any_isEmpty {α : Type} (p : α → Bool) (l : List α) : (l.filter p).isEmpty = !l.any p := by
  induction l with
  | nil => rfl
  | cons a l ih =>
    rw [List.filter_cons, List.any_cons]
    cases h : p a with
    | true => rfl
    | false => simpa using ih
/-! ### the fields of Open -/
def opF (w : Str) (sl hd : Addr) : List (Str × V) := [("link", .str w), ("stack", .ref sl), ("having", .ref hd)]
theorem opF_link (w : Str) (sl hd : Addr) : (opF w sl hd).lookup ("link" : Str) = some (.str w) := rfl
theorem opF_stack (w : Str) (sl hd : Addr) : (opF w sl hd).lookup ("stack" : Str) = some (.ref sl) := rfl
theorem opF_having (w : Str) (sl hd : Addr) : (opF w sl hd).lookup ("having" : Str) = some (.ref hd) := rfl
theorem opF_put (w : Str) (sl hd : Addr) : putF "having" (.ref hd) (putF "stack" (.ref sl) (putF "link" (.str w) [])) = opF w sl hd := rfl
end Bg

namespace Lw
open PySem PySem.Spec PyProof.Rows L2 Bg
def top (i : Nat) : Stmt := PySem.Challenge.pw_boughask_k31_lists_joined.main.body.getD i (.Pass ⟨0, 0, 0, 0⟩)
local macro_rules | `(tactic| walk_at "pos") => `(tactic| (show (0 : Int) < _; decide))

abbrev st_law_source : Stmt := (top 7)
abbrev st_law_take : Stmt := (top 8)
abbrev st_law_depth : Stmt := (top 9)
abbrev st_law_rows : Stmt := (top 10)
abbrev st_law_depths : Stmt := (top 14)
abbrev st_law_stretches : Stmt := (top 13)
abbrev st_law_some : Stmt := (top 15)
abbrev st_law_uppers : Stmt := (top 11)
abbrev st_law_due : Stmt := (top 16)
abbrev st_Open_init : Stmt := (inClass (top 3) 0)
abbrev st_Open_close : Stmt := (inClass (top 3) 1)
abbrev st_Open_meet : Stmt := (inClass (top 3) 2)
abbrev st_with_lower : Stmt := (top 4)
abbrev st_closed : Stmt := (top 1)
abbrev st_with_upper : Stmt := (top 2)
abbrev st_law_right : Stmt := (top 17)
abbrev st_law_beneath : Stmt := (top 12)
abbrev st_law_good : Stmt := (top 18)
abbrev st_law_cell_at : Stmt := (top 6)
abbrev st_law : Stmt := (top 19)
def sp_law_source (K : PySem.W.Frag) : Sp := fun vs H Q _ => ∃ (c : Int), vs = [.int c] ∧ ∀ p H', H p = none → Same H H' → Src H' p → Q (.ref p) H'
def sp_law_take (K : PySem.W.Frag) : Sp := fun vs H Q _ => ∃ (a : Addr) (m n s t : Int), vs = [.ref a, .int m] ∧ H a = some (.dK (srcD n s t)) ∧ 0 < m ∧ m < 1073741824 ∧ ∀ r H', 0 ≤ r → r < m → But a H H' → Src H' a → Q (.int r) H'
def sp_law_depth (K : PySem.W.Frag) : Sp := fun vs H Q _ => ∃ (a : Addr) (sh ab : Int), vs = [.ref a, .int sh, .int ab] ∧ Src H a ∧ 0 ≤ ab ∧ ab ≤ 100000 ∧ ∀ r H', But a H H' → Src H' a → (ab = 0 → r = 1) → (0 < ab → 2 ≤ r ∧ r ≤ ab + 1) → Q (.int r) H'
def sp_law_rows (K : PySem.W.Frag) : Sp := fun vs H Q _ => ∃ (a la : Addr) (most deep : Int) (labels : List Str), vs = [.ref a, .ref la, .int most, .int deep] ∧ Src H a ∧ SqL K H la (labels.map V.str) ∧ 1 ≤ labels.length ∧ labels.length ≤ 1000 ∧ 0 < most ∧ most ≤ 1000 ∧ 2 ≤ deep ∧ deep ≤ 1000 ∧
  ∀ H' p vs' rows, But a H H' → Src H' a → H p = none → H' p = some (.lst vs') → PL K H' eRow vs' rows → (rows.length : Int) ≤ most → 1 ≤ rows.length → (∀ r ∈ rows, r.1 ∈ labels) → Dv (rows.map (·.2)) → (∀ r ∈ rows, r.2 ≤ deep) → Q (.ref p) H'
def sp_law_depths (K : PySem.W.Frag) : Sp := fun vs H Q _ => ∃ (a : Addr), vs = [.ref a] ∧ Src H a ∧ ∀ H' p ds, But a H H' → Src H' a → H p = none → H' p = some (.lst (ds.map V.int)) → Dv ds → ds.length ≤ 100 → 1 ≤ ds.length → Q (.ref p) H'
def sp_law_stretches (K : PySem.W.Frag) : Sp := fun vs H Q _ => ∃ (l : Addr) (ds : List Int), vs = [.ref l] ∧ SqL K H l (ds.map V.int) ∧ ds.length ≤ 1000 ∧ ∀ H' p vs' ss, Same H H' → H p = none → H' p = some (.lst vs') → PL K H' eS3 vs' ss → AllS ds ss → Q (.ref p) H'
def sp_law_some (K : PySem.W.Frag) : Sp := fun vs H Q _ => ∃ (a l : Addr) (vs0 : List V) (ss : List S3), vs = [.ref a, .ref l] ∧ Src H a ∧ SqL K H l vs0 ∧ PL K H eS3 vs0 ss ∧ ss.length ≤ 1000 ∧ ∀ H' p vs' zs, But a H H' → Src H' a → H p = none → H' p = some (.lst vs') → PL K H' eS3 vs' zs → zs.Sublist ss → Q (.ref p) H'
def sp_law_uppers (K : PySem.W.Frag) : Sp := fun vs H Q _ => ∃ (l : Addr) (ds : List Int), vs = [.ref l] ∧ SqL K H l (ds.map V.int) ∧ Dv ds ∧ ds.length ≤ 1000 ∧ ∀ H' p us, Same H H' → H p = none → H' p = some (.lst (us.map vOpt)) → UpOk ds us → Q (.ref p) H'
def sp_law_due (K : PySem.W.Frag) : Sp := fun vs H Q _ => ∃ (d ua la : Addr) (kv : List (List Key × V)) (w : Bool) (uv lv : List V) (us ls : List S3), vs = [.ref d, .ref ua, .ref la] ∧ H d = some (.dT kv) ∧ SqL K H ua uv ∧ PL K H eS3 uv us ∧ SqL K H la lv ∧ PL K H eS3 lv ls ∧ us.length ≤ 1000 ∧ ls.length ≤ 1000 ∧ (∀ u ∈ us, ∀ l ∈ ls, has2 kv u.1 l.1 ↔ bn3 w u l) ∧
  ∀ H' t, Same H H' → Dp K H' (.ref t) (.tuple [.list ((us.filter (loB w ls)).map eS3), .list ((ls.filter (upB w us)).map eS3)]) → Q (.ref t) H'
def sp_Open_init (K : PySem.W.Frag) : Sp := fun vs H Q _ => ∃ (o dx : Addr) (w : Str), vs = [.ref o, .str w] ∧ H o = some (.ins (He.ga K "Open") dx []) ∧ ∀ H' sl hd, H sl = none → H hd = none → sl ≠ hd → But o H H' → H' o = some (.ins (He.ga K "Open") dx (opF w sl hd)) → H' sl = some (.lst []) → H' hd = some (.dK []) → Q .non H'
def sp_Open_close (K : PySem.W.Frag) : Sp := fun vs H Q _ => ∃ (o dx sl hd : Addr) (w : Str) (b : Int) (ws : List V) (rs : List S3) (kv : List (Key × V)), vs = [.ref o, .int b] ∧ H o = some (.ins (He.ga K "Open") dx (opF w sl hd)) ∧ H sl = some (.lst ws) ∧ PL K H eS3 ws rs.reverse ∧ H hd = some (.dK kv) ∧ kv.length + rs.length ≤ 100000 ∧
  ∀ H' ws', But2 sl hd H H' → H' sl = some (.lst ws') → PL K H' eS3 ws' (clo (decide (w = "//")) b rs kv).1.reverse → H' hd = some (.dK (clo (decide (w = "//")) b rs kv).2) → Q .non H'
def sp_Open_meet (K : PySem.W.Frag) : Sp := fun vs H Q _ => ∃ (o dx sl hd t : Addr) (w : Str) (l : S3) (ws : List V) (rs : List S3) (kv : List (Key × V)), vs = [.ref o, .ref t] ∧ SqT K H t [.int l.1, .int l.2.1, .int l.2.2] ∧ H o = some (.ins (He.ga K "Open") dx (opF w sl hd)) ∧ H sl = some (.lst ws) ∧ PL K H eS3 ws rs.reverse ∧ H hd = some (.dK kv) ∧ kv.length + rs.length ≤ 90000 ∧
  ∀ H' ws', But2 sl hd H H' → H' sl = some (.lst ws') → PL K H' eS3 ws' (clo (decide (w = "//")) l.1 rs kv).1.reverse → H' hd = some (.dK (mark (decide (w = "//")) l (clo (decide (w = "//")) l.1 rs kv).1 (clo (decide (w = "//")) l.1 rs kv).2)) → Q .non H'
def sp_with_lower (K : PySem.W.Frag) : Sp := fun vs H Q _ => ∃ (la ua : Addr) (w : Str) (A : S3 → Prop) (ls us : List S3) (lv uv : List V), vs = [.ref ua, .ref la, .str w] ∧ SqL K H la lv ∧ PL K H eS3 lv ls ∧ SqL K H ua uv ∧ PL K H eS3 uv us ∧ Fam A ∧ (∀ x ∈ ls, A x) ∧ (∀ x ∈ us, A x) ∧ Srt ls ∧ Srt us ∧ (∀ x ∈ ls, 0 ≤ x.1) ∧ (∀ x ∈ us, 0 ≤ x.1) ∧ ls.length ≤ 1000 ∧ us.length ≤ 1000 ∧
  ∀ H' p vs', Same H H' → H p = none → H' p = some (.lst vs') → PL K H' eS3 vs' (us.filter (loB (decide (w = "//")) ls)) → Q (.ref p) H'
def sp_closed (K : PySem.W.Frag) : Sp := fun vs H Q _ => ∃ (l : Addr) (b : Int) (ws : List V) (rs : List S3), vs = [.ref l, .int b] ∧ H l = some (.lst ws) ∧ PL K H eS3 ws rs.reverse ∧ rs.length ≤ 100000 ∧ ∀ H' ws', But l H H' → H' l = some (.lst ws') → PL K H' eS3 ws' (rs.dropWhile (fun x => decide (x.2.1 < b))).reverse → Q .non H'
def sp_with_upper (K : PySem.W.Frag) : Sp := fun vs H Q _ => ∃ (la ua : Addr) (w : Str) (A : S3 → Prop) (ls us : List S3) (lv uv : List V), vs = [.ref la, .ref ua, .str w] ∧ SqL K H la lv ∧ PL K H eS3 lv ls ∧ SqL K H ua uv ∧ PL K H eS3 uv us ∧ Fam A ∧ (∀ x ∈ ls, A x) ∧ (∀ x ∈ us, A x) ∧ Srt ls ∧ Srt us ∧ (∀ x ∈ ls, 0 ≤ x.1) ∧ (∀ x ∈ us, 0 ≤ x.1) ∧ ls.length ≤ 1000 ∧ us.length ≤ 1000 ∧
  ∀ H' p vs', Same H H' → H p = none → H' p = some (.lst vs') → PL K H' eS3 vs' (ls.filter (upB (decide (w = "//")) us)) → Q (.ref p) H'
def sp_law_right (K : PySem.W.Frag) : Sp := fun vs H Q _ => ∃ (d ua la : Addr) (kv : List (List Key × V)) (w : Str) (A : S3 → Prop) (uv lv : List V) (us ls : List S3), vs = [.ref ua, .ref la, .str w, .ref d] ∧ H d = some (.dT kv) ∧ SqL K H ua uv ∧ PL K H eS3 uv us ∧ SqL K H la lv ∧ PL K H eS3 lv ls ∧ us.length ≤ 1000 ∧ ls.length ≤ 1000 ∧ (∀ u ∈ us, ∀ l ∈ ls, has2 kv u.1 l.1 ↔ bn3 (decide (w = "//")) u l) ∧
  Fam A ∧ (∀ x ∈ ls, A x) ∧ (∀ x ∈ us, A x) ∧ Srt ls ∧ Srt us ∧ (∀ x ∈ ls, 0 ≤ x.1) ∧ (∀ x ∈ us, 0 ≤ x.1) ∧ ∀ H', Same H H' → Q (.bl true) H'
def sp_law_beneath (K : PySem.W.Frag) : Sp := fun vs H Q _ => ∃ (l : Addr) (w : Str) (ds : List Int) (us : List (Option Int)), vs = [.ref l, .str w] ∧ (w = "/" ∨ w = "//") ∧ SqL K H l (us.map vOpt) ∧ UpOk ds us ∧ ds.length ≤ 1000 ∧ ∀ H' p kv, Same H H' → H p = none → H' p = some (.dT kv) → Prs ds (decide (w = "//")) ds.length kv → Q (.ref p) H'
def sp_law_good (K : PySem.W.Frag) : Sp := fun vs H Q _ => ∃ (c : Int), vs = [.int c] ∧ ∀ H', Same H H' → Q (.bl true) H'
def sp_law_cell_at (K : PySem.W.Frag) : Sp := fun vs H Q _ => ∃ (a : Addr) (ns : List Int) (k : Int), vs = [.ref a, .int k] ∧ SqL K H a (ns.map V.int) ∧ ns.length ≤ 63 ∧ 0 ≤ k ∧ ∀ c, Q (.int c) H
def sp_law (K : PySem.W.Frag) : Sp := fun vs H Q _ => ∃ (a : Addr) (ns : List Int), vs = [.ref a] ∧ SqL K H a (ns.map V.int) ∧ ns.length ≤ 63 ∧ ∀ H', Q (.bl true) H'
structure Txt (K : PySem.W.Frag) (mg : Str → Option Value) : Prop where
  free_max : mg "max" = none
  free_int : mg "int" = none
  free_min : mg "min" = none
  free_range : mg "range" = none
  free_len : mg "len" = none
  free_list : mg "list" = none
  free_enumerate : mg "enumerate" = none
  free_isinstance : mg "isinstance" = none
  cl_Open : Cls K (He.ga K "Open")
  na_Open_link : NoAttr K (He.ga K "Open") "link"
  na_Open_stack : NoAttr K (He.ga K "Open") "stack"
  na_Open_having : NoAttr K (He.ga K "Open") "having"
section
variable {P : Program} {w : World} {K : PySem.W.Frag} {mg : Str → Option Value} {base : Heap}
theorem sc_law_source : FnScope ["_law_cell"] ["_law_cell"] (defScope st_law_source) := ⟨rfl, rfl, rfl, by decide +kernel, rfl, by decide +kernel, by decide +kernel⟩
theorem ok_law_source {f : Addr} {fd : FuncData} (T : Txt K mg) (F : FnP K "_law_source" "_law_source" st_law_source f fd)  : FnOk P w K mg base CX0 1 f fd ["_law_cell"] (sp_law_source K) := by
  refine F.ok sc_law_source (fun vs H Q E h => ?_) (fun cdv A outer s H vs Q E hr h => ?_)
  · obtain ⟨c, rfl, _⟩ := h
    rfl
  · obtain ⟨c, rfl, k⟩ := h
    refine ⟨_, PSs.nox (pss_one (ps_ret (pe_disp (pps_cons pe_str (pe_op op_mul (pe_callB (call_max2 rfl) rfl T.free_max (by decide +kernel) (pa_cons pe_int (pa_cons (pv 0) pa_nil))) (pe_callTy call_int1 rfl T.free_int (by decide +kernel) (pa_cons (pe_cmpR op_ge (pv 0) (pe_op op_pow pe_int pe_int) (nomark _)) pa_nil))) (pps_cons pe_str (pe_op op_mod (pv 0) pe_int) (pps_cons pe_str pe_int pps_nil))) (by rfl) (by rfl) (fun z => by cases z) (by decide)))), ?_⟩
    intro p hp
    refine ⟨_, rfl, _, _, rfl, _, rfl, _, _, rfl, rfl, ⟨by decide, by decide, by decide⟩, _, _, rfl, rfl, .inr ⟨_, rfl, ?_⟩⟩
    refine ⟨_, _, rfl, rfl, .inr ?_, _, rfl, _, _, rfl, rfl, by walk_at "pos", upd_same, [(Sum.inr "number", _), (Sum.inr "seed", _), (Sum.inr "turn", _)], rfl, (by show 3 ≤ 15; decide), ?_⟩
    · split <;> decide
    · exact k p _ hp ((Same.new hp).mut hp) src_at
theorem sc_law_take : FnScope ["_law_source_here", "_law_many", "_law_digit", "_law_number"] ["_law_source_here", "_law_many"] (defScope st_law_take) := ⟨rfl, rfl, rfl, by decide +kernel, rfl, by decide +kernel, by decide +kernel⟩
theorem ok_law_take {f : Addr} {fd : FuncData} (T : Txt K mg) (F : FnP K "_law_take" "_law_take" st_law_take f fd)  : FnOk P w K mg base CX0 1 f fd ["_law_source_here", "_law_many"] (sp_law_take K) := by
  refine F.ok sc_law_take (fun vs H Q E h => ?_) (fun cdv A outer s H vs Q E hr h => ?_)
  · obtain ⟨a, m, n, s, t, rfl, _⟩ := h
    rfl
  · obtain ⟨a, m, n, s, t, rfl, hS, hm, hm2, k⟩ := h
    refine ⟨_, PSs.nox (pss_cons (ps_if (pt_cmpR op_gt (pe_dget (hu_of hr) (pv 0) pe_str (fun _ _ => rfl)) pe_int (nomark _))
      (pss_cons (ps_set (i := 2) sc_law_take.nd rfl (Or.inl rfl) (pe_op op_mod (pe_dget (hu_of hr) (pv 0) pe_str (fun _ _ => rfl)) (pv 1)))
      (pss_cons (ps_dput (hu_of hr) (pv 0) pe_str (pe_op op_fdiv (pe_dget (hu_of hr) (pv 0) pe_str (fun _ _ => rfl)) (pv 1)) rfl)
      (pss_one (ps_ret (pv 2)))))
      pss_nil)
      (pss_cons (ps_dput (hu_of hr) (pv 0) pe_str (pe_op op_add (pe_dget (hu_of hr) (pv 0) pe_str (fun _ _ => rfl)) pe_int) rfl)
      (pss_cons (ps_set (i := 3) sc_law_take.nd rfl (Or.inl rfl) (pe_op op_mod (pe_op op_mul (pe_op op_add (pe_dget (hu_of hr) (pv 0) pe_str (fun _ _ => rfl)) (pe_op op_mul pe_int (pe_dget (hu_of hr) (pv 0) pe_str (fun _ _ => rfl)))) pe_int) pe_int))
      (pss_cons (ps_set (i := 3) sc_law_take.nd rfl (Or.inl rfl) (pe_op op_mod (pe_op op_mul (pv 3) (pv 3)) pe_int))
      (pss_one (ps_ret (pe_op op_mod (pe_op op_fdiv (pe_op op_mod (pe_op op_mul (pe_op op_add (pv 3) (pe_dget (hu_of hr) (pv 0) pe_str (fun _ _ => rfl))) (pe_op op_add (pv 3) pe_int)) pe_int) pe_int) (pv 1)))))))), ?_⟩
    refine ⟨_, rfl, _, _, rfl, src_get_n hS, _, _, rfl, rfl, _, rfl, ?_⟩
    refine ite2 (fun c => ?_) (fun c => ?_)
    · refine ⟨_, rfl, _, _, rfl, src_get_n hS, _, rfl, _, _, rfl, rfl, hm, ?_⟩
      refine ⟨_, rfl, _, _, rfl, src_get_n hS, _, rfl, _, _, rfl, rfl, ⟨hm, hm2⟩, _, rfl, _, _, rfl, src_put_n hS, ?_⟩
      refine ⟨_, rfl, k _ _ (Int.emod_nonneg _ (by omega)) (Int.emod_lt_of_pos _ hm) But.upd ⟨_, _, _, upd_same⟩⟩
    · refine ⟨_, rfl, _, _, rfl, src_get_t hS, _, _, rfl, rfl, _, rfl, _, _, rfl, src_put_t hS, ?_⟩
      refine ⟨_, rfl, _, _, rfl, src_get_s upd_same, _, rfl, _, _, rfl, src_get_t upd_same, _, _, rfl, rfl, .inl ⟨by decide, by decide⟩, _, _, rfl, rfl, _, _, rfl, rfl, .inr ⟨by decide, by decide⟩, _, _, rfl, rfl, by walk_at "pos", ?_⟩
      have b1 := Int.emod_nonneg ((s + 7919 * (t + 1)) * 48271) (show (2147483647 : Int) ≠ 0 by decide)
      have b2 := Int.emod_lt_of_pos ((s + 7919 * (t + 1)) * 48271) (show (0 : Int) < 2147483647 by decide)
      generalize ((s + 7919 * (t + 1)) * 48271) % 2147483647 = x1 at b1 b2 ⊢
      refine ⟨_, rfl, _, rfl, _, _, rfl, rfl, .inl ⟨by omega, by omega⟩, _, _, rfl, rfl, by walk_at "pos", ?_⟩
      have d1 := Int.emod_nonneg (x1 * x1) (show (2147483629 : Int) ≠ 0 by decide)
      have d2 := Int.emod_lt_of_pos (x1 * x1) (show (0 : Int) < 2147483629 by decide)
      generalize (x1 * x1) % 2147483629 = x2 at d1 d2 ⊢
      refine ⟨_, rfl, _, rfl, _, _, rfl, src_get_t upd_same, _, _, rfl, rfl, _, rfl, _, _, rfl, rfl, _, _, rfl, rfl, .inr ⟨by omega, by omega⟩, _, _, rfl, rfl, by walk_at "pos", _, _, rfl, rfl, ⟨by decide, by decide⟩, _, rfl, _, _, rfl, rfl, hm, ?_⟩
      exact k _ _ (Int.emod_nonneg _ (by omega)) (Int.emod_lt_of_pos _ hm) But.upd ⟨_, _, _, upd_same⟩
theorem sc_law_depth : FnScope ["_law_source_here", "_law_shape", "_law_above"] ["_law_source_here", "_law_shape", "_law_above"] (defScope st_law_depth) := ⟨rfl, rfl, rfl, by decide +kernel, rfl, by decide +kernel, by decide +kernel⟩
theorem ok_law_depth {f : Addr} {fd : FuncData} (T : Txt K mg) (F : FnP K "_law_depth" "_law_depth" st_law_depth f fd) (G_law_take : Fn P w K mg base CX0 1 "_law_take" ["_law_source_here", "_law_many"] (sp_law_take K)) : FnOk P w K mg base CX0 2 f fd ["_law_source_here", "_law_shape", "_law_above"] (sp_law_depth K) := by
  refine F.ok sc_law_depth (fun vs H Q E h => ?_) (fun cdv A outer s H vs Q E hr h => ?_)
  · obtain ⟨a, sh, ab, rfl, _⟩ := h
    rfl
  · obtain ⟨a, sh, ab, rfl, ⟨n, s, t, hS⟩, h0, h1, k⟩ := h
    refine ⟨_, PSs.nox (pss_cons (ps_if (PW.pt (pw_or (pt_cmpR op_eq (pv 2) pe_int (nomark _)) (pw_or1 (PW.pt (pw_and (pt_cmpR op_lt (pv 1) pe_int (nomark _)) (pw_and1 (pt_cmpR op_gt (pe_callF G_law_take (hr.mono (by decide)) pass0 (pa_cons (pv 0) (pa_cons pe_int pa_nil))) (pv 1) (nomark _))))))))
      (pss_one (ps_ret (pe_op op_add (pv 2) pe_int)))
      pss_nil)
      (pss_one (ps_ret (pe_callB (call_min2 rfl) rfl T.free_min (by decide +kernel) (pa_cons (pe_op op_add (pv 2) pe_int) (pa_cons (pe_op op_add pe_int (pe_callF G_law_take (hr.mono (by decide)) pass0 (pa_cons (pv 0) (pa_cons (pe_callB (call_max2 rfl) rfl T.free_max (by decide +kernel) (pa_cons pe_int (pa_cons (pv 2) pa_nil))) pa_nil)))) pa_nil)))))), ?_⟩
    refine ⟨_, rfl, rfl, _, rfl, ?_⟩
    refine ite2 (fun c => ?_) (fun c => ?_)
    · have c : ab = 0 := by have := of_decide_eq_true c; injection this
      refine iteT ⟨_, rfl, _, _, rfl, rfl, k _ _ (But.refl _ _) ⟨_, _, _, hS⟩ (fun z => by rw [z]; rfl) (fun z => by omega)⟩
    · have c : ¬ ab = 0 := fun z => c (decide_eq_true (by rw [z]))
      refine ⟨_, rfl, _, _, rfl, rfl, _, rfl, ?_⟩
      refine ite2 (fun c2 => ?_) (fun c2 => ?_)
      · refine ⟨_, rfl, a, 4, n, s, t, rfl, hS, by decide, by decide, fun r H1 r0 r1 b1 s1 => ⟨_, rfl, _, _, rfl, rfl, _, rfl, ?_⟩⟩
        refine ite2 (fun c3 => ?_) (fun c3 => ?_)
        · exact ⟨_, rfl, _, _, rfl, rfl, k _ _ b1 s1 (fun z => absurd z c) (fun z => by omega)⟩
        · obtain ⟨n5, s5, t5, hS5⟩ := s1
          have b5 := b1
          refine ⟨_, rfl, _, _, rfl, rfl, _, rfl, _, rfl, _, _, rfl, a, _, n5, s5, t5, rfl, hS5, by split <;> omega, by split <;> omega, fun r H6 r0 r1 b6 s6 => ?_⟩
          refine ⟨_, _, rfl, rfl, _, _, rfl, k _ _ (b5.trans b6) s6 (fun z => absurd z c) fun z => ?_⟩
          split at r1 <;> split <;> omega
      · have hS5 := hS
        have b5 := But.refl a H
        generalize n = n5 at hS5
        generalize s = s5 at hS5
        generalize t = t5 at hS5
        refine iteF ?_
        refine ⟨_, rfl, _, _, rfl, rfl, _, rfl, _, rfl, _, _, rfl, a, _, n5, s5, t5, rfl, hS5, by split <;> omega, by split <;> omega, fun r H6 r0 r1 b6 s6 => ?_⟩
        refine ⟨_, _, rfl, rfl, _, _, rfl, k _ _ (b5.trans b6) s6 (fun z => absurd z c) fun z => ?_⟩
        split at r1 <;> split <;> omega
theorem sc_law_rows : FnScope ["_law_source_here", "_law_labels", "_law_most", "_law_deep", "_law_shape", "_law_rows_here", "_law_above", "_law_k"] ["_law_source_here", "_law_labels", "_law_most", "_law_deep"] (defScope st_law_rows) := ⟨rfl, rfl, rfl, by decide +kernel, rfl, by decide +kernel, by decide +kernel⟩
theorem ok_law_rows {f : Addr} {fd : FuncData} (T : Txt K mg) (F : FnP K "_law_rows" "_law_rows" st_law_rows f fd) (G_law_take : Fn P w K mg base CX0 1 "_law_take" ["_law_source_here", "_law_many"] (sp_law_take K)) (G_law_depth : Fn P w K mg base CX0 2 "_law_depth" ["_law_source_here", "_law_shape", "_law_above"] (sp_law_depth K)) : FnOk P w K mg base CX0 3 f fd ["_law_source_here", "_law_labels", "_law_most", "_law_deep"] (sp_law_rows K) := by
  refine F.ok sc_law_rows (fun vs H Q E h => ?_) (fun cdv A outer s H vs Q E hr h => ?_)
  · obtain ⟨a, la, most, deep, labels, rfl, _⟩ := h
    rfl
  · obtain ⟨a, la, most, deep, labels, rfl, ⟨n, s, t, hS⟩, hL, l1, l2, m1, m2, d1, d2, k⟩ := h
    refine ⟨_, PSs.nox (pss_cons (ps_set (i := 4) sc_law_rows.nd rfl (Or.inl rfl) (pe_callF G_law_take (hr.mono (by decide)) pass0 (pa_cons (pv 0) (pa_cons pe_int pa_nil))))
      (pss_cons (ps_set (i := 5) sc_law_rows.nd rfl (Or.inl rfl) (pe_lst pa_nil))
      (pss_cons (ps_set (i := 6) sc_law_rows.nd rfl (Or.inl rfl) pe_int)
      (pss_cons (ps_for PassesOwn.never rfl (pi_range1 rfl T.free_range (pa_cons (pe_op op_add pe_int (pe_callF G_law_take (hr.mono (by decide)) pass0 (pa_cons (pv 0) (pa_cons (pv 2) pa_nil)))) pa_nil)) (pg_name (i := 7) sc_law_rows.nd rfl (Or.inl rfl))
      (pss_cons (ps_set (i := 6) sc_law_rows.nd rfl (Or.inl rfl) (pe_callB (call_min2 rfl) rfl T.free_min (by decide +kernel) (pa_cons (pv 3) (pa_cons (pe_callF G_law_depth (hr.mono (by decide)) pass0 (pa_cons (pv 0) (pa_cons (pv 4) (pa_cons (pv 6) pa_nil)))) pa_nil))))
      (pss_one (ps_expr (pe_bm PySem.F.plainAttrs_list PySem.F.slot_list_append PySem.F.type_list_append mt_append (pv 5) (pa_cons (pe_tup (pa_cons (pe_ix ix_list (pv 1) (pe_callF G_law_take (hr.mono (by decide)) pass0 (pa_cons (pv 0) (pa_cons (pe_callB call_len rfl T.free_len PySem.boot_len (pa_cons (pv 1) pa_nil)) pa_nil))) (fun _ _ => rfl)) (pa_cons (pv 6) pa_nil))) pa_nil))))))
      (pss_one (ps_ret (pv 5))))))), ?_⟩
    refine ⟨_, rfl, a, 4, n, s, t, rfl, hS, by decide, by decide, fun sh H1 _ _ b1 ⟨n1, s1, t1, hS1⟩ => ?_⟩
    have hL1 := b1.seq hS hL
    refine ⟨Nat.zero_le _, ?_⟩
    intro p np
    generalize e_H2 : upd _ p _ = H2
    obtain ⟨s2, hp⟩ := al e_H2 np
    have nap : a ≠ p := ne_of_none hS1 np
    have np0 : H p = none := b1.free nap.symm np
    have hS2 := s2 _ _ hS1
    refine ⟨_, rfl, _, rfl, a, most, n1, s1, t1, rfl, hS2, m1, by omega, fun c H3 c0 c1 b3 S3_ => ?_⟩
    have hp3 := b3 _ _ nap.symm hp
    have b03 : But a H H3 := b1.trans ((But.of_same s2).trans b3)
    refine ⟨_, _, rfl, rfl, _, rfl, by omega, by omega, for_range (lo := 0) (n := (1 + c).toNat) (fun i σ H' => ∃ (ab : Int) (v : Option V) (rows : List (Str × Int)) (vs : List V), σ = [some (.ref a), some (.ref la), some (.int most), some (.int deep), some (.int sh), some (.ref p), some (.int ab), v] ∧ But a H H' ∧ Src H' a ∧ H' p = some (.lst vs) ∧ PL K H' eRow vs rows ∧ rows.length = i ∧ (∀ r ∈ rows, r.1 ∈ labels) ∧ Dvp (rows.map (·.2)) ab ∧ ab ≤ deep ∧ (∀ r ∈ rows, r.2 ≤ deep)) ?_ ?_ ?_⟩
    · exact ⟨0, none, [], [], rfl, b03, S3_, hp3, .nil, rfl, (fun _ h => nomatch h), Dvp.nil, by omega, (fun _ h => nomatch h)⟩
    · rintro i σ H4 hi ⟨ab, v, rows, vs, rfl, b4, S4, hp4, pr, rl, hlab, hdv, hab, hdp⟩
      have hnn := hdv.nonneg
      refine ⟨_, rfl, _, rfl, _, rfl, _, rfl, a, sh, ab, rfl, S4, hnn, by omega, fun r H5 b5 S5 r0 r1 => ?_⟩
      have hL5 := (b4.trans b5).seq hS hL
      have tk5 : TK H4 H5 := TK.src b5 S4
      have hp5 := b5 _ _ nap.symm hp4
      have pr5 := PL.tk pr tk5 flat_row
      obtain ⟨n5, s5, t5, hS5⟩ := S5
      refine ⟨_, _, rfl, ?_⟩
      generalize ed : (if r < deep then r else deep) = d
      have hd0 : ab = 0 → d = 1 := fun z => by
        have := r0 z
        rw [← ed]
        split <;> omega
      have hd1 : 0 < ab → 2 ≤ d ∧ d ≤ ab + 1 := fun z => by
        have := r1 z
        rw [← ed]
        split <;> omega
      have hdd : d ≤ deep := by rw [← ed]; split <;> omega
      refine ⟨_, rfl, .inl ⟨rfl, _, SqL.of hp5⟩, _, rfl, _, rfl, _, rfl, _, _, rfl, Or.inl ⟨_, hL5, rfl⟩, a, _, n5, s5, t5, rfl, hS5, ?_, ?_, fun j H6 j0 j1 b6 S6 => ?_⟩
      · rw [List.length_map]; omega
      · rw [List.length_map]; omega
      have hL6 := b6.seq hS5 hL5
      have tk6 : TK H5 H6 := TK.butD b6 hS5
      have hp6 := b6 _ _ nap.symm hp5
      have pr6 := PL.tk pr5 tk6 flat_row
      rw [List.length_map] at j1
      obtain ⟨jn, rfl⟩ := Int.eq_ofNat_of_zero_le j0
      have hj : jn < labels.length := by omega
      refine ⟨_, _, _, _, rfl, rfl, hL6, atI_nat (j := jn) (v := .str labels[jn]) (by rw [List.getElem?_map, List.getElem?_eq_getElem hj]; rfl), _, rfl, by show 2 ≤ sizeLine; decide, ?_⟩
      intro q nq
      generalize e_H7 : upd _ q _ = H7
      obtain ⟨s7, hq⟩ := al e_H7 nq
      have hp7 := s7 _ _ hp6
      have S7 : Src H7 a := by obtain ⟨x, y, z, h⟩ := S6; exact ⟨x, y, z, s7 _ _ h⟩
      have hvl : vs.length = i := by rw [pr.length, rl]
      refine ⟨p, vs, _, rfl, rfl, hp7, szl (by omega), d, _, rows ++ [(labels[jn], d)], vs ++ [.ref q], rfl, (((b4.trans b5).trans b6).trans (But.of_same s7)).mut np0, ?_, upd_same, ?_, ?_, ?_, ?_, hdd, ?_⟩
      · obtain ⟨x, y, z, h⟩ := S7
        exact ⟨x, y, z, (upd_ne nap).trans h⟩
      · refine (PL.tk (pr6.same s7) (TK.updL hp7) flat_row).app (.cons ?_ .nil)
        exact dp_of_tup (SqT.of ((TK.updL hp7).1 _ _ hq)) (.cons (.str _) (.cons (.int _) .nil))
      · rw [List.length_append, rl]; rfl
      · intro r' hr'
        rcases List.mem_append.mp hr' with h | h
        · exact hlab r' h
        · rw [List.mem_singleton.mp h]
          exact List.getElem_mem hj
      · rw [List.map_append]
        exact hdv.snoc hd0 hd1
      · intro r' hr'
        rcases List.mem_append.mp hr' with h | h
        · exact hdp r' h
        · rw [List.mem_singleton.mp h]
          exact hdd
    · rintro σ H4 ⟨ab, v, rows, vs, rfl, b4, S4, hp4, pr, rl, hlab, hdv, hab, hdp⟩
      refine ⟨_, rfl, k H4 p vs rows b4 S4 np0 hp4 pr (by omega) (by omega) hlab (hdv.dv (by rw [List.length_map]; omega)) hdp⟩
theorem sc_law_depths : FnScope ["_law_source_here", "_law_k", "_law_row"] ["_law_source_here"] (defScope st_law_depths) := ⟨rfl, rfl, rfl, by decide +kernel, rfl, by decide +kernel, by decide +kernel⟩
theorem ok_law_depths {f : Addr} {fd : FuncData} (T : Txt K mg) (F : FnP K "_law_depths" "_law_depths" st_law_depths f fd) (G_law_take : Fn P w K mg base CX0 1 "_law_take" ["_law_source_here", "_law_many"] (sp_law_take K)) (G_law_rows : Fn P w K mg base CX0 3 "_law_rows" ["_law_source_here", "_law_labels", "_law_most", "_law_deep"] (sp_law_rows K)) : FnOk P w K mg base CX0 4 f fd ["_law_source_here"] (sp_law_depths K) := by
  refine F.ok sc_law_depths (fun vs H Q E h => ?_) (fun cdv A outer s H vs Q E hr h => ?_)
  · obtain ⟨a, rfl, _⟩ := h
    rfl
  · obtain ⟨a, rfl, ⟨n, s, t, hS⟩, k⟩ := h
    refine ⟨_, PSs.nox (pss_cons (ps_if (pt_cmpR op_eq (pe_callF G_law_take (hr.mono (by decide)) pass0 (pa_cons (pv 0) (pa_cons pe_int pa_nil))) pe_int (nomark _))
      (pss_one (ps_ret (pe_lc (own := [("_law_k", 1)]) (g := gName 1) rfl sc_law_depths.nd (pi_range1 rfl T.free_range (pa_cons (pe_op op_sub pe_int (pe_op op_mul pe_int (pe_callF G_law_take (hr.mono (by decide)) pass0 (pa_cons (pv 0) (pa_cons pe_int pa_nil))))) pa_nil)) (blkOk_by (own := [("_law_k", 1)]) (N := ["_law_source_here", "_law_k", "_law_row"]) (sc := defScope st_law_depths) (by decide +kernel)) (fun _ _ _ _ _ => (pg_name (i := 1) sc_law_depths.nd rfl (Or.inl rfl))) (fun _ _ _ _ _ => pts_nil) (fun _ _ _ _ _ => (pe_callB (call_min2 rfl) rfl T.free_min (by decide +kernel) (pa_cons (pe_op op_add (pv 1) pe_int) (pa_cons pe_int pa_nil)))))))
      pss_nil)
      (pss_one (ps_ret (pe_lc (own := [("_law_row", 2)]) (g := gName 2) (te := (tOp (rIxT K) (tVar 2) (tC (.int 1)))) rfl sc_law_depths.nd (pi_list (pe_callF G_law_rows (hr.mono (by decide)) pass0 (pa_cons (pv 0) (pa_cons (pe_lst (pa_cons pe_str pa_nil)) (pa_cons pe_int (pa_cons (pe_ix ix_list (pe_lst (pa_cons pe_int (pa_cons pe_int (pa_cons pe_int pa_nil)))) (pe_callF G_law_take (hr.mono (by decide)) pass0 (pa_cons (pv 0) (pa_cons pe_int pa_nil))) (fun _ _ => rfl)) pa_nil)))))) (blkOk_by (own := [("_law_row", 2)]) (N := ["_law_source_here", "_law_k", "_law_row"]) (sc := defScope st_law_depths) (by decide +kernel)) (fun _ _ _ _ _ => (pg_name (i := 2) sc_law_depths.nd rfl (Or.inl rfl))) (fun _ _ _ _ _ => pts_nil) (fun _ _ _ _ _ => (pe_ix ix_tup (pv 2) pe_int (fun _ _ => rfl))))))), ?_⟩
    refine ⟨_, rfl, a, 8, n, s, t, rfl, hS, by decide, by decide, fun r H1 _ _ b1 ⟨n1, s1, t1, hS1⟩ => ⟨rfl, _, rfl, ?_⟩⟩
    refine ite2 (fun c => ?_) (fun c => ?_)
    · refine ⟨_, rfl, a, 2, n1, s1, t1, rfl, hS1, by decide, by decide, fun r2 H2 r20 r21 b2 S2 => ?_⟩
      refine ⟨_, _, rfl, rfl, .inl ⟨by decide, by decide⟩, _, _, rfl, rfl, _, rfl, by omega, by omega, fun D hD => ?_⟩
      have b02 := b1.trans b2
      have naD : a ≠ D := by obtain ⟨_, _, _, h⟩ := S2; exact ne_of_none h hD
      refine lc_range (lo := 0) (n := (100 - 40 * r2).toNat) (fun i H' => But a H H' ∧ Src H' a ∧ H' D = some (.lst ((chain80 i).map V.int))) ?_ ?_ ?_
      · refine ⟨b02.new' hD, ?_, upd_same⟩
        obtain ⟨x, y, z, h⟩ := S2
        exact ⟨x, y, z, (upd_ne naD).trans h⟩
      · rintro i H' hi ⟨b3, S3_, h3⟩
        refine ⟨rfl, _, rfl, _, _, rfl, rfl, _, _, rfl, _, h3, szl (by rw [List.length_map, chain80_len]; omega), b3.mut (b02.free naD.symm hD), ?_, ?_⟩
        · obtain ⟨x, y, z, h⟩ := S3_
          exact ⟨x, y, z, (upd_ne naD).trans h⟩
        · rw [upd_same, chain80_snoc, List.map_append]
          rw [show (0 : Int) + (i : Int) + 1 = (i : Int) + 1 by omega]
          rfl
      · rintro H' ⟨b3, S3_, h3⟩
        exact k H' D _ b3 S3_ (b02.free naD.symm hD) h3 (chain80_dv _ (by omega)) (by rw [chain80_len]; omega) (by rw [chain80_len]; omega)
    · refine ⟨_, rfl, by show 1 ≤ sizeLine; decide, ?_⟩
      intro q n2
      generalize e_H2 : upd _ q _ = H2
      obtain ⟨s2, h2⟩ := al e_H2 n2
      have hS2 := s2 _ _ hS1
      refine ⟨by show 3 ≤ sizeLine; decide, ?_⟩
      intro q3 n3
      generalize e_H3 : upd _ q3 _ = H3
      obtain ⟨s3, h3⟩ := al e_H3 n3
      have hS3 := s3 _ _ hS2
      have h23 := s3 _ _ h2
      have naq : a ≠ q := ne_of_none hS1 n2
      have naq3 : a ≠ q3 := ne_of_none hS2 n3
      refine ⟨_, rfl, a, 3, n1, s1, t1, rfl, hS3, by decide, by decide, fun r H4 r0 r1 b4 S4 => ?_⟩
      obtain ⟨d, hd, hd0, hd1⟩ : ∃ d : Int, atI [V.int 3, V.int 6, V.int 30] r = some (.int d) ∧ 2 ≤ d ∧ d ≤ 30 := by
        have : r = ((0 : Nat) : Int) ∨ r = ((1 : Nat) : Int) ∨ r = ((2 : Nat) : Int) := by omega
        rcases this with rfl | rfl | rfl
        · exact ⟨3, atI_nat rfl, by decide, by decide⟩
        · exact ⟨6, atI_nat rfl, by decide, by decide⟩
        · exact ⟨30, atI_nat rfl, by decide, by decide⟩
      have h24 := b4 _ _ naq.symm h23
      have h34 := b4 _ _ naq3.symm h3
      have b04 : But a H H4 := b1.trans (((But.of_same s2).trans (But.of_same s3)).trans b4)
      refine ⟨_, _, _, _, rfl, rfl, SqL.of h34, hd, a, q, 30, d, ["a"], rfl, S4, SqL.of h24, by decide, by decide, by decide, by decide, hd0, by omega, fun H5 p vs rows b5 S5 np h5 pr rl rl1 _ dv _ => ?_⟩
      refine ⟨p, rfl, ⟨_, SqL.of h5⟩, fun D hD => ?_⟩
      have b05 := b04.trans b5
      have naD : a ≠ D := by obtain ⟨_, _, _, h⟩ := S5; exact ne_of_none h hD
      refine lc_list (K := K) (a := p) (xs := vs) (fun i H' => But a H H' ∧ Src H' a ∧ Same H5 H' ∧ H' D = some (.lst (((rows.take i).map (·.2)).map V.int))) ?_ (fun i H' _ q => q.2.2.1.seq (SqL.of h5)) ?_ ?_
      · refine ⟨b05.new' hD, ?_, Same.new hD, upd_same⟩
        obtain ⟨x, y, z, h⟩ := S5
        exact ⟨x, y, z, (upd_ne naD).trans h⟩
      · rintro i y H' hi ⟨b6, S6, s6, h6⟩
        obtain ⟨row, hri, dy⟩ := pr.get hi
        obtain ⟨ty, rfl, hty⟩ := dp_row dy
        have hlt : i < rows.length := (List.getElem?_eq_some_iff.mp hri).1
        refine ⟨rfl, _, rfl, _, _, _, _, rfl, rfl, s6.tup hty, atI_nat (j := 1) rfl, _, h6, szl (by rw [List.length_map, List.length_map, List.length_take]; omega), b6.mut (b05.free naD.symm hD), ?_, s6.mut hD, ?_⟩
        · obtain ⟨x, y, z, h⟩ := S6
          exact ⟨x, y, z, (upd_ne naD).trans h⟩
        · rw [upd_same, take_snoc hri, List.map_append, List.map_append]
          rfl
      · rintro H' ⟨b6, S6, s6, h6⟩
        rw [pr.length, List.take_length] at h6
        exact k H' D _ b6 S6 (b05.free naD.symm hD) h6 dv (by rw [List.length_map]; omega) (by rw [List.length_map]; omega)
theorem sc_law_stretches : FnScope ["_law_depths_here", "_law_found", "_law_k", "_law_end"] ["_law_depths_here"] (defScope st_law_stretches) := ⟨rfl, rfl, rfl, by decide +kernel, rfl, by decide +kernel, by decide +kernel⟩
theorem ok_law_stretches {f : Addr} {fd : FuncData} (T : Txt K mg) (F : FnP K "_law_stretches" "_law_stretches" st_law_stretches f fd)  : FnOk P w K mg base CX0 1 f fd ["_law_depths_here"] (sp_law_stretches K) := by
  refine F.ok sc_law_stretches (fun vs H Q E h => ?_) (fun cdv A outer s H vs Q E hr h => ?_)
  · obtain ⟨l, ds, rfl, _⟩ := h
    rfl
  · obtain ⟨l, ds, rfl, hl, hn, k⟩ := h
    refine ⟨_, PSs.nox (pss_cons (ps_set (i := 1) sc_law_stretches.nd rfl (Or.inl rfl) (pe_lst pa_nil))
      (pss_cons (ps_for PassesOwn.never rfl (pi_range1 rfl T.free_range (pa_cons (pe_callB call_len rfl T.free_len PySem.boot_len (pa_cons (pv 0) pa_nil)) pa_nil)) (pg_name (i := 2) sc_law_stretches.nd rfl (Or.inl rfl))
      (pss_cons (ps_set (i := 3) sc_law_stretches.nd rfl (Or.inl rfl) (pv 2))
      (pss_cons (ps_while PassesOwn.never (PW.pt (pw_and (pt_cmpR op_lt (pe_op op_add (pv 3) pe_int) (pe_callB call_len rfl T.free_len PySem.boot_len (pa_cons (pv 0) pa_nil)) (nomark _)) (pw_and1 (pt_cmpR op_gt (pe_ix ix_list (pv 0) (pe_op op_add (pv 3) pe_int) (fun _ _ => rfl)) (pe_ix ix_list (pv 0) (pv 2) (fun _ _ => rfl)) (nomark _)))))
      (pss_one (ps_set (i := 3) sc_law_stretches.nd rfl (Or.inl rfl) (pe_op op_add (pv 3) pe_int))))
      (pss_one (ps_expr (pe_bm PySem.F.plainAttrs_list PySem.F.slot_list_append PySem.F.type_list_append mt_append (pv 1) (pa_cons (pe_tup (pa_cons (pv 2) (pa_cons (pv 3) (pa_cons (pe_ix ix_list (pv 0) (pv 2) (fun _ _ => rfl)) pa_nil)))) pa_nil)))))))
      (pss_one (ps_ret (pv 1))))), ?_⟩
    refine ⟨Nat.zero_le _, ?_⟩
    intro p n1
    generalize e_H1 : upd _ p _ = H1
    obtain ⟨s1, h1⟩ := al e_H1 n1
    refine ⟨_, rfl, _, _, rfl, Or.inl ⟨_, s1.seq hl, rfl⟩, _, rfl, by rw [List.length_map]; omega, by rw [List.length_map]; omega, for_range (lo := 0) (fun i σ H' => ∃ (vs : List V) (ss : List S3) (v2 v3 : Option V), σ = [some (.ref l), some (.ref p), v2, v3] ∧ Same H H' ∧ H' p = some (.lst vs) ∧ PL K H' eS3 vs ss ∧ ss.length = i ∧ ∀ (k : Nat) (x : S3), ss[k]? = some x → ∃ e, EndP ds k e ∧ x = ((k : Int), (e : Int), dg ds k)) ?_ ?_ ?_⟩
    · exact ⟨[], [], none, none, rfl, s1, h1, .nil, rfl, fun _ _ h => by simp at h⟩
    · rintro i σ H2 hi ⟨vs, ss, v2, v3, rfl, s2, h2, ps, hsl, hss⟩
      rw [List.length_map] at hi
      have hil : i < ds.length := by omega
      have hget : ∀ j : Nat, j < ds.length → atI (ds.map V.int) (j : Int) = some (.int (dg ds j)) := fun j hj => atI_nat (by rw [List.getElem?_map, dg_get hj]; rfl)
      refine ⟨_, rfl, fun m σ H' => ∃ (e : Nat), m = ds.length - e ∧ σ = [some (.ref l), some (.ref p), some (.int (0 + (i : Int))), some (.int (e : Int))] ∧ Same H H' ∧ H' p = some (.lst vs) ∧ PL K H' eS3 vs ss ∧ i ≤ e ∧ e < ds.length ∧ ∀ j, i < j → j ≤ e → dg ds i < dg ds j, ⟨_, i, rfl, by rw [Int.zero_add]; rfl, s2, h2, ps, Nat.le_refl _, hil, fun j h1 h2 => by omega⟩, ?_⟩
      rintro m σ H3 ⟨e, rfl, rfl, s3, h3, p3, hie, hel, hin⟩
      refine ⟨_, rfl, _, _, rfl, rfl, _, rfl, _, _, rfl, Or.inl ⟨_, s3.seq hl, rfl⟩, _, _, rfl, rfl, _, rfl, ?_⟩
      refine ite2 (fun c => ?_) (fun c => ?_)
      · have c : (e : Int) + 1 < ((ds.map V.int).length : Int) := of_decide_eq_true c
        rw [List.length_map] at c
        have hel1 : e + 1 < ds.length := by omega
        refine ⟨_, rfl, _, rfl, _, _, rfl, rfl, _, _, _, _, rfl, rfl, s3.seq hl, hget (e + 1) hel1, _, rfl, _, rfl, _, _, _, _, rfl, rfl, s3.seq hl, by rw [Int.zero_add]; exact hget i hil, _, _, rfl, rfl, _, rfl, ?_⟩
        refine ite2 (fun c2 => ?_) (fun c2 => ?_)
        · have c2 : dg ds i < dg ds (e + 1) := of_decide_eq_true c2
          refine ⟨_, fun _ _ h => h, _, rfl, _, _, rfl, rfl, ds.length - (e + 1), by omega, e + 1, rfl, rfl, s3, h3, p3, by omega, hel1, fun j h1 h2 => ?_⟩
          by_cases cj : j = e + 1
          · rw [cj]
            exact c2
          · exact hin j h1 (by omega)
        · have hout : e + 1 < ds.length → ¬ dg ds i < dg ds (e + 1) := fun _ z => c2 (decide_eq_true z)
          refine ⟨_, rfl, .inl ⟨rfl, _, SqL.of h3⟩, _, rfl, _, rfl, _, rfl, _, rfl, _, _, _, _, rfl, rfl, s3.seq hl, by rw [Int.zero_add]; exact hget i hil, by show 3 ≤ sizeLine; decide, ?_⟩
          intro t n4
          generalize e_H4 : upd _ t _ = H4
          obtain ⟨s4, h4⟩ := al e_H4 n4
          have h34 := s4 _ _ h3
          refine ⟨p, vs, _, rfl, rfl, h34, szl (by rw [p3.length]; omega), vs ++ [.ref t], ss ++ [((i : Int), (e : Int), dg ds i)], _, _, rfl, (s3.trans s4).mut n1, upd_same, ?_, ?_, ?_⟩
          · refine (PL.tk (p3.same s4) (TK.updL h34) flat_S3).app (.cons ?_ .nil)
            refine dp_of_tup (SqT.of ((TK.updL h34).1 _ _ h4)) (.cons ?_ (.cons (.int _) (.cons (.int _) .nil)))
            rw [Int.zero_add]
            exact .int _
          · rw [List.length_append, hsl]
            rfl
          · intro k' x hx
            by_cases c : k' < ss.length
            · rw [List.getElem?_append_left c] at hx
              exact hss k' x hx
            · rw [List.getElem?_append_right (by omega)] at hx
              have hk : k' - ss.length = 0 := by
                cases z : k' - ss.length with
                | zero => rfl
                | succ y => rw [z] at hx; simp at hx
              have hki : k' = i := by omega
              rw [hk] at hx
              have hx : some ((i : Int), (e : Int), dg ds i) = some x := hx
              rw [hki, ← Option.some.inj hx]
              exact ⟨e, ⟨hie, hel, hin, hout⟩, rfl⟩
      · have c : ¬ (e : Int) + 1 < ((ds.map V.int).length : Int) := fun z => c (decide_eq_true z)
        rw [List.length_map] at c
        have hout : e + 1 < ds.length → ¬ dg ds i < dg ds (e + 1) := fun z => by omega
        refine iteF ?_
        refine ⟨_, rfl, .inl ⟨rfl, _, SqL.of h3⟩, _, rfl, _, rfl, _, rfl, _, rfl, _, _, _, _, rfl, rfl, s3.seq hl, by rw [Int.zero_add]; exact hget i hil, by show 3 ≤ sizeLine; decide, ?_⟩
        intro t n4
        generalize e_H4 : upd _ t _ = H4
        obtain ⟨s4, h4⟩ := al e_H4 n4
        have h34 := s4 _ _ h3
        refine ⟨p, vs, _, rfl, rfl, h34, szl (by rw [p3.length]; omega), vs ++ [.ref t], ss ++ [((i : Int), (e : Int), dg ds i)], _, _, rfl, (s3.trans s4).mut n1, upd_same, ?_, ?_, ?_⟩
        · refine (PL.tk (p3.same s4) (TK.updL h34) flat_S3).app (.cons ?_ .nil)
          refine dp_of_tup (SqT.of ((TK.updL h34).1 _ _ h4)) (.cons ?_ (.cons (.int _) (.cons (.int _) .nil)))
          rw [Int.zero_add]
          exact .int _
        · rw [List.length_append, hsl]
          rfl
        · intro k' x hx
          by_cases c : k' < ss.length
          · rw [List.getElem?_append_left c] at hx
            exact hss k' x hx
          · rw [List.getElem?_append_right (by omega)] at hx
            have hk : k' - ss.length = 0 := by
              cases z : k' - ss.length with
              | zero => rfl
              | succ y => rw [z] at hx; simp at hx
            have hki : k' = i := by omega
            rw [hk] at hx
            have hx : some ((i : Int), (e : Int), dg ds i) = some x := hx
            rw [hki, ← Option.some.inj hx]
            exact ⟨e, ⟨hie, hel, hin, hout⟩, rfl⟩
    · rintro σ H2 ⟨vs, ss, v2, v3, rfl, s2, h2, ps, hsl, hss⟩
      exact ⟨_, rfl, k H2 p vs ss s2 n1 h2 ps ⟨by rw [hsl, List.length_map]; simp, hss⟩⟩
theorem sc_law_some : FnScope ["_law_source_here", "_law_stretches_here", "_law_way", "_law_stretch"] ["_law_source_here", "_law_stretches_here"] (defScope st_law_some) := ⟨rfl, rfl, rfl, by decide +kernel, rfl, by decide +kernel, by decide +kernel⟩
theorem ok_law_some {f : Addr} {fd : FuncData} (T : Txt K mg) (F : FnP K "_law_some" "_law_some" st_law_some f fd) (G_law_take : Fn P w K mg base CX0 1 "_law_take" ["_law_source_here", "_law_many"] (sp_law_take K)) : FnOk P w K mg base CX0 2 f fd ["_law_source_here", "_law_stretches_here"] (sp_law_some K) := by
  refine F.ok sc_law_some (fun vs H Q E h => ?_) (fun cdv A outer s H vs Q E hr h => ?_)
  · obtain ⟨a, l, vs0, ss, rfl, _⟩ := h
    rfl
  · obtain ⟨a, l, vs0, ss, rfl, ⟨n, s, t, hS⟩, hl, pl, hn, k⟩ := h
    refine ⟨_, PSs.nox (pss_cons (ps_set (i := 2) sc_law_some.nd rfl (Or.inl rfl) (pe_callF G_law_take (hr.mono (by decide)) pass0 (pa_cons (pv 0) (pa_cons pe_int pa_nil))))
      (pss_cons (ps_if (pt_cmpR op_eq (pv 2) pe_int (nomark _))
      (pss_one (ps_ret (pe_lst pa_nil)))
      pss_nil)
      (pss_cons (ps_if (pt_cmpR op_eq (pv 2) pe_int (nomark _))
      (pss_one (ps_ret (pe_callTy call_list_of rfl T.free_list (by decide +kernel) (pa_cons (pv 1) pa_nil))))
      pss_nil)
      (pss_cons (ps_if (pt_cmpR op_lt (pv 2) pe_int (nomark _))
      (pss_one (ps_ret (pe_lc (own := [("_law_stretch", 3)]) (g := gName 3) (tt := (tTest (tOp _ (tCall (sp_law_take K) [] E0 (tCons (tVar 0) (tCons (tC (.int 2)) tNil))) (tC (.int 0))))) rfl sc_law_some.nd (pi_list (pv 1)) (blkOk_by (own := [("_law_stretch", 3)]) (N := ["_law_source_here", "_law_stretches_here", "_law_way", "_law_stretch"]) (sc := defScope st_law_some) (by decide +kernel)) (fun _ _ _ _ _ => (pg_name (i := 3) sc_law_some.nd rfl (Or.inl rfl))) (fun _ _ _ _ _ => (pts_one (pt_cmpR op_eq (pe_callF G_law_take (hr.mono (by decide)) pass0 (pa_cons (pv 0) (pa_cons pe_int pa_nil))) pe_int (nomark _)))) (fun _ _ _ _ _ => (pv 3)))))
      pss_nil)
      (pss_one (ps_ret (pe_lc (own := [("_law_stretch", 3)]) (g := gName 3) (tt := (tTest (tOp _ (tCall (sp_law_take K) [] E0 (tCons (tVar 0) (tCons (tC (.int 5)) tNil))) (tC (.int 0))))) rfl sc_law_some.nd (pi_list (pv 1)) (blkOk_by (own := [("_law_stretch", 3)]) (N := ["_law_source_here", "_law_stretches_here", "_law_way", "_law_stretch"]) (sc := defScope st_law_some) (by decide +kernel)) (fun _ _ _ _ _ => (pg_name (i := 3) sc_law_some.nd rfl (Or.inl rfl))) (fun _ _ _ _ _ => (pts_one (pt_cmpR op_eq (pe_callF G_law_take (hr.mono (by decide)) pass0 (pa_cons (pv 0) (pa_cons pe_int pa_nil))) pe_int (nomark _)))) (fun _ _ _ _ _ => (pv 3))))))))), ?_⟩
    refine ⟨_, rfl, a, 8, n, s, t, rfl, hS, by decide, by decide, fun r H1 _ _ b1 S1 => ?_⟩
    have hS1 := S1
    obtain ⟨n1, s1, t1, hS1⟩ := hS1
    have hl1 := b1.seq hS hl
    have pl1 := PL.tk pl (TK.butD b1 hS) flat_S3
    have nap : ∀ p, H1 p = none → H p = none := fun p hp => b1.free (ne_of_none hS1 hp).symm hp
    refine ⟨_, rfl, rfl, _, rfl, ?_⟩
    refine ite2 (fun c => ?_) (fun c => ?_)
    · refine ⟨Nat.zero_le _, ?_⟩
      intro p n2
      generalize e_H2 : upd _ p _ = H2
      obtain ⟨s2, h2⟩ := al e_H2 n2
      exact k H2 p [] [] (b1.trans (But.of_same s2)) ⟨_, _, _, s2 _ _ hS1⟩ (nap p n2) h2 .nil (List.nil_sublist _)
    · refine ⟨_, rfl, rfl, _, rfl, ?_⟩
      refine ite2 (fun c => ?_) (fun c => ?_)
      · refine ⟨_, rfl, l, vs0, rfl, .inl hl1, ?_⟩
        intro p n2
        generalize e_H2 : upd _ p _ = H2
        obtain ⟨s2, h2⟩ := al e_H2 n2
        exact k H2 p vs0 ss (b1.trans (But.of_same s2)) ⟨_, _, _, s2 _ _ hS1⟩ (nap p n2) h2 (pl1.same s2) (List.Sublist.refl _)
      · refine ⟨_, rfl, _, _, rfl, rfl, _, rfl, ?_⟩
        refine ite2 (fun c => ?_) (fun c => ?_)
        · refine ⟨_, rfl, l, rfl, ⟨_, hl1⟩, fun D hD => ?_⟩
          have naD : a ≠ D := ne_of_none hS1 hD
          refine lc_list (K := K) (a := l) (xs := vs0) (fun i H' => But a H1 H' ∧ Src H' a ∧ ∃ vs zs, H' D = some (.lst vs) ∧ PL K H' eS3 vs zs ∧ zs.Sublist (ss.take i)) ?_ (fun i H' _ q => q.1.seq hS1 hl1) ?_ ?_
          · exact ⟨But.of_same (Same.new hD), ⟨_, _, _, (upd_ne naD).trans hS1⟩, [], [], upd_same, .nil, List.nil_sublist _⟩
          · rintro i y H' hi ⟨b2, ⟨n2, s2, t2, hS2⟩, vs, zs, h2, p2, sub⟩
            obtain ⟨u, hui, dy⟩ := pl1.get hi
            have hlt : i < ss.length := (List.getElem?_eq_some_iff.mp hui).1
            have hzl := sub.length_le
            rw [List.length_take] at hzl
            have hts : ss.take (i + 1) = ss.take i ++ [u] := take_snoc hui
            refine ⟨rfl, _, rfl, a, _, n2, s2, t2, rfl, hS2, by decide, by decide, fun r3 H3 _ _ b3 S3_ => ⟨rfl, _, rfl, ?_⟩⟩
            have h3 := b3 _ _ naD.symm h2
            have p3 := PL.tk p2 (TK.butD b3 hS2) flat_S3
            refine ite2 (fun c => ?_) (fun c => ?_)
            · refine ⟨_, rfl, vs, h3, szl (by rw [p2.length]; omega), (b2.trans b3).mut hD, ?_, vs ++ [y], zs ++ [u], upd_same, ?_, ?_⟩
              · obtain ⟨x, y, z, h⟩ := S3_
                exact ⟨x, y, z, (upd_ne naD).trans h⟩
              · refine (PL.tk p3 (TK.updL h3) flat_S3).app (.cons ?_ .nil)
                exact dp_tk (((TK.butD b2 hS1).trans (TK.butD b3 hS2)).trans (TK.updL h3)) _ _ (flat_S3 u) dy
              · rw [hts]
                exact sub.append (List.Sublist.refl _)
            · exact ⟨b2.trans b3, S3_, vs, zs, h3, p3, by rw [hts]; exact sub.trans (List.sublist_append_left _ _)⟩
          · rintro H' ⟨b2, S2, vs, zs, h2, p2, sub⟩
            rw [pl.length, List.take_length] at sub
            exact k H' D vs zs (b1.trans b2) S2 (nap D hD) h2 p2 sub
        · refine ⟨_, rfl, l, rfl, ⟨_, hl1⟩, fun D hD => ?_⟩
          have naD : a ≠ D := ne_of_none hS1 hD
          refine lc_list (K := K) (a := l) (xs := vs0) (fun i H' => But a H1 H' ∧ Src H' a ∧ ∃ vs zs, H' D = some (.lst vs) ∧ PL K H' eS3 vs zs ∧ zs.Sublist (ss.take i)) ?_ (fun i H' _ q => q.1.seq hS1 hl1) ?_ ?_
          · exact ⟨But.of_same (Same.new hD), ⟨_, _, _, (upd_ne naD).trans hS1⟩, [], [], upd_same, .nil, List.nil_sublist _⟩
          · rintro i y H' hi ⟨b2, ⟨n2, s2, t2, hS2⟩, vs, zs, h2, p2, sub⟩
            obtain ⟨u, hui, dy⟩ := pl1.get hi
            have hlt : i < ss.length := (List.getElem?_eq_some_iff.mp hui).1
            have hzl := sub.length_le
            rw [List.length_take] at hzl
            have hts : ss.take (i + 1) = ss.take i ++ [u] := take_snoc hui
            refine ⟨rfl, _, rfl, a, _, n2, s2, t2, rfl, hS2, by decide, by decide, fun r3 H3 _ _ b3 S3_ => ⟨rfl, _, rfl, ?_⟩⟩
            have h3 := b3 _ _ naD.symm h2
            have p3 := PL.tk p2 (TK.butD b3 hS2) flat_S3
            refine ite2 (fun c => ?_) (fun c => ?_)
            · refine ⟨_, rfl, vs, h3, szl (by rw [p2.length]; omega), (b2.trans b3).mut hD, ?_, vs ++ [y], zs ++ [u], upd_same, ?_, ?_⟩
              · obtain ⟨x, y, z, h⟩ := S3_
                exact ⟨x, y, z, (upd_ne naD).trans h⟩
              · refine (PL.tk p3 (TK.updL h3) flat_S3).app (.cons ?_ .nil)
                exact dp_tk (((TK.butD b2 hS1).trans (TK.butD b3 hS2)).trans (TK.updL h3)) _ _ (flat_S3 u) dy
              · rw [hts]
                exact sub.append (List.Sublist.refl _)
            · exact ⟨b2.trans b3, S3_, vs, zs, h3, p3, by rw [hts]; exact sub.trans (List.sublist_append_left _ _)⟩
          · rintro H' ⟨b2, S2, vs, zs, h2, p2, sub⟩
            rw [pl.length, List.take_length] at sub
            exact k H' D vs zs (b1.trans b2) S2 (nap D hD) h2 p2 sub
theorem sc_law_uppers : FnScope ["_law_depths_here", "_law_uppers_here", "_law_line", "_law_k", "_law_depth_here"] ["_law_depths_here"] (defScope st_law_uppers) := ⟨rfl, rfl, rfl, by decide +kernel, rfl, by decide +kernel, by decide +kernel⟩
theorem ok_law_uppers {f : Addr} {fd : FuncData} (T : Txt K mg) (F : FnP K "_law_uppers" "_law_uppers" st_law_uppers f fd)  : FnOk P w K mg base CX0 1 f fd ["_law_depths_here"] (sp_law_uppers K) := by
  refine F.ok sc_law_uppers (fun vs H Q E h => ?_) (fun cdv A outer s H vs Q E hr h => ?_)
  · obtain ⟨l, ds, rfl, _⟩ := h
    rfl
  · obtain ⟨l, ds, rfl, hl, dv, hn, k⟩ := h
    refine ⟨_, PSs.nox (pss_cons (ps_set (i := 1) sc_law_uppers.nd rfl (Or.inl rfl) (pe_lst pa_nil))
      (pss_cons (ps_set (i := 2) sc_law_uppers.nd rfl (Or.inl rfl) (pe_lst pa_nil))
      (pss_cons (ps_for PassesOwn.never rfl (pi_enum rfl T.free_enumerate (pa_cons (pv 0) pa_nil)) (pg_tup rfl (pgs_cons (pg_name (i := 3) sc_law_uppers.nd rfl (Or.inl rfl)) (pgs_cons (pg_name (i := 4) sc_law_uppers.nd rfl (Or.inl rfl)) pgs_nil)))
      (pss_cons (ps_set (i := 2) sc_law_uppers.nd rfl (Or.inl rfl) (pe_op op_cat (pe_slice sl_list (pv 2) po_none (po_some (pe_op op_sub (pv 4) pe_int))) (pe_lst (pa_cons (pv 3) pa_nil))))
      (pss_one (ps_expr (pe_bm PySem.F.plainAttrs_list PySem.F.slot_list_append PySem.F.type_list_append mt_append (pv 1) (pa_cons (pe_ix ix_list (pe_lst (pa_cons pe_non (pa_cons (pe_ix ix_list (pe_op op_cat (pv 2) (pv 2)) (pe_op op_sub (pv 4) pe_int) (fun _ _ => rfl)) pa_nil))) (pe_callTy call_int1 rfl T.free_int (by decide +kernel) (pa_cons (pe_cmpR op_gt (pv 4) pe_int (nomark _)) pa_nil)) (fun _ _ => rfl)) pa_nil))))))
      (pss_one (ps_ret (pv 1)))))), ?_⟩
    refine ⟨Nat.zero_le _, ?_⟩
    intro p n1
    generalize e_H1 : upd _ p _ = H1
    obtain ⟨s1, h1⟩ := al e_H1 n1
    refine ⟨Nat.zero_le _, ?_⟩
    intro q n2
    generalize e_H2 : upd _ q _ = H2
    obtain ⟨s2, h2⟩ := al e_H2 n2
    refine ⟨_, rfl, l, _, rfl, (s1.trans s2).seq hl, for_enum (K := K) (a := l) (xs := ds.map V.int) (i := 3) (j := 4) (fun i σ H' => ∃ (q : Addr) (ln : List Int) (us : List (Option Int)) (v3 v4 : Option V), σ = [some (.ref l), some (.ref p), some (.ref q), v3, v4] ∧ p ≠ q ∧ Same H H' ∧ H' p = some (.lst (us.map vOpt)) ∧ H' q = some (.lst (ln.map V.int)) ∧ us.length = i ∧ (∀ (k : Nat) o, us[k]? = some o → UpAt ds k o) ∧ ((i = 0 ∧ ln = []) ∨ ∃ j, i = j + 1 ∧ Line ds j ln)) ?_ (fun i σ H' _ ⟨_, _, _, _, _, _, _, s, _⟩ => s.seq hl) ?_ ?_⟩
    · exact ⟨q, [], [], none, none, rfl, ne_of_none h1 n2, s1.trans s2, s2 _ _ h1, h2, rfl, (fun _ _ h => by simp at h), .inl ⟨rfl, rfl⟩⟩
    · rintro i x T σ H3 hi ⟨q, ln, us, v3, v4, rfl, npq, s3, hp, hq, hul, hup, hln⟩ nT
      obtain ⟨d, hd, rfl⟩ : ∃ d, ds[i]? = some d ∧ x = .int d := by
        rw [List.getElem?_map] at hi
        cases e : ds[i]? with
        | none => rw [e] at hi; cases hi
        | some d => rw [e] at hi; exact ⟨d, rfl, (Option.some.inj hi).symm⟩
      have hil : i < ds.length := (List.getElem?_eq_some_iff.mp hd).1
      have hdd : dg ds i = d := dg_of hd
      have hpos := dv.pos i hil
      have line' : Line ds i (ln.take (d - 1).toNat ++ [(i : Int)]) := by
        rcases hln with ⟨rfl, rfl⟩ | ⟨j, rfl, L⟩
        · rw [List.take_nil]
          exact Line.first dv
        · rw [← hdd]
          exact L.next dv hil
      generalize e4 : upd H3 T _ = H4
      obtain ⟨s4, _⟩ := al e4 nT
      have hp4 := s4 _ _ hp
      have hq4 := s4 _ _ hq
      refine ⟨_, rfl, _, rfl, _, _, rfl, rfl, _, rfl, q, _, rfl, SqL.of hq4, ?_⟩
      rw [cutV_to _ _ (show (0 : Int) ≤ d - 1 by omega), ← List.map_take]
      intro q1 n5
      generalize e_H5 : upd _ q1 _ = H5
      obtain ⟨s5, h5⟩ := al e_H5 n5
      refine ⟨_, rfl, by show 1 ≤ sizeLine; decide, ?_⟩
      intro q2 n6
      generalize e_H6 : upd _ q2 _ = H6
      obtain ⟨s6, h6⟩ := al e_H6 n6
      have hlen := line'.len
      rw [hdd, List.length_append, List.length_singleton] at hlen
      have hdl : d ≤ 1001 := by have := dv.le i hil; omega
      refine ⟨q1, q2, _, _, rfl, rfl, s6 _ _ h5, h6, ?_, ?_⟩
      · rw [List.length_map]
        exact sz (by show _ + 1 ≤ _; omega)
      rw [show ((ln.take (d - 1).toNat).map V.int ++ [V.int (i : Int)]) = (ln.take (d - 1).toNat ++ [(i : Int)]).map V.int by rw [List.map_append]; rfl]
      generalize ln.take (d - 1).toNat ++ [(i : Int)] = ln' at line' hlen ⊢
      intro q3 n7
      generalize e_H7 : upd _ q3 _ = H7
      obtain ⟨s7, h7⟩ := al e_H7 n7
      have hp7 := s7 _ _ (s6 _ _ (s5 _ _ hp4))
      have np3 : p ≠ q3 := ne_of_none (s6 _ _ (s5 _ _ hp4)) n7
      refine ⟨_, rfl, .inl ⟨rfl, _, SqL.of hp7⟩, _, rfl, _, rfl, q3, q3, _, _, rfl, rfl, h7, h7, ?_, ?_⟩
      · rw [List.length_map]
        have := line'.len
        exact sz (by omega)
      have hl' := line'.len
      rw [hdd] at hl'
      rw [← List.map_append]
      intro q4 n8
      generalize e_H8 : upd _ q4 _ = H8
      obtain ⟨s8, h8⟩ := al e_H8 n8
      obtain ⟨m, hm, hm2⟩ : ∃ m, atI ((ln' ++ ln').map V.int) (d - 2) = some (.int m) ∧ (1 < d → ln'[(d - 2).toNat]? = some m) := by
        by_cases c : 1 < d
        · have hlt : (d - 2).toNat < ln'.length := by omega
          refine ⟨ln'[(d - 2).toNat], ?_, fun _ => List.getElem?_eq_getElem hlt⟩
          refine at_of (j := (d - 2).toNat) (by omega) ?_
          rw [List.getElem?_map, List.getElem?_append_left (by omega), List.getElem?_eq_getElem hlt]
          rfl
        · have hd1 : d = 1 := by omega
          subst hd1
          obtain ⟨z, rfl⟩ : ∃ z, ln' = [z] := by
            match ln', hl' with
            | [z], _ => exact ⟨z, rfl⟩
            | [], h => simp at h
            | _ :: _ :: _, h => simp at h; omega
          exact ⟨z, atI_last [V.int z] (V.int z), fun h => absurd h c⟩
      refine ⟨_, rfl, _, _, rfl, rfl, _, _, _, _, rfl, rfl, SqL.of h8, hm, by show 2 ≤ sizeLine; decide, ?_⟩
      intro q5 n9
      generalize e_H9 : upd _ q5 _ = H9
      obtain ⟨s9, h9⟩ := al e_H9 n9
      have hp9 := s9 _ _ (s8 _ _ hp7)
      refine ⟨_, rfl, _, _, rfl, rfl, .inr ⟨_, rfl, ?_⟩⟩
      have hat : atI [V.non, V.int m] (if decide (1 < d) then 1 else 0) = some (vOpt (if 1 < d then some m else none)) := by
        by_cases c : 1 < d
        · rw [decide_eq_true c, if_pos c]
          exact atI_nat (j := 1) rfl
        · rw [decide_eq_false c, if_neg c]
          exact atI_nat (j := 0) rfl
      refine ⟨_, _, _, _, rfl, rfl, SqL.of h9, hat, p, _, _, rfl, rfl, hp9, ?_, ?_⟩
      · rw [List.length_map]
        exact szl (by omega)
      refine ⟨q3, ln', us ++ [if 1 < d then some m else none], _, _, rfl, np3, (((((((s3.trans s4).trans s5).trans s6).trans s7).trans s8).trans s9)).mut n1, ?_, ?_, ?_, ?_, .inr ⟨i, rfl, line'⟩⟩
      · rw [upd_same, List.map_append]
        rfl
      · rw [upd_ne np3.symm]
        exact s9 _ _ (s8 _ _ h7)
      · rw [List.length_append, hul]
        rfl
      · intro k' o ho
        by_cases c : k' < us.length
        · rw [List.getElem?_append_left c] at ho
          exact hup k' o ho
        · rw [List.getElem?_append_right (by omega)] at ho
          have hk : k' - us.length = 0 := by
            cases z : k' - us.length with
            | zero => rfl
            | succ y => rw [z] at ho; simp at ho
          have hki : k' = i := by omega
          rw [hk] at ho
          have ho : some (if 1 < d then some m else none) = some o := ho
          rw [hki, ← Option.some.inj ho]
          by_cases c1 : 1 < d
          · rw [if_pos c1]
            exact line'.upper (by rw [hdd]; exact c1) hil (by rw [hdd]; exact hm2 c1)
          · rw [if_neg c1]
            exact upAt_none dv (by rw [hdd]; exact c1)
    · rintro σ H3 ⟨q, ln, us, v3, v4, rfl, npq, s3, hp, hq, hul, hup, hln⟩
      exact ⟨_, rfl, k H3 p us s3 n1 hp ⟨by rw [hul, List.length_map], hup⟩⟩
theorem sc_law_due : FnScope ["_law_pairs", "_law_uppers_here", "_law_lowers", "_law_having", "_law_one", "_law_other", "_law_had"] ["_law_pairs", "_law_uppers_here", "_law_lowers"] (defScope st_law_due) := ⟨rfl, rfl, rfl, by decide +kernel, rfl, by decide +kernel, by decide +kernel⟩
theorem ok_law_due {f : Addr} {fd : FuncData} (T : Txt K mg) (F : FnP K "_law_due" "_law_due" st_law_due f fd)  : FnOk P w K mg base CX0 1 f fd ["_law_pairs", "_law_uppers_here", "_law_lowers"] (sp_law_due K) := by
  refine F.ok sc_law_due (fun vs H Q E h => ?_) (fun cdv A outer s H vs Q E hr h => ?_)
  · obtain ⟨d, ua, la, kv, w, uv, lv, us, ls, rfl, _⟩ := h
    rfl
  · obtain ⟨d, ua, la, kv, w, uv, lv, us, ls, rfl, hd, hu, pu, hl, pl, nu, nl, hp, k⟩ := h
    refine ⟨_, PSs.nox (pss_cons (ps_set (i := 3) sc_law_due.nd rfl (Or.inl rfl) (pe_lst pa_nil))
      (pss_cons (ps_for PassesOwn.never rfl (pi_list (pv 1)) (pg_name (i := 4) sc_law_due.nd rfl (Or.inr rfl))
      (pss_one (ps_if (pt_cmpR (op_neD hr.units) (pe_lc (own := [("_law_other", 5)]) (g := gName 5) (tt := (tB (tDIn (tTup (tCons (tOp (rIxT K) (tVar 4) (tC (.int 0))) (tCons (tOp (rIxT K) (tVar 5) (tC (.int 0))) tNil))) (tVar 0)))) rfl sc_law_due.nd (pi_list (pv 2)) (blkOk_by (own := [("_law_other", 5)]) (N := ["_law_pairs", "_law_uppers_here", "_law_lowers", "_law_having", "_law_one", "_law_other", "_law_had"]) (sc := defScope st_law_due) (by decide +kernel)) (fun _ _ _ _ _ => (pg_name (i := 5) sc_law_due.nd rfl (Or.inl rfl))) (fun _ _ _ _ _ => (pts_one (pt_cmp (pc_din (hu_of hr) (pe_tup (pa_cons (pe_ix ix_tup (pv 4) pe_int (fun _ _ => rfl)) (pa_cons (pe_ix ix_tup (pv 5) pe_int (fun _ _ => rfl)) pa_nil))) (pv 0))))) (fun _ _ _ _ _ => (pv 5))) (pe_lst pa_nil) (nomark _))
      (pss_one (ps_expr (pe_bm PySem.F.plainAttrs_list PySem.F.slot_list_append PySem.F.type_list_append mt_append (pv 3) (pa_cons (pv 4) pa_nil))))
      pss_nil)))
      (pss_cons (ps_set (i := 6) sc_law_due.nd rfl (Or.inl rfl) (pe_lst pa_nil))
      (pss_cons (ps_for PassesOwn.never rfl (pi_list (pv 2)) (pg_name (i := 5) sc_law_due.nd rfl (Or.inr rfl))
      (pss_one (ps_if (pt_cmpR (op_neD hr.units) (pe_lc (own := [("_law_one", 4)]) (g := gName 4) (tt := (tB (tDIn (tTup (tCons (tOp (rIxT K) (tVar 4) (tC (.int 0))) (tCons (tOp (rIxT K) (tVar 5) (tC (.int 0))) tNil))) (tVar 0)))) rfl sc_law_due.nd (pi_list (pv 1)) (blkOk_by (own := [("_law_one", 4)]) (N := ["_law_pairs", "_law_uppers_here", "_law_lowers", "_law_having", "_law_one", "_law_other", "_law_had"]) (sc := defScope st_law_due) (by decide +kernel)) (fun _ _ _ _ _ => (pg_name (i := 4) sc_law_due.nd rfl (Or.inl rfl))) (fun _ _ _ _ _ => (pts_one (pt_cmp (pc_din (hu_of hr) (pe_tup (pa_cons (pe_ix ix_tup (pv 4) pe_int (fun _ _ => rfl)) (pa_cons (pe_ix ix_tup (pv 5) pe_int (fun _ _ => rfl)) pa_nil))) (pv 0))))) (fun _ _ _ _ _ => (pv 4))) (pe_lst pa_nil) (nomark _))
      (pss_one (ps_expr (pe_bm PySem.F.plainAttrs_list PySem.F.slot_list_append PySem.F.type_list_append mt_append (pv 6) (pa_cons (pv 5) pa_nil))))
      pss_nil)))
      (pss_one (ps_ret (pe_tup (pa_cons (pv 3) (pa_cons (pv 6) pa_nil))))))))), ?_⟩
    refine ⟨Nat.zero_le _, ?_⟩
    intro p n1
    generalize e_H1 : upd _ p _ = H1
    obtain ⟨s1, h1⟩ := al e_H1 n1
    refine ⟨_, rfl, ua, rfl, ⟨_, s1.seq hu⟩, for_list (K := K) (a := ua) (xs := uv) (fun i σ H' => ∃ (hv : List V) (v4 v5 : Option V), σ = [some (.ref d), some (.ref ua), some (.ref la), some (.ref p), v4, v5, none] ∧ Same H H' ∧ H' p = some (.lst hv) ∧ PL K H' eS3 hv ((us.take i).filter (loB w ls))) ⟨[], none, none, rfl, s1, h1, .nil⟩ (fun i σ H' _ ⟨_, _, _, _, s, _⟩ => s.seq hu) ?_ ?_⟩
    · rintro i x σ H2 hi ⟨hv, v4, v5, rfl, s2, h2, p2⟩
      obtain ⟨u, hui, du⟩ := pu.get hi
      obtain ⟨tu, rfl, htu⟩ := dp_t3 du
      have hlt : i < us.length := (List.getElem?_eq_some_iff.mp hui).1
      have hum := List.mem_of_getElem? hui
      refine ⟨_, rfl, la, rfl, ⟨_, s2.seq hl⟩, fun D hD => ?_⟩
      refine lc_list (K := K) (a := la) (xs := lv) (fun j H' => Same H2 H' ∧ ∃ cv, H' D = some (.lst cv) ∧ PL K H' eS3 cv ((ls.take j).filter (bn3B w u))) ⟨Same.new hD, [], upd_same, .nil⟩ (fun j H' _ q => (s2.trans q.1).seq hl) ?_ ?_
      · rintro j y H3 hj ⟨s3, cv, h3, p3⟩
        obtain ⟨l, hlj, dl⟩ := pl.get hj
        obtain ⟨tl, rfl, htl⟩ := dp_t3 dl
        have hlt2 : j < ls.length := (List.getElem?_eq_some_iff.mp hlj).1
        have s03 := s2.trans s3
        refine ⟨rfl, _, rfl, _, _, _, _, rfl, rfl, s03.tup htu, atI_nat (j := 0) rfl, _, rfl, _, _, _, _, rfl, rfl, s03.tup htl, atI_nat (j := 0) rfl, by show 2 ≤ sizeLine; decide, ?_⟩
        intro q n4
        generalize e_H4 : upd _ q _ = H4
        obtain ⟨s4, h4⟩ := al e_H4 n4
        have s04 := s03.trans s4
        have h34 := s4 _ _ h3
        refine ⟨_, rfl, d, _, rfl, DGet.t (k := [Sum.inl u.1, Sum.inl l.1]) (s04 _ _ hd) h4, _, rfl, ?_⟩
        have hb : (valV kv [Sum.inl u.1, Sum.inl l.1]).isSome = bn3B w u l := by
          rw [Bool.eq_iff_iff, bn3B_iff]
          exact hp u hum l (List.mem_of_getElem? hlj)
        have hfl : ((ls.take j).filter (bn3B w u)).length ≤ j := Nat.le_trans (List.length_filter_le _ _) (by rw [List.length_take]; omega)
        rw [hb]
        cases cb : bn3B w u l with
        | true =>
          refine iteT ⟨_, rfl, cv, h34, szl (by rw [p3.length]; omega), (s3.trans s4).mut hD, cv ++ [.ref tl], upd_same, ?_⟩
          rw [take_snoc hlj, List.filter_append, List.filter_cons, if_pos cb]
          exact (PL.tk (p3.same s4) (TK.updL h34) flat_S3).app (.cons (dp_tk (TK.updL h34) _ _ (flat_S3 l) (dl.same s04)) .nil)
        | false =>
          refine iteF ⟨s3.trans s4, cv, h34, ?_⟩
          rw [take_snoc hlj, List.filter_append, List.filter_cons, if_neg (by rw [cb]; decide)]
          simpa using p3.same s4
      · rintro H3 ⟨s3, cv, h3, p3⟩
        rw [pl.length, List.take_length] at p3
        refine ⟨Nat.zero_le _, ?_⟩
        intro q n4
        generalize e_H4 : upd _ q _ = H4
        obtain ⟨s4, h4⟩ := al e_H4 n4
        have h34 := s4 _ _ h3
        refine ⟨_, .list [], (p3.same s4).dp (SqL.of h34), .lst (SqL.of h4) .nil, (Gd.map fun x _ => gd_S3 x).shaped (by decide), rfl, _, rfl, ?_⟩
        rw [eqv_nil, List.isEmpty_map, any_isEmpty, Bool.not_not]
        have s04 := (s2.trans s3).trans s4
        have h24 := s4 _ _ (s3 _ _ h2)
        have p24 := (p2.same s3).same s4
        have hfl : ((us.take i).filter (loB w ls)).length ≤ i := Nat.le_trans (List.length_filter_le _ _) (by rw [List.length_take]; omega)
        cases cb : ls.any (bn3B w u) with
        | true =>
          refine iteT ⟨_, rfl, .inl ⟨rfl, _, SqL.of h24⟩, _, rfl, p, _, _, rfl, rfl, h24, szl (by rw [p2.length]; omega), hv ++ [.ref tu], _, _, rfl, s04.mut n1, upd_same, ?_⟩
          rw [take_snoc hui, List.filter_append, List.filter_cons, if_pos (show loB w ls u = true from cb)]
          exact (PL.tk p24 (TK.updL h24) flat_S3).app (.cons (dp_tk (TK.updL h24) _ _ (flat_S3 u) (du.same s04)) .nil)
        | false =>
          refine iteF ⟨hv, _, _, rfl, s04, h24, ?_⟩
          rw [take_snoc hui, List.filter_append, List.filter_cons, if_neg (by rw [show loB w ls u = false from cb]; decide)]
          simpa using p24
    · rintro σ H2 ⟨hv, v4, v5, rfl, s2, h2, p2⟩
      rw [pu.length, List.take_length] at p2
      refine ⟨Nat.zero_le _, ?_⟩
      intro p' n3
      generalize e_H3 : upd _ p' _ = H3
      obtain ⟨s3, h3⟩ := al e_H3 n3
      have npp : p ≠ p' := ne_of_none h2 n3
      have n3' : H p' = none := s2.free n3
      have s13 := s2.trans s3
      refine ⟨_, rfl, la, rfl, ⟨_, s13.seq hl⟩, for_list (K := K) (a := la) (xs := lv) (fun i σ H' => ∃ (hv' : List V) (v4 v5 : Option V), σ = [some (.ref d), some (.ref ua), some (.ref la), some (.ref p), v4, v5, some (.ref p')] ∧ Same H H' ∧ H' p = some (.lst hv) ∧ PL K H' eS3 hv (us.filter (loB w ls)) ∧ H' p' = some (.lst hv') ∧ PL K H' eS3 hv' ((ls.take i).filter (upB w us))) ⟨[], _, _, rfl, s13, s3 _ _ h2, p2.same s3, h3, .nil⟩ (fun i σ H' _ ⟨_, _, _, _, s, _⟩ => s.seq hl) ?_ ?_⟩
      · clear s13 h3 n3 s3 p2 h2 s2
        rintro i x σ H2 hi ⟨hv', v4, v5, rfl, s2, hpp, ppp, h2, p2⟩
        obtain ⟨l, hli, dl⟩ := pl.get hi
        obtain ⟨tl, rfl, htl⟩ := dp_t3 dl
        have hlt : i < ls.length := (List.getElem?_eq_some_iff.mp hli).1
        have hlm := List.mem_of_getElem? hli
        refine ⟨_, rfl, ua, rfl, ⟨_, s2.seq hu⟩, fun D hD => ?_⟩
        refine lc_list (K := K) (a := ua) (xs := uv) (fun j H' => Same H2 H' ∧ ∃ cv, H' D = some (.lst cv) ∧ PL K H' eS3 cv ((us.take j).filter (fun u => bn3B w u l))) ⟨Same.new hD, [], upd_same, .nil⟩ (fun j H' _ q => (s2.trans q.1).seq hu) ?_ ?_
        · rintro j y H3 hj ⟨s3, cv, h3, p3⟩
          obtain ⟨u, huj, du⟩ := pu.get hj
          obtain ⟨tu, rfl, htu⟩ := dp_t3 du
          have hlt2 : j < us.length := (List.getElem?_eq_some_iff.mp huj).1
          have s03 := s2.trans s3
          refine ⟨rfl, _, rfl, _, _, _, _, rfl, rfl, s03.tup htu, atI_nat (j := 0) rfl, _, rfl, _, _, _, _, rfl, rfl, s03.tup htl, atI_nat (j := 0) rfl, by show 2 ≤ sizeLine; decide, ?_⟩
          intro q n4
          generalize e_H4 : upd _ q _ = H4
          obtain ⟨s4, h4⟩ := al e_H4 n4
          have s04 := s03.trans s4
          have h34 := s4 _ _ h3
          refine ⟨_, rfl, d, _, rfl, DGet.t (k := [Sum.inl u.1, Sum.inl l.1]) (s04 _ _ hd) h4, _, rfl, ?_⟩
          have hb : (valV kv [Sum.inl u.1, Sum.inl l.1]).isSome = bn3B w u l := by
            rw [Bool.eq_iff_iff, bn3B_iff]
            exact hp u (List.mem_of_getElem? huj) l hlm
          have hfl : cv.length ≤ j := by rw [p3.length]; exact Nat.le_trans (List.length_filter_le _ _) (by rw [List.length_take]; omega)
          rw [hb]
          cases cb : bn3B w u l with
          | true =>
            refine iteT ⟨_, rfl, cv, h34, szl (by omega), (s3.trans s4).mut hD, cv ++ [.ref tu], upd_same, ?_⟩
            rw [take_snoc huj, List.filter_append, List.filter_cons, if_pos cb]
            exact (PL.tk (p3.same s4) (TK.updL h34) flat_S3).app (.cons (dp_tk (TK.updL h34) _ _ (flat_S3 u) (du.same s04)) .nil)
          | false =>
            refine iteF ⟨s3.trans s4, cv, h34, ?_⟩
            rw [take_snoc huj, List.filter_append, List.filter_cons, if_neg (by rw [cb]; decide)]
            simpa using p3.same s4
        · rintro H3 ⟨s3, cv, h3, p3⟩
          rw [pu.length, List.take_length] at p3
          refine ⟨Nat.zero_le _, ?_⟩
          intro q n4
          generalize e_H4 : upd _ q _ = H4
          obtain ⟨s4, h4⟩ := al e_H4 n4
          have h34 := s4 _ _ h3
          refine ⟨_, .list [], (p3.same s4).dp (SqL.of h34), .lst (SqL.of h4) .nil, (Gd.map fun x _ => gd_S3 x).shaped (by decide), rfl, _, rfl, ?_⟩
          rw [eqv_nil, List.isEmpty_map, any_isEmpty, Bool.not_not]
          have s04 := (s2.trans s3).trans s4
          have h24 := s4 _ _ (s3 _ _ h2)
          have p24 := (p2.same s3).same s4
          have hpp4 := s4 _ _ (s3 _ _ hpp)
          have ppp4 := (ppp.same s3).same s4
          have hfl : ((ls.take i).filter (upB w us)).length ≤ i := Nat.le_trans (List.length_filter_le _ _) (by rw [List.length_take]; omega)
          cases cb : us.any (fun u => bn3B w u l) with
          | true =>
            refine iteT ⟨_, rfl, .inl ⟨rfl, _, SqL.of h24⟩, _, rfl, p', _, _, rfl, rfl, h24, szl (by rw [p2.length]; omega), hv' ++ [.ref tl], _, _, rfl, s04.mut n3', (upd_ne npp).trans hpp4, PL.tk ppp4 (TK.updL h24) flat_S3, upd_same, ?_⟩
            rw [take_snoc hli, List.filter_append, List.filter_cons, if_pos (show upB w us l = true from cb)]
            exact (PL.tk p24 (TK.updL h24) flat_S3).app (.cons (dp_tk (TK.updL h24) _ _ (flat_S3 l) (dl.same s04)) .nil)
          | false =>
            refine iteF ⟨hv', _, _, rfl, s04, hpp4, ppp4, h24, ?_⟩
            rw [take_snoc hli, List.filter_append, List.filter_cons, if_neg (by rw [show upB w us l = false from cb]; decide)]
            simpa using p24
      · rintro σ H4 ⟨hv', v4, v5, rfl, s4, hpp, ppp, h4, p4⟩
        rw [pl.length, List.take_length] at p4
        refine ⟨_, rfl, _, rfl, by show 2 ≤ sizeLine; decide, ?_⟩
        intro t n5
        generalize e_H5 : upd _ t _ = H5
        obtain ⟨s5, h5⟩ := al e_H5 n5
        exact k H5 t (s4.trans s5) (dp_of_tup (SqT.of h5) (.cons ((ppp.same s5).dp (SqL.of (s5 _ _ hpp))) (.cons ((p4.same s5).dp (SqL.of (s5 _ _ h4))) .nil)))
theorem sc_Open_init : FnScope ["self", "link"] ["self", "link"] (defScope st_Open_init) := ⟨rfl, rfl, rfl, by decide +kernel, rfl, by decide +kernel, by decide +kernel⟩
theorem ok_Open_init {f : Addr} {fd : FuncData} (T : Txt K mg) (F : FnP K "__init__" "Open.__init__" st_Open_init f fd)  : FnOk P w K mg base CX0 1 f fd ["self", "link"] (sp_Open_init K) := by
  refine F.ok sc_Open_init (fun vs H Q E h => ?_) (fun cdv A outer s H vs Q E hr h => ?_)
  · obtain ⟨o, dx, w, rfl, _⟩ := h
    rfl
  · obtain ⟨o, dx, w, rfl, ho, k⟩ := h
    refine ⟨_, PSs.nox (pss_cons (ps_fld (pv 0) (pv 1) rfl)
      (pss_cons (ps_fld (pv 0) (pe_lst pa_nil) rfl)
      (pss_one (ps_fld (pv 0) pe_dnewK rfl)))), ?_⟩
    refine ⟨_, rfl, _, rfl, o, _, dx, _, rfl, ho, T.cl_Open, T.na_Open_link, by show 0 < 1000; decide, ?_⟩
    generalize e_H1 : upd _ o _ = H1
    obtain ⟨b1, h1⟩ := ml e_H1
    refine ⟨Nat.zero_le _, ?_⟩
    intro sl n2
    generalize e_H2 : upd _ sl _ = H2
    obtain ⟨s2, h2⟩ := al e_H2 n2
    have hos : o ≠ sl := ne_of_none h1 n2
    refine ⟨_, rfl, o, _, dx, _, rfl, s2 _ _ h1, T.cl_Open, T.na_Open_stack, by show 1 < 1000; decide, ?_⟩
    generalize e_H3 : upd _ o _ = H3
    obtain ⟨b3, h3⟩ := ml e_H3
    intro hd n4
    generalize e_H4 : upd _ hd _ = H4
    obtain ⟨s4, h4⟩ := al e_H4 n4
    have hod : o ≠ hd := ne_of_none h3 n4
    refine ⟨_, rfl, o, _, dx, _, rfl, s4 _ _ h3, T.cl_Open, T.na_Open_having, by show 2 < 1000; decide, ?_⟩
    generalize e_H5 : upd _ o _ = H5
    obtain ⟨b5, h5⟩ := ml e_H5
    rw [opF_put] at h5
    refine k H5 sl hd (b1.free hos.symm n2) (b1.free hod.symm (s2.free (b3.free hod.symm n4))) ?_ ?_ h5 ?_ (b5 _ _ hod.symm h4)
    · exact ne_of_none (b3 _ _ hos.symm h2) n4
    · exact b1.trans ((But.of_same s2).trans (b3.trans ((But.of_same s4).trans b5)))
    · exact b5 _ _ hos.symm (s4 _ _ (b3 _ _ hos.symm h2))
theorem sc_Open_close : FnScope ["self", "begin", "inner"] ["self", "begin"] (defScope st_Open_close) := ⟨rfl, rfl, rfl, by decide +kernel, rfl, by decide +kernel, by decide +kernel⟩
theorem ok_Open_close {f : Addr} {fd : FuncData} (T : Txt K mg) (F : FnP K "close" "Open.close" st_Open_close f fd)  : FnOk P w K mg base CX0 1 f fd ["self", "begin"] (sp_Open_close K) := by
  refine F.ok sc_Open_close (fun vs H Q E h => ?_) (fun cdv A outer s H vs Q E hr h => ?_)
  · obtain ⟨o, dx, sl, hd, w, b, ws, rs, kv, rfl, _⟩ := h
    rfl
  · obtain ⟨o, dx, sl, hd, w, b, ws, rs, kv, rfl, ho, hs, ps, hh, hn, k⟩ := h
    refine ⟨_, PSs.nox (pss_one (ps_while PassesOwn.never (PW.pt (pw_and (pt_cmpR (op_neD hr.units) (pe_fld (pv 0) rfl) (pe_lst pa_nil) (nomark _)) (pw_and1 (pt_cmpR op_lt (pe_ix ix_tup (pe_ix ix_list (pe_fld (pv 0) rfl) (pe_un un_neg pe_int) (fun _ _ => rfl)) pe_int (fun _ _ => rfl)) (pv 1) (nomark _)))))
      (pss_cons (ps_set (i := 2) sc_Open_close.nd rfl (Or.inl rfl) (pe_bm0 PySem.F.plainAttrs_list PySem.F.slot_list_pop PySem.F.type_list_pop mt_pop (pe_fld (pv 0) rfl)))
      (pss_one (ps_if (PW.pt (pw_and (pt_cmpR op_eq (pe_fld (pv 0) rfl) pe_str (nomark _)) (pw_and (pt_cmp (pc_din (hu_of hr) (pe_ix ix_tup (pv 2) pe_int (fun _ _ => rfl)) (pe_fld (pv 0) rfl))) (pw_and1 (pt_cmpR (op_neD hr.units) (pe_fld (pv 0) rfl) (pe_lst pa_nil) (nomark _))))))
      (pss_one (ps_dput (hu_of hr) (pe_fld (pv 0) rfl) (pe_ix ix_tup (pe_ix ix_list (pe_fld (pv 0) rfl) (pe_un un_neg pe_int) (fun _ _ => rfl)) pe_int (fun _ _ => rfl)) pe_bl rfl))
      pss_nil))))), ?_⟩
    have nos : o ≠ sl := ne_of ho hs (by intro z; cases z)
    have noh : o ≠ hd := ne_of ho hh (by intro z; cases z)
    have nsh : sl ≠ hd := ne_of hs hh (by intro z; cases z)
    refine ⟨fun m σ H' => ∃ (ws' : List V) (rs' : List S3) (kv' : List (Key × V)) (v : Option V), m = rs'.length ∧ kv'.length + rs'.length ≤ 100000 ∧ σ = [some (.ref o), some (.int b), v] ∧ But2 sl hd H H' ∧ H' sl = some (.lst ws') ∧ PL K H' eS3 ws' rs'.reverse ∧ H' hd = some (.dK kv') ∧ clo (decide (w = "//")) b rs' kv' = clo (decide (w = "//")) b rs kv, ⟨_, ws, rs, kv, none, rfl, hn, rfl, But2.refl _ _ _, hs, ps, hh, rfl⟩, ?_⟩
    rintro m σ H1 ⟨ws1, rs1, kv1, v, rfl, hn1, rfl, b1, h1, p1, d1, e1⟩
    have o1 := b1 _ _ nos noh ho
    refine ⟨_, rfl, o, _, dx, _, _, rfl, o1, T.cl_Open, T.na_Open_stack, opF_stack _ _ _, Nat.zero_le _, ?_⟩
    intro q nq
    generalize e_H2 : upd _ q _ = H2
    obtain ⟨s2, hq⟩ := al e_H2 nq
    have b2 : But2 sl hd H H2 := b1.trans (But2.of_same s2)
    replace h1 := s2 _ _ h1
    replace d1 := s2 _ _ d1
    replace o1 := s2 _ _ o1
    replace p1 := p1.same s2
    refine ⟨_, .list [], p1.dp (SqL.of h1), .lst (SqL.of hq) .nil, (Gd.map fun x _ => gd_S3 x).shaped (by decide), rfl, _, rfl, ?_⟩
    rw [eqv_nil, List.isEmpty_map]
    cases rs1 with
    | nil =>
      refine iteF (iteF (k _ ws1 b2 h1 ?_ ?_))
      · rw [← e1]
        exact p1
      · rw [← e1]
        exact d1
    | cons x r =>
      have p1' := p1
      rw [List.reverse_cons] at p1'
      obtain ⟨w0, vx, rfl, p0, pvx⟩ := paired_snoc_inv p1'
      obtain ⟨tx, rfl, htx⟩ := dp_t3 pvx
      rw [show (!(x :: r).reverse.isEmpty) = true by simp]
      refine iteT ⟨_, rfl, o, _, dx, _, _, rfl, o1, T.cl_Open, T.na_Open_stack, opF_stack _ _ _, _, rfl, _, _, _, _, rfl, rfl, SqL.of h1, atI_last _ _, _, _, _, _, rfl, rfl, htx, atI_nat (j := 1) rfl, _, rfl, _, _, rfl, rfl, _, rfl, ?_⟩
      refine ite2 (fun c => ?_) (fun c => ?_)
      · have c : x.2.1 < b := of_decide_eq_true c
        have ec : clo (decide (w = "//")) b (x :: r) kv1 = clo (decide (w = "//")) b r (popd (decide (w = "//")) kv1 x r) := if_pos c
        refine ⟨_, fun _ _ h => h, _, rfl, o, _, dx, _, _, rfl, o1, T.cl_Open, T.na_Open_stack, opF_stack _ _ _, .inl ⟨rfl, _, SqL.of h1⟩, _, _, _, rfl, rfl, h1, last_get _ _, ?_⟩
        rw [List.dropLast_concat]
        generalize e_H3 : upd _ sl _ = H3
        obtain ⟨b3, h3⟩ := ml e_H3
        have tk3 : TK H2 H3 := TK.butL b3 h1
        have o3 := b3 _ _ nos o1
        have d3 := b3 _ _ nsh.symm d1
        have p3 := PL.tk p0 tk3 flat_S3
        have b23 : But2 sl hd H H3 := b2.trans (But2.l b3)
        rw [List.length_cons] at hn1
        refine ⟨_, rfl, o, _, dx, _, _, rfl, o3, T.cl_Open, T.na_Open_link, opF_link _ _ _, rfl, _, rfl, ?_⟩
        have keep : popd (decide (w = "//")) kv1 x r = kv1 → ∀ H4 v', Same H3 H4 → ∃ m', m' < (x :: r).length ∧ ∃ (ws' : List V) (rs' : List S3) (kv' : List (Key × V)) (v : Option V), m' = rs'.length ∧ kv'.length + rs'.length ≤ 100000 ∧ [some (V.ref o), some (.int b), v'] = [some (.ref o), some (.int b), v] ∧ But2 sl hd H H4 ∧ H4 sl = some (.lst ws') ∧ PL K H4 eS3 ws' rs'.reverse ∧ H4 hd = some (.dK kv') ∧ clo (decide (w = "//")) b rs' kv' = clo (decide (w = "//")) b rs kv := fun q H4 v' s4 => ⟨r.length, Nat.lt_succ_self _, w0, r, kv1, v', rfl, by omega, rfl, b23.trans (But2.of_same s4), s4 _ _ h3, p3.same s4, s4 _ _ d3, by rw [← e1, ec, q]⟩
        refine ite2 (fun cw => ?_) (fun cw => ?_)
        · have cw : w = "//" := by have := of_decide_eq_true cw; injection this
          refine ⟨_, rfl, _, _, _, _, rfl, rfl, tk3.sq htx, atI_nat (j := 0) rfl, _, rfl, o, _, dx, _, _, rfl, o3, T.cl_Open, T.na_Open_having, opF_having _ _ _, hd, _, rfl, DGet.k (k := Sum.inl x.1) d3, _, rfl, ?_⟩
          refine ite2 (fun ch => ?_) (fun ch => ?_)
          · refine ⟨_, rfl, o, _, dx, _, _, rfl, o3, T.cl_Open, T.na_Open_stack, opF_stack _ _ _, Nat.zero_le _, ?_⟩
            intro q4 nq4
            generalize e_H4 : upd _ q4 _ = H4
            obtain ⟨s4, hq4⟩ := al e_H4 nq4
            refine ⟨_, .list [], (p3.same s4).dp (SqL.of (s4 _ _ h3)), .lst (SqL.of hq4) .nil, (Gd.map fun x _ => gd_S3 x).shaped (by decide), rfl, _, rfl, ?_⟩
            rw [eqv_nil, List.isEmpty_map]
            cases r with
            | nil => exact iteF (keep rfl H4 _ s4)
            | cons y r' =>
              have p3' := p3.same s4
              rw [List.reverse_cons] at p3'
              obtain ⟨w1, vy, rfl, p4, pvy⟩ := paired_snoc_inv p3'
              obtain ⟨ty, rfl, hty⟩ := dp_t3 pvy
              have o4 := s4 _ _ o3
              have h4 := s4 _ _ h3
              have d4 := s4 _ _ d3
              rw [show (!(y :: r').reverse.isEmpty) = true by simp]
              refine iteT ⟨_, rfl, o, _, dx, _, _, rfl, o4, T.cl_Open, T.na_Open_having, opF_having _ _ _, _, rfl, o, _, dx, _, _, rfl, o4, T.cl_Open, T.na_Open_stack, opF_stack _ _ _, _, rfl, _, _, _, _, rfl, rfl, SqL.of h4, atI_last _ _, _, _, _, _, rfl, rfl, hty, atI_nat (j := 0) rfl, hd, _, rfl, DPut.k (k := Sum.inl y.1) d4 (szl (by omega)), ?_⟩
              have ep : popd (decide (w = "//")) kv1 x (y :: r') = put kv1 y.1 := if_pos ⟨decide_eq_true cw, ch⟩
              have hpl := put_len kv1 y.1
              refine ⟨(y :: r').length, Nat.lt_succ_self _, w1 ++ [.ref ty], y :: r', put kv1 y.1, _, rfl, by omega, rfl, b23.trans ((But2.of_same s4).trans (But2.r But.upd)), (upd_ne nsh).trans h4, PL.tk (p3.same s4) (TK.updD d4) flat_S3, upd_same, by rw [← e1, ec, ep]⟩
          · refine keep ?_ H3 _ (Same.refl _)
            cases r with
            | nil => rfl
            | cons y r' => exact if_neg fun z => ch z.2
        · have cw : ¬ w = "//" := fun z => cw (decide_eq_true (by rw [z]))
          refine keep ?_ H3 _ (Same.refl _)
          cases r with
          | nil => rfl
          | cons y r' => exact if_neg fun z => cw (of_decide_eq_true z.1)
      · have c : ¬ x.2.1 < b := fun z => c (decide_eq_true z)
        have ec : clo (decide (w = "//")) b (x :: r) kv1 = (x :: r, kv1) := if_neg c
        refine k _ _ b2 h1 ?_ ?_
        · rw [← e1, ec]
          exact p1
        · rw [← e1, ec]
          exact d1
theorem sc_Open_meet : FnScope ["self", "lower"] ["self", "lower"] (defScope st_Open_meet) := ⟨rfl, rfl, rfl, by decide +kernel, rfl, by decide +kernel, by decide +kernel⟩
theorem ok_Open_meet {f : Addr} {fd : FuncData} (T : Txt K mg) (F : FnP K "meet" "Open.meet" st_Open_meet f fd) (G_Open_close : Mt P w K mg base CX0 1 (He.ga K "Open") "close" ["self", "begin"] (sp_Open_close K)) : FnOk P w K mg base CX0 2 f fd ["self", "lower"] (sp_Open_meet K) := by
  refine F.ok sc_Open_meet (fun vs H Q E h => ?_) (fun cdv A outer s H vs Q E hr h => ?_)
  · obtain ⟨o, dx, sl, hd, t, w, l, ws, rs, kv, rfl, _⟩ := h
    rfl
  · obtain ⟨o, dx, sl, hd, t, w, l, ws, rs, kv, rfl, ht, ho, hs, ps, hh, hn, k⟩ := h
    refine ⟨_, PSs.nox (pss_cons (ps_expr (pe_methF (pv 0) G_Open_close (hr.mono (by decide)) pass0 (pa_cons (pe_ix ix_tup (pv 1) pe_int (fun _ _ => rfl)) pa_nil)))
      (pss_one (ps_if (PW.pt (pw_and (pt_cmpR (op_neD hr.units) (pe_fld (pv 0) rfl) (pe_lst pa_nil) (nomark _)) (pw_and1 (PW.pt (pw_or (pt_cmpR op_eq (pe_fld (pv 0) rfl) pe_str (nomark _)) (pw_or1 (pt_cmpR op_eq (pe_op op_add (pe_ix ix_tup (pe_ix ix_list (pe_fld (pv 0) rfl) (pe_un un_neg pe_int) (fun _ _ => rfl)) pe_int (fun _ _ => rfl)) pe_int) (pe_ix ix_tup (pv 1) pe_int (fun _ _ => rfl)) (nomark _))))))))
      (pss_one (ps_dput (hu_of hr) (pe_fld (pv 0) rfl) (pe_ix ix_tup (pe_ix ix_list (pe_fld (pv 0) rfl) (pe_un un_neg pe_int) (fun _ _ => rfl)) pe_int (fun _ _ => rfl)) pe_bl rfl))
      pss_nil))), ?_⟩
    have nos : o ≠ sl := ne_of ho hs (by intro z; cases z)
    have noh : o ≠ hd := ne_of ho hh (by intro z; cases z)
    have nsh : sl ≠ hd := ne_of hs hh (by intro z; cases z)
    refine ⟨_, rfl, o, dx, _, rfl, ho, rfl, _, rfl, _, _, _, _, rfl, rfl, ht, atI_nat (j := 0) rfl, o, dx, sl, hd, w, l.1, ws, rs, kv, rfl, ho, hs, ps, hh, by omega, fun H1 ws1 b1 h1 p1 d1 => ?_⟩
    have tk1 : TK H H1 := TK.but2 b1 hs hh
    have o1 := b1 _ _ nos noh ho
    have ht1 := tk1.sq ht
    have hcl := clo_len (decide (w = "//")) l.1 rs kv
    generalize ec : clo (decide (w = "//")) l.1 rs kv = c at p1 d1 hcl k
    obtain ⟨rs1, kv1⟩ := c
    refine ⟨_, rfl, o, _, dx, _, _, rfl, o1, T.cl_Open, T.na_Open_stack, opF_stack _ _ _, Nat.zero_le _, ?_⟩
    intro q nq
    generalize e_H2 : upd _ q _ = H2
    obtain ⟨s2, hq⟩ := al e_H2 nq
    have b2 : But2 sl hd H H2 := b1.trans (But2.of_same s2)
    replace h1 := s2 _ _ h1
    replace d1 := s2 _ _ d1
    replace o1 := s2 _ _ o1
    replace ht1 := s2.tup ht1
    replace p1 := p1.same s2
    refine ⟨_, .list [], p1.dp (SqL.of h1), .lst (SqL.of hq) .nil, (Gd.map fun x _ => gd_S3 x).shaped (by decide), rfl, _, rfl, ?_⟩
    rw [eqv_nil, List.isEmpty_map]
    cases rs1 with
    | nil => exact iteF (iteF (k _ ws1 b2 h1 p1 d1))
    | cons x r =>
      have p1' := p1
      rw [List.reverse_cons] at p1'
      obtain ⟨w0, vx, rfl, p0, pvx⟩ := paired_snoc_inv p1'
      obtain ⟨tx, rfl, htx⟩ := dp_t3 pvx
      have hlen : kv1.length < 100000 := by
        have : kv1.length + (x :: r).length ≤ kv.length + rs.length := hcl
        omega
      have yes : (decide (w = "//") = true ∨ x.2.2 + 1 = l.2.2) → mark (decide (w = "//")) l (x :: r) kv1 = put kv1 x.1 := fun q => if_pos q
      have no : ¬ (decide (w = "//") = true ∨ x.2.2 + 1 = l.2.2) → mark (decide (w = "//")) l (x :: r) kv1 = kv1 := fun q => if_neg q
      rw [show (!(x :: r).reverse.isEmpty) = true by simp]
      refine iteT ⟨_, rfl, o, _, dx, _, _, rfl, o1, T.cl_Open, T.na_Open_link, opF_link _ _ _, rfl, _, rfl, ?_⟩
      refine ite2 (fun cw => ?_) (fun cw => ?_)
      · have cw : w = "//" := by have := of_decide_eq_true cw; injection this
        refine iteT ⟨_, rfl, o, _, dx, _, _, rfl, o1, T.cl_Open, T.na_Open_having, opF_having _ _ _, _, rfl, o, _, dx, _, _, rfl, o1, T.cl_Open, T.na_Open_stack, opF_stack _ _ _, _, rfl, _, _, _, _, rfl, rfl, SqL.of h1, atI_last _ _, _, _, _, _, rfl, rfl, htx, atI_nat (j := 0) rfl, hd, _, rfl, DPut.k (k := Sum.inl x.1) d1 (szl (by omega)), ?_⟩
        refine k _ _ (b2.trans (But2.r But.upd)) ((upd_ne nsh).trans h1) (PL.tk p1 (TK.updD d1) flat_S3) ?_
        rw [upd_same]
        show _ = some (HO.dK (mark (decide (w = "//")) l (x :: r) kv1))
        rw [yes (.inl (decide_eq_true cw))]
        rfl
      · have cw : ¬ w = "//" := fun z => cw (decide_eq_true (by rw [z]))
        refine ⟨_, rfl, o, _, dx, _, _, rfl, o1, T.cl_Open, T.na_Open_stack, opF_stack _ _ _, _, rfl, _, _, _, _, rfl, rfl, SqL.of h1, atI_last _ _, _, _, _, _, rfl, rfl, htx, atI_nat (j := 2) rfl, _, _, rfl, rfl, _, rfl, _, _, _, _, rfl, rfl, ht1, atI_nat (j := 2) rfl, rfl, _, rfl, ?_⟩
        refine ite2 (fun cd => ?_) (fun cd => ?_)
        · have cd : x.2.2 + 1 = l.2.2 := by have := of_decide_eq_true cd; injection this
          refine ⟨_, rfl, o, _, dx, _, _, rfl, o1, T.cl_Open, T.na_Open_having, opF_having _ _ _, _, rfl, o, _, dx, _, _, rfl, o1, T.cl_Open, T.na_Open_stack, opF_stack _ _ _, _, rfl, _, _, _, _, rfl, rfl, SqL.of h1, atI_last _ _, _, _, _, _, rfl, rfl, htx, atI_nat (j := 0) rfl, hd, _, rfl, DPut.k (k := Sum.inl x.1) d1 (szl (by omega)), ?_⟩
          refine k _ _ (b2.trans (But2.r But.upd)) ((upd_ne nsh).trans h1) (PL.tk p1 (TK.updD d1) flat_S3) ?_
          rw [upd_same]
          show _ = some (HO.dK (mark (decide (w = "//")) l (x :: r) kv1))
          rw [yes (.inr cd)]
          rfl
        · refine k _ _ b2 h1 p1 ?_
          show _ = some (HO.dK (mark (decide (w = "//")) l (x :: r) kv1))
          rw [no]
          · exact d1
          · rintro (q | q)
            · exact cw (of_decide_eq_true q)
            · exact cd (decide_eq_true (by show V.int (x.2.2 + 1) = V.int l.2.2; rw [q]))
structure InvWL (K : PySem.W.Frag) (H : Hp) (o dx sl hd : Addr) (w : Str) (ls us : List S3) (i : Nat) (at_ : Nat) (cur : Int) (rs : List S3) (sv : List V) (kv : List (Key × V)) (H' : Hp) : Prop where
  s : Same H H'
  at_le : at_ ≤ us.length
  ho : H' o = some (.ins (He.ga K "Open") dx (opF w sl hd))
  hs : H' sl = some (.lst sv)
  ps : PL K H' eS3 sv rs.reverse
  hh : H' hd = some (.dK kv)
  low : Low (decide (w = "//")) us (ls.take i) at_ cur rs kv
  len : kv.length + rs.length ≤ at_ + i
  cu : ∀ l ∈ ls.drop i, cur ≤ l.1
  lt : ∀ l ∈ ls.drop i, ∀ u ∈ us.take at_, u.1 < l.1
  dn : ∀ u ∈ us.drop at_, ∀ l ∈ ls.take i, l.1 ≤ u.1
theorem sc_with_lower : FnScope ["uppers", "lowers", "way", "those", "at", "lower", "upper"] ["uppers", "lowers", "way"] (defScope st_with_lower) := ⟨rfl, rfl, rfl, by decide +kernel, rfl, by decide +kernel, by decide +kernel⟩
theorem ok_with_lower {f : Addr} {fd : FuncData} (T : Txt K mg) (F : FnP K "with_lower" "with_lower" st_with_lower f fd) (M_Open : Mkr P w K mg base CX0 1 (He.ga K "Open") "Open" ["self", "link"] (sp_Open_init K)) (G_Open_close : Mt P w K mg base CX0 1 (He.ga K "Open") "close" ["self", "begin"] (sp_Open_close K)) (G_Open_meet : Mt P w K mg base CX0 2 (He.ga K "Open") "meet" ["self", "lower"] (sp_Open_meet K)) : FnOk P w K mg base CX0 3 f fd ["uppers", "lowers", "way"] (sp_with_lower K) := by
  refine F.ok sc_with_lower (fun vs H Q E h => ?_) (fun cdv A outer s H vs Q E hr h => ?_)
  · obtain ⟨la, ua, w, A, ls, us, lv, uv, rfl, _⟩ := h
    rfl
  · obtain ⟨la, ua, w, A, ls, us, lv, uv, rfl, hl, pl, hu, pu, F, als, aus, srl, su, l0, u0, nl, nu, k⟩ := h
    refine ⟨_, PSs.nox (pss_cons (ps_set (i := 3) sc_with_lower.nd rfl (Or.inr rfl) (pe_makeF M_Open (hr.mono (by decide)) pass0 (pa_cons (pv 2) pa_nil)))
      (pss_cons (ps_set (i := 4) sc_with_lower.nd rfl (Or.inl rfl) pe_int)
      (pss_cons (ps_for PassesOwn.never rfl (pi_list (pv 1)) (pg_name (i := 5) sc_with_lower.nd rfl (Or.inl rfl))
      (pss_cons (ps_while PassesOwn.never (PW.pt (pw_and (pt_cmpR op_lt (pv 4) (pe_callB call_len rfl T.free_len PySem.boot_len (pa_cons (pv 0) pa_nil)) (nomark _)) (pw_and1 (pt_cmpR op_lt (pe_ix ix_tup (pe_ix ix_list (pv 0) (pv 4) (fun _ _ => rfl)) pe_int (fun _ _ => rfl)) (pe_ix ix_tup (pv 5) pe_int (fun _ _ => rfl)) (nomark _)))))
      (pss_cons (ps_expr (pe_methF (pv 3) G_Open_close (hr.mono (by decide)) pass0 (pa_cons (pe_ix ix_tup (pe_ix ix_list (pv 0) (pv 4) (fun _ _ => rfl)) pe_int (fun _ _ => rfl)) pa_nil)))
      (pss_cons (ps_expr (pe_bm PySem.F.plainAttrs_list PySem.F.slot_list_append PySem.F.type_list_append mt_append (pe_fld (pv 3) rfl) (pa_cons (pe_ix ix_list (pv 0) (pv 4) (fun _ _ => rfl)) pa_nil)))
      (pss_one (ps_aug (i := 4) sc_with_lower.nd rfl (Or.inl rfl) pe_int ip_add)))))
      (pss_one (ps_expr (pe_methF (pv 3) G_Open_meet (hr.mono (by decide)) pass0 (pa_cons (pv 5) pa_nil))))))
      (pss_cons (ps_if (pt_cmpR (op_neD hr.units) (pe_fld (pv 3) rfl) (pe_lst pa_nil) (nomark _))
      (pss_one (ps_expr (pe_methF (pv 3) G_Open_close (hr.mono (by decide)) pass0 (pa_cons (pe_op op_add (pe_ix ix_tup (pe_ix ix_list (pe_fld (pv 3) rfl) pe_int (fun _ _ => rfl)) pe_int (fun _ _ => rfl)) pe_int) pa_nil))))
      pss_nil)
      (pss_one (ps_ret (pe_lc (own := [("upper", 6)]) (g := gName 6) (tt := (tB (tDIn (tOp (rIxT K) (tVar 6) (tC (.int 0))) (tFld K (tVar 3) "having")))) rfl sc_with_lower.nd (pi_list (pv 0)) (blkOk_by (own := [("upper", 6)]) (N := ["uppers", "lowers", "way", "those", "at", "lower", "upper"]) (sc := defScope st_with_lower) (by decide +kernel)) (fun _ _ _ _ _ => (pg_name (i := 6) sc_with_lower.nd rfl (Or.inl rfl))) (fun _ _ _ _ _ => (pts_one (pt_cmp (pc_din (hu_of hr) (pe_ix ix_tup (pv 6) pe_int (fun _ _ => rfl)) (pe_fld (pv 3) rfl))))) (fun _ _ _ _ _ => (pv 6))))))))), ?_⟩
    refine ⟨_, rfl, fun o dx no ndx nod => ?_⟩
    generalize e0 : upd (upd H dx (.own o)) o _ = H0
    have s0 : Same H H0 := by
      subst e0
      exact (Same.new ndx).trans (Same.new (by rw [upd_ne nod.symm]; exact no))
    have ho0 : H0 o = some (.ins (He.ga K "Open") dx []) := by subst e0; exact upd_same
    refine ⟨o, dx, w, rfl, ho0, fun H1 sl hd n1 n2 nsh b1 o1 h1 d1 => ⟨rfl, ?_⟩⟩
    have s1 : Same H H1 := same_of_but s0 no b1
    have nsl : H sl = none := s0.free n1
    have nhd : H hd = none := s0.free n2
    have nos : o ≠ sl := ne_of o1 h1 (by intro z; cases z)
    have noh : o ≠ hd := ne_of o1 d1 (by intro z; cases z)
    refine ⟨_, rfl, la, rfl, ⟨_, s1.seq hl⟩, for_list (K := K) (a := la) (xs := lv) (fun i σ H' => ∃ (at_ : Nat) (cur : Int) (rs : List S3) (sv : List V) (kv : List (Key × V)) (v v2 : Option V), σ = [some (.ref ua), some (.ref la), some (.str w), some (.ref o), some (.int at_), v, v2] ∧ InvWL K H o dx sl hd w ls us i at_ cur rs sv kv H') ?_ (fun i σ H' _ ⟨_, _, _, _, _, _, _, _, I⟩ => I.s.seq hl) ?_ ?_⟩
    · exact ⟨0, 0, [], [], [], none, none, rfl, s1, Nat.zero_le _, o1, h1, .nil, d1, Low.start u0, Nat.zero_le _, by simpa using l0, by simp, by simp⟩
    · rintro i x σ H3 hi ⟨at_, cur, rs, sv, kv, v, v2, rfl, I⟩
      obtain ⟨l, hli, dx_⟩ := pl.get hi
      obtain ⟨t, rfl, ht⟩ := dp_t3 dx_
      have hdr : ls.drop i = l :: ls.drop (i + 1) := by
        obtain ⟨q1, q2⟩ := List.getElem?_eq_some_iff.mp hli
        rw [← q2, List.drop_eq_getElem_cons q1]
      have hil : i < ls.length := (List.getElem?_eq_some_iff.mp hli).1
      have hA : A l := als l (List.mem_of_getElem? hli)
      have hlm : l ∈ ls.drop i := by rw [hdr]; exact List.mem_cons_self ..
      have hnext : ∀ z ∈ ls.drop (i + 1), l.1 ≤ z.1 := by
        have sd : (l :: ls.drop (i + 1)).Pairwise fun x y => x.1 < y.1 := by rw [← hdr]; exact srl.sublist (List.drop_sublist _ _)
        exact fun z hz => Int.le_of_lt ((List.pairwise_cons.mp sd).1 z hz)
      refine ⟨fun m σ H' => ∃ (at_ : Nat) (cur : Int) (rs : List S3) (sv : List V) (kv : List (Key × V)), m = us.length - at_ ∧ σ = [some (.ref ua), some (.ref la), some (.str w), some (.ref o), some (.int at_), some (.ref t), v2] ∧ InvWL K H o dx sl hd w ls us i at_ cur rs sv kv H', ⟨_, at_, cur, rs, sv, kv, rfl, rfl, I⟩, ?_⟩
      clear I
      rintro m σ H4 ⟨at_, cur, rs, sv, kv, rfl, rfl, I⟩
      have ht4 : SqT K H4 t _ := I.s.tup ht
      have hlen := I.len
      have hatl := I.at_le
      refine ⟨_, rfl, _, rfl, _, _, rfl, Or.inl ⟨_, I.s.seq hu, rfl⟩, _, _, rfl, rfl, _, rfl, ?_⟩
      refine ite2 (fun c => ?_) (fun c => ?_)
      · have c : (at_ : Int) < (uv.length : Int) := of_decide_eq_true c
        rw [pu.length] at c
        have hlu : at_ < us.length := by omega
        have eu := List.getElem?_eq_getElem hlu
        generalize us[at_] = u at eu
        obtain ⟨y, hy, dy⟩ := pu.get' eu
        obtain ⟨ty, rfl, hty⟩ := dp_t3 dy
        have hty4 : SqT K H4 ty _ := I.s.tup hty
        have hd2 : us.drop at_ = u :: us.drop (at_ + 1) := by
          obtain ⟨q1, q2⟩ := List.getElem?_eq_some_iff.mp eu
          rw [← q2, List.drop_eq_getElem_cons q1]
        refine ⟨_, rfl, _, rfl, _, _, _, _, rfl, rfl, I.s.seq hu, atI_nat hy, _, _, _, _, rfl, rfl, hty4, atI_nat (j := 0) rfl, _, rfl, _, _, _, _, rfl, rfl, ht4, atI_nat (j := 0) rfl, _, _, rfl, rfl, _, rfl, ?_⟩
        refine ite2 (fun c2 => ?_) (fun c2 => ?_)
        · have c2 : u.1 < l.1 := of_decide_eq_true c2
          refine ⟨_, fun _ _ h => h, _, rfl, o, dx, _, rfl, I.ho, rfl, _, rfl, _, rfl, _, _, _, _, rfl, rfl, I.s.seq hu, atI_nat hy, _, _, _, _, rfl, rfl, hty4, atI_nat (j := 0) rfl, o, dx, sl, hd, w, u.1, sv, rs, kv, rfl, I.ho, I.hs, I.ps, I.hh, by omega, fun H5 sv5 b5 h5 p5 d5 => ?_⟩
          have s5 : Same H H5 := same_of_but2 I.s nsl nhd b5
          have o5 := b5 _ _ nos noh I.ho
          have hcl := clo_len (decide (w = "//")) u.1 rs kv
          have hl5 : sv5.length ≤ 3000 := by
            rw [p5.length, List.length_reverse]
            omega
          refine ⟨_, rfl, o, _, dx, _, _, rfl, o5, T.cl_Open, T.na_Open_stack, opF_stack _ _ _, .inl ⟨rfl, _, SqL.of h5⟩, _, rfl, _, rfl, _, _, _, _, rfl, rfl, s5.seq hu, atI_nat hy, sl, _, _, rfl, rfl, h5, szl (by omega), ?_⟩
          have lo5 := I.low.push F aus su eu
          refine ⟨_, rfl, _, _, rfl, rfl, us.length - (at_ + 1), by omega, at_ + 1, u.1, u :: (clo (decide (w = "//")) u.1 rs kv).1, sv5 ++ [.ref ty], _, rfl, rfl, s5.mut nsl, hlu, (upd_ne nos).trans o5, upd_same, ?_, (upd_ne nsh.symm).trans d5, lo5, by rw [List.length_cons]; omega, fun z hz => ?_, fun z hz v hv => ?_, fun v hv z hz => I.dn v (by rw [hd2]; exact List.mem_cons_of_mem _ hv) z hz⟩
          · rw [List.reverse_cons]
            exact (PL.tk p5 (TK.updL h5) flat_S3).app (.cons (dp_tk (TK.updL h5) _ _ (flat_S3 u) ((dy.same s5))) .nil)
          · rw [hdr] at hz
            rcases List.mem_cons.mp hz with rfl | hz
            · exact Int.le_of_lt c2
            · exact Int.le_trans (Int.le_of_lt c2) (hnext z hz)
          · have hvl : v.1 < l.1 := by
              rw [take_snoc eu] at hv
              rcases List.mem_append.mp hv with hv | hv
              · exact I.lt l hlm v hv
              · rw [List.mem_singleton.mp hv]
                exact c2
            rw [hdr] at hz
            rcases List.mem_cons.mp hz with rfl | hz
            · exact hvl
            · exact Int.lt_of_lt_of_le hvl (hnext z hz)
        · have c2 : ¬ u.1 < l.1 := fun z => c2 (decide_eq_true z)
          have hge : ∀ z ∈ us.drop at_, l.1 ≤ z.1 := by
            have sd : (u :: us.drop (at_ + 1)).Pairwise fun x y => x.1 < y.1 := by rw [← hd2]; exact su.sublist (List.drop_sublist _ _)
            intro z hz
            rw [hd2] at hz
            rcases List.mem_cons.mp hz with rfl | hz
            · omega
            · have := (List.pairwise_cons.mp sd).1 z hz
              omega
          refine ⟨_, rfl, o, dx, _, rfl, I.ho, rfl, _, rfl, o, dx, sl, hd, t, w, l, sv, rs, kv, rfl, ht4, I.ho, I.hs, I.ps, I.hh, by omega, fun H5 sv5 b5 h5 p5 d5 => ?_⟩
          have s5 : Same H H5 := same_of_but2 I.s nsl nhd b5
          have lo5 := (I.low.close F aus su (b := l.1) (I.cu l hlm) hge).meet F aus su hA (I.lt l hlm)
          have hcl := clo_len (decide (w = "//")) l.1 rs kv
          have hml := mark_len (decide (w = "//")) l (clo (decide (w = "//")) l.1 rs kv).1 (clo (decide (w = "//")) l.1 rs kv).2
          refine ⟨at_, l.1, _, sv5, _, _, _, rfl, s5, hatl, b5 _ _ nos noh I.ho, h5, p5, d5, ?_, by omega, hnext, fun z hz u hu' => Int.lt_of_lt_of_le (I.lt l hlm u hu') (hnext z hz), ?_⟩
          · rw [take_snoc hli]
            exact lo5
          · intro u hu' z hz
            rw [take_snoc hli] at hz
            rcases List.mem_append.mp hz with hz | hz
            · exact I.dn u hu' z hz
            · rw [List.mem_singleton.mp hz]
              exact hge u hu'
      · have c : ¬ (at_ : Int) < (uv.length : Int) := fun z => c (decide_eq_true z)
        rw [pu.length] at c
        have hge : ∀ z ∈ us.drop at_, l.1 ≤ z.1 := by
          rw [List.drop_eq_nil_of_le (by omega)]
          exact fun _ h => nomatch h
        refine iteF ?_
        refine ⟨_, rfl, o, dx, _, rfl, I.ho, rfl, _, rfl, o, dx, sl, hd, t, w, l, sv, rs, kv, rfl, ht4, I.ho, I.hs, I.ps, I.hh, by omega, fun H5 sv5 b5 h5 p5 d5 => ?_⟩
        have s5 : Same H H5 := same_of_but2 I.s nsl nhd b5
        have lo5 := (I.low.close F aus su (b := l.1) (I.cu l hlm) hge).meet F aus su hA (I.lt l hlm)
        have hcl := clo_len (decide (w = "//")) l.1 rs kv
        have hml := mark_len (decide (w = "//")) l (clo (decide (w = "//")) l.1 rs kv).1 (clo (decide (w = "//")) l.1 rs kv).2
        refine ⟨at_, l.1, _, sv5, _, _, _, rfl, s5, hatl, b5 _ _ nos noh I.ho, h5, p5, d5, ?_, by omega, hnext, fun z hz u hu' => Int.lt_of_lt_of_le (I.lt l hlm u hu') (hnext z hz), ?_⟩
        · rw [take_snoc hli]
          exact lo5
        · intro u hu' z hz
          rw [take_snoc hli] at hz
          rcases List.mem_append.mp hz with hz | hz
          · exact I.dn u hu' z hz
          · rw [List.mem_singleton.mp hz]
            exact hge u hu'
    · rintro σ H3 ⟨at_, cur, rs, sv, kv, v, v2, rfl, I⟩
      rw [pl.length] at I
      have hlen := I.len
      have hatl := I.at_le
      refine ⟨_, rfl, o, _, dx, _, _, rfl, I.ho, T.cl_Open, T.na_Open_stack, opF_stack _ _ _, Nat.zero_le _, ?_⟩
      intro q nq
      generalize e_H4 : upd _ q _ = H4
      obtain ⟨s4, hq⟩ := al e_H4 nq
      have o4 := s4 _ _ I.ho
      have h4 := s4 _ _ I.hs
      have d4 := s4 _ _ I.hh
      have p4 := I.ps.same s4
      have s04 := I.s.trans s4
      refine ⟨_, .list [], p4.dp (SqL.of h4), .lst (SqL.of hq) .nil, (Gd.map fun x _ => gd_S3 x).shaped (by decide), rfl, _, rfl, ?_⟩
      rw [eqv_nil, List.isEmpty_map]
      have hdn : ∀ u ∈ us.drop at_, ∀ l ∈ ls, l.1 ≤ u.1 := by
        have := I.dn
        rw [List.take_length] at this
        exact this
      have low := I.low
      rw [List.take_length] at low
      cases hrs : rs.reverse with
      | nil =>
        have hr0 : rs = [] := List.reverse_eq_nil_iff.mp hrs
        subst hr0
        refine iteF ?_
        have s5 := s04
        have o5 := o4
        have d5 := d4
        have fin : ∀ u ∈ us, has kv u.1 ↔ tld (decide (w = "//")) ls u := low.done_ hdn su
        generalize kv = kv5 at d5 fin
        refine ⟨_, rfl, ua, rfl, ⟨_, s5.seq hu⟩, fun D hD => ?_⟩
        have nD : H D = none := s5.free hD
        refine lc_list (K := K) (a := ua) (xs := uv) (fun i H' => Same H H' ∧ H' o = some (.ins (He.ga K "Open") dx (opF w sl hd)) ∧ H' hd = some (.dK kv5) ∧ ∃ vs, H' D = some (.lst vs) ∧ PL K H' eS3 vs ((us.take i).filter (loB (decide (w = "//")) ls))) ?_ (fun i H' _ q => q.1.seq hu) ?_ ?_
        · exact ⟨s5.new' hD, (upd_ne (ne_of_none o5 hD)).trans o5, (upd_ne (ne_of_none d5 hD)).trans d5, [], upd_same, .nil⟩
        · rintro i y H' hi ⟨s6, o6, d6, vs, hv, pv⟩
          obtain ⟨u, hui, dy⟩ := pu.get hi
          obtain ⟨ty, rfl, hty⟩ := dp_t3 dy
          have hlt : i < us.length := (List.getElem?_eq_some_iff.mp hui).1
          have hvl : vs.length ≤ i := by
            rw [pv.length]
            exact Nat.le_trans (List.length_filter_le _ _) (by rw [List.length_take]; omega)
          refine ⟨rfl, _, rfl, _, _, _, _, rfl, rfl, s6.tup hty, atI_nat (j := 0) rfl, _, rfl, o, _, dx, _, _, rfl, o6, T.cl_Open, T.na_Open_having, opF_having _ _ _, hd, _, rfl, DGet.k (k := Sum.inl u.1) d6, _, rfl, ?_⟩
          have hb : (valV kv5 (Sum.inl u.1)).isSome = loB (decide (w = "//")) ls u := by
            rw [Bool.eq_iff_iff, loB_iff]
            exact fin u (List.mem_of_getElem? hui)
          rw [hb]
          cases cb : loB (decide (w = "//")) ls u with
          | true =>
            refine iteT ⟨_, rfl, vs, hv, szl (by omega), s6.mut nD, (upd_ne (ne_of o6 hv (by intro z; cases z))).trans o6, (upd_ne (ne_of d6 hv (by intro z; cases z))).trans d6, _, upd_same, ?_⟩
            rw [take_snoc hui, List.filter_append, List.filter_cons, if_pos cb]
            exact (PL.tk pv (TK.updL hv) flat_S3).app (.cons (dp_tk (TK.updL hv) _ _ (flat_S3 u) (dy.same s6)) .nil)
          | false =>
            refine iteF ⟨s6, o6, d6, vs, hv, ?_⟩
            rw [take_snoc hui, List.filter_append, List.filter_cons, if_neg (by rw [cb]; decide)]
            simpa using pv
        · rintro H' ⟨s6, o6, d6, vs, hv, pv⟩
          rw [pu.length, List.take_length] at pv
          exact k H' D vs s6 nD hv pv
      | cons z r =>
        refine iteT ?_
        rw [hrs] at p4
        cases p4 with
        | cons dz pr =>
          rename_i vz wr
          obtain ⟨tz, rfl, htz⟩ := dp_t3 dz
          have p4' : PL K H4 eS3 (.ref tz :: wr) rs.reverse := by rw [hrs]; exact .cons dz pr
          refine ⟨_, rfl, o, dx, _, rfl, o4, rfl, _, rfl, o, _, dx, _, _, rfl, o4, T.cl_Open, T.na_Open_stack, opF_stack _ _ _, _, _, _, _, rfl, rfl, SqL.of h4, atI_nat (j := 0) rfl, _, _, _, _, rfl, rfl, htz, atI_nat (j := 1) rfl, _, _, rfl, rfl, o, dx, sl, hd, w, z.2.1 + 1, _, rs, kv, rfl, o4, h4, p4', d4, by omega, fun H5 sv5 b5 h5 p5 d5 => ?_⟩
          have s5 : Same H H5 := same_of_but2 s04 nsl nhd b5
          have o5 := b5 _ _ nos noh o4
          have fin : ∀ u ∈ us, has (clo (decide (w = "//")) (z.2.1 + 1) rs kv).2 u.1 ↔ tld (decide (w = "//")) ls u := by
            refine low.finish F aus su (fun x hx => ?_) hdn
            have ha := low.stk.anti F aus su
            have hr : rs = r.reverse ++ [z] := by rw [← List.reverse_reverse rs, hrs, List.reverse_cons]
            rw [hr] at ha hx
            rcases List.mem_append.mp hx with hx | hx
            · have := (List.pairwise_append.mp ha).2.2 x hx z (List.mem_singleton.mpr rfl)
              omega
            · rw [List.mem_singleton.mp hx]
              omega
          generalize (clo (decide (w = "//")) (z.2.1 + 1) rs kv).2 = kv5 at d5 fin
          refine ⟨_, rfl, ua, rfl, ⟨_, s5.seq hu⟩, fun D hD => ?_⟩
          have nD : H D = none := s5.free hD
          refine lc_list (K := K) (a := ua) (xs := uv) (fun i H' => Same H H' ∧ H' o = some (.ins (He.ga K "Open") dx (opF w sl hd)) ∧ H' hd = some (.dK kv5) ∧ ∃ vs, H' D = some (.lst vs) ∧ PL K H' eS3 vs ((us.take i).filter (loB (decide (w = "//")) ls))) ?_ (fun i H' _ q => q.1.seq hu) ?_ ?_
          · exact ⟨s5.new' hD, (upd_ne (ne_of_none o5 hD)).trans o5, (upd_ne (ne_of_none d5 hD)).trans d5, [], upd_same, .nil⟩
          · rintro i y H' hi ⟨s6, o6, d6, vs, hv, pv⟩
            obtain ⟨u, hui, dy⟩ := pu.get hi
            obtain ⟨ty, rfl, hty⟩ := dp_t3 dy
            have hlt : i < us.length := (List.getElem?_eq_some_iff.mp hui).1
            have hvl : vs.length ≤ i := by
              rw [pv.length]
              exact Nat.le_trans (List.length_filter_le _ _) (by rw [List.length_take]; omega)
            refine ⟨rfl, _, rfl, _, _, _, _, rfl, rfl, s6.tup hty, atI_nat (j := 0) rfl, _, rfl, o, _, dx, _, _, rfl, o6, T.cl_Open, T.na_Open_having, opF_having _ _ _, hd, _, rfl, DGet.k (k := Sum.inl u.1) d6, _, rfl, ?_⟩
            have hb : (valV kv5 (Sum.inl u.1)).isSome = loB (decide (w = "//")) ls u := by
              rw [Bool.eq_iff_iff, loB_iff]
              exact fin u (List.mem_of_getElem? hui)
            rw [hb]
            cases cb : loB (decide (w = "//")) ls u with
            | true =>
              refine iteT ⟨_, rfl, vs, hv, szl (by omega), s6.mut nD, (upd_ne (ne_of o6 hv (by intro z; cases z))).trans o6, (upd_ne (ne_of d6 hv (by intro z; cases z))).trans d6, _, upd_same, ?_⟩
              rw [take_snoc hui, List.filter_append, List.filter_cons, if_pos cb]
              exact (PL.tk pv (TK.updL hv) flat_S3).app (.cons (dp_tk (TK.updL hv) _ _ (flat_S3 u) (dy.same s6)) .nil)
            | false =>
              refine iteF ⟨s6, o6, d6, vs, hv, ?_⟩
              rw [take_snoc hui, List.filter_append, List.filter_cons, if_neg (by rw [cb]; decide)]
              simpa using pv
          · rintro H' ⟨s6, o6, d6, vs, hv, pv⟩
            rw [pu.length, List.take_length] at pv
            exact k H' D vs s6 nD hv pv
theorem sc_closed : FnScope ["stack", "begin"] ["stack", "begin"] (defScope st_closed) := ⟨rfl, rfl, rfl, by decide +kernel, rfl, by decide +kernel, by decide +kernel⟩
theorem ok_closed {f : Addr} {fd : FuncData} (T : Txt K mg) (F : FnP K "closed" "closed" st_closed f fd)  : FnOk P w K mg base CX0 1 f fd ["stack", "begin"] (sp_closed K) := by
  refine F.ok sc_closed (fun vs H Q E h => ?_) (fun cdv A outer s H vs Q E hr h => ?_)
  · obtain ⟨l, b, ws, rs, rfl, _⟩ := h
    rfl
  · obtain ⟨l, b, ws, rs, rfl, hl, hp, hn, k⟩ := h
    refine ⟨_, PSs.nox (pss_one (ps_while PassesOwn.never (PW.pt (pw_and (pt_cmpR (op_neD hr.units) (pv 0) (pe_lst pa_nil) (nomark _)) (pw_and1 (pt_cmpR op_lt (pe_ix ix_tup (pe_ix ix_list (pv 0) (pe_un un_neg pe_int) (fun _ _ => rfl)) pe_int (fun _ _ => rfl)) (pv 1) (nomark _)))))
      (pss_one (ps_expr (pe_bm0 PySem.F.plainAttrs_list PySem.F.slot_list_pop PySem.F.type_list_pop mt_pop (pv 0)))))), ?_⟩
    refine ⟨fun m σ H' => ∃ (ws' : List V) (rs' : List S3), m = rs'.length ∧ rs'.length ≤ 100000 ∧ σ = [some (.ref l), some (.int b)] ∧ But l H H' ∧ H' l = some (.lst ws') ∧ PL K H' eS3 ws' rs'.reverse ∧ rs'.dropWhile (fun x => decide (x.2.1 < b)) = rs.dropWhile (fun x => decide (x.2.1 < b)), ⟨_, ws, rs, rfl, hn, rfl, But.refl _ _, hl, hp, rfl⟩, ?_⟩
    rintro m σ H1 ⟨ws', rs', rfl, hn', rfl, b1, h1, p1, e1⟩
    refine ⟨_, rfl, Nat.zero_le _, ?_⟩
    intro q nq
    generalize e_H2 : upd _ q _ = H2
    obtain ⟨s2, hq⟩ := al e_H2 nq
    replace h1 := s2 _ _ h1
    replace p1 := p1.same s2
    refine ⟨_, .list [], p1.dp (SqL.of h1), .lst (SqL.of hq) .nil, (Gd.map fun x _ => gd_S3 x).shaped (by decide), rfl, _, rfl, ?_⟩
    rw [eqv_nil, List.isEmpty_map]
    cases rs' with
    | nil => exact iteF (iteF (k _ ws' (b1.trans (But.of_same s2)) h1 (by rw [← e1]; exact p1)))
    | cons x r =>
      rw [List.reverse_cons] at p1
      obtain ⟨w0, v, rfl, p0, pv⟩ := paired_snoc_inv p1
      obtain ⟨t, rfl, ht⟩ := dp_t3 pv
      rw [show (!(x :: r).reverse.isEmpty) = true by simp]
      refine iteT ⟨_, rfl, _, rfl, _, _, _, _, rfl, rfl, SqL.of h1, atI_last _ _, _, _, _, _, rfl, rfl, ht, atI_nat (j := 1) rfl, _, rfl, _, _, rfl, rfl, _, rfl, ?_⟩
      refine ite2 (fun c => ?_) (fun c => ?_)
      · refine ⟨_, fun _ _ h => h, _, rfl, .inl ⟨rfl, _, SqL.of h1⟩, _, _, _, rfl, rfl, h1, last_get _ _, ?_⟩
        rw [List.dropLast_concat]
        have c : x.2.1 < b := of_decide_eq_true c
        refine ⟨r.length, Nat.lt_succ_self _, w0, r, rfl, by rw [List.length_cons] at hn'; omega, rfl, (b1.trans (But.of_same s2)).trans But.upd, upd_same, PL.tk p0 (TK.updL h1) flat_S3, ?_⟩
        rw [← e1, List.dropWhile_cons, if_pos (decide_eq_true c)]
      · have c : ¬ x.2.1 < b := fun z => c (decide_eq_true z)
        refine k _ _ (b1.trans (But.of_same s2)) h1 ?_
        rw [← e1, List.dropWhile_cons, if_neg (by rw [decide_eq_false c]; decide), List.reverse_cons]
        exact p1
def invWU (K : PySem.W.Frag) (H : Hp) (la ua fa sa : Addr) (w : Str) (ls us : List S3) (i : Nat) (σ : L2.St) (H' : Hp) : Prop := ∃ (at_ : Nat) (cur : Int) (rs : List S3) (sv fv : List V) (v : Option V), σ = [some (.ref la), some (.ref ua), some (.str w), some (.ref fa), some (.ref sa), some (.int at_), v] ∧ Same H H' ∧ at_ ≤ us.length ∧ H' fa = some (.lst fv) ∧ H' sa = some (.lst sv) ∧ PL K H' eS3 sv rs.reverse ∧ PL K H' eS3 fv ((ls.take i).filter (upB (decide (w = "//")) us)) ∧ Stk us at_ cur rs ∧ (∀ l ∈ ls.drop i, cur ≤ l.1) ∧ (∀ l ∈ ls.drop i, ∀ u ∈ us.take at_, u.1 < l.1) ∧ rs.length ≤ at_
theorem sc_with_upper : FnScope ["lowers", "uppers", "way", "found", "stack", "at", "lower"] ["lowers", "uppers", "way"] (defScope st_with_upper) := ⟨rfl, rfl, rfl, by decide +kernel, rfl, by decide +kernel, by decide +kernel⟩
theorem ok_with_upper {f : Addr} {fd : FuncData} (T : Txt K mg) (F : FnP K "with_upper" "with_upper" st_with_upper f fd) (G_closed : Fn P w K mg base CX0 1 "closed" ["stack", "begin"] (sp_closed K)) : FnOk P w K mg base CX0 2 f fd ["lowers", "uppers", "way"] (sp_with_upper K) := by
  refine F.ok sc_with_upper (fun vs H Q E h => ?_) (fun cdv A outer s H vs Q E hr h => ?_)
  · obtain ⟨la, ua, w, A, ls, us, lv, uv, rfl, _⟩ := h
    rfl
  · obtain ⟨la, ua, w, A, ls, us, lv, uv, rfl, hl, pl, hu, pu, F, als, aus, sl, su, l0, u0, nl, nu, k⟩ := h
    refine ⟨_, PSs.nox (pss_cons (ps_set (i := 3) sc_with_upper.nd rfl (Or.inl rfl) (pe_lst pa_nil))
      (pss_cons (ps_set (i := 4) sc_with_upper.nd rfl (Or.inl rfl) (pe_lst pa_nil))
      (pss_cons (ps_set (i := 5) sc_with_upper.nd rfl (Or.inl rfl) pe_int)
      (pss_cons (ps_for PassesOwn.never rfl (pi_list (pv 0)) (pg_name (i := 6) sc_with_upper.nd rfl (Or.inl rfl))
      (pss_cons (ps_while PassesOwn.never (PW.pt (pw_and (pt_cmpR op_lt (pv 5) (pe_callB call_len rfl T.free_len PySem.boot_len (pa_cons (pv 1) pa_nil)) (nomark _)) (pw_and1 (pt_cmpR op_lt (pe_ix ix_tup (pe_ix ix_list (pv 1) (pv 5) (fun _ _ => rfl)) pe_int (fun _ _ => rfl)) (pe_ix ix_tup (pv 6) pe_int (fun _ _ => rfl)) (nomark _)))))
      (pss_cons (ps_expr (pe_callF G_closed (hr.mono (by decide)) pass0 (pa_cons (pv 4) (pa_cons (pe_ix ix_tup (pe_ix ix_list (pv 1) (pv 5) (fun _ _ => rfl)) pe_int (fun _ _ => rfl)) pa_nil))))
      (pss_cons (ps_expr (pe_bm PySem.F.plainAttrs_list PySem.F.slot_list_append PySem.F.type_list_append mt_append (pv 4) (pa_cons (pe_ix ix_list (pv 1) (pv 5) (fun _ _ => rfl)) pa_nil)))
      (pss_one (ps_aug (i := 5) sc_with_upper.nd rfl (Or.inl rfl) pe_int ip_add)))))
      (pss_cons (ps_expr (pe_callF G_closed (hr.mono (by decide)) pass0 (pa_cons (pv 4) (pa_cons (pe_ix ix_tup (pv 6) pe_int (fun _ _ => rfl)) pa_nil))))
      (pss_one (ps_if (PW.pt (pw_and (pt_cmpR (op_neD hr.units) (pv 4) (pe_lst pa_nil) (nomark _)) (pw_and1 (PW.pt (pw_or (pt_cmpR op_eq (pv 2) pe_str (nomark _)) (pw_or1 (pt_cmpR op_eq (pe_op op_add (pe_ix ix_tup (pe_ix ix_list (pv 4) (pe_un un_neg pe_int) (fun _ _ => rfl)) pe_int (fun _ _ => rfl)) pe_int) (pe_ix ix_tup (pv 6) pe_int (fun _ _ => rfl)) (nomark _))))))))
      (pss_one (ps_expr (pe_bm PySem.F.plainAttrs_list PySem.F.slot_list_append PySem.F.type_list_append mt_append (pv 3) (pa_cons (pv 6) pa_nil))))
      pss_nil)))))
      (pss_one (ps_ret (pv 3))))))), ?_⟩
    refine ⟨Nat.zero_le _, ?_⟩
    intro fa n1
    generalize e_H1 : upd _ fa _ = H1
    obtain ⟨s1, h1⟩ := al e_H1 n1
    refine ⟨Nat.zero_le _, ?_⟩
    intro sa n2
    generalize e_H2 : upd _ sa _ = H2
    obtain ⟨s2, h2⟩ := al e_H2 n2
    have hfs : fa ≠ sa := ne_of_none h1 n2
    have n2' : H sa = none := s1.free n2
    replace h1 := s2 _ _ h1
    have s12 := s1.trans s2
    refine ⟨_, rfl, la, rfl, ⟨_, s12.seq hl⟩, for_list (K := K) (a := la) (xs := lv) (invWU K H la ua fa sa w ls us) ?_ (fun i σ H' _ ⟨_, _, _, _, _, _, _, s, _⟩ => s.seq hl) ?_ ?_⟩
    · exact ⟨0, 0, [], [], [], none, rfl, s12, Nat.zero_le _, h1, h2, .nil, .nil, Stk.start u0, by simpa using l0, by simp, by simp⟩
    · rintro i x σ H3 hi ⟨at_, cur, rs, sv, fv, v, rfl, s3, hat, hf, hs, ps, pf, stk, hcur, hlt, hrl⟩
      obtain ⟨l, hli, dx⟩ := pl.get hi
      obtain ⟨t, rfl, ht⟩ := dp_t3 dx
      have hdr : ls.drop i = l :: ls.drop (i + 1) := by
        obtain ⟨q1, q2⟩ := List.getElem?_eq_some_iff.mp hli
        rw [← q2, List.drop_eq_getElem_cons q1]
      have hil : i < ls.length := (List.getElem?_eq_some_iff.mp hli).1
      have hA : A l := als l (List.mem_of_getElem? hli)
      have hfl : fv.length ≤ i := by
        rw [pf.length]
        exact Nat.le_trans (List.length_filter_le _ _) (by rw [List.length_take]; omega)
      refine ⟨fun m σ H' => ∃ (at_ : Nat) (cur : Int) (rs : List S3) (sv : List V), m = us.length - at_ ∧ at_ ≤ us.length ∧ σ = [some (.ref la), some (.ref ua), some (.str w), some (.ref fa), some (.ref sa), some (.int at_), some (.ref t)] ∧ Same H H' ∧ H' fa = some (.lst fv) ∧ H' sa = some (.lst sv) ∧ PL K H' eS3 sv rs.reverse ∧ PL K H' eS3 fv ((ls.take i).filter (upB (decide (w = "//")) us)) ∧ Stk us at_ cur rs ∧ cur ≤ l.1 ∧ (∀ u ∈ us.take at_, u.1 < l.1) ∧ rs.length ≤ at_, ⟨_, at_, cur, rs, sv, rfl, hat, rfl, s3, hf, hs, ps, pf, stk, hcur l (by rw [hdr]; exact List.mem_cons_self ..), hlt l (by rw [hdr]; exact List.mem_cons_self ..), hrl⟩, ?_⟩
      clear stk hcur hs ps pf hf s3 hrl hat hlt
      rintro m σ H4 ⟨at_, cur, rs, sv, rfl, hat, rfl, s4, hf, hs, ps, pf, stk, hcur, hlt, hrl⟩
      refine ⟨_, rfl, _, rfl, _, _, rfl, Or.inl ⟨_, s4.seq hu, rfl⟩, _, _, rfl, rfl, _, rfl, ?_⟩
      have ht4 : SqT K H4 t _ := s4.tup ht
      refine ite2 (fun c => ?_) (fun c => ?_)
      · have c : (at_ : Int) < (uv.length : Int) := of_decide_eq_true c
        rw [pu.length] at c
        have hlu : at_ < us.length := by omega
        have eu := List.getElem?_eq_getElem hlu
        generalize us[at_] = u at eu
        obtain ⟨y, hy, dy⟩ := pu.get' eu
        obtain ⟨ty, rfl, hty⟩ := dp_t3 dy
        have hty4 : SqT K H4 ty _ := s4.tup hty
        refine ⟨_, rfl, _, rfl, _, _, _, _, rfl, rfl, s4.seq hu, atI_nat hy, _, _, _, _, rfl, rfl, hty4, atI_nat (j := 0) rfl, _, rfl, _, _, _, _, rfl, rfl, ht4, atI_nat (j := 0) rfl, _, _, rfl, rfl, _, rfl, ?_⟩
        refine ite2 (fun c2 => ?_) (fun c2 => ?_)
        · have c2 : u.1 < l.1 := of_decide_eq_true c2
          refine ⟨_, fun _ _ h => h, _, rfl, _, rfl, _, rfl, _, _, _, _, rfl, rfl, s4.seq hu, atI_nat hy, _, _, _, _, rfl, rfl, hty4, atI_nat (j := 0) rfl, sa, u.1, sv, rs, rfl, hs, ps, by omega, fun H5 sv5 b5 h5 p5 => ?_⟩
          have s5 : Same H H5 := same_of_but s4 n2' b5
          have tk5 : TK H4 H5 := TK.butL b5 hs
          have hl5 : sv5.length ≤ at_ := by
            rw [p5.length, List.length_reverse]
            exact Nat.le_trans (List.dropWhile_sublist _).length_le hrl
          refine ⟨_, rfl, .inl ⟨rfl, _, SqL.of h5⟩, _, rfl, _, rfl, _, _, _, _, rfl, rfl, s5.seq hu, atI_nat hy, sa, _, _, rfl, rfl, h5, szl (by omega), ?_⟩
          refine ⟨_, rfl, _, _, rfl, rfl, us.length - (at_ + 1), by omega, at_ + 1, u.1, u :: rs.dropWhile (fun x => decide (x.2.1 < u.1)), sv5 ++ [.ref ty], rfl, hlu, rfl, s5.mut n2', ?_, upd_same, ?_, ?_, ?_, Int.le_of_lt c2, ?_, ?_⟩
          · rw [upd_ne hfs]
            exact b5 _ _ hfs hf
          · rw [List.reverse_cons]
            exact (PL.tk p5 (TK.updL h5) flat_S3).app (.cons (dp_tk (TK.updL h5) _ _ (flat_S3 u) ((dy.same s5))) .nil)
          · exact PL.tk (PL.tk pf tk5 flat_S3) (TK.updL h5) flat_S3
          · have := stk.push F aus su (w := true) (kv := []) eu
            rw [clo_fst] at this
            exact this
          · intro z hz
            rw [take_snoc eu] at hz
            rcases List.mem_append.mp hz with hz | hz
            · exact hlt z hz
            · rw [List.mem_singleton.mp hz]
              exact c2
          · rw [List.length_cons]
            have := (List.dropWhile_sublist (p := fun x : S3 => decide (x.2.1 < u.1)) (l := rs)).length_le
            omega
        · have c2 : ¬ u.1 < l.1 := fun z => c2 (decide_eq_true z)
          have hge : ∀ z ∈ us.drop at_, l.1 ≤ z.1 := by
            have hd2 : us.drop at_ = u :: us.drop (at_ + 1) := by
              obtain ⟨q1, q2⟩ := List.getElem?_eq_some_iff.mp eu
              rw [← q2, List.drop_eq_getElem_cons q1]
            have sd : (u :: us.drop (at_ + 1)).Pairwise fun x y => x.1 < y.1 := by rw [← hd2]; exact su.sublist (List.drop_sublist _ _)
            intro z hz
            rw [hd2] at hz
            rcases List.mem_cons.mp hz with rfl | hz
            · omega
            · have := (List.pairwise_cons.mp sd).1 z hz
              omega
          refine ⟨_, rfl, _, rfl, _, _, _, _, rfl, rfl, ht4, atI_nat (j := 0) rfl, sa, l.1, sv, rs, rfl, hs, ps, by omega, fun H5 sv5 b5 h5 p5 => ?_⟩
          have s5 : Same H H5 := same_of_but s4 n2' b5
          have tk5 : TK H4 H5 := TK.butL b5 hs
          have stk5 : Stk us at_ l.1 (rs.dropWhile fun x => decide (x.2.1 < l.1)) := by
            have := stk.close F aus su (w := true) (kv := []) hcur hge
            rw [clo_fst] at this
            exact this
          have hr5 := (List.dropWhile_sublist (p := fun x : S3 => decide (x.2.1 < l.1)) (l := rs)).length_le
          have ans := upper_ans F aus su hA stk5 hlt (decide (w = "//"))
          rw [← upB_iff] at ans
          generalize (rs.dropWhile fun x => decide (x.2.1 < l.1)) = rs5 at stk5 hr5 ans p5
          have hf5 := b5 _ _ hfs hf
          have pf5 := PL.tk pf tk5 flat_S3
          have hcur' : ∀ z ∈ ls.drop (i + 1), l.1 ≤ z.1 := by
            have sd : (l :: ls.drop (i + 1)).Pairwise fun x y => x.1 < y.1 := by rw [← hdr]; exact sl.sublist (List.drop_sublist _ _)
            exact fun z hz => Int.le_of_lt ((List.pairwise_cons.mp sd).1 z hz)
          have hlt' : ∀ z ∈ ls.drop (i + 1), ∀ u ∈ us.take at_, u.1 < z.1 := fun z hz u hu' => Int.lt_of_lt_of_le (hlt u hu') (hcur' z hz)
          refine ⟨_, rfl, Nat.zero_le _, ?_⟩
          intro q nq
          generalize e_H6 : upd _ q _ = H6
          obtain ⟨s6, hq⟩ := al e_H6 nq
          have s06 := s5.trans s6
          replace h5 := s6 _ _ h5
          replace hf5 := s6 _ _ hf5
          replace p5 := p5.same s6
          replace pf5 := pf5.same s6
          have nof : upB (decide (w = "//")) us l = false → invWU K H la ua fa sa w ls us (i + 1) [some (.ref la), some (.ref ua), some (.str w), some (.ref fa), some (.ref sa), some (.int at_), some (.ref t)] H6 := fun q => ⟨at_, l.1, rs5, sv5, fv, _, rfl, s06, hat, hf5, h5, p5, by rw [take_snoc hli, List.filter_append, List.filter_cons, if_neg (by rw [q]; decide)]; simpa using pf5, stk5, hcur', hlt', by omega⟩
          refine ⟨_, .list [], p5.dp (SqL.of h5), .lst (SqL.of hq) .nil, (Gd.map fun x _ => gd_S3 x).shaped (by decide), rfl, _, rfl, ?_⟩
          rw [eqv_nil, List.isEmpty_map]
          cases rs5 with
          | nil =>
            refine iteF (iteF (nof ?_))
            cases hb : upB (decide (w = "//")) us l with
            | false => rfl
            | true =>
              obtain ⟨_, _, q, _⟩ := ans.mp hb
              cases q
          | cons x r =>
            rw [show (!(x :: r).reverse.isEmpty) = true by simp]
            have p5' := p5
            rw [List.reverse_cons] at p5'
            obtain ⟨w0, vx, e5, p0, pvx⟩ := paired_snoc_inv p5'
            obtain ⟨tx, rfl, htx⟩ := dp_t3 pvx
            have yes : upB (decide (w = "//")) us l = true → PL K (upd H6 fa (.lst (fv ++ [.ref t]))) eS3 (fv ++ [.ref t]) ((ls.take (i + 1)).filter (upB (decide (w = "//")) us)) := fun q => by
              rw [take_snoc hli, List.filter_append, List.filter_cons, if_pos q]
              exact (PL.tk pf5 (TK.updL hf5) flat_S3).app (.cons (dp_tk (TK.updL hf5) _ _ (flat_S3 l) (dx.same s06)) .nil)
            have app : upB (decide (w = "//")) us l = true → invWU K H la ua fa sa w ls us (i + 1) [some (.ref la), some (.ref ua), some (.str w), some (.ref fa), some (.ref sa), some (.int at_), some (.ref t)] (upd H6 fa (.lst (fv ++ [.ref t]))) := fun q => ⟨at_, l.1, x :: r, sv5, _, _, rfl, s06.mut n1, hat, upd_same, (upd_ne hfs.symm).trans h5, PL.tk p5 (TK.updL hf5) flat_S3, yes q, stk5, hcur', hlt', by omega⟩
            refine iteT ⟨_, rfl, rfl, _, rfl, ?_⟩
            refine ite2 (fun cw => ?_) (fun cw => ?_)
            · have cw : w = "//" := by have := of_decide_eq_true cw; injection this
              refine iteT ⟨_, rfl, .inl ⟨rfl, _, SqL.of hf5⟩, _, rfl, fa, _, _, rfl, rfl, hf5, szl (by omega), app (ans.mpr ⟨x, r, rfl, .inl (decide_eq_true cw)⟩)⟩
            · have cw : ¬ w = "//" := fun z => cw (decide_eq_true (by rw [z]))
              subst e5
              refine ⟨_, rfl, _, rfl, _, _, _, _, rfl, rfl, SqL.of h5, atI_last _ _, _, _, _, _, rfl, rfl, htx, atI_nat (j := 2) rfl, _, _, rfl, rfl, _, rfl, _, _, _, _, rfl, rfl, s06.tup ht, atI_nat (j := 2) rfl, rfl, _, rfl, ?_⟩
              refine ite2 (fun cd => ?_) (fun cd => ?_)
              · have cd : x.2.2 + 1 = l.2.2 := by have := of_decide_eq_true cd; injection this
                exact ⟨_, rfl, .inl ⟨rfl, _, SqL.of hf5⟩, _, rfl, fa, _, _, rfl, rfl, hf5, szl (by omega), app (ans.mpr ⟨x, r, rfl, .inr cd⟩)⟩
              · refine nof ?_
                cases hb : upB (decide (w = "//")) us l with
                | false => rfl
                | true =>
                  obtain ⟨y, r', q, q2 | q2⟩ := ans.mp hb
                  · exact absurd (of_decide_eq_true q2) cw
                  · cases q
                    exact absurd (decide_eq_true (by show V.int (x.2.2 + 1) = V.int l.2.2; rw [q2])) cd
      · have c : ¬ (at_ : Int) < (uv.length : Int) := fun z => c (decide_eq_true z)
        rw [pu.length] at c
        have hge : ∀ z ∈ us.drop at_, l.1 ≤ z.1 := by
          rw [List.drop_eq_nil_of_le (by omega)]
          exact fun _ h => nomatch h
        refine iteF ?_
        refine ⟨_, rfl, _, rfl, _, _, _, _, rfl, rfl, ht4, atI_nat (j := 0) rfl, sa, l.1, sv, rs, rfl, hs, ps, by omega, fun H5 sv5 b5 h5 p5 => ?_⟩
        have s5 : Same H H5 := same_of_but s4 n2' b5
        have tk5 : TK H4 H5 := TK.butL b5 hs
        have stk5 : Stk us at_ l.1 (rs.dropWhile fun x => decide (x.2.1 < l.1)) := by
          have := stk.close F aus su (w := true) (kv := []) hcur hge
          rw [clo_fst] at this
          exact this
        have hr5 := (List.dropWhile_sublist (p := fun x : S3 => decide (x.2.1 < l.1)) (l := rs)).length_le
        have ans := upper_ans F aus su hA stk5 hlt (decide (w = "//"))
        rw [← upB_iff] at ans
        generalize (rs.dropWhile fun x => decide (x.2.1 < l.1)) = rs5 at stk5 hr5 ans p5
        have hf5 := b5 _ _ hfs hf
        have pf5 := PL.tk pf tk5 flat_S3
        have hcur' : ∀ z ∈ ls.drop (i + 1), l.1 ≤ z.1 := by
          have sd : (l :: ls.drop (i + 1)).Pairwise fun x y => x.1 < y.1 := by rw [← hdr]; exact sl.sublist (List.drop_sublist _ _)
          exact fun z hz => Int.le_of_lt ((List.pairwise_cons.mp sd).1 z hz)
        have hlt' : ∀ z ∈ ls.drop (i + 1), ∀ u ∈ us.take at_, u.1 < z.1 := fun z hz u hu' => Int.lt_of_lt_of_le (hlt u hu') (hcur' z hz)
        refine ⟨_, rfl, Nat.zero_le _, ?_⟩
        intro q nq
        generalize e_H6 : upd _ q _ = H6
        obtain ⟨s6, hq⟩ := al e_H6 nq
        have s06 := s5.trans s6
        replace h5 := s6 _ _ h5
        replace hf5 := s6 _ _ hf5
        replace p5 := p5.same s6
        replace pf5 := pf5.same s6
        have nof : upB (decide (w = "//")) us l = false → invWU K H la ua fa sa w ls us (i + 1) [some (.ref la), some (.ref ua), some (.str w), some (.ref fa), some (.ref sa), some (.int at_), some (.ref t)] H6 := fun q => ⟨at_, l.1, rs5, sv5, fv, _, rfl, s06, hat, hf5, h5, p5, by rw [take_snoc hli, List.filter_append, List.filter_cons, if_neg (by rw [q]; decide)]; simpa using pf5, stk5, hcur', hlt', by omega⟩
        refine ⟨_, .list [], p5.dp (SqL.of h5), .lst (SqL.of hq) .nil, (Gd.map fun x _ => gd_S3 x).shaped (by decide), rfl, _, rfl, ?_⟩
        rw [eqv_nil, List.isEmpty_map]
        cases rs5 with
        | nil =>
          refine iteF (iteF (nof ?_))
          cases hb : upB (decide (w = "//")) us l with
          | false => rfl
          | true =>
            obtain ⟨_, _, q, _⟩ := ans.mp hb
            cases q
        | cons x r =>
          rw [show (!(x :: r).reverse.isEmpty) = true by simp]
          have p5' := p5
          rw [List.reverse_cons] at p5'
          obtain ⟨w0, vx, e5, p0, pvx⟩ := paired_snoc_inv p5'
          obtain ⟨tx, rfl, htx⟩ := dp_t3 pvx
          have yes : upB (decide (w = "//")) us l = true → PL K (upd H6 fa (.lst (fv ++ [.ref t]))) eS3 (fv ++ [.ref t]) ((ls.take (i + 1)).filter (upB (decide (w = "//")) us)) := fun q => by
            rw [take_snoc hli, List.filter_append, List.filter_cons, if_pos q]
            exact (PL.tk pf5 (TK.updL hf5) flat_S3).app (.cons (dp_tk (TK.updL hf5) _ _ (flat_S3 l) (dx.same s06)) .nil)
          have app : upB (decide (w = "//")) us l = true → invWU K H la ua fa sa w ls us (i + 1) [some (.ref la), some (.ref ua), some (.str w), some (.ref fa), some (.ref sa), some (.int at_), some (.ref t)] (upd H6 fa (.lst (fv ++ [.ref t]))) := fun q => ⟨at_, l.1, x :: r, sv5, _, _, rfl, s06.mut n1, hat, upd_same, (upd_ne hfs.symm).trans h5, PL.tk p5 (TK.updL hf5) flat_S3, yes q, stk5, hcur', hlt', by omega⟩
          refine iteT ⟨_, rfl, rfl, _, rfl, ?_⟩
          refine ite2 (fun cw => ?_) (fun cw => ?_)
          · have cw : w = "//" := by have := of_decide_eq_true cw; injection this
            refine iteT ⟨_, rfl, .inl ⟨rfl, _, SqL.of hf5⟩, _, rfl, fa, _, _, rfl, rfl, hf5, szl (by omega), app (ans.mpr ⟨x, r, rfl, .inl (decide_eq_true cw)⟩)⟩
          · have cw : ¬ w = "//" := fun z => cw (decide_eq_true (by rw [z]))
            subst e5
            refine ⟨_, rfl, _, rfl, _, _, _, _, rfl, rfl, SqL.of h5, atI_last _ _, _, _, _, _, rfl, rfl, htx, atI_nat (j := 2) rfl, _, _, rfl, rfl, _, rfl, _, _, _, _, rfl, rfl, s06.tup ht, atI_nat (j := 2) rfl, rfl, _, rfl, ?_⟩
            refine ite2 (fun cd => ?_) (fun cd => ?_)
            · have cd : x.2.2 + 1 = l.2.2 := by have := of_decide_eq_true cd; injection this
              exact ⟨_, rfl, .inl ⟨rfl, _, SqL.of hf5⟩, _, rfl, fa, _, _, rfl, rfl, hf5, szl (by omega), app (ans.mpr ⟨x, r, rfl, .inr cd⟩)⟩
            · refine nof ?_
              cases hb : upB (decide (w = "//")) us l with
              | false => rfl
              | true =>
                obtain ⟨y, r', q, q2 | q2⟩ := ans.mp hb
                · exact absurd (of_decide_eq_true q2) cw
                · cases q
                  exact absurd (decide_eq_true (by show V.int (x.2.2 + 1) = V.int l.2.2; rw [q2])) cd
    · rintro σ H3 ⟨at_, cur, rs, sv, fv, v, rfl, s3, hat, hf, hs, ps, pf, stk, hcur, hlt, hrl⟩
      rw [pl.length, List.take_length] at pf
      exact ⟨_, rfl, k _ fa fv s3 n1 hf pf⟩
theorem sc_law_right : FnScope ["_law_uppers_here", "_law_lowers", "_law_way", "_law_pairs", "_law_due_here", "_law_kept", "_law_again", "_law_having", "_law_had"] ["_law_uppers_here", "_law_lowers", "_law_way", "_law_pairs"] (defScope st_law_right) := ⟨rfl, rfl, rfl, by decide +kernel, rfl, by decide +kernel, by decide +kernel⟩
theorem ok_law_right {f : Addr} {fd : FuncData} (T : Txt K mg) (F : FnP K "_law_right" "_law_right" st_law_right f fd) (G_law_due : Fn P w K mg base CX0 1 "_law_due" ["_law_pairs", "_law_uppers_here", "_law_lowers"] (sp_law_due K)) (G_with_lower : Fn P w K mg base CX0 3 "with_lower" ["uppers", "lowers", "way"] (sp_with_lower K)) (G_with_upper : Fn P w K mg base CX0 2 "with_upper" ["lowers", "uppers", "way"] (sp_with_upper K)) : FnOk P w K mg base CX0 4 f fd ["_law_uppers_here", "_law_lowers", "_law_way", "_law_pairs"] (sp_law_right K) := by
  refine F.ok sc_law_right (fun vs H Q E h => ?_) (fun cdv A outer s H vs Q E hr h => ?_)
  · obtain ⟨d, ua, la, kv, w, A, uv, lv, us, ls, rfl, _⟩ := h
    rfl
  · obtain ⟨d, ua, la, kv, w, A, uv, lv, us, ls, rfl, hd, hu, pu, hl, pl, nu, nl, hp, F, als, aus, srl, sru, l0, u0, k⟩ := h
    refine ⟨_, PSs.nox (pss_cons (ps_set (i := 4) sc_law_right.nd rfl (Or.inl rfl) (pe_callF G_law_due (hr.mono (by decide)) pass0 (pa_cons (pv 3) (pa_cons (pv 0) (pa_cons (pv 1) pa_nil)))))
      (pss_cons (ps_set (i := 5) sc_law_right.nd rfl (Or.inl rfl) (pe_lst (pa_cons (pe_callTy call_list_of rfl T.free_list (by decide +kernel) (pa_cons (pv 0) pa_nil)) (pa_cons (pe_callTy call_list_of rfl T.free_list (by decide +kernel) (pa_cons (pv 1) pa_nil)) pa_nil))))
      (pss_cons (ps_for PassesOwn.never rfl (pi_range1 rfl T.free_range (pa_cons pe_int pa_nil)) (pg_name (i := 6) sc_law_right.nd rfl (Or.inl rfl))
      (pss_cons (ps_set (i := 7) sc_law_right.nd rfl (Or.inl rfl) (pe_callF G_with_lower (hr.mono (by decide)) pass0 (pa_cons (pv 0) (pa_cons (pv 1) (pa_cons (pv 2) pa_nil)))))
      (pss_cons (ps_set (i := 8) sc_law_right.nd rfl (Or.inl rfl) (pe_callF G_with_upper (hr.mono (by decide)) pass0 (pa_cons (pv 1) (pa_cons (pv 0) (pa_cons (pv 2) pa_nil)))))
      (pss_cons (ps_if (PW.pt (pw_or (pt_not (pt_val (pe_callB call_isi rfl T.free_isinstance (by decide +kernel) (pa_cons (pv 7) (pa_cons (pe_bltn (v := .ty "list") rfl T.free_list (by decide +kernel) rfl) pa_nil))))) (pw_or (pt_not (pt_val (pe_callB call_isi rfl T.free_isinstance (by decide +kernel) (pa_cons (pv 8) (pa_cons (pe_bltn (v := .ty "list") rfl T.free_list (by decide +kernel) rfl) pa_nil))))) (pw_or1 (pt_cmpR (op_neD hr.units) (pe_tup (pa_cons (pv 7) (pa_cons (pv 8) pa_nil))) (pv 4) (nomark _))))))
      (pss_one (ps_ret pe_bl))
      pss_nil)
      (pss_cons (ps_if (pt_cmpR (op_neD hr.units) (pe_lst (pa_cons (pv 0) (pa_cons (pv 1) pa_nil))) (pv 5) (nomark _))
      (pss_one (ps_ret pe_bl))
      pss_nil)
      (pss_cons (ps_expr (pe_bm0 PySem.F.plainAttrs_list PySem.F.slot_list_clear PySem.F.type_list_clear mt_clear (pv 7)))
      (pss_one (ps_expr (pe_bm0 PySem.F.plainAttrs_list PySem.F.slot_list_clear PySem.F.type_list_clear mt_clear (pv 8))))))))))
      (pss_one (ps_ret pe_bl))))), ?_⟩
    refine ⟨_, rfl, _, rfl, _, rfl, d, ua, la, kv, decide (w = "//"), uv, lv, us, ls, rfl, hd, hu, pu, hl, pl, nu, nl, hp, fun H1 t s1 dt => ?_⟩
    refine ⟨_, rfl, ua, uv, rfl, .inl (s1.seq hu), ?_⟩
    intro q1 n2
    generalize e_H2 : upd _ q1 _ = H2
    obtain ⟨s2, h2⟩ := al e_H2 n2
    have s02 := s1.trans s2
    refine ⟨_, rfl, la, lv, rfl, .inl (s02.seq hl), ?_⟩
    intro q2 n3
    generalize e_H3 : upd _ q2 _ = H3
    obtain ⟨s3, h3⟩ := al e_H3 n3
    have s03 := s02.trans s3
    refine ⟨by show 2 ≤ sizeLine; decide, ?_⟩
    intro q3 n4
    generalize e_H4 : upd _ q3 _ = H4
    obtain ⟨s4, h4⟩ := al e_H4 n4
    have s04 := s03.trans s4
    have kept : Dp K H4 (.ref q3) (.list [.list (us.map eS3), .list (ls.map eS3)]) := dp_of_lst (SqL.of h4) (.cons ((pu.same s04).dp (SqL.of (s4 _ _ (s3 _ _ h2)))) (.cons ((pl.same s04).dp (SqL.of (s4 _ _ h3))) .nil))
    have due : Dp K H4 (.ref t) _ := dt.same ((s2.trans s3).trans s4)
    refine ⟨_, rfl, by decide, by decide, for_range (lo := 0) (n := 2) (fun i σ H' => ∃ (v6 v7 v8 : Option V), σ = [some (.ref ua), some (.ref la), some (.str w), some (.ref d), some (.ref t), some (.ref q3), v6, v7, v8] ∧ Same H4 H') ⟨none, none, none, rfl, Same.refl _⟩ ?_ ?_⟩
    · rintro i σ H5 hi ⟨v6, v7, v8, rfl, s5⟩
      have s05 := s04.trans s5
      refine ⟨_, rfl, _, rfl, _, rfl, la, ua, w, A, ls, us, lv, uv, rfl, s05.seq hl, pl.same s05, s05.seq hu, pu.same s05, F, als, aus, srl, sru, l0, u0, nl, nu, fun H6 p1 w1 s6 m1 g1 r1 => ?_⟩
      have s06 := s05.trans s6
      refine ⟨_, rfl, _, rfl, _, rfl, la, ua, w, A, ls, us, lv, uv, rfl, s06.seq hl, pl.same s06, s06.seq hu, pu.same s06, F, als, aus, srl, sru, l0, u0, nl, nu, fun H7 p2 w2 s7 m2 g2 r2 => ?_⟩
      have s07 := s06.trans s7
      have g17 := s7 _ _ g1
      have s47 : Same H4 H7 := (s5.trans s6).trans s7
      refine ⟨_, rfl, _, _, _, _, _, rfl, .ty _, .base (.lst g17), kit_ty (r := true) (by decide +kernel), _, rfl, ?_⟩
      refine iteF ⟨_, rfl, _, _, _, _, _, rfl, .ty _, .base (.lst g2), kit_ty (r := true) (by decide +kernel), _, rfl, ?_⟩
      refine iteF ⟨_, rfl, _, rfl, by show 2 ≤ sizeLine; decide, ?_⟩
      intro t8 n8
      generalize e_H8 : upd _ t8 _ = H8
      obtain ⟨s8, h8⟩ := al e_H8 n8
      have s48 := s47.trans s8
      have g18 := s8 _ _ g17
      have g28 := s8 _ _ g2
      have gd2 : Gd 3 (.tuple [.list ((us.filter (loB (decide (w = "//")) ls)).map eS3), .list ((ls.filter (upB (decide (w = "//")) us)).map eS3)]) := Gd.tup fun x hx => by
        rcases List.mem_cons.mp hx with rfl | hx
        · exact Gd.map fun x _ => gd_S3 x
        · rcases List.mem_cons.mp hx with rfl | hx
          · exact Gd.map fun x _ => gd_S3 x
          · cases hx
      refine ⟨_, rfl, _, _, dp_of_tup (SqT.of h8) (.cons (((r1.same s7).same s8).dp (SqL.of g18)) (.cons ((r2.same s8).dp (SqL.of g28)) .nil)), due.same s48, gd2.shaped (by decide), gd2.shaped (by decide), _, rfl, ?_⟩
      rw [gd2.eqv]
      refine iteF ⟨_, rfl, _, rfl, by show 2 ≤ sizeLine; decide, ?_⟩
      intro q9 n9
      generalize e_H9 : upd _ q9 _ = H9
      obtain ⟨s9, h9⟩ := al e_H9 n9
      have s49 := s48.trans s9
      have s09 := s04.trans s49
      have g19 := s9 _ _ g18
      have g29 := s9 _ _ g28
      have gd3 : Gd 3 (.list [.list (us.map eS3), .list (ls.map eS3)]) := Gd.lst fun x hx => by
        rcases List.mem_cons.mp hx with rfl | hx
        · exact Gd.map fun x _ => gd_S3 x
        · rcases List.mem_cons.mp hx with rfl | hx
          · exact Gd.map fun x _ => gd_S3 x
          · cases hx
      refine ⟨_, rfl, _, _, dp_of_lst (SqL.of h9) (.cons ((pu.same s09).dp (s09.seq hu)) (.cons ((pl.same s09).dp (s09.seq hl)) .nil)), kept.same s49, gd3.shaped (by decide), gd3.shaped (by decide), _, rfl, ?_⟩
      rw [gd3.eqv]
      refine iteF ⟨_, rfl, .inl ⟨rfl, _, SqL.of g19⟩, p1, _, rfl, rfl, g19, ?_⟩
      generalize e_Ha : upd _ p1 _ = Ha
      obtain ⟨ba, ga⟩ := ml e_Ha
      have np12 : p2 ≠ p1 := (ne_of_none g1 m2).symm
      have sa : Same H4 Ha := same_of_but s49 (s5.free m1) ba
      have g2a := ba _ _ np12 g29
      refine ⟨_, rfl, .inl ⟨rfl, _, SqL.of g2a⟩, p2, _, rfl, rfl, g2a, _, _, _, rfl, sa.mut (s5.free (s6.free m2))⟩
    · rintro σ H5 ⟨v6, v7, v8, rfl, s5⟩
      exact k H5 (s04.trans s5)
theorem sc_law_beneath : FnScope ["_law_uppers_here", "_law_way", "_law_pairs", "_law_k", "_law_upper", "_law_here"] ["_law_uppers_here", "_law_way"] (defScope st_law_beneath) := ⟨rfl, rfl, rfl, by decide +kernel, rfl, by decide +kernel, by decide +kernel⟩
theorem ok_law_beneath {f : Addr} {fd : FuncData} (T : Txt K mg) (F : FnP K "_law_beneath" "_law_beneath" st_law_beneath f fd)  : FnOk P w K mg base CX0 1 f fd ["_law_uppers_here", "_law_way"] (sp_law_beneath K) := by
  refine F.ok sc_law_beneath (fun vs H Q E h => ?_) (fun cdv A outer s H vs Q E hr h => ?_)
  · obtain ⟨l, w, ds, us, rfl, _⟩ := h
    rfl
  · obtain ⟨l, w, ds, us, rfl, hw, hl, up, hn, k⟩ := h
    refine ⟨_, PSs.nox (pss_cons (ps_set (i := 2) sc_law_beneath.nd rfl (Or.inl rfl) pe_dnewT)
      (pss_cons (ps_for PassesOwn.never rfl (pi_enum rfl T.free_enumerate (pa_cons (pv 0) pa_nil)) (pg_tup rfl (pgs_cons (pg_name (i := 3) sc_law_beneath.nd rfl (Or.inl rfl)) (pgs_cons (pg_name (i := 4) sc_law_beneath.nd rfl (Or.inl rfl)) pgs_nil)))
      (pss_cons (ps_set (i := 5) sc_law_beneath.nd rfl (Or.inl rfl) (pv 4))
      (pss_one (ps_while PassesOwn.never (pt_cmpR op_notN (pv 5) pe_non (nomark _))
      (pss_cons (ps_dput (hu_of hr) (pv 2) (pe_tup (pa_cons (pv 5) (pa_cons (pv 3) pa_nil))) pe_bl rfl)
      (pss_one (ps_set (i := 5) sc_law_beneath.nd rfl (Or.inl rfl) (pe_ix ix_list (pe_lst (pa_cons (pe_ix ix_list (pv 0) (pv 5) (fun _ _ => rfl)) (pa_cons pe_non pa_nil))) (pe_callTy call_int1 rfl T.free_int (by decide +kernel) (pa_cons (pe_cmpR op_eq (pv 1) pe_str (nomark _)) pa_nil)) (fun _ _ => rfl)))))))))
      (pss_one (ps_ret (pv 2))))), ?_⟩
    intro p n1
    generalize e_H1 : upd _ p _ = H1
    obtain ⟨s1, h1⟩ := al e_H1 n1
    have hul := up.len
    refine ⟨_, rfl, l, _, rfl, s1.seq hl, for_enum (K := K) (a := l) (xs := us.map vOpt) (i := 3) (j := 4) (fun i σ H' => ∃ (kv : List (List Key × V)) (v3 v4 v5 : Option V), σ = [some (.ref l), some (.str w), some (.ref p), v3, v4, v5] ∧ Same H H' ∧ H' p = some (.dT kv) ∧ Prs ds (decide (w = "//")) i kv ∧ kv.length ≤ i * 1000) ?_ (fun i σ H' _ ⟨_, _, _, _, _, s, _⟩ => s.seq hl) ?_ ?_⟩
    · refine ⟨[], none, none, none, rfl, s1, h1, fun u k => ⟨fun h => absurd h (has2_nil u k), fun ⟨_, _, _, _, h, _⟩ => by omega⟩, Nat.zero_le _⟩
    · rintro i x T σ H3 hi ⟨kv, v3, v4, v5, rfl, s3, hp, hprs, hkl⟩ nT
      obtain ⟨o, ho, rfl⟩ : ∃ o, us[i]? = some o ∧ x = vOpt o := by
        rw [List.getElem?_map] at hi
        cases e : us[i]? with
        | none => rw [e] at hi; cases hi
        | some d => rw [e] at hi; exact ⟨d, rfl, (Option.some.inj hi).symm⟩
      have hil : i < us.length := (List.getElem?_eq_some_iff.mp ho).1
      generalize e4 : upd H3 T _ = H4
      obtain ⟨s4, _⟩ := al e4 nT
      have hp4 := s4 _ _ hp
      have s04 := s3.trans s4
      refine ⟨_, rfl, ?_⟩
      refine ⟨fun m σ H' => ∃ (o' : Option Int) (kv : List (List Key × V)), σ = [some (.ref l), some (.str w), some (.ref p), some (.int i), some (vOpt o), some (vOpt o')] ∧ Same H H' ∧ H' p = some (.dT kv) ∧ m = om o' ∧ m ≤ i ∧ kv.length + m ≤ i * 1000 + i ∧ PWalk ds (decide (w = "//")) i o' kv, ?_, ?_⟩
      · have pw := PWalk.start hprs (up.at_ i o ho)
        refine ⟨_, o, kv, rfl, s04, hp4, rfl, ?_, ?_, pw⟩
        · cases o with
          | none => exact Nat.zero_le _
          | some h =>
            obtain ⟨n, rfl, b⟩ := pw.at_ h rfl
            have := b.1.1
            show (n : Int).toNat + 1 ≤ i
            omega
        · cases o with
          | none => show kv.length + 0 ≤ _; omega
          | some h =>
            obtain ⟨n, rfl, b⟩ := pw.at_ h rfl
            have := b.1.1
            show kv.length + ((n : Int).toNat + 1) ≤ _
            omega
      · rintro m σ H5 ⟨o', kv, rfl, s5, h5, rfl, hmi, hkl5, pw⟩
        cases o' with
        | none => 
          refine ⟨_, rfl, rfl, _, rfl, iteF ⟨kv, _, _, _, rfl, s5, h5, pw.end_, ?_⟩⟩
          have : kv.length + 0 ≤ i * 1000 + i := hkl5
          omega
        | some h =>
          obtain ⟨n, rfl, b⟩ := pw.at_ h rfl
          have hni := b.1.1
          have hkl6 : kv.length + ((n : Int).toNat + 1) ≤ i * 1000 + i := hkl5
          refine ⟨_, rfl, rfl, _, rfl, iteT ⟨_, fun _ _ h => h, _, rfl, _, rfl, _, rfl, by show 2 ≤ sizeLine; decide, ?_⟩⟩
          intro t n6
          generalize e_H6 : upd _ t _ = H6
          obtain ⟨s6, h6⟩ := al e_H6 n6
          have hp6 := s6 _ _ h5
          have s06 := s5.trans s6
          refine ⟨p, _, rfl, DPut.t (k := [Sum.inl (n : Int), Sum.inl (i : Int)]) hp6 h6 (szl (by omega)), ?_⟩
          generalize e_H7 : upd _ p _ = H7
          obtain ⟨b7, h7⟩ := ml e_H7
          have s07 : Same H H7 := same_of_but s06 n1 b7
          have hnu : n < us.length := by omega
          refine ⟨_, rfl, _, rfl, _, _, _, _, rfl, rfl, s07.seq hl, atI_nat (j := n) (v := vOpt us[n]) (by rw [List.getElem?_map, List.getElem?_eq_getElem hnu]; rfl), by show 2 ≤ sizeLine; decide, ?_⟩
          intro q8 n8
          generalize e_H8 : upd _ q8 _ = H8
          obtain ⟨s8, h8⟩ := al e_H8 n8
          have hp8 := s8 _ _ h7
          have s08 := s07.trans s8
          refine ⟨_, rfl, rfl, .inr ⟨_, rfl, ?_⟩⟩
          have hat : atI [vOpt us[n], V.non] (if decide (V.str w = V.str "/") then 1 else 0) = some (vOpt (if w = "/" then none else us[n])) := by
            by_cases c : w = "/"
            · rw [if_pos c, decide_eq_true (by rw [c])]
              exact atI_nat (j := 1) rfl
            · rw [if_neg c, decide_eq_false (by intro z; injection z with z; exact c z)]
              exact atI_nat (j := 0) rfl
          refine ⟨_, _, _, _, rfl, rfl, SqL.of h8, hat, ?_⟩
          have hun := up.at_ n us[n] (List.getElem?_eq_getElem hnu)
          have pw2 : PWalk ds (decide (w = "//")) i (if w = "/" then none else us[n]) (put2 kv n i) := by
            refine pw.step (fun c => ?_) (fun c => ?_)
            · have c : w = "//" := of_decide_eq_true c
              rw [if_neg (by rw [c]; decide)]
              exact hun
            · have c : ¬ w = "//" := of_decide_eq_false c
              rw [if_pos (hw.resolve_right c)]
          generalize eo : (if w = "/" then none else us[n]) = o2 at pw2
          have hp2 := put2_len kv n i
          have hm2 : om o2 < (n : Int).toNat + 1 := by
            cases o2 with
            | none => show 0 < _; omega
            | some h2 =>
              by_cases c : w = "/"
              · rw [if_pos c] at eo; cases eo
              · rw [if_neg c] at eo
                rw [eo] at hun
                obtain ⟨x, rfl, pp⟩ := hun
                have := pp.1.1
                show (x : Int).toNat + 1 < _
                omega
          have hmi : (n : Int).toNat + 1 ≤ i := hmi
          exact ⟨_, hm2, o2, put2 kv n i, rfl, s08, hp8, rfl, by omega, by omega, pw2⟩
    · rintro σ H3 ⟨kv, v3, v4, v5, rfl, s3, hp, hprs, hkl⟩
      rw [List.length_map, hul] at hprs
      exact ⟨_, rfl, k H3 p kv s3 n1 hp hprs⟩
theorem sc_law_good : FnScope ["_law_cell", "_law_source_here", "_law_depths_here", "_law_stretches_here", "_law_uppers_here", "_law_lowers", "_law_above", "_law_way"] ["_law_cell"] (defScope st_law_good) := ⟨rfl, rfl, rfl, by decide +kernel, rfl, by decide +kernel, by decide +kernel⟩
theorem ok_law_good {f : Addr} {fd : FuncData} (T : Txt K mg) (F : FnP K "_law_good" "_law_good" st_law_good f fd) (G_law_source : Fn P w K mg base CX0 1 "_law_source" ["_law_cell"] (sp_law_source K)) (G_law_depths : Fn P w K mg base CX0 4 "_law_depths" ["_law_source_here"] (sp_law_depths K)) (G_law_stretches : Fn P w K mg base CX0 1 "_law_stretches" ["_law_depths_here"] (sp_law_stretches K)) (G_law_some : Fn P w K mg base CX0 2 "_law_some" ["_law_source_here", "_law_stretches_here"] (sp_law_some K)) (G_law_take : Fn P w K mg base CX0 1 "_law_take" ["_law_source_here", "_law_many"] (sp_law_take K)) (G_law_uppers : Fn P w K mg base CX0 1 "_law_uppers" ["_law_depths_here"] (sp_law_uppers K)) (G_law_right : Fn P w K mg base CX0 4 "_law_right" ["_law_uppers_here", "_law_lowers", "_law_way", "_law_pairs"] (sp_law_right K)) (G_law_beneath : Fn P w K mg base CX0 1 "_law_beneath" ["_law_uppers_here", "_law_way"] (sp_law_beneath K)) : FnOk P w K mg base CX0 5 f fd ["_law_cell"] (sp_law_good K) := by
  refine F.ok sc_law_good (fun vs H Q E h => ?_) (fun cdv A outer s H vs Q E hr h => ?_)
  · obtain ⟨c, rfl, _⟩ := h
    rfl
  · obtain ⟨c, rfl, k⟩ := h
    refine ⟨_, PSs.nox (pss_cons (ps_set (i := 1) sc_law_good.nd rfl (Or.inl rfl) (pe_callF G_law_source (hr.mono (by decide)) pass0 (pa_cons (pv 0) pa_nil)))
      (pss_cons (ps_set (i := 2) sc_law_good.nd rfl (Or.inl rfl) (pe_callF G_law_depths (hr.mono (by decide)) pass0 (pa_cons (pv 1) pa_nil)))
      (pss_cons (ps_set (i := 3) sc_law_good.nd rfl (Or.inl rfl) (pe_callF G_law_stretches (hr.mono (by decide)) pass0 (pa_cons (pv 2) pa_nil)))
      (pss_cons (ps_set (i := 4) sc_law_good.nd rfl (Or.inl rfl) (pe_callF G_law_some (hr.mono (by decide)) pass0 (pa_cons (pv 1) (pa_cons (pv 3) pa_nil))))
      (pss_cons (ps_set (i := 5) sc_law_good.nd rfl (Or.inl rfl) (pe_callF G_law_some (hr.mono (by decide)) pass0 (pa_cons (pv 1) (pa_cons (pv 3) pa_nil))))
      (pss_cons (ps_if (pt_cmpR op_eq (pe_callF G_law_take (hr.mono (by decide)) pass0 (pa_cons (pv 1) (pa_cons pe_int pa_nil))) pe_int (nomark _))
      (pss_one (ps_set (i := 5) sc_law_good.nd rfl (Or.inl rfl) (pv 4)))
      pss_nil)
      (pss_cons (ps_set (i := 6) sc_law_good.nd rfl (Or.inl rfl) (pe_callF G_law_uppers (hr.mono (by decide)) pass0 (pa_cons (pv 2) pa_nil)))
      (pss_cons (ps_for PassesOwn.never rfl (pi_list (pe_lst (pa_cons pe_str (pa_cons pe_str pa_nil)))) (pg_name (i := 7) sc_law_good.nd rfl (Or.inl rfl))
      (pss_one (ps_if (pt_not (pt_val (pe_callF G_law_right (hr.mono (by decide)) pass0 (pa_cons (pv 4) (pa_cons (pv 5) (pa_cons (pv 7) (pa_cons (pe_callF G_law_beneath (hr.mono (by decide)) pass0 (pa_cons (pv 6) (pa_cons (pv 7) pa_nil))) pa_nil)))))))
      (pss_one (ps_ret pe_bl))
      pss_nil)))
      (pss_one (ps_ret pe_bl)))))))))), ?_⟩
    refine ⟨_, rfl, c, rfl, fun a H1 n1 s1 S1 => ?_⟩
    refine ⟨_, rfl, a, rfl, S1, fun H2 dl ds b2 S2 n2 h2 dv dn1 dn2 => ?_⟩
    have s2 : Same H H2 := same_of_but s1 n1 b2
    refine ⟨_, rfl, dl, ds, rfl, SqL.of h2, by omega, fun H3 sl sv ss s3 n3 h3 p3 all => ?_⟩
    have S3_ : Src H3 a := by obtain ⟨x, y, z, h⟩ := S2; exact ⟨x, y, z, s3 _ _ h⟩
    have hsl : ss.length ≤ 1000 := by rw [all.len]; omega
    refine ⟨_, rfl, _, rfl, a, sl, sv, ss, rfl, S3_, SqL.of h3, p3, hsl, fun H4 ua uv us b4 S4 n4 h4 p4 subu => ?_⟩
    obtain ⟨_, _, _, hS3⟩ := S3_
    obtain ⟨_, _, _, hS4⟩ := id S4
    have nas : sl ≠ a := (ne_of hS3 h3 (by intro z; cases z)).symm
    have h34 := b4 _ _ nas h3
    have p34 := PL.tk p3 (TK.butD b4 hS3) flat_S3
    refine ⟨_, rfl, _, rfl, a, sl, sv, ss, rfl, S4, SqL.of h34, p34, hsl, fun H5 la lv ls b5 S5 n5 h5 p5 subl => ?_⟩
    obtain ⟨n6, s6, t6, hS5⟩ := S5
    have nau : ua ≠ a := (ne_of hS4 h4 (by intro z; cases z)).symm
    have nal : la ≠ a := (ne_of hS5 h5 (by intro z; cases z)).symm
    have h45 := b5 _ _ nau h4
    have p45 := PL.tk p4 (TK.butD b5 hS4) flat_S3
    refine ⟨_, rfl, a, 4, n6, s6, t6, rfl, hS5, by decide, by decide, fun r H6 _ _ b6 S6 => ⟨rfl, _, rfl, ?_⟩⟩
    have h56 := b6 _ _ nal h5
    have p56 := PL.tk p5 (TK.butD b6 hS5) flat_S3
    have h46 := b6 _ _ nau h45
    have p46 := PL.tk p45 (TK.butD b6 hS5) flat_S3
    have hdl : H6 dl = some (.lst (ds.map V.int)) := by
      obtain ⟨_, _, _, hS2⟩ := S2
      have nd : dl ≠ a := (ne_of hS2 h2 (by intro z; cases z)).symm
      exact b6 _ _ nd (b5 _ _ nd (b4 _ _ nd (s3 _ _ h2)))
    have s6' : Same H H6 := fun b o h => b6 _ _ (ne_of_none h n1) (b5 _ _ (ne_of_none h n1) (b4 _ _ (ne_of_none h n1) (s3 _ _ (s2 _ _ h))))
    have F := fam_of ds
    refine ite2 (fun c4 => ?_) (fun c4 => ?_)
    · refine ⟨_, rfl, ?_⟩
      refine ⟨_, rfl, dl, ds, rfl, SqL.of hdl, dv, by omega, fun H7 ab ups s7 n7 h7 upo => ?_⟩
      refine ⟨by show 2 ≤ sizeLine; decide, ?_⟩
      intro wl n8
      generalize e_H8 : upd _ wl _ = H8
      obtain ⟨s8, h8⟩ := al e_H8 n8
      have s68 := s7.trans s8
      refine ⟨wl, rfl, ⟨_, SqL.of h8⟩, for_list (K := K) (a := wl) (xs := [.str "/", .str "//"]) (fun i σ H' => Same H8 H' ∧ ∃ v, σ = [some (.int c), some (.ref a), some (.ref dl), some (.ref sl), some (.ref ua), some (.ref ua), some (.ref ab), v]) ⟨Same.refl _, none, rfl⟩ (fun i σ H' _ q => q.1.seq (SqL.of h8)) ?_ ?_⟩
      · rintro i x σ H9 hi ⟨s9, v, rfl⟩
        obtain ⟨w, hw, rfl⟩ : ∃ w : Str, (w = "/" ∨ w = "//") ∧ x = .str w := by
          match i, hi with
          | 0, hi => exact ⟨"/", .inl rfl, by simpa using hi.symm⟩
          | 1, hi => exact ⟨"//", .inr rfl, by simpa using hi.symm⟩
        have s79 := s8.trans s9
        refine ⟨_, rfl, _, rfl, _, rfl, _, rfl, _, rfl, ab, w, ds, ups, rfl, hw, SqL.of (s79 _ _ h7), upo, by omega, fun Ha pd kv sa na ha prs => ?_⟩
        have s6a := (s68.trans s9).trans sa
        refine ⟨pd, ua, ua, kv, w, IsS ds, uv, uv, us, us, rfl, ha, SqL.of (s6a _ _ h46), p46.same s6a, SqL.of (s6a _ _ h46), p46.same s6a, Nat.le_trans subu.length_le hsl, Nat.le_trans subu.length_le hsl, fun u hu l hl => prs_bn prs (all.isS u (subu.mem hu)) (all.isS l (subu.mem hl)), F, fun x hx => all.isS x (subu.mem hx), fun x hx => all.isS x (subu.mem hx), all.srt.sublist subu, all.srt.sublist subu, fun x hx => isS_nonneg (all.isS x (subu.mem hx)), fun x hx => isS_nonneg (all.isS x (subu.mem hx)), fun Hb sb => ⟨_, rfl, iteF ⟨(s9.trans sa).trans sb, _, rfl⟩⟩⟩
      · rintro σ H9 ⟨s9, v, rfl⟩
        exact k H9 (s6'.trans (s68.trans s9))
    · refine ⟨_, rfl, dl, ds, rfl, SqL.of hdl, dv, by omega, fun H7 ab ups s7 n7 h7 upo => ?_⟩
      refine ⟨by show 2 ≤ sizeLine; decide, ?_⟩
      intro wl n8
      generalize e_H8 : upd _ wl _ = H8
      obtain ⟨s8, h8⟩ := al e_H8 n8
      have s68 := s7.trans s8
      refine ⟨wl, rfl, ⟨_, SqL.of h8⟩, for_list (K := K) (a := wl) (xs := [.str "/", .str "//"]) (fun i σ H' => Same H8 H' ∧ ∃ v, σ = [some (.int c), some (.ref a), some (.ref dl), some (.ref sl), some (.ref ua), some (.ref la), some (.ref ab), v]) ⟨Same.refl _, none, rfl⟩ (fun i σ H' _ q => q.1.seq (SqL.of h8)) ?_ ?_⟩
      · rintro i x σ H9 hi ⟨s9, v, rfl⟩
        obtain ⟨w, hw, rfl⟩ : ∃ w : Str, (w = "/" ∨ w = "//") ∧ x = .str w := by
          match i, hi with
          | 0, hi => exact ⟨"/", .inl rfl, by simpa using hi.symm⟩
          | 1, hi => exact ⟨"//", .inr rfl, by simpa using hi.symm⟩
        have s79 := s8.trans s9
        refine ⟨_, rfl, _, rfl, _, rfl, _, rfl, _, rfl, ab, w, ds, ups, rfl, hw, SqL.of (s79 _ _ h7), upo, by omega, fun Ha pd kv sa na ha prs => ?_⟩
        have s6a := (s68.trans s9).trans sa
        refine ⟨pd, ua, la, kv, w, IsS ds, uv, lv, us, ls, rfl, ha, SqL.of (s6a _ _ h46), p46.same s6a, SqL.of (s6a _ _ h56), p56.same s6a, Nat.le_trans subu.length_le hsl, Nat.le_trans subl.length_le hsl, fun u hu l hl => prs_bn prs (all.isS u (subu.mem hu)) (all.isS l (subl.mem hl)), F, fun x hx => all.isS x (subl.mem hx), fun x hx => all.isS x (subu.mem hx), all.srt.sublist subl, all.srt.sublist subu, fun x hx => isS_nonneg (all.isS x (subl.mem hx)), fun x hx => isS_nonneg (all.isS x (subu.mem hx)), fun Hb sb => ⟨_, rfl, iteF ⟨(s9.trans sa).trans sb, _, rfl⟩⟩⟩
      · rintro σ H9 ⟨s9, v, rfl⟩
        exact k H9 (s6'.trans (s68.trans s9))
theorem sc_law_cell_at : FnScope ["_law_script", "_law_k"] ["_law_script", "_law_k"] (defScope st_law_cell_at) := ⟨rfl, rfl, rfl, by decide +kernel, rfl, by decide +kernel, by decide +kernel⟩
theorem ok_law_cell_at {f : Addr} {fd : FuncData} (T : Txt K mg) (F : FnP K "_law_cell_at" "_law_cell_at" st_law_cell_at f fd)  : FnOk P w K mg base CX0 1 f fd ["_law_script", "_law_k"] (sp_law_cell_at K) := by
  refine F.ok sc_law_cell_at (fun vs H Q E h => ?_) (fun cdv A outer s H vs Q E hr h => ?_)
  · obtain ⟨a, ns, k, rfl, _⟩ := h
    rfl
  · obtain ⟨a, ns, i, rfl, hS, hl, h0, k⟩ := h
    refine ⟨_, PSs.nox (pss_cons (ps_if (pt_cmpR op_lt (pv 1) (pe_callB call_len rfl T.free_len PySem.boot_len (pa_cons (pv 0) pa_nil)) (nomark _))
      (pss_one (ps_ret (pe_ix ix_list (pv 0) (pv 1) (fun _ _ => rfl))))
      pss_nil)
      (pss_one (ps_ret (pe_op op_add (pe_op op_mul pe_int (pv 1)) pe_int)))), ?_⟩
    refine ⟨_, rfl, _, rfl, _, _, rfl, Or.inl ⟨_, hS, rfl⟩, _, _, rfl, rfl, _, rfl, ?_⟩
    refine ite2 (fun c => ?_) (fun c => ?_)
    · have c : i < ((ns.map V.int).length : Int) := of_decide_eq_true c
      obtain ⟨n, rfl⟩ := Int.eq_ofNat_of_zero_le h0
      rw [List.length_map] at c
      have hn : n < ns.length := by omega
      refine ⟨_, rfl, _, rfl, _, _, _, _, rfl, rfl, hS, atI_nat (v := .int ns[n]) (by rw [List.getElem?_map, List.getElem?_eq_getElem hn]; rfl), k _⟩
    · exact ⟨_, rfl, _, _, rfl, rfl, .inl ⟨by decide, by decide⟩, _, _, rfl, rfl, k _⟩
theorem sc_law : FnScope ["_law_script", "_law_k"] ["_law_script"] (defScope st_law) := ⟨rfl, rfl, rfl, by decide +kernel, rfl, by decide +kernel, by decide +kernel⟩
theorem ok_law {f : Addr} {fd : FuncData} (T : Txt K mg) (F : FnP K "law" "law" st_law f fd) (G_law_good : Fn P w K mg base CX0 5 "_law_good" ["_law_cell"] (sp_law_good K)) (G_law_cell_at : Fn P w K mg base CX0 1 "_law_cell_at" ["_law_script", "_law_k"] (sp_law_cell_at K)) : FnOk P w K mg base CX0 6 f fd ["_law_script"] (sp_law K) := by
  refine F.ok sc_law (fun vs H Q E h => ?_) (fun cdv A outer s H vs Q E hr h => ?_)
  · obtain ⟨a, ns, rfl, _⟩ := h
    rfl
  · obtain ⟨a, ns, rfl, hS, hl, k⟩ := h
    refine ⟨_, PSs.nox (pss_cons (ps_for PassesOwn.never rfl (pi_range1 rfl T.free_range (pa_cons (pe_callB (call_max2 rfl) rfl T.free_max (by decide +kernel) (pa_cons pe_int (pa_cons (pe_callB (call_min2 rfl) rfl T.free_min (by decide +kernel) (pa_cons (pe_callB call_len rfl T.free_len PySem.boot_len (pa_cons (pv 0) pa_nil)) (pa_cons pe_int pa_nil))) pa_nil))) pa_nil)) (pg_name (i := 1) sc_law.nd rfl (Or.inl rfl))
      (pss_one (ps_if (pt_not (pt_val (pe_callF G_law_good (hr.mono (by decide)) pass0 (pa_cons (pe_callF G_law_cell_at (hr.mono (by decide)) pass0 (pa_cons (pv 0) (pa_cons (pv 1) pa_nil))) pa_nil))))
      (pss_one (ps_ret pe_bl))
      pss_nil)))
      (pss_one (ps_ret pe_bl))), ?_⟩
    refine ⟨_, rfl, _, _, rfl, Or.inl ⟨_, hS, rfl⟩, _, _, rfl, _, _, rfl, _, rfl, by split <;> (try split) <;> omega, by rw [List.length_map]; split <;> (try split) <;> omega, for_range (lo := 0) (fun i σ H' => Same H H' ∧ ∃ v1, σ = [some (.ref a), v1]) ⟨Same.refl _, none, rfl⟩ ?_ ?_⟩
    · rintro i σ H1 hi ⟨s1, v1, rfl⟩
      refine ⟨_, rfl, _, rfl, a, ns, _, rfl, s1.seq hS, hl, by omega, fun c => ⟨c, rfl, fun H2 s2 => ⟨_, rfl, ?_⟩⟩⟩
      exact iteF ⟨s1.trans s2, _, rfl⟩
    · rintro σ H1 ⟨s1, v1, rfl⟩
      exact k H1
end
def dd_law_source : He.DefD := ⟨("_law_source", none), "_law_source", "_law_source", defArgs st_law_source, defBody st_law_source, defScope st_law_source, [], []⟩
def dd_law_take : He.DefD := ⟨("_law_take", none), "_law_take", "_law_take", defArgs st_law_take, defBody st_law_take, defScope st_law_take, [], []⟩
def dd_law_depth : He.DefD := ⟨("_law_depth", none), "_law_depth", "_law_depth", defArgs st_law_depth, defBody st_law_depth, defScope st_law_depth, [], []⟩
def dd_law_rows : He.DefD := ⟨("_law_rows", none), "_law_rows", "_law_rows", defArgs st_law_rows, defBody st_law_rows, defScope st_law_rows, [], []⟩
def dd_law_depths : He.DefD := ⟨("_law_depths", none), "_law_depths", "_law_depths", defArgs st_law_depths, defBody st_law_depths, defScope st_law_depths, [], []⟩
def dd_law_stretches : He.DefD := ⟨("_law_stretches", none), "_law_stretches", "_law_stretches", defArgs st_law_stretches, defBody st_law_stretches, defScope st_law_stretches, [], []⟩
def dd_law_some : He.DefD := ⟨("_law_some", none), "_law_some", "_law_some", defArgs st_law_some, defBody st_law_some, defScope st_law_some, [], []⟩
def dd_law_uppers : He.DefD := ⟨("_law_uppers", none), "_law_uppers", "_law_uppers", defArgs st_law_uppers, defBody st_law_uppers, defScope st_law_uppers, [], []⟩
def dd_law_due : He.DefD := ⟨("_law_due", none), "_law_due", "_law_due", defArgs st_law_due, defBody st_law_due, defScope st_law_due, [], []⟩
def dd_Open_init : He.DefD := ⟨("Open", some "__init__"), "__init__", "Open.__init__", defArgs st_Open_init, defBody st_Open_init, defScope st_Open_init, [], []⟩
def dd_Open_close : He.DefD := ⟨("Open", some "close"), "close", "Open.close", defArgs st_Open_close, defBody st_Open_close, defScope st_Open_close, [], []⟩
def dd_Open_meet : He.DefD := ⟨("Open", some "meet"), "meet", "Open.meet", defArgs st_Open_meet, defBody st_Open_meet, defScope st_Open_meet, [], []⟩
def dd_with_lower : He.DefD := ⟨("with_lower", none), "with_lower", "with_lower", defArgs st_with_lower, defBody st_with_lower, defScope st_with_lower, [], []⟩
def dd_closed : He.DefD := ⟨("closed", none), "closed", "closed", defArgs st_closed, defBody st_closed, defScope st_closed, [], []⟩
def dd_with_upper : He.DefD := ⟨("with_upper", none), "with_upper", "with_upper", defArgs st_with_upper, defBody st_with_upper, defScope st_with_upper, [], []⟩
def dd_law_right : He.DefD := ⟨("_law_right", none), "_law_right", "_law_right", defArgs st_law_right, defBody st_law_right, defScope st_law_right, [], []⟩
def dd_law_beneath : He.DefD := ⟨("_law_beneath", none), "_law_beneath", "_law_beneath", defArgs st_law_beneath, defBody st_law_beneath, defScope st_law_beneath, [], []⟩
def dd_law_good : He.DefD := ⟨("_law_good", none), "_law_good", "_law_good", defArgs st_law_good, defBody st_law_good, defScope st_law_good, [], []⟩
def dd_law_cell_at : He.DefD := ⟨("_law_cell_at", none), "_law_cell_at", "_law_cell_at", defArgs st_law_cell_at, defBody st_law_cell_at, defScope st_law_cell_at, [], []⟩
def dd_law : He.DefD := ⟨("law", none), "law", "law", defArgs st_law, defBody st_law, defScope st_law, [], []⟩
def fns : List He.DefD := [dd_law_source, dd_law_take, dd_law_depth, dd_law_rows, dd_law_depths, dd_law_stretches, dd_law_some, dd_law_uppers, dd_law_due, dd_Open_init, dd_Open_close, dd_Open_meet, dd_with_lower, dd_closed, dd_with_upper, dd_law_right, dd_law_beneath, dd_law_good, dd_law_cell_at, dd_law]
def facs : List He.Fa := ([.free "max", .free "int", .free "min", .free "range", .free "len", .free "list", .free "enumerate", .free "isinstance", .cls "Open", .noat "Open" "link", .noat "Open" "stack", .noat "Open" "having", .glo "_law_source", .glo "_law_take", .glo "_law_depth", .glo "_law_rows", .glo "_law_depths", .glo "_law_stretches", .glo "_law_some", .glo "_law_uppers", .glo "_law_due", .mkr "Open", .glo "Open", .meth "Open" "close", .meth "Open" "meet", .glo "with_lower", .glo "closed", .glo "with_upper", .glo "_law_right", .glo "_law_beneath"] : List He.Fa) ++ ([.glo "_law_good", .glo "_law_cell_at", .glo "law"] : List He.Fa)
def loose : List Str := (["closed", "with_upper", "Open", "with_lower", "_law_cell_at", "_law_source", "_law_take", "_law_depth", "_law_rows", "_law_uppers", "_law_beneath", "_law_stretches", "_law_depths", "_law_some", "_law_due", "_law_right", "_law_good"] : List Str)
abbrev RR : PySem.W.OpenRow := PySem.W.OpenLaw.row PySem.Challenge.rw_boughask_k31_lists_joined
abbrev hk : PySem.W.Hook := He.hookD 6 facs fns
def ob (s : PySem.W.SharedT) : He.AlD := He.obsDG 6 facs fns (HandSHeadRun.getT s)
theorem ob_eq (s : PySem.W.SharedT) : ob s = hk.obs s.abs := He.obsDG_eq (HandSHeadRun.getT_eq s)
theorem run (w : World) : HandSHeadRun.RunEq RR (PySem.W.view RR.prog [19]) hk ob 4000 loose w := by
  intro os
  kernel_rfl
theorem facts {P : Program} {w : World} {K : PySem.W.Frag} {h : Heap} {mg : Str → Option Value} {fl : Addr} (X : K.In h) (G : h.Ns mainGlobals mg) (hfa : mg ("law" : Str) = some (.ref fl)) (c : He.SaysD facs fns K) :
    ∃ fd : FuncData, (∀ (s : Shared) (v : Value), BindsTo s fd ⟨[v], []⟩ [("_law_script", v)]) ∧ ∀ base : Heap, K.In base → base.Ns mainGlobals mg → FnOk P w K mg base CX0 6 fl fd ["_law_script"] (sp_law K) := by
  obtain ⟨fd_law_source, F_law_source⟩ := c.def_ 0 (d := dd_law_source) rfl
  obtain ⟨fd_law_take, F_law_take⟩ := c.def_ 1 (d := dd_law_take) rfl
  obtain ⟨fd_law_depth, F_law_depth⟩ := c.def_ 2 (d := dd_law_depth) rfl
  obtain ⟨fd_law_rows, F_law_rows⟩ := c.def_ 3 (d := dd_law_rows) rfl
  obtain ⟨fd_law_depths, F_law_depths⟩ := c.def_ 4 (d := dd_law_depths) rfl
  obtain ⟨fd_law_stretches, F_law_stretches⟩ := c.def_ 5 (d := dd_law_stretches) rfl
  obtain ⟨fd_law_some, F_law_some⟩ := c.def_ 6 (d := dd_law_some) rfl
  obtain ⟨fd_law_uppers, F_law_uppers⟩ := c.def_ 7 (d := dd_law_uppers) rfl
  obtain ⟨fd_law_due, F_law_due⟩ := c.def_ 8 (d := dd_law_due) rfl
  obtain ⟨fd_Open_init, F_Open_init⟩ := c.def_ 9 (d := dd_Open_init) rfl
  obtain ⟨fd_Open_close, F_Open_close⟩ := c.def_ 10 (d := dd_Open_close) rfl
  obtain ⟨fd_Open_meet, F_Open_meet⟩ := c.def_ 11 (d := dd_Open_meet) rfl
  obtain ⟨fd_with_lower, F_with_lower⟩ := c.def_ 12 (d := dd_with_lower) rfl
  obtain ⟨fd_closed, F_closed⟩ := c.def_ 13 (d := dd_closed) rfl
  obtain ⟨fd_with_upper, F_with_upper⟩ := c.def_ 14 (d := dd_with_upper) rfl
  obtain ⟨fd_law_right, F_law_right⟩ := c.def_ 15 (d := dd_law_right) rfl
  obtain ⟨fd_law_beneath, F_law_beneath⟩ := c.def_ 16 (d := dd_law_beneath) rfl
  obtain ⟨fd_law_good, F_law_good⟩ := c.def_ 17 (d := dd_law_good) rfl
  obtain ⟨fd_law_cell_at, F_law_cell_at⟩ := c.def_ 18 (d := dd_law_cell_at) rfl
  obtain ⟨fd_law, F_law⟩ := c.def_ 19 (d := dd_law) rfl
  have T : Txt K mg := { free_max := He.free_ok X G (c.fact 0 (f := .free "max") rfl), free_int := He.free_ok X G (c.fact 1 (f := .free "int") rfl), free_min := He.free_ok X G (c.fact 2 (f := .free "min") rfl), free_range := He.free_ok X G (c.fact 3 (f := .free "range") rfl), free_len := He.free_ok X G (c.fact 4 (f := .free "len") rfl), free_list := He.free_ok X G (c.fact 5 (f := .free "list") rfl), free_enumerate := He.free_ok X G (c.fact 6 (f := .free "enumerate") rfl), free_isinstance := He.free_ok X G (c.fact 7 (f := .free "isinstance") rfl), cl_Open := He.cls_ok (c.fact 8 (f := .cls "Open") rfl), na_Open_link := He.noat_ok (c.fact 9 (f := .noat "Open" "link") rfl), na_Open_stack := He.noat_ok (c.fact 10 (f := .noat "Open" "stack") rfl), na_Open_having := He.noat_ok (c.fact 11 (f := .noat "Open" "having") rfl) }
  have e := hfa.symm.trans (He.glo_ok X G (c.fact 32 (f := .glo "law") rfl))
  cases e
  have b := FunD.bindsA (ps := ["_law_script"]) F_law fun _ _ _ _ _ _ us hl => match us, hl with | [_], _ => rfl
  refine ⟨fd_law, fun s v => b s [v] rfl, fun base _ _ => ?_⟩
  have G_law_source : Fn P w K mg base CX0 1 "_law_source" ["_law_cell"] (sp_law_source K) := ⟨_, _, (ok_law_source (P := P) (w := w) (base := base) T F_law_source ), He.glo_ok X G (c.fact 12 (f := .glo "_law_source") rfl), F_law_source.kp, (F_law_source.bindsN fun _ _ _ _ _ _ us hl => match us, hl with | [_], _ => rfl)⟩
  have G_law_take : Fn P w K mg base CX0 1 "_law_take" ["_law_source_here", "_law_many"] (sp_law_take K) := ⟨_, _, (ok_law_take (P := P) (w := w) (base := base) T F_law_take ), He.glo_ok X G (c.fact 13 (f := .glo "_law_take") rfl), F_law_take.kp, (F_law_take.bindsN fun _ _ _ _ _ _ us hl => match us, hl with | [_, _], _ => rfl)⟩
  have G_law_depth : Fn P w K mg base CX0 2 "_law_depth" ["_law_source_here", "_law_shape", "_law_above"] (sp_law_depth K) := ⟨_, _, (ok_law_depth (P := P) (w := w) (base := base) T F_law_depth G_law_take), He.glo_ok X G (c.fact 14 (f := .glo "_law_depth") rfl), F_law_depth.kp, (F_law_depth.bindsN fun _ _ _ _ _ _ us hl => match us, hl with | [_, _, _], _ => rfl)⟩
  have G_law_rows : Fn P w K mg base CX0 3 "_law_rows" ["_law_source_here", "_law_labels", "_law_most", "_law_deep"] (sp_law_rows K) := ⟨_, _, (ok_law_rows (P := P) (w := w) (base := base) T F_law_rows G_law_take G_law_depth), He.glo_ok X G (c.fact 15 (f := .glo "_law_rows") rfl), F_law_rows.kp, (F_law_rows.bindsN fun _ _ _ _ _ _ us hl => match us, hl with | [_, _, _, _], _ => rfl)⟩
  have G_law_depths : Fn P w K mg base CX0 4 "_law_depths" ["_law_source_here"] (sp_law_depths K) := ⟨_, _, (ok_law_depths (P := P) (w := w) (base := base) T F_law_depths G_law_take G_law_rows), He.glo_ok X G (c.fact 16 (f := .glo "_law_depths") rfl), F_law_depths.kp, (F_law_depths.bindsN fun _ _ _ _ _ _ us hl => match us, hl with | [_], _ => rfl)⟩
  have G_law_stretches : Fn P w K mg base CX0 1 "_law_stretches" ["_law_depths_here"] (sp_law_stretches K) := ⟨_, _, (ok_law_stretches (P := P) (w := w) (base := base) T F_law_stretches ), He.glo_ok X G (c.fact 17 (f := .glo "_law_stretches") rfl), F_law_stretches.kp, (F_law_stretches.bindsN fun _ _ _ _ _ _ us hl => match us, hl with | [_], _ => rfl)⟩
  have G_law_some : Fn P w K mg base CX0 2 "_law_some" ["_law_source_here", "_law_stretches_here"] (sp_law_some K) := ⟨_, _, (ok_law_some (P := P) (w := w) (base := base) T F_law_some G_law_take), He.glo_ok X G (c.fact 18 (f := .glo "_law_some") rfl), F_law_some.kp, (F_law_some.bindsN fun _ _ _ _ _ _ us hl => match us, hl with | [_, _], _ => rfl)⟩
  have G_law_uppers : Fn P w K mg base CX0 1 "_law_uppers" ["_law_depths_here"] (sp_law_uppers K) := ⟨_, _, (ok_law_uppers (P := P) (w := w) (base := base) T F_law_uppers ), He.glo_ok X G (c.fact 19 (f := .glo "_law_uppers") rfl), F_law_uppers.kp, (F_law_uppers.bindsN fun _ _ _ _ _ _ us hl => match us, hl with | [_], _ => rfl)⟩
  have G_law_due : Fn P w K mg base CX0 1 "_law_due" ["_law_pairs", "_law_uppers_here", "_law_lowers"] (sp_law_due K) := ⟨_, _, (ok_law_due (P := P) (w := w) (base := base) T F_law_due ), He.glo_ok X G (c.fact 20 (f := .glo "_law_due") rfl), F_law_due.kp, (F_law_due.bindsN fun _ _ _ _ _ _ us hl => match us, hl with | [_, _, _], _ => rfl)⟩
  have M_Open : Mkr P w K mg base CX0 1 (He.ga K "Open") "Open" ["self", "link"] (sp_Open_init K) := ⟨_, _, (ok_Open_init (P := P) (w := w) (base := base) T F_Open_init ), He.mkr_ok (c.fact 21 (f := .mkr "Open") rfl), He.glo_ok X G (c.fact 22 (f := .glo "Open") rfl), (F_Open_init.bindsN fun _ _ _ _ _ _ us hl => match us, hl with | [_, _], _ => rfl)⟩
  have G_Open_close : Mt P w K mg base CX0 1 (He.ga K "Open") "close" ["self", "begin"] (sp_Open_close K) := ⟨_, _, (ok_Open_close (P := P) (w := w) (base := base) T F_Open_close ), He.meth_ok (c.fact 23 (f := .meth "Open" "close") rfl), T.cl_Open, (F_Open_close.bindsN fun _ _ _ _ _ _ us hl => match us, hl with | [_, _], _ => rfl)⟩
  have G_Open_meet : Mt P w K mg base CX0 2 (He.ga K "Open") "meet" ["self", "lower"] (sp_Open_meet K) := ⟨_, _, (ok_Open_meet (P := P) (w := w) (base := base) T F_Open_meet G_Open_close), He.meth_ok (c.fact 24 (f := .meth "Open" "meet") rfl), T.cl_Open, (F_Open_meet.bindsN fun _ _ _ _ _ _ us hl => match us, hl with | [_, _], _ => rfl)⟩
  have G_with_lower : Fn P w K mg base CX0 3 "with_lower" ["uppers", "lowers", "way"] (sp_with_lower K) := ⟨_, _, (ok_with_lower (P := P) (w := w) (base := base) T F_with_lower M_Open G_Open_close G_Open_meet), He.glo_ok X G (c.fact 25 (f := .glo "with_lower") rfl), F_with_lower.kp, (F_with_lower.bindsN fun _ _ _ _ _ _ us hl => match us, hl with | [_, _, _], _ => rfl)⟩
  have G_closed : Fn P w K mg base CX0 1 "closed" ["stack", "begin"] (sp_closed K) := ⟨_, _, (ok_closed (P := P) (w := w) (base := base) T F_closed ), He.glo_ok X G (c.fact 26 (f := .glo "closed") rfl), F_closed.kp, (F_closed.bindsN fun _ _ _ _ _ _ us hl => match us, hl with | [_, _], _ => rfl)⟩
  have G_with_upper : Fn P w K mg base CX0 2 "with_upper" ["lowers", "uppers", "way"] (sp_with_upper K) := ⟨_, _, (ok_with_upper (P := P) (w := w) (base := base) T F_with_upper G_closed), He.glo_ok X G (c.fact 27 (f := .glo "with_upper") rfl), F_with_upper.kp, (F_with_upper.bindsN fun _ _ _ _ _ _ us hl => match us, hl with | [_, _, _], _ => rfl)⟩
  have G_law_right : Fn P w K mg base CX0 4 "_law_right" ["_law_uppers_here", "_law_lowers", "_law_way", "_law_pairs"] (sp_law_right K) := ⟨_, _, (ok_law_right (P := P) (w := w) (base := base) T F_law_right G_law_due G_with_lower G_with_upper), He.glo_ok X G (c.fact 28 (f := .glo "_law_right") rfl), F_law_right.kp, (F_law_right.bindsN fun _ _ _ _ _ _ us hl => match us, hl with | [_, _, _, _], _ => rfl)⟩
  have G_law_beneath : Fn P w K mg base CX0 1 "_law_beneath" ["_law_uppers_here", "_law_way"] (sp_law_beneath K) := ⟨_, _, (ok_law_beneath (P := P) (w := w) (base := base) T F_law_beneath ), He.glo_ok X G (c.fact 29 (f := .glo "_law_beneath") rfl), F_law_beneath.kp, (F_law_beneath.bindsN fun _ _ _ _ _ _ us hl => match us, hl with | [_, _], _ => rfl)⟩
  have G_law_good : Fn P w K mg base CX0 5 "_law_good" ["_law_cell"] (sp_law_good K) := ⟨_, _, (ok_law_good (P := P) (w := w) (base := base) T F_law_good G_law_source G_law_depths G_law_stretches G_law_some G_law_take G_law_uppers G_law_right G_law_beneath), He.glo_ok X G (c.fact 30 (f := .glo "_law_good") rfl), F_law_good.kp, (F_law_good.bindsN fun _ _ _ _ _ _ us hl => match us, hl with | [_], _ => rfl)⟩
  have G_law_cell_at : Fn P w K mg base CX0 1 "_law_cell_at" ["_law_script", "_law_k"] (sp_law_cell_at K) := ⟨_, _, (ok_law_cell_at (P := P) (w := w) (base := base) T F_law_cell_at ), He.glo_ok X G (c.fact 31 (f := .glo "_law_cell_at") rfl), F_law_cell_at.kp, (F_law_cell_at.bindsN fun _ _ _ _ _ _ us hl => match us, hl with | [_, _], _ => rfl)⟩
  exact ok_law T F_law G_law_good G_law_cell_at
end Lw
open PySem PySem.W PySem.Calls PyProof.Rows
theorem PySem.Challenge.cw_boughask_k31_lists_joined_holds : PySem.Challenge.rw_boughask_k31_lists_joined.Holds := by
  w_on; o_law
  refine HandSHeadRun.head_any (r := OpenLaw.row PySem.Challenge.rw_boughask_k31_lists_joined) (q := view (OpenLaw.row PySem.Challenge.rw_boughask_k31_lists_joined).prog [19]) (H := Lw.hk) (ob := Lw.ob) (M := 4000) (loose := Lw.loose) (d := HandSHeadRun.topDef (OpenLaw.row PySem.Challenge.rw_boughask_k31_lists_joined).prog 19) (kwd := []) Lw.ob_eq
    (by kernel_rfl) (fun s => by kernel_rfl) Lw.run (by kernel_rfl) (by kernel_rfl) (by kernel_rfl) (by rfl) (by first | assumption | decide +kernel) (by decide +kernel) ⟨rfl, rfl, rfl, rfl, rfl, by decide +kernel⟩ ?hw ?hc
  case hw => w_witness2
  case hc =>
    refine L2.walk_ofE (l := PySem.Challenge.rw_boughask_k31_lists_joined) (n := 63) (k := 6) (x := "_law_script") (CX := L2.CX0) rfl (by decide) (by kernel_rfl) ⟨rfl, by decide, by decide⟩ ?F (fun _ _ _ _ z => z)
    intro w mg fa h Y G hmg0
    obtain ⟨K, KX, c⟩ := Y
    have hmg : mg ("law" : PySem.Str) = some (.ref fa) := by
      have e : (HandSHeadRun.topDef (OpenLaw.row PySem.Challenge.rw_boughask_k31_lists_joined).prog 19).name = ("law" : PySem.Str) := by kernel_rfl
      rw [← e]
      exact hmg0
    obtain ⟨fd, hb, hF⟩ := Lw.facts (P := (PySem.Challenge.rw_boughask_k31_lists_joined).prog) (w := w) KX G hmg c
    exact ⟨K, fd, Lw.sp_law K, KX, hb, fun H a ns hl _ hS => ⟨a, ns, rfl, hS, hl, fun _ => rfl⟩, hF⟩

