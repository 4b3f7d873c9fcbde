import PyProof.Rows.All
import Wide.All
import OpenK.AllK
import Wide.FinOn
import KE.KStateDown
import HandS.ForMost
import HandS.ForExc
import HandS.IsInst
import HandS.Wide
import HandS.Defaults
import HandS.More
import HandS.Head0
import HandS.Head1
import HandS.Head2
import HandS.HeadEnd
import HandS.HeadHook1
import HandS.HeadHook2
import HandS.Flow
import HandS.RevRange
import HandS.Walk
import HandS.TryOnly
import KE.GoesEnum
import PySem.Challenge.RW_boughask_k21_tables_told
set_option Elab.async false
set_option linter.all false
set_option maxRecDepth 100000
set_option maxHeartbeats 4000000

namespace Bg
open PySem PySem.Spec PyProof.Rows L2
/-! ### defs, methods, classes by their names -/
abbrev FnP (K : PySem.W.Frag) (x q : Str) (st : Stmt) (f : Addr) (fd : FuncData) : Prop := FunD K x q (defArgs st) (defBody st) (defScope st) [] [] f fd
structure Fn (P : Program) (w : World) (K : PySem.W.Frag) (mg : Str → Option Value) (base : Heap) (CX : CXT) (k : Nat) (x : Str) (ps : List Str) (sp : Sp) : Prop where
  ex : ∃ (f : Addr) (fd : FuncData), FnOk P w K mg base CX k f fd ps sp ∧ mg x = some (.ref f) ∧ PySem.W.keepIn K (.ref f) = true ∧ Binds K fd ps []
structure Mt (P : Program) (w : World) (K : PySem.W.Frag) (mg : Str → Option Value) (base : Heap) (CX : CXT) (k : Nat) (C : Addr) (m : Str) (ps : List Str) (sp : Sp) : Prop where
  ex : ∃ (f : Addr) (fd : FuncData), FnOk P w K mg base CX k f fd ps sp ∧ Meth K C m f ∧ Cls K C ∧ Binds K fd ps []
structure Mkr (P : Program) (w : World) (K : PySem.W.Frag) (mg : Str → Option Value) (base : Heap) (CX : CXT) (k : Nat) (C : Addr) (x : Str) (ps : List Str) (sp : Sp) : Prop where
  ex : ∃ (f : Addr) (fd : FuncData), FnOk P w K mg base CX k f fd ps sp ∧ Mk K C f ∧ mg x = some (.ref C) ∧ Binds K fd ps []
section
variable {X : Cx} {CX : CXT} {k : Nat} {C : Addr} {ps : List Str} {sp : Sp} {E : XK} {x m : Str} {p pos apos : Pos} {e o : Expr} {es : List Expr} {ta : TE} {t : TA}
theorem pe_callF (F : Fn X.prog X.w X.K X.mg X.base CX k x ps sp) (hr : Room k X.A) (hx : Passes CX X E) (ha : PA X (e :: es) t) (hg : Gl X x := by rfl) (hdb : (x == ("__debug__" : Str)) = false := by decide)
    (he : starEach (e :: es) X.env = (false, eval e X.env) :: starEach es X.env := by rfl) (hpl : (backTo pos (starEach es X.env)).any (·.1) = false := by rfl) :
    PE X (.Call (.Name x p) (e :: es) [] pos) (tCall sp [] E t) := by
  obtain ⟨f, fd, F, hm, hk, hb⟩ := F.ex
  exact pe_call F hr hg hm hk hb .nil hx ha hdb he hpl
theorem pe_callF0 (F : Fn X.prog X.w X.K X.mg X.base CX k x ps sp) (hr : Room k X.A) (hx : Passes CX X E) (hg : Gl X x := by rfl) (hdb : (x == ("__debug__" : Str)) = false := by decide) :
    PE X (.Call (.Name x p) [] [] pos) (tCall sp [] E tNil) := by
  obtain ⟨f, fd, F, hm, hk, hb⟩ := F.ex
  exact pe_call0 F hr hg hm hk hb .nil hx hdb
theorem pe_makeF (F : Mkr X.prog X.w X.K X.mg X.base CX k C x ps sp) (hr : Room (k + 1) X.A) (hx : Passes CX X E) (ha : PA X (e :: es) t) (hg : Gl X x := by rfl) (hdb : (x == ("__debug__" : Str)) = false := by decide)
    (he : starEach (e :: es) X.env = (false, eval e X.env) :: starEach es X.env := by rfl) (hpl : (backTo pos (starEach es X.env)).any (·.1) = false := by rfl) :
    PE X (.Call (.Name x p) (e :: es) [] pos) (tMake C sp [] E t) := by
  obtain ⟨f, fd, F, hm, hk, hb⟩ := F.ex
  exact pe_make hm F hr hg hk hb .nil hx ha hdb he hpl
theorem pe_makeF0 (F : Mkr X.prog X.w X.K X.mg X.base CX k C x ps sp) (hr : Room (k + 1) X.A) (hx : Passes CX X E) (hg : Gl X x := by rfl) (hdb : (x == ("__debug__" : Str)) = false := by decide) :
    PE X (.Call (.Name x p) [] [] pos) (tMake C sp [] E tNil) := by
  obtain ⟨f, fd, F, hm, hk, hb⟩ := F.ex
  exact pe_make0 hm F hr hg hk hb .nil hx hdb
theorem pe_methF {pl : Sem Bool} (he : PE X o ta) (F : Mt X.prog X.w X.K X.mg X.base CX k C m ps sp) (hr : Room k X.A) (hx : Passes CX X E) (ha : PA X (e :: es) t)
    (hst : starEach (e :: es) X.env = (false, eval e X.env) :: starEach es X.env := by rfl) (hpl : (backTo pos (starEach es X.env)).any (·.1) = false := by rfl)
    (ht : eval (.Call (.Attribute o m apos) (e :: es) [] pos) X.env = (do
      let ov ← eval o X.env
      standAt apos.atName
      let (f, first) ← holding [ov] (getMethod ov m pl)
      callWith pos f first (backTo pos (starEach (e :: es) X.env)) (backToKw pos (keywordEach [] X.env))) := by rfl) :
    PE X (.Call (.Attribute o m apos) (e :: es) [] pos) (tMeth C m sp [] E ta t) := by
  obtain ⟨f, fd, F, hm, c, hb⟩ := F.ex
  exact pe_meth he c hm F hr hb .nil hx ha hst hpl ht
theorem pe_methF0 {pl : Sem Bool} (he : PE X o ta) (F : Mt X.prog X.w X.K X.mg X.base CX k C m ps sp) (hr : Room k X.A) (hx : Passes CX X E)
    (ht : eval (.Call (.Attribute o m apos) [] [] pos) X.env = (do
      let ov ← eval o X.env
      standAt apos.atName
      let (f, first) ← holding [ov] (getMethod ov m pl)
      callWith pos f first (backTo pos (starEach [] X.env)) (backToKw pos (keywordEach [] X.env))) := by rfl) :
    PE X (.Call (.Attribute o m apos) [] [] pos) (tMeth C m sp [] E ta tNil) := by
  obtain ⟨f, fd, F, hm, c, hb⟩ := F.ex
  exact pe_meth0 he c hm F hr hb .nil hx ht
end
/-! ### the heap: all stands but what stands at a -/
def But (a : Addr) (H H' : Hp) : Prop := ∀ b o, b ≠ a → H b = some o → H' b = some o
theorem But.refl (a : Addr) (H : Hp) : But a H H := fun _ _ _ h => h
theorem But.trans {a : Addr} {H H1 H2 : Hp} (x : But a H H1) (y : But a H1 H2) : But a H H2 := fun b o n h => y b o n (x b o n h)
theorem But.of_same {a : Addr} {H H' : Hp} (x : Same H H') : But a H H' := fun b o _ h => x b o h
theorem But.upd {a : Addr} {H : Hp} {o : HO} : But a H (upd H a o) := fun b u n h => by rw [upd_ne n]; exact h
theorem But.upd' {a : Addr} {H H' : Hp} {o : HO} (x : But a H H') : But a H (L2.upd H' a o) := x.trans But.upd
theorem _root_.L2.Same.new {H : Hp} {p : Addr} {o : HO} (h : H p = none) : Same H (upd H p o) := fun a u e => by
  rw [upd_ne (ne_of_none e h)]
  exact e
theorem _root_.L2.Same.new' {H H' : Hp} {p : Addr} {o : HO} (s : Same H H') (h : H' p = none) : Same H (upd H' p o) := s.trans (Same.new h)
/-- what H does not know may change -/
theorem _root_.L2.Same.mut {H H' : Hp} {p : Addr} {o : HO} (s : Same H H') (h : H p = none) : Same H (upd H' p o) := fun a u ha => by
  rw [upd_ne (ne_of_none ha h)]
  exact s a u ha
theorem But.mut {a : Addr} {H H' : Hp} {p : Addr} {o : HO} (s : But a H H') (h : H p = none) : But a H (L2.upd H' p o) := fun b u n hb => by
  rw [upd_ne (ne_of_none hb h)]
  exact s b u n hb
theorem But.new' {a : Addr} {H H' : Hp} {p : Addr} {o : HO} (s : But a H H') (h : H' p = none) : But a H (L2.upd H' p o) := s.trans (But.of_same (Same.new h))
theorem But.free {a : Addr} {H H' : Hp} (s : But a H H') {p : Addr} (hp : p ≠ a) (h : H' p = none) : H p = none := by
  cases q : H p with
  | none => rfl
  | some o =>
    rw [s p o hp q] at h
    cases h
theorem ne_a {H : Hp} {a b : Addr} {o u : HO} (h : H a = some o) (h' : H b = some u) (d : o ≠ u) : a ≠ b := ne_of h h' d
theorem But.seq {K : PySem.W.Frag} {a l : Addr} {H H' : Hp} {xs : List V} {kvs : List (Key × V)} (s : But a H H') (ha : H a = some (.dK kvs)) (h : SqL K H l xs) : SqL K H' l xs := by
  rcases h with (h | ⟨o, h⟩) | h
  · exact .inl (.inl (s _ _ (ne_of h ha (by intro z; cases z)) h))
  · exact .inl (.inr ⟨o, s _ _ (ne_of h ha (by intro z; cases z)) h⟩)
  · exact .inr h
theorem But.tup {K : PySem.W.Frag} {a l : Addr} {H H' : Hp} {xs : List V} {kvs : List (Key × V)} (s : But a H H') (ha : H a = some (.dK kvs)) (h : SqT K H l xs) : SqT K H' l xs := by
  rcases h with (h | ⟨o, h⟩) | h
  · exact .inl (.inl (s _ _ (ne_of h ha (by intro z; cases z)) h))
  · exact .inl (.inr ⟨o, s _ _ (ne_of h ha (by intro z; cases z)) h⟩)
  · exact .inr h
theorem _root_.L2.Same.tup {K : PySem.W.Frag} {H H' : Hp} {a : Addr} {xs : List V} (e : Same H H') (h : SqT K H a xs) : SqT K H' a xs := by
  rcases h with (h | ⟨o, h⟩) | h
  · exact .inl (.inl (e _ _ h))
  · exact .inl (.inr ⟨o, e _ _ h⟩)
  · exact .inr h
/-- a new object; a changed one -/
theorem al {H H1 : Hp} {p : Addr} {o : HO} (e : L2.upd H p o = H1) (n : H p = none) : Same H H1 ∧ H1 p = some o := by
  subst e
  exact ⟨L2.Same.new n, upd_same⟩
theorem ml {H H1 : Hp} {p : Addr} {o : HO} (e : L2.upd H p o = H1) : But p H H1 ∧ H1 p = some o := by
  subst e
  exact ⟨But.upd, upd_same⟩
theorem same_of_but {p : Addr} {H H1 H2 : Hp} (s : Same H H1) (n : H p = none) (b : But p H1 H2) : Same H H2 := fun c o h => b c o (ne_of_none h n) (s c o h)
/-! ### sizes -/
theorem sz {n : Nat} (h : n ≤ 16777216) : n ≤ sizeLine := by rw [sizeLine_eq]; exact h
theorem szl {n : Nat} (h : n < 16777216) : n < sizeLine := by rw [sizeLine_eq]; exact h
/-! ### the law's source of draws -/
def srcD (n s t : Int) : List (Key × V) := [(Sum.inr "number", .int n), (Sum.inr "seed", .int s), (Sum.inr "turn", .int t)]
def Src (H : Hp) (a : Addr) : Prop := ∃ n s t : Int, H a = some (.dK (srcD n s t))
theorem kne {a b : Str} (h : ¬ a = b) : ¬ ((Sum.inr a : Key) = Sum.inr b) := fun z => h (Sum.inr.inj z)
theorem s_ns : ¬ (("number" : Str) = "seed") := by decide +kernel
theorem s_nt : ¬ (("number" : Str) = "turn") := by decide +kernel
theorem s_sn : ¬ (("seed" : Str) = "number") := by decide +kernel
theorem s_st : ¬ (("seed" : Str) = "turn") := by decide +kernel
theorem s_tn : ¬ (("turn" : Str) = "number") := by decide +kernel
theorem s_ts : ¬ (("turn" : Str) = "seed") := by decide +kernel
theorem src_n (n s t : Int) : valV (srcD n s t) (Sum.inr "number") = some (.int n) := valV_pos rfl
theorem src_s (n s t : Int) : valV (srcD n s t) (Sum.inr "seed") = some (.int s) := by
  have e1 := kne s_ns
  simp [valV, srcD, e1]
theorem src_t (n s t : Int) : valV (srcD n s t) (Sum.inr "turn") = some (.int t) := by
  have e1 := kne s_nt
  have e2 := kne s_st
  simp [valV, srcD, e1, e2]
theorem src_pn (n s t m : Int) : putK (srcD n s t) (Sum.inr "number") (.int m) = srcD m s t := by
  have e1 := kne s_sn
  have e2 := kne s_tn
  simp [putK, srcD, e1, e2]
theorem src_pt (n s t m : Int) : putK (srcD n s t) (Sum.inr "turn") (.int m) = srcD n s m := by
  have e1 := kne s_st
  have e2 := kne s_nt
  simp [putK, srcD, e1, e2]
theorem src_get_n {H : Hp} {a : Addr} {n s t : Int} (h : H a = some (.dK (srcD n s t))) : DGet H a (.str "number") (some (.int n)) := by
  have := DGet.k (k := Sum.inr "number") h
  rw [src_n] at this
  exact this
theorem src_get_s {H : Hp} {a : Addr} {n s t : Int} (h : H a = some (.dK (srcD n s t))) : DGet H a (.str "seed") (some (.int s)) := by
  have := DGet.k (k := Sum.inr "seed") h
  rw [src_s] at this
  exact this
theorem src_get_t {H : Hp} {a : Addr} {n s t : Int} (h : H a = some (.dK (srcD n s t))) : DGet H a (.str "turn") (some (.int t)) := by
  have := DGet.k (k := Sum.inr "turn") h
  rw [src_t] at this
  exact this
theorem src_put_n {H : Hp} {a : Addr} {n s t m : Int} (h : H a = some (.dK (srcD n s t))) : DPut H a (.str "number") (.int m) (upd H a (.dK (srcD m s t))) := by
  have := DPut.k (k := Sum.inr "number") (v := .int m) h (show 3 < sizeLine by decide)
  rw [src_pn] at this
  exact this
theorem src_put_t {H : Hp} {a : Addr} {n s t m : Int} (h : H a = some (.dK (srcD n s t))) : DPut H a (.str "turn") (.int m) (upd H a (.dK (srcD n s m))) := by
  have := DPut.k (k := Sum.inr "turn") (v := .int m) h (show 3 < sizeLine by decide)
  rw [src_pt] at this
  exact this
/-! ### kinds -/
/-- the built-in kinds that things here may be of -/
def known : List String := ["NoneType", "bool", "int", "str", "list", "tuple", "dict"]
def Knd (K : PySem.W.Frag) (H : Hp) (v : V) (t : String) : Prop := TyX K H v (.type t) ∧ t ∈ known
theorem kit_known : ∀ t ∈ known, kitB t "int" = some (t == "int" || t == "bool") ∧ kitB t "bool" = some (t == "bool") ∧ kitB t "str" = some (t == "str") ∧ kitB t "list" = some (t == "list") ∧ kitB t "tuple" = some (t == "tuple") := by decide +kernel
theorem TyX.same {K : PySem.W.Frag} {H H' : Hp} {v : V} {t : Value} (s : Same H H') (h : TyX K H v t) : TyX K H' v t := by
  cases h with
  | base b =>
    cases b with
    | non => exact .base .non
    | bl x => exact .base (.bl x)
    | int x => exact .base (.int x)
    | str x => exact .base (.str x)
    | flt x => exact .base (.flt x)
    | lst e => exact .base (.lst (s _ _ e))
    | frz e => exact .base (.frz (s _ _ e))
    | tup e => exact .base (.tup (s _ _ e))
    | dK e => exact .base (.dK (s _ _ e))
    | dT e => exact .base (.dT (s _ _ e))
    | ins e cl ha hn htk hm => exact .base (.ins (s _ _ e) cl ha hn htk hm)
  | byt b => exact .byt b
  | set e => exact .set (s _ _ e)
  | kList e c => exact .kList e c
  | kTuple e c => exact .kTuple e c
  | kDict e c => exact .kDict e c
  | fTuple e => exact .fTuple (s _ _ e)
  | fDict e => exact .fDict (s _ _ e)
theorem Knd.same {K : PySem.W.Frag} {H H' : Hp} {v : V} {t : String} (s : Same H H') (h : Knd K H v t) : Knd K H' v t := ⟨TyX.same s h.1, h.2⟩
theorem Knd.non {K : PySem.W.Frag} {H : Hp} : Knd K H .non "NoneType" := ⟨.base .non, by decide⟩
theorem Knd.bl {K : PySem.W.Frag} {H : Hp} (b : Bool) : Knd K H (.bl b) "bool" := ⟨.base (.bl b), by decide⟩
theorem Knd.int {K : PySem.W.Frag} {H : Hp} (i : Int) : Knd K H (.int i) "int" := ⟨.base (.int i), by decide⟩
theorem Knd.str {K : PySem.W.Frag} {H : Hp} (z : Str) : Knd K H (.str z) "str" := ⟨.base (.str z), by decide⟩
theorem Knd.lst {K : PySem.W.Frag} {H : Hp} {a : Addr} {xs : List V} (h : H a = some (.lst xs)) : Knd K H (.ref a) "list" := ⟨.base (.lst h), by decide⟩
theorem Knd.tup {K : PySem.W.Frag} {H : Hp} {a : Addr} {xs : List V} (h : H a = some (.tup xs)) : Knd K H (.ref a) "tuple" := ⟨.base (.tup h), by decide⟩
theorem Knd.dK {K : PySem.W.Frag} {H : Hp} {a : Addr} {kvs : List (Key × V)} (h : H a = some (.dK kvs)) : Knd K H (.ref a) "dict" := ⟨.base (.dK h), by decide⟩
end Bg

namespace Bg
open PySem PySem.Spec PyProof.Rows L2
/-! ### labels -/
def isLow (c : Nat) : Bool := decide (97 ≤ c) && decide (c ≤ 122)
def letters : List Nat := (("abcdefghijklmnopqrstuvwxyz" : Str)).cps.toList
theorem letters_eq : letters = [97, 98, 99, 100, 101, 102, 103, 104, 105, 106, 107, 108, 109, 110, 111, 112, 113, 114, 115, 116, 117, 118, 119, 120, 121, 122] := by decide +kernel
theorem mem_letters (c : Nat) : decide (c ∈ letters) = isLow c := by
  rw [letters_eq]
  unfold isLow
  rw [Bool.eq_iff_iff, decide_eq_true_iff, Bool.and_eq_true, decide_eq_true_iff, decide_eq_true_iff]
  simp only [List.mem_cons, List.not_mem_nil, or_false]
  omega
def labelB (z : Str) : Bool := decide (1 ≤ z.length) && decide (z.length ≤ 8) && z.cps.toList.all isLow
def labelV : V → Bool
  | .str z => labelB z
  | _ => false
theorem labelV_str (z : Str) : labelV (.str z) = labelB z := rfl
def inLetters (z : Str) : List Bool := z.cps.toList.map fun c => decide (c ∈ letters)
theorem labelB_in {z : Str} (h1 : (1 : Int) ≤ (z.length : Int)) (h2 : (z.length : Int) ≤ 8) : labelB z = (inLetters z).all id := by
  unfold labelB inLetters
  rw [decide_eq_true (show 1 ≤ z.length by omega), decide_eq_true (show z.length ≤ 8 by omega), List.all_map]
  simp only [Bool.true_and]
  congr 1
  funext c
  exact (mem_letters c).symm
theorem labelB_long {z : Str} (h : ¬ (z.length : Int) ≤ 8) : labelB z = false := by
  unfold labelB
  rw [decide_eq_false (show ¬ z.length ≤ 8 by omega)]
  simp
theorem labelB_empty {z : Str} (h : ¬ (1 : Int) ≤ (z.length : Int)) : labelB z = false := by
  unfold labelB
  rw [decide_eq_false (show ¬ 1 ≤ z.length by omega)]
  simp
theorem labelB_count {z : Str} (h1 : (1 : Int) ≤ (z.length : Int)) (h2 : (z.length : Int) ≤ 8) : labelB z = decide ((z.cps.toList.filter isLow).length = z.length) := by
  unfold labelB
  rw [decide_eq_true (show 1 ≤ z.length by omega), decide_eq_true (show z.length ≤ 8 by omega)]
  simp only [Bool.true_and]
  have e : z.length = z.cps.toList.length := by simp [Str.length]
  rw [e, Bool.eq_iff_iff, decide_eq_true_iff, List.all_eq_true]
  constructor
  · intro h
    rw [List.filter_eq_self.mpr h]
  · intro h
    exact List.filter_eq_self.mp (List.Sublist.eq_of_length List.filter_sublist h)
theorem take_snoc {α : Type} {l : List α} {i : Nat} {x : α} (h : l[i]? = some x) : l.take (i + 1) = l.take i ++ [x] := by
  rw [List.take_add_one, h]
  rfl
theorem ge_a (c : Nat) : (!decide ((⟨#[c]⟩ : Str).cps.toList < (("a" : Str)).cps.toList)) = decide (97 ≤ c) := by
  show (!decide (([c] : List Nat) < [97])) = decide (97 ≤ c)
  rw [Bool.eq_iff_iff]
  simp [List.cons_lt_cons_iff]
theorem le_z (c : Nat) : (!decide ((("z" : Str)).cps.toList < (⟨#[c]⟩ : Str).cps.toList)) = decide (c ≤ 122) := by
  show (!decide (([122] : List Nat) < [c])) = decide (c ≤ 122)
  rw [Bool.eq_iff_iff]
  simp [List.cons_lt_cons_iff]
theorem Knd.str_of {K : PySem.W.Frag} {H : Hp} {v : V} {t : String} (h : Knd K H v t) (e : t = "str") : ∃ z, v = .str z := by
  subst e
  obtain ⟨h, _⟩ := h
  generalize ht : Value.type "str" = tv at h
  cases h with
  | base b =>
    cases b with
    | str x => exact ⟨x, rfl⟩
    | _ => first | (injection ht with q; exact absurd q (by decide)) | cases ht
  | _ => first | (injection ht with q; exact absurd q (by decide)) | cases ht
theorem Knd.no_str {K : PySem.W.Frag} {H : Hp} {v : V} {t : String} (h : Knd K H v t) (e : t ≠ "str") : labelV v = false := by
  cases v with
  | str z =>
    obtain ⟨h, _⟩ := h
    generalize ht : Value.type t = tv at h
    cases h with
    | base b =>
      cases b with
      | str x => injection ht with q; exact absurd q e
  | _ => rfl
theorem sum_ones (ys : List Str) (h : ∀ y ∈ ys, y.length = 1) : (ys.map (·.length)).sum = ys.length := by
  induction ys with
  | nil => rfl
  | cons y r ih =>
    rw [List.map_cons, List.sum_cons, ih fun z hz => h z (List.mem_cons_of_mem _ hz), h y (List.mem_cons_self ..), List.length_cons]
    omega
theorem join_len (ys : List Str) : (Txt.join "" ys).length = (ys.map (·.length)).sum := by
  have h := size_glued ("" : Str) ys
  rw [show (("" : Str)).length = 0 from rfl, Nat.mul_zero, Nat.add_zero] at h
  exact h
/-! ### a comprehension over a text's signs -/
theorem lc_str {z : Str} {g : TG} {tt : TT} {te : TE} {vs : List Nat} {σ : L2.St} {H1 : Hp} {D : Addr} {Qd : Hp → Prop} (Pv : Nat → Hp → Prop) (h0 : Pv 0 (upd H1 D (.lst [])))
    (hs : ∀ i c H, z.cps.toList[i]? = some c → Pv i H → g (.str ⟨#[c]⟩) (wipe σ vs) H fun σ2 H2 => wipe σ2 vs = wipe σ vs ∧ tt σ2 H2 fun b H3 =>
      if b = true then te σ2 H3 fun y H4 => ∃ acc, H4 D = some (.lst acc) ∧ acc.length < sizeLine ∧ Pv (i + 1) (upd H4 D (.lst (acc ++ [y]))) else Pv (i + 1) H3) (hd : ∀ H, Pv z.cps.size H → Qd H) :
    ∃ W : Nat → Nat → Hp → Prop, (∃ m, W 0 m (upd H1 D (.lst []))) ∧ ∀ i m H, W i m H →
      ((Its z).stop i H ∧ Qd H) ∨ ((Its z).go i H ∧ ∃ Nx : Hp → Prop, (∀ H', Nx H' → ∃ m', m' < m ∧ W (i + 1) m' H') ∧ ∀ x H', (Its z).yld i H x H' → g x (wipe σ vs) H' fun σ2 H2 => wipe σ2 vs = wipe σ vs ∧ tt σ2 H2 fun b H3 =>
        if b = true then te σ2 H3 fun y H4 => ∃ acc, H4 D = some (.lst acc) ∧ acc.length < sizeLine ∧ Nx (upd H4 D (.lst (acc ++ [y]))) else Nx H3) :=
  lc_it (walk_str (z := z)) Pv h0 (fun _ _ _ _ => trivial) (fun i x H H' hi p y => by
    obtain ⟨rfl, c, hc, rfl⟩ := y
    exact hs i c _ (by simpa using hc) p) hd
theorem src_merge (a b c : Int) : mergeK [] [(Sum.inr "number", .int a), (Sum.inr "seed", .int b), (Sum.inr "turn", .int c)] = srcD a b c := by
  have e1 := kne s_ns
  have e2 := kne s_nt
  have e3 := kne s_st
  simp [mergeK, putK, srcD, e1, e2, e3]
theorem src_at {H : Hp} {p : Addr} {a b c : Int} : Src (upd H p (.dK (mergeK [] [(Sum.inr "number", .int a), (Sum.inr "seed", .int b), (Sum.inr "turn", .int c)]))) p := ⟨a, b, c, by rw [upd_same, src_merge]⟩
theorem sign_lt {z : Str} {i c : Nat} (h : z.cps.toList[i]? = some c) : i < z.length := by
  have := (List.getElem?_eq_some_iff.mp h).1
  simpa [Str.length] using this
def signs38 : Str := "abcdefghijklmnopqrstuvwxyzAZ019 _-/!(~"
theorem signs38_len : signs38.cps.toList.length = 38 := by decide +kernel
end Bg

namespace Bg
open PySem PySem.Spec PyProof.Rows L2
/-! ### tuples stay -/
def TK (H H' : Hp) : Prop := (∀ b xs, H b = some (.tup xs) → H' b = some (.tup xs)) ∧ ∀ b o xs, H b = some (.frz o (.tup xs)) → H' b = some (.frz o (.tup xs))
theorem TK.refl (H : Hp) : TK H H := ⟨fun _ _ h => h, fun _ _ _ h => h⟩
theorem TK.trans {H H1 H2 : Hp} (a : TK H H1) (b : TK H1 H2) : TK H H2 := ⟨fun c xs h => b.1 c xs (a.1 c xs h), fun c o xs h => b.2 c o xs (a.2 c o xs h)⟩
theorem TK.same {H H' : Hp} (s : Same H H') : TK H H' := ⟨fun b xs h => s b _ h, fun b o xs h => s b _ h⟩
theorem TK.butL {a : Addr} {H H' : Hp} {xs : List V} (s : But a H H') (h : H a = some (.lst xs)) : TK H H' :=
  ⟨fun b ys hb => s b _ (ne_of hb h (by intro z; cases z)) hb, fun b o ys hb => s b _ (ne_of hb h (by intro z; cases z)) hb⟩
theorem TK.butD {a : Addr} {H H' : Hp} {xs : List (Key × V)} (s : But a H H') (h : H a = some (.dK xs)) : TK H H' :=
  ⟨fun b ys hb => s b _ (ne_of hb h (by intro z; cases z)) hb, fun b o ys hb => s b _ (ne_of hb h (by intro z; cases z)) hb⟩
theorem TK.butT {a : Addr} {H H' : Hp} {xs : List (List Key × V)} (s : But a H H') (h : H a = some (.dT xs)) : TK H H' :=
  ⟨fun b ys hb => s b _ (ne_of hb h (by intro z; cases z)) hb, fun b o ys hb => s b _ (ne_of hb h (by intro z; cases z)) hb⟩
theorem TK.butI {a C dx : Addr} {H H' : Hp} {fs : List (Str × V)} (s : But a H H') (h : H a = some (.ins C dx fs)) : TK H H' :=
  ⟨fun b ys hb => s b _ (ne_of hb h (by intro z; cases z)) hb, fun b o ys hb => s b _ (ne_of hb h (by intro z; cases z)) hb⟩
theorem TK.updL {a : Addr} {H : Hp} {xs : List V} {o : HO} (h : H a = some (.lst xs)) : TK H (upd H a o) := TK.butL But.upd h
theorem TK.updD {a : Addr} {H : Hp} {xs : List (Key × V)} {o : HO} (h : H a = some (.dK xs)) : TK H (upd H a o) := TK.butD But.upd h
theorem TK.updT {a : Addr} {H : Hp} {xs : List (List Key × V)} {o : HO} (h : H a = some (.dT xs)) : TK H (upd H a o) := TK.butT But.upd h
theorem TK.src {a : Addr} {H H' : Hp} (s : But a H H') (h : Src H a) : TK H H' := by
  obtain ⟨_, _, _, h⟩ := h
  exact TK.butD s h
theorem TK.sq {K : PySem.W.Frag} {H H' : Hp} {a : Addr} {xs : List V} (t : TK H H') (h : SqT K H a xs) : SqT K H' a xs := by
  rcases h with (h | ⟨o, h⟩) | h
  · exact .inl (.inl (t.1 _ _ h))
  · exact .inl (.inr ⟨o, t.2 _ _ _ h⟩)
  · exact .inr h
end Bg
namespace PySem
/-! ### paired lists -/
section
variable {α β γ : Type} {F G : α → β → Prop}
theorem Paired.get : ∀ {l : List α} {m : List β} {i : Nat} {a : α}, Paired F l m → l[i]? = some a → ∃ b, m[i]? = some b ∧ F a b
  | _, _, _, _, .nil, h => by simp at h
  | _, _, 0, _, .cons h t, e => by simp at e; subst e; exact ⟨_, rfl, h⟩
  | _, _, i + 1, a, .cons h t, e => by
    obtain ⟨b, hb, hf⟩ := Paired.get (i := i) (a := a) t (by simpa using e)
    exact ⟨b, by simpa using hb, hf⟩
theorem Paired.get' : ∀ {l : List α} {m : List β} {i : Nat} {b : β}, Paired F l m → m[i]? = some b → ∃ a, l[i]? = some a ∧ F a b
  | _, _, _, _, .nil, h => by simp at h
  | _, _, 0, _, .cons h t, e => by simp at e; subst e; exact ⟨_, rfl, h⟩
  | _, _, i + 1, a, .cons h t, e => by
    obtain ⟨b, hb, hf⟩ := Paired.get' (i := i) (b := a) t (by simpa using e)
    exact ⟨b, by simpa using hb, hf⟩
theorem Paired.imp : ∀ {l : List α} {m : List β}, Paired F l m → (∀ a b, F a b → G a b) → Paired G l m
  | _, _, .nil, _ => .nil
  | _, _, .cons h t, f => .cons (f _ _ h) (Paired.imp t f)
theorem Paired.app : ∀ {l l' : List α} {m m' : List β}, Paired F l m → Paired F l' m' → Paired F (l ++ l') (m ++ m')
  | _, _, _, _, .nil, s => s
  | _, _, _, _, .cons h t, s => .cons h (Paired.app t s)
theorem Paired.take : ∀ {l : List α} {m : List β} (n : Nat), Paired F l m → Paired F (l.take n) (m.take n)
  | _, _, 0, _ => .nil
  | _, _, _ + 1, .nil => .nil
  | _, _, n + 1, .cons h t => .cons h (Paired.take n t)
theorem Paired.drop : ∀ {l : List α} {m : List β} (n : Nat), Paired F l m → Paired F (l.drop n) (m.drop n)
  | _, _, 0, h => h
  | _, _, _ + 1, .nil => .nil
  | _, _, n + 1, .cons h t => Paired.drop n t
theorem Paired.dropLast {l : List α} {m : List β} (h : Paired F l m) : Paired F l.dropLast m.dropLast := by
  rw [List.dropLast_eq_take, List.dropLast_eq_take, h.length]
  exact h.take _
theorem Paired.set {a : α} {b : β} (h : F a b) : ∀ {l : List α} {m : List β} (i : Nat), Paired F l m → Paired F (l.set i a) (m.set i b)
  | _, _, _, .nil => .nil
  | _, _, 0, .cons _ t => .cons h t
  | _, _, i + 1, .cons q t => .cons q (Paired.set h i t)
theorem Paired.mem {l : List α} {m : List β} (h : Paired F l m) {a : α} (ha : a ∈ l) : ∃ b ∈ m, F a b := by
  obtain ⟨i, hi⟩ := List.getElem?_of_mem ha
  obtain ⟨b, hb, hf⟩ := h.get hi
  exact ⟨b, List.mem_of_getElem? hb, hf⟩
theorem Paired.map_r {f : γ → β} : ∀ {l : List α} {m : List γ}, Paired F l (m.map f) → Paired (fun a c => F a (f c)) l m
  | [], [], _ => .nil
  | [], _ :: _, h => nomatch h
  | _ :: _, [], h => nomatch h
  | _ :: _, _ :: _, .cons h t => .cons h (Paired.map_r t)
theorem Paired.of_map_r {f : γ → β} : ∀ {l : List α} {m : List γ}, Paired (fun a c => F a (f c)) l m → Paired F l (m.map f)
  | _, _, .nil => .nil
  | _, _, .cons h t => .cons h (Paired.of_map_r t)
theorem Paired.of_get : ∀ {l : List α} {m : List β}, l.length = m.length → (∀ (i : Nat) a b, l[i]? = some a → m[i]? = some b → F a b) → Paired F l m
  | [], [], _, _ => .nil
  | [], _ :: _, h, _ => by simp at h
  | _ :: _, [], h, _ => by simp at h
  | a :: l, b :: m, h, f => .cons (f 0 a b rfl rfl) (Paired.of_get (by simpa using h) fun i x y hx hy => f (i + 1) x y (by simpa using hx) (by simpa using hy))
theorem paired_map {f : γ → α} {g : γ → β} : ∀ {l : List γ}, (∀ c ∈ l, F (f c) (g c)) → Paired F (l.map f) (l.map g)
  | [], _ => .nil
  | c :: l, h => .cons (h c (List.mem_cons_self ..)) (paired_map fun d hd => h d (List.mem_cons_of_mem _ hd))
theorem Paired.filter {p : α → Bool} {q : β → Bool} : ∀ {l : List α} {m : List β}, Paired F l m → (∀ a b, F a b → p a = q b) → Paired F (l.filter p) (m.filter q)
  | _, _, .nil, _ => .nil
  | a :: l, b :: m, .cons h t, e => by
    rw [List.filter_cons, List.filter_cons, e a b h]
    split
    · exact .cons h (Paired.filter t e)
    · exact Paired.filter t e
end
end PySem
namespace Bg
open PySem PySem.Spec PyProof.Rows L2
/-! ### data -/
theorem dpAll_iff {K : PySem.W.Frag} {H : Hp} : ∀ {vs : List V} {ds : List PyData}, DpAll K H vs ds ↔ Paired (Dp K H) vs ds
  | [], [] => ⟨fun _ => .nil, fun _ => .nil⟩
  | [], _ :: _ => ⟨fun h => (nomatch h), fun h => (nomatch h)⟩
  | _ :: _, [] => ⟨fun h => (nomatch h), fun h => (nomatch h)⟩
  | _ :: _, _ :: _ => ⟨fun h => by cases h with | cons a b => exact .cons a (dpAll_iff.mp b), fun h => by cases h with | cons a b => exact .cons a (dpAll_iff.mpr b)⟩
mutual
def flat : PyData → Bool
  | .none | .bool _ | .int _ | .str _ => true
  | .tuple ds => flatAll ds
  | .list _ | .dict _ => false
def flatAll : List PyData → Bool
  | [] => true
  | d :: ds => flat d && flatAll ds
end
mutual
theorem dp_tk {K : PySem.W.Frag} {H H' : Hp} (t : TK H H') : ∀ (d : PyData) (v : V), flat d = true → Dp K H v d → Dp K H' v d
  | .none, _, _, h => by cases h; exact .non
  | .bool b, _, _, h => by cases h; exact .bl b
  | .int i, _, _, h => by cases h; exact .int i
  | .str x, _, _, h => by cases h; exact .str x
  | .tuple ds, _, f, h => by cases h with | tup a b => exact .tup (t.sq a) (dpAll_tk t ds _ f b)
  | .list _, _, f, _ => nomatch f
  | .dict _, _, f, _ => nomatch f
theorem dpAll_tk {K : PySem.W.Frag} {H H' : Hp} (t : TK H H') : ∀ (ds : List PyData) (vs : List V), flatAll ds = true → DpAll K H vs ds → DpAll K H' vs ds
  | [], _, _, h => by cases h; exact .nil
  | d :: ds, _, f, h => by
    have f' : (flat d && flatAll ds) = true := f
    rw [Bool.and_eq_true] at f'
    cases h with | cons a b => exact .cons (dp_tk t d _ f'.1 a) (dpAll_tk t ds _ f'.2 b)
end
mutual
theorem dp_same {K : PySem.W.Frag} {H H' : Hp} (t : ∀ a xs, SqL K H a xs → SqL K H' a xs) (u : ∀ a xs, SqT K H a xs → SqT K H' a xs) : ∀ (d : PyData) (v : V), Dp K H v d → Dp K H' v d
  | .none, _, h => by cases h; exact .non
  | .bool b, _, h => by cases h; exact .bl b
  | .int i, _, h => by cases h; exact .int i
  | .str x, _, h => by cases h; exact .str x
  | .tuple ds, _, h => by cases h with | tup a b => exact .tup (u _ _ a) (dpAll_same t u ds _ b)
  | .list ds, _, h => by cases h with | lst a b => exact .lst (t _ _ a) (dpAll_same t u ds _ b)
  | .dict _, _, h => by cases h
theorem dpAll_same {K : PySem.W.Frag} {H H' : Hp} (t : ∀ a xs, SqL K H a xs → SqL K H' a xs) (u : ∀ a xs, SqT K H a xs → SqT K H' a xs) : ∀ (ds : List PyData) (vs : List V), DpAll K H vs ds → DpAll K H' vs ds
  | [], _, h => by cases h; exact .nil
  | d :: ds, _, h => by cases h with | cons a b => exact .cons (dp_same t u d _ a) (dpAll_same t u ds _ b)
end
theorem _root_.L2.Dp.same {K : PySem.W.Frag} {H H' : Hp} {v : V} {d : PyData} (h : Dp K H v d) (s : Same H H') : Dp K H' v d := dp_same (fun _ _ => s.seq) (fun _ _ => s.tup) d v h
theorem _root_.L2.Dp.butD {K : PySem.W.Frag} {H H' : Hp} {v : V} {d : PyData} {a : Addr} {kvs : List (Key × V)} (h : Dp K H v d) (s : But a H H') (ha : H a = some (.dK kvs)) : Dp K H' v d := dp_same (fun _ _ => s.seq ha) (fun _ _ => s.tup ha) d v h
theorem _root_.L2.Dp.src {K : PySem.W.Frag} {H H' : Hp} {v : V} {d : PyData} {a : Addr} (h : Dp K H v d) (s : But a H H') (ha : Src H a) : Dp K H' v d := by
  obtain ⟨_, _, _, ha⟩ := ha
  exact h.butD s ha
section
variable {K : PySem.W.Frag} {H H' : Hp} {v : V}
theorem dp_int {i : Int} (h : Dp K H v (.int i)) : v = .int i := by cases h; rfl
theorem dp_str {z : Str} (h : Dp K H v (.str z)) : v = .str z := by cases h; rfl
theorem dp_non (h : Dp K H v .none) : v = .non := by cases h; rfl
theorem dp_bl {b : Bool} (h : Dp K H v (.bool b)) : v = .bl b := by cases h; rfl
theorem dp_tup {ds : List PyData} (h : Dp K H v (.tuple ds)) : ∃ a xs, v = .ref a ∧ SqT K H a xs ∧ Paired (Dp K H) xs ds := by
  cases h with | tup a b => exact ⟨_, _, rfl, a, dpAll_iff.mp b⟩
theorem dp_lst {ds : List PyData} (h : Dp K H v (.list ds)) : ∃ a xs, v = .ref a ∧ SqL K H a xs ∧ Paired (Dp K H) xs ds := by
  cases h with | lst a b => exact ⟨_, _, rfl, a, dpAll_iff.mp b⟩
theorem dp_of_lst {a : Addr} {xs : List V} {ds : List PyData} (h : SqL K H a xs) (p : Paired (Dp K H) xs ds) : Dp K H (.ref a) (.list ds) := .lst h (dpAll_iff.mpr p)
theorem dp_of_tup {a : Addr} {xs : List V} {ds : List PyData} (h : SqT K H a xs) (p : Paired (Dp K H) xs ds) : Dp K H (.ref a) (.tuple ds) := .tup h (dpAll_iff.mpr p)
/-- three ints, a text and an int .. -/
theorem dp_t3 {x y z : Int} (h : Dp K H v (.tuple [.int x, .int y, .int z])) : ∃ a, v = .ref a ∧ SqT K H a [.int x, .int y, .int z] := by
  obtain ⟨a, xs, rfl, hs, p⟩ := dp_tup h
  cases p with | cons h1 p => cases p with | cons h2 p => cases p with | cons h3 p => cases p; rw [dp_int h1, dp_int h2, dp_int h3] at hs; exact ⟨a, rfl, hs⟩
theorem dp_row {x : Str} {y : Int} (h : Dp K H v (.tuple [.str x, .int y])) : ∃ a, v = .ref a ∧ SqT K H a [.str x, .int y] := by
  obtain ⟨a, xs, rfl, hs, p⟩ := dp_tup h
  cases p with | cons h1 p => cases p with | cons h2 p => cases p; rw [dp_str h1, dp_int h2] at hs; exact ⟨a, rfl, hs⟩
theorem dp_step {x z : Str} {y : Int} (h : Dp K H v (.tuple [.str x, .str z, .int y])) : ∃ a, v = .ref a ∧ SqT K H a [.str x, .str z, .int y] := by
  obtain ⟨a, xs, rfl, hs, p⟩ := dp_tup h
  cases p with | cons h1 p => cases p with | cons h2 p => cases p with | cons h3 p => cases p; rw [dp_str h1, dp_str h2, dp_int h3] at hs; exact ⟨a, rfl, hs⟩
end
/-! ### typed data: what a value is written as -/
def eS3 (x : Int × Int × Int) : PyData := .tuple [.int x.1, .int x.2.1, .int x.2.2]
def eRow (x : Str × Int) : PyData := .tuple [.str x.1, .int x.2]
def eStep (x : Str × Str × Int) : PyData := .tuple [.str x.1, .str x.2.1, .int x.2.2]
def eOpt : Option Int → PyData
  | some i => .int i
  | none => .none
def vOpt : Option Int → V
  | some i => .int i
  | none => .non
theorem dp_opt {K : PySem.W.Frag} {H : Hp} {v : V} {o : Option Int} (h : Dp K H v (eOpt o)) : v = vOpt o := by
  cases o with
  | none => exact dp_non h
  | some i => exact dp_int h
theorem dp_of_opt {K : PySem.W.Frag} {H : Hp} (o : Option Int) : Dp K H (vOpt o) (eOpt o) := by
  cases o with
  | none => exact .non
  | some i => exact .int i
abbrev PL {α : Type} (K : PySem.W.Frag) (H : Hp) (e : α → PyData) (vs : List V) (xs : List α) : Prop := Paired (fun v x => Dp K H v (e x)) vs xs
theorem PL.tk {α : Type} {K : PySem.W.Frag} {H H' : Hp} {e : α → PyData} {vs : List V} {xs : List α} (h : PL K H e vs xs) (t : TK H H') (f : ∀ x, flat (e x) = true) : PL K H' e vs xs := h.imp fun v x q => dp_tk t _ v (f x) q
theorem PL.same {α : Type} {K : PySem.W.Frag} {H H' : Hp} {e : α → PyData} {vs : List V} {xs : List α} (h : PL K H e vs xs) (t : Same H H') : PL K H' e vs xs := h.imp fun v x q => q.same t
theorem flat_S3 (x : Int × Int × Int) : flat (eS3 x) = true := rfl
theorem flat_row (x : Str × Int) : flat (eRow x) = true := rfl
theorem flat_step (x : Str × Str × Int) : flat (eStep x) = true := rfl
theorem flat_opt (x : Option Int) : flat (eOpt x) = true := by cases x <;> rfl
theorem PL.dp {α : Type} {K : PySem.W.Frag} {H : Hp} {e : α → PyData} {l : Addr} {vs : List V} {xs : List α} (h : PL K H e vs xs) (s : SqL K H l vs) : Dp K H (.ref l) (.list (xs.map e)) := dp_of_lst s h.of_map_r
theorem dp_pl {α : Type} {K : PySem.W.Frag} {H : Hp} {e : α → PyData} {v : V} {xs : List α} (h : Dp K H v (.list (xs.map e))) : ∃ l vs, v = .ref l ∧ SqL K H l vs ∧ PL K H e vs xs := by
  obtain ⟨l, vs, rfl, s, p⟩ := dp_lst h
  exact ⟨l, vs, rfl, s, p.map_r⟩
theorem pl_int {K : PySem.W.Frag} {H : Hp} {vs : List V} {xs : List Int} (h : PL K H PyData.int vs xs) : vs = xs.map V.int := by
  induction h with
  | nil => rfl
  | cons h t ih => rw [List.map_cons, ih, dp_int h]
theorem pl_of_int {K : PySem.W.Frag} {H : Hp} (xs : List Int) : PL K H PyData.int (xs.map V.int) xs := by
  induction xs with
  | nil => exact .nil
  | cons x xs ih => exact .cons (.int x) ih
theorem pl_str {K : PySem.W.Frag} {H : Hp} {vs : List V} {xs : List Str} (h : PL K H PyData.str vs xs) : vs = xs.map V.str := by
  induction h with
  | nil => rfl
  | cons h t ih => rw [List.map_cons, ih, dp_str h]
theorem pl_of_str {K : PySem.W.Frag} {H : Hp} (xs : List Str) : PL K H PyData.str (xs.map V.str) xs := by
  induction xs with
  | nil => exact .nil
  | cons x xs ih => exact .cons (.str x) ih
theorem pl_opt {K : PySem.W.Frag} {H : Hp} {vs : List V} {xs : List (Option Int)} (h : PL K H eOpt vs xs) : vs = xs.map vOpt := by
  induction h with
  | nil => rfl
  | cons h t ih => rw [List.map_cons, ih, dp_opt h]
theorem pl_of_opt {K : PySem.W.Frag} {H : Hp} (xs : List (Option Int)) : PL K H eOpt (xs.map vOpt) xs := by
  induction xs with
  | nil => exact .nil
  | cons x xs ih => exact .cons (dp_of_opt x) ih
/-! ### shapes for == -/
theorem canLayAll_of {ds : List PyData} (h : ∀ d ∈ ds, d.canLay0 = true) : PyData.canLayAll0 ds = true := by
  induction ds with
  | nil => rfl
  | cons d ds ih =>
    show (PyData.canLay0 d && PyData.canLayAll0 ds) = true
    rw [h d (List.mem_cons_self ..), ih fun x hx => h x (List.mem_cons_of_mem _ hx)]
    rfl
theorem depthAll_of {ds : List PyData} {n : Nat} (h : ∀ d ∈ ds, d.depth ≤ n) : PyData.depthAll ds ≤ n := by
  induction ds with
  | nil => exact Nat.zero_le _
  | cons d ds ih =>
    show max (PyData.depth d) (PyData.depthAll ds) ≤ n
    exact Nat.max_le.mpr ⟨h d (List.mem_cons_self ..), ih fun x hx => h x (List.mem_cons_of_mem _ hx)⟩
/-- good for ==, at most n deep -/
def Gd (n : Nat) (d : PyData) : Prop := d.canLay0 = true ∧ d.depth ≤ n
theorem Gd.lst {n : Nat} {ds : List PyData} (h : ∀ d ∈ ds, Gd n d) : Gd (n + 1) (.list ds) := ⟨canLayAll_of fun d hd => (h d hd).1, Nat.succ_le_succ (depthAll_of fun d hd => (h d hd).2)⟩
theorem Gd.tup {n : Nat} {ds : List PyData} (h : ∀ d ∈ ds, Gd n d) : Gd (n + 1) (.tuple ds) := ⟨canLayAll_of fun d hd => (h d hd).1, Nat.succ_le_succ (depthAll_of fun d hd => (h d hd).2)⟩
theorem Gd.map {α : Type} {n : Nat} {e : α → PyData} {xs : List α} (h : ∀ x ∈ xs, Gd n (e x)) : Gd (n + 1) (.list (xs.map e)) := Gd.lst fun d hd => by
  obtain ⟨x, hx, rfl⟩ := List.mem_map.mp hd
  exact h x hx
theorem Gd.shaped {n : Nat} {d : PyData} (h : Gd n d) (hn : n ≤ 64) : SeqAt.shaped d = true := by
  unfold SeqAt.shaped
  rw [h.1, decide_eq_true (Nat.le_trans h.2 hn)]
  rfl
theorem Gd.mono {n m : Nat} {d : PyData} (h : Gd n d) (hn : n ≤ m) : Gd m d := ⟨h.1, Nat.le_trans h.2 hn⟩
theorem gd_int (i : Int) : Gd 0 (.int i) := ⟨rfl, Nat.le_refl _⟩
theorem gd_bool (i : Bool) : Gd 0 (.bool i) := ⟨rfl, Nat.le_refl _⟩
theorem gd_none : Gd 0 .none := ⟨rfl, Nat.le_refl _⟩
theorem gd_str {z : Str} (h : PyData.strOk z = true) : Gd 0 (.str z) := ⟨h, Nat.le_refl _⟩
theorem gd_S3 (x : Int × Int × Int) : Gd 1 (eS3 x) := ⟨rfl, by show _ ≤ 1; simp [eS3, PyData.depth, PyData.depthAll]⟩
theorem Gd.eqv {n : Nat} {d : PyData} (h : Gd n d) : PyData.eqv d d = true := SeqAt.eqv_refl d h.1
/-- a list is not the empty one -/
theorem eqv_nil (ds : List PyData) : PyData.eqv (.list ds) (.list []) = ds.isEmpty := by
  cases ds with
  | nil => rfl
  | cons d r => rfl
end Bg

namespace Bg
open PySem L2
/-! ### stretches: begin, end, depth -/
abbrev S3 := Int × Int × Int
/-- l is beneath u -/
def sub3 (u l : S3) : Prop := u.1 < l.1 ∧ l.1 ≤ u.2.1
/-- .. by a way: w tells «anywhere» -/
def bn3 (w : Bool) (u l : S3) : Prop := sub3 u l ∧ (w = true ∨ u.2.2 + 1 = l.2.2)
def bn3B (w : Bool) (u l : S3) : Bool := decide (u.1 < l.1) && decide (l.1 ≤ u.2.1) && (w || decide (u.2.2 + 1 = l.2.2))
theorem bn3B_iff (w : Bool) (u l : S3) : bn3B w u l = true ↔ bn3 w u l := by
  unfold bn3B bn3 sub3
  simp
def upB (w : Bool) (us : List S3) (l : S3) : Bool := us.any fun u => bn3B w u l
def loB (w : Bool) (ls : List S3) (u : S3) : Bool := ls.any fun l => bn3B w u l
theorem upB_iff {w : Bool} {us : List S3} {l : S3} : upB w us l = true ↔ ∃ u ∈ us, bn3 w u l := by
  unfold upB
  rw [List.any_eq_true]
  simp only [bn3B_iff]
theorem loB_iff {w : Bool} {ls : List S3} {u : S3} : loB w ls u = true ↔ ∃ l ∈ ls, bn3 w u l := by
  unfold loB
  rw [List.any_eq_true]
  simp only [bn3B_iff]
structure Fam (A : S3 → Prop) : Prop where
  le : ∀ x, A x → x.1 ≤ x.2.1
  nest : ∀ x y, A x → A y → sub3 x y → y.2.1 ≤ x.2.1 ∧ x.2.2 < y.2.2
/-- a dict of begins -/
def has (kv : List (Key × V)) (b : Int) : Prop := (valV kv (Sum.inl b)).isSome = true
def put (kv : List (Key × V)) (b : Int) : List (Key × V) := putK kv (Sum.inl b) (.bl true)
theorem has_put (kv : List (Key × V)) (b c : Int) : has (put kv c) b ↔ b = c ∨ has kv b := by
  unfold has put
  rw [valV_put]
  by_cases e : b = c
  · subst e; simp
  · have : ¬ (Sum.inl b : Key) = Sum.inl c := fun z => e (Sum.inl.inj z)
    rw [if_neg this]
    simp [e]
theorem put_len (kv : List (Key × V)) (c : Int) : (put kv c).length ≤ kv.length + 1 := by
  unfold put putK
  split <;> simp
theorem has_nil (b : Int) : ¬ has [] b := by
  unfold has
  simp [valV]
/-- the dict behind a pop of x, r being left -/
def popd (w : Bool) (kv : List (Key × V)) (x : S3) : List S3 → List (Key × V)
  | [] => kv
  | y :: _ => if w = true ∧ (valV kv (Sum.inl x.1)).isSome = true then put kv y.1 else kv
/-- Open.close: the stack with its top ahead, the dict -/
def clo (w : Bool) (b : Int) : List S3 → List (Key × V) → List S3 × List (Key × V)
  | [], kv => ([], kv)
  | x :: r, kv => if x.2.1 < b then clo w b r (popd w kv x r) else (x :: r, kv)
theorem clo_fst (w : Bool) (b : Int) : ∀ (rs : List S3) (kv : List (Key × V)), (clo w b rs kv).1 = rs.dropWhile (fun x => decide (x.2.1 < b))
  | [], _ => rfl
  | x :: r, kv => by
    unfold clo
    by_cases h : x.2.1 < b
    · rw [if_pos h, clo_fst w b r, List.dropWhile_cons, decide_eq_true h, if_pos rfl]
    · rw [if_neg h, List.dropWhile_cons, decide_eq_false h, if_neg (by simp)]
/-- the ends fall towards the top -/
def Anti (rs : List S3) : Prop := rs.Pairwise fun x y => x.2.1 ≤ y.2.1
theorem drop_filter {b : Int} : ∀ {rs : List S3}, Anti rs → rs.dropWhile (fun x => decide (x.2.1 < b)) = rs.filter (fun x => decide (b ≤ x.2.1))
  | [], _ => rfl
  | x :: r, h => by
    have h1 := List.pairwise_cons.mp h
    by_cases c : x.2.1 < b
    · rw [List.dropWhile_cons, decide_eq_true c, if_pos rfl, List.filter_cons, if_neg (by simp; omega)]
      exact drop_filter h1.2
    · rw [List.dropWhile_cons, decide_eq_false c, if_neg (by simp)]
      refine (List.filter_eq_self.mpr fun y hy => ?_).symm
      rcases List.mem_cons.mp hy with rfl | hy
      · exact decide_eq_true (by omega)
      · have := h1.1 y hy
        exact decide_eq_true (by omega)
theorem clo_filter {w : Bool} {b : Int} {rs : List S3} {kv : List (Key × V)} (h : Anti rs) : (clo w b rs kv).1 = rs.filter (fun x => decide (b ≤ x.2.1)) := by
  rw [clo_fst, drop_filter h]
theorem clo_len (w : Bool) (b : Int) : ∀ (rs : List S3) (kv : List (Key × V)), (clo w b rs kv).2.length + (clo w b rs kv).1.length ≤ kv.length + rs.length
  | [], _ => Nat.le_refl _
  | x :: r, kv => by
    unfold clo
    by_cases h : x.2.1 < b
    · rw [if_pos h]
      have hm : (popd w kv x r).length ≤ kv.length + 1 := by
        cases r with
        | nil => exact Nat.le_succ _
        | cons y r' =>
          show (if _ then put kv y.1 else kv).length ≤ _
          split
          · exact put_len kv y.1
          · exact Nat.le_succ _
      have ih := clo_len w b r (popd w kv x r)
      rw [List.length_cons]
      omega
    · rw [if_neg h]
      exact Nat.le_refl _
/-- what is told of u by the lowers met so far -/
def tld (w : Bool) (done : List S3) (u : S3) : Prop := ∃ l ∈ done, bn3 w u l
/-- the open ones, top first; acc: one further in is marked -/
def opn (w : Bool) (T : S3 → Prop) (kv : List (Key × V)) : Prop → List S3 → Prop
  | _, [] => True
  | acc, x :: r => (T x ↔ ((w = true ∧ acc) ∨ has kv x.1)) ∧ opn w T kv (acc ∨ has kv x.1) r
theorem opn_acc {w : Bool} {T : S3 → Prop} {kv : List (Key × V)} : ∀ {rs : List S3} {a a' : Prop}, (a ↔ a') → opn w T kv a rs → opn w T kv a' rs
  | [], _, _, _, _ => trivial
  | x :: r, a, a', e, h => ⟨by rw [← e]; exact h.1, opn_acc (by rw [e]) h.2⟩
/-- marks of begins that are not among them do not matter -/
theorem opn_put {w : Bool} {T : S3 → Prop} {kv : List (Key × V)} {c : Int} : ∀ {rs : List S3} {a : Prop}, (∀ x ∈ rs, x.1 ≠ c) → opn w T kv a rs → opn w T (put kv c) a rs
  | [], _, _, _ => trivial
  | x :: r, a, n, h => by
    have hx : has (put kv c) x.1 ↔ has kv x.1 := by
      rw [has_put]
      have := n x (List.mem_cons_self ..)
      simp [this]
    exact ⟨by rw [hx]; exact h.1, opn_acc (by rw [hx]) (opn_put (fun y hy => n y (List.mem_cons_of_mem _ hy)) h.2)⟩
theorem opn_T {w : Bool} {T T' : S3 → Prop} {kv : List (Key × V)} : ∀ {rs : List S3} {a : Prop}, (∀ x ∈ rs, (T x ↔ T' x)) → opn w T kv a rs → opn w T' kv a rs
  | [], _, _, _ => trivial
  | x :: r, a, n, h => ⟨by rw [← n x (List.mem_cons_self ..)]; exact h.1, opn_T (fun y hy => n y (List.mem_cons_of_mem _ hy)) h.2⟩
/-- where the way is straight acc does not matter -/
theorem opn_no {T : S3 → Prop} {kv : List (Key × V)} : ∀ {rs : List S3} {a a' : Prop}, opn false T kv a rs → opn false T kv a' rs
  | [], _, _, _ => trivial
  | x :: r, a, a', q => ⟨by have := q.1; simpa using this, opn_no q.2⟩
theorem opn_all {T : S3 → Prop} {kv : List (Key × V)} : ∀ {rs : List S3} {a : Prop}, a → (∀ x ∈ rs, T x) → opn true T kv a rs
  | [], _, _, _ => trivial
  | x :: r, a, h, n => ⟨by simp [h, n x (List.mem_cons_self ..)], opn_all (.inl h) fun y hy => n y (List.mem_cons_of_mem _ hy)⟩
/-- closing: the marks of the closed ones are right, the open ones stay right, no others are marked -/
theorem clo_ok {w : Bool} {b : Int} {T : S3 → Prop} : ∀ {rs : List S3} {kv : List (Key × V)}, (rs.map (·.1)).Nodup → opn w T kv False rs →
    opn w T (clo w b rs kv).2 False (clo w b rs kv).1 ∧ (∀ x ∈ rs, x ∉ (clo w b rs kv).1 → (has (clo w b rs kv).2 x.1 ↔ T x)) ∧ (∀ c, (∀ x ∈ rs, x.1 ≠ c) → (has (clo w b rs kv).2 c ↔ has kv c)) ∧ (∀ c, has kv c → has (clo w b rs kv).2 c) ∧
    (∀ c, has (clo w b rs kv).2 c → has kv c ∨ ∃ x ∈ rs, x.1 = c)
  | [], kv, _, h => ⟨h, fun _ hx => (nomatch hx), fun _ _ => Iff.rfl, fun _ q => q, fun _ q => .inl q⟩
  | x :: r, kv, nd, h => by
    have nd2 := List.nodup_cons.mp (show (x.1 :: r.map (·.1)).Nodup from nd)
    unfold clo
    by_cases c : x.2.1 < b
    · rw [if_pos c]
      -- the dict behind the pop
      obtain ⟨kv', hk, hop, hx, hother, hmore, hback⟩ : ∃ kv', popd w kv x r = kv' ∧ opn w T kv' False r ∧ (has kv' x.1 ↔ T x) ∧ (∀ c, (∀ z ∈ r, z.1 ≠ c) → (has kv' c ↔ has kv c)) ∧ (∀ c, has kv c → has kv' c) ∧ (∀ c, has kv' c → has kv c ∨ ∃ z ∈ r, z.1 = c) := by
        have hT : T x ↔ has kv x.1 := by rw [h.1]; simp
        cases r with
        | nil => exact ⟨kv, rfl, trivial, hT.symm, fun _ _ => Iff.rfl, fun _ q => q, fun _ q => .inl q⟩
        | cons y r' =>
          by_cases cc : w = true ∧ (valV kv (Sum.inl x.1)).isSome = true
          · refine ⟨put kv y.1, if_pos cc, ?_, ?_, ?_, ?_, ?_⟩
            · have nd3 := List.nodup_cons.mp (show (y.1 :: r'.map (·.1)).Nodup from nd2.2)
              have hx : has kv x.1 := cc.2
              have h2 := h.2
              refine ⟨?_, ?_⟩
              · rw [h2.1, has_put]
                simp [cc.1, hx]
              · refine opn_put (fun z hz e => nd3.1 (List.mem_map.mpr ⟨z, hz, e⟩)) (opn_acc ?_ h2.2)
                rw [has_put]
                simp [hx]
            · rw [hT, has_put]
              have : x.1 ≠ y.1 := fun e => nd2.1 (by rw [e]; exact List.mem_map.mpr ⟨y, List.mem_cons_self .., rfl⟩)
              simp [this]
            · intro c hc
              rw [has_put]
              have := hc y (List.mem_cons_self ..)
              simp [Ne.symm this]
            · intro c hc
              rw [has_put]
              exact .inr hc
            · intro c hc
              rw [has_put] at hc
              rcases hc with rfl | hc
              · exact .inr ⟨y, List.mem_cons_self .., rfl⟩
              · exact .inl hc
          · refine ⟨kv, if_neg cc, ?_, hT.symm, fun _ _ => Iff.rfl, fun _ q => q, fun _ q => .inl q⟩
            cases hw : w with
            | true =>
              rw [hw] at h cc
              have : ¬ has kv x.1 := fun q => cc ⟨rfl, q⟩
              exact opn_acc (by simp [this]) h.2
            | false =>
              rw [hw] at h
              exact opn_no h.2
      rw [hk]
      obtain ⟨q1, q2, q3, q4, q5⟩ := clo_ok (b := b) nd2.2 hop
      have hxr : ∀ z ∈ r, z.1 ≠ x.1 := fun z hz e => nd2.1 (List.mem_map.mpr ⟨z, hz, e⟩)
      refine ⟨q1, ?_, ?_, fun c hc => q4 c (hmore c hc), ?_⟩
      · intro z hz hn
        rcases List.mem_cons.mp hz with rfl | hz
        · rw [q3 _ hxr, hx]
        · exact q2 z hz hn
      · intro c hc
        have hcr : ∀ z ∈ r, z.1 ≠ c := fun z hz => hc z (List.mem_cons_of_mem _ hz)
        rw [q3 c hcr, hother c hcr]
      · intro c hc
        rcases q5 c hc with hc | ⟨z, hz, e⟩
        · rcases hback c hc with hc | ⟨z, hz, e⟩
          · exact .inl hc
          · exact .inr ⟨z, List.mem_cons_of_mem _ hz, e⟩
        · exact .inr ⟨z, List.mem_cons_of_mem _ hz, e⟩
    · rw [if_neg c]
      refine ⟨h, fun z hz hn => absurd hz hn, fun _ _ => Iff.rfl, fun _ q => q, fun _ q => .inl q⟩
/-! ### the walk of with_upper, with_lower -/
structure Stk (us : List S3) (at_ : Nat) (cur : Int) (rs : List S3) : Prop where
  eq : rs.reverse = (us.take at_).filter fun u => decide (cur ≤ u.2.1)
  lo : ∀ u ∈ us.take at_, u.1 ≤ cur
  hi : ∀ u ∈ us.drop at_, cur ≤ u.1
def Srt (us : List S3) : Prop := us.Pairwise fun x y => x.1 < y.1
section
variable {A : S3 → Prop} (F : Fam A) {us ls : List S3} (hu : ∀ u ∈ us, A u) (su : Srt us)
theorem Stk.mem {at_ : Nat} {cur : Int} {rs : List S3} (h : Stk us at_ cur rs) {x : S3} : x ∈ rs ↔ x ∈ us.take at_ ∧ cur ≤ x.2.1 := by
  rw [← List.mem_reverse, h.eq, List.mem_filter, decide_eq_true_iff]
include F hu su in
theorem Stk.anti {at_ : Nat} {cur : Int} {rs : List S3} (h : Stk us at_ cur rs) : Anti rs := by
  have h1 : rs.reverse.Pairwise (fun x y => y.2.1 ≤ x.2.1) := by
    rw [h.eq]
    have hs : ((us.take at_).filter fun u => decide (cur ≤ u.2.1)).Pairwise fun x y => x.1 < y.1 := (su.sublist (List.take_sublist _ _)).sublist List.filter_sublist
    refine hs.imp_of_mem fun {x y} hx hy hxy => ?_
    rw [List.mem_filter, decide_eq_true_iff] at hx hy
    exact (F.nest x y (hu x (List.mem_of_mem_take hx.1)) (hu y (List.mem_of_mem_take hy.1)) ⟨hxy, Int.le_trans (h.lo y hy.1) hx.2⟩).1
  rw [List.pairwise_reverse] at h1
  exact h1
theorem Stk.start (h : ∀ u ∈ us, (0 : Int) ≤ u.1) : Stk us 0 0 [] := ⟨by simp, by simp, by simpa using h⟩
include su in
theorem Stk.nodup {at_ : Nat} {cur : Int} {rs : List S3} (h : Stk us at_ cur rs) : (rs.map (·.1)).Nodup := by
  have h1 : (rs.reverse.map (·.1)).Nodup := by
    rw [h.eq]
    have hs : ((us.take at_).filter fun u => decide (cur ≤ u.2.1)).Pairwise fun x y => x.1 < y.1 := (su.sublist (List.take_sublist _ _)).sublist List.filter_sublist
    rw [List.Nodup, List.pairwise_map]
    exact hs.imp fun {x y} q => by omega
  rw [List.map_reverse, List.Nodup, List.pairwise_reverse] at h1
  exact h1.imp fun q => Ne.symm q
include F hu su in
/-- closing up to a later begin -/
theorem Stk.close {at_ : Nat} {cur b : Int} {rs : List S3} {w : Bool} {kv : List (Key × V)} (h : Stk us at_ cur rs) (hb : cur ≤ b) (hd : ∀ u ∈ us.drop at_, b ≤ u.1) : Stk us at_ b (clo w b rs kv).1 := by
  refine ⟨?_, fun u q => Int.le_trans (h.lo u q) hb, hd⟩
  rw [clo_filter (h.anti F hu su), ← List.filter_reverse, h.eq, List.filter_filter]
  congr 1
  funext u
  rw [Bool.eq_iff_iff, Bool.and_eq_true, decide_eq_true_iff, decide_eq_true_iff]
  constructor
  · exact fun q => q.1
  · exact fun q => ⟨q, Int.le_trans hb q⟩
include F hu su in
theorem Stk.push {at_ : Nat} {cur : Int} {rs : List S3} {u : S3} {w : Bool} {kv : List (Key × V)} (h : Stk us at_ cur rs) (e : us[at_]? = some u) : Stk us (at_ + 1) u.1 (u :: (clo w u.1 rs kv).1) := by
  have hlt := (List.getElem?_eq_some_iff.mp e).1
  have hdr : us.drop at_ = u :: us.drop (at_ + 1) := by
    obtain ⟨h1, h2⟩ := List.getElem?_eq_some_iff.mp e
    rw [← h2, List.drop_eq_getElem_cons h1]
  have hcu : cur ≤ u.1 := h.hi u (by rw [hdr]; exact List.mem_cons_self ..)
  have sd : (u :: us.drop (at_ + 1)).Pairwise fun x y => x.1 < y.1 := by rw [← hdr]; exact su.sublist (List.drop_sublist _ _)
  have hge : ∀ v ∈ us.drop at_, u.1 ≤ v.1 := by
    rw [hdr]
    intro v hv
    rcases List.mem_cons.mp hv with rfl | hv
    · exact Int.le_refl _
    · exact Int.le_of_lt ((List.pairwise_cons.mp sd).1 v hv)
  have c := h.close F hu su (w := w) (kv := kv) hcu hge
  have hu1 : A u := hu u (List.mem_of_getElem? e)
  refine ⟨?_, ?_, ?_⟩
  · rw [List.reverse_cons, c.eq, take_snoc e, List.filter_append, List.filter_cons, if_pos (decide_eq_true (F.le u hu1))]
    rfl
  · intro v hv
    rw [take_snoc e] at hv
    rcases List.mem_append.mp hv with hv | hv
    · exact Int.le_trans (h.lo v hv) hcu
    · rw [List.mem_singleton.mp hv]
      exact Int.le_refl _
  · intro v hv
    exact hge v (by rw [hdr]; exact List.mem_cons_of_mem _ hv)
include su in
/-- the taken ones are those ahead of l -/
theorem taken_iff {at_ : Nat} {l : Int} (h1 : ∀ u ∈ us.take at_, u.1 < l) (h2 : ∀ u ∈ us.drop at_, l ≤ u.1) (u : S3) : u ∈ us.take at_ ↔ u ∈ us ∧ u.1 < l := by
  constructor
  · exact fun q => ⟨List.mem_of_mem_take q, h1 u q⟩
  · rintro ⟨q, c⟩
    rw [← List.take_append_drop at_ us] at q
    rcases List.mem_append.mp q with q | q
    · exact q
    · have := h2 u q
      omega
include F hu su in
/-- with_upper's answer at a lower -/
theorem upper_ans {at_ : Nat} {l : S3} {rs : List S3} (hl : A l) (h : Stk us at_ l.1 rs) (h1 : ∀ u ∈ us.take at_, u.1 < l.1) (w : Bool) :
    (∃ u ∈ us, bn3 w u l) ↔ ∃ t r, rs = t :: r ∧ (w = true ∨ t.2.2 + 1 = l.2.2) := by
  have hm : ∀ u, u ∈ rs ↔ u ∈ us ∧ sub3 u l := by
    intro u
    rw [h.mem, taken_iff su h1 h.hi]
    exact ⟨fun q => ⟨q.1.1, q.1.2, q.2⟩, fun q => ⟨⟨q.1, q.2.1⟩, q.2.2⟩⟩
  have ha := h.anti F hu su
  constructor
  · rintro ⟨u, hu', hs, hw⟩
    have hur : u ∈ rs := (hm u).mpr ⟨hu', hs⟩
    cases rs with
    | nil => exact absurd hur (by simp)
    | cons t r =>
      refine ⟨t, r, rfl, ?_⟩
      rcases hw with hw | hw
      · exact .inl hw
      · rcases List.mem_cons.mp hur with rfl | hur
        · exact .inr hw
        · exfalso
          have ht := (hm t).mp (List.mem_cons_self ..)
          have hrev : (t :: r).reverse.Pairwise fun x y => x.1 < y.1 := by
            rw [h.eq]
            exact (su.sublist (List.take_sublist _ _)).sublist List.filter_sublist
          rw [List.pairwise_reverse] at hrev
          have hut : u.1 < t.1 := (List.pairwise_cons.mp hrev).1 u hur
          have htu : sub3 u t := ⟨hut, Int.le_trans (Int.le_of_lt ht.2.1) hs.2⟩
          have n1 := (F.nest u t (hu u hu') (hu t ht.1) htu).2
          have n2 := (F.nest t l (hu t ht.1) hl ht.2).2
          omega
  · rintro ⟨t, r, rfl, hw⟩
    have ht := (hm t).mp (List.mem_cons_self ..)
    exact ⟨t, ht.1, ht.2, hw⟩
/-! ### with_lower -/
structure Low (w : Bool) (us done : List S3) (at_ : Nat) (cur : Int) (rs : List S3) (kv : List (Key × V)) : Prop where
  stk : Stk us at_ cur rs
  shut : ∀ u ∈ us.take at_, ¬ cur ≤ u.2.1 → (has kv u.1 ↔ tld w done u)
  op : opn w (tld w done) kv False rs
  only : ∀ c, has kv c → ∃ u ∈ us.take at_, u.1 = c
  met : ∀ l ∈ done, l.1 ≤ cur
theorem Low.start {w : Bool} (h : ∀ u ∈ us, (0 : Int) ≤ u.1) : Low w us [] 0 0 [] [] := ⟨Stk.start h, by simp, trivial, fun c q => absurd q (has_nil c), by simp⟩
include F hu su in
theorem Low.close {w : Bool} {done : List S3} {at_ : Nat} {cur b : Int} {rs : List S3} {kv : List (Key × V)} (h : Low w us done at_ cur rs kv) (hb : cur ≤ b) (hd : ∀ u ∈ us.drop at_, b ≤ u.1) :
    Low w us done at_ b (clo w b rs kv).1 (clo w b rs kv).2 := by
  have hs := h.stk.close F hu su (w := w) (kv := kv) hb hd
  obtain ⟨q1, q2, q3, q4, q5⟩ := clo_ok (b := b) (h.stk.nodup su) h.op
  refine ⟨hs, ?_, q1, ?_, fun l hl => Int.le_trans (h.met l hl) hb⟩
  · intro u hu' hn
    by_cases c : cur ≤ u.2.1
    · have hr : u ∈ rs := h.stk.mem.mpr ⟨hu', c⟩
      exact q2 u hr fun z => hn (hs.mem.mp z).2
    · have hnr : ∀ x ∈ rs, x.1 ≠ u.1 := by
        intro x hx e
        have hx' := h.stk.mem.mp hx
        have : x = u := by
          have nd := su.sublist (List.take_sublist at_ us)
          obtain ⟨i, hi, hxi⟩ := List.mem_iff_getElem.mp hx'.1
          obtain ⟨j, hj, huj⟩ := List.mem_iff_getElem.mp hu'
          rw [List.pairwise_iff_getElem] at nd
          rcases Nat.lt_trichotomy i j with hij | hij | hij
          · have := nd i j hi hj hij
            rw [hxi, huj] at this
            omega
          · subst hij
            rw [← hxi, ← huj]
          · have := nd j i hj hi hij
            rw [hxi, huj] at this
            omega
        rw [this] at hx'
        exact c hx'.2
      rw [q3 u.1 hnr]
      exact h.shut u hu' c
  · intro c hc
    rcases q5 c hc with hc | ⟨x, hx, e⟩
    · exact h.only c hc
    · exact ⟨x, (h.stk.mem.mp hx).1, e⟩
include F hu su in
theorem Low.push {w : Bool} {done : List S3} {at_ : Nat} {cur : Int} {rs : List S3} {kv : List (Key × V)} {u : S3} (h : Low w us done at_ cur rs kv) (e : us[at_]? = some u) :
    Low w us done (at_ + 1) u.1 (u :: (clo w u.1 rs kv).1) (clo w u.1 rs kv).2 := by
  have hdr : us.drop at_ = u :: us.drop (at_ + 1) := by
    obtain ⟨h1, h2⟩ := List.getElem?_eq_some_iff.mp e
    rw [← h2, List.drop_eq_getElem_cons h1]
  have sd : (u :: us.drop (at_ + 1)).Pairwise fun x y => x.1 < y.1 := by rw [← hdr]; exact su.sublist (List.drop_sublist _ _)
  have hcu : cur ≤ u.1 := h.stk.hi u (by rw [hdr]; exact List.mem_cons_self ..)
  have hge : ∀ v ∈ us.drop at_, u.1 ≤ v.1 := by
    rw [hdr]
    intro v hv
    rcases List.mem_cons.mp hv with rfl | hv
    · exact Int.le_refl _
    · exact Int.le_of_lt ((List.pairwise_cons.mp sd).1 v hv)
  have c := h.close F hu su hcu hge
  have hlt : ∀ v ∈ us.take at_, v.1 < u.1 := by
    intro v hv
    have : (us.take at_ ++ us.drop at_).Pairwise fun x y => x.1 < y.1 := by rw [List.take_append_drop]; exact su
    exact (List.pairwise_append.mp this).2.2 v hv u (by rw [hdr]; exact List.mem_cons_self ..)
  have hnew : ¬ has (clo w u.1 rs kv).2 u.1 := fun q => by
    obtain ⟨v, hv, e⟩ := c.only _ q
    have := hlt v hv
    omega
  have hT : ¬ tld w done u := by
    rintro ⟨l, hl, hs, _⟩
    have := c.met l hl
    have := hs.1
    omega
  refine ⟨h.stk.push F hu su e, ?_, ⟨by simp [hnew, hT], opn_acc (by simp [hnew]) c.op⟩, ?_, c.met⟩
  · intro v hv hn
    rw [take_snoc e] at hv
    rcases List.mem_append.mp hv with hv | hv
    · exact c.shut v hv hn
    · rw [List.mem_singleton.mp hv] at hn ⊢
      exact absurd (F.le u (hu u (List.mem_of_getElem? e))) hn
  · intro x hx
    obtain ⟨v, hv, e'⟩ := c.only x hx
    exact ⟨v, by rw [take_snoc e]; exact List.mem_append_left _ hv, e'⟩
/-- meet, behind its close -/
def mark (w : Bool) (l : S3) (rs : List S3) (kv : List (Key × V)) : List (Key × V) := match rs with
  | [] => kv
  | t :: _ => if w = true ∨ t.2.2 + 1 = l.2.2 then put kv t.1 else kv
include F hu su in
theorem Low.meet {w : Bool} {done : List S3} {at_ : Nat} {l : S3} {rs : List S3} {kv : List (Key × V)} (hl : A l) (h : Low w us done at_ l.1 rs kv) (h1 : ∀ u ∈ us.take at_, u.1 < l.1) :
    Low w us (done ++ [l]) at_ l.1 rs (mark w l rs kv) := by
  have hmem : ∀ u, u ∈ rs ↔ u ∈ us ∧ sub3 u l := by
    intro u
    rw [h.stk.mem, taken_iff su h1 h.stk.hi]
    exact ⟨fun q => ⟨q.1.1, q.1.2, q.2⟩, fun q => ⟨⟨q.1, q.2.1⟩, q.2.2⟩⟩
  have hT : ∀ u, tld w (done ++ [l]) u ↔ tld w done u ∨ bn3 w u l := by
    intro u
    constructor
    · rintro ⟨x, hx, q⟩
      rcases List.mem_append.mp hx with hx | hx
      · exact .inl ⟨x, hx, q⟩
      · rw [List.mem_singleton.mp hx] at q
        exact .inr q
    · rintro (⟨x, hx, q⟩ | q)
      · exact ⟨x, List.mem_append_left _ hx, q⟩
      · exact ⟨l, by simp, q⟩
  have nd := h.stk.nodup su
  refine ⟨h.stk, ?_, ?_, ?_, ?_⟩
  · intro u hu' hn
    have hnr : u ∉ rs := fun q => hn (h.stk.mem.mp q).2
    have hnb : ¬ bn3 w u l := fun q => hn q.1.2
    rw [hT]
    have e1 : has (mark w l rs kv) u.1 ↔ has kv u.1 := by
      unfold mark
      cases rs with
      | nil => exact Iff.rfl
      | cons t r =>
        show has (if _ then put kv t.1 else kv) u.1 ↔ _
        split
        · rw [has_put]
          have : u.1 ≠ t.1 := by
            intro e
            have ht := h.stk.mem.mp (List.mem_cons_self (a := t) (l := r))
            have : u = t := by
              have nd := su.sublist (List.take_sublist at_ us)
              obtain ⟨i, hi, hxi⟩ := List.mem_iff_getElem.mp hu'
              obtain ⟨j, hj, huj⟩ := List.mem_iff_getElem.mp ht.1
              rw [List.pairwise_iff_getElem] at nd
              rcases Nat.lt_trichotomy i j with hij | hij | hij
              · have := nd i j hi hj hij
                rw [hxi, huj] at this
                omega
              · subst hij
                rw [← hxi, ← huj]
              · have := nd j i hj hi hij
                rw [hxi, huj] at this
                omega
            rw [this] at hn
            exact hn ht.2
          simp [this]
        · exact Iff.rfl
    rw [e1, h.shut u hu' hn]
    simp [hnb]
  · cases rs with
    | nil => trivial
    | cons t r =>
      have nd2 := List.nodup_cons.mp (show (t.1 :: r.map (·.1)).Nodup from nd)
      have ht := (hmem t).mp (List.mem_cons_self ..)
      have ho := h.op
      have hrev : (t :: r).reverse.Pairwise fun x y => x.1 < y.1 := by
        rw [h.stk.eq]
        exact (su.sublist (List.take_sublist _ _)).sublist List.filter_sublist
      rw [List.pairwise_reverse] at hrev
      have hin : ∀ x ∈ r, x.2.2 < t.2.2 ∧ sub3 x l := by
        intro x hx
        have hx' := (hmem x).mp (List.mem_cons_of_mem _ hx)
        have hxt : x.1 < t.1 := (List.pairwise_cons.mp hrev).1 x hx
        exact ⟨(F.nest x t (hu x hx'.1) (hu t ht.1) ⟨hxt, Int.le_trans (Int.le_of_lt ht.2.1) hx'.2.2⟩).2, hx'.2⟩
      have htl := (F.nest t l (hu t ht.1) hl ht.2).2
      show opn w (tld w (done ++ [l])) (if w = true ∨ t.2.2 + 1 = l.2.2 then put kv t.1 else kv) False (t :: r)
      cases hw : w with
      | true =>
        rw [hw] at hT ho
        rw [if_pos (.inl rfl)]
        refine ⟨?_, opn_all (.inr ((has_put ..).mpr (.inl rfl))) fun x hx => (hT x).mpr (.inr ⟨(hin x hx).2, .inl rfl⟩)⟩
        rw [hT, has_put]
        have : bn3 true t l := ⟨ht.2, .inl rfl⟩
        simp [this]
      | false =>
        rw [hw] at hT ho
        have hr : ∀ x ∈ r, (tld false done x ↔ tld false (done ++ [l]) x) := by
          intro x hx
          rw [hT]
          have : ¬ bn3 false x l := by
            rintro ⟨_, q | q⟩
            · exact absurd q (by decide)
            · have := (hin x hx).1
              omega
          simp [this]
        by_cases c : t.2.2 + 1 = l.2.2
        · rw [if_pos (.inr c)]
          refine ⟨?_, opn_no (a := False) (opn_put (fun x hx e => nd2.1 (List.mem_map.mpr ⟨x, hx, e⟩)) (opn_T hr (opn_no ho.2)))⟩
          rw [hT, has_put]
          have : bn3 false t l := ⟨ht.2, .inr c⟩
          simp [this]
        · rw [if_neg (by rintro (q | q); exact absurd q (by decide); exact c q)]
          refine ⟨?_, opn_T hr ho.2⟩
          rw [hT, ← ho.1]
          have : ¬ bn3 false t l := by
            rintro ⟨_, q | q⟩
            · exact absurd q (by decide)
            · exact c q
          simp [this]
  · intro c hc
    unfold mark at hc
    cases rs with
    | nil => exact h.only c hc
    | cons t r =>
      have hc : has (if w = true ∨ t.2.2 + 1 = l.2.2 then put kv t.1 else kv) c := hc
      by_cases q : w = true ∨ t.2.2 + 1 = l.2.2
      · rw [if_pos q, has_put] at hc
        rcases hc with rfl | hc
        · exact ⟨t, (h.stk.mem.mp (List.mem_cons_self ..)).1, rfl⟩
        · exact h.only c hc
      · rw [if_neg q] at hc
        exact h.only c hc
  · intro x hx
    rcases List.mem_append.mp hx with hx | hx
    · exact h.met x hx
    · rw [List.mem_singleton.mp hx]
      exact Int.le_refl _
theorem mark_len (w : Bool) (l : S3) (rs : List S3) (kv : List (Key × V)) : (mark w l rs kv).length ≤ kv.length + 1 := by
  unfold mark
  cases rs with
  | nil => exact Nat.le_succ _
  | cons t r =>
    show (if _ then put kv t.1 else kv).length ≤ _
    split
    · exact put_len kv t.1
    · exact Nat.le_succ _
include F hu su in
/-- the last close -/
theorem Low.finish {w : Bool} {done : List S3} {at_ : Nat} {cur b : Int} {rs : List S3} {kv : List (Key × V)} (h : Low w us done at_ cur rs kv) (hb : ∀ x ∈ rs, x.2.1 < b) (hd : ∀ u ∈ us.drop at_, ∀ l ∈ done, l.1 ≤ u.1) (u : S3) (hu' : u ∈ us) :
    has (clo w b rs kv).2 u.1 ↔ tld w done u := by
  obtain ⟨q1, q2, q3, q4, q5⟩ := clo_ok (b := b) (h.stk.nodup su) h.op
  have hnil : (clo w b rs kv).1 = [] := by
    rw [clo_filter (h.stk.anti F hu su)]
    refine List.filter_eq_nil_iff.mpr fun x hx => ?_
    have := hb x hx
    simp
    omega
  have hinj : ∀ x ∈ us, x.1 = u.1 → x = u := by
    intro x hx e
    obtain ⟨i, hi, hxi⟩ := List.mem_iff_getElem.mp hx
    obtain ⟨j, hj, huj⟩ := List.mem_iff_getElem.mp hu'
    have nd := su
    unfold Srt at nd
    rw [List.pairwise_iff_getElem] at nd
    rcases Nat.lt_trichotomy i j with hij | hij | hij
    · have := nd i j hi hj hij
      rw [hxi, huj] at this
      omega
    · subst hij
      rw [← hxi, ← huj]
    · have := nd j i hj hi hij
      rw [hxi, huj] at this
      omega
  have hsub : ∀ x ∈ rs, x ∈ us := fun x hx => List.mem_of_mem_take (h.stk.mem.mp hx).1
  by_cases c : u ∈ rs
  · exact q2 u c (by rw [hnil]; exact List.not_mem_nil)
  · have hnr : ∀ x ∈ rs, x.1 ≠ u.1 := fun x hx e => c (by rw [← hinj x (hsub x hx) e]; exact hx)
    rw [q3 u.1 hnr]
    by_cases ct : u ∈ us.take at_
    · exact h.shut u ct fun z => c (h.stk.mem.mpr ⟨ct, z⟩)
    · have hdr : u ∈ us.drop at_ := by
        have := hu'
        rw [← List.take_append_drop at_ us] at this
        rcases List.mem_append.mp this with q | q
        · exact absurd q ct
        · exact q
      constructor
      · intro q
        obtain ⟨v, hv, e⟩ := h.only _ q
        exact absurd (by rw [← hinj v (List.mem_of_mem_take hv) e]; exact hv) ct
      · rintro ⟨l, hl, hs, _⟩
        have := hd u hdr l hl
        have := hs.1
        omega
/-- all is closed: the marks tell -/
theorem Low.done_ {w : Bool} {done : List S3} {at_ : Nat} {cur : Int} {kv : List (Key × V)} (h : Low w us done at_ cur [] kv) (hd : ∀ u ∈ us.drop at_, ∀ l ∈ done, l.1 ≤ u.1) (su : Srt us) (u : S3) (hu : u ∈ us) : has kv u.1 ↔ tld w done u := by
  by_cases c : u ∈ us.take at_
  · refine h.shut u c fun q => ?_
    have := h.stk.mem.mpr ⟨c, q⟩
    exact absurd this (by simp)
  · have hdr : u ∈ us.drop at_ := by
      rw [← List.take_append_drop at_ us] at hu
      rcases List.mem_append.mp hu with q | q
      · exact absurd q c
      · exact q
    constructor
    · intro q
      obtain ⟨v, hv, e⟩ := h.only _ q
      exfalso
      have : (us.take at_ ++ us.drop at_).Pairwise fun x y => x.1 < y.1 := by rw [List.take_append_drop]; exact su
      have := (List.pairwise_append.mp this).2.2 v hv u hdr
      omega
    · rintro ⟨l, hl, hs, _⟩
      have := hd u hdr l hl
      have := hs.1
      omega
end
end Bg

namespace Bg
open PySem L2
/-! ### trees by their depths -/
def dg (ds : List Int) (i : Nat) : Int := ds.getD i 0
theorem dg_of {ds : List Int} {i : Nat} {d : Int} (h : ds[i]? = some d) : dg ds i = d := by
  unfold dg
  rw [List.getD_eq_getElem?_getD, h]
  rfl
theorem dg_get {ds : List Int} {i : Nat} (h : i < ds.length) : ds[i]? = some (dg ds i) := by
  unfold dg
  rw [List.getD_eq_getElem?_getD, List.getElem?_eq_getElem h]
  rfl
/-- u is above k -/
def An (ds : List Int) (u k : Nat) : Prop := u < k ∧ k < ds.length ∧ ∀ j, u < j → j ≤ k → dg ds u < dg ds j
/-- the depths of a tree -/
structure Dv (ds : List Int) : Prop where
  one : dg ds 0 = 1
  two : ∀ i, i + 1 < ds.length → 2 ≤ dg ds (i + 1) ∧ dg ds (i + 1) ≤ dg ds i + 1
theorem Dv.pos {ds : List Int} (h : Dv ds) : ∀ i, i < ds.length → 1 ≤ dg ds i
  | 0, _ => by rw [h.one]; decide
  | i + 1, hi => by have := (h.two i hi).1; omega
theorem Dv.le {ds : List Int} (h : Dv ds) : ∀ i, i < ds.length → dg ds i ≤ i + 1
  | 0, _ => by rw [h.one]; decide
  | i + 1, hi => by
    have h1 := (h.two i hi).2
    have h2 := h.le i (by omega)
    omega
theorem An.trans {ds : List Int} {u v k : Nat} (a : An ds u v) (b : An ds v k) : An ds u k := by
  refine ⟨Nat.lt_trans a.1 b.1, b.2.1, fun j h1 h2 => ?_⟩
  by_cases c : j ≤ v
  · exact a.2.2 j h1 c
  · exact Int.lt_trans (a.2.2 v a.1 (Nat.le_refl _)) (b.2.2 j (by omega) h2)
theorem An.mid {ds : List Int} {u v k : Nat} (a : An ds u k) (b : An ds v k) (h : u < v) : An ds u v := ⟨h, Nat.lt_trans b.1 b.2.1, fun j h1 h2 => a.2.2 j h1 (Nat.le_trans h2 (Nat.le_of_lt b.1))⟩
theorem An.dlt {ds : List Int} {u k : Nat} (a : An ds u k) : dg ds u < dg ds k := a.2.2 k a.1 (Nat.le_refl _)
/-- u is straight above k -/
def Par (ds : List Int) (u k : Nat) : Prop := An ds u k ∧ dg ds u + 1 = dg ds k
/-- all above k: the one straight above, and all above that -/
theorem Par.all {ds : List Int} {u k : Nat} (p : Par ds u k) (w : Nat) : An ds w k ↔ w = u ∨ An ds w u := by
  constructor
  · intro a
    rcases Nat.lt_trichotomy w u with h | h | h
    · exact .inr (a.mid p.1 h)
    · exact .inl h
    · exfalso
      have h1 := (p.1.mid a h).dlt
      have h2 := a.dlt
      have h3 := p.2
      omega
  · rintro (rfl | a)
    · exact p.1
    · exact a.trans p.1
theorem Par.only {ds : List Int} {u w k : Nat} (p : Par ds u k) (q : Par ds w k) : w = u := by
  rcases (p.all w).mp q.1 with h | h
  · exact h
  · exfalso
    have h1 := h.dlt
    have h2 := p.2
    have h3 := q.2
    omega
/-- the uppers are right -/
def UpAt (ds : List Int) (k : Nat) : Option Int → Prop
  | some u => ∃ n : Nat, u = n ∧ Par ds n k
  | none => ∀ u, ¬ An ds u k
structure UpOk (ds : List Int) (us : List (Option Int)) : Prop where
  len : us.length = ds.length
  at_ : ∀ (k : Nat) (o : Option Int), us[k]? = some o → UpAt ds k o
/-- the line down to k -/
structure Line (ds : List Int) (k : Nat) (ln : List Int) : Prop where
  len : (ln.length : Int) = dg ds k
  at_ : ∀ (i : Nat) (m : Int), ln[i]? = some m → ∃ n : Nat, m = n ∧ dg ds n = (i : Int) + 1 ∧ (n = k ∨ An ds n k)
theorem Line.first {ds : List Int} (h : Dv ds) : Line ds 0 [0] := ⟨by rw [h.one]; rfl, fun i m e => by
  cases i with
  | zero => exact ⟨0, by simpa using e.symm, by rw [h.one]; rfl, .inl rfl⟩
  | succ i => simp at e⟩
theorem Line.next {ds : List Int} {k : Nat} {ln : List Int} (h : Dv ds) (l : Line ds k ln) (hk : k + 1 < ds.length) : Line ds (k + 1) (ln.take (dg ds (k + 1) - 1).toNat ++ [((k + 1 : Nat) : Int)]) := by
  have h2 := h.two k hk
  have hl := l.len
  refine ⟨?_, fun i m e => ?_⟩
  · rw [List.length_append, List.length_take, List.length_singleton]
    omega
  · by_cases c : i < (dg ds (k + 1) - 1).toNat
    · rw [List.getElem?_append_left (by rw [List.length_take]; omega), List.getElem?_take, if_pos c] at e
      obtain ⟨n, rfl, hd, hn⟩ := l.at_ i m e
      refine ⟨n, rfl, hd, .inr ⟨by rcases hn with rfl | a; omega; have := a.1; omega, hk, fun j h3 h4 => ?_⟩⟩
      by_cases cj : j = k + 1
      · rw [cj, hd]; omega
      · rcases hn with rfl | a
        · omega
        · exact a.2.2 j h3 (by omega)
    · have hlen : (ln.take (dg ds (k + 1) - 1).toNat).length = (dg ds (k + 1) - 1).toNat := by rw [List.length_take]; omega
      rw [List.getElem?_append_right (by omega), hlen] at e
      have hi : i - (dg ds (k + 1) - 1).toNat = 0 := by
        cases q : i - (dg ds (k + 1) - 1).toNat with
        | zero => rfl
        | succ z => rw [q] at e; simp at e
      rw [hi] at e
      exact ⟨k + 1, by simpa using e.symm, by omega, .inl rfl⟩
/-- its upper, read off the line -/
theorem Line.upper {ds : List Int} {k : Nat} {ln : List Int} {m : Int} (l : Line ds k ln) (hk : 1 < dg ds k) (hl : k < ds.length) (e : ln[(dg ds k - 2).toNat]? = some m) : UpAt ds k (some m) := by
  obtain ⟨n, rfl, hd, hn⟩ := l.at_ _ m e
  refine ⟨n, rfl, ?_, by omega⟩
  rcases hn with rfl | a
  · omega
  · exact a
theorem upAt_none {ds : List Int} {k : Nat} (h : Dv ds) (hk : ¬ 1 < dg ds k) : UpAt ds k none := fun u a => by
  have h1 := a.dlt
  have h2 := h.pos u (Nat.lt_trans a.1 a.2.1)
  omega
/-! ### ends -/
structure EndP (ds : List Int) (k e : Nat) : Prop where
  le : k ≤ e
  lt : e < ds.length
  in_ : ∀ j, k < j → j ≤ e → dg ds k < dg ds j
  out : e + 1 < ds.length → ¬ dg ds k < dg ds (e + 1)
theorem EndP.an {ds : List Int} {u e : Nat} (h : EndP ds u e) (k : Nat) : An ds u k ↔ u < k ∧ k ≤ e := by
  constructor
  · intro a
    refine ⟨a.1, ?_⟩
    rcases Nat.lt_or_ge e k with c | c
    · exact absurd (a.2.2 (e + 1) (by have := h.le; omega) (by omega)) (h.out (by have := a.2.1; omega))
    · exact c
  · rintro ⟨h1, h2⟩
    exact ⟨h1, Nat.lt_of_le_of_lt h2 h.lt, fun j a b => h.in_ j a (Nat.le_trans b h2)⟩
theorem EndP.only {ds : List Int} {u e f : Nat} (h : EndP ds u e) (g : EndP ds u f) : e = f := by
  rcases Nat.lt_trichotomy e f with c | c | c
  · exact absurd (g.in_ (e + 1) (by have := h.le; omega) (by omega)) (h.out (by have := g.lt; omega))
  · exact c
  · exact absurd (h.in_ (f + 1) (by have := g.le; omega) (by omega)) (g.out (by have := h.lt; omega))
theorem EndP.nest {ds : List Int} {u v e f : Nat} (h : EndP ds u e) (g : EndP ds v f) (c : u < v) (d : v ≤ e) : f ≤ e ∧ dg ds u < dg ds v := by
  have huv := h.in_ v c d
  refine ⟨?_, huv⟩
  rcases Nat.lt_or_ge e f with q | q
  · exfalso
    refine h.out (by have := g.lt; omega) (Int.lt_trans huv (g.in_ (e + 1) (by omega) (by omega)))
  · exact q
/-- the stretches of a tree -/
def IsS (ds : List Int) (x : S3) : Prop := ∃ k e : Nat, EndP ds k e ∧ x = ((k : Int), (e : Int), dg ds k)
theorem fam_of (ds : List Int) : Fam (IsS ds) := by
  refine ⟨?_, ?_⟩
  · rintro x ⟨k, e, h, rfl⟩
    have := h.le
    show (k : Int) ≤ e
    omega
  · rintro x y ⟨k, e, h, rfl⟩ ⟨l, f, g, rfl⟩ ⟨h1, h2⟩
    have h1 : (k : Int) < l := h1
    have h2 : (l : Int) ≤ e := h2
    have := h.nest g (by omega) (by omega)
    refine ⟨?_, this.2⟩
    show (f : Int) ≤ e
    omega
/-- beneath, by depths -/
def Bn (ds : List Int) (w : Bool) (u k : Nat) : Prop := An ds u k ∧ (w = true ∨ dg ds u + 1 = dg ds k)
theorem bn_s {ds : List Int} {w : Bool} {u k e f : Nat} (h : EndP ds u e) (g : EndP ds k f) : bn3 w ((u : Int), (e : Int), dg ds u) ((k : Int), (f : Int), dg ds k) ↔ Bn ds w u k := by
  unfold bn3 Bn sub3
  rw [h.an]
  show ((u : Int) < k ∧ (k : Int) ≤ e) ∧ _ ↔ _
  constructor
  · rintro ⟨⟨a, b⟩, c⟩
    exact ⟨⟨by omega, by omega⟩, c⟩
  · rintro ⟨⟨a, b⟩, c⟩
    exact ⟨⟨by omega, by omega⟩, c⟩
end Bg

namespace Bg
open PySem PySem.Spec PyProof.Rows L2
/-! ### all stands but two -/
def But2 (a b : Addr) (H H' : Hp) : Prop := ∀ c o, c ≠ a → c ≠ b → H c = some o → H' c = some o
theorem But2.refl (a b : Addr) (H : Hp) : But2 a b H H := fun _ _ _ _ h => h
theorem But2.trans {a b : Addr} {H H1 H2 : Hp} (x : But2 a b H H1) (y : But2 a b H1 H2) : But2 a b H H2 := fun c o n m h => y c o n m (x c o n m h)
theorem But2.of_same {a b : Addr} {H H' : Hp} (x : Same H H') : But2 a b H H' := fun c o _ _ h => x c o h
theorem But2.l {a b : Addr} {H H' : Hp} (x : But a H H') : But2 a b H H' := fun c o n _ h => x c o n h
theorem But2.r {a b : Addr} {H H' : Hp} (x : But b H H') : But2 a b H H' := fun c o _ n h => x c o n h
theorem same_of_but2 {a b : Addr} {H H1 H2 : Hp} (s : Same H H1) (n : H a = none) (m : H b = none) (x : But2 a b H1 H2) : Same H H2 := fun c o h => x c o (ne_of_none h n) (ne_of_none h m) (s c o h)
theorem TK.but2 {a b : Addr} {H H' : Hp} {xs : List V} {kv : List (Key × V)} (s : But2 a b H H') (h : H a = some (.lst xs)) (g : H b = some (.dK kv)) : TK H H' :=
  ⟨fun c ys hc => s c _ (ne_of hc h (by intro z; cases z)) (ne_of hc g (by intro z; cases z)) hc, fun c o ys hc => s c _ (ne_of hc h (by intro z; cases z)) (ne_of hc g (by intro z; cases z)) hc⟩
/-! ### last items -/
theorem paired_snoc_inv {α β : Type} {F : α → β → Prop} {b : β} : ∀ {l : List α} {m : List β}, Paired F l (m ++ [b]) → ∃ l' a, l = l' ++ [a] ∧ Paired F l' m ∧ F a b
  | [], [], h => nomatch h
  | [], _ :: _, h => nomatch h
  | a :: [], [], .cons h .nil => ⟨[], a, rfl, .nil, h⟩
  | _ :: _ :: _, [], .cons h t => nomatch t
  | a :: l, c :: m, .cons h t => by
    obtain ⟨l', x, e, p, q⟩ := paired_snoc_inv (l := l) (m := m) t
    exact ⟨a :: l', x, by rw [e]; rfl, .cons h p, q⟩
theorem last_get {α : Type} (l : List α) (a : α) : (l ++ [a])[(l ++ [a]).length - 1]? = some a := by simp
/-! ### a for over enumerate, two names -/
theorem for_enum {K : PySem.W.Frag} {a : Addr} {xs : List V} {i j : Nat} {tb : TS} {D : Ends} {σ : L2.St} {H : Hp} (Pv : Nat → L2.St → Hp → Prop) (h0 : Pv 0 σ H) (hl : ∀ n σ H, n ≤ xs.length → Pv n σ H → SqL K H a xs)
    (hs : ∀ n x T σ H, xs[n]? = some x → Pv n σ H → H T = none → tb { D with nx := Pv (n + 1), ct := Pv (n + 1), bk := D.nx } ((σ.set i (some (.int n))).set j (some x)) (upd H T (.tup [.int n, x]))) (hd : ∀ σ H, Pv xs.length σ H → D.nx σ H) :
    ∃ W : Nat → Nat → L2.St → Hp → Prop, (∃ m, W 0 m σ H) ∧ ∀ n m σ H, W n m σ H →
      ((Ite K a).stop n H ∧ D.nx σ H) ∨ ((Ite K a).go n H ∧ ∃ N : L2.St → Hp → Prop, (∀ σ' H', N σ' H' → ∃ m', m' < m ∧ W (n + 1) m' σ' H') ∧
        ∀ x H', (Ite K a).yld n H x H' → gTup K 2 (gCons (gName i) (gCons (gName j) gNil)) x σ H' fun σ2 H2 => tb { D with nx := N, ct := N, bk := D.nx } σ2 H2) :=
  for_it (walk_enum (K := K) (a := a) (xs := xs)) Pv h0 hl (fun n x σ H H' hn p y => by
    obtain ⟨T, u, v, rfl, hT, rfl, hu, hv⟩ := y
    cases Option.some.inj hu
    exact ⟨T, [.int n, v], rfl, SqT.of upd_same, rfl, _, _, rfl, _, _, rfl, rfl, hs n v T σ H hv p hT⟩) hd
/-! ### cuts -/
theorem cutV_to (xs : List V) (j : Int) (h : 0 ≤ j) : cutV xs none (some j) = xs.take j.toNat := by
  obtain ⟨n, rfl⟩ := Int.eq_ofNat_of_zero_le h
  unfold cutV
  rw [HT.sIx_none, HT.sIx_nat, Int.toNat_natCast, List.drop_zero, Nat.sub_zero]
  by_cases c : n ≤ xs.length
  · rw [Nat.min_eq_left c]
  · rw [Nat.min_eq_right (by omega), List.take_of_length_le (Nat.le_refl _), List.take_of_length_le (by omega)]
theorem cutV_from (xs : List V) (j : Int) (h : 0 ≤ j) : cutV xs (some j) none = xs.drop j.toNat := by
  obtain ⟨n, rfl⟩ := Int.eq_ofNat_of_zero_le h
  unfold cutV
  rw [HT.sIx_none, HT.sIx_nat, Int.toNat_natCast]
  by_cases c : n ≤ xs.length
  · rw [Nat.min_eq_left c, List.take_of_length_le (by rw [List.length_drop]; omega)]
  · rw [Nat.min_eq_right (by omega), List.drop_eq_nil_of_le (Nat.le_refl _), List.drop_eq_nil_of_le (by omega), List.take_nil]
/-! ### depths as they are drawn -/
def Dvp (ds : List Int) (ab : Int) : Prop := (ds = [] ∧ ab = 0) ∨ (ds ≠ [] ∧ Dv ds ∧ ab = dg ds (ds.length - 1))
theorem dg_app_l {ds es : List Int} {i : Nat} (h : i < ds.length) : dg (ds ++ es) i = dg ds i := by
  unfold dg
  rw [List.getD_eq_getElem?_getD, List.getD_eq_getElem?_getD, List.getElem?_append_left h]
theorem dg_app_r (ds : List Int) (d : Int) : dg (ds ++ [d]) ds.length = d := by
  unfold dg
  rw [List.getD_eq_getElem?_getD, List.getElem?_append_right (Nat.le_refl _)]
  simp
theorem Dvp.nil : Dvp [] 0 := .inl ⟨rfl, rfl⟩
theorem Dvp.nonneg {ds : List Int} {ab : Int} (h : Dvp ds ab) : 0 ≤ ab := by
  rcases h with ⟨_, rfl⟩ | ⟨hn, hd, rfl⟩
  · decide
  · have := hd.pos (ds.length - 1) (by have := List.length_pos_iff.mpr hn; omega)
    omega
theorem Dvp.zero {ds : List Int} {ab : Int} (h : Dvp ds ab) (e : ab = 0) : ds = [] := by
  rcases h with ⟨h, _⟩ | ⟨hn, hd, rfl⟩
  · exact h
  · have := hd.pos (ds.length - 1) (by have := List.length_pos_iff.mpr hn; omega)
    omega
theorem Dvp.snoc {ds : List Int} {ab d : Int} (h : Dvp ds ab) (h0 : ab = 0 → d = 1) (h1 : 0 < ab → 2 ≤ d ∧ d ≤ ab + 1) : Dvp (ds ++ [d]) d := by
  refine .inr ⟨by simp, ?_, by rw [List.length_append, List.length_singleton, Nat.add_sub_cancel, dg_app_r]⟩
  rcases h with ⟨rfl, e⟩ | ⟨hn, hd, e⟩
  · refine ⟨?_, fun i hi => by simp at hi⟩
    show d = 1
    exact h0 e
  · have hl := List.length_pos_iff.mpr hn
    refine ⟨by rw [dg_app_l hl]; exact hd.one, fun i hi => ?_⟩
    rw [List.length_append, List.length_singleton] at hi
    by_cases c : i + 1 < ds.length
    · rw [dg_app_l c, dg_app_l (by omega)]
      exact hd.two i c
    · have ei : i + 1 = ds.length := by omega
      rw [ei, dg_app_r, dg_app_l (by omega)]
      have hp := hd.pos (ds.length - 1) (by omega)
      have := h1 (by omega)
      rw [e, show ds.length - 1 = i by omega] at this
      exact this
theorem Dvp.dv {ds : List Int} {ab : Int} (h : Dvp ds ab) (hn : 1 ≤ ds.length) : Dv ds := by
  rcases h with ⟨rfl, _⟩ | ⟨_, hd, _⟩
  · simp at hn
  · exact hd
/-! ### dicts of pairs -/
def has2 (kv : List (List Key × V)) (u k : Int) : Prop := (valV kv [Sum.inl u, Sum.inl k]).isSome = true
def put2 (kv : List (List Key × V)) (u k : Int) : List (List Key × V) := putK kv [Sum.inl u, Sum.inl k] (.bl true)
theorem has2_put (kv : List (List Key × V)) (u k a b : Int) : has2 (put2 kv a b) u k ↔ (u = a ∧ k = b) ∨ has2 kv u k := by
  unfold has2 put2
  rw [valV_put]
  by_cases e : u = a ∧ k = b
  · obtain ⟨rfl, rfl⟩ := e; simp
  · have : ¬ ([Sum.inl u, Sum.inl k] : List Key) = [Sum.inl a, Sum.inl b] := fun z => e (by
      injection z with z1 z2
      injection z2 with z3 _
      exact ⟨Sum.inl.inj z1, Sum.inl.inj z3⟩)
    rw [if_neg this]
    simp [e]
theorem put2_len (kv : List (List Key × V)) (u k : Int) : (put2 kv u k).length ≤ kv.length + 1 := by
  unfold put2 putK
  split <;> simp
theorem has2_nil (u k : Int) : ¬ has2 [] u k := by
  unfold has2
  simp [valV]
/-- the pairs of a tree, the second below n -/
def Prs (ds : List Int) (w : Bool) (n : Nat) (kv : List (List Key × V)) : Prop := ∀ u k : Int, has2 kv u k ↔ ∃ a b : Nat, u = a ∧ k = b ∧ b < n ∧ Bn ds w a b
def om : Option Int → Nat
  | none => 0
  | some h => h.toNat + 1
/-- walked up to o -/
def Dn (a : Nat) : Option Int → Prop
  | none => True
  | some h => h < a
structure PWalk (ds : List Int) (w : Bool) (i : Nat) (o : Option Int) (kv : List (List Key × V)) : Prop where
  at_ : ∀ h, o = some h → ∃ n : Nat, h = n ∧ Bn ds w n i
  all : ∀ u k : Int, has2 kv u k ↔ (∃ a b : Nat, u = a ∧ k = b ∧ b < i ∧ Bn ds w a b) ∨ (∃ a : Nat, u = a ∧ k = i ∧ Bn ds w a i ∧ Dn a o)
theorem PWalk.start {ds : List Int} {w : Bool} {i : Nat} {o : Option Int} {kv : List (List Key × V)} (h : Prs ds w i kv) (u : UpAt ds i o) : PWalk ds w i o kv := by
  cases o with
  | none => exact ⟨fun _ q => (nomatch q), fun a b => by
      rw [h a b]
      constructor
      · exact .inl
      · rintro (q | ⟨c, _, _, q, _⟩)
        · exact q
        · exact absurd q.1 (u c)⟩
  | some m =>
    obtain ⟨n, rfl, p⟩ := u
    refine ⟨fun _ q => ⟨n, (Option.some.inj q).symm, p.1, .inr p.2⟩, fun a b => ?_⟩
    rw [h a b]
    constructor
    · exact .inl
    · rintro (q | ⟨c, _, _, q, d⟩)
      · exact q
      · have d : (n : Int) < c := d
        rcases (p.all c).mp q.1 with e | e
        · omega
        · have := e.1
          omega
theorem PWalk.end_ {ds : List Int} {w : Bool} {i : Nat} {kv : List (List Key × V)} (h : PWalk ds w i none kv) : Prs ds w (i + 1) kv := by
  intro a b
  rw [h.all a b]
  constructor
  · rintro (⟨x, y, e1, e2, l, q⟩ | ⟨x, e1, e2, q, _⟩)
    · exact ⟨x, y, e1, e2, by omega, q⟩
    · exact ⟨x, i, e1, e2, by omega, q⟩
  · rintro ⟨x, y, e1, e2, l, q⟩
    by_cases c : y < i
    · exact .inl ⟨x, y, e1, e2, c, q⟩
    · have : y = i := by omega
      subst this
      exact .inr ⟨x, e1, e2, q, trivial⟩
theorem PWalk.step {ds : List Int} {w : Bool} {i : Nat} {n : Nat} {o : Option Int} {kv : List (List Key × V)} (h : PWalk ds w i (some (n : Int)) kv) (ho : w = true → UpAt ds n o) (hs : w = false → o = none) : PWalk ds w i o (put2 kv n i) := by
  obtain ⟨n', en, bn⟩ := h.at_ _ rfl
  have en : n = n' := by omega
  subst en
  refine ⟨fun m e => ?_, fun a b => ?_⟩
  · cases w with
    | false => rw [hs rfl] at e; cases e
    | true =>
      subst e
      obtain ⟨x, rfl, p⟩ := ho rfl
      exact ⟨x, rfl, p.1.trans bn.1, .inl rfl⟩
  · rw [has2_put, h.all a b]
    have key : ∀ c : Nat, Bn ds w c i → (Dn c o ↔ c = n ∨ (n : Int) < c) := by
      intro c q
      cases w with
      | false =>
        rw [hs rfl]
        have p1 : Par ds c i := ⟨q.1, by simpa using q.2⟩
        have p2 : Par ds n i := ⟨bn.1, by simpa using bn.2⟩
        simp [Dn, p2.only p1]
      | true =>
        have hu := ho rfl
        rcases Nat.lt_trichotomy c n with l | l | l
        · have acn : An ds c n := q.1.mid bn.1 l
          cases o with
          | none => exact absurd acn (hu c)
          | some m =>
            obtain ⟨x, rfl, p⟩ := hu
            show (x : Int) < c ↔ _
            rcases (p.all c).mp acn with e | e
            · omega
            · have := e.1; omega
        · subst l
          cases o with
          | none => simp [Dn]
          | some m =>
            obtain ⟨x, rfl, p⟩ := hu
            have := p.1.1
            show (x : Int) < c ↔ _
            omega
        · cases o with
          | none => simp [Dn]; omega
          | some m =>
            obtain ⟨x, rfl, p⟩ := hu
            have := p.1.1
            show (x : Int) < c ↔ _
            omega
    constructor
    · rintro (⟨rfl, rfl⟩ | q | ⟨x, e1, e2, q, d⟩)
      · exact .inr ⟨n, rfl, rfl, bn, (key n bn).mpr (.inl rfl)⟩
      · exact .inl q
      · exact .inr ⟨x, e1, e2, q, (key x q).mpr (.inr d)⟩
    · rintro (q | ⟨x, e1, e2, q, d⟩)
      · exact .inr (.inl q)
      · rcases (key x q).mp d with e | e
        · subst e
          exact .inl ⟨e1, e2⟩
        · exact .inr (.inr ⟨x, e1, e2, q, e⟩)
/-! ### a chain -/
def chain80 (n : Nat) : List Int := (List.range n).map fun (k : Nat) => if (80 : Int) < (k : Int) + 1 then 80 else (k : Int) + 1
theorem chain80_len (n : Nat) : (chain80 n).length = n := by simp [chain80]
theorem chain80_snoc (n : Nat) : chain80 (n + 1) = chain80 n ++ [if (80 : Int) < (n : Int) + 1 then 80 else (n : Int) + 1] := by
  unfold chain80
  rw [List.range_succ, List.map_append]
  rfl
theorem chain80_dg (n i : Nat) (h : i < n) : dg (chain80 n) i = if (80 : Int) < (i : Int) + 1 then 80 else (i : Int) + 1 := by
  refine dg_of ?_
  unfold chain80
  rw [List.getElem?_map, List.getElem?_range h]
  rfl
theorem chain80_dv (n : Nat) (h : 1 ≤ n) : Dv (chain80 n) := by
  refine ⟨by rw [chain80_dg n 0 h]; rfl, fun i hi => ?_⟩
  rw [chain80_len] at hi
  rw [chain80_dg n (i + 1) hi, chain80_dg n i (by omega)]
  constructor <;> split <;> (try split) <;> omega
/-! ### all stretches of a tree -/
structure AllS (ds : List Int) (ss : List S3) : Prop where
  len : ss.length = ds.length
  at_ : ∀ (k : Nat) (x : S3), ss[k]? = some x → ∃ e, EndP ds k e ∧ x = ((k : Int), (e : Int), dg ds k)
theorem AllS.isS {ds : List Int} {ss : List S3} (h : AllS ds ss) : ∀ x ∈ ss, IsS ds x := fun x hx => by
  obtain ⟨k, hk⟩ := List.getElem?_of_mem hx
  obtain ⟨e, he, rfl⟩ := h.at_ k x hk
  exact ⟨k, e, he, rfl⟩
theorem AllS.srt {ds : List Int} {ss : List S3} (h : AllS ds ss) : Srt ss := by
  unfold Srt
  rw [List.pairwise_iff_getElem]
  intro i j hi hj hij
  obtain ⟨e, _, h1⟩ := h.at_ i _ (List.getElem?_eq_getElem hi)
  obtain ⟨f, _, h2⟩ := h.at_ j _ (List.getElem?_eq_getElem hj)
  rw [h1, h2]
  show (i : Int) < j
  omega
theorem isS_nonneg {ds : List Int} {x : S3} (h : IsS ds x) : 0 ≤ x.1 := by
  obtain ⟨k, e, _, rfl⟩ := h
  show (0 : Int) ≤ k
  omega
theorem prs_bn {ds : List Int} {w : Bool} {kv : List (List Key × V)} (h : Prs ds w ds.length kv) {u l : S3} (hu : IsS ds u) (hl : IsS ds l) : has2 kv u.1 l.1 ↔ bn3 w u l := by
  obtain ⟨a, e, he, rfl⟩ := hu
  obtain ⟨b, f, hf, rfl⟩ := hl
  rw [h, bn_s he hf]
  constructor
  · rintro ⟨x, y, e1, e2, _, q⟩
    have e1 : (a : Int) = x := e1
    have e2 : (b : Int) = y := e2
    have : a = x := by omega
    have : b = y := by omega
    subst_vars
    exact q
  · intro q
    exact ⟨a, b, rfl, rfl, q.1.2.1, q⟩
theorem any_isEmpty {α : Type} (p : α → Bool) (l : List α) : (l.filter p).isEmpty = !l.any p := by
  induction l with
  | nil => rfl
  | cons a l ih =>
    rw [List.filter_cons, List.any_cons]
    cases h : p a with
    | true => rfl
    | false => simpa using ih
/-! ### the fields of Open -/
def opF (w : Str) (sl hd : Addr) : List (Str × V) := [("link", .str w), ("stack", .ref sl), ("having", .ref hd)]
theorem opF_link (w : Str) (sl hd : Addr) : (opF w sl hd).lookup ("link" : Str) = some (.str w) := rfl
theorem opF_stack (w : Str) (sl hd : Addr) : (opF w sl hd).lookup ("stack" : Str) = some (.ref sl) := rfl
theorem opF_having (w : Str) (sl hd : Addr) : (opF w sl hd).lookup ("having" : Str) = some (.ref hd) := rfl
theorem opF_put (w : Str) (sl hd : Addr) : putF "having" (.ref hd) (putF "stack" (.ref sl) (putF "link" (.str w) [])) = opF w sl hd := rfl
end Bg

/-! enumerate(t) of a tuple t: the layer's own rule for lists, turned to tuples -/
namespace PySem
open Sem (wp)
/-- the iterator of the tuple at t; the enumerate object over the iterator at i -/
def tIt (t : Addr) : Obj := { cls := .type "tuple_iterator", data := .fields #[.ref t, .int 0 0] }
def eOb (i : Addr) : Obj := { cls := .type "enumerate", data := .fields #[.none, .bool false, .ref i, rawInt 0, .none, .none] }
theorem meets_enumT (t : Addr) (its : Array Value) :
    Meets (Builtin.«enumerate.__new__» ⟨[.type "enumerate", .ref t], []⟩) (fun _ R s => s.heap.IsTuple t its ∧ R (.ok (.ret (.ref (s.heap.push (tIt t)).objs.size))) { s with heap := (s.heap.push (tIt t)).push (eOb s.heap.objs.size) }) :=
  .of_wp fun prog w A R s h => by
    obtain ⟨hp, g, d, tk, os⟩ := s
    obtain ⟨ht, h⟩ := h
    have hsub := sub_enumerate
    have it1 : ∀ {A' : Around} {E' : Value → Shared → Prop} {Q' : Value → Shared → Prop}, Q' (.ref hp.objs.size) ⟨hp.push (tIt t), g, d, tk, os⟩ → wpAny (model prog w) A' (pyIter (.ref t)) Q' E' ⟨hp, g, d, tk, os⟩ := fun q => wpAny_pyIter_tuple (s := ⟨hp, g, d, tk, os⟩) ht q
    wp_walk using it1
    refine wpAny_stack_any fun st => wpAny_pure ?_
    split
    · rename_i c _ _ _ _ _
      cases (c == Value.type "enumerate") <;> (wp_walk using it1; exact ⟨_, rfl, h⟩)
    · wp_walk using it1
      exact ⟨_, rfl, h⟩
theorem call_enumT {prog : Program} {w : World} {A : Around} {E : Value → Shared → Prop} {s : Shared} {t : Addr} {its : Array Value} {Q : Value → Shared → Prop} (ht : s.heap.IsTuple t its)
    (h : ∀ h', IsEnum h' (s.heap.objs.size + 1) s.heap.objs.size 0 .none → h'.IsTupleIter s.heap.objs.size t 0 → (∀ b o, s.heap.get? b = some o → h'.get? b = some o) → Q (.ref (s.heap.objs.size + 1)) { s with heap := h' }) :
    wpAny (model prog w) A (call (.type "enumerate") [.ref t]) Q E s := by
  refine callType_new F.called_enumerate (by decide) (F.typeCall_enumerate_1 _) (F.newCall_enumerate_1 _) (fun obj => F.args_object_init_2 obj _) F.entry_enumerate_new (meets_enumT t its) ⟨ht, ?_⟩
  have hz : (s.heap.push (tIt t)).objs.size = s.heap.objs.size + 1 := Heap.size_push ..
  show _ ∧ _
  rw [hz]
  have he : IsEnum ((s.heap.push (tIt t)).push (eOb s.heap.objs.size)) (s.heap.objs.size + 1) s.heap.objs.size 0 .none := by
    have q := Heap.get?_push_size (s.heap.push (tIt t)) (o := eOb s.heap.objs.size) rfl
    rw [hz] at q
    exact q
  exact ⟨⟨_, he, rfl⟩, h _ he ⟨_, Heap.get?_push_of_some _ (Heap.get?_push_size _ rfl), rfl, rfl⟩ fun b o x => Heap.get?_push_of_some _ (Heap.get?_push_of_some _ x)⟩
end PySem
namespace L2
open PySem PySem.Spec PyProof.Rows
/-- the tuple at a, each item in a new pair -/
def IteT (K : PySem.W.Frag) (a : Addr) : It :=
  ⟨fun i H => ∃ (xs : List V) (x : V), SqT K H a xs ∧ xs[i]? = some x, fun i H v H' => ∃ T x, v = .ref T ∧ H T = none ∧ H' = upd H T (.tup [.int (i : Nat), x]) ∧ ∀ xs, SqT K H a xs → xs[i]? = some x, fun i H => ∃ xs : List V, SqT K H a xs ∧ xs.length = i⟩
theorem turn_enumT {P : Program} {w : World} {K : PySem.W.Frag} {elts : List Expr} {kk : Nat} {tpos : Pos} (a e it : Addr) (hae : a ≠ e) (hai : a ≠ it) :
    Turn P w K (.Tuple elts kk tpos) (IteT K a) [e, it] e (fun i h => (∃ old, IsEnum h e it ((i : Nat) : Int) old) ∧ h.IsTupleIter it a i ∧ e ≠ it) where
  mem := by simp
  obj := fun i h st b hb => by
    obtain ⟨⟨old, he⟩, ⟨ob, ho, _, hd⟩, _⟩ := st
    have hb : b = e ∨ b = it := by simpa using hb
    rcases hb with rfl | rfl
    · exact ⟨_, he, fun v q => nomatch q⟩
    · exact ⟨ob, ho, fun v q => by rw [hd] at q; cases q⟩
  keep := fun i h h' st k => by
    obtain ⟨⟨old, he⟩, hi, hne⟩ := st
    exact ⟨⟨old, k e (by simp) _ he⟩, hi.at fun o q => k it (by simp) o q, hne⟩
  item := by
    intro X hP hw hK hc i pins s σ H E I hf st hg
    subst hP hw hK
    obtain ⟨⟨old, he⟩, hit, hne⟩ := st
    obtain ⟨xs, x, hq, hx⟩ := hg
    obtain ⟨its, rv, p, hz⟩ := I.tuple hq
    obtain ⟨u, hu, ru⟩ := rv.get hx
    have p' : s.heap.IsTuple a its.toArray := p
    have hel : e < s.heap.objs.size := Heap.lt_size he
    have hil : it < s.heap.objs.size := by obtain ⟨_, q, _⟩ := hit; exact Heap.lt_size q
    have hin : i < its.toArray.size := by simpa using (List.getElem?_eq_some_iff.mp hu).1
    refine wpAny_pyNext_enum_itemC (Draws.tuple (A := X.A.in1) (I.ok.hd hc) it a hai its.toArray) he ⟨hit, p'⟩ hin hne (by simp [hne, Ne.symm hae]) fun y h' tk hy ho hs' hT hsz hk => ?_
    obtain ⟨hit', _⟩ := hs'
    obtain rfl : u = y := by
      have q : its.toArray[i]? = some u := by simpa using hu
      exact Option.some.inj (q.symm.trans hy)
    refine ⟨_, rfl, wpAny_letOwnedTupleGo_enum (s := { s with heap := h', toks := tk + 1 }) ho fun h2 he' sb => ?_⟩
    have hT2 : h2.get? s.heap.objs.size = some { cls := .type "tuple", data := .seq #[.int i tk, u] } := (sb.2 _ (Nat.ne_of_gt hel)).trans hT
    have new : ObjOk X.prog X.w (upd H s.heap.objs.size (.tup [.int (i : Nat), x])) h2 s.heap.objs.size (.tup [.int (i : Nat), x]) := ⟨by show 2 ≤ sizeLine; decide, [.int i tk, u], .cons ⟨_, rfl⟩ (.cons ru .nil), ⟨_, hT2, rfl, _, rfl⟩⟩
    have J : Inv X pins σ (upd H s.heap.objs.size (.tup [.int (i : Nat), x])) { s with heap := h2, toks := tk + 1 } :=
      I.turnedNew (ch := [e, it]) (fun b ob hb q => (sb.2 b (fun z => hb (by simp [z]))).trans (hk b ob (fun z => hb (by simp [z])) (fun z => hb (by simp [z])) q)) hf (Nat.le_refl _) new
    refine ⟨.ref s.heap.objs.size, _, J, rfl, ⟨_, x, rfl, I.hok.fresh (Nat.le_refl _), rfl, fun ys hy => by rw [I.tuple_inj hy hq]; exact hx⟩, ⟨⟨u, ?_⟩, hit'.at fun o q => (sb.2 it (Ne.symm hne)).trans q, hne⟩, fun b hb => ?_⟩
    · rw [show ((i + 1 : Nat) : Int) = (i : Int) + 1 by omega]
      exact he'
    · have hbl : b < s.heap.objs.size := by
        have hb : b = e ∨ b = it := by simpa using hb
        rcases hb with rfl | rfl
        · exact hel
        · exact hil
      rw [upd_ne (Nat.ne_of_lt hbl)]
      exact (hf b hb).1
  done := by
    intro X hP hw hK hc i pins s σ H E I hf st hg
    subst hP hw hK
    obtain ⟨⟨old, he⟩, hit, hne⟩ := st
    obtain ⟨xs, hq, hx⟩ := hg
    obtain ⟨its, rv, p, hz⟩ := I.tuple hq
    have p' : s.heap.IsTuple a its.toArray := p
    have hl : its.toArray.size = i := by
      rw [List.size_toArray, ← rv.length]
      exact hx
    obtain ⟨f0, f1, f2, f3, f4, f5⟩ := hf it (by simp)
    have st2 : s.heap.IsTupleIter it a its.toArray.size ∧ s.heap.IsTuple a its.toArray := ⟨by rw [hl]; exact hit, p'⟩
    exact wpAny_pyNext_enum_endD (Draws.tuple (A := X.A.in1) (I.ok.hd hc) it a hai its.toArray) he st2 fun h' eb => ⟨rfl, I.turned (t' := s.toks) (fun b o hb q => eb b o hb q) f0 f1 f3 f4 f5⟩
  self := fun A i s Q E st h => by
    obtain ⟨⟨_, he⟩, _⟩ := st
    exact wpAny_pyIter_enum he h
def iEnumT (K : PySem.W.Frag) (ta : TA) : TI := fun σ H R => ta σ H fun vs H1 => ∃ a xs, vs = [.ref a] ∧ SqT K H1 a xs ∧ R (IteT K a) H1
theorem pi_enumT {X : Cx} {e : Expr} {ta : TA} {p pos tpos : Pos} {elts : List Expr} {kk : Nat} (hg : Gl X "enumerate") (hm : X.mg "enumerate" = none) (ha : PA X [e] ta) (hs : starEach [e] X.env = [(false, eval e X.env)] := by rfl) :
    PI X (.Tuple elts kk tpos) (.Call (.Name "enumerate" p) [e] [] pos) (iEnumT X.K ta) := by
  refine ⟨fun pins s σ H R I h => ?_⟩
  refine Call_ (ld_blt I hg hm boot_enumerate (PyProof.Rows.callWith_type1 (thn (ha.run pos pins s σ H _ I h) fun us s1 ⟨vs, H1, I1, r1, q1⟩ => ?_) hs rfl))
  obtain ⟨a, xs, rfl, hq, q⟩ := q1
  cases r1 with
  | cons r rr =>
    cases rr
    cases r
    obtain ⟨its, rv, p', hz⟩ := I1.tuple hq
    have hal : a < s1.heap.objs.size := by
      obtain ⟨o, ho, _⟩ := p'
      exact Heap.lt_size ho
    refine call_enumT (t := a) (its := its.toArray) p' fun h' he hit hk => wpAny_pyIter_enum he ?_
    have J : Inv X pins σ H1 { s1 with heap := h' } := I1.kept (t' := s1.toks) hk
    refine ⟨s1.heap.objs.size + 1, [s1.heap.objs.size + 1, s1.heap.objs.size], _, _, H1, rfl, J, turn_enumT a (s1.heap.objs.size + 1) s1.heap.objs.size (Nat.ne_of_lt (Nat.lt_succ_of_lt hal)) (Nat.ne_of_lt hal), ⟨⟨.none, he⟩, hit, Nat.succ_ne_self _⟩, fun b hb => ?_, q⟩
    have hle : s1.heap.objs.size ≤ b := by
      have hb : b = s1.heap.objs.size + 1 ∨ b = s1.heap.objs.size := by simpa using hb
      rcases hb with rfl | rfl
      · exact Nat.le_succ _
      · exact Nat.le_refl _
    exact I1.fpOk hle (I1.hok.fresh hle)
theorem walk_enumT {K : PySem.W.Frag} {a : Addr} {xs : List V} : Walk (IteT K a) xs.length (fun H => SqT K H a xs) (YPair (fun i => some (.int (i : Nat))) (fun i => xs[i]?)) where
  goes := fun i H hi h => ⟨xs, xs[i], h, List.getElem?_eq_getElem hi⟩
  stops := fun H h => ⟨xs, h, rfl⟩
  yields := fun i H v H' hi h y => by
    obtain ⟨T, x, rfl, hT, rfl, hx⟩ := y
    exact ⟨T, _, x, rfl, hT, rfl, rfl, hx xs h⟩
end L2
namespace Bg
open PySem PySem.Spec PyProof.Rows L2
/-- a comprehension over enumerate of a tuple | a list, two names -/
theorem lc_enumT {K : PySem.W.Frag} {a : Addr} {xs : List V} {i j : Nat} {tt : TT} {te : TE} {vs : List Nat} {σ : L2.St} {H1 : Hp} {D : Addr} {Qd : Hp → Prop} (Pv : Nat → Hp → Prop) (h0 : Pv 0 (upd H1 D (.lst []))) (hl : ∀ n H, n ≤ xs.length → Pv n H → SqT K H a xs)
    (hs : ∀ n x T H, xs[n]? = some x → Pv n H → H T = none → wipe (((wipe σ vs).set i (some (.int n))).set j (some x)) vs = wipe σ vs ∧ tt (((wipe σ vs).set i (some (.int n))).set j (some x)) (upd H T (.tup [.int n, x])) fun b H3 =>
      if b = true then te (((wipe σ vs).set i (some (.int n))).set j (some x)) H3 fun y H4 => ∃ acc, H4 D = some (.lst acc) ∧ acc.length < sizeLine ∧ Pv (n + 1) (upd H4 D (.lst (acc ++ [y]))) else Pv (n + 1) H3) (hd : ∀ H, Pv xs.length H → Qd H) :
    ∃ W : Nat → Nat → Hp → Prop, (∃ m, W 0 m (upd H1 D (.lst []))) ∧ ∀ n m H, W n m H →
      ((IteT K a).stop n H ∧ Qd H) ∨ ((IteT K a).go n H ∧ ∃ Nx : Hp → Prop, (∀ H', Nx H' → ∃ m', m' < m ∧ W (n + 1) m' H') ∧ ∀ x H', (IteT K a).yld n H x H' → gTup K 2 (gCons (gName i) (gCons (gName j) gNil)) x (wipe σ vs) H' fun σ2 H2 => wipe σ2 vs = wipe σ vs ∧ tt σ2 H2 fun b H3 =>
        if b = true then te σ2 H3 fun y H4 => ∃ acc, H4 D = some (.lst acc) ∧ acc.length < sizeLine ∧ Nx (upd H4 D (.lst (acc ++ [y]))) else Nx H3) :=
  lc_it (walk_enumT (K := K) (a := a) (xs := xs)) Pv h0 hl (fun n x H H' hn p y => by
    obtain ⟨T, u, v, rfl, hT, rfl, hu, hv⟩ := y
    cases Option.some.inj hu
    exact ⟨T, [.int n, v], rfl, SqT.of upd_same, rfl, _, _, rfl, _, _, rfl, rfl, hs n v T H hv p hT⟩) hd
end Bg

namespace Bg
open PySem PySem.Spec PyProof.Rows L2
/-! ### labels are plain texts -/
theorem label_len {z : Str} (h : labelB z = true) : 1 ≤ z.length ∧ z.length ≤ 8 := by
  unfold labelB at h
  simp only [Bool.and_eq_true, decide_eq_true_iff] at h
  exact h.1
theorem label_ok {z : Str} (h : labelB z = true) : PyData.strOk z = true := by
  unfold labelB at h
  simp only [Bool.and_eq_true, decide_eq_true_iff] at h
  have h2 := h.2
  unfold PyData.strOk
  rw [Array.all_eq_true']
  intro c hc
  have := List.all_eq_true.mp h2 c (by simpa using hc)
  unfold isLow at this
  simp only [Bool.and_eq_true, decide_eq_true_iff] at this
  exact decide_eq_true (by omega)
theorem gd_row {x : Str × Int} (h : labelB x.1 = true) : Gd 1 (eRow x) := by
  have := label_ok h
  refine ⟨?_, by show _ ≤ 1; simp [eRow, PyData.depth, PyData.depthAll]⟩
  simp [eRow, PyData.canLay0, PyData.canLayAll0, this]
/-! ### within -/
def withinV : V → Int → Int → Bool
  | .int i, lo, hi => decide (lo ≤ i) && decide (i ≤ hi)
  | _, _, _ => false
theorem Knd.int_of {K : PySem.W.Frag} {H : Hp} {v : V} {t : String} (h : Knd K H v t) (e : t = "int") : ∃ i, v = .int i := by
  subst e
  obtain ⟨h, _⟩ := h
  generalize ht : Value.type "int" = tv at h
  cases h with
  | base b =>
    cases b with
    | int x => exact ⟨x, rfl⟩
    | _ => first | (injection ht with q; exact absurd q (by decide)) | cases ht
  | _ => first | (injection ht with q; exact absurd q (by decide)) | cases ht
theorem Knd.no_int {K : PySem.W.Frag} {H : Hp} {v : V} {t : String} (h : Knd K H v t) (e : t ≠ "int") (lo hi : Int) : withinV v lo hi = false := by
  cases v with
  | int z =>
    obtain ⟨h, _⟩ := h
    generalize ht : Value.type t = tv at h
    cases h with
    | base b =>
      cases b with
      | int x => injection ht with q; exact absurd q e
  | _ => rfl
theorem ty_sqT {K : PySem.W.Frag} {H : Hp} {a : Addr} {xs : List V} (h : SqT K H a xs) : TyX K H (.ref a) (.type "tuple") := by
  rcases h with (h | ⟨o, h⟩) | h
  · exact .base (.tup h)
  · exact .fTuple h
  · obtain ⟨o, its, n, h1, h2, _⟩ := h
    exact .kTuple h1 h2
theorem ty_sqL {K : PySem.W.Frag} {H : Hp} {a : Addr} {xs : List V} (h : SqL K H a xs) : TyX K H (.ref a) (.type "list") := by
  rcases h with (h | ⟨o, h⟩) | h
  · exact .base (.lst h)
  · exact .base (.frz h)
  · obtain ⟨o, its, n, h1, h2, _⟩ := h
    exact .kList h1 h2
/-! ### ends -/
structure EndsOk (ds : List Int) (es : List Int) : Prop where
  len : es.length = ds.length
  at_ : ∀ (k : Nat) (e : Int), es[k]? = some e → ∃ n : Nat, e = n ∧ EndP ds k n
/-- those ahead of p whose ends are told: all that are not open -/
def EI (ds : List Int) (p : Nat) (fs : List Int) (op : List Int) : Prop := fs.length = ds.length ∧ ∀ k : Nat, k < p → (k : Int) ∉ op → ∃ e : Nat, fs[k]? = some (e : Int) ∧ EndP ds k e
theorem EI.pop {ds : List Int} {p q : Nat} {fs op : List Int} {n : Nat} (h : EI ds p fs (op ++ [(n : Int)])) (hp : p = q + 1) (hq : q < ds.length) (hn : n = q ∨ An ds n q) (hout : q + 1 < ds.length → ¬ dg ds n < dg ds (q + 1)) : EI ds p (fs.set n (q : Int)) op := by
  have hnq : n ≤ q := by
    rcases hn with rfl | a
    · exact Nat.le_refl _
    · exact Nat.le_of_lt a.1
  refine ⟨by rw [List.length_set]; exact h.1, fun k hk hko => ?_⟩
  by_cases c : k = n
  · subst c
    refine ⟨q, List.getElem?_set_self (by rw [h.1]; omega), ⟨hnq, hq, fun j h1 h2 => ?_, hout⟩⟩
    rcases hn with rfl | a
    · omega
    · exact a.2.2 j h1 h2
  · rw [List.getElem?_set_ne (Ne.symm c)]
    refine h.2 k hk fun z => ?_
    rcases List.mem_append.mp z with z | z
    · exact hko z
    · have := List.mem_singleton.mp z
      omega
theorem EI.push {ds : List Int} {p : Nat} {fs op : List Int} (h : EI ds p fs op) : EI ds (p + 1) fs (op ++ [(p : Int)]) := by
  refine ⟨h.1, fun k hk hko => ?_⟩
  have hne : k ≠ p := fun z => hko (by rw [z]; simp)
  exact h.2 k (by omega) fun z => hko (List.mem_append_left _ z)
theorem EI.done_ {ds : List Int} {fs : List Int} (h : EI ds ds.length fs []) : EndsOk ds fs := by
  refine ⟨h.1, fun k e hk => ?_⟩
  have hlt := (List.getElem?_eq_some_iff.mp hk).1
  obtain ⟨n, hn, hp⟩ := h.2 k (by rw [← h.1]; exact hlt) (by simp)
  rw [hk] at hn
  exact ⟨n, Option.some.inj hn, hp⟩
theorem flat_rep (n : Nat) (v : V) : (List.replicate n [v]).flatten = List.replicate n v := by
  induction n with
  | zero => rfl
  | succ n ih => rw [List.replicate_succ, List.flatten_cons, ih]; rfl
theorem line_snoc {ds : List Int} {k : Nat} {ln : List Int} (l : Line ds k ln) : ∀ j, j < ln.length → ∃ n : Nat, ln[j]? = some (n : Int) ∧ dg ds n = (j : Int) + 1 ∧ (n = k ∨ An ds n k) := fun j hj => by
  obtain ⟨n, e, h⟩ := l.at_ j _ (List.getElem?_eq_getElem hj)
  exact ⟨n, by rw [List.getElem?_eq_getElem hj, e], h⟩
/-! ### documents -/
def dps (rows : List (Str × Int)) : List Int := rows.map (·.2)
structure DocOk (rows : List (Str × Int)) : Prop where
  one : 1 ≤ rows.length
  most : rows.length ≤ 240
  lab : ∀ r ∈ rows, labelB r.1 = true
  dv : Dv (dps rows)
  deep : ∀ r ∈ rows, r.2 ≤ 80
theorem dps_len (rows : List (Str × Int)) : (dps rows).length = rows.length := List.length_map ..
theorem dps_at {rows : List (Str × Int)} {k : Nat} {r : Str × Int} (h : rows[k]? = some r) : dg (dps rows) k = r.2 := dg_of (by unfold dps; rw [List.getElem?_map, h]; rfl)
def docF (t e u : Addr) : List (Str × V) := [("parts", .ref t), ("ends", .ref e), ("uppers", .ref u)]
theorem docF_parts (t e u : Addr) : (docF t e u).lookup ("parts" : Str) = some (.ref t) := rfl
theorem docF_ends (t e u : Addr) : (docF t e u).lookup ("ends" : Str) = some (.ref e) := rfl
theorem docF_uppers (t e u : Addr) : (docF t e u).lookup ("uppers" : Str) = some (.ref u) := rfl
theorem docF_put (t e u : Addr) : putF "uppers" (.ref u) (putF "ends" (.ref e) (putF "parts" (.ref t) [])) = docF t e u := rfl
structure DocIn (K : PySem.W.Frag) (H : Hp) (a : Addr) (rows : List (Str × Int)) (dx t e u : Addr) (tv : List V) (es : List Int) (us : List (Option Int)) : Prop where
  ob : H a = some (.ins (He.ga K "Document") dx (docF t e u))
  tp : H t = some (.tup tv)
  pl : PL K H eRow tv rows
  en : H e = some (.lst (es.map V.int))
  up : H u = some (.lst (us.map vOpt))
  eo : EndsOk (dps rows) es
  uo : UpOk (dps rows) us
  ok : DocOk rows
def DocAt (K : PySem.W.Frag) (H : Hp) (a : Addr) (rows : List (Str × Int)) : Prop := ∃ dx t e u tv es us, DocIn K H a rows dx t e u tv es us
theorem DocIn.same {K : PySem.W.Frag} {H H' : Hp} {a : Addr} {rows : List (Str × Int)} {dx t e u : Addr} {tv : List V} {es : List Int} {us : List (Option Int)} (h : DocIn K H a rows dx t e u tv es us) (s : Same H H') : DocIn K H' a rows dx t e u tv es us :=
  ⟨s _ _ h.ob, s _ _ h.tp, h.pl.same s, s _ _ h.en, s _ _ h.up, h.eo, h.uo, h.ok⟩
theorem DocAt.same {K : PySem.W.Frag} {H H' : Hp} {a : Addr} {rows : List (Str × Int)} (h : DocAt K H a rows) (s : Same H H') : DocAt K H' a rows := by
  obtain ⟨dx, t, e, u, tv, es, us, h⟩ := h
  exact ⟨dx, t, e, u, tv, es, us, h.same s⟩
theorem DocAt.ok {K : PySem.W.Frag} {H : Hp} {a : Addr} {rows : List (Str × Int)} (h : DocAt K H a rows) : DocOk rows := by
  obtain ⟨dx, t, e, u, tv, es, us, h⟩ := h
  exact h.ok
theorem DocAt.butD {K : PySem.W.Frag} {H H' : Hp} {a b : Addr} {rows : List (Str × Int)} {kv : List (Key × V)} (h : DocAt K H a rows) (s : But b H H') (hb : H b = some (.dK kv)) : DocAt K H' a rows := by
  obtain ⟨dx, t, e, u, tv, es, us, h⟩ := h
  have n : ∀ c o, H c = some o → (∀ kv, o ≠ .dK kv) → H' c = some o := fun c o q d => s c o (ne_of q hb fun z => d _ z) q
  exact ⟨dx, t, e, u, tv, es, us, n _ _ h.ob (fun _ z => nomatch z), n _ _ h.tp (fun _ z => nomatch z), h.pl.tk (TK.butD s hb) flat_row, n _ _ h.en (fun _ z => nomatch z), n _ _ h.up (fun _ z => nomatch z), h.eo, h.uo, h.ok⟩
theorem no_many (t e u : Addr) {m : Str} (h1 : ¬ m = "parts") (h2 : ¬ m = "ends") (h3 : ¬ m = "uppers") : (docF t e u).lookup m = none := by
  have e1 : (m == ("parts" : Str)) = false := by simpa using h1
  have e2 : (m == ("ends" : Str)) = false := by simpa using h2
  have e3 : (m == ("uppers" : Str)) = false := by simpa using h3
  simp [docF, List.lookup, e1, e2, e3]
/-- the answers of a document, as the rows tell them -/
theorem DocIn.end_at {K : PySem.W.Frag} {H : Hp} {a : Addr} {rows : List (Str × Int)} {dx t e u : Addr} {tv : List V} {es : List Int} {us : List (Option Int)} (h : DocIn K H a rows dx t e u tv es us) {k : Nat} (hk : k < rows.length) : ∃ n : Nat, (es.map V.int)[k]? = some (.int (n : Int)) ∧ EndP (dps rows) k n := by
  have hl : k < es.length := by rw [h.eo.len, dps_len]; exact hk
  obtain ⟨n, e1, e2⟩ := h.eo.at_ k _ (List.getElem?_eq_getElem hl)
  exact ⟨n, by rw [List.getElem?_map, List.getElem?_eq_getElem hl, e1]; rfl, e2⟩
theorem DocIn.up_at {K : PySem.W.Frag} {H : Hp} {a : Addr} {rows : List (Str × Int)} {dx t e u : Addr} {tv : List V} {es : List Int} {us : List (Option Int)} (h : DocIn K H a rows dx t e u tv es us) {k : Nat} (hk : k < rows.length) : ∃ o, (us.map vOpt)[k]? = some (vOpt o) ∧ UpAt (dps rows) k o := by
  have hl : k < us.length := by rw [h.uo.len, dps_len]; exact hk
  exact ⟨us[k], by rw [List.getElem?_map, List.getElem?_eq_getElem hl]; rfl, h.uo.at_ k _ (List.getElem?_eq_getElem hl)⟩
/-- the lowers of a part -/
def lowers (ds : List Int) (k e : Nat) (us : List (Option Int)) : List Int := ((List.range (e - k)).map fun (i : Nat) => ((k + 1 + i : Nat) : Int)).filter fun o => decide (us[o.toNat]? = some (some (k : Int)))
end Bg

namespace Bg
open PySem PySem.Spec PyProof.Rows L2
/-! ### comprehensions that change nothing -/
theorem lc_keep {α : Type} {J : It} {n : Nat} {G : Hp → Prop} {Y : Nat → Hp → V → Hp → Prop} (w : Walk J n G Y) {g : TG} {tt : TT} {te : TE} {vs : List Nat} {σ : L2.St} {H1 : Hp} {D : Addr} {Qd : Hp → Prop} {zs : List α} (hn : zs.length = n) (keep : α → Bool) (out : α → V)
    (hD : H1 D = none) (hG : ∀ H', Same H1 H' → G H') (hsz : n < 16777216)
    (hs : ∀ i x z H' H'' (N : Hp → Prop) (YY : V → Hp → Prop), zs[i]? = some z → Same H1 H' → Y i H' x H'' → (∀ H3, Same H' H3 → keep z = false → N H3) → (∀ H4, Same H' H4 → keep z = true → YY (out z) H4) →
      g x (wipe σ vs) H'' fun σ2 H2 => wipe σ2 vs = wipe σ vs ∧ tt σ2 H2 fun b H3 => if b = true then te σ2 H3 YY else N H3)
    (hd : ∀ H', Same H1 H' → H' D = some (.lst ((zs.filter keep).map out)) → Qd H') :
    ∃ W : Nat → Nat → Hp → Prop, (∃ m, W 0 m (upd H1 D (.lst []))) ∧ ∀ i m H, W i m H →
      (J.stop i H ∧ Qd H) ∨ (J.go i H ∧ ∃ Nx : Hp → Prop, (∀ H', Nx H' → ∃ m', m' < m ∧ W (i + 1) m' H') ∧ ∀ x H', J.yld i H x H' → g x (wipe σ vs) H' fun σ2 H2 => wipe σ2 vs = wipe σ vs ∧ tt σ2 H2 fun b H3 =>
        if b = true then te σ2 H3 fun y H4 => ∃ acc, H4 D = some (.lst acc) ∧ acc.length < sizeLine ∧ Nx (upd H4 D (.lst (acc ++ [y]))) else Nx H3) := by
  refine lc_it w (fun i H' => Same H1 H' ∧ H' D = some (.lst (((zs.take i).filter keep).map out))) ⟨L2.Same.new hD, upd_same⟩ (fun i H' _ q => hG H' q.1) ?_ ?_
  · rintro i x H' H'' hi ⟨s, h⟩ y
    have hlt : i < zs.length := by omega
    have hz := List.getElem?_eq_getElem hlt
    refine hs i x zs[i] H' H'' _ _ hz s y (fun H3 s3 hk => ⟨s.trans s3, ?_⟩) (fun H4 s4 hk => ⟨_, s4 _ _ h, ?_, (s.trans s4).mut hD, ?_⟩)
    · rw [take_snoc hz, List.filter_append]
      rw [show [zs[i]].filter keep = [] by simp [hk], List.append_nil]
      exact s3 _ _ h
    · refine szl ?_
      rw [List.length_map]
      have := List.length_filter_le keep (zs.take i)
      rw [List.length_take] at this
      omega
    · rw [upd_same, take_snoc hz, List.filter_append]
      simp only [List.filter_cons, hk, List.filter_nil, if_true, List.map_append]
      rfl
  · rintro H' ⟨s, h⟩
    refine hd H' s ?_
    rw [h, List.take_of_length_le (by omega)]
/-- over a list -/
theorem lc_keepL {α : Type} {K : PySem.W.Frag} {a : Addr} {xs : List V} {F : V → α → Prop} {zs : List α} {g : TG} {tt : TT} {te : TE} {vs : List Nat} {σ : L2.St} {H1 : Hp} {D : Addr} {Qd : Hp → Prop} (keep : α → Bool) (out : α → V) (hp : Paired F xs zs)
    (hD : H1 D = none) (hl : SqL K H1 a xs) (hsz : zs.length < 16777216)
    (hs : ∀ x z H' (N : Hp → Prop) (YY : V → Hp → Prop), F x z → z ∈ zs → Same H1 H' → (∀ H3, Same H' H3 → keep z = false → N H3) → (∀ H4, Same H' H4 → keep z = true → YY (out z) H4) →
      g x (wipe σ vs) H' fun σ2 H2 => wipe σ2 vs = wipe σ vs ∧ tt σ2 H2 fun b H3 => if b = true then te σ2 H3 YY else N H3)
    (hd : ∀ H', Same H1 H' → H' D = some (.lst ((zs.filter keep).map out)) → Qd H') :
    ∃ W : Nat → Nat → Hp → Prop, (∃ m, W 0 m (upd H1 D (.lst []))) ∧ ∀ i m H, W i m H →
      ((Itl K a).stop i H ∧ Qd H) ∨ ((Itl K a).go i H ∧ ∃ Nx : Hp → Prop, (∀ H', Nx H' → ∃ m', m' < m ∧ W (i + 1) m' H') ∧ ∀ x H', (Itl K a).yld i H x H' → g x (wipe σ vs) H' fun σ2 H2 => wipe σ2 vs = wipe σ vs ∧ tt σ2 H2 fun b H3 =>
        if b = true then te σ2 H3 fun y H4 => ∃ acc, H4 D = some (.lst acc) ∧ acc.length < sizeLine ∧ Nx (upd H4 D (.lst (acc ++ [y]))) else Nx H3) := by
  refine lc_keep (walk_list (K := K) (a := a) (xs := xs)) (zs := zs) hp.length.symm keep out hD (fun H' s => s.seq hl) (by rw [hp.length]; exact hsz) ?_ hd
  rintro i x z H' H'' N YY hz s ⟨rfl, hx⟩ hN hY
  obtain ⟨z', hz', hF⟩ := hp.get hx
  rw [hz] at hz'
  cases hz'
  exact hs x z _ N YY hF (List.mem_of_getElem? hz) s hN hY
/-- over a range -/
theorem lc_keepR {lo : Int} {n : Nat} {g : TG} {tt : TT} {te : TE} {vs : List Nat} {σ : L2.St} {H1 : Hp} {D : Addr} {Qd : Hp → Prop} (keep : Int → Bool) (out : Int → V)
    (hD : H1 D = none) (hsz : n < 16777216)
    (hs : ∀ (i : Nat) H' (N : Hp → Prop) (YY : V → Hp → Prop), i < n → Same H1 H' → (∀ H3, Same H' H3 → keep (lo + i) = false → N H3) → (∀ H4, Same H' H4 → keep (lo + i) = true → YY (out (lo + i)) H4) →
      g (.int (lo + i)) (wipe σ vs) H' fun σ2 H2 => wipe σ2 vs = wipe σ vs ∧ tt σ2 H2 fun b H3 => if b = true then te σ2 H3 YY else N H3)
    (hd : ∀ H', Same H1 H' → H' D = some (.lst ((((List.range n).map fun (i : Nat) => lo + (i : Int)).filter keep).map out)) → Qd H') :
    ∃ W : Nat → Nat → Hp → Prop, (∃ m, W 0 m (upd H1 D (.lst []))) ∧ ∀ i m H, W i m H →
      ((Itr lo n).stop i H ∧ Qd H) ∨ ((Itr lo n).go i H ∧ ∃ Nx : Hp → Prop, (∀ H', Nx H' → ∃ m', m' < m ∧ W (i + 1) m' H') ∧ ∀ x H', (Itr lo n).yld i H x H' → g x (wipe σ vs) H' fun σ2 H2 => wipe σ2 vs = wipe σ vs ∧ tt σ2 H2 fun b H3 =>
        if b = true then te σ2 H3 fun y H4 => ∃ acc, H4 D = some (.lst acc) ∧ acc.length < sizeLine ∧ Nx (upd H4 D (.lst (acc ++ [y]))) else Nx H3) := by
  refine lc_keep (J := Itr lo n) (n := n) (G := fun _ => True) (Y := fun i H x H' => H' = H ∧ x = .int (lo + i)) ⟨fun i H hi _ => hi, fun H _ => Nat.le_refl _, fun i H x H' hi _ y => y⟩ (zs := (List.range n).map fun (i : Nat) => lo + (i : Int)) (by simp) keep out hD (fun _ _ => trivial) hsz ?_ hd
  rintro i x z H' H'' N YY hz s ⟨rfl, rfl⟩ hN hY
  have hi : i < n := by have := (List.getElem?_eq_some_iff.mp hz).1; simpa using this
  have hz' : z = lo + (i : Int) := by simpa [hi] using hz.symm
  subst hz'
  exact hs i _ N YY hi s hN hY
/-- over enumerate of a tuple -/
theorem lc_keepE {α : Type} {K : PySem.W.Frag} {a : Addr} {xs : List V} {F : V → α → Prop} {zs : List α} {i j : Nat} {tt : TT} {te : TE} {vs : List Nat} {σ : L2.St} {H1 : Hp} {D : Addr} {Qd : Hp → Prop} (keep : Nat × α → Bool) (out : Nat × α → V) (hp : Paired F xs zs)
    (hD : H1 D = none) (hl : SqT K H1 a xs) (hsz : zs.length < 16777216)
    (hs : ∀ (n : Nat) x z H' (N : Hp → Prop) (YY : V → Hp → Prop), F x z → zs[n]? = some z → Same H1 H' → (∀ H3, Same H' H3 → keep (n, z) = false → N H3) → (∀ H4, Same H' H4 → keep (n, z) = true → YY (out (n, z)) H4) →
      wipe (((wipe σ vs).set i (some (.int n))).set j (some x)) vs = wipe σ vs ∧ tt (((wipe σ vs).set i (some (.int n))).set j (some x)) H' fun b H3 => if b = true then te (((wipe σ vs).set i (some (.int n))).set j (some x)) H3 YY else N H3)
    (hd : ∀ H', Same H1 H' → H' D = some (.lst ((((List.range zs.length).zip zs).filter keep).map out)) → Qd H') :
    ∃ W : Nat → Nat → Hp → Prop, (∃ m, W 0 m (upd H1 D (.lst []))) ∧ ∀ n m H, W n m H →
      ((IteT K a).stop n H ∧ Qd H) ∨ ((IteT K a).go n H ∧ ∃ Nx : Hp → Prop, (∀ H', Nx H' → ∃ m', m' < m ∧ W (n + 1) m' H') ∧ ∀ x H', (IteT K a).yld n H x H' → gTup K 2 (gCons (gName i) (gCons (gName j) gNil)) x (wipe σ vs) H' fun σ2 H2 => wipe σ2 vs = wipe σ vs ∧ tt σ2 H2 fun b H3 =>
        if b = true then te σ2 H3 fun y H4 => ∃ acc, H4 D = some (.lst acc) ∧ acc.length < sizeLine ∧ Nx (upd H4 D (.lst (acc ++ [y]))) else Nx H3) := by
  refine lc_keep (walk_enumT (K := K) (a := a) (xs := xs)) (zs := (List.range zs.length).zip zs) (by simp [hp.length]) keep out hD (fun H' s => s.tup hl) (by rw [hp.length]; exact hsz) ?_ hd
  rintro n x z H' H'' N YY hz s ⟨T, u, v, rfl, hT, rfl, hu, hv⟩ hN hY
  cases Option.some.inj hu
  obtain ⟨z', hz', hF⟩ := hp.get hv
  have e : z = (n, z') := by
    have hlt : n < zs.length := (List.getElem?_eq_some_iff.mp hz').1
    rw [List.getElem?_eq_getElem (by simp [hlt])] at hz
    have q := Option.some.inj hz
    rw [List.getElem_zip] at q
    rw [← q, List.getElem_range]
    congr 1
    exact Option.some.inj ((List.getElem?_eq_getElem hlt).symm.trans hz')
  subst e
  have sT : Same H' (upd H' T (.tup [.int n, v])) := L2.Same.new hT
  exact ⟨T, [.int n, v], rfl, SqT.of upd_same, rfl, _, _, rfl, _, _, rfl, rfl, hs n v z' _ N YY hF hz' (s.trans sT) (fun H3 s3 => hN H3 (sT.trans s3)) (fun H4 s4 => hY H4 (sT.trans s4))⟩
theorem filter_yes {α : Type} (l : List α) : l.filter (fun _ => true) = l := by simp
theorem But.seqI {K : PySem.W.Frag} {a l C dx : Addr} {H H' : Hp} {xs : List V} {fs : List (Str × V)} (s : But a H H') (ha : H a = some (.ins C dx fs)) (h : SqL K H l xs) : SqL K H' l xs := by
  rcases h with (h | ⟨o, h⟩) | h
  · exact .inl (.inl (s _ _ (ne_of h ha (by intro z; cases z)) h))
  · exact .inl (.inr ⟨o, s _ _ (ne_of h ha (by intro z; cases z)) h⟩)
  · exact .inr h
/-- what a maker leaves: all that stood -/
theorem made_same {H H' : Hp} {x dx : Addr} {o u : HO} (hx : H x = none) (hd : H dx = none) (hne : dx ≠ x) (b : But x (upd (upd H dx o) x u) H') : Same H H' := fun c v h => b c v (ne_of_none h hx) (by
  rw [upd_ne (ne_of_none h hx), upd_ne (ne_of_none h hd)]
  exact h)
/-! ### parts -/
def vN (n : Nat) : V := .int (n : Int)
structure Lows (ds : List Int) (k : Nat) (ls : List Nat) : Prop where
  up : ls.Pairwise (· < ·)
  mem : ∀ n, n ∈ ls ↔ Par ds k n
theorem lows_of {ds : List Int} {us : List (Option Int)} (uo : UpOk ds us) {k e : Nat} (he : EndP ds k e) : ∃ ls : List Nat, Lows ds k ls ∧ (((List.range (((e : Int) + 1) - ((k : Int) + 1)).toNat).map fun (i : Nat) => (k : Int) + 1 + (i : Int)).filter fun o => decide (us[o.toNat]? = some (some (k : Int)))).map V.int = ls.map vN := by
  refine ⟨((List.range (e - k)).map fun i => k + 1 + i).filter fun n => decide (us[n]? = some (some (k : Int))), ⟨?_, fun n => ?_⟩, ?_⟩
  · refine List.Pairwise.filter _ ?_
    rw [List.pairwise_map]
    exact List.pairwise_lt_range.imp fun h => by omega
  · rw [List.mem_filter, List.mem_map, decide_eq_true_iff]
    constructor
    · rintro ⟨⟨i, _, rfl⟩, h⟩
      obtain ⟨m, hm, hp⟩ := uo.at_ _ _ h
      have : k = m := by omega
      rw [this] at hp ⊢
      exact hp
    · intro hp
      have h1 := (he.an n).mp hp.1
      refine ⟨⟨n - (k + 1), by rw [List.mem_range]; omega, by omega⟩, ?_⟩
      have hlt : n < us.length := by rw [uo.len]; exact hp.1.2.1
      have ha := uo.at_ n _ (List.getElem?_eq_getElem hlt)
      rw [List.getElem?_eq_getElem hlt]
      cases hu : us[n] with
      | none => rw [hu] at ha; exact absurd hp.1 (ha k)
      | some u =>
        rw [hu] at ha
        obtain ⟨m, rfl, hm⟩ := ha
        rw [hm.only hp]
  · rw [show (((e : Int) + 1) - ((k : Int) + 1)).toNat = e - k by omega]
    rw [List.filter_map, List.map_map, List.filter_map, List.map_map]
    have : ((fun o => decide (us[o.toNat]? = some (some (k : Int)))) ∘ fun (i : Nat) => (k : Int) + 1 + (i : Int)) = ((fun n => decide (us[n]? = some (some (k : Int)))) ∘ fun i => k + 1 + i) := by
      funext i
      show decide (us[((k : Int) + 1 + (i : Int)).toNat]? = _) = decide (us[k + 1 + i]? = _)
      rw [show ((k : Int) + 1 + (i : Int)).toNat = k + 1 + i by omega]
    rw [this]
    apply List.map_congr_left
    intro i _
    show V.int ((k : Int) + 1 + (i : Int)) = V.int ((k + 1 + i : Nat) : Int)
    congr 1
def partsOf (rows : List (Str × Int)) (z : Str) : List Nat := ((List.range rows.length).zip rows).filter (fun x => decide (x.2.1 = z)) |>.map (·.1)
theorem zip_range_mem {α : Type} {rows : List α} {n : Nat} {r : α} : (n, r) ∈ (List.range rows.length).zip rows ↔ rows[n]? = some r := by
  constructor
  · intro h
    obtain ⟨i, hi⟩ := List.getElem?_of_mem h
    have hlt := (List.getElem?_eq_some_iff.mp hi).1
    rw [List.length_zip, List.length_range, Nat.min_self] at hlt
    rw [List.getElem?_eq_getElem (by simp [hlt])] at hi
    have q := Option.some.inj hi
    rw [List.getElem_zip, List.getElem_range] at q
    injection q with q1 q2
    rw [← q1, List.getElem?_eq_getElem hlt, q2]
  · intro h
    have hlt := (List.getElem?_eq_some_iff.mp h).1
    refine List.mem_of_getElem? (i := n) ?_
    rw [List.getElem?_eq_getElem (by simp [hlt]), List.getElem_zip, List.getElem_range]
    congr 2
    exact Option.some.inj ((List.getElem?_eq_getElem hlt).symm.trans h)
theorem partsOf_mem {rows : List (Str × Int)} {z : Str} {n : Nat} : n ∈ partsOf rows z ↔ ∃ r, rows[n]? = some r ∧ r.1 = z := by
  unfold partsOf
  rw [List.mem_map]
  constructor
  · rintro ⟨⟨m, r⟩, h, rfl⟩
    rw [List.mem_filter, zip_range_mem, decide_eq_true_iff] at h
    exact ⟨r, h⟩
  · rintro ⟨r, h1, h2⟩
    exact ⟨(n, r), by rw [List.mem_filter, zip_range_mem, decide_eq_true_iff]; exact ⟨h1, h2⟩, rfl⟩
theorem zip_range_up {α : Type} (rows : List α) : (((List.range rows.length).zip rows).map (·.1)).Pairwise (· < ·) := by
  have : ((List.range rows.length).zip rows).map (·.1) = List.range rows.length := by
    rw [List.map_fst_zip]
    simp
  rw [this]
  exact List.pairwise_lt_range
theorem partsOf_up (rows : List (Str × Int)) (z : Str) : (partsOf rows z).Pairwise (· < ·) := by
  unfold partsOf
  have := zip_range_up rows
  rw [List.pairwise_map] at this ⊢
  exact List.Pairwise.filter _ this
theorem partsOf_lt {rows : List (Str × Int)} {z : Str} {n : Nat} (h : n ∈ partsOf rows z) : n < rows.length := by
  obtain ⟨r, h, _⟩ := partsOf_mem.mp h
  exact (List.getElem?_eq_some_iff.mp h).1
/-- rising lists of the same numbers are one -/
theorem up_only {l m : List Nat} (hl : l.Pairwise (· < ·)) (hm : m.Pairwise (· < ·)) (h : ∀ n, n ∈ l ↔ n ∈ m) : l = m := by
  induction l generalizing m with
  | nil =>
    cases m with
    | nil => rfl
    | cons y m => exact absurd ((h y).mpr (List.mem_cons_self ..)) (by simp)
  | cons x l ih =>
    cases m with
    | nil => exact absurd ((h x).mp (List.mem_cons_self ..)) (by simp)
    | cons y m =>
      rw [List.pairwise_cons] at hl hm
      have hxy : x = y := by
        have h1 := (h x).mp (List.mem_cons_self ..)
        have h2 := (h y).mpr (List.mem_cons_self ..)
        rcases List.mem_cons.mp h1 with e | e
        · exact e
        · rcases List.mem_cons.mp h2 with f | f
          · exact f.symm
          · have := hm.1 x e
            have := hl.1 y f
            omega
      subst hxy
      rw [ih hl.2 hm.2 fun n => ?_]
      constructor
      · intro hn
        rcases List.mem_cons.mp ((h n).mp (List.mem_cons_of_mem _ hn)) with e | e
        · have := hl.1 n hn; omega
        · exact e
      · intro hn
        rcases List.mem_cons.mp ((h n).mpr (List.mem_cons_of_mem _ hn)) with e | e
        · have := hm.1 n hn; omega
        · exact e
end Bg

namespace Bg
open PySem PySem.Spec PyProof.Rows L2
/-! ### the head: facts, defs, and lists of the text -/
def obsE (n : Nat) (fa : List He.Fa) (fn : List He.DefD) (ex : PySem.W.Frag → List Bool) (g : Addr → Option Obj) : He.AlD × Bool := (He.obsDG n fa fn g, (ex (He.frG g (He.asD g n))).all id)
def hookE (n : Nat) (fa : List He.Fa) (fn : List He.DefD) (ex : PySem.W.Frag → List Bool) : PySem.W.Hook where
  α := He.AlD × Bool
  obs := fun s => obsE n fa fn ex s.heap.get?
  val := fun _ => (He.valD fn, true)
  says := fun _ h => ∃ K : PySem.W.Frag, K.In h ∧ He.SaysD fa fn K ∧ (ex K).all id = true
  of := fun _ _ e => ⟨_, He.frG_in, congrArg (fun z : He.AlD × Bool => z.1) e, congrArg (fun z : He.AlD × Bool => z.2) e⟩
  keeps := fun _ _ _ ⟨K, hK, c⟩ k => ⟨K, PySem.W.Frag.In.keeps hK k, c⟩
theorem obsE_eq {n : Nat} {fa : List He.Fa} {fn : List He.DefD} {ex : PySem.W.Frag → List Bool} {g : Addr → Option Obj} {s : Shared} (h : ∀ a, g a = s.heap.get? a) : obsE n fa fn ex g = (hookE n fa fn ex).obs s := by
  obtain rfl : g = s.heap.get? := funext h
  rfl
theorem ex_at {l : List Bool} (i : Nat) (h : l.all id = true) {b : Bool} (hb : l[i]? = some b := by rfl) : b = true := List.all_eq_true.mp h b (List.mem_of_getElem? hb)
/-! ### a method of one of two classes -/
def tMethV (C1 C2 : Addr) (m : Str) (sp1 sp2 : Sp) (E : XK) (ta : TE) (t : TA) : TE := fun σ H Q => ta σ H fun x H1 => ∃ a dx fs, x = .ref a ∧ fs.lookup m = none ∧
  ((H1 a = some (.ins C1 dx fs) ∧ t σ H1 fun vs H2 => sp1 (x :: vs) H2 Q E) ∨ (H1 a = some (.ins C2 dx fs) ∧ t σ H1 fun vs H2 => sp2 (x :: vs) H2 Q E))
section
variable {X : Cx} {CX1 CX2 : CXT} {k1 k2 : Nat} {C1 C2 : Addr} {ps1 ps2 : List Str} {sp1 sp2 : Sp} {E : XK} {m : Str} {pos apos : Pos} {e o : Expr} {es : List Expr} {ta : TE} {t : TA}
theorem pe_methV {pl : Sem Bool} (he : PE X o ta) (F1 : Mt X.prog X.w X.K X.mg X.base CX1 k1 C1 m ps1 sp1) (F2 : Mt X.prog X.w X.K X.mg X.base CX2 k2 C2 m ps2 sp2) (hr1 : Room k1 X.A) (hr2 : Room k2 X.A) (hx1 : Passes CX1 X E) (hx2 : Passes CX2 X E) (ha : PA X (e :: es) t)
    (hst : starEach (e :: es) X.env = (false, eval e X.env) :: starEach es X.env := by rfl) (hpl : (backTo pos (starEach es X.env)).any (·.1) = false := by rfl)
    (ht : eval (.Call (.Attribute o m apos) (e :: es) [] pos) X.env = (do
      let ov ← eval o X.env
      standAt apos.atName
      let (f, first) ← holding [ov] (getMethod ov m pl)
      callWith pos f first (backTo pos (starEach (e :: es) X.env)) (backToKw pos (keywordEach [] X.env))) := by rfl) :
    PE X (.Call (.Attribute o m apos) (e :: es) [] pos) (tMethV C1 C2 m sp1 sp2 E ta t) := by
  obtain ⟨f1, fd1, G1, m1, c1, b1⟩ := F1.ex
  obtain ⟨f2, fd2, G2, m2, c2, b2⟩ := F2.ex
  refine ⟨fun pins s σ H Q I h => ?_⟩
  refine PySem.W.methodCall_KW (pl := pl) (thn (he.run pins s σ H _ I h) fun u s1 ⟨x, H1, I1, rx, a, dx, fs, ex, l, hh⟩ => ?_) ht
  subst ex
  obtain rfl : u = Value.ref a := rx
  rcases hh with ⟨ea, q⟩ | ⟨ea, q⟩
  · refine getmeth_ok I1 ea c1 m1 l (PySem.W.callWith_K (first := [.ref a]) (h₀ := X.base) I.ok.mod.kin m1.kp (thn (ha.run pos pins s1 σ H1 _ I1 q) fun us s2 ⟨vs, H2, I2, r, q2⟩ => ⟨I2.kIn, ?_⟩) hst hpl)
    exact run_fn (dvs := []) (us := .ref a :: us) (vs := .ref a :: vs) G1 hr1 b1 .nil hx1 I2 (.cons rfl r) (by rw [List.append_nil]; exact q2)
  · refine getmeth_ok I1 ea c2 m2 l (PySem.W.callWith_K (first := [.ref a]) (h₀ := X.base) I.ok.mod.kin m2.kp (thn (ha.run pos pins s1 σ H1 _ I1 q) fun us s2 ⟨vs, H2, I2, r, q2⟩ => ⟨I2.kIn, ?_⟩) hst hpl)
    exact run_fn (dvs := []) (us := .ref a :: us) (vs := .ref a :: vs) G2 hr2 b2 .nil hx2 I2 (.cons rfl r) (by rw [List.append_nil]; exact q2)
theorem pe_methV0 {pl : Sem Bool} (he : PE X o ta) (F1 : Mt X.prog X.w X.K X.mg X.base CX1 k1 C1 m ps1 sp1) (F2 : Mt X.prog X.w X.K X.mg X.base CX2 k2 C2 m ps2 sp2) (hr1 : Room k1 X.A) (hr2 : Room k2 X.A) (hx1 : Passes CX1 X E) (hx2 : Passes CX2 X E)
    (ht : eval (.Call (.Attribute o m apos) [] [] pos) X.env = (do
      let ov ← eval o X.env
      standAt apos.atName
      let (f, first) ← holding [ov] (getMethod ov m pl)
      callWith pos f first (backTo pos (starEach [] X.env)) (backToKw pos (keywordEach [] X.env))) := by rfl) :
    PE X (.Call (.Attribute o m apos) [] [] pos) (tMethV C1 C2 m sp1 sp2 E ta tNil) := by
  obtain ⟨f1, fd1, G1, m1, c1, b1⟩ := F1.ex
  obtain ⟨f2, fd2, G2, m2, c2, b2⟩ := F2.ex
  refine ⟨fun pins s σ H Q I h => ?_⟩
  refine PySem.W.methodCall_KW (pl := pl) (thn (he.run pins s σ H _ I h) fun u s1 ⟨x, H1, I1, rx, a, dx, fs, ex, l, hh⟩ => ?_) ht
  subst ex
  obtain rfl : u = Value.ref a := rx
  rcases hh with ⟨ea, q⟩ | ⟨ea, q⟩
  · exact getmeth_ok I1 ea c1 m1 l (PySem.W.callWith_K0 (first := [.ref a]) I1.kIn m1.kp (run_fn (dvs := []) (us := [.ref a]) (vs := [.ref a]) G1 hr1 b1 .nil hx1 I1 (.cons rfl .nil) q))
  · exact getmeth_ok I1 ea c2 m2 l (PySem.W.callWith_K0 (first := [.ref a]) I1.kIn m2.kp (run_fn (dvs := []) (us := [.ref a]) (vs := [.ref a]) G2 hr2 b2 .nil hx2 I1 (.cons rfl .nil) q))
end
/-! ### steps -/
def stF (z : Str) : List (Str × V) := [("label", .str z)]
def StepAt (K : PySem.W.Frag) (H : Hp) (p : Addr) (w z : Str) : Prop := ∃ dx, (w = "/" ∧ H p = some (.ins (He.ga K "Straight") dx (stF z))) ∨ (w = "//" ∧ H p = some (.ins (He.ga K "Anywhere") dx (stF z)))
theorem StepAt.at_ {K : PySem.W.Frag} {H H' : Hp} {p : Addr} {w z : Str} (h : StepAt K H p w z) (s : ∀ o, H p = some o → H' p = some o) : StepAt K H' p w z := by
  obtain ⟨dx, ⟨e, h⟩ | ⟨e, h⟩⟩ := h
  · exact ⟨dx, .inl ⟨e, s _ h⟩⟩
  · exact ⟨dx, .inr ⟨e, s _ h⟩⟩
theorem StepAt.same {K : PySem.W.Frag} {H H' : Hp} {p : Addr} {w z : Str} (h : StepAt K H p w z) (s : Same H H') : StepAt K H' p w z := h.at_ fun o q => s _ _ q
theorem StepAt.ins {K : PySem.W.Frag} {H : Hp} {p : Addr} {w z : Str} (h : StepAt K H p w z) : ∃ C dx fs, H p = some (.ins C dx fs) := by
  obtain ⟨dx, ⟨e, h⟩ | ⟨e, h⟩⟩ := h
  · exact ⟨_, _, _, h⟩
  · exact ⟨_, _, _, h⟩
/-! ### questions -/
abbrev Sr := Str × Str × Int
def qds (rows : List Sr) : List Int := rows.map (·.2.2)
structure QuOk (rows : List Sr) (g : Nat) : Prop where
  one : 1 ≤ rows.length
  most : rows.length ≤ 100
  way : ∀ r ∈ rows, r.1 = "/" ∨ r.1 = "//"
  lab : ∀ r ∈ rows, labelB r.2.1 = true
  dv : Dv (qds rows)
  deep : ∀ r ∈ rows, r.2.2 ≤ 30
  goal : g < rows.length
theorem qds_len (rows : List Sr) : (qds rows).length = rows.length := List.length_map ..
theorem qds_at {rows : List Sr} {k : Nat} {r : Sr} (h : rows[k]? = some r) : dg (qds rows) k = r.2.2 := dg_of (by unfold qds; rw [List.getElem?_map, h]; rfl)
theorem way_ok {w : Str} (h : w = "/" ∨ w = "//") : PyData.strOk w = true := by
  rcases h with rfl | rfl <;> decide +kernel
theorem gd_step {x : Sr} (hw : x.1 = "/" ∨ x.1 = "//") (h : labelB x.2.1 = true) : Gd 1 (eStep x) := by
  have h1 := label_ok h
  have h2 := way_ok hw
  refine ⟨?_, by show _ ≤ 1; simp [eStep, PyData.depth, PyData.depthAll]⟩
  simp [eStep, PyData.canLay0, PyData.canLayAll0, h1, h2]
def quF (t : Addr) (g : Int) (s e u : Addr) : List (Str × V) := [("given_rows", .ref t), ("goal", .int g), ("steps", .ref s), ("ends", .ref e), ("uppers", .ref u)]
def SPs (K : PySem.W.Frag) (H : Hp) (sv : List V) (rows : List Sr) : Prop := Paired (fun v r => ∃ p, v = .ref p ∧ StepAt K H p r.1 r.2.1) sv rows
theorem SPs.at_ {K : PySem.W.Frag} {H H' : Hp} {sv : List V} {rows : List Sr} (h : SPs K H sv rows) (s : ∀ p C dx fs, H p = some (.ins C dx fs) → H' p = some (.ins C dx fs)) : SPs K H' sv rows := h.imp fun v r ⟨p, e, q⟩ => ⟨p, e, q.at_ fun o ho => by
  obtain ⟨C, dx, fs, hi⟩ := q.ins
  have := s p C dx fs hi
  rw [hi] at ho
  rw [this, ho]⟩
theorem SPs.same {K : PySem.W.Frag} {H H' : Hp} {sv : List V} {rows : List Sr} (h : SPs K H sv rows) (s : Same H H') : SPs K H' sv rows := h.at_ fun _ _ _ _ q => s _ _ q
theorem StepAt.fs {K : PySem.W.Frag} {H : Hp} {p : Addr} {w z : Str} (h : StepAt K H p w z) : ∃ C dx, H p = some (.ins C dx (stF z)) := by
  obtain ⟨dx, ⟨e, h⟩ | ⟨e, h⟩⟩ := h
  · exact ⟨_, _, h⟩
  · exact ⟨_, _, h⟩
theorem SPs.but {K : PySem.W.Frag} {H H' : Hp} {a C dx : Addr} {fs : List (Str × V)} {sv : List V} {rows : List Sr} (h : SPs K H sv rows) (b : But a H H') (ha : H a = some (.ins C dx fs)) (hn : fs.length ≠ 1) : SPs K H' sv rows := h.imp fun v r ⟨p, e, q⟩ => ⟨p, e, q.at_ fun o ho => b p o (fun z => by
  obtain ⟨C', dx', hi⟩ := q.fs
  rw [z, ha] at hi
  injection hi with hi
  injection hi with _ _ hi
  exact hn (by rw [hi]; rfl)) ho⟩
structure QuIn (K : PySem.W.Frag) (H : Hp) (a : Addr) (rows : List Sr) (g : Nat) (dx t sa e u : Addr) (tv sv : List V) (es : List Int) (us : List (Option Int)) : Prop where
  ob : H a = some (.ins (He.ga K "Question") dx (quF t g sa e u))
  tp : H t = some (.tup tv)
  pl : PL K H eStep tv rows
  sp : H sa = some (.tup sv)
  st : SPs K H sv rows
  en : H e = some (.lst (es.map V.int))
  up : H u = some (.lst (us.map vOpt))
  eo : EndsOk (qds rows) es
  uo : UpOk (qds rows) us
  ok : QuOk rows g
def QuAt (K : PySem.W.Frag) (H : Hp) (a : Addr) (rows : List Sr) (g : Nat) : Prop := ∃ dx t sa e u tv sv es us, QuIn K H a rows g dx t sa e u tv sv es us
section
variable {K : PySem.W.Frag} {H H' : Hp} {a : Addr} {rows : List Sr} {g : Nat} {dx t sa e u : Addr} {tv sv : List V} {es : List Int} {us : List (Option Int)}
theorem QuIn.same (h : QuIn K H a rows g dx t sa e u tv sv es us) (s : Same H H') : QuIn K H' a rows g dx t sa e u tv sv es us :=
  ⟨s _ _ h.ob, s _ _ h.tp, h.pl.same s, s _ _ h.sp, h.st.same s, s _ _ h.en, s _ _ h.up, h.eo, h.uo, h.ok⟩
theorem QuAt.same (h : QuAt K H a rows g) (s : Same H H') : QuAt K H' a rows g := by
  obtain ⟨dx, t, sa, e, u, tv, sv, es, us, h⟩ := h
  exact ⟨dx, t, sa, e, u, tv, sv, es, us, h.same s⟩
theorem QuAt.ok (h : QuAt K H a rows g) : QuOk rows g := by
  obtain ⟨dx, t, sa, e, u, tv, sv, es, us, h⟩ := h
  exact h.ok
theorem QuIn.end_at (h : QuIn K H a rows g dx t sa e u tv sv es us) {k : Nat} (hk : k < rows.length) : ∃ n : Nat, (es.map V.int)[k]? = some (.int (n : Int)) ∧ EndP (qds rows) k n := by
  have hl : k < es.length := by rw [h.eo.len, qds_len]; exact hk
  obtain ⟨n, e1, e2⟩ := h.eo.at_ k _ (List.getElem?_eq_getElem hl)
  exact ⟨n, by rw [List.getElem?_map, List.getElem?_eq_getElem hl, e1]; rfl, e2⟩
theorem QuIn.up_at (h : QuIn K H a rows g dx t sa e u tv sv es us) {k : Nat} (hk : k < rows.length) : ∃ o, (us.map vOpt)[k]? = some (vOpt o) ∧ UpAt (qds rows) k o := by
  have hl : k < us.length := by rw [h.uo.len, qds_len]; exact hk
  exact ⟨us[k], by rw [List.getElem?_map, List.getElem?_eq_getElem hl]; rfl, h.uo.at_ k _ (List.getElem?_eq_getElem hl)⟩
theorem quF_rows (t : Addr) (g : Int) (s e u : Addr) : (quF t g s e u).lookup ("given_rows" : Str) = some (.ref t) := rfl
theorem quF_goal (t : Addr) (g : Int) (s e u : Addr) : (quF t g s e u).lookup ("goal" : Str) = some (.int g) := rfl
theorem quF_steps (t : Addr) (g : Int) (s e u : Addr) : (quF t g s e u).lookup ("steps" : Str) = some (.ref s) := rfl
theorem quF_ends (t : Addr) (g : Int) (s e u : Addr) : (quF t g s e u).lookup ("ends" : Str) = some (.ref e) := rfl
theorem quF_uppers (t : Addr) (g : Int) (s e u : Addr) : (quF t g s e u).lookup ("uppers" : Str) = some (.ref u) := rfl
theorem no_q (t : Addr) (g : Int) (s e u : Addr) {m : Str} (h1 : ¬ m = "given_rows") (h2 : ¬ m = "goal") (h3 : ¬ m = "steps") (h4 : ¬ m = "ends") (h5 : ¬ m = "uppers") : (quF t g s e u).lookup m = none := by
  have e1 : (m == ("given_rows" : Str)) = false := by simpa using h1
  have e2 : (m == ("goal" : Str)) = false := by simpa using h2
  have e3 : (m == ("steps" : Str)) = false := by simpa using h3
  have e4 : (m == ("ends" : Str)) = false := by simpa using h4
  have e5 : (m == ("uppers" : Str)) = false := by simpa using h5
  simp [quF, List.lookup, e1, e2, e3, e4, e5]
end
/-! ### calls of methods -/
theorem doc_m {K : PySem.W.Frag} {H : Hp} {d : Addr} {dr : List (Str × Int)} (h : DocAt K H d dr) {m : Str} (h1 : ¬ m = "parts") (h2 : ¬ m = "ends") (h3 : ¬ m = "uppers") {P : Prop} (k : P) : ∃ a dx fs, V.ref d = .ref a ∧ H a = some (.ins (He.ga K "Document") dx fs) ∧ fs.lookup m = none ∧ P := by
  obtain ⟨dx, t, e, u, tv, es, us, h⟩ := h
  exact ⟨d, dx, _, rfl, h.ob, no_many t e u h1 h2 h3, k⟩
theorem qu_m {K : PySem.W.Frag} {H : Hp} {q : Addr} {qr : List Sr} {g : Nat} (h : QuAt K H q qr g) {m : Str} (h1 : ¬ m = "given_rows") (h2 : ¬ m = "goal") (h3 : ¬ m = "steps") (h4 : ¬ m = "ends") (h5 : ¬ m = "uppers") {P : Prop} (k : P) : ∃ a dx fs, V.ref q = .ref a ∧ H a = some (.ins (He.ga K "Question") dx fs) ∧ fs.lookup m = none ∧ P := by
  obtain ⟨dx, t, sa, e, u, tv, sv, es, us, h⟩ := h
  exact ⟨q, dx, _, rfl, h.ob, no_q t g sa e u h1 h2 h3 h4 h5, k⟩
theorem stF_no (z : Str) {m : Str} (h : ¬ m = "label") : (stF z).lookup m = none := by
  have e1 : (m == ("label" : Str)) = false := by simpa using h
  simp [stF, List.lookup, e1]
theorem way_call {K : PySem.W.Frag} {H : Hp} {p : Addr} {w z : Str} (st : StepAt K H p w z) {Q : V → Hp → Prop} (k : Q (.str w) H) : ∃ a dx fs, V.ref p = .ref a ∧ fs.lookup ("way" : Str) = none ∧
    ((H a = some (.ins (He.ga K "Straight") dx fs) ∧ ∃ a' dx' z', [V.ref p] = [.ref a'] ∧ H a' = some (.ins (He.ga K "Straight") dx' (stF z')) ∧ Q (.str "/") H) ∨ (H a = some (.ins (He.ga K "Anywhere") dx fs) ∧ ∃ a' dx' z', [V.ref p] = [.ref a'] ∧ H a' = some (.ins (He.ga K "Anywhere") dx' (stF z')) ∧ Q (.str "//") H)) := by
  obtain ⟨dx, ⟨e, h⟩ | ⟨e, h⟩⟩ := st
  · subst e
    exact ⟨p, dx, _, rfl, stF_no z (by decide), .inl ⟨h, p, dx, z, rfl, h, k⟩⟩
  · subst e
    exact ⟨p, dx, _, rfl, stF_no z (by decide), .inr ⟨h, p, dx, z, rfl, h, k⟩⟩
theorem lab_call {K : PySem.W.Frag} {H : Hp} {p : Addr} {w z : Str} (st : StepAt K H p w z) (c1 : Cls K (He.ga K "Straight")) (n1 : NoAttr K (He.ga K "Straight") "label") (c2 : Cls K (He.ga K "Anywhere")) (n2 : NoAttr K (He.ga K "Anywhere") "label") {Q : V → Hp → Prop} (k : Q (.str z) H) :
    ∃ a C dx fs v, V.ref p = .ref a ∧ H a = some (.ins C dx fs) ∧ Cls K C ∧ NoAttr K C "label" ∧ fs.lookup ("label" : Str) = some v ∧ Q v H := by
  obtain ⟨dx, ⟨e, h⟩ | ⟨e, h⟩⟩ := st
  · exact ⟨p, _, dx, _, .str z, rfl, h, c1, n1, rfl, k⟩
  · exact ⟨p, _, dx, _, .str z, rfl, h, c2, n2, rfl, k⟩
/-- o.m(), read by R -/
def tMW (R : V → Hp → VK → Prop) (ta : TE) : TE := fun σ H Q => ta σ H fun x H1 => R x H1 Q
section
variable {X : Cx} {CX1 CX2 : CXT} {k1 k2 : Nat} {C1 C2 : Addr} {ps1 ps2 : List Str} {sp1 sp2 : Sp} {E : XK} {m : Str} {pos apos : Pos} {o : Expr} {ta : TE}
theorem pe_methW0 {pl : Sem Bool} {R : V → Hp → VK → Prop} (he : PE X o ta) (F1 : Mt X.prog X.w X.K X.mg X.base CX1 k1 C1 m ps1 sp1) (F2 : Mt X.prog X.w X.K X.mg X.base CX2 k2 C2 m ps2 sp2) (hr1 : Room k1 X.A) (hr2 : Room k2 X.A) (hx1 : Passes CX1 X E) (hx2 : Passes CX2 X E)
    (hR : ∀ x H Q, R x H Q → ∃ a dx fs, x = .ref a ∧ fs.lookup m = none ∧ ((H a = some (.ins C1 dx fs) ∧ sp1 [x] H Q E) ∨ (H a = some (.ins C2 dx fs) ∧ sp2 [x] H Q E)))
    (ht : eval (.Call (.Attribute o m apos) [] [] pos) X.env = (do
      let ov ← eval o X.env
      standAt apos.atName
      let (f, first) ← holding [ov] (getMethod ov m pl)
      callWith pos f first (backTo pos (starEach [] X.env)) (backToKw pos (keywordEach [] X.env))) := by rfl) :
    PE X (.Call (.Attribute o m apos) [] [] pos) (tMW R ta) := by
  obtain ⟨f1, fd1, G1, m1, c1, b1⟩ := F1.ex
  obtain ⟨f2, fd2, G2, m2, c2, b2⟩ := F2.ex
  refine ⟨fun pins s σ H Q I h => ?_⟩
  refine PySem.W.methodCall_KW (pl := pl) (thn (he.run pins s σ H _ I h) fun u s1 ⟨x, H1, I1, rx, hq⟩ => ?_) ht
  obtain ⟨a, dx, fs, ex, l, hh⟩ := hR _ _ _ hq
  subst ex
  obtain rfl : u = Value.ref a := rx
  rcases hh with ⟨ea, q⟩ | ⟨ea, q⟩
  · exact getmeth_ok I1 ea c1 m1 l (PySem.W.callWith_K0 (first := [.ref a]) I1.kIn m1.kp (run_fn (dvs := []) (us := [.ref a]) (vs := [.ref a]) G1 hr1 b1 .nil hx1 I1 (.cons rfl .nil) q))
  · exact getmeth_ok I1 ea c2 m2 l (PySem.W.callWith_K0 (first := [.ref a]) I1.kIn m2.kp (run_fn (dvs := []) (us := [.ref a]) (vs := [.ref a]) G2 hr2 b2 .nil hx2 I1 (.cons rfl .nil) q))
end
def rWay (K : PySem.W.Frag) : V → Hp → VK → Prop := fun x H Q => ∃ p w z, x = .ref p ∧ StepAt K H p w z ∧ Q (.str w) H
theorem rWay_ok {K : PySem.W.Frag} {x : V} {H : Hp} {Q : VK} (h : rWay K x H Q) : ∃ a dx fs, x = .ref a ∧ fs.lookup ("way" : Str) = none ∧
    ((H a = some (.ins (He.ga K "Straight") dx fs) ∧ ∃ (a' dx' : Addr) (z' : Str), [x] = [.ref a'] ∧ H a' = some (.ins (He.ga K "Straight") dx' (stF z')) ∧ Q (.str "/") H) ∨ (H a = some (.ins (He.ga K "Anywhere") dx fs) ∧ ∃ (a' dx' : Addr) (z' : Str), [x] = [.ref a'] ∧ H a' = some (.ins (He.ga K "Anywhere") dx' (stF z')) ∧ Q (.str "//") H)) := by
  obtain ⟨p, w, z, rfl, st, k⟩ := h
  exact way_call st k
end Bg

namespace Bg
open PySem PySem.Spec PyProof.Rows L2
/-! ### dicts of numbers -/
def hasK (kv : List (Key × V)) (u : Int) : Prop := (valV kv (Sum.inl u)).isSome = true
theorem hasK_put (kv : List (Key × V)) (a u : Int) (v : V) : hasK (putK kv (Sum.inl a) v) u ↔ u = a ∨ hasK kv u := by
  unfold hasK
  rw [valV_put]
  by_cases e : u = a
  · subst e; simp
  · rw [if_neg (fun z => e (Sum.inl.inj z))]
    simp [e]
theorem putK_le (kv : List (Key × V)) (k : Key) (v : V) : (putK kv k v).length ≤ kv.length + 1 := by
  unfold putK
  split <;> simp
theorem hasK_nil (u : Int) : ¬ hasK [] u := by
  unfold hasK
  simp [valV]
/-- the keys are the numbers of S -/
def Ks (kv : List (Key × V)) (S : Nat → Prop) : Prop := ∀ u : Int, hasK kv u ↔ ∃ n : Nat, u = n ∧ S n
theorem Ks.at_ {kv : List (Key × V)} {S : Nat → Prop} (h : Ks kv S) (n : Nat) : hasK kv n ↔ S n := by
  rw [h]
  constructor
  · rintro ⟨m, e, hm⟩
    have : n = m := by omega
    rw [this]
    exact hm
  · intro hn
    exact ⟨n, rfl, hn⟩
theorem Ks.nil : Ks [] fun _ => False := fun u => ⟨fun h => absurd h (hasK_nil u), fun ⟨_, _, h⟩ => h.elim⟩
theorem Ks.put {kv : List (Key × V)} {S : Nat → Prop} (h : Ks kv S) (a : Nat) (v : V) : Ks (putK kv (Sum.inl (a : Int)) v) fun n => n = a ∨ S n := fun u => by
  rw [hasK_put, h]
  constructor
  · rintro (e | ⟨n, e, hn⟩)
    · exact ⟨a, e, .inl rfl⟩
    · exact ⟨n, e, .inr hn⟩
  · rintro ⟨n, e, rfl | hn⟩
    · exact .inl e
    · exact .inr ⟨n, e, hn⟩
theorem Ks.iff {kv : List (Key × V)} {S S' : Nat → Prop} (h : Ks kv S) (e : ∀ n, S n ↔ S' n) : Ks kv S' := fun u => by
  rw [h]
  exact ⟨fun ⟨n, a, b⟩ => ⟨n, a, (e n).mp b⟩, fun ⟨n, a, b⟩ => ⟨n, a, (e n).mpr b⟩⟩
/-! ### upwards -/
def UpW (ds : List Int) (w : Bool) (q : Nat) (o : Option Int) (n : Nat) : Prop := Bn ds w n q ∧ Dn n o
theorem upw_start {ds : List Int} {w : Bool} {q : Nat} {o : Option Int} (h : UpAt ds q o) (n : Nat) : ¬ UpW ds w q o n := by
  rintro ⟨b, d⟩
  cases o with
  | none => exact h n b.1
  | some u =>
    obtain ⟨m, rfl, p⟩ := h
    have d : (m : Int) < (n : Int) := d
    rcases (p.all n).mp b.1 with e | e
    · omega
    · have := e.1; omega
theorem upw_at {ds : List Int} {w : Bool} {q : Nat} {o : Option Int} (h : UpAt ds q o) (u : Int) (e : o = some u) : ∃ n : Nat, u = n ∧ Bn ds w n q := by
  subst e
  obtain ⟨m, rfl, p⟩ := h
  exact ⟨m, rfl, p.1, .inr p.2⟩
theorem upw_step {ds : List Int} {w : Bool} {q h : Nat} {o : Option Int} (b : Bn ds w h q) (ht : w = true → UpAt ds h o) (hf : w = false → o = none) (n : Nat) : UpW ds w q o n ↔ n = h ∨ UpW ds w q (some (h : Int)) n := by
  constructor
  · rintro ⟨c, d⟩
    rcases Nat.lt_trichotomy n h with e | e | e
    · exfalso
      have a := c.1.mid b.1 e
      cases hw : w with
      | true =>
        have u := ht hw
        cases o with
        | none => exact u n a
        | some z =>
          obtain ⟨m, rfl, p⟩ := u
          have d : (m : Int) < (n : Int) := d
          rcases (p.all n).mp a with f | f
          · omega
          · have := f.1; omega
      | false =>
        have h1 := c.2.resolve_left (by rw [hw]; decide)
        have h2 := b.2.resolve_left (by rw [hw]; decide)
        have := a.dlt
        omega
    · exact .inl e
    · exact .inr ⟨c, show (h : Int) < (n : Int) by omega⟩
  · rintro (rfl | ⟨c, d⟩)
    · refine ⟨b, ?_⟩
      cases o with
      | none => exact trivial
      | some z =>
        cases hw : w with
        | true =>
          obtain ⟨m, rfl, p⟩ := ht hw
          have := p.1.1
          show (m : Int) < (n : Int)
          omega
        | false => exact absurd (hf hw) (by simp)
    · refine ⟨c, ?_⟩
      have d : (h : Int) < (n : Int) := d
      cases o with
      | none => exact trivial
      | some z =>
        cases hw : w with
        | true =>
          obtain ⟨m, rfl, p⟩ := ht hw
          have := p.1.1
          show (m : Int) < (n : Int)
          omega
        | false => exact absurd (hf hw) (by simp)
theorem upw_next {ds : List Int} {w : Bool} {q h : Nat} {o : Option Int} (b : Bn ds w h q) (ht : w = true → UpAt ds h o) (hf : w = false → o = none) (u : Int) (e : o = some u) : ∃ n : Nat, u = n ∧ Bn ds w n q := by
  cases hw : w with
  | false => rw [hf hw] at e; cases e
  | true =>
    subst e
    obtain ⟨m, rfl, p⟩ := ht hw
    exact ⟨m, rfl, p.1.trans b.1, .inl rfl⟩
theorem upw_all {ds : List Int} {w : Bool} {q n : Nat} : UpW ds w q none n ↔ Bn ds w n q := ⟨fun h => h.1, fun h => ⟨h, trivial⟩⟩
/-- those with one of ps beneath -/
def Hav (ds : List Int) (w : Bool) (ps : List Nat) (n : Nat) : Prop := ∃ q ∈ ps, Bn ds w n q
theorem hav_nil {ds : List Int} {w : Bool} {n : Nat} : ¬ Hav ds w [] n := fun ⟨_, h, _⟩ => nomatch h
theorem hav_snoc {ds : List Int} {w : Bool} {ps : List Nat} {q n : Nat} : Hav ds w (ps ++ [q]) n ↔ Hav ds w ps n ∨ Bn ds w n q := by
  constructor
  · rintro ⟨p, h, b⟩
    rcases List.mem_append.mp h with h | h
    · exact .inl ⟨p, h, b⟩
    · rw [List.mem_singleton.mp h] at b
      exact .inr b
  · rintro (⟨p, h, b⟩ | b)
    · exact ⟨p, List.mem_append_left _ h, b⟩
    · exact ⟨q, List.mem_append_right _ (List.mem_singleton.mpr rfl), b⟩
/-- one that is there already brings all above -/
theorem hav_stop {ds : List Int} {w : Bool} {ps : List Nat} {q h : Nat} (b : Bn ds w h q) (hh : Hav ds w ps h ∨ UpW ds w q (some (h : Int)) h) (n : Nat) : (Hav ds w ps n ∨ UpW ds w q (some (h : Int)) n) ↔ Hav ds w (ps ++ [q]) n := by
  rw [hav_snoc]
  have hp : Hav ds w ps h := hh.resolve_right fun z => by
    have : (h : Int) < (h : Int) := z.2
    omega
  constructor
  · rintro (x | x)
    · exact .inl x
    · exact .inr x.1
  · rintro (x | x)
    · exact .inl x
    · rcases Nat.lt_trichotomy n h with e | e | e
      · obtain ⟨p, hp, c⟩ := hp
        refine .inl ⟨p, hp, (x.1.mid b.1 e).trans c.1, ?_⟩
        cases hw : w with
        | true => exact .inl rfl
        | false =>
          have h1 := x.2.resolve_left (by rw [hw]; decide)
          have h2 := b.2.resolve_left (by rw [hw]; decide)
          have := (x.1.mid b.1 e).dlt
          omega
      · rw [e]; exact .inl hp
      · exact .inr ⟨x, show (h : Int) < (n : Int) by omega⟩
/-- those beneath one of ps -/
def Abv (ds : List Int) (w : Bool) (ps : List Nat) (n : Nat) : Prop := ∃ q ∈ ps, Bn ds w q n
theorem abv_nil {ds : List Int} {w : Bool} {n : Nat} : ¬ Abv ds w [] n := fun ⟨_, h, _⟩ => nomatch h
theorem abv_snoc {ds : List Int} {w : Bool} {ps : List Nat} {q n : Nat} : Abv ds w (ps ++ [q]) n ↔ Abv ds w ps n ∨ Bn ds w q n := by
  constructor
  · rintro ⟨p, h, b⟩
    rcases List.mem_append.mp h with h | h
    · exact .inl ⟨p, h, b⟩
    · rw [List.mem_singleton.mp h] at b
      exact .inr b
  · rintro (⟨p, h, b⟩ | b)
    · exact ⟨p, List.mem_append_left _ h, b⟩
    · exact ⟨q, List.mem_append_right _ (List.mem_singleton.mpr rfl), b⟩
theorem abv_in {ds : List Int} {ps : List Nat} {q n : Nat} (h : Abv ds true ps q) : Abv ds true (ps ++ [q]) n ↔ Abv ds true ps n := by
  rw [abv_snoc]
  constructor
  · rintro (x | x)
    · exact x
    · obtain ⟨p, hp, b⟩ := h
      exact ⟨p, hp, b.1.trans x.1, .inl rfl⟩
  · exact .inl
/-! ### tables -/
def wB (w : Str) : Bool := decide (w = "//")
def TabP (H : Hp) (vs : List V) (T : List (List Nat)) : Prop := Paired (fun v row => ∃ a, v = .ref a ∧ H a = some (.lst (row.map vN))) vs T
theorem TabP.same {H H' : Hp} {vs : List V} {T : List (List Nat)} (h : TabP H vs T) (s : Same H H') : TabP H' vs T := h.imp fun _ _ ⟨a, e, q⟩ => ⟨a, e, s _ _ q⟩
def GoodD (dr : List (Str × Int)) (qr : List Sr) (T : List (List Nat)) (s p : Nat) : Prop := (∃ r sr, dr[p]? = some r ∧ qr[s]? = some sr ∧ r.1 = sr.2.1) ∧ ∀ l sl, Par (qds qr) s l → qr[l]? = some sl → Hav (dps dr) (wB sl.1) (T.getD l []) p
structure DownRow (dr : List (Str × Int)) (qr : List Sr) (T : List (List Nat)) (s : Nat) (row : List Nat) : Prop where
  up : row.Pairwise (· < ·)
  mem : ∀ p, p ∈ row ↔ GoodD dr qr T s p
theorem DownRow.lt {dr : List (Str × Int)} {qr : List Sr} {T : List (List Nat)} {s : Nat} {row : List Nat} (h : DownRow dr qr T s row) {p : Nat} (hp : p ∈ row) : p < dr.length := by
  obtain ⟨⟨r, _, hr, _⟩, _⟩ := (h.mem p).mp hp
  exact (List.getElem?_eq_some_iff.mp hr).1
theorem GoodD.congr {dr : List (Str × Int)} {qr : List Sr} {T T' : List (List Nat)} {s p : Nat} (h : ∀ l, s < l → T.getD l [] = T'.getD l []) : GoodD dr qr T s p ↔ GoodD dr qr T' s p := by
  unfold GoodD
  constructor
  · rintro ⟨a, b⟩
    exact ⟨a, fun l sl hp hl => by rw [← h l hp.1.1]; exact b l sl hp hl⟩
  · rintro ⟨a, b⟩
    exact ⟨a, fun l sl hp hl => by rw [h l hp.1.1]; exact b l sl hp hl⟩
theorem DownRow.congr {dr : List (Str × Int)} {qr : List Sr} {T T' : List (List Nat)} {s : Nat} {row : List Nat} (h : ∀ l, s < l → T.getD l [] = T'.getD l []) (d : DownRow dr qr T s row) : DownRow dr qr T' s row := ⟨d.up, fun p => (d.mem p).trans (GoodD.congr h)⟩
theorem DownRow.only {dr : List (Str × Int)} {qr : List Sr} {T : List (List Nat)} {s : Nat} {row row' : List Nat} (d : DownRow dr qr T s row) (e : DownRow dr qr T s row') : row = row' := up_only d.up e.up fun n => (d.mem n).trans (e.mem n).symm
/-- the rows from n on are right -/
structure DownT (dr : List (Str × Int)) (qr : List Sr) (n : Nat) (T : List (List Nat)) : Prop where
  len : T.length = qr.length
  at_ : ∀ s row, n ≤ s → T[s]? = some row → DownRow dr qr T s row
theorem getD_set {T : List (List Nat)} {s l : Nat} {row : List Nat} (h : s ≠ l) : (T.set s row).getD l [] = T.getD l [] := by
  rw [List.getD_eq_getElem?_getD, List.getD_eq_getElem?_getD, List.getElem?_set_ne h]
theorem DownT.step {dr : List (Str × Int)} {qr : List Sr} {s : Nat} {T : List (List Nat)} {row : List Nat} (d : DownT dr qr (s + 1) T) (hs : s < qr.length) (h : DownRow dr qr T s row) : DownT dr qr s (T.set s row) := by
  refine ⟨by rw [List.length_set]; exact d.len, fun k r hk hr => ?_⟩
  by_cases c : s = k
  · subst c
    rw [List.getElem?_set_self (by rw [d.len]; exact hs)] at hr
    cases hr
    exact h.congr fun l hl => (getD_set (by omega)).symm
  · rw [List.getElem?_set_ne c] at hr
    exact (d.at_ k r (by omega) hr).congr fun l hl => (getD_set (by omega)).symm
theorem DownT.only {dr : List (Str × Int)} {qr : List Sr} {T T' : List (List Nat)} (d : DownT dr qr 0 T) (e : DownT dr qr 0 T') : T = T' := by
  have key : ∀ j s, s + j = qr.length → ∀ l, s ≤ l → T.getD l [] = T'.getD l [] := by
    intro j
    induction j with
    | zero =>
      intro s hs l hl
      rw [List.getD_eq_getElem?_getD, List.getD_eq_getElem?_getD, List.getElem?_eq_none (by rw [d.len]; omega), List.getElem?_eq_none (by rw [e.len]; omega)]
    | succ j ih =>
      intro s hs l hl
      by_cases c : s = l
      · subst c
        have h1 : s < T.length := by rw [d.len]; omega
        have h2 : s < T'.length := by rw [e.len]; omega
        have a := d.at_ s _ (Nat.zero_le _) (List.getElem?_eq_getElem h1)
        have b := e.at_ s _ (Nat.zero_le _) (List.getElem?_eq_getElem h2)
        rw [List.getD_eq_getElem?_getD, List.getD_eq_getElem?_getD, List.getElem?_eq_getElem h1, List.getElem?_eq_getElem h2]
        exact (a.congr fun l hl => ih (s + 1) (by omega) l hl).only b
      · exact ih (s + 1) (by omega) l (by omega)
  refine List.ext_getElem? fun i => ?_
  by_cases h : i < qr.length
  · have h1 : i < T.length := by rw [d.len]; omega
    have h2 : i < T'.length := by rw [e.len]; omega
    have := key qr.length 0 (by omega) i (Nat.zero_le _)
    rw [List.getD_eq_getElem?_getD, List.getD_eq_getElem?_getD, List.getElem?_eq_getElem h1, List.getElem?_eq_getElem h2] at this
    rw [List.getElem?_eq_getElem h1, List.getElem?_eq_getElem h2]
    exact congrArg some this
  · rw [List.getElem?_eq_none (by rw [d.len]; omega), List.getElem?_eq_none (by rw [e.len]; omega)]
/-! ### full tables -/
def GoodF (dr : List (Str × Int)) (qr : List Sr) (D T : List (List Nat)) (s p : Nat) : Prop := p ∈ D.getD s [] ∧ ∃ sr, qr[s]? = some sr ∧ (((∀ u, ¬ An (qds qr) u s) ∧ (sr.1 = "//" ∨ p = 0)) ∨ ∃ u, Par (qds qr) u s ∧ Abv (dps dr) (wB sr.1) (T.getD u []) p)
structure FullRow (dr : List (Str × Int)) (qr : List Sr) (D T : List (List Nat)) (s : Nat) (row : List Nat) : Prop where
  up : row.Pairwise (· < ·)
  mem : ∀ p, p ∈ row ↔ GoodF dr qr D T s p
theorem GoodF.congr {dr : List (Str × Int)} {qr : List Sr} {D T T' : List (List Nat)} {s p : Nat} (h : ∀ l, l < s → T.getD l [] = T'.getD l []) : GoodF dr qr D T s p → GoodF dr qr D T' s p := by
  rintro ⟨a, sr, b, c⟩
  refine ⟨a, sr, b, c.imp id ?_⟩
  rintro ⟨u, hp, hq⟩
  exact ⟨u, hp, by rw [← h u hp.1.1]; exact hq⟩
theorem FullRow.congr {dr : List (Str × Int)} {qr : List Sr} {D T T' : List (List Nat)} {s : Nat} {row : List Nat} (h : ∀ l, l < s → T.getD l [] = T'.getD l []) (d : FullRow dr qr D T s row) : FullRow dr qr D T' s row :=
  ⟨d.up, fun p => (d.mem p).trans ⟨GoodF.congr h, GoodF.congr fun l hl => (h l hl).symm⟩⟩
theorem FullRow.only {dr : List (Str × Int)} {qr : List Sr} {D T : List (List Nat)} {s : Nat} {row row' : List Nat} (d : FullRow dr qr D T s row) (e : FullRow dr qr D T s row') : row = row' := up_only d.up e.up fun n => (d.mem n).trans (e.mem n).symm
/-- the first rows -/
def FullT (dr : List (Str × Int)) (qr : List Sr) (D : List (List Nat)) (T : List (List Nat)) : Prop := ∀ s row, T[s]? = some row → FullRow dr qr D T s row
theorem getD_app {T : List (List Nat)} {l : Nat} {row : List Nat} (h : l < T.length) : (T ++ [row]).getD l [] = T.getD l [] := by
  rw [List.getD_eq_getElem?_getD, List.getD_eq_getElem?_getD, List.getElem?_append_left h]
theorem FullT.snoc {dr : List (Str × Int)} {qr : List Sr} {D T : List (List Nat)} {row : List Nat} (d : FullT dr qr D T) (h : FullRow dr qr D T T.length row) : FullT dr qr D (T ++ [row]) := by
  intro s r hr
  by_cases c : s < T.length
  · rw [List.getElem?_append_left c] at hr
    exact (d s r hr).congr fun l hl => (getD_app (by omega)).symm
  · have hs : s = T.length := by
      have := (List.getElem?_eq_some_iff.mp hr).1
      rw [List.length_append, List.length_singleton] at this
      omega
    subst hs
    rw [List.getElem?_append_right (Nat.le_refl _), Nat.sub_self] at hr
    cases hr
    exact h.congr fun l hl => (getD_app (by omega)).symm
theorem FullT.only {dr : List (Str × Int)} {qr : List Sr} {D T T' : List (List Nat)} (d : FullT dr qr D T) (e : FullT dr qr D T') (hl : T.length = T'.length) : T = T' := by
  have key : ∀ s, ∀ l, l < s → T.getD l [] = T'.getD l [] := by
    intro s
    induction s with
    | zero => intro l hl; omega
    | succ s ih =>
      intro l hls
      by_cases c : l < s
      · exact ih l c
      · have : l = s := by omega
        subst this
        by_cases h : l < T.length
        · have h2 : l < T'.length := by omega
          rw [List.getD_eq_getElem?_getD, List.getD_eq_getElem?_getD, List.getElem?_eq_getElem h, List.getElem?_eq_getElem h2]
          exact ((d l _ (List.getElem?_eq_getElem h)).congr ih).only (e l _ (List.getElem?_eq_getElem h2))
        · rw [List.getD_eq_getElem?_getD, List.getD_eq_getElem?_getD, List.getElem?_eq_none (by omega), List.getElem?_eq_none (by omega)]
  refine List.ext_getElem? fun i => ?_
  by_cases h : i < T.length
  · have h2 : i < T'.length := by omega
    have := key (i + 1) i (by omega)
    rw [List.getD_eq_getElem?_getD, List.getD_eq_getElem?_getD, List.getElem?_eq_getElem h, List.getElem?_eq_getElem h2] at this
    rw [List.getElem?_eq_getElem h, List.getElem?_eq_getElem h2]
    exact congrArg some this
  · rw [List.getElem?_eq_none (by omega), List.getElem?_eq_none (by omega)]
/-- rows that are new -/
def TabF (H0 H : Hp) (vs : List V) (T : List (List Nat)) : Prop := Paired (fun v row => ∃ a, v = .ref a ∧ H0 a = none ∧ H a = some (.lst (row.map vN))) vs T
theorem TabF.same {H0 H H' : Hp} {vs : List V} {T : List (List Nat)} (h : TabF H0 H vs T) (s : Same H H') : TabF H0 H' vs T := h.imp fun _ _ ⟨a, e, n, q⟩ => ⟨a, e, n, s _ _ q⟩
theorem TabF.tab {H0 H : Hp} {vs : List V} {T : List (List Nat)} (h : TabF H0 H vs T) : TabP H vs T := h.imp fun _ _ ⟨a, e, n, q⟩ => ⟨a, e, q⟩
theorem wB_t {w : Str} (h : w = "//") : wB w = true := decide_eq_true h
theorem wB_f {w : Str} (h : w = "/") : wB w = false := decide_eq_false (by rw [h]; decide)
theorem rg_nat (q e : Nat) : ∃ ls : List Nat, rgV ((q : Int) + 1) ((e : Int) + 1) = ls.map vN ∧ (∀ n, n ∈ ls ↔ q < n ∧ n ≤ e) ∧ ls.length = e - q := by
  refine ⟨(List.range (e - q)).map fun i => q + 1 + i, ?_, fun n => ?_, by simp⟩
  · unfold rgV
    rw [show (((e : Int) + 1) - ((q : Int) + 1)).toNat = e - q by omega, List.map_map]
    apply List.map_congr_left
    intro i _
    show V.int ((q : Int) + 1 + (i : Int)) = V.int ((q + 1 + i : Nat) : Int)
    congr 1
  · rw [List.mem_map]
    constructor
    · rintro ⟨i, hi, rfl⟩
      rw [List.mem_range] at hi
      omega
    · rintro ⟨h1, h2⟩
      exact ⟨n - (q + 1), by rw [List.mem_range]; omega, by omega⟩
theorem up_len {l : List Nat} {n : Nat} (h : l.Pairwise (· < ·)) (hn : ∀ p ∈ l, p < n) : l.length ≤ n := by
  have h1 : l.Nodup := h.imp fun a => Nat.ne_of_lt a
  have := List.Nodup.length_le_of_subset (l₂ := List.range n) h1 fun p hp => List.mem_range.mpr (hn p hp)
  simpa using this
theorem paired_vN (l : List Nat) : Paired (fun v n => v = vN n) (l.map vN) l := by
  induction l with
  | nil => exact .nil
  | cons a l ih => exact .cons rfl ih
theorem all_map_id {α : Type} (l : List α) (f : α → Bool) : (l.map f).all id = l.all f := by
  rw [List.all_map]
  rfl
theorem TabF.upd {H0 H : Hp} {vs : List V} {T : List (List Nat)} {t : Addr} {o u : HO} (h : TabF H0 H vs T) (ht : H0 t = some o) : TabF H0 (L2.upd H t u) vs T := h.imp fun _ _ ⟨a, e, n, q⟩ => ⟨a, e, n, by
  rw [upd_ne (fun z => by rw [z, ht] at n; cases n)]
  exact q⟩
theorem TabF.back {H0 H1 H : Hp} {vs : List V} {T : List (List Nat)} (h : TabF H1 H vs T) (s : Same H0 H1) : TabF H0 H vs T := h.imp fun _ _ ⟨a, e, n, q⟩ => ⟨a, e, s.free n, q⟩
theorem DownT.row {dr : List (Str × Int)} {qr : List Sr} {D : List (List Nat)} (hD : DownT dr qr 0 D) {s : Nat} (hs : s < qr.length) : ∃ row, D[s]? = some row ∧ D.getD s [] = row ∧ DownRow dr qr D s row := by
  have h : s < D.length := by rw [hD.len]; exact hs
  refine ⟨D[s], List.getElem?_eq_getElem h, ?_, hD.at_ s _ (Nat.zero_le _) (List.getElem?_eq_getElem h)⟩
  rw [List.getD_eq_getElem?_getD, List.getElem?_eq_getElem h]
  rfl
theorem DownT.lt {dr : List (Str × Int)} {qr : List Sr} {D : List (List Nat)} (hD : DownT dr qr 0 D) {s p : Nat} (h : p ∈ D.getD s []) : p < dr.length := by
  by_cases c : s < qr.length
  · obtain ⟨row, _, e, d⟩ := hD.row c
    rw [e] at h
    exact d.lt h
  · rw [List.getD_eq_getElem?_getD, List.getElem?_eq_none (by rw [hD.len]; omega)] at h
    simp at h
theorem FullRow.lt {dr : List (Str × Int)} {qr : List Sr} {D T : List (List Nat)} {s : Nat} {row : List Nat} (hD : DownT dr qr 0 D) (h : FullRow dr qr D T s row) {p : Nat} (hp : p ∈ row) : p < dr.length := hD.lt ((h.mem p).mp hp).1
end Bg

namespace Bg
open PySem PySem.Spec PyProof.Rows L2
/-! ### texts of small letters -/
def LowS (z : Str) : Prop := z.cps.toList.all isLow = true
def abc : Str := "abcdefghijklmnopqrstuvwxyz"
theorem abc_len : abc.cps.toList.length = 26 := by decide +kernel
theorem abc_low : abc.cps.toList.all isLow = true := by decide +kernel
theorem abc_at {i : Int} (h0 : 0 ≤ i) (h1 : i < 26) : ∃ c, atI abc.cps.toList i = some c ∧ isLow c = true := by
  obtain ⟨j, rfl⟩ := Int.eq_ofNat_of_zero_le h0
  have hj : j < abc.cps.toList.length := by rw [abc_len]; omega
  exact ⟨_, atI_nat (List.getElem?_eq_getElem hj), List.all_eq_true.mp abc_low _ (List.getElem_mem hj)⟩
theorem lows_one {c : Nat} (h : isLow c = true) : LowS ⟨#[c]⟩ := by
  unfold LowS
  simp [h]
theorem lows_app {y z : Str} (hy : LowS y) (hz : LowS z) : LowS (y ++ z) := by
  unfold LowS at *
  rw [show (y ++ z).cps = y.cps ++ z.cps from rfl, Array.toList_append, List.all_append, hy, hz]
  rfl
theorem len_app (y z : Str) : (y ++ z).length = y.length + z.length := by
  show (y ++ z).cps.size = _
  rw [show (y ++ z).cps = y.cps ++ z.cps from rfl, Array.size_append]
  rfl
theorem lows_cut {z : Str} (h : LowS z) (a b : Option Int) : LowS (cutS z a b) := by
  unfold LowS at *
  rw [List.all_eq_true] at *
  intro c hc
  refine h c ?_
  unfold cutS at hc
  rw [List.toList_toArray] at hc
  exact List.mem_of_mem_drop (List.mem_of_mem_take hc)
theorem len_cut_to (z : Str) (i : Int) (h : 0 ≤ i) : ((cutS z none (some i)).length : Int) ≤ i ∧ (cutS z none (some i)).length ≤ z.length := by
  obtain ⟨n, rfl⟩ := Int.eq_ofNat_of_zero_le h
  have e : (cutS z none (some (n : Int))).length = min n z.length := by
    show (cutS z none (some (n : Int))).cps.size = _
    unfold cutS
    rw [HT.sIx_none, HT.sIx_nat]
    have : z.cps.toList.length = z.length := by simp [Str.length]
    simp [this]
  rw [e]
  omega
theorem lows_fold : ∀ (r : List Str) (acc : Array Nat), acc.toList.all isLow = true → (∀ y ∈ r, LowS y) → (r.foldl (fun acc p => acc ++ ("" : Str).cps ++ p.cps) acc).toList.all isLow = true
  | [], acc, h, _ => h
  | y :: r, acc, h, hr => by
    rw [List.foldl_cons]
    refine lows_fold r _ ?_ fun z hz => hr z (List.mem_cons_of_mem _ hz)
    have := hr y (List.mem_cons_self ..)
    unfold LowS at this
    rw [Array.toList_append, Array.toList_append, List.all_append, List.all_append, h, this]
    rfl
theorem lows_join {ys : List Str} (h : ∀ y ∈ ys, LowS y) : LowS (Txt.join "" ys) := by
  cases ys with
  | nil => unfold LowS; decide +kernel
  | cons y r => exact lows_fold r y.cps (h y (List.mem_cons_self ..)) fun z hz => h z (List.mem_cons_of_mem _ hz)
theorem label_of_low {z : Str} (h : LowS z) (h1 : 1 ≤ z.length) (h2 : z.length ≤ 8) : labelB z = true := by
  unfold labelB
  rw [decide_eq_true h1, decide_eq_true h2, h]
  rfl
/-! ### questions, as they are drawn -/
def DocD (rows : List (Str × Int)) : Prop := DocOk rows
theorem dv_map {rows : List (Str × Int)} (h : Dv (rows.map (·.2))) : Dv (dps rows) := h
theorem doc_ok {rows : List (Str × Int)} {labels : List Str} (h1 : 1 ≤ rows.length) (h2 : rows.length ≤ 240) (hl : ∀ r ∈ rows, r.1 ∈ labels) (hb : ∀ z ∈ labels, labelB z = true) (dv : Dv (rows.map (·.2))) (hd : ∀ r ∈ rows, r.2 ≤ 80) : DocOk rows := ⟨h1, h2, fun r hr => hb _ (hl r hr), dv, hd⟩
theorem _root_.L2.SqL.updNe {K : PySem.W.Frag} {H : Hp} {a b : Addr} {xs : List V} {o : HO} (h : SqL K H a xs) (n : a ≠ b) : SqL K (L2.upd H b o) a xs := by
  rcases h with (h | ⟨o', h⟩) | h
  · exact .inl (.inl ((upd_ne n).trans h))
  · exact .inl (.inr ⟨o', (upd_ne n).trans h⟩)
  · exact .inr h
def wldD (p s : Addr) (g : Int) : List (Key × V) := [(Sum.inr "parts", .ref p), (Sum.inr "steps", .ref s), (Sum.inr "wanted", .int g)]
theorem w_ps : ¬ (("parts" : Str) = "steps") := by decide +kernel
theorem w_pw : ¬ (("parts" : Str) = "wanted") := by decide +kernel
theorem w_sw : ¬ (("steps" : Str) = "wanted") := by decide +kernel
theorem wld_merge (p s : Addr) (g : Int) : mergeK [] [(Sum.inr "parts", .ref p), (Sum.inr "steps", .ref s), (Sum.inr "wanted", .int g)] = wldD p s g := by
  have e1 := kne w_ps
  have e2 := kne w_pw
  have e3 := kne w_sw
  simp [mergeK, putK, wldD, e1, e2, e3]
theorem wld_p (p s : Addr) (g : Int) : valV (wldD p s g) (Sum.inr "parts") = some (.ref p) := valV_pos rfl
theorem wld_s (p s : Addr) (g : Int) : valV (wldD p s g) (Sum.inr "steps") = some (.ref s) := by
  have e1 := kne w_ps
  simp [valV, wldD, e1]
theorem wld_w (p s : Addr) (g : Int) : valV (wldD p s g) (Sum.inr "wanted") = some (.int g) := by
  have e2 := kne w_pw
  have e3 := kne w_sw
  simp [valV, wldD, e2, e3]
theorem wget_p {H : Hp} {a p s : Addr} {g : Int} (h : H a = some (.dK (wldD p s g))) : DGet H a (.str "parts") (some (.ref p)) := by
  have := DGet.k (k := Sum.inr "parts") h
  rw [wld_p] at this
  exact this
theorem wget_s {H : Hp} {a p s : Addr} {g : Int} (h : H a = some (.dK (wldD p s g))) : DGet H a (.str "steps") (some (.ref s)) := by
  have := DGet.k (k := Sum.inr "steps") h
  rw [wld_s] at this
  exact this
theorem wget_w {H : Hp} {a p s : Addr} {g : Int} (h : H a = some (.dK (wldD p s g))) : DGet H a (.str "wanted") (some (.int g)) := by
  have := DGet.k (k := Sum.inr "wanted") h
  rw [wld_w] at this
  exact this
structure WldIn (K : PySem.W.Frag) (H : Hp) (p : Addr) (dr : List (Str × Int)) (qr : List Sr) (g : Nat) (pa sa : Addr) (pv sv : List V) : Prop where
  ob : H p = some (.dK (wldD pa sa g))
  pa_ : H pa = some (.lst pv)
  sa_ : H sa = some (.lst sv)
  pp : PL K H eRow pv dr
  ps : PL K H eStep sv qr
  dok : DocOk dr
  qok : QuOk qr g
def Wld (K : PySem.W.Frag) (H : Hp) (p : Addr) (dr : List (Str × Int)) (qr : List Sr) (g : Nat) : Prop := ∃ pa sa pv sv, WldIn K H p dr qr g pa sa pv sv
theorem WldIn.same {K : PySem.W.Frag} {H H' : Hp} {p : Addr} {dr : List (Str × Int)} {qr : List Sr} {g : Nat} {pa sa : Addr} {pv sv : List V} (h : WldIn K H p dr qr g pa sa pv sv) (s : Same H H') : WldIn K H' p dr qr g pa sa pv sv := ⟨s _ _ h.ob, s _ _ h.pa_, s _ _ h.sa_, h.pp.same s, h.ps.same s, h.dok, h.qok⟩
/-! ### the law's own tables -/
def bnD (d1 d2 : Addr) : List (Key × V) := [(Sum.inr "/", .ref d1), (Sum.inr "//", .ref d2)]
theorem w_12 : ¬ (("/" : Str) = "//") := by decide +kernel
theorem w_21 : ¬ (("//" : Str) = "/") := by decide +kernel
theorem bn_merge (d1 : Addr) : mergeK [] [((Sum.inr "/" : Key), V.ref d1)] = [((Sum.inr "/" : Key), V.ref d1)] := by simp [mergeK, putK]
theorem bn_put (d1 d2 : Addr) : putK [((Sum.inr "/" : Key), V.ref d1)] (Sum.inr "//" : Key) (V.ref d2) = bnD d1 d2 := by
  have e1 := kne w_12
  simp [putK, bnD, e1]
theorem bn_get {H : Hp} {b d1 d2 : Addr} (h : H b = some (.dK (bnD d1 d2))) {w : Str} (hw : w = "/" ∨ w = "//") : DGet H b (.str w) (some (.ref (if wB w = true then d2 else d1))) := by
  rcases hw with rfl | rfl
  · have := DGet.k (k := Sum.inr "/") h
    rw [show valV (bnD d1 d2) (Sum.inr "/") = some (.ref d1) from valV_pos rfl] at this
    exact this
  · have := DGet.k (k := Sum.inr "//") h
    have e1 := kne w_12
    rw [show valV (bnD d1 d2) (Sum.inr "//") = some (.ref d2) by simp [valV, bnD, e1]] at this
    exact this
structure LEnv (K : PySem.W.Frag) (H : Hp) (pa sa b ua : Addr) (pv sv : List V) (dr : List (Str × Int)) (qr : List Sr) (g : Nat) (d1 d2 : Addr) (kv1 kv2 : List (List Key × V)) (us : List (Option Int)) : Prop where
  hpa : SqL K H pa pv
  pp : PL K H eRow pv dr
  dok : DocOk dr
  hsa : SqL K H sa sv
  ps : PL K H eStep sv qr
  qok : QuOk qr g
  hb : H b = some (.dK (bnD d1 d2))
  h1 : H d1 = some (.dT kv1)
  p1 : Prs (dps dr) false dr.length kv1
  h2 : H d2 = some (.dT kv2)
  p2 : Prs (dps dr) true dr.length kv2
  hu : H ua = some (.lst (us.map vOpt))
  uo : UpOk (qds qr) us
section
variable {K : PySem.W.Frag} {H H' : Hp} {pa sa b ua : Addr} {pv sv : List V} {dr : List (Str × Int)} {qr : List Sr} {g : Nat} {d1 d2 : Addr} {kv1 kv2 : List (List Key × V)} {us : List (Option Int)}
theorem LEnv.same (h : LEnv K H pa sa b ua pv sv dr qr g d1 d2 kv1 kv2 us) (s : Same H H') : LEnv K H' pa sa b ua pv sv dr qr g d1 d2 kv1 kv2 us :=
  ⟨s.seq h.hpa, h.pp.same s, h.dok, s.seq h.hsa, h.ps.same s, h.qok, s _ _ h.hb, s _ _ h.h1, h.p1, s _ _ h.h2, h.p2, s _ _ h.hu, h.uo⟩
/-- the dict of a way, and what it has -/
theorem LEnv.way (h : LEnv K H pa sa b ua pv sv dr qr g d1 d2 kv1 kv2 us) {w : Str} (hw : w = "/" ∨ w = "//") : ∃ d kv, DGet H b (.str w) (some (.ref d)) ∧ H d = some (.dT kv) ∧ ∀ p q : Nat, q < dr.length → (has2 kv p q ↔ Bn (dps dr) (wB w) p q) := by
  have key : ∀ {x : Bool} {kv : List (List Key × V)}, Prs (dps dr) x dr.length kv → ∀ p q : Nat, q < dr.length → (has2 kv p q ↔ Bn (dps dr) x p q) := fun hp p q hq => by
    rw [hp]
    constructor
    · rintro ⟨a, b, e1, e2, _, hb⟩
      have e1 : p = a := by omega
      have e2 : q = b := by omega
      rw [e1, e2]
      exact hb
    · intro hb
      exact ⟨p, q, rfl, rfl, hq, hb⟩
  cases e : wB w with
  | true => exact ⟨d2, kv2, by have := bn_get h.hb hw; rw [e] at this; exact this, h.h2, key h.p2⟩
  | false => exact ⟨d1, kv1, by have := bn_get h.hb hw; rw [e] at this; exact this, h.h1, key h.p1⟩
theorem LEnv.row (h : LEnv K H pa sa b ua pv sv dr qr g d1 d2 kv1 kv2 us) {p : Nat} (hp : p < dr.length) : ∃ t, atI pv (p : Int) = some (.ref t) ∧ SqT K H t [.str dr[p].1, .int dr[p].2] := by
  obtain ⟨v, hv, dv⟩ := h.pp.get' (List.getElem?_eq_getElem hp)
  obtain ⟨t, rfl, ht⟩ := dp_row dv
  exact ⟨t, atI_nat hv, ht⟩
theorem LEnv.step (h : LEnv K H pa sa b ua pv sv dr qr g d1 d2 kv1 kv2 us) {p : Nat} (hp : p < qr.length) : ∃ t, atI sv (p : Int) = some (.ref t) ∧ SqT K H t [.str qr[p].1, .str qr[p].2.1, .int qr[p].2.2] := by
  obtain ⟨v, hv, dv⟩ := h.ps.get' (List.getElem?_eq_getElem hp)
  obtain ⟨t, rfl, ht⟩ := dp_step dv
  exact ⟨t, atI_nat hv, ht⟩
theorem LEnv.up (h : LEnv K H pa sa b ua pv sv dr qr g d1 d2 kv1 kv2 us) {l : Nat} (hl : l < qr.length) : ∃ o, atI (us.map vOpt) (l : Int) = some (vOpt o) ∧ UpAt (qds qr) l o := by
  have hlt : l < us.length := by rw [h.uo.len, qds_len]; exact hl
  exact ⟨us[l], atI_nat (by rw [List.getElem?_map, List.getElem?_eq_getElem hlt]; rfl), h.uo.at_ l _ (List.getElem?_eq_getElem hlt)⟩
end
theorem up_par {ds : List Int} {l st : Nat} {o : Option Int} (h : UpAt ds l o) : vOpt o = V.int (st : Int) ↔ Par ds st l := by
  cases o with
  | none => exact ⟨(fun z => nomatch z), (fun p => absurd p.1 (h st))⟩
  | some u =>
    obtain ⟨m, rfl, p⟩ := h
    constructor
    · intro z
      injection z with z
      have : m = st := by omega
      rw [← this]
      exact p
    · intro q
      rw [p.only q]
      rfl
theorem TabF.row {H0 H : Hp} {vs : List V} {T : List (List Nat)} {s : Nat} {a : Addr} {row : List Nat} (h : TabF H0 H vs T) (nd : vs.Nodup) (ha : vs[s]? = some (.ref a)) : TabF H0 (L2.upd H a (.lst (row.map vN))) vs (T.set s row) := by
  have hlen : vs.length = T.length := Paired.length h
  refine Paired.of_get (by rw [List.length_set]; exact hlen) fun i v r hv hr => ?_
  by_cases c : s = i
  · subst c
    rw [ha] at hv
    cases hv
    have hs : s < T.length := by rw [← hlen]; exact (List.getElem?_eq_some_iff.mp ha).1
    rw [List.getElem?_set_self hs] at hr
    cases hr
    obtain ⟨r', _, b, e, n, _⟩ := Paired.get h ha
    cases e
    exact ⟨a, rfl, n, upd_same⟩
  · rw [List.getElem?_set_ne c] at hr
    obtain ⟨r', hr', b, e, n, q⟩ := Paired.get h hv
    rw [hr] at hr'
    cases hr'
    subst e
    refine ⟨b, rfl, n, ?_⟩
    rw [upd_ne (fun z => c ?_)]
    · exact q
    · subst z
      obtain ⟨h1, e1⟩ := List.getElem?_eq_some_iff.mp ha
      obtain ⟨h2, e2⟩ := List.getElem?_eq_some_iff.mp hv
      have np := List.pairwise_iff_getElem.mp nd
      rcases Nat.lt_trichotomy s i with x | x | x
      · exact absurd (e1.trans e2.symm) (np s i h1 h2 x)
      · exact x
      · exact absurd (e2.trans e1.symm) (np i s h2 h1 x)
theorem TabF.addr {H0 H : Hp} {vs : List V} {T : List (List Nat)} {s : Nat} (h : TabF H0 H vs T) (hs : s < T.length) : ∃ a, vs[s]? = some (.ref a) ∧ H0 a = none ∧ H a = some (.lst (T[s].map vN)) := by
  obtain ⟨v, hv, a, rfl, n, q⟩ := Paired.get' h (List.getElem?_eq_getElem hs)
  exact ⟨a, hv, n, q⟩
theorem pl_vN {K : PySem.W.Frag} {H : Hp} (l : List Nat) : PL K H (fun n : Nat => PyData.int (n : Int)) (l.map vN) l := by
  induction l with
  | nil => exact .nil
  | cons a l ih => exact .cons (.int _) ih
theorem gd_nats (l : List Nat) : Gd 1 (.list (l.map fun n : Nat => PyData.int (n : Int))) := Gd.map fun n _ => gd_int _
theorem set_nil {T : List (List Nat)} {s : Nat} (h : T[s]? = some []) : T.set s [] = T := by
  refine List.ext_getElem? fun i => ?_
  by_cases c : s = i
  · subst c
    rw [List.getElem?_set_self (List.getElem?_eq_some_iff.mp h).1, h]
  · rw [List.getElem?_set_ne c]
theorem filter_some {α : Type} (l : List α) (f : α → Bool) : (!(l.filter f).isEmpty) = true ↔ ∃ x ∈ l, f x = true := by
  cases e : l.filter f with
  | nil =>
    constructor
    · intro z; cases z
    · rintro ⟨x, hx, hf⟩
      have : x ∈ l.filter f := List.mem_filter.mpr ⟨hx, hf⟩
      rw [e] at this
      cases this
  | cons y r =>
    constructor
    · intro _
      have : y ∈ l.filter f := by rw [e]; exact List.mem_cons_self ..
      exact ⟨y, (List.mem_filter.mp this).1, (List.mem_filter.mp this).2⟩
    · intro _; rfl
theorem dget_same {H H' : Hp} {b : Addr} {y : V} {r : Option V} (h : DGet H b y r) (s : Same H H') : DGet H' b y r := by
  rcases h with ⟨kvs, k, hr, e1, e2⟩ | ⟨kvs, k, c, hr, e1, h2, e2⟩
  · refine .inl ⟨kvs, k, ?_, e1, e2⟩
    rcases hr with hr | ⟨o, hr⟩
    · exact .inl (s _ _ hr)
    · exact .inr ⟨o, s _ _ hr⟩
  · refine .inr ⟨kvs, k, c, ?_, e1, s _ _ h2, e2⟩
    rcases hr with hr | ⟨o, hr⟩
    · exact .inl (s _ _ hr)
    · exact .inr ⟨o, s _ _ hr⟩
theorem an_root {ds : List Int} (dv : Dv ds) {k : Nat} (h0 : 0 < k) (hk : k < ds.length) : An ds 0 k := by
  refine ⟨h0, hk, fun j h1 h2 => ?_⟩
  obtain ⟨m, rfl⟩ : ∃ m, j = m + 1 := ⟨j - 1, by omega⟩
  have := (dv.two m (by omega)).1
  have := dv.one
  omega
theorem made0 {H : Hp} {x dx : Addr} {o u : HO} (hx : H x = none) (hd : H dx = none) (hne : dx ≠ x) : Same H (L2.upd (L2.upd H dx o) x u) := (L2.Same.new hd).mut hx
def eT (row : List Nat) : PyData := .list (row.map fun n : Nat => PyData.int (n : Int))
theorem tab_pl {K : PySem.W.Frag} {H : Hp} {vs : List V} {T : List (List Nat)} (h : TabP H vs T) : PL K H eT vs T := h.imp fun v row ⟨a, e, q⟩ => by
  subst e
  exact (pl_vN row).dp (SqL.of q)
theorem gd_tab (T : List (List Nat)) : Gd 2 (.list (T.map eT)) := Gd.map fun row _ => gd_nats row
end Bg

namespace Lw
open PySem PySem.Spec PyProof.Rows L2 Bg
def top (i : Nat) : Stmt := PySem.Challenge.pw_boughask_k21_tables_told.main.body.getD i (.Pass ⟨0, 0, 0, 0⟩)
local macro_rules | `(tactic| walk_at "pos") => `(tactic| (show (0 : Int) < _; decide))

abbrev st_law_take : Stmt := (top 43)
abbrev st_law_labels : Stmt := (top 44)
abbrev st_law_depth : Stmt := (top 45)
abbrev st_law_rows : Stmt := (top 46)
abbrev st_law_steps : Stmt := (top 47)
abbrev st_law_world : Stmt := (top 50)
abbrev st_law_source : Stmt := (top 42)
abbrev st_law_beneath : Stmt := (top 49)
abbrev st_law_uppers : Stmt := (top 48)
abbrev st_law_down : Stmt := (top 51)
abbrev st_law_full : Stmt := (top 52)
abbrev st_is_whole : Stmt := (top 4)
abbrev st_is_within : Stmt := (top 5)
abbrev st_is_label : Stmt := (top 6)
abbrev st_is_part_row : Stmt := (top 27)
abbrev st_ends_by : Stmt := (top 25)
abbrev st_uppers_by : Stmt := (top 26)
abbrev st_Document_init : Stmt := (inClass (top 28) 0)
abbrev st_is_step_row : Stmt := (top 38)
abbrev st_Straight_init : Stmt := (inClass (top 30) 0)
abbrev st_Anywhere_init : Stmt := (inClass (top 30) 0)
abbrev st_step_of : Stmt := (top 33)
abbrev st_Question_init : Stmt := (inClass (top 39) 0)
abbrev st_law_same : Stmt := (top 53)
abbrev st_Question_many : Stmt := (inClass (top 39) 2)
abbrev st_Question_need_step : Stmt := (inClass (top 39) 1)
abbrev st_Question_lowers_of : Stmt := (inClass (top 39) 7)
abbrev st_Document_need_part : Stmt := (inClass (top 28) 1)
abbrev st_Document_upper_of : Stmt := (inClass (top 28) 6)
abbrev st_with_beneath : Stmt := (top 8)
abbrev st_Straight_way : Stmt := (inClass (top 31) 0)
abbrev st_Anywhere_way : Stmt := (inClass (top 32) 0)
abbrev st_Question_step_at : Stmt := (inClass (top 39) 3)
abbrev st_Document_parts_of : Stmt := (inClass (top 28) 9)
abbrev st_down_row : Stmt := (top 10)
abbrev st_down_table : Stmt := (top 12)
abbrev st_Question_upper_of : Stmt := (inClass (top 39) 6)
abbrev st_Document_lowers_of : Stmt := (inClass (top 28) 7)
abbrev st_Document_end_of : Stmt := (inClass (top 28) 5)
abbrev st_with_above : Stmt := (top 9)
abbrev st_full_row : Stmt := (top 11)
abbrev st_full_table : Stmt := (top 13)
abbrev st_law_right : Stmt := (top 54)
abbrev st_law_cell_at : Stmt := (top 41)
abbrev st_law : Stmt := (top 55)
def sp_law_take (K : PySem.W.Frag) : Sp := fun vs H Q _ => ∃ (a : Addr) (m n s t : Int), vs = [.ref a, .int m] ∧ H a = some (.dK (srcD n s t)) ∧ 0 < m ∧ m < 1073741824 ∧ ∀ r H', 0 ≤ r → r < m → But a H H' → Src H' a → Q (.int r) H'
def sp_law_labels (K : PySem.W.Frag) : Sp := fun vs H Q _ => ∃ (a : Addr) (many : Int), vs = [.ref a, .int many] ∧ Src H a ∧ 0 ≤ many ∧ many ≤ 1000 ∧ ∀ H' p (ls : List Str), But a H H' → Src H' a → H p = none → H' p = some (.lst (ls.map V.str)) → (ls.length : Int) = many → (∀ z ∈ ls, labelB z = true) → Q (.ref p) H'
def sp_law_depth (K : PySem.W.Frag) : Sp := fun vs H Q _ => ∃ (a : Addr) (sh ab : Int), vs = [.ref a, .int sh, .int ab] ∧ Src H a ∧ 0 ≤ ab ∧ ab ≤ 100000 ∧ ∀ r H', But a H H' → Src H' a → (ab = 0 → r = 1) → (0 < ab → 2 ≤ r ∧ r ≤ ab + 1) → Q (.int r) H'
def sp_law_rows (K : PySem.W.Frag) : Sp := fun vs H Q _ => ∃ (a la : Addr) (most deep : Int) (labels : List Str), vs = [.ref a, .ref la, .int most, .int deep] ∧ Src H a ∧ SqL K H la (labels.map V.str) ∧ 1 ≤ labels.length ∧ labels.length ≤ 1000 ∧ 0 < most ∧ most ≤ 1000 ∧ 2 ≤ deep ∧ deep ≤ 1000 ∧
  ∀ H' p vs' rows, But a H H' → Src H' a → H p = none → H' p = some (.lst vs') → PL K H' eRow vs' rows → (rows.length : Int) ≤ most → 1 ≤ rows.length → (∀ r ∈ rows, r.1 ∈ labels) → Dv (rows.map (·.2)) → (∀ r ∈ rows, r.2 ≤ deep) → Q (.ref p) H'
def sp_law_steps (K : PySem.W.Frag) : Sp := fun vs H Q _ => ∃ (a la : Addr) (most deep : Int) (labels : List Str), vs = [.ref a, .ref la, .int most, .int deep] ∧ Src H a ∧ SqL K H la (labels.map V.str) ∧ 1 ≤ labels.length ∧ labels.length ≤ 1000 ∧ 0 < most ∧ most ≤ 1000 ∧ 2 ≤ deep ∧ deep ≤ 1000 ∧
  ∀ H' p vs' (qs : List Sr), But a H H' → Src H' a → H p = none → H' p = some (.lst vs') → PL K H' eStep vs' qs → (qs.length : Int) ≤ most → 1 ≤ qs.length → (∀ x ∈ qs, x.1 = "/" ∨ x.1 = "//") → (∀ x ∈ qs, x.2.1 ∈ labels) → Dv (qds qs) → (∀ x ∈ qs, x.2.2 ≤ deep) → Q (.ref p) H'
def sp_law_world (K : PySem.W.Frag) : Sp := fun vs H Q _ => ∃ (a : Addr) (most sm : Int), vs = [.ref a, .int most, .int sm] ∧ Src H a ∧ 0 < most ∧ most ≤ 240 ∧ 0 < sm ∧ sm ≤ 100 ∧ ∀ H' p dr qr g, But a H H' → Src H' a → H p = none → Wld K H' p dr qr g → Q (.ref p) H'
def sp_law_source (K : PySem.W.Frag) : Sp := fun vs H Q _ => ∃ (c : Int), vs = [.int c] ∧ ∀ p H', H p = none → Same H H' → Src H' p → Q (.ref p) H'
def sp_law_beneath (K : PySem.W.Frag) : Sp := fun vs H Q _ => ∃ (l : Addr) (w : Str) (ds : List Int) (us : List (Option Int)), vs = [.ref l, .str w] ∧ (w = "/" ∨ w = "//") ∧ SqL K H l (us.map vOpt) ∧ UpOk ds us ∧ ds.length ≤ 1000 ∧ ∀ H' p kv, Same H H' → H p = none → H' p = some (.dT kv) → Prs ds (decide (w = "//")) ds.length kv → Q (.ref p) H'
def sp_law_uppers (K : PySem.W.Frag) : Sp := fun vs H Q _ => ∃ (l : Addr) (ds : List Int), vs = [.ref l] ∧ SqL K H l (ds.map V.int) ∧ Dv ds ∧ ds.length ≤ 1000 ∧ ∀ H' p us, Same H H' → H p = none → H' p = some (.lst (us.map vOpt)) → UpOk ds us → Q (.ref p) H'
def sp_law_down (K : PySem.W.Frag) : Sp := fun vs H Q _ => ∃ (pa sa : Addr) (pv sv : List V) (dr : List (Str × Int)) (qr : List Sr) (g : Nat), vs = [.ref pa, .ref sa] ∧ SqL K H pa pv ∧ PL K H eRow pv dr ∧ DocOk dr ∧ SqL K H sa sv ∧ PL K H eStep sv qr ∧ QuOk qr g ∧ ∀ H' p tv T, Same H H' → H p = none → H' p = some (.lst tv) → TabF H H' tv T → DownT dr qr 0 T → Q (.ref p) H'
def sp_law_full (K : PySem.W.Frag) : Sp := fun vs H Q _ => ∃ (pa sa da : Addr) (pv sv dv : List V) (dr : List (Str × Int)) (qr : List Sr) (g : Nat) (D : List (List Nat)), vs = [.ref pa, .ref sa, .ref da] ∧ SqL K H pa pv ∧ PL K H eRow pv dr ∧ DocOk dr ∧ SqL K H sa sv ∧ PL K H eStep sv qr ∧ QuOk qr g ∧ SqL K H da dv ∧ TabP H dv D ∧ DownT dr qr 0 D ∧ ∀ H' p tv T, Same H H' → H p = none → H' p = some (.lst tv) → TabF H H' tv T → FullT dr qr D T → T.length = qr.length → Q (.ref p) H'
def sp_is_whole (K : PySem.W.Frag) : Sp := fun vs H Q _ => ∃ (v : V) (t : String), vs = [v] ∧ Knd K H v t ∧ Q (.bl (t == "int")) H
def sp_is_within (K : PySem.W.Frag) : Sp := fun vs H Q _ => ∃ (v : V) (t : String) (lo hi : Int), vs = [v, .int lo, .int hi] ∧ Knd K H v t ∧ Q (.bl (withinV v lo hi)) H
def sp_is_label (K : PySem.W.Frag) : Sp := fun vs H Q _ => ∃ (v : V) (t : String), vs = [v] ∧ Knd K H v t ∧ (∀ z, v = .str z → z.length ≤ 100000) ∧ ∀ H', Same H H' → Q (.bl (labelV v)) H'
def sp_is_part_row (K : PySem.W.Frag) : Sp := fun vs H Q _ => ∃ (t : Addr) (z : Str) (d deep : Int), vs = [.ref t, .int deep] ∧ SqT K H t [.str z, .int d] ∧ z.length ≤ 100000 ∧ ∀ H', Same H H' → Q (.bl (labelB z && (decide (1 ≤ d) && decide (d ≤ deep)))) H'
def sp_ends_by (K : PySem.W.Frag) : Sp := fun vs H Q _ => ∃ (l : Addr) (ds : List Int), vs = [.ref l] ∧ SqL K H l (ds.map V.int) ∧ Dv ds ∧ ds.length ≤ 1000 ∧ ∀ H' p es, Same H H' → H p = none → H' p = some (.lst (es.map V.int)) → EndsOk ds es → Q (.ref p) H'
def sp_uppers_by (K : PySem.W.Frag) : Sp := fun vs H Q _ => ∃ (l : Addr) (ds : List Int), vs = [.ref l] ∧ SqL K H l (ds.map V.int) ∧ Dv ds ∧ ds.length ≤ 1000 ∧ ∀ H' p us, Same H H' → H p = none → H' p = some (.lst (us.map vOpt)) → UpOk ds us → Q (.ref p) H'
def sp_Document_init (K : PySem.W.Frag) : Sp := fun vs H Q _ => ∃ (a l dx : Addr) (tv : List V) (rows : List (Str × Int)), vs = [.ref a, .ref l] ∧ H a = some (.ins (He.ga K "Document") dx []) ∧ SqL K H l tv ∧ PL K H eRow tv rows ∧ DocOk rows ∧ ∀ H', But a H H' → DocAt K H' a rows → Q .non H'
def sp_is_step_row (K : PySem.W.Frag) : Sp := fun vs H Q _ => ∃ (t : Addr) (w z : Str) (d deep : Int), vs = [.ref t, .int deep] ∧ SqT K H t [.str w, .str z, .int d] ∧ (w = "/" ∨ w = "//") ∧ z.length ≤ 100000 ∧ ∀ H', Same H H' → Q (.bl (labelB z && (decide (1 ≤ d) && decide (d ≤ deep)))) H'
def sp_Straight_init (K : PySem.W.Frag) : Sp := fun vs H Q _ => ∃ (a dx : Addr) (z : Str), vs = [.ref a, .str z] ∧ H a = some (.ins (He.ga K "Straight") dx []) ∧ ∀ H', But a H H' → H' a = some (.ins (He.ga K "Straight") dx (stF z)) → Q .non H'
def sp_Anywhere_init (K : PySem.W.Frag) : Sp := fun vs H Q _ => ∃ (a dx : Addr) (z : Str), vs = [.ref a, .str z] ∧ H a = some (.ins (He.ga K "Anywhere") dx []) ∧ ∀ H', But a H H' → H' a = some (.ins (He.ga K "Anywhere") dx (stF z)) → Q .non H'
def sp_step_of (K : PySem.W.Frag) : Sp := fun vs H Q _ => ∃ (w z : Str), vs = [.str w, .str z] ∧ (w = "/" ∨ w = "//") ∧ ∀ H' p, Same H H' → H p = none → StepAt K H' p w z → Q (.ref p) H'
def sp_Question_init (K : PySem.W.Frag) : Sp := fun vs H Q _ => ∃ (a l dx : Addr) (g : Nat) (tv : List V) (rows : List Sr), vs = [.ref a, .ref l, .int g] ∧ H a = some (.ins (He.ga K "Question") dx []) ∧ SqL K H l tv ∧ PL K H eStep tv rows ∧ QuOk rows g ∧ ∀ H', But a H H' → QuAt K H' a rows g → Q .non H'
def sp_law_same (K : PySem.W.Frag) : Sp := fun vs H Q _ => ∃ (f u : Addr) (fv uv : List V) (T : List (List Nat)), vs = [.ref f, .ref u] ∧ SqL K H f fv ∧ TabP H fv T ∧ SqL K H u uv ∧ TabP H uv T ∧ (∀ row ∈ T, row.length ≤ 1000) ∧ ∀ H', Same H H' → Q (.bl true) H'
def sp_Question_many (K : PySem.W.Frag) : Sp := fun vs H Q _ => ∃ (a : Addr) (rows : List Sr) (g : Nat), vs = [.ref a] ∧ QuAt K H a rows g ∧ Q (.int rows.length) H
def sp_Question_need_step (K : PySem.W.Frag) : Sp := fun vs H Q _ => ∃ (a : Addr) (rows : List Sr) (g k : Nat), vs = [.ref a, .int k] ∧ QuAt K H a rows g ∧ k < rows.length ∧ Q .non H
def sp_Question_lowers_of (K : PySem.W.Frag) : Sp := fun vs H Q _ => ∃ (a : Addr) (rows : List Sr) (g k : Nat), vs = [.ref a, .int k] ∧ QuAt K H a rows g ∧ k < rows.length ∧ ∀ H' p (ls : List Nat), Same H H' → H p = none → H' p = some (.lst (ls.map vN)) → Lows (qds rows) k ls → Q (.ref p) H'
def sp_Document_need_part (K : PySem.W.Frag) : Sp := fun vs H Q _ => ∃ (a : Addr) (rows : List (Str × Int)) (k : Nat), vs = [.ref a, .int k] ∧ DocAt K H a rows ∧ k < rows.length ∧ Q .non H
def sp_Document_upper_of (K : PySem.W.Frag) : Sp := fun vs H Q _ => ∃ (a : Addr) (rows : List (Str × Int)) (k : Nat), vs = [.ref a, .int k] ∧ DocAt K H a rows ∧ k < rows.length ∧ ∀ o, UpAt (dps rows) k o → Q (vOpt o) H
def sp_with_beneath (K : PySem.W.Frag) : Sp := fun vs H Q _ => ∃ (d l : Addr) (w : Str) (dr : List (Str × Int)) (ps : List Nat), vs = [.ref d, .ref l, .str w] ∧ (w = "/" ∨ w = "//") ∧ DocAt K H d dr ∧ SqL K H l (ps.map vN) ∧ (∀ p ∈ ps, p < dr.length) ∧ ps.length ≤ 1000 ∧ ∀ H' p kv, Same H H' → H p = none → H' p = some (.dK kv) → Ks kv (Hav (dps dr) (wB w) ps) → Q (.ref p) H'
def sp_Straight_way (K : PySem.W.Frag) : Sp := fun vs H Q _ => ∃ (a dx : Addr) (z : Str), vs = [.ref a] ∧ H a = some (.ins (He.ga K "Straight") dx (stF z)) ∧ Q (.str "/") H
def sp_Anywhere_way (K : PySem.W.Frag) : Sp := fun vs H Q _ => ∃ (a dx : Addr) (z : Str), vs = [.ref a] ∧ H a = some (.ins (He.ga K "Anywhere") dx (stF z)) ∧ Q (.str "//") H
def sp_Question_step_at (K : PySem.W.Frag) : Sp := fun vs H Q _ => ∃ (a : Addr) (rows : List Sr) (g k : Nat) (r : Sr), vs = [.ref a, .int k] ∧ QuAt K H a rows g ∧ rows[k]? = some r ∧ ∀ p, StepAt K H p r.1 r.2.1 → Q (.ref p) H
def sp_Document_parts_of (K : PySem.W.Frag) : Sp := fun vs H Q _ => ∃ (a : Addr) (rows : List (Str × Int)) (z : Str), vs = [.ref a, .str z] ∧ DocAt K H a rows ∧ ∀ H' p, Same H H' → H p = none → H' p = some (.lst ((partsOf rows z).map vN)) → Q (.ref p) H'
def sp_down_row (K : PySem.W.Frag) : Sp := fun vs H Q _ => ∃ (d q t : Addr) (dr : List (Str × Int)) (qr : List Sr) (g s : Nat) (tv : List V) (T : List (List Nat)), vs = [.ref d, .ref q, .ref t, .int s] ∧ DocAt K H d dr ∧ QuAt K H q qr g ∧ SqL K H t tv ∧ TabP H tv T ∧ T.length = qr.length ∧ (∀ row ∈ T, row.length ≤ 1000 ∧ ∀ p ∈ row, p < dr.length) ∧ s < qr.length ∧ ∀ H' p row, Same H H' → H p = none → H' p = some (.lst (row.map vN)) → DownRow dr qr T s row → Q (.ref p) H'
def sp_down_table (K : PySem.W.Frag) : Sp := fun vs H Q _ => ∃ (d q : Addr) (dr : List (Str × Int)) (qr : List Sr) (g : Nat), vs = [.ref d, .ref q] ∧ DocAt K H d dr ∧ QuAt K H q qr g ∧ ∀ H' p tv T, Same H H' → H p = none → H' p = some (.lst tv) → TabF H H' tv T → DownT dr qr 0 T → Q (.ref p) H'
def sp_Question_upper_of (K : PySem.W.Frag) : Sp := fun vs H Q _ => ∃ (a : Addr) (rows : List Sr) (g k : Nat), vs = [.ref a, .int k] ∧ QuAt K H a rows g ∧ k < rows.length ∧ ∀ o, UpAt (qds rows) k o → Q (vOpt o) H
def sp_Document_lowers_of (K : PySem.W.Frag) : Sp := fun vs H Q _ => ∃ (a : Addr) (rows : List (Str × Int)) (k : Nat), vs = [.ref a, .int k] ∧ DocAt K H a rows ∧ k < rows.length ∧ ∀ H' p (ls : List Nat), Same H H' → H p = none → H' p = some (.lst (ls.map vN)) → Lows (dps rows) k ls → Q (.ref p) H'
def sp_Document_end_of (K : PySem.W.Frag) : Sp := fun vs H Q _ => ∃ (a : Addr) (rows : List (Str × Int)) (k : Nat), vs = [.ref a, .int k] ∧ DocAt K H a rows ∧ k < rows.length ∧ ∀ n : Nat, EndP (dps rows) k n → Q (.int n) H
def sp_with_above (K : PySem.W.Frag) : Sp := fun vs H Q _ => ∃ (d l : Addr) (w : Str) (dr : List (Str × Int)) (ps : List Nat), vs = [.ref d, .ref l, .str w] ∧ (w = "/" ∨ w = "//") ∧ DocAt K H d dr ∧ SqL K H l (ps.map vN) ∧ (∀ p ∈ ps, p < dr.length) ∧ ps.length ≤ 1000 ∧ ∀ H' p kv, Same H H' → H p = none → H' p = some (.dK kv) → Ks kv (Abv (dps dr) (wB w) ps) → Q (.ref p) H'
def sp_full_row (K : PySem.W.Frag) : Sp := fun vs H Q _ => ∃ (d q da t : Addr) (dr : List (Str × Int)) (qr : List Sr) (g s : Nat) (dv tv : List V) (D T : List (List Nat)), vs = [.ref d, .ref q, .ref da, .ref t, .int s] ∧ DocAt K H d dr ∧ QuAt K H q qr g ∧ SqL K H da dv ∧ TabP H dv D ∧ DownT dr qr 0 D ∧ SqL K H t tv ∧ TabP H tv T ∧ T.length = s ∧ FullT dr qr D T ∧ s < qr.length ∧ ∀ H' p row, Same H H' → H p = none → H' p = some (.lst (row.map vN)) → FullRow dr qr D T s row → Q (.ref p) H'
def sp_full_table (K : PySem.W.Frag) : Sp := fun vs H Q _ => ∃ (d q : Addr) (dr : List (Str × Int)) (qr : List Sr) (g : Nat), vs = [.ref d, .ref q] ∧ DocAt K H d dr ∧ QuAt K H q qr g ∧ ∀ H' p tv D T, Same H H' → H p = none → H' p = some (.lst tv) → TabF H H' tv T → DownT dr qr 0 D → FullT dr qr D T → T.length = qr.length → Q (.ref p) H'
def sp_law_right (K : PySem.W.Frag) : Sp := fun vs H Q _ => ∃ (c : Int), vs = [.int c] ∧ ∀ H', Same H H' → Q (.bl true) H'
def sp_law_cell_at (K : PySem.W.Frag) : Sp := fun vs H Q _ => ∃ (a : Addr) (ns : List Int) (k : Int), vs = [.ref a, .int k] ∧ SqL K H a (ns.map V.int) ∧ ns.length ≤ 63 ∧ 0 ≤ k ∧ ∀ c, Q (.int c) H
def sp_law (K : PySem.W.Frag) : Sp := fun vs H Q _ => ∃ (a : Addr) (ns : List Int), vs = [.ref a] ∧ SqL K H a (ns.map V.int) ∧ ns.length ≤ 63 ∧ ∀ H', Q (.bl true) H'
structure Txt (K : PySem.W.Frag) (mg : Str → Option Value) : Prop where
  free_range : mg "range" = none
  free_len : mg "len" = none
  free_min : mg "min" = none
  free_max : mg "max" = none
  free_int : mg "int" = none
  free_enumerate : mg "enumerate" = none
  free_isinstance : mg "isinstance" = none
  free_bool : mg "bool" = none
  free_str : mg "str" = none
  g_MOST_LETTERS : ∃ t, mg "MOST_LETTERS" = some (.int 8 t)
  free_all : mg "all" = none
  g_LETTERS : ∃ t, mg "LETTERS" = some (.str "abcdefghijklmnopqrstuvwxyz" t)
  free_tuple : mg "tuple" = none
  free_list : mg "list" = none
  g_MOST_PARTS : ∃ t, mg "MOST_PARTS" = some (.int 240 t)
  g_MOST_DEEP_document : ∃ t, mg "MOST_DEEP_document" = some (.int 80 t)
  glo_WAYS : mg "WAYS" = some (.ref (He.ga K "WAYS"))
  ls_WAYS : ∀ H, SqL K H (He.ga K "WAYS") [.str "/", .str "//"]
  g_MOST_STEPS : ∃ t, mg "MOST_STEPS" = some (.int 100 t)
  g_MOST_DEEP_question : ∃ t, mg "MOST_DEEP_question" = some (.int 30 t)
  free_reversed : mg "reversed" = none
  cl_Document : Cls K (He.ga K "Document")
  na_Document_parts : NoAttr K (He.ga K "Document") "parts"
  na_Document_ends : NoAttr K (He.ga K "Document") "ends"
  na_Document_uppers : NoAttr K (He.ga K "Document") "uppers"
  cl_Straight : Cls K (He.ga K "Straight")
  na_Straight_label : NoAttr K (He.ga K "Straight") "label"
  cl_Anywhere : Cls K (He.ga K "Anywhere")
  na_Anywhere_label : NoAttr K (He.ga K "Anywhere") "label"
  cl_Question : Cls K (He.ga K "Question")
  na_Question_given_rows : NoAttr K (He.ga K "Question") "given_rows"
  na_Question_goal : NoAttr K (He.ga K "Question") "goal"
  na_Question_steps : NoAttr K (He.ga K "Question") "steps"
  na_Question_ends : NoAttr K (He.ga K "Question") "ends"
  na_Question_uppers : NoAttr K (He.ga K "Question") "uppers"
section
variable {P : Program} {w : World} {K : PySem.W.Frag} {mg : Str → Option Value} {base : Heap}
theorem sc_law_take : FnScope ["_law_source_here", "_law_many", "_law_digit", "_law_number"] ["_law_source_here", "_law_many"] (defScope st_law_take) := ⟨rfl, rfl, rfl, by decide +kernel, rfl, by decide +kernel, by decide +kernel⟩
theorem ok_law_take {f : Addr} {fd : FuncData} (T : Txt K mg) (F : FnP K "_law_take" "_law_take" st_law_take f fd)  : FnOk P w K mg base CX0 1 f fd ["_law_source_here", "_law_many"] (sp_law_take K) := by
  refine F.ok sc_law_take (fun vs H Q E h => ?_) (fun cdv A outer s H vs Q E hr h => ?_)
  · obtain ⟨a, m, n, s, t, rfl, _⟩ := h
    rfl
  · obtain ⟨a, m, n, s, t, rfl, hS, hm, hm2, k⟩ := h
    refine ⟨_, PSs.nox (pss_cons (ps_if (pt_cmpR op_gt (pe_dget (hu_of hr) (pv 0) pe_str (fun _ _ => rfl)) pe_int (nomark _))
      (pss_cons (ps_set (i := 2) sc_law_take.nd rfl (Or.inl rfl) (pe_op op_mod (pe_dget (hu_of hr) (pv 0) pe_str (fun _ _ => rfl)) (pv 1)))
      (pss_cons (ps_dput (hu_of hr) (pv 0) pe_str (pe_op op_fdiv (pe_dget (hu_of hr) (pv 0) pe_str (fun _ _ => rfl)) (pv 1)) rfl)
      (pss_one (ps_ret (pv 2)))))
      pss_nil)
      (pss_cons (ps_dput (hu_of hr) (pv 0) pe_str (pe_op op_add (pe_dget (hu_of hr) (pv 0) pe_str (fun _ _ => rfl)) pe_int) rfl)
      (pss_cons (ps_set (i := 3) sc_law_take.nd rfl (Or.inl rfl) (pe_op op_mod (pe_op op_mul (pe_op op_add (pe_dget (hu_of hr) (pv 0) pe_str (fun _ _ => rfl)) (pe_op op_mul pe_int (pe_dget (hu_of hr) (pv 0) pe_str (fun _ _ => rfl)))) pe_int) pe_int))
      (pss_cons (ps_set (i := 3) sc_law_take.nd rfl (Or.inl rfl) (pe_op op_mod (pe_op op_mul (pv 3) (pv 3)) pe_int))
      (pss_one (ps_ret (pe_op op_mod (pe_op op_fdiv (pe_op op_mod (pe_op op_mul (pe_op op_add (pv 3) (pe_dget (hu_of hr) (pv 0) pe_str (fun _ _ => rfl))) (pe_op op_add (pv 3) pe_int)) pe_int) pe_int) (pv 1)))))))), ?_⟩
    refine ⟨_, rfl, _, _, rfl, src_get_n hS, _, _, rfl, rfl, _, rfl, ?_⟩
    refine ite2 (fun c => ?_) (fun c => ?_)
    · refine ⟨_, rfl, _, _, rfl, src_get_n hS, _, rfl, _, _, rfl, rfl, hm, ?_⟩
      refine ⟨_, rfl, _, _, rfl, src_get_n hS, _, rfl, _, _, rfl, rfl, ⟨hm, hm2⟩, _, rfl, _, _, rfl, src_put_n hS, ?_⟩
      refine ⟨_, rfl, k _ _ (Int.emod_nonneg _ (by omega)) (Int.emod_lt_of_pos _ hm) But.upd ⟨_, _, _, upd_same⟩⟩
    · refine ⟨_, rfl, _, _, rfl, src_get_t hS, _, _, rfl, rfl, _, rfl, _, _, rfl, src_put_t hS, ?_⟩
      refine ⟨_, rfl, _, _, rfl, src_get_s upd_same, _, rfl, _, _, rfl, src_get_t upd_same, _, _, rfl, rfl, .inl ⟨by decide, by decide⟩, _, _, rfl, rfl, _, _, rfl, rfl, .inr ⟨by decide, by decide⟩, _, _, rfl, rfl, by walk_at "pos", ?_⟩
      have b1 := Int.emod_nonneg ((s + 7919 * (t + 1)) * 48271) (show (2147483647 : Int) ≠ 0 by decide)
      have b2 := Int.emod_lt_of_pos ((s + 7919 * (t + 1)) * 48271) (show (0 : Int) < 2147483647 by decide)
      generalize ((s + 7919 * (t + 1)) * 48271) % 2147483647 = x1 at b1 b2 ⊢
      refine ⟨_, rfl, _, rfl, _, _, rfl, rfl, .inl ⟨by omega, by omega⟩, _, _, rfl, rfl, by walk_at "pos", ?_⟩
      have d1 := Int.emod_nonneg (x1 * x1) (show (2147483629 : Int) ≠ 0 by decide)
      have d2 := Int.emod_lt_of_pos (x1 * x1) (show (0 : Int) < 2147483629 by decide)
      generalize (x1 * x1) % 2147483629 = x2 at d1 d2 ⊢
      refine ⟨_, rfl, _, rfl, _, _, rfl, src_get_t upd_same, _, _, rfl, rfl, _, rfl, _, _, rfl, rfl, _, _, rfl, rfl, .inr ⟨by omega, by omega⟩, _, _, rfl, rfl, by walk_at "pos", _, _, rfl, rfl, ⟨by decide, by decide⟩, _, rfl, _, _, rfl, rfl, hm, ?_⟩
      exact k _ _ (Int.emod_nonneg _ (by omega)) (Int.emod_lt_of_pos _ hm) But.upd ⟨_, _, _, upd_same⟩
theorem sc_law_labels : FnScope ["_law_source_here", "_law_many", "_law_letters", "_law_word", "_law_k", "_law_ahead", "_law_first", "_law_step", "_law_labels_here", "_law_behind"] ["_law_source_here", "_law_many"] (defScope st_law_labels) := ⟨rfl, rfl, rfl, by decide +kernel, rfl, by decide +kernel, by decide +kernel⟩
theorem ok_law_labels {f : Addr} {fd : FuncData} (T : Txt K mg) (F : FnP K "_law_labels" "_law_labels" st_law_labels f fd) (G_law_take : Fn P w K mg base CX0 1 "_law_take" ["_law_source_here", "_law_many"] (sp_law_take K)) : FnOk P w K mg base CX0 2 f fd ["_law_source_here", "_law_many"] (sp_law_labels K) := by
  refine F.ok sc_law_labels (fun vs H Q E h => ?_) (fun cdv A outer s H vs Q E hr h => ?_)
  · obtain ⟨a, many, rfl, _⟩ := h
    rfl
  · obtain ⟨a, many, rfl, hS, m0, m1, k⟩ := h
    refine ⟨_, PSs.nox (pss_cons (ps_set (i := 2) sc_law_labels.nd rfl (Or.inr rfl) pe_str)
      (pss_cons (ps_set (i := 3) sc_law_labels.nd rfl (Or.inl rfl) (pe_join pe_str (pe_lc (own := [("_law_k", 4)]) (g := gName 4) (te := (tOp rIxS (tVar 2) (tCall (sp_law_take K) [] E0 (tCons (tVar 0) (tCons (tC (.int 26)) tNil))))) rfl sc_law_labels.nd (pi_range1 rfl T.free_range (pa_cons pe_int pa_nil)) (blkOk_by (own := [("_law_k", 4)]) (N := ["_law_source_here", "_law_many", "_law_letters", "_law_word", "_law_k", "_law_ahead", "_law_first", "_law_step", "_law_labels_here", "_law_behind"]) (sc := defScope st_law_labels) (by decide +kernel)) (fun _ _ _ _ _ => (pg_name (i := 4) sc_law_labels.nd rfl (Or.inl rfl))) (fun _ _ _ _ _ => pts_nil) (fun _ _ _ _ _ => (pe_ix ix_str (pv 2) (pe_callF G_law_take (hr.mono (by decide)) pass0 (pa_cons (pv 0) (pa_cons pe_int pa_nil))) (fun _ _ => rfl))))))
      (pss_cons (ps_set (i := 5) sc_law_labels.nd rfl (Or.inl rfl) (pe_slice sl_str (pv 3) po_none (po_some (pe_op op_mul (pe_callF G_law_take (hr.mono (by decide)) pass0 (pa_cons (pv 0) (pa_cons pe_int pa_nil))) (pe_callF G_law_take (hr.mono (by decide)) pass0 (pa_cons (pv 0) (pa_cons pe_int pa_nil)))))))
      (pss_cons (ps_set (i := 6) sc_law_labels.nd rfl (Or.inl rfl) (pe_callF G_law_take (hr.mono (by decide)) pass0 (pa_cons (pv 0) (pa_cons pe_int pa_nil))))
      (pss_cons (ps_set (i := 7) sc_law_labels.nd rfl (Or.inl rfl) (pe_ix ix_list (pe_lst (pa_cons pe_int (pa_cons pe_int (pa_cons pe_int (pa_cons pe_int (pa_cons pe_int (pa_cons pe_int pa_nil))))))) (pe_callF G_law_take (hr.mono (by decide)) pass0 (pa_cons (pv 0) (pa_cons pe_int pa_nil))) (fun _ _ => rfl)))
      (pss_cons (ps_set (i := 8) sc_law_labels.nd rfl (Or.inl rfl) (pe_lst pa_nil))
      (pss_cons (ps_for PassesOwn.never rfl (pi_range1 rfl T.free_range (pa_cons (pv 1) pa_nil)) (pg_name (i := 4) sc_law_labels.nd rfl (Or.inl rfl))
      (pss_cons (ps_set (i := 9) sc_law_labels.nd rfl (Or.inl rfl) (pe_slice sl_str (pv 3) po_none (po_some (pe_callF G_law_take (hr.mono (by decide)) pass0 (pa_cons (pv 0) (pa_cons (pe_op op_sub pe_int (pe_callB call_len rfl T.free_len PySem.boot_len (pa_cons (pv 5) pa_nil))) pa_nil))))))
      (pss_one (ps_expr (pe_bm PySem.F.plainAttrs_list PySem.F.slot_list_append PySem.F.type_list_append mt_append (pv 8) (pa_cons (pe_op op_add_str (pe_op op_add_str (pv 5) (pe_ix ix_str (pv 2) (pe_op op_mod (pe_op op_add (pv 6) (pe_op op_mul (pv 7) (pv 4))) pe_int) (fun _ _ => rfl))) (pv 9)) pa_nil))))))
      (pss_one (ps_ret (pv 8)))))))))), ?_⟩
    refine ⟨⟨_, rfl⟩, _, rfl, by decide, by decide, fun D hD => ?_⟩
    have hS0 := hS
    obtain ⟨n0, t0, u0, h0⟩ := hS0
    have haD : a ≠ D := ne_of_none h0 hD
    refine lc_range (lo := 0) (n := (7 : Int).toNat) (fun i H' => But a H H' ∧ Src H' a ∧ ∃ ys : List Str, ys.length = i ∧ (∀ y ∈ ys, y.length = 1 ∧ LowS y) ∧ H' D = some (.lst (ys.map V.str))) ?_ ?_ ?_
    · exact ⟨(But.refl a H).new' hD, ⟨_, _, _, (upd_ne haD).trans h0⟩, [], rfl, (fun _ h => nomatch h), upd_same⟩
    · rintro i H' hi ⟨bb, ⟨n3, s3, t3, hS3⟩, ys, yl, y1, hDl⟩
      have hi : i < 7 := hi
      refine ⟨rfl, _, rfl, _, rfl, a, 26, n3, s3, t3, rfl, hS3, by decide, by decide, fun r4 H4 r40 r41 b4 s4 => ?_⟩
      obtain ⟨c, hc, hlow⟩ := abc_at r40 r41
      refine ⟨abc, _, c, rfl, rfl, by decide, hc, _, b4 _ _ haD.symm hDl, szl (by rw [List.length_map]; omega), (bb.trans b4).mut hD, ?_, ys ++ [⟨#[c]⟩], ?_, ?_, ?_⟩
      · obtain ⟨n5, s5, t5, h5⟩ := s4
        exact ⟨n5, s5, t5, (upd_ne haD).trans h5⟩
      · rw [List.length_append, yl]
        rfl
      · intro y hy
        rcases List.mem_append.mp hy with h | h
        · exact y1 y h
        · rw [List.mem_singleton.mp h]
          exact ⟨rfl, lows_one hlow⟩
      · rw [upd_same, List.map_append]
        rfl
    rintro H1 ⟨b1, S1, ys, yl, y1, hDl⟩
    have yl : ys.length = 7 := yl
    have hsum : (ys.map (·.length)).sum = ys.length := sum_ones ys fun y hy => (y1 y hy).1
    have hwl : (Txt.join "" ys).length = 7 := by rw [join_len, hsum, yl]
    have hwlow : LowS (Txt.join "" ys) := lows_join fun y hy => (y1 y hy).2
    refine ⟨_, D, ys, rfl, rfl, .inl (SqL.of hDl), ?_, ?_⟩
    · rw [hsum, show (("" : Str)).length = 0 from rfl]
      exact sz (by omega)
    generalize Txt.join "" ys = word at hwl hwlow
    obtain ⟨n1, t1, u1, h1⟩ := S1
    refine ⟨_, rfl, _, rfl, a, 2, n1, t1, u1, rfl, h1, by decide, by decide, fun r2 H2 r20 r21 b2 ⟨n2, t2, u2, h2⟩ => ?_⟩
    refine ⟨_, rfl, a, 5, n2, t2, u2, rfl, h2, by decide, by decide, fun r3 H3 r30 r31 b3 ⟨n3, t3, u3, h3⟩ => ?_⟩
    refine ⟨_, _, rfl, rfl, .inl ⟨by omega, by omega⟩, _, rfl, word, rfl, sz (by omega), ?_⟩
    have hmul : 0 ≤ r2 * r3 ∧ r2 * r3 ≤ 4 := by
      have : r2 = 0 ∨ r2 = 1 := by omega
      rcases this with rfl | rfl
      · rw [Int.zero_mul]; omega
      · rw [Int.one_mul]; omega
    have hal := (len_cut_to word (r2 * r3) hmul.1).1
    have halow := lows_cut hwlow none (some (r2 * r3))
    generalize cutS word none (some (r2 * r3)) = ahead at hal halow
    have hal : ahead.length ≤ 4 := by omega
    refine ⟨_, rfl, a, 26, n3, t3, u3, rfl, h3, by decide, by decide, fun r4 H4 r40 r41 b4 ⟨n4, t4, u4, h4⟩ => ?_⟩
    refine ⟨by show 6 ≤ sizeLine; decide, ?_⟩
    intro q5 nq5
    generalize e_H5 : upd _ q5 _ = H5
    obtain ⟨s5, hq5⟩ := al e_H5 nq5
    have h5 := s5 _ _ h4
    have naq5 : a ≠ q5 := ne_of_none h4 nq5
    refine ⟨_, rfl, a, 6, n4, t4, u4, rfl, h5, by decide, by decide, fun r6 H6 r60 r61 b6 ⟨n6, t6, u6, h6⟩ => ?_⟩
    obtain ⟨st, hst, hst0, hst1⟩ : ∃ st : Int, atI [V.int 1, V.int 3, V.int 5, V.int 7, V.int 9, V.int 11] r6 = some (.int st) ∧ 0 ≤ st ∧ st ≤ 11 := by
      have : r6 = ((0 : Nat) : Int) ∨ r6 = ((1 : Nat) : Int) ∨ r6 = ((2 : Nat) : Int) ∨ r6 = ((3 : Nat) : Int) ∨ r6 = ((4 : Nat) : Int) ∨ r6 = ((5 : Nat) : Int) := by omega
      rcases this with rfl | rfl | rfl | rfl | rfl | rfl
      · exact ⟨1, atI_nat rfl, by decide, by decide⟩
      · exact ⟨3, atI_nat rfl, by decide, by decide⟩
      · exact ⟨5, atI_nat rfl, by decide, by decide⟩
      · exact ⟨7, atI_nat rfl, by decide, by decide⟩
      · exact ⟨9, atI_nat rfl, by decide, by decide⟩
      · exact ⟨11, atI_nat rfl, by decide, by decide⟩
    refine ⟨_, _, _, _, rfl, rfl, SqL.of (b6 _ _ naq5.symm hq5), hst, Nat.zero_le _, ?_⟩
    have b06 : But a H H6 := ((((b1.trans b2).trans b3).trans b4).trans (But.of_same s5)).trans b6
    intro p np
    generalize e_H7 : upd _ p _ = H7
    obtain ⟨s7, hp⟩ := al e_H7 np
    have h7 := s7 _ _ h6
    have nap : a ≠ p := ne_of_none h6 np
    have np0 : H p = none := b06.free nap.symm np
    refine ⟨_, rfl, _, rfl, by omega, by omega, for_range (lo := 0) (n := many.toNat) (fun i σ H' => ∃ (v4 v9 : Option V) (ls : List Str), σ = [some (.ref a), some (.int many), some (.str abc), some (.str word), v4, some (.str ahead), some (.int r4), some (.int st), some (.ref p), v9] ∧ But a H H' ∧ Src H' a ∧ H' p = some (.lst (ls.map V.str)) ∧ ls.length = i ∧ (∀ z ∈ ls, labelB z = true)) ?_ ?_ ?_⟩
    · exact ⟨_, _, [], rfl, b06.trans (But.of_same s7), ⟨_, _, _, h7⟩, hp, rfl, fun _ h => nomatch h⟩
    · rintro i σ H8 hi ⟨v4, v9, ls, rfl, b8, ⟨n8, t8, u8, h8⟩, hp8, hll, hlb⟩
      refine ⟨_, rfl, _, rfl, _, rfl, _, _, rfl, ⟨sz (by omega), rfl⟩, _, _, rfl, rfl, a, _, n8, t8, u8, rfl, h8, by omega, by omega, fun r9 H9 r90 r91 b9 S9 => ?_⟩
      refine ⟨_, rfl, word, rfl, sz (by omega), ?_⟩
      have hbl := len_cut_to word r9 r90
      have hblow := lows_cut hwlow none (some r9)
      generalize cutS word none (some r9) = behind at hbl hblow
      have hp9 := b9 _ _ nap.symm hp8
      have hmd0 := Int.emod_nonneg (r4 + st * (0 + (i : Int))) (show (26 : Int) ≠ 0 by decide)
      have hmd1 := Int.emod_lt_of_pos (r4 + st * (0 + (i : Int))) (show (0 : Int) < 26 by decide)
      obtain ⟨c, hc, hlow⟩ := abc_at hmd0 hmd1
      have hone : (⟨#[c]⟩ : Str).length = 1 := rfl
      refine ⟨_, rfl, .inl ⟨rfl, _, SqL.of hp9⟩, _, rfl, _, rfl, _, rfl, _, rfl, _, rfl, _, _, rfl, rfl, .inl ⟨by omega, by omega⟩, _, _, rfl, rfl, _, _, rfl, rfl, (show (0 : Int) < 26 by decide), abc, _, c, rfl, rfl, by decide, hc, _, _, rfl, rfl, sz (by omega), _, rfl, _, _, rfl, rfl, sz (by rw [len_app]; omega), ?_⟩
      refine ⟨p, _, _, rfl, rfl, hp9, szl (by rw [List.length_map]; omega), _, _, ls ++ [ahead ++ ⟨#[c]⟩ ++ behind], rfl, (b8.trans b9).mut np0, ?_, ?_, ?_, ?_⟩
      · obtain ⟨x, y, z, h⟩ := S9
        exact ⟨x, y, z, (upd_ne nap).trans h⟩
      · rw [upd_same, List.map_append]
        rfl
      · rw [List.length_append, hll]
        rfl
      · intro z hz
        rcases List.mem_append.mp hz with h | h
        · exact hlb z h
        · rw [List.mem_singleton.mp h]
          refine label_of_low (lows_app (lows_app halow (lows_one hlow)) hblow) ?_ ?_
          · rw [len_app, len_app]; omega
          · rw [len_app, len_app]; omega
    · rintro σ H8 ⟨v4, v9, ls, rfl, b8, S8, hp8, hll, hlb⟩
      exact ⟨_, rfl, k H8 p ls b8 S8 np0 hp8 (by omega) hlb⟩
theorem sc_law_depth : FnScope ["_law_source_here", "_law_shape", "_law_above"] ["_law_source_here", "_law_shape", "_law_above"] (defScope st_law_depth) := ⟨rfl, rfl, rfl, by decide +kernel, rfl, by decide +kernel, by decide +kernel⟩
theorem ok_law_depth {f : Addr} {fd : FuncData} (T : Txt K mg) (F : FnP K "_law_depth" "_law_depth" st_law_depth f fd) (G_law_take : Fn P w K mg base CX0 1 "_law_take" ["_law_source_here", "_law_many"] (sp_law_take K)) : FnOk P w K mg base CX0 2 f fd ["_law_source_here", "_law_shape", "_law_above"] (sp_law_depth K) := by
  refine F.ok sc_law_depth (fun vs H Q E h => ?_) (fun cdv A outer s H vs Q E hr h => ?_)
  · obtain ⟨a, sh, ab, rfl, _⟩ := h
    rfl
  · obtain ⟨a, sh, ab, rfl, ⟨n, s, t, hS⟩, h0, h1, k⟩ := h
    refine ⟨_, PSs.nox (pss_cons (ps_if (PW.pt (pw_or (pt_cmpR op_eq (pv 2) pe_int (nomark _)) (pw_or1 (PW.pt (pw_and (pt_cmpR op_lt (pv 1) pe_int (nomark _)) (pw_and1 (pt_cmpR op_gt (pe_callF G_law_take (hr.mono (by decide)) pass0 (pa_cons (pv 0) (pa_cons pe_int pa_nil))) (pv 1) (nomark _))))))))
      (pss_one (ps_ret (pe_op op_add (pv 2) pe_int)))
      pss_nil)
      (pss_one (ps_ret (pe_callB (call_min2 rfl) rfl T.free_min (by decide +kernel) (pa_cons (pe_op op_add (pv 2) pe_int) (pa_cons (pe_op op_add pe_int (pe_callF G_law_take (hr.mono (by decide)) pass0 (pa_cons (pv 0) (pa_cons (pe_callB (call_max2 rfl) rfl T.free_max (by decide +kernel) (pa_cons pe_int (pa_cons (pv 2) pa_nil))) pa_nil)))) pa_nil)))))), ?_⟩
    refine ⟨_, rfl, rfl, _, rfl, ?_⟩
    refine ite2 (fun c => ?_) (fun c => ?_)
    · have c : ab = 0 := by have := of_decide_eq_true c; injection this
      refine iteT ⟨_, rfl, _, _, rfl, rfl, k _ _ (But.refl _ _) ⟨_, _, _, hS⟩ (fun z => by rw [z]; rfl) (fun z => by omega)⟩
    · have c : ¬ ab = 0 := fun z => c (decide_eq_true (by rw [z]))
      refine ⟨_, rfl, _, _, rfl, rfl, _, rfl, ?_⟩
      refine ite2 (fun c2 => ?_) (fun c2 => ?_)
      · refine ⟨_, rfl, a, 4, n, s, t, rfl, hS, by decide, by decide, fun r H1 r0 r1 b1 s1 => ⟨_, rfl, _, _, rfl, rfl, _, rfl, ?_⟩⟩
        refine ite2 (fun c3 => ?_) (fun c3 => ?_)
        · exact ⟨_, rfl, _, _, rfl, rfl, k _ _ b1 s1 (fun z => absurd z c) (fun z => by omega)⟩
        · obtain ⟨n5, s5, t5, hS5⟩ := s1
          have b5 := b1
          refine ⟨_, rfl, _, _, rfl, rfl, _, rfl, _, rfl, _, _, rfl, a, _, n5, s5, t5, rfl, hS5, by split <;> omega, by split <;> omega, fun r H6 r0 r1 b6 s6 => ?_⟩
          refine ⟨_, _, rfl, rfl, _, _, rfl, k _ _ (b5.trans b6) s6 (fun z => absurd z c) fun z => ?_⟩
          split at r1 <;> split <;> omega
      · have hS5 := hS
        have b5 := But.refl a H
        generalize n = n5 at hS5
        generalize s = s5 at hS5
        generalize t = t5 at hS5
        refine iteF ?_
        refine ⟨_, rfl, _, _, rfl, rfl, _, rfl, _, rfl, _, _, rfl, a, _, n5, s5, t5, rfl, hS5, by split <;> omega, by split <;> omega, fun r H6 r0 r1 b6 s6 => ?_⟩
        refine ⟨_, _, rfl, rfl, _, _, rfl, k _ _ (b5.trans b6) s6 (fun z => absurd z c) fun z => ?_⟩
        split at r1 <;> split <;> omega
theorem sc_law_rows : FnScope ["_law_source_here", "_law_labels_here", "_law_most", "_law_deep", "_law_shape", "_law_rows_here", "_law_above", "_law_k"] ["_law_source_here", "_law_labels_here", "_law_most", "_law_deep"] (defScope st_law_rows) := ⟨rfl, rfl, rfl, by decide +kernel, rfl, by decide +kernel, by decide +kernel⟩
theorem ok_law_rows {f : Addr} {fd : FuncData} (T : Txt K mg) (F : FnP K "_law_rows" "_law_rows" st_law_rows f fd) (G_law_take : Fn P w K mg base CX0 1 "_law_take" ["_law_source_here", "_law_many"] (sp_law_take K)) (G_law_depth : Fn P w K mg base CX0 2 "_law_depth" ["_law_source_here", "_law_shape", "_law_above"] (sp_law_depth K)) : FnOk P w K mg base CX0 3 f fd ["_law_source_here", "_law_labels_here", "_law_most", "_law_deep"] (sp_law_rows K) := by
  refine F.ok sc_law_rows (fun vs H Q E h => ?_) (fun cdv A outer s H vs Q E hr h => ?_)
  · obtain ⟨a, la, most, deep, labels, rfl, _⟩ := h
    rfl
  · obtain ⟨a, la, most, deep, labels, rfl, ⟨n, s, t, hS⟩, hL, l1, l2, m1, m2, d1, d2, k⟩ := h
    refine ⟨_, PSs.nox (pss_cons (ps_set (i := 4) sc_law_rows.nd rfl (Or.inl rfl) (pe_callF G_law_take (hr.mono (by decide)) pass0 (pa_cons (pv 0) (pa_cons pe_int pa_nil))))
      (pss_cons (ps_set (i := 5) sc_law_rows.nd rfl (Or.inl rfl) (pe_lst pa_nil))
      (pss_cons (ps_set (i := 6) sc_law_rows.nd rfl (Or.inl rfl) pe_int)
      (pss_cons (ps_for PassesOwn.never rfl (pi_range1 rfl T.free_range (pa_cons (pe_op op_add pe_int (pe_callF G_law_take (hr.mono (by decide)) pass0 (pa_cons (pv 0) (pa_cons (pv 2) pa_nil)))) pa_nil)) (pg_name (i := 7) sc_law_rows.nd rfl (Or.inl rfl))
      (pss_cons (ps_set (i := 6) sc_law_rows.nd rfl (Or.inl rfl) (pe_callB (call_min2 rfl) rfl T.free_min (by decide +kernel) (pa_cons (pv 3) (pa_cons (pe_callF G_law_depth (hr.mono (by decide)) pass0 (pa_cons (pv 0) (pa_cons (pv 4) (pa_cons (pv 6) pa_nil)))) pa_nil))))
      (pss_one (ps_expr (pe_bm PySem.F.plainAttrs_list PySem.F.slot_list_append PySem.F.type_list_append mt_append (pv 5) (pa_cons (pe_tup (pa_cons (pe_ix ix_list (pv 1) (pe_callF G_law_take (hr.mono (by decide)) pass0 (pa_cons (pv 0) (pa_cons (pe_callB call_len rfl T.free_len PySem.boot_len (pa_cons (pv 1) pa_nil)) pa_nil))) (fun _ _ => rfl)) (pa_cons (pv 6) pa_nil))) pa_nil))))))
      (pss_one (ps_ret (pv 5))))))), ?_⟩
    refine ⟨_, rfl, a, 4, n, s, t, rfl, hS, by decide, by decide, fun sh H1 _ _ b1 ⟨n1, s1, t1, hS1⟩ => ?_⟩
    have hL1 := b1.seq hS hL
    refine ⟨Nat.zero_le _, ?_⟩
    intro p np
    generalize e_H2 : upd _ p _ = H2
    obtain ⟨s2, hp⟩ := al e_H2 np
    have nap : a ≠ p := ne_of_none hS1 np
    have np0 : H p = none := b1.free nap.symm np
    have hS2 := s2 _ _ hS1
    refine ⟨_, rfl, _, rfl, a, most, n1, s1, t1, rfl, hS2, m1, by omega, fun c H3 c0 c1 b3 S3_ => ?_⟩
    have hp3 := b3 _ _ nap.symm hp
    have b03 : But a H H3 := b1.trans ((But.of_same s2).trans b3)
    refine ⟨_, _, rfl, rfl, _, rfl, by omega, by omega, for_range (lo := 0) (n := (1 + c).toNat) (fun i σ H' => ∃ (ab : Int) (v : Option V) (rows : List (Str × Int)) (vs : List V), σ = [some (.ref a), some (.ref la), some (.int most), some (.int deep), some (.int sh), some (.ref p), some (.int ab), v] ∧ But a H H' ∧ Src H' a ∧ H' p = some (.lst vs) ∧ PL K H' eRow vs rows ∧ rows.length = i ∧ (∀ r ∈ rows, r.1 ∈ labels) ∧ Dvp (rows.map (·.2)) ab ∧ ab ≤ deep ∧ (∀ r ∈ rows, r.2 ≤ deep)) ?_ ?_ ?_⟩
    · exact ⟨0, none, [], [], rfl, b03, S3_, hp3, .nil, rfl, (fun _ h => nomatch h), Dvp.nil, by omega, (fun _ h => nomatch h)⟩
    · rintro i σ H4 hi ⟨ab, v, rows, vs, rfl, b4, S4, hp4, pr, rl, hlab, hdv, hab, hdp⟩
      have hnn := hdv.nonneg
      refine ⟨_, rfl, _, rfl, _, rfl, _, rfl, a, sh, ab, rfl, S4, hnn, by omega, fun r H5 b5 S5 r0 r1 => ?_⟩
      have hL5 := (b4.trans b5).seq hS hL
      have tk5 : TK H4 H5 := TK.src b5 S4
      have hp5 := b5 _ _ nap.symm hp4
      have pr5 := PL.tk pr tk5 flat_row
      obtain ⟨n5, s5, t5, hS5⟩ := S5
      refine ⟨_, _, rfl, ?_⟩
      generalize ed : (if r < deep then r else deep) = d
      have hd0 : ab = 0 → d = 1 := fun z => by
        have := r0 z
        rw [← ed]
        split <;> omega
      have hd1 : 0 < ab → 2 ≤ d ∧ d ≤ ab + 1 := fun z => by
        have := r1 z
        rw [← ed]
        split <;> omega
      have hdd : d ≤ deep := by rw [← ed]; split <;> omega
      refine ⟨_, rfl, .inl ⟨rfl, _, SqL.of hp5⟩, _, rfl, _, rfl, _, rfl, _, _, rfl, Or.inl ⟨_, hL5, rfl⟩, a, _, n5, s5, t5, rfl, hS5, ?_, ?_, fun j H6 j0 j1 b6 S6 => ?_⟩
      · rw [List.length_map]; omega
      · rw [List.length_map]; omega
      have hL6 := b6.seq hS5 hL5
      have tk6 : TK H5 H6 := TK.butD b6 hS5
      have hp6 := b6 _ _ nap.symm hp5
      have pr6 := PL.tk pr5 tk6 flat_row
      rw [List.length_map] at j1
      obtain ⟨jn, rfl⟩ := Int.eq_ofNat_of_zero_le j0
      have hj : jn < labels.length := by omega
      refine ⟨_, _, _, _, rfl, rfl, hL6, atI_nat (j := jn) (v := .str labels[jn]) (by rw [List.getElem?_map, List.getElem?_eq_getElem hj]; rfl), _, rfl, by show 2 ≤ sizeLine; decide, ?_⟩
      intro q nq
      generalize e_H7 : upd _ q _ = H7
      obtain ⟨s7, hq⟩ := al e_H7 nq
      have hp7 := s7 _ _ hp6
      have S7 : Src H7 a := by obtain ⟨x, y, z, h⟩ := S6; exact ⟨x, y, z, s7 _ _ h⟩
      have hvl : vs.length = i := by rw [pr.length, rl]
      refine ⟨p, vs, _, rfl, rfl, hp7, szl (by omega), d, _, rows ++ [(labels[jn], d)], vs ++ [.ref q], rfl, (((b4.trans b5).trans b6).trans (But.of_same s7)).mut np0, ?_, upd_same, ?_, ?_, ?_, ?_, hdd, ?_⟩
      · obtain ⟨x, y, z, h⟩ := S7
        exact ⟨x, y, z, (upd_ne nap).trans h⟩
      · refine (PL.tk (pr6.same s7) (TK.updL hp7) flat_row).app (.cons ?_ .nil)
        exact dp_of_tup (SqT.of ((TK.updL hp7).1 _ _ hq)) (.cons (.str _) (.cons (.int _) .nil))
      · rw [List.length_append, rl]; rfl
      · intro r' hr'
        rcases List.mem_append.mp hr' with h | h
        · exact hlab r' h
        · rw [List.mem_singleton.mp h]
          exact List.getElem_mem hj
      · rw [List.map_append]
        exact hdv.snoc hd0 hd1
      · intro r' hr'
        rcases List.mem_append.mp hr' with h | h
        · exact hdp r' h
        · rw [List.mem_singleton.mp h]
          exact hdd
    · rintro σ H4 ⟨ab, v, rows, vs, rfl, b4, S4, hp4, pr, rl, hlab, hdv, hab, hdp⟩
      refine ⟨_, rfl, k H4 p vs rows b4 S4 np0 hp4 pr (by omega) (by omega) hlab (hdv.dv (by rw [List.length_map]; omega)) hdp⟩
theorem sc_law_steps : FnScope ["_law_source_here", "_law_labels_here", "_law_most", "_law_deep", "_law_rows_here", "_law_row"] ["_law_source_here", "_law_labels_here", "_law_most", "_law_deep"] (defScope st_law_steps) := ⟨rfl, rfl, rfl, by decide +kernel, rfl, by decide +kernel, by decide +kernel⟩
theorem ok_law_steps {f : Addr} {fd : FuncData} (T : Txt K mg) (F : FnP K "_law_steps" "_law_steps" st_law_steps f fd) (G_law_rows : Fn P w K mg base CX0 3 "_law_rows" ["_law_source_here", "_law_labels_here", "_law_most", "_law_deep"] (sp_law_rows K)) (G_law_take : Fn P w K mg base CX0 1 "_law_take" ["_law_source_here", "_law_many"] (sp_law_take K)) : FnOk P w K mg base CX0 4 f fd ["_law_source_here", "_law_labels_here", "_law_most", "_law_deep"] (sp_law_steps K) := by
  refine F.ok sc_law_steps (fun vs H Q E h => ?_) (fun cdv A outer s H vs Q E hr h => ?_)
  · obtain ⟨a, la, most, deep, labels, rfl, _⟩ := h
    rfl
  · obtain ⟨a, la, most, deep, labels, rfl, hS, hL, l1, l2, m1, m2, d1, d2, k⟩ := h
    refine ⟨_, PSs.nox (pss_cons (ps_set (i := 4) sc_law_steps.nd rfl (Or.inl rfl) (pe_callF G_law_rows (hr.mono (by decide)) pass0 (pa_cons (pv 0) (pa_cons (pv 1) (pa_cons (pv 2) (pa_cons (pv 3) pa_nil))))))
      (pss_one (ps_ret (pe_lc (own := [("_law_row", 5)]) (g := gName 5) (te := (tOp (rCatT K) (tTup (tCons (tOp (rIxL K) (tLst (tCons (tC (.str "/")) (tCons (tC (.str "//")) tNil))) (tCall (sp_law_take K) [] E0 (tCons (tVar 0) (tCons (tC (.int 2)) tNil)))) tNil)) (tVar 5))) rfl sc_law_steps.nd (pi_list (pv 4)) (blkOk_by (own := [("_law_row", 5)]) (N := ["_law_source_here", "_law_labels_here", "_law_most", "_law_deep", "_law_rows_here", "_law_row"]) (sc := defScope st_law_steps) (by decide +kernel)) (fun _ _ _ _ _ => (pg_name (i := 5) sc_law_steps.nd rfl (Or.inl rfl))) (fun _ _ _ _ _ => pts_nil) (fun _ _ _ _ _ => (pe_op op_catT (pe_tup (pa_cons (pe_ix ix_list (pe_lst (pa_cons pe_str (pa_cons pe_str pa_nil))) (pe_callF G_law_take (hr.mono (by decide)) pass0 (pa_cons (pv 0) (pa_cons pe_int pa_nil))) (fun _ _ => rfl)) pa_nil)) (pv 5))))))), ?_⟩
    refine ⟨_, rfl, _, rfl, _, rfl, _, rfl, a, la, most, deep, labels, rfl, hS, hL, l1, l2, m1, m2, d1, d2, fun H1 rp rv rows b1 S1 nrp hrp pr rl rl1 hlab dv hdp => ?_⟩
    refine ⟨_, rfl, rp, rfl, ⟨_, SqL.of hrp⟩, fun D hD => ?_⟩
    have naD : a ≠ D := by obtain ⟨_, _, _, h⟩ := S1; exact ne_of_none h hD
    have nD0 : H D = none := b1.free naD.symm hD
    have tkr : ∀ {G G' : Hp}, But a G G' → Src G a → TK G G' := fun b h => TK.src b h
    refine lc_list (K := K) (a := rp) (xs := rv) (fun i H' => But a H H' ∧ Src H' a ∧ TK H1 H' ∧ SqL K H' rp rv ∧ ∃ (vs : List V) (qs : List Sr), H' D = some (.lst vs) ∧ PL K H' eStep vs qs ∧ qs.length = i ∧ (∀ x ∈ qs, x.1 = "/" ∨ x.1 = "//") ∧ qs.map (·.2) = rows.take i) ?_ (fun i H' _ q => q.2.2.2.1) ?_ ?_
    · refine ⟨b1.new' hD, ?_, TK.same (L2.Same.new hD), (L2.Same.new hD).seq (SqL.of hrp), [], [], upd_same, .nil, rfl, (fun _ h => nomatch h), by simp⟩
      obtain ⟨x, y, z, h⟩ := S1
      exact ⟨x, y, z, (upd_ne naD).trans h⟩
    · rintro i x H2 hi ⟨b2, S2, tk2, hrp2, vs, qs, hD2, pq, hql, hqw, hqr⟩
      obtain ⟨r, hr2, dx⟩ := pr.get hi
      obtain ⟨t, rfl, ht⟩ := dp_row dx
      have hil : i < rows.length := (List.getElem?_eq_some_iff.mp hr2).1
      refine ⟨rfl, by show 2 ≤ sizeLine; decide, ?_⟩
      intro wl n3
      generalize e_H3 : upd _ wl _ = H3
      obtain ⟨s3, h3⟩ := al e_H3 n3
      obtain ⟨n2, t2, u2, hS2⟩ := S2
      have hS3 := s3 _ _ hS2
      have naw : a ≠ wl := ne_of_none hS2 n3
      refine ⟨_, rfl, a, 2, n2, t2, u2, rfl, hS3, by decide, by decide, fun c H4 c0 c1 b4 S4 => ?_⟩
      obtain ⟨w, hw, hww⟩ : ∃ w : Str, atI [V.str "/", V.str "//"] c = some (.str w) ∧ (w = "/" ∨ w = "//") := by
        have : c = ((0 : Nat) : Int) ∨ c = ((1 : Nat) : Int) := by omega
        rcases this with rfl | rfl
        · exact ⟨"/", atI_nat rfl, .inl rfl⟩
        · exact ⟨"//", atI_nat rfl, .inr rfl⟩
      have hwl4 := b4 _ _ naw.symm h3
      refine ⟨_, _, _, _, rfl, rfl, SqL.of hwl4, hw, by show 1 ≤ sizeLine; decide, ?_⟩
      intro t5 n5
      generalize e_H5 : upd _ t5 _ = H5
      obtain ⟨s5, h5⟩ := al e_H5 n5
      have tk4 : TK H3 H4 := TK.butD b4 hS3
      have tk15 : TK H1 H5 := ((tk2.trans (TK.same s3)).trans tk4).trans (TK.same s5)
      refine ⟨_, rfl, t5, t, _, _, rfl, rfl, SqT.of h5, tk15.sq ht, by simp, by show 3 ≤ sizeLine; decide, (fun z => by cases z), fun _ => ?_⟩
      intro t6 n6
      generalize e_H6 : upd _ t6 _ = H6
      obtain ⟨s6, h6⟩ := al e_H6 n6
      have tk26 : TK H2 H6 := (((TK.same s3).trans tk4).trans (TK.same s5)).trans (TK.same s6)
      have naD' := naD
      have hD6 : H6 D = some (.lst vs) := s6 _ _ (s5 _ _ (b4 _ _ naD.symm (s3 _ _ hD2)))
      have hrpD : rp ≠ D := fun z => by rw [z, hD] at hrp; cases hrp
      have b26 : But a H2 H6 := (((But.of_same s3).trans b4).trans (But.of_same s5)).trans (But.of_same s6)
      have hrp6 : SqL K H6 rp rv := b26.seq hS2 hrp2
      refine ⟨vs, hD6, szl (by rw [pq.length, hql]; omega), (b2.trans b26).mut nD0, ?_, (tk2.trans tk26).trans (TK.updL hD6), ?_, vs ++ [.ref t6], qs ++ [(w, r)], upd_same, ?_, by rw [List.length_append, hql]; rfl, ?_, ?_⟩
      · obtain ⟨x, y, z, h⟩ := S4
        exact ⟨x, y, z, (upd_ne naD).trans (s6 _ _ (s5 _ _ h))⟩
      · exact SqL.updNe hrp6 hrpD
      · refine (PL.tk (PL.tk pq tk26 flat_step) (TK.updL hD6) flat_step).app (.cons ?_ .nil)
        exact dp_of_tup (SqT.of ((TK.updL hD6).1 _ _ h6)) (.cons (.str _) (.cons (.str _) (.cons (.int _) .nil)))
      · intro x hx
        rcases List.mem_append.mp hx with h | h
        · exact hqw x h
        · rw [List.mem_singleton.mp h]
          exact hww
      · rw [List.map_append, hqr, take_snoc hr2]
        rfl
    · rintro H2 ⟨b2, S2, tk2, hrp2, vs, qs, hD2, pq, hql, hqw, hqr⟩
      have hvl : rv.length = rows.length := pr.length
      rw [hvl, List.take_of_length_le (Nat.le_refl _)] at hqr
      have hdq : qds qs = rows.map (·.2) := by rw [← hqr, qds, List.map_map]; rfl
      have hmem : ∀ x ∈ qs, x.2 ∈ rows := fun x hx => by rw [← hqr]; exact List.mem_map_of_mem hx
      refine k H2 D vs qs b2 S2 nD0 hD2 pq (by omega) (by omega) hqw (fun x hx => hlab _ (hmem x hx)) (by rw [hdq]; exact dv) (fun x hx => hdp _ (hmem x hx))
theorem sc_law_world : FnScope ["_law_source_here", "_law_most", "_law_steps_here", "_law_labels_here", "_law_parts", "_law_asked"] ["_law_source_here", "_law_most", "_law_steps_here"] (defScope st_law_world) := ⟨rfl, rfl, rfl, by decide +kernel, rfl, by decide +kernel, by decide +kernel⟩
theorem ok_law_world {f : Addr} {fd : FuncData} (T : Txt K mg) (F : FnP K "_law_world" "_law_world" st_law_world f fd) (G_law_labels : Fn P w K mg base CX0 2 "_law_labels" ["_law_source_here", "_law_many"] (sp_law_labels K)) (G_law_take : Fn P w K mg base CX0 1 "_law_take" ["_law_source_here", "_law_many"] (sp_law_take K)) (G_law_rows : Fn P w K mg base CX0 3 "_law_rows" ["_law_source_here", "_law_labels_here", "_law_most", "_law_deep"] (sp_law_rows K)) (G_law_steps : Fn P w K mg base CX0 4 "_law_steps" ["_law_source_here", "_law_labels_here", "_law_most", "_law_deep"] (sp_law_steps K)) : FnOk P w K mg base CX0 5 f fd ["_law_source_here", "_law_most", "_law_steps_here"] (sp_law_world K) := by
  refine F.ok sc_law_world (fun vs H Q E h => ?_) (fun cdv A outer s H vs Q E hr h => ?_)
  · obtain ⟨a, most, sm, rfl, _⟩ := h
    rfl
  · obtain ⟨a, most, sm, rfl, ⟨n, s, t, hS⟩, m0, m1, q0, q1, k⟩ := h
    refine ⟨_, PSs.nox (pss_cons (ps_set (i := 3) sc_law_world.nd rfl (Or.inl rfl) (pe_callF G_law_labels (hr.mono (by decide)) pass0 (pa_cons (pv 0) (pa_cons (pe_ix ix_list (pe_lst (pa_cons pe_int (pa_cons pe_int (pa_cons pe_int (pa_cons pe_int (pa_cons pe_int pa_nil)))))) (pe_callF G_law_take (hr.mono (by decide)) pass0 (pa_cons (pv 0) (pa_cons pe_int pa_nil))) (fun _ _ => rfl)) pa_nil))))
      (pss_cons (ps_set (i := 4) sc_law_world.nd rfl (Or.inl rfl) (pe_callF G_law_rows (hr.mono (by decide)) pass0 (pa_cons (pv 0) (pa_cons (pv 3) (pa_cons (pv 1) (pa_cons (pe_ix ix_list (pe_lst (pa_cons pe_int (pa_cons pe_int (pa_cons pe_int pa_nil)))) (pe_callF G_law_take (hr.mono (by decide)) pass0 (pa_cons (pv 0) (pa_cons pe_int pa_nil))) (fun _ _ => rfl)) pa_nil))))))
      (pss_cons (ps_set (i := 5) sc_law_world.nd rfl (Or.inl rfl) (pe_callF G_law_steps (hr.mono (by decide)) pass0 (pa_cons (pv 0) (pa_cons (pv 3) (pa_cons (pv 2) (pa_cons (pe_ix ix_list (pe_lst (pa_cons pe_int (pa_cons pe_int (pa_cons pe_int pa_nil)))) (pe_callF G_law_take (hr.mono (by decide)) pass0 (pa_cons (pv 0) (pa_cons pe_int pa_nil))) (fun _ _ => rfl)) pa_nil))))))
      (pss_one (ps_ret (pe_disp (pps_cons pe_str (pv 4) (pps_cons pe_str (pv 5) (pps_cons pe_str (pe_callF G_law_take (hr.mono (by decide)) pass0 (pa_cons (pv 0) (pa_cons (pe_callB call_len rfl T.free_len PySem.boot_len (pa_cons (pv 5) pa_nil)) pa_nil))) pps_nil))) (by rfl) (by rfl) (fun z => by cases z) (by decide))))))), ?_⟩
    refine ⟨_, rfl, by show 5 ≤ sizeLine; decide, ?_⟩
    intro l1 n1
    generalize e_H1 : upd _ l1 _ = H1
    obtain ⟨s1, h1⟩ := al e_H1 n1
    have hS1 := s1 _ _ hS
    have na1 : a ≠ l1 := ne_of_none hS n1
    refine ⟨_, rfl, a, 5, n, s, t, rfl, hS1, by decide, by decide, fun c H2 c0 c1 b2 S2 => ?_⟩
    obtain ⟨lm, hlm, hlm0, hlm1⟩ : ∃ d : Int, atI [V.int 1, V.int 2, V.int 2, V.int 3, V.int 4] c = some (.int d) ∧ 1 ≤ d ∧ d ≤ 4 := by
      have : c = ((0 : Nat) : Int) ∨ c = ((1 : Nat) : Int) ∨ c = ((2 : Nat) : Int) ∨ c = ((3 : Nat) : Int) ∨ c = ((4 : Nat) : Int) := by omega
      rcases this with rfl | rfl | rfl | rfl | rfl
      · exact ⟨1, atI_nat rfl, by decide, by decide⟩
      · exact ⟨2, atI_nat rfl, by decide, by decide⟩
      · exact ⟨2, atI_nat rfl, by decide, by decide⟩
      · exact ⟨3, atI_nat rfl, by decide, by decide⟩
      · exact ⟨4, atI_nat rfl, by decide, by decide⟩
    refine ⟨_, _, _, _, rfl, rfl, SqL.of (b2 _ _ na1.symm h1), hlm, a, lm, rfl, S2, by omega, by omega, fun H3 la ls b3 S3 nla hla hll hlb => ?_⟩
    have b03 : But a H H3 := ((But.of_same s1).trans b2).trans b3
    refine ⟨_, rfl, _, rfl, _, rfl, by show 3 ≤ sizeLine; decide, ?_⟩
    intro l4 n4
    generalize e_H4 : upd _ l4 _ = H4
    obtain ⟨s4, h4⟩ := al e_H4 n4
    obtain ⟨x3, y3, z3, hS3⟩ := S3
    have hS4 := s4 _ _ hS3
    have na4 : a ≠ l4 := ne_of_none hS3 n4
    refine ⟨_, rfl, a, 3, x3, y3, z3, rfl, hS4, by decide, by decide, fun c H5 c0 c1 b5 S5 => ?_⟩
    obtain ⟨d, hd, hd0, hd1⟩ : ∃ d : Int, atI [V.int 3, V.int 6, V.int 30] c = some (.int d) ∧ 2 ≤ d ∧ d ≤ 30 := by
      have : c = ((0 : Nat) : Int) ∨ c = ((1 : Nat) : Int) ∨ c = ((2 : Nat) : Int) := by omega
      rcases this with rfl | rfl | rfl
      · exact ⟨3, atI_nat rfl, by decide, by decide⟩
      · exact ⟨6, atI_nat rfl, by decide, by decide⟩
      · exact ⟨30, atI_nat rfl, by decide, by decide⟩
    have nala : a ≠ la := by intro z; obtain ⟨x, y, w, h⟩ := S2; rw [← z, h] at nla; cases nla
    have b35 : But a H3 H5 := (But.of_same s4).trans b5
    have hla5 := b35 _ _ nala.symm hla
    refine ⟨_, _, _, _, rfl, rfl, SqL.of (b5 _ _ na4.symm h4), hd, a, la, most, d, ls, rfl, S5, SqL.of hla5, by omega, by omega, m0, by omega, hd0, by omega, fun H6 pa pv dr b6 S6 npa hpa pp pl1 pl2 plab pdv pdp => ?_⟩
    have b06 : But a H H6 := (b03.trans b35).trans b6
    have hla6 := b6 _ _ nala.symm hla5
    obtain ⟨x6, y6, z6, hS6⟩ := S6
    have napa : a ≠ pa := by intro z; obtain ⟨x, y, w, h⟩ := S5; rw [← z, h] at npa; cases npa
    refine ⟨_, rfl, _, rfl, _, rfl, by show 3 ≤ sizeLine; decide, ?_⟩
    intro l7 n7
    generalize e_H7 : upd _ l7 _ = H7
    obtain ⟨s7, h7⟩ := al e_H7 n7
    have hS7 := s7 _ _ hS6
    have na7 : a ≠ l7 := ne_of_none hS6 n7
    refine ⟨_, rfl, a, 3, x6, y6, z6, rfl, hS7, by decide, by decide, fun c H8 c0 c1 b8 S8 => ?_⟩
    obtain ⟨e, he, he0, he1⟩ : ∃ d : Int, atI [V.int 2, V.int 3, V.int 9] c = some (.int d) ∧ 2 ≤ d ∧ d ≤ 30 := by
      have : c = ((0 : Nat) : Int) ∨ c = ((1 : Nat) : Int) ∨ c = ((2 : Nat) : Int) := by omega
      rcases this with rfl | rfl | rfl
      · exact ⟨2, atI_nat rfl, by decide, by decide⟩
      · exact ⟨3, atI_nat rfl, by decide, by decide⟩
      · exact ⟨9, atI_nat rfl, by decide, by decide⟩
    have b68 : But a H6 H8 := (But.of_same s7).trans b8
    have tk68 : TK H6 H8 := (TK.same s7).trans (TK.butD b8 hS7)
    have hla8 := b68 _ _ nala.symm hla6
    have hpa8 := b68 _ _ napa.symm hpa
    refine ⟨_, _, _, _, rfl, rfl, SqL.of (b8 _ _ na7.symm h7), he, a, la, sm, e, ls, rfl, S8, SqL.of hla8, by omega, by omega, q0, by omega, he0, by omega, fun H9 sa sv qr b9 S9 nsa hsa ps sl1 sl2 sw slab sdv sdp => ?_⟩
    have tk89 : TK H8 H9 := TK.src b9 S8
    have hpa9 := b9 _ _ napa.symm hpa8
    have nasa : a ≠ sa := by intro z; obtain ⟨x, y, w, h⟩ := S8; rw [← z, h] at nsa; cases nsa
    have b09 : But a H H9 := (b06.trans b68).trans b9
    intro p np
    obtain ⟨x9, y9, z9, hS9⟩ := S9
    have nap : a ≠ p := ne_of_none hS9 np
    generalize e10 : upd H9 p (.dK []) = H10
    obtain ⟨s10, hp10⟩ := al e10 np
    refine ⟨_, rfl, _, rfl, _, rfl, _, rfl, _, _, rfl, Or.inl ⟨_, SqL.of (s10 _ _ hsa), rfl⟩, a, _, x9, y9, z9, rfl, s10 _ _ hS9, ?_, ?_, fun r H11 r0 r1 b11 S11 => ?_⟩
    · have := ps.length; omega
    · have := ps.length; omega
    have hp11 := b11 _ _ nap.symm hp10
    refine ⟨hp11, [(Sum.inr "parts", .ref pa), (Sum.inr "steps", .ref sa), (Sum.inr "wanted", .int r)], rfl, (by show 3 ≤ 15; decide), ?_⟩
    obtain ⟨g, rfl⟩ := Int.eq_ofNat_of_zero_le r0
    have hg : g < qr.length := by have := ps.length; omega
    have tk9 : TK H9 H11 := (TK.same s10).trans (TK.butD b11 (s10 _ _ hS9))
    have b911 : But a H9 H11 := (But.of_same s10).trans b11
    have npp : pa ≠ p := ne_of_none hpa9 np
    have nsp : sa ≠ p := ne_of_none hsa np
    have n0 : H p = none := b09.free nap.symm np
    refine k _ p dr qr g ((b09.trans b911).mut n0) ?_ n0 ⟨pa, sa, pv, sv, by rw [upd_same, wld_merge], (upd_ne npp).trans (b911 _ _ napa.symm hpa9), (upd_ne nsp).trans (b911 _ _ nasa.symm hsa), ?_, ?_, doc_ok pl2 (by omega) plab hlb pdv (fun r hr => by have := pdp r hr; omega), ⟨sl2, by omega, sw, fun r hr => hlb _ (slab r hr), sdv, fun r hr => by have := sdp r hr; omega, hg⟩⟩
    · obtain ⟨x, y, z, h⟩ := S11
      exact ⟨x, y, z, (upd_ne nap).trans h⟩
    · exact PL.tk (PL.tk (PL.tk (PL.tk pp tk68 flat_row) tk89 flat_row) tk9 flat_row) (TK.updD hp11) flat_row
    · exact PL.tk (PL.tk ps tk9 flat_step) (TK.updD hp11) flat_step
theorem sc_law_source : FnScope ["_law_cell"] ["_law_cell"] (defScope st_law_source) := ⟨rfl, rfl, rfl, by decide +kernel, rfl, by decide +kernel, by decide +kernel⟩
theorem ok_law_source {f : Addr} {fd : FuncData} (T : Txt K mg) (F : FnP K "_law_source" "_law_source" st_law_source f fd)  : FnOk P w K mg base CX0 1 f fd ["_law_cell"] (sp_law_source K) := by
  refine F.ok sc_law_source (fun vs H Q E h => ?_) (fun cdv A outer s H vs Q E hr h => ?_)
  · obtain ⟨c, rfl, _⟩ := h
    rfl
  · obtain ⟨c, rfl, k⟩ := h
    refine ⟨_, PSs.nox (pss_one (ps_ret (pe_disp (pps_cons pe_str (pe_op op_mul (pe_callB (call_max2 rfl) rfl T.free_max (by decide +kernel) (pa_cons pe_int (pa_cons (pv 0) pa_nil))) (pe_callTy call_int1 rfl T.free_int (by decide +kernel) (pa_cons (pe_cmpR op_ge (pv 0) (pe_op op_pow pe_int pe_int) (nomark _)) pa_nil))) (pps_cons pe_str (pe_op op_mod (pv 0) pe_int) (pps_cons pe_str pe_int pps_nil))) (by rfl) (by rfl) (fun z => by cases z) (by decide)))), ?_⟩
    intro p hp
    refine ⟨_, rfl, _, _, rfl, _, rfl, _, _, rfl, rfl, ⟨by decide, by decide, by decide⟩, _, _, rfl, rfl, .inr ⟨_, rfl, ?_⟩⟩
    refine ⟨_, _, rfl, rfl, .inr ?_, _, rfl, _, _, rfl, rfl, by walk_at "pos", upd_same, [(Sum.inr "number", _), (Sum.inr "seed", _), (Sum.inr "turn", _)], rfl, (by show 3 ≤ 15; decide), ?_⟩
    · split <;> decide
    · exact k p _ hp ((Same.new hp).mut hp) src_at
theorem sc_law_beneath : FnScope ["_law_uppers_here", "_law_way", "_law_pairs", "_law_k", "_law_upper", "_law_here"] ["_law_uppers_here", "_law_way"] (defScope st_law_beneath) := ⟨rfl, rfl, rfl, by decide +kernel, rfl, by decide +kernel, by decide +kernel⟩
theorem ok_law_beneath {f : Addr} {fd : FuncData} (T : Txt K mg) (F : FnP K "_law_beneath" "_law_beneath" st_law_beneath f fd)  : FnOk P w K mg base CX0 1 f fd ["_law_uppers_here", "_law_way"] (sp_law_beneath K) := by
  refine F.ok sc_law_beneath (fun vs H Q E h => ?_) (fun cdv A outer s H vs Q E hr h => ?_)
  · obtain ⟨l, w, ds, us, rfl, _⟩ := h
    rfl
  · obtain ⟨l, w, ds, us, rfl, hw, hl, up, hn, k⟩ := h
    refine ⟨_, PSs.nox (pss_cons (ps_set (i := 2) sc_law_beneath.nd rfl (Or.inl rfl) pe_dnewT)
      (pss_cons (ps_for PassesOwn.never rfl (pi_enum rfl T.free_enumerate (pa_cons (pv 0) pa_nil)) (pg_tup rfl (pgs_cons (pg_name (i := 3) sc_law_beneath.nd rfl (Or.inl rfl)) (pgs_cons (pg_name (i := 4) sc_law_beneath.nd rfl (Or.inl rfl)) pgs_nil)))
      (pss_cons (ps_set (i := 5) sc_law_beneath.nd rfl (Or.inl rfl) (pv 4))
      (pss_one (ps_while PassesOwn.never (pt_cmpR op_notN (pv 5) pe_non (nomark _))
      (pss_cons (ps_dput (hu_of hr) (pv 2) (pe_tup (pa_cons (pv 5) (pa_cons (pv 3) pa_nil))) pe_bl rfl)
      (pss_one (ps_set (i := 5) sc_law_beneath.nd rfl (Or.inl rfl) (pe_ix ix_list (pe_lst (pa_cons (pe_ix ix_list (pv 0) (pv 5) (fun _ _ => rfl)) (pa_cons pe_non pa_nil))) (pe_callTy call_int1 rfl T.free_int (by decide +kernel) (pa_cons (pe_cmpR op_eq (pv 1) pe_str (nomark _)) pa_nil)) (fun _ _ => rfl)))))))))
      (pss_one (ps_ret (pv 2))))), ?_⟩
    intro p n1
    generalize e_H1 : upd _ p _ = H1
    obtain ⟨s1, h1⟩ := al e_H1 n1
    have hul := up.len
    refine ⟨_, rfl, l, _, rfl, s1.seq hl, for_enum (K := K) (a := l) (xs := us.map vOpt) (i := 3) (j := 4) (fun i σ H' => ∃ (kv : List (List Key × V)) (v3 v4 v5 : Option V), σ = [some (.ref l), some (.str w), some (.ref p), v3, v4, v5] ∧ Same H H' ∧ H' p = some (.dT kv) ∧ Prs ds (decide (w = "//")) i kv ∧ kv.length ≤ i * 1000) ?_ (fun i σ H' _ ⟨_, _, _, _, _, s, _⟩ => s.seq hl) ?_ ?_⟩
    · refine ⟨[], none, none, none, rfl, s1, h1, fun u k => ⟨fun h => absurd h (has2_nil u k), fun ⟨_, _, _, _, h, _⟩ => by omega⟩, Nat.zero_le _⟩
    · rintro i x T σ H3 hi ⟨kv, v3, v4, v5, rfl, s3, hp, hprs, hkl⟩ nT
      obtain ⟨o, ho, rfl⟩ : ∃ o, us[i]? = some o ∧ x = vOpt o := by
        rw [List.getElem?_map] at hi
        cases e : us[i]? with
        | none => rw [e] at hi; cases hi
        | some d => rw [e] at hi; exact ⟨d, rfl, (Option.some.inj hi).symm⟩
      have hil : i < us.length := (List.getElem?_eq_some_iff.mp ho).1
      generalize e4 : upd H3 T _ = H4
      obtain ⟨s4, _⟩ := al e4 nT
      have hp4 := s4 _ _ hp
      have s04 := s3.trans s4
      refine ⟨_, rfl, ?_⟩
      refine ⟨fun m σ H' => ∃ (o' : Option Int) (kv : List (List Key × V)), σ = [some (.ref l), some (.str w), some (.ref p), some (.int i), some (vOpt o), some (vOpt o')] ∧ Same H H' ∧ H' p = some (.dT kv) ∧ m = om o' ∧ m ≤ i ∧ kv.length + m ≤ i * 1000 + i ∧ PWalk ds (decide (w = "//")) i o' kv, ?_, ?_⟩
      · have pw := PWalk.start hprs (up.at_ i o ho)
        refine ⟨_, o, kv, rfl, s04, hp4, rfl, ?_, ?_, pw⟩
        · cases o with
          | none => exact Nat.zero_le _
          | some h =>
            obtain ⟨n, rfl, b⟩ := pw.at_ h rfl
            have := b.1.1
            show (n : Int).toNat + 1 ≤ i
            omega
        · cases o with
          | none => show kv.length + 0 ≤ _; omega
          | some h =>
            obtain ⟨n, rfl, b⟩ := pw.at_ h rfl
            have := b.1.1
            show kv.length + ((n : Int).toNat + 1) ≤ _
            omega
      · rintro m σ H5 ⟨o', kv, rfl, s5, h5, rfl, hmi, hkl5, pw⟩
        cases o' with
        | none => 
          refine ⟨_, rfl, rfl, _, rfl, iteF ⟨kv, _, _, _, rfl, s5, h5, pw.end_, ?_⟩⟩
          have : kv.length + 0 ≤ i * 1000 + i := hkl5
          omega
        | some h =>
          obtain ⟨n, rfl, b⟩ := pw.at_ h rfl
          have hni := b.1.1
          have hkl6 : kv.length + ((n : Int).toNat + 1) ≤ i * 1000 + i := hkl5
          refine ⟨_, rfl, rfl, _, rfl, iteT ⟨_, fun _ _ h => h, _, rfl, _, rfl, _, rfl, by show 2 ≤ sizeLine; decide, ?_⟩⟩
          intro t n6
          generalize e_H6 : upd _ t _ = H6
          obtain ⟨s6, h6⟩ := al e_H6 n6
          have hp6 := s6 _ _ h5
          have s06 := s5.trans s6
          refine ⟨p, _, rfl, DPut.t (k := [Sum.inl (n : Int), Sum.inl (i : Int)]) hp6 h6 (szl (by omega)), ?_⟩
          generalize e_H7 : upd _ p _ = H7
          obtain ⟨b7, h7⟩ := ml e_H7
          have s07 : Same H H7 := same_of_but s06 n1 b7
          have hnu : n < us.length := by omega
          refine ⟨_, rfl, _, rfl, _, _, _, _, rfl, rfl, s07.seq hl, atI_nat (j := n) (v := vOpt us[n]) (by rw [List.getElem?_map, List.getElem?_eq_getElem hnu]; rfl), by show 2 ≤ sizeLine; decide, ?_⟩
          intro q8 n8
          generalize e_H8 : upd _ q8 _ = H8
          obtain ⟨s8, h8⟩ := al e_H8 n8
          have hp8 := s8 _ _ h7
          have s08 := s07.trans s8
          refine ⟨_, rfl, rfl, .inr ⟨_, rfl, ?_⟩⟩
          have hat : atI [vOpt us[n], V.non] (if decide (V.str w = V.str "/") then 1 else 0) = some (vOpt (if w = "/" then none else us[n])) := by
            by_cases c : w = "/"
            · rw [if_pos c, decide_eq_true (by rw [c])]
              exact atI_nat (j := 1) rfl
            · rw [if_neg c, decide_eq_false (by intro z; injection z with z; exact c z)]
              exact atI_nat (j := 0) rfl
          refine ⟨_, _, _, _, rfl, rfl, SqL.of h8, hat, ?_⟩
          have hun := up.at_ n us[n] (List.getElem?_eq_getElem hnu)
          have pw2 : PWalk ds (decide (w = "//")) i (if w = "/" then none else us[n]) (put2 kv n i) := by
            refine pw.step (fun c => ?_) (fun c => ?_)
            · have c : w = "//" := of_decide_eq_true c
              rw [if_neg (by rw [c]; decide)]
              exact hun
            · have c : ¬ w = "//" := of_decide_eq_false c
              rw [if_pos (hw.resolve_right c)]
          generalize eo : (if w = "/" then none else us[n]) = o2 at pw2
          have hp2 := put2_len kv n i
          have hm2 : om o2 < (n : Int).toNat + 1 := by
            cases o2 with
            | none => show 0 < _; omega
            | some h2 =>
              by_cases c : w = "/"
              · rw [if_pos c] at eo; cases eo
              · rw [if_neg c] at eo
                rw [eo] at hun
                obtain ⟨x, rfl, pp⟩ := hun
                have := pp.1.1
                show (x : Int).toNat + 1 < _
                omega
          have hmi : (n : Int).toNat + 1 ≤ i := hmi
          exact ⟨_, hm2, o2, put2 kv n i, rfl, s08, hp8, rfl, by omega, by omega, pw2⟩
    · rintro σ H3 ⟨kv, v3, v4, v5, rfl, s3, hp, hprs, hkl⟩
      rw [List.length_map, hul] at hprs
      exact ⟨_, rfl, k H3 p kv s3 n1 hp hprs⟩
theorem sc_law_uppers : FnScope ["_law_depths", "_law_uppers_here", "_law_line", "_law_k", "_law_depth_here"] ["_law_depths"] (defScope st_law_uppers) := ⟨rfl, rfl, rfl, by decide +kernel, rfl, by decide +kernel, by decide +kernel⟩
theorem ok_law_uppers {f : Addr} {fd : FuncData} (T : Txt K mg) (F : FnP K "_law_uppers" "_law_uppers" st_law_uppers f fd)  : FnOk P w K mg base CX0 1 f fd ["_law_depths"] (sp_law_uppers K) := by
  refine F.ok sc_law_uppers (fun vs H Q E h => ?_) (fun cdv A outer s H vs Q E hr h => ?_)
  · obtain ⟨l, ds, rfl, _⟩ := h
    rfl
  · obtain ⟨l, ds, rfl, hl, dv, hn, k⟩ := h
    refine ⟨_, PSs.nox (pss_cons (ps_set (i := 1) sc_law_uppers.nd rfl (Or.inl rfl) (pe_lst pa_nil))
      (pss_cons (ps_set (i := 2) sc_law_uppers.nd rfl (Or.inl rfl) (pe_lst pa_nil))
      (pss_cons (ps_for PassesOwn.never rfl (pi_enum rfl T.free_enumerate (pa_cons (pv 0) pa_nil)) (pg_tup rfl (pgs_cons (pg_name (i := 3) sc_law_uppers.nd rfl (Or.inl rfl)) (pgs_cons (pg_name (i := 4) sc_law_uppers.nd rfl (Or.inl rfl)) pgs_nil)))
      (pss_cons (ps_set (i := 2) sc_law_uppers.nd rfl (Or.inl rfl) (pe_op op_cat (pe_slice sl_list (pv 2) po_none (po_some (pe_op op_sub (pv 4) pe_int))) (pe_lst (pa_cons (pv 3) pa_nil))))
      (pss_one (ps_expr (pe_bm PySem.F.plainAttrs_list PySem.F.slot_list_append PySem.F.type_list_append mt_append (pv 1) (pa_cons (pe_ix ix_list (pe_lst (pa_cons pe_non (pa_cons (pe_ix ix_list (pe_op op_cat (pv 2) (pv 2)) (pe_op op_sub (pv 4) pe_int) (fun _ _ => rfl)) pa_nil))) (pe_callTy call_int1 rfl T.free_int (by decide +kernel) (pa_cons (pe_cmpR op_gt (pv 4) pe_int (nomark _)) pa_nil)) (fun _ _ => rfl)) pa_nil))))))
      (pss_one (ps_ret (pv 1)))))), ?_⟩
    refine ⟨Nat.zero_le _, ?_⟩
    intro p n1
    generalize e_H1 : upd _ p _ = H1
    obtain ⟨s1, h1⟩ := al e_H1 n1
    refine ⟨Nat.zero_le _, ?_⟩
    intro q n2
    generalize e_H2 : upd _ q _ = H2
    obtain ⟨s2, h2⟩ := al e_H2 n2
    refine ⟨_, rfl, l, _, rfl, (s1.trans s2).seq hl, for_enum (K := K) (a := l) (xs := ds.map V.int) (i := 3) (j := 4) (fun i σ H' => ∃ (q : Addr) (ln : List Int) (us : List (Option Int)) (v3 v4 : Option V), σ = [some (.ref l), some (.ref p), some (.ref q), v3, v4] ∧ p ≠ q ∧ Same H H' ∧ H' p = some (.lst (us.map vOpt)) ∧ H' q = some (.lst (ln.map V.int)) ∧ us.length = i ∧ (∀ (k : Nat) o, us[k]? = some o → UpAt ds k o) ∧ ((i = 0 ∧ ln = []) ∨ ∃ j, i = j + 1 ∧ Line ds j ln)) ?_ (fun i σ H' _ ⟨_, _, _, _, _, _, _, s, _⟩ => s.seq hl) ?_ ?_⟩
    · exact ⟨q, [], [], none, none, rfl, ne_of_none h1 n2, s1.trans s2, s2 _ _ h1, h2, rfl, (fun _ _ h => by simp at h), .inl ⟨rfl, rfl⟩⟩
    · rintro i x T σ H3 hi ⟨q, ln, us, v3, v4, rfl, npq, s3, hp, hq, hul, hup, hln⟩ nT
      obtain ⟨d, hd, rfl⟩ : ∃ d, ds[i]? = some d ∧ x = .int d := by
        rw [List.getElem?_map] at hi
        cases e : ds[i]? with
        | none => rw [e] at hi; cases hi
        | some d => rw [e] at hi; exact ⟨d, rfl, (Option.some.inj hi).symm⟩
      have hil : i < ds.length := (List.getElem?_eq_some_iff.mp hd).1
      have hdd : dg ds i = d := dg_of hd
      have hpos := dv.pos i hil
      have line' : Line ds i (ln.take (d - 1).toNat ++ [(i : Int)]) := by
        rcases hln with ⟨rfl, rfl⟩ | ⟨j, rfl, L⟩
        · rw [List.take_nil]
          exact Line.first dv
        · rw [← hdd]
          exact L.next dv hil
      generalize e4 : upd H3 T _ = H4
      obtain ⟨s4, _⟩ := al e4 nT
      have hp4 := s4 _ _ hp
      have hq4 := s4 _ _ hq
      refine ⟨_, rfl, _, rfl, _, _, rfl, rfl, _, rfl, q, _, rfl, SqL.of hq4, ?_⟩
      rw [cutV_to _ _ (show (0 : Int) ≤ d - 1 by omega), ← List.map_take]
      intro q1 n5
      generalize e_H5 : upd _ q1 _ = H5
      obtain ⟨s5, h5⟩ := al e_H5 n5
      refine ⟨_, rfl, by show 1 ≤ sizeLine; decide, ?_⟩
      intro q2 n6
      generalize e_H6 : upd _ q2 _ = H6
      obtain ⟨s6, h6⟩ := al e_H6 n6
      have hlen := line'.len
      rw [hdd, List.length_append, List.length_singleton] at hlen
      have hdl : d ≤ 1001 := by have := dv.le i hil; omega
      refine ⟨q1, q2, _, _, rfl, rfl, s6 _ _ h5, h6, ?_, ?_⟩
      · rw [List.length_map]
        exact sz (by show _ + 1 ≤ _; omega)
      rw [show ((ln.take (d - 1).toNat).map V.int ++ [V.int (i : Int)]) = (ln.take (d - 1).toNat ++ [(i : Int)]).map V.int by rw [List.map_append]; rfl]
      generalize ln.take (d - 1).toNat ++ [(i : Int)] = ln' at line' hlen ⊢
      intro q3 n7
      generalize e_H7 : upd _ q3 _ = H7
      obtain ⟨s7, h7⟩ := al e_H7 n7
      have hp7 := s7 _ _ (s6 _ _ (s5 _ _ hp4))
      have np3 : p ≠ q3 := ne_of_none (s6 _ _ (s5 _ _ hp4)) n7
      refine ⟨_, rfl, .inl ⟨rfl, _, SqL.of hp7⟩, _, rfl, _, rfl, q3, q3, _, _, rfl, rfl, h7, h7, ?_, ?_⟩
      · rw [List.length_map]
        have := line'.len
        exact sz (by omega)
      have hl' := line'.len
      rw [hdd] at hl'
      rw [← List.map_append]
      intro q4 n8
      generalize e_H8 : upd _ q4 _ = H8
      obtain ⟨s8, h8⟩ := al e_H8 n8
      obtain ⟨m, hm, hm2⟩ : ∃ m, atI ((ln' ++ ln').map V.int) (d - 2) = some (.int m) ∧ (1 < d → ln'[(d - 2).toNat]? = some m) := by
        by_cases c : 1 < d
        · have hlt : (d - 2).toNat < ln'.length := by omega
          refine ⟨ln'[(d - 2).toNat], ?_, fun _ => List.getElem?_eq_getElem hlt⟩
          refine at_of (j := (d - 2).toNat) (by omega) ?_
          rw [List.getElem?_map, List.getElem?_append_left (by omega), List.getElem?_eq_getElem hlt]
          rfl
        · have hd1 : d = 1 := by omega
          subst hd1
          obtain ⟨z, rfl⟩ : ∃ z, ln' = [z] := by
            match ln', hl' with
            | [z], _ => exact ⟨z, rfl⟩
            | [], h => simp at h
            | _ :: _ :: _, h => simp at h; omega
          exact ⟨z, atI_last [V.int z] (V.int z), fun h => absurd h c⟩
      refine ⟨_, rfl, _, _, rfl, rfl, _, _, _, _, rfl, rfl, SqL.of h8, hm, by show 2 ≤ sizeLine; decide, ?_⟩
      intro q5 n9
      generalize e_H9 : upd _ q5 _ = H9
      obtain ⟨s9, h9⟩ := al e_H9 n9
      have hp9 := s9 _ _ (s8 _ _ hp7)
      refine ⟨_, rfl, _, _, rfl, rfl, .inr ⟨_, rfl, ?_⟩⟩
      have hat : atI [V.non, V.int m] (if decide (1 < d) then 1 else 0) = some (vOpt (if 1 < d then some m else none)) := by
        by_cases c : 1 < d
        · rw [decide_eq_true c, if_pos c]
          exact atI_nat (j := 1) rfl
        · rw [decide_eq_false c, if_neg c]
          exact atI_nat (j := 0) rfl
      refine ⟨_, _, _, _, rfl, rfl, SqL.of h9, hat, p, _, _, rfl, rfl, hp9, ?_, ?_⟩
      · rw [List.length_map]
        exact szl (by omega)
      refine ⟨q3, ln', us ++ [if 1 < d then some m else none], _, _, rfl, np3, (((((((s3.trans s4).trans s5).trans s6).trans s7).trans s8).trans s9)).mut n1, ?_, ?_, ?_, ?_, .inr ⟨i, rfl, line'⟩⟩
      · rw [upd_same, List.map_append]
        rfl
      · rw [upd_ne np3.symm]
        exact s9 _ _ (s8 _ _ h7)
      · rw [List.length_append, hul]
        rfl
      · intro k' o ho
        by_cases c : k' < us.length
        · rw [List.getElem?_append_left c] at ho
          exact hup k' o ho
        · rw [List.getElem?_append_right (by omega)] at ho
          have hk : k' - us.length = 0 := by
            cases z : k' - us.length with
            | zero => rfl
            | succ y => rw [z] at ho; simp at ho
          have hki : k' = i := by omega
          rw [hk] at ho
          have ho : some (if 1 < d then some m else none) = some o := ho
          rw [hki, ← Option.some.inj ho]
          by_cases c1 : 1 < d
          · rw [if_pos c1]
            exact line'.upper (by rw [hdd]; exact c1) hil (by rw [hdd]; exact hm2 c1)
          · rw [if_neg c1]
            exact upAt_none dv (by rw [hdd]; exact c1)
    · rintro σ H3 ⟨q, ln, us, v3, v4, rfl, npq, s3, hp, hq, hul, hup, hln⟩
      exact ⟨_, rfl, k H3 p us s3 n1 hp ⟨by rw [hul, List.length_map], hup⟩⟩
theorem sc_law_down : FnScope ["_law_parts", "_law_steps_here", "_law_beneath_here", "_law_uppers_here", "_law_table", "_law_step", "_law_part", "_law_good", "_law_lower", "_law_some", "_law_row", "_law_other"] ["_law_parts", "_law_steps_here"] (defScope st_law_down) := ⟨rfl, rfl, rfl, by decide +kernel, rfl, by decide +kernel, by decide +kernel⟩
theorem ok_law_down {f : Addr} {fd : FuncData} (T : Txt K mg) (F : FnP K "_law_down" "_law_down" st_law_down f fd) (G_law_beneath : Fn P w K mg base CX0 1 "_law_beneath" ["_law_uppers_here", "_law_way"] (sp_law_beneath K)) (G_law_uppers : Fn P w K mg base CX0 1 "_law_uppers" ["_law_depths"] (sp_law_uppers K)) : FnOk P w K mg base CX0 2 f fd ["_law_parts", "_law_steps_here"] (sp_law_down K) := by
  refine F.ok sc_law_down (fun vs H Q E h => ?_) (fun cdv A outer s H vs Q E hr h => ?_)
  · obtain ⟨pa, sa, pav, sv, dr, qr, g, rfl, _⟩ := h
    rfl
  · obtain ⟨pa, sa, pav, sv, dr, qr, g, rfl, hpa, pp, dok, hsa, ps, qok, k⟩ := h
    refine ⟨_, PSs.nox (pss_cons (ps_set (i := 2) sc_law_down.nd rfl (Or.inr rfl) (pe_disp (pps_cons pe_str (pe_callF G_law_beneath (hr.mono (by decide)) pass0 (pa_cons (pe_callF G_law_uppers (hr.mono (by decide)) pass0 (pa_cons (pe_lc (own := [("_law_row", 10)]) (g := gName 10) (te := (tOp (rIxT K) (tVar 10) (tC (.int 1)))) rfl sc_law_down.nd (pi_list (pv 0)) (blkOk_by (own := [("_law_row", 10)]) (N := ["_law_parts", "_law_steps_here", "_law_beneath_here", "_law_uppers_here", "_law_table", "_law_step", "_law_part", "_law_good", "_law_lower", "_law_some", "_law_row", "_law_other"]) (sc := defScope st_law_down) (by decide +kernel)) (fun _ _ _ _ _ => (pg_name (i := 10) sc_law_down.nd rfl (Or.inl rfl))) (fun _ _ _ _ _ => pts_nil) (fun _ _ _ _ _ => (pe_ix ix_tup (pv 10) pe_int (fun _ _ => rfl)))) pa_nil)) (pa_cons pe_str pa_nil))) pps_nil) (by rfl) (by rfl) (fun z => by cases z) (by decide)))
      (pss_cons (ps_dput (hu_of hr) (pv 2) pe_str (pe_callF G_law_beneath (hr.mono (by decide)) pass0 (pa_cons (pe_callF G_law_uppers (hr.mono (by decide)) pass0 (pa_cons (pe_lc (own := [("_law_row", 10)]) (g := gName 10) (te := (tOp (rIxT K) (tVar 10) (tC (.int 1)))) rfl sc_law_down.nd (pi_list (pv 0)) (blkOk_by (own := [("_law_row", 10)]) (N := ["_law_parts", "_law_steps_here", "_law_beneath_here", "_law_uppers_here", "_law_table", "_law_step", "_law_part", "_law_good", "_law_lower", "_law_some", "_law_row", "_law_other"]) (sc := defScope st_law_down) (by decide +kernel)) (fun _ _ _ _ _ => (pg_name (i := 10) sc_law_down.nd rfl (Or.inl rfl))) (fun _ _ _ _ _ => pts_nil) (fun _ _ _ _ _ => (pe_ix ix_tup (pv 10) pe_int (fun _ _ => rfl)))) pa_nil)) (pa_cons pe_str pa_nil))) rfl)
      (pss_cons (ps_set (i := 3) sc_law_down.nd rfl (Or.inl rfl) (pe_callF G_law_uppers (hr.mono (by decide)) pass0 (pa_cons (pe_lc (own := [("_law_row", 10)]) (g := gName 10) (te := (tOp (rIxT K) (tVar 10) (tC (.int 2)))) rfl sc_law_down.nd (pi_list (pv 1)) (blkOk_by (own := [("_law_row", 10)]) (N := ["_law_parts", "_law_steps_here", "_law_beneath_here", "_law_uppers_here", "_law_table", "_law_step", "_law_part", "_law_good", "_law_lower", "_law_some", "_law_row", "_law_other"]) (sc := defScope st_law_down) (by decide +kernel)) (fun _ _ _ _ _ => (pg_name (i := 10) sc_law_down.nd rfl (Or.inl rfl))) (fun _ _ _ _ _ => pts_nil) (fun _ _ _ _ _ => (pe_ix ix_tup (pv 10) pe_int (fun _ _ => rfl)))) pa_nil)))
      (pss_cons (ps_setLc (i := 4) (own := [("_law_row", 10)]) (g := gName 10) rfl sc_law_down.nd rfl rfl (sw_true rfl rfl rfl (by decide +kernel)) (pi_list (pv 1)) (blkOk_by (own := [("_law_row", 10)]) (N := ["_law_parts", "_law_steps_here", "_law_beneath_here", "_law_uppers_here", "_law_table", "_law_step", "_law_part", "_law_good", "_law_lower", "_law_some", "_law_row", "_law_other"]) (sc := defScope st_law_down) (by decide +kernel)) (fun _ _ _ _ _ => (pg_name (i := 10) sc_law_down.nd rfl (Or.inl rfl))) (fun _ _ _ _ _ => pts_nil) (fun _ _ _ _ _ => (pe_lst pa_nil)))
      (pss_cons (ps_for PassesOwn.never rfl (pi_range3 rfl T.free_range (pa_cons (pe_op op_sub (pe_callB call_len rfl T.free_len PySem.boot_len (pa_cons (pv 1) pa_nil)) pe_int) (pa_cons (pe_un un_neg pe_int) (pa_cons (pe_un un_neg pe_int) pa_nil)))) (pg_name (i := 5) sc_law_down.nd rfl (Or.inl rfl))
      (pss_one (ps_for PassesOwn.never rfl (pi_range1 rfl T.free_range (pa_cons (pe_callB call_len rfl T.free_len PySem.boot_len (pa_cons (pv 0) pa_nil)) pa_nil)) (pg_name (i := 6) sc_law_down.nd rfl (Or.inr rfl))
      (pss_cons (ps_set (i := 7) sc_law_down.nd rfl (Or.inl rfl) (pe_cmpR op_eq (pe_ix ix_tup (pe_ix ix_list (pv 0) (pv 6) (fun _ _ => rfl)) pe_int (fun _ _ => rfl)) (pe_ix ix_tup (pe_ix ix_list (pv 1) (pv 5) (fun _ _ => rfl)) pe_int (fun _ _ => rfl)) (nomark _)))
      (pss_cons (ps_for PassesOwn.never rfl (pi_range2 rfl T.free_range (pa_cons (pe_op op_add (pv 5) pe_int) (pa_cons (pe_callB call_len rfl T.free_len PySem.boot_len (pa_cons (pv 1) pa_nil)) pa_nil))) (pg_name (i := 8) sc_law_down.nd rfl (Or.inr rfl))
      (pss_one (ps_if (pt_cmpR op_eq (pe_ix ix_list (pv 3) (pv 8) (fun _ _ => rfl)) (pv 5) (nomark _))
      (pss_cons (ps_setLc (i := 9) (own := [("_law_other", 11)]) (g := gName 11) (tt := (tB (tDIn (tTup (tCons (tVar 6) (tCons (tVar 11) tNil))) (tDGet (tVar 2) (tOp (rIxT K) (tOp (rIxL K) (tVar 1) (tVar 8)) (tC (.int 0))))))) rfl sc_law_down.nd rfl rfl (sw_true rfl rfl rfl (by decide +kernel)) (pi_list (pe_ix ix_list (pv 4) (pv 8) (fun _ _ => rfl))) (blkOk_by (own := [("_law_other", 11)]) (N := ["_law_parts", "_law_steps_here", "_law_beneath_here", "_law_uppers_here", "_law_table", "_law_step", "_law_part", "_law_good", "_law_lower", "_law_some", "_law_row", "_law_other"]) (sc := defScope st_law_down) (by decide +kernel)) (fun _ _ _ _ _ => (pg_name (i := 11) sc_law_down.nd rfl (Or.inl rfl))) (fun _ _ _ _ _ => (pts_one (pt_cmp (pc_din (hu_of hr) (pe_tup (pa_cons (pv 6) (pa_cons (pv 11) pa_nil))) (pe_dget (hu_of hr) (pv 2) (pe_ix ix_tup (pe_ix ix_list (pv 1) (pv 8) (fun _ _ => rfl)) pe_int (fun _ _ => rfl)) (fun _ _ => rfl)))))) (fun _ _ _ _ _ => (pv 11)))
      (pss_one (ps_set (i := 7) sc_law_down.nd rfl (Or.inl rfl) (pe_and (pv 7) (pe_one (pe_cmpR (op_neD hr.units) (pv 9) (pe_lst pa_nil) (nomark _)))))))
      pss_nil)))
      (pss_one (ps_if (pt_val (pv 7))
      (pss_one (ps_expr (pe_bm PySem.F.plainAttrs_list PySem.F.slot_list_append PySem.F.type_list_append mt_append (pe_ix ix_list (pv 4) (pv 5) (fun _ _ => rfl)) (pa_cons (pv 6) pa_nil))))
      pss_nil)))))))
      (pss_one (ps_ret (pv 4)))))))), ?_⟩
    have hdm := dok.most
    have hqm := qok.most
    have hsl : sv.length = qr.length := ps.length
    have hpl : pav.length = dr.length := pp.length
    intro b nb
    generalize e_H1 : upd _ b _ = H1
    obtain ⟨s1, hb1⟩ := al e_H1 nb
    have hpa1 := s1.seq hpa
    have pp1 := pp.same s1
    refine ⟨_, rfl, pa, rfl, ⟨_, hpa1⟩, fun D2 hD2 => ?_⟩
    refine lc_keepL (K := K) (xs := pav) (zs := dr) (fun _ => true) (fun r => .int r.2) pp1 hD2 hpa1 (by omega) ?_ ?_
    · rintro x z H' N Y dx hz s _ hY
      obtain ⟨t, rfl, ht⟩ := dp_row dx
      exact ⟨rfl, _, rfl, _, _, _, _, rfl, rfl, s.tup ht, atI_nat (j := 1) rfl, hY _ (Same.refl _) rfl⟩
    rintro H2 s2 h2
    rw [filter_yes, show dr.map (fun r => V.int r.2) = (dps dr).map V.int by rw [dps, List.map_map]; rfl] at h2
    refine ⟨D2, dps dr, rfl, SqL.of h2, dok.dv, by rw [dps_len]; omega, fun H3 u3 us3 s3 nu3 h3 uo3 => ?_⟩
    refine ⟨u3, "/", dps dr, us3, rfl, by first | exact .inl rfl | exact .inr rfl, SqL.of h3, uo3, by rw [dps_len]; omega, fun H4 d1 kv1 s4 nd1 hd1 p1 => ?_⟩
    have s14 := (s2.trans s3).trans s4
    have hb4 := s14 _ _ hb1
    have nbd1 : d1 ≠ b := fun z => by rw [z, (s2.trans s3) _ _ hb1] at nd1; cases nd1
    refine ⟨hb4, [(Sum.inr "/", .ref d1)], rfl, (by show 1 ≤ 15; decide), ?_⟩
    rw [bn_merge]
    generalize e_H5 : upd _ b _ = H5
    obtain ⟨b5, hb5⟩ := ml e_H5
    have s05 : Same H H5 := same_of_but (s1.trans s14) nb b5
    have hd15 := b5 _ _ nbd1 hd1
    have hpa5 := s05.seq hpa
    have pp5 := pp.same s05
    refine ⟨_, rfl, pa, rfl, ⟨_, hpa5⟩, fun D6 hD6 => ?_⟩
    refine lc_keepL (K := K) (xs := pav) (zs := dr) (fun _ => true) (fun r => .int r.2) pp5 hD6 hpa5 (by omega) ?_ ?_
    · rintro x z H' N Y dx hz s _ hY
      obtain ⟨t, rfl, ht⟩ := dp_row dx
      exact ⟨rfl, _, rfl, _, _, _, _, rfl, rfl, s.tup ht, atI_nat (j := 1) rfl, hY _ (Same.refl _) rfl⟩
    rintro H6 s6 h6
    rw [filter_yes, show dr.map (fun r => V.int r.2) = (dps dr).map V.int by rw [dps, List.map_map]; rfl] at h6
    refine ⟨D6, dps dr, rfl, SqL.of h6, dok.dv, by rw [dps_len]; omega, fun H7 u7 us7 s7 nu7 h7 uo7 => ?_⟩
    refine ⟨u7, "//", dps dr, us7, rfl, by first | exact .inl rfl | exact .inr rfl, SqL.of h7, uo7, by rw [dps_len]; omega, fun H8 d2 kv2 s8 nd2 hd2 p2 => ?_⟩
    have s58 := (s6.trans s7).trans s8
    have hb8 := s58 _ _ hb5
    have nbd2 : d2 ≠ b := fun z => by rw [z, (s6.trans s7) _ _ hb5] at nd2; cases nd2
    refine ⟨_, rfl, b, _, rfl, DPut.k (k := Sum.inr "//") hb8 (by show 1 < sizeLine; decide), ?_⟩
    rw [bn_put]
    generalize e_H9 : upd _ b _ = H9
    obtain ⟨b9, hb9⟩ := ml e_H9
    have s09 : Same H H9 := same_of_but (s05.trans s58) nb b9
    have hsa9 := s09.seq hsa
    have ps9 := ps.same s09
    refine ⟨_, rfl, sa, rfl, ⟨_, hsa9⟩, fun Dx hDx => ?_⟩
    refine lc_keepL (K := K) (xs := sv) (zs := qr) (fun _ => true) (fun r => .int r.2.2) ps9 hDx hsa9 (by omega) ?_ ?_
    · rintro x z H' N Y dx hz s _ hY
      obtain ⟨t, rfl, ht⟩ := dp_step dx
      exact ⟨rfl, _, rfl, _, _, _, _, rfl, rfl, s.tup ht, atI_nat (j := 2) rfl, hY _ (Same.refl _) rfl⟩
    rintro H10 s10 h10
    rw [filter_yes, show qr.map (fun r => V.int r.2.2) = (qds qr).map V.int by rw [qds, List.map_map]; rfl] at h10
    refine ⟨Dx, qds qr, rfl, SqL.of h10, qok.dv, by rw [qds_len]; omega, fun H11 ua us s11 nua hua uo => ?_⟩
    have s911 := s10.trans s11
    have s011 := s09.trans s911
    rw [decide_eq_false w_12, dps_len] at p1
    rw [decide_eq_true (rfl : ("//" : Str) = "//"), dps_len] at p2
    have env : LEnv K H11 pa sa b ua pav sv dr qr g d1 d2 kv1 kv2 us := ⟨s011.seq hpa, pp.same s011, dok, s011.seq hsa, ps.same s011, qok, s911 _ _ hb9, s911 _ _ (b9 _ _ nbd1 (s58 _ _ hd15)), p1, s911 _ _ (b9 _ _ nbd2 hd2), p2, hua, uo⟩
    refine ⟨_, rfl, sa, rfl, ⟨_, env.hsa⟩, fun D hD => ?_⟩
    obtain ⟨s0, hD0⟩ := al (H1 := upd H11 D (.lst [])) rfl hD
    have nHD : H D = none := s011.free hD
    refine lc_list (K := K) (a := sa) (xs := sv) (fun i H' => But D (upd H11 D (.lst [])) H' ∧ ∃ vs : List V, H' D = some (.lst vs) ∧ vs.Nodup ∧ TabF (upd H11 D (.lst [])) H' vs (List.replicate i [])) ⟨But.refl _ _, [], hD0, List.nodup_nil, .nil⟩ (fun i H' _ q => (same_of_but s0 hD q.1).seq env.hsa) ?_ ?_
    · rintro i x H' hi ⟨s, vs, hv, nd, tf⟩
      have hil := (List.getElem?_eq_some_iff.mp hi).1
      refine ⟨rfl, Nat.zero_le _, ?_⟩
      intro c nc
      have hcD : c ≠ D := fun z => by rw [z, hv] at nc; cases nc
      have nc0 : upd H11 D (.lst []) c = none := s.free hcD nc
      have sc : Same H' (upd H' c (.lst [])) := L2.Same.new nc
      refine ⟨vs, sc _ _ hv, szl ?_, (s.trans (But.of_same sc)).upd', vs ++ [.ref c], upd_same, ?_, ?_⟩
      · rw [tf.length, List.length_replicate]; omega
      · rw [List.nodup_append]
        refine ⟨nd, by simp, fun x hx y hy e => ?_⟩
        rw [List.mem_singleton.mp hy] at e
        subst e
        obtain ⟨r, _, c', e', _, q⟩ := Paired.mem tf hx
        cases e'
        rw [nc] at q
        cases q
      · rw [List.replicate_succ']
        refine Paired.app ((tf.same sc).upd hD0) (.cons ⟨c, rfl, nc0, ?_⟩ .nil)
        rw [upd_ne hcD]
        exact upd_same
    rintro H12 ⟨b12, vs, hv12, nd, tf12⟩
    have s12 := same_of_but s0 hD b12
    have env12 := env.same s12
    rw [hsl] at tf12
    refine ⟨_, rfl, _, _, rfl, Or.inl ⟨_, env12.hsa, rfl⟩, _, _, rfl, rfl, _, rfl, _, rfl, _, _, _, _, rfl, RgC.neg (by omega) (by omega) (by omega) (by omega), for_rangeC (fun i σ H' => ∃ (v5 v6 v7 v8 v9 : Option V) (Tt : List (List Nat)), σ = [some (.ref pa), some (.ref sa), some (.ref b), some (.ref ua), some (.ref D), v5, v6, v7, v8, v9, none, none] ∧ Same H11 H' ∧ H' D = some (.lst vs) ∧ TabF (upd H11 D (.lst [])) H' vs Tt ∧ DownT dr qr (qr.length - i) Tt ∧ ∀ s, s < qr.length - i → Tt[s]? = some []) ?_ ?_ ?_⟩
    · refine ⟨none, none, none, none, none, _, rfl, s12, hv12, tf12, ⟨by simp, fun s row h1 h2 => ?_⟩, fun s h => ?_⟩
      · have := (List.getElem?_eq_some_iff.mp h2).1
        simp at this
        omega
      · rw [List.getElem?_replicate, if_pos (by omega)]
    · rintro i σ H13 hi ⟨v5, v6, v7, v8, v9, Tt, rfl, s13, hv13, tf13, dt, hnil⟩
      have hi : i < qr.length := by omega
      have es : (((sv.length : Nat) : Int) - 1 + ((i : Nat) : Int) * -1) = ((qr.length - 1 - i : Nat) : Int) := by omega
      have hst : qr.length - 1 - i < qr.length := by omega
      have hsu : qr.length - i = qr.length - 1 - i + 1 := by omega
      have hsv : qr.length - (i + 1) = qr.length - 1 - i := by omega
      rw [es]
      rw [hsu] at dt hnil
      rw [hsv]
      generalize qr.length - 1 - i = st at hst dt hnil
      have env13 := env.same s13
      refine ⟨_, rfl, _, _, rfl, Or.inl ⟨_, env13.hpa, rfl⟩, _, rfl, by omega, by omega, for_range (lo := 0) (n := ((pav.length : Nat) : Int).toNat) (fun p σ H' => ∃ (v6 v7 v8 v9 : Option V) (row : List Nat), σ = [some (.ref pa), some (.ref sa), some (.ref b), some (.ref ua), some (.ref D), some (.int st), v6, v7, v8, v9, none, none] ∧ Same H11 H' ∧ H' D = some (.lst vs) ∧ TabF (upd H11 D (.lst [])) H' vs (Tt.set st row) ∧ row.Pairwise (· < ·) ∧ ∀ x, x ∈ row ↔ x < p ∧ GoodD dr qr Tt st x) ?_ ?_ ?_⟩
      · refine ⟨v6, v7, v8, v9, [], rfl, s13, hv13, ?_, .nil, fun x => ⟨fun z => (nomatch z), fun z => by omega⟩⟩
        rw [set_nil (hnil st (by omega))]
        exact tf13
      · rintro p σ H14 hp ⟨v6, v7, v8, v9, row, rfl, s14', hv14, tf14, hup, hrow⟩
        have hp : p < dr.length := by omega
        rw [Int.zero_add]
        have env14 := env.same s14'
        obtain ⟨t1, ha1, ht1⟩ := env14.row hp
        obtain ⟨t2, ha2, ht2⟩ := env14.step hst
        refine ⟨_, rfl, _, rfl, _, _, _, _, rfl, rfl, env14.hpa, ha1, _, _, _, _, rfl, rfl, ht1, atI_nat (j := 0) rfl, _, rfl, _, rfl, _, _, _, _, rfl, rfl, env14.hsa, ha2, _, _, _, _, rfl, rfl, ht2, atI_nat (j := 1) rfl, rfl, ?_⟩
        refine ⟨_, rfl, _, _, rfl, rfl, _, rfl, _, _, rfl, Or.inl ⟨_, env14.hsa, rfl⟩, _, _, rfl, ⟨by omega, by omega, by omega, by omega⟩, for_range (lo := (st : Int) + 1) (n := (((sv.length : Nat) : Int) - ((st : Int) + 1)).toNat) (fun j σ H' => ∃ (gb : Bool) (v8 v9 : Option V), σ = [some (.ref pa), some (.ref sa), some (.ref b), some (.ref ua), some (.ref D), some (.int st), some (.int p), some (.bl gb), v8, v9, none, none] ∧ Same H11 H' ∧ H' D = some (.lst vs) ∧ TabF (upd H11 D (.lst [])) H' vs (Tt.set st row) ∧ (gb = true ↔ dr[p].1 = qr[st].2.1 ∧ ∀ l sl, l < st + 1 + j → Par (qds qr) st l → qr[l]? = some sl → Hav (dps dr) (wB sl.1) (Tt.getD l []) p)) ?_ ?_ ?_⟩
        · refine ⟨_, v8, v9, rfl, s14', hv14, tf14, ?_⟩
          rw [decide_eq_true_iff]
          constructor
          · intro z
            injection z with z
            exact ⟨z, fun l sl h1 h2 _ => by have := h2.1.1; omega⟩
          · rintro ⟨z, _⟩
            rw [z]
        · rintro j σ H15 hj ⟨gb, v8, v9, rfl, s15, hv15, tf15, hgb⟩
          have el : (st : Int) + 1 + (j : Int) = ((st + 1 + j : Nat) : Int) := by omega
          have hlq : st + 1 + j < qr.length := by omega
          have hnext : ∀ l, l < st + 1 + (j + 1) ↔ l < st + 1 + j ∨ l = st + 1 + j := fun l => by omega
          have hstl : st ≠ st + 1 + j := by omega
          have hdone : st + 1 ≤ st + 1 + j := by omega
          rw [el]
          generalize st + 1 + j = l at hlq hgb hnext hstl hdone
          have env15 := env.same s15
          obtain ⟨o, hao, ho⟩ := env15.up hlq
          have hTl : l < Tt.length := by rw [dt.len]; exact hlq
          have hgd : Tt.getD l [] = Tt[l] := by rw [List.getD_eq_getElem?_getD, List.getElem?_eq_getElem hTl]; rfl
          refine ⟨_, rfl, _, rfl, _, _, _, _, rfl, rfl, SqL.of env15.hu, hao, _, rfl, by cases o <;> rfl, _, rfl, ?_⟩
          refine ite2 (fun c => ?_) (fun c => ?_)
          · have hpar := (up_par ho).mp (of_decide_eq_true c)
            have hsetl : l < (Tt.set st row).length := by rw [List.length_set]; exact hTl
            obtain ⟨ra, hvl, nra, hra⟩ := tf15.addr hsetl
            rw [List.getElem_set_ne hstl] at hra
            have drow := dt.at_ l _ hdone (List.getElem?_eq_getElem hTl)
            have hrl : Tt[l].length ≤ 240 := Nat.le_trans (up_len drow.up fun n hn => drow.lt hn) hdm
            obtain ⟨t3, ha3, ht3⟩ := env15.step hlq
            have hway := qok.way _ (List.getElem_mem hlq)
            obtain ⟨dd, kv, hget, hdd, hkv⟩ := env15.way hway
            refine ⟨_, rfl, _, rfl, _, _, _, _, rfl, rfl, SqL.of hv15, atI_nat hvl, ra, rfl, ⟨_, SqL.of hra⟩, fun E hE => ?_⟩
            refine lc_keepL (K := K) (xs := Tt[l].map vN) (zs := Tt[l]) (F := fun v n => v = vN n) (fun q => (valV kv [Sum.inl (p : Int), Sum.inl (q : Int)]).isSome) vN (paired_vN _) hE (SqL.of hra) (by omega) ?_ ?_
            · rintro x z H' N Y rfl hz s' hN hY
              refine ⟨rfl, _, rfl, _, rfl, by show 2 ≤ sizeLine; decide, ?_⟩
              intro tq nq
              generalize e_Hq : upd _ tq _ = Hq
              obtain ⟨sq, hq⟩ := al e_Hq nq
              have sq' := s'.trans sq
              have hget' := (env15.same sq').way hway
              have envq := env15.same sq'
              refine ⟨_, rfl, _, rfl, _, rfl, _, _, _, _, rfl, rfl, envq.hsa, ha3, _, _, _, _, rfl, rfl, sq'.tup ht3, atI_nat (j := 0) rfl, b, _, rfl, dget_same hget sq', dd, _, rfl, DGet.t (k := [Sum.inl (p : Int), Sum.inl (z : Int)]) (sq' _ _ hdd) hq, _, rfl, ?_⟩
              refine ite2 (fun c => ?_) (fun c => ?_)
              · exact ⟨_, rfl, hY _ sq c⟩
              · exact hN _ sq (by simpa using c)
            rintro H16 s16 h16
            have hv16 := s16 _ _ hv15
            have tf16 := tf15.same s16
            have hhav : (!(Tt[l].filter fun (q : Nat) => (valV kv [Sum.inl (p : Int), Sum.inl (q : Int)]).isSome).isEmpty) = true ↔ Hav (dps dr) (wB qr[l].1) (Tt.getD l []) p := by
              rw [filter_some, hgd]
              constructor
              · rintro ⟨q, hq, hh⟩
                exact ⟨q, hq, (hkv p q (drow.lt hq)).mp hh⟩
              · rintro ⟨q, hq, hh⟩
                exact ⟨q, hq, (hkv p q (drow.lt hq)).mpr hh⟩
            refine ⟨_, rfl, gb, rfl, ?_⟩
            cases hg : gb with
            | false =>
              refine iteF ⟨false, _, _, rfl, s15.trans s16, hv16, tf16, ?_⟩
              rw [hg] at hgb
              constructor
              · intro z; cases z
              · rintro ⟨z1, z2⟩
                exact hgb.mpr ⟨z1, fun l' sl h1 => z2 l' sl ((hnext l').mpr (.inl h1))⟩
            | true =>
              rw [hg] at hgb
              refine iteT ⟨_, rfl, Nat.zero_le _, ?_⟩
              intro e2 n17
              generalize e_H17 : upd _ e2 _ = H17
              obtain ⟨s17, h17⟩ := al e_H17 n17
              refine ⟨_, .list [], (pl_vN _).dp (SqL.of (s17 _ _ h16)), .lst (SqL.of h17) .nil, (gd_nats _).shaped (by decide), rfl, ?_⟩
              rw [eqv_nil, List.isEmpty_map]
              refine ⟨_, _, _, rfl, (s15.trans s16).trans s17, s17 _ _ hv16, tf16.same s17, ?_⟩
              rw [hhav]
              obtain ⟨hg1, hg2⟩ := hgb.mp rfl
              constructor
              · intro z
                refine ⟨hg1, fun l' sl h1 h2 h3 => ?_⟩
                rcases (hnext l').mp h1 with h | rfl
                · exact hg2 l' sl h h2 h3
                · rw [List.getElem?_eq_getElem hlq] at h3
                  cases h3
                  exact z
              · rintro ⟨_, z⟩
                exact z l _ ((hnext l).mpr (.inr rfl)) hpar (List.getElem?_eq_getElem hlq)
          · have hnp : ¬ Par (qds qr) st l := fun z => c (decide_eq_true ((up_par ho).mpr z))
            refine ⟨gb, _, v9, rfl, s15, hv15, tf15, hgb.trans ⟨?_, ?_⟩⟩
            · rintro ⟨z1, z2⟩
              refine ⟨z1, fun l' sl h1 h2 h3 => ?_⟩
              rcases (hnext l').mp h1 with h | rfl
              · exact z2 l' sl h h2 h3
              · exact absurd h2 hnp
            · rintro ⟨z1, z2⟩
              exact ⟨z1, fun l' sl h1 => z2 l' sl ((hnext l').mpr (.inl h1))⟩
        · rintro σ H15 ⟨gb, v8, v9, rfl, s15, hv15, tf15, hgb⟩
          have hgood : gb = true ↔ GoodD dr qr Tt st p := by
            rw [hgb]
            constructor
            · rintro ⟨z1, z2⟩
              exact ⟨⟨_, _, List.getElem?_eq_getElem hp, List.getElem?_eq_getElem hst, z1⟩, fun l sl h1 h2 => z2 l sl (by have := h1.1.2.1; rw [qds_len] at this; omega) h1 h2⟩
            · rintro ⟨⟨r, sr, h1, h2, h3⟩, h4⟩
              rw [List.getElem?_eq_getElem hp] at h1
              rw [List.getElem?_eq_getElem hst] at h2
              cases h1
              cases h2
              exact ⟨h3, fun l sl _ h1 h2 => h4 l sl h1 h2⟩
          refine ⟨_, rfl, gb, rfl, ?_⟩
          cases hg : gb with
          | true =>
            have hsetl : st < (Tt.set st row).length := by rw [List.length_set, dt.len]; exact hst
            obtain ⟨ra, hvl, nra, hra⟩ := tf15.addr hsetl
            rw [List.getElem_set_self] at hra
            have hrl : row.length ≤ 240 := Nat.le_trans (up_len hup (n := dr.length) fun n hn => by have := ((hrow n).mp hn).1; omega) hdm
            have hraD : ra ≠ D := fun z => by rw [z, hD0] at nra; cases nra
            refine iteT ⟨_, rfl, _, rfl, _, _, _, _, rfl, rfl, SqL.of hv15, atI_nat hvl, .inl ⟨rfl, _, SqL.of hra⟩, _, rfl, ra, _, _, rfl, rfl, hra, szl (by rw [List.length_map]; omega), ?_⟩
            have hn11 : H11 ra = none := s0.free nra
            have e1 : row.map vN ++ [V.int (p : Int)] = (row ++ [p]).map vN := by rw [List.map_append]; rfl
            rw [e1]
            refine ⟨_, _, _, _, row ++ [p], rfl, s15.mut hn11, (upd_ne hraD.symm).trans hv15, ?_, ?_, fun x => ?_⟩
            · have := tf15.row (row := row ++ [p]) nd hvl
              rw [List.set_set] at this
              exact this
            · rw [List.pairwise_append]
              exact ⟨hup, by simp, fun x hx y hy => by rw [List.mem_singleton.mp hy]; exact ((hrow x).mp hx).1⟩
            · rw [List.mem_append, List.mem_singleton, hrow]
              constructor
              · rintro (⟨h1, h2⟩ | rfl)
                · exact ⟨by omega, h2⟩
                · exact ⟨by omega, hgood.mp hg⟩
              · rintro ⟨h1, h2⟩
                by_cases c : x = p
                · exact .inr c
                · exact .inl ⟨by omega, h2⟩
          | false =>
            refine iteF ⟨_, _, _, _, row, rfl, s15, hv15, tf15, hup, fun x => (hrow x).trans ⟨fun z => ⟨by omega, z.2⟩, fun z => ⟨?_, z.2⟩⟩⟩
            have : x ≠ p := fun e => by
              rw [e] at z
              rw [hgood.mpr z.2] at hg
              cases hg
            omega
      · rintro σ H14 ⟨v6, v7, v8, v9, row, rfl, s14', hv14, tf14, hup, hrow⟩
        have hN : ((pav.length : Nat) : Int).toNat = dr.length := by omega
        rw [hN] at hrow
        have drow : DownRow dr qr Tt st row := ⟨hup, fun p => (hrow p).trans ⟨fun z => z.2, fun z => ⟨by obtain ⟨⟨r, _, hr', _⟩, _⟩ := z; exact (List.getElem?_eq_some_iff.mp hr').1, z⟩⟩⟩
        refine ⟨_, _, _, _, _, Tt.set st row, rfl, s14', hv14, tf14, dt.step hst drow, fun s hs => ?_⟩
        rw [List.getElem?_set_ne (by omega)]
        exact hnil s (by omega)
    · rintro σ H13 ⟨v5, v6, v7, v8, v9, Tt, rfl, s13, hv13, tf13, dt, hnil⟩
      rw [show qr.length - (((sv.length : Nat) : Int) - 1 - -1).toNat = 0 by omega] at dt
      exact ⟨_, rfl, k H13 D vs Tt (s011.trans s13) nHD hv13 (tf13.back (s011.trans s0)) dt⟩
theorem sc_law_full : FnScope ["_law_parts", "_law_steps_here", "_law_down_here", "_law_beneath_here", "_law_uppers_here", "_law_table", "_law_step", "_law_way", "_law_above", "_law_some", "_law_row", "_law_part", "_law_other", "_law_others"] ["_law_parts", "_law_steps_here", "_law_down_here"] (defScope st_law_full) := ⟨rfl, rfl, rfl, by decide +kernel, rfl, by decide +kernel, by decide +kernel⟩
theorem ok_law_full {f : Addr} {fd : FuncData} (T : Txt K mg) (F : FnP K "_law_full" "_law_full" st_law_full f fd) (G_law_beneath : Fn P w K mg base CX0 1 "_law_beneath" ["_law_uppers_here", "_law_way"] (sp_law_beneath K)) (G_law_uppers : Fn P w K mg base CX0 1 "_law_uppers" ["_law_depths"] (sp_law_uppers K)) : FnOk P w K mg base CX0 2 f fd ["_law_parts", "_law_steps_here", "_law_down_here"] (sp_law_full K) := by
  refine F.ok sc_law_full (fun vs H Q E h => ?_) (fun cdv A outer s H vs Q E hr h => ?_)
  · obtain ⟨pa, sa, da, pav, sv, dv, dr, qr, g, D, rfl, _⟩ := h
    rfl
  · obtain ⟨pa, sa, da, pav, sv, dv, dr, qr, g, D, rfl, hpa, pp, dok, hsa, ps, qok, hda, dtp, hD, k⟩ := h
    refine ⟨_, PSs.nox (pss_cons (ps_set (i := 3) sc_law_full.nd rfl (Or.inr rfl) (pe_disp (pps_cons pe_str (pe_callF G_law_beneath (hr.mono (by decide)) pass0 (pa_cons (pe_callF G_law_uppers (hr.mono (by decide)) pass0 (pa_cons (pe_lc (own := [("_law_row", 10)]) (g := gName 10) (te := (tOp (rIxT K) (tVar 10) (tC (.int 1)))) rfl sc_law_full.nd (pi_list (pv 0)) (blkOk_by (own := [("_law_row", 10)]) (N := ["_law_parts", "_law_steps_here", "_law_down_here", "_law_beneath_here", "_law_uppers_here", "_law_table", "_law_step", "_law_way", "_law_above", "_law_some", "_law_row", "_law_part", "_law_other", "_law_others"]) (sc := defScope st_law_full) (by decide +kernel)) (fun _ _ _ _ _ => (pg_name (i := 10) sc_law_full.nd rfl (Or.inl rfl))) (fun _ _ _ _ _ => pts_nil) (fun _ _ _ _ _ => (pe_ix ix_tup (pv 10) pe_int (fun _ _ => rfl)))) pa_nil)) (pa_cons pe_str pa_nil))) pps_nil) (by rfl) (by rfl) (fun z => by cases z) (by decide)))
      (pss_cons (ps_dput (hu_of hr) (pv 3) pe_str (pe_callF G_law_beneath (hr.mono (by decide)) pass0 (pa_cons (pe_callF G_law_uppers (hr.mono (by decide)) pass0 (pa_cons (pe_lc (own := [("_law_row", 10)]) (g := gName 10) (te := (tOp (rIxT K) (tVar 10) (tC (.int 1)))) rfl sc_law_full.nd (pi_list (pv 0)) (blkOk_by (own := [("_law_row", 10)]) (N := ["_law_parts", "_law_steps_here", "_law_down_here", "_law_beneath_here", "_law_uppers_here", "_law_table", "_law_step", "_law_way", "_law_above", "_law_some", "_law_row", "_law_part", "_law_other", "_law_others"]) (sc := defScope st_law_full) (by decide +kernel)) (fun _ _ _ _ _ => (pg_name (i := 10) sc_law_full.nd rfl (Or.inl rfl))) (fun _ _ _ _ _ => pts_nil) (fun _ _ _ _ _ => (pe_ix ix_tup (pv 10) pe_int (fun _ _ => rfl)))) pa_nil)) (pa_cons pe_str pa_nil))) rfl)
      (pss_cons (ps_set (i := 4) sc_law_full.nd rfl (Or.inl rfl) (pe_callF G_law_uppers (hr.mono (by decide)) pass0 (pa_cons (pe_lc (own := [("_law_row", 10)]) (g := gName 10) (te := (tOp (rIxT K) (tVar 10) (tC (.int 2)))) rfl sc_law_full.nd (pi_list (pv 1)) (blkOk_by (own := [("_law_row", 10)]) (N := ["_law_parts", "_law_steps_here", "_law_down_here", "_law_beneath_here", "_law_uppers_here", "_law_table", "_law_step", "_law_way", "_law_above", "_law_some", "_law_row", "_law_part", "_law_other", "_law_others"]) (sc := defScope st_law_full) (by decide +kernel)) (fun _ _ _ _ _ => (pg_name (i := 10) sc_law_full.nd rfl (Or.inl rfl))) (fun _ _ _ _ _ => pts_nil) (fun _ _ _ _ _ => (pe_ix ix_tup (pv 10) pe_int (fun _ _ => rfl)))) pa_nil)))
      (pss_cons (ps_set (i := 5) sc_law_full.nd rfl (Or.inl rfl) (pe_lst pa_nil))
      (pss_cons (ps_for PassesOwn.never rfl (pi_range1 rfl T.free_range (pa_cons (pe_callB call_len rfl T.free_len PySem.boot_len (pa_cons (pv 1) pa_nil)) pa_nil)) (pg_name (i := 6) sc_law_full.nd rfl (Or.inl rfl))
      (pss_cons (ps_set (i := 7) sc_law_full.nd rfl (Or.inr rfl) (pe_ix ix_tup (pe_ix ix_list (pv 1) (pv 6) (fun _ _ => rfl)) pe_int (fun _ _ => rfl)))
      (pss_one (ps_if (pt_cmpR op_eq (pv 6) pe_int (nomark _))
      (pss_one (ps_expr (pe_bm PySem.F.plainAttrs_list PySem.F.slot_list_append PySem.F.type_list_append mt_append (pv 5) (pa_cons (pe_lc (own := [("_law_part", 11)]) (g := gName 11) rfl sc_law_full.nd (pi_list (pe_ix ix_list (pv 2) pe_int (fun _ _ => rfl))) (blkOk_by (own := [("_law_part", 11)]) (N := ["_law_parts", "_law_steps_here", "_law_down_here", "_law_beneath_here", "_law_uppers_here", "_law_table", "_law_step", "_law_way", "_law_above", "_law_some", "_law_row", "_law_part", "_law_other", "_law_others"]) (sc := defScope st_law_full) (by decide +kernel)) (fun _ _ _ _ _ => (pg_name (i := 11) sc_law_full.nd rfl (Or.inl rfl))) (fun _ _ _ _ _ => (pts_one (PW.pt (pw_or (pt_cmpR op_eq (pv 7) pe_str (nomark _)) (pw_or1 (pt_cmpR op_eq (pv 11) pe_int (nomark _))))))) (fun _ _ _ _ _ => (pv 11))) pa_nil))))
      (pss_cons (ps_set (i := 8) sc_law_full.nd rfl (Or.inr rfl) (pe_ix ix_list (pv 5) (pe_ix ix_list (pv 4) (pv 6) (fun _ _ => rfl)) (fun _ _ => rfl)))
      (pss_cons (ps_setLc (i := 9) (own := [("_law_part", 11)]) (g := gName 11) (te := (tLst (tCons (tVar 11) (tCons (tLc (iList K (tVar 8)) (gName 12) (tB (tDIn (tTup (tCons (tVar 12) (tCons (tVar 11) tNil))) (tDGet (tVar 3) (tVar 7)))) (tVar 12) [12]) tNil)))) rfl sc_law_full.nd rfl rfl (sw_true rfl rfl rfl (by decide +kernel)) (pi_list (pe_ix ix_list (pv 2) (pv 6) (fun _ _ => rfl))) (blkOk_by (own := [("_law_part", 11)]) (N := ["_law_parts", "_law_steps_here", "_law_down_here", "_law_beneath_here", "_law_uppers_here", "_law_table", "_law_step", "_law_way", "_law_above", "_law_some", "_law_row", "_law_part", "_law_other", "_law_others"]) (sc := defScope st_law_full) (by decide +kernel)) (fun _ _ _ _ _ => (pg_name (i := 11) sc_law_full.nd rfl (Or.inr rfl))) (fun _ _ _ _ _ => pts_nil) (fun _ _ _ _ _ => (pe_lst (pa_cons (pv 11) (pa_cons (pe_lc (own := [("_law_other", 12)]) (g := gName 12) rfl sc_law_full.nd (pi_list (pv 8)) (by refine blkOk_by (own := [("_law_other", 12)]) (N := ["_law_parts", "_law_steps_here", "_law_down_here", "_law_beneath_here", "_law_uppers_here", "_law_table", "_law_step", "_law_way", "_law_above", "_law_some", "_law_row", "_law_part", "_law_other", "_law_others"]) (sc := { kind := .function, names := [(".0", .local), ("_law_part", .cell), ("_law_above", .cell), ("_law_beneath_here", .cell), ("_law_way", .cell)], isGenerator := false, isCoroutine := false }) ?_; decide +kernel) (fun _ _ _ _ _ => (pg_name (i := 12) sc_law_full.nd rfl (Or.inl rfl))) (fun _ _ _ _ _ => (pts_one (pt_cmp (pc_din (hu_of hr) (pe_tup (pa_cons (pv 12) (pa_cons (pv 11) pa_nil))) (pe_dget (hu_of hr) (pv 3) (pv 7) (fun _ _ => rfl)))))) (fun _ _ _ _ _ => (pv 12))) pa_nil)))))
      (pss_one (ps_expr (pe_bm PySem.F.plainAttrs_list PySem.F.slot_list_append PySem.F.type_list_append mt_append (pv 5) (pa_cons (pe_lc (own := [("_law_part", 11), ("_law_others", 13)]) (g := gLst K 2 (gCons (gName 11) (gCons (gName 13) gNil))) (tt := (tTest (tOp (rNeD K) (tVar 13) (tLst tNil)))) rfl sc_law_full.nd (pi_list (pv 9)) (blkOk_by (own := [("_law_part", 11), ("_law_others", 13)]) (N := ["_law_parts", "_law_steps_here", "_law_down_here", "_law_beneath_here", "_law_uppers_here", "_law_table", "_law_step", "_law_way", "_law_above", "_law_some", "_law_row", "_law_part", "_law_other", "_law_others"]) (sc := defScope st_law_full) (by decide +kernel)) (fun _ _ _ _ _ => (pg_lst rfl (pgs_cons (pg_name (i := 11) sc_law_full.nd rfl (Or.inl rfl)) (pgs_cons (pg_name (i := 13) sc_law_full.nd rfl (Or.inl rfl)) pgs_nil)))) (fun _ _ _ _ _ => (pts_one (pt_cmpR (op_neD hr.units) (pv 13) (pe_lst pa_nil) (nomark _)))) (fun _ _ _ _ _ => (pv 11))) pa_nil))))))))))
      (pss_one (ps_ret (pv 5)))))))), ?_⟩
    have hdm := dok.most
    have hqm := qok.most
    have hsl : sv.length = qr.length := ps.length
    have hpl : pav.length = dr.length := pp.length
    intro b nb
    generalize e_H1 : upd _ b _ = H1
    obtain ⟨s1, hb1⟩ := al e_H1 nb
    have hpa1 := s1.seq hpa
    have pp1 := pp.same s1
    refine ⟨_, rfl, pa, rfl, ⟨_, hpa1⟩, fun D2 hD2 => ?_⟩
    refine lc_keepL (K := K) (xs := pav) (zs := dr) (fun _ => true) (fun r => .int r.2) pp1 hD2 hpa1 (by omega) ?_ ?_
    · rintro x z H' N Y dx hz s _ hY
      obtain ⟨t, rfl, ht⟩ := dp_row dx
      exact ⟨rfl, _, rfl, _, _, _, _, rfl, rfl, s.tup ht, atI_nat (j := 1) rfl, hY _ (Same.refl _) rfl⟩
    rintro H2 s2 h2
    rw [filter_yes, show dr.map (fun r => V.int r.2) = (dps dr).map V.int by rw [dps, List.map_map]; rfl] at h2
    refine ⟨D2, dps dr, rfl, SqL.of h2, dok.dv, by rw [dps_len]; omega, fun H3 u3 us3 s3 nu3 h3 uo3 => ?_⟩
    refine ⟨u3, "/", dps dr, us3, rfl, by first | exact .inl rfl | exact .inr rfl, SqL.of h3, uo3, by rw [dps_len]; omega, fun H4 d1 kv1 s4 nd1 hd1 p1 => ?_⟩
    have s14 := (s2.trans s3).trans s4
    have hb4 := s14 _ _ hb1
    have nbd1 : d1 ≠ b := fun z => by rw [z, (s2.trans s3) _ _ hb1] at nd1; cases nd1
    refine ⟨hb4, [(Sum.inr "/", .ref d1)], rfl, (by show 1 ≤ 15; decide), ?_⟩
    rw [bn_merge]
    generalize e_H5 : upd _ b _ = H5
    obtain ⟨b5, hb5⟩ := ml e_H5
    have s05 : Same H H5 := same_of_but (s1.trans s14) nb b5
    have hd15 := b5 _ _ nbd1 hd1
    have hpa5 := s05.seq hpa
    have pp5 := pp.same s05
    refine ⟨_, rfl, pa, rfl, ⟨_, hpa5⟩, fun D6 hD6 => ?_⟩
    refine lc_keepL (K := K) (xs := pav) (zs := dr) (fun _ => true) (fun r => .int r.2) pp5 hD6 hpa5 (by omega) ?_ ?_
    · rintro x z H' N Y dx hz s _ hY
      obtain ⟨t, rfl, ht⟩ := dp_row dx
      exact ⟨rfl, _, rfl, _, _, _, _, rfl, rfl, s.tup ht, atI_nat (j := 1) rfl, hY _ (Same.refl _) rfl⟩
    rintro H6 s6 h6
    rw [filter_yes, show dr.map (fun r => V.int r.2) = (dps dr).map V.int by rw [dps, List.map_map]; rfl] at h6
    refine ⟨D6, dps dr, rfl, SqL.of h6, dok.dv, by rw [dps_len]; omega, fun H7 u7 us7 s7 nu7 h7 uo7 => ?_⟩
    refine ⟨u7, "//", dps dr, us7, rfl, by first | exact .inl rfl | exact .inr rfl, SqL.of h7, uo7, by rw [dps_len]; omega, fun H8 d2 kv2 s8 nd2 hd2 p2 => ?_⟩
    have s58 := (s6.trans s7).trans s8
    have hb8 := s58 _ _ hb5
    have nbd2 : d2 ≠ b := fun z => by rw [z, (s6.trans s7) _ _ hb5] at nd2; cases nd2
    refine ⟨_, rfl, b, _, rfl, DPut.k (k := Sum.inr "//") hb8 (by show 1 < sizeLine; decide), ?_⟩
    rw [bn_put]
    generalize e_H9 : upd _ b _ = H9
    obtain ⟨b9, hb9⟩ := ml e_H9
    have s09 : Same H H9 := same_of_but (s05.trans s58) nb b9
    have hsa9 := s09.seq hsa
    have ps9 := ps.same s09
    refine ⟨_, rfl, sa, rfl, ⟨_, hsa9⟩, fun Dx hDx => ?_⟩
    refine lc_keepL (K := K) (xs := sv) (zs := qr) (fun _ => true) (fun r => .int r.2.2) ps9 hDx hsa9 (by omega) ?_ ?_
    · rintro x z H' N Y dx hz s _ hY
      obtain ⟨t, rfl, ht⟩ := dp_step dx
      exact ⟨rfl, _, rfl, _, _, _, _, rfl, rfl, s.tup ht, atI_nat (j := 2) rfl, hY _ (Same.refl _) rfl⟩
    rintro H10 s10 h10
    rw [filter_yes, show qr.map (fun r => V.int r.2.2) = (qds qr).map V.int by rw [qds, List.map_map]; rfl] at h10
    refine ⟨Dx, qds qr, rfl, SqL.of h10, qok.dv, by rw [qds_len]; omega, fun H11 ua us s11 nua hua uo => ?_⟩
    have s911 := s10.trans s11
    have s011 := s09.trans s911
    rw [decide_eq_false w_12, dps_len] at p1
    rw [decide_eq_true (rfl : ("//" : Str) = "//"), dps_len] at p2
    have env : LEnv K H11 pa sa b ua pav sv dr qr g d1 d2 kv1 kv2 us := ⟨s011.seq hpa, pp.same s011, dok, s011.seq hsa, ps.same s011, qok, s911 _ _ hb9, s911 _ _ (b9 _ _ nbd1 (s58 _ _ hd15)), p1, s911 _ _ (b9 _ _ nbd2 hd2), p2, hua, uo⟩
    refine ⟨Nat.zero_le _, ?_⟩
    intro tb n12
    generalize e_H12 : upd _ tb _ = H12
    obtain ⟨s12, h12⟩ := al e_H12 n12
    have n11 : H tb = none := s011.free n12
    have env12 := env.same s12
    refine ⟨_, rfl, _, _, rfl, Or.inl ⟨_, env12.hsa, rfl⟩, _, rfl, by omega, by omega, for_range (lo := 0) (n := ((sv.length : Nat) : Int).toNat) (fun i σ H' => ∃ (v6 v7 v8 v9 : Option V) (vs : List V) (Tt : List (List Nat)), σ = [some (.ref pa), some (.ref sa), some (.ref da), some (.ref b), some (.ref ua), some (.ref tb), v6, v7, v8, v9, none, none, none, none] ∧ But tb H12 H' ∧ H' tb = some (.lst vs) ∧ TabF H12 H' vs Tt ∧ Tt.length = i ∧ FullT dr qr D Tt) ?_ ?_ ?_⟩
    · exact ⟨none, none, none, none, [], [], rfl, But.refl _ _, h12, .nil, rfl, fun s row h => by simp at h⟩
    · rintro i σ H13 hi ⟨v6, v7, v8, v9, vs, Tt, rfl, b13, hv13, tf13, hTl, hT⟩
      have hi : i < qr.length := by omega
      rw [Int.zero_add]
      have s13 := same_of_but s12 n12 b13
      have env13 := env.same s13
      obtain ⟨t1, ha1, ht1⟩ := env13.step hi
      have hway := qok.way _ (List.getElem_mem hi)
      obtain ⟨row, hrow, hgd, drow⟩ := hD.row hi
      obtain ⟨v, hv, ra, rfl, hra0⟩ := dtp.get' hrow
      have hrl : row.length ≤ 240 := Nat.le_trans (up_len drow.up fun n hn => drow.lt hn) hdm
      have s013 := s011.trans s13
      have hra := s013 _ _ hra0
      have hda13 := s013.seq hda
      refine ⟨_, rfl, _, rfl, _, _, _, _, rfl, rfl, env13.hsa, ha1, _, _, _, _, rfl, rfl, ht1, atI_nat (j := 0) rfl, _, rfl, rfl, _, rfl, ?_⟩
      refine ite2 (fun c => ?_) (fun c => ?_)
      · have hi0 : i = 0 := by
          have := of_decide_eq_true c
          injection this with this
          omega
        subst hi0
        refine ⟨_, rfl, .inl ⟨rfl, _, SqL.of hv13⟩, _, rfl, _, _, _, _, rfl, rfl, hda13, atI_nat (j := 0) hv, ra, rfl, ⟨_, SqL.of hra⟩, fun E hE => ?_⟩
        have hEt : E ≠ tb := fun z => by rw [z, hv13] at hE; cases hE
        refine lc_keepL (K := K) (xs := row.map vN) (zs := row) (F := fun v n => v = vN n) (fun p => decide (qr[0].1 = "//") || decide (p = 0)) vN (paired_vN _) hE (SqL.of hra) (by omega) ?_ ?_
        · rintro x z H' N Y rfl hz s' hN hY
          refine ⟨rfl, _, rfl, rfl, _, rfl, ?_⟩
          refine ite2 (fun c => ?_) (fun c => ?_)
          · have c : qr[0].1 = "//" := by have := of_decide_eq_true c; injection this
            exact ⟨_, rfl, hY _ (Same.refl _) (by rw [decide_eq_true c]; rfl)⟩
          · have c : ¬ qr[0].1 = "//" := fun z => c (decide_eq_true (by rw [z]))
            refine ⟨_, rfl, rfl, _, rfl, ?_⟩
            refine ite2 (fun c2 => ?_) (fun c2 => ?_)
            · have c2 : z = 0 := by
                have := of_decide_eq_true c2
                injection this with this
                omega
              exact ⟨_, rfl, hY _ (Same.refl _) (by rw [decide_eq_true c2]; simp)⟩
            · have c2 : ¬ z = 0 := fun e => c2 (decide_eq_true (by rw [e]; rfl))
              exact hN _ (Same.refl _) (by rw [decide_eq_false c, decide_eq_false c2]; rfl)
        · rintro H14 s14' h14
          have hv14 := s14' _ _ hv13
          refine ⟨tb, vs, _, rfl, rfl, hv14, szl (by rw [tf13.length]; omega), _, _, _, _, vs ++ [.ref E], Tt ++ [_], rfl, (b13.trans (But.of_same s14')).upd', upd_same, ?_, by rw [List.length_append, hTl]; rfl, hT.snoc (row := row.filter fun p => decide (qr[0].1 = "//") || decide (p = 0)) ⟨drow.up.filter _, fun p => ?_⟩⟩
          · refine Paired.app ((tf13.same s14').upd h12) (.cons ⟨E, rfl, b13.free hEt hE, ?_⟩ .nil)
            rw [upd_ne hEt]
            exact h14
          · rw [List.mem_filter, hTl]
            unfold GoodF
            rw [hgd]
            constructor
            · rintro ⟨h1, h2⟩
              refine ⟨h1, _, List.getElem?_eq_getElem hi, .inl ⟨fun u hu => by have := hu.1; omega, ?_⟩⟩
              rw [Bool.or_eq_true, decide_eq_true_iff, decide_eq_true_iff] at h2
              exact h2
            · rintro ⟨h1, sr, h2, h3⟩
              rw [List.getElem?_eq_getElem hi] at h2
              cases h2
              rcases h3 with h3 | ⟨u, h3, _⟩
              · refine ⟨h1, ?_⟩
                rw [Bool.or_eq_true, decide_eq_true_iff, decide_eq_true_iff]
                exact h3.2
              · have := h3.1.1; omega
      · have hi1 : 0 < i := by
          rcases Nat.eq_zero_or_pos i with h | h
          · exact absurd (decide_eq_true (by rw [h]; rfl)) c
          · exact h
        obtain ⟨o, hao, ho⟩ := env13.up hi
        cases o with
        | none => exact absurd (an_root qok.dv hi1 (by rw [qds_len]; exact hi)) (ho 0)
        | some u =>
        obtain ⟨un, rfl, par⟩ := ho
        have hun : un < Tt.length := by have := par.1.1; omega
        obtain ⟨ru, hvu, nru, hru⟩ := tf13.addr hun
        have fr := hT un _ (List.getElem?_eq_getElem hun)
        have hb2 : Tt[un].length ≤ 240 := Nat.le_trans (up_len fr.up fun p hp => fr.lt hD hp) hdm
        obtain ⟨dd, kv, hget, hdd, hkv⟩ := env13.way hway
        refine ⟨_, rfl, _, rfl, _, rfl, _, _, _, _, rfl, rfl, SqL.of env13.hu, hao, _, _, _, _, rfl, rfl, SqL.of hv13, atI_nat hvu, ?_⟩
        refine ⟨_, rfl, _, rfl, _, _, _, _, rfl, rfl, hda13, atI_nat hv, ra, rfl, ⟨_, SqL.of hra⟩, fun S hS => ?_⟩
        refine lc_list (K := K) (a := ra) (xs := row.map vN) (fun j H' => Same H13 H' ∧ ∃ sv' : List V, H' S = some (.lst sv') ∧ Paired (fun v p => ∃ a e, v = .ref a ∧ a ≠ S ∧ e ≠ S ∧ H' a = some (.lst [vN p, .ref e]) ∧ H' e = some (.lst ((Tt[un].filter fun (q : Nat) => (valV kv [Sum.inl (q : Int), Sum.inl (p : Int)]).isSome).map vN))) sv' (row.take j)) ⟨L2.Same.new hS, [], upd_same, .nil⟩ (fun j H' _ q => q.1.seq (SqL.of hra)) ?_ ?_
        · rintro j x H14 hj ⟨s14', sv', hs14, pr⟩
          obtain ⟨p, hpj, rfl⟩ : ∃ p, row[j]? = some p ∧ x = vN p := by
            rw [List.getElem?_map] at hj
            cases e : row[j]? with
            | none => rw [e] at hj; cases hj
            | some d => rw [e] at hj; exact ⟨d, rfl, (Option.some.inj hj).symm⟩
          have hjl := (List.getElem?_eq_some_iff.mp hpj).1
          have hru14 := s14' _ _ hru
          refine ⟨rfl, _, rfl, _, rfl, ru, rfl, ⟨_, SqL.of hru14⟩, fun E hE => ?_⟩
          have hES : E ≠ S := fun z => by rw [z, hs14] at hE; cases hE
          refine lc_keepL (K := K) (xs := Tt[un].map vN) (zs := Tt[un]) (F := fun v n => v = vN n) (fun (q : Nat) => (valV kv [Sum.inl (q : Int), Sum.inl (p : Int)]).isSome) vN (paired_vN _) hE (SqL.of hru14) (by omega) ?_ ?_
          · rintro x z H' N Y rfl hz s' hN hY
            refine ⟨rfl, _, rfl, _, rfl, by show 2 ≤ sizeLine; decide, ?_⟩
            intro tq nq
            generalize e_Hq : upd _ tq _ = Hq
            obtain ⟨sq, hq⟩ := al e_Hq nq
            have sq' := (s14'.trans s').trans sq
            refine ⟨_, rfl, _, rfl, b, _, rfl, dget_same hget sq', dd, _, rfl, DGet.t (k := [Sum.inl (z : Int), Sum.inl (p : Int)]) (sq' _ _ hdd) hq, _, rfl, ?_⟩
            refine ite2 (fun c => ?_) (fun c => ?_)
            · exact ⟨_, rfl, hY _ sq c⟩
            · exact hN _ sq (by simpa using c)
          rintro H15 s15 h15
          have hs15 := s15 _ _ hs14
          refine ⟨by show 2 ≤ sizeLine; decide, ?_⟩
          intro a n16
          generalize e_H16 : upd _ a _ = H16
          obtain ⟨s16, h16⟩ := al e_H16 n16
          have haS : a ≠ S := fun z => by rw [z, hs15] at n16; cases n16
          have hs16 := s16 _ _ hs15
          have s46 := s15.trans s16
          refine ⟨sv', hs16, szl (by rw [pr.length, List.length_take]; omega), (s14'.trans s46).mut hS, sv' ++ [.ref a], upd_same, ?_⟩
          rw [take_snoc hpj]
          refine Paired.app (pr.imp ?_) (.cons ⟨a, E, rfl, haS, hES, (upd_ne haS).trans h16, (upd_ne hES).trans (s16 _ _ h15)⟩ .nil)
          rintro v p' ⟨a', e', rfl, h1, h2, h3, h4⟩
          exact ⟨a', e', rfl, h1, h2, (upd_ne h1).trans (s46 _ _ h3), (upd_ne h2).trans (s46 _ _ h4)⟩
        rintro H14 ⟨s14', sv', hs14, pr⟩
        rw [List.length_map, List.take_of_length_le (Nat.le_refl _)] at pr
        have hv14 := s14' _ _ hv13
        refine ⟨_, rfl, .inl ⟨rfl, _, SqL.of hv14⟩, _, rfl, S, rfl, ⟨_, SqL.of hs14⟩, fun E hE => ?_⟩
        have hEt : E ≠ tb := fun z => by rw [z, hv14] at hE; cases hE
        have hE13 : H13 E = none := s14'.free hE
        refine lc_keepL (K := K) (xs := sv') (zs := row) (fun p => !(Tt[un].filter fun (q : Nat) => (valV kv [Sum.inl (q : Int), Sum.inl (p : Int)]).isSome).isEmpty) vN pr hE (SqL.of hs14) (by omega) ?_ ?_
        · rintro x p H' N Y ⟨a, e, rfl, _, _, ha, he⟩ hz s' hN hY
          refine ⟨a, _, rfl, SqL.of (s' _ _ ha), rfl, _, _, rfl, _, _, rfl, rfl, rfl, _, rfl, Nat.zero_le _, ?_⟩
          intro e2 n17
          generalize e_H17 : upd _ e2 _ = H17
          obtain ⟨s17, h17⟩ := al e_H17 n17
          refine ⟨_, .list [], (pl_vN _).dp (SqL.of (s17 _ _ (s' _ _ he))), .lst (SqL.of h17) .nil, (gd_nats _).shaped (by decide), rfl, _, rfl, ?_⟩
          rw [eqv_nil, List.isEmpty_map]
          refine ite2 (fun c => ?_) (fun c => ?_)
          · exact ⟨_, rfl, hY _ s17 c⟩
          · exact hN _ s17 (by simpa using c)
        · rintro H15 s15 h15
          have hv15 := s15 _ _ hv14
          have s35 := s14'.trans s15
          refine ⟨tb, vs, _, rfl, rfl, hv15, szl (by rw [tf13.length]; omega), _, _, _, _, vs ++ [.ref E], Tt ++ [_], rfl, (b13.trans (But.of_same s35)).upd', upd_same, ?_, by rw [List.length_append, hTl]; rfl, hT.snoc (row := row.filter fun p => !(Tt[un].filter fun (q : Nat) => (valV kv [Sum.inl (q : Int), Sum.inl (p : Int)]).isSome).isEmpty) ⟨drow.up.filter _, fun p => ?_⟩⟩
          · refine Paired.app ((tf13.same s35).upd h12) (.cons ⟨E, rfl, b13.free hEt hE13, ?_⟩ .nil)
            rw [upd_ne hEt]
            exact h15
          · rw [List.mem_filter, hTl, filter_some]
            unfold GoodF
            rw [hgd]
            have hTg : Tt.getD un [] = Tt[un] := by rw [List.getD_eq_getElem?_getD, List.getElem?_eq_getElem hun]; rfl
            constructor
            · rintro ⟨h1, q, h2, h3⟩
              exact ⟨h1, _, List.getElem?_eq_getElem hi, .inr ⟨un, par, by rw [hTg]; exact ⟨q, h2, (hkv q p (drow.lt h1)).mp h3⟩⟩⟩
            · rintro ⟨h1, sr, h2, h3⟩
              rw [List.getElem?_eq_getElem hi] at h2
              cases h2
              rcases h3 with h3 | ⟨u, h3, h4⟩
              · exact absurd par.1 (h3.1 un)
              · have : u = un := par.only h3
                subst this
                rw [hTg] at h4
                obtain ⟨q, h5, h6⟩ := h4
                exact ⟨h1, q, h5, (hkv q p (drow.lt h1)).mpr h6⟩
    · rintro σ H13 ⟨v6, v7, v8, v9, vs, Tt, rfl, b13, hv13, tf13, hTl, hT⟩
      have s13 := same_of_but s12 n12 b13
      exact ⟨_, rfl, k H13 tb vs Tt (s011.trans s13) n11 hv13 (tf13.back (s011.trans s12)) hT (by omega)⟩
theorem sc_is_whole : FnScope ["thing"] ["thing"] (defScope st_is_whole) := ⟨rfl, rfl, rfl, by decide +kernel, rfl, by decide +kernel, by decide +kernel⟩
theorem ok_is_whole {f : Addr} {fd : FuncData} (T : Txt K mg) (F : FnP K "is_whole" "is_whole" st_is_whole f fd)  : FnOk P w K mg base CX0 1 f fd ["thing"] (sp_is_whole K) := by
  refine F.ok sc_is_whole (fun vs H Q E h => ?_) (fun cdv A outer s H vs Q E hr h => ?_)
  · obtain ⟨v, t, rfl, _⟩ := h
    rfl
  · obtain ⟨v, t, rfl, hk, k⟩ := h
    refine ⟨_, PSs.nox (pss_one (ps_ret (pe_and (pe_callB call_isi rfl T.free_isinstance (by decide +kernel) (pa_cons (pv 0) (pa_cons (pe_bltn (v := .ty "int") rfl T.free_int (by decide +kernel) rfl) pa_nil))) (pe_one (pe_not (pe_callB call_isi rfl T.free_isinstance (by decide +kernel) (pa_cons (pv 0) (pa_cons (pe_bltn (v := .ty "bool") rfl T.free_bool (by decide +kernel) rfl) pa_nil)))))))), ?_⟩
    obtain ⟨k1, k2, _⟩ := kit_known t hk.2
    refine ⟨_, rfl, _, _, _, _, _, rfl, .ty _, hk.1, kit_ty k1, _, rfl, ?_⟩
    by_cases c : (t == "int" || t == "bool") = true
    · rw [c]
      refine iteT ⟨_, rfl, _, _, _, _, _, rfl, .ty _, hk.1, kit_ty k2, _, rfl, ?_⟩
      have e : (!(t == "bool")) = (t == "int") := by
        cases h1 : t == "int" with
        | true =>
          have := eq_of_beq h1
          subst this
          decide
        | false =>
          rw [h1, Bool.false_or] at c
          rw [c]
          rfl
      rw [e]
      exact k
    · have c' : (t == "int" || t == "bool") = false := by simpa using c
      rw [c']
      refine iteF ?_
      have e : (t == "int") = false := by
        rw [Bool.or_eq_false_iff] at c'
        exact c'.1
      rw [e] at k
      exact k
theorem sc_is_within : FnScope ["thing", "low", "high"] ["thing", "low", "high"] (defScope st_is_within) := ⟨rfl, rfl, rfl, by decide +kernel, rfl, by decide +kernel, by decide +kernel⟩
theorem ok_is_within {f : Addr} {fd : FuncData} (T : Txt K mg) (F : FnP K "is_within" "is_within" st_is_within f fd) (G_is_whole : Fn P w K mg base CX0 1 "is_whole" ["thing"] (sp_is_whole K)) : FnOk P w K mg base CX0 2 f fd ["thing", "low", "high"] (sp_is_within K) := by
  refine F.ok sc_is_within (fun vs H Q E h => ?_) (fun cdv A outer s H vs Q E hr h => ?_)
  · obtain ⟨v, t, lo, hi, rfl, _⟩ := h
    rfl
  · obtain ⟨v, t, lo, hi, rfl, hk, k⟩ := h
    refine ⟨_, PSs.nox (pss_one (ps_ret (pe_and (pe_callF G_is_whole (hr.mono (by decide)) pass0 (pa_cons (pv 0) pa_nil)) (pe_one (pe_chain op_le op_le (pv 1) (pv 0) (pv 2)))))), ?_⟩
    refine ⟨_, rfl, v, t, rfl, hk, _, rfl, ?_⟩
    cases c : t == "int" with
    | false =>
      rw [hk.no_int (by intro q; rw [q] at c; exact absurd c (by decide))] at k
      exact iteF k
    | true =>
      obtain ⟨i, rfl⟩ := hk.int_of (eq_of_beq c)
      refine iteT ⟨_, rfl, _, rfl, _, _, rfl, rfl, _, rfl, ?_⟩
      refine ite2 (fun c1 => ?_) (fun c1 => ?_)
      · refine ⟨_, rfl, _, _, rfl, rfl, ?_⟩
        have e : withinV (.int i) lo hi = decide (i ≤ hi) := by show (decide (lo ≤ i) && decide (i ≤ hi)) = _; rw [c1, Bool.true_and]
        rw [e] at k
        exact k
      · have e : withinV (.int i) lo hi = false := by show (decide (lo ≤ i) && decide (i ≤ hi)) = _; rw [Bool.eq_false_iff.mpr c1, Bool.false_and]
        rw [e] at k
        exact k
theorem sc_is_label : FnScope ["thing", "sign"] ["thing"] (defScope st_is_label) := ⟨rfl, rfl, rfl, by decide +kernel, rfl, by decide +kernel, by decide +kernel⟩
theorem ok_is_label {f : Addr} {fd : FuncData} (T : Txt K mg) (F : FnP K "is_label" "is_label" st_is_label f fd)  : FnOk P w K mg base CX0 1 f fd ["thing"] (sp_is_label K) := by
  obtain ⟨tk_MOST_LETTERS, g_MOST_LETTERS⟩ := T.g_MOST_LETTERS
  obtain ⟨tk_LETTERS, g_LETTERS⟩ := T.g_LETTERS
  refine F.ok sc_is_label (fun vs H Q E h => ?_) (fun cdv A outer s H vs Q E hr h => ?_)
  · obtain ⟨v, t, rfl, _⟩ := h
    rfl
  · obtain ⟨v, t, rfl, hk, hz, k⟩ := h
    refine ⟨_, PSs.nox (pss_cons (ps_if (PW.pt (pw_or (pt_not (pt_val (pe_callB call_isi rfl T.free_isinstance (by decide +kernel) (pa_cons (pv 0) (pa_cons (pe_bltn (v := .ty "str") rfl T.free_str (by decide +kernel) rfl) pa_nil))))) (pw_or1 (pt_not (pt_chain op_le op_le pe_int (pe_callB call_len rfl T.free_len PySem.boot_len (pa_cons (pv 0) pa_nil)) (pe_glob (v := .int 8) rfl g_MOST_LETTERS ⟨_, rfl⟩))))))
      (pss_one (ps_ret pe_bl))
      pss_nil)
      (pss_one (ps_ret (pe_callB (cr_all rfl) rfl T.free_all (by decide +kernel) (pa_cons (pe_lc (own := [("sign", 1)]) (g := gName 1) rfl sc_is_label.nd (pi_str (pv 0)) (blkOk_by (own := [("sign", 1)]) (N := ["thing", "sign"]) (sc := defScope st_is_label) (by decide +kernel)) (fun _ _ _ _ _ => (pg_name (i := 1) sc_is_label.nd rfl (Or.inl rfl))) (fun _ _ _ _ _ => pts_nil) (fun _ _ _ _ _ => (pe_cmpR op_in_sign (pv 1) (pe_glob (v := .str "abcdefghijklmnopqrstuvwxyz") rfl g_LETTERS ⟨_, rfl⟩) (by rfl)))) pa_nil))))), ?_⟩
    obtain ⟨_, _, k3, _⟩ := kit_known t hk.2
    refine ⟨_, rfl, _, _, _, _, _, rfl, .ty _, hk.1, kit_ty k3, _, rfl, ?_⟩
    cases c : t == "str" with
    | false =>
      have e : labelV v = false := hk.no_str (by intro q; rw [q] at c; exact absurd c (by decide))
      rw [e] at k
      exact iteT (k _ (Same.refl _))
    | true =>
      obtain ⟨z, rfl⟩ := hk.str_of (eq_of_beq c)
      have hz := hz z rfl
      refine iteF ⟨_, rfl, _, _, rfl, ⟨sz (by omega), rfl⟩, _, _, rfl, rfl, _, rfl, ?_⟩
      by_cases c1 : (1 : Int) ≤ (z.length : Int)
      · rw [decide_eq_true c1]
        refine iteT ⟨_, _, rfl, rfl, _, rfl, ?_⟩
        by_cases c2 : (z.length : Int) ≤ 8
        · rw [decide_eq_true c2]
          refine iteF ⟨_, rfl, z, rfl, fun D hD => ?_⟩
          refine lc_str (z := z) (fun i H' => Same H H' ∧ H D = none ∧ H' D = some (.lst ((inLetters z).take i |>.map V.bl))) ⟨Same.new hD, hD, upd_same⟩ ?_ ?_
          · rintro i c H' hi ⟨s1, d1, h1⟩
            have hlt := sign_lt hi
            refine ⟨rfl, ⟨_, rfl, _, _, rfl, rfl, _, h1, szl (by rw [List.length_map, List.length_take]; omega), s1.mut d1, d1, ?_⟩⟩
            rw [upd_same, take_snoc (x := decide (c ∈ letters)) (by rw [inLetters, List.getElem?_map, hi]; rfl), List.map_append]
            rfl
          · rintro H' ⟨s1, d1, h1⟩
            rw [show ((inLetters z).take z.cps.size) = inLetters z from List.take_of_length_le (by simp [inLetters])] at h1
            refine ⟨_, _, rfl, SqL.of h1, ?_⟩
            have := k _ s1
            rw [labelV_str, labelB_in c1 c2] at this
            exact this
        · rw [decide_eq_false c2]
          refine iteT ?_
          have := k _ (Same.refl H)
          rw [labelV_str, labelB_long c2] at this
          exact this
      · rw [decide_eq_false c1]
        refine iteF ⟨_, rfl, iteT ?_⟩
        have := k _ (Same.refl H)
        rw [labelV_str, labelB_empty c1] at this
        exact this
theorem sc_is_part_row : FnScope ["thing", "deepest"] ["thing", "deepest"] (defScope st_is_part_row) := ⟨rfl, rfl, rfl, by decide +kernel, rfl, by decide +kernel, by decide +kernel⟩
theorem ok_is_part_row {f : Addr} {fd : FuncData} (T : Txt K mg) (F : FnP K "is_part_row" "is_part_row" st_is_part_row f fd) (G_is_within : Fn P w K mg base CX0 2 "is_within" ["thing", "low", "high"] (sp_is_within K)) (G_is_label : Fn P w K mg base CX0 1 "is_label" ["thing"] (sp_is_label K)) : FnOk P w K mg base CX0 3 f fd ["thing", "deepest"] (sp_is_part_row K) := by
  refine F.ok sc_is_part_row (fun vs H Q E h => ?_) (fun cdv A outer s H vs Q E hr h => ?_)
  · obtain ⟨t, z, d, deep, rfl, _⟩ := h
    rfl
  · obtain ⟨t, z, d, deep, rfl, ht, hz, k⟩ := h
    refine ⟨_, PSs.nox (pss_cons (ps_if (PW.pt (pw_or (pt_not (pt_val (pe_callB call_isi rfl T.free_isinstance (by decide +kernel) (pa_cons (pv 0) (pa_cons (pe_bltn (v := .ty "tuple") rfl T.free_tuple (by decide +kernel) rfl) pa_nil))))) (pw_or1 (pt_cmpR op_ne (pe_callB call_len rfl T.free_len PySem.boot_len (pa_cons (pv 0) pa_nil)) pe_int (nomark _)))))
      (pss_one (ps_ret pe_bl))
      pss_nil)
      (pss_one (ps_ret (pe_and (pe_callF G_is_label (hr.mono (by decide)) pass0 (pa_cons (pe_ix ix_tup (pv 0) pe_int (fun _ _ => rfl)) pa_nil)) (pe_one (pe_callF G_is_within (hr.mono (by decide)) pass0 (pa_cons (pe_ix ix_tup (pv 0) pe_int (fun _ _ => rfl)) (pa_cons pe_int (pa_cons (pv 1) pa_nil))))))))), ?_⟩
    refine ⟨_, rfl, _, _, _, _, _, rfl, .ty _, ty_sqT ht, kit_ty (r := true) (by decide +kernel), _, rfl, ?_⟩
    refine iteF ⟨_, rfl, _, _, rfl, Or.inr ⟨_, ht, rfl⟩, rfl, _, rfl, ?_⟩
    refine iteF ⟨_, rfl, _, _, _, _, rfl, rfl, ht, atI_nat (j := 0) rfl, .str z, "str", rfl, .str _, (fun _ q => by cases q; exact hz), fun H1 s1 => ⟨_, rfl, ?_⟩⟩
    rw [labelV_str]
    cases c : labelB z with
    | false =>
      have := k H1 s1
      rw [c] at this
      exact iteF this
    | true =>
      refine iteT ⟨_, rfl, _, _, _, _, rfl, rfl, s1.tup ht, atI_nat (j := 1) rfl, _, rfl, .int d, "int", 1, deep, rfl, .int _, ?_⟩
      have := k H1 s1
      rw [c] at this
      exact this
theorem sc_ends_by : FnScope ["depths", "found", "open_places", "place", "depth"] ["depths"] (defScope st_ends_by) := ⟨rfl, rfl, rfl, by decide +kernel, rfl, by decide +kernel, by decide +kernel⟩
theorem ok_ends_by {f : Addr} {fd : FuncData} (T : Txt K mg) (F : FnP K "ends_by" "ends_by" st_ends_by f fd)  : FnOk P w K mg base CX0 1 f fd ["depths"] (sp_ends_by K) := by
  refine F.ok sc_ends_by (fun vs H Q E h => ?_) (fun cdv A outer s H vs Q E hr h => ?_)
  · obtain ⟨l, ds, rfl, _⟩ := h
    rfl
  · obtain ⟨l, ds, rfl, hl, dv, hn, k⟩ := h
    refine ⟨_, PSs.nox (pss_cons (ps_set (i := 1) sc_ends_by.nd rfl (Or.inl rfl) (pe_op op_rep (pe_lst (pa_cons pe_int pa_nil)) (pe_callB call_len rfl T.free_len PySem.boot_len (pa_cons (pv 0) pa_nil))))
      (pss_cons (ps_set (i := 2) sc_ends_by.nd rfl (Or.inl rfl) (pe_lst pa_nil))
      (pss_cons (ps_for PassesOwn.never rfl (pi_enum rfl T.free_enumerate (pa_cons (pv 0) pa_nil)) (pg_tup rfl (pgs_cons (pg_name (i := 3) sc_ends_by.nd rfl (Or.inl rfl)) (pgs_cons (pg_name (i := 4) sc_ends_by.nd rfl (Or.inl rfl)) pgs_nil)))
      (pss_cons (ps_while PassesOwn.never (pt_cmpR op_ge (pe_callB call_len rfl T.free_len PySem.boot_len (pa_cons (pv 2) pa_nil)) (pv 4) (nomark _))
      (pss_one (ps_asg (pe_op op_sub (pv 3) pe_int) (pg_sub (pv 1) (pe_bm0 PySem.F.plainAttrs_list PySem.F.slot_list_pop PySem.F.type_list_pop mt_pop (pv 2)) set_list))))
      (pss_one (ps_expr (pe_bm PySem.F.plainAttrs_list PySem.F.slot_list_append PySem.F.type_list_append mt_append (pv 2) (pa_cons (pv 3) pa_nil))))))
      (pss_cons (ps_while PassesOwn.never (pt_cmpR (op_neD hr.units) (pv 2) (pe_lst pa_nil) (nomark _))
      (pss_one (ps_asg (pe_op op_sub (pe_callB call_len rfl T.free_len PySem.boot_len (pa_cons (pv 0) pa_nil)) pe_int) (pg_sub (pv 1) (pe_bm0 PySem.F.plainAttrs_list PySem.F.slot_list_pop PySem.F.type_list_pop mt_pop (pv 2)) set_list))))
      (pss_one (ps_ret (pv 1))))))), ?_⟩
    refine ⟨by show 1 ≤ sizeLine; decide, ?_⟩
    intro z n1
    generalize e_H1 : upd _ z _ = H1
    obtain ⟨s1, h1⟩ := al e_H1 n1
    refine ⟨_, rfl, _, _, rfl, Or.inl ⟨_, s1.seq hl, rfl⟩, z, _, _, rfl, rfl, h1, ?_, ?_, ?_, ?_⟩
    · rw [List.length_map]; omega
    · rw [List.length_map]; omega
    · rw [List.length_map]; exact sz (by show 1 * _ ≤ _; omega)
    rw [flat_rep, List.length_map, Int.toNat_natCast]
    intro p n2
    generalize e_H2 : upd _ p _ = H2
    obtain ⟨s2, h2⟩ := al e_H2 n2
    have np : H p = none := s1.free n2
    refine ⟨Nat.zero_le _, ?_⟩
    intro q n3
    generalize e_H3 : upd _ q _ = H3
    obtain ⟨s3, h3⟩ := al e_H3 n3
    have s03 := (s1.trans s2).trans s3
    have nq : H q = none := (s1.trans s2).free n3
    have npq : p ≠ q := ne_of_none h2 n3
    have hrep : List.replicate ds.length (V.int 0) = (List.replicate ds.length (0 : Int)).map V.int := by rw [List.map_replicate]
    rw [hrep] at h2
    refine ⟨_, rfl, l, _, rfl, s03.seq hl, for_enum (K := K) (a := l) (xs := ds.map V.int) (i := 3) (j := 4) (fun i σ H' => ∃ (fs op : List Int) (v3 v4 : Option V), σ = [some (.ref l), some (.ref p), some (.ref q), v3, v4] ∧ Same H H' ∧ H' p = some (.lst (fs.map V.int)) ∧ H' q = some (.lst (op.map V.int)) ∧ EI ds i fs op ∧ ((i = 0 ∧ op = []) ∨ ∃ j, i = j + 1 ∧ Line ds j op)) ?_ (fun i σ H' _ ⟨_, _, _, _, _, s, _⟩ => s.seq hl) ?_ ?_⟩
    · exact ⟨_, [], none, none, rfl, s03, s3 _ _ h2, h3, ⟨by simp, fun k hk => by omega⟩, .inl ⟨rfl, rfl⟩⟩
    · rintro i x T σ H4 hi ⟨fs, op, v3, v4, rfl, s4, hp, hq, ei, hop⟩ nT
      obtain ⟨d, hd, rfl⟩ : ∃ d, ds[i]? = some d ∧ x = .int d := by
        rw [List.getElem?_map] at hi
        cases e : ds[i]? with
        | none => rw [e] at hi; cases hi
        | some d => rw [e] at hi; exact ⟨d, rfl, (Option.some.inj hi).symm⟩
      have hil : i < ds.length := (List.getElem?_eq_some_iff.mp hd).1
      have hdd : dg ds i = d := dg_of hd
      have hpos := dv.pos i hil
      rw [hdd] at hpos
      generalize e5 : upd H4 T _ = H5
      obtain ⟨s5, _⟩ := al e5 nT
      have hlen1 : op.length ≤ 1001 := by
        rcases hop with ⟨_, rfl⟩ | ⟨j, rfl, L⟩
        · exact Nat.zero_le _
        · have h1 := L.len
          have h2 := dv.le j (by omega)
          omega
      have hdle : d - 1 ≤ (op.length : Int) := by
        rcases hop with ⟨rfl, rfl⟩ | ⟨j, rfl, L⟩
        · have := dv.one
          rw [hdd] at this
          rw [this]
          decide
        · have h1 := L.len
          have h2 := (dv.two j hil).2
          rw [hdd] at h2
          omega
      refine ⟨fun m σ H' => ∃ (fs' : List Int) (j : Nat), m = j ∧ σ = [some (.ref l), some (.ref p), some (.ref q), some (.int i), some (.int d)] ∧ Same H H' ∧ H' p = some (.lst (fs'.map V.int)) ∧ H' q = some (.lst ((op.take j).map V.int)) ∧ EI ds i fs' (op.take j) ∧ d - 1 ≤ (j : Int) ∧ j ≤ op.length, ⟨_, fs, op.length, rfl, rfl, s4.trans s5, s5 _ _ hp, by rw [List.take_length]; exact s5 _ _ hq, by rw [List.take_length]; exact ei, hdle, Nat.le_refl _⟩, ?_⟩
      rintro j σ H6 ⟨fs', _, rfl, rfl, s6, hp6, hq6, ei6, hdj, hjl⟩
      have htl : ((op.take j).map V.int).length = j := by rw [List.length_map, List.length_take]; omega
      refine ⟨_, rfl, _, _, rfl, Or.inl ⟨_, SqL.of hq6, rfl⟩, _, rfl, _, _, rfl, rfl, _, rfl, ?_⟩
      rw [htl]
      refine ite2 (fun c => ?_) (fun c => ?_)
      · have c : d ≤ (j : Int) := of_decide_eq_true c
        obtain ⟨j', rfl⟩ : ∃ j', j = j' + 1 := ⟨j - 1, by omega⟩
        obtain ⟨i', hi', L⟩ : ∃ i', i = i' + 1 ∧ Line ds i' op := by
          rcases hop with ⟨_, rfl⟩ | h
          · simp at hjl
          · exact h
        obtain ⟨n, hn', hdn, hnk⟩ := line_snoc L j' (by omega)
        have htk : op.take (j' + 1) = op.take j' ++ [(n : Int)] := take_snoc hn'
        rw [htk] at hq6 ei6
        rw [List.map_append] at hq6
        have hq6' : H6 q = some (.lst ((op.take j').map V.int ++ [V.int (n : Int)])) := hq6
        have hni : n < ds.length := by
          rcases hnk with rfl | a
          · omega
          · have := a.1; omega
        refine ⟨_, fun _ _ h => h, _, rfl, _, _, rfl, rfl, _, rfl, _, rfl, .inl ⟨rfl, _, SqL.of hq6'⟩, q, _, _, rfl, rfl, hq6', last_get _ _, ?_⟩
        rw [List.dropLast_concat]
        generalize e_H7 : upd _ q _ = H7
        obtain ⟨b7, h7⟩ := ml e_H7
        have hp7 := b7 _ _ npq hp6
        refine ⟨p, _, _, n, rfl, rfl, hp7, ?_, ?_⟩
        · rw [List.length_map, ei6.1]
          unfold ixN
          rw [if_pos (by omega), if_pos (by omega), Int.toNat_natCast]
        refine ⟨j', by omega, fs'.set n ((i' : Nat) : Int), j', rfl, rfl, (same_of_but s6 nq b7).mut np, ?_, (upd_ne npq.symm).trans h7, ei6.pop hi' (by omega) hnk (fun _ => by rw [hdn, ← hi', hdd]; omega), by omega, by omega⟩
        rw [upd_same, List.map_set]
        rw [hi']
        simp
      · have c : ¬ d ≤ (j : Int) := fun z => c (decide_eq_true z)
        have hj : j = (d - 1).toNat := by omega
        refine ⟨_, rfl, .inl ⟨rfl, _, SqL.of hq6⟩, _, rfl, q, _, _, rfl, rfl, hq6, szl (by rw [htl]; omega), fs', op.take j ++ [(i : Int)], _, _, rfl, s6.mut nq, (upd_ne npq).trans hp6, ?_, ei6.push, .inr ⟨i, rfl, ?_⟩⟩
        · rw [upd_same, List.map_append]
          rfl
        · rw [hj]
          rcases hop with ⟨rfl, rfl⟩ | ⟨i', rfl, L⟩
          · rw [List.take_nil]
            exact Line.first dv
          · rw [← hdd]
            exact L.next dv hil
    · rintro σ H4 ⟨fs, op, v3, v4, rfl, s4, hp, hq, ei, hop⟩
      rw [List.length_map] at ei hop
      refine ⟨fun m σ H' => ∃ (fs' : List Int) (j : Nat), m = j ∧ σ = [some (.ref l), some (.ref p), some (.ref q), v3, v4] ∧ Same H H' ∧ H' p = some (.lst (fs'.map V.int)) ∧ H' q = some (.lst ((op.take j).map V.int)) ∧ EI ds ds.length fs' (op.take j) ∧ j ≤ op.length, ⟨_, fs, op.length, rfl, rfl, s4, hp, by rw [List.take_length]; exact hq, by rw [List.take_length]; exact ei, Nat.le_refl _⟩, ?_⟩
      rintro j σ H6 ⟨fs', _, rfl, rfl, s6, hp6, hq6, ei6, hjl⟩
      refine ⟨_, rfl, Nat.zero_le _, ?_⟩
      intro r n7
      generalize e_H7 : upd _ r _ = H7
      obtain ⟨s7, h7⟩ := al e_H7 n7
      have hp7 := s7 _ _ hp6
      have hq7 := s7 _ _ hq6
      have s07 := s6.trans s7
      refine ⟨_, .list [], (pl_of_int (op.take j)).dp (SqL.of hq7), .lst (SqL.of h7) .nil, (Gd.map fun x _ => gd_int x).shaped (by decide), rfl, _, rfl, ?_⟩
      rw [eqv_nil, List.isEmpty_map]
      cases j with
      | zero => exact iteF ⟨_, rfl, k H7 p fs' s07 np hp7 ei6.done_⟩
      | succ j' =>
        obtain ⟨i', hi', L⟩ : ∃ i', ds.length = i' + 1 ∧ Line ds i' op := by
          rcases hop with ⟨_, rfl⟩ | h
          · simp at hjl
          · exact h
        obtain ⟨n, hn', hdn, hnk⟩ := line_snoc L j' (by omega)
        have htk : op.take (j' + 1) = op.take j' ++ [(n : Int)] := take_snoc hn'
        rw [htk] at hq7 ei6
        rw [show (!(op.take (j' + 1)).isEmpty) = true by rw [htk]; simp]
        rw [List.map_append] at hq7
        have hq7' : H7 q = some (.lst ((op.take j').map V.int ++ [V.int (n : Int)])) := hq7
        have hni : n < ds.length := by
          rcases hnk with rfl | a
          · omega
          · have := a.1; omega
        refine iteT ⟨_, fun _ _ h => h, _, rfl, _, _, rfl, Or.inl ⟨_, s07.seq hl, rfl⟩, _, _, rfl, rfl, _, rfl, _, rfl, .inl ⟨rfl, _, SqL.of hq7'⟩, q, _, _, rfl, rfl, hq7', last_get _ _, ?_⟩
        rw [List.dropLast_concat]
        generalize e_H8 : upd _ q _ = H8
        obtain ⟨b8, h8⟩ := ml e_H8
        have hp8 := b8 _ _ npq hp7
        refine ⟨p, _, _, n, rfl, rfl, hp8, ?_, ?_⟩
        · rw [List.length_map, ei6.1]
          unfold ixN
          rw [if_pos (by omega), if_pos (by omega), Int.toNat_natCast]
        refine ⟨j', by omega, fs'.set n ((i' : Nat) : Int), j', rfl, rfl, (same_of_but s07 nq b8).mut np, ?_, (upd_ne npq.symm).trans h8, ei6.pop hi' (by omega) hnk (fun z => by omega), by omega⟩
        rw [upd_same, List.map_set, List.length_map, hi']
        simp
theorem sc_uppers_by : FnScope ["depths", "found", "ways", "place", "depth"] ["depths"] (defScope st_uppers_by) := ⟨rfl, rfl, rfl, by decide +kernel, rfl, by decide +kernel, by decide +kernel⟩
theorem ok_uppers_by {f : Addr} {fd : FuncData} (T : Txt K mg) (F : FnP K "uppers_by" "uppers_by" st_uppers_by f fd)  : FnOk P w K mg base CX0 1 f fd ["depths"] (sp_uppers_by K) := by
  refine F.ok sc_uppers_by (fun vs H Q E h => ?_) (fun cdv A outer s H vs Q E hr h => ?_)
  · obtain ⟨l, ds, rfl, _⟩ := h
    rfl
  · obtain ⟨l, ds, rfl, hl, dv, hn, k⟩ := h
    refine ⟨_, PSs.nox (pss_cons (ps_set (i := 1) sc_uppers_by.nd rfl (Or.inl rfl) (pe_lst pa_nil))
      (pss_cons (ps_set (i := 2) sc_uppers_by.nd rfl (Or.inl rfl) (pe_lst pa_nil))
      (pss_cons (ps_for PassesOwn.never rfl (pi_enum rfl T.free_enumerate (pa_cons (pv 0) pa_nil)) (pg_tup rfl (pgs_cons (pg_name (i := 3) sc_uppers_by.nd rfl (Or.inl rfl)) (pgs_cons (pg_name (i := 4) sc_uppers_by.nd rfl (Or.inl rfl)) pgs_nil)))
      (pss_cons (ps_set (i := 2) sc_uppers_by.nd rfl (Or.inl rfl) (pe_slice sl_list (pv 2) po_none (po_some (pe_op op_sub (pv 4) pe_int))))
      (pss_cons (ps_expr (pe_bm PySem.F.plainAttrs_list PySem.F.slot_list_append PySem.F.type_list_append mt_append (pv 1) (pa_cons (pe_ix ix_list (pe_op op_cat (pv 2) (pe_lst (pa_cons pe_non pa_nil))) (pe_op op_sub (pe_callB call_len rfl T.free_len PySem.boot_len (pa_cons (pv 2) pa_nil)) pe_int) (fun _ _ => rfl)) pa_nil)))
      (pss_one (ps_expr (pe_bm PySem.F.plainAttrs_list PySem.F.slot_list_append PySem.F.type_list_append mt_append (pv 2) (pa_cons (pv 3) pa_nil)))))))
      (pss_one (ps_ret (pv 1)))))), ?_⟩
    refine ⟨Nat.zero_le _, ?_⟩
    intro p n1
    generalize e_H1 : upd _ p _ = H1
    obtain ⟨s1, h1⟩ := al e_H1 n1
    refine ⟨Nat.zero_le _, ?_⟩
    intro q n2
    generalize e_H2 : upd _ q _ = H2
    obtain ⟨s2, h2⟩ := al e_H2 n2
    refine ⟨_, rfl, l, _, rfl, (s1.trans s2).seq hl, for_enum (K := K) (a := l) (xs := ds.map V.int) (i := 3) (j := 4) (fun i σ H' => ∃ (q : Addr) (ln : List Int) (us : List (Option Int)) (v3 v4 : Option V), σ = [some (.ref l), some (.ref p), some (.ref q), v3, v4] ∧ p ≠ q ∧ Same H H' ∧ H' p = some (.lst (us.map vOpt)) ∧ H' q = some (.lst (ln.map V.int)) ∧ us.length = i ∧ (∀ (k : Nat) o, us[k]? = some o → UpAt ds k o) ∧ ((i = 0 ∧ ln = []) ∨ ∃ j, i = j + 1 ∧ Line ds j ln)) ?_ (fun i σ H' _ ⟨_, _, _, _, _, _, _, s, _⟩ => s.seq hl) ?_ ?_⟩
    · exact ⟨q, [], [], none, none, rfl, ne_of_none h1 n2, s1.trans s2, s2 _ _ h1, h2, rfl, (fun _ _ h => by simp at h), .inl ⟨rfl, rfl⟩⟩
    · rintro i x T σ H3 hi ⟨q, ln, us, v3, v4, rfl, npq, s3, hp, hq, hul, hup, hln⟩ nT
      obtain ⟨d, hd, rfl⟩ : ∃ d, ds[i]? = some d ∧ x = .int d := by
        rw [List.getElem?_map] at hi
        cases e : ds[i]? with
        | none => rw [e] at hi; cases hi
        | some d => rw [e] at hi; exact ⟨d, rfl, (Option.some.inj hi).symm⟩
      have hil : i < ds.length := (List.getElem?_eq_some_iff.mp hd).1
      have hdd : dg ds i = d := dg_of hd
      have hpos := dv.pos i hil
      have line' : Line ds i (ln.take (d - 1).toNat ++ [(i : Int)]) := by
        rcases hln with ⟨rfl, rfl⟩ | ⟨j, rfl, L⟩
        · rw [List.take_nil]
          exact Line.first dv
        · rw [← hdd]
          exact L.next dv hil
      generalize e4 : upd H3 T _ = H4
      obtain ⟨s4, _⟩ := al e4 nT
      have hp4 := s4 _ _ hp
      have hq4 := s4 _ _ hq
      refine ⟨_, rfl, _, rfl, _, _, rfl, rfl, _, rfl, q, _, rfl, SqL.of hq4, ?_⟩
      rw [cutV_to _ _ (show (0 : Int) ≤ d - 1 by omega), ← List.map_take]
      have hlen := line'.len
      rw [hdd, List.length_append, List.length_singleton] at hlen
      have hdl : d ≤ 1001 := by have := dv.le i hil; omega
      generalize ln.take (d - 1).toNat = wy at line' hlen ⊢
      intro q1 n5
      generalize e_H5 : upd _ q1 _ = H5
      obtain ⟨s5, h5⟩ := al e_H5 n5
      have hp5 := s5 _ _ hp4
      have np1 : p ≠ q1 := ne_of_none hp4 n5
      refine ⟨_, rfl, .inl ⟨rfl, _, SqL.of hp5⟩, _, rfl, by show 1 ≤ sizeLine; decide, ?_⟩
      intro q2 n6
      generalize e_H6 : upd _ q2 _ = H6
      obtain ⟨s6, h6⟩ := al e_H6 n6
      refine ⟨q1, q2, _, _, rfl, rfl, s6 _ _ h5, h6, ?_, ?_⟩
      · rw [List.length_map]
        exact sz (by show _ + 1 ≤ _; omega)
      intro q3 n7
      generalize e_H7 : upd _ q3 _ = H7
      obtain ⟨s7, h7⟩ := al e_H7 n7
      have h57 := s7 _ _ (s6 _ _ h5)
      have hp7 := s7 _ _ (s6 _ _ hp5)
      obtain ⟨o, hat, hoo⟩ : ∃ o, atI (wy.map V.int ++ [V.non]) ((wy.map V.int).length - 1 : Int) = some (vOpt o) ∧ UpAt ds i o := by
        by_cases c : 1 < d
        · have hlt : (d - 2).toNat < wy.length := by omega
          refine ⟨some wy[(d - 2).toNat], at_of (j := (d - 2).toNat) (by rw [List.length_map]; omega) ?_, ?_⟩
          · rw [List.getElem?_append_left (by rw [List.length_map]; omega), List.getElem?_map, List.getElem?_eq_getElem hlt]
            rfl
          · refine line'.upper (by rw [hdd]; exact c) hil ?_
            rw [hdd, List.getElem?_append_left hlt, List.getElem?_eq_getElem hlt]
        · have hw : wy = [] := List.eq_nil_of_length_eq_zero (by omega)
          subst hw
          exact ⟨none, atI_last [] V.non, upAt_none dv (by rw [hdd]; exact c)⟩
      refine ⟨_, rfl, _, _, rfl, Or.inl ⟨_, SqL.of h57, rfl⟩, _, _, rfl, rfl, _, _, _, _, rfl, rfl, SqL.of h7, hat, p, _, _, rfl, rfl, hp7, ?_, ?_⟩
      · rw [List.length_map]
        exact szl (by omega)
      generalize e_H8 : upd _ p _ = H8
      obtain ⟨b8, h8⟩ := ml e_H8
      have h58 := b8 _ _ np1.symm h57
      refine ⟨_, rfl, .inl ⟨rfl, _, SqL.of h58⟩, _, rfl, q1, _, _, rfl, rfl, h58, ?_, ?_⟩
      · rw [List.length_map]
        exact szl (by omega)
      have nq1 : H q1 = none := (s3.trans s4).free n5
      refine ⟨q1, wy ++ [(i : Int)], us ++ [o], _, _, rfl, np1, (same_of_but ((((s3.trans s4).trans s5).trans s6).trans s7) n1 b8).mut nq1, ?_, ?_, ?_, ?_, .inr ⟨i, rfl, line'⟩⟩
      · rw [upd_ne np1, h8, List.map_append]
        rfl
      · rw [upd_same, List.map_append]
        rfl
      · rw [List.length_append, hul]
        rfl
      · intro k' o' ho
        by_cases c : k' < us.length
        · rw [List.getElem?_append_left c] at ho
          exact hup k' o' ho
        · rw [List.getElem?_append_right (by omega)] at ho
          have hk : k' - us.length = 0 := by
            cases z : k' - us.length with
            | zero => rfl
            | succ y => rw [z] at ho; simp at ho
          have hki : k' = i := by omega
          rw [hk] at ho
          have ho : some o = some o' := ho
          rw [hki, ← Option.some.inj ho]
          exact hoo
    · rintro σ H3 ⟨q, ln, us, v3, v4, rfl, npq, s3, hp, hq, hul, hup, hln⟩
      exact ⟨_, rfl, k H3 p us s3 n1 hp ⟨by rw [hul, List.length_map], hup⟩⟩
theorem sc_Document_init : FnScope ["self", "rows", "deepest", "number", "row"] ["self", "rows"] (defScope st_Document_init) := ⟨rfl, rfl, rfl, by decide +kernel, rfl, by decide +kernel, by decide +kernel⟩
theorem ok_Document_init {f : Addr} {fd : FuncData} (T : Txt K mg) (F : FnP K "__init__" "Document.__init__" st_Document_init f fd) (G_is_part_row : Fn P w K mg base CX0 3 "is_part_row" ["thing", "deepest"] (sp_is_part_row K)) (G_ends_by : Fn P w K mg base CX0 1 "ends_by" ["depths"] (sp_ends_by K)) (G_uppers_by : Fn P w K mg base CX0 1 "uppers_by" ["depths"] (sp_uppers_by K)) : FnOk P w K mg base CX0 4 f fd ["self", "rows"] (sp_Document_init K) := by
  obtain ⟨tk_MOST_PARTS, g_MOST_PARTS⟩ := T.g_MOST_PARTS
  obtain ⟨tk_MOST_DEEP_document, g_MOST_DEEP_document⟩ := T.g_MOST_DEEP_document
  refine F.ok sc_Document_init (fun vs H Q E h => ?_) (fun cdv A outer s H vs Q E hr h => ?_)
  · obtain ⟨a, l, dx, tv, rows, rfl, _⟩ := h
    rfl
  · obtain ⟨a, l, dx, tv, rows, rfl, ha, hl, pl, ok, k⟩ := h
    refine ⟨_, PSs.nox (pss_cons (ps_if (PW.pt (pw_or (pt_not (pt_val (pe_callB call_isi rfl T.free_isinstance (by decide +kernel) (pa_cons (pv 1) (pa_cons (pe_bltn (v := .ty "list") rfl T.free_list (by decide +kernel) rfl) pa_nil))))) (pw_or1 (pt_cmpR (op_eqD hr.units) (pv 1) (pe_lst pa_nil) (nomark _)))))
      (pss_one ps_never)
      pss_nil)
      (pss_cons (ps_if (pt_cmpR op_gt (pe_callB call_len rfl T.free_len PySem.boot_len (pa_cons (pv 1) pa_nil)) (pe_glob (v := .int 240) rfl g_MOST_PARTS ⟨_, rfl⟩) (nomark _))
      (pss_one ps_never)
      pss_nil)
      (pss_cons (ps_set (i := 2) sc_Document_init.nd rfl (Or.inl rfl) pe_int)
      (pss_cons (ps_for PassesOwn.never rfl (pi_enum rfl T.free_enumerate (pa_cons (pv 1) pa_nil)) (pg_tup rfl (pgs_cons (pg_name (i := 3) sc_Document_init.nd rfl (Or.inl rfl)) (pgs_cons (pg_name (i := 4) sc_Document_init.nd rfl (Or.inl rfl)) pgs_nil)))
      (pss_cons (ps_if (PW.pt (pw_or (pt_not (pt_val (pe_callF G_is_part_row (hr.mono (by decide)) pass0 (pa_cons (pv 4) (pa_cons (pe_callB (call_min2 rfl) rfl T.free_min (by decide +kernel) (pa_cons (pv 2) (pa_cons (pe_glob (v := .int 80) rfl g_MOST_DEEP_document ⟨_, rfl⟩) pa_nil))) pa_nil))))) (pw_or1 (PW.pt (pw_and (pt_cmpR op_gt (pv 3) pe_int (nomark _)) (pw_and1 (pt_cmpR op_eq (pe_ix ix_tup (pv 4) pe_int (fun _ _ => rfl)) pe_int (nomark _))))))))
      (pss_one ps_never)
      pss_nil)
      (pss_one (ps_set (i := 2) sc_Document_init.nd rfl (Or.inl rfl) (pe_op op_add (pe_ix ix_tup (pv 4) pe_int (fun _ _ => rfl)) pe_int)))))
      (pss_cons (ps_fld (pv 0) (pe_callTy call_tuple_of rfl T.free_tuple (by decide +kernel) (pa_cons (pv 1) pa_nil)) rfl)
      (pss_cons (ps_fld (pv 0) (pe_callF G_ends_by (hr.mono (by decide)) pass0 (pa_cons (pe_lc (own := [("row", 4)]) (g := gName 4) (te := (tOp (rIxT K) (tVar 4) (tC (.int 1)))) rfl sc_Document_init.nd (pi_list (pv 1)) (blkOk_by (own := [("row", 4)]) (N := ["self", "rows", "deepest", "number", "row"]) (sc := defScope st_Document_init) (by decide +kernel)) (fun _ _ _ _ _ => (pg_name (i := 4) sc_Document_init.nd rfl (Or.inl rfl))) (fun _ _ _ _ _ => pts_nil) (fun _ _ _ _ _ => (pe_ix ix_tup (pv 4) pe_int (fun _ _ => rfl)))) pa_nil)) rfl)
      (pss_one (ps_fld (pv 0) (pe_callF G_uppers_by (hr.mono (by decide)) pass0 (pa_cons (pe_lc (own := [("row", 4)]) (g := gName 4) (te := (tOp (rIxT K) (tVar 4) (tC (.int 1)))) rfl sc_Document_init.nd (pi_list (pv 1)) (blkOk_by (own := [("row", 4)]) (N := ["self", "rows", "deepest", "number", "row"]) (sc := defScope st_Document_init) (by decide +kernel)) (fun _ _ _ _ _ => (pg_name (i := 4) sc_Document_init.nd rfl (Or.inl rfl))) (fun _ _ _ _ _ => pts_nil) (fun _ _ _ _ _ => (pe_ix ix_tup (pv 4) pe_int (fun _ _ => rfl)))) pa_nil)) rfl)))))))), ?_⟩
    have hgd : Gd 2 (.list (rows.map eRow)) := Gd.map fun r hr => gd_row (ok.lab r hr)
    have hlen : tv.length = rows.length := pl.length
    have hone := ok.one
    have hmost := ok.most
    refine ⟨_, rfl, _, _, _, _, _, rfl, .ty _, ty_sqL hl, kit_ty (r := true) (by decide +kernel), _, rfl, ?_⟩
    refine iteF ⟨_, rfl, Nat.zero_le _, ?_⟩
    intro q n1
    generalize e_H1 : upd _ q _ = H1
    obtain ⟨s1, h1⟩ := al e_H1 n1
    have ha1 := s1 _ _ ha
    refine ⟨_, .list [], (pl.same s1).dp (s1.seq hl), .lst (SqL.of h1) .nil, hgd.shaped (by decide), rfl, _, rfl, ?_⟩
    rw [eqv_nil, show (rows.map eRow).isEmpty = false by cases rows with | nil => simp at hone | cons _ _ => rfl]
    refine iteF ⟨_, rfl, _, _, rfl, Or.inl ⟨_, s1.seq hl, rfl⟩, _, _, rfl, rfl, _, rfl, ?_⟩
    rw [decide_eq_false (show ¬ (240 : Int) < ((tv.length : Nat) : Int) by omega)]
    refine iteF ⟨_, rfl, l, _, rfl, s1.seq hl, for_enum (K := K) (a := l) (xs := tv) (i := 3) (j := 4) (fun i σ H' => ∃ (v3 v4 : Option V) (dp : Int), σ = [some (.ref a), some (.ref l), some (.int dp), v3, v4] ∧ Same H H' ∧ (i = 0 → dp = 1) ∧ (∀ j, i = j + 1 → dp = dg (dps rows) j + 1)) ?_ (fun i σ H' _ ⟨_, _, _, _, s, _⟩ => s.seq hl) ?_ ?_⟩
    · exact ⟨none, none, 1, rfl, s1, fun _ => rfl, fun j h => by omega⟩
    · rintro i x T σ H3 hi ⟨v3, v4, dp, rfl, s3, hd0, hd1⟩ nT
      obtain ⟨r, hr, dx⟩ := pl.get hi
      obtain ⟨t, rfl, ht⟩ := dp_row dx
      have hil : i < rows.length := (List.getElem?_eq_some_iff.mp hr).1
      have hmem := List.mem_of_getElem? hr
      have hdi := dps_at hr
      have hpos := ok.dv.pos i (by rw [dps_len]; exact hil)
      have hdeep := ok.deep r hmem
      rw [hdi] at hpos
      generalize e4 : upd H3 T _ = H4
      obtain ⟨s4, _⟩ := al e4 nT
      have s04 := s3.trans s4
      have hle : r.2 ≤ dp := by
        cases i with
        | zero =>
          have := ok.dv.one
          rw [hdi] at this
          rw [hd0 rfl, this]
          exact Int.le_refl _
        | succ j =>
          have := (ok.dv.two j (by rw [dps_len]; exact hil)).2
          rw [hdi] at this
          rw [hd1 j rfl]
          exact this
      refine ⟨_, rfl, _, rfl, _, _, rfl, t, r.1, r.2, _, rfl, s04.tup ht, by have := label_len (ok.lab r hmem); omega, fun H5 s5 => ⟨_, rfl, ?_⟩⟩
      rw [ok.lab r hmem, decide_eq_true (show 1 ≤ r.2 from hpos)]
      rw [decide_eq_true (show r.2 ≤ if (80 : Int) < dp then 80 else dp by split <;> omega)]
      refine iteF ⟨_, rfl, _, _, rfl, rfl, _, rfl, ?_⟩
      refine ite2 (fun c => ?_) (fun c => ?_)
      · have c : (0 : Int) < (i : Int) := of_decide_eq_true c
        refine ⟨_, rfl, _, _, _, _, rfl, rfl, (s04.trans s5).tup ht, atI_nat (j := 1) rfl, rfl, _, rfl, ?_⟩
        obtain ⟨j, hj1⟩ : ∃ j, i = j + 1 := ⟨i - 1, by omega⟩
        have h2 := (ok.dv.two j (by rw [dps_len, ← hj1]; exact hil)).1
        rw [← hj1, hdi] at h2
        rw [decide_eq_false (show ¬ (V.int r.2 = V.int 1) from fun z => by injection z with z; omega)]
        refine iteF ?_
        refine ⟨_, rfl, _, _, _, _, rfl, rfl, (s04.trans s5).tup ht, atI_nat (j := 1) rfl, _, _, rfl, rfl, _, _, _, rfl, s04.trans s5, (fun z => by omega), fun j hj => ?_⟩
        have hj : i = j := by omega
        subst hj
        rw [hdi]
      · refine iteF ?_
        refine ⟨_, rfl, _, _, _, _, rfl, rfl, (s04.trans s5).tup ht, atI_nat (j := 1) rfl, _, _, rfl, rfl, _, _, _, rfl, s04.trans s5, (fun z => by omega), fun j hj => ?_⟩
        have hj : i = j := by omega
        subst hj
        rw [hdi]
    · rintro σ H3 ⟨v3, v4, dp, rfl, s3, _, _⟩
      have ha3 := s3 _ _ ha
      refine ⟨_, rfl, l, tv, rfl, .inl ⟨s3.seq hl, ?_⟩⟩
      intro t n4
      generalize e_H4 : upd _ t _ = H4
      obtain ⟨s4, h4⟩ := al e_H4 n4
      have ha4 := s4 _ _ ha3
      have nat : a ≠ t := ne_of_none ha3 n4
      have s04 := s3.trans s4
      refine ⟨_, rfl, _, _, _, _, rfl, ha4, T.cl_Document, T.na_Document_parts, by decide, ?_⟩
      generalize e_H5 : upd _ a _ = H5
      obtain ⟨b5, h5⟩ := ml e_H5
      have h45 := b5 _ _ nat.symm h4
      have b05 : But a H H5 := (But.of_same s04).trans b5
      have tk5 : TK H4 H5 := TK.butI b5 ha4
      have hl5 : SqL K H5 l tv := b5.seqI ha4 (s04.seq hl)
      have pl5 : PL K H5 eRow tv rows := PL.tk (pl.same s04) tk5 flat_row
      refine ⟨_, rfl, l, rfl, ⟨_, hl5⟩, fun D hD => ?_⟩
      refine lc_keepL (K := K) (xs := tv) (zs := rows) (fun _ => true) (fun r => .int r.2) pl5 hD hl5 (by omega) ?_ ?_
      · rintro x z H' N Y dx hz s _ hY
        obtain ⟨t, rfl, ht⟩ := dp_row dx
        exact ⟨rfl, _, rfl, _, _, _, _, rfl, rfl, s.tup ht, atI_nat (j := 1) rfl, hY _ (Same.refl _) rfl⟩
      rintro H6 s6 h6
      rw [filter_yes, show rows.map (fun r => V.int r.2) = (dps rows).map V.int by rw [dps, List.map_map]; rfl] at h6
      refine ⟨D, dps rows, rfl, SqL.of h6, ok.dv, by rw [dps_len]; omega, fun H7 p es s7 np h7 eo => ?_⟩
      have s57 := s6.trans s7
      have ha7 := s57 _ _ h5
      refine ⟨_, rfl, _, _, _, _, rfl, ha7, T.cl_Document, T.na_Document_ends, show (1 : Nat) < 1000 by decide, ?_⟩
      have nap : a ≠ p := ne_of_none (s6 _ _ h5) np
      generalize e_H8 : upd _ a _ = H8
      obtain ⟨b8, h8⟩ := ml e_H8
      have h78 := b8 _ _ nap.symm h7
      have h48 := b8 _ _ nat.symm (s57 _ _ h45)
      have b08 : But a H H8 := (b05.trans (But.of_same s57)).trans b8
      have hl8 : SqL K H8 l tv := b8.seqI ha7 (s57.seq hl5)
      have pl8 : PL K H8 eRow tv rows := PL.tk (pl5.same s57) (TK.butI b8 ha7) flat_row
      refine ⟨_, rfl, l, rfl, ⟨_, hl8⟩, fun D2 hD2 => ?_⟩
      refine lc_keepL (K := K) (xs := tv) (zs := rows) (fun _ => true) (fun r => .int r.2) pl8 hD2 hl8 (by omega) ?_ ?_
      · rintro x z H' N Y dx hz s _ hY
        obtain ⟨t, rfl, ht⟩ := dp_row dx
        exact ⟨rfl, _, rfl, _, _, _, _, rfl, rfl, s.tup ht, atI_nat (j := 1) rfl, hY _ (Same.refl _) rfl⟩
      rintro H9 s9 h9
      rw [filter_yes, show rows.map (fun r => V.int r.2) = (dps rows).map V.int by rw [dps, List.map_map]; rfl] at h9
      refine ⟨D2, dps rows, rfl, SqL.of h9, ok.dv, by rw [dps_len]; omega, fun H10 u us s10 nu h10 uo => ?_⟩
      have s80 := s9.trans s10
      have ha10 := s80 _ _ h8
      refine ⟨_, rfl, _, _, _, _, rfl, ha10, T.cl_Document, T.na_Document_uppers, show (2 : Nat) < 1000 by decide, ?_⟩
      have nau : a ≠ u := ne_of_none (s9 _ _ h8) nu
      generalize e_H11 : upd _ a _ = H11
      obtain ⟨b11, h11⟩ := ml e_H11
      refine k H11 ((b08.trans (But.of_same s80)).trans b11) ⟨dx, t, p, u, tv, es, us, h11, b11 _ _ nat.symm (s80 _ _ h48), PL.tk (pl8.same s80) (TK.butI b11 ha10) flat_row, b11 _ _ nap.symm (s80 _ _ h78), b11 _ _ nau.symm h10, eo, uo, ok⟩
theorem sc_is_step_row : FnScope ["thing", "deepest"] ["thing", "deepest"] (defScope st_is_step_row) := ⟨rfl, rfl, rfl, by decide +kernel, rfl, by decide +kernel, by decide +kernel⟩
theorem ok_is_step_row {f : Addr} {fd : FuncData} (T : Txt K mg) (F : FnP K "is_step_row" "is_step_row" st_is_step_row f fd) (G_is_within : Fn P w K mg base CX0 2 "is_within" ["thing", "low", "high"] (sp_is_within K)) (G_is_label : Fn P w K mg base CX0 1 "is_label" ["thing"] (sp_is_label K)) : FnOk P w K mg base CX0 3 f fd ["thing", "deepest"] (sp_is_step_row K) := by
  refine F.ok sc_is_step_row (fun vs H Q E h => ?_) (fun cdv A outer s H vs Q E hr h => ?_)
  · obtain ⟨t, w, z, d, deep, rfl, _⟩ := h
    rfl
  · obtain ⟨t, w, z, d, deep, rfl, ht, hw, hz, k⟩ := h
    refine ⟨_, PSs.nox (pss_cons (ps_if (PW.pt (pw_or (pt_not (pt_val (pe_callB call_isi rfl T.free_isinstance (by decide +kernel) (pa_cons (pv 0) (pa_cons (pe_bltn (v := .ty "tuple") rfl T.free_tuple (by decide +kernel) rfl) pa_nil))))) (pw_or (pt_cmpR op_ne (pe_callB call_len rfl T.free_len PySem.boot_len (pa_cons (pv 0) pa_nil)) pe_int (nomark _)) (pw_or (pt_not (pt_val (pe_callB call_isi rfl T.free_isinstance (by decide +kernel) (pa_cons (pe_ix ix_tup (pv 0) pe_int (fun _ _ => rfl)) (pa_cons (pe_bltn (v := .ty "str") rfl T.free_str (by decide +kernel) rfl) pa_nil))))) (pw_or1 (pt_cmpR op_notIn_seq (pe_ix ix_tup (pv 0) pe_int (fun _ _ => rfl)) (pe_glob (v := .ref (He.ga _ "WAYS")) rfl T.glo_WAYS rfl) (by rfl)))))))
      (pss_one (ps_ret pe_bl))
      pss_nil)
      (pss_one (ps_ret (pe_and (pe_callF G_is_label (hr.mono (by decide)) pass0 (pa_cons (pe_ix ix_tup (pv 0) pe_int (fun _ _ => rfl)) pa_nil)) (pe_one (pe_callF G_is_within (hr.mono (by decide)) pass0 (pa_cons (pe_ix ix_tup (pv 0) pe_int (fun _ _ => rfl)) (pa_cons pe_int (pa_cons (pv 1) pa_nil))))))))), ?_⟩
    refine ⟨_, rfl, _, _, _, _, _, rfl, .ty _, ty_sqT ht, kit_ty (r := true) (by decide +kernel), _, rfl, ?_⟩
    refine iteF ⟨_, rfl, _, _, rfl, Or.inr ⟨_, ht, rfl⟩, rfl, _, rfl, ?_⟩
    refine iteF ⟨_, rfl, _, _, _, _, rfl, rfl, ht, atI_nat (j := 0) rfl, _, _, _, _, _, rfl, .ty _, .base (.str _), kit_ty (r := true) (by decide +kernel), _, rfl, ?_⟩
    refine iteF ⟨_, rfl, _, _, _, _, rfl, rfl, ht, atI_nat (j := 0) rfl, _, _, rfl, Or.inl (T.ls_WAYS _), rfl, rfl, _, rfl, ?_⟩
    rw [show inV (V.str w) [.str "/", .str "//"] = true by rcases hw with rfl | rfl <;> decide +kernel]
    refine iteF ⟨_, rfl, _, _, _, _, rfl, rfl, ht, atI_nat (j := 1) rfl, .str z, "str", rfl, .str _, (fun _ q => by cases q; exact hz), fun H1 s1 => ⟨_, rfl, ?_⟩⟩
    rw [labelV_str]
    cases c : labelB z with
    | false =>
      have := k H1 s1
      rw [c] at this
      exact iteF this
    | true =>
      refine iteT ⟨_, rfl, _, _, _, _, rfl, rfl, s1.tup ht, atI_nat (j := 2) rfl, _, rfl, .int d, "int", 1, deep, rfl, .int _, ?_⟩
      have := k H1 s1
      rw [c] at this
      exact this
theorem sc_Straight_init : FnScope ["self", "label"] ["self", "label"] (defScope st_Straight_init) := ⟨rfl, rfl, rfl, by decide +kernel, rfl, by decide +kernel, by decide +kernel⟩
theorem ok_Straight_init {f : Addr} {fd : FuncData} (T : Txt K mg) (F : FnP K "__init__" "Step.__init__" st_Straight_init f fd)  : FnOk P w K mg base CX0 1 f fd ["self", "label"] (sp_Straight_init K) := by
  refine F.ok sc_Straight_init (fun vs H Q E h => ?_) (fun cdv A outer s H vs Q E hr h => ?_)
  · obtain ⟨a, dx, z, rfl, _⟩ := h
    rfl
  · obtain ⟨a, dx, z, rfl, ha, k⟩ := h
    refine ⟨_, PSs.nox (pss_one (ps_fld (pv 0) (pv 1) rfl)), ?_⟩
    exact ⟨_, rfl, _, rfl, _, _, _, _, rfl, ha, T.cl_Straight, T.na_Straight_label, by decide, k _ But.upd upd_same⟩
theorem sc_Anywhere_init : FnScope ["self", "label"] ["self", "label"] (defScope st_Anywhere_init) := ⟨rfl, rfl, rfl, by decide +kernel, rfl, by decide +kernel, by decide +kernel⟩
theorem ok_Anywhere_init {f : Addr} {fd : FuncData} (T : Txt K mg) (F : FnP K "__init__" "Step.__init__" st_Anywhere_init f fd)  : FnOk P w K mg base CX0 1 f fd ["self", "label"] (sp_Anywhere_init K) := by
  refine F.ok sc_Anywhere_init (fun vs H Q E h => ?_) (fun cdv A outer s H vs Q E hr h => ?_)
  · obtain ⟨a, dx, z, rfl, _⟩ := h
    rfl
  · obtain ⟨a, dx, z, rfl, ha, k⟩ := h
    refine ⟨_, PSs.nox (pss_one (ps_fld (pv 0) (pv 1) rfl)), ?_⟩
    exact ⟨_, rfl, _, rfl, _, _, _, _, rfl, ha, T.cl_Anywhere, T.na_Anywhere_label, by decide, k _ But.upd upd_same⟩
theorem sc_step_of : FnScope ["way", "label"] ["way", "label"] (defScope st_step_of) := ⟨rfl, rfl, rfl, by decide +kernel, rfl, by decide +kernel, by decide +kernel⟩
theorem ok_step_of {f : Addr} {fd : FuncData} (T : Txt K mg) (F : FnP K "step_of" "step_of" st_step_of f fd) (M_Straight : Mkr P w K mg base CX0 1 (He.ga K "Straight") "Straight" ["self", "label"] (sp_Straight_init K)) (M_Anywhere : Mkr P w K mg base CX0 1 (He.ga K "Anywhere") "Anywhere" ["self", "label"] (sp_Anywhere_init K)) : FnOk P w K mg base CX0 3 f fd ["way", "label"] (sp_step_of K) := by
  refine F.ok sc_step_of (fun vs H Q E h => ?_) (fun cdv A outer s H vs Q E hr h => ?_)
  · obtain ⟨w, z, rfl, _⟩ := h
    rfl
  · obtain ⟨w, z, rfl, hw, k⟩ := h
    refine ⟨_, PSs.nox (pss_cons (ps_if (pt_cmpR op_eq (pv 0) pe_str (nomark _))
      (pss_one (ps_ret (pe_makeF M_Straight (hr.mono (by decide)) pass0 (pa_cons (pv 1) pa_nil))))
      pss_nil)
      (pss_one (ps_ret (pe_makeF M_Anywhere (hr.mono (by decide)) pass0 (pa_cons (pv 1) pa_nil))))), ?_⟩
    refine ⟨_, rfl, rfl, _, rfl, ?_⟩
    refine ite2 (fun c => ?_) (fun c => ?_)
    · have c : w = "/" := by have := of_decide_eq_true c; injection this
      exact ⟨_, rfl, fun x dx hx hd hne => ⟨x, dx, z, rfl, upd_same, fun H' b h => ⟨rfl, k H' x (made_same hx hd hne b) hx ⟨dx, .inl ⟨c, h⟩⟩⟩⟩⟩
    · have c : w = "//" := hw.resolve_left fun z => c (decide_eq_true (by rw [z]))
      exact ⟨_, rfl, fun x dx hx hd hne => ⟨x, dx, z, rfl, upd_same, fun H' b h => ⟨rfl, k H' x (made_same hx hd hne b) hx ⟨dx, .inr ⟨c, h⟩⟩⟩⟩⟩
theorem sc_Question_init : FnScope ["self", "rows", "wanted", "deepest", "number", "row"] ["self", "rows", "wanted"] (defScope st_Question_init) := ⟨rfl, rfl, rfl, by decide +kernel, rfl, by decide +kernel, by decide +kernel⟩
theorem ok_Question_init {f : Addr} {fd : FuncData} (T : Txt K mg) (F : FnP K "__init__" "Question.__init__" st_Question_init f fd) (G_is_step_row : Fn P w K mg base CX0 3 "is_step_row" ["thing", "deepest"] (sp_is_step_row K)) (G_is_within : Fn P w K mg base CX0 2 "is_within" ["thing", "low", "high"] (sp_is_within K)) (G_step_of : Fn P w K mg base CX0 3 "step_of" ["way", "label"] (sp_step_of K)) (G_ends_by : Fn P w K mg base CX0 1 "ends_by" ["depths"] (sp_ends_by K)) (G_uppers_by : Fn P w K mg base CX0 1 "uppers_by" ["depths"] (sp_uppers_by K)) : FnOk P w K mg base CX0 4 f fd ["self", "rows", "wanted"] (sp_Question_init K) := by
  obtain ⟨tk_MOST_STEPS, g_MOST_STEPS⟩ := T.g_MOST_STEPS
  obtain ⟨tk_MOST_DEEP_question, g_MOST_DEEP_question⟩ := T.g_MOST_DEEP_question
  refine F.ok sc_Question_init (fun vs H Q E h => ?_) (fun cdv A outer s H vs Q E hr h => ?_)
  · obtain ⟨a, l, dx, g, tv, rows, rfl, _⟩ := h
    rfl
  · obtain ⟨a, l, dx, g, tv, rows, rfl, ha, hl, pl, ok, k⟩ := h
    refine ⟨_, PSs.nox (pss_cons (ps_if (PW.pt (pw_or (pt_not (pt_val (pe_callB call_isi rfl T.free_isinstance (by decide +kernel) (pa_cons (pv 1) (pa_cons (pe_bltn (v := .ty "list") rfl T.free_list (by decide +kernel) rfl) pa_nil))))) (pw_or1 (pt_cmpR (op_eqD hr.units) (pv 1) (pe_lst pa_nil) (nomark _)))))
      (pss_one ps_never)
      pss_nil)
      (pss_cons (ps_if (pt_cmpR op_gt (pe_callB call_len rfl T.free_len PySem.boot_len (pa_cons (pv 1) pa_nil)) (pe_glob (v := .int 100) rfl g_MOST_STEPS ⟨_, rfl⟩) (nomark _))
      (pss_one ps_never)
      pss_nil)
      (pss_cons (ps_set (i := 3) sc_Question_init.nd rfl (Or.inl rfl) pe_int)
      (pss_cons (ps_for PassesOwn.never rfl (pi_enum rfl T.free_enumerate (pa_cons (pv 1) pa_nil)) (pg_tup rfl (pgs_cons (pg_name (i := 4) sc_Question_init.nd rfl (Or.inl rfl)) (pgs_cons (pg_name (i := 5) sc_Question_init.nd rfl (Or.inl rfl)) pgs_nil)))
      (pss_cons (ps_if (PW.pt (pw_or (pt_not (pt_val (pe_callF G_is_step_row (hr.mono (by decide)) pass0 (pa_cons (pv 5) (pa_cons (pe_callB (call_min2 rfl) rfl T.free_min (by decide +kernel) (pa_cons (pv 3) (pa_cons (pe_glob (v := .int 30) rfl g_MOST_DEEP_question ⟨_, rfl⟩) pa_nil))) pa_nil))))) (pw_or1 (PW.pt (pw_and (pt_cmpR op_gt (pv 4) pe_int (nomark _)) (pw_and1 (pt_cmpR op_eq (pe_ix ix_tup (pv 5) pe_int (fun _ _ => rfl)) pe_int (nomark _))))))))
      (pss_one ps_never)
      pss_nil)
      (pss_one (ps_set (i := 3) sc_Question_init.nd rfl (Or.inl rfl) (pe_op op_add (pe_ix ix_tup (pv 5) pe_int (fun _ _ => rfl)) pe_int)))))
      (pss_cons (ps_if (pt_not (pt_val (pe_callF G_is_within (hr.mono (by decide)) pass0 (pa_cons (pv 2) (pa_cons pe_int (pa_cons (pe_op op_sub (pe_callB call_len rfl T.free_len PySem.boot_len (pa_cons (pv 1) pa_nil)) pe_int) pa_nil))))))
      (pss_one ps_never)
      pss_nil)
      (pss_cons (ps_fld (pv 0) (pe_callTy call_tuple_of rfl T.free_tuple (by decide +kernel) (pa_cons (pv 1) pa_nil)) rfl)
      (pss_cons (ps_fld (pv 0) (pv 2) rfl)
      (pss_cons (ps_fld (pv 0) (pe_callTy call_tuple_of rfl T.free_tuple (by decide +kernel) (pa_cons (pe_lc (own := [("row", 5)]) (g := gName 5) (te := (tCall (sp_step_of K) [] E0 (tCons (tOp (rIxT K) (tVar 5) (tC (.int 0))) (tCons (tOp (rIxT K) (tVar 5) (tC (.int 1))) tNil)))) rfl sc_Question_init.nd (pi_list (pv 1)) (blkOk_by (own := [("row", 5)]) (N := ["self", "rows", "wanted", "deepest", "number", "row"]) (sc := defScope st_Question_init) (by decide +kernel)) (fun _ _ _ _ _ => (pg_name (i := 5) sc_Question_init.nd rfl (Or.inl rfl))) (fun _ _ _ _ _ => pts_nil) (fun _ _ _ _ _ => (pe_callF G_step_of (hr.mono (by decide)) pass0 (pa_cons (pe_ix ix_tup (pv 5) pe_int (fun _ _ => rfl)) (pa_cons (pe_ix ix_tup (pv 5) pe_int (fun _ _ => rfl)) pa_nil))))) pa_nil)) rfl)
      (pss_cons (ps_fld (pv 0) (pe_callF G_ends_by (hr.mono (by decide)) pass0 (pa_cons (pe_lc (own := [("row", 5)]) (g := gName 5) (te := (tOp (rIxT K) (tVar 5) (tC (.int 2)))) rfl sc_Question_init.nd (pi_list (pv 1)) (blkOk_by (own := [("row", 5)]) (N := ["self", "rows", "wanted", "deepest", "number", "row"]) (sc := defScope st_Question_init) (by decide +kernel)) (fun _ _ _ _ _ => (pg_name (i := 5) sc_Question_init.nd rfl (Or.inl rfl))) (fun _ _ _ _ _ => pts_nil) (fun _ _ _ _ _ => (pe_ix ix_tup (pv 5) pe_int (fun _ _ => rfl)))) pa_nil)) rfl)
      (pss_one (ps_fld (pv 0) (pe_callF G_uppers_by (hr.mono (by decide)) pass0 (pa_cons (pe_lc (own := [("row", 5)]) (g := gName 5) (te := (tOp (rIxT K) (tVar 5) (tC (.int 2)))) rfl sc_Question_init.nd (pi_list (pv 1)) (blkOk_by (own := [("row", 5)]) (N := ["self", "rows", "wanted", "deepest", "number", "row"]) (sc := defScope st_Question_init) (by decide +kernel)) (fun _ _ _ _ _ => (pg_name (i := 5) sc_Question_init.nd rfl (Or.inl rfl))) (fun _ _ _ _ _ => pts_nil) (fun _ _ _ _ _ => (pe_ix ix_tup (pv 5) pe_int (fun _ _ => rfl)))) pa_nil)) rfl))))))))))), ?_⟩
    have hgd : Gd 2 (.list (rows.map eStep)) := Gd.map fun r hr => gd_step (ok.way r hr) (ok.lab r hr)
    have hlen : tv.length = rows.length := pl.length
    have hone := ok.one
    have hmost := ok.most
    have hgoal := ok.goal
    refine ⟨_, rfl, _, _, _, _, _, rfl, .ty _, ty_sqL hl, kit_ty (r := true) (by decide +kernel), _, rfl, ?_⟩
    refine iteF ⟨_, rfl, Nat.zero_le _, ?_⟩
    intro q n1
    generalize e_H1 : upd _ q _ = H1
    obtain ⟨s1, h1⟩ := al e_H1 n1
    have ha1 := s1 _ _ ha
    refine ⟨_, .list [], (pl.same s1).dp (s1.seq hl), .lst (SqL.of h1) .nil, hgd.shaped (by decide), rfl, _, rfl, ?_⟩
    rw [eqv_nil, show (rows.map eStep).isEmpty = false by cases rows with | nil => simp at hone | cons _ _ => rfl]
    refine iteF ⟨_, rfl, _, _, rfl, Or.inl ⟨_, s1.seq hl, rfl⟩, _, _, rfl, rfl, _, rfl, ?_⟩
    rw [decide_eq_false (show ¬ (100 : Int) < ((tv.length : Nat) : Int) by omega)]
    refine iteF ⟨_, rfl, l, _, rfl, s1.seq hl, for_enum (K := K) (a := l) (xs := tv) (i := 4) (j := 5) (fun i σ H' => ∃ (v3 v4 : Option V) (dp : Int), σ = [some (.ref a), some (.ref l), some (.int g), some (.int dp), v3, v4] ∧ Same H H' ∧ (i = 0 → dp = 1) ∧ (∀ j, i = j + 1 → dp = dg (qds rows) j + 1)) ?_ (fun i σ H' _ ⟨_, _, _, _, s, _⟩ => s.seq hl) ?_ ?_⟩
    · exact ⟨none, none, 1, rfl, s1, fun _ => rfl, fun j h => by omega⟩
    · rintro i x T σ H3 hi ⟨v3, v4, dp, rfl, s3, hd0, hd1⟩ nT
      obtain ⟨r, hr, dx⟩ := pl.get hi
      obtain ⟨t, rfl, ht⟩ := dp_step dx
      have hil : i < rows.length := (List.getElem?_eq_some_iff.mp hr).1
      have hmem := List.mem_of_getElem? hr
      have hdi := qds_at hr
      have hpos := ok.dv.pos i (by rw [qds_len]; exact hil)
      have hdeep := ok.deep r hmem
      rw [hdi] at hpos
      generalize e4 : upd H3 T _ = H4
      obtain ⟨s4, _⟩ := al e4 nT
      have s04 := s3.trans s4
      have hle : r.2.2 ≤ dp := by
        cases i with
        | zero =>
          have := ok.dv.one
          rw [hdi] at this
          rw [hd0 rfl, this]
          exact Int.le_refl _
        | succ j =>
          have := (ok.dv.two j (by rw [qds_len]; exact hil)).2
          rw [hdi] at this
          rw [hd1 j rfl]
          exact this
      refine ⟨_, rfl, _, rfl, _, _, rfl, t, r.1, r.2.1, r.2.2, _, rfl, s04.tup ht, ok.way r hmem, by have := label_len (ok.lab r hmem); omega, fun H5 s5 => ⟨_, rfl, ?_⟩⟩
      rw [ok.lab r hmem, decide_eq_true (show 1 ≤ r.2.2 from hpos)]
      rw [decide_eq_true (show r.2.2 ≤ if (30 : Int) < dp then 30 else dp by split <;> omega)]
      refine iteF ⟨_, rfl, _, _, rfl, rfl, _, rfl, ?_⟩
      refine ite2 (fun c => ?_) (fun c => ?_)
      · have c : (0 : Int) < (i : Int) := of_decide_eq_true c
        refine ⟨_, rfl, _, _, _, _, rfl, rfl, (s04.trans s5).tup ht, atI_nat (j := 2) rfl, rfl, _, rfl, ?_⟩
        obtain ⟨j, hj1⟩ : ∃ j, i = j + 1 := ⟨i - 1, by omega⟩
        have h2 := (ok.dv.two j (by rw [qds_len, ← hj1]; exact hil)).1
        rw [← hj1, hdi] at h2
        rw [decide_eq_false (show ¬ (V.int r.2.2 = V.int 1) from fun z => by injection z with z; omega)]
        refine iteF ?_
        refine ⟨_, rfl, _, _, _, _, rfl, rfl, (s04.trans s5).tup ht, atI_nat (j := 2) rfl, _, _, rfl, rfl, _, _, _, rfl, s04.trans s5, (fun z => by omega), fun j hj => ?_⟩
        have hj : i = j := by omega
        subst hj
        rw [hdi]
      · refine iteF ?_
        refine ⟨_, rfl, _, _, _, _, rfl, rfl, (s04.trans s5).tup ht, atI_nat (j := 2) rfl, _, _, rfl, rfl, _, _, _, rfl, s04.trans s5, (fun z => by omega), fun j hj => ?_⟩
        have hj : i = j := by omega
        subst hj
        rw [hdi]
    · rintro σ H3 ⟨v3, v4, dp, rfl, s3, _, _⟩
      have ha3 := s3 _ _ ha
      have hl3 := s3.seq hl
      refine ⟨_, rfl, _, rfl, _, _, rfl, Or.inl ⟨_, hl3, rfl⟩, _, _, rfl, rfl, .int g, "int", 0, _, rfl, .int _, _, rfl, ?_⟩
      rw [show withinV (.int (g : Int)) 0 ((tv.length : Int) - 1) = true by show (decide (0 ≤ (g : Int)) && decide ((g : Int) ≤ (tv.length : Int) - 1)) = true; rw [decide_eq_true (by omega), decide_eq_true (by omega)]; rfl]
      refine iteF ⟨_, rfl, l, tv, rfl, .inl ⟨hl3, ?_⟩⟩
      intro t n4
      generalize e_H4 : upd _ t _ = H4
      obtain ⟨s4, h4⟩ := al e_H4 n4
      have ha4 := s4 _ _ ha3
      have nat : a ≠ t := ne_of_none ha3 n4
      have s04 := s3.trans s4
      refine ⟨_, rfl, _, _, _, _, rfl, ha4, T.cl_Question, T.na_Question_given_rows, by decide, ?_⟩
      generalize e_H5 : upd _ a _ = H5
      obtain ⟨b5, h5⟩ := ml e_H5
      refine ⟨_, rfl, _, rfl, _, _, _, _, rfl, h5, T.cl_Question, T.na_Question_goal, show (1 : Nat) < 1000 by decide, ?_⟩
      generalize e_H6 : upd _ a _ = H6
      obtain ⟨b6, h6⟩ := ml e_H6
      have h46 := b6 _ _ nat.symm (b5 _ _ nat.symm h4)
      have b46 : But a H4 H6 := b5.trans b6
      have b06 : But a H H6 := (But.of_same s04).trans b46
      have hl6 : SqL K H6 l tv := b46.seqI ha4 (s04.seq hl)
      have pl6 : PL K H6 eStep tv rows := PL.tk (pl.same s04) (TK.butI b46 ha4) flat_step
      refine ⟨_, rfl, l, rfl, ⟨_, hl6⟩, fun D hD => ?_⟩
      have naD : a ≠ D := ne_of_none h6 hD
      refine lc_list (K := K) (a := l) (xs := tv) (fun i H' => Same H6 H' ∧ ∃ sv, H' D = some (.lst sv) ∧ SPs K H' sv (rows.take i)) ⟨Same.new hD, [], upd_same, .nil⟩ (fun i H' _ q => q.1.seq hl6) ?_ ?_
      · rintro i x H' hi ⟨s, sv, hsv, hsp⟩
        obtain ⟨r, hr, dx⟩ := pl6.get hi
        obtain ⟨y, rfl, hy⟩ := dp_step dx
        have hy' := s.tup hy
        have hmem := List.mem_of_getElem? hr
        refine ⟨rfl, _, rfl, _, _, _, _, rfl, rfl, hy', atI_nat (j := 0) rfl, _, rfl, _, _, _, _, rfl, rfl, hy', atI_nat (j := 1) rfl, r.1, r.2.1, rfl, ok.way r hmem, fun H7 p s7 np st => ?_⟩
        have hsv7 := s7 _ _ hsv
        refine ⟨sv, hsv7, szl (by rw [hsp.length, List.length_take]; omega), (s.trans s7).mut hD, sv ++ [.ref p], upd_same, ?_⟩
        rw [take_snoc hr]
        have hk : ∀ q C dx fs, H7 q = some (.ins C dx fs) → upd H7 D (.lst (sv ++ [.ref p])) q = some (.ins C dx fs) := fun q C dx fs h => by rw [upd_ne (ne_of h hsv7 (fun z => nomatch z))]; exact h
        refine Paired.app ((hsp.same s7).at_ hk) (.cons ⟨p, rfl, ?_⟩ .nil)
        obtain ⟨C, dx, fs, hi⟩ := st.ins
        exact st.at_ fun o ho => by rw [upd_ne (ne_of hi hsv7 (fun z => nomatch z))]; exact ho
      rintro H7 ⟨s7, sv, hsv, hsp⟩
      rw [List.take_of_length_le (by omega)] at hsp
      refine ⟨D, sv, rfl, .inl ⟨SqL.of hsv, ?_⟩⟩
      intro sa n8
      generalize e_H8 : upd _ sa _ = H8
      obtain ⟨s8, h8⟩ := al e_H8 n8
      have s68 := s7.trans s8
      have ha8 := s68 _ _ h6
      have nas : a ≠ sa := ne_of_none (s7 _ _ h6) n8
      refine ⟨_, rfl, _, _, _, _, rfl, ha8, T.cl_Question, T.na_Question_steps, show (2 : Nat) < 1000 by decide, ?_⟩
      generalize e_H9 : upd _ a _ = H9
      obtain ⟨b9, h9⟩ := ml e_H9
      have hsp9 : SPs K H9 sv rows := (hsp.same s8).but b9 ha8 (show (2 : Nat) ≠ 1 by decide)
      have h49 := b9 _ _ nat.symm (s68 _ _ h46)
      have h89 := b9 _ _ nas.symm h8
      have b09 : But a H H9 := (b06.trans (But.of_same s68)).trans b9
      have hl9 : SqL K H9 l tv := b9.seqI ha8 (s68.seq hl6)
      have pl9 : PL K H9 eStep tv rows := PL.tk (pl6.same s68) (TK.butI b9 ha8) flat_step
      refine ⟨_, rfl, l, rfl, ⟨_, hl9⟩, fun D hD => ?_⟩
      refine lc_keepL (K := K) (xs := tv) (zs := rows) (fun _ => true) (fun r => .int r.2.2) pl9 hD hl9 (by omega) ?_ ?_
      · rintro x z H' N Y dx hz s _ hY
        obtain ⟨t, rfl, ht⟩ := dp_step dx
        exact ⟨rfl, _, rfl, _, _, _, _, rfl, rfl, s.tup ht, atI_nat (j := 2) rfl, hY _ (Same.refl _) rfl⟩
      rintro H10 s10 h10
      rw [filter_yes, show rows.map (fun r => V.int r.2.2) = (qds rows).map V.int by rw [qds, List.map_map]; rfl] at h10
      refine ⟨_, qds rows, rfl, SqL.of h10, ok.dv, by rw [qds_len]; omega, fun H11 p es s11 np h11 eo => ?_⟩
      have s91 := s10.trans s11
      have ha11 := s91 _ _ h9
      refine ⟨_, rfl, _, _, _, _, rfl, ha11, T.cl_Question, T.na_Question_ends, show (3 : Nat) < 1000 by decide, ?_⟩
      have nap : a ≠ p := ne_of_none (s10 _ _ h9) np
      generalize e_H12 : upd _ a _ = H12
      obtain ⟨b12, h12⟩ := ml e_H12
      have hsp12 : SPs K H12 sv rows := (hsp9.same s91).but b12 ha11 (show (3 : Nat) ≠ 1 by decide)
      have h412 := b12 _ _ nat.symm (s91 _ _ h49)
      have h812 := b12 _ _ nas.symm (s91 _ _ h89)
      have h1112 := b12 _ _ nap.symm h11
      have b012 : But a H H12 := (b09.trans (But.of_same s91)).trans b12
      have hl12 : SqL K H12 l tv := b12.seqI ha11 (s91.seq hl9)
      have pl12 : PL K H12 eStep tv rows := PL.tk (pl9.same s91) (TK.butI b12 ha11) flat_step
      refine ⟨_, rfl, l, rfl, ⟨_, hl12⟩, fun D hD => ?_⟩
      refine lc_keepL (K := K) (xs := tv) (zs := rows) (fun _ => true) (fun r => .int r.2.2) pl12 hD hl12 (by omega) ?_ ?_
      · rintro x z H' N Y dx hz s _ hY
        obtain ⟨t, rfl, ht⟩ := dp_step dx
        exact ⟨rfl, _, rfl, _, _, _, _, rfl, rfl, s.tup ht, atI_nat (j := 2) rfl, hY _ (Same.refl _) rfl⟩
      rintro H13 s13 h13
      rw [filter_yes, show rows.map (fun r => V.int r.2.2) = (qds rows).map V.int by rw [qds, List.map_map]; rfl] at h13
      refine ⟨_, qds rows, rfl, SqL.of h13, ok.dv, by rw [qds_len]; omega, fun H14 u us s14 nu h14 uo => ?_⟩
      have s24 := s13.trans s14
      have ha14 := s24 _ _ h12
      refine ⟨_, rfl, _, _, _, _, rfl, ha14, T.cl_Question, T.na_Question_uppers, show (4 : Nat) < 1000 by decide, ?_⟩
      have nau : a ≠ u := ne_of_none (s13 _ _ h12) nu
      generalize e_H15 : upd _ a _ = H15
      obtain ⟨b15, h15⟩ := ml e_H15
      exact k H15 ((b012.trans (But.of_same s24)).trans b15) ⟨dx, t, sa, p, u, tv, sv, es, us, h15, b15 _ _ nat.symm (s24 _ _ h412), PL.tk (pl12.same s24) (TK.butI b15 ha14) flat_step, b15 _ _ nas.symm (s24 _ _ h812), (hsp12.same s24).but b15 ha14 (show (4 : Nat) ≠ 1 by decide), b15 _ _ nap.symm (s24 _ _ h1112), b15 _ _ nau.symm h14, eo, uo, ok⟩
theorem sc_law_same : FnScope ["_law_found", "_law_due", "_law_row", "_law_part"] ["_law_found", "_law_due"] (defScope st_law_same) := ⟨rfl, rfl, rfl, by decide +kernel, rfl, by decide +kernel, by decide +kernel⟩
theorem ok_law_same {f : Addr} {fd : FuncData} (T : Txt K mg) (F : FnP K "_law_same" "_law_same" st_law_same f fd)  : FnOk P w K mg base CX0 1 f fd ["_law_found", "_law_due"] (sp_law_same K) := by
  refine F.ok sc_law_same (fun vs H Q E h => ?_) (fun cdv A outer s H vs Q E hr h => ?_)
  · obtain ⟨f, u, fv, uv, T, rfl, _⟩ := h
    rfl
  · obtain ⟨fa, u, fv, uv, Tt, rfl, hf, tf, hu, tu, hrl, k⟩ := h
    refine ⟨_, PSs.nox (pss_cons (ps_if (PW.pt (pw_or (pt_not (pt_val (pe_callB call_isi rfl T.free_isinstance (by decide +kernel) (pa_cons (pv 0) (pa_cons (pe_bltn (v := .ty "list") rfl T.free_list (by decide +kernel) rfl) pa_nil))))) (pw_or1 (pt_cmpR (op_neD hr.units) (pv 0) (pv 1) (nomark _)))))
      (pss_one (ps_ret pe_bl))
      pss_nil)
      (pss_cons (ps_for PassesOwn.never rfl (pi_list (pv 0)) (pg_name (i := 2) sc_law_same.nd rfl (Or.inl rfl))
      (pss_one (ps_if (PW.pt (pw_or (pt_not (pt_val (pe_callB call_isi rfl T.free_isinstance (by decide +kernel) (pa_cons (pv 2) (pa_cons (pe_bltn (v := .ty "list") rfl T.free_list (by decide +kernel) rfl) pa_nil))))) (pw_or1 (pt_cmpR (op_neD hr.units) (pe_lc (own := [("_law_part", 3)]) (g := gName 3) (tt := (tB (tCB (rIsi K) (tCons (tVar 3) (tCons (tC (.ty "bool")) tNil))))) rfl sc_law_same.nd (pi_list (pv 2)) (blkOk_by (own := [("_law_part", 3)]) (N := ["_law_found", "_law_due", "_law_row", "_law_part"]) (sc := defScope st_law_same) (by decide +kernel)) (fun _ _ _ _ _ => (pg_name (i := 3) sc_law_same.nd rfl (Or.inl rfl))) (fun _ _ _ _ _ => (pts_one (pt_val (pe_callB call_isi rfl T.free_isinstance (by decide +kernel) (pa_cons (pv 3) (pa_cons (pe_bltn (v := .ty "bool") rfl T.free_bool (by decide +kernel) rfl) pa_nil)))))) (fun _ _ _ _ _ => (pv 3))) (pe_lst pa_nil) (nomark _)))))
      (pss_one (ps_ret pe_bl))
      pss_nil)))
      (pss_one (ps_ret pe_bl)))), ?_⟩
    refine ⟨_, rfl, _, _, _, _, _, rfl, .ty _, ty_sqL hf, kit_ty (r := true) (by decide +kernel), _, rfl, ?_⟩
    refine iteF ⟨_, rfl, _, rfl, _, _, (tab_pl tf).dp hf, (tab_pl tu).dp hu, (gd_tab Tt).shaped (by decide), (gd_tab Tt).shaped (by decide), _, rfl, ?_⟩
    rw [(gd_tab Tt).eqv]
    refine iteF ⟨_, rfl, fa, rfl, ⟨_, hf⟩, for_list (K := K) (a := fa) (xs := fv) (fun i σ H' => ∃ v2 : Option V, σ = [some (.ref fa), some (.ref u), v2, none] ∧ Same H H') ⟨none, rfl, Same.refl _⟩ (fun i σ H' _ ⟨_, _, s⟩ => s.seq hf) ?_ ?_⟩
    · rintro i x σ H1 hi ⟨v2, rfl, s1⟩
      obtain ⟨row, hr1, ra, rfl, hra⟩ := tf.get hi
      have hra1 := s1 _ _ hra
      have hl := hrl row (List.mem_of_getElem? hr1)
      refine ⟨_, rfl, _, _, _, _, _, rfl, .ty _, ty_sqL (SqL.of hra1), kit_ty (r := true) (by decide +kernel), _, rfl, ?_⟩
      refine iteF ⟨_, rfl, ra, rfl, ⟨_, SqL.of hra1⟩, fun E hE => ?_⟩
      refine lc_keepL (K := K) (xs := row.map vN) (zs := row) (F := fun v n => v = vN n) (fun _ => false) vN (paired_vN _) hE (SqL.of hra1) (by omega) ?_ ?_
      · rintro x z H' N Y rfl hz s' hN hY
        exact ⟨rfl, _, rfl, _, _, _, _, _, rfl, .ty _, .base (.int _), kit_ty (r := false) (by decide +kernel), _, rfl, iteF (hN _ (Same.refl _) rfl)⟩
      rintro H2 s2 h2
      rw [show row.filter (fun _ => false) = [] by simp] at h2
      refine ⟨Nat.zero_le _, ?_⟩
      intro e2 n3
      generalize e_H3 : upd _ e2 _ = H3
      obtain ⟨s3, h3⟩ := al e_H3 n3
      refine ⟨.list [], .list [], .lst (SqL.of (s3 _ _ h2)) .nil, .lst (SqL.of h3) .nil, rfl, rfl, _, rfl, ?_⟩
      exact iteF ⟨_, rfl, (s1.trans s2).trans s3⟩
    · rintro σ H1 ⟨v2, rfl, s1⟩
      exact k H1 s1
theorem sc_Question_many : FnScope ["self"] ["self"] (defScope st_Question_many) := ⟨rfl, rfl, rfl, by decide +kernel, rfl, by decide +kernel, by decide +kernel⟩
theorem ok_Question_many {f : Addr} {fd : FuncData} (T : Txt K mg) (F : FnP K "many" "Question.many" st_Question_many f fd)  : FnOk P w K mg base CX0 1 f fd ["self"] (sp_Question_many K) := by
  refine F.ok sc_Question_many (fun vs H Q E h => ?_) (fun cdv A outer s H vs Q E hr h => ?_)
  · obtain ⟨a, rows, g, rfl, _⟩ := h
    rfl
  · obtain ⟨a, rows, g, rfl, hd, k⟩ := h
    refine ⟨_, PSs.nox (pss_one (ps_ret (pe_callB call_len rfl T.free_len PySem.boot_len (pa_cons (pe_fld (pv 0) rfl) pa_nil)))), ?_⟩
    obtain ⟨dx, t, sa, e, u, tv, sv, es, us, hd⟩ := hd
    have hl := hd.pl.length
    rw [← hl] at k
    exact ⟨_, rfl, _, _, _, _, _, rfl, hd.ob, T.cl_Question, T.na_Question_given_rows, quF_rows t g sa e u, _, _, rfl, Or.inr ⟨_, SqT.of hd.tp, rfl⟩, k⟩
theorem sc_Question_need_step : FnScope ["self", "step"] ["self", "step"] (defScope st_Question_need_step) := ⟨rfl, rfl, rfl, by decide +kernel, rfl, by decide +kernel, by decide +kernel⟩
theorem ok_Question_need_step {f : Addr} {fd : FuncData} (T : Txt K mg) (F : FnP K "need_step" "Question.need_step" st_Question_need_step f fd) (G_is_within : Fn P w K mg base CX0 2 "is_within" ["thing", "low", "high"] (sp_is_within K)) : FnOk P w K mg base CX0 3 f fd ["self", "step"] (sp_Question_need_step K) := by
  refine F.ok sc_Question_need_step (fun vs H Q E h => ?_) (fun cdv A outer s H vs Q E hr h => ?_)
  · obtain ⟨a, rows, g, k, rfl, _⟩ := h
    rfl
  · obtain ⟨a, rows, g, p, rfl, hd, hp, k⟩ := h
    refine ⟨_, PSs.nox (pss_one (ps_if (pt_not (pt_val (pe_callF G_is_within (hr.mono (by decide)) pass0 (pa_cons (pv 1) (pa_cons pe_int (pa_cons (pe_op op_sub (pe_callB call_len rfl T.free_len PySem.boot_len (pa_cons (pe_fld (pv 0) rfl) pa_nil)) pe_int) pa_nil))))))
      (pss_one ps_never)
      pss_nil)), ?_⟩
    obtain ⟨dx, t, sa, e, u, tv, sv, es, us, hd⟩ := hd
    refine ⟨_, rfl, _, rfl, _, _, _, _, _, rfl, hd.ob, T.cl_Question, T.na_Question_given_rows, quF_rows t g sa e u, _, _, rfl, Or.inr ⟨_, SqT.of hd.tp, rfl⟩, _, _, rfl, rfl, .int p, "int", 0, _, rfl, .int _, _, rfl, ?_⟩
    have e1 : withinV (.int (p : Int)) 0 ((tv.length : Int) - 1) = true := by
      have := hd.pl.length
      show (decide (0 ≤ (p : Int)) && decide ((p : Int) ≤ (tv.length : Int) - 1)) = true
      rw [decide_eq_true (by omega), decide_eq_true (by omega)]
      rfl
    rw [e1]
    exact iteF k
theorem sc_Question_lowers_of : FnScope ["self", "step", "other"] ["self", "step"] (defScope st_Question_lowers_of) := ⟨rfl, rfl, rfl, by decide +kernel, rfl, by decide +kernel, by decide +kernel⟩
theorem ok_Question_lowers_of {f : Addr} {fd : FuncData} (T : Txt K mg) (F : FnP K "lowers_of" "Question.lowers_of" st_Question_lowers_of f fd) (G_Question_need_step : Mt P w K mg base CX0 3 (He.ga K "Question") "need_step" ["self", "step"] (sp_Question_need_step K)) : FnOk P w K mg base CX0 4 f fd ["self", "step"] (sp_Question_lowers_of K) := by
  refine F.ok sc_Question_lowers_of (fun vs H Q E h => ?_) (fun cdv A outer s H vs Q E hr h => ?_)
  · obtain ⟨a, rows, g, k, rfl, _⟩ := h
    rfl
  · obtain ⟨a, rows, g, p, rfl, hd, hp, k⟩ := h
    refine ⟨_, PSs.nox (pss_cons (ps_expr (pe_methF (pv 0) G_Question_need_step (hr.mono (by decide)) pass0 (pa_cons (pv 1) pa_nil)))
      (pss_one (ps_ret (pe_lc (own := [("other", 2)]) (g := gName 2) (tt := (tTest (tOp _ (tOp (rIxL K) (tFld K (tVar 0) "uppers") (tVar 2)) (tVar 1)))) rfl sc_Question_lowers_of.nd (pi_range2 rfl T.free_range (pa_cons (pe_op op_add (pv 1) pe_int) (pa_cons (pe_op op_add (pe_ix ix_list (pe_fld (pv 0) rfl) (pv 1) (fun _ _ => rfl)) pe_int) pa_nil))) (blkOk_by (own := [("other", 2)]) (N := ["self", "step", "other"]) (sc := defScope st_Question_lowers_of) (by decide +kernel)) (fun _ _ _ _ _ => (pg_name (i := 2) sc_Question_lowers_of.nd rfl (Or.inl rfl))) (fun _ _ _ _ _ => (pts_one (pt_cmpR op_eq (pe_ix ix_list (pe_fld (pv 0) rfl) (pv 2) (fun _ _ => rfl)) (pv 1) (nomark _)))) (fun _ _ _ _ _ => (pv 2)))))), ?_⟩
    have hd0 := hd
    obtain ⟨dx, t, sa, e, u, tv, sv, es, us, hd⟩ := hd
    obtain ⟨n, hn, he⟩ := hd.end_at hp
    refine ⟨_, rfl, a, _, _, rfl, hd.ob, no_q t g sa e u (by decide) (by decide) (by decide) (by decide) (by decide), _, rfl, a, rows, g, p, rfl, hd0, hp, ?_⟩
    obtain ⟨ls, hls, heq⟩ := lows_of hd.uo he
    have hnl : n < rows.length := by have := he.lt; rw [qds_len] at this; exact this
    have hmost := hd.ok.most
    refine ⟨_, rfl, _, _, rfl, rfl, _, rfl, _, _, _, _, _, rfl, hd.ob, T.cl_Question, T.na_Question_ends, quF_ends t g sa e u, _, rfl, _, _, _, _, rfl, rfl, SqL.of hd.en, atI_nat hn, _, _, rfl, rfl, _, _, rfl, ⟨by omega, by omega, by omega, by omega⟩, fun D hD => ?_⟩
    refine lc_keepR (fun o => decide (us[o.toNat]? = some (some (p : Int)))) (fun o => .int o) hD (by omega) ?_ ?_
    · rintro i H' N Y hi s hN hY
      have hil : p + 1 + i < us.length := by rw [hd.uo.len, qds_len]; omega
      have hi2 : ((p : Int) + 1 + (i : Int)) = ((p + 1 + i : Nat) : Int) := by omega
      have hd' := hd.same s
      refine ⟨rfl, _, rfl, _, _, _, _, _, rfl, hd'.ob, T.cl_Question, T.na_Question_uppers, quF_uppers t g sa e u, _, rfl, _, _, _, _, rfl, rfl, SqL.of hd'.up, by rw [hi2]; exact atI_nat (v := vOpt us[p + 1 + i]) (by rw [List.getElem?_map, List.getElem?_eq_getElem hil]; rfl), _, rfl, by cases us[p + 1 + i] <;> rfl, _, rfl, ?_⟩
      have e1 : (us[((p : Int) + 1 + (i : Int)).toNat]? = some (some (p : Int))) ↔ vOpt us[p + 1 + i] = V.int (p : Int) := by
        rw [show ((p : Int) + 1 + (i : Int)).toNat = p + 1 + i by omega, List.getElem?_eq_getElem hil]
        cases us[p + 1 + i] with
        | none => simp [vOpt]
        | some x => simp [vOpt]
      refine ite2 (fun c => ?_) (fun c => ?_)
      · exact ⟨_, rfl, hY _ (Same.refl _) (decide_eq_true (e1.mpr (of_decide_eq_true c)))⟩
      · exact hN _ (Same.refl _) (decide_eq_false fun z => c (decide_eq_true (e1.mp z)))
    · rintro H' s h
      rw [heq] at h
      exact k H' D ls s hD h hls
theorem sc_Document_need_part : FnScope ["self", "part"] ["self", "part"] (defScope st_Document_need_part) := ⟨rfl, rfl, rfl, by decide +kernel, rfl, by decide +kernel, by decide +kernel⟩
theorem ok_Document_need_part {f : Addr} {fd : FuncData} (T : Txt K mg) (F : FnP K "need_part" "Document.need_part" st_Document_need_part f fd) (G_is_within : Fn P w K mg base CX0 2 "is_within" ["thing", "low", "high"] (sp_is_within K)) : FnOk P w K mg base CX0 3 f fd ["self", "part"] (sp_Document_need_part K) := by
  refine F.ok sc_Document_need_part (fun vs H Q E h => ?_) (fun cdv A outer s H vs Q E hr h => ?_)
  · obtain ⟨a, rows, k, rfl, _⟩ := h
    rfl
  · obtain ⟨a, rows, p, rfl, hd, hp, k⟩ := h
    refine ⟨_, PSs.nox (pss_one (ps_if (pt_not (pt_val (pe_callF G_is_within (hr.mono (by decide)) pass0 (pa_cons (pv 1) (pa_cons pe_int (pa_cons (pe_op op_sub (pe_callB call_len rfl T.free_len PySem.boot_len (pa_cons (pe_fld (pv 0) rfl) pa_nil)) pe_int) pa_nil))))))
      (pss_one ps_never)
      pss_nil)), ?_⟩
    obtain ⟨dx, t, e, u, tv, es, us, hd⟩ := hd
    refine ⟨_, rfl, _, rfl, _, _, _, _, _, rfl, hd.ob, T.cl_Document, T.na_Document_parts, docF_parts t e u, _, _, rfl, Or.inr ⟨_, SqT.of hd.tp, rfl⟩, _, _, rfl, rfl, .int p, "int", 0, _, rfl, .int _, _, rfl, ?_⟩
    have e1 : withinV (.int (p : Int)) 0 ((tv.length : Int) - 1) = true := by
      have := hd.pl.length
      show (decide (0 ≤ (p : Int)) && decide ((p : Int) ≤ (tv.length : Int) - 1)) = true
      rw [decide_eq_true (by omega), decide_eq_true (by omega)]
      rfl
    rw [e1]
    exact iteF k
theorem sc_Document_upper_of : FnScope ["self", "part"] ["self", "part"] (defScope st_Document_upper_of) := ⟨rfl, rfl, rfl, by decide +kernel, rfl, by decide +kernel, by decide +kernel⟩
theorem ok_Document_upper_of {f : Addr} {fd : FuncData} (T : Txt K mg) (F : FnP K "upper_of" "Document.upper_of" st_Document_upper_of f fd) (G_Document_need_part : Mt P w K mg base CX0 3 (He.ga K "Document") "need_part" ["self", "part"] (sp_Document_need_part K)) : FnOk P w K mg base CX0 4 f fd ["self", "part"] (sp_Document_upper_of K) := by
  refine F.ok sc_Document_upper_of (fun vs H Q E h => ?_) (fun cdv A outer s H vs Q E hr h => ?_)
  · obtain ⟨a, rows, k, rfl, _⟩ := h
    rfl
  · obtain ⟨a, rows, p, rfl, hd, hp, k⟩ := h
    refine ⟨_, PSs.nox (pss_cons (ps_expr (pe_methF (pv 0) G_Document_need_part (hr.mono (by decide)) pass0 (pa_cons (pv 1) pa_nil)))
      (pss_one (ps_ret (pe_ix ix_list (pe_fld (pv 0) rfl) (pv 1) (fun _ _ => rfl))))), ?_⟩
    have hd0 := hd
    obtain ⟨dx, t, e, u, tv, es, us, hd⟩ := hd
    obtain ⟨o, hn, he⟩ := hd.up_at hp
    refine ⟨_, rfl, a, _, _, rfl, hd.ob, no_many t e u (by decide) (by decide) (by decide), _, rfl, a, rows, p, rfl, hd0, hp, ?_⟩
    exact ⟨_, rfl, _, _, _, _, _, rfl, hd.ob, T.cl_Document, T.na_Document_uppers, docF_uppers t e u, _, rfl, _, _, _, _, rfl, rfl, SqL.of hd.up, atI_nat hn, k o he⟩
theorem sc_with_beneath : FnScope ["document", "parts", "way", "found", "part", "upper"] ["document", "parts", "way"] (defScope st_with_beneath) := ⟨rfl, rfl, rfl, by decide +kernel, rfl, by decide +kernel, by decide +kernel⟩
theorem ok_with_beneath {f : Addr} {fd : FuncData} (T : Txt K mg) (F : FnP K "with_beneath" "with_beneath" st_with_beneath f fd) (G_Document_upper_of : Mt P w K mg base CX0 4 (He.ga K "Document") "upper_of" ["self", "part"] (sp_Document_upper_of K)) : FnOk P w K mg base CX0 5 f fd ["document", "parts", "way"] (sp_with_beneath K) := by
  refine F.ok sc_with_beneath (fun vs H Q E h => ?_) (fun cdv A outer s H vs Q E hr h => ?_)
  · obtain ⟨d, l, w, dr, ps, rfl, _⟩ := h
    rfl
  · obtain ⟨d, l, w, dr, ps, rfl, hw, hd, hl, hps, hpl, k⟩ := h
    refine ⟨_, PSs.nox (pss_cons (ps_set (i := 3) sc_with_beneath.nd rfl (Or.inl rfl) pe_dnewK)
      (pss_cons (ps_for PassesOwn.never rfl (pi_list (pv 1)) (pg_name (i := 4) sc_with_beneath.nd rfl (Or.inl rfl))
      (pss_cons (ps_set (i := 5) sc_with_beneath.nd rfl (Or.inl rfl) (pe_methF (pv 0) G_Document_upper_of (hr.mono (by decide)) pass0 (pa_cons (pv 4) pa_nil)))
      (pss_one (ps_while PassesOwn.never (PW.pt (pw_and (pt_cmpR op_notN (pv 5) pe_non (nomark _)) (pw_and1 (pt_cmp (pc_dnotin (hu_of hr) (pv 5) (pv 3))))))
      (pss_cons (ps_dput (hu_of hr) (pv 3) (pv 5) pe_bl rfl)
      (pss_cons (ps_set (i := 5) sc_with_beneath.nd rfl (Or.inl rfl) (pe_methF (pv 0) G_Document_upper_of (hr.mono (by decide)) pass0 (pa_cons (pv 5) pa_nil)))
      (pss_one (ps_if (pt_cmpR op_eq (pv 2) pe_str (nomark _))
      (pss_one (ps_set (i := 5) sc_with_beneath.nd rfl (Or.inl rfl) pe_non))
      pss_nil))))))))
      (pss_one (ps_ret (pv 3))))), ?_⟩
    intro p n1
    generalize e_H1 : upd _ p _ = H1
    obtain ⟨s1, h1⟩ := al e_H1 n1
    have hmost := hd.ok.most
    refine ⟨_, rfl, l, rfl, ⟨_, s1.seq hl⟩, for_list (K := K) (a := l) (xs := ps.map vN) (fun i σ H' => ∃ (kv : List (Key × V)) (v4 v5 : Option V), σ = [some (.ref d), some (.ref l), some (.str w), some (.ref p), v4, v5] ∧ Same H H' ∧ H' p = some (.dK kv) ∧ Ks kv (Hav (dps dr) (wB w) (ps.take i)) ∧ kv.length ≤ i * 1000) ?_ (fun i σ H' _ ⟨_, _, _, _, s, _⟩ => s.seq hl) ?_ ?_⟩
    · exact ⟨[], none, none, rfl, s1, h1, Ks.nil.iff fun n => ⟨fun z => z.elim, fun z => (hav_nil z).elim⟩, Nat.zero_le _⟩
    · rintro i x σ H3 hi ⟨kv, v4, v5, rfl, s3, hp, hks, hkl⟩
      obtain ⟨q, hq, rfl⟩ : ∃ q, ps[i]? = some q ∧ x = vN q := by
        rw [List.getElem?_map] at hi
        cases e : ps[i]? with
        | none => rw [e] at hi; cases hi
        | some d => rw [e] at hi; exact ⟨d, rfl, (Option.some.inj hi).symm⟩
      have hqm := List.mem_of_getElem? hq
      have hil : i < ps.length := (List.getElem?_eq_some_iff.mp hq).1
      have hd3 := hd.same s3
      refine ⟨_, rfl, doc_m hd3 (by decide) (by decide) (by decide) ⟨_, rfl, d, dr, q, rfl, hd3, hps q hqm, fun o ho => ?_⟩⟩
      refine ⟨fun m σ H' => ∃ (o' : Option Int) (kv : List (Key × V)), σ = [some (.ref d), some (.ref l), some (.str w), some (.ref p), some (vN q), some (vOpt o')] ∧ Same H H' ∧ H' p = some (.dK kv) ∧ m = om o' ∧ m ≤ 240 ∧ kv.length + m ≤ i * 1000 + 240 ∧ (∀ h, o' = some h → ∃ n : Nat, h = n ∧ Bn (dps dr) (wB w) n q) ∧ Ks kv (fun n => Hav (dps dr) (wB w) (ps.take i) n ∨ UpW (dps dr) (wB w) q o' n), ?_, ?_⟩
      · have hat := upw_at (w := wB w) ho
        have hom : om o ≤ 240 := by
          cases o with
          | none => exact Nat.zero_le _
          | some h =>
            obtain ⟨n, rfl, b⟩ := hat h rfl
            have h1 := b.1.1
            have h2 := hps q hqm
            show (n : Int).toNat + 1 ≤ 240
            omega
        exact ⟨_, o, kv, rfl, s3, hp, rfl, hom, by omega, hat, hks.iff fun n => ⟨.inl, fun z => z.resolve_right (upw_start ho n)⟩⟩
      rintro m σ H5 ⟨o', kv5, rfl, s5, hp5, rfl, hm5, hkl5, hat, hks5⟩
      have htk : ps.take (i + 1) = ps.take i ++ [q] := take_snoc hq
      cases o' with
      | none =>
        refine ⟨_, rfl, rfl, _, rfl, iteF ⟨kv5, _, _, rfl, s5, hp5, ?_, ?_⟩⟩
        · rw [htk]
          exact hks5.iff fun n => by rw [hav_snoc, upw_all]
        · have : kv5.length + 0 ≤ i * 1000 + 240 := hkl5
          omega
      | some h =>
        obtain ⟨n, rfl, b⟩ := hat h rfl
        have hkl6 : kv5.length + ((n : Int).toNat + 1) ≤ i * 1000 + 240 := hkl5
        have hm6 : (n : Int).toNat + 1 ≤ 240 := hm5
        have hnl : n < dr.length := by have := b.1.1; have := hps q hqm; omega
        refine ⟨_, rfl, rfl, _, rfl, iteT ⟨_, rfl, _, rfl, p, _, rfl, DGet.k (k := Sum.inl (n : Int)) hp5, _, rfl, ?_⟩⟩
        cases c : (valV kv5 (Sum.inl (n : Int))).isSome with
        | true =>
          refine iteF ⟨kv5, _, _, rfl, s5, hp5, ?_, by omega⟩
          rw [htk]
          exact hks5.iff fun m => hav_stop b ((hks5.at_ n).mp c) m
        | false =>
          refine iteT ⟨_, fun _ _ h => h, _, rfl, _, rfl, p, _, rfl, DPut.k (k := Sum.inl (n : Int)) hp5 (szl (by omega)), ?_⟩
          generalize e_H6 : upd _ p _ = H6
          obtain ⟨b6, h6⟩ := ml e_H6
          have s6 : Same H H6 := same_of_but s5 n1 b6
          have hd6 := hd.same s6
          refine ⟨_, rfl, doc_m hd6 (by decide) (by decide) (by decide) ⟨_, rfl, d, dr, n, rfl, hd6, hnl, fun o2 ho2 => ?_⟩⟩
          have hpl := putK_le kv5 (Sum.inl (n : Int)) (.bl true)
          have hks6 := hks5.put n (.bl true)
          have hom : om o2 < n + 1 := by
            cases o2 with
            | none => exact Nat.succ_pos _
            | some z =>
              obtain ⟨m, rfl, pp⟩ := ho2
              have := pp.1.1
              show (m : Int).toNat + 1 < n + 1
              omega
          refine ⟨_, rfl, rfl, _, rfl, ?_⟩
          refine ite2 (fun c => ?_) (fun c => ?_)
          · have c : w = "/" := by have := of_decide_eq_true c; injection this
            have hwb := wB_f c
            refine ⟨0, Nat.succ_pos _, none, _, rfl, s6, h6, rfl, Nat.zero_le _, by omega, (fun _ z => nomatch z), hks6.iff fun m => ?_⟩
            rw [upw_step b (o := none) (fun z => by rw [hwb] at z; cases z) (fun _ => rfl) m]
            constructor
            · rintro (z | z | z)
              · exact .inr (.inl z)
              · exact .inl z
              · exact .inr (.inr z)
            · rintro (z | z | z)
              · exact .inr (.inl z)
              · exact .inl z
              · exact .inr (.inr z)
          · have c : w = "//" := hw.resolve_left fun z => c (decide_eq_true (by rw [z]))
            have hwb := wB_t c
            refine ⟨om o2, by show om o2 < (n : Int).toNat + 1; omega, o2, _, rfl, s6, h6, rfl, by omega, by omega, upw_next b (fun _ => ho2) (fun z => by rw [hwb] at z; cases z), hks6.iff fun m => ?_⟩
            rw [upw_step b (fun _ => ho2) (fun z => by rw [hwb] at z; cases z) m]
            constructor
            · rintro (z | z | z)
              · exact .inr (.inl z)
              · exact .inl z
              · exact .inr (.inr z)
            · rintro (z | z | z)
              · exact .inr (.inl z)
              · exact .inl z
              · exact .inr (.inr z)
    · rintro σ H3 ⟨kv, v4, v5, rfl, s3, hp, hks, hkl⟩
      rw [List.length_map, List.take_of_length_le (Nat.le_refl _)] at hks
      exact ⟨_, rfl, k H3 p kv s3 n1 hp hks⟩
theorem sc_Straight_way : FnScope ["self"] ["self"] (defScope st_Straight_way) := ⟨rfl, rfl, rfl, by decide +kernel, rfl, by decide +kernel, by decide +kernel⟩
theorem ok_Straight_way {f : Addr} {fd : FuncData} (T : Txt K mg) (F : FnP K "way" "Straight.way" st_Straight_way f fd)  : FnOk P w K mg base CX0 1 f fd ["self"] (sp_Straight_way K) := by
  refine F.ok sc_Straight_way (fun vs H Q E h => ?_) (fun cdv A outer s H vs Q E hr h => ?_)
  · obtain ⟨a, dx, z, rfl, _⟩ := h
    rfl
  · obtain ⟨a, dx, z, rfl, ha, k⟩ := h
    refine ⟨_, PSs.nox (pss_one (ps_ret pe_str)), ?_⟩
    exact k
theorem sc_Anywhere_way : FnScope ["self"] ["self"] (defScope st_Anywhere_way) := ⟨rfl, rfl, rfl, by decide +kernel, rfl, by decide +kernel, by decide +kernel⟩
theorem ok_Anywhere_way {f : Addr} {fd : FuncData} (T : Txt K mg) (F : FnP K "way" "Anywhere.way" st_Anywhere_way f fd)  : FnOk P w K mg base CX0 1 f fd ["self"] (sp_Anywhere_way K) := by
  refine F.ok sc_Anywhere_way (fun vs H Q E h => ?_) (fun cdv A outer s H vs Q E hr h => ?_)
  · obtain ⟨a, dx, z, rfl, _⟩ := h
    rfl
  · obtain ⟨a, dx, z, rfl, ha, k⟩ := h
    refine ⟨_, PSs.nox (pss_one (ps_ret pe_str)), ?_⟩
    exact k
theorem sc_Question_step_at : FnScope ["self", "step"] ["self", "step"] (defScope st_Question_step_at) := ⟨rfl, rfl, rfl, by decide +kernel, rfl, by decide +kernel, by decide +kernel⟩
theorem ok_Question_step_at {f : Addr} {fd : FuncData} (T : Txt K mg) (F : FnP K "step_at" "Question.step_at" st_Question_step_at f fd) (G_Question_need_step : Mt P w K mg base CX0 3 (He.ga K "Question") "need_step" ["self", "step"] (sp_Question_need_step K)) : FnOk P w K mg base CX0 4 f fd ["self", "step"] (sp_Question_step_at K) := by
  refine F.ok sc_Question_step_at (fun vs H Q E h => ?_) (fun cdv A outer s H vs Q E hr h => ?_)
  · obtain ⟨a, rows, g, k, r, rfl, _⟩ := h
    rfl
  · obtain ⟨a, rows, g, p, r, rfl, hd, hrr, k⟩ := h
    refine ⟨_, PSs.nox (pss_cons (ps_expr (pe_methF (pv 0) G_Question_need_step (hr.mono (by decide)) pass0 (pa_cons (pv 1) pa_nil)))
      (pss_one (ps_ret (pe_ix ix_tup (pe_fld (pv 0) rfl) (pv 1) (fun _ _ => rfl))))), ?_⟩
    have hd0 := hd
    obtain ⟨dx, t, sa, e, u, tv, sv, es, us, hd⟩ := hd
    have hp := (List.getElem?_eq_some_iff.mp hrr).1
    obtain ⟨v, hv, q, rfl, st⟩ := hd.st.get' hrr
    refine ⟨_, rfl, a, _, _, rfl, hd.ob, no_q t g sa e u (by decide) (by decide) (by decide) (by decide) (by decide), _, rfl, a, rows, g, p, rfl, hd0, hp, ?_⟩
    exact ⟨_, rfl, _, _, _, _, _, rfl, hd.ob, T.cl_Question, T.na_Question_steps, quF_steps t g sa e u, _, rfl, _, _, _, _, rfl, rfl, SqT.of hd.sp, atI_nat hv, k q st⟩
theorem sc_Document_parts_of : FnScope ["self", "label", "part", "row"] ["self", "label"] (defScope st_Document_parts_of) := ⟨rfl, rfl, rfl, by decide +kernel, rfl, by decide +kernel, by decide +kernel⟩
theorem ok_Document_parts_of {f : Addr} {fd : FuncData} (T : Txt K mg) (F : FnP K "parts_of" "Document.parts_of" st_Document_parts_of f fd)  : FnOk P w K mg base CX0 1 f fd ["self", "label"] (sp_Document_parts_of K) := by
  refine F.ok sc_Document_parts_of (fun vs H Q E h => ?_) (fun cdv A outer s H vs Q E hr h => ?_)
  · obtain ⟨a, rows, z, rfl, _⟩ := h
    rfl
  · obtain ⟨a, rows, z, rfl, hd, k⟩ := h
    refine ⟨_, PSs.nox (pss_one (ps_ret (pe_lc (own := [("part", 2), ("row", 3)]) (g := gTup K 2 (gCons (gName 2) (gCons (gName 3) gNil))) (tt := (tTest (tOp _ (tOp (rIxT K) (tVar 3) (tC (.int 0))) (tVar 1)))) rfl sc_Document_parts_of.nd (pi_enumT rfl T.free_enumerate (pa_cons (pe_fld (pv 0) rfl) pa_nil)) (blkOk_by (own := [("part", 2), ("row", 3)]) (N := ["self", "label", "part", "row"]) (sc := defScope st_Document_parts_of) (by decide +kernel)) (fun _ _ _ _ _ => (pg_tup rfl (pgs_cons (pg_name (i := 2) sc_Document_parts_of.nd rfl (Or.inl rfl)) (pgs_cons (pg_name (i := 3) sc_Document_parts_of.nd rfl (Or.inl rfl)) pgs_nil)))) (fun _ _ _ _ _ => (pts_one (pt_cmpR op_eq (pe_ix ix_tup (pv 3) pe_int (fun _ _ => rfl)) (pv 1) (nomark _)))) (fun _ _ _ _ _ => (pv 2))))), ?_⟩
    obtain ⟨dx, t, e, u, tv, es, us, hd⟩ := hd
    have hmost := hd.ok.most
    refine ⟨_, rfl, _, _, _, _, _, rfl, hd.ob, T.cl_Document, T.na_Document_parts, docF_parts t e u, _, _, rfl, SqT.of hd.tp, fun D hD => ?_⟩
    refine lc_keepE (K := K) (xs := tv) (zs := rows) (fun x => decide (x.2.1 = z)) (fun x => vN x.1) hd.pl hD (SqT.of hd.tp) (by omega) ?_ ?_
    · rintro n x r H' N Y dx hr s hN hY
      obtain ⟨y, rfl, hy⟩ := dp_row dx
      refine ⟨rfl, _, rfl, _, _, _, _, rfl, rfl, s.tup hy, atI_nat (j := 0) rfl, _, rfl, rfl, _, rfl, ?_⟩
      refine ite2 (fun c => ?_) (fun c => ?_)
      · have c : r.1 = z := by have := of_decide_eq_true c; injection this
        exact ⟨_, rfl, hY _ (Same.refl _) (decide_eq_true c)⟩
      · exact hN _ (Same.refl _) (decide_eq_false fun q => c (decide_eq_true (by rw [q])))
    · rintro H' s h
      refine k H' D s hD ?_
      rw [h, partsOf, List.map_map]
      rfl
theorem sc_down_row : FnScope ["document", "question", "table", "step", "needs", "lower", "parts", "part", "need"] ["document", "question", "table", "step"] (defScope st_down_row) := ⟨rfl, rfl, rfl, by decide +kernel, rfl, by decide +kernel, by decide +kernel⟩
theorem ok_down_row {f : Addr} {fd : FuncData} (T : Txt K mg) (F : FnP K "down_row" "down_row" st_down_row f fd) (G_Question_lowers_of : Mt P w K mg base CX0 4 (He.ga K "Question") "lowers_of" ["self", "step"] (sp_Question_lowers_of K)) (G_with_beneath : Fn P w K mg base CX0 5 "with_beneath" ["document", "parts", "way"] (sp_with_beneath K)) (G_Straight_way : Mt P w K mg base CX0 1 (He.ga K "Straight") "way" ["self"] (sp_Straight_way K)) (G_Anywhere_way : Mt P w K mg base CX0 1 (He.ga K "Anywhere") "way" ["self"] (sp_Anywhere_way K)) (G_Question_step_at : Mt P w K mg base CX0 4 (He.ga K "Question") "step_at" ["self", "step"] (sp_Question_step_at K)) (G_Document_parts_of : Mt P w K mg base CX0 1 (He.ga K "Document") "parts_of" ["self", "label"] (sp_Document_parts_of K)) : FnOk P w K mg base CX0 6 f fd ["document", "question", "table", "step"] (sp_down_row K) := by
  refine F.ok sc_down_row (fun vs H Q E h => ?_) (fun cdv A outer s H vs Q E hr h => ?_)
  · obtain ⟨d, q, t, dr, qr, g, s, tv, Tt, rfl, _⟩ := h
    rfl
  · obtain ⟨d, q, t, dr, qr, g, s, tv, Tt, rfl, hd, hq, ht, tp, hTl, hT, hs, k⟩ := h
    refine ⟨_, PSs.nox (pss_cons (ps_set (i := 4) sc_down_row.nd rfl (Or.inr rfl) (pe_lst pa_nil))
      (pss_cons (ps_for PassesOwn.never rfl (pi_list (pe_methF (pv 1) G_Question_lowers_of (hr.mono (by decide)) pass0 (pa_cons (pv 3) pa_nil))) (pg_name (i := 5) sc_down_row.nd rfl (Or.inl rfl))
      (pss_one (ps_expr (pe_bm PySem.F.plainAttrs_list PySem.F.slot_list_append PySem.F.type_list_append mt_append (pv 4) (pa_cons (pe_callF G_with_beneath (hr.mono (by decide)) pass0 (pa_cons (pv 0) (pa_cons (pe_ix ix_list (pv 2) (pv 5) (fun _ _ => rfl)) (pa_cons (pe_methW0 (R := rWay _) (pe_methF (pv 1) G_Question_step_at (hr.mono (by decide)) pass0 (pa_cons (pv 5) pa_nil)) G_Straight_way G_Anywhere_way (hr.mono (by decide)) (hr.mono (by decide)) pass0 pass0 (fun _ _ _ h => rWay_ok h)) pa_nil)))) pa_nil)))))
      (pss_cons (ps_set (i := 6) sc_down_row.nd rfl (Or.inl rfl) (pe_methF (pv 0) G_Document_parts_of (hr.mono (by decide)) pass0 (pa_cons (pe_fld (pe_methF (pv 1) G_Question_step_at (hr.mono (by decide)) pass0 (pa_cons (pv 3) pa_nil)) rfl) pa_nil)))
      (pss_one (ps_ret (pe_lc (own := [("part", 7)]) (g := gName 7) (tt := (tB (tCB (rAll K) (tCons (tLc (iList K (tVar 4)) (gName 8) tYes (tDIn (tVar 7) (tVar 8)) [8]) tNil)))) rfl sc_down_row.nd (pi_list (pv 6)) (blkOk_by (own := [("part", 7)]) (N := ["document", "question", "table", "step", "needs", "lower", "parts", "part", "need"]) (sc := defScope st_down_row) (by decide +kernel)) (fun _ _ _ _ _ => (pg_name (i := 7) sc_down_row.nd rfl (Or.inr rfl))) (fun _ _ _ _ _ => (pts_one (pt_val (pe_callB (cr_all rfl) rfl T.free_all (by decide +kernel) (pa_cons (pe_lc (own := [("need", 8)]) (g := gName 8) rfl sc_down_row.nd (pi_list (pv 4)) (by refine blkOk_by (own := [("need", 8)]) (N := ["document", "question", "table", "step", "needs", "lower", "parts", "part", "need"]) (sc := { kind := .function, names := [(".0", .local), ("part", .cell), ("all", .globalImplicit), ("needs", .cell)], isGenerator := false, isCoroutine := false }) ?_; decide +kernel) (fun _ _ _ _ _ => (pg_name (i := 8) sc_down_row.nd rfl (Or.inl rfl))) (fun _ _ _ _ _ => pts_nil) (fun _ _ _ _ _ => (pe_cmp (pc_din (hu_of hr) (pv 7) (pv 8)) rfl))) pa_nil))))) (fun _ _ _ _ _ => (pv 7)))))))), ?_⟩
    have hmost := hd.ok.most
    have hqmost := hq.ok.most
    refine ⟨Nat.zero_le _, ?_⟩
    intro nd n1
    generalize e_H1 : upd _ nd _ = H1
    obtain ⟨s1, h1⟩ := al e_H1 n1
    have hq1 := hq.same s1
    refine ⟨_, rfl, qu_m hq1 (by decide) (by decide) (by decide) (by decide) (by decide) ⟨_, rfl, q, qr, g, s, rfl, hq1, hs, fun H2 la ls s2 nla hla low => ?_⟩⟩
    have h12 := s2 _ _ h1
    have s02 := s1.trans s2
    have hlen : ls.length ≤ 100 := Nat.le_trans (up_len low.up (n := qr.length) fun n hn => by have := ((low.mem n).mp hn).1.2.1; rw [qds_len] at this; exact this) hqmost
    have nln : la ≠ nd := fun z => by rw [z, h1] at nla; cases nla
    refine ⟨la, rfl, ⟨_, SqL.of hla⟩, for_list (K := K) (a := la) (xs := ls.map vN) (fun i σ H' => ∃ (v5 : Option V) (ns : List V), σ = [some (.ref d), some (.ref q), some (.ref t), some (.int s), some (.ref nd), v5, none, none, none] ∧ Same H H' ∧ H' la = some (.lst (ls.map vN)) ∧ H' nd = some (.lst ns) ∧ Paired (fun v l => ∃ p kv, v = .ref p ∧ H' p = some (.dK kv) ∧ ∀ sl, qr[l]? = some sl → Ks kv (Hav (dps dr) (wB sl.1) (Tt.getD l []))) ns (ls.take i)) ?_ (fun i σ H' _ ⟨_, _, _, _, hb, _⟩ => SqL.of hb) ?_ ?_⟩
    · exact ⟨none, [], rfl, s02, hla, h12, .nil⟩
    · rintro i x σ H3 hi ⟨v5, ns, rfl, s3, hla3, hnd3, hns⟩
      obtain ⟨l, hll, rfl⟩ : ∃ l, ls[i]? = some l ∧ x = vN l := by
        rw [List.getElem?_map] at hi
        cases e : ls[i]? with
        | none => rw [e] at hi; cases hi
        | some d => rw [e] at hi; exact ⟨d, rfl, (Option.some.inj hi).symm⟩
      have hil : i < ls.length := (List.getElem?_eq_some_iff.mp hll).1
      have hpar := (low.mem l).mp (List.mem_of_getElem? hll)
      have hlq : l < qr.length := by have := hpar.1.2.1; rw [qds_len] at this; exact this
      have hlT : l < Tt.length := by omega
      obtain ⟨v, hv, ra, rfl, hra⟩ := tp.get' (List.getElem?_eq_getElem hlT)
      have hq3 := hq.same s3
      have hd3 := hd.same s3
      have hrl := hT _ (List.getElem_mem hlT)
      refine ⟨_, rfl, .inl ⟨rfl, _, SqL.of hnd3⟩, _, rfl, _, rfl, _, rfl, _, _, _, _, rfl, rfl, s3.seq ht, atI_nat hv, _, rfl, qu_m hq3 (by decide) (by decide) (by decide) (by decide) (by decide) ⟨_, rfl, q, qr, g, l, qr[l], rfl, hq3, List.getElem?_eq_getElem hlq, fun sp st => ?_⟩⟩
      refine ⟨sp, _, _, rfl, st, ?_⟩
      refine ⟨d, ra, qr[l].1, dr, Tt[l], rfl, hq.ok.way _ (List.getElem_mem hlq), hd3, SqL.of (s3 _ _ hra), hrl.2, hrl.1, fun H4 p kv s4 np h4 hks => ?_⟩
      have hnd4 := s4 _ _ hnd3
      have hnl : ns.length ≤ 100 := by rw [hns.length, List.length_take]; omega
      have hpn : p ≠ nd := fun z => by rw [z, hnd3] at np; cases np
      refine ⟨nd, ns, _, rfl, rfl, hnd4, szl (by omega), _, ns ++ [.ref p], rfl, (s3.trans s4).mut n1, (upd_ne nln).trans (s4 _ _ hla3), upd_same, ?_⟩
      rw [take_snoc hll]
      refine Paired.app (hns.imp ?_) (.cons ⟨p, kv, rfl, (upd_ne hpn).trans h4, fun sl hsl => ?_⟩ .nil)
      · rintro v l ⟨p', kv', rfl, h', k'⟩
        exact ⟨p', kv', rfl, (upd_ne (ne_of (s4 _ _ h') hnd4 (fun z => nomatch z))).trans (s4 _ _ h'), k'⟩
      · rw [List.getElem?_eq_getElem hlq] at hsl
        cases hsl
        rw [List.getD_eq_getElem?_getD, List.getElem?_eq_getElem hlT]
        exact hks
    · rintro σ H3 ⟨v5, ns, rfl, s3, hla3, hnd3, hns⟩
      rw [List.length_map, List.take_of_length_le (Nat.le_refl _)] at hns
      have hq3 := hq.same s3
      have hd3 := hd.same s3
      refine ⟨_, rfl, doc_m hd3 (by decide) (by decide) (by decide) ⟨_, rfl, qu_m hq3 (by decide) (by decide) (by decide) (by decide) (by decide) ⟨_, rfl, q, qr, g, s, qr[s], rfl, hq3, List.getElem?_eq_getElem hs, fun sp st => ?_⟩⟩⟩
      refine lab_call st T.cl_Straight T.na_Straight_label T.cl_Anywhere T.na_Anywhere_label ?_
      refine ⟨d, dr, qr[s].2.1, rfl, hd3, fun H4 pa s4 npa h4 => ?_⟩
      have hpl := up_len (partsOf_up dr qr[s].2.1) fun n hn => partsOf_lt hn
      have hnd4 := s4 _ _ hnd3
      have s04 := s3.trans s4
      refine ⟨_, rfl, pa, rfl, ⟨_, SqL.of h4⟩, fun D hD => ?_⟩
      have allB : Nat → Bool := fun p => true
      obtain ⟨bs, hbs⟩ : ∃ bs : Nat → Nat → Bool, ∀ p l sl, qr[l]? = some sl → (bs p l = true ↔ Hav (dps dr) (wB sl.1) (Tt.getD l []) p) := by
        classical
        exact ⟨fun p l => decide (∀ sl, qr[l]? = some sl → Hav (dps dr) (wB sl.1) (Tt.getD l []) p), fun p l sl h => by
          rw [decide_eq_true_iff]
          exact ⟨fun z => z sl h, fun z sl' h' => by rw [h] at h'; cases h'; exact z⟩⟩
      refine lc_keepL (K := K) (xs := (partsOf dr qr[s].2.1).map vN) (zs := partsOf dr qr[s].2.1) (F := fun v n => v = vN n) (fun p => ls.all (bs p)) vN (paired_vN _) hD (SqL.of h4) (by omega) ?_ ?_
      · rintro x z H' N Y rfl hz s' hN hY
        refine ⟨rfl, _, rfl, nd, rfl, ⟨_, SqL.of (s' _ _ hnd4)⟩, fun D2 hD2 => ?_⟩
        refine lc_keepL (K := K) (xs := ns) (zs := ls) (fun _ => true) (fun l => .bl (bs z l)) hns hD2 (SqL.of (s' _ _ hnd4)) (by omega) ?_ ?_
        · rintro x l H'' N' Y' ⟨p, kv, rfl, hkv, hks⟩ hl s'' _ hY'
          have hlq : l < qr.length := by have := ((low.mem l).mp hl).1.2.1; rw [qds_len] at this; exact this
          have hkv' := s'' _ _ (s' _ _ (s4 _ _ hkv))
          refine ⟨rfl, _, rfl, _, rfl, p, _, rfl, DGet.k (k := Sum.inl (z : Int)) hkv', ?_⟩
          have e : (valV kv (Sum.inl (z : Int))).isSome = bs z l := by
            have h1 := (hks _ (List.getElem?_eq_getElem hlq)).at_ z
            have h2 := hbs z l _ (List.getElem?_eq_getElem hlq)
            rw [← h2] at h1
            exact Bool.eq_iff_iff.mpr h1
          rw [e]
          exact hY' _ (Same.refl _) rfl
        rintro H'' s'' h''
        rw [filter_yes, show ls.map (fun l => V.bl (bs z l)) = (ls.map (bs z)).map V.bl by rw [List.map_map]; rfl] at h''
        refine ⟨_, _, rfl, SqL.of h'', _, rfl, ?_⟩
        rw [all_map_id]
        refine ite2 (fun c => ?_) (fun c => ?_)
        · exact ⟨_, rfl, hY _ s'' c⟩
        · exact hN _ s'' (by simpa using c)
      · rintro H' s' h'
        refine k H' D _ (s04.trans s') (s04.free hD) h' ⟨(partsOf_up _ _).filter _, fun p => ?_⟩
        rw [List.mem_filter, partsOf_mem, List.all_eq_true]
        constructor
        · rintro ⟨⟨r, h1, h2⟩, h3⟩
          refine ⟨⟨r, _, h1, List.getElem?_eq_getElem hs, h2⟩, fun l sl hp hl => ?_⟩
          exact (hbs p l sl hl).mp (h3 l ((low.mem l).mpr hp))
        · rintro ⟨⟨r, sr, h1, h2, h3⟩, h4⟩
          rw [List.getElem?_eq_getElem hs] at h2
          cases h2
          refine ⟨⟨r, h1, h3⟩, fun l hl => ?_⟩
          have hp := (low.mem l).mp hl
          have hlq : l < qr.length := by have := hp.1.2.1; rw [qds_len] at this; exact this
          exact (hbs p l _ (List.getElem?_eq_getElem hlq)).mpr (h4 l _ hp (List.getElem?_eq_getElem hlq))
theorem sc_down_table : FnScope ["document", "question", "table", "step"] ["document", "question"] (defScope st_down_table) := ⟨rfl, rfl, rfl, by decide +kernel, rfl, by decide +kernel, by decide +kernel⟩
theorem ok_down_table {f : Addr} {fd : FuncData} (T : Txt K mg) (F : FnP K "down_table" "down_table" st_down_table f fd) (G_Question_many : Mt P w K mg base CX0 1 (He.ga K "Question") "many" ["self"] (sp_Question_many K)) (G_down_row : Fn P w K mg base CX0 6 "down_row" ["document", "question", "table", "step"] (sp_down_row K)) : FnOk P w K mg base CX0 7 f fd ["document", "question"] (sp_down_table K) := by
  refine F.ok sc_down_table (fun vs H Q E h => ?_) (fun cdv A outer s H vs Q E hr h => ?_)
  · obtain ⟨d, q, dr, qr, g, rfl, _⟩ := h
    rfl
  · obtain ⟨d, q, dr, qr, g, rfl, hd, hq, k⟩ := h
    refine ⟨_, PSs.nox (pss_cons (ps_setLc (i := 2) (own := [("step", 3)]) (g := gName 3) rfl sc_down_table.nd rfl rfl (sw_true rfl rfl rfl (by decide +kernel)) (pi_range1 rfl T.free_range (pa_cons (pe_methF0 (pv 1) G_Question_many (hr.mono (by decide)) pass0) pa_nil)) (blkOk_by (own := [("step", 3)]) (N := ["document", "question", "table", "step"]) (sc := defScope st_down_table) (by decide +kernel)) (fun _ _ _ _ _ => (pg_name (i := 3) sc_down_table.nd rfl (Or.inl rfl))) (fun _ _ _ _ _ => pts_nil) (fun _ _ _ _ _ => (pe_lst pa_nil)))
      (pss_cons (ps_for PassesOwn.never rfl (pi_revR rfl T.free_reversed (prg_1 rfl T.free_range (pe_methF0 (pv 1) G_Question_many (hr.mono (by decide)) pass0))) (pg_name (i := 3) sc_down_table.nd rfl (Or.inl rfl))
      (pss_one (ps_asg (pe_callF G_down_row (hr.mono (by decide)) pass0 (pa_cons (pv 0) (pa_cons (pv 1) (pa_cons (pv 2) (pa_cons (pv 3) pa_nil))))) (pg_sub (pv 2) (pv 3) set_list))))
      (pss_one (ps_ret (pv 2))))), ?_⟩
    have hmost := hd.ok.most
    have hqmost := hq.ok.most
    refine ⟨_, rfl, qu_m hq (by decide) (by decide) (by decide) (by decide) (by decide) ⟨q, qr, g, rfl, hq, _, rfl, by omega, by omega, fun D hD => ?_⟩⟩
    obtain ⟨s0, hD0⟩ := al (H1 := upd H D (.lst [])) rfl hD
    refine lc_range (lo := 0) (n := ((qr.length : Nat) : Int).toNat) (fun i H' => But D (upd H D (.lst [])) H' ∧ ∃ vs, H' D = some (.lst vs) ∧ TabF (upd H D (.lst [])) H' vs (List.replicate i [])) ⟨But.refl _ _, [], hD0, .nil⟩ ?_ ?_
    · rintro i H' hi ⟨s, vs, hv, tf⟩
      refine ⟨rfl, Nat.zero_le _, ?_⟩
      intro b nb
      have hbD : b ≠ D := fun z => by rw [z, hv] at nb; cases nb
      have nb0 : upd H D (.lst []) b = none := s.free hbD nb
      have sb : Same H' (upd H' b (.lst [])) := L2.Same.new nb
      refine ⟨vs, sb _ _ hv, szl ?_, (s.trans (But.of_same sb)).upd', vs ++ [.ref b], upd_same, ?_⟩
      · rw [tf.length, List.length_replicate]; omega
      · rw [List.replicate_succ']
        refine Paired.app ((tf.same sb).upd hD0) (.cons ⟨b, rfl, nb0, ?_⟩ .nil)
        rw [upd_ne hbD]
        exact upd_same
    · rintro H3 ⟨s3, vs, hv, tf⟩
      have hq3 := hq.same (same_of_but s0 hD s3)
      refine ⟨_, rfl, qu_m hq3 (by decide) (by decide) (by decide) (by decide) (by decide) ⟨q, qr, g, rfl, hq3, _, rfl, by omega, by omega, by omega, by omega, for_rangeC (fun i σ H' => ∃ (v3 : Option V) (vs : List V) (Tt : List (List Nat)), σ = [some (.ref d), some (.ref q), some (.ref D), v3] ∧ But D (upd H D (.lst [])) H' ∧ H' D = some (.lst vs) ∧ TabF (upd H D (.lst [])) H' vs Tt ∧ DownT dr qr (qr.length - i) Tt ∧ ∀ row ∈ Tt, row.length ≤ 1000 ∧ ∀ p ∈ row, p < dr.length) ?_ ?_ ?_⟩⟩
      · refine ⟨_, vs, _, rfl, s3, hv, tf, ⟨by simp, fun s row h1 h2 => ?_⟩, fun row h => ?_⟩
        · have := (List.getElem?_eq_some_iff.mp h2).1
          simp at this
          omega
        · rw [List.eq_of_mem_replicate h]
          exact ⟨Nat.zero_le _, fun p hp => nomatch hp⟩
      · rintro i σ H4 hi ⟨v3, vs, Tt, rfl, s4, hv4, tf4, dt, hb⟩
        have hi : i < qr.length := by omega
        have s04 := same_of_but s0 hD s4
        have hd4 := hd.same s04
        have hq4 := hq.same s04
        have es : ((0 : Int) + ((((qr.length : Nat) : Int) - 0).toNat : Int) - 1 + ((i : Nat) : Int) * -1) = ((qr.length - 1 - i : Nat) : Int) := by omega
        have hst : qr.length - 1 - i < qr.length := by omega
        have hsu : qr.length - i = qr.length - 1 - i + 1 := by omega
        have hsv : qr.length - (i + 1) = qr.length - 1 - i := by omega
        rw [es]
        rw [hsu] at dt
        rw [hsv]
        generalize qr.length - 1 - i = st at hst dt
        refine ⟨_, rfl, _, rfl, _, rfl, _, rfl, d, q, D, dr, qr, g, st, vs, Tt, rfl, hd4, hq4, SqL.of hv4, tf4.tab, dt.len, hb, hst, fun H5 p row s5 np h5 drow => ?_⟩
        have hv5 := s5 _ _ hv4
        have hpD : p ≠ D := fun z => by rw [z, hv4] at np; cases np
        have hvl : vs.length = qr.length := tf4.length.trans dt.len
        refine ⟨_, rfl, _, rfl, D, _, _, st, rfl, rfl, hv5, ?_, ?_⟩
        · unfold ixN
          rw [if_pos (by omega), if_pos (by omega), Int.toNat_natCast]
        refine ⟨_, vs.set st (.ref p), Tt.set st row, rfl, (s4.trans (But.of_same s5)).upd', upd_same, ?_, dt.step hst drow, fun r hr => ?_⟩
        · refine Paired.set ⟨p, rfl, s4.free hpD np, ?_⟩ st ((tf4.same s5).upd hD0)
          rw [upd_ne hpD]
          exact h5
        · rcases List.mem_or_eq_of_mem_set hr with h | h
          · exact hb r h
          · rw [h]
            exact ⟨Nat.le_trans (up_len drow.up fun n hn => drow.lt hn) (by omega), fun n hn => drow.lt hn⟩
      · rintro σ H4 ⟨v3, vs, Tt, rfl, s4, hv4, tf4, dt, hb⟩
        rw [show qr.length - (((qr.length : Nat) : Int) - 0).toNat = 0 by omega] at dt
        exact ⟨_, rfl, k H4 D vs Tt (same_of_but s0 hD s4) hD hv4 (tf4.back s0) dt⟩
theorem sc_Question_upper_of : FnScope ["self", "step"] ["self", "step"] (defScope st_Question_upper_of) := ⟨rfl, rfl, rfl, by decide +kernel, rfl, by decide +kernel, by decide +kernel⟩
theorem ok_Question_upper_of {f : Addr} {fd : FuncData} (T : Txt K mg) (F : FnP K "upper_of" "Question.upper_of" st_Question_upper_of f fd) (G_Question_need_step : Mt P w K mg base CX0 3 (He.ga K "Question") "need_step" ["self", "step"] (sp_Question_need_step K)) : FnOk P w K mg base CX0 4 f fd ["self", "step"] (sp_Question_upper_of K) := by
  refine F.ok sc_Question_upper_of (fun vs H Q E h => ?_) (fun cdv A outer s H vs Q E hr h => ?_)
  · obtain ⟨a, rows, g, k, rfl, _⟩ := h
    rfl
  · obtain ⟨a, rows, g, p, rfl, hd, hp, k⟩ := h
    refine ⟨_, PSs.nox (pss_cons (ps_expr (pe_methF (pv 0) G_Question_need_step (hr.mono (by decide)) pass0 (pa_cons (pv 1) pa_nil)))
      (pss_one (ps_ret (pe_ix ix_list (pe_fld (pv 0) rfl) (pv 1) (fun _ _ => rfl))))), ?_⟩
    have hd0 := hd
    obtain ⟨dx, t, sa, e, u, tv, sv, es, us, hd⟩ := hd
    obtain ⟨o, hn, he⟩ := hd.up_at hp
    refine ⟨_, rfl, a, _, _, rfl, hd.ob, no_q t g sa e u (by decide) (by decide) (by decide) (by decide) (by decide), _, rfl, a, rows, g, p, rfl, hd0, hp, ?_⟩
    exact ⟨_, rfl, _, _, _, _, _, rfl, hd.ob, T.cl_Question, T.na_Question_uppers, quF_uppers t g sa e u, _, rfl, _, _, _, _, rfl, rfl, SqL.of hd.up, atI_nat hn, k o he⟩
theorem sc_Document_lowers_of : FnScope ["self", "part", "other"] ["self", "part"] (defScope st_Document_lowers_of) := ⟨rfl, rfl, rfl, by decide +kernel, rfl, by decide +kernel, by decide +kernel⟩
theorem ok_Document_lowers_of {f : Addr} {fd : FuncData} (T : Txt K mg) (F : FnP K "lowers_of" "Document.lowers_of" st_Document_lowers_of f fd) (G_Document_need_part : Mt P w K mg base CX0 3 (He.ga K "Document") "need_part" ["self", "part"] (sp_Document_need_part K)) : FnOk P w K mg base CX0 4 f fd ["self", "part"] (sp_Document_lowers_of K) := by
  refine F.ok sc_Document_lowers_of (fun vs H Q E h => ?_) (fun cdv A outer s H vs Q E hr h => ?_)
  · obtain ⟨a, rows, k, rfl, _⟩ := h
    rfl
  · obtain ⟨a, rows, p, rfl, hd, hp, k⟩ := h
    refine ⟨_, PSs.nox (pss_cons (ps_expr (pe_methF (pv 0) G_Document_need_part (hr.mono (by decide)) pass0 (pa_cons (pv 1) pa_nil)))
      (pss_one (ps_ret (pe_lc (own := [("other", 2)]) (g := gName 2) (tt := (tTest (tOp _ (tOp (rIxL K) (tFld K (tVar 0) "uppers") (tVar 2)) (tVar 1)))) rfl sc_Document_lowers_of.nd (pi_range2 rfl T.free_range (pa_cons (pe_op op_add (pv 1) pe_int) (pa_cons (pe_op op_add (pe_ix ix_list (pe_fld (pv 0) rfl) (pv 1) (fun _ _ => rfl)) pe_int) pa_nil))) (blkOk_by (own := [("other", 2)]) (N := ["self", "part", "other"]) (sc := defScope st_Document_lowers_of) (by decide +kernel)) (fun _ _ _ _ _ => (pg_name (i := 2) sc_Document_lowers_of.nd rfl (Or.inl rfl))) (fun _ _ _ _ _ => (pts_one (pt_cmpR op_eq (pe_ix ix_list (pe_fld (pv 0) rfl) (pv 2) (fun _ _ => rfl)) (pv 1) (nomark _)))) (fun _ _ _ _ _ => (pv 2)))))), ?_⟩
    have hd0 := hd
    obtain ⟨dx, t, e, u, tv, es, us, hd⟩ := hd
    obtain ⟨n, hn, he⟩ := hd.end_at hp
    refine ⟨_, rfl, a, _, _, rfl, hd.ob, no_many t e u (by decide) (by decide) (by decide), _, rfl, a, rows, p, rfl, hd0, hp, ?_⟩
    obtain ⟨ls, hls, heq⟩ := lows_of hd.uo he
    have hnl : n < rows.length := by have := he.lt; rw [dps_len] at this; exact this
    have hmost := hd.ok.most
    refine ⟨_, rfl, _, _, rfl, rfl, _, rfl, _, _, _, _, _, rfl, hd.ob, T.cl_Document, T.na_Document_ends, docF_ends t e u, _, rfl, _, _, _, _, rfl, rfl, SqL.of hd.en, atI_nat hn, _, _, rfl, rfl, _, _, rfl, ⟨by omega, by omega, by omega, by omega⟩, fun D hD => ?_⟩
    refine lc_keepR (fun o => decide (us[o.toNat]? = some (some (p : Int)))) (fun o => .int o) hD (by omega) ?_ ?_
    · rintro i H' N Y hi s hN hY
      have hil : p + 1 + i < us.length := by rw [hd.uo.len, dps_len]; omega
      have hi2 : ((p : Int) + 1 + (i : Int)) = ((p + 1 + i : Nat) : Int) := by omega
      have hd' := hd.same s
      refine ⟨rfl, _, rfl, _, _, _, _, _, rfl, hd'.ob, T.cl_Document, T.na_Document_uppers, docF_uppers t e u, _, rfl, _, _, _, _, rfl, rfl, SqL.of hd'.up, by rw [hi2]; exact atI_nat (v := vOpt us[p + 1 + i]) (by rw [List.getElem?_map, List.getElem?_eq_getElem hil]; rfl), _, rfl, by cases us[p + 1 + i] <;> rfl, _, rfl, ?_⟩
      have e1 : (us[((p : Int) + 1 + (i : Int)).toNat]? = some (some (p : Int))) ↔ vOpt us[p + 1 + i] = V.int (p : Int) := by
        rw [show ((p : Int) + 1 + (i : Int)).toNat = p + 1 + i by omega, List.getElem?_eq_getElem hil]
        cases us[p + 1 + i] with
        | none => simp [vOpt]
        | some x => simp [vOpt]
      refine ite2 (fun c => ?_) (fun c => ?_)
      · exact ⟨_, rfl, hY _ (Same.refl _) (decide_eq_true (e1.mpr (of_decide_eq_true c)))⟩
      · exact hN _ (Same.refl _) (decide_eq_false fun z => c (decide_eq_true (e1.mp z)))
    · rintro H' s h
      rw [heq] at h
      exact k H' D ls s hD h hls
theorem sc_Document_end_of : FnScope ["self", "part"] ["self", "part"] (defScope st_Document_end_of) := ⟨rfl, rfl, rfl, by decide +kernel, rfl, by decide +kernel, by decide +kernel⟩
theorem ok_Document_end_of {f : Addr} {fd : FuncData} (T : Txt K mg) (F : FnP K "end_of" "Document.end_of" st_Document_end_of f fd) (G_Document_need_part : Mt P w K mg base CX0 3 (He.ga K "Document") "need_part" ["self", "part"] (sp_Document_need_part K)) : FnOk P w K mg base CX0 4 f fd ["self", "part"] (sp_Document_end_of K) := by
  refine F.ok sc_Document_end_of (fun vs H Q E h => ?_) (fun cdv A outer s H vs Q E hr h => ?_)
  · obtain ⟨a, rows, k, rfl, _⟩ := h
    rfl
  · obtain ⟨a, rows, p, rfl, hd, hp, k⟩ := h
    refine ⟨_, PSs.nox (pss_cons (ps_expr (pe_methF (pv 0) G_Document_need_part (hr.mono (by decide)) pass0 (pa_cons (pv 1) pa_nil)))
      (pss_one (ps_ret (pe_ix ix_list (pe_fld (pv 0) rfl) (pv 1) (fun _ _ => rfl))))), ?_⟩
    have hd0 := hd
    obtain ⟨dx, t, e, u, tv, es, us, hd⟩ := hd
    obtain ⟨n, hn, he⟩ := hd.end_at hp
    refine ⟨_, rfl, a, _, _, rfl, hd.ob, no_many t e u (by decide) (by decide) (by decide), _, rfl, a, rows, p, rfl, hd0, hp, ?_⟩
    exact ⟨_, rfl, _, _, _, _, _, rfl, hd.ob, T.cl_Document, T.na_Document_ends, docF_ends t e u, _, rfl, _, _, _, _, rfl, rfl, SqL.of hd.en, atI_nat hn, k n he⟩
theorem sc_with_above : FnScope ["document", "parts", "way", "found", "part", "beneath", "lower"] ["document", "parts", "way"] (defScope st_with_above) := ⟨rfl, rfl, rfl, by decide +kernel, rfl, by decide +kernel, by decide +kernel⟩
theorem ok_with_above {f : Addr} {fd : FuncData} (T : Txt K mg) (F : FnP K "with_above" "with_above" st_with_above f fd) (G_Document_lowers_of : Mt P w K mg base CX0 4 (He.ga K "Document") "lowers_of" ["self", "part"] (sp_Document_lowers_of K)) (G_Document_end_of : Mt P w K mg base CX0 4 (He.ga K "Document") "end_of" ["self", "part"] (sp_Document_end_of K)) : FnOk P w K mg base CX0 5 f fd ["document", "parts", "way"] (sp_with_above K) := by
  refine F.ok sc_with_above (fun vs H Q E h => ?_) (fun cdv A outer s H vs Q E hr h => ?_)
  · obtain ⟨d, l, w, dr, ps, rfl, _⟩ := h
    rfl
  · obtain ⟨d, l, w, dr, ps, rfl, hw, hd, hl, hps, hpl, k⟩ := h
    refine ⟨_, PSs.nox (pss_cons (ps_set (i := 3) sc_with_above.nd rfl (Or.inl rfl) pe_dnewK)
      (pss_cons (ps_for PassesOwn.never rfl (pi_list (pv 1)) (pg_name (i := 4) sc_with_above.nd rfl (Or.inl rfl))
      (pss_cons (ps_set (i := 5) sc_with_above.nd rfl (Or.inl rfl) (pe_lst pa_nil))
      (pss_cons (ps_if (pt_cmpR op_eq (pv 2) pe_str (nomark _))
      (pss_one (ps_set (i := 5) sc_with_above.nd rfl (Or.inl rfl) (pe_methF (pv 0) G_Document_lowers_of (hr.mono (by decide)) pass0 (pa_cons (pv 4) pa_nil))))
      (pss_one (ps_if (pt_cmp (pc_dnotin (hu_of hr) (pv 4) (pv 3)))
      (pss_one (ps_set (i := 5) sc_with_above.nd rfl (Or.inl rfl) (pe_listRg rfl rfl T.free_list (prg_2 rfl T.free_range (pe_op op_add (pv 4) pe_int) (pe_op op_add (pe_methF (pv 0) G_Document_end_of (hr.mono (by decide)) pass0 (pa_cons (pv 4) pa_nil)) pe_int)))))
      pss_nil)))
      (pss_one (ps_for PassesOwn.never rfl (pi_list (pv 5)) (pg_name (i := 6) sc_with_above.nd rfl (Or.inl rfl))
      (pss_one (ps_dput (hu_of hr) (pv 3) (pv 6) pe_bl rfl)))))))
      (pss_one (ps_ret (pv 3))))), ?_⟩
    intro p n1
    generalize e_H1 : upd _ p _ = H1
    obtain ⟨s1, h1⟩ := al e_H1 n1
    have hmost := hd.ok.most
    refine ⟨_, rfl, l, rfl, ⟨_, s1.seq hl⟩, for_list (K := K) (a := l) (xs := ps.map vN) (fun i σ H' => ∃ (kv : List (Key × V)) (v4 v5 v6 : Option V), σ = [some (.ref d), some (.ref l), some (.str w), some (.ref p), v4, v5, v6] ∧ Same H H' ∧ H' p = some (.dK kv) ∧ Ks kv (Abv (dps dr) (wB w) (ps.take i)) ∧ kv.length ≤ i * 1000) ?_ (fun i σ H' _ ⟨_, _, _, _, _, s, _⟩ => s.seq hl) ?_ ?_⟩
    · exact ⟨[], none, none, none, rfl, s1, h1, Ks.nil.iff fun n => ⟨fun z => z.elim, fun z => (abv_nil z).elim⟩, Nat.zero_le _⟩
    · rintro i x σ H3 hi ⟨kv, v4, v5, v6, rfl, s3, hp, hks, hkl⟩
      obtain ⟨q, hq, rfl⟩ : ∃ q, ps[i]? = some q ∧ x = vN q := by
        rw [List.getElem?_map] at hi
        cases e : ps[i]? with
        | none => rw [e] at hi; cases hi
        | some d => rw [e] at hi; exact ⟨d, rfl, (Option.some.inj hi).symm⟩
      have hqm := List.mem_of_getElem? hq
      have hqd := hps q hqm
      have hil : i < ps.length := (List.getElem?_eq_some_iff.mp hq).1
      have htk : ps.take (i + 1) = ps.take i ++ [q] := take_snoc hq
      refine ⟨Nat.zero_le _, ?_⟩
      intro b0 n4
      generalize e_H4 : upd _ b0 _ = H4
      obtain ⟨s4, h4⟩ := al e_H4 n4
      have hp4 := s4 _ _ hp
      have s04 := s3.trans s4
      have hd4 := hd.same s04
      refine ⟨_, rfl, rfl, _, rfl, ?_⟩
      refine ite2 (fun c => ?_) (fun c => ?_)
      · have c : w = "/" := by have := of_decide_eq_true c; injection this
        have hwb := wB_f c
        refine ⟨_, rfl, doc_m hd4 (by decide) (by decide) (by decide) ⟨_, rfl, d, dr, q, rfl, hd4, hqd, fun H5 bA ls s5 nb hB low => ?_⟩⟩
        have hpB := s5 _ _ hp4
        have sB := s04.trans s5
        have hll : ls.length ≤ 240 := Nat.le_trans (up_len low.up (n := dr.length) fun n hn => by have := ((low.mem n).mp hn).1.2.1; rw [dps_len] at this; exact this) hmost
        have hset : ∀ n, (Abv (dps dr) (wB w) (ps.take i) n ∨ n ∈ ls) ↔ Abv (dps dr) (wB w) (ps.take i ++ [q]) n := fun n => by
          rw [abv_snoc, low.mem, hwb]
          constructor
          · rintro (z | z)
            · exact .inl z
            · exact .inr ⟨z.1, .inr z.2⟩
          · rintro (z | z)
            · exact .inl z
            · exact .inr ⟨z.1, z.2.resolve_left (by decide)⟩
        refine ⟨_, rfl, bA, rfl, ⟨_, SqL.of hB⟩, for_list (K := K) (a := bA) (xs := ls.map vN) (fun j σ H' => ∃ (kv : List (Key × V)) (v6 : Option V), σ = [some (.ref d), some (.ref l), some (.str w), some (.ref p), some (vN q), some (.ref bA), v6] ∧ Same H H' ∧ H' bA = some (.lst (ls.map vN)) ∧ H' p = some (.dK kv) ∧ Ks kv (fun n => Abv (dps dr) (wB w) (ps.take i) n ∨ n ∈ ls.take j) ∧ kv.length ≤ i * 1000 + j) ?_ (fun j σ H' _ ⟨_, _, _, _, hb, _⟩ => SqL.of hb) ?_ ?_⟩
        · exact ⟨kv, _, rfl, sB, hB, hpB, hks.iff fun n => ⟨.inl, fun z => z.resolve_right fun y => by simp at y⟩, hkl⟩
        · rintro j x σ H7 hj ⟨kv7, v6, rfl, s7, hb7, hp7, hks7, hkl7⟩
          obtain ⟨r, hr7, rfl⟩ : ∃ r, ls[j]? = some r ∧ x = vN r := by
            rw [List.getElem?_map] at hj
            cases e : ls[j]? with
            | none => rw [e] at hj; cases hj
            | some d => rw [e] at hj; exact ⟨d, rfl, (Option.some.inj hj).symm⟩
          have hjl : j < ls.length := (List.getElem?_eq_some_iff.mp hr7).1
          refine ⟨_, rfl, _, rfl, p, _, rfl, DPut.k (k := Sum.inl (r : Int)) hp7 (szl (by omega)), ?_⟩
          generalize e_H8 : upd _ p _ = H8
          obtain ⟨b8, h8⟩ := ml e_H8
          have hpl := putK_le kv7 (Sum.inl (r : Int)) (.bl true)
          have nbp : bA ≠ p := ne_of hb7 hp7 (fun z => nomatch z)
          refine ⟨_, _, rfl, same_of_but s7 n1 b8, b8 _ _ nbp hb7, h8, (hks7.put r (.bl true)).iff fun n => ?_, by omega⟩
          rw [take_snoc hr7, List.mem_append, List.mem_singleton]
          constructor
          · rintro (z | z | z)
            · exact .inr (.inr z)
            · exact .inl z
            · exact .inr (.inl z)
          · rintro (z | z | z)
            · exact .inr (.inl z)
            · exact .inr (.inr z)
            · exact .inl z
        · rintro σ H7 ⟨kv7, v6, rfl, s7, hb7, hp7, hks7, hkl7⟩
          rw [List.length_map, List.take_of_length_le (Nat.le_refl _)] at hks7
          rw [List.length_map] at hkl7
          refine ⟨kv7, _, _, _, rfl, s7, hp7, hks7.iff fun n => ?_, by omega⟩
          rw [htk]
          exact hset n
      · have c : w = "//" := hw.resolve_left fun z => c (decide_eq_true (by rw [z]))
        have hwb := wB_t c
        refine ⟨_, rfl, _, rfl, p, _, rfl, DGet.k (k := Sum.inl (q : Int)) hp4, _, rfl, ?_⟩
        cases c : (valV kv (Sum.inl (q : Int))).isSome with
        | true =>
          have hB := h4
          have hpB := hp4
          have sB := s04
          have hin := (hks.at_ q).mp c
          obtain ⟨ls, els⟩ : ∃ ls : List Nat, ls = [] := ⟨[], rfl⟩
          have hset : ∀ n, (Abv (dps dr) (wB w) (ps.take i) n ∨ n ∈ ls) ↔ Abv (dps dr) (wB w) (ps.take i ++ [q]) n := fun n => by
            rw [hwb] at hin ⊢
            rw [abv_in hin, els]
            simp
          have hll : ls.length ≤ 240 := by rw [els]; exact Nat.zero_le _
          have hB : H4 b0 = some (.lst (ls.map vN)) := by rw [els]; exact h4
          refine iteF ?_
          refine ⟨_, rfl, b0, rfl, ⟨_, SqL.of hB⟩, for_list (K := K) (a := b0) (xs := ls.map vN) (fun j σ H' => ∃ (kv : List (Key × V)) (v6 : Option V), σ = [some (.ref d), some (.ref l), some (.str w), some (.ref p), some (vN q), some (.ref b0), v6] ∧ Same H H' ∧ H' b0 = some (.lst (ls.map vN)) ∧ H' p = some (.dK kv) ∧ Ks kv (fun n => Abv (dps dr) (wB w) (ps.take i) n ∨ n ∈ ls.take j) ∧ kv.length ≤ i * 1000 + j) ?_ (fun j σ H' _ ⟨_, _, _, _, hb, _⟩ => SqL.of hb) ?_ ?_⟩
          · exact ⟨kv, _, rfl, sB, hB, hpB, hks.iff fun n => ⟨.inl, fun z => z.resolve_right fun y => by simp at y⟩, hkl⟩
          · rintro j x σ H7 hj ⟨kv7, v6, rfl, s7, hb7, hp7, hks7, hkl7⟩
            obtain ⟨r, hr7, rfl⟩ : ∃ r, ls[j]? = some r ∧ x = vN r := by
              rw [List.getElem?_map] at hj
              cases e : ls[j]? with
              | none => rw [e] at hj; cases hj
              | some d => rw [e] at hj; exact ⟨d, rfl, (Option.some.inj hj).symm⟩
            have hjl : j < ls.length := (List.getElem?_eq_some_iff.mp hr7).1
            refine ⟨_, rfl, _, rfl, p, _, rfl, DPut.k (k := Sum.inl (r : Int)) hp7 (szl (by omega)), ?_⟩
            generalize e_H8 : upd _ p _ = H8
            obtain ⟨b8, h8⟩ := ml e_H8
            have hpl := putK_le kv7 (Sum.inl (r : Int)) (.bl true)
            have nbp : b0 ≠ p := ne_of hb7 hp7 (fun z => nomatch z)
            refine ⟨_, _, rfl, same_of_but s7 n1 b8, b8 _ _ nbp hb7, h8, (hks7.put r (.bl true)).iff fun n => ?_, by omega⟩
            rw [take_snoc hr7, List.mem_append, List.mem_singleton]
            constructor
            · rintro (z | z | z)
              · exact .inr (.inr z)
              · exact .inl z
              · exact .inr (.inl z)
            · rintro (z | z | z)
              · exact .inr (.inl z)
              · exact .inr (.inr z)
              · exact .inl z
          · rintro σ H7 ⟨kv7, v6, rfl, s7, hb7, hp7, hks7, hkl7⟩
            rw [List.length_map, List.take_of_length_le (Nat.le_refl _)] at hks7
            rw [List.length_map] at hkl7
            refine ⟨kv7, _, _, _, rfl, s7, hp7, hks7.iff fun n => ?_, by omega⟩
            rw [htk]
            exact hset n
        | false =>
          refine iteT ⟨_, rfl, _, _, rfl, rfl, _, rfl, doc_m hd4 (by decide) (by decide) (by decide) ⟨_, rfl, d, dr, q, rfl, hd4, hqd, fun e he => ?_⟩⟩
          have hel : e < dr.length := by have := he.lt; rw [dps_len] at this; exact this
          refine ⟨_, _, rfl, rfl, _, _, rfl, rfl, ⟨by omega, by omega, by omega, by omega, by omega⟩, ?_⟩
          obtain ⟨ls, els, hls, hlen⟩ := rg_nat q e
          rw [els]
          intro bA n5
          generalize e_H5 : upd _ bA _ = H5
          obtain ⟨s5, hB⟩ := al e_H5 n5
          have hpB := s5 _ _ hp4
          have sB := s04.trans s5
          have hll : ls.length ≤ 240 := by omega
          have hset : ∀ n, (Abv (dps dr) (wB w) (ps.take i) n ∨ n ∈ ls) ↔ Abv (dps dr) (wB w) (ps.take i ++ [q]) n := fun n => by
            rw [abv_snoc, hls, hwb, ← he.an]
            constructor
            · rintro (z | z)
              · exact .inl z
              · exact .inr ⟨z, .inl rfl⟩
            · rintro (z | z)
              · exact .inl z
              · exact .inr z.1
          refine ⟨_, rfl, bA, rfl, ⟨_, SqL.of hB⟩, for_list (K := K) (a := bA) (xs := ls.map vN) (fun j σ H' => ∃ (kv : List (Key × V)) (v6 : Option V), σ = [some (.ref d), some (.ref l), some (.str w), some (.ref p), some (vN q), some (.ref bA), v6] ∧ Same H H' ∧ H' bA = some (.lst (ls.map vN)) ∧ H' p = some (.dK kv) ∧ Ks kv (fun n => Abv (dps dr) (wB w) (ps.take i) n ∨ n ∈ ls.take j) ∧ kv.length ≤ i * 1000 + j) ?_ (fun j σ H' _ ⟨_, _, _, _, hb, _⟩ => SqL.of hb) ?_ ?_⟩
          · exact ⟨kv, _, rfl, sB, hB, hpB, hks.iff fun n => ⟨.inl, fun z => z.resolve_right fun y => by simp at y⟩, hkl⟩
          · rintro j x σ H7 hj ⟨kv7, v6, rfl, s7, hb7, hp7, hks7, hkl7⟩
            obtain ⟨r, hr7, rfl⟩ : ∃ r, ls[j]? = some r ∧ x = vN r := by
              rw [List.getElem?_map] at hj
              cases e : ls[j]? with
              | none => rw [e] at hj; cases hj
              | some d => rw [e] at hj; exact ⟨d, rfl, (Option.some.inj hj).symm⟩
            have hjl : j < ls.length := (List.getElem?_eq_some_iff.mp hr7).1
            refine ⟨_, rfl, _, rfl, p, _, rfl, DPut.k (k := Sum.inl (r : Int)) hp7 (szl (by omega)), ?_⟩
            generalize e_H8 : upd _ p _ = H8
            obtain ⟨b8, h8⟩ := ml e_H8
            have hpl := putK_le kv7 (Sum.inl (r : Int)) (.bl true)
            have nbp : bA ≠ p := ne_of hb7 hp7 (fun z => nomatch z)
            refine ⟨_, _, rfl, same_of_but s7 n1 b8, b8 _ _ nbp hb7, h8, (hks7.put r (.bl true)).iff fun n => ?_, by omega⟩
            rw [take_snoc hr7, List.mem_append, List.mem_singleton]
            constructor
            · rintro (z | z | z)
              · exact .inr (.inr z)
              · exact .inl z
              · exact .inr (.inl z)
            · rintro (z | z | z)
              · exact .inr (.inl z)
              · exact .inr (.inr z)
              · exact .inl z
          · rintro σ H7 ⟨kv7, v6, rfl, s7, hb7, hp7, hks7, hkl7⟩
            rw [List.length_map, List.take_of_length_le (Nat.le_refl _)] at hks7
            rw [List.length_map] at hkl7
            refine ⟨kv7, _, _, _, rfl, s7, hp7, hks7.iff fun n => ?_, by omega⟩
            rw [htk]
            exact hset n
    · rintro σ H3 ⟨kv, v4, v5, v6, rfl, s3, hp, hks, hkl⟩
      rw [List.length_map, List.take_of_length_le (Nat.le_refl _)] at hks
      exact ⟨_, rfl, k H3 p kv s3 n1 hp hks⟩
theorem sc_full_row : FnScope ["document", "question", "down", "table", "step", "kind", "upper", "above", "part"] ["document", "question", "down", "table", "step"] (defScope st_full_row) := ⟨rfl, rfl, rfl, by decide +kernel, rfl, by decide +kernel, by decide +kernel⟩
theorem ok_full_row {f : Addr} {fd : FuncData} (T : Txt K mg) (F : FnP K "full_row" "full_row" st_full_row f fd) (G_Question_step_at : Mt P w K mg base CX0 4 (He.ga K "Question") "step_at" ["self", "step"] (sp_Question_step_at K)) (G_Question_upper_of : Mt P w K mg base CX0 4 (He.ga K "Question") "upper_of" ["self", "step"] (sp_Question_upper_of K)) (G_Straight_way : Mt P w K mg base CX0 1 (He.ga K "Straight") "way" ["self"] (sp_Straight_way K)) (G_Anywhere_way : Mt P w K mg base CX0 1 (He.ga K "Anywhere") "way" ["self"] (sp_Anywhere_way K)) (G_with_above : Fn P w K mg base CX0 5 "with_above" ["document", "parts", "way"] (sp_with_above K)) : FnOk P w K mg base CX0 6 f fd ["document", "question", "down", "table", "step"] (sp_full_row K) := by
  refine F.ok sc_full_row (fun vs H Q E h => ?_) (fun cdv A outer s H vs Q E hr h => ?_)
  · obtain ⟨d, q, da, t, dr, qr, g, s, dv, tv, D, Tt, rfl, _⟩ := h
    rfl
  · obtain ⟨d, q, da, t, dr, qr, g, s, dv, tv, D, Tt, rfl, hd, hq, hda, dp, hD, ht, tp, hTl, hT, hs, k⟩ := h
    refine ⟨_, PSs.nox (pss_cons (ps_set (i := 5) sc_full_row.nd rfl (Or.inr rfl) (pe_methF (pv 1) G_Question_step_at (hr.mono (by decide)) pass0 (pa_cons (pv 4) pa_nil)))
      (pss_cons (ps_set (i := 6) sc_full_row.nd rfl (Or.inl rfl) (pe_methF (pv 1) G_Question_upper_of (hr.mono (by decide)) pass0 (pa_cons (pv 4) pa_nil)))
      (pss_cons (ps_if (pt_cmpR op_isN (pv 6) pe_non (nomark _))
      (pss_one (ps_ret (pe_lc (own := [("part", 8)]) (g := gName 8) (tt := (tOr (tTest (tOp _ (tMW (rWay K) (tVar 5)) (tC (.str "//")))) (tTest (tOp _ (tVar 8) (tC (.int 0)))))) rfl sc_full_row.nd (pi_list (pe_ix ix_list (pv 2) (pv 4) (fun _ _ => rfl))) (blkOk_by (own := [("part", 8)]) (N := ["document", "question", "down", "table", "step", "kind", "upper", "above", "part"]) (sc := defScope st_full_row) (by decide +kernel)) (fun _ _ _ _ _ => (pg_name (i := 8) sc_full_row.nd rfl (Or.inl rfl))) (fun _ _ _ _ _ => (pts_one (PW.pt (pw_or (pt_cmpR op_eq (pe_methW0 (R := rWay _) (pv 5) G_Straight_way G_Anywhere_way (hr.mono (by decide)) (hr.mono (by decide)) pass0 pass0 (fun _ _ _ h => rWay_ok h)) pe_str (nomark _)) (pw_or1 (pt_cmpR op_eq (pv 8) pe_int (nomark _))))))) (fun _ _ _ _ _ => (pv 8)))))
      pss_nil)
      (pss_cons (ps_set (i := 7) sc_full_row.nd rfl (Or.inr rfl) (pe_callF G_with_above (hr.mono (by decide)) pass0 (pa_cons (pv 0) (pa_cons (pe_ix ix_list (pv 3) (pv 6) (fun _ _ => rfl)) (pa_cons (pe_methW0 (R := rWay _) (pv 5) G_Straight_way G_Anywhere_way (hr.mono (by decide)) (hr.mono (by decide)) pass0 pass0 (fun _ _ _ h => rWay_ok h)) pa_nil)))))
      (pss_one (ps_ret (pe_lc (own := [("part", 8)]) (g := gName 8) rfl sc_full_row.nd (pi_list (pe_ix ix_list (pv 2) (pv 4) (fun _ _ => rfl))) (blkOk_by (own := [("part", 8)]) (N := ["document", "question", "down", "table", "step", "kind", "upper", "above", "part"]) (sc := defScope st_full_row) (by decide +kernel)) (fun _ _ _ _ _ => (pg_name (i := 8) sc_full_row.nd rfl (Or.inl rfl))) (fun _ _ _ _ _ => (pts_one (pt_cmp (pc_din (hu_of hr) (pv 8) (pv 7))))) (fun _ _ _ _ _ => (pv 8))))))))), ?_⟩
    have hmost := hd.ok.most
    have hway := hq.ok.way _ (List.getElem_mem hs)
    obtain ⟨row, hrow, hgd, drow⟩ := hD.row hs
    obtain ⟨v, hv, ra, rfl, hra⟩ := dp.get' hrow
    have hrl : row.length ≤ 240 := Nat.le_trans (up_len drow.up fun n hn => drow.lt hn) hmost
    refine ⟨_, rfl, qu_m hq (by decide) (by decide) (by decide) (by decide) (by decide) ⟨_, rfl, q, qr, g, s, qr[s], rfl, hq, List.getElem?_eq_getElem hs, fun sp st => ?_⟩⟩
    refine ⟨_, rfl, qu_m hq (by decide) (by decide) (by decide) (by decide) (by decide) ⟨_, rfl, q, qr, g, s, rfl, hq, hs, fun o ho => ?_⟩⟩
    cases o with
    | none =>
      refine ⟨_, rfl, rfl, _, rfl, iteT ?_⟩
      refine ⟨_, rfl, _, rfl, _, _, _, _, rfl, rfl, hda, atI_nat hv, ra, rfl, ⟨_, SqL.of hra⟩, fun E hE => ?_⟩
      refine lc_keepL (K := K) (xs := row.map vN) (zs := row) (F := fun v n => v = vN n) (fun p => decide (qr[s].1 = "//") || decide (p = 0)) vN (paired_vN _) hE (SqL.of hra) (by omega) ?_ ?_
      · rintro x z H' N Y rfl hz s' hN hY
        refine ⟨rfl, _, rfl, sp, _, _, rfl, st.same s', rfl, _, rfl, ?_⟩
        refine ite2 (fun c => ?_) (fun c => ?_)
        · have c : qr[s].1 = "//" := by have := of_decide_eq_true c; injection this
          exact ⟨_, rfl, hY _ (Same.refl _) (by rw [decide_eq_true c]; rfl)⟩
        · have c : ¬ qr[s].1 = "//" := fun z => c (decide_eq_true (by rw [z]))
          refine ⟨_, rfl, rfl, _, rfl, ?_⟩
          refine ite2 (fun c2 => ?_) (fun c2 => ?_)
          · have c2 : z = 0 := by
              have := of_decide_eq_true c2
              injection this with this
              omega
            exact ⟨_, rfl, hY _ (Same.refl _) (by rw [decide_eq_true c2]; simp)⟩
          · have c2 : ¬ z = 0 := fun e => c2 (decide_eq_true (by rw [e]; rfl))
            exact hN _ (Same.refl _) (by rw [decide_eq_false c, decide_eq_false c2]; rfl)
      · rintro H' s' h'
        refine k H' E _ s' hE h' ⟨drow.up.filter _, fun p => ?_⟩
        rw [List.mem_filter]
        unfold GoodF
        rw [hgd]
        constructor
        · rintro ⟨h1, h2⟩
          refine ⟨h1, _, List.getElem?_eq_getElem hs, .inl ⟨ho, ?_⟩⟩
          rw [Bool.or_eq_true, decide_eq_true_iff, decide_eq_true_iff] at h2
          exact h2
        · rintro ⟨h1, sr, h2, h3⟩
          rw [List.getElem?_eq_getElem hs] at h2
          cases h2
          rcases h3 with h3 | ⟨u, h3, _⟩
          · refine ⟨h1, ?_⟩
            rw [Bool.or_eq_true, decide_eq_true_iff, decide_eq_true_iff]
            exact h3.2
          · exact absurd h3.1 (ho u)
    | some u =>
      obtain ⟨un, rfl, par⟩ := ho
      have hun : un < Tt.length := by have := par.1.1; omega
      obtain ⟨v2, hv2, rb, rfl, hrb⟩ := tp.get' (List.getElem?_eq_getElem hun)
      have fr := hT un _ (List.getElem?_eq_getElem hun)
      have hb1 : ∀ p ∈ Tt[un], p < dr.length := fun p hp => fr.lt hD hp
      have hb2 : Tt[un].length ≤ 1000 := Nat.le_trans (up_len fr.up hb1) (by omega)
      refine ⟨_, rfl, rfl, _, rfl, iteF ?_⟩
      refine ⟨_, rfl, _, rfl, _, rfl, _, _, _, _, rfl, rfl, ht, atI_nat hv2, _, rfl, sp, _, _, rfl, st, d, rb, _, dr, Tt[un], rfl, hway, hd, SqL.of hrb, hb1, hb2, fun H1 p kv s1 np h1 hks => ?_⟩
      have hra1 := s1 _ _ hra
      refine ⟨_, rfl, _, rfl, _, _, _, _, rfl, rfl, s1.seq hda, atI_nat hv, ra, rfl, ⟨_, SqL.of hra1⟩, fun E hE => ?_⟩
      refine lc_keepL (K := K) (xs := row.map vN) (zs := row) (F := fun v n => v = vN n) (fun p => (valV kv (Sum.inl (p : Int))).isSome) vN (paired_vN _) hE (SqL.of hra1) (by omega) ?_ ?_
      · rintro x z H' N Y rfl hz s' hN hY
        refine ⟨rfl, _, rfl, _, rfl, p, _, rfl, DGet.k (k := Sum.inl (z : Int)) (s' _ _ h1), _, rfl, ?_⟩
        refine ite2 (fun c => ?_) (fun c => ?_)
        · exact ⟨_, rfl, hY _ (Same.refl _) c⟩
        · exact hN _ (Same.refl _) (by simpa using c)
      · rintro H' s' h'
        refine k H' E _ (s1.trans s') (s1.free hE) h' ⟨drow.up.filter _, fun p => ?_⟩
        have hk : (valV kv (Sum.inl (p : Int))).isSome = true ↔ Abv (dps dr) (wB qr[s].1) Tt[un] p := hks.at_ p
        rw [List.mem_filter, hk]
        unfold GoodF
        rw [hgd]
        have hTg : Tt.getD un [] = Tt[un] := by rw [List.getD_eq_getElem?_getD, List.getElem?_eq_getElem hun]; rfl
        constructor
        · rintro ⟨h1, h2⟩
          exact ⟨h1, _, List.getElem?_eq_getElem hs, .inr ⟨un, par, by rw [hTg]; exact h2⟩⟩
        · rintro ⟨h1, sr, h2, h3⟩
          rw [List.getElem?_eq_getElem hs] at h2
          cases h2
          rcases h3 with h3 | ⟨u, h3, h4⟩
          · exact absurd par.1 (h3.1 un)
          · have : u = un := par.only h3
            subst this
            rw [hTg] at h4
            exact ⟨h1, h4⟩
theorem sc_full_table : FnScope ["document", "question", "down", "table", "step"] ["document", "question"] (defScope st_full_table) := ⟨rfl, rfl, rfl, by decide +kernel, rfl, by decide +kernel, by decide +kernel⟩
theorem ok_full_table {f : Addr} {fd : FuncData} (T : Txt K mg) (F : FnP K "full_table" "full_table" st_full_table f fd) (G_down_table : Fn P w K mg base CX0 7 "down_table" ["document", "question"] (sp_down_table K)) (G_Question_many : Mt P w K mg base CX0 1 (He.ga K "Question") "many" ["self"] (sp_Question_many K)) (G_full_row : Fn P w K mg base CX0 6 "full_row" ["document", "question", "down", "table", "step"] (sp_full_row K)) : FnOk P w K mg base CX0 8 f fd ["document", "question"] (sp_full_table K) := by
  refine F.ok sc_full_table (fun vs H Q E h => ?_) (fun cdv A outer s H vs Q E hr h => ?_)
  · obtain ⟨d, q, dr, qr, g, rfl, _⟩ := h
    rfl
  · obtain ⟨d, q, dr, qr, g, rfl, hd, hq, k⟩ := h
    refine ⟨_, PSs.nox (pss_cons (ps_set (i := 2) sc_full_table.nd rfl (Or.inl rfl) (pe_callF G_down_table (hr.mono (by decide)) pass0 (pa_cons (pv 0) (pa_cons (pv 1) pa_nil))))
      (pss_cons (ps_set (i := 3) sc_full_table.nd rfl (Or.inl rfl) (pe_lst pa_nil))
      (pss_cons (ps_for PassesOwn.never rfl (pi_range1 rfl T.free_range (pa_cons (pe_methF0 (pv 1) G_Question_many (hr.mono (by decide)) pass0) pa_nil)) (pg_name (i := 4) sc_full_table.nd rfl (Or.inl rfl))
      (pss_one (ps_expr (pe_bm PySem.F.plainAttrs_list PySem.F.slot_list_append PySem.F.type_list_append mt_append (pv 3) (pa_cons (pe_callF G_full_row (hr.mono (by decide)) pass0 (pa_cons (pv 0) (pa_cons (pv 1) (pa_cons (pv 2) (pa_cons (pv 3) (pa_cons (pv 4) pa_nil)))))) pa_nil)))))
      (pss_one (ps_ret (pv 3)))))), ?_⟩
    have hmost := hd.ok.most
    have hqmost := hq.ok.most
    refine ⟨_, rfl, _, rfl, d, q, dr, qr, g, rfl, hd, hq, fun H1 da dv D s1 nda hda tfd hD => ?_⟩
    refine ⟨Nat.zero_le _, ?_⟩
    intro tb n2
    generalize e_H2 : upd _ tb _ = H2
    obtain ⟨s2, h2⟩ := al e_H2 n2
    have s02 := s1.trans s2
    have hq2 := hq.same s02
    have ndt : da ≠ tb := ne_of_none hda n2
    refine ⟨_, rfl, qu_m hq2 (by decide) (by decide) (by decide) (by decide) (by decide) ⟨q, qr, g, rfl, hq2, _, rfl, by omega, by omega, for_range (lo := 0) (n := ((qr.length : Nat) : Int).toNat) (fun i σ H' => ∃ (v4 : Option V) (vs : List V) (Tt : List (List Nat)), σ = [some (.ref d), some (.ref q), some (.ref da), some (.ref tb), v4] ∧ But tb H2 H' ∧ H' tb = some (.lst vs) ∧ TabF H2 H' vs Tt ∧ Tt.length = i ∧ FullT dr qr D Tt) ?_ ?_ ?_⟩⟩
    · exact ⟨none, [], [], rfl, But.refl _ _, h2, .nil, rfl, fun s row h => by simp at h⟩
    · rintro i σ H4 hi ⟨v4, vs, Tt, rfl, b4, hv4, tf4, hTl, hT⟩
      have hi : i < qr.length := by omega
      have s4 := same_of_but s2 n2 b4
      have s04 := s1.trans s4
      have hd4 := hd.same s04
      have hq4 := hq.same s04
      refine ⟨_, rfl, .inl ⟨rfl, _, SqL.of hv4⟩, _, rfl, _, rfl, _, rfl, _, rfl, _, rfl, d, q, da, tb, dr, qr, g, i, dv, vs, D, Tt, by rw [Int.zero_add]; rfl, hd4, hq4, SqL.of (s4 _ _ hda), tfd.tab.same s4, hD, SqL.of hv4, tf4.tab, hTl, hT, hi, fun H5 p row s5 np h5 fr => ?_⟩
      have hv5 := s5 _ _ hv4
      have hpt : p ≠ tb := fun z => by rw [z, hv4] at np; cases np
      refine ⟨tb, vs, _, rfl, rfl, hv5, szl (by rw [tf4.length]; omega), _, vs ++ [.ref p], Tt ++ [row], rfl, (b4.trans (But.of_same s5)).upd', upd_same, ?_, by rw [List.length_append, hTl]; rfl, hT.snoc (by rw [hTl]; exact fr)⟩
      refine Paired.app ((tf4.same s5).upd h2) (.cons ⟨p, rfl, b4.free hpt np, ?_⟩ .nil)
      rw [upd_ne hpt]
      exact h5
    · rintro σ H4 ⟨v4, vs, Tt, rfl, b4, hv4, tf4, hTl, hT⟩
      exact ⟨_, rfl, k H4 tb vs D Tt (s1.trans (same_of_but s2 n2 b4)) (s1.free n2) hv4 (tf4.back s02) hD hT (by omega)⟩
theorem sc_law_right : FnScope ["_law_cell", "_law_world_here", "_law_down_here", "_law_full_here", "_law_turn", "_law_document", "_law_question", "_law_again", "_law_lower", "_law_whole", "_law_row"] ["_law_cell"] (defScope st_law_right) := ⟨rfl, rfl, rfl, by decide +kernel, rfl, by decide +kernel, by decide +kernel⟩
theorem ok_law_right {f : Addr} {fd : FuncData} (T : Txt K mg) (F : FnP K "_law_right" "_law_right" st_law_right f fd) (G_law_world : Fn P w K mg base CX0 5 "_law_world" ["_law_source_here", "_law_most", "_law_steps_here"] (sp_law_world K)) (G_law_source : Fn P w K mg base CX0 1 "_law_source" ["_law_cell"] (sp_law_source K)) (G_law_down : Fn P w K mg base CX0 2 "_law_down" ["_law_parts", "_law_steps_here"] (sp_law_down K)) (G_law_full : Fn P w K mg base CX0 2 "_law_full" ["_law_parts", "_law_steps_here", "_law_down_here"] (sp_law_full K)) (M_Document : Mkr P w K mg base CX0 4 (He.ga K "Document") "Document" ["self", "rows"] (sp_Document_init K)) (M_Question : Mkr P w K mg base CX0 4 (He.ga K "Question") "Question" ["self", "rows", "wanted"] (sp_Question_init K)) (G_law_same : Fn P w K mg base CX0 1 "_law_same" ["_law_found", "_law_due"] (sp_law_same K)) (G_full_table : Fn P w K mg base CX0 8 "full_table" ["document", "question"] (sp_full_table K)) (G_down_table : Fn P w K mg base CX0 7 "down_table" ["document", "question"] (sp_down_table K)) : FnOk P w K mg base CX0 9 f fd ["_law_cell"] (sp_law_right K) := by
  refine F.ok sc_law_right (fun vs H Q E h => ?_) (fun cdv A outer s H vs Q E hr h => ?_)
  · obtain ⟨c, rfl, _⟩ := h
    rfl
  · obtain ⟨cell, rfl, k⟩ := h
    refine ⟨_, PSs.nox (pss_cons (ps_set (i := 1) sc_law_right.nd rfl (Or.inl rfl) (pe_callF G_law_world (hr.mono (by decide)) pass0 (pa_cons (pe_callF G_law_source (hr.mono (by decide)) pass0 (pa_cons (pv 0) pa_nil)) (pa_cons pe_int (pa_cons pe_int pa_nil)))))
      (pss_cons (ps_set (i := 2) sc_law_right.nd rfl (Or.inl rfl) (pe_callF G_law_down (hr.mono (by decide)) pass0 (pa_cons (pe_dget (hu_of hr) (pv 1) pe_str (fun _ _ => rfl)) (pa_cons (pe_dget (hu_of hr) (pv 1) pe_str (fun _ _ => rfl)) pa_nil))))
      (pss_cons (ps_set (i := 3) sc_law_right.nd rfl (Or.inl rfl) (pe_callF G_law_full (hr.mono (by decide)) pass0 (pa_cons (pe_dget (hu_of hr) (pv 1) pe_str (fun _ _ => rfl)) (pa_cons (pe_dget (hu_of hr) (pv 1) pe_str (fun _ _ => rfl)) (pa_cons (pv 2) pa_nil)))))
      (pss_cons (ps_for PassesOwn.never rfl (pi_range1 rfl T.free_range (pa_cons pe_int pa_nil)) (pg_name (i := 4) sc_law_right.nd rfl (Or.inl rfl))
      (pss_cons (ps_set (i := 5) sc_law_right.nd rfl (Or.inl rfl) (pe_makeF M_Document (hr.mono (by decide)) pass0 (pa_cons (pe_callTy call_list_of rfl T.free_list (by decide +kernel) (pa_cons (pe_dget (hu_of hr) (pv 1) pe_str (fun _ _ => rfl)) pa_nil)) pa_nil)))
      (pss_cons (ps_set (i := 6) sc_law_right.nd rfl (Or.inl rfl) (pe_makeF M_Question (hr.mono (by decide)) pass0 (pa_cons (pe_callTy call_list_of rfl T.free_list (by decide +kernel) (pa_cons (pe_dget (hu_of hr) (pv 1) pe_str (fun _ _ => rfl)) pa_nil)) (pa_cons (pe_dget (hu_of hr) (pv 1) pe_str (fun _ _ => rfl)) pa_nil))))
      (pss_cons (ps_if (PW.pt (pw_and (pt_cmpR op_eq (pv 4) pe_int (nomark _)) (pw_and1 (pt_not (pt_val (pe_callF G_law_same (hr.mono (by decide)) pass0 (pa_cons (pe_callF G_full_table (hr.mono (by decide)) pass0 (pa_cons (pv 5) (pa_cons (pv 6) pa_nil))) (pa_cons (pv 3) pa_nil))))))))
      (pss_one (ps_ret pe_bl))
      pss_nil)
      (pss_one (ps_for PassesOwn.never rfl (pi_range1 rfl T.free_range (pa_cons pe_int pa_nil)) (pg_name (i := 7) sc_law_right.nd rfl (Or.inl rfl))
      (pss_cons (ps_set (i := 8) sc_law_right.nd rfl (Or.inl rfl) (pe_callF G_down_table (hr.mono (by decide)) pass0 (pa_cons (pv 5) (pa_cons (pv 6) pa_nil))))
      (pss_cons (ps_set (i := 9) sc_law_right.nd rfl (Or.inl rfl) (pe_callF G_full_table (hr.mono (by decide)) pass0 (pa_cons (pv 5) (pa_cons (pv 6) pa_nil))))
      (pss_cons (ps_if (PW.pt (pw_or (pt_not (pt_val (pe_callF G_law_same (hr.mono (by decide)) pass0 (pa_cons (pv 8) (pa_cons (pv 2) pa_nil))))) (pw_or1 (pt_not (pt_val (pe_callF G_law_same (hr.mono (by decide)) pass0 (pa_cons (pv 9) (pa_cons (pv 3) pa_nil))))))))
      (pss_one (ps_ret pe_bl))
      pss_nil)
      (pss_one (ps_for PassesOwn.never rfl (pi_list (pe_op op_cat (pv 8) (pv 9))) (pg_name (i := 10) sc_law_right.nd rfl (Or.inl rfl))
      (pss_one (ps_expr (pe_bm0 PySem.F.plainAttrs_list PySem.F.slot_list_clear PySem.F.type_list_clear mt_clear (pv 10)))))))))))))))
      (pss_one (ps_ret pe_bl)))))), ?_⟩
    refine ⟨_, rfl, cell, rfl, fun a H1 na s1 S1 => ?_⟩
    refine ⟨a, 24, 7, rfl, S1, by decide, by decide, by decide, by decide, fun H2 wd dr qr g b2 S2 nw W => ?_⟩
    obtain ⟨pa, sa, pav, sv, W⟩ := W
    have s02 : Same H H2 := same_of_but s1 na b2
    refine ⟨_, rfl, wd, _, rfl, wget_p W.ob, _, rfl, wd, _, rfl, wget_s W.ob, pa, sa, pav, sv, dr, qr, g, rfl, SqL.of W.pa_, W.pp, W.dok, SqL.of W.sa_, W.ps, W.qok, fun H3 da dv D s3 nda hda tfd hD => ?_⟩
    have W3 := W.same s3
    refine ⟨_, rfl, wd, _, rfl, wget_p W3.ob, _, rfl, wd, _, rfl, wget_s W3.ob, _, rfl, pa, sa, da, pav, sv, dv, dr, qr, g, D, rfl, SqL.of W3.pa_, W3.pp, W3.dok, SqL.of W3.sa_, W3.ps, W3.qok, SqL.of hda, tfd.tab, hD, fun H4 fa fv F s4 nfa hfa tff hF hFl => ?_⟩
    have W4 := W3.same s4
    have hda4 := s4 _ _ hda
    have tfd4 := tfd.tab.same s4
    have tff4 := tff.tab
    have hdm := W.dok.most
    have hbD : ∀ row ∈ D, row.length ≤ 1000 := fun row hr' => by
      obtain ⟨s, hs⟩ := List.getElem?_of_mem hr'
      have d := hD.at_ s row (Nat.zero_le _) hs
      exact Nat.le_trans (up_len d.up fun n hn => d.lt hn) (by omega)
    have hbF : ∀ row ∈ F, row.length ≤ 1000 := fun row hr' => by
      obtain ⟨s, hs⟩ := List.getElem?_of_mem hr'
      have d := hF s row hs
      exact Nat.le_trans (up_len d.up fun n hn => d.lt hD hn) (by omega)
    have hTD : ∀ {T}, DownT dr qr 0 T → T = D := fun h => h.only hD
    have hTF : ∀ {T T'}, DownT dr qr 0 T → FullT dr qr T T' → T'.length = qr.length → T' = F := fun h h1 h2 => by
      rw [hTD h] at h1
      exact h1.only hF (h2.trans hFl.symm)
    have s04 : Same H H4 := (s02.trans s3).trans s4
    refine ⟨_, rfl, by decide, by decide, for_range (lo := 0) (n := (2 : Int).toNat) (fun i σ H' => ∃ (v4 v5 v6 v7 v8 v9 v10 : Option V), σ = [some (.int cell), some (.ref wd), some (.ref da), some (.ref fa), v4, v5, v6, v7, v8, v9, v10] ∧ Same H4 H') ⟨none, none, none, none, none, none, none, rfl, Same.refl _⟩ ?_ ?_⟩
    · rintro i σ H5 hi ⟨v4, v5, v6, v7, v8, v9, v10, rfl, s5⟩
      have W5 := W4.same s5
      refine ⟨_, rfl, wd, _, rfl, wget_p W5.ob, pa, pav, rfl, .inl (SqL.of W5.pa_), ?_⟩
      intro l6 n6
      generalize e_H6 : upd _ l6 _ = H6
      obtain ⟨s6, h6⟩ := al e_H6 n6
      intro x dx hx hdx hne
      refine ⟨x, l6, dx, pav, dr, rfl, upd_same, (made0 hx hdx hne).seq (SqL.of h6), (W5.pp.same s6).same (made0 hx hdx hne), W.dok, fun H7 b7 doc => ⟨rfl, ?_⟩⟩
      have s7 : Same H6 H7 := made_same hx hdx hne b7
      have W7 := (W5.same s6).same s7
      refine ⟨_, rfl, wd, _, rfl, wget_s W7.ob, sa, sv, rfl, .inl (SqL.of W7.sa_), ?_⟩
      intro l8 n8
      generalize e_H8 : upd _ l8 _ = H8
      obtain ⟨s8, h8⟩ := al e_H8 n8
      have W8 := W7.same s8
      refine ⟨_, rfl, wd, _, rfl, wget_w W8.ob, ?_⟩
      intro y dy hy hdy hney
      refine ⟨y, l8, dy, g, sv, qr, rfl, upd_same, (made0 hy hdy hney).seq (SqL.of h8), W8.ps.same (made0 hy hdy hney), W.qok, fun H9 b9 qu => ⟨rfl, ?_⟩⟩
      have s9 : Same H8 H9 := made_same hy hdy hney b9
      have s59 : Same H5 H9 := ((s6.trans s7).trans s8).trans s9
      have doc9 : DocAt K H9 x dr := doc.same (s8.trans s9)
      have s49 := s5.trans s59
      refine ⟨_, rfl, rfl, _, rfl, ?_⟩
      refine ite2 (fun c => ?_) (fun c => ?_)
      · refine ⟨_, rfl, _, rfl, x, y, dr, qr, g, rfl, doc9, qu, fun G10 wa wv L2 Wt s10 nwa hwa tfw hL2 hWt hWl => ?_⟩
        rw [hTF hL2 hWt hWl] at tfw
        have s410 := s49.trans s10
        refine ⟨_, rfl, wa, fa, wv, fv, F, rfl, SqL.of hwa, tfw.tab, SqL.of (s410 _ _ hfa), tff4.same s410, hbF, fun G11 s11 => ⟨_, rfl, ?_⟩⟩
        have s4A := s410.trans s11
        have docA := doc9.same (s10.trans s11)
        have quA := qu.same (s10.trans s11)
        refine iteF ?_
        refine ⟨_, rfl, by decide, by decide, for_range (lo := 0) (n := (2 : Int).toNat) (fun j σ H' => ∃ (v7 v8 v9 v10 : Option V), σ = [some (.int cell), some (.ref wd), some (.ref da), some (.ref fa), some (.int (0 + (i : Int))), some (.ref x), some (.ref y), v7, v8, v9, v10] ∧ Same G11 H') ⟨v7, v8, v9, v10, rfl, Same.refl _⟩ ?_ ?_⟩
        · rintro j σ H10 hj ⟨v7, v8, v9, v10, rfl, s10⟩
          have docX := docA.same s10
          have quX := quA.same s10
          refine ⟨_, rfl, _, rfl, x, y, dr, qr, g, rfl, docX, quX, fun H11 la lv L s11 nla hla tfl hL => ?_⟩
          refine ⟨_, rfl, _, rfl, x, y, dr, qr, g, rfl, docX.same s11, quX.same s11, fun H12 wa wv L2 Wt s12 nwa hwa tfw hL2 hWt hWl => ?_⟩
          rw [hTD hL] at tfl
          rw [hTF hL2 hWt hWl] at tfw
          have hla12 := s12 _ _ hla
          have s1012 := s11.trans s12
          have sA12 := s10.trans s1012
          have s412 := s4A.trans sA12
          refine ⟨_, rfl, _, rfl, la, da, lv, dv, D, rfl, SqL.of hla12, tfl.tab.same s12, SqL.of (s412 _ _ hda4), tfd4.same s412, hbD, fun H13 s13 => ⟨_, rfl, ?_⟩⟩
          have s413 := s412.trans s13
          refine iteF ⟨_, rfl, _, rfl, wa, fa, wv, fv, F, rfl, SqL.of (s13 _ _ hwa), tfw.tab.same s13, SqL.of (s413 _ _ hfa), tff4.same s413, hbF, fun H14 s14 => ⟨_, rfl, ?_⟩⟩
          have s1214 := s13.trans s14
          have hla14 := s1214 _ _ hla12
          have hwa14 := s1214 _ _ hwa
          refine iteF ⟨_, rfl, _, rfl, la, wa, _, _, rfl, rfl, hla14, hwa14, ?_, ?_⟩
          · have h1 : lv.length = qr.length := tfl.length.trans hD.len
            have h2 : wv.length = qr.length := tfw.length.trans hFl
            have := W.qok.most
            exact sz (by omega)
          intro cl n15
          generalize e_H15 : upd _ cl _ = H15
          obtain ⟨s15, h15⟩ := al e_H15 n15
          have allr : ∀ v ∈ lv ++ wv, ∃ a xs, v = .ref a ∧ G11 a = none ∧ a ≠ cl ∧ H15 a = some (.lst xs) := fun v hv => by
            rcases List.mem_append.mp hv with h | h
            · obtain ⟨r, _, a, e, n, q⟩ := Paired.mem tfl h
              have q14 := s1214 _ _ (s12 _ _ q)
              exact ⟨a, _, e, s10.free n, ne_of_none q14 n15, s15 _ _ q14⟩
            · obtain ⟨r, _, a, e, n, q⟩ := Paired.mem tfw h
              have q14 := s1214 _ _ q
              exact ⟨a, _, e, s10.free (s11.free n), ne_of_none q14 n15, s15 _ _ q14⟩
          refine ⟨cl, rfl, ⟨_, SqL.of h15⟩, for_list (K := K) (a := cl) (xs := lv ++ wv) (fun n σ H' => ∃ v10 : Option V, σ = [some (.int cell), some (.ref wd), some (.ref da), some (.ref fa), some (.int (0 + (i : Int))), some (.ref x), some (.ref y), some (.int (0 + (j : Int))), some (.ref la), some (.ref wa), v10] ∧ Same G11 H' ∧ H' cl = some (.lst (lv ++ wv)) ∧ ∀ v ∈ lv ++ wv, ∃ a xs, v = .ref a ∧ G11 a = none ∧ a ≠ cl ∧ H' a = some (.lst xs)) ⟨v10, rfl, (sA12.trans s1214).trans s15, h15, allr⟩ (fun n σ H' _ ⟨_, _, _, h, _⟩ => SqL.of h) ?_ ?_⟩
          · rintro n v σ H16 hn ⟨v10, rfl, s16, h16, all16⟩
            obtain ⟨b, xs, rfl, nb, ncl, hb⟩ := all16 _ (List.mem_of_getElem? hn)
            refine ⟨_, rfl, .inl ⟨rfl, _, SqL.of hb⟩, b, xs, rfl, rfl, hb, _, rfl, s16.mut nb, (upd_ne ncl.symm).trans h16, fun v hv => ?_⟩
            obtain ⟨c, ys, e, nc, nccl, hc⟩ := all16 v hv
            by_cases cc : c = b
            · subst cc
              exact ⟨c, [], e, nc, nccl, upd_same⟩
            · exact ⟨c, ys, e, nc, nccl, (upd_ne cc).trans hc⟩
          · rintro σ H16 ⟨v10, rfl, s16, h16, all16⟩
            exact ⟨_, _, _, _, rfl, s16⟩
        · rintro σ H10 ⟨v7, v8, v9, v10, rfl, s10⟩
          exact ⟨_, _, _, _, _, _, _, rfl, s4A.trans s10⟩
      · have s4A := s49
        have docA := doc9
        have quA := qu
        refine iteF ?_
        refine ⟨_, rfl, by decide, by decide, for_range (lo := 0) (n := (2 : Int).toNat) (fun j σ H' => ∃ (v7 v8 v9 v10 : Option V), σ = [some (.int cell), some (.ref wd), some (.ref da), some (.ref fa), some (.int (0 + (i : Int))), some (.ref x), some (.ref y), v7, v8, v9, v10] ∧ Same H9 H') ⟨v7, v8, v9, v10, rfl, Same.refl _⟩ ?_ ?_⟩
        · rintro j σ H10 hj ⟨v7, v8, v9, v10, rfl, s10⟩
          have docX := docA.same s10
          have quX := quA.same s10
          refine ⟨_, rfl, _, rfl, x, y, dr, qr, g, rfl, docX, quX, fun H11 la lv L s11 nla hla tfl hL => ?_⟩
          refine ⟨_, rfl, _, rfl, x, y, dr, qr, g, rfl, docX.same s11, quX.same s11, fun H12 wa wv L2 Wt s12 nwa hwa tfw hL2 hWt hWl => ?_⟩
          rw [hTD hL] at tfl
          rw [hTF hL2 hWt hWl] at tfw
          have hla12 := s12 _ _ hla
          have s1012 := s11.trans s12
          have sA12 := s10.trans s1012
          have s412 := s4A.trans sA12
          refine ⟨_, rfl, _, rfl, la, da, lv, dv, D, rfl, SqL.of hla12, tfl.tab.same s12, SqL.of (s412 _ _ hda4), tfd4.same s412, hbD, fun H13 s13 => ⟨_, rfl, ?_⟩⟩
          have s413 := s412.trans s13
          refine iteF ⟨_, rfl, _, rfl, wa, fa, wv, fv, F, rfl, SqL.of (s13 _ _ hwa), tfw.tab.same s13, SqL.of (s413 _ _ hfa), tff4.same s413, hbF, fun H14 s14 => ⟨_, rfl, ?_⟩⟩
          have s1214 := s13.trans s14
          have hla14 := s1214 _ _ hla12
          have hwa14 := s1214 _ _ hwa
          refine iteF ⟨_, rfl, _, rfl, la, wa, _, _, rfl, rfl, hla14, hwa14, ?_, ?_⟩
          · have h1 : lv.length = qr.length := tfl.length.trans hD.len
            have h2 : wv.length = qr.length := tfw.length.trans hFl
            have := W.qok.most
            exact sz (by omega)
          intro cl n15
          generalize e_H15 : upd _ cl _ = H15
          obtain ⟨s15, h15⟩ := al e_H15 n15
          have allr : ∀ v ∈ lv ++ wv, ∃ a xs, v = .ref a ∧ H9 a = none ∧ a ≠ cl ∧ H15 a = some (.lst xs) := fun v hv => by
            rcases List.mem_append.mp hv with h | h
            · obtain ⟨r, _, a, e, n, q⟩ := Paired.mem tfl h
              have q14 := s1214 _ _ (s12 _ _ q)
              exact ⟨a, _, e, s10.free n, ne_of_none q14 n15, s15 _ _ q14⟩
            · obtain ⟨r, _, a, e, n, q⟩ := Paired.mem tfw h
              have q14 := s1214 _ _ q
              exact ⟨a, _, e, s10.free (s11.free n), ne_of_none q14 n15, s15 _ _ q14⟩
          refine ⟨cl, rfl, ⟨_, SqL.of h15⟩, for_list (K := K) (a := cl) (xs := lv ++ wv) (fun n σ H' => ∃ v10 : Option V, σ = [some (.int cell), some (.ref wd), some (.ref da), some (.ref fa), some (.int (0 + (i : Int))), some (.ref x), some (.ref y), some (.int (0 + (j : Int))), some (.ref la), some (.ref wa), v10] ∧ Same H9 H' ∧ H' cl = some (.lst (lv ++ wv)) ∧ ∀ v ∈ lv ++ wv, ∃ a xs, v = .ref a ∧ H9 a = none ∧ a ≠ cl ∧ H' a = some (.lst xs)) ⟨v10, rfl, (sA12.trans s1214).trans s15, h15, allr⟩ (fun n σ H' _ ⟨_, _, _, h, _⟩ => SqL.of h) ?_ ?_⟩
          · rintro n v σ H16 hn ⟨v10, rfl, s16, h16, all16⟩
            obtain ⟨b, xs, rfl, nb, ncl, hb⟩ := all16 _ (List.mem_of_getElem? hn)
            refine ⟨_, rfl, .inl ⟨rfl, _, SqL.of hb⟩, b, xs, rfl, rfl, hb, _, rfl, s16.mut nb, (upd_ne ncl.symm).trans h16, fun v hv => ?_⟩
            obtain ⟨c, ys, e, nc, nccl, hc⟩ := all16 v hv
            by_cases cc : c = b
            · subst cc
              exact ⟨c, [], e, nc, nccl, upd_same⟩
            · exact ⟨c, ys, e, nc, nccl, (upd_ne cc).trans hc⟩
          · rintro σ H16 ⟨v10, rfl, s16, h16, all16⟩
            exact ⟨_, _, _, _, rfl, s16⟩
        · rintro σ H10 ⟨v7, v8, v9, v10, rfl, s10⟩
          exact ⟨_, _, _, _, _, _, _, rfl, s4A.trans s10⟩
    · rintro σ H5 ⟨v4, v5, v6, v7, v8, v9, v10, rfl, s5⟩
      exact k H5 (s04.trans s5)
theorem sc_law_cell_at : FnScope ["_law_script", "_law_k"] ["_law_script", "_law_k"] (defScope st_law_cell_at) := ⟨rfl, rfl, rfl, by decide +kernel, rfl, by decide +kernel, by decide +kernel⟩
theorem ok_law_cell_at {f : Addr} {fd : FuncData} (T : Txt K mg) (F : FnP K "_law_cell_at" "_law_cell_at" st_law_cell_at f fd)  : FnOk P w K mg base CX0 1 f fd ["_law_script", "_law_k"] (sp_law_cell_at K) := by
  refine F.ok sc_law_cell_at (fun vs H Q E h => ?_) (fun cdv A outer s H vs Q E hr h => ?_)
  · obtain ⟨a, ns, k, rfl, _⟩ := h
    rfl
  · obtain ⟨a, ns, i, rfl, hS, hl, h0, k⟩ := h
    refine ⟨_, PSs.nox (pss_cons (ps_if (pt_cmpR op_lt (pv 1) (pe_callB call_len rfl T.free_len PySem.boot_len (pa_cons (pv 0) pa_nil)) (nomark _))
      (pss_one (ps_ret (pe_ix ix_list (pv 0) (pv 1) (fun _ _ => rfl))))
      pss_nil)
      (pss_one (ps_ret (pe_op op_add (pe_op op_mul pe_int (pv 1)) pe_int)))), ?_⟩
    refine ⟨_, rfl, _, rfl, _, _, rfl, Or.inl ⟨_, hS, rfl⟩, _, _, rfl, rfl, _, rfl, ?_⟩
    refine ite2 (fun c => ?_) (fun c => ?_)
    · have c : i < ((ns.map V.int).length : Int) := of_decide_eq_true c
      obtain ⟨n, rfl⟩ := Int.eq_ofNat_of_zero_le h0
      rw [List.length_map] at c
      have hn : n < ns.length := by omega
      refine ⟨_, rfl, _, rfl, _, _, _, _, rfl, rfl, hS, atI_nat (v := .int ns[n]) (by rw [List.getElem?_map, List.getElem?_eq_getElem hn]; rfl), k _⟩
    · exact ⟨_, rfl, _, _, rfl, rfl, .inl ⟨by decide, by decide⟩, _, _, rfl, rfl, k _⟩
theorem sc_law : FnScope ["_law_script", "_law_k"] ["_law_script"] (defScope st_law) := ⟨rfl, rfl, rfl, by decide +kernel, rfl, by decide +kernel, by decide +kernel⟩
theorem ok_law {f : Addr} {fd : FuncData} (T : Txt K mg) (F : FnP K "law" "law" st_law f fd) (G_law_right : Fn P w K mg base CX0 9 "_law_right" ["_law_cell"] (sp_law_right K)) (G_law_cell_at : Fn P w K mg base CX0 1 "_law_cell_at" ["_law_script", "_law_k"] (sp_law_cell_at K)) : FnOk P w K mg base CX0 10 f fd ["_law_script"] (sp_law K) := by
  refine F.ok sc_law (fun vs H Q E h => ?_) (fun cdv A outer s H vs Q E hr h => ?_)
  · obtain ⟨a, ns, rfl, _⟩ := h
    rfl
  · obtain ⟨a, ns, rfl, hS, hl, k⟩ := h
    refine ⟨_, PSs.nox (pss_cons (ps_for PassesOwn.never rfl (pi_range1 rfl T.free_range (pa_cons (pe_callB (call_max2 rfl) rfl T.free_max (by decide +kernel) (pa_cons pe_int (pa_cons (pe_callB (call_min2 rfl) rfl T.free_min (by decide +kernel) (pa_cons (pe_callB call_len rfl T.free_len PySem.boot_len (pa_cons (pv 0) pa_nil)) (pa_cons pe_int pa_nil))) pa_nil))) pa_nil)) (pg_name (i := 1) sc_law.nd rfl (Or.inl rfl))
      (pss_one (ps_if (pt_not (pt_val (pe_callF G_law_right (hr.mono (by decide)) pass0 (pa_cons (pe_callF G_law_cell_at (hr.mono (by decide)) pass0 (pa_cons (pv 0) (pa_cons (pv 1) pa_nil))) pa_nil))))
      (pss_one (ps_ret pe_bl))
      pss_nil)))
      (pss_one (ps_ret pe_bl))), ?_⟩
    refine ⟨_, rfl, _, _, rfl, Or.inl ⟨_, hS, rfl⟩, _, _, rfl, _, _, rfl, _, rfl, by split <;> (try split) <;> omega, by rw [List.length_map]; split <;> (try split) <;> omega, for_range (lo := 0) (fun i σ H' => Same H H' ∧ ∃ v1, σ = [some (.ref a), v1]) ⟨Same.refl _, none, rfl⟩ ?_ ?_⟩
    · rintro i σ H1 hi ⟨s1, v1, rfl⟩
      refine ⟨_, rfl, _, rfl, a, ns, _, rfl, s1.seq hS, hl, by omega, fun c => ⟨c, rfl, fun H2 s2 => ⟨_, rfl, ?_⟩⟩⟩
      exact iteF ⟨s1.trans s2, _, rfl⟩
    · rintro σ H1 ⟨s1, v1, rfl⟩
      exact k H1
end
def dd_law_take : He.DefD := ⟨("_law_take", none), "_law_take", "_law_take", defArgs st_law_take, defBody st_law_take, defScope st_law_take, [], []⟩
def dd_law_labels : He.DefD := ⟨("_law_labels", none), "_law_labels", "_law_labels", defArgs st_law_labels, defBody st_law_labels, defScope st_law_labels, [], []⟩
def dd_law_depth : He.DefD := ⟨("_law_depth", none), "_law_depth", "_law_depth", defArgs st_law_depth, defBody st_law_depth, defScope st_law_depth, [], []⟩
def dd_law_rows : He.DefD := ⟨("_law_rows", none), "_law_rows", "_law_rows", defArgs st_law_rows, defBody st_law_rows, defScope st_law_rows, [], []⟩
def dd_law_steps : He.DefD := ⟨("_law_steps", none), "_law_steps", "_law_steps", defArgs st_law_steps, defBody st_law_steps, defScope st_law_steps, [], []⟩
def dd_law_world : He.DefD := ⟨("_law_world", none), "_law_world", "_law_world", defArgs st_law_world, defBody st_law_world, defScope st_law_world, [], []⟩
def dd_law_source : He.DefD := ⟨("_law_source", none), "_law_source", "_law_source", defArgs st_law_source, defBody st_law_source, defScope st_law_source, [], []⟩
def dd_law_beneath : He.DefD := ⟨("_law_beneath", none), "_law_beneath", "_law_beneath", defArgs st_law_beneath, defBody st_law_beneath, defScope st_law_beneath, [], []⟩
def dd_law_uppers : He.DefD := ⟨("_law_uppers", none), "_law_uppers", "_law_uppers", defArgs st_law_uppers, defBody st_law_uppers, defScope st_law_uppers, [], []⟩
def dd_law_down : He.DefD := ⟨("_law_down", none), "_law_down", "_law_down", defArgs st_law_down, defBody st_law_down, defScope st_law_down, [], []⟩
def dd_law_full : He.DefD := ⟨("_law_full", none), "_law_full", "_law_full", defArgs st_law_full, defBody st_law_full, defScope st_law_full, [], []⟩
def dd_is_whole : He.DefD := ⟨("is_whole", none), "is_whole", "is_whole", defArgs st_is_whole, defBody st_is_whole, defScope st_is_whole, [], []⟩
def dd_is_within : He.DefD := ⟨("is_within", none), "is_within", "is_within", defArgs st_is_within, defBody st_is_within, defScope st_is_within, [], []⟩
def dd_is_label : He.DefD := ⟨("is_label", none), "is_label", "is_label", defArgs st_is_label, defBody st_is_label, defScope st_is_label, [], []⟩
def dd_is_part_row : He.DefD := ⟨("is_part_row", none), "is_part_row", "is_part_row", defArgs st_is_part_row, defBody st_is_part_row, defScope st_is_part_row, [], []⟩
def dd_ends_by : He.DefD := ⟨("ends_by", none), "ends_by", "ends_by", defArgs st_ends_by, defBody st_ends_by, defScope st_ends_by, [], []⟩
def dd_uppers_by : He.DefD := ⟨("uppers_by", none), "uppers_by", "uppers_by", defArgs st_uppers_by, defBody st_uppers_by, defScope st_uppers_by, [], []⟩
def dd_Document_init : He.DefD := ⟨("Document", some "__init__"), "__init__", "Document.__init__", defArgs st_Document_init, defBody st_Document_init, defScope st_Document_init, [], []⟩
def dd_is_step_row : He.DefD := ⟨("is_step_row", none), "is_step_row", "is_step_row", defArgs st_is_step_row, defBody st_is_step_row, defScope st_is_step_row, [], []⟩
def dd_Straight_init : He.DefD := ⟨("Straight", some "__init__"), "__init__", "Step.__init__", defArgs st_Straight_init, defBody st_Straight_init, defScope st_Straight_init, [], []⟩
def dd_Anywhere_init : He.DefD := ⟨("Anywhere", some "__init__"), "__init__", "Step.__init__", defArgs st_Anywhere_init, defBody st_Anywhere_init, defScope st_Anywhere_init, [], []⟩
def dd_step_of : He.DefD := ⟨("step_of", none), "step_of", "step_of", defArgs st_step_of, defBody st_step_of, defScope st_step_of, [], []⟩
def dd_Question_init : He.DefD := ⟨("Question", some "__init__"), "__init__", "Question.__init__", defArgs st_Question_init, defBody st_Question_init, defScope st_Question_init, [], []⟩
def dd_law_same : He.DefD := ⟨("_law_same", none), "_law_same", "_law_same", defArgs st_law_same, defBody st_law_same, defScope st_law_same, [], []⟩
def dd_Question_many : He.DefD := ⟨("Question", some "many"), "many", "Question.many", defArgs st_Question_many, defBody st_Question_many, defScope st_Question_many, [], []⟩
def dd_Question_need_step : He.DefD := ⟨("Question", some "need_step"), "need_step", "Question.need_step", defArgs st_Question_need_step, defBody st_Question_need_step, defScope st_Question_need_step, [], []⟩
def dd_Question_lowers_of : He.DefD := ⟨("Question", some "lowers_of"), "lowers_of", "Question.lowers_of", defArgs st_Question_lowers_of, defBody st_Question_lowers_of, defScope st_Question_lowers_of, [], []⟩
def dd_Document_need_part : He.DefD := ⟨("Document", some "need_part"), "need_part", "Document.need_part", defArgs st_Document_need_part, defBody st_Document_need_part, defScope st_Document_need_part, [], []⟩
def dd_Document_upper_of : He.DefD := ⟨("Document", some "upper_of"), "upper_of", "Document.upper_of", defArgs st_Document_upper_of, defBody st_Document_upper_of, defScope st_Document_upper_of, [], []⟩
def dd_with_beneath : He.DefD := ⟨("with_beneath", none), "with_beneath", "with_beneath", defArgs st_with_beneath, defBody st_with_beneath, defScope st_with_beneath, [], []⟩
def dd_Straight_way : He.DefD := ⟨("Straight", some "way"), "way", "Straight.way", defArgs st_Straight_way, defBody st_Straight_way, defScope st_Straight_way, [], []⟩
def dd_Anywhere_way : He.DefD := ⟨("Anywhere", some "way"), "way", "Anywhere.way", defArgs st_Anywhere_way, defBody st_Anywhere_way, defScope st_Anywhere_way, [], []⟩
def dd_Question_step_at : He.DefD := ⟨("Question", some "step_at"), "step_at", "Question.step_at", defArgs st_Question_step_at, defBody st_Question_step_at, defScope st_Question_step_at, [], []⟩
def dd_Document_parts_of : He.DefD := ⟨("Document", some "parts_of"), "parts_of", "Document.parts_of", defArgs st_Document_parts_of, defBody st_Document_parts_of, defScope st_Document_parts_of, [], []⟩
def dd_down_row : He.DefD := ⟨("down_row", none), "down_row", "down_row", defArgs st_down_row, defBody st_down_row, defScope st_down_row, [], []⟩
def dd_down_table : He.DefD := ⟨("down_table", none), "down_table", "down_table", defArgs st_down_table, defBody st_down_table, defScope st_down_table, [], []⟩
def dd_Question_upper_of : He.DefD := ⟨("Question", some "upper_of"), "upper_of", "Question.upper_of", defArgs st_Question_upper_of, defBody st_Question_upper_of, defScope st_Question_upper_of, [], []⟩
def dd_Document_lowers_of : He.DefD := ⟨("Document", some "lowers_of"), "lowers_of", "Document.lowers_of", defArgs st_Document_lowers_of, defBody st_Document_lowers_of, defScope st_Document_lowers_of, [], []⟩
def dd_Document_end_of : He.DefD := ⟨("Document", some "end_of"), "end_of", "Document.end_of", defArgs st_Document_end_of, defBody st_Document_end_of, defScope st_Document_end_of, [], []⟩
def dd_with_above : He.DefD := ⟨("with_above", none), "with_above", "with_above", defArgs st_with_above, defBody st_with_above, defScope st_with_above, [], []⟩
def dd_full_row : He.DefD := ⟨("full_row", none), "full_row", "full_row", defArgs st_full_row, defBody st_full_row, defScope st_full_row, [], []⟩
def dd_full_table : He.DefD := ⟨("full_table", none), "full_table", "full_table", defArgs st_full_table, defBody st_full_table, defScope st_full_table, [], []⟩
def dd_law_right : He.DefD := ⟨("_law_right", none), "_law_right", "_law_right", defArgs st_law_right, defBody st_law_right, defScope st_law_right, [], []⟩
def dd_law_cell_at : He.DefD := ⟨("_law_cell_at", none), "_law_cell_at", "_law_cell_at", defArgs st_law_cell_at, defBody st_law_cell_at, defScope st_law_cell_at, [], []⟩
def dd_law : He.DefD := ⟨("law", none), "law", "law", defArgs st_law, defBody st_law, defScope st_law, [], []⟩
def fns : List He.DefD := [dd_law_take, dd_law_labels, dd_law_depth, dd_law_rows, dd_law_steps, dd_law_world, dd_law_source, dd_law_beneath, dd_law_uppers, dd_law_down, dd_law_full, dd_is_whole, dd_is_within, dd_is_label, dd_is_part_row, dd_ends_by, dd_uppers_by, dd_Document_init, dd_is_step_row, dd_Straight_init, dd_Anywhere_init, dd_step_of, dd_Question_init, dd_law_same, dd_Question_many, dd_Question_need_step, dd_Question_lowers_of, dd_Document_need_part, dd_Document_upper_of, dd_with_beneath, dd_Straight_way, dd_Anywhere_way, dd_Question_step_at, dd_Document_parts_of, dd_down_row, dd_down_table, dd_Question_upper_of, dd_Document_lowers_of, dd_Document_end_of, dd_with_above, dd_full_row, dd_full_table, dd_law_right, dd_law_cell_at, dd_law]
def facs : List He.Fa := ([.free "range", .free "len", .free "min", .free "max", .free "int", .free "enumerate", .free "isinstance", .free "bool", .free "str", .int "MOST_LETTERS" 8, .free "all", .str "LETTERS" "abcdefghijklmnopqrstuvwxyz", .free "tuple", .free "list", .int "MOST_PARTS" 240, .int "MOST_DEEP_document" 80, .glo "WAYS", .int "MOST_STEPS" 100, .int "MOST_DEEP_question" 30, .free "reversed", .cls "Document", .noat "Document" "parts", .noat "Document" "ends", .noat "Document" "uppers", .cls "Straight", .noat "Straight" "label", .cls "Anywhere", .noat "Anywhere" "label", .cls "Question", .noat "Question" "given_rows"] : List He.Fa) ++ ([.noat "Question" "goal", .noat "Question" "steps", .noat "Question" "ends", .noat "Question" "uppers", .glo "_law_take", .glo "_law_labels", .glo "_law_depth", .glo "_law_rows", .glo "_law_steps", .glo "_law_world", .glo "_law_source", .glo "_law_beneath", .glo "_law_uppers", .glo "_law_down", .glo "_law_full", .glo "is_whole", .glo "is_within", .glo "is_label", .glo "is_part_row", .glo "ends_by", .glo "uppers_by", .mkr "Document", .glo "Document", .glo "is_step_row", .mkr "Straight", .glo "Straight", .mkr "Anywhere", .glo "Anywhere", .glo "step_of", .mkr "Question"] : List He.Fa) ++ ([.glo "Question", .glo "_law_same", .meth "Question" "many", .meth "Question" "need_step", .meth "Question" "lowers_of", .meth "Document" "need_part", .meth "Document" "upper_of", .glo "with_beneath", .meth "Straight" "way", .meth "Anywhere" "way", .meth "Question" "step_at", .meth "Document" "parts_of", .glo "down_row", .glo "down_table", .meth "Question" "upper_of", .meth "Document" "lowers_of", .meth "Document" "end_of", .glo "with_above", .glo "full_row", .glo "full_table", .glo "_law_right", .glo "_law_cell_at", .glo "law"] : List He.Fa)
def loose : List Str := (["_wall", "LETTERS", "MOST_LETTERS", "is_whole", "is_within", "is_label", "with_beneath", "with_above", "down_row", "full_row", "down_table", "full_table", "BoughError", "NoPart", "NoStep", "NoDocument", "NoQuestion", "NoWanted", "TooMany", "MOST_PARTS", "MOST_DEEP_document", "ends_by", "uppers_by", "is_part_row", "Document", "Step", "Straight", "Anywhere", "step_of", "MOST_STEPS"] : List Str) ++ (["MOST_DEEP_question", "WAYS", "is_step_row", "Question", "_law_cell_at", "_law_source", "_law_take", "_law_labels", "_law_depth", "_law_rows", "_law_steps", "_law_uppers", "_law_beneath", "_law_world", "_law_down", "_law_full", "_law_same", "_law_right"] : List Str)
abbrev RR : PySem.W.OpenRow := PySem.W.OpenLaw.row PySem.Challenge.rw_boughask_k21_tables_told
def exs (K : PySem.W.Frag) : List Bool := [He.lstB K "WAYS" [.str "/", .str "//"]]
abbrev hk : PySem.W.Hook := hookE 6 facs fns exs
def ob (s : PySem.W.SharedT) : He.AlD × Bool := obsE 6 facs fns exs (HandSHeadRun.getT s)
theorem ob_eq (s : PySem.W.SharedT) : ob s = hk.obs s.abs := obsE_eq (HandSHeadRun.getT_eq s)
theorem run (w : World) : HandSHeadRun.RunEq RR (PySem.W.view RR.prog [55]) hk ob 20000 loose w := by
  intro os
  kernel_rfl
theorem facts {P : Program} {w : World} {K : PySem.W.Frag} {h : Heap} {mg : Str → Option Value} {fl : Addr} (X : K.In h) (G : h.Ns mainGlobals mg) (hfa : mg ("law" : Str) = some (.ref fl)) (c : He.SaysD facs fns K) (cx : (exs K).all id = true) :
    ∃ fd : FuncData, (∀ (s : Shared) (v : Value), BindsTo s fd ⟨[v], []⟩ [("_law_script", v)]) ∧ ∀ base : Heap, K.In base → base.Ns mainGlobals mg → FnOk P w K mg base CX0 10 fl fd ["_law_script"] (sp_law K) := by
  obtain ⟨fd_law_take, F_law_take⟩ := c.def_ 0 (d := dd_law_take) rfl
  obtain ⟨fd_law_labels, F_law_labels⟩ := c.def_ 1 (d := dd_law_labels) rfl
  obtain ⟨fd_law_depth, F_law_depth⟩ := c.def_ 2 (d := dd_law_depth) rfl
  obtain ⟨fd_law_rows, F_law_rows⟩ := c.def_ 3 (d := dd_law_rows) rfl
  obtain ⟨fd_law_steps, F_law_steps⟩ := c.def_ 4 (d := dd_law_steps) rfl
  obtain ⟨fd_law_world, F_law_world⟩ := c.def_ 5 (d := dd_law_world) rfl
  obtain ⟨fd_law_source, F_law_source⟩ := c.def_ 6 (d := dd_law_source) rfl
  obtain ⟨fd_law_beneath, F_law_beneath⟩ := c.def_ 7 (d := dd_law_beneath) rfl
  obtain ⟨fd_law_uppers, F_law_uppers⟩ := c.def_ 8 (d := dd_law_uppers) rfl
  obtain ⟨fd_law_down, F_law_down⟩ := c.def_ 9 (d := dd_law_down) rfl
  obtain ⟨fd_law_full, F_law_full⟩ := c.def_ 10 (d := dd_law_full) rfl
  obtain ⟨fd_is_whole, F_is_whole⟩ := c.def_ 11 (d := dd_is_whole) rfl
  obtain ⟨fd_is_within, F_is_within⟩ := c.def_ 12 (d := dd_is_within) rfl
  obtain ⟨fd_is_label, F_is_label⟩ := c.def_ 13 (d := dd_is_label) rfl
  obtain ⟨fd_is_part_row, F_is_part_row⟩ := c.def_ 14 (d := dd_is_part_row) rfl
  obtain ⟨fd_ends_by, F_ends_by⟩ := c.def_ 15 (d := dd_ends_by) rfl
  obtain ⟨fd_uppers_by, F_uppers_by⟩ := c.def_ 16 (d := dd_uppers_by) rfl
  obtain ⟨fd_Document_init, F_Document_init⟩ := c.def_ 17 (d := dd_Document_init) rfl
  obtain ⟨fd_is_step_row, F_is_step_row⟩ := c.def_ 18 (d := dd_is_step_row) rfl
  obtain ⟨fd_Straight_init, F_Straight_init⟩ := c.def_ 19 (d := dd_Straight_init) rfl
  obtain ⟨fd_Anywhere_init, F_Anywhere_init⟩ := c.def_ 20 (d := dd_Anywhere_init) rfl
  obtain ⟨fd_step_of, F_step_of⟩ := c.def_ 21 (d := dd_step_of) rfl
  obtain ⟨fd_Question_init, F_Question_init⟩ := c.def_ 22 (d := dd_Question_init) rfl
  obtain ⟨fd_law_same, F_law_same⟩ := c.def_ 23 (d := dd_law_same) rfl
  obtain ⟨fd_Question_many, F_Question_many⟩ := c.def_ 24 (d := dd_Question_many) rfl
  obtain ⟨fd_Question_need_step, F_Question_need_step⟩ := c.def_ 25 (d := dd_Question_need_step) rfl
  obtain ⟨fd_Question_lowers_of, F_Question_lowers_of⟩ := c.def_ 26 (d := dd_Question_lowers_of) rfl
  obtain ⟨fd_Document_need_part, F_Document_need_part⟩ := c.def_ 27 (d := dd_Document_need_part) rfl
  obtain ⟨fd_Document_upper_of, F_Document_upper_of⟩ := c.def_ 28 (d := dd_Document_upper_of) rfl
  obtain ⟨fd_with_beneath, F_with_beneath⟩ := c.def_ 29 (d := dd_with_beneath) rfl
  obtain ⟨fd_Straight_way, F_Straight_way⟩ := c.def_ 30 (d := dd_Straight_way) rfl
  obtain ⟨fd_Anywhere_way, F_Anywhere_way⟩ := c.def_ 31 (d := dd_Anywhere_way) rfl
  obtain ⟨fd_Question_step_at, F_Question_step_at⟩ := c.def_ 32 (d := dd_Question_step_at) rfl
  obtain ⟨fd_Document_parts_of, F_Document_parts_of⟩ := c.def_ 33 (d := dd_Document_parts_of) rfl
  obtain ⟨fd_down_row, F_down_row⟩ := c.def_ 34 (d := dd_down_row) rfl
  obtain ⟨fd_down_table, F_down_table⟩ := c.def_ 35 (d := dd_down_table) rfl
  obtain ⟨fd_Question_upper_of, F_Question_upper_of⟩ := c.def_ 36 (d := dd_Question_upper_of) rfl
  obtain ⟨fd_Document_lowers_of, F_Document_lowers_of⟩ := c.def_ 37 (d := dd_Document_lowers_of) rfl
  obtain ⟨fd_Document_end_of, F_Document_end_of⟩ := c.def_ 38 (d := dd_Document_end_of) rfl
  obtain ⟨fd_with_above, F_with_above⟩ := c.def_ 39 (d := dd_with_above) rfl
  obtain ⟨fd_full_row, F_full_row⟩ := c.def_ 40 (d := dd_full_row) rfl
  obtain ⟨fd_full_table, F_full_table⟩ := c.def_ 41 (d := dd_full_table) rfl
  obtain ⟨fd_law_right, F_law_right⟩ := c.def_ 42 (d := dd_law_right) rfl
  obtain ⟨fd_law_cell_at, F_law_cell_at⟩ := c.def_ 43 (d := dd_law_cell_at) rfl
  obtain ⟨fd_law, F_law⟩ := c.def_ 44 (d := dd_law) rfl
  have T : Txt K mg := { free_range := He.free_ok X G (c.fact 0 (f := .free "range") rfl), free_len := He.free_ok X G (c.fact 1 (f := .free "len") rfl), free_min := He.free_ok X G (c.fact 2 (f := .free "min") rfl), free_max := He.free_ok X G (c.fact 3 (f := .free "max") rfl), free_int := He.free_ok X G (c.fact 4 (f := .free "int") rfl), free_enumerate := He.free_ok X G (c.fact 5 (f := .free "enumerate") rfl), free_isinstance := He.free_ok X G (c.fact 6 (f := .free "isinstance") rfl), free_bool := He.free_ok X G (c.fact 7 (f := .free "bool") rfl), free_str := He.free_ok X G (c.fact 8 (f := .free "str") rfl), g_MOST_LETTERS := He.int_ok X G (c.fact 9 (f := .int "MOST_LETTERS" 8) rfl), free_all := He.free_ok X G (c.fact 10 (f := .free "all") rfl), g_LETTERS := He.str_ok X G (c.fact 11 (f := .str "LETTERS" "abcdefghijklmnopqrstuvwxyz") rfl), free_tuple := He.free_ok X G (c.fact 12 (f := .free "tuple") rfl), free_list := He.free_ok X G (c.fact 13 (f := .free "list") rfl), g_MOST_PARTS := He.int_ok X G (c.fact 14 (f := .int "MOST_PARTS" 240) rfl), g_MOST_DEEP_document := He.int_ok X G (c.fact 15 (f := .int "MOST_DEEP_document" 80) rfl), glo_WAYS := He.glo_ok X G (c.fact 16 (f := .glo "WAYS") rfl), ls_WAYS := He.lstB_ok (ex_at 0 cx), g_MOST_STEPS := He.int_ok X G (c.fact 17 (f := .int "MOST_STEPS" 100) rfl), g_MOST_DEEP_question := He.int_ok X G (c.fact 18 (f := .int "MOST_DEEP_question" 30) rfl), free_reversed := He.free_ok X G (c.fact 19 (f := .free "reversed") rfl), cl_Document := He.cls_ok (c.fact 20 (f := .cls "Document") rfl), na_Document_parts := He.noat_ok (c.fact 21 (f := .noat "Document" "parts") rfl), na_Document_ends := He.noat_ok (c.fact 22 (f := .noat "Document" "ends") rfl), na_Document_uppers := He.noat_ok (c.fact 23 (f := .noat "Document" "uppers") rfl), cl_Straight := He.cls_ok (c.fact 24 (f := .cls "Straight") rfl), na_Straight_label := He.noat_ok (c.fact 25 (f := .noat "Straight" "label") rfl), cl_Anywhere := He.cls_ok (c.fact 26 (f := .cls "Anywhere") rfl), na_Anywhere_label := He.noat_ok (c.fact 27 (f := .noat "Anywhere" "label") rfl), cl_Question := He.cls_ok (c.fact 28 (f := .cls "Question") rfl), na_Question_given_rows := He.noat_ok (c.fact 29 (f := .noat "Question" "given_rows") rfl), na_Question_goal := He.noat_ok (c.fact 30 (f := .noat "Question" "goal") rfl), na_Question_steps := He.noat_ok (c.fact 31 (f := .noat "Question" "steps") rfl), na_Question_ends := He.noat_ok (c.fact 32 (f := .noat "Question" "ends") rfl), na_Question_uppers := He.noat_ok (c.fact 33 (f := .noat "Question" "uppers") rfl) }
  have e := hfa.symm.trans (He.glo_ok X G (c.fact 82 (f := .glo "law") rfl))
  cases e
  have b := FunD.bindsA (ps := ["_law_script"]) F_law fun _ _ _ _ _ _ us hl => match us, hl with | [_], _ => rfl
  refine ⟨fd_law, fun s v => b s [v] rfl, fun base _ _ => ?_⟩
  have G_law_take : Fn P w K mg base CX0 1 "_law_take" ["_law_source_here", "_law_many"] (sp_law_take K) := ⟨_, _, (ok_law_take (P := P) (w := w) (base := base) T F_law_take ), He.glo_ok X G (c.fact 34 (f := .glo "_law_take") rfl), F_law_take.kp, (F_law_take.bindsN fun _ _ _ _ _ _ us hl => match us, hl with | [_, _], _ => rfl)⟩
  have G_law_labels : Fn P w K mg base CX0 2 "_law_labels" ["_law_source_here", "_law_many"] (sp_law_labels K) := ⟨_, _, (ok_law_labels (P := P) (w := w) (base := base) T F_law_labels G_law_take), He.glo_ok X G (c.fact 35 (f := .glo "_law_labels") rfl), F_law_labels.kp, (F_law_labels.bindsN fun _ _ _ _ _ _ us hl => match us, hl with | [_, _], _ => rfl)⟩
  have G_law_depth : Fn P w K mg base CX0 2 "_law_depth" ["_law_source_here", "_law_shape", "_law_above"] (sp_law_depth K) := ⟨_, _, (ok_law_depth (P := P) (w := w) (base := base) T F_law_depth G_law_take), He.glo_ok X G (c.fact 36 (f := .glo "_law_depth") rfl), F_law_depth.kp, (F_law_depth.bindsN fun _ _ _ _ _ _ us hl => match us, hl with | [_, _, _], _ => rfl)⟩
  have G_law_rows : Fn P w K mg base CX0 3 "_law_rows" ["_law_source_here", "_law_labels_here", "_law_most", "_law_deep"] (sp_law_rows K) := ⟨_, _, (ok_law_rows (P := P) (w := w) (base := base) T F_law_rows G_law_take G_law_depth), He.glo_ok X G (c.fact 37 (f := .glo "_law_rows") rfl), F_law_rows.kp, (F_law_rows.bindsN fun _ _ _ _ _ _ us hl => match us, hl with | [_, _, _, _], _ => rfl)⟩
  have G_law_steps : Fn P w K mg base CX0 4 "_law_steps" ["_law_source_here", "_law_labels_here", "_law_most", "_law_deep"] (sp_law_steps K) := ⟨_, _, (ok_law_steps (P := P) (w := w) (base := base) T F_law_steps G_law_rows G_law_take), He.glo_ok X G (c.fact 38 (f := .glo "_law_steps") rfl), F_law_steps.kp, (F_law_steps.bindsN fun _ _ _ _ _ _ us hl => match us, hl with | [_, _, _, _], _ => rfl)⟩
  have G_law_world : Fn P w K mg base CX0 5 "_law_world" ["_law_source_here", "_law_most", "_law_steps_here"] (sp_law_world K) := ⟨_, _, (ok_law_world (P := P) (w := w) (base := base) T F_law_world G_law_labels G_law_take G_law_rows G_law_steps), He.glo_ok X G (c.fact 39 (f := .glo "_law_world") rfl), F_law_world.kp, (F_law_world.bindsN fun _ _ _ _ _ _ us hl => match us, hl with | [_, _, _], _ => rfl)⟩
  have G_law_source : Fn P w K mg base CX0 1 "_law_source" ["_law_cell"] (sp_law_source K) := ⟨_, _, (ok_law_source (P := P) (w := w) (base := base) T F_law_source ), He.glo_ok X G (c.fact 40 (f := .glo "_law_source") rfl), F_law_source.kp, (F_law_source.bindsN fun _ _ _ _ _ _ us hl => match us, hl with | [_], _ => rfl)⟩
  have G_law_beneath : Fn P w K mg base CX0 1 "_law_beneath" ["_law_uppers_here", "_law_way"] (sp_law_beneath K) := ⟨_, _, (ok_law_beneath (P := P) (w := w) (base := base) T F_law_beneath ), He.glo_ok X G (c.fact 41 (f := .glo "_law_beneath") rfl), F_law_beneath.kp, (F_law_beneath.bindsN fun _ _ _ _ _ _ us hl => match us, hl with | [_, _], _ => rfl)⟩
  have G_law_uppers : Fn P w K mg base CX0 1 "_law_uppers" ["_law_depths"] (sp_law_uppers K) := ⟨_, _, (ok_law_uppers (P := P) (w := w) (base := base) T F_law_uppers ), He.glo_ok X G (c.fact 42 (f := .glo "_law_uppers") rfl), F_law_uppers.kp, (F_law_uppers.bindsN fun _ _ _ _ _ _ us hl => match us, hl with | [_], _ => rfl)⟩
  have G_law_down : Fn P w K mg base CX0 2 "_law_down" ["_law_parts", "_law_steps_here"] (sp_law_down K) := ⟨_, _, (ok_law_down (P := P) (w := w) (base := base) T F_law_down G_law_beneath G_law_uppers), He.glo_ok X G (c.fact 43 (f := .glo "_law_down") rfl), F_law_down.kp, (F_law_down.bindsN fun _ _ _ _ _ _ us hl => match us, hl with | [_, _], _ => rfl)⟩
  have G_law_full : Fn P w K mg base CX0 2 "_law_full" ["_law_parts", "_law_steps_here", "_law_down_here"] (sp_law_full K) := ⟨_, _, (ok_law_full (P := P) (w := w) (base := base) T F_law_full G_law_beneath G_law_uppers), He.glo_ok X G (c.fact 44 (f := .glo "_law_full") rfl), F_law_full.kp, (F_law_full.bindsN fun _ _ _ _ _ _ us hl => match us, hl with | [_, _, _], _ => rfl)⟩
  have G_is_whole : Fn P w K mg base CX0 1 "is_whole" ["thing"] (sp_is_whole K) := ⟨_, _, (ok_is_whole (P := P) (w := w) (base := base) T F_is_whole ), He.glo_ok X G (c.fact 45 (f := .glo "is_whole") rfl), F_is_whole.kp, (F_is_whole.bindsN fun _ _ _ _ _ _ us hl => match us, hl with | [_], _ => rfl)⟩
  have G_is_within : Fn P w K mg base CX0 2 "is_within" ["thing", "low", "high"] (sp_is_within K) := ⟨_, _, (ok_is_within (P := P) (w := w) (base := base) T F_is_within G_is_whole), He.glo_ok X G (c.fact 46 (f := .glo "is_within") rfl), F_is_within.kp, (F_is_within.bindsN fun _ _ _ _ _ _ us hl => match us, hl with | [_, _, _], _ => rfl)⟩
  have G_is_label : Fn P w K mg base CX0 1 "is_label" ["thing"] (sp_is_label K) := ⟨_, _, (ok_is_label (P := P) (w := w) (base := base) T F_is_label ), He.glo_ok X G (c.fact 47 (f := .glo "is_label") rfl), F_is_label.kp, (F_is_label.bindsN fun _ _ _ _ _ _ us hl => match us, hl with | [_], _ => rfl)⟩
  have G_is_part_row : Fn P w K mg base CX0 3 "is_part_row" ["thing", "deepest"] (sp_is_part_row K) := ⟨_, _, (ok_is_part_row (P := P) (w := w) (base := base) T F_is_part_row G_is_within G_is_label), He.glo_ok X G (c.fact 48 (f := .glo "is_part_row") rfl), F_is_part_row.kp, (F_is_part_row.bindsN fun _ _ _ _ _ _ us hl => match us, hl with | [_, _], _ => rfl)⟩
  have G_ends_by : Fn P w K mg base CX0 1 "ends_by" ["depths"] (sp_ends_by K) := ⟨_, _, (ok_ends_by (P := P) (w := w) (base := base) T F_ends_by ), He.glo_ok X G (c.fact 49 (f := .glo "ends_by") rfl), F_ends_by.kp, (F_ends_by.bindsN fun _ _ _ _ _ _ us hl => match us, hl with | [_], _ => rfl)⟩
  have G_uppers_by : Fn P w K mg base CX0 1 "uppers_by" ["depths"] (sp_uppers_by K) := ⟨_, _, (ok_uppers_by (P := P) (w := w) (base := base) T F_uppers_by ), He.glo_ok X G (c.fact 50 (f := .glo "uppers_by") rfl), F_uppers_by.kp, (F_uppers_by.bindsN fun _ _ _ _ _ _ us hl => match us, hl with | [_], _ => rfl)⟩
  have M_Document : Mkr P w K mg base CX0 4 (He.ga K "Document") "Document" ["self", "rows"] (sp_Document_init K) := ⟨_, _, (ok_Document_init (P := P) (w := w) (base := base) T F_Document_init G_is_part_row G_ends_by G_uppers_by), He.mkr_ok (c.fact 51 (f := .mkr "Document") rfl), He.glo_ok X G (c.fact 52 (f := .glo "Document") rfl), (F_Document_init.bindsN fun _ _ _ _ _ _ us hl => match us, hl with | [_, _], _ => rfl)⟩
  have G_is_step_row : Fn P w K mg base CX0 3 "is_step_row" ["thing", "deepest"] (sp_is_step_row K) := ⟨_, _, (ok_is_step_row (P := P) (w := w) (base := base) T F_is_step_row G_is_within G_is_label), He.glo_ok X G (c.fact 53 (f := .glo "is_step_row") rfl), F_is_step_row.kp, (F_is_step_row.bindsN fun _ _ _ _ _ _ us hl => match us, hl with | [_, _], _ => rfl)⟩
  have M_Straight : Mkr P w K mg base CX0 1 (He.ga K "Straight") "Straight" ["self", "label"] (sp_Straight_init K) := ⟨_, _, (ok_Straight_init (P := P) (w := w) (base := base) T F_Straight_init ), He.mkr_ok (c.fact 54 (f := .mkr "Straight") rfl), He.glo_ok X G (c.fact 55 (f := .glo "Straight") rfl), (F_Straight_init.bindsN fun _ _ _ _ _ _ us hl => match us, hl with | [_, _], _ => rfl)⟩
  have M_Anywhere : Mkr P w K mg base CX0 1 (He.ga K "Anywhere") "Anywhere" ["self", "label"] (sp_Anywhere_init K) := ⟨_, _, (ok_Anywhere_init (P := P) (w := w) (base := base) T F_Anywhere_init ), He.mkr_ok (c.fact 56 (f := .mkr "Anywhere") rfl), He.glo_ok X G (c.fact 57 (f := .glo "Anywhere") rfl), (F_Anywhere_init.bindsN fun _ _ _ _ _ _ us hl => match us, hl with | [_, _], _ => rfl)⟩
  have G_step_of : Fn P w K mg base CX0 3 "step_of" ["way", "label"] (sp_step_of K) := ⟨_, _, (ok_step_of (P := P) (w := w) (base := base) T F_step_of M_Straight M_Anywhere), He.glo_ok X G (c.fact 58 (f := .glo "step_of") rfl), F_step_of.kp, (F_step_of.bindsN fun _ _ _ _ _ _ us hl => match us, hl with | [_, _], _ => rfl)⟩
  have M_Question : Mkr P w K mg base CX0 4 (He.ga K "Question") "Question" ["self", "rows", "wanted"] (sp_Question_init K) := ⟨_, _, (ok_Question_init (P := P) (w := w) (base := base) T F_Question_init G_is_step_row G_is_within G_step_of G_ends_by G_uppers_by), He.mkr_ok (c.fact 59 (f := .mkr "Question") rfl), He.glo_ok X G (c.fact 60 (f := .glo "Question") rfl), (F_Question_init.bindsN fun _ _ _ _ _ _ us hl => match us, hl with | [_, _, _], _ => rfl)⟩
  have G_law_same : Fn P w K mg base CX0 1 "_law_same" ["_law_found", "_law_due"] (sp_law_same K) := ⟨_, _, (ok_law_same (P := P) (w := w) (base := base) T F_law_same ), He.glo_ok X G (c.fact 61 (f := .glo "_law_same") rfl), F_law_same.kp, (F_law_same.bindsN fun _ _ _ _ _ _ us hl => match us, hl with | [_, _], _ => rfl)⟩
  have G_Question_many : Mt P w K mg base CX0 1 (He.ga K "Question") "many" ["self"] (sp_Question_many K) := ⟨_, _, (ok_Question_many (P := P) (w := w) (base := base) T F_Question_many ), He.meth_ok (c.fact 62 (f := .meth "Question" "many") rfl), T.cl_Question, (F_Question_many.bindsN fun _ _ _ _ _ _ us hl => match us, hl with | [_], _ => rfl)⟩
  have G_Question_need_step : Mt P w K mg base CX0 3 (He.ga K "Question") "need_step" ["self", "step"] (sp_Question_need_step K) := ⟨_, _, (ok_Question_need_step (P := P) (w := w) (base := base) T F_Question_need_step G_is_within), He.meth_ok (c.fact 63 (f := .meth "Question" "need_step") rfl), T.cl_Question, (F_Question_need_step.bindsN fun _ _ _ _ _ _ us hl => match us, hl with | [_, _], _ => rfl)⟩
  have G_Question_lowers_of : Mt P w K mg base CX0 4 (He.ga K "Question") "lowers_of" ["self", "step"] (sp_Question_lowers_of K) := ⟨_, _, (ok_Question_lowers_of (P := P) (w := w) (base := base) T F_Question_lowers_of G_Question_need_step), He.meth_ok (c.fact 64 (f := .meth "Question" "lowers_of") rfl), T.cl_Question, (F_Question_lowers_of.bindsN fun _ _ _ _ _ _ us hl => match us, hl with | [_, _], _ => rfl)⟩
  have G_Document_need_part : Mt P w K mg base CX0 3 (He.ga K "Document") "need_part" ["self", "part"] (sp_Document_need_part K) := ⟨_, _, (ok_Document_need_part (P := P) (w := w) (base := base) T F_Document_need_part G_is_within), He.meth_ok (c.fact 65 (f := .meth "Document" "need_part") rfl), T.cl_Document, (F_Document_need_part.bindsN fun _ _ _ _ _ _ us hl => match us, hl with | [_, _], _ => rfl)⟩
  have G_Document_upper_of : Mt P w K mg base CX0 4 (He.ga K "Document") "upper_of" ["self", "part"] (sp_Document_upper_of K) := ⟨_, _, (ok_Document_upper_of (P := P) (w := w) (base := base) T F_Document_upper_of G_Document_need_part), He.meth_ok (c.fact 66 (f := .meth "Document" "upper_of") rfl), T.cl_Document, (F_Document_upper_of.bindsN fun _ _ _ _ _ _ us hl => match us, hl with | [_, _], _ => rfl)⟩
  have G_with_beneath : Fn P w K mg base CX0 5 "with_beneath" ["document", "parts", "way"] (sp_with_beneath K) := ⟨_, _, (ok_with_beneath (P := P) (w := w) (base := base) T F_with_beneath G_Document_upper_of), He.glo_ok X G (c.fact 67 (f := .glo "with_beneath") rfl), F_with_beneath.kp, (F_with_beneath.bindsN fun _ _ _ _ _ _ us hl => match us, hl with | [_, _, _], _ => rfl)⟩
  have G_Straight_way : Mt P w K mg base CX0 1 (He.ga K "Straight") "way" ["self"] (sp_Straight_way K) := ⟨_, _, (ok_Straight_way (P := P) (w := w) (base := base) T F_Straight_way ), He.meth_ok (c.fact 68 (f := .meth "Straight" "way") rfl), T.cl_Straight, (F_Straight_way.bindsN fun _ _ _ _ _ _ us hl => match us, hl with | [_], _ => rfl)⟩
  have G_Anywhere_way : Mt P w K mg base CX0 1 (He.ga K "Anywhere") "way" ["self"] (sp_Anywhere_way K) := ⟨_, _, (ok_Anywhere_way (P := P) (w := w) (base := base) T F_Anywhere_way ), He.meth_ok (c.fact 69 (f := .meth "Anywhere" "way") rfl), T.cl_Anywhere, (F_Anywhere_way.bindsN fun _ _ _ _ _ _ us hl => match us, hl with | [_], _ => rfl)⟩
  have G_Question_step_at : Mt P w K mg base CX0 4 (He.ga K "Question") "step_at" ["self", "step"] (sp_Question_step_at K) := ⟨_, _, (ok_Question_step_at (P := P) (w := w) (base := base) T F_Question_step_at G_Question_need_step), He.meth_ok (c.fact 70 (f := .meth "Question" "step_at") rfl), T.cl_Question, (F_Question_step_at.bindsN fun _ _ _ _ _ _ us hl => match us, hl with | [_, _], _ => rfl)⟩
  have G_Document_parts_of : Mt P w K mg base CX0 1 (He.ga K "Document") "parts_of" ["self", "label"] (sp_Document_parts_of K) := ⟨_, _, (ok_Document_parts_of (P := P) (w := w) (base := base) T F_Document_parts_of ), He.meth_ok (c.fact 71 (f := .meth "Document" "parts_of") rfl), T.cl_Document, (F_Document_parts_of.bindsN fun _ _ _ _ _ _ us hl => match us, hl with | [_, _], _ => rfl)⟩
  have G_down_row : Fn P w K mg base CX0 6 "down_row" ["document", "question", "table", "step"] (sp_down_row K) := ⟨_, _, (ok_down_row (P := P) (w := w) (base := base) T F_down_row G_Question_lowers_of G_with_beneath G_Straight_way G_Anywhere_way G_Question_step_at G_Document_parts_of), He.glo_ok X G (c.fact 72 (f := .glo "down_row") rfl), F_down_row.kp, (F_down_row.bindsN fun _ _ _ _ _ _ us hl => match us, hl with | [_, _, _, _], _ => rfl)⟩
  have G_down_table : Fn P w K mg base CX0 7 "down_table" ["document", "question"] (sp_down_table K) := ⟨_, _, (ok_down_table (P := P) (w := w) (base := base) T F_down_table G_Question_many G_down_row), He.glo_ok X G (c.fact 73 (f := .glo "down_table") rfl), F_down_table.kp, (F_down_table.bindsN fun _ _ _ _ _ _ us hl => match us, hl with | [_, _], _ => rfl)⟩
  have G_Question_upper_of : Mt P w K mg base CX0 4 (He.ga K "Question") "upper_of" ["self", "step"] (sp_Question_upper_of K) := ⟨_, _, (ok_Question_upper_of (P := P) (w := w) (base := base) T F_Question_upper_of G_Question_need_step), He.meth_ok (c.fact 74 (f := .meth "Question" "upper_of") rfl), T.cl_Question, (F_Question_upper_of.bindsN fun _ _ _ _ _ _ us hl => match us, hl with | [_, _], _ => rfl)⟩
  have G_Document_lowers_of : Mt P w K mg base CX0 4 (He.ga K "Document") "lowers_of" ["self", "part"] (sp_Document_lowers_of K) := ⟨_, _, (ok_Document_lowers_of (P := P) (w := w) (base := base) T F_Document_lowers_of G_Document_need_part), He.meth_ok (c.fact 75 (f := .meth "Document" "lowers_of") rfl), T.cl_Document, (F_Document_lowers_of.bindsN fun _ _ _ _ _ _ us hl => match us, hl with | [_, _], _ => rfl)⟩
  have G_Document_end_of : Mt P w K mg base CX0 4 (He.ga K "Document") "end_of" ["self", "part"] (sp_Document_end_of K) := ⟨_, _, (ok_Document_end_of (P := P) (w := w) (base := base) T F_Document_end_of G_Document_need_part), He.meth_ok (c.fact 76 (f := .meth "Document" "end_of") rfl), T.cl_Document, (F_Document_end_of.bindsN fun _ _ _ _ _ _ us hl => match us, hl with | [_, _], _ => rfl)⟩
  have G_with_above : Fn P w K mg base CX0 5 "with_above" ["document", "parts", "way"] (sp_with_above K) := ⟨_, _, (ok_with_above (P := P) (w := w) (base := base) T F_with_above G_Document_lowers_of G_Document_end_of), He.glo_ok X G (c.fact 77 (f := .glo "with_above") rfl), F_with_above.kp, (F_with_above.bindsN fun _ _ _ _ _ _ us hl => match us, hl with | [_, _, _], _ => rfl)⟩
  have G_full_row : Fn P w K mg base CX0 6 "full_row" ["document", "question", "down", "table", "step"] (sp_full_row K) := ⟨_, _, (ok_full_row (P := P) (w := w) (base := base) T F_full_row G_Question_step_at G_Question_upper_of G_Straight_way G_Anywhere_way G_with_above), He.glo_ok X G (c.fact 78 (f := .glo "full_row") rfl), F_full_row.kp, (F_full_row.bindsN fun _ _ _ _ _ _ us hl => match us, hl with | [_, _, _, _, _], _ => rfl)⟩
  have G_full_table : Fn P w K mg base CX0 8 "full_table" ["document", "question"] (sp_full_table K) := ⟨_, _, (ok_full_table (P := P) (w := w) (base := base) T F_full_table G_down_table G_Question_many G_full_row), He.glo_ok X G (c.fact 79 (f := .glo "full_table") rfl), F_full_table.kp, (F_full_table.bindsN fun _ _ _ _ _ _ us hl => match us, hl with | [_, _], _ => rfl)⟩
  have G_law_right : Fn P w K mg base CX0 9 "_law_right" ["_law_cell"] (sp_law_right K) := ⟨_, _, (ok_law_right (P := P) (w := w) (base := base) T F_law_right G_law_world G_law_source G_law_down G_law_full M_Document M_Question G_law_same G_full_table G_down_table), He.glo_ok X G (c.fact 80 (f := .glo "_law_right") rfl), F_law_right.kp, (F_law_right.bindsN fun _ _ _ _ _ _ us hl => match us, hl with | [_], _ => rfl)⟩
  have G_law_cell_at : Fn P w K mg base CX0 1 "_law_cell_at" ["_law_script", "_law_k"] (sp_law_cell_at K) := ⟨_, _, (ok_law_cell_at (P := P) (w := w) (base := base) T F_law_cell_at ), He.glo_ok X G (c.fact 81 (f := .glo "_law_cell_at") rfl), F_law_cell_at.kp, (F_law_cell_at.bindsN fun _ _ _ _ _ _ us hl => match us, hl with | [_, _], _ => rfl)⟩
  exact ok_law T F_law G_law_right G_law_cell_at
end Lw
open PySem PySem.W PySem.Calls PyProof.Rows
theorem PySem.Challenge.cw_boughask_k21_tables_told_holds : PySem.Challenge.rw_boughask_k21_tables_told.Holds := by
  w_on; o_law
  refine HandSHeadRun.head_any (r := OpenLaw.row PySem.Challenge.rw_boughask_k21_tables_told) (q := view (OpenLaw.row PySem.Challenge.rw_boughask_k21_tables_told).prog [55]) (H := Lw.hk) (ob := Lw.ob) (M := 20000) (loose := Lw.loose) (d := HandSHeadRun.topDef (OpenLaw.row PySem.Challenge.rw_boughask_k21_tables_told).prog 55) (kwd := []) Lw.ob_eq
    (by kernel_rfl) (fun s => by kernel_rfl) Lw.run (by kernel_rfl) (by kernel_rfl) (by kernel_rfl) (by rfl) (by first | assumption | decide +kernel) (by decide +kernel) ⟨rfl, rfl, rfl, rfl, rfl, by decide +kernel⟩ ?hw ?hc
  case hw => w_witness2
  case hc =>
    refine L2.walk_ofE (l := PySem.Challenge.rw_boughask_k21_tables_told) (n := 63) (k := 10) (x := "_law_script") (CX := L2.CX0) rfl (by decide) (by kernel_rfl) ⟨rfl, by decide, by decide⟩ ?F (fun _ _ _ _ z => z)
    intro w mg fa h Y G hmg0
    obtain ⟨K, KX, c, cx⟩ := Y
    have hmg : mg ("law" : PySem.Str) = some (.ref fa) := by
      have e : (HandSHeadRun.topDef (OpenLaw.row PySem.Challenge.rw_boughask_k21_tables_told).prog 55).name = ("law" : PySem.Str) := by kernel_rfl
      rw [← e]
      exact hmg0
    obtain ⟨fd, hb, hF⟩ := Lw.facts (P := (PySem.Challenge.rw_boughask_k21_tables_told).prog) (w := w) KX G hmg c cx
    exact ⟨K, fd, Lw.sp_law K, KX, hb, fun H a ns hl _ hS => ⟨a, ns, rfl, hS, hl, fun _ => rfl⟩, hF⟩

