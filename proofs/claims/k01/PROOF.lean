import PyProof.Rows.All
import Wide.All
import OpenK.AllK
import Wide.FinOn
import KE.KStateDown
import HandS.ForMost
import HandS.ForExc
import HandS.IsInst
import HandS.Wide
import HandS.Defaults
import HandS.More
import HandS.Head0
import HandS.Head1
import HandS.Head2
import HandS.HeadEnd
import HandS.HeadHook1
import HandS.HeadHook2
import HandS.Flow
import HandS.RevRange
import HandS.Walk
import PySem.Challenge.RW_boughask_k01_words_told
set_option Elab.async false
set_option linter.all false
set_option maxRecDepth 100000
set_option maxHeartbeats 4000000

namespace Bg
open PySem PySem.Spec PyProof.Rows L2
/-! ### defs, methods, classes by their names -/
abbrev FnP (K : PySem.W.Frag) (x q : Str) (st : Stmt) (f : Addr) (fd : FuncData) : Prop := FunD K x q (defArgs st) (defBody st) (defScope st) [] [] f fd
structure Fn (P : Program) (w : World) (K : PySem.W.Frag) (mg : Str → Option Value) (base : Heap) (CX : CXT) (k : Nat) (x : Str) (ps : List Str) (sp : Sp) : Prop where
  ex : ∃ (f : Addr) (fd : FuncData), FnOk P w K mg base CX k f fd ps sp ∧ mg x = some (.ref f) ∧ PySem.W.keepIn K (.ref f) = true ∧ Binds K fd ps []
structure Mt (P : Program) (w : World) (K : PySem.W.Frag) (mg : Str → Option Value) (base : Heap) (CX : CXT) (k : Nat) (C : Addr) (m : Str) (ps : List Str) (sp : Sp) : Prop where
  ex : ∃ (f : Addr) (fd : FuncData), FnOk P w K mg base CX k f fd ps sp ∧ Meth K C m f ∧ Cls K C ∧ Binds K fd ps []
structure Mkr (P : Program) (w : World) (K : PySem.W.Frag) (mg : Str → Option Value) (base : Heap) (CX : CXT) (k : Nat) (C : Addr) (x : Str) (ps : List Str) (sp : Sp) : Prop where
  ex : ∃ (f : Addr) (fd : FuncData), FnOk P w K mg base CX k f fd ps sp ∧ Mk K C f ∧ mg x = some (.ref C) ∧ Binds K fd ps []
section
variable {X : Cx} {CX : CXT} {k : Nat} {C : Addr} {ps : List Str} {sp : Sp} {E : XK} {x m : Str} {p pos apos : Pos} {e o : Expr} {es : List Expr} {ta : TE} {t : TA}
theorem pe_callF (F : Fn X.prog X.w X.K X.mg X.base CX k x ps sp) (hr : Room k X.A) (hx : Passes CX X E) (ha : PA X (e :: es) t) (hg : Gl X x := by rfl) (hdb : (x == ("__debug__" : Str)) = false := by decide)
    (he : starEach (e :: es) X.env = (false, eval e X.env) :: starEach es X.env := by rfl) (hpl : (backTo pos (starEach es X.env)).any (·.1) = false := by rfl) :
    PE X (.Call (.Name x p) (e :: es) [] pos) (tCall sp [] E t) := by
  obtain ⟨f, fd, F, hm, hk, hb⟩ := F.ex
  exact pe_call F hr hg hm hk hb .nil hx ha hdb he hpl
theorem pe_callF0 (F : Fn X.prog X.w X.K X.mg X.base CX k x ps sp) (hr : Room k X.A) (hx : Passes CX X E) (hg : Gl X x := by rfl) (hdb : (x == ("__debug__" : Str)) = false := by decide) :
    PE X (.Call (.Name x p) [] [] pos) (tCall sp [] E tNil) := by
  obtain ⟨f, fd, F, hm, hk, hb⟩ := F.ex
  exact pe_call0 F hr hg hm hk hb .nil hx hdb
theorem pe_makeF (F : Mkr X.prog X.w X.K X.mg X.base CX k C x ps sp) (hr : Room (k + 1) X.A) (hx : Passes CX X E) (ha : PA X (e :: es) t) (hg : Gl X x := by rfl) (hdb : (x == ("__debug__" : Str)) = false := by decide)
    (he : starEach (e :: es) X.env = (false, eval e X.env) :: starEach es X.env := by rfl) (hpl : (backTo pos (starEach es X.env)).any (·.1) = false := by rfl) :
    PE X (.Call (.Name x p) (e :: es) [] pos) (tMake C sp [] E t) := by
  obtain ⟨f, fd, F, hm, hk, hb⟩ := F.ex
  exact pe_make hm F hr hg hk hb .nil hx ha hdb he hpl
theorem pe_makeF0 (F : Mkr X.prog X.w X.K X.mg X.base CX k C x ps sp) (hr : Room (k + 1) X.A) (hx : Passes CX X E) (hg : Gl X x := by rfl) (hdb : (x == ("__debug__" : Str)) = false := by decide) :
    PE X (.Call (.Name x p) [] [] pos) (tMake C sp [] E tNil) := by
  obtain ⟨f, fd, F, hm, hk, hb⟩ := F.ex
  exact pe_make0 hm F hr hg hk hb .nil hx hdb
theorem pe_methF {pl : Sem Bool} (he : PE X o ta) (F : Mt X.prog X.w X.K X.mg X.base CX k C m ps sp) (hr : Room k X.A) (hx : Passes CX X E) (ha : PA X (e :: es) t)
    (hst : starEach (e :: es) X.env = (false, eval e X.env) :: starEach es X.env := by rfl) (hpl : (backTo pos (starEach es X.env)).any (·.1) = false := by rfl)
    (ht : eval (.Call (.Attribute o m apos) (e :: es) [] pos) X.env = (do
      let ov ← eval o X.env
      standAt apos.atName
      let (f, first) ← holding [ov] (getMethod ov m pl)
      callWith pos f first (backTo pos (starEach (e :: es) X.env)) (backToKw pos (keywordEach [] X.env))) := by rfl) :
    PE X (.Call (.Attribute o m apos) (e :: es) [] pos) (tMeth C m sp [] E ta t) := by
  obtain ⟨f, fd, F, hm, c, hb⟩ := F.ex
  exact pe_meth he c hm F hr hb .nil hx ha hst hpl ht
theorem pe_methF0 {pl : Sem Bool} (he : PE X o ta) (F : Mt X.prog X.w X.K X.mg X.base CX k C m ps sp) (hr : Room k X.A) (hx : Passes CX X E)
    (ht : eval (.Call (.Attribute o m apos) [] [] pos) X.env = (do
      let ov ← eval o X.env
      standAt apos.atName
      let (f, first) ← holding [ov] (getMethod ov m pl)
      callWith pos f first (backTo pos (starEach [] X.env)) (backToKw pos (keywordEach [] X.env))) := by rfl) :
    PE X (.Call (.Attribute o m apos) [] [] pos) (tMeth C m sp [] E ta tNil) := by
  obtain ⟨f, fd, F, hm, c, hb⟩ := F.ex
  exact pe_meth0 he c hm F hr hb .nil hx ht
end
/-! ### the heap: all stands but what stands at a -/
def But (a : Addr) (H H' : Hp) : Prop := ∀ b o, b ≠ a → H b = some o → H' b = some o
theorem But.refl (a : Addr) (H : Hp) : But a H H := fun _ _ _ h => h
theorem But.trans {a : Addr} {H H1 H2 : Hp} (x : But a H H1) (y : But a H1 H2) : But a H H2 := fun b o n h => y b o n (x b o n h)
theorem But.of_same {a : Addr} {H H' : Hp} (x : Same H H') : But a H H' := fun b o _ h => x b o h
theorem But.upd {a : Addr} {H : Hp} {o : HO} : But a H (upd H a o) := fun b u n h => by rw [upd_ne n]; exact h
theorem But.upd' {a : Addr} {H H' : Hp} {o : HO} (x : But a H H') : But a H (L2.upd H' a o) := x.trans But.upd
theorem _root_.L2.Same.new {H : Hp} {p : Addr} {o : HO} (h : H p = none) : Same H (upd H p o) := fun a u e => by
  rw [upd_ne (ne_of_none e h)]
  exact e
theorem _root_.L2.Same.new' {H H' : Hp} {p : Addr} {o : HO} (s : Same H H') (h : H' p = none) : Same H (upd H' p o) := s.trans (Same.new h)
/-- what H does not know may change -/
theorem _root_.L2.Same.mut {H H' : Hp} {p : Addr} {o : HO} (s : Same H H') (h : H p = none) : Same H (upd H' p o) := fun a u ha => by
  rw [upd_ne (ne_of_none ha h)]
  exact s a u ha
theorem But.mut {a : Addr} {H H' : Hp} {p : Addr} {o : HO} (s : But a H H') (h : H p = none) : But a H (L2.upd H' p o) := fun b u n hb => by
  rw [upd_ne (ne_of_none hb h)]
  exact s b u n hb
theorem But.new' {a : Addr} {H H' : Hp} {p : Addr} {o : HO} (s : But a H H') (h : H' p = none) : But a H (L2.upd H' p o) := s.trans (But.of_same (Same.new h))
theorem But.free {a : Addr} {H H' : Hp} (s : But a H H') {p : Addr} (hp : p ≠ a) (h : H' p = none) : H p = none := by
  cases q : H p with
  | none => rfl
  | some o =>
    rw [s p o hp q] at h
    cases h
theorem ne_a {H : Hp} {a b : Addr} {o u : HO} (h : H a = some o) (h' : H b = some u) (d : o ≠ u) : a ≠ b := ne_of h h' d
theorem But.seq {K : PySem.W.Frag} {a l : Addr} {H H' : Hp} {xs : List V} {kvs : List (Key × V)} (s : But a H H') (ha : H a = some (.dK kvs)) (h : SqL K H l xs) : SqL K H' l xs := by
  rcases h with (h | ⟨o, h⟩) | h
  · exact .inl (.inl (s _ _ (ne_of h ha (by intro z; cases z)) h))
  · exact .inl (.inr ⟨o, s _ _ (ne_of h ha (by intro z; cases z)) h⟩)
  · exact .inr h
theorem But.tup {K : PySem.W.Frag} {a l : Addr} {H H' : Hp} {xs : List V} {kvs : List (Key × V)} (s : But a H H') (ha : H a = some (.dK kvs)) (h : SqT K H l xs) : SqT K H' l xs := by
  rcases h with (h | ⟨o, h⟩) | h
  · exact .inl (.inl (s _ _ (ne_of h ha (by intro z; cases z)) h))
  · exact .inl (.inr ⟨o, s _ _ (ne_of h ha (by intro z; cases z)) h⟩)
  · exact .inr h
theorem _root_.L2.Same.tup {K : PySem.W.Frag} {H H' : Hp} {a : Addr} {xs : List V} (e : Same H H') (h : SqT K H a xs) : SqT K H' a xs := by
  rcases h with (h | ⟨o, h⟩) | h
  · exact .inl (.inl (e _ _ h))
  · exact .inl (.inr ⟨o, e _ _ h⟩)
  · exact .inr h
/-- a new object; a changed one -/
theorem al {H H1 : Hp} {p : Addr} {o : HO} (e : L2.upd H p o = H1) (n : H p = none) : Same H H1 ∧ H1 p = some o := by
  subst e
  exact ⟨L2.Same.new n, upd_same⟩
theorem ml {H H1 : Hp} {p : Addr} {o : HO} (e : L2.upd H p o = H1) : But p H H1 ∧ H1 p = some o := by
  subst e
  exact ⟨But.upd, upd_same⟩
theorem same_of_but {p : Addr} {H H1 H2 : Hp} (s : Same H H1) (n : H p = none) (b : But p H1 H2) : Same H H2 := fun c o h => b c o (ne_of_none h n) (s c o h)
/-! ### sizes -/
theorem sz {n : Nat} (h : n ≤ 16777216) : n ≤ sizeLine := by rw [sizeLine_eq]; exact h
theorem szl {n : Nat} (h : n < 16777216) : n < sizeLine := by rw [sizeLine_eq]; exact h
/-! ### the law's source of draws -/
def srcD (n s t : Int) : List (Key × V) := [(Sum.inr "number", .int n), (Sum.inr "seed", .int s), (Sum.inr "turn", .int t)]
def Src (H : Hp) (a : Addr) : Prop := ∃ n s t : Int, H a = some (.dK (srcD n s t))
theorem kne {a b : Str} (h : ¬ a = b) : ¬ ((Sum.inr a : Key) = Sum.inr b) := fun z => h (Sum.inr.inj z)
theorem s_ns : ¬ (("number" : Str) = "seed") := by decide +kernel
theorem s_nt : ¬ (("number" : Str) = "turn") := by decide +kernel
theorem s_sn : ¬ (("seed" : Str) = "number") := by decide +kernel
theorem s_st : ¬ (("seed" : Str) = "turn") := by decide +kernel
theorem s_tn : ¬ (("turn" : Str) = "number") := by decide +kernel
theorem s_ts : ¬ (("turn" : Str) = "seed") := by decide +kernel
theorem src_n (n s t : Int) : valV (srcD n s t) (Sum.inr "number") = some (.int n) := valV_pos rfl
theorem src_s (n s t : Int) : valV (srcD n s t) (Sum.inr "seed") = some (.int s) := by
  have e1 := kne s_ns
  simp [valV, srcD, e1]
theorem src_t (n s t : Int) : valV (srcD n s t) (Sum.inr "turn") = some (.int t) := by
  have e1 := kne s_nt
  have e2 := kne s_st
  simp [valV, srcD, e1, e2]
theorem src_pn (n s t m : Int) : putK (srcD n s t) (Sum.inr "number") (.int m) = srcD m s t := by
  have e1 := kne s_sn
  have e2 := kne s_tn
  simp [putK, srcD, e1, e2]
theorem src_pt (n s t m : Int) : putK (srcD n s t) (Sum.inr "turn") (.int m) = srcD n s m := by
  have e1 := kne s_st
  have e2 := kne s_nt
  simp [putK, srcD, e1, e2]
theorem src_get_n {H : Hp} {a : Addr} {n s t : Int} (h : H a = some (.dK (srcD n s t))) : DGet H a (.str "number") (some (.int n)) := by
  have := DGet.k (k := Sum.inr "number") h
  rw [src_n] at this
  exact this
theorem src_get_s {H : Hp} {a : Addr} {n s t : Int} (h : H a = some (.dK (srcD n s t))) : DGet H a (.str "seed") (some (.int s)) := by
  have := DGet.k (k := Sum.inr "seed") h
  rw [src_s] at this
  exact this
theorem src_get_t {H : Hp} {a : Addr} {n s t : Int} (h : H a = some (.dK (srcD n s t))) : DGet H a (.str "turn") (some (.int t)) := by
  have := DGet.k (k := Sum.inr "turn") h
  rw [src_t] at this
  exact this
theorem src_put_n {H : Hp} {a : Addr} {n s t m : Int} (h : H a = some (.dK (srcD n s t))) : DPut H a (.str "number") (.int m) (upd H a (.dK (srcD m s t))) := by
  have := DPut.k (k := Sum.inr "number") (v := .int m) h (show 3 < sizeLine by decide)
  rw [src_pn] at this
  exact this
theorem src_put_t {H : Hp} {a : Addr} {n s t m : Int} (h : H a = some (.dK (srcD n s t))) : DPut H a (.str "turn") (.int m) (upd H a (.dK (srcD n s m))) := by
  have := DPut.k (k := Sum.inr "turn") (v := .int m) h (show 3 < sizeLine by decide)
  rw [src_pt] at this
  exact this
/-! ### kinds -/
/-- the built-in kinds that things here may be of -/
def known : List String := ["NoneType", "bool", "int", "str", "list", "tuple", "dict"]
def Knd (K : PySem.W.Frag) (H : Hp) (v : V) (t : String) : Prop := TyX K H v (.type t) ∧ t ∈ known
theorem kit_known : ∀ t ∈ known, kitB t "int" = some (t == "int" || t == "bool") ∧ kitB t "bool" = some (t == "bool") ∧ kitB t "str" = some (t == "str") ∧ kitB t "list" = some (t == "list") ∧ kitB t "tuple" = some (t == "tuple") := by decide +kernel
theorem TyX.same {K : PySem.W.Frag} {H H' : Hp} {v : V} {t : Value} (s : Same H H') (h : TyX K H v t) : TyX K H' v t := by
  cases h with
  | base b =>
    cases b with
    | non => exact .base .non
    | bl x => exact .base (.bl x)
    | int x => exact .base (.int x)
    | str x => exact .base (.str x)
    | flt x => exact .base (.flt x)
    | lst e => exact .base (.lst (s _ _ e))
    | frz e => exact .base (.frz (s _ _ e))
    | tup e => exact .base (.tup (s _ _ e))
    | dK e => exact .base (.dK (s _ _ e))
    | dT e => exact .base (.dT (s _ _ e))
    | ins e cl ha hn htk hm => exact .base (.ins (s _ _ e) cl ha hn htk hm)
  | byt b => exact .byt b
  | set e => exact .set (s _ _ e)
  | kList e c => exact .kList e c
  | kTuple e c => exact .kTuple e c
  | kDict e c => exact .kDict e c
  | fTuple e => exact .fTuple (s _ _ e)
  | fDict e => exact .fDict (s _ _ e)
theorem Knd.same {K : PySem.W.Frag} {H H' : Hp} {v : V} {t : String} (s : Same H H') (h : Knd K H v t) : Knd K H' v t := ⟨TyX.same s h.1, h.2⟩
theorem Knd.non {K : PySem.W.Frag} {H : Hp} : Knd K H .non "NoneType" := ⟨.base .non, by decide⟩
theorem Knd.bl {K : PySem.W.Frag} {H : Hp} (b : Bool) : Knd K H (.bl b) "bool" := ⟨.base (.bl b), by decide⟩
theorem Knd.int {K : PySem.W.Frag} {H : Hp} (i : Int) : Knd K H (.int i) "int" := ⟨.base (.int i), by decide⟩
theorem Knd.str {K : PySem.W.Frag} {H : Hp} (z : Str) : Knd K H (.str z) "str" := ⟨.base (.str z), by decide⟩
theorem Knd.lst {K : PySem.W.Frag} {H : Hp} {a : Addr} {xs : List V} (h : H a = some (.lst xs)) : Knd K H (.ref a) "list" := ⟨.base (.lst h), by decide⟩
theorem Knd.tup {K : PySem.W.Frag} {H : Hp} {a : Addr} {xs : List V} (h : H a = some (.tup xs)) : Knd K H (.ref a) "tuple" := ⟨.base (.tup h), by decide⟩
theorem Knd.dK {K : PySem.W.Frag} {H : Hp} {a : Addr} {kvs : List (Key × V)} (h : H a = some (.dK kvs)) : Knd K H (.ref a) "dict" := ⟨.base (.dK h), by decide⟩
end Bg

namespace Bg
open PySem PySem.Spec PyProof.Rows L2
/-! ### labels -/
def isLow (c : Nat) : Bool := decide (97 ≤ c) && decide (c ≤ 122)
def letters : List Nat := (("abcdefghijklmnopqrstuvwxyz" : Str)).cps.toList
theorem letters_eq : letters = [97, 98, 99, 100, 101, 102, 103, 104, 105, 106, 107, 108, 109, 110, 111, 112, 113, 114, 115, 116, 117, 118, 119, 120, 121, 122] := by decide +kernel
theorem mem_letters (c : Nat) : decide (c ∈ letters) = isLow c := by
  rw [letters_eq]
  unfold isLow
  rw [Bool.eq_iff_iff, decide_eq_true_iff, Bool.and_eq_true, decide_eq_true_iff, decide_eq_true_iff]
  simp only [List.mem_cons, List.not_mem_nil, or_false]
  omega
def labelB (z : Str) : Bool := decide (1 ≤ z.length) && decide (z.length ≤ 8) && z.cps.toList.all isLow
def labelV : V → Bool
  | .str z => labelB z
  | _ => false
theorem labelV_str (z : Str) : labelV (.str z) = labelB z := rfl
def inLetters (z : Str) : List Bool := z.cps.toList.map fun c => decide (c ∈ letters)
theorem labelB_in {z : Str} (h1 : (1 : Int) ≤ (z.length : Int)) (h2 : (z.length : Int) ≤ 8) : labelB z = (inLetters z).all id := by
  unfold labelB inLetters
  rw [decide_eq_true (show 1 ≤ z.length by omega), decide_eq_true (show z.length ≤ 8 by omega), List.all_map]
  simp only [Bool.true_and]
  congr 1
  funext c
  exact (mem_letters c).symm
theorem labelB_long {z : Str} (h : ¬ (z.length : Int) ≤ 8) : labelB z = false := by
  unfold labelB
  rw [decide_eq_false (show ¬ z.length ≤ 8 by omega)]
  simp
theorem labelB_empty {z : Str} (h : ¬ (1 : Int) ≤ (z.length : Int)) : labelB z = false := by
  unfold labelB
  rw [decide_eq_false (show ¬ 1 ≤ z.length by omega)]
  simp
theorem labelB_count {z : Str} (h1 : (1 : Int) ≤ (z.length : Int)) (h2 : (z.length : Int) ≤ 8) : labelB z = decide ((z.cps.toList.filter isLow).length = z.length) := by
  unfold labelB
  rw [decide_eq_true (show 1 ≤ z.length by omega), decide_eq_true (show z.length ≤ 8 by omega)]
  simp only [Bool.true_and]
  have e : z.length = z.cps.toList.length := by simp [Str.length]
  rw [e, Bool.eq_iff_iff, decide_eq_true_iff, List.all_eq_true]
  constructor
  · intro h
    rw [List.filter_eq_self.mpr h]
  · intro h
    exact List.filter_eq_self.mp (List.Sublist.eq_of_length List.filter_sublist h)
theorem take_snoc {α : Type} {l : List α} {i : Nat} {x : α} (h : l[i]? = some x) : l.take (i + 1) = l.take i ++ [x] := by
  rw [List.take_add_one, h]
  rfl
theorem ge_a (c : Nat) : (!decide ((⟨#[c]⟩ : Str).cps.toList < (("a" : Str)).cps.toList)) = decide (97 ≤ c) := by
  show (!decide (([c] : List Nat) < [97])) = decide (97 ≤ c)
  rw [Bool.eq_iff_iff]
  simp [List.cons_lt_cons_iff]
theorem le_z (c : Nat) : (!decide ((("z" : Str)).cps.toList < (⟨#[c]⟩ : Str).cps.toList)) = decide (c ≤ 122) := by
  show (!decide (([122] : List Nat) < [c])) = decide (c ≤ 122)
  rw [Bool.eq_iff_iff]
  simp [List.cons_lt_cons_iff]
theorem Knd.str_of {K : PySem.W.Frag} {H : Hp} {v : V} {t : String} (h : Knd K H v t) (e : t = "str") : ∃ z, v = .str z := by
  subst e
  obtain ⟨h, _⟩ := h
  generalize ht : Value.type "str" = tv at h
  cases h with
  | base b =>
    cases b with
    | str x => exact ⟨x, rfl⟩
    | _ => first | (injection ht with q; exact absurd q (by decide)) | cases ht
  | _ => first | (injection ht with q; exact absurd q (by decide)) | cases ht
theorem Knd.no_str {K : PySem.W.Frag} {H : Hp} {v : V} {t : String} (h : Knd K H v t) (e : t ≠ "str") : labelV v = false := by
  cases v with
  | str z =>
    obtain ⟨h, _⟩ := h
    generalize ht : Value.type t = tv at h
    cases h with
    | base b =>
      cases b with
      | str x => injection ht with q; exact absurd q e
  | _ => rfl
theorem sum_ones (ys : List Str) (h : ∀ y ∈ ys, y.length = 1) : (ys.map (·.length)).sum = ys.length := by
  induction ys with
  | nil => rfl
  | cons y r ih =>
    rw [List.map_cons, List.sum_cons, ih fun z hz => h z (List.mem_cons_of_mem _ hz), h y (List.mem_cons_self ..), List.length_cons]
    omega
theorem join_len (ys : List Str) : (Txt.join "" ys).length = (ys.map (·.length)).sum := by
  have h := size_glued ("" : Str) ys
  rw [show (("" : Str)).length = 0 from rfl, Nat.mul_zero, Nat.add_zero] at h
  exact h
/-! ### a comprehension over a text's signs -/
theorem lc_str {z : Str} {g : TG} {tt : TT} {te : TE} {vs : List Nat} {σ : L2.St} {H1 : Hp} {D : Addr} {Qd : Hp → Prop} (Pv : Nat → Hp → Prop) (h0 : Pv 0 (upd H1 D (.lst [])))
    (hs : ∀ i c H, z.cps.toList[i]? = some c → Pv i H → g (.str ⟨#[c]⟩) (wipe σ vs) H fun σ2 H2 => wipe σ2 vs = wipe σ vs ∧ tt σ2 H2 fun b H3 =>
      if b = true then te σ2 H3 fun y H4 => ∃ acc, H4 D = some (.lst acc) ∧ acc.length < sizeLine ∧ Pv (i + 1) (upd H4 D (.lst (acc ++ [y]))) else Pv (i + 1) H3) (hd : ∀ H, Pv z.cps.size H → Qd H) :
    ∃ W : Nat → Nat → Hp → Prop, (∃ m, W 0 m (upd H1 D (.lst []))) ∧ ∀ i m H, W i m H →
      ((Its z).stop i H ∧ Qd H) ∨ ((Its z).go i H ∧ ∃ Nx : Hp → Prop, (∀ H', Nx H' → ∃ m', m' < m ∧ W (i + 1) m' H') ∧ ∀ x H', (Its z).yld i H x H' → g x (wipe σ vs) H' fun σ2 H2 => wipe σ2 vs = wipe σ vs ∧ tt σ2 H2 fun b H3 =>
        if b = true then te σ2 H3 fun y H4 => ∃ acc, H4 D = some (.lst acc) ∧ acc.length < sizeLine ∧ Nx (upd H4 D (.lst (acc ++ [y]))) else Nx H3) :=
  lc_it (walk_str (z := z)) Pv h0 (fun _ _ _ _ => trivial) (fun i x H H' hi p y => by
    obtain ⟨rfl, c, hc, rfl⟩ := y
    exact hs i c _ (by simpa using hc) p) hd
theorem src_merge (a b c : Int) : mergeK [] [(Sum.inr "number", .int a), (Sum.inr "seed", .int b), (Sum.inr "turn", .int c)] = srcD a b c := by
  have e1 := kne s_ns
  have e2 := kne s_nt
  have e3 := kne s_st
  simp [mergeK, putK, srcD, e1, e2, e3]
theorem src_at {H : Hp} {p : Addr} {a b c : Int} : Src (upd H p (.dK (mergeK [] [(Sum.inr "number", .int a), (Sum.inr "seed", .int b), (Sum.inr "turn", .int c)]))) p := ⟨a, b, c, by rw [upd_same, src_merge]⟩
theorem sign_lt {z : Str} {i c : Nat} (h : z.cps.toList[i]? = some c) : i < z.length := by
  have := (List.getElem?_eq_some_iff.mp h).1
  simpa [Str.length] using this
def signs38 : Str := "abcdefghijklmnopqrstuvwxyzAZ019 _-/!(~"
theorem signs38_len : signs38.cps.toList.length = 38 := by decide +kernel
end Bg

namespace Lw
open PySem PySem.Spec PyProof.Rows L2 Bg
def top (i : Nat) : Stmt := PySem.Challenge.pw_boughask_k01_words_told.main.body.getD i (.Pass ⟨0, 0, 0, 0⟩)
local macro_rules | `(tactic| walk_at "pos") => `(tactic| (show (0 : Int) < _; decide))

abbrev st_law_told : Stmt := (top 11)
abbrev st_is_whole : Stmt := (top 3)
abbrev st_is_label : Stmt := (top 4)
abbrev st_law_cell_at : Stmt := (top 6)
abbrev st_law_take : Stmt := (top 8)
abbrev st_law_text : Stmt := (top 9)
abbrev st_law_source : Stmt := (top 7)
abbrev st_law_is_label : Stmt := (top 10)
abbrev st_law : Stmt := (top 12)
def sp_law_told (K : PySem.W.Frag) : Sp := fun vs H Q _ => ∃ (b d : Bool), vs = [.bl b, .bl d] ∧ Q (.bl (b == d)) H
def sp_is_whole (K : PySem.W.Frag) : Sp := fun vs H Q _ => ∃ (v : V) (t : String), vs = [v] ∧ Knd K H v t ∧ Q (.bl (t == "int")) H
def sp_is_label (K : PySem.W.Frag) : Sp := fun vs H Q _ => ∃ (v : V) (t : String), vs = [v] ∧ Knd K H v t ∧ (∀ z, v = .str z → z.length ≤ 100000) ∧ ∀ H', Same H H' → Q (.bl (labelV v)) H'
def sp_law_cell_at (K : PySem.W.Frag) : Sp := fun vs H Q _ => ∃ (a : Addr) (ns : List Int) (k : Int), vs = [.ref a, .int k] ∧ SqL K H a (ns.map V.int) ∧ ns.length ≤ 63 ∧ 0 ≤ k ∧ ∀ c, Q (.int c) H
def sp_law_take (K : PySem.W.Frag) : Sp := fun vs H Q _ => ∃ (a : Addr) (m n s t : Int), vs = [.ref a, .int m] ∧ H a = some (.dK (srcD n s t)) ∧ 0 < m ∧ m < 1073741824 ∧ ∀ r H', 0 ≤ r → r < m → But a H H' → Src H' a → Q (.int r) H'
def sp_law_text (K : PySem.W.Frag) : Sp := fun vs H Q _ => ∃ (a : Addr), vs = [.ref a] ∧ Src H a ∧ ∀ (z : Str) H', z.length ≤ 10 → But a H H' → Src H' a → Q (.str z) H'
def sp_law_source (K : PySem.W.Frag) : Sp := fun vs H Q _ => ∃ (c : Int), vs = [.int c] ∧ ∀ p H', H p = none → Same H H' → Src H' p → Q (.ref p) H'
def sp_law_is_label (K : PySem.W.Frag) : Sp := fun vs H Q _ => ∃ (z : Str), vs = [.str z] ∧ z.length ≤ 1000 ∧ ∀ H', Same H H' → Q (.bl (labelB z)) H'
def sp_law (K : PySem.W.Frag) : Sp := fun vs H Q _ => ∃ (a : Addr) (ns : List Int), vs = [.ref a] ∧ SqL K H a (ns.map V.int) ∧ ns.length ≤ 63 ∧ ∀ H', Q (.bl true) H'
structure Txt (K : PySem.W.Frag) (mg : Str → Option Value) : Prop where
  free_isinstance : mg "isinstance" = none
  free_bool : mg "bool" = none
  free_int : mg "int" = none
  free_str : mg "str" = none
  free_len : mg "len" = none
  g_MOST_LETTERS : ∃ t, mg "MOST_LETTERS" = some (.int 8 t)
  free_all : mg "all" = none
  g_LETTERS : ∃ t, mg "LETTERS" = some (.str "abcdefghijklmnopqrstuvwxyz" t)
  free_range : mg "range" = none
  free_max : mg "max" = none
  free_min : mg "min" = none
section
variable {P : Program} {w : World} {K : PySem.W.Frag} {mg : Str → Option Value} {base : Heap}
theorem sc_law_told : FnScope ["_law_found", "_law_due"] ["_law_found", "_law_due"] (defScope st_law_told) := ⟨rfl, rfl, rfl, by decide +kernel, rfl, by decide +kernel, by decide +kernel⟩
theorem ok_law_told {f : Addr} {fd : FuncData} (T : Txt K mg) (F : FnP K "_law_told" "_law_told" st_law_told f fd)  : FnOk P w K mg base CX0 1 f fd ["_law_found", "_law_due"] (sp_law_told K) := by
  refine F.ok sc_law_told (fun vs H Q E h => ?_) (fun cdv A outer s H vs Q E hr h => ?_)
  · obtain ⟨b, d, rfl, _⟩ := h
    rfl
  · obtain ⟨b, d, rfl, k⟩ := h
    refine ⟨_, PSs.nox (pss_one (ps_ret (pe_and (pe_callB call_isi rfl T.free_isinstance (by decide +kernel) (pa_cons (pv 0) (pa_cons (pe_bltn (v := .ty "bool") rfl T.free_bool (by decide +kernel) rfl) pa_nil))) (pe_one (pe_cmpR op_eq (pv 0) (pv 1) (nomark _)))))), ?_⟩
    refine ⟨_, rfl, _, _, _, _, _, rfl, .ty _, .base (.bl b), kit_ty (r := true) (by decide +kernel), _, rfl, ?_⟩
    refine iteT ⟨_, rfl, _, rfl, rfl, ?_⟩
    rw [dec_bl]
    exact k
theorem sc_is_whole : FnScope ["thing"] ["thing"] (defScope st_is_whole) := ⟨rfl, rfl, rfl, by decide +kernel, rfl, by decide +kernel, by decide +kernel⟩
theorem ok_is_whole {f : Addr} {fd : FuncData} (T : Txt K mg) (F : FnP K "is_whole" "is_whole" st_is_whole f fd)  : FnOk P w K mg base CX0 1 f fd ["thing"] (sp_is_whole K) := by
  refine F.ok sc_is_whole (fun vs H Q E h => ?_) (fun cdv A outer s H vs Q E hr h => ?_)
  · obtain ⟨v, t, rfl, _⟩ := h
    rfl
  · obtain ⟨v, t, rfl, hk, k⟩ := h
    refine ⟨_, PSs.nox (pss_one (ps_ret (pe_and (pe_callB call_isi rfl T.free_isinstance (by decide +kernel) (pa_cons (pv 0) (pa_cons (pe_bltn (v := .ty "int") rfl T.free_int (by decide +kernel) rfl) pa_nil))) (pe_one (pe_not (pe_callB call_isi rfl T.free_isinstance (by decide +kernel) (pa_cons (pv 0) (pa_cons (pe_bltn (v := .ty "bool") rfl T.free_bool (by decide +kernel) rfl) pa_nil)))))))), ?_⟩
    obtain ⟨k1, k2, _⟩ := kit_known t hk.2
    refine ⟨_, rfl, _, _, _, _, _, rfl, .ty _, hk.1, kit_ty k1, _, rfl, ?_⟩
    by_cases c : (t == "int" || t == "bool") = true
    · rw [c]
      refine iteT ⟨_, rfl, _, _, _, _, _, rfl, .ty _, hk.1, kit_ty k2, _, rfl, ?_⟩
      have e : (!(t == "bool")) = (t == "int") := by
        cases h1 : t == "int" with
        | true =>
          have := eq_of_beq h1
          subst this
          decide
        | false =>
          rw [h1, Bool.false_or] at c
          rw [c]
          rfl
      rw [e]
      exact k
    · have c' : (t == "int" || t == "bool") = false := by simpa using c
      rw [c']
      refine iteF ?_
      have e : (t == "int") = false := by
        rw [Bool.or_eq_false_iff] at c'
        exact c'.1
      rw [e] at k
      exact k
theorem sc_is_label : FnScope ["thing", "sign"] ["thing"] (defScope st_is_label) := ⟨rfl, rfl, rfl, by decide +kernel, rfl, by decide +kernel, by decide +kernel⟩
theorem ok_is_label {f : Addr} {fd : FuncData} (T : Txt K mg) (F : FnP K "is_label" "is_label" st_is_label f fd)  : FnOk P w K mg base CX0 1 f fd ["thing"] (sp_is_label K) := by
  obtain ⟨tk_MOST_LETTERS, g_MOST_LETTERS⟩ := T.g_MOST_LETTERS
  obtain ⟨tk_LETTERS, g_LETTERS⟩ := T.g_LETTERS
  refine F.ok sc_is_label (fun vs H Q E h => ?_) (fun cdv A outer s H vs Q E hr h => ?_)
  · obtain ⟨v, t, rfl, _⟩ := h
    rfl
  · obtain ⟨v, t, rfl, hk, hz, k⟩ := h
    refine ⟨_, PSs.nox (pss_cons (ps_if (PW.pt (pw_or (pt_not (pt_val (pe_callB call_isi rfl T.free_isinstance (by decide +kernel) (pa_cons (pv 0) (pa_cons (pe_bltn (v := .ty "str") rfl T.free_str (by decide +kernel) rfl) pa_nil))))) (pw_or1 (pt_not (pt_chain op_le op_le pe_int (pe_callB call_len rfl T.free_len PySem.boot_len (pa_cons (pv 0) pa_nil)) (pe_glob (v := .int 8) rfl g_MOST_LETTERS ⟨_, rfl⟩))))))
      (pss_one (ps_ret pe_bl))
      pss_nil)
      (pss_one (ps_ret (pe_callB (cr_all rfl) rfl T.free_all (by decide +kernel) (pa_cons (pe_lc (own := [("sign", 1)]) (g := gName 1) rfl sc_is_label.nd (pi_str (pv 0)) (blkOk_by (own := [("sign", 1)]) (N := ["thing", "sign"]) (sc := defScope st_is_label) (by decide +kernel)) (fun _ _ _ _ _ => (pg_name (i := 1) sc_is_label.nd rfl (Or.inl rfl))) (fun _ _ _ _ _ => pts_nil) (fun _ _ _ _ _ => (pe_cmpR op_in_sign (pv 1) (pe_glob (v := .str "abcdefghijklmnopqrstuvwxyz") rfl g_LETTERS ⟨_, rfl⟩) (by rfl)))) pa_nil))))), ?_⟩
    obtain ⟨_, _, k3, _⟩ := kit_known t hk.2
    refine ⟨_, rfl, _, _, _, _, _, rfl, .ty _, hk.1, kit_ty k3, _, rfl, ?_⟩
    cases c : t == "str" with
    | false =>
      have e : labelV v = false := hk.no_str (by intro q; rw [q] at c; exact absurd c (by decide))
      rw [e] at k
      exact iteT (k _ (Same.refl _))
    | true =>
      obtain ⟨z, rfl⟩ := hk.str_of (eq_of_beq c)
      have hz := hz z rfl
      refine iteF ⟨_, rfl, _, _, rfl, ⟨sz (by omega), rfl⟩, _, _, rfl, rfl, _, rfl, ?_⟩
      by_cases c1 : (1 : Int) ≤ (z.length : Int)
      · rw [decide_eq_true c1]
        refine iteT ⟨_, _, rfl, rfl, _, rfl, ?_⟩
        by_cases c2 : (z.length : Int) ≤ 8
        · rw [decide_eq_true c2]
          refine iteF ⟨_, rfl, z, rfl, fun D hD => ?_⟩
          refine lc_str (z := z) (fun i H' => Same H H' ∧ H D = none ∧ H' D = some (.lst ((inLetters z).take i |>.map V.bl))) ⟨Same.new hD, hD, upd_same⟩ ?_ ?_
          · rintro i c H' hi ⟨s1, d1, h1⟩
            have hlt := sign_lt hi
            refine ⟨rfl, ⟨_, rfl, _, _, rfl, rfl, _, h1, szl (by rw [List.length_map, List.length_take]; omega), s1.mut d1, d1, ?_⟩⟩
            rw [upd_same, take_snoc (x := decide (c ∈ letters)) (by rw [inLetters, List.getElem?_map, hi]; rfl), List.map_append]
            rfl
          · rintro H' ⟨s1, d1, h1⟩
            rw [show ((inLetters z).take z.cps.size) = inLetters z from List.take_of_length_le (by simp [inLetters])] at h1
            refine ⟨_, _, rfl, SqL.of h1, ?_⟩
            have := k _ s1
            rw [labelV_str, labelB_in c1 c2] at this
            exact this
        · rw [decide_eq_false c2]
          refine iteT ?_
          have := k _ (Same.refl H)
          rw [labelV_str, labelB_long c2] at this
          exact this
      · rw [decide_eq_false c1]
        refine iteF ⟨_, rfl, iteT ?_⟩
        have := k _ (Same.refl H)
        rw [labelV_str, labelB_empty c1] at this
        exact this
theorem sc_law_cell_at : FnScope ["_law_script", "_law_k"] ["_law_script", "_law_k"] (defScope st_law_cell_at) := ⟨rfl, rfl, rfl, by decide +kernel, rfl, by decide +kernel, by decide +kernel⟩
theorem ok_law_cell_at {f : Addr} {fd : FuncData} (T : Txt K mg) (F : FnP K "_law_cell_at" "_law_cell_at" st_law_cell_at f fd)  : FnOk P w K mg base CX0 1 f fd ["_law_script", "_law_k"] (sp_law_cell_at K) := by
  refine F.ok sc_law_cell_at (fun vs H Q E h => ?_) (fun cdv A outer s H vs Q E hr h => ?_)
  · obtain ⟨a, ns, k, rfl, _⟩ := h
    rfl
  · obtain ⟨a, ns, i, rfl, hS, hl, h0, k⟩ := h
    refine ⟨_, PSs.nox (pss_cons (ps_if (pt_cmpR op_lt (pv 1) (pe_callB call_len rfl T.free_len PySem.boot_len (pa_cons (pv 0) pa_nil)) (nomark _))
      (pss_one (ps_ret (pe_ix ix_list (pv 0) (pv 1) (fun _ _ => rfl))))
      pss_nil)
      (pss_one (ps_ret (pe_op op_add (pe_op op_mul pe_int (pv 1)) pe_int)))), ?_⟩
    refine ⟨_, rfl, _, rfl, _, _, rfl, Or.inl ⟨_, hS, rfl⟩, _, _, rfl, rfl, _, rfl, ?_⟩
    refine ite2 (fun c => ?_) (fun c => ?_)
    · have c : i < ((ns.map V.int).length : Int) := of_decide_eq_true c
      obtain ⟨n, rfl⟩ := Int.eq_ofNat_of_zero_le h0
      rw [List.length_map] at c
      have hn : n < ns.length := by omega
      refine ⟨_, rfl, _, rfl, _, _, _, _, rfl, rfl, hS, atI_nat (v := .int ns[n]) (by rw [List.getElem?_map, List.getElem?_eq_getElem hn]; rfl), k _⟩
    · exact ⟨_, rfl, _, _, rfl, rfl, .inl ⟨by decide, by decide⟩, _, _, rfl, rfl, k _⟩
theorem sc_law_take : FnScope ["_law_source_here", "_law_many", "_law_digit", "_law_number"] ["_law_source_here", "_law_many"] (defScope st_law_take) := ⟨rfl, rfl, rfl, by decide +kernel, rfl, by decide +kernel, by decide +kernel⟩
theorem ok_law_take {f : Addr} {fd : FuncData} (T : Txt K mg) (F : FnP K "_law_take" "_law_take" st_law_take f fd)  : FnOk P w K mg base CX0 1 f fd ["_law_source_here", "_law_many"] (sp_law_take K) := by
  refine F.ok sc_law_take (fun vs H Q E h => ?_) (fun cdv A outer s H vs Q E hr h => ?_)
  · obtain ⟨a, m, n, s, t, rfl, _⟩ := h
    rfl
  · obtain ⟨a, m, n, s, t, rfl, hS, hm, hm2, k⟩ := h
    refine ⟨_, PSs.nox (pss_cons (ps_if (pt_cmpR op_gt (pe_dget (hu_of hr) (pv 0) pe_str (fun _ _ => rfl)) pe_int (nomark _))
      (pss_cons (ps_set (i := 2) sc_law_take.nd rfl (Or.inl rfl) (pe_op op_mod (pe_dget (hu_of hr) (pv 0) pe_str (fun _ _ => rfl)) (pv 1)))
      (pss_cons (ps_dput (hu_of hr) (pv 0) pe_str (pe_op op_fdiv (pe_dget (hu_of hr) (pv 0) pe_str (fun _ _ => rfl)) (pv 1)) rfl)
      (pss_one (ps_ret (pv 2)))))
      pss_nil)
      (pss_cons (ps_dput (hu_of hr) (pv 0) pe_str (pe_op op_add (pe_dget (hu_of hr) (pv 0) pe_str (fun _ _ => rfl)) pe_int) rfl)
      (pss_cons (ps_set (i := 3) sc_law_take.nd rfl (Or.inl rfl) (pe_op op_mod (pe_op op_mul (pe_op op_add (pe_dget (hu_of hr) (pv 0) pe_str (fun _ _ => rfl)) (pe_op op_mul pe_int (pe_dget (hu_of hr) (pv 0) pe_str (fun _ _ => rfl)))) pe_int) pe_int))
      (pss_cons (ps_set (i := 3) sc_law_take.nd rfl (Or.inl rfl) (pe_op op_mod (pe_op op_mul (pv 3) (pv 3)) pe_int))
      (pss_one (ps_ret (pe_op op_mod (pe_op op_fdiv (pe_op op_mod (pe_op op_mul (pe_op op_add (pv 3) (pe_dget (hu_of hr) (pv 0) pe_str (fun _ _ => rfl))) (pe_op op_add (pv 3) pe_int)) pe_int) pe_int) (pv 1)))))))), ?_⟩
    refine ⟨_, rfl, _, _, rfl, src_get_n hS, _, _, rfl, rfl, _, rfl, ?_⟩
    refine ite2 (fun c => ?_) (fun c => ?_)
    · refine ⟨_, rfl, _, _, rfl, src_get_n hS, _, rfl, _, _, rfl, rfl, hm, ?_⟩
      refine ⟨_, rfl, _, _, rfl, src_get_n hS, _, rfl, _, _, rfl, rfl, ⟨hm, hm2⟩, _, rfl, _, _, rfl, src_put_n hS, ?_⟩
      refine ⟨_, rfl, k _ _ (Int.emod_nonneg _ (by omega)) (Int.emod_lt_of_pos _ hm) But.upd ⟨_, _, _, upd_same⟩⟩
    · refine ⟨_, rfl, _, _, rfl, src_get_t hS, _, _, rfl, rfl, _, rfl, _, _, rfl, src_put_t hS, ?_⟩
      refine ⟨_, rfl, _, _, rfl, src_get_s upd_same, _, rfl, _, _, rfl, src_get_t upd_same, _, _, rfl, rfl, .inl ⟨by decide, by decide⟩, _, _, rfl, rfl, _, _, rfl, rfl, .inr ⟨by decide, by decide⟩, _, _, rfl, rfl, by walk_at "pos", ?_⟩
      have b1 := Int.emod_nonneg ((s + 7919 * (t + 1)) * 48271) (show (2147483647 : Int) ≠ 0 by decide)
      have b2 := Int.emod_lt_of_pos ((s + 7919 * (t + 1)) * 48271) (show (0 : Int) < 2147483647 by decide)
      generalize ((s + 7919 * (t + 1)) * 48271) % 2147483647 = x1 at b1 b2 ⊢
      refine ⟨_, rfl, _, rfl, _, _, rfl, rfl, .inl ⟨by omega, by omega⟩, _, _, rfl, rfl, by walk_at "pos", ?_⟩
      have d1 := Int.emod_nonneg (x1 * x1) (show (2147483629 : Int) ≠ 0 by decide)
      have d2 := Int.emod_lt_of_pos (x1 * x1) (show (0 : Int) < 2147483629 by decide)
      generalize (x1 * x1) % 2147483629 = x2 at d1 d2 ⊢
      refine ⟨_, rfl, _, rfl, _, _, rfl, src_get_t upd_same, _, _, rfl, rfl, _, rfl, _, _, rfl, rfl, _, _, rfl, rfl, .inr ⟨by omega, by omega⟩, _, _, rfl, rfl, by walk_at "pos", _, _, rfl, rfl, ⟨by decide, by decide⟩, _, rfl, _, _, rfl, rfl, hm, ?_⟩
      exact k _ _ (Int.emod_nonneg _ (by omega)) (Int.emod_lt_of_pos _ hm) But.upd ⟨_, _, _, upd_same⟩
theorem sc_law_text : FnScope ["_law_source_here", "_law_signs", "_law_many", "_law_k"] ["_law_source_here"] (defScope st_law_text) := ⟨rfl, rfl, rfl, by decide +kernel, rfl, by decide +kernel, by decide +kernel⟩
theorem ok_law_text {f : Addr} {fd : FuncData} (T : Txt K mg) (F : FnP K "_law_text" "_law_text" st_law_text f fd) (G_law_take : Fn P w K mg base CX0 1 "_law_take" ["_law_source_here", "_law_many"] (sp_law_take K)) : FnOk P w K mg base CX0 2 f fd ["_law_source_here"] (sp_law_text K) := by
  refine F.ok sc_law_text (fun vs H Q E h => ?_) (fun cdv A outer s H vs Q E hr h => ?_)
  · obtain ⟨a, rfl, _⟩ := h
    rfl
  · obtain ⟨a, rfl, ⟨n, s, t, hS⟩, k⟩ := h
    refine ⟨_, PSs.nox (pss_cons (ps_set (i := 1) sc_law_text.nd rfl (Or.inr rfl) pe_str)
      (pss_cons (ps_set (i := 2) sc_law_text.nd rfl (Or.inr rfl) (pe_ix ix_list (pe_lst (pa_cons pe_int (pa_cons pe_int pa_nil))) (pe_callF G_law_take (hr.mono (by decide)) pass0 (pa_cons (pv 0) (pa_cons pe_int pa_nil))) (fun _ _ => rfl)))
      (pss_one (ps_ret (pe_join pe_str (pe_lc (own := [("_law_k", 3)]) (g := gName 3) rfl sc_law_text.nd (pi_range1 rfl T.free_range (pa_cons (pe_callF G_law_take (hr.mono (by decide)) pass0 (pa_cons (pv 0) (pa_cons pe_int pa_nil))) pa_nil)) (blkOk_by (own := [("_law_k", 3)]) (N := ["_law_source_here", "_law_signs", "_law_many", "_law_k"]) (sc := defScope st_law_text) (by decide +kernel)) (fun _ _ _ _ _ => (pg_name (i := 3) sc_law_text.nd rfl (Or.inl rfl))) (fun _ _ _ _ _ => pts_nil) (fun _ _ _ _ _ => (pe_ix ix_str (pv 1) (pe_callF G_law_take (hr.mono (by decide)) pass0 (pa_cons (pv 0) (pa_cons (pv 2) pa_nil))) (fun _ _ => rfl))))))))), ?_⟩
    refine ⟨by show 2 ≤ sizeLine; decide, fun q hq => ?_⟩
    have haq : a ≠ q := ne_of_none hS hq
    refine ⟨_, rfl, a, 2, n, s, t, rfl, (upd_ne haq).trans hS, by decide, by decide, fun r H1 r0 r1 b1 ⟨n1, s1, t1, hS1⟩ => ?_⟩
    have hl : H1 q = some (.lst [.int 26, .int 38]) := b1 _ _ haq.symm upd_same
    have hB1 : But a H H1 := (But.new' (But.refl a H) hq).trans b1
    obtain ⟨m, hm, hm0, hm1⟩ : ∃ m : Int, atI [V.int 26, V.int 38] r = some (.int m) ∧ 0 < m ∧ m ≤ 38 := by
      have : r = ((0 : Nat) : Int) ∨ r = ((1 : Nat) : Int) := by omega
      rcases this with rfl | rfl
      · exact ⟨26, atI_nat rfl, by decide, by decide⟩
      · exact ⟨38, atI_nat rfl, by decide, by decide⟩
    refine ⟨_, _, _, _, rfl, rfl, SqL.of hl, hm, ?_⟩
    refine ⟨⟨_, rfl⟩, _, rfl, a, 11, n1, s1, t1, rfl, hS1, by decide, by decide, fun r2 H2 r20 r21 b2 ⟨n2, s2, t2, hS2⟩ => ?_⟩
    refine ⟨r2, rfl, by omega, by omega, fun D hD => ?_⟩
    have haD : a ≠ D := ne_of_none hS2 hD
    refine lc_range (lo := 0) (n := r2.toNat) (fun i H' => But a H H' ∧ Src H' a ∧ H2 D = none ∧ ∃ ys : List Str, ys.length = i ∧ (∀ y ∈ ys, y.length = 1) ∧ H' D = some (.lst (ys.map V.str))) ?_ ?_ ?_
    · exact ⟨(hB1.trans b2).new' hD, ⟨_, _, _, (upd_ne haD).trans hS2⟩, hD, [], rfl, (fun _ h => nomatch h), upd_same⟩
    · rintro i H' hi ⟨bb, ⟨n3, s3, t3, hS3⟩, d0, ys, yl, y1, hDl⟩
      refine ⟨rfl, _, rfl, _, rfl, _, rfl, a, m, n3, s3, t3, rfl, hS3, hm0, by omega, fun r4 H4 r40 r41 b4 s4 => ?_⟩
      obtain ⟨c, hc⟩ : ∃ c, atI signs38.cps.toList r4 = some c := by
        obtain ⟨j, rfl⟩ := Int.eq_ofNat_of_zero_le r40
        have hj : j < signs38.cps.toList.length := by rw [signs38_len]; omega
        exact ⟨_, atI_nat (List.getElem?_eq_getElem hj)⟩
      refine ⟨signs38, _, c, rfl, rfl, by decide, hc, _, b4 _ _ haD.symm hDl, szl (by rw [List.length_map]; omega), (bb.trans b4).mut ?_, ?_, d0, ys ++ [⟨#[c]⟩], ?_, ?_, ?_⟩
      · exact (hB1.trans b2).free haD.symm d0
      · obtain ⟨n5, s5, t5, h5⟩ := s4
        exact ⟨n5, s5, t5, (upd_ne haD).trans h5⟩
      · rw [List.length_append, yl]
        rfl
      · intro y hy
        rcases List.mem_append.mp hy with h | h
        · exact y1 y h
        · rw [List.mem_singleton.mp h]
          rfl
      · rw [upd_same, List.map_append]
        rfl
    · rintro H' ⟨bb, sS, d0, ys, yl, y1, hDl⟩
      have hs : (ys.map (·.length)).sum = ys.length := sum_ones ys y1
      refine ⟨_, D, ys, rfl, rfl, .inl (SqL.of hDl), ?_, k _ H' ?_ bb sS⟩
      · rw [hs, show (("" : Str)).length = 0 from rfl]
        omega
      · rw [join_len, hs]
        omega
theorem sc_law_source : FnScope ["_law_cell"] ["_law_cell"] (defScope st_law_source) := ⟨rfl, rfl, rfl, by decide +kernel, rfl, by decide +kernel, by decide +kernel⟩
theorem ok_law_source {f : Addr} {fd : FuncData} (T : Txt K mg) (F : FnP K "_law_source" "_law_source" st_law_source f fd)  : FnOk P w K mg base CX0 1 f fd ["_law_cell"] (sp_law_source K) := by
  refine F.ok sc_law_source (fun vs H Q E h => ?_) (fun cdv A outer s H vs Q E hr h => ?_)
  · obtain ⟨c, rfl, _⟩ := h
    rfl
  · obtain ⟨c, rfl, k⟩ := h
    refine ⟨_, PSs.nox (pss_one (ps_ret (pe_disp (pps_cons pe_str (pe_op op_mul (pe_callB (call_max2 rfl) rfl T.free_max (by decide +kernel) (pa_cons pe_int (pa_cons (pv 0) pa_nil))) (pe_callTy call_int1 rfl T.free_int (by decide +kernel) (pa_cons (pe_cmpR op_ge (pv 0) (pe_op op_pow pe_int pe_int) (nomark _)) pa_nil))) (pps_cons pe_str (pe_op op_mod (pv 0) pe_int) (pps_cons pe_str pe_int pps_nil))) (by rfl) (by rfl) (fun z => by cases z) (by decide)))), ?_⟩
    intro p hp
    refine ⟨_, rfl, _, _, rfl, _, rfl, _, _, rfl, rfl, ⟨by decide, by decide, by decide⟩, _, _, rfl, rfl, .inr ⟨_, rfl, ?_⟩⟩
    refine ⟨_, _, rfl, rfl, .inr ?_, _, rfl, _, _, rfl, rfl, by walk_at "pos", upd_same, [(Sum.inr "number", _), (Sum.inr "seed", _), (Sum.inr "turn", _)], rfl, (by show 3 ≤ 15; decide), ?_⟩
    · split <;> decide
    · exact k p _ hp ((Same.new hp).mut hp) src_at
theorem sc_law_is_label : FnScope ["_law_text_here", "_law_sign"] ["_law_text_here"] (defScope st_law_is_label) := ⟨rfl, rfl, rfl, by decide +kernel, rfl, by decide +kernel, by decide +kernel⟩
theorem ok_law_is_label {f : Addr} {fd : FuncData} (T : Txt K mg) (F : FnP K "_law_is_label" "_law_is_label" st_law_is_label f fd)  : FnOk P w K mg base CX0 1 f fd ["_law_text_here"] (sp_law_is_label K) := by
  refine F.ok sc_law_is_label (fun vs H Q E h => ?_) (fun cdv A outer s H vs Q E hr h => ?_)
  · obtain ⟨z, rfl, _⟩ := h
    rfl
  · obtain ⟨z, rfl, hz, k⟩ := h
    refine ⟨_, PSs.nox (pss_cons (ps_if (pt_not (pt_chain op_lt op_lt pe_int (pe_callB call_len rfl T.free_len PySem.boot_len (pa_cons (pv 0) pa_nil)) pe_int))
      (pss_one (ps_ret pe_bl))
      pss_nil)
      (pss_one (ps_ret (pe_cmpR op_eq (pe_callB call_len rfl T.free_len PySem.boot_len (pa_cons (pe_lc (own := [("_law_sign", 1)]) (g := gName 1) rfl sc_law_is_label.nd (pi_str (pv 0)) (blkOk_by (own := [("_law_sign", 1)]) (N := ["_law_text_here", "_law_sign"]) (sc := defScope st_law_is_label) (by decide +kernel)) (fun _ _ _ _ _ => (pg_name (i := 1) sc_law_is_label.nd rfl (Or.inl rfl))) (fun _ _ _ _ _ => (pts_one (pt_chain op_le_str op_le_str pe_str (pv 1) pe_str))) (fun _ _ _ _ _ => (pv 1))) pa_nil)) (pe_callB call_len rfl T.free_len PySem.boot_len (pa_cons (pv 0) pa_nil)) (nomark _))))), ?_⟩
    refine ⟨_, rfl, _, _, rfl, ⟨sz (by omega), rfl⟩, _, _, rfl, rfl, _, rfl, ?_⟩
    by_cases c1 : (0 : Int) < (z.length : Int)
    · rw [decide_eq_true c1]
      refine iteT ⟨_, _, rfl, rfl, _, rfl, ?_⟩
      by_cases c2 : (z.length : Int) < 9
      · rw [decide_eq_true c2]
        refine iteF ⟨_, rfl, z, rfl, fun D hD => ?_⟩
        refine lc_str (z := z) (fun i H' => Same H H' ∧ H D = none ∧ ∃ vs : List V, vs.length = ((z.cps.toList.take i).filter isLow).length ∧ H' D = some (.lst vs)) ⟨Same.new hD, hD, [], rfl, upd_same⟩ ?_ ?_
        · rintro i c H' hi ⟨s1, d1, vs, hv, h1⟩
          refine ⟨rfl, _, rfl, _, _, rfl, rfl, _, rfl, ?_⟩
          have ht : z.cps.toList.take (i + 1) = z.cps.toList.take i ++ [c] := take_snoc hi
          have hle : ((z.cps.toList.take i).filter isLow).length ≤ i := Nat.le_trans (List.length_filter_le _ _) (by rw [List.length_take]; omega)
          have hib := sign_lt hi
          rw [ge_a]
          by_cases l1 : 97 ≤ c
          · rw [decide_eq_true l1]
            refine iteT ⟨_, _, rfl, rfl, _, rfl, ?_⟩
            rw [le_z]
            by_cases l2 : c ≤ 122
            · have cl : isLow c = true := by unfold isLow; rw [decide_eq_true l1, decide_eq_true l2]; rfl
              rw [decide_eq_true l2]
              refine iteT ⟨_, rfl, vs, h1, szl (by omega), s1.mut d1, d1, vs ++ [_], ?_, upd_same⟩
              rw [ht, List.filter_append, List.length_append, List.length_append, hv]
              simp [cl]
            · have cl : isLow c = false := by unfold isLow; rw [decide_eq_false l2, Bool.and_false]
              rw [decide_eq_false l2]
              exact iteF ⟨s1, d1, vs, by rw [ht, List.filter_append, List.length_append, hv]; simp [cl], h1⟩
          · have cl : isLow c = false := by unfold isLow; rw [decide_eq_false l1, Bool.false_and]
            rw [decide_eq_false l1]
            exact iteF ⟨_, rfl, iteF ⟨s1, d1, vs, by rw [ht, List.filter_append, List.length_append, hv]; simp [cl], h1⟩⟩
        · rintro H' ⟨s1, d1, vs, hv, h1⟩
          rw [List.take_of_length_le (by simp)] at hv
          refine ⟨_, _, rfl, Or.inl ⟨_, SqL.of h1, rfl⟩, _, rfl, _, _, rfl, ⟨sz (by omega), rfl⟩, rfl, ?_⟩
          have := k _ s1
          rw [labelB_count (by omega) (by omega)] at this
          rw [show decide (V.int (vs.length : Int) = V.int (z.length : Int)) = decide ((z.cps.toList.filter isLow).length = z.length) by rw [hv]; simp; omega]
          exact this
      · rw [decide_eq_false c2]
        refine iteT ?_
        have := k _ (Same.refl H)
        rw [labelB_long (by omega)] at this
        exact this
    · rw [decide_eq_false c1]
      refine iteF ⟨_, rfl, iteT ?_⟩
      have := k _ (Same.refl H)
      rw [labelB_empty (by omega)] at this
      exact this
theorem sc_law : FnScope ["_law_script", "_law_thing", "_law_k", "_law_cell", "_law_text_here", "_law_number"] ["_law_script"] (defScope st_law) := ⟨rfl, rfl, rfl, by decide +kernel, rfl, by decide +kernel, by decide +kernel⟩
theorem ok_law {f : Addr} {fd : FuncData} (T : Txt K mg) (F : FnP K "law" "law" st_law f fd) (G_law_told : Fn P w K mg base CX0 1 "_law_told" ["_law_found", "_law_due"] (sp_law_told K)) (G_is_whole : Fn P w K mg base CX0 1 "is_whole" ["thing"] (sp_is_whole K)) (G_is_label : Fn P w K mg base CX0 1 "is_label" ["thing"] (sp_is_label K)) (G_law_cell_at : Fn P w K mg base CX0 1 "_law_cell_at" ["_law_script", "_law_k"] (sp_law_cell_at K)) (G_law_text : Fn P w K mg base CX0 2 "_law_text" ["_law_source_here"] (sp_law_text K)) (G_law_source : Fn P w K mg base CX0 1 "_law_source" ["_law_cell"] (sp_law_source K)) (G_law_is_label : Fn P w K mg base CX0 1 "_law_is_label" ["_law_text_here"] (sp_law_is_label K)) : FnOk P w K mg base CX0 3 f fd ["_law_script"] (sp_law K) := by
  refine F.ok sc_law (fun vs H Q E h => ?_) (fun cdv A outer s H vs Q E hr h => ?_)
  · obtain ⟨a, ns, rfl, _⟩ := h
    rfl
  · obtain ⟨a, ns, rfl, hS, hl, k⟩ := h
    refine ⟨_, PSs.nox (pss_cons (ps_for PassesOwn.never rfl (pi_list (pe_lst (pa_cons pe_non (pa_cons pe_bl (pa_cons pe_bl (pa_cons (pe_lst pa_nil) (pa_cons (pe_lst (pa_cons pe_str pa_nil)) (pa_cons (pe_tup (pa_cons pe_str pa_nil)) (pa_cons pe_dnewK (pa_cons (pe_disp (pps_cons pe_str pe_int pps_nil) (by rfl) (by rfl) (fun z => by cases z) (by decide)) (pa_cons (pe_lst (pa_cons pe_int pa_nil)) pa_nil))))))))))) (pg_name (i := 1) sc_law.nd rfl (Or.inl rfl))
      (pss_one (ps_if (PW.pt (pw_or (pt_not (pt_val (pe_callF G_law_told (hr.mono (by decide)) pass0 (pa_cons (pe_callF G_is_whole (hr.mono (by decide)) pass0 (pa_cons (pv 1) pa_nil)) (pa_cons pe_bl pa_nil))))) (pw_or1 (pt_not (pt_val (pe_callF G_law_told (hr.mono (by decide)) pass0 (pa_cons (pe_callF G_is_label (hr.mono (by decide)) pass0 (pa_cons (pv 1) pa_nil)) (pa_cons pe_bl pa_nil))))))))
      (pss_one (ps_ret pe_bl))
      pss_nil)))
      (pss_cons (ps_for PassesOwn.never rfl (pi_range1 rfl T.free_range (pa_cons (pe_callB (call_max2 rfl) rfl T.free_max (by decide +kernel) (pa_cons pe_int (pa_cons (pe_callB (call_min2 rfl) rfl T.free_min (by decide +kernel) (pa_cons (pe_callB call_len rfl T.free_len PySem.boot_len (pa_cons (pv 0) pa_nil)) (pa_cons pe_int pa_nil))) pa_nil))) pa_nil)) (pg_name (i := 2) sc_law.nd rfl (Or.inl rfl))
      (pss_cons (ps_set (i := 3) sc_law.nd rfl (Or.inl rfl) (pe_callF G_law_cell_at (hr.mono (by decide)) pass0 (pa_cons (pv 0) (pa_cons (pv 2) pa_nil))))
      (pss_cons (ps_set (i := 4) sc_law.nd rfl (Or.inl rfl) (pe_callF G_law_text (hr.mono (by decide)) pass0 (pa_cons (pe_callF G_law_source (hr.mono (by decide)) pass0 (pa_cons (pv 3) pa_nil)) pa_nil)))
      (pss_cons (ps_set (i := 5) sc_law.nd rfl (Or.inl rfl) (pe_op op_sub (pe_op op_mulW (pe_op op_mod (pv 3) (pe_op op_pow pe_int pe_int)) (pe_op op_pow pe_int pe_int)) (pe_op op_mod (pv 3) pe_int)))
      (pss_cons (ps_if (PW.pt (pw_or (pt_not (pt_val (pe_callF G_law_told (hr.mono (by decide)) pass0 (pa_cons (pe_callF G_is_whole (hr.mono (by decide)) pass0 (pa_cons (pv 5) pa_nil)) (pa_cons pe_bl pa_nil))))) (pw_or1 (pt_not (pt_val (pe_callF G_law_told (hr.mono (by decide)) pass0 (pa_cons (pe_callF G_is_label (hr.mono (by decide)) pass0 (pa_cons (pv 5) pa_nil)) (pa_cons pe_bl pa_nil))))))))
      (pss_one (ps_ret pe_bl))
      pss_nil)
      (pss_one (ps_if (PW.pt (pw_or (pt_not (pt_val (pe_callF G_law_told (hr.mono (by decide)) pass0 (pa_cons (pe_callF G_is_whole (hr.mono (by decide)) pass0 (pa_cons (pv 4) pa_nil)) (pa_cons pe_bl pa_nil))))) (pw_or1 (pt_not (pt_val (pe_callF G_law_told (hr.mono (by decide)) pass0 (pa_cons (pe_callF G_is_label (hr.mono (by decide)) pass0 (pa_cons (pv 4) pa_nil)) (pa_cons (pe_callF G_law_is_label (hr.mono (by decide)) pass0 (pa_cons (pv 4) pa_nil)) pa_nil))))))))
      (pss_one (ps_ret pe_bl))
      pss_nil)))))))
      (pss_one (ps_ret pe_bl)))), ?_⟩
    refine ⟨Nat.zero_le _, ?_⟩
    intro p1 n1
    generalize e_H1 : upd _ p1 _ = H1
    obtain ⟨s1, h1⟩ := al e_H1 n1
    refine ⟨by show 1 ≤ sizeLine; decide, ?_⟩
    intro p2 n2
    generalize e_H2 : upd _ p2 _ = H2
    obtain ⟨s2, h2⟩ := al e_H2 n2
    refine ⟨by show 1 ≤ sizeLine; decide, ?_⟩
    intro p3 n3
    generalize e_H3 : upd _ p3 _ = H3
    obtain ⟨s3, h3⟩ := al e_H3 n3
    intro p4 n4
    generalize e_H4 : upd _ p4 _ = H4
    obtain ⟨s4, h4⟩ := al e_H4 n4
    intro p5 n5
    refine ⟨upd_same, [(Sum.inr "a", .int 1)], rfl, by decide, ?_⟩
    rw [upd_upd]
    generalize e5 : upd _ p5 _ = H5
    obtain ⟨s5, h5⟩ := al e5 n5
    refine ⟨by show 1 ≤ sizeLine; decide, ?_⟩
    intro p6 n6
    generalize e_H6 : upd _ p6 _ = H6
    obtain ⟨s6, h6⟩ := al e_H6 n6
    refine ⟨by show 9 ≤ sizeLine; decide, ?_⟩
    intro p7 n7
    generalize e_H7 : upd _ p7 _ = H7
    obtain ⟨s7, h7⟩ := al e_H7 n7
    have s17 : Same H H7 := s1.trans (s2.trans (s3.trans (s4.trans (s5.trans (s6.trans s7)))))
    have hK : ∀ x ∈ [V.non, .bl true, .bl false, .ref p1, .ref p2, .ref p3, .ref p4, .ref p5, .ref p6], ∃ t, Knd K H7 x t ∧ (t == "int") = false ∧ labelV x = false ∧ ∀ z, x ≠ .str z := by
      intro x hx
      simp only [List.mem_cons, List.not_mem_nil, or_false] at hx
      rcases hx with rfl | rfl | rfl | rfl | rfl | rfl | rfl | rfl | rfl
      · exact ⟨_, .non, rfl, rfl, fun _ q => nomatch q⟩
      · exact ⟨_, .bl _, rfl, rfl, fun _ q => nomatch q⟩
      · exact ⟨_, .bl _, rfl, rfl, fun _ q => nomatch q⟩
      · exact ⟨_, .lst (s7 _ _ (s6 _ _ (s5 _ _ (s4 _ _ (s3 _ _ (s2 _ _ h1)))))), rfl, rfl, fun _ q => nomatch q⟩
      · exact ⟨_, .lst (s7 _ _ (s6 _ _ (s5 _ _ (s4 _ _ (s3 _ _ h2))))), rfl, rfl, fun _ q => nomatch q⟩
      · exact ⟨_, .tup (s7 _ _ (s6 _ _ (s5 _ _ (s4 _ _ h3)))), rfl, rfl, fun _ q => nomatch q⟩
      · exact ⟨_, .dK (s7 _ _ (s6 _ _ (s5 _ _ h4))), rfl, rfl, fun _ q => nomatch q⟩
      · exact ⟨_, .dK (s7 _ _ (s6 _ _ h5)), rfl, rfl, fun _ q => nomatch q⟩
      · exact ⟨_, .lst (s7 _ _ h6), rfl, rfl, fun _ q => nomatch q⟩
    refine ⟨p7, rfl, ⟨_, SqL.of h7⟩, for_list (K := K) (a := p7) (xs := [V.non, .bl true, .bl false, .ref p1, .ref p2, .ref p3, .ref p4, .ref p5, .ref p6]) (fun i σ H' => Same H7 H' ∧ ∃ v, σ = [some (.ref a), v, none, none, none, none]) ⟨Same.refl _, none, rfl⟩ (fun i σ H' _ ⟨s, _⟩ => s.seq (SqL.of h7)) ?_ ?_⟩
    · rintro i x σ H' hi ⟨s8, v, rfl⟩
      obtain ⟨t, kt, ti, tl, tn⟩ := hK x (List.mem_of_getElem? hi)
      refine ⟨_, rfl, x, t, rfl, kt.same s8, false, false, by rw [ti]; rfl, _, rfl, ?_⟩
      refine iteF ⟨_, rfl, x, t, rfl, kt.same s8, fun z hz => absurd hz (tn z), fun H9 s9 => ⟨false, false, by rw [tl]; rfl, _, rfl, ?_⟩⟩
      exact iteF ⟨s8.trans s9, _, rfl⟩
    · rintro σ H' ⟨s8, v, rfl⟩
      have s0 := s17.trans s8
      refine ⟨_, rfl, _, _, rfl, Or.inl ⟨_, s0.seq hS, rfl⟩, _, _, rfl, _, _, rfl, _, rfl, by split <;> (try split) <;> omega, by split <;> (try split) <;> omega, for_range (lo := 0) (fun i σ H' => Same H H' ∧ ∃ v1 v2 v3 v4 v5, σ = [some (.ref a), v1, v2, v3, v4, v5]) ⟨s0, _, _, _, _, _, rfl⟩ ?_ ?_⟩
      · rintro i σ H1 hi ⟨s1, v1, v2, v3, v4, v5, rfl⟩
        refine ⟨_, rfl, _, rfl, a, ns, _, rfl, s1.seq hS, hl, by omega, fun c => ?_⟩
        refine ⟨_, rfl, c, rfl, fun p H2 n2 s2 src2 => ⟨p, rfl, src2, fun z H3 hz b3 src3 => ?_⟩⟩
        have s3 : Same H H3 := s1.trans (same_of_but s2 n2 b3)
        have m0 := Int.emod_nonneg c (show ((10 : Int) ^ (60 : Int).toNat) ≠ 0 by decide +kernel)
        have m1 := Int.emod_lt_of_pos c (show (0 : Int) < 10 ^ (60 : Int).toNat by decide +kernel)
        refine ⟨_, rfl, _, _, rfl, rfl, ⟨by decide, by decide, by decide⟩, _, _, rfl, rfl, (by show (0 : Int) < 10 ^ (60 : Int).toNat; decide +kernel), _, _, rfl, rfl, ⟨by decide, by decide, by decide⟩, _, _, rfl, rfl, ?_, _, rfl, _, _, rfl, rfl, by walk_at "pos", _, _, rfl, rfl, ?_⟩
        · refine wide_mul (a := 200) (b := 134) ?_ (by decide +kernel) (by decide) (by decide) (by decide)
          have h2 : ((10 : Int) ^ (60 : Int).toNat) < ((2 ^ 200 : Nat) : Int) := by decide +kernel
          omega
        refine ⟨_, rfl, .int _, "int", rfl, .int _, true, true, rfl, _, rfl, ?_⟩
        refine iteF ⟨_, rfl, .int _, "int", rfl, .int _, (fun _ q => nomatch q), fun H4 s4 => ⟨false, false, rfl, _, rfl, ?_⟩⟩
        refine iteF ⟨_, rfl, .str z, "str", rfl, .str _, false, false, rfl, _, rfl, ?_⟩
        refine iteF ⟨_, rfl, .str z, "str", rfl, .str _, (fun _ q => by cases q; omega), fun H5 s5 => ⟨_, rfl, z, rfl, by omega, fun H6 s6 => ⟨_, _, rfl, _, rfl, ?_⟩⟩⟩
        rw [labelV_str, beq_self_eq_true]
        exact iteF ⟨s3.trans (s4.trans (s5.trans s6)), _, _, _, _, _, rfl⟩
      · rintro σ H1 ⟨s1, v1, v2, v3, v4, v5, rfl⟩
        exact k H1
end
def dd_law_told : He.DefD := ⟨("_law_told", none), "_law_told", "_law_told", defArgs st_law_told, defBody st_law_told, defScope st_law_told, [], []⟩
def dd_is_whole : He.DefD := ⟨("is_whole", none), "is_whole", "is_whole", defArgs st_is_whole, defBody st_is_whole, defScope st_is_whole, [], []⟩
def dd_is_label : He.DefD := ⟨("is_label", none), "is_label", "is_label", defArgs st_is_label, defBody st_is_label, defScope st_is_label, [], []⟩
def dd_law_cell_at : He.DefD := ⟨("_law_cell_at", none), "_law_cell_at", "_law_cell_at", defArgs st_law_cell_at, defBody st_law_cell_at, defScope st_law_cell_at, [], []⟩
def dd_law_take : He.DefD := ⟨("_law_take", none), "_law_take", "_law_take", defArgs st_law_take, defBody st_law_take, defScope st_law_take, [], []⟩
def dd_law_text : He.DefD := ⟨("_law_text", none), "_law_text", "_law_text", defArgs st_law_text, defBody st_law_text, defScope st_law_text, [], []⟩
def dd_law_source : He.DefD := ⟨("_law_source", none), "_law_source", "_law_source", defArgs st_law_source, defBody st_law_source, defScope st_law_source, [], []⟩
def dd_law_is_label : He.DefD := ⟨("_law_is_label", none), "_law_is_label", "_law_is_label", defArgs st_law_is_label, defBody st_law_is_label, defScope st_law_is_label, [], []⟩
def dd_law : He.DefD := ⟨("law", none), "law", "law", defArgs st_law, defBody st_law, defScope st_law, [], []⟩
def fns : List He.DefD := [dd_law_told, dd_is_whole, dd_is_label, dd_law_cell_at, dd_law_take, dd_law_text, dd_law_source, dd_law_is_label, dd_law]
def facs : List He.Fa := ([.free "isinstance", .free "bool", .free "int", .free "str", .free "len", .int "MOST_LETTERS" 8, .free "all", .str "LETTERS" "abcdefghijklmnopqrstuvwxyz", .free "range", .free "max", .free "min", .glo "_law_told", .glo "is_whole", .glo "is_label", .glo "_law_cell_at", .glo "_law_take", .glo "_law_text", .glo "_law_source", .glo "_law_is_label", .glo "law"] : List He.Fa)
def loose : List Str := (["LETTERS", "MOST_LETTERS", "is_whole", "is_label", "_law_cell_at", "_law_source", "_law_take", "_law_text", "_law_is_label", "_law_told"] : List Str)
abbrev RR : PySem.W.OpenRow := PySem.W.OpenLaw.row PySem.Challenge.rw_boughask_k01_words_told
abbrev hk : PySem.W.Hook := He.hookD 6 facs fns
def ob (s : PySem.W.SharedT) : He.AlD := He.obsDG 6 facs fns (HandSHeadRun.getT s)
theorem ob_eq (s : PySem.W.SharedT) : ob s = hk.obs s.abs := He.obsDG_eq (HandSHeadRun.getT_eq s)
theorem run (w : World) : HandSHeadRun.RunEq RR (PySem.W.view RR.prog [12]) hk ob 4000 loose w := by
  intro os
  kernel_rfl
theorem facts {P : Program} {w : World} {K : PySem.W.Frag} {h : Heap} {mg : Str → Option Value} {fl : Addr} (X : K.In h) (G : h.Ns mainGlobals mg) (hfa : mg ("law" : Str) = some (.ref fl)) (c : He.SaysD facs fns K) :
    ∃ fd : FuncData, (∀ (s : Shared) (v : Value), BindsTo s fd ⟨[v], []⟩ [("_law_script", v)]) ∧ ∀ base : Heap, K.In base → base.Ns mainGlobals mg → FnOk P w K mg base CX0 3 fl fd ["_law_script"] (sp_law K) := by
  obtain ⟨fd_law_told, F_law_told⟩ := c.def_ 0 (d := dd_law_told) rfl
  obtain ⟨fd_is_whole, F_is_whole⟩ := c.def_ 1 (d := dd_is_whole) rfl
  obtain ⟨fd_is_label, F_is_label⟩ := c.def_ 2 (d := dd_is_label) rfl
  obtain ⟨fd_law_cell_at, F_law_cell_at⟩ := c.def_ 3 (d := dd_law_cell_at) rfl
  obtain ⟨fd_law_take, F_law_take⟩ := c.def_ 4 (d := dd_law_take) rfl
  obtain ⟨fd_law_text, F_law_text⟩ := c.def_ 5 (d := dd_law_text) rfl
  obtain ⟨fd_law_source, F_law_source⟩ := c.def_ 6 (d := dd_law_source) rfl
  obtain ⟨fd_law_is_label, F_law_is_label⟩ := c.def_ 7 (d := dd_law_is_label) rfl
  obtain ⟨fd_law, F_law⟩ := c.def_ 8 (d := dd_law) rfl
  have T : Txt K mg := { free_isinstance := He.free_ok X G (c.fact 0 (f := .free "isinstance") rfl), free_bool := He.free_ok X G (c.fact 1 (f := .free "bool") rfl), free_int := He.free_ok X G (c.fact 2 (f := .free "int") rfl), free_str := He.free_ok X G (c.fact 3 (f := .free "str") rfl), free_len := He.free_ok X G (c.fact 4 (f := .free "len") rfl), g_MOST_LETTERS := He.int_ok X G (c.fact 5 (f := .int "MOST_LETTERS" 8) rfl), free_all := He.free_ok X G (c.fact 6 (f := .free "all") rfl), g_LETTERS := He.str_ok X G (c.fact 7 (f := .str "LETTERS" "abcdefghijklmnopqrstuvwxyz") rfl), free_range := He.free_ok X G (c.fact 8 (f := .free "range") rfl), free_max := He.free_ok X G (c.fact 9 (f := .free "max") rfl), free_min := He.free_ok X G (c.fact 10 (f := .free "min") rfl) }
  have e := hfa.symm.trans (He.glo_ok X G (c.fact 19 (f := .glo "law") rfl))
  cases e
  have b := FunD.bindsA (ps := ["_law_script"]) F_law fun _ _ _ _ _ _ us hl => match us, hl with | [_], _ => rfl
  refine ⟨fd_law, fun s v => b s [v] rfl, fun base _ _ => ?_⟩
  have G_law_told : Fn P w K mg base CX0 1 "_law_told" ["_law_found", "_law_due"] (sp_law_told K) := ⟨_, _, (ok_law_told (P := P) (w := w) (base := base) T F_law_told ), He.glo_ok X G (c.fact 11 (f := .glo "_law_told") rfl), F_law_told.kp, (F_law_told.bindsN fun _ _ _ _ _ _ us hl => match us, hl with | [_, _], _ => rfl)⟩
  have G_is_whole : Fn P w K mg base CX0 1 "is_whole" ["thing"] (sp_is_whole K) := ⟨_, _, (ok_is_whole (P := P) (w := w) (base := base) T F_is_whole ), He.glo_ok X G (c.fact 12 (f := .glo "is_whole") rfl), F_is_whole.kp, (F_is_whole.bindsN fun _ _ _ _ _ _ us hl => match us, hl with | [_], _ => rfl)⟩
  have G_is_label : Fn P w K mg base CX0 1 "is_label" ["thing"] (sp_is_label K) := ⟨_, _, (ok_is_label (P := P) (w := w) (base := base) T F_is_label ), He.glo_ok X G (c.fact 13 (f := .glo "is_label") rfl), F_is_label.kp, (F_is_label.bindsN fun _ _ _ _ _ _ us hl => match us, hl with | [_], _ => rfl)⟩
  have G_law_cell_at : Fn P w K mg base CX0 1 "_law_cell_at" ["_law_script", "_law_k"] (sp_law_cell_at K) := ⟨_, _, (ok_law_cell_at (P := P) (w := w) (base := base) T F_law_cell_at ), He.glo_ok X G (c.fact 14 (f := .glo "_law_cell_at") rfl), F_law_cell_at.kp, (F_law_cell_at.bindsN fun _ _ _ _ _ _ us hl => match us, hl with | [_, _], _ => rfl)⟩
  have G_law_take : Fn P w K mg base CX0 1 "_law_take" ["_law_source_here", "_law_many"] (sp_law_take K) := ⟨_, _, (ok_law_take (P := P) (w := w) (base := base) T F_law_take ), He.glo_ok X G (c.fact 15 (f := .glo "_law_take") rfl), F_law_take.kp, (F_law_take.bindsN fun _ _ _ _ _ _ us hl => match us, hl with | [_, _], _ => rfl)⟩
  have G_law_text : Fn P w K mg base CX0 2 "_law_text" ["_law_source_here"] (sp_law_text K) := ⟨_, _, (ok_law_text (P := P) (w := w) (base := base) T F_law_text G_law_take), He.glo_ok X G (c.fact 16 (f := .glo "_law_text") rfl), F_law_text.kp, (F_law_text.bindsN fun _ _ _ _ _ _ us hl => match us, hl with | [_], _ => rfl)⟩
  have G_law_source : Fn P w K mg base CX0 1 "_law_source" ["_law_cell"] (sp_law_source K) := ⟨_, _, (ok_law_source (P := P) (w := w) (base := base) T F_law_source ), He.glo_ok X G (c.fact 17 (f := .glo "_law_source") rfl), F_law_source.kp, (F_law_source.bindsN fun _ _ _ _ _ _ us hl => match us, hl with | [_], _ => rfl)⟩
  have G_law_is_label : Fn P w K mg base CX0 1 "_law_is_label" ["_law_text_here"] (sp_law_is_label K) := ⟨_, _, (ok_law_is_label (P := P) (w := w) (base := base) T F_law_is_label ), He.glo_ok X G (c.fact 18 (f := .glo "_law_is_label") rfl), F_law_is_label.kp, (F_law_is_label.bindsN fun _ _ _ _ _ _ us hl => match us, hl with | [_], _ => rfl)⟩
  exact ok_law T F_law G_law_told G_is_whole G_is_label G_law_cell_at G_law_text G_law_source G_law_is_label
end Lw
open PySem PySem.W PySem.Calls PyProof.Rows
theorem PySem.Challenge.cw_boughask_k01_words_told_holds : PySem.Challenge.rw_boughask_k01_words_told.Holds := by
  w_on; o_law
  refine HandSHeadRun.head_any (r := OpenLaw.row PySem.Challenge.rw_boughask_k01_words_told) (q := view (OpenLaw.row PySem.Challenge.rw_boughask_k01_words_told).prog [12]) (H := Lw.hk) (ob := Lw.ob) (M := 4000) (loose := Lw.loose) (d := HandSHeadRun.topDef (OpenLaw.row PySem.Challenge.rw_boughask_k01_words_told).prog 12) (kwd := []) Lw.ob_eq
    (by kernel_rfl) (fun s => by kernel_rfl) Lw.run (by kernel_rfl) (by kernel_rfl) (by kernel_rfl) (by rfl) (by first | assumption | decide +kernel) (by decide +kernel) ⟨rfl, rfl, rfl, rfl, rfl, by decide +kernel⟩ ?hw ?hc
  case hw => w_witness2
  case hc =>
    refine L2.walk_ofE (l := PySem.Challenge.rw_boughask_k01_words_told) (n := 63) (k := 3) (x := "_law_script") (CX := L2.CX0) rfl (by decide) (by kernel_rfl) ⟨rfl, by decide, by decide⟩ ?F (fun _ _ _ _ z => z)
    intro w mg fa h Y G hmg0
    obtain ⟨K, KX, c⟩ := Y
    have hmg : mg ("law" : PySem.Str) = some (.ref fa) := by
      have e : (HandSHeadRun.topDef (OpenLaw.row PySem.Challenge.rw_boughask_k01_words_told).prog 12).name = ("law" : PySem.Str) := by kernel_rfl
      rw [← e]
      exact hmg0
    obtain ⟨fd, hb, hF⟩ := Lw.facts (P := (PySem.Challenge.rw_boughask_k01_words_told).prog) (w := w) KX G hmg c
    exact ⟨K, fd, Lw.sp_law K, KX, hb, fun H a ns hl _ hS => ⟨a, ns, rfl, hS, hl, fun _ => rfl⟩, hF⟩

