import PyProof.Rows.All
import Wide.All
import OpenK.AllK
import Wide.FinOn
import KE.KStateDown
import HandS.ForMost
import HandS.ForExc
import HandS.IsInst
import HandS.Wide
import HandS.Defaults
import HandS.More
import HandS.Head0
import HandS.Head1
import HandS.Head2
import HandS.HeadEnd
import HandS.HeadHook1
import HandS.HeadHook2
import HandS.Flow
import HandS.RevRange
import HandS.Walk
import HandS.TryOnly
import KE.KExcIs
import HandS.ExcInit
import HandS.ExcField
import HandS.ExcIs
import HandS.ExcOwn
import KE.GoesEnum
import HandS.Conv
import HandS.Style
import HandS.SortInts
import HandS.TryMany
import PyProof.FitsInt
import KE.KEqNest
import PyProof.NeData
import HandS.RevTup
import HandS.Rev
import HandS.SetFor
import HandS.Strs
import PyProof.StrOps2
import HandS.Deep
import HandS.CallSlots
import HandS.CallLocal
import PyProof.ListStr
import HandS.Text
import PyProof.CallStr
import PySem.Challenge.RW_boughask_k05_refusals_apart
set_option Elab.async false
set_option linter.all false
set_option maxRecDepth 100000
set_option maxHeartbeats 4000000

namespace Bg
open PySem PySem.Spec PyProof.Rows L2
def obsE (as : List Addr) (fa : List He.Fa) (fn : List He.DefD) (ex : PySem.W.Frag → List Bool) (g : Addr → Option Obj) : He.AlD × Bool := (He.obsD fa fn (He.frG g as), (ex (He.frG g as)).all id)
def hookE (as : List Addr) (fa : List He.Fa) (fn : List He.DefD) (ex : PySem.W.Frag → List Bool) : PySem.W.Hook where
  α := He.AlD × Bool
  obs := fun s => obsE as fa fn ex s.heap.get?
  val := fun _ => (He.valD fn, true)
  says := fun _ h => ∃ K : PySem.W.Frag, K.In h ∧ He.SaysD fa fn K ∧ (ex K).all id = true
  of := fun _ _ e => ⟨_, He.frG_in, congrArg (fun z : He.AlD × Bool => z.1) e, congrArg (fun z : He.AlD × Bool => z.2) e⟩
  keeps := fun _ _ _ ⟨K, hK, c⟩ k => ⟨K, PySem.W.Frag.In.keeps hK k, c⟩
theorem obsE_eq {as : List Addr} {fa : List He.Fa} {fn : List He.DefD} {ex : PySem.W.Frag → List Bool} {g : Addr → Option Obj} {s : Shared} (h : ∀ a, g a = s.heap.get? a) : obsE as fa fn ex g = (hookE as fa fn ex).obs s := by
  obtain rfl : g = s.heap.get? := funext h
  rfl
theorem ex_at {l : List Bool} (i : Nat) (h : l.all id = true) {b : Bool} (hb : l[i]? = some b := by rfl) : b = true := List.all_eq_true.mp h b (List.mem_of_getElem? hb)
end Bg

namespace Va
open PySem PySem.Spec PyProof.Rows L2 Bg
def exField (c : Str) : Str := if c = "NoDocument" ∨ c = "NoQuestion" then "row" else if c = "Ring" then "labels" else if c = "NoText" then "place" else if c = "NoLine" then "line" else "found"
def oexB (K : PySem.W.Frag) (C : Addr) : Bool := (match K.lookup C with
  | some ⟨.type "type", _, .cls cd, sl⟩ => (match cd.mro, sl.toList with
    | .ref C' :: bm, [_, _, _, _, some (.builtin n), _] => C' == C && n == "ValueError.__new__" && !cd.hasDel && cd.hasDict && PySem.HandSPX.refsVE bm
    | _, _ => false)
  | _ => false) && (decide (PySem.W.findIn K (.ref C) "__setattr__" = some (some (.builtin "object.__setattr__"))) && (decide (PySem.W.subIn K (.ref C) (.type "BaseException") = some true) && (decide (PySem.W.typeIn K (.ref C) = some (.type "type")) && PySem.W.keepIn K (.ref C))))
theorem oexB_ok {K : PySem.W.Frag} {C : Addr} (h : oexB K C = true) : OexC K C := by
  unfold oexB at h
  rw [Bool.and_eq_true, Bool.and_eq_true, Bool.and_eq_true, Bool.and_eq_true] at h
  obtain ⟨q, h1, h2, h3, h4⟩ := h
  refine ⟨?_, of_decide_eq_true h1, of_decide_eq_true h2, of_decide_eq_true h3, h4⟩
  split at q
  · rename_i dd cd sl ho
    split at q
    · rename_i C' bm k0 k1 k2 k3 n k5 hm hs
      simp only [Bool.and_eq_true, beq_iff_eq, Bool.not_eq_true'] at q
      obtain ⟨⟨⟨⟨rfl, rfl⟩, hdel⟩, hdc⟩, ht⟩ := q
      obtain ⟨nm, bs, mro, ns, qn, hd, sn, sub, ab, col, del⟩ := cd
      dsimp only at hm hdel hdc
      subst hm hdel hdc
      have hsl : sl = #[k0, k1, k2, k3, some (.builtin "ValueError.__new__"), k5] := by
        obtain ⟨l⟩ := sl
        simp only at hs
        rw [hs]
      subst hsl
      exact ⟨nm, qn, ns, bs, bm, sn, sub, ab, col, dd, k0, k1, k2, k3, k5, ho, ht⟩
    · cases q
  · cases q
def excCB (K : PySem.W.Frag) (C : Addr) : Bool := decide (PySem.W.findIn K (.ref C) "__getattribute__" = some (some (.builtin "BaseException.__getattribute__"))) && (decide (PySem.W.findIn K (.ref C) "__getattr__" = some none) && (decide (PySem.W.subIn K (.ref C) (.type "BaseException") = some true) && (PySem.W.hasDictIn K C &&
  (decide (PySem.W.findIn K (.ref C) "__class__" = some (some (.builtin "object.__class__"))) && (decide (PySem.W.specialIn K (.builtin "object.__class__") "__get__" = some (some (.builtin "getset_descriptor.__get__"))) && (decide (PySem.W.takesIn K (.builtin "object.__class__") = some true) && decide (PySem.W.mroIn K C (.type "object") = some true)))))))
theorem excCB_ok {K : PySem.W.Frag} {C : Addr} (h : excCB K C = true) : ExcC K C := by
  unfold excCB at h
  simp only [Bool.and_eq_true, decide_eq_true_eq] at h
  obtain ⟨h1, h2, h3, h4, h5, h6, h7, h8⟩ := h
  exact ⟨h1, h2, h3, h4, h5, h6, h7, h8⟩
def isX (c' c : Str) : Bool := decide (c' = c) || decide (c' = "BoughError") || decide (c' = "ValueError")
def xinB (K : PySem.W.Frag) (c : Str) : Bool := decide (PySem.W.findIn K (.ref (He.ga K c)) "__init__" = some (some (.ref (He.ma K (He.ga K c) "__init__")))) && decide (PySem.W.typeIn K (.ref (He.ma K (He.ga K c) "__init__")) = some (.type "function"))
theorem xinB_ok {K : PySem.W.Frag} {c : Str} (h : xinB K c = true) : PySem.W.findIn K (.ref (He.ga K c)) "__init__" = some (some (.ref (He.ma K (He.ga K c) "__init__"))) ∧ PySem.W.typeIn K (.ref (He.ma K (He.ga K c) "__init__")) = some (.type "function") := by
  unfold xinB at h
  rw [Bool.and_eq_true, decide_eq_true_eq, decide_eq_true_eq] at h
  exact h
structure XcK (K : PySem.W.Frag) (c : Str) : Prop where
  xf : XfC K (He.ga K c)
  ec : ExcC K (He.ga K c)
  ox : OexC K (He.ga K c)
  fn : PySem.W.findIn K (.ref (He.ga K c)) (exField c) = some none
  ve : PySem.W.kitOne K (.ref (He.ga K c)) (.type "ValueError") = some true
  ini : xinB K c = true
structure XcP (K : PySem.W.Frag) (c c' : Str) : Prop where
  exm : PySem.W.exmOne K (.ref (He.ga K c)) (.ref (He.ga K c')) = some (isX c' c)
  kit : PySem.W.kitOne K (.ref (He.ga K c)) (.ref (He.ga K c')) = some (isX c' c)
def xcB (K : PySem.W.Frag) (c : Str) : Bool := xfB K (He.ga K c) && (excCB K (He.ga K c) && (oexB K (He.ga K c) && (decide (PySem.W.findIn K (.ref (He.ga K c)) (exField c) = some none) && (decide (PySem.W.kitOne K (.ref (He.ga K c)) (.type "ValueError") = some true) && xinB K c))))
theorem xcB_ok {K : PySem.W.Frag} {c : Str} (h : xcB K c = true) : XcK K c := by
  unfold xcB at h
  simp only [Bool.and_eq_true, decide_eq_true_eq] at h
  obtain ⟨h1, h2, h3, h4, h5, h6⟩ := h
  exact ⟨xfB_ok h1, excCB_ok h2, oexB_ok h3, h4, h5, h6⟩
def xpB (K : PySem.W.Frag) (c c' : Str) : Bool := decide (PySem.W.exmOne K (.ref (He.ga K c)) (.ref (He.ga K c')) = some (isX c' c)) && decide (PySem.W.kitOne K (.ref (He.ga K c)) (.ref (He.ga K c')) = some (isX c' c))
theorem xpB_ok {K : PySem.W.Frag} {c c' : Str} (h : xpB K c c' = true) : XcP K c c' := by
  unfold xpB at h
  simp only [Bool.and_eq_true, decide_eq_true_eq] at h
  exact ⟨h.1, h.2⟩
def xallB (K : PySem.W.Frag) (CL TL : List Str) : Bool := CL.all fun c => xcB K c && TL.all fun c' => xpB K c c'
structure XcA (K : PySem.W.Frag) (CL TL : List Str) : Prop where
  k : ∀ c ∈ CL, XcK K c
  p : ∀ c ∈ CL, ∀ c' ∈ TL, XcP K c c'
theorem xallB_ok {K : PySem.W.Frag} {CL TL : List Str} (h : xallB K CL TL = true) : XcA K CL TL := by
  unfold xallB at h
  rw [List.all_eq_true] at h
  refine ⟨fun c m => ?_, fun c m c' m' => ?_⟩
  · have := h c m
    rw [Bool.and_eq_true] at this
    exact xcB_ok this.1
  · have := h c m
    rw [Bool.and_eq_true, List.all_eq_true] at this
    exact xpB_ok (this.2 c' m')
structure BoE (K : PySem.W.Frag) (B : Str) : Prop where
  ga : PySem.W.specialIn K (.ref (He.ga K B)) "__getattribute__" = some (some (.builtin "type.__getattribute__"))
  rd : PySem.W.readsIn K (He.ga K B) (.type "type") = true
  fc : PySem.W.findCls K (.ref (He.ga K B)) (.type "type") "__init__" = some (.val (.builtin "ValueError.__init__"))
def boB (K : PySem.W.Frag) (B : Str) : Bool := decide (PySem.W.specialIn K (.ref (He.ga K B)) "__getattribute__" = some (some (.builtin "type.__getattribute__"))) && (PySem.W.readsIn K (He.ga K B) (.type "type") && (match PySem.W.findCls K (.ref (He.ga K B)) (.type "type") "__init__" with
  | some (.val (.builtin n)) => n == "ValueError.__init__"
  | _ => false))
theorem boB_ok {K : PySem.W.Frag} {B : Str} (h : boB K B = true) : BoE K B := by
  unfold boB at h
  rw [Bool.and_eq_true, Bool.and_eq_true, decide_eq_true_eq] at h
  obtain ⟨h1, h2, h3⟩ := h
  refine ⟨h1, h2, ?_⟩
  split at h3
  · rename_i n e
    rw [e, beq_iff_eq.mp h3]
  · cases h3
structure IsC (K : PySem.W.Frag) (c : Str) : Prop where
  ha : PySem.W.findIn K (.ref (He.ga K c)) "__class__" = some (some (.builtin "object.__class__"))
  hn : PySem.W.specialIn K (.builtin "object.__class__") "__get__" = some (some (.builtin "getset_descriptor.__get__"))
  ht : PySem.W.takesIn K (.builtin "object.__class__") = some true
  hm : PySem.W.mroIn K (He.ga K c) (.type "object") = some true
def isCB (K : PySem.W.Frag) (c : Str) : Bool := decide (PySem.W.findIn K (.ref (He.ga K c)) "__class__" = some (some (.builtin "object.__class__"))) && (decide (PySem.W.specialIn K (.builtin "object.__class__") "__get__" = some (some (.builtin "getset_descriptor.__get__"))) && (decide (PySem.W.takesIn K (.builtin "object.__class__") = some true) && decide (PySem.W.mroIn K (He.ga K c) (.type "object") = some true)))
theorem isCB_ok {K : PySem.W.Frag} {c : Str} (h : isCB K c = true) : IsC K c := by
  unfold isCB at h
  simp only [Bool.and_eq_true, decide_eq_true_eq] at h
  exact ⟨h.1, h.2.1, h.2.2.1, h.2.2.2⟩
end Va

namespace Lw
open PySem PySem.Spec PyProof.Rows L2 Bg Va
def top (i : Nat) : Stmt := PySem.Challenge.pw_boughask_k05_refusals_apart.main.body.getD i (.Pass ⟨0, 0, 0, 0⟩)
abbrev st_law_first : Stmt := (top 19)
abbrev st_law_second : Stmt := (top 20)
abbrev st_law_kinds : Stmt := (top 21)
abbrev st_law : Stmt := (top 22)
abbrev st_NoLabel_init : Stmt := (inClass (top 2) 0)
abbrev st_NoPart_init : Stmt := (inClass (top 3) 0)
abbrev st_NoStep_init : Stmt := (inClass (top 4) 0)
abbrev st_NoPlace_init : Stmt := (inClass (top 5) 0)
abbrev st_NoDocument_init : Stmt := (inClass (top 6) 0)
abbrev st_NoQuestion_init : Stmt := (inClass (top 7) 0)
abbrev st_NoWanted_init : Stmt := (inClass (top 8) 0)
abbrev st_NoRule_init : Stmt := (inClass (top 9) 0)
abbrev st_Ring_init : Stmt := (inClass (top 10) 0)
abbrev st_NoText_init : Stmt := (inClass (top 11) 0)
abbrev st_NoLine_init : Stmt := (inClass (top 12) 0)
abbrev st_TooMany_init : Stmt := (inClass (top 13) 0)
abbrev st_TooDeep_init : Stmt := (inClass (top 14) 0)
abbrev st_NoName_init : Stmt := (inClass (top 15) 0)
abbrev st_Taken_init : Stmt := (inClass (top 16) 0)
abbrev st_NoView_init : Stmt := (inClass (top 17) 0)
def dd_law_first : He.DefD := ⟨("_law_first", none), "_law_first", "_law_first", defArgs st_law_first, defBody st_law_first, defScope st_law_first, [], []⟩
def dd_law_second : He.DefD := ⟨("_law_second", none), "_law_second", "_law_second", defArgs st_law_second, defBody st_law_second, defScope st_law_second, [], []⟩
def dd_law_kinds : He.DefD := ⟨("_law_kinds", none), "_law_kinds", "_law_kinds", defArgs st_law_kinds, defBody st_law_kinds, defScope st_law_kinds, [], []⟩
def dd_law : He.DefD := ⟨("law", none), "law", "law", defArgs st_law, defBody st_law, defScope st_law, [], []⟩
def dd_NoLabel_init : He.DefD := ⟨("NoLabel", some "__init__"), "__init__", "NoLabel.__init__", defArgs st_NoLabel_init, defBody st_NoLabel_init, defScope st_NoLabel_init, [], []⟩
def dd_NoPart_init : He.DefD := ⟨("NoPart", some "__init__"), "__init__", "NoPart.__init__", defArgs st_NoPart_init, defBody st_NoPart_init, defScope st_NoPart_init, [], []⟩
def dd_NoStep_init : He.DefD := ⟨("NoStep", some "__init__"), "__init__", "NoStep.__init__", defArgs st_NoStep_init, defBody st_NoStep_init, defScope st_NoStep_init, [], []⟩
def dd_NoPlace_init : He.DefD := ⟨("NoPlace", some "__init__"), "__init__", "NoPlace.__init__", defArgs st_NoPlace_init, defBody st_NoPlace_init, defScope st_NoPlace_init, [], []⟩
def dd_NoDocument_init : He.DefD := ⟨("NoDocument", some "__init__"), "__init__", "NoDocument.__init__", defArgs st_NoDocument_init, defBody st_NoDocument_init, defScope st_NoDocument_init, [], []⟩
def dd_NoQuestion_init : He.DefD := ⟨("NoQuestion", some "__init__"), "__init__", "NoQuestion.__init__", defArgs st_NoQuestion_init, defBody st_NoQuestion_init, defScope st_NoQuestion_init, [], []⟩
def dd_NoWanted_init : He.DefD := ⟨("NoWanted", some "__init__"), "__init__", "NoWanted.__init__", defArgs st_NoWanted_init, defBody st_NoWanted_init, defScope st_NoWanted_init, [], []⟩
def dd_NoRule_init : He.DefD := ⟨("NoRule", some "__init__"), "__init__", "NoRule.__init__", defArgs st_NoRule_init, defBody st_NoRule_init, defScope st_NoRule_init, [], []⟩
def dd_Ring_init : He.DefD := ⟨("Ring", some "__init__"), "__init__", "Ring.__init__", defArgs st_Ring_init, defBody st_Ring_init, defScope st_Ring_init, [], []⟩
def dd_NoText_init : He.DefD := ⟨("NoText", some "__init__"), "__init__", "NoText.__init__", defArgs st_NoText_init, defBody st_NoText_init, defScope st_NoText_init, [], []⟩
def dd_NoLine_init : He.DefD := ⟨("NoLine", some "__init__"), "__init__", "NoLine.__init__", defArgs st_NoLine_init, defBody st_NoLine_init, defScope st_NoLine_init, [], []⟩
def dd_TooMany_init : He.DefD := ⟨("TooMany", some "__init__"), "__init__", "TooMany.__init__", defArgs st_TooMany_init, defBody st_TooMany_init, defScope st_TooMany_init, [], []⟩
def dd_TooDeep_init : He.DefD := ⟨("TooDeep", some "__init__"), "__init__", "TooDeep.__init__", defArgs st_TooDeep_init, defBody st_TooDeep_init, defScope st_TooDeep_init, [], []⟩
def dd_NoName_init : He.DefD := ⟨("NoName", some "__init__"), "__init__", "NoName.__init__", defArgs st_NoName_init, defBody st_NoName_init, defScope st_NoName_init, [], []⟩
def dd_Taken_init : He.DefD := ⟨("Taken", some "__init__"), "__init__", "Taken.__init__", defArgs st_Taken_init, defBody st_Taken_init, defScope st_Taken_init, [], []⟩
def dd_NoView_init : He.DefD := ⟨("NoView", some "__init__"), "__init__", "NoView.__init__", defArgs st_NoView_init, defBody st_NoView_init, defScope st_NoView_init, [], []⟩
def fns : List He.DefD := [dd_law_first, dd_law_second, dd_law_kinds, dd_law, dd_NoLabel_init, dd_NoPart_init, dd_NoStep_init, dd_NoPlace_init, dd_NoDocument_init, dd_NoQuestion_init, dd_NoWanted_init, dd_NoRule_init, dd_Ring_init, dd_NoText_init, dd_NoLine_init, dd_TooMany_init, dd_TooDeep_init, dd_NoName_init, dd_Taken_init, dd_NoView_init]
def facs : List He.Fa := ([.glo "NoPlace", .free "isinstance", .glo "NoStep", .glo "NoPart", .glo "NoLabel", .glo "TooDeep", .glo "TooMany", .glo "NoRule", .glo "NoWanted", .glo "NoView", .glo "Taken", .glo "NoName", .glo "NoText", .glo "Ring", .glo "NoQuestion", .glo "NoDocument", .glo "NoLine", .free "ValueError", .glo "BoughError", .free "repr", .free "range", .free "str", .glo "_law_first", .glo "_law_second", .glo "_law_kinds", .glo "law"] : List He.Fa)
def loose : List Str := (["BoughError", "NoLabel", "NoPart", "NoStep", "NoPlace", "NoDocument", "NoQuestion", "NoWanted", "NoRule", "Ring", "NoText", "NoLine", "TooMany", "TooDeep", "NoName", "Taken", "NoView", "_law_first", "_law_second", "_law_kinds"] : List Str)
def asL : List Addr := List.range 1000
abbrev RR : PySem.W.OpenRow := PySem.W.OpenLaw.row PySem.Challenge.rw_boughask_k05_refusals_apart
def exs (K : PySem.W.Frag) : List Bool := [isCB K "NoPlace", isCB K "NoStep", isCB K "NoPart", isCB K "NoLabel", isCB K "TooDeep", isCB K "TooMany", isCB K "NoRule", isCB K "NoWanted", isCB K "NoView", isCB K "Taken", isCB K "NoName", isCB K "NoText", isCB K "Ring", isCB K "NoQuestion", isCB K "NoDocument", isCB K "NoLine", isCB K "BoughError", xallB K ["NoLabel", "NoPart", "NoStep", "NoPlace", "NoDocument", "NoQuestion", "NoWanted", "NoRule", "Ring", "NoText", "NoLine", "TooMany", "TooDeep", "NoName", "Taken", "NoView"] ["NoLabel", "NoPart", "NoStep", "NoPlace", "NoDocument", "NoQuestion", "NoWanted", "NoRule", "Ring", "NoText", "NoLine", "TooMany", "TooDeep", "NoName", "Taken", "NoView", "BoughError"], boB K "BoughError"]
abbrev hk : PySem.W.Hook := hookE asL facs fns exs
def ob (s : PySem.W.SharedT) : He.AlD × Bool := obsE asL facs fns exs (HandSHeadRun.getT s)
theorem ob_eq (s : PySem.W.SharedT) : ob s = hk.obs s.abs := obsE_eq (HandSHeadRun.getT_eq s)
theorem run (w : World) : HandSHeadRun.RunEq RR (PySem.W.view RR.prog [22]) hk ob 20000 loose w := by
  intro os
  kernel_rfl
end Lw
namespace Bg
open PySem PySem.Spec PyProof.Rows L2
abbrev FnP (K : PySem.W.Frag) (x q : Str) (st : Stmt) (f : Addr) (fd : FuncData) : Prop := FunD K x q (defArgs st) (defBody st) (defScope st) [] [] f fd
structure Fn (P : Program) (w : World) (K : PySem.W.Frag) (mg : Str → Option Value) (base : Heap) (CX : CXT) (k : Nat) (x : Str) (ps : List Str) (sp : Sp) : Prop where
  ex : ∃ (f : Addr) (fd : FuncData), FnOk P w K mg base CX k f fd ps sp ∧ mg x = some (.ref f) ∧ PySem.W.keepIn K (.ref f) = true ∧ Binds K fd ps []
structure Mt (P : Program) (w : World) (K : PySem.W.Frag) (mg : Str → Option Value) (base : Heap) (CX : CXT) (k : Nat) (C : Addr) (m : Str) (ps : List Str) (sp : Sp) : Prop where
  ex : ∃ (f : Addr) (fd : FuncData), FnOk P w K mg base CX k f fd ps sp ∧ Meth K C m f ∧ Cls K C ∧ Binds K fd ps []
structure Mkr (P : Program) (w : World) (K : PySem.W.Frag) (mg : Str → Option Value) (base : Heap) (CX : CXT) (k : Nat) (C : Addr) (x : Str) (ps : List Str) (sp : Sp) : Prop where
  ex : ∃ (f : Addr) (fd : FuncData), FnOk P w K mg base CX k f fd ps sp ∧ Mk K C f ∧ mg x = some (.ref C) ∧ Binds K fd ps []
section
variable {X : Cx} {CX : CXT} {k : Nat} {C : Addr} {ps : List Str} {sp : Sp} {E : XK} {x m : Str} {p pos apos : Pos} {e o : Expr} {es : List Expr} {ta : TE} {t : TA}
theorem pe_callF (F : Fn X.prog X.w X.K X.mg X.base CX k x ps sp) (hr : Room k X.A) (hx : Passes CX X E) (ha : PA X (e :: es) t) (hg : Gl X x := by rfl) (hdb : (x == ("__debug__" : Str)) = false := by decide)
    (he : starEach (e :: es) X.env = (false, eval e X.env) :: starEach es X.env := by rfl) (hpl : (backTo pos (starEach es X.env)).any (·.1) = false := by rfl) :
    PE X (.Call (.Name x p) (e :: es) [] pos) (tCall sp [] E t) := by
  obtain ⟨f, fd, F, hm, hk, hb⟩ := F.ex
  exact pe_call F hr hg hm hk hb .nil hx ha hdb he hpl
end
def But (a : Addr) (H H' : Hp) : Prop := ∀ b o, b ≠ a → H b = some o → H' b = some o
theorem But.refl (a : Addr) (H : Hp) : But a H H := fun _ _ _ h => h
theorem But.trans {a : Addr} {H H1 H2 : Hp} (x : But a H H1) (y : But a H1 H2) : But a H H2 := fun b o n h => y b o n (x b o n h)
theorem But.of_same {a : Addr} {H H' : Hp} (x : Same H H') : But a H H' := fun b o _ h => x b o h
theorem But.upd {a : Addr} {H : Hp} {o : HO} : But a H (upd H a o) := fun b u n h => by rw [upd_ne n]; exact h
theorem _root_.L2.Same.new {H : Hp} {p : Addr} {o : HO} (h : H p = none) : Same H (upd H p o) := fun a u e => by
  rw [upd_ne (ne_of_none e h)]
  exact e
theorem But.free {a : Addr} {H H' : Hp} (s : But a H H') {p : Addr} (hp : p ≠ a) (h : H' p = none) : H p = none := by
  cases q : H p with
  | none => rfl
  | some o =>
    rw [s p o hp q] at h
    cases h
theorem But.seq {K : PySem.W.Frag} {a l : Addr} {H H' : Hp} {xs : List V} {kvs : List (Key × V)} (s : But a H H') (ha : H a = some (.dK kvs)) (h : SqL K H l xs) : SqL K H' l xs := by
  rcases h with (h | ⟨o, h⟩) | h
  · exact .inl (.inl (s _ _ (ne_of h ha (by intro z; cases z)) h))
  · exact .inl (.inr ⟨o, s _ _ (ne_of h ha (by intro z; cases z)) h⟩)
  · exact .inr h
theorem But.tup {K : PySem.W.Frag} {a l : Addr} {H H' : Hp} {xs : List V} {kvs : List (Key × V)} (s : But a H H') (ha : H a = some (.dK kvs)) (h : SqT K H l xs) : SqT K H' l xs := by
  rcases h with (h | ⟨o, h⟩) | h
  · exact .inl (.inl (s _ _ (ne_of h ha (by intro z; cases z)) h))
  · exact .inl (.inr ⟨o, s _ _ (ne_of h ha (by intro z; cases z)) h⟩)
  · exact .inr h
theorem _root_.L2.Same.tup {K : PySem.W.Frag} {H H' : Hp} {a : Addr} {xs : List V} (e : Same H H') (h : SqT K H a xs) : SqT K H' a xs := by
  rcases h with (h | ⟨o, h⟩) | h
  · exact .inl (.inl (e _ _ h))
  · exact .inl (.inr ⟨o, e _ _ h⟩)
  · exact .inr h
def srcD (n s t : Int) : List (Key × V) := [(Sum.inr "number", .int n), (Sum.inr "seed", .int s), (Sum.inr "turn", .int t)]
def Src (H : Hp) (a : Addr) : Prop := ∃ n s t : Int, H a = some (.dK (srcD n s t))
theorem kne {a b : Str} (h : ¬ a = b) : ¬ ((Sum.inr a : Key) = Sum.inr b) := fun z => h (Sum.inr.inj z)
def known : List String := ["NoneType", "bool", "int", "str", "list", "tuple", "dict"]
def Knd (K : PySem.W.Frag) (H : Hp) (v : V) (t : String) : Prop := TyX K H v (.type t) ∧ t ∈ known
theorem TyX.same {K : PySem.W.Frag} {H H' : Hp} {v : V} {t : Value} (s : Same H H') (h : TyX K H v t) : TyX K H' v t := by
  cases h with
  | base b =>
    cases b with
    | non => exact .base .non
    | bl x => exact .base (.bl x)
    | int x => exact .base (.int x)
    | str x => exact .base (.str x)
    | flt x => exact .base (.flt x)
    | lst e => exact .base (.lst (s _ _ e))
    | frz e => exact .base (.frz (s _ _ e))
    | tup e => exact .base (.tup (s _ _ e))
    | dK e => exact .base (.dK (s _ _ e))
    | dT e => exact .base (.dT (s _ _ e))
    | ins e cl ha hn htk hm => exact .base (.ins (s _ _ e) cl ha hn htk hm)
  | byt b => exact .byt b
  | set e => exact .set (s _ _ e)
  | kList e c => exact .kList e c
  | kTuple e c => exact .kTuple e c
  | kDict e c => exact .kDict e c
  | fTuple e => exact .fTuple (s _ _ e)
  | fDict e => exact .fDict (s _ _ e)
theorem Knd.same {K : PySem.W.Frag} {H H' : Hp} {v : V} {t : String} (s : Same H H') (h : Knd K H v t) : Knd K H' v t := ⟨TyX.same s h.1, h.2⟩
theorem Knd.non {K : PySem.W.Frag} {H : Hp} : Knd K H .non "NoneType" := ⟨.base .non, by decide⟩
theorem Knd.bl {K : PySem.W.Frag} {H : Hp} (b : Bool) : Knd K H (.bl b) "bool" := ⟨.base (.bl b), by decide⟩
theorem Knd.int {K : PySem.W.Frag} {H : Hp} (i : Int) : Knd K H (.int i) "int" := ⟨.base (.int i), by decide⟩
theorem Knd.str {K : PySem.W.Frag} {H : Hp} (z : Str) : Knd K H (.str z) "str" := ⟨.base (.str z), by decide⟩
theorem Knd.lst {K : PySem.W.Frag} {H : Hp} {a : Addr} {xs : List V} (h : H a = some (.lst xs)) : Knd K H (.ref a) "list" := ⟨.base (.lst h), by decide⟩
theorem Knd.tup {K : PySem.W.Frag} {H : Hp} {a : Addr} {xs : List V} (h : H a = some (.tup xs)) : Knd K H (.ref a) "tuple" := ⟨.base (.tup h), by decide⟩
theorem Knd.dK {K : PySem.W.Frag} {H : Hp} {a : Addr} {kvs : List (Key × V)} (h : H a = some (.dK kvs)) : Knd K H (.ref a) "dict" := ⟨.base (.dK h), by decide⟩
end Bg

namespace Bg
open PySem PySem.Spec PyProof.Rows L2
def isLow (c : Nat) : Bool := decide (97 ≤ c) && decide (c ≤ 122)
def labelB (z : Str) : Bool := decide (1 ≤ z.length) && decide (z.length ≤ 8) && z.cps.toList.all isLow
theorem take_snoc {α : Type} {l : List α} {i : Nat} {x : α} (h : l[i]? = some x) : l.take (i + 1) = l.take i ++ [x] := by
  rw [List.take_add_one, h]
  rfl
end Bg

namespace Bg
open PySem PySem.Spec PyProof.Rows L2
def TK (H H' : Hp) : Prop := (∀ b xs, H b = some (.tup xs) → H' b = some (.tup xs)) ∧ ∀ b o xs, H b = some (.frz o (.tup xs)) → H' b = some (.frz o (.tup xs))
theorem TK.refl (H : Hp) : TK H H := ⟨fun _ _ h => h, fun _ _ _ h => h⟩
theorem TK.trans {H H1 H2 : Hp} (a : TK H H1) (b : TK H1 H2) : TK H H2 := ⟨fun c xs h => b.1 c xs (a.1 c xs h), fun c o xs h => b.2 c o xs (a.2 c o xs h)⟩
theorem TK.same {H H' : Hp} (s : Same H H') : TK H H' := ⟨fun b xs h => s b _ h, fun b o xs h => s b _ h⟩
theorem TK.butD {a : Addr} {H H' : Hp} {xs : List (Key × V)} (s : But a H H') (h : H a = some (.dK xs)) : TK H H' :=
  ⟨fun b ys hb => s b _ (ne_of hb h (by intro z; cases z)) hb, fun b o ys hb => s b _ (ne_of hb h (by intro z; cases z)) hb⟩
theorem TK.src {a : Addr} {H H' : Hp} (s : But a H H') (h : Src H a) : TK H H' := by
  obtain ⟨_, _, _, h⟩ := h
  exact TK.butD s h
theorem TK.sq {K : PySem.W.Frag} {H H' : Hp} {a : Addr} {xs : List V} (t : TK H H') (h : SqT K H a xs) : SqT K H' a xs := by
  rcases h with (h | ⟨o, h⟩) | h
  · exact .inl (.inl (t.1 _ _ h))
  · exact .inl (.inr ⟨o, t.2 _ _ _ h⟩)
  · exact .inr h
end Bg
namespace PySem
section
variable {α β γ : Type} {F G : α → β → Prop}
theorem Paired.get : ∀ {l : List α} {m : List β} {i : Nat} {a : α}, Paired F l m → l[i]? = some a → ∃ b, m[i]? = some b ∧ F a b
  | _, _, _, _, .nil, h => by simp at h
  | _, _, 0, _, .cons h t, e => by simp at e; subst e; exact ⟨_, rfl, h⟩
  | _, _, i + 1, a, .cons h t, e => by
    obtain ⟨b, hb, hf⟩ := Paired.get (i := i) (a := a) t (by simpa using e)
    exact ⟨b, by simpa using hb, hf⟩
theorem Paired.get' : ∀ {l : List α} {m : List β} {i : Nat} {b : β}, Paired F l m → m[i]? = some b → ∃ a, l[i]? = some a ∧ F a b
  | _, _, _, _, .nil, h => by simp at h
  | _, _, 0, _, .cons h t, e => by simp at e; subst e; exact ⟨_, rfl, h⟩
  | _, _, i + 1, a, .cons h t, e => by
    obtain ⟨b, hb, hf⟩ := Paired.get' (i := i) (b := a) t (by simpa using e)
    exact ⟨b, by simpa using hb, hf⟩
theorem Paired.imp : ∀ {l : List α} {m : List β}, Paired F l m → (∀ a b, F a b → G a b) → Paired G l m
  | _, _, .nil, _ => .nil
  | _, _, .cons h t, f => .cons (f _ _ h) (Paired.imp t f)
theorem Paired.app : ∀ {l l' : List α} {m m' : List β}, Paired F l m → Paired F l' m' → Paired F (l ++ l') (m ++ m')
  | _, _, _, _, .nil, s => s
  | _, _, _, _, .cons h t, s => .cons h (Paired.app t s)
theorem Paired.take : ∀ {l : List α} {m : List β} (n : Nat), Paired F l m → Paired F (l.take n) (m.take n)
  | _, _, 0, _ => .nil
  | _, _, _ + 1, .nil => .nil
  | _, _, n + 1, .cons h t => .cons h (Paired.take n t)
theorem Paired.drop : ∀ {l : List α} {m : List β} (n : Nat), Paired F l m → Paired F (l.drop n) (m.drop n)
  | _, _, 0, h => h
  | _, _, _ + 1, .nil => .nil
  | _, _, n + 1, .cons h t => Paired.drop n t
theorem Paired.dropLast {l : List α} {m : List β} (h : Paired F l m) : Paired F l.dropLast m.dropLast := by
  rw [List.dropLast_eq_take, List.dropLast_eq_take, h.length]
  exact h.take _
theorem Paired.set {a : α} {b : β} (h : F a b) : ∀ {l : List α} {m : List β} (i : Nat), Paired F l m → Paired F (l.set i a) (m.set i b)
  | _, _, _, .nil => .nil
  | _, _, 0, .cons _ t => .cons h t
  | _, _, i + 1, .cons q t => .cons q (Paired.set h i t)
theorem Paired.mem {l : List α} {m : List β} (h : Paired F l m) {a : α} (ha : a ∈ l) : ∃ b ∈ m, F a b := by
  obtain ⟨i, hi⟩ := List.getElem?_of_mem ha
  obtain ⟨b, hb, hf⟩ := h.get hi
  exact ⟨b, List.mem_of_getElem? hb, hf⟩
theorem Paired.of_map_r {f : γ → β} : ∀ {l : List α} {m : List γ}, Paired (fun a c => F a (f c)) l m → Paired F l (m.map f)
  | _, _, .nil => .nil
  | _, _, .cons h t => .cons h (Paired.of_map_r t)
theorem Paired.of_get : ∀ {l : List α} {m : List β}, l.length = m.length → (∀ (i : Nat) a b, l[i]? = some a → m[i]? = some b → F a b) → Paired F l m
  | [], [], _, _ => .nil
  | [], _ :: _, h, _ => by simp at h
  | _ :: _, [], h, _ => by simp at h
  | a :: l, b :: m, h, f => .cons (f 0 a b rfl rfl) (Paired.of_get (by simpa using h) fun i x y hx hy => f (i + 1) x y (by simpa using hx) (by simpa using hy))
theorem Paired.filter {p : α → Bool} {q : β → Bool} : ∀ {l : List α} {m : List β}, Paired F l m → (∀ a b, F a b → p a = q b) → Paired F (l.filter p) (m.filter q)
  | _, _, .nil, _ => .nil
  | a :: l, b :: m, .cons h t, e => by
    rw [List.filter_cons, List.filter_cons, e a b h]
    split
    · exact .cons h (Paired.filter t e)
    · exact Paired.filter t e
end
end PySem
namespace Bg
open PySem PySem.Spec PyProof.Rows L2
theorem dpAll_iff {K : PySem.W.Frag} {H : Hp} : ∀ {vs : List V} {ds : List PyData}, DpAll K H vs ds ↔ Paired (Dp K H) vs ds
  | [], [] => ⟨fun _ => .nil, fun _ => .nil⟩
  | [], _ :: _ => ⟨fun h => (nomatch h), fun h => (nomatch h)⟩
  | _ :: _, [] => ⟨fun h => (nomatch h), fun h => (nomatch h)⟩
  | _ :: _, _ :: _ => ⟨fun h => by cases h with | cons a b => exact .cons a (dpAll_iff.mp b), fun h => by cases h with | cons a b => exact .cons a (dpAll_iff.mpr b)⟩
mutual
def flat : PyData → Bool
  | .none | .bool _ | .int _ | .str _ => true
  | .tuple ds => flatAll ds
  | .list _ | .dict _ => false
def flatAll : List PyData → Bool
  | [] => true
  | d :: ds => flat d && flatAll ds
end
mutual
theorem dp_tk {K : PySem.W.Frag} {H H' : Hp} (t : TK H H') : ∀ (d : PyData) (v : V), flat d = true → Dp K H v d → Dp K H' v d
  | .none, _, _, h => by cases h; exact .non
  | .bool b, _, _, h => by cases h; exact .bl b
  | .int i, _, _, h => by cases h; exact .int i
  | .str x, _, _, h => by cases h; exact .str x
  | .tuple ds, _, f, h => by cases h with | tup a b => exact .tup (t.sq a) (dpAll_tk t ds _ f b)
  | .list _, _, f, _ => nomatch f
  | .dict _, _, f, _ => nomatch f
theorem dpAll_tk {K : PySem.W.Frag} {H H' : Hp} (t : TK H H') : ∀ (ds : List PyData) (vs : List V), flatAll ds = true → DpAll K H vs ds → DpAll K H' vs ds
  | [], _, _, h => by cases h; exact .nil
  | d :: ds, _, f, h => by
    have f' : (flat d && flatAll ds) = true := f
    rw [Bool.and_eq_true] at f'
    cases h with | cons a b => exact .cons (dp_tk t d _ f'.1 a) (dpAll_tk t ds _ f'.2 b)
end
mutual
theorem dp_same {K : PySem.W.Frag} {H H' : Hp} (t : ∀ a xs, SqL K H a xs → SqL K H' a xs) (u : ∀ a xs, SqT K H a xs → SqT K H' a xs) : ∀ (d : PyData) (v : V), Dp K H v d → Dp K H' v d
  | .none, _, h => by cases h; exact .non
  | .bool b, _, h => by cases h; exact .bl b
  | .int i, _, h => by cases h; exact .int i
  | .str x, _, h => by cases h; exact .str x
  | .tuple ds, _, h => by cases h with | tup a b => exact .tup (u _ _ a) (dpAll_same t u ds _ b)
  | .list ds, _, h => by cases h with | lst a b => exact .lst (t _ _ a) (dpAll_same t u ds _ b)
  | .dict _, _, h => by cases h
theorem dpAll_same {K : PySem.W.Frag} {H H' : Hp} (t : ∀ a xs, SqL K H a xs → SqL K H' a xs) (u : ∀ a xs, SqT K H a xs → SqT K H' a xs) : ∀ (ds : List PyData) (vs : List V), DpAll K H vs ds → DpAll K H' vs ds
  | [], _, h => by cases h; exact .nil
  | d :: ds, _, h => by cases h with | cons a b => exact .cons (dp_same t u d _ a) (dpAll_same t u ds _ b)
end
theorem _root_.L2.Dp.same {K : PySem.W.Frag} {H H' : Hp} {v : V} {d : PyData} (h : Dp K H v d) (s : Same H H') : Dp K H' v d := dp_same (fun _ _ => s.seq) (fun _ _ => s.tup) d v h
theorem _root_.L2.Dp.butD {K : PySem.W.Frag} {H H' : Hp} {v : V} {d : PyData} {a : Addr} {kvs : List (Key × V)} (h : Dp K H v d) (s : But a H H') (ha : H a = some (.dK kvs)) : Dp K H' v d := dp_same (fun _ _ => s.seq ha) (fun _ _ => s.tup ha) d v h
theorem _root_.L2.Dp.src {K : PySem.W.Frag} {H H' : Hp} {v : V} {d : PyData} {a : Addr} (h : Dp K H v d) (s : But a H H') (ha : Src H a) : Dp K H' v d := by
  obtain ⟨_, _, _, ha⟩ := ha
  exact h.butD s ha
section
variable {K : PySem.W.Frag} {H H' : Hp} {v : V}
theorem dp_int {i : Int} (h : Dp K H v (.int i)) : v = .int i := by cases h; rfl
theorem dp_str {z : Str} (h : Dp K H v (.str z)) : v = .str z := by cases h; rfl
theorem dp_tup {ds : List PyData} (h : Dp K H v (.tuple ds)) : ∃ a xs, v = .ref a ∧ SqT K H a xs ∧ Paired (Dp K H) xs ds := by
  cases h with | tup a b => exact ⟨_, _, rfl, a, dpAll_iff.mp b⟩
theorem dp_of_lst {a : Addr} {xs : List V} {ds : List PyData} (h : SqL K H a xs) (p : Paired (Dp K H) xs ds) : Dp K H (.ref a) (.list ds) := .lst h (dpAll_iff.mpr p)
theorem dp_row {x : Str} {y : Int} (h : Dp K H v (.tuple [.str x, .int y])) : ∃ a, v = .ref a ∧ SqT K H a [.str x, .int y] := by
  obtain ⟨a, xs, rfl, hs, p⟩ := dp_tup h
  cases p with | cons h1 p => cases p with | cons h2 p => cases p; rw [dp_str h1, dp_int h2] at hs; exact ⟨a, rfl, hs⟩
theorem dp_step {x z : Str} {y : Int} (h : Dp K H v (.tuple [.str x, .str z, .int y])) : ∃ a, v = .ref a ∧ SqT K H a [.str x, .str z, .int y] := by
  obtain ⟨a, xs, rfl, hs, p⟩ := dp_tup h
  cases p with | cons h1 p => cases p with | cons h2 p => cases p with | cons h3 p => cases p; rw [dp_str h1, dp_str h2, dp_int h3] at hs; exact ⟨a, rfl, hs⟩
end
def eRow (x : Str × Int) : PyData := .tuple [.str x.1, .int x.2]
def eStep (x : Str × Str × Int) : PyData := .tuple [.str x.1, .str x.2.1, .int x.2.2]
def vOpt : Option Int → V
  | some i => .int i
  | none => .non
abbrev PL {α : Type} (K : PySem.W.Frag) (H : Hp) (e : α → PyData) (vs : List V) (xs : List α) : Prop := Paired (fun v x => Dp K H v (e x)) vs xs
theorem PL.tk {α : Type} {K : PySem.W.Frag} {H H' : Hp} {e : α → PyData} {vs : List V} {xs : List α} (h : PL K H e vs xs) (t : TK H H') (f : ∀ x, flat (e x) = true) : PL K H' e vs xs := h.imp fun v x q => dp_tk t _ v (f x) q
theorem PL.same {α : Type} {K : PySem.W.Frag} {H H' : Hp} {e : α → PyData} {vs : List V} {xs : List α} (h : PL K H e vs xs) (t : Same H H') : PL K H' e vs xs := h.imp fun v x q => q.same t
theorem flat_row (x : Str × Int) : flat (eRow x) = true := rfl
theorem flat_step (x : Str × Str × Int) : flat (eStep x) = true := rfl
theorem PL.dp {α : Type} {K : PySem.W.Frag} {H : Hp} {e : α → PyData} {l : Addr} {vs : List V} {xs : List α} (h : PL K H e vs xs) (s : SqL K H l vs) : Dp K H (.ref l) (.list (xs.map e)) := dp_of_lst s h.of_map_r
theorem canLayAll_of {ds : List PyData} (h : ∀ d ∈ ds, d.canLay0 = true) : PyData.canLayAll0 ds = true := by
  induction ds with
  | nil => rfl
  | cons d ds ih =>
    show (PyData.canLay0 d && PyData.canLayAll0 ds) = true
    rw [h d (List.mem_cons_self ..), ih fun x hx => h x (List.mem_cons_of_mem _ hx)]
    rfl
theorem depthAll_of {ds : List PyData} {n : Nat} (h : ∀ d ∈ ds, d.depth ≤ n) : PyData.depthAll ds ≤ n := by
  induction ds with
  | nil => exact Nat.zero_le _
  | cons d ds ih =>
    show max (PyData.depth d) (PyData.depthAll ds) ≤ n
    exact Nat.max_le.mpr ⟨h d (List.mem_cons_self ..), ih fun x hx => h x (List.mem_cons_of_mem _ hx)⟩
def Gd (n : Nat) (d : PyData) : Prop := d.canLay0 = true ∧ d.depth ≤ n
theorem Gd.lst {n : Nat} {ds : List PyData} (h : ∀ d ∈ ds, Gd n d) : Gd (n + 1) (.list ds) := ⟨canLayAll_of fun d hd => (h d hd).1, Nat.succ_le_succ (depthAll_of fun d hd => (h d hd).2)⟩
theorem Gd.tup {n : Nat} {ds : List PyData} (h : ∀ d ∈ ds, Gd n d) : Gd (n + 1) (.tuple ds) := ⟨canLayAll_of fun d hd => (h d hd).1, Nat.succ_le_succ (depthAll_of fun d hd => (h d hd).2)⟩
theorem Gd.map {α : Type} {n : Nat} {e : α → PyData} {xs : List α} (h : ∀ x ∈ xs, Gd n (e x)) : Gd (n + 1) (.list (xs.map e)) := Gd.lst fun d hd => by
  obtain ⟨x, hx, rfl⟩ := List.mem_map.mp hd
  exact h x hx
theorem Gd.shaped {n : Nat} {d : PyData} (h : Gd n d) (hn : n ≤ 64) : SeqAt.shaped d = true := by
  unfold SeqAt.shaped
  rw [h.1, decide_eq_true (Nat.le_trans h.2 hn)]
  rfl
theorem Gd.mono {n m : Nat} {d : PyData} (h : Gd n d) (hn : n ≤ m) : Gd m d := ⟨h.1, Nat.le_trans h.2 hn⟩
theorem gd_int (i : Int) : Gd 0 (.int i) := ⟨rfl, Nat.le_refl _⟩
theorem gd_bool (i : Bool) : Gd 0 (.bool i) := ⟨rfl, Nat.le_refl _⟩
theorem Gd.eqv {n : Nat} {d : PyData} (h : Gd n d) : PyData.eqv d d = true := SeqAt.eqv_refl d h.1
end Bg

namespace Bg
open PySem L2
abbrev S3 := Int × Int × Int
def sub3 (u l : S3) : Prop := u.1 < l.1 ∧ l.1 ≤ u.2.1
def bn3 (w : Bool) (u l : S3) : Prop := sub3 u l ∧ (w = true ∨ u.2.2 + 1 = l.2.2)
def bn3B (w : Bool) (u l : S3) : Bool := decide (u.1 < l.1) && decide (l.1 ≤ u.2.1) && (w || decide (u.2.2 + 1 = l.2.2))
def upB (w : Bool) (us : List S3) (l : S3) : Bool := us.any fun u => bn3B w u l
structure Fam (A : S3 → Prop) : Prop where
  le : ∀ x, A x → x.1 ≤ x.2.1
  nest : ∀ x y, A x → A y → sub3 x y → y.2.1 ≤ x.2.1 ∧ x.2.2 < y.2.2
def has (kv : List (Key × V)) (b : Int) : Prop := (valV kv (Sum.inl b)).isSome = true
def put (kv : List (Key × V)) (b : Int) : List (Key × V) := putK kv (Sum.inl b) (.bl true)
theorem has_put (kv : List (Key × V)) (b c : Int) : has (put kv c) b ↔ b = c ∨ has kv b := by
  unfold has put
  rw [valV_put]
  by_cases e : b = c
  · subst e; simp
  · have : ¬ (Sum.inl b : Key) = Sum.inl c := fun z => e (Sum.inl.inj z)
    rw [if_neg this]
    simp [e]
theorem has_nil (b : Int) : ¬ has [] b := by
  unfold has
  simp [valV]
def popd (w : Bool) (kv : List (Key × V)) (x : S3) : List S3 → List (Key × V)
  | [] => kv
  | y :: _ => if w = true ∧ (valV kv (Sum.inl x.1)).isSome = true then put kv y.1 else kv
def clo (w : Bool) (b : Int) : List S3 → List (Key × V) → List S3 × List (Key × V)
  | [], kv => ([], kv)
  | x :: r, kv => if x.2.1 < b then clo w b r (popd w kv x r) else (x :: r, kv)
theorem clo_fst (w : Bool) (b : Int) : ∀ (rs : List S3) (kv : List (Key × V)), (clo w b rs kv).1 = rs.dropWhile (fun x => decide (x.2.1 < b))
  | [], _ => rfl
  | x :: r, kv => by
    unfold clo
    by_cases h : x.2.1 < b
    · rw [if_pos h, clo_fst w b r, List.dropWhile_cons, decide_eq_true h, if_pos rfl]
    · rw [if_neg h, List.dropWhile_cons, decide_eq_false h, if_neg (by simp)]
def Anti (rs : List S3) : Prop := rs.Pairwise fun x y => x.2.1 ≤ y.2.1
theorem drop_filter {b : Int} : ∀ {rs : List S3}, Anti rs → rs.dropWhile (fun x => decide (x.2.1 < b)) = rs.filter (fun x => decide (b ≤ x.2.1))
  | [], _ => rfl
  | x :: r, h => by
    have h1 := List.pairwise_cons.mp h
    by_cases c : x.2.1 < b
    · rw [List.dropWhile_cons, decide_eq_true c, if_pos rfl, List.filter_cons, if_neg (by simp; omega)]
      exact drop_filter h1.2
    · rw [List.dropWhile_cons, decide_eq_false c, if_neg (by simp)]
      refine (List.filter_eq_self.mpr fun y hy => ?_).symm
      rcases List.mem_cons.mp hy with rfl | hy
      · exact decide_eq_true (by omega)
      · have := h1.1 y hy
        exact decide_eq_true (by omega)
theorem clo_filter {w : Bool} {b : Int} {rs : List S3} {kv : List (Key × V)} (h : Anti rs) : (clo w b rs kv).1 = rs.filter (fun x => decide (b ≤ x.2.1)) := by
  rw [clo_fst, drop_filter h]
def tld (w : Bool) (done : List S3) (u : S3) : Prop := ∃ l ∈ done, bn3 w u l
def opn (w : Bool) (T : S3 → Prop) (kv : List (Key × V)) : Prop → List S3 → Prop
  | _, [] => True
  | acc, x :: r => (T x ↔ ((w = true ∧ acc) ∨ has kv x.1)) ∧ opn w T kv (acc ∨ has kv x.1) r
theorem opn_acc {w : Bool} {T : S3 → Prop} {kv : List (Key × V)} : ∀ {rs : List S3} {a a' : Prop}, (a ↔ a') → opn w T kv a rs → opn w T kv a' rs
  | [], _, _, _, _ => trivial
  | x :: r, a, a', e, h => ⟨by rw [← e]; exact h.1, opn_acc (by rw [e]) h.2⟩
theorem opn_put {w : Bool} {T : S3 → Prop} {kv : List (Key × V)} {c : Int} : ∀ {rs : List S3} {a : Prop}, (∀ x ∈ rs, x.1 ≠ c) → opn w T kv a rs → opn w T (put kv c) a rs
  | [], _, _, _ => trivial
  | x :: r, a, n, h => by
    have hx : has (put kv c) x.1 ↔ has kv x.1 := by
      rw [has_put]
      have := n x (List.mem_cons_self ..)
      simp [this]
    exact ⟨by rw [hx]; exact h.1, opn_acc (by rw [hx]) (opn_put (fun y hy => n y (List.mem_cons_of_mem _ hy)) h.2)⟩
theorem opn_no {T : S3 → Prop} {kv : List (Key × V)} : ∀ {rs : List S3} {a a' : Prop}, opn false T kv a rs → opn false T kv a' rs
  | [], _, _, _ => trivial
  | x :: r, a, a', q => ⟨by have := q.1; simpa using this, opn_no q.2⟩
theorem clo_ok {w : Bool} {b : Int} {T : S3 → Prop} : ∀ {rs : List S3} {kv : List (Key × V)}, (rs.map (·.1)).Nodup → opn w T kv False rs →
    opn w T (clo w b rs kv).2 False (clo w b rs kv).1 ∧ (∀ x ∈ rs, x ∉ (clo w b rs kv).1 → (has (clo w b rs kv).2 x.1 ↔ T x)) ∧ (∀ c, (∀ x ∈ rs, x.1 ≠ c) → (has (clo w b rs kv).2 c ↔ has kv c)) ∧ (∀ c, has kv c → has (clo w b rs kv).2 c) ∧
    (∀ c, has (clo w b rs kv).2 c → has kv c ∨ ∃ x ∈ rs, x.1 = c)
  | [], kv, _, h => ⟨h, fun _ hx => (nomatch hx), fun _ _ => Iff.rfl, fun _ q => q, fun _ q => .inl q⟩
  | x :: r, kv, nd, h => by
    have nd2 := List.nodup_cons.mp (show (x.1 :: r.map (·.1)).Nodup from nd)
    unfold clo
    by_cases c : x.2.1 < b
    · rw [if_pos c]
      -- the dict behind the pop
      obtain ⟨kv', hk, hop, hx, hother, hmore, hback⟩ : ∃ kv', popd w kv x r = kv' ∧ opn w T kv' False r ∧ (has kv' x.1 ↔ T x) ∧ (∀ c, (∀ z ∈ r, z.1 ≠ c) → (has kv' c ↔ has kv c)) ∧ (∀ c, has kv c → has kv' c) ∧ (∀ c, has kv' c → has kv c ∨ ∃ z ∈ r, z.1 = c) := by
        have hT : T x ↔ has kv x.1 := by rw [h.1]; simp
        cases r with
        | nil => exact ⟨kv, rfl, trivial, hT.symm, fun _ _ => Iff.rfl, fun _ q => q, fun _ q => .inl q⟩
        | cons y r' =>
          by_cases cc : w = true ∧ (valV kv (Sum.inl x.1)).isSome = true
          · refine ⟨put kv y.1, if_pos cc, ?_, ?_, ?_, ?_, ?_⟩
            · have nd3 := List.nodup_cons.mp (show (y.1 :: r'.map (·.1)).Nodup from nd2.2)
              have hx : has kv x.1 := cc.2
              have h2 := h.2
              refine ⟨?_, ?_⟩
              · rw [h2.1, has_put]
                simp [cc.1, hx]
              · refine opn_put (fun z hz e => nd3.1 (List.mem_map.mpr ⟨z, hz, e⟩)) (opn_acc ?_ h2.2)
                rw [has_put]
                simp [hx]
            · rw [hT, has_put]
              have : x.1 ≠ y.1 := fun e => nd2.1 (by rw [e]; exact List.mem_map.mpr ⟨y, List.mem_cons_self .., rfl⟩)
              simp [this]
            · intro c hc
              rw [has_put]
              have := hc y (List.mem_cons_self ..)
              simp [Ne.symm this]
            · intro c hc
              rw [has_put]
              exact .inr hc
            · intro c hc
              rw [has_put] at hc
              rcases hc with rfl | hc
              · exact .inr ⟨y, List.mem_cons_self .., rfl⟩
              · exact .inl hc
          · refine ⟨kv, if_neg cc, ?_, hT.symm, fun _ _ => Iff.rfl, fun _ q => q, fun _ q => .inl q⟩
            cases hw : w with
            | true =>
              rw [hw] at h cc
              have : ¬ has kv x.1 := fun q => cc ⟨rfl, q⟩
              exact opn_acc (by simp [this]) h.2
            | false =>
              rw [hw] at h
              exact opn_no h.2
      rw [hk]
      obtain ⟨q1, q2, q3, q4, q5⟩ := clo_ok (b := b) nd2.2 hop
      have hxr : ∀ z ∈ r, z.1 ≠ x.1 := fun z hz e => nd2.1 (List.mem_map.mpr ⟨z, hz, e⟩)
      refine ⟨q1, ?_, ?_, fun c hc => q4 c (hmore c hc), ?_⟩
      · intro z hz hn
        rcases List.mem_cons.mp hz with rfl | hz
        · rw [q3 _ hxr, hx]
        · exact q2 z hz hn
      · intro c hc
        have hcr : ∀ z ∈ r, z.1 ≠ c := fun z hz => hc z (List.mem_cons_of_mem _ hz)
        rw [q3 c hcr, hother c hcr]
      · intro c hc
        rcases q5 c hc with hc | ⟨z, hz, e⟩
        · rcases hback c hc with hc | ⟨z, hz, e⟩
          · exact .inl hc
          · exact .inr ⟨z, List.mem_cons_of_mem _ hz, e⟩
        · exact .inr ⟨z, List.mem_cons_of_mem _ hz, e⟩
    · rw [if_neg c]
      refine ⟨h, fun z hz hn => absurd hz hn, fun _ _ => Iff.rfl, fun _ q => q, fun _ q => .inl q⟩
structure Stk (us : List S3) (at_ : Nat) (cur : Int) (rs : List S3) : Prop where
  eq : rs.reverse = (us.take at_).filter fun u => decide (cur ≤ u.2.1)
  lo : ∀ u ∈ us.take at_, u.1 ≤ cur
  hi : ∀ u ∈ us.drop at_, cur ≤ u.1
def Srt (us : List S3) : Prop := us.Pairwise fun x y => x.1 < y.1
section
variable {A : S3 → Prop} (F : Fam A) {us ls : List S3} (hu : ∀ u ∈ us, A u) (su : Srt us)
theorem Stk.mem {at_ : Nat} {cur : Int} {rs : List S3} (h : Stk us at_ cur rs) {x : S3} : x ∈ rs ↔ x ∈ us.take at_ ∧ cur ≤ x.2.1 := by
  rw [← List.mem_reverse, h.eq, List.mem_filter, decide_eq_true_iff]
include F hu su in
theorem Stk.anti {at_ : Nat} {cur : Int} {rs : List S3} (h : Stk us at_ cur rs) : Anti rs := by
  have h1 : rs.reverse.Pairwise (fun x y => y.2.1 ≤ x.2.1) := by
    rw [h.eq]
    have hs : ((us.take at_).filter fun u => decide (cur ≤ u.2.1)).Pairwise fun x y => x.1 < y.1 := (su.sublist (List.take_sublist _ _)).sublist List.filter_sublist
    refine hs.imp_of_mem fun {x y} hx hy hxy => ?_
    rw [List.mem_filter, decide_eq_true_iff] at hx hy
    exact (F.nest x y (hu x (List.mem_of_mem_take hx.1)) (hu y (List.mem_of_mem_take hy.1)) ⟨hxy, Int.le_trans (h.lo y hy.1) hx.2⟩).1
  rw [List.pairwise_reverse] at h1
  exact h1
theorem Stk.start (h : ∀ u ∈ us, (0 : Int) ≤ u.1) : Stk us 0 0 [] := ⟨by simp, by simp, by simpa using h⟩
include su in
theorem Stk.nodup {at_ : Nat} {cur : Int} {rs : List S3} (h : Stk us at_ cur rs) : (rs.map (·.1)).Nodup := by
  have h1 : (rs.reverse.map (·.1)).Nodup := by
    rw [h.eq]
    have hs : ((us.take at_).filter fun u => decide (cur ≤ u.2.1)).Pairwise fun x y => x.1 < y.1 := (su.sublist (List.take_sublist _ _)).sublist List.filter_sublist
    rw [List.Nodup, List.pairwise_map]
    exact hs.imp fun {x y} q => by omega
  rw [List.map_reverse, List.Nodup, List.pairwise_reverse] at h1
  exact h1.imp fun q => Ne.symm q
include F hu su in
theorem Stk.close {at_ : Nat} {cur b : Int} {rs : List S3} {w : Bool} {kv : List (Key × V)} (h : Stk us at_ cur rs) (hb : cur ≤ b) (hd : ∀ u ∈ us.drop at_, b ≤ u.1) : Stk us at_ b (clo w b rs kv).1 := by
  refine ⟨?_, fun u q => Int.le_trans (h.lo u q) hb, hd⟩
  rw [clo_filter (h.anti F hu su), ← List.filter_reverse, h.eq, List.filter_filter]
  congr 1
  funext u
  rw [Bool.eq_iff_iff, Bool.and_eq_true, decide_eq_true_iff, decide_eq_true_iff]
  constructor
  · exact fun q => q.1
  · exact fun q => ⟨q, Int.le_trans hb q⟩
include F hu su in
theorem Stk.push {at_ : Nat} {cur : Int} {rs : List S3} {u : S3} {w : Bool} {kv : List (Key × V)} (h : Stk us at_ cur rs) (e : us[at_]? = some u) : Stk us (at_ + 1) u.1 (u :: (clo w u.1 rs kv).1) := by
  have hlt := (List.getElem?_eq_some_iff.mp e).1
  have hdr : us.drop at_ = u :: us.drop (at_ + 1) := by
    obtain ⟨h1, h2⟩ := List.getElem?_eq_some_iff.mp e
    rw [← h2, List.drop_eq_getElem_cons h1]
  have hcu : cur ≤ u.1 := h.hi u (by rw [hdr]; exact List.mem_cons_self ..)
  have sd : (u :: us.drop (at_ + 1)).Pairwise fun x y => x.1 < y.1 := by rw [← hdr]; exact su.sublist (List.drop_sublist _ _)
  have hge : ∀ v ∈ us.drop at_, u.1 ≤ v.1 := by
    rw [hdr]
    intro v hv
    rcases List.mem_cons.mp hv with rfl | hv
    · exact Int.le_refl _
    · exact Int.le_of_lt ((List.pairwise_cons.mp sd).1 v hv)
  have c := h.close F hu su (w := w) (kv := kv) hcu hge
  have hu1 : A u := hu u (List.mem_of_getElem? e)
  refine ⟨?_, ?_, ?_⟩
  · rw [List.reverse_cons, c.eq, take_snoc e, List.filter_append, List.filter_cons, if_pos (decide_eq_true (F.le u hu1))]
    rfl
  · intro v hv
    rw [take_snoc e] at hv
    rcases List.mem_append.mp hv with hv | hv
    · exact Int.le_trans (h.lo v hv) hcu
    · rw [List.mem_singleton.mp hv]
      exact Int.le_refl _
  · intro v hv
    exact hge v (by rw [hdr]; exact List.mem_cons_of_mem _ hv)
include su in
structure Low (w : Bool) (us done : List S3) (at_ : Nat) (cur : Int) (rs : List S3) (kv : List (Key × V)) : Prop where
  stk : Stk us at_ cur rs
  shut : ∀ u ∈ us.take at_, ¬ cur ≤ u.2.1 → (has kv u.1 ↔ tld w done u)
  op : opn w (tld w done) kv False rs
  only : ∀ c, has kv c → ∃ u ∈ us.take at_, u.1 = c
  met : ∀ l ∈ done, l.1 ≤ cur
theorem Low.start {w : Bool} (h : ∀ u ∈ us, (0 : Int) ≤ u.1) : Low w us [] 0 0 [] [] := ⟨Stk.start h, by simp, trivial, fun c q => absurd q (has_nil c), by simp⟩
include F hu su in
theorem Low.close {w : Bool} {done : List S3} {at_ : Nat} {cur b : Int} {rs : List S3} {kv : List (Key × V)} (h : Low w us done at_ cur rs kv) (hb : cur ≤ b) (hd : ∀ u ∈ us.drop at_, b ≤ u.1) :
    Low w us done at_ b (clo w b rs kv).1 (clo w b rs kv).2 := by
  have hs := h.stk.close F hu su (w := w) (kv := kv) hb hd
  obtain ⟨q1, q2, q3, q4, q5⟩ := clo_ok (b := b) (h.stk.nodup su) h.op
  refine ⟨hs, ?_, q1, ?_, fun l hl => Int.le_trans (h.met l hl) hb⟩
  · intro u hu' hn
    by_cases c : cur ≤ u.2.1
    · have hr : u ∈ rs := h.stk.mem.mpr ⟨hu', c⟩
      exact q2 u hr fun z => hn (hs.mem.mp z).2
    · have hnr : ∀ x ∈ rs, x.1 ≠ u.1 := by
        intro x hx e
        have hx' := h.stk.mem.mp hx
        have : x = u := by
          have nd := su.sublist (List.take_sublist at_ us)
          obtain ⟨i, hi, hxi⟩ := List.mem_iff_getElem.mp hx'.1
          obtain ⟨j, hj, huj⟩ := List.mem_iff_getElem.mp hu'
          rw [List.pairwise_iff_getElem] at nd
          rcases Nat.lt_trichotomy i j with hij | hij | hij
          · have := nd i j hi hj hij
            rw [hxi, huj] at this
            omega
          · subst hij
            rw [← hxi, ← huj]
          · have := nd j i hj hi hij
            rw [hxi, huj] at this
            omega
        rw [this] at hx'
        exact c hx'.2
      rw [q3 u.1 hnr]
      exact h.shut u hu' c
  · intro c hc
    rcases q5 c hc with hc | ⟨x, hx, e⟩
    · exact h.only c hc
    · exact ⟨x, (h.stk.mem.mp hx).1, e⟩
include F hu su in
theorem Low.push {w : Bool} {done : List S3} {at_ : Nat} {cur : Int} {rs : List S3} {kv : List (Key × V)} {u : S3} (h : Low w us done at_ cur rs kv) (e : us[at_]? = some u) :
    Low w us done (at_ + 1) u.1 (u :: (clo w u.1 rs kv).1) (clo w u.1 rs kv).2 := by
  have hdr : us.drop at_ = u :: us.drop (at_ + 1) := by
    obtain ⟨h1, h2⟩ := List.getElem?_eq_some_iff.mp e
    rw [← h2, List.drop_eq_getElem_cons h1]
  have sd : (u :: us.drop (at_ + 1)).Pairwise fun x y => x.1 < y.1 := by rw [← hdr]; exact su.sublist (List.drop_sublist _ _)
  have hcu : cur ≤ u.1 := h.stk.hi u (by rw [hdr]; exact List.mem_cons_self ..)
  have hge : ∀ v ∈ us.drop at_, u.1 ≤ v.1 := by
    rw [hdr]
    intro v hv
    rcases List.mem_cons.mp hv with rfl | hv
    · exact Int.le_refl _
    · exact Int.le_of_lt ((List.pairwise_cons.mp sd).1 v hv)
  have c := h.close F hu su hcu hge
  have hlt : ∀ v ∈ us.take at_, v.1 < u.1 := by
    intro v hv
    have : (us.take at_ ++ us.drop at_).Pairwise fun x y => x.1 < y.1 := by rw [List.take_append_drop]; exact su
    exact (List.pairwise_append.mp this).2.2 v hv u (by rw [hdr]; exact List.mem_cons_self ..)
  have hnew : ¬ has (clo w u.1 rs kv).2 u.1 := fun q => by
    obtain ⟨v, hv, e⟩ := c.only _ q
    have := hlt v hv
    omega
  have hT : ¬ tld w done u := by
    rintro ⟨l, hl, hs, _⟩
    have := c.met l hl
    have := hs.1
    omega
  refine ⟨h.stk.push F hu su e, ?_, ⟨by simp [hnew, hT], opn_acc (by simp [hnew]) c.op⟩, ?_, c.met⟩
  · intro v hv hn
    rw [take_snoc e] at hv
    rcases List.mem_append.mp hv with hv | hv
    · exact c.shut v hv hn
    · rw [List.mem_singleton.mp hv] at hn ⊢
      exact absurd (F.le u (hu u (List.mem_of_getElem? e))) hn
  · intro x hx
    obtain ⟨v, hv, e'⟩ := c.only x hx
    exact ⟨v, by rw [take_snoc e]; exact List.mem_append_left _ hv, e'⟩
end
end Bg

namespace Bg
open PySem L2
def dg (ds : List Int) (i : Nat) : Int := ds.getD i 0
theorem dg_of {ds : List Int} {i : Nat} {d : Int} (h : ds[i]? = some d) : dg ds i = d := by
  unfold dg
  rw [List.getD_eq_getElem?_getD, h]
  rfl
theorem dg_get {ds : List Int} {i : Nat} (h : i < ds.length) : ds[i]? = some (dg ds i) := by
  unfold dg
  rw [List.getD_eq_getElem?_getD, List.getElem?_eq_getElem h]
  rfl
def An (ds : List Int) (u k : Nat) : Prop := u < k ∧ k < ds.length ∧ ∀ j, u < j → j ≤ k → dg ds u < dg ds j
structure Dv (ds : List Int) : Prop where
  one : dg ds 0 = 1
  two : ∀ i, i + 1 < ds.length → 2 ≤ dg ds (i + 1) ∧ dg ds (i + 1) ≤ dg ds i + 1
theorem Dv.pos {ds : List Int} (h : Dv ds) : ∀ i, i < ds.length → 1 ≤ dg ds i
  | 0, _ => by rw [h.one]; decide
  | i + 1, hi => by have := (h.two i hi).1; omega
theorem Dv.le {ds : List Int} (h : Dv ds) : ∀ i, i < ds.length → dg ds i ≤ i + 1
  | 0, _ => by rw [h.one]; decide
  | i + 1, hi => by
    have h1 := (h.two i hi).2
    have h2 := h.le i (by omega)
    omega
theorem An.trans {ds : List Int} {u v k : Nat} (a : An ds u v) (b : An ds v k) : An ds u k := by
  refine ⟨Nat.lt_trans a.1 b.1, b.2.1, fun j h1 h2 => ?_⟩
  by_cases c : j ≤ v
  · exact a.2.2 j h1 c
  · exact Int.lt_trans (a.2.2 v a.1 (Nat.le_refl _)) (b.2.2 j (by omega) h2)
theorem An.mid {ds : List Int} {u v k : Nat} (a : An ds u k) (b : An ds v k) (h : u < v) : An ds u v := ⟨h, Nat.lt_trans b.1 b.2.1, fun j h1 h2 => a.2.2 j h1 (Nat.le_trans h2 (Nat.le_of_lt b.1))⟩
theorem An.dlt {ds : List Int} {u k : Nat} (a : An ds u k) : dg ds u < dg ds k := a.2.2 k a.1 (Nat.le_refl _)
def Par (ds : List Int) (u k : Nat) : Prop := An ds u k ∧ dg ds u + 1 = dg ds k
theorem Par.all {ds : List Int} {u k : Nat} (p : Par ds u k) (w : Nat) : An ds w k ↔ w = u ∨ An ds w u := by
  constructor
  · intro a
    rcases Nat.lt_trichotomy w u with h | h | h
    · exact .inr (a.mid p.1 h)
    · exact .inl h
    · exfalso
      have h1 := (p.1.mid a h).dlt
      have h2 := a.dlt
      have h3 := p.2
      omega
  · rintro (rfl | a)
    · exact p.1
    · exact a.trans p.1
theorem Par.only {ds : List Int} {u w k : Nat} (p : Par ds u k) (q : Par ds w k) : w = u := by
  rcases (p.all w).mp q.1 with h | h
  · exact h
  · exfalso
    have h1 := h.dlt
    have h2 := p.2
    have h3 := q.2
    omega
def UpAt (ds : List Int) (k : Nat) : Option Int → Prop
  | some u => ∃ n : Nat, u = n ∧ Par ds n k
  | none => ∀ u, ¬ An ds u k
structure UpOk (ds : List Int) (us : List (Option Int)) : Prop where
  len : us.length = ds.length
  at_ : ∀ (k : Nat) (o : Option Int), us[k]? = some o → UpAt ds k o
structure Line (ds : List Int) (k : Nat) (ln : List Int) : Prop where
  len : (ln.length : Int) = dg ds k
  at_ : ∀ (i : Nat) (m : Int), ln[i]? = some m → ∃ n : Nat, m = n ∧ dg ds n = (i : Int) + 1 ∧ (n = k ∨ An ds n k)
theorem Line.first {ds : List Int} (h : Dv ds) : Line ds 0 [0] := ⟨by rw [h.one]; rfl, fun i m e => by
  cases i with
  | zero => exact ⟨0, by simpa using e.symm, by rw [h.one]; rfl, .inl rfl⟩
  | succ i => simp at e⟩
theorem Line.next {ds : List Int} {k : Nat} {ln : List Int} (h : Dv ds) (l : Line ds k ln) (hk : k + 1 < ds.length) : Line ds (k + 1) (ln.take (dg ds (k + 1) - 1).toNat ++ [((k + 1 : Nat) : Int)]) := by
  have h2 := h.two k hk
  have hl := l.len
  refine ⟨?_, fun i m e => ?_⟩
  · rw [List.length_append, List.length_take, List.length_singleton]
    omega
  · by_cases c : i < (dg ds (k + 1) - 1).toNat
    · rw [List.getElem?_append_left (by rw [List.length_take]; omega), List.getElem?_take, if_pos c] at e
      obtain ⟨n, rfl, hd, hn⟩ := l.at_ i m e
      refine ⟨n, rfl, hd, .inr ⟨by rcases hn with rfl | a; omega; have := a.1; omega, hk, fun j h3 h4 => ?_⟩⟩
      by_cases cj : j = k + 1
      · rw [cj, hd]; omega
      · rcases hn with rfl | a
        · omega
        · exact a.2.2 j h3 (by omega)
    · have hlen : (ln.take (dg ds (k + 1) - 1).toNat).length = (dg ds (k + 1) - 1).toNat := by rw [List.length_take]; omega
      rw [List.getElem?_append_right (by omega), hlen] at e
      have hi : i - (dg ds (k + 1) - 1).toNat = 0 := by
        cases q : i - (dg ds (k + 1) - 1).toNat with
        | zero => rfl
        | succ z => rw [q] at e; simp at e
      rw [hi] at e
      exact ⟨k + 1, by simpa using e.symm, by omega, .inl rfl⟩
theorem Line.upper {ds : List Int} {k : Nat} {ln : List Int} {m : Int} (l : Line ds k ln) (hk : 1 < dg ds k) (hl : k < ds.length) (e : ln[(dg ds k - 2).toNat]? = some m) : UpAt ds k (some m) := by
  obtain ⟨n, rfl, hd, hn⟩ := l.at_ _ m e
  refine ⟨n, rfl, ?_, by omega⟩
  rcases hn with rfl | a
  · omega
  · exact a
theorem upAt_none {ds : List Int} {k : Nat} (h : Dv ds) (hk : ¬ 1 < dg ds k) : UpAt ds k none := fun u a => by
  have h1 := a.dlt
  have h2 := h.pos u (Nat.lt_trans a.1 a.2.1)
  omega
structure EndP (ds : List Int) (k e : Nat) : Prop where
  le : k ≤ e
  lt : e < ds.length
  in_ : ∀ j, k < j → j ≤ e → dg ds k < dg ds j
  out : e + 1 < ds.length → ¬ dg ds k < dg ds (e + 1)
theorem EndP.an {ds : List Int} {u e : Nat} (h : EndP ds u e) (k : Nat) : An ds u k ↔ u < k ∧ k ≤ e := by
  constructor
  · intro a
    refine ⟨a.1, ?_⟩
    rcases Nat.lt_or_ge e k with c | c
    · exact absurd (a.2.2 (e + 1) (by have := h.le; omega) (by omega)) (h.out (by have := a.2.1; omega))
    · exact c
  · rintro ⟨h1, h2⟩
    exact ⟨h1, Nat.lt_of_le_of_lt h2 h.lt, fun j a b => h.in_ j a (Nat.le_trans b h2)⟩
theorem EndP.only {ds : List Int} {u e f : Nat} (h : EndP ds u e) (g : EndP ds u f) : e = f := by
  rcases Nat.lt_trichotomy e f with c | c | c
  · exact absurd (g.in_ (e + 1) (by have := h.le; omega) (by omega)) (h.out (by have := g.lt; omega))
  · exact c
  · exact absurd (h.in_ (f + 1) (by have := g.le; omega) (by omega)) (g.out (by have := h.lt; omega))
theorem EndP.nest {ds : List Int} {u v e f : Nat} (h : EndP ds u e) (g : EndP ds v f) (c : u < v) (d : v ≤ e) : f ≤ e ∧ dg ds u < dg ds v := by
  have huv := h.in_ v c d
  refine ⟨?_, huv⟩
  rcases Nat.lt_or_ge e f with q | q
  · exfalso
    refine h.out (by have := g.lt; omega) (Int.lt_trans huv (g.in_ (e + 1) (by omega) (by omega)))
  · exact q
def Bn (ds : List Int) (w : Bool) (u k : Nat) : Prop := An ds u k ∧ (w = true ∨ dg ds u + 1 = dg ds k)
end Bg

namespace Bg
open PySem PySem.Spec PyProof.Rows L2
def But2 (a b : Addr) (H H' : Hp) : Prop := ∀ c o, c ≠ a → c ≠ b → H c = some o → H' c = some o
theorem But2.refl (a b : Addr) (H : Hp) : But2 a b H H := fun _ _ _ _ h => h
theorem But2.trans {a b : Addr} {H H1 H2 : Hp} (x : But2 a b H H1) (y : But2 a b H1 H2) : But2 a b H H2 := fun c o n m h => y c o n m (x c o n m h)
theorem But2.of_same {a b : Addr} {H H' : Hp} (x : Same H H') : But2 a b H H' := fun c o _ _ h => x c o h
theorem But2.l {a b : Addr} {H H' : Hp} (x : But a H H') : But2 a b H H' := fun c o n _ h => x c o n h
theorem But2.r {a b : Addr} {H H' : Hp} (x : But b H H') : But2 a b H H' := fun c o _ n h => x c o n h
def Dvp (ds : List Int) (ab : Int) : Prop := (ds = [] ∧ ab = 0) ∨ (ds ≠ [] ∧ Dv ds ∧ ab = dg ds (ds.length - 1))
theorem dg_app_l {ds es : List Int} {i : Nat} (h : i < ds.length) : dg (ds ++ es) i = dg ds i := by
  unfold dg
  rw [List.getD_eq_getElem?_getD, List.getD_eq_getElem?_getD, List.getElem?_append_left h]
theorem dg_app_r (ds : List Int) (d : Int) : dg (ds ++ [d]) ds.length = d := by
  unfold dg
  rw [List.getD_eq_getElem?_getD, List.getElem?_append_right (Nat.le_refl _)]
  simp
theorem Dvp.nil : Dvp [] 0 := .inl ⟨rfl, rfl⟩
theorem Dvp.zero {ds : List Int} {ab : Int} (h : Dvp ds ab) (e : ab = 0) : ds = [] := by
  rcases h with ⟨h, _⟩ | ⟨hn, hd, rfl⟩
  · exact h
  · have := hd.pos (ds.length - 1) (by have := List.length_pos_iff.mpr hn; omega)
    omega
theorem Dvp.snoc {ds : List Int} {ab d : Int} (h : Dvp ds ab) (h0 : ab = 0 → d = 1) (h1 : 0 < ab → 2 ≤ d ∧ d ≤ ab + 1) : Dvp (ds ++ [d]) d := by
  refine .inr ⟨by simp, ?_, by rw [List.length_append, List.length_singleton, Nat.add_sub_cancel, dg_app_r]⟩
  rcases h with ⟨rfl, e⟩ | ⟨hn, hd, e⟩
  · refine ⟨?_, fun i hi => by simp at hi⟩
    show d = 1
    exact h0 e
  · have hl := List.length_pos_iff.mpr hn
    refine ⟨by rw [dg_app_l hl]; exact hd.one, fun i hi => ?_⟩
    rw [List.length_append, List.length_singleton] at hi
    by_cases c : i + 1 < ds.length
    · rw [dg_app_l c, dg_app_l (by omega)]
      exact hd.two i c
    · have ei : i + 1 = ds.length := by omega
      rw [ei, dg_app_r, dg_app_l (by omega)]
      have hp := hd.pos (ds.length - 1) (by omega)
      have := h1 (by omega)
      rw [e, show ds.length - 1 = i by omega] at this
      exact this
theorem Dvp.dv {ds : List Int} {ab : Int} (h : Dvp ds ab) (hn : 1 ≤ ds.length) : Dv ds := by
  rcases h with ⟨rfl, _⟩ | ⟨_, hd, _⟩
  · simp at hn
  · exact hd
def has2 (kv : List (List Key × V)) (u k : Int) : Prop := (valV kv [Sum.inl u, Sum.inl k]).isSome = true
def Prs (ds : List Int) (w : Bool) (n : Nat) (kv : List (List Key × V)) : Prop := ∀ u k : Int, has2 kv u k ↔ ∃ a b : Nat, u = a ∧ k = b ∧ b < n ∧ Bn ds w a b
def Dn (a : Nat) : Option Int → Prop
  | none => True
  | some h => h < a
structure PWalk (ds : List Int) (w : Bool) (i : Nat) (o : Option Int) (kv : List (List Key × V)) : Prop where
  at_ : ∀ h, o = some h → ∃ n : Nat, h = n ∧ Bn ds w n i
  all : ∀ u k : Int, has2 kv u k ↔ (∃ a b : Nat, u = a ∧ k = b ∧ b < i ∧ Bn ds w a b) ∨ (∃ a : Nat, u = a ∧ k = i ∧ Bn ds w a i ∧ Dn a o)
theorem PWalk.start {ds : List Int} {w : Bool} {i : Nat} {o : Option Int} {kv : List (List Key × V)} (h : Prs ds w i kv) (u : UpAt ds i o) : PWalk ds w i o kv := by
  cases o with
  | none => exact ⟨fun _ q => (nomatch q), fun a b => by
      rw [h a b]
      constructor
      · exact .inl
      · rintro (q | ⟨c, _, _, q, _⟩)
        · exact q
        · exact absurd q.1 (u c)⟩
  | some m =>
    obtain ⟨n, rfl, p⟩ := u
    refine ⟨fun _ q => ⟨n, (Option.some.inj q).symm, p.1, .inr p.2⟩, fun a b => ?_⟩
    rw [h a b]
    constructor
    · exact .inl
    · rintro (q | ⟨c, _, _, q, d⟩)
      · exact q
      · have d : (n : Int) < c := d
        rcases (p.all c).mp q.1 with e | e
        · omega
        · have := e.1
          omega
structure AllS (ds : List Int) (ss : List S3) : Prop where
  len : ss.length = ds.length
  at_ : ∀ (k : Nat) (x : S3), ss[k]? = some x → ∃ e, EndP ds k e ∧ x = ((k : Int), (e : Int), dg ds k)
end Bg

namespace PySem
open Sem (wp)
end PySem
namespace L2
open PySem PySem.Spec PyProof.Rows
end L2
namespace Bg
open PySem PySem.Spec PyProof.Rows L2
end Bg

namespace Bg
open PySem PySem.Spec PyProof.Rows L2
structure EndsOk (ds : List Int) (es : List Int) : Prop where
  len : es.length = ds.length
  at_ : ∀ (k : Nat) (e : Int), es[k]? = some e → ∃ n : Nat, e = n ∧ EndP ds k n
def EI (ds : List Int) (p : Nat) (fs : List Int) (op : List Int) : Prop := fs.length = ds.length ∧ ∀ k : Nat, k < p → (k : Int) ∉ op → ∃ e : Nat, fs[k]? = some (e : Int) ∧ EndP ds k e
theorem EI.push {ds : List Int} {p : Nat} {fs op : List Int} (h : EI ds p fs op) : EI ds (p + 1) fs (op ++ [(p : Int)]) := by
  refine ⟨h.1, fun k hk hko => ?_⟩
  have hne : k ≠ p := fun z => hko (by rw [z]; simp)
  exact h.2 k (by omega) fun z => hko (List.mem_append_left _ z)
def dps (rows : List (Str × Int)) : List Int := rows.map (·.2)
structure DocOk (rows : List (Str × Int)) : Prop where
  one : 1 ≤ rows.length
  most : rows.length ≤ 240
  lab : ∀ r ∈ rows, labelB r.1 = true
  dv : Dv (dps rows)
  deep : ∀ r ∈ rows, r.2 ≤ 80
theorem dps_len (rows : List (Str × Int)) : (dps rows).length = rows.length := List.length_map ..
theorem dps_at {rows : List (Str × Int)} {k : Nat} {r : Str × Int} (h : rows[k]? = some r) : dg (dps rows) k = r.2 := dg_of (by unfold dps; rw [List.getElem?_map, h]; rfl)
def docF (t e u : Addr) : List (Str × V) := [("parts", .ref t), ("ends", .ref e), ("uppers", .ref u)]
structure DocIn (K : PySem.W.Frag) (H : Hp) (a : Addr) (rows : List (Str × Int)) (dx t e u : Addr) (tv : List V) (es : List Int) (us : List (Option Int)) : Prop where
  ob : H a = some (.ins (He.ga K "Document") dx (docF t e u))
  tp : H t = some (.tup tv)
  pl : PL K H eRow tv rows
  en : H e = some (.lst (es.map V.int))
  up : H u = some (.lst (us.map vOpt))
  eo : EndsOk (dps rows) es
  uo : UpOk (dps rows) us
  ok : DocOk rows
def DocAt (K : PySem.W.Frag) (H : Hp) (a : Addr) (rows : List (Str × Int)) : Prop := ∃ dx t e u tv es us, DocIn K H a rows dx t e u tv es us
theorem DocIn.same {K : PySem.W.Frag} {H H' : Hp} {a : Addr} {rows : List (Str × Int)} {dx t e u : Addr} {tv : List V} {es : List Int} {us : List (Option Int)} (h : DocIn K H a rows dx t e u tv es us) (s : Same H H') : DocIn K H' a rows dx t e u tv es us :=
  ⟨s _ _ h.ob, s _ _ h.tp, h.pl.same s, s _ _ h.en, s _ _ h.up, h.eo, h.uo, h.ok⟩
theorem DocAt.same {K : PySem.W.Frag} {H H' : Hp} {a : Addr} {rows : List (Str × Int)} (h : DocAt K H a rows) (s : Same H H') : DocAt K H' a rows := by
  obtain ⟨dx, t, e, u, tv, es, us, h⟩ := h
  exact ⟨dx, t, e, u, tv, es, us, h.same s⟩
theorem DocAt.ok {K : PySem.W.Frag} {H : Hp} {a : Addr} {rows : List (Str × Int)} (h : DocAt K H a rows) : DocOk rows := by
  obtain ⟨dx, t, e, u, tv, es, us, h⟩ := h
  exact h.ok
theorem DocAt.butD {K : PySem.W.Frag} {H H' : Hp} {a b : Addr} {rows : List (Str × Int)} {kv : List (Key × V)} (h : DocAt K H a rows) (s : But b H H') (hb : H b = some (.dK kv)) : DocAt K H' a rows := by
  obtain ⟨dx, t, e, u, tv, es, us, h⟩ := h
  have n : ∀ c o, H c = some o → (∀ kv, o ≠ .dK kv) → H' c = some o := fun c o q d => s c o (ne_of q hb fun z => d _ z) q
  exact ⟨dx, t, e, u, tv, es, us, n _ _ h.ob (fun _ z => nomatch z), n _ _ h.tp (fun _ z => nomatch z), h.pl.tk (TK.butD s hb) flat_row, n _ _ h.en (fun _ z => nomatch z), n _ _ h.up (fun _ z => nomatch z), h.eo, h.uo, h.ok⟩
end Bg

namespace Bg
open PySem PySem.Spec PyProof.Rows L2
def vN (n : Nat) : V := .int (n : Int)
structure Lows (ds : List Int) (k : Nat) (ls : List Nat) : Prop where
  up : ls.Pairwise (· < ·)
  mem : ∀ n, n ∈ ls ↔ Par ds k n
theorem up_only {l m : List Nat} (hl : l.Pairwise (· < ·)) (hm : m.Pairwise (· < ·)) (h : ∀ n, n ∈ l ↔ n ∈ m) : l = m := by
  induction l generalizing m with
  | nil =>
    cases m with
    | nil => rfl
    | cons y m => exact absurd ((h y).mpr (List.mem_cons_self ..)) (by simp)
  | cons x l ih =>
    cases m with
    | nil => exact absurd ((h x).mp (List.mem_cons_self ..)) (by simp)
    | cons y m =>
      rw [List.pairwise_cons] at hl hm
      have hxy : x = y := by
        have h1 := (h x).mp (List.mem_cons_self ..)
        have h2 := (h y).mpr (List.mem_cons_self ..)
        rcases List.mem_cons.mp h1 with e | e
        · exact e
        · rcases List.mem_cons.mp h2 with f | f
          · exact f.symm
          · have := hm.1 x e
            have := hl.1 y f
            omega
      subst hxy
      rw [ih hl.2 hm.2 fun n => ?_]
      constructor
      · intro hn
        rcases List.mem_cons.mp ((h n).mp (List.mem_cons_of_mem _ hn)) with e | e
        · have := hl.1 n hn; omega
        · exact e
      · intro hn
        rcases List.mem_cons.mp ((h n).mpr (List.mem_cons_of_mem _ hn)) with e | e
        · have := hm.1 n hn; omega
        · exact e
end Bg

namespace Bg
open PySem PySem.Spec PyProof.Rows L2
section
variable {X : Cx} {CX1 CX2 : CXT} {k1 k2 : Nat} {C1 C2 : Addr} {ps1 ps2 : List Str} {sp1 sp2 : Sp} {E : XK} {m : Str} {pos apos : Pos} {e o : Expr} {es : List Expr} {ta : TE} {t : TA}
end
def stF (z : Str) : List (Str × V) := [("label", .str z)]
def StepAt (K : PySem.W.Frag) (H : Hp) (p : Addr) (w z : Str) : Prop := ∃ dx, (w = "/" ∧ H p = some (.ins (He.ga K "Straight") dx (stF z))) ∨ (w = "//" ∧ H p = some (.ins (He.ga K "Anywhere") dx (stF z)))
theorem StepAt.at_ {K : PySem.W.Frag} {H H' : Hp} {p : Addr} {w z : Str} (h : StepAt K H p w z) (s : ∀ o, H p = some o → H' p = some o) : StepAt K H' p w z := by
  obtain ⟨dx, ⟨e, h⟩ | ⟨e, h⟩⟩ := h
  · exact ⟨dx, .inl ⟨e, s _ h⟩⟩
  · exact ⟨dx, .inr ⟨e, s _ h⟩⟩
theorem StepAt.same {K : PySem.W.Frag} {H H' : Hp} {p : Addr} {w z : Str} (h : StepAt K H p w z) (s : Same H H') : StepAt K H' p w z := h.at_ fun o q => s _ _ q
theorem StepAt.ins {K : PySem.W.Frag} {H : Hp} {p : Addr} {w z : Str} (h : StepAt K H p w z) : ∃ C dx fs, H p = some (.ins C dx fs) := by
  obtain ⟨dx, ⟨e, h⟩ | ⟨e, h⟩⟩ := h
  · exact ⟨_, _, _, h⟩
  · exact ⟨_, _, _, h⟩
abbrev Sr := Str × Str × Int
def qds (rows : List Sr) : List Int := rows.map (·.2.2)
structure QuOk (rows : List Sr) (g : Nat) : Prop where
  one : 1 ≤ rows.length
  most : rows.length ≤ 100
  way : ∀ r ∈ rows, r.1 = "/" ∨ r.1 = "//"
  lab : ∀ r ∈ rows, labelB r.2.1 = true
  dv : Dv (qds rows)
  deep : ∀ r ∈ rows, r.2.2 ≤ 30
  goal : g < rows.length
theorem qds_len (rows : List Sr) : (qds rows).length = rows.length := List.length_map ..
theorem qds_at {rows : List Sr} {k : Nat} {r : Sr} (h : rows[k]? = some r) : dg (qds rows) k = r.2.2 := dg_of (by unfold qds; rw [List.getElem?_map, h]; rfl)
def quF (t : Addr) (g : Int) (s e u : Addr) : List (Str × V) := [("given_rows", .ref t), ("goal", .int g), ("steps", .ref s), ("ends", .ref e), ("uppers", .ref u)]
def SPs (K : PySem.W.Frag) (H : Hp) (sv : List V) (rows : List Sr) : Prop := Paired (fun v r => ∃ p, v = .ref p ∧ StepAt K H p r.1 r.2.1) sv rows
theorem SPs.at_ {K : PySem.W.Frag} {H H' : Hp} {sv : List V} {rows : List Sr} (h : SPs K H sv rows) (s : ∀ p C dx fs, H p = some (.ins C dx fs) → H' p = some (.ins C dx fs)) : SPs K H' sv rows := h.imp fun v r ⟨p, e, q⟩ => ⟨p, e, q.at_ fun o ho => by
  obtain ⟨C, dx, fs, hi⟩ := q.ins
  have := s p C dx fs hi
  rw [hi] at ho
  rw [this, ho]⟩
theorem SPs.same {K : PySem.W.Frag} {H H' : Hp} {sv : List V} {rows : List Sr} (h : SPs K H sv rows) (s : Same H H') : SPs K H' sv rows := h.at_ fun _ _ _ _ q => s _ _ q
theorem StepAt.fs {K : PySem.W.Frag} {H : Hp} {p : Addr} {w z : Str} (h : StepAt K H p w z) : ∃ C dx, H p = some (.ins C dx (stF z)) := by
  obtain ⟨dx, ⟨e, h⟩ | ⟨e, h⟩⟩ := h
  · exact ⟨_, _, h⟩
  · exact ⟨_, _, h⟩
structure QuIn (K : PySem.W.Frag) (H : Hp) (a : Addr) (rows : List Sr) (g : Nat) (dx t sa e u : Addr) (tv sv : List V) (es : List Int) (us : List (Option Int)) : Prop where
  ob : H a = some (.ins (He.ga K "Question") dx (quF t g sa e u))
  tp : H t = some (.tup tv)
  pl : PL K H eStep tv rows
  sp : H sa = some (.tup sv)
  st : SPs K H sv rows
  en : H e = some (.lst (es.map V.int))
  up : H u = some (.lst (us.map vOpt))
  eo : EndsOk (qds rows) es
  uo : UpOk (qds rows) us
  ok : QuOk rows g
def QuAt (K : PySem.W.Frag) (H : Hp) (a : Addr) (rows : List Sr) (g : Nat) : Prop := ∃ dx t sa e u tv sv es us, QuIn K H a rows g dx t sa e u tv sv es us
section
variable {K : PySem.W.Frag} {H H' : Hp} {a : Addr} {rows : List Sr} {g : Nat} {dx t sa e u : Addr} {tv sv : List V} {es : List Int} {us : List (Option Int)}
theorem QuIn.same (h : QuIn K H a rows g dx t sa e u tv sv es us) (s : Same H H') : QuIn K H' a rows g dx t sa e u tv sv es us :=
  ⟨s _ _ h.ob, s _ _ h.tp, h.pl.same s, s _ _ h.sp, h.st.same s, s _ _ h.en, s _ _ h.up, h.eo, h.uo, h.ok⟩
theorem QuAt.same (h : QuAt K H a rows g) (s : Same H H') : QuAt K H' a rows g := by
  obtain ⟨dx, t, sa, e, u, tv, sv, es, us, h⟩ := h
  exact ⟨dx, t, sa, e, u, tv, sv, es, us, h.same s⟩
theorem QuAt.ok (h : QuAt K H a rows g) : QuOk rows g := by
  obtain ⟨dx, t, sa, e, u, tv, sv, es, us, h⟩ := h
  exact h.ok
end
section
variable {X : Cx} {CX1 CX2 : CXT} {k1 k2 : Nat} {C1 C2 : Addr} {ps1 ps2 : List Str} {sp1 sp2 : Sp} {E : XK} {m : Str} {pos apos : Pos} {o : Expr} {ta : TE}
end
end Bg

namespace Bg
open PySem PySem.Spec PyProof.Rows L2
def hasK (kv : List (Key × V)) (u : Int) : Prop := (valV kv (Sum.inl u)).isSome = true
theorem hasK_put (kv : List (Key × V)) (a u : Int) (v : V) : hasK (putK kv (Sum.inl a) v) u ↔ u = a ∨ hasK kv u := by
  unfold hasK
  rw [valV_put]
  by_cases e : u = a
  · subst e; simp
  · rw [if_neg (fun z => e (Sum.inl.inj z))]
    simp [e]
theorem hasK_nil (u : Int) : ¬ hasK [] u := by
  unfold hasK
  simp [valV]
def Ks (kv : List (Key × V)) (S : Nat → Prop) : Prop := ∀ u : Int, hasK kv u ↔ ∃ n : Nat, u = n ∧ S n
theorem Ks.at_ {kv : List (Key × V)} {S : Nat → Prop} (h : Ks kv S) (n : Nat) : hasK kv n ↔ S n := by
  rw [h]
  constructor
  · rintro ⟨m, e, hm⟩
    have : n = m := by omega
    rw [this]
    exact hm
  · intro hn
    exact ⟨n, rfl, hn⟩
theorem Ks.nil : Ks [] fun _ => False := fun u => ⟨fun h => absurd h (hasK_nil u), fun ⟨_, _, h⟩ => h.elim⟩
theorem Ks.put {kv : List (Key × V)} {S : Nat → Prop} (h : Ks kv S) (a : Nat) (v : V) : Ks (putK kv (Sum.inl (a : Int)) v) fun n => n = a ∨ S n := fun u => by
  rw [hasK_put, h]
  constructor
  · rintro (e | ⟨n, e, hn⟩)
    · exact ⟨a, e, .inl rfl⟩
    · exact ⟨n, e, .inr hn⟩
  · rintro ⟨n, e, rfl | hn⟩
    · exact .inl e
    · exact .inr ⟨n, e, hn⟩
def Hav (ds : List Int) (w : Bool) (ps : List Nat) (n : Nat) : Prop := ∃ q ∈ ps, Bn ds w n q
def Abv (ds : List Int) (w : Bool) (ps : List Nat) (n : Nat) : Prop := ∃ q ∈ ps, Bn ds w q n
def wB (w : Str) : Bool := decide (w = "//")
def TabP (H : Hp) (vs : List V) (T : List (List Nat)) : Prop := Paired (fun v row => ∃ a, v = .ref a ∧ H a = some (.lst (row.map vN))) vs T
theorem TabP.same {H H' : Hp} {vs : List V} {T : List (List Nat)} (h : TabP H vs T) (s : Same H H') : TabP H' vs T := h.imp fun _ _ ⟨a, e, q⟩ => ⟨a, e, s _ _ q⟩
def GoodD (dr : List (Str × Int)) (qr : List Sr) (T : List (List Nat)) (s p : Nat) : Prop := (∃ r sr, dr[p]? = some r ∧ qr[s]? = some sr ∧ r.1 = sr.2.1) ∧ ∀ l sl, Par (qds qr) s l → qr[l]? = some sl → Hav (dps dr) (wB sl.1) (T.getD l []) p
structure DownRow (dr : List (Str × Int)) (qr : List Sr) (T : List (List Nat)) (s : Nat) (row : List Nat) : Prop where
  up : row.Pairwise (· < ·)
  mem : ∀ p, p ∈ row ↔ GoodD dr qr T s p
theorem DownRow.lt {dr : List (Str × Int)} {qr : List Sr} {T : List (List Nat)} {s : Nat} {row : List Nat} (h : DownRow dr qr T s row) {p : Nat} (hp : p ∈ row) : p < dr.length := by
  obtain ⟨⟨r, _, hr, _⟩, _⟩ := (h.mem p).mp hp
  exact (List.getElem?_eq_some_iff.mp hr).1
theorem GoodD.congr {dr : List (Str × Int)} {qr : List Sr} {T T' : List (List Nat)} {s p : Nat} (h : ∀ l, s < l → T.getD l [] = T'.getD l []) : GoodD dr qr T s p ↔ GoodD dr qr T' s p := by
  unfold GoodD
  constructor
  · rintro ⟨a, b⟩
    exact ⟨a, fun l sl hp hl => by rw [← h l hp.1.1]; exact b l sl hp hl⟩
  · rintro ⟨a, b⟩
    exact ⟨a, fun l sl hp hl => by rw [h l hp.1.1]; exact b l sl hp hl⟩
theorem DownRow.congr {dr : List (Str × Int)} {qr : List Sr} {T T' : List (List Nat)} {s : Nat} {row : List Nat} (h : ∀ l, s < l → T.getD l [] = T'.getD l []) (d : DownRow dr qr T s row) : DownRow dr qr T' s row := ⟨d.up, fun p => (d.mem p).trans (GoodD.congr h)⟩
theorem DownRow.only {dr : List (Str × Int)} {qr : List Sr} {T : List (List Nat)} {s : Nat} {row row' : List Nat} (d : DownRow dr qr T s row) (e : DownRow dr qr T s row') : row = row' := up_only d.up e.up fun n => (d.mem n).trans (e.mem n).symm
structure DownT (dr : List (Str × Int)) (qr : List Sr) (n : Nat) (T : List (List Nat)) : Prop where
  len : T.length = qr.length
  at_ : ∀ s row, n ≤ s → T[s]? = some row → DownRow dr qr T s row
theorem DownT.only {dr : List (Str × Int)} {qr : List Sr} {T T' : List (List Nat)} (d : DownT dr qr 0 T) (e : DownT dr qr 0 T') : T = T' := by
  have key : ∀ j s, s + j = qr.length → ∀ l, s ≤ l → T.getD l [] = T'.getD l [] := by
    intro j
    induction j with
    | zero =>
      intro s hs l hl
      rw [List.getD_eq_getElem?_getD, List.getD_eq_getElem?_getD, List.getElem?_eq_none (by rw [d.len]; omega), List.getElem?_eq_none (by rw [e.len]; omega)]
    | succ j ih =>
      intro s hs l hl
      by_cases c : s = l
      · subst c
        have h1 : s < T.length := by rw [d.len]; omega
        have h2 : s < T'.length := by rw [e.len]; omega
        have a := d.at_ s _ (Nat.zero_le _) (List.getElem?_eq_getElem h1)
        have b := e.at_ s _ (Nat.zero_le _) (List.getElem?_eq_getElem h2)
        rw [List.getD_eq_getElem?_getD, List.getD_eq_getElem?_getD, List.getElem?_eq_getElem h1, List.getElem?_eq_getElem h2]
        exact (a.congr fun l hl => ih (s + 1) (by omega) l hl).only b
      · exact ih (s + 1) (by omega) l (by omega)
  refine List.ext_getElem? fun i => ?_
  by_cases h : i < qr.length
  · have h1 : i < T.length := by rw [d.len]; omega
    have h2 : i < T'.length := by rw [e.len]; omega
    have := key qr.length 0 (by omega) i (Nat.zero_le _)
    rw [List.getD_eq_getElem?_getD, List.getD_eq_getElem?_getD, List.getElem?_eq_getElem h1, List.getElem?_eq_getElem h2] at this
    rw [List.getElem?_eq_getElem h1, List.getElem?_eq_getElem h2]
    exact congrArg some this
  · rw [List.getElem?_eq_none (by rw [d.len]; omega), List.getElem?_eq_none (by rw [e.len]; omega)]
def GoodF (dr : List (Str × Int)) (qr : List Sr) (D T : List (List Nat)) (s p : Nat) : Prop := p ∈ D.getD s [] ∧ ∃ sr, qr[s]? = some sr ∧ (((∀ u, ¬ An (qds qr) u s) ∧ (sr.1 = "//" ∨ p = 0)) ∨ ∃ u, Par (qds qr) u s ∧ Abv (dps dr) (wB sr.1) (T.getD u []) p)
structure FullRow (dr : List (Str × Int)) (qr : List Sr) (D T : List (List Nat)) (s : Nat) (row : List Nat) : Prop where
  up : row.Pairwise (· < ·)
  mem : ∀ p, p ∈ row ↔ GoodF dr qr D T s p
theorem GoodF.congr {dr : List (Str × Int)} {qr : List Sr} {D T T' : List (List Nat)} {s p : Nat} (h : ∀ l, l < s → T.getD l [] = T'.getD l []) : GoodF dr qr D T s p → GoodF dr qr D T' s p := by
  rintro ⟨a, sr, b, c⟩
  refine ⟨a, sr, b, c.imp id ?_⟩
  rintro ⟨u, hp, hq⟩
  exact ⟨u, hp, by rw [← h u hp.1.1]; exact hq⟩
theorem FullRow.congr {dr : List (Str × Int)} {qr : List Sr} {D T T' : List (List Nat)} {s : Nat} {row : List Nat} (h : ∀ l, l < s → T.getD l [] = T'.getD l []) (d : FullRow dr qr D T s row) : FullRow dr qr D T' s row :=
  ⟨d.up, fun p => (d.mem p).trans ⟨GoodF.congr h, GoodF.congr fun l hl => (h l hl).symm⟩⟩
theorem FullRow.only {dr : List (Str × Int)} {qr : List Sr} {D T : List (List Nat)} {s : Nat} {row row' : List Nat} (d : FullRow dr qr D T s row) (e : FullRow dr qr D T s row') : row = row' := up_only d.up e.up fun n => (d.mem n).trans (e.mem n).symm
def FullT (dr : List (Str × Int)) (qr : List Sr) (D : List (List Nat)) (T : List (List Nat)) : Prop := ∀ s row, T[s]? = some row → FullRow dr qr D T s row
theorem getD_app {T : List (List Nat)} {l : Nat} {row : List Nat} (h : l < T.length) : (T ++ [row]).getD l [] = T.getD l [] := by
  rw [List.getD_eq_getElem?_getD, List.getD_eq_getElem?_getD, List.getElem?_append_left h]
theorem FullT.snoc {dr : List (Str × Int)} {qr : List Sr} {D T : List (List Nat)} {row : List Nat} (d : FullT dr qr D T) (h : FullRow dr qr D T T.length row) : FullT dr qr D (T ++ [row]) := by
  intro s r hr
  by_cases c : s < T.length
  · rw [List.getElem?_append_left c] at hr
    exact (d s r hr).congr fun l hl => (getD_app (by omega)).symm
  · have hs : s = T.length := by
      have := (List.getElem?_eq_some_iff.mp hr).1
      rw [List.length_append, List.length_singleton] at this
      omega
    subst hs
    rw [List.getElem?_append_right (Nat.le_refl _), Nat.sub_self] at hr
    cases hr
    exact h.congr fun l hl => (getD_app (by omega)).symm
theorem FullT.only {dr : List (Str × Int)} {qr : List Sr} {D T T' : List (List Nat)} (d : FullT dr qr D T) (e : FullT dr qr D T') (hl : T.length = T'.length) : T = T' := by
  have key : ∀ s, ∀ l, l < s → T.getD l [] = T'.getD l [] := by
    intro s
    induction s with
    | zero => intro l hl; omega
    | succ s ih =>
      intro l hls
      by_cases c : l < s
      · exact ih l c
      · have : l = s := by omega
        subst this
        by_cases h : l < T.length
        · have h2 : l < T'.length := by omega
          rw [List.getD_eq_getElem?_getD, List.getD_eq_getElem?_getD, List.getElem?_eq_getElem h, List.getElem?_eq_getElem h2]
          exact ((d l _ (List.getElem?_eq_getElem h)).congr ih).only (e l _ (List.getElem?_eq_getElem h2))
        · rw [List.getD_eq_getElem?_getD, List.getD_eq_getElem?_getD, List.getElem?_eq_none (by omega), List.getElem?_eq_none (by omega)]
  refine List.ext_getElem? fun i => ?_
  by_cases h : i < T.length
  · have h2 : i < T'.length := by omega
    have := key (i + 1) i (by omega)
    rw [List.getD_eq_getElem?_getD, List.getD_eq_getElem?_getD, List.getElem?_eq_getElem h, List.getElem?_eq_getElem h2] at this
    rw [List.getElem?_eq_getElem h, List.getElem?_eq_getElem h2]
    exact congrArg some this
  · rw [List.getElem?_eq_none (by omega), List.getElem?_eq_none (by omega)]
def TabF (H0 H : Hp) (vs : List V) (T : List (List Nat)) : Prop := Paired (fun v row => ∃ a, v = .ref a ∧ H0 a = none ∧ H a = some (.lst (row.map vN))) vs T
theorem TabF.same {H0 H H' : Hp} {vs : List V} {T : List (List Nat)} (h : TabF H0 H vs T) (s : Same H H') : TabF H0 H' vs T := h.imp fun _ _ ⟨a, e, n, q⟩ => ⟨a, e, n, s _ _ q⟩
theorem TabF.upd {H0 H : Hp} {vs : List V} {T : List (List Nat)} {t : Addr} {o u : HO} (h : TabF H0 H vs T) (ht : H0 t = some o) : TabF H0 (L2.upd H t u) vs T := h.imp fun _ _ ⟨a, e, n, q⟩ => ⟨a, e, n, by
  rw [upd_ne (fun z => by rw [z, ht] at n; cases n)]
  exact q⟩
theorem TabF.back {H0 H1 H : Hp} {vs : List V} {T : List (List Nat)} (h : TabF H1 H vs T) (s : Same H0 H1) : TabF H0 H vs T := h.imp fun _ _ ⟨a, e, n, q⟩ => ⟨a, e, s.free n, q⟩
theorem DownT.row {dr : List (Str × Int)} {qr : List Sr} {D : List (List Nat)} (hD : DownT dr qr 0 D) {s : Nat} (hs : s < qr.length) : ∃ row, D[s]? = some row ∧ D.getD s [] = row ∧ DownRow dr qr D s row := by
  have h : s < D.length := by rw [hD.len]; exact hs
  refine ⟨D[s], List.getElem?_eq_getElem h, ?_, hD.at_ s _ (Nat.zero_le _) (List.getElem?_eq_getElem h)⟩
  rw [List.getD_eq_getElem?_getD, List.getElem?_eq_getElem h]
  rfl
theorem DownT.lt {dr : List (Str × Int)} {qr : List Sr} {D : List (List Nat)} (hD : DownT dr qr 0 D) {s p : Nat} (h : p ∈ D.getD s []) : p < dr.length := by
  by_cases c : s < qr.length
  · obtain ⟨row, _, e, d⟩ := hD.row c
    rw [e] at h
    exact d.lt h
  · rw [List.getD_eq_getElem?_getD, List.getElem?_eq_none (by rw [hD.len]; omega)] at h
    simp at h
theorem FullRow.lt {dr : List (Str × Int)} {qr : List Sr} {D T : List (List Nat)} {s : Nat} {row : List Nat} (hD : DownT dr qr 0 D) (h : FullRow dr qr D T s row) {p : Nat} (hp : p ∈ row) : p < dr.length := hD.lt ((h.mem p).mp hp).1
end Bg

namespace Bg
open PySem PySem.Spec PyProof.Rows L2
def wldD (p s : Addr) (g : Int) : List (Key × V) := [(Sum.inr "parts", .ref p), (Sum.inr "steps", .ref s), (Sum.inr "wanted", .int g)]
structure WldIn (K : PySem.W.Frag) (H : Hp) (p : Addr) (dr : List (Str × Int)) (qr : List Sr) (g : Nat) (pa sa : Addr) (pv sv : List V) : Prop where
  ob : H p = some (.dK (wldD pa sa g))
  pa_ : H pa = some (.lst pv)
  sa_ : H sa = some (.lst sv)
  pp : PL K H eRow pv dr
  ps : PL K H eStep sv qr
  dok : DocOk dr
  qok : QuOk qr g
theorem WldIn.same {K : PySem.W.Frag} {H H' : Hp} {p : Addr} {dr : List (Str × Int)} {qr : List Sr} {g : Nat} {pa sa : Addr} {pv sv : List V} (h : WldIn K H p dr qr g pa sa pv sv) (s : Same H H') : WldIn K H' p dr qr g pa sa pv sv := ⟨s _ _ h.ob, s _ _ h.pa_, s _ _ h.sa_, h.pp.same s, h.ps.same s, h.dok, h.qok⟩
def bnD (d1 d2 : Addr) : List (Key × V) := [(Sum.inr "/", .ref d1), (Sum.inr "//", .ref d2)]
theorem w_12 : ¬ (("/" : Str) = "//") := by decide +kernel
theorem bn_get {H : Hp} {b d1 d2 : Addr} (h : H b = some (.dK (bnD d1 d2))) {w : Str} (hw : w = "/" ∨ w = "//") : DGet H b (.str w) (some (.ref (if wB w = true then d2 else d1))) := by
  rcases hw with rfl | rfl
  · have := DGet.k (k := Sum.inr "/") h
    rw [show valV (bnD d1 d2) (Sum.inr "/") = some (.ref d1) from valV_pos rfl] at this
    exact this
  · have := DGet.k (k := Sum.inr "//") h
    have e1 := kne w_12
    rw [show valV (bnD d1 d2) (Sum.inr "//") = some (.ref d2) by simp [valV, bnD, e1]] at this
    exact this
structure LEnv (K : PySem.W.Frag) (H : Hp) (pa sa b ua : Addr) (pv sv : List V) (dr : List (Str × Int)) (qr : List Sr) (g : Nat) (d1 d2 : Addr) (kv1 kv2 : List (List Key × V)) (us : List (Option Int)) : Prop where
  hpa : SqL K H pa pv
  pp : PL K H eRow pv dr
  dok : DocOk dr
  hsa : SqL K H sa sv
  ps : PL K H eStep sv qr
  qok : QuOk qr g
  hb : H b = some (.dK (bnD d1 d2))
  h1 : H d1 = some (.dT kv1)
  p1 : Prs (dps dr) false dr.length kv1
  h2 : H d2 = some (.dT kv2)
  p2 : Prs (dps dr) true dr.length kv2
  hu : H ua = some (.lst (us.map vOpt))
  uo : UpOk (qds qr) us
section
variable {K : PySem.W.Frag} {H H' : Hp} {pa sa b ua : Addr} {pv sv : List V} {dr : List (Str × Int)} {qr : List Sr} {g : Nat} {d1 d2 : Addr} {kv1 kv2 : List (List Key × V)} {us : List (Option Int)}
theorem LEnv.same (h : LEnv K H pa sa b ua pv sv dr qr g d1 d2 kv1 kv2 us) (s : Same H H') : LEnv K H' pa sa b ua pv sv dr qr g d1 d2 kv1 kv2 us :=
  ⟨s.seq h.hpa, h.pp.same s, h.dok, s.seq h.hsa, h.ps.same s, h.qok, s _ _ h.hb, s _ _ h.h1, h.p1, s _ _ h.h2, h.p2, s _ _ h.hu, h.uo⟩
theorem LEnv.way (h : LEnv K H pa sa b ua pv sv dr qr g d1 d2 kv1 kv2 us) {w : Str} (hw : w = "/" ∨ w = "//") : ∃ d kv, DGet H b (.str w) (some (.ref d)) ∧ H d = some (.dT kv) ∧ ∀ p q : Nat, q < dr.length → (has2 kv p q ↔ Bn (dps dr) (wB w) p q) := by
  have key : ∀ {x : Bool} {kv : List (List Key × V)}, Prs (dps dr) x dr.length kv → ∀ p q : Nat, q < dr.length → (has2 kv p q ↔ Bn (dps dr) x p q) := fun hp p q hq => by
    rw [hp]
    constructor
    · rintro ⟨a, b, e1, e2, _, hb⟩
      have e1 : p = a := by omega
      have e2 : q = b := by omega
      rw [e1, e2]
      exact hb
    · intro hb
      exact ⟨p, q, rfl, rfl, hq, hb⟩
  cases e : wB w with
  | true => exact ⟨d2, kv2, by have := bn_get h.hb hw; rw [e] at this; exact this, h.h2, key h.p2⟩
  | false => exact ⟨d1, kv1, by have := bn_get h.hb hw; rw [e] at this; exact this, h.h1, key h.p1⟩
theorem LEnv.row (h : LEnv K H pa sa b ua pv sv dr qr g d1 d2 kv1 kv2 us) {p : Nat} (hp : p < dr.length) : ∃ t, atI pv (p : Int) = some (.ref t) ∧ SqT K H t [.str dr[p].1, .int dr[p].2] := by
  obtain ⟨v, hv, dv⟩ := h.pp.get' (List.getElem?_eq_getElem hp)
  obtain ⟨t, rfl, ht⟩ := dp_row dv
  exact ⟨t, atI_nat hv, ht⟩
theorem LEnv.up (h : LEnv K H pa sa b ua pv sv dr qr g d1 d2 kv1 kv2 us) {l : Nat} (hl : l < qr.length) : ∃ o, atI (us.map vOpt) (l : Int) = some (vOpt o) ∧ UpAt (qds qr) l o := by
  have hlt : l < us.length := by rw [h.uo.len, qds_len]; exact hl
  exact ⟨us[l], atI_nat (by rw [List.getElem?_map, List.getElem?_eq_getElem hlt]; rfl), h.uo.at_ l _ (List.getElem?_eq_getElem hlt)⟩
end
theorem TabF.row {H0 H : Hp} {vs : List V} {T : List (List Nat)} {s : Nat} {a : Addr} {row : List Nat} (h : TabF H0 H vs T) (nd : vs.Nodup) (ha : vs[s]? = some (.ref a)) : TabF H0 (L2.upd H a (.lst (row.map vN))) vs (T.set s row) := by
  have hlen : vs.length = T.length := Paired.length h
  refine Paired.of_get (by rw [List.length_set]; exact hlen) fun i v r hv hr => ?_
  by_cases c : s = i
  · subst c
    rw [ha] at hv
    cases hv
    have hs : s < T.length := by rw [← hlen]; exact (List.getElem?_eq_some_iff.mp ha).1
    rw [List.getElem?_set_self hs] at hr
    cases hr
    obtain ⟨r', _, b, e, n, _⟩ := Paired.get h ha
    cases e
    exact ⟨a, rfl, n, upd_same⟩
  · rw [List.getElem?_set_ne c] at hr
    obtain ⟨r', hr', b, e, n, q⟩ := Paired.get h hv
    rw [hr] at hr'
    cases hr'
    subst e
    refine ⟨b, rfl, n, ?_⟩
    rw [upd_ne (fun z => c ?_)]
    · exact q
    · subst z
      obtain ⟨h1, e1⟩ := List.getElem?_eq_some_iff.mp ha
      obtain ⟨h2, e2⟩ := List.getElem?_eq_some_iff.mp hv
      have np := List.pairwise_iff_getElem.mp nd
      rcases Nat.lt_trichotomy s i with x | x | x
      · exact absurd (e1.trans e2.symm) (np s i h1 h2 x)
      · exact x
      · exact absurd (e2.trans e1.symm) (np i s h2 h1 x)
end Bg

namespace Bg
open PySem PySem.Spec PyProof.Rows L2
def Likes (r1 : List Sr) (g1 : Nat) (r2 : List Sr) (g2 s im : Nat) : Prop := (∃ a b : Sr, r1[s]? = some a ∧ r2[im]? = some b ∧ a.2.1 = b.2.1) ∧ (s = g1 → im = g2)
def GoesT (r1 r2 : List Sr) (s im : Nat) : Option Nat → Prop
  | none => ∃ a : Sr, r1[s]? = some a ∧ (a.1 ≠ ("/" : Str) ∨ (im = 0 ∧ ∃ b : Sr, r2[0]? = some b ∧ b.1 = ("/" : Str)))
  | some u => ∃ a : Sr, r1[s]? = some a ∧ ((a.1 = ("/" : Str) ∧ Par (qds r2) u im ∧ ∃ b : Sr, r2[im]? = some b ∧ b.1 = ("/" : Str)) ∨ (a.1 ≠ ("/" : Str) ∧ An (qds r2) u im))
theorem StepAt.lab {K : PySem.W.Frag} {H : Hp} {p : Addr} {w z : Str} (st : StepAt K H p w z) (c1 : Cls K (He.ga K "Straight")) (n1 : NoAttr K (He.ga K "Straight") "label") (c2 : Cls K (He.ga K "Anywhere")) (n2 : NoAttr K (He.ga K "Anywhere") "label") : ∃ C dx, H p = some (.ins C dx (stF z)) ∧ Cls K C ∧ NoAttr K C "label" := by
  obtain ⟨dx, ⟨e, h⟩ | ⟨e, h⟩⟩ := st
  · exact ⟨_, dx, h, c1, n1⟩
  · exact ⟨_, dx, h, c2, n2⟩
def StepOk (r1 : List Sr) (g1 : Nat) (r2 : List Sr) (g2 : Nat) (im : List Nat) (s : Nat) : Prop := ∀ x, im[s]? = some x → Likes r1 g1 r2 g2 s x ∧ ((∀ u, ¬ An (qds r1) u s) → GoesT r1 r2 s x none) ∧ ∀ u y, Par (qds r1) u s → im[u]? = some y → GoesT r1 r2 s x (some y)
theorem Knd.only {K : PySem.W.Frag} {H : Hp} {i : Int} {t t' : String} (h : Knd K H (.int i) t) (h' : Knd K H (.int i) t') : t = "int" := by
  obtain ⟨h, _⟩ := h
  generalize ht : Value.type t = tv at h
  cases h with
  | base b =>
    cases b with
    | int x => injection ht
end Bg
namespace Bg
open PySem PySem.Spec PyProof.Rows L2
structure QT (K : PySem.W.Frag) (H : Hp) (t : Addr) (rows : List Sr) (g : Nat) (l : Addr) (vs : List V) : Prop where
  tp : SqT K H t [.ref l, .int (g : Int)]
  ls : H l = some (.lst vs)
  pl : PL K H eStep vs rows
  ok : QuOk rows g
theorem QT.same {K : PySem.W.Frag} {H H' : Hp} {t : Addr} {rows : List Sr} {g : Nat} {l : Addr} {vs : List V} (h : QT K H t rows g l vs) (s : Same H H') : QT K H' t rows g l vs := ⟨s.tup h.tp, s _ _ h.ls, h.pl.same s, h.ok⟩
theorem QT.src {K : PySem.W.Frag} {H H' : Hp} {a t : Addr} {rows : List Sr} {g : Nat} {l : Addr} {vs : List V} (h : QT K H t rows g l vs) (b : But a H H') (S : Src H a) : QT K H' t rows g l vs := by
  obtain ⟨x, y, z, hS⟩ := S
  exact ⟨(TK.butD b hS).sq h.tp, b _ _ (ne_of h.ls hS (fun z => nomatch z)) h.ls, h.pl.tk (TK.butD b hS) flat_step, h.ok⟩
end Bg
namespace Bg
open PySem PySem.Spec PyProof.Rows L2
theorem QT.row {K : PySem.W.Frag} {H : Hp} {t : Addr} {rows : List Sr} {g : Nat} {l : Addr} {vs : List V} (h : QT K H t rows g l vs) {p : Nat} (hp : p < rows.length) : ∃ t', atI vs (p : Int) = some (.ref t') ∧ SqT K H t' [.str rows[p].1, .str rows[p].2.1, .int rows[p].2.2] := by
  obtain ⟨v, hv, dv⟩ := h.pl.get' (List.getElem?_eq_getElem hp)
  obtain ⟨t, rfl, ht⟩ := dp_step dv
  exact ⟨t, atI_nat hv, ht⟩
end Bg
namespace Bg
open PySem PySem.Spec PyProof.Rows L2
end Bg

namespace Va
open PySem PySem.Spec PyProof.Rows L2 Bg
inductive D where
  | non | bl (b : Bool) | int (i : Int) | str (z : Str)
  | lst (xs : List D) | tup (xs : List D) | dct (kvs : List (Key × D)) | dcp (kvs : List (List Key × D)) | obj (C : Str) (fs : List (Str × D)) | glo (n : Str) | exc (C : Str) (fl : D)
structure Exn where
  cls : Str
  fld : D
def M (α : Type) : Type := (α → Prop) → (Exn → Prop) → Prop
instance : Monad M where
  pure a := fun P _ => P a
  bind m f := fun P E => m (fun a => f a P E) E
theorem pure_ap {α : Type} (a : α) (P : α → Prop) (E : Exn → Prop) : (pure a : M α) P E = P a := rfl
theorem bind_ap {α β : Type} (m : M α) (f : α → M β) (P : β → Prop) (E : Exn → Prop) : (m >>= f) P E = m (fun a => f a P E) E := rfl
theorem pure_bd {α β : Type} (a : α) (f : α → M β) : (pure a >>= f) = f a := rfl
theorem bind_bd {α β γ : Type} (m : M α) (f : α → M β) (g : β → M γ) : ((m >>= f) >>= g) = (m >>= fun a => f a >>= g) := rfl
def need (c : Prop) : M Unit := fun P _ => c ∧ P ()
def noX {α : Type} (w : M α) : M α := fun P _ => w P fun _ => False
theorem noX_ap {α : Type} (w : M α) (P : α → Prop) (E : Exn → Prop) : noX w P E = w P fun _ => False := rfl
abbrev AP := Addr → Prop
def No : AP := fun _ => False
def Pl (O : AP) (p : Addr) : AP := fun b => O b ∨ b = p
def isSrc : HO → Prop
  | .dK kvs => ∃ n s t : Int, kvs = srcD n s t
  | _ => False
structure Ext (A : AP) (H H' : Hp) : Prop where
  keep : ∀ b o, ¬ A b → ¬ isSrc o → H b = some o → H' b = some o
  src : ∀ b, Src H b → Src H' b
  dom : ∀ b, H b ≠ none → H' b ≠ none
theorem up_dom {H : Hp} {p : Addr} {o' : HO} : ∀ b, H b ≠ none → upd H p o' b ≠ none := fun b h => by
  by_cases c : b = p
  · rw [c, upd_same]; exact fun z => nomatch z
  · rw [upd_ne c]; exact h
theorem Ext.refl (A : AP) (H : Hp) : Ext A H H := ⟨fun _ _ _ _ h => h, fun _ h => h, fun _ h => h⟩
theorem Ext.trans {A : AP} {H H1 H2 : Hp} (x : Ext A H H1) (y : Ext A H1 H2) : Ext A H H2 := ⟨fun b o n s h => y.keep b o n s (x.keep b o n s h), fun b h => y.src b (x.src b h), fun b h => y.dom b (x.dom b h)⟩
theorem Ext.wk {A A' : AP} {H H1 : Hp} (x : Ext A H H1) (h : ∀ b, A b → A' b) : Ext A' H H1 := ⟨fun b o n s q => x.keep b o (fun z => n (h b z)) s q, x.src, x.dom⟩
theorem Ext.no {A : AP} {H H1 : Hp} (x : Ext No H H1) : Ext A H H1 := x.wk fun _ z => z.elim
theorem Ext.of_same {A : AP} {H H1 : Hp} (x : Same H H1) : Ext A H H1 := ⟨fun b o _ _ h => x b o h, fun b ⟨n, s, t, h⟩ => ⟨n, s, t, x _ _ h⟩, fun b h => by
  cases q : H b with
  | none => exact absurd q h
  | some o => rw [x b o q]; exact fun z => nomatch z⟩
theorem Ext.new {A : AP} {H : Hp} {p : Addr} {o : HO} (h : H p = none) : Ext A H (upd H p o) := .of_same (L2.Same.new h)
theorem Ext.some {A : AP} {H H' : Hp} (x : Ext A H H') {b : Addr} (n : ¬ A b) (h : H b ≠ none) : H' b ≠ none := by
  intro z
  cases q : H b with
  | none => exact h q
  | some o =>
    by_cases s : isSrc o
    · cases o with
      | dK kvs =>
        obtain ⟨n', s', t', e⟩ := s
        subst e
        obtain ⟨_, _, _, e⟩ := x.src b ⟨n', s', t', q⟩
        rw [z] at e
        cases e
      | _ => exact s.elim
    · rw [x.keep b o n s q] at z
      cases z
theorem Ext.free {A : AP} {H H' : Hp} (x : Ext A H H') {b : Addr} (n : ¬ A b) (h : H' b = none) : H b = none := by
  cases q : H b with
  | none => rfl
  | some o => exact absurd h (x.some n (by rw [q]; exact fun z => nomatch z))
theorem Ext.rd {A : AP} {H H' : Hp} (x : Ext A H H') {b : Addr} {u : HO} (n : ¬ A b) (s : ¬ isSrc u) (h : Rd H b u) : Rd H' b u := by
  rcases h with h | ⟨o, h⟩
  · exact .inl (x.keep b _ n s h)
  · exact .inr ⟨o, x.keep b _ n (fun z => z) h⟩
mutual
inductive Rep (K : PySem.W.Frag) (O : AP) (H : Hp) : V → D → Prop
  | non : Rep K O H .non .non
  | bl (b : Bool) : Rep K O H (.bl b) (.bl b)
  | int (i : Int) : Rep K O H (.int i) (.int i)
  | str (z : Str) : Rep K O H (.str z) (.str z)
  | lst {a : Addr} {vs : List V} {ds : List D} : ¬ O a → H a = some (.lst vs) → RepL K O H vs ds → Rep K O H (.ref a) (.lst ds)
  | tup {a : Addr} {vs : List V} {ds : List D} : ¬ O a → H a = some (.tup vs) → RepL K O H vs ds → Rep K O H (.ref a) (.tup ds)
  | dct {a : Addr} {kvs : List (Key × V)} {es : List (Key × D)} : ¬ O a → Rd H a (.dK kvs) → ¬ isSrc (.dK kvs) → kvs.map (·.1) = es.map (·.1) → RepL K O H (kvs.map (·.2)) (es.map (·.2)) → Rep K O H (.ref a) (.dct es)
  | dcp {a : Addr} {kvs : List (List Key × V)} {es : List (List Key × D)} : ¬ O a → Rd H a (.dT kvs) → kvs.map (·.1) = es.map (·.1) → RepL K O H (kvs.map (·.2)) (es.map (·.2)) → Rep K O H (.ref a) (.dcp es)
  | obj {a dx : Addr} {C : Str} {fs : List (Str × V)} {gs : List (Str × D)} : ¬ O a → H a = some (.ins (He.ga K C) dx fs) → fs.map (·.1) = gs.map (·.1) → RepL K O H (fs.map (·.2)) (gs.map (·.2)) → Rep K O H (.ref a) (.obj C gs)
  | glo (n : Str) : Rep K O H (.ref (He.ga K n)) (.glo n)
  | exc {a dx : Addr} {C : Str} {v : V} {d : D} : ¬ O a → H a = some (L2.exo a (He.ga K C) (some dx)) → ¬ O dx → H dx = some (L2.exd dx [(exField C, v)]) → Rep K O H v d → Rep K O H (.ref a) (.exc C d)
inductive RepL (K : PySem.W.Frag) (O : AP) (H : Hp) : List V → List D → Prop
  | nil : RepL K O H [] []
  | cons {v : V} {vs : List V} {d : D} {ds : List D} : Rep K O H v d → RepL K O H vs ds → RepL K O H (v :: vs) (d :: ds)
end
theorem ns_lst {xs : List V} : ¬ isSrc (.lst xs) := fun z => z
theorem ns_tup {xs : List V} : ¬ isSrc (.tup xs) := fun z => z
theorem ns_ins {C dx : Addr} {fs : List (Str × V)} : ¬ isSrc (.ins C dx fs) := fun z => z
theorem ns_exo {a C : Addr} {d : Option Addr} : ¬ isSrc (L2.exo a C d) := fun z => z
theorem ns_exd {a : Addr} {fs : List (Str × V)} : ¬ isSrc (L2.exd a fs) := fun z => z
theorem ns_frz {o : Obj} {u : HO} : ¬ isSrc (.frz o u) := fun z => z
theorem ns_dT {kvs : List (List Key × V)} : ¬ isSrc (.dT kvs) := fun z => z
theorem rd_tr {O O' : AP} {H H' : Hp} {a : Addr} {u : HO} (hr : ∀ b u, ¬ O b → ¬ isSrc u → H b = some u → H' b = some u ∧ ¬ O' b) (n : ¬ O a) (s : ¬ isSrc u) (h : Rd H a u) : ¬ O' a ∧ Rd H' a u :=
  h.elim (fun h => ⟨(hr _ _ n s h).2, .inl (hr _ _ n s h).1⟩) fun ⟨o, h⟩ => ⟨(hr _ _ n ns_frz h).2, .inr ⟨o, (hr _ _ n ns_frz h).1⟩⟩
section
variable {K : PySem.W.Frag} {O O' A : AP} {H H' : Hp}
mutual
theorem Rep.tr (hr : ∀ b u, ¬ O b → ¬ isSrc u → H b = some u → H' b = some u ∧ ¬ O' b) : ∀ {d : D} {v : V}, Rep K O H v d → Rep K O' H' v d
  | _, _, .non => .non
  | _, _, .bl b => .bl b
  | _, _, .int i => .int i
  | _, _, .str z => .str z
  | _, _, .lst n h r => .lst (hr _ _ n ns_lst h).2 (hr _ _ n ns_lst h).1 (RepL.tr hr r)
  | _, _, .tup n h r => .tup (hr _ _ n ns_tup h).2 (hr _ _ n ns_tup h).1 (RepL.tr hr r)
  | _, _, .dct n h s e r => .dct (rd_tr hr n s h).1 (rd_tr hr n s h).2 s e (RepL.tr hr r)
  | _, _, .dcp n h e r => .dcp (rd_tr hr n ns_dT h).1 (rd_tr hr n ns_dT h).2 e (RepL.tr hr r)
  | _, _, .obj n h e r => .obj (hr _ _ n ns_ins h).2 (hr _ _ n ns_ins h).1 e (RepL.tr hr r)
  | _, _, .glo n => .glo n
  | _, _, .exc n h m g r => .exc (hr _ _ n ns_exo h).2 (hr _ _ n ns_exo h).1 (hr _ _ m ns_exd g).2 (hr _ _ m ns_exd g).1 (Rep.tr hr r)
theorem RepL.tr (hr : ∀ b u, ¬ O b → ¬ isSrc u → H b = some u → H' b = some u ∧ ¬ O' b) : ∀ {ds : List D} {vs : List V}, RepL K O H vs ds → RepL K O' H' vs ds
  | _, _, .nil => .nil
  | _, _, .cons r t => .cons (Rep.tr hr r) (RepL.tr hr t)
end
theorem rep_tr1 (x : Ext A H H') (h : ∀ b, A b → O b) : ∀ b u, ¬ O b → ¬ isSrc u → H b = some u → H' b = some u ∧ ¬ O b := fun b u n s q => ⟨x.keep b _ (fun z => n (h b z)) s q, n⟩
theorem Rep.ext {v : V} {d : D} (r : Rep K O H v d) (x : Ext A H H') (h : ∀ b, A b → O b) : Rep K O H' v d := r.tr (rep_tr1 x h)
theorem RepL.ext {v : List V} {d : List D} (r : RepL K O H v d) (x : Ext A H H') (h : ∀ b, A b → O b) : RepL K O H' v d := r.tr (rep_tr1 x h)
theorem Rep.ex {v : V} {d : D} (r : Rep K O H v d) (x : Ext No H H') : Rep K O H' v d := r.ext x fun _ z => z.elim
theorem RepL.ex {v : List V} {d : List D} (r : RepL K O H v d) (x : Ext No H H') : RepL K O H' v d := r.ext x fun _ z => z.elim
theorem Rep.mono {v : V} {d : D} (r : Rep K O H v d) (h : ∀ b, O' b → O b) : Rep K O' H v d := r.tr fun b _ n _ q => ⟨q, fun z => n (h b z)⟩
theorem RepL.mono {v : List V} {d : List D} (r : RepL K O H v d) (h : ∀ b, O' b → O b) : RepL K O' H v d := r.tr fun b _ n _ q => ⟨q, fun z => n (h b z)⟩
theorem Rep.wide {v : V} {d : D} (r : Rep K O H v d) (h : ∀ b, O' b → O b ∨ H b = none) : Rep K O' H v d := r.tr fun b _ n _ q => ⟨q, fun z => (h b z).elim n fun e => by rw [q] at e; cases e⟩
theorem RepL.wide {v : List V} {d : List D} (r : RepL K O H v d) (h : ∀ b, O' b → O b ∨ H b = none) : RepL K O' H v d := r.tr fun b _ n _ q => ⟨q, fun z => (h b z).elim n fun e => by rw [q] at e; cases e⟩
theorem pl_free {p : Addr} (h : H p = none) : ∀ b, Pl O p b → O b ∨ H b = none := fun b z => z.imp id fun (e : b = p) => e ▸ h
theorem Rep.fresh {v : V} {d : D} {p : Addr} (r : Rep K O H v d) (h : H p = none) : Rep K (Pl O p) H v d := r.wide (pl_free h)
theorem RepL.fresh {v : List V} {d : List D} {p : Addr} (r : RepL K O H v d) (h : H p = none) : RepL K (Pl O p) H v d := r.wide (pl_free h)
theorem RepL.length {vs : List V} {ds : List D} (r : RepL K O H vs ds) : vs.length = ds.length := by
  induction ds generalizing vs with
  | nil => cases r; rfl
  | cons d ds ih => cases r with | cons r t => rw [List.length_cons, List.length_cons, ih t]
theorem RepL.get {vs : List V} {ds : List D} (r : RepL K O H vs ds) {i : Nat} {d : D} (h : ds[i]? = some d) : ∃ v, vs[i]? = some v ∧ Rep K O H v d := by
  induction ds generalizing vs i with
  | nil => cases h
  | cons d' ds ih =>
    cases r with
    | cons r t =>
      cases i with
      | zero => cases h; exact ⟨_, rfl, r⟩
      | succ i => exact ih t h
theorem RepL.get' {vs : List V} {ds : List D} (r : RepL K O H vs ds) {i : Nat} {v : V} (h : vs[i]? = some v) : ∃ d, ds[i]? = some d ∧ Rep K O H v d := by
  have hl : i < ds.length := by
    rw [← r.length]
    exact (List.getElem?_eq_some_iff.mp h).1
  obtain ⟨v', e, q⟩ := r.get (List.getElem?_eq_getElem hl)
  rw [h] at e
  cases e
  exact ⟨_, List.getElem?_eq_getElem hl, q⟩
theorem RepL.app {vs ws : List V} {ds es : List D} (r : RepL K O H vs ds) (s : RepL K O H ws es) : RepL K O H (vs ++ ws) (ds ++ es) := by
  induction ds generalizing vs with
  | nil => cases r; exact s
  | cons d ds ih => cases r with | cons r t => exact .cons r (ih t)
theorem RepL.snoc {vs : List V} {ds : List D} {v : V} {d : D} (r : RepL K O H vs ds) (s : Rep K O H v d) : RepL K O H (vs ++ [v]) (ds ++ [d]) := r.app (.cons s .nil)
theorem RepL.take {vs : List V} {ds : List D} (n : Nat) (r : RepL K O H vs ds) : RepL K O H (vs.take n) (ds.take n) := by
  induction ds generalizing vs n with
  | nil => cases r; simp; exact .nil
  | cons d ds ih =>
    cases r with
    | cons r t =>
      cases n with
      | zero => exact .nil
      | succ n => exact .cons r (ih n t)
theorem RepL.drop {vs : List V} {ds : List D} (n : Nat) (r : RepL K O H vs ds) : RepL K O H (vs.drop n) (ds.drop n) := by
  induction ds generalizing vs n with
  | nil => cases r; simp; exact .nil
  | cons d ds ih =>
    cases r with
    | cons r t =>
      cases n with
      | zero => exact .cons r t
      | succ n => exact ih n t
theorem RepL.set {vs : List V} {ds : List D} {v : V} {d : D} (n : Nat) (r : RepL K O H vs ds) (s : Rep K O H v d) : RepL K O H (vs.set n v) (ds.set n d) := by
  induction ds generalizing vs n with
  | nil => cases r; exact .nil
  | cons d' ds ih =>
    cases r with
    | cons r t =>
      cases n with
      | zero => exact .cons s t
      | succ n => exact .cons r (ih n t)
end
inductive OT where
  | sh (d : D) | lst (xs : List OT) | tup (xs : List OT) | dct (kvs : List (Key × OT)) | dcp (kvs : List (List Key × OT)) | obj (C : Str) (fs : List (Str × OT))
mutual
inductive RepO (K : PySem.W.Frag) (O : AP) (H : Hp) : V → OT → List Addr → Prop
  | sh {v : V} {d : D} : Rep K O H v d → RepO K O H v (.sh d) []
  | lst {a : Addr} {vs : List V} {ts : List OT} {as : List Addr} : H a = some (.lst vs) → RepOL K O H vs ts as → RepO K O H (.ref a) (.lst ts) (a :: as)
  | tup {a : Addr} {vs : List V} {ts : List OT} {as : List Addr} : H a = some (.tup vs) → RepOL K O H vs ts as → RepO K O H (.ref a) (.tup ts) (a :: as)
  | dct {a : Addr} {kvs : List (Key × V)} {es : List (Key × OT)} {as : List Addr} : H a = some (.dK kvs) → ¬ isSrc (.dK kvs) → kvs.map (·.1) = es.map (·.1) → RepOL K O H (kvs.map (·.2)) (es.map (·.2)) as → RepO K O H (.ref a) (.dct es) (a :: as)
  | dcp {a : Addr} {kvs : List (List Key × V)} {es : List (List Key × OT)} {as : List Addr} : H a = some (.dT kvs) → kvs.map (·.1) = es.map (·.1) → RepOL K O H (kvs.map (·.2)) (es.map (·.2)) as → RepO K O H (.ref a) (.dcp es) (a :: as)
  | obj {a dx : Addr} {C : Str} {fs : List (Str × V)} {gs : List (Str × OT)} {as : List Addr} : H a = some (.ins (He.ga K C) dx fs) → fs.map (·.1) = gs.map (·.1) → RepOL K O H (fs.map (·.2)) (gs.map (·.2)) as → RepO K O H (.ref a) (.obj C gs) (a :: as)
inductive RepOL (K : PySem.W.Frag) (O : AP) (H : Hp) : List V → List OT → List Addr → Prop
  | nil : RepOL K O H [] [] []
  | cons {v : V} {vs : List V} {t : OT} {ts : List OT} {as bs : List Addr} : RepO K O H v t as → RepOL K O H vs ts bs → RepOL K O H (v :: vs) (t :: ts) (as ++ bs)
end
section
variable {K : PySem.W.Frag} {O O' A : AP} {H H' : Hp}
mutual
theorem RepO.tr (hr : ∀ b u, ¬ O b → ¬ isSrc u → H b = some u → H' b = some u ∧ ¬ O' b) : ∀ {t : OT} {v : V} {as : List Addr}, RepO K O H v t as → (∀ b ∈ as, ∀ u, ¬ isSrc u → H b = some u → H' b = some u) → RepO K O' H' v t as
  | _, _, _, .sh r, _ => .sh (r.tr hr)
  | _, _, _, .lst h r, k => .lst (k _ List.mem_cons_self _ ns_lst h) (RepOL.tr hr r fun b z => k b (List.mem_cons_of_mem _ z))
  | _, _, _, .tup h r, k => .tup (k _ List.mem_cons_self _ ns_tup h) (RepOL.tr hr r fun b z => k b (List.mem_cons_of_mem _ z))
  | _, _, _, .dct h s e r, k => .dct (k _ List.mem_cons_self _ s h) s e (RepOL.tr hr r fun b z => k b (List.mem_cons_of_mem _ z))
  | _, _, _, .dcp h e r, k => .dcp (k _ List.mem_cons_self _ ns_dT h) e (RepOL.tr hr r fun b z => k b (List.mem_cons_of_mem _ z))
  | _, _, _, .obj h e r, k => .obj (k _ List.mem_cons_self _ ns_ins h) e (RepOL.tr hr r fun b z => k b (List.mem_cons_of_mem _ z))
theorem RepOL.tr (hr : ∀ b u, ¬ O b → ¬ isSrc u → H b = some u → H' b = some u ∧ ¬ O' b) : ∀ {ts : List OT} {vs : List V} {as : List Addr}, RepOL K O H vs ts as → (∀ b ∈ as, ∀ u, ¬ isSrc u → H b = some u → H' b = some u) → RepOL K O' H' vs ts as
  | _, _, _, .nil, _ => .nil
  | _, _, _, .cons r t, k => .cons (RepO.tr hr r fun b z => k b (List.mem_append_left _ z)) (RepOL.tr hr t fun b z => k b (List.mem_append_right _ z))
end
mutual
theorem RepO.det : ∀ {t : OT} {v : V} {as bs : List Addr}, RepO K O H v t as → RepO K O' H v t bs → as = bs
  | _, _, _, _, .sh _, .sh _ => rfl
  | _, _, _, _, .lst h r, .lst h' r' => by
    rw [h] at h'; cases h'; rw [RepOL.det r r']
  | _, _, _, _, .tup h r, .tup h' r' => by
    rw [h] at h'; cases h'; rw [RepOL.det r r']
  | _, _, _, _, .dct h _ _ r, .dct h' _ _ r' => by
    rw [h] at h'; cases h'; rw [RepOL.det r r']
  | _, _, _, _, .dcp h _ r, .dcp h' _ r' => by
    rw [h] at h'; cases h'; rw [RepOL.det r r']
  | _, _, _, _, .obj h _ r, .obj h' _ r' => by
    rw [h] at h'; cases h'; rw [RepOL.det r r']
theorem RepOL.det : ∀ {ts : List OT} {vs : List V} {as bs : List Addr}, RepOL K O H vs ts as → RepOL K O' H vs ts bs → as = bs
  | _, _, _, _, .nil, .nil => rfl
  | _, _, _, _, .cons r t, .cons r' t' => by rw [RepO.det r r', RepOL.det t t']
end
mutual
theorem RepO.dom : ∀ {t : OT} {v : V} {as : List Addr}, RepO K O H v t as → ∀ b ∈ as, ∃ u, H b = some u ∧ ¬ isSrc u
  | _, _, _, .sh _, _, z => nomatch z
  | _, _, _, .lst h r, b, z => (List.mem_cons.mp z).elim (fun e => e ▸ ⟨_, h, ns_lst⟩) (RepOL.dom r b)
  | _, _, _, .tup h r, b, z => (List.mem_cons.mp z).elim (fun e => e ▸ ⟨_, h, ns_tup⟩) (RepOL.dom r b)
  | _, _, _, .dct h s _ r, b, z => (List.mem_cons.mp z).elim (fun e => e ▸ ⟨_, h, s⟩) (RepOL.dom r b)
  | _, _, _, .dcp h _ r, b, z => (List.mem_cons.mp z).elim (fun e => e ▸ ⟨_, h, ns_dT⟩) (RepOL.dom r b)
  | _, _, _, .obj h _ r, b, z => (List.mem_cons.mp z).elim (fun e => e ▸ ⟨_, h, ns_ins⟩) (RepOL.dom r b)
theorem RepOL.dom : ∀ {ts : List OT} {vs : List V} {as : List Addr}, RepOL K O H vs ts as → ∀ b ∈ as, ∃ u, H b = some u ∧ ¬ isSrc u
  | _, _, _, .nil, _, z => nomatch z
  | _, _, _, .cons r t, b, z => (List.mem_append.mp z).elim (RepO.dom r b) (RepOL.dom t b)
end
mutual
def OT.d : OT → D
  | .sh d => d
  | .lst ts => .lst (OT.ds ts)
  | .tup ts => .tup (OT.ds ts)
  | .dct es => .dct (OT.dk es)
  | .dcp es => .dcp (OT.dp es)
  | .obj C gs => .obj C (OT.df gs)
def OT.ds : List OT → List D
  | [] => []
  | t :: ts => t.d :: OT.ds ts
def OT.dk : List (Key × OT) → List (Key × D)
  | [] => []
  | (k, t) :: ts => (k, t.d) :: OT.dk ts
def OT.dp : List (List Key × OT) → List (List Key × D)
  | [] => []
  | (k, t) :: ts => (k, t.d) :: OT.dp ts
def OT.df : List (Str × OT) → List (Str × D)
  | [] => []
  | (k, t) :: ts => (k, t.d) :: OT.df ts
end
theorem OT.dk1 : ∀ (es : List (Key × OT)), (OT.dk es).map (·.1) = es.map (·.1)
  | [] => rfl
  | (k, t) :: es => by rw [OT.dk, List.map_cons, List.map_cons, OT.dk1 es]
theorem OT.dk2 : ∀ (es : List (Key × OT)), (OT.dk es).map (·.2) = OT.ds (es.map (·.2))
  | [] => rfl
  | (k, t) :: es => by rw [OT.dk, List.map_cons, List.map_cons, OT.dk2 es, OT.ds]
theorem OT.dp1 : ∀ (es : List (List Key × OT)), (OT.dp es).map (·.1) = es.map (·.1)
  | [] => rfl
  | (k, t) :: es => by rw [OT.dp, List.map_cons, List.map_cons, OT.dp1 es]
theorem OT.dp2 : ∀ (es : List (List Key × OT)), (OT.dp es).map (·.2) = OT.ds (es.map (·.2))
  | [] => rfl
  | (k, t) :: es => by rw [OT.dp, List.map_cons, List.map_cons, OT.dp2 es, OT.ds]
theorem OT.df1 : ∀ (es : List (Str × OT)), (OT.df es).map (·.1) = es.map (·.1)
  | [] => rfl
  | (k, t) :: es => by rw [OT.df, List.map_cons, List.map_cons, OT.df1 es]
theorem OT.df2 : ∀ (es : List (Str × OT)), (OT.df es).map (·.2) = OT.ds (es.map (·.2))
  | [] => rfl
  | (k, t) :: es => by rw [OT.df, List.map_cons, List.map_cons, OT.df2 es, OT.ds]
mutual
theorem RepO.frz (hO : ∀ b, O' b → O b) : ∀ {t : OT} {v : V} {as : List Addr}, RepO K O H v t as → (∀ b ∈ as, ¬ O' b) → Rep K O' H v t.d
  | _, _, _, .sh r, _ => r.mono hO
  | _, _, _, .lst h r, k => .lst (k _ List.mem_cons_self) h (RepOL.frz hO r fun b z => k b (List.mem_cons_of_mem _ z))
  | _, _, _, .tup h r, k => .tup (k _ List.mem_cons_self) h (RepOL.frz hO r fun b z => k b (List.mem_cons_of_mem _ z))
  | _, _, _, .dct h s e r, k => .dct (k _ List.mem_cons_self) (.inl h) s (by rw [OT.dk1]; exact e) (by rw [OT.dk2]; exact RepOL.frz hO r fun b z => k b (List.mem_cons_of_mem _ z))
  | _, _, _, .dcp h e r, k => .dcp (k _ List.mem_cons_self) (.inl h) (by rw [OT.dp1]; exact e) (by rw [OT.dp2]; exact RepOL.frz hO r fun b z => k b (List.mem_cons_of_mem _ z))
  | _, _, _, .obj h e r, k => .obj (k _ List.mem_cons_self) h (by rw [OT.df1]; exact e) (by rw [OT.df2]; exact RepOL.frz hO r fun b z => k b (List.mem_cons_of_mem _ z))
theorem RepOL.frz (hO : ∀ b, O' b → O b) : ∀ {ts : List OT} {vs : List V} {as : List Addr}, RepOL K O H vs ts as → (∀ b ∈ as, ¬ O' b) → RepL K O' H vs (OT.ds ts)
  | _, _, _, .nil, _ => .nil
  | _, _, _, .cons r t, k => .cons (RepO.frz hO r fun b z => k b (List.mem_append_left _ z)) (RepOL.frz hO t fun b z => k b (List.mem_append_right _ z))
end
end
def XOk (K : PySem.W.Frag) (O : AP) (H : Hp) (cls : Value) (d : Option Addr) (x : Exn) : Prop := cls = .ref (He.ga K x.cls) ∧ ∃ da v, d = some da ∧ ¬ O da ∧ H da = some (.xd [(exField x.cls, v)]) ∧ Rep K O H v x.fld
theorem ns_xd {fs : List (Str × V)} : ¬ isSrc (.xd fs) := fun z => z
theorem XOk.tr {K : PySem.W.Frag} {O O' : AP} {H H' : Hp} {cls : Value} {d : Option Addr} {x : Exn} (hr : ∀ b u, ¬ O b → ¬ isSrc u → H b = some u → H' b = some u ∧ ¬ O' b) (h : XOk K O H cls d x) : XOk K O' H' cls d x := by
  obtain ⟨e, da, v, ed, n, hd, r⟩ := h
  exact ⟨e, da, v, ed, (hr _ _ n ns_xd hd).2, (hr _ _ n ns_xd hd).1, r.tr hr⟩
theorem XOk.mono {K : PySem.W.Frag} {O O' : AP} {H : Hp} {cls : Value} {d : Option Addr} {x : Exn} (h : XOk K O H cls d x) (hO : ∀ b, O' b → O b) : XOk K O' H cls d x := h.tr fun b u n s e => ⟨e, fun z => n (hO b z)⟩
def Scr (K : PySem.W.Frag) (O : AP) (H : Hp) (a : Addr) (ns : List Int) : Prop := (¬ O a ∧ Rd H a (.lst (ns.map V.int))) ∨ ∀ H' : Hp, SqL K H' a (ns.map V.int)
theorem Scr.sq {K : PySem.W.Frag} {O : AP} {H : Hp} {a : Addr} {ns : List Int} (h : Scr K O H a ns) : SqL K H a (ns.map V.int) := h.elim (fun z => .inl z.2) fun z => z H
theorem Scr.ext {K : PySem.W.Frag} {O A : AP} {H H' : Hp} {a : Addr} {ns : List Int} (h : Scr K O H a ns) (e : Ext A H H') (hA : ∀ b, A b → O b) : Scr K O H' a ns := h.elim (fun z => .inl ⟨z.1, e.rd (fun q => z.1 (hA _ q)) ns_lst z.2⟩) .inr
theorem Scr.wide {K : PySem.W.Frag} {O O' : AP} {H : Hp} {a : Addr} {ns : List Int} (h : Scr K O H a ns) (hO : ∀ b, O' b → O b ∨ H b = none) : Scr K O' H a ns := h.elim (fun z => .inl ⟨fun q => (hO _ q).elim z.1 fun e => (by
  rcases z.2 with h | ⟨o, h⟩
  · rw [h] at e; cases e
  · rw [h] at e; cases e), z.2⟩) .inr
theorem Scr.of {K : PySem.W.Frag} {H : Hp} {a : Addr} {ns : List Int} (h : SqL K H a (ns.map V.int)) : Scr K No H a ns := h.elim (fun z => .inl ⟨fun q => q, z⟩) fun z => .inr fun _ => .inr z
inductive Sl where
  | no | sh (d : D) | ow (d : D) | od (t : OT) | src | scr (ns : List Int) | sq (ds : List D) | pin (v : V) | exc (a : Addr) (cls : Value) (d : Option Addr) (x : Exn) | mo (v : V) (t : OT)
structure Bs where
  F : Hp
  O : AP
  H : Hp
  A : AP
  P : AP
  S : Addr
  Q : AP
  qF : ∀ b, Q b → F b ≠ none
def SlOk (K : PySem.W.Frag) (B : Bs) (O : AP) (H : Hp) (x : Option (Option V)) : Sl → Prop
  | .no => True
  | .sh d => ∃ v, x = some (some v) ∧ Rep K O H v d
  | .ow (.lst ds) => ∃ p vs, x = some (some (.ref p)) ∧ O p ∧ B.F p = none ∧ (B.A p ∨ B.H p = none) ∧ H p = some (.lst vs) ∧ RepL K O H vs ds
  | .ow (.dct es) => ∃ p kvs, x = some (some (.ref p)) ∧ O p ∧ B.F p = none ∧ (B.A p ∨ B.H p = none) ∧ H p = some (.dK kvs) ∧ ¬ isSrc (.dK kvs) ∧ kvs.map (·.1) = es.map (·.1) ∧ RepL K O H (kvs.map (·.2)) (es.map (·.2))
  | .ow (.dcp es) => ∃ p kvs, x = some (some (.ref p)) ∧ O p ∧ B.F p = none ∧ (B.A p ∨ B.H p = none) ∧ H p = some (.dT kvs) ∧ kvs.map (·.1) = es.map (·.1) ∧ RepL K O H (kvs.map (·.2)) (es.map (·.2))
  | .ow (.obj C gs) => ∃ dx fs, x = some (some (.ref B.S)) ∧ O B.S ∧ B.F B.S = none ∧ (B.A B.S ∨ B.H B.S = none) ∧ H B.S = some (.ins (He.ga K C) dx fs) ∧ fs.map (·.1) = gs.map (·.1) ∧ RepL K O H (fs.map (·.2)) (gs.map (·.2))
  | .ow _ => False
  | .od t => ∃ v as, x = some (some v) ∧ RepO K O H v t as ∧ as.Nodup ∧ ∀ b ∈ as, O b ∧ B.F b = none ∧ (B.A b ∨ B.H b = none)
  | .src => ∃ a, x = some (some (.ref a)) ∧ O a ∧ Src H a
  | .scr ns => ∃ a, x = some (some (.ref a)) ∧ Scr K O H a ns
  | .sq ds => ∃ a vs, x = some (some (.ref a)) ∧ B.Q a ∧ H a = some (.lst vs) ∧ RepL K O H vs ds
  | .pin v => x = some (some v)
  | .exc a cls d ex => x = some (some (.ref a)) ∧ XOk K O H cls d ex
  | .mo v t => x = some (some v) ∧ ∃ as, RepO K O H v t as ∧ as.Nodup ∧ ∀ b ∈ as, O b ∧ B.F b = none ∧ (B.A b ∨ B.H b = none)
def Own (K : PySem.W.Frag) (H : Hp) (x : Option (Option V)) : Sl → List Addr → Prop
  | .ow _ => fun as => ∃ p, x = some (some (.ref p)) ∧ as = [p]
  | .od t => fun as => ∃ v O, x = some (some v) ∧ RepO K O H v t as
  | .mo v t => fun as => x = some (some v) ∧ ∃ O, RepO K O H v t as
  | _ => fun _ => False
structure En (K : PySem.W.Frag) (B : Bs) (O : AP) (H : Hp) (σ : L2.St) (ρ : List Sl) : Prop where
  sub : ∀ b, B.O b → O b
  bdom : ∀ b, B.O b → B.F b ≠ none
  osub : ∀ b, O b → B.P b ∨ B.H b = none
  dom : ∀ b, O b → H b ≠ none
  adom : ∀ b, B.A b → H b ≠ none
  fdom : ∀ b, B.F b ≠ none → H b ≠ none
  ext : Ext B.A B.H H
  len : σ.length = ρ.length
  at_ : ∀ (i : Nat) (s : Sl), ρ[i]? = some s → SlOk K B O H (σ[i]?) s
  inj : ∀ (i j : Nat) (s t : Sl) (as bs : List Addr) (b : Addr), ρ[i]? = some s → ρ[j]? = some t → Own K H (σ[i]?) s as → Own K H (σ[j]?) t bs → b ∈ as → b ∈ bs → i = j
section
variable {K : PySem.W.Frag} {B : Bs} {O O' : AP} {H H' : Hp} {σ : L2.St} {ρ : List Sl}
theorem Own.det {x : Option (Option V)} {s : Sl} {as bs : List Addr} (h : Own K H x s as) (g : Own K H x s bs) : as = bs := by
  cases s with
  | ow d => obtain ⟨p, e, rfl⟩ := h; obtain ⟨q, e', rfl⟩ := g; rw [e] at e'; cases e'; rfl
  | od t => obtain ⟨v, _, e, r⟩ := h; obtain ⟨w, _, e', r'⟩ := g; rw [e] at e'; cases e'; exact r.det r'
  | mo v t => obtain ⟨_, _, r⟩ := h; obtain ⟨_, _, r'⟩ := g; exact r.det r'
  | _ => exact h.elim
theorem SlOk.in_ {x : Option (Option V)} {s : Sl} {as : List Addr} (h : SlOk K B O H x s) (w : Own K H x s as) : ∀ b ∈ as, O b ∧ B.F b = none ∧ (B.A b ∨ B.H b = none) ∧ ∃ u, H b = some u ∧ ¬ isSrc u := by
  intro b hb
  cases s with
  | ow d =>
    obtain ⟨p, e, rfl⟩ := w
    cases List.mem_singleton.mp hb
    cases d with
    | lst ds => obtain ⟨q, vs, e1, o, f, a, hp, r⟩ := h; rw [e] at e1; cases e1; exact ⟨o, f, a, _, hp, ns_lst⟩
    | dct es => obtain ⟨q, vs, e1, o, f, a, hp, n, k, r⟩ := h; rw [e] at e1; cases e1; exact ⟨o, f, a, _, hp, n⟩
    | dcp es => obtain ⟨q, vs, e1, o, f, a, hp, k, r⟩ := h; rw [e] at e1; cases e1; exact ⟨o, f, a, _, hp, ns_dT⟩
    | obj C gs => obtain ⟨dx, vs, e1, o, f, a, hp, k, r⟩ := h; rw [e] at e1; cases e1; exact ⟨o, f, a, _, hp, ns_ins⟩
    | _ => exact h.elim
  | od t =>
    obtain ⟨v, as', e1, r, _, k⟩ := h
    obtain ⟨v', _, e2, r'⟩ := w
    rw [e1] at e2; cases e2
    cases r.det r'
    obtain ⟨o, f, a⟩ := k b hb
    exact ⟨o, f, a, r.dom b hb⟩
  | mo v t =>
    obtain ⟨_, as', r, _, k⟩ := h
    obtain ⟨_, _, r'⟩ := w
    cases r.det r'
    obtain ⟨o, f, a⟩ := k b hb
    exact ⟨o, f, a, r.dom b hb⟩
  | _ => exact w.elim
theorem SlOk.own {x : Option (Option V)} {d : D} (h : SlOk K B O H x (.ow d)) : ∃ p, x = some (some (.ref p)) ∧ Own K H x (.ow d) [p] := by
  cases d with
  | lst ds => obtain ⟨q, vs, e1, _⟩ := h; exact ⟨q, e1, q, e1, rfl⟩
  | dct es => obtain ⟨q, vs, e1, _⟩ := h; exact ⟨q, e1, q, e1, rfl⟩
  | dcp es => obtain ⟨q, vs, e1, _⟩ := h; exact ⟨q, e1, q, e1, rfl⟩
  | obj C gs => obtain ⟨dx, vs, e1, _⟩ := h; exact ⟨_, e1, _, e1, rfl⟩
  | _ => exact h.elim
theorem SlOk.tr {x : Option (Option V)} {s : Sl} (h : SlOk K B O H x s) (hr : ∀ b u, ¬ O b → ¬ isSrc u → H b = some u → H' b = some u ∧ ¬ O' b) (ho : ∀ as, Own K H x s as → ∀ b ∈ as, (∀ u, ¬ isSrc u → H b = some u → H' b = some u) ∧ O' b)
    (hs : ∀ a, O a → Src H a → O' a ∧ Src H' a) (hc : ∀ a ns, Scr K O H a ns → Scr K O' H' a ns) (hf : ∀ b u, B.Q b → ¬ isSrc u → H b = some u → H' b = some u) : SlOk K B O' H' x s := by
  cases s with
  | no => trivial
  | sh d => obtain ⟨v, e1, r⟩ := h; exact ⟨v, e1, r.tr hr⟩
  | src => obtain ⟨a, e1, o, s⟩ := h; exact ⟨a, e1, hs a o s⟩
  | scr ns => obtain ⟨a, e1, ha⟩ := h; exact ⟨a, e1, hc a ns ha⟩
  | sq ds => obtain ⟨a, vs, e1, q, ha, r⟩ := h; exact ⟨a, vs, e1, q, hf a _ q ns_lst ha, r.tr hr⟩
  | pin v => exact h
  | exc a cls d ex => exact ⟨h.1, h.2.tr hr⟩
  | od t =>
    obtain ⟨v, as, e1, r, nd, k⟩ := h
    have w := ho as ⟨v, O, e1, r⟩
    exact ⟨v, as, e1, r.tr hr fun b z => (w b z).1, nd, fun b z => ⟨(w b z).2, (k b z).2⟩⟩
  | mo v t =>
    obtain ⟨e1, as, r, nd, k⟩ := h
    have w := ho as ⟨e1, O, r⟩
    exact ⟨e1, as, r.tr hr fun b z => (w b z).1, nd, fun b z => ⟨(w b z).2, (k b z).2⟩⟩
  | ow d =>
    cases d with
    | lst ds => obtain ⟨p, vs, e1, o, f, a, hp, r⟩ := h; have w := ho _ ⟨p, e1, rfl⟩ p List.mem_cons_self; exact ⟨p, vs, e1, w.2, f, a, w.1 _ ns_lst hp, r.tr hr⟩
    | dct es => obtain ⟨p, vs, e1, o, f, a, hp, n, k, r⟩ := h; have w := ho _ ⟨p, e1, rfl⟩ p List.mem_cons_self; exact ⟨p, vs, e1, w.2, f, a, w.1 _ n hp, n, k, r.tr hr⟩
    | dcp es => obtain ⟨p, vs, e1, o, f, a, hp, k, r⟩ := h; have w := ho _ ⟨p, e1, rfl⟩ p List.mem_cons_self; exact ⟨p, vs, e1, w.2, f, a, w.1 _ ns_dT hp, k, r.tr hr⟩
    | obj C gs => obtain ⟨dx, vs, e1, o, f, a, hp, k, r⟩ := h; have w := ho _ ⟨_, e1, rfl⟩ _ List.mem_cons_self; exact ⟨dx, vs, e1, w.2, f, a, w.1 _ ns_ins hp, k, r.tr hr⟩
    | _ => exact h.elim
theorem SlOk.back {x : Option (Option V)} {s : Sl} {as : List Addr} (h : SlOk K B O H x s) (hr : ∀ b u, ¬ O b → ¬ isSrc u → H b = some u → H' b = some u ∧ ¬ O' b) (ho : ∀ as, Own K H x s as → ∀ b ∈ as, ∀ u, ¬ isSrc u → H b = some u → H' b = some u) (w : Own K H' x s as) : Own K H x s as := by
  cases s with
  | ow d => exact w
  | od t =>
    obtain ⟨v, as', e1, r, nd, k⟩ := h
    obtain ⟨v', O2, e2, r2⟩ := w
    rw [e1] at e2; cases e2
    have r' := r.tr hr (ho as' ⟨v, O, e1, r⟩)
    cases r'.det r2
    exact ⟨v, O, e1, r⟩
  | mo v t =>
    obtain ⟨e1, as', r, nd, k⟩ := h
    obtain ⟨e2, O2, r2⟩ := w
    have r' := r.tr hr (ho as' ⟨e1, O, r⟩)
    cases r'.det r2
    exact ⟨e1, O, r⟩
  | _ => exact w.elim
theorem ex_tr (e : Ext No H H') : ∀ b u, ¬ O b → ¬ isSrc u → H b = some u → H' b = some u ∧ ¬ O b := fun b u n s h => ⟨e.keep b u (fun z => z) s h, n⟩
theorem SlOk.ext {x : Option (Option V)} {s : Sl} (h : SlOk K B O H x s) (e : Ext No H H') : SlOk K B O H' x s :=
  h.tr (ex_tr e) (fun as w b z => ⟨fun u n q => e.keep b u (fun z => z) n q, (h.in_ w b z).1⟩) (fun a o s => ⟨o, e.src a s⟩) (fun a ns z => z.ext e fun _ z => z.elim) fun b u _ n q => e.keep b u (fun z => z) n q
theorem En.ex (E : En K B O H σ ρ) (e : Ext No H H') : En K B O H' σ ρ :=
  ⟨E.sub, E.bdom, E.osub, fun b h => e.some (fun z => z) (E.dom b h), fun b h => e.some (fun z => z) (E.adom b h), fun b h => e.some (fun z => z) (E.fdom b h), E.ext.trans e.no, E.len, fun i s h => (E.at_ i s h).ext e,
    fun i j s t as bs b h1 h2 w1 w2 => E.inj i j s t as bs b h1 h2 ((E.at_ i s h1).back (ex_tr e) (fun _ _ b _ u n q => e.keep b u (fun z => z) n q) w1) ((E.at_ j t h2).back (ex_tr e) (fun _ _ b _ u n q => e.keep b u (fun z => z) n q) w2)⟩
theorem En.free (E : En K B O H σ ρ) {p : Addr} (h : H p = none) : ¬ O p ∧ B.H p = none := by
  refine ⟨fun z => E.dom p z h, ?_⟩
  by_cases a : B.A p
  · exact absurd h (E.adom p a)
  · exact E.ext.free a h
theorem En.bfree (E : En K B O H σ ρ) {p : Addr} (h : H p = none) : B.F p = none := by
  cases q : B.F p with
  | none => rfl
  | some o => exact absurd h (E.fdom p (by rw [q]; exact fun z => nomatch z))
theorem SlOk.wide {x : Option (Option V)} {s : Sl} (h : SlOk K B O H x s) (hO : ∀ b, O' b → O b ∨ H b = none) (hO2 : ∀ b, O b → O' b) : SlOk K B O' H x s :=
  h.tr (fun b u n s q => ⟨q, fun z => (hO b z).elim n fun e => by rw [q] at e; cases e⟩) (fun as w b z => ⟨fun u n q => q, hO2 b (h.in_ w b z).1⟩) (fun a o s => ⟨hO2 a o, s⟩) (fun a ns z => z.wide hO) fun b u _ _ q => q
theorem SlOk.fresh {x : Option (Option V)} {s : Sl} {p : Addr} (h : SlOk K B O H x s) (n : H p = none) : SlOk K B (Pl O p) H x s := h.wide (pl_free n) fun _ z => .inl z
theorem En.shuns (E : En K B O H σ ρ) {N : AP} (n : ∀ b, N b → H b = none) (e : Ext No H H') (h : ∀ b, N b → H' b ≠ none) : En K B (fun b => O b ∨ N b) H' σ ρ := by
  have E' := E.ex e
  exact ⟨fun b z => .inl (E.sub b z), E.bdom, fun b z => z.elim (E.osub b) fun q => .inr (E.free (n b q)).2, fun b z => z.elim (E'.dom b) (h b), E'.adom, E'.fdom, E'.ext, E.len, fun i s z => ((E.at_ i s z).wide (fun b z => z.imp id (n b)) fun _ z => .inl z).ext e, E'.inj⟩
theorem En.shun (E : En K B O H σ ρ) {p : Addr} (n : H p = none) (e : Ext No H H') (h : H' p ≠ none) : En K B (Pl O p) H' σ ρ := E.shuns (N := fun b => b = p) (fun b z => z ▸ n) e fun b z => z ▸ h
theorem set_get {α : Type} {l : List α} {i j : Nat} {x y : α} (h : (l.set i x)[j]? = some y) : (i = j ∧ y = x ∧ j < l.length) ∨ (i ≠ j ∧ l[j]? = some y) := by
  rw [List.getElem?_set] at h
  by_cases c : i = j
  · rw [if_pos c] at h
    by_cases d : i < l.length
    · rw [if_pos d] at h
      exact .inl ⟨c, (Option.some.inj h).symm, c ▸ d⟩
    · rw [if_neg d] at h
      cases h
  · rw [if_neg c] at h
    exact .inr ⟨c, h⟩
theorem set_at {α : Type} {l : List α} {i : Nat} {x : α} (h : i < l.length) : (l.set i x)[i]? = some x := by
  rw [List.getElem?_set, if_pos rfl, if_pos h]
theorem set_off {α : Type} {l : List α} {i j : Nat} {x : α} (h : i ≠ j) : (l.set i x)[j]? = l[j]? := by
  rw [List.getElem?_set, if_neg h]
theorem En.setw (E : En K B O H σ ρ) {i : Nat} {v : V} {s : Sl} (hs : SlOk K B O H (some (some v)) s) (no : ∀ as b, Own K H (some (some v)) s as → b ∈ as → ∀ (j : Nat) (t : Sl) (bs : List Addr), ρ[j]? = some t → Own K H (σ[j]?) t bs → b ∉ bs) : En K B O H (σ.set i (some v)) (ρ.set i s) := by
  refine ⟨E.sub, E.bdom, E.osub, E.dom, E.adom, E.fdom, E.ext, by simp [E.len], fun j s' h => ?_, fun j k d e as bs b h1 h2 h3 h4 m1 m2 => ?_⟩
  · rcases set_get h with ⟨rfl, rfl, hl⟩ | ⟨hn, h⟩
    · rw [set_at (by rw [E.len]; exact hl)]
      exact hs
    · rw [set_off hn]
      exact E.at_ j s' h
  · rcases set_get h1 with ⟨a1, e1, l1⟩ | ⟨n1, g1⟩
    · rcases set_get h2 with ⟨a2, e2, l2⟩ | ⟨n2, g2⟩
      · exact a1 ▸ a2
      · subst a1
        rw [e1, set_at (by rw [E.len]; exact l1)] at h3
        rw [set_off n2] at h4
        exact (no as b h3 m1 k e bs g2 h4 m2).elim
    · rcases set_get h2 with ⟨a2, e2, l2⟩ | ⟨n2, g2⟩
      · subst a2
        rw [e2, set_at (by rw [E.len]; exact l2)] at h4
        rw [set_off n1] at h3
        exact (no bs b h4 m2 j d as g1 h3 m1).elim
      · rw [set_off n1] at h3
        rw [set_off n2] at h4
        exact E.inj j k d e as bs b g1 g2 h3 h4 m1 m2
theorem En.setv (E : En K B O H σ ρ) {i : Nat} {v : V} {s : Sl} (hs : SlOk K B O H (some (some v)) s) (no : ∀ as, ¬ Own K H (some (some v)) s as) : En K B O H (σ.set i (some v)) (ρ.set i s) := E.setw hs fun as _ w => (no as w).elim
theorem En.set (E : En K B O H σ ρ) (i : Nat) {v : V} {d : D} (r : Rep K O H v d) : En K B O H (σ.set i (some v)) (ρ.set i (.sh d)) := E.setv ⟨v, rfl, r⟩ fun _ z => z
theorem En.owns (E : En K B O H σ ρ) (i : Nat) {N : AP} {v : V} {s : Sl} (n : ∀ b, N b → H b = none) (e : Ext No H H') (h : ∀ b, N b → H' b ≠ none) (hs : SlOk K B (fun b => O b ∨ N b) H' (some (some v)) s) (hN : ∀ as, Own K H' (some (some v)) s as → ∀ b ∈ as, N b) : En K B (fun b => O b ∨ N b) H' (σ.set i (some v)) (ρ.set i s) := by
  refine (E.shuns n e h).setw hs fun as b w m j t bs hj w2 m2 => ?_
  have w2' := (E.at_ j t hj).back (ex_tr e) (fun _ _ b _ u n q => e.keep b u (fun z => z) n q) w2
  exact (E.free (n b (hN as w b m))).1 ((E.at_ j t hj).in_ w2' b m2).1
theorem En.own (E : En K B O H σ ρ) (i : Nat) {p : Addr} {d : D} (n : H p = none) (hF : B.F p = none) (e : Ext No H H') (hs : SlOk K B (Pl O p) H' (some (some (.ref p))) (.ow d)) (h : H' p ≠ none) : En K B (Pl O p) H' (σ.set i (some (.ref p))) (ρ.set i (.ow d)) :=
  E.owns (N := fun b => b = p) i (fun b z => z ▸ n) e (fun b z => z ▸ h) hs fun as ⟨q, e, ea⟩ b m => by
    cases e; rw [ea] at m; exact List.mem_singleton.mp m
def Le (ρ' ρ : List Sl) : Prop := ρ'.length = ρ.length ∧ ∀ (i : Nat) (s : Sl), ρ'[i]? = some s → s = .no ∨ ρ[i]? = some s
theorem En.le (E : En K B O H σ ρ) {ρ' : List Sl} (h : Le ρ' ρ) : En K B O H σ ρ' := by
  refine ⟨E.sub, E.bdom, E.osub, E.dom, E.adom, E.fdom, E.ext, by rw [E.len, h.1], fun j s' hj => ?_, fun j k d e as bs b h1 h2 h3 h4 => ?_⟩
  · rcases h.2 j s' hj with rfl | q
    · trivial
    · exact E.at_ j s' q
  · rcases h.2 j _ h1 with rfl | q1
    · exact h3.elim
    · rcases h.2 k _ h2 with rfl | q2
      · exact h4.elim
      · exact E.inj j k d e as bs b q1 q2 h3 h4
theorem up_ext {p : Addr} {o o' : HO} (hp : H p = some o) (ns : ¬ isSrc o) : Ext (fun b => b = p) H (upd H p o') := by
  refine ⟨fun b o n _ h => by rw [upd_ne n]; exact h, fun b ⟨n, s, t, h⟩ => ⟨n, s, t, ?_⟩, fun b h => up_dom b h⟩
  rw [upd_ne]
  · exact h
  · intro z
    rw [z, hp] at h
    cases h
    exact ns ⟨n, s, t, rfl⟩
theorem up_tr {p : Addr} {o' : HO} (ho : O p) : ∀ b u, ¬ O b → ¬ isSrc u → H b = some u → upd H p o' b = some u ∧ ¬ O b := fun b u n s h => ⟨by rw [upd_ne (fun (z : b = p) => n (z ▸ ho))]; exact h, n⟩
theorem SlOk.up {p : Addr} {o o' : HO} {x : Option (Option V)} {s : Sl} (h : SlOk K B O H x s) (ho : O p) (hF : B.F p = none) (hp : H p = some o) (ns : ¬ isSrc o) (w : ∀ as, Own K H x s as → p ∉ as) : SlOk K B O (upd H p o') x s :=
  h.tr (up_tr ho) (fun as k b z => ⟨fun u n q => by rw [upd_ne (fun (e : b = p) => w as k (e ▸ z))]; exact q, (h.in_ k b z).1⟩) (fun a o s => ⟨o, (up_ext hp ns).src a s⟩) (fun a ns' z => z.ext (up_ext hp ns) fun b e => e ▸ ho) fun b u q n h => by rw [upd_ne (fun (e : b = p) => B.qF b q (e ▸ hF))]; exact h
theorem SlOk.upB {p : Addr} {o' : HO} {x : Option (Option V)} {s : Sl} {as : List Addr} (h : SlOk K B O H x s) (ho : O p) (w : ∀ as, Own K H x s as → p ∉ as) (k : Own K (upd H p o') x s as) : Own K H x s as :=
  h.back (up_tr ho) (fun as k b z u n q => by rw [upd_ne (fun (e : b = p) => w as k (e ▸ z))]; exact q) k
end
end Va

namespace Va
open PySem PySem.Spec PyProof.Rows L2 Bg
abbrev Res (α : Type) := AP → Hp → Hp → V → α → Prop
def RG (K : PySem.W.Frag) (EX : L2.St → XK) (ρ : List Sl) (t : TE) {α : Type} (res : Res α) (w : M α) : Prop :=
  ∀ (B : Bs) (O : AP) (H : Hp) (σ : L2.St), En K B O H σ ρ → ∀ (P : α → Prop) (PX : Exn → Prop) (Q : VK), w P PX →
    (∀ a v H', P a → Ext No H H' → res O H H' v a → Q v H') → (∀ x cls d H', PX x → Ext No H H' → XOk K O H' cls d x → EX σ cls d H') → t σ H Q
def resE (K : PySem.W.Frag) {α : Type} (en : α → D) : Res α := fun O _ H' v a => Rep K O H' v (en a)
def SqV (K : PySem.W.Frag) (O : AP) (H : Hp) (v : V) (ds : List D) : Prop := ∃ a vs, v = .ref a ∧ SqL K H a vs ∧ RepL K O H vs ds
def resQ (K : PySem.W.Frag) {α : Type} (en : α → D) : Res (List α) := fun O _ H' v l => SqV K O H' v (l.map en)
def FrV (K : PySem.W.Frag) (O : AP) (H H' : Hp) (v : V) (ds : List D) : Prop := ∃ p vs, v = .ref p ∧ H p = none ∧ H' p = some (.lst vs) ∧ RepL K (Pl O p) H' vs ds
def resF (K : PySem.W.Frag) {α : Type} (en : α → D) : Res (List α) := fun O H H' v l => FrV K O H H' v (l.map en)
abbrev RE (K : PySem.W.Frag) (EX : L2.St → XK) (ρ : List Sl) (t : TE) {α : Type} (en : α → D) (w : M α) : Prop := RG K EX ρ t (resE K en) w
abbrev RQ (K : PySem.W.Frag) (EX : L2.St → XK) (ρ : List Sl) (t : TE) {α : Type} (en : α → D) (w : M (List α)) : Prop := RG K EX ρ t (resQ K en) w
abbrev RF (K : PySem.W.Frag) (EX : L2.St → XK) (ρ : List Sl) (t : TE) {α : Type} (en : α → D) (w : M (List α)) : Prop := RG K EX ρ t (resF K en) w
def RT (K : PySem.W.Frag) (EX : L2.St → XK) (ρ : List Sl) (t : TT) (w : M Bool) : Prop :=
  ∀ (B : Bs) (O : AP) (H : Hp) (σ : L2.St), En K B O H σ ρ → ∀ (P : Bool → Prop) (PX : Exn → Prop) (Q : Bool → Hp → Prop), w P PX →
    (∀ b H', P b → Ext No H H' → Q b H') → (∀ x cls d H', PX x → Ext No H H' → XOk K O H' cls d x → EX σ cls d H') → t σ H Q
inductive ArOk (K : PySem.W.Frag) (O : AP) (H : Hp) : List V → List Sl → Prop
  | nil : ArOk K O H [] []
  | sh {v : V} {d : D} {vs : List V} {ss : List Sl} : Rep K O H v d → ArOk K O H vs ss → ArOk K O H (v :: vs) (.sh d :: ss)
  | src {a : Addr} {vs : List V} {ss : List Sl} : O a → Src H a → ArOk K O H vs ss → ArOk K O H (.ref a :: vs) (.src :: ss)
  | scr {a : Addr} {ns : List Int} {vs : List V} {ss : List Sl} : Scr K O H a ns → ArOk K O H vs ss → ArOk K O H (.ref a :: vs) (.scr ns :: ss)
  | sq {a : Addr} {us : List V} {ds : List D} {vs : List V} {ss : List Sl} : H a = some (.lst us) → RepL K O H us ds → ArOk K O H vs ss → ArOk K O H (.ref a :: vs) (.sq ds :: ss)
def RA (K : PySem.W.Frag) (EX : L2.St → XK) (ρ : List Sl) (t : TA) {α : Type} (ar : α → List Sl) (w : M α) : Prop :=
  ∀ (B : Bs) (O : AP) (H : Hp) (σ : L2.St), En K B O H σ ρ → ∀ (P : α → Prop) (PX : Exn → Prop) (Q : List V → Hp → Prop), w P PX →
    (∀ a vs H', P a → Ext No H H' → ArOk K O H' vs (ar a) → Q vs H') → (∀ x cls d H', PX x → Ext No H H' → XOk K O H' cls d x → EX σ cls d H') → t σ H Q
section
variable {K : PySem.W.Frag} {EX : L2.St → XK} {ρ : List Sl} {α β γ : Type}
theorem ArOk.ex {O : AP} {H H' : Hp} {vs : List V} {ss : List Sl} (h : ArOk K O H vs ss) (x : Ext No H H') : ArOk K O H' vs ss := by
  induction h with
  | nil => exact .nil
  | sh r _ ih => exact .sh (r.ex x) ih
  | src o s _ ih => exact .src o (x.src _ s) ih
  | scr e _ ih => exact .scr (e.ext x fun _ z => z.elim) ih
  | sq h r _ ih => exact .sq (x.keep _ _ (fun z => z) ns_lst h) (r.tr (ex_tr x)) ih
theorem RG.imp {t : TE} {res res' : Res α} {w : M α} (h : RG K EX ρ t res w) (f : ∀ O H H' v a, (∀ b, O b → H b ≠ none) → Ext No H H' → res O H H' v a → res' O H H' v a) : RG K EX ρ t res' w := fun B O H σ E P PX Q hw hq hx =>
  h B O H σ E P PX Q hw (fun a v H' p e r => hq a v H' p e (f O H H' v a E.dom e r)) hx
theorem FrV.rep {O : AP} {H H' : Hp} {v : V} {ds : List D} (h : FrV K O H H' v ds) (d : ∀ b, O b → H b ≠ none) : Rep K O H' v (.lst ds) := by
  obtain ⟨p, vs, rfl, n, h, r⟩ := h
  exact .lst (fun z => d p z n) h (r.mono fun b z => .inl z)
theorem RG.fe {t : TE} {en : α → D} {w : M (List α)} (h : RF K EX ρ t en w) : RE K EX ρ t (fun l => .lst (l.map en)) w := h.imp fun _ _ _ _ _ d _ r => FrV.rep r d
theorem RG.eq {t : TE} {en : α → D} {w : M (List α)} (h : RE K EX ρ t (fun l => .lst (l.map en)) w) : RQ K EX ρ t en w := h.imp fun _ _ _ _ _ _ _ r => by
  cases r with
  | lst _ h r => exact ⟨_, _, rfl, .inl (.inl h), r⟩
theorem RG.fq {t : TE} {en : α → D} {w : M (List α)} (h : RF K EX ρ t en w) : RQ K EX ρ t en w := h.fe.eq
theorem RG.map {t : TE} {en : α → D} {en' : β → D} {w : M α} (f : α → β) (h : RE K EX ρ t en w) (hf : ∀ a, en' (f a) = en a) : RE K EX ρ t en' (w >>= fun a => pure (f a)) := fun B O H σ E P PX Q hw hq hx =>
  h B O H σ E (fun a => P (f a)) PX Q hw (fun a v H' p e r => hq (f a) v H' p e (by show Rep K O H' v _; rw [hf a]; exact r)) hx
def narrow {α β : Type} (en : α → D) (en' : β → D) (a : α) : M β := fun P _ => ∃ b, en a = en' b ∧ P b
theorem repl_int {O : AP} {H : Hp} (ns : List Int) : RepL K O H (ns.map V.int) (ns.map D.int) := by
  induction ns with
  | nil => exact .nil
  | cons n ns ih => exact .cons (.int n) ih
theorem re_var {en : α → D} {x : α} (i : Nat) (h : ρ[i]? = some (.sh (en x)) := by rfl) : RE K EX ρ (tVar i) en (pure x) := fun B O H σ E P PX Q hw hq _ => by
  obtain ⟨v, hv, r⟩ := E.at_ i _ h
  exact ⟨v, hv, hq x v H hw (.refl _ _) r⟩
theorem rq_scr {ns : List Int} (i : Nat) (h : ρ[i]? = some (.scr ns) := by rfl) : RQ K EX ρ (tVar i) D.int (pure ns) := fun B O H σ E P PX Q hw hq _ => by
  obtain ⟨a, hv, ha⟩ := E.at_ i _ h
  exact ⟨.ref a, hv, hq ns _ H hw (.refl _ _) ⟨a, _, rfl, ha.sq, repl_int ns⟩⟩
theorem re_c {v : V} {en : α → D} {x : α} (r : ∀ O H, Rep K O H v (en x)) : RE K EX ρ (tC v) en (pure x) := fun B O H σ E P PX Q hw hq _ => hq x v H hw (.refl _ _) (r _ _)
theorem re_int (i : Int) : RE K EX ρ (tC (.int i)) D.int (pure i) := re_c fun _ _ => .int i
theorem re_str (z : Str) : RE K EX ρ (tC (.str z)) D.str (pure z) := re_c fun _ _ => .str z
theorem re_bl (b : Bool) : RE K EX ρ (tC (.bl b)) D.bl (pure b) := re_c fun _ _ => .bl b
def eU : Unit → D := fun _ => .non
theorem re_non : RE K EX ρ (tC .non) eU (pure ()) := re_c fun _ _ => .non
def ROp (K : PySem.W.Frag) (r : R2) (res1 : Res α) (res2 : Res β) (res : Res γ) (m : α → β → M γ) : Prop :=
  ∀ (O : AP) (H0 H : Hp) (x y : V) (a : α) (b : β) (P : γ → Prop) (PX : Exn → Prop) (Q : VK), (∀ b, O b → H b ≠ none) → res1 O H0 H x a → res2 O H0 H y b → m a b P PX → (∀ c v H', P c → Ext No H H' → res O H H' v c → Q v H') → r x y H Q
class Lasts {α : Type} (res : Res α) : Prop where
  ex : ∀ {O : AP} {H0 H1 H2 : Hp} {v : V} {a : α}, res O H0 H1 v a → Ext No H1 H2 → res O H0 H2 v a
  base : ∀ {O : AP} {H0 H1 H2 : Hp} {v : V} {a : α}, res O H1 H2 v a → Ext No H0 H1 → res O H0 H2 v a
instance {en : α → D} : Lasts (resE K en) := ⟨fun r e => Rep.ex r e, fun r _ => r⟩
theorem SqL.ext {a : Addr} {vs : List V} {H H' : Hp} (h : SqL K H a vs) (e : Ext No H H') : SqL K H' a vs := by
  rcases h with (h | ⟨o, h⟩) | h
  · exact .inl (.inl (e.keep _ _ (fun z => z) ns_lst h))
  · exact .inl (.inr ⟨o, e.keep _ _ (fun z => z) (fun z => z) h⟩)
  · exact .inr h
instance {en : α → D} : Lasts (resQ K en) := ⟨fun ⟨a, vs, e1, h, r⟩ e => ⟨a, vs, e1, SqL.ext h e, r.ex e⟩, fun r _ => r⟩
instance {en : α → D} : Lasts (resF K en) := ⟨fun ⟨p, vs, e1, n, h, r⟩ e => ⟨p, vs, e1, n, e.keep _ _ (fun z => z) ns_lst h, r.ex e⟩, fun ⟨p, vs, e1, n, h, r⟩ e => ⟨p, vs, e1, e.free (fun z => z) n, h, r⟩⟩
theorem rg_op {r : R2} {ta tb : TE} {res1 : Res α} {res2 : Res β} {res : Res γ} {m : α → β → M γ} {wa : M α} {wb : M β} [Lasts res1] [Lasts res2] [Lasts res] (hr : ROp K r res1 res2 res m) (ha : RG K EX ρ ta res1 wa) (hb : RG K EX ρ tb res2 wb) :
    RG K EX ρ (tOp r ta tb) res (wa >>= fun a => wb >>= fun b => m a b) := fun B O H σ E P PX Q hw hq hx => by
  refine ha B O H σ E _ PX _ hw (fun a x H1 p1 e1 r1 => ?_) hx
  have E1 := E.ex e1
  refine hb B O H1 σ E1 _ PX _ p1 (fun b y H2 p2 e2 r2 => ?_) fun x cls d H' px e k => hx x cls d H' px (e1.trans e) k
  exact hr O H H2 x y a b P PX Q (E1.ex e2).dom (Lasts.ex r1 e2) (Lasts.base r2 e1) p2 fun c v H' p e k => hq c v H' p ((e1.trans e2).trans e) (Lasts.base k (e1.trans e2))
end
end Va

namespace Va
open PySem PySem.Spec PyProof.Rows L2 Bg
def eL {α : Type} (en : α → D) : List α → D := fun l => .lst (l.map en)
def eTL {α : Type} (en : α → D) : List α → D := fun l => .tup (l.map en)
def eT2 {α β : Type} (e1 : α → D) (e2 : β → D) : α × β → D := fun p => .tup [e1 p.1, e2 p.2]
def eT3 {α β γ : Type} (e1 : α → D) (e2 : β → D) (e3 : γ → D) : α × β × γ → D := fun p => .tup [e1 p.1, e2 p.2.1, e3 p.2.2]
def eO {α : Type} (en : α → D) : Option α → D
  | none => .non
  | some a => en a
mutual
def toP : D → PyData
  | .non => .none
  | .bl b => .bool b
  | .int i => .int i
  | .str z => .str z
  | .lst ds => .list (toPs ds)
  | .tup ds => .tuple (toPs ds)
  | .dct _ => .none
  | .dcp _ => .none
  | .obj _ _ => .none
  | .glo _ => .none
  | .exc _ _ => .none
def toPs : List D → List PyData
  | [] => []
  | d :: ds => toP d :: toPs ds
end
mutual
def plain : D → Bool
  | .lst ds => plains ds
  | .tup ds => plains ds
  | .dct _ => false
  | .dcp _ => false
  | .obj _ _ => false
  | .glo _ => false
  | .exc _ _ => false
  | _ => true
def plains : List D → Bool
  | [] => true
  | d :: ds => plain d && plains ds
end
section
variable {K : PySem.W.Frag} {O : AP} {H : Hp}
mutual
theorem Rep.dp : ∀ {d : D} {v : V}, Rep K O H v d → plain d = true → Dp K H v (toP d)
  | _, _, .non, _ => .non
  | _, _, .bl b, _ => .bl b
  | _, _, .int i, _ => .int i
  | _, _, .str z, _ => .str z
  | _, _, .lst _ h r, p => .lst (.inl (.inl h)) (RepL.dp r p)
  | _, _, .tup _ h r, p => .tup (.inl (.inl h)) (RepL.dp r p)
  | _, _, .dct _ _ _ _ _, p => nomatch p
  | _, _, .dcp _ _ _ _, p => nomatch p
  | _, _, .obj _ _ _ _, p => nomatch p
  | _, _, .glo _, p => nomatch p
  | _, _, .exc _ _ _ _ _, p => nomatch p
theorem RepL.dp : ∀ {ds : List D} {vs : List V}, RepL K O H vs ds → plains ds = true → DpAll K H vs (toPs ds)
  | _, _, .nil, _ => .nil
  | _, _, .cons r t, p => .cons (Rep.dp r (Bool.and_eq_true_iff.mp p).1) (RepL.dp t (Bool.and_eq_true_iff.mp p).2)
end
end
theorem toPs_map (ds : List D) : toPs ds = ds.map toP := by
  induction ds with
  | nil => rfl
  | cons d ds ih => rw [List.map_cons, ← ih]; rfl
theorem plains_iff (ds : List D) : plains ds = true ↔ ∀ d ∈ ds, plain d = true := by
  induction ds with
  | nil => exact ⟨fun _ _ h => (nomatch h), fun _ => rfl⟩
  | cons d ds ih => rw [plains, Bool.and_eq_true, ih]; simp
section
variable {K : PySem.W.Frag} {EX : L2.St → XK} {ρ : List Sl} {α β γ : Type}
theorem rop_i (g : Int → Int → Int) : ROp K (rI0 fun i j => .int (g i j)) (resE K D.int) (resE K D.int) (resE K D.int) (fun a b => pure (g a b)) := fun O H0 H x y a b P PX Q _ r1 r2 p q => by
  cases r1; cases r2
  exact ⟨a, b, rfl, rfl, q _ _ _ p (.refl _ _) (.int _)⟩
def bnd (C : Int → Int → Prop) (g : Int → Int → Int) (a b : Int) : M Int := fun P _ => C a b ∧ P (g a b)
theorem rop_c (C : Int → Int → Prop) (g : Int → Int → Int) : ROp K (rI C fun i j => .int (g i j)) (resE K D.int) (resE K D.int) (resE K D.int) (bnd C g) := fun O H0 H x y a b P PX Q _ r1 r2 p q => by
  cases r1; cases r2
  exact ⟨a, b, rfl, rfl, p.1, q _ _ _ p.2 (.refl _ _) (.int _)⟩
theorem re_add {ta tb : TE} {wa wb : M Int} (ha : RE K EX ρ ta D.int wa) (hb : RE K EX ρ tb D.int wb) : RE K EX ρ (tOp (rI0 fun i j => .int (i + j)) ta tb) D.int (wa >>= fun a => wb >>= fun b => pure (a + b)) := rg_op (rop_i (· + ·)) ha hb
theorem re_bnd {C : Int → Int → Prop} {g : Int → Int → Int} {ta tb : TE} {wa wb : M Int} (ha : RE K EX ρ ta D.int wa) (hb : RE K EX ρ tb D.int wb) : RE K EX ρ (tOp (rI C fun i j => .int (g i j)) ta tb) D.int (wa >>= fun a => wb >>= fun b => bnd C g a b) := rg_op (rop_c C g) ha hb
def flatD : D → Bool
  | .non => true | .bl _ => true | .int _ => true | .str _ => true | _ => false
def flV : D → V
  | .non => .non | .bl b => .bl b | .int i => .int i | .str z => .str z | _ => .non
theorem Rep.flat {O : AP} {H : Hp} {v : V} {d : D} (r : Rep K O H v d) (h : flatD d = true) : v = flV d := by
  cases r <;> first | rfl | cases h
def eqF (neg : Bool) (d e : D) : M Bool := fun P _ => flatD d = true ∧ flatD e = true ∧ scal (flV d) (flV e) = true ∧ P (if neg then !decide (flV d = flV e) else decide (flV d = flV e))
theorem re_eq {ta tb : TE} {en : α → D} {en' : β → D} {wa : M α} {wb : M β} (ha : RE K EX ρ ta en wa) (hb : RE K EX ρ tb en' wb) : RE K EX ρ (tOp rEq ta tb) D.bl (wa >>= fun a => wb >>= fun b => eqF false (en a) (en' b)) :=
  rg_op (fun O H0 H x y a b P PX Q _ r1 r2 p q => by
    obtain ⟨f1, f2, s, p⟩ := p
    rw [Rep.flat r1 f1, Rep.flat r2 f2]
    exact ⟨s, q _ _ _ p (.refl _ _) (.bl _)⟩) ha hb
theorem re_ne {ta tb : TE} {en : α → D} {en' : β → D} {wa : M α} {wb : M β} (ha : RE K EX ρ ta en wa) (hb : RE K EX ρ tb en' wb) : RE K EX ρ (tOp rNe ta tb) D.bl (wa >>= fun a => wb >>= fun b => eqF true (en a) (en' b)) :=
  rg_op (fun O H0 H x y a b P PX Q _ r1 r2 p q => by
    obtain ⟨f1, f2, s, p⟩ := p
    rw [Rep.flat r1 f1, Rep.flat r2 f2]
    exact ⟨s, q _ _ _ p (.refl _ _) (.bl _)⟩) ha hb
def eqD (neg : Bool) (d e : D) : M Bool := fun P _ => plain d = true ∧ plain e = true ∧ SeqAt.shaped (toP d) = true ∧ SeqAt.shaped (toP e) = true ∧ P (if neg then !PyData.eqv (toP d) (toP e) else PyData.eqv (toP d) (toP e))
class Seen {α : Type} (K : PySem.W.Frag) (res : Res α) (en : outParam (α → D)) : Prop where
  dp : ∀ {O : AP} {H0 H : Hp} {v : V} {a : α}, res O H0 H v a → plain (en a) = true → Dp K H v (toP (en a))
instance {en : α → D} : Seen K (resE K en) en := ⟨fun r p => Rep.dp r p⟩
instance {en : α → D} : Seen K (resQ K en) (eL en) := ⟨fun ⟨a, vs, e, h, r⟩ p => by subst e; exact .lst h (r.dp p)⟩
theorem re_neD {ta tb : TE} {res1 : Res α} {res2 : Res β} [Lasts res1] [Lasts res2] {en : α → D} {en' : β → D} [Seen K res1 en] [Seen K res2 en'] {wa : M α} {wb : M β} (ha : RG K EX ρ ta res1 wa) (hb : RG K EX ρ tb res2 wb) : RE K EX ρ (tOp (rNeD K) ta tb) D.bl (wa >>= fun a => wb >>= fun b => eqD true (en a) (en' b)) :=
  rg_op (fun O H0 H x y a b P PX Q _ r1 r2 p q => by
    obtain ⟨f1, f2, s1, s2, p⟩ := p
    exact ⟨_, _, Seen.dp r1 f1, Seen.dp r2 f2, s1, s2, q _ _ _ p (.refl _ _) (.bl _)⟩) ha hb
def isN : D → Bool
  | .non => true
  | _ => false
theorem Rep.isN {O : AP} {H : Hp} {v : V} {d : D} (r : Rep K O H v d) : decide (v = .non) = Va.isN d := by
  cases r <;> first | rfl | exact decide_eq_false fun z => nomatch z
def getI {α : Type} (l : List α) (i : Int) : M α := fun P _ => ∃ x, atI l i = some x ∧ P x
theorem RepL.atI {O : AP} {H : Hp} {vs : List V} {en : α → D} {l : List α} (r : RepL K O H vs (l.map en)) {i : Int} {x : α} (h : L2.atI l i = some x) : ∃ v, L2.atI vs i = some v ∧ Rep K O H v (en x) := by
  unfold L2.atI at h ⊢
  have hl : vs.length = l.length := by rw [r.length, List.length_map]
  rw [hl]
  cases q : ixN l.length i with
  | none => rw [q] at h; cases h
  | some j =>
    rw [q] at h
    have h : l[j]? = some x := h
    exact r.get (d := en x) (by rw [List.getElem?_map, h]; rfl)
theorem re_ixL {ta tb : TE} {en : α → D} {wa : M (List α)} {wb : M Int} (ha : RQ K EX ρ ta en wa) (hb : RE K EX ρ tb D.int wb) : RE K EX ρ (tOp (rIxL K) ta tb) en (wa >>= fun a => wb >>= fun b => getI a b) :=
  rg_op (fun O H0 H x y a b P PX Q _ r1 r2 p q => by
    obtain ⟨l, vs, rfl, hl, r⟩ := r1
    cases r2
    obtain ⟨z, hz, p⟩ := p
    obtain ⟨v, hv, rv⟩ := r.atI hz
    exact ⟨l, vs, b, v, rfl, rfl, hl, hv, q _ _ _ p (.refl _ _) rv⟩) ha hb
def getS (z : Str) (i : Int) : M Str := fun P _ => z.length ≤ sizeLine ∧ ∃ c, atI z.cps.toList i = some c ∧ P ⟨#[c]⟩
theorem rt_b {ta : TE} {wa : M Bool} (ha : RE K EX ρ ta D.bl wa) : RT K EX ρ (tB ta) wa := fun B O H σ E P PX Q hw hq hx =>
  ha B O H σ E P PX _ hw (fun a v H' p e r => by cases r; exact ⟨a, rfl, hq a H' p e⟩) hx
theorem rt_test {ta : TE} {wa : M Bool} (ha : RE K EX ρ ta D.bl wa) : RT K EX ρ (tTest ta) wa := rt_b ha
end
end Va

namespace Va
open PySem PySem.Spec PyProof.Rows L2 Bg
section
variable {K : PySem.W.Frag} {EX : L2.St → XK} {ρ : List Sl} {α β γ : Type}
theorem ra_nil : RA K EX ρ tNil (fun _ : Unit => []) (pure ()) := fun B O H σ E P PX Q hw hq hx => hq () [] H hw (.refl _ _) .nil
theorem ra_cons {te : TE} {t : TA} {en : α → D} {ar : β → List Sl} {wa : M α} {wb : M β} (ha : RE K EX ρ te en wa) (hb : RA K EX ρ t ar wb) : RA K EX ρ (tCons te t) (fun p : α × β => .sh (en p.1) :: ar p.2) (wa >>= fun a => wb >>= fun b => pure (a, b)) := fun B O H σ E P PX Q hw hq hx =>
  ha B O H σ E _ PX _ hw (fun a v H1 p1 e1 r1 => hb B O H1 σ (E.ex e1) _ PX _ p1 (fun b vs H2 p2 e2 r2 => hq (a, b) (v :: vs) H2 p2 (e1.trans e2) (.sh (Rep.ex r1 e2) r2)) fun x cls d H' px e k => hx x cls d H' px (e1.trans e) k) hx
theorem rl_nil {en : α → D} : RA K EX ρ tNil (fun l : List α => l.map fun a => Sl.sh (en a)) (pure []) := fun B O H σ E P PX Q hw hq hx => hq [] [] H hw (.refl _ _) .nil
theorem rl_cons {te : TE} {t : TA} {en : α → D} {wa : M α} {wb : M (List α)} (ha : RE K EX ρ te en wa) (hb : RA K EX ρ t (fun l : List α => l.map fun a => Sl.sh (en a)) wb) : RA K EX ρ (tCons te t) (fun l : List α => l.map fun a => Sl.sh (en a)) (wa >>= fun a => wb >>= fun b => pure (a :: b)) := fun B O H σ E P PX Q hw hq hx =>
  ha B O H σ E _ PX _ hw (fun a v H1 p1 e1 r1 => hb B O H1 σ (E.ex e1) _ PX _ p1 (fun b vs H2 p2 e2 r2 => hq (a :: b) (v :: vs) H2 p2 (e1.trans e2) (.sh (Rep.ex r1 e2) r2)) fun x cls d H' px e k => hx x cls d H' px (e1.trans e) k) hx
theorem ArOk.rep {O : AP} {H : Hp} {vs : List V} : ∀ {ds : List D}, ArOk K O H vs (ds.map Sl.sh) → RepL K O H vs ds
  | [], h => by cases h; exact .nil
  | d :: ds, h => by
    cases h with
    | sh r t => exact .cons r (ArOk.rep t)
theorem ArOk.repm {O : AP} {H : Hp} {vs : List V} {en : α → D} {l : List α} (h : ArOk K O H vs (l.map fun a => Sl.sh (en a))) : RepL K O H vs (l.map en) := ArOk.rep (ds := l.map en) (by rw [List.map_map]; exact h)
theorem FrV.new {O : AP} {H : Hp} {p : Addr} {vs : List V} {ds : List D} (n : H p = none) (r : RepL K O H vs ds) : FrV K O H (upd H p (.lst vs)) (.ref p) ds := ⟨p, vs, rfl, n, upd_same, (r.fresh n).ex (.new n)⟩
theorem rf_lst {t : TA} {en : α → D} {w : M (List α)} (h : RA K EX ρ t (fun l : List α => l.map fun a => Sl.sh (en a)) w) : RF K EX ρ (tLst t) en (w >>= fun l => need (l.length ≤ sizeLine) >>= fun _ => pure l) := fun B O H σ E P PX Q hw hq hx =>
  h B O H σ E _ PX _ hw (fun l vs H1 p e r => by
    have r := r.repm
    refine ⟨by rw [r.length, List.length_map]; exact p.1, fun a n => hq l (.ref a) _ p.2 (e.trans (.new n)) ?_⟩
    exact Lasts.base (res := resF K en) (FrV.new n r) e) hx
def resL (K : PySem.W.Frag) {α : Type} (en : α → D) : Res (List α) := fun O _ H' v l => ∃ p vs, v = .ref p ∧ H' p = some (.lst vs) ∧ RepL K O H' vs (l.map en)
instance {en : α → D} : Lasts (resL K en) := ⟨fun ⟨p, vs, e1, h, r⟩ e => ⟨p, vs, e1, e.keep _ _ (fun z => z) ns_lst h, r.ex e⟩, fun r _ => r⟩
theorem RG.el {t : TE} {en : α → D} {w : M (List α)} (h : RE K EX ρ t (eL en) w) : RG K EX ρ t (resL K en) w := h.imp fun _ _ _ _ _ _ _ r => by
  cases r with
  | lst _ h r => exact ⟨_, _, rfl, h, r⟩
theorem RG.fl {t : TE} {en : α → D} {w : M (List α)} (h : RF K EX ρ t en w) : RG K EX ρ t (resL K en) w := h.imp fun _ _ _ _ _ _ _ ⟨p, vs, e, _, h, r⟩ => ⟨p, vs, e, h, r.mono fun b z => .inl z⟩
theorem rf_cat {ta tb : TE} {en : α → D} {wa wb : M (List α)} (ha : RG K EX ρ ta (resL K en) wa) (hb : RG K EX ρ tb (resL K en) wb) : RF K EX ρ (tOp rCat ta tb) en (wa >>= fun a => wb >>= fun b => (need (a.length + b.length ≤ sizeLine) >>= fun _ => pure (a ++ b))) :=
  rg_op (fun O H0 H x y a b P PX Q _ r1 r2 p q => by
    obtain ⟨l1, v1, rfl, h1, r1⟩ := r1
    obtain ⟨l2, v2, rfl, h2, r2⟩ := r2
    have e1 := r1.length
    have e2 := r2.length
    rw [List.length_map] at e1 e2
    refine ⟨_, _, _, _, rfl, rfl, h1, h2, by rw [e1, e2]; exact p.1, fun c n => q _ _ _ p.2 (.new n) (FrV.new n ?_)⟩
    rw [List.map_append]
    exact r1.app r2) ha hb
def repL {α : Type} (l : List α) (k : Int) : M (List α) := fun P _ => -(2 ^ 63) ≤ k ∧ k < 2 ^ 63 ∧ l.length * k.toNat ≤ sizeLine ∧ P (List.replicate k.toNat l).flatten
theorem rf_rep {ta tb : TE} {en : α → D} {wa : M (List α)} {wb : M Int} (ha : RG K EX ρ ta (resL K en) wa) (hb : RE K EX ρ tb D.int wb) : RF K EX ρ (tOp rRep ta tb) en (wa >>= fun a => wb >>= fun b => repL a b) :=
  rg_op (fun O H0 H x y a b P PX Q _ r1 r2 p q => by
    obtain ⟨l1, v1, rfl, h1, r1⟩ := r1
    cases r2
    have e1 := r1.length
    rw [List.length_map] at e1
    obtain ⟨p1, p2, p3, p⟩ := p
    refine ⟨_, _, _, rfl, rfl, h1, p1, p2, by rw [e1]; exact p3, fun c n => q _ _ _ p (.new n) (FrV.new n ?_)⟩
    generalize b.toNat = k
    induction k with
    | zero => exact .nil
    | succ k ih => rw [List.replicate_succ, List.flatten_cons, List.replicate_succ, List.flatten_cons, List.map_append]; exact r1.app ih) ha hb
def inM {α : Type} (neg : Bool) (en : α → D) (a : α) (l : List α) : M Bool := fun P _ => flatD (en a) = true ∧ (∀ x ∈ l, flatD (en x) = true) ∧ P (if neg then !inV (flV (en a)) (l.map fun x => flV (en x)) else inV (flV (en a)) (l.map fun x => flV (en x)))
def b2 (b : Bool) : Int := if b then 1 else 0
end
end Va

namespace Va
open PySem PySem.Spec PyProof.Rows L2 Bg
def Aof (lp : Bool) (O : AP) : AP := fun b => lp = true ∧ O b
def ItOk (K : PySem.W.Frag) (lp : Bool) (O : AP) (H1 : Hp) (J : It) {α : Type} (en : α → D) (l : List α) : Prop :=
  ∀ H, Ext (Aof lp O) H1 H → (∀ (i : Nat) (x : α), l[i]? = some x → J.go i H ∧ ∀ v H', J.yld i H v H' → Ext No H H' ∧ ∀ O2 : AP, (∀ b, O2 b → O b ∨ H1 b = none) → (∀ b, O2 b → H b ≠ none) → Rep K O2 H' v (en x)) ∧ J.stop l.length H
def RI (K : PySem.W.Frag) (EX : L2.St → XK) (ρ : List Sl) (wi : TI) (lp : Bool) {α : Type} (en : α → D) (w : M (List α)) : Prop :=
  ∀ (B : Bs) (O : AP) (H : Hp) (σ : L2.St), En K B O H σ ρ → ∀ (P : List α → Prop) (PX : Exn → Prop) (R : It → Hp → Prop), w P PX →
    (∀ l J H', P l → Ext No H H' → ItOk K lp O H' J en l → R J H') → (∀ x cls d H', PX x → Ext No H H' → XOk K O H' cls d x → EX σ cls d H') → wi σ H R
theorem rep_turn {K : PySem.W.Frag} {lp : Bool} {O O2 : AP} {H1 H : Hp} {v : V} {d : D} (r : Rep K O H1 v d) (e : Ext (Aof lp O) H1 H) (h : ∀ b, O2 b → O b ∨ H1 b = none) : Rep K O2 H v d :=
  (((r.wide (O' := fun b => O b ∨ O2 b) fun b z => z.elim .inl (h b)).ext e fun b z => .inl z.2).mono fun b z => .inr z)
section
variable {K : PySem.W.Frag} {EX : L2.St → XK} {ρ : List Sl} {α β γ : Type}
structure Stay (K : PySem.W.Frag) (lp : Bool) (O : AP) (H1 : Hp) (a : Addr) (vs : List V) : Prop where
  at_ : ∀ H, Ext (Aof lp O) H1 H → SqL K H a vs
def resS (K : PySem.W.Frag) (lp : Bool) {α : Type} (en : α → D) : Res (List α) := fun O _ H' v l => ∃ a vs, v = .ref a ∧ Stay K lp O H' a vs ∧ RepL K O H' vs (l.map en)
theorem RG.es {t : TE} {lp : Bool} {en : α → D} {w : M (List α)} (h : RE K EX ρ t (eL en) w) : RG K EX ρ t (resS K lp en) w := h.imp fun O _ H' _ _ _ _ r => by
  cases r with
  | lst n h r => exact ⟨_, _, rfl, ⟨fun H e => .inl (.inl (e.keep _ _ (fun z => n z.2) ns_lst h))⟩, r⟩
theorem RG.fs {t : TE} {lp : Bool} {en : α → D} {w : M (List α)} (h : RF K EX ρ t en w) : RG K EX ρ t (resS K lp en) w := h.fe.es
theorem get_map {en : α → D} {l : List α} {i : Nat} {x : α} (h : l[i]? = some x) : (l.map en)[i]? = some (en x) := by rw [List.getElem?_map, h]; rfl
theorem ri_list {te : TE} {lp : Bool} {en : α → D} {w : M (List α)} (h : RG K EX ρ te (resS K lp en) w) : RI K EX ρ (iList K te) lp en w := fun B O H σ E P PX R hw hq hx =>
  h B O H σ E P PX _ hw (fun l v H1 p e r => by
    obtain ⟨a, vs, rfl, st, r⟩ := r
    refine ⟨a, rfl, ⟨vs, st.at_ _ (.refl _ _)⟩, hq l _ H1 p e fun H2 e2 => ⟨fun i x hx => ?_, ?_⟩⟩
    · obtain ⟨v, hv, rv⟩ := r.get (get_map hx)
      refine ⟨⟨vs, v, st.at_ _ e2, hv⟩, fun v' H' y => ?_⟩
      obtain ⟨rfl, y⟩ := y
      have := y vs (st.at_ _ e2)
      rw [hv] at this
      cases this
      exact ⟨.refl _ _, fun O2 h1 _ => rep_turn rv e2 h1⟩
    · exact ⟨vs, st.at_ _ e2, by rw [r.length, List.length_map]; exact Nat.le_refl _⟩) hx
def rng (lo : Int) (n : Nat) : List Int := (List.range n).map fun (i : Nat) => lo + (i : Int)
theorem rng_len (lo : Int) (n : Nat) : (rng lo n).length = n := by simp [rng]
theorem rng_at {lo : Int} {n i : Nat} {x : Int} (h : (rng lo n)[i]? = some x) : i < n ∧ x = lo + (i : Int) := by
  unfold rng at h
  rw [List.getElem?_map] at h
  have hi : i < n := by
    by_cases c : i < n
    · exact c
    · rw [List.getElem?_eq_none (by simpa using c)] at h; cases h
  rw [List.getElem?_range hi] at h
  exact ⟨hi, (Option.some.inj h).symm⟩
theorem itr_ok {lp : Bool} {O : AP} {H1 : Hp} (lo : Int) (n : Nat) : ItOk K lp O H1 (Itr lo n) D.int (rng lo n) := fun H e => by
  refine ⟨fun i x hx => ?_, by show n ≤ _; rw [rng_len]; exact Nat.le_refl _⟩
  obtain ⟨hi, rfl⟩ := rng_at hx
  refine ⟨hi, fun v H' y => ?_⟩
  obtain ⟨rfl, rfl⟩ := y
  exact ⟨.refl _ _, fun _ _ _ => .int _⟩
def rng1 (j : Int) : M (List Int) := fun P _ => -(2 ^ 62) ≤ j ∧ j < 2 ^ 62 ∧ P (rng 0 j.toNat)
def rng2 (i j : Int) : M (List Int) := fun P _ => (-(2 ^ 62) ≤ i ∧ i < 2 ^ 62 ∧ -(2 ^ 62) ≤ j ∧ j < 2 ^ 62) ∧ P (rng i (j - i).toNat)
theorem ri_rng1 {lp : Bool} {te : TE} {w : M Int} (h : RE K EX ρ te D.int w) : RI K EX ρ (iRng1 (tCons te tNil)) lp D.int (w >>= fun j => rng1 j) := fun B O H σ E P PX R hw hq hx =>
  h B O H σ E _ PX _ hw (fun j v H1 p e r => by
    cases r
    exact ⟨j, rfl, p.1, p.2.1, hq _ _ _ p.2.2 e (itr_ok _ _)⟩) hx
def rngC (lo c : Int) (n : Nat) : List Int := (List.range n).map fun i => lo + ((i : Nat) : Int) * c
def revR (a b : Int) : M (List Int) := fun P _ => -(2 ^ 62) ≤ a ∧ a < 2 ^ 62 ∧ -(2 ^ 62) ≤ b ∧ b < 2 ^ 62 ∧ P (rngC (a + (((b - a).toNat : Nat) : Int) - 1) (-1) (b - a).toNat)
structure RTg (K : PySem.W.Frag) (g : TG) {α : Type} (en : α → D) (f : α → List Sl → List Sl) (vs : List Nat) : Prop where
  run : ∀ (B : Bs) (O : AP) (H : Hp) (σ : L2.St) (ρ : List Sl) (x : α) (v : V) (Q : L2.St → Hp → Prop), En K B O H σ ρ → Rep K O H v (en x) → (∀ σ', En K B O H σ' (f x ρ) → wipe σ' vs = wipe σ vs → Q σ' H) → g v σ H Q
theorem wipe1 (σ : L2.St) (i : Nat) (v : Option V) : wipe (σ.set i v) [i] = wipe σ [i] := by
  show (σ.set i v).set i none = σ.set i none
  rw [List.set_set]
theorem tg_name {en : α → D} (i : Nat) : RTg K (gName i) en (fun x ρ => ρ.set i (.sh (en x))) [i] := ⟨fun B O H σ ρ x v Q E r k => k _ (E.set i r) (wipe1 σ i _)⟩
def wipeR (ρ : List Sl) : List Nat → List Sl
  | [] => ρ
  | v :: vs => (wipeR ρ vs).set v .no
theorem En.wipe {B : Bs} {O : AP} {H : Hp} {σ : L2.St} (E : En K B O H σ ρ) (vs : List Nat) : En K B O H (L2.wipe σ vs) (wipeR ρ vs) := by
  induction vs with
  | nil => exact E
  | cons v vs ih =>
    refine ⟨ih.sub, ih.bdom, ih.osub, ih.dom, ih.adom, ih.fdom, ih.ext, ?_, fun j s' h => ?_, fun j k d e as bs b h1 h2 h3 h4 => ?_⟩
    · show ((L2.wipe σ vs).set v none).length = ((wipeR ρ vs).set v .no).length
      simp [ih.len]
    · rcases set_get h with ⟨rfl, rfl, hl⟩ | ⟨hn, h⟩
      · trivial
      · show SlOk K B O H (((L2.wipe σ vs).set v none)[j]?) s'
        rw [set_off hn]
        exact ih.at_ j s' h
    · rcases set_get h1 with ⟨_, h, _⟩ | ⟨n1, g1⟩
      · rw [h] at h3; exact h3.elim
      · rcases set_get h2 with ⟨_, h, _⟩ | ⟨n2, g2⟩
        · rw [h] at h4; exact h4.elim
        · have h3 : Own K H (((L2.wipe σ vs).set v none)[j]?) d as := h3
          have h4 : Own K H (((L2.wipe σ vs).set v none)[k]?) e bs := h4
          rw [set_off n1] at h3
          rw [set_off n2] at h4
          exact ih.inj j k d e as bs b g1 g2 h3 h4
theorem wipe_wipe (σ : L2.St) (vs : List Nat) : L2.wipe (L2.wipe σ vs) vs = L2.wipe σ vs := by
  have key : ∀ (vs : List Nat) (τ : L2.St) (i : Nat), (L2.wipe τ vs)[i]? = if i ∈ vs then (τ[i]?).map (fun _ => none) else τ[i]? := by
    intro vs
    induction vs with
    | nil => intro τ i; simp [L2.wipe]
    | cons v vs ih =>
      intro τ i
      show ((L2.wipe τ vs).set v none)[i]? = _
      rw [List.getElem?_set]
      by_cases c : v = i
      · subst c
        rw [if_pos rfl, wipe_length]
        by_cases d : v < τ.length
        · rw [if_pos d, if_pos (List.mem_cons_self ..), List.getElem?_eq_getElem d]; rfl
        · rw [if_neg d, if_pos (List.mem_cons_self ..), List.getElem?_eq_none (by omega)]; rfl
      · rw [if_neg c, ih τ i]
        by_cases m : i ∈ vs
        · rw [if_pos m, if_pos (List.mem_cons_of_mem _ m)]
        · rw [if_neg m, if_neg (fun z => (List.mem_cons.mp z).elim (fun e => c e.symm) m)]
  apply List.ext_getElem?
  intro i
  rw [key, key]
  by_cases m : i ∈ vs
  · rw [if_pos m, if_pos m, Option.map_map]; rfl
  · rw [if_neg m, if_neg m]
theorem En.grow {B : Bs} {O : AP} {H : Hp} {σ : L2.St} {p : Addr} {o o' : HO} (E : En K B O H σ ρ) (op : O p) (hp : H p = some o) (ns : ¬ isSrc o) (hF : B.F p = none) (hB : B.H p = none) (hn : ∀ (i : Nat) (s : Sl) (as : List Addr), ρ[i]? = some s → Own K H (σ[i]?) s as → p ∉ as) : En K B O (upd H p o') σ ρ := by
  have e : Ext (fun b => b = p) H (upd H p o') := up_ext hp ns
  refine ⟨E.sub, E.bdom, E.osub, fun b h => up_dom b (E.dom b h), fun b h => up_dom b (E.adom b h), fun b h => up_dom b (E.fdom b h), ?_, E.len, fun i s hs => (E.at_ i s hs).up op hF hp ns fun as w => hn i s as hs w, fun i j s t as bs b h1 h2 w1 w2 => E.inj i j s t as bs b h1 h2 ((E.at_ i s h1).upB op (fun as w => hn i s as h1 w) w1) ((E.at_ j t h2).upB op (fun as w => hn j t as h2 w) w2)⟩
  refine ⟨fun b o n s h => ?_, fun b h => e.src b (E.ext.src b h), fun b h => e.dom b (E.ext.dom b h)⟩
  have := E.ext.keep b o n s h
  rw [upd_ne]
  · exact this
  · intro z; rw [z, hB] at h; cases h
def lcM {α β : Type} : List α → (α → M Bool) → (α → M β) → M (List β)
  | [], _, _ => pure []
  | x :: l, t, f => t x >>= fun b => cond b (f x >>= fun y => lcM l t f >>= fun r => pure (y :: r)) (lcM l t f)
def RIat (K : PySem.W.Frag) (EX : L2.St → XK) (wi : TI) (lp : Bool) {α : Type} (en : α → D) (w : M (List α)) (O : AP) (H : Hp) (σ : L2.St) : Prop :=
  ∀ (P : List α → Prop) (PX : Exn → Prop) (R : It → Hp → Prop), w P PX → (∀ l J H', P l → Ext No H H' → ItOk K lp O H' J en l → R J H') → (∀ x cls d H', PX x → Ext No H H' → XOk K O H' cls d x → EX σ cls d H') → wi σ H R
theorem rf_lc_at {wi : TI} {g : TG} {tt : TT} {te : TE} {vs : List Nat} {en : α → D} {en' : β → D} {ft : α → List Sl → List Sl} {wl : M (List α)} {wt : α → M Bool} {wf : α → M β} (hg : RTg K g en ft vs) (ht : ∀ x, RT K EX (ft x (wipeR ρ vs)) tt (wt x)) (hf : ∀ x, RE K EX (ft x (wipeR ρ vs)) te en' (wf x))
    (hE : ∀ σ σ', L2.wipe σ vs = L2.wipe σ' vs → EX σ = EX σ') {B : Bs} {O : AP} {H : Hp} {σ : L2.St} (hi : RIat K EX wi false en wl O H σ) (E : En K B O H σ ρ) (P : List β → Prop) (PX : Exn → Prop) (Q : V → Hp → Prop) (hw : (wl >>= fun l => (need (l.length ≤ sizeLine) >>= fun _ => lcM l wt wf)) P PX) (hq : ∀ a v H', P a → Ext No H H' → resF K en' O H H' v a → Q v H') (hx : ∀ x cls d H', PX x → Ext No H H' → XOk K O H' cls d x → EX σ cls d H') : tLc wi g tt te vs σ H Q := by
  refine hi _ PX _ hw (fun l J H1 p e1 it => ?_) hx
  obtain ⟨hlen, p⟩ := p
  intro A hA
  have E1 := E.ex e1
  have hOA : ¬ O A := (E1.free hA).1
  have hBA := (E1.free hA).2
  have hFA := E1.bfree hA
  have nn : ∀ {H : Hp}, Ext No H1 H → ∀ (i : Nat) (s : Sl) (as : List Addr), ρ[i]? = some s → Own K H (σ[i]?) s as → A ∉ as := fun {H} e i s as h w m => by
    have w' := (E1.at_ i s h).back (ex_tr e) (fun _ _ b _ u n q => e.keep b u (fun z => z) n q) w
    exact hOA ((E1.at_ i s h).in_ w' A m).1
  refine ⟨fun i m H => i ≤ l.length ∧ m = l.length - i ∧ En K B (Pl O A) H σ ρ ∧ Ext No H1 H ∧ ∃ (acc : List β) (ws : List V), H A = some (.lst ws) ∧ RepL K (Pl O A) H ws (acc.map en') ∧ acc.length ≤ i ∧ lcM (l.drop i) wt wf (fun r => P (acc ++ r)) PX, ⟨l.length, Nat.zero_le _, rfl, E1.shun hA (.new hA) (by rw [upd_same]; exact fun z => nomatch z), .new hA, [], [], upd_same, .nil, Nat.zero_le _, p⟩, ?_⟩
  rintro i m H2 ⟨hi2, rfl, E2, e2, acc, ws, hA2, r2, hacc, p2⟩
  obtain ⟨ig, is⟩ := it H2 e2.no
  by_cases c : i < l.length
  · right
    obtain ⟨go, y⟩ := ig i l[i] (List.getElem?_eq_getElem c)
    refine ⟨go, fun H' => i + 1 ≤ l.length ∧ En K B (Pl O A) H' σ ρ ∧ Ext No H1 H' ∧ ∃ (acc : List β) (ws : List V), H' A = some (.lst ws) ∧ RepL K (Pl O A) H' ws (acc.map en') ∧ acc.length ≤ i + 1 ∧ lcM (l.drop (i + 1)) wt wf (fun r => P (acc ++ r)) PX, fun H' z => ⟨l.length - (i + 1), by omega, z.1, rfl, z.2⟩, fun v H3 hy => ?_⟩
    obtain ⟨e3, rv⟩ := y v H3 hy
    have E3 := E2.ex e3
    have rv := rv (Pl O A) (fun b z => z.elim .inl fun q => .inr (by rw [q]; exact hA)) E2.dom
    rw [List.drop_eq_getElem_cons c] at p2
    refine hg.run B (Pl O A) H3 _ _ l[i] v _ (E3.wipe vs) rv fun σ' E' hwp => ⟨by rw [hwp, wipe_wipe], ?_⟩
    have hEX : EX σ' = EX σ := hE _ _ (by rw [hwp, wipe_wipe])
    have e13 := e2.trans e3
    refine ht l[i] B (Pl O A) H3 σ' E' _ PX _ p2 (fun b H4 p4 e4 => ?_) fun x cls d H' px e k => by rw [hEX]; exact hx x cls d H' px (e1.trans (e13.trans e)) (k.mono fun b z => .inl z)
    have e14 := e13.trans e4
    have A4 : H4 A = some (.lst ws) := (e3.trans e4).keep _ _ (fun z => z) ns_lst hA2
    cases b with
    | false => exact iteF ⟨c, E3.ex e4, e14, acc, ws, A4, (r2.ex e3).ex e4, by omega, p4⟩
    | true =>
      refine iteT (hf l[i] B (Pl O A) H4 σ' (E'.ex e4) _ PX _ p4 (fun y u H5 p5 e5 r5 => ?_) fun x cls d H' px e k => by rw [hEX]; exact hx x cls d H' px (e1.trans (e14.trans e)) (k.mono fun b z => .inl z))
      have A5 : H5 A = some (.lst ws) := e5.keep _ _ (fun z => z) ns_lst A4
      have R5 := ((r2.ex e3).ex e4).ex e5
      have hl := R5.length
      rw [List.length_map] at hl
      have up : Ext (fun b => b = A) H5 (upd H5 A (.lst (ws ++ [u]))) := by
        refine ⟨fun b o n _ h => by rw [upd_ne n]; exact h, fun b ⟨n, s, t, h⟩ => ⟨n, s, t, ?_⟩, fun b h => up_dom b h⟩
        rw [upd_ne]
        · exact h
        · intro z; rw [z, A5] at h; cases h
      have sub : ∀ b, b = A → Pl O A b := fun b z => .inr z
      refine ⟨ws, A5, by omega, c, ((E3.ex e4).ex e5).grow (.inr rfl) A5 ns_lst hFA hBA (nn (e14.trans e5)), ?_, acc ++ [y], ws ++ [u], upd_same, ?_, by simp; omega, ?_⟩
      · have e15 := e14.trans e5
        refine ⟨fun b o n s h => ?_, fun b h => up.src b (e15.src b h), fun b h => up.dom b (e15.dom b h)⟩
        have := e15.keep b o n s h
        rw [upd_ne]
        · exact this
        · intro z; rw [z, hA] at h; cases h
      · rw [List.map_append]
        exact (R5.ext up sub).snoc (Rep.ext r5 up sub)
      · have : (fun r => P (acc ++ [y] ++ r)) = fun r => P (acc ++ (y :: r)) := by funext r; rw [List.append_assoc]; rfl
        rw [this]
        exact p5
  · left
    have hi3 : i = l.length := by omega
    subst hi3
    rw [List.drop_length] at p2
    have p2 : P (acc ++ []) := p2
    rw [List.append_nil] at p2
    exact ⟨is, hq acc _ H2 p2 (e1.trans e2) ⟨A, ws, rfl, e1.free (fun z => z) hA, hA2, r2⟩⟩
theorem rf_lc {wi : TI} {g : TG} {tt : TT} {te : TE} {vs : List Nat} {en : α → D} {en' : β → D} {ft : α → List Sl → List Sl} {wl : M (List α)} {wt : α → M Bool} {wf : α → M β} (hi : RI K EX ρ wi false en wl) (hg : RTg K g en ft vs) (ht : ∀ x, RT K EX (ft x (wipeR ρ vs)) tt (wt x)) (hf : ∀ x, RE K EX (ft x (wipeR ρ vs)) te en' (wf x))
    (hE : ∀ σ σ', L2.wipe σ vs = L2.wipe σ' vs → EX σ = EX σ') : RF K EX ρ (tLc wi g tt te vs) en' (wl >>= fun l => (need (l.length ≤ sizeLine) >>= fun _ => lcM l wt wf)) := fun B O H σ E P PX Q hw hq hx =>
  rf_lc_at hg ht hf hE (hi B O H σ E) E P PX Q hw hq hx
end
end Va

namespace Va
open PySem PySem.Spec PyProof.Rows L2 Bg
def spC (K : PySem.W.Frag) {α β : Type} (ar : α → List Sl) (res : Res β) (c : α → M β) : Sp := fun vs H Q E => ∃ (O : AP) (a : α) (P : β → Prop) (PX : Exn → Prop), ArOk K O H vs (ar a) ∧ (∀ b, O b → H b ≠ none) ∧ c a P PX ∧
  (∀ r v H', P r → Ext No H H' → res O H H' v r → Q v H') ∧ (∀ x cls d H', PX x → Ext No H H' → XOk K O H' cls d x → E cls d H')
def NoX {α β : Type} (c : α → M β) : Prop := ∀ a P PX, c a P PX → c a P fun _ => False
section
variable {K : PySem.W.Frag} {EX : L2.St → XK} {ρ : List Sl} {α β γ : Type}
theorem rg_call {t : TA} {ar : α → List Sl} {w : M α} {res : Res β} [Lasts res] {c : α → M β} (h : RA K EX ρ t ar w) (nx : NoX c) : RG K EX ρ (tCall (spC K ar res c) [] E0 t) res (w >>= c) := fun B O H σ E P PX Q hw hq hx =>
  h B O H σ E _ PX _ hw (fun a vs H1 p e r => ⟨O, a, P, fun _ => False, by rw [List.append_nil]; exact r, (E.ex e).dom, nx a P PX p, fun r v H' p' e' k => hq r v H' p' (e.trans e') (Lasts.base k e), fun _ _ _ _ z => z.elim⟩) hx
end
inductive Fl (S R : Type) where
  | nx (s : S) | bk (s : S) | rt (r : R)
structure EndS (R : Type) where
  S : Type
  ρ : S → List Sl
  k : S → M R
structure Fr (R : Type) where
  nx : EndS R
  bk : EndS R
  ct : EndS R
  RR : Type
  rr : Res RR
  kr : RR → M R
  ρx : List Sl
def LeX (ρx ρ : List Sl) : Prop := ρx = [] ∨ Le ρx ρ
theorem lex_nil {ρ : List Sl} : LeX [] ρ := .inl rfl
theorem lex_le {ρx ρ : List Sl} (h : Le ρx ρ) : LeX ρx ρ := .inr h
theorem le_nil : Le [] [] := ⟨rfl, fun i s h => nomatch h⟩
theorem le_cons {s : Sl} {a b : List Sl} (h : Le a b) : Le (s :: a) (s :: b) := ⟨by simp [h.1], fun i t e => by
  cases i with
  | zero => exact .inr e
  | succ i => exact h.2 i t e⟩
theorem le_no {s : Sl} {a b : List Sl} (h : Le a b) : Le (.no :: a) (s :: b) := ⟨by simp [h.1], fun i t e => by
  cases i with
  | zero => cases e; exact .inl rfl
  | succ i => exact h.2 i t e⟩
def RB (K : PySem.W.Frag) (EX : L2.St → XK) {R : Type} (F : Fr R) (ρ : List Sl) (t : TS) (p : M R) : Prop :=
  ∀ (B : Bs) (O : AP) (H : Hp) (σ : L2.St) (D : Ends), En K B O H σ ρ → ∀ (P : R → Prop) (PX : Exn → Prop), p P PX →
    (∀ s O' H' σ', En K B O' H' σ' (F.nx.ρ s) → F.nx.k s P PX → D.nx σ' H') → (∀ s O' H' σ', En K B O' H' σ' (F.bk.ρ s) → F.bk.k s P PX → D.bk σ' H') → (∀ s O' H' σ', En K B O' H' σ' (F.ct.ρ s) → F.ct.k s P PX → D.ct σ' H') →
    (∀ r v H', Ext B.A B.H H' → F.rr B.O B.F H' v r → F.kr r P PX → D.rt v H') →
    (∀ ρ' O' σ' x cls d H', En K B O' H' σ' ρ' → LeX F.ρx ρ' → PX x → XOk K O' H' cls d x → EX σ' cls d H') → t D σ H
section
variable {K : PySem.W.Frag} {EX : L2.St → XK} {ρ : List Sl} {α β γ R : Type} {F : Fr R}
theorem rb_nil {s : F.nx.S} (h : Le (F.nx.ρ s) ρ) : RB K EX F ρ tNext (F.nx.k s) := fun B O H σ D E P PX hp nx _ _ _ _ => nx s O H σ (E.le h) hp
theorem rb_set {te : TE} {en : α → D} {w : M α} {u : TS} {k : α → M R} (i : Nat) (he : RE K EX ρ te en w) (hk : ∀ a, RB K EX F (ρ.set i (.sh (en a))) u (k a)) (hx : LeX F.ρx ρ := by first | exact lex_nil | (refine lex_le ?_; repeat (first | exact le_nil | refine le_cons ?_ | refine le_no ?_))) : RB K EX F ρ (tSeq (tAsg te (gName i)) u) (w >>= k) := fun B O H σ D E P PX hp nx bk ct rt xc =>
  he B O H σ E _ PX _ hp (fun a v H1 p1 e1 r1 => hk a B O H1 (σ.set i (some v)) D ((E.ex e1).set i r1) P PX p1 nx bk ct rt xc) fun x cls d H' px e k => xc ρ O σ x cls d H' (E.ex e) hx px k
end
end Va

namespace Va
open PySem PySem.Spec PyProof.Rows L2 Bg
section
variable {K : PySem.W.Frag} {EX : L2.St → XK} {ρ : List Sl} {α β γ R : Type} {F : Fr R} {B : Bs} {O : AP} {H H' : Hp} {σ : L2.St}
def Bs.at (K : PySem.W.Frag) (B : Bs) (O : AP) (H : Hp) (σ : L2.St) (ρ : List Sl) : Bs := ⟨B.F, B.O, H, fun b => ∃ (i : Nat) (s : Sl) (as : List Addr), ρ[i]? = some s ∧ Own K H (σ[i]?) s as ∧ b ∈ as, O, B.S, B.Q, B.qF⟩
theorem SlOk.rb {B B' : Bs} {x : Option (Option V)} {s : Sl} (h : SlOk K B O H x s) (hF : B'.F = B.F) (hS : B'.S = B.S) (hQ : B'.Q = B.Q) (ha : ∀ as, Own K H x s as → ∀ p ∈ as, (B.A p ∨ B.H p = none) → B'.A p ∨ B'.H p = none) : SlOk K B' O H x s := by
  cases s with
  | no => trivial
  | sh d => exact h
  | src => exact h
  | scr ns => exact h
  | sq ds => obtain ⟨a, vs, e1, q, r⟩ := h; exact ⟨a, vs, e1, by rw [hQ]; exact q, r⟩
  | pin v => exact h
  | exc a cls d ex => exact h
  | od t =>
    obtain ⟨v, as, e1, r, nd, k⟩ := h
    exact ⟨v, as, e1, r, nd, fun b z => ⟨(k b z).1, by rw [hF]; exact (k b z).2.1, ha as ⟨v, O, e1, r⟩ b z (k b z).2.2⟩⟩
  | mo v t =>
    obtain ⟨e1, as, r, nd, k⟩ := h
    exact ⟨e1, as, r, nd, fun b z => ⟨(k b z).1, by rw [hF]; exact (k b z).2.1, ha as ⟨e1, O, r⟩ b z (k b z).2.2⟩⟩
  | ow d =>
    cases d with
    | lst ds => obtain ⟨q, vs, e1, o, f, a, hp, r⟩ := h; exact ⟨q, vs, e1, o, by rw [hF]; exact f, ha _ ⟨q, e1, rfl⟩ q List.mem_cons_self a, hp, r⟩
    | dct es => obtain ⟨q, vs, e1, o, f, a, hp, n, k, r⟩ := h; exact ⟨q, vs, e1, o, by rw [hF]; exact f, ha _ ⟨q, e1, rfl⟩ q List.mem_cons_self a, hp, n, k, r⟩
    | dcp es => obtain ⟨q, vs, e1, o, f, a, hp, k, r⟩ := h; exact ⟨q, vs, e1, o, by rw [hF]; exact f, ha _ ⟨q, e1, rfl⟩ q List.mem_cons_self a, hp, k, r⟩
    | obj C gs =>
      obtain ⟨dx, vs, e1, o, f, a, hp, k, r⟩ := h
      show ∃ dx fs, _
      rw [hS, hF]
      exact ⟨dx, vs, e1, o, f, ha _ ⟨_, e1, rfl⟩ _ List.mem_cons_self a, hp, k, r⟩
    | _ => exact h.elim
theorem En.at_own (E : En K B O H σ ρ) {b : Addr} (h : (Bs.at K B O H σ ρ).A b) : O b ∧ B.F b = none ∧ (B.A b ∨ B.H b = none) ∧ ∃ u, H b = some u ∧ ¬ isSrc u := by
  obtain ⟨i, s, as, h1, w, m⟩ := h
  exact (E.at_ i s h1).in_ w b m
theorem En.reb (E : En K B O H σ ρ) : En K (Bs.at K B O H σ ρ) O H σ ρ := by
  refine ⟨E.sub, E.bdom, fun b h => .inl h, E.dom, fun b h => ?_, E.fdom, .refl _ _, E.len, fun i s h => (E.at_ i s h).rb rfl rfl rfl fun as w p m _ => .inl ⟨i, s, as, h, w, m⟩, E.inj⟩
  obtain ⟨_, _, _, u, hu, _⟩ := E.at_own h
  rw [hu]
  exact fun z => nomatch z
theorem En.extc (E : En K B O H σ ρ) {H' : Hp} (e : Ext (Bs.at K B O H σ ρ).A H H') : Ext B.A B.H H' := by
  refine ⟨fun b o n s h => e.keep b o (fun w => ?_) s (E.ext.keep b o n s h), fun b h => e.src b (E.ext.src b h), fun b h => e.dom b (E.ext.dom b h)⟩
  obtain ⟨_, _, a, _⟩ := E.at_own w
  rcases a with a | a
  · exact n a
  · rw [a] at h; cases h
theorem En.unb {O' : AP} {H' : Hp} {σ' : L2.St} {ρ' : List Sl} (E : En K B O H σ ρ) (E' : En K (Bs.at K B O H σ ρ) O' H' σ' ρ') : En K B O' H' σ' ρ' := by
  have own : ∀ b, (Bs.at K B O H σ ρ).A b → B.A b ∨ B.H b = none := fun b w => (E.at_own w).2.2.1
  refine ⟨E'.sub, E'.bdom, fun b h => (E'.osub b h).elim (E.osub b) fun z => .inr (E.free z).2, E'.dom, fun b h => ?_, E'.fdom, E.extc E'.ext, E'.len, fun i s h => (E'.at_ i s h).rb rfl rfl rfl fun as _ p _ a => a.elim (own p) fun z => .inr (E.free z).2, E'.inj⟩
  by_cases c : (Bs.at K B O H σ ρ).A b
  · exact E'.adom b c
  · exact E'.ext.some c (E.adom b h)
theorem En.frzW {i : Nat} {s : Sl} {as : List Addr} {v : V} {d : D} (E : En K B O H σ ρ) (h : ρ[i]? = some s) (w : Own K H (σ[i]?) s as) (hv : σ[i]? = some (some v)) (r : Rep K (fun b => O b ∧ b ∉ as) H v d) : En K B (fun b => O b ∧ b ∉ as) H σ (ρ.set i (.sh d)) := by
  have ia := (E.at_ i s h).in_ w
  refine ⟨fun b z => ⟨E.sub b z, fun m => E.bdom b z (ia b m).2.1⟩, E.bdom, fun b z => E.osub b z.1, fun b z => E.dom b z.1, E.adom, E.fdom, E.ext, by simp [E.len], fun j t hj => ?_, fun j k t1 t2 as1 as2 b h1 h2 w1 w2 m1 m2 => ?_⟩
  · rcases set_get hj with ⟨rfl, rfl, hl⟩ | ⟨hne, hj⟩
    · exact ⟨v, hv, r⟩
    · have hjs := E.at_ j t hj
      exact hjs.tr (fun b u n _ q => ⟨q, fun z => n z.1⟩) (fun bs wb b m => ⟨fun u _ q => q, (hjs.in_ wb b m).1, fun m' => hne (E.inj i j s t as bs b h hj w wb m' m)⟩) (fun a o sr => ⟨⟨o, fun m => by
        obtain ⟨u, hu, ns⟩ := (ia a m).2.2.2
        obtain ⟨n1, n2, n3, sr⟩ := sr
        rw [sr] at hu
        cases hu
        exact ns ⟨_, _, _, rfl⟩⟩, sr⟩) (fun a ns z => z.wide fun b z => .inl z.1) fun b u _ _ q => q
  · rcases set_get h1 with ⟨_, e, _⟩ | ⟨n1, g1⟩
    · rw [e] at w1; exact w1.elim
    · rcases set_get h2 with ⟨_, e, _⟩ | ⟨n2, g2⟩
      · rw [e] at w2; exact w2.elim
      · exact E.inj j k t1 t2 as1 as2 b g1 g2 w1 w2 m1 m2
theorem ow_rep {x : Option (Option V)} {d : D} {p : Addr} (h : SlOk K B O H x (.ow d)) (hx : x = some (some (.ref p))) : Rep K (fun b => O b ∧ b ∉ [p]) H (.ref p) d := by
  have mo : ∀ b, (O b ∧ b ∉ [p]) → O b := fun b z => z.1
  have no : ¬ (O p ∧ p ∉ [p]) := fun z => z.2 List.mem_cons_self
  cases d with
  | lst ds => obtain ⟨q, vs, e1, o, f, a, hp, r⟩ := h; rw [hx] at e1; cases e1; exact .lst no hp (r.mono mo)
  | dct es => obtain ⟨q, vs, e1, o, f, a, hp, n, k, r⟩ := h; rw [hx] at e1; cases e1; exact .dct no (.inl hp) n k (r.mono mo)
  | dcp es => obtain ⟨q, vs, e1, o, f, a, hp, k, r⟩ := h; rw [hx] at e1; cases e1; exact .dcp no (.inl hp) k (r.mono mo)
  | obj C gs => obtain ⟨dx, vs, e1, o, f, a, hp, k, r⟩ := h; rw [hx] at e1; cases e1; exact .obj no hp k (r.mono mo)
  | _ => exact h.elim
theorem En.frz {i : Nat} {d : D} (E : En K B O H σ ρ) (h : ρ[i]? = some (.ow d)) : ∃ O', (∀ b, O' b → O b) ∧ En K B O' H σ (ρ.set i (.sh d)) := by
  obtain ⟨p, hs, w⟩ := (E.at_ i _ h).own
  exact ⟨_, fun b z => z.1, E.frzW h w hs (ow_rep (E.at_ i _ h) hs)⟩
def setI {α : Type} (l : List α) (i : Int) (a : α) : M (List α) := fun P _ => ∃ j, ixN l.length i = some j ∧ P (l.set j a)
def popL {α : Type} (l : List α) : M (List α × α) := fun P _ => ∃ x, l[l.length - 1]? = some x ∧ P (l.dropLast, x)
end
end Va

namespace Va
open PySem PySem.Spec PyProof.Rows L2 Bg
section
variable {K : PySem.W.Frag} {EX : L2.St → XK} {ρ : List Sl} {α β γ R : Type} {F : Fr R}
theorem rb_retF {te : TE} {en : α → D} {w : M (List α)} {u : TS} {nx bk ct : EndS R} {kr : List α → M R} {ρx : List Sl} (he : RF K EX ρ te en w) (hx : LeX ρx ρ := by first | exact lex_nil | (refine lex_le ?_; repeat (first | exact le_nil | refine le_cons ?_ | refine le_no ?_))) : RB K EX ⟨nx, bk, ct, List α, resF K en, kr, ρx⟩ ρ (tSeq (tRet te) u) (w >>= kr) := fun B O H σ D E P PX hp nx bk ct rt xc =>
  he B O H σ E _ PX _ hp (fun a v H1 p1 e1 r1 => rt a v H1 (E.ex e1).ext (by
    obtain ⟨p, vs, e, n, h, r⟩ := r1
    exact ⟨p, vs, e, E.bfree n, h, r.mono fun b z => z.imp (E.sub b) id⟩) p1) fun x cls d H' px e k => xc ρ O σ x cls d H' (E.ex e) hx px k
theorem rb_retE {te : TE} {en : α → D} {w : M α} {u : TS} {nx bk ct : EndS R} {kr : α → M R} {ρx : List Sl} (he : RE K EX ρ te en w) (hx : LeX ρx ρ := by first | exact lex_nil | (refine lex_le ?_; repeat (first | exact le_nil | refine le_cons ?_ | refine le_no ?_))) : RB K EX ⟨nx, bk, ct, α, resE K en, kr, ρx⟩ ρ (tSeq (tRet te) u) (w >>= kr) := fun B O H σ D E P PX hp nx bk ct rt xc =>
  he B O H σ E _ PX _ hp (fun a v H1 p1 e1 r1 => rt a v H1 (E.ex e1).ext (Rep.mono r1 E.sub) p1) fun x cls d H' px e k => xc ρ O σ x cls d H' (E.ex e) hx px k
theorem rb_if {tc : TT} {t1 t2 u : TS} {wc : M Bool} {p1 p2 : M R} {S : Type} {ρj : S → List Sl} {k : S → M R} (hc : RT K EX ρ tc wc) (h1 : RB K EX { F with nx := ⟨S, ρj, k⟩ } ρ t1 p1) (h2 : RB K EX { F with nx := ⟨S, ρj, k⟩ } ρ t2 p2) (hk : ∀ s, RB K EX F (ρj s) u (k s)) (hx : LeX F.ρx ρ := by first | exact lex_nil | (refine lex_le ?_; repeat (first | exact le_nil | refine le_cons ?_ | refine le_no ?_))) :
    RB K EX F ρ (tSeq (tIfS tc t1 t2) u) (wc >>= fun b => cond b p1 p2) := fun B O H σ D E P PX hp nx bk ct rt xc =>
  hc B O H σ E _ PX _ hp (fun b H1 p e => by
    have go : ∀ s O' H' σ', En K B O' H' σ' (ρj s) → k s P PX → u D σ' H' := fun s O' H' σ' E' q => hk s B O' H' σ' D E' P PX q nx bk ct rt xc
    cases b with
    | true => exact iteT (h1 B O H1 σ { D with nx := u D } (E.ex e) P PX p go bk ct rt xc)
    | false => exact iteF (h2 B O H1 σ { D with nx := u D } (E.ex e) P PX p go bk ct rt xc)) fun x cls d H' px e k => xc ρ O σ x cls d H' (E.ex e) hx px k
def frS (S : Type) (ρj : S → List Sl) (ρx : List Sl) : Fr S := ⟨⟨S, ρj, fun s => pure s⟩, ⟨Empty, fun _ => [], fun e => e.elim⟩, ⟨Empty, fun _ => [], fun e => e.elim⟩, Empty, fun _ _ _ _ e => e.elim, fun e => e.elim, ρx⟩
def frC (S : Type) (ρj : S → List Sl) (ρx : List Sl) : Fr S := ⟨⟨S, ρj, fun s => pure s⟩, ⟨Empty, fun _ => [], fun e => e.elim⟩, ⟨S, ρj, fun s => pure s⟩, Empty, fun _ _ _ _ e => e.elim, fun e => e.elim, ρx⟩
def joinM {S R : Type} (m : M S) (k : S → M R) : M R := m >>= k
theorem rb_ifS {tc : TT} {t1 t2 u : TS} {wc : M Bool} {S : Type} {p1 p2 : M S} (ρj : S → List Sl) {k : S → M R} (hc : RT K EX ρ tc wc) (h1 : RB K EX (frS S ρj F.ρx) ρ t1 p1) (h2 : RB K EX (frS S ρj F.ρx) ρ t2 p2) (hk : ∀ s, RB K EX F (ρj s) u (k s)) (hx : LeX F.ρx ρ := by first | exact lex_nil | (refine lex_le ?_; repeat (first | exact le_nil | refine le_cons ?_ | refine le_no ?_))) :
    RB K EX F ρ (tSeq (tIfS tc t1 t2) u) (joinM (wc >>= fun b => cond b p1 p2) k) := fun B O H σ D E P PX hp nx bk ct rt xc =>
  hc B O H σ E _ PX _ hp (fun b H1 p e => by
    have go : ∀ s O' H' σ', En K B O' H' σ' (ρj s) → (fun s => k s P PX) s → u D σ' H' := fun s O' H' σ' E' q => hk s B O' H' σ' D E' P PX q nx bk ct rt xc
    cases b with
    | true => exact iteT (h1 B O H1 σ { D with nx := u D } (E.ex e) (fun s => k s P PX) PX p go (fun s => Empty.elim s) (fun s => Empty.elim s) (fun s => Empty.elim s) xc)
    | false => exact iteF (h2 B O H1 σ { D with nx := u D } (E.ex e) (fun s => k s P PX) PX p go (fun s => Empty.elim s) (fun s => Empty.elim s) (fun s => Empty.elim s) xc)) fun x cls d H' px e k => xc ρ O σ x cls d H' (E.ex e) hx px k
def forL {α S R : Type} : List α → S → (α → S → M (Fl S R)) → M (Fl S R)
  | [], s, _ => pure (.nx s)
  | x :: l, s, f => f x s >>= fun r => match r with
    | .nx s' => forL l s' f
    | .bk s' => pure (.nx s')
    | .rt r => pure (.rt r)
def frL (F : Fr R) (S : Type) (ρl : S → List Sl) : Fr (Fl S F.RR) := ⟨⟨S, ρl, fun s => pure (.nx s)⟩, ⟨S, ρl, fun s => pure (.bk s)⟩, ⟨S, ρl, fun s => pure (.nx s)⟩, F.RR, F.rr, fun r => pure (.rt r), F.ρx⟩
def aft {S RR R : Type} (k : S → M R) (kr : RR → M R) : Fl S RR → M R
  | .nx s => k s
  | .bk s => k s
  | .rt r => kr r
theorem rb_for {wi : TI} {g : TG} {tb u : TS} {en : α → D} {ft : α → List Sl → List Sl} {vs : List Nat} {wl : M (List α)} {S : Type} (ρl : S → List Sl) (s0 : S) {f : α → S → M (Fl S F.RR)} {k : S → M R} (hi : RI K EX ρ wi true en wl) (hg : RTg K g en ft vs) (h0 : Le (ρl s0) ρ)
    (hb : ∀ x s, RB K EX (frL F S ρl) (ft x (ρl s)) tb (f x s)) (hk : ∀ s, RB K EX F (ρl s) u (k s)) (hx : LeX F.ρx ρ := by first | exact lex_nil | (refine lex_le ?_; repeat (first | exact le_nil | refine le_cons ?_ | refine le_no ?_))) :
    RB K EX F ρ (tSeq (tFor wi g tb) u) (wl >>= fun l => forL l s0 f >>= aft k F.kr) := fun B O H σ D E P PX hp nx bk ct rt xc => by
  refine hi B O H σ E _ PX _ hp (fun l J H1 p e1 it => ?_) fun x cls d H' px e k => xc ρ O σ x cls d H' (E.ex e) hx px k
  have E1 := (E.ex e1).le h0
  have E1b := E1.reb
  generalize hB : Bs.at K B O H1 σ (ρl s0) = B' at E1b
  have un : ∀ {O' H' σ' ρ'}, En K B' O' H' σ' ρ' → En K B O' H' σ' ρ' := fun z => E1.unb (by rw [hB]; exact z)
  have hA : ∀ b, B'.A b → O b := fun b z => by
    rw [← hB] at z
    exact (E1.at_own z).1
  have hH : B'.H = H1 := by rw [← hB]; rfl
  have hPO : B'.P = O := by rw [← hB]; rfl
  have hO : B'.O = B.O := by rw [← hB]; rfl
  have hF : B'.F = B.F := by rw [← hB]; rfl
  refine ⟨fun i m σ' H' => i ≤ l.length ∧ m = l.length - i ∧ ∃ s O', En K B' O' H' σ' (ρl s) ∧ forL (l.drop i) s f (fun r => aft k F.kr r P PX) PX, ⟨l.length, Nat.zero_le _, rfl, s0, O, E1b, p⟩, ?_⟩
  rintro i m σ2 H2 ⟨hi2, rfl, s, O2, E2, p2⟩
  have e12 : Ext B'.A H1 H2 := hH ▸ E2.ext
  have e12' : Ext (Aof true O) H1 H2 := e12.wk fun b z => ⟨rfl, hA b z⟩
  obtain ⟨ig, is⟩ := it H2 e12'
  by_cases c : i < l.length
  · right
    obtain ⟨go, y⟩ := ig i l[i] (List.getElem?_eq_getElem c)
    refine ⟨go, fun σ' H' => i + 1 ≤ l.length ∧ ∃ s O', En K B' O' H' σ' (ρl s) ∧ forL (l.drop (i + 1)) s f (fun r => aft k F.kr r P PX) PX, fun σ' H' z => ⟨l.length - (i + 1), by omega, z.1, rfl, z.2⟩, fun v H3 hy => ?_⟩
    obtain ⟨e3, rv⟩ := y v H3 hy
    have E3 := E2.ex e3
    have rv := rv O2 (fun b z => by rw [← hPO, ← hH]; exact E2.osub b z) E2.dom
    rw [List.drop_eq_getElem_cons c] at p2
    refine hg.run B' O2 H3 σ2 (ρl s) l[i] v _ E3 rv fun σ' E' _ => ?_
    refine hb l[i] s B' O2 H3 σ' _ E' _ PX p2 (fun s' O' H' σ' E' q => ⟨c, s', O', E', q⟩) (fun s' O' H' σ' E' q => ?_) (fun s' O' H' σ' E' q => ⟨c, s', O', E', q⟩) (fun r v H' e q1 q2 => ?_) fun ρ' O' σ' x cls d H' E' l' px k => ?_
    · exact hk s' B O' H' σ' D (un E') P PX q nx bk ct rt xc
    · have e' : Ext (Bs.at K B O H1 σ (ρl s0)).A H1 H' := by rw [hB]; exact hH ▸ e
      exact rt r v H' (E1.extc e') (by rw [← hO, ← hF]; exact q1) q2
    · exact xc ρ' O' σ' x cls d H' (un E') l' px k
  · left
    have hi3 : i = l.length := by omega
    subst hi3
    rw [List.drop_length] at p2
    exact ⟨is, hk s B O2 H2 σ2 D (un E2) P PX p2 nx bk ct rt xc⟩
def fnFr {β : Type} (res : Res β) : Fr β := ⟨⟨Empty, fun _ => [], fun e => e.elim⟩, ⟨Empty, fun _ => [], fun e => e.elim⟩, ⟨Empty, fun _ => [], fun e => e.elim⟩, β, res, fun r => pure r, []⟩
def fnFrN (K : PySem.W.Frag) (n : Nat) : Fr Unit := ⟨⟨Unit, fun _ => List.replicate n .no, fun _ => pure ()⟩, ⟨Empty, fun _ => [], fun e => e.elim⟩, ⟨Empty, fun _ => [], fun e => e.elim⟩, Unit, resE K eU, fun r => pure r, []⟩
theorem ArOk.slot {O : AP} {H : Hp} {B : Bs} {vs : List V} {ss : List Sl} (h : ArOk K O H vs ss) (hB : ∀ b us, H b = some (.lst us) → B.Q b) : ∀ (i : Nat) (s : Sl), ss[i]? = some s → SlOk K B O H ((vs.map some)[i]?) s ∧ ∀ H x as, ¬ Own K H x s as := by
  induction h with
  | nil => intro i s h; cases h
  | sh r _ ih =>
    intro i s h
    cases i with
    | zero => cases h; exact ⟨⟨_, rfl, r⟩, fun _ _ _ z => z⟩
    | succ i => exact ih i s h
  | src o s' _ ih =>
    intro i s h
    cases i with
    | zero => cases h; exact ⟨⟨_, rfl, o, s'⟩, fun _ _ _ z => z⟩
    | succ i => exact ih i s h
  | scr e _ ih =>
    intro i s h
    cases i with
    | zero => cases h; exact ⟨⟨_, rfl, e⟩, fun _ _ _ z => z⟩
    | succ i => exact ih i s h
  | sq q r _ ih =>
    intro i s h
    cases i with
    | zero => cases h; exact ⟨⟨_, _, rfl, hB _ _ q, q, r⟩, fun _ _ _ z => z⟩
    | succ i => exact ih i s h
theorem ArOk.length {O : AP} {H : Hp} {vs : List V} {ss : List Sl} (h : ArOk K O H vs ss) : vs.length = ss.length := by
  induction h with
  | nil => rfl
  | sh _ _ ih => rw [List.length_cons, List.length_cons, ih]
  | src _ _ _ ih => rw [List.length_cons, List.length_cons, ih]
  | scr _ _ ih => rw [List.length_cons, List.length_cons, ih]
  | sq _ _ _ ih => rw [List.length_cons, List.length_cons, ih]
theorem En.start {O : AP} {H : Hp} {vs : List V} {ss : List Sl} {N : List Str} (h : ArOk K O H vs ss) (d : ∀ b, O b → H b ≠ none) (hl : ss.length ≤ N.length) : En K ⟨H, O, H, No, O, 0, fun b => H b ≠ none, fun _ z => z⟩ O H (L2.start N vs) (ss ++ List.replicate (N.length - ss.length) .no) := by
  have hlen := h.length
  have nn : ∀ (i : Nat) (s : Sl) (H' : Hp) (x : Option (Option V)) (as : List Addr), (ss ++ List.replicate (N.length - ss.length) Sl.no)[i]? = some s → ¬ Own K H' x s as := fun i s H' x as hi w => by
    by_cases c : i < ss.length
    · rw [List.getElem?_append_left c] at hi
      exact (h.slot (B := ⟨H, O, H, No, O, 0, fun b => H b ≠ none, fun _ z => z⟩) (fun _ _ z e => by rw [e] at z; cases z) i _ hi).2 _ _ _ w
    · rw [List.getElem?_append_right (by omega)] at hi
      have := List.mem_of_getElem? hi
      rw [List.mem_replicate] at this
      rw [this.2] at w
      exact w
  refine ⟨fun b z => z, d, fun b z => .inl z, d, fun b z => z.elim, fun b z => z, .refl _ _, ?_, fun i s hi => ?_, fun i j s t as bs b h1 _ w => (nn i s _ _ as h1 w).elim⟩
  · simp [L2.start]; omega
  · by_cases c : i < ss.length
    · rw [List.getElem?_append_left c] at hi
      have := (h.slot (B := ⟨H, O, H, No, O, 0, fun b => H b ≠ none, fun _ z => z⟩) (fun _ _ z e => by rw [e] at z; cases z) i _ hi).1
      unfold L2.start
      rw [List.getElem?_append_left (by simp; omega)]
      exact this
    · rw [List.getElem?_append_right (by omega)] at hi
      have := List.mem_of_getElem? hi
      rw [List.mem_replicate] at this
      rw [this.2]
      trivial
theorem fn_run {N : List Str} {vs : List V} {H : Hp} {Q : VK} {E : XK} {t : TS} {ar : α → List Sl} {res : Res β} {c p : α → M β} (h : spC K ar res c vs H Q E) (hl : ∀ a, (ar a).length ≤ N.length) (hb : ∀ a, RB K (fun _ => E) (fnFr res) (ar a ++ List.replicate (N.length - (ar a).length) .no) t (p a)) (hc : ∀ a P PX, c a P PX → p a P PX) :
    t { nx := fun _ H' => Q .non H', rt := Q } (L2.start N vs) H := by
  obtain ⟨O, a, P, PX, h1, h2, h3, h4, h5⟩ := h
  refine hb a ⟨H, O, H, No, O, 0, fun b => H b ≠ none, fun _ z => z⟩ O H _ _ (En.start h1 h2 (hl a)) P PX (hc a P PX h3) (fun s => Empty.elim s) (fun s => Empty.elim s) (fun s => Empty.elim s) (fun r v H' e q1 q2 => h4 r v H' q2 e q1) fun ρ' O' σ' x cls d H' E' _ px k => h5 x cls d H' px E'.ext (k.mono E'.sub)
theorem spC_len {vs : List V} {H : Hp} {Q : VK} {E : XK} {ar : α → List Sl} {res : Res β} {c : α → M β} {n : Nat} (h : spC K ar res c vs H Q E) (hl : ∀ a, (ar a).length = n) : vs.length = n := by
  obtain ⟨O, a, P, PX, h1, _⟩ := h
  rw [h1.length, hl a]
theorem le_refl (ρ : List Sl) : Le ρ ρ := ⟨rfl, fun _ _ h => .inr h⟩
end
end Va

namespace Va
open PySem PySem.Spec PyProof.Rows L2 Bg
section
variable {K : PySem.W.Frag} {EX : L2.St → XK} {ρ : List Sl} {α β γ R : Type} {F : Fr R}
theorem re_tup2 {ta tb : TE} {e1 : α → D} {e2 : β → D} {wa : M α} {wb : M β} (ha : RE K EX ρ ta e1 wa) (hb : RE K EX ρ tb e2 wb) : RE K EX ρ (tTup (tCons ta (tCons tb tNil))) (eT2 e1 e2) (wa >>= fun a => wb >>= fun b => pure (a, b)) := fun B O H σ E P PX Q hw hq hx =>
  ha B O H σ E _ PX _ hw (fun a v H1 p1 e1 r1 => hb B O H1 σ (E.ex e1) _ PX _ p1 (fun b u H2 p2 e2 r2 => ⟨(by decide : 2 ≤ sizeLine), fun c n => hq (a, b) _ _ p2 ((e1.trans e2).trans (.new n)) (.tup (fun z => (E.ex (e1.trans e2)).dom c z n) upd_same (.cons ((Rep.ex r1 e2).ex (.new n)) (.cons (Rep.ex r2 (.new n)) .nil)))⟩)
    fun x cls d H' px e k => hx x cls d H' px (e1.trans e) k) hx
theorem rt_yes : RT K EX ρ tYes (pure true) := fun B O H σ E P PX Q hw hq _ => hq true H hw (.refl _ _)
def lrg (i j : Int) : M (List Int) := fun P _ => RgOk i j ∧ P (rng i (j - i).toNat)
def tyD : D → Option String
  | .non => some "NoneType" | .bl _ => some "bool" | .int _ => some "int" | .str _ => some "str" | .lst _ => some "list" | .tup _ => some "tuple" | .dct _ => some "dict" | .dcp _ => none | .obj _ _ => none | .glo _ => none | .exc _ _ => none
def isD (T : String) (d : D) : Bool := tyD d == some T || (T == "int" && tyD d == some "bool")
def isiM (T : String) (d : D) : M Bool := fun P _ => tyD d ≠ none ∧ P (isD T d)
def resSrc : Res Unit := fun _ H H' v _ => ∃ p, v = .ref p ∧ H p = none ∧ Src H' p
instance : Lasts resSrc := ⟨fun ⟨p, e, n, s⟩ x => ⟨p, e, n, x.src _ s⟩, fun ⟨p, e, n, s⟩ x => ⟨p, e, x.free (fun z => z) n, s⟩⟩
end
end Va

namespace Va
open PySem PySem.Spec PyProof.Rows L2 Bg
def wholeD : D → Bool
  | .int _ => true
  | _ => false
def labelD : D → Bool
  | .str z => labelB z
  | _ => false
def withinD (d : D) (lo hi : Int) : Bool := match d with
  | .int i => decide (lo ≤ i) && decide (i ≤ hi)
  | _ => false
section
variable {α β γ S R : Type} {P : R → Prop} {X : Exn → Prop}
theorem cond_ap (b : Bool) (p q : M R) : (cond b p q) P X = ((b = true → p P X) ∧ (b = false → q P X)) := by
  cases b with
  | true => exact propext ⟨fun h => ⟨fun _ => h, fun z => nomatch z⟩, fun h => h.1 rfl⟩
  | false => exact propext ⟨fun h => ⟨fun z => (nomatch z), fun _ => h⟩, fun h => h.2 rfl⟩
theorem ite_ap {c : Prop} [Decidable c] (a b : M R) : (if c then a else b) P X = if c then a P X else b P X := by
  by_cases h : c
  · rw [if_pos h, if_pos h]
  · rw [if_neg h, if_neg h]
theorem frC_nx {ρ : S → List Sl} {x : List Sl} (s : S) : (frC S ρ x).nx.k s = (pure s : M S) := rfl
theorem frC_ct {ρ : S → List Sl} {x : List Sl} (s : S) : (frC S ρ x).ct.k s = (pure s : M S) := rfl
theorem frS_nx {ρ : S → List Sl} {x : List Sl} (s : S) : (frS S ρ x).nx.k s = (pure s : M S) := rfl
theorem frL_nx {F : Fr R} {ρ : S → List Sl} (s : S) : (frL F S ρ).nx.k s = (pure (.nx s) : M (Fl S F.RR)) := rfl
theorem frL_ct {F : Fr R} {ρ : S → List Sl} (s : S) : (frL F S ρ).ct.k s = (pure (.nx s) : M (Fl S F.RR)) := rfl
theorem frL_bk {F : Fr R} {ρ : S → List Sl} (s : S) : (frL F S ρ).bk.k s = (pure (.bk s) : M (Fl S F.RR)) := rfl
theorem frL_kr {F : Fr R} {ρ : S → List Sl} (r : F.RR) : (frL F S ρ).kr r = (pure (.rt r) : M (Fl S F.RR)) := rfl
theorem fn_kr {res : Res R} (r : R) : (fnFr res).kr r = (pure r : M R) := rfl
theorem fn_bk {res : Res R} (m : M R) : (m >>= (fnFr res).kr) = m := rfl
theorem frL_bd {F : Fr R} {ρ : S → List Sl} (m : M F.RR) : (m >>= (frL F S ρ).kr) = (m >>= fun r => (pure (.rt r) : M (Fl S F.RR))) := rfl
theorem fnN_kr {K : PySem.W.Frag} {n : Nat} (r : Unit) : (fnFrN K n).kr r = (pure r : M Unit) := rfl
theorem fnN_nx {K : PySem.W.Frag} {n : Nat} (r : Unit) : (fnFrN K n).nx.k r = (pure r : M Unit) := rfl
theorem aft_nx {RR : Type} (k : S → M R) (kr : RR → M R) (s : S) : aft k kr (.nx s) = k s := rfl
theorem aft_bk {RR : Type} (k : S → M R) (kr : RR → M R) (s : S) : aft k kr (.bk s) = k s := rfl
theorem aft_rt {RR : Type} (k : S → M R) (kr : RR → M R) (r : RR) : aft k kr (.rt r) = kr r := rfl
theorem vint {a b : Int} : (V.int a = V.int b) = (a = b) := propext ⟨fun z => by injection z, fun z => by rw [z]⟩
theorem vstr {a b : Str} : (V.str a = V.str b) = (a = b) := propext ⟨fun z => by injection z, fun z => by rw [z]⟩
theorem vbl {a b : Bool} : (V.bl a = V.bl b) = (a = b) := propext ⟨fun z => by injection z, fun z => by rw [z]⟩
section
variable {P : Bool → Prop}
theorem eq_ii (a b : Int) : eqF false (.int a) (.int b) P X = P (decide (a = b)) := by
  simp [eqF, flatD, flV, scal, vint]
theorem ne_ii (a b : Int) : eqF true (.int a) (.int b) P X = P (!decide (a = b)) := by
  simp [eqF, flatD, flV, scal, vint]
theorem eq_ss (a b : Str) : eqF false (.str a) (.str b) P X = P (decide (a = b)) := by
  simp [eqF, flatD, flV, scal, vstr]
theorem ne_ss (a b : Str) : eqF true (.str a) (.str b) P X = P (!decide (a = b)) := by
  simp [eqF, flatD, flV, scal, vstr]
theorem eq_bb (a b : Bool) : eqF false (.bl a) (.bl b) P X = P (decide (a = b)) := by
  simp [eqF, flatD, flV, scal, vbl]
theorem ne_bb (a b : Bool) : eqF true (.bl a) (.bl b) P X = P (!decide (a = b)) := by
  simp [eqF, flatD, flV, scal, vbl]
theorem eq_oi (o : Option Int) (b : Int) : eqF false (eO D.int o) (.int b) P X = P (decide (o = some b)) := by
  cases o <;> simp [eqF, flatD, flV, scal, vint, eO]
theorem ne_oi (o : Option Int) (b : Int) : eqF true (eO D.int o) (.int b) P X = P (!decide (o = some b)) := by
  cases o <;> simp [eqF, flatD, flV, scal, vint, eO]
theorem eq_oo (o p : Option Int) : eqF false (eO D.int o) (eO D.int p) P X = P (decide (o = p)) := by
  cases o <;> cases p <;> simp [eqF, flatD, flV, scal, vint, eO]
theorem ne_oo (o p : Option Int) : eqF true (eO D.int o) (eO D.int p) P X = P (!decide (o = p)) := by
  cases o <;> cases p <;> simp [eqF, flatD, flV, scal, vint, eO]
theorem eq_io (a : Int) (o : Option Int) : eqF false (.int a) (eO D.int o) P X = P (decide (o = some a)) := by
  cases o with
  | none => simp [eqF, flatD, flV, scal, vint, eO]
  | some b =>
    simp only [eqF, flatD, flV, scal, vint, eO]
    have : decide (a = b) = decide (some b = some a) := by
      by_cases c : a = b
      · subst c; simp
      · have : ¬ b = a := fun z => c z.symm
        simp [c, this]
    simp [this]
end
theorem inV_s (a : Str) (l : List Str) : inV (.str a) (l.map V.str) = decide (a ∈ l) := by
  unfold inV
  rw [List.any_map, Bool.eq_iff_iff, List.any_eq_true, decide_eq_true_iff]
  constructor
  · rintro ⟨x, hx, e⟩
    have e : eqV (.str x) (.str a) = true := e
    have : x = a := by simpa [eqV] using e
    exact this ▸ hx
  · intro h
    exact ⟨a, h, by show eqV (.str a) (.str a) = true; simp [eqV]⟩
theorem inV_i (a : Int) (l : List Int) : inV (.int a) (l.map V.int) = decide (a ∈ l) := by
  unfold inV
  rw [List.any_map, Bool.eq_iff_iff, List.any_eq_true, decide_eq_true_iff]
  constructor
  · rintro ⟨x, hx, e⟩
    have e : eqV (.int x) (.int a) = true := e
    have : x = a := by simpa [eqV] using e
    exact this ▸ hx
  · intro h
    exact ⟨a, h, by show eqV (.int a) (.int a) = true; simp [eqV]⟩
theorem in_s {P : Bool → Prop} (a : Str) (l : List Str) : inM false D.str a l P X = P (decide (a ∈ l)) := by
  have := inV_s a l
  simp [inM, flatD, flV, this]
theorem nin_s {P : Bool → Prop} (a : Str) (l : List Str) : inM true D.str a l P X = P (!decide (a ∈ l)) := by
  have := inV_s a l
  simp [inM, flatD, flV, this]
theorem in_i {P : Bool → Prop} (a : Int) (l : List Int) : inM false D.int a l P X = P (decide (a ∈ l)) := by
  have := inV_i a l
  simp [inM, flatD, flV, this]
theorem nin_i {P : Bool → Prop} (a : Int) (l : List Int) : inM true D.int a l P X = P (!decide (a ∈ l)) := by
  have := inV_i a l
  simp [inM, flatD, flV, this]
theorem isN_o (o : Option Int) : isN (eO D.int o) = o.isNone := by cases o <;> rfl
theorem isN_i (i : Int) : isN (.int i) = false := rfl
theorem nar_oi {P : Int → Prop} (o : Option Int) : narrow (eO D.int) D.int o P X = (∃ i, o = some i ∧ P i) := by
  refine propext ⟨?_, ?_⟩
  · rintro ⟨b, e, p⟩
    cases o with
    | none => cases e
    | some a => cases e; exact ⟨_, rfl, p⟩
  · rintro ⟨i, rfl, p⟩
    exact ⟨i, rfl, p⟩
theorem isi_int (i : Int) : isiM "int" (.int i) = (pure true : M Bool) := by funext P X; simp [isiM, tyD, isD, pure_ap]
theorem isi_int_b (i : Int) : isiM "bool" (.int i) = (pure false : M Bool) := by funext P X; simp [isiM, tyD, isD, pure_ap]
theorem isi_bl_b (b : Bool) : isiM "bool" (.bl b) = (pure true : M Bool) := by funext P X; simp [isiM, tyD, isD, pure_ap]
theorem isi_bl_i (b : Bool) : isiM "int" (.bl b) = (pure true : M Bool) := by funext P X; simp [isiM, tyD, isD, pure_ap]
theorem isi_str (z : Str) : isiM "str" (.str z) = (pure true : M Bool) := by funext P X; simp [isiM, tyD, isD, pure_ap]
theorem isi_lst (l : List α) (en : α → D) : isiM "list" (eL en l) = (pure true : M Bool) := by funext P X; simp [isiM, tyD, isD, pure_ap, eL]
theorem isi_t2 (e1 : α → D) (e2 : β → D) (x : α × β) : isiM "tuple" (eT2 e1 e2 x) = (pure true : M Bool) := by funext P X; simp [isiM, tyD, isD, pure_ap, eT2]
theorem isi_t3 (e1 : α → D) (e2 : β → D) (e3 : γ → D) (x : α × β × γ) : isiM "tuple" (eT3 e1 e2 e3 x) = (pure true : M Bool) := by funext P X; simp [isiM, tyD, isD, pure_ap, eT3]
theorem isi_tl (en : α → D) (x : List α) : isiM "tuple" (eTL en x) = (pure true : M Bool) := by funext P X; simp [isiM, tyD, isD, pure_ap, eTL]
theorem getI_n {P : α → Prop} {l : List α} {i : Int} {x : α} (h0 : 0 ≤ i) (h : l[i.toNat]? = some x) (p : P x) : getI l i P X := by
  obtain ⟨n, rfl⟩ := Int.eq_ofNat_of_zero_le h0
  exact ⟨x, atI_nat (by simpa using h), p⟩
theorem getI_lt {P : α → Prop} {l : List α} {i : Int} (h0 : 0 ≤ i) (h : i < l.length) (p : ∀ x, l[i.toNat]? = some x → P x) : getI l i P X := by
  have hl : i.toNat < l.length := by omega
  exact getI_n h0 (List.getElem?_eq_getElem hl) (p _ (List.getElem?_eq_getElem hl))
theorem join_inv {m : M S} {k : S → M R} (J : S → Prop) (h1 : ∀ Q : S → Prop, (∀ s, J s → Q s) → m Q X) (h2 : ∀ s, J s → k s P X) : joinM m k P X := h1 _ h2
theorem forL_drop {RR : Type} {l : List α} {f : α → S → M (Fl S RR)} {P : Fl S RR → Prop} (I : Nat → S → Prop) (hs : ∀ (i : Nat) (x : α) (s : S), l[i]? = some x → I i s → ∀ Q : Fl S RR → Prop, (∀ s', I (i + 1) s' → Q (.nx s')) → (∀ s', P (.nx s') → Q (.bk s')) → (∀ r, P (.rt r) → Q (.rt r)) → f x s Q X) (hd : ∀ s, I l.length s → P (.nx s)) :
    ∀ (k i : Nat) (s : S), l.length - i = k → i ≤ l.length → I i s → forL (l.drop i) s f P X := by
  intro k
  induction k with
  | zero =>
    intro i s hk hi h
    have : i = l.length := by omega
    subst this
    rw [List.drop_length]
    exact hd s h
  | succ k ih =>
    intro i s hk hi h
    have c : i < l.length := by omega
    rw [List.drop_eq_getElem_cons c]
    exact hs i l[i] s (List.getElem?_eq_getElem c) h _ (fun s' h' => ih (i + 1) s' (by omega) c h') (fun s' p => p) fun r p => p
theorem forL_inv {RR : Type} {l : List α} {s0 : S} {f : α → S → M (Fl S RR)} {P : Fl S RR → Prop} (I : Nat → S → Prop) (h0 : I 0 s0) (hs : ∀ (i : Nat) (x : α) (s : S), l[i]? = some x → I i s → ∀ Q : Fl S RR → Prop, (∀ s', I (i + 1) s' → Q (.nx s')) → (∀ s', P (.nx s') → Q (.bk s')) → (∀ r, P (.rt r) → Q (.rt r)) → f x s Q X) (hd : ∀ s, I l.length s → P (.nx s)) : forL l s0 f P X :=
  forL_drop I hs hd _ 0 s0 rfl (Nat.zero_le _) h0
theorem lcM_filter {l : List α} {t : α → M Bool} {f : α → M β} {P : List β → Prop} (b : α → Bool) (g : α → β) (ht : ∀ x ∈ l, ∀ Q : Bool → Prop, Q (b x) → t x Q X) (hf : ∀ x ∈ l, b x = true → ∀ Q : β → Prop, Q (g x) → f x Q X) (hd : P ((l.filter b).map g)) : lcM l t f P X := by
  induction l generalizing P with
  | nil => exact hd
  | cons x l ih =>
    refine ht x (List.mem_cons_self ..) _ ?_
    show (cond (b x) _ _ : M _) P X
    rw [cond_ap]
    refine ⟨fun c => ?_, fun c => ?_⟩
    · rw [List.filter_cons_of_pos c, List.map_cons] at hd
      exact hf x (List.mem_cons_self ..) c _ (ih (P := fun r => P (g x :: r)) (fun y hy => ht y (List.mem_cons_of_mem _ hy)) (fun y hy => hf y (List.mem_cons_of_mem _ hy)) hd)
    · rw [List.filter_cons_of_neg (by rw [c]; decide)] at hd
      exact ih (fun y hy => ht y (List.mem_cons_of_mem _ hy)) (fun y hy => hf y (List.mem_cons_of_mem _ hy)) hd
theorem rep_flat {a : α} (n : Nat) : (List.replicate n [a]).flatten = List.replicate n a := by
  induction n with
  | zero => rfl
  | succ n ih => rw [List.replicate_succ, List.flatten_cons, ih]; rfl
theorem withinD_i (i lo hi : Int) : withinD (.int i) lo hi = (decide (lo ≤ i) && decide (i ≤ hi)) := rfl
theorem labelD_s (z : Str) : labelD (.str z) = labelB z := rfl
theorem wholeD_i (i : Int) : wholeD (.int i) = true := rfl
def Nice (n : Nat) (d : D) : Prop := plain d = true ∧ Gd n (toP d)
theorem Nice.mono {n m : Nat} {d : D} (h : Nice n d) (hn : n ≤ m) : Nice m d := ⟨h.1, h.2.mono hn⟩
theorem nice_int (i : Int) : Nice 0 (.int i) := ⟨rfl, gd_int i⟩
theorem nice_bl (b : Bool) : Nice 0 (.bl b) := ⟨rfl, gd_bool b⟩
theorem nice_l {n : Nat} {en : α → D} {l : List α} (h : ∀ x ∈ l, Nice n (en x)) : Nice (n + 1) (eL en l) := by
  refine ⟨(plains_iff _).mpr fun d hd => ?_, ?_⟩
  · obtain ⟨x, hx, rfl⟩ := List.mem_map.mp hd
    exact (h x hx).1
  · show Gd (n + 1) (.list (toPs (l.map en)))
    rw [toPs_map]
    refine Gd.lst fun d hd => ?_
    rw [List.map_map] at hd
    obtain ⟨x, hx, rfl⟩ := List.mem_map.mp hd
    exact (h x hx).2
theorem Nice.shaped {n : Nat} {d : D} (h : Nice n d) (hn : n ≤ 64) : SeqAt.shaped (toP d) = true := h.2.shaped hn
section
variable {P : Bool → Prop}
theorem neD_r {d : D} {n : Nat} (h1 : Nice n d) (hn : n ≤ 64) (p : P false) : eqD true d d P X := ⟨h1.1, h1.1, h1.shaped hn, h1.shaped hn, by rw [h1.2.eqv]; exact p⟩
theorem neD_nil {en : α → D} {l : List α} {n : Nat} (h : ∀ x ∈ l, Nice n (en x)) (hn : n < 64) (p : P (!l.isEmpty)) : eqD true (eL en l) (.lst []) P X := ⟨(nice_l h).1, rfl, (nice_l h).shaped hn, rfl, by
  have : PyData.eqv (toP (eL en l)) (toP (.lst [])) = l.isEmpty := by cases l <;> rfl
  rw [this]; exact p⟩
end
end
end Va

namespace Va
open PySem PySem.Spec PyProof.Rows L2 Bg
section
variable {K : PySem.W.Frag} {EX : L2.St → XK} {ρ : List Sl} {α β γ R : Type} {F : Fr R}
def never {R : Type} : M R := fun _ _ => False
theorem never_ap {P : R → Prop} {X : Exn → Prop} : (never : M R) P X = False := rfl
def fnFrMk (C : Str) (n : Nat) : Fr (List (Str × D)) := ⟨⟨List (Str × D), fun gs => .ow (.obj C gs) :: List.replicate n .no, fun gs => pure gs⟩, ⟨Empty, fun _ => [], fun e => e.elim⟩, ⟨Empty, fun _ => [], fun e => e.elim⟩, Empty, fun _ _ _ _ e => e.elim, fun e => e.elim, []⟩
theorem mk_nx {C : Str} {n : Nat} (gs : List (Str × D)) : (fnFrMk C n).nx.k gs = (pure gs : M _) := rfl
end
end Va
namespace Va
open PySem PySem.Spec PyProof.Rows L2 Bg
section
variable {K : PySem.W.Frag} {EX : L2.St → XK} {ρ : List Sl} {α β γ R : Type} {F : Fr R}
end
end Va

namespace Va
open PySem PySem.Spec PyProof.Rows L2 Bg
inductive StT where
  | st (l : Str) | an (l : Str)
def StT.way : StT → Str
  | .st _ => "/"
  | .an _ => "//"
def StT.label : StT → Str
  | .st l => l
  | .an l => l
def stOf (w l : Str) : StT := if w = "/" then .st l else .an l
section
variable {K : PySem.W.Frag} {EX : L2.St → XK} {ρ : List Sl} {α β γ R : Type} {F : Fr R}
end
structure QuT where
  rows : List Sr
  g : Nat
  ends : List Int
  ups : List (Option Int)
  ok : QuOk rows g
  eo : EndsOk (qds rows) ends
  uo : UpOk (qds rows) ups
def QuT.steps (q : QuT) : List StT := q.rows.map fun r => stOf r.1 r.2.1
structure DocT where
  rows : List (Str × Int)
  ends : List Int
  ups : List (Option Int)
  ok : DocOk rows
  eo : EndsOk (dps rows) ends
  uo : UpOk (dps rows) ups
def IsMapN (r1 : List Sr) (g1 : Nat) (r2 : List Sr) (g2 : Nat) (im : List Nat) : Prop := im.length = r1.length ∧ (∀ x ∈ im, x < r2.length) ∧ ∀ s, s < im.length → StepOk r1 g1 r2 g2 im s
section
variable {K : PySem.W.Frag} {EX : L2.St → XK} {ρ : List Sl} {α β γ R : Type} {F : Fr R}
end
theorem likes_at {r1 r2 : List Sr} {g1 g2 s im : Nat} {r r' : Sr} (hr : r1[s]? = some r) (hr' : r2[im]? = some r') : Likes r1 g1 r2 g2 s im ↔ r.2.1 = r'.2.1 ∧ (s = g1 → im = g2) := by
  unfold Likes
  rw [hr, hr']
  constructor
  · rintro ⟨⟨a, b, e1, e2, e⟩, h⟩
    cases e1
    cases e2
    exact ⟨e, h⟩
  · rintro ⟨e, h⟩
    exact ⟨⟨_, _, rfl, rfl, e⟩, h⟩
theorem goesN {r1 r2 : List Sr} {s im : Nat} {r r' : Sr} (hr : r1[s]? = some r) (hr' : r2[0]? = some r') : GoesT r1 r2 s im none ↔ (¬ r.1 = ("/" : Str)) ∨ (im = 0 ∧ r'.1 = ("/" : Str)) := by
  show (∃ a : Sr, r1[s]? = some a ∧ _) ↔ _
  rw [hr, hr']
  constructor
  · rintro ⟨a, e, h⟩
    cases e
    rcases h with h | ⟨h, b, e, h'⟩
    · exact .inl h
    · cases e
      exact .inr ⟨h, h'⟩
  · rintro (h | ⟨h, h'⟩)
    · exact ⟨_, rfl, .inl h⟩
    · exact ⟨_, rfl, .inr ⟨h, _, rfl, h'⟩⟩
theorem goesS {r1 r2 : List Sr} {s im u : Nat} {r r' : Sr} (hr : r1[s]? = some r) (hr' : r2[im]? = some r') : GoesT r1 r2 s im (some u) ↔ (r.1 = ("/" : Str) ∧ Par (qds r2) u im ∧ r'.1 = ("/" : Str)) ∨ (¬ r.1 = ("/" : Str) ∧ An (qds r2) u im) := by
  show (∃ a : Sr, r1[s]? = some a ∧ _) ↔ _
  rw [hr, hr']
  constructor
  · rintro ⟨a, e, h⟩
    cases e
    rcases h with ⟨h, h1, b, e, h2⟩ | h
    · cases e
      exact .inl ⟨h, h1, h2⟩
    · exact .inr h
  · rintro (⟨h, h1, h2⟩ | h)
    · exact ⟨_, rfl, .inl ⟨h, h1, _, rfl, h2⟩⟩
    · exact ⟨_, rfl, .inr h⟩
theorem get_lt {α : Type} {l : List α} {n : Nat} (h : n < l.length) : ∃ x, l[n]? = some x := ⟨_, List.getElem?_eq_getElem h⟩
end Va

namespace Va
open PySem PySem.Spec PyProof.Rows L2 Bg
def Ch : Int → List Int → Prop
  | _, [] => True
  | p, d :: ds => 2 ≤ d ∧ d ≤ p + 1 ∧ Ch d ds
def lastD (p : Int) : List Int → Int
  | [] => p
  | d :: ds => lastD d ds
theorem Ch.app {p : Int} {a b : List Int} : Ch p (a ++ b) ↔ Ch p a ∧ Ch (lastD p a) b := by
  induction a generalizing p with
  | nil => exact ⟨fun h => ⟨trivial, h⟩, fun h => h.2⟩
  | cons d a ih =>
    show (2 ≤ d ∧ d ≤ p + 1 ∧ Ch d (a ++ b)) ↔ (2 ≤ d ∧ d ≤ p + 1 ∧ Ch d a) ∧ Ch (lastD d a) b
    rw [ih]
    exact ⟨fun h => ⟨⟨h.1, h.2.1, h.2.2.1⟩, h.2.2.2⟩, fun h => ⟨h.1.1, h.1.2.1, h.1.2.2, h.2⟩⟩
theorem lastD_ge {p m : Int} {a : List Int} (hp : m ≤ p) (h : ∀ d ∈ a, m ≤ d) : m ≤ lastD p a := by
  induction a generalizing p with
  | nil => exact hp
  | cons d a ih => exact ih (h d (List.mem_cons_self ..)) fun x hx => h x (List.mem_cons_of_mem _ hx)
theorem dv_cons {d : Int} {ds : List Int} : Dv (d :: ds) ↔ d = 1 ∧ Ch 1 ds := by
  have key : ∀ (ds : List Int) (p : Int), (∀ i, i + 1 < (p :: ds).length → 2 ≤ dg (p :: ds) (i + 1) ∧ dg (p :: ds) (i + 1) ≤ dg (p :: ds) i + 1) ↔ Ch p ds := by
    intro ds
    induction ds with
    | nil => intro p; exact ⟨fun _ => trivial, fun _ i hi => by simp at hi⟩
    | cons d ds ih =>
      intro p
      constructor
      · intro h
        have h0 := h 0 (by simp)
        exact ⟨h0.1, h0.2, (ih d).mp fun i hi => h (i + 1) (by simp at hi ⊢; omega)⟩
      · rintro ⟨h1, h2, h3⟩ i hi
        cases i with
        | zero => exact ⟨h1, h2⟩
        | succ i => exact (ih d).mpr h3 i (by simp at hi ⊢; omega)
  constructor
  · intro h
    have : d = 1 := h.one
    subst this
    exact ⟨rfl, (key ds 1).mp h.two⟩
  · rintro ⟨rfl, h⟩
    exact ⟨rfl, (key ds 1).mpr h⟩
theorem Dv.ne {ds : List Int} (h : Dv ds) : ds ≠ [] := by
  rintro rfl
  have := h.one
  exact absurd this (by decide)
structure Cutd (rows A S B : List Sr) (k n : Nat) (d : Int) : Prop where
  app : rows = A ++ S ++ B
  la : A.length = k
  ls : S.length = n + 1 - k
  hd : ∃ r T, S = r :: T ∧ r.2.2 = d ∧ ∀ x ∈ T, d < x.2.2
  lb : ∀ b r, B = b :: r → b.2.2 ≤ d
  kn : k ≤ n
  nl : n < rows.length
def RowOk (dm : Int) (r : Sr) : Prop := (r.1 = "/" ∨ r.1 = "//") ∧ labelB r.2.1 = true ∧ r.2.2 ≤ dm
structure Repl (A S' B : List Sr) (dm : Int) : Prop where
  dv : Dv (qds (A ++ S' ++ B))
  row : ∀ r ∈ S', RowOk dm r
theorem qds_app (a b : List Sr) : qds (a ++ b) = qds a ++ qds b := List.map_append ..
theorem Cutd.ok {rows A S B S' : List Sr} {k n g g' : Nat} {d dm : Int} (c : Cutd rows A S B k n d) (ok : QuOk rows g) (rp : Repl A S' B dm) (h30 : dm ≤ 30) (hl : (A ++ S' ++ B).length ≤ 100) (h1 : 1 ≤ (A ++ S' ++ B).length) (hg : g' < (A ++ S' ++ B).length) (hdm : ∀ r ∈ rows, r.2.2 ≤ dm) : QuOk (A ++ S' ++ B) g' ∧ ∀ r ∈ A ++ S' ++ B, r.2.2 ≤ dm := by
  have mem : ∀ r ∈ A ++ S' ++ B, r ∈ rows ∨ r ∈ S' := fun r hr => by
    rcases List.mem_append.mp hr with h | h
    · rcases List.mem_append.mp h with h | h
      · exact .inl (by rw [c.app]; exact List.mem_append_left _ (List.mem_append_left _ h))
      · exact .inr h
    · exact .inl (by rw [c.app]; exact List.mem_append_right _ h)
  have dp : ∀ r ∈ A ++ S' ++ B, r.2.2 ≤ dm := fun r hr => (mem r hr).elim (hdm r) fun h => (rp.row r h).2.2
  exact ⟨⟨h1, hl, fun r hr => (mem r hr).elim (ok.way r) fun h => (rp.row r h).1, fun r hr => (mem r hr).elim (ok.lab r) fun h => (rp.row r h).2.1, rp.dv, fun r hr => by have := dp r hr; omega, hg⟩, dp⟩
end Va

namespace Va
open PySem PySem.Spec PyProof.Rows L2 Bg
section
variable {P : Program} {w : World} {K : PySem.W.Frag} {mg : Str → Option Value} {base : Heap} {CX : CXT} {f : Addr} {fd : FuncData} {ps : List Str}
end
section
variable {K : PySem.W.Frag} {EX : L2.St → XK} {ρ : List Sl} {α β γ R : Type} {F : Fr R}
class Flat {α : Type} (res : Res α) : Prop where
  any : ∀ {O O' : AP} {H H' : Hp} {v : V} {a : α}, res O H H' v a → res O' H H' v a
class FlatE {α : Type} (en : α → D) : Prop where
  any : ∀ {K : PySem.W.Frag} {O O' : AP} {H : Hp} {v : V} {a : α}, Rep K O H v (en a) → Rep K O' H v (en a)
instance : FlatE D.int := ⟨fun r => by cases r; exact .int _⟩
instance : FlatE D.bl := ⟨fun r => by cases r; exact .bl _⟩
instance : FlatE D.str := ⟨fun r => by cases r; exact .str _⟩
instance : FlatE eU := ⟨fun r => by cases r; exact .non⟩
instance {en : α → D} [FlatE en] : FlatE (eO en) := ⟨fun {K O O' H v a} r => by
  cases a with
  | none => cases r; exact .non
  | some a => exact FlatE.any (en := en) r⟩
instance {en : α → D} [FlatE en] : Flat (resE K en) := ⟨fun r => FlatE.any (en := en) r⟩
theorem flatL {en : α → D} [FlatE en] {O O' : AP} {H : Hp} : ∀ {l : List α} {vs : List V}, RepL K O H vs (l.map en) → RepL K O' H vs (l.map en)
  | [], _, .nil => .nil
  | a :: l, _, .cons r t => .cons (FlatE.any r) (flatL (l := l) t)
instance {en : α → D} [FlatE en] : Flat (resF K en) := ⟨fun ⟨p, vs, e, n, h, r⟩ => ⟨p, vs, e, n, h, flatL r⟩⟩
def oS {α : Type} (en : α → D) (a : α) : OT := .sh (en a)
def oL {α : Type} (oe : α → OT) (l : List α) : OT := .lst (l.map oe)
def oO {α : Type} (oe : α → OT) : Option α → OT
  | none => .sh .non
  | some a => oe a
theorem OT.ds_map (ts : List OT) : OT.ds ts = ts.map OT.d := by
  induction ts with
  | nil => rfl
  | cons t ts ih => rw [OT.ds, List.map_cons, ih]
theorem od_S (en : α → D) (a : α) : (oS en a).d = en a := rfl
theorem od_L {oe : α → OT} {en : α → D} (h : ∀ a, (oe a).d = en a) (l : List α) : (oL oe l).d = eL en l := by
  unfold oL eL
  rw [OT.d, OT.ds_map, List.map_map]
  congr 1
  exact List.map_congr_left fun a _ => h a
def resO (K : PySem.W.Frag) {α : Type} (oe : α → OT) : Res α := fun O H H' v a => ∃ as, RepO K (fun b => O b ∨ b ∈ as) H' v (oe a) as ∧ as.Nodup ∧ ∀ b ∈ as, H b = none
instance {oe : α → OT} : Lasts (resO K oe) := ⟨fun ⟨as, r, nd, n⟩ e => ⟨as, r.tr (ex_tr e) fun b _ u s q => e.keep b u (fun z => z) s q, nd, n⟩, fun ⟨as, r, nd, n⟩ e => ⟨as, r, nd, fun b m => e.free (fun z => z) (n b m)⟩⟩
theorem RG.ge {t : TE} {oe : α → OT} {en : α → D} {w : M α} (h : RG K EX ρ t (resO K oe) w) (hd : ∀ a, (oe a).d = en a) : RE K EX ρ t en w := h.imp fun O H H' v a d _ ⟨as, r, _, n⟩ => by
  show Rep K O H' v (en a)
  rw [← hd a]
  exact r.frz (fun b z => .inl z) fun b m z => d b z (n b m)
theorem repl_s {O : AP} {H : Hp} {en : α → D} : ∀ {l : List α} {vs : List V} {as : List Addr}, RepOL K O H vs (l.map (oS en)) as → RepL K O H vs (l.map en) ∧ as = []
  | [], _, _, .nil => ⟨.nil, rfl⟩
  | a :: l, _, _, .cons (.sh r) t => by
    obtain ⟨q, e⟩ := repl_s (l := l) t
    exact ⟨.cons r q, by rw [e]; rfl⟩
theorem RG.go {t : TE} {oe : α → OT} {w : M α} (h : RG K EX ρ t (resO K oe) w) : RG K EX ρ t (resO K (oO oe)) (w >>= fun a => pure (some a)) := fun B O H σ E P PX Q hw hq hx =>
  h B O H σ E (fun a => P (some a)) PX Q hw (fun a v H' p e r => hq (some a) v H' p e r) hx
end
end Va

namespace Va
open PySem PySem.Spec PyProof.Rows L2 Bg
section
variable {K : PySem.W.Frag} {EX : L2.St → XK} {ρ : List Sl} {α β γ R : Type} {F : Fr R} {O O' : AP} {H H' : Hp}
theorem RepOL.length {vs : List V} {ts : List OT} {as : List Addr} (r : RepOL K O H vs ts as) : vs.length = ts.length := by
  induction ts generalizing vs as with
  | nil => cases r; rfl
  | cons d ds ih => cases r with | cons r t => rw [List.length_cons, List.length_cons, ih t]
theorem RepOL.get {vs : List V} {ts : List OT} {as : List Addr} (r : RepOL K O H vs ts as) {i : Nat} {t : OT} (h : ts[i]? = some t) : ∃ v bs, vs[i]? = some v ∧ RepO K O H v t bs ∧ ∀ b ∈ bs, b ∈ as := by
  induction ts generalizing vs as i with
  | nil => cases h
  | cons d ds ih =>
    cases r with
    | cons r q =>
      cases i with
      | zero => cases h; exact ⟨_, _, rfl, r, fun b m => List.mem_append_left _ m⟩
      | succ i =>
        obtain ⟨v, bs, e, k, m⟩ := ih q h
        exact ⟨v, bs, e, k, fun b z => List.mem_append_right _ (m b z)⟩
theorem RepOL.put {p : Addr} {o' : HO} {t t' : OT} (ho : O p) : ∀ {ts : List OT} {vs : List V} {as : List Addr} {i : Nat}, RepOL K O H vs ts as → as.Nodup → ts[i]? = some t → (∀ v bs, vs[i]? = some v → RepO K O H v t bs → p ∈ bs ∧ RepO K O (upd H p o') v t' bs) → RepOL K O (upd H p o') vs (ts.set i t') as
  | [], _, _, _, _, _, h, _ => nomatch h
  | d :: ds, v :: vs, _, 0, .cons (as := as1) (bs := bs1) r q, nd, h, k => by
    cases h
    obtain ⟨m, r'⟩ := k v as1 rfl r
    have nb : p ∉ bs1 := fun z => (List.nodup_append.mp nd).2.2 p m p z rfl
    exact .cons r' (q.tr (up_tr ho) fun b z u _ e => by rw [upd_ne (fun (y : b = p) => nb (y ▸ z))]; exact e)
  | d :: ds, v :: vs, _, i + 1, .cons (as := as1) (bs := bs1) r q, nd, h, k => by
    have h : ds[i]? = some t := h
    obtain ⟨v', bs, e, kk, m⟩ := q.get h
    have mp := m p (k v' bs e kk).1
    have na : p ∉ as1 := fun z => (List.nodup_append.mp nd).2.2 p z p mp rfl
    exact .cons (r.tr (up_tr ho) fun b z u _ e => by rw [upd_ne (fun (y : b = p) => na (y ▸ z))]; exact e) (RepOL.put ho q (List.nodup_append.mp nd).2.1 h k)
def resV (K : PySem.W.Frag) {α : Type} (oe : α → OT) : Res α := fun O _ H' v a => ∃ as, RepO K O H' v (oe a) as
instance {oe : α → OT} : Lasts (resV K oe) := ⟨fun ⟨as, r⟩ e => ⟨as, r.tr (ex_tr e) fun b _ u s q => e.keep b u (fun z => z) s q⟩, fun r _ => r⟩
theorem RepO.isN {v : V} {t : OT} {as : List Addr} (r : RepO K O H v t as) : decide (v = .non) = Va.isN t.d := by
  cases r with
  | sh r => exact Rep.isN r
  | lst _ _ => rfl
  | tup _ _ => rfl
  | dct _ _ _ _ => rfl
  | dcp _ _ _ => rfl
  | obj _ _ _ => rfl
end
end Va

namespace Va
open PySem PySem.Spec PyProof.Rows L2 Bg
section
variable {K : PySem.W.Frag} {EX : L2.St → XK} {ρ : List Sl} {α β γ R : Type} {F : Fr R}
theorem RepOL.app {O : AP} {H : Hp} : ∀ {ts us : List OT} {vs ws : List V} {as bs : List Addr}, RepOL K O H vs ts as → RepOL K O H ws us bs → RepOL K O H (vs ++ ws) (ts ++ us) (as ++ bs)
  | [], _, _, _, _, _, .nil, s => s
  | t :: ts, _, _, _, _, _, .cons r q, s => by
    rw [List.append_assoc]
    exact .cons r (RepOL.app q s)
end
end Va

namespace Va
open PySem PySem.Spec PyProof.Rows L2 Bg
section
variable {r1 r2 : List Sr} {g1 g2 : Nat}
inductive Sub (r1 : List Sr) (g1 : Nat) (r2 : List Sr) (g2 : Nat) : Nat → Nat → Prop
  | mk {k i : Nat} (f : Nat → Nat) : k < r1.length → i < r2.length → Likes r1 g1 r2 g2 k i → (∀ l, Par (qds r1) k l → Sub r1 g1 r2 g2 l (f l)) → (∀ l, Par (qds r1) k l → GoesT r1 r2 l (f l) (some i)) → Sub r1 g1 r2 g2 k i
theorem Sub.lt {k i : Nat} (h : Sub r1 g1 r2 g2 k i) : k < r1.length ∧ i < r2.length := by
  cases h with
  | mk f hk hi _ _ _ => exact ⟨hk, hi⟩
theorem Sub.like {k i : Nat} (h : Sub r1 g1 r2 g2 k i) : Likes r1 g1 r2 g2 k i := by
  cases h with
  | mk f hk hi l _ _ => exact l
theorem Sub.low {k i l : Nat} (h : Sub r1 g1 r2 g2 k i) (p : Par (qds r1) k l) : ∃ j, Sub r1 g1 r2 g2 l j ∧ GoesT r1 r2 l j (some i) := by
  cases h with
  | mk f _ _ _ a b => exact ⟨f l, a l p, b l p⟩
theorem Sub.of {k i : Nat} (hk : k < r1.length) (hi : i < r2.length) (hl : Likes r1 g1 r2 g2 k i) (h : ∀ l, Par (qds r1) k l → ∃ j, Sub r1 g1 r2 g2 l j ∧ GoesT r1 r2 l j (some i)) : Sub r1 g1 r2 g2 k i := by
  classical
  refine .mk (fun l => if p : Par (qds r1) k l then (h l p).choose else 0) hk hi hl (fun l p => ?_) fun l p => ?_
  · rw [dif_pos p]; exact (h l p).choose_spec.1
  · rw [dif_pos p]; exact (h l p).choose_spec.2
noncomputable def imU (r1 : List Sr) (g1 : Nat) (r2 : List Sr) (g2 k c : Nat) : List Int := by
  classical
  exact ((List.range c).filter fun i => decide (Sub r1 g1 r2 g2 k i)).map fun i : Nat => (i : Int)
noncomputable abbrev imL (r1 : List Sr) (g1 : Nat) (r2 : List Sr) (g2 k : Nat) : List Int := imU r1 g1 r2 g2 k r2.length
noncomputable def imgs (r1 : List Sr) (g1 : Nat) (r2 : List Sr) (g2 : Nat) : List (List Int) := (List.range r1.length).map fun k => imL r1 g1 r2 g2 k
theorem imU_mem {k c : Nat} {x : Int} : x ∈ imU r1 g1 r2 g2 k c ↔ ∃ i : Nat, x = (i : Int) ∧ i < c ∧ Sub r1 g1 r2 g2 k i := by
  classical
  unfold imU
  rw [List.mem_map]
  constructor
  · rintro ⟨i, h, rfl⟩
    rw [List.mem_filter, List.mem_range] at h
    exact ⟨i, rfl, h.1, of_decide_eq_true h.2⟩
  · rintro ⟨i, rfl, h1, h2⟩
    exact ⟨i, by rw [List.mem_filter, List.mem_range]; exact ⟨h1, decide_eq_true h2⟩, rfl⟩
theorem imU_zero {k : Nat} : imU r1 g1 r2 g2 k 0 = [] := rfl
theorem imU_no {k c : Nat} (h : ¬ Sub r1 g1 r2 g2 k c) : imU r1 g1 r2 g2 k (c + 1) = imU r1 g1 r2 g2 k c := by
  classical
  unfold imU
  rw [List.range_succ, List.filter_append, List.map_append]
  simp [h]
noncomputable def fPl (r1 r2 : List Sr) (s : Nat) (ab : Option Nat) (ps : List Int) : Option Int := by
  classical
  exact ps.find? fun p => decide (GoesT r1 r2 s p.toNat ab)
theorem fPl_some {s : Nat} {ab : Option Nat} {ps : List Int} {p : Int} (h : fPl r1 r2 s ab ps = some p) : p ∈ ps ∧ GoesT r1 r2 s p.toNat ab := by
  classical
  unfold fPl at h
  exact ⟨List.mem_of_find?_eq_some h, by have := List.find?_some h; exact of_decide_eq_true this⟩
def ImO (r1 : List Sr) (g1 : Nat) (r2 : List Sr) (g2 k0 : Nat) (fs : List (List Int)) : Prop := fs.length = r1.length ∧ ∀ k, k < r1.length → (k < k0 → fs[k]? = some []) ∧ (k0 ≤ k → fs[k]? = some (imL r1 g1 r2 g2 k))
def ImI (r1 : List Sr) (g1 : Nat) (r2 : List Sr) (g2 st c : Nat) (fs : List (List Int)) : Prop := fs.length = r1.length ∧ ∀ k, k < r1.length → (k < st → fs[k]? = some []) ∧ (k = st → fs[k]? = some (imU r1 g1 r2 g2 st c)) ∧ (st < k → fs[k]? = some (imL r1 g1 r2 g2 k))
theorem ImO.start {st : Nat} {fs : List (List Int)} (h : ImO r1 g1 r2 g2 (st + 1) fs) : ImI r1 g1 r2 g2 st 0 fs :=
  ⟨h.1, fun k hk => ⟨fun a => (h.2 k hk).1 (by omega), fun a => by rw [imU_zero]; exact (h.2 k hk).1 (by omega), fun a => (h.2 k hk).2 (by omega)⟩⟩
theorem ImI.fin {st : Nat} {fs : List (List Int)} (h : ImI r1 g1 r2 g2 st r2.length fs) : ImO r1 g1 r2 g2 st fs :=
  ⟨h.1, fun k hk => ⟨(h.2 k hk).1, fun a => by
    rcases Nat.lt_or_ge st k with c | c
    · exact (h.2 k hk).2.2 c
    · have e : k = st := by omega
      subst e
      exact (h.2 k hk).2.1 rfl⟩⟩
theorem ImI.no {st c : Nat} {fs : List (List Int)} (h : ImI r1 g1 r2 g2 st c fs) (hs : ¬ Sub r1 g1 r2 g2 st c) : ImI r1 g1 r2 g2 st (c + 1) fs :=
  ⟨h.1, fun k hk => ⟨(h.2 k hk).1, fun a => by rw [imU_no hs]; exact (h.2 k hk).2.1 a, (h.2 k hk).2.2⟩⟩
theorem ImO.all {fs : List (List Int)} (h : ImO r1 g1 r2 g2 0 fs) : fs = imgs r1 g1 r2 g2 := by
  refine List.ext_getElem? fun k => ?_
  unfold imgs
  rcases Nat.lt_or_ge k r1.length with c | c
  · rw [(h.2 k c).2 (Nat.zero_le _), List.getElem?_map, List.getElem?_range c]; rfl
  · rw [List.getElem?_eq_none (by rw [h.1]; exact c), List.getElem?_eq_none (by simp; exact c)]
theorem imL_sub {k : Nat} {p : Int} (h : p ∈ imL r1 g1 r2 g2 k) : ∃ i : Nat, p = (i : Int) ∧ Sub r1 g1 r2 g2 k i := by
  obtain ⟨i, rfl, _, h2⟩ := imU_mem.mp h
  exact ⟨i, rfl, h2⟩
def AbOk (ds : List Int) (l : List Int) (k : Nat) (ab : Option Nat) : Prop := ((∀ u, ¬ An ds u k) ∧ ab = none) ∨ ∃ u z, Par ds u k ∧ l[u]? = some z ∧ ab = some (Int.toNat z)
def Grd (r1 : List Sr) (g1 : Nat) (r2 : List Sr) (g2 : Nat) (l : List Int) : Prop := ∀ k x, l[k]? = some x → ∃ ab, AbOk (qds r1) l k ab ∧ fPl r1 r2 k ab (imL r1 g1 r2 g2 k) = some x
theorem AbOk.pre {ds l l' : List Int} {k : Nat} {ab : Option Nat} (h : AbOk ds l k ab) (e : ∀ u, u < k → l[u]? = l'[u]?) : AbOk ds l' k ab := by
  rcases h with h | ⟨u, z, p, hz, e2⟩
  · exact .inl h
  · exact .inr ⟨u, z, p, by rw [← e u p.1.1]; exact hz, e2⟩
theorem AbOk.only {ds l : List Int} {k : Nat} {ab ab' : Option Nat} (h : AbOk ds l k ab) (h' : AbOk ds l k ab') : ab = ab' := by
  rcases h with ⟨h, rfl⟩ | ⟨u, z, p, hz, rfl⟩ <;> rcases h' with ⟨h', rfl⟩ | ⟨u', z', p', hz', rfl⟩
  · rfl
  · exact absurd p'.1 (h u')
  · exact absurd p.1 (h' u)
  · have : u' = u := p.only p'
    subst this
    rw [hz] at hz'
    cases hz'
    rfl
theorem Grd.nil : Grd r1 g1 r2 g2 [] := fun k x h => nomatch h
theorem Grd.snoc {l : List Int} {x : Int} {ab : Option Nat} (h : Grd r1 g1 r2 g2 l) (ha : AbOk (qds r1) l l.length ab) (hf : fPl r1 r2 l.length ab (imL r1 g1 r2 g2 l.length) = some x) : Grd r1 g1 r2 g2 (l ++ [x]) := fun k y hk => by
  rcases Nat.lt_or_ge k l.length with c | c
  · rw [List.getElem?_append_left c] at hk
    obtain ⟨ab', h1, h2⟩ := h k y hk
    exact ⟨ab', h1.pre fun u hu => by rw [List.getElem?_append_left (by omega)], h2⟩
  · have hl := (List.getElem?_eq_some_iff.mp hk).1
    rw [List.length_append, List.length_singleton] at hl
    have : k = l.length := by omega
    subst this
    rw [List.getElem?_append_right (Nat.le_refl _), Nat.sub_self] at hk
    cases hk
    exact ⟨ab, ha.pre fun u hu => by rw [List.getElem?_append_left (by omega)], hf⟩
theorem Grd.only {l l' : List Int} (h : Grd r1 g1 r2 g2 l) (h' : Grd r1 g1 r2 g2 l') (e : l.length = l'.length) : l = l' := by
  have key : ∀ n k : Nat, k < n → l[k]? = l'[k]? := by
    intro n
    induction n with
    | zero => intro k hk; omega
    | succ n ih =>
      intro k hk
      rcases Nat.lt_or_ge k l.length with c | c
      · have hx := List.getElem?_eq_getElem c
        have hy := List.getElem?_eq_getElem (l := l') (i := k) (by omega)
        obtain ⟨ab, a1, a2⟩ := h k _ hx
        obtain ⟨ab', b1, b2⟩ := h' k _ hy
        have := (a1.pre fun u hu => ih u (by omega)).only b1
        subst this
        rw [hx, hy, ← a2, b2]
      · rw [List.getElem?_eq_none c, List.getElem?_eq_none (by omega)]
  exact List.ext_getElem? fun k => key (k + 1) k (by omega)
theorem Grd.sub {l : List Int} {k : Nat} {x : Int} (h : Grd r1 g1 r2 g2 l) (hx : l[k]? = some x) : ∃ i : Nat, x = (i : Int) ∧ Sub r1 g1 r2 g2 k i := by
  obtain ⟨ab, _, h2⟩ := h k x hx
  exact imL_sub (fPl_some h2).1
theorem Grd.map {l : List Int} (h : Grd r1 g1 r2 g2 l) (hl : l.length = r1.length) : ∃ im : List Nat, l = im.map (fun i : Nat => (i : Int)) ∧ IsMapN r1 g1 r2 g2 im := by
  refine ⟨l.map Int.toNat, ?_, by rw [List.length_map]; exact hl, fun x hx => ?_, fun k hk x hx => ?_⟩
  · rw [List.map_map]
    refine List.ext_getElem? fun k => ?_
    rw [List.getElem?_map]
    cases e : l[k]? with
    | none => rfl
    | some x =>
      obtain ⟨i, rfl, _⟩ := h.sub e
      rfl
  · obtain ⟨y, hy, rfl⟩ := List.mem_map.mp hx
    obtain ⟨k, hk⟩ := List.mem_iff_getElem?.mp hy
    obtain ⟨i, rfl, s⟩ := h.sub hk
    exact s.lt.2
  · rw [List.getElem?_map] at hx
    cases e : l[k]? with
    | none => rw [e] at hx; cases hx
    | some y =>
      rw [e] at hx
      have hx : y.toNat = x := Option.some.inj hx
      obtain ⟨ab, a1, a2⟩ := h k y e
      obtain ⟨i, rfl, s⟩ := h.sub e
      have hx : i = x := hx
      subst hx
      have gt : GoesT r1 r2 k i ab := (fPl_some a2).2
      refine ⟨s.like, fun hu => ?_, fun u z p hz => ?_⟩
      · have := a1.only (.inl ⟨hu, rfl⟩)
        rw [this] at gt
        exact gt
      · rw [List.getElem?_map] at hz
        cases e2 : l[u]? with
        | none => rw [e2] at hz; cases hz
        | some w =>
          rw [e2] at hz
          have hz : w.toNat = z := Option.some.inj hz
          subst hz
          have := a1.only (.inr ⟨u, w, p, e2, rfl⟩)
          rw [this] at gt
          exact gt
noncomputable def mapF (r1 : List Sr) (g1 : Nat) (r2 : List Sr) (g2 : Nat) : Option (List Int) := by
  classical
  exact if h : ∃ l : List Int, l.length = r1.length ∧ Grd r1 g1 r2 g2 l then some h.choose else none
end
end Va

namespace Va
open PySem PySem.Spec PyProof.Rows L2 Bg
structure Rl (H H' : Hp) : Prop where
  lst : ∀ b xs, H b = some (.lst xs) → H' b = some (.lst xs)
  tup : ∀ b xs, H b = some (.tup xs) → H' b = some (.tup xs)
  ins : ∀ b C dx fs, H b = some (.ins C dx fs) → H' b = some (.ins C dx fs)
  xd : ∀ b fs, H b = some (.xd fs) → H' b = some (.xd fs)
  ext : ∀ b φ, H b = some (.ext φ) → H' b = some (.ext φ)
  dK : ∀ b kvs, Rd H b (.dK kvs) → Rd H' b (.dK kvs)
  dT : ∀ b kvs, Rd H b (.dT kvs) → Rd H' b (.dT kvs)
  rdl : ∀ b xs, Rd H b (.lst xs) → Rd H' b (.lst xs)
  dom : ∀ b, H b ≠ none → H' b ≠ none
section
variable {K : PySem.W.Frag} {O O' : AP} {H H' : Hp}
mutual
theorem Rep.rl (h : Rl H H') : ∀ {d : D} {v : V}, Rep K O H v d → Rep K O H' v d
  | _, _, .non => .non
  | _, _, .bl b => .bl b
  | _, _, .int i => .int i
  | _, _, .str z => .str z
  | _, _, .lst n e r => .lst n (h.lst _ _ e) (RepL.rl h r)
  | _, _, .tup n e r => .tup n (h.tup _ _ e) (RepL.rl h r)
  | _, _, .dct n e s k r => .dct n (h.dK _ _ e) s k (RepL.rl h r)
  | _, _, .dcp n e k r => .dcp n (h.dT _ _ e) k (RepL.rl h r)
  | _, _, .obj n e k r => .obj n (h.ins _ _ _ _ e) k (RepL.rl h r)
  | _, _, .glo n => .glo n
  | _, _, .exc n e m g r => .exc n (h.ext _ _ e) m (h.ext _ _ g) (Rep.rl h r)
theorem RepL.rl (h : Rl H H') : ∀ {ds : List D} {vs : List V}, RepL K O H vs ds → RepL K O H' vs ds
  | _, _, .nil => .nil
  | _, _, .cons r t => .cons (Rep.rl h r) (RepL.rl h t)
end
mutual
theorem RepO.rl (h : Rl H H') : ∀ {t : OT} {v : V} {as : List Addr}, RepO K O H v t as → (∀ b ∈ as, H' b = H b) → RepO K O H' v t as
  | _, _, _, .sh r, _ => .sh (r.rl h)
  | _, _, _, .lst e r, k => .lst (by rw [k _ List.mem_cons_self]; exact e) (RepOL.rl h r fun b z => k b (List.mem_cons_of_mem _ z))
  | _, _, _, .tup e r, k => .tup (by rw [k _ List.mem_cons_self]; exact e) (RepOL.rl h r fun b z => k b (List.mem_cons_of_mem _ z))
  | _, _, _, .dct e s q r, k => .dct (by rw [k _ List.mem_cons_self]; exact e) s q (RepOL.rl h r fun b z => k b (List.mem_cons_of_mem _ z))
  | _, _, _, .dcp e q r, k => .dcp (by rw [k _ List.mem_cons_self]; exact e) q (RepOL.rl h r fun b z => k b (List.mem_cons_of_mem _ z))
  | _, _, _, .obj e q r, k => .obj (by rw [k _ List.mem_cons_self]; exact e) q (RepOL.rl h r fun b z => k b (List.mem_cons_of_mem _ z))
theorem RepOL.rl (h : Rl H H') : ∀ {ts : List OT} {vs : List V} {as : List Addr}, RepOL K O H vs ts as → (∀ b ∈ as, H' b = H b) → RepOL K O H' vs ts as
  | _, _, _, .nil, _ => .nil
  | _, _, _, .cons r t, k => .cons (RepO.rl h r fun b z => k b (List.mem_append_left _ z)) (RepOL.rl h t fun b z => k b (List.mem_append_right _ z))
end
variable {B : Bs} {σ σ' : L2.St} {ρ ρ' : List Sl}
theorem SlOk.rl {x : Option (Option V)} {s : Sl} (h : SlOk K B O H x s) (l : Rl H H') (ho : ∀ as, Own K H x s as → ∀ b ∈ as, H' b = H b) (hs : ∀ a, Src H a → H' a = H a) : SlOk K B O H' x s := by
  cases s with
  | no => trivial
  | sh d => obtain ⟨v, e, r⟩ := h; exact ⟨v, e, r.rl l⟩
  | src => obtain ⟨a, e, o, q⟩ := h; exact ⟨a, e, o, by obtain ⟨n, s, t, z⟩ := q; exact ⟨n, s, t, by rw [hs a ⟨n, s, t, z⟩]; exact z⟩⟩
  | scr ns =>
    obtain ⟨a, e, q⟩ := h
    exact ⟨a, e, q.elim (fun z => .inl ⟨z.1, l.rdl _ _ z.2⟩) .inr⟩
  | sq ds => obtain ⟨a, vs, e, q, ha, r⟩ := h; exact ⟨a, vs, e, q, l.lst _ _ ha, r.rl l⟩
  | pin v => exact h
  | exc a cls d ex => obtain ⟨e1, e2, da, v, e3, n, hd, r⟩ := h; exact ⟨e1, e2, da, v, e3, n, l.xd _ _ hd, r.rl l⟩
  | od t =>
    obtain ⟨v, as, e1, r, nd, k⟩ := h
    exact ⟨v, as, e1, r.rl l (ho as ⟨v, O, e1, r⟩), nd, k⟩
  | mo v t =>
    obtain ⟨e1, as, r, nd, k⟩ := h
    exact ⟨e1, as, r.rl l (ho as ⟨e1, O, r⟩), nd, k⟩
  | ow d =>
    cases d with
    | lst ds => obtain ⟨p, vs, e1, o, f, a, hp, r⟩ := h; exact ⟨p, vs, e1, o, f, a, by rw [ho _ ⟨p, e1, rfl⟩ p List.mem_cons_self]; exact hp, r.rl l⟩
    | dct es => obtain ⟨p, vs, e1, o, f, a, hp, n, k, r⟩ := h; exact ⟨p, vs, e1, o, f, a, by rw [ho _ ⟨p, e1, rfl⟩ p List.mem_cons_self]; exact hp, n, k, r.rl l⟩
    | dcp es => obtain ⟨p, vs, e1, o, f, a, hp, k, r⟩ := h; exact ⟨p, vs, e1, o, f, a, by rw [ho _ ⟨p, e1, rfl⟩ p List.mem_cons_self]; exact hp, k, r.rl l⟩
    | obj C gs => obtain ⟨dx, vs, e1, o, f, a, hp, k, r⟩ := h; exact ⟨dx, vs, e1, o, f, a, by rw [ho _ ⟨_, e1, rfl⟩ _ List.mem_cons_self]; exact hp, k, r.rl l⟩
    | _ => exact h.elim
open Classical in
noncomputable def Bs.in_ (K : PySem.W.Frag) (B : Bs) (O : AP) (H Hl : Hp) (σ : L2.St) (ρ : List Sl) (as : List Addr) : Bs := ⟨fun b => if b ∈ as then H b else B.F b, fun b => B.O b ∨ b ∈ as, Hl, fun b => ∃ (i : Nat) (s : Sl) (bs : List Addr), ρ[i]? = some s ∧ Own K Hl (σ[i]?) s bs ∧ b ∈ bs, O, B.S, fun b => B.Q b ∧ b ∉ as, fun b z => by show (if b ∈ as then H b else B.F b) ≠ none; rw [if_neg z.2]; exact B.qF b z.1⟩
end
end Va

namespace Va
open PySem PySem.Spec PyProof.Rows L2 Bg
section
variable {κ κ' α : Type} [DecidableEq κ] [DecidableEq κ']
def getL (l : List (κ × α)) (k : κ) : Option α := (l.find? fun p => decide (p.1 = k)).map (·.2)
def putL (l : List (κ × α)) (k : κ) (a : α) : List (κ × α) := if (l.any fun p => decide (p.1 = k)) = true then l.map (fun p => if p.1 = k then (p.1, a) else p) else l ++ [(k, a)]
theorem getL_pos {p : κ × α} {l : List (κ × α)} {k : κ} (h : p.1 = k) : getL (p :: l) k = some p.2 := by simp [getL, List.find?_cons, h]
theorem getL_neg {p : κ × α} {l : List (κ × α)} {k : κ} (h : ¬ p.1 = k) : getL (p :: l) k = getL l k := by simp [getL, List.find?_cons, h]
theorem getL_has {l : List (κ × α)} {k : κ} : (getL l k).isSome = true ↔ k ∈ l.map (·.1) := by
  induction l with
  | nil => simp [getL]
  | cons p l ih =>
    by_cases c : p.1 = k
    · rw [getL_pos c]; simp [c]
    · rw [getL_neg c, ih]; simp [c, Ne.symm c]
theorem putL_keys {l : List (κ × α)} {k : κ} {a : α} : (putL l k a).map (·.1) = if k ∈ l.map (·.1) then l.map (·.1) else l.map (·.1) ++ [k] := by
  unfold putL
  have : (l.any fun p => decide (p.1 = k)) = true ↔ k ∈ l.map (·.1) := by
    rw [List.any_eq_true, List.mem_map]
    exact ⟨fun ⟨p, h1, h2⟩ => ⟨p, h1, of_decide_eq_true h2⟩, fun ⟨p, h1, h2⟩ => ⟨p, h1, decide_eq_true h2⟩⟩
  by_cases c : k ∈ l.map (·.1)
  · rw [if_pos (this.mpr c), if_pos c, List.map_map]
    refine List.map_congr_left fun p _ => ?_
    show (if p.1 = k then (p.1, a) else p).1 = p.1
    split <;> rfl
  · rw [if_neg (fun z => c (this.mp z)), if_neg c, List.map_append]
    rfl
theorem putL_len {l : List (κ × α)} {k : κ} {a : α} : (putL l k a).length ≤ l.length + 1 := by
  unfold putL
  split <;> simp
theorem getL_put {l : List (κ × α)} {k k' : κ} {a : α} : getL (putL l k a) k' = if k' = k then some a else getL l k' := by
  unfold putL
  by_cases c : (l.any fun p => decide (p.1 = k)) = true
  · rw [if_pos c]
    induction l with
    | nil => cases c
    | cons p l ih =>
      rw [List.map_cons]
      by_cases c1 : p.1 = k
      · rw [if_pos c1]
        by_cases c2 : k' = k
        · rw [getL_pos (p := (p.1, a)) (c1.trans c2.symm), if_pos c2]
        · have : ¬ p.1 = k' := fun z => c2 (z.symm.trans c1)
          rw [getL_neg (p := (p.1, a)) this, getL_neg this, if_neg c2]
          clear ih c
          induction l with
          | nil => rfl
          | cons q l ih =>
            rw [List.map_cons]
            by_cases c3 : q.1 = k
            · rw [if_pos c3]
              have : ¬ q.1 = k' := fun z => c2 (z.symm.trans c3)
              rw [getL_neg (p := (q.1, a)) this, getL_neg this]
              exact ih
            · rw [if_neg c3]
              by_cases c4 : q.1 = k'
              · rw [getL_pos c4, getL_pos c4]
              · rw [getL_neg c4, getL_neg c4]
                exact ih
      · rw [if_neg c1]
        rw [List.any_cons, decide_eq_false c1, Bool.false_or] at c
        by_cases c2 : p.1 = k'
        · rw [getL_pos c2, getL_pos c2, if_neg (fun z => c1 (c2.trans z))]
        · rw [getL_neg c2, getL_neg c2]
          exact ih c
  · rw [if_neg c]
    induction l with
    | nil =>
      by_cases c2 : k' = k
      · rw [if_pos c2]; exact getL_pos c2.symm
      · rw [if_neg c2]; exact getL_neg (fun z => c2 z.symm)
    | cons p l ih =>
      rw [List.any_cons, Bool.or_eq_true, decide_eq_true_iff, not_or] at c
      rw [List.cons_append]
      by_cases c2 : p.1 = k'
      · rw [getL_pos c2, getL_pos c2, if_neg (fun z => c.1 (c2.trans z))]
      · rw [getL_neg c2, getL_neg c2]
        exact ih c.2
variable {K : PySem.W.Frag} {O : AP} {H : Hp} {f : κ → κ'} {en : α → D}
def enc (f : κ → κ') (en : α → D) (l : List (κ × α)) : List (κ' × D) := l.map fun p => (f p.1, en p.2)
end
class KeyE {κ : Type} (enk : κ → D) (kk : outParam (κ → Key)) : Prop where
  inj : ∀ a b, kk a = kk b → a = b
  rep : ∀ {K : PySem.W.Frag} {O : AP} {H : Hp} {v : V} {k : κ}, Rep K O H v (enk k) → v = kV (kk k)
  rp : ∀ {K : PySem.W.Frag} {O : AP} {H : Hp} (k : κ), Rep K O H (kV (kk k)) (enk k)
instance : KeyE D.int (Sum.inl : Int → Key) := ⟨fun _ _ h => Sum.inl.inj h, fun r => (by cases r; rfl), fun k => .int k⟩
instance : KeyE D.str (Sum.inr : Str → Key) := ⟨fun _ _ h => Sum.inr.inj h, fun r => (by cases r; rfl), fun k => .str k⟩
def kk2 (p : Int × Int) : List Key := [Sum.inl p.1, Sum.inl p.2]
theorem kk2_inj : ∀ a b, kk2 a = kk2 b → a = b := fun a b h => by
  injection h with h1 h2
  injection h2 with h2 _
  exact Prod.ext (Sum.inl.inj h1) (Sum.inl.inj h2)
def eP {α : Type} (en : α → D) (l : List ((Int × Int) × α)) : D := .dcp (enc kk2 en l)
def oD {κ α : Type} (kk : κ → Key) (oe : α → OT) (l : List (κ × α)) : OT := .dct (l.map fun p => (kk p.1, oe p.2))
def oP {α : Type} (oe : α → OT) (l : List ((Int × Int) × α)) : OT := .dcp (l.map fun p => (kk2 p.1, oe p.2))
class NSrc {κ α : Type} (kk : κ → Key) (en : α → D) : Prop where
  no : ∀ {K : PySem.W.Frag} {O : AP} {H : Hp} {v : V} {k : κ} {a : α}, kk k = Sum.inr ("number" : Str) → Rep K O H v (en a) → ∀ i, v ≠ .int i
instance {α : Type} {en : α → D} : NSrc (Sum.inl : Int → Key) en := ⟨fun h => nomatch h⟩
instance : NSrc (Sum.inr : Str → Key) D.bl := ⟨fun _ r i z => by cases r; cases z⟩
instance {α : Type} {en : α → D} : NSrc (Sum.inr : Str → Key) (eL en) := ⟨fun _ r i z => by cases r; cases z⟩
instance {α : Type} {en : α → D} : NSrc (Sum.inr : Str → Key) (eP en) := ⟨fun _ r i z => by cases r; cases z⟩
section
variable {K : PySem.W.Frag} {EX : L2.St → XK} {ρ : List Sl} {α β γ R κ : Type} {F : Fr R} [DecidableEq κ]
def getD {κ α : Type} [DecidableEq κ] (l : List (κ × α)) (k : κ) : M α := fun P _ => ∃ a, getL l k = some a ∧ P a
end
end Va

namespace Va
open PySem PySem.Spec PyProof.Rows L2 Bg
section
variable {K : PySem.W.Frag} {EX : L2.St → XK} {ρ : List Sl} {α β γ R κ : Type} {F : Fr R} [DecidableEq κ]
class FlatT {α : Type} (oe : α → OT) : Prop where
  any : ∀ {K : PySem.W.Frag} {O O' : AP} {H : Hp} {v : V} {a : α} {as : List Addr}, RepO K O H v (oe a) as → RepO K O' H v (oe a) as
instance {en : α → D} [FlatE en] : FlatT (oS en) := ⟨fun r => by
  cases r with
  | sh r => exact .sh (FlatE.any (en := en) r)⟩
theorem flatTL {oe : α → OT} [FlatT oe] {O O' : AP} {H : Hp} : ∀ {l : List α} {vs : List V} {as : List Addr}, RepOL K O H vs (l.map oe) as → RepOL K O' H vs (l.map oe) as
  | [], _, _, .nil => .nil
  | a :: l, _, _, .cons r t => .cons (FlatT.any r) (flatTL (l := l) t)
instance {oe : α → OT} [FlatT oe] : FlatT (oL oe) := ⟨fun r => by
  cases r with
  | lst h r => exact .lst h (flatTL r)⟩
instance {oe : α → OT} [FlatT oe] : FlatT (oO oe) := ⟨fun {K O O' H v a as} r => by
  cases a with
  | none => cases r with | sh r => cases r; exact .sh .non
  | some a => exact FlatT.any (oe := oe) r⟩
theorem oe_snd {κ κ' : Type} {f : κ → κ'} {oe : α → OT} {l : List (κ × α)} : (l.map fun p => (f p.1, oe p.2)).map (·.2) = (l.map (·.2)).map oe := by rw [List.map_map, List.map_map]; rfl
instance {κ : Type} {kk : κ → Key} {oe : α → OT} [FlatT oe] : FlatT (oD kk oe) := ⟨fun r => by
  cases r with
  | dct h s e r => rw [oe_snd] at r; exact .dct h s e (by rw [oe_snd]; exact flatTL r)⟩
instance {oe : α → OT} [FlatT oe] : FlatT (oP oe) := ⟨fun r => by
  cases r with
  | dcp h e r => rw [oe_snd] at r; exact .dcp h e (by rw [oe_snd]; exact flatTL r)⟩
instance {oe : α → OT} [FlatT oe] : Flat (resO K oe) := ⟨fun ⟨as, r, nd, n⟩ => ⟨as, FlatT.any r, nd, n⟩⟩
end
end Va

namespace Va
open PySem PySem.Spec PyProof.Rows L2 Bg
theorem line_ex {ds : List Int} (h : Dv ds) : ∀ k, k < ds.length → ∃ ln, Line ds k ln
  | 0, _ => ⟨_, Line.first h⟩
  | k + 1, hk => let ⟨_, l⟩ := line_ex h k (by omega); ⟨_, l.next h hk⟩
theorem dv_up {ds : List Int} (h : Dv ds) {k : Nat} (hk : k < ds.length) : ∃ o, UpAt ds k o := by
  by_cases c : 1 < dg ds k
  · obtain ⟨ln, l⟩ := line_ex h k hk
    have hl := l.len
    have hi : (dg ds k - 2).toNat < ln.length := by omega
    exact ⟨_, l.upper c hk (List.getElem?_eq_getElem hi)⟩
  · exact ⟨none, upAt_none h c⟩
theorem dv_par {ds : List Int} (h : Dv ds) {a k : Nat} (an : An ds a k) : ∃ u, Par ds u k ∧ (a = u ∨ An ds a u) := by
  obtain ⟨o, ho⟩ := dv_up h an.2.1
  cases o with
  | none => exact absurd an (ho a)
  | some u =>
    obtain ⟨n, _, p⟩ := ho
    exact ⟨n, p, (p.all a).mp an⟩
theorem dv_root {ds : List Int} (h : Dv ds) {j : Nat} (hj : j < ds.length) (h0 : 0 < j) : An ds 0 j := by
  refine ⟨h0, hj, fun i h1 h2 => ?_⟩
  obtain ⟨i', rfl⟩ : ∃ i', i = i' + 1 := ⟨i - 1, by omega⟩
  rw [h.one]
  have := (h.two i' (by omega)).1
  omega
theorem par_lt {ds : List Int} {u k : Nat} (p : Par ds u k) : u < k ∧ k < ds.length ∧ u < ds.length := ⟨p.1.1, p.1.2.1, Nat.lt_trans p.1.1 p.1.2.1⟩
section
variable {ds : List Int} {m : Nat} {like : Nat → Nat → Prop} {goes : Nat → Nat → Nat → Prop} {top : Nat → Nat → Prop}
inductive Emb (ds : List Int) (m : Nat) (like : Nat → Nat → Prop) (goes : Nat → Nat → Nat → Prop) : Nat → Nat → Prop
  | mk {k i : Nat} (f : Nat → Nat) : k < ds.length → i < m → like k i → (∀ l, Par ds k l → Emb ds m like goes l (f l)) → (∀ l, Par ds k l → goes l (f l) i) → Emb ds m like goes k i
structure MtF (ds : List Int) (m : Nat) (like : Nat → Nat → Prop) (goes : Nat → Nat → Nat → Prop) (top : Nat → Nat → Prop) (f : Nat → Nat) : Prop where
  lt : ∀ k, k < ds.length → f k < m
  like : ∀ k, k < ds.length → like k (f k)
  top : ∀ k, k < ds.length → (∀ u, ¬ An ds u k) → top k (f k)
  goes : ∀ u k, Par ds u k → goes k (f k) (f u)
theorem Emb.lt {k i : Nat} (h : Emb ds m like goes k i) : k < ds.length ∧ i < m := by
  cases h with
  | mk f hk hi _ _ _ => exact ⟨hk, hi⟩
theorem Emb.lk {k i : Nat} (h : Emb ds m like goes k i) : like k i := by
  cases h with
  | mk f hk hi l _ _ => exact l
theorem Emb.low {k i l : Nat} (h : Emb ds m like goes k i) (p : Par ds k l) : ∃ j, Emb ds m like goes l j ∧ goes l j i := by
  cases h with
  | mk f _ _ _ a b => exact ⟨f l, a l p, b l p⟩
theorem Emb.of {k i : Nat} (hk : k < ds.length) (hi : i < m) (hl : like k i) (h : ∀ l, Par ds k l → ∃ j, Emb ds m like goes l j ∧ goes l j i) : Emb ds m like goes k i := by
  classical
  refine .mk (fun l => if p : Par ds k l then (h l p).choose else 0) hk hi hl (fun l p => ?_) fun l p => ?_
  · rw [dif_pos p]; exact (h l p).choose_spec.1
  · rw [dif_pos p]; exact (h l p).choose_spec.2
theorem MtF.emb {f : Nat → Nat} (h : MtF ds m like goes top f) : ∀ (n k : Nat), ds.length - k ≤ n → k < ds.length → Emb ds m like goes k (f k)
  | 0, k, hn, hk => by omega
  | n + 1, k, hn, hk => Emb.of hk (h.lt k hk) (h.like k hk) fun l p => ⟨f l, h.emb n l (by have := (par_lt p).1; omega) (par_lt p).2.1, h.goes k l p⟩
theorem MtF.at_ {f : Nat → Nat} (h : MtF ds m like goes top f) {k : Nat} (hk : k < ds.length) : Emb ds m like goes k (f k) := h.emb ds.length k (by omega) hk
theorem emb_ext (hd : Dv ds) {k x : Nat} (hE : Emb ds m like goes k x) (f0 : Nat → Nat) : ∀ n, n ≤ ds.length → ∃ f : Nat → Nat, ∀ j, j < n → (j ≠ k → ¬ An ds k j → f j = f0 j) ∧ (j = k → f j = x) ∧ (An ds k j → ∀ u, Par ds u j → Emb ds m like goes j (f j) ∧ goes j (f j) (f u))
  | 0, _ => ⟨f0, fun j hj => by omega⟩
  | n + 1, hn => by
    obtain ⟨f, hf⟩ := emb_ext hd hE f0 n (by omega)
    have set_ : ∀ v : Nat, ((n ≠ k → ¬ An ds k n → v = f0 n) ∧ (n = k → v = x) ∧ (An ds k n → ∀ u, Par ds u n → Emb ds m like goes n v ∧ goes n v (f u))) → ∃ f : Nat → Nat, ∀ j, j < n + 1 → (j ≠ k → ¬ An ds k j → f j = f0 j) ∧ (j = k → f j = x) ∧ (An ds k j → ∀ u, Par ds u j → Emb ds m like goes j (f j) ∧ goes j (f j) (f u)) := fun v hv => by
      refine ⟨fun j => if j = n then v else f j, fun j hj => ?_⟩
      by_cases c : j = n
      · subst c
        simp only [if_true]
        refine ⟨hv.1, hv.2.1, fun a u p => ?_⟩
        rw [if_neg (Nat.ne_of_lt (par_lt p).1)]
        exact hv.2.2 a u p
      · simp only [if_neg c]
        obtain ⟨a, b, d⟩ := hf j (by omega)
        refine ⟨a, b, fun an u p => ?_⟩
        rw [if_neg (by have := (par_lt p).1; omega)]
        exact d an u p
    by_cases c1 : n = k
    · exact set_ x ⟨fun z => absurd c1 z, fun _ => rfl, fun a => absurd a.1 (by omega)⟩
    · by_cases c2 : An ds k n
      · obtain ⟨u, p, hu⟩ := dv_par hd c2
        have eu : Emb ds m like goes u (f u) := by
          rcases hu with rfl | hu
          · rw [(hf k (par_lt p).1).2.1 rfl]; exact hE
          · obtain ⟨w, pw, _⟩ := dv_par hd hu
            exact ((hf u (par_lt p).1).2.2 hu w pw).1
        obtain ⟨j, ej, gj⟩ := eu.low p
        refine set_ j ⟨fun _ z => absurd c2 z, fun z => absurd z c1, fun _ u' p' => ?_⟩
        have : u' = u := p.only p'
        subst this
        exact ⟨ej, gj⟩
      · exact set_ (f0 n) ⟨fun _ _ => rfl, fun z => absurd z c1, fun z => absurd z c2⟩
def Ful (ds : List Int) (m : Nat) (like : Nat → Nat → Prop) (goes : Nat → Nat → Nat → Prop) (top : Nat → Nat → Prop) (k x : Nat) : Prop := ∃ f, MtF ds m like goes top f ∧ f k = x
theorem ful_iff (hd : Dv ds) {k x : Nat} (hk : k < ds.length) : Ful ds m like goes top k x ↔ Emb ds m like goes k x ∧ ((∀ u, ¬ An ds u k) → top k x) ∧ ∀ u, Par ds u k → ∃ y, Ful ds m like goes top u y ∧ goes k x y := by
  constructor
  · rintro ⟨f, h, rfl⟩
    exact ⟨h.at_ hk, h.top k hk, fun u p => ⟨f u, ⟨f, h, rfl⟩, h.goes u k p⟩⟩
  · rintro ⟨hE, ht, hu⟩
    by_cases c : ∃ u, Par ds u k
    · obtain ⟨u, p⟩ := c
      obtain ⟨y, ⟨f0, h0, rfl⟩, g⟩ := hu u p
      obtain ⟨f, hf⟩ := emb_ext hd hE f0 ds.length (Nat.le_refl _)
      refine ⟨f, ⟨fun j hj => ?_, fun j hj => ?_, fun j hj hr => ?_, fun u' j p' => ?_⟩, (hf k hk).2.1 rfl⟩
      · obtain ⟨a, b, d⟩ := hf j hj
        by_cases c1 : j = k
        · rw [b c1]; exact hE.lt.2
        · by_cases c2 : An ds k j
          · obtain ⟨w, pw, _⟩ := dv_par hd c2
            exact (d c2 w pw).1.lt.2
          · rw [a c1 c2]; exact h0.lt j hj
      · obtain ⟨a, b, d⟩ := hf j hj
        by_cases c1 : j = k
        · rw [b c1, c1]; exact hE.lk
        · by_cases c2 : An ds k j
          · obtain ⟨w, pw, _⟩ := dv_par hd c2
            exact (d c2 w pw).1.lk
          · rw [a c1 c2]; exact h0.like j hj
      · obtain ⟨a, b, d⟩ := hf j hj
        rw [a (fun z => hr u (z ▸ p.1)) (hr k)]
        exact h0.top j hj hr
      · obtain ⟨lt1, lt2, lt3⟩ := par_lt p'
        obtain ⟨a, b, d⟩ := hf j lt2
        by_cases c1 : j = k
        · subst c1
          have : u' = u := p.only p'
          subst this
          rw [b rfl, (hf u' lt3).1 (by omega) (fun z => by have := z.1; omega)]
          exact g
        · by_cases c2 : An ds k j
          · exact (d c2 u' p').2
          · rw [a c1 c2, (hf u' lt3).1 (fun z => c2 (z ▸ p'.1)) (fun z => c2 (z.trans p'.1))]
            exact h0.goes u' j p'
    · have hr : ∀ u, ¬ An ds u k := fun u an => by
        obtain ⟨w, p, _⟩ := dv_par hd an
        exact c ⟨w, p⟩
      have k0 : k = 0 := by
        by_cases z : 0 < k
        · exact absurd (dv_root hd hk z) (hr 0)
        · omega
      subst k0
      obtain ⟨f, hf⟩ := emb_ext hd hE (fun _ => 0) ds.length (Nat.le_refl _)
      have sub : ∀ j, j < ds.length → j ≠ 0 → An ds 0 j := fun j hj z => dv_root hd hj (by omega)
      refine ⟨f, ⟨fun j hj => ?_, fun j hj => ?_, fun j hj hr' => ?_, fun u' j p' => ?_⟩, (hf 0 hk).2.1 rfl⟩
      · obtain ⟨a, b, d⟩ := hf j hj
        by_cases c1 : j = 0
        · rw [b c1]; exact hE.lt.2
        · obtain ⟨w, pw, _⟩ := dv_par hd (sub j hj c1)
          exact (d (sub j hj c1) w pw).1.lt.2
      · obtain ⟨a, b, d⟩ := hf j hj
        by_cases c1 : j = 0
        · rw [b c1, c1]; exact hE.lk
        · obtain ⟨w, pw, _⟩ := dv_par hd (sub j hj c1)
          exact (d (sub j hj c1) w pw).1.lk
      · by_cases c1 : j = 0
        · subst c1; rw [(hf 0 hj).2.1 rfl]; exact ht hr'
        · exact absurd (sub j hj c1) (hr' 0)
      · obtain ⟨lt1, lt2, lt3⟩ := par_lt p'
        exact ((hf j lt2).2.2 (sub j lt2 (by omega)) u' p').2
noncomputable def emU (ds : List Int) (m : Nat) (like : Nat → Nat → Prop) (goes : Nat → Nat → Nat → Prop) (k c : Nat) : List Int := by
  classical
  exact ((List.range c).filter fun i => decide (Emb ds m like goes k i)).map fun i : Nat => (i : Int)
theorem emU_no {k c : Nat} (h : ¬ Emb ds m like goes k c) : emU ds m like goes k (c + 1) = emU ds m like goes k c := by
  classical
  unfold emU
  rw [List.range_succ, List.filter_append, List.map_append]
  simp [h]
end
def lkD (dr : List (Str × Int)) (qr : List Sr) (k p : Nat) : Prop := ∃ r sr, dr[p]? = some r ∧ qr[k]? = some sr ∧ r.1 = sr.2.1
def gsD (dr : List (Str × Int)) (qr : List Sr) (k p u : Nat) : Prop := ∀ sr, qr[k]? = some sr → Bn (dps dr) (wB sr.1) u p
def tpD (qr : List Sr) (k p : Nat) : Prop := ∀ sr, qr[k]? = some sr → sr.1 = "//" ∨ p = 0
def lkO (dr : List (Str × Int)) (qr : List Sr) (g : Nat) (o : Option Int) (k p : Nat) : Prop := lkD dr qr k p ∧ ∀ x, o = some x → k = g → (p : Int) = x
abbrev MtD (dr : List (Str × Int)) (qr : List Sr) (g : Nat) (o : Option Int) (f : Nat → Nat) : Prop := MtF (qds qr) dr.length (lkO dr qr g o) (gsD dr qr) (tpD qr) f
abbrev EmD (dr : List (Str × Int)) (qr : List Sr) (g : Nat) (o : Option Int) : Nat → Nat → Prop := Emb (qds qr) dr.length (lkO dr qr g o) (gsD dr qr)
abbrev FuD (dr : List (Str × Int)) (qr : List Sr) (g : Nat) (o : Option Int) : Nat → Nat → Prop := Ful (qds qr) dr.length (lkO dr qr g o) (gsD dr qr) (tpD qr)
theorem MtF.wk {ds : List Int} {m : Nat} {like like' : Nat → Nat → Prop} {goes : Nat → Nat → Nat → Prop} {top : Nat → Nat → Prop} {f : Nat → Nat} (h : MtF ds m like goes top f) (hl : ∀ k, k < ds.length → like k (f k) → like' k (f k)) : MtF ds m like' goes top f := ⟨h.lt, fun k hk => hl k hk (h.like k hk), h.top, h.goes⟩
theorem MtD.an {dr : List (Str × Int)} {qr : List Sr} {g : Nat} {o : Option Int} {f : Nat → Nat} (h : MtD dr qr g o f) (hd : Dv (qds qr)) : ∀ (k u : Nat), An (qds qr) u k → An (dps dr) (f u) (f k) := by
  intro k
  induction k using Nat.strongRecOn with
  | _ k ih =>
    intro u an
    obtain ⟨w, p, hw⟩ := dv_par hd an
    have hk : k < qr.length := by have := an.2.1; rw [qds_len] at this; exact this
    have e : An (dps dr) (f w) (f k) := (h.goes w k p _ (List.getElem?_eq_getElem hk)).1
    rcases hw with rfl | hw
    · exact e
    · exact (ih w (par_lt p).1 u hw).trans e
end Va

namespace Va
open PySem PySem.Spec PyProof.Rows L2 Bg
def kvOf (l : List ((Int × Int) × Bool)) : List (List Key × V) := l.map fun p => (kk2 p.1, V.bl p.2)
theorem has2_kv {l : List ((Int × Int) × Bool)} {u k : Int} : has2 (kvOf l) u k ↔ (u, k) ∈ l.map (·.1) := by
  unfold has2
  induction l with
  | nil => simp [kvOf, valV]
  | cons p l ih =>
    show (valV ((kk2 p.1, V.bl p.2) :: kvOf l) _).isSome = true ↔ _
    by_cases c : p.1 = (u, k)
    · rw [valV_pos (by show kk2 p.1 = _; rw [c]; rfl)]
      simp [c]
    · rw [valV_neg (fun z => c (kk2_inj _ _ z)), ih]
      simp [Ne.symm c]
theorem PWalk.cg {ds : List Int} {w : Bool} {i : Nat} {o : Option Int} {kv kv' : List (List Key × V)} (h : PWalk ds w i o kv) (e : ∀ u k, has2 kv' u k ↔ has2 kv u k) : PWalk ds w i o kv' := ⟨h.at_, fun u k => by rw [e, h.all]⟩
abbrev PrL (ds : List Int) (w : Bool) (n : Nat) (l : List ((Int × Int) × Bool)) : Prop := Prs ds w n (kvOf l)
theorem PrL.get {ds : List Int} {w : Bool} {n : Nat} {l : List ((Int × Int) × Bool)} (h : PrL ds w n l) {a b : Nat} (hb : b < n) : (getL l ((a : Int), (b : Int))).isSome = true ↔ Bn ds w a b := by
  rw [getL_has, ← has2_kv, h]
  constructor
  · rintro ⟨x, y, e1, e2, _, q⟩
    have e1 : a = x := by omega
    have e2 : b = y := by omega
    rw [e1, e2]; exact q
  · intro q
    exact ⟨a, b, rfl, rfl, hb, q⟩
theorem PrL.key {ds : List Int} {w : Bool} {n : Nat} {l : List ((Int × Int) × Bool)} (h : PrL ds w n l) {a b : Int} (hm : (a, b) ∈ l.map (·.1)) : ∃ x y : Nat, a = x ∧ b = y ∧ y < n ∧ Bn ds w x y := (h a b).mp (has2_kv.mpr hm)
theorem PrL.mem {ds : List Int} {w : Bool} {n : Nat} {l : List ((Int × Int) × Bool)} (h : PrL ds w n l) {x y : Nat} (hy : y < n) (q : Bn ds w x y) : ((x : Int), (y : Int)) ∈ l.map (·.1) := has2_kv.mp ((h _ _).mpr ⟨x, y, rfl, rfl, hy, q⟩)
structure PsL (ds : List Int) (L : List (Str × List ((Int × Int) × Bool))) : Prop where
  at_ : ∀ w : Str, (w = "/" ∨ w = "//") → ∃ l, getL L w = some l ∧ PrL ds (wB w) ds.length l ∧ l.length ≤ 1000000
theorem PsL.of {ds : List Int} {l1 l2 : List ((Int × Int) × Bool)} (h1 : PrL ds (wB "/") ds.length l1) (m1 : l1.length ≤ 1000000) (h2 : PrL ds (wB "//") ds.length l2) (m2 : l2.length ≤ 1000000) : PsL ds [("/", l1), ("//", l2)] := ⟨fun w hw => by
  rcases hw with rfl | rfl
  · exact ⟨l1, rfl, h1, m1⟩
  · exact ⟨l2, rfl, h2, m2⟩⟩
def EmO (ds : List Int) (m : Nat) (like : Nat → Nat → Prop) (goes : Nat → Nat → Nat → Prop) (k0 : Nat) (T : List (List (Int × Bool))) : Prop := T.length = ds.length ∧ ∀ k, k < ds.length → ∃ row, T[k]? = some row ∧ (k < k0 → row = []) ∧ (k0 ≤ k → row.map (·.1) = emU ds m like goes k m)
def EmI (ds : List Int) (m : Nat) (like : Nat → Nat → Prop) (goes : Nat → Nat → Nat → Prop) (st c : Nat) (T : List (List (Int × Bool))) : Prop := T.length = ds.length ∧ ∀ k, k < ds.length → ∃ row, T[k]? = some row ∧ (k < st → row = []) ∧ (k = st → row.map (·.1) = emU ds m like goes st c) ∧ (st < k → row.map (·.1) = emU ds m like goes k m)
section
variable {ds : List Int} {m : Nat} {like : Nat → Nat → Prop} {goes : Nat → Nat → Nat → Prop}
theorem EmO.start {st : Nat} {T : List (List (Int × Bool))} (h : EmO ds m like goes (st + 1) T) : EmI ds m like goes st 0 T :=
  ⟨h.1, fun k hk => let ⟨row, a, b, c⟩ := h.2 k hk; ⟨row, a, fun z => b (by omega), fun z => by rw [b (by omega)]; rfl, fun z => c (by omega)⟩⟩
theorem EmI.fin {st : Nat} {T : List (List (Int × Bool))} (h : EmI ds m like goes st m T) : EmO ds m like goes st T :=
  ⟨h.1, fun k hk => let ⟨row, a, b, c, d⟩ := h.2 k hk; ⟨row, a, b, fun z => by
    by_cases e : k = st
    · subst e; exact c rfl
    · exact d (by omega)⟩⟩
theorem EmI.no {st c : Nat} {T : List (List (Int × Bool))} (h : EmI ds m like goes st c T) (hs : ¬ Emb ds m like goes st c) : EmI ds m like goes st (c + 1) T :=
  ⟨h.1, fun k hk => let ⟨row, a, b, q, d⟩ := h.2 k hk; ⟨row, a, b, fun z => by rw [emU_no hs]; exact q z, d⟩⟩
end
theorem map_an {r1 r2 : List Sr} {g1 g2 : Nat} {im : List Nat} (ok1 : QuOk r1 g1) (hm : IsMapN r1 g1 r2 g2 im) : ∀ (k u x y : Nat), An (qds r1) u k → im[k]? = some x → im[u]? = some y → An (qds r2) y x := by
  intro k
  induction k using Nat.strongRecOn with
  | _ k ih =>
    intro u x y an hx hy
    obtain ⟨w, p, hw⟩ := dv_par ok1.dv an
    have hk : k < r1.length := by have := an.2.1; rw [qds_len] at this; exact this
    have hxl : x < r2.length := hm.2.1 x (List.mem_of_getElem? hx)
    obtain ⟨sr, hsr⟩ := get_lt hk
    obtain ⟨r', hr'⟩ := get_lt hxl
    have hwl : w < im.length := by rw [hm.1]; have := (par_lt p).1; omega
    have hz := List.getElem?_eq_getElem hwl
    have gt := (hm.2.2 k (by rw [hm.1]; exact hk) x hx).2.2 w _ p hz
    have e : An (qds r2) im[w] x := by
      rcases (goesS hsr hr').mp gt with ⟨_, pr, _⟩ | ⟨_, a⟩
      · exact pr.1
      · exact a
    rcases hw with rfl | hw
    · rw [hz] at hy
      cases hy
      exact e
    · exact (ih w (par_lt p).1 u _ y hw hz hy).trans e
theorem map_comp {r1 r2 r3 : List Sr} {g1 g2 g3 : Nat} {im jm : List Nat} (ok1 : QuOk r1 g1) (ok2 : QuOk r2 g2) (ok3 : QuOk r3 g3) (h1 : IsMapN r1 g1 r2 g2 im) (h2 : IsMapN r2 g2 r3 g3 jm) : IsMapN r1 g1 r3 g3 (im.map fun x => jm.getD x 0) := by
  have at2 : ∀ x, x < r2.length → jm[x]? = some (jm.getD x 0) ∧ jm.getD x 0 < r3.length := fun x hx => by
    have hx' : x < jm.length := by rw [h2.1]; exact hx
    have e := List.getElem?_eq_getElem hx'
    have e2 : jm.getD x 0 = jm[x] := by simp [List.getD, e]
    rw [e2]
    exact ⟨e, h2.2.1 _ (List.getElem_mem ..)⟩
  refine ⟨by rw [List.length_map]; exact h1.1, fun z hz => ?_, fun k hk z hz => ?_⟩
  · obtain ⟨x, hx, rfl⟩ := List.mem_map.mp hz
    exact (at2 x (h1.2.1 x hx)).2
  · rw [List.length_map] at hk
    have hx := List.getElem?_eq_getElem hk
    rw [List.getElem?_map, hx] at hz
    have hz : jm.getD im[k] 0 = z := Option.some.inj hz
    subst hz
    have hkl : k < r1.length := by rw [← h1.1]; exact hk
    have hxl : im[k] < r2.length := h1.2.1 _ (List.getElem_mem ..)
    obtain ⟨hj, hjl⟩ := at2 _ hxl
    obtain ⟨⟨⟨a, b, ha, hb, e⟩, hg⟩, ht, hp⟩ := h1.2.2 k hk _ hx
    obtain ⟨⟨⟨a', b', ha', hb', e'⟩, hg'⟩, ht', hp'⟩ := h2.2.2 _ (by rw [h2.1]; exact hxl) _ hj
    rw [hb] at ha'
    cases ha'
    obtain ⟨r0, hr0⟩ := get_lt (l := r3) (n := 0) (by omega)
    obtain ⟨q0, hq0⟩ := get_lt (l := r2) (n := 0) (by omega)
    refine ⟨⟨⟨a, b', ha, hb', by rw [e, e']⟩, fun z => hg' (hg z)⟩, fun hr => ?_, fun u y p hy => ?_⟩
    · rcases (goesN (im := im[k]) ha hq0).mp (ht hr) with c | ⟨c1, c2⟩
      · exact (goesN ha hr0).mpr (.inl c)
      · have hr2 : ∀ u, ¬ An (qds r2) u im[k] := fun u an => by have := an.1; omega
        rcases (goesN (im := jm.getD im[k] 0) hb hr0).mp (ht' hr2) with d | ⟨d1, d2⟩
        · have : b = q0 := by rw [c1, hq0] at hb; cases hb; rfl
          rw [this] at d
          exact absurd c2 d
        · exact (goesN ha hr0).mpr (.inr ⟨d1, d2⟩)
    · rw [List.getElem?_map] at hy
      have hul : u < im.length := Nat.lt_trans (par_lt p).1 hk
      have hu := List.getElem?_eq_getElem hul
      rw [hu] at hy
      have hy : jm.getD im[u] 0 = y := Option.some.inj hy
      subst hy
      have hul2 : im[u] < r2.length := h1.2.1 _ (List.getElem_mem ..)
      obtain ⟨hj2, _⟩ := at2 _ hul2
      rcases (goesS (u := im[u]) ha hb).mp (hp u _ p hu) with ⟨c1, pr, c2⟩ | ⟨c1, an⟩
      · rcases (goesS (u := jm.getD im[u] 0) hb hb').mp (hp' _ _ pr hj2) with ⟨d1, pr2, d2⟩ | ⟨d1, _⟩
        · exact (goesS ha hb').mpr (.inl ⟨c1, pr2, d2⟩)
        · exact absurd c2 d1
      · exact (goesS ha hb').mpr (.inr ⟨c1, map_an ok2 h2 _ _ _ _ an hj hj2⟩)
end Va

namespace Bg
open PySem PySem.Spec PyProof.Rows L2
structure FnD (P : Program) (w : World) (K : PySem.W.Frag) (mg : Str → Option Value) (base : Heap) (CX : CXT) (k : Nat) (x : Str) (ps : List Str) (dvs : List V) (sp : Sp) : Prop where
  ex : ∃ (f : Addr) (fd : FuncData) (ds : List Value), FnOk P w K mg base CX k f fd ps sp ∧ mg x = some (.ref f) ∧ PySem.W.keepIn K (.ref f) = true ∧ Vals dvs ds ∧ Binds K fd ps ds
theorem FnD.of {P : Program} {w : World} {K : PySem.W.Frag} {mg : Str → Option Value} {base : Heap} {CX : CXT} {k : Nat} {x : Str} {ps : List Str} {dvs : List V} {sp : Sp} {f : Addr} {fd : FuncData} (F : FnOk P w K mg base CX k f fd ps sp) (hm : mg x = some (.ref f)) (hk : PySem.W.keepIn K (.ref f) = true) (hb : ∃ ds, Vals dvs ds ∧ Binds K fd ps ds) : FnD P w K mg base CX k x ps dvs sp :=
  let ⟨ds, h1, h2⟩ := hb; ⟨f, fd, ds, F, hm, hk, h1, h2⟩
section
variable {X : Cx} {CX : CXT} {k : Nat} {ps : List Str} {sp : Sp} {E : XK} {x : Str} {p pos : Pos} {e : Expr} {es : List Expr} {t : TA} {dvs : List V}
end
end Bg
namespace Va
open PySem PySem.Spec PyProof.Rows L2 Bg
section
variable {K : PySem.W.Frag} {EX : L2.St → XK} {ρ : List Sl} {α β γ R : Type} {F : Fr R}
theorem ArOk.snoc {O : AP} {H : Hp} {vs : List V} {ss : List Sl} {v : V} {d : D} (h : ArOk K O H vs ss) (r : Rep K O H v d) : ArOk K O H (vs ++ [v]) (ss ++ [.sh d]) := by
  induction h with
  | nil => exact .sh r .nil
  | sh e _ ih => exact .sh e ih
  | src e1 e2 _ ih => exact .src e1 e2 ih
  | scr e _ ih => exact .scr e ih
  | sq q r _ ih => exact .sq q r ih
end
end Va

namespace Va
open PySem PySem.Spec PyProof.Rows L2 Bg
end Va

namespace Va
open PySem PySem.Spec PyProof.Rows L2 Bg
def wt (w : Str) : Nat := if w = "//" then 2 else 1
theorem wt_pos (w : Str) : 1 ≤ wt w ∧ wt w ≤ 2 := by unfold wt; split <;> decide
structure LO (qr : List Sr) (z : Str) (rows : List (Str × Int)) (pl : List Nat) (Dl : List Int) : Prop where
  dlen : Dl.length = pl.length
  le : pl.length ≤ qr.length
  at_ : ∀ (j p : Nat) (sr : Sr) (d : Int), pl[j]? = some p → qr[j]? = some sr → Dl[j]? = some d → rows[p]? = some (sr.2.1, d) ∧ (sr.1 = "//" → 1 ≤ p ∧ rows[p - 1]? = some (z, d - 1))
  first : ∀ (p : Nat) (sr : Sr), pl[0]? = some p → qr[0]? = some sr → p + 1 = wt sr.1
  next : ∀ (j p q : Nat) (sr : Sr), pl[j]? = some p → pl[j + 1]? = some q → qr[j + 1]? = some sr → q = p + wt sr.1
  fin0 : pl = [] → rows = []
  fin : ∀ j p, j + 1 = pl.length → pl[j]? = some p → rows.length = p + 1
  dep0 : ∀ (d : Int) (sr : Sr), Dl[0]? = some d → qr[0]? = some sr → d = (wt sr.1 : Int)
  dep : ∀ (u j : Nat) (du d : Int) (sr : Sr), Par (qds qr) u j → Dl[u]? = some du → Dl[j]? = some d → qr[j]? = some sr → d = du + (wt sr.1 : Int)
theorem LO.nil {qr : List Sr} {z : Str} : LO qr z [] [] [] := ⟨rfl, Nat.zero_le _, fun _ _ _ _ h => (nomatch h), fun _ _ h => (nomatch h), fun _ _ _ _ h => (nomatch h), fun _ => rfl, fun _ _ h => (nomatch h), fun _ _ h => (nomatch h), fun _ _ _ _ _ _ h => nomatch h⟩
section
variable {qr : List Sr} {g : Nat} {z : Str} {rows : List (Str × Int)} {pl : List Nat} {Dl : List Int}
theorem get_snoc {α : Type} {l : List α} {x y : α} {j : Nat} (h : (l ++ [x])[j]? = some y) : (j < l.length ∧ l[j]? = some y) ∨ (j = l.length ∧ y = x) := by
  rcases Nat.lt_or_ge j l.length with c | c
  · rw [List.getElem?_append_left c] at h
    exact .inl ⟨c, h⟩
  · have hl := (List.getElem?_eq_some_iff.mp h).1
    rw [List.length_append, List.length_singleton] at hl
    have e : j = l.length := by omega
    subst e
    rw [List.getElem?_append_right (Nat.le_refl _), Nat.sub_self] at h
    exact .inr ⟨rfl, (Option.some.inj h).symm⟩
theorem LO.lt (h : LO qr z rows pl Dl) : ∀ (j p : Nat), pl[j]? = some p → p < rows.length := fun j p hp => by
  obtain ⟨sr, hsr⟩ := get_lt (l := qr) (n := j) (by have := (List.getElem?_eq_some_iff.mp hp).1; have := h.le; omega)
  obtain ⟨d, hd⟩ := get_lt (l := Dl) (n := j) (by have := (List.getElem?_eq_some_iff.mp hp).1; have := h.dlen; omega)
  exact (List.getElem?_eq_some_iff.mp (h.at_ j p sr d hp hsr hd).1).1
theorem LO.snoc (h : LO qr z rows pl Dl) (hd : Dv (qds qr)) {sr : Sr} (hsr : qr[pl.length]? = some sr) {d0 : Int} (h0 : (∀ u, ¬ An (qds qr) u pl.length) → d0 = 0) (hu : ∀ u du, Par (qds qr) u pl.length → Dl[u]? = some du → d0 = du) :
    LO qr z (rows ++ ((if sr.1 = "//" then [(z, d0 + 1)] else []) ++ [(sr.2.1, d0 + (wt sr.1 : Int))])) (pl ++ [rows.length + wt sr.1 - 1]) (Dl ++ [d0 + (wt sr.1 : Int)]) := by
  have hkl : pl.length < qr.length := (List.getElem?_eq_some_iff.mp hsr).1
  have hw := wt_pos sr.1
  have blk : ((if sr.1 = "//" then [(z, d0 + 1)] else []) ++ [(sr.2.1, d0 + (wt sr.1 : Int))]).length = wt sr.1 := by
    unfold wt
    by_cases c : sr.1 = "//"
    · rw [if_pos c, if_pos c]; rfl
    · rw [if_neg c, if_neg c]; rfl
  have hdl := h.dlen
  refine ⟨by rw [List.length_append, List.length_append, hdl]; rfl, by rw [List.length_append]; exact hkl, fun j p sr' d hp hs hdd => ?_, fun p sr' hp hs => ?_, fun j p q sr' hp hq hs => ?_, fun e => by simp at e, fun j p hj hp => ?_, fun d sr' hdd hs => ?_, fun u j du d sr' par h1 h2 hs => ?_⟩
  · rcases get_snoc hp with ⟨c, hp⟩ | ⟨rfl, rfl⟩
    · rw [List.getElem?_append_left (by omega)] at hdd
      obtain ⟨a, b⟩ := h.at_ j p sr' d hp hs hdd
      have hpl := h.lt j p hp
      refine ⟨by rw [List.getElem?_append_left hpl]; exact a, fun w => ?_⟩
      obtain ⟨b1, b2⟩ := b w
      exact ⟨b1, by rw [List.getElem?_append_left (by omega)]; exact b2⟩
    · rw [hsr] at hs
      cases hs
      rw [List.getElem?_append_right (by omega), hdl, Nat.sub_self] at hdd
      have hdd : d0 + (wt sr.1 : Int) = d := Option.some.inj hdd
      subst hdd
      by_cases c : sr.1 = "//"
      · have e : wt sr.1 = 2 := by unfold wt; rw [if_pos c]
        rw [e, if_pos c]
        refine ⟨?_, fun _ => ⟨by omega, ?_⟩⟩
        · rw [List.getElem?_append_right (by omega), show rows.length + 2 - 1 - rows.length = 1 by omega]; rfl
        · rw [List.getElem?_append_right (by omega), show rows.length + 2 - 1 - 1 - rows.length = 0 by omega]
          show some (z, d0 + 1) = some (z, d0 + 2 - 1)
          rw [show d0 + 2 - 1 = d0 + 1 by omega]
      · have e : wt sr.1 = 1 := by unfold wt; rw [if_neg c]
        rw [e, if_neg c]
        refine ⟨?_, fun w => absurd w c⟩
        rw [List.getElem?_append_right (by omega), show rows.length + 1 - 1 - rows.length = 0 by omega]; rfl
  · rcases get_snoc hp with ⟨c, hp⟩ | ⟨e, rfl⟩
    · exact h.first p sr' hp hs
    · rw [e, hsr] at hs
      cases hs
      have : rows = [] := h.fin0 (List.length_eq_zero_iff.mp e.symm)
      rw [this, List.length_nil]
      omega
  · rcases get_snoc hq with ⟨c, hq⟩ | ⟨e, rfl⟩
    · rw [List.getElem?_append_left (by omega)] at hp
      exact h.next j p q sr' hp hq hs
    · rw [e, hsr] at hs
      cases hs
      rw [List.getElem?_append_left (by omega)] at hp
      have := h.fin j p e hp
      omega
  · rw [List.length_append, List.length_singleton] at hj
    rcases get_snoc hp with ⟨c, _⟩ | ⟨e, rfl⟩
    · omega
    · rw [List.length_append, blk]
      omega
  · rcases get_snoc hdd with ⟨c, hdd⟩ | ⟨e, rfl⟩
    · exact h.dep0 d sr' hdd hs
    · rw [e, hdl, hsr] at hs
      cases hs
      rw [h0 fun u a => by have := a.1; omega]
      omega
  · have lt1 := (par_lt par).1
    rcases get_snoc h2 with ⟨c, h2⟩ | ⟨e, rfl⟩
    · rw [List.getElem?_append_left (by omega)] at h1
      exact h.dep u j du d sr' par h1 h2 hs
    · rw [e, hdl] at hs par
      rw [hsr] at hs
      cases hs
      rw [List.getElem?_append_left (by omega)] at h1
      rw [hu u du par h1]
structure LW (qr : List Sr) (g : Nat) (z : Str) (rows : List (Str × Int)) (pl : List Nat) (Dl : List Int) : Prop where
  lo : LO qr z rows pl Dl
  all : pl.length = qr.length
  ok : QuOk qr g
  zl : labelB z = true
namespace LW
variable (h : LW qr g z rows pl Dl)
include h
theorem at2 {j : Nat} (hj : j < qr.length) : ∃ (p : Nat) (d : Int) (sr : Sr), pl[j]? = some p ∧ Dl[j]? = some d ∧ qr[j]? = some sr ∧ rows[p]? = some (sr.2.1, d) ∧ (sr.1 = "//" → 1 ≤ p ∧ rows[p - 1]? = some (z, d - 1)) ∧ p < rows.length := by
  obtain ⟨p, hp⟩ := get_lt (l := pl) (n := j) (by rw [h.all]; exact hj)
  obtain ⟨d, hd⟩ := get_lt (l := Dl) (n := j) (by rw [h.lo.dlen, h.all]; exact hj)
  obtain ⟨sr, hsr⟩ := get_lt hj
  obtain ⟨a, b⟩ := h.lo.at_ j p sr d hp hsr hd
  exact ⟨p, d, sr, hp, hd, hsr, a, b, h.lo.lt j p hp⟩
theorem dlt : ∀ (j u : Nat) (du d : Int) (sr : Sr), An (qds qr) u j → Dl[u]? = some du → Dl[j]? = some d → qr[j]? = some sr → du + (wt sr.1 : Int) ≤ d := by
  intro j
  induction j using Nat.strongRecOn with
  | _ j ih =>
    intro u du d sr an h1 h2 h3
    obtain ⟨w, p, hw⟩ := dv_par h.ok.dv an
    have hwl : w < qr.length := by have := (par_lt p).2.2; rw [qds_len] at this; exact this
    obtain ⟨_, dw, srw, _, hdw, hsw, _⟩ := h.at2 hwl
    have e := h.lo.dep w j dw d sr p hdw h2 h3
    rcases hw with rfl | hw
    · rw [h1] at hdw
      cases hdw
      omega
    · have := ih w (par_lt p).1 u du dw srw hw h1 hdw hsw
      omega
theorem dpos : ∀ (j : Nat) (d : Int) (sr : Sr), Dl[j]? = some d → qr[j]? = some sr → (wt sr.1 : Int) ≤ d ∧ d ≤ 2 * dg (qds qr) j := by
  intro j
  induction j using Nat.strongRecOn with
  | _ j ih =>
    intro d sr h1 h2
    have hj : j < qr.length := (List.getElem?_eq_some_iff.mp h2).1
    have hw := wt_pos sr.1
    rcases Nat.eq_zero_or_pos j with rfl | hp
    · rw [h.lo.dep0 d sr h1 h2, h.ok.dv.one]
      omega
    · obtain ⟨w, p, _⟩ := dv_par h.ok.dv (dv_root h.ok.dv (by rw [qds_len]; exact hj) hp)
      have hwl : w < qr.length := by have := (par_lt p).2.2; rw [qds_len] at this; exact this
      obtain ⟨_, dw, srw, _, hdw, hsw, _⟩ := h.at2 hwl
      have e := h.lo.dep w j dw d sr p hdw h1 h2
      obtain ⟨a, b⟩ := ih w (par_lt p).1 dw srw hdw hsw
      have hww := wt_pos srw.1
      have := p.2
      omega
theorem plt : ∀ (j i p q : Nat), i < j → pl[i]? = some p → pl[j]? = some q → p < q := by
  intro j
  induction j with
  | zero => intro i p q hi; omega
  | succ j ih =>
    intro i p q hij hp hq
    have hj1 : j + 1 < qr.length := by rw [← h.all]; exact (List.getElem?_eq_some_iff.mp hq).1
    obtain ⟨r, hr⟩ := get_lt (l := pl) (n := j) (by rw [h.all]; omega)
    obtain ⟨sr, hsr⟩ := get_lt hj1
    have e := h.lo.next j r q sr hr hq hsr
    have hw := wt_pos sr.1
    by_cases c : i = j
    · subst c
      rw [hr] at hp
      cases hp
      omega
    · have := ih i p r (by omega) hp hr
      omega
theorem inj {i j p : Nat} (hi : pl[i]? = some p) (hj : pl[j]? = some p) : i = j := by
  rcases Nat.lt_trichotomy i j with c | c | c
  · have := h.plt j i p p c hi hj; omega
  · exact c
  · have := h.plt i j p p c hj hi; omega
theorem gap {i j p q : Nat} {sr : Sr} (hj : pl[j]? = some q) (hs : qr[j]? = some sr) (w : sr.1 = "//") (hi : pl[i]? = some p) : p + 1 ≠ q := fun e => by
  have e2 : wt sr.1 = 2 := by unfold wt; rw [if_pos w]
  rcases Nat.eq_zero_or_pos j with rfl | hp
  · have := h.lo.first q sr hj hs
    have c : ¬ i < 0 := by omega
    rcases Nat.eq_zero_or_pos i with rfl | hi0
    · rw [hi] at hj; cases hj; omega
    · have := h.plt i 0 q p hi0 hj hi; omega
  · obtain ⟨j', rfl⟩ : ∃ j', j = j' + 1 := ⟨j - 1, by omega⟩
    have hj1 : j' + 1 < qr.length := (List.getElem?_eq_some_iff.mp hs).1
    obtain ⟨r, hr⟩ := get_lt (l := pl) (n := j') (by rw [h.all]; omega)
    have := h.lo.next j' r q sr hr hj hs
    rcases Nat.lt_or_ge j' i with c | c
    · rcases Nat.lt_or_ge i (j' + 1) with c2 | c2
      · omega
      · by_cases c3 : i = j' + 1
        · subst c3; rw [hj] at hi; cases hi; omega
        · have := h.plt i (j' + 1) q p (by omega) hj hi; omega
    · by_cases c3 : i = j'
      · subst c3; rw [hr] at hi; cases hi; omega
      · have := h.plt j' i p r (by omega) hi hr; omega
theorem cover : ∀ (n : Nat), n < rows.length → ∃ (j p : Nat) (sr : Sr), pl[j]? = some p ∧ qr[j]? = some sr ∧ (n = p ∨ (sr.1 = "//" ∧ n + 1 = p)) := by
  have key : ∀ (j p : Nat), pl[j]? = some p → ∀ n, n ≤ p → ∃ (j p : Nat) (sr : Sr), pl[j]? = some p ∧ qr[j]? = some sr ∧ (n = p ∨ (sr.1 = "//" ∧ n + 1 = p)) := by
    intro j
    induction j with
    | zero =>
      intro p hp n hn
      obtain ⟨sr, hsr⟩ := get_lt (l := qr) (n := 0) (by rw [← h.all]; exact (List.getElem?_eq_some_iff.mp hp).1)
      have e := h.lo.first p sr hp hsr
      unfold wt at e
      refine ⟨0, p, sr, hp, hsr, ?_⟩
      by_cases c : sr.1 = "//"
      · rw [if_pos c] at e
        by_cases c2 : n = p
        · exact .inl c2
        · exact .inr ⟨c, by omega⟩
      · rw [if_neg c] at e
        exact .inl (by omega)
    | succ j ih =>
      intro p hp n hn
      have hj1 : j + 1 < qr.length := by rw [← h.all]; exact (List.getElem?_eq_some_iff.mp hp).1
      obtain ⟨r, hr⟩ := get_lt (l := pl) (n := j) (by rw [h.all]; omega)
      obtain ⟨sr, hsr⟩ := get_lt hj1
      have e := h.lo.next j r p sr hr hp hsr
      by_cases c0 : n ≤ r
      · exact ih r hr n c0
      · unfold wt at e
        refine ⟨j + 1, p, sr, hp, hsr, ?_⟩
        by_cases c : sr.1 = "//"
        · rw [if_pos c] at e
          by_cases c2 : n = p
          · exact .inl c2
          · exact .inr ⟨c, by omega⟩
        · rw [if_neg c] at e
          exact .inl (by omega)
  intro n hn
  have hone := h.ok.one
  obtain ⟨p, hp⟩ := get_lt (l := pl) (n := qr.length - 1) (by rw [h.all]; omega)
  have := h.lo.fin (qr.length - 1) p (by rw [h.all]; omega) hp
  exact key _ p hp n (by omega)
theorem dgp {j p : Nat} {d : Int} (hp : pl[j]? = some p) (hd : Dl[j]? = some d) : dg (dps rows) p = d := by
  have hj : j < qr.length := by rw [← h.all]; exact (List.getElem?_eq_some_iff.mp hp).1
  obtain ⟨p', d', sr, h1, h2, h3, h4, _⟩ := h.at2 hj
  rw [hp] at h1; cases h1
  rw [hd] at h2; cases h2
  exact dps_at h4
theorem dgs {j p : Nat} {d : Int} {sr : Sr} (hp : pl[j]? = some p) (hd : Dl[j]? = some d) (hs : qr[j]? = some sr) (w : sr.1 = "//") : dg (dps rows) (p - 1) = d - 1 ∧ 1 ≤ p := by
  have hj : j < qr.length := by rw [← h.all]; exact (List.getElem?_eq_some_iff.mp hp).1
  obtain ⟨p', d', sr', h1, h2, h3, h4, h5, _⟩ := h.at2 hj
  rw [hp] at h1; cases h1
  rw [hd] at h2; cases h2
  rw [hs] at h3; cases h3
  obtain ⟨a, b⟩ := h5 w
  exact ⟨dps_at b, a⟩
theorem anp {u j pu pj : Nat} (an : An (qds qr) u j) (hu : pl[u]? = some pu) (hj : pl[j]? = some pj) : An (dps rows) pu pj ∧ ∀ sr, qr[j]? = some sr → sr.1 = "//" → An (dps rows) pu (pj - 1) := by
  have hul : u < qr.length := by have := an.1; have := an.2.1; rw [qds_len] at this; omega
  have hjl : j < qr.length := by have := an.2.1; rw [qds_len] at this; exact this
  obtain ⟨_, du, su, hu1, hdu, hsu, _, _, hpul⟩ := h.at2 hul
  rw [hu] at hu1; cases hu1
  have gt : ∀ n, pu < n → n ≤ pj → dg (dps rows) pu < dg (dps rows) n := fun n h1 h2 => by
    obtain ⟨i, p, sr, hp, hs, hc⟩ := h.cover n (by have := h.lo.lt j pj hj; omega)
    have hil : i < qr.length := (List.getElem?_eq_some_iff.mp hs).1
    obtain ⟨_, di, si, hp1, hdi, hsi, _⟩ := h.at2 hil
    rw [hp] at hp1; cases hp1
    rw [hs] at hsi; cases hsi
    have hui : u < i := by
      rcases Nat.lt_trichotomy u i with c | c | c
      · exact c
      · subst c; rw [hu] at hp; cases hp; omega
      · have := h.plt u i p pu c hp hu; omega
    have hij : i ≤ j := by
      rcases Nat.lt_or_ge j i with c | c
      · have := h.plt i j pj p c hj hp
        rcases hc with e | ⟨w, e⟩
        · omega
        · have := h.gap hp hs w hj
          omega
      · exact c
    have an2 : An (qds qr) u i := ⟨hui, by rw [qds_len]; exact hil, fun m a b => an.2.2 m a (by omega)⟩
    have hd := h.dlt i u du di sr an2 hdu hdi hs
    rw [h.dgp hu hdu]
    rcases hc with rfl | ⟨w, e⟩
    · rw [h.dgp hp hdi]
      have := wt_pos sr.1
      omega
    · have e2 : wt sr.1 = 2 := by unfold wt; rw [if_pos w]
      rw [show n = p - 1 by omega, (h.dgs hp hdi hs w).1]
      omega
  have hlt := h.plt j u pu pj an.1 hu hj
  have hpj := h.lo.lt j pj hj
  refine ⟨⟨hlt, by rw [dps_len]; exact hpj, gt⟩, fun sr hs w => ?_⟩
  have := h.gap hj hs w hu
  exact ⟨by omega, by rw [dps_len]; omega, fun n a b => gt n a (by omega)⟩
theorem par_s {u j pu pj : Nat} {sr : Sr} (p : Par (qds qr) u j) (hu : pl[u]? = some pu) (hj : pl[j]? = some pj) (hs : qr[j]? = some sr) : if sr.1 = "//" then Par (dps rows) pu (pj - 1) ∧ Par (dps rows) (pj - 1) pj else Par (dps rows) pu pj := by
  have hul : u < qr.length := by have := (par_lt p).2.2; rw [qds_len] at this; exact this
  have hjl : j < qr.length := by have := (par_lt p).2.1; rw [qds_len] at this; exact this
  obtain ⟨_, du, su, hu1, hdu, hsu, _⟩ := h.at2 hul
  rw [hu] at hu1; cases hu1
  obtain ⟨_, dj, sj, hj1, hdj, hsj, _, _, hpj⟩ := h.at2 hjl
  rw [hj] at hj1; cases hj1
  have e := h.lo.dep u j du dj sr p hdu hdj hs
  obtain ⟨a1, a2⟩ := h.anp p.1 hu hj
  by_cases c : sr.1 = "//"
  · rw [if_pos c]
    have e2 : wt sr.1 = 2 := by unfold wt; rw [if_pos c]
    obtain ⟨s1, s2⟩ := h.dgs hj hdj hs c
    refine ⟨⟨a2 sr hs c, by rw [h.dgp hu hdu, s1]; omega⟩, ⟨⟨by omega, by rw [dps_len]; exact hpj, fun n b1 b2 => ?_⟩, by rw [s1, h.dgp hj hdj]; omega⟩⟩
    rw [show n = pj by omega, s1, h.dgp hj hdj]
    omega
  · rw [if_neg c]
    have e2 : wt sr.1 = 1 := by unfold wt; rw [if_neg c]
    exact ⟨a1, by rw [h.dgp hu hdu, h.dgp hj hdj]; omega⟩
theorem par_0 {p0 : Nat} {sr : Sr} (hp : pl[0]? = some p0) (hs : qr[0]? = some sr) : if sr.1 = "//" then p0 = 1 ∧ Par (dps rows) 0 p0 else p0 = 0 := by
  have e := h.lo.first p0 sr hp hs
  have hone := h.ok.one
  obtain ⟨_, d0, s0, h1, h2, h3, _, _, h5⟩ := h.at2 (j := 0) (by omega)
  rw [hp] at h1; cases h1
  by_cases c : sr.1 = "//"
  · rw [if_pos c]
    have e2 : wt sr.1 = 2 := by unfold wt; rw [if_pos c]
    have ed := h.lo.dep0 d0 sr h2 hs
    obtain ⟨s1, s2⟩ := h.dgs hp h2 hs c
    have p1 : p0 = 1 := by omega
    subst p1
    refine ⟨rfl, ⟨by omega, by rw [dps_len]; exact h5, fun n b1 b2 => ?_⟩, ?_⟩
    · rw [show n = 1 by omega, h.dgp hp h2]
      have : dg (dps rows) 0 = d0 - 1 := s1
      omega
    · have : dg (dps rows) 0 = d0 - 1 := s1
      rw [this, h.dgp hp h2]; omega
  · rw [if_neg c]
    have e2 : wt sr.1 = 1 := by unfold wt; rw [if_neg c]
    omega
end LW
end
end Va

namespace Va
open PySem PySem.Spec PyProof.Rows L2 Bg
section
variable {qr : List Sr} {g : Nat} {z : Str} {rows : List (Str × Int)} {pl : List Nat} {Dl : List Int}
theorem LW.an_back (h : LW qr g z rows pl Dl) : ∀ (x y px py : Nat), pl[x]? = some px → pl[y]? = some py → An (dps rows) py px → An (qds qr) y x := by
  intro x
  induction x using Nat.strongRecOn with
  | _ x ih =>
    intro y px py hx hy an
    have hxl : x < qr.length := by rw [← h.all]; exact (List.getElem?_eq_some_iff.mp hx).1
    obtain ⟨sr, hsr⟩ := get_lt hxl
    rcases Nat.eq_zero_or_pos x with rfl | hx0
    · have e := h.par_0 hx hsr
      have lt := an.1
      by_cases c : sr.1 = "//"
      · rw [if_pos c] at e
        rcases Nat.eq_zero_or_pos y with rfl | hy0
        · rw [hx] at hy; cases hy; omega
        · have := h.plt y 0 px py hy0 hx hy; omega
      · rw [if_neg c] at e; omega
    · obtain ⟨u, p, _⟩ := dv_par h.ok.dv (dv_root h.ok.dv (by rw [qds_len]; exact hxl) hx0)
      have hul : u < qr.length := by have := (par_lt p).2.2; rw [qds_len] at this; exact this
      obtain ⟨pu, hpu⟩ := get_lt (l := pl) (n := u) (by rw [h.all]; exact hul)
      have ps := h.par_s p hpu hx hsr
      have fin : (py = pu ∨ An (dps rows) py pu) → An (qds qr) y x := fun k => by
        rcases k with rfl | k
        · rw [h.inj hy hpu]; exact p.1
        · exact (ih u (par_lt p).1 y pu py hpu hy k).trans p.1
      by_cases c : sr.1 = "//"
      · rw [if_pos c] at ps
        rcases (ps.2.all py).mp an with e | e
        · have := h.gap hx hsr c hy
          have := ps.2.1.1
          omega
        · exact fin ((ps.1.all py).mp e)
      · rw [if_neg c] at ps
        exact fin ((ps.all py).mp an)
theorem LW.par_back (h : LW qr g z rows pl Dl) {x y px py : Nat} {sr : Sr} (hx : pl[x]? = some px) (hy : pl[y]? = some py) (hsr : qr[x]? = some sr) (pr : Par (dps rows) py px) : Par (qds qr) y x ∧ sr.1 = "/" := by
  have an := h.an_back x y px py hx hy pr.1
  have hxl : x < qr.length := (List.getElem?_eq_some_iff.mp hsr).1
  obtain ⟨u, p, _⟩ := dv_par h.ok.dv an
  have hul : u < qr.length := by have := (par_lt p).2.2; rw [qds_len] at this; exact this
  obtain ⟨pu, hpu⟩ := get_lt (l := pl) (n := u) (by rw [h.all]; exact hul)
  have ps := h.par_s p hpu hx hsr
  by_cases c : sr.1 = "//"
  · rw [if_pos c] at ps
    have e : py = px - 1 := ps.2.only pr
    have := h.gap hx hsr c hy
    have := ps.2.1.1
    omega
  · rw [if_neg c] at ps
    have e : py = pu := ps.only pr
    subst e
    rw [h.inj hy hpu]
    exact ⟨p, (h.ok.way sr (List.mem_of_getElem? hsr)).resolve_right c⟩
theorem LW.map_ {r1 : List Sr} {g1 : Nat} {f : Nat → Nat} (h : LW qr g z rows pl Dl) (ok1 : QuOk r1 g1) (hz : ∀ r ∈ r1, r.2.1 ≠ z) (mf : MtD rows r1 g1 none f) (hg : pl[g]? = some (f g1)) : ∃ im, IsMapN r1 g1 qr g im := by
  classical
  have ex : ∀ k, k < r1.length → ∃ x, pl[x]? = some (f k) := fun k hk => by
    obtain ⟨⟨r, sk, h1, h2, h3⟩, _⟩ := mf.like k (by rw [qds_len]; exact hk)
    have hl := (List.getElem?_eq_some_iff.mp h1).1
    obtain ⟨j, p, sr, hp, hs, hc⟩ := h.cover (f k) hl
    rcases hc with e | ⟨w, e⟩
    · exact ⟨j, by rw [e]; exact hp⟩
    · have hj : j < qr.length := (List.getElem?_eq_some_iff.mp hs).1
      obtain ⟨p', d, sr', q1, q2, q3, q4, q5, _⟩ := h.at2 hj
      rw [hp] at q1; cases q1
      rw [hs] at q3; cases q3
      have := (q5 w).2
      rw [show p - 1 = f k by omega, h1] at this
      cases this
      exact absurd h3.symm (hz sk (List.mem_of_getElem? h2))
  let hm : Nat → Nat := fun k => if c : k < r1.length then (ex k c).choose else 0
  have hat : ∀ k, k < r1.length → pl[hm k]? = some (f k) := fun k hk => by
    show pl[if c : k < r1.length then (ex k c).choose else 0]? = _
    rw [dif_pos hk]; exact (ex k hk).choose_spec
  have hlt : ∀ k, k < r1.length → hm k < qr.length := fun k hk => by rw [← h.all]; exact (List.getElem?_eq_some_iff.mp (hat k hk)).1
  refine ⟨(List.range r1.length).map hm, by simp, fun x hx => ?_, fun k hk x hx => ?_⟩
  · obtain ⟨k, hk, rfl⟩ := List.mem_map.mp hx
    exact hlt k (List.mem_range.mp hk)
  · have hk : k < r1.length := by simpa using hk
    rw [List.getElem?_map, List.getElem?_range hk] at hx
    have hx : hm k = x := Option.some.inj hx
    subst hx
    obtain ⟨⟨r, sk, h1, h2, h3⟩, _⟩ := mf.like k (by rw [qds_len]; exact hk)
    obtain ⟨p, d, sx, q1, q2, q3, q4, _⟩ := h.at2 (hlt k hk)
    rw [hat k hk] at q1; cases q1
    rw [h1] at q4; cases q4
    have hway1 := ok1.way sk (List.mem_of_getElem? h2)
    refine ⟨⟨⟨sk, sx, h2, q3, h3.symm⟩, fun e => ?_⟩, fun hr => ?_, fun u y p hy => ?_⟩
    · subst e
      exact h.inj (hat _ hk) hg
    · obtain ⟨s0, hs0⟩ := get_lt (l := qr) (n := 0) (by have := h.ok.one; omega)
      refine (goesN h2 hs0).mpr ?_
      rcases mf.top k (by rw [qds_len]; exact hk) hr sk h2 with w | w
      · exact .inl (by rw [w]; decide)
      · have hx0 : hm k = 0 := by
          rcases Nat.eq_zero_or_pos (hm k) with e | e
          · exact e
          · obtain ⟨p0, hp0⟩ := get_lt (l := pl) (n := 0) (by rw [h.all]; have := h.ok.one; omega)
            have := h.plt (hm k) 0 p0 (f k) e hp0 (hat k hk)
            omega
        have hk0 := hat k hk
        rw [hx0] at hk0
        have e := h.par_0 hk0 hs0
        right
        refine ⟨hx0, ?_⟩
        by_cases c : s0.1 = "//"
        · rw [if_pos c] at e; omega
        · exact (h.ok.way s0 (List.mem_of_getElem? hs0)).resolve_right c
    · obtain ⟨l1, l2, l3⟩ := par_lt p
      rw [qds_len] at l3
      rw [List.getElem?_map, List.getElem?_range l3] at hy
      have hy : hm u = y := Option.some.inj hy
      subst hy
      have bn := mf.goes u k p sk h2
      refine (goesS h2 q3).mpr ?_
      rcases hway1 with w | w
      · have pr : Par (dps rows) (f u) (f k) := ⟨bn.1, bn.2.resolve_left (by rw [w]; decide)⟩
        obtain ⟨a, b⟩ := h.par_back (hat k hk) (hat u l3) q3 pr
        exact .inl ⟨w, a, b⟩
      · exact .inr ⟨by rw [w]; decide, h.an_back _ _ _ _ (hat k hk) (hat u l3) bn.1⟩
end
end Va

namespace Va
open PySem PySem.Spec PyProof.Rows L2 Bg
def nmR (rows : List Sr) (old new : Str) : List Sr := rows.map fun r => (r.1, (if r.2.1 = old then new else r.2.1), r.2.2)
theorem nmR_len (rows : List Sr) (old new : Str) : (nmR rows old new).length = rows.length := List.length_map ..
theorem nmR_qds (rows : List Sr) (old new : Str) : qds (nmR rows old new) = qds rows := by unfold qds nmR; rw [List.map_map]; rfl
theorem nmR_at {rows : List Sr} {old new : Str} {k : Nat} {r : Sr} (h : rows[k]? = some r) : (nmR rows old new)[k]? = some (r.1, (if r.2.1 = old then new else r.2.1), r.2.2) := by unfold nmR; rw [List.getElem?_map, h]; rfl
theorem nmR_ok {rows : List Sr} {g : Nat} {old new : Str} (ok : QuOk rows g) (hn : labelB new = true) : QuOk (nmR rows old new) g := by
  have mem : ∀ r ∈ nmR rows old new, ∃ r' ∈ rows, r = (r'.1, (if r'.2.1 = old then new else r'.2.1), r'.2.2) := fun r hr => by
    obtain ⟨r', h1, h2⟩ := List.mem_map.mp hr
    exact ⟨r', h1, h2.symm⟩
  refine ⟨by rw [nmR_len]; exact ok.one, by rw [nmR_len]; exact ok.most, fun r hr => ?_, fun r hr => ?_, by rw [nmR_qds]; exact ok.dv, fun r hr => ?_, by rw [nmR_len]; exact ok.goal⟩
  · obtain ⟨r', h1, rfl⟩ := mem r hr; exact ok.way r' h1
  · obtain ⟨r', h1, rfl⟩ := mem r hr
    show labelB (if r'.2.1 = old then new else r'.2.1) = true
    split
    · exact hn
    · exact ok.lab r' h1
  · obtain ⟨r', h1, rfl⟩ := mem r hr; exact ok.deep r' h1
theorem nmR_map {r1 r2 : List Sr} {g1 g2 : Nat} {old new : Str} {im : List Nat} (ok1 : QuOk r1 g1) (ok2 : QuOk r2 g2) (h1 : ∀ r ∈ r1, r.2.1 ≠ new) (h2 : ∀ r ∈ r2, r.2.1 ≠ new) : IsMapN (nmR r1 old new) g1 (nmR r2 old new) g2 im ↔ IsMapN r1 g1 r2 g2 im := by
  have two := ok2.one
  obtain ⟨r0, hr0⟩ := get_lt (l := r2) (n := 0) (by omega)
  have lk : ∀ k x, k < r1.length → x < r2.length → (Likes (nmR r1 old new) g1 (nmR r2 old new) g2 k x ↔ Likes r1 g1 r2 g2 k x) := fun k x hk hx => by
    obtain ⟨a, ha⟩ := get_lt hk
    obtain ⟨b, hb⟩ := get_lt hx
    have na := h1 a (List.mem_of_getElem? ha)
    have nb := h2 b (List.mem_of_getElem? hb)
    rw [likes_at (nmR_at ha) (nmR_at hb), likes_at ha hb]
    have : ((if a.2.1 = old then new else a.2.1) = (if b.2.1 = old then new else b.2.1)) ↔ a.2.1 = b.2.1 := by
      by_cases c : a.2.1 = old <;> by_cases d : b.2.1 = old
      · simp [c, d]
      · rw [if_pos c, if_neg d]
        exact ⟨fun e => absurd e.symm nb, fun e => absurd (e.symm.trans c) d⟩
      · rw [if_neg c, if_pos d]
        exact ⟨fun e => absurd e na, fun e => absurd (e.trans d) c⟩
      · rw [if_neg c, if_neg d]
    exact and_congr this Iff.rfl
  have gn : ∀ k x, k < r1.length → (GoesT (nmR r1 old new) (nmR r2 old new) k x none ↔ GoesT r1 r2 k x none) := fun k x hk => by
    obtain ⟨a, ha⟩ := get_lt hk
    rw [goesN (im := x) (nmR_at ha) (nmR_at hr0), goesN (im := x) ha hr0]
  have gs : ∀ k x u, k < r1.length → x < r2.length → (GoesT (nmR r1 old new) (nmR r2 old new) k x (some u) ↔ GoesT r1 r2 k x (some u)) := fun k x u hk hx => by
    obtain ⟨a, ha⟩ := get_lt hk
    obtain ⟨b, hb⟩ := get_lt hx
    rw [goesS (u := u) (nmR_at ha) (nmR_at hb), goesS (u := u) ha hb, nmR_qds]
  unfold IsMapN
  rw [nmR_len, nmR_len]
  refine and_congr_right fun hl => and_congr_right fun hb => ?_
  refine forall_congr' fun s => ?_
  refine forall_congr' fun hs => ?_
  unfold StepOk
  rw [nmR_qds]
  refine forall_congr' fun x => ?_
  refine forall_congr' fun hx => ?_
  have hxl : x < r2.length := hb x (List.mem_of_getElem? hx)
  rw [lk s x (by omega) hxl, gn s x (by omega)]
  refine and_congr_right fun _ => and_congr_right fun _ => ?_
  refine forall_congr' fun u => forall_congr' fun y => forall_congr' fun p => forall_congr' fun hy => ?_
  exact gs s x y (by omega) hxl
end Va

namespace Va
open PySem PySem.Spec PyProof.Rows L2 Bg
section
variable {K : PySem.W.Frag} {EX : L2.St → XK} {ρ : List Sl} {α β γ R : Type} {F : Fr R}
end
end Va

namespace Va
open PySem PySem.Spec PyProof.Rows L2 Bg
structure Rs (l : List Int) (S : Nat → Prop) : Prop where
  up : l.Pairwise (· < ·)
  mem : ∀ x : Int, x ∈ l ↔ ∃ i : Nat, x = (i : Int) ∧ S i
theorem rise_ext : ∀ {l m : List Int}, l.Pairwise (· < ·) → m.Pairwise (· < ·) → (∀ x, x ∈ l ↔ x ∈ m) → l = m
  | [], [], _, _, _ => rfl
  | [], b :: m, _, _, h => nomatch (h b).mpr List.mem_cons_self
  | a :: l, [], _, _, h => nomatch (h a).mp List.mem_cons_self
  | a :: l, b :: m, p, q, h => by
    obtain ⟨p1, p2⟩ := List.pairwise_cons.mp p
    obtain ⟨q1, q2⟩ := List.pairwise_cons.mp q
    have e : a = b := by
      rcases List.mem_cons.mp ((h a).mp List.mem_cons_self) with e | e
      · exact e
      · rcases List.mem_cons.mp ((h b).mpr List.mem_cons_self) with e' | e'
        · exact e'.symm
        · have := q1 a e; have := p1 b e'; omega
    subst e
    rw [rise_ext p2 q2 fun x => ?_]
    have hx := h x
    rw [List.mem_cons, List.mem_cons] at hx
    constructor
    · intro z
      have := p1 x z
      exact (hx.mp (.inr z)).resolve_left (by omega)
    · intro z
      have := q1 x z
      exact (hx.mpr (.inr z)).resolve_left (by omega)
theorem Rs.only {l m : List Int} {S T : Nat → Prop} (h : Rs l S) (g : Rs m T) (e : ∀ i, S i ↔ T i) : l = m := rise_ext h.up g.up fun x => by
  rw [h.mem, g.mem]; exact exists_congr fun i => and_congr_right fun _ => e i
theorem Rs.cg {l : List Int} {S T : Nat → Prop} (h : Rs l S) (e : ∀ i, S i ↔ T i) : Rs l T := ⟨h.up, fun x => by rw [h.mem]; exact exists_congr fun i => and_congr_right fun _ => e i⟩
theorem Rs.nat {l : List Int} {S : Nat → Prop} (h : Rs l S) (i : Nat) : (i : Int) ∈ l ↔ S i := by
  rw [h.mem]
  exact ⟨fun ⟨j, e, s⟩ => (show i = j by omega) ▸ s, fun s => ⟨i, rfl, s⟩⟩
theorem Rs.filter {l : List Int} {S T : Nat → Prop} {b : Int → Bool} (h : Rs l S) (e : ∀ i : Nat, S i → (b i = true ↔ T i)) (hT : ∀ i, T i → S i) : Rs (l.filter b) T := ⟨h.up.filter _, fun x => by
  rw [List.mem_filter, h.mem]
  constructor
  · rintro ⟨⟨i, rfl, s⟩, hb⟩
    exact ⟨i, rfl, (e i s).mp hb⟩
  · rintro ⟨i, rfl, t⟩
    exact ⟨⟨i, rfl, hT i t⟩, (e i (hT i t)).mpr t⟩⟩
theorem Rs.len {l : List Int} {S : Nat → Prop} (h : Rs l S) {n : Nat} (hS : ∀ i, S i → i < n) : l.length ≤ n := by
  have key : ∀ (l : List Int) (a : Int), l.Pairwise (· < ·) → (∀ x ∈ l, a ≤ x ∧ x < (n : Int)) → a ≤ n → (l.length : Int) ≤ n - a := by
    intro l
    induction l with
    | nil => intro a _ _ h; simp; omega
    | cons b l ih =>
      intro a p hb ha
      obtain ⟨p1, p2⟩ := List.pairwise_cons.mp p
      have h1 := hb b List.mem_cons_self
      have := ih (b + 1) p2 (fun x hx => ⟨by have := p1 x hx; omega, (hb x (List.mem_cons_of_mem _ hx)).2⟩) (by omega)
      rw [List.length_cons]
      omega
  have := key l 0 h.up (fun x hx => by obtain ⟨i, rfl, s⟩ := (h.mem x).mp hx; have := hS i s; omega) (by omega)
  omega
theorem rise_sort {l ys : List Int} (hp : ys.Perm l) (hs : ys.Pairwise (· ≤ ·)) (hn : l.Nodup) : ys.Pairwise (· < ·) := by
  have hn' : ys.Nodup := hp.nodup_iff.mpr hn
  exact (hs.and hn').imp fun ⟨a, b⟩ => by have := b; omega
def laidR (r1 : List Sr) (g1 e : Nat) (r2 : List Sr) : List Sr := r1.take (e + 1) ++ ((r2.drop 1).map fun r => (r.1, r.2.1, r.2.2 + dg (qds r1) g1 - 1)) ++ r1.drop (e + 1)
def laidG (g1 e g2 : Nat) : Nat := if g2 = 0 then g1 else e + g2
section
variable {r1 r2 : List Sr} {g1 e : Nat}
theorem laid_len (he : e < r1.length) (h2 : 1 ≤ r2.length) : (laidR r1 g1 e r2).length = r1.length + r2.length - 1 := by
  unfold laidR
  rw [List.length_append, List.length_append, List.length_map, List.length_take, List.length_drop, List.length_drop]
  omega
theorem laid_lo (he : e < r1.length) {k : Nat} (hk : k ≤ e) : (laidR r1 g1 e r2)[k]? = r1[k]? := by
  unfold laidR
  rw [List.append_assoc, List.getElem?_append_left (by rw [List.length_take]; omega), List.getElem?_take_of_lt (by omega)]
theorem laid_mid (he : e < r1.length) {k : Nat} (h0 : 0 < k) (hk : k < r2.length) : (laidR r1 g1 e r2)[e + k]? = r2[k]?.map fun r => (r.1, r.2.1, r.2.2 + dg (qds r1) g1 - 1) := by
  unfold laidR
  rw [List.append_assoc, List.getElem?_append_right (by rw [List.length_take]; omega), List.length_take, List.getElem?_append_left (by rw [List.length_map, List.length_drop]; omega), List.getElem?_map, List.getElem?_drop]
  rw [show 1 + (e + k - min (e + 1) r1.length) = k by omega]
theorem laid_hi (he : e < r1.length) {k : Nat} (hk : e < k) (h2 : 1 ≤ r2.length) : (laidR r1 g1 e r2)[k + (r2.length - 1)]? = r1[k]? := by
  unfold laidR
  rw [List.getElem?_append_right (by rw [List.length_append, List.length_take, List.length_map, List.length_drop]; omega), List.length_append, List.length_take, List.length_map, List.length_drop, List.getElem?_drop]
  rw [show e + 1 + (k + (r2.length - 1) - (min (e + 1) r1.length + (r2.length - 1))) = k by omega]
def j1 (e n2 k : Nat) : Nat := if k ≤ e then k else k + (n2 - 1)
def j2 (g1 e k : Nat) : Nat := if k = 0 then g1 else e + k
theorem laid_j1 (he : e < r1.length) (h2 : 1 ≤ r2.length) (k : Nat) : (laidR r1 g1 e r2)[j1 e r2.length k]? = r1[k]? := by
  unfold j1
  split
  · exact laid_lo he (by assumption)
  · exact laid_hi he (by omega) h2
theorem dgL1 (he : e < r1.length) (h2 : 1 ≤ r2.length) {k : Nat} (hk : k < r1.length) : dg (qds (laidR r1 g1 e r2)) (j1 e r2.length k) = dg (qds r1) k := by
  obtain ⟨r, hr⟩ := get_lt hk
  rw [qds_at hr, qds_at (by rw [laid_j1 he h2]; exact hr)]
theorem dgL2 (he : e < r1.length) {k : Nat} (h0 : 0 < k) (hk : k < r2.length) : dg (qds (laidR r1 g1 e r2)) (e + k) = dg (qds r2) k + dg (qds r1) g1 - 1 := by
  obtain ⟨r, hr⟩ := get_lt hk
  rw [qds_at hr, qds_at (r := (r.1, r.2.1, r.2.2 + dg (qds r1) g1 - 1)) (by rw [laid_mid he h0 hk, hr]; rfl)]
theorem laid_in (he : e < r1.length) (h2 : 1 ≤ r2.length) {j : Nat} (hj : j < (laidR r1 g1 e r2).length) : (∃ k, k < r1.length ∧ j = j1 e r2.length k) ∨ ∃ k, 0 < k ∧ k < r2.length ∧ j = e + k := by
  rw [laid_len he h2] at hj
  by_cases c : j ≤ e
  · exact .inl ⟨j, by omega, by unfold j1; rw [if_pos c]⟩
  · by_cases d : j < e + r2.length
    · exact .inr ⟨j - e, by omega, by omega, by omega⟩
    · exact .inl ⟨j - (r2.length - 1), by omega, by unfold j1; rw [if_neg (by omega)]; omega⟩
variable (d1 : Dv (qds r1)) (d2 : Dv (qds r2)) (ep : EndP (qds r1) g1 e) (h2 : 1 ≤ r2.length)
theorem ends_lt (ep : EndP (qds r1) g1 e) : e < r1.length ∧ g1 ≤ e := ⟨by have := ep.lt; rw [qds_len] at this; exact this, ep.le⟩
theorem ends_ge (ep : EndP (qds r1) g1 e) {j : Nat} (h1 : g1 ≤ j) (h2 : j ≤ e) : dg (qds r1) g1 ≤ dg (qds r1) j := by
  by_cases c : g1 = j
  · rw [c]; exact Int.le_refl _
  · exact Int.le_of_lt (ep.in_ j (by omega) h2)
theorem dv_two (d2 : Dv (qds r2)) {k : Nat} (h0 : 0 < k) (hk : k < r2.length) : 2 ≤ dg (qds r2) k := by
  obtain ⟨i, rfl⟩ : ∃ i, k = i + 1 := ⟨k - 1, by omega⟩
  exact (d2.two i (by rw [qds_len]; exact hk)).1
include d2 ep h2 in
theorem dgL2' {k : Nat} (hk : k < r2.length) : dg (qds (laidR r1 g1 e r2)) (j2 g1 e k) = dg (qds r2) k + dg (qds r1) g1 - 1 := by
  obtain ⟨he, hg⟩ := ends_lt ep
  unfold j2
  split
  · rename_i c
    subst c
    have := dgL1 (g1 := g1) he h2 (k := g1) (by omega)
    unfold j1 at this
    rw [if_pos hg] at this
    rw [this, d2.one]
    omega
  · exact dgL2 he (by omega) hk
include d1 d2 ep h2 in
theorem laid_dv : Dv (qds (laidR r1 g1 e r2)) := by
  obtain ⟨he, hg⟩ := ends_lt ep
  have z1 : ∀ k, k ≤ e → dg (qds (laidR r1 g1 e r2)) k = dg (qds r1) k := fun k hk => by
    have := dgL1 (g1 := g1) he h2 (k := k) (by omega)
    unfold j1 at this
    rwa [if_pos hk] at this
  have z3 : ∀ k, e < k → k < r1.length → dg (qds (laidR r1 g1 e r2)) (k + (r2.length - 1)) = dg (qds r1) k := fun k hk hl => by
    have := dgL1 (g1 := g1) he h2 (k := k) hl
    unfold j1 at this
    rwa [if_neg (by omega)] at this
  have z2 : ∀ k, 0 < k → k < r2.length → dg (qds (laidR r1 g1 e r2)) (e + k) = dg (qds r2) k + dg (qds r1) g1 - 1 := fun k h0 hk => dgL2 he h0 hk
  have t1 : ∀ i, i + 1 < r1.length → 2 ≤ dg (qds r1) (i + 1) ∧ dg (qds r1) (i + 1) ≤ dg (qds r1) i + 1 := fun i hi => d1.two i (by rw [qds_len]; exact hi)
  have t2 : ∀ i, i + 1 < r2.length → 2 ≤ dg (qds r2) (i + 1) ∧ dg (qds r2) (i + 1) ≤ dg (qds r2) i + 1 := fun i hi => d2.two i (by rw [qds_len]; exact hi)
  have hd := d1.pos g1 (by rw [qds_len]; omega)
  have hee := ends_ge ep hg (Nat.le_refl _)
  refine ⟨by rw [z1 0 (by omega)]; exact d1.one, fun j hj => ?_⟩
  rw [qds_len, laid_len he h2] at hj
  by_cases c : j + 1 ≤ e
  · rw [z1 _ c, z1 j (by omega)]
    exact t1 j (by omega)
  · by_cases d : j + 1 < e + r2.length
    · obtain ⟨k, rfl⟩ : ∃ k, j = e + k := ⟨j - e, by omega⟩
      rw [show e + k + 1 = e + (k + 1) by omega, z2 (k + 1) (by omega) (by omega)]
      have q := t2 k (by omega)
      by_cases k0 : k = 0
      · subst k0
        simp only [Nat.add_zero, Nat.zero_add] at q ⊢
        rw [z1 e (Nat.le_refl _)]
        rw [d2.one] at q
        omega
      · rw [z2 k (by omega) (by omega)]
        omega
    · obtain ⟨k, rfl⟩ : ∃ k, j = e + k + (r2.length - 1) := ⟨j - e - (r2.length - 1), by omega⟩
      have q := t1 (e + k) (by omega)
      rw [show e + k + (r2.length - 1) + 1 = (e + k + 1) + (r2.length - 1) by omega, z3 (e + k + 1) (by omega) (by omega)]
      by_cases k0 : k = 0
      · subst k0
        simp only [Nat.add_zero] at q ⊢
        have out := ep.out (by rw [qds_len]; omega)
        by_cases c2 : r2.length = 1
        · rw [c2]
          simp only [Nat.sub_self, Nat.add_zero]
          rw [z1 e (Nat.le_refl _)]
          exact q
        · rw [z2 (r2.length - 1) (by omega) (by omega)]
          have := dv_two d2 (k := r2.length - 1) (by omega) (by omega)
          omega
      · rw [z3 (e + k) (by omega) (by omega)]
        exact q
theorem j1_lt {n u k : Nat} (h : u < k) : j1 e n u < j1 e n k := by
  unfold j1
  split <;> split <;> omega
theorem j1_of_lt {n u k : Nat} (h : j1 e n u < j1 e n k) : u < k := by
  unfold j1 at h
  split at h <;> split at h <;> omega
include d2 ep h2 in
theorem laid_an1 {u k : Nat} (a : An (qds r1) u k) : An (qds (laidR r1 g1 e r2)) (j1 e r2.length u) (j1 e r2.length k) := by
  obtain ⟨he, hg⟩ := ends_lt ep
  have hk : k < r1.length := by have := a.2.1; rw [qds_len] at this; exact this
  have huk := a.1
  have hkl : j1 e r2.length k < (laidR r1 g1 e r2).length := by
    rw [laid_len he h2]
    unfold j1
    split <;> omega
  refine ⟨j1_lt huk, by rw [qds_len]; exact hkl, fun j h1 h3 => ?_⟩
  rw [dgL1 he h2 (by omega)]
  rcases laid_in he h2 (Nat.lt_of_le_of_lt h3 hkl) with ⟨m, hm, rfl⟩ | ⟨m, m0, hm, rfl⟩
  · rw [dgL1 he h2 hm]
    refine a.2.2 m (j1_of_lt h1) ?_
    rcases Nat.lt_or_ge k m with c | c
    · have := j1_lt (e := e) (n := r2.length) c; omega
    · exact c
  · have hu : u ≤ e := by
      unfold j1 at h1
      split at h1 <;> omega
    have hke : e < k := by
      unfold j1 at h3
      split at h3 <;> omega
    have ho := ep.out (by rw [qds_len]; omega)
    have hx := a.2.2 (e + 1) (by omega) (by omega)
    rw [dgL2 he m0 hm]
    have := dv_two d2 m0 hm
    rcases Nat.lt_or_ge u g1 with c | c
    · have := a.2.2 g1 c (by omega)
      omega
    · have := ends_ge ep c hu
      omega
include d2 ep h2 in
theorem laid_an2 {u k : Nat} (a : An (qds r2) u k) : An (qds (laidR r1 g1 e r2)) (j2 g1 e u) (j2 g1 e k) := by
  obtain ⟨he, hg⟩ := ends_lt ep
  have hk : k < r2.length := by have := a.2.1; rw [qds_len] at this; exact this
  have huk := a.1
  have ek : j2 g1 e k = e + k := by unfold j2; rw [if_neg (by omega)]
  have hkl : e + k < (laidR r1 g1 e r2).length := by rw [laid_len he h2]; omega
  have hul : j2 g1 e u ≤ e + u := by unfold j2; split <;> omega
  refine ⟨by rw [ek]; omega, by rw [ek, qds_len]; exact hkl, fun j h1 h3 => ?_⟩
  rw [ek] at h3
  rw [dgL2' d2 ep h2 (by omega)]
  by_cases c : j ≤ e
  · have hu : u = 0 := by
      unfold j2 at h1
      split at h1
      · assumption
      · omega
    subst hu
    have hj : g1 < j := h1
    have z := dgL1 (g1 := g1) he h2 (k := j) (by omega)
    unfold j1 at z
    rw [if_pos c] at z
    rw [z, d2.one]
    have := ep.in_ j hj c
    omega
  · obtain ⟨m, rfl⟩ : ∃ m, j = e + m := ⟨j - e, by omega⟩
    rw [dgL2 he (by omega) (by omega)]
    have hum : u < m := by
      unfold j2 at h1
      split at h1
      · omega
      · omega
    have := a.2.2 m hum (by omega)
    omega
include d2 ep h2 in
theorem laid_par1 {u k : Nat} (p : Par (qds r1) u k) : Par (qds (laidR r1 g1 e r2)) (j1 e r2.length u) (j1 e r2.length k) := by
  obtain ⟨he, hg⟩ := ends_lt ep
  obtain ⟨lt1, lt2, lt3⟩ := par_lt p
  rw [qds_len] at lt2 lt3
  refine ⟨laid_an1 d2 ep h2 p.1, ?_⟩
  rw [dgL1 he h2 lt3, dgL1 he h2 lt2]
  exact p.2
include d2 ep h2 in
theorem laid_par2 {u k : Nat} (p : Par (qds r2) u k) : Par (qds (laidR r1 g1 e r2)) (j2 g1 e u) (j2 g1 e k) := by
  obtain ⟨lt1, lt2, lt3⟩ := par_lt p
  rw [qds_len] at lt2 lt3
  refine ⟨laid_an2 d2 ep h2 p.1, ?_⟩
  rw [dgL2' d2 ep h2 lt3, dgL2' d2 ep h2 lt2]
  have := p.2
  omega
end
end Va

namespace Va
open PySem PySem.Spec PyProof.Rows L2 Bg
theorem nd_len : ∀ (n : Nat) {l : List Int}, l.Nodup → (∀ x ∈ l, 0 ≤ x ∧ x < (n : Int)) → l.length ≤ n
  | 0, l, _, h => by
    cases l with
    | nil => exact Nat.le_refl _
    | cons a l => have := h a List.mem_cons_self; omega
  | n + 1, l, nd, h => by
    have := nd_len n (l := l.erase (n : Int)) (nd.erase _) fun x hx => by
      have h1 := (nd.mem_erase_iff).mp hx
      have := h x h1.2
      have := h1.1
      omega
    rw [List.length_erase] at this
    split at this <;> omega
structure KS (l : List (Int × Bool)) (S : Nat → Prop) : Prop where
  nd : (l.map (·.1)).Nodup
  mem : ∀ x : Int, x ∈ l.map (·.1) ↔ ∃ i : Nat, x = (i : Int) ∧ S i
theorem KS.nil {S : Nat → Prop} (h : ∀ i, ¬ S i) : KS [] S := ⟨List.nodup_nil, fun x => ⟨fun z => (nomatch z), fun ⟨i, _, s⟩ => absurd s (h i)⟩⟩
theorem KS.cg {l : List (Int × Bool)} {S T : Nat → Prop} (h : KS l S) (e : ∀ i, S i ↔ T i) : KS l T := ⟨h.nd, fun x => by rw [h.mem]; exact exists_congr fun i => and_congr_right fun _ => e i⟩
theorem KS.nat {l : List (Int × Bool)} {S : Nat → Prop} (h : KS l S) (i : Nat) : (i : Int) ∈ l.map (·.1) ↔ S i := by
  rw [h.mem]
  exact ⟨fun ⟨j, e, s⟩ => (show i = j by omega) ▸ s, fun s => ⟨i, rfl, s⟩⟩
theorem KS.has {l : List (Int × Bool)} {S : Nat → Prop} (h : KS l S) (i : Nat) : (getL l (i : Int)).isSome = true ↔ S i := by rw [getL_has, h.nat]
theorem KS.put {l : List (Int × Bool)} {S : Nat → Prop} (h : KS l S) (i : Nat) {b : Bool} : KS (putL l (i : Int) b) (fun j => S j ∨ j = i) := by
  refine ⟨?_, fun x => ?_⟩
  · rw [putL_keys]
    split
    · exact h.nd
    · rename_i c
      exact List.nodup_append.mpr ⟨h.nd, List.nodup_cons.mpr ⟨(fun z => nomatch z), List.nodup_nil⟩, fun a ha b hb e => c (by rw [← List.mem_singleton.mp hb, ← e]; exact ha)⟩
  · rw [putL_keys]
    split
    · rename_i c
      rw [h.mem]
      constructor
      · rintro ⟨j, e, s⟩; exact ⟨j, e, .inl s⟩
      · rintro ⟨j, e, s | s⟩
        · exact ⟨j, e, s⟩
        · subst s; exact ⟨j, e, (h.nat j).mp c⟩
    · rw [List.mem_append, h.mem, List.mem_singleton]
      constructor
      · rintro (⟨j, e, s⟩ | e)
        · exact ⟨j, e, .inl s⟩
        · exact ⟨i, e, .inr rfl⟩
      · rintro ⟨j, e, s | s⟩
        · exact .inl ⟨j, e, s⟩
        · subst s; exact .inr e
theorem KS.len {l : List (Int × Bool)} {S : Nat → Prop} (h : KS l S) {n : Nat} (hS : ∀ i, S i → i < n) : l.length ≤ n := by
  have := nd_len n h.nd fun x hx => by obtain ⟨i, rfl, s⟩ := (h.mem x).mp hx; have := hS i s; omega
  rwa [List.length_map] at this
theorem KS.rs {l : List (Int × Bool)} {S : Nat → Prop} {ys : List Int} (h : KS l S) (hp : ys.Perm (l.map (·.1))) (hs : ys.Pairwise (· ≤ ·)) : Rs ys S := ⟨rise_sort hp hs h.nd, fun x => by rw [hp.mem_iff, h.mem]⟩
structure UW (ds : List Int) (w : Bool) (p : Nat) (A : Nat → Prop) (o : Option Int) (l : List (Int × Bool)) : Prop where
  at_ : ∀ u, o = some u → ∃ n : Nat, u = (n : Int) ∧ Bn ds w n p
  ks : KS l (fun i => A i ∨ (Bn ds w i p ∧ ∀ n : Nat, o = some (n : Int) → ¬ (i = n ∨ (w = true ∧ An ds i n))))
section
variable {ds : List Int} {w : Bool} {p : Nat} {A : Nat → Prop} {o : Option Int} {l : List (Int × Bool)}
theorem UW.start (h : KS l A) (u : UpAt ds p o) : UW ds w p A o l := by
  cases o with
  | none => exact ⟨fun u z => (nomatch z), h.cg fun i => ⟨.inl, fun z => z.elim id fun z => absurd z.1.1 (u i)⟩⟩
  | some x =>
    obtain ⟨n, rfl, pr⟩ := u
    refine ⟨fun u z => ?_, h.cg fun i => ⟨.inl, fun z => z.elim id fun z => ?_⟩⟩
    · cases z
      exact ⟨n, rfl, pr.1, .inr pr.2⟩
    · exfalso
      refine z.2 n rfl ?_
      rcases (pr.all i).mp z.1.1 with e | a
      · exact .inl e
      · refine .inr ⟨?_, a⟩
        rcases z.1.2 with c | c
        · exact c
        · have := a.dlt; have := pr.2; omega
theorem UW.fin (h : UW ds w p A none l) : KS l (fun i => A i ∨ Bn ds w i p) := h.ks.cg fun i => or_congr_right ⟨fun z => z.1, fun z => ⟨z, fun _ e => nomatch e⟩⟩
theorem UW.stop {n : Nat} (h : UW ds w p A (some (n : Int)) l) (hm : (getL l (n : Int)).isSome = true) (hA : w = true → ∀ i j, A j → An ds i j → A i) : KS l (fun i => A i ∨ Bn ds w i p) := by
  have an : A n := by
    rcases (h.ks.has n).mp hm with z | z
    · exact z
    · exact absurd (.inl rfl) (z.2 n rfl)
  refine h.ks.cg fun i => ⟨fun z => z.imp id fun z => z.1, fun z => z.elim .inl fun b => ?_⟩
  by_cases c : i = n ∨ (w = true ∧ An ds i n)
  · rcases c with c | ⟨c1, c2⟩
    · exact .inl (c ▸ an)
    · exact .inl (hA c1 i n an c2)
  · exact .inr ⟨b, fun m e => by cases (show n = m by injection e with e; omega); exact c⟩
end
end Va

namespace Va
open PySem PySem.Spec PyProof.Rows L2 Bg
section
variable {X : Cx} {CX : CXT} {k : Nat} {f C : Addr} {fd : FuncData} {ps : List Str} {sp : Sp} {E : L2.St → XK} {x m : Str} {p pos apos : Pos} {e o : Expr} {es : List Expr} {ta : TE} {t : TA} {W : WX}
end
section
variable {X : Cx} {o e : Expr} {es : List Expr} {to te : TE} {ta : TA} {f : Str} {p p' p1 p2 pos : Pos}
theorem pe_clsinit {pl : Sem Bool} {x : Str} {B : Addr} {mc : Value} (hg : Gl X x) (hm : X.mg x = some (.ref B)) (hga : PySem.W.specialIn X.K (.ref B) "__getattribute__" = some (some (.builtin "type.__getattribute__"))) (hrd : PySem.W.readsIn X.K B mc = true) (vV : PySem.W.findCls X.K (.ref B) mc "__init__" = some (.val (.builtin "ValueError.__init__"))) (ha : PA X (e :: es) ta)
    (hdb : (x == ("__debug__" : Str)) = false := by decide)
    (hc : eval (.Call (.Attribute (.Name x p1) "__init__" p2) (e :: es) [] pos) X.env = (do
      let ov ← eval (.Name x p1) X.env
      standAt p2.atName
      let (f, first) ← holding [ov] (getMethod ov "__init__" pl)
      callWith pos f first (backTo pos (starEach (e :: es) X.env)) (backToKw pos (keywordEach [] X.env))) := by rfl)
    (he : starEach (e :: es) X.env = (false, eval e X.env) :: starEach es X.env := by rfl) (hpl : (backTo pos (starEach es X.env)).any (·.1) = false := by rfl) :
    PE X (.Call (.Attribute (.Name x p1) "__init__" p2) (e :: es) [] pos) (tVeI X.K ta) := by
  refine ⟨fun pins s σ H Q I h => ?_⟩
  refine PySem.W.methodCall_KW (ld_glob I hg hm ?_ hdb) hc
  refine PySem.W.method_cls I.kIn hga (PySem.W.cls_value I.kIn hrd vV (by decide +kernel) ?_)
  show wpAny _ _ (callWith pos (Value.builtin "ValueError.__init__") [] (backTo pos (starEach (e :: es) X.env)) []) _ _ _
  refine PyProof.Rows.callWith_method1 (thn (ha.run pos pins _ σ H _ (I.tok _) h) fun us s1 ⟨vs, H1, I1, r1, a, C, ws, ev, hl, T, ea, q⟩ => ?_) he hpl
  subst ev
  cases r1 with
  | @cons _ u0 _ ur ra rw' =>
    obtain rfl : u0 = Value.ref a := ra
    have hlen : ur.length ≤ sizeLine := by
      rw [← Paired.length rw', sizeLine_eq]
      omega
    exact oinit_ok T I1 ea hlen fun s' J => ⟨.non, H1, J, rfl, q⟩
end
end Va

namespace Va
open PySem PySem.Spec PyProof.Rows L2 Bg
abbrev SuT := Addr → Value → Option Addr → TS
section
variable {X : Cx} {x n : Str} {c : Value} {i : Nat} {body suite : List Stmt} {b₀ : Stmt} {np pos pos' : Pos} {tb : WX → TS} {ts : SuT} {Wout : WX}
end
section
variable {X : Cx} {a : Addr} {oe : Obj} {cls : Value} {d : Option Addr} {pn : List (Addr × Obj)} {e : Expr} {te : TE} {pos : Pos} {n : Str}
end
end Va

namespace Va
open PySem PySem.Spec PyProof.Rows L2 Bg
def strC (c : Str) : Bool := decide (c = "NoDocument") || decide (c = "NoQuestion") || decide (c = "NoText")
def spX (K : PySem.W.Frag) (c : Str) : Sp := fun vs H Q _ => ∃ a v, vs = [.ref a, v] ∧ (strC c = true → ∃ i : Int, v = .int i ∧ 0 ≤ i ∧ i ≤ 1000000) ∧ H a = some (exo a (He.ga K c) none) ∧ ∀ dx, H dx = none → dx ≠ a → Q .non (upd (upd H dx (exd dx [(exField c, v)])) a (exo a (He.ga K c) (some dx)))
def raiseM {R : Type} (x : Exn) : M R := fun _ X => X x
theorem raise_ap {R : Type} {x : Exn} {P : R → Prop} {X : Exn → Prop} : (raiseM x : M R) P X = X x := rfl
def raiseN {R : Type} (c : Str) (d : D) : M R := fun _ X => (strC c = true → ∃ i : Int, d = .int i ∧ 0 ≤ i ∧ i ≤ 1000000) ∧ X ⟨c, d⟩
structure Xcr (P : Program) (w : World) (K : PySem.W.Frag) (mg : Str → Option Value) (base : Heap) (k : Nat) (c : Str) : Prop where
  ex : ∃ (f : Addr) (fd : FuncData) (ps : List Str), FnOk P w K mg base CX0 k f fd ps (spX K c) ∧ PySem.W.findIn K (.ref (He.ga K c)) "__init__" = some (some (.ref f)) ∧ PySem.W.typeIn K (.ref f) = some (.type "function") ∧ XcK K c ∧ mg c = some (.ref (He.ga K c)) ∧ Binds K fd ps []
section
variable {K : PySem.W.Frag} {EX : L2.St → XK} {ρ : List Sl} {α β γ R : Type} {F : Fr R} {W : WX}
def xfM (CL : List Str) (f : Str) (x : Exn) : M D := fun P _ => x.cls ∈ CL ∧ exField x.cls = f ∧ P x.fld
def isXM (CL : List Str) (c' : Str) (x : Exn) : M Bool := fun P _ => x.cls ∈ CL ∧ P (isX c' x.cls)
def tryM {R : Type} (p : M R) (h : Exn → M R) : M R := fun P X => p P fun x => h x P X
theorem try_ap {R : Type} {p : M R} {h : Exn → M R} {P : R → Prop} {X : Exn → Prop} : tryM p h P X = p P fun x => h x P X := rfl
def clM {R : Type} (CL : List Str) (c' : Str) (p q : Exn → M R) : Exn → M R := fun x P X => x.cls ∈ CL ∧ cond (isX c' x.cls) (p x P X) (q x P X)
end
end Va

namespace Va
open PySem PySem.Spec PyProof.Rows L2 Bg
end Va

namespace Va
open PySem PySem.Spec PyProof.Rows L2 Bg
mutual
inductive SameV (K : PySem.W.Frag) (H : Hp) : Nat → V → V → Prop
  | non {n : Nat} : SameV K H n .non .non
  | bl {n : Nat} (b : Bool) : SameV K H n (.bl b) (.bl b)
  | int {n : Nat} (i : Int) : SameV K H n (.int i) (.int i)
  | str {n : Nat} (z : Str) : SameV K H n (.str z) (.str z)
  | lst {n : Nat} {a b : Addr} {xs ys : List V} : SqL K H a xs → SqL K H b ys → SameL K H n xs ys → SameV K H (n + 1) (.ref a) (.ref b)
  | tup {n : Nat} {a b : Addr} {xs ys : List V} : SqT K H a xs → SqT K H b ys → SameL K H n xs ys → SameV K H (n + 1) (.ref a) (.ref b)
  | dct {n : Nat} {a b : Addr} : Rd H a (.dK []) → Rd H b (.dK []) → SameV K H (n + 1) (.ref a) (.ref b)
inductive SameL (K : PySem.W.Frag) (H : Hp) : Nat → List V → List V → Prop
  | nil {n : Nat} : SameL K H n [] []
  | cons {n : Nat} {x y : V} {xs ys : List V} : SameV K H n x y → SameL K H n xs ys → SameL K H n (x :: xs) (y :: ys)
end
theorem SameL.length {K : PySem.W.Frag} {H : Hp} {n : Nat} : ∀ {xs ys : List V}, SameL K H n xs ys → xs.length = ys.length
  | _, _, .nil => rfl
  | _, _, .cons _ t => congrArg (· + 1) t.length
section
variable {X : Cx} {pins : List (Addr × Obj)} {σ : L2.St} {H : Hp} {s : Shared}
end
section
variable {X : Cx}
end
mutual
def emD : Nat → D → Bool
  | _, .non => true
  | _, .bl _ => true
  | _, .int _ => true
  | _, .str _ => true
  | n, .lst ds => n != 0 && emDs (n - 1) ds
  | n, .tup ds => n != 0 && emDs (n - 1) ds
  | n, .dct es => n != 0 && es.isEmpty
  | _, .dcp _ => false
  | _, .obj _ _ => false
  | _, .glo _ => false
  | _, .exc _ _ => false
def emDs : Nat → List D → Bool
  | _, [] => true
  | n, d :: ds => emD n d && emDs n ds
end
section
variable {K : PySem.W.Frag} {O : AP} {H : Hp}
mutual
theorem Rep.same : ∀ {n : Nat} {d : D} {x y : V}, emD n d = true → Rep K O H x d → Rep K O H y d → SameV K H n x y
  | _, _, _, _, _, .non, .non => .non
  | _, _, _, _, _, .bl b, .bl _ => .bl b
  | _, _, _, _, _, .int i, .int _ => .int i
  | _, _, _, _, _, .str z, .str _ => .str z
  | 0, .lst _, _, _, h, _, _ => Bool.noConfusion (show false = true from h)
  | 0, .tup _, _, _, h, _, _ => Bool.noConfusion (show false = true from h)
  | 0, .dct _, _, _, h, _, _ => Bool.noConfusion (show false = true from h)
  | n + 1, .lst _, _, _, h, .lst _ h1 r1, .lst _ h2 r2 => .lst (.inl (.inl h1)) (.inl (.inl h2)) (RepL.same (show emDs n _ = true from h) r1 r2)
  | n + 1, .tup _, _, _, h, .tup _ h1 r1, .tup _ h2 r2 => .tup (.inl (.inl h1)) (.inl (.inl h2)) (RepL.same (show emDs n _ = true from h) r1 r2)
  | n + 1, .dct [], _, _, h, .dct _ h1 _ k1 _, .dct _ h2 _ k2 _ => by
    rw [List.map_nil, List.map_eq_nil_iff] at k1 k2
    subst k1 k2
    exact .dct h1 h2
  | n + 1, .dct (_ :: _), _, _, h, _, _ => Bool.noConfusion (show false = true from h)
  | _, .dcp _, _, _, h, _, _ => Bool.noConfusion (show false = true from h)
  | _, .obj _ _, _, _, h, _, _ => Bool.noConfusion (show false = true from h)
  | _, .glo _, _, _, h, _, _ => Bool.noConfusion (show false = true from h)
  | _, .exc _ _, _, _, h, _, _ => Bool.noConfusion (show false = true from h)
theorem RepL.same : ∀ {n : Nat} {ds : List D} {xs ys : List V}, emDs n ds = true → RepL K O H xs ds → RepL K O H ys ds → SameL K H n xs ys
  | _, _, _, _, _, .nil, .nil => .nil
  | _, _ :: _, _, _, h, .cons r1 l1, .cons r2 l2 => by
    rw [emDs, Bool.and_eq_true] at h
    exact .cons (Rep.same h.1 r1 r2) (RepL.same h.2 l1 l2)
end
end
class SeenX {α : Type} (K : PySem.W.Frag) (res : Res α) (en : outParam (α → D)) : Prop where
  dp : ∀ {O : AP} {H0 H : Hp} {v : V} {a : α}, res O H0 H v a → plain (en a) = true → Dp K H v (toP (en a))
  sl : ∀ {O : AP} {H0 H : Hp} {v : V} {a : α} {ds : List D}, res O H0 H v a → en a = .lst ds → ∃ p xs, v = .ref p ∧ SqL K H p xs ∧ RepL K O H xs ds
  st : ∀ {O : AP} {H0 H : Hp} {v : V} {a : α} {ds : List D}, res O H0 H v a → en a = .tup ds → ∃ p xs, v = .ref p ∧ SqT K H p xs ∧ RepL K O H xs ds
instance {K : PySem.W.Frag} {α : Type} {en : α → D} : SeenX K (resE K en) en where
  dp := fun r p => Rep.dp r p
  sl := fun {O H0 H v a ds} r e => by
    have r' : Rep K O H v (.lst ds) := by rw [← e]; exact r
    cases r' with | lst _ h l => exact ⟨_, _, rfl, .inl (.inl h), l⟩
  st := fun {O H0 H v a ds} r e => by
    have r' : Rep K O H v (.tup ds) := by rw [← e]; exact r
    cases r' with | tup _ h l => exact ⟨_, _, rfl, .inl (.inl h), l⟩
section
variable {K : PySem.W.Frag} {EX : L2.St → XK} {ρ : List Sl} {α β : Type}
end
instance {K : PySem.W.Frag} {α : Type} {en : α → D} : SeenX K (resQ K en) (fun l => .lst (l.map en)) where
  dp := fun r p => Seen.dp (K := K) (res := resQ K en) r p
  sl := fun {O H0 H v a ds} ⟨p, vs, e1, h, r⟩ e => by cases e; exact ⟨p, vs, e1, h, r⟩
  st := fun _ e => nomatch e
end Va

namespace Va
open PySem PySem.Spec PyProof.Rows L2 Bg
section
variable {K : PySem.W.Frag} {EX : L2.St → XK} {ρ : List Sl} {α β R : Type} {F : Fr R}
end
structure QuSh (rows : List Sr) (g : Nat) : Prop where
  one : 1 ≤ rows.length
  big : rows.length ≤ 1000
  way : ∀ r ∈ rows, r.1 = "/" ∨ r.1 = "//"
  lab : ∀ r ∈ rows, labelB r.2.1 = true
  dv : Dv (qds rows)
  goal : g < rows.length
theorem QuOk.sh {rows : List Sr} {g : Nat} (h : QuOk rows g) : QuSh rows g := ⟨h.one, by have := h.most; omega, h.way, h.lab, h.dv, h.goal⟩
theorem QuSh.ok {rows : List Sr} {g : Nat} (h : QuSh rows g) (h1 : rows.length ≤ 100) (h2 : ∀ r ∈ rows, r.2.2 ≤ 30) : QuOk rows g := ⟨h.one, h1, h.way, h.lab, h.dv, h2, h.goal⟩
end Va

namespace Va
open PySem PySem.Spec PyProof.Rows L2 Bg
theorem laid_mem {r1 r2 : List Sr} {g1 e : Nat} {r : Sr} (hr : r ∈ laidR r1 g1 e r2) : r ∈ r1 ∨ ∃ r' ∈ r2, r = (r'.1, r'.2.1, r'.2.2 + dg (qds r1) g1 - 1) := by
  unfold laidR at hr
  rw [List.mem_append, List.mem_append] at hr
  rcases hr with (hr | hr) | hr
  · exact .inl (List.mem_of_mem_take hr)
  · obtain ⟨r', q1, q2⟩ := List.mem_map.mp hr
    exact .inr ⟨r', List.mem_of_mem_drop q1, q2.symm⟩
  · exact .inl (List.mem_of_mem_drop hr)
theorem laid_sh {r1 r2 : List Sr} {g1 g2 e : Nat} (ok1 : QuOk r1 g1) (ok2 : QuOk r2 g2) (ep : EndP (qds r1) g1 e) : QuSh (laidR r1 g1 e r2) (laidG g1 e g2) := by
  obtain ⟨he, hg⟩ := ends_lt ep
  have h1 := ok1.most
  have h2 := ok2.one
  have h3 := ok2.most
  have hgo := ok2.goal
  refine ⟨by rw [laid_len he h2]; omega, by rw [laid_len he h2]; omega, fun r hr => ?_, fun r hr => ?_, laid_dv ok1.dv ok2.dv ep h2, ?_⟩
  · rcases laid_mem hr with h | ⟨r', h, rfl⟩
    · exact ok1.way r h
    · exact ok2.way r' h
  · rcases laid_mem hr with h | ⟨r', h, rfl⟩
    · exact ok1.lab r h
    · exact ok2.lab r' h
  · rw [laid_len he h2]; unfold laidG; split <;> omega
abbrev OnR (ds : List Int) (g i : Nat) : Prop := i = g ∨ An ds i g
def restR (r : List Sr) (s e : Nat) : List Sr := match r[s]? with
  | none => []
  | some b => ((("/" : Str), b.2.1, (1 : Int)) : Sr) :: ((r.take (e + 1)).drop (s + 1)).map fun x => (x.1, x.2.1, x.2.2 - b.2.2 + 1)
section
variable {r : List Sr} {s e g : Nat} {b : Sr}
theorem rest_eq (hb : r[s]? = some b) : restR r s e = ((("/" : Str), b.2.1, (1 : Int)) : Sr) :: ((r.take (e + 1)).drop (s + 1)).map fun x => (x.1, x.2.1, x.2.2 - b.2.2 + 1) := by unfold restR; rw [hb]
theorem rest_len (hb : r[s]? = some b) (he : e < r.length) (hs : s ≤ e) : (restR r s e).length = e - s + 1 := by
  rw [rest_eq hb, List.length_cons, List.length_map, List.length_drop, List.length_take]
  omega
theorem rest_at (hb : r[s]? = some b) {k : Nat} (h0 : 0 < k) (hk : s + k ≤ e) : (restR r s e)[k]? = r[s + k]?.map fun x => (x.1, x.2.1, x.2.2 - b.2.2 + 1) := by
  obtain ⟨j, rfl⟩ : ∃ j, k = j + 1 := ⟨k - 1, by omega⟩
  rw [rest_eq hb, List.getElem?_cons_succ, List.getElem?_map, List.getElem?_drop, List.getElem?_take, if_pos (by omega), show s + 1 + j = s + (j + 1) by omega]
theorem rest_zero (hb : r[s]? = some b) : (restR r s e)[0]? = some ((("/" : Str), b.2.1, (1 : Int)) : Sr) := by rw [rest_eq hb]; rfl
theorem rest_ok (ok : QuOk r g) (ep : EndP (qds r) s e) (on : OnR (qds r) g s) (hb : r[s]? = some b) : QuOk (restR r s e) (g - s) := by
  obtain ⟨he, hs⟩ := ends_lt ep
  have hl := rest_len hb he hs
  have hm := ok.most
  have hge : g ≤ e ∧ s ≤ g := by
    rcases on with rfl | a
    · exact ⟨hs, Nat.le_refl _⟩
    · have := (ep.an g).mp a; omega
  have db := qds_at hb
  have dpos : ∀ k, 0 < k → s + k ≤ e → ∃ x, r[s + k]? = some x ∧ (restR r s e)[k]? = some (x.1, x.2.1, x.2.2 - b.2.2 + 1) ∧ b.2.2 < x.2.2 := fun k h0 hk => by
    obtain ⟨x, hx⟩ := get_lt (l := r) (n := s + k) (by omega)
    refine ⟨x, hx, by rw [rest_at hb h0 hk, hx]; rfl, ?_⟩
    have := ((ep.an (s + k)).mpr ⟨by omega, by omega⟩).dlt
    rw [db, qds_at hx] at this
    exact this
  have mem : ∀ x ∈ restR r s e, x = ((("/" : Str), b.2.1, (1 : Int)) : Sr) ∨ ∃ y ∈ r, x = (y.1, y.2.1, y.2.2 - b.2.2 + 1) := fun x hx => by
    obtain ⟨k, hk⟩ := List.mem_iff_getElem?.mp hx
    by_cases h0 : k = 0
    · subst h0; rw [rest_zero hb] at hk; cases hk; exact .inl rfl
    · have hkl := (List.getElem?_eq_some_iff.mp hk).1
      obtain ⟨y, q1, q2, _⟩ := dpos k (by omega) (by omega)
      rw [q2] at hk; cases hk
      exact .inr ⟨y, List.mem_of_getElem? q1, rfl⟩
  have b1 := ok.dv.pos s (by rw [qds_len]; omega)
  rw [db] at b1
  have dg0 : dg (qds (restR r s e)) 0 = 1 := qds_at (rest_zero hb)
  refine ⟨by omega, by omega, fun x hx => ?_, fun x hx => ?_, ⟨dg0, fun i hi => ?_⟩, fun x hx => ?_, by omega⟩
  · rcases mem x hx with rfl | ⟨y, hy, rfl⟩
    · exact .inl rfl
    · exact ok.way y hy
  · rcases mem x hx with rfl | ⟨y, hy, rfl⟩
    · exact ok.lab b (List.mem_of_getElem? hb)
    · exact ok.lab y hy
  · rw [qds_len, hl] at hi
    obtain ⟨x, hx, hx2, hlt⟩ := dpos (i + 1) (by omega) (by omega)
    have d1 := qds_at hx2
    have d1' := qds_at hx
    have two := (ok.dv.two (s + i) (by rw [qds_len]; omega)).2
    have e1 : s + i + 1 = s + (i + 1) := by omega
    rw [e1, d1'] at two
    rw [d1]
    refine ⟨by show 2 ≤ x.2.2 - b.2.2 + 1; omega, ?_⟩
    show x.2.2 - b.2.2 + 1 ≤ _
    by_cases h0 : i = 0
    · subst h0
      rw [dg0]
      rw [Nat.add_zero, db] at two
      omega
    · obtain ⟨y, hy, hy2, _⟩ := dpos i (by omega) (by omega)
      rw [qds_at hy2]
      rw [qds_at hy] at two
      show _ ≤ y.2.2 - b.2.2 + 1 + 1
      omega
  · rcases mem x hx with rfl | ⟨y, hy, rfl⟩
    · show (1 : Int) ≤ 30; decide
    · have := ok.deep y hy
      show y.2.2 - b.2.2 + 1 ≤ 30
      omega
end
structure RdW (ds : List Int) (g : Nat) (l : List Int) : Prop where
  hd : ∃ h : Nat, l[0]? = some (h : Int) ∧ OnR ds g h ∧ Rs l (fun i => OnR ds g i ∧ h ≤ i)
theorem RdW.start {ds : List Int} {g : Nat} : RdW ds g [(g : Int)] := by
  refine ⟨g, rfl, .inl rfl, ⟨List.pairwise_singleton .., fun x => ?_⟩⟩
  rw [List.mem_singleton]
  constructor
  · rintro rfl; exact ⟨g, rfl, .inl rfl, Nat.le_refl _⟩
  · rintro ⟨i, rfl, rfl | a, h⟩
    · rfl
    · exact absurd a.1 (by omega)
theorem RdW.fin {ds : List Int} {g h : Nat} {l : List Int} (w : RdW ds g l) (h0 : l[0]? = some (h : Int)) (up : UpAt ds h none) : Rs l (OnR ds g) := by
  obtain ⟨h', h1, on, rs⟩ := w.hd
  have e : h' = h := by rw [h0] at h1; injection h1 with h1; omega
  subst e
  refine rs.cg fun i => ⟨fun z => z.1, fun z => ⟨z, ?_⟩⟩
  rcases Nat.lt_or_ge i h' with c | c
  · exfalso
    rcases on with rfl | a
    · rcases z with rfl | z
      · omega
      · exact up i z
    · rcases z with rfl | z
      · have := a.1; omega
      · exact up i (z.mid a c)
  · exact c
end Va

namespace Va
open PySem PySem.Spec PyProof.Rows L2 Bg
section
variable {K : PySem.W.Frag} {EX : L2.St → XK} {ρ : List Sl} {α β : Type}
end
end Va
namespace Va
open PySem PySem.Spec PyProof.Rows L2 Bg
section
variable {K : PySem.W.Frag} {EX : L2.St → XK} {ρ : List Sl} {α β : Type}
end
instance {α : Type} {en : α → D} : NSrc (Sum.inr : Str → Key) (eP en) := ⟨fun _ r i z => by cases r; cases z⟩
end Va
namespace Va
open PySem PySem.Spec PyProof.Rows L2 Bg
section
variable {K : PySem.W.Frag} {EX : L2.St → XK} {ρ : List Sl} {α β γ : Type}
end
end Va

namespace Va
open PySem PySem.Spec PyProof.Rows L2 Bg
section
variable {prog : Program} {w : World} {A : Around} {E : Value → Shared → Prop} {s : Shared}
end
variable {K : PySem.W.Frag} {EX : L2.St → XK} {ρ : List Sl} {α β κ : Type} [DecidableEq κ]
end Va

namespace Va
open PySem PySem.Spec PyProof.Rows L2 Bg
variable {K : PySem.W.Frag} {EX : L2.St → XK} {ρ : List Sl} {α β : Type}
section
variable {ds : List Int} {m : Nat} {like : Nat → Nat → Prop} {goes : Nat → Nat → Nat → Prop}
def EmL (ds : List Int) (m : Nat) (like : Nat → Nat → Prop) (goes : Nat → Nat → Nat → Prop) (k0 : Nat) (T : List (List Int)) : Prop := T.length = ds.length ∧ ∀ k, k < ds.length → ∃ row, T[k]? = some row ∧ (k < k0 → row = []) ∧ (k0 ≤ k → row = emU ds m like goes k m)
def EmJ (ds : List Int) (m : Nat) (like : Nat → Nat → Prop) (goes : Nat → Nat → Nat → Prop) (st c : Nat) (T : List (List Int)) : Prop := T.length = ds.length ∧ ∀ k, k < ds.length → ∃ row, T[k]? = some row ∧ (k < st → row = []) ∧ (k = st → row = emU ds m like goes st c) ∧ (st < k → row = emU ds m like goes k m)
theorem EmL.start {st : Nat} {T : List (List Int)} (h : EmL ds m like goes (st + 1) T) : EmJ ds m like goes st 0 T :=
  ⟨h.1, fun k hk => let ⟨row, a, b, c⟩ := h.2 k hk; ⟨row, a, fun z => b (by omega), fun z => by rw [b (by omega)]; rfl, fun z => c (by omega)⟩⟩
theorem EmJ.fin {st : Nat} {T : List (List Int)} (h : EmJ ds m like goes st m T) : EmL ds m like goes st T :=
  ⟨h.1, fun k hk => let ⟨row, a, b, c, d⟩ := h.2 k hk; ⟨row, a, b, fun z => by
    by_cases e : k = st
    · subst e; exact c rfl
    · exact d (by omega)⟩⟩
theorem EmJ.no {st c : Nat} {T : List (List Int)} (h : EmJ ds m like goes st c T) (hs : ¬ Emb ds m like goes st c) : EmJ ds m like goes st (c + 1) T :=
  ⟨h.1, fun k hk => let ⟨row, a, b, q, d⟩ := h.2 k hk; ⟨row, a, b, fun z => by rw [emU_no hs]; exact q z, d⟩⟩
end
def MtK (dr : List (Str × Int)) (qr : List Sr) (f : Nat → Nat) (k : Nat) : Prop := lkD dr qr k (f k) ∧ ((∀ u, ¬ An (qds qr) u k) → tpD qr k (f k)) ∧ ∀ u, Par (qds qr) u k → gsD dr qr k (f k) (f u)
def IsMt (dr : List (Str × Int)) (qr : List Sr) (g : Nat) (l : List D) : Prop := l.length = qr.length ∧ ∃ f : Nat → Nat, (∀ k d, l[k]? = some d → d = D.int (f k)) ∧ MtD dr qr g none f
def Pts (n : Nat) (l : List D) (f : Nat → Nat) : Prop := ∀ k d, l[k]? = some d → d = D.int (f k) ∧ f k < n
theorem Pts.of {n : Nat} {l : List D} (h : ∀ d ∈ l, withinD d 0 ((n : Int) - 1) = true) : ∃ f, Pts n l f := by
  refine ⟨fun k => match l[k]? with | some (.int i) => i.toNat | _ => 0, fun k d hd => ?_⟩
  have w := h d (List.mem_of_getElem? hd)
  cases d with
  | int i =>
    have w : 0 ≤ i ∧ i ≤ (n : Int) - 1 := by simpa [withinD] using w
    dsimp only
    rw [hd]
    show D.int i = D.int ((i.toNat : Nat) : Int) ∧ i.toNat < n
    exact ⟨by rw [show ((i.toNat : Nat) : Int) = i by omega], by omega⟩
  | _ => cases w
section
variable {dr : List (Str × Int)} {qr : List Sr} {g : Nat} {l : List D} {f : Nat → Nat}
theorem IsMt.mk' (hl : l.length = qr.length) (hp : Pts dr.length l f) (h : ∀ k, k < qr.length → MtK dr qr f k) : IsMt dr qr g l := by
  have hq := qds_len qr
  exact ⟨hl, f, fun k d e => (hp k d e).1, fun k hk => (hp k _ (List.getElem?_eq_getElem (by omega : k < l.length))).2, fun k hk => ⟨(h k (by omega)).1, fun _ z => nomatch z⟩, fun k hk => (h k (by omega)).2.1, fun u k p => (h k (by have := (par_lt p).2.1; omega)).2.2 u p⟩
theorem IsMt.at_ (h : IsMt dr qr g l) (hp : Pts dr.length l f) {k : Nat} (hk : k < qr.length) : MtK dr qr f k := by
  obtain ⟨hl, f', he, m⟩ := h
  have hq := qds_len qr
  have same : ∀ j, j < qr.length → f j = f' j := fun j hj => by
    have e := List.getElem?_eq_getElem (by omega : j < l.length)
    have e1 := (hp j _ e).1
    have e2 := he j _ e
    rw [e1] at e2
    injection e2 with e2
    omega
  refine ⟨?_, fun r => ?_, fun u p => ?_⟩
  · rw [same k hk]; exact (m.like k (by omega)).1
  · rw [same k hk]; exact m.top k (by omega) r
  · rw [same k hk, same u (by have := (par_lt p).1; omega)]; exact m.goes u k p
theorem IsMt.in_ (h : IsMt dr qr g l) : ∀ d ∈ l, withinD d 0 ((dr.length : Int) - 1) = true := fun d hd => by
  obtain ⟨hl, f', he, m⟩ := h
  obtain ⟨k, hk⟩ := List.mem_iff_getElem?.mp hd
  have := (List.getElem?_eq_some_iff.mp hk).1
  have lt := m.lt k (by rw [qds_len]; omega)
  rw [he k d hk]
  simp [withinD]
  omega
end
section
variable {K : PySem.W.Frag} {EX : L2.St → XK} {ρ : List Sl} {α : Type}
end
section
variable {dr : List (Str × Int)} {qr : List Sr} {g : Nat} {p0 : Int}
structure ChW (dr : List (Str × Int)) (qr : List Sr) (g : Nat) (p0 : Int) (k : Nat) (L : List (Int × Int)) : Prop where
  all : ∀ (s v : Int), getL L s = some v → ∃ sn vn : Nat, s = sn ∧ v = vn ∧ k ≤ sn ∧ FuD dr qr g none sn vn ∧ (sn = k ∨ ∃ u y : Nat, Par (qds qr) u sn ∧ getL L (u : Int) = some (y : Int) ∧ gsD dr qr sn vn y)
  here : k < qr.length
  goal : getL L (g : Int) = some p0
  len : L.length + k ≤ g + 1
structure ChF (dr : List (Str × Int)) (qr : List Sr) (g : Nat) (p0 : Int) (i : Nat) (L : List (Int × Int)) : Prop where
  all : ∀ (s v : Int), getL L s = some v → ∃ sn vn : Nat, s = sn ∧ v = vn ∧ EmD dr qr g none sn vn ∧ ((∀ u, ¬ An (qds qr) u sn) → tpD qr sn vn) ∧ ∀ u, Par (qds qr) u sn → ∃ y : Nat, getL L (u : Int) = some (y : Int) ∧ gsD dr qr sn vn y
  in_ : ∀ j : Nat, j < i → ∃ v, getL L (j : Int) = some v
  zero : ∃ v, getL L 0 = some v
  goal : getL L (g : Int) = some p0
  len : L.length ≤ g + 1 + i
theorem ChW.start {p : Nat} (hg : g < qr.length) (h : FuD dr qr g none g p) : ChW dr qr g p g [((g : Int), (p : Int))] := by
  refine ⟨fun s v e => ?_, hg, getL_pos rfl, by simp; omega⟩
  by_cases c : (g : Int) = s
  · rw [getL_pos c] at e
    cases e
    exact ⟨g, p, c.symm, rfl, Nat.le_refl _, h, .inl rfl⟩
  · rw [getL_neg c] at e; cases e
theorem ChW.put {k u p y : Nat} {L : List (Int × Int)} (h : ChW dr qr g p0 k L) (hp : getL L (k : Int) = some (p : Int)) (par : Par (qds qr) u k) (fu : FuD dr qr g none u y) (gs : gsD dr qr k p y) : ChW dr qr g p0 u (putL L (u : Int) (y : Int)) := by
  have lt := par_lt par
  have hql := qds_len qr
  refine ⟨fun s v e => ?_, by omega, ?_, ?_⟩
  · rw [getL_put] at e
    by_cases c : s = (u : Int)
    · rw [if_pos c] at e
      cases e
      exact ⟨u, y, c, rfl, Nat.le_refl _, fu, .inl rfl⟩
    · rw [if_neg c] at e
      obtain ⟨sn, vn, rfl, rfl, hk, f, q⟩ := h.all s v e
      refine ⟨sn, vn, rfl, rfl, by omega, f, .inr ?_⟩
      rcases q with rfl | ⟨u', y', a, b, c'⟩
      · rw [hp] at e
        have e : (p : Int) = vn := by injection e
        have e : p = vn := by omega
        subst e
        exact ⟨u, y, par, by rw [getL_put, if_pos rfl], gs⟩
      · have hu' : k ≤ u' := by
          obtain ⟨sn', _, e1, _, e3, _⟩ := h.all _ _ b
          omega
        exact ⟨u', y', a, by rw [getL_put, if_neg (by omega)]; exact b, c'⟩
  · obtain ⟨sn', _, e1, _, e3, _⟩ := h.all _ _ h.goal
    rw [getL_put, if_neg (by omega)]
    exact h.goal
  · have := putL_len (l := L) (k := (u : Int)) (a := (y : Int))
    have := h.len
    omega
theorem ChW.fin {k : Nat} {L : List (Int × Int)} (h : ChW dr qr g p0 k L) (hd : Dv (qds qr)) {p : Int} (hp : getL L (k : Int) = some p) (rt : ∀ u, ¬ An (qds qr) u k) : ChF dr qr g p0 0 L := by
  have hql := qds_len qr
  have hk := h.here
  have k0 : k = 0 := by
    by_cases c : 0 < k
    · exact absurd (dv_root hd (by omega) c) (rt 0)
    · omega
  subst k0
  refine ⟨fun s v e => ?_, fun j z => absurd z (Nat.not_lt_zero _), ⟨p, hp⟩, h.goal, by have := h.len; omega⟩
  obtain ⟨sn, vn, rfl, rfl, _, f, q⟩ := h.all s v e
  have hsn : sn < (qds qr).length := by
    obtain ⟨f', m, e⟩ := f
    rcases q with rfl | ⟨u, _, par, _⟩
    · omega
    · exact (par_lt par).2.1
  obtain ⟨em, tp, _⟩ := (ful_iff hd hsn).mp f
  refine ⟨sn, vn, rfl, rfl, em, tp, fun u par => ?_⟩
  rcases q with rfl | ⟨u', y', par', b, c'⟩
  · exact absurd par.1 (rt u)
  · obtain rfl := par.only par'
    exact ⟨y', b, c'⟩
theorem ChF.has {i : Nat} {L : List (Int × Int)} (h : ChF dr qr g p0 i L) {v : Int} (hv : getL L (i : Int) = some v) : ChF dr qr g p0 (i + 1) L :=
  ⟨h.all, fun j hj => by
    by_cases c : j = i
    · subst c; exact ⟨v, hv⟩
    · exact h.in_ j (by omega), h.zero, h.goal, by have := h.len; omega⟩
theorem ChF.put {i u p y : Nat} {L : List (Int × Int)} (h : ChF dr qr g p0 i L) (hn : getL L (i : Int) = none) (par : Par (qds qr) u i) (hu : getL L (u : Int) = some (y : Int)) (em : EmD dr qr g none i p) (gs : gsD dr qr i p y) : ChF dr qr g p0 (i + 1) (putL L (i : Int) (p : Int)) := by
  have keep : ∀ (s v : Int), getL L s = some v → getL (putL L (i : Int) (p : Int)) s = some v := fun s v e => by
    rw [getL_put, if_neg fun c => by rw [c, hn] at e; cases e]
    exact e
  refine ⟨fun s v e => ?_, fun j hj => ?_, ?_, keep _ _ h.goal, ?_⟩
  · rw [getL_put] at e
    by_cases c : s = (i : Int)
    · rw [if_pos c] at e
      cases e
      refine ⟨i, p, c, rfl, em, fun rt => absurd par.1 (rt u), fun u' par' => ?_⟩
      obtain rfl := par.only par'
      exact ⟨y, keep _ _ hu, gs⟩
    · rw [if_neg c] at e
      obtain ⟨sn, vn, rfl, rfl, e1, e2, e3⟩ := h.all s v e
      exact ⟨sn, vn, rfl, rfl, e1, e2, fun u' par' => let ⟨y', a, b⟩ := e3 u' par'; ⟨y', keep _ _ a, b⟩⟩
  · by_cases c : j = i
    · subst c; exact ⟨p, by rw [getL_put, if_pos rfl]⟩
    · obtain ⟨v, hv⟩ := h.in_ j (by omega)
      exact ⟨v, keep _ _ hv⟩
  · obtain ⟨v, hv⟩ := h.zero
    exact ⟨v, keep _ _ hv⟩
  · have := putL_len (l := L) (k := (i : Int)) (a := (p : Int))
    have := h.len
    omega
theorem ChF.up {i : Nat} {L : List (Int × Int)} (h : ChF dr qr g p0 i L) (hd : Dv (qds qr)) (hi : i < qr.length) (hn : getL L (i : Int) = none) : ∃ u y : Nat, Par (qds qr) u i ∧ getL L (u : Int) = some (y : Int) ∧ EmD dr qr g none u y := by
  have hql := qds_len qr
  have c : 0 < i := by
    rcases Nat.eq_zero_or_pos i with c | c
    · subst c
      obtain ⟨v, hv⟩ := h.zero
      rw [show ((0 : Nat) : Int) = 0 from rfl, hv] at hn
      cases hn
    · exact c
  obtain ⟨u, par, _⟩ := dv_par hd (dv_root hd (by omega) c)
  obtain ⟨v, hv⟩ := h.in_ u (par_lt par).1
  obtain ⟨sn, vn, e1, rfl, em, _⟩ := h.all _ _ hv
  have e1 : u = sn := by omega
  subst e1
  exact ⟨u, vn, par, hv, em⟩
theorem ChF.done {L : List (Int × Int)} (h : ChF dr qr g p0 qr.length L) (hg : g < qr.length) {l : List Int} (hl : l.length = qr.length) (ha : ∀ (k : Nat) (x : Int), l[k]? = some x → getL L (k : Int) = some x) : IsMt dr qr g (l.map D.int) ∧ l[g]? = some p0 := by
  have hql := qds_len qr
  have at_ : ∀ k : Nat, k < qr.length → ∃ x : Int, l[k]? = some x ∧ getL L (k : Int) = some x := fun k hk => by
    obtain ⟨x, hx⟩ := get_lt (l := l) (n := k) (by omega)
    exact ⟨x, hx, ha k x hx⟩
  refine ⟨IsMt.mk' (f := fun k => match l[k]? with | some i => i.toNat | _ => 0) (by rw [List.length_map]; exact hl) (fun k d hd => ?_) fun k hk => ?_, ?_⟩
  · rw [List.getElem?_map] at hd
    cases hx : l[k]? with
    | none => rw [hx] at hd; cases hd
    | some x =>
      rw [hx] at hd
      cases hd
      obtain ⟨sn, vn, e1, rfl, em, _⟩ := h.all _ _ (ha k x hx)
      simp only [hx, Int.toNat_natCast]
      exact ⟨trivial, em.lt.2⟩
  · obtain ⟨x, hx, gx⟩ := at_ k hk
    obtain ⟨sn, vn, e1, rfl, em, tp, gs⟩ := h.all _ _ gx
    have e1 : k = sn := by omega
    subst e1
    refine ⟨?_, fun rt => ?_, fun u par => ?_⟩
    · dsimp only
      rw [hx]
      exact em.lk.1
    · dsimp only
      rw [hx]
      exact tp rt
    · obtain ⟨y, gy, q⟩ := gs u par
      obtain ⟨x', hx', gx'⟩ := at_ u (by have := par_lt par; omega)
      rw [gy] at gx'
      cases gx'
      dsimp only
      rw [hx, hx']
      exact q
  · obtain ⟨x, hx, gx⟩ := at_ g hg
    rw [h.goal] at gx
    rw [hx, ← gx]
end
end Va

namespace Va
open PySem PySem.Spec PyProof.Rows L2 Bg
section
variable {K : PySem.W.Frag} {EX : L2.St → XK} {ρ : List Sl} {α β γ δ : Type}
end
end Va

namespace Va
open PySem PySem.Spec PyProof.Rows L2 Bg
structure FnOkG (P : Program) (w : World) (K : PySem.W.Frag) (mg : Str → Option Value) (base : Heap) (CX : CXT) (k : Nat) (f : Addr) (fd : FuncData) (ps : List Str) (sp : Sp) : Prop where
  len : ∀ vs H Q E, sp vs H Q E → vs.length = ps.length
  runs : ∀ (A : Around) (out : List Env) (s : Shared) (H : Hp) (args : Args) (us : List Value) (vs : List V) (Q : VK) (E : XK), Room k A → A.guards = some [] → Env0 P w K mg base A out s H →
    BindsTo s fd args (ps.zip us) → Vals vs us → sp vs H Q E → codeAny (model P w) A (.call (.ref f) args) (CR CX out P w H s Q E) s
section
variable {P : Program} {w : World} {K : PySem.W.Frag} {mg : Str → Option Value} {base : Heap}
theorem fd_okG {CX : CXT} {x qual : Str} {pa : Arguments} {bd : List Stmt} {sc : Scope} {dvs : List V} {kws : List (Str × V)} {f : Addr} {fd : FuncData} {N ps : List Str} {k : Nat} {sp : Sp} (F : FunD K x qual pa bd sc dvs kws f fd) (S : FnScope N ps sc)
    (len : ∀ vs H Q E, sp vs H Q E → vs.length = ps.length)
    (hb : ∀ (cdv : Value) (A : Around) (out : List Env) (s : Shared) (H : Hp) (vs : List V) (Q : VK) (E : XK), Room k (A.deeper (envOfC qual sc s.heap.objs.size f cdv)) → A.guards = some [] → sp vs H Q E →
      ∃ t, PSs (cxOf CX P w K mg base N qual sc f cdv A out s H E) bd t ∧ t { nx := fun _ H' => Q .non H', rt := Q } (L2.start N vs) H) : FnOkG P w K mg base CX (k + 1) f fd ps sp := by
  obtain ⟨oc, od, dV, kV, doc, pm, an, cdv, ct, osl, rfl, lk, hcd, _, _⟩ := F.ex
  constructor
  · exact len
  intro A out s H args us vs Q E room gd e0 bnd rel pre
  have keep := fun (b : Addr) (o : Obj) (e : base.get? b = some o) => (e0.bs b o e).1
  have inK : K.In s.heap := e0.mod.kin.keeps keep
  have noLim : s.heap.NoLimit := e0.mod.nolimit.keeps keep
  have vis : ∀ y ∈ ps.zip us, sc.names.lookup y.1 = some .local ∨ (sc.names.lookup y.1 = some .cell ∧ ((cellsFrom (s.heap.objs.size + 1) sc.names []).lookup y.1).isSome = true) := by
    rintro ⟨n, v⟩ hy
    refine (S.par n (List.of_mem_zip hy).1).imp id fun q => ⟨q, ?_⟩
    exact PySem.W.cellsFrom_some _ _ _ (.inl q)
  apply codeAny_call_function room.depth (inK _ _ lk) rfl S.co S.gen rfl (PySem.W.codeRec_of inK hcd)
  apply bnd
  apply wpAny_newFunctionEnv_cells S.kind vis
  rintro env rfl s1 st
  refine ⟨noLim.keeps st.toInCall.keep, ?_⟩
  apply codeAny_func
  obtain ⟨t, ht, hq⟩ := hb cdv A out s H vs Q E (room.deeper _) gd pre
  have I0 := inv_start (CX := CX) (E := E) S room.hd e0 (len _ _ _ _ pre) rel st
  refine wpAny_mono (ht.run [] s1 _ H _ I0 hq) ?_ (fun _ _ z => z)
  intro fl s' h
  cases fl with
  | ret u => obtain ⟨v, _, H', J, rv, q⟩ := h; exact ⟨v, H', J.os, J.bare, J.base, J.hok, rv, q⟩
  | next => obtain ⟨_, H', J, q⟩ := h; exact ⟨V.non, H', J.os, J.bare, J.base, J.hok, rfl, q⟩
  | brk => obtain ⟨_, _, _, q⟩ := h; exact q.elim
  | cont => obtain ⟨_, _, _, q⟩ := h; exact q.elim
end
structure FnG (P : Program) (w : World) (K : PySem.W.Frag) (mg : Str → Option Value) (base : Heap) (CX : CXT) (k : Nat) (x : Str) (ps : List Str) (sp : Sp) : Prop where
  ex : ∃ (f : Addr) (fd : FuncData), FnOkG P w K mg base CX k f fd ps sp ∧ mg x = some (.ref f) ∧ PySem.W.keepIn K (.ref f) = true ∧ Binds K fd ps []
section
variable {X : Cx} {CX : CXT} {k : Nat} {ps : List Str} {sp : Sp} {E : XK} {x : Str} {p pos : Pos} {e : Expr} {es : List Expr} {t : TA}
end
section
variable {P : Program} {w : World} {K : PySem.W.Frag} {mg mb : Str → Option Value} {k : Nat} {fa a : Addr} {fd : FuncData} {x : Str} {sp : Sp} {s1 : Shared} {vs : List Value} {ns : List Int}
theorem lawG0 (KX : K.In s1.heap) (hns : s1.heap.Ns mainGlobals mg) (hb : s1.heap.Ns builtinsNs mb) (hbb : ∀ x : Str, x ≠ "__name__" → mb x = bootBuiltins x) (hlim : s1.heap.NoLimit) (hgen : s1.gens = #[])
    (ha : s1.heap.get? a = some { cls := .type "list", data := .seq vs.toArray }) (hr : Room k callerA)
    (F : ∀ base : Heap, K.In base → base.Ns mainGlobals mg → FnOkG P w K mg base CX0 k fa fd [x] sp) (hbind : ∀ (s : Shared) (u : Value), BindsTo s fd ⟨[u], []⟩ [(x, u)])
    {H : Hp} (hO : Only H) (hsp : sp [.ref a] H (fun v _ => v = .bl true) fun _ _ _ => False) (hok : HOk P w H s1.heap) (hA : ∀ b, H b ≠ none → b = a ∧ K.lookup a = none) :
    codeAny (model P w) callerA (.call (.ref fa) ⟨[.ref a], []⟩) (fun r s' => r = .ok (.ret (.bool true)) ∧ OldK s1.heap s'.heap ∧ s'.os = s1.os ∧ AllBare s'.gens) s1 := by
  have noList : ∀ (b : Addr) (o : Obj) (es : Array DictEntry) (ep : Nat), s1.heap.get? b = some o → o.data = .dict es ep → H b = none := by
    intro b o es ep e d
    by_cases c : H b = none
    · exact c
    · rw [(hA b c).1, ha] at e
      cases e
      cases (d : Data.seq vs.toArray _ = Data.dict es ep)
  have nsB : ∀ (b : Addr) (m : Str → Option Value), s1.heap.Ns b m → (hidT s1.heap H).Ns b m := by
    rintro b m ⟨o, es, ep, e, d, r⟩
    exact ⟨o, es, ep, hidT_get e (noList b o es ep e d), d, r⟩
  have inB : K.In (hidT s1.heap H) := by
    intro b o e
    refine hidT_get (KX b o e) ?_
    by_cases c : H b = none
    · exact c
    · obtain ⟨rfl, n⟩ := hA b c
      rw [n] at e
      cases e
  have md : Mod K mg (hidT s1.heap H) := by
    obtain ⟨mc, h1, h2⟩ := hlim
    exact ⟨inB, nsB _ _ hns, ⟨mb, nsB _ _ hb, hbb⟩, ⟨mc, nsB _ _ h1, h2⟩⟩
  have none_in : ∀ b : Addr, b ∉ ([] : List Addr) := fun b z => (nomatch z)
  have e0 : Env0 P w K mg (hidT s1.heap H) callerA [] s1 H := ⟨rfl, md, fun b o e => of_hidT e, Nat.le_of_eq (hidT_size _ _), trivial, fun b z => (none_in b z).elim, hok, .of_eq hgen⟩
  refine codeAny_mono ((F _ inB (nsB _ _ hns)).runs callerA [] s1 H ⟨[.ref a], []⟩ [.ref a] [.ref a] _ _ hr rfl e0 (hbind s1 (.ref a)) (.cons rfl .nil) hsp) ?_
  rintro (e | fl) s' h
  · exact h.elim
  cases fl with
  | ret u =>
    obtain ⟨v, H', os, bare, un, hok', rel, q⟩ := h
    have q : v = .bl true := q
    subst q
    obtain rfl : u = Value.bool true := rel
    refine ⟨rfl, OldK.of_keep ?_, os, bare⟩
    intro b o e
    rcases hO b with z | ⟨ob, xs, z⟩
    · exact un.keep b o e z (none_in b) (none_in b)
    · obtain ⟨e1, _⟩ := hok b _ z
      obtain ⟨e2, _⟩ := hok' b _ (un.frzs b ob _ z)
      rw [e] at e1
      cases e1
      exact e2
  | _ => exact h.elim
theorem lawG (KX : K.In s1.heap) (hns : s1.heap.Ns mainGlobals mg) (hb : s1.heap.Ns builtinsNs mb) (hbb : ∀ x : Str, x ≠ "__name__" → mb x = bootBuiltins x) (hlim : s1.heap.NoLimit) (hgen : s1.gens = #[])
    (ha : s1.heap.get? a = some { cls := .type "list", data := .seq vs.toArray }) (hi : IntsAre vs ns) (hl : ns.length ≤ sizeLine) (hr : Room k callerA)
    (F : ∀ base : Heap, K.In base → base.Ns mainGlobals mg → FnOkG P w K mg base CX0 k fa fd [x] sp) (hbind : ∀ (s : Shared) (u : Value), BindsTo s fd ⟨[u], []⟩ [(x, u)])
    (hsp : ∀ H : Hp, Only H → SqL K H a (ns.map V.int) → sp [.ref a] H (fun v _ => v = .bl true) fun _ _ _ => False) :
    codeAny (model P w) callerA (.call (.ref fa) ⟨[.ref a], []⟩) (fun r s' => r = .ok (.ret (.bool true)) ∧ OldK s1.heap s'.heap ∧ s'.os = s1.os ∧ AllBare s'.gens) s1 := by
  have rel := vals_ints hi
  have lv := hi.length
  by_cases c : K.lookup a = none
  · let o : Obj := { cls := .type "list", data := .seq vs.toArray }
    have only : Only (upd (fun _ => none) a (.frz o (.lst (ns.map V.int)))) := fun b => by
      by_cases q : b = a
      · exact .inr ⟨o, _, by rw [q, upd_same]⟩
      · exact .inl (by rw [upd_ne q])
    refine lawG0 KX hns hb hbb hlim hgen ha hr F hbind only (hsp _ only (.inl (.inr ⟨o, upd_same⟩))) (fun b u z => ?_) fun b z => ?_
    · by_cases q : b = a
      · rw [q, upd_same] at z
        cases z
        rw [q]
        exact ⟨ha, by rw [List.length_map]; exact hl, vs, _, rel, ha⟩
      · rw [upd_ne q] at z
        cases z
    · by_cases q : b = a
      · exact ⟨q, c⟩
      · rw [upd_ne q] at z
        exact absurd rfl z
  · obtain ⟨o, ho⟩ := Option.ne_none_iff_exists'.mp c
    have e := KX a o ho
    rw [ha] at e
    cases e
    refine lawG0 KX hns hb hbb hlim hgen ha hr F hbind (H := fun _ => none) (fun _ => .inl rfl) (hsp _ (fun _ => .inl rfl) (.inr ⟨_, vs.toArray, _, ho, rfl, rfl, rfl, ?_, ?_⟩)) (fun b u z => (nomatch z)) fun b z => absurd rfl z
    · rw [List.size_toArray, lv]; exact hl
    · simpa using rel
end
theorem walkG {l : PySem.W.OpenLaw} {n k : Nat} {q : Program} {loose : List Str} {XP : (Str → Option Value) → Heap → Prop} {YP : World → Heap → Prop} {d : DefRec} {x : Str}
    (hn : l.most = some n) (hn2 : n ≤ sizeLine) (hdf : d.params.defaults = []) (hr : Room k callerA)
    (F : ∀ (w : World) (mg : Str → Option Value) (fa : Addr) (h : Heap), YP w h → h.Ns mainGlobals mg → mg d.name = some (.ref fa) →
      ∃ (K : PySem.W.Frag) (fd : FuncData) (sp : Sp), K.In h ∧ (∀ (s : Shared) (u : Value), BindsTo s fd ⟨[u], []⟩ [(x, u)]) ∧
        (∀ (H : Hp) (a : Addr) (ns : List Int), ns.length ≤ n → Only H → SqL K H a (ns.map V.int) → sp [.ref a] H (fun v _ => v = .bl true) fun _ _ _ => False) ∧
        ∀ base : Heap, K.In base → base.Ns mainGlobals mg → FnOkG l.prog w K mg base CX0 k fa fd [x] sp) :
    PySem.W.WalkO q loose XP YP l.row.toRowW d [] (fun f vs => PySem.call f vs) := by
  apply Att.attach_call hn hdf
  intro w s0 s1 mg mb fa o pm cd doc a vs ns G Y ho hd hcd hmg hobj hints hlen hg
  obtain ⟨K, fd, sp, KX, hb, hsp, hF⟩ := F w mg fa _ Y G.T.g hmg
  exact lawG KX G.T.g G.T.b G.T.builtins G.T.nolimit hg hobj hints (Nat.le_trans hlen hn2) hr hF hb fun H hO hS => hsp H a ns hlen hO hS
end Va

namespace Va
open PySem PySem.Spec PyProof.Rows L2 Bg
inductive HdM (X : Cx) : List ExceptHandler → List (Value × Option Nat × SuT) → Prop
  | nil : HdM X [] []
  | as_ {x n : Str} {c : Value} {i : Nat} {ts : SuT} {b0 : Stmt} {bs : List Stmt} {np po : Pos} {hds : List ExceptHandler} {l : List (Value × Option Nat × SuT)} : Names X x c → X.N[i]? = some n → X.env.kindOf n = some .local →
      (∀ (a : Addr) (oe : Obj) (cls : Value) (d : Option Addr) (pn : List (Addr × Obj)), Zc cls d oe → (∃ vs, oe.data = .fields vs) → PSs (X.suite a ((a, oe) :: pn)) (b0 :: bs) (ts a cls d)) → HdM X hds l →
      HdM X (.ExceptHandler (some (.Name x np)) (some n) (b0 :: bs) po :: hds) ((c, some i, ts) :: l)
  | no_ {x : Str} {c : Value} {ts : SuT} {b0 : Stmt} {bs : List Stmt} {np po : Pos} {hds : List ExceptHandler} {l : List (Value × Option Nat × SuT)} : Names X x c →
      (∀ (a : Addr) (oe : Obj) (cls : Value) (d : Option Addr) (pn : List (Addr × Obj)), Zc cls d oe → (∃ vs, oe.data = .fields vs) → PSs (X.suite a ((a, oe) :: pn)) (b0 :: bs) (ts a cls d)) → HdM X hds l →
      HdM X (.ExceptHandler (some (.Name x np)) none (b0 :: bs) po :: hds) ((c, none, ts) :: l)
section
variable {X : Cx} {body : List Stmt} {h0 : ExceptHandler} {hds : List ExceptHandler} {l : List (Value × Option Nat × SuT)} {pos : Pos} {tb : WX → TS} {Wout : WX}
end
end Va

namespace Va
open PySem PySem.Spec PyProof.Rows L2 Bg
def ItV (H : Hp) (v : V) (t : Str) : Prop := (v = .non ∧ t = ("None" : Str)) ∨ (∃ b, v = .bl b ∧ t = (if b = true then ("True" : Str) else ("False" : Str))) ∨ (∃ i : Int, v = .int i ∧ i.natAbs.log2 < 1920 ∧ t = Str.ofString (toString i)) ∨ (∃ z, v = .str z ∧ (reprText z).length ≤ sizeLine ∧ t = reprText z) ∨ (∃ b, v = .ref b ∧ Rd H b (.dK []) ∧ t = dictText [])
def ShV (K : PySem.W.Frag) (H : Hp) (a : Addr) (t : Str) : Prop :=
  (∃ d : PyData, Dp K H (.ref a) d ∧ d.showable = true ∧ d.hasDict = false ∧ d.depth ≤ 64 ∧ d.shown.length ≤ sizeLine ∧ t = d.shown) ∨
  (∃ xs ts, SqL K H a xs ∧ xs ≠ [] ∧ ts.length = xs.length ∧ (∀ (i : Nat) (x : V) (t : Str), xs[i]? = some x → ts[i]? = some t → ItV H x t) ∧ (listText ts).length ≤ sizeLine ∧ t = listText ts)
def rRepr (K : PySem.W.Frag) : List V → Hp → VK → Prop := fun xs H Q => ∃ a t, xs = [.ref a] ∧ ShV K H a t ∧ Q (.str t) H
theorem call_reprV {X : Cx} (gd : X.A.guards = some []) (hu : X.A.units + 200 < cLine) : CallR X (.builtin "repr") (rRepr X.K) := by
  intro pins s σ H xs us Q I r h
  obtain ⟨a, t, rfl, hv, q⟩ := h
  obtain ⟨u, rfl, rx⟩ := vals1 r
  cases rx
  rcases hv with ⟨d, dp, h1, h2, h3, h4, rfl⟩ | ⟨xs, ts, sq, hne, hlen, hit, hsz, rfl⟩
  · obtain ⟨as, rd⟩ := Dp.reads I d _ _ dp rfl
    exact repr_of_reads' rd h1 (PyData.noDict_hsm h2) gd (by omega) (fun _ _ z => z) (fun h' u tk hk => ⟨.str d.shown, H, I.kept hk, ⟨u, rfl⟩, q⟩) h4
  · obtain ⟨its, rv, ⟨o, n, ho, hc, _, hd⟩, _⟩ := I.list sq
    have dct : ∀ b, Rd H b (.dK []) → b ≠ a ∧ ReprK X.prog X.w [b] s.heap 1 (.ref b) (dictText []) := fun b hb => by
      have hok : ObjOk X.prog X.w H s.heap b (.dK []) := hb.ok I.hok
      obtain ⟨_, nsys, kv, hkv, ob, es, ep, hob, hcls, hdat, _, hpr, _⟩ := hok
      cases hkv
      obtain ⟨les⟩ := es
      have les0 : les = [] := by
        have hp2 : Pairs (mixKind X.prog X.w) les [] := hpr
        cases hp2
        rfl
      subst les0
      refine ⟨fun z => ?_, ReprK.dict (as := []) hob hcls.1 hdat nsys (fun z => (nomatch z)) .nil⟩
      rw [z, ho] at hob
      cases hob
      rw [hd] at hdat
      cases hdat
    let as : List Addr := xs.filterMap fun v => match v with | .ref b => some b | _ => none
    have hna : a ∉ as := fun z => by
      obtain ⟨v, hv, e⟩ := List.mem_filterMap.mp z
      obtain ⟨i, hi⟩ := List.mem_iff_getElem?.mp hv
      obtain ⟨t, ht⟩ := get_lt (l := ts) (n := i) (by rw [hlen]; exact (List.getElem?_eq_some_iff.mp hi).1)
      cases v with
      | ref b =>
        cases e
        rcases hit i _ t hi ht with h | ⟨_, h, _⟩ | ⟨_, h, _⟩ | ⟨_, h, _⟩ | ⟨b', h, hb, _⟩
        · cases h.1
        · cases h
        · cases h
        · cases h
        · cases h; exact (dct _ hb).1 rfl
      | _ => cases e
    have item : ∀ (i : Nat) (y : Value), its[i]? = some y → ∃ t, ts[i]? = some t ∧ ReprK X.prog X.w as s.heap 1 y t := fun i y hy => by
      have hi : i < its.length := (List.getElem?_eq_some_iff.mp hy).1
      have hl := rv.length
      obtain ⟨x, hx⟩ := get_lt (l := xs) (n := i) (by omega)
      obtain ⟨t, ht⟩ := get_lt (l := ts) (n := i) (by omega)
      obtain ⟨y', hy', rel⟩ := rv.get hx
      rw [hy] at hy'
      cases hy'
      refine ⟨t, ht, ?_⟩
      rcases hit i x t hx ht with ⟨rfl, rfl⟩ | ⟨b, rfl, rfl⟩ | ⟨k, rfl, hk, rfl⟩ | ⟨z, rfl, hz, rfl⟩ | ⟨b, rfl, hb, rfl⟩
      · cases rel; exact .of_is ReprIs.none _ _ _
      · cases rel; exact .of_is (ReprIs.bool b) _ _ _
      · obtain ⟨tk, rfl⟩ := rel; exact .of_is (ReprIs.int tk hk) _ _ _
      · obtain ⟨tk, rfl⟩ := rel; exact .of_is (ReprIs.str z tk hz) _ _ _
      · cases rel
        exact ((dct b hb).2).more fun c hc => by
          cases List.mem_singleton.mp hc
          exact List.mem_filterMap.mpr ⟨_, List.mem_of_getElem? hx, rfl⟩
    cases its with
    | nil => cases rv; exact absurd rfl hne
    | cons x l =>
      have hl := rv.length
      exact call_repr_slot (by omega) ⟨o, ho, hc⟩ F.slot_list_repr.toG (call_list_reprK ho hc hd hna (by rw [hlen]; simpa using hl) (fun i y e => item i y (by simpa using e)) (g := []) gd (fun b _ => Clear.nil b) (by show X.A.units + 1 + (1 + 1) < _; omega) (fun _ _ z => z) (fun h' u tk hk => ⟨_, _, rfl, .str (listText ts), H, I.kept hk, ⟨u, rfl⟩, q⟩) hsz)
mutual
theorem plain_noDict : ∀ {d : D}, plain d = true → (toP d).hasDict = false
  | .non, _ => rfl
  | .bl _, _ => rfl
  | .int _, _ => rfl
  | .str _, _ => rfl
  | .lst ds, h => plains_noDict (ds := ds) h
  | .tup ds, h => plains_noDict (ds := ds) h
  | .dct _, h => (nomatch h)
  | .dcp _, h => (nomatch h)
  | .obj _ _, h => (nomatch h)
  | .glo _, h => (nomatch h)
  | .exc _ _, h => (nomatch h)
theorem plains_noDict : ∀ {ds : List D}, plains ds = true → PyData.hasDictAll (toPs ds) = false
  | [], _ => rfl
  | d :: ds, h => by
    have h : (plain d && plains ds) = true := h
    rw [Bool.and_eq_true] at h
    show ((toP d).hasDict || PyData.hasDictAll (toPs ds)) = false
    rw [plain_noDict h.1, plains_noDict h.2]
    rfl
end
structure Sh (n m : Nat) (d : D) : Prop where
  pl : plain d = true
  sh : (toP d).showable = true
  dp : (toP d).depth ≤ n
  ln : (toP d).shown.length ≤ m
theorem Sh.mono {n m n' m' : Nat} {d : D} (h : Sh n m d) (h1 : n ≤ n') (h2 : m ≤ m') : Sh n' m' d := ⟨h.pl, h.sh, Nat.le_trans h.dp h1, Nat.le_trans h.ln h2⟩
theorem sh_bl (b : Bool) : Sh 0 5 (.bl b) := ⟨rfl, rfl, Nat.le_refl _, by cases b <;> decide +kernel⟩
theorem sh_int {i : Int} {k : Nat} (hk : 0 < k) (hk2 : k ≤ 500) (h : i.natAbs < 10 ^ k) : Sh 0 (k + 1) (.int i) := by
  refine ⟨rfl, ?_, Nat.le_refl _, ?_⟩
  · show decide (i.natAbs.log2 < 1920) = true
    rw [decide_eq_true_iff]
    by_cases c : i.natAbs = 0
    · rw [c]; decide
    · rw [Nat.log2_lt c]
      refine Nat.lt_of_lt_of_le h (Nat.le_trans (Nat.pow_le_pow_right (by decide) hk2) ?_)
      have e : (2 : Nat) ^ 1920 = (2 ^ 4) ^ 480 := by rw [← Nat.pow_mul]
      have e2 : (10 : Nat) ^ 500 ≤ 2 ^ 1920 := by decide +kernel
      exact e2
  · show (Str.ofString (toString i)).length ≤ k + 1
    rw [PySem.ofString_length]
    exact int_text_length_le10 hk h
theorem sh_str {z : Str} {m : Nat} (h : (reprText z).length ≤ m) : Sh 0 m (.str z) := ⟨rfl, rfl, Nat.le_refl _, h⟩
theorem shs {n m : Nat} : ∀ {ds : List D}, (∀ d ∈ ds, Sh n m d) → plains ds = true ∧ PyData.showableAll (toPs ds) = true ∧ PyData.depthAll (toPs ds) ≤ n ∧ ((PyData.shownAll (toPs ds)).map (·.length)).sum ≤ ds.length * m ∧ (PyData.shownAll (toPs ds)).length = ds.length
  | [], _ => ⟨rfl, rfl, Nat.zero_le _, Nat.zero_le _, rfl⟩
  | d :: ds, h => by
    have h1 := h d List.mem_cons_self
    obtain ⟨a, b, c, e, f⟩ := shs (ds := ds) fun x hx => h x (.tail _ hx)
    refine ⟨?_, ?_, ?_, ?_, ?_⟩
    · show (plain d && plains ds) = true
      rw [h1.pl, a]; rfl
    · show ((toP d).showable && PyData.showableAll (toPs ds)) = true
      rw [h1.sh, b]; rfl
    · show max (toP d).depth (PyData.depthAll (toPs ds)) ≤ n
      exact Nat.max_le.mpr ⟨h1.dp, c⟩
    · show (toP d).shown.length + ((PyData.shownAll (toPs ds)).map (·.length)).sum ≤ (ds.length + 1) * m
      have := h1.ln
      rw [Nat.add_mul]
      omega
    · show (PyData.shownAll (toPs ds)).length + 1 = ds.length + 1
      rw [f]
theorem sh_lst {n m : Nat} {ds : List D} (h : ∀ d ∈ ds, Sh n m d) : Sh (n + 1) (ds.length * m + 2 * ds.length + 3) (.lst ds) := by
  obtain ⟨a, b, c, e, f⟩ := shs h
  refine ⟨a, b, Nat.succ_le_succ c, ?_⟩
  have := listText_len_le (PyData.shownAll (toPs ds))
  show (listText (PyData.shownAll (toPs ds))).length ≤ _
  omega
theorem sh_tup {n m : Nat} {ds : List D} (h : ∀ d ∈ ds, Sh n m d) : Sh (n + 1) (ds.length * m + 2 * ds.length + 3) (.tup ds) := by
  obtain ⟨a, b, c, e, f⟩ := shs h
  refine ⟨a, b, Nat.succ_le_succ c, ?_⟩
  have := tupleText_len_le (PyData.shownAll (toPs ds))
  show (tupleText (PyData.shownAll (toPs ds))).length ≤ _
  omega
def itB : D → Bool
  | .non => true
  | .bl _ => true
  | .int i => decide (i.natAbs.log2 < 1920)
  | .str z => decide ((reprText z).length ≤ 1000)
  | .dct es => es.isEmpty
  | _ => false
def itT : D → Str
  | .dct _ => dictText []
  | d => (toP d).shown
theorem itV_of {K : PySem.W.Frag} {O : AP} {H : Hp} {v : V} {d : D} (r : Rep K O H v d) (h : itB d = true) : ItV H v (itT d) := by
  cases r with
  | non => exact .inl ⟨rfl, rfl⟩
  | bl b => exact .inr (.inl ⟨b, rfl, by cases b <;> rfl⟩)
  | int i => exact .inr (.inr (.inl ⟨i, rfl, of_decide_eq_true h, rfl⟩))
  | str z => exact .inr (.inr (.inr (.inl ⟨z, rfl, Nat.le_trans (of_decide_eq_true h) (by decide), rfl⟩)))
  | @dct a kvs es _ hr _ hk _ =>
    have : es = [] := by cases es with | nil => rfl | cons _ _ => cases h
    subst this
    have : kvs = [] := by simpa using hk
    subst this
    exact .inr (.inr (.inr (.inr ⟨_, rfl, hr, rfl⟩)))
  | _ => cases h
def reprM (d : D) : M Str := fun P _ => ((∃ ds, d = .lst ds ∨ d = .tup ds) ∧ Sh 64 16000000 d ∧ P (toP d).shown) ∨ (∃ ds, d = .lst ds ∧ ds ≠ [] ∧ (∀ x ∈ ds, itB x = true) ∧ (listText (ds.map itT)).length ≤ sizeLine ∧ P (listText (ds.map itT)))
section
variable {K : PySem.W.Frag} {EX : L2.St → XK} {ρ : List Sl} {α : Type}
theorem re_repr {ta : TE} {res : Res α} {en : α → D} [SeenX K res en] {w : M α} (ha : RG K EX ρ ta res w) : RE K EX ρ (tCB (rRepr K) (tCons ta tNil)) D.str (w >>= fun a => reprM (en a)) := fun B O H σ E P PX Q hw hq hx =>
  ha B O H σ E _ PX _ hw (fun a v H1 p e r => by
    rcases p with ⟨⟨ds, hd⟩, hs, p⟩ | ⟨ds, hd, hne, hit, hsz, p⟩
    · have dp := SeenX.dp (K := K) r hs.pl
      have hv : ∃ b, v = .ref b := by
        rcases hd with hd | hd <;> rw [hd] at dp <;> cases dp <;> exact ⟨_, rfl⟩
      obtain ⟨b, rfl⟩ := hv
      exact ⟨b, _, rfl, .inl ⟨_, dp, hs.sh, plain_noDict hs.pl, hs.dp, Nat.le_trans hs.ln (by decide), rfl⟩, hq _ _ _ p e (.str _)⟩
    · obtain ⟨b, xs, rfl, sq, rl⟩ := SeenX.sl (K := K) r hd
      have hl := rl.length
      refine ⟨b, _, rfl, .inr ⟨xs, ds.map itT, sq, fun z => ?_, by rw [List.length_map, hl], fun i x t hx ht => ?_, hsz, rfl⟩, hq _ _ _ p e (.str _)⟩
      · rw [z] at hl; exact hne (List.length_eq_zero_iff.mp hl.symm)
      · obtain ⟨d, hd', rd⟩ := rl.get' hx
        rw [List.getElem?_map, hd'] at ht
        cases ht
        exact itV_of rd (hit d (List.mem_of_getElem? hd'))) hx
end
theorem un_of {k : Nat} {A : Around} (hr : Room k A) : A.units + 200 < cLine := by have := hr.un; omega
end Va

namespace Va
open PySem PySem.Spec PyProof.Rows L2 Bg
section
variable {X : Cx}
end
section
variable {K : PySem.W.Frag} {EX : L2.St → XK} {ρ : List Sl} {α β : Type}
end
end Va

namespace Va
open PySem PySem.Spec PyProof.Rows L2 Bg
structure RowK {ρ : Type} (en : ρ → D) (dr : ρ → Int) (gd : ρ → Prop) (pr : D → Int → Bool) (dp : D → Int) : Prop where
  enc : ∀ d m, pr d m = true → ∃ r, d = en r ∧ gd r ∧ 1 ≤ dr r ∧ dr r ≤ m
  dec : ∀ r m, gd r → 1 ≤ dr r → dr r ≤ m → pr (en r) m = true
  dpe : ∀ r, dp (en r) = dr r
def okR (pr : D → Int → Bool) (dp : D → Int) (top : Int) (n : Nat) (m : Int) (d : D) : Bool := pr d (min m top) && !(decide (0 < n) && decide (dp d = 1))
def ChG {ρ : Type} (dr : ρ → Int) (gd : ρ → Prop) (top : Int) : Nat → Int → List ρ → Prop
  | _, _, [] => True
  | n, m, r :: rs => gd r ∧ 1 ≤ dr r ∧ dr r ≤ min m top ∧ (0 < n → dr r ≠ 1) ∧ ChG dr gd top (n + 1) (dr r + 1) rs
def endM {ρ : Type} (dr : ρ → Int) : Int → List ρ → Int
  | m, [] => m
  | _, r :: rs => endM dr (dr r + 1) rs
section
variable {ρ : Type} {en : ρ → D} {dr : ρ → Int} {gd : ρ → Prop} {pr : D → Int → Bool} {dp : D → Int} {top : Int}
theorem ChG.snoc : ∀ {pre : List ρ} {n : Nat} {m : Int} {r : ρ}, ChG dr gd top n m pre → gd r → 1 ≤ dr r → dr r ≤ min (endM dr m pre) top → (0 < n + pre.length → dr r ≠ 1) → ChG dr gd top n m (pre ++ [r])
  | [], n, m, r, _, a, b, c, e => ⟨a, b, c, e, trivial⟩
  | q :: pre, n, m, r, ⟨a', b', c', e', t⟩, a, b, c, e => ⟨a', b', c', e', ChG.snoc t a b c fun _ => e (by simp only [List.length_cons]; omega)⟩
theorem ChG.take : ∀ {rows : List ρ} {n : Nat} {m : Int} (p : Nat), ChG dr gd top n m rows → ChG dr gd top n m (rows.take p)
  | _, _, _, 0, _ => trivial
  | [], _, _, _ + 1, _ => trivial
  | _ :: _, _, _, p + 1, ⟨a, b, c, e, t⟩ => ⟨a, b, c, e, ChG.take p t⟩
end
section
variable {P : D → Prop}
end
end Va

namespace Va
open PySem PySem.Spec PyProof.Rows L2 Bg
section
variable {P : D → Prop} {w : D}
end
theorem rep_in {d : D} {Q : Str → Prop} {X : Exn → Prop} (h1 : ∃ ds, d = .lst ds ∨ d = .tup ds) (h2 : Sh 64 16000000 d) (q : Q (toP d).shown) : reprM d Q X := .inl ⟨h1, h2, q⟩
end Va

namespace Va
open PySem PySem.Spec PyProof.Rows L2 Bg
section
variable {X : Cx} {k1 k2 : Nat} {C1 C2 : Addr} {ps1 ps2 : List Str} {sp1 sp2 : Sp} {W : WX} {m : Str} {pos apos : Pos} {e o : Expr} {es : List Expr} {ta : TE} {t : TA}
end
section
variable {K : PySem.W.Frag} {EX : L2.St → XK} {ρ : List Sl} {α β γ δ : Type}
end
section
variable {K : PySem.W.Frag} {EX : L2.St → XK} {ρ : List Sl} {α β γ : Type}
end
end Va

namespace Va
open PySem PySem.Spec PyProof.Rows L2 Bg
section
variable {P : Program} {w : World} {A : Around} {E : Value → Shared → Prop} {s : Shared}
end
section
variable {K : PySem.W.Frag} {EX : L2.St → XK} {ρ : List Sl}
end
end Va

namespace Va
open PySem PySem.Spec PyProof.Rows L2 Bg
def TyL (d : D) : Prop := tyD d ≠ none ∧ ∀ ds, d = .lst ds → ds.length ≤ 1000 ∧ ∀ x ∈ ds, tyD x ≠ none
def TyT (ds : List D) : Prop := ds.length ≤ 1000 ∧ ∀ d ∈ ds, TyL d ∧ emD 4 d = true
end Va

namespace Va
open PySem PySem.Spec PyProof.Rows L2 Bg
def Sm (l : List D) : Prop := l.length ≤ 200 ∧ ∀ d ∈ l, TyL d ∧ emD 4 d = true
theorem Sm.app {l m : List D} (h1 : l.length + m.length ≤ 200) (h : Sm l) (k : Sm m) : Sm (l ++ m) := ⟨by rw [List.length_append]; exact h1, fun d hd => (List.mem_append.mp hd).elim (h.2 d) (k.2 d)⟩
theorem Sm.one {d : D} (h : TyL d ∧ emD 4 d = true) : Sm [d] := ⟨by simp, fun x hx => by simp at hx; subst hx; exact h⟩
theorem Sm.ty {l : List D} (h : Sm l) : TyT l := ⟨by have := h.1; omega, h.2⟩
end Va

namespace Va
open PySem PySem.Spec PyProof.Rows L2 Bg
section
variable {K : PySem.W.Frag} {EX : L2.St → XK} {ρ : List Sl} {α β γ R : Type} {F : Fr R} {O O' : AP} {H H' : Hp}
theorem RG.vl {t : TE} {en : α → D} {w : M (List α)} (h : RG K EX ρ t (resV K (oL (oS en))) w) : RG K EX ρ t (resL K en) w := h.imp fun _ _ _ _ _ _ _ ⟨as, r⟩ => by
  cases r with
  | lst hp rl => exact ⟨_, _, rfl, hp, (repl_s rl).1⟩
end
end Va

namespace Va
open PySem PySem.Spec PyProof.Rows L2 Bg
section
variable {K : PySem.W.Frag} {EX : L2.St → XK} {ρ : List Sl} {α β : Type}
instance {en : α → D} : Seen K (resV K (oL (oL (oS en)))) (eL (eL en)) := ⟨fun {O H0 H v a} ⟨as, r⟩ p => by
  have r' := r.frz (O' := No) (fun b z => z.elim) fun b _ z => z
  rw [od_L (od_L (od_S en)) a] at r'
  exact Rep.dp r' p⟩
end
end Va

namespace Va
open PySem PySem.Spec PyProof.Rows L2 Bg
section
variable {K : PySem.W.Frag} {EX : L2.St → XK} {ρ : List Sl} {α β γ R : Type} {F : Fr R}
end
end Va

namespace Va
open PySem PySem.Spec PyProof.Rows L2 Bg
def repS (z : Str) (n : Nat) : Str := ⟨(List.replicate n z.cps).foldl (· ++ ·) #[]⟩
theorem fold_size (c : Array Nat) : ∀ (n : Nat) (a : Array Nat), ((List.replicate n c).foldl (· ++ ·) a).size = a.size + n * c.size
  | 0, a => by simp
  | n + 1, a => by
    rw [List.replicate_succ, List.foldl_cons, fold_size c n, Array.size_append, Nat.succ_mul]
    omega
section
variable {K : PySem.W.Frag} {EX : L2.St → XK} {ρ : List Sl}
end
end Va

namespace Va
open PySem PySem.Spec PyProof.Rows L2 Bg
end Va

namespace Va
open PySem PySem.Spec PyProof.Rows L2 Bg
section
variable {K : PySem.W.Frag} {EX : L2.St → XK} {ρ : List Sl} {α β γ R : Type} {F : Fr R}
theorem RepL.tl {O : AP} {H : Hp} {vs : List V} {ds : List D} (r : RepL K O H vs ds) : RepL K O H vs.tail ds.tail := by
  cases r with
  | nil => exact .nil
  | cons _ t => exact t
end
end Va

namespace Va
open PySem PySem.Spec PyProof.Rows L2 Bg
structure PmL (dr : List (Str × Int)) (qr : List Sr) (i : Nat) (m : List Int) : Prop where
  len : m.length = i
  in_ : ∀ (k : Nat) (x : Int), m[k]? = some x → ∃ p : Nat, x = (p : Int) ∧ p < dr.length ∧ lkD dr qr k p ∧ (k = 0 → tpD qr k p)
  goes : ∀ (u k : Nat), Par (qds qr) u k → k < i → ∀ p y : Nat, m[k]? = some (p : Int) → m[u]? = some (y : Int) → gsD dr qr k p y
structure GdM (dr : List (Str × Int)) (qr : List Sr) (i : Nat) (s : List Int) (p : Nat) : Prop where
  lt : p < dr.length
  lk : lkD dr qr i p
  tp : i = 0 → tpD qr i p
  gs : ∀ u, Par (qds qr) u i → ∀ y : Nat, s[u]? = some (y : Int) → gsD dr qr i p y
section
variable {dr : List (Str × Int)} {qr : List Sr}
theorem pmL_zero {m : List Int} : m ∈ [([] : List Int)] ↔ PmL dr qr 0 m := by
  rw [List.mem_singleton]
  constructor
  · rintro rfl
    exact ⟨rfl, fun k x h => by simp at h, fun u k p h => by omega⟩
  · intro h
    exact List.length_eq_zero_iff.mp h.len
theorem PmL.snoc {i p : Nat} {s : List Int} (h : PmL dr qr i s) (g : GdM dr qr i s p) : PmL dr qr (i + 1) (s ++ [(p : Int)]) := by
  have hl := h.len
  refine ⟨by simp [hl], fun k x hk => ?_, fun u k pr hk p' y hp hy => ?_⟩
  · rcases Nat.lt_or_ge k i with c | c
    · rw [List.getElem?_append_left (by omega)] at hk
      exact h.in_ k x hk
    · rw [List.getElem?_append_right (by omega)] at hk
      have e : k - s.length = 0 := by
        cases q : k - s.length with
        | zero => rfl
        | succ n => rw [q] at hk; simp at hk
      rw [e] at hk
      have hx : (p : Int) = x := by simpa using hk
      have : k = i := by omega
      subst this
      exact ⟨p, hx.symm, g.lt, g.lk, g.tp⟩
  · have lt := (par_lt pr).1
    rw [List.getElem?_append_left (by omega)] at hy
    rcases Nat.lt_or_ge k i with c | c
    · rw [List.getElem?_append_left (by omega)] at hp
      exact h.goes u k pr c p' y hp hy
    · have : k = i := by omega
      subst this
      rw [List.getElem?_append_right (by omega), hl, Nat.sub_self] at hp
      have hx : (p : Int) = p' := by simpa using hp
      have hx : p = p' := by omega
      subst hx
      exact g.gs u pr y hy
theorem PmL.split {i : Nat} {m : List Int} (h : PmL dr qr (i + 1) m) : ∃ (s : List Int) (p : Nat), m = s ++ [(p : Int)] ∧ PmL dr qr i s ∧ GdM dr qr i s p := by
  have hl := h.len
  have hne : m ≠ [] := fun z => by rw [z] at hl; simp at hl
  have e := List.dropLast_concat_getLast hne
  have hdl : m.dropLast.length = i := by rw [List.length_dropLast]; omega
  have gi : m[i]? = some (m.getLast hne) := by
    rw [List.getLast_eq_getElem, List.getElem?_eq_getElem (by omega)]
    congr 2
    omega
  have gd : ∀ k, k < i → m[k]? = m.dropLast[k]? := fun k hk => by
    rw [List.dropLast_eq_take, List.getElem?_take, if_pos (by omega)]
  obtain ⟨p, hp, lt, lk, tp⟩ := h.in_ i _ gi
  refine ⟨m.dropLast, p, by rw [← hp]; exact e.symm, ⟨hdl, fun k x hk => ?_, fun u k pr hk p' y h1 h2 => ?_⟩, lt, lk, tp, fun u pr y hy => ?_⟩
  · have hk' : k < i := by
      have := (List.getElem?_eq_some_iff.mp hk).1
      omega
    exact h.in_ k x (by rw [gd k hk']; exact hk)
  · have lt := (par_lt pr).1
    exact h.goes u k pr (by omega) p' y (by rw [gd k hk]; exact h1) (by rw [gd u (by omega)]; exact h2)
  · have lt := (par_lt pr).1
    exact h.goes u i pr (by omega) p y (by rw [gi, hp]) (by rw [gd u lt]; exact hy)
def e0 (i : Nat) : Nat := if i = 0 then 0 else 1
theorem GdM.pos {i p : Nat} {s : List Int} (g : GdM dr qr i s p) (hd : Dv (qds qr)) (hi : i < qr.length) (hs : PmL dr qr i s) : e0 i ≤ p := by
  unfold e0
  by_cases c : i = 0
  · rw [if_pos c]; exact Nat.zero_le _
  · rw [if_neg c]
    obtain ⟨u, pr, _⟩ := dv_par hd (dv_root hd (by rw [qds_len]; exact hi) (by omega))
    have lt := (par_lt pr).1
    obtain ⟨x, hx⟩ := get_lt (l := s) (n := u) (by rw [hs.len]; exact lt)
    obtain ⟨y, rfl, _⟩ := hs.in_ u x hx
    have := (g.gs u pr y hx _ (List.getElem?_eq_getElem hi)).1.1
    omega
def MoreL (dr : List (Str × Int)) (qr : List Sr) (i : Nat) (L : List (List Int)) (a c : Nat) (N : List (List Int)) : Prop :=
  N.length ≤ a * (dr.length - e0 i) + (c - e0 i) ∧ ∀ m, m ∈ N ↔ ∃ (j : Nat) (s : List Int) (p : Nat), L[j]? = some s ∧ m = s ++ [(p : Int)] ∧ GdM dr qr i s p ∧ (j < a ∨ j = a ∧ p < c)
theorem MoreL.nil {i : Nat} {L : List (List Int)} : MoreL dr qr i L 0 0 [] := ⟨by simp, fun m => ⟨fun z => (nomatch z), fun ⟨j, s, p, _, _, _, h⟩ => by omega⟩⟩
theorem MoreL.row {i a : Nat} {L N : List (List Int)} (h : MoreL dr qr i L a dr.length N) : MoreL dr qr i L (a + 1) 0 N := ⟨by have := h.1; rw [Nat.add_mul]; omega, fun m => (h.2 m).trans ⟨fun ⟨j, s, p, h1, h2, h3, h4⟩ => ⟨j, s, p, h1, h2, h3, by omega⟩, fun ⟨j, s, p, h1, h2, h3, h4⟩ => ⟨j, s, p, h1, h2, h3, by
  have := h3.lt
  omega⟩⟩⟩
theorem MoreL.no {i a c : Nat} {L N : List (List Int)} {s : List Int} (h : MoreL dr qr i L a c N) (hs : L[a]? = some s) (g : ¬ GdM dr qr i s c) : MoreL dr qr i L a (c + 1) N := by
  refine ⟨by have := h.1; omega, fun m => ?_⟩
  rw [h.2 m]
  constructor
  · rintro ⟨j, s, p, h1, h2, h3, h4⟩
    exact ⟨j, s, p, h1, h2, h3, by omega⟩
  · rintro ⟨j, s', p, h1, h2, h3, h4⟩
    by_cases z : j = a ∧ p = c
    · obtain ⟨rfl, rfl⟩ := z
      rw [hs] at h1
      cases h1
      exact absurd h3 g
    · exact ⟨j, s', p, h1, h2, h3, by omega⟩
def fewM : Nat → Nat
  | 0 => 1
  | i + 1 => 8 * 7 ^ i
def AllL (dr : List (Str × Int)) (qr : List Sr) (i : Nat) (L : List (List Int)) : Prop := L.length ≤ fewM i ∧ ∀ m, m ∈ L ↔ PmL dr qr i m
theorem AllL.start : AllL dr qr 0 [[]] := ⟨by simp [fewM], fun m => pmL_zero⟩
theorem AllL.next {i : Nat} {L N : List (List Int)} (h : AllL dr qr i L) (hd : dr.length ≤ 8) (n : MoreL dr qr i L L.length 0 N) : AllL dr qr (i + 1) N := by
  refine ⟨?_, fun m => ?_⟩
  · have h1 := n.1
    cases i with
    | zero =>
      have h2 : L.length * (dr.length - e0 0) ≤ 1 * 8 := Nat.mul_le_mul h.1 (by simp [e0]; exact hd)
      show _ ≤ 8 * 7 ^ 0
      omega
    | succ i =>
      have h2 : L.length * (dr.length - e0 (i + 1)) ≤ (8 * 7 ^ i) * 7 := Nat.mul_le_mul h.1 (by simp [e0]; omega)
      show _ ≤ 8 * 7 ^ (i + 1)
      rw [Nat.pow_succ]
      omega
  · rw [n.2 m]
    constructor
    · rintro ⟨j, s, p, h1, rfl, h3, _⟩
      exact ((h.2 s).mp (List.mem_of_getElem? h1)).snoc h3
    · intro hm
      obtain ⟨s, p, rfl, hs, g⟩ := hm.split
      obtain ⟨j, hj⟩ := List.mem_iff_getElem?.mp ((h.2 s).mpr hs)
      exact ⟨j, s, p, hj, rfl, g, .inl (List.getElem?_eq_some_iff.mp hj).1⟩
theorem AllL.few {i : Nat} {L : List (List Int)} (h : AllL dr qr i L) (hi : i ≤ 4) : L.length ≤ 2744 := by
  refine Nat.le_trans h.1 ?_
  match i, hi with
  | 0, _ => decide
  | 1, _ => decide
  | 2, _ => decide
  | 3, _ => decide
  | 4, _ => decide
end
structure TurnL (ds : List Int) (o : List Int) : Prop where
  len : o.length = ds.length
  nd : o.Nodup
  in_ : ∀ x ∈ o, ∃ p : Nat, x = (p : Int) ∧ p < ds.length
  zero : o[0]? = some 0
  up : ∀ (j : Nat) (q : Nat), 0 < j → o[j]? = some (q : Int) → ∃ (i u : Nat), i < j ∧ o[i]? = some (u : Int) ∧ Par ds u q ∧ ∀ (k r : Nat), i < k → k ≤ j → o[k]? = some (r : Int) → dg ds u < dg ds r
def trn {α : Type} (l : List α) (o : List Int) : List α := o.filterMap fun x => l[x.toNat]?
section
variable {ds o : List Int}
theorem TurnL.at_ (h : TurnL ds o) {j : Nat} (hj : j < ds.length) : ∃ q : Nat, o[j]? = some (q : Int) ∧ q < ds.length ∧ (o.getD j 0).toNat = q := by
  obtain ⟨x, hx⟩ := get_lt (l := o) (n := j) (by rw [h.len]; exact hj)
  obtain ⟨p, rfl, hp⟩ := h.in_ x (List.mem_of_getElem? hx)
  exact ⟨p, hx, hp, by rw [List.getD_eq_getElem?_getD, hx]; simp⟩
theorem TurnL.inj (h : TurnL ds o) {i j : Nat} {x : Int} (h1 : o[i]? = some x) (h2 : o[j]? = some x) : i = j := by
  have e1 := List.getElem?_eq_some_iff.mp h1
  have e2 := List.getElem?_eq_some_iff.mp h2
  obtain ⟨l1, g1⟩ := e1
  obtain ⟨l2, g2⟩ := e2
  exact (List.getElem_inj h.nd).mp (g1.trans g2.symm)
theorem TurnL.all (h : TurnL ds o) {q : Nat} (hq : q < ds.length) : ∃ j, j < ds.length ∧ o[j]? = some (q : Int) := by
  have nd2 : (o.map Int.toNat).Nodup := by
    rw [List.nodup_iff_pairwise_ne, List.pairwise_map]
    refine (List.nodup_iff_pairwise_ne.mp h.nd).imp_of_mem fun {x y} hx hy hne e => hne ?_
    obtain ⟨a, rfl, _⟩ := h.in_ x hx
    obtain ⟨b, rfl, _⟩ := h.in_ y hy
    omega
  have sub : o.map Int.toNat ⊆ List.range ds.length := fun k hk => by
    obtain ⟨x, hx, rfl⟩ := List.mem_map.mp hk
    obtain ⟨a, rfl, ha⟩ := h.in_ x hx
    simpa using ha
  have : List.range ds.length ⊆ o.map Int.toNat := by
    have hl : (o.map Int.toNat).length = (List.range ds.length).length := by simp [h.len]
    intro k hk
    refine Classical.byContradiction fun hn => ?_
    have := (List.nodup_cons.mpr ⟨hn, nd2⟩).length_le_of_subset (l₂ := List.range ds.length) fun z hz => by
      rcases List.mem_cons.mp hz with rfl | hz
      · exact hk
      · exact sub hz
    rw [List.length_cons, hl] at this
    omega
  have hm := this (List.mem_range.mpr hq)
  obtain ⟨x, hx, e⟩ := List.mem_map.mp hm
  obtain ⟨a, rfl, ha⟩ := h.in_ x hx
  have : a = q := by simpa using e
  subst this
  obtain ⟨j, hj⟩ := List.mem_iff_getElem?.mp hx
  exact ⟨j, by have := (List.getElem?_eq_some_iff.mp hj).1; rw [h.len] at this; exact this, hj⟩
theorem trn_len {α : Type} {l : List α} (h : TurnL ds o) (hl : l.length = ds.length) : (trn l o).length = ds.length := by
  unfold trn
  rw [← h.len]
  have : ∀ o' : List Int, (∀ x ∈ o', ∃ p : Nat, x = (p : Int) ∧ p < l.length) → (o'.filterMap fun x => l[x.toNat]?).length = o'.length := by
    intro o'
    induction o' with
    | nil => intro _; rfl
    | cons x o' ih =>
      intro hx
      obtain ⟨p, rfl, hp⟩ := hx x List.mem_cons_self
      rw [List.filterMap_cons_some (b := l[p]) (by rw [Int.toNat_natCast]; exact List.getElem?_eq_getElem hp), List.length_cons, List.length_cons, ih fun y hy => hx y (List.mem_cons_of_mem _ hy)]
  exact this o fun x hx => by rw [hl]; exact h.in_ x hx
theorem trn_at {α : Type} {l : List α} (h : TurnL ds o) (hl : l.length = ds.length) {j q : Nat} (hj : o[j]? = some (q : Int)) : (trn l o)[j]? = l[q]? := by
  unfold trn
  have : ∀ (o' : List Int) (j : Nat), (∀ x ∈ o', ∃ p : Nat, x = (p : Int) ∧ p < l.length) → o'[j]? = some (q : Int) → (o'.filterMap fun x => l[x.toNat]?)[j]? = l[q]? := by
    intro o'
    induction o' with
    | nil => intro j _ z; simp at z
    | cons x o' ih =>
      intro j hx hj
      obtain ⟨p, rfl, hp⟩ := hx x List.mem_cons_self
      rw [List.filterMap_cons_some (b := l[p]) (by rw [Int.toNat_natCast]; exact List.getElem?_eq_getElem hp)]
      cases j with
      | zero =>
        have : (p : Int) = q := by simpa using hj
        have : p = q := by omega
        subst this
        simp [List.getElem?_eq_getElem hp]
      | succ j => exact ih j (fun y hy => hx y (List.mem_cons_of_mem _ hy)) (by simpa using hj)
  exact this o j (fun x hx => by rw [hl]; exact h.in_ x hx) hj
theorem trn_dg (h : TurnL ds o) {j q : Nat} (hj : o[j]? = some (q : Int)) : dg (trn ds o) j = dg ds q := by
  have hq : q < ds.length := by
    obtain ⟨p, e, hp⟩ := h.in_ _ (List.mem_of_getElem? hj)
    omega
  exact dg_of (by rw [trn_at h rfl hj]; exact dg_get hq)
theorem TurnL.par1 (h : TurnL ds o) {j q : Nat} (h0 : 0 < j) (hj : o[j]? = some (q : Int)) : ∃ i u : Nat, o[i]? = some (u : Int) ∧ Par ds u q ∧ Par (trn ds o) i j := by
  have hjl : j < ds.length := by rw [← h.len]; exact (List.getElem?_eq_some_iff.mp hj).1
  obtain ⟨i, u, lt, hu, pr, bt⟩ := h.up j q h0 hj
  refine ⟨i, u, hu, pr, ⟨lt, by rw [trn_len h rfl]; exact hjl, fun k h1 h2 => ?_⟩, ?_⟩
  · obtain ⟨r, hr, _⟩ := h.at_ (j := k) (by omega)
    rw [trn_dg h hu, trn_dg h hr]
    exact bt k r h1 h2 hr
  · rw [trn_dg h hu, trn_dg h hj]
    exact pr.2
theorem TurnL.par (h : TurnL ds o) {i j u q : Nat} (hi : o[i]? = some (u : Int)) (hj : o[j]? = some (q : Int)) : Par (trn ds o) i j ↔ Par ds u q := by
  rcases Nat.eq_zero_or_pos j with c | c
  · subst c
    rw [h.zero] at hj
    have : q = 0 := by have := Option.some.inj hj; omega
    subst this
    constructor
    · intro p; have := p.1.1; omega
    · intro p; have := p.1.1; omega
  · obtain ⟨i', u', hu', p1, p2⟩ := h.par1 c hj
    constructor
    · intro p
      have := p2.only p
      subst this
      rw [hi] at hu'
      have : u = u' := by have := Option.some.inj hu'; omega
      rw [this]; exact p1
    · intro p
      have := p1.only p
      subst this
      have := h.inj hi hu'
      rw [this]; exact p2
theorem TurnL.dv (h : TurnL ds o) (hd : Dv ds) : Dv (trn ds o) := by
  refine ⟨by rw [trn_dg h h.zero (q := 0)]; exact hd.one, fun i hi => ?_⟩
  rw [trn_len h rfl] at hi
  obtain ⟨q, hq, hql, _⟩ := h.at_ hi
  obtain ⟨r, hr, hrl, _⟩ := h.at_ (j := i) (by omega)
  obtain ⟨k, u, lt, hu, pr, bt⟩ := h.up (i + 1) q (by omega) hq
  rw [trn_dg h hq, trn_dg h hr]
  have e := pr.2
  have hp := hd.pos u (par_lt pr).2.2
  refine ⟨by omega, ?_⟩
  rcases Nat.lt_or_ge k i with c | c
  · have := bt i r c (by omega) hr
    omega
  · have : k = i := by omega
    subst this
    rw [hr] at hu
    have : r = u := by have := Option.some.inj hu; omega
    subst this
    omega
theorem TurnL.an (h : TurnL ds o) (hd : Dv ds) : ∀ (j i u q : Nat), o[i]? = some (u : Int) → o[j]? = some (q : Int) → (An (trn ds o) i j ↔ An ds u q) := by
  intro j
  induction j using Nat.strongRecOn with
  | _ j ih =>
    intro i u q hi hj
    rcases Nat.eq_zero_or_pos j with c | c
    · subst c
      rw [h.zero] at hj
      have : q = 0 := by have := Option.some.inj hj; omega
      subst this
      constructor
      · intro p; have := p.1; omega
      · intro p; have := p.1; omega
    · obtain ⟨i', u', hu', p1, p2⟩ := h.par1 c hj
      rw [p2.all, p1.all, ih i' (par_lt p2).1 i u u' hi hu']
      have : i = i' ↔ u = u' := by
        constructor
        · rintro rfl
          rw [hi] at hu'
          have := Option.some.inj hu'; omega
        · rintro rfl
          exact h.inj hi hu'
      rw [this]
theorem TurnL.bn (h : TurnL ds o) (hd : Dv ds) {w : Bool} {i j u q : Nat} (hi : o[i]? = some (u : Int)) (hj : o[j]? = some (q : Int)) : Bn (trn ds o) w i j ↔ Bn ds w u q := by
  unfold Bn
  rw [h.an hd j i u q hi hj, trn_dg h hi, trn_dg h hj]
end
section
variable {dr : List (Str × Int)} {qr : List Sr} {o : List Int} {g : Nat}
end
structure TrnW (ds o l : List Int) : Prop where
  nd : (o ++ l).Nodup
  in_ : ∀ x ∈ o ++ l, ∃ p : Nat, x = (p : Int) ∧ p < ds.length
  zero : (o = [] ∧ l = [0]) ∨ o[0]? = some 0
  up : ∀ (j : Nat) (q : Nat), 0 < j → o[j]? = some (q : Int) → ∃ (i u : Nat), i < j ∧ o[i]? = some (u : Int) ∧ Par ds u q ∧ ∀ (k r : Nat), i < k → k ≤ j → o[k]? = some (r : Int) → dg ds u < dg ds r
  left : o ≠ [] → ∀ (t : Nat) (q : Nat), l[t]? = some (q : Int) → ∃ (i u : Nat), o[i]? = some (u : Int) ∧ Par ds u q ∧ (∀ (k r : Nat), i < k → o[k]? = some (r : Int) → dg ds u < dg ds r) ∧ ∀ (s r : Nat), s < t → l[s]? = some (r : Int) → dg ds u < dg ds r
  all : ∀ u k : Nat, Par ds u k → (u : Int) ∈ o → (k : Int) ∈ o ++ l
theorem TrnW.start {ds : List Int} (h : 0 < ds.length) : TrnW ds [] [0] := ⟨by simp, fun x hx => ⟨0, by simpa using hx, h⟩, .inl ⟨rfl, rfl⟩, fun j q _ z => by simp at z, fun z => absurd rfl z, fun u k _ z => nomatch z⟩
theorem TrnW.few {ds o l : List Int} (h : TrnW ds o l) : o.length + l.length ≤ ds.length := by
  have nd2 : ((o ++ l).map Int.toNat).Nodup := by
    rw [List.nodup_iff_pairwise_ne, List.pairwise_map]
    refine (List.nodup_iff_pairwise_ne.mp h.nd).imp_of_mem fun {x y} hx hy hne e => hne ?_
    obtain ⟨a, rfl, _⟩ := h.in_ x hx
    obtain ⟨b, rfl, _⟩ := h.in_ y hy
    omega
  have := nd2.length_le_of_subset (l₂ := List.range ds.length) fun k hk => by
    obtain ⟨x, hx, rfl⟩ := List.mem_map.mp hk
    obtain ⟨a, rfl, ha⟩ := h.in_ x hx
    simpa using ha
  rw [List.length_map, List.length_append, List.length_range] at this
  exact this
theorem TrnW.fin {ds o : List Int} (h : TrnW ds o []) (hd : Dv ds) (h0 : 0 < ds.length) : TurnL ds o := by
  have z0 : o[0]? = some 0 := by
    rcases h.zero with ⟨_, e⟩ | e
    · cases e
    · exact e
  have mem : ∀ k : Nat, k < ds.length → (k : Int) ∈ o := by
    intro k
    induction k using Nat.strongRecOn with
    | _ k ih =>
      intro hk
      rcases Nat.eq_zero_or_pos k with c | c
      · subst c; exact List.mem_of_getElem? z0
      · obtain ⟨u, pr, _⟩ := dv_par hd (dv_root hd hk c)
        have := h.all u k pr (ih u (par_lt pr).1 (par_lt pr).2.2)
        rwa [List.append_nil] at this
  have nd := h.nd
  rw [List.append_nil] at nd
  have hi : ∀ x ∈ o, ∃ p : Nat, x = (p : Int) ∧ p < ds.length := fun x hx => h.in_ x (by rw [List.append_nil]; exact hx)
  refine ⟨?_, nd, hi, z0, h.up⟩
  have h1 := h.few
  have h2 : ds.length ≤ o.length := by
    have nd2 : ((List.range ds.length).map fun k : Nat => (k : Int)).Nodup := by
      rw [List.nodup_iff_pairwise_ne, List.pairwise_map]
      exact (List.nodup_iff_pairwise_ne.mp List.nodup_range).imp fun {a b} hne e => hne (by omega)
    have := nd2.length_le_of_subset (l₂ := o) fun x hx => by
      obtain ⟨k, hk, rfl⟩ := List.mem_map.mp hx
      exact mem k (List.mem_range.mp hk)
    simpa using this
  simp at h1
  omega
end Va

namespace Va
open PySem PySem.Spec PyProof.Rows L2 Bg
def Trs (O : AP) (H : Hp) (O' : AP) (H' : Hp) : Prop := ∀ b u, ¬ O b → ¬ isSrc u → H b = some u → H' b = some u ∧ ¬ O' b
def Kps (as : List Addr) (H H' : Hp) : Prop := ∀ b ∈ as, ∀ u, ¬ isSrc u → H b = some u → H' b = some u
section
variable {K : PySem.W.Frag} {O O' O1 : AP} {H H' H1 : Hp}
theorem RepOL.split : ∀ {ts : List OT} {vs : List V} {as : List Addr} {i : Nat} {t : OT}, RepOL K O H vs ts as → ts[i]? = some t → ∃ (v : V) (pre ss post : List Addr), vs[i]? = some v ∧ RepO K O H v t ss ∧ as = pre ++ ss ++ post ∧
    ∀ (O' : AP) (H' : Hp) (t' : OT) (ss' : List Addr), Trs O H O' H' → Kps (pre ++ post) H H' → RepO K O' H' v t' ss' → RepOL K O' H' vs (ts.set i t') (pre ++ ss' ++ post)
  | [], _, _, _, _, _, h => nomatch h
  | d :: ds, v :: vs, _, 0, t, .cons (as := as1) (bs := bs1) r q, h => by
    cases h
    refine ⟨v, [], as1, bs1, rfl, r, rfl, fun O' H' t' ss' tr kp r' => ?_⟩
    exact .cons r' (q.tr tr fun b m => kp b (by simpa using m))
  | d :: ds, v :: vs, _, i + 1, t, .cons (as := as1) (bs := bs1) r q, h => by
    have h : ds[i]? = some t := h
    obtain ⟨w, pre, ss, post, e, k, ea, f⟩ := q.split h
    refine ⟨w, as1 ++ pre, ss, post, e, k, by rw [ea]; simp, fun O' H' t' ss' tr kp r' => ?_⟩
    have := RepOL.cons (r.tr tr fun b m => kp b (by simp [m])) (f O' H' t' ss' tr (fun b m => kp b (by
      rcases List.mem_append.mp m with m | m
      · simp [m]
      · simp [m])) r')
    simpa using this
def Foc (K : PySem.W.Frag) (O : AP) (H : Hp) (v0 : V) (as : List Addr) (v : V) (ss : List Addr) (s : OT) (f : OT → OT) : Prop :=
  RepO K O H v s ss ∧ ∃ pre post, as = pre ++ ss ++ post ∧ ∀ (O' : AP) (H' : Hp) (t' : OT) (ss' : List Addr), Trs O H O' H' → Kps (pre ++ post) H H' → RepO K O' H' v t' ss' → RepO K O' H' v0 (f t') (pre ++ ss' ++ post)
theorem Foc.ex {v0 v : V} {as ss : List Addr} {s : OT} {f : OT → OT} (h : Foc K O H v0 as v ss s f) (e : Ext No H H') : Foc K O H' v0 as v ss s f := by
  obtain ⟨r, pre, post, ea, k⟩ := h
  refine ⟨r.tr (ex_tr e) fun b _ u n q => e.keep b u (fun z => z) n q, pre, post, ea, fun O2 H2 t' ss' tr kp r' => k O2 H2 t' ss' (fun b u no ns q => tr b u no ns (e.keep b u (fun z => z) ns q)) (fun b m u ns q => kp b m u ns (e.keep b u (fun z => z) ns q)) r'⟩
theorem Foc.stepL {v0 : V} {as ss as1 : List Addr} {s : OT} {f : OT → OT} {a : Addr} {vs : List V} {ts : List OT} {o : HO} (h : Foc K O H v0 as (.ref a) ss s f) (es : ss = a :: as1) (ho : H a = some o) (ns : ¬ isSrc o)
    (rl : RepOL K O H vs ts as1) {i : Nat} {t : OT} (hi : ts[i]? = some t) (mk : OT → OT) (hm : ∀ (O' : AP) (H' : Hp) (t' : OT) (as' : List Addr), H' a = some o → RepOL K O' H' vs (ts.set i t') as' → RepO K O' H' (.ref a) (mk t') (a :: as')) :
    ∃ v ss2, vs[i]? = some v ∧ Foc K O H v0 as v ss2 t (fun t' => f (mk t')) := by
  obtain ⟨v, pre1, ss2, post1, e, r, ea1, k1⟩ := rl.split hi
  obtain ⟨_, pre, post, ea, k⟩ := h
  refine ⟨v, ss2, e, r, pre ++ a :: pre1, post1 ++ post, by rw [ea, es, ea1]; simp, fun O' H' t' ss' tr kp r' => ?_⟩
  have hl := k1 O' H' t' ss' tr (fun b m => kp b (by
    rcases List.mem_append.mp m with m | m
    · simp [m]
    · simp [m])) r'
  have ha := kp a (by simp) o ns ho
  have := k O' H' _ _ tr (fun b m => kp b (by
    rcases List.mem_append.mp m with m | m
    · simp [m]
    · simp [m])) (hm O' H' _ _ ha hl)
  simpa using this
theorem Foc.lst {v0 v : V} {as ss : List Addr} {ts : List OT} {f : OT → OT} (h : Foc K O H v0 as v ss (.lst ts) f) : ∃ a vs as1, v = .ref a ∧ ss = a :: as1 ∧ H a = some (.lst vs) ∧ RepOL K O H vs ts as1 := by
  obtain ⟨r, _⟩ := h
  cases r with
  | lst ha rl => exact ⟨_, _, _, rfl, rfl, ha, rl⟩
theorem Foc.item {v0 v : V} {as ss : List Addr} {ts : List OT} {f : OT → OT} (h : Foc K O H v0 as v ss (.lst ts) f) {i : Nat} {t : OT} (hi : ts[i]? = some t) : ∃ a vs w ss2, v = .ref a ∧ H a = some (.lst vs) ∧ vs.length = ts.length ∧ vs[i]? = some w ∧ Foc K O H v0 as w ss2 t (fun t' => f (.lst (ts.set i t'))) := by
  obtain ⟨a, vs, as1, rfl, es, ha, rl⟩ := h.lst
  obtain ⟨w, ss2, e, g⟩ := h.stepL es ha ns_lst rl hi (fun t' => .lst (ts.set i t')) fun O' H' t' as' ha' r' => .lst ha' r'
  exact ⟨a, vs, w, ss2, rfl, ha, rl.length, e, g⟩
theorem Foc.obj {v0 v : V} {as ss : List Addr} {C : Str} {gs : List (Str × OT)} {f : OT → OT} (h : Foc K O H v0 as v ss (.obj C gs) f) : ∃ a dx fs as1, v = .ref a ∧ ss = a :: as1 ∧ H a = some (.ins (He.ga K C) dx fs) ∧ fs.map (·.1) = gs.map (·.1) ∧ RepOL K O H (fs.map (·.2)) (gs.map (·.2)) as1 := by
  obtain ⟨r, _⟩ := h
  cases r with
  | obj ha e rl => exact ⟨_, _, _, _, rfl, rfl, ha, e, rl⟩
theorem set_fst {κ β : Type} {gs : List (κ × β)} {i : Nat} {n : κ} {t t' : β} (h : gs[i]? = some (n, t)) : (gs.set i (n, t')).map (·.1) = gs.map (·.1) := by
  rw [List.map_set]
  apply List.ext_getElem?
  intro j
  by_cases c : i = j
  · subst c
    rw [List.getElem?_set_self (by simp; exact (List.getElem?_eq_some_iff.mp h).1), List.getElem?_map, h]
    rfl
  · rw [List.getElem?_set_ne c]
theorem lookup_at {f : Str} : ∀ {fs : List (Str × V)} {gs : List (Str × OT)} {i : Nat} {t : OT} {v : V}, fs.map (·.1) = gs.map (·.1) → gs[i]? = some (f, t) → (∀ j, j < i → ∀ p, gs[j]? = some p → p.1 ≠ f) → (fs.map (·.2))[i]? = some v → fs.lookup f = some v
  | [], _, _, _, _, _, _, _, h => by simp at h
  | p :: fs, [], _, _, _, e, _, _, _ => nomatch e
  | (x1, x2) :: fs, (y1, y2) :: gs, 0, t, v, e, h, _, hv => by
    injection e with e1 _
    have e1 : x1 = y1 := e1
    have h : (y1, y2) = (f, t) := by simpa using h
    injection h with h1 h2
    have hv : x2 = v := by simpa using hv
    rw [List.lookup_cons, show (f == x1) = true by rw [e1, h1]; simp]
    rw [hv]
  | (x1, x2) :: fs, (y1, y2) :: gs, i + 1, t, v, e, h, hn, hv => by
    injection e with e1 e2
    have e1 : x1 = y1 := e1
    have ne : y1 ≠ f := hn 0 (by omega) (y1, y2) rfl
    rw [List.lookup_cons, show (f == x1) = false by
      rw [e1]
      exact beq_eq_false_iff_ne.mpr (Ne.symm ne)]
    exact lookup_at e2 (by simpa using h) (fun j hj p hp => hn (j + 1) (by omega) p (by simpa using hp)) (by simpa using hv)
theorem Foc.fld {v0 v : V} {as ss : List Addr} {C : Str} {gs : List (Str × OT)} {f : OT → OT} (h : Foc K O H v0 as v ss (.obj C gs) f) {i : Nat} {n : Str} {t : OT} (hi : gs[i]? = some (n, t)) (hn : ∀ j, j < i → ∀ p, gs[j]? = some p → p.1 ≠ n) :
    ∃ a dx fs w ss2, v = .ref a ∧ H a = some (.ins (He.ga K C) dx fs) ∧ fs.map (·.1) = gs.map (·.1) ∧ fs.lookup n = some w ∧ Foc K O H v0 as w ss2 t (fun t' => f (.obj C (gs.set i (n, t')))) := by
  obtain ⟨a, dx, fs, as1, rfl, es, ha, e, rl⟩ := h.obj
  obtain ⟨w, ss2, ev, g⟩ := h.stepL es ha ns_ins rl (i := i) (by rw [List.getElem?_map, hi]; rfl) (fun t' => .obj C (gs.set i (n, t'))) fun O' H' t' as' ha' r' => .obj ha' (by rw [set_fst hi]; exact e) (by rw [List.map_set]; exact r')
  exact ⟨a, dx, fs, w, ss2, rfl, ha, e, lookup_at e hi hn ev, g⟩
theorem Foc.dct {v0 v : V} {as ss : List Addr} {gs : List (Key × OT)} {f : OT → OT} (h : Foc K O H v0 as v ss (.dct gs) f) : ∃ a kvs as1, v = .ref a ∧ ss = a :: as1 ∧ H a = some (.dK kvs) ∧ ¬ isSrc (.dK kvs) ∧ kvs.map (·.1) = gs.map (·.1) ∧ RepOL K O H (kvs.map (·.2)) (gs.map (·.2)) as1 := by
  obtain ⟨r, _⟩ := h
  cases r with
  | dct ha ns e rl => exact ⟨_, _, _, rfl, rfl, ha, ns, e, rl⟩
theorem Foc.val {v0 v : V} {as ss : List Addr} {gs : List (Key × OT)} {f : OT → OT} (h : Foc K O H v0 as v ss (.dct gs) f) {i : Nat} {n : Key} {t : OT} (hi : gs[i]? = some (n, t)) :
    ∃ a kvs w ss2, v = .ref a ∧ H a = some (.dK kvs) ∧ kvs.map (·.1) = gs.map (·.1) ∧ (kvs.map (·.2))[i]? = some w ∧ Foc K O H v0 as w ss2 t (fun t' => f (.dct (gs.set i (n, t')))) := by
  obtain ⟨a, kvs, as1, rfl, es, ha, ns, e, rl⟩ := h.dct
  obtain ⟨w, ss2, ev, g⟩ := h.stepL es ha ns rl (i := i) (by rw [List.getElem?_map, hi]; rfl) (fun t' => .dct (gs.set i (n, t'))) fun O' H' t' as' ha' r' => .dct ha' ns (by rw [set_fst hi]; exact e) (by rw [List.map_set]; exact r')
  exact ⟨a, kvs, w, ss2, rfl, ha, e, ev, g⟩
end
def OwnK (mk : OT → Sl) : Prop := mk = .od ∨ ∃ v, mk = .mo v
section
variable {K : PySem.W.Frag} {EX : L2.St → XK} {ρ : List Sl} {B : Bs} {O O' O1 : AP} {H H' H1 : Hp} {σ : L2.St}
theorem OwnK.at_ {mk : OT → Sl} (hk : OwnK mk) {x : Option (Option V)} {T : OT} (h : SlOk K B O H x (mk T)) : ∃ v as, x = some (some v) ∧ RepO K O H v T as ∧ as.Nodup ∧ (∀ b ∈ as, O b ∧ B.F b = none ∧ (B.A b ∨ B.H b = none)) ∧ Own K H x (mk T) as ∧
    (∀ (O' : AP) (H' : Hp) (T' : OT) (as' : List Addr), RepO K O' H' v T' as' → as'.Nodup → (∀ b ∈ as', O' b ∧ B.F b = none ∧ (B.A b ∨ B.H b = none)) → SlOk K B O' H' x (mk T')) ∧
    (∀ (H' : Hp) (T' : OT) (as' : List Addr), Own K H' x (mk T') as' → ∃ O', RepO K O' H' v T' as') := by
  rcases hk with rfl | ⟨v, rfl⟩
  · obtain ⟨v, as, e, r, nd, k⟩ := h
    refine ⟨v, as, e, r, nd, k, ⟨v, O, e, r⟩, fun O' H' T' as' r' nd' k' => ⟨v, as', e, r', nd', k'⟩, fun H' T' as' w => ?_⟩
    obtain ⟨v', O', e', r'⟩ := w
    rw [e] at e'; cases e'
    exact ⟨O', r'⟩
  · obtain ⟨e, as, r, nd, k⟩ := h
    exact ⟨v, as, e, r, nd, k, ⟨e, O, r⟩, fun O' H' T' as' r' nd' k' => ⟨e, as', r', nd', k'⟩, fun H' T' as' w => w.2⟩
end
section
variable {K : PySem.W.Frag} {EX : L2.St → XK} {ρ : List Sl} {α β γ τ R : Type} {F : Fr R} {B : Bs} {O O' : AP} {H H' : Hp} {σ : L2.St}
def FocW (K : PySem.W.Frag) (O : AP) (H : Hp) (σ : L2.St) (i : Nat) (x0 : τ) (v : V) (os : α → OT) (oe : τ → OT) (a : α) (g : α → τ) : Prop :=
  g a = x0 ∧ ∀ v0 as, σ[i]? = some (some v0) → RepO K O H v0 (oe x0) as → ∃ ss f, Foc K O H v0 as v ss (os a) f ∧ ∀ a', f (os a') = oe (g a')
theorem FocW.ex {i : Nat} {x0 : τ} {v : V} {os : α → OT} {oe : τ → OT} {a : α} {g : α → τ} {v0 : V} {as : List Addr} (hv : σ[i]? = some (some v0)) (r : RepO K O H v0 (oe x0) as) (h : FocW K O H σ i x0 v os oe a g) (e : Ext No H H') : FocW K O H' σ i x0 v os oe a g := ⟨h.1, fun v1 as1 e1 r1 => by
  rw [hv] at e1
  cases e1
  obtain ⟨ss, f, h1, h2⟩ := h.2 v0 as hv r
  have r2 := r.tr (ex_tr e) (fun b _ u n q => e.keep b u (fun z => z) n q)
  cases r2.det r1
  exact ⟨ss, f, h1.ex e, h2⟩⟩
theorem FocW.at_ {mk : OT → Sl} (hk : OwnK mk) {i : Nat} {oe : τ → OT} {x0 : τ} {os : α → OT} {a : α} {g : α → τ} {v : V} (E : En K B O H σ ρ) (h : ρ[i]? = some (mk (oe x0))) (fo : FocW K O H σ i x0 v os oe a g) : ∃ ss, RepO K O H v (os a) ss ∧ ss.Nodup ∧ ∀ b ∈ ss, O b := by
  obtain ⟨v0, as, hv, r, nd, kA, _⟩ := hk.at_ (E.at_ i _ h)
  obtain ⟨ss, f, fc, hf⟩ := fo.2 v0 as hv r
  obtain ⟨pre, post, ea, _⟩ := fc.2
  refine ⟨ss, fc.1, ?_, fun b m => (kA b (by rw [ea]; simp [m])).1⟩
  rw [ea] at nd
  exact (List.nodup_append.mp (List.nodup_append.mp nd).1).2.1
theorem FocW.ext {mk : OT → Sl} (hk : OwnK mk) {i : Nat} {oe : τ → OT} {x0 : τ} {os : α → OT} {a : α} {g : α → τ} {v : V} (E : En K B O H σ ρ) (h : ρ[i]? = some (mk (oe x0))) (fo : FocW K O H σ i x0 v os oe a g) (e : Ext No H H') : FocW K O H' σ i x0 v os oe a g := by
  obtain ⟨v0, as, hv, r, _⟩ := hk.at_ (E.at_ i _ h)
  exact fo.ex hv r e
def nsH (ns : List Addr) : Hp := fun b => if b ∈ ns then none else some (.own 0)
def rrM (K : PySem.W.Frag) (v : V) (oe : τ → OT) (res : Res β) : Res (τ × β) := fun O F H' v' p => ∃ as' ns, RepO K (fun b => O b ∨ b ∈ as' ∨ b ∈ ns) H' v (oe p.1) as' ∧ as'.Nodup ∧ (∀ b ∈ as', F b = none) ∧ (∀ b ∈ ns, F b = none ∧ H' b ≠ none ∧ b ∉ as') ∧ res (fun b => O b ∨ b ∈ as' ∨ b ∈ ns) (nsH ns) H' v' p.2
def fnFrM (K : PySem.W.Frag) (v : V) (oe : τ → OT) (res : Res β) (ρx : List Sl) : Fr (τ × β) := ⟨⟨Empty, fun _ => [], fun e => e.elim⟩, ⟨Empty, fun _ => [], fun e => e.elim⟩, ⟨Empty, fun _ => [], fun e => e.elim⟩, τ × β, rrM K v oe res, fun r => pure r, ρx⟩
def fnFrMN (K : PySem.W.Frag) (v : V) (oe : τ → OT) (n : Nat) (ρx : List Sl) : Fr (τ × Unit) := ⟨⟨τ, fun y => .mo v (oe y) :: List.replicate n .no, fun y => pure (y, ())⟩, ⟨Empty, fun _ => [], fun e => e.elim⟩, ⟨Empty, fun _ => [], fun e => e.elim⟩, τ × Unit, rrM K v oe (resE K eU), fun r => pure r, ρx⟩
end
end Va

namespace Va
open PySem PySem.Spec PyProof.Rows L2 Bg
section
variable {K : PySem.W.Frag} {EX : L2.St → XK} {ρ : List Sl} {α β γ τ R : Type} {F : Fr R} {B : Bs} {O O' : AP} {H H' : Hp} {σ : L2.St}
theorem fnM_kr {v : V} {oe : τ → OT} {res : Res β} {ρx : List Sl} (r : τ × β) : (fnFrM K v oe res ρx).kr r = (pure r : M (τ × β)) := rfl
theorem fnM_bd {v : V} {oe : τ → OT} {res : Res β} {ρx : List Sl} (m : M (τ × β)) : (m >>= (fnFrM K v oe res ρx).kr) = m := rfl
theorem fnM_fn {v : V} {oe : τ → OT} {res : Res β} {ρx : List Sl} (y : τ) : (fun a => (fnFrM K v oe res ρx).kr (y, a)) = fun a => (pure (y, a) : M (τ × β)) := rfl
theorem fnMN_kr {v : V} {oe : τ → OT} {n : Nat} {ρx : List Sl} (r : τ × Unit) : (fnFrMN K v oe n ρx).kr r = (pure r : M (τ × Unit)) := rfl
theorem fnMN_nx {v : V} {oe : τ → OT} {n : Nat} {ρx : List Sl} (y : τ) : (fnFrMN K v oe n ρx).nx.k y = (pure (y, ()) : M (τ × Unit)) := rfl
end
end Va

namespace Va
open PySem PySem.Spec PyProof.Rows L2 Bg
section
variable {K : PySem.W.Frag} {EX : L2.St → XK} {ρ : List Sl} {α β γ τ R : Type} {F : Fr R} {B : Bs} {O O' : AP} {H H' : Hp} {σ : L2.St}
end
abbrev Ru := Str × Str × Str
structure RuOk (rows : List Ru) : Prop where
  most : rows.length ≤ 6
  fst : ∀ r ∈ rows, labelB r.1 = true
  way : ∀ r ∈ rows, r.2.1 = "/" ∨ r.2.1 = "//"
  lst : ∀ r ∈ rows, labelB r.2.2 = true
  nd : rows.Nodup
  rank : ∃ rk : Str → Nat, ∀ r ∈ rows, rk r.1 < rk r.2.2
structure RuT where
  rows : List Ru
  ok : RuOk rows
end Va

namespace Va
open PySem PySem.Spec PyProof.Rows L2 Bg
section
variable {rows : List Ru} {rk : Str → Nat}
def cntR (rk : Str → Nat) (rows : List Ru) (x : Str) : Nat := (rows.filter fun r => decide (rk x ≤ rk r.1)).length
theorem cntR_le {x : Str} : cntR rk rows x ≤ rows.length := List.length_filter_le _ _
theorem cntR_lt (h : ∀ r ∈ rows, rk r.1 < rk r.2.2) {r : Ru} (hr : r ∈ rows) : cntR rk rows r.2.2 < cntR rk rows r.1 := by
  unfold cntR
  have lt := h r hr
  have key : ∀ l : List Ru, r ∈ l → (l.filter fun r' => decide (rk r.2.2 ≤ rk r'.1)).length < (l.filter fun r' => decide (rk r.1 ≤ rk r'.1)).length := by
    intro l
    induction l with
    | nil => intro z; cases z
    | cons a l ih =>
      intro hm
      have mono : (l.filter fun r' => decide (rk r.2.2 ≤ rk r'.1)).length ≤ (l.filter fun r' => decide (rk r.1 ≤ rk r'.1)).length := by
        clear ih hm
        induction l with
        | nil => simp
        | cons b l ih =>
          by_cases c1 : rk r.2.2 ≤ rk b.1
          · rw [List.filter_cons_of_pos (by simpa using c1), List.filter_cons_of_pos (by simp; omega), List.length_cons, List.length_cons]; omega
          · rw [List.filter_cons_of_neg (by simpa using c1)]
            by_cases c2 : rk r.1 ≤ rk b.1
            · rw [List.filter_cons_of_pos (by simpa using c2), List.length_cons]; omega
            · rw [List.filter_cons_of_neg (by simpa using c2)]; exact ih
      by_cases e : a = r
      · subst e
        rw [List.filter_cons_of_neg (by simp; omega), List.filter_cons_of_pos (by simp), List.length_cons]
        omega
      · have hm' := (List.mem_cons.mp hm).resolve_left (Ne.symm e)
        have := ih hm'
        by_cases c1 : rk r.2.2 ≤ rk a.1
        · rw [List.filter_cons_of_pos (by simpa using c1), List.filter_cons_of_pos (by simp; omega), List.length_cons, List.length_cons]; omega
        · rw [List.filter_cons_of_neg (by simpa using c1)]
          by_cases c2 : rk r.1 ≤ rk a.1
          · rw [List.filter_cons_of_pos (by simpa using c2), List.length_cons]; omega
          · rw [List.filter_cons_of_neg (by simpa using c2)]; exact this
  exact key rows hr
structure WyOk (rk : Str → Nat) (rows : List Ru) (start : Str) (ws : List (List Str)) : Prop where
  ne : ∀ w ∈ ws, w ≠ []
  up : ∀ w ∈ ws, rk start ≤ rk (w.getLastD "")
  len : ∀ w ∈ ws, w.length + cntR rk rows (w.getLastD "") ≤ 7
theorem WyOk.start {start : Str} (h : rows.length ≤ 6) : WyOk rk rows start [[start]] := by
  have := cntR_le (rk := rk) (rows := rows) (x := start)
  refine ⟨fun w hw => ?_, fun w hw => ?_, fun w hw => ?_⟩
  · rw [List.mem_singleton.mp hw]; simp
  · rw [List.mem_singleton.mp hw]; exact Nat.le_refl _
  · rw [List.mem_singleton.mp hw]
    show 1 + cntR rk rows start ≤ 7
    omega
theorem getLastD_snoc (w : List Str) (x : Str) : (w ++ [x]).getLastD "" = x := by simp
theorem WyOk.app {start : Str} {ws : List (List Str)} {w : List Str} {r : Ru} (h : WyOk rk rows start ws) (hrk : ∀ r ∈ rows, rk r.1 < rk r.2.2) (hr : r ∈ rows) (e : r.1 = w.getLastD "") (hu : rk start ≤ rk (w.getLastD "")) (hl : w.length + cntR rk rows (w.getLastD "") ≤ 7) : WyOk rk rows start (ws ++ [w ++ [r.2.2]]) := by
  have lt := hrk r hr
  have cl := cntR_lt hrk hr
  refine ⟨fun v hv => ?_, fun v hv => ?_, fun v hv => ?_⟩
  · rcases List.mem_append.mp hv with z | z
    · exact h.ne v z
    · rw [List.mem_singleton.mp z]; simp
  · rcases List.mem_append.mp hv with z | z
    · exact h.up v z
    · rw [List.mem_singleton.mp z, getLastD_snoc]
      rw [← e] at hu; omega
  · rcases List.mem_append.mp hv with z | z
    · exact h.len v z
    · rw [List.mem_singleton.mp z, getLastD_snoc, List.length_append, List.length_singleton]
      rw [← e] at hl; omega
end
def Lk (dr : List (Str × Int)) (r : Ru) (p : Nat) : Prop := ∃ d, dr[p]? = some d ∧ d.1 = r.1 ∧ ¬ ∃ k e, Bn (dps dr) (wB r.2.1) p k ∧ dr[k]? = some e ∧ e.1 = r.2.2
def BrO (dr : List (Str × Int)) (rs : List Ru) : Option (Int × Int) → Prop
  | none => ∀ (p n : Nat) (r : Ru), rs[n]? = some r → ¬ Lk dr r p
  | some (x, y) => ∃ (p n : Nat) (r : Ru), x = (p : Int) ∧ y = (n : Int) ∧ rs[n]? = some r ∧ Lk dr r p ∧ (∀ q, q < p → ∀ (m : Nat) (r : Ru), rs[m]? = some r → ¬ Lk dr r q) ∧ ∀ m, m < n → ∀ r, rs[m]? = some r → ¬ Lk dr r p
theorem BrO.only {dr : List (Str × Int)} {rs : List Ru} : ∀ {o o' : Option (Int × Int)}, BrO dr rs o → BrO dr rs o' → o = o'
  | none, none, _, _ => rfl
  | none, some (x, y), h, ⟨p, n, r, _, _, h1, h2, _⟩ => absurd h2 (h p n r h1)
  | some (x, y), none, ⟨p, n, r, _, _, h1, h2, _⟩, h => absurd h2 (h p n r h1)
  | some (x, y), some (x', y'), ⟨p, n, r, e1, e2, h1, h2, h3, h4⟩, ⟨p', n', r', e1', e2', h1', h2', h3', h4'⟩ => by
    have ep : p = p' := by
      rcases Nat.lt_trichotomy p p' with c | c | c
      · exact absurd h2 (h3' p c n r h1)
      · exact c
      · exact absurd h2' (h3 p' c n' r' h1')
    subst ep
    have en : n = n' := by
      rcases Nat.lt_trichotomy n n' with c | c | c
      · exact absurd h2 (h4' n c r h1)
      · exact c
      · exact absurd h2' (h4 n' c r' h1')
    subst en
    rw [e1, e2, e1', e2']
end Va

namespace Va
open PySem PySem.Spec PyProof.Rows L2 Bg
abbrev Dr := Str × Int
def WitR (r : Ru) (L : List Dr) (i : Nat) (e : Int) : Prop := ∃ j, i < j ∧ (∀ k y, i < k → k ≤ j → L[k]? = some y → e < y.2) ∧ ∃ y, L[j]? = some y ∧ y.1 = r.2.2 ∧ (r.2.1 = "/" → y.2 = e + 1)
def KpAt (rs : List Ru) (L : List Dr) (i : Nat) : Prop := ∀ x e, L[i]? = some (x, e) → ∀ r ∈ rs, r.1 = x → WitR r L i e
def KpL (rs : List Ru) (L : List Dr) : Prop := ∀ i, KpAt rs L i
def AskC (rs : List Ru) (x : Str) (d : Int) (L : List Dr) : Prop := ∀ r ∈ rs, r.1 = x → ∃ (j : Nat) (y : Dr), L[j]? = some y ∧ y.1 = r.2.2 ∧ (r.2.1 = "/" → y.2 = d)
theorem WitR.app {r : Ru} {L M : List Dr} {i : Nat} {e : Int} (h : WitR r L i e) : WitR r (L ++ M) i e := by
  obtain ⟨j, lt, bt, y, hy, h1, h2⟩ := h
  have hl := (List.getElem?_eq_some_iff.mp hy).1
  exact ⟨j, lt, fun k y a b hk => bt k y a b (by rw [List.getElem?_append_left (by omega)] at hk; exact hk), y, by rw [List.getElem?_append_left hl]; exact hy, h1, h2⟩
theorem WitR.behind {r : Ru} {L M : List Dr} {i : Nat} {e : Int} (h : WitR r M i e) : WitR r (L ++ M) (L.length + i) e := by
  obtain ⟨j, lt, bt, y, hy, h1, h2⟩ := h
  refine ⟨L.length + j, by omega, fun k y a b hk => bt (k - L.length) y (by omega) (by omega) (by rw [List.getElem?_append_right (by omega)] at hk; exact hk), y, by rw [List.getElem?_append_right (by omega), Nat.add_sub_cancel_left]; exact hy, h1, h2⟩
theorem KpAt.app {rs : List Ru} {L M : List Dr} {i : Nat} (h : KpAt rs L i) (hi : i < L.length) : KpAt rs (L ++ M) i := fun x e hx r hr er => by
  rw [List.getElem?_append_left hi] at hx
  exact (h x e hx r hr er).app
theorem KpAt.behind {rs : List Ru} {L M : List Dr} {i : Nat} (h : KpAt rs M i) : KpAt rs (L ++ M) (L.length + i) := fun x e hx r hr er => by
  rw [List.getElem?_append_right (by omega), Nat.add_sub_cancel_left] at hx
  exact (h x e hx r hr er).behind
theorem KpL.app {rs : List Ru} {L M : List Dr} (h : KpL rs L) (g : KpL rs M) : KpL rs (L ++ M) := fun i => by
  rcases Nat.lt_or_ge i L.length with c | c
  · exact (h i).app c
  · have := (g (i - L.length)).behind (L := L)
    rwa [show L.length + (i - L.length) = i by omega] at this
theorem kpl_tree {rs : List Ru} {x : Str} {e : Int} {L : List Dr} (h : KpL rs L) (hd : ∀ y ∈ L, e < y.2) (ha : AskC rs x (e + 1) L) : KpL rs ((x, e) :: L) := fun i => by
  cases i with
  | zero =>
    intro x' e' hx r hr er
    have hx : (x, e) = (x', e') := by simpa using hx
    injection hx with h1 h2
    subst h1 h2
    obtain ⟨j, y, hy, e1, e2⟩ := ha r hr er
    refine ⟨j + 1, by omega, fun k y' a b hk => ?_, y, by rw [List.getElem?_cons_succ]; exact hy, e1, e2⟩
    obtain ⟨k, rfl⟩ : ∃ k', k = k' + 1 := ⟨k - 1, by omega⟩
    rw [List.getElem?_cons_succ] at hk
    exact hd y' (List.mem_of_getElem? hk)
  | succ i =>
    have := (h i).behind (L := [(x, e)])
    rw [List.length_singleton, Nat.add_comm] at this
    exact this
structure AskL (rs : List Ru) (rk : Str → Nat) (x : Str) (d : Int) (L : List Dr) : Prop where
  ge : ∀ y ∈ L, d ≤ y.2
  le : ∀ y ∈ L, y.2 ≤ d + 2 * cntR rk rs x - 1
  lab : ∀ y ∈ L, y.1 = "zzzzzzzz" ∨ ∃ r ∈ rs, y.1 = r.2.2
  ch : 2 ≤ d → Ch (d - 1) (dps L)
  kp : (∀ r ∈ rs, r.1 ≠ "zzzzzzzz") → KpL rs L ∧ AskC rs x d L
def bT : Nat → Nat
  | 0 => 0
  | n + 1 => (n + 1) * (2 + bT n)
theorem bT_mono : ∀ {n m : Nat}, n ≤ m → bT n ≤ bT m := by
  intro n m h
  induction m with
  | zero => rw [Nat.le_zero.mp h]; exact Nat.le_refl _
  | succ m ih =>
    rcases Nat.lt_or_ge n (m + 1) with c | c
    · have := ih (by omega)
      show _ ≤ (m + 1) * (2 + bT m)
      have h2 : 1 * (2 + bT m) ≤ (m + 1) * (2 + bT m) := Nat.mul_le_mul_right _ (by omega)
      omega
    · rw [show n = m + 1 by omega]; exact Nat.le_refl _
structure AskP (rs : List Ru) (rk : Str → Nat) (x : Str) (d : Int) (i : Nat) (L : List Dr) : Prop where
  ge : ∀ y ∈ L, d ≤ y.2
  le : ∀ y ∈ L, y.2 ≤ d + 2 * cntR rk rs x - 1
  lab : ∀ y ∈ L, y.1 = "zzzzzzzz" ∨ ∃ r ∈ rs, y.1 = r.2.2
  ch : 2 ≤ d → Ch (d - 1) (dps L)
  kp : (∀ r ∈ rs, r.1 ≠ "zzzzzzzz") → KpL rs L ∧ AskC (rs.take i) x d L
  few : L.length ≤ ((rs.take i).filter fun r => decide (r.1 = x)).length * (2 + bT (cntR rk rs x - 1))
section
variable {rs : List Ru} {rk : Str → Nat} {x : Str} {d : Int}
theorem AskP.nil : AskP rs rk x d 0 [] := ⟨fun y h => (nomatch h), fun y h => (nomatch h), fun y h => (nomatch h), fun _ => trivial, fun _ => ⟨fun i x e h => (by simp at h), fun r h => (by simp at h)⟩, by simp⟩
theorem dps_app (L M : List Dr) : dps (L ++ M) = dps L ++ dps M := by unfold dps; rw [List.map_append]
theorem AskC.mono {x : Str} {d : Int} {rs : List Ru} {L M : List Dr} (h : AskC rs x d L) : AskC rs x d (L ++ M) := fun r hr er => by
  obtain ⟨j, y, hy, e1, e2⟩ := h r hr er
  exact ⟨j, y, by rw [List.getElem?_append_left (List.getElem?_eq_some_iff.mp hy).1]; exact hy, e1, e2⟩
theorem AskP.put {i : Nat} {L A T : List Dr} {r : Ru} (h : AskP rs rk x d i L) (hrk : ∀ r ∈ rs, rk r.1 < rk r.2.2) (hr : rs[i]? = some r) (e : r.1 = x) {m : Int} (hm : (r.2.1 = "//" → m = d + 1) ∧ (r.2.1 ≠ "//" → m = d)) (hA : AskL rs rk r.2.2 (m + 1) A) (hAl : A.length ≤ bT (cntR rk rs r.2.2))
    (hT : T = ((if r.2.1 = "//" then [(("zzzzzzzz" : Str), d)] else []) : List Dr) ++ ((r.2.2, m) :: A)) (hw : r.2.1 = "/" ∨ r.2.1 = "//") : AskP rs rk x d (i + 1) (L ++ T) := by
  have et : rs.take (i + 1) = rs.take i ++ [r] := by rw [List.take_succ, hr]; rfl
  have mr := List.mem_of_getElem? hr
  have cl := cntR_lt hrk mr
  rw [e] at cl
  have md : d ≤ m ∧ m ≤ d + 1 := by
    by_cases c : r.2.1 = "//"
    · rw [hm.1 c]; omega
    · rw [hm.2 c]; omega
  have memT : ∀ y ∈ T, (y = (("zzzzzzzz" : Str), d) ∧ r.2.1 = "//") ∨ y = (r.2.2, m) ∨ y ∈ A := fun y hy => by
    rw [hT] at hy
    rcases List.mem_append.mp hy with z | z
    · by_cases c : r.2.1 = "//"
      · rw [if_pos c] at z; exact .inl ⟨List.mem_singleton.mp z, c⟩
      · rw [if_neg c] at z; cases z
    · exact .inr (List.mem_cons.mp z)
  have geT : ∀ y ∈ T, d ≤ y.2 := fun y hy => by
    rcases memT y hy with ⟨z, _⟩ | z | z
    · rw [z]; exact Int.le_refl _
    · rw [z]; exact md.1
    · have := hA.ge y z; omega
  refine ⟨fun y hy => ?_, fun y hy => ?_, fun y hy => ?_, fun h2 => ?_, fun hz => ⟨?_, ?_⟩, ?_⟩
  · rcases List.mem_append.mp hy with z | z
    · exact h.ge y z
    · exact geT y z
  · rcases List.mem_append.mp hy with z | z
    · exact h.le y z
    · rcases memT y z with ⟨z, _⟩ | z | z
      · rw [z]; show d ≤ _; omega
      · rw [z]; show m ≤ _; omega
      · have := hA.le y z; omega
  · rcases List.mem_append.mp hy with z | z
    · exact h.lab y z
    · rcases memT y z with ⟨z, _⟩ | z | z
      · rw [z]; exact .inl rfl
      · rw [z]; exact .inr ⟨r, mr, rfl⟩
      · exact hA.lab y z
  · rw [dps_app, Ch.app]
    refine ⟨h.ch h2, ?_⟩
    have cA := hA.ch (by omega)
    rw [show m + 1 - 1 = m by omega] at cA
    have hl : d - 1 ≤ lastD (d - 1) (dps L) := lastD_ge (Int.le_refl _) fun z hz => by
      unfold dps at hz
      obtain ⟨y, hy, rfl⟩ := List.mem_map.mp hz
      have := h.ge y hy; omega
    rw [hT, dps_app]
    by_cases c : r.2.1 = "//"
    · rw [if_pos c, hm.1 c]
      rw [hm.1 c] at cA
      exact ⟨h2, by show d ≤ _; omega, by show (2 : Int) ≤ d + 1; omega, Int.le_refl _, cA⟩
    · rw [if_neg c, hm.2 c]
      rw [hm.2 c] at cA
      exact ⟨h2, by show d ≤ _; omega, cA⟩
  · refine (h.kp hz).1.app ?_
    have hk := hA.kp hz
    have t1 : KpL rs ((r.2.2, m) :: A) := kpl_tree hk.1 (fun y hy => by have := hA.ge y hy; omega) hk.2
    rw [hT]
    by_cases c : r.2.1 = "//"
    · rw [if_pos c]
      show KpL rs ((("zzzzzzzz" : Str), d) :: ((r.2.2, m) :: A))
      refine kpl_tree t1 (fun y hy => ?_) fun r' hr' er => absurd er (hz r' hr')
      rcases List.mem_cons.mp hy with z | z
      · rw [z, hm.1 c]; show d < d + 1; omega
      · have := hA.ge y z; rw [hm.1 c] at this; omega
    · rw [if_neg c]; exact t1
  · intro r' hr' er
    rw [et] at hr'
    rcases List.mem_append.mp hr' with z | z
    · exact ((h.kp hz).2.mono) r' z er
    · rw [List.mem_singleton.mp z] at er ⊢
      by_cases c : r.2.1 = "//"
      · refine ⟨L.length + 1, (r.2.2, m), ?_, rfl, fun z => by rw [c] at z; exact absurd z (by decide)⟩
        rw [List.getElem?_append_right (by omega), hT, if_pos c, show L.length + 1 - L.length = 1 by omega]
        rfl
      · refine ⟨L.length, (r.2.2, m), ?_, rfl, fun _ => hm.2 c⟩
        rw [List.getElem?_append_right (by omega), hT, if_neg c, Nat.sub_self]
        rfl
  · rw [et, List.filter_append, List.length_append, List.length_append]
    have h1 : ([r].filter fun r => decide (r.1 = x)).length = 1 := by simp [e]
    rw [h1, Nat.add_mul, Nat.one_mul]
    have h2 := h.few
    have h3 : T.length ≤ 2 + A.length := by
      rw [hT, List.length_append, List.length_cons]
      by_cases c : r.2.1 = "//"
      · rw [if_pos c, List.length_singleton]; omega
      · rw [if_neg c, List.length_nil]; omega
    have h4 : bT (cntR rk rs r.2.2) ≤ bT (cntR rk rs x - 1) := bT_mono (by omega)
    omega
theorem AskP.fin {L : List Dr} (h : AskP rs rk x d rs.length L) : AskL rs rk x d L ∧ L.length ≤ bT (cntR rk rs x) := by
  have e : rs.take rs.length = rs := List.take_length
  refine ⟨⟨h.ge, h.le, h.lab, h.ch, fun hz => by have := h.kp hz; rwa [e] at this⟩, ?_⟩
  have hf := h.few
  rw [e] at hf
  have hc : (rs.filter fun r => decide (r.1 = x)).length ≤ cntR rk rs x := by
    unfold cntR
    clear hf h
    induction rs with
    | nil => simp
    | cons r rs ih =>
      have ih := ih (by simp)
      by_cases c : r.1 = x
      · rw [List.filter_cons_of_pos (by simpa using c), List.filter_cons_of_pos (by simp [c]), List.length_cons, List.length_cons]; omega
      · rw [List.filter_cons_of_neg (by simpa using c)]
        by_cases c2 : rk x ≤ rk r.1
        · rw [List.filter_cons_of_pos (by simpa using c2), List.length_cons]; omega
        · rw [List.filter_cons_of_neg (by simpa using c2)]; exact ih
  cases q : cntR rk rs x with
  | zero =>
    rw [q] at hf hc
    rw [Nat.le_zero.mp hc, Nat.zero_mul] at hf
    exact hf
  | succ n =>
    rw [q] at hf hc
    refine Nat.le_trans hf ?_
    show _ ≤ (n + 1) * (2 + bT n)
    exact Nat.mul_le_mul_right _ hc
end
structure FilW (rs : List Ru) (L : List Dr) (ln : List Str) : Prop where
  -- the open parts, by their depths
  op : ∃ os : List Nat, os.length = ln.length ∧ (∀ (k o : Nat), os[k]? = some o → ∃ x, ln[k]? = some x ∧ L[o]? = some (x, (k : Int) + 1) ∧ ∀ j y, o < j → L[j]? = some y → (k : Int) + 1 < y.2) ∧
    ((∀ r ∈ rs, r.1 ≠ "zzzzzzzz") → ∀ i, i ∉ os → KpAt rs L i)
  dv : (L = [] ∧ ln = []) ∨ (Dv (dps L) ∧ (ln.length : Int) ≤ dg (dps L) (L.length - 1))
theorem FilW.nil {rs : List Ru} : FilW rs [] [] := ⟨⟨[], rfl, fun k o h => by simp at h, fun _ i _ x e h => by simp at h⟩, .inl ⟨rfl, rfl⟩⟩
theorem dv_snocs {A B : List Int} (h : Dv A) (hB : Ch (dg A (A.length - 1)) B) : Dv (A ++ B) := by
  cases A with
  | nil => exact absurd rfl (Va.Dv.ne h)
  | cons a A =>
    rw [List.cons_append]
    rw [dv_cons] at h ⊢
    refine ⟨h.1, Ch.app.mpr ⟨h.2, ?_⟩⟩
    have e : dg (a :: A) ((a :: A).length - 1) = lastD a A := by
      clear hB h
      induction A generalizing a with
      | nil => rfl
      | cons b A ih =>
        show dg (a :: b :: A) (A.length + 1) = lastD b A
        have := ih b
        show dg (b :: A) A.length = _
        exact this
    rw [e, h.1] at hB
    exact hB
theorem FilW.put {rs : List Ru} {L : List Dr} {ln : List Str} {x : Str} (h : FilW rs L ln) (h2 : L = [] ∨ ln ≠ []) : FilW rs (L ++ [(x, (ln.length : Int) + 1)]) (ln ++ [x]) := by
  obtain ⟨os, hl, ho, hk⟩ := h.op
  refine ⟨⟨os ++ [L.length], by simp [hl], fun k o hk' => ?_, fun hz i hi => ?_⟩, .inr ?_⟩
  · rcases Nat.lt_or_ge k os.length with c | c
    · rw [List.getElem?_append_left c] at hk'
      obtain ⟨y, hy, hLy, hb⟩ := ho k o hk'
      refine ⟨y, by rw [List.getElem?_append_left (by omega)]; exact hy, by rw [List.getElem?_append_left (List.getElem?_eq_some_iff.mp hLy).1]; exact hLy, fun j z hj hz => ?_⟩
      rcases Nat.lt_or_ge j L.length with d | d
      · rw [List.getElem?_append_left d] at hz
        exact hb j z hj hz
      · have hjl := (List.getElem?_eq_some_iff.mp hz).1
        simp at hjl
        have : j = L.length := by omega
        subst this
        rw [List.getElem?_append_right (Nat.le_refl _), Nat.sub_self] at hz
        have hz := Option.some.inj hz
        rw [← hz]
        show (k : Int) + 1 < (ln.length : Int) + 1
        omega
    · have hkl := (List.getElem?_eq_some_iff.mp hk').1
      simp at hkl
      have ek : k = os.length := by omega
      subst ek
      rw [List.getElem?_append_right (Nat.le_refl _), Nat.sub_self] at hk'
      have eo : L.length = o := Option.some.inj hk'
      subst eo
      refine ⟨x, by rw [List.getElem?_append_right (by omega), hl, Nat.sub_self]; rfl, by rw [List.getElem?_append_right (Nat.le_refl _), Nat.sub_self, hl]; rfl, fun j z hj hz => ?_⟩
      have := (List.getElem?_eq_some_iff.mp hz).1
      simp at this
      omega
  · have n1 : i ∉ os := fun m => hi (List.mem_append_left _ m)
    rcases Nat.lt_or_ge i L.length with d | d
    · exact (hk hz i n1).app d
    · intro y e hy
      have := (List.getElem?_eq_some_iff.mp hy).1
      simp at this
      have : i = L.length := by omega
      exact absurd (List.mem_append_right _ (List.mem_singleton.mpr this)) hi
  · have hlast : dg (dps (L ++ [(x, (ln.length : Int) + 1)])) ((L ++ [(x, (ln.length : Int) + 1)]).length - 1) = (ln.length : Int) + 1 := by
      refine dps_at (r := (x, (ln.length : Int) + 1)) ?_
      rw [List.length_append, List.length_singleton, Nat.add_sub_cancel, List.getElem?_append_right (Nat.le_refl _), Nat.sub_self]
      rfl
    rw [hlast]
    refine ⟨?_, by simp⟩
    rcases h.dv with ⟨e1, e2⟩ | ⟨dv, hd⟩
    · rw [e1, e2]
      exact dv_cons.mpr ⟨rfl, trivial⟩
    · rw [dps_app]
      have n0 : ln ≠ [] := by
        rcases h2 with z | z
        · rw [z] at dv; exact absurd rfl (Va.Dv.ne dv)
        · exact z
      have : 0 < ln.length := List.length_pos_iff.mpr n0
      exact dv_snocs dv (by rw [dps_len]; exact ⟨by show (2 : Int) ≤ (ln.length : Int) + 1; omega, by show (ln.length : Int) + 1 ≤ _; omega, trivial⟩)
theorem FilW.fin {rs : List Ru} {L : List Dr} (h : FilW rs L []) (hz : ∀ r ∈ rs, r.1 ≠ "zzzzzzzz") (hw : ∀ r ∈ rs, r.2.1 = "/" ∨ r.2.1 = "//") : BrO L rs none := by
  obtain ⟨os, hl, _, hk⟩ := h.op
  have e : os = [] := List.length_eq_zero_iff.mp hl
  subst e
  intro p n r hr ⟨d, hd, ed, no⟩
  have mr := List.mem_of_getElem? hr
  obtain ⟨x, e⟩ := d
  obtain ⟨j, lt, bt, y, hy, e1, e2⟩ := hk hz p (fun m => nomatch m) x e hd r mr ed.symm
  have jl := (List.getElem?_eq_some_iff.mp hy).1
  refine no ⟨j, y, ⟨⟨lt, by rw [dps_len]; exact jl, fun k a b => ?_⟩, ?_⟩, hy, e1⟩
  · obtain ⟨z, hz'⟩ := get_lt (l := L) (n := k) (by omega)
    rw [dps_at hd, dps_at hz']
    exact bt k z a b hz'
  · rw [dps_at hd, dps_at hy]
    rcases hw r mr with w | w
    · exact .inr (e2 w).symm
    · left; unfold wB; rw [w]; rfl
end Va

namespace Va
open PySem PySem.Spec PyProof.Rows L2 Bg
section
variable {K : PySem.W.Frag} {EX : L2.St → XK} {ρ : List Sl} {α β γ τ R : Type} {F : Fr R} {B : Bs} {O O' : AP} {H H' : Hp} {σ : L2.St}
end
end Va

namespace Va
open PySem PySem.Spec PyProof.Rows L2 Bg
end Va

namespace Va
open PySem PySem.Spec PyProof.Rows L2 Bg
section
variable {K : PySem.W.Frag} {EX : L2.St → XK} {ρ : List Sl} {α β γ τ R : Type} {F : Fr R} {B : Bs} {O O' : AP} {H H' : Hp} {σ : L2.St}
theorem RG.eg {t : TE} {en : α → D} {w : M α} (h : RE K EX ρ t en w) : RG K EX ρ t (resO K (oS en)) w := fun B O H σ E P PX Q hw hq hx =>
  h B O H σ E P PX Q hw (fun a v H' p e r => hq a v H' p e ⟨[], .sh (r.mono fun b z => z.elim id fun m => nomatch m), List.nodup_nil, fun b m => nomatch m⟩) hx
end
section
variable {P : Program} {w : World} {K : PySem.W.Frag} {mg : Str → Option Value} {base : Heap} {CX : CXT} {f : Addr} {fd : FuncData} {ps : List Str}
end
structure GrT where
  question : QuT
  rules : RuT
  rows : List Sr
  places : List Int
end Va

namespace Va
open PySem PySem.Spec PyProof.Rows L2 Bg
def askO (rs : List Ru) (x : Str) : List (Str × Str) := (rs.filter fun r : Ru => decide (r.1 = x) && (decide (r.2.1 = ("/" : Str)) || !decide ((r.1, ("/" : Str), r.2.2) ∈ rs))).map fun r : Ru => r.2
structure GrR (qr : List Sr) (rs : List Ru) (G : List Sr) (ps : List Int) : Prop where
  at_ : ∀ (k : Nat) p, ps[k]? = some p → ∃ q : Nat, p = (q : Int) ∧ ∃ r, qr[k]? = some r ∧ G[q]? = some r
  up : ∀ (k u : Nat) p, ps[k]? = some p → Par (qds qr) u k → ∃ a b : Nat, p = (b : Int) ∧ ps[u]? = some (a : Int) ∧ Par (qds G) a b
  zero : ∀ p, ps[0]? = some p → p = 0
  non : ∀ j, j < G.length → (∃ k : Nat, ps[k]? = some (j : Int)) ∨ ∃ (i : Nat) (r : Ru) (x y : Sr), Par (qds G) i j ∧ r ∈ rs ∧ G[i]? = some x ∧ G[j]? = some y ∧ x.2.1 = r.1 ∧ y = (r.2.1, r.2.2, x.2.2 + 1)
  nd : ps.Nodup
  dv : G = [] ∨ Dv (qds G)
theorem an_app {ds es : List Int} {u k : Nat} (h : An ds u k) : An (ds ++ es) u k := by
  obtain ⟨h1, h2, h3⟩ := h
  refine ⟨h1, by rw [List.length_append]; omega, fun j a b => ?_⟩
  rw [dg_app_l (by omega), dg_app_l (by omega)]
  exact h3 j a b
theorem par_app {ds es : List Int} {u k : Nat} (h : Par ds u k) : Par (ds ++ es) u k := by
  have l := par_lt h
  refine ⟨an_app h.1, ?_⟩
  rw [dg_app_l l.2.2, dg_app_l l.2.1]
  exact h.2
theorem par_new {G : List Sr} {i : Nat} {x y : Sr} (hi : G[i]? = some x) (gt : ∀ (j : Nat) z, i < j → G[j]? = some z → x.2.2 < z.2.2) (e : x.2.2 + 1 = y.2.2) : Par (qds (G ++ [y])) i G.length := by
  have il := (List.getElem?_eq_some_iff.mp hi).1
  have hy : (G ++ [y])[G.length]? = some y := by rw [List.getElem?_append_right (Nat.le_refl _), Nat.sub_self]; rfl
  have hi2 : (G ++ [y])[i]? = some x := by rw [List.getElem?_append_left il]; exact hi
  refine ⟨⟨il, by rw [qds_len, List.length_append]; simp, fun j a b => ?_⟩, ?_⟩
  · rcases Nat.lt_or_ge j G.length with c | c
    · obtain ⟨z, hz⟩ := get_lt c
      rw [qds_at hi2, qds_at (show (G ++ [y])[j]? = some z by rw [List.getElem?_append_left c]; exact hz)]
      exact gt j z a hz
    · have : j = G.length := by omega
      subst this
      rw [qds_at hi2, qds_at hy]; omega
  · rw [qds_at hi2, qds_at hy]; exact e
theorem dv_new {G : List Sr} {i : Nat} {x y : Sr} (dv : Dv (qds G)) (hi : G[i]? = some x) (gt : ∀ (j : Nat) z, i < j → G[j]? = some z → x.2.2 < z.2.2) (e : x.2.2 + 1 = y.2.2) : Dv (qds (G ++ [y])) := by
  have il := (List.getElem?_eq_some_iff.mp hi).1
  rw [qds_app]
  refine dv_snocs dv ?_
  have p := dv.pos i (by rw [qds_len]; exact il)
  rw [qds_at hi] at p
  refine ⟨by show (2 : Int) ≤ y.2.2; omega, ?_, trivial⟩
  show y.2.2 ≤ _ + 1
  rw [qds_len]
  obtain ⟨z, hz⟩ := get_lt (l := G) (n := G.length - 1) (by omega)
  rw [qds_at hz]
  rcases Nat.lt_or_ge i (G.length - 1) with c | c
  · have := gt _ z c hz; omega
  · have : i = G.length - 1 := by omega
    subst this
    rw [hi] at hz
    rw [← Option.some.inj hz]; omega
section
variable {qr : List Sr} {rs : List Ru} {G : List Sr} {ps : List Int}
theorem GrR.nil : GrR qr rs [] [] := ⟨fun k p h => by simp at h, fun k u p h => by simp at h, fun p h => by simp at h, fun j h => by simp at h, List.nodup_nil, .inl rfl⟩
theorem GrR.put {i : Nat} {x : Sr} {r : Ru} (h : GrR qr rs G ps) (hi : G[i]? = some x) (gt : ∀ (j : Nat) z, i < j → G[j]? = some z → x.2.2 < z.2.2) (hr : r ∈ rs) (e : x.2.1 = r.1) : GrR qr rs (G ++ [(r.2.1, r.2.2, x.2.2 + 1)]) ps := by
  have il := (List.getElem?_eq_some_iff.mp hi).1
  refine ⟨fun k p hk => ?_, fun k u p hk pr => ?_, h.zero, fun j hj => ?_, h.nd, .inr ?_⟩
  · obtain ⟨q, e1, r', h1, h2⟩ := h.at_ k p hk
    exact ⟨q, e1, r', h1, by rw [List.getElem?_append_left (List.getElem?_eq_some_iff.mp h2).1]; exact h2⟩
  · obtain ⟨a, b, e1, h1, h2⟩ := h.up k u p hk pr
    exact ⟨a, b, e1, h1, by rw [qds_app]; exact par_app h2⟩
  · rcases Nat.lt_or_ge j G.length with c | c
    · rcases h.non j c with z | ⟨i', r', x', y', h1, h2, h3, h4, h5, h6⟩
      · exact .inl z
      · exact .inr ⟨i', r', x', y', by rw [qds_app]; exact par_app h1, h2, by rw [List.getElem?_append_left (List.getElem?_eq_some_iff.mp h3).1]; exact h3, by rw [List.getElem?_append_left c]; exact h4, h5, h6⟩
    · have : j = G.length := by rw [List.length_append, List.length_singleton] at hj; omega
      subst this
      exact .inr ⟨i, r, x, _, par_new hi gt rfl, hr, by rw [List.getElem?_append_left il]; exact hi, by rw [List.getElem?_append_right (Nat.le_refl _), Nat.sub_self]; rfl, e, rfl⟩
  · rcases h.dv with z | dv
    · rw [z] at il; simp at il
    · exact dv_new dv hi gt rfl
theorem GrR.row {r : Sr} (h : GrR qr rs G ps) (hd : Dv (qds qr)) (hr : qr[ps.length]? = some r) (h0 : ps.length = 0 → G = []) (ctx : ∀ u, Par (qds qr) u ps.length → ∀ (a j : Nat) (z : Sr), ps[u]? = some (a : Int) → a < j → G[j]? = some z → dg (qds qr) u < z.2.2) : GrR qr rs (G ++ [r]) (ps ++ [(G.length : Int)]) := by
  have hy : (G ++ [r])[G.length]? = some r := by rw [List.getElem?_append_right (Nat.le_refl _), Nat.sub_self]; rfl
  have rl := (List.getElem?_eq_some_iff.mp hr).1
  have lt : ∀ (k : Nat) (p : Int), ps[k]? = some p → p < (G.length : Int) := fun k p hk => by
    obtain ⟨q, e1, _, _, h2⟩ := h.at_ k p hk
    have := (List.getElem?_eq_some_iff.mp h2).1
    omega
  have pu : ∀ u, Par (qds qr) u ps.length → ∃ (a : Nat) (x : Sr), ps[u]? = some (a : Int) ∧ G[a]? = some x ∧ Par (qds (G ++ [r])) a G.length ∧ (∀ (j : Nat) z, a < j → G[j]? = some z → x.2.2 < z.2.2) ∧ x.2.2 + 1 = r.2.2 := fun u pr => by
    have ul := par_lt pr
    obtain ⟨p, hp⟩ := get_lt (l := ps) (n := u) ul.1
    obtain ⟨a, rfl, x, h1, h2⟩ := h.at_ u p hp
    have e := pr.2
    rw [qds_at h1, qds_at hr] at e
    have gt : ∀ (j : Nat) z, a < j → G[j]? = some z → x.2.2 < z.2.2 := fun j z aj hz => by
      have := ctx u pr a j z hp aj hz
      rwa [qds_at h1] at this
    exact ⟨a, x, hp, h2, par_new h2 gt e, gt, e⟩
  have par0 : 0 < ps.length → ∃ u, Par (qds qr) u ps.length := fun z => by
    have := dv_root hd (j := ps.length) (by rw [qds_len]; exact rl) z
    obtain ⟨u, hu, _⟩ := dv_par hd this
    exact ⟨u, hu⟩
  refine ⟨fun k p hk => ?_, fun k u p hk pr => ?_, fun p hp => ?_, fun j hj => ?_, ?_, .inr ?_⟩
  · rcases Nat.lt_or_ge k ps.length with c | c
    · rw [List.getElem?_append_left c] at hk
      obtain ⟨q, e1, r', h1, h2⟩ := h.at_ k p hk
      exact ⟨q, e1, r', h1, by rw [List.getElem?_append_left (List.getElem?_eq_some_iff.mp h2).1]; exact h2⟩
    · have kl := (List.getElem?_eq_some_iff.mp hk).1
      rw [List.length_append, List.length_singleton] at kl
      have : k = ps.length := by omega
      subst this
      rw [List.getElem?_append_right (Nat.le_refl _), Nat.sub_self] at hk
      exact ⟨G.length, (Option.some.inj hk).symm, r, hr, hy⟩
  · rcases Nat.lt_or_ge k ps.length with c | c
    · rw [List.getElem?_append_left c] at hk
      obtain ⟨a, b, e1, h1, h2⟩ := h.up k u p hk pr
      exact ⟨a, b, e1, by rw [List.getElem?_append_left (List.getElem?_eq_some_iff.mp h1).1]; exact h1, by rw [qds_app]; exact par_app h2⟩
    · have kl := (List.getElem?_eq_some_iff.mp hk).1
      rw [List.length_append, List.length_singleton] at kl
      have : k = ps.length := by omega
      subst this
      rw [List.getElem?_append_right (Nat.le_refl _), Nat.sub_self] at hk
      obtain ⟨a, x, h1, _, h3, _⟩ := pu u pr
      exact ⟨a, G.length, (Option.some.inj hk).symm, by rw [List.getElem?_append_left (List.getElem?_eq_some_iff.mp h1).1]; exact h1, h3⟩
  · rcases Nat.eq_zero_or_pos ps.length with z | z
    · have g0 := h0 z
      have p0 := List.length_eq_zero_iff.mp z
      rw [g0, p0] at hp
      exact (Option.some.inj hp).symm
    · rw [List.getElem?_append_left z] at hp
      exact h.zero p hp
  · rcases Nat.lt_or_ge j G.length with c | c
    · rcases h.non j c with ⟨k, z⟩ | ⟨i', r', x', y', h1, h2, h3, h4, h5, h6⟩
      · exact .inl ⟨k, by rw [List.getElem?_append_left (List.getElem?_eq_some_iff.mp z).1]; exact z⟩
      · exact .inr ⟨i', r', x', y', by rw [qds_app]; exact par_app h1, h2, by rw [List.getElem?_append_left (List.getElem?_eq_some_iff.mp h3).1]; exact h3, by rw [List.getElem?_append_left c]; exact h4, h5, h6⟩
    · have : j = G.length := by rw [List.length_append, List.length_singleton] at hj; omega
      subst this
      exact .inl ⟨ps.length, by rw [List.getElem?_append_right (Nat.le_refl _), Nat.sub_self]; rfl⟩
  · rw [List.nodup_append]
    refine ⟨h.nd, by simp, fun a ha b hb e => ?_⟩
    rw [List.mem_singleton.mp hb] at e
    obtain ⟨k, hk⟩ := List.mem_iff_getElem?.mp ha
    have := lt k a hk
    omega
  · rcases Nat.eq_zero_or_pos ps.length with z | z
    · rw [h0 z]
      rw [z] at hr
      have e := hd.one
      rw [qds_at hr] at e
      show Dv [r.2.2]
      rw [e]
      exact dv_cons.mpr ⟨rfl, trivial⟩
    · obtain ⟨u, pr⟩ := par0 z
      obtain ⟨a, x, _, h2, _, gt, e⟩ := pu u pr
      rcases h.dv with z | dv
      · rw [z] at h2; simp at h2
      · exact dv_new dv h2 gt e
end
end Va

namespace Va
open PySem PySem.Spec PyProof.Rows L2 Bg
section
variable {dr : List (Str × Int)} {qr G : List Sr} {rs : List Ru} {ps : List Int}
end
end Va

namespace Va
open PySem PySem.Spec PyProof.Rows L2 Bg
end Va

namespace Va
open PySem PySem.Spec PyProof.Rows L2 Bg
section
variable {X : Cx}
end
section
variable {K : PySem.W.Frag} {EX : L2.St → XK} {ρ : List Sl} {α β γ τ R : Type} {F : Fr R} {B : Bs} {O O' : AP} {H H' : Hp} {σ : L2.St}
end
end Va
namespace Va
end Va

namespace Va
open PySem PySem.Spec PyProof.Rows L2 Bg
def CmpA (rs : List Ru) (G : List Sr) (i : Nat) (ps : List (Str × Str)) : Prop := ∀ p ∈ ps, ∃ (c : Nat) (y : Sr), Par (qds G) i c ∧ G[c]? = some y ∧ y.1 = p.1 ∧ y.2.1 = p.2
def Cmp (rs : List Ru) (G : List Sr) (j : Nat) : Prop := ∀ x : Sr, G[j]? = some x → CmpA rs G j (askO rs x.2.1)
section
variable {rs : List Ru} {G M : List Sr} {i j : Nat} {ps : List (Str × Str)}
theorem CmpA.app (h : CmpA rs G i ps) : CmpA rs (G ++ M) i ps := fun p hp => by
  obtain ⟨c, y, h1, h2, h3, h4⟩ := h p hp
  exact ⟨c, y, by rw [qds_app]; exact par_app h1, by rw [List.getElem?_append_left (List.getElem?_eq_some_iff.mp h2).1]; exact h2, h3, h4⟩
theorem Cmp.app (h : Cmp rs G j) (hj : j < G.length) : Cmp rs (G ++ M) j := fun x hx => by
  rw [List.getElem?_append_left hj] at hx
  exact (h x hx).app
theorem askO_of {x : Str} {r : Ru} (hr : r ∈ rs) (e : r.1 = x) (hw : r.2.1 = "/" ∨ r.2.1 = "//") : ∃ w, (w, r.2.2) ∈ askO rs x ∧ (w = "/" ∨ w = r.2.1) := by
  have mk : ∀ r' : Ru, r' ∈ rs → r'.1 = x → (r'.2.1 = "/" ∨ (r'.1, ("/" : Str), r'.2.2) ∉ rs) → r'.2 ∈ askO rs x := fun r' m e' c => by
    unfold askO
    refine List.mem_map.mpr ⟨r', List.mem_filter.mpr ⟨m, ?_⟩, rfl⟩
    simp only [Bool.and_eq_true, Bool.or_eq_true, decide_eq_true_eq, Bool.not_eq_true', decide_eq_false_iff_not]
    exact ⟨e', c⟩
  by_cases c : (r.1, ("/" : Str), r.2.2) ∈ rs
  · exact ⟨"/", mk (r.1, ("/" : Str), r.2.2) c e (.inl rfl), .inl rfl⟩
  · exact ⟨r.2.1, mk r hr e (.inr c), .inr rfl⟩
end
theorem LW.keeps {G : List Sr} {g : Nat} {z : Str} {rows : List (Str × Int)} {pl : List Nat} {Dl : List Int} {rs : List Ru} (h : LW G g z rows pl Dl) (hc : ∀ j, Cmp rs G j) (hz : ∀ r ∈ rs, r.1 ≠ z) (hw : ∀ r ∈ rs, r.2.1 = "/" ∨ r.2.1 = "//") : BrO rows rs none := by
  rintro p n r hr ⟨d, hd, ed, no⟩
  have mr := List.mem_of_getElem? hr
  obtain ⟨j, q, sr, hp, hs, hcv⟩ := h.cover p (List.getElem?_eq_some_iff.mp hd).1
  have hj : j < G.length := (List.getElem?_eq_some_iff.mp hs).1
  obtain ⟨p', dd, sr', q1, q2, q3, q4, q5, _⟩ := h.at2 hj
  rw [hp] at q1; cases q1
  rw [hs] at q3; cases q3
  rcases hcv with e | ⟨w, e⟩
  · subst e
    rw [hd] at q4
    have q4 := Option.some.inj q4
    have el : sr.2.1 = r.1 := by rw [← ed, q4]
    obtain ⟨w, hm, hww⟩ := askO_of mr rfl (hw r mr)
    obtain ⟨c, y, pc, hy, e1, e2⟩ := hc j sr hs (w, r.2.2) (by rw [el]; exact hm)
    have e1 : y.1 = w := e1
    have e2 : y.2.1 = r.2.2 := e2
    have cl : c < G.length := (List.getElem?_eq_some_iff.mp hy).1
    obtain ⟨pc', dc, yc, r1, r2, r3, r4, r5, _⟩ := h.at2 cl
    rw [hy] at r3; cases r3
    have pr := h.par_s pc hp r1 hy
    refine no ⟨pc', (y.2.1, dc), ?_, r4, e2⟩
    by_cases cw : y.1 = "//"
    · rw [if_pos cw] at pr
      have : r.2.1 = "//" := by
        rcases hww with z | z
        · rw [e1, z] at cw
          exact absurd cw (by decide)
        · rw [← z, ← e1]; exact cw
      refine ⟨pr.1.1.trans pr.2.1, .inl ?_⟩
      unfold wB
      rw [this]
      rfl
    · rw [if_neg cw] at pr
      exact ⟨pr.1, .inr pr.2⟩
  · have := (q5 w).2
    rw [show q - 1 = p by omega, hd] at this
    have := Option.some.inj this
    rw [this] at ed
    exact hz r mr ed.symm
section
variable {qr G1 G2 : List Sr} {rs : List Ru} {ps1 ps2 : List Int}
end
end Va

namespace Va
open PySem PySem.Spec PyProof.Rows L2 Bg
section
variable {r1 r2 : List Sr} {g1 g2 : Nat}
end
end Va

namespace Va
open PySem PySem.Spec PyProof.Rows L2 Bg
section
variable {K : PySem.W.Frag} {EX : L2.St → XK} {ρ : List Sl} {α β γ τ R : Type} {F : Fr R} {B : Bs} {O O' : AP} {H H' : Hp} {σ : L2.St}
end
end Va

namespace Va
open PySem PySem.Spec PyProof.Rows L2 Bg
noncomputable def lowL (qr : List Sr) (s : Nat) : List Nat := by
  classical
  exact (List.range qr.length).filter fun l => decide (Par (qds qr) s l)
theorem lowL_mem {qr : List Sr} {s l : Nat} : l ∈ lowL qr s ↔ Par (qds qr) s l := by
  classical
  unfold lowL
  rw [List.mem_filter, List.mem_range, decide_eq_true_iff]
  exact ⟨fun h => h.2, fun h => ⟨by have := (par_lt h).2.1; rw [qds_len] at this; exact this, h⟩⟩
end Va

namespace Va
open PySem PySem.Spec PyProof.Rows L2 Bg
section
variable {rs : List Ru} {old z : Str}
end
end Va

namespace Va
open PySem PySem.Spec PyProof.Rows L2 Bg
section
variable {K : PySem.W.Frag} {EX : L2.St → XK} {ρ : List Sl} {α β γ τ R : Type} {F : Fr R} {B : Bs} {O O' : AP} {H H' : Hp} {σ : L2.St}
theorem Foc.tup {v0 v : V} {as ss : List Addr} {ts : List OT} {f : OT → OT} (h : Foc K O H v0 as v ss (.tup ts) f) {i : Nat} {t : OT} (hi : ts[i]? = some t) : ∃ a vs w ss2, v = .ref a ∧ H a = some (.tup vs) ∧ vs.length = ts.length ∧ vs[i]? = some w ∧ Foc K O H v0 as w ss2 t (fun t' => f (.tup (ts.set i t'))) := by
  have h' := h
  obtain ⟨r, _⟩ := h'
  cases r with
  | @tup a vs _ as1 ha rl =>
    obtain ⟨w, ss2, e, g⟩ := h.stepL rfl ha (fun z => z) rl hi (fun t' => .tup (ts.set i t')) fun O' H' t' as' ha' r' => .tup ha' r'
    exact ⟨a, vs, w, ss2, rfl, ha, rl.length, e, g⟩
theorem atI_nat {l : List α} {j : Nat} {a : α} (h : l[j]? = some a) : L2.atI l (j : Int) = some a := by
  have hj := (List.getElem?_eq_some_iff.mp h).1
  unfold L2.atI L2.ixN
  rw [if_pos (by omega), if_pos (by omega)]
  simpa using h
end
end Va
namespace Va
open PySem PySem.Spec PyProof.Rows L2 Bg
end Va
namespace Bg
open PySem PySem.Spec PyProof.Rows L2
section
variable {X : Cx} {k : Nat} {ps : List Str} {sp : Sp} {x : Str} {p pos : Pos} {e : Expr} {es : List Expr} {t : TA} {dvs : List V} {W : WX}
end
end Bg
namespace Va
open PySem PySem.Spec PyProof.Rows L2 Bg
section
variable {K : PySem.W.Frag} {EX : L2.St → XK} {ρ : List Sl} {α β γ R : Type} {F : Fr R}
end
end Va
namespace Va
open PySem PySem.Spec PyProof.Rows L2 Bg
section
variable {K : PySem.W.Frag} {EX : L2.St → XK} {ρ : List Sl} {α β γ R : Type} {F : Fr R}
end
theorem rng_inc {lo : Int} {n : Nat} : (rng lo n).Pairwise (· < ·) := by
  rw [List.pairwise_iff_getElem]
  intro i j hi hj hij
  obtain ⟨_, e1⟩ := rng_at (List.getElem?_eq_some_iff.mpr ⟨hi, rfl⟩)
  obtain ⟨_, e2⟩ := rng_at (List.getElem?_eq_some_iff.mpr ⟨hj, rfl⟩)
  rw [e1, e2]
  omega
end Va
namespace Va
open PySem PySem.Spec PyProof.Rows L2 Bg
section
variable {K : PySem.W.Frag} {EX : L2.St → XK} {ρ : List Sl}
end
end Va

namespace Va
open PySem PySem.Spec PyProof.Rows L2 Bg
def Ak (G : List Sr) (z : Nat) : Option (Str × Str) := (G[z]?).map fun y => (y.1, y.2.1)
theorem ak_app {G T : List Sr} {z : Nat} (h : z < G.length) : Ak (G ++ T) z = Ak G z := by
  unfold Ak; rw [List.getElem?_append_left h]
theorem par_back {ds es : List Int} {u k : Nat} (h : Par (ds ++ es) u k) (hk : k < ds.length) : Par ds u k := by
  obtain ⟨⟨h1, h2, h3⟩, h4⟩ := h
  refine ⟨⟨h1, hk, fun j a b => ?_⟩, ?_⟩
  · have := h3 j a b
    rwa [dg_app_l (by omega), dg_app_l (by omega)] at this
  · rwa [dg_app_l (by omega), dg_app_l (by omega)] at h4
theorem lowL_lt {G : List Sr} {j t : Nat} (h : t ∈ lowL G j) : j < t ∧ t < G.length := by
  have := par_lt (lowL_mem.mp h)
  rw [qds_len] at this
  exact ⟨this.1, this.2.1⟩
structure Opn (G : List Sr) (i : Nat) (x : Sr) : Prop where
  at_ : G[i]? = some x
  gt : ∀ (j : Nat) (z : Sr), i < j → G[j]? = some z → x.2.2 < z.2.2
section
variable {G T : List Sr} {i j : Nat} {x y b : Sr}
theorem Opn.lt (h : Opn G i x) : i < G.length := (List.getElem?_eq_some_iff.mp h.at_).1
theorem Opn.app (h : Opn G i x) (hT : ∀ y ∈ T, x.2.2 < y.2.2) : Opn (G ++ T) i x := by
  refine ⟨by rw [List.getElem?_append_left h.lt]; exact h.at_, fun j z a hz => ?_⟩
  rcases Nat.lt_or_ge j G.length with c | c
  · rw [List.getElem?_append_left c] at hz; exact h.gt j z a hz
  · rw [List.getElem?_append_right c] at hz; exact hT z (List.mem_of_getElem? hz)
theorem Opn.snoc : Opn (G ++ [y]) G.length y := by
  refine ⟨by rw [List.getElem?_append_right (Nat.le_refl _), Nat.sub_self]; rfl, fun j z a hz => ?_⟩
  have := (List.getElem?_eq_some_iff.mp hz).1
  rw [List.length_append, List.length_singleton] at this
  omega
end
section
variable {rs : List Ru} {rk : Str → Nat}
def GdA (rs : List Ru) (G : List Sr) (j : Nat) : Prop := ∀ y, G[j]? = some y → (lowL G j).map (Ak G) = (askO rs y.2.1).map some
theorem map_ak {G T : List Sr} {zs : List Nat} (h : ∀ z ∈ zs, z < G.length) : zs.map (Ak (G ++ T)) = zs.map (Ak G) := List.map_congr_left fun z m => ak_app (h z m)
structure PutA (rs : List Ru) (G T : List Sr) (i : Nat) (d : Int) (L : List (Str × Str)) : Prop where
  ge : ∀ z ∈ T, d ≤ z.2.2
  low : ∃ zs, lowL (G ++ T) i = lowL G i ++ zs ∧ zs.map (Ak (G ++ T)) = L.map some ∧ ∀ z ∈ zs, G.length ≤ z
  old : ∀ j, j < G.length → j ≠ i → lowL (G ++ T) j = lowL G j
  new : ∀ j, G.length ≤ j → GdA rs (G ++ T) j
end
end Va
namespace Va
open PySem PySem.Spec PyProof.Rows L2 Bg
section
variable {qr : List Sr} {rs : List Ru} {rk : Str → Nat}
def Gd2 (rs : List Ru) (G : List Sr) (p : List Int) (j : Nat) : Prop := ∀ y, G[j]? = some y → ∃ os zs : List Nat, lowL G j = os ++ zs ∧ (∀ o ∈ os, (o : Int) ∈ p) ∧ (∀ z ∈ zs, (z : Int) ∉ p) ∧ zs.map (Ak G) = (askO rs y.2.1).map some
structure Rise (p : List Int) (n : Nat) : Prop where
  inc : p.Pairwise (· < ·)
  lt : ∀ v ∈ p, v < (n : Int)
theorem Rise.snoc {p : List Int} {n m : Nat} (h : Rise p n) (hm : n < m) : Rise (p ++ [(n : Int)]) m := by
  refine ⟨List.pairwise_append.mpr ⟨h.inc, List.pairwise_singleton _ _, fun a ha b hb => ?_⟩, fun v hv => ?_⟩
  · rw [List.mem_singleton.mp hb]; exact h.lt a ha
  · rcases List.mem_append.mp hv with z | z
    · have := h.lt v z; omega
    · rw [List.mem_singleton.mp z]; omega
theorem Gd2.old {G T : List Sr} {p q : List Int} {j : Nat} (h : Gd2 rs G p j) (hj : j < G.length) (e : lowL (G ++ T) j = lowL G j) (hq : ∀ v ∈ q, (G.length : Int) ≤ v) : Gd2 rs (G ++ T) (p ++ q) j := fun y hy => by
  rw [List.getElem?_append_left hj] at hy
  obtain ⟨os, zs, h1, h2, h3, h4⟩ := h y hy
  have lt : ∀ z ∈ zs, z < G.length := fun z m => (lowL_lt (G := G) (j := j) (t := z) (by rw [h1]; exact List.mem_append_right _ m)).2
  refine ⟨os, zs, e.trans h1, fun o m => List.mem_append_left _ (h2 o m), fun z m c => ?_, by rw [map_ak lt]; exact h4⟩
  rcases List.mem_append.mp c with c | c
  · exact h3 z m c
  · have := hq _ c; have := lt z m; omega
theorem Gd2.of {G : List Sr} {p : List Int} {j : Nat} (h : GdA rs G j) (hp : ∀ v ∈ p, v ≤ (j : Int)) : Gd2 rs G p j := fun y hy => by
  refine ⟨[], lowL G j, rfl, fun o m => (nomatch m), fun z m c => ?_, h y hy⟩
  have := hp _ c
  have := (lowL_lt m).1
  omega
structure PutO (rs : List Ru) (G T : List Sr) (p q : List Int) (i : Nat) (a : Sr) : Prop where
  gt : ∀ z ∈ T, a.2.2 < z.2.2
  ris : Rise (p ++ q) (G ++ T).length
  ge : ∀ v ∈ q, (G.length : Int) ≤ v
  low : ∃ os, lowL (G ++ T) i = lowL G i ++ os ∧ ∀ o ∈ os, (o : Int) ∈ p ++ q
  old : ∀ j, j < G.length → j ≠ i → lowL (G ++ T) j = lowL G j
  new : ∀ j, G.length ≤ j → Gd2 rs (G ++ T) (p ++ q) j
structure PutS (rs : List Ru) (G T : List Sr) (p q : List Int) (a : Sr) : Prop where
  gt : ∀ z ∈ T, a.2.2 < z.2.2
  ris : Rise (p ++ (G.length : Int) :: q) (G ++ a :: T).length
  ge : ∀ v ∈ q, (G.length : Int) < v
  new : ∀ j, G.length ≤ j → Gd2 rs (G ++ a :: T) (p ++ (G.length : Int) :: q) j
end
end Va
namespace Va
open PySem PySem.Spec PyProof.Rows L2 Bg
end Va
namespace Va
open PySem PySem.Spec PyProof.Rows L2 Bg
end Va

namespace Va
open PySem PySem.Spec PyProof.Rows L2 Bg
def fb (b : Bool) (n : Nat) : Nat := cond b (1 + n) 0
def f3 (A : Nat → Nat → Bool) : Nat := fb (A 3 4) 0
def f2 (A : Nat → Nat → Bool) : Nat := fb (A 2 3) (f3 A) + fb (A 2 4) 0
def f1 (A : Nat → Nat → Bool) : Nat := fb (A 1 2) (f2 A) + (fb (A 1 3) (f3 A) + fb (A 1 4) 0)
def f0 (A : Nat → Nat → Bool) : Nat := fb (A 0 1) (f1 A) + (fb (A 0 2) (f2 A) + (fb (A 0 3) (f3 A) + fb (A 0 4) 0))
end Va
namespace Va
open PySem PySem.Spec PyProof.Rows L2 Bg
end Va

namespace Va
open PySem PySem.Spec PyProof.Rows L2 Bg
section
variable {X : Cx} {a : Addr} {oe : Obj} {cls : Value} {d : Option Addr} {e : Expr} {te : TE} {pos : Pos} {n : Str}
end
section
variable {X : Cx} {pins : List (Addr × Obj)} {σ : L2.St} {H : Hp} {s : Shared}
end
section
variable {X : Cx} {x n : Str} {c : Value} {i : Nat} {body bs rest : List Stmt} {b0 : Stmt} {np po pos : Pos} {tb : WX → TS} {ts tr : SuT} {t0 : TS} {Wout : WX}
end
section
variable {K : PySem.W.Frag} {EX : L2.St → XK} {ρ : List Sl} {α β γ R : Type} {F : Fr R}
def tryRM {S R : Type} (p : M S) (k : S → M R) (h : Exn → M R) : M R := fun P X => p (fun s => k s P X) fun x => h x P X
def xcM {R : Type} (CL : List Str) (c' : Str) (p : Exn → M R) : Exn → M R := fun x P X => x.cls ∈ CL ∧ isX c' x.cls = true ∧ p x P X
theorem tryR_ap {S : Type} {p : M S} {k : S → M R} {h : Exn → M R} {P : R → Prop} {X : Exn → Prop} : tryRM p k h P X = p (fun s => k s P X) fun x => h x P X := rfl
theorem xcM_ap {CL : List Str} {c' : Str} {p : Exn → M R} {x : Exn} {P : R → Prop} {X : Exn → Prop} : xcM CL c' p x P X = (x.cls ∈ CL ∧ isX c' x.cls = true ∧ p x P X) := rfl
end
end Va

namespace Bg
open PySem PySem.Spec PyProof.Rows L2
section
variable {X : Cx} {k i : Nat} {ps : List Str} {sp : Sp} {x g : Str} {p pos : Pos} {e : Expr} {es : List Expr} {t : TA} {W : WX}
end
end Bg
namespace Va
open PySem PySem.Spec PyProof.Rows L2 Bg
section
variable {K : PySem.W.Frag} {EX : L2.St → XK} {ρ : List Sl} {α β γ R : Type} {F : Fr R}
def isGlo (c : Va.D) (n : Str) : M Unit := fun P _ => c = .glo n ∧ P ()
def orM (w1 w2 : M α) : M α := fun P X => w1 P X ∨ w2 P X
theorem orM_ap {w1 w2 : M α} {P : α → Prop} {X : Exn → Prop} : orM w1 w2 P X = (w1 P X ∨ w2 P X) := rfl
theorem isGlo_ap {c : Va.D} {n : Str} {P : Unit → Prop} {X : Exn → Prop} : isGlo c n P X = (c = .glo n ∧ P ()) := rfl
def resU : Res Unit := fun _ _ _ _ _ => True
instance : Lasts resU := ⟨fun _ _ => trivial, fun _ _ => trivial⟩
end
end Va

namespace Va
open PySem PySem.Spec PyProof.Rows L2 Bg
def lessR (r : List Sr) (s e : Nat) : List Sr := r.take s ++ r.drop (e + 1)
def lessG (g s e : Nat) : Nat := if e < g then g - (e + 1 - s) else g
theorem less_at {r : List Sr} {s e : Nat} (he : e < r.length) (hs : s ≤ e) (k : Nat) : (lessR r s e)[k]? = if k < s then r[k]? else r[k + (e + 1 - s)]? := by
  unfold lessR
  by_cases c : k < s
  · rw [if_pos c, List.getElem?_append_left (by rw [List.length_take]; omega), List.getElem?_take, if_pos c]
  · rw [if_neg c, List.getElem?_append_right (by rw [List.length_take]; omega), List.getElem?_drop, List.length_take, show min s r.length = s by omega]
    congr 1
    omega
theorem less_len {r : List Sr} {s e : Nat} (he : e < r.length) (hs : s ≤ e) : (lessR r s e).length = r.length - (e + 1 - s) := by
  unfold lessR
  rw [List.length_append, List.length_take, List.length_drop]
  omega
theorem less_ok {r : List Sr} {g s e : Nat} (ok : QuOk r g) (ep : EndP (qds r) s e) (no : ¬ OnR (qds r) g s) : QuOk (lessR r s e) (lessG g s e) := by
  obtain ⟨he, hs⟩ := ends_lt ep
  have hl := less_len he hs
  have hg := ok.goal
  have hm := ok.most
  have s0 : 0 < s := by
    rcases Nat.eq_zero_or_pos s with z | z
    · subst z
      rcases Nat.eq_zero_or_pos g with y | y
      · exact absurd (.inl y.symm) no
      · exact absurd (.inr (dv_root ok.dv (by rw [qds_len]; exact hg) y)) no
    · exact z
  have out : g < s ∨ e < g := by
    rcases Nat.lt_or_ge g s with c | c
    · exact .inl c
    · rcases Nat.lt_or_ge e g with d | d
      · exact .inr d
      · exfalso
        rcases Nat.eq_or_lt_of_le c with y | y
        · exact no (.inl y)
        · exact no (.inr ((ep.an g).mpr ⟨y, d⟩))
  have mem : ∀ x ∈ lessR r s e, x ∈ r := fun x hx => by
    rcases List.mem_append.mp hx with m | m
    · exact List.mem_of_mem_take m
    · exact List.mem_of_mem_drop m
  have dgl : ∀ k, k < s → dg (qds (lessR r s e)) k = dg (qds r) k := fun k hk => by
    obtain ⟨x, hx⟩ := get_lt (l := r) (n := k) (by omega)
    rw [qds_at hx, qds_at (show (lessR r s e)[k]? = some x by rw [less_at he hs, if_pos hk]; exact hx)]
  have dgr : ∀ k, s ≤ k → k + (e + 1 - s) < r.length → dg (qds (lessR r s e)) k = dg (qds r) (k + (e + 1 - s)) := fun k hk hl => by
    obtain ⟨x, hx⟩ := get_lt (l := r) (n := k + (e + 1 - s)) hl
    rw [qds_at hx, qds_at (show (lessR r s e)[k]? = some x by rw [less_at he hs, if_neg (by omega)]; exact hx)]
  refine ⟨by omega, by omega, fun x hx => ok.way x (mem x hx), fun x hx => ok.lab x (mem x hx), ⟨by rw [dgl 0 s0]; exact ok.dv.one, fun i hi => ?_⟩, fun x hx => ok.deep x (mem x hx), ?_⟩
  · rw [qds_len, hl] at hi
    rcases Nat.lt_or_ge (i + 1) s with c | c
    · rw [dgl i (by omega), dgl (i + 1) c]
      exact ok.dv.two i (by rw [qds_len]; omega)
    · rcases Nat.eq_or_lt_of_le c with d | d
      · rw [dgl i (by omega), dgr (i + 1) c (by omega)]
        have o := ep.out (by rw [qds_len]; omega)
        have t1 := ok.dv.two i (by rw [qds_len]; omega)
        have t2 := ok.dv.two (i + (e + 1 - s)) (by rw [qds_len]; omega)
        rw [show i + 1 + (e + 1 - s) = e + 1 by omega]
        rw [show i + (e + 1 - s) + 1 = e + 1 by omega] at t2
        rw [← d] at t1
        omega
      · rw [dgr i (by omega) (by omega), dgr (i + 1) c (by omega)]
        have t := ok.dv.two (i + (e + 1 - s)) (by rw [qds_len]; omega)
        rw [show i + 1 + (e + 1 - s) = i + (e + 1 - s) + 1 by omega]
        exact t
  · unfold lessG
    split <;> omega
end Va

namespace Va
open PySem PySem.Spec PyProof.Rows L2 Bg
structure MapW (r1 : List Sr) (g1 : Nat) (r2 : List Sr) (g2 : Nat) (f : Nat → Nat) : Prop where
  like : ∀ k, k < r1.length → Likes r1 g1 r2 g2 k (f k)
  top : GoesT r1 r2 0 (f 0) none
  go : ∀ u k, Par (qds r1) u k → GoesT r1 r2 k (f k) (some (f u))
theorem like_lt {r1 r2 : List Sr} {g1 g2 k x : Nat} (h : Likes r1 g1 r2 g2 k x) : x < r2.length := by
  obtain ⟨⟨_, b, _, hb, _⟩, _⟩ := h
  exact (List.getElem?_eq_some_iff.mp hb).1
theorem mapW_iff {r1 r2 : List Sr} {g1 g2 : Nat} (d1 : Dv (qds r1)) (one : 0 < r1.length) : (∃ im, IsMapN r1 g1 r2 g2 im) ↔ ∃ f, MapW r1 g1 r2 g2 f := by
  constructor
  · rintro ⟨im, hl, hb, hs⟩
    have at_ : ∀ k, k < r1.length → im[k]? = some (im.getD k 0) := fun k hk => by
      obtain ⟨v, hv⟩ := get_lt (l := im) (n := k) (by omega)
      rw [List.getD_eq_getElem?_getD, hv]; rfl
    refine ⟨fun k => im.getD k 0, fun k hk => (hs k (by omega) _ (at_ k hk)).1, (hs 0 (by omega) _ (at_ 0 one)).2.1 fun u an => by have := an.1; omega, fun u k p => ?_⟩
    have l := par_lt p
    rw [qds_len] at l
    exact (hs k (by omega) _ (at_ k l.2.1)).2.2 u _ p (at_ u l.2.2)
  · rintro ⟨f, h⟩
    have at_ : ∀ k x, ((List.range r1.length).map f)[k]? = some x → k < r1.length ∧ x = f k := fun k x hx => by
      have kl := (List.getElem?_eq_some_iff.mp hx).1
      rw [List.length_map, List.length_range] at kl
      rw [List.getElem?_map, List.getElem?_range kl] at hx
      exact ⟨kl, (Option.some.inj hx).symm⟩
    refine ⟨(List.range r1.length).map f, by simp, fun x hx => ?_, fun s hs x hx => ?_⟩
    · obtain ⟨k, hk, rfl⟩ := List.mem_map.mp hx
      exact like_lt (h.like k (List.mem_range.mp hk))
    · obtain ⟨kl, rfl⟩ := at_ s x hx
      refine ⟨h.like s kl, fun no => ?_, fun u y p hy => ?_⟩
      · rcases Nat.eq_zero_or_pos s with z | z
        · subst z; exact h.top
        · exact absurd (dv_root d1 (by rw [qds_len]; exact kl) z) (no 0)
      · obtain ⟨_, rfl⟩ := at_ u y hy
        exact h.go u s p
section
variable {r1 r2 : List Sr} {g1 g2 : Nat} {f : Nat → Nat}
theorem MapW.par (h : MapW r1 g1 r2 g2 f) {u k : Nat} (p : Par (qds r1) u k) : An (qds r2) (f u) (f k) := by
  obtain ⟨a, _, z | z⟩ := h.go u k p
  · exact z.2.1.1
  · exact z.2
theorem MapW.an (h : MapW r1 g1 r2 g2 f) (d1 : Dv (qds r1)) : ∀ (k u : Nat), An (qds r1) u k → An (qds r2) (f u) (f k) ∧ dg (qds r1) k - dg (qds r1) u ≤ dg (qds r2) (f k) - dg (qds r2) (f u) := by
  intro k
  induction k using Nat.strongRecOn with
  | _ k ih =>
    intro u an
    obtain ⟨w, p, hw⟩ := dv_par d1 an
    have a1 := h.par p
    have d := a1.dlt
    have e := p.2
    rcases hw with rfl | hw
    · exact ⟨a1, by omega⟩
    · obtain ⟨b1, b2⟩ := ih w (par_lt p).1 u hw
      exact ⟨b1.trans a1, by omega⟩
theorem MapW.deep (h : MapW r1 g1 r2 g2 f) (d1 : Dv (qds r1)) (d2 : Dv (qds r2)) {k : Nat} (hk : k < r1.length) : dg (qds r1) k ≤ dg (qds r2) (f k) := by
  have one := d1.one
  have p0 := d2.pos (f 0) (by rw [qds_len]; exact like_lt (h.like 0 (by omega)))
  rcases Nat.eq_zero_or_pos k with z | z
  · subst z; omega
  · have := (h.an d1 k 0 (dv_root d1 (by rw [qds_len]; exact hk) z)).2
    omega
end
section
variable {V R T : List Sr} {gV eV gR gT : Nat} {p q : Nat → Nat}
def laidM (n2 eV : Nat) (p q : Nat → Nat) (j : Nat) : Nat := if j ≤ eV then p j else if j < eV + n2 then q (j - eV) else p (j - (n2 - 1))
theorem laidM1 {n2 : Nat} (h2 : 1 ≤ n2) (k : Nat) : laidM n2 eV p q (j1 eV n2 k) = p k := by
  unfold laidM j1
  by_cases c : k ≤ eV
  · rw [if_pos c, if_pos c]
  · rw [if_neg c, if_neg (by omega), if_neg (by omega)]
    congr 1
    omega
theorem laidM2 {n2 k : Nat} (h0 : 0 < k) (hk : k < n2) : laidM n2 eV p q (eV + k) = q k := by
  unfold laidM
  rw [if_neg (by omega), if_pos (by omega)]
  congr 1
  omega
theorem laid_map (d1 : Dv (qds V)) (d2 : Dv (qds R)) (ep : EndP (qds V) gV eV) (hR : gR < R.length)
    (pl : ∀ k, k < V.length → ∃ a b : Sr, V[k]? = some a ∧ T[p k]? = some b ∧ a.2.1 = b.2.1) (pt : GoesT V T 0 (p 0) none) (pg : ∀ u k, Par (qds V) u k → GoesT V T k (p k) (some (p u)))
    (ql : ∀ k, 0 < k → k < R.length → ∃ a b : Sr, R[k]? = some a ∧ T[q k]? = some b ∧ a.2.1 = b.2.1) (q0 : q 0 = p gV) (qg : ∀ u k, Par (qds R) u k → GoesT R T k (q k) (some (q u)))
    (w0 : gR = 0 → p gV = gT) (w1 : 0 < gR → q gR = gT) : MapW (laidR V gV eV R) (laidG gV eV gR) T gT (laidM R.length eV p q) := by
  obtain ⟨he, hg⟩ := ends_lt ep
  have h2 : 1 ≤ R.length := by omega
  have j1g : j1 eV R.length gV = gV := by unfold j1; rw [if_pos hg]
  have m2 : ∀ u, u < R.length → laidM R.length eV p q (j2 gV eV u) = q u := fun u hu => by
    unfold j2
    by_cases c : u = 0
    · subst c
      rw [if_pos rfl, q0]
      have := laidM1 (eV := eV) (p := p) (q := q) h2 gV
      rwa [j1g] at this
    · rw [if_neg c]
      exact laidM2 (by omega) hu
  refine ⟨fun j hj => ⟨?_, fun e => ?_⟩, ?_, fun u j pr => ?_⟩
  · rcases laid_in he h2 hj with ⟨k, hk, rfl⟩ | ⟨k, h0, hk, rfl⟩
    · rw [laidM1 h2, laid_j1 he h2]
      exact pl k hk
    · rw [laidM2 h0 hk, laid_mid he h0 hk]
      obtain ⟨a, b, h1, h3, h4⟩ := ql k h0 hk
      exact ⟨(a.1, a.2.1, a.2.2 + dg (qds V) gV - 1), b, by rw [h1]; rfl, h3, h4⟩
  · subst e
    unfold laidG
    by_cases c : gR = 0
    · rw [if_pos c]
      have := laidM1 (eV := eV) (p := p) (q := q) h2 gV
      rw [j1g] at this
      rw [this]
      exact w0 c
    · rw [if_neg c, laidM2 (by omega) hR]
      exact w1 (by omega)
  · have z0 : j1 eV R.length 0 = 0 := by unfold j1; rw [if_pos (Nat.zero_le _)]
    have e0 := laidM1 (eV := eV) (p := p) (q := q) h2 0
    rw [z0] at e0
    rw [e0]
    obtain ⟨a, ha, z⟩ := pt
    exact ⟨a, by have := laid_j1 (g1 := gV) (r2 := R) he h2 0; rw [z0] at this; rw [this]; exact ha, z⟩
  · have l := par_lt pr
    rw [qds_len] at l
    rcases laid_in he h2 l.2.1 with ⟨k, hk, rfl⟩ | ⟨k, h0, hk, rfl⟩
    · have k0 : 0 < k := by
        rcases Nat.eq_zero_or_pos k with z | z
        · subst z
          have : j1 eV R.length 0 = 0 := by unfold j1; rw [if_pos (Nat.zero_le _)]
          omega
        · exact z
      obtain ⟨v, pv, _⟩ := dv_par d1 (dv_root d1 (by rw [qds_len]; exact hk) k0)
      have eu := (laid_par1 d2 ep h2 pv).only pr
      subst eu
      rw [laidM1 h2, laidM1 h2]
      obtain ⟨a, ha, z⟩ := pg v k pv
      exact ⟨a, by rw [laid_j1 he h2]; exact ha, z⟩
    · obtain ⟨v, pv, _⟩ := dv_par d2 (dv_root d2 (by rw [qds_len]; exact hk) h0)
      have vl := par_lt pv
      rw [qds_len] at vl
      have pw := laid_par2 d2 ep h2 pv
      have ek : j2 gV eV k = eV + k := by unfold j2; rw [if_neg (by omega)]
      rw [ek] at pw
      have eu := pw.only pr
      subst eu
      rw [laidM2 h0 hk, m2 v vl.2.2]
      obtain ⟨a, ha, z⟩ := qg v k pv
      exact ⟨(a.1, a.2.1, a.2.2 + dg (qds V) gV - 1), by rw [laid_mid he h0 hk, ha]; rfl, z⟩
end
section
variable {Q : List Sr} {s e : Nat} {b : Sr}
theorem rest_dg (hb : Q[s]? = some b) (ep : EndP (qds Q) s e) {k : Nat} (hk : s + k ≤ e) : dg (qds (restR Q s e)) k = dg (qds Q) (s + k) - b.2.2 + 1 := by
  obtain ⟨he, hs⟩ := ends_lt ep
  rcases Nat.eq_zero_or_pos k with z | z
  · subst z
    rw [qds_at (rest_zero hb), Nat.add_zero, qds_at hb]
    show (1 : Int) = _
    omega
  · obtain ⟨x, hx⟩ := get_lt (l := Q) (n := s + k) (by omega)
    rw [qds_at hx, qds_at (r := (x.1, x.2.1, x.2.2 - b.2.2 + 1)) (by rw [rest_at hb z hk, hx]; rfl)]
theorem rest_an (hb : Q[s]? = some b) (ep : EndP (qds Q) s e) {u k : Nat} (hk : s + k ≤ e) : An (qds (restR Q s e)) u k ↔ An (qds Q) (s + u) (s + k) := by
  obtain ⟨he, hs⟩ := ends_lt ep
  have hl := rest_len hb he hs
  constructor
  · rintro ⟨h1, h2, h3⟩
    refine ⟨by omega, by rw [qds_len]; omega, fun j a c => ?_⟩
    have := h3 (j - s) (by omega) (by omega)
    rw [rest_dg hb ep (by omega), rest_dg hb ep (by omega), show s + (j - s) = j by omega] at this
    omega
  · rintro ⟨h1, h2, h3⟩
    refine ⟨by omega, by rw [qds_len]; omega, fun j a c => ?_⟩
    have := h3 (s + j) (by omega) (by omega)
    rw [rest_dg hb ep (by omega), rest_dg hb ep (by omega)]
    omega
theorem rest_par (hb : Q[s]? = some b) (ep : EndP (qds Q) s e) {u k : Nat} (hk : s + k ≤ e) (hu : s + u ≤ e) : Par (qds (restR Q s e)) u k ↔ Par (qds Q) (s + u) (s + k) := by
  unfold Par
  rw [rest_an hb ep hk, rest_dg hb ep hk, rest_dg hb ep hu]
  constructor
  · rintro ⟨h1, h2⟩; exact ⟨h1, by omega⟩
  · rintro ⟨h1, h2⟩; exact ⟨h1, by omega⟩
end
theorem rest_alike {Q V R : List Sr} {gQ gV gR eV : Nat} (okQ : QuOk Q gQ) (okV : QuOk V gV) (okR : QuOk R gR) (epV : EndP (qds V) gV eV) (okW : QuOk (laidR V gV eV R) (laidG gV eV gR))
    (h1 : ∃ im, IsMapN Q gQ (laidR V gV eV R) (laidG gV eV gR) im) (h2 : ∃ im, IsMapN (laidR V gV eV R) (laidG gV eV gR) Q gQ im) :
    ∃ s, OnR (qds Q) gQ s ∧ dg (qds Q) s = dg (qds V) gV ∧ (∃ a b : Sr, Q[s]? = some a ∧ V[gV]? = some b ∧ a.2.1 = b.2.1) ∧ ∀ e, EndP (qds Q) s e → QuOk (laidR V gV eV (restR Q s e)) (laidG gV eV (gQ - s)) →
      (∃ im, IsMapN Q gQ (laidR V gV eV (restR Q s e)) (laidG gV eV (gQ - s)) im) ∧ ∃ im, IsMapN (laidR V gV eV (restR Q s e)) (laidG gV eV (gQ - s)) Q gQ im := by
  obtain ⟨he, hgV⟩ := ends_lt epV
  have oQ : 0 < Q.length := okQ.one
  have oW : 0 < (laidR V gV eV R).length := okW.one
  have oR : 1 ≤ R.length := okR.one
  have lR := okR.goal
  have lQ := okQ.goal
  have lV := okV.goal
  have lW := okW.goal
  obtain ⟨f, F⟩ := (mapW_iff okQ.dv oQ).mp h1
  obtain ⟨h, G⟩ := (mapW_iff okW.dv oW).mp h2
  have j1g : ∀ n, j1 eV n gV = gV := fun n => by unfold j1; rw [if_pos hgV]
  have Wg : (laidR V gV eV R)[gV]? = V[gV]? := laid_lo he hgV
  have Wl : gV < (laidR V gV eV R).length := by rw [laid_len he oR]; omega
  have wan : 0 < gR → An (qds (laidR V gV eV R)) gV (laidG gV eV gR) := fun z => by
    have := laid_an2 okR.dv epV oR (dv_root okR.dv (j := gR) (by rw [qds_len]; exact lR) z)
    unfold j2 at this
    rw [if_pos rfl, if_neg (by omega)] at this
    unfold laidG
    rw [if_neg (by omega)]
    exact this
  have g0 : gR = 0 → laidG gV eV gR = gV := fun z => by unfold laidG; rw [if_pos z]
  have hW : h (laidG gV eV gR) = gQ := (G.like _ lW).2 rfl
  have fQ : f gQ = laidG gV eV gR := (F.like _ lQ).2 rfl
  have dW : dg (qds (laidR V gV eV R)) gV = dg (qds V) gV := by
    have := dgL1 (g1 := gV) (r2 := R) he oR (k := gV) lV
    rwa [j1g] at this
  have top1 := F.deep okQ.dv okW.dv lQ
  have top2 := G.deep okW.dv okQ.dv Wl
  rw [fQ] at top1
  have ds : dg (qds Q) (h gV) = dg (qds V) gV := by
    rcases Nat.eq_zero_or_pos gR with z | z
    · rw [g0 z] at top1 hW
      rw [hW] at top2 ⊢
      omega
    · have := (G.an okW.dv _ _ (wan z)).2
      rw [hW] at this
      omega
  have on : OnR (qds Q) gQ (h gV) := by
    rcases Nat.eq_zero_or_pos gR with z | z
    · rw [g0 z] at hW
      exact .inl hW
    · have := (G.an okW.dv _ _ (wan z)).1
      rw [hW] at this
      exact .inr this
  obtain ⟨b, hb⟩ := get_lt (l := Q) (n := h gV) (like_lt (G.like gV Wl))
  refine ⟨h gV, on, ds, ?_, fun e ep okU => ?_⟩
  · obtain ⟨⟨a, c, ha, hc, hl⟩, _⟩ := G.like gV Wl
    rw [Wg] at ha
    exact ⟨c, a, hc, ha, hl.symm⟩
  obtain ⟨hse, hss⟩ := ends_lt ep
  have okD := rest_ok okQ ep on hb
  have oD : 1 ≤ (restR Q (h gV) e).length := okD.one
  have lD := rest_len hb hse hss
  have gle : h gV ≤ gQ ∧ gQ ≤ e := by
    rcases on with z | z
    · omega
    · have := (ep.an gQ).mp z; omega
  have rng : ∀ k, 0 < k → k < R.length → h gV < h (eV + k) ∧ h (eV + k) ≤ e := fun k h0 hk => by
    have a := laid_an2 okR.dv epV oR (dv_root okR.dv (j := k) (by rw [qds_len]; exact hk) h0)
    unfold j2 at a
    rw [if_pos rfl, if_neg (by omega)] at a
    exact (ep.an _).mp (G.an okW.dv _ _ a).1
  have Dat : ∀ x, h gV < x → x ≤ e → ∃ y : Sr, Q[x]? = some y ∧ (restR Q (h gV) e)[x - h gV]? = some (y.1, y.2.1, y.2.2 - b.2.2 + 1) := fun x a c => by
    obtain ⟨y, hy⟩ := get_lt (l := Q) (n := x) (by omega)
    refine ⟨y, hy, ?_⟩
    have := rest_at (e := e) hb (k := x - h gV) (by omega) (by omega)
    rw [show h gV + (x - h gV) = x by omega, hy] at this
    exact this
  have Uat : ∀ x, h gV < x → x ≤ e → ∃ y : Sr, Q[x]? = some y ∧ ∃ y' : Sr, (laidR V gV eV (restR Q (h gV) e))[eV + (x - h gV)]? = some y' ∧ y'.1 = y.1 ∧ y'.2.1 = y.2.1 := fun x a c => by
    obtain ⟨y, hy, hd⟩ := Dat x a c
    refine ⟨y, hy, (y.1, y.2.1, y.2.2 - b.2.2 + 1 + dg (qds V) gV - 1), by rw [laid_mid he (by omega) (by omega), hd]; rfl, rfl, rfl⟩
  -- from the one laid together to the other
  have phi : MapW (laidR V gV eV R) (laidG gV eV gR) (laidR V gV eV (restR Q (h gV) e)) (laidG gV eV (gQ - h gV)) (laidM R.length eV (j1 eV (restR Q (h gV) e).length) fun k => if k = 0 then gV else eV + (h (eV + k) - h gV)) := by
    refine laid_map okV.dv okR.dv epV lR (fun k hk => ?_) ?_ (fun u k p => ?_) (fun k h0 hk => ?_) (by rw [j1g]; rfl) (fun u k p => ?_) (fun z => ?_) fun z => ?_
    · obtain ⟨a, ha⟩ := get_lt hk
      exact ⟨a, a, ha, by rw [laid_j1 he oD]; exact ha, rfl⟩
    · obtain ⟨a, ha⟩ := get_lt (l := V) (n := 0) (by omega)
      have z0 : j1 eV (restR Q (h gV) e).length 0 = 0 := by unfold j1; rw [if_pos (Nat.zero_le _)]
      rw [z0]
      refine ⟨a, ha, ?_⟩
      by_cases c : a.1 = "/"
      · exact .inr ⟨rfl, a, by rw [laid_lo he (Nat.zero_le _)]; exact ha, c⟩
      · exact .inl c
    · have l := par_lt p
      rw [qds_len] at l
      obtain ⟨a, ha⟩ := get_lt l.2.1
      have pw := laid_par1 okD.dv epV oD p
      refine ⟨a, ha, ?_⟩
      by_cases c : a.1 = "/"
      · exact .inl ⟨c, pw, a, by rw [laid_j1 he oD]; exact ha, c⟩
      · exact .inr ⟨c, pw.1⟩
    · rw [if_neg (by omega)]
      obtain ⟨r1, r2⟩ := rng k h0 hk
      obtain ⟨y, hy, y', hy', _, ey⟩ := Uat _ r1 r2
      obtain ⟨a, ha⟩ := get_lt hk
      obtain ⟨⟨a', c, ha', hc, hl⟩, _⟩ := G.like (eV + k) (by rw [laid_len he oR]; omega)
      rw [laid_mid he h0 hk, ha] at ha'
      have := Option.some.inj ha'
      rw [hy] at hc
      have := Option.some.inj hc
      subst this
      refine ⟨a, y', ha, hy', ?_⟩
      rw [ey, ← hl, ← Option.some.inj ha']
    · have l := par_lt p
      rw [qds_len] at l
      have k0 : 0 < k := by omega
      show GoesT R _ k (if k = 0 then gV else eV + (h (eV + k) - h gV)) (some (if u = 0 then gV else eV + (h (eV + u) - h gV)))
      rw [if_neg (by omega)]
      obtain ⟨r1, r2⟩ := rng k k0 l.2.1
      obtain ⟨y, hy, y', hy', ew, _⟩ := Uat _ r1 r2
      obtain ⟨a, ha⟩ := get_lt l.2.1
      have pw := laid_par2 okR.dv epV oR p
      have ek : j2 gV eV k = eV + k := by unfold j2; rw [if_neg (by omega)]
      rw [ek] at pw
      obtain ⟨a', ha', z⟩ := G.go _ _ pw
      rw [laid_mid he k0 l.2.1, ha] at ha'
      have ea : a'.1 = a.1 := by rw [← Option.some.inj ha']
      -- where the upper's image stands
      have up : ∃ y0, h (j2 gV eV u) = h gV + y0 ∧ h gV + y0 ≤ e ∧ (if u = 0 then gV else eV + (h (eV + u) - h gV)) = j2 gV eV y0 := by
        by_cases c : u = 0
        · subst c
          exact ⟨0, by unfold j2; rw [if_pos rfl, Nat.add_zero], by omega, by rw [if_pos rfl]; unfold j2; rw [if_pos rfl]⟩
        · obtain ⟨q1, q2⟩ := rng u (by omega) l.2.2
          have : j2 gV eV u = eV + u := by unfold j2; rw [if_neg c]
          rw [this]
          exact ⟨h (eV + u) - h gV, by omega, by omega, by rw [if_neg c]; unfold j2; rw [if_neg (by omega)]⟩
      obtain ⟨y0, e1, e2, e3⟩ := up
      rw [e3]
      rw [e1] at z
      have ez : h (eV + k) = h gV + (h (eV + k) - h gV) := by omega
      have ej : eV + (h (eV + k) - h gV) = j2 gV eV (h (eV + k) - h gV) := by unfold j2; rw [if_neg (by omega)]
      refine ⟨a, ha, ?_⟩
      rcases z with ⟨w1, w2, w3⟩ | ⟨w1, w2⟩
      · refine .inl ⟨by rw [← ea]; exact w1, ?_, y', hy', ?_⟩
        · rw [ez] at w2
          rw [ej]
          exact laid_par2 okD.dv epV oD ((rest_par hb ep (by omega) e2).mpr w2)
        · obtain ⟨c, hc, w3⟩ := w3
          rw [hy] at hc
          rw [ew, Option.some.inj hc]
          exact w3
      · refine .inr ⟨by rw [← ea]; exact w1, ?_⟩
        rw [ez] at w2
        rw [ej]
        exact laid_an2 okD.dv epV oD ((rest_an hb ep (by omega)).mpr w2)
    · rw [j1g]
      rw [g0 z] at hW
      unfold laidG
      rw [if_pos (by omega)]
    · show (if gR = 0 then gV else eV + (h (eV + gR) - h gV)) = _
      rw [if_neg (by omega)]
      have eg : laidG gV eV gR = eV + gR := by unfold laidG; rw [if_neg (by omega)]
      rw [eg] at hW
      have := (rng gR z lR).1
      unfold laidG
      rw [if_neg (by omega), hW]
  have psi : MapW (laidR V gV eV (restR Q (h gV) e)) (laidG gV eV (gQ - h gV)) Q gQ (laidM (restR Q (h gV) e).length eV (fun k => h (j1 eV R.length k)) fun k => h gV + k) := by
    refine laid_map okV.dv okD.dv epV okD.goal (fun k hk => ?_) ?_ (fun u k p => ?_) (fun k h0 hk => ?_) (by show h gV + 0 = h (j1 eV R.length gV); rw [j1g]; rfl) (fun u k p => ?_) (fun z => ?_) fun z => ?_
    · obtain ⟨⟨a, c, ha, hc, hl⟩, _⟩ := G.like (j1 eV R.length k) (by rw [laid_len he oR]; unfold j1; split <;> omega)
      rw [laid_j1 he oR] at ha
      exact ⟨a, c, ha, hc, hl⟩
    · have z0 : j1 eV R.length 0 = 0 := by unfold j1; rw [if_pos (Nat.zero_le _)]
      show GoesT V Q 0 (h (j1 eV R.length 0)) none
      rw [z0]
      obtain ⟨a, ha, z⟩ := G.top
      rw [laid_lo he (Nat.zero_le _)] at ha
      exact ⟨a, ha, z⟩
    · obtain ⟨a, ha, z⟩ := G.go _ _ (laid_par1 okR.dv epV oR p)
      rw [laid_j1 he oR] at ha
      exact ⟨a, ha, z⟩
    · obtain ⟨y, hy, hd⟩ := Dat (h gV + k) (by omega) (by omega)
      rw [show h gV + k - h gV = k by omega] at hd
      exact ⟨_, y, hd, hy, rfl⟩
    · have l := par_lt p
      rw [qds_len] at l
      obtain ⟨y, hy, hd⟩ := Dat (h gV + k) (by omega) (by omega)
      rw [show h gV + k - h gV = k by omega] at hd
      refine ⟨_, hd, ?_⟩
      have pq := (rest_par hb ep (by omega) (by omega)).mp p
      by_cases c : y.1 = "/"
      · exact .inl ⟨c, pq, y, hy, c⟩
      · exact .inr ⟨c, pq.1⟩
    · show h (j1 eV R.length gV) = gQ
      rw [j1g]
      omega
    · show h gV + (gQ - h gV) = gQ
      omega
  have phiM := (mapW_iff okW.dv oW).mpr ⟨_, phi⟩
  refine ⟨?_, (mapW_iff okU.dv (show 0 < _ from okU.one)).mpr ⟨_, psi⟩⟩
  obtain ⟨im, hm⟩ := h1
  obtain ⟨jm, hj⟩ := phiM
  exact ⟨_, map_comp okQ okW okU hm hj⟩
end Va

namespace Va
open PySem PySem.Spec PyProof.Rows L2 Bg
theorem onr_deep {ds : List Int} {g s s' : Nat} (h : OnR ds g s) (h' : OnR ds g s') (e : dg ds s = dg ds s') : s = s' := by
  have key : ∀ {a b : Nat}, OnR ds g a → OnR ds g b → dg ds a = dg ds b → a < b → False := fun {a b} ha hb e l => by
    have an : An ds a b := by
      rcases hb with rfl | hb
      · rcases ha with rfl | ha
        · omega
        · exact ha
      · rcases ha with rfl | ha
        · have := hb.1; omega
        · exact ha.mid hb l
    have := an.dlt
    omega
  rcases Nat.lt_trichotomy s s' with c | c | c
  · exact (key h h' e c).elim
  · exact c
  · exact (key h' h e.symm c).elim
structure RstAt (Q : List Sr) (gQ : Nat) (V : List Sr) (gV s : Nat) : Prop where
  on : OnR (qds Q) gQ s
  deep : dg (qds Q) s = dg (qds V) gV
  lab : ∃ a b : Sr, Q[s]? = some a ∧ V[gV]? = some b ∧ a.2.1 = b.2.1
theorem RstAt.only {Q V : List Sr} {gQ gV s s' : Nat} (h : RstAt Q gQ V gV s) (h' : RstAt Q gQ V gV s') : s = s' := onr_deep h.on h'.on (h.deep.trans h'.deep.symm)
theorem rest_fit {Q V : List Sr} {gQ gV s e eV : Nat} (okQ : QuOk Q gQ) (okV : QuOk V gV) (h : RstAt Q gQ V gV s) (ep : EndP (qds Q) s e) (epV : EndP (qds V) gV eV) (hl : (laidR V gV eV (restR Q s e)).length ≤ 100) : QuOk (laidR V gV eV (restR Q s e)) (laidG gV eV (gQ - s)) := by
  obtain ⟨a, b, ha, hb, _⟩ := h.lab
  have okD := rest_ok okQ ep h.on ha
  refine (laid_sh okV okD epV).ok hl fun r hr => ?_
  rcases laid_mem hr with m | ⟨r', m, rfl⟩
  · exact okV.deep r m
  · have d1 := h.deep
    rw [qds_at ha] at d1
    rw [rest_eq ha] at m
    rcases List.mem_cons.mp m with rfl | m
    · show (1 : Int) + dg (qds V) gV - 1 ≤ 30
      rw [← d1]
      have := okQ.deep a (List.mem_of_getElem? ha)
      omega
    · obtain ⟨y, my, rfl⟩ := List.mem_map.mp m
      have := okQ.deep y (List.mem_of_mem_take (List.mem_of_mem_drop my))
      show y.2.2 - a.2.2 + 1 + dg (qds V) gV - 1 ≤ 30
      omega
theorem rest_cnt {Q V : List Sr} {gQ gV s e eV : Nat} (okQ : QuOk Q gQ) (okV : QuOk V gV) (h : RstAt Q gQ V gV s) (ep : EndP (qds Q) s e) (epV : EndP (qds V) gV eV) : (laidR V gV eV (restR Q s e)).length = V.length + (restR Q s e).length - 1 := by
  obtain ⟨a, b, ha, hb, _⟩ := h.lab
  exact laid_len (ends_lt epV).1 (rest_ok okQ ep h.on ha).one
end Va
namespace Va
open PySem PySem.Spec PyProof.Rows L2 Bg
end Va
namespace Va
open PySem PySem.Spec PyProof.Rows L2 Bg
end Va
namespace Va
open PySem PySem.Spec PyProof.Rows L2 Bg
section
variable {K : PySem.W.Frag} {EX : L2.St → XK} {ρ : List Sl} {α β γ τ R : Type} {F : Fr R}
end
end Va
namespace Va
open PySem PySem.Spec PyProof.Rows L2 Bg
def Both (Q : List Sr) (gQ : Nat) (U : List Sr) (gU : Nat) : Prop := (∃ im, IsMapN Q gQ U gU im) ∧ ∃ im, IsMapN U gU Q gQ im
def NoRest (Q : List Sr) (gQ : Nat) (V : List Sr) (gV : Nat) : Prop := ∀ s e eV : Nat, RstAt Q gQ V gV s → EndP (qds Q) s e → EndP (qds V) gV eV → ¬ Both Q gQ (laidR V gV eV (restR Q s e)) (laidG gV eV (gQ - s))
theorem map_self {Q : List Sr} {g : Nat} (ok : QuOk Q g) : ∃ im, IsMapN Q g Q g im := by
  have one : 0 < Q.length := ok.one
  refine (mapW_iff ok.dv one).mpr ⟨id, fun k hk => ?_, ?_, fun u k p => ?_⟩
  · obtain ⟨a, ha⟩ := get_lt hk
    exact ⟨⟨a, a, ha, ha, rfl⟩, fun e => e⟩
  · obtain ⟨a, ha⟩ := get_lt one
    by_cases c : a.1 = "/"
    · exact ⟨a, ha, .inr ⟨rfl, a, ha, c⟩⟩
    · exact ⟨a, ha, .inl c⟩
  · have l := par_lt p
    rw [qds_len] at l
    obtain ⟨a, ha⟩ := get_lt l.2.1
    by_cases c : a.1 = "/"
    · exact ⟨a, ha, .inl ⟨c, p, a, ha, c⟩⟩
    · exact ⟨a, ha, .inr ⟨c, p.1⟩⟩
theorem laid_one {V : List Sr} {g e : Nat} {r : Sr} : laidR V g e [r] = V := by
  unfold laidR
  simp
theorem ends_from {ds : List Int} {s : Nat} : ∀ (n k : Nat), k + n = ds.length → s ≤ k → k < ds.length → (∀ j, s < j → j ≤ k → dg ds s < dg ds j) → ∃ e, EndP ds s e
  | 0, k, h, _, h2, _ => by omega
  | n + 1, k, h, h1, h2, h3 => by
    by_cases c : k + 1 < ds.length ∧ dg ds s < dg ds (k + 1)
    · refine ends_from n (k + 1) (by omega) (by omega) c.1 fun j a b => ?_
      rcases Nat.eq_or_lt_of_le b with d | d
      · rw [d]; exact c.2
      · exact h3 j a (by omega)
    · exact ⟨k, h1, h2, h3, fun z w => c ⟨z, w⟩⟩
theorem ends_ex {Q : List Sr} {g s : Nat} (ok : QuOk Q g) (hs : s < Q.length) : ∃ e, EndP (qds Q) s e :=
  ends_from (Q.length - s) s (by rw [qds_len]; omega) (Nat.le_refl _) (by rw [qds_len]; exact hs) fun j a b => by omega
section
variable {Q V : List Sr} {gQ gV : Nat} {o : Option (QuT × List Int × List Int)}
theorem rest_size (okQ : QuOk Q gQ) (okV : QuOk V gV) (hm : Q.length + V.length ≤ 60) {s e eV : Nat} (a : RstAt Q gQ V gV s) (ep : EndP (qds Q) s e) (epV : EndP (qds V) gV eV) : (laidR V gV eV (restR Q s e)).length ≤ 100 := by
  rw [rest_cnt okQ okV a ep epV]
  obtain ⟨x, y, hx, _⟩ := a.lab
  rw [rest_len hx (ends_lt ep).1 (ends_lt ep).2]
  have := (ends_lt ep).1
  omega
theorem NoRest.not (okQ : QuOk Q gQ) (okV : QuOk V gV) (hm : Q.length + V.length ≤ 60) (n : NoRest Q gQ V gV) {R : List Sr} {gR eV : Nat} (okR : QuOk R gR) (epV : EndP (qds V) gV eV) (okW : QuOk (laidR V gV eV R) (laidG gV eV gR)) : ¬ Both Q gQ (laidR V gV eV R) (laidG gV eV gR) := fun ⟨h1, h2⟩ => by
  obtain ⟨s, a1, a2, a3, a4⟩ := rest_alike okQ okV okR epV okW h1 h2
  have at_ : RstAt Q gQ V gV s := ⟨a1, a2, a3⟩
  obtain ⟨x, _, hx, _⟩ := a3
  obtain ⟨e, ep⟩ := ends_ex okQ (List.getElem?_eq_some_iff.mp hx).1
  exact n s e eV at_ ep epV (a4 e ep (rest_fit okQ okV at_ ep epV (rest_size okQ okV hm at_ ep epV)))
theorem NoRest.ne (okQ : QuOk Q gQ) (hm : Q.length + Q.length ≤ 60) : ¬ NoRest Q gQ Q gQ := fun n => by
  obtain ⟨e, ep⟩ := ends_ex okQ okQ.goal
  obtain ⟨b, hb⟩ := get_lt okQ.goal
  have okR : QuOk [(("/" : Str), b.2.1, (1 : Int))] 0 := ⟨by simp, by simp, fun r hr => (by rw [List.mem_singleton.mp hr]; exact .inl rfl), fun r hr => (by rw [List.mem_singleton.mp hr]; exact okQ.lab b (List.mem_of_getElem? hb)), dv_cons.mpr ⟨rfl, trivial⟩, fun r hr => (by rw [List.mem_singleton.mp hr]; show (1 : Int) ≤ 30; decide), by simp⟩
  have z := n.not okQ okQ hm okR ep (by rw [laid_one]; exact okQ)
  rw [laid_one] at z
  exact z ⟨map_self okQ, map_self okQ⟩
end
end Va

namespace Va
open PySem PySem.Spec PyProof.Rows L2 Bg
section
variable {l : Str} {w d : Nat}
end
end Va
namespace Va
open PySem PySem.Spec PyProof.Rows L2 Bg
end Va

namespace Va
open PySem PySem.Spec PyProof.Rows L2 Bg
def lastDp (f : List Sr) : Int := dg (qds f) (f.length - 1)
theorem lastDp_snoc {f : List Sr} {y : Sr} : lastDp (f ++ [y]) = y.2.2 := by
  unfold lastDp
  refine qds_at ?_
  rw [List.length_append, List.length_singleton, Nat.add_sub_cancel, List.getElem?_append_right (Nat.le_refl _), Nat.sub_self]
  rfl
theorem dv_put {f : List Sr} {y : Sr} (h0 : f = [] → y.2.2 = 1) (h1 : f ≠ [] → Dv (qds f) ∧ 2 ≤ y.2.2 ∧ y.2.2 ≤ lastDp f + 1) : Dv (qds (f ++ [y])) := by
  by_cases c : f = []
  · subst c
    show Dv [y.2.2]
    rw [h0 rfl]
    exact dv_cons.mpr ⟨rfl, trivial⟩
  · obtain ⟨a, b, d⟩ := h1 c
    rw [qds_app]
    refine dv_snocs a ⟨b, ?_, trivial⟩
    rw [qds_len]
    exact d
structure TrB (i : Nat) (f : List Sr) : Prop where
  len : f.length ≤ 2 * i
  ok : ∀ y ∈ f, (y.1 = "/" ∨ y.1 = "//") ∧ labelB y.2.1 = true ∧ y.2.2 ≤ 20
  dv : f ≠ [] → Dv (qds f)
  ne : 0 < i → f ≠ []
def TrI (rows : List Sr) (g i : Nat) (s : Int × Int × List Sr) : Prop := TrB i s.2.2 ∧ (∃ k : Nat, s.2.1 = (k : Int) ∧ (g < i → k < s.2.2.length)) ∧
  ((s.1 = 99 ∧ (0 < i → dg (qds rows) (i - 1) ≤ lastDp s.2.2)) ∨ (s.1 ≠ 99 ∧ 0 < i ∧ ∃ j, j < i ∧ ¬ OnR (qds rows) g j ∧ dg (qds rows) j = s.1 ∧ (∀ k, j < k → k < i → s.1 < dg (qds rows) k) ∧ s.1 ≤ lastDp s.2.2 + 1))
section
variable {rows : List Sr} {g i : Nat} {left goal : Int} {f : List Sr} {x : Sr}
theorem TrI.start : TrI rows g 0 (99, 0, []) := ⟨⟨Nat.zero_le _, fun y hy => (nomatch hy), fun z => absurd rfl z, fun z => by omega⟩, ⟨0, rfl, fun z => by omega⟩, .inl ⟨rfl, fun z => by omega⟩⟩
theorem TrB.up (h : TrB i f) (hi : 0 < i) : TrB (i + 1) f := ⟨by have := h.len; omega, h.ok, h.dv, fun _ => h.ne hi⟩
theorem TrI.cap (ok : QuOk rows g) (h : TrI rows g i (left, goal, f)) (hx : rows[i]? = some x) (le : ¬ left < x.2.2) : (i = 0 → f = [] ∧ x.2.2 = 1) ∧ (0 < i → f ≠ [] ∧ Dv (qds f) ∧ 2 ≤ x.2.2 ∧ x.2.2 ≤ lastDp f + 1) := by
  obtain ⟨hb, _, hc⟩ := h
  have il := (List.getElem?_eq_some_iff.mp hx).1
  have di := qds_at hx
  refine ⟨fun z => ?_, fun i0 => ?_⟩
  · subst z
    have := hb.len
    have : f.length = 0 := by have : f.length ≤ 2 * 0 := this; omega
    exact ⟨List.length_eq_zero_iff.mp this, by rw [← di]; exact ok.dv.one⟩
  · have ne := hb.ne i0
    have t := ok.dv.two (i - 1) (by rw [qds_len]; omega)
    rw [show i - 1 + 1 = i by omega, di] at t
    refine ⟨ne, hb.dv ne, t.1, ?_⟩
    rcases hc with ⟨_, e⟩ | ⟨_, _, j, _, _, _, _, hl⟩
    · have e : dg (qds rows) (i - 1) ≤ lastDp f := e i0
      omega
    · have hl : left ≤ lastDp f + 1 := hl
      omega
theorem TrI.drop (ok : QuOk rows g) (hd : ∀ y ∈ rows, y.2.2 ≤ 20) (h : TrI rows g i (left, goal, f)) (hx : rows[i]? = some x) (le : ¬ left < x.2.2) (no : ¬ OnR (qds rows) g i) : TrI rows g (i + 1) (x.2.2, goal, f) := by
  have cap := h.cap ok hx le
  obtain ⟨hb, ⟨k, hk, hg⟩, hc⟩ := h
  have dx := hd x (List.mem_of_getElem? hx)
  have di := qds_at hx
  have lg := ok.goal
  have i0 : 0 < i := by
    rcases Nat.eq_zero_or_pos i with z | z
    · subst z
      rcases Nat.eq_zero_or_pos g with y | y
      · exact absurd (.inl y.symm) no
      · exact absurd (.inr (dv_root ok.dv (by rw [qds_len]; exact lg) y)) no
    · exact z
  refine ⟨hb.up i0, ⟨k, hk, fun z => ?_⟩, .inr ⟨by show x.2.2 ≠ 99; omega, by omega, i, by omega, no, di, fun k a b => by omega, (cap.2 i0).2.2.2⟩⟩
  rcases Nat.eq_or_lt_of_le (Nat.le_of_lt_succ z) with c | c
  · exact absurd (.inl c.symm) no
  · exact hg c
theorem TrI.put (ok : QuOk rows g) (hd : ∀ y ∈ rows, y.2.2 ≤ 20) (h : TrI rows g i (left, goal, f)) (hx : rows[i]? = some x) (le : ¬ left < x.2.2) {y : Sr} (ye : y.2.2 = x.2.2) (yo : (y.1 = "/" ∨ y.1 = "//") ∧ labelB y.2.1 = true) {goal' : Int} (hg' : (i = g → goal' = (f.length : Int)) ∧ (i ≠ g → goal' = goal)) {m : List Sr}
    (hm : m = [] ∨ ∃ z : Sr, m = [z] ∧ z.2.2 = x.2.2 + 1 ∧ z.2.2 ≤ 20 ∧ (z.1 = "/" ∨ z.1 = "//") ∧ labelB z.2.1 = true) : TrI rows g (i + 1) (99, goal', f ++ [y] ++ m) := by
  have cap := h.cap ok hx le
  obtain ⟨hb, ⟨k, hk, hg⟩, hc⟩ := h
  have dx := hd x (List.mem_of_getElem? hx)
  have di := qds_at hx
  have hl : f.length ≤ 2 * i := hb.len
  have il := (List.getElem?_eq_some_iff.mp hx).1
  have px := ok.dv.pos i (by rw [qds_len]; exact il)
  have f0 : f = [] → i = 0 := fun z => by
    rcases Nat.eq_zero_or_pos i with c | c
    · exact c
    · exact absurd z (cap.2 c).1
  have d1 : Dv (qds (f ++ [y])) := dv_put (fun z => by rw [ye]; exact (cap.1 (f0 z)).2) fun ne => by
    have i0 : 0 < i := by
      rcases Nat.eq_zero_or_pos i with c | c
      · exact absurd (cap.1 c).1 ne
      · exact c
    obtain ⟨_, a, b, c⟩ := cap.2 i0
    rw [ye]
    exact ⟨a, b, c⟩
  have gk : ∃ k : Nat, goal' = (k : Int) ∧ (g < i + 1 → k < f.length + 1) := by
    by_cases c : i = g
    · exact ⟨f.length, hg'.1 c, fun _ => by omega⟩
    · exact ⟨k, (hg'.2 c).trans hk, fun z => by have : k < f.length := hg (by omega); omega⟩
  obtain ⟨k', hk', hg2⟩ := gk
  have okf : ∀ z ∈ f ++ [y], (z.1 = "/" ∨ z.1 = "//") ∧ labelB z.2.1 = true ∧ z.2.2 ≤ 20 := fun z hz => by
    rcases List.mem_append.mp hz with q | q
    · exact hb.ok z q
    · rw [List.mem_singleton.mp q]
      exact ⟨yo.1, yo.2, by rw [ye]; exact dx⟩
  rcases hm with rfl | ⟨z, rfl, ze, z20, zw, zl⟩
  · rw [List.append_nil]
    refine ⟨⟨by rw [List.length_append, List.length_singleton]; omega, okf, fun _ => d1, fun _ => by simp⟩, ⟨k', hk', fun q => by show k' < (f ++ [y]).length; rw [List.length_append, List.length_singleton]; exact hg2 q⟩, .inl ⟨rfl, fun _ => ?_⟩⟩
    show dg (qds rows) (i + 1 - 1) ≤ lastDp (f ++ [y])
    rw [lastDp_snoc, Nat.add_sub_cancel, di, ye]
    exact Int.le_refl _
  · refine ⟨⟨by rw [List.length_append, List.length_append, List.length_singleton, List.length_singleton]; omega, fun q hq => ?_, fun _ => dv_put (fun q => by simp at q) fun _ => ⟨d1, by omega, by rw [lastDp_snoc]; omega⟩, fun _ => by simp⟩, ⟨k', hk', fun q => ?_⟩, .inl ⟨rfl, fun _ => ?_⟩⟩
    · rcases List.mem_append.mp hq with q | q
      · exact okf _ q
      · rw [List.mem_singleton.mp q]
        exact ⟨zw, zl, z20⟩
    · show k' < (f ++ [y] ++ [z]).length
      rw [List.length_append, List.length_append, List.length_singleton, List.length_singleton]
      have := hg2 q
      omega
    · show dg (qds rows) (i + 1 - 1) ≤ lastDp (f ++ [y] ++ [z])
      rw [lastDp_snoc, Nat.add_sub_cancel, di]
      omega
theorem TrI.fin (ok : QuOk rows g) (hl : rows.length ≤ 20) (h : TrI rows g rows.length (left, goal, f)) : ∃ k : Nat, goal = (k : Int) ∧ QuOk f k ∧ f.length ≤ 2 * rows.length ∧ ∀ y ∈ f, y.2.2 ≤ 20 := by
  obtain ⟨hb, ⟨k, hk, hg⟩, _⟩ := h
  have lf : f.length ≤ 2 * rows.length := hb.len
  have ne : f ≠ [] := hb.ne ok.one
  have kl : k < f.length := hg ok.goal
  exact ⟨k, hk, ⟨by omega, by omega, fun y hy => (hb.ok y hy).1, fun y hy => (hb.ok y hy).2.1, hb.dv ne, fun y hy => by have := (hb.ok y hy).2.2; omega, kl⟩, lf, fun y hy => (hb.ok y hy).2.2⟩
end
end Va

namespace Bg
open PySem PySem.Spec PyProof.Rows L2
end Bg
namespace Va
open PySem PySem.Spec PyProof.Rows L2 Bg
end Va
namespace Va
open PySem PySem.Spec PyProof.Rows L2 Bg
def Ndl (rows : List Sr) (g s : Nat) : Prop := EndP (qds rows) s s ∧ ¬ OnR (qds rows) g s ∧ ∃ im, IsMapN rows g (lessR rows s s) (lessG g s s) im
theorem Ndl.lt {rows : List Sr} {g s : Nat} (h : Ndl rows g s) : s < rows.length := by have := h.1.lt; rw [qds_len] at this; exact this
abbrev LvT := QuT × Int × Option (List Int)
inductive LvP (q0 : QuT) : List LvT → QuT → Prop
  | nil : LvP q0 [] q0
  | snoc {l : List LvT} {q q2 : QuT} {s : Nat} {m : Option (List Int)} : LvP q0 l q → Ndl q.rows q.g s → (∀ t, Ndl q.rows q.g t → s ≤ t) → q2.rows = lessR q.rows s s → q2.g = lessG q.g s s → m = mapF q.rows q.g q2.rows q2.g → LvP q0 (l ++ [(q, (s : Int), m)]) q2
theorem LvP.size {q0 q : QuT} {l : List LvT} (h : LvP q0 l q) : l.length + q.rows.length = q0.rows.length := by
  induction h with
  | nil => exact Nat.zero_add _
  | snoc h1 n _ e1 e2 _ ih =>
    have := n.lt
    rw [e1, less_len this (Nat.le_refl _), List.length_append, List.length_singleton]
    omega
def Lst (q0 q : QuT) : Prop := ∃ (l : List LvT) (q' : QuT), LvP q0 l q' ∧ (∀ s, ¬ Ndl q'.rows q'.g s) ∧ q.rows = q'.rows ∧ q.g = q'.g
theorem Rs.zero {S : Nat → Prop} : Rs [] (fun t => S t ∧ t < 0) := ⟨.nil, fun x => ⟨fun z => (nomatch z), fun ⟨_, _, _, z⟩ => absurd z (Nat.not_lt_zero _)⟩⟩
theorem Rs.put {l : List Int} {S : Nat → Prop} {i : Nat} (h : Rs l (fun t => S t ∧ t < i)) (p : S i) : Rs (l ++ [(i : Int)]) (fun t => S t ∧ t < i + 1) := ⟨List.pairwise_append.mpr ⟨h.up, List.pairwise_singleton _ _, fun a ha b hb => by
  obtain ⟨t, rfl, _, lt⟩ := (h.mem a).mp ha
  rw [List.mem_singleton.mp hb]; omega⟩, fun x => by
  rw [List.mem_append, List.mem_singleton, h.mem]
  constructor
  · rintro (⟨t, rfl, a, b⟩ | rfl)
    · exact ⟨t, rfl, a, by omega⟩
    · exact ⟨i, rfl, p, by omega⟩
  · rintro ⟨t, rfl, a, b⟩
    rcases Nat.eq_or_lt_of_le (Nat.le_of_lt_succ b) with c | c
    · exact .inr (by rw [c])
    · exact .inl ⟨t, rfl, a, c⟩⟩
def MsT (Q : List Sr) (g : Nat) (L : List Sr) (g' : Nat) (o : Option (DocT × Int)) : Prop := (o = none → ∃ im, IsMapN Q g L g' im) ∧ ∀ (d : DocT) (p : Int), o = some (d, p) → (¬ ∃ im, IsMapN Q g L g' im) ∧ ∃ (z : Str) (pl : List Nat) (Dl : List Int) (pn : Nat), LW L g' z d.rows pl Dl ∧ (∀ r ∈ Q, r.2.1 ≠ z) ∧ p = (pn : Int) ∧ pl[g']? = some pn
theorem less_nm {r : List Sr} {s e : Nat} {o n : Str} : lessR (nmR r o n) s e = nmR (lessR r s e) o n := by
  unfold lessR nmR
  rw [List.map_append, List.map_take, List.map_drop]
theorem MsT.not {Q L : List Sr} {g g' : Nat} {d : DocT} {p : Int} (h : MsT Q g L g' (some (d, p))) (ok : QuOk Q g) {pn : Nat} (e : p = (pn : Int)) : ¬ FuD d.rows Q g none g pn := by
  rintro ⟨f, mf, e2⟩
  obtain ⟨no, z, pl, Dl, qn, lw, hz, e1, hp⟩ := h.2 d p rfl
  have : qn = pn := by omega
  subst this
  exact no (lw.map_ ok hz mf (by rw [e2]; exact hp))
def NmT (Q R : List Sr) : Prop := R = Q ∨ ∃ (old z : Str), labelB z = true ∧ (∀ x ∈ Q, x.2.1 ≠ z) ∧ R = nmR Q old z
theorem NmT.ok {Q R : List Sr} {g : Nat} (h : NmT Q R) (ok : QuOk Q g) : QuOk R g := by
  rcases h with rfl | ⟨o, z, hz, _, rfl⟩
  · exact ok
  · exact nmR_ok ok hz
theorem NmT.qds {Q R : List Sr} (h : NmT Q R) : Bg.qds R = Bg.qds Q := by
  rcases h with rfl | ⟨o, z, hz, _, rfl⟩
  · rfl
  · exact nmR_qds ..
theorem NmT.len {Q R : List Sr} (h : NmT Q R) : R.length = Q.length := by
  rcases h with rfl | ⟨o, z, hz, _, rfl⟩
  · rfl
  · exact nmR_len ..
theorem NmT.map {Q R : List Sr} {g s e : Nat} (h : NmT Q R) (ok : QuOk Q g) (ep : EndP (Bg.qds Q) s e) (no : ¬ OnR (Bg.qds Q) g s) : (∃ im, IsMapN R g (lessR R s e) (lessG g s e) im) ↔ ∃ im, IsMapN Q g (lessR Q s e) (lessG g s e) im := by
  rcases h with rfl | ⟨o, z, hz, hn, rfl⟩
  · exact Iff.rfl
  · rw [less_nm]
    refine exists_congr fun im => nmR_map ok (less_ok ok ep no) hn fun r hr => ?_
    unfold lessR at hr
    rcases List.mem_append.mp hr with m | m
    · exact hn r (List.mem_of_mem_take m)
    · exact hn r (List.mem_of_mem_drop m)
structure Wd (A B : Str) (t rows : List Sr) : Prop where
  eq : rows = (("//" : Str), A, (1 : Int)) :: (("/" : Str), B, (2 : Int)) :: t
  all : ∀ x ∈ t, x.2.1 = B ∧ x.2.2 = 2
section
variable {A B : Str} {t rows : List Sr}
theorem Wd.len (h : Wd A B t rows) : rows.length = t.length + 2 := by rw [h.eq]; rfl
theorem Wd.at_ (h : Wd A B t rows) {k : Nat} (hk : 1 ≤ k) (hl : k < rows.length) : ∃ x, rows[k]? = some x ∧ x.2.1 = B ∧ x.2.2 = 2 := by
  obtain ⟨x, hx⟩ := get_lt hl
  refine ⟨x, hx, ?_⟩
  rw [h.eq] at hx
  match k with
  | 1 => cases hx; exact ⟨rfl, rfl⟩
  | k + 2 => exact h.all x (List.mem_of_getElem? hx)
theorem Wd.dg0 (h : Wd A B t rows) : dg (qds rows) 0 = 1 := qds_at (r := (("//" : Str), A, (1 : Int))) (by rw [h.eq]; rfl)
theorem Wd.dg (h : Wd A B t rows) {k : Nat} (hk : 1 ≤ k) (hl : k < rows.length) : Bg.dg (qds rows) k = 2 := by
  obtain ⟨x, hx, _, e⟩ := h.at_ hk hl
  rw [qds_at hx, e]
theorem Wd.par (h : Wd A B t rows) {u k : Nat} : Par (qds rows) u k ↔ u = 0 ∧ 1 ≤ k ∧ k < rows.length := by
  constructor
  · intro p
    have l := par_lt p
    rw [qds_len] at l
    refine ⟨?_, by omega, l.2.1⟩
    rcases Nat.eq_zero_or_pos u with z | z
    · exact z
    · have e := p.2
      rw [h.dg z l.2.2, h.dg (by omega) l.2.1] at e
      omega
  · rintro ⟨rfl, k1, kl⟩
    refine ⟨⟨by omega, by rw [qds_len]; exact kl, fun j a b => ?_⟩, ?_⟩
    · rw [h.dg0, h.dg (by omega) (by omega)]; omega
    · rw [h.dg0, h.dg k1 kl]; rfl
theorem Wd.less (h : Wd A B t rows) {s : Nat} (hs : 2 ≤ s) : Wd A B (t.take (s - 2) ++ t.drop (s - 1)) (lessR rows s s) := by
  refine ⟨?_, fun x hx => ?_⟩
  · unfold lessR
    rw [h.eq]
    obtain ⟨n, rfl⟩ : ∃ n, s = n + 2 := ⟨s - 2, by omega⟩
    rfl
  · rcases List.mem_append.mp hx with m | m
    · exact h.all x (List.mem_of_mem_take m)
    · exact h.all x (List.mem_of_mem_drop m)
theorem Wd.ndl (h : Wd A B t rows) {s : Nat} : Ndl rows 1 s ↔ 2 ≤ s ∧ s < rows.length := by
  have h2 := h.len
  constructor
  · intro n
    refine ⟨?_, n.lt⟩
    rcases Nat.lt_or_ge s 2 with c | c
    · exfalso
      refine n.2.1 ?_
      match s, c with
      | 0, _ => exact .inr (h.par.mpr ⟨rfl, Nat.le_refl _, by omega⟩).1
      | 1, _ => exact .inl rfl
    · exact c
  · rintro ⟨hs, hl⟩
    have w2 := h.less hs
    have l2 : (lessR rows s s).length = rows.length - 1 := by rw [less_len hl (Nat.le_refl _)]; omega
    refine ⟨⟨Nat.le_refl _, by rw [qds_len]; exact hl, fun j a b => by omega, fun z => ?_⟩, fun on => ?_, ?_⟩
    · rw [qds_len] at z
      rw [h.dg (by omega) hl, h.dg (by omega) z]
      omega
    · rcases on with e | a
      · omega
      · have := a.1
        omega
    · have dv : Dv (qds rows) := ⟨h.dg0, fun i hi => by
        rw [qds_len] at hi
        rw [h.dg (by omega) hi]
        rcases Nat.eq_zero_or_pos i with z | z
        · subst z; rw [h.dg0]; exact ⟨by decide, by decide⟩
        · rw [h.dg z (by omega)]; exact ⟨by decide, by decide⟩⟩
      have g1 : lessG 1 s s = 1 := by unfold lessG; rw [if_neg (by omega)]
      have at2 : ∀ k, 1 ≤ k → k < rows.length → ∃ (x y : Sr), rows[k]? = some x ∧ (lessR rows s s)[if k = s then 1 else if k < s then k else k - 1]? = some y ∧ x.2.1 = y.2.1 ∧ (x.1 = "/" → y.1 = "/") ∧ 1 ≤ (if k = s then 1 else if k < s then k else k - 1) ∧ (if k = s then 1 else if k < s then k else k - 1) < (lessR rows s s).length := fun k k1 kl => by
        obtain ⟨x, hx, xb, _⟩ := h.at_ k1 kl
        by_cases c : k = s
        · rw [if_pos c]
          exact ⟨x, (("/" : Str), B, (2 : Int)), hx, by rw [w2.eq]; rfl, xb, fun _ => rfl, Nat.le_refl _, by omega⟩
        · rw [if_neg c]
          by_cases d : k < s
          · rw [if_pos d]
            exact ⟨x, x, hx, by rw [less_at hl (Nat.le_refl _), if_pos d]; exact hx, rfl, fun z => z, k1, by omega⟩
          · rw [if_neg d]
            exact ⟨x, x, hx, by rw [less_at hl (Nat.le_refl _), if_neg (by omega), show k - 1 + (s + 1 - s) = k by omega]; exact hx, rfl, fun z => z, by omega, by omega⟩
      have f0 : (if (0 : Nat) = s then 1 else if 0 < s then 0 else 0 - 1) = 0 := by rw [if_neg (by omega), if_pos (by omega)]
      refine (mapW_iff dv (by omega)).mpr ⟨fun k => if k = s then 1 else if k < s then k else k - 1, fun k hk => ?_, ?_, fun u k p => ?_⟩
      · rcases Nat.eq_zero_or_pos k with z | z
        · subst z
          show Likes rows 1 _ _ 0 (if (0 : Nat) = s then 1 else if 0 < s then 0 else 0 - 1)
          rw [f0]
          exact ⟨⟨_, _, (by rw [h.eq]; rfl), (by rw [w2.eq]; rfl), rfl⟩, fun z => by omega⟩
        · obtain ⟨x, y, hx, hy, e, _⟩ := at2 k z hk
          refine ⟨⟨x, y, hx, hy, e⟩, fun z1 => ?_⟩
          subst z1
          show (if (1 : Nat) = s then 1 else if 1 < s then 1 else 1 - 1) = _
          rw [g1, if_neg (by omega), if_pos (by omega)]
      · exact ⟨(("//" : Str), A, (1 : Int)), by rw [h.eq]; rfl, .inl (by show ("//" : Str) ≠ "/"; decide)⟩
      · obtain ⟨rfl, k1, kl⟩ := h.par.mp p
        obtain ⟨x, y, hx, hy, _, w, y1, yl⟩ := at2 k k1 kl
        show GoesT rows _ k _ (some (if (0 : Nat) = s then 1 else if 0 < s then 0 else 0 - 1))
        rw [f0]
        have pr := w2.par.mpr ⟨rfl, y1, yl⟩
        by_cases c : x.1 = "/"
        · exact ⟨x, hx, .inl ⟨c, pr, y, hy, w c⟩⟩
        · exact ⟨x, hx, .inr ⟨c, pr.1⟩⟩
theorem Wd.dv (h : Wd A B t rows) : Dv (qds rows) := ⟨h.dg0, fun i hi => by
  rw [qds_len] at hi
  rw [h.dg (by omega) hi]
  rcases Nat.eq_zero_or_pos i with z | z
  · subst z; rw [h.dg0]; exact ⟨by decide, by decide⟩
  · rw [h.dg z (by omega)]; exact ⟨by decide, by decide⟩⟩
theorem Wd.ok (h : Wd A B t rows) (hA : labelB A = true) (hB : labelB B = true) (hw : ∀ x ∈ t, x.1 = "/" ∨ x.1 = "//") (hl : t.length ≤ 90) : QuOk rows 1 := by
  have l := h.len
  have mem : ∀ x ∈ rows, x = (("//" : Str), A, (1 : Int)) ∨ x = (("/" : Str), B, (2 : Int)) ∨ x ∈ t := fun x hx => by
    rw [h.eq] at hx
    rcases List.mem_cons.mp hx with c | c
    · exact .inl c
    · exact .inr (List.mem_cons.mp c)
  refine ⟨by omega, by omega, fun x hx => ?_, fun x hx => ?_, h.dv, fun x hx => ?_, by omega⟩
  · rcases mem x hx with rfl | rfl | c
    · exact .inr rfl
    · exact .inl rfl
    · exact hw x c
  · rcases mem x hx with rfl | rfl | c
    · exact hA
    · exact hB
    · rw [(h.all x c).1]; exact hB
  · rcases mem x hx with rfl | rfl | c
    · show (1 : Int) ≤ 30; decide
    · show (2 : Int) ≤ 30; decide
    · rw [(h.all x c).2]; decide
theorem Wd.rs (h : Wd A B t rows) {l : List Int} (r : Rs l (Ndl rows 1)) : l = rng 2 t.length := by
  refine r.only (T := fun s => 2 ≤ s ∧ s < rows.length) ⟨rng_inc, fun x => ?_⟩ fun i => h.ndl
  have hl := h.len
  unfold rng
  rw [List.mem_map]
  constructor
  · rintro ⟨k, hk, rfl⟩
    rw [List.mem_range] at hk
    exact ⟨k + 2, by omega, by omega, by omega⟩
  · rintro ⟨k, rfl, a, b⟩
    exact ⟨k - 2, List.mem_range.mpr (by omega), by omega⟩
theorem Wd.lvp {q0 q : QuT} {l : List LvT} (h0 : Wd A B t q0.rows) (g0 : q0.g = 1) (h : LvP q0 l q) : q.g = 1 ∧ ∃ t', Wd A B t' q.rows := by
  induction h with
  | nil => exact ⟨g0, t, h0⟩
  | snoc h1 n _ e1 e2 _ ih =>
    obtain ⟨g, t', w⟩ := ih
    rw [g] at n
    have := w.ndl.mp n
    refine ⟨?_, _, e1 ▸ w.less this.1⟩
    rw [e2, g]; unfold lessG; rw [if_neg (by omega)]
theorem Wd.lst {q0 q : QuT} (h0 : Wd A B t q0.rows) (g0 : q0.g = 1) (h : Lst q0 q) : q.rows = [(("//" : Str), A, (1 : Int)), (("/" : Str), B, (2 : Int))] := by
  obtain ⟨l, q', hl, no, e, _⟩ := h
  obtain ⟨g, t', w⟩ := h0.lvp g0 hl
  cases t' with
  | nil => rw [e, w.eq]
  | cons x t' =>
    refine absurd ?_ (no 2)
    rw [g, w.ndl]
    exact ⟨Nat.le_refl _, by rw [w.len]; simp⟩
end
end Va

namespace Va
open PySem PySem.Spec PyProof.Rows L2 Bg
section
variable {K : PySem.W.Frag} {EX : L2.St → XK} {ρ : List Sl} {α β γ R : Type} {F : Fr R}
end
end Va

namespace Va
open PySem PySem.Spec PyProof.Rows L2 Bg
section
variable {dr : List (Str × Int)} {p m : Nat}
end
section
variable {rows : List Sr} {a : Sr} {g : Nat}
end
end Va

namespace Bg
open PySem PySem.Spec PyProof.Rows L2
end Bg
namespace Va
open PySem PySem.Spec PyProof.Rows L2 Bg
section
variable {K : PySem.W.Frag} {EX : L2.St → XK} {ρ : List Sl} {α β γ R : Type} {F : Fr R}
end
end Va
namespace Va
open PySem PySem.Spec PyProof.Rows L2 Bg
section
variable {X : Cx} {pins : List (Addr × Obj)} {σ : L2.St} {H : Hp} {s : Shared}
end
section
variable {K : PySem.W.Frag} {EX : L2.St → XK} {ρ : List Sl} {α β γ R : Type} {F : Fr R}
end
end Va

namespace Va
open PySem PySem.Spec PyProof.Rows L2 Bg
section
variable {qr : List Sr} {z : Str} {rows rows' : List (Str × Int)} {pl pl' : List Nat} {Dl Dl' : List Int}
theorem wt_two (w : Str) : (w = "//" ∧ wt w = 2) ∨ (w ≠ "//" ∧ wt w = 1) := by
  unfold wt
  by_cases c : w = "//"
  · exact .inl ⟨c, if_pos c⟩
  · exact .inr ⟨c, if_neg c⟩
theorem LO.places (h : LO qr z rows pl Dl) (h' : LO qr z rows' pl' Dl') (hl : pl.length = qr.length) (hl' : pl'.length = qr.length) : pl = pl' := by
  have key : ∀ j, j < qr.length → pl[j]? = pl'[j]? := fun j => by
    induction j with
    | zero =>
      intro hj
      obtain ⟨p, hp⟩ := get_lt (l := pl) (n := 0) (by omega)
      obtain ⟨q, hq⟩ := get_lt (l := pl') (n := 0) (by omega)
      obtain ⟨s, hs⟩ := get_lt hj
      have a := h.first p s hp hs
      have b := h'.first q s hq hs
      rw [hp, hq, show p = q by omega]
    | succ j ih =>
      intro hj
      obtain ⟨p, hp⟩ := get_lt (l := pl) (n := j + 1) (by omega)
      obtain ⟨q, hq⟩ := get_lt (l := pl') (n := j + 1) (by omega)
      obtain ⟨p0, hp0⟩ := get_lt (l := pl) (n := j) (by omega)
      have hq0 := hp0
      rw [ih (by omega)] at hq0
      obtain ⟨s, hs⟩ := get_lt hj
      rw [hp, hq, h.next j p0 p s hp0 hp hs, h'.next j p0 q s hq0 hq hs]
  refine List.ext_getElem? fun j => ?_
  rcases Nat.lt_or_ge j qr.length with c | c
  · exact key j c
  · rw [List.getElem?_eq_none (by omega), List.getElem?_eq_none (by omega)]
theorem LO.deps (h : LO qr z rows pl Dl) (h' : LO qr z rows' pl' Dl') (hl : pl.length = qr.length) (hl' : pl'.length = qr.length) (dv : Dv (qds qr)) : ∀ j, j < qr.length → Dl[j]? = Dl'[j]? := fun j => by
  induction j using Nat.strongRecOn with
  | _ j ih =>
    intro hj
    obtain ⟨d, hd⟩ := get_lt (l := Dl) (n := j) (by rw [h.dlen]; omega)
    obtain ⟨d', hd'⟩ := get_lt (l := Dl') (n := j) (by rw [h'.dlen]; omega)
    obtain ⟨s, hs⟩ := get_lt hj
    rw [hd, hd']
    congr 1
    rcases Nat.eq_zero_or_pos j with c | c
    · subst c
      rw [h.dep0 d s hd hs, h'.dep0 d' s hd' hs]
    · obtain ⟨u, p, _⟩ := dv_par dv (dv_root dv (by rw [qds_len]; exact hj) c)
      have lu := (par_lt p).1
      obtain ⟨du, hdu⟩ := get_lt (l := Dl) (n := u) (by rw [h.dlen]; omega)
      have hdu' := hdu
      rw [ih u lu (by omega)] at hdu'
      rw [h.dep u j du d s p hdu hd hs, h'.dep u j du d' s p hdu' hd' hs]
theorem LO.cover (h : LO qr z rows pl Dl) (hl : pl.length = qr.length) : ∀ j, j < qr.length → ∀ (t : Nat), pl[j]? = some t → ∀ p, p ≤ t → ∃ (i q : Nat) (s : Sr), i ≤ j ∧ pl[i]? = some q ∧ qr[i]? = some s ∧ (q = p ∨ (q = p + 1 ∧ s.1 = "//")) := fun j => by
  induction j with
  | zero =>
    intro hj t ht p hp
    obtain ⟨s, hs⟩ := get_lt hj
    have f := h.first t s ht hs
    refine ⟨0, t, s, Nat.le_refl _, ht, hs, ?_⟩
    rcases wt_two s.1 with ⟨a, b⟩ | ⟨a, b⟩
    · rw [b] at f
      rcases Nat.lt_or_ge p t with c | c
      · exact .inr ⟨by omega, a⟩
      · exact .inl (by omega)
    · rw [b] at f
      exact .inl (by omega)
  | succ j ih =>
    intro hj t ht p hp
    obtain ⟨s, hs⟩ := get_lt hj
    obtain ⟨t0, ht0⟩ := get_lt (l := pl) (n := j) (by omega)
    have f := h.next j t0 t s ht0 ht hs
    rcases Nat.lt_or_ge t0 p with c | c
    · refine ⟨j + 1, t, s, Nat.le_refl _, ht, hs, ?_⟩
      rcases wt_two s.1 with ⟨a, b⟩ | ⟨a, b⟩
      · rw [b] at f
        rcases Nat.lt_or_ge p t with d | d
        · exact .inr ⟨by omega, a⟩
        · exact .inl (by omega)
      · rw [b] at f
        exact .inl (by omega)
    · obtain ⟨i, q, s', a, b⟩ := ih (by omega) t0 ht0 p c
      exact ⟨i, q, s', by omega, b⟩
theorem LO.only (h : LO qr z rows pl Dl) (h' : LO qr z rows' pl' Dl') (hl : pl.length = qr.length) (hl' : pl'.length = qr.length) (dv : Dv (qds qr)) (one : 1 ≤ qr.length) : rows = rows' ∧ pl = pl' := by
  have ep := h.places h' hl hl'
  subst ep
  have ed := h.deps h' hl hl' dv
  refine ⟨?_, rfl⟩
  obtain ⟨t, ht⟩ := get_lt (l := pl) (n := qr.length - 1) (by omega)
  have l1 := h.fin (qr.length - 1) t (by omega) ht
  have l2 := h'.fin (qr.length - 1) t (by omega) ht
  refine List.ext_getElem? fun p => ?_
  rcases Nat.lt_or_ge p rows.length with c | c
  · obtain ⟨i, q, s, a, hq, hs, e⟩ := h.cover hl (qr.length - 1) (by omega) t ht p (by omega)
    obtain ⟨d, hd⟩ := get_lt (l := Dl) (n := i) (by rw [h.dlen]; omega)
    have hd' := hd
    rw [ed i (by omega)] at hd'
    obtain ⟨r1, r2⟩ := h.at_ i q s d hq hs hd
    obtain ⟨r1', r2'⟩ := h'.at_ i q s d hq hs hd'
    rcases e with rfl | ⟨rfl, w⟩
    · rw [r1, r1']
    · have := (r2 w).2
      have := (r2' w).2
      simp only [Nat.add_sub_cancel] at *
      rw [(r2 w).2, (r2' w).2]
  · rw [List.getElem?_eq_none c, List.getElem?_eq_none (by omega)]
structure LnI (ds Dl : List Int) (i : Nat) (line : List Int) : Prop where
  len0 : i = 0 → line = []
  len : 0 < i → (line.length : Int) = dg ds (i - 1)
  at_ : ∀ (j : Nat) (d : Int), line[j]? = some d → ∃ u, u < i ∧ (u + 1 = i ∨ An ds u (i - 1)) ∧ dg ds u = (j : Int) + 1 ∧ Dl[u]? = some d
end
end Va

namespace Va
open PySem PySem.Spec PyProof.Rows L2 Bg
def TxtV (K : PySem.W.Frag) (H : Hp) (v : V) : Prop := (∃ i : Int, v = .int i ∧ i.natAbs < 10 ^ 70) ∨ (∃ z, v = .str z ∧ z.length ≤ 900) ∨ v = .non ∨ (∃ b, v = .bl b) ∨ ∃ (a : Addr) (d : PyData), v = .ref a ∧ Dp K H (.ref a) d ∧ d.showable = true ∧ d.hasDict = false ∧ d.depth ≤ 64 ∧ d.shown.length ≤ 900
def rStrV (K : PySem.W.Frag) : List V → Hp → VK → Prop := fun xs H Q => ∃ v, xs = [v] ∧ TxtV K H v ∧ ∀ z : Str, z.length ≤ 900 → Q (.str z) H
theorem int_log {i : Int} (h : i.natAbs < 10 ^ 70) : i.natAbs.log2 < 1920 := by
  by_cases c : i.natAbs = 0
  · rw [c]; decide
  · rw [Nat.log2_lt c]
    exact Nat.lt_of_lt_of_le h (Nat.le_trans (by decide +kernel : 10 ^ 70 ≤ 2 ^ 240) (Nat.pow_le_pow_right (by decide) (by decide)))
theorem call_strV {X : Cx} (gd : X.A.guards = some []) (hu : X.A.units + 200 < cLine) : CallR X (.type "str") (rStrV X.K) := by
  intro pins s σ H xs us Q I r h
  obtain ⟨v, rfl, hv, q⟩ := h
  obtain ⟨u, rfl, rx⟩ := vals1 r
  rcases hv with ⟨i, rfl, hi⟩ | ⟨z, rfl, hz⟩ | rfl | ⟨b, rfl⟩ | ⟨a, d, rfl, dp, h1, h2, h3, h4⟩
  · obtain ⟨t, rfl⟩ := rx
    exact PySem.P.str_of_int (int_log hi) ⟨.str _, H, I.tok _, ⟨_, rfl⟩, q _ (by rw [PySem.ofString_length]; exact Nat.le_trans (int_text_length_le10 (k := 70) (by decide) hi) (by decide))⟩
  · obtain ⟨t, rfl⟩ := rx
    exact PySem.P.str_of_str ⟨.str z, H, I, ⟨t, rfl⟩, q _ hz⟩
  · cases rx
    exact PySem.P.str_of_none ⟨.str _, H, I.tok _, ⟨_, rfl⟩, q _ (by decide +kernel)⟩
  · cases rx
    exact PySem.P.str_of_bool ⟨.str _, H, I.tok _, ⟨_, rfl⟩, q _ (by cases b <;> decide +kernel)⟩
  · cases rx
    obtain ⟨as, rd⟩ := Dp.reads I d _ _ dp rfl
    exact PySem.str_of_reads rd h1 (PyData.noDict_hsm h2) gd (by omega) (fun _ _ z => z) (fun h' u tk hk => ⟨.str d.shown, H, I.kept hk, ⟨u, rfl⟩, q _ h4⟩) (by rw [sizeLine_eq]; omega)
end Va
namespace Bg
open PySem PySem.Spec PyProof.Rows L2 Va
def tMkV (C : Addr) (sp : Sp) (ta : TA) : TE := fun σ H Q => ta σ H fun vs H1 => vs.length ≤ 1000 ∧ ∀ a, H1 a = none → sp (.ref a :: (vs ++ [])) (upd H1 a (exo a C none)) (fun v H2 => v = .non ∧ Q (.ref a) H2) (fun _ _ _ => False)
theorem pe_oexG {X : Cx} {CX : CXT} {x : Str} {C fI : Addr} {k : Nat} {fd : FuncData} {ps : List Str} {sp : Sp} {e : Expr} {es : List Expr} {ta : TA} {p pos : Pos} (T : OexC X.K C) (iC : PySem.W.findIn X.K (.ref C) "__init__" = some (some (.ref fI))) (tI : PySem.W.typeIn X.K (.ref fI) = some (.type "function"))
    (F1 : FnOkG X.prog X.w X.K X.mg X.base CX k fI fd ps sp) (hr : Room (k + 1) X.A) (gd : X.A.guards = some []) (hb : Binds X.K fd ps []) (hx : Passes CX X (fun _ _ _ => False)) (hg : Gl X x) (hm : X.mg x = some (.ref C)) (ha : PA X (e :: es) ta)
    (hdb : (x == ("__debug__" : Str)) = false := by decide) (he : starEach (e :: es) X.env = (false, eval e X.env) :: starEach es X.env := by rfl) (hpl : (backTo pos (starEach es X.env)).any (·.1) = false := by rfl) :
    PE X (.Call (.Name x p) (e :: es) [] pos) (tMkV C sp ta) := ⟨fun pins s σ H Q I h => by
  obtain ⟨nm, q, N, bs, bm, sn, sub, ab, col, dd, k0, k1, k2, k3, k5, hC, hbm⟩ := T.cls
  refine wpAny_Call_Name_kw (ld_glob I hg hm ?_ hdb)
  refine PySem.W.callWith_K (h₀ := X.base) I.ok.mod.kin T.kC (thn (ha.run pos pins s σ H _ I h) fun us s1 ⟨vs, H1, I1, r1, hz, q1⟩ => ⟨I1.kIn, ?_⟩) he hpl
  show wpAny _ _ (call (.ref C) us) _ _ _
  obtain ⟨hp, g, dr, tk, os⟩ := s1
  have hsz : hp.objs.size ≤ hp.objs.size + 1 := Nat.le_succ _
  have hn : H1 (hp.objs.size + 1) = none := I1.hok.fresh hsz
  have hq := q1 (hp.objs.size + 1) hn
  have kk : ∀ b o, hp.get? b = some o → ((hp.push (PySem.W.kdv_tup us)).push (PySem.HandSPX.excO C hp.objs.size)).get? b = some o := fun b o e => Heap.get?_push_of_some _ (Heap.get?_push_of_some _ e)
  have hget : ((hp.push (PySem.W.kdv_tup us)).push (PySem.HandSPX.excO C hp.objs.size)).get? (hp.objs.size + 1) = some (PySem.HandSPX.excO C hp.objs.size) := by heap_get
  have I2 : Inv X pins σ (upd H1 (hp.objs.size + 1) (exo (hp.objs.size + 1) C none)) ⟨(hp.push (PySem.W.kdv_tup us)).push (PySem.HandSPX.excO C hp.objs.size), g, dr, tk, os⟩ :=
    I1.laid (t' := tk) (a := hp.objs.size + 1) (o := exo (hp.objs.size + 1) C none) (h' := (hp.push (PySem.W.kdv_tup us)).push (PySem.HandSPX.excO C hp.objs.size)) kk hsz (exo_ok hget)
  rw [List.append_nil] at hq
  have r2 : Vals (V.ref (hp.objs.size + 1) :: vs) (Value.ref (hp.objs.size + 1) :: us) := .cons rfl r1
  have hl : (Value.ref (hp.objs.size + 1) :: us).length = ps.length := by
    have e := r2.length
    rw [F1.len _ _ _ _ hq] at e
    exact e.symm
  have hus : us.length ≤ sizeLine := by
    rw [← Paired.length r1, sizeLine_eq]
    omega
  have bn := hb ⟨(hp.push (PySem.W.kdv_tup us)).push (PySem.HandSPX.excO C hp.objs.size), g, dr, tk, os⟩ (Value.ref (hp.objs.size + 1) :: us) I2.kIn (by rw [List.append_nil]; exact hl)
  rw [List.append_nil] at bn
  refine wpAny_call (PySem.HandSPX.call_own F.excBase_ValueError (fun Y => PySem.HandSPX.refsVE_contains Y bm hbm) (I1.kIn _ _ hC) (PySem.W.looks_findIn I1.kIn iC) (fun self => PySem.W.bind_fn I1.kIn self tI) hus
    (codeAny_mono (F1.runs _ X.stack _ _ ⟨Value.ref (hp.objs.size + 1) :: us, []⟩ (Value.ref (hp.objs.size + 1) :: us) _ _ (fun _ _ _ => False) (hr.make C us []) gd (I2.env0.make C us []) bn r2 hq) fun r s' hq' => ?_))
  cases r with
  | error er => exact hx pins σ _ _ er s' I2 hq'
  | ok fl =>
    cases fl with
    | ret u =>
      obtain ⟨v, H2, J, rv, ev, q2⟩ := I2.after hq'
      subst ev
      exact ⟨rv, .ref (hp.objs.size + 1), H2, J, rfl, q2⟩
    | next => exact False.elim hq'
    | brk => exact False.elim hq'
    | cont => exact False.elim hq'⟩
end Bg
namespace Bg
open PySem PySem.Spec PyProof.Rows L2 Va
def rIsO (K : PySem.W.Frag) : List V → Hp → VK → Prop := fun xs H Q => ∃ (a C dx : Addr) (fs : List (Str × V)) (c : V) (cv : Value) (b : Bool), xs = [.ref a, c] ∧ (∀ u, RelV c u → u = cv) ∧ H a = some (exo a C (some dx)) ∧ H dx = some (exd dx fs) ∧ ExcC K C ∧ PySem.W.kitOne K (.ref C) cv = some b ∧ Q (.bl b) H
theorem call_isO {X : Cx} : CallR X (.builtin "isinstance") (rIsO X.K) := by
  rintro pins s σ H xs us Q I r ⟨a, C, dx, fs, c, cv, b, rfl, hcv, ha, hd, T, one, q⟩
  cases r with
  | cons rx rr =>
    cases rr with
    | cons rt rr =>
      cases rr
      cases rx
      cases hcv _ rt
      obtain ⟨t1, pa⟩ := exo_at I.hok ha
      obtain ⟨mA, ns, _⟩ := exd_at I.hok hd
      obtain ⟨od, isD, look⟩ := lookIn_ns ns
      have inst : PySem.W.InstAt s.heap a ({ cls := .ref C, dict := some dx, data := .fields #[.ref t1, .none, .none, .none, .bool false, .none] } : Obj) C (some od) := ⟨pa, rfl, (by unfold PySem.W.notCls; rfl), isD⟩
      obtain ⟨cd, hcd, _⟩ := PySem.W.any_some T.hd
      exact PySem.W.kia_one (PySem.W.kitx_exc (by rw [hcd]; rfl) T.hg T.hk T.hs T.ha T.hn T.ht T.hm) I.kIn inst one (fun z => nomatch z) fun tk => ⟨.bl b, H, I.kept (t' := tk) fun _ _ z => z, rfl, q⟩
def tOf (K : PySem.W.Frag) (f : Str) (te : TE) : TE := fun σ H Q => te σ H fun x H1 => ∃ (a C dx : Addr) (fs : List (Str × V)) (v : V), x = .ref a ∧ H1 a = some (exo a C (some dx)) ∧ H1 dx = some (exd dx fs) ∧ XfC K C ∧ PySem.W.findIn K (.ref C) f = some none ∧ fs.lookup f = some v ∧ Q v H1
theorem pe_of {X : Cx} {e : Expr} {te : TE} {pos : Pos} {n : Str} (he : PE X e te) (hb : attributeBase e n X.env (eval e X.env) = eval e X.env := by rfl) : PE X (.Attribute e n pos) (tOf X.K n te) := by
  constructor
  rintro pins s σ H Q I h
  refine attr_of hb (thn (he.run pins s σ H _ I h) ?_)
  rintro u s1 ⟨x, H1, I1, rx, a, C, dx, fs, v, rfl, ha, hd, T, none_, l, q⟩
  cases (rx : u = Value.ref a)
  obtain ⟨t1, pa⟩ := exo_at I1.hok ha
  obtain ⟨mA, ns, rel⟩ := exd_at I1.hok hd
  obtain ⟨od, isD, look⟩ := lookIn_ns ns
  obtain ⟨w, hw, rw'⟩ := RelO.some_of (v := v) (o := mA n) (l ▸ rel n)
  have inst : PySem.W.InstAt s1.heap a ({ cls := .ref C, dict := some dx, data := .fields #[.ref t1, .none, .none, .none, .bool false, .none] } : Obj) C (some od) := ⟨pa, rfl, (by unfold PySem.W.notCls; rfl), isD⟩
  exact HandSPX.exc_get I1.kIn inst T.ga T.gg T.exC (PySem.W.findObj_own T.hdC none_ rfl (by rw [look, hw])) (handed_of rw') ⟨v, H1, I1.tok _, rw', q⟩
theorem pe_ofK {X : Cx} {K : PySem.W.Frag} {e : Expr} {te : TE} {pos : Pos} {n : Str} (he : PE X e te) (hK : X.K = K := by rfl) (hb : attributeBase e n X.env (eval e X.env) = eval e X.env := by rfl) : PE X (.Attribute e n pos) (tOf K n te) := hK ▸ pe_of he hb
def spY (K : PySem.W.Frag) (c : Str) : Sp := fun vs H Q _ => ∃ a v, vs = [.ref a, v] ∧ (strC c = true → TxtV K H v) ∧ H a = some (exo a (He.ga K c) none) ∧ ∀ dx, H dx = none → dx ≠ a → Q .non (upd (upd H dx (exd dx [(exField c, v)])) a (exo a (He.ga K c) (some dx)))
theorem spY_len {K : PySem.W.Frag} {c : Str} {vs : List V} {H : Hp} {Q : VK} {E : XK} (h : spY K c vs H Q E) : vs.length = 2 := by
  obtain ⟨a, v, rfl, _⟩ := h
  rfl
theorem exo_initY {K : PySem.W.Frag} {c : Str} {vs : List V} {H : Hp} {Q : VK} {E : XK} {tm : TE} {D : Ends} {N : List Str} {f : Str} (h : spY K c vs H Q E) (T : XcK K c) (hD : D.nx = fun _ H' => Q .non H') (hN : N.length = 2) (hf : exField c = f) (hm : ∀ a v, vs = [.ref a, v] → (strC c = true → TxtV K H v) → ∀ R : VK, (∀ z, R (.str z) H) → tm (L2.start N vs) H R) :
    tSeq (tDrop (tVeI K (tCons (tVar 0) (tCons tm tNil)))) (tSeq (tOst K f (tVar 0) (tVar 1)) tNext) D (L2.start N vs) H := by
  subst hf
  obtain ⟨a, v, rfl, hi, ha, q⟩ := h
  have s0 : (L2.start N [.ref a, v])[0]? = some (some (.ref a)) := rfl
  have s1 : (L2.start N [.ref a, v])[1]? = some (some v) := rfl
  refine ⟨.ref a, s0, hm a v rfl hi _ fun z => ⟨a, _, [.str z], rfl, (by show 1 ≤ 1000; decide), T.ox, ha, ?_⟩⟩
  refine ⟨v, s1, .ref a, s0, a, _, rfl, T.ox, T.fn, .inl ⟨ha, fun dx n ne => ?_⟩⟩
  show D.nx _ _
  rw [hD]
  exact q dx n ne
theorem msgY_ok {K : PySem.W.Frag} {z1 z3 : Str} {vs : List V} {a : Addr} {v : V} {N : List Str} {H : Hp} {R : VK} (h : TxtV K H v) (e : vs = [.ref a, v]) (h1 : z1.length ≤ 100) (h3 : z3.length ≤ 100) (k : ∀ z, R (.str z) H) :
    tOp (fun x y H Q => ∃ i j, x = .str i ∧ y = .str j ∧ i.length + j.length ≤ sizeLine ∧ Q (.str (i ++ j)) H) (tOp (fun x y H Q => ∃ i j, x = .str i ∧ y = .str j ∧ i.length + j.length ≤ sizeLine ∧ Q (.str (i ++ j)) H) (tC (.str z1)) (tCB (rStrV K) (tCons (tVar 1) tNil))) (tC (.str z3)) (L2.start N vs) H R := by
  subst e
  refine ⟨v, rfl, v, rfl, h, fun t ht => ?_⟩
  have h2 : (z1 ++ t).length = z1.length + t.length := by show (z1.cps ++ t.cps).size = _; rw [Array.size_append]; rfl
  exact ⟨z1, _, rfl, rfl, by rw [sizeLine_eq]; omega, _, z3, rfl, rfl, by rw [h2, sizeLine_eq]; omega, k _⟩
structure XcrG (P : Program) (w : World) (K : PySem.W.Frag) (mg : Str → Option Value) (base : Heap) (k : Nat) (c : Str) : Prop where
  ex : ∃ (f : Addr) (fd : FuncData) (ps : List Str), FnOkG P w K mg base CX0 k f fd ps (spY K c) ∧ PySem.W.findIn K (.ref (He.ga K c)) "__init__" = some (some (.ref f)) ∧ PySem.W.typeIn K (.ref f) = some (.type "function") ∧ XcK K c ∧ mg c = some (.ref (He.ga K c)) ∧ Binds K fd ps []
theorem pe_mkG {X : Cx} {k : Nat} {c : Str} {p pos : Pos} {e : Expr} {es : List Expr} {ta : TA} (F : XcrG X.prog X.w X.K X.mg X.base k c) (hr : Room (k + 1) X.A) (gd : X.A.guards = some []) (ha : PA X (e :: es) ta) (hg : Gl X c := by rfl)
    (hdb : (c == ("__debug__" : Str)) = false := by decide) (he : starEach (e :: es) X.env = (false, eval e X.env) :: starEach es X.env := by rfl) (hpl : (backTo pos (starEach es X.env)).any (·.1) = false := by rfl) :
    PE X (.Call (.Name c p) (e :: es) [] pos) (tMkV (He.ga X.K c) (spY X.K c) ta) := by
  obtain ⟨f, fd, ps, F, h1, h2, h3, h4, h5⟩ := F.ex
  exact pe_oexG h3.ox h1 h2 F hr gd h5 pass0 hg h4 ha hdb he hpl
end Bg
namespace Va
open PySem PySem.Spec PyProof.Rows L2 Bg
structure TxtD (d : D) : Prop where
  sh : Sh 60 900 d
  str : ∀ z, d = .str z → z.length ≤ 900
  int : ∀ i, d = .int i → i.natAbs < 10 ^ 70
section
variable {K : PySem.W.Frag} {EX : L2.St → XK} {ρ : List Sl} {α β γ R : Type} {F : Fr R}
theorem TxtD.at_ {O : AP} {H : Hp} {v : V} {d : D} (h : TxtD d) (r : Rep K O H v d) : TxtV K H v := by
  have p := h.sh.pl
  have dp := r.dp p
  have nd := plain_noDict p
  have s1 := h.sh.sh
  have s2 := h.sh.dp
  have s3 := h.sh.ln
  cases r with
  | non => exact .inr (.inr (.inl rfl))
  | bl b => exact .inr (.inr (.inr (.inl ⟨b, rfl⟩)))
  | int i => exact .inl ⟨i, rfl, h.int i rfl⟩
  | str z => exact .inr (.inl ⟨z, rfl, h.str z rfl⟩)
  | lst _ _ _ => exact .inr (.inr (.inr (.inr ⟨_, _, rfl, dp, s1, nd, by omega, s3⟩)))
  | tup _ _ _ => exact .inr (.inr (.inr (.inr ⟨_, _, rfl, dp, s1, nd, by omega, s3⟩)))
  | _ => cases p
def mkY (c : Str) (d : D) : M D := fun P _ => (strC c = true → TxtD d) ∧ P (.exc c d)
theorem re_mkY {te : TE} {en : α → D} {w : M α} (c : Str) (he : RE K EX ρ te en w) : RE K EX ρ (tMkV (He.ga K c) (spY K c) (tCons te tNil)) (fun d : D => d) (w >>= fun a => mkY c (en a)) := fun B O H σ E P PX Q hw hq hx =>
  he B O H σ E _ PX _ hw (fun a v H1 p e r => by
    obtain ⟨ht, p⟩ := p
    refine ⟨by show 1 ≤ 1000; decide, fun a1 n1 => ?_⟩
    have E1 := E.ex e
    refine ⟨a1, v, rfl, fun z => ?_, upd_same, fun dx n2 ne => ?_⟩
    · exact (ht z).at_ (Rep.ex r (.new n1))
    · rw [upd_ne ne] at n2
      have nA : a1 ≠ dx := fun z => ne z.symm
      have eq : upd (upd (upd H1 a1 (exo a1 (He.ga K c) none)) dx (exd dx [(exField c, v)])) a1 (exo a1 (He.ga K c) (some dx)) = upd (upd H1 dx (exd dx [(exField c, v)])) a1 (exo a1 (He.ga K c) (some dx)) := by
        funext b
        by_cases c1 : b = a1
        · rw [c1, upd_same, upd_same]
        · rw [upd_ne c1, upd_ne c1]
          by_cases c2 : b = dx
          · rw [c2, upd_same, upd_same]
          · rw [upd_ne c2, upd_ne c2, upd_ne c1]
      rw [eq]
      have x1 : Ext No H1 (upd H1 dx (exd dx [(exField c, v)])) := .new n2
      have n3 : upd H1 dx (exd dx [(exField c, v)]) a1 = none := by rw [upd_ne nA]; exact n1
      have x2 : Ext No (upd H1 dx (exd dx [(exField c, v)])) (upd (upd H1 dx (exd dx [(exField c, v)])) a1 (exo a1 (He.ga K c) (some dx))) := .new n3
      have r' : Rep K O _ v (en a) := Rep.ex r (x1.trans x2)
      exact ⟨rfl, hq (.exc c (en a)) _ _ p (e.trans (x1.trans x2)) (.exc (fun z => E1.dom a1 z n1) upd_same (fun z => E1.dom dx z n2) (by rw [upd_ne ne]; exact upd_same) r')⟩) hx
def isOM (CL : List Str) (c' : Str) (d : D) : M Bool := fun P _ => ∃ c x, d = .exc c x ∧ c ∈ CL ∧ P (isX c' c)
def ofM (CL : List Str) (f : Str) (d : D) : M D := fun P _ => ∃ c x, d = .exc c x ∧ c ∈ CL ∧ exField c = f ∧ P x
theorem re_isO {CL TL : List Str} {te : TE} {w : M D} (c' : Str) (T : XcA K CL TL) (hc : c' ∈ TL) (he : RE K EX ρ te (fun d : D => d) w) : RE K EX ρ (tCB (rIsO K) (tCons te (tCons (tC (.ref (He.ga K c'))) tNil))) D.bl (w >>= fun d => isOM CL c' d) := fun B O H σ E P PX Q hw hq hx =>
  he B O H σ E _ PX _ hw (fun d v H1 p e r => by
    obtain ⟨c, x, rfl, m, p⟩ := p
    cases r with
    | exc n1 h1 n2 h2 r => exact ⟨_, _, _, _, .ref (He.ga K c'), .ref (He.ga K c'), isX c' c, rfl, fun u z => z, h1, h2, (T.k _ m).ec, (T.p _ m _ hc).kit, hq _ _ H1 p e (.bl _)⟩) hx
theorem re_isOV {CL TL : List Str} {te : TE} {w : M D} (T : XcA K CL TL) (he : RE K EX ρ te (fun d : D => d) w) : RE K EX ρ (tCB (rIsO K) (tCons te (tCons (tC (.ty "ValueError")) tNil))) D.bl (w >>= fun d => isOM CL "ValueError" d) := fun B O H σ E P PX Q hw hq hx =>
  he B O H σ E _ PX _ hw (fun d v H1 p e r => by
    obtain ⟨c, x, rfl, m, p⟩ := p
    have e2 : isX "ValueError" c = true := by simp [isX]
    rw [e2] at p
    cases r with
    | exc n1 h1 n2 h2 r => exact ⟨_, _, _, _, .ty "ValueError", .type "ValueError", true, rfl, fun u z => z, h1, h2, (T.k _ m).ec, (T.k _ m).ve, hq _ _ H1 p e (.bl _)⟩) hx
theorem re_ofO {CL TL : List Str} {te : TE} {w : M D} (f : Str) (T : XcA K CL TL) (he : RE K EX ρ te (fun d : D => d) w) : RE K EX ρ (tOf K f te) (fun d : D => d) (w >>= fun d => ofM CL f d) := fun B O H σ E P PX Q hw hq hx =>
  he B O H σ E _ PX _ hw (fun d v H1 p e r => by
    obtain ⟨c, x, rfl, m, rfl, p⟩ := p
    cases r with
    | exc n1 h1 n2 h2 r => exact ⟨_, _, _, _, _, rfl, h1, h2, (T.k _ m).xf, (T.k _ m).fn, (by simp [List.lookup]), hq _ _ H1 p e r⟩) hx
end
end Va
namespace Va
open PySem PySem.Spec PyProof.Rows L2 Bg
def exN : List Str := ["NoLabel", "NoPart", "NoStep", "NoPlace", "NoDocument", "NoQuestion", "NoWanted", "NoRule", "Ring", "NoText", "NoLine", "TooMany", "TooDeep", "NoName", "Taken", "NoView"]
theorem isOM_t {CL : List Str} {c' c : Str} {x : D} {P : Bool → Prop} {X : Exn → Prop} (hc : c ∈ CL) (h : P (isX c' c)) : isOM CL c' (.exc c x) P X := ⟨c, x, rfl, hc, h⟩
theorem ofM_t {CL : List Str} {f c : Str} {x : D} {P : D → Prop} {X : Exn → Prop} (hc : c ∈ CL) (hf : exField c = f) (h : P x) : ofM CL f (.exc c x) P X := ⟨c, x, rfl, hc, hf, h⟩
def firstL (c : Str) : List Bool := [isX "NoLabel" c, isX "NoPart" c, isX "NoStep" c, isX "NoPlace" c, isX "NoWanted" c, isX "NoRule" c, isX "TooMany" c, isX "TooDeep" c, isX "NoName" c, isX "Taken" c, isX "NoView" c]
def secondL (c : Str) : List Bool := [isX "NoDocument" c, isX "NoQuestion" c, isX "Ring" c, isX "NoText" c, isX "NoLine" c]
end Va
namespace Va
open PySem PySem.Spec PyProof.Rows L2 Bg
def rMulA : R2 := fun x y H Q => ∃ (z : Str) (n : Int), x = .str z ∧ y = .int n ∧ -1000 ≤ n ∧ n ≤ 1000 ∧ z.length ≤ 1000 ∧ Q (.str (repS z n.toNat)) H
theorem repS_len (z : Str) (n : Nat) : (repS z n).length = n * z.length := by
  show ((List.replicate n z.cps).foldl (· ++ ·) #[]).size = _
  rw [fold_size]
  show 0 + n * z.cps.size = _
  rw [Nat.zero_add]
  rfl
theorem op_mul_strA {X : Cx} : OpR X (binaryOp .Mult) rMulA := by
  intro pins s σ H x y v u Q I rx ry h
  obtain ⟨z, n, rfl, rfl, h1, h2, h4, q⟩ := h
  obtain ⟨t, rfl⟩ := rx
  obtain ⟨t', rfl⟩ := ry
  have hm : z.length * n.toNat ≤ 1000 * 1000 := Nat.mul_le_mul h4 (by omega)
  refine PySem.P.mul_str (by simp; omega) (fun c _ => ?_) (fun _ _ => ?_) ?_
  · have : (z.length : Int) ≤ (2 ^ 63 - 1) / n := by
      rw [Int.le_ediv_iff_mul_le (by omega)]
      have : (z.length : Int) * n ≤ 1000 * 1000 := Int.mul_le_mul (by omega) h2 (by omega) (by omega)
      omega
    omega
  · show decide (_ > sizeLine) = false
    rw [decide_eq_false_iff_not]
    show ¬ _ > 16777216
    omega
  · by_cases c1 : n < 1
    · rw [if_pos c1]
      have e : repS z n.toNat = Str.empty := by rw [show n.toNat = 0 by omega]; rfl
      rw [e] at q
      exact ⟨by decide, .str _, H, I.tok _, ⟨_, rfl⟩, q⟩
    rw [if_neg c1]
    by_cases c2 : (n == 1 || z.length == 0) = true
    · rw [if_pos c2]
      have e : repS z n.toNat = z := by
        rw [Bool.or_eq_true] at c2
        rcases c2 with c2 | c2
        · have : n = 1 := by simpa using c2
          subst this
          show (⟨#[] ++ z.cps⟩ : Str) = z
          rw [Array.empty_append]
        · have c2 : z.length = 0 := by simpa using c2
          have l : (repS z n.toNat).length = 0 := by rw [repS_len, c2, Nat.mul_zero]
          have e1 : (repS z n.toNat).cps = #[] := Array.eq_empty_of_size_eq_zero l
          have e2 : z.cps = #[] := Array.eq_empty_of_size_eq_zero c2
          show (⟨(repS z n.toNat).cps⟩ : Str) = ⟨z.cps⟩
          rw [e1, e2]
      rw [e] at q
      exact ⟨.str _, H, I, ⟨_, rfl⟩, q⟩
    rw [if_neg c2]
    have e : (repS z n.toNat).length = n.toNat * z.length := repS_len _ _
    have hm2 : n.toNat * z.length ≤ 16777216 := by rw [Nat.mul_comm]; omega
    exact ⟨(e ▸ hm2 : (repS z n.toNat).length ≤ 16777216), .str (repS z n.toNat), H, I.tok _, ⟨_, rfl⟩, q⟩
section
variable {K : PySem.W.Frag} {EX : L2.St → XK} {ρ : List Sl}
theorem re_mulA {ta tb : TE} {wa : M Str} {wb : M Int} (ha : RE K EX ρ ta D.str wa) (hb : RE K EX ρ tb D.int wb) : RE K EX ρ (tOp rMulA ta tb) D.str (wa >>= fun a => wb >>= fun b => (need (-1000 ≤ b ∧ b ≤ 1000 ∧ a.length ≤ 1000) >>= fun _ => pure (repS a b.toNat))) :=
  rg_op (fun O H0 H x y a b P PX Q _ r1 r2 p q => by
    cases r1; cases r2
    exact ⟨a, b, rfl, rfl, p.1.1, p.1.2.1, p.1.2.2, q _ _ _ p.2 (.refl _ _) (.str _)⟩) ha hb
end
end Va
namespace Va
open PySem PySem.Spec PyProof.Rows L2 Bg
theorem mkY_t {c : Str} {d : D} {P : D → Prop} {X : Exn → Prop} (h : TxtD d) (p : P (.exc c d)) : mkY c d P X := ⟨fun _ => h, p⟩
theorem txtD_of {d : D} {n m : Nat} (h : Sh n m d) (hn : n ≤ 60) (hm : m ≤ 900) (hs : ∀ z, d = .str z → z.length ≤ 900) (hi : ∀ i, d = .int i → i.natAbs < 10 ^ 70) : TxtD d := ⟨h.mono hn hm, hs, hi⟩
theorem txt_things (c : Int) : ∀ d ∈ [D.int (c % 1000000000000000000000000000000000000000000000000000000000000), D.str (repS "a" (c % 9).toNat), eU (), eL D.int [c % 7], eT2 D.str D.int ("a", c % 5), D.bl true], TxtD d := by
  intro d hd
  simp only [List.mem_cons, List.not_mem_nil, or_false] at hd
  rcases hd with rfl | rfl | rfl | rfl | rfl | rfl
  · have : (c % 1000000000000000000000000000000000000000000000000000000000000).natAbs < 10 ^ 70 := by omega
    exact txtD_of (sh_int (k := 70) (by decide) (by decide) this) (by decide) (by decide) (fun z e => nomatch e) fun i e => by cases e; exact this
  · have e : ∀ n : Nat, n < 9 → (reprText (repS "a" n)).length ≤ 100 ∧ (repS "a" n).length ≤ 900 := by
      intro n hn
      have : n = 0 ∨ n = 1 ∨ n = 2 ∨ n = 3 ∨ n = 4 ∨ n = 5 ∨ n = 6 ∨ n = 7 ∨ n = 8 := by omega
      rcases this with rfl | rfl | rfl | rfl | rfl | rfl | rfl | rfl | rfl <;> decide +kernel
    obtain ⟨e1, e2⟩ := e (c % 9).toNat (by omega)
    exact txtD_of (sh_str e1) (by decide) (by decide) (fun z e => by cases e; exact e2) fun i e => nomatch e
  · exact txtD_of (n := 0) (m := 900) ⟨rfl, rfl, Nat.le_refl _, by decide +kernel⟩ (by decide) (by decide) (fun z e => nomatch e) fun i e => nomatch e
  · refine txtD_of (n := 1) (m := 900) ((sh_lst (n := 0) (m := 71) fun d hd => ?_).mono (by decide) (by show 1 * 71 + 2 * 1 + 3 ≤ 900; decide)) (by decide) (by decide) (fun z e => nomatch e) fun i e => nomatch e
    rw [List.mem_singleton.mp hd]
    exact sh_int (k := 70) (by decide) (by decide) (by omega)
  · refine txtD_of (n := 1) (m := 900) ((sh_tup (n := 0) (m := 71) (ds := [.str "a", .int (c % 5)]) fun d hd => ?_).mono (by decide) (by show 2 * 71 + 2 * 2 + 3 ≤ 900; decide)) (by decide) (by decide) (fun z e => nomatch e) fun i e => nomatch e
    simp only [List.mem_cons, List.not_mem_nil, or_false] at hd
    rcases hd with rfl | rfl
    · exact sh_str (by decide +kernel)
    · exact sh_int (k := 70) (by decide) (by decide) (by omega)
  · exact txtD_of (sh_bl true) (by decide) (by decide) (fun z e => nomatch e) fun i e => nomatch e
theorem told16 {d : D} (h : TxtD d) : Sh 64 16000000 (.lst (List.replicate 16 d)) := (sh_lst (n := 60) (m := 900) fun x hx => (List.mem_replicate.mp hx).2 ▸ h.sh).mono (by decide) (by rw [List.length_replicate]; decide)
end Va
namespace Va
open PySem PySem.Spec PyProof.Rows L2 Bg
def exA : List Str := ["NoLabel", "NoPart", "NoStep", "NoPlace", "NoWanted", "NoRule", "TooMany", "TooDeep", "NoName", "Taken", "NoView"]
def exB : List Str := ["NoDocument", "NoQuestion", "Ring", "NoText", "NoLine"]
def klL (c : Str) : List Bool := firstL c ++ secondL c ++ [isX "BoughError" c, true]
theorem kl16 : ∀ k : Nat, k < 16 → ∀ z, (exA ++ exB)[k]? = some z → z ∈ exN ∧ klL z = ((rng 0 16).map fun j => decide (j = (k : Int))) ++ [true, true] := by
  intro k hk z e
  have : k = 0 ∨ k = 1 ∨ k = 2 ∨ k = 3 ∨ k = 4 ∨ k = 5 ∨ k = 6 ∨ k = 7 ∨ k = 8 ∨ k = 9 ∨ k = 10 ∨ k = 11 ∨ k = 12 ∨ k = 13 ∨ k = 14 ∨ k = 15 := by omega
  rcases this with rfl | rfl | rfl | rfl | rfl | rfl | rfl | rfl | rfl | rfl | rfl | rfl | rfl | rfl | rfl | rfl <;> cases e <;> exact ⟨by decide +kernel, by decide +kernel⟩
end Va

namespace Va
open PySem PySem.Spec PyProof.Rows L2 Bg
section
variable {rows : List Ru}
def Edg (rows : List Ru) (a b : Str) : Prop := ∃ w, (a, w, b) ∈ rows
def Wy (rows : List Ru) : List Str → Prop
  | a :: b :: l => Edg rows a b ∧ Wy rows (b :: l)
  | _ => True
def LtS (a b : Str) : Prop := a.cps.toList < b.cps.toList
structure RgF (rows : List Ru) (start : Str) (w : List Str) : Prop where
  hd : w.head? = some start
  nd : w.Nodup
  wy : Wy rows w
  ed : Edg rows (w.getLastD "") start
  up : ∀ x ∈ w, x = start ∨ LtS start x
def RgO (rows : List Ru) (start : Str) : Option (List Str) → Prop
  | none => ∀ w, ¬ RgF rows start w
  | some w => RgF rows start w
theorem Wy.snoc : ∀ {w : List Str} {x : Str}, Wy rows w → (w ≠ [] → Edg rows (w.getLastD "") x) → Wy rows (w ++ [x])
  | [], _, _, _ => trivial
  | [a], x, _, h => ⟨h (by simp), trivial⟩
  | a :: b :: l, x, ⟨h1, h2⟩, h => ⟨h1, Wy.snoc (w := b :: l) h2 fun _ => by simpa using h (by simp)⟩
theorem Wy.mid : ∀ {w : List Str} {x : Str} {t : List Str}, Wy rows (w ++ x :: t) → w ≠ [] → Edg rows (w.getLastD "") x
  | [], _, _, _, h => absurd rfl h
  | [a], x, t, ⟨h, _⟩, _ => h
  | a :: b :: l, x, t, ⟨_, h⟩, _ => by
    have := Wy.mid (w := b :: l) h (by simp)
    simpa using this
structure WyG (rows : List Ru) (start : Str) (w : List Str) : Prop where
  hd : w.head? = some start
  nd : w.Nodup
  wy : Wy rows w
  up : ∀ x ∈ w, x = start ∨ LtS start x
  tl : ∀ x ∈ w.tail, ∃ r ∈ rows, r.2.2 = x
theorem nodup_le {α : Type} [DecidableEq α] {a b : List α} (n : a.Nodup) (h : ∀ x ∈ a, x ∈ b) : a.length ≤ b.length := n.length_le_of_subset fun x hx => h x hx
theorem WyG.len {start : Str} {w : List Str} (h : WyG rows start w) : w.length ≤ rows.length + 1 := by
  have n : w.tail.Nodup := h.nd.sublist (List.tail_sublist w)
  have := nodup_le (b := rows.map fun r => r.2.2) n fun x hx => by
    obtain ⟨r, hr, e⟩ := h.tl x hx
    exact List.mem_map.mpr ⟨r, hr, e⟩
  rw [List.length_map, List.length_tail] at this
  omega
theorem WyG.ne {start : Str} {w : List Str} (h : WyG rows start w) : w ≠ [] := fun e => by have := h.hd; rw [e] at this; cases this
theorem WyG.one {start : Str} : WyG rows start [start] := ⟨rfl, by simp, trivial, fun x hx => .inl (List.mem_singleton.mp hx), fun x hx => nomatch hx⟩
theorem WyG.app {start : Str} {w : List Str} {r : Ru} (h : WyG rows start w) (hr : r ∈ rows) (e : r.1 = w.getLastD "") (lt : LtS start r.2.2) (nm : r.2.2 ∉ w) : WyG rows start (w ++ [r.2.2]) := by
  have hne := h.ne
  refine ⟨?_, ?_, h.wy.snoc fun _ => ⟨r.2.1, by rw [← e]; exact hr⟩, fun x hx => ?_, fun x hx => ?_⟩
  · cases w with
    | nil => exact absurd rfl hne
    | cons a l => exact h.hd
  · rw [List.nodup_append]
    refine ⟨h.nd, by simp, fun a ha b hb e => ?_⟩
    rw [List.mem_singleton.mp hb] at e
    exact nm (e ▸ ha)
  · rcases List.mem_append.mp hx with z | z
    · exact h.up x z
    · rw [List.mem_singleton.mp z]; exact .inr lt
  · rw [List.tail_append_of_ne_nil hne] at hx
    rcases List.mem_append.mp hx with z | z
    · exact h.tl x z
    · exact ⟨r, hr, (List.mem_singleton.mp z).symm⟩
def Cov (rows : List Ru) (start : Str) (ws : List (List Str)) : Prop := ∀ u, RgF rows start u → ∃ w ∈ ws, w <+: u
def CovI (rows : List Ru) (start : Str) (w : List Str) (i : Nat) (ws : List (List Str)) : Prop := (∀ r ∈ rows.take i, r.1 = w.getLastD "" → r.2.2 ≠ start) ∧ ∀ u, RgF rows start u → (∃ w' ∈ ws, w' <+: u) ∨ (w <+: u ∧ ∀ r ∈ rows.take i, r.1 = w.getLastD "" → ¬ (w ++ [r.2.2]) <+: u)
theorem CovI.zero {start : Str} {ws : List (List Str)} {w : List Str} (h : Cov rows start (ws ++ [w])) : CovI rows start w 0 ws := by
  refine ⟨fun r hr => (nomatch hr), fun u hu => ?_⟩
  obtain ⟨w', hw, p⟩ := h u hu
  rcases List.mem_append.mp hw with z | z
  · exact .inl ⟨w', z, p⟩
  · rw [List.mem_singleton.mp z] at p
    exact .inr ⟨p, fun r hr => (nomatch hr)⟩
theorem take_mem {α : Type} {l : List α} {i : Nat} {x r : α} (h : l[i]? = some x) (hr : r ∈ l.take (i + 1)) : r ∈ l.take i ∨ r = x := by
  rw [List.take_add_one, h] at hr
  rcases List.mem_append.mp hr with z | z
  · exact .inl z
  · exact .inr (by simpa using z)
theorem CovI.app {start : Str} {ws : List (List Str)} {w : List Str} {i : Nat} {x : Ru} (h : CovI rows start w i ws) (hx : rows[i]? = some x) (e : x.1 = w.getLastD "") (n1 : x.2.2 ≠ start) : CovI rows start w (i + 1) (ws ++ [w ++ [x.2.2]]) := by
  refine ⟨fun r hr e => ?_, fun u hu => ?_⟩
  · rcases take_mem hx hr with z | rfl
    · exact h.1 r z e
    · exact n1
  · rcases h.2 u hu with ⟨w', z, p⟩ | ⟨p, q⟩
    · exact .inl ⟨w', List.mem_append_left _ z, p⟩
    by_cases c : (w ++ [x.2.2]) <+: u
    · exact .inl ⟨_, List.mem_append_right _ (List.mem_singleton.mpr rfl), c⟩
    refine .inr ⟨p, fun r hr e2 pp => ?_⟩
    rcases take_mem hx hr with z | rfl
    · exact q r z e2 pp
    · exact c pp
theorem CovI.done {start : Str} {ws : List (List Str)} {w : List Str} (h : CovI rows start w rows.length ws) (hne : w ≠ []) : Cov rows start ws := fun u hu => by
  rcases h.2 u hu with z | ⟨⟨t, rfl⟩, q⟩
  · exact z
  rw [List.take_length] at q
  have h1 := h.1
  rw [List.take_length] at h1
  cases t with
  | nil =>
    obtain ⟨y, hy⟩ := hu.ed
    rw [List.append_nil] at hy
    exact absurd rfl (h1 _ hy rfl)
  | cons x t =>
    obtain ⟨y, hy⟩ := hu.wy.mid hne
    exact absurd ⟨t, by simp⟩ (q _ hy rfl)
theorem Cov.none {start : Str} (h : Cov rows start []) : RgO rows start none := fun w hw => by
  obtain ⟨w', z, _⟩ := h w hw
  cases z
theorem RgF.fst {start : Str} {w : List Str} (h : RgF rows start w) : start ∈ rows.map (·.1) := by
  cases w with
  | nil => exact nomatch h.hd
  | cons a l =>
    have e : a = start := by have := h.hd; simpa using this
    subst e
    cases l with
    | nil => obtain ⟨y, hy⟩ := h.ed; exact List.mem_map.mpr ⟨_, hy, rfl⟩
    | cons b l => obtain ⟨y, hy⟩ := h.wy.1; exact List.mem_map.mpr ⟨_, hy, rfl⟩
end
end Va

namespace Lw
open PySem PySem.Spec PyProof.Rows L2 Bg Va
def c_law_first : Va.D × Unit → M (List Bool) := fun q P X => (fun (e : Va.D) => (∃ (c : Str) (x : D), e = .exc c x ∧ c ∈ exN ∧ P (firstL c))) q.1
def sp_law_first (K : PySem.W.Frag) : Sp := spC K (fun q : Va.D × Unit => [.sh ((fun d : Va.D => d) q.1)]) (resF K D.bl) c_law_first
def c_law_second : Va.D × Unit → M (List Bool) := fun q P X => (fun (e : Va.D) => (∃ (c : Str) (x : D), e = .exc c x ∧ c ∈ exN ∧ P (secondL c))) q.1
def sp_law_second (K : PySem.W.Frag) : Sp := spC K (fun q : Va.D × Unit => [.sh ((fun d : Va.D => d) q.1)]) (resF K D.bl) c_law_second
def c_law_kinds : Va.D × Unit → M (List Bool) := fun q P X => (fun (e : Va.D) => (∃ (c : Str) (x : D), e = .exc c x ∧ c ∈ exN ∧ P (firstL c ++ secondL c ++ [isX "BoughError" c, true]))) q.1
def sp_law_kinds (K : PySem.W.Frag) : Sp := spC K (fun q : Va.D × Unit => [.sh ((fun d : Va.D => d) q.1)]) (resF K D.bl) c_law_kinds
def c_law : (List Int) × Unit → M Bool := fun q P X => (fun (script : (List Int)) => (script.length ≤ 63 ∧ P true)) q.1
def sp_law (K : PySem.W.Frag) : Sp := spC K (fun q : (List Int) × Unit => [.scr q.1]) (resE K D.bl) c_law
local macro_rules | `(tactic| walk_at "pos") => `(tactic| (show (0 : Int) < _; decide))
local macro_rules | `(tactic| walk_at "wp") => `(tactic| simp only [bind_ap, pure_ap, noX_ap, pure_bd, bind_bd, ite_ap, cond_ap, cond_true, cond_false, true_implies, false_implies, implies_true, eq_self, Bool.true_eq_false, Bool.not_eq_false', Bool.not_eq_eq_eq_not, Bool.not_true, Bool.not_false, need, bnd, CMul, CDiv, CPow, rng1, rng2, lrg, revR, getS, setI, popL, frC_nx, frC_ct, frS_nx, frL_nx, frL_ct, frL_bk, frL_kr, fn_kr, fn_bk, frL_bd, fnN_kr, fnN_nx, fnM_kr, fnM_bd, fnM_fn, fnMN_kr, fnMN_nx, id_eq, aft_nx, aft_bk, aft_rt, eq_ii, ne_ii, eq_ss, ne_ss, eq_bb, ne_bb, eq_oi, ne_oi, eq_oo, ne_oo, eq_io, isN_o, isN_i, in_s, nin_s, in_i, nin_i, never_ap, try_ap, tryR_ap, xcM_ap, orM_ap, isGlo_ap, raise_ap, raiseN, clM, xfM, isXM, mk_nx, nar_oi, isi_int, isi_int_b, isi_bl_b, isi_bl_i, isi_str, isi_lst, isi_t2, isi_t3, isi_tl, tyD, withinD_i, labelD_s, wholeD_i, repL, rep_flat, ne_eq, reduceCtorEq, not_false_eq_true, Bool.and_eq_true, not_true_eq_false, sizeLine_eq, List.length_cons, List.length_nil, Nat.reduceAdd, Nat.reduceLeDiff, Int.reduceNeg, Int.reducePow, Int.reduceLT, Int.reduceLE, Int.reduceToNat, true_and, and_true, true_or, or_true, decide_eq_true_eq, Bool.not_eq_true', decide_eq_false_iff_not, Bool.false_eq_true, if_false, if_true, ite_false, ite_true, reduceIte, c_law_first, c_law_second, c_law_kinds, c_law])
local macro_rules | `(tactic| walk_at "wpj") => `(tactic| simp only [joinM, bind_ap, pure_ap, noX_ap, pure_bd, bind_bd, ite_ap, cond_ap, cond_true, cond_false, true_implies, false_implies, implies_true, eq_self, Bool.true_eq_false, Bool.not_eq_false', Bool.not_eq_eq_eq_not, Bool.not_true, Bool.not_false, need, bnd, CMul, CDiv, CPow, rng1, rng2, lrg, revR, getS, setI, popL, frC_nx, frC_ct, frS_nx, frL_nx, frL_ct, frL_bk, frL_kr, fn_kr, fn_bk, frL_bd, fnN_kr, fnN_nx, fnM_kr, fnM_bd, fnM_fn, fnMN_kr, fnMN_nx, id_eq, aft_nx, aft_bk, aft_rt, eq_ii, ne_ii, eq_ss, ne_ss, eq_bb, ne_bb, eq_oi, ne_oi, eq_oo, ne_oo, eq_io, isN_o, isN_i, in_s, nin_s, in_i, nin_i, never_ap, try_ap, tryR_ap, xcM_ap, orM_ap, isGlo_ap, raise_ap, raiseN, clM, xfM, isXM, mk_nx, nar_oi, isi_int, isi_int_b, isi_bl_b, isi_bl_i, isi_str, isi_lst, isi_t2, isi_t3, isi_tl, tyD, withinD_i, labelD_s, wholeD_i, repL, rep_flat, ne_eq, reduceCtorEq, not_false_eq_true, Bool.and_eq_true, not_true_eq_false, sizeLine_eq, List.length_cons, List.length_nil, Nat.reduceAdd, Nat.reduceLeDiff, Int.reduceNeg, Int.reducePow, Int.reduceLT, Int.reduceLE, Int.reduceToNat, true_and, and_true, true_or, or_true, decide_eq_true_eq, Bool.not_eq_true', decide_eq_false_iff_not, Bool.false_eq_true, if_false, if_true, ite_false, ite_true, reduceIte, c_law_first, c_law_second, c_law_kinds, c_law])
structure Txt (K : PySem.W.Frag) (mg : Str → Option Value) : Prop where
  glo_NoPlace : mg "NoPlace" = some (.ref (He.ga K "NoPlace"))
  free_isinstance : mg "isinstance" = none
  glo_NoStep : mg "NoStep" = some (.ref (He.ga K "NoStep"))
  glo_NoPart : mg "NoPart" = some (.ref (He.ga K "NoPart"))
  glo_NoLabel : mg "NoLabel" = some (.ref (He.ga K "NoLabel"))
  glo_TooDeep : mg "TooDeep" = some (.ref (He.ga K "TooDeep"))
  glo_TooMany : mg "TooMany" = some (.ref (He.ga K "TooMany"))
  glo_NoRule : mg "NoRule" = some (.ref (He.ga K "NoRule"))
  glo_NoWanted : mg "NoWanted" = some (.ref (He.ga K "NoWanted"))
  glo_NoView : mg "NoView" = some (.ref (He.ga K "NoView"))
  glo_Taken : mg "Taken" = some (.ref (He.ga K "Taken"))
  glo_NoName : mg "NoName" = some (.ref (He.ga K "NoName"))
  glo_NoText : mg "NoText" = some (.ref (He.ga K "NoText"))
  glo_Ring : mg "Ring" = some (.ref (He.ga K "Ring"))
  glo_NoQuestion : mg "NoQuestion" = some (.ref (He.ga K "NoQuestion"))
  glo_NoDocument : mg "NoDocument" = some (.ref (He.ga K "NoDocument"))
  glo_NoLine : mg "NoLine" = some (.ref (He.ga K "NoLine"))
  free_ValueError : mg "ValueError" = none
  glo_BoughError : mg "BoughError" = some (.ref (He.ga K "BoughError"))
  free_repr : mg "repr" = none
  free_range : mg "range" = none
  free_str : mg "str" = none
  is_NoPlace : IsC K "NoPlace"
  is_NoStep : IsC K "NoStep"
  is_NoPart : IsC K "NoPart"
  is_NoLabel : IsC K "NoLabel"
  is_TooDeep : IsC K "TooDeep"
  is_TooMany : IsC K "TooMany"
  is_NoRule : IsC K "NoRule"
  is_NoWanted : IsC K "NoWanted"
  is_NoView : IsC K "NoView"
  is_Taken : IsC K "Taken"
  is_NoName : IsC K "NoName"
  is_NoText : IsC K "NoText"
  is_Ring : IsC K "Ring"
  is_NoQuestion : IsC K "NoQuestion"
  is_NoDocument : IsC K "NoDocument"
  is_NoLine : IsC K "NoLine"
  is_BoughError : IsC K "BoughError"
  xc : XcA K ["NoLabel", "NoPart", "NoStep", "NoPlace", "NoDocument", "NoQuestion", "NoWanted", "NoRule", "Ring", "NoText", "NoLine", "TooMany", "TooDeep", "NoName", "Taken", "NoView"] ["NoLabel", "NoPart", "NoStep", "NoPlace", "NoDocument", "NoQuestion", "NoWanted", "NoRule", "Ring", "NoText", "NoLine", "TooMany", "TooDeep", "NoName", "Taken", "NoView", "BoughError"]
  bo : BoE K "BoughError"
section
variable {P : Program} {w : World} {K : PySem.W.Frag} {mg : Str → Option Value} {base : Heap}
theorem sc_NoLabel_init : FnScope ["self", "found"] ["self", "found"] (defScope st_NoLabel_init) := ⟨rfl, rfl, rfl, by decide +kernel, rfl, by decide +kernel, by decide +kernel⟩
theorem ok_NoLabel_init {f : Addr} {fd : FuncData} (T : Txt K mg) (F : FnP K "__init__" "NoLabel.__init__" st_NoLabel_init f fd) : FnOkG P w K mg base CX0 1 f fd ["self", "found"] (spY K "NoLabel") := by
  refine fd_okG F sc_NoLabel_init (fun vs H Q E h => spY_len h) (fun cdv A outer s H vs Q E hr gd h => ?_)
  exact ⟨_, PSs.nox (pss_cons (ps_expr (pe_clsinit rfl T.glo_BoughError T.bo.ga T.bo.rd T.bo.fc (pa_cons (pv 0) (pa_cons pe_str pa_nil)))) (pss_cons (ps_ost (pv 0) (pv 1)) pss_nil)), exo_initY h (T.xc.k "NoLabel" (by decide)) rfl rfl rfl (fun a v e hi R k => k _)⟩
theorem sc_NoPart_init : FnScope ["self", "found"] ["self", "found"] (defScope st_NoPart_init) := ⟨rfl, rfl, rfl, by decide +kernel, rfl, by decide +kernel, by decide +kernel⟩
theorem ok_NoPart_init {f : Addr} {fd : FuncData} (T : Txt K mg) (F : FnP K "__init__" "NoPart.__init__" st_NoPart_init f fd) : FnOkG P w K mg base CX0 1 f fd ["self", "found"] (spY K "NoPart") := by
  refine fd_okG F sc_NoPart_init (fun vs H Q E h => spY_len h) (fun cdv A outer s H vs Q E hr gd h => ?_)
  exact ⟨_, PSs.nox (pss_cons (ps_expr (pe_clsinit rfl T.glo_BoughError T.bo.ga T.bo.rd T.bo.fc (pa_cons (pv 0) (pa_cons pe_str pa_nil)))) (pss_cons (ps_ost (pv 0) (pv 1)) pss_nil)), exo_initY h (T.xc.k "NoPart" (by decide)) rfl rfl rfl (fun a v e hi R k => k _)⟩
theorem sc_NoStep_init : FnScope ["self", "found"] ["self", "found"] (defScope st_NoStep_init) := ⟨rfl, rfl, rfl, by decide +kernel, rfl, by decide +kernel, by decide +kernel⟩
theorem ok_NoStep_init {f : Addr} {fd : FuncData} (T : Txt K mg) (F : FnP K "__init__" "NoStep.__init__" st_NoStep_init f fd) : FnOkG P w K mg base CX0 1 f fd ["self", "found"] (spY K "NoStep") := by
  refine fd_okG F sc_NoStep_init (fun vs H Q E h => spY_len h) (fun cdv A outer s H vs Q E hr gd h => ?_)
  exact ⟨_, PSs.nox (pss_cons (ps_expr (pe_clsinit rfl T.glo_BoughError T.bo.ga T.bo.rd T.bo.fc (pa_cons (pv 0) (pa_cons pe_str pa_nil)))) (pss_cons (ps_ost (pv 0) (pv 1)) pss_nil)), exo_initY h (T.xc.k "NoStep" (by decide)) rfl rfl rfl (fun a v e hi R k => k _)⟩
theorem sc_NoPlace_init : FnScope ["self", "found"] ["self", "found"] (defScope st_NoPlace_init) := ⟨rfl, rfl, rfl, by decide +kernel, rfl, by decide +kernel, by decide +kernel⟩
theorem ok_NoPlace_init {f : Addr} {fd : FuncData} (T : Txt K mg) (F : FnP K "__init__" "NoPlace.__init__" st_NoPlace_init f fd) : FnOkG P w K mg base CX0 1 f fd ["self", "found"] (spY K "NoPlace") := by
  refine fd_okG F sc_NoPlace_init (fun vs H Q E h => spY_len h) (fun cdv A outer s H vs Q E hr gd h => ?_)
  exact ⟨_, PSs.nox (pss_cons (ps_expr (pe_clsinit rfl T.glo_BoughError T.bo.ga T.bo.rd T.bo.fc (pa_cons (pv 0) (pa_cons pe_str pa_nil)))) (pss_cons (ps_ost (pv 0) (pv 1)) pss_nil)), exo_initY h (T.xc.k "NoPlace" (by decide)) rfl rfl rfl (fun a v e hi R k => k _)⟩
theorem sc_NoDocument_init : FnScope ["self", "row"] ["self", "row"] (defScope st_NoDocument_init) := ⟨rfl, rfl, rfl, by decide +kernel, rfl, by decide +kernel, by decide +kernel⟩
theorem ok_NoDocument_init {f : Addr} {fd : FuncData} (T : Txt K mg) (F : FnP K "__init__" "NoDocument.__init__" st_NoDocument_init f fd) : FnOkG P w K mg base CX0 1 f fd ["self", "row"] (spY K "NoDocument") := by
  refine fd_okG F sc_NoDocument_init (fun vs H Q E h => spY_len h) (fun cdv A outer s H vs Q E hr gd h => ?_)
  exact ⟨_, PSs.nox (pss_cons (ps_expr (pe_clsinit rfl T.glo_BoughError T.bo.ga T.bo.rd T.bo.fc (pa_cons (pv 0) (pa_cons (pe_op op_add_str (pe_op op_add_str pe_str (pe_callTy (call_strV gd (un_of hr)) rfl T.free_str (by decide +kernel) (pa_cons (pv 1) pa_nil))) pe_str) pa_nil)))) (pss_cons (ps_ost (pv 0) (pv 1)) pss_nil)), exo_initY h (T.xc.k "NoDocument" (by decide)) rfl rfl rfl (fun a v e hi R k => msgY_ok (hi rfl) e (by decide) (by decide) k)⟩
theorem sc_NoQuestion_init : FnScope ["self", "row"] ["self", "row"] (defScope st_NoQuestion_init) := ⟨rfl, rfl, rfl, by decide +kernel, rfl, by decide +kernel, by decide +kernel⟩
theorem ok_NoQuestion_init {f : Addr} {fd : FuncData} (T : Txt K mg) (F : FnP K "__init__" "NoQuestion.__init__" st_NoQuestion_init f fd) : FnOkG P w K mg base CX0 1 f fd ["self", "row"] (spY K "NoQuestion") := by
  refine fd_okG F sc_NoQuestion_init (fun vs H Q E h => spY_len h) (fun cdv A outer s H vs Q E hr gd h => ?_)
  exact ⟨_, PSs.nox (pss_cons (ps_expr (pe_clsinit rfl T.glo_BoughError T.bo.ga T.bo.rd T.bo.fc (pa_cons (pv 0) (pa_cons (pe_op op_add_str (pe_op op_add_str pe_str (pe_callTy (call_strV gd (un_of hr)) rfl T.free_str (by decide +kernel) (pa_cons (pv 1) pa_nil))) pe_str) pa_nil)))) (pss_cons (ps_ost (pv 0) (pv 1)) pss_nil)), exo_initY h (T.xc.k "NoQuestion" (by decide)) rfl rfl rfl (fun a v e hi R k => msgY_ok (hi rfl) e (by decide) (by decide) k)⟩
theorem sc_NoWanted_init : FnScope ["self", "found"] ["self", "found"] (defScope st_NoWanted_init) := ⟨rfl, rfl, rfl, by decide +kernel, rfl, by decide +kernel, by decide +kernel⟩
theorem ok_NoWanted_init {f : Addr} {fd : FuncData} (T : Txt K mg) (F : FnP K "__init__" "NoWanted.__init__" st_NoWanted_init f fd) : FnOkG P w K mg base CX0 1 f fd ["self", "found"] (spY K "NoWanted") := by
  refine fd_okG F sc_NoWanted_init (fun vs H Q E h => spY_len h) (fun cdv A outer s H vs Q E hr gd h => ?_)
  exact ⟨_, PSs.nox (pss_cons (ps_expr (pe_clsinit rfl T.glo_BoughError T.bo.ga T.bo.rd T.bo.fc (pa_cons (pv 0) (pa_cons pe_str pa_nil)))) (pss_cons (ps_ost (pv 0) (pv 1)) pss_nil)), exo_initY h (T.xc.k "NoWanted" (by decide)) rfl rfl rfl (fun a v e hi R k => k _)⟩
theorem sc_NoRule_init : FnScope ["self", "found"] ["self", "found"] (defScope st_NoRule_init) := ⟨rfl, rfl, rfl, by decide +kernel, rfl, by decide +kernel, by decide +kernel⟩
theorem ok_NoRule_init {f : Addr} {fd : FuncData} (T : Txt K mg) (F : FnP K "__init__" "NoRule.__init__" st_NoRule_init f fd) : FnOkG P w K mg base CX0 1 f fd ["self", "found"] (spY K "NoRule") := by
  refine fd_okG F sc_NoRule_init (fun vs H Q E h => spY_len h) (fun cdv A outer s H vs Q E hr gd h => ?_)
  exact ⟨_, PSs.nox (pss_cons (ps_expr (pe_clsinit rfl T.glo_BoughError T.bo.ga T.bo.rd T.bo.fc (pa_cons (pv 0) (pa_cons pe_str pa_nil)))) (pss_cons (ps_ost (pv 0) (pv 1)) pss_nil)), exo_initY h (T.xc.k "NoRule" (by decide)) rfl rfl rfl (fun a v e hi R k => k _)⟩
theorem sc_Ring_init : FnScope ["self", "labels"] ["self", "labels"] (defScope st_Ring_init) := ⟨rfl, rfl, rfl, by decide +kernel, rfl, by decide +kernel, by decide +kernel⟩
theorem ok_Ring_init {f : Addr} {fd : FuncData} (T : Txt K mg) (F : FnP K "__init__" "Ring.__init__" st_Ring_init f fd) : FnOkG P w K mg base CX0 1 f fd ["self", "labels"] (spY K "Ring") := by
  refine fd_okG F sc_Ring_init (fun vs H Q E h => spY_len h) (fun cdv A outer s H vs Q E hr gd h => ?_)
  exact ⟨_, PSs.nox (pss_cons (ps_expr (pe_clsinit rfl T.glo_BoughError T.bo.ga T.bo.rd T.bo.fc (pa_cons (pv 0) (pa_cons pe_str pa_nil)))) (pss_cons (ps_ost (pv 0) (pv 1)) pss_nil)), exo_initY h (T.xc.k "Ring" (by decide)) rfl rfl rfl (fun a v e hi R k => k _)⟩
theorem sc_NoText_init : FnScope ["self", "place"] ["self", "place"] (defScope st_NoText_init) := ⟨rfl, rfl, rfl, by decide +kernel, rfl, by decide +kernel, by decide +kernel⟩
theorem ok_NoText_init {f : Addr} {fd : FuncData} (T : Txt K mg) (F : FnP K "__init__" "NoText.__init__" st_NoText_init f fd) : FnOkG P w K mg base CX0 1 f fd ["self", "place"] (spY K "NoText") := by
  refine fd_okG F sc_NoText_init (fun vs H Q E h => spY_len h) (fun cdv A outer s H vs Q E hr gd h => ?_)
  exact ⟨_, PSs.nox (pss_cons (ps_expr (pe_clsinit rfl T.glo_BoughError T.bo.ga T.bo.rd T.bo.fc (pa_cons (pv 0) (pa_cons (pe_op op_add_str (pe_op op_add_str pe_str (pe_callTy (call_strV gd (un_of hr)) rfl T.free_str (by decide +kernel) (pa_cons (pv 1) pa_nil))) pe_str) pa_nil)))) (pss_cons (ps_ost (pv 0) (pv 1)) pss_nil)), exo_initY h (T.xc.k "NoText" (by decide)) rfl rfl rfl (fun a v e hi R k => msgY_ok (hi rfl) e (by decide) (by decide) k)⟩
theorem sc_NoLine_init : FnScope ["self", "line"] ["self", "line"] (defScope st_NoLine_init) := ⟨rfl, rfl, rfl, by decide +kernel, rfl, by decide +kernel, by decide +kernel⟩
theorem ok_NoLine_init {f : Addr} {fd : FuncData} (T : Txt K mg) (F : FnP K "__init__" "NoLine.__init__" st_NoLine_init f fd) : FnOkG P w K mg base CX0 1 f fd ["self", "line"] (spY K "NoLine") := by
  refine fd_okG F sc_NoLine_init (fun vs H Q E h => spY_len h) (fun cdv A outer s H vs Q E hr gd h => ?_)
  exact ⟨_, PSs.nox (pss_cons (ps_expr (pe_clsinit rfl T.glo_BoughError T.bo.ga T.bo.rd T.bo.fc (pa_cons (pv 0) (pa_cons pe_str pa_nil)))) (pss_cons (ps_ost (pv 0) (pv 1)) pss_nil)), exo_initY h (T.xc.k "NoLine" (by decide)) rfl rfl rfl (fun a v e hi R k => k _)⟩
theorem sc_TooMany_init : FnScope ["self", "found"] ["self", "found"] (defScope st_TooMany_init) := ⟨rfl, rfl, rfl, by decide +kernel, rfl, by decide +kernel, by decide +kernel⟩
theorem ok_TooMany_init {f : Addr} {fd : FuncData} (T : Txt K mg) (F : FnP K "__init__" "TooMany.__init__" st_TooMany_init f fd) : FnOkG P w K mg base CX0 1 f fd ["self", "found"] (spY K "TooMany") := by
  refine fd_okG F sc_TooMany_init (fun vs H Q E h => spY_len h) (fun cdv A outer s H vs Q E hr gd h => ?_)
  exact ⟨_, PSs.nox (pss_cons (ps_expr (pe_clsinit rfl T.glo_BoughError T.bo.ga T.bo.rd T.bo.fc (pa_cons (pv 0) (pa_cons pe_str pa_nil)))) (pss_cons (ps_ost (pv 0) (pv 1)) pss_nil)), exo_initY h (T.xc.k "TooMany" (by decide)) rfl rfl rfl (fun a v e hi R k => k _)⟩
theorem sc_TooDeep_init : FnScope ["self", "found"] ["self", "found"] (defScope st_TooDeep_init) := ⟨rfl, rfl, rfl, by decide +kernel, rfl, by decide +kernel, by decide +kernel⟩
theorem ok_TooDeep_init {f : Addr} {fd : FuncData} (T : Txt K mg) (F : FnP K "__init__" "TooDeep.__init__" st_TooDeep_init f fd) : FnOkG P w K mg base CX0 1 f fd ["self", "found"] (spY K "TooDeep") := by
  refine fd_okG F sc_TooDeep_init (fun vs H Q E h => spY_len h) (fun cdv A outer s H vs Q E hr gd h => ?_)
  exact ⟨_, PSs.nox (pss_cons (ps_expr (pe_clsinit rfl T.glo_BoughError T.bo.ga T.bo.rd T.bo.fc (pa_cons (pv 0) (pa_cons pe_str pa_nil)))) (pss_cons (ps_ost (pv 0) (pv 1)) pss_nil)), exo_initY h (T.xc.k "TooDeep" (by decide)) rfl rfl rfl (fun a v e hi R k => k _)⟩
theorem sc_NoName_init : FnScope ["self", "found"] ["self", "found"] (defScope st_NoName_init) := ⟨rfl, rfl, rfl, by decide +kernel, rfl, by decide +kernel, by decide +kernel⟩
theorem ok_NoName_init {f : Addr} {fd : FuncData} (T : Txt K mg) (F : FnP K "__init__" "NoName.__init__" st_NoName_init f fd) : FnOkG P w K mg base CX0 1 f fd ["self", "found"] (spY K "NoName") := by
  refine fd_okG F sc_NoName_init (fun vs H Q E h => spY_len h) (fun cdv A outer s H vs Q E hr gd h => ?_)
  exact ⟨_, PSs.nox (pss_cons (ps_expr (pe_clsinit rfl T.glo_BoughError T.bo.ga T.bo.rd T.bo.fc (pa_cons (pv 0) (pa_cons pe_str pa_nil)))) (pss_cons (ps_ost (pv 0) (pv 1)) pss_nil)), exo_initY h (T.xc.k "NoName" (by decide)) rfl rfl rfl (fun a v e hi R k => k _)⟩
theorem sc_Taken_init : FnScope ["self", "found"] ["self", "found"] (defScope st_Taken_init) := ⟨rfl, rfl, rfl, by decide +kernel, rfl, by decide +kernel, by decide +kernel⟩
theorem ok_Taken_init {f : Addr} {fd : FuncData} (T : Txt K mg) (F : FnP K "__init__" "Taken.__init__" st_Taken_init f fd) : FnOkG P w K mg base CX0 1 f fd ["self", "found"] (spY K "Taken") := by
  refine fd_okG F sc_Taken_init (fun vs H Q E h => spY_len h) (fun cdv A outer s H vs Q E hr gd h => ?_)
  exact ⟨_, PSs.nox (pss_cons (ps_expr (pe_clsinit rfl T.glo_BoughError T.bo.ga T.bo.rd T.bo.fc (pa_cons (pv 0) (pa_cons pe_str pa_nil)))) (pss_cons (ps_ost (pv 0) (pv 1)) pss_nil)), exo_initY h (T.xc.k "Taken" (by decide)) rfl rfl rfl (fun a v e hi R k => k _)⟩
theorem sc_NoView_init : FnScope ["self", "found"] ["self", "found"] (defScope st_NoView_init) := ⟨rfl, rfl, rfl, by decide +kernel, rfl, by decide +kernel, by decide +kernel⟩
theorem ok_NoView_init {f : Addr} {fd : FuncData} (T : Txt K mg) (F : FnP K "__init__" "NoView.__init__" st_NoView_init f fd) : FnOkG P w K mg base CX0 1 f fd ["self", "found"] (spY K "NoView") := by
  refine fd_okG F sc_NoView_init (fun vs H Q E h => spY_len h) (fun cdv A outer s H vs Q E hr gd h => ?_)
  exact ⟨_, PSs.nox (pss_cons (ps_expr (pe_clsinit rfl T.glo_BoughError T.bo.ga T.bo.rd T.bo.fc (pa_cons (pv 0) (pa_cons pe_str pa_nil)))) (pss_cons (ps_ost (pv 0) (pv 1)) pss_nil)), exo_initY h (T.xc.k "NoView" (by decide)) rfl rfl rfl (fun a v e hi R k => k _)⟩
theorem sc_law_first : FnScope ["_law_e", "_law_found"] ["_law_e"] (defScope st_law_first) := ⟨rfl, rfl, rfl, by decide +kernel, rfl, by decide +kernel, by decide +kernel⟩
theorem ok_law_first {f : Addr} {fd : FuncData} (T : Txt K mg) (F : FnP K "_law_first" "_law_first" st_law_first f fd)  : FnOk P w K mg base CX0 1 f fd ["_law_e"] (sp_law_first K) := by
  refine F.ok sc_law_first (fun vs H Q E h => spC_len h fun _ => rfl) (fun cdv A outer s H vs Q E hr h => ?_)
  refine ⟨_, PSs.nox (pss_cons (ps_set (i := 1) sc_law_first.nd rfl (Or.inl rfl) (pe_lst (pa_cons (pe_callB call_isO rfl T.free_isinstance (by decide +kernel) (pa_cons (pv 0) (pa_cons (pe_glob (v := .ref (He.ga _ "NoLabel")) rfl T.glo_NoLabel rfl) pa_nil))) (pa_cons (pe_callB call_isO rfl T.free_isinstance (by decide +kernel) (pa_cons (pv 0) (pa_cons (pe_glob (v := .ref (He.ga _ "NoPart")) rfl T.glo_NoPart rfl) pa_nil))) (pa_cons (pe_callB call_isO rfl T.free_isinstance (by decide +kernel) (pa_cons (pv 0) (pa_cons (pe_glob (v := .ref (He.ga _ "NoStep")) rfl T.glo_NoStep rfl) pa_nil))) (pa_cons (pe_callB call_isO rfl T.free_isinstance (by decide +kernel) (pa_cons (pv 0) (pa_cons (pe_glob (v := .ref (He.ga _ "NoPlace")) rfl T.glo_NoPlace rfl) pa_nil))) pa_nil))))))
      (pss_cons (ps_set (i := 1) sc_law_first.nd rfl (Or.inl rfl) (pe_op op_cat (pv 1) (pe_lst (pa_cons (pe_callB call_isO rfl T.free_isinstance (by decide +kernel) (pa_cons (pv 0) (pa_cons (pe_glob (v := .ref (He.ga _ "NoWanted")) rfl T.glo_NoWanted rfl) pa_nil))) (pa_cons (pe_callB call_isO rfl T.free_isinstance (by decide +kernel) (pa_cons (pv 0) (pa_cons (pe_glob (v := .ref (He.ga _ "NoRule")) rfl T.glo_NoRule rfl) pa_nil))) (pa_cons (pe_callB call_isO rfl T.free_isinstance (by decide +kernel) (pa_cons (pv 0) (pa_cons (pe_glob (v := .ref (He.ga _ "TooMany")) rfl T.glo_TooMany rfl) pa_nil))) (pa_cons (pe_callB call_isO rfl T.free_isinstance (by decide +kernel) (pa_cons (pv 0) (pa_cons (pe_glob (v := .ref (He.ga _ "TooDeep")) rfl T.glo_TooDeep rfl) pa_nil))) pa_nil)))))))
      (pss_cons (ps_ret (pe_op op_cat (pv 1) (pe_lst (pa_cons (pe_callB call_isO rfl T.free_isinstance (by decide +kernel) (pa_cons (pv 0) (pa_cons (pe_glob (v := .ref (He.ga _ "NoName")) rfl T.glo_NoName rfl) pa_nil))) (pa_cons (pe_callB call_isO rfl T.free_isinstance (by decide +kernel) (pa_cons (pv 0) (pa_cons (pe_glob (v := .ref (He.ga _ "Taken")) rfl T.glo_Taken rfl) pa_nil))) (pa_cons (pe_callB call_isO rfl T.free_isinstance (by decide +kernel) (pa_cons (pv 0) (pa_cons (pe_glob (v := .ref (He.ga _ "NoView")) rfl T.glo_NoView rfl) pa_nil))) pa_nil)))))) pss_nil))), fn_run (N := ["_law_e", "_law_found"]) (c := c_law_first) h (fun _ => (by decide : 1 ≤ 2)) (fun q => (rb_set (en := (eL D.bl)) 1 (RG.fe (rf_lst (en := D.bl) (rl_cons (re_isO "NoLabel" T.xc (by decide) (re_var (en := (fun d : Va.D => d)) (x := q.1) 0)) (rl_cons (re_isO "NoPart" T.xc (by decide) (re_var (en := (fun d : Va.D => d)) (x := q.1) 0)) (rl_cons (re_isO "NoStep" T.xc (by decide) (re_var (en := (fun d : Va.D => d)) (x := q.1) 0)) (rl_cons (re_isO "NoPlace" T.xc (by decide) (re_var (en := (fun d : Va.D => d)) (x := q.1) 0)) rl_nil)))))) (fun found_1 => (rb_set (en := (eL D.bl)) 1 (RG.fe (rf_cat (RG.el (re_var (en := (eL D.bl)) (x := found_1) 1)) (RG.fl (rf_lst (en := D.bl) (rl_cons (re_isO "NoWanted" T.xc (by decide) (re_var (en := (fun d : Va.D => d)) (x := q.1) 0)) (rl_cons (re_isO "NoRule" T.xc (by decide) (re_var (en := (fun d : Va.D => d)) (x := q.1) 0)) (rl_cons (re_isO "TooMany" T.xc (by decide) (re_var (en := (fun d : Va.D => d)) (x := q.1) 0)) (rl_cons (re_isO "TooDeep" T.xc (by decide) (re_var (en := (fun d : Va.D => d)) (x := q.1) 0)) rl_nil)))))))) (fun found_2 => (rb_retF (rf_cat (RG.el (re_var (en := (eL D.bl)) (x := found_2) 1)) (RG.fl (rf_lst (en := D.bl) (rl_cons (re_isO "NoName" T.xc (by decide) (re_var (en := (fun d : Va.D => d)) (x := q.1) 0)) (rl_cons (re_isO "Taken" T.xc (by decide) (re_var (en := (fun d : Va.D => d)) (x := q.1) 0)) (rl_cons (re_isO "NoView" T.xc (by decide) (re_var (en := (fun d : Va.D => d)) (x := q.1) 0)) rl_nil)))))))))))) ?_⟩
  rintro ⟨e, ⟨⟩⟩ P X h
  change (∃ (c : Str) (x : D), e = .exc c x ∧ c ∈ exN ∧ P (firstL c)) at h
  obtain ⟨c, x, rfl, hc, h⟩ := h
  walk_at "wp"
  repeat (first | exact h | refine isOM_t hc ?_)
  exact ⟨(by show 8 ≤ 16777213; decide), h⟩
theorem sc_law_second : FnScope ["_law_e", "_law_found"] ["_law_e"] (defScope st_law_second) := ⟨rfl, rfl, rfl, by decide +kernel, rfl, by decide +kernel, by decide +kernel⟩
theorem ok_law_second {f : Addr} {fd : FuncData} (T : Txt K mg) (F : FnP K "_law_second" "_law_second" st_law_second f fd)  : FnOk P w K mg base CX0 1 f fd ["_law_e"] (sp_law_second K) := by
  refine F.ok sc_law_second (fun vs H Q E h => spC_len h fun _ => rfl) (fun cdv A outer s H vs Q E hr h => ?_)
  refine ⟨_, PSs.nox (pss_cons (ps_set (i := 1) sc_law_second.nd rfl (Or.inl rfl) (pe_lst (pa_cons (pe_callB call_isO rfl T.free_isinstance (by decide +kernel) (pa_cons (pv 0) (pa_cons (pe_glob (v := .ref (He.ga _ "NoDocument")) rfl T.glo_NoDocument rfl) pa_nil))) (pa_cons (pe_callB call_isO rfl T.free_isinstance (by decide +kernel) (pa_cons (pv 0) (pa_cons (pe_glob (v := .ref (He.ga _ "NoQuestion")) rfl T.glo_NoQuestion rfl) pa_nil))) (pa_cons (pe_callB call_isO rfl T.free_isinstance (by decide +kernel) (pa_cons (pv 0) (pa_cons (pe_glob (v := .ref (He.ga _ "Ring")) rfl T.glo_Ring rfl) pa_nil))) (pa_cons (pe_callB call_isO rfl T.free_isinstance (by decide +kernel) (pa_cons (pv 0) (pa_cons (pe_glob (v := .ref (He.ga _ "NoText")) rfl T.glo_NoText rfl) pa_nil))) pa_nil))))))
      (pss_cons (ps_ret (pe_op op_cat (pv 1) (pe_lst (pa_cons (pe_callB call_isO rfl T.free_isinstance (by decide +kernel) (pa_cons (pv 0) (pa_cons (pe_glob (v := .ref (He.ga _ "NoLine")) rfl T.glo_NoLine rfl) pa_nil))) pa_nil)))) pss_nil)), fn_run (N := ["_law_e", "_law_found"]) (c := c_law_second) h (fun _ => (by decide : 1 ≤ 2)) (fun q => (rb_set (en := (eL D.bl)) 1 (RG.fe (rf_lst (en := D.bl) (rl_cons (re_isO "NoDocument" T.xc (by decide) (re_var (en := (fun d : Va.D => d)) (x := q.1) 0)) (rl_cons (re_isO "NoQuestion" T.xc (by decide) (re_var (en := (fun d : Va.D => d)) (x := q.1) 0)) (rl_cons (re_isO "Ring" T.xc (by decide) (re_var (en := (fun d : Va.D => d)) (x := q.1) 0)) (rl_cons (re_isO "NoText" T.xc (by decide) (re_var (en := (fun d : Va.D => d)) (x := q.1) 0)) rl_nil)))))) (fun found_1 => (rb_retF (rf_cat (RG.el (re_var (en := (eL D.bl)) (x := found_1) 1)) (RG.fl (rf_lst (en := D.bl) (rl_cons (re_isO "NoLine" T.xc (by decide) (re_var (en := (fun d : Va.D => d)) (x := q.1) 0)) rl_nil)))))))) ?_⟩
  rintro ⟨e, ⟨⟩⟩ P X h
  change (∃ (c : Str) (x : D), e = .exc c x ∧ c ∈ exN ∧ P (secondL c)) at h
  obtain ⟨c, x, rfl, hc, h⟩ := h
  walk_at "wp"
  repeat (first | exact h | refine isOM_t hc ?_)
theorem sc_law_kinds : FnScope ["_law_e"] ["_law_e"] (defScope st_law_kinds) := ⟨rfl, rfl, rfl, by decide +kernel, rfl, by decide +kernel, by decide +kernel⟩
theorem ok_law_kinds {f : Addr} {fd : FuncData} (T : Txt K mg) (F : FnP K "_law_kinds" "_law_kinds" st_law_kinds f fd) (G_law_first : Fn P w K mg base CX0 1 "_law_first" ["_law_e"] (sp_law_first K)) (G_law_second : Fn P w K mg base CX0 1 "_law_second" ["_law_e"] (sp_law_second K)) : FnOk P w K mg base CX0 2 f fd ["_law_e"] (sp_law_kinds K) := by
  refine F.ok sc_law_kinds (fun vs H Q E h => spC_len h fun _ => rfl) (fun cdv A outer s H vs Q E hr h => ?_)
  refine ⟨_, PSs.nox (pss_cons (ps_ret (pe_op op_cat (pe_op op_cat (pe_callF G_law_first (hr.mono (by decide)) pass0 (pa_cons (pv 0) pa_nil)) (pe_callF G_law_second (hr.mono (by decide)) pass0 (pa_cons (pv 0) pa_nil))) (pe_lst (pa_cons (pe_callB call_isO rfl T.free_isinstance (by decide +kernel) (pa_cons (pv 0) (pa_cons (pe_glob (v := .ref (He.ga _ "BoughError")) rfl T.glo_BoughError rfl) pa_nil))) (pa_cons (pe_callB call_isO rfl T.free_isinstance (by decide +kernel) (pa_cons (pv 0) (pa_cons (pe_bltn (v := .ty "ValueError") rfl T.free_ValueError (by decide +kernel) rfl) pa_nil))) pa_nil))))) pss_nil), fn_run (N := ["_law_e"]) (c := c_law_kinds) h (fun _ => (by decide : 1 ≤ 1)) (fun q => (rb_retF (rf_cat (RG.fl (rf_cat (RG.fl (rg_call (ra_cons (en := (fun d : Va.D => d)) (re_var (en := (fun d : Va.D => d)) (x := q.1) 0) ra_nil) (fun _ _ _ h => h))) (RG.fl (rg_call (ra_cons (en := (fun d : Va.D => d)) (re_var (en := (fun d : Va.D => d)) (x := q.1) 0) ra_nil) (fun _ _ _ h => h))))) (RG.fl (rf_lst (en := D.bl) (rl_cons (re_isO "BoughError" T.xc (by decide) (re_var (en := (fun d : Va.D => d)) (x := q.1) 0)) (rl_cons (re_isOV T.xc (re_var (en := (fun d : Va.D => d)) (x := q.1) 0)) rl_nil))))))) ?_⟩
  rintro ⟨e, ⟨⟩⟩ P X h
  change (∃ (c : Str) (x : D), e = .exc c x ∧ c ∈ exN ∧ P (firstL c ++ secondL c ++ [isX "BoughError" c, true])) at h
  obtain ⟨c, x, rfl, hc, h⟩ := h
  walk_at "wp"
  refine ⟨c, x, rfl, hc, c, x, rfl, hc, (by show 16 ≤ 16777216; decide), ?_⟩
  refine isOM_t hc (isOM_t hc ⟨(by show 16 ≤ 16777214; decide), ?_⟩)
  have e2 : isX "ValueError" c = true := by simp [isX]
  rw [e2]
  exact h
theorem sc_law : FnScope ["_law_script", "_law_cell", "_law_thing", "_law_found", "_law_document", "_law_question", "_law_ring", "_law_text", "_law_line", "_law_told", "_law_k", "_law_others", "_law_e", "_law_j"] ["_law_script"] (defScope st_law) := ⟨rfl, rfl, rfl, by decide +kernel, rfl, by decide +kernel, by decide +kernel⟩
theorem ok_law {f : Addr} {fd : FuncData} (T : Txt K mg) (F : FnP K "law" "law" st_law f fd) (X_NoRule : XcrG P w K mg base 1 "NoRule") (X_NoWanted : XcrG P w K mg base 1 "NoWanted") (X_NoPlace : XcrG P w K mg base 1 "NoPlace") (X_NoStep : XcrG P w K mg base 1 "NoStep") (X_NoPart : XcrG P w K mg base 1 "NoPart") (X_NoLabel : XcrG P w K mg base 1 "NoLabel") (X_NoView : XcrG P w K mg base 1 "NoView") (X_Taken : XcrG P w K mg base 1 "Taken") (X_NoName : XcrG P w K mg base 1 "NoName") (X_TooDeep : XcrG P w K mg base 1 "TooDeep") (X_TooMany : XcrG P w K mg base 1 "TooMany") (X_NoDocument : XcrG P w K mg base 1 "NoDocument") (X_NoQuestion : XcrG P w K mg base 1 "NoQuestion") (X_Ring : XcrG P w K mg base 1 "Ring") (X_NoText : XcrG P w K mg base 1 "NoText") (X_NoLine : XcrG P w K mg base 1 "NoLine") (G_law_kinds : Fn P w K mg base CX0 2 "_law_kinds" ["_law_e"] (sp_law_kinds K)) : FnOkG P w K mg base CX0 3 f fd ["_law_script"] (sp_law K) := by
  refine fd_okG F sc_law (fun vs H Q E h => spC_len h fun _ => rfl) (fun cdv A outer s H vs Q E hr gd h => ?_)
  refine ⟨_, PSs.nox (pss_cons (ps_set (i := 1) sc_law.nd rfl (Or.inl rfl) pe_int)
      (pss_cons (ps_if (pt_cmpR (op_neD hr.units) (pv 0) (pe_lst pa_nil) (nomark _))
      (pss_cons (ps_set (i := 1) sc_law.nd rfl (Or.inl rfl) (pe_ix ix_list (pv 0) pe_int (fun _ _ => rfl))) pss_nil)
      pss_nil)
      (pss_cons (ps_set (i := 2) sc_law.nd rfl (Or.inl rfl) (pe_ix ix_list (pe_lst (pa_cons (pe_op op_mod (pv 1) (pe_op op_pow pe_int pe_int)) (pa_cons (pe_op op_mul_strA pe_str (pe_op op_mod (pv 1) pe_int)) (pa_cons pe_non (pa_cons (pe_lst (pa_cons (pe_op op_mod (pv 1) pe_int) pa_nil)) (pa_cons (pe_tup (pa_cons pe_str (pa_cons (pe_op op_mod (pv 1) pe_int) pa_nil))) (pa_cons pe_bl pa_nil))))))) (pe_op op_mod (pe_op op_fdiv (pv 1) pe_int) pe_int) (fun _ _ => rfl)))
      (pss_cons (ps_set (i := 3) sc_law.nd rfl (Or.inl rfl) (pe_lst (pa_cons (pe_mkG X_NoLabel (hr.mono (by decide)) gd (pa_cons (pv 2) pa_nil)) (pa_cons (pe_mkG X_NoPart (hr.mono (by decide)) gd (pa_cons (pv 2) pa_nil)) (pa_cons (pe_mkG X_NoStep (hr.mono (by decide)) gd (pa_cons (pv 2) pa_nil)) (pa_cons (pe_mkG X_NoPlace (hr.mono (by decide)) gd (pa_cons (pv 2) pa_nil)) (pa_cons (pe_mkG X_NoWanted (hr.mono (by decide)) gd (pa_cons (pv 2) pa_nil)) (pa_cons (pe_mkG X_NoRule (hr.mono (by decide)) gd (pa_cons (pv 2) pa_nil)) pa_nil))))))))
      (pss_cons (ps_set (i := 3) sc_law.nd rfl (Or.inl rfl) (pe_op op_cat (pv 3) (pe_lst (pa_cons (pe_mkG X_TooMany (hr.mono (by decide)) gd (pa_cons (pv 2) pa_nil)) (pa_cons (pe_mkG X_TooDeep (hr.mono (by decide)) gd (pa_cons (pv 2) pa_nil)) (pa_cons (pe_mkG X_NoName (hr.mono (by decide)) gd (pa_cons (pv 2) pa_nil)) (pa_cons (pe_mkG X_Taken (hr.mono (by decide)) gd (pa_cons (pv 2) pa_nil)) (pa_cons (pe_mkG X_NoView (hr.mono (by decide)) gd (pa_cons (pv 2) pa_nil)) pa_nil))))))))
      (pss_cons (ps_set (i := 4) sc_law.nd rfl (Or.inl rfl) (pe_mkG X_NoDocument (hr.mono (by decide)) gd (pa_cons (pv 2) pa_nil)))
      (pss_cons (ps_set (i := 5) sc_law.nd rfl (Or.inl rfl) (pe_mkG X_NoQuestion (hr.mono (by decide)) gd (pa_cons (pv 2) pa_nil)))
      (pss_cons (ps_set (i := 6) sc_law.nd rfl (Or.inl rfl) (pe_mkG X_Ring (hr.mono (by decide)) gd (pa_cons (pv 2) pa_nil)))
      (pss_cons (ps_set (i := 7) sc_law.nd rfl (Or.inl rfl) (pe_mkG X_NoText (hr.mono (by decide)) gd (pa_cons (pv 2) pa_nil)))
      (pss_cons (ps_set (i := 8) sc_law.nd rfl (Or.inl rfl) (pe_mkG X_NoLine (hr.mono (by decide)) gd (pa_cons (pv 2) pa_nil)))
      (pss_cons (ps_set (i := 9) sc_law.nd rfl (Or.inl rfl) (pe_op op_cat (pe_lc (own := [("_law_e", 12)]) (g := gName 12) (te := (tOf K "found" (tVar 12))) rfl sc_law.nd (pi_list (pv 3)) (blkOk_by (own := [("_law_e", 12)]) (N := ["_law_script", "_law_cell", "_law_thing", "_law_found", "_law_document", "_law_question", "_law_ring", "_law_text", "_law_line", "_law_told", "_law_k", "_law_others", "_law_e", "_law_j"]) (sc := defScope st_law) (by decide +kernel)) (fun _ _ _ _ _ => (pg_name (i := 12) sc_law.nd rfl (Or.inl rfl))) (fun _ _ _ _ _ => pts_nil) (fun _ _ _ _ _ => (pe_ofK (K := K) (pv 12)))) (pe_lst (pa_cons (pe_ofK (K := K) (pv 4)) (pa_cons (pe_ofK (K := K) (pv 5)) (pa_cons (pe_ofK (K := K) (pv 6)) (pa_cons (pe_ofK (K := K) (pv 7)) (pa_cons (pe_ofK (K := K) (pv 8)) pa_nil))))))))
      (pss_cons (ps_if (pt_cmpR op_ne (pe_callB (call_reprV gd (un_of hr)) rfl T.free_repr (by decide +kernel) (pa_cons (pv 9) pa_nil)) (pe_callB (call_reprV gd (un_of hr)) rfl T.free_repr (by decide +kernel) (pa_cons (pe_op op_rep (pe_lst (pa_cons (pv 2) pa_nil)) pe_int) pa_nil)) (nomark _))
      (pss_cons (ps_ret pe_bl) pss_nil)
      pss_nil)
      (pss_cons (ps_for PassesOwn.never rfl (pi_range1 rfl T.free_range (pa_cons pe_int pa_nil)) (pg_name (i := 10) sc_law.nd rfl (Or.inr rfl))
      (pss_cons (ps_if (pt_cmpR (op_neD hr.units) (pe_callF G_law_kinds (hr.mono (by decide)) pass0 (pa_cons (pe_ix ix_list (pv 3) (pv 10) (fun _ _ => rfl)) pa_nil)) (pe_op op_cat (pe_lc (own := [("_law_j", 13)]) (g := gName 13) rfl sc_law.nd (pi_range1 rfl T.free_range (pa_cons pe_int pa_nil)) (blkOk_by (own := [("_law_j", 13)]) (N := ["_law_script", "_law_cell", "_law_thing", "_law_found", "_law_document", "_law_question", "_law_ring", "_law_text", "_law_line", "_law_told", "_law_k", "_law_others", "_law_e", "_law_j"]) (sc := defScope st_law) (by decide +kernel)) (fun _ _ _ _ _ => (pg_name (i := 13) sc_law.nd rfl (Or.inl rfl))) (fun _ _ _ _ _ => pts_nil) (fun _ _ _ _ _ => (pe_cmpR op_eq (pv 13) (pv 10) (nomark _)))) (pe_lst (pa_cons pe_bl (pa_cons pe_bl pa_nil)))) (nomark _))
      (pss_cons (ps_ret pe_bl) pss_nil)
      pss_nil) pss_nil))
      (pss_cons (ps_set (i := 11) sc_law.nd rfl (Or.inl rfl) (pe_lst (pa_cons (pe_callF G_law_kinds (hr.mono (by decide)) pass0 (pa_cons (pv 4) pa_nil)) (pa_cons (pe_callF G_law_kinds (hr.mono (by decide)) pass0 (pa_cons (pv 5) pa_nil)) (pa_cons (pe_callF G_law_kinds (hr.mono (by decide)) pass0 (pa_cons (pv 6) pa_nil)) (pa_cons (pe_callF G_law_kinds (hr.mono (by decide)) pass0 (pa_cons (pv 7) pa_nil)) (pa_cons (pe_callF G_law_kinds (hr.mono (by decide)) pass0 (pa_cons (pv 8) pa_nil)) pa_nil)))))))
      (pss_cons (ps_for PassesOwn.never rfl (pi_range1 rfl T.free_range (pa_cons pe_int pa_nil)) (pg_name (i := 10) sc_law.nd rfl (Or.inr rfl))
      (pss_cons (ps_if (pt_cmpR (op_neD hr.units) (pe_ix ix_list (pv 11) (pv 10) (fun _ _ => rfl)) (pe_op op_cat (pe_lc (own := [("_law_j", 13)]) (g := gName 13) rfl sc_law.nd (pi_range1 rfl T.free_range (pa_cons pe_int pa_nil)) (blkOk_by (own := [("_law_j", 13)]) (N := ["_law_script", "_law_cell", "_law_thing", "_law_found", "_law_document", "_law_question", "_law_ring", "_law_text", "_law_line", "_law_told", "_law_k", "_law_others", "_law_e", "_law_j"]) (sc := defScope st_law) (by decide +kernel)) (fun _ _ _ _ _ => (pg_name (i := 13) sc_law.nd rfl (Or.inl rfl))) (fun _ _ _ _ _ => pts_nil) (fun _ _ _ _ _ => (pe_cmpR op_eq (pv 13) (pe_op op_add pe_int (pv 10)) (nomark _)))) (pe_lst (pa_cons pe_bl (pa_cons pe_bl pa_nil)))) (nomark _))
      (pss_cons (ps_ret pe_bl) pss_nil)
      pss_nil) pss_nil))
      (pss_cons (ps_ret pe_bl) pss_nil)))))))))))))))), fn_run (N := ["_law_script", "_law_cell", "_law_thing", "_law_found", "_law_document", "_law_question", "_law_ring", "_law_text", "_law_line", "_law_told", "_law_k", "_law_others", "_law_e", "_law_j"]) (c := c_law) h (fun _ => (by decide : 1 ≤ 14)) (fun q => (rb_set (en := D.int) 1 (re_int 0) (fun cell_1 => (rb_ifS (S := Int) (fun s_2 : Int => [.scr q.1, .sh (D.int s_2), .no, .no, .no, .no, .no, .no, .no, .no, .no, .no, .no, .no]) (rt_test (re_neD (rq_scr 0) (RG.fe (rf_lst (en := D.int) rl_nil)))) (rb_set (en := D.int) 1 (re_ixL (rq_scr 0) (re_int 0)) (fun cell_3 => (rb_nil (s := ((cell_3) : Int)) (le_cons (le_cons (le_no (le_no (le_no (le_no (le_no (le_no (le_no (le_no (le_no (le_no (le_no (le_no le_nil))))))))))))))))) (rb_nil (s := ((cell_1) : Int)) (le_cons (le_cons (le_no (le_no (le_no (le_no (le_no (le_no (le_no (le_no (le_no (le_no (le_no (le_no le_nil))))))))))))))) (fun s_2 => (rb_set (en := (fun d : Va.D => d)) 2 (re_ixL (RG.fq (rf_lst (en := (fun d : Va.D => d)) (rl_cons (RG.map (en' := (fun d : Va.D => d)) D.int (re_bnd (re_var (en := D.int) (x := s_2) 1) (re_bnd (re_int 10) (re_int 60))) (fun _ => rfl)) (rl_cons (RG.map (en' := (fun d : Va.D => d)) D.str (re_mulA (re_str "a") (re_bnd (re_var (en := D.int) (x := s_2) 1) (re_int 9))) (fun _ => rfl)) (rl_cons (RG.map (en' := (fun d : Va.D => d)) eU re_non (fun _ => rfl)) (rl_cons (RG.map (en' := (fun d : Va.D => d)) (eL D.int) (RG.fe (rf_lst (en := D.int) (rl_cons (re_bnd (re_var (en := D.int) (x := s_2) 1) (re_int 7)) rl_nil))) (fun _ => rfl)) (rl_cons (RG.map (en' := (fun d : Va.D => d)) (eT2 D.str D.int) (re_tup2 (re_str "a") (re_bnd (re_var (en := D.int) (x := s_2) 1) (re_int 5))) (fun _ => rfl)) (rl_cons (RG.map (en' := (fun d : Va.D => d)) D.bl (re_bl true) (fun _ => rfl)) rl_nil)))))))) (re_bnd (re_bnd (re_var (en := D.int) (x := s_2) 1) (re_int 7)) (re_int 6))) (fun thing_4 => (rb_set (en := (eL (fun d : Va.D => d))) 3 (RG.fe (rf_lst (en := (fun d : Va.D => d)) (rl_cons (re_mkY (en := (fun d : Va.D => d)) "NoLabel" (re_var (en := (fun d : Va.D => d)) (x := thing_4) 2)) (rl_cons (re_mkY (en := (fun d : Va.D => d)) "NoPart" (re_var (en := (fun d : Va.D => d)) (x := thing_4) 2)) (rl_cons (re_mkY (en := (fun d : Va.D => d)) "NoStep" (re_var (en := (fun d : Va.D => d)) (x := thing_4) 2)) (rl_cons (re_mkY (en := (fun d : Va.D => d)) "NoPlace" (re_var (en := (fun d : Va.D => d)) (x := thing_4) 2)) (rl_cons (re_mkY (en := (fun d : Va.D => d)) "NoWanted" (re_var (en := (fun d : Va.D => d)) (x := thing_4) 2)) (rl_cons (re_mkY (en := (fun d : Va.D => d)) "NoRule" (re_var (en := (fun d : Va.D => d)) (x := thing_4) 2)) rl_nil)))))))) (fun found_5 => (rb_set (en := (eL (fun d : Va.D => d))) 3 (RG.fe (rf_cat (RG.el (re_var (en := (eL (fun d : Va.D => d))) (x := found_5) 3)) (RG.fl (rf_lst (en := (fun d : Va.D => d)) (rl_cons (re_mkY (en := (fun d : Va.D => d)) "TooMany" (re_var (en := (fun d : Va.D => d)) (x := thing_4) 2)) (rl_cons (re_mkY (en := (fun d : Va.D => d)) "TooDeep" (re_var (en := (fun d : Va.D => d)) (x := thing_4) 2)) (rl_cons (re_mkY (en := (fun d : Va.D => d)) "NoName" (re_var (en := (fun d : Va.D => d)) (x := thing_4) 2)) (rl_cons (re_mkY (en := (fun d : Va.D => d)) "Taken" (re_var (en := (fun d : Va.D => d)) (x := thing_4) 2)) (rl_cons (re_mkY (en := (fun d : Va.D => d)) "NoView" (re_var (en := (fun d : Va.D => d)) (x := thing_4) 2)) rl_nil))))))))) (fun found_6 => (rb_set (en := (fun d : Va.D => d)) 4 (re_mkY (en := (fun d : Va.D => d)) "NoDocument" (re_var (en := (fun d : Va.D => d)) (x := thing_4) 2)) (fun document_7 => (rb_set (en := (fun d : Va.D => d)) 5 (re_mkY (en := (fun d : Va.D => d)) "NoQuestion" (re_var (en := (fun d : Va.D => d)) (x := thing_4) 2)) (fun question_8 => (rb_set (en := (fun d : Va.D => d)) 6 (re_mkY (en := (fun d : Va.D => d)) "Ring" (re_var (en := (fun d : Va.D => d)) (x := thing_4) 2)) (fun ring_9 => (rb_set (en := (fun d : Va.D => d)) 7 (re_mkY (en := (fun d : Va.D => d)) "NoText" (re_var (en := (fun d : Va.D => d)) (x := thing_4) 2)) (fun text_10 => (rb_set (en := (fun d : Va.D => d)) 8 (re_mkY (en := (fun d : Va.D => d)) "NoLine" (re_var (en := (fun d : Va.D => d)) (x := thing_4) 2)) (fun line_11 => (rb_set (en := (eL (fun d : Va.D => d))) 9 (RG.fe (rf_cat (RG.fl (rf_lc (en := (fun d : Va.D => d)) (en' := (fun d : Va.D => d)) (ri_list (RG.es (re_var (en := (eL (fun d : Va.D => d))) (x := found_6) 3))) (tg_name (en := (fun d : Va.D => d)) 12) (fun x_12 => rt_yes) (fun x_12 => (re_ofO "found" T.xc (re_var (en := (fun d : Va.D => d)) (x := x_12) 12))) (fun _ _ _ => rfl))) (RG.fl (rf_lst (en := (fun d : Va.D => d)) (rl_cons (re_ofO "row" T.xc (re_var (en := (fun d : Va.D => d)) (x := document_7) 4)) (rl_cons (re_ofO "row" T.xc (re_var (en := (fun d : Va.D => d)) (x := question_8) 5)) (rl_cons (re_ofO "labels" T.xc (re_var (en := (fun d : Va.D => d)) (x := ring_9) 6)) (rl_cons (re_ofO "place" T.xc (re_var (en := (fun d : Va.D => d)) (x := text_10) 7)) (rl_cons (re_ofO "line" T.xc (re_var (en := (fun d : Va.D => d)) (x := line_11) 8)) rl_nil))))))))) (fun told_13 => (rb_if (S := Unit) (ρj := (fun s_14 : Unit => [.scr q.1, .sh (D.int s_2), .sh ((fun d : Va.D => d) thing_4), .sh ((eL (fun d : Va.D => d)) found_6), .sh ((fun d : Va.D => d) document_7), .sh ((fun d : Va.D => d) question_8), .sh ((fun d : Va.D => d) ring_9), .sh ((fun d : Va.D => d) text_10), .sh ((fun d : Va.D => d) line_11), .sh ((eL (fun d : Va.D => d)) told_13), .no, .no, .no, .no])) (rt_test (re_ne (re_repr (re_var (en := (eL (fun d : Va.D => d))) (x := told_13) 9)) (re_repr (RG.fe (rf_rep (RG.fl (rf_lst (en := (fun d : Va.D => d)) (rl_cons (re_var (en := (fun d : Va.D => d)) (x := thing_4) 2) rl_nil))) (re_int 16)))))) (rb_retE (en := D.bl) (re_bl false)) (rb_nil (s := (() : Unit)) (le_cons (le_cons (le_cons (le_cons (le_cons (le_cons (le_cons (le_cons (le_cons (le_cons (le_no (le_no (le_no (le_no le_nil))))))))))))))) (fun s_14 => (rb_for (en := D.int) (S := Unit) (fun s_15 : Unit => [.scr q.1, .sh (D.int s_2), .sh ((fun d : Va.D => d) thing_4), .sh ((eL (fun d : Va.D => d)) found_6), .sh ((fun d : Va.D => d) document_7), .sh ((fun d : Va.D => d) question_8), .sh ((fun d : Va.D => d) ring_9), .sh ((fun d : Va.D => d) text_10), .sh ((fun d : Va.D => d) line_11), .sh ((eL (fun d : Va.D => d)) told_13), .no, .no, .no, .no]) () (ri_rng1 (re_int 11)) (tg_name (en := D.int) 10) (le_cons (le_cons (le_cons (le_cons (le_cons (le_cons (le_cons (le_cons (le_cons (le_cons (le_no (le_no (le_no (le_no le_nil)))))))))))))) (fun x_16 s_15 => (rb_if (S := Unit) (ρj := (fun s_18 : Unit => [.scr q.1, .sh (D.int s_2), .sh ((fun d : Va.D => d) thing_4), .sh ((eL (fun d : Va.D => d)) found_6), .sh ((fun d : Va.D => d) document_7), .sh ((fun d : Va.D => d) question_8), .sh ((fun d : Va.D => d) ring_9), .sh ((fun d : Va.D => d) text_10), .sh ((fun d : Va.D => d) line_11), .sh ((eL (fun d : Va.D => d)) told_13), .sh (D.int x_16), .no, .no, .no])) (rt_test (re_neD (RG.fe (rg_call (ra_cons (en := (fun d : Va.D => d)) (re_ixL (RG.eq (re_var (en := (eL (fun d : Va.D => d))) (x := found_6) 3)) (re_var (en := D.int) (x := x_16) 10)) ra_nil) (fun _ _ _ h => h))) (RG.fe (rf_cat (RG.fl (rf_lc (en := D.int) (en' := D.bl) (ri_rng1 (re_int 16)) (tg_name (en := D.int) 13) (fun x_17 => rt_yes) (fun x_17 => (re_eq (re_var (en := D.int) (x := x_17) 13) (re_var (en := D.int) (x := x_16) 10))) (fun _ _ _ => rfl))) (RG.fl (rf_lst (en := D.bl) (rl_cons (re_bl true) (rl_cons (re_bl true) rl_nil)))))))) (rb_retE (en := D.bl) (re_bl false)) (rb_nil (s := (() : Unit)) (le_cons (le_cons (le_cons (le_cons (le_cons (le_cons (le_cons (le_cons (le_cons (le_cons (le_cons (le_no (le_no (le_no le_nil))))))))))))))) (fun s_18 => (rb_nil (s := (() : Unit)) (le_cons (le_cons (le_cons (le_cons (le_cons (le_cons (le_cons (le_cons (le_cons (le_cons (le_no (le_no (le_no (le_no le_nil)))))))))))))))))) (fun s_15 => (rb_set (en := (eL (eL D.bl))) 11 (RG.fe (rf_lst (en := (eL D.bl)) (rl_cons (RG.fe (rg_call (ra_cons (en := (fun d : Va.D => d)) (re_var (en := (fun d : Va.D => d)) (x := document_7) 4) ra_nil) (fun _ _ _ h => h))) (rl_cons (RG.fe (rg_call (ra_cons (en := (fun d : Va.D => d)) (re_var (en := (fun d : Va.D => d)) (x := question_8) 5) ra_nil) (fun _ _ _ h => h))) (rl_cons (RG.fe (rg_call (ra_cons (en := (fun d : Va.D => d)) (re_var (en := (fun d : Va.D => d)) (x := ring_9) 6) ra_nil) (fun _ _ _ h => h))) (rl_cons (RG.fe (rg_call (ra_cons (en := (fun d : Va.D => d)) (re_var (en := (fun d : Va.D => d)) (x := text_10) 7) ra_nil) (fun _ _ _ h => h))) (rl_cons (RG.fe (rg_call (ra_cons (en := (fun d : Va.D => d)) (re_var (en := (fun d : Va.D => d)) (x := line_11) 8) ra_nil) (fun _ _ _ h => h))) rl_nil))))))) (fun others_19 => (rb_for (en := D.int) (S := Unit) (fun s_20 : Unit => [.scr q.1, .sh (D.int s_2), .sh ((fun d : Va.D => d) thing_4), .sh ((eL (fun d : Va.D => d)) found_6), .sh ((fun d : Va.D => d) document_7), .sh ((fun d : Va.D => d) question_8), .sh ((fun d : Va.D => d) ring_9), .sh ((fun d : Va.D => d) text_10), .sh ((fun d : Va.D => d) line_11), .sh ((eL (fun d : Va.D => d)) told_13), .no, .sh ((eL (eL D.bl)) others_19), .no, .no]) () (ri_rng1 (re_int 5)) (tg_name (en := D.int) 10) (le_cons (le_cons (le_cons (le_cons (le_cons (le_cons (le_cons (le_cons (le_cons (le_cons (le_no (le_cons (le_no (le_no le_nil)))))))))))))) (fun x_21 s_20 => (rb_if (S := Unit) (ρj := (fun s_23 : Unit => [.scr q.1, .sh (D.int s_2), .sh ((fun d : Va.D => d) thing_4), .sh ((eL (fun d : Va.D => d)) found_6), .sh ((fun d : Va.D => d) document_7), .sh ((fun d : Va.D => d) question_8), .sh ((fun d : Va.D => d) ring_9), .sh ((fun d : Va.D => d) text_10), .sh ((fun d : Va.D => d) line_11), .sh ((eL (fun d : Va.D => d)) told_13), .sh (D.int x_21), .sh ((eL (eL D.bl)) others_19), .no, .no])) (rt_test (re_neD (re_ixL (RG.eq (re_var (en := (eL (eL D.bl))) (x := others_19) 11)) (re_var (en := D.int) (x := x_21) 10)) (RG.fe (rf_cat (RG.fl (rf_lc (en := D.int) (en' := D.bl) (ri_rng1 (re_int 16)) (tg_name (en := D.int) 13) (fun x_22 => rt_yes) (fun x_22 => (re_eq (re_var (en := D.int) (x := x_22) 13) (re_add (re_int 11) (re_var (en := D.int) (x := x_21) 10)))) (fun _ _ _ => rfl))) (RG.fl (rf_lst (en := D.bl) (rl_cons (re_bl true) (rl_cons (re_bl true) rl_nil)))))))) (rb_retE (en := D.bl) (re_bl false)) (rb_nil (s := (() : Unit)) (le_cons (le_cons (le_cons (le_cons (le_cons (le_cons (le_cons (le_cons (le_cons (le_cons (le_cons (le_cons (le_no (le_no le_nil))))))))))))))) (fun s_23 => (rb_nil (s := (() : Unit)) (le_cons (le_cons (le_cons (le_cons (le_cons (le_cons (le_cons (le_cons (le_cons (le_cons (le_no (le_cons (le_no (le_no le_nil)))))))))))))))))) (fun s_20 => (rb_retE (en := D.bl) (re_bl true))))))))))))))))))))))))))))))))) ?_⟩
  rintro ⟨script, ⟨⟩⟩ P X h
  change (script.length ≤ 63 ∧ P true) at h
  obtain ⟨hl, hp⟩ := h
  walk_at "wp"
  refine join_inv (fun _ : Int => True) (fun Q kq => ?_) fun c _ => ?_
  · walk_at "wp"
    refine neD_nil (n := 0) (fun x _ => nice_int x) (by decide) ?_
    cases script with
    | nil => exact ⟨fun z => (nomatch z), fun _ => kq _ trivial⟩
    | cons x l => exact ⟨fun _ => getI_n (x := x) (by decide) rfl (kq _ trivial), fun z => (nomatch z)⟩
  walk_at "wp"
  refine ⟨by decide, ⟨by omega, by omega, by decide +kernel⟩, getI_lt (by omega) (by simp only [List.length_cons, List.length_nil]; omega) fun d hd => ?_⟩
  have ht := txt_things c d (List.mem_of_getElem? hd)
  clear hd
  iterate 16 refine mkY_t ht ?_
  refine ⟨by show 11 ≤ 16777216; decide, ?_⟩
  refine lcM_filter (fun _ => true) (fun _ => d) (fun x _ Q q => q) (fun x hx _ Q q => ?_) ?_
  · simp only [List.mem_append, List.mem_cons, List.not_mem_nil, or_false] at hx
    rcases hx with (rfl | rfl | rfl | rfl | rfl | rfl) | (rfl | rfl | rfl | rfl | rfl) <;> exact ofM_t (by decide +kernel) (by decide +kernel) q
  iterate 5 refine ofM_t (by decide +kernel) (by decide +kernel) ?_
  have e11 : ∀ l : List D, ((l.filter fun _ => true).map fun _ => d) = List.replicate l.length d := fun l => by
    rw [List.filter_eq_self.mpr fun _ _ => rfl, List.map_const']
  rw [e11]
  refine ⟨by rw [List.length_replicate]; show 11 ≤ 16777211; decide, ?_⟩
  have e16 : List.replicate 11 d ++ [d, d, d, d, d] = List.replicate 16 d := rfl
  have ed : ∀ l : List D, eL (fun d => d) l = .lst l := fun l => by simp [eL]
  show reprM (eL (fun d => d) (List.replicate 11 d ++ [d, d, d, d, d])) _ _
  rw [e16, ed]
  refine rep_in ⟨_, .inl rfl⟩ (told16 ht) ⟨by decide, ?_⟩
  rw [List.map_id']
  refine rep_in ⟨_, .inl rfl⟩ (told16 ht) ⟨fun z => absurd rfl z, fun _ => ?_⟩
  have nb : ∀ l : List Bool, Nice 1 (eL D.bl l) := fun l => nice_l (en := D.bl) fun x _ => nice_bl x
  have rl : (rng 0 16).length = 16 := rng_len _ _
  refine forL_inv (fun _ _ => True) trivial (fun i x s hx _ Q kn _ _ => ?_) fun s _ => ?_
  · obtain ⟨hi, rfl⟩ := rng_at hx
    obtain ⟨z, hz⟩ := get_lt (l := exA) (n := i) hi
    have hza : (exA ++ exB)[i]? = some z := by rw [List.getElem?_append_left hi]; exact hz
    have hi : i < 11 := hi
    obtain ⟨k1, k2⟩ := kl16 i (by omega) z hza
    walk_at "wp"
    refine getI_n (x := .exc z d) (by omega) ?_ ⟨z, d, rfl, k1, by rw [rl]; decide, ?_⟩
    · show (exA.map fun c => D.exc c d)[_]? = _
      rw [List.getElem?_map, show ((0 : Int) + (i : Int)).toNat = i by omega, hz]; rfl
    refine lcM_filter (fun _ => true) (fun j => decide (j = (0 : Int) + (i : Int))) (fun x _ Q q => q) (fun x _ _ Q q => by rw [eq_ii]; exact q) ?_
    rw [List.filter_eq_self.mpr fun _ _ => rfl]
    refine ⟨by rw [List.length_map, rl]; decide, ?_⟩
    have e1 : firstL z ++ secondL z ++ [isX "BoughError" z, true] = ((rng 0 16).map fun j => decide (j = (0 : Int) + (i : Int))) ++ [true, true] := by rw [Int.zero_add]; exact k2
    rw [e1]
    refine neD_r (nb _) (by decide) ?_
    exact ⟨fun z => (nomatch z), fun _ => kn _ trivial⟩
  walk_at "wp"
  refine ⟨"NoDocument", d, rfl, by decide +kernel, "NoQuestion", d, rfl, by decide +kernel, "Ring", d, rfl, by decide +kernel, "NoText", d, rfl, by decide +kernel, "NoLine", d, rfl, by decide +kernel, ?_⟩
  refine forL_inv (fun _ _ => True) trivial (fun i x s hx _ Q kn _ _ => ?_) fun s _ => hp
  obtain ⟨hi, rfl⟩ := rng_at hx
  obtain ⟨z, hz⟩ := get_lt (l := exB) (n := i) hi
  have hza : (exA ++ exB)[i + 11]? = some z := by
    rw [List.getElem?_append_right (by show 11 ≤ i + 11; omega), show i + 11 - exA.length = i by show i + 11 - 11 = i; omega]
    exact hz
  obtain ⟨k1, k2⟩ := kl16 (i + 11) (by omega) z hza
  walk_at "wp"
  refine getI_n (x := klL z) (by omega) ?_ ⟨by rw [rl]; decide, ?_⟩
  · show (exB.map klL)[_]? = _
    rw [List.getElem?_map, show ((0 : Int) + (i : Int)).toNat = i by omega, hz]; rfl
  refine lcM_filter (fun _ => true) (fun j => decide (j = 11 + ((0 : Int) + (i : Int)))) (fun x _ Q q => q) (fun x _ _ Q q => by rw [eq_ii]; exact q) ?_
  rw [List.filter_eq_self.mpr fun _ _ => rfl]
  refine ⟨by rw [List.length_map, rl]; decide, ?_⟩
  have e1 : klL z = ((rng 0 16).map fun j => decide (j = 11 + ((0 : Int) + (i : Int)))) ++ [true, true] := by
    rw [k2, show ((i + 11 : Nat) : Int) = 11 + (0 + (i : Int)) by omega]
  rw [e1]
  refine neD_r (nb _) (by decide) ?_
  exact ⟨fun z => (nomatch z), fun _ => kn _ trivial⟩
end
theorem facts {P : Program} {w : World} {K : PySem.W.Frag} {h : Heap} {mg : Str → Option Value} {fl : Addr} (X : K.In h) (G : h.Ns mainGlobals mg) (hfa : mg ("law" : Str) = some (.ref fl)) (c : He.SaysD facs fns K) (cx : (exs K).all id = true) :
    ∃ fd : FuncData, (∀ (s : Shared) (v : Value), BindsTo s fd ⟨[v], []⟩ [("_law_script", v)]) ∧ ∀ base : Heap, K.In base → base.Ns mainGlobals mg → FnOkG P w K mg base CX0 3 fl fd ["_law_script"] (sp_law K) := by
  obtain ⟨fd_law_first, F_law_first⟩ := c.def_ 0 (d := dd_law_first) rfl
  obtain ⟨fd_law_second, F_law_second⟩ := c.def_ 1 (d := dd_law_second) rfl
  obtain ⟨fd_law_kinds, F_law_kinds⟩ := c.def_ 2 (d := dd_law_kinds) rfl
  obtain ⟨fd_law, F_law⟩ := c.def_ 3 (d := dd_law) rfl
  obtain ⟨fd_NoLabel_init, F_NoLabel_init⟩ := c.def_ 4 (d := dd_NoLabel_init) rfl
  obtain ⟨fd_NoPart_init, F_NoPart_init⟩ := c.def_ 5 (d := dd_NoPart_init) rfl
  obtain ⟨fd_NoStep_init, F_NoStep_init⟩ := c.def_ 6 (d := dd_NoStep_init) rfl
  obtain ⟨fd_NoPlace_init, F_NoPlace_init⟩ := c.def_ 7 (d := dd_NoPlace_init) rfl
  obtain ⟨fd_NoDocument_init, F_NoDocument_init⟩ := c.def_ 8 (d := dd_NoDocument_init) rfl
  obtain ⟨fd_NoQuestion_init, F_NoQuestion_init⟩ := c.def_ 9 (d := dd_NoQuestion_init) rfl
  obtain ⟨fd_NoWanted_init, F_NoWanted_init⟩ := c.def_ 10 (d := dd_NoWanted_init) rfl
  obtain ⟨fd_NoRule_init, F_NoRule_init⟩ := c.def_ 11 (d := dd_NoRule_init) rfl
  obtain ⟨fd_Ring_init, F_Ring_init⟩ := c.def_ 12 (d := dd_Ring_init) rfl
  obtain ⟨fd_NoText_init, F_NoText_init⟩ := c.def_ 13 (d := dd_NoText_init) rfl
  obtain ⟨fd_NoLine_init, F_NoLine_init⟩ := c.def_ 14 (d := dd_NoLine_init) rfl
  obtain ⟨fd_TooMany_init, F_TooMany_init⟩ := c.def_ 15 (d := dd_TooMany_init) rfl
  obtain ⟨fd_TooDeep_init, F_TooDeep_init⟩ := c.def_ 16 (d := dd_TooDeep_init) rfl
  obtain ⟨fd_NoName_init, F_NoName_init⟩ := c.def_ 17 (d := dd_NoName_init) rfl
  obtain ⟨fd_Taken_init, F_Taken_init⟩ := c.def_ 18 (d := dd_Taken_init) rfl
  obtain ⟨fd_NoView_init, F_NoView_init⟩ := c.def_ 19 (d := dd_NoView_init) rfl
  have T : Txt K mg := { glo_NoPlace := He.glo_ok X G (c.fact 0 (f := .glo "NoPlace") rfl), free_isinstance := He.free_ok X G (c.fact 1 (f := .free "isinstance") rfl), glo_NoStep := He.glo_ok X G (c.fact 2 (f := .glo "NoStep") rfl), glo_NoPart := He.glo_ok X G (c.fact 3 (f := .glo "NoPart") rfl), glo_NoLabel := He.glo_ok X G (c.fact 4 (f := .glo "NoLabel") rfl), glo_TooDeep := He.glo_ok X G (c.fact 5 (f := .glo "TooDeep") rfl), glo_TooMany := He.glo_ok X G (c.fact 6 (f := .glo "TooMany") rfl), glo_NoRule := He.glo_ok X G (c.fact 7 (f := .glo "NoRule") rfl), glo_NoWanted := He.glo_ok X G (c.fact 8 (f := .glo "NoWanted") rfl), glo_NoView := He.glo_ok X G (c.fact 9 (f := .glo "NoView") rfl), glo_Taken := He.glo_ok X G (c.fact 10 (f := .glo "Taken") rfl), glo_NoName := He.glo_ok X G (c.fact 11 (f := .glo "NoName") rfl), glo_NoText := He.glo_ok X G (c.fact 12 (f := .glo "NoText") rfl), glo_Ring := He.glo_ok X G (c.fact 13 (f := .glo "Ring") rfl), glo_NoQuestion := He.glo_ok X G (c.fact 14 (f := .glo "NoQuestion") rfl), glo_NoDocument := He.glo_ok X G (c.fact 15 (f := .glo "NoDocument") rfl), glo_NoLine := He.glo_ok X G (c.fact 16 (f := .glo "NoLine") rfl), free_ValueError := He.free_ok X G (c.fact 17 (f := .free "ValueError") rfl), glo_BoughError := He.glo_ok X G (c.fact 18 (f := .glo "BoughError") rfl), free_repr := He.free_ok X G (c.fact 19 (f := .free "repr") rfl), free_range := He.free_ok X G (c.fact 20 (f := .free "range") rfl), free_str := He.free_ok X G (c.fact 21 (f := .free "str") rfl), is_NoPlace := isCB_ok (ex_at 0 cx), is_NoStep := isCB_ok (ex_at 1 cx), is_NoPart := isCB_ok (ex_at 2 cx), is_NoLabel := isCB_ok (ex_at 3 cx), is_TooDeep := isCB_ok (ex_at 4 cx), is_TooMany := isCB_ok (ex_at 5 cx), is_NoRule := isCB_ok (ex_at 6 cx), is_NoWanted := isCB_ok (ex_at 7 cx), is_NoView := isCB_ok (ex_at 8 cx), is_Taken := isCB_ok (ex_at 9 cx), is_NoName := isCB_ok (ex_at 10 cx), is_NoText := isCB_ok (ex_at 11 cx), is_Ring := isCB_ok (ex_at 12 cx), is_NoQuestion := isCB_ok (ex_at 13 cx), is_NoDocument := isCB_ok (ex_at 14 cx), is_NoLine := isCB_ok (ex_at 15 cx), is_BoughError := isCB_ok (ex_at 16 cx), xc := xallB_ok (ex_at 17 cx), bo := boB_ok (ex_at 18 cx) }
  have e := hfa.symm.trans (He.glo_ok X G (c.fact 25 (f := .glo "law") rfl))
  cases e
  have b := FunD.bindsA (ps := ["_law_script"]) F_law fun _ _ _ _ _ _ us hl => match us, hl with | [_], _ => rfl
  refine ⟨fd_law, fun s v => b s [v] rfl, fun base _ _ => ?_⟩
  have X_NoLabel : XcrG P w K mg base 1 "NoLabel" := ⟨_, _, _, ok_NoLabel_init (P := P) (w := w) (base := base) T F_NoLabel_init, (xinB_ok (T.xc.k "NoLabel" (by decide)).ini).1, (xinB_ok (T.xc.k "NoLabel" (by decide)).ini).2, T.xc.k "NoLabel" (by decide), He.glo_ok X G (c.fact 4 (f := .glo "NoLabel") rfl), (F_NoLabel_init.bindsN fun _ _ _ _ _ _ us hl => match us, hl with | [_, _], _ => rfl)⟩
  have X_NoPart : XcrG P w K mg base 1 "NoPart" := ⟨_, _, _, ok_NoPart_init (P := P) (w := w) (base := base) T F_NoPart_init, (xinB_ok (T.xc.k "NoPart" (by decide)).ini).1, (xinB_ok (T.xc.k "NoPart" (by decide)).ini).2, T.xc.k "NoPart" (by decide), He.glo_ok X G (c.fact 3 (f := .glo "NoPart") rfl), (F_NoPart_init.bindsN fun _ _ _ _ _ _ us hl => match us, hl with | [_, _], _ => rfl)⟩
  have X_NoStep : XcrG P w K mg base 1 "NoStep" := ⟨_, _, _, ok_NoStep_init (P := P) (w := w) (base := base) T F_NoStep_init, (xinB_ok (T.xc.k "NoStep" (by decide)).ini).1, (xinB_ok (T.xc.k "NoStep" (by decide)).ini).2, T.xc.k "NoStep" (by decide), He.glo_ok X G (c.fact 2 (f := .glo "NoStep") rfl), (F_NoStep_init.bindsN fun _ _ _ _ _ _ us hl => match us, hl with | [_, _], _ => rfl)⟩
  have X_NoPlace : XcrG P w K mg base 1 "NoPlace" := ⟨_, _, _, ok_NoPlace_init (P := P) (w := w) (base := base) T F_NoPlace_init, (xinB_ok (T.xc.k "NoPlace" (by decide)).ini).1, (xinB_ok (T.xc.k "NoPlace" (by decide)).ini).2, T.xc.k "NoPlace" (by decide), He.glo_ok X G (c.fact 0 (f := .glo "NoPlace") rfl), (F_NoPlace_init.bindsN fun _ _ _ _ _ _ us hl => match us, hl with | [_, _], _ => rfl)⟩
  have X_NoDocument : XcrG P w K mg base 1 "NoDocument" := ⟨_, _, _, ok_NoDocument_init (P := P) (w := w) (base := base) T F_NoDocument_init, (xinB_ok (T.xc.k "NoDocument" (by decide)).ini).1, (xinB_ok (T.xc.k "NoDocument" (by decide)).ini).2, T.xc.k "NoDocument" (by decide), He.glo_ok X G (c.fact 15 (f := .glo "NoDocument") rfl), (F_NoDocument_init.bindsN fun _ _ _ _ _ _ us hl => match us, hl with | [_, _], _ => rfl)⟩
  have X_NoQuestion : XcrG P w K mg base 1 "NoQuestion" := ⟨_, _, _, ok_NoQuestion_init (P := P) (w := w) (base := base) T F_NoQuestion_init, (xinB_ok (T.xc.k "NoQuestion" (by decide)).ini).1, (xinB_ok (T.xc.k "NoQuestion" (by decide)).ini).2, T.xc.k "NoQuestion" (by decide), He.glo_ok X G (c.fact 14 (f := .glo "NoQuestion") rfl), (F_NoQuestion_init.bindsN fun _ _ _ _ _ _ us hl => match us, hl with | [_, _], _ => rfl)⟩
  have X_NoWanted : XcrG P w K mg base 1 "NoWanted" := ⟨_, _, _, ok_NoWanted_init (P := P) (w := w) (base := base) T F_NoWanted_init, (xinB_ok (T.xc.k "NoWanted" (by decide)).ini).1, (xinB_ok (T.xc.k "NoWanted" (by decide)).ini).2, T.xc.k "NoWanted" (by decide), He.glo_ok X G (c.fact 8 (f := .glo "NoWanted") rfl), (F_NoWanted_init.bindsN fun _ _ _ _ _ _ us hl => match us, hl with | [_, _], _ => rfl)⟩
  have X_NoRule : XcrG P w K mg base 1 "NoRule" := ⟨_, _, _, ok_NoRule_init (P := P) (w := w) (base := base) T F_NoRule_init, (xinB_ok (T.xc.k "NoRule" (by decide)).ini).1, (xinB_ok (T.xc.k "NoRule" (by decide)).ini).2, T.xc.k "NoRule" (by decide), He.glo_ok X G (c.fact 7 (f := .glo "NoRule") rfl), (F_NoRule_init.bindsN fun _ _ _ _ _ _ us hl => match us, hl with | [_, _], _ => rfl)⟩
  have X_Ring : XcrG P w K mg base 1 "Ring" := ⟨_, _, _, ok_Ring_init (P := P) (w := w) (base := base) T F_Ring_init, (xinB_ok (T.xc.k "Ring" (by decide)).ini).1, (xinB_ok (T.xc.k "Ring" (by decide)).ini).2, T.xc.k "Ring" (by decide), He.glo_ok X G (c.fact 13 (f := .glo "Ring") rfl), (F_Ring_init.bindsN fun _ _ _ _ _ _ us hl => match us, hl with | [_, _], _ => rfl)⟩
  have X_NoText : XcrG P w K mg base 1 "NoText" := ⟨_, _, _, ok_NoText_init (P := P) (w := w) (base := base) T F_NoText_init, (xinB_ok (T.xc.k "NoText" (by decide)).ini).1, (xinB_ok (T.xc.k "NoText" (by decide)).ini).2, T.xc.k "NoText" (by decide), He.glo_ok X G (c.fact 12 (f := .glo "NoText") rfl), (F_NoText_init.bindsN fun _ _ _ _ _ _ us hl => match us, hl with | [_, _], _ => rfl)⟩
  have X_NoLine : XcrG P w K mg base 1 "NoLine" := ⟨_, _, _, ok_NoLine_init (P := P) (w := w) (base := base) T F_NoLine_init, (xinB_ok (T.xc.k "NoLine" (by decide)).ini).1, (xinB_ok (T.xc.k "NoLine" (by decide)).ini).2, T.xc.k "NoLine" (by decide), He.glo_ok X G (c.fact 16 (f := .glo "NoLine") rfl), (F_NoLine_init.bindsN fun _ _ _ _ _ _ us hl => match us, hl with | [_, _], _ => rfl)⟩
  have X_TooMany : XcrG P w K mg base 1 "TooMany" := ⟨_, _, _, ok_TooMany_init (P := P) (w := w) (base := base) T F_TooMany_init, (xinB_ok (T.xc.k "TooMany" (by decide)).ini).1, (xinB_ok (T.xc.k "TooMany" (by decide)).ini).2, T.xc.k "TooMany" (by decide), He.glo_ok X G (c.fact 6 (f := .glo "TooMany") rfl), (F_TooMany_init.bindsN fun _ _ _ _ _ _ us hl => match us, hl with | [_, _], _ => rfl)⟩
  have X_TooDeep : XcrG P w K mg base 1 "TooDeep" := ⟨_, _, _, ok_TooDeep_init (P := P) (w := w) (base := base) T F_TooDeep_init, (xinB_ok (T.xc.k "TooDeep" (by decide)).ini).1, (xinB_ok (T.xc.k "TooDeep" (by decide)).ini).2, T.xc.k "TooDeep" (by decide), He.glo_ok X G (c.fact 5 (f := .glo "TooDeep") rfl), (F_TooDeep_init.bindsN fun _ _ _ _ _ _ us hl => match us, hl with | [_, _], _ => rfl)⟩
  have X_NoName : XcrG P w K mg base 1 "NoName" := ⟨_, _, _, ok_NoName_init (P := P) (w := w) (base := base) T F_NoName_init, (xinB_ok (T.xc.k "NoName" (by decide)).ini).1, (xinB_ok (T.xc.k "NoName" (by decide)).ini).2, T.xc.k "NoName" (by decide), He.glo_ok X G (c.fact 11 (f := .glo "NoName") rfl), (F_NoName_init.bindsN fun _ _ _ _ _ _ us hl => match us, hl with | [_, _], _ => rfl)⟩
  have X_Taken : XcrG P w K mg base 1 "Taken" := ⟨_, _, _, ok_Taken_init (P := P) (w := w) (base := base) T F_Taken_init, (xinB_ok (T.xc.k "Taken" (by decide)).ini).1, (xinB_ok (T.xc.k "Taken" (by decide)).ini).2, T.xc.k "Taken" (by decide), He.glo_ok X G (c.fact 10 (f := .glo "Taken") rfl), (F_Taken_init.bindsN fun _ _ _ _ _ _ us hl => match us, hl with | [_, _], _ => rfl)⟩
  have X_NoView : XcrG P w K mg base 1 "NoView" := ⟨_, _, _, ok_NoView_init (P := P) (w := w) (base := base) T F_NoView_init, (xinB_ok (T.xc.k "NoView" (by decide)).ini).1, (xinB_ok (T.xc.k "NoView" (by decide)).ini).2, T.xc.k "NoView" (by decide), He.glo_ok X G (c.fact 9 (f := .glo "NoView") rfl), (F_NoView_init.bindsN fun _ _ _ _ _ _ us hl => match us, hl with | [_, _], _ => rfl)⟩
  have G_law_first : Fn P w K mg base CX0 1 "_law_first" ["_law_e"] (sp_law_first K) := ⟨_, _, (ok_law_first (P := P) (w := w) (base := base) T F_law_first ), He.glo_ok X G (c.fact 22 (f := .glo "_law_first") rfl), F_law_first.kp, (F_law_first.bindsN fun _ _ _ _ _ _ us hl => match us, hl with | [_], _ => rfl)⟩
  have G_law_second : Fn P w K mg base CX0 1 "_law_second" ["_law_e"] (sp_law_second K) := ⟨_, _, (ok_law_second (P := P) (w := w) (base := base) T F_law_second ), He.glo_ok X G (c.fact 23 (f := .glo "_law_second") rfl), F_law_second.kp, (F_law_second.bindsN fun _ _ _ _ _ _ us hl => match us, hl with | [_], _ => rfl)⟩
  have G_law_kinds : Fn P w K mg base CX0 2 "_law_kinds" ["_law_e"] (sp_law_kinds K) := ⟨_, _, (ok_law_kinds (P := P) (w := w) (base := base) T F_law_kinds G_law_first G_law_second), He.glo_ok X G (c.fact 24 (f := .glo "_law_kinds") rfl), F_law_kinds.kp, (F_law_kinds.bindsN fun _ _ _ _ _ _ us hl => match us, hl with | [_], _ => rfl)⟩
  exact ok_law T F_law X_NoRule X_NoWanted X_NoPlace X_NoStep X_NoPart X_NoLabel X_NoView X_Taken X_NoName X_TooDeep X_TooMany X_NoDocument X_NoQuestion X_Ring X_NoText X_NoLine G_law_kinds
end Lw
open PySem PySem.W PySem.Calls PyProof.Rows
theorem PySem.Challenge.cw_boughask_k05_refusals_apart_holds : PySem.Challenge.rw_boughask_k05_refusals_apart.Holds := by
  w_on; o_law
  refine HandSHeadRun.head_any (r := OpenLaw.row PySem.Challenge.rw_boughask_k05_refusals_apart) (q := view (OpenLaw.row PySem.Challenge.rw_boughask_k05_refusals_apart).prog [22]) (H := Lw.hk) (ob := Lw.ob) (M := 20000) (loose := Lw.loose) (d := HandSHeadRun.topDef (OpenLaw.row PySem.Challenge.rw_boughask_k05_refusals_apart).prog 22) (kwd := []) Lw.ob_eq
    (by kernel_rfl) (fun s => by kernel_rfl) Lw.run (by kernel_rfl) (by kernel_rfl) (by kernel_rfl) (by rfl) (by first | assumption | decide +kernel) (by decide +kernel) ⟨rfl, rfl, rfl, rfl, rfl, by decide +kernel⟩ ?hw ?hc
  case hw => w_witness2
  case hc =>
    refine Va.walkG (l := PySem.Challenge.rw_boughask_k05_refusals_apart) (n := 63) (k := 3) (x := "_law_script") rfl (by decide) (by kernel_rfl) ⟨rfl, by decide, by decide⟩ ?F
    intro w mg fa h Y G hmg0
    obtain ⟨K, KX, c, cx⟩ := Y
    have hmg : mg ("law" : PySem.Str) = some (.ref fa) := by
      have e : (HandSHeadRun.topDef (OpenLaw.row PySem.Challenge.rw_boughask_k05_refusals_apart).prog 22).name = ("law" : PySem.Str) := by kernel_rfl
      rw [← e]
      exact hmg0
    obtain ⟨fd, hb, hF⟩ := Lw.facts (P := (PySem.Challenge.rw_boughask_k05_refusals_apart).prog) (w := w) KX G hmg c cx
    exact ⟨K, fd, Lw.sp_law K, KX, hb, fun H a ns hl _ hS => ⟨Va.No, (ns, ()), fun b => b = true, fun _ => False, .scr (Va.Scr.of hS) .nil, fun b z => z.elim, ⟨hl, rfl⟩, fun r v H' e _ k => (by cases e; cases k; rfl), fun _ _ _ _ z => z.elim⟩, hF⟩

