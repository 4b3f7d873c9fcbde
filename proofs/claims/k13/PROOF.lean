import PyProof.Rows.All
import Wide.All
import OpenK.AllK
import Wide.FinOn
import KE.KStateDown
import HandS.ForMost
import HandS.ForExc
import HandS.IsInst
import HandS.Wide
import HandS.Defaults
import HandS.More
import HandS.Head0
import HandS.Head1
import HandS.Head2
import HandS.HeadEnd
import HandS.HeadHook1
import HandS.HeadHook2
import HandS.Flow
import HandS.RevRange
import HandS.Walk
import HandS.TryOnly
import KE.KExcIs
import HandS.ExcInit
import HandS.ExcField
import HandS.ExcIs
import HandS.ExcOwn
import KE.GoesEnum
import HandS.Conv
import HandS.Style
import HandS.SortInts
import HandS.TryMany
import PyProof.FitsInt
import KE.KEqNest
import PyProof.NeData
import HandS.RevTup
import HandS.Rev
import PySem.Challenge.RW_boughask_k13_questions_refused
set_option Elab.async false
set_option linter.all false
set_option maxRecDepth 100000
set_option maxHeartbeats 4000000

namespace Bg
open PySem PySem.Spec PyProof.Rows L2
/-! ### the head: facts, defs, and lists of the text, at the addresses as -/
def obsE (as : List Addr) (fa : List He.Fa) (fn : List He.DefD) (ex : PySem.W.Frag → List Bool) (g : Addr → Option Obj) : He.AlD × Bool := (He.obsD fa fn (He.frG g as), (ex (He.frG g as)).all id)
def hookE (as : List Addr) (fa : List He.Fa) (fn : List He.DefD) (ex : PySem.W.Frag → List Bool) : PySem.W.Hook where
  α := He.AlD × Bool
  obs := fun s => obsE as fa fn ex s.heap.get?
  val := fun _ => (He.valD fn, true)
  says := fun _ h => ∃ K : PySem.W.Frag, K.In h ∧ He.SaysD fa fn K ∧ (ex K).all id = true
  of := fun _ _ e => ⟨_, He.frG_in, congrArg (fun z : He.AlD × Bool => z.1) e, congrArg (fun z : He.AlD × Bool => z.2) e⟩
  keeps := fun _ _ _ ⟨K, hK, c⟩ k => ⟨K, PySem.W.Frag.In.keeps hK k, c⟩
theorem obsE_eq {as : List Addr} {fa : List He.Fa} {fn : List He.DefD} {ex : PySem.W.Frag → List Bool} {g : Addr → Option Obj} {s : Shared} (h : ∀ a, g a = s.heap.get? a) : obsE as fa fn ex g = (hookE as fa fn ex).obs s := by
  obtain rfl : g = s.heap.get? := funext h
  rfl
theorem ex_at {l : List Bool} (i : Nat) (h : l.all id = true) {b : Bool} (hb : l[i]? = some b := by rfl) : b = true := List.all_eq_true.mp h b (List.mem_of_getElem? hb)
end Bg

namespace Va
open PySem PySem.Spec PyProof.Rows L2 Bg
/-! ### classes of exceptions and of objects, as the text has them -/
def exField (c : Str) : Str := if c = "NoDocument" ∨ c = "NoQuestion" then "row" else if c = "Ring" then "labels" else if c = "NoText" then "place" else if c = "NoLine" then "line" else "found"
def oexB (K : PySem.W.Frag) (C : Addr) : Bool := (match K.lookup C with
  | some ⟨.type "type", _, .cls cd, sl⟩ => (match cd.mro, sl.toList with
    | .ref C' :: bm, [_, _, _, _, some (.builtin n), _] => C' == C && n == "ValueError.__new__" && !cd.hasDel && cd.hasDict && PySem.HandSPX.refsVE bm
    | _, _ => false)
  | _ => false) && (decide (PySem.W.findIn K (.ref C) "__setattr__" = some (some (.builtin "object.__setattr__"))) && (decide (PySem.W.subIn K (.ref C) (.type "BaseException") = some true) && (decide (PySem.W.typeIn K (.ref C) = some (.type "type")) && PySem.W.keepIn K (.ref C))))
theorem oexB_ok {K : PySem.W.Frag} {C : Addr} (h : oexB K C = true) : OexC K C := by
  unfold oexB at h
  rw [Bool.and_eq_true, Bool.and_eq_true, Bool.and_eq_true, Bool.and_eq_true] at h
  obtain ⟨q, h1, h2, h3, h4⟩ := h
  refine ⟨?_, of_decide_eq_true h1, of_decide_eq_true h2, of_decide_eq_true h3, h4⟩
  split at q
  · rename_i dd cd sl ho
    split at q
    · rename_i C' bm k0 k1 k2 k3 n k5 hm hs
      simp only [Bool.and_eq_true, beq_iff_eq, Bool.not_eq_true'] at q
      obtain ⟨⟨⟨⟨rfl, rfl⟩, hdel⟩, hdc⟩, ht⟩ := q
      obtain ⟨nm, bs, mro, ns, qn, hd, sn, sub, ab, col, del⟩ := cd
      dsimp only at hm hdel hdc
      subst hm hdel hdc
      have hsl : sl = #[k0, k1, k2, k3, some (.builtin "ValueError.__new__"), k5] := by
        obtain ⟨l⟩ := sl
        simp only at hs
        rw [hs]
      subst hsl
      exact ⟨nm, qn, ns, bs, bm, sn, sub, ab, col, dd, k0, k1, k2, k3, k5, ho, ht⟩
    · cases q
  · cases q
def excCB (K : PySem.W.Frag) (C : Addr) : Bool := decide (PySem.W.findIn K (.ref C) "__getattribute__" = some (some (.builtin "BaseException.__getattribute__"))) && (decide (PySem.W.findIn K (.ref C) "__getattr__" = some none) && (decide (PySem.W.subIn K (.ref C) (.type "BaseException") = some true) && (PySem.W.hasDictIn K C &&
  (decide (PySem.W.findIn K (.ref C) "__class__" = some (some (.builtin "object.__class__"))) && (decide (PySem.W.specialIn K (.builtin "object.__class__") "__get__" = some (some (.builtin "getset_descriptor.__get__"))) && (decide (PySem.W.takesIn K (.builtin "object.__class__") = some true) && decide (PySem.W.mroIn K C (.type "object") = some true)))))))
theorem excCB_ok {K : PySem.W.Frag} {C : Addr} (h : excCB K C = true) : ExcC K C := by
  unfold excCB at h
  simp only [Bool.and_eq_true, decide_eq_true_eq] at h
  obtain ⟨h1, h2, h3, h4, h5, h6, h7, h8⟩ := h
  exact ⟨h1, h2, h3, h4, h5, h6, h7, h8⟩
/-- the class c' stands above c, or is it -/
def isX (c' c : Str) : Bool := decide (c' = c) || decide (c' = "BoughError") || decide (c' = "ValueError")
def xinB (K : PySem.W.Frag) (c : Str) : Bool := decide (PySem.W.findIn K (.ref (He.ga K c)) "__init__" = some (some (.ref (He.ma K (He.ga K c) "__init__")))) && decide (PySem.W.typeIn K (.ref (He.ma K (He.ga K c) "__init__")) = some (.type "function"))
theorem xinB_ok {K : PySem.W.Frag} {c : Str} (h : xinB K c = true) : PySem.W.findIn K (.ref (He.ga K c)) "__init__" = some (some (.ref (He.ma K (He.ga K c) "__init__"))) ∧ PySem.W.typeIn K (.ref (He.ma K (He.ga K c) "__init__")) = some (.type "function") := by
  unfold xinB at h
  rw [Bool.and_eq_true, decide_eq_true_eq, decide_eq_true_eq] at h
  exact h
structure XcK (K : PySem.W.Frag) (c : Str) : Prop where
  xf : XfC K (He.ga K c)
  ec : ExcC K (He.ga K c)
  ox : OexC K (He.ga K c)
  fn : PySem.W.findIn K (.ref (He.ga K c)) (exField c) = some none
  ve : PySem.W.kitOne K (.ref (He.ga K c)) (.type "ValueError") = some true
  ini : xinB K c = true
structure XcP (K : PySem.W.Frag) (c c' : Str) : Prop where
  exm : PySem.W.exmOne K (.ref (He.ga K c)) (.ref (He.ga K c')) = some (isX c' c)
  kit : PySem.W.kitOne K (.ref (He.ga K c)) (.ref (He.ga K c')) = some (isX c' c)
def xcB (K : PySem.W.Frag) (c : Str) : Bool := xfB K (He.ga K c) && (excCB K (He.ga K c) && (oexB K (He.ga K c) && (decide (PySem.W.findIn K (.ref (He.ga K c)) (exField c) = some none) && (decide (PySem.W.kitOne K (.ref (He.ga K c)) (.type "ValueError") = some true) && xinB K c))))
theorem xcB_ok {K : PySem.W.Frag} {c : Str} (h : xcB K c = true) : XcK K c := by
  unfold xcB at h
  simp only [Bool.and_eq_true, decide_eq_true_eq] at h
  obtain ⟨h1, h2, h3, h4, h5, h6⟩ := h
  exact ⟨xfB_ok h1, excCB_ok h2, oexB_ok h3, h4, h5, h6⟩
def xpB (K : PySem.W.Frag) (c c' : Str) : Bool := decide (PySem.W.exmOne K (.ref (He.ga K c)) (.ref (He.ga K c')) = some (isX c' c)) && decide (PySem.W.kitOne K (.ref (He.ga K c)) (.ref (He.ga K c')) = some (isX c' c))
theorem xpB_ok {K : PySem.W.Frag} {c c' : Str} (h : xpB K c c' = true) : XcP K c c' := by
  unfold xpB at h
  simp only [Bool.and_eq_true, decide_eq_true_eq] at h
  exact ⟨h.1, h.2⟩
/-- all that a text needs: CL the classes that may be raised, TL those that are asked for -/
def xallB (K : PySem.W.Frag) (CL TL : List Str) : Bool := CL.all fun c => xcB K c && TL.all fun c' => xpB K c c'
structure XcA (K : PySem.W.Frag) (CL TL : List Str) : Prop where
  k : ∀ c ∈ CL, XcK K c
  p : ∀ c ∈ CL, ∀ c' ∈ TL, XcP K c c'
theorem xallB_ok {K : PySem.W.Frag} {CL TL : List Str} (h : xallB K CL TL = true) : XcA K CL TL := by
  unfold xallB at h
  rw [List.all_eq_true] at h
  refine ⟨fun c m => ?_, fun c m c' m' => ?_⟩
  · have := h c m
    rw [Bool.and_eq_true] at this
    exact xcB_ok this.1
  · have := h c m
    rw [Bool.and_eq_true, List.all_eq_true] at this
    exact xpB_ok (this.2 c' m')
/-- the first class, whose __init__ is called by its name -/
structure BoE (K : PySem.W.Frag) (B : Str) : Prop where
  ga : PySem.W.specialIn K (.ref (He.ga K B)) "__getattribute__" = some (some (.builtin "type.__getattribute__"))
  rd : PySem.W.readsIn K (He.ga K B) (.type "type") = true
  fc : PySem.W.findCls K (.ref (He.ga K B)) (.type "type") "__init__" = some (.val (.builtin "ValueError.__init__"))
def boB (K : PySem.W.Frag) (B : Str) : Bool := decide (PySem.W.specialIn K (.ref (He.ga K B)) "__getattribute__" = some (some (.builtin "type.__getattribute__"))) && (PySem.W.readsIn K (He.ga K B) (.type "type") && (match PySem.W.findCls K (.ref (He.ga K B)) (.type "type") "__init__" with
  | some (.val (.builtin n)) => n == "ValueError.__init__"
  | _ => false))
theorem boB_ok {K : PySem.W.Frag} {B : Str} (h : boB K B = true) : BoE K B := by
  unfold boB at h
  rw [Bool.and_eq_true, Bool.and_eq_true, decide_eq_true_eq] at h
  obtain ⟨h1, h2, h3⟩ := h
  refine ⟨h1, h2, ?_⟩
  split at h3
  · rename_i n e
    rw [e, beq_iff_eq.mp h3]
  · cases h3
structure IsC (K : PySem.W.Frag) (c : Str) : Prop where
  ha : PySem.W.findIn K (.ref (He.ga K c)) "__class__" = some (some (.builtin "object.__class__"))
  hn : PySem.W.specialIn K (.builtin "object.__class__") "__get__" = some (some (.builtin "getset_descriptor.__get__"))
  ht : PySem.W.takesIn K (.builtin "object.__class__") = some true
  hm : PySem.W.mroIn K (He.ga K c) (.type "object") = some true
def isCB (K : PySem.W.Frag) (c : Str) : Bool := decide (PySem.W.findIn K (.ref (He.ga K c)) "__class__" = some (some (.builtin "object.__class__"))) && (decide (PySem.W.specialIn K (.builtin "object.__class__") "__get__" = some (some (.builtin "getset_descriptor.__get__"))) && (decide (PySem.W.takesIn K (.builtin "object.__class__") = some true) && decide (PySem.W.mroIn K (He.ga K c) (.type "object") = some true)))
theorem isCB_ok {K : PySem.W.Frag} {c : Str} (h : isCB K c = true) : IsC K c := by
  unfold isCB at h
  simp only [Bool.and_eq_true, decide_eq_true_eq] at h
  exact ⟨h.1, h.2.1, h.2.2.1, h.2.2.2⟩
end Va

namespace Lw
open PySem PySem.Spec PyProof.Rows L2 Bg Va
def top (i : Nat) : Stmt := PySem.Challenge.pw_boughask_k13_questions_refused.main.body.getD i (.Pass ⟨0, 0, 0, 0⟩)
abbrev st_law_source : Stmt := (top 29)
abbrev st_law_cell_at : Stmt := (top 28)
abbrev st_law_take : Stmt := (top 30)
abbrev st_law_labels : Stmt := (top 31)
abbrev st_law_depth : Stmt := (top 32)
abbrev st_law_rows : Stmt := (top 33)
abbrev st_law_steps : Stmt := (top 34)
abbrev st_Question_many : Stmt := (inClass (top 26) 2)
abbrev st_is_whole : Stmt := (top 10)
abbrev st_is_within : Stmt := (top 11)
abbrev st_is_label : Stmt := (top 12)
abbrev st_is_step_row : Stmt := (top 25)
abbrev st_Straight_init : Stmt := (inClass (top 17) 0)
abbrev st_Anywhere_init : Stmt := (inClass (top 17) 0)
abbrev st_step_of : Stmt := (top 20)
abbrev st_ends_by : Stmt := (top 14)
abbrev st_uppers_by : Stmt := (top 15)
abbrev st_Question_init : Stmt := (inClass (top 26) 0)
abbrev st_law_told : Stmt := (top 35)
abbrev st_law_due : Stmt := (top 38)
abbrev st_law_bad : Stmt := (top 36)
abbrev st_law_spoiled : Stmt := (top 37)
abbrev st_law_great : Stmt := (top 39)
abbrev st_law : Stmt := (top 40)
abbrev st_NoQuestion_init : Stmt := (inClass (top 4) 0)
abbrev st_TooMany_init : Stmt := (inClass (top 6) 0)
abbrev st_NoWanted_init : Stmt := (inClass (top 5) 0)
def dd_law_source : He.DefD := ⟨("_law_source", none), "_law_source", "_law_source", defArgs st_law_source, defBody st_law_source, defScope st_law_source, [], []⟩
def dd_law_cell_at : He.DefD := ⟨("_law_cell_at", none), "_law_cell_at", "_law_cell_at", defArgs st_law_cell_at, defBody st_law_cell_at, defScope st_law_cell_at, [], []⟩
def dd_law_take : He.DefD := ⟨("_law_take", none), "_law_take", "_law_take", defArgs st_law_take, defBody st_law_take, defScope st_law_take, [], []⟩
def dd_law_labels : He.DefD := ⟨("_law_labels", none), "_law_labels", "_law_labels", defArgs st_law_labels, defBody st_law_labels, defScope st_law_labels, [], []⟩
def dd_law_depth : He.DefD := ⟨("_law_depth", none), "_law_depth", "_law_depth", defArgs st_law_depth, defBody st_law_depth, defScope st_law_depth, [], []⟩
def dd_law_rows : He.DefD := ⟨("_law_rows", none), "_law_rows", "_law_rows", defArgs st_law_rows, defBody st_law_rows, defScope st_law_rows, [], []⟩
def dd_law_steps : He.DefD := ⟨("_law_steps", none), "_law_steps", "_law_steps", defArgs st_law_steps, defBody st_law_steps, defScope st_law_steps, [], []⟩
def dd_Question_many : He.DefD := ⟨("Question", some "many"), "many", "Question.many", defArgs st_Question_many, defBody st_Question_many, defScope st_Question_many, [], []⟩
def dd_is_whole : He.DefD := ⟨("is_whole", none), "is_whole", "is_whole", defArgs st_is_whole, defBody st_is_whole, defScope st_is_whole, [], []⟩
def dd_is_within : He.DefD := ⟨("is_within", none), "is_within", "is_within", defArgs st_is_within, defBody st_is_within, defScope st_is_within, [], []⟩
def dd_is_label : He.DefD := ⟨("is_label", none), "is_label", "is_label", defArgs st_is_label, defBody st_is_label, defScope st_is_label, [], []⟩
def dd_is_step_row : He.DefD := ⟨("is_step_row", none), "is_step_row", "is_step_row", defArgs st_is_step_row, defBody st_is_step_row, defScope st_is_step_row, [], []⟩
def dd_Straight_init : He.DefD := ⟨("Straight", some "__init__"), "__init__", "Step.__init__", defArgs st_Straight_init, defBody st_Straight_init, defScope st_Straight_init, [], []⟩
def dd_Anywhere_init : He.DefD := ⟨("Anywhere", some "__init__"), "__init__", "Step.__init__", defArgs st_Anywhere_init, defBody st_Anywhere_init, defScope st_Anywhere_init, [], []⟩
def dd_step_of : He.DefD := ⟨("step_of", none), "step_of", "step_of", defArgs st_step_of, defBody st_step_of, defScope st_step_of, [], []⟩
def dd_ends_by : He.DefD := ⟨("ends_by", none), "ends_by", "ends_by", defArgs st_ends_by, defBody st_ends_by, defScope st_ends_by, [], []⟩
def dd_uppers_by : He.DefD := ⟨("uppers_by", none), "uppers_by", "uppers_by", defArgs st_uppers_by, defBody st_uppers_by, defScope st_uppers_by, [], []⟩
def dd_Question_init : He.DefD := ⟨("Question", some "__init__"), "__init__", "Question.__init__", defArgs st_Question_init, defBody st_Question_init, defScope st_Question_init, [], []⟩
def dd_law_told : He.DefD := ⟨("_law_told", none), "_law_told", "_law_told", defArgs st_law_told, defBody st_law_told, defScope st_law_told, [], []⟩
def dd_law_due : He.DefD := ⟨("_law_due", none), "_law_due", "_law_due", defArgs st_law_due, defBody st_law_due, defScope st_law_due, [], []⟩
def dd_law_bad : He.DefD := ⟨("_law_bad", none), "_law_bad", "_law_bad", defArgs st_law_bad, defBody st_law_bad, defScope st_law_bad, [], []⟩
def dd_law_spoiled : He.DefD := ⟨("_law_spoiled", none), "_law_spoiled", "_law_spoiled", defArgs st_law_spoiled, defBody st_law_spoiled, defScope st_law_spoiled, [], []⟩
def dd_law_great : He.DefD := ⟨("_law_great", none), "_law_great", "_law_great", defArgs st_law_great, defBody st_law_great, defScope st_law_great, [], []⟩
def dd_law : He.DefD := ⟨("law", none), "law", "law", defArgs st_law, defBody st_law, defScope st_law, [], []⟩
def dd_NoQuestion_init : He.DefD := ⟨("NoQuestion", some "__init__"), "__init__", "NoQuestion.__init__", defArgs st_NoQuestion_init, defBody st_NoQuestion_init, defScope st_NoQuestion_init, [], []⟩
def dd_TooMany_init : He.DefD := ⟨("TooMany", some "__init__"), "__init__", "TooMany.__init__", defArgs st_TooMany_init, defBody st_TooMany_init, defScope st_TooMany_init, [], []⟩
def dd_NoWanted_init : He.DefD := ⟨("NoWanted", some "__init__"), "__init__", "NoWanted.__init__", defArgs st_NoWanted_init, defBody st_NoWanted_init, defScope st_NoWanted_init, [], []⟩
def fns : List He.DefD := [dd_law_source, dd_law_cell_at, dd_law_take, dd_law_labels, dd_law_depth, dd_law_rows, dd_law_steps, dd_Question_many, dd_is_whole, dd_is_within, dd_is_label, dd_is_step_row, dd_Straight_init, dd_Anywhere_init, dd_step_of, dd_ends_by, dd_uppers_by, dd_Question_init, dd_law_told, dd_law_due, dd_law_bad, dd_law_spoiled, dd_law_great, dd_law, dd_NoQuestion_init, dd_TooMany_init, dd_NoWanted_init]
def facs : List He.Fa := ([.free "max", .free "int", .free "len", .free "range", .free "min", .free "isinstance", .free "bool", .free "str", .int "MOST_LETTERS" 8, .free "all", .str "LETTERS" "abcdefghijklmnopqrstuvwxyz", .free "tuple", .glo "WAYS", .free "enumerate", .free "list", .int "MOST_STEPS" 100, .int "MOST_DEEP" 30, .glo "TooMany", .free "ValueError", .glo "BoughError", .glo "NoStep", .glo "NoWanted", .glo "NoQuestion", .free "repr", .cls "Question", .noat "Question" "given_rows", .noat "Question" "goal", .noat "Question" "steps", .noat "Question" "ends", .noat "Question" "uppers"] : List He.Fa) ++ ([.cls "Straight", .noat "Straight" "label", .cls "Anywhere", .noat "Anywhere" "label", .glo "_law_source", .glo "_law_cell_at", .glo "_law_take", .glo "_law_labels", .glo "_law_depth", .glo "_law_rows", .glo "_law_steps", .meth "Question" "many", .glo "is_whole", .glo "is_within", .glo "is_label", .glo "is_step_row", .mkr "Straight", .glo "Straight", .mkr "Anywhere", .glo "Anywhere", .glo "step_of", .glo "ends_by", .glo "uppers_by", .mkr "Question", .glo "Question", .glo "_law_told", .glo "_law_due", .glo "_law_bad", .glo "_law_spoiled", .glo "_law_great"] : List He.Fa) ++ ([.glo "law"] : List He.Fa)
def loose : List Str := (["_wall", "BoughError", "NoStep", "NoQuestion", "NoWanted", "TooMany", "LETTERS", "MOST_LETTERS", "is_whole", "is_within", "is_label", "ends_by", "uppers_by", "Step", "Straight", "Anywhere", "step_of", "MOST_STEPS", "MOST_DEEP", "WAYS", "is_step_row", "Question", "_law_cell_at", "_law_source", "_law_take", "_law_labels", "_law_depth", "_law_rows", "_law_steps", "_law_told"] : List Str) ++ (["_law_bad", "_law_spoiled", "_law_due", "_law_great"] : List Str)
def asL : List Addr := List.range 1000
abbrev RR : PySem.W.OpenRow := PySem.W.OpenLaw.row PySem.Challenge.rw_boughask_k13_questions_refused
def exs (K : PySem.W.Frag) : List Bool := [He.lstB K "WAYS" [.str "/", .str "//"], xallB K ["NoQuestion", "TooMany", "NoWanted"] ["NoQuestion", "BoughError", "TooMany", "NoStep", "NoWanted"], boB K "BoughError"]
abbrev hk : PySem.W.Hook := hookE asL facs fns exs
def ob (s : PySem.W.SharedT) : He.AlD × Bool := obsE asL facs fns exs (HandSHeadRun.getT s)
theorem ob_eq (s : PySem.W.SharedT) : ob s = hk.obs s.abs := obsE_eq (HandSHeadRun.getT_eq s)
theorem run (w : World) : HandSHeadRun.RunEq RR (PySem.W.view RR.prog [40]) hk ob 20000 loose w := by
  intro os
  kernel_rfl
end Lw
namespace Bg
open PySem PySem.Spec PyProof.Rows L2
/-! ### defs, methods, classes by their names -/
abbrev FnP (K : PySem.W.Frag) (x q : Str) (st : Stmt) (f : Addr) (fd : FuncData) : Prop := FunD K x q (defArgs st) (defBody st) (defScope st) [] [] f fd
structure Fn (P : Program) (w : World) (K : PySem.W.Frag) (mg : Str → Option Value) (base : Heap) (CX : CXT) (k : Nat) (x : Str) (ps : List Str) (sp : Sp) : Prop where
  ex : ∃ (f : Addr) (fd : FuncData), FnOk P w K mg base CX k f fd ps sp ∧ mg x = some (.ref f) ∧ PySem.W.keepIn K (.ref f) = true ∧ Binds K fd ps []
structure Mt (P : Program) (w : World) (K : PySem.W.Frag) (mg : Str → Option Value) (base : Heap) (CX : CXT) (k : Nat) (C : Addr) (m : Str) (ps : List Str) (sp : Sp) : Prop where
  ex : ∃ (f : Addr) (fd : FuncData), FnOk P w K mg base CX k f fd ps sp ∧ Meth K C m f ∧ Cls K C ∧ Binds K fd ps []
structure Mkr (P : Program) (w : World) (K : PySem.W.Frag) (mg : Str → Option Value) (base : Heap) (CX : CXT) (k : Nat) (C : Addr) (x : Str) (ps : List Str) (sp : Sp) : Prop where
  ex : ∃ (f : Addr) (fd : FuncData), FnOk P w K mg base CX k f fd ps sp ∧ Mk K C f ∧ mg x = some (.ref C) ∧ Binds K fd ps []
section
variable {X : Cx} {CX : CXT} {k : Nat} {C : Addr} {ps : List Str} {sp : Sp} {E : XK} {x m : Str} {p pos apos : Pos} {e o : Expr} {es : List Expr} {ta : TE} {t : TA}
theorem pe_callF (F : Fn X.prog X.w X.K X.mg X.base CX k x ps sp) (hr : Room k X.A) (hx : Passes CX X E) (ha : PA X (e :: es) t) (hg : Gl X x := by rfl) (hdb : (x == ("__debug__" : Str)) = false := by decide)
    (he : starEach (e :: es) X.env = (false, eval e X.env) :: starEach es X.env := by rfl) (hpl : (backTo pos (starEach es X.env)).any (·.1) = false := by rfl) :
    PE X (.Call (.Name x p) (e :: es) [] pos) (tCall sp [] E t) := by
  obtain ⟨f, fd, F, hm, hk, hb⟩ := F.ex
  exact pe_call F hr hg hm hk hb .nil hx ha hdb he hpl
theorem pe_callF0 (F : Fn X.prog X.w X.K X.mg X.base CX k x ps sp) (hr : Room k X.A) (hx : Passes CX X E) (hg : Gl X x := by rfl) (hdb : (x == ("__debug__" : Str)) = false := by decide) :
    PE X (.Call (.Name x p) [] [] pos) (tCall sp [] E tNil) := by
  obtain ⟨f, fd, F, hm, hk, hb⟩ := F.ex
  exact pe_call0 F hr hg hm hk hb .nil hx hdb
theorem pe_makeF (F : Mkr X.prog X.w X.K X.mg X.base CX k C x ps sp) (hr : Room (k + 1) X.A) (hx : Passes CX X E) (ha : PA X (e :: es) t) (hg : Gl X x := by rfl) (hdb : (x == ("__debug__" : Str)) = false := by decide)
    (he : starEach (e :: es) X.env = (false, eval e X.env) :: starEach es X.env := by rfl) (hpl : (backTo pos (starEach es X.env)).any (·.1) = false := by rfl) :
    PE X (.Call (.Name x p) (e :: es) [] pos) (tMake C sp [] E t) := by
  obtain ⟨f, fd, F, hm, hk, hb⟩ := F.ex
  exact pe_make hm F hr hg hk hb .nil hx ha hdb he hpl
theorem pe_makeF0 (F : Mkr X.prog X.w X.K X.mg X.base CX k C x ps sp) (hr : Room (k + 1) X.A) (hx : Passes CX X E) (hg : Gl X x := by rfl) (hdb : (x == ("__debug__" : Str)) = false := by decide) :
    PE X (.Call (.Name x p) [] [] pos) (tMake C sp [] E tNil) := by
  obtain ⟨f, fd, F, hm, hk, hb⟩ := F.ex
  exact pe_make0 hm F hr hg hk hb .nil hx hdb
theorem pe_methF {pl : Sem Bool} (he : PE X o ta) (F : Mt X.prog X.w X.K X.mg X.base CX k C m ps sp) (hr : Room k X.A) (hx : Passes CX X E) (ha : PA X (e :: es) t)
    (hst : starEach (e :: es) X.env = (false, eval e X.env) :: starEach es X.env := by rfl) (hpl : (backTo pos (starEach es X.env)).any (·.1) = false := by rfl)
    (ht : eval (.Call (.Attribute o m apos) (e :: es) [] pos) X.env = (do
      let ov ← eval o X.env
      standAt apos.atName
      let (f, first) ← holding [ov] (getMethod ov m pl)
      callWith pos f first (backTo pos (starEach (e :: es) X.env)) (backToKw pos (keywordEach [] X.env))) := by rfl) :
    PE X (.Call (.Attribute o m apos) (e :: es) [] pos) (tMeth C m sp [] E ta t) := by
  obtain ⟨f, fd, F, hm, c, hb⟩ := F.ex
  exact pe_meth he c hm F hr hb .nil hx ha hst hpl ht
theorem pe_methF0 {pl : Sem Bool} (he : PE X o ta) (F : Mt X.prog X.w X.K X.mg X.base CX k C m ps sp) (hr : Room k X.A) (hx : Passes CX X E)
    (ht : eval (.Call (.Attribute o m apos) [] [] pos) X.env = (do
      let ov ← eval o X.env
      standAt apos.atName
      let (f, first) ← holding [ov] (getMethod ov m pl)
      callWith pos f first (backTo pos (starEach [] X.env)) (backToKw pos (keywordEach [] X.env))) := by rfl) :
    PE X (.Call (.Attribute o m apos) [] [] pos) (tMeth C m sp [] E ta tNil) := by
  obtain ⟨f, fd, F, hm, c, hb⟩ := F.ex
  exact pe_meth0 he c hm F hr hb .nil hx ht
end
/-! ### the heap: all stands but what stands at a -/
def But (a : Addr) (H H' : Hp) : Prop := ∀ b o, b ≠ a → H b = some o → H' b = some o
theorem But.refl (a : Addr) (H : Hp) : But a H H := fun _ _ _ h => h
theorem But.trans {a : Addr} {H H1 H2 : Hp} (x : But a H H1) (y : But a H1 H2) : But a H H2 := fun b o n h => y b o n (x b o n h)
theorem But.of_same {a : Addr} {H H' : Hp} (x : Same H H') : But a H H' := fun b o _ h => x b o h
theorem But.upd {a : Addr} {H : Hp} {o : HO} : But a H (upd H a o) := fun b u n h => by rw [upd_ne n]; exact h
theorem But.upd' {a : Addr} {H H' : Hp} {o : HO} (x : But a H H') : But a H (L2.upd H' a o) := x.trans But.upd
theorem _root_.L2.Same.new {H : Hp} {p : Addr} {o : HO} (h : H p = none) : Same H (upd H p o) := fun a u e => by
  rw [upd_ne (ne_of_none e h)]
  exact e
theorem _root_.L2.Same.new' {H H' : Hp} {p : Addr} {o : HO} (s : Same H H') (h : H' p = none) : Same H (upd H' p o) := s.trans (Same.new h)
/-- what H does not know may change -/
theorem _root_.L2.Same.mut {H H' : Hp} {p : Addr} {o : HO} (s : Same H H') (h : H p = none) : Same H (upd H' p o) := fun a u ha => by
  rw [upd_ne (ne_of_none ha h)]
  exact s a u ha
theorem But.mut {a : Addr} {H H' : Hp} {p : Addr} {o : HO} (s : But a H H') (h : H p = none) : But a H (L2.upd H' p o) := fun b u n hb => by
  rw [upd_ne (ne_of_none hb h)]
  exact s b u n hb
theorem But.new' {a : Addr} {H H' : Hp} {p : Addr} {o : HO} (s : But a H H') (h : H' p = none) : But a H (L2.upd H' p o) := s.trans (But.of_same (Same.new h))
theorem But.free {a : Addr} {H H' : Hp} (s : But a H H') {p : Addr} (hp : p ≠ a) (h : H' p = none) : H p = none := by
  cases q : H p with
  | none => rfl
  | some o =>
    rw [s p o hp q] at h
    cases h
theorem ne_a {H : Hp} {a b : Addr} {o u : HO} (h : H a = some o) (h' : H b = some u) (d : o ≠ u) : a ≠ b := ne_of h h' d
theorem But.seq {K : PySem.W.Frag} {a l : Addr} {H H' : Hp} {xs : List V} {kvs : List (Key × V)} (s : But a H H') (ha : H a = some (.dK kvs)) (h : SqL K H l xs) : SqL K H' l xs := by
  rcases h with (h | ⟨o, h⟩) | h
  · exact .inl (.inl (s _ _ (ne_of h ha (by intro z; cases z)) h))
  · exact .inl (.inr ⟨o, s _ _ (ne_of h ha (by intro z; cases z)) h⟩)
  · exact .inr h
theorem But.tup {K : PySem.W.Frag} {a l : Addr} {H H' : Hp} {xs : List V} {kvs : List (Key × V)} (s : But a H H') (ha : H a = some (.dK kvs)) (h : SqT K H l xs) : SqT K H' l xs := by
  rcases h with (h | ⟨o, h⟩) | h
  · exact .inl (.inl (s _ _ (ne_of h ha (by intro z; cases z)) h))
  · exact .inl (.inr ⟨o, s _ _ (ne_of h ha (by intro z; cases z)) h⟩)
  · exact .inr h
theorem _root_.L2.Same.tup {K : PySem.W.Frag} {H H' : Hp} {a : Addr} {xs : List V} (e : Same H H') (h : SqT K H a xs) : SqT K H' a xs := by
  rcases h with (h | ⟨o, h⟩) | h
  · exact .inl (.inl (e _ _ h))
  · exact .inl (.inr ⟨o, e _ _ h⟩)
  · exact .inr h
/-- a new object; a changed one -/
theorem al {H H1 : Hp} {p : Addr} {o : HO} (e : L2.upd H p o = H1) (n : H p = none) : Same H H1 ∧ H1 p = some o := by
  subst e
  exact ⟨L2.Same.new n, upd_same⟩
theorem ml {H H1 : Hp} {p : Addr} {o : HO} (e : L2.upd H p o = H1) : But p H H1 ∧ H1 p = some o := by
  subst e
  exact ⟨But.upd, upd_same⟩
theorem same_of_but {p : Addr} {H H1 H2 : Hp} (s : Same H H1) (n : H p = none) (b : But p H1 H2) : Same H H2 := fun c o h => b c o (ne_of_none h n) (s c o h)
/-! ### sizes -/
theorem sz {n : Nat} (h : n ≤ 16777216) : n ≤ sizeLine := by rw [sizeLine_eq]; exact h
theorem szl {n : Nat} (h : n < 16777216) : n < sizeLine := by rw [sizeLine_eq]; exact h
/-! ### the law's source of draws -/
def srcD (n s t : Int) : List (Key × V) := [(Sum.inr "number", .int n), (Sum.inr "seed", .int s), (Sum.inr "turn", .int t)]
def Src (H : Hp) (a : Addr) : Prop := ∃ n s t : Int, H a = some (.dK (srcD n s t))
theorem kne {a b : Str} (h : ¬ a = b) : ¬ ((Sum.inr a : Key) = Sum.inr b) := fun z => h (Sum.inr.inj z)
theorem s_ns : ¬ (("number" : Str) = "seed") := by decide +kernel
theorem s_nt : ¬ (("number" : Str) = "turn") := by decide +kernel
theorem s_sn : ¬ (("seed" : Str) = "number") := by decide +kernel
theorem s_st : ¬ (("seed" : Str) = "turn") := by decide +kernel
theorem s_tn : ¬ (("turn" : Str) = "number") := by decide +kernel
theorem s_ts : ¬ (("turn" : Str) = "seed") := by decide +kernel
theorem src_n (n s t : Int) : valV (srcD n s t) (Sum.inr "number") = some (.int n) := valV_pos rfl
theorem src_s (n s t : Int) : valV (srcD n s t) (Sum.inr "seed") = some (.int s) := by
  have e1 := kne s_ns
  simp [valV, srcD, e1]
theorem src_t (n s t : Int) : valV (srcD n s t) (Sum.inr "turn") = some (.int t) := by
  have e1 := kne s_nt
  have e2 := kne s_st
  simp [valV, srcD, e1, e2]
theorem src_pn (n s t m : Int) : putK (srcD n s t) (Sum.inr "number") (.int m) = srcD m s t := by
  have e1 := kne s_sn
  have e2 := kne s_tn
  simp [putK, srcD, e1, e2]
theorem src_pt (n s t m : Int) : putK (srcD n s t) (Sum.inr "turn") (.int m) = srcD n s m := by
  have e1 := kne s_st
  have e2 := kne s_nt
  simp [putK, srcD, e1, e2]
theorem src_get_n {H : Hp} {a : Addr} {n s t : Int} (h : H a = some (.dK (srcD n s t))) : DGet H a (.str "number") (some (.int n)) := by
  have := DGet.k (k := Sum.inr "number") h
  rw [src_n] at this
  exact this
theorem src_get_s {H : Hp} {a : Addr} {n s t : Int} (h : H a = some (.dK (srcD n s t))) : DGet H a (.str "seed") (some (.int s)) := by
  have := DGet.k (k := Sum.inr "seed") h
  rw [src_s] at this
  exact this
theorem src_get_t {H : Hp} {a : Addr} {n s t : Int} (h : H a = some (.dK (srcD n s t))) : DGet H a (.str "turn") (some (.int t)) := by
  have := DGet.k (k := Sum.inr "turn") h
  rw [src_t] at this
  exact this
theorem src_put_n {H : Hp} {a : Addr} {n s t m : Int} (h : H a = some (.dK (srcD n s t))) : DPut H a (.str "number") (.int m) (upd H a (.dK (srcD m s t))) := by
  have := DPut.k (k := Sum.inr "number") (v := .int m) h (show 3 < sizeLine by decide)
  rw [src_pn] at this
  exact this
theorem src_put_t {H : Hp} {a : Addr} {n s t m : Int} (h : H a = some (.dK (srcD n s t))) : DPut H a (.str "turn") (.int m) (upd H a (.dK (srcD n s m))) := by
  have := DPut.k (k := Sum.inr "turn") (v := .int m) h (show 3 < sizeLine by decide)
  rw [src_pt] at this
  exact this
/-! ### kinds -/
/-- the built-in kinds that things here may be of -/
def known : List String := ["NoneType", "bool", "int", "str", "list", "tuple", "dict"]
def Knd (K : PySem.W.Frag) (H : Hp) (v : V) (t : String) : Prop := TyX K H v (.type t) ∧ t ∈ known
theorem kit_known : ∀ t ∈ known, kitB t "int" = some (t == "int" || t == "bool") ∧ kitB t "bool" = some (t == "bool") ∧ kitB t "str" = some (t == "str") ∧ kitB t "list" = some (t == "list") ∧ kitB t "tuple" = some (t == "tuple") := by decide +kernel
theorem TyX.same {K : PySem.W.Frag} {H H' : Hp} {v : V} {t : Value} (s : Same H H') (h : TyX K H v t) : TyX K H' v t := by
  cases h with
  | base b =>
    cases b with
    | non => exact .base .non
    | bl x => exact .base (.bl x)
    | int x => exact .base (.int x)
    | str x => exact .base (.str x)
    | flt x => exact .base (.flt x)
    | lst e => exact .base (.lst (s _ _ e))
    | frz e => exact .base (.frz (s _ _ e))
    | tup e => exact .base (.tup (s _ _ e))
    | dK e => exact .base (.dK (s _ _ e))
    | dT e => exact .base (.dT (s _ _ e))
    | ins e cl ha hn htk hm => exact .base (.ins (s _ _ e) cl ha hn htk hm)
  | byt b => exact .byt b
  | set e => exact .set (s _ _ e)
  | kList e c => exact .kList e c
  | kTuple e c => exact .kTuple e c
  | kDict e c => exact .kDict e c
  | fTuple e => exact .fTuple (s _ _ e)
  | fDict e => exact .fDict (s _ _ e)
theorem Knd.same {K : PySem.W.Frag} {H H' : Hp} {v : V} {t : String} (s : Same H H') (h : Knd K H v t) : Knd K H' v t := ⟨TyX.same s h.1, h.2⟩
theorem Knd.non {K : PySem.W.Frag} {H : Hp} : Knd K H .non "NoneType" := ⟨.base .non, by decide⟩
theorem Knd.bl {K : PySem.W.Frag} {H : Hp} (b : Bool) : Knd K H (.bl b) "bool" := ⟨.base (.bl b), by decide⟩
theorem Knd.int {K : PySem.W.Frag} {H : Hp} (i : Int) : Knd K H (.int i) "int" := ⟨.base (.int i), by decide⟩
theorem Knd.str {K : PySem.W.Frag} {H : Hp} (z : Str) : Knd K H (.str z) "str" := ⟨.base (.str z), by decide⟩
theorem Knd.lst {K : PySem.W.Frag} {H : Hp} {a : Addr} {xs : List V} (h : H a = some (.lst xs)) : Knd K H (.ref a) "list" := ⟨.base (.lst h), by decide⟩
theorem Knd.tup {K : PySem.W.Frag} {H : Hp} {a : Addr} {xs : List V} (h : H a = some (.tup xs)) : Knd K H (.ref a) "tuple" := ⟨.base (.tup h), by decide⟩
theorem Knd.dK {K : PySem.W.Frag} {H : Hp} {a : Addr} {kvs : List (Key × V)} (h : H a = some (.dK kvs)) : Knd K H (.ref a) "dict" := ⟨.base (.dK h), by decide⟩
end Bg

namespace Bg
open PySem PySem.Spec PyProof.Rows L2
/-! ### labels -/
def isLow (c : Nat) : Bool := decide (97 ≤ c) && decide (c ≤ 122)
def letters : List Nat := (("abcdefghijklmnopqrstuvwxyz" : Str)).cps.toList
theorem letters_eq : letters = [97, 98, 99, 100, 101, 102, 103, 104, 105, 106, 107, 108, 109, 110, 111, 112, 113, 114, 115, 116, 117, 118, 119, 120, 121, 122] := by decide +kernel
theorem mem_letters (c : Nat) : decide (c ∈ letters) = isLow c := by
  rw [letters_eq]
  unfold isLow
  rw [Bool.eq_iff_iff, decide_eq_true_iff, Bool.and_eq_true, decide_eq_true_iff, decide_eq_true_iff]
  simp only [List.mem_cons, List.not_mem_nil, or_false]
  omega
def labelB (z : Str) : Bool := decide (1 ≤ z.length) && decide (z.length ≤ 8) && z.cps.toList.all isLow
def labelV : V → Bool
  | .str z => labelB z
  | _ => false
theorem labelV_str (z : Str) : labelV (.str z) = labelB z := rfl
def inLetters (z : Str) : List Bool := z.cps.toList.map fun c => decide (c ∈ letters)
theorem labelB_in {z : Str} (h1 : (1 : Int) ≤ (z.length : Int)) (h2 : (z.length : Int) ≤ 8) : labelB z = (inLetters z).all id := by
  unfold labelB inLetters
  rw [decide_eq_true (show 1 ≤ z.length by omega), decide_eq_true (show z.length ≤ 8 by omega), List.all_map]
  simp only [Bool.true_and]
  congr 1
  funext c
  exact (mem_letters c).symm
theorem labelB_long {z : Str} (h : ¬ (z.length : Int) ≤ 8) : labelB z = false := by
  unfold labelB
  rw [decide_eq_false (show ¬ z.length ≤ 8 by omega)]
  simp
theorem labelB_empty {z : Str} (h : ¬ (1 : Int) ≤ (z.length : Int)) : labelB z = false := by
  unfold labelB
  rw [decide_eq_false (show ¬ 1 ≤ z.length by omega)]
  simp
theorem labelB_count {z : Str} (h1 : (1 : Int) ≤ (z.length : Int)) (h2 : (z.length : Int) ≤ 8) : labelB z = decide ((z.cps.toList.filter isLow).length = z.length) := by
  unfold labelB
  rw [decide_eq_true (show 1 ≤ z.length by omega), decide_eq_true (show z.length ≤ 8 by omega)]
  simp only [Bool.true_and]
  have e : z.length = z.cps.toList.length := by simp [Str.length]
  rw [e, Bool.eq_iff_iff, decide_eq_true_iff, List.all_eq_true]
  constructor
  · intro h
    rw [List.filter_eq_self.mpr h]
  · intro h
    exact List.filter_eq_self.mp (List.Sublist.eq_of_length List.filter_sublist h)
theorem take_snoc {α : Type} {l : List α} {i : Nat} {x : α} (h : l[i]? = some x) : l.take (i + 1) = l.take i ++ [x] := by
  rw [List.take_add_one, h]
  rfl
theorem ge_a (c : Nat) : (!decide ((⟨#[c]⟩ : Str).cps.toList < (("a" : Str)).cps.toList)) = decide (97 ≤ c) := by
  show (!decide (([c] : List Nat) < [97])) = decide (97 ≤ c)
  rw [Bool.eq_iff_iff]
  simp [List.cons_lt_cons_iff]
theorem le_z (c : Nat) : (!decide ((("z" : Str)).cps.toList < (⟨#[c]⟩ : Str).cps.toList)) = decide (c ≤ 122) := by
  show (!decide (([122] : List Nat) < [c])) = decide (c ≤ 122)
  rw [Bool.eq_iff_iff]
  simp [List.cons_lt_cons_iff]
theorem Knd.str_of {K : PySem.W.Frag} {H : Hp} {v : V} {t : String} (h : Knd K H v t) (e : t = "str") : ∃ z, v = .str z := by
  subst e
  obtain ⟨h, _⟩ := h
  generalize ht : Value.type "str" = tv at h
  cases h with
  | base b =>
    cases b with
    | str x => exact ⟨x, rfl⟩
    | _ => first | (injection ht with q; exact absurd q (by decide)) | cases ht
  | _ => first | (injection ht with q; exact absurd q (by decide)) | cases ht
theorem Knd.no_str {K : PySem.W.Frag} {H : Hp} {v : V} {t : String} (h : Knd K H v t) (e : t ≠ "str") : labelV v = false := by
  cases v with
  | str z =>
    obtain ⟨h, _⟩ := h
    generalize ht : Value.type t = tv at h
    cases h with
    | base b =>
      cases b with
      | str x => injection ht with q; exact absurd q e
  | _ => rfl
theorem sum_ones (ys : List Str) (h : ∀ y ∈ ys, y.length = 1) : (ys.map (·.length)).sum = ys.length := by
  induction ys with
  | nil => rfl
  | cons y r ih =>
    rw [List.map_cons, List.sum_cons, ih fun z hz => h z (List.mem_cons_of_mem _ hz), h y (List.mem_cons_self ..), List.length_cons]
    omega
theorem join_len (ys : List Str) : (Txt.join "" ys).length = (ys.map (·.length)).sum := by
  have h := size_glued ("" : Str) ys
  rw [show (("" : Str)).length = 0 from rfl, Nat.mul_zero, Nat.add_zero] at h
  exact h
/-! ### a comprehension over a text's signs -/
theorem lc_str {z : Str} {g : TG} {tt : TT} {te : TE} {vs : List Nat} {σ : L2.St} {H1 : Hp} {D : Addr} {Qd : Hp → Prop} (Pv : Nat → Hp → Prop) (h0 : Pv 0 (upd H1 D (.lst [])))
    (hs : ∀ i c H, z.cps.toList[i]? = some c → Pv i H → g (.str ⟨#[c]⟩) (wipe σ vs) H fun σ2 H2 => wipe σ2 vs = wipe σ vs ∧ tt σ2 H2 fun b H3 =>
      if b = true then te σ2 H3 fun y H4 => ∃ acc, H4 D = some (.lst acc) ∧ acc.length < sizeLine ∧ Pv (i + 1) (upd H4 D (.lst (acc ++ [y]))) else Pv (i + 1) H3) (hd : ∀ H, Pv z.cps.size H → Qd H) :
    ∃ W : Nat → Nat → Hp → Prop, (∃ m, W 0 m (upd H1 D (.lst []))) ∧ ∀ i m H, W i m H →
      ((Its z).stop i H ∧ Qd H) ∨ ((Its z).go i H ∧ ∃ Nx : Hp → Prop, (∀ H', Nx H' → ∃ m', m' < m ∧ W (i + 1) m' H') ∧ ∀ x H', (Its z).yld i H x H' → g x (wipe σ vs) H' fun σ2 H2 => wipe σ2 vs = wipe σ vs ∧ tt σ2 H2 fun b H3 =>
        if b = true then te σ2 H3 fun y H4 => ∃ acc, H4 D = some (.lst acc) ∧ acc.length < sizeLine ∧ Nx (upd H4 D (.lst (acc ++ [y]))) else Nx H3) :=
  lc_it (walk_str (z := z)) Pv h0 (fun _ _ _ _ => trivial) (fun i x H H' hi p y => by
    obtain ⟨rfl, c, hc, rfl⟩ := y
    exact hs i c _ (by simpa using hc) p) hd
theorem src_merge (a b c : Int) : mergeK [] [(Sum.inr "number", .int a), (Sum.inr "seed", .int b), (Sum.inr "turn", .int c)] = srcD a b c := by
  have e1 := kne s_ns
  have e2 := kne s_nt
  have e3 := kne s_st
  simp [mergeK, putK, srcD, e1, e2, e3]
theorem src_at {H : Hp} {p : Addr} {a b c : Int} : Src (upd H p (.dK (mergeK [] [(Sum.inr "number", .int a), (Sum.inr "seed", .int b), (Sum.inr "turn", .int c)]))) p := ⟨a, b, c, by rw [upd_same, src_merge]⟩
theorem sign_lt {z : Str} {i c : Nat} (h : z.cps.toList[i]? = some c) : i < z.length := by
  have := (List.getElem?_eq_some_iff.mp h).1
  simpa [Str.length] using this
def signs38 : Str := "abcdefghijklmnopqrstuvwxyzAZ019 _-/!(~"
theorem signs38_len : signs38.cps.toList.length = 38 := by decide +kernel
end Bg

namespace Bg
open PySem PySem.Spec PyProof.Rows L2
/-! ### tuples stay -/
def TK (H H' : Hp) : Prop := (∀ b xs, H b = some (.tup xs) → H' b = some (.tup xs)) ∧ ∀ b o xs, H b = some (.frz o (.tup xs)) → H' b = some (.frz o (.tup xs))
theorem TK.refl (H : Hp) : TK H H := ⟨fun _ _ h => h, fun _ _ _ h => h⟩
theorem TK.trans {H H1 H2 : Hp} (a : TK H H1) (b : TK H1 H2) : TK H H2 := ⟨fun c xs h => b.1 c xs (a.1 c xs h), fun c o xs h => b.2 c o xs (a.2 c o xs h)⟩
theorem TK.same {H H' : Hp} (s : Same H H') : TK H H' := ⟨fun b xs h => s b _ h, fun b o xs h => s b _ h⟩
theorem TK.butL {a : Addr} {H H' : Hp} {xs : List V} (s : But a H H') (h : H a = some (.lst xs)) : TK H H' :=
  ⟨fun b ys hb => s b _ (ne_of hb h (by intro z; cases z)) hb, fun b o ys hb => s b _ (ne_of hb h (by intro z; cases z)) hb⟩
theorem TK.butD {a : Addr} {H H' : Hp} {xs : List (Key × V)} (s : But a H H') (h : H a = some (.dK xs)) : TK H H' :=
  ⟨fun b ys hb => s b _ (ne_of hb h (by intro z; cases z)) hb, fun b o ys hb => s b _ (ne_of hb h (by intro z; cases z)) hb⟩
theorem TK.butT {a : Addr} {H H' : Hp} {xs : List (List Key × V)} (s : But a H H') (h : H a = some (.dT xs)) : TK H H' :=
  ⟨fun b ys hb => s b _ (ne_of hb h (by intro z; cases z)) hb, fun b o ys hb => s b _ (ne_of hb h (by intro z; cases z)) hb⟩
theorem TK.butI {a C dx : Addr} {H H' : Hp} {fs : List (Str × V)} (s : But a H H') (h : H a = some (.ins C dx fs)) : TK H H' :=
  ⟨fun b ys hb => s b _ (ne_of hb h (by intro z; cases z)) hb, fun b o ys hb => s b _ (ne_of hb h (by intro z; cases z)) hb⟩
theorem TK.updL {a : Addr} {H : Hp} {xs : List V} {o : HO} (h : H a = some (.lst xs)) : TK H (upd H a o) := TK.butL But.upd h
theorem TK.updD {a : Addr} {H : Hp} {xs : List (Key × V)} {o : HO} (h : H a = some (.dK xs)) : TK H (upd H a o) := TK.butD But.upd h
theorem TK.updT {a : Addr} {H : Hp} {xs : List (List Key × V)} {o : HO} (h : H a = some (.dT xs)) : TK H (upd H a o) := TK.butT But.upd h
theorem TK.src {a : Addr} {H H' : Hp} (s : But a H H') (h : Src H a) : TK H H' := by
  obtain ⟨_, _, _, h⟩ := h
  exact TK.butD s h
theorem TK.sq {K : PySem.W.Frag} {H H' : Hp} {a : Addr} {xs : List V} (t : TK H H') (h : SqT K H a xs) : SqT K H' a xs := by
  rcases h with (h | ⟨o, h⟩) | h
  · exact .inl (.inl (t.1 _ _ h))
  · exact .inl (.inr ⟨o, t.2 _ _ _ h⟩)
  · exact .inr h
end Bg
namespace PySem
/-! ### paired lists -/
section
variable {α β γ : Type} {F G : α → β → Prop}
theorem Paired.get : ∀ {l : List α} {m : List β} {i : Nat} {a : α}, Paired F l m → l[i]? = some a → ∃ b, m[i]? = some b ∧ F a b
  | _, _, _, _, .nil, h => by simp at h
  | _, _, 0, _, .cons h t, e => by simp at e; subst e; exact ⟨_, rfl, h⟩
  | _, _, i + 1, a, .cons h t, e => by
    obtain ⟨b, hb, hf⟩ := Paired.get (i := i) (a := a) t (by simpa using e)
    exact ⟨b, by simpa using hb, hf⟩
theorem Paired.get' : ∀ {l : List α} {m : List β} {i : Nat} {b : β}, Paired F l m → m[i]? = some b → ∃ a, l[i]? = some a ∧ F a b
  | _, _, _, _, .nil, h => by simp at h
  | _, _, 0, _, .cons h t, e => by simp at e; subst e; exact ⟨_, rfl, h⟩
  | _, _, i + 1, a, .cons h t, e => by
    obtain ⟨b, hb, hf⟩ := Paired.get' (i := i) (b := a) t (by simpa using e)
    exact ⟨b, by simpa using hb, hf⟩
theorem Paired.imp : ∀ {l : List α} {m : List β}, Paired F l m → (∀ a b, F a b → G a b) → Paired G l m
  | _, _, .nil, _ => .nil
  | _, _, .cons h t, f => .cons (f _ _ h) (Paired.imp t f)
theorem Paired.app : ∀ {l l' : List α} {m m' : List β}, Paired F l m → Paired F l' m' → Paired F (l ++ l') (m ++ m')
  | _, _, _, _, .nil, s => s
  | _, _, _, _, .cons h t, s => .cons h (Paired.app t s)
theorem Paired.take : ∀ {l : List α} {m : List β} (n : Nat), Paired F l m → Paired F (l.take n) (m.take n)
  | _, _, 0, _ => .nil
  | _, _, _ + 1, .nil => .nil
  | _, _, n + 1, .cons h t => .cons h (Paired.take n t)
theorem Paired.drop : ∀ {l : List α} {m : List β} (n : Nat), Paired F l m → Paired F (l.drop n) (m.drop n)
  | _, _, 0, h => h
  | _, _, _ + 1, .nil => .nil
  | _, _, n + 1, .cons h t => Paired.drop n t
theorem Paired.dropLast {l : List α} {m : List β} (h : Paired F l m) : Paired F l.dropLast m.dropLast := by
  rw [List.dropLast_eq_take, List.dropLast_eq_take, h.length]
  exact h.take _
theorem Paired.set {a : α} {b : β} (h : F a b) : ∀ {l : List α} {m : List β} (i : Nat), Paired F l m → Paired F (l.set i a) (m.set i b)
  | _, _, _, .nil => .nil
  | _, _, 0, .cons _ t => .cons h t
  | _, _, i + 1, .cons q t => .cons q (Paired.set h i t)
theorem Paired.mem {l : List α} {m : List β} (h : Paired F l m) {a : α} (ha : a ∈ l) : ∃ b ∈ m, F a b := by
  obtain ⟨i, hi⟩ := List.getElem?_of_mem ha
  obtain ⟨b, hb, hf⟩ := h.get hi
  exact ⟨b, List.mem_of_getElem? hb, hf⟩
theorem Paired.map_r {f : γ → β} : ∀ {l : List α} {m : List γ}, Paired F l (m.map f) → Paired (fun a c => F a (f c)) l m
  | [], [], _ => .nil
  | [], _ :: _, h => nomatch h
  | _ :: _, [], h => nomatch h
  | _ :: _, _ :: _, .cons h t => .cons h (Paired.map_r t)
theorem Paired.of_map_r {f : γ → β} : ∀ {l : List α} {m : List γ}, Paired (fun a c => F a (f c)) l m → Paired F l (m.map f)
  | _, _, .nil => .nil
  | _, _, .cons h t => .cons h (Paired.of_map_r t)
theorem Paired.of_get : ∀ {l : List α} {m : List β}, l.length = m.length → (∀ (i : Nat) a b, l[i]? = some a → m[i]? = some b → F a b) → Paired F l m
  | [], [], _, _ => .nil
  | [], _ :: _, h, _ => by simp at h
  | _ :: _, [], h, _ => by simp at h
  | a :: l, b :: m, h, f => .cons (f 0 a b rfl rfl) (Paired.of_get (by simpa using h) fun i x y hx hy => f (i + 1) x y (by simpa using hx) (by simpa using hy))
theorem paired_map {f : γ → α} {g : γ → β} : ∀ {l : List γ}, (∀ c ∈ l, F (f c) (g c)) → Paired F (l.map f) (l.map g)
  | [], _ => .nil
  | c :: l, h => .cons (h c (List.mem_cons_self ..)) (paired_map fun d hd => h d (List.mem_cons_of_mem _ hd))
theorem Paired.filter {p : α → Bool} {q : β → Bool} : ∀ {l : List α} {m : List β}, Paired F l m → (∀ a b, F a b → p a = q b) → Paired F (l.filter p) (m.filter q)
  | _, _, .nil, _ => .nil
  | a :: l, b :: m, .cons h t, e => by
    rw [List.filter_cons, List.filter_cons, e a b h]
    split
    · exact .cons h (Paired.filter t e)
    · exact Paired.filter t e
end
end PySem
namespace Bg
open PySem PySem.Spec PyProof.Rows L2
/-! ### data -/
theorem dpAll_iff {K : PySem.W.Frag} {H : Hp} : ∀ {vs : List V} {ds : List PyData}, DpAll K H vs ds ↔ Paired (Dp K H) vs ds
  | [], [] => ⟨fun _ => .nil, fun _ => .nil⟩
  | [], _ :: _ => ⟨fun h => (nomatch h), fun h => (nomatch h)⟩
  | _ :: _, [] => ⟨fun h => (nomatch h), fun h => (nomatch h)⟩
  | _ :: _, _ :: _ => ⟨fun h => by cases h with | cons a b => exact .cons a (dpAll_iff.mp b), fun h => by cases h with | cons a b => exact .cons a (dpAll_iff.mpr b)⟩
mutual
def flat : PyData → Bool
  | .none | .bool _ | .int _ | .str _ => true
  | .tuple ds => flatAll ds
  | .list _ | .dict _ => false
def flatAll : List PyData → Bool
  | [] => true
  | d :: ds => flat d && flatAll ds
end
mutual
theorem dp_tk {K : PySem.W.Frag} {H H' : Hp} (t : TK H H') : ∀ (d : PyData) (v : V), flat d = true → Dp K H v d → Dp K H' v d
  | .none, _, _, h => by cases h; exact .non
  | .bool b, _, _, h => by cases h; exact .bl b
  | .int i, _, _, h => by cases h; exact .int i
  | .str x, _, _, h => by cases h; exact .str x
  | .tuple ds, _, f, h => by cases h with | tup a b => exact .tup (t.sq a) (dpAll_tk t ds _ f b)
  | .list _, _, f, _ => nomatch f
  | .dict _, _, f, _ => nomatch f
theorem dpAll_tk {K : PySem.W.Frag} {H H' : Hp} (t : TK H H') : ∀ (ds : List PyData) (vs : List V), flatAll ds = true → DpAll K H vs ds → DpAll K H' vs ds
  | [], _, _, h => by cases h; exact .nil
  | d :: ds, _, f, h => by
    have f' : (flat d && flatAll ds) = true := f
    rw [Bool.and_eq_true] at f'
    cases h with | cons a b => exact .cons (dp_tk t d _ f'.1 a) (dpAll_tk t ds _ f'.2 b)
end
mutual
theorem dp_same {K : PySem.W.Frag} {H H' : Hp} (t : ∀ a xs, SqL K H a xs → SqL K H' a xs) (u : ∀ a xs, SqT K H a xs → SqT K H' a xs) : ∀ (d : PyData) (v : V), Dp K H v d → Dp K H' v d
  | .none, _, h => by cases h; exact .non
  | .bool b, _, h => by cases h; exact .bl b
  | .int i, _, h => by cases h; exact .int i
  | .str x, _, h => by cases h; exact .str x
  | .tuple ds, _, h => by cases h with | tup a b => exact .tup (u _ _ a) (dpAll_same t u ds _ b)
  | .list ds, _, h => by cases h with | lst a b => exact .lst (t _ _ a) (dpAll_same t u ds _ b)
  | .dict _, _, h => by cases h
theorem dpAll_same {K : PySem.W.Frag} {H H' : Hp} (t : ∀ a xs, SqL K H a xs → SqL K H' a xs) (u : ∀ a xs, SqT K H a xs → SqT K H' a xs) : ∀ (ds : List PyData) (vs : List V), DpAll K H vs ds → DpAll K H' vs ds
  | [], _, h => by cases h; exact .nil
  | d :: ds, _, h => by cases h with | cons a b => exact .cons (dp_same t u d _ a) (dpAll_same t u ds _ b)
end
theorem _root_.L2.Dp.same {K : PySem.W.Frag} {H H' : Hp} {v : V} {d : PyData} (h : Dp K H v d) (s : Same H H') : Dp K H' v d := dp_same (fun _ _ => s.seq) (fun _ _ => s.tup) d v h
theorem _root_.L2.Dp.butD {K : PySem.W.Frag} {H H' : Hp} {v : V} {d : PyData} {a : Addr} {kvs : List (Key × V)} (h : Dp K H v d) (s : But a H H') (ha : H a = some (.dK kvs)) : Dp K H' v d := dp_same (fun _ _ => s.seq ha) (fun _ _ => s.tup ha) d v h
theorem _root_.L2.Dp.src {K : PySem.W.Frag} {H H' : Hp} {v : V} {d : PyData} {a : Addr} (h : Dp K H v d) (s : But a H H') (ha : Src H a) : Dp K H' v d := by
  obtain ⟨_, _, _, ha⟩ := ha
  exact h.butD s ha
section
variable {K : PySem.W.Frag} {H H' : Hp} {v : V}
theorem dp_int {i : Int} (h : Dp K H v (.int i)) : v = .int i := by cases h; rfl
theorem dp_str {z : Str} (h : Dp K H v (.str z)) : v = .str z := by cases h; rfl
theorem dp_non (h : Dp K H v .none) : v = .non := by cases h; rfl
theorem dp_bl {b : Bool} (h : Dp K H v (.bool b)) : v = .bl b := by cases h; rfl
theorem dp_tup {ds : List PyData} (h : Dp K H v (.tuple ds)) : ∃ a xs, v = .ref a ∧ SqT K H a xs ∧ Paired (Dp K H) xs ds := by
  cases h with | tup a b => exact ⟨_, _, rfl, a, dpAll_iff.mp b⟩
theorem dp_lst {ds : List PyData} (h : Dp K H v (.list ds)) : ∃ a xs, v = .ref a ∧ SqL K H a xs ∧ Paired (Dp K H) xs ds := by
  cases h with | lst a b => exact ⟨_, _, rfl, a, dpAll_iff.mp b⟩
theorem dp_of_lst {a : Addr} {xs : List V} {ds : List PyData} (h : SqL K H a xs) (p : Paired (Dp K H) xs ds) : Dp K H (.ref a) (.list ds) := .lst h (dpAll_iff.mpr p)
theorem dp_of_tup {a : Addr} {xs : List V} {ds : List PyData} (h : SqT K H a xs) (p : Paired (Dp K H) xs ds) : Dp K H (.ref a) (.tuple ds) := .tup h (dpAll_iff.mpr p)
/-- three ints, a text and an int .. -/
theorem dp_t3 {x y z : Int} (h : Dp K H v (.tuple [.int x, .int y, .int z])) : ∃ a, v = .ref a ∧ SqT K H a [.int x, .int y, .int z] := by
  obtain ⟨a, xs, rfl, hs, p⟩ := dp_tup h
  cases p with | cons h1 p => cases p with | cons h2 p => cases p with | cons h3 p => cases p; rw [dp_int h1, dp_int h2, dp_int h3] at hs; exact ⟨a, rfl, hs⟩
theorem dp_row {x : Str} {y : Int} (h : Dp K H v (.tuple [.str x, .int y])) : ∃ a, v = .ref a ∧ SqT K H a [.str x, .int y] := by
  obtain ⟨a, xs, rfl, hs, p⟩ := dp_tup h
  cases p with | cons h1 p => cases p with | cons h2 p => cases p; rw [dp_str h1, dp_int h2] at hs; exact ⟨a, rfl, hs⟩
theorem dp_step {x z : Str} {y : Int} (h : Dp K H v (.tuple [.str x, .str z, .int y])) : ∃ a, v = .ref a ∧ SqT K H a [.str x, .str z, .int y] := by
  obtain ⟨a, xs, rfl, hs, p⟩ := dp_tup h
  cases p with | cons h1 p => cases p with | cons h2 p => cases p with | cons h3 p => cases p; rw [dp_str h1, dp_str h2, dp_int h3] at hs; exact ⟨a, rfl, hs⟩
end
/-! ### typed data: what a value is written as -/
def eS3 (x : Int × Int × Int) : PyData := .tuple [.int x.1, .int x.2.1, .int x.2.2]
def eRow (x : Str × Int) : PyData := .tuple [.str x.1, .int x.2]
def eStep (x : Str × Str × Int) : PyData := .tuple [.str x.1, .str x.2.1, .int x.2.2]
def eOpt : Option Int → PyData
  | some i => .int i
  | none => .none
def vOpt : Option Int → V
  | some i => .int i
  | none => .non
theorem dp_opt {K : PySem.W.Frag} {H : Hp} {v : V} {o : Option Int} (h : Dp K H v (eOpt o)) : v = vOpt o := by
  cases o with
  | none => exact dp_non h
  | some i => exact dp_int h
theorem dp_of_opt {K : PySem.W.Frag} {H : Hp} (o : Option Int) : Dp K H (vOpt o) (eOpt o) := by
  cases o with
  | none => exact .non
  | some i => exact .int i
abbrev PL {α : Type} (K : PySem.W.Frag) (H : Hp) (e : α → PyData) (vs : List V) (xs : List α) : Prop := Paired (fun v x => Dp K H v (e x)) vs xs
theorem PL.tk {α : Type} {K : PySem.W.Frag} {H H' : Hp} {e : α → PyData} {vs : List V} {xs : List α} (h : PL K H e vs xs) (t : TK H H') (f : ∀ x, flat (e x) = true) : PL K H' e vs xs := h.imp fun v x q => dp_tk t _ v (f x) q
theorem PL.same {α : Type} {K : PySem.W.Frag} {H H' : Hp} {e : α → PyData} {vs : List V} {xs : List α} (h : PL K H e vs xs) (t : Same H H') : PL K H' e vs xs := h.imp fun v x q => q.same t
theorem flat_S3 (x : Int × Int × Int) : flat (eS3 x) = true := rfl
theorem flat_row (x : Str × Int) : flat (eRow x) = true := rfl
theorem flat_step (x : Str × Str × Int) : flat (eStep x) = true := rfl
theorem flat_opt (x : Option Int) : flat (eOpt x) = true := by cases x <;> rfl
theorem PL.dp {α : Type} {K : PySem.W.Frag} {H : Hp} {e : α → PyData} {l : Addr} {vs : List V} {xs : List α} (h : PL K H e vs xs) (s : SqL K H l vs) : Dp K H (.ref l) (.list (xs.map e)) := dp_of_lst s h.of_map_r
theorem dp_pl {α : Type} {K : PySem.W.Frag} {H : Hp} {e : α → PyData} {v : V} {xs : List α} (h : Dp K H v (.list (xs.map e))) : ∃ l vs, v = .ref l ∧ SqL K H l vs ∧ PL K H e vs xs := by
  obtain ⟨l, vs, rfl, s, p⟩ := dp_lst h
  exact ⟨l, vs, rfl, s, p.map_r⟩
theorem pl_int {K : PySem.W.Frag} {H : Hp} {vs : List V} {xs : List Int} (h : PL K H PyData.int vs xs) : vs = xs.map V.int := by
  induction h with
  | nil => rfl
  | cons h t ih => rw [List.map_cons, ih, dp_int h]
theorem pl_of_int {K : PySem.W.Frag} {H : Hp} (xs : List Int) : PL K H PyData.int (xs.map V.int) xs := by
  induction xs with
  | nil => exact .nil
  | cons x xs ih => exact .cons (.int x) ih
theorem pl_str {K : PySem.W.Frag} {H : Hp} {vs : List V} {xs : List Str} (h : PL K H PyData.str vs xs) : vs = xs.map V.str := by
  induction h with
  | nil => rfl
  | cons h t ih => rw [List.map_cons, ih, dp_str h]
theorem pl_of_str {K : PySem.W.Frag} {H : Hp} (xs : List Str) : PL K H PyData.str (xs.map V.str) xs := by
  induction xs with
  | nil => exact .nil
  | cons x xs ih => exact .cons (.str x) ih
theorem pl_opt {K : PySem.W.Frag} {H : Hp} {vs : List V} {xs : List (Option Int)} (h : PL K H eOpt vs xs) : vs = xs.map vOpt := by
  induction h with
  | nil => rfl
  | cons h t ih => rw [List.map_cons, ih, dp_opt h]
theorem pl_of_opt {K : PySem.W.Frag} {H : Hp} (xs : List (Option Int)) : PL K H eOpt (xs.map vOpt) xs := by
  induction xs with
  | nil => exact .nil
  | cons x xs ih => exact .cons (dp_of_opt x) ih
/-! ### shapes for == -/
theorem canLayAll_of {ds : List PyData} (h : ∀ d ∈ ds, d.canLay0 = true) : PyData.canLayAll0 ds = true := by
  induction ds with
  | nil => rfl
  | cons d ds ih =>
    show (PyData.canLay0 d && PyData.canLayAll0 ds) = true
    rw [h d (List.mem_cons_self ..), ih fun x hx => h x (List.mem_cons_of_mem _ hx)]
    rfl
theorem depthAll_of {ds : List PyData} {n : Nat} (h : ∀ d ∈ ds, d.depth ≤ n) : PyData.depthAll ds ≤ n := by
  induction ds with
  | nil => exact Nat.zero_le _
  | cons d ds ih =>
    show max (PyData.depth d) (PyData.depthAll ds) ≤ n
    exact Nat.max_le.mpr ⟨h d (List.mem_cons_self ..), ih fun x hx => h x (List.mem_cons_of_mem _ hx)⟩
/-- good for ==, at most n deep -/
def Gd (n : Nat) (d : PyData) : Prop := d.canLay0 = true ∧ d.depth ≤ n
theorem Gd.lst {n : Nat} {ds : List PyData} (h : ∀ d ∈ ds, Gd n d) : Gd (n + 1) (.list ds) := ⟨canLayAll_of fun d hd => (h d hd).1, Nat.succ_le_succ (depthAll_of fun d hd => (h d hd).2)⟩
theorem Gd.tup {n : Nat} {ds : List PyData} (h : ∀ d ∈ ds, Gd n d) : Gd (n + 1) (.tuple ds) := ⟨canLayAll_of fun d hd => (h d hd).1, Nat.succ_le_succ (depthAll_of fun d hd => (h d hd).2)⟩
theorem Gd.map {α : Type} {n : Nat} {e : α → PyData} {xs : List α} (h : ∀ x ∈ xs, Gd n (e x)) : Gd (n + 1) (.list (xs.map e)) := Gd.lst fun d hd => by
  obtain ⟨x, hx, rfl⟩ := List.mem_map.mp hd
  exact h x hx
theorem Gd.shaped {n : Nat} {d : PyData} (h : Gd n d) (hn : n ≤ 64) : SeqAt.shaped d = true := by
  unfold SeqAt.shaped
  rw [h.1, decide_eq_true (Nat.le_trans h.2 hn)]
  rfl
theorem Gd.mono {n m : Nat} {d : PyData} (h : Gd n d) (hn : n ≤ m) : Gd m d := ⟨h.1, Nat.le_trans h.2 hn⟩
theorem gd_int (i : Int) : Gd 0 (.int i) := ⟨rfl, Nat.le_refl _⟩
theorem gd_bool (i : Bool) : Gd 0 (.bool i) := ⟨rfl, Nat.le_refl _⟩
theorem gd_none : Gd 0 .none := ⟨rfl, Nat.le_refl _⟩
theorem gd_str {z : Str} (h : PyData.strOk z = true) : Gd 0 (.str z) := ⟨h, Nat.le_refl _⟩
theorem gd_S3 (x : Int × Int × Int) : Gd 1 (eS3 x) := ⟨rfl, by show _ ≤ 1; simp [eS3, PyData.depth, PyData.depthAll]⟩
theorem Gd.eqv {n : Nat} {d : PyData} (h : Gd n d) : PyData.eqv d d = true := SeqAt.eqv_refl d h.1
/-- a list is not the empty one -/
theorem eqv_nil (ds : List PyData) : PyData.eqv (.list ds) (.list []) = ds.isEmpty := by
  cases ds with
  | nil => rfl
  | cons d r => rfl
end Bg

namespace Bg
open PySem L2
/-! ### stretches: begin, end, depth -/
abbrev S3 := Int × Int × Int
/-- l is beneath u -/
def sub3 (u l : S3) : Prop := u.1 < l.1 ∧ l.1 ≤ u.2.1
/-- .. by a way: w tells «anywhere» -/
def bn3 (w : Bool) (u l : S3) : Prop := sub3 u l ∧ (w = true ∨ u.2.2 + 1 = l.2.2)
def bn3B (w : Bool) (u l : S3) : Bool := decide (u.1 < l.1) && decide (l.1 ≤ u.2.1) && (w || decide (u.2.2 + 1 = l.2.2))
theorem bn3B_iff (w : Bool) (u l : S3) : bn3B w u l = true ↔ bn3 w u l := by
  unfold bn3B bn3 sub3
  simp
def upB (w : Bool) (us : List S3) (l : S3) : Bool := us.any fun u => bn3B w u l
def loB (w : Bool) (ls : List S3) (u : S3) : Bool := ls.any fun l => bn3B w u l
theorem upB_iff {w : Bool} {us : List S3} {l : S3} : upB w us l = true ↔ ∃ u ∈ us, bn3 w u l := by
  unfold upB
  rw [List.any_eq_true]
  simp only [bn3B_iff]
theorem loB_iff {w : Bool} {ls : List S3} {u : S3} : loB w ls u = true ↔ ∃ l ∈ ls, bn3 w u l := by
  unfold loB
  rw [List.any_eq_true]
  simp only [bn3B_iff]
structure Fam (A : S3 → Prop) : Prop where
  le : ∀ x, A x → x.1 ≤ x.2.1
  nest : ∀ x y, A x → A y → sub3 x y → y.2.1 ≤ x.2.1 ∧ x.2.2 < y.2.2
/-- a dict of begins -/
def has (kv : List (Key × V)) (b : Int) : Prop := (valV kv (Sum.inl b)).isSome = true
def put (kv : List (Key × V)) (b : Int) : List (Key × V) := putK kv (Sum.inl b) (.bl true)
theorem has_put (kv : List (Key × V)) (b c : Int) : has (put kv c) b ↔ b = c ∨ has kv b := by
  unfold has put
  rw [valV_put]
  by_cases e : b = c
  · subst e; simp
  · have : ¬ (Sum.inl b : Key) = Sum.inl c := fun z => e (Sum.inl.inj z)
    rw [if_neg this]
    simp [e]
theorem put_len (kv : List (Key × V)) (c : Int) : (put kv c).length ≤ kv.length + 1 := by
  unfold put putK
  split <;> simp
theorem has_nil (b : Int) : ¬ has [] b := by
  unfold has
  simp [valV]
/-- the dict behind a pop of x, r being left -/
def popd (w : Bool) (kv : List (Key × V)) (x : S3) : List S3 → List (Key × V)
  | [] => kv
  | y :: _ => if w = true ∧ (valV kv (Sum.inl x.1)).isSome = true then put kv y.1 else kv
/-- Open.close: the stack with its top ahead, the dict -/
def clo (w : Bool) (b : Int) : List S3 → List (Key × V) → List S3 × List (Key × V)
  | [], kv => ([], kv)
  | x :: r, kv => if x.2.1 < b then clo w b r (popd w kv x r) else (x :: r, kv)
theorem clo_fst (w : Bool) (b : Int) : ∀ (rs : List S3) (kv : List (Key × V)), (clo w b rs kv).1 = rs.dropWhile (fun x => decide (x.2.1 < b))
  | [], _ => rfl
  | x :: r, kv => by
    unfold clo
    by_cases h : x.2.1 < b
    · rw [if_pos h, clo_fst w b r, List.dropWhile_cons, decide_eq_true h, if_pos rfl]
    · rw [if_neg h, List.dropWhile_cons, decide_eq_false h, if_neg (by simp)]
/-- the ends fall towards the top -/
def Anti (rs : List S3) : Prop := rs.Pairwise fun x y => x.2.1 ≤ y.2.1
theorem drop_filter {b : Int} : ∀ {rs : List S3}, Anti rs → rs.dropWhile (fun x => decide (x.2.1 < b)) = rs.filter (fun x => decide (b ≤ x.2.1))
  | [], _ => rfl
  | x :: r, h => by
    have h1 := List.pairwise_cons.mp h
    by_cases c : x.2.1 < b
    · rw [List.dropWhile_cons, decide_eq_true c, if_pos rfl, List.filter_cons, if_neg (by simp; omega)]
      exact drop_filter h1.2
    · rw [List.dropWhile_cons, decide_eq_false c, if_neg (by simp)]
      refine (List.filter_eq_self.mpr fun y hy => ?_).symm
      rcases List.mem_cons.mp hy with rfl | hy
      · exact decide_eq_true (by omega)
      · have := h1.1 y hy
        exact decide_eq_true (by omega)
theorem clo_filter {w : Bool} {b : Int} {rs : List S3} {kv : List (Key × V)} (h : Anti rs) : (clo w b rs kv).1 = rs.filter (fun x => decide (b ≤ x.2.1)) := by
  rw [clo_fst, drop_filter h]
theorem clo_len (w : Bool) (b : Int) : ∀ (rs : List S3) (kv : List (Key × V)), (clo w b rs kv).2.length + (clo w b rs kv).1.length ≤ kv.length + rs.length
  | [], _ => Nat.le_refl _
  | x :: r, kv => by
    unfold clo
    by_cases h : x.2.1 < b
    · rw [if_pos h]
      have hm : (popd w kv x r).length ≤ kv.length + 1 := by
        cases r with
        | nil => exact Nat.le_succ _
        | cons y r' =>
          show (if _ then put kv y.1 else kv).length ≤ _
          split
          · exact put_len kv y.1
          · exact Nat.le_succ _
      have ih := clo_len w b r (popd w kv x r)
      rw [List.length_cons]
      omega
    · rw [if_neg h]
      exact Nat.le_refl _
/-- what is told of u by the lowers met so far -/
def tld (w : Bool) (done : List S3) (u : S3) : Prop := ∃ l ∈ done, bn3 w u l
/-- the open ones, top first; acc: one further in is marked -/
def opn (w : Bool) (T : S3 → Prop) (kv : List (Key × V)) : Prop → List S3 → Prop
  | _, [] => True
  | acc, x :: r => (T x ↔ ((w = true ∧ acc) ∨ has kv x.1)) ∧ opn w T kv (acc ∨ has kv x.1) r
theorem opn_acc {w : Bool} {T : S3 → Prop} {kv : List (Key × V)} : ∀ {rs : List S3} {a a' : Prop}, (a ↔ a') → opn w T kv a rs → opn w T kv a' rs
  | [], _, _, _, _ => trivial
  | x :: r, a, a', e, h => ⟨by rw [← e]; exact h.1, opn_acc (by rw [e]) h.2⟩
/-- marks of begins that are not among them do not matter -/
theorem opn_put {w : Bool} {T : S3 → Prop} {kv : List (Key × V)} {c : Int} : ∀ {rs : List S3} {a : Prop}, (∀ x ∈ rs, x.1 ≠ c) → opn w T kv a rs → opn w T (put kv c) a rs
  | [], _, _, _ => trivial
  | x :: r, a, n, h => by
    have hx : has (put kv c) x.1 ↔ has kv x.1 := by
      rw [has_put]
      have := n x (List.mem_cons_self ..)
      simp [this]
    exact ⟨by rw [hx]; exact h.1, opn_acc (by rw [hx]) (opn_put (fun y hy => n y (List.mem_cons_of_mem _ hy)) h.2)⟩
theorem opn_T {w : Bool} {T T' : S3 → Prop} {kv : List (Key × V)} : ∀ {rs : List S3} {a : Prop}, (∀ x ∈ rs, (T x ↔ T' x)) → opn w T kv a rs → opn w T' kv a rs
  | [], _, _, _ => trivial
  | x :: r, a, n, h => ⟨by rw [← n x (List.mem_cons_self ..)]; exact h.1, opn_T (fun y hy => n y (List.mem_cons_of_mem _ hy)) h.2⟩
/-- where the way is straight acc does not matter -/
theorem opn_no {T : S3 → Prop} {kv : List (Key × V)} : ∀ {rs : List S3} {a a' : Prop}, opn false T kv a rs → opn false T kv a' rs
  | [], _, _, _ => trivial
  | x :: r, a, a', q => ⟨by have := q.1; simpa using this, opn_no q.2⟩
theorem opn_all {T : S3 → Prop} {kv : List (Key × V)} : ∀ {rs : List S3} {a : Prop}, a → (∀ x ∈ rs, T x) → opn true T kv a rs
  | [], _, _, _ => trivial
  | x :: r, a, h, n => ⟨by simp [h, n x (List.mem_cons_self ..)], opn_all (.inl h) fun y hy => n y (List.mem_cons_of_mem _ hy)⟩
/-- closing: the marks of the closed ones are right, the open ones stay right, no others are marked -/
theorem clo_ok {w : Bool} {b : Int} {T : S3 → Prop} : ∀ {rs : List S3} {kv : List (Key × V)}, (rs.map (·.1)).Nodup → opn w T kv False rs →
    opn w T (clo w b rs kv).2 False (clo w b rs kv).1 ∧ (∀ x ∈ rs, x ∉ (clo w b rs kv).1 → (has (clo w b rs kv).2 x.1 ↔ T x)) ∧ (∀ c, (∀ x ∈ rs, x.1 ≠ c) → (has (clo w b rs kv).2 c ↔ has kv c)) ∧ (∀ c, has kv c → has (clo w b rs kv).2 c) ∧
    (∀ c, has (clo w b rs kv).2 c → has kv c ∨ ∃ x ∈ rs, x.1 = c)
  | [], kv, _, h => ⟨h, fun _ hx => (nomatch hx), fun _ _ => Iff.rfl, fun _ q => q, fun _ q => .inl q⟩
  | x :: r, kv, nd, h => by
    have nd2 := List.nodup_cons.mp (show (x.1 :: r.map (·.1)).Nodup from nd)
    unfold clo
    by_cases c : x.2.1 < b
    · rw [if_pos c]
      -- the dict behind the pop
      obtain ⟨kv', hk, hop, hx, hother, hmore, hback⟩ : ∃ kv', popd w kv x r = kv' ∧ opn w T kv' False r ∧ (has kv' x.1 ↔ T x) ∧ (∀ c, (∀ z ∈ r, z.1 ≠ c) → (has kv' c ↔ has kv c)) ∧ (∀ c, has kv c → has kv' c) ∧ (∀ c, has kv' c → has kv c ∨ ∃ z ∈ r, z.1 = c) := by
        have hT : T x ↔ has kv x.1 := by rw [h.1]; simp
        cases r with
        | nil => exact ⟨kv, rfl, trivial, hT.symm, fun _ _ => Iff.rfl, fun _ q => q, fun _ q => .inl q⟩
        | cons y r' =>
          by_cases cc : w = true ∧ (valV kv (Sum.inl x.1)).isSome = true
          · refine ⟨put kv y.1, if_pos cc, ?_, ?_, ?_, ?_, ?_⟩
            · have nd3 := List.nodup_cons.mp (show (y.1 :: r'.map (·.1)).Nodup from nd2.2)
              have hx : has kv x.1 := cc.2
              have h2 := h.2
              refine ⟨?_, ?_⟩
              · rw [h2.1, has_put]
                simp [cc.1, hx]
              · refine opn_put (fun z hz e => nd3.1 (List.mem_map.mpr ⟨z, hz, e⟩)) (opn_acc ?_ h2.2)
                rw [has_put]
                simp [hx]
            · rw [hT, has_put]
              have : x.1 ≠ y.1 := fun e => nd2.1 (by rw [e]; exact List.mem_map.mpr ⟨y, List.mem_cons_self .., rfl⟩)
              simp [this]
            · intro c hc
              rw [has_put]
              have := hc y (List.mem_cons_self ..)
              simp [Ne.symm this]
            · intro c hc
              rw [has_put]
              exact .inr hc
            · intro c hc
              rw [has_put] at hc
              rcases hc with rfl | hc
              · exact .inr ⟨y, List.mem_cons_self .., rfl⟩
              · exact .inl hc
          · refine ⟨kv, if_neg cc, ?_, hT.symm, fun _ _ => Iff.rfl, fun _ q => q, fun _ q => .inl q⟩
            cases hw : w with
            | true =>
              rw [hw] at h cc
              have : ¬ has kv x.1 := fun q => cc ⟨rfl, q⟩
              exact opn_acc (by simp [this]) h.2
            | false =>
              rw [hw] at h
              exact opn_no h.2
      rw [hk]
      obtain ⟨q1, q2, q3, q4, q5⟩ := clo_ok (b := b) nd2.2 hop
      have hxr : ∀ z ∈ r, z.1 ≠ x.1 := fun z hz e => nd2.1 (List.mem_map.mpr ⟨z, hz, e⟩)
      refine ⟨q1, ?_, ?_, fun c hc => q4 c (hmore c hc), ?_⟩
      · intro z hz hn
        rcases List.mem_cons.mp hz with rfl | hz
        · rw [q3 _ hxr, hx]
        · exact q2 z hz hn
      · intro c hc
        have hcr : ∀ z ∈ r, z.1 ≠ c := fun z hz => hc z (List.mem_cons_of_mem _ hz)
        rw [q3 c hcr, hother c hcr]
      · intro c hc
        rcases q5 c hc with hc | ⟨z, hz, e⟩
        · rcases hback c hc with hc | ⟨z, hz, e⟩
          · exact .inl hc
          · exact .inr ⟨z, List.mem_cons_of_mem _ hz, e⟩
        · exact .inr ⟨z, List.mem_cons_of_mem _ hz, e⟩
    · rw [if_neg c]
      refine ⟨h, fun z hz hn => absurd hz hn, fun _ _ => Iff.rfl, fun _ q => q, fun _ q => .inl q⟩
/-! ### the walk of with_upper, with_lower -/
structure Stk (us : List S3) (at_ : Nat) (cur : Int) (rs : List S3) : Prop where
  eq : rs.reverse = (us.take at_).filter fun u => decide (cur ≤ u.2.1)
  lo : ∀ u ∈ us.take at_, u.1 ≤ cur
  hi : ∀ u ∈ us.drop at_, cur ≤ u.1
def Srt (us : List S3) : Prop := us.Pairwise fun x y => x.1 < y.1
section
variable {A : S3 → Prop} (F : Fam A) {us ls : List S3} (hu : ∀ u ∈ us, A u) (su : Srt us)
theorem Stk.mem {at_ : Nat} {cur : Int} {rs : List S3} (h : Stk us at_ cur rs) {x : S3} : x ∈ rs ↔ x ∈ us.take at_ ∧ cur ≤ x.2.1 := by
  rw [← List.mem_reverse, h.eq, List.mem_filter, decide_eq_true_iff]
include F hu su in
theorem Stk.anti {at_ : Nat} {cur : Int} {rs : List S3} (h : Stk us at_ cur rs) : Anti rs := by
  have h1 : rs.reverse.Pairwise (fun x y => y.2.1 ≤ x.2.1) := by
    rw [h.eq]
    have hs : ((us.take at_).filter fun u => decide (cur ≤ u.2.1)).Pairwise fun x y => x.1 < y.1 := (su.sublist (List.take_sublist _ _)).sublist List.filter_sublist
    refine hs.imp_of_mem fun {x y} hx hy hxy => ?_
    rw [List.mem_filter, decide_eq_true_iff] at hx hy
    exact (F.nest x y (hu x (List.mem_of_mem_take hx.1)) (hu y (List.mem_of_mem_take hy.1)) ⟨hxy, Int.le_trans (h.lo y hy.1) hx.2⟩).1
  rw [List.pairwise_reverse] at h1
  exact h1
theorem Stk.start (h : ∀ u ∈ us, (0 : Int) ≤ u.1) : Stk us 0 0 [] := ⟨by simp, by simp, by simpa using h⟩
include su in
theorem Stk.nodup {at_ : Nat} {cur : Int} {rs : List S3} (h : Stk us at_ cur rs) : (rs.map (·.1)).Nodup := by
  have h1 : (rs.reverse.map (·.1)).Nodup := by
    rw [h.eq]
    have hs : ((us.take at_).filter fun u => decide (cur ≤ u.2.1)).Pairwise fun x y => x.1 < y.1 := (su.sublist (List.take_sublist _ _)).sublist List.filter_sublist
    rw [List.Nodup, List.pairwise_map]
    exact hs.imp fun {x y} q => by omega
  rw [List.map_reverse, List.Nodup, List.pairwise_reverse] at h1
  exact h1.imp fun q => Ne.symm q
include F hu su in
/-- closing up to a later begin -/
theorem Stk.close {at_ : Nat} {cur b : Int} {rs : List S3} {w : Bool} {kv : List (Key × V)} (h : Stk us at_ cur rs) (hb : cur ≤ b) (hd : ∀ u ∈ us.drop at_, b ≤ u.1) : Stk us at_ b (clo w b rs kv).1 := by
  refine ⟨?_, fun u q => Int.le_trans (h.lo u q) hb, hd⟩
  rw [clo_filter (h.anti F hu su), ← List.filter_reverse, h.eq, List.filter_filter]
  congr 1
  funext u
  rw [Bool.eq_iff_iff, Bool.and_eq_true, decide_eq_true_iff, decide_eq_true_iff]
  constructor
  · exact fun q => q.1
  · exact fun q => ⟨q, Int.le_trans hb q⟩
include F hu su in
theorem Stk.push {at_ : Nat} {cur : Int} {rs : List S3} {u : S3} {w : Bool} {kv : List (Key × V)} (h : Stk us at_ cur rs) (e : us[at_]? = some u) : Stk us (at_ + 1) u.1 (u :: (clo w u.1 rs kv).1) := by
  have hlt := (List.getElem?_eq_some_iff.mp e).1
  have hdr : us.drop at_ = u :: us.drop (at_ + 1) := by
    obtain ⟨h1, h2⟩ := List.getElem?_eq_some_iff.mp e
    rw [← h2, List.drop_eq_getElem_cons h1]
  have hcu : cur ≤ u.1 := h.hi u (by rw [hdr]; exact List.mem_cons_self ..)
  have sd : (u :: us.drop (at_ + 1)).Pairwise fun x y => x.1 < y.1 := by rw [← hdr]; exact su.sublist (List.drop_sublist _ _)
  have hge : ∀ v ∈ us.drop at_, u.1 ≤ v.1 := by
    rw [hdr]
    intro v hv
    rcases List.mem_cons.mp hv with rfl | hv
    · exact Int.le_refl _
    · exact Int.le_of_lt ((List.pairwise_cons.mp sd).1 v hv)
  have c := h.close F hu su (w := w) (kv := kv) hcu hge
  have hu1 : A u := hu u (List.mem_of_getElem? e)
  refine ⟨?_, ?_, ?_⟩
  · rw [List.reverse_cons, c.eq, take_snoc e, List.filter_append, List.filter_cons, if_pos (decide_eq_true (F.le u hu1))]
    rfl
  · intro v hv
    rw [take_snoc e] at hv
    rcases List.mem_append.mp hv with hv | hv
    · exact Int.le_trans (h.lo v hv) hcu
    · rw [List.mem_singleton.mp hv]
      exact Int.le_refl _
  · intro v hv
    exact hge v (by rw [hdr]; exact List.mem_cons_of_mem _ hv)
include su in
/-- the taken ones are those ahead of l -/
theorem taken_iff {at_ : Nat} {l : Int} (h1 : ∀ u ∈ us.take at_, u.1 < l) (h2 : ∀ u ∈ us.drop at_, l ≤ u.1) (u : S3) : u ∈ us.take at_ ↔ u ∈ us ∧ u.1 < l := by
  constructor
  · exact fun q => ⟨List.mem_of_mem_take q, h1 u q⟩
  · rintro ⟨q, c⟩
    rw [← List.take_append_drop at_ us] at q
    rcases List.mem_append.mp q with q | q
    · exact q
    · have := h2 u q
      omega
include F hu su in
/-- with_upper's answer at a lower -/
theorem upper_ans {at_ : Nat} {l : S3} {rs : List S3} (hl : A l) (h : Stk us at_ l.1 rs) (h1 : ∀ u ∈ us.take at_, u.1 < l.1) (w : Bool) :
    (∃ u ∈ us, bn3 w u l) ↔ ∃ t r, rs = t :: r ∧ (w = true ∨ t.2.2 + 1 = l.2.2) := by
  have hm : ∀ u, u ∈ rs ↔ u ∈ us ∧ sub3 u l := by
    intro u
    rw [h.mem, taken_iff su h1 h.hi]
    exact ⟨fun q => ⟨q.1.1, q.1.2, q.2⟩, fun q => ⟨⟨q.1, q.2.1⟩, q.2.2⟩⟩
  have ha := h.anti F hu su
  constructor
  · rintro ⟨u, hu', hs, hw⟩
    have hur : u ∈ rs := (hm u).mpr ⟨hu', hs⟩
    cases rs with
    | nil => exact absurd hur (by simp)
    | cons t r =>
      refine ⟨t, r, rfl, ?_⟩
      rcases hw with hw | hw
      · exact .inl hw
      · rcases List.mem_cons.mp hur with rfl | hur
        · exact .inr hw
        · exfalso
          have ht := (hm t).mp (List.mem_cons_self ..)
          have hrev : (t :: r).reverse.Pairwise fun x y => x.1 < y.1 := by
            rw [h.eq]
            exact (su.sublist (List.take_sublist _ _)).sublist List.filter_sublist
          rw [List.pairwise_reverse] at hrev
          have hut : u.1 < t.1 := (List.pairwise_cons.mp hrev).1 u hur
          have htu : sub3 u t := ⟨hut, Int.le_trans (Int.le_of_lt ht.2.1) hs.2⟩
          have n1 := (F.nest u t (hu u hu') (hu t ht.1) htu).2
          have n2 := (F.nest t l (hu t ht.1) hl ht.2).2
          omega
  · rintro ⟨t, r, rfl, hw⟩
    have ht := (hm t).mp (List.mem_cons_self ..)
    exact ⟨t, ht.1, ht.2, hw⟩
/-! ### with_lower -/
structure Low (w : Bool) (us done : List S3) (at_ : Nat) (cur : Int) (rs : List S3) (kv : List (Key × V)) : Prop where
  stk : Stk us at_ cur rs
  shut : ∀ u ∈ us.take at_, ¬ cur ≤ u.2.1 → (has kv u.1 ↔ tld w done u)
  op : opn w (tld w done) kv False rs
  only : ∀ c, has kv c → ∃ u ∈ us.take at_, u.1 = c
  met : ∀ l ∈ done, l.1 ≤ cur
theorem Low.start {w : Bool} (h : ∀ u ∈ us, (0 : Int) ≤ u.1) : Low w us [] 0 0 [] [] := ⟨Stk.start h, by simp, trivial, fun c q => absurd q (has_nil c), by simp⟩
include F hu su in
theorem Low.close {w : Bool} {done : List S3} {at_ : Nat} {cur b : Int} {rs : List S3} {kv : List (Key × V)} (h : Low w us done at_ cur rs kv) (hb : cur ≤ b) (hd : ∀ u ∈ us.drop at_, b ≤ u.1) :
    Low w us done at_ b (clo w b rs kv).1 (clo w b rs kv).2 := by
  have hs := h.stk.close F hu su (w := w) (kv := kv) hb hd
  obtain ⟨q1, q2, q3, q4, q5⟩ := clo_ok (b := b) (h.stk.nodup su) h.op
  refine ⟨hs, ?_, q1, ?_, fun l hl => Int.le_trans (h.met l hl) hb⟩
  · intro u hu' hn
    by_cases c : cur ≤ u.2.1
    · have hr : u ∈ rs := h.stk.mem.mpr ⟨hu', c⟩
      exact q2 u hr fun z => hn (hs.mem.mp z).2
    · have hnr : ∀ x ∈ rs, x.1 ≠ u.1 := by
        intro x hx e
        have hx' := h.stk.mem.mp hx
        have : x = u := by
          have nd := su.sublist (List.take_sublist at_ us)
          obtain ⟨i, hi, hxi⟩ := List.mem_iff_getElem.mp hx'.1
          obtain ⟨j, hj, huj⟩ := List.mem_iff_getElem.mp hu'
          rw [List.pairwise_iff_getElem] at nd
          rcases Nat.lt_trichotomy i j with hij | hij | hij
          · have := nd i j hi hj hij
            rw [hxi, huj] at this
            omega
          · subst hij
            rw [← hxi, ← huj]
          · have := nd j i hj hi hij
            rw [hxi, huj] at this
            omega
        rw [this] at hx'
        exact c hx'.2
      rw [q3 u.1 hnr]
      exact h.shut u hu' c
  · intro c hc
    rcases q5 c hc with hc | ⟨x, hx, e⟩
    · exact h.only c hc
    · exact ⟨x, (h.stk.mem.mp hx).1, e⟩
include F hu su in
theorem Low.push {w : Bool} {done : List S3} {at_ : Nat} {cur : Int} {rs : List S3} {kv : List (Key × V)} {u : S3} (h : Low w us done at_ cur rs kv) (e : us[at_]? = some u) :
    Low w us done (at_ + 1) u.1 (u :: (clo w u.1 rs kv).1) (clo w u.1 rs kv).2 := by
  have hdr : us.drop at_ = u :: us.drop (at_ + 1) := by
    obtain ⟨h1, h2⟩ := List.getElem?_eq_some_iff.mp e
    rw [← h2, List.drop_eq_getElem_cons h1]
  have sd : (u :: us.drop (at_ + 1)).Pairwise fun x y => x.1 < y.1 := by rw [← hdr]; exact su.sublist (List.drop_sublist _ _)
  have hcu : cur ≤ u.1 := h.stk.hi u (by rw [hdr]; exact List.mem_cons_self ..)
  have hge : ∀ v ∈ us.drop at_, u.1 ≤ v.1 := by
    rw [hdr]
    intro v hv
    rcases List.mem_cons.mp hv with rfl | hv
    · exact Int.le_refl _
    · exact Int.le_of_lt ((List.pairwise_cons.mp sd).1 v hv)
  have c := h.close F hu su hcu hge
  have hlt : ∀ v ∈ us.take at_, v.1 < u.1 := by
    intro v hv
    have : (us.take at_ ++ us.drop at_).Pairwise fun x y => x.1 < y.1 := by rw [List.take_append_drop]; exact su
    exact (List.pairwise_append.mp this).2.2 v hv u (by rw [hdr]; exact List.mem_cons_self ..)
  have hnew : ¬ has (clo w u.1 rs kv).2 u.1 := fun q => by
    obtain ⟨v, hv, e⟩ := c.only _ q
    have := hlt v hv
    omega
  have hT : ¬ tld w done u := by
    rintro ⟨l, hl, hs, _⟩
    have := c.met l hl
    have := hs.1
    omega
  refine ⟨h.stk.push F hu su e, ?_, ⟨by simp [hnew, hT], opn_acc (by simp [hnew]) c.op⟩, ?_, c.met⟩
  · intro v hv hn
    rw [take_snoc e] at hv
    rcases List.mem_append.mp hv with hv | hv
    · exact c.shut v hv hn
    · rw [List.mem_singleton.mp hv] at hn ⊢
      exact absurd (F.le u (hu u (List.mem_of_getElem? e))) hn
  · intro x hx
    obtain ⟨v, hv, e'⟩ := c.only x hx
    exact ⟨v, by rw [take_snoc e]; exact List.mem_append_left _ hv, e'⟩
/-- meet, behind its close -/
def mark (w : Bool) (l : S3) (rs : List S3) (kv : List (Key × V)) : List (Key × V) := match rs with
  | [] => kv
  | t :: _ => if w = true ∨ t.2.2 + 1 = l.2.2 then put kv t.1 else kv
include F hu su in
theorem Low.meet {w : Bool} {done : List S3} {at_ : Nat} {l : S3} {rs : List S3} {kv : List (Key × V)} (hl : A l) (h : Low w us done at_ l.1 rs kv) (h1 : ∀ u ∈ us.take at_, u.1 < l.1) :
    Low w us (done ++ [l]) at_ l.1 rs (mark w l rs kv) := by
  have hmem : ∀ u, u ∈ rs ↔ u ∈ us ∧ sub3 u l := by
    intro u
    rw [h.stk.mem, taken_iff su h1 h.stk.hi]
    exact ⟨fun q => ⟨q.1.1, q.1.2, q.2⟩, fun q => ⟨⟨q.1, q.2.1⟩, q.2.2⟩⟩
  have hT : ∀ u, tld w (done ++ [l]) u ↔ tld w done u ∨ bn3 w u l := by
    intro u
    constructor
    · rintro ⟨x, hx, q⟩
      rcases List.mem_append.mp hx with hx | hx
      · exact .inl ⟨x, hx, q⟩
      · rw [List.mem_singleton.mp hx] at q
        exact .inr q
    · rintro (⟨x, hx, q⟩ | q)
      · exact ⟨x, List.mem_append_left _ hx, q⟩
      · exact ⟨l, by simp, q⟩
  have nd := h.stk.nodup su
  refine ⟨h.stk, ?_, ?_, ?_, ?_⟩
  · intro u hu' hn
    have hnr : u ∉ rs := fun q => hn (h.stk.mem.mp q).2
    have hnb : ¬ bn3 w u l := fun q => hn q.1.2
    rw [hT]
    have e1 : has (mark w l rs kv) u.1 ↔ has kv u.1 := by
      unfold mark
      cases rs with
      | nil => exact Iff.rfl
      | cons t r =>
        show has (if _ then put kv t.1 else kv) u.1 ↔ _
        split
        · rw [has_put]
          have : u.1 ≠ t.1 := by
            intro e
            have ht := h.stk.mem.mp (List.mem_cons_self (a := t) (l := r))
            have : u = t := by
              have nd := su.sublist (List.take_sublist at_ us)
              obtain ⟨i, hi, hxi⟩ := List.mem_iff_getElem.mp hu'
              obtain ⟨j, hj, huj⟩ := List.mem_iff_getElem.mp ht.1
              rw [List.pairwise_iff_getElem] at nd
              rcases Nat.lt_trichotomy i j with hij | hij | hij
              · have := nd i j hi hj hij
                rw [hxi, huj] at this
                omega
              · subst hij
                rw [← hxi, ← huj]
              · have := nd j i hj hi hij
                rw [hxi, huj] at this
                omega
            rw [this] at hn
            exact hn ht.2
          simp [this]
        · exact Iff.rfl
    rw [e1, h.shut u hu' hn]
    simp [hnb]
  · cases rs with
    | nil => trivial
    | cons t r =>
      have nd2 := List.nodup_cons.mp (show (t.1 :: r.map (·.1)).Nodup from nd)
      have ht := (hmem t).mp (List.mem_cons_self ..)
      have ho := h.op
      have hrev : (t :: r).reverse.Pairwise fun x y => x.1 < y.1 := by
        rw [h.stk.eq]
        exact (su.sublist (List.take_sublist _ _)).sublist List.filter_sublist
      rw [List.pairwise_reverse] at hrev
      have hin : ∀ x ∈ r, x.2.2 < t.2.2 ∧ sub3 x l := by
        intro x hx
        have hx' := (hmem x).mp (List.mem_cons_of_mem _ hx)
        have hxt : x.1 < t.1 := (List.pairwise_cons.mp hrev).1 x hx
        exact ⟨(F.nest x t (hu x hx'.1) (hu t ht.1) ⟨hxt, Int.le_trans (Int.le_of_lt ht.2.1) hx'.2.2⟩).2, hx'.2⟩
      have htl := (F.nest t l (hu t ht.1) hl ht.2).2
      show opn w (tld w (done ++ [l])) (if w = true ∨ t.2.2 + 1 = l.2.2 then put kv t.1 else kv) False (t :: r)
      cases hw : w with
      | true =>
        rw [hw] at hT ho
        rw [if_pos (.inl rfl)]
        refine ⟨?_, opn_all (.inr ((has_put ..).mpr (.inl rfl))) fun x hx => (hT x).mpr (.inr ⟨(hin x hx).2, .inl rfl⟩)⟩
        rw [hT, has_put]
        have : bn3 true t l := ⟨ht.2, .inl rfl⟩
        simp [this]
      | false =>
        rw [hw] at hT ho
        have hr : ∀ x ∈ r, (tld false done x ↔ tld false (done ++ [l]) x) := by
          intro x hx
          rw [hT]
          have : ¬ bn3 false x l := by
            rintro ⟨_, q | q⟩
            · exact absurd q (by decide)
            · have := (hin x hx).1
              omega
          simp [this]
        by_cases c : t.2.2 + 1 = l.2.2
        · rw [if_pos (.inr c)]
          refine ⟨?_, opn_no (a := False) (opn_put (fun x hx e => nd2.1 (List.mem_map.mpr ⟨x, hx, e⟩)) (opn_T hr (opn_no ho.2)))⟩
          rw [hT, has_put]
          have : bn3 false t l := ⟨ht.2, .inr c⟩
          simp [this]
        · rw [if_neg (by rintro (q | q); exact absurd q (by decide); exact c q)]
          refine ⟨?_, opn_T hr ho.2⟩
          rw [hT, ← ho.1]
          have : ¬ bn3 false t l := by
            rintro ⟨_, q | q⟩
            · exact absurd q (by decide)
            · exact c q
          simp [this]
  · intro c hc
    unfold mark at hc
    cases rs with
    | nil => exact h.only c hc
    | cons t r =>
      have hc : has (if w = true ∨ t.2.2 + 1 = l.2.2 then put kv t.1 else kv) c := hc
      by_cases q : w = true ∨ t.2.2 + 1 = l.2.2
      · rw [if_pos q, has_put] at hc
        rcases hc with rfl | hc
        · exact ⟨t, (h.stk.mem.mp (List.mem_cons_self ..)).1, rfl⟩
        · exact h.only c hc
      · rw [if_neg q] at hc
        exact h.only c hc
  · intro x hx
    rcases List.mem_append.mp hx with hx | hx
    · exact h.met x hx
    · rw [List.mem_singleton.mp hx]
      exact Int.le_refl _
theorem mark_len (w : Bool) (l : S3) (rs : List S3) (kv : List (Key × V)) : (mark w l rs kv).length ≤ kv.length + 1 := by
  unfold mark
  cases rs with
  | nil => exact Nat.le_succ _
  | cons t r =>
    show (if _ then put kv t.1 else kv).length ≤ _
    split
    · exact put_len kv t.1
    · exact Nat.le_succ _
include F hu su in
/-- the last close -/
theorem Low.finish {w : Bool} {done : List S3} {at_ : Nat} {cur b : Int} {rs : List S3} {kv : List (Key × V)} (h : Low w us done at_ cur rs kv) (hb : ∀ x ∈ rs, x.2.1 < b) (hd : ∀ u ∈ us.drop at_, ∀ l ∈ done, l.1 ≤ u.1) (u : S3) (hu' : u ∈ us) :
    has (clo w b rs kv).2 u.1 ↔ tld w done u := by
  obtain ⟨q1, q2, q3, q4, q5⟩ := clo_ok (b := b) (h.stk.nodup su) h.op
  have hnil : (clo w b rs kv).1 = [] := by
    rw [clo_filter (h.stk.anti F hu su)]
    refine List.filter_eq_nil_iff.mpr fun x hx => ?_
    have := hb x hx
    simp
    omega
  have hinj : ∀ x ∈ us, x.1 = u.1 → x = u := by
    intro x hx e
    obtain ⟨i, hi, hxi⟩ := List.mem_iff_getElem.mp hx
    obtain ⟨j, hj, huj⟩ := List.mem_iff_getElem.mp hu'
    have nd := su
    unfold Srt at nd
    rw [List.pairwise_iff_getElem] at nd
    rcases Nat.lt_trichotomy i j with hij | hij | hij
    · have := nd i j hi hj hij
      rw [hxi, huj] at this
      omega
    · subst hij
      rw [← hxi, ← huj]
    · have := nd j i hj hi hij
      rw [hxi, huj] at this
      omega
  have hsub : ∀ x ∈ rs, x ∈ us := fun x hx => List.mem_of_mem_take (h.stk.mem.mp hx).1
  by_cases c : u ∈ rs
  · exact q2 u c (by rw [hnil]; exact List.not_mem_nil)
  · have hnr : ∀ x ∈ rs, x.1 ≠ u.1 := fun x hx e => c (by rw [← hinj x (hsub x hx) e]; exact hx)
    rw [q3 u.1 hnr]
    by_cases ct : u ∈ us.take at_
    · exact h.shut u ct fun z => c (h.stk.mem.mpr ⟨ct, z⟩)
    · have hdr : u ∈ us.drop at_ := by
        have := hu'
        rw [← List.take_append_drop at_ us] at this
        rcases List.mem_append.mp this with q | q
        · exact absurd q ct
        · exact q
      constructor
      · intro q
        obtain ⟨v, hv, e⟩ := h.only _ q
        exact absurd (by rw [← hinj v (List.mem_of_mem_take hv) e]; exact hv) ct
      · rintro ⟨l, hl, hs, _⟩
        have := hd u hdr l hl
        have := hs.1
        omega
/-- all is closed: the marks tell -/
theorem Low.done_ {w : Bool} {done : List S3} {at_ : Nat} {cur : Int} {kv : List (Key × V)} (h : Low w us done at_ cur [] kv) (hd : ∀ u ∈ us.drop at_, ∀ l ∈ done, l.1 ≤ u.1) (su : Srt us) (u : S3) (hu : u ∈ us) : has kv u.1 ↔ tld w done u := by
  by_cases c : u ∈ us.take at_
  · refine h.shut u c fun q => ?_
    have := h.stk.mem.mpr ⟨c, q⟩
    exact absurd this (by simp)
  · have hdr : u ∈ us.drop at_ := by
      rw [← List.take_append_drop at_ us] at hu
      rcases List.mem_append.mp hu with q | q
      · exact absurd q c
      · exact q
    constructor
    · intro q
      obtain ⟨v, hv, e⟩ := h.only _ q
      exfalso
      have : (us.take at_ ++ us.drop at_).Pairwise fun x y => x.1 < y.1 := by rw [List.take_append_drop]; exact su
      have := (List.pairwise_append.mp this).2.2 v hv u hdr
      omega
    · rintro ⟨l, hl, hs, _⟩
      have := hd u hdr l hl
      have := hs.1
      omega
end
end Bg

namespace Bg
open PySem L2
/-! ### trees by their depths -/
def dg (ds : List Int) (i : Nat) : Int := ds.getD i 0
theorem dg_of {ds : List Int} {i : Nat} {d : Int} (h : ds[i]? = some d) : dg ds i = d := by
  unfold dg
  rw [List.getD_eq_getElem?_getD, h]
  rfl
theorem dg_get {ds : List Int} {i : Nat} (h : i < ds.length) : ds[i]? = some (dg ds i) := by
  unfold dg
  rw [List.getD_eq_getElem?_getD, List.getElem?_eq_getElem h]
  rfl
/-- u is above k -/
def An (ds : List Int) (u k : Nat) : Prop := u < k ∧ k < ds.length ∧ ∀ j, u < j → j ≤ k → dg ds u < dg ds j
/-- the depths of a tree -/
structure Dv (ds : List Int) : Prop where
  one : dg ds 0 = 1
  two : ∀ i, i + 1 < ds.length → 2 ≤ dg ds (i + 1) ∧ dg ds (i + 1) ≤ dg ds i + 1
theorem Dv.pos {ds : List Int} (h : Dv ds) : ∀ i, i < ds.length → 1 ≤ dg ds i
  | 0, _ => by rw [h.one]; decide
  | i + 1, hi => by have := (h.two i hi).1; omega
theorem Dv.le {ds : List Int} (h : Dv ds) : ∀ i, i < ds.length → dg ds i ≤ i + 1
  | 0, _ => by rw [h.one]; decide
  | i + 1, hi => by
    have h1 := (h.two i hi).2
    have h2 := h.le i (by omega)
    omega
theorem An.trans {ds : List Int} {u v k : Nat} (a : An ds u v) (b : An ds v k) : An ds u k := by
  refine ⟨Nat.lt_trans a.1 b.1, b.2.1, fun j h1 h2 => ?_⟩
  by_cases c : j ≤ v
  · exact a.2.2 j h1 c
  · exact Int.lt_trans (a.2.2 v a.1 (Nat.le_refl _)) (b.2.2 j (by omega) h2)
theorem An.mid {ds : List Int} {u v k : Nat} (a : An ds u k) (b : An ds v k) (h : u < v) : An ds u v := ⟨h, Nat.lt_trans b.1 b.2.1, fun j h1 h2 => a.2.2 j h1 (Nat.le_trans h2 (Nat.le_of_lt b.1))⟩
theorem An.dlt {ds : List Int} {u k : Nat} (a : An ds u k) : dg ds u < dg ds k := a.2.2 k a.1 (Nat.le_refl _)
/-- u is straight above k -/
def Par (ds : List Int) (u k : Nat) : Prop := An ds u k ∧ dg ds u + 1 = dg ds k
/-- all above k: the one straight above, and all above that -/
theorem Par.all {ds : List Int} {u k : Nat} (p : Par ds u k) (w : Nat) : An ds w k ↔ w = u ∨ An ds w u := by
  constructor
  · intro a
    rcases Nat.lt_trichotomy w u with h | h | h
    · exact .inr (a.mid p.1 h)
    · exact .inl h
    · exfalso
      have h1 := (p.1.mid a h).dlt
      have h2 := a.dlt
      have h3 := p.2
      omega
  · rintro (rfl | a)
    · exact p.1
    · exact a.trans p.1
theorem Par.only {ds : List Int} {u w k : Nat} (p : Par ds u k) (q : Par ds w k) : w = u := by
  rcases (p.all w).mp q.1 with h | h
  · exact h
  · exfalso
    have h1 := h.dlt
    have h2 := p.2
    have h3 := q.2
    omega
/-- the uppers are right -/
def UpAt (ds : List Int) (k : Nat) : Option Int → Prop
  | some u => ∃ n : Nat, u = n ∧ Par ds n k
  | none => ∀ u, ¬ An ds u k
structure UpOk (ds : List Int) (us : List (Option Int)) : Prop where
  len : us.length = ds.length
  at_ : ∀ (k : Nat) (o : Option Int), us[k]? = some o → UpAt ds k o
/-- the line down to k -/
structure Line (ds : List Int) (k : Nat) (ln : List Int) : Prop where
  len : (ln.length : Int) = dg ds k
  at_ : ∀ (i : Nat) (m : Int), ln[i]? = some m → ∃ n : Nat, m = n ∧ dg ds n = (i : Int) + 1 ∧ (n = k ∨ An ds n k)
theorem Line.first {ds : List Int} (h : Dv ds) : Line ds 0 [0] := ⟨by rw [h.one]; rfl, fun i m e => by
  cases i with
  | zero => exact ⟨0, by simpa using e.symm, by rw [h.one]; rfl, .inl rfl⟩
  | succ i => simp at e⟩
theorem Line.next {ds : List Int} {k : Nat} {ln : List Int} (h : Dv ds) (l : Line ds k ln) (hk : k + 1 < ds.length) : Line ds (k + 1) (ln.take (dg ds (k + 1) - 1).toNat ++ [((k + 1 : Nat) : Int)]) := by
  have h2 := h.two k hk
  have hl := l.len
  refine ⟨?_, fun i m e => ?_⟩
  · rw [List.length_append, List.length_take, List.length_singleton]
    omega
  · by_cases c : i < (dg ds (k + 1) - 1).toNat
    · rw [List.getElem?_append_left (by rw [List.length_take]; omega), List.getElem?_take, if_pos c] at e
      obtain ⟨n, rfl, hd, hn⟩ := l.at_ i m e
      refine ⟨n, rfl, hd, .inr ⟨by rcases hn with rfl | a; omega; have := a.1; omega, hk, fun j h3 h4 => ?_⟩⟩
      by_cases cj : j = k + 1
      · rw [cj, hd]; omega
      · rcases hn with rfl | a
        · omega
        · exact a.2.2 j h3 (by omega)
    · have hlen : (ln.take (dg ds (k + 1) - 1).toNat).length = (dg ds (k + 1) - 1).toNat := by rw [List.length_take]; omega
      rw [List.getElem?_append_right (by omega), hlen] at e
      have hi : i - (dg ds (k + 1) - 1).toNat = 0 := by
        cases q : i - (dg ds (k + 1) - 1).toNat with
        | zero => rfl
        | succ z => rw [q] at e; simp at e
      rw [hi] at e
      exact ⟨k + 1, by simpa using e.symm, by omega, .inl rfl⟩
/-- its upper, read off the line -/
theorem Line.upper {ds : List Int} {k : Nat} {ln : List Int} {m : Int} (l : Line ds k ln) (hk : 1 < dg ds k) (hl : k < ds.length) (e : ln[(dg ds k - 2).toNat]? = some m) : UpAt ds k (some m) := by
  obtain ⟨n, rfl, hd, hn⟩ := l.at_ _ m e
  refine ⟨n, rfl, ?_, by omega⟩
  rcases hn with rfl | a
  · omega
  · exact a
theorem upAt_none {ds : List Int} {k : Nat} (h : Dv ds) (hk : ¬ 1 < dg ds k) : UpAt ds k none := fun u a => by
  have h1 := a.dlt
  have h2 := h.pos u (Nat.lt_trans a.1 a.2.1)
  omega
/-! ### ends -/
structure EndP (ds : List Int) (k e : Nat) : Prop where
  le : k ≤ e
  lt : e < ds.length
  in_ : ∀ j, k < j → j ≤ e → dg ds k < dg ds j
  out : e + 1 < ds.length → ¬ dg ds k < dg ds (e + 1)
theorem EndP.an {ds : List Int} {u e : Nat} (h : EndP ds u e) (k : Nat) : An ds u k ↔ u < k ∧ k ≤ e := by
  constructor
  · intro a
    refine ⟨a.1, ?_⟩
    rcases Nat.lt_or_ge e k with c | c
    · exact absurd (a.2.2 (e + 1) (by have := h.le; omega) (by omega)) (h.out (by have := a.2.1; omega))
    · exact c
  · rintro ⟨h1, h2⟩
    exact ⟨h1, Nat.lt_of_le_of_lt h2 h.lt, fun j a b => h.in_ j a (Nat.le_trans b h2)⟩
theorem EndP.only {ds : List Int} {u e f : Nat} (h : EndP ds u e) (g : EndP ds u f) : e = f := by
  rcases Nat.lt_trichotomy e f with c | c | c
  · exact absurd (g.in_ (e + 1) (by have := h.le; omega) (by omega)) (h.out (by have := g.lt; omega))
  · exact c
  · exact absurd (h.in_ (f + 1) (by have := g.le; omega) (by omega)) (g.out (by have := h.lt; omega))
theorem EndP.nest {ds : List Int} {u v e f : Nat} (h : EndP ds u e) (g : EndP ds v f) (c : u < v) (d : v ≤ e) : f ≤ e ∧ dg ds u < dg ds v := by
  have huv := h.in_ v c d
  refine ⟨?_, huv⟩
  rcases Nat.lt_or_ge e f with q | q
  · exfalso
    refine h.out (by have := g.lt; omega) (Int.lt_trans huv (g.in_ (e + 1) (by omega) (by omega)))
  · exact q
/-- the stretches of a tree -/
def IsS (ds : List Int) (x : S3) : Prop := ∃ k e : Nat, EndP ds k e ∧ x = ((k : Int), (e : Int), dg ds k)
theorem fam_of (ds : List Int) : Fam (IsS ds) := by
  refine ⟨?_, ?_⟩
  · rintro x ⟨k, e, h, rfl⟩
    have := h.le
    show (k : Int) ≤ e
    omega
  · rintro x y ⟨k, e, h, rfl⟩ ⟨l, f, g, rfl⟩ ⟨h1, h2⟩
    have h1 : (k : Int) < l := h1
    have h2 : (l : Int) ≤ e := h2
    have := h.nest g (by omega) (by omega)
    refine ⟨?_, this.2⟩
    show (f : Int) ≤ e
    omega
/-- beneath, by depths -/
def Bn (ds : List Int) (w : Bool) (u k : Nat) : Prop := An ds u k ∧ (w = true ∨ dg ds u + 1 = dg ds k)
theorem bn_s {ds : List Int} {w : Bool} {u k e f : Nat} (h : EndP ds u e) (g : EndP ds k f) : bn3 w ((u : Int), (e : Int), dg ds u) ((k : Int), (f : Int), dg ds k) ↔ Bn ds w u k := by
  unfold bn3 Bn sub3
  rw [h.an]
  show ((u : Int) < k ∧ (k : Int) ≤ e) ∧ _ ↔ _
  constructor
  · rintro ⟨⟨a, b⟩, c⟩
    exact ⟨⟨by omega, by omega⟩, c⟩
  · rintro ⟨⟨a, b⟩, c⟩
    exact ⟨⟨by omega, by omega⟩, c⟩
end Bg

namespace Bg
open PySem PySem.Spec PyProof.Rows L2
/-! ### all stands but two -/
def But2 (a b : Addr) (H H' : Hp) : Prop := ∀ c o, c ≠ a → c ≠ b → H c = some o → H' c = some o
theorem But2.refl (a b : Addr) (H : Hp) : But2 a b H H := fun _ _ _ _ h => h
theorem But2.trans {a b : Addr} {H H1 H2 : Hp} (x : But2 a b H H1) (y : But2 a b H1 H2) : But2 a b H H2 := fun c o n m h => y c o n m (x c o n m h)
theorem But2.of_same {a b : Addr} {H H' : Hp} (x : Same H H') : But2 a b H H' := fun c o _ _ h => x c o h
theorem But2.l {a b : Addr} {H H' : Hp} (x : But a H H') : But2 a b H H' := fun c o n _ h => x c o n h
theorem But2.r {a b : Addr} {H H' : Hp} (x : But b H H') : But2 a b H H' := fun c o _ n h => x c o n h
theorem same_of_but2 {a b : Addr} {H H1 H2 : Hp} (s : Same H H1) (n : H a = none) (m : H b = none) (x : But2 a b H1 H2) : Same H H2 := fun c o h => x c o (ne_of_none h n) (ne_of_none h m) (s c o h)
theorem TK.but2 {a b : Addr} {H H' : Hp} {xs : List V} {kv : List (Key × V)} (s : But2 a b H H') (h : H a = some (.lst xs)) (g : H b = some (.dK kv)) : TK H H' :=
  ⟨fun c ys hc => s c _ (ne_of hc h (by intro z; cases z)) (ne_of hc g (by intro z; cases z)) hc, fun c o ys hc => s c _ (ne_of hc h (by intro z; cases z)) (ne_of hc g (by intro z; cases z)) hc⟩
/-! ### last items -/
theorem paired_snoc_inv {α β : Type} {F : α → β → Prop} {b : β} : ∀ {l : List α} {m : List β}, Paired F l (m ++ [b]) → ∃ l' a, l = l' ++ [a] ∧ Paired F l' m ∧ F a b
  | [], [], h => nomatch h
  | [], _ :: _, h => nomatch h
  | a :: [], [], .cons h .nil => ⟨[], a, rfl, .nil, h⟩
  | _ :: _ :: _, [], .cons h t => nomatch t
  | a :: l, c :: m, .cons h t => by
    obtain ⟨l', x, e, p, q⟩ := paired_snoc_inv (l := l) (m := m) t
    exact ⟨a :: l', x, by rw [e]; rfl, .cons h p, q⟩
theorem last_get {α : Type} (l : List α) (a : α) : (l ++ [a])[(l ++ [a]).length - 1]? = some a := by simp
/-! ### a for over enumerate, two names -/
theorem for_enum {K : PySem.W.Frag} {a : Addr} {xs : List V} {i j : Nat} {tb : TS} {D : Ends} {σ : L2.St} {H : Hp} (Pv : Nat → L2.St → Hp → Prop) (h0 : Pv 0 σ H) (hl : ∀ n σ H, n ≤ xs.length → Pv n σ H → SqL K H a xs)
    (hs : ∀ n x T σ H, xs[n]? = some x → Pv n σ H → H T = none → tb { D with nx := Pv (n + 1), ct := Pv (n + 1), bk := D.nx } ((σ.set i (some (.int n))).set j (some x)) (upd H T (.tup [.int n, x]))) (hd : ∀ σ H, Pv xs.length σ H → D.nx σ H) :
    ∃ W : Nat → Nat → L2.St → Hp → Prop, (∃ m, W 0 m σ H) ∧ ∀ n m σ H, W n m σ H →
      ((Ite K a).stop n H ∧ D.nx σ H) ∨ ((Ite K a).go n H ∧ ∃ N : L2.St → Hp → Prop, (∀ σ' H', N σ' H' → ∃ m', m' < m ∧ W (n + 1) m' σ' H') ∧
        ∀ x H', (Ite K a).yld n H x H' → gTup K 2 (gCons (gName i) (gCons (gName j) gNil)) x σ H' fun σ2 H2 => tb { D with nx := N, ct := N, bk := D.nx } σ2 H2) :=
  for_it (walk_enum (K := K) (a := a) (xs := xs)) Pv h0 hl (fun n x σ H H' hn p y => by
    obtain ⟨T, u, v, rfl, hT, rfl, hu, hv⟩ := y
    cases Option.some.inj hu
    exact ⟨T, [.int n, v], rfl, SqT.of upd_same, rfl, _, _, rfl, _, _, rfl, rfl, hs n v T σ H hv p hT⟩) hd
/-! ### cuts -/
theorem cutV_to (xs : List V) (j : Int) (h : 0 ≤ j) : cutV xs none (some j) = xs.take j.toNat := by
  obtain ⟨n, rfl⟩ := Int.eq_ofNat_of_zero_le h
  unfold cutV
  rw [HT.sIx_none, HT.sIx_nat, Int.toNat_natCast, List.drop_zero, Nat.sub_zero]
  by_cases c : n ≤ xs.length
  · rw [Nat.min_eq_left c]
  · rw [Nat.min_eq_right (by omega), List.take_of_length_le (Nat.le_refl _), List.take_of_length_le (by omega)]
theorem cutV_from (xs : List V) (j : Int) (h : 0 ≤ j) : cutV xs (some j) none = xs.drop j.toNat := by
  obtain ⟨n, rfl⟩ := Int.eq_ofNat_of_zero_le h
  unfold cutV
  rw [HT.sIx_none, HT.sIx_nat, Int.toNat_natCast]
  by_cases c : n ≤ xs.length
  · rw [Nat.min_eq_left c, List.take_of_length_le (by rw [List.length_drop]; omega)]
  · rw [Nat.min_eq_right (by omega), List.drop_eq_nil_of_le (Nat.le_refl _), List.drop_eq_nil_of_le (by omega), List.take_nil]
/-! ### depths as they are drawn -/
def Dvp (ds : List Int) (ab : Int) : Prop := (ds = [] ∧ ab = 0) ∨ (ds ≠ [] ∧ Dv ds ∧ ab = dg ds (ds.length - 1))
theorem dg_app_l {ds es : List Int} {i : Nat} (h : i < ds.length) : dg (ds ++ es) i = dg ds i := by
  unfold dg
  rw [List.getD_eq_getElem?_getD, List.getD_eq_getElem?_getD, List.getElem?_append_left h]
theorem dg_app_r (ds : List Int) (d : Int) : dg (ds ++ [d]) ds.length = d := by
  unfold dg
  rw [List.getD_eq_getElem?_getD, List.getElem?_append_right (Nat.le_refl _)]
  simp
theorem Dvp.nil : Dvp [] 0 := .inl ⟨rfl, rfl⟩
theorem Dvp.nonneg {ds : List Int} {ab : Int} (h : Dvp ds ab) : 0 ≤ ab := by
  rcases h with ⟨_, rfl⟩ | ⟨hn, hd, rfl⟩
  · decide
  · have := hd.pos (ds.length - 1) (by have := List.length_pos_iff.mpr hn; omega)
    omega
theorem Dvp.zero {ds : List Int} {ab : Int} (h : Dvp ds ab) (e : ab = 0) : ds = [] := by
  rcases h with ⟨h, _⟩ | ⟨hn, hd, rfl⟩
  · exact h
  · have := hd.pos (ds.length - 1) (by have := List.length_pos_iff.mpr hn; omega)
    omega
theorem Dvp.snoc {ds : List Int} {ab d : Int} (h : Dvp ds ab) (h0 : ab = 0 → d = 1) (h1 : 0 < ab → 2 ≤ d ∧ d ≤ ab + 1) : Dvp (ds ++ [d]) d := by
  refine .inr ⟨by simp, ?_, by rw [List.length_append, List.length_singleton, Nat.add_sub_cancel, dg_app_r]⟩
  rcases h with ⟨rfl, e⟩ | ⟨hn, hd, e⟩
  · refine ⟨?_, fun i hi => by simp at hi⟩
    show d = 1
    exact h0 e
  · have hl := List.length_pos_iff.mpr hn
    refine ⟨by rw [dg_app_l hl]; exact hd.one, fun i hi => ?_⟩
    rw [List.length_append, List.length_singleton] at hi
    by_cases c : i + 1 < ds.length
    · rw [dg_app_l c, dg_app_l (by omega)]
      exact hd.two i c
    · have ei : i + 1 = ds.length := by omega
      rw [ei, dg_app_r, dg_app_l (by omega)]
      have hp := hd.pos (ds.length - 1) (by omega)
      have := h1 (by omega)
      rw [e, show ds.length - 1 = i by omega] at this
      exact this
theorem Dvp.dv {ds : List Int} {ab : Int} (h : Dvp ds ab) (hn : 1 ≤ ds.length) : Dv ds := by
  rcases h with ⟨rfl, _⟩ | ⟨_, hd, _⟩
  · simp at hn
  · exact hd
/-! ### dicts of pairs -/
def has2 (kv : List (List Key × V)) (u k : Int) : Prop := (valV kv [Sum.inl u, Sum.inl k]).isSome = true
def put2 (kv : List (List Key × V)) (u k : Int) : List (List Key × V) := putK kv [Sum.inl u, Sum.inl k] (.bl true)
theorem has2_put (kv : List (List Key × V)) (u k a b : Int) : has2 (put2 kv a b) u k ↔ (u = a ∧ k = b) ∨ has2 kv u k := by
  unfold has2 put2
  rw [valV_put]
  by_cases e : u = a ∧ k = b
  · obtain ⟨rfl, rfl⟩ := e; simp
  · have : ¬ ([Sum.inl u, Sum.inl k] : List Key) = [Sum.inl a, Sum.inl b] := fun z => e (by
      injection z with z1 z2
      injection z2 with z3 _
      exact ⟨Sum.inl.inj z1, Sum.inl.inj z3⟩)
    rw [if_neg this]
    simp [e]
theorem put2_len (kv : List (List Key × V)) (u k : Int) : (put2 kv u k).length ≤ kv.length + 1 := by
  unfold put2 putK
  split <;> simp
theorem has2_nil (u k : Int) : ¬ has2 [] u k := by
  unfold has2
  simp [valV]
/-- the pairs of a tree, the second below n -/
def Prs (ds : List Int) (w : Bool) (n : Nat) (kv : List (List Key × V)) : Prop := ∀ u k : Int, has2 kv u k ↔ ∃ a b : Nat, u = a ∧ k = b ∧ b < n ∧ Bn ds w a b
def om : Option Int → Nat
  | none => 0
  | some h => h.toNat + 1
/-- walked up to o -/
def Dn (a : Nat) : Option Int → Prop
  | none => True
  | some h => h < a
structure PWalk (ds : List Int) (w : Bool) (i : Nat) (o : Option Int) (kv : List (List Key × V)) : Prop where
  at_ : ∀ h, o = some h → ∃ n : Nat, h = n ∧ Bn ds w n i
  all : ∀ u k : Int, has2 kv u k ↔ (∃ a b : Nat, u = a ∧ k = b ∧ b < i ∧ Bn ds w a b) ∨ (∃ a : Nat, u = a ∧ k = i ∧ Bn ds w a i ∧ Dn a o)
theorem PWalk.start {ds : List Int} {w : Bool} {i : Nat} {o : Option Int} {kv : List (List Key × V)} (h : Prs ds w i kv) (u : UpAt ds i o) : PWalk ds w i o kv := by
  cases o with
  | none => exact ⟨fun _ q => (nomatch q), fun a b => by
      rw [h a b]
      constructor
      · exact .inl
      · rintro (q | ⟨c, _, _, q, _⟩)
        · exact q
        · exact absurd q.1 (u c)⟩
  | some m =>
    obtain ⟨n, rfl, p⟩ := u
    refine ⟨fun _ q => ⟨n, (Option.some.inj q).symm, p.1, .inr p.2⟩, fun a b => ?_⟩
    rw [h a b]
    constructor
    · exact .inl
    · rintro (q | ⟨c, _, _, q, d⟩)
      · exact q
      · have d : (n : Int) < c := d
        rcases (p.all c).mp q.1 with e | e
        · omega
        · have := e.1
          omega
theorem PWalk.end_ {ds : List Int} {w : Bool} {i : Nat} {kv : List (List Key × V)} (h : PWalk ds w i none kv) : Prs ds w (i + 1) kv := by
  intro a b
  rw [h.all a b]
  constructor
  · rintro (⟨x, y, e1, e2, l, q⟩ | ⟨x, e1, e2, q, _⟩)
    · exact ⟨x, y, e1, e2, by omega, q⟩
    · exact ⟨x, i, e1, e2, by omega, q⟩
  · rintro ⟨x, y, e1, e2, l, q⟩
    by_cases c : y < i
    · exact .inl ⟨x, y, e1, e2, c, q⟩
    · have : y = i := by omega
      subst this
      exact .inr ⟨x, e1, e2, q, trivial⟩
theorem PWalk.step {ds : List Int} {w : Bool} {i : Nat} {n : Nat} {o : Option Int} {kv : List (List Key × V)} (h : PWalk ds w i (some (n : Int)) kv) (ho : w = true → UpAt ds n o) (hs : w = false → o = none) : PWalk ds w i o (put2 kv n i) := by
  obtain ⟨n', en, bn⟩ := h.at_ _ rfl
  have en : n = n' := by omega
  subst en
  refine ⟨fun m e => ?_, fun a b => ?_⟩
  · cases w with
    | false => rw [hs rfl] at e; cases e
    | true =>
      subst e
      obtain ⟨x, rfl, p⟩ := ho rfl
      exact ⟨x, rfl, p.1.trans bn.1, .inl rfl⟩
  · rw [has2_put, h.all a b]
    have key : ∀ c : Nat, Bn ds w c i → (Dn c o ↔ c = n ∨ (n : Int) < c) := by
      intro c q
      cases w with
      | false =>
        rw [hs rfl]
        have p1 : Par ds c i := ⟨q.1, by simpa using q.2⟩
        have p2 : Par ds n i := ⟨bn.1, by simpa using bn.2⟩
        simp [Dn, p2.only p1]
      | true =>
        have hu := ho rfl
        rcases Nat.lt_trichotomy c n with l | l | l
        · have acn : An ds c n := q.1.mid bn.1 l
          cases o with
          | none => exact absurd acn (hu c)
          | some m =>
            obtain ⟨x, rfl, p⟩ := hu
            show (x : Int) < c ↔ _
            rcases (p.all c).mp acn with e | e
            · omega
            · have := e.1; omega
        · subst l
          cases o with
          | none => simp [Dn]
          | some m =>
            obtain ⟨x, rfl, p⟩ := hu
            have := p.1.1
            show (x : Int) < c ↔ _
            omega
        · cases o with
          | none => simp [Dn]; omega
          | some m =>
            obtain ⟨x, rfl, p⟩ := hu
            have := p.1.1
            show (x : Int) < c ↔ _
            omega
    constructor
    · rintro (⟨rfl, rfl⟩ | q | ⟨x, e1, e2, q, d⟩)
      · exact .inr ⟨n, rfl, rfl, bn, (key n bn).mpr (.inl rfl)⟩
      · exact .inl q
      · exact .inr ⟨x, e1, e2, q, (key x q).mpr (.inr d)⟩
    · rintro (q | ⟨x, e1, e2, q, d⟩)
      · exact .inr (.inl q)
      · rcases (key x q).mp d with e | e
        · subst e
          exact .inl ⟨e1, e2⟩
        · exact .inr (.inr ⟨x, e1, e2, q, e⟩)
/-! ### a chain -/
def chain80 (n : Nat) : List Int := (List.range n).map fun (k : Nat) => if (80 : Int) < (k : Int) + 1 then 80 else (k : Int) + 1
theorem chain80_len (n : Nat) : (chain80 n).length = n := by simp [chain80]
theorem chain80_snoc (n : Nat) : chain80 (n + 1) = chain80 n ++ [if (80 : Int) < (n : Int) + 1 then 80 else (n : Int) + 1] := by
  unfold chain80
  rw [List.range_succ, List.map_append]
  rfl
theorem chain80_dg (n i : Nat) (h : i < n) : dg (chain80 n) i = if (80 : Int) < (i : Int) + 1 then 80 else (i : Int) + 1 := by
  refine dg_of ?_
  unfold chain80
  rw [List.getElem?_map, List.getElem?_range h]
  rfl
theorem chain80_dv (n : Nat) (h : 1 ≤ n) : Dv (chain80 n) := by
  refine ⟨by rw [chain80_dg n 0 h]; rfl, fun i hi => ?_⟩
  rw [chain80_len] at hi
  rw [chain80_dg n (i + 1) hi, chain80_dg n i (by omega)]
  constructor <;> split <;> (try split) <;> omega
/-! ### all stretches of a tree -/
structure AllS (ds : List Int) (ss : List S3) : Prop where
  len : ss.length = ds.length
  at_ : ∀ (k : Nat) (x : S3), ss[k]? = some x → ∃ e, EndP ds k e ∧ x = ((k : Int), (e : Int), dg ds k)
theorem AllS.isS {ds : List Int} {ss : List S3} (h : AllS ds ss) : ∀ x ∈ ss, IsS ds x := fun x hx => by
  obtain ⟨k, hk⟩ := List.getElem?_of_mem hx
  obtain ⟨e, he, rfl⟩ := h.at_ k x hk
  exact ⟨k, e, he, rfl⟩
theorem AllS.srt {ds : List Int} {ss : List S3} (h : AllS ds ss) : Srt ss := by
  unfold Srt
  rw [List.pairwise_iff_getElem]
  intro i j hi hj hij
  obtain ⟨e, _, h1⟩ := h.at_ i _ (List.getElem?_eq_getElem hi)
  obtain ⟨f, _, h2⟩ := h.at_ j _ (List.getElem?_eq_getElem hj)
  rw [h1, h2]
  show (i : Int) < j
  omega
theorem isS_nonneg {ds : List Int} {x : S3} (h : IsS ds x) : 0 ≤ x.1 := by
  obtain ⟨k, e, _, rfl⟩ := h
  show (0 : Int) ≤ k
  omega
theorem prs_bn {ds : List Int} {w : Bool} {kv : List (List Key × V)} (h : Prs ds w ds.length kv) {u l : S3} (hu : IsS ds u) (hl : IsS ds l) : has2 kv u.1 l.1 ↔ bn3 w u l := by
  obtain ⟨a, e, he, rfl⟩ := hu
  obtain ⟨b, f, hf, rfl⟩ := hl
  rw [h, bn_s he hf]
  constructor
  · rintro ⟨x, y, e1, e2, _, q⟩
    have e1 : (a : Int) = x := e1
    have e2 : (b : Int) = y := e2
    have : a = x := by omega
    have : b = y := by omega
    subst_vars
    exact q
  · intro q
    exact ⟨a, b, rfl, rfl, q.1.2.1, q⟩
theorem any_isEmpty {α : Type} (p : α → Bool) (l : List α) : (l.filter p).isEmpty = !l.any p := by
  induction l with
  | nil => rfl
  | cons a l ih =>
    rw [List.filter_cons, List.any_cons]
    cases h : p a with
    | true => rfl
    | false => simpa using ih
/-! ### the fields of Open -/
def opF (w : Str) (sl hd : Addr) : List (Str × V) := [("link", .str w), ("stack", .ref sl), ("having", .ref hd)]
theorem opF_link (w : Str) (sl hd : Addr) : (opF w sl hd).lookup ("link" : Str) = some (.str w) := rfl
theorem opF_stack (w : Str) (sl hd : Addr) : (opF w sl hd).lookup ("stack" : Str) = some (.ref sl) := rfl
theorem opF_having (w : Str) (sl hd : Addr) : (opF w sl hd).lookup ("having" : Str) = some (.ref hd) := rfl
theorem opF_put (w : Str) (sl hd : Addr) : putF "having" (.ref hd) (putF "stack" (.ref sl) (putF "link" (.str w) [])) = opF w sl hd := rfl
end Bg

/-! enumerate(t) of a tuple t: the layer's own rule for lists, turned to tuples -/
namespace PySem
open Sem (wp)
/-- the iterator of the tuple at t; the enumerate object over the iterator at i -/
def tIt (t : Addr) : Obj := { cls := .type "tuple_iterator", data := .fields #[.ref t, .int 0 0] }
def eOb (i : Addr) : Obj := { cls := .type "enumerate", data := .fields #[.none, .bool false, .ref i, rawInt 0, .none, .none] }
theorem meets_enumT (t : Addr) (its : Array Value) :
    Meets (Builtin.«enumerate.__new__» ⟨[.type "enumerate", .ref t], []⟩) (fun _ R s => s.heap.IsTuple t its ∧ R (.ok (.ret (.ref (s.heap.push (tIt t)).objs.size))) { s with heap := (s.heap.push (tIt t)).push (eOb s.heap.objs.size) }) :=
  .of_wp fun prog w A R s h => by
    obtain ⟨hp, g, d, tk, os⟩ := s
    obtain ⟨ht, h⟩ := h
    have hsub := sub_enumerate
    have it1 : ∀ {A' : Around} {E' : Value → Shared → Prop} {Q' : Value → Shared → Prop}, Q' (.ref hp.objs.size) ⟨hp.push (tIt t), g, d, tk, os⟩ → wpAny (model prog w) A' (pyIter (.ref t)) Q' E' ⟨hp, g, d, tk, os⟩ := fun q => wpAny_pyIter_tuple (s := ⟨hp, g, d, tk, os⟩) ht q
    wp_walk using it1
    refine wpAny_stack_any fun st => wpAny_pure ?_
    split
    · rename_i c _ _ _ _ _
      cases (c == Value.type "enumerate") <;> (wp_walk using it1; exact ⟨_, rfl, h⟩)
    · wp_walk using it1
      exact ⟨_, rfl, h⟩
theorem call_enumT {prog : Program} {w : World} {A : Around} {E : Value → Shared → Prop} {s : Shared} {t : Addr} {its : Array Value} {Q : Value → Shared → Prop} (ht : s.heap.IsTuple t its)
    (h : ∀ h', IsEnum h' (s.heap.objs.size + 1) s.heap.objs.size 0 .none → h'.IsTupleIter s.heap.objs.size t 0 → (∀ b o, s.heap.get? b = some o → h'.get? b = some o) → Q (.ref (s.heap.objs.size + 1)) { s with heap := h' }) :
    wpAny (model prog w) A (call (.type "enumerate") [.ref t]) Q E s := by
  refine callType_new F.called_enumerate (by decide) (F.typeCall_enumerate_1 _) (F.newCall_enumerate_1 _) (fun obj => F.args_object_init_2 obj _) F.entry_enumerate_new (meets_enumT t its) ⟨ht, ?_⟩
  have hz : (s.heap.push (tIt t)).objs.size = s.heap.objs.size + 1 := Heap.size_push ..
  show _ ∧ _
  rw [hz]
  have he : IsEnum ((s.heap.push (tIt t)).push (eOb s.heap.objs.size)) (s.heap.objs.size + 1) s.heap.objs.size 0 .none := by
    have q := Heap.get?_push_size (s.heap.push (tIt t)) (o := eOb s.heap.objs.size) rfl
    rw [hz] at q
    exact q
  exact ⟨⟨_, he, rfl⟩, h _ he ⟨_, Heap.get?_push_of_some _ (Heap.get?_push_size _ rfl), rfl, rfl⟩ fun b o x => Heap.get?_push_of_some _ (Heap.get?_push_of_some _ x)⟩
end PySem
namespace L2
open PySem PySem.Spec PyProof.Rows
/-- the tuple at a, each item in a new pair -/
def IteT (K : PySem.W.Frag) (a : Addr) : It :=
  ⟨fun i H => ∃ (xs : List V) (x : V), SqT K H a xs ∧ xs[i]? = some x, fun i H v H' => ∃ T x, v = .ref T ∧ H T = none ∧ H' = upd H T (.tup [.int (i : Nat), x]) ∧ ∀ xs, SqT K H a xs → xs[i]? = some x, fun i H => ∃ xs : List V, SqT K H a xs ∧ xs.length = i⟩
theorem turn_enumT {P : Program} {w : World} {K : PySem.W.Frag} {elts : List Expr} {kk : Nat} {tpos : Pos} (a e it : Addr) (hae : a ≠ e) (hai : a ≠ it) :
    Turn P w K (.Tuple elts kk tpos) (IteT K a) [e, it] e (fun i h => (∃ old, IsEnum h e it ((i : Nat) : Int) old) ∧ h.IsTupleIter it a i ∧ e ≠ it) where
  mem := by simp
  obj := fun i h st b hb => by
    obtain ⟨⟨old, he⟩, ⟨ob, ho, _, hd⟩, _⟩ := st
    have hb : b = e ∨ b = it := by simpa using hb
    rcases hb with rfl | rfl
    · exact ⟨_, he, fun v q => nomatch q⟩
    · exact ⟨ob, ho, fun v q => by rw [hd] at q; cases q⟩
  keep := fun i h h' st k => by
    obtain ⟨⟨old, he⟩, hi, hne⟩ := st
    exact ⟨⟨old, k e (by simp) _ he⟩, hi.at fun o q => k it (by simp) o q, hne⟩
  item := by
    intro X hP hw hK hc i pins s σ H E I hf st hg
    subst hP hw hK
    obtain ⟨⟨old, he⟩, hit, hne⟩ := st
    obtain ⟨xs, x, hq, hx⟩ := hg
    obtain ⟨its, rv, p, hz⟩ := I.tuple hq
    obtain ⟨u, hu, ru⟩ := rv.get hx
    have p' : s.heap.IsTuple a its.toArray := p
    have hel : e < s.heap.objs.size := Heap.lt_size he
    have hil : it < s.heap.objs.size := by obtain ⟨_, q, _⟩ := hit; exact Heap.lt_size q
    have hin : i < its.toArray.size := by simpa using (List.getElem?_eq_some_iff.mp hu).1
    refine wpAny_pyNext_enum_itemC (Draws.tuple (A := X.A.in1) (I.ok.hd hc) it a hai its.toArray) he ⟨hit, p'⟩ hin hne (by simp [hne, Ne.symm hae]) fun y h' tk hy ho hs' hT hsz hk => ?_
    obtain ⟨hit', _⟩ := hs'
    obtain rfl : u = y := by
      have q : its.toArray[i]? = some u := by simpa using hu
      exact Option.some.inj (q.symm.trans hy)
    refine ⟨_, rfl, wpAny_letOwnedTupleGo_enum (s := { s with heap := h', toks := tk + 1 }) ho fun h2 he' sb => ?_⟩
    have hT2 : h2.get? s.heap.objs.size = some { cls := .type "tuple", data := .seq #[.int i tk, u] } := (sb.2 _ (Nat.ne_of_gt hel)).trans hT
    have new : ObjOk X.prog X.w (upd H s.heap.objs.size (.tup [.int (i : Nat), x])) h2 s.heap.objs.size (.tup [.int (i : Nat), x]) := ⟨by show 2 ≤ sizeLine; decide, [.int i tk, u], .cons ⟨_, rfl⟩ (.cons ru .nil), ⟨_, hT2, rfl, _, rfl⟩⟩
    have J : Inv X pins σ (upd H s.heap.objs.size (.tup [.int (i : Nat), x])) { s with heap := h2, toks := tk + 1 } :=
      I.turnedNew (ch := [e, it]) (fun b ob hb q => (sb.2 b (fun z => hb (by simp [z]))).trans (hk b ob (fun z => hb (by simp [z])) (fun z => hb (by simp [z])) q)) hf (Nat.le_refl _) new
    refine ⟨.ref s.heap.objs.size, _, J, rfl, ⟨_, x, rfl, I.hok.fresh (Nat.le_refl _), rfl, fun ys hy => by rw [I.tuple_inj hy hq]; exact hx⟩, ⟨⟨u, ?_⟩, hit'.at fun o q => (sb.2 it (Ne.symm hne)).trans q, hne⟩, fun b hb => ?_⟩
    · rw [show ((i + 1 : Nat) : Int) = (i : Int) + 1 by omega]
      exact he'
    · have hbl : b < s.heap.objs.size := by
        have hb : b = e ∨ b = it := by simpa using hb
        rcases hb with rfl | rfl
        · exact hel
        · exact hil
      rw [upd_ne (Nat.ne_of_lt hbl)]
      exact (hf b hb).1
  done := by
    intro X hP hw hK hc i pins s σ H E I hf st hg
    subst hP hw hK
    obtain ⟨⟨old, he⟩, hit, hne⟩ := st
    obtain ⟨xs, hq, hx⟩ := hg
    obtain ⟨its, rv, p, hz⟩ := I.tuple hq
    have p' : s.heap.IsTuple a its.toArray := p
    have hl : its.toArray.size = i := by
      rw [List.size_toArray, ← rv.length]
      exact hx
    obtain ⟨f0, f1, f2, f3, f4, f5⟩ := hf it (by simp)
    have st2 : s.heap.IsTupleIter it a its.toArray.size ∧ s.heap.IsTuple a its.toArray := ⟨by rw [hl]; exact hit, p'⟩
    exact wpAny_pyNext_enum_endD (Draws.tuple (A := X.A.in1) (I.ok.hd hc) it a hai its.toArray) he st2 fun h' eb => ⟨rfl, I.turned (t' := s.toks) (fun b o hb q => eb b o hb q) f0 f1 f3 f4 f5⟩
  self := fun A i s Q E st h => by
    obtain ⟨⟨_, he⟩, _⟩ := st
    exact wpAny_pyIter_enum he h
def iEnumT (K : PySem.W.Frag) (ta : TA) : TI := fun σ H R => ta σ H fun vs H1 => ∃ a xs, vs = [.ref a] ∧ SqT K H1 a xs ∧ R (IteT K a) H1
theorem pi_enumT {X : Cx} {e : Expr} {ta : TA} {p pos tpos : Pos} {elts : List Expr} {kk : Nat} (hg : Gl X "enumerate") (hm : X.mg "enumerate" = none) (ha : PA X [e] ta) (hs : starEach [e] X.env = [(false, eval e X.env)] := by rfl) :
    PI X (.Tuple elts kk tpos) (.Call (.Name "enumerate" p) [e] [] pos) (iEnumT X.K ta) := by
  refine ⟨fun pins s σ H R I h => ?_⟩
  refine Call_ (ld_blt I hg hm boot_enumerate (PyProof.Rows.callWith_type1 (thn (ha.run pos pins s σ H _ I h) fun us s1 ⟨vs, H1, I1, r1, q1⟩ => ?_) hs rfl))
  obtain ⟨a, xs, rfl, hq, q⟩ := q1
  cases r1 with
  | cons r rr =>
    cases rr
    cases r
    obtain ⟨its, rv, p', hz⟩ := I1.tuple hq
    have hal : a < s1.heap.objs.size := by
      obtain ⟨o, ho, _⟩ := p'
      exact Heap.lt_size ho
    refine call_enumT (t := a) (its := its.toArray) p' fun h' he hit hk => wpAny_pyIter_enum he ?_
    have J : Inv X pins σ H1 { s1 with heap := h' } := I1.kept (t' := s1.toks) hk
    refine ⟨s1.heap.objs.size + 1, [s1.heap.objs.size + 1, s1.heap.objs.size], _, _, H1, rfl, J, turn_enumT a (s1.heap.objs.size + 1) s1.heap.objs.size (Nat.ne_of_lt (Nat.lt_succ_of_lt hal)) (Nat.ne_of_lt hal), ⟨⟨.none, he⟩, hit, Nat.succ_ne_self _⟩, fun b hb => ?_, q⟩
    have hle : s1.heap.objs.size ≤ b := by
      have hb : b = s1.heap.objs.size + 1 ∨ b = s1.heap.objs.size := by simpa using hb
      rcases hb with rfl | rfl
      · exact Nat.le_succ _
      · exact Nat.le_refl _
    exact I1.fpOk hle (I1.hok.fresh hle)
theorem walk_enumT {K : PySem.W.Frag} {a : Addr} {xs : List V} : Walk (IteT K a) xs.length (fun H => SqT K H a xs) (YPair (fun i => some (.int (i : Nat))) (fun i => xs[i]?)) where
  goes := fun i H hi h => ⟨xs, xs[i], h, List.getElem?_eq_getElem hi⟩
  stops := fun H h => ⟨xs, h, rfl⟩
  yields := fun i H v H' hi h y => by
    obtain ⟨T, x, rfl, hT, rfl, hx⟩ := y
    exact ⟨T, _, x, rfl, hT, rfl, rfl, hx xs h⟩
end L2
namespace Bg
open PySem PySem.Spec PyProof.Rows L2
/-- a comprehension over enumerate of a tuple | a list, two names -/
theorem lc_enumT {K : PySem.W.Frag} {a : Addr} {xs : List V} {i j : Nat} {tt : TT} {te : TE} {vs : List Nat} {σ : L2.St} {H1 : Hp} {D : Addr} {Qd : Hp → Prop} (Pv : Nat → Hp → Prop) (h0 : Pv 0 (upd H1 D (.lst []))) (hl : ∀ n H, n ≤ xs.length → Pv n H → SqT K H a xs)
    (hs : ∀ n x T H, xs[n]? = some x → Pv n H → H T = none → wipe (((wipe σ vs).set i (some (.int n))).set j (some x)) vs = wipe σ vs ∧ tt (((wipe σ vs).set i (some (.int n))).set j (some x)) (upd H T (.tup [.int n, x])) fun b H3 =>
      if b = true then te (((wipe σ vs).set i (some (.int n))).set j (some x)) H3 fun y H4 => ∃ acc, H4 D = some (.lst acc) ∧ acc.length < sizeLine ∧ Pv (n + 1) (upd H4 D (.lst (acc ++ [y]))) else Pv (n + 1) H3) (hd : ∀ H, Pv xs.length H → Qd H) :
    ∃ W : Nat → Nat → Hp → Prop, (∃ m, W 0 m (upd H1 D (.lst []))) ∧ ∀ n m H, W n m H →
      ((IteT K a).stop n H ∧ Qd H) ∨ ((IteT K a).go n H ∧ ∃ Nx : Hp → Prop, (∀ H', Nx H' → ∃ m', m' < m ∧ W (n + 1) m' H') ∧ ∀ x H', (IteT K a).yld n H x H' → gTup K 2 (gCons (gName i) (gCons (gName j) gNil)) x (wipe σ vs) H' fun σ2 H2 => wipe σ2 vs = wipe σ vs ∧ tt σ2 H2 fun b H3 =>
        if b = true then te σ2 H3 fun y H4 => ∃ acc, H4 D = some (.lst acc) ∧ acc.length < sizeLine ∧ Nx (upd H4 D (.lst (acc ++ [y]))) else Nx H3) :=
  lc_it (walk_enumT (K := K) (a := a) (xs := xs)) Pv h0 hl (fun n x H H' hn p y => by
    obtain ⟨T, u, v, rfl, hT, rfl, hu, hv⟩ := y
    cases Option.some.inj hu
    exact ⟨T, [.int n, v], rfl, SqT.of upd_same, rfl, _, _, rfl, _, _, rfl, rfl, hs n v T H hv p hT⟩) hd
end Bg

namespace Bg
open PySem PySem.Spec PyProof.Rows L2
/-! ### labels are plain texts -/
theorem label_len {z : Str} (h : labelB z = true) : 1 ≤ z.length ∧ z.length ≤ 8 := by
  unfold labelB at h
  simp only [Bool.and_eq_true, decide_eq_true_iff] at h
  exact h.1
theorem label_ok {z : Str} (h : labelB z = true) : PyData.strOk z = true := by
  unfold labelB at h
  simp only [Bool.and_eq_true, decide_eq_true_iff] at h
  have h2 := h.2
  unfold PyData.strOk
  rw [Array.all_eq_true']
  intro c hc
  have := List.all_eq_true.mp h2 c (by simpa using hc)
  unfold isLow at this
  simp only [Bool.and_eq_true, decide_eq_true_iff] at this
  exact decide_eq_true (by omega)
theorem gd_row {x : Str × Int} (h : labelB x.1 = true) : Gd 1 (eRow x) := by
  have := label_ok h
  refine ⟨?_, by show _ ≤ 1; simp [eRow, PyData.depth, PyData.depthAll]⟩
  simp [eRow, PyData.canLay0, PyData.canLayAll0, this]
/-! ### within -/
def withinV : V → Int → Int → Bool
  | .int i, lo, hi => decide (lo ≤ i) && decide (i ≤ hi)
  | _, _, _ => false
theorem Knd.int_of {K : PySem.W.Frag} {H : Hp} {v : V} {t : String} (h : Knd K H v t) (e : t = "int") : ∃ i, v = .int i := by
  subst e
  obtain ⟨h, _⟩ := h
  generalize ht : Value.type "int" = tv at h
  cases h with
  | base b =>
    cases b with
    | int x => exact ⟨x, rfl⟩
    | _ => first | (injection ht with q; exact absurd q (by decide)) | cases ht
  | _ => first | (injection ht with q; exact absurd q (by decide)) | cases ht
theorem Knd.no_int {K : PySem.W.Frag} {H : Hp} {v : V} {t : String} (h : Knd K H v t) (e : t ≠ "int") (lo hi : Int) : withinV v lo hi = false := by
  cases v with
  | int z =>
    obtain ⟨h, _⟩ := h
    generalize ht : Value.type t = tv at h
    cases h with
    | base b =>
      cases b with
      | int x => injection ht with q; exact absurd q e
  | _ => rfl
theorem ty_sqT {K : PySem.W.Frag} {H : Hp} {a : Addr} {xs : List V} (h : SqT K H a xs) : TyX K H (.ref a) (.type "tuple") := by
  rcases h with (h | ⟨o, h⟩) | h
  · exact .base (.tup h)
  · exact .fTuple h
  · obtain ⟨o, its, n, h1, h2, _⟩ := h
    exact .kTuple h1 h2
theorem ty_sqL {K : PySem.W.Frag} {H : Hp} {a : Addr} {xs : List V} (h : SqL K H a xs) : TyX K H (.ref a) (.type "list") := by
  rcases h with (h | ⟨o, h⟩) | h
  · exact .base (.lst h)
  · exact .base (.frz h)
  · obtain ⟨o, its, n, h1, h2, _⟩ := h
    exact .kList h1 h2
/-! ### ends -/
structure EndsOk (ds : List Int) (es : List Int) : Prop where
  len : es.length = ds.length
  at_ : ∀ (k : Nat) (e : Int), es[k]? = some e → ∃ n : Nat, e = n ∧ EndP ds k n
/-- those ahead of p whose ends are told: all that are not open -/
def EI (ds : List Int) (p : Nat) (fs : List Int) (op : List Int) : Prop := fs.length = ds.length ∧ ∀ k : Nat, k < p → (k : Int) ∉ op → ∃ e : Nat, fs[k]? = some (e : Int) ∧ EndP ds k e
theorem EI.pop {ds : List Int} {p q : Nat} {fs op : List Int} {n : Nat} (h : EI ds p fs (op ++ [(n : Int)])) (hp : p = q + 1) (hq : q < ds.length) (hn : n = q ∨ An ds n q) (hout : q + 1 < ds.length → ¬ dg ds n < dg ds (q + 1)) : EI ds p (fs.set n (q : Int)) op := by
  have hnq : n ≤ q := by
    rcases hn with rfl | a
    · exact Nat.le_refl _
    · exact Nat.le_of_lt a.1
  refine ⟨by rw [List.length_set]; exact h.1, fun k hk hko => ?_⟩
  by_cases c : k = n
  · subst c
    refine ⟨q, List.getElem?_set_self (by rw [h.1]; omega), ⟨hnq, hq, fun j h1 h2 => ?_, hout⟩⟩
    rcases hn with rfl | a
    · omega
    · exact a.2.2 j h1 h2
  · rw [List.getElem?_set_ne (Ne.symm c)]
    refine h.2 k hk fun z => ?_
    rcases List.mem_append.mp z with z | z
    · exact hko z
    · have := List.mem_singleton.mp z
      omega
theorem EI.push {ds : List Int} {p : Nat} {fs op : List Int} (h : EI ds p fs op) : EI ds (p + 1) fs (op ++ [(p : Int)]) := by
  refine ⟨h.1, fun k hk hko => ?_⟩
  have hne : k ≠ p := fun z => hko (by rw [z]; simp)
  exact h.2 k (by omega) fun z => hko (List.mem_append_left _ z)
theorem EI.done_ {ds : List Int} {fs : List Int} (h : EI ds ds.length fs []) : EndsOk ds fs := by
  refine ⟨h.1, fun k e hk => ?_⟩
  have hlt := (List.getElem?_eq_some_iff.mp hk).1
  obtain ⟨n, hn, hp⟩ := h.2 k (by rw [← h.1]; exact hlt) (by simp)
  rw [hk] at hn
  exact ⟨n, Option.some.inj hn, hp⟩
theorem flat_rep (n : Nat) (v : V) : (List.replicate n [v]).flatten = List.replicate n v := by
  induction n with
  | zero => rfl
  | succ n ih => rw [List.replicate_succ, List.flatten_cons, ih]; rfl
theorem line_snoc {ds : List Int} {k : Nat} {ln : List Int} (l : Line ds k ln) : ∀ j, j < ln.length → ∃ n : Nat, ln[j]? = some (n : Int) ∧ dg ds n = (j : Int) + 1 ∧ (n = k ∨ An ds n k) := fun j hj => by
  obtain ⟨n, e, h⟩ := l.at_ j _ (List.getElem?_eq_getElem hj)
  exact ⟨n, by rw [List.getElem?_eq_getElem hj, e], h⟩
/-! ### documents -/
def dps (rows : List (Str × Int)) : List Int := rows.map (·.2)
structure DocOk (rows : List (Str × Int)) : Prop where
  one : 1 ≤ rows.length
  most : rows.length ≤ 240
  lab : ∀ r ∈ rows, labelB r.1 = true
  dv : Dv (dps rows)
  deep : ∀ r ∈ rows, r.2 ≤ 80
theorem dps_len (rows : List (Str × Int)) : (dps rows).length = rows.length := List.length_map ..
theorem dps_at {rows : List (Str × Int)} {k : Nat} {r : Str × Int} (h : rows[k]? = some r) : dg (dps rows) k = r.2 := dg_of (by unfold dps; rw [List.getElem?_map, h]; rfl)
def docF (t e u : Addr) : List (Str × V) := [("parts", .ref t), ("ends", .ref e), ("uppers", .ref u)]
theorem docF_parts (t e u : Addr) : (docF t e u).lookup ("parts" : Str) = some (.ref t) := rfl
theorem docF_ends (t e u : Addr) : (docF t e u).lookup ("ends" : Str) = some (.ref e) := rfl
theorem docF_uppers (t e u : Addr) : (docF t e u).lookup ("uppers" : Str) = some (.ref u) := rfl
theorem docF_put (t e u : Addr) : putF "uppers" (.ref u) (putF "ends" (.ref e) (putF "parts" (.ref t) [])) = docF t e u := rfl
structure DocIn (K : PySem.W.Frag) (H : Hp) (a : Addr) (rows : List (Str × Int)) (dx t e u : Addr) (tv : List V) (es : List Int) (us : List (Option Int)) : Prop where
  ob : H a = some (.ins (He.ga K "Document") dx (docF t e u))
  tp : H t = some (.tup tv)
  pl : PL K H eRow tv rows
  en : H e = some (.lst (es.map V.int))
  up : H u = some (.lst (us.map vOpt))
  eo : EndsOk (dps rows) es
  uo : UpOk (dps rows) us
  ok : DocOk rows
def DocAt (K : PySem.W.Frag) (H : Hp) (a : Addr) (rows : List (Str × Int)) : Prop := ∃ dx t e u tv es us, DocIn K H a rows dx t e u tv es us
theorem DocIn.same {K : PySem.W.Frag} {H H' : Hp} {a : Addr} {rows : List (Str × Int)} {dx t e u : Addr} {tv : List V} {es : List Int} {us : List (Option Int)} (h : DocIn K H a rows dx t e u tv es us) (s : Same H H') : DocIn K H' a rows dx t e u tv es us :=
  ⟨s _ _ h.ob, s _ _ h.tp, h.pl.same s, s _ _ h.en, s _ _ h.up, h.eo, h.uo, h.ok⟩
theorem DocAt.same {K : PySem.W.Frag} {H H' : Hp} {a : Addr} {rows : List (Str × Int)} (h : DocAt K H a rows) (s : Same H H') : DocAt K H' a rows := by
  obtain ⟨dx, t, e, u, tv, es, us, h⟩ := h
  exact ⟨dx, t, e, u, tv, es, us, h.same s⟩
theorem DocAt.ok {K : PySem.W.Frag} {H : Hp} {a : Addr} {rows : List (Str × Int)} (h : DocAt K H a rows) : DocOk rows := by
  obtain ⟨dx, t, e, u, tv, es, us, h⟩ := h
  exact h.ok
theorem DocAt.butD {K : PySem.W.Frag} {H H' : Hp} {a b : Addr} {rows : List (Str × Int)} {kv : List (Key × V)} (h : DocAt K H a rows) (s : But b H H') (hb : H b = some (.dK kv)) : DocAt K H' a rows := by
  obtain ⟨dx, t, e, u, tv, es, us, h⟩ := h
  have n : ∀ c o, H c = some o → (∀ kv, o ≠ .dK kv) → H' c = some o := fun c o q d => s c o (ne_of q hb fun z => d _ z) q
  exact ⟨dx, t, e, u, tv, es, us, n _ _ h.ob (fun _ z => nomatch z), n _ _ h.tp (fun _ z => nomatch z), h.pl.tk (TK.butD s hb) flat_row, n _ _ h.en (fun _ z => nomatch z), n _ _ h.up (fun _ z => nomatch z), h.eo, h.uo, h.ok⟩
theorem no_many (t e u : Addr) {m : Str} (h1 : ¬ m = "parts") (h2 : ¬ m = "ends") (h3 : ¬ m = "uppers") : (docF t e u).lookup m = none := by
  have e1 : (m == ("parts" : Str)) = false := by simpa using h1
  have e2 : (m == ("ends" : Str)) = false := by simpa using h2
  have e3 : (m == ("uppers" : Str)) = false := by simpa using h3
  simp [docF, List.lookup, e1, e2, e3]
/-- the answers of a document, as the rows tell them -/
theorem DocIn.end_at {K : PySem.W.Frag} {H : Hp} {a : Addr} {rows : List (Str × Int)} {dx t e u : Addr} {tv : List V} {es : List Int} {us : List (Option Int)} (h : DocIn K H a rows dx t e u tv es us) {k : Nat} (hk : k < rows.length) : ∃ n : Nat, (es.map V.int)[k]? = some (.int (n : Int)) ∧ EndP (dps rows) k n := by
  have hl : k < es.length := by rw [h.eo.len, dps_len]; exact hk
  obtain ⟨n, e1, e2⟩ := h.eo.at_ k _ (List.getElem?_eq_getElem hl)
  exact ⟨n, by rw [List.getElem?_map, List.getElem?_eq_getElem hl, e1]; rfl, e2⟩
theorem DocIn.up_at {K : PySem.W.Frag} {H : Hp} {a : Addr} {rows : List (Str × Int)} {dx t e u : Addr} {tv : List V} {es : List Int} {us : List (Option Int)} (h : DocIn K H a rows dx t e u tv es us) {k : Nat} (hk : k < rows.length) : ∃ o, (us.map vOpt)[k]? = some (vOpt o) ∧ UpAt (dps rows) k o := by
  have hl : k < us.length := by rw [h.uo.len, dps_len]; exact hk
  exact ⟨us[k], by rw [List.getElem?_map, List.getElem?_eq_getElem hl]; rfl, h.uo.at_ k _ (List.getElem?_eq_getElem hl)⟩
/-- the lowers of a part -/
def lowers (ds : List Int) (k e : Nat) (us : List (Option Int)) : List Int := ((List.range (e - k)).map fun (i : Nat) => ((k + 1 + i : Nat) : Int)).filter fun o => decide (us[o.toNat]? = some (some (k : Int)))
end Bg

namespace Bg
open PySem PySem.Spec PyProof.Rows L2
/-! ### comprehensions that change nothing -/
theorem lc_keep {α : Type} {J : It} {n : Nat} {G : Hp → Prop} {Y : Nat → Hp → V → Hp → Prop} (w : Walk J n G Y) {g : TG} {tt : TT} {te : TE} {vs : List Nat} {σ : L2.St} {H1 : Hp} {D : Addr} {Qd : Hp → Prop} {zs : List α} (hn : zs.length = n) (keep : α → Bool) (out : α → V)
    (hD : H1 D = none) (hG : ∀ H', Same H1 H' → G H') (hsz : n < 16777216)
    (hs : ∀ i x z H' H'' (N : Hp → Prop) (YY : V → Hp → Prop), zs[i]? = some z → Same H1 H' → Y i H' x H'' → (∀ H3, Same H' H3 → keep z = false → N H3) → (∀ H4, Same H' H4 → keep z = true → YY (out z) H4) →
      g x (wipe σ vs) H'' fun σ2 H2 => wipe σ2 vs = wipe σ vs ∧ tt σ2 H2 fun b H3 => if b = true then te σ2 H3 YY else N H3)
    (hd : ∀ H', Same H1 H' → H' D = some (.lst ((zs.filter keep).map out)) → Qd H') :
    ∃ W : Nat → Nat → Hp → Prop, (∃ m, W 0 m (upd H1 D (.lst []))) ∧ ∀ i m H, W i m H →
      (J.stop i H ∧ Qd H) ∨ (J.go i H ∧ ∃ Nx : Hp → Prop, (∀ H', Nx H' → ∃ m', m' < m ∧ W (i + 1) m' H') ∧ ∀ x H', J.yld i H x H' → g x (wipe σ vs) H' fun σ2 H2 => wipe σ2 vs = wipe σ vs ∧ tt σ2 H2 fun b H3 =>
        if b = true then te σ2 H3 fun y H4 => ∃ acc, H4 D = some (.lst acc) ∧ acc.length < sizeLine ∧ Nx (upd H4 D (.lst (acc ++ [y]))) else Nx H3) := by
  refine lc_it w (fun i H' => Same H1 H' ∧ H' D = some (.lst (((zs.take i).filter keep).map out))) ⟨L2.Same.new hD, upd_same⟩ (fun i H' _ q => hG H' q.1) ?_ ?_
  · rintro i x H' H'' hi ⟨s, h⟩ y
    have hlt : i < zs.length := by omega
    have hz := List.getElem?_eq_getElem hlt
    refine hs i x zs[i] H' H'' _ _ hz s y (fun H3 s3 hk => ⟨s.trans s3, ?_⟩) (fun H4 s4 hk => ⟨_, s4 _ _ h, ?_, (s.trans s4).mut hD, ?_⟩)
    · rw [take_snoc hz, List.filter_append]
      rw [show [zs[i]].filter keep = [] by simp [hk], List.append_nil]
      exact s3 _ _ h
    · refine szl ?_
      rw [List.length_map]
      have := List.length_filter_le keep (zs.take i)
      rw [List.length_take] at this
      omega
    · rw [upd_same, take_snoc hz, List.filter_append]
      simp only [List.filter_cons, hk, List.filter_nil, if_true, List.map_append]
      rfl
  · rintro H' ⟨s, h⟩
    refine hd H' s ?_
    rw [h, List.take_of_length_le (by omega)]
/-- over a list -/
theorem lc_keepL {α : Type} {K : PySem.W.Frag} {a : Addr} {xs : List V} {F : V → α → Prop} {zs : List α} {g : TG} {tt : TT} {te : TE} {vs : List Nat} {σ : L2.St} {H1 : Hp} {D : Addr} {Qd : Hp → Prop} (keep : α → Bool) (out : α → V) (hp : Paired F xs zs)
    (hD : H1 D = none) (hl : SqL K H1 a xs) (hsz : zs.length < 16777216)
    (hs : ∀ x z H' (N : Hp → Prop) (YY : V → Hp → Prop), F x z → z ∈ zs → Same H1 H' → (∀ H3, Same H' H3 → keep z = false → N H3) → (∀ H4, Same H' H4 → keep z = true → YY (out z) H4) →
      g x (wipe σ vs) H' fun σ2 H2 => wipe σ2 vs = wipe σ vs ∧ tt σ2 H2 fun b H3 => if b = true then te σ2 H3 YY else N H3)
    (hd : ∀ H', Same H1 H' → H' D = some (.lst ((zs.filter keep).map out)) → Qd H') :
    ∃ W : Nat → Nat → Hp → Prop, (∃ m, W 0 m (upd H1 D (.lst []))) ∧ ∀ i m H, W i m H →
      ((Itl K a).stop i H ∧ Qd H) ∨ ((Itl K a).go i H ∧ ∃ Nx : Hp → Prop, (∀ H', Nx H' → ∃ m', m' < m ∧ W (i + 1) m' H') ∧ ∀ x H', (Itl K a).yld i H x H' → g x (wipe σ vs) H' fun σ2 H2 => wipe σ2 vs = wipe σ vs ∧ tt σ2 H2 fun b H3 =>
        if b = true then te σ2 H3 fun y H4 => ∃ acc, H4 D = some (.lst acc) ∧ acc.length < sizeLine ∧ Nx (upd H4 D (.lst (acc ++ [y]))) else Nx H3) := by
  refine lc_keep (walk_list (K := K) (a := a) (xs := xs)) (zs := zs) hp.length.symm keep out hD (fun H' s => s.seq hl) (by rw [hp.length]; exact hsz) ?_ hd
  rintro i x z H' H'' N YY hz s ⟨rfl, hx⟩ hN hY
  obtain ⟨z', hz', hF⟩ := hp.get hx
  rw [hz] at hz'
  cases hz'
  exact hs x z _ N YY hF (List.mem_of_getElem? hz) s hN hY
/-- over a range -/
theorem lc_keepR {lo : Int} {n : Nat} {g : TG} {tt : TT} {te : TE} {vs : List Nat} {σ : L2.St} {H1 : Hp} {D : Addr} {Qd : Hp → Prop} (keep : Int → Bool) (out : Int → V)
    (hD : H1 D = none) (hsz : n < 16777216)
    (hs : ∀ (i : Nat) H' (N : Hp → Prop) (YY : V → Hp → Prop), i < n → Same H1 H' → (∀ H3, Same H' H3 → keep (lo + i) = false → N H3) → (∀ H4, Same H' H4 → keep (lo + i) = true → YY (out (lo + i)) H4) →
      g (.int (lo + i)) (wipe σ vs) H' fun σ2 H2 => wipe σ2 vs = wipe σ vs ∧ tt σ2 H2 fun b H3 => if b = true then te σ2 H3 YY else N H3)
    (hd : ∀ H', Same H1 H' → H' D = some (.lst ((((List.range n).map fun (i : Nat) => lo + (i : Int)).filter keep).map out)) → Qd H') :
    ∃ W : Nat → Nat → Hp → Prop, (∃ m, W 0 m (upd H1 D (.lst []))) ∧ ∀ i m H, W i m H →
      ((Itr lo n).stop i H ∧ Qd H) ∨ ((Itr lo n).go i H ∧ ∃ Nx : Hp → Prop, (∀ H', Nx H' → ∃ m', m' < m ∧ W (i + 1) m' H') ∧ ∀ x H', (Itr lo n).yld i H x H' → g x (wipe σ vs) H' fun σ2 H2 => wipe σ2 vs = wipe σ vs ∧ tt σ2 H2 fun b H3 =>
        if b = true then te σ2 H3 fun y H4 => ∃ acc, H4 D = some (.lst acc) ∧ acc.length < sizeLine ∧ Nx (upd H4 D (.lst (acc ++ [y]))) else Nx H3) := by
  refine lc_keep (J := Itr lo n) (n := n) (G := fun _ => True) (Y := fun i H x H' => H' = H ∧ x = .int (lo + i)) ⟨fun i H hi _ => hi, fun H _ => Nat.le_refl _, fun i H x H' hi _ y => y⟩ (zs := (List.range n).map fun (i : Nat) => lo + (i : Int)) (by simp) keep out hD (fun _ _ => trivial) hsz ?_ hd
  rintro i x z H' H'' N YY hz s ⟨rfl, rfl⟩ hN hY
  have hi : i < n := by have := (List.getElem?_eq_some_iff.mp hz).1; simpa using this
  have hz' : z = lo + (i : Int) := by simpa [hi] using hz.symm
  subst hz'
  exact hs i _ N YY hi s hN hY
/-- over enumerate of a tuple -/
theorem lc_keepE {α : Type} {K : PySem.W.Frag} {a : Addr} {xs : List V} {F : V → α → Prop} {zs : List α} {i j : Nat} {tt : TT} {te : TE} {vs : List Nat} {σ : L2.St} {H1 : Hp} {D : Addr} {Qd : Hp → Prop} (keep : Nat × α → Bool) (out : Nat × α → V) (hp : Paired F xs zs)
    (hD : H1 D = none) (hl : SqT K H1 a xs) (hsz : zs.length < 16777216)
    (hs : ∀ (n : Nat) x z H' (N : Hp → Prop) (YY : V → Hp → Prop), F x z → zs[n]? = some z → Same H1 H' → (∀ H3, Same H' H3 → keep (n, z) = false → N H3) → (∀ H4, Same H' H4 → keep (n, z) = true → YY (out (n, z)) H4) →
      wipe (((wipe σ vs).set i (some (.int n))).set j (some x)) vs = wipe σ vs ∧ tt (((wipe σ vs).set i (some (.int n))).set j (some x)) H' fun b H3 => if b = true then te (((wipe σ vs).set i (some (.int n))).set j (some x)) H3 YY else N H3)
    (hd : ∀ H', Same H1 H' → H' D = some (.lst ((((List.range zs.length).zip zs).filter keep).map out)) → Qd H') :
    ∃ W : Nat → Nat → Hp → Prop, (∃ m, W 0 m (upd H1 D (.lst []))) ∧ ∀ n m H, W n m H →
      ((IteT K a).stop n H ∧ Qd H) ∨ ((IteT K a).go n H ∧ ∃ Nx : Hp → Prop, (∀ H', Nx H' → ∃ m', m' < m ∧ W (n + 1) m' H') ∧ ∀ x H', (IteT K a).yld n H x H' → gTup K 2 (gCons (gName i) (gCons (gName j) gNil)) x (wipe σ vs) H' fun σ2 H2 => wipe σ2 vs = wipe σ vs ∧ tt σ2 H2 fun b H3 =>
        if b = true then te σ2 H3 fun y H4 => ∃ acc, H4 D = some (.lst acc) ∧ acc.length < sizeLine ∧ Nx (upd H4 D (.lst (acc ++ [y]))) else Nx H3) := by
  refine lc_keep (walk_enumT (K := K) (a := a) (xs := xs)) (zs := (List.range zs.length).zip zs) (by simp [hp.length]) keep out hD (fun H' s => s.tup hl) (by rw [hp.length]; exact hsz) ?_ hd
  rintro n x z H' H'' N YY hz s ⟨T, u, v, rfl, hT, rfl, hu, hv⟩ hN hY
  cases Option.some.inj hu
  obtain ⟨z', hz', hF⟩ := hp.get hv
  have e : z = (n, z') := by
    have hlt : n < zs.length := (List.getElem?_eq_some_iff.mp hz').1
    rw [List.getElem?_eq_getElem (by simp [hlt])] at hz
    have q := Option.some.inj hz
    rw [List.getElem_zip] at q
    rw [← q, List.getElem_range]
    congr 1
    exact Option.some.inj ((List.getElem?_eq_getElem hlt).symm.trans hz')
  subst e
  have sT : Same H' (upd H' T (.tup [.int n, v])) := L2.Same.new hT
  exact ⟨T, [.int n, v], rfl, SqT.of upd_same, rfl, _, _, rfl, _, _, rfl, rfl, hs n v z' _ N YY hF hz' (s.trans sT) (fun H3 s3 => hN H3 (sT.trans s3)) (fun H4 s4 => hY H4 (sT.trans s4))⟩
theorem filter_yes {α : Type} (l : List α) : l.filter (fun _ => true) = l := by simp
theorem But.seqI {K : PySem.W.Frag} {a l C dx : Addr} {H H' : Hp} {xs : List V} {fs : List (Str × V)} (s : But a H H') (ha : H a = some (.ins C dx fs)) (h : SqL K H l xs) : SqL K H' l xs := by
  rcases h with (h | ⟨o, h⟩) | h
  · exact .inl (.inl (s _ _ (ne_of h ha (by intro z; cases z)) h))
  · exact .inl (.inr ⟨o, s _ _ (ne_of h ha (by intro z; cases z)) h⟩)
  · exact .inr h
/-- what a maker leaves: all that stood -/
theorem made_same {H H' : Hp} {x dx : Addr} {o u : HO} (hx : H x = none) (hd : H dx = none) (hne : dx ≠ x) (b : But x (upd (upd H dx o) x u) H') : Same H H' := fun c v h => b c v (ne_of_none h hx) (by
  rw [upd_ne (ne_of_none h hx), upd_ne (ne_of_none h hd)]
  exact h)
/-! ### parts -/
def vN (n : Nat) : V := .int (n : Int)
structure Lows (ds : List Int) (k : Nat) (ls : List Nat) : Prop where
  up : ls.Pairwise (· < ·)
  mem : ∀ n, n ∈ ls ↔ Par ds k n
theorem lows_of {ds : List Int} {us : List (Option Int)} (uo : UpOk ds us) {k e : Nat} (he : EndP ds k e) : ∃ ls : List Nat, Lows ds k ls ∧ (((List.range (((e : Int) + 1) - ((k : Int) + 1)).toNat).map fun (i : Nat) => (k : Int) + 1 + (i : Int)).filter fun o => decide (us[o.toNat]? = some (some (k : Int)))).map V.int = ls.map vN := by
  refine ⟨((List.range (e - k)).map fun i => k + 1 + i).filter fun n => decide (us[n]? = some (some (k : Int))), ⟨?_, fun n => ?_⟩, ?_⟩
  · refine List.Pairwise.filter _ ?_
    rw [List.pairwise_map]
    exact List.pairwise_lt_range.imp fun h => by omega
  · rw [List.mem_filter, List.mem_map, decide_eq_true_iff]
    constructor
    · rintro ⟨⟨i, _, rfl⟩, h⟩
      obtain ⟨m, hm, hp⟩ := uo.at_ _ _ h
      have : k = m := by omega
      rw [this] at hp ⊢
      exact hp
    · intro hp
      have h1 := (he.an n).mp hp.1
      refine ⟨⟨n - (k + 1), by rw [List.mem_range]; omega, by omega⟩, ?_⟩
      have hlt : n < us.length := by rw [uo.len]; exact hp.1.2.1
      have ha := uo.at_ n _ (List.getElem?_eq_getElem hlt)
      rw [List.getElem?_eq_getElem hlt]
      cases hu : us[n] with
      | none => rw [hu] at ha; exact absurd hp.1 (ha k)
      | some u =>
        rw [hu] at ha
        obtain ⟨m, rfl, hm⟩ := ha
        rw [hm.only hp]
  · rw [show (((e : Int) + 1) - ((k : Int) + 1)).toNat = e - k by omega]
    rw [List.filter_map, List.map_map, List.filter_map, List.map_map]
    have : ((fun o => decide (us[o.toNat]? = some (some (k : Int)))) ∘ fun (i : Nat) => (k : Int) + 1 + (i : Int)) = ((fun n => decide (us[n]? = some (some (k : Int)))) ∘ fun i => k + 1 + i) := by
      funext i
      show decide (us[((k : Int) + 1 + (i : Int)).toNat]? = _) = decide (us[k + 1 + i]? = _)
      rw [show ((k : Int) + 1 + (i : Int)).toNat = k + 1 + i by omega]
    rw [this]
    apply List.map_congr_left
    intro i _
    show V.int ((k : Int) + 1 + (i : Int)) = V.int ((k + 1 + i : Nat) : Int)
    congr 1
def partsOf (rows : List (Str × Int)) (z : Str) : List Nat := ((List.range rows.length).zip rows).filter (fun x => decide (x.2.1 = z)) |>.map (·.1)
theorem zip_range_mem {α : Type} {rows : List α} {n : Nat} {r : α} : (n, r) ∈ (List.range rows.length).zip rows ↔ rows[n]? = some r := by
  constructor
  · intro h
    obtain ⟨i, hi⟩ := List.getElem?_of_mem h
    have hlt := (List.getElem?_eq_some_iff.mp hi).1
    rw [List.length_zip, List.length_range, Nat.min_self] at hlt
    rw [List.getElem?_eq_getElem (by simp [hlt])] at hi
    have q := Option.some.inj hi
    rw [List.getElem_zip, List.getElem_range] at q
    injection q with q1 q2
    rw [← q1, List.getElem?_eq_getElem hlt, q2]
  · intro h
    have hlt := (List.getElem?_eq_some_iff.mp h).1
    refine List.mem_of_getElem? (i := n) ?_
    rw [List.getElem?_eq_getElem (by simp [hlt]), List.getElem_zip, List.getElem_range]
    congr 2
    exact Option.some.inj ((List.getElem?_eq_getElem hlt).symm.trans h)
theorem partsOf_mem {rows : List (Str × Int)} {z : Str} {n : Nat} : n ∈ partsOf rows z ↔ ∃ r, rows[n]? = some r ∧ r.1 = z := by
  unfold partsOf
  rw [List.mem_map]
  constructor
  · rintro ⟨⟨m, r⟩, h, rfl⟩
    rw [List.mem_filter, zip_range_mem, decide_eq_true_iff] at h
    exact ⟨r, h⟩
  · rintro ⟨r, h1, h2⟩
    exact ⟨(n, r), by rw [List.mem_filter, zip_range_mem, decide_eq_true_iff]; exact ⟨h1, h2⟩, rfl⟩
theorem zip_range_up {α : Type} (rows : List α) : (((List.range rows.length).zip rows).map (·.1)).Pairwise (· < ·) := by
  have : ((List.range rows.length).zip rows).map (·.1) = List.range rows.length := by
    rw [List.map_fst_zip]
    simp
  rw [this]
  exact List.pairwise_lt_range
theorem partsOf_up (rows : List (Str × Int)) (z : Str) : (partsOf rows z).Pairwise (· < ·) := by
  unfold partsOf
  have := zip_range_up rows
  rw [List.pairwise_map] at this ⊢
  exact List.Pairwise.filter _ this
theorem partsOf_lt {rows : List (Str × Int)} {z : Str} {n : Nat} (h : n ∈ partsOf rows z) : n < rows.length := by
  obtain ⟨r, h, _⟩ := partsOf_mem.mp h
  exact (List.getElem?_eq_some_iff.mp h).1
/-- rising lists of the same numbers are one -/
theorem up_only {l m : List Nat} (hl : l.Pairwise (· < ·)) (hm : m.Pairwise (· < ·)) (h : ∀ n, n ∈ l ↔ n ∈ m) : l = m := by
  induction l generalizing m with
  | nil =>
    cases m with
    | nil => rfl
    | cons y m => exact absurd ((h y).mpr (List.mem_cons_self ..)) (by simp)
  | cons x l ih =>
    cases m with
    | nil => exact absurd ((h x).mp (List.mem_cons_self ..)) (by simp)
    | cons y m =>
      rw [List.pairwise_cons] at hl hm
      have hxy : x = y := by
        have h1 := (h x).mp (List.mem_cons_self ..)
        have h2 := (h y).mpr (List.mem_cons_self ..)
        rcases List.mem_cons.mp h1 with e | e
        · exact e
        · rcases List.mem_cons.mp h2 with f | f
          · exact f.symm
          · have := hm.1 x e
            have := hl.1 y f
            omega
      subst hxy
      rw [ih hl.2 hm.2 fun n => ?_]
      constructor
      · intro hn
        rcases List.mem_cons.mp ((h n).mp (List.mem_cons_of_mem _ hn)) with e | e
        · have := hl.1 n hn; omega
        · exact e
      · intro hn
        rcases List.mem_cons.mp ((h n).mpr (List.mem_cons_of_mem _ hn)) with e | e
        · have := hm.1 n hn; omega
        · exact e
end Bg

namespace Bg
open PySem PySem.Spec PyProof.Rows L2
/-! ### a method of one of two classes -/
def tMethV (C1 C2 : Addr) (m : Str) (sp1 sp2 : Sp) (E : XK) (ta : TE) (t : TA) : TE := fun σ H Q => ta σ H fun x H1 => ∃ a dx fs, x = .ref a ∧ fs.lookup m = none ∧
  ((H1 a = some (.ins C1 dx fs) ∧ t σ H1 fun vs H2 => sp1 (x :: vs) H2 Q E) ∨ (H1 a = some (.ins C2 dx fs) ∧ t σ H1 fun vs H2 => sp2 (x :: vs) H2 Q E))
section
variable {X : Cx} {CX1 CX2 : CXT} {k1 k2 : Nat} {C1 C2 : Addr} {ps1 ps2 : List Str} {sp1 sp2 : Sp} {E : XK} {m : Str} {pos apos : Pos} {e o : Expr} {es : List Expr} {ta : TE} {t : TA}
theorem pe_methV {pl : Sem Bool} (he : PE X o ta) (F1 : Mt X.prog X.w X.K X.mg X.base CX1 k1 C1 m ps1 sp1) (F2 : Mt X.prog X.w X.K X.mg X.base CX2 k2 C2 m ps2 sp2) (hr1 : Room k1 X.A) (hr2 : Room k2 X.A) (hx1 : Passes CX1 X E) (hx2 : Passes CX2 X E) (ha : PA X (e :: es) t)
    (hst : starEach (e :: es) X.env = (false, eval e X.env) :: starEach es X.env := by rfl) (hpl : (backTo pos (starEach es X.env)).any (·.1) = false := by rfl)
    (ht : eval (.Call (.Attribute o m apos) (e :: es) [] pos) X.env = (do
      let ov ← eval o X.env
      standAt apos.atName
      let (f, first) ← holding [ov] (getMethod ov m pl)
      callWith pos f first (backTo pos (starEach (e :: es) X.env)) (backToKw pos (keywordEach [] X.env))) := by rfl) :
    PE X (.Call (.Attribute o m apos) (e :: es) [] pos) (tMethV C1 C2 m sp1 sp2 E ta t) := by
  obtain ⟨f1, fd1, G1, m1, c1, b1⟩ := F1.ex
  obtain ⟨f2, fd2, G2, m2, c2, b2⟩ := F2.ex
  refine ⟨fun pins s σ H Q I h => ?_⟩
  refine PySem.W.methodCall_KW (pl := pl) (thn (he.run pins s σ H _ I h) fun u s1 ⟨x, H1, I1, rx, a, dx, fs, ex, l, hh⟩ => ?_) ht
  subst ex
  obtain rfl : u = Value.ref a := rx
  rcases hh with ⟨ea, q⟩ | ⟨ea, q⟩
  · refine getmeth_ok I1 ea c1 m1 l (PySem.W.callWith_K (first := [.ref a]) (h₀ := X.base) I.ok.mod.kin m1.kp (thn (ha.run pos pins s1 σ H1 _ I1 q) fun us s2 ⟨vs, H2, I2, r, q2⟩ => ⟨I2.kIn, ?_⟩) hst hpl)
    exact run_fn (dvs := []) (us := .ref a :: us) (vs := .ref a :: vs) G1 hr1 b1 .nil hx1 I2 (.cons rfl r) (by rw [List.append_nil]; exact q2)
  · refine getmeth_ok I1 ea c2 m2 l (PySem.W.callWith_K (first := [.ref a]) (h₀ := X.base) I.ok.mod.kin m2.kp (thn (ha.run pos pins s1 σ H1 _ I1 q) fun us s2 ⟨vs, H2, I2, r, q2⟩ => ⟨I2.kIn, ?_⟩) hst hpl)
    exact run_fn (dvs := []) (us := .ref a :: us) (vs := .ref a :: vs) G2 hr2 b2 .nil hx2 I2 (.cons rfl r) (by rw [List.append_nil]; exact q2)
theorem pe_methV0 {pl : Sem Bool} (he : PE X o ta) (F1 : Mt X.prog X.w X.K X.mg X.base CX1 k1 C1 m ps1 sp1) (F2 : Mt X.prog X.w X.K X.mg X.base CX2 k2 C2 m ps2 sp2) (hr1 : Room k1 X.A) (hr2 : Room k2 X.A) (hx1 : Passes CX1 X E) (hx2 : Passes CX2 X E)
    (ht : eval (.Call (.Attribute o m apos) [] [] pos) X.env = (do
      let ov ← eval o X.env
      standAt apos.atName
      let (f, first) ← holding [ov] (getMethod ov m pl)
      callWith pos f first (backTo pos (starEach [] X.env)) (backToKw pos (keywordEach [] X.env))) := by rfl) :
    PE X (.Call (.Attribute o m apos) [] [] pos) (tMethV C1 C2 m sp1 sp2 E ta tNil) := by
  obtain ⟨f1, fd1, G1, m1, c1, b1⟩ := F1.ex
  obtain ⟨f2, fd2, G2, m2, c2, b2⟩ := F2.ex
  refine ⟨fun pins s σ H Q I h => ?_⟩
  refine PySem.W.methodCall_KW (pl := pl) (thn (he.run pins s σ H _ I h) fun u s1 ⟨x, H1, I1, rx, a, dx, fs, ex, l, hh⟩ => ?_) ht
  subst ex
  obtain rfl : u = Value.ref a := rx
  rcases hh with ⟨ea, q⟩ | ⟨ea, q⟩
  · exact getmeth_ok I1 ea c1 m1 l (PySem.W.callWith_K0 (first := [.ref a]) I1.kIn m1.kp (run_fn (dvs := []) (us := [.ref a]) (vs := [.ref a]) G1 hr1 b1 .nil hx1 I1 (.cons rfl .nil) q))
  · exact getmeth_ok I1 ea c2 m2 l (PySem.W.callWith_K0 (first := [.ref a]) I1.kIn m2.kp (run_fn (dvs := []) (us := [.ref a]) (vs := [.ref a]) G2 hr2 b2 .nil hx2 I1 (.cons rfl .nil) q))
end
/-! ### steps -/
def stF (z : Str) : List (Str × V) := [("label", .str z)]
def StepAt (K : PySem.W.Frag) (H : Hp) (p : Addr) (w z : Str) : Prop := ∃ dx, (w = "/" ∧ H p = some (.ins (He.ga K "Straight") dx (stF z))) ∨ (w = "//" ∧ H p = some (.ins (He.ga K "Anywhere") dx (stF z)))
theorem StepAt.at_ {K : PySem.W.Frag} {H H' : Hp} {p : Addr} {w z : Str} (h : StepAt K H p w z) (s : ∀ o, H p = some o → H' p = some o) : StepAt K H' p w z := by
  obtain ⟨dx, ⟨e, h⟩ | ⟨e, h⟩⟩ := h
  · exact ⟨dx, .inl ⟨e, s _ h⟩⟩
  · exact ⟨dx, .inr ⟨e, s _ h⟩⟩
theorem StepAt.same {K : PySem.W.Frag} {H H' : Hp} {p : Addr} {w z : Str} (h : StepAt K H p w z) (s : Same H H') : StepAt K H' p w z := h.at_ fun o q => s _ _ q
theorem StepAt.ins {K : PySem.W.Frag} {H : Hp} {p : Addr} {w z : Str} (h : StepAt K H p w z) : ∃ C dx fs, H p = some (.ins C dx fs) := by
  obtain ⟨dx, ⟨e, h⟩ | ⟨e, h⟩⟩ := h
  · exact ⟨_, _, _, h⟩
  · exact ⟨_, _, _, h⟩
/-! ### questions -/
abbrev Sr := Str × Str × Int
def qds (rows : List Sr) : List Int := rows.map (·.2.2)
structure QuOk (rows : List Sr) (g : Nat) : Prop where
  one : 1 ≤ rows.length
  most : rows.length ≤ 100
  way : ∀ r ∈ rows, r.1 = "/" ∨ r.1 = "//"
  lab : ∀ r ∈ rows, labelB r.2.1 = true
  dv : Dv (qds rows)
  deep : ∀ r ∈ rows, r.2.2 ≤ 30
  goal : g < rows.length
theorem qds_len (rows : List Sr) : (qds rows).length = rows.length := List.length_map ..
theorem qds_at {rows : List Sr} {k : Nat} {r : Sr} (h : rows[k]? = some r) : dg (qds rows) k = r.2.2 := dg_of (by unfold qds; rw [List.getElem?_map, h]; rfl)
theorem way_ok {w : Str} (h : w = "/" ∨ w = "//") : PyData.strOk w = true := by
  rcases h with rfl | rfl <;> decide +kernel
theorem gd_step {x : Sr} (hw : x.1 = "/" ∨ x.1 = "//") (h : labelB x.2.1 = true) : Gd 1 (eStep x) := by
  have h1 := label_ok h
  have h2 := way_ok hw
  refine ⟨?_, by show _ ≤ 1; simp [eStep, PyData.depth, PyData.depthAll]⟩
  simp [eStep, PyData.canLay0, PyData.canLayAll0, h1, h2]
def quF (t : Addr) (g : Int) (s e u : Addr) : List (Str × V) := [("given_rows", .ref t), ("goal", .int g), ("steps", .ref s), ("ends", .ref e), ("uppers", .ref u)]
def SPs (K : PySem.W.Frag) (H : Hp) (sv : List V) (rows : List Sr) : Prop := Paired (fun v r => ∃ p, v = .ref p ∧ StepAt K H p r.1 r.2.1) sv rows
theorem SPs.at_ {K : PySem.W.Frag} {H H' : Hp} {sv : List V} {rows : List Sr} (h : SPs K H sv rows) (s : ∀ p C dx fs, H p = some (.ins C dx fs) → H' p = some (.ins C dx fs)) : SPs K H' sv rows := h.imp fun v r ⟨p, e, q⟩ => ⟨p, e, q.at_ fun o ho => by
  obtain ⟨C, dx, fs, hi⟩ := q.ins
  have := s p C dx fs hi
  rw [hi] at ho
  rw [this, ho]⟩
theorem SPs.same {K : PySem.W.Frag} {H H' : Hp} {sv : List V} {rows : List Sr} (h : SPs K H sv rows) (s : Same H H') : SPs K H' sv rows := h.at_ fun _ _ _ _ q => s _ _ q
theorem StepAt.fs {K : PySem.W.Frag} {H : Hp} {p : Addr} {w z : Str} (h : StepAt K H p w z) : ∃ C dx, H p = some (.ins C dx (stF z)) := by
  obtain ⟨dx, ⟨e, h⟩ | ⟨e, h⟩⟩ := h
  · exact ⟨_, _, h⟩
  · exact ⟨_, _, h⟩
theorem SPs.but {K : PySem.W.Frag} {H H' : Hp} {a C dx : Addr} {fs : List (Str × V)} {sv : List V} {rows : List Sr} (h : SPs K H sv rows) (b : But a H H') (ha : H a = some (.ins C dx fs)) (hn : fs.length ≠ 1) : SPs K H' sv rows := h.imp fun v r ⟨p, e, q⟩ => ⟨p, e, q.at_ fun o ho => b p o (fun z => by
  obtain ⟨C', dx', hi⟩ := q.fs
  rw [z, ha] at hi
  injection hi with hi
  injection hi with _ _ hi
  exact hn (by rw [hi]; rfl)) ho⟩
structure QuIn (K : PySem.W.Frag) (H : Hp) (a : Addr) (rows : List Sr) (g : Nat) (dx t sa e u : Addr) (tv sv : List V) (es : List Int) (us : List (Option Int)) : Prop where
  ob : H a = some (.ins (He.ga K "Question") dx (quF t g sa e u))
  tp : H t = some (.tup tv)
  pl : PL K H eStep tv rows
  sp : H sa = some (.tup sv)
  st : SPs K H sv rows
  en : H e = some (.lst (es.map V.int))
  up : H u = some (.lst (us.map vOpt))
  eo : EndsOk (qds rows) es
  uo : UpOk (qds rows) us
  ok : QuOk rows g
def QuAt (K : PySem.W.Frag) (H : Hp) (a : Addr) (rows : List Sr) (g : Nat) : Prop := ∃ dx t sa e u tv sv es us, QuIn K H a rows g dx t sa e u tv sv es us
section
variable {K : PySem.W.Frag} {H H' : Hp} {a : Addr} {rows : List Sr} {g : Nat} {dx t sa e u : Addr} {tv sv : List V} {es : List Int} {us : List (Option Int)}
theorem QuIn.same (h : QuIn K H a rows g dx t sa e u tv sv es us) (s : Same H H') : QuIn K H' a rows g dx t sa e u tv sv es us :=
  ⟨s _ _ h.ob, s _ _ h.tp, h.pl.same s, s _ _ h.sp, h.st.same s, s _ _ h.en, s _ _ h.up, h.eo, h.uo, h.ok⟩
theorem QuAt.same (h : QuAt K H a rows g) (s : Same H H') : QuAt K H' a rows g := by
  obtain ⟨dx, t, sa, e, u, tv, sv, es, us, h⟩ := h
  exact ⟨dx, t, sa, e, u, tv, sv, es, us, h.same s⟩
theorem QuAt.ok (h : QuAt K H a rows g) : QuOk rows g := by
  obtain ⟨dx, t, sa, e, u, tv, sv, es, us, h⟩ := h
  exact h.ok
theorem QuIn.end_at (h : QuIn K H a rows g dx t sa e u tv sv es us) {k : Nat} (hk : k < rows.length) : ∃ n : Nat, (es.map V.int)[k]? = some (.int (n : Int)) ∧ EndP (qds rows) k n := by
  have hl : k < es.length := by rw [h.eo.len, qds_len]; exact hk
  obtain ⟨n, e1, e2⟩ := h.eo.at_ k _ (List.getElem?_eq_getElem hl)
  exact ⟨n, by rw [List.getElem?_map, List.getElem?_eq_getElem hl, e1]; rfl, e2⟩
theorem QuIn.up_at (h : QuIn K H a rows g dx t sa e u tv sv es us) {k : Nat} (hk : k < rows.length) : ∃ o, (us.map vOpt)[k]? = some (vOpt o) ∧ UpAt (qds rows) k o := by
  have hl : k < us.length := by rw [h.uo.len, qds_len]; exact hk
  exact ⟨us[k], by rw [List.getElem?_map, List.getElem?_eq_getElem hl]; rfl, h.uo.at_ k _ (List.getElem?_eq_getElem hl)⟩
theorem quF_rows (t : Addr) (g : Int) (s e u : Addr) : (quF t g s e u).lookup ("given_rows" : Str) = some (.ref t) := rfl
theorem quF_goal (t : Addr) (g : Int) (s e u : Addr) : (quF t g s e u).lookup ("goal" : Str) = some (.int g) := rfl
theorem quF_steps (t : Addr) (g : Int) (s e u : Addr) : (quF t g s e u).lookup ("steps" : Str) = some (.ref s) := rfl
theorem quF_ends (t : Addr) (g : Int) (s e u : Addr) : (quF t g s e u).lookup ("ends" : Str) = some (.ref e) := rfl
theorem quF_uppers (t : Addr) (g : Int) (s e u : Addr) : (quF t g s e u).lookup ("uppers" : Str) = some (.ref u) := rfl
theorem no_q (t : Addr) (g : Int) (s e u : Addr) {m : Str} (h1 : ¬ m = "given_rows") (h2 : ¬ m = "goal") (h3 : ¬ m = "steps") (h4 : ¬ m = "ends") (h5 : ¬ m = "uppers") : (quF t g s e u).lookup m = none := by
  have e1 : (m == ("given_rows" : Str)) = false := by simpa using h1
  have e2 : (m == ("goal" : Str)) = false := by simpa using h2
  have e3 : (m == ("steps" : Str)) = false := by simpa using h3
  have e4 : (m == ("ends" : Str)) = false := by simpa using h4
  have e5 : (m == ("uppers" : Str)) = false := by simpa using h5
  simp [quF, List.lookup, e1, e2, e3, e4, e5]
end
/-! ### calls of methods -/
theorem doc_m {K : PySem.W.Frag} {H : Hp} {d : Addr} {dr : List (Str × Int)} (h : DocAt K H d dr) {m : Str} (h1 : ¬ m = "parts") (h2 : ¬ m = "ends") (h3 : ¬ m = "uppers") {P : Prop} (k : P) : ∃ a dx fs, V.ref d = .ref a ∧ H a = some (.ins (He.ga K "Document") dx fs) ∧ fs.lookup m = none ∧ P := by
  obtain ⟨dx, t, e, u, tv, es, us, h⟩ := h
  exact ⟨d, dx, _, rfl, h.ob, no_many t e u h1 h2 h3, k⟩
theorem qu_m {K : PySem.W.Frag} {H : Hp} {q : Addr} {qr : List Sr} {g : Nat} (h : QuAt K H q qr g) {m : Str} (h1 : ¬ m = "given_rows") (h2 : ¬ m = "goal") (h3 : ¬ m = "steps") (h4 : ¬ m = "ends") (h5 : ¬ m = "uppers") {P : Prop} (k : P) : ∃ a dx fs, V.ref q = .ref a ∧ H a = some (.ins (He.ga K "Question") dx fs) ∧ fs.lookup m = none ∧ P := by
  obtain ⟨dx, t, sa, e, u, tv, sv, es, us, h⟩ := h
  exact ⟨q, dx, _, rfl, h.ob, no_q t g sa e u h1 h2 h3 h4 h5, k⟩
theorem stF_no (z : Str) {m : Str} (h : ¬ m = "label") : (stF z).lookup m = none := by
  have e1 : (m == ("label" : Str)) = false := by simpa using h
  simp [stF, List.lookup, e1]
theorem way_call {K : PySem.W.Frag} {H : Hp} {p : Addr} {w z : Str} (st : StepAt K H p w z) {Q : V → Hp → Prop} (k : Q (.str w) H) : ∃ a dx fs, V.ref p = .ref a ∧ fs.lookup ("way" : Str) = none ∧
    ((H a = some (.ins (He.ga K "Straight") dx fs) ∧ ∃ a' dx' z', [V.ref p] = [.ref a'] ∧ H a' = some (.ins (He.ga K "Straight") dx' (stF z')) ∧ Q (.str "/") H) ∨ (H a = some (.ins (He.ga K "Anywhere") dx fs) ∧ ∃ a' dx' z', [V.ref p] = [.ref a'] ∧ H a' = some (.ins (He.ga K "Anywhere") dx' (stF z')) ∧ Q (.str "//") H)) := by
  obtain ⟨dx, ⟨e, h⟩ | ⟨e, h⟩⟩ := st
  · subst e
    exact ⟨p, dx, _, rfl, stF_no z (by decide), .inl ⟨h, p, dx, z, rfl, h, k⟩⟩
  · subst e
    exact ⟨p, dx, _, rfl, stF_no z (by decide), .inr ⟨h, p, dx, z, rfl, h, k⟩⟩
theorem lab_call {K : PySem.W.Frag} {H : Hp} {p : Addr} {w z : Str} (st : StepAt K H p w z) (c1 : Cls K (He.ga K "Straight")) (n1 : NoAttr K (He.ga K "Straight") "label") (c2 : Cls K (He.ga K "Anywhere")) (n2 : NoAttr K (He.ga K "Anywhere") "label") {Q : V → Hp → Prop} (k : Q (.str z) H) :
    ∃ a C dx fs v, V.ref p = .ref a ∧ H a = some (.ins C dx fs) ∧ Cls K C ∧ NoAttr K C "label" ∧ fs.lookup ("label" : Str) = some v ∧ Q v H := by
  obtain ⟨dx, ⟨e, h⟩ | ⟨e, h⟩⟩ := st
  · exact ⟨p, _, dx, _, .str z, rfl, h, c1, n1, rfl, k⟩
  · exact ⟨p, _, dx, _, .str z, rfl, h, c2, n2, rfl, k⟩
/-- o.m(), read by R -/
def tMW (R : V → Hp → VK → Prop) (ta : TE) : TE := fun σ H Q => ta σ H fun x H1 => R x H1 Q
section
variable {X : Cx} {CX1 CX2 : CXT} {k1 k2 : Nat} {C1 C2 : Addr} {ps1 ps2 : List Str} {sp1 sp2 : Sp} {E : XK} {m : Str} {pos apos : Pos} {o : Expr} {ta : TE}
theorem pe_methW0 {pl : Sem Bool} {R : V → Hp → VK → Prop} (he : PE X o ta) (F1 : Mt X.prog X.w X.K X.mg X.base CX1 k1 C1 m ps1 sp1) (F2 : Mt X.prog X.w X.K X.mg X.base CX2 k2 C2 m ps2 sp2) (hr1 : Room k1 X.A) (hr2 : Room k2 X.A) (hx1 : Passes CX1 X E) (hx2 : Passes CX2 X E)
    (hR : ∀ x H Q, R x H Q → ∃ a dx fs, x = .ref a ∧ fs.lookup m = none ∧ ((H a = some (.ins C1 dx fs) ∧ sp1 [x] H Q E) ∨ (H a = some (.ins C2 dx fs) ∧ sp2 [x] H Q E)))
    (ht : eval (.Call (.Attribute o m apos) [] [] pos) X.env = (do
      let ov ← eval o X.env
      standAt apos.atName
      let (f, first) ← holding [ov] (getMethod ov m pl)
      callWith pos f first (backTo pos (starEach [] X.env)) (backToKw pos (keywordEach [] X.env))) := by rfl) :
    PE X (.Call (.Attribute o m apos) [] [] pos) (tMW R ta) := by
  obtain ⟨f1, fd1, G1, m1, c1, b1⟩ := F1.ex
  obtain ⟨f2, fd2, G2, m2, c2, b2⟩ := F2.ex
  refine ⟨fun pins s σ H Q I h => ?_⟩
  refine PySem.W.methodCall_KW (pl := pl) (thn (he.run pins s σ H _ I h) fun u s1 ⟨x, H1, I1, rx, hq⟩ => ?_) ht
  obtain ⟨a, dx, fs, ex, l, hh⟩ := hR _ _ _ hq
  subst ex
  obtain rfl : u = Value.ref a := rx
  rcases hh with ⟨ea, q⟩ | ⟨ea, q⟩
  · exact getmeth_ok I1 ea c1 m1 l (PySem.W.callWith_K0 (first := [.ref a]) I1.kIn m1.kp (run_fn (dvs := []) (us := [.ref a]) (vs := [.ref a]) G1 hr1 b1 .nil hx1 I1 (.cons rfl .nil) q))
  · exact getmeth_ok I1 ea c2 m2 l (PySem.W.callWith_K0 (first := [.ref a]) I1.kIn m2.kp (run_fn (dvs := []) (us := [.ref a]) (vs := [.ref a]) G2 hr2 b2 .nil hx2 I1 (.cons rfl .nil) q))
end
def rWay (K : PySem.W.Frag) : V → Hp → VK → Prop := fun x H Q => ∃ p w z, x = .ref p ∧ StepAt K H p w z ∧ Q (.str w) H
theorem rWay_ok {K : PySem.W.Frag} {x : V} {H : Hp} {Q : VK} (h : rWay K x H Q) : ∃ a dx fs, x = .ref a ∧ fs.lookup ("way" : Str) = none ∧
    ((H a = some (.ins (He.ga K "Straight") dx fs) ∧ ∃ (a' dx' : Addr) (z' : Str), [x] = [.ref a'] ∧ H a' = some (.ins (He.ga K "Straight") dx' (stF z')) ∧ Q (.str "/") H) ∨ (H a = some (.ins (He.ga K "Anywhere") dx fs) ∧ ∃ (a' dx' : Addr) (z' : Str), [x] = [.ref a'] ∧ H a' = some (.ins (He.ga K "Anywhere") dx' (stF z')) ∧ Q (.str "//") H)) := by
  obtain ⟨p, w, z, rfl, st, k⟩ := h
  exact way_call st k
end Bg

namespace Bg
open PySem PySem.Spec PyProof.Rows L2
/-! ### dicts of numbers -/
def hasK (kv : List (Key × V)) (u : Int) : Prop := (valV kv (Sum.inl u)).isSome = true
theorem hasK_put (kv : List (Key × V)) (a u : Int) (v : V) : hasK (putK kv (Sum.inl a) v) u ↔ u = a ∨ hasK kv u := by
  unfold hasK
  rw [valV_put]
  by_cases e : u = a
  · subst e; simp
  · rw [if_neg (fun z => e (Sum.inl.inj z))]
    simp [e]
theorem putK_le (kv : List (Key × V)) (k : Key) (v : V) : (putK kv k v).length ≤ kv.length + 1 := by
  unfold putK
  split <;> simp
theorem hasK_nil (u : Int) : ¬ hasK [] u := by
  unfold hasK
  simp [valV]
/-- the keys are the numbers of S -/
def Ks (kv : List (Key × V)) (S : Nat → Prop) : Prop := ∀ u : Int, hasK kv u ↔ ∃ n : Nat, u = n ∧ S n
theorem Ks.at_ {kv : List (Key × V)} {S : Nat → Prop} (h : Ks kv S) (n : Nat) : hasK kv n ↔ S n := by
  rw [h]
  constructor
  · rintro ⟨m, e, hm⟩
    have : n = m := by omega
    rw [this]
    exact hm
  · intro hn
    exact ⟨n, rfl, hn⟩
theorem Ks.nil : Ks [] fun _ => False := fun u => ⟨fun h => absurd h (hasK_nil u), fun ⟨_, _, h⟩ => h.elim⟩
theorem Ks.put {kv : List (Key × V)} {S : Nat → Prop} (h : Ks kv S) (a : Nat) (v : V) : Ks (putK kv (Sum.inl (a : Int)) v) fun n => n = a ∨ S n := fun u => by
  rw [hasK_put, h]
  constructor
  · rintro (e | ⟨n, e, hn⟩)
    · exact ⟨a, e, .inl rfl⟩
    · exact ⟨n, e, .inr hn⟩
  · rintro ⟨n, e, rfl | hn⟩
    · exact .inl e
    · exact .inr ⟨n, e, hn⟩
theorem Ks.iff {kv : List (Key × V)} {S S' : Nat → Prop} (h : Ks kv S) (e : ∀ n, S n ↔ S' n) : Ks kv S' := fun u => by
  rw [h]
  exact ⟨fun ⟨n, a, b⟩ => ⟨n, a, (e n).mp b⟩, fun ⟨n, a, b⟩ => ⟨n, a, (e n).mpr b⟩⟩
/-! ### upwards -/
def UpW (ds : List Int) (w : Bool) (q : Nat) (o : Option Int) (n : Nat) : Prop := Bn ds w n q ∧ Dn n o
theorem upw_start {ds : List Int} {w : Bool} {q : Nat} {o : Option Int} (h : UpAt ds q o) (n : Nat) : ¬ UpW ds w q o n := by
  rintro ⟨b, d⟩
  cases o with
  | none => exact h n b.1
  | some u =>
    obtain ⟨m, rfl, p⟩ := h
    have d : (m : Int) < (n : Int) := d
    rcases (p.all n).mp b.1 with e | e
    · omega
    · have := e.1; omega
theorem upw_at {ds : List Int} {w : Bool} {q : Nat} {o : Option Int} (h : UpAt ds q o) (u : Int) (e : o = some u) : ∃ n : Nat, u = n ∧ Bn ds w n q := by
  subst e
  obtain ⟨m, rfl, p⟩ := h
  exact ⟨m, rfl, p.1, .inr p.2⟩
theorem upw_step {ds : List Int} {w : Bool} {q h : Nat} {o : Option Int} (b : Bn ds w h q) (ht : w = true → UpAt ds h o) (hf : w = false → o = none) (n : Nat) : UpW ds w q o n ↔ n = h ∨ UpW ds w q (some (h : Int)) n := by
  constructor
  · rintro ⟨c, d⟩
    rcases Nat.lt_trichotomy n h with e | e | e
    · exfalso
      have a := c.1.mid b.1 e
      cases hw : w with
      | true =>
        have u := ht hw
        cases o with
        | none => exact u n a
        | some z =>
          obtain ⟨m, rfl, p⟩ := u
          have d : (m : Int) < (n : Int) := d
          rcases (p.all n).mp a with f | f
          · omega
          · have := f.1; omega
      | false =>
        have h1 := c.2.resolve_left (by rw [hw]; decide)
        have h2 := b.2.resolve_left (by rw [hw]; decide)
        have := a.dlt
        omega
    · exact .inl e
    · exact .inr ⟨c, show (h : Int) < (n : Int) by omega⟩
  · rintro (rfl | ⟨c, d⟩)
    · refine ⟨b, ?_⟩
      cases o with
      | none => exact trivial
      | some z =>
        cases hw : w with
        | true =>
          obtain ⟨m, rfl, p⟩ := ht hw
          have := p.1.1
          show (m : Int) < (n : Int)
          omega
        | false => exact absurd (hf hw) (by simp)
    · refine ⟨c, ?_⟩
      have d : (h : Int) < (n : Int) := d
      cases o with
      | none => exact trivial
      | some z =>
        cases hw : w with
        | true =>
          obtain ⟨m, rfl, p⟩ := ht hw
          have := p.1.1
          show (m : Int) < (n : Int)
          omega
        | false => exact absurd (hf hw) (by simp)
theorem upw_next {ds : List Int} {w : Bool} {q h : Nat} {o : Option Int} (b : Bn ds w h q) (ht : w = true → UpAt ds h o) (hf : w = false → o = none) (u : Int) (e : o = some u) : ∃ n : Nat, u = n ∧ Bn ds w n q := by
  cases hw : w with
  | false => rw [hf hw] at e; cases e
  | true =>
    subst e
    obtain ⟨m, rfl, p⟩ := ht hw
    exact ⟨m, rfl, p.1.trans b.1, .inl rfl⟩
theorem upw_all {ds : List Int} {w : Bool} {q n : Nat} : UpW ds w q none n ↔ Bn ds w n q := ⟨fun h => h.1, fun h => ⟨h, trivial⟩⟩
/-- those with one of ps beneath -/
def Hav (ds : List Int) (w : Bool) (ps : List Nat) (n : Nat) : Prop := ∃ q ∈ ps, Bn ds w n q
theorem hav_nil {ds : List Int} {w : Bool} {n : Nat} : ¬ Hav ds w [] n := fun ⟨_, h, _⟩ => nomatch h
theorem hav_snoc {ds : List Int} {w : Bool} {ps : List Nat} {q n : Nat} : Hav ds w (ps ++ [q]) n ↔ Hav ds w ps n ∨ Bn ds w n q := by
  constructor
  · rintro ⟨p, h, b⟩
    rcases List.mem_append.mp h with h | h
    · exact .inl ⟨p, h, b⟩
    · rw [List.mem_singleton.mp h] at b
      exact .inr b
  · rintro (⟨p, h, b⟩ | b)
    · exact ⟨p, List.mem_append_left _ h, b⟩
    · exact ⟨q, List.mem_append_right _ (List.mem_singleton.mpr rfl), b⟩
/-- one that is there already brings all above -/
theorem hav_stop {ds : List Int} {w : Bool} {ps : List Nat} {q h : Nat} (b : Bn ds w h q) (hh : Hav ds w ps h ∨ UpW ds w q (some (h : Int)) h) (n : Nat) : (Hav ds w ps n ∨ UpW ds w q (some (h : Int)) n) ↔ Hav ds w (ps ++ [q]) n := by
  rw [hav_snoc]
  have hp : Hav ds w ps h := hh.resolve_right fun z => by
    have : (h : Int) < (h : Int) := z.2
    omega
  constructor
  · rintro (x | x)
    · exact .inl x
    · exact .inr x.1
  · rintro (x | x)
    · exact .inl x
    · rcases Nat.lt_trichotomy n h with e | e | e
      · obtain ⟨p, hp, c⟩ := hp
        refine .inl ⟨p, hp, (x.1.mid b.1 e).trans c.1, ?_⟩
        cases hw : w with
        | true => exact .inl rfl
        | false =>
          have h1 := x.2.resolve_left (by rw [hw]; decide)
          have h2 := b.2.resolve_left (by rw [hw]; decide)
          have := (x.1.mid b.1 e).dlt
          omega
      · rw [e]; exact .inl hp
      · exact .inr ⟨x, show (h : Int) < (n : Int) by omega⟩
/-- those beneath one of ps -/
def Abv (ds : List Int) (w : Bool) (ps : List Nat) (n : Nat) : Prop := ∃ q ∈ ps, Bn ds w q n
theorem abv_nil {ds : List Int} {w : Bool} {n : Nat} : ¬ Abv ds w [] n := fun ⟨_, h, _⟩ => nomatch h
theorem abv_snoc {ds : List Int} {w : Bool} {ps : List Nat} {q n : Nat} : Abv ds w (ps ++ [q]) n ↔ Abv ds w ps n ∨ Bn ds w q n := by
  constructor
  · rintro ⟨p, h, b⟩
    rcases List.mem_append.mp h with h | h
    · exact .inl ⟨p, h, b⟩
    · rw [List.mem_singleton.mp h] at b
      exact .inr b
  · rintro (⟨p, h, b⟩ | b)
    · exact ⟨p, List.mem_append_left _ h, b⟩
    · exact ⟨q, List.mem_append_right _ (List.mem_singleton.mpr rfl), b⟩
theorem abv_in {ds : List Int} {ps : List Nat} {q n : Nat} (h : Abv ds true ps q) : Abv ds true (ps ++ [q]) n ↔ Abv ds true ps n := by
  rw [abv_snoc]
  constructor
  · rintro (x | x)
    · exact x
    · obtain ⟨p, hp, b⟩ := h
      exact ⟨p, hp, b.1.trans x.1, .inl rfl⟩
  · exact .inl
/-! ### tables -/
def wB (w : Str) : Bool := decide (w = "//")
def TabP (H : Hp) (vs : List V) (T : List (List Nat)) : Prop := Paired (fun v row => ∃ a, v = .ref a ∧ H a = some (.lst (row.map vN))) vs T
theorem TabP.same {H H' : Hp} {vs : List V} {T : List (List Nat)} (h : TabP H vs T) (s : Same H H') : TabP H' vs T := h.imp fun _ _ ⟨a, e, q⟩ => ⟨a, e, s _ _ q⟩
def GoodD (dr : List (Str × Int)) (qr : List Sr) (T : List (List Nat)) (s p : Nat) : Prop := (∃ r sr, dr[p]? = some r ∧ qr[s]? = some sr ∧ r.1 = sr.2.1) ∧ ∀ l sl, Par (qds qr) s l → qr[l]? = some sl → Hav (dps dr) (wB sl.1) (T.getD l []) p
structure DownRow (dr : List (Str × Int)) (qr : List Sr) (T : List (List Nat)) (s : Nat) (row : List Nat) : Prop where
  up : row.Pairwise (· < ·)
  mem : ∀ p, p ∈ row ↔ GoodD dr qr T s p
theorem DownRow.lt {dr : List (Str × Int)} {qr : List Sr} {T : List (List Nat)} {s : Nat} {row : List Nat} (h : DownRow dr qr T s row) {p : Nat} (hp : p ∈ row) : p < dr.length := by
  obtain ⟨⟨r, _, hr, _⟩, _⟩ := (h.mem p).mp hp
  exact (List.getElem?_eq_some_iff.mp hr).1
theorem GoodD.congr {dr : List (Str × Int)} {qr : List Sr} {T T' : List (List Nat)} {s p : Nat} (h : ∀ l, s < l → T.getD l [] = T'.getD l []) : GoodD dr qr T s p ↔ GoodD dr qr T' s p := by
  unfold GoodD
  constructor
  · rintro ⟨a, b⟩
    exact ⟨a, fun l sl hp hl => by rw [← h l hp.1.1]; exact b l sl hp hl⟩
  · rintro ⟨a, b⟩
    exact ⟨a, fun l sl hp hl => by rw [h l hp.1.1]; exact b l sl hp hl⟩
theorem DownRow.congr {dr : List (Str × Int)} {qr : List Sr} {T T' : List (List Nat)} {s : Nat} {row : List Nat} (h : ∀ l, s < l → T.getD l [] = T'.getD l []) (d : DownRow dr qr T s row) : DownRow dr qr T' s row := ⟨d.up, fun p => (d.mem p).trans (GoodD.congr h)⟩
theorem DownRow.only {dr : List (Str × Int)} {qr : List Sr} {T : List (List Nat)} {s : Nat} {row row' : List Nat} (d : DownRow dr qr T s row) (e : DownRow dr qr T s row') : row = row' := up_only d.up e.up fun n => (d.mem n).trans (e.mem n).symm
/-- the rows from n on are right -/
structure DownT (dr : List (Str × Int)) (qr : List Sr) (n : Nat) (T : List (List Nat)) : Prop where
  len : T.length = qr.length
  at_ : ∀ s row, n ≤ s → T[s]? = some row → DownRow dr qr T s row
theorem getD_set {T : List (List Nat)} {s l : Nat} {row : List Nat} (h : s ≠ l) : (T.set s row).getD l [] = T.getD l [] := by
  rw [List.getD_eq_getElem?_getD, List.getD_eq_getElem?_getD, List.getElem?_set_ne h]
theorem DownT.step {dr : List (Str × Int)} {qr : List Sr} {s : Nat} {T : List (List Nat)} {row : List Nat} (d : DownT dr qr (s + 1) T) (hs : s < qr.length) (h : DownRow dr qr T s row) : DownT dr qr s (T.set s row) := by
  refine ⟨by rw [List.length_set]; exact d.len, fun k r hk hr => ?_⟩
  by_cases c : s = k
  · subst c
    rw [List.getElem?_set_self (by rw [d.len]; exact hs)] at hr
    cases hr
    exact h.congr fun l hl => (getD_set (by omega)).symm
  · rw [List.getElem?_set_ne c] at hr
    exact (d.at_ k r (by omega) hr).congr fun l hl => (getD_set (by omega)).symm
theorem DownT.only {dr : List (Str × Int)} {qr : List Sr} {T T' : List (List Nat)} (d : DownT dr qr 0 T) (e : DownT dr qr 0 T') : T = T' := by
  have key : ∀ j s, s + j = qr.length → ∀ l, s ≤ l → T.getD l [] = T'.getD l [] := by
    intro j
    induction j with
    | zero =>
      intro s hs l hl
      rw [List.getD_eq_getElem?_getD, List.getD_eq_getElem?_getD, List.getElem?_eq_none (by rw [d.len]; omega), List.getElem?_eq_none (by rw [e.len]; omega)]
    | succ j ih =>
      intro s hs l hl
      by_cases c : s = l
      · subst c
        have h1 : s < T.length := by rw [d.len]; omega
        have h2 : s < T'.length := by rw [e.len]; omega
        have a := d.at_ s _ (Nat.zero_le _) (List.getElem?_eq_getElem h1)
        have b := e.at_ s _ (Nat.zero_le _) (List.getElem?_eq_getElem h2)
        rw [List.getD_eq_getElem?_getD, List.getD_eq_getElem?_getD, List.getElem?_eq_getElem h1, List.getElem?_eq_getElem h2]
        exact (a.congr fun l hl => ih (s + 1) (by omega) l hl).only b
      · exact ih (s + 1) (by omega) l (by omega)
  refine List.ext_getElem? fun i => ?_
  by_cases h : i < qr.length
  · have h1 : i < T.length := by rw [d.len]; omega
    have h2 : i < T'.length := by rw [e.len]; omega
    have := key qr.length 0 (by omega) i (Nat.zero_le _)
    rw [List.getD_eq_getElem?_getD, List.getD_eq_getElem?_getD, List.getElem?_eq_getElem h1, List.getElem?_eq_getElem h2] at this
    rw [List.getElem?_eq_getElem h1, List.getElem?_eq_getElem h2]
    exact congrArg some this
  · rw [List.getElem?_eq_none (by rw [d.len]; omega), List.getElem?_eq_none (by rw [e.len]; omega)]
/-! ### full tables -/
def GoodF (dr : List (Str × Int)) (qr : List Sr) (D T : List (List Nat)) (s p : Nat) : Prop := p ∈ D.getD s [] ∧ ∃ sr, qr[s]? = some sr ∧ (((∀ u, ¬ An (qds qr) u s) ∧ (sr.1 = "//" ∨ p = 0)) ∨ ∃ u, Par (qds qr) u s ∧ Abv (dps dr) (wB sr.1) (T.getD u []) p)
structure FullRow (dr : List (Str × Int)) (qr : List Sr) (D T : List (List Nat)) (s : Nat) (row : List Nat) : Prop where
  up : row.Pairwise (· < ·)
  mem : ∀ p, p ∈ row ↔ GoodF dr qr D T s p
theorem GoodF.congr {dr : List (Str × Int)} {qr : List Sr} {D T T' : List (List Nat)} {s p : Nat} (h : ∀ l, l < s → T.getD l [] = T'.getD l []) : GoodF dr qr D T s p → GoodF dr qr D T' s p := by
  rintro ⟨a, sr, b, c⟩
  refine ⟨a, sr, b, c.imp id ?_⟩
  rintro ⟨u, hp, hq⟩
  exact ⟨u, hp, by rw [← h u hp.1.1]; exact hq⟩
theorem FullRow.congr {dr : List (Str × Int)} {qr : List Sr} {D T T' : List (List Nat)} {s : Nat} {row : List Nat} (h : ∀ l, l < s → T.getD l [] = T'.getD l []) (d : FullRow dr qr D T s row) : FullRow dr qr D T' s row :=
  ⟨d.up, fun p => (d.mem p).trans ⟨GoodF.congr h, GoodF.congr fun l hl => (h l hl).symm⟩⟩
theorem FullRow.only {dr : List (Str × Int)} {qr : List Sr} {D T : List (List Nat)} {s : Nat} {row row' : List Nat} (d : FullRow dr qr D T s row) (e : FullRow dr qr D T s row') : row = row' := up_only d.up e.up fun n => (d.mem n).trans (e.mem n).symm
/-- the first rows -/
def FullT (dr : List (Str × Int)) (qr : List Sr) (D : List (List Nat)) (T : List (List Nat)) : Prop := ∀ s row, T[s]? = some row → FullRow dr qr D T s row
theorem getD_app {T : List (List Nat)} {l : Nat} {row : List Nat} (h : l < T.length) : (T ++ [row]).getD l [] = T.getD l [] := by
  rw [List.getD_eq_getElem?_getD, List.getD_eq_getElem?_getD, List.getElem?_append_left h]
theorem FullT.snoc {dr : List (Str × Int)} {qr : List Sr} {D T : List (List Nat)} {row : List Nat} (d : FullT dr qr D T) (h : FullRow dr qr D T T.length row) : FullT dr qr D (T ++ [row]) := by
  intro s r hr
  by_cases c : s < T.length
  · rw [List.getElem?_append_left c] at hr
    exact (d s r hr).congr fun l hl => (getD_app (by omega)).symm
  · have hs : s = T.length := by
      have := (List.getElem?_eq_some_iff.mp hr).1
      rw [List.length_append, List.length_singleton] at this
      omega
    subst hs
    rw [List.getElem?_append_right (Nat.le_refl _), Nat.sub_self] at hr
    cases hr
    exact h.congr fun l hl => (getD_app (by omega)).symm
theorem FullT.only {dr : List (Str × Int)} {qr : List Sr} {D T T' : List (List Nat)} (d : FullT dr qr D T) (e : FullT dr qr D T') (hl : T.length = T'.length) : T = T' := by
  have key : ∀ s, ∀ l, l < s → T.getD l [] = T'.getD l [] := by
    intro s
    induction s with
    | zero => intro l hl; omega
    | succ s ih =>
      intro l hls
      by_cases c : l < s
      · exact ih l c
      · have : l = s := by omega
        subst this
        by_cases h : l < T.length
        · have h2 : l < T'.length := by omega
          rw [List.getD_eq_getElem?_getD, List.getD_eq_getElem?_getD, List.getElem?_eq_getElem h, List.getElem?_eq_getElem h2]
          exact ((d l _ (List.getElem?_eq_getElem h)).congr ih).only (e l _ (List.getElem?_eq_getElem h2))
        · rw [List.getD_eq_getElem?_getD, List.getD_eq_getElem?_getD, List.getElem?_eq_none (by omega), List.getElem?_eq_none (by omega)]
  refine List.ext_getElem? fun i => ?_
  by_cases h : i < T.length
  · have h2 : i < T'.length := by omega
    have := key (i + 1) i (by omega)
    rw [List.getD_eq_getElem?_getD, List.getD_eq_getElem?_getD, List.getElem?_eq_getElem h, List.getElem?_eq_getElem h2] at this
    rw [List.getElem?_eq_getElem h, List.getElem?_eq_getElem h2]
    exact congrArg some this
  · rw [List.getElem?_eq_none (by omega), List.getElem?_eq_none (by omega)]
/-- rows that are new -/
def TabF (H0 H : Hp) (vs : List V) (T : List (List Nat)) : Prop := Paired (fun v row => ∃ a, v = .ref a ∧ H0 a = none ∧ H a = some (.lst (row.map vN))) vs T
theorem TabF.same {H0 H H' : Hp} {vs : List V} {T : List (List Nat)} (h : TabF H0 H vs T) (s : Same H H') : TabF H0 H' vs T := h.imp fun _ _ ⟨a, e, n, q⟩ => ⟨a, e, n, s _ _ q⟩
theorem TabF.tab {H0 H : Hp} {vs : List V} {T : List (List Nat)} (h : TabF H0 H vs T) : TabP H vs T := h.imp fun _ _ ⟨a, e, n, q⟩ => ⟨a, e, q⟩
theorem wB_t {w : Str} (h : w = "//") : wB w = true := decide_eq_true h
theorem wB_f {w : Str} (h : w = "/") : wB w = false := decide_eq_false (by rw [h]; decide)
theorem rg_nat (q e : Nat) : ∃ ls : List Nat, rgV ((q : Int) + 1) ((e : Int) + 1) = ls.map vN ∧ (∀ n, n ∈ ls ↔ q < n ∧ n ≤ e) ∧ ls.length = e - q := by
  refine ⟨(List.range (e - q)).map fun i => q + 1 + i, ?_, fun n => ?_, by simp⟩
  · unfold rgV
    rw [show (((e : Int) + 1) - ((q : Int) + 1)).toNat = e - q by omega, List.map_map]
    apply List.map_congr_left
    intro i _
    show V.int ((q : Int) + 1 + (i : Int)) = V.int ((q + 1 + i : Nat) : Int)
    congr 1
  · rw [List.mem_map]
    constructor
    · rintro ⟨i, hi, rfl⟩
      rw [List.mem_range] at hi
      omega
    · rintro ⟨h1, h2⟩
      exact ⟨n - (q + 1), by rw [List.mem_range]; omega, by omega⟩
theorem up_len {l : List Nat} {n : Nat} (h : l.Pairwise (· < ·)) (hn : ∀ p ∈ l, p < n) : l.length ≤ n := by
  have h1 : l.Nodup := h.imp fun a => Nat.ne_of_lt a
  have := List.Nodup.length_le_of_subset (l₂ := List.range n) h1 fun p hp => List.mem_range.mpr (hn p hp)
  simpa using this
theorem paired_vN (l : List Nat) : Paired (fun v n => v = vN n) (l.map vN) l := by
  induction l with
  | nil => exact .nil
  | cons a l ih => exact .cons rfl ih
theorem all_map_id {α : Type} (l : List α) (f : α → Bool) : (l.map f).all id = l.all f := by
  rw [List.all_map]
  rfl
theorem TabF.upd {H0 H : Hp} {vs : List V} {T : List (List Nat)} {t : Addr} {o u : HO} (h : TabF H0 H vs T) (ht : H0 t = some o) : TabF H0 (L2.upd H t u) vs T := h.imp fun _ _ ⟨a, e, n, q⟩ => ⟨a, e, n, by
  rw [upd_ne (fun z => by rw [z, ht] at n; cases n)]
  exact q⟩
theorem TabF.back {H0 H1 H : Hp} {vs : List V} {T : List (List Nat)} (h : TabF H1 H vs T) (s : Same H0 H1) : TabF H0 H vs T := h.imp fun _ _ ⟨a, e, n, q⟩ => ⟨a, e, s.free n, q⟩
theorem DownT.row {dr : List (Str × Int)} {qr : List Sr} {D : List (List Nat)} (hD : DownT dr qr 0 D) {s : Nat} (hs : s < qr.length) : ∃ row, D[s]? = some row ∧ D.getD s [] = row ∧ DownRow dr qr D s row := by
  have h : s < D.length := by rw [hD.len]; exact hs
  refine ⟨D[s], List.getElem?_eq_getElem h, ?_, hD.at_ s _ (Nat.zero_le _) (List.getElem?_eq_getElem h)⟩
  rw [List.getD_eq_getElem?_getD, List.getElem?_eq_getElem h]
  rfl
theorem DownT.lt {dr : List (Str × Int)} {qr : List Sr} {D : List (List Nat)} (hD : DownT dr qr 0 D) {s p : Nat} (h : p ∈ D.getD s []) : p < dr.length := by
  by_cases c : s < qr.length
  · obtain ⟨row, _, e, d⟩ := hD.row c
    rw [e] at h
    exact d.lt h
  · rw [List.getD_eq_getElem?_getD, List.getElem?_eq_none (by rw [hD.len]; omega)] at h
    simp at h
theorem FullRow.lt {dr : List (Str × Int)} {qr : List Sr} {D T : List (List Nat)} {s : Nat} {row : List Nat} (hD : DownT dr qr 0 D) (h : FullRow dr qr D T s row) {p : Nat} (hp : p ∈ row) : p < dr.length := hD.lt ((h.mem p).mp hp).1
end Bg

namespace Bg
open PySem PySem.Spec PyProof.Rows L2
/-! ### texts of small letters -/
def LowS (z : Str) : Prop := z.cps.toList.all isLow = true
def abc : Str := "abcdefghijklmnopqrstuvwxyz"
theorem abc_len : abc.cps.toList.length = 26 := by decide +kernel
theorem abc_low : abc.cps.toList.all isLow = true := by decide +kernel
theorem abc_at {i : Int} (h0 : 0 ≤ i) (h1 : i < 26) : ∃ c, atI abc.cps.toList i = some c ∧ isLow c = true := by
  obtain ⟨j, rfl⟩ := Int.eq_ofNat_of_zero_le h0
  have hj : j < abc.cps.toList.length := by rw [abc_len]; omega
  exact ⟨_, atI_nat (List.getElem?_eq_getElem hj), List.all_eq_true.mp abc_low _ (List.getElem_mem hj)⟩
theorem lows_one {c : Nat} (h : isLow c = true) : LowS ⟨#[c]⟩ := by
  unfold LowS
  simp [h]
theorem lows_app {y z : Str} (hy : LowS y) (hz : LowS z) : LowS (y ++ z) := by
  unfold LowS at *
  rw [show (y ++ z).cps = y.cps ++ z.cps from rfl, Array.toList_append, List.all_append, hy, hz]
  rfl
theorem len_app (y z : Str) : (y ++ z).length = y.length + z.length := by
  show (y ++ z).cps.size = _
  rw [show (y ++ z).cps = y.cps ++ z.cps from rfl, Array.size_append]
  rfl
theorem lows_cut {z : Str} (h : LowS z) (a b : Option Int) : LowS (cutS z a b) := by
  unfold LowS at *
  rw [List.all_eq_true] at *
  intro c hc
  refine h c ?_
  unfold cutS at hc
  rw [List.toList_toArray] at hc
  exact List.mem_of_mem_drop (List.mem_of_mem_take hc)
theorem len_cut_to (z : Str) (i : Int) (h : 0 ≤ i) : ((cutS z none (some i)).length : Int) ≤ i ∧ (cutS z none (some i)).length ≤ z.length := by
  obtain ⟨n, rfl⟩ := Int.eq_ofNat_of_zero_le h
  have e : (cutS z none (some (n : Int))).length = min n z.length := by
    show (cutS z none (some (n : Int))).cps.size = _
    unfold cutS
    rw [HT.sIx_none, HT.sIx_nat]
    have : z.cps.toList.length = z.length := by simp [Str.length]
    simp [this]
  rw [e]
  omega
theorem lows_fold : ∀ (r : List Str) (acc : Array Nat), acc.toList.all isLow = true → (∀ y ∈ r, LowS y) → (r.foldl (fun acc p => acc ++ ("" : Str).cps ++ p.cps) acc).toList.all isLow = true
  | [], acc, h, _ => h
  | y :: r, acc, h, hr => by
    rw [List.foldl_cons]
    refine lows_fold r _ ?_ fun z hz => hr z (List.mem_cons_of_mem _ hz)
    have := hr y (List.mem_cons_self ..)
    unfold LowS at this
    rw [Array.toList_append, Array.toList_append, List.all_append, List.all_append, h, this]
    rfl
theorem lows_join {ys : List Str} (h : ∀ y ∈ ys, LowS y) : LowS (Txt.join "" ys) := by
  cases ys with
  | nil => unfold LowS; decide +kernel
  | cons y r => exact lows_fold r y.cps (h y (List.mem_cons_self ..)) fun z hz => h z (List.mem_cons_of_mem _ hz)
theorem label_of_low {z : Str} (h : LowS z) (h1 : 1 ≤ z.length) (h2 : z.length ≤ 8) : labelB z = true := by
  unfold labelB
  rw [decide_eq_true h1, decide_eq_true h2, h]
  rfl
/-! ### questions, as they are drawn -/
def DocD (rows : List (Str × Int)) : Prop := DocOk rows
theorem dv_map {rows : List (Str × Int)} (h : Dv (rows.map (·.2))) : Dv (dps rows) := h
theorem doc_ok {rows : List (Str × Int)} {labels : List Str} (h1 : 1 ≤ rows.length) (h2 : rows.length ≤ 240) (hl : ∀ r ∈ rows, r.1 ∈ labels) (hb : ∀ z ∈ labels, labelB z = true) (dv : Dv (rows.map (·.2))) (hd : ∀ r ∈ rows, r.2 ≤ 80) : DocOk rows := ⟨h1, h2, fun r hr => hb _ (hl r hr), dv, hd⟩
theorem _root_.L2.SqL.updNe {K : PySem.W.Frag} {H : Hp} {a b : Addr} {xs : List V} {o : HO} (h : SqL K H a xs) (n : a ≠ b) : SqL K (L2.upd H b o) a xs := by
  rcases h with (h | ⟨o', h⟩) | h
  · exact .inl (.inl ((upd_ne n).trans h))
  · exact .inl (.inr ⟨o', (upd_ne n).trans h⟩)
  · exact .inr h
def wldD (p s : Addr) (g : Int) : List (Key × V) := [(Sum.inr "parts", .ref p), (Sum.inr "steps", .ref s), (Sum.inr "wanted", .int g)]
theorem w_ps : ¬ (("parts" : Str) = "steps") := by decide +kernel
theorem w_pw : ¬ (("parts" : Str) = "wanted") := by decide +kernel
theorem w_sw : ¬ (("steps" : Str) = "wanted") := by decide +kernel
theorem wld_merge (p s : Addr) (g : Int) : mergeK [] [(Sum.inr "parts", .ref p), (Sum.inr "steps", .ref s), (Sum.inr "wanted", .int g)] = wldD p s g := by
  have e1 := kne w_ps
  have e2 := kne w_pw
  have e3 := kne w_sw
  simp [mergeK, putK, wldD, e1, e2, e3]
theorem wld_p (p s : Addr) (g : Int) : valV (wldD p s g) (Sum.inr "parts") = some (.ref p) := valV_pos rfl
theorem wld_s (p s : Addr) (g : Int) : valV (wldD p s g) (Sum.inr "steps") = some (.ref s) := by
  have e1 := kne w_ps
  simp [valV, wldD, e1]
theorem wld_w (p s : Addr) (g : Int) : valV (wldD p s g) (Sum.inr "wanted") = some (.int g) := by
  have e2 := kne w_pw
  have e3 := kne w_sw
  simp [valV, wldD, e2, e3]
theorem wget_p {H : Hp} {a p s : Addr} {g : Int} (h : H a = some (.dK (wldD p s g))) : DGet H a (.str "parts") (some (.ref p)) := by
  have := DGet.k (k := Sum.inr "parts") h
  rw [wld_p] at this
  exact this
theorem wget_s {H : Hp} {a p s : Addr} {g : Int} (h : H a = some (.dK (wldD p s g))) : DGet H a (.str "steps") (some (.ref s)) := by
  have := DGet.k (k := Sum.inr "steps") h
  rw [wld_s] at this
  exact this
theorem wget_w {H : Hp} {a p s : Addr} {g : Int} (h : H a = some (.dK (wldD p s g))) : DGet H a (.str "wanted") (some (.int g)) := by
  have := DGet.k (k := Sum.inr "wanted") h
  rw [wld_w] at this
  exact this
structure WldIn (K : PySem.W.Frag) (H : Hp) (p : Addr) (dr : List (Str × Int)) (qr : List Sr) (g : Nat) (pa sa : Addr) (pv sv : List V) : Prop where
  ob : H p = some (.dK (wldD pa sa g))
  pa_ : H pa = some (.lst pv)
  sa_ : H sa = some (.lst sv)
  pp : PL K H eRow pv dr
  ps : PL K H eStep sv qr
  dok : DocOk dr
  qok : QuOk qr g
def Wld (K : PySem.W.Frag) (H : Hp) (p : Addr) (dr : List (Str × Int)) (qr : List Sr) (g : Nat) : Prop := ∃ pa sa pv sv, WldIn K H p dr qr g pa sa pv sv
theorem WldIn.same {K : PySem.W.Frag} {H H' : Hp} {p : Addr} {dr : List (Str × Int)} {qr : List Sr} {g : Nat} {pa sa : Addr} {pv sv : List V} (h : WldIn K H p dr qr g pa sa pv sv) (s : Same H H') : WldIn K H' p dr qr g pa sa pv sv := ⟨s _ _ h.ob, s _ _ h.pa_, s _ _ h.sa_, h.pp.same s, h.ps.same s, h.dok, h.qok⟩
/-! ### the law's own tables -/
def bnD (d1 d2 : Addr) : List (Key × V) := [(Sum.inr "/", .ref d1), (Sum.inr "//", .ref d2)]
theorem w_12 : ¬ (("/" : Str) = "//") := by decide +kernel
theorem w_21 : ¬ (("//" : Str) = "/") := by decide +kernel
theorem bn_merge (d1 : Addr) : mergeK [] [((Sum.inr "/" : Key), V.ref d1)] = [((Sum.inr "/" : Key), V.ref d1)] := by simp [mergeK, putK]
theorem bn_put (d1 d2 : Addr) : putK [((Sum.inr "/" : Key), V.ref d1)] (Sum.inr "//" : Key) (V.ref d2) = bnD d1 d2 := by
  have e1 := kne w_12
  simp [putK, bnD, e1]
theorem bn_get {H : Hp} {b d1 d2 : Addr} (h : H b = some (.dK (bnD d1 d2))) {w : Str} (hw : w = "/" ∨ w = "//") : DGet H b (.str w) (some (.ref (if wB w = true then d2 else d1))) := by
  rcases hw with rfl | rfl
  · have := DGet.k (k := Sum.inr "/") h
    rw [show valV (bnD d1 d2) (Sum.inr "/") = some (.ref d1) from valV_pos rfl] at this
    exact this
  · have := DGet.k (k := Sum.inr "//") h
    have e1 := kne w_12
    rw [show valV (bnD d1 d2) (Sum.inr "//") = some (.ref d2) by simp [valV, bnD, e1]] at this
    exact this
structure LEnv (K : PySem.W.Frag) (H : Hp) (pa sa b ua : Addr) (pv sv : List V) (dr : List (Str × Int)) (qr : List Sr) (g : Nat) (d1 d2 : Addr) (kv1 kv2 : List (List Key × V)) (us : List (Option Int)) : Prop where
  hpa : SqL K H pa pv
  pp : PL K H eRow pv dr
  dok : DocOk dr
  hsa : SqL K H sa sv
  ps : PL K H eStep sv qr
  qok : QuOk qr g
  hb : H b = some (.dK (bnD d1 d2))
  h1 : H d1 = some (.dT kv1)
  p1 : Prs (dps dr) false dr.length kv1
  h2 : H d2 = some (.dT kv2)
  p2 : Prs (dps dr) true dr.length kv2
  hu : H ua = some (.lst (us.map vOpt))
  uo : UpOk (qds qr) us
section
variable {K : PySem.W.Frag} {H H' : Hp} {pa sa b ua : Addr} {pv sv : List V} {dr : List (Str × Int)} {qr : List Sr} {g : Nat} {d1 d2 : Addr} {kv1 kv2 : List (List Key × V)} {us : List (Option Int)}
theorem LEnv.same (h : LEnv K H pa sa b ua pv sv dr qr g d1 d2 kv1 kv2 us) (s : Same H H') : LEnv K H' pa sa b ua pv sv dr qr g d1 d2 kv1 kv2 us :=
  ⟨s.seq h.hpa, h.pp.same s, h.dok, s.seq h.hsa, h.ps.same s, h.qok, s _ _ h.hb, s _ _ h.h1, h.p1, s _ _ h.h2, h.p2, s _ _ h.hu, h.uo⟩
/-- the dict of a way, and what it has -/
theorem LEnv.way (h : LEnv K H pa sa b ua pv sv dr qr g d1 d2 kv1 kv2 us) {w : Str} (hw : w = "/" ∨ w = "//") : ∃ d kv, DGet H b (.str w) (some (.ref d)) ∧ H d = some (.dT kv) ∧ ∀ p q : Nat, q < dr.length → (has2 kv p q ↔ Bn (dps dr) (wB w) p q) := by
  have key : ∀ {x : Bool} {kv : List (List Key × V)}, Prs (dps dr) x dr.length kv → ∀ p q : Nat, q < dr.length → (has2 kv p q ↔ Bn (dps dr) x p q) := fun hp p q hq => by
    rw [hp]
    constructor
    · rintro ⟨a, b, e1, e2, _, hb⟩
      have e1 : p = a := by omega
      have e2 : q = b := by omega
      rw [e1, e2]
      exact hb
    · intro hb
      exact ⟨p, q, rfl, rfl, hq, hb⟩
  cases e : wB w with
  | true => exact ⟨d2, kv2, by have := bn_get h.hb hw; rw [e] at this; exact this, h.h2, key h.p2⟩
  | false => exact ⟨d1, kv1, by have := bn_get h.hb hw; rw [e] at this; exact this, h.h1, key h.p1⟩
theorem LEnv.row (h : LEnv K H pa sa b ua pv sv dr qr g d1 d2 kv1 kv2 us) {p : Nat} (hp : p < dr.length) : ∃ t, atI pv (p : Int) = some (.ref t) ∧ SqT K H t [.str dr[p].1, .int dr[p].2] := by
  obtain ⟨v, hv, dv⟩ := h.pp.get' (List.getElem?_eq_getElem hp)
  obtain ⟨t, rfl, ht⟩ := dp_row dv
  exact ⟨t, atI_nat hv, ht⟩
theorem LEnv.step (h : LEnv K H pa sa b ua pv sv dr qr g d1 d2 kv1 kv2 us) {p : Nat} (hp : p < qr.length) : ∃ t, atI sv (p : Int) = some (.ref t) ∧ SqT K H t [.str qr[p].1, .str qr[p].2.1, .int qr[p].2.2] := by
  obtain ⟨v, hv, dv⟩ := h.ps.get' (List.getElem?_eq_getElem hp)
  obtain ⟨t, rfl, ht⟩ := dp_step dv
  exact ⟨t, atI_nat hv, ht⟩
theorem LEnv.up (h : LEnv K H pa sa b ua pv sv dr qr g d1 d2 kv1 kv2 us) {l : Nat} (hl : l < qr.length) : ∃ o, atI (us.map vOpt) (l : Int) = some (vOpt o) ∧ UpAt (qds qr) l o := by
  have hlt : l < us.length := by rw [h.uo.len, qds_len]; exact hl
  exact ⟨us[l], atI_nat (by rw [List.getElem?_map, List.getElem?_eq_getElem hlt]; rfl), h.uo.at_ l _ (List.getElem?_eq_getElem hlt)⟩
end
theorem up_par {ds : List Int} {l st : Nat} {o : Option Int} (h : UpAt ds l o) : vOpt o = V.int (st : Int) ↔ Par ds st l := by
  cases o with
  | none => exact ⟨(fun z => nomatch z), (fun p => absurd p.1 (h st))⟩
  | some u =>
    obtain ⟨m, rfl, p⟩ := h
    constructor
    · intro z
      injection z with z
      have : m = st := by omega
      rw [← this]
      exact p
    · intro q
      rw [p.only q]
      rfl
theorem TabF.row {H0 H : Hp} {vs : List V} {T : List (List Nat)} {s : Nat} {a : Addr} {row : List Nat} (h : TabF H0 H vs T) (nd : vs.Nodup) (ha : vs[s]? = some (.ref a)) : TabF H0 (L2.upd H a (.lst (row.map vN))) vs (T.set s row) := by
  have hlen : vs.length = T.length := Paired.length h
  refine Paired.of_get (by rw [List.length_set]; exact hlen) fun i v r hv hr => ?_
  by_cases c : s = i
  · subst c
    rw [ha] at hv
    cases hv
    have hs : s < T.length := by rw [← hlen]; exact (List.getElem?_eq_some_iff.mp ha).1
    rw [List.getElem?_set_self hs] at hr
    cases hr
    obtain ⟨r', _, b, e, n, _⟩ := Paired.get h ha
    cases e
    exact ⟨a, rfl, n, upd_same⟩
  · rw [List.getElem?_set_ne c] at hr
    obtain ⟨r', hr', b, e, n, q⟩ := Paired.get h hv
    rw [hr] at hr'
    cases hr'
    subst e
    refine ⟨b, rfl, n, ?_⟩
    rw [upd_ne (fun z => c ?_)]
    · exact q
    · subst z
      obtain ⟨h1, e1⟩ := List.getElem?_eq_some_iff.mp ha
      obtain ⟨h2, e2⟩ := List.getElem?_eq_some_iff.mp hv
      have np := List.pairwise_iff_getElem.mp nd
      rcases Nat.lt_trichotomy s i with x | x | x
      · exact absurd (e1.trans e2.symm) (np s i h1 h2 x)
      · exact x
      · exact absurd (e2.trans e1.symm) (np i s h2 h1 x)
theorem TabF.addr {H0 H : Hp} {vs : List V} {T : List (List Nat)} {s : Nat} (h : TabF H0 H vs T) (hs : s < T.length) : ∃ a, vs[s]? = some (.ref a) ∧ H0 a = none ∧ H a = some (.lst (T[s].map vN)) := by
  obtain ⟨v, hv, a, rfl, n, q⟩ := Paired.get' h (List.getElem?_eq_getElem hs)
  exact ⟨a, hv, n, q⟩
theorem pl_vN {K : PySem.W.Frag} {H : Hp} (l : List Nat) : PL K H (fun n : Nat => PyData.int (n : Int)) (l.map vN) l := by
  induction l with
  | nil => exact .nil
  | cons a l ih => exact .cons (.int _) ih
theorem gd_nats (l : List Nat) : Gd 1 (.list (l.map fun n : Nat => PyData.int (n : Int))) := Gd.map fun n _ => gd_int _
theorem set_nil {T : List (List Nat)} {s : Nat} (h : T[s]? = some []) : T.set s [] = T := by
  refine List.ext_getElem? fun i => ?_
  by_cases c : s = i
  · subst c
    rw [List.getElem?_set_self (List.getElem?_eq_some_iff.mp h).1, h]
  · rw [List.getElem?_set_ne c]
theorem filter_some {α : Type} (l : List α) (f : α → Bool) : (!(l.filter f).isEmpty) = true ↔ ∃ x ∈ l, f x = true := by
  cases e : l.filter f with
  | nil =>
    constructor
    · intro z; cases z
    · rintro ⟨x, hx, hf⟩
      have : x ∈ l.filter f := List.mem_filter.mpr ⟨hx, hf⟩
      rw [e] at this
      cases this
  | cons y r =>
    constructor
    · intro _
      have : y ∈ l.filter f := by rw [e]; exact List.mem_cons_self ..
      exact ⟨y, (List.mem_filter.mp this).1, (List.mem_filter.mp this).2⟩
    · intro _; rfl
theorem dget_same {H H' : Hp} {b : Addr} {y : V} {r : Option V} (h : DGet H b y r) (s : Same H H') : DGet H' b y r := by
  rcases h with ⟨kvs, k, hr, e1, e2⟩ | ⟨kvs, k, c, hr, e1, h2, e2⟩
  · refine .inl ⟨kvs, k, ?_, e1, e2⟩
    rcases hr with hr | ⟨o, hr⟩
    · exact .inl (s _ _ hr)
    · exact .inr ⟨o, s _ _ hr⟩
  · refine .inr ⟨kvs, k, c, ?_, e1, s _ _ h2, e2⟩
    rcases hr with hr | ⟨o, hr⟩
    · exact .inl (s _ _ hr)
    · exact .inr ⟨o, s _ _ hr⟩
theorem an_root {ds : List Int} (dv : Dv ds) {k : Nat} (h0 : 0 < k) (hk : k < ds.length) : An ds 0 k := by
  refine ⟨h0, hk, fun j h1 h2 => ?_⟩
  obtain ⟨m, rfl⟩ : ∃ m, j = m + 1 := ⟨j - 1, by omega⟩
  have := (dv.two m (by omega)).1
  have := dv.one
  omega
theorem made0 {H : Hp} {x dx : Addr} {o u : HO} (hx : H x = none) (hd : H dx = none) (hne : dx ≠ x) : Same H (L2.upd (L2.upd H dx o) x u) := (L2.Same.new hd).mut hx
def eT (row : List Nat) : PyData := .list (row.map fun n : Nat => PyData.int (n : Int))
theorem tab_pl {K : PySem.W.Frag} {H : Hp} {vs : List V} {T : List (List Nat)} (h : TabP H vs T) : PL K H eT vs T := h.imp fun v row ⟨a, e, q⟩ => by
  subst e
  exact (pl_vN row).dp (SqL.of q)
theorem gd_tab (T : List (List Nat)) : Gd 2 (.list (T.map eT)) := Gd.map fun row _ => gd_nats row
end Bg

namespace Bg
open PySem PySem.Spec PyProof.Rows L2
/-! ### maps between questions -/
def Likes (r1 : List Sr) (g1 : Nat) (r2 : List Sr) (g2 s im : Nat) : Prop := (∃ a b : Sr, r1[s]? = some a ∧ r2[im]? = some b ∧ a.2.1 = b.2.1) ∧ (s = g1 → im = g2)
def GoesT (r1 r2 : List Sr) (s im : Nat) : Option Nat → Prop
  | none => ∃ a : Sr, r1[s]? = some a ∧ (a.1 ≠ ("/" : Str) ∨ (im = 0 ∧ ∃ b : Sr, r2[0]? = some b ∧ b.1 = ("/" : Str)))
  | some u => ∃ a : Sr, r1[s]? = some a ∧ ((a.1 = ("/" : Str) ∧ Par (qds r2) u im ∧ ∃ b : Sr, r2[im]? = some b ∧ b.1 = ("/" : Str)) ∨ (a.1 ≠ ("/" : Str) ∧ An (qds r2) u im))
def vO : Option Nat → V
  | none => .non
  | some n => .int (n : Int)
theorem StepAt.lab {K : PySem.W.Frag} {H : Hp} {p : Addr} {w z : Str} (st : StepAt K H p w z) (c1 : Cls K (He.ga K "Straight")) (n1 : NoAttr K (He.ga K "Straight") "label") (c2 : Cls K (He.ga K "Anywhere")) (n2 : NoAttr K (He.ga K "Anywhere") "label") : ∃ C dx, H p = some (.ins C dx (stF z)) ∧ Cls K C ∧ NoAttr K C "label" := by
  obtain ⟨dx, ⟨e, h⟩ | ⟨e, h⟩⟩ := st
  · exact ⟨_, dx, h, c1, n1⟩
  · exact ⟨_, dx, h, c2, n2⟩
theorem goes_none {r1 r2 : List Sr} {s im : Nat} (hs : s < r1.length) (h0 : 0 < r2.length) : GoesT r1 r2 s im none ↔ (¬ r1[s].1 = ("/" : Str)) ∨ (im = 0 ∧ r2[0].1 = ("/" : Str)) := by
  show (∃ a : Sr, r1[s]? = some a ∧ _) ↔ _
  rw [List.getElem?_eq_getElem hs, List.getElem?_eq_getElem h0]
  constructor
  · rintro ⟨a, e, h⟩
    cases e
    rcases h with h | ⟨h, b, e, h'⟩
    · exact .inl h
    · cases e
      exact .inr ⟨h, h'⟩
  · rintro (h | ⟨h, h'⟩)
    · exact ⟨_, rfl, .inl h⟩
    · exact ⟨_, rfl, .inr ⟨h, _, rfl, h'⟩⟩
theorem goes_some {r1 r2 : List Sr} {s im u : Nat} (hs : s < r1.length) (him : im < r2.length) : GoesT r1 r2 s im (some u) ↔ (r1[s].1 = ("/" : Str) ∧ Par (qds r2) u im ∧ r2[im].1 = ("/" : Str)) ∨ (¬ r1[s].1 = ("/" : Str) ∧ An (qds r2) u im) := by
  show (∃ a : Sr, r1[s]? = some a ∧ _) ↔ _
  rw [List.getElem?_eq_getElem hs, List.getElem?_eq_getElem him]
  constructor
  · rintro ⟨a, e, h⟩
    cases e
    rcases h with ⟨h, h1, b, e, h2⟩ | h
    · cases e
      exact .inl ⟨h, h1, h2⟩
    · exact .inr h
  · rintro (⟨h, h1, h2⟩ | h)
    · exact ⟨_, rfl, .inl ⟨h, h1, _, rfl, h2⟩⟩
    · exact ⟨_, rfl, .inr h⟩
def StepOk (r1 : List Sr) (g1 : Nat) (r2 : List Sr) (g2 : Nat) (im : List Nat) (s : Nat) : Prop := ∀ x, im[s]? = some x → Likes r1 g1 r2 g2 s x ∧ ((∀ u, ¬ An (qds r1) u s) → GoesT r1 r2 s x none) ∧ ∀ u y, Par (qds r1) u s → im[u]? = some y → GoesT r1 r2 s x (some y)
def IsMap (r1 : List Sr) (g1 : Nat) (r2 : List Sr) (g2 : Nat) (fv : List V) : Prop := ∃ im : List Nat, fv = im.map vN ∧ im.length = r1.length ∧ (∀ x ∈ im, x < r2.length) ∧ ∀ s, s < im.length → StepOk r1 g1 r2 g2 im s
theorem vN_inj {l m : List Nat} (h : l.map vN = m.map vN) : l = m := by
  induction l generalizing m with
  | nil =>
    cases m with
    | nil => rfl
    | cons _ _ => cases h
  | cons a l ih =>
    cases m with
    | nil => cases h
    | cons b m =>
      rw [List.map_cons, List.map_cons] at h
      injection h with h1 h2
      have : a = b := by
        have h1 : V.int (a : Int) = V.int (b : Int) := h1
        injection h1 with h1
        omega
      rw [this, ih h2]
theorem isMap_vN {r1 : List Sr} {g1 : Nat} {r2 : List Sr} {g2 : Nat} {im : List Nat} (hl : im.length = r1.length) (hb : ∀ x ∈ im, x < r2.length) : IsMap r1 g1 r2 g2 (im.map vN) ↔ ∀ s, s < im.length → StepOk r1 g1 r2 g2 im s := by
  constructor
  · rintro ⟨im', e, _, _, h⟩
    rw [vN_inj e]
    exact h
  · intro h
    exact ⟨im, rfl, hl, hb, h⟩
theorem isMap_at {r1 : List Sr} {g1 : Nat} {r2 : List Sr} {g2 : Nat} {fv : List V} {i : Nat} {x : V} (h : IsMap r1 g1 r2 g2 fv) (hi : fv[i]? = some x) : ∃ y : Nat, x = .int (y : Int) ∧ y < r2.length := by
  obtain ⟨im, e, _, hb, _⟩ := h
  rw [e, List.getElem?_map] at hi
  cases q : im[i]? with
  | none => rw [q] at hi; cases hi
  | some y =>
    rw [q] at hi
    exact ⟨y, (Option.some.inj hi).symm, hb y (List.mem_of_getElem? q)⟩
theorem step_none {r1 : List Sr} {g1 : Nat} {r2 : List Sr} {g2 : Nat} {im : List Nat} {s y : Nat} (hy : im[s]? = some y) (ho : ∀ u, ¬ An (qds r1) u s) : StepOk r1 g1 r2 g2 im s ↔ Likes r1 g1 r2 g2 s y ∧ GoesT r1 r2 s y none := by
  constructor
  · intro h
    obtain ⟨h1, h2, _⟩ := h y hy
    exact ⟨h1, h2 ho⟩
  · rintro ⟨h1, h2⟩ x hx
    rw [hy] at hx
    cases hx
    exact ⟨h1, fun _ => h2, fun u z p _ => absurd p.1 (ho u)⟩
theorem step_some {r1 : List Sr} {g1 : Nat} {r2 : List Sr} {g2 : Nat} {im : List Nat} {s y u z : Nat} (hy : im[s]? = some y) (p : Par (qds r1) u s) (hz : im[u]? = some z) : StepOk r1 g1 r2 g2 im s ↔ Likes r1 g1 r2 g2 s y ∧ GoesT r1 r2 s y (some z) := by
  constructor
  · intro h
    obtain ⟨h1, _, h2⟩ := h y hy
    exact ⟨h1, h2 u z p hz⟩
  · rintro ⟨h1, h2⟩ x hx
    rw [hy] at hx
    cases hx
    refine ⟨h1, fun h => absurd p.1 (h u), fun u' z' p' hz' => ?_⟩
    have : u' = u := p.only p'
    subst this
    rw [hz] at hz'
    cases hz'
    exact h2
theorem Knd.only {K : PySem.W.Frag} {H : Hp} {i : Int} {t t' : String} (h : Knd K H (.int i) t) (h' : Knd K H (.int i) t') : t = "int" := by
  obtain ⟨h, _⟩ := h
  generalize ht : Value.type t = tv at h
  cases h with
  | base b =>
    cases b with
    | int x => injection ht
end Bg
namespace Bg
open PySem PySem.Spec PyProof.Rows L2
/-! ### the law's questions: a tuple of rows and the wanted one -/
structure QT (K : PySem.W.Frag) (H : Hp) (t : Addr) (rows : List Sr) (g : Nat) (l : Addr) (vs : List V) : Prop where
  tp : SqT K H t [.ref l, .int (g : Int)]
  ls : H l = some (.lst vs)
  pl : PL K H eStep vs rows
  ok : QuOk rows g
theorem QT.same {K : PySem.W.Frag} {H H' : Hp} {t : Addr} {rows : List Sr} {g : Nat} {l : Addr} {vs : List V} (h : QT K H t rows g l vs) (s : Same H H') : QT K H' t rows g l vs := ⟨s.tup h.tp, s _ _ h.ls, h.pl.same s, h.ok⟩
theorem QT.src {K : PySem.W.Frag} {H H' : Hp} {a t : Addr} {rows : List Sr} {g : Nat} {l : Addr} {vs : List V} (h : QT K H t rows g l vs) (b : But a H H') (S : Src H a) : QT K H' t rows g l vs := by
  obtain ⟨x, y, z, hS⟩ := S
  exact ⟨(TK.butD b hS).sq h.tp, b _ _ (ne_of h.ls hS (fun z => nomatch z)) h.ls, h.pl.tk (TK.butD b hS) flat_step, h.ok⟩
end Bg
namespace Bg
open PySem PySem.Spec PyProof.Rows L2
/-- above lo: o itself or above it -/
def AtUp (ds : List Int) (hi : Nat) : Option Int → Prop
  | none => False
  | some u => ∃ n : Nat, u = n ∧ (hi = n ∨ An ds hi n)
theorem atUp_start {ds : List Int} {hi lo : Nat} {o : Option Int} (h : UpAt ds lo o) : AtUp ds hi o ↔ An ds hi lo := by
  cases o with
  | none => exact ⟨fun z => z.elim, fun a => absurd a (h hi)⟩
  | some u =>
    obtain ⟨n, rfl, p⟩ := h
    rw [p.all]
    constructor
    · rintro ⟨m, e, z⟩
      have : n = m := by omega
      rw [this]
      exact z
    · intro z
      exact ⟨n, rfl, z⟩
theorem QT.row {K : PySem.W.Frag} {H : Hp} {t : Addr} {rows : List Sr} {g : Nat} {l : Addr} {vs : List V} (h : QT K H t rows g l vs) {p : Nat} (hp : p < rows.length) : ∃ t', atI vs (p : Int) = some (.ref t') ∧ SqT K H t' [.str rows[p].1, .str rows[p].2.1, .int rows[p].2.2] := by
  obtain ⟨v, hv, dv⟩ := h.pl.get' (List.getElem?_eq_getElem hp)
  obtain ⟨t, rfl, ht⟩ := dp_step dv
  exact ⟨t, atI_nat hv, ht⟩
end Bg
namespace Bg
open PySem PySem.Spec PyProof.Rows L2
theorem likes_iff {r1 : List Sr} {g1 : Nat} {r2 : List Sr} {g2 s im : Nat} (hs : s < r1.length) (him : im < r2.length) : Likes r1 g1 r2 g2 s im ↔ r1[s].2.1 = r2[im].2.1 ∧ (s = g1 → im = g2) := by
  unfold Likes
  rw [List.getElem?_eq_getElem hs, List.getElem?_eq_getElem him]
  constructor
  · rintro ⟨⟨a, b, e1, e2, e⟩, h⟩
    cases e1
    cases e2
    exact ⟨e, h⟩
  · rintro ⟨e, h⟩
    exact ⟨⟨_, _, rfl, rfl, e⟩, h⟩
theorem nev_str {a b : Str} : (!decide (V.str a = V.str b)) = true ↔ ¬ a = b := by
  rw [Bool.not_eq_true', decide_eq_false_iff_not]
  exact ⟨fun z e => z (by rw [e]), fun z e => by injection e with e; exact z e⟩
theorem eqv_str {a b : Str} : decide (V.str a = V.str b) = true ↔ a = b := by
  rw [decide_eq_true_iff]
  exact ⟨fun z => by injection z, fun z => by rw [z]⟩
theorem eqv_nat {a b : Nat} : decide (V.int (a : Int) = V.int (b : Int)) = true ↔ a = b := by
  rw [decide_eq_true_iff]
  exact ⟨fun z => by injection z with z; omega, fun z => by rw [z]⟩
theorem nev_nat {a b : Nat} : (!decide (V.int (a : Int) = V.int (b : Int))) = true ↔ ¬ a = b := by
  rw [Bool.not_eq_true', decide_eq_false_iff_not]
  exact ⟨fun z e => z (by rw [e]), fun z e => by injection e with e; omega⟩
end Bg

namespace Va
open PySem PySem.Spec PyProof.Rows L2 Bg
/-! ### things as trees, and programs as what they ask -/
inductive D where
  | non | bl (b : Bool) | int (i : Int) | str (z : Str)
  | lst (xs : List D) | tup (xs : List D) | dct (kvs : List (Key × D)) | dcp (kvs : List (List Key × D)) | obj (C : Str) (fs : List (Str × D))
/-- an own exception: its class, its one field -/
structure Exn where
  cls : Str
  fld : D
def M (α : Type) : Type := (α → Prop) → (Exn → Prop) → Prop
instance : Monad M where
  pure a := fun P _ => P a
  bind m f := fun P E => m (fun a => f a P E) E
theorem pure_ap {α : Type} (a : α) (P : α → Prop) (E : Exn → Prop) : (pure a : M α) P E = P a := rfl
theorem bind_ap {α β : Type} (m : M α) (f : α → M β) (P : β → Prop) (E : Exn → Prop) : (m >>= f) P E = m (fun a => f a P E) E := rfl
theorem pure_bd {α β : Type} (a : α) (f : α → M β) : (pure a >>= f) = f a := rfl
theorem bind_pr {α : Type} (m : M α) : (m >>= fun a => pure a) = m := rfl
theorem bind_bd {α β γ : Type} (m : M α) (f : α → M β) (g : β → M γ) : ((m >>= f) >>= g) = (m >>= fun a => f a >>= g) := rfl
def need (c : Prop) : M Unit := fun P _ => c ∧ P ()
/-- nothing is raised -/
def noX {α : Type} (w : M α) : M α := fun P _ => w P fun _ => False
theorem noX_ap {α : Type} (w : M α) (P : α → Prop) (E : Exn → Prop) : noX w P E = w P fun _ => False := rfl
/-! ### heaps -/
abbrev AP := Addr → Prop
def No : AP := fun _ => False
def Pl (O : AP) (p : Addr) : AP := fun b => O b ∨ b = p
def isSrc : HO → Prop
  | .dK kvs => ∃ n s t : Int, kvs = srcD n s t
  | _ => False
structure Ext (A : AP) (H H' : Hp) : Prop where
  keep : ∀ b o, ¬ A b → ¬ isSrc o → H b = some o → H' b = some o
  src : ∀ b, Src H b → Src H' b
theorem Ext.refl (A : AP) (H : Hp) : Ext A H H := ⟨fun _ _ _ _ h => h, fun _ h => h⟩
theorem Ext.trans {A : AP} {H H1 H2 : Hp} (x : Ext A H H1) (y : Ext A H1 H2) : Ext A H H2 := ⟨fun b o n s h => y.keep b o n s (x.keep b o n s h), fun b h => y.src b (x.src b h)⟩
theorem Ext.wk {A A' : AP} {H H1 : Hp} (x : Ext A H H1) (h : ∀ b, A b → A' b) : Ext A' H H1 := ⟨fun b o n s q => x.keep b o (fun z => n (h b z)) s q, x.src⟩
theorem Ext.no {A : AP} {H H1 : Hp} (x : Ext No H H1) : Ext A H H1 := x.wk fun _ z => z.elim
theorem Ext.of_same {A : AP} {H H1 : Hp} (x : Same H H1) : Ext A H H1 := ⟨fun b o _ _ h => x b o h, fun b ⟨n, s, t, h⟩ => ⟨n, s, t, x _ _ h⟩⟩
theorem Ext.new {A : AP} {H : Hp} {p : Addr} {o : HO} (h : H p = none) : Ext A H (upd H p o) := .of_same (L2.Same.new h)
theorem Ext.but {A : AP} {H H1 : Hp} {a : Addr} (b : But a H H1) (s : Src H a) (s1 : Src H1 a) : Ext A H H1 := by
  refine ⟨fun c o _ n h => b c o (fun z => ?_) h, fun c ⟨n, s', t, h⟩ => ?_⟩
  · obtain ⟨n', s', t', h'⟩ := s
    rw [z, h'] at h
    cases h
    exact n ⟨n', s', t', rfl⟩
  · by_cases z : c = a
    · rw [z]; exact s1
    · exact ⟨n, s', t, b c _ z h⟩
theorem Ext.some {A : AP} {H H' : Hp} (x : Ext A H H') {b : Addr} (n : ¬ A b) (h : H b ≠ none) : H' b ≠ none := by
  intro z
  cases q : H b with
  | none => exact h q
  | some o =>
    by_cases s : isSrc o
    · cases o with
      | dK kvs =>
        obtain ⟨n', s', t', e⟩ := s
        subst e
        obtain ⟨_, _, _, e⟩ := x.src b ⟨n', s', t', q⟩
        rw [z] at e
        cases e
      | _ => exact s.elim
    · rw [x.keep b o n s q] at z
      cases z
theorem Ext.free {A : AP} {H H' : Hp} (x : Ext A H H') {b : Addr} (n : ¬ A b) (h : H' b = none) : H b = none := by
  cases q : H b with
  | none => rfl
  | some o => exact absurd h (x.some n (by rw [q]; exact fun z => nomatch z))
theorem Ext.rd {A : AP} {H H' : Hp} (x : Ext A H H') {b : Addr} {u : HO} (n : ¬ A b) (s : ¬ isSrc u) (h : Rd H b u) : Rd H' b u := by
  rcases h with h | ⟨o, h⟩
  · exact .inl (x.keep b _ n s h)
  · exact .inr ⟨o, x.keep b _ n (fun z => z) h⟩
/-! ### what stands for a tree -/
mutual
inductive Rep (K : PySem.W.Frag) (O : AP) (H : Hp) : V → D → Prop
  | non : Rep K O H .non .non
  | bl (b : Bool) : Rep K O H (.bl b) (.bl b)
  | int (i : Int) : Rep K O H (.int i) (.int i)
  | str (z : Str) : Rep K O H (.str z) (.str z)
  | lst {a : Addr} {vs : List V} {ds : List D} : ¬ O a → H a = some (.lst vs) → RepL K O H vs ds → Rep K O H (.ref a) (.lst ds)
  | tup {a : Addr} {vs : List V} {ds : List D} : ¬ O a → H a = some (.tup vs) → RepL K O H vs ds → Rep K O H (.ref a) (.tup ds)
  | dct {a : Addr} {kvs : List (Key × V)} {es : List (Key × D)} : ¬ O a → Rd H a (.dK kvs) → ¬ isSrc (.dK kvs) → kvs.map (·.1) = es.map (·.1) → RepL K O H (kvs.map (·.2)) (es.map (·.2)) → Rep K O H (.ref a) (.dct es)
  | dcp {a : Addr} {kvs : List (List Key × V)} {es : List (List Key × D)} : ¬ O a → Rd H a (.dT kvs) → kvs.map (·.1) = es.map (·.1) → RepL K O H (kvs.map (·.2)) (es.map (·.2)) → Rep K O H (.ref a) (.dcp es)
  | obj {a dx : Addr} {C : Str} {fs : List (Str × V)} {gs : List (Str × D)} : ¬ O a → H a = some (.ins (He.ga K C) dx fs) → fs.map (·.1) = gs.map (·.1) → RepL K O H (fs.map (·.2)) (gs.map (·.2)) → Rep K O H (.ref a) (.obj C gs)
inductive RepL (K : PySem.W.Frag) (O : AP) (H : Hp) : List V → List D → Prop
  | nil : RepL K O H [] []
  | cons {v : V} {vs : List V} {d : D} {ds : List D} : Rep K O H v d → RepL K O H vs ds → RepL K O H (v :: vs) (d :: ds)
end
theorem ns_lst {xs : List V} : ¬ isSrc (.lst xs) := fun z => z
theorem ns_tup {xs : List V} : ¬ isSrc (.tup xs) := fun z => z
theorem ns_ins {C dx : Addr} {fs : List (Str × V)} : ¬ isSrc (.ins C dx fs) := fun z => z
theorem ns_frz {o : Obj} {u : HO} : ¬ isSrc (.frz o u) := fun z => z
theorem ns_dT {kvs : List (List Key × V)} : ¬ isSrc (.dT kvs) := fun z => z
theorem rd_tr {O O' : AP} {H H' : Hp} {a : Addr} {u : HO} (hr : ∀ b u, ¬ O b → ¬ isSrc u → H b = some u → H' b = some u ∧ ¬ O' b) (n : ¬ O a) (s : ¬ isSrc u) (h : Rd H a u) : ¬ O' a ∧ Rd H' a u :=
  h.elim (fun h => ⟨(hr _ _ n s h).2, .inl (hr _ _ n s h).1⟩) fun ⟨o, h⟩ => ⟨(hr _ _ n ns_frz h).2, .inr ⟨o, (hr _ _ n ns_frz h).1⟩⟩
section
variable {K : PySem.W.Frag} {O O' A : AP} {H H' : Hp}
mutual
theorem Rep.tr (hr : ∀ b u, ¬ O b → ¬ isSrc u → H b = some u → H' b = some u ∧ ¬ O' b) : ∀ {d : D} {v : V}, Rep K O H v d → Rep K O' H' v d
  | _, _, .non => .non
  | _, _, .bl b => .bl b
  | _, _, .int i => .int i
  | _, _, .str z => .str z
  | _, _, .lst n h r => .lst (hr _ _ n ns_lst h).2 (hr _ _ n ns_lst h).1 (RepL.tr hr r)
  | _, _, .tup n h r => .tup (hr _ _ n ns_tup h).2 (hr _ _ n ns_tup h).1 (RepL.tr hr r)
  | _, _, .dct n h s e r => .dct (rd_tr hr n s h).1 (rd_tr hr n s h).2 s e (RepL.tr hr r)
  | _, _, .dcp n h e r => .dcp (rd_tr hr n ns_dT h).1 (rd_tr hr n ns_dT h).2 e (RepL.tr hr r)
  | _, _, .obj n h e r => .obj (hr _ _ n ns_ins h).2 (hr _ _ n ns_ins h).1 e (RepL.tr hr r)
theorem RepL.tr (hr : ∀ b u, ¬ O b → ¬ isSrc u → H b = some u → H' b = some u ∧ ¬ O' b) : ∀ {ds : List D} {vs : List V}, RepL K O H vs ds → RepL K O' H' vs ds
  | _, _, .nil => .nil
  | _, _, .cons r t => .cons (Rep.tr hr r) (RepL.tr hr t)
end
theorem rep_tr1 (x : Ext A H H') (h : ∀ b, A b → O b) : ∀ b u, ¬ O b → ¬ isSrc u → H b = some u → H' b = some u ∧ ¬ O b := fun b u n s q => ⟨x.keep b _ (fun z => n (h b z)) s q, n⟩
theorem Rep.ext {v : V} {d : D} (r : Rep K O H v d) (x : Ext A H H') (h : ∀ b, A b → O b) : Rep K O H' v d := r.tr (rep_tr1 x h)
theorem RepL.ext {v : List V} {d : List D} (r : RepL K O H v d) (x : Ext A H H') (h : ∀ b, A b → O b) : RepL K O H' v d := r.tr (rep_tr1 x h)
theorem Rep.ex {v : V} {d : D} (r : Rep K O H v d) (x : Ext No H H') : Rep K O H' v d := r.ext x fun _ z => z.elim
theorem RepL.ex {v : List V} {d : List D} (r : RepL K O H v d) (x : Ext No H H') : RepL K O H' v d := r.ext x fun _ z => z.elim
theorem Rep.mono {v : V} {d : D} (r : Rep K O H v d) (h : ∀ b, O' b → O b) : Rep K O' H v d := r.tr fun b _ n _ q => ⟨q, fun z => n (h b z)⟩
theorem RepL.mono {v : List V} {d : List D} (r : RepL K O H v d) (h : ∀ b, O' b → O b) : RepL K O' H v d := r.tr fun b _ n _ q => ⟨q, fun z => n (h b z)⟩
/-- what H does not know is shunned as well -/
theorem Rep.wide {v : V} {d : D} (r : Rep K O H v d) (h : ∀ b, O' b → O b ∨ H b = none) : Rep K O' H v d := r.tr fun b _ n _ q => ⟨q, fun z => (h b z).elim n fun e => by rw [q] at e; cases e⟩
theorem RepL.wide {v : List V} {d : List D} (r : RepL K O H v d) (h : ∀ b, O' b → O b ∨ H b = none) : RepL K O' H v d := r.tr fun b _ n _ q => ⟨q, fun z => (h b z).elim n fun e => by rw [q] at e; cases e⟩
theorem pl_free {p : Addr} (h : H p = none) : ∀ b, Pl O p b → O b ∨ H b = none := fun b z => z.imp id fun (e : b = p) => e ▸ h
theorem Rep.fresh {v : V} {d : D} {p : Addr} (r : Rep K O H v d) (h : H p = none) : Rep K (Pl O p) H v d := r.wide (pl_free h)
theorem RepL.fresh {v : List V} {d : List D} {p : Addr} (r : RepL K O H v d) (h : H p = none) : RepL K (Pl O p) H v d := r.wide (pl_free h)
theorem RepL.length {vs : List V} {ds : List D} (r : RepL K O H vs ds) : vs.length = ds.length := by
  induction ds generalizing vs with
  | nil => cases r; rfl
  | cons d ds ih => cases r with | cons r t => rw [List.length_cons, List.length_cons, ih t]
theorem RepL.get {vs : List V} {ds : List D} (r : RepL K O H vs ds) {i : Nat} {d : D} (h : ds[i]? = some d) : ∃ v, vs[i]? = some v ∧ Rep K O H v d := by
  induction ds generalizing vs i with
  | nil => cases h
  | cons d' ds ih =>
    cases r with
    | cons r t =>
      cases i with
      | zero => cases h; exact ⟨_, rfl, r⟩
      | succ i => exact ih t h
theorem RepL.get' {vs : List V} {ds : List D} (r : RepL K O H vs ds) {i : Nat} {v : V} (h : vs[i]? = some v) : ∃ d, ds[i]? = some d ∧ Rep K O H v d := by
  have hl : i < ds.length := by
    rw [← r.length]
    exact (List.getElem?_eq_some_iff.mp h).1
  obtain ⟨v', e, q⟩ := r.get (List.getElem?_eq_getElem hl)
  rw [h] at e
  cases e
  exact ⟨_, List.getElem?_eq_getElem hl, q⟩
theorem RepL.app {vs ws : List V} {ds es : List D} (r : RepL K O H vs ds) (s : RepL K O H ws es) : RepL K O H (vs ++ ws) (ds ++ es) := by
  induction ds generalizing vs with
  | nil => cases r; exact s
  | cons d ds ih => cases r with | cons r t => exact .cons r (ih t)
theorem RepL.snoc {vs : List V} {ds : List D} {v : V} {d : D} (r : RepL K O H vs ds) (s : Rep K O H v d) : RepL K O H (vs ++ [v]) (ds ++ [d]) := r.app (.cons s .nil)
theorem RepL.take {vs : List V} {ds : List D} (n : Nat) (r : RepL K O H vs ds) : RepL K O H (vs.take n) (ds.take n) := by
  induction ds generalizing vs n with
  | nil => cases r; simp; exact .nil
  | cons d ds ih =>
    cases r with
    | cons r t =>
      cases n with
      | zero => exact .nil
      | succ n => exact .cons r (ih n t)
theorem RepL.drop {vs : List V} {ds : List D} (n : Nat) (r : RepL K O H vs ds) : RepL K O H (vs.drop n) (ds.drop n) := by
  induction ds generalizing vs n with
  | nil => cases r; simp; exact .nil
  | cons d ds ih =>
    cases r with
    | cons r t =>
      cases n with
      | zero => exact .cons r t
      | succ n => exact ih n t
theorem RepL.set {vs : List V} {ds : List D} {v : V} {d : D} (n : Nat) (r : RepL K O H vs ds) (s : Rep K O H v d) : RepL K O H (vs.set n v) (ds.set n d) := by
  induction ds generalizing vs n with
  | nil => cases r; exact .nil
  | cons d' ds ih =>
    cases r with
    | cons r t =>
      cases n with
      | zero => exact .cons s t
      | succ n => exact .cons r (ih n t)
end
/-! ### trees with parts of one's own -/
inductive OT where
  | sh (d : D) | lst (xs : List OT) | tup (xs : List OT) | dct (kvs : List (Key × OT)) | dcp (kvs : List (List Key × OT)) | obj (C : Str) (fs : List (Str × OT))
mutual
inductive RepO (K : PySem.W.Frag) (O : AP) (H : Hp) : V → OT → List Addr → Prop
  | sh {v : V} {d : D} : Rep K O H v d → RepO K O H v (.sh d) []
  | lst {a : Addr} {vs : List V} {ts : List OT} {as : List Addr} : H a = some (.lst vs) → RepOL K O H vs ts as → RepO K O H (.ref a) (.lst ts) (a :: as)
  | tup {a : Addr} {vs : List V} {ts : List OT} {as : List Addr} : H a = some (.tup vs) → RepOL K O H vs ts as → RepO K O H (.ref a) (.tup ts) (a :: as)
  | dct {a : Addr} {kvs : List (Key × V)} {es : List (Key × OT)} {as : List Addr} : H a = some (.dK kvs) → ¬ isSrc (.dK kvs) → kvs.map (·.1) = es.map (·.1) → RepOL K O H (kvs.map (·.2)) (es.map (·.2)) as → RepO K O H (.ref a) (.dct es) (a :: as)
  | dcp {a : Addr} {kvs : List (List Key × V)} {es : List (List Key × OT)} {as : List Addr} : H a = some (.dT kvs) → kvs.map (·.1) = es.map (·.1) → RepOL K O H (kvs.map (·.2)) (es.map (·.2)) as → RepO K O H (.ref a) (.dcp es) (a :: as)
  | obj {a dx : Addr} {C : Str} {fs : List (Str × V)} {gs : List (Str × OT)} {as : List Addr} : H a = some (.ins (He.ga K C) dx fs) → fs.map (·.1) = gs.map (·.1) → RepOL K O H (fs.map (·.2)) (gs.map (·.2)) as → RepO K O H (.ref a) (.obj C gs) (a :: as)
inductive RepOL (K : PySem.W.Frag) (O : AP) (H : Hp) : List V → List OT → List Addr → Prop
  | nil : RepOL K O H [] [] []
  | cons {v : V} {vs : List V} {t : OT} {ts : List OT} {as bs : List Addr} : RepO K O H v t as → RepOL K O H vs ts bs → RepOL K O H (v :: vs) (t :: ts) (as ++ bs)
end
section
variable {K : PySem.W.Frag} {O O' A : AP} {H H' : Hp}
mutual
theorem RepO.tr (hr : ∀ b u, ¬ O b → ¬ isSrc u → H b = some u → H' b = some u ∧ ¬ O' b) : ∀ {t : OT} {v : V} {as : List Addr}, RepO K O H v t as → (∀ b ∈ as, ∀ u, ¬ isSrc u → H b = some u → H' b = some u) → RepO K O' H' v t as
  | _, _, _, .sh r, _ => .sh (r.tr hr)
  | _, _, _, .lst h r, k => .lst (k _ List.mem_cons_self _ ns_lst h) (RepOL.tr hr r fun b z => k b (List.mem_cons_of_mem _ z))
  | _, _, _, .tup h r, k => .tup (k _ List.mem_cons_self _ ns_tup h) (RepOL.tr hr r fun b z => k b (List.mem_cons_of_mem _ z))
  | _, _, _, .dct h s e r, k => .dct (k _ List.mem_cons_self _ s h) s e (RepOL.tr hr r fun b z => k b (List.mem_cons_of_mem _ z))
  | _, _, _, .dcp h e r, k => .dcp (k _ List.mem_cons_self _ ns_dT h) e (RepOL.tr hr r fun b z => k b (List.mem_cons_of_mem _ z))
  | _, _, _, .obj h e r, k => .obj (k _ List.mem_cons_self _ ns_ins h) e (RepOL.tr hr r fun b z => k b (List.mem_cons_of_mem _ z))
theorem RepOL.tr (hr : ∀ b u, ¬ O b → ¬ isSrc u → H b = some u → H' b = some u ∧ ¬ O' b) : ∀ {ts : List OT} {vs : List V} {as : List Addr}, RepOL K O H vs ts as → (∀ b ∈ as, ∀ u, ¬ isSrc u → H b = some u → H' b = some u) → RepOL K O' H' vs ts as
  | _, _, _, .nil, _ => .nil
  | _, _, _, .cons r t, k => .cons (RepO.tr hr r fun b z => k b (List.mem_append_left _ z)) (RepOL.tr hr t fun b z => k b (List.mem_append_right _ z))
end
mutual
/-- which are one's own is told by the heap -/
theorem RepO.det : ∀ {t : OT} {v : V} {as bs : List Addr}, RepO K O H v t as → RepO K O' H v t bs → as = bs
  | _, _, _, _, .sh _, .sh _ => rfl
  | _, _, _, _, .lst h r, .lst h' r' => by
    rw [h] at h'; cases h'; rw [RepOL.det r r']
  | _, _, _, _, .tup h r, .tup h' r' => by
    rw [h] at h'; cases h'; rw [RepOL.det r r']
  | _, _, _, _, .dct h _ _ r, .dct h' _ _ r' => by
    rw [h] at h'; cases h'; rw [RepOL.det r r']
  | _, _, _, _, .dcp h _ r, .dcp h' _ r' => by
    rw [h] at h'; cases h'; rw [RepOL.det r r']
  | _, _, _, _, .obj h _ r, .obj h' _ r' => by
    rw [h] at h'; cases h'; rw [RepOL.det r r']
theorem RepOL.det : ∀ {ts : List OT} {vs : List V} {as bs : List Addr}, RepOL K O H vs ts as → RepOL K O' H vs ts bs → as = bs
  | _, _, _, _, .nil, .nil => rfl
  | _, _, _, _, .cons r t, .cons r' t' => by rw [RepO.det r r', RepOL.det t t']
end
mutual
theorem RepO.dom : ∀ {t : OT} {v : V} {as : List Addr}, RepO K O H v t as → ∀ b ∈ as, ∃ u, H b = some u ∧ ¬ isSrc u
  | _, _, _, .sh _, _, z => nomatch z
  | _, _, _, .lst h r, b, z => (List.mem_cons.mp z).elim (fun e => e ▸ ⟨_, h, ns_lst⟩) (RepOL.dom r b)
  | _, _, _, .tup h r, b, z => (List.mem_cons.mp z).elim (fun e => e ▸ ⟨_, h, ns_tup⟩) (RepOL.dom r b)
  | _, _, _, .dct h s _ r, b, z => (List.mem_cons.mp z).elim (fun e => e ▸ ⟨_, h, s⟩) (RepOL.dom r b)
  | _, _, _, .dcp h _ r, b, z => (List.mem_cons.mp z).elim (fun e => e ▸ ⟨_, h, ns_dT⟩) (RepOL.dom r b)
  | _, _, _, .obj h _ r, b, z => (List.mem_cons.mp z).elim (fun e => e ▸ ⟨_, h, ns_ins⟩) (RepOL.dom r b)
theorem RepOL.dom : ∀ {ts : List OT} {vs : List V} {as : List Addr}, RepOL K O H vs ts as → ∀ b ∈ as, ∃ u, H b = some u ∧ ¬ isSrc u
  | _, _, _, .nil, _, z => nomatch z
  | _, _, _, .cons r t, b, z => (List.mem_append.mp z).elim (RepO.dom r b) (RepOL.dom t b)
end
mutual
/-- the tree that it is to a reader -/
def OT.d : OT → D
  | .sh d => d
  | .lst ts => .lst (OT.ds ts)
  | .tup ts => .tup (OT.ds ts)
  | .dct es => .dct (OT.dk es)
  | .dcp es => .dcp (OT.dp es)
  | .obj C gs => .obj C (OT.df gs)
def OT.ds : List OT → List D
  | [] => []
  | t :: ts => t.d :: OT.ds ts
def OT.dk : List (Key × OT) → List (Key × D)
  | [] => []
  | (k, t) :: ts => (k, t.d) :: OT.dk ts
def OT.dp : List (List Key × OT) → List (List Key × D)
  | [] => []
  | (k, t) :: ts => (k, t.d) :: OT.dp ts
def OT.df : List (Str × OT) → List (Str × D)
  | [] => []
  | (k, t) :: ts => (k, t.d) :: OT.df ts
end
theorem OT.dk1 : ∀ (es : List (Key × OT)), (OT.dk es).map (·.1) = es.map (·.1)
  | [] => rfl
  | (k, t) :: es => by rw [OT.dk, List.map_cons, List.map_cons, OT.dk1 es]
theorem OT.dk2 : ∀ (es : List (Key × OT)), (OT.dk es).map (·.2) = OT.ds (es.map (·.2))
  | [] => rfl
  | (k, t) :: es => by rw [OT.dk, List.map_cons, List.map_cons, OT.dk2 es, OT.ds]
theorem OT.dp1 : ∀ (es : List (List Key × OT)), (OT.dp es).map (·.1) = es.map (·.1)
  | [] => rfl
  | (k, t) :: es => by rw [OT.dp, List.map_cons, List.map_cons, OT.dp1 es]
theorem OT.dp2 : ∀ (es : List (List Key × OT)), (OT.dp es).map (·.2) = OT.ds (es.map (·.2))
  | [] => rfl
  | (k, t) :: es => by rw [OT.dp, List.map_cons, List.map_cons, OT.dp2 es, OT.ds]
theorem OT.df1 : ∀ (es : List (Str × OT)), (OT.df es).map (·.1) = es.map (·.1)
  | [] => rfl
  | (k, t) :: es => by rw [OT.df, List.map_cons, List.map_cons, OT.df1 es]
theorem OT.df2 : ∀ (es : List (Str × OT)), (OT.df es).map (·.2) = OT.ds (es.map (·.2))
  | [] => rfl
  | (k, t) :: es => by rw [OT.df, List.map_cons, List.map_cons, OT.df2 es, OT.ds]
mutual
/-- changed no more -/
theorem RepO.frz (hO : ∀ b, O' b → O b) : ∀ {t : OT} {v : V} {as : List Addr}, RepO K O H v t as → (∀ b ∈ as, ¬ O' b) → Rep K O' H v t.d
  | _, _, _, .sh r, _ => r.mono hO
  | _, _, _, .lst h r, k => .lst (k _ List.mem_cons_self) h (RepOL.frz hO r fun b z => k b (List.mem_cons_of_mem _ z))
  | _, _, _, .tup h r, k => .tup (k _ List.mem_cons_self) h (RepOL.frz hO r fun b z => k b (List.mem_cons_of_mem _ z))
  | _, _, _, .dct h s e r, k => .dct (k _ List.mem_cons_self) (.inl h) s (by rw [OT.dk1]; exact e) (by rw [OT.dk2]; exact RepOL.frz hO r fun b z => k b (List.mem_cons_of_mem _ z))
  | _, _, _, .dcp h e r, k => .dcp (k _ List.mem_cons_self) (.inl h) (by rw [OT.dp1]; exact e) (by rw [OT.dp2]; exact RepOL.frz hO r fun b z => k b (List.mem_cons_of_mem _ z))
  | _, _, _, .obj h e r, k => .obj (k _ List.mem_cons_self) h (by rw [OT.df1]; exact e) (by rw [OT.df2]; exact RepOL.frz hO r fun b z => k b (List.mem_cons_of_mem _ z))
theorem RepOL.frz (hO : ∀ b, O' b → O b) : ∀ {ts : List OT} {vs : List V} {as : List Addr}, RepOL K O H vs ts as → (∀ b ∈ as, ¬ O' b) → RepL K O' H vs (OT.ds ts)
  | _, _, _, .nil, _ => .nil
  | _, _, _, .cons r t, k => .cons (RepO.frz hO r fun b z => k b (List.mem_append_left _ z)) (RepOL.frz hO t fun b z => k b (List.mem_append_right _ z))
end
end
/-! ### exceptions as they stand -/
def XOk (K : PySem.W.Frag) (O : AP) (H : Hp) (cls : Value) (d : Option Addr) (x : Exn) : Prop := cls = .ref (He.ga K x.cls) ∧ ∃ da v, d = some da ∧ ¬ O da ∧ H da = some (.xd [(exField x.cls, v)]) ∧ Rep K O H v x.fld
theorem ns_xd {fs : List (Str × V)} : ¬ isSrc (.xd fs) := fun z => z
theorem XOk.tr {K : PySem.W.Frag} {O O' : AP} {H H' : Hp} {cls : Value} {d : Option Addr} {x : Exn} (hr : ∀ b u, ¬ O b → ¬ isSrc u → H b = some u → H' b = some u ∧ ¬ O' b) (h : XOk K O H cls d x) : XOk K O' H' cls d x := by
  obtain ⟨e, da, v, ed, n, hd, r⟩ := h
  exact ⟨e, da, v, ed, (hr _ _ n ns_xd hd).2, (hr _ _ n ns_xd hd).1, r.tr hr⟩
theorem XOk.mono {K : PySem.W.Frag} {O O' : AP} {H : Hp} {cls : Value} {d : Option Addr} {x : Exn} (h : XOk K O H cls d x) (hO : ∀ b, O' b → O b) : XOk K O' H cls d x := h.tr fun b u n s e => ⟨e, fun z => n (hO b z)⟩
/-! ### slots -/
/-- the script: a list that is read -/
def Scr (K : PySem.W.Frag) (O : AP) (H : Hp) (a : Addr) (ns : List Int) : Prop := (¬ O a ∧ Rd H a (.lst (ns.map V.int))) ∨ ∀ H' : Hp, SqL K H' a (ns.map V.int)
theorem Scr.sq {K : PySem.W.Frag} {O : AP} {H : Hp} {a : Addr} {ns : List Int} (h : Scr K O H a ns) : SqL K H a (ns.map V.int) := h.elim (fun z => .inl z.2) fun z => z H
theorem Scr.ext {K : PySem.W.Frag} {O A : AP} {H H' : Hp} {a : Addr} {ns : List Int} (h : Scr K O H a ns) (e : Ext A H H') (hA : ∀ b, A b → O b) : Scr K O H' a ns := h.elim (fun z => .inl ⟨z.1, e.rd (fun q => z.1 (hA _ q)) ns_lst z.2⟩) .inr
theorem Scr.wide {K : PySem.W.Frag} {O O' : AP} {H : Hp} {a : Addr} {ns : List Int} (h : Scr K O H a ns) (hO : ∀ b, O' b → O b ∨ H b = none) : Scr K O' H a ns := h.elim (fun z => .inl ⟨fun q => (hO _ q).elim z.1 fun e => (by
  rcases z.2 with h | ⟨o, h⟩
  · rw [h] at e; cases e
  · rw [h] at e; cases e), z.2⟩) .inr
theorem Scr.of {K : PySem.W.Frag} {H : Hp} {a : Addr} {ns : List Int} (h : SqL K H a (ns.map V.int)) : Scr K No H a ns := h.elim (fun z => .inl ⟨fun q => q, z⟩) fun z => .inr fun _ => .inr z
inductive Sl where
  | no | sh (d : D) | ow (d : D) | od (t : OT) | src | scr (ns : List Int) | pin (v : V) | exc (a : Addr) (cls : Value) (d : Option Addr) (x : Exn)
/-- where one stands: the heap and the shunned ones at the entry, the heap and what may change since -/
structure Bs where
  F : Hp
  O : AP
  H : Hp
  A : AP
  P : AP
  S : Addr
def SlOk (K : PySem.W.Frag) (B : Bs) (O : AP) (H : Hp) (x : Option (Option V)) : Sl → Prop
  | .no => True
  | .sh d => ∃ v, x = some (some v) ∧ Rep K O H v d
  | .ow (.lst ds) => ∃ p vs, x = some (some (.ref p)) ∧ O p ∧ B.F p = none ∧ (B.A p ∨ B.H p = none) ∧ H p = some (.lst vs) ∧ RepL K O H vs ds
  | .ow (.dct es) => ∃ p kvs, x = some (some (.ref p)) ∧ O p ∧ B.F p = none ∧ (B.A p ∨ B.H p = none) ∧ H p = some (.dK kvs) ∧ ¬ isSrc (.dK kvs) ∧ kvs.map (·.1) = es.map (·.1) ∧ RepL K O H (kvs.map (·.2)) (es.map (·.2))
  | .ow (.dcp es) => ∃ p kvs, x = some (some (.ref p)) ∧ O p ∧ B.F p = none ∧ (B.A p ∨ B.H p = none) ∧ H p = some (.dT kvs) ∧ kvs.map (·.1) = es.map (·.1) ∧ RepL K O H (kvs.map (·.2)) (es.map (·.2))
  | .ow (.obj C gs) => ∃ dx fs, x = some (some (.ref B.S)) ∧ O B.S ∧ B.F B.S = none ∧ (B.A B.S ∨ B.H B.S = none) ∧ H B.S = some (.ins (He.ga K C) dx fs) ∧ fs.map (·.1) = gs.map (·.1) ∧ RepL K O H (fs.map (·.2)) (gs.map (·.2))
  | .ow _ => False
  | .od t => ∃ v as, x = some (some v) ∧ RepO K O H v t as ∧ as.Nodup ∧ ∀ b ∈ as, O b ∧ B.F b = none ∧ (B.A b ∨ B.H b = none)
  | .src => ∃ a, x = some (some (.ref a)) ∧ O a ∧ Src H a
  | .scr ns => ∃ a, x = some (some (.ref a)) ∧ Scr K O H a ns
  | .pin v => x = some (some v)
  | .exc a cls d ex => x = some (some (.ref a)) ∧ XOk K O H cls d ex
/-- which are a slot's own -/
def Own (K : PySem.W.Frag) (H : Hp) (x : Option (Option V)) : Sl → List Addr → Prop
  | .ow _ => fun as => ∃ p, x = some (some (.ref p)) ∧ as = [p]
  | .od t => fun as => ∃ v O, x = some (some v) ∧ RepO K O H v t as
  | _ => fun _ => False
structure En (K : PySem.W.Frag) (B : Bs) (O : AP) (H : Hp) (σ : L2.St) (ρ : List Sl) : Prop where
  sub : ∀ b, B.O b → O b
  bdom : ∀ b, B.O b → B.F b ≠ none
  osub : ∀ b, O b → B.P b ∨ B.H b = none
  dom : ∀ b, O b → H b ≠ none
  adom : ∀ b, B.A b → H b ≠ none
  fdom : ∀ b, B.F b ≠ none → H b ≠ none
  ext : Ext B.A B.H H
  len : σ.length = ρ.length
  at_ : ∀ (i : Nat) (s : Sl), ρ[i]? = some s → SlOk K B O H (σ[i]?) s
  inj : ∀ (i j : Nat) (s t : Sl) (as bs : List Addr) (b : Addr), ρ[i]? = some s → ρ[j]? = some t → Own K H (σ[i]?) s as → Own K H (σ[j]?) t bs → b ∈ as → b ∈ bs → i = j
section
variable {K : PySem.W.Frag} {B : Bs} {O O' : AP} {H H' : Hp} {σ : L2.St} {ρ : List Sl}
theorem Own.det {x : Option (Option V)} {s : Sl} {as bs : List Addr} (h : Own K H x s as) (g : Own K H x s bs) : as = bs := by
  cases s with
  | ow d => obtain ⟨p, e, rfl⟩ := h; obtain ⟨q, e', rfl⟩ := g; rw [e] at e'; cases e'; rfl
  | od t => obtain ⟨v, _, e, r⟩ := h; obtain ⟨w, _, e', r'⟩ := g; rw [e] at e'; cases e'; exact r.det r'
  | _ => exact h.elim
/-- what is a slot's own is shunned, new, and may change -/
theorem SlOk.in_ {x : Option (Option V)} {s : Sl} {as : List Addr} (h : SlOk K B O H x s) (w : Own K H x s as) : ∀ b ∈ as, O b ∧ B.F b = none ∧ (B.A b ∨ B.H b = none) ∧ ∃ u, H b = some u ∧ ¬ isSrc u := by
  intro b hb
  cases s with
  | ow d =>
    obtain ⟨p, e, rfl⟩ := w
    cases List.mem_singleton.mp hb
    cases d with
    | lst ds => obtain ⟨q, vs, e1, o, f, a, hp, r⟩ := h; rw [e] at e1; cases e1; exact ⟨o, f, a, _, hp, ns_lst⟩
    | dct es => obtain ⟨q, vs, e1, o, f, a, hp, n, k, r⟩ := h; rw [e] at e1; cases e1; exact ⟨o, f, a, _, hp, n⟩
    | dcp es => obtain ⟨q, vs, e1, o, f, a, hp, k, r⟩ := h; rw [e] at e1; cases e1; exact ⟨o, f, a, _, hp, ns_dT⟩
    | obj C gs => obtain ⟨dx, vs, e1, o, f, a, hp, k, r⟩ := h; rw [e] at e1; cases e1; exact ⟨o, f, a, _, hp, ns_ins⟩
    | _ => exact h.elim
  | od t =>
    obtain ⟨v, as', e1, r, _, k⟩ := h
    obtain ⟨v', _, e2, r'⟩ := w
    rw [e1] at e2; cases e2
    cases r.det r'
    obtain ⟨o, f, a⟩ := k b hb
    exact ⟨o, f, a, r.dom b hb⟩
  | _ => exact w.elim
theorem SlOk.own {x : Option (Option V)} {d : D} (h : SlOk K B O H x (.ow d)) : ∃ p, x = some (some (.ref p)) ∧ Own K H x (.ow d) [p] := by
  cases d with
  | lst ds => obtain ⟨q, vs, e1, _⟩ := h; exact ⟨q, e1, q, e1, rfl⟩
  | dct es => obtain ⟨q, vs, e1, _⟩ := h; exact ⟨q, e1, q, e1, rfl⟩
  | dcp es => obtain ⟨q, vs, e1, _⟩ := h; exact ⟨q, e1, q, e1, rfl⟩
  | obj C gs => obtain ⟨dx, vs, e1, _⟩ := h; exact ⟨_, e1, _, e1, rfl⟩
  | _ => exact h.elim
/-- a slot in another heap -/
theorem SlOk.tr {x : Option (Option V)} {s : Sl} (h : SlOk K B O H x s) (hr : ∀ b u, ¬ O b → ¬ isSrc u → H b = some u → H' b = some u ∧ ¬ O' b) (ho : ∀ as, Own K H x s as → ∀ b ∈ as, (∀ u, ¬ isSrc u → H b = some u → H' b = some u) ∧ O' b)
    (hs : ∀ a, O a → Src H a → O' a ∧ Src H' a) (hc : ∀ a ns, Scr K O H a ns → Scr K O' H' a ns) : SlOk K B O' H' x s := by
  cases s with
  | no => trivial
  | sh d => obtain ⟨v, e1, r⟩ := h; exact ⟨v, e1, r.tr hr⟩
  | src => obtain ⟨a, e1, o, s⟩ := h; exact ⟨a, e1, hs a o s⟩
  | scr ns => obtain ⟨a, e1, ha⟩ := h; exact ⟨a, e1, hc a ns ha⟩
  | pin v => exact h
  | exc a cls d ex => exact ⟨h.1, h.2.tr hr⟩
  | od t =>
    obtain ⟨v, as, e1, r, nd, k⟩ := h
    have w := ho as ⟨v, O, e1, r⟩
    exact ⟨v, as, e1, r.tr hr fun b z => (w b z).1, nd, fun b z => ⟨(w b z).2, (k b z).2⟩⟩
  | ow d =>
    cases d with
    | lst ds => obtain ⟨p, vs, e1, o, f, a, hp, r⟩ := h; have w := ho _ ⟨p, e1, rfl⟩ p List.mem_cons_self; exact ⟨p, vs, e1, w.2, f, a, w.1 _ ns_lst hp, r.tr hr⟩
    | dct es => obtain ⟨p, vs, e1, o, f, a, hp, n, k, r⟩ := h; have w := ho _ ⟨p, e1, rfl⟩ p List.mem_cons_self; exact ⟨p, vs, e1, w.2, f, a, w.1 _ n hp, n, k, r.tr hr⟩
    | dcp es => obtain ⟨p, vs, e1, o, f, a, hp, k, r⟩ := h; have w := ho _ ⟨p, e1, rfl⟩ p List.mem_cons_self; exact ⟨p, vs, e1, w.2, f, a, w.1 _ ns_dT hp, k, r.tr hr⟩
    | obj C gs => obtain ⟨dx, vs, e1, o, f, a, hp, k, r⟩ := h; have w := ho _ ⟨_, e1, rfl⟩ _ List.mem_cons_self; exact ⟨dx, vs, e1, w.2, f, a, w.1 _ ns_ins hp, k, r.tr hr⟩
    | _ => exact h.elim
theorem SlOk.back {x : Option (Option V)} {s : Sl} {as : List Addr} (h : SlOk K B O H x s) (hr : ∀ b u, ¬ O b → ¬ isSrc u → H b = some u → H' b = some u ∧ ¬ O' b) (ho : ∀ as, Own K H x s as → ∀ b ∈ as, ∀ u, ¬ isSrc u → H b = some u → H' b = some u) (w : Own K H' x s as) : Own K H x s as := by
  cases s with
  | ow d => exact w
  | od t =>
    obtain ⟨v, as', e1, r, nd, k⟩ := h
    obtain ⟨v', O2, e2, r2⟩ := w
    rw [e1] at e2; cases e2
    have r' := r.tr hr (ho as' ⟨v, O, e1, r⟩)
    cases r'.det r2
    exact ⟨v, O, e1, r⟩
  | _ => exact w.elim
theorem ex_tr (e : Ext No H H') : ∀ b u, ¬ O b → ¬ isSrc u → H b = some u → H' b = some u ∧ ¬ O b := fun b u n s h => ⟨e.keep b u (fun z => z) s h, n⟩
theorem SlOk.ext {x : Option (Option V)} {s : Sl} (h : SlOk K B O H x s) (e : Ext No H H') : SlOk K B O H' x s :=
  h.tr (ex_tr e) (fun as w b z => ⟨fun u n q => e.keep b u (fun z => z) n q, (h.in_ w b z).1⟩) (fun a o s => ⟨o, e.src a s⟩) fun a ns z => z.ext e fun _ z => z.elim
theorem En.ex (E : En K B O H σ ρ) (e : Ext No H H') : En K B O H' σ ρ :=
  ⟨E.sub, E.bdom, E.osub, fun b h => e.some (fun z => z) (E.dom b h), fun b h => e.some (fun z => z) (E.adom b h), fun b h => e.some (fun z => z) (E.fdom b h), E.ext.trans e.no, E.len, fun i s h => (E.at_ i s h).ext e,
    fun i j s t as bs b h1 h2 w1 w2 => E.inj i j s t as bs b h1 h2 ((E.at_ i s h1).back (ex_tr e) (fun _ _ b _ u n q => e.keep b u (fun z => z) n q) w1) ((E.at_ j t h2).back (ex_tr e) (fun _ _ b _ u n q => e.keep b u (fun z => z) n q) w2)⟩
theorem En.free (E : En K B O H σ ρ) {p : Addr} (h : H p = none) : ¬ O p ∧ B.H p = none := by
  refine ⟨fun z => E.dom p z h, ?_⟩
  by_cases a : B.A p
  · exact absurd h (E.adom p a)
  · exact E.ext.free a h
theorem En.bfree (E : En K B O H σ ρ) {p : Addr} (h : H p = none) : B.F p = none := by
  cases q : B.F p with
  | none => rfl
  | some o => exact absurd h (E.fdom p (by rw [q]; exact fun z => nomatch z))
theorem SlOk.wide {x : Option (Option V)} {s : Sl} (h : SlOk K B O H x s) (hO : ∀ b, O' b → O b ∨ H b = none) (hO2 : ∀ b, O b → O' b) : SlOk K B O' H x s :=
  h.tr (fun b u n s q => ⟨q, fun z => (hO b z).elim n fun e => by rw [q] at e; cases e⟩) (fun as w b z => ⟨fun u n q => q, hO2 b (h.in_ w b z).1⟩) (fun a o s => ⟨hO2 a o, s⟩) fun a ns z => z.wide hO
theorem SlOk.fresh {x : Option (Option V)} {s : Sl} {p : Addr} (h : SlOk K B O H x s) (n : H p = none) : SlOk K B (Pl O p) H x s := h.wide (pl_free n) fun _ z => .inl z
/-- new objects are shunned -/
theorem En.shuns (E : En K B O H σ ρ) {N : AP} (n : ∀ b, N b → H b = none) (e : Ext No H H') (h : ∀ b, N b → H' b ≠ none) : En K B (fun b => O b ∨ N b) H' σ ρ := by
  have E' := E.ex e
  exact ⟨fun b z => .inl (E.sub b z), E.bdom, fun b z => z.elim (E.osub b) fun q => .inr (E.free (n b q)).2, fun b z => z.elim (E'.dom b) (h b), E'.adom, E'.fdom, E'.ext, E.len, fun i s z => ((E.at_ i s z).wide (fun b z => z.imp id (n b)) fun _ z => .inl z).ext e, E'.inj⟩
theorem En.shun (E : En K B O H σ ρ) {p : Addr} (n : H p = none) (e : Ext No H H') (h : H' p ≠ none) : En K B (Pl O p) H' σ ρ := E.shuns (N := fun b => b = p) (fun b z => z ▸ n) e fun b z => z ▸ h
theorem set_get {α : Type} {l : List α} {i j : Nat} {x y : α} (h : (l.set i x)[j]? = some y) : (i = j ∧ y = x ∧ j < l.length) ∨ (i ≠ j ∧ l[j]? = some y) := by
  rw [List.getElem?_set] at h
  by_cases c : i = j
  · rw [if_pos c] at h
    by_cases d : i < l.length
    · rw [if_pos d] at h
      exact .inl ⟨c, (Option.some.inj h).symm, c ▸ d⟩
    · rw [if_neg d] at h
      cases h
  · rw [if_neg c] at h
    exact .inr ⟨c, h⟩
theorem set_at {α : Type} {l : List α} {i : Nat} {x : α} (h : i < l.length) : (l.set i x)[i]? = some x := by
  rw [List.getElem?_set, if_pos rfl, if_pos h]
theorem set_off {α : Type} {l : List α} {i j : Nat} {x : α} (h : i ≠ j) : (l.set i x)[j]? = l[j]? := by
  rw [List.getElem?_set, if_neg h]
/-- a slot gets a value; what is its own is no other's -/
theorem En.setw (E : En K B O H σ ρ) {i : Nat} {v : V} {s : Sl} (hs : SlOk K B O H (some (some v)) s) (no : ∀ as b, Own K H (some (some v)) s as → b ∈ as → ∀ (j : Nat) (t : Sl) (bs : List Addr), ρ[j]? = some t → Own K H (σ[j]?) t bs → b ∉ bs) : En K B O H (σ.set i (some v)) (ρ.set i s) := by
  refine ⟨E.sub, E.bdom, E.osub, E.dom, E.adom, E.fdom, E.ext, by simp [E.len], fun j s' h => ?_, fun j k d e as bs b h1 h2 h3 h4 m1 m2 => ?_⟩
  · rcases set_get h with ⟨rfl, rfl, hl⟩ | ⟨hn, h⟩
    · rw [set_at (by rw [E.len]; exact hl)]
      exact hs
    · rw [set_off hn]
      exact E.at_ j s' h
  · rcases set_get h1 with ⟨a1, e1, l1⟩ | ⟨n1, g1⟩
    · rcases set_get h2 with ⟨a2, e2, l2⟩ | ⟨n2, g2⟩
      · exact a1 ▸ a2
      · subst a1
        rw [e1, set_at (by rw [E.len]; exact l1)] at h3
        rw [set_off n2] at h4
        exact (no as b h3 m1 k e bs g2 h4 m2).elim
    · rcases set_get h2 with ⟨a2, e2, l2⟩ | ⟨n2, g2⟩
      · subst a2
        rw [e2, set_at (by rw [E.len]; exact l2)] at h4
        rw [set_off n1] at h3
        exact (no bs b h4 m2 j d as g1 h3 m1).elim
      · rw [set_off n1] at h3
        rw [set_off n2] at h4
        exact E.inj j k d e as bs b g1 g2 h3 h4 m1 m2
/-- a slot gets a value that is shared -/
theorem En.setv (E : En K B O H σ ρ) {i : Nat} {v : V} {s : Sl} (hs : SlOk K B O H (some (some v)) s) (no : ∀ as, ¬ Own K H (some (some v)) s as) : En K B O H (σ.set i (some v)) (ρ.set i s) := E.setw hs fun as _ w => (no as w).elim
theorem En.set (E : En K B O H σ ρ) (i : Nat) {v : V} {d : D} (r : Rep K O H v d) : En K B O H (σ.set i (some v)) (ρ.set i (.sh d)) := E.setv ⟨v, rfl, r⟩ fun _ z => z
/-- a slot gets new objects of its own -/
theorem En.owns (E : En K B O H σ ρ) (i : Nat) {N : AP} {v : V} {s : Sl} (n : ∀ b, N b → H b = none) (e : Ext No H H') (h : ∀ b, N b → H' b ≠ none) (hs : SlOk K B (fun b => O b ∨ N b) H' (some (some v)) s) (hN : ∀ as, Own K H' (some (some v)) s as → ∀ b ∈ as, N b) : En K B (fun b => O b ∨ N b) H' (σ.set i (some v)) (ρ.set i s) := by
  refine (E.shuns n e h).setw hs fun as b w m j t bs hj w2 m2 => ?_
  have w2' := (E.at_ j t hj).back (ex_tr e) (fun _ _ b _ u n q => e.keep b u (fun z => z) n q) w2
  exact (E.free (n b (hN as w b m))).1 ((E.at_ j t hj).in_ w2' b m2).1
theorem En.own (E : En K B O H σ ρ) (i : Nat) {p : Addr} {d : D} (n : H p = none) (hF : B.F p = none) (e : Ext No H H') (hs : SlOk K B (Pl O p) H' (some (some (.ref p))) (.ow d)) (h : H' p ≠ none) : En K B (Pl O p) H' (σ.set i (some (.ref p))) (ρ.set i (.ow d)) :=
  E.owns (N := fun b => b = p) i (fun b z => z ▸ n) e (fun b z => z ▸ h) hs fun as ⟨q, e, ea⟩ b m => by
    cases e; rw [ea] at m; exact List.mem_singleton.mp m
/-- a slot is forgotten, or known no more than so -/
theorem En.forget (E : En K B O H σ ρ) (i : Nat) : En K B O H σ (ρ.set i .no) := by
  refine ⟨E.sub, E.bdom, E.osub, E.dom, E.adom, E.fdom, E.ext, by simp [E.len], fun j s' h => ?_, fun j k d e as bs b h1 h2 h3 h4 => ?_⟩
  · rcases set_get h with ⟨rfl, rfl, hl⟩ | ⟨hn, h⟩
    · trivial
    · exact E.at_ j s' h
  · rcases set_get h1 with ⟨_, rfl, _⟩ | ⟨n1, h1⟩
    · exact h3.elim
    · rcases set_get h2 with ⟨_, rfl, _⟩ | ⟨n2, h2⟩
      · exact h4.elim
      · exact E.inj j k d e as bs b h1 h2 h3 h4
/-- ρ' knows no more than ρ -/
def Le (ρ' ρ : List Sl) : Prop := ρ'.length = ρ.length ∧ ∀ (i : Nat) (s : Sl), ρ'[i]? = some s → s = .no ∨ ρ[i]? = some s
theorem En.le (E : En K B O H σ ρ) {ρ' : List Sl} (h : Le ρ' ρ) : En K B O H σ ρ' := by
  refine ⟨E.sub, E.bdom, E.osub, E.dom, E.adom, E.fdom, E.ext, by rw [E.len, h.1], fun j s' hj => ?_, fun j k d e as bs b h1 h2 h3 h4 => ?_⟩
  · rcases h.2 j s' hj with rfl | q
    · trivial
    · exact E.at_ j s' q
  · rcases h.2 j _ h1 with rfl | q1
    · exact h3.elim
    · rcases h.2 k _ h2 with rfl | q2
      · exact h4.elim
      · exact E.inj j k d e as bs b q1 q2 h3 h4
/-- an own part gets another content; what others own stays -/
theorem up_ext {p : Addr} {o o' : HO} (hp : H p = some o) (ns : ¬ isSrc o) : Ext (fun b => b = p) H (upd H p o') := by
  refine ⟨fun b o n _ h => by rw [upd_ne n]; exact h, fun b ⟨n, s, t, h⟩ => ⟨n, s, t, ?_⟩⟩
  rw [upd_ne]
  · exact h
  · intro z
    rw [z, hp] at h
    cases h
    exact ns ⟨n, s, t, rfl⟩
theorem up_dom {p : Addr} {o' : HO} : ∀ b, H b ≠ none → upd H p o' b ≠ none := fun b h => by
  by_cases c : b = p
  · rw [c, upd_same]; exact fun z => nomatch z
  · rw [upd_ne c]; exact h
theorem up_tr {p : Addr} {o' : HO} (ho : O p) : ∀ b u, ¬ O b → ¬ isSrc u → H b = some u → upd H p o' b = some u ∧ ¬ O b := fun b u n s h => ⟨by rw [upd_ne (fun (z : b = p) => n (z ▸ ho))]; exact h, n⟩
theorem SlOk.up {p : Addr} {o o' : HO} {x : Option (Option V)} {s : Sl} (h : SlOk K B O H x s) (ho : O p) (hp : H p = some o) (ns : ¬ isSrc o) (w : ∀ as, Own K H x s as → p ∉ as) : SlOk K B O (upd H p o') x s :=
  h.tr (up_tr ho) (fun as k b z => ⟨fun u n q => by rw [upd_ne (fun (e : b = p) => w as k (e ▸ z))]; exact q, (h.in_ k b z).1⟩) (fun a o s => ⟨o, (up_ext hp ns).src a s⟩) fun a ns' z => z.ext (up_ext hp ns) fun b e => e ▸ ho
theorem SlOk.upB {p : Addr} {o' : HO} {x : Option (Option V)} {s : Sl} {as : List Addr} (h : SlOk K B O H x s) (ho : O p) (w : ∀ as, Own K H x s as → p ∉ as) (k : Own K (upd H p o') x s as) : Own K H x s as :=
  h.back (up_tr ho) (fun as k b z u n q => by rw [upd_ne (fun (e : b = p) => w as k (e ▸ z))]; exact q) k
/-- slot i's own part at p gets another content -/
theorem En.mutW {i : Nat} {s s' : Sl} {p : Addr} {o o' : HO} {as : List Addr} (E : En K B O H σ ρ) (h : ρ[i]? = some s) (w : Own K H (σ[i]?) s as) (m : p ∈ as) (hp : H p = some o) (hn : SlOk K B O (upd H p o') (σ[i]?) s') (hw : ∀ bs, Own K (upd H p o') (σ[i]?) s' bs → ∀ b ∈ bs, b ∈ as) : En K B O (upd H p o') σ (ρ.set i s') := by
  obtain ⟨ho, hF, ha, u, hu, ns⟩ := (E.at_ i s h).in_ w p m
  rw [hp] at hu; cases hu
  have nw : ∀ (j : Nat) (t : Sl), i ≠ j → ρ[j]? = some t → ∀ bs, Own K H (σ[j]?) t bs → p ∉ bs := fun j t ne hj bs wb mb => ne (E.inj i j s t as bs p h hj w wb m mb)
  have e : Ext (fun b => b = p) H (upd H p o') := up_ext hp ns
  refine ⟨E.sub, E.bdom, E.osub, fun b h => up_dom b (E.dom b h), fun b h => up_dom b (E.adom b h), fun b h => up_dom b (E.fdom b h), ?_, by simp [E.len], fun j t hj => ?_, fun j k t1 t2 as1 as2 b h1 h2 w1 w2 m1 m2 => ?_⟩
  · refine ⟨fun b o n s h => ?_, fun b h => e.src b (E.ext.src b h)⟩
    have := E.ext.keep b o n s h
    rw [upd_ne]
    · exact this
    · intro z
      rw [z] at n h
      rcases ha with ha | ha
      · exact n ha
      · rw [ha] at h; cases h
  · rcases set_get hj with ⟨rfl, rfl, hl⟩ | ⟨hne, hj⟩
    · exact hn
    · exact (E.at_ j t hj).up ho hp ns (nw j t hne hj)
  · have back : ∀ (j : Nat) (t : Sl) (cs : List Addr), (ρ.set i s')[j]? = some t → Own K (upd H p o') (σ[j]?) t cs → b ∈ cs → ∃ t2 cs2, ρ[j]? = some t2 ∧ Own K H (σ[j]?) t2 cs2 ∧ b ∈ cs2 := fun j t cs hj w' mb => by
      rcases set_get hj with ⟨rfl, rfl, _⟩ | ⟨hne, hj⟩
      · exact ⟨s, as, h, w, hw cs w' b mb⟩
      · exact ⟨t, cs, hj, (E.at_ j t hj).upB ho (nw j t hne hj) w', mb⟩
    obtain ⟨u1, c1, g1, k1, n1⟩ := back j t1 as1 h1 w1 m1
    obtain ⟨u2, c2, g2, k2, n2⟩ := back k t2 as2 h2 w2 m2
    exact E.inj j k u1 u2 c1 c2 b g1 g2 k1 k2 n1 n2
end
end Va

namespace Va
open PySem PySem.Spec PyProof.Rows L2 Bg
/-! ### the judgements: what a reading comes to -/
abbrev Res (α : Type) := AP → Hp → Hp → V → α → Prop
def RG (K : PySem.W.Frag) (EX : L2.St → XK) (ρ : List Sl) (t : TE) {α : Type} (res : Res α) (w : M α) : Prop :=
  ∀ (B : Bs) (O : AP) (H : Hp) (σ : L2.St), En K B O H σ ρ → ∀ (P : α → Prop) (PX : Exn → Prop) (Q : VK), w P PX →
    (∀ a v H', P a → Ext No H H' → res O H H' v a → Q v H') → (∀ x cls d H', PX x → Ext No H H' → XOk K O H' cls d x → EX σ cls d H') → t σ H Q
def resE (K : PySem.W.Frag) {α : Type} (en : α → D) : Res α := fun O _ H' v a => Rep K O H' v (en a)
def SqV (K : PySem.W.Frag) (O : AP) (H : Hp) (v : V) (ds : List D) : Prop := ∃ a vs, v = .ref a ∧ SqL K H a vs ∧ RepL K O H vs ds
def resQ (K : PySem.W.Frag) {α : Type} (en : α → D) : Res (List α) := fun O _ H' v l => SqV K O H' v (l.map en)
def FrV (K : PySem.W.Frag) (O : AP) (H H' : Hp) (v : V) (ds : List D) : Prop := ∃ p vs, v = .ref p ∧ H p = none ∧ H' p = some (.lst vs) ∧ RepL K (Pl O p) H' vs ds
def resF (K : PySem.W.Frag) {α : Type} (en : α → D) : Res (List α) := fun O H H' v l => FrV K O H H' v (l.map en)
abbrev RE (K : PySem.W.Frag) (EX : L2.St → XK) (ρ : List Sl) (t : TE) {α : Type} (en : α → D) (w : M α) : Prop := RG K EX ρ t (resE K en) w
abbrev RQ (K : PySem.W.Frag) (EX : L2.St → XK) (ρ : List Sl) (t : TE) {α : Type} (en : α → D) (w : M (List α)) : Prop := RG K EX ρ t (resQ K en) w
abbrev RF (K : PySem.W.Frag) (EX : L2.St → XK) (ρ : List Sl) (t : TE) {α : Type} (en : α → D) (w : M (List α)) : Prop := RG K EX ρ t (resF K en) w
def RT (K : PySem.W.Frag) (EX : L2.St → XK) (ρ : List Sl) (t : TT) (w : M Bool) : Prop :=
  ∀ (B : Bs) (O : AP) (H : Hp) (σ : L2.St), En K B O H σ ρ → ∀ (P : Bool → Prop) (PX : Exn → Prop) (Q : Bool → Hp → Prop), w P PX →
    (∀ b H', P b → Ext No H H' → Q b H') → (∀ x cls d H', PX x → Ext No H H' → XOk K O H' cls d x → EX σ cls d H') → t σ H Q
/-- arguments -/
inductive ArOk (K : PySem.W.Frag) (O : AP) (H : Hp) : List V → List Sl → Prop
  | nil : ArOk K O H [] []
  | sh {v : V} {d : D} {vs : List V} {ss : List Sl} : Rep K O H v d → ArOk K O H vs ss → ArOk K O H (v :: vs) (.sh d :: ss)
  | src {a : Addr} {vs : List V} {ss : List Sl} : O a → Src H a → ArOk K O H vs ss → ArOk K O H (.ref a :: vs) (.src :: ss)
  | scr {a : Addr} {ns : List Int} {vs : List V} {ss : List Sl} : Scr K O H a ns → ArOk K O H vs ss → ArOk K O H (.ref a :: vs) (.scr ns :: ss)
def RA (K : PySem.W.Frag) (EX : L2.St → XK) (ρ : List Sl) (t : TA) {α : Type} (ar : α → List Sl) (w : M α) : Prop :=
  ∀ (B : Bs) (O : AP) (H : Hp) (σ : L2.St), En K B O H σ ρ → ∀ (P : α → Prop) (PX : Exn → Prop) (Q : List V → Hp → Prop), w P PX →
    (∀ a vs H', P a → Ext No H H' → ArOk K O H' vs (ar a) → Q vs H') → (∀ x cls d H', PX x → Ext No H H' → XOk K O H' cls d x → EX σ cls d H') → t σ H Q
section
variable {K : PySem.W.Frag} {EX : L2.St → XK} {ρ : List Sl} {α β γ : Type}
theorem ArOk.ex {O : AP} {H H' : Hp} {vs : List V} {ss : List Sl} (h : ArOk K O H vs ss) (x : Ext No H H') : ArOk K O H' vs ss := by
  induction h with
  | nil => exact .nil
  | sh r _ ih => exact .sh (r.ex x) ih
  | src o s _ ih => exact .src o (x.src _ s) ih
  | scr e _ ih => exact .scr (e.ext x fun _ z => z.elim) ih
theorem RG.imp {t : TE} {res res' : Res α} {w : M α} (h : RG K EX ρ t res w) (f : ∀ O H H' v a, (∀ b, O b → H b ≠ none) → Ext No H H' → res O H H' v a → res' O H H' v a) : RG K EX ρ t res' w := fun B O H σ E P PX Q hw hq hx =>
  h B O H σ E P PX Q hw (fun a v H' p e r => hq a v H' p e (f O H H' v a E.dom e r)) hx
theorem FrV.rep {O : AP} {H H' : Hp} {v : V} {ds : List D} (h : FrV K O H H' v ds) (d : ∀ b, O b → H b ≠ none) : Rep K O H' v (.lst ds) := by
  obtain ⟨p, vs, rfl, n, h, r⟩ := h
  exact .lst (fun z => d p z n) h (r.mono fun b z => .inl z)
theorem RG.fe {t : TE} {en : α → D} {w : M (List α)} (h : RF K EX ρ t en w) : RE K EX ρ t (fun l => .lst (l.map en)) w := h.imp fun _ _ _ _ _ d _ r => FrV.rep r d
theorem RG.eq {t : TE} {en : α → D} {w : M (List α)} (h : RE K EX ρ t (fun l => .lst (l.map en)) w) : RQ K EX ρ t en w := h.imp fun _ _ _ _ _ _ _ r => by
  cases r with
  | lst _ h r => exact ⟨_, _, rfl, .inl (.inl h), r⟩
theorem RG.fq {t : TE} {en : α → D} {w : M (List α)} (h : RF K EX ρ t en w) : RQ K EX ρ t en w := h.fe.eq
/-- another reading of the same tree -/
theorem RG.map {t : TE} {en : α → D} {en' : β → D} {w : M α} (f : α → β) (h : RE K EX ρ t en w) (hf : ∀ a, en' (f a) = en a) : RE K EX ρ t en' (w >>= fun a => pure (f a)) := fun B O H σ E P PX Q hw hq hx =>
  h B O H σ E (fun a => P (f a)) PX Q hw (fun a v H' p e r => hq (f a) v H' p e (by show Rep K O H' v _; rw [hf a]; exact r)) hx
/-- the tree is one of a narrower kind -/
def narrow {α β : Type} (en : α → D) (en' : β → D) (a : α) : M β := fun P _ => ∃ b, en a = en' b ∧ P b
theorem RG.nar {t : TE} {en : α → D} {en' : β → D} {w : M α} (h : RE K EX ρ t en w) : RE K EX ρ t en' (w >>= narrow en en') := fun B O H σ E P PX Q hw hq hx =>
  h B O H σ E (fun a => narrow en en' a P PX) PX Q hw (fun a v H' ⟨b, e1, p⟩ e r => hq b v H' p e (by show Rep K O H' v _; rw [← e1]; exact r)) hx
/-! names and constants -/
theorem repl_int {O : AP} {H : Hp} (ns : List Int) : RepL K O H (ns.map V.int) (ns.map D.int) := by
  induction ns with
  | nil => exact .nil
  | cons n ns ih => exact .cons (.int n) ih
theorem re_var {en : α → D} {x : α} (i : Nat) (h : ρ[i]? = some (.sh (en x)) := by rfl) : RE K EX ρ (tVar i) en (pure x) := fun B O H σ E P PX Q hw hq _ => by
  obtain ⟨v, hv, r⟩ := E.at_ i _ h
  exact ⟨v, hv, hq x v H hw (.refl _ _) r⟩
theorem rq_own {en : α → D} {l : List α} (i : Nat) (h : ρ[i]? = some (.ow (.lst (l.map en))) := by rfl) : RQ K EX ρ (tVar i) en (pure l) := fun B O H σ E P PX Q hw hq _ => by
  obtain ⟨p, vs, hv, o, _, _, hp, r⟩ := E.at_ i _ h
  exact ⟨.ref p, hv, hq l _ H hw (.refl _ _) ⟨p, vs, rfl, .inl (.inl hp), r⟩⟩
theorem rq_scr {ns : List Int} (i : Nat) (h : ρ[i]? = some (.scr ns) := by rfl) : RQ K EX ρ (tVar i) D.int (pure ns) := fun B O H σ E P PX Q hw hq _ => by
  obtain ⟨a, hv, ha⟩ := E.at_ i _ h
  exact ⟨.ref a, hv, hq ns _ H hw (.refl _ _) ⟨a, _, rfl, ha.sq, repl_int ns⟩⟩
theorem re_c {v : V} {en : α → D} {x : α} (r : ∀ O H, Rep K O H v (en x)) : RE K EX ρ (tC v) en (pure x) := fun B O H σ E P PX Q hw hq _ => hq x v H hw (.refl _ _) (r _ _)
theorem re_int (i : Int) : RE K EX ρ (tC (.int i)) D.int (pure i) := re_c fun _ _ => .int i
theorem re_str (z : Str) : RE K EX ρ (tC (.str z)) D.str (pure z) := re_c fun _ _ => .str z
theorem re_bl (b : Bool) : RE K EX ρ (tC (.bl b)) D.bl (pure b) := re_c fun _ _ => .bl b
def eU : Unit → D := fun _ => .non
theorem re_non : RE K EX ρ (tC .non) eU (pure ()) := re_c fun _ _ => .non
/-! operators -/
def ROp (K : PySem.W.Frag) (r : R2) (res1 : Res α) (res2 : Res β) (res : Res γ) (m : α → β → M γ) : Prop :=
  ∀ (O : AP) (H0 H : Hp) (x y : V) (a : α) (b : β) (P : γ → Prop) (PX : Exn → Prop) (Q : VK), (∀ b, O b → H b ≠ none) → res1 O H0 H x a → res2 O H0 H y b → m a b P PX → (∀ c v H', P c → Ext No H H' → res O H H' v c → Q v H') → r x y H Q
/-- what a result says lasts -/
class Lasts {α : Type} (res : Res α) : Prop where
  ex : ∀ {O : AP} {H0 H1 H2 : Hp} {v : V} {a : α}, res O H0 H1 v a → Ext No H1 H2 → res O H0 H2 v a
  base : ∀ {O : AP} {H0 H1 H2 : Hp} {v : V} {a : α}, res O H1 H2 v a → Ext No H0 H1 → res O H0 H2 v a
instance {en : α → D} : Lasts (resE K en) := ⟨fun r e => Rep.ex r e, fun r _ => r⟩
theorem SqL.ext {a : Addr} {vs : List V} {H H' : Hp} (h : SqL K H a vs) (e : Ext No H H') : SqL K H' a vs := by
  rcases h with (h | ⟨o, h⟩) | h
  · exact .inl (.inl (e.keep _ _ (fun z => z) ns_lst h))
  · exact .inl (.inr ⟨o, e.keep _ _ (fun z => z) (fun z => z) h⟩)
  · exact .inr h
instance {en : α → D} : Lasts (resQ K en) := ⟨fun ⟨a, vs, e1, h, r⟩ e => ⟨a, vs, e1, SqL.ext h e, r.ex e⟩, fun r _ => r⟩
instance {en : α → D} : Lasts (resF K en) := ⟨fun ⟨p, vs, e1, n, h, r⟩ e => ⟨p, vs, e1, n, e.keep _ _ (fun z => z) ns_lst h, r.ex e⟩, fun ⟨p, vs, e1, n, h, r⟩ e => ⟨p, vs, e1, e.free (fun z => z) n, h, r⟩⟩
theorem rg_op {r : R2} {ta tb : TE} {res1 : Res α} {res2 : Res β} {res : Res γ} {m : α → β → M γ} {wa : M α} {wb : M β} [Lasts res1] [Lasts res2] [Lasts res] (hr : ROp K r res1 res2 res m) (ha : RG K EX ρ ta res1 wa) (hb : RG K EX ρ tb res2 wb) :
    RG K EX ρ (tOp r ta tb) res (wa >>= fun a => wb >>= fun b => m a b) := fun B O H σ E P PX Q hw hq hx => by
  refine ha B O H σ E _ PX _ hw (fun a x H1 p1 e1 r1 => ?_) hx
  have E1 := E.ex e1
  refine hb B O H1 σ E1 _ PX _ p1 (fun b y H2 p2 e2 r2 => ?_) fun x cls d H' px e k => hx x cls d H' px (e1.trans e) k
  exact hr O H H2 x y a b P PX Q (E1.ex e2).dom (Lasts.ex r1 e2) (Lasts.base r2 e1) p2 fun c v H' p e k => hq c v H' p ((e1.trans e2).trans e) (Lasts.base k (e1.trans e2))
end
end Va

namespace Va
open PySem PySem.Spec PyProof.Rows L2 Bg
/-! ### readers of trees -/
def eL {α : Type} (en : α → D) : List α → D := fun l => .lst (l.map en)
def eTL {α : Type} (en : α → D) : List α → D := fun l => .tup (l.map en)
def eT1 {α : Type} (e1 : α → D) : α → D := fun p => .tup [e1 p]
def eT2 {α β : Type} (e1 : α → D) (e2 : β → D) : α × β → D := fun p => .tup [e1 p.1, e2 p.2]
def eT3 {α β γ : Type} (e1 : α → D) (e2 : β → D) (e3 : γ → D) : α × β × γ → D := fun p => .tup [e1 p.1, e2 p.2.1, e3 p.2.2]
def eO {α : Type} (en : α → D) : Option α → D
  | none => .non
  | some a => en a
def eDI {α : Type} (en : α → D) : List (Int × α) → D := fun l => .dct (l.map fun p => (Sum.inl p.1, en p.2))
def eDS {α : Type} (en : α → D) : List (Str × α) → D := fun l => .dct (l.map fun p => (Sum.inr p.1, en p.2))
/-! the plain ones as the kit's data -/
mutual
def toP : D → PyData
  | .non => .none
  | .bl b => .bool b
  | .int i => .int i
  | .str z => .str z
  | .lst ds => .list (toPs ds)
  | .tup ds => .tuple (toPs ds)
  | .dct _ => .none
  | .dcp _ => .none
  | .obj _ _ => .none
def toPs : List D → List PyData
  | [] => []
  | d :: ds => toP d :: toPs ds
end
mutual
def plain : D → Bool
  | .lst ds => plains ds
  | .tup ds => plains ds
  | .dct _ => false
  | .dcp _ => false
  | .obj _ _ => false
  | _ => true
def plains : List D → Bool
  | [] => true
  | d :: ds => plain d && plains ds
end
section
variable {K : PySem.W.Frag} {O : AP} {H : Hp}
mutual
theorem Rep.dp : ∀ {d : D} {v : V}, Rep K O H v d → plain d = true → Dp K H v (toP d)
  | _, _, .non, _ => .non
  | _, _, .bl b, _ => .bl b
  | _, _, .int i, _ => .int i
  | _, _, .str z, _ => .str z
  | _, _, .lst _ h r, p => .lst (.inl (.inl h)) (RepL.dp r p)
  | _, _, .tup _ h r, p => .tup (.inl (.inl h)) (RepL.dp r p)
  | _, _, .dct _ _ _ _ _, p => nomatch p
  | _, _, .dcp _ _ _ _, p => nomatch p
  | _, _, .obj _ _ _ _, p => nomatch p
theorem RepL.dp : ∀ {ds : List D} {vs : List V}, RepL K O H vs ds → plains ds = true → DpAll K H vs (toPs ds)
  | _, _, .nil, _ => .nil
  | _, _, .cons r t, p => .cons (Rep.dp r (Bool.and_eq_true_iff.mp p).1) (RepL.dp t (Bool.and_eq_true_iff.mp p).2)
end
end
theorem toPs_map (ds : List D) : toPs ds = ds.map toP := by
  induction ds with
  | nil => rfl
  | cons d ds ih => rw [List.map_cons, ← ih]; rfl
theorem plains_iff (ds : List D) : plains ds = true ↔ ∀ d ∈ ds, plain d = true := by
  induction ds with
  | nil => exact ⟨fun _ _ h => (nomatch h), fun _ => rfl⟩
  | cons d ds ih => rw [plains, Bool.and_eq_true, ih]; simp
/-! ### operators -/
section
variable {K : PySem.W.Frag} {EX : L2.St → XK} {ρ : List Sl} {α β γ : Type}
abbrev eI := D.int
abbrev eB := D.bl
abbrev eS := D.str
theorem rop_i (g : Int → Int → Int) : ROp K (rI0 fun i j => .int (g i j)) (resE K D.int) (resE K D.int) (resE K D.int) (fun a b => pure (g a b)) := fun O H0 H x y a b P PX Q _ r1 r2 p q => by
  cases r1; cases r2
  exact ⟨a, b, rfl, rfl, q _ _ _ p (.refl _ _) (.int _)⟩
theorem rop_b (g : Int → Int → Bool) : ROp K (rI0 fun i j => .bl (g i j)) (resE K D.int) (resE K D.int) (resE K D.bl) (fun a b => pure (g a b)) := fun O H0 H x y a b P PX Q _ r1 r2 p q => by
  cases r1; cases r2
  exact ⟨a, b, rfl, rfl, q _ _ _ p (.refl _ _) (.bl _)⟩
/-- an operator with a bound -/
def bnd (C : Int → Int → Prop) (g : Int → Int → Int) (a b : Int) : M Int := fun P _ => C a b ∧ P (g a b)
theorem rop_c (C : Int → Int → Prop) (g : Int → Int → Int) : ROp K (rI C fun i j => .int (g i j)) (resE K D.int) (resE K D.int) (resE K D.int) (bnd C g) := fun O H0 H x y a b P PX Q _ r1 r2 p q => by
  cases r1; cases r2
  exact ⟨a, b, rfl, rfl, p.1, q _ _ _ p.2 (.refl _ _) (.int _)⟩
theorem re_add {ta tb : TE} {wa wb : M Int} (ha : RE K EX ρ ta D.int wa) (hb : RE K EX ρ tb D.int wb) : RE K EX ρ (tOp (rI0 fun i j => .int (i + j)) ta tb) D.int (wa >>= fun a => wb >>= fun b => pure (a + b)) := rg_op (rop_i (· + ·)) ha hb
theorem re_sub {ta tb : TE} {wa wb : M Int} (ha : RE K EX ρ ta D.int wa) (hb : RE K EX ρ tb D.int wb) : RE K EX ρ (tOp (rI0 fun i j => .int (i - j)) ta tb) D.int (wa >>= fun a => wb >>= fun b => pure (a - b)) := rg_op (rop_i (· - ·)) ha hb
theorem re_bnd {C : Int → Int → Prop} {g : Int → Int → Int} {ta tb : TE} {wa wb : M Int} (ha : RE K EX ρ ta D.int wa) (hb : RE K EX ρ tb D.int wb) : RE K EX ρ (tOp (rI C fun i j => .int (g i j)) ta tb) D.int (wa >>= fun a => wb >>= fun b => bnd C g a b) := rg_op (rop_c C g) ha hb
theorem re_lt {ta tb : TE} {wa wb : M Int} (ha : RE K EX ρ ta D.int wa) (hb : RE K EX ρ tb D.int wb) : RE K EX ρ (tOp (rI0 fun i j => .bl (decide (i < j))) ta tb) D.bl (wa >>= fun a => wb >>= fun b => pure (decide (a < b))) := rg_op (rop_b fun i j => decide (i < j)) ha hb
theorem re_le {ta tb : TE} {wa wb : M Int} (ha : RE K EX ρ ta D.int wa) (hb : RE K EX ρ tb D.int wb) : RE K EX ρ (tOp (rI0 fun i j => .bl (decide (i ≤ j))) ta tb) D.bl (wa >>= fun a => wb >>= fun b => pure (decide (a ≤ b))) := rg_op (rop_b fun i j => decide (i ≤ j)) ha hb
theorem re_gt {ta tb : TE} {wa wb : M Int} (ha : RE K EX ρ ta D.int wa) (hb : RE K EX ρ tb D.int wb) : RE K EX ρ (tOp (rI0 fun i j => .bl (decide (j < i))) ta tb) D.bl (wa >>= fun a => wb >>= fun b => pure (decide (b < a))) := rg_op (rop_b fun i j => decide (j < i)) ha hb
theorem re_ge {ta tb : TE} {wa wb : M Int} (ha : RE K EX ρ ta D.int wa) (hb : RE K EX ρ tb D.int wb) : RE K EX ρ (tOp (rI0 fun i j => .bl (decide (j ≤ i))) ta tb) D.bl (wa >>= fun a => wb >>= fun b => pure (decide (b ≤ a))) := rg_op (rop_b fun i j => decide (j ≤ i)) ha hb
theorem re_neg {ta : TE} {wa : M Int} (ha : RE K EX ρ ta D.int wa) : RE K EX ρ (tUn (rU fun i => .int (-i)) ta) D.int (wa >>= fun a => pure (-a)) := fun B O H σ E P PX Q hw hq hx =>
  ha B O H σ E _ PX _ hw (fun a v H' p e r => by cases r; exact ⟨a, rfl, hq _ _ _ p e (.int _)⟩) hx
/-! == of plain things -/
/-- flat things -/
def flatD : D → Bool
  | .non => true | .bl _ => true | .int _ => true | .str _ => true | _ => false
def flV : D → V
  | .non => .non | .bl b => .bl b | .int i => .int i | .str z => .str z | _ => .non
theorem Rep.flat {O : AP} {H : Hp} {v : V} {d : D} (r : Rep K O H v d) (h : flatD d = true) : v = flV d := by
  cases r <;> first | rfl | cases h
/-- x == y of scalars of one kind, or one of them None -/
def eqF (neg : Bool) (d e : D) : M Bool := fun P _ => flatD d = true ∧ flatD e = true ∧ scal (flV d) (flV e) = true ∧ P (if neg then !decide (flV d = flV e) else decide (flV d = flV e))
theorem re_eq {ta tb : TE} {en : α → D} {en' : β → D} {wa : M α} {wb : M β} (ha : RE K EX ρ ta en wa) (hb : RE K EX ρ tb en' wb) : RE K EX ρ (tOp rEq ta tb) D.bl (wa >>= fun a => wb >>= fun b => eqF false (en a) (en' b)) :=
  rg_op (fun O H0 H x y a b P PX Q _ r1 r2 p q => by
    obtain ⟨f1, f2, s, p⟩ := p
    rw [Rep.flat r1 f1, Rep.flat r2 f2]
    exact ⟨s, q _ _ _ p (.refl _ _) (.bl _)⟩) ha hb
theorem re_ne {ta tb : TE} {en : α → D} {en' : β → D} {wa : M α} {wb : M β} (ha : RE K EX ρ ta en wa) (hb : RE K EX ρ tb en' wb) : RE K EX ρ (tOp rNe ta tb) D.bl (wa >>= fun a => wb >>= fun b => eqF true (en a) (en' b)) :=
  rg_op (fun O H0 H x y a b P PX Q _ r1 r2 p q => by
    obtain ⟨f1, f2, s, p⟩ := p
    rw [Rep.flat r1 f1, Rep.flat r2 f2]
    exact ⟨s, q _ _ _ p (.refl _ _) (.bl _)⟩) ha hb
/-- x == y of data -/
def eqD (neg : Bool) (d e : D) : M Bool := fun P _ => plain d = true ∧ plain e = true ∧ SeqAt.shaped (toP d) = true ∧ SeqAt.shaped (toP e) = true ∧ P (if neg then !PyData.eqv (toP d) (toP e) else PyData.eqv (toP d) (toP e))
/-- what can be read as data: a tree, or a list seen -/
class Seen {α : Type} (K : PySem.W.Frag) (res : Res α) (en : outParam (α → D)) : Prop where
  dp : ∀ {O : AP} {H0 H : Hp} {v : V} {a : α}, res O H0 H v a → plain (en a) = true → Dp K H v (toP (en a))
instance {en : α → D} : Seen K (resE K en) en := ⟨fun r p => Rep.dp r p⟩
instance {en : α → D} : Seen K (resQ K en) (eL en) := ⟨fun ⟨a, vs, e, h, r⟩ p => by subst e; exact .lst h (r.dp p)⟩
theorem re_eqD {ta tb : TE} {res1 : Res α} {res2 : Res β} [Lasts res1] [Lasts res2] {en : α → D} {en' : β → D} [Seen K res1 en] [Seen K res2 en'] {wa : M α} {wb : M β} (ha : RG K EX ρ ta res1 wa) (hb : RG K EX ρ tb res2 wb) : RE K EX ρ (tOp (rEqD K) ta tb) D.bl (wa >>= fun a => wb >>= fun b => eqD false (en a) (en' b)) :=
  rg_op (fun O H0 H x y a b P PX Q _ r1 r2 p q => by
    obtain ⟨f1, f2, s1, s2, p⟩ := p
    exact ⟨_, _, Seen.dp r1 f1, Seen.dp r2 f2, s1, s2, q _ _ _ p (.refl _ _) (.bl _)⟩) ha hb
theorem re_neD {ta tb : TE} {res1 : Res α} {res2 : Res β} [Lasts res1] [Lasts res2] {en : α → D} {en' : β → D} [Seen K res1 en] [Seen K res2 en'] {wa : M α} {wb : M β} (ha : RG K EX ρ ta res1 wa) (hb : RG K EX ρ tb res2 wb) : RE K EX ρ (tOp (rNeD K) ta tb) D.bl (wa >>= fun a => wb >>= fun b => eqD true (en a) (en' b)) :=
  rg_op (fun O H0 H x y a b P PX Q _ r1 r2 p q => by
    obtain ⟨f1, f2, s1, s2, p⟩ := p
    exact ⟨_, _, Seen.dp r1 f1, Seen.dp r2 f2, s1, s2, q _ _ _ p (.refl _ _) (.bl _)⟩) ha hb
/-- x is None -/
def isN : D → Bool
  | .non => true
  | _ => false
theorem Rep.isN {O : AP} {H : Hp} {v : V} {d : D} (r : Rep K O H v d) : decide (v = .non) = Va.isN d := by
  cases r <;> first | rfl | exact decide_eq_false fun z => nomatch z
theorem re_isN {ta : TE} {en : α → D} {wa : M α} (ha : RE K EX ρ ta en wa) : RE K EX ρ (tOp (fun x y H Q => y = .non ∧ Q (.bl (decide (x = .non))) H) ta (tC .non)) D.bl (wa >>= fun a => pure (Va.isN (en a))) := fun B O H σ E P PX Q hw hq hx =>
  ha B O H σ E _ PX _ hw (fun a v H' p e r => by
    refine ⟨rfl, ?_⟩
    rw [Rep.isN r]
    exact hq _ _ _ p e (.bl _)) hx
theorem re_notN {ta : TE} {en : α → D} {wa : M α} (ha : RE K EX ρ ta en wa) : RE K EX ρ (tOp (fun x y H Q => y = .non ∧ Q (.bl (!decide (x = .non))) H) ta (tC .non)) D.bl (wa >>= fun a => pure (!Va.isN (en a))) := fun B O H σ E P PX Q hw hq hx =>
  ha B O H σ E _ PX _ hw (fun a v H' p e r => by
    refine ⟨rfl, ?_⟩
    rw [Rep.isN r]
    exact hq _ _ _ p e (.bl _)) hx
/-! texts -/
theorem re_addS {ta tb : TE} {wa wb : M Str} (ha : RE K EX ρ ta D.str wa) (hb : RE K EX ρ tb D.str wb) : RE K EX ρ (tOp (fun x y H Q => ∃ i j, x = .str i ∧ y = .str j ∧ i.length + j.length ≤ sizeLine ∧ Q (.str (i ++ j)) H) ta tb) D.str (wa >>= fun a => wb >>= fun b => (need (a.length + b.length ≤ sizeLine) >>= fun _ => pure (a ++ b))) :=
  rg_op (fun O H0 H x y a b P PX Q _ r1 r2 p q => by
    cases r1; cases r2
    exact ⟨a, b, rfl, rfl, p.1, q _ _ _ p.2 (.refl _ _) (.str _)⟩) ha hb
/-! items -/
def getI {α : Type} (l : List α) (i : Int) : M α := fun P _ => ∃ x, atI l i = some x ∧ P x
theorem ixN_map {n : Nat} {i : Int} {j : Nat} (h : ixN n i = some j) : j < n := by
  unfold ixN at h
  split at h
  · split at h
    · cases h; omega
    · cases h
  · split at h
    · cases h; omega
    · cases h
theorem RepL.atI {O : AP} {H : Hp} {vs : List V} {en : α → D} {l : List α} (r : RepL K O H vs (l.map en)) {i : Int} {x : α} (h : L2.atI l i = some x) : ∃ v, L2.atI vs i = some v ∧ Rep K O H v (en x) := by
  unfold L2.atI at h ⊢
  have hl : vs.length = l.length := by rw [r.length, List.length_map]
  rw [hl]
  cases q : ixN l.length i with
  | none => rw [q] at h; cases h
  | some j =>
    rw [q] at h
    have h : l[j]? = some x := h
    exact r.get (d := en x) (by rw [List.getElem?_map, h]; rfl)
theorem re_ixL {ta tb : TE} {en : α → D} {wa : M (List α)} {wb : M Int} (ha : RQ K EX ρ ta en wa) (hb : RE K EX ρ tb D.int wb) : RE K EX ρ (tOp (rIxL K) ta tb) en (wa >>= fun a => wb >>= fun b => getI a b) :=
  rg_op (fun O H0 H x y a b P PX Q _ r1 r2 p q => by
    obtain ⟨l, vs, rfl, hl, r⟩ := r1
    cases r2
    obtain ⟨z, hz, p⟩ := p
    obtain ⟨v, hv, rv⟩ := r.atI hz
    exact ⟨l, vs, b, v, rfl, rfl, hl, hv, q _ _ _ p (.refl _ _) rv⟩) ha hb
theorem re_ixTL {ta tb : TE} {en : α → D} {wa : M (List α)} {wb : M Int} (ha : RE K EX ρ ta (eTL en) wa) (hb : RE K EX ρ tb D.int wb) : RE K EX ρ (tOp (rIxT K) ta tb) en (wa >>= fun a => wb >>= fun b => getI a b) :=
  rg_op (fun O H0 H x y a b P PX Q _ r1 r2 p q => by
    cases r1 with
    | tup _ h r =>
      cases r2
      obtain ⟨z, hz, p⟩ := p
      obtain ⟨v, hv, rv⟩ := RepL.atI r hz
      exact ⟨_, _, b, v, rfl, rfl, .inl (.inl h), hv, q _ _ _ p (.refl _ _) rv⟩) ha hb
/-- t[i] of a tuple by its known shape -/
theorem re_ixT {ta : TE} {en : α → D} {en' : β → D} {wa : M α} {ds : α → List D} (g : α → β) (i : Int) (h : ∀ a, en a = .tup (ds a)) (hi : ∀ a, L2.atI (ds a) i = some (en' (g a))) (ha : RE K EX ρ ta en wa) : RE K EX ρ (tOp (rIxT K) ta (tC (.int i))) en' (wa >>= fun a => pure (g a)) := fun B O H σ E P PX Q hw hq hx =>
  ha B O H σ E _ PX _ hw (fun a v H' p e r => by
    have r : Rep K O H' v (.tup (ds a)) := h a ▸ r
    cases r with
    | tup _ hh r =>
      obtain ⟨v, hv, rv⟩ := RepL.atI (en := id) (l := ds a) (by rw [List.map_id]; exact r) (hi a)
      exact ⟨_, _, i, v, rfl, rfl, .inl (.inl hh), hv, hq _ _ _ p e rv⟩) hx
def getS (z : Str) (i : Int) : M Str := fun P _ => z.length ≤ sizeLine ∧ ∃ c, atI z.cps.toList i = some c ∧ P ⟨#[c]⟩
theorem re_ixS {ta tb : TE} {wa : M Str} {wb : M Int} (ha : RE K EX ρ ta D.str wa) (hb : RE K EX ρ tb D.int wb) : RE K EX ρ (tOp rIxS ta tb) D.str (wa >>= fun a => wb >>= fun b => getS a b) :=
  rg_op (fun O H0 H x y a b P PX Q _ r1 r2 p q => by
    cases r1; cases r2
    obtain ⟨hl, c, hc, p⟩ := p
    exact ⟨a, b, c, rfl, rfl, hl, hc, q _ _ _ p (.refl _ _) (.str _)⟩) ha hb
/-! a field -/
theorem re_fld {ta : TE} {en : α → D} {en' : β → D} {wa : M α} {C f : Str} {gs : α → List (Str × D)} (g : α → β) (hc : Cls K (He.ga K C)) (hn : NoAttr K (He.ga K C) f) (h : ∀ a, en a = .obj C (gs a)) (hf : ∀ a, (gs a).lookup f = some (en' (g a))) (ha : RE K EX ρ ta en wa) : RE K EX ρ (tFld K ta f) en' (wa >>= fun a => pure (g a)) := fun B O H σ E P PX Q hw hq hx =>
  ha B O H σ E _ PX _ hw (fun a v H' p e r => by
    have r : Rep K O H' v (.obj C (gs a)) := h a ▸ r
    generalize hgs : gs a = g0 at r
    have hfa := hf a
    rw [hgs] at hfa
    cases r with
    | obj _ hh e1 r =>
      have key : ∀ (fs : List (Str × V)) (g0 : List (Str × D)), fs.map (·.1) = g0.map (·.1) → RepL K O H' (fs.map (·.2)) (g0.map (·.2)) → ∀ d, g0.lookup f = some d → ∃ v, fs.lookup f = some v ∧ Rep K O H' v d := by
        intro fs
        induction fs with
        | nil =>
          intro g0 e _ d hd
          cases g0 with
          | nil => cases hd
          | cons _ _ => cases e
        | cons x fs ih =>
          intro g0 e r d hd
          cases g0 with
          | nil => cases e
          | cons y g0 =>
            obtain ⟨x1, x2⟩ := x
            obtain ⟨y1, y2⟩ := y
            injection e with e1 e2
            have e1 : x1 = y1 := e1
            subst e1
            cases r with
            | cons r1 r2 =>
              rw [List.lookup_cons] at hd ⊢
              cases c : f == x1 with
              | true => rw [c] at hd; cases hd; exact ⟨_, rfl, r1⟩
              | false => rw [c] at hd; exact ih g0 e2 r2 d hd
      obtain ⟨v, hv, rv⟩ := key _ _ e1 r _ hfa
      exact ⟨_, _, _, _, v, rfl, hh, hc, hn, hv, hq _ _ _ p e rv⟩) hx
/-! and, or, not as values; tests -/
theorem re_not {ta : TE} {wa : M Bool} (ha : RE K EX ρ ta D.bl wa) : RE K EX ρ (tNotV ta) D.bl (wa >>= fun a => pure (!a)) := fun B O H σ E P PX Q hw hq hx =>
  ha B O H σ E _ PX _ hw (fun a v H' p e r => by cases r; exact ⟨a, rfl, hq _ _ _ p e (.bl _)⟩) hx
theorem re_and {ta tb : TE} {wa wb : M Bool} (ha : RE K EX ρ ta D.bl wa) (hb : RE K EX ρ tb D.bl wb) : RE K EX ρ (tAndV ta tb) D.bl (wa >>= fun a => cond a wb (pure false)) := fun B O H σ E P PX Q hw hq hx =>
  ha B O H σ E _ PX _ hw (fun a v H' p e r => by
    cases r
    refine ⟨a, rfl, ?_⟩
    cases a with
    | true => exact iteT (hb B O H' σ (E.ex e) P PX Q p (fun b v H2 p2 e2 r2 => hq b v H2 p2 (e.trans e2) r2) fun x cls d H2 px e2 k => hx x cls d H2 px (e.trans e2) k)
    | false => exact iteF (hq false _ _ p e (.bl _))) hx
theorem re_or {ta tb : TE} {wa wb : M Bool} (ha : RE K EX ρ ta D.bl wa) (hb : RE K EX ρ tb D.bl wb) : RE K EX ρ (tOrV ta tb) D.bl (wa >>= fun a => cond a (pure true) wb) := fun B O H σ E P PX Q hw hq hx =>
  ha B O H σ E _ PX _ hw (fun a v H' p e r => by
    cases r
    refine ⟨a, rfl, ?_⟩
    cases a with
    | false => exact iteF (hb B O H' σ (E.ex e) P PX Q p (fun b v H2 p2 e2 r2 => hq b v H2 p2 (e.trans e2) r2) fun x cls d H2 px e2 k => hx x cls d H2 px (e.trans e2) k)
    | true => exact iteT (hq true _ _ p e (.bl _))) hx
theorem rt_b {ta : TE} {wa : M Bool} (ha : RE K EX ρ ta D.bl wa) : RT K EX ρ (tB ta) wa := fun B O H σ E P PX Q hw hq hx =>
  ha B O H σ E P PX _ hw (fun a v H' p e r => by cases r; exact ⟨a, rfl, hq a H' p e⟩) hx
theorem rt_test {ta : TE} {wa : M Bool} (ha : RE K EX ρ ta D.bl wa) : RT K EX ρ (tTest ta) wa := rt_b ha
theorem rt_not {ta : TT} {wa : M Bool} (ha : RT K EX ρ ta wa) : RT K EX ρ (tNot ta) (wa >>= fun a => pure (!a)) := fun B O H σ E P PX Q hw hq hx =>
  ha B O H σ E _ PX _ hw (fun a H' p e => hq _ H' p e) hx
theorem rt_and {ta tb : TT} {wa wb : M Bool} (ha : RT K EX ρ ta wa) (hb : RT K EX ρ tb wb) : RT K EX ρ (tAnd ta tb) (wa >>= fun a => cond a wb (pure false)) := fun B O H σ E P PX Q hw hq hx =>
  ha B O H σ E _ PX _ hw (fun a H' p e => by
    cases a with
    | true => exact iteT (hb B O H' σ (E.ex e) P PX Q p (fun b H2 p2 e2 => hq b H2 p2 (e.trans e2)) fun x cls d H2 px e2 k => hx x cls d H2 px (e.trans e2) k)
    | false => exact iteF (hq false _ p e)) hx
theorem rt_or {ta tb : TT} {wa wb : M Bool} (ha : RT K EX ρ ta wa) (hb : RT K EX ρ tb wb) : RT K EX ρ (tOr ta tb) (wa >>= fun a => cond a (pure true) wb) := fun B O H σ E P PX Q hw hq hx =>
  ha B O H σ E _ PX _ hw (fun a H' p e => by
    cases a with
    | false => exact iteF (hb B O H' σ (E.ex e) P PX Q p (fun b H2 p2 e2 => hq b H2 p2 (e.trans e2)) fun x cls d H2 px e2 k => hx x cls d H2 px (e.trans e2) k)
    | true => exact iteT (hq true _ p e)) hx
/-- a < b < c -/
theorem re_chain {r r' : R2} {ta tb tc : TE} {res1 : Res α} {res2 : Res β} {res3 : Res γ} [Lasts res1] [Lasts res2] [Lasts res3] {m : α → β → M Bool} {m' : β → γ → M Bool} {wa : M α} {wb : M β} {wc : M γ} (h1 : ROp K r res1 res2 (resE K D.bl) m) (h2 : ROp K r' res2 res3 (resE K D.bl) m')
    (ha : RG K EX ρ ta res1 wa) (hb : RG K EX ρ tb res2 wb) (hc : RG K EX ρ tc res3 wc) : RE K EX ρ (tChain r r' ta tb tc) D.bl (wa >>= fun a => wb >>= fun b => m a b >>= fun k => cond k (wc >>= fun c => m' b c) (pure false)) := fun B O H σ E P PX Q hw hq hx => by
  refine ha B O H σ E _ PX _ hw (fun a x H1 p1 e1 r1 => ?_) hx
  have E1 := E.ex e1
  refine hb B O H1 σ E1 _ PX _ p1 (fun b y H2 p2 e2 r2 => ?_) fun x cls d H' px e k => hx x cls d H' px (e1.trans e) k
  have E2 := E1.ex e2
  refine h1 O H H2 x y a b _ PX _ E2.dom (Lasts.ex r1 e2) (Lasts.base r2 e1) p2 fun k v H3 p3 e3 r3 => ?_
  cases r3
  refine ⟨k, rfl, ?_⟩
  have e13 := (e1.trans e2).trans e3
  cases k with
  | false => exact iteF (hq _ _ _ p3 e13 (.bl _))
  | true =>
    refine iteT (hc B O H3 σ (E2.ex e3) _ PX _ p3 (fun c z H4 p4 e4 r4 => ?_) fun x cls d H' px e k => hx x cls d H' px (e13.trans e) k)
    exact h2 O H H4 y z b c P PX Q ((E2.ex e3).ex e4).dom (Lasts.base (Lasts.ex (Lasts.ex r2 e3) e4) e1) (Lasts.base r4 e13) p4 fun c v H' p e k => hq c v H' p (e13.trans (e4.trans e)) (Lasts.base k (e13.trans e4))
end
end Va

namespace Va
open PySem PySem.Spec PyProof.Rows L2 Bg
section
variable {K : PySem.W.Frag} {EX : L2.St → XK} {ρ : List Sl} {α β γ : Type}
/-! ### arguments -/
theorem ra_nil : RA K EX ρ tNil (fun _ : Unit => []) (pure ()) := fun B O H σ E P PX Q hw hq hx => hq () [] H hw (.refl _ _) .nil
theorem ra_cons {te : TE} {t : TA} {en : α → D} {ar : β → List Sl} {wa : M α} {wb : M β} (ha : RE K EX ρ te en wa) (hb : RA K EX ρ t ar wb) : RA K EX ρ (tCons te t) (fun p : α × β => .sh (en p.1) :: ar p.2) (wa >>= fun a => wb >>= fun b => pure (a, b)) := fun B O H σ E P PX Q hw hq hx =>
  ha B O H σ E _ PX _ hw (fun a v H1 p1 e1 r1 => hb B O H1 σ (E.ex e1) _ PX _ p1 (fun b vs H2 p2 e2 r2 => hq (a, b) (v :: vs) H2 p2 (e1.trans e2) (.sh (Rep.ex r1 e2) r2)) fun x cls d H' px e k => hx x cls d H' px (e1.trans e) k) hx
theorem ra_src {t : TA} {ar : β → List Sl} {wb : M β} (i : Nat) (hb : RA K EX ρ t ar wb) (h : ρ[i]? = some .src := by rfl) : RA K EX ρ (tCons (tVar i) t) (fun p : Unit × β => .src :: ar p.2) (wb >>= fun b => pure ((), b)) := fun B O H σ E P PX Q hw hq hx => by
  obtain ⟨a, hv, o, s⟩ := E.at_ i _ h
  exact ⟨.ref a, hv, hb B O H σ E _ PX _ hw (fun b vs H2 p2 e2 r2 => hq ((), b) _ H2 p2 e2 (.src o (e2.src _ s) r2)) hx⟩
theorem ra_scr {t : TA} {ar : β → List Sl} {wb : M β} {ns : List Int} (i : Nat) (hb : RA K EX ρ t ar wb) (h : ρ[i]? = some (.scr ns) := by rfl) : RA K EX ρ (tCons (tVar i) t) (fun p : List Int × β => .scr p.1 :: ar p.2) (wb >>= fun b => pure (ns, b)) := fun B O H σ E P PX Q hw hq hx => by
  obtain ⟨a, hv, ha⟩ := E.at_ i _ h
  exact ⟨.ref a, hv, hb B O H σ E _ PX _ hw (fun b vs H2 p2 e2 r2 => hq (ns, b) _ H2 p2 e2 (.scr (ha.ext e2 fun _ z => z.elim) r2)) hx⟩
/-! ### displays -/
/-- items of one kind -/
theorem rl_nil {en : α → D} : RA K EX ρ tNil (fun l : List α => l.map fun a => Sl.sh (en a)) (pure []) := fun B O H σ E P PX Q hw hq hx => hq [] [] H hw (.refl _ _) .nil
theorem rl_cons {te : TE} {t : TA} {en : α → D} {wa : M α} {wb : M (List α)} (ha : RE K EX ρ te en wa) (hb : RA K EX ρ t (fun l : List α => l.map fun a => Sl.sh (en a)) wb) : RA K EX ρ (tCons te t) (fun l : List α => l.map fun a => Sl.sh (en a)) (wa >>= fun a => wb >>= fun b => pure (a :: b)) := fun B O H σ E P PX Q hw hq hx =>
  ha B O H σ E _ PX _ hw (fun a v H1 p1 e1 r1 => hb B O H1 σ (E.ex e1) _ PX _ p1 (fun b vs H2 p2 e2 r2 => hq (a :: b) (v :: vs) H2 p2 (e1.trans e2) (.sh (Rep.ex r1 e2) r2)) fun x cls d H' px e k => hx x cls d H' px (e1.trans e) k) hx
theorem ArOk.rep {O : AP} {H : Hp} {vs : List V} : ∀ {ds : List D}, ArOk K O H vs (ds.map Sl.sh) → RepL K O H vs ds
  | [], h => by cases h; exact .nil
  | d :: ds, h => by
    cases h with
    | sh r t => exact .cons r (ArOk.rep t)
theorem ArOk.repm {O : AP} {H : Hp} {vs : List V} {en : α → D} {l : List α} (h : ArOk K O H vs (l.map fun a => Sl.sh (en a))) : RepL K O H vs (l.map en) := ArOk.rep (ds := l.map en) (by rw [List.map_map]; exact h)
/-- a new list -/
theorem FrV.new {O : AP} {H : Hp} {p : Addr} {vs : List V} {ds : List D} (n : H p = none) (r : RepL K O H vs ds) : FrV K O H (upd H p (.lst vs)) (.ref p) ds := ⟨p, vs, rfl, n, upd_same, (r.fresh n).ex (.new n)⟩
theorem rf_lst {t : TA} {en : α → D} {w : M (List α)} (h : RA K EX ρ t (fun l : List α => l.map fun a => Sl.sh (en a)) w) : RF K EX ρ (tLst t) en (w >>= fun l => need (l.length ≤ sizeLine) >>= fun _ => pure l) := fun B O H σ E P PX Q hw hq hx =>
  h B O H σ E _ PX _ hw (fun l vs H1 p e r => by
    have r := r.repm
    refine ⟨by rw [r.length, List.length_map]; exact p.1, fun a n => hq l (.ref a) _ p.2 (e.trans (.new n)) ?_⟩
    exact Lasts.base (res := resF K en) (FrV.new n r) e) hx
theorem re_tup {t : TA} {en : α → D} {ar : α → List Sl} {w : M α} (ds : α → List D) (h1 : ∀ a, ar a = (ds a).map Sl.sh) (h2 : ∀ a, en a = .tup (ds a)) (h3 : ∀ a, (ds a).length ≤ sizeLine) (h : RA K EX ρ t ar w) : RE K EX ρ (tTup t) en w := fun B O H σ E P PX Q hw hq hx =>
  h B O H σ E _ PX _ hw (fun l vs H1 p e r => by
    rw [h1 l] at r
    have r := r.rep
    refine ⟨by rw [r.length]; exact h3 l, fun a n => hq l (.ref a) _ p (e.trans (.new n)) ?_⟩
    show Rep K O _ _ (en l)
    rw [h2 l]
    exact .tup (fun z => (E.ex e).dom a z n) upd_same (r.ex (.new n))) hx
/-! ### lists by operators -/
theorem SqV.cut {O : AP} {H : Hp} {vs : List V} {en : α → D} {l : List α} (r : RepL K O H vs (l.map en)) (lo hi : Option Int) : RepL K O H (cutV vs lo hi) (((l.drop (HT.sIx l.length 0 lo)).take (HT.sIx l.length l.length hi - HT.sIx l.length 0 lo)).map en) := by
  have hl : vs.length = l.length := by rw [r.length, List.length_map]
  unfold cutV
  rw [hl, List.map_take, List.map_drop]
  exact (r.drop _).take _
def cutL {α : Type} (l : List α) (lo hi : Option Int) : List α := (l.drop (HT.sIx l.length 0 lo)).take (HT.sIx l.length l.length hi - HT.sIx l.length 0 lo)
/-- a part of a slice -/
def RO (K : PySem.W.Frag) (EX : L2.St → XK) (ρ : List Sl) (t : TO) (w : M (Option Int)) : Prop :=
  ∀ (B : Bs) (O : AP) (H : Hp) (σ : L2.St), En K B O H σ ρ → ∀ (P : Option Int → Prop) (PX : Exn → Prop) (Q : Option Int → Hp → Prop), w P PX →
    (∀ a H', P a → Ext No H H' → Q a H') → (∀ x cls d H', PX x → Ext No H H' → XOk K O H' cls d x → EX σ cls d H') → t σ H Q
theorem ro_none : RO K EX ρ tNoPart (pure none) := fun B O H σ E P PX Q hw hq hx => hq none H hw (.refl _ _)
theorem ro_some {t : TE} {w : M Int} (h : RE K EX ρ t D.int w) : RO K EX ρ (tPart t) (w >>= fun i => pure (some i)) := fun B O H σ E P PX Q hw hq hx =>
  h B O H σ E _ PX _ hw (fun a v H' p e r => by cases r; exact ⟨a, rfl, hq _ _ p e⟩) hx
theorem rg_sl {r : V → Option Int → Option Int → Hp → VK → Prop} {te : TE} {tl th : TO} {res1 : Res α} {res : Res β} [Lasts res1] [Lasts res] {wa : M α} {wl wh : M (Option Int)} {m : α → Option Int → Option Int → M β} (ha : RG K EX ρ te res1 wa) (hl : RO K EX ρ tl wl) (hh : RO K EX ρ th wh)
    (hr : ∀ (O : AP) (H0 H : Hp) (x : V) (a : α) (lo hi : Option Int) (P : β → Prop) (PX : Exn → Prop) (Q : VK), (∀ b, O b → H b ≠ none) → res1 O H0 H x a → m a lo hi P PX → (∀ c v H', P c → Ext No H H' → res O H H' v c → Q v H') → r x lo hi H Q) :
    RG K EX ρ (tSl r te tl th) res (wa >>= fun a => wl >>= fun lo => wh >>= fun hi => m a lo hi) := fun B O H σ E P PX Q hw hq hx => by
  refine ha B O H σ E _ PX _ hw (fun a x H1 p1 e1 r1 => ?_) hx
  have E1 := E.ex e1
  refine hl B O H1 σ E1 _ PX _ p1 (fun lo H2 p2 e2 => ?_) fun x cls d H' px e k => hx x cls d H' px (e1.trans e) k
  have E2 := E1.ex e2
  have e12 := e1.trans e2
  refine hh B O H2 σ E2 _ PX _ p2 (fun hi H3 p3 e3 => ?_) fun x cls d H' px e k => hx x cls d H' px (e12.trans e) k
  exact hr O H H3 x a lo hi P PX Q (E2.ex e3).dom (Lasts.ex (Lasts.ex r1 e2) e3) p3 fun c v H' p e k => hq c v H' p ((e12.trans e3).trans e) (Lasts.base k (e12.trans e3))
theorem rf_sl {te : TE} {tl th : TO} {en : α → D} {wa : M (List α)} {wl wh : M (Option Int)} (ha : RQ K EX ρ te en wa) (hl : RO K EX ρ tl wl) (hh : RO K EX ρ th wh) : RF K EX ρ (tSl (rSlL K) te tl th) en (wa >>= fun a => wl >>= fun lo => wh >>= fun hi => pure (cutL a lo hi)) :=
  rg_sl ha hl hh fun O H0 H x a lo hi P PX Q _ r1 p q => by
    obtain ⟨l, vs, rfl, hl, r⟩ := r1
    exact ⟨l, vs, rfl, hl, fun b n => q _ _ _ p (.new n) (FrV.new n (SqV.cut r lo hi))⟩
theorem re_slS {te : TE} {tl th : TO} {wa : M Str} {wl wh : M (Option Int)} (ha : RE K EX ρ te D.str wa) (hl : RO K EX ρ tl wl) (hh : RO K EX ρ th wh) : RE K EX ρ (tSl rSlS te tl th) D.str (wa >>= fun a => wl >>= fun lo => wh >>= fun hi => (need (a.length ≤ sizeLine) >>= fun _ => pure (cutS a lo hi))) :=
  rg_sl ha hl hh fun O H0 H x a lo hi P PX Q _ r1 p q => by
    cases r1
    exact ⟨a, rfl, p.1, q _ _ _ p.2 (.refl _ _) (.str _)⟩
/-- list + list -/
theorem re_cat {ta tb : TE} {en : α → D} {wa wb : M (List α)} (ha : RE K EX ρ ta (eL en) wa) (hb : RE K EX ρ tb (eL en) wb) : RF K EX ρ (tOp rCat ta tb) en (wa >>= fun a => wb >>= fun b => (need (a.length + b.length ≤ sizeLine) >>= fun _ => pure (a ++ b))) :=
  rg_op (fun O H0 H x y a b P PX Q _ r1 r2 p q => by
    cases r1 with
    | lst _ h1 r1 =>
      cases r2 with
      | lst _ h2 r2 =>
        have e1 := r1.length
        have e2 := r2.length
        rw [List.length_map] at e1 e2
        refine ⟨_, _, _, _, rfl, rfl, h1, h2, by rw [e1, e2]; exact p.1, fun c n => q _ _ _ p.2 (.new n) (FrV.new n ?_)⟩
        rw [List.map_append]
        exact r1.app r2) ha hb
/-- a list of one's own, as it is: for + -/
theorem re_own {en : α → D} {l : List α} (i : Nat) (h : ρ[i]? = some (.ow (.lst (l.map en))) := by rfl) : RG K EX ρ (tVar i) (fun O _ H' v (l : List α) => ∃ p vs, v = .ref p ∧ H' p = some (.lst vs) ∧ RepL K O H' vs (l.map en)) (pure l) := fun B O H σ E P PX Q hw hq _ => by
  obtain ⟨p, vs, hv, o, _, _, hp, r⟩ := E.at_ i _ h
  exact ⟨.ref p, hv, hq l _ H hw (.refl _ _) ⟨p, vs, rfl, hp, r⟩⟩
/-- a list that can be added -/
def resL (K : PySem.W.Frag) {α : Type} (en : α → D) : Res (List α) := fun O _ H' v l => ∃ p vs, v = .ref p ∧ H' p = some (.lst vs) ∧ RepL K O H' vs (l.map en)
instance {en : α → D} : Lasts (resL K en) := ⟨fun ⟨p, vs, e1, h, r⟩ e => ⟨p, vs, e1, e.keep _ _ (fun z => z) ns_lst h, r.ex e⟩, fun r _ => r⟩
theorem RG.el {t : TE} {en : α → D} {w : M (List α)} (h : RE K EX ρ t (eL en) w) : RG K EX ρ t (resL K en) w := h.imp fun _ _ _ _ _ _ _ r => by
  cases r with
  | lst _ h r => exact ⟨_, _, rfl, h, r⟩
theorem RG.fl {t : TE} {en : α → D} {w : M (List α)} (h : RF K EX ρ t en w) : RG K EX ρ t (resL K en) w := h.imp fun _ _ _ _ _ _ _ ⟨p, vs, e, _, h, r⟩ => ⟨p, vs, e, h, r.mono fun b z => .inl z⟩
theorem RG.ol {en : α → D} {l : List α} (i : Nat) (h : ρ[i]? = some (.ow (.lst (l.map en))) := by rfl) : RG K EX ρ (tVar i) (resL K en) (pure l) := re_own i h
theorem rf_cat {ta tb : TE} {en : α → D} {wa wb : M (List α)} (ha : RG K EX ρ ta (resL K en) wa) (hb : RG K EX ρ tb (resL K en) wb) : RF K EX ρ (tOp rCat ta tb) en (wa >>= fun a => wb >>= fun b => (need (a.length + b.length ≤ sizeLine) >>= fun _ => pure (a ++ b))) :=
  rg_op (fun O H0 H x y a b P PX Q _ r1 r2 p q => by
    obtain ⟨l1, v1, rfl, h1, r1⟩ := r1
    obtain ⟨l2, v2, rfl, h2, r2⟩ := r2
    have e1 := r1.length
    have e2 := r2.length
    rw [List.length_map] at e1 e2
    refine ⟨_, _, _, _, rfl, rfl, h1, h2, by rw [e1, e2]; exact p.1, fun c n => q _ _ _ p.2 (.new n) (FrV.new n ?_)⟩
    rw [List.map_append]
    exact r1.app r2) ha hb
/-- list * n -/
def repL {α : Type} (l : List α) (k : Int) : M (List α) := fun P _ => -(2 ^ 63) ≤ k ∧ k < 2 ^ 63 ∧ l.length * k.toNat ≤ sizeLine ∧ P (List.replicate k.toNat l).flatten
theorem rf_rep {ta tb : TE} {en : α → D} {wa : M (List α)} {wb : M Int} (ha : RG K EX ρ ta (resL K en) wa) (hb : RE K EX ρ tb D.int wb) : RF K EX ρ (tOp rRep ta tb) en (wa >>= fun a => wb >>= fun b => repL a b) :=
  rg_op (fun O H0 H x y a b P PX Q _ r1 r2 p q => by
    obtain ⟨l1, v1, rfl, h1, r1⟩ := r1
    cases r2
    have e1 := r1.length
    rw [List.length_map] at e1
    obtain ⟨p1, p2, p3, p⟩ := p
    refine ⟨_, _, _, rfl, rfl, h1, p1, p2, by rw [e1]; exact p3, fun c n => q _ _ _ p (.new n) (FrV.new n ?_)⟩
    generalize b.toNat = k
    induction k with
    | zero => exact .nil
    | succ k ih => rw [List.replicate_succ, List.flatten_cons, List.replicate_succ, List.flatten_cons, List.map_append]; exact r1.app ih) ha hb
/-- tuple + tuple, both by their shapes, neither empty -/
theorem re_catT {ta tb : TE} {en1 : α → D} {en2 : β → D} {en : γ → D} {wa : M α} {wb : M β} (f : α → β → γ) (d1 : α → List D) (d2 : β → List D) (h1 : ∀ a, en1 a = .tup (d1 a)) (h2 : ∀ a, en2 a = .tup (d2 a)) (h3 : ∀ a b, en (f a b) = .tup (d1 a ++ d2 b)) (n1 : ∀ a, d1 a ≠ []) (n2 : ∀ a, d2 a ≠ []) (hz : ∀ a b, (d1 a).length + (d2 b).length ≤ sizeLine)
    (ha : RE K EX ρ ta en1 wa) (hb : RE K EX ρ tb en2 wb) : RE K EX ρ (tOp (rCatT K) ta tb) en (wa >>= fun a => wb >>= fun b => pure (f a b)) :=
  rg_op (fun O H0 H x y a b P PX Q dm r1 r2 p q => by
    have r1 : Rep K O H x (.tup (d1 a)) := h1 a ▸ r1
    have r2 : Rep K O H y (.tup (d2 b)) := h2 b ▸ r2
    cases r1 with
    | tup _ g1 r1 =>
      cases r2 with
      | tup _ g2 r2 =>
        have e1 := r1.length
        have e2 := r2.length
        refine ⟨_, _, _, _, rfl, rfl, .inl (.inl g1), .inl (.inl g2), ?_, by rw [e1, e2]; exact hz a b, fun z => ?_, fun _ c n => q _ _ _ p (.new n) ?_⟩
        · intro z
          rw [z] at e1
          exact n1 a (List.eq_nil_of_length_eq_zero e1.symm)
        · rw [z] at e2
          exact absurd (List.eq_nil_of_length_eq_zero e2.symm) (n2 b)
        · show Rep K O _ _ (en (f a b))
          rw [h3]
          exact .tup (fun z => dm c z n) upd_same ((r1.app r2).ex (.new n))) ha hb
/-! ### in -/
def inM {α : Type} (neg : Bool) (en : α → D) (a : α) (l : List α) : M Bool := fun P _ => flatD (en a) = true ∧ (∀ x ∈ l, flatD (en x) = true) ∧ P (if neg then !inV (flV (en a)) (l.map fun x => flV (en x)) else inV (flV (en a)) (l.map fun x => flV (en x)))
theorem re_inS {neg : Bool} {ta tb : TE} {en : α → D} {wb : M (List α)} {wx : M α} (ha : RE K EX ρ ta en wx) (hb : RQ K EX ρ tb en wb) : RE K EX ρ (tOp (rIn K neg) ta tb) D.bl (wx >>= fun a => wb >>= fun l => inM neg en a l) :=
  rg_op (fun O H0 H x y a b P PX Q _ r1 r2 p q => by
    obtain ⟨l, vs, rfl, hl, r⟩ := r2
    obtain ⟨f1, f2, p⟩ := p
    have e : vs = b.map fun x => flV (en x) := by
      clear p hl q
      induction b generalizing vs with
      | nil => cases r; rfl
      | cons x b ih =>
        cases r with
        | cons r t => rw [List.map_cons, ← ih _ t (fun y hy => f2 y (List.mem_cons_of_mem _ hy)), Rep.flat r (f2 x (List.mem_cons_self ..))]
    have fl : ∀ d, flatD d = true → flatV (flV d) = true := fun d h => by cases d <;> first | rfl | cases h
    rw [Rep.flat r1 f1]
    refine ⟨l, vs, rfl, .inl hl, fl _ f1, ?_, ?_⟩
    · rw [e, List.all_map, List.all_eq_true]
      exact fun x hx => fl _ (f2 x hx)
    · rw [e]
      exact q _ _ _ p (.refl _ _) (.bl _)) ha hb
theorem re_inC {ta tb : TE} {wa wb : M Str} (ha : RE K EX ρ ta D.str wa) (hb : RE K EX ρ tb D.str wb) : RE K EX ρ (tOp (fun x y H Q => ∃ (c : Nat) (z : Str), x = .str ⟨#[c]⟩ ∧ y = .str z ∧ Q (.bl (decide (c ∈ z.cps.toList))) H) ta tb) D.bl (wa >>= fun a => wb >>= fun b => (fun P _ => ∃ c : Nat, a = ⟨#[c]⟩ ∧ P (decide (c ∈ b.cps.toList)))) :=
  rg_op (fun O H0 H x y a b P PX Q _ r1 r2 p q => by
    cases r1; cases r2
    obtain ⟨c, rfl, p⟩ := p
    exact ⟨c, b, rfl, rfl, q _ _ _ p (.refl _ _) (.bl _)⟩) ha hb
/-! ### built-ins -/
theorem re_cb {r : List V → Hp → VK → Prop} {t : TA} {ar : α → List Sl} {w : M α} {res : Res β} [Lasts res] {m : α → M β} (h : RA K EX ρ t ar w)
    (hr : ∀ (O : AP) (H : Hp) (vs : List V) (a : α) (P : β → Prop) (PX : Exn → Prop) (Q : VK), (∀ b, O b → H b ≠ none) → ArOk K O H vs (ar a) → m a P PX → (∀ c v H', P c → Ext No H H' → res O H H' v c → Q v H') → r vs H Q) : RG K EX ρ (tCB r t) res (w >>= m) := fun B O H σ E P PX Q hw hq hx =>
  h B O H σ E _ PX _ hw (fun a vs H1 p e r1 => hr O H1 vs a P PX Q (E.ex e).dom r1 p fun c v H' p' e' k => hq c v H' p' (e.trans e') (Lasts.base k e)) hx
/-- one argument that is a list seen -/
theorem rg_cb1 {r : List V → Hp → VK → Prop} {te : TE} {w : M α} {res1 : Res α} {res : Res β} [Lasts res] {m : α → M β} (h : RG K EX ρ te res1 w)
    (hr : ∀ (O : AP) (H0 H : Hp) (v : V) (a : α) (P : β → Prop) (PX : Exn → Prop) (Q : VK), (∀ b, O b → H b ≠ none) → res1 O H0 H v a → m a P PX → (∀ c v H', P c → Ext No H H' → res O H H' v c → Q v H') → r [v] H Q) : RG K EX ρ (tCB r (tCons te tNil)) res (w >>= m) := fun B O H σ E P PX Q hw hq hx =>
  h B O H σ E _ PX _ hw (fun a v H1 p e r1 => hr O H H1 v a P PX Q (E.ex e).dom r1 p fun c v H' p' e' k => hq c v H' p' (e.trans e') (Lasts.base k e)) hx
abbrev rLen (K : PySem.W.Frag) : List V → Hp → VK → Prop := fun xs H Q => ∃ x n, xs = [x] ∧ LenV K x H n ∧ Q (.int n) H
theorem re_len {te : TE} {en : α → D} {w : M (List α)} (h : RQ K EX ρ te en w) : RE K EX ρ (tCB (rLen K) (tCons te tNil)) D.int (w >>= fun l => pure (l.length : Int)) :=
  rg_cb1 h fun O H0 H v a P PX Q _ r p q => by
    obtain ⟨l, vs, rfl, hl, r⟩ := r
    have e := r.length
    rw [List.length_map] at e
    exact ⟨_, vs.length, rfl, .inl ⟨vs, hl, rfl⟩, q _ _ _ p (.refl _ _) (by rw [e]; exact .int _)⟩
theorem re_lenT {te : TE} {en : α → D} {w : M (List α)} (h : RE K EX ρ te (eTL en) w) : RE K EX ρ (tCB (rLen K) (tCons te tNil)) D.int (w >>= fun l => pure (l.length : Int)) :=
  rg_cb1 h fun O H0 H v a P PX Q _ r p q => by
    cases r with
    | tup _ hl r =>
      have e := r.length
      rw [List.length_map] at e
      exact ⟨_, _, rfl, .inr ⟨_, .inl (.inl hl), rfl⟩, q _ _ _ p (.refl _ _) (by rw [e]; exact .int _)⟩
theorem re_lenS {te : TE} {w : M Str} (h : RE K EX ρ te D.str w) : RE K EX ρ (tCB (rLen K) (tCons te tNil)) D.int (w >>= fun z => (need (z.length ≤ sizeLine) >>= fun _ => pure (z.length : Int))) :=
  rg_cb1 h fun O H0 H v a P PX Q _ r p q => by
    cases r
    exact ⟨_, _, rfl, ⟨p.1, rfl⟩, q _ _ _ p.2 (.refl _ _) (.int _)⟩
theorem rf_list {te : TE} {en : α → D} {w : M (List α)} (h : RQ K EX ρ te en w) : RF K EX ρ (tCB (fun xs H Q => ∃ p ys, xs = [.ref p] ∧ (SqL K H p ys ∨ SqT K H p ys) ∧ ∀ l, H l = none → Q (.ref l) (upd H l (.lst ys))) (tCons te tNil)) en w :=
  (rg_cb1 (m := fun l => pure l) h fun O H0 H v a P PX Q _ r p q => by
    obtain ⟨l, vs, rfl, hl, r⟩ := r
    exact ⟨_, vs, rfl, .inl hl, fun c n => q _ _ _ p (.new n) (FrV.new n r)⟩)
theorem rf_listT {te : TE} {en : α → D} {w : M (List α)} (h : RE K EX ρ te (eTL en) w) : RF K EX ρ (tCB (fun xs H Q => ∃ p ys, xs = [.ref p] ∧ (SqL K H p ys ∨ SqT K H p ys) ∧ ∀ l, H l = none → Q (.ref l) (upd H l (.lst ys))) (tCons te tNil)) en w :=
  (rg_cb1 (m := fun l => pure l) h fun O H0 H v a P PX Q _ r p q => by
    cases r with
    | tup _ hl r => exact ⟨_, _, rfl, .inr (.inl (.inl hl)), fun c n => q _ _ _ p (.new n) (FrV.new n r)⟩)
theorem re_tuple {te : TE} {en : α → D} {w : M (List α)} (h : RQ K EX ρ te en w) : RE K EX ρ (tCB (fun xs H Q => ∃ p ys, xs = [.ref p] ∧ ((SqL K H p ys ∧ ∀ l, H l = none → Q (.ref l) (upd H l (.tup ys))) ∨ (SqT K H p ys ∧ Q (.ref p) H))) (tCons te tNil)) (eTL en) w :=
  (rg_cb1 (m := fun l => pure l) h fun O H0 H v a P PX Q dm r p q => by
    obtain ⟨l, vs, rfl, hl, r⟩ := r
    exact ⟨_, vs, rfl, .inl ⟨hl, fun c n => q _ _ _ p (.new n) (.tup (fun z => dm c z n) upd_same (r.ex (.new n)))⟩⟩)
theorem re_max {t : TA} {w : M (Int × Int × Unit)} (h : RA K EX ρ t (fun p : Int × Int × Unit => [.sh (.int p.1), .sh (.int p.2.1)]) w) : RE K EX ρ (tCB (fun xs H Q => ∃ i j, xs = [.int i, .int j] ∧ Q (.int (if j > i then j else i)) H) t) D.int (w >>= fun p => pure (max p.1 p.2.1)) :=
  re_cb h fun O H vs a P PX Q _ r p q => by
    cases r with
    | sh r1 r =>
      cases r with
      | sh r2 r =>
        cases r; cases r1; cases r2
        have e : (if a.2.1 > a.1 then a.2.1 else a.1) = max a.1 a.2.1 := by
          by_cases c : a.2.1 > a.1
          · rw [if_pos c]; omega
          · rw [if_neg c]; omega
        exact ⟨_, _, rfl, by rw [e]; exact q _ _ _ p (.refl _ _) (.int _)⟩
theorem re_min {t : TA} {w : M (Int × Int × Unit)} (h : RA K EX ρ t (fun p : Int × Int × Unit => [.sh (.int p.1), .sh (.int p.2.1)]) w) : RE K EX ρ (tCB (fun xs H Q => ∃ i j, xs = [.int i, .int j] ∧ Q (.int (if j < i then j else i)) H) t) D.int (w >>= fun p => pure (min p.1 p.2.1)) :=
  re_cb h fun O H vs a P PX Q _ r p q => by
    cases r with
    | sh r1 r =>
      cases r with
      | sh r2 r =>
        cases r; cases r1; cases r2
        have e : (if a.2.1 < a.1 then a.2.1 else a.1) = min a.1 a.2.1 := by
          by_cases c : a.2.1 < a.1
          · rw [if_pos c]; omega
          · rw [if_neg c]; omega
        exact ⟨_, _, rfl, by rw [e]; exact q _ _ _ p (.refl _ _) (.int _)⟩
def b2 (b : Bool) : Int := if b then 1 else 0
theorem re_intB {te : TE} {w : M Bool} (h : RE K EX ρ te D.bl w) : RE K EX ρ (tCB (fun xs H Q => (∃ i, xs = [.int i] ∧ Q (.int i) H) ∨ ∃ k, xs = [.bl k] ∧ Q (.int (if k then 1 else 0)) H) (tCons te tNil)) D.int (w >>= fun b => pure (b2 b)) :=
  rg_cb1 h fun O H0 H v a P PX Q _ r p q => by
    cases r
    exact .inr ⟨a, rfl, q _ _ _ p (.refl _ _) (.int _)⟩
theorem re_all {te : TE} {w : M (List Bool)} (h : RQ K EX ρ te D.bl w) : RE K EX ρ (tCB (rAll K) (tCons te tNil)) D.bl (w >>= fun l => pure (l.all id)) :=
  rg_cb1 h fun O H0 H v a P PX Q _ r p q => by
    obtain ⟨l, vs, rfl, hl, r⟩ := r
    have e : vs = a.map V.bl := by
      clear p hl q
      induction a generalizing vs with
      | nil => cases r; rfl
      | cons x b ih =>
        cases r with
        | cons r t => rw [List.map_cons, ← ih _ t]; cases r; rfl
    exact ⟨l, a, rfl, by rw [← e]; exact hl, q _ _ _ p (.refl _ _) (.bl _)⟩
theorem re_any {te : TE} {w : M (List Bool)} (h : RQ K EX ρ te D.bl w) : RE K EX ρ (tCB (rAny K) (tCons te tNil)) D.bl (w >>= fun l => pure (l.any id)) :=
  rg_cb1 h fun O H0 H v a P PX Q _ r p q => by
    obtain ⟨l, vs, rfl, hl, r⟩ := r
    have e : vs = a.map V.bl := by
      clear p hl q
      induction a generalizing vs with
      | nil => cases r; rfl
      | cons x b ih =>
        cases r with
        | cons r t => rw [List.map_cons, ← ih _ t]; cases r; rfl
    exact ⟨l, a, rfl, by rw [← e]; exact hl, q _ _ _ p (.refl _ _) (.bl _)⟩
end
end Va

namespace Va
open PySem PySem.Spec PyProof.Rows L2 Bg
/-! ### what is walked -/
def Aof (lp : Bool) (O : AP) : AP := fun b => lp = true ∧ O b
def ItOk (K : PySem.W.Frag) (lp : Bool) (O : AP) (H1 : Hp) (J : It) {α : Type} (en : α → D) (l : List α) : Prop :=
  ∀ H, Ext (Aof lp O) H1 H → (∀ (i : Nat) (x : α), l[i]? = some x → J.go i H ∧ ∀ v H', J.yld i H v H' → Ext No H H' ∧ ∀ O2 : AP, (∀ b, O2 b → O b ∨ H1 b = none) → (∀ b, O2 b → H b ≠ none) → Rep K O2 H' v (en x)) ∧ J.stop l.length H
def RI (K : PySem.W.Frag) (EX : L2.St → XK) (ρ : List Sl) (wi : TI) (lp : Bool) {α : Type} (en : α → D) (w : M (List α)) : Prop :=
  ∀ (B : Bs) (O : AP) (H : Hp) (σ : L2.St), En K B O H σ ρ → ∀ (P : List α → Prop) (PX : Exn → Prop) (R : It → Hp → Prop), w P PX →
    (∀ l J H', P l → Ext No H H' → ItOk K lp O H' J en l → R J H') → (∀ x cls d H', PX x → Ext No H H' → XOk K O H' cls d x → EX σ cls d H') → wi σ H R
theorem rep_turn {K : PySem.W.Frag} {lp : Bool} {O O2 : AP} {H1 H : Hp} {v : V} {d : D} (r : Rep K O H1 v d) (e : Ext (Aof lp O) H1 H) (h : ∀ b, O2 b → O b ∨ H1 b = none) : Rep K O2 H v d :=
  (((r.wide (O' := fun b => O b ∨ O2 b) fun b z => z.elim .inl (h b)).ext e fun b z => .inl z.2).mono fun b z => .inr z)
section
variable {K : PySem.W.Frag} {EX : L2.St → XK} {ρ : List Sl} {α β γ : Type}
/-- a list that stays, seen -/
structure Stay (K : PySem.W.Frag) (lp : Bool) (O : AP) (H1 : Hp) (a : Addr) (vs : List V) : Prop where
  at_ : ∀ H, Ext (Aof lp O) H1 H → SqL K H a vs
def resS (K : PySem.W.Frag) (lp : Bool) {α : Type} (en : α → D) : Res (List α) := fun O _ H' v l => ∃ a vs, v = .ref a ∧ Stay K lp O H' a vs ∧ RepL K O H' vs (l.map en)
theorem RG.es {t : TE} {lp : Bool} {en : α → D} {w : M (List α)} (h : RE K EX ρ t (eL en) w) : RG K EX ρ t (resS K lp en) w := h.imp fun O _ H' _ _ _ _ r => by
  cases r with
  | lst n h r => exact ⟨_, _, rfl, ⟨fun H e => .inl (.inl (e.keep _ _ (fun z => n z.2) ns_lst h))⟩, r⟩
theorem RG.fs {t : TE} {lp : Bool} {en : α → D} {w : M (List α)} (h : RF K EX ρ t en w) : RG K EX ρ t (resS K lp en) w := h.fe.es
theorem RG.qs {t : TE} {en : α → D} {w : M (List α)} (h : RQ K EX ρ t en w) : RG K EX ρ t (resS K false en) w := h.imp fun O _ H' _ _ _ _ ⟨a, vs, e, h, r⟩ => ⟨a, vs, e, ⟨fun H e => SqL.ext h (e.wk fun b z => (nomatch z.1))⟩, r⟩
theorem get_map {en : α → D} {l : List α} {i : Nat} {x : α} (h : l[i]? = some x) : (l.map en)[i]? = some (en x) := by rw [List.getElem?_map, h]; rfl
theorem ri_list {te : TE} {lp : Bool} {en : α → D} {w : M (List α)} (h : RG K EX ρ te (resS K lp en) w) : RI K EX ρ (iList K te) lp en w := fun B O H σ E P PX R hw hq hx =>
  h B O H σ E P PX _ hw (fun l v H1 p e r => by
    obtain ⟨a, vs, rfl, st, r⟩ := r
    refine ⟨a, rfl, ⟨vs, st.at_ _ (.refl _ _)⟩, hq l _ H1 p e fun H2 e2 => ⟨fun i x hx => ?_, ?_⟩⟩
    · obtain ⟨v, hv, rv⟩ := r.get (get_map hx)
      refine ⟨⟨vs, v, st.at_ _ e2, hv⟩, fun v' H' y => ?_⟩
      obtain ⟨rfl, y⟩ := y
      have := y vs (st.at_ _ e2)
      rw [hv] at this
      cases this
      exact ⟨.refl _ _, fun O2 h1 _ => rep_turn rv e2 h1⟩
    · exact ⟨vs, st.at_ _ e2, by rw [r.length, List.length_map]; exact Nat.le_refl _⟩) hx
theorem ri_tup {te : TE} {lp : Bool} {en : α → D} {w : M (List α)} (h : RE K EX ρ te (eTL en) w) : RI K EX ρ (iTup K te) lp en w := fun B O H σ E P PX R hw hq hx =>
  h B O H σ E P PX _ hw (fun l v H1 p e r => by
    cases r with
    | @tup a vs _ n hh r =>
      have st : ∀ H, Ext (Aof lp O) H1 H → SqT K H a vs := fun H e => .inl (.inl (e.keep _ _ (fun z => n z.2) ns_tup hh))
      refine ⟨a, rfl, ⟨vs, st _ (.refl _ _)⟩, hq l _ H1 p e fun H2 e2 => ⟨fun i x hx => ?_, ?_⟩⟩
      · obtain ⟨v, hv, rv⟩ := r.get (get_map hx)
        refine ⟨⟨vs, v, st _ e2, hv⟩, fun v' H' y => ?_⟩
        obtain ⟨rfl, y⟩ := y
        have := y vs (st _ e2)
        rw [hv] at this
        cases this
        exact ⟨.refl _ _, fun O2 h1 _ => rep_turn rv e2 h1⟩
      · exact ⟨vs, st _ e2, by rw [r.length, List.length_map]; exact Nat.le_refl _⟩) hx
/-- lo, lo + 1, .. -/
def rng (lo : Int) (n : Nat) : List Int := (List.range n).map fun (i : Nat) => lo + (i : Int)
theorem rng_len (lo : Int) (n : Nat) : (rng lo n).length = n := by simp [rng]
theorem rng_at {lo : Int} {n i : Nat} {x : Int} (h : (rng lo n)[i]? = some x) : i < n ∧ x = lo + (i : Int) := by
  unfold rng at h
  rw [List.getElem?_map] at h
  have hi : i < n := by
    by_cases c : i < n
    · exact c
    · rw [List.getElem?_eq_none (by simpa using c)] at h; cases h
  rw [List.getElem?_range hi] at h
  exact ⟨hi, (Option.some.inj h).symm⟩
theorem rng_get {lo : Int} {n i : Nat} (h : i < n) : (rng lo n)[i]? = some (lo + (i : Int)) := by
  unfold rng
  rw [List.getElem?_map, List.getElem?_range h]
  rfl
theorem itr_ok {lp : Bool} {O : AP} {H1 : Hp} (lo : Int) (n : Nat) : ItOk K lp O H1 (Itr lo n) D.int (rng lo n) := fun H e => by
  refine ⟨fun i x hx => ?_, by show n ≤ _; rw [rng_len]; exact Nat.le_refl _⟩
  obtain ⟨hi, rfl⟩ := rng_at hx
  refine ⟨hi, fun v H' y => ?_⟩
  obtain ⟨rfl, rfl⟩ := y
  exact ⟨.refl _ _, fun _ _ _ => .int _⟩
def rng1 (j : Int) : M (List Int) := fun P _ => -(2 ^ 62) ≤ j ∧ j < 2 ^ 62 ∧ P (rng 0 j.toNat)
def rng2 (i j : Int) : M (List Int) := fun P _ => (-(2 ^ 62) ≤ i ∧ i < 2 ^ 62 ∧ -(2 ^ 62) ≤ j ∧ j < 2 ^ 62) ∧ P (rng i (j - i).toNat)
theorem ri_rng1 {lp : Bool} {te : TE} {w : M Int} (h : RE K EX ρ te D.int w) : RI K EX ρ (iRng1 (tCons te tNil)) lp D.int (w >>= fun j => rng1 j) := fun B O H σ E P PX R hw hq hx =>
  h B O H σ E _ PX _ hw (fun j v H1 p e r => by
    cases r
    exact ⟨j, rfl, p.1, p.2.1, hq _ _ _ p.2.2 e (itr_ok _ _)⟩) hx
theorem ri_rng2 {lp : Bool} {te tf : TE} {w w' : M Int} (h : RE K EX ρ te D.int w) (h' : RE K EX ρ tf D.int w') : RI K EX ρ (iRng2 (tCons te (tCons tf tNil))) lp D.int (w >>= fun i => w' >>= fun j => rng2 i j) := fun B O H σ E P PX R hw hq hx =>
  h B O H σ E _ PX _ hw (fun i v H1 p e r => by
    cases r
    refine h' B O H1 σ (E.ex e) _ PX _ p (fun j v' H2 p2 e2 r2 => ?_) fun x cls d H' px e' k => hx x cls d H' px (e.trans e') k
    cases r2
    exact ⟨i, j, rfl, p2.1, hq _ _ _ p2.2 (e.trans e2) (itr_ok _ _)⟩) hx
/-- lo, lo + c, .. -/
def rngC (lo c : Int) (n : Nat) : List Int := (List.range n).map fun i => lo + ((i : Nat) : Int) * c
theorem rngC_len (lo c : Int) (n : Nat) : (rngC lo c n).length = n := by simp [rngC]
theorem rngC_at {lo c : Int} {n i : Nat} {x : Int} (h : (rngC lo c n)[i]? = some x) : i < n ∧ x = lo + ((i : Nat) : Int) * c := by
  unfold rngC at h
  rw [List.getElem?_map] at h
  have hi : i < n := by
    by_cases d : i < n
    · exact d
    · rw [List.getElem?_eq_none (by simpa using d)] at h; cases h
  rw [List.getElem?_range hi] at h
  exact ⟨hi, (Option.some.inj h).symm⟩
theorem itc_ok {lp : Bool} {O : AP} {H1 : Hp} (lo c : Int) (n : Nat) : ItOk K lp O H1 (Itc lo c n) D.int (rngC lo c n) := fun H e => by
  refine ⟨fun i x hx => ?_, by show n ≤ _; rw [rngC_len]; exact Nat.le_refl _⟩
  obtain ⟨hi, rfl⟩ := rngC_at hx
  refine ⟨hi, fun v H' y => ?_⟩
  obtain ⟨rfl, rfl⟩ := y
  exact ⟨.refl _ _, fun _ _ _ => .int _⟩
def rng3 (i j c : Int) : M (List Int) := fun P _ => ∃ n, RgC i j c n ∧ P (rngC i c n)
theorem ri_rng3 {lp : Bool} {te tf tg : TE} {w w' w2 : M Int} (h : RE K EX ρ te D.int w) (h' : RE K EX ρ tf D.int w') (h2 : RE K EX ρ tg D.int w2) : RI K EX ρ (iRng3 (tCons te (tCons tf (tCons tg tNil)))) lp D.int (w >>= fun i => w' >>= fun j => w2 >>= fun c => rng3 i j c) := fun B O H σ E P PX R hw hq hx =>
  h B O H σ E _ PX _ hw (fun i v H1 p e r => by
    cases r
    refine h' B O H1 σ (E.ex e) _ PX _ p (fun j v' H2 p2 e2 r2 => ?_) fun x cls d H' px e' k => hx x cls d H' px (e.trans e') k
    cases r2
    have e12 := e.trans e2
    refine h2 B O H2 σ (E.ex e12) _ PX _ p2 (fun c v' H3 p3 e3 r3 => ?_) fun x cls d H' px e' k => hx x cls d H' px (e12.trans e') k
    cases r3
    obtain ⟨n, hn, p3⟩ := p3
    exact ⟨i, j, c, n, rfl, hn, hq _ _ _ p3 (e12.trans e3) (itc_ok _ _ _)⟩) hx
/-- reversed(range(..)) -/
def revR (a b : Int) : M (List Int) := fun P _ => -(2 ^ 62) ≤ a ∧ a < 2 ^ 62 ∧ -(2 ^ 62) ≤ b ∧ b < 2 ^ 62 ∧ P (rngC (a + (((b - a).toNat : Nat) : Int) - 1) (-1) (b - a).toNat)
/-- enumerate -/
def enumL {α : Type} (l : List α) : List (Int × α) := l.zipIdx.map fun p => ((p.2 : Int), p.1)
theorem enumL_len (l : List α) : (enumL l).length = l.length := by simp [enumL]
theorem enumL_at {l : List α} {i : Nat} {x : Int × α} (h : (enumL l)[i]? = some x) : x.1 = (i : Int) ∧ l[i]? = some x.2 := by
  unfold enumL at h
  rw [List.getElem?_map, List.getElem?_zipIdx] at h
  cases q : l[i]? with
  | none => rw [q] at h; cases h
  | some y => rw [q] at h; cases h; exact ⟨by simp, rfl⟩
theorem enumL_get {l : List α} {i : Nat} {x : α} (h : l[i]? = some x) : (enumL l)[i]? = some ((i : Int), x) := by
  unfold enumL
  rw [List.getElem?_map, List.getElem?_zipIdx, h]
  simp
theorem ri_enum {te : TE} {lp : Bool} {en : α → D} {w : M (List α)} (h : RG K EX ρ te (resS K lp en) w) : RI K EX ρ (iEnum K (tCons te tNil)) lp (eT2 D.int en) (w >>= fun l => pure (enumL l)) := fun B O H σ E P PX R hw hq hx =>
  h B O H σ E _ PX _ hw (fun l v H1 p e r => by
    obtain ⟨a, vs, rfl, st, r⟩ := r
    refine ⟨a, vs, rfl, st.at_ _ (.refl _ _), hq _ _ H1 p e fun H2 e2 => ⟨fun i x hx => ?_, ?_⟩⟩
    · obtain ⟨x1, x2⟩ := x
      obtain ⟨h1, h2⟩ := enumL_at hx
      have h1 : x1 = (i : Int) := h1
      subst h1
      obtain ⟨v, hv, rv⟩ := r.get (get_map h2)
      refine ⟨⟨vs, v, st.at_ _ e2, hv⟩, fun v' H' y => ?_⟩
      obtain ⟨T, z, rfl, n, rfl, y⟩ := y
      have := y vs (st.at_ _ e2)
      rw [hv] at this
      cases this
      exact ⟨.new n, fun O2 h1 h2 => .tup (fun z => h2 _ z n) upd_same (.cons (.int _) (.cons ((rep_turn rv e2 h1).ex (.new n)) .nil))⟩
    · exact ⟨vs, st.at_ _ e2, by rw [r.length, List.length_map, enumL_len]; exact Nat.le_refl _⟩) hx
theorem ri_enumT {te : TE} {lp : Bool} {en : α → D} {w : M (List α)} (h : RE K EX ρ te (eTL en) w) : RI K EX ρ (iEnumT K (tCons te tNil)) lp (eT2 D.int en) (w >>= fun l => pure (enumL l)) := fun B O H σ E P PX R hw hq hx =>
  h B O H σ E _ PX _ hw (fun l v H1 p e r => by
    cases r with
    | @tup a vs _ n hh r =>
      have st : ∀ H, Ext (Aof lp O) H1 H → SqT K H a vs := fun H e => .inl (.inl (e.keep _ _ (fun z => n z.2) ns_tup hh))
      refine ⟨a, vs, rfl, st _ (.refl _ _), hq _ _ H1 p e fun H2 e2 => ⟨fun i x hx => ?_, ?_⟩⟩
      · obtain ⟨x1, x2⟩ := x
        obtain ⟨h1, h2⟩ := enumL_at hx
        have h1 : x1 = (i : Int) := h1
        subst h1
        obtain ⟨v, hv, rv⟩ := r.get (get_map h2)
        refine ⟨⟨vs, v, st _ e2, hv⟩, fun v' H' y => ?_⟩
        obtain ⟨T, z, rfl, n, rfl, y⟩ := y
        have := y vs (st _ e2)
        rw [hv] at this
        cases this
        exact ⟨.new n, fun O2 h1 h2 => .tup (fun z => h2 _ z n) upd_same (.cons (.int _) (.cons ((rep_turn rv e2 h1).ex (.new n)) .nil))⟩
      · exact ⟨vs, st _ e2, by rw [r.length, List.length_map, enumL_len]⟩) hx
def sgns (z : Str) : List Str := z.cps.toList.map fun c => ⟨#[c]⟩
theorem ri_str {te : TE} {lp : Bool} {w : M Str} (h : RE K EX ρ te D.str w) : RI K EX ρ (iStr te) lp D.str (w >>= fun z => pure (sgns z)) := fun B O H σ E P PX R hw hq hx =>
  h B O H σ E _ PX _ hw (fun z v H1 p e r => by
    cases r
    refine ⟨z, rfl, hq _ _ H1 p e fun H2 e2 => ⟨fun i x hx => ?_, ?_⟩⟩
    · unfold sgns at hx
      rw [List.getElem?_map, Array.getElem?_toList] at hx
      cases q : z.cps[i]? with
      | none => rw [q] at hx; cases hx
      | some c =>
        rw [q] at hx
        cases hx
        refine ⟨(Array.getElem?_eq_some_iff.mp q).1, fun v' H' y => ?_⟩
        obtain ⟨rfl, c', hc, rfl⟩ := y
        rw [q] at hc
        cases hc
        exact ⟨.refl _ _, fun _ _ _ => .str _⟩
    · show z.cps.size ≤ _
      simp [sgns]) hx
theorem ri_rev {te : TE} {lp : Bool} {en : α → D} {w : M (List α)} (h : RG K EX ρ te (resS K lp en) w) : RI K EX ρ (iRev K (tCons te tNil)) lp en (w >>= fun l => pure l.reverse) := fun B O H σ E P PX R hw hq hx =>
  h B O H σ E _ PX _ hw (fun l v H1 p e r => by
    obtain ⟨a, vs, rfl, st, r⟩ := r
    have hl : vs.length = l.length := by rw [r.length, List.length_map]
    refine ⟨a, vs, rfl, st.at_ _ (.refl _ _), hq _ _ H1 p e fun H2 e2 => ⟨fun i x hx => ?_, ?_⟩⟩
    · have hi : i < l.length := by
        have := (List.getElem?_eq_some_iff.mp hx).1
        rwa [List.length_reverse] at this
      rw [List.getElem?_reverse hi] at hx
      obtain ⟨v, hv, rv⟩ := r.get (get_map hx)
      rw [← hl] at hv
      refine ⟨⟨by omega, vs, v, st.at_ _ e2, hv⟩, fun v' H' y => ?_⟩
      obtain ⟨rfl, y⟩ := y
      have := y vs (st.at_ _ e2)
      rw [hv] at this
      cases this
      exact ⟨.refl _ _, fun O2 h1 _ => rep_turn rv e2 h1⟩
    · show vs.length ≤ _
      rw [List.length_reverse]; omega) hx
/-! ### targets -/
structure RTg (K : PySem.W.Frag) (g : TG) {α : Type} (en : α → D) (f : α → List Sl → List Sl) (vs : List Nat) : Prop where
  run : ∀ (B : Bs) (O : AP) (H : Hp) (σ : L2.St) (ρ : List Sl) (x : α) (v : V) (Q : L2.St → Hp → Prop), En K B O H σ ρ → Rep K O H v (en x) → (∀ σ', En K B O H σ' (f x ρ) → wipe σ' vs = wipe σ vs → Q σ' H) → g v σ H Q
theorem wipe1 (σ : L2.St) (i : Nat) (v : Option V) : wipe (σ.set i v) [i] = wipe σ [i] := by
  show (σ.set i v).set i none = σ.set i none
  rw [List.set_set]
theorem wipe2 (σ : L2.St) (i j : Nat) (v w : Option V) : wipe ((σ.set i v).set j w) [i, j] = wipe σ [i, j] := by
  show (((σ.set i v).set j w).set j none).set i none = (σ.set j none).set i none
  rw [List.set_set]
  by_cases c : i = j
  · subst c; simp [List.set_set]
  · rw [List.set_comm _ _ c, List.set_set]
theorem tg_name {en : α → D} (i : Nat) : RTg K (gName i) en (fun x ρ => ρ.set i (.sh (en x))) [i] := ⟨fun B O H σ ρ x v Q E r k => k _ (E.set i r) (wipe1 σ i _)⟩
theorem tg_pair {e1 : α → D} {e2 : β → D} (i j : Nat) : RTg K (gTup K 2 (gCons (gName i) (gCons (gName j) gNil))) (eT2 e1 e2) (fun x ρ => (ρ.set i (.sh (e1 x.1))).set j (.sh (e2 x.2))) [i, j] := ⟨fun B O H σ ρ x v Q E r k => by
  cases r with
  | tup _ h r =>
    cases r with
    | cons r1 r =>
      cases r with
      | cons r2 r =>
        cases r
        exact ⟨_, _, rfl, .inl (.inl h), rfl, _, _, rfl, _, _, rfl, rfl, k _ ((E.set i r1).set j r2) (wipe2 σ i j _ _)⟩⟩
theorem tg_trip {e1 : α → D} {e2 : β → D} {e3 : γ → D} (i j l : Nat) (hw : ∀ (σ : L2.St) (a b c : Option V), wipe (((σ.set i a).set j b).set l c) [i, j, l] = wipe σ [i, j, l]) : RTg K (gTup K 3 (gCons (gName i) (gCons (gName j) (gCons (gName l) gNil)))) (eT3 e1 e2 e3) (fun x ρ => ((ρ.set i (.sh (e1 x.1))).set j (.sh (e2 x.2.1))).set l (.sh (e3 x.2.2))) [i, j, l] := ⟨fun B O H σ ρ x v Q E r k => by
  cases r with
  | tup _ h r =>
    cases r with
    | cons r1 r =>
      cases r with
      | cons r2 r =>
        cases r with
        | cons r3 r =>
          cases r
          exact ⟨_, _, rfl, .inl (.inl h), rfl, _, _, rfl, _, _, rfl, _, _, rfl, rfl, k _ (((E.set i r1).set j r2).set l r3) (hw σ _ _ _)⟩⟩
/-! ### comprehensions -/
def wipeR (ρ : List Sl) : List Nat → List Sl
  | [] => ρ
  | v :: vs => (wipeR ρ vs).set v .no
theorem En.wipe {B : Bs} {O : AP} {H : Hp} {σ : L2.St} (E : En K B O H σ ρ) (vs : List Nat) : En K B O H (L2.wipe σ vs) (wipeR ρ vs) := by
  induction vs with
  | nil => exact E
  | cons v vs ih =>
    refine ⟨ih.sub, ih.bdom, ih.osub, ih.dom, ih.adom, ih.fdom, ih.ext, ?_, fun j s' h => ?_, fun j k d e as bs b h1 h2 h3 h4 => ?_⟩
    · show ((L2.wipe σ vs).set v none).length = ((wipeR ρ vs).set v .no).length
      simp [ih.len]
    · rcases set_get h with ⟨rfl, rfl, hl⟩ | ⟨hn, h⟩
      · trivial
      · show SlOk K B O H (((L2.wipe σ vs).set v none)[j]?) s'
        rw [set_off hn]
        exact ih.at_ j s' h
    · rcases set_get h1 with ⟨_, h, _⟩ | ⟨n1, g1⟩
      · rw [h] at h3; exact h3.elim
      · rcases set_get h2 with ⟨_, h, _⟩ | ⟨n2, g2⟩
        · rw [h] at h4; exact h4.elim
        · have h3 : Own K H (((L2.wipe σ vs).set v none)[j]?) d as := h3
          have h4 : Own K H (((L2.wipe σ vs).set v none)[k]?) e bs := h4
          rw [set_off n1] at h3
          rw [set_off n2] at h4
          exact ih.inj j k d e as bs b g1 g2 h3 h4
theorem wipe_wipe (σ : L2.St) (vs : List Nat) : L2.wipe (L2.wipe σ vs) vs = L2.wipe σ vs := by
  have key : ∀ (vs : List Nat) (τ : L2.St) (i : Nat), (L2.wipe τ vs)[i]? = if i ∈ vs then (τ[i]?).map (fun _ => none) else τ[i]? := by
    intro vs
    induction vs with
    | nil => intro τ i; simp [L2.wipe]
    | cons v vs ih =>
      intro τ i
      show ((L2.wipe τ vs).set v none)[i]? = _
      rw [List.getElem?_set]
      by_cases c : v = i
      · subst c
        rw [if_pos rfl, wipe_length]
        by_cases d : v < τ.length
        · rw [if_pos d, if_pos (List.mem_cons_self ..), List.getElem?_eq_getElem d]; rfl
        · rw [if_neg d, if_pos (List.mem_cons_self ..), List.getElem?_eq_none (by omega)]; rfl
      · rw [if_neg c, ih τ i]
        by_cases m : i ∈ vs
        · rw [if_pos m, if_pos (List.mem_cons_of_mem _ m)]
        · rw [if_neg m, if_neg (fun z => (List.mem_cons.mp z).elim (fun e => c e.symm) m)]
  apply List.ext_getElem?
  intro i
  rw [key, key]
  by_cases m : i ∈ vs
  · rw [if_pos m, if_pos m, Option.map_map]; rfl
  · rw [if_neg m, if_neg m]
/-- a shunned object that no slot owns changes -/
theorem En.grow {B : Bs} {O : AP} {H : Hp} {σ : L2.St} {p : Addr} {o o' : HO} (E : En K B O H σ ρ) (op : O p) (hp : H p = some o) (ns : ¬ isSrc o) (hB : B.H p = none) (hn : ∀ (i : Nat) (s : Sl) (as : List Addr), ρ[i]? = some s → Own K H (σ[i]?) s as → p ∉ as) : En K B O (upd H p o') σ ρ := by
  have e : Ext (fun b => b = p) H (upd H p o') := up_ext hp ns
  refine ⟨E.sub, E.bdom, E.osub, fun b h => up_dom b (E.dom b h), fun b h => up_dom b (E.adom b h), fun b h => up_dom b (E.fdom b h), ?_, E.len, fun i s hs => (E.at_ i s hs).up op hp ns fun as w => hn i s as hs w, fun i j s t as bs b h1 h2 w1 w2 => E.inj i j s t as bs b h1 h2 ((E.at_ i s h1).upB op (fun as w => hn i s as h1 w) w1) ((E.at_ j t h2).upB op (fun as w => hn j t as h2 w) w2)⟩
  refine ⟨fun b o n s h => ?_, fun b h => e.src b (E.ext.src b h)⟩
  have := E.ext.keep b o n s h
  rw [upd_ne]
  · exact this
  · intro z; rw [z, hB] at h; cases h
def lcM {α β : Type} : List α → (α → M Bool) → (α → M β) → M (List β)
  | [], _, _ => pure []
  | x :: l, t, f => t x >>= fun b => cond b (f x >>= fun y => lcM l t f >>= fun r => pure (y :: r)) (lcM l t f)
def RIat (K : PySem.W.Frag) (EX : L2.St → XK) (wi : TI) (lp : Bool) {α : Type} (en : α → D) (w : M (List α)) (O : AP) (H : Hp) (σ : L2.St) : Prop :=
  ∀ (P : List α → Prop) (PX : Exn → Prop) (R : It → Hp → Prop), w P PX → (∀ l J H', P l → Ext No H H' → ItOk K lp O H' J en l → R J H') → (∀ x cls d H', PX x → Ext No H H' → XOk K O H' cls d x → EX σ cls d H') → wi σ H R
theorem rf_lc_at {wi : TI} {g : TG} {tt : TT} {te : TE} {vs : List Nat} {en : α → D} {en' : β → D} {ft : α → List Sl → List Sl} {wl : M (List α)} {wt : α → M Bool} {wf : α → M β} (hg : RTg K g en ft vs) (ht : ∀ x, RT K EX (ft x (wipeR ρ vs)) tt (wt x)) (hf : ∀ x, RE K EX (ft x (wipeR ρ vs)) te en' (wf x))
    (hE : ∀ σ σ', L2.wipe σ vs = L2.wipe σ' vs → EX σ = EX σ') {B : Bs} {O : AP} {H : Hp} {σ : L2.St} (hi : RIat K EX wi false en wl O H σ) (E : En K B O H σ ρ) (P : List β → Prop) (PX : Exn → Prop) (Q : V → Hp → Prop) (hw : (wl >>= fun l => (need (l.length ≤ sizeLine) >>= fun _ => lcM l wt wf)) P PX) (hq : ∀ a v H', P a → Ext No H H' → resF K en' O H H' v a → Q v H') (hx : ∀ x cls d H', PX x → Ext No H H' → XOk K O H' cls d x → EX σ cls d H') : tLc wi g tt te vs σ H Q := by
  refine hi _ PX _ hw (fun l J H1 p e1 it => ?_) hx
  obtain ⟨hlen, p⟩ := p
  intro A hA
  have E1 := E.ex e1
  have hOA : ¬ O A := (E1.free hA).1
  have hBA := (E1.free hA).2
  have nn : ∀ {H : Hp}, Ext No H1 H → ∀ (i : Nat) (s : Sl) (as : List Addr), ρ[i]? = some s → Own K H (σ[i]?) s as → A ∉ as := fun {H} e i s as h w m => by
    have w' := (E1.at_ i s h).back (ex_tr e) (fun _ _ b _ u n q => e.keep b u (fun z => z) n q) w
    exact hOA ((E1.at_ i s h).in_ w' A m).1
  refine ⟨fun i m H => i ≤ l.length ∧ m = l.length - i ∧ En K B (Pl O A) H σ ρ ∧ Ext No H1 H ∧ ∃ (acc : List β) (ws : List V), H A = some (.lst ws) ∧ RepL K (Pl O A) H ws (acc.map en') ∧ acc.length ≤ i ∧ lcM (l.drop i) wt wf (fun r => P (acc ++ r)) PX, ⟨l.length, Nat.zero_le _, rfl, E1.shun hA (.new hA) (by rw [upd_same]; exact fun z => nomatch z), .new hA, [], [], upd_same, .nil, Nat.zero_le _, p⟩, ?_⟩
  rintro i m H2 ⟨hi2, rfl, E2, e2, acc, ws, hA2, r2, hacc, p2⟩
  obtain ⟨ig, is⟩ := it H2 e2.no
  by_cases c : i < l.length
  · right
    obtain ⟨go, y⟩ := ig i l[i] (List.getElem?_eq_getElem c)
    refine ⟨go, fun H' => i + 1 ≤ l.length ∧ En K B (Pl O A) H' σ ρ ∧ Ext No H1 H' ∧ ∃ (acc : List β) (ws : List V), H' A = some (.lst ws) ∧ RepL K (Pl O A) H' ws (acc.map en') ∧ acc.length ≤ i + 1 ∧ lcM (l.drop (i + 1)) wt wf (fun r => P (acc ++ r)) PX, fun H' z => ⟨l.length - (i + 1), by omega, z.1, rfl, z.2⟩, fun v H3 hy => ?_⟩
    obtain ⟨e3, rv⟩ := y v H3 hy
    have E3 := E2.ex e3
    have rv := rv (Pl O A) (fun b z => z.elim .inl fun q => .inr (by rw [q]; exact hA)) E2.dom
    rw [List.drop_eq_getElem_cons c] at p2
    refine hg.run B (Pl O A) H3 _ _ l[i] v _ (E3.wipe vs) rv fun σ' E' hwp => ⟨by rw [hwp, wipe_wipe], ?_⟩
    have hEX : EX σ' = EX σ := hE _ _ (by rw [hwp, wipe_wipe])
    have e13 := e2.trans e3
    refine ht l[i] B (Pl O A) H3 σ' E' _ PX _ p2 (fun b H4 p4 e4 => ?_) fun x cls d H' px e k => by rw [hEX]; exact hx x cls d H' px (e1.trans (e13.trans e)) (k.mono fun b z => .inl z)
    have e14 := e13.trans e4
    have A4 : H4 A = some (.lst ws) := (e3.trans e4).keep _ _ (fun z => z) ns_lst hA2
    cases b with
    | false => exact iteF ⟨c, E3.ex e4, e14, acc, ws, A4, (r2.ex e3).ex e4, by omega, p4⟩
    | true =>
      refine iteT (hf l[i] B (Pl O A) H4 σ' (E'.ex e4) _ PX _ p4 (fun y u H5 p5 e5 r5 => ?_) fun x cls d H' px e k => by rw [hEX]; exact hx x cls d H' px (e1.trans (e14.trans e)) (k.mono fun b z => .inl z))
      have A5 : H5 A = some (.lst ws) := e5.keep _ _ (fun z => z) ns_lst A4
      have R5 := ((r2.ex e3).ex e4).ex e5
      have hl := R5.length
      rw [List.length_map] at hl
      have up : Ext (fun b => b = A) H5 (upd H5 A (.lst (ws ++ [u]))) := by
        refine ⟨fun b o n _ h => by rw [upd_ne n]; exact h, fun b ⟨n, s, t, h⟩ => ⟨n, s, t, ?_⟩⟩
        rw [upd_ne]
        · exact h
        · intro z; rw [z, A5] at h; cases h
      have sub : ∀ b, b = A → Pl O A b := fun b z => .inr z
      refine ⟨ws, A5, by omega, c, ((E3.ex e4).ex e5).grow (.inr rfl) A5 ns_lst hBA (nn (e14.trans e5)), ?_, acc ++ [y], ws ++ [u], upd_same, ?_, by simp; omega, ?_⟩
      · have e15 := e14.trans e5
        refine ⟨fun b o n s h => ?_, fun b h => up.src b (e15.src b h)⟩
        have := e15.keep b o n s h
        rw [upd_ne]
        · exact this
        · intro z; rw [z, hA] at h; cases h
      · rw [List.map_append]
        exact (R5.ext up sub).snoc (Rep.ext r5 up sub)
      · have : (fun r => P (acc ++ [y] ++ r)) = fun r => P (acc ++ (y :: r)) := by funext r; rw [List.append_assoc]; rfl
        rw [this]
        exact p5
  · left
    have hi3 : i = l.length := by omega
    subst hi3
    rw [List.drop_length] at p2
    have p2 : P (acc ++ []) := p2
    rw [List.append_nil] at p2
    exact ⟨is, hq acc _ H2 p2 (e1.trans e2) ⟨A, ws, rfl, e1.free (fun z => z) hA, hA2, r2⟩⟩
theorem rf_lc {wi : TI} {g : TG} {tt : TT} {te : TE} {vs : List Nat} {en : α → D} {en' : β → D} {ft : α → List Sl → List Sl} {wl : M (List α)} {wt : α → M Bool} {wf : α → M β} (hi : RI K EX ρ wi false en wl) (hg : RTg K g en ft vs) (ht : ∀ x, RT K EX (ft x (wipeR ρ vs)) tt (wt x)) (hf : ∀ x, RE K EX (ft x (wipeR ρ vs)) te en' (wf x))
    (hE : ∀ σ σ', L2.wipe σ vs = L2.wipe σ' vs → EX σ = EX σ') : RF K EX ρ (tLc wi g tt te vs) en' (wl >>= fun l => (need (l.length ≤ sizeLine) >>= fun _ => lcM l wt wf)) := fun B O H σ E P PX Q hw hq hx =>
  rf_lc_at hg ht hf hE (hi B O H σ E) E P PX Q hw hq hx
end
end Va

namespace Va
open PySem PySem.Spec PyProof.Rows L2 Bg
/-! ### promises -/
def spC (K : PySem.W.Frag) {α β : Type} (ar : α → List Sl) (res : Res β) (c : α → M β) : Sp := fun vs H Q E => ∃ (O : AP) (a : α) (P : β → Prop) (PX : Exn → Prop), ArOk K O H vs (ar a) ∧ (∀ b, O b → H b ≠ none) ∧ c a P PX ∧
  (∀ r v H', P r → Ext No H H' → res O H H' v r → Q v H') ∧ (∀ x cls d H', PX x → Ext No H H' → XOk K O H' cls d x → E cls d H')
/-- what __init__ promises, by what the class's call gives -/
def spMk (K : PySem.W.Frag) (C : Str) {α β : Type} (ar : α → List Sl) (en : β → D) (c : α → M β) : Sp := fun vs H Q E => ∃ (O : AP) (H1 : Hp) (x dx : Addr) (ws : List V) (a : α) (P : β → Prop) (PX : Exn → Prop), vs = .ref x :: ws ∧ H1 x = none ∧ H1 dx = none ∧ dx ≠ x ∧ H = upd (upd H1 dx (.own x)) x (.ins (He.ga K C) dx []) ∧
  ArOk K O H1 ws (ar a) ∧ (∀ b, O b → H1 b ≠ none) ∧ c a P PX ∧ (∀ r H', P r → Ext No H1 H' → Rep K O H' (.ref x) (en r) → Q .non H') ∧ (∀ y cls d H', PX y → Ext No H1 H' → XOk K O H' cls d y → E cls d H')
/-- an exception never comes -/
def NoX {α β : Type} (c : α → M β) : Prop := ∀ a P PX, c a P PX → c a P fun _ => False
section
variable {K : PySem.W.Frag} {EX : L2.St → XK} {ρ : List Sl} {α β γ : Type}
theorem rg_call {t : TA} {ar : α → List Sl} {w : M α} {res : Res β} [Lasts res] {c : α → M β} (h : RA K EX ρ t ar w) (nx : NoX c) : RG K EX ρ (tCall (spC K ar res c) [] E0 t) res (w >>= c) := fun B O H σ E P PX Q hw hq hx =>
  h B O H σ E _ PX _ hw (fun a vs H1 p e r => ⟨O, a, P, fun _ => False, by rw [List.append_nil]; exact r, (E.ex e).dom, nx a P PX p, fun r v H' p' e' k => hq r v H' p' (e.trans e') (Lasts.base k e), fun _ _ _ _ z => z.elim⟩) hx
theorem rg_callX {E0' : XK} {t : TA} {ar : α → List Sl} {w : M α} {res : Res β} [Lasts res] {c : α → M β} (h : RA K (fun _ => E0') ρ t ar w) : RG K (fun _ => E0') ρ (tCall (spC K ar res c) [] E0' t) res (w >>= c) := fun B O H σ E P PX Q hw hq hx =>
  h B O H σ E _ PX _ hw (fun a vs H1 p e r => ⟨O, a, P, PX, by rw [List.append_nil]; exact r, (E.ex e).dom, p, fun r v H' p' e' k => hq r v H' p' (e.trans e') (Lasts.base k e), fun x cls d H' z e' k => hx x cls d H' z (e.trans e') k⟩) hx
theorem rg_callS {t : TA} {ar : α → List Sl} {w : M α} {res : Res β} [Lasts res] {c : α → M β} (h : RA K EX ρ t ar w) : RG K EX ρ (tCallS (spC K ar res c) EX t) res (w >>= c) := fun B O H σ E P PX Q hw hq hx =>
  h B O H σ E _ PX _ hw (fun a vs H1 p e r => ⟨O, a, P, PX, r, (E.ex e).dom, p, fun r v H' p' e' k => hq r v H' p' (e.trans e') (Lasts.base k e), fun x cls d H' z e' k => hx x cls d H' z (e.trans e') k⟩) hx
theorem lookup_none {f : Str} : ∀ {fs : List (Str × V)} {gs : List (Str × D)}, fs.map (·.1) = gs.map (·.1) → gs.lookup f = none → fs.lookup f = none
  | [], _, _, _ => rfl
  | _ :: _, [], e, _ => nomatch e
  | (x1, x2) :: fs, (y1, y2) :: gs, e, h => by
    injection e with e1 e2
    have e1 : x1 = y1 := e1
    subst e1
    rw [List.lookup_cons] at h ⊢
    cases c : f == x1 with
    | true => rw [c] at h; cases h
    | false => rw [c] at h; exact lookup_none e2 h
/-- o.m(..) -/
theorem rg_meth {C m : Str} {ta : TE} {t : TA} {eo : γ → D} {gs : γ → List (Str × D)} {ar : α → List Sl} {wo : M γ} {w : M α} {res : Res β} [Lasts res] {c : γ × α → M β} (ho : ∀ a, eo a = .obj C (gs a)) (hm : ∀ a, (gs a).lookup m = none) (h1 : RE K EX ρ ta eo wo) (h : RA K EX ρ t ar w) (nx : NoX c) :
    RG K EX ρ (tMeth (He.ga K C) m (spC K (fun p : γ × α => .sh (eo p.1) :: ar p.2) res c) [] E0 ta t) res (wo >>= fun o => w >>= fun a => c (o, a)) := fun B O H σ E P PX Q hw hq hx =>
  h1 B O H σ E _ PX _ hw (fun o v H1 p1 e1 r1 => by
    have r0 : Rep K O H1 v (.obj C (gs o)) := ho o ▸ r1
    generalize hgs : gs o = g0 at r0
    have hmo := hm o
    rw [hgs] at hmo
    cases r0 with
    | obj _ hh e2 _ =>
      refine ⟨_, _, _, rfl, hh, lookup_none e2 hmo, h B O H1 σ (E.ex e1) _ PX _ p1 (fun a vs H2 p2 e3 r2 => ?_) fun x cls d H' px e k => hx x cls d H' px (e1.trans e) k⟩
      have e12 := e1.trans e3
      exact ⟨O, (o, a), P, fun _ => False, by rw [List.append_nil]; exact .sh (Rep.ex r1 e3) r2, (E.ex e12).dom, nx _ P PX p2, fun r v H' p' e' k => hq r v H' p' (e12.trans e') (Lasts.base k e12), fun _ _ _ _ z => z.elim⟩) hx
theorem rg_methX {E0' : XK} {C m : Str} {ta : TE} {t : TA} {eo : γ → D} {gs : γ → List (Str × D)} {ar : α → List Sl} {wo : M γ} {w : M α} {res : Res β} [Lasts res] {c : γ × α → M β} (ho : ∀ a, eo a = .obj C (gs a)) (hm : ∀ a, (gs a).lookup m = none) (h1 : RE K (fun _ => E0') ρ ta eo wo) (h : RA K (fun _ => E0') ρ t ar w) :
    RG K (fun _ => E0') ρ (tMeth (He.ga K C) m (spC K (fun p : γ × α => .sh (eo p.1) :: ar p.2) res c) [] E0' ta t) res (wo >>= fun o => w >>= fun a => c (o, a)) := fun B O H σ E P PX Q hw hq hx =>
  h1 B O H σ E _ PX _ hw (fun o v H1 p1 e1 r1 => by
    have r0 : Rep K O H1 v (.obj C (gs o)) := ho o ▸ r1
    generalize hgs : gs o = g0 at r0
    have hmo := hm o
    rw [hgs] at hmo
    cases r0 with
    | obj _ hh e2 _ =>
      refine ⟨_, _, _, rfl, hh, lookup_none e2 hmo, h B O H1 σ (E.ex e1) _ PX _ p1 (fun a vs H2 p2 e3 r2 => ?_) fun x cls d H' px e k => hx x cls d H' px (e1.trans e) k⟩
      have e12 := e1.trans e3
      exact ⟨O, (o, a), P, PX, by rw [List.append_nil]; exact .sh (Rep.ex r1 e3) r2, (E.ex e12).dom, p2, fun r v H' p' e' k => hq r v H' p' (e12.trans e') (Lasts.base k e12), fun x cls d H' z e' k => hx x cls d H' z (e12.trans e') k⟩) hx
/-- C(..) -/
theorem re_make {C : Str} {t : TA} {ar : α → List Sl} {w : M α} {en : β → D} {c : α → M β} (h : RA K EX ρ t ar w) (nx : NoX c) : RE K EX ρ (tMake (He.ga K C) (spMk K C ar en c) [] E0 t) en (w >>= c) := fun B O H σ E P PX Q hw hq hx =>
  h B O H σ E _ PX _ hw (fun a vs H1 p e r x dx hx' hdx hne => ⟨O, H1, x, dx, vs, a, P, fun _ => False, by rw [List.append_nil], hx', hdx, hne, rfl, r, (E.ex e).dom, nx a P PX p, fun r H' p' e' k => ⟨rfl, hq r _ H' p' (e.trans e') k⟩, fun _ _ _ _ z => z.elim⟩) hx
theorem re_makeX {E0' : XK} {C : Str} {t : TA} {ar : α → List Sl} {w : M α} {en : β → D} {c : α → M β} (h : RA K (fun _ => E0') ρ t ar w) : RE K (fun _ => E0') ρ (tMake (He.ga K C) (spMk K C ar en c) [] E0' t) en (w >>= c) := fun B O H σ E P PX Q hw hq hx =>
  h B O H σ E _ PX _ hw (fun a vs H1 p e r x dx hx' hdx hne => ⟨O, H1, x, dx, vs, a, P, PX, by rw [List.append_nil], hx', hdx, hne, rfl, r, (E.ex e).dom, p, fun r H' p' e' k => ⟨rfl, hq r _ H' p' (e.trans e') k⟩, fun y cls d H' z e' k => hx y cls d H' z (e.trans e') k⟩) hx
end
/-! ### statements -/
inductive Fl (S R : Type) where
  | nx (s : S) | bk (s : S) | rt (r : R)
structure EndS (R : Type) where
  S : Type
  ρ : S → List Sl
  k : S → M R
/-- where a block goes on -/
structure Fr (R : Type) where
  nx : EndS R
  bk : EndS R
  ct : EndS R
  RR : Type
  rr : Res RR
  kr : RR → M R
  ρx : List Sl
def LeX (ρx ρ : List Sl) : Prop := ρx = [] ∨ Le ρx ρ
theorem lex_nil {ρ : List Sl} : LeX [] ρ := .inl rfl
theorem lex_le {ρx ρ : List Sl} (h : Le ρx ρ) : LeX ρx ρ := .inr h
theorem le_nil : Le [] [] := ⟨rfl, fun i s h => nomatch h⟩
theorem le_cons {s : Sl} {a b : List Sl} (h : Le a b) : Le (s :: a) (s :: b) := ⟨by simp [h.1], fun i t e => by
  cases i with
  | zero => exact .inr e
  | succ i => exact h.2 i t e⟩
theorem le_no {s : Sl} {a b : List Sl} (h : Le a b) : Le (.no :: a) (s :: b) := ⟨by simp [h.1], fun i t e => by
  cases i with
  | zero => cases e; exact .inl rfl
  | succ i => exact h.2 i t e⟩
def RB (K : PySem.W.Frag) (EX : L2.St → XK) {R : Type} (F : Fr R) (ρ : List Sl) (t : TS) (p : M R) : Prop :=
  ∀ (B : Bs) (O : AP) (H : Hp) (σ : L2.St) (D : Ends), En K B O H σ ρ → ∀ (P : R → Prop) (PX : Exn → Prop), p P PX →
    (∀ s O' H' σ', En K B O' H' σ' (F.nx.ρ s) → F.nx.k s P PX → D.nx σ' H') → (∀ s O' H' σ', En K B O' H' σ' (F.bk.ρ s) → F.bk.k s P PX → D.bk σ' H') → (∀ s O' H' σ', En K B O' H' σ' (F.ct.ρ s) → F.ct.k s P PX → D.ct σ' H') →
    (∀ r v H', Ext B.A B.H H' → F.rr B.O B.F H' v r → F.kr r P PX → D.rt v H') →
    (∀ ρ' O' σ' x cls d H', En K B O' H' σ' ρ' → LeX F.ρx ρ' → PX x → XOk K O' H' cls d x → EX σ' cls d H') → t D σ H
section
variable {K : PySem.W.Frag} {EX : L2.St → XK} {ρ : List Sl} {α β γ R : Type} {F : Fr R}
theorem rb_nil {s : F.nx.S} (h : Le (F.nx.ρ s) ρ) : RB K EX F ρ tNext (F.nx.k s) := fun B O H σ D E P PX hp nx _ _ _ _ => nx s O H σ (E.le h) hp
theorem rb_break {u : TS} {s : F.bk.S} (h : Le (F.bk.ρ s) ρ) : RB K EX F ρ (tSeq tBreak u) (F.bk.k s) := fun B O H σ D E P PX hp _ bk _ _ _ => bk s O H σ (E.le h) hp
theorem rb_cont {u : TS} {s : F.ct.S} (h : Le (F.ct.ρ s) ρ) : RB K EX F ρ (tSeq tCont u) (F.ct.k s) := fun B O H σ D E P PX hp _ _ ct _ _ => ct s O H σ (E.le h) hp
theorem rb_pass {u : TS} {p : M R} (h : RB K EX F ρ u p) : RB K EX F ρ (tSeq tNext u) p := h
theorem rb_le {ρ' : List Sl} {t : TS} {p : M R} (h : RB K EX F ρ' t p) (l : Le ρ' ρ) : RB K EX F ρ t p := fun B O H σ D E => h B O H σ D (E.le l)
theorem rb_set {te : TE} {en : α → D} {w : M α} {u : TS} {k : α → M R} (i : Nat) (he : RE K EX ρ te en w) (hk : ∀ a, RB K EX F (ρ.set i (.sh (en a))) u (k a)) (hx : LeX F.ρx ρ := by first | exact lex_nil | (refine lex_le ?_; repeat (first | exact le_nil | refine le_cons ?_ | refine le_no ?_))) : RB K EX F ρ (tSeq (tAsg te (gName i)) u) (w >>= k) := fun B O H σ D E P PX hp nx bk ct rt xc =>
  he B O H σ E _ PX _ hp (fun a v H1 p1 e1 r1 => hk a B O H1 (σ.set i (some v)) D ((E.ex e1).set i r1) P PX p1 nx bk ct rt xc) fun x cls d H' px e k => xc ρ O σ x cls d H' (E.ex e) hx px k
/-- x = a new list, one's own -/
theorem rb_own {te : TE} {en : α → D} {w : M (List α)} {u : TS} {k : List α → M R} (i : Nat) (he : RF K EX ρ te en w) (hk : ∀ a, RB K EX F (ρ.set i (.ow (.lst (a.map en)))) u (k a)) (hx : LeX F.ρx ρ := by first | exact lex_nil | (refine lex_le ?_; repeat (first | exact le_nil | refine le_cons ?_ | refine le_no ?_))) : RB K EX F ρ (tSeq (tAsg te (gName i)) u) (w >>= k) := fun B O H σ D E P PX hp nx bk ct rt xc =>
  he B O H σ E _ PX _ hp (fun a v H1 p1 e1 r1 => by
    obtain ⟨p, vs, rfl, n, hp, r⟩ := r1
    have hb := (E.free n).2
    refine hk a B (Pl O p) H1 _ D (E.own i n ?_ e1 ⟨p, vs, rfl, .inr rfl, ?_, .inr hb, hp, r⟩ (by rw [hp]; exact fun z => nomatch z)) P PX p1 nx bk ct rt xc
    all_goals exact E.bfree n) fun x cls d H' px e k => xc ρ O σ x cls d H' (E.ex e) hx px k
end
end Va

namespace Va
open PySem PySem.Spec PyProof.Rows L2 Bg
section
variable {K : PySem.W.Frag} {EX : L2.St → XK} {ρ : List Sl} {α β γ R : Type} {F : Fr R} {B : Bs} {O : AP} {H H' : Hp} {σ : L2.St}
/-! ### one's own list changes -/
theorem ow_p {i : Nat} {d : D} (E : En K B O H σ ρ) (h : ρ[i]? = some (.ow d)) : ∃ p, σ[i]? = some (some (.ref p)) ∧ O p ∧ B.F p = none ∧ (B.A p ∨ B.H p = none) ∧ H p ≠ none := by
  obtain ⟨p, e, w⟩ := (E.at_ i _ h).own
  obtain ⟨o, f, a, u, hu, _⟩ := (E.at_ i _ h).in_ w p List.mem_cons_self
  exact ⟨p, e, o, f, a, by rw [hu]; exact fun z => nomatch z⟩
/-- an owned object gets another content -/
theorem En.mut {i : Nat} {d d' : D} {p : Addr} {o o' : HO} (E : En K B O H σ ρ) (h : ρ[i]? = some (.ow d)) (hs : σ[i]? = some (some (.ref p))) (hp : H p = some o) (ns : ¬ isSrc o) (nf : ∀ ob u, o ≠ .frz ob u) (hn : ∀ E' : Ext (fun b => b = p) H (upd H p o'), SlOk K B O (upd H p o') (some (some (.ref p))) (.ow d')) : En K B O (upd H p o') σ (ρ.set i (.ow d')) :=
  E.mutW h ⟨p, hs, rfl⟩ List.mem_cons_self hp (by rw [hs]; exact hn (up_ext hp ns)) fun bs ⟨q, e, ea⟩ b m => by
    rw [hs] at e; cases e; rw [ea] at m; exact m
theorem En.mutL {i : Nat} {ds ds' : List D} (E : En K B O H σ ρ) (h : ρ[i]? = some (.ow (.lst ds))) : ∃ p vs, σ[i]? = some (some (.ref p)) ∧ H p = some (.lst vs) ∧ RepL K O H vs ds ∧ ∀ vs', RepL K O H vs' ds' → En K B O (upd H p (.lst vs')) σ (ρ.set i (.ow (.lst ds'))) := by
  obtain ⟨p, vs, e1, o, f, a, hp, r⟩ := E.at_ i _ h
  refine ⟨p, vs, e1, hp, r, fun vs' r' => E.mut h e1 hp ns_lst (fun _ _ z => nomatch z) fun e => ⟨p, vs', rfl, o, f, a, upd_same, r'.ext e fun b z => z ▸ o⟩⟩
/-! ### the base anew -/
def Bs.at (K : PySem.W.Frag) (B : Bs) (O : AP) (H : Hp) (σ : L2.St) (ρ : List Sl) : Bs := ⟨B.F, B.O, H, fun b => ∃ (i : Nat) (s : Sl) (as : List Addr), ρ[i]? = some s ∧ Own K H (σ[i]?) s as ∧ b ∈ as, O, B.S⟩
theorem SlOk.rb {B B' : Bs} {x : Option (Option V)} {s : Sl} (h : SlOk K B O H x s) (hF : B'.F = B.F) (hS : B'.S = B.S) (ha : ∀ as, Own K H x s as → ∀ p ∈ as, (B.A p ∨ B.H p = none) → B'.A p ∨ B'.H p = none) : SlOk K B' O H x s := by
  cases s with
  | no => trivial
  | sh d => exact h
  | src => exact h
  | scr ns => exact h
  | pin v => exact h
  | exc a cls d ex => exact h
  | od t =>
    obtain ⟨v, as, e1, r, nd, k⟩ := h
    exact ⟨v, as, e1, r, nd, fun b z => ⟨(k b z).1, by rw [hF]; exact (k b z).2.1, ha as ⟨v, O, e1, r⟩ b z (k b z).2.2⟩⟩
  | ow d =>
    cases d with
    | lst ds => obtain ⟨q, vs, e1, o, f, a, hp, r⟩ := h; exact ⟨q, vs, e1, o, by rw [hF]; exact f, ha _ ⟨q, e1, rfl⟩ q List.mem_cons_self a, hp, r⟩
    | dct es => obtain ⟨q, vs, e1, o, f, a, hp, n, k, r⟩ := h; exact ⟨q, vs, e1, o, by rw [hF]; exact f, ha _ ⟨q, e1, rfl⟩ q List.mem_cons_self a, hp, n, k, r⟩
    | dcp es => obtain ⟨q, vs, e1, o, f, a, hp, k, r⟩ := h; exact ⟨q, vs, e1, o, by rw [hF]; exact f, ha _ ⟨q, e1, rfl⟩ q List.mem_cons_self a, hp, k, r⟩
    | obj C gs =>
      obtain ⟨dx, vs, e1, o, f, a, hp, k, r⟩ := h
      show ∃ dx fs, _
      rw [hS, hF]
      exact ⟨dx, vs, e1, o, f, ha _ ⟨_, e1, rfl⟩ _ List.mem_cons_self a, hp, k, r⟩
    | _ => exact h.elim
theorem En.at_own (E : En K B O H σ ρ) {b : Addr} (h : (Bs.at K B O H σ ρ).A b) : O b ∧ B.F b = none ∧ (B.A b ∨ B.H b = none) ∧ ∃ u, H b = some u ∧ ¬ isSrc u := by
  obtain ⟨i, s, as, h1, w, m⟩ := h
  exact (E.at_ i s h1).in_ w b m
theorem En.reb (E : En K B O H σ ρ) : En K (Bs.at K B O H σ ρ) O H σ ρ := by
  refine ⟨E.sub, E.bdom, fun b h => .inl h, E.dom, fun b h => ?_, E.fdom, .refl _ _, E.len, fun i s h => (E.at_ i s h).rb rfl rfl fun as w p m _ => .inl ⟨i, s, as, h, w, m⟩, E.inj⟩
  obtain ⟨_, _, _, u, hu, _⟩ := E.at_own h
  rw [hu]
  exact fun z => nomatch z
theorem En.extc (E : En K B O H σ ρ) {H' : Hp} (e : Ext (Bs.at K B O H σ ρ).A H H') : Ext B.A B.H H' := by
  refine ⟨fun b o n s h => e.keep b o (fun w => ?_) s (E.ext.keep b o n s h), fun b h => e.src b (E.ext.src b h)⟩
  obtain ⟨_, _, a, _⟩ := E.at_own w
  rcases a with a | a
  · exact n a
  · rw [a] at h; cases h
theorem En.unb {O' : AP} {H' : Hp} {σ' : L2.St} {ρ' : List Sl} (E : En K B O H σ ρ) (E' : En K (Bs.at K B O H σ ρ) O' H' σ' ρ') : En K B O' H' σ' ρ' := by
  have own : ∀ b, (Bs.at K B O H σ ρ).A b → B.A b ∨ B.H b = none := fun b w => (E.at_own w).2.2.1
  refine ⟨E'.sub, E'.bdom, fun b h => (E'.osub b h).elim (E.osub b) fun z => .inr (E.free z).2, E'.dom, fun b h => ?_, E'.fdom, E.extc E'.ext, E'.len, fun i s h => (E'.at_ i s h).rb rfl rfl fun as _ p _ a => a.elim (own p) fun z => .inr (E.free z).2, E'.inj⟩
  by_cases c : (Bs.at K B O H σ ρ).A b
  · exact E'.adom b c
  · exact E'.ext.some c (E.adom b h)
/-- what was one's own is shared -/
theorem En.frzW {i : Nat} {s : Sl} {as : List Addr} {v : V} {d : D} (E : En K B O H σ ρ) (h : ρ[i]? = some s) (w : Own K H (σ[i]?) s as) (hv : σ[i]? = some (some v)) (r : Rep K (fun b => O b ∧ b ∉ as) H v d) : En K B (fun b => O b ∧ b ∉ as) H σ (ρ.set i (.sh d)) := by
  have ia := (E.at_ i s h).in_ w
  refine ⟨fun b z => ⟨E.sub b z, fun m => E.bdom b z (ia b m).2.1⟩, E.bdom, fun b z => E.osub b z.1, fun b z => E.dom b z.1, E.adom, E.fdom, E.ext, by simp [E.len], fun j t hj => ?_, fun j k t1 t2 as1 as2 b h1 h2 w1 w2 m1 m2 => ?_⟩
  · rcases set_get hj with ⟨rfl, rfl, hl⟩ | ⟨hne, hj⟩
    · exact ⟨v, hv, r⟩
    · have hjs := E.at_ j t hj
      exact hjs.tr (fun b u n _ q => ⟨q, fun z => n z.1⟩) (fun bs wb b m => ⟨fun u _ q => q, (hjs.in_ wb b m).1, fun m' => hne (E.inj i j s t as bs b h hj w wb m' m)⟩) (fun a o sr => ⟨⟨o, fun m => by
        obtain ⟨u, hu, ns⟩ := (ia a m).2.2.2
        obtain ⟨n1, n2, n3, sr⟩ := sr
        rw [sr] at hu
        cases hu
        exact ns ⟨_, _, _, rfl⟩⟩, sr⟩) fun a ns z => z.wide fun b z => .inl z.1
  · rcases set_get h1 with ⟨_, e, _⟩ | ⟨n1, g1⟩
    · rw [e] at w1; exact w1.elim
    · rcases set_get h2 with ⟨_, e, _⟩ | ⟨n2, g2⟩
      · rw [e] at w2; exact w2.elim
      · exact E.inj j k t1 t2 as1 as2 b g1 g2 w1 w2 m1 m2
theorem ow_rep {x : Option (Option V)} {d : D} {p : Addr} (h : SlOk K B O H x (.ow d)) (hx : x = some (some (.ref p))) : Rep K (fun b => O b ∧ b ∉ [p]) H (.ref p) d := by
  have mo : ∀ b, (O b ∧ b ∉ [p]) → O b := fun b z => z.1
  have no : ¬ (O p ∧ p ∉ [p]) := fun z => z.2 List.mem_cons_self
  cases d with
  | lst ds => obtain ⟨q, vs, e1, o, f, a, hp, r⟩ := h; rw [hx] at e1; cases e1; exact .lst no hp (r.mono mo)
  | dct es => obtain ⟨q, vs, e1, o, f, a, hp, n, k, r⟩ := h; rw [hx] at e1; cases e1; exact .dct no (.inl hp) n k (r.mono mo)
  | dcp es => obtain ⟨q, vs, e1, o, f, a, hp, k, r⟩ := h; rw [hx] at e1; cases e1; exact .dcp no (.inl hp) k (r.mono mo)
  | obj C gs => obtain ⟨dx, vs, e1, o, f, a, hp, k, r⟩ := h; rw [hx] at e1; cases e1; exact .obj no hp k (r.mono mo)
  | _ => exact h.elim
theorem En.frz {i : Nat} {d : D} (E : En K B O H σ ρ) (h : ρ[i]? = some (.ow d)) : ∃ O', (∀ b, O' b → O b) ∧ En K B O' H σ (ρ.set i (.sh d)) := by
  obtain ⟨p, hs, w⟩ := (E.at_ i _ h).own
  exact ⟨_, fun b z => z.1, E.frzW h w hs (ow_rep (E.at_ i _ h) hs)⟩
theorem En.frzD {i : Nat} {t : OT} (E : En K B O H σ ρ) (h : ρ[i]? = some (.od t)) : ∃ O', (∀ b, O' b → O b) ∧ En K B O' H σ (ρ.set i (.sh t.d)) := by
  obtain ⟨v, as, e1, r, nd, k⟩ := E.at_ i _ h
  exact ⟨_, fun b z => z.1, E.frzW (as := as) h ⟨v, O, e1, r⟩ e1 (r.frz (fun b z => z.1) fun b m z => z.2 m)⟩
/-! ### statements -/
theorem rb_expr {te : TE} {res : Res α} {w : M α} {u : TS} {k : M R} (he : RG K EX ρ te res w) (hk : RB K EX F ρ u k) (hx : LeX F.ρx ρ := by first | exact lex_nil | (refine lex_le ?_; repeat (first | exact le_nil | refine le_cons ?_ | refine le_no ?_))) : RB K EX F ρ (tSeq (tDrop te) u) (w >>= fun _ => k) := fun B O H σ D E P PX hp nx bk ct rt xc =>
  he B O H σ E _ PX _ hp (fun a v H1 p1 e1 _ => hk B O H1 σ D (E.ex e1) P PX p1 nx bk ct rt xc) fun x cls d H' px e k => xc ρ O σ x cls d H' (E.ex e) hx px k
theorem rb_append {te : TE} {en : α → D} {w : M α} {u : TS} {l : List α} {k : List α → M R} (i : Nat) (he : RE K EX ρ te en w) (hk : ∀ l', RB K EX F (ρ.set i (.ow (.lst (l'.map en)))) u (k l')) (h : ρ[i]? = some (.ow (.lst (l.map en))) := by rfl) (hx : LeX F.ρx ρ := by first | exact lex_nil | (refine lex_le ?_; repeat (first | exact le_nil | refine le_cons ?_ | refine le_no ?_))) :
    RB K EX F ρ (tSeq (tDrop (tBM K "list" rAppend (tVar i) (tCons te tNil))) u) (w >>= fun a => (need (l.length < sizeLine) >>= fun _ => k (l ++ [a]))) := fun B O H σ D E P PX hp nx bk ct rt xc => by
  obtain ⟨p, vs, hs, hpl, r, mk⟩ := E.mutL (ds' := (l.map en)) h
  refine ⟨.ref p, hs, .inl ⟨rfl, vs, SqL.of hpl⟩, he B O H σ E _ PX _ hp (fun a v H1 p1 e1 r1 => ?_) fun x cls d H' px e k => xc ρ O σ x cls d H' (E.ex e) hx px k⟩
  have E1 := E.ex e1
  obtain ⟨p', vs', hs', hpl', r', mk'⟩ := E1.mutL (ds' := ((l ++ [a]).map en)) h
  rw [hs] at hs'
  cases hs'
  have hl := r'.length
  rw [List.length_map] at hl
  refine ⟨p, vs', v, rfl, rfl, hpl', by rw [hl]; exact p1.1, hk (l ++ [a]) B O _ σ D (mk' _ ?_) P PX p1.2 nx bk ct rt xc⟩
  rw [List.map_append]
  exact r'.snoc r1
theorem rb_clear {en : α → D} {u : TS} {l : List α} {k : List α → M R} (i : Nat) (hk : ∀ l', RB K EX F (ρ.set i (.ow (.lst (l'.map en)))) u (k l')) (h : ρ[i]? = some (.ow (.lst (l.map en))) := by rfl) :
    RB K EX F ρ (tSeq (tDrop (tBM0 K "list" rClear (tVar i))) u) (k []) := fun B O H σ D E P PX hp nx bk ct rt xc => by
  obtain ⟨p, vs, hs, hpl, r, mk⟩ := E.mutL (ds' := (([] : List α).map en)) h
  exact ⟨.ref p, hs, .inl ⟨rfl, vs, SqL.of hpl⟩, p, vs, rfl, rfl, hpl, hk [] B O _ σ D (mk [] .nil) P PX hp nx bk ct rt xc⟩
/-- xs[i] = e -/
def setI {α : Type} (l : List α) (i : Int) (a : α) : M (List α) := fun P _ => ∃ j, ixN l.length i = some j ∧ P (l.set j a)
theorem rb_setI {te ti : TE} {en : α → D} {w : M α} {wi : M Int} {u : TS} {l : List α} {k : List α → M R} (i : Nat) (he : RE K EX ρ te en w) (hi : RE K EX ρ ti D.int wi) (hk : ∀ l', RB K EX F (ρ.set i (.ow (.lst (l'.map en)))) u (k l')) (h : ρ[i]? = some (.ow (.lst (l.map en))) := by rfl) (hx : LeX F.ρx ρ := by first | exact lex_nil | (refine lex_le ?_; repeat (first | exact le_nil | refine le_cons ?_ | refine le_no ?_))) :
    RB K EX F ρ (tSeq (tAsg te (gSub (tVar i) ti rSetL)) u) (w >>= fun a => wi >>= fun j => setI l j a >>= k) := fun B O H σ D E P PX hp nx bk ct rt xc => by
  refine he B O H σ E _ PX _ hp (fun a v H1 p1 e1 r1 => ?_) fun x cls d H' px e k => xc ρ O σ x cls d H' (E.ex e) hx px k
  have E1 := E.ex e1
  obtain ⟨p, vs, hs, hpl, r, mk⟩ := E1.mutL (ds' := (l.map en)) h
  refine ⟨.ref p, hs, hi B O H1 σ E1 _ PX _ p1 (fun j v2 H2 p2 e2 r2 => ?_) fun x cls d H' px e k => xc ρ O σ x cls d H' (E1.ex e) hx px k⟩
  cases r2
  have E2 := E1.ex e2
  obtain ⟨q, hq, p2⟩ := p2
  obtain ⟨p', vs', hs', hpl', r', mk'⟩ := E2.mutL (ds' := ((l.set q a).map en)) h
  rw [hs] at hs'
  cases hs'
  have hl := r'.length
  rw [List.length_map] at hl
  refine ⟨p, vs', j, q, rfl, rfl, hpl', by rw [hl]; exact hq, hk _ B O _ σ D (mk' _ ?_) P PX p2 nx bk ct rt xc⟩
  rw [List.map_set]
  exact r'.set q (Rep.ex r1 e2)
/-- xs.pop() as a statement, or kept in a name -/
def popL {α : Type} (l : List α) : M (List α × α) := fun P _ => ∃ x, l[l.length - 1]? = some x ∧ P (l.dropLast, x)
theorem RepL.dl {vs : List V} {ds : List D} (r : RepL K O H vs ds) : RepL K O H vs.dropLast ds.dropLast := by
  rw [List.dropLast_eq_take, List.dropLast_eq_take, r.length]
  exact r.take _
theorem rb_pop {en : α → D} {u : TS} {l : List α} {k : List α → M R} (i : Nat) (hk : ∀ l', RB K EX F (ρ.set i (.ow (.lst (l'.map en)))) u (k l')) (h : ρ[i]? = some (.ow (.lst (l.map en))) := by rfl) :
    RB K EX F ρ (tSeq (tDrop (tBM0 K "list" rPop (tVar i))) u) (popL l >>= fun p => k p.1) := fun B O H σ D E P PX hp nx bk ct rt xc => by
  obtain ⟨x, hx, hp⟩ := hp
  obtain ⟨p, vs, hs, hpl, r, mk⟩ := E.mutL (ds' := (l.dropLast.map en)) h
  have hl := r.length
  rw [List.length_map] at hl
  obtain ⟨v, hv, rv⟩ := r.get (get_map hx)
  refine ⟨.ref p, hs, .inl ⟨rfl, vs, SqL.of hpl⟩, p, vs, v, rfl, rfl, hpl, by rw [hl]; exact hv, hk _ B O _ σ D (mk _ ?_) P PX hp nx bk ct rt xc⟩
  rw [List.map_dropLast]
  exact r.dl
theorem rb_setPop {en : α → D} {u : TS} {l : List α} {k : List α → α → M R} (i j : Nat) (hij : j ≠ i) (hk : ∀ l' x, RB K EX F ((ρ.set i (.ow (.lst (l'.map en)))).set j (.sh (en x))) u (k l' x)) (h : ρ[i]? = some (.ow (.lst (l.map en))) := by rfl) :
    RB K EX F ρ (tSeq (tAsg (tBM0 K "list" rPop (tVar i)) (gName j)) u) (popL l >>= fun p => k p.1 p.2) := fun B O H σ D E P PX hp nx bk ct rt xc => by
  obtain ⟨x, hx, hp⟩ := hp
  obtain ⟨p, vs, hs, hpl, r, mk⟩ := E.mutL (ds' := (l.dropLast.map en)) h
  have hl := r.length
  rw [List.length_map] at hl
  obtain ⟨v, hv, rv⟩ := r.get (get_map hx)
  have E' := mk vs.dropLast (by rw [List.map_dropLast]; exact r.dl)
  refine ⟨.ref p, hs, .inl ⟨rfl, vs, SqL.of hpl⟩, p, vs, v, rfl, rfl, hpl, by rw [hl]; exact hv, hk _ _ B O _ _ D (E'.set j (Rep.ext (A := fun b => b = p) rv ?_ ?_)) P PX hp nx bk ct rt xc⟩
  · refine ⟨fun b o n _ h => by rw [upd_ne n]; exact h, fun b ⟨n, s, t, h⟩ => ⟨n, s, t, ?_⟩⟩
    rw [upd_ne]
    · exact h
    · intro z; rw [z, hpl] at h; cases h
  · intro b z
    obtain ⟨p', hp', o, _⟩ := ow_p E h
    rw [hs] at hp'
    cases hp'
    rw [z]; exact o
/-- a, b = e -/
theorem rb_unp {te : TE} {g : TG} {en : α → D} {w : M α} {u : TS} {k : α → M R} {ft : α → List Sl → List Sl} {vs : List Nat} (he : RE K EX ρ te en w) (hg : RTg K g en ft vs) (hk : ∀ a, RB K EX F (ft a ρ) u (k a)) (hx : LeX F.ρx ρ := by first | exact lex_nil | (refine lex_le ?_; repeat (first | exact le_nil | refine le_cons ?_ | refine le_no ?_))) : RB K EX F ρ (tSeq (tAsg te g) u) (w >>= k) := fun B O H σ D E P PX hp nx bk ct rt xc =>
  he B O H σ E _ PX _ hp (fun a v H1 p1 e1 r1 => hg.run B O H1 σ ρ a v _ (E.ex e1) r1 fun σ' E' _ => hk a B O H1 σ' D E' P PX p1 nx bk ct rt xc) fun x cls d H' px e k => xc ρ O σ x cls d H' (E.ex e) hx px k
theorem rb_augI {g : Int → Int → Int} {te : TE} {w : M Int} {u : TS} {x : Int} {k : Int → M R} (i : Nat) (he : RE K EX ρ te D.int w) (hk : ∀ a, RB K EX F (ρ.set i (.sh (.int a))) u (k a)) (h : ρ[i]? = some (.sh (.int x)) := by rfl) (hx : LeX F.ρx ρ := by first | exact lex_nil | (refine lex_le ?_; repeat (first | exact le_nil | refine le_cons ?_ | refine le_no ?_))) : RB K EX F ρ (tSeq (tAug i te (ipI g)) u) (w >>= fun y => k (g x y)) := fun B O H σ D E P PX hp nx bk ct rt xc => by
  obtain ⟨v, hv, r⟩ := E.at_ i _ h
  cases r
  exact ⟨_, hv, he B O H σ E _ PX _ hp (fun a v H1 p1 e1 r1 => by cases r1; exact ⟨x, a, rfl, rfl, hk _ B O H1 _ D ((E.ex e1).set i (.int _)) P PX p1 nx bk ct rt xc⟩) fun x cls d H' px e k => xc ρ O σ x cls d H' (E.ex e) hx px k⟩
/-- an own list is changed no more -/
theorem rb_frz {d : D} {t : TS} {p : M R} (i : Nat) (hk : RB K EX F (ρ.set i (.sh d)) t p) (h : ρ[i]? = some (.ow d) := by rfl) : RB K EX F ρ t p := fun B O H σ D E P PX hp nx bk ct rt xc => by
  obtain ⟨O', _, E'⟩ := E.frz h
  exact hk B O' H σ D E' P PX hp nx bk ct rt xc
theorem rb_frzD {d : OT} {t : TS} {p : M R} (i : Nat) (hk : RB K EX F (ρ.set i (.sh d.d)) t p) (h : ρ[i]? = some (.od d) := by rfl) : RB K EX F ρ t p := fun B O H σ D E P PX hp nx bk ct rt xc => by
  obtain ⟨O', _, E'⟩ := E.frzD h
  exact hk B O' H σ D E' P PX hp nx bk ct rt xc
/-! return -/
theorem rb_ret {te : TE} {en : F.RR → D} {w : M F.RR} {u : TS} (hr : F.rr = resE K en) (he : RE K EX ρ te en w) (hx : LeX F.ρx ρ := by first | exact lex_nil | (refine lex_le ?_; repeat (first | exact le_nil | refine le_cons ?_ | refine le_no ?_))) : RB K EX F ρ (tSeq (tRet te) u) (w >>= F.kr) := fun B O H σ D E P PX hp nx bk ct rt xc =>
  he B O H σ E _ PX _ hp (fun a v H1 p1 e1 r1 => rt a v H1 (E.ex e1).ext (by rw [hr]; exact Rep.mono r1 E.sub) p1) fun x cls d H' px e k => xc ρ O σ x cls d H' (E.ex e) hx px k
end
end Va

namespace Va
open PySem PySem.Spec PyProof.Rows L2 Bg
section
variable {K : PySem.W.Frag} {EX : L2.St → XK} {ρ : List Sl} {α β γ R : Type} {F : Fr R}
/-! return -/
/-- a new list is returned as a new one -/
theorem rb_retF {te : TE} {en : α → D} {w : M (List α)} {u : TS} {nx bk ct : EndS R} {kr : List α → M R} {ρx : List Sl} (he : RF K EX ρ te en w) (hx : LeX ρx ρ := by first | exact lex_nil | (refine lex_le ?_; repeat (first | exact le_nil | refine le_cons ?_ | refine le_no ?_))) : RB K EX ⟨nx, bk, ct, List α, resF K en, kr, ρx⟩ ρ (tSeq (tRet te) u) (w >>= kr) := fun B O H σ D E P PX hp nx bk ct rt xc =>
  he B O H σ E _ PX _ hp (fun a v H1 p1 e1 r1 => rt a v H1 (E.ex e1).ext (by
    obtain ⟨p, vs, e, n, h, r⟩ := r1
    exact ⟨p, vs, e, E.bfree n, h, r.mono fun b z => z.imp (E.sub b) id⟩) p1) fun x cls d H' px e k => xc ρ O σ x cls d H' (E.ex e) hx px k
theorem rb_retE {te : TE} {en : α → D} {w : M α} {u : TS} {nx bk ct : EndS R} {kr : α → M R} {ρx : List Sl} (he : RE K EX ρ te en w) (hx : LeX ρx ρ := by first | exact lex_nil | (refine lex_le ?_; repeat (first | exact le_nil | refine le_cons ?_ | refine le_no ?_))) : RB K EX ⟨nx, bk, ct, α, resE K en, kr, ρx⟩ ρ (tSeq (tRet te) u) (w >>= kr) := fun B O H σ D E P PX hp nx bk ct rt xc =>
  he B O H σ E _ PX _ hp (fun a v H1 p1 e1 r1 => rt a v H1 (E.ex e1).ext (Rep.mono r1 E.sub) p1) fun x cls d H' px e k => xc ρ O σ x cls d H' (E.ex e) hx px k
/-- an own list is returned -/
theorem rb_retOF {en : α → D} {l : List α} {u : TS} {nx bk ct : EndS R} {kr : List α → M R} {ρx : List Sl} (i : Nat) (h : ρ[i]? = some (.ow (.lst (l.map en))) := by rfl) : RB K EX ⟨nx, bk, ct, List α, resF K en, kr, ρx⟩ ρ (tSeq (tRet (tVar i)) u) (kr l) := fun B O H σ D E P PX hp nx bk ct rt xc => by
  obtain ⟨p, vs, hv, o, hF, _, hpl, r⟩ := E.at_ i _ h
  exact ⟨.ref p, hv, rt l _ H E.ext ⟨p, vs, rfl, hF, hpl, r.mono fun b z => z.elim (E.sub b) fun e => e ▸ o⟩ hp⟩
theorem rb_retOE {en : α → D} {l : List α} {u : TS} {nx bk ct : EndS R} {kr : List α → M R} {ρx : List Sl} (i : Nat) (h : ρ[i]? = some (.ow (.lst (l.map en))) := by rfl) : RB K EX ⟨nx, bk, ct, List α, resE K (eL en), kr, ρx⟩ ρ (tSeq (tRet (tVar i)) u) (kr l) := fun B O H σ D E P PX hp nx bk ct rt xc => by
  obtain ⟨p, vs, hv, o, hF, _, hpl, r⟩ := E.at_ i _ h
  exact ⟨.ref p, hv, rt l _ H E.ext (.lst (fun z => E.bdom p z hF) hpl (r.mono E.sub)) hp⟩
/-! if -/
/-- at most one way goes on, or both go on and the rest stands in both -/
theorem rb_if {tc : TT} {t1 t2 u : TS} {wc : M Bool} {p1 p2 : M R} {S : Type} {ρj : S → List Sl} {k : S → M R} (hc : RT K EX ρ tc wc) (h1 : RB K EX { F with nx := ⟨S, ρj, k⟩ } ρ t1 p1) (h2 : RB K EX { F with nx := ⟨S, ρj, k⟩ } ρ t2 p2) (hk : ∀ s, RB K EX F (ρj s) u (k s)) (hx : LeX F.ρx ρ := by first | exact lex_nil | (refine lex_le ?_; repeat (first | exact le_nil | refine le_cons ?_ | refine le_no ?_))) :
    RB K EX F ρ (tSeq (tIfS tc t1 t2) u) (wc >>= fun b => cond b p1 p2) := fun B O H σ D E P PX hp nx bk ct rt xc =>
  hc B O H σ E _ PX _ hp (fun b H1 p e => by
    have go : ∀ s O' H' σ', En K B O' H' σ' (ρj s) → k s P PX → u D σ' H' := fun s O' H' σ' E' q => hk s B O' H' σ' D E' P PX q nx bk ct rt xc
    cases b with
    | true => exact iteT (h1 B O H1 σ { D with nx := u D } (E.ex e) P PX p go bk ct rt xc)
    | false => exact iteF (h2 B O H1 σ { D with nx := u D } (E.ex e) P PX p go bk ct rt xc)) fun x cls d H' px e k => xc ρ O σ x cls d H' (E.ex e) hx px k
/-- a block that only goes on -/
def frS (S : Type) (ρj : S → List Sl) (ρx : List Sl) : Fr S := ⟨⟨S, ρj, fun s => pure s⟩, ⟨Empty, fun _ => [], fun e => e.elim⟩, ⟨Empty, fun _ => [], fun e => e.elim⟩, Empty, fun _ _ _ _ e => e.elim, fun e => e.elim, ρx⟩
/-- a loop's block that only goes on -/
def frC (S : Type) (ρj : S → List Sl) (ρx : List Sl) : Fr S := ⟨⟨S, ρj, fun s => pure s⟩, ⟨Empty, fun _ => [], fun e => e.elim⟩, ⟨S, ρj, fun s => pure s⟩, Empty, fun _ _ _ _ e => e.elim, fun e => e.elim, ρx⟩
/-- behind an if, both ways together -/
def joinM {S R : Type} (m : M S) (k : S → M R) : M R := m >>= k
/-- both ways go on -/
theorem rb_ifS {tc : TT} {t1 t2 u : TS} {wc : M Bool} {S : Type} {p1 p2 : M S} (ρj : S → List Sl) {k : S → M R} (hc : RT K EX ρ tc wc) (h1 : RB K EX (frS S ρj F.ρx) ρ t1 p1) (h2 : RB K EX (frS S ρj F.ρx) ρ t2 p2) (hk : ∀ s, RB K EX F (ρj s) u (k s)) (hx : LeX F.ρx ρ := by first | exact lex_nil | (refine lex_le ?_; repeat (first | exact le_nil | refine le_cons ?_ | refine le_no ?_))) :
    RB K EX F ρ (tSeq (tIfS tc t1 t2) u) (joinM (wc >>= fun b => cond b p1 p2) k) := fun B O H σ D E P PX hp nx bk ct rt xc =>
  hc B O H σ E _ PX _ hp (fun b H1 p e => by
    have go : ∀ s O' H' σ', En K B O' H' σ' (ρj s) → (fun s => k s P PX) s → u D σ' H' := fun s O' H' σ' E' q => hk s B O' H' σ' D E' P PX q nx bk ct rt xc
    cases b with
    | true => exact iteT (h1 B O H1 σ { D with nx := u D } (E.ex e) (fun s => k s P PX) PX p go (fun s => Empty.elim s) (fun s => Empty.elim s) (fun s => Empty.elim s) xc)
    | false => exact iteF (h2 B O H1 σ { D with nx := u D } (E.ex e) (fun s => k s P PX) PX p go (fun s => Empty.elim s) (fun s => Empty.elim s) (fun s => Empty.elim s) xc)) fun x cls d H' px e k => xc ρ O σ x cls d H' (E.ex e) hx px k
/-! for -/
def forL {α S R : Type} : List α → S → (α → S → M (Fl S R)) → M (Fl S R)
  | [], s, _ => pure (.nx s)
  | x :: l, s, f => f x s >>= fun r => match r with
    | .nx s' => forL l s' f
    | .bk s' => pure (.nx s')
    | .rt r => pure (.rt r)
def forS {α S : Type} : List α → S → (α → S → M S) → M S
  | [], s, _ => pure s
  | x :: l, s, f => f x s >>= fun s' => forS l s' f
def frL (F : Fr R) (S : Type) (ρl : S → List Sl) : Fr (Fl S F.RR) := ⟨⟨S, ρl, fun s => pure (.nx s)⟩, ⟨S, ρl, fun s => pure (.bk s)⟩, ⟨S, ρl, fun s => pure (.nx s)⟩, F.RR, F.rr, fun r => pure (.rt r), F.ρx⟩
/-- behind a loop -/
def aft {S RR R : Type} (k : S → M R) (kr : RR → M R) : Fl S RR → M R
  | .nx s => k s
  | .bk s => k s
  | .rt r => kr r
theorem rb_for {wi : TI} {g : TG} {tb u : TS} {en : α → D} {ft : α → List Sl → List Sl} {vs : List Nat} {wl : M (List α)} {S : Type} (ρl : S → List Sl) (s0 : S) {f : α → S → M (Fl S F.RR)} {k : S → M R} (hi : RI K EX ρ wi true en wl) (hg : RTg K g en ft vs) (h0 : Le (ρl s0) ρ)
    (hb : ∀ x s, RB K EX (frL F S ρl) (ft x (ρl s)) tb (f x s)) (hk : ∀ s, RB K EX F (ρl s) u (k s)) (hx : LeX F.ρx ρ := by first | exact lex_nil | (refine lex_le ?_; repeat (first | exact le_nil | refine le_cons ?_ | refine le_no ?_))) :
    RB K EX F ρ (tSeq (tFor wi g tb) u) (wl >>= fun l => forL l s0 f >>= aft k F.kr) := fun B O H σ D E P PX hp nx bk ct rt xc => by
  refine hi B O H σ E _ PX _ hp (fun l J H1 p e1 it => ?_) fun x cls d H' px e k => xc ρ O σ x cls d H' (E.ex e) hx px k
  have E1 := (E.ex e1).le h0
  have E1b := E1.reb
  generalize hB : Bs.at K B O H1 σ (ρl s0) = B' at E1b
  have un : ∀ {O' H' σ' ρ'}, En K B' O' H' σ' ρ' → En K B O' H' σ' ρ' := fun z => E1.unb (by rw [hB]; exact z)
  have hA : ∀ b, B'.A b → O b := fun b z => by
    rw [← hB] at z
    exact (E1.at_own z).1
  have hH : B'.H = H1 := by rw [← hB]; rfl
  have hPO : B'.P = O := by rw [← hB]; rfl
  have hO : B'.O = B.O := by rw [← hB]; rfl
  have hF : B'.F = B.F := by rw [← hB]; rfl
  refine ⟨fun i m σ' H' => i ≤ l.length ∧ m = l.length - i ∧ ∃ s O', En K B' O' H' σ' (ρl s) ∧ forL (l.drop i) s f (fun r => aft k F.kr r P PX) PX, ⟨l.length, Nat.zero_le _, rfl, s0, O, E1b, p⟩, ?_⟩
  rintro i m σ2 H2 ⟨hi2, rfl, s, O2, E2, p2⟩
  have e12 : Ext B'.A H1 H2 := hH ▸ E2.ext
  have e12' : Ext (Aof true O) H1 H2 := e12.wk fun b z => ⟨rfl, hA b z⟩
  obtain ⟨ig, is⟩ := it H2 e12'
  by_cases c : i < l.length
  · right
    obtain ⟨go, y⟩ := ig i l[i] (List.getElem?_eq_getElem c)
    refine ⟨go, fun σ' H' => i + 1 ≤ l.length ∧ ∃ s O', En K B' O' H' σ' (ρl s) ∧ forL (l.drop (i + 1)) s f (fun r => aft k F.kr r P PX) PX, fun σ' H' z => ⟨l.length - (i + 1), by omega, z.1, rfl, z.2⟩, fun v H3 hy => ?_⟩
    obtain ⟨e3, rv⟩ := y v H3 hy
    have E3 := E2.ex e3
    have rv := rv O2 (fun b z => by rw [← hPO, ← hH]; exact E2.osub b z) E2.dom
    rw [List.drop_eq_getElem_cons c] at p2
    refine hg.run B' O2 H3 σ2 (ρl s) l[i] v _ E3 rv fun σ' E' _ => ?_
    refine hb l[i] s B' O2 H3 σ' _ E' _ PX p2 (fun s' O' H' σ' E' q => ⟨c, s', O', E', q⟩) (fun s' O' H' σ' E' q => ?_) (fun s' O' H' σ' E' q => ⟨c, s', O', E', q⟩) (fun r v H' e q1 q2 => ?_) fun ρ' O' σ' x cls d H' E' l' px k => ?_
    · exact hk s' B O' H' σ' D (un E') P PX q nx bk ct rt xc
    · have e' : Ext (Bs.at K B O H1 σ (ρl s0)).A H1 H' := by rw [hB]; exact hH ▸ e
      exact rt r v H' (E1.extc e') (by rw [← hO, ← hF]; exact q1) q2
    · exact xc ρ' O' σ' x cls d H' (un E') l' px k
  · left
    have hi3 : i = l.length := by omega
    subst hi3
    rw [List.drop_length] at p2
    exact ⟨is, hk s B O2 H2 σ2 D (un E2) P PX p2 nx bk ct rt xc⟩
theorem rb_forS {wi : TI} {g : TG} {tb u : TS} {en : α → D} {ft : α → List Sl → List Sl} {vs : List Nat} {wl : M (List α)} {S : Type} (ρl : S → List Sl) (s0 : S) {f : α → S → M S} {k : S → M R} (hi : RI K EX ρ wi true en wl) (hg : RTg K g en ft vs) (h0 : Le (ρl s0) ρ)
    (hb : ∀ x s, RB K EX (frC S ρl F.ρx) (ft x (ρl s)) tb (f x s)) (hk : ∀ s, RB K EX F (ρl s) u (k s)) (hx : LeX F.ρx ρ := by first | exact lex_nil | (refine lex_le ?_; repeat (first | exact le_nil | refine le_cons ?_ | refine le_no ?_))) :
    RB K EX F ρ (tSeq (tFor wi g tb) u) (wl >>= fun l => forS l s0 f >>= k) := fun B O H σ D E P PX hp nx bk ct rt xc => by
  refine hi B O H σ E _ PX _ hp (fun l J H1 p e1 it => ?_) fun x cls d H' px e k => xc ρ O σ x cls d H' (E.ex e) hx px k
  have E1 := (E.ex e1).le h0
  have E1b := E1.reb
  generalize hB : Bs.at K B O H1 σ (ρl s0) = B' at E1b
  have un : ∀ {O' H' σ' ρ'}, En K B' O' H' σ' ρ' → En K B O' H' σ' ρ' := fun z => E1.unb (by rw [hB]; exact z)
  have hA : ∀ b, B'.A b → O b := fun b z => by
    rw [← hB] at z
    exact (E1.at_own z).1
  have hH : B'.H = H1 := by rw [← hB]; rfl
  have hPO : B'.P = O := by rw [← hB]; rfl
  refine ⟨fun i m σ' H' => i ≤ l.length ∧ m = l.length - i ∧ ∃ s O', En K B' O' H' σ' (ρl s) ∧ forS (l.drop i) s f (fun r => k r P PX) PX, ⟨l.length, Nat.zero_le _, rfl, s0, O, E1b, p⟩, ?_⟩
  rintro i m σ2 H2 ⟨hi2, rfl, s, O2, E2, p2⟩
  have e12 : Ext B'.A H1 H2 := hH ▸ E2.ext
  have e12' : Ext (Aof true O) H1 H2 := e12.wk fun b z => ⟨rfl, hA b z⟩
  obtain ⟨ig, is⟩ := it H2 e12'
  by_cases c : i < l.length
  · right
    obtain ⟨go, y⟩ := ig i l[i] (List.getElem?_eq_getElem c)
    refine ⟨go, fun σ' H' => i + 1 ≤ l.length ∧ ∃ s O', En K B' O' H' σ' (ρl s) ∧ forS (l.drop (i + 1)) s f (fun r => k r P PX) PX, fun σ' H' z => ⟨l.length - (i + 1), by omega, z.1, rfl, z.2⟩, fun v H3 hy => ?_⟩
    obtain ⟨e3, rv⟩ := y v H3 hy
    have E3 := E2.ex e3
    have rv := rv O2 (fun b z => by rw [← hPO, ← hH]; exact E2.osub b z) E2.dom
    rw [List.drop_eq_getElem_cons c] at p2
    refine hg.run B' O2 H3 σ2 (ρl s) l[i] v _ E3 rv fun σ' E' _ => ?_
    exact hb l[i] s B' O2 H3 σ' _ E' _ PX p2 (fun s' O' H' σ' E' q => ⟨c, s', O', E', q⟩) (fun s' => Empty.elim s') (fun s' O' H' σ' E' q => ⟨c, s', O', E', q⟩) (fun r => Empty.elim r) fun ρ' O' σ' x cls d H' E' l' px k => xc ρ' O' σ' x cls d H' (un E') l' px k
  · left
    have hi3 : i = l.length := by omega
    subst hi3
    rw [List.drop_length] at p2
    exact ⟨is, hk s B O2 H2 σ2 D (un E2) P PX p2 nx bk ct rt xc⟩
/-! while -/
def whL {S R : Type} (c : S → M Bool) (f : S → M (Fl S R)) (s0 : S) : M (Fl S R) := fun P PX => ∃ W : Nat → S → Prop, (∃ m, W m s0) ∧ ∀ m s, W m s → c s (fun b => cond b (f s (fun r => match r with
  | .nx s' => ∃ m', m' < m ∧ W m' s'
  | .bk s' => P (.nx s')
  | .rt r => P (.rt r)) PX) (P (.nx s))) PX
theorem rb_while {tc : TT} {tb u : TS} {S : Type} (ρl : S → List Sl) (s0 : S) {c : S → M Bool} {f : S → M (Fl S F.RR)} {k : S → M R} (h0 : Le (ρl s0) ρ) (hc : ∀ s, RT K EX (ρl s) tc (c s)) (hb : ∀ s, RB K EX (frL F S ρl) (ρl s) tb (f s)) (hk : ∀ s, RB K EX F (ρl s) u (k s)) (hx : ∀ s, LeX F.ρx (ρl s) := by exact fun _ => lex_nil) :
    RB K EX F ρ (tSeq (tWhile tc tb) u) (whL c f s0 >>= aft k F.kr) := fun B O H σ D E P PX hp nx bk ct rt xc => by
  obtain ⟨W, ⟨m0, w0⟩, turn⟩ := hp
  refine ⟨fun m σ' H' => ∃ s O', En K B O' H' σ' (ρl s) ∧ W m s, ⟨m0, s0, O, E.le h0, w0⟩, ?_⟩
  rintro m σ2 H2 ⟨s, O2, E2, w2⟩
  refine hc s B O2 H2 σ2 E2 _ PX _ (turn m s w2) (fun b H3 p3 e3 => ?_) fun x cls d H' px e k => xc (ρl s) O2 σ2 x cls d H' (E2.ex e) (hx s) px k
  have E3 := E2.ex e3
  cases b with
  | false => exact iteF (hk s B O2 H3 σ2 D E3 P PX p3 nx bk ct rt xc)
  | true =>
    refine iteT ⟨fun σ' H' => ∃ m', m' < m ∧ ∃ s O', En K B O' H' σ' (ρl s) ∧ W m' s, fun σ' H' z => z, ?_⟩
    refine hb s B O2 H3 σ2 _ E3 _ PX p3 (fun s' O' H' σ' E' ⟨m', hm, q⟩ => ⟨m', hm, s', O', E', q⟩) (fun s' O' H' σ' E' q => hk s' B O' H' σ' D E' P PX q nx bk ct rt xc) (fun s' O' H' σ' E' ⟨m', hm, q⟩ => ⟨m', hm, s', O', E', q⟩) (fun r v H' e q1 q2 => rt r v H' e q1 q2) xc
/-! a def -/
def fnFr {β : Type} (res : Res β) : Fr β := ⟨⟨Empty, fun _ => [], fun e => e.elim⟩, ⟨Empty, fun _ => [], fun e => e.elim⟩, ⟨Empty, fun _ => [], fun e => e.elim⟩, β, res, fun r => pure r, []⟩
/-- one that may end without a return -/
def fnFrN (K : PySem.W.Frag) (n : Nat) : Fr Unit := ⟨⟨Unit, fun _ => List.replicate n .no, fun _ => pure ()⟩, ⟨Empty, fun _ => [], fun e => e.elim⟩, ⟨Empty, fun _ => [], fun e => e.elim⟩, Unit, resE K eU, fun r => pure r, []⟩
theorem ArOk.slot {O : AP} {H : Hp} {B : Bs} {vs : List V} {ss : List Sl} (h : ArOk K O H vs ss) : ∀ (i : Nat) (s : Sl), ss[i]? = some s → SlOk K B O H ((vs.map some)[i]?) s ∧ ∀ H x as, ¬ Own K H x s as := by
  induction h with
  | nil => intro i s h; cases h
  | sh r _ ih =>
    intro i s h
    cases i with
    | zero => cases h; exact ⟨⟨_, rfl, r⟩, fun _ _ _ z => z⟩
    | succ i => exact ih i s h
  | src o s' _ ih =>
    intro i s h
    cases i with
    | zero => cases h; exact ⟨⟨_, rfl, o, s'⟩, fun _ _ _ z => z⟩
    | succ i => exact ih i s h
  | scr e _ ih =>
    intro i s h
    cases i with
    | zero => cases h; exact ⟨⟨_, rfl, e⟩, fun _ _ _ z => z⟩
    | succ i => exact ih i s h
theorem ArOk.length {O : AP} {H : Hp} {vs : List V} {ss : List Sl} (h : ArOk K O H vs ss) : vs.length = ss.length := by
  induction h with
  | nil => rfl
  | sh _ _ ih => rw [List.length_cons, List.length_cons, ih]
  | src _ _ _ ih => rw [List.length_cons, List.length_cons, ih]
  | scr _ _ ih => rw [List.length_cons, List.length_cons, ih]
theorem En.start {O : AP} {H : Hp} {vs : List V} {ss : List Sl} {N : List Str} (h : ArOk K O H vs ss) (d : ∀ b, O b → H b ≠ none) (hl : ss.length ≤ N.length) : En K ⟨H, O, H, No, O, 0⟩ O H (L2.start N vs) (ss ++ List.replicate (N.length - ss.length) .no) := by
  have hlen := h.length
  have nn : ∀ (i : Nat) (s : Sl) (H' : Hp) (x : Option (Option V)) (as : List Addr), (ss ++ List.replicate (N.length - ss.length) Sl.no)[i]? = some s → ¬ Own K H' x s as := fun i s H' x as hi w => by
    by_cases c : i < ss.length
    · rw [List.getElem?_append_left c] at hi
      exact (h.slot (B := ⟨H, O, H, No, O, 0⟩) i _ hi).2 _ _ _ w
    · rw [List.getElem?_append_right (by omega)] at hi
      have := List.mem_of_getElem? hi
      rw [List.mem_replicate] at this
      rw [this.2] at w
      exact w
  refine ⟨fun b z => z, d, fun b z => .inl z, d, fun b z => z.elim, fun b z => z, .refl _ _, ?_, fun i s hi => ?_, fun i j s t as bs b h1 _ w => (nn i s _ _ as h1 w).elim⟩
  · simp [L2.start]; omega
  · by_cases c : i < ss.length
    · rw [List.getElem?_append_left c] at hi
      have := (h.slot (B := ⟨H, O, H, No, O, 0⟩) i _ hi).1
      unfold L2.start
      rw [List.getElem?_append_left (by simp; omega)]
      exact this
    · rw [List.getElem?_append_right (by omega)] at hi
      have := List.mem_of_getElem? hi
      rw [List.mem_replicate] at this
      rw [this.2]
      trivial
theorem fn_run {N : List Str} {vs : List V} {H : Hp} {Q : VK} {E : XK} {t : TS} {ar : α → List Sl} {res : Res β} {c p : α → M β} (h : spC K ar res c vs H Q E) (hl : ∀ a, (ar a).length ≤ N.length) (hb : ∀ a, RB K (fun _ => E) (fnFr res) (ar a ++ List.replicate (N.length - (ar a).length) .no) t (p a)) (hc : ∀ a P PX, c a P PX → p a P PX) :
    t { nx := fun _ H' => Q .non H', rt := Q } (L2.start N vs) H := by
  obtain ⟨O, a, P, PX, h1, h2, h3, h4, h5⟩ := h
  refine hb a ⟨H, O, H, No, O, 0⟩ O H _ _ (En.start h1 h2 (hl a)) P PX (hc a P PX h3) (fun s => Empty.elim s) (fun s => Empty.elim s) (fun s => Empty.elim s) (fun r v H' e q1 q2 => h4 r v H' q2 e q1) fun ρ' O' σ' x cls d H' E' _ px k => h5 x cls d H' px E'.ext (k.mono E'.sub)
theorem fn_runN {N : List Str} {vs : List V} {H : Hp} {Q : VK} {E : XK} {t : TS} {ar : α → List Sl} {c p : α → M Unit} (h : spC K ar (resE K eU) c vs H Q E) (hl : ∀ a, (ar a).length ≤ N.length) (hb : ∀ a, RB K (fun _ => E) (fnFrN K N.length) (ar a ++ List.replicate (N.length - (ar a).length) .no) t (p a)) (hc : ∀ a P PX, c a P PX → p a P PX) :
    t { nx := fun _ H' => Q .non H', rt := Q } (L2.start N vs) H := by
  obtain ⟨O, a, P, PX, h1, h2, h3, h4, h5⟩ := h
  refine hb a ⟨H, O, H, No, O, 0⟩ O H _ _ (En.start h1 h2 (hl a)) P PX (hc a P PX h3) (fun s O' H' σ' E' q => h4 () .non H' q E'.ext .non) (fun s => Empty.elim s) (fun s => Empty.elim s) (fun r v H' e q1 q2 => h4 r v H' q2 e q1) fun ρ' O' σ' x cls d H' E' _ px k => h5 x cls d H' px E'.ext (k.mono E'.sub)
theorem spC_len {vs : List V} {H : Hp} {Q : VK} {E : XK} {ar : α → List Sl} {res : Res β} {c : α → M β} {n : Nat} (h : spC K ar res c vs H Q E) (hl : ∀ a, (ar a).length = n) : vs.length = n := by
  obtain ⟨O, a, P, PX, h1, _⟩ := h
  rw [h1.length, hl a]
/-! ρ' knows no more: for written lists -/
theorem le_refl (ρ : List Sl) : Le ρ ρ := ⟨rfl, fun _ _ h => .inr h⟩
end
end Va

namespace Va
open PySem PySem.Spec PyProof.Rows L2 Bg
section
variable {K : PySem.W.Frag} {EX : L2.St → XK} {ρ : List Sl} {α β γ R : Type} {F : Fr R}
theorem re_tup1 {ta : TE} {e1 : α → D} {wa : M α} (ha : RE K EX ρ ta e1 wa) : RE K EX ρ (tTup (tCons ta tNil)) (eT1 e1) wa := fun B O H σ E P PX Q hw hq hx =>
  ha B O H σ E _ PX _ hw (fun a v H1 p1 e1 r1 => ⟨(by decide : 1 ≤ sizeLine), fun c n => hq a _ _ p1 (e1.trans (.new n)) (.tup (fun z => (E.ex e1).dom c z n) upd_same (.cons (Rep.ex r1 (.new n)) .nil))⟩) hx
theorem re_tup2 {ta tb : TE} {e1 : α → D} {e2 : β → D} {wa : M α} {wb : M β} (ha : RE K EX ρ ta e1 wa) (hb : RE K EX ρ tb e2 wb) : RE K EX ρ (tTup (tCons ta (tCons tb tNil))) (eT2 e1 e2) (wa >>= fun a => wb >>= fun b => pure (a, b)) := fun B O H σ E P PX Q hw hq hx =>
  ha B O H σ E _ PX _ hw (fun a v H1 p1 e1 r1 => hb B O H1 σ (E.ex e1) _ PX _ p1 (fun b u H2 p2 e2 r2 => ⟨(by decide : 2 ≤ sizeLine), fun c n => hq (a, b) _ _ p2 ((e1.trans e2).trans (.new n)) (.tup (fun z => (E.ex (e1.trans e2)).dom c z n) upd_same (.cons ((Rep.ex r1 e2).ex (.new n)) (.cons (Rep.ex r2 (.new n)) .nil)))⟩)
    fun x cls d H' px e k => hx x cls d H' px (e1.trans e) k) hx
theorem re_tup3 {ta tb tc : TE} {e1 : α → D} {e2 : β → D} {e3 : γ → D} {wa : M α} {wb : M β} {wc : M γ} (ha : RE K EX ρ ta e1 wa) (hb : RE K EX ρ tb e2 wb) (hc : RE K EX ρ tc e3 wc) : RE K EX ρ (tTup (tCons ta (tCons tb (tCons tc tNil)))) (eT3 e1 e2 e3) (wa >>= fun a => wb >>= fun b => wc >>= fun c => pure (a, b, c)) := fun B O H σ E P PX Q hw hq hx =>
  ha B O H σ E _ PX _ hw (fun a v H1 p1 e1 r1 => hb B O H1 σ (E.ex e1) _ PX _ p1 (fun b u H2 p2 e2 r2 => hc B O H2 σ (E.ex (e1.trans e2)) _ PX _ p2 (fun c t H3 p3 e3 r3 => ⟨(by decide : 3 ≤ sizeLine), fun q n => hq (a, b, c) _ _ p3 (((e1.trans e2).trans e3).trans (.new n)) (.tup (fun z => (E.ex ((e1.trans e2).trans e3)).dom q z n) upd_same (.cons (((Rep.ex r1 e2).ex e3).ex (.new n)) (.cons ((Rep.ex r2 e3).ex (.new n)) (.cons (Rep.ex r3 (.new n)) .nil))))⟩)
    fun x cls d H' px e k => hx x cls d H' px ((e1.trans e2).trans e) k) fun x cls d H' px e k => hx x cls d H' px (e1.trans e) k) hx
/-- t[:n] of a tuple by its known shape -/
theorem re_slT {te : TE} {en : α → D} {en' : β → D} {w : M α} (g : α → β) (ds : α → List D) (n : Nat) (h : ∀ a, en a = .tup (ds a)) (h' : ∀ a, en' (g a) = .tup ((ds a).take n)) (hn : (0 : Int) ≤ (n : Int)) (hl : ∀ a, n < (ds a).length) (ha : RE K EX ρ te en w) : RE K EX ρ (tSl (rSlT K) te tNoPart (tPart (tC (.int n)))) en' (w >>= fun a => pure (g a)) := fun B O H σ E P PX Q hw hq hx =>
  ha B O H σ E _ PX _ hw (fun a v H1 p1 e1 r1 => by
    have r1 : Rep K O H1 v (.tup (ds a)) := h a ▸ r1
    cases r1 with
    | @tup b vs _ nb hh r =>
      have hvl : vs.length = (ds a).length := r.length
      have h0 : HT.sIx vs.length 0 none = 0 := rfl
      have h1 : HT.sIx vs.length vs.length (some (n : Int)) = n := by
        unfold HT.sIx
        have := hl a
        have c : ¬ (n : Int) < 0 := by omega
        simp [c]
        omega
      refine ⟨n, rfl, b, vs, rfl, .inl (.inl hh), fun z => ?_, fun c nc => hq (g a) _ _ p1 (e1.trans (.new nc)) ?_⟩
      · rw [h1] at z
        have := hl a
        omega
      · show Rep K O _ _ (en' (g a))
        rw [h' a]
        have e : cutV vs none (some (n : Int)) = vs.take n := by
          unfold cutV
          rw [h0, h1]
          simp
        rw [e]
        exact .tup (fun z => (E.ex e1).dom c z nc) upd_same ((r.take n).ex (.new nc))) hx
theorem rt_yes : RT K EX ρ tYes (pure true) := fun B O H σ E P PX Q hw hq _ => hq true H hw (.refl _ _)
/-- a list of a narrower kind -/
theorem RG.lm {t : TE} {en : α → D} {en' : β → D} {w : M (List α)} (f : α → β) (h : RG K EX ρ t (resL K en) w) (hf : ∀ a, en' (f a) = en a) : RG K EX ρ t (resL K en') (w >>= fun l => pure (l.map f)) := fun B O H σ E P PX Q hw hq hx =>
  h B O H σ E _ PX Q hw (fun l v H1 p e r => hq (l.map f) v H1 p e (by
    obtain ⟨q, vs, e1, h1, r⟩ := r
    refine ⟨q, vs, e1, h1, ?_⟩
    rw [List.map_map, show (en' ∘ f) = en from funext hf]
    exact r)) hx
/-! list(range(..)) -/
def lrg (i j : Int) : M (List Int) := fun P _ => RgOk i j ∧ P (rng i (j - i).toNat)
theorem rgV_rep {O : AP} {H : Hp} (i j : Int) : RepL K O H (rgV i j) ((rng i (j - i).toNat).map D.int) := by
  have : rgV i j = (rng i (j - i).toNat).map V.int := by
    unfold rgV rng
    rw [List.map_map]
    rfl
  rw [this]
  exact repl_int _
theorem rf_listRg1 {te : TE} {w : M Int} (h : RE K EX ρ te D.int w) : RF K EX ρ (tLstRg (tRg1 te)) D.int (w >>= fun j => lrg 0 j) := fun B O H σ E P PX Q hw hq hx =>
  h B O H σ E _ PX _ hw (fun j v H1 p e r => by
    cases r
    exact ⟨j, rfl, p.1, fun c n => hq _ _ _ p.2 (e.trans (.new n)) (Lasts.base (res := resF K D.int) (FrV.new n (rgV_rep 0 j)) e)⟩) hx
theorem rf_listRg2 {te tf : TE} {w w' : M Int} (h : RE K EX ρ te D.int w) (h' : RE K EX ρ tf D.int w') : RF K EX ρ (tLstRg (tRg2 te tf)) D.int (w >>= fun i => w' >>= fun j => lrg i j) := fun B O H σ E P PX Q hw hq hx =>
  h B O H σ E _ PX _ hw (fun i v H1 p e r => by
    cases r
    refine h' B O H1 σ (E.ex e) _ PX _ p (fun j v' H2 p2 e2 r2 => ?_) fun x cls d H' px e' k => hx x cls d H' px (e.trans e') k
    cases r2
    exact ⟨i, j, rfl, rfl, p2.1, fun c n => hq _ _ _ p2.2 ((e.trans e2).trans (.new n)) (Lasts.base (res := resF K D.int) (FrV.new n (rgV_rep i j)) (e.trans e2))⟩) hx
theorem ri_revR1 {lp : Bool} {te : TE} {w : M Int} (h : RE K EX ρ te D.int w) : RI K EX ρ (iRevR (tRg1 te)) lp D.int (w >>= fun j => revR 0 j) := fun B O H σ E P PX R hw hq hx =>
  h B O H σ E _ PX _ hw (fun j v H1 p e r => by
    cases r
    obtain ⟨p1, p2, p3, p4, p⟩ := p
    exact ⟨j, rfl, p1, p2, p3, p4, hq _ _ _ p e (itc_ok _ _ _)⟩) hx
theorem ri_revR2 {lp : Bool} {te tf : TE} {w w' : M Int} (h : RE K EX ρ te D.int w) (h' : RE K EX ρ tf D.int w') : RI K EX ρ (iRevR (tRg2 te tf)) lp D.int (w >>= fun i => w' >>= fun j => revR i j) := fun B O H σ E P PX R hw hq hx =>
  h B O H σ E _ PX _ hw (fun i v H1 p e r => by
    cases r
    refine h' B O H1 σ (E.ex e) _ PX _ p (fun j v' H2 p2 e2 r2 => ?_) fun x cls d H' px e' k => hx x cls d H' px (e.trans e') k
    cases r2
    obtain ⟨p1, p2, p3, p4, p⟩ := p2
    exact ⟨i, j, rfl, rfl, p1, p2, p3, p4, hq _ _ _ p (e.trans e2) (itc_ok _ _ _)⟩) hx
/-! isinstance -/
def tyD : D → Option String
  | .non => some "NoneType" | .bl _ => some "bool" | .int _ => some "int" | .str _ => some "str" | .lst _ => some "list" | .tup _ => some "tuple" | .dct _ => some "dict" | .dcp _ => none | .obj _ _ => none
theorem Rep.tyx {O : AP} {H : Hp} {v : V} {d : D} {t : String} (r : Rep K O H v d) (h : tyD d = some t) : TyX K H v (.type t) := by
  cases r <;> cases h
  · exact .base .non
  · exact .base (.bl _)
  · exact .base (.int _)
  · exact .base (.str _)
  · exact .base (.lst (by assumption))
  · exact .base (.tup (by assumption))
  · rename_i h _ _ _; rcases h with h | ⟨o, h⟩; exact .base (.dK h); exact .fDict h
def isD (T : String) (d : D) : Bool := tyD d == some T || (T == "int" && tyD d == some "bool")
/-- isinstance(x, T) of data -/
def isiM (T : String) (d : D) : M Bool := fun P _ => tyD d ≠ none ∧ P (isD T d)
def kits : List String := ["NoneType", "bool", "int", "str", "list", "tuple", "dict"]
def kitsOk (T : String) : Bool := kits.all fun t => kitB t T == some (t == T || (T == "int" && t == "bool"))
theorem re_isi {ta : TE} {en : α → D} {wa : M α} (T : String) (hT : kitsOk T = true) (ha : RE K EX ρ ta en wa) : RE K EX ρ (tCB (rIsi K) (tCons ta (tCons (tC (.ty T)) tNil))) D.bl (wa >>= fun a => isiM T (en a)) := fun B O H σ E P PX Q hw hq hx =>
  ha B O H σ E _ PX _ hw (fun a v H1 p e r => by
    obtain ⟨h1, p⟩ := p
    cases ht : tyD (en a) with
    | none => exact absurd ht h1
    | some t =>
      have hk : t ∈ kits := by
        cases hd : en a <;> rw [hd] at ht <;> cases ht <;> decide
      have hb := List.all_eq_true.mp hT t hk
      refine ⟨v, .ty T, .type t, .type T, _, rfl, .ty T, Rep.tyx r ht, kit_ty (eq_of_beq hb), ?_⟩
      have : isD T (en a) = (t == T || (T == "int" && t == "bool")) := by
        unfold isD
        rw [ht]
        simp
      rw [← this]
      exact hq _ _ _ p e (.bl _)) hx
theorem re_isiQ {ta : TE} {en : α → D} {wa : M (List α)} {T : String} (hT : kitsOk T = true) (ha : RQ K EX ρ ta en wa) : RE K EX ρ (tCB (rIsi K) (tCons ta (tCons (tC (.ty T)) tNil))) D.bl (wa >>= fun _ => pure (T == "list")) := fun B O H σ E P PX Q hw hq hx =>
  ha B O H σ E _ PX _ hw (fun a v H1 p e r => by
    obtain ⟨l, vs, rfl, hl, r⟩ := r
    have hb := List.all_eq_true.mp hT "list" (by decide)
    have ht : TyX K H1 (.ref l) (.type "list") := by
      rcases hl with (h | ⟨o, h⟩) | ⟨o, _, _, h, hc, _⟩
      · exact .base (.lst h)
      · exact .base (.frz h)
      · exact .kList h hc
    refine ⟨_, .ty T, .type "list", .type T, _, rfl, .ty T, ht, kit_ty (eq_of_beq hb), ?_⟩
    have : (("list" == T) || (T == "int" && "list" == "bool")) = (T == "list") := by
      rw [show (("list" : String) == "bool") = false from rfl, Bool.and_false, Bool.or_false]
      exact Bool.beq_comm
    rw [this]
    exact hq _ _ _ p e (.bl _)) hx
/-! texts -/
theorem re_join {ta tb : TE} {wa : M Str} {wb : M (List Str)} (ha : RE K EX ρ ta D.str wa) (hb : RQ K EX ρ tb D.str wb) : RE K EX ρ (tM1 (fun x xs H Q => ∃ a p, ∃ ys : List Str, x = .str a ∧ xs = [.ref p] ∧ (SqL K H p (ys.map V.str) ∨ SqT K H p (ys.map V.str)) ∧ (ys.map (·.length)).sum + ys.length * a.length ≤ 16777216 ∧ Q (.str (Txt.join a ys)) H) ta tb) D.str
    (wa >>= fun a => wb >>= fun ys => (need ((ys.map (·.length)).sum + ys.length * a.length ≤ 16777216) >>= fun _ => pure (Txt.join a ys))) := fun B O H σ E P PX Q hw hq hx =>
  ha B O H σ E _ PX _ hw (fun a v H1 p1 e1 r1 => by
    cases r1
    refine ⟨⟨a, rfl⟩, hb B O H1 σ (E.ex e1) _ PX _ p1 (fun ys v2 H2 p2 e2 r2 => ?_) fun x cls d H' px e k => hx x cls d H' px (e1.trans e) k⟩
    obtain ⟨l, vs, rfl, hl, r⟩ := r2
    have e : vs = ys.map V.str := by
      clear p2 hl hq hw p1
      induction ys generalizing vs with
      | nil => cases r; rfl
      | cons x b ih =>
        cases r with
        | cons r t => rw [List.map_cons, ← ih _ t]; cases r; rfl
    exact ⟨a, l, ys, rfl, rfl, .inl (by rw [← e]; exact hl), p2.1, hq _ _ _ p2.2 (e1.trans e2) (.str _)⟩) hx
theorem re_ninC {ta tb : TE} {wa wb : M Str} (ha : RE K EX ρ ta D.str wa) (hb : RE K EX ρ tb D.str wb) : RE K EX ρ (tOp (fun x y H Q => ∃ (c : Nat) (z : Str), x = .str ⟨#[c]⟩ ∧ y = .str z ∧ Q (.bl (!decide (c ∈ z.cps.toList))) H) ta tb) D.bl (wa >>= fun a => wb >>= fun b => (fun P _ => ∃ c : Nat, a = ⟨#[c]⟩ ∧ P (!decide (c ∈ b.cps.toList)))) :=
  rg_op (fun O H0 H x y a b P PX Q _ r1 r2 p q => by
    cases r1; cases r2
    obtain ⟨c, rfl, p⟩ := p
    exact ⟨c, b, rfl, rfl, q _ _ _ p (.refl _ _) (.bl _)⟩) ha hb
/-- a list of the text's top, of texts -/
theorem rq_glob {a : Addr} {zs : List Str} (h : ∀ H, SqL K H a (zs.map V.str)) : RQ K EX ρ (tC (.ref a)) D.str (pure zs) := fun B O H σ E P PX Q hw hq _ => hq zs _ H hw (.refl _ _) ⟨a, _, rfl, h H, by
  clear h hw hq
  induction zs with
  | nil => exact .nil
  | cons z zs ih => exact .cons (.str z) ih⟩
theorem re_sum {te : TE} {w : M (List Int)} (h : RQ K EX ρ te D.int w) : RE K EX ρ (tCB (rSum K) (tCons te tNil)) D.int (w >>= fun l => pure l.sum) :=
  rg_cb1 h fun O H0 H v a P PX Q _ r p q => by
    obtain ⟨l, vs, rfl, hl, r⟩ := r
    have e : vs = a.map V.int := by
      clear p hl q
      induction a generalizing vs with
      | nil => cases r; rfl
      | cons x b ih =>
        cases r with
        | cons r t => rw [List.map_cons, ← ih _ t]; cases r; rfl
    exact ⟨l, a, rfl, by rw [← e]; exact hl, q _ _ _ p (.refl _ _) (.int _)⟩
theorem rop_eqI : ROp K rEq (resE K D.int) (resE K D.int) (resE K D.bl) (fun a b => pure (decide (a = b))) := fun O H0 H x y a b P PX Q _ r1 r2 p q => by
  cases r1; cases r2
  refine ⟨rfl, ?_⟩
  have : decide (V.int a = V.int b) = decide (a = b) := by
    by_cases c : a = b
    · rw [decide_eq_true c, decide_eq_true (by rw [c])]
    · rw [decide_eq_false c, decide_eq_false (fun z => by injection z with z; exact c z)]
  rw [this]
  exact q _ _ _ p (.refl _ _) (.bl _)
theorem re_isB {ta tb : TE} {wa wb : M Bool} (ha : RE K EX ρ ta D.bl wa) (hb : RE K EX ρ tb D.bl wb) : RE K EX ρ (tOp rIsB ta tb) D.bl (wa >>= fun a => wb >>= fun b => pure (decide (a = b))) :=
  rg_op (fun O H0 H x y a b P PX Q _ r1 r2 p q => by cases r1; cases r2; exact ⟨a, b, rfl, rfl, q _ _ _ p (.refl _ _) (.bl _)⟩) ha hb
theorem re_notB {ta tb : TE} {wa wb : M Bool} (ha : RE K EX ρ ta D.bl wa) (hb : RE K EX ρ tb D.bl wb) : RE K EX ρ (tOp rNotB ta tb) D.bl (wa >>= fun a => wb >>= fun b => pure (!decide (a = b))) :=
  rg_op (fun O H0 H x y a b P PX Q _ r1 r2 p q => by cases r1; cases r2; exact ⟨a, b, rfl, rfl, q _ _ _ p (.refl _ _) (.bl _)⟩) ha hb
/-! targets of three -/
theorem wipe_get (vs : List Nat) (τ : L2.St) (i : Nat) : (L2.wipe τ vs)[i]? = if i ∈ vs then (τ[i]?).map (fun _ => none) else τ[i]? := by
  induction vs with
  | nil => simp [L2.wipe]
  | cons v vs ih =>
    show ((L2.wipe τ vs).set v none)[i]? = _
    rw [List.getElem?_set]
    by_cases c : v = i
    · subst c
      rw [if_pos rfl, wipe_length]
      by_cases d : v < τ.length
      · rw [if_pos d, if_pos (List.mem_cons_self ..), List.getElem?_eq_getElem d]; rfl
      · rw [if_neg d, if_pos (List.mem_cons_self ..), List.getElem?_eq_none (by omega)]; rfl
    · rw [if_neg c, ih]
      by_cases m : i ∈ vs
      · rw [if_pos m, if_pos (List.mem_cons_of_mem _ m)]
      · rw [if_neg m, if_neg (fun z => (List.mem_cons.mp z).elim (fun e => c e.symm) m)]
theorem wipe_set {σ : L2.St} {i : Nat} {v : Option V} {vs : List Nat} (h : i ∈ vs) : L2.wipe (σ.set i v) vs = L2.wipe σ vs := by
  apply List.ext_getElem?
  intro j
  rw [wipe_get, wipe_get]
  by_cases m : j ∈ vs
  · rw [if_pos m, if_pos m, List.getElem?_set]
    by_cases c : i = j
    · subst c
      rw [if_pos rfl]
      by_cases d : i < σ.length
      · rw [if_pos d, List.getElem?_eq_getElem d]; rfl
      · rw [if_neg d, List.getElem?_eq_none (by omega)]
    · rw [if_neg c]
  · rw [if_neg m, if_neg m, List.getElem?_set, if_neg (fun (e : i = j) => m (e ▸ h))]
theorem tg_tri {e1 : α → D} {e2 : β → D} {e3 : γ → D} (i j l : Nat) : RTg K (gTup K 3 (gCons (gName i) (gCons (gName j) (gCons (gName l) gNil)))) (eT3 e1 e2 e3) (fun x ρ => ((ρ.set i (.sh (e1 x.1))).set j (.sh (e2 x.2.1))).set l (.sh (e3 x.2.2))) [i, j, l] :=
  tg_trip i j l fun σ a b c => by rw [wipe_set (by simp), wipe_set (by simp), wipe_set (by simp)]
theorem tg_nest2 {δ : Type} {e0 : δ → D} {e1 : α → D} {e2 : β → D} (k i j : Nat) : RTg K (gTup K 2 (gCons (gName k) (gCons (gTup K 2 (gCons (gName i) (gCons (gName j) gNil))) gNil))) (eT2 e0 (eT2 e1 e2)) (fun x ρ => ((ρ.set k (.sh (e0 x.1))).set i (.sh (e1 x.2.1))).set j (.sh (e2 x.2.2))) [k, i, j] := ⟨fun B O H σ ρ x v Q E r kk => by
  cases r with
  | tup _ h r =>
    cases r with
    | cons r0 r =>
      cases r with
      | cons r1 r =>
        cases r
        cases r1 with
        | tup _ h1 r1 =>
          cases r1 with
          | cons r1 r =>
            cases r with
            | cons r2 r =>
              cases r
              exact ⟨_, _, rfl, .inl (.inl h), rfl, _, _, rfl, _, _, rfl, _, _, rfl, .inl (.inl h1), rfl, _, _, rfl, _, _, rfl, rfl, rfl, kk _ (((E.set k r0).set i r1).set j r2) (by rw [wipe_set (by simp), wipe_set (by simp), wipe_set (by simp)])⟩⟩
theorem le_nos {n : Nat} {ρ : List Sl} (h : ρ.length = n) : Le (List.replicate n .no) ρ := ⟨by rw [List.length_replicate, h], fun i s hi => .inl (by
  have := List.mem_of_getElem? hi
  exact (List.mem_replicate.mp this).2)⟩
/-! a new source -/
def resSrc : Res Unit := fun _ H H' v _ => ∃ p, v = .ref p ∧ H p = none ∧ Src H' p
instance : Lasts resSrc := ⟨fun ⟨p, e, n, s⟩ x => ⟨p, e, n, x.src _ s⟩, fun ⟨p, e, n, s⟩ x => ⟨p, e, x.free (fun z => z) n, s⟩⟩
theorem rb_src {te : TE} {w : M Unit} {u : TS} {k : M R} (i : Nat) (he : RG K EX ρ te resSrc w) (hk : RB K EX F (ρ.set i .src) u k) (hx : LeX F.ρx ρ := by first | exact lex_nil | (refine lex_le ?_; repeat (first | exact le_nil | refine le_cons ?_ | refine le_no ?_))) : RB K EX F ρ (tSeq (tAsg te (gName i)) u) (w >>= fun _ => k) := fun B O H σ D E P PX hp nx bk ct rt xc =>
  he B O H σ E _ PX _ hp (fun a v H1 p1 e1 r1 => by
    obtain ⟨p, rfl, n, s⟩ := r1
    have E1 := E.shun n e1 (by obtain ⟨_, _, _, h⟩ := s; rw [h]; exact fun z => nomatch z)
    exact hk B (Pl O p) H1 _ D (E1.setv ⟨p, rfl, .inr rfl, s⟩ fun _ z => nomatch z) P PX p1 nx bk ct rt xc) fun x cls d H' px e k => xc ρ O σ x cls d H' (E.ex e) hx px k
end
end Va

namespace Va
open PySem PySem.Spec PyProof.Rows L2 Bg
/-! ### kinds of things -/
def wholeD : D → Bool
  | .int _ => true
  | _ => false
def labelD : D → Bool
  | .str z => labelB z
  | _ => false
def withinD (d : D) (lo hi : Int) : Bool := match d with
  | .int i => decide (lo ≤ i) && decide (i ≤ hi)
  | _ => false
section
variable {α β γ S R : Type} {P : R → Prop} {X : Exn → Prop}
/-! ### for the simplifier -/
theorem cond_ap (b : Bool) (p q : M R) : (cond b p q) P X = ((b = true → p P X) ∧ (b = false → q P X)) := by
  cases b with
  | true => exact propext ⟨fun h => ⟨fun _ => h, fun z => nomatch z⟩, fun h => h.1 rfl⟩
  | false => exact propext ⟨fun h => ⟨fun z => (nomatch z), fun _ => h⟩, fun h => h.2 rfl⟩
theorem ite_ap {c : Prop} [Decidable c] (a b : M R) : (if c then a else b) P X = if c then a P X else b P X := by
  by_cases h : c
  · rw [if_pos h, if_pos h]
  · rw [if_neg h, if_neg h]
theorem frC_nx {ρ : S → List Sl} {x : List Sl} (s : S) : (frC S ρ x).nx.k s = (pure s : M S) := rfl
theorem frC_ct {ρ : S → List Sl} {x : List Sl} (s : S) : (frC S ρ x).ct.k s = (pure s : M S) := rfl
theorem frS_nx {ρ : S → List Sl} {x : List Sl} (s : S) : (frS S ρ x).nx.k s = (pure s : M S) := rfl
theorem frL_nx {F : Fr R} {ρ : S → List Sl} (s : S) : (frL F S ρ).nx.k s = (pure (.nx s) : M (Fl S F.RR)) := rfl
theorem frL_ct {F : Fr R} {ρ : S → List Sl} (s : S) : (frL F S ρ).ct.k s = (pure (.nx s) : M (Fl S F.RR)) := rfl
theorem frL_bk {F : Fr R} {ρ : S → List Sl} (s : S) : (frL F S ρ).bk.k s = (pure (.bk s) : M (Fl S F.RR)) := rfl
theorem frL_kr {F : Fr R} {ρ : S → List Sl} (r : F.RR) : (frL F S ρ).kr r = (pure (.rt r) : M (Fl S F.RR)) := rfl
theorem fn_kr {res : Res R} (r : R) : (fnFr res).kr r = (pure r : M R) := rfl
theorem fn_bk {res : Res R} (m : M R) : (m >>= (fnFr res).kr) = m := rfl
theorem frL_bd {F : Fr R} {ρ : S → List Sl} (m : M F.RR) : (m >>= (frL F S ρ).kr) = (m >>= fun r => (pure (.rt r) : M (Fl S F.RR))) := rfl
theorem fnN_kr {K : PySem.W.Frag} {n : Nat} (r : Unit) : (fnFrN K n).kr r = (pure r : M Unit) := rfl
theorem fnN_nx {K : PySem.W.Frag} {n : Nat} (r : Unit) : (fnFrN K n).nx.k r = (pure r : M Unit) := rfl
theorem aft_nx {RR : Type} (k : S → M R) (kr : RR → M R) (s : S) : aft k kr (.nx s) = k s := rfl
theorem aft_bk {RR : Type} (k : S → M R) (kr : RR → M R) (s : S) : aft k kr (.bk s) = k s := rfl
theorem aft_rt {RR : Type} (k : S → M R) (kr : RR → M R) (r : RR) : aft k kr (.rt r) = kr r := rfl
theorem vint {a b : Int} : (V.int a = V.int b) = (a = b) := propext ⟨fun z => by injection z, fun z => by rw [z]⟩
theorem vstr {a b : Str} : (V.str a = V.str b) = (a = b) := propext ⟨fun z => by injection z, fun z => by rw [z]⟩
theorem vbl {a b : Bool} : (V.bl a = V.bl b) = (a = b) := propext ⟨fun z => by injection z, fun z => by rw [z]⟩
section
variable {P : Bool → Prop}
theorem eq_ii (a b : Int) : eqF false (.int a) (.int b) P X = P (decide (a = b)) := by
  simp [eqF, flatD, flV, scal, vint]
theorem ne_ii (a b : Int) : eqF true (.int a) (.int b) P X = P (!decide (a = b)) := by
  simp [eqF, flatD, flV, scal, vint]
theorem eq_ss (a b : Str) : eqF false (.str a) (.str b) P X = P (decide (a = b)) := by
  simp [eqF, flatD, flV, scal, vstr]
theorem ne_ss (a b : Str) : eqF true (.str a) (.str b) P X = P (!decide (a = b)) := by
  simp [eqF, flatD, flV, scal, vstr]
theorem eq_bb (a b : Bool) : eqF false (.bl a) (.bl b) P X = P (decide (a = b)) := by
  simp [eqF, flatD, flV, scal, vbl]
theorem ne_bb (a b : Bool) : eqF true (.bl a) (.bl b) P X = P (!decide (a = b)) := by
  simp [eqF, flatD, flV, scal, vbl]
theorem eq_oi (o : Option Int) (b : Int) : eqF false (eO D.int o) (.int b) P X = P (decide (o = some b)) := by
  cases o <;> simp [eqF, flatD, flV, scal, vint, eO]
theorem ne_oi (o : Option Int) (b : Int) : eqF true (eO D.int o) (.int b) P X = P (!decide (o = some b)) := by
  cases o <;> simp [eqF, flatD, flV, scal, vint, eO]
theorem eq_oo (o p : Option Int) : eqF false (eO D.int o) (eO D.int p) P X = P (decide (o = p)) := by
  cases o <;> cases p <;> simp [eqF, flatD, flV, scal, vint, eO]
theorem ne_oo (o p : Option Int) : eqF true (eO D.int o) (eO D.int p) P X = P (!decide (o = p)) := by
  cases o <;> cases p <;> simp [eqF, flatD, flV, scal, vint, eO]
theorem eq_io (a : Int) (o : Option Int) : eqF false (.int a) (eO D.int o) P X = P (decide (o = some a)) := by
  cases o with
  | none => simp [eqF, flatD, flV, scal, vint, eO]
  | some b =>
    simp only [eqF, flatD, flV, scal, vint, eO]
    have : decide (a = b) = decide (some b = some a) := by
      by_cases c : a = b
      · subst c; simp
      · have : ¬ b = a := fun z => c z.symm
        simp [c, this]
    simp [this]
end
theorem inV_s (a : Str) (l : List Str) : inV (.str a) (l.map V.str) = decide (a ∈ l) := by
  unfold inV
  rw [List.any_map, Bool.eq_iff_iff, List.any_eq_true, decide_eq_true_iff]
  constructor
  · rintro ⟨x, hx, e⟩
    have e : eqV (.str x) (.str a) = true := e
    have : x = a := by simpa [eqV] using e
    exact this ▸ hx
  · intro h
    exact ⟨a, h, by show eqV (.str a) (.str a) = true; simp [eqV]⟩
theorem inV_i (a : Int) (l : List Int) : inV (.int a) (l.map V.int) = decide (a ∈ l) := by
  unfold inV
  rw [List.any_map, Bool.eq_iff_iff, List.any_eq_true, decide_eq_true_iff]
  constructor
  · rintro ⟨x, hx, e⟩
    have e : eqV (.int x) (.int a) = true := e
    have : x = a := by simpa [eqV] using e
    exact this ▸ hx
  · intro h
    exact ⟨a, h, by show eqV (.int a) (.int a) = true; simp [eqV]⟩
theorem in_s {P : Bool → Prop} (a : Str) (l : List Str) : inM false D.str a l P X = P (decide (a ∈ l)) := by
  have := inV_s a l
  simp [inM, flatD, flV, this]
theorem nin_s {P : Bool → Prop} (a : Str) (l : List Str) : inM true D.str a l P X = P (!decide (a ∈ l)) := by
  have := inV_s a l
  simp [inM, flatD, flV, this]
theorem in_i {P : Bool → Prop} (a : Int) (l : List Int) : inM false D.int a l P X = P (decide (a ∈ l)) := by
  have := inV_i a l
  simp [inM, flatD, flV, this]
theorem nin_i {P : Bool → Prop} (a : Int) (l : List Int) : inM true D.int a l P X = P (!decide (a ∈ l)) := by
  have := inV_i a l
  simp [inM, flatD, flV, this]
theorem isN_o (o : Option Int) : isN (eO D.int o) = o.isNone := by cases o <;> rfl
theorem isN_i (i : Int) : isN (.int i) = false := rfl
theorem nar_oi {P : Int → Prop} (o : Option Int) : narrow (eO D.int) D.int o P X = (∃ i, o = some i ∧ P i) := by
  refine propext ⟨?_, ?_⟩
  · rintro ⟨b, e, p⟩
    cases o with
    | none => cases e
    | some a => cases e; exact ⟨_, rfl, p⟩
  · rintro ⟨i, rfl, p⟩
    exact ⟨i, rfl, p⟩
theorem isD_int_o (o : Option Int) : isiM "int" (eO D.int o) = (pure o.isSome : M Bool) := by
  cases o with
  | none => funext P X; simp [isiM, tyD, eO, isD, pure_ap]
  | some i => funext P X; simp [isiM, tyD, eO, isD, pure_ap]
theorem isi_int (i : Int) : isiM "int" (.int i) = (pure true : M Bool) := by funext P X; simp [isiM, tyD, isD, pure_ap]
theorem isi_int_b (i : Int) : isiM "bool" (.int i) = (pure false : M Bool) := by funext P X; simp [isiM, tyD, isD, pure_ap]
theorem isi_bl_b (b : Bool) : isiM "bool" (.bl b) = (pure true : M Bool) := by funext P X; simp [isiM, tyD, isD, pure_ap]
theorem isi_bl_i (b : Bool) : isiM "int" (.bl b) = (pure true : M Bool) := by funext P X; simp [isiM, tyD, isD, pure_ap]
theorem isi_str (z : Str) : isiM "str" (.str z) = (pure true : M Bool) := by funext P X; simp [isiM, tyD, isD, pure_ap]
theorem isi_lst (l : List α) (en : α → D) : isiM "list" (eL en l) = (pure true : M Bool) := by funext P X; simp [isiM, tyD, isD, pure_ap, eL]
theorem isi_t2 (e1 : α → D) (e2 : β → D) (x : α × β) : isiM "tuple" (eT2 e1 e2 x) = (pure true : M Bool) := by funext P X; simp [isiM, tyD, isD, pure_ap, eT2]
theorem isi_t3 (e1 : α → D) (e2 : β → D) (e3 : γ → D) (x : α × β × γ) : isiM "tuple" (eT3 e1 e2 e3 x) = (pure true : M Bool) := by funext P X; simp [isiM, tyD, isD, pure_ap, eT3]
theorem isi_tl (en : α → D) (x : List α) : isiM "tuple" (eTL en x) = (pure true : M Bool) := by funext P X; simp [isiM, tyD, isD, pure_ap, eTL]
/-! ### items -/
theorem getI_n {P : α → Prop} {l : List α} {i : Int} {x : α} (h0 : 0 ≤ i) (h : l[i.toNat]? = some x) (p : P x) : getI l i P X := by
  obtain ⟨n, rfl⟩ := Int.eq_ofNat_of_zero_le h0
  exact ⟨x, atI_nat (by simpa using h), p⟩
theorem getI_lt {P : α → Prop} {l : List α} {i : Int} (h0 : 0 ≤ i) (h : i < l.length) (p : ∀ x, l[i.toNat]? = some x → P x) : getI l i P X := by
  have hl : i.toNat < l.length := by omega
  exact getI_n h0 (List.getElem?_eq_getElem hl) (p _ (List.getElem?_eq_getElem hl))
theorem at_lt {l : List α} {i : Int} (h0 : 0 ≤ i) (h : i < l.length) : ∃ x, atI l i = some x ∧ l[i.toNat]? = some x := by
  have hl : i.toNat < l.length := by omega
  obtain ⟨n, rfl⟩ := Int.eq_ofNat_of_zero_le h0
  exact ⟨_, atI_nat (by simpa using List.getElem?_eq_getElem hl), List.getElem?_eq_getElem hl⟩
theorem join_inv {m : M S} {k : S → M R} (J : S → Prop) (h1 : ∀ Q : S → Prop, (∀ s, J s → Q s) → m Q X) (h2 : ∀ s, J s → k s P X) : joinM m k P X := h1 _ h2
theorem getI_last {P : α → Prop} {l : List α} (h : l ≠ []) (p : ∀ x, P x) : getI l (-1) P X := by
  have hl : 0 < l.length := List.length_pos_iff.mpr h
  refine ⟨l[l.length - 1]'(by omega), ?_, p _⟩
  unfold atI ixN
  rw [if_neg (by decide), if_pos (by omega)]
  show l[(-1 + (l.length : Int)).toNat]? = _
  rw [show (-1 + (l.length : Int)).toNat = l.length - 1 by omega]
  exact List.getElem?_eq_getElem _
/-! ### loops -/
theorem forS_drop {l : List α} {f : α → S → M S} {P : S → Prop} (I : Nat → S → Prop) (hs : ∀ (i : Nat) (x : α) (s : S), l[i]? = some x → I i s → ∀ Q : S → Prop, (∀ s', I (i + 1) s' → Q s') → f x s Q X) (hd : ∀ s, I l.length s → P s) :
    ∀ (k i : Nat) (s : S), l.length - i = k → i ≤ l.length → I i s → forS (l.drop i) s f P X := by
  intro k
  induction k with
  | zero =>
    intro i s hk hi h
    have : i = l.length := by omega
    subst this
    rw [List.drop_length]
    exact hd s h
  | succ k ih =>
    intro i s hk hi h
    have c : i < l.length := by omega
    rw [List.drop_eq_getElem_cons c]
    exact hs i l[i] s (List.getElem?_eq_getElem c) h _ fun s' h' => ih (i + 1) s' (by omega) c h'
theorem forS_inv {l : List α} {s0 : S} {f : α → S → M S} {P : S → Prop} (I : Nat → S → Prop) (h0 : I 0 s0) (hs : ∀ (i : Nat) (x : α) (s : S), l[i]? = some x → I i s → ∀ Q : S → Prop, (∀ s', I (i + 1) s' → Q s') → f x s Q X) (hd : ∀ s, I l.length s → P s) : forS l s0 f P X :=
  forS_drop I hs hd _ 0 s0 rfl (Nat.zero_le _) h0
theorem forL_drop {RR : Type} {l : List α} {f : α → S → M (Fl S RR)} {P : Fl S RR → Prop} (I : Nat → S → Prop) (hs : ∀ (i : Nat) (x : α) (s : S), l[i]? = some x → I i s → ∀ Q : Fl S RR → Prop, (∀ s', I (i + 1) s' → Q (.nx s')) → (∀ s', P (.nx s') → Q (.bk s')) → (∀ r, P (.rt r) → Q (.rt r)) → f x s Q X) (hd : ∀ s, I l.length s → P (.nx s)) :
    ∀ (k i : Nat) (s : S), l.length - i = k → i ≤ l.length → I i s → forL (l.drop i) s f P X := by
  intro k
  induction k with
  | zero =>
    intro i s hk hi h
    have : i = l.length := by omega
    subst this
    rw [List.drop_length]
    exact hd s h
  | succ k ih =>
    intro i s hk hi h
    have c : i < l.length := by omega
    rw [List.drop_eq_getElem_cons c]
    exact hs i l[i] s (List.getElem?_eq_getElem c) h _ (fun s' h' => ih (i + 1) s' (by omega) c h') (fun s' p => p) fun r p => p
theorem forL_inv {RR : Type} {l : List α} {s0 : S} {f : α → S → M (Fl S RR)} {P : Fl S RR → Prop} (I : Nat → S → Prop) (h0 : I 0 s0) (hs : ∀ (i : Nat) (x : α) (s : S), l[i]? = some x → I i s → ∀ Q : Fl S RR → Prop, (∀ s', I (i + 1) s' → Q (.nx s')) → (∀ s', P (.nx s') → Q (.bk s')) → (∀ r, P (.rt r) → Q (.rt r)) → f x s Q X) (hd : ∀ s, I l.length s → P (.nx s)) : forL l s0 f P X :=
  forL_drop I hs hd _ 0 s0 rfl (Nat.zero_le _) h0
/-- a while by an invariant and a measure -/
theorem whL_inv {RR : Type} {c : S → M Bool} {f : S → M (Fl S RR)} {s0 : S} {P : Fl S RR → Prop} (I : S → Prop) (m : S → Nat) (h0 : I s0) (hs : ∀ s, I s → ∀ Qc : Bool → Prop, ((∀ Q : Fl S RR → Prop, (∀ s', I s' → m s' < m s → Q (.nx s')) → (∀ s', P (.nx s') → Q (.bk s')) → (∀ r, P (.rt r) → Q (.rt r)) → f s Q X) → Qc true) → (P (.nx s) → Qc false) → c s Qc X) : whL c f s0 P X := by
  refine ⟨fun n s => n = m s ∧ I s, ⟨m s0, rfl, h0⟩, ?_⟩
  rintro n s ⟨rfl, hi⟩
  refine hs s hi _ (fun k => ?_) fun p => ?_
  · exact k _ (fun s' h lt => ⟨m s', lt, rfl, h⟩) (fun s' p => p) fun r p => p
  · exact p
/-! ### comprehensions -/
theorem lcM_pure {l : List α} {b : α → Bool} {g : α → β} {P : List β → Prop} (h : P ((l.filter b).map g)) : lcM l (fun x => pure (b x)) (fun x => pure (g x)) P X := by
  induction l generalizing P with
  | nil => exact h
  | cons x l ih =>
    show (cond (b x) _ _ : M _) P X
    rw [cond_ap]
    refine ⟨fun c => ?_, fun c => ?_⟩
    · rw [List.filter_cons_of_pos c, List.map_cons] at h
      exact ih (P := fun r => P (g x :: r)) h
    · rw [List.filter_cons_of_neg (by rw [c]; decide)] at h
      exact ih h
theorem lcM_map {l : List α} {g : α → β} {P : List β → Prop} (h : P (l.map g)) : lcM l (fun _ => pure true) (fun x => pure (g x)) P X :=
  lcM_pure (b := fun _ => true) (by rw [show l.filter (fun _ => true) = l from List.filter_eq_self.mpr fun _ _ => rfl]; exact h)
theorem lcM_comp {δ : Type} {l : List δ} {φ : δ → α} {t : α → M Bool} {f : α → M β} {P : List β → Prop} (h : lcM l (fun x => t (φ x)) (fun x => f (φ x)) P X) : lcM (l.map φ) t f P X := by
  have : lcM (l.map φ) t f = lcM l (fun x => t (φ x)) (fun x => f (φ x)) := by
    clear h
    induction l with
    | nil => rfl
    | cons x l ih =>
      show (t (φ x) >>= fun b => cond b (f (φ x) >>= fun y => lcM (l.map φ) t f >>= fun r => pure (y :: r)) (lcM (l.map φ) t f)) = _
      rw [ih]
      rfl
  rw [this]
  exact h
/-- each item by what it may be -/
theorem lcM_all {l : List α} {f : α → M β} {P : List β → Prop} (Rl : Nat → α → β → Prop) (hs : ∀ (i : Nat) (x : α), l[i]? = some x → ∀ Q : β → Prop, (∀ y, Rl i x y → Q y) → f x Q X) (hd : ∀ ys : List β, ys.length = l.length → (∀ (i : Nat) (x : α) (y : β), l[i]? = some x → ys[i]? = some y → Rl i x y) → P ys) : lcM l (fun _ => pure true) f P X := by
  induction l generalizing P Rl with
  | nil => exact hd [] rfl fun i x y h => nomatch h
  | cons x l ih =>
    show f x (fun y => lcM l (fun _ => pure true) f (fun r => P (y :: r)) X) X
    refine hs 0 x rfl _ fun y hy => ?_
    refine ih (P := fun r => P (y :: r)) (fun i => Rl (i + 1)) (fun i x' h => hs (i + 1) x' h) fun ys hl h => hd (y :: ys) (by simp [hl]) fun i x' y' h1 h2 => ?_
    cases i with
    | zero => cases h1; cases h2; exact hy
    | succ i => exact h i x' y' h1 h2
/-- some of them -/
theorem lcM_sub {l : List α} {t : α → M Bool} {P : List α → Prop} (ht : ∀ x ∈ l, ∀ Q : Bool → Prop, (∀ b, Q b) → t x Q X) (hd : ∀ ys : List α, (∀ y ∈ ys, y ∈ l) → ys.length ≤ l.length → P ys) : lcM l t (fun x => pure x) P X := by
  induction l generalizing P with
  | nil => exact hd [] (fun _ h => h) (Nat.le_refl _)
  | cons x l ih =>
    refine ht x (List.mem_cons_self ..) _ fun b => ?_
    show (cond b _ _ : M _) P X
    rw [cond_ap]
    refine ⟨fun _ => ih (P := fun r => P (x :: r)) (fun y hy => ht y (List.mem_cons_of_mem _ hy)) fun ys h1 h2 => hd (x :: ys) (fun y hy => ?_) (by simp; exact h2), fun _ => ih (fun y hy => ht y (List.mem_cons_of_mem _ hy)) fun ys h1 h2 => hd ys (fun y hy => List.mem_cons_of_mem _ (h1 y hy)) (by simp; omega)⟩
    rcases List.mem_cons.mp hy with rfl | h
    · exact List.mem_cons_self ..
    · exact List.mem_cons_of_mem _ (h1 y h)
/-- a test and an item that depend on the element alone, each told by what it comes to -/
theorem lcM_filter {l : List α} {t : α → M Bool} {f : α → M β} {P : List β → Prop} (b : α → Bool) (g : α → β) (ht : ∀ x ∈ l, ∀ Q : Bool → Prop, Q (b x) → t x Q X) (hf : ∀ x ∈ l, b x = true → ∀ Q : β → Prop, Q (g x) → f x Q X) (hd : P ((l.filter b).map g)) : lcM l t f P X := by
  induction l generalizing P with
  | nil => exact hd
  | cons x l ih =>
    refine ht x (List.mem_cons_self ..) _ ?_
    show (cond (b x) _ _ : M _) P X
    rw [cond_ap]
    refine ⟨fun c => ?_, fun c => ?_⟩
    · rw [List.filter_cons_of_pos c, List.map_cons] at hd
      exact hf x (List.mem_cons_self ..) c _ (ih (P := fun r => P (g x :: r)) (fun y hy => ht y (List.mem_cons_of_mem _ hy)) (fun y hy => hf y (List.mem_cons_of_mem _ hy)) hd)
    · rw [List.filter_cons_of_neg (by rw [c]; decide)] at hd
      exact ih (fun y hy => ht y (List.mem_cons_of_mem _ hy)) (fun y hy => hf y (List.mem_cons_of_mem _ hy)) hd
theorem rep_flat {a : α} (n : Nat) : (List.replicate n [a]).flatten = List.replicate n a := by
  induction n with
  | zero => rfl
  | succ n ih => rw [List.replicate_succ, List.flatten_cons, ih]; rfl
theorem ixN_nat {n j : Nat} (h : j < n) : ixN n (j : Int) = some j := by
  unfold ixN
  rw [if_pos (by omega), if_pos (by omega), Int.toNat_natCast]
theorem ixN_int {n : Nat} {j : Int} (h0 : 0 ≤ j) (h : j < n) : ixN n j = some j.toNat := by
  unfold ixN
  rw [if_pos h0, if_pos h]
theorem cutL_to {l : List α} {i : Int} (h : 0 ≤ i) : cutL l none (some i) = l.take i.toNat := by
  obtain ⟨n, rfl⟩ := Int.eq_ofNat_of_zero_le h
  unfold cutL
  rw [HT.sIx_none, HT.sIx_nat, Int.toNat_natCast]
  simp
theorem cutL_from {l : List α} {i : Int} (h : 0 ≤ i) : cutL l (some i) none = l.drop i.toNat := by
  obtain ⟨n, rfl⟩ := Int.eq_ofNat_of_zero_le h
  unfold cutL
  rw [HT.sIx_none, HT.sIx_nat, Int.toNat_natCast]
  by_cases c : n ≤ l.length
  · rw [Nat.min_eq_left c, List.take_of_length_le (by rw [List.length_drop]; omega)]
  · rw [Nat.min_eq_right (by omega), List.drop_eq_nil_of_le (Nat.le_refl _), List.drop_eq_nil_of_le (by omega), List.take_nil]
theorem cutL_mid {l : List α} {i j : Int} (h : 0 ≤ i) (h2 : i ≤ j) : cutL l (some i) (some j) = (l.take j.toNat).drop i.toNat := by
  obtain ⟨n, rfl⟩ := Int.eq_ofNat_of_zero_le h
  obtain ⟨m, rfl⟩ := Int.eq_ofNat_of_zero_le (show 0 ≤ j by omega)
  unfold cutL
  rw [HT.sIx_nat, HT.sIx_nat, Int.toNat_natCast, Int.toNat_natCast]
  apply List.ext_getElem?
  intro k
  simp only [List.getElem?_drop, List.getElem?_take]
  by_cases c : n ≤ l.length
  · rw [Nat.min_eq_left c]
    by_cases d : k < min m l.length - n
    · rw [if_pos d, if_pos (by omega)]
    · rw [if_neg d]
      by_cases e : n + k < m
      · rw [if_pos e, List.getElem?_eq_none (by omega)]
      · rw [if_neg e]
  · rw [if_neg (by omega)]
    by_cases e : n + k < m
    · rw [if_pos e, List.getElem?_eq_none (by omega)]
    · rw [if_neg e]
theorem cutL_all {l : List α} : cutL l none none = l := by
  unfold cutL
  rw [HT.sIx_none, HT.sIx_none]
  simp
theorem withinD_i (i lo hi : Int) : withinD (.int i) lo hi = (decide (lo ≤ i) && decide (i ≤ hi)) := rfl
theorem labelD_s (z : Str) : labelD (.str z) = labelB z := rfl
theorem wholeD_i (i : Int) : wholeD (.int i) = true := rfl
/-! ### == of data -/
def Nice (n : Nat) (d : D) : Prop := plain d = true ∧ Gd n (toP d)
theorem Nice.mono {n m : Nat} {d : D} (h : Nice n d) (hn : n ≤ m) : Nice m d := ⟨h.1, h.2.mono hn⟩
theorem nice_int (i : Int) : Nice 0 (.int i) := ⟨rfl, gd_int i⟩
theorem nice_bl (b : Bool) : Nice 0 (.bl b) := ⟨rfl, gd_bool b⟩
theorem nice_non : Nice 0 .non := ⟨rfl, gd_none⟩
theorem nice_str {z : Str} (h : PyData.strOk z = true) : Nice 0 (.str z) := ⟨rfl, gd_str h⟩
theorem nice_o (o : Option Int) : Nice 0 (eO D.int o) := by cases o with | none => exact nice_non | some i => exact nice_int i
theorem nice_l {n : Nat} {en : α → D} {l : List α} (h : ∀ x ∈ l, Nice n (en x)) : Nice (n + 1) (eL en l) := by
  refine ⟨(plains_iff _).mpr fun d hd => ?_, ?_⟩
  · obtain ⟨x, hx, rfl⟩ := List.mem_map.mp hd
    exact (h x hx).1
  · show Gd (n + 1) (.list (toPs (l.map en)))
    rw [toPs_map]
    refine Gd.lst fun d hd => ?_
    rw [List.map_map] at hd
    obtain ⟨x, hx, rfl⟩ := List.mem_map.mp hd
    exact (h x hx).2
theorem nice_tl {n : Nat} {en : α → D} {l : List α} (h : ∀ x ∈ l, Nice n (en x)) : Nice (n + 1) (eTL en l) := by
  refine ⟨(plains_iff _).mpr fun d hd => ?_, ?_⟩
  · obtain ⟨x, hx, rfl⟩ := List.mem_map.mp hd
    exact (h x hx).1
  · show Gd (n + 1) (.tuple (toPs (l.map en)))
    rw [toPs_map]
    refine Gd.tup fun d hd => ?_
    rw [List.map_map] at hd
    obtain ⟨x, hx, rfl⟩ := List.mem_map.mp hd
    exact (h x hx).2
theorem nice_tup {n : Nat} {ds : List D} (h : ∀ d ∈ ds, Nice n d) : Nice (n + 1) (.tup ds) := by
  have := nice_tl (en := id) (l := ds) h
  unfold eTL at this
  rwa [List.map_id] at this
theorem nice_t2 {n : Nat} {e1 : α → D} {e2 : β → D} {x : α × β} (h1 : Nice n (e1 x.1)) (h2 : Nice n (e2 x.2)) : Nice (n + 1) (eT2 e1 e2 x) := nice_tup fun d hd => by
  simp at hd
  rcases hd with rfl | rfl
  · exact h1
  · exact h2
theorem nice_t3 {n : Nat} {e1 : α → D} {e2 : β → D} {e3 : γ → D} {x : α × β × γ} (h1 : Nice n (e1 x.1)) (h2 : Nice n (e2 x.2.1)) (h3 : Nice n (e3 x.2.2)) : Nice (n + 1) (eT3 e1 e2 e3 x) := nice_tup fun d hd => by
  simp at hd
  rcases hd with rfl | rfl | rfl
  · exact h1
  · exact h2
  · exact h3
theorem Nice.shaped {n : Nat} {d : D} (h : Nice n d) (hn : n ≤ 64) : SeqAt.shaped (toP d) = true := h.2.shaped hn
def EqvOk {α : Type} [DecidableEq α] (en : α → D) : Prop := ∀ x y, PyData.eqv (toP (en x)) (toP (en y)) = decide (x = y)
theorem beq_dec [BEq α] [LawfulBEq α] [DecidableEq α] (x y : α) : (x == y) = decide (x = y) := by rw [Bool.eq_iff_iff]; simp
theorem eqv_int : EqvOk D.int := fun x y => by
  have : PyData.eqv (.int x) (.int y) = decide (x = y) := by simp [PyData.eqv, beq_dec]
  exact this
theorem eqv_bl : EqvOk D.bl := fun x y => by
  have : PyData.eqv (.bool x) (.bool y) = decide (x = y) := by cases x <;> cases y <;> simp [PyData.eqv]
  exact this
theorem eqv_str : EqvOk D.str := fun x y => by
  have : PyData.eqv (.str x) (.str y) = decide (x = y) := by simp [PyData.eqv, beq_dec]
  exact this
theorem eqv_o : EqvOk (eO D.int) := fun x y => by
  cases x with
  | none => cases y with
    | none => simp [eO, toP, PyData.eqv]
    | some b => simp [eO, toP, PyData.eqv]
  | some a => cases y with
    | none => simp [eO, toP, PyData.eqv]
    | some b => simp [eO, toP, PyData.eqv, beq_dec]
theorem eqvAll_map [DecidableEq α] {en : α → D} (h : EqvOk en) : ∀ (l m : List α), PyData.eqvAll (toPs (l.map en)) (toPs (m.map en)) = decide (l = m)
  | [], [] => by simp [toPs, PyData.eqvAll]
  | [], _ :: _ => by simp [toPs, PyData.eqvAll]
  | _ :: _, [] => by simp [toPs, PyData.eqvAll]
  | x :: l, y :: m => by
    have := eqvAll_map h l m
    simp only [List.map_cons, toPs, PyData.eqvAll, this, h x y]
    by_cases c : x = y <;> by_cases d : l = m <;> simp [c, d]
theorem eqv_l [DecidableEq α] {en : α → D} (h : EqvOk en) : EqvOk (eL en) := fun l m => by
  have := eqvAll_map h l m
  show PyData.eqv (.list _) (.list _) = _
  simp only [PyData.eqv, this]
theorem eqv_tl [DecidableEq α] {en : α → D} (h : EqvOk en) : EqvOk (eTL en) := fun l m => by
  have := eqvAll_map h l m
  show PyData.eqv (.tuple _) (.tuple _) = _
  simp only [PyData.eqv, this]
theorem eqv_t2 [DecidableEq α] [DecidableEq β] {e1 : α → D} {e2 : β → D} (h1 : EqvOk e1) (h2 : EqvOk e2) : EqvOk (eT2 e1 e2) := fun x y => by
  obtain ⟨x1, x2⟩ := x
  obtain ⟨y1, y2⟩ := y
  show PyData.eqv (.tuple [_, _]) (.tuple [_, _]) = _
  simp only [PyData.eqv, PyData.eqvAll, toP, toPs, h1 x1 y1, h2 x2 y2]
  by_cases c : x1 = y1 <;> by_cases d : x2 = y2 <;> simp [c, d]
theorem eqv_t3 [DecidableEq α] [DecidableEq β] [DecidableEq γ] {e1 : α → D} {e2 : β → D} {e3 : γ → D} (h1 : EqvOk e1) (h2 : EqvOk e2) (h3 : EqvOk e3) : EqvOk (eT3 e1 e2 e3) := fun x y => by
  obtain ⟨x1, x2, x3⟩ := x
  obtain ⟨y1, y2, y3⟩ := y
  show PyData.eqv (.tuple [_, _, _]) (.tuple [_, _, _]) = _
  simp only [PyData.eqv, PyData.eqvAll, toP, toPs, h1 x1 y1, h2 x2 y2, h3 x3 y3]
  by_cases c : x1 = y1 <;> by_cases d : x2 = y2 <;> by_cases e : x3 = y3 <;> simp [c, d, e]
section
variable {P : Bool → Prop}
theorem eqD_t [DecidableEq α] {en : α → D} {x y : α} {n : Nat} (he : EqvOk en) (h1 : Nice n (en x)) (h2 : Nice n (en y)) (hn : n ≤ 64) (p : P (decide (x = y))) : eqD false (en x) (en y) P X := ⟨h1.1, h2.1, h1.shaped hn, h2.shaped hn, by rw [he x y]; exact p⟩
theorem neD_t [DecidableEq α] {en : α → D} {x y : α} {n : Nat} (he : EqvOk en) (h1 : Nice n (en x)) (h2 : Nice n (en y)) (hn : n ≤ 64) (p : P (!decide (x = y))) : eqD true (en x) (en y) P X := ⟨h1.1, h2.1, h1.shaped hn, h2.shaped hn, by rw [he x y]; exact p⟩
theorem neD_r {d : D} {n : Nat} (h1 : Nice n d) (hn : n ≤ 64) (p : P false) : eqD true d d P X := ⟨h1.1, h1.1, h1.shaped hn, h1.shaped hn, by rw [h1.2.eqv]; exact p⟩
theorem eqD_r {d : D} {n : Nat} (h1 : Nice n d) (hn : n ≤ 64) (p : P true) : eqD false d d P X := ⟨h1.1, h1.1, h1.shaped hn, h1.shaped hn, by rw [h1.2.eqv]; exact p⟩
theorem eqD_nil {en : α → D} {l : List α} {n : Nat} (h : ∀ x ∈ l, Nice n (en x)) (hn : n < 64) (p : P l.isEmpty) : eqD false (eL en l) (.lst []) P X := ⟨(nice_l h).1, rfl, (nice_l h).shaped hn, rfl, by
  have : PyData.eqv (toP (eL en l)) (toP (.lst [])) = l.isEmpty := by cases l <;> rfl
  rw [this]; exact p⟩
theorem neD_nil {en : α → D} {l : List α} {n : Nat} (h : ∀ x ∈ l, Nice n (en x)) (hn : n < 64) (p : P (!l.isEmpty)) : eqD true (eL en l) (.lst []) P X := ⟨(nice_l h).1, rfl, (nice_l h).shaped hn, rfl, by
  have : PyData.eqv (toP (eL en l)) (toP (.lst [])) = l.isEmpty := by cases l <;> rfl
  rw [this]; exact p⟩
end
end
end Va

namespace Va
open PySem PySem.Spec PyProof.Rows L2 Bg
section
variable {K : PySem.W.Frag} {EX : L2.St → XK} {ρ : List Sl} {α β γ R : Type} {F : Fr R}
/-! ### what is never reached -/
def never {R : Type} : M R := fun _ _ => False
theorem rb_never {u : TS} : RB K EX F ρ (tSeq tNever u) never := fun B O H σ D E P PX hp _ _ _ _ _ => hp.elim
theorem never_ap {P : R → Prop} {X : Exn → Prop} : (never : M R) P X = False := rfl
/-! ### an object that is being made -/
def putG (f : Str) (d : D) : List (Str × D) → List (Str × D)
  | [] => [(f, d)]
  | p :: r => if p.1 = f then (p.1, d) :: r else p :: putG f d r
theorem putF_eq : ∀ (fs : List (Str × V)) (gs : List (Str × D)) (f : Str) (v : V) (d : D) (O : AP) (H : Hp), fs.map (·.1) = gs.map (·.1) → RepL K O H (fs.map (·.2)) (gs.map (·.2)) → Rep K O H v d → (putF f v fs).map (·.1) = (putG f d gs).map (·.1) ∧ RepL K O H ((putF f v fs).map (·.2)) ((putG f d gs).map (·.2))
  | [], [], f, v, d, O, H, _, _, r => ⟨rfl, .cons r .nil⟩
  | [], _ :: _, _, _, _, _, _, e, _, _ => nomatch e
  | _ :: _, [], _, _, _, _, _, e, _, _ => nomatch e
  | (x1, x2) :: fs, (y1, y2) :: gs, f, v, d, O, H, e, r, rv => by
    injection e with e1 e2
    have e1 : x1 = y1 := e1
    subst e1
    cases r with
    | cons r1 r2 =>
      obtain ⟨i1, i2⟩ := putF_eq fs gs f v d O H e2 r2 rv
      unfold putF putG
      by_cases c : x1 = f
      · subst c
        simp only [if_true, List.map_cons]
        first
          | exact ⟨by rw [e2], .cons rv r2⟩
          | (simp; exact ⟨e2, .cons rv r2⟩)
      · simp only [c, if_false, List.map_cons]
        first
          | exact ⟨by rw [i1], .cons r1 i2⟩
          | (simp [c]; exact ⟨i1, .cons r1 i2⟩)
theorem rb_fld {tv : TE} {f C : Str} {gs : List (Str × D)} {en : α → D} {w : M α} {u : TS} {k : α → M R} (i : Nat) (hc : Cls K (He.ga K C)) (hn : NoAttr K (He.ga K C) f) (hl : gs.length < 1000) (he : RE K EX ρ tv en w) (hk : ∀ a, RB K EX F (ρ.set i (.ow (.obj C (putG f (en a) gs)))) u (k a)) (h : ρ[i]? = some (.ow (.obj C gs)) := by rfl) (hx : LeX F.ρx ρ := by first | exact lex_nil | (refine lex_le ?_; repeat (first | exact le_nil | refine le_cons ?_ | refine le_no ?_))) :
    RB K EX F ρ (tSeq (sFld K (tVar i) tv f) u) (w >>= k) := fun B O H σ D E P PX hp nx bk ct rt xc => by
  refine he B O H σ E _ PX _ hp (fun a v H1 p1 e1 r1 => ?_) fun x cls d H' px e k => xc ρ O σ x cls d H' (E.ex e) hx px k
  have E1 := E.ex e1
  obtain ⟨dx, fs, hs, o, hF, hA, hp1, e2, r2⟩ := E1.at_ i _ h
  have hfl : fs.length = gs.length := by have := congrArg List.length e2; simpa using this
  obtain ⟨i1, i2⟩ := putF_eq (K := K) fs gs f v (en a) O H1 e2 r2 r1
  refine ⟨.ref B.S, hs, B.S, _, dx, fs, rfl, hp1, hc, hn, by omega, hk a B O _ σ D (E1.mut h hs hp1 ns_ins (fun _ _ z => nomatch z) fun e => ⟨dx, _, rfl, o, hF, hA, upd_same, i1, i2.ext e fun b z => z ▸ o⟩) P PX p1 nx bk ct rt xc⟩
/-- a def that makes an object -/
def fnFrMk (C : Str) (n : Nat) : Fr (List (Str × D)) := ⟨⟨List (Str × D), fun gs => .ow (.obj C gs) :: List.replicate n .no, fun gs => pure gs⟩, ⟨Empty, fun _ => [], fun e => e.elim⟩, ⟨Empty, fun _ => [], fun e => e.elim⟩, Empty, fun _ _ _ _ e => e.elim, fun e => e.elim, []⟩
theorem mk_nx {C : Str} {n : Nat} (gs : List (Str × D)) : (fnFrMk C n).nx.k gs = (pure gs : M _) := rfl
theorem rb_endMk {C : Str} {n : Nat} {gs : List (Str × D)} (h : Le (.ow (.obj C gs) :: List.replicate n .no) ρ) : RB K EX (fnFrMk C n) ρ tNext (pure gs) := fun B O H σ D E P PX hp nx _ _ _ _ => nx gs O H σ (E.le h) hp
theorem spMk_len {C : Str} {vs : List V} {H : Hp} {Q : VK} {E : XK} {ar : α → List Sl} {en : β → D} {c : α → M β} {n : Nat} (h : spMk K C ar en c vs H Q E) (hl : ∀ a, (ar a).length + 1 = n) : vs.length = n := by
  obtain ⟨O, H1, x, dx, ws, a, P, PX, rfl, _, _, _, _, h1, _⟩ := h
  rw [List.length_cons, h1.length, hl a]
theorem ArOk.fresh' {O : AP} {H : Hp} {vs : List V} {ss : List Sl} {p : Addr} (h : ArOk K O H vs ss) (n : H p = none) : ArOk K (Pl O p) H vs ss := by
  induction h with
  | nil => exact .nil
  | sh r _ ih => exact .sh (r.fresh n) ih
  | src o s _ ih => exact .src (.inl o) s ih
  | scr e _ ih => exact .scr (e.wide (pl_free n)) ih
theorem fn_runMk {C : Str} {N : List Str} {vs : List V} {H : Hp} {Q : VK} {E : XK} {t : TS} {ar : α → List Sl} {en : β → D} {c : α → M β} {p : α → M (List (Str × D))} (h : spMk K C ar en c vs H Q E) (hl : ∀ a, (ar a).length + 1 ≤ N.length)
    (hb : ∀ a, RB K (fun _ => E) (fnFrMk C (N.length - 1)) (.ow (.obj C []) :: (ar a ++ List.replicate (N.length - 1 - (ar a).length) .no)) t (p a)) (hc : ∀ a P PX, c a P PX → p a (fun gs => ∃ r, en r = .obj C gs ∧ P r) PX) :
    t { nx := fun _ H' => Q .non H', rt := Q } (L2.start N vs) H := by
  obtain ⟨O, H1, x, dx, ws, a, P, PX, rfl, hx, hdx, hne, rfl, h1, h2, h3, h4, h5⟩ := h
  have hlen := h1.length
  have e0 : Ext No H1 (upd (upd H1 dx (.own x)) x (.ins (He.ga K C) dx [])) := .of_same ((L2.Same.new hdx).trans (L2.Same.new (by rw [upd_ne hne.symm]; exact hx)))
  have hO : ∀ b, Pl O x b → upd (upd H1 dx (.own x)) x (.ins (He.ga K C) dx []) b ≠ none := fun b z => z.elim (fun q => e0.some (fun z => z) (h2 b q)) fun q => by rw [q, upd_same]; exact fun z => nomatch z
  have ha := (h1.fresh' hx).ex e0
  have st := fun (i : Nat) (s : Sl) (hi : (ar a)[i]? = some s) => ha.slot (B := ⟨H1, O, H1, No, O, x⟩) i s hi
  have nn : ∀ (i : Nat) (s : Sl) (H' : Hp) (y : Option (Option V)) (as : List Addr), (ar a ++ List.replicate (N.length - 1 - (ar a).length) Sl.no)[i]? = some s → ¬ Own K H' y s as := fun i s H' y as hi w => by
    by_cases c : i < (ar a).length
    · rw [List.getElem?_append_left c] at hi
      exact (st i _ hi).2 _ _ _ w
    · rw [List.getElem?_append_right (by omega)] at hi
      have := List.mem_of_getElem? hi
      rw [List.mem_replicate] at this
      rw [this.2] at w
      exact w
  have hs : L2.start N (.ref x :: ws) = some (.ref x) :: (ws.map some ++ List.replicate (N.length - 1 - ws.length) none) := by
    unfold L2.start
    rw [List.map_cons, List.length_cons, show N.length - (ws.length + 1) = N.length - 1 - ws.length by omega]
    rfl
  have En0 : En K ⟨H1, O, H1, No, O, x⟩ (Pl O x) (upd (upd H1 dx (.own x)) x (.ins (He.ga K C) dx [])) (L2.start N (.ref x :: ws)) (.ow (.obj C []) :: (ar a ++ List.replicate (N.length - 1 - (ar a).length) .no)) := by
    rw [hs]
    refine ⟨fun b z => .inl z, h2, fun b z => z.imp id fun (q : b = x) => q ▸ hx, hO, fun b z => z.elim, fun b z => e0.some (fun z => z) z, e0, ?_, fun i s hi => ?_, fun i j s1 s2 as bs b g1 g2 w1 w2 _ _ => ?_⟩
    · simp; omega
    · cases i with
      | zero => cases hi; exact ⟨dx, [], rfl, .inr rfl, hx, .inr hx, upd_same, rfl, .nil⟩
      | succ i =>
        have hi : (ar a ++ List.replicate (N.length - 1 - (ar a).length) Sl.no)[i]? = some s := hi
        show SlOk K _ _ _ ((ws.map some ++ List.replicate (N.length - 1 - ws.length) none)[i]?) s
        by_cases c : i < (ar a).length
        · rw [List.getElem?_append_left c] at hi
          rw [List.getElem?_append_left (by simp; omega)]
          exact (st i s hi).1
        · rw [List.getElem?_append_right (by omega)] at hi
          have := List.mem_of_getElem? hi
          rw [List.mem_replicate] at this
          rw [this.2]
          trivial
    · cases i with
      | zero =>
        cases j with
        | zero => rfl
        | succ j => exact (nn j s2 _ _ bs g2 w2).elim
      | succ i => exact (nn i s1 _ _ as g1 w1).elim
  refine hb a ⟨H1, O, H1, No, O, x⟩ (Pl O x) _ _ _ En0 _ PX (hc a P PX h3) (fun gs O' H' σ' E' ⟨r, er, hp⟩ => ?_) (fun s => Empty.elim s) (fun s => Empty.elim s) (fun r => Empty.elim r) fun ρ' O' σ' y cls d H' E' _ px k => h5 y cls d H' px E'.ext (k.mono E'.sub)
  have hsl := E'.at_ 0 _ rfl
  obtain ⟨dx', fs, hs', o', hF', _, hp', e', r'⟩ := hsl
  refine h4 r H' hp E'.ext ?_
  rw [er]
  exact .obj (fun z => h2 x z hx) hp' e' (r'.mono E'.sub)
end
end Va
namespace Va
open PySem PySem.Spec PyProof.Rows L2 Bg
section
variable {K : PySem.W.Frag} {EX : L2.St → XK} {ρ : List Sl} {α β γ R : Type} {F : Fr R}
/-- xs[ys.pop()] = e -/
theorem rb_setIP {te : TE} {en : α → D} {w : M α} {u : TS} {l : List α} {m : List Int} {k : List α → List Int → M R} (i j : Nat) (hij : i ≠ j) (he : RE K EX ρ te en w) (hk : ∀ l' m', RB K EX F ((ρ.set j (.ow (.lst (m'.map D.int)))).set i (.ow (.lst (l'.map en)))) u (k l' m')) (h : ρ[i]? = some (.ow (.lst (l.map en))) := by rfl) (h2 : ρ[j]? = some (.ow (.lst (m.map D.int))) := by rfl) (hx : LeX F.ρx ρ := by first | exact lex_nil | (refine lex_le ?_; repeat (first | exact le_nil | refine le_cons ?_ | refine le_no ?_))) :
    RB K EX F ρ (tSeq (tAsg te (gSub (tVar i) (tBM0 K "list" rPop (tVar j)) rSetL)) u) (w >>= fun a => popL m >>= fun p => setI l p.2 a >>= fun l' => k l' p.1) := fun B O H σ D E P PX hp nx bk ct rt xc => by
  refine he B O H σ E _ PX _ hp (fun a v H1 p1 e1 r1 => ?_) fun x cls d H' px e k => xc ρ O σ x cls d H' (E.ex e) hx px k
  have E1 := E.ex e1
  obtain ⟨n, hn, q, hq, p2⟩ := p1
  obtain ⟨pi, vi, hsi, hpi, ri, _⟩ := E1.mutL (ds' := (l.map en)) h
  obtain ⟨pj, vj, hsj, hpj, rj, mkj⟩ := E1.mutL (ds' := (m.dropLast.map Va.D.int)) h2
  have hlj := rj.length
  rw [List.length_map] at hlj
  obtain ⟨vn, hvn, rvn⟩ := rj.get (get_map hn)
  cases rvn
  have nij : pi ≠ pj := fun z => hij (E1.inj i j _ _ [pi] [pj] pi h h2 ⟨pi, hsi, rfl⟩ ⟨pj, hsj, rfl⟩ List.mem_cons_self (z ▸ List.mem_cons_self))
  have E2 := mkj vj.dropLast (by rw [List.map_dropLast]; exact rj.dl)
  have h' : (ρ.set j (.ow (.lst (m.dropLast.map Va.D.int))))[i]? = some (.ow (.lst (l.map en))) := by rw [set_off (Ne.symm hij)]; exact h
  obtain ⟨pi', vi', hsi', hpi', ri', mki⟩ := E2.mutL (ds' := ((l.set q a).map en)) h'
  rw [hsi] at hsi'
  cases hsi'
  have hli := ri'.length
  rw [List.length_map] at hli
  have oj := (ow_p E1 h2)
  refine ⟨.ref pi, hsi, .ref pj, hsj, .inl ⟨rfl, vj, SqL.of hpj⟩, pj, vj, .int n, rfl, rfl, hpj, by rw [hlj]; exact hvn, pi, vi', n, q, rfl, rfl, hpi', by rw [hli]; exact hq, hk _ _ B O _ σ D (mki _ ?_) P PX p2 nx bk ct rt xc⟩
  rw [List.map_set]
  refine ri'.set q (Rep.ext (A := fun b => b = pj) r1 ?_ ?_)
  · refine ⟨fun b o n _ h => by rw [upd_ne n]; exact h, fun b ⟨n, s, t, h⟩ => ⟨n, s, t, ?_⟩⟩
    rw [upd_ne]
    · exact h
    · intro z; rw [z, hpj] at h; cases h
  · intro b z
    obtain ⟨p', hp', o, _⟩ := oj
    rw [hsj] at hp'
    cases hp'
    rw [z]; exact o
theorem re_lenSh {te : TE} {en : α → D} {w : M α} (ds : α → List D) (i : Int) (n : Nat) (hi : i = (n : Int)) (h : ∀ a, en a = .tup (ds a)) (hl : ∀ a, (ds a).length = n) (ha : RE K EX ρ te en w) : RE K EX ρ (tCB (rLen K) (tCons te tNil)) Va.D.int (w >>= fun _ => pure i) :=
  rg_cb1 ha fun O H0 H v a P PX Q _ r p q => by
    have r : Rep K O H v (.tup (ds a)) := h a ▸ r
    cases r with
    | tup _ hh r =>
      have e := r.length
      rw [hl a] at e
      exact ⟨_, _, rfl, .inr ⟨_, .inl (.inl hh), rfl⟩, q _ _ _ p (.refl _ _) (by rw [e, ← hi]; exact .int _)⟩
end
end Va

namespace Va
open PySem PySem.Spec PyProof.Rows L2 Bg
/-! ### steps -/
inductive StT where
  | st (l : Str) | an (l : Str)
def StT.way : StT → Str
  | .st _ => "/"
  | .an _ => "//"
def StT.label : StT → Str
  | .st l => l
  | .an l => l
def stF1 (l : Str) : List (Str × D) := [("label", .str l)]
def eSt1 (l : Str) : D := .obj "Straight" (stF1 l)
def eAn1 (l : Str) : D := .obj "Anywhere" (stF1 l)
def eSt : StT → D
  | .st l => eSt1 l
  | .an l => eAn1 l
def stOf (w l : Str) : StT := if w = "/" then .st l else .an l
theorem stOf_label (w l : Str) : (stOf w l).label = l := by
  unfold stOf
  split <;> rfl
theorem stOf_way {w l : Str} (h : w = "/" ∨ w = "//") : (stOf w l).way = w := by
  unfold stOf
  rcases h with rfl | rfl
  · rw [if_pos rfl]; rfl
  · rw [if_neg (by decide)]; rfl
section
variable {K : PySem.W.Frag} {EX : L2.St → XK} {ρ : List Sl} {α β γ R : Type} {F : Fr R}
theorem rep_step {O : AP} {H : Hp} {v : V} {s : StT} (r : Rep K O H v (eSt s)) : ∃ p, v = .ref p ∧ StepAt K H p s.way s.label ∧ ¬ O p := by
  cases s with
  | st l =>
    cases r with
    | @obj a dx _ fs _ n h e r =>
      have : fs = stF l := by
        cases fs with
        | nil => cases e
        | cons x fs =>
          obtain ⟨x1, x2⟩ := x
          injection e with e1 e2
          cases fs with
          | nil =>
            cases r with
            | cons r _ =>
              cases r
              have e1 : x1 = "label" := e1
              rw [e1]; rfl
          | cons _ _ => cases e2
      rw [this] at h
      exact ⟨a, rfl, ⟨dx, .inl ⟨rfl, h⟩⟩, n⟩
  | an l =>
    cases r with
    | @obj a dx _ fs _ n h e r =>
      have : fs = stF l := by
        cases fs with
        | nil => cases e
        | cons x fs =>
          obtain ⟨x1, x2⟩ := x
          injection e with e1 e2
          cases fs with
          | nil =>
            cases r with
            | cons r _ =>
              cases r
              have e1 : x1 = "label" := e1
              rw [e1]; rfl
          | cons _ _ => cases e2
      rw [this] at h
      exact ⟨a, rfl, ⟨dx, .inr ⟨rfl, h⟩⟩, n⟩
theorem re_slab {ta : TE} {w : M StT} (c1 : Cls K (He.ga K "Straight")) (n1 : NoAttr K (He.ga K "Straight") "label") (c2 : Cls K (He.ga K "Anywhere")) (n2 : NoAttr K (He.ga K "Anywhere") "label") (ha : RE K EX ρ ta eSt w) : RE K EX ρ (tFld K ta "label") D.str (w >>= fun s => pure s.label) := fun B O H σ E P PX Q hw hq hx =>
  ha B O H σ E _ PX _ hw (fun a v H' p e r => by
    obtain ⟨p', rfl, st, _⟩ := rep_step r
    exact lab_call st c1 n1 c2 n2 (hq _ _ _ p e (.str _))) hx
/-- a method of one of the two sorts -/
def vm {α β : Type} (c1 c2 : Str × α → M β) : StT → α → M β
  | .st l, a => c1 (l, a)
  | .an l, a => c2 (l, a)
theorem rg_methV {m : Str} {ta : TE} {t : TA} {ar : α → List Sl} {wo : M StT} {w : M α} {res : Res β} [Lasts res] {c1 c2 : Str × α → M β} (hm : ¬ m = "label") (h1 : RE K EX ρ ta eSt wo) (h : RA K EX ρ t ar w) (nx1 : NoX c1) (nx2 : NoX c2) :
    RG K EX ρ (tMethV (He.ga K "Straight") (He.ga K "Anywhere") m (spC K (fun p : Str × α => .sh (eSt1 p.1) :: ar p.2) res c1) (spC K (fun p : Str × α => .sh (eAn1 p.1) :: ar p.2) res c2) E0 ta t) res (wo >>= fun s => w >>= fun a => vm c1 c2 s a) := fun B O H σ E P PX Q hw hq hx =>
  h1 B O H σ E _ PX _ hw (fun s v H1 p1 e1 r1 => by
    obtain ⟨p, rfl, ⟨dx, ⟨ew, hh⟩ | ⟨ew, hh⟩⟩, _⟩ := rep_step r1
    · cases s with
      | an l => exact absurd (show ("//" : Str) = "/" from ew) (by decide)
      | st l =>
        refine ⟨p, dx, _, rfl, stF_no _ hm, .inl ⟨hh, h B O H1 σ (E.ex e1) _ PX _ p1 (fun a vs H2 p2 e3 r2 => ?_) fun x cls d H' px e k => hx x cls d H' px (e1.trans e) k⟩⟩
        have e12 := e1.trans e3
        exact ⟨O, (l, a), P, fun _ => False, .sh (Rep.ex r1 e3) r2, (E.ex e12).dom, nx1 _ P PX p2, fun r v H' p' e' k => hq r v H' p' (e12.trans e') (Lasts.base k e12), fun _ _ _ _ z => z.elim⟩
    · cases s with
      | st l => exact absurd (show ("/" : Str) = "//" from ew) (by decide)
      | an l =>
        refine ⟨p, dx, _, rfl, stF_no _ hm, .inr ⟨hh, h B O H1 σ (E.ex e1) _ PX _ p1 (fun a vs H2 p2 e3 r2 => ?_) fun x cls d H' px e k => hx x cls d H' px (e1.trans e) k⟩⟩
        have e12 := e1.trans e3
        exact ⟨O, (l, a), P, fun _ => False, .sh (Rep.ex r1 e3) r2, (E.ex e12).dom, nx2 _ P PX p2, fun r v H' p' e' k => hq r v H' p' (e12.trans e') (Lasts.base k e12), fun _ _ _ _ z => z.elim⟩) hx
end
/-! ### questions -/
structure QuT where
  rows : List Sr
  g : Nat
  ends : List Int
  ups : List (Option Int)
  ok : QuOk rows g
  eo : EndsOk (qds rows) ends
  uo : UpOk (qds rows) ups
abbrev eSr : Sr → D := eT3 D.str D.str D.int
def QuT.steps (q : QuT) : List StT := q.rows.map fun r => stOf r.1 r.2.1
def QuT.gI (q : QuT) : Int := (q.g : Int)
def quG (q : QuT) : List (Str × D) := [("given_rows", eTL eSr q.rows), ("goal", .int q.gI), ("steps", eTL eSt q.steps), ("ends", eL D.int q.ends), ("uppers", eL (eO D.int) q.ups)]
def eQu (q : QuT) : D := .obj "Question" (quG q)
/-! ### documents -/
structure DocT where
  rows : List (Str × Int)
  ends : List Int
  ups : List (Option Int)
  ok : DocOk rows
  eo : EndsOk (dps rows) ends
  uo : UpOk (dps rows) ups
abbrev eDr : Str × Int → D := eT2 D.str D.int
def docG (q : DocT) : List (Str × D) := [("parts", eTL eDr q.rows), ("ends", eL D.int q.ends), ("uppers", eL (eO D.int) q.ups)]
def eDoc (q : DocT) : D := .obj "Document" (docG q)
theorem QuT.end_at (q : QuT) {k : Nat} (h : k < q.rows.length) : ∃ n : Nat, q.ends[k]? = some (n : Int) ∧ EndP (qds q.rows) k n := by
  have hl : k < q.ends.length := by rw [q.eo.len, qds_len]; exact h
  obtain ⟨n, e, p⟩ := q.eo.at_ k _ (List.getElem?_eq_getElem hl)
  exact ⟨n, by rw [List.getElem?_eq_getElem hl, e], p⟩
theorem QuT.up_at (q : QuT) {k : Nat} (h : k < q.rows.length) : ∃ o, q.ups[k]? = some o ∧ UpAt (qds q.rows) k o := by
  have hl : k < q.ups.length := by rw [q.uo.len, qds_len]; exact h
  exact ⟨_, List.getElem?_eq_getElem hl, q.uo.at_ k _ (List.getElem?_eq_getElem hl)⟩
theorem QuT.steps_len (q : QuT) : q.steps.length = q.rows.length := List.length_map ..
theorem DocT.end_at (q : DocT) {k : Nat} (h : k < q.rows.length) : ∃ n : Nat, q.ends[k]? = some (n : Int) ∧ EndP (dps q.rows) k n := by
  have hl : k < q.ends.length := by rw [q.eo.len, dps_len]; exact h
  obtain ⟨n, e, p⟩ := q.eo.at_ k _ (List.getElem?_eq_getElem hl)
  exact ⟨n, by rw [List.getElem?_eq_getElem hl, e], p⟩
theorem DocT.up_at (q : DocT) {k : Nat} (h : k < q.rows.length) : ∃ o, q.ups[k]? = some o ∧ UpAt (dps q.rows) k o := by
  have hl : k < q.ups.length := by rw [q.uo.len, dps_len]; exact h
  exact ⟨_, List.getElem?_eq_getElem hl, q.uo.at_ k _ (List.getElem?_eq_getElem hl)⟩
/-! ### maps -/
def IsMapN (r1 : List Sr) (g1 : Nat) (r2 : List Sr) (g2 : Nat) (im : List Nat) : Prop := im.length = r1.length ∧ (∀ x ∈ im, x < r2.length) ∧ ∀ s, s < im.length → StepOk r1 g1 r2 g2 im s
def dN (n : Nat) : D := .int (n : Int)
def IsMapD (r1 : List Sr) (g1 : Nat) (r2 : List Sr) (g2 : Nat) (ds : List D) : Prop := ∃ im : List Nat, ds = im.map dN ∧ IsMapN r1 g1 r2 g2 im
section
variable {K : PySem.W.Frag} {EX : L2.St → XK} {ρ : List Sl} {α β γ R : Type} {F : Fr R}
/-- a new list of a wider kind -/
theorem RG.fm {t : TE} {en : α → D} {en' : β → D} {w : M (List α)} (f : α → β) (h : RF K EX ρ t en w) (hf : ∀ a, en' (f a) = en a) : RF K EX ρ t en' (w >>= fun l => pure (l.map f)) := fun B O H σ E P PX Q hw hq hx =>
  h B O H σ E _ PX Q hw (fun l v H1 p e r => hq (l.map f) v H1 p e (by
    obtain ⟨q, vs, e1, n, h1, r⟩ := r
    refine ⟨q, vs, e1, n, h1, ?_⟩
    rw [List.map_map, show (en' ∘ f) = en from funext hf]
    exact r)) hx
end
theorem likes_at {r1 r2 : List Sr} {g1 g2 s im : Nat} {r r' : Sr} (hr : r1[s]? = some r) (hr' : r2[im]? = some r') : Likes r1 g1 r2 g2 s im ↔ r.2.1 = r'.2.1 ∧ (s = g1 → im = g2) := by
  unfold Likes
  rw [hr, hr']
  constructor
  · rintro ⟨⟨a, b, e1, e2, e⟩, h⟩
    cases e1
    cases e2
    exact ⟨e, h⟩
  · rintro ⟨e, h⟩
    exact ⟨⟨_, _, rfl, rfl, e⟩, h⟩
theorem goesN {r1 r2 : List Sr} {s im : Nat} {r r' : Sr} (hr : r1[s]? = some r) (hr' : r2[0]? = some r') : GoesT r1 r2 s im none ↔ (¬ r.1 = ("/" : Str)) ∨ (im = 0 ∧ r'.1 = ("/" : Str)) := by
  show (∃ a : Sr, r1[s]? = some a ∧ _) ↔ _
  rw [hr, hr']
  constructor
  · rintro ⟨a, e, h⟩
    cases e
    rcases h with h | ⟨h, b, e, h'⟩
    · exact .inl h
    · cases e
      exact .inr ⟨h, h'⟩
  · rintro (h | ⟨h, h'⟩)
    · exact ⟨_, rfl, .inl h⟩
    · exact ⟨_, rfl, .inr ⟨h, _, rfl, h'⟩⟩
theorem goesS {r1 r2 : List Sr} {s im u : Nat} {r r' : Sr} (hr : r1[s]? = some r) (hr' : r2[im]? = some r') : GoesT r1 r2 s im (some u) ↔ (r.1 = ("/" : Str) ∧ Par (qds r2) u im ∧ r'.1 = ("/" : Str)) ∨ (¬ r.1 = ("/" : Str) ∧ An (qds r2) u im) := by
  show (∃ a : Sr, r1[s]? = some a ∧ _) ↔ _
  rw [hr, hr']
  constructor
  · rintro ⟨a, e, h⟩
    cases e
    rcases h with ⟨h, h1, b, e, h2⟩ | h
    · cases e
      exact .inl ⟨h, h1, h2⟩
    · exact .inr h
  · rintro (⟨h, h1, h2⟩ | h)
    · exact ⟨_, rfl, .inl ⟨h, h1, _, rfl, h2⟩⟩
    · exact ⟨_, rfl, .inr h⟩
theorem upAt_some {ds : List Int} {k : Nat} {o : Option Int} {u : Nat} (h : UpAt ds k o) : o = some (u : Int) ↔ Par ds u k := by
  cases o with
  | none => exact ⟨fun z => (nomatch z), fun p => absurd p.1 (h u)⟩
  | some v =>
    obtain ⟨n, rfl, p⟩ := h
    constructor
    · intro z
      have : (n : Int) = (u : Int) := Option.some.inj z
      have : n = u := by omega
      exact this ▸ p
    · intro q
      rw [p.only q]
theorem nat_of {i : Int} (h : 0 ≤ i) : ∃ n : Nat, i = (n : Int) := ⟨i.toNat, by omega⟩
theorem get_lt {α : Type} {l : List α} {n : Nat} (h : n < l.length) : ∃ x, l[n]? = some x := ⟨_, List.getElem?_eq_getElem h⟩
theorem isMapD_at {r1 r2 : List Sr} {g1 g2 : Nat} {ds : List D} {i : Nat} {d : D} (h : IsMapD r1 g1 r2 g2 ds) (hi : ds[i]? = some d) : ∃ y : Nat, d = .int (y : Int) ∧ y < r2.length := by
  obtain ⟨im, rfl, _, hb, _⟩ := h
  rw [List.getElem?_map] at hi
  cases q : im[i]? with
  | none => rw [q] at hi; cases hi
  | some y => rw [q] at hi; cases hi; exact ⟨y, rfl, hb y (List.mem_of_getElem? q)⟩
theorem dN_inj {l m : List Nat} (h : l.map dN = m.map dN) : l = m := by
  induction l generalizing m with
  | nil =>
    cases m with
    | nil => rfl
    | cons _ _ => cases h
  | cons a l ih =>
    cases m with
    | nil => cases h
    | cons b m =>
      rw [List.map_cons, List.map_cons] at h
      injection h with h1 h2
      have h1 : D.int (a : Int) = D.int (b : Int) := h1
      injection h1 with h1
      have : a = b := by omega
      rw [this, ih h2]
theorem isMapD_iff {r1 r2 : List Sr} {g1 g2 : Nat} {im : List Nat} (hl : im.length = r1.length) (hb : ∀ x ∈ im, x < r2.length) : IsMapD r1 g1 r2 g2 (im.map dN) ↔ ∀ s, s < im.length → StepOk r1 g1 r2 g2 im s := by
  constructor
  · rintro ⟨im', e, _, _, h⟩
    rw [dN_inj e]
    exact h
  · intro h
    exact ⟨im, rfl, hl, hb, h⟩
end Va

namespace Va
open PySem PySem.Spec PyProof.Rows L2 Bg
/-! ### the map to itself -/
theorem id_map {rows : List Sr} {g : Nat} (ok : QuOk rows g) : IsMapD rows g rows g ((rng 0 rows.length).map D.int) := by
  refine ⟨List.range rows.length, ?_, by simp, fun x hx => List.mem_range.mp hx, fun s hs => ?_⟩
  · unfold rng
    rw [List.map_map]
    apply List.map_congr_left
    intro a _
    show D.int (0 + (a : Int)) = D.int (a : Int)
    rw [Int.zero_add]
  · rw [List.length_range] at hs
    have at_ : ∀ u, u < rows.length → (List.range rows.length)[u]? = some u := fun u hu => List.getElem?_range hu
    obtain ⟨r, hr⟩ := get_lt hs
    intro x hx
    rw [at_ s hs] at hx
    cases hx
    refine ⟨(likes_at hr hr).mpr ⟨rfl, fun e => e⟩, fun no => ?_, fun u y p hy => ?_⟩
    · by_cases c : s = 0
      · subst c
        rw [goesN hr hr]
        by_cases d : r.1 = ("/" : Str)
        · exact .inr ⟨rfl, d⟩
        · exact .inl d
      · exact absurd (an_root ok.dv (by omega) (by rw [qds_len]; exact hs)) (no 0)
    · have hu : u < rows.length := by have := p.1.1; omega
      rw [at_ u hu] at hy
      cases hy
      rw [goesS hr hr]
      by_cases d : r.1 = ("/" : Str)
      · exact .inl ⟨d, p, d⟩
      · exact .inr ⟨d, p.1⟩
/-! ### depths in a row -/
/-- each at least 2, and at most one more than the one ahead -/
def Ch : Int → List Int → Prop
  | _, [] => True
  | p, d :: ds => 2 ≤ d ∧ d ≤ p + 1 ∧ Ch d ds
def lastD (p : Int) : List Int → Int
  | [] => p
  | d :: ds => lastD d ds
theorem Ch.app {p : Int} {a b : List Int} : Ch p (a ++ b) ↔ Ch p a ∧ Ch (lastD p a) b := by
  induction a generalizing p with
  | nil => exact ⟨fun h => ⟨trivial, h⟩, fun h => h.2⟩
  | cons d a ih =>
    show (2 ≤ d ∧ d ≤ p + 1 ∧ Ch d (a ++ b)) ↔ (2 ≤ d ∧ d ≤ p + 1 ∧ Ch d a) ∧ Ch (lastD d a) b
    rw [ih]
    exact ⟨fun h => ⟨⟨h.1, h.2.1, h.2.2.1⟩, h.2.2.2⟩, fun h => ⟨h.1.1, h.1.2.1, h.1.2.2, h.2⟩⟩
theorem Ch.head {p q d : Int} {b : List Int} (h : Ch p (d :: b)) (hq : d ≤ q + 1) : Ch q (d :: b) := ⟨h.1, hq, h.2.2⟩
/-- another one ahead, if the first one still fits -/
theorem Ch.re {p q : Int} {b : List Int} (h : Ch p b) (hq : ∀ d r, b = d :: r → d ≤ q + 1) : Ch q b := by
  cases b with
  | nil => trivial
  | cons d r => exact h.head (hq d r rfl)
theorem lastD_ge {p m : Int} {a : List Int} (hp : m ≤ p) (h : ∀ d ∈ a, m ≤ d) : m ≤ lastD p a := by
  induction a generalizing p with
  | nil => exact hp
  | cons d a ih => exact ih (h d (List.mem_cons_self ..)) fun x hx => h x (List.mem_cons_of_mem _ hx)
theorem lastD_app {p : Int} {a b : List Int} : lastD p (a ++ b) = lastD (lastD p a) b := by
  induction a generalizing p with
  | nil => rfl
  | cons d a ih => exact ih
theorem dv_cons {d : Int} {ds : List Int} : Dv (d :: ds) ↔ d = 1 ∧ Ch 1 ds := by
  have key : ∀ (ds : List Int) (p : Int), (∀ i, i + 1 < (p :: ds).length → 2 ≤ dg (p :: ds) (i + 1) ∧ dg (p :: ds) (i + 1) ≤ dg (p :: ds) i + 1) ↔ Ch p ds := by
    intro ds
    induction ds with
    | nil => intro p; exact ⟨fun _ => trivial, fun _ i hi => by simp at hi⟩
    | cons d ds ih =>
      intro p
      constructor
      · intro h
        have h0 := h 0 (by simp)
        exact ⟨h0.1, h0.2, (ih d).mp fun i hi => h (i + 1) (by simp at hi ⊢; omega)⟩
      · rintro ⟨h1, h2, h3⟩ i hi
        cases i with
        | zero => exact ⟨h1, h2⟩
        | succ i => exact (ih d).mpr h3 i (by simp at hi ⊢; omega)
  constructor
  · intro h
    have : d = 1 := h.one
    subst this
    exact ⟨rfl, (key ds 1).mp h.two⟩
  · rintro ⟨rfl, h⟩
    exact ⟨rfl, (key ds 1).mpr h⟩
theorem Dv.ne {ds : List Int} (h : Dv ds) : ds ≠ [] := by
  rintro rfl
  have := h.one
  exact absurd this (by decide)
/-- a branch gives way to another one that begins as deep -/
theorem dv_splice {A T T' B : List Int} {d : Int} (h : Dv (A ++ (d :: T) ++ B)) (hT : Ch d T') (hge : ∀ x ∈ T', d ≤ x) (hB : ∀ b r, B = b :: r → b ≤ d) : Dv (A ++ (d :: T') ++ B) := by
  cases A with
  | nil =>
    have h : Dv (d :: (T ++ B)) := h
    show Dv (d :: (T' ++ B))
    rw [dv_cons] at h ⊢
    obtain ⟨rfl, hc⟩ := h
    rw [Ch.app] at hc ⊢
    have := lastD_ge (p := 1) (m := 1) (Int.le_refl _) hge
    exact ⟨rfl, hT, hc.2.re fun b r e => by have := hB b r e; omega⟩
  | cons a A =>
    have h : Dv (a :: (A ++ (d :: T) ++ B)) := h
    show Dv (a :: (A ++ (d :: T') ++ B))
    rw [dv_cons] at h ⊢
    obtain ⟨rfl, hc⟩ := h
    rw [Ch.app, Ch.app] at hc ⊢
    obtain ⟨⟨h1, h2, h3, h4⟩, h5⟩ := hc
    refine ⟨rfl, ⟨h1, h2, h3, hT⟩, h5.re fun b r e => ?_⟩
    have := hB b r e
    rw [lastD_app]
    have : d ≤ lastD (lastD 1 A) (d :: T') := lastD_ge (p := d) (m := d) (Int.le_refl _) hge
    omega
/-- a leaf is left out -/
theorem dv_cut {A B : List Int} {d : Int} (hA : A ≠ []) (h : Dv (A ++ [d] ++ B)) (hB : ∀ b r, B = b :: r → b ≤ d) : Dv (A ++ B) := by
  cases A with
  | nil => exact absurd rfl hA
  | cons a A =>
    have h : Dv (a :: (A ++ [d] ++ B)) := h
    show Dv (a :: (A ++ B))
    rw [dv_cons] at h ⊢
    obtain ⟨rfl, hc⟩ := h
    rw [Ch.app, Ch.app] at hc
    rw [Ch.app]
    obtain ⟨⟨h1, h2, h3, _⟩, h5⟩ := hc
    exact ⟨rfl, h1, h5.re fun b r e => by have := hB b r e; omega⟩
/-- a branch of the steps: at k, to its end -/
structure Cutd (rows A S B : List Sr) (k n : Nat) (d : Int) : Prop where
  app : rows = A ++ S ++ B
  la : A.length = k
  ls : S.length = n + 1 - k
  hd : ∃ r T, S = r :: T ∧ r.2.2 = d ∧ ∀ x ∈ T, d < x.2.2
  lb : ∀ b r, B = b :: r → b.2.2 ≤ d
  kn : k ≤ n
  nl : n < rows.length
theorem cutd {rows : List Sr} {k n : Nat} {d : Int} (he : EndP (qds rows) k n) (hd : dg (qds rows) k = d) : Cutd rows (rows.take k) ((rows.take (n + 1)).drop k) (rows.drop (n + 1)) k n d := by
  obtain ⟨h1, h2, h3, h4⟩ := he
  rw [qds_len] at h2 h4
  have at_ : ∀ i r, rows[i]? = some r → dg (qds rows) i = r.2.2 := fun i r h => qds_at h
  refine ⟨?_, by rw [List.length_take]; omega, by rw [List.length_drop, List.length_take]; omega, ?_, ?_, h1, h2⟩
  · have e1 : rows.take k ++ (rows.take (n + 1)).drop k = rows.take (n + 1) := by
      have : rows.take k = (rows.take (n + 1)).take k := by rw [List.take_take, Nat.min_eq_left (by omega)]
      rw [this, List.take_append_drop]
    rw [e1, List.take_append_drop]
  · have hk : k < (rows.take (n + 1)).length := by rw [List.length_take]; omega
    rw [List.drop_eq_getElem_cons hk]
    refine ⟨_, _, rfl, ?_, fun x hx => ?_⟩
    · rw [← hd]
      refine (at_ k _ ?_).symm
      rw [List.getElem_take]
      exact List.getElem?_eq_getElem (by omega)
    · obtain ⟨i, hi⟩ := List.getElem?_of_mem hx
      rw [List.getElem?_drop, List.getElem?_take] at hi
      by_cases c : k + 1 + i < n + 1
      · rw [if_pos c] at hi
        have := h3 (k + 1 + i) (by omega) (by omega)
        rw [at_ _ _ hi, hd] at this
        exact this
      · rw [if_neg c] at hi; cases hi
  · intro b r e
    have hb : rows[n + 1]? = some b := by
      have : (rows.drop (n + 1))[0]? = some b := by rw [e]; rfl
      rw [List.getElem?_drop] at this
      exact this
    have hl := (List.getElem?_eq_some_iff.mp hb).1
    have := h4 hl
    rw [at_ _ _ hb, hd] at this
    omega
/-- a row that may stand in a question -/
def RowOk (dm : Int) (r : Sr) : Prop := (r.1 = "/" ∨ r.1 = "//") ∧ labelB r.2.1 = true ∧ r.2.2 ≤ dm
/-- what may come in a branch's place -/
structure Repl (A S' B : List Sr) (dm : Int) : Prop where
  dv : Dv (qds (A ++ S' ++ B))
  row : ∀ r ∈ S', RowOk dm r
theorem qds_app (a b : List Sr) : qds (a ++ b) = qds a ++ qds b := List.map_append ..
theorem Cutd.repl {rows A S B S' : List Sr} {k n g : Nat} {d dm : Int} (c : Cutd rows A S B k n d) (ok : QuOk rows g) (r : Sr) (T : List Sr) (e : S' = r :: T) (hr : r.2.2 = d) (hT : Ch d (qds T)) (hge : ∀ x ∈ T, d ≤ x.2.2) (row : ∀ r ∈ S', RowOk dm r) : Repl A S' B dm := by
  refine ⟨?_, row⟩
  obtain ⟨r0, T0, eS, h0, _⟩ := c.hd
  have hd := ok.dv
  rw [c.app, eS, qds_app, qds_app] at hd
  have hd : Dv (qds A ++ (r0.2.2 :: qds T0) ++ qds B) := hd
  rw [h0] at hd
  rw [e, qds_app, qds_app]
  show Dv (qds A ++ (r.2.2 :: qds T) ++ qds B)
  rw [hr]
  refine dv_splice hd hT (fun x hx => ?_) fun b t eb => ?_
  · obtain ⟨y, hy, rfl⟩ := List.mem_map.mp hx
    exact hge y hy
  · cases hB : B with
    | nil => rw [hB] at eb; cases eb
    | cons b0 B0 =>
      rw [hB] at eb
      injection eb with e1 e2
      rw [← e1]
      exact c.lb b0 B0 hB
/-- the depths of the branch itself -/
theorem Cutd.inner {rows A S B : List Sr} {k n g : Nat} {d : Int} (c : Cutd rows A S B k n d) (ok : QuOk rows g) : ∃ r T, S = r :: T ∧ r.2.2 = d ∧ Ch d (qds T) ∧ (∀ x ∈ T, d < x.2.2) ∧ 1 ≤ d := by
  obtain ⟨r0, T0, eS, h0, hT⟩ := c.hd
  have hd := ok.dv
  have hpos : 1 ≤ d := by
    have := ok.dv.pos k (by rw [qds_len]; have := c.kn; have := c.nl; omega)
    have hk : rows[k]? = some r0 := by
      rw [c.app, eS, List.append_assoc, List.getElem?_append_right (by rw [c.la]; exact Nat.le_refl _), c.la, Nat.sub_self]
      rfl
    rw [qds_at hk, h0] at this
    exact this
  rw [c.app, eS, qds_app, qds_app] at hd
  have hd : Dv (qds A ++ (r0.2.2 :: qds T0) ++ qds B) := hd
  rw [h0] at hd
  refine ⟨r0, T0, eS, h0, ?_, hT, hpos⟩
  cases hA : qds A with
  | nil =>
    rw [hA] at hd
    have hd : Dv (d :: (qds T0 ++ qds B)) := hd
    rw [dv_cons] at hd
    obtain ⟨rfl, hc⟩ := hd
    exact (Ch.app.mp hc).1
  | cons a A' =>
    rw [hA] at hd
    have hd : Dv (a :: (A' ++ (d :: qds T0) ++ qds B)) := hd
    rw [dv_cons] at hd
    obtain ⟨_, hc⟩ := hd
    exact (Ch.app.mp (Ch.app.mp hc).1).2.2.2
theorem Cutd.ok {rows A S B S' : List Sr} {k n g g' : Nat} {d dm : Int} (c : Cutd rows A S B k n d) (ok : QuOk rows g) (rp : Repl A S' B dm) (h30 : dm ≤ 30) (hl : (A ++ S' ++ B).length ≤ 100) (h1 : 1 ≤ (A ++ S' ++ B).length) (hg : g' < (A ++ S' ++ B).length) (hdm : ∀ r ∈ rows, r.2.2 ≤ dm) : QuOk (A ++ S' ++ B) g' ∧ ∀ r ∈ A ++ S' ++ B, r.2.2 ≤ dm := by
  have mem : ∀ r ∈ A ++ S' ++ B, r ∈ rows ∨ r ∈ S' := fun r hr => by
    rcases List.mem_append.mp hr with h | h
    · rcases List.mem_append.mp h with h | h
      · exact .inl (by rw [c.app]; exact List.mem_append_left _ (List.mem_append_left _ h))
      · exact .inr h
    · exact .inl (by rw [c.app]; exact List.mem_append_right _ h)
  have dp : ∀ r ∈ A ++ S' ++ B, r.2.2 ≤ dm := fun r hr => (mem r hr).elim (hdm r) fun h => (rp.row r h).2.2
  exact ⟨⟨h1, hl, fun r hr => (mem r hr).elim (ok.way r) fun h => (rp.row r h).1, fun r hr => (mem r hr).elim (ok.lab r) fun h => (rp.row r h).2.1, rp.dv, fun r hr => by have := dp r hr; omega, hg⟩, dp⟩
theorem ch_up {p : Int} {ds : List Int} (h : Ch p ds) (hp : 1 ≤ p) : Ch (p + 1) (ds.map (· + 1)) := by
  induction ds generalizing p with
  | nil => trivial
  | cons d ds ih =>
    have h1 := h.1
    have h2 := h.2.1
    exact ⟨show 2 ≤ d + 1 by omega, show d + 1 ≤ p + 1 + 1 by omega, ih h.2.2 (by omega)⟩
/-- a branch that begins at d, its rows at most b deep -/
def GoodB (d b : Int) (s : List Sr) : Prop := (∃ r T, s = r :: T ∧ r.2.2 = d ∧ Ch d (qds T) ∧ ∀ x ∈ T, d ≤ x.2.2) ∧ ∀ r ∈ s, RowOk b r
end Va

namespace Va
open PySem PySem.Spec PyProof.Rows L2 Bg
/-! ### a def that calls itself -/
section
variable {P : Program} {w : World} {K : PySem.W.Frag} {mg : Str → Option Value} {base : Heap} {CX : CXT} {f : Addr} {fd : FuncData} {ps : List Str}
theorem fn_void {α β : Type} {ar : α → List Sl} {res : Res β} {c : α → M β} (n : Nat) (h : ∀ a P X, ¬ c a P X) : FnOk P w K mg base CX n f fd ps (spC K ar res c) :=
  ⟨fun vs H Q E ⟨_, a, P, X, _, _, z, _⟩ => (h a P X z).elim, fun A outer s H args us vs Q E _ _ _ _ ⟨_, a, P, X, _, _, z, _⟩ => (h a P X z).elim⟩
theorem fn_rec {sp : Nat → Sp} {x : Str} (B : Nat) (hm : mg x = some (.ref f)) (hk : PySem.W.keepIn K (.ref f) = true) (hb : Binds K fd ps []) (h0 : FnOk P w K mg base CX B f fd ps (sp 0))
    (hs : ∀ n, Fn P w K mg base CX (B + n) x ps (sp n) → FnOk P w K mg base CX (B + n + 1) f fd ps (sp (n + 1))) : ∀ n, FnOk P w K mg base CX (B + n) f fd ps (sp n)
  | 0 => h0
  | n + 1 => hs n ⟨f, fd, fn_rec B hm hk hb h0 hs n, hm, hk, hb⟩
end
section
variable {K : PySem.W.Frag} {EX : L2.St → XK} {ρ : List Sl} {α β γ R : Type} {F : Fr R}
/-! ### a list of one's own is lent -/
class Flat {α : Type} (res : Res α) : Prop where
  any : ∀ {O O' : AP} {H H' : Hp} {v : V} {a : α}, res O H H' v a → res O' H H' v a
class FlatE {α : Type} (en : α → D) : Prop where
  any : ∀ {K : PySem.W.Frag} {O O' : AP} {H : Hp} {v : V} {a : α}, Rep K O H v (en a) → Rep K O' H v (en a)
instance : FlatE D.int := ⟨fun r => by cases r; exact .int _⟩
instance : FlatE D.bl := ⟨fun r => by cases r; exact .bl _⟩
instance : FlatE D.str := ⟨fun r => by cases r; exact .str _⟩
instance : FlatE eU := ⟨fun r => by cases r; exact .non⟩
instance {en : α → D} [FlatE en] : FlatE (eO en) := ⟨fun {K O O' H v a} r => by
  cases a with
  | none => cases r; exact .non
  | some a => exact FlatE.any (en := en) r⟩
instance {en : α → D} [FlatE en] : Flat (resE K en) := ⟨fun r => FlatE.any (en := en) r⟩
theorem flatL {en : α → D} [FlatE en] {O O' : AP} {H : Hp} : ∀ {l : List α} {vs : List V}, RepL K O H vs (l.map en) → RepL K O' H vs (l.map en)
  | [], _, .nil => .nil
  | a :: l, _, .cons r t => .cons (FlatE.any r) (flatL (l := l) t)
instance {en : α → D} [FlatE en] : Flat (resF K en) := ⟨fun ⟨p, vs, e, n, h, r⟩ => ⟨p, vs, e, n, h, flatL r⟩⟩
theorem rg_lend {t : TE} {res : Res α} [Flat res] {d : D} {w : M α} (i : Nat) (hk : RG K EX (ρ.set i (.sh d)) t res w) (nx : ∀ P X, w P X → w P fun _ => False) (h : ρ[i]? = some (.ow d) := by rfl) : RG K EX ρ t res w := fun B O H σ E P PX Q hp hq hx => by
  obtain ⟨O', _, E'⟩ := E.frz h
  exact hk B O' H σ E' P (fun _ => False) Q (nx P PX hp) (fun a v H' p e r => hq a v H' p e (Flat.any r)) fun _ _ _ _ z => z.elim
theorem rg_lendD {t : TE} {res : Res α} [Flat res] {d : OT} {d' : D} {w : M α} (i : Nat) (hd : d.d = d') (hk : RG K EX (ρ.set i (.sh d')) t res w) (nx : ∀ P X, w P X → w P fun _ => False) (h : ρ[i]? = some (.od d) := by rfl) : RG K EX ρ t res w := fun B O H σ E P PX Q hp hq hx => by
  obtain ⟨O', _, E'⟩ := E.frzD h
  rw [hd] at E'
  exact hk B O' H σ E' P (fun _ => False) Q (nx P PX hp) (fun a v H' p e r => hq a v H' p e (Flat.any r)) fun _ _ _ _ z => z.elim
/-! ### trees of one's own, as they are written -/
def oS {α : Type} (en : α → D) (a : α) : OT := .sh (en a)
def oL {α : Type} (oe : α → OT) (l : List α) : OT := .lst (l.map oe)
def oO {α : Type} (oe : α → OT) : Option α → OT
  | none => .sh .non
  | some a => oe a
theorem OT.ds_map (ts : List OT) : OT.ds ts = ts.map OT.d := by
  induction ts with
  | nil => rfl
  | cons t ts ih => rw [OT.ds, List.map_cons, ih]
theorem od_S (en : α → D) (a : α) : (oS en a).d = en a := rfl
theorem od_L {oe : α → OT} {en : α → D} (h : ∀ a, (oe a).d = en a) (l : List α) : (oL oe l).d = eL en l := by
  unfold oL eL
  rw [OT.d, OT.ds_map, List.map_map]
  congr 1
  exact List.map_congr_left fun a _ => h a
theorem od_O {oe : α → OT} {en : α → D} (h : ∀ a, (oe a).d = en a) (o : Option α) : (oO oe o).d = eO en o := by
  cases o with
  | none => rfl
  | some a => exact h a
/-- a new tree, all its own parts new -/
def resO (K : PySem.W.Frag) {α : Type} (oe : α → OT) : Res α := fun O H H' v a => ∃ as, RepO K (fun b => O b ∨ b ∈ as) H' v (oe a) as ∧ as.Nodup ∧ ∀ b ∈ as, H b = none
instance {oe : α → OT} : Lasts (resO K oe) := ⟨fun ⟨as, r, nd, n⟩ e => ⟨as, r.tr (ex_tr e) fun b _ u s q => e.keep b u (fun z => z) s q, nd, n⟩, fun ⟨as, r, nd, n⟩ e => ⟨as, r, nd, fun b m => e.free (fun z => z) (n b m)⟩⟩
theorem RG.ge {t : TE} {oe : α → OT} {en : α → D} {w : M α} (h : RG K EX ρ t (resO K oe) w) (hd : ∀ a, (oe a).d = en a) : RE K EX ρ t en w := h.imp fun O H H' v a d _ ⟨as, r, _, n⟩ => by
  show Rep K O H' v (en a)
  rw [← hd a]
  exact r.frz (fun b z => .inl z) fun b m z => d b z (n b m)
theorem repl_o {O : AP} {H : Hp} {en : α → D} : ∀ {l : List α} {vs : List V}, RepL K O H vs (l.map en) → RepOL K O H vs (l.map (oS en)) []
  | [], _, .nil => .nil
  | a :: l, _, .cons r t => RepOL.cons (as := []) (.sh r) (repl_o (l := l) t)
theorem repl_s {O : AP} {H : Hp} {en : α → D} : ∀ {l : List α} {vs : List V} {as : List Addr}, RepOL K O H vs (l.map (oS en)) as → RepL K O H vs (l.map en) ∧ as = []
  | [], _, _, .nil => ⟨.nil, rfl⟩
  | a :: l, _, _, .cons (.sh r) t => by
    obtain ⟨q, e⟩ := repl_s (l := l) t
    exact ⟨.cons r q, by rw [e]; rfl⟩
theorem RG.fg {t : TE} {en : α → D} {w : M (List α)} (h : RF K EX ρ t en w) : RG K EX ρ t (resO K (oL (oS en))) w := h.imp fun O H H' v l d _ ⟨p, vs, e, n, hp, r⟩ => by
  subst e
  refine ⟨[p], .lst hp (repl_o (r.mono fun b z => z.imp id fun m => List.mem_singleton.mp m)), List.nodup_cons.mpr ⟨(fun z => nomatch z), List.nodup_nil⟩, fun b m => by rw [List.mem_singleton.mp m]; exact n⟩
theorem RG.go {t : TE} {oe : α → OT} {w : M α} (h : RG K EX ρ t (resO K oe) w) : RG K EX ρ t (resO K (oO oe)) (w >>= fun a => pure (some a)) := fun B O H σ E P PX Q hw hq hx =>
  h B O H σ E (fun a => P (some a)) PX Q hw (fun a v H' p e r => hq (some a) v H' p e r) hx
theorem rg_gnone {oe : α → OT} : RG K EX ρ (tC .non) (resO K (oO oe)) (pure none) := fun B O H σ E P PX Q hw hq hx =>
  hq none .non H hw (.refl _ _) ⟨[], .sh .non, List.nodup_nil, fun b m => nomatch m⟩
/-! statements -/
theorem rb_ownD {te : TE} {oe : α → OT} {w : M α} {u : TS} {k : α → M R} (i : Nat) (he : RG K EX ρ te (resO K oe) w) (hk : ∀ a, RB K EX F (ρ.set i (.od (oe a))) u (k a)) (hx : LeX F.ρx ρ := by first | exact lex_nil | (refine lex_le ?_; repeat (first | exact le_nil | refine le_cons ?_ | refine le_no ?_))) : RB K EX F ρ (tSeq (tAsg te (gName i)) u) (w >>= k) := fun B O H σ D E P PX hp nx bk ct rt xc =>
  he B O H σ E _ PX _ hp (fun a v H1 p1 e1 ⟨as, r, nd, n⟩ => by
    refine hk a B (fun b => O b ∨ b ∈ as) H1 _ D (E.owns (N := fun b => b ∈ as) i n e1 (fun b m => ?_) ⟨v, as, rfl, r, nd, fun b m => ⟨.inr m, E.bfree (n b m), .inr (E.free (n b m)).2⟩⟩ ?_) P PX p1 nx bk ct rt xc
    · obtain ⟨u, hu, _⟩ := r.dom b m
      rw [hu]; exact fun z => nomatch z
    · rintro bs ⟨v', O', e, r'⟩ b m
      cases e
      rw [r.det r']; exact m) fun x cls d H' px e k => xc ρ O σ x cls d H' (E.ex e) hx px k
theorem rb_retD {oe : α → OT} {x : α} {u : TS} {nx bk ct : EndS R} {kr : α → M R} {ρx : List Sl} (i : Nat) (h : ρ[i]? = some (.od (oe x)) := by rfl) : RB K EX ⟨nx, bk, ct, α, resO K oe, kr, ρx⟩ ρ (tSeq (tRet (tVar i)) u) (kr x) := fun B O H σ D E P PX hp nx bk ct rt xc => by
  obtain ⟨v, as, hv, r, nd, k⟩ := E.at_ i _ h
  exact ⟨v, hv, rt x _ H E.ext ⟨as, r.tr (fun b u n _ q => ⟨q, fun z => n (z.elim (E.sub b) fun m => (k b m).1)⟩) fun b _ u _ q => q, nd, fun b m => (k b m).2.1⟩ hp⟩
theorem rb_retG {te : TE} {oe : α → OT} {w : M α} {u : TS} {nx bk ct : EndS R} {kr : α → M R} {ρx : List Sl} (he : RG K EX ρ te (resO K oe) w) (hx : LeX ρx ρ := by first | exact lex_nil | (refine lex_le ?_; repeat (first | exact le_nil | refine le_cons ?_ | refine le_no ?_))) : RB K EX ⟨nx, bk, ct, α, resO K oe, kr, ρx⟩ ρ (tSeq (tRet te) u) (w >>= kr) := fun B O H σ D E P PX hp nx bk ct rt xc =>
  he B O H σ E _ PX _ hp (fun a v H1 p1 e1 ⟨as, r, nd, n⟩ => rt a v H1 (E.ex e1).ext ⟨as, r.tr (fun b u n _ q => ⟨q, fun z => n (z.imp (E.sub b) id)⟩) fun b _ u _ q => q, nd, fun b m => E.bfree (n b m)⟩ p1) fun x cls d H' px e k => xc ρ O σ x cls d H' (E.ex e) hx px k
/-- an own list, or None, is known to be a list -/
def needS {α : Type} (o : Option α) : M α := fun P _ => ∃ a, o = some a ∧ P a
theorem od_ow {B : Bs} {O : AP} {H : Hp} {σ : L2.St} {i : Nat} {en : α → D} {l : List α} (E : En K B O H σ ρ) (h : ρ[i]? = some (.od (oL (oS en) l))) : En K B O H σ (ρ.set i (.ow (.lst (l.map en)))) := by
  obtain ⟨v, as, hv, r, nd, k⟩ := E.at_ i _ h
  cases r with
  | lst hp r =>
    obtain ⟨r2, rfl⟩ := repl_s r
    obtain ⟨o, f, a⟩ := k _ List.mem_cons_self
    have ow : Own K H (σ[i]?) (.od (oL (oS en) l)) [_] := ⟨_, O, hv, .lst hp r⟩
    refine ⟨E.sub, E.bdom, E.osub, E.dom, E.adom, E.fdom, E.ext, by simp [E.len], fun j t hj => ?_, fun j m t1 t2 as1 as2 b h1 h2 w1 w2 m1 m2 => ?_⟩
    · rcases set_get hj with ⟨rfl, rfl, hl⟩ | ⟨hne, hj⟩
      · exact ⟨_, _, hv, o, f, a, hp, r2⟩
      · exact E.at_ j t hj
    · have back : ∀ (j : Nat) (t : Sl) (cs : List Addr), (ρ.set i (.ow (.lst (l.map en))))[j]? = some t → Own K H (σ[j]?) t cs → ∃ t2, ρ[j]? = some t2 ∧ Own K H (σ[j]?) t2 cs := fun j t cs hj w' => by
        rcases set_get hj with ⟨rfl, rfl, _⟩ | ⟨hne, hj⟩
        · obtain ⟨p, e, rfl⟩ := w'
          rw [hv] at e; cases e
          exact ⟨_, h, ow⟩
        · exact ⟨t, hj, w'⟩
      obtain ⟨u1, g1, k1⟩ := back j t1 as1 h1 w1
      obtain ⟨u2, g2, k2⟩ := back m t2 as2 h2 w2
      exact E.inj j m u1 u2 as1 as2 b g1 g2 k1 k2 m1 m2
theorem rb_od {en : α → D} {l : List α} {t : TS} {p : M R} (i : Nat) (hk : RB K EX F (ρ.set i (.ow (.lst (l.map en)))) t p) (h : ρ[i]? = some (.od (oL (oS en) l)) := by rfl) : RB K EX F ρ t p := fun B O H σ D E P PX hp nx bk ct rt xc =>
  hk B O H σ D (od_ow E h) P PX hp nx bk ct rt xc
theorem rb_odS {en : α → D} {o : Option (List α)} {t : TS} {k : List α → M R} (i : Nat) (hk : ∀ l, RB K EX F (ρ.set i (.ow (.lst (l.map en)))) t (k l)) (h : ρ[i]? = some (.od (oO (oL (oS en)) o)) := by rfl) : RB K EX F ρ t (needS o >>= k) := fun B O H σ D E P PX ⟨l, e, hp⟩ nx bk ct rt xc => by
  subst e
  exact hk l B O H σ D (od_ow E h) P PX hp nx bk ct rt xc
end
end Va

namespace Va
open PySem PySem.Spec PyProof.Rows L2 Bg
section
variable {K : PySem.W.Frag} {EX : L2.St → XK} {ρ : List Sl} {α β γ R : Type} {F : Fr R} {O O' : AP} {H H' : Hp}
/-! ### own trees: reading -/
theorem RepOL.length {vs : List V} {ts : List OT} {as : List Addr} (r : RepOL K O H vs ts as) : vs.length = ts.length := by
  induction ts generalizing vs as with
  | nil => cases r; rfl
  | cons d ds ih => cases r with | cons r t => rw [List.length_cons, List.length_cons, ih t]
theorem RepOL.get {vs : List V} {ts : List OT} {as : List Addr} (r : RepOL K O H vs ts as) {i : Nat} {t : OT} (h : ts[i]? = some t) : ∃ v bs, vs[i]? = some v ∧ RepO K O H v t bs ∧ ∀ b ∈ bs, b ∈ as := by
  induction ts generalizing vs as i with
  | nil => cases h
  | cons d ds ih =>
    cases r with
    | cons r q =>
      cases i with
      | zero => cases h; exact ⟨_, _, rfl, r, fun b m => List.mem_append_left _ m⟩
      | succ i =>
        obtain ⟨v, bs, e, k, m⟩ := ih q h
        exact ⟨v, bs, e, k, fun b z => List.mem_append_right _ (m b z)⟩
/-- one of the trees changes at an own part of it -/
theorem RepOL.put {p : Addr} {o' : HO} {t t' : OT} (ho : O p) : ∀ {ts : List OT} {vs : List V} {as : List Addr} {i : Nat}, RepOL K O H vs ts as → as.Nodup → ts[i]? = some t → (∀ v bs, vs[i]? = some v → RepO K O H v t bs → p ∈ bs ∧ RepO K O (upd H p o') v t' bs) → RepOL K O (upd H p o') vs (ts.set i t') as
  | [], _, _, _, _, _, h, _ => nomatch h
  | d :: ds, v :: vs, _, 0, .cons (as := as1) (bs := bs1) r q, nd, h, k => by
    cases h
    obtain ⟨m, r'⟩ := k v as1 rfl r
    have nb : p ∉ bs1 := fun z => (List.nodup_append.mp nd).2.2 p m p z rfl
    exact .cons r' (q.tr (up_tr ho) fun b z u _ e => by rw [upd_ne (fun (y : b = p) => nb (y ▸ z))]; exact e)
  | d :: ds, v :: vs, _, i + 1, .cons (as := as1) (bs := bs1) r q, nd, h, k => by
    have h : ds[i]? = some t := h
    obtain ⟨v', bs, e, kk, m⟩ := q.get h
    have mp := m p (k v' bs e kk).1
    have na : p ∉ as1 := fun z => (List.nodup_append.mp nd).2.2 p z p mp rfl
    exact .cons (r.tr (up_tr ho) fun b z u _ e => by rw [upd_ne (fun (y : b = p) => na (y ▸ z))]; exact e) (RepOL.put ho q (List.nodup_append.mp nd).2.1 h k)
/-- an own thing as it is seen -/
def resV (K : PySem.W.Frag) {α : Type} (oe : α → OT) : Res α := fun O _ H' v a => ∃ as, RepO K O H' v (oe a) as
instance {oe : α → OT} : Lasts (resV K oe) := ⟨fun ⟨as, r⟩ e => ⟨as, r.tr (ex_tr e) fun b _ u s q => e.keep b u (fun z => z) s q⟩, fun r _ => r⟩
theorem rv_var {oe : α → OT} {x : α} (i : Nat) (h : ρ[i]? = some (.od (oe x)) := by rfl) : RG K EX ρ (tVar i) (resV K oe) (pure x) := fun B O H σ E P PX Q hw hq _ => by
  obtain ⟨v, as, hv, r, _⟩ := E.at_ i _ h
  exact ⟨v, hv, hq x v H hw (.refl _ _) ⟨as, r⟩⟩
theorem RepO.isN {v : V} {t : OT} {as : List Addr} (r : RepO K O H v t as) : decide (v = .non) = Va.isN t.d := by
  cases r with
  | sh r => exact Rep.isN r
  | lst _ _ => rfl
  | tup _ _ => rfl
  | dct _ _ _ _ => rfl
  | dcp _ _ _ => rfl
  | obj _ _ _ => rfl
theorem re_isNV {ta : TE} {oe : α → OT} {wa : M α} (ha : RG K EX ρ ta (resV K oe) wa) : RE K EX ρ (tOp (fun x y H Q => y = .non ∧ Q (.bl (decide (x = .non))) H) ta (tC .non)) D.bl (wa >>= fun a => pure (Va.isN (oe a).d)) := fun B O H σ E P PX Q hw hq hx =>
  ha B O H σ E _ PX _ hw (fun a v H' p e ⟨as, r⟩ => by
    refine ⟨rfl, ?_⟩
    rw [r.isN]
    exact hq _ _ _ p e (.bl _)) hx
theorem re_notNV {ta : TE} {oe : α → OT} {wa : M α} (ha : RG K EX ρ ta (resV K oe) wa) : RE K EX ρ (tOp (fun x y H Q => y = .non ∧ Q (.bl (!decide (x = .non))) H) ta (tC .non)) D.bl (wa >>= fun a => pure (!Va.isN (oe a).d)) := fun B O H σ E P PX Q hw hq hx =>
  ha B O H σ E _ PX _ hw (fun a v H' p e ⟨as, r⟩ => by
    refine ⟨rfl, ?_⟩
    rw [r.isN]
    exact hq _ _ _ p e (.bl _)) hx
theorem isN_S (o : Option α) (en : α → D) (h : ∀ a, Va.isN (en a) = false) : Va.isN (eO en o) = o.isNone := by
  cases o with
  | none => rfl
  | some a => exact h a
theorem rv_ix {ta tb : TE} {oe : α → OT} {wa : M (List α)} {wb : M Int} (ha : RG K EX ρ ta (resV K (oL oe)) wa) (hb : RE K EX ρ tb D.int wb) : RG K EX ρ (tOp (rIxL K) ta tb) (resV K oe) (wa >>= fun a => wb >>= fun b => getI a b) :=
  rg_op (fun O H0 H x y a b P PX Q _ r1 r2 p q => by
    obtain ⟨as, r1⟩ := r1
    cases r2
    obtain ⟨z, hz, p⟩ := p
    cases r1 with
    | lst hp r =>
      unfold L2.atI at hz
      cases c : ixN a.length b with
      | none => rw [c] at hz; cases hz
      | some j =>
        rw [c] at hz
        have hz : a[j]? = some z := hz
        obtain ⟨v, bs, e, k, _⟩ := r.get (t := oe z) (i := j) (by rw [List.getElem?_map, hz]; rfl)
        have hl := r.length
        rw [List.length_map] at hl
        refine ⟨_, _, b, v, rfl, rfl, .inl (.inl hp), ?_, q _ _ _ p (.refl _ _) ⟨bs, k⟩⟩
        unfold L2.atI
        rw [hl, c]
        exact e) ha hb
theorem RG.vq {t : TE} {en : α → D} {w : M (List α)} (h : RG K EX ρ t (resV K (oL (oS en))) w) : RQ K EX ρ t en w := h.imp fun _ _ _ _ _ _ _ ⟨as, r⟩ => by
  cases r with
  | lst h r => exact ⟨_, _, rfl, .inl (.inl h), (repl_s r).1⟩
/-! xs[j].append(e) -/
def app2 {α : Type} (l : List (List α)) (j : Int) (a : α) : M (List (List α)) := fun P _ => ∃ n row, ixN l.length j = some n ∧ l[n]? = some row ∧ row.length < sizeLine ∧ P (l.set n (row ++ [a]))
theorem rb_app2 {te ti : TE} {en : α → D} {w : M α} {wi : M Int} {u : TS} {l : List (List α)} {k : List (List α) → M R} (i : Nat) (hi : RE K EX ρ ti D.int wi) (he : RE K EX ρ te en w) (hk : ∀ l', RB K EX F (ρ.set i (.od (oL (oL (oS en)) l'))) u (k l')) (h : ρ[i]? = some (.od (oL (oL (oS en)) l)) := by rfl) (hx : LeX F.ρx ρ := by first | exact lex_nil | (refine lex_le ?_; repeat (first | exact le_nil | refine le_cons ?_ | refine le_no ?_))) :
    RB K EX F ρ (tSeq (tDrop (tBM K "list" rAppend (tOp (rIxL K) (tVar i) ti) (tCons te tNil))) u) (wi >>= fun j => (need (∃ n, ixN l.length j = some n) >>= fun _ => (w >>= fun a => app2 l j a >>= k))) := fun B O H σ D E P PX hp nx bk ct rt xc => by
  obtain ⟨v, as, hv, r0, nd, own⟩ := E.at_ i _ h
  refine ⟨v, hv, hi B O H σ E _ PX _ hp (fun j vj H1 p1 e1 r1 => ?_) fun x cls d H' px e k => xc ρ O σ x cls d H' (E.ex e) hx px k⟩
  cases r1
  obtain ⟨⟨n, hn⟩, p1⟩ := p1
  have E1 := E.ex e1
  have r1 := r0.tr (ex_tr e1) (fun b _ u s q => e1.keep b u (fun z => z) s q)
  have hnl : n < l.length := (ixN_seq hn).2.1
  cases r1 with
  | @lst a vs ts as' hpa rl =>
    have hl := rl.length
    rw [List.length_map] at hl
    obtain ⟨v1, bs, ev, k1, mb⟩ := rl.get (t := oL (oS en) l[n]) (i := n) (by rw [List.getElem?_map, List.getElem?_eq_getElem hnl]; rfl)
    cases k1 with
    | @lst p ws ts' cs hpp rw1 =>
      refine ⟨_, _, j, .ref p, rfl, rfl, .inl (.inl hpa), ?_, .inl ⟨rfl, ws, SqL.of hpp⟩, he B O H1 σ E1 _ PX _ p1 (fun a2 v2 H2 p2 e2 r2 => ?_) fun x cls d H' px e k => xc ρ O σ x cls d H' (E1.ex e) hx px k⟩
      · unfold L2.atI
        rw [hl, hn]
        exact ev
      · obtain ⟨n', row, hn', hrow, hlen, p2⟩ := p2
        rw [hn] at hn'
        cases hn'
        rw [List.getElem?_eq_getElem hnl] at hrow
        cases hrow
        have E2 := E1.ex e2
        have hpa2 := e2.keep _ _ (fun z => z) ns_lst hpa
        have hpp2 := e2.keep _ _ (fun z => z) ns_lst hpp
        have rl2 := rl.tr (ex_tr e2) (fun b _ u s q => e2.keep b u (fun z => z) s q)
        have mp : p ∈ as' := mb p List.mem_cons_self
        have op : O p := (own p (List.mem_cons_of_mem _ mp)).1
        have nap : a ≠ p := fun z => (List.nodup_cons.mp nd).1 (z ▸ mp)
        have rw2 := (repl_s rw1).1
        have rw3 := rw2.ex e2
        have hwl := rw3.length
        rw [List.length_map] at hwl
        have up : Ext (fun b => b = p) H2 (upd H2 p (.lst (ws ++ [v2]))) := up_ext hpp2 ns_lst
        have A : ∀ b, b = p → O b := fun b z => z ▸ op
        have newrow : RepO K O (upd H2 p (.lst (ws ++ [v2]))) (.ref p) (oL (oS en) (l[n] ++ [a2])) [p] := by
          refine .lst upd_same (repl_o ?_)
          rw [List.map_append]
          exact (rw3.ext up A).snoc (Rep.ext r2 up A)
        have rl3 : RepOL K O (upd H2 p (.lst (ws ++ [v2]))) vs ((l.map (oL (oS en))).set n (oL (oS en) (l[n] ++ [a2]))) as' := by
          refine RepOL.put (t := oL (oS en) l[n]) op rl2 (List.nodup_cons.mp nd).2 (by rw [List.getElem?_map, List.getElem?_eq_getElem hnl]; rfl) fun v bs ev2 rb => ?_
          rw [ev] at ev2
          cases ev2
          cases rb with
          | lst hq rq =>
            obtain ⟨_, rfl⟩ := repl_s rq
            exact ⟨List.mem_cons_self, newrow⟩
        have newt : RepO K O (upd H2 p (.lst (ws ++ [v2]))) (.ref a) (oL (oL (oS en)) (l.set n (l[n] ++ [a2]))) (a :: as') := by
          refine .lst (by rw [upd_ne nap]; exact hpa2) ?_
          rw [List.map_set]
          exact rl3
        have ow2 : Own K H2 (σ[i]?) (.od (oL (oL (oS en)) l)) (a :: as') := ⟨_, O, hv, .lst hpa2 rl2⟩
        refine ⟨p, ws, v2, rfl, rfl, hpp2, by rw [hwl]; exact hlen, hk _ B O _ σ D (E2.mutW h ow2 (List.mem_cons_of_mem _ mp) hpp2 ⟨_, _, hv, newt, nd, own⟩ fun bs w b m => ?_) P PX p2 nx bk ct rt xc⟩
        obtain ⟨v', O2, e', r'⟩ := w
        rw [hv] at e'
        cases e'
        rw [newt.det r']
        exact m
end
end Va

namespace Va
open PySem PySem.Spec PyProof.Rows L2 Bg
section
variable {K : PySem.W.Frag} {EX : L2.St → XK} {ρ : List Sl} {α β γ R : Type} {F : Fr R}
theorem RepOL.app {O : AP} {H : Hp} : ∀ {ts us : List OT} {vs ws : List V} {as bs : List Addr}, RepOL K O H vs ts as → RepOL K O H ws us bs → RepOL K O H (vs ++ ws) (ts ++ us) (as ++ bs)
  | [], _, _, _, _, _, .nil, s => s
  | t :: ts, _, _, _, _, _, .cons r q, s => by
    rw [List.append_assoc]
    exact .cons r (RepOL.app q s)
/-- a list of new things, each of its own -/
theorem rg_lcO {wi : TI} {g : TG} {tt : TT} {te : TE} {vs : List Nat} {en : α → D} {oe : β → OT} {ft : α → List Sl → List Sl} {wl : M (List α)} {wt : α → M Bool} {wf : α → M β} (hi : RI K EX ρ wi false en wl) (hg : RTg K g en ft vs) (ht : ∀ x, RT K EX (ft x (wipeR ρ vs)) tt (wt x)) (hf : ∀ x, RG K EX (ft x (wipeR ρ vs)) te (resO K oe) (wf x))
    (hE : ∀ σ σ', L2.wipe σ vs = L2.wipe σ' vs → EX σ = EX σ') : RG K EX ρ (tLc wi g tt te vs) (resO K (oL oe)) (wl >>= fun l => (need (l.length ≤ sizeLine) >>= fun _ => lcM l wt wf)) := fun B O H σ E P PX Q hw hq hx => by
  refine hi B O H σ E _ PX _ hw (fun l J H1 p e1 it => ?_) hx
  obtain ⟨hlen, p⟩ := p
  intro A hA
  have E1 := E.ex e1
  have hOA : ¬ O A := (E1.free hA).1
  have hBA := (E1.free hA).2
  have nn : ∀ {H : Hp}, Ext No H1 H → ∀ (i : Nat) (s : Sl) (as : List Addr), ρ[i]? = some s → Own K H (σ[i]?) s as → A ∉ as := fun {H} e i s as h w m => by
    have w' := (E1.at_ i s h).back (ex_tr e) (fun _ _ b _ u n q => e.keep b u (fun z => z) n q) w
    exact hOA ((E1.at_ i s h).in_ w' A m).1
  refine ⟨fun i m H => i ≤ l.length ∧ m = l.length - i ∧ ∃ as : List Addr, En K B (fun b => Pl O A b ∨ b ∈ as) H σ ρ ∧ Ext No H1 H ∧ as.Nodup ∧ A ∉ as ∧ (∀ b ∈ as, H1 b = none) ∧ ∃ (acc : List β) (ws : List V), H A = some (.lst ws) ∧ RepOL K (fun b => Pl O A b ∨ b ∈ as) H ws (acc.map oe) as ∧ acc.length ≤ i ∧ lcM (l.drop i) wt wf (fun r => P (acc ++ r)) PX, ⟨l.length, Nat.zero_le _, rfl, [], ?_⟩, ?_⟩
  · have E0 := E1.shun (H' := upd H1 A (.lst [])) hA (.new hA) (by rw [upd_same]; exact fun z => nomatch z)
    exact ⟨E0.shuns (N := fun b => b ∈ ([] : List Addr)) (fun b z => nomatch z) (.refl _ _) (fun b z => nomatch z), .new hA, List.nodup_nil, (fun z => nomatch z), (fun b z => nomatch z), [], [], upd_same, .nil, Nat.le_refl _, p⟩
  rintro i m H2 ⟨hi2, rfl, as, E2, e2, nd, nA, nas, acc, ws, hA2, r2, hacc, p2⟩
  obtain ⟨ig, is⟩ := it H2 e2.no
  by_cases c : i < l.length
  · right
    obtain ⟨go, y⟩ := ig i l[i] (List.getElem?_eq_getElem c)
    refine ⟨go, fun H' => i + 1 ≤ l.length ∧ ∃ as : List Addr, En K B (fun b => Pl O A b ∨ b ∈ as) H' σ ρ ∧ Ext No H1 H' ∧ as.Nodup ∧ A ∉ as ∧ (∀ b ∈ as, H1 b = none) ∧ ∃ (acc : List β) (ws : List V), H' A = some (.lst ws) ∧ RepOL K (fun b => Pl O A b ∨ b ∈ as) H' ws (acc.map oe) as ∧ acc.length ≤ i + 1 ∧ lcM (l.drop (i + 1)) wt wf (fun r => P (acc ++ r)) PX, fun H' z => ⟨l.length - (i + 1), by omega, z.1, rfl, z.2⟩, fun v H3 hy => ?_⟩
    obtain ⟨e3, rv⟩ := y v H3 hy
    have E3 := E2.ex e3
    have rv := rv (fun b => Pl O A b ∨ b ∈ as) (fun b z => z.elim (fun z => z.elim .inl fun q => .inr (by rw [q]; exact hA)) fun m => .inr (nas b m)) E2.dom
    rw [List.drop_eq_getElem_cons c] at p2
    refine hg.run B (fun b => Pl O A b ∨ b ∈ as) H3 _ _ l[i] v _ (E3.wipe vs) rv fun σ' E' hwp => ⟨by rw [hwp, wipe_wipe], ?_⟩
    have hEX : EX σ' = EX σ := hE _ _ (by rw [hwp, wipe_wipe])
    have e13 := e2.trans e3
    have mo : ∀ b, O b → (Pl O A b ∨ b ∈ as) := fun b z => .inl (.inl z)
    refine ht l[i] B _ H3 σ' E' _ PX _ p2 (fun b H4 p4 e4 => ?_) fun x cls d H' px e k => by rw [hEX]; exact hx x cls d H' px (e1.trans (e13.trans e)) (k.mono mo)
    have e14 := e13.trans e4
    have A4 : H4 A = some (.lst ws) := (e3.trans e4).keep _ _ (fun z => z) ns_lst hA2
    have R4 := r2.tr (ex_tr (e3.trans e4)) (fun b _ u s q => (e3.trans e4).keep b u (fun z => z) s q)
    cases b with
    | false => exact iteF ⟨c, as, E3.ex e4, e14, nd, nA, nas, acc, ws, A4, R4, by omega, p4⟩
    | true =>
      refine iteT (hf l[i] B _ H4 σ' (E'.ex e4) _ PX _ p4 (fun y u H5 p5 e5 r5 => ?_) fun x cls d H' px e k => by rw [hEX]; exact hx x cls d H' px (e1.trans (e14.trans e)) (k.mono mo))
      obtain ⟨bs, r5, nd5, nb5⟩ := r5
      have A5 : H5 A = some (.lst ws) := e5.keep _ _ (fun z => z) ns_lst A4
      have e15 := e14.trans e5
      have hA4 : H4 A ≠ none := by rw [A4]; exact fun z => nomatch z
      have Ab : A ∉ bs := fun z => hA4 (nb5 A z)
      have asb : ∀ b ∈ as, b ∉ bs := fun b m z => by
        obtain ⟨u, hu, _⟩ := R4.dom b m
        rw [nb5 b z] at hu
        cases hu
      have nbs : ∀ b ∈ bs, H1 b = none := fun b z => e14.free (fun z => z) (nb5 b z)
      have hl := R4.length
      rw [List.length_map] at hl
      have up : Ext (fun b => b = A) H5 (upd H5 A (.lst (ws ++ [u]))) := up_ext A5 ns_lst
      have E5 := ((E3.ex e4).shuns (N := fun b => b ∈ bs) nb5 e5 fun b m => by obtain ⟨u, hu, _⟩ := r5.dom b m; rw [hu]; exact fun z => nomatch z)
      have E6 : En K B (fun b => Pl O A b ∨ b ∈ as ++ bs) H5 σ ρ := by
        have : (fun b => (Pl O A b ∨ b ∈ as) ∨ b ∈ bs) = fun b => Pl O A b ∨ b ∈ as ++ bs := by
          funext b; rw [List.mem_append, or_assoc]
        rw [← this]; exact E5
      have oA : (fun b => Pl O A b ∨ b ∈ as ++ bs) A := .inl (.inr rfl)
      have R5 : RepOL K (fun b => Pl O A b ∨ b ∈ as ++ bs) H5 ws (acc.map oe) as := R4.tr (fun b u n s q => ⟨e5.keep b u (fun z => z) s q, fun z => z.elim (fun z => n (.inl z)) fun m => (List.mem_append.mp m).elim (fun m => n (.inr m)) fun m => by rw [nb5 b m] at q; cases q⟩) (fun b _ u s q => e5.keep b u (fun z => z) s q)
      have R5' : RepO K (fun b => Pl O A b ∨ b ∈ as ++ bs) H5 u (oe y) bs := by
        have : (fun b => (Pl O A b ∨ b ∈ as) ∨ b ∈ bs) = fun b => Pl O A b ∨ b ∈ as ++ bs := by
          funext b; rw [List.mem_append, or_assoc]
        rw [← this]; exact r5
      refine ⟨ws, A5, by omega, c, as ++ bs, E6.grow oA A5 ns_lst hBA (nn e15), ?_, List.nodup_append.mpr ⟨nd, nd5, fun a m b z e => asb a m (e ▸ z)⟩, fun z => (List.mem_append.mp z).elim nA Ab, fun b z => (List.mem_append.mp z).elim (nas b) (nbs b), acc ++ [y], ws ++ [u], upd_same, ?_, by simp; omega, ?_⟩
      · refine ⟨fun b o n s h => ?_, fun b h => up.src b (e15.src b h)⟩
        have := e15.keep b o n s h
        rw [upd_ne]
        · exact this
        · intro z; rw [z, hA] at h; cases h
      · rw [List.map_append]
        refine (R5.tr (up_tr oA) fun b m u _ q => ?_).app ?_
        · rw [upd_ne (fun (z : b = A) => nA (z ▸ m))]; exact q
        · have := RepOL.cons (R5'.tr (O' := fun b => Pl O A b ∨ b ∈ as ++ bs) (H' := upd H5 A (.lst (ws ++ [u]))) (up_tr oA) fun b m u _ q => by rw [upd_ne (fun (z : b = A) => Ab (z ▸ m))]; exact q) (RepOL.nil (K := K))
          rw [List.append_nil] at this
          exact this
      · have : (fun r => P (acc ++ [y] ++ r)) = fun r => P (acc ++ (y :: r)) := by funext r; rw [List.append_assoc]; rfl
        rw [this]
        exact p5
  · left
    have hi3 : i = l.length := by omega
    subst hi3
    rw [List.drop_length] at p2
    have p2 : P (acc ++ []) := p2
    rw [List.append_nil] at p2
    refine ⟨is, hq acc _ H2 p2 (e1.trans e2) ⟨A :: as, .lst hA2 (r2.tr (fun b u n _ q => ⟨q, fun z => n (z.elim (fun z => .inl (.inl z)) fun m => (List.mem_cons.mp m).elim (fun e => .inl (.inr e)) .inr)⟩) fun b _ u _ q => q), List.nodup_cons.mpr ⟨nA, nd⟩, fun b m => (List.mem_cons.mp m).elim (fun e => e ▸ e1.free (fun z => z) hA) fun m => e1.free (fun z => z) (nas b m)⟩⟩
theorem eL_any (en : α → D) (l : List α) : eL (fun d : D => d) (l.map en) = eL en l := by
  unfold eL
  rw [List.map_map]
  rfl
/-- an own list is returned where None may be -/
theorem rb_retOO {en : α → D} {l : List α} {u : TS} {nx bk ct : EndS R} {kr : Option (List α) → M R} {ρx : List Sl} (i : Nat) (h : ρ[i]? = some (.ow (.lst (l.map en))) := by rfl) : RB K EX ⟨nx, bk, ct, Option (List α), resO K (oO (oL (oS en))), kr, ρx⟩ ρ (tSeq (tRet (tVar i)) u) (kr (some l)) := fun B O H σ D E P PX hp nx bk ct rt xc => by
  obtain ⟨p, vs, hv, o, hF, _, hpl, r⟩ := E.at_ i _ h
  exact ⟨.ref p, hv, rt (some l) _ H E.ext ⟨[p], .lst hpl (repl_o (r.mono fun b z => z.elim (E.sub b) fun e => List.mem_singleton.mp e ▸ o)), List.nodup_cons.mpr ⟨(fun z => nomatch z), List.nodup_nil⟩, fun b m => by rw [List.mem_singleton.mp m]; exact hF⟩ hp⟩
end
end Va

namespace Va
open PySem PySem.Spec PyProof.Rows L2 Bg
/-! ### maps found -/
section
variable {r1 r2 : List Sr} {g1 g2 : Nat}
/-- a step may have an image, and all beneath it find images -/
inductive Sub (r1 : List Sr) (g1 : Nat) (r2 : List Sr) (g2 : Nat) : Nat → Nat → Prop
  | mk {k i : Nat} (f : Nat → Nat) : k < r1.length → i < r2.length → Likes r1 g1 r2 g2 k i → (∀ l, Par (qds r1) k l → Sub r1 g1 r2 g2 l (f l)) → (∀ l, Par (qds r1) k l → GoesT r1 r2 l (f l) (some i)) → Sub r1 g1 r2 g2 k i
theorem Sub.lt {k i : Nat} (h : Sub r1 g1 r2 g2 k i) : k < r1.length ∧ i < r2.length := by
  cases h with
  | mk f hk hi _ _ _ => exact ⟨hk, hi⟩
theorem Sub.like {k i : Nat} (h : Sub r1 g1 r2 g2 k i) : Likes r1 g1 r2 g2 k i := by
  cases h with
  | mk f hk hi l _ _ => exact l
theorem Sub.low {k i l : Nat} (h : Sub r1 g1 r2 g2 k i) (p : Par (qds r1) k l) : ∃ j, Sub r1 g1 r2 g2 l j ∧ GoesT r1 r2 l j (some i) := by
  cases h with
  | mk f _ _ _ a b => exact ⟨f l, a l p, b l p⟩
theorem Sub.of {k i : Nat} (hk : k < r1.length) (hi : i < r2.length) (hl : Likes r1 g1 r2 g2 k i) (h : ∀ l, Par (qds r1) k l → ∃ j, Sub r1 g1 r2 g2 l j ∧ GoesT r1 r2 l j (some i)) : Sub r1 g1 r2 g2 k i := by
  classical
  refine .mk (fun l => if p : Par (qds r1) k l then (h l p).choose else 0) hk hi hl (fun l p => ?_) fun l p => ?_
  · rw [dif_pos p]; exact (h l p).choose_spec.1
  · rw [dif_pos p]; exact (h l p).choose_spec.2
theorem sub_of_map {im : List Nat} (h : IsMapN r1 g1 r2 g2 im) : ∀ (n k x : Nat), r1.length - k ≤ n → im[k]? = some x → Sub r1 g1 r2 g2 k x
  | 0, k, x, hn, hx => by
    have := (List.getElem?_eq_some_iff.mp hx).1
    rw [h.1] at this
    omega
  | n + 1, k, x, hn, hx => by
    have hk := (List.getElem?_eq_some_iff.mp hx).1
    obtain ⟨a, b, c⟩ := h.2.2 k hk x hx
    refine Sub.of (by rw [← h.1]; exact hk) (h.2.1 x (List.mem_of_getElem? hx)) a fun l p => ?_
    have hkl : k < l := p.1.1
    have hl : l < r1.length := by have := p.1.2.1; rw [qds_len] at this; exact this
    have hli : l < im.length := by rw [h.1]; exact hl
    have hy : im[l]? = some im[l] := List.getElem?_eq_getElem hli
    refine ⟨im[l], sub_of_map h n l _ (by omega) hy, ?_⟩
    exact (h.2.2 l hli _ hy).2.2 k x p hx
/-- the images that a step may have, up to one -/
noncomputable def imU (r1 : List Sr) (g1 : Nat) (r2 : List Sr) (g2 k c : Nat) : List Int := by
  classical
  exact ((List.range c).filter fun i => decide (Sub r1 g1 r2 g2 k i)).map fun i : Nat => (i : Int)
noncomputable abbrev imL (r1 : List Sr) (g1 : Nat) (r2 : List Sr) (g2 k : Nat) : List Int := imU r1 g1 r2 g2 k r2.length
noncomputable def imgs (r1 : List Sr) (g1 : Nat) (r2 : List Sr) (g2 : Nat) : List (List Int) := (List.range r1.length).map fun k => imL r1 g1 r2 g2 k
theorem imU_mem {k c : Nat} {x : Int} : x ∈ imU r1 g1 r2 g2 k c ↔ ∃ i : Nat, x = (i : Int) ∧ i < c ∧ Sub r1 g1 r2 g2 k i := by
  classical
  unfold imU
  rw [List.mem_map]
  constructor
  · rintro ⟨i, h, rfl⟩
    rw [List.mem_filter, List.mem_range] at h
    exact ⟨i, rfl, h.1, of_decide_eq_true h.2⟩
  · rintro ⟨i, rfl, h1, h2⟩
    exact ⟨i, by rw [List.mem_filter, List.mem_range]; exact ⟨h1, decide_eq_true h2⟩, rfl⟩
theorem imU_zero {k : Nat} : imU r1 g1 r2 g2 k 0 = [] := rfl
theorem imU_yes {k c : Nat} (h : Sub r1 g1 r2 g2 k c) : imU r1 g1 r2 g2 k (c + 1) = imU r1 g1 r2 g2 k c ++ [(c : Int)] := by
  classical
  unfold imU
  rw [List.range_succ, List.filter_append, List.map_append]
  simp [h]
theorem imU_no {k c : Nat} (h : ¬ Sub r1 g1 r2 g2 k c) : imU r1 g1 r2 g2 k (c + 1) = imU r1 g1 r2 g2 k c := by
  classical
  unfold imU
  rw [List.range_succ, List.filter_append, List.map_append]
  simp [h]
theorem imU_len {k c : Nat} : (imU r1 g1 r2 g2 k c).length ≤ c := by
  classical
  unfold imU
  rw [List.length_map]
  exact Nat.le_trans (List.length_filter_le _ _) (by rw [List.length_range]; exact Nat.le_refl _)
/-- the first that goes -/
noncomputable def fPl (r1 r2 : List Sr) (s : Nat) (ab : Option Nat) (ps : List Int) : Option Int := by
  classical
  exact ps.find? fun p => decide (GoesT r1 r2 s p.toNat ab)
theorem fPl_some {s : Nat} {ab : Option Nat} {ps : List Int} {p : Int} (h : fPl r1 r2 s ab ps = some p) : p ∈ ps ∧ GoesT r1 r2 s p.toNat ab := by
  classical
  unfold fPl at h
  exact ⟨List.mem_of_find?_eq_some h, by have := List.find?_some h; exact of_decide_eq_true this⟩
theorem fPl_none {s : Nat} {ab : Option Nat} {ps : List Int} : fPl r1 r2 s ab ps = none ↔ ∀ p ∈ ps, ¬ GoesT r1 r2 s p.toNat ab := by
  classical
  unfold fPl
  rw [List.find?_eq_none]
  exact ⟨fun h p m g => h p m (decide_eq_true g), fun h p m g => h p m (of_decide_eq_true g)⟩
theorem fPl_at {s : Nat} {ab : Option Nat} {ps : List Int} {i : Nat} {p : Int} (hi : ps[i]? = some p) (hn : ∀ j, j < i → ∀ q, ps[j]? = some q → ¬ GoesT r1 r2 s q.toNat ab) (h : GoesT r1 r2 s p.toNat ab) : fPl r1 r2 s ab ps = some p := by
  classical
  unfold fPl
  rw [List.find?_eq_some_iff_getElem]
  obtain ⟨hl, e⟩ := List.getElem?_eq_some_iff.mp hi
  exact ⟨decide_eq_true h, i, hl, e, fun j hj => by
    have := hn j hj ps[j] (List.getElem?_eq_getElem (by omega))
    rw [decide_eq_false this]; rfl⟩
/-- the images found so far: from a step on -/
def ImO (r1 : List Sr) (g1 : Nat) (r2 : List Sr) (g2 k0 : Nat) (fs : List (List Int)) : Prop := fs.length = r1.length ∧ ∀ k, k < r1.length → (k < k0 → fs[k]? = some []) ∧ (k0 ≤ k → fs[k]? = some (imL r1 g1 r2 g2 k))
def ImI (r1 : List Sr) (g1 : Nat) (r2 : List Sr) (g2 st c : Nat) (fs : List (List Int)) : Prop := fs.length = r1.length ∧ ∀ k, k < r1.length → (k < st → fs[k]? = some []) ∧ (k = st → fs[k]? = some (imU r1 g1 r2 g2 st c)) ∧ (st < k → fs[k]? = some (imL r1 g1 r2 g2 k))
theorem ImO.start {st : Nat} {fs : List (List Int)} (h : ImO r1 g1 r2 g2 (st + 1) fs) : ImI r1 g1 r2 g2 st 0 fs :=
  ⟨h.1, fun k hk => ⟨fun a => (h.2 k hk).1 (by omega), fun a => by rw [imU_zero]; exact (h.2 k hk).1 (by omega), fun a => (h.2 k hk).2 (by omega)⟩⟩
theorem ImI.fin {st : Nat} {fs : List (List Int)} (h : ImI r1 g1 r2 g2 st r2.length fs) : ImO r1 g1 r2 g2 st fs :=
  ⟨h.1, fun k hk => ⟨(h.2 k hk).1, fun a => by
    rcases Nat.lt_or_ge st k with c | c
    · exact (h.2 k hk).2.2 c
    · have e : k = st := by omega
      subst e
      exact (h.2 k hk).2.1 rfl⟩⟩
theorem ImI.yes {st c : Nat} {fs : List (List Int)} (h : ImI r1 g1 r2 g2 st c fs) (hs : Sub r1 g1 r2 g2 st c) : ImI r1 g1 r2 g2 st (c + 1) (fs.set st (imU r1 g1 r2 g2 st c ++ [(c : Int)])) :=
  ⟨by rw [List.length_set]; exact h.1, fun k hk => ⟨fun a => by rw [List.getElem?_set_ne (by omega)]; exact (h.2 k hk).1 a, fun a => by subst a; rw [List.getElem?_set_self (by rw [h.1]; exact hk), imU_yes hs], fun a => by rw [List.getElem?_set_ne (by omega)]; exact (h.2 k hk).2.2 a⟩⟩
theorem ImI.no {st c : Nat} {fs : List (List Int)} (h : ImI r1 g1 r2 g2 st c fs) (hs : ¬ Sub r1 g1 r2 g2 st c) : ImI r1 g1 r2 g2 st (c + 1) fs :=
  ⟨h.1, fun k hk => ⟨(h.2 k hk).1, fun a => by rw [imU_no hs]; exact (h.2 k hk).2.1 a, (h.2 k hk).2.2⟩⟩
theorem ImO.all {fs : List (List Int)} (h : ImO r1 g1 r2 g2 0 fs) : fs = imgs r1 g1 r2 g2 := by
  refine List.ext_getElem? fun k => ?_
  unfold imgs
  rcases Nat.lt_or_ge k r1.length with c | c
  · rw [(h.2 k c).2 (Nat.zero_le _), List.getElem?_map, List.getElem?_range c]; rfl
  · rw [List.getElem?_eq_none (by rw [h.1]; exact c), List.getElem?_eq_none (by simp; exact c)]
theorem imgs_at {k : Nat} (h : k < r1.length) : (imgs r1 g1 r2 g2)[k]? = some (imL r1 g1 r2 g2 k) := by
  unfold imgs
  rw [List.getElem?_map, List.getElem?_range h]; rfl
theorem imgs_len : (imgs r1 g1 r2 g2).length = r1.length := by unfold imgs; simp
theorem imL_bd {k : Nat} {p : Int} (h : p ∈ imL r1 g1 r2 g2 k) : 0 ≤ p ∧ p < r2.length := by
  obtain ⟨i, rfl, h1, _⟩ := imU_mem.mp h
  omega
theorem imL_sub {k : Nat} {p : Int} (h : p ∈ imL r1 g1 r2 g2 k) : ∃ i : Nat, p = (i : Int) ∧ Sub r1 g1 r2 g2 k i := by
  obtain ⟨i, rfl, _, h2⟩ := imU_mem.mp h
  exact ⟨i, rfl, h2⟩
theorem imL_of {k i : Nat} (h : Sub r1 g1 r2 g2 k i) : (i : Int) ∈ imL r1 g1 r2 g2 k := imU_mem.mpr ⟨i, rfl, h.lt.2, h⟩
/-- what is right above, by the images found -/
def AbOk (ds : List Int) (l : List Int) (k : Nat) (ab : Option Nat) : Prop := ((∀ u, ¬ An ds u k) ∧ ab = none) ∨ ∃ u z, Par ds u k ∧ l[u]? = some z ∧ ab = some (Int.toNat z)
/-- images taken greedily -/
def Grd (r1 : List Sr) (g1 : Nat) (r2 : List Sr) (g2 : Nat) (l : List Int) : Prop := ∀ k x, l[k]? = some x → ∃ ab, AbOk (qds r1) l k ab ∧ fPl r1 r2 k ab (imL r1 g1 r2 g2 k) = some x
theorem AbOk.pre {ds l l' : List Int} {k : Nat} {ab : Option Nat} (h : AbOk ds l k ab) (e : ∀ u, u < k → l[u]? = l'[u]?) : AbOk ds l' k ab := by
  rcases h with h | ⟨u, z, p, hz, e2⟩
  · exact .inl h
  · exact .inr ⟨u, z, p, by rw [← e u p.1.1]; exact hz, e2⟩
theorem AbOk.only {ds l : List Int} {k : Nat} {ab ab' : Option Nat} (h : AbOk ds l k ab) (h' : AbOk ds l k ab') : ab = ab' := by
  rcases h with ⟨h, rfl⟩ | ⟨u, z, p, hz, rfl⟩ <;> rcases h' with ⟨h', rfl⟩ | ⟨u', z', p', hz', rfl⟩
  · rfl
  · exact absurd p'.1 (h u')
  · exact absurd p.1 (h' u)
  · have : u' = u := p.only p'
    subst this
    rw [hz] at hz'
    cases hz'
    rfl
theorem Grd.nil : Grd r1 g1 r2 g2 [] := fun k x h => nomatch h
theorem Grd.snoc {l : List Int} {x : Int} {ab : Option Nat} (h : Grd r1 g1 r2 g2 l) (ha : AbOk (qds r1) l l.length ab) (hf : fPl r1 r2 l.length ab (imL r1 g1 r2 g2 l.length) = some x) : Grd r1 g1 r2 g2 (l ++ [x]) := fun k y hk => by
  rcases Nat.lt_or_ge k l.length with c | c
  · rw [List.getElem?_append_left c] at hk
    obtain ⟨ab', h1, h2⟩ := h k y hk
    exact ⟨ab', h1.pre fun u hu => by rw [List.getElem?_append_left (by omega)], h2⟩
  · have hl := (List.getElem?_eq_some_iff.mp hk).1
    rw [List.length_append, List.length_singleton] at hl
    have : k = l.length := by omega
    subst this
    rw [List.getElem?_append_right (Nat.le_refl _), Nat.sub_self] at hk
    cases hk
    exact ⟨ab, ha.pre fun u hu => by rw [List.getElem?_append_left (by omega)], hf⟩
theorem Grd.only {l l' : List Int} (h : Grd r1 g1 r2 g2 l) (h' : Grd r1 g1 r2 g2 l') (e : l.length = l'.length) : l = l' := by
  have key : ∀ n k : Nat, k < n → l[k]? = l'[k]? := by
    intro n
    induction n with
    | zero => intro k hk; omega
    | succ n ih =>
      intro k hk
      rcases Nat.lt_or_ge k l.length with c | c
      · have hx := List.getElem?_eq_getElem c
        have hy := List.getElem?_eq_getElem (l := l') (i := k) (by omega)
        obtain ⟨ab, a1, a2⟩ := h k _ hx
        obtain ⟨ab', b1, b2⟩ := h' k _ hy
        have := (a1.pre fun u hu => ih u (by omega)).only b1
        subst this
        rw [hx, hy, ← a2, b2]
      · rw [List.getElem?_eq_none c, List.getElem?_eq_none (by omega)]
  exact List.ext_getElem? fun k => key (k + 1) k (by omega)
theorem Grd.sub {l : List Int} {k : Nat} {x : Int} (h : Grd r1 g1 r2 g2 l) (hx : l[k]? = some x) : ∃ i : Nat, x = (i : Int) ∧ Sub r1 g1 r2 g2 k i := by
  obtain ⟨ab, _, h2⟩ := h k x hx
  exact imL_sub (fPl_some h2).1
theorem Grd.map {l : List Int} (h : Grd r1 g1 r2 g2 l) (hl : l.length = r1.length) : ∃ im : List Nat, l = im.map (fun i : Nat => (i : Int)) ∧ IsMapN r1 g1 r2 g2 im := by
  refine ⟨l.map Int.toNat, ?_, by rw [List.length_map]; exact hl, fun x hx => ?_, fun k hk x hx => ?_⟩
  · rw [List.map_map]
    refine List.ext_getElem? fun k => ?_
    rw [List.getElem?_map]
    cases e : l[k]? with
    | none => rfl
    | some x =>
      obtain ⟨i, rfl, _⟩ := h.sub e
      rfl
  · obtain ⟨y, hy, rfl⟩ := List.mem_map.mp hx
    obtain ⟨k, hk⟩ := List.mem_iff_getElem?.mp hy
    obtain ⟨i, rfl, s⟩ := h.sub hk
    exact s.lt.2
  · rw [List.getElem?_map] at hx
    cases e : l[k]? with
    | none => rw [e] at hx; cases hx
    | some y =>
      rw [e] at hx
      have hx : y.toNat = x := Option.some.inj hx
      obtain ⟨ab, a1, a2⟩ := h k y e
      obtain ⟨i, rfl, s⟩ := h.sub e
      have hx : i = x := hx
      subst hx
      have gt : GoesT r1 r2 k i ab := (fPl_some a2).2
      refine ⟨s.like, fun hu => ?_, fun u z p hz => ?_⟩
      · have := a1.only (.inl ⟨hu, rfl⟩)
        rw [this] at gt
        exact gt
      · rw [List.getElem?_map] at hz
        cases e2 : l[u]? with
        | none => rw [e2] at hz; cases hz
        | some w =>
          rw [e2] at hz
          have hz : w.toNat = z := Option.some.inj hz
          subst hz
          have := a1.only (.inr ⟨u, w, p, e2, rfl⟩)
          rw [this] at gt
          exact gt
theorem Grd.stuck {l : List Int} {ab : Option Nat} (h : Grd r1 g1 r2 g2 l) (ha : AbOk (qds r1) l l.length ab) (hl : l.length < r1.length) (hf : fPl r1 r2 l.length ab (imL r1 g1 r2 g2 l.length) = none) : ¬ ∃ im, IsMapN r1 g1 r2 g2 im := by
  rintro ⟨im, hm⟩
  have hn := fPl_none.mp hf
  rcases ha with ⟨hu, rfl⟩ | ⟨u, z, p, hz, rfl⟩
  · have hk : l.length < im.length := by rw [hm.1]; exact hl
    have hx := List.getElem?_eq_getElem hk
    have s := sub_of_map hm r1.length l.length _ (by omega) hx
    exact hn _ (imL_of s) ((hm.2.2 _ hk _ hx).2.1 hu)
  · obtain ⟨i, rfl, s⟩ := h.sub hz
    obtain ⟨j, s2, gt⟩ := s.low p
    exact hn _ (imL_of s2) gt
/-- the map that is found -/
noncomputable def mapF (r1 : List Sr) (g1 : Nat) (r2 : List Sr) (g2 : Nat) : Option (List Int) := by
  classical
  exact if h : ∃ l : List Int, l.length = r1.length ∧ Grd r1 g1 r2 g2 l then some h.choose else none
theorem mapF_is {l : List Int} (h : Grd r1 g1 r2 g2 l) (hl : l.length = r1.length) : mapF r1 g1 r2 g2 = some l := by
  classical
  have hx : ∃ l : List Int, l.length = r1.length ∧ Grd r1 g1 r2 g2 l := ⟨l, hl, h⟩
  unfold mapF
  rw [dif_pos hx]
  exact congrArg some (hx.choose_spec.2.only h (by rw [hx.choose_spec.1, hl]))
theorem mapF_no (h : ¬ ∃ im, IsMapN r1 g1 r2 g2 im) : mapF r1 g1 r2 g2 = none := by
  classical
  unfold mapF
  rw [dif_neg]
  rintro ⟨l, hl, hg⟩
  obtain ⟨im, _, m⟩ := hg.map hl
  exact h ⟨im, m⟩
theorem mapF_some {l : List Int} (h : mapF r1 g1 r2 g2 = some l) : l.length = r1.length ∧ ∃ im : List Nat, l = im.map (fun i : Nat => (i : Int)) ∧ IsMapN r1 g1 r2 g2 im := by
  classical
  unfold mapF at h
  by_cases c : ∃ l : List Int, l.length = r1.length ∧ Grd r1 g1 r2 g2 l
  · rw [dif_pos c] at h
    cases h
    exact ⟨c.choose_spec.1, c.choose_spec.2.map c.choose_spec.1⟩
  · rw [dif_neg c] at h
    cases h
/-- the greedy way never fails where there is a map -/
theorem grd_all (hab : ∀ k, k < r1.length → ∃ o, UpAt (qds r1) k o) (hm : ∃ im, IsMapN r1 g1 r2 g2 im) : ∀ n, n ≤ r1.length → ∃ l : List Int, l.length = n ∧ Grd r1 g1 r2 g2 l
  | 0, _ => ⟨[], rfl, Grd.nil⟩
  | n + 1, hn => by
    obtain ⟨l, hl, hg⟩ := grd_all hab hm n (by omega)
    obtain ⟨o, ho⟩ := hab n (by omega)
    subst hl
    have ⟨ab, ha⟩ : ∃ ab, AbOk (qds r1) l l.length ab := by
      cases o with
      | none => exact ⟨none, .inl ⟨ho, rfl⟩⟩
      | some u =>
        obtain ⟨un, rfl, p⟩ := ho
        have : un < l.length := p.1.1
        exact ⟨_, .inr ⟨un, _, p, List.getElem?_eq_getElem this, rfl⟩⟩
    cases e : fPl r1 r2 l.length ab (imL r1 g1 r2 g2 l.length) with
    | none => exact absurd hm (hg.stuck ha (by omega) e)
    | some x => exact ⟨l ++ [x], by simp, hg.snoc ha e⟩
/-- maps that go on a list -/
def ExM (r1 : List Sr) (g1 : Nat) (r2 : List Sr) (g2 : Nat) (l : List Nat) : Prop := ∃ im, IsMapN r1 g1 r2 g2 im ∧ l <+: im
theorem stepOk_pre {im im' : List Nat} {s : Nat} (h : StepOk r1 g1 r2 g2 im s) (e : ∀ u, u ≤ s → im[u]? = im'[u]?) : StepOk r1 g1 r2 g2 im' s := fun x hx => by
  obtain ⟨a, b, c⟩ := h x (by rw [e s (Nat.le_refl _)]; exact hx)
  exact ⟨a, b, fun u y p hy => c u y p (by rw [e u (Nat.le_of_lt p.1.1)]; exact hy)⟩
theorem pre_at {l im : List Nat} (h : l <+: im) {u : Nat} (hu : u < l.length) : l[u]? = im[u]? := by
  obtain ⟨t, rfl⟩ := h
  rw [List.getElem?_append_left hu]
def AbN (ds : List Int) (l : List Nat) (k : Nat) (ab : Option Nat) : Prop := ((∀ u, ¬ An ds u k) ∧ ab = none) ∨ ∃ u z, Par ds u k ∧ l[u]? = some z ∧ ab = some z
theorem suit_iff {l : List Nat} {x : Nat} {ab : Option Nat} (h : AbN (qds r1) l l.length ab) : StepOk r1 g1 r2 g2 (l ++ [x]) l.length ↔ Likes r1 g1 r2 g2 l.length x ∧ GoesT r1 r2 l.length x ab := by
  have hx : (l ++ [x])[l.length]? = some x := by simp
  rcases h with ⟨h, rfl⟩ | ⟨u, z, p, hz, rfl⟩
  · exact step_none hx h
  · exact step_some hx p (by rw [List.getElem?_append_left (List.getElem?_eq_some_iff.mp hz).1]; exact hz)
theorem exM_go {l : List Nat} (hl : l.length < r1.length) : ExM r1 g1 r2 g2 l ↔ ∃ x, x < r2.length ∧ StepOk r1 g1 r2 g2 (l ++ [x]) l.length ∧ ExM r1 g1 r2 g2 (l ++ [x]) := by
  constructor
  · rintro ⟨im, hm, t, rfl⟩
    cases t with
    | nil => have := hm.1; rw [List.append_nil] at this; omega
    | cons x t =>
      have e : l ++ x :: t = (l ++ [x]) ++ t := by rw [List.append_assoc]; rfl
      refine ⟨x, hm.2.1 x (by simp), stepOk_pre (hm.2.2 l.length (by simp)) fun u hu => ?_, l ++ x :: t, hm, t, e.symm⟩
      rw [e, List.getElem?_append_left (by simp; omega)]
  · rintro ⟨x, _, _, im, hm, t, rfl⟩
    exact ⟨_, hm, [x] ++ t, by rw [List.append_assoc]⟩
theorem exM_end {l : List Nat} (hl : l.length = r1.length) (hb : ∀ x ∈ l, x < r2.length) (hs : ∀ s, s < l.length → StepOk r1 g1 r2 g2 l s) : ExM r1 g1 r2 g2 l := ⟨l, ⟨hl, hb, hs⟩, List.prefix_refl _⟩
theorem exM_nil : ExM r1 g1 r2 g2 [] ↔ ∃ im, IsMapN r1 g1 r2 g2 im := ⟨fun ⟨im, h, _⟩ => ⟨im, h⟩, fun ⟨im, h⟩ => ⟨im, h, List.nil_prefix⟩⟩
theorem steps_snoc {l : List Nat} {x : Nat} (hs : ∀ s, s < l.length → StepOk r1 g1 r2 g2 l s) (h : StepOk r1 g1 r2 g2 (l ++ [x]) l.length) : ∀ s, s < (l ++ [x]).length → StepOk r1 g1 r2 g2 (l ++ [x]) s := fun s hsl => by
  rw [List.length_append, List.length_singleton] at hsl
  rcases Nat.lt_or_ge s l.length with c | c
  · exact stepOk_pre (hs s c) fun u hu => by rw [List.getElem?_append_left (by omega)]
  · rw [show s = l.length by omega]
    exact h
theorem mapF_iff (q : QuT) : (∃ im, IsMapN q.rows q.g r2 g2 im) ↔ ∃ l, mapF q.rows q.g r2 g2 = some l := by
  constructor
  · intro z
    obtain ⟨l, hl, hg⟩ := grd_all (fun k hk => let ⟨o, _, u⟩ := q.up_at hk; ⟨o, u⟩) z q.rows.length (Nat.le_refl _)
    exact ⟨l, mapF_is hg hl⟩
  · rintro ⟨l, e⟩
    obtain ⟨_, im, _, m⟩ := mapF_some e
    exact ⟨im, m⟩
end
end Va

namespace Va
open PySem PySem.Spec PyProof.Rows L2 Bg
/-! ### a dict is locked -/
def isDc : HO → Prop
  | .dK _ => True
  | .dT _ => True
  | _ => False
/-- the same, but for a lock -/
structure Rl (H H' : Hp) : Prop where
  lst : ∀ b xs, H b = some (.lst xs) → H' b = some (.lst xs)
  tup : ∀ b xs, H b = some (.tup xs) → H' b = some (.tup xs)
  ins : ∀ b C dx fs, H b = some (.ins C dx fs) → H' b = some (.ins C dx fs)
  xd : ∀ b fs, H b = some (.xd fs) → H' b = some (.xd fs)
  dK : ∀ b kvs, Rd H b (.dK kvs) → Rd H' b (.dK kvs)
  dT : ∀ b kvs, Rd H b (.dT kvs) → Rd H' b (.dT kvs)
  rdl : ∀ b xs, Rd H b (.lst xs) → Rd H' b (.lst xs)
  dom : ∀ b, H b ≠ none → H' b ≠ none
theorem Rl.lock {H : Hp} {d : Addr} {u : HO} {od : Obj} (h : H d = some u) (hu : isDc u) : Rl H (upd H d (.frz od u)) := by
  have ne : ∀ b o, H b = some o → ¬ isDc o → b ≠ d := fun b o e n z => by rw [z, h] at e; cases e; exact n hu
  have rd : ∀ b w, Rd H b w → Rd (upd H d (.frz od u)) b w := fun b w q => by
    by_cases z : b = d
    · subst z
      rcases q with q | ⟨o, q⟩
      · rw [h] at q; cases q; exact .inr ⟨od, upd_same⟩
      · rw [h] at q; cases q; exact hu.elim
    · rcases q with q | ⟨o, q⟩
      · exact .inl (by rw [upd_ne z]; exact q)
      · exact .inr ⟨o, by rw [upd_ne z]; exact q⟩
  refine ⟨fun b xs e => ?_, fun b xs e => ?_, fun b C dx fs e => ?_, fun b fs e => ?_, fun b kvs q => rd b _ q, fun b kvs q => rd b _ q, fun b xs q => rd b _ q, fun b n => ?_⟩
  · rw [upd_ne (ne b _ e fun z => z)]; exact e
  · rw [upd_ne (ne b _ e fun z => z)]; exact e
  · rw [upd_ne (ne b _ e fun z => z)]; exact e
  · rw [upd_ne (ne b _ e fun z => z)]; exact e
  · by_cases z : b = d
    · rw [z, upd_same]; exact fun z => nomatch z
    · rw [upd_ne z]; exact n
theorem Rl.unlock {H : Hp} {d : Addr} {u : HO} {od : Obj} (h : H d = some (.frz od u)) (hu : isDc u) : Rl H (upd H d u) := by
  have ne : ∀ b o, H b = some o → (∀ p q, o ≠ .frz p q) → b ≠ d := fun b o e n z => by rw [z, h] at e; cases e; exact n _ _ rfl
  have rd : ∀ b w, (∀ p q, w ≠ .frz p q) → Rd H b w → Rd (upd H d u) b w := fun b w nf q => by
    by_cases z : b = d
    · subst z
      rcases q with q | ⟨o, q⟩
      · rw [h] at q; cases q; exact absurd rfl (nf _ _)
      · rw [h] at q; cases q; exact .inl upd_same
    · rcases q with q | ⟨o, q⟩
      · exact .inl (by rw [upd_ne z]; exact q)
      · exact .inr ⟨o, by rw [upd_ne z]; exact q⟩
  refine ⟨fun b xs e => ?_, fun b xs e => ?_, fun b C dx fs e => ?_, fun b fs e => ?_, fun b kvs q => rd b _ (fun _ _ z => nomatch z) q, fun b kvs q => rd b _ (fun _ _ z => nomatch z) q, fun b xs q => rd b _ (fun _ _ z => nomatch z) q, fun b n => ?_⟩
  · rw [upd_ne (ne b _ e fun _ _ z => nomatch z)]; exact e
  · rw [upd_ne (ne b _ e fun _ _ z => nomatch z)]; exact e
  · rw [upd_ne (ne b _ e fun _ _ z => nomatch z)]; exact e
  · rw [upd_ne (ne b _ e fun _ _ z => nomatch z)]; exact e
  · by_cases z : b = d
    · rw [z, upd_same]; exact fun z => nomatch z
    · rw [upd_ne z]; exact n
section
variable {K : PySem.W.Frag} {O O' : AP} {H H' : Hp}
mutual
theorem Rep.rl (h : Rl H H') : ∀ {d : D} {v : V}, Rep K O H v d → Rep K O H' v d
  | _, _, .non => .non
  | _, _, .bl b => .bl b
  | _, _, .int i => .int i
  | _, _, .str z => .str z
  | _, _, .lst n e r => .lst n (h.lst _ _ e) (RepL.rl h r)
  | _, _, .tup n e r => .tup n (h.tup _ _ e) (RepL.rl h r)
  | _, _, .dct n e s k r => .dct n (h.dK _ _ e) s k (RepL.rl h r)
  | _, _, .dcp n e k r => .dcp n (h.dT _ _ e) k (RepL.rl h r)
  | _, _, .obj n e k r => .obj n (h.ins _ _ _ _ e) k (RepL.rl h r)
theorem RepL.rl (h : Rl H H') : ∀ {ds : List D} {vs : List V}, RepL K O H vs ds → RepL K O H' vs ds
  | _, _, .nil => .nil
  | _, _, .cons r t => .cons (Rep.rl h r) (RepL.rl h t)
end
mutual
theorem RepO.rl (h : Rl H H') : ∀ {t : OT} {v : V} {as : List Addr}, RepO K O H v t as → (∀ b ∈ as, H' b = H b) → RepO K O H' v t as
  | _, _, _, .sh r, _ => .sh (r.rl h)
  | _, _, _, .lst e r, k => .lst (by rw [k _ List.mem_cons_self]; exact e) (RepOL.rl h r fun b z => k b (List.mem_cons_of_mem _ z))
  | _, _, _, .tup e r, k => .tup (by rw [k _ List.mem_cons_self]; exact e) (RepOL.rl h r fun b z => k b (List.mem_cons_of_mem _ z))
  | _, _, _, .dct e s q r, k => .dct (by rw [k _ List.mem_cons_self]; exact e) s q (RepOL.rl h r fun b z => k b (List.mem_cons_of_mem _ z))
  | _, _, _, .dcp e q r, k => .dcp (by rw [k _ List.mem_cons_self]; exact e) q (RepOL.rl h r fun b z => k b (List.mem_cons_of_mem _ z))
  | _, _, _, .obj e q r, k => .obj (by rw [k _ List.mem_cons_self]; exact e) q (RepOL.rl h r fun b z => k b (List.mem_cons_of_mem _ z))
theorem RepOL.rl (h : Rl H H') : ∀ {ts : List OT} {vs : List V} {as : List Addr}, RepOL K O H vs ts as → (∀ b ∈ as, H' b = H b) → RepOL K O H' vs ts as
  | _, _, _, .nil, _ => .nil
  | _, _, _, .cons r t, k => .cons (RepO.rl h r fun b z => k b (List.mem_append_left _ z)) (RepOL.rl h t fun b z => k b (List.mem_append_right _ z))
end
variable {B : Bs} {σ σ' : L2.St} {ρ ρ' : List Sl}
theorem SlOk.rl {x : Option (Option V)} {s : Sl} (h : SlOk K B O H x s) (l : Rl H H') (ho : ∀ as, Own K H x s as → ∀ b ∈ as, H' b = H b) (hs : ∀ a, Src H a → H' a = H a) : SlOk K B O H' x s := by
  cases s with
  | no => trivial
  | sh d => obtain ⟨v, e, r⟩ := h; exact ⟨v, e, r.rl l⟩
  | src => obtain ⟨a, e, o, q⟩ := h; exact ⟨a, e, o, by obtain ⟨n, s, t, z⟩ := q; exact ⟨n, s, t, by rw [hs a ⟨n, s, t, z⟩]; exact z⟩⟩
  | scr ns =>
    obtain ⟨a, e, q⟩ := h
    exact ⟨a, e, q.elim (fun z => .inl ⟨z.1, l.rdl _ _ z.2⟩) .inr⟩
  | pin v => exact h
  | exc a cls d ex => obtain ⟨e1, e2, da, v, e3, n, hd, r⟩ := h; exact ⟨e1, e2, da, v, e3, n, l.xd _ _ hd, r.rl l⟩
  | od t =>
    obtain ⟨v, as, e1, r, nd, k⟩ := h
    exact ⟨v, as, e1, r.rl l (ho as ⟨v, O, e1, r⟩), nd, k⟩
  | ow d =>
    cases d with
    | lst ds => obtain ⟨p, vs, e1, o, f, a, hp, r⟩ := h; exact ⟨p, vs, e1, o, f, a, by rw [ho _ ⟨p, e1, rfl⟩ p List.mem_cons_self]; exact hp, r.rl l⟩
    | dct es => obtain ⟨p, vs, e1, o, f, a, hp, n, k, r⟩ := h; exact ⟨p, vs, e1, o, f, a, by rw [ho _ ⟨p, e1, rfl⟩ p List.mem_cons_self]; exact hp, n, k, r.rl l⟩
    | dcp es => obtain ⟨p, vs, e1, o, f, a, hp, k, r⟩ := h; exact ⟨p, vs, e1, o, f, a, by rw [ho _ ⟨p, e1, rfl⟩ p List.mem_cons_self]; exact hp, k, r.rl l⟩
    | obj C gs => obtain ⟨dx, vs, e1, o, f, a, hp, k, r⟩ := h; exact ⟨dx, vs, e1, o, f, a, by rw [ho _ ⟨_, e1, rfl⟩ _ List.mem_cons_self]; exact hp, k, r.rl l⟩
    | _ => exact h.elim
theorem SlOk.rlB {x : Option (Option V)} {s : Sl} {as : List Addr} (h : SlOk K B O H x s) (l : Rl H H') (ho : ∀ as, Own K H x s as → ∀ b ∈ as, H' b = H b) (w : Own K H' x s as) : Own K H x s as := by
  cases s with
  | ow d => exact w
  | od t =>
    obtain ⟨v, as', e1, r, nd, k⟩ := h
    obtain ⟨v', O2, e2, r2⟩ := w
    rw [e1] at e2; cases e2
    have r' := r.rl l (ho as' ⟨v, O, e1, r⟩)
    cases r'.det r2
    exact ⟨v, O, e1, r⟩
  | _ => exact w.elim
theorem ext_lock {d : Addr} {u : HO} {od : Obj} (h : H d = some u) (nu : ¬ isSrc u) (e : Ext No (upd H d (.frz od u)) H') : H' d = some (.frz od u) ∧ Ext No H (upd H' d u) := by
  have hd : H' d = some (.frz od u) := e.keep d _ (fun z => z) ns_frz upd_same
  refine ⟨hd, fun b o n s q => ?_, fun b q => ?_⟩
  · by_cases z : b = d
    · subst z; rw [h] at q; cases q; exact upd_same
    · rw [upd_ne z]; exact e.keep b o (fun z => z) s (by rw [upd_ne z]; exact q)
  · have nb : b ≠ d := fun z => by
      obtain ⟨n, s, t, q⟩ := q
      rw [z, h] at q; cases q
      exact nu ⟨n, s, t, rfl⟩
    obtain ⟨n, s, t, q2⟩ := e.src b (by
      obtain ⟨n, s, t, q⟩ := q
      exact ⟨n, s, t, by rw [upd_ne nb]; exact q⟩)
    exact ⟨n, s, t, by rw [upd_ne nb]; exact q2⟩
/-- into the locked heap -/
theorem En.lock {d : Addr} {u : HO} {od : Obj} (E : En K B O H σ ρ) (h : H d = some u) (hu : isDc u) (nu : ¬ isSrc u) (nO : ¬ O d) : En K (Bs.at K B O (upd H d (.frz od u)) σ ρ) O (upd H d (.frz od u)) σ ρ := by
  have l : Rl H (upd H d (.frz od u)) := Rl.lock h hu
  have ho : ∀ (i : Nat) (s : Sl), ρ[i]? = some s → ∀ as, Own K H (σ[i]?) s as → ∀ b ∈ as, upd H d (.frz od u) b = H b := fun i s hs as w b m => upd_ne fun e => nO (e ▸ ((E.at_ i s hs).in_ w b m).1)
  have hs : ∀ a, Src H a → upd H d (.frz od u) a = H a := fun a ⟨n, s, t, q⟩ => upd_ne fun e => by
    rw [e, h] at q; cases q; exact nu ⟨n, s, t, rfl⟩
  have own : ∀ b, (Bs.at K B O (upd H d (.frz od u)) σ ρ).A b → O b := fun b ⟨i, s, as, h1, w, m⟩ => ((E.at_ i s h1).in_ ((E.at_ i s h1).rlB l (ho i s h1) w) b m).1
  refine ⟨E.sub, E.bdom, fun b z => .inl z, fun b z => l.dom b (E.dom b z), fun b z => l.dom b (E.dom b (own b z)), fun b z => l.dom b (E.fdom b z), .refl _ _, E.len, fun i s hi => ?_, fun i j s t as bs b h1 h2 w1 w2 => E.inj i j s t as bs b h1 h2 ((E.at_ i s h1).rlB l (ho i s h1) w1) ((E.at_ j t h2).rlB l (ho j t h2) w2)⟩
  exact ((E.at_ i s hi).rl l (ho i s hi) hs).rb rfl rfl fun as w p m _ => .inl ⟨i, s, as, hi, w, m⟩
/-! a dict of one's own is walked: the slot is pinned, the dict is locked -/
open Classical in
noncomputable def Bs.in_ (K : PySem.W.Frag) (B : Bs) (O : AP) (H Hl : Hp) (σ : L2.St) (ρ : List Sl) (as : List Addr) : Bs := ⟨fun b => if b ∈ as then H b else B.F b, fun b => B.O b ∨ b ∈ as, Hl, fun b => ∃ (i : Nat) (s : Sl) (bs : List Addr), ρ[i]? = some s ∧ Own K Hl (σ[i]?) s bs ∧ b ∈ bs, O, B.S⟩
theorem SlOk.rF {B B' : Bs} {x : Option (Option V)} {s : Sl} (h : SlOk K B O H x s) (hS : B'.S = B.S) (ha : ∀ as, Own K H x s as → ∀ p ∈ as, B.F p = none → (B.A p ∨ B.H p = none) → B'.F p = none ∧ (B'.A p ∨ B'.H p = none)) : SlOk K B' O H x s := by
  cases s with
  | no => trivial
  | sh d => exact h
  | src => exact h
  | scr ns => exact h
  | pin v => exact h
  | exc a cls d ex => exact h
  | od t =>
    obtain ⟨v, as, e1, r, nd, k⟩ := h
    exact ⟨v, as, e1, r, nd, fun b z => ⟨(k b z).1, ha as ⟨v, O, e1, r⟩ b z (k b z).2.1 (k b z).2.2⟩⟩
  | ow d =>
    cases d with
    | lst ds => obtain ⟨q, vs, e1, o, f, a, hp, r⟩ := h; have z := ha _ ⟨q, e1, rfl⟩ q List.mem_cons_self f a; exact ⟨q, vs, e1, o, z.1, z.2, hp, r⟩
    | dct es => obtain ⟨q, vs, e1, o, f, a, hp, n, k, r⟩ := h; have z := ha _ ⟨q, e1, rfl⟩ q List.mem_cons_self f a; exact ⟨q, vs, e1, o, z.1, z.2, hp, n, k, r⟩
    | dcp es => obtain ⟨q, vs, e1, o, f, a, hp, k, r⟩ := h; have z := ha _ ⟨q, e1, rfl⟩ q List.mem_cons_self f a; exact ⟨q, vs, e1, o, z.1, z.2, hp, k, r⟩
    | obj C gs =>
      obtain ⟨dx, vs, e1, o, f, a, hp, k, r⟩ := h
      have z := ha _ ⟨_, e1, rfl⟩ _ List.mem_cons_self f a
      show ∃ dx fs, _
      rw [hS]
      exact ⟨dx, vs, e1, o, z.1, z.2, hp, k, r⟩
    | _ => exact h.elim
theorem En.into {i : Nat} {t : OT} {v : V} {as : List Addr} {d : Addr} {u : HO} {od : Obj} (E : En K B O H σ ρ) (hi : ρ[i]? = some (.od t)) (hv : σ[i]? = some (some v)) (r : RepO K O H v t as) (md : d ∈ as) (h : H d = some u) (hu : isDc u) (nu : ¬ isSrc u) :
    En K (Bs.in_ K B O H (upd H d (.frz od u)) σ (ρ.set i (.pin v)) as) O (upd H d (.frz od u)) σ (ρ.set i (.pin v)) := by
  have l : Rl H (upd H d (.frz od u)) := Rl.lock h hu
  have wi : Own K H (σ[i]?) (.od t) as := ⟨v, O, hv, r⟩
  have ia := (E.at_ i _ hi).in_ wi
  have dj : ∀ (j : Nat) (s : Sl), (ρ.set i (.pin v))[j]? = some s → ∀ bs, Own K H (σ[j]?) s bs → ∀ b ∈ bs, b ∉ as := fun j s hj bs w b m z => by
    rcases set_get hj with ⟨_, e, _⟩ | ⟨ne, hj⟩
    · rw [e] at w; exact w
    · exact ne (E.inj i j _ s as bs b hi hj wi w z m)
  have sl : ∀ (j : Nat) (s : Sl), (ρ.set i (.pin v))[j]? = some s → SlOk K B O H (σ[j]?) s := fun j s hj => by
    rcases set_get hj with ⟨rfl, rfl, _⟩ | ⟨ne, hj⟩
    · exact hv
    · exact E.at_ j s hj
  have ho : ∀ (j : Nat) (s : Sl), (ρ.set i (.pin v))[j]? = some s → ∀ bs, Own K H (σ[j]?) s bs → ∀ b ∈ bs, upd H d (.frz od u) b = H b := fun j s hj bs w b m => upd_ne fun e => dj j s hj bs w b m (e ▸ md)
  have hs : ∀ a, Src H a → upd H d (.frz od u) a = H a := fun a ⟨n, s, t, q⟩ => upd_ne fun e => by
    rw [e, h] at q; cases q; exact nu ⟨n, s, t, rfl⟩
  refine ⟨fun b z => z.elim (E.sub b) fun m => (ia b m).1, fun b z => ?_, fun b z => .inl z, fun b z => l.dom b (E.dom b z), fun b z => ?_, fun b z => ?_, .refl _ _, by simp [E.len], fun j s hj => ?_, fun j k s t1 bs cs b h1 h2 w1 w2 m1 m2 => ?_⟩
  · show (if b ∈ as then H b else B.F b) ≠ none
    by_cases m : b ∈ as
    · rw [if_pos m]; exact E.dom b (ia b m).1
    · rw [if_neg m]; exact E.bdom b (z.resolve_right m)
  · obtain ⟨j, s, bs, h1, w, m⟩ := z
    exact l.dom b (E.dom b ((sl j s h1).in_ ((sl j s h1).rlB l (ho j s h1) w) b m).1)
  · have z : (if b ∈ as then H b else B.F b) ≠ none := z
    by_cases m : b ∈ as
    · exact l.dom b (E.dom b (ia b m).1)
    · rw [if_neg m] at z; exact l.dom b (E.fdom b z)
  · refine ((sl j s hj).rl l (ho j s hj) hs).rF rfl fun bs w p m f _ => ⟨?_, .inl ⟨j, s, bs, hj, w, m⟩⟩
    show (if p ∈ as then H p else B.F p) = none
    rw [if_neg (dj j s hj bs ((sl j s hj).rlB l (ho j s hj) w) p m)]
    exact f
  · have w1' := (sl j s h1).rlB l (ho j s h1) w1
    have w2' := (sl k t1 h2).rlB l (ho k t1 h2) w2
    rcases set_get h1 with ⟨_, e, _⟩ | ⟨n1, g1⟩
    · rw [e] at w1; exact w1.elim
    · rcases set_get h2 with ⟨_, e, _⟩ | ⟨n2, g2⟩
      · rw [e] at w2; exact w2.elim
      · exact E.inj j k s t1 bs cs b g1 g2 w1' w2' m1 m2
theorem En.outof {i : Nat} {t : OT} {v : V} {as : List Addr} {d : Addr} {u : HO} {od : Obj} (E : En K B O H σ ρ) (hi : ρ[i]? = some (.od t)) (hv : σ[i]? = some (some v)) (r : RepO K O H v t as) (nd : as.Nodup) (md : d ∈ as) (h : H d = some u) (hu : isDc u) (nu : ¬ isSrc u)
    (E' : En K (Bs.in_ K B O H (upd H d (.frz od u)) σ (ρ.set i (.pin v)) as) O' H' σ' ρ') (hp : ρ'[i]? = some (.pin v)) : H' d = some (.frz od u) ∧ En K B O' (upd H' d u) σ' (ρ'.set i (.od t)) := by
  have l0 : Rl H (upd H d (.frz od u)) := Rl.lock h hu
  have wi : Own K H (σ[i]?) (.od t) as := ⟨v, O, hv, r⟩
  have ia := (E.at_ i _ hi).in_ wi
  have dj : ∀ (j : Nat) (s : Sl), (ρ.set i (.pin v))[j]? = some s → ∀ bs, Own K H (σ[j]?) s bs → ∀ b ∈ bs, b ∉ as := fun j s hj bs w b m z => by
    rcases set_get hj with ⟨_, e, _⟩ | ⟨ne, hj⟩
    · rw [e] at w; exact w
    · exact ne (E.inj i j _ s as bs b hi hj wi w z m)
  have sl : ∀ (j : Nat) (s : Sl), (ρ.set i (.pin v))[j]? = some s → SlOk K B O H (σ[j]?) s := fun j s hj => by
    rcases set_get hj with ⟨rfl, rfl, _⟩ | ⟨ne, hj⟩
    · exact hv
    · exact E.at_ j s hj
  have ho0 : ∀ (j : Nat) (s : Sl), (ρ.set i (.pin v))[j]? = some s → ∀ bs, Own K H (σ[j]?) s bs → ∀ b ∈ bs, upd H d (.frz od u) b = H b := fun j s hj bs w b m => upd_ne fun e => dj j s hj bs w b m (e ▸ md)
  have own : ∀ b, (Bs.in_ K B O H (upd H d (.frz od u)) σ (ρ.set i (.pin v)) as).A b → O b ∧ b ∉ as ∧ (B.A b ∨ B.H b = none) := fun b ⟨j, s, bs, h1, w, m⟩ => by
    have w' := (sl j s h1).rlB l0 (ho0 j s h1) w
    have z := (sl j s h1).in_ w' b m
    exact ⟨z.1, dj j s h1 bs w' b m, z.2.2.1⟩
  have hd : H' d = some (.frz od u) := E'.ext.keep d _ (fun z => (own d z).2.1 md) ns_frz upd_same
  have l : Rl H' (upd H' d u) := Rl.unlock hd hu
  have hfree : ∀ b, upd H d (.frz od u) b = none → H b = none := fun b e => by
    rw [upd_ne] at e
    · exact e
    · intro z; rw [z, upd_same] at e; cases e
  have kas : ∀ b ∈ as, ∀ w, H b = some w → upd H' d u b = some w := fun b m w q => by
    by_cases z : b = d
    · subst z; rw [h] at q; cases q; exact upd_same
    · rw [upd_ne z]
      have nw : ¬ isSrc w := by
        obtain ⟨_, _, _, w2, hw, ns⟩ := ia b m
        rw [q] at hw; cases hw; exact ns
      exact E'.ext.keep b w (fun k => (own b k).2.1 m) nw (by show upd H d (.frz od u) b = _; rw [upd_ne z]; exact q)
  have oas : ∀ b ∈ as, O' b := fun b m => E'.sub b (.inr m)
  have rr : RepO K O' (upd H' d u) v t as := r.tr (fun b w n s q => by
    have nb : b ≠ d := fun z => n (z ▸ (ia d md).1)
    refine ⟨?_, fun z => (E'.osub b z).elim n fun e => by rw [hfree b e] at q; cases q⟩
    rw [upd_ne nb]
    exact E'.ext.keep b w (fun k => n (own b k).1) s (by show upd H d (.frz od u) b = _; rw [upd_ne nb]; exact q)) fun b m w _ q => kas b m w q
  have dj' : ∀ (j : Nat) (s : Sl), ρ'[j]? = some s → ∀ bs, Own K H' (σ'[j]?) s bs → ∀ b ∈ bs, b ∉ as := fun j s hj bs w b m z => by
    obtain ⟨_, f, _⟩ := (E'.at_ j s hj).in_ w b m
    have f : (if b ∈ as then H b else B.F b) = none := f
    rw [if_pos z] at f
    exact E.dom b (ia b z).1 f
  have ho : ∀ (j : Nat) (s : Sl), ρ'[j]? = some s → ∀ bs, Own K H' (σ'[j]?) s bs → ∀ b ∈ bs, upd H' d u b = H' b := fun j s hj bs w b m => upd_ne fun e => dj' j s hj bs w b m (e ▸ md)
  have hs : ∀ a, Src H' a → upd H' d u a = H' a := fun a ⟨n, s, t, q⟩ => upd_ne fun e => by rw [e, hd] at q; cases q
  have hil : i < ρ'.length := (List.getElem?_eq_some_iff.mp hp).1
  have hvi : σ'[i]? = some (some v) := E'.at_ i _ hp
  have noas : ∀ (j : Nat) (s : Sl) (bs : List Addr), (ρ'.set i (.od t))[j]? = some s → Own K (upd H' d u) (σ'[j]?) s bs → (j = i ∧ bs = as) ∨ (j ≠ i ∧ ρ'[j]? = some s ∧ Own K H' (σ'[j]?) s bs) := fun j s bs hj w => by
    rcases set_get hj with ⟨rfl, rfl, _⟩ | ⟨ne, hj⟩
    · obtain ⟨v', O2, e, r2⟩ := w
      rw [hvi] at e; cases e
      exact .inl ⟨rfl, r2.det rr⟩
    · exact .inr ⟨Ne.symm ne, hj, (E'.at_ j s hj).rlB l (ho j s hj) w⟩
  refine ⟨hd, fun b z => E'.sub b (.inl z), E.bdom, fun b z => (E'.osub b z).elim (E.osub b) fun e => .inr (E.free (hfree b e)).2, fun b z => l.dom b (E'.dom b z), fun b z => l.dom b ?_, fun b z => l.dom b ?_, ⟨fun b o n s q => ?_, fun b q => ?_⟩, by simp [E'.len], fun j s hj => ?_, fun j k s t1 bs cs b h1 h2 w1 w2 m1 m2 => ?_⟩
  · by_cases c : (Bs.in_ K B O H (upd H d (.frz od u)) σ (ρ.set i (.pin v)) as).A b
    · exact E'.adom b c
    · exact E'.ext.some c (l0.dom b (E.adom b z))
  · refine E'.fdom b ?_
    show (if b ∈ as then H b else B.F b) ≠ none
    by_cases m : b ∈ as
    · rw [if_pos m]; exact E.dom b (ia b m).1
    · rw [if_neg m]; exact z
  · have q1 := E.ext.keep b o n s q
    by_cases z : b = d
    · subst z; rw [h] at q1; cases q1; exact upd_same
    · rw [upd_ne z]
      refine E'.ext.keep b o (fun w => ?_) s (by show upd H d (.frz od u) b = _; rw [upd_ne z]; exact q1)
      rcases (own b w).2.2 with a | a
      · exact n a
      · rw [a] at q; cases q
  · have q1 := E.ext.src b q
    have nb : b ≠ d := fun z => by
      obtain ⟨n, s, t, q1⟩ := q1
      rw [z, h] at q1; cases q1
      exact nu ⟨n, s, t, rfl⟩
    obtain ⟨n, s, t, q2⟩ := E'.ext.src b (by
      obtain ⟨n, s, t, q1⟩ := q1
      exact ⟨n, s, t, by show upd H d (.frz od u) b = _; rw [upd_ne nb]; exact q1⟩)
    exact ⟨n, s, t, by rw [upd_ne nb]; exact q2⟩
  · rcases set_get hj with ⟨rfl, rfl, _⟩ | ⟨ne, hj⟩
    · exact ⟨v, as, hvi, rr, nd, fun b m => ⟨oas b m, (ia b m).2.1, (ia b m).2.2.1⟩⟩
    · refine ((E'.at_ j s hj).rl l (ho j s hj) hs).rF rfl fun bs w p m f a => ?_
      have w' := (E'.at_ j s hj).rlB l (ho j s hj) w
      have np := dj' j s hj bs w' p m
      have f : (if p ∈ as then H p else B.F p) = none := f
      rw [if_neg np] at f
      exact ⟨f, a.elim (fun a => (own p a).2.2) fun a => .inr (E.free (hfree p a)).2⟩
  · rcases noas j s bs h1 w1 with ⟨e1, e2⟩ | ⟨n1, g1, v1⟩ <;> rcases noas k t1 cs h2 w2 with ⟨e3, e4⟩ | ⟨n2, g2, v2⟩
    · rw [e1, e3]
    · exact absurd (e2 ▸ m1) (dj' k t1 g2 cs v2 b m2)
    · exact absurd (e4 ▸ m2) (dj' j s g1 bs v1 b m1)
    · exact E'.inj j k s t1 bs cs b g1 g2 v1 v2 m1 m2
end
end Va

namespace Va
open PySem PySem.Spec PyProof.Rows L2 Bg
/-! ### dicts as lists of pairs -/
section
variable {κ κ' α : Type} [DecidableEq κ] [DecidableEq κ']
def getL (l : List (κ × α)) (k : κ) : Option α := (l.find? fun p => decide (p.1 = k)).map (·.2)
def putL (l : List (κ × α)) (k : κ) (a : α) : List (κ × α) := if (l.any fun p => decide (p.1 = k)) = true then l.map (fun p => if p.1 = k then (p.1, a) else p) else l ++ [(k, a)]
theorem getL_nil (k : κ) : getL ([] : List (κ × α)) k = none := rfl
theorem getL_pos {p : κ × α} {l : List (κ × α)} {k : κ} (h : p.1 = k) : getL (p :: l) k = some p.2 := by simp [getL, List.find?_cons, h]
theorem getL_neg {p : κ × α} {l : List (κ × α)} {k : κ} (h : ¬ p.1 = k) : getL (p :: l) k = getL l k := by simp [getL, List.find?_cons, h]
theorem getL_mem {l : List (κ × α)} {k : κ} {a : α} (h : getL l k = some a) : (k, a) ∈ l := by
  induction l with
  | nil => cases h
  | cons p l ih =>
    by_cases c : p.1 = k
    · rw [getL_pos c] at h
      cases h
      rw [← c]
      exact List.mem_cons_self
    · rw [getL_neg c] at h
      exact List.mem_cons_of_mem _ (ih h)
theorem getL_has {l : List (κ × α)} {k : κ} : (getL l k).isSome = true ↔ k ∈ l.map (·.1) := by
  induction l with
  | nil => simp [getL]
  | cons p l ih =>
    by_cases c : p.1 = k
    · rw [getL_pos c]; simp [c]
    · rw [getL_neg c, ih]; simp [c, Ne.symm c]
theorem putL_keys {l : List (κ × α)} {k : κ} {a : α} : (putL l k a).map (·.1) = if k ∈ l.map (·.1) then l.map (·.1) else l.map (·.1) ++ [k] := by
  unfold putL
  have : (l.any fun p => decide (p.1 = k)) = true ↔ k ∈ l.map (·.1) := by
    rw [List.any_eq_true, List.mem_map]
    exact ⟨fun ⟨p, h1, h2⟩ => ⟨p, h1, of_decide_eq_true h2⟩, fun ⟨p, h1, h2⟩ => ⟨p, h1, decide_eq_true h2⟩⟩
  by_cases c : k ∈ l.map (·.1)
  · rw [if_pos (this.mpr c), if_pos c, List.map_map]
    refine List.map_congr_left fun p _ => ?_
    show (if p.1 = k then (p.1, a) else p).1 = p.1
    split <;> rfl
  · rw [if_neg (fun z => c (this.mp z)), if_neg c, List.map_append]
    rfl
theorem putL_len {l : List (κ × α)} {k : κ} {a : α} : (putL l k a).length ≤ l.length + 1 := by
  unfold putL
  split <;> simp
theorem getL_put {l : List (κ × α)} {k k' : κ} {a : α} : getL (putL l k a) k' = if k' = k then some a else getL l k' := by
  unfold putL
  by_cases c : (l.any fun p => decide (p.1 = k)) = true
  · rw [if_pos c]
    induction l with
    | nil => cases c
    | cons p l ih =>
      rw [List.map_cons]
      by_cases c1 : p.1 = k
      · rw [if_pos c1]
        by_cases c2 : k' = k
        · rw [getL_pos (p := (p.1, a)) (c1.trans c2.symm), if_pos c2]
        · have : ¬ p.1 = k' := fun z => c2 (z.symm.trans c1)
          rw [getL_neg (p := (p.1, a)) this, getL_neg this, if_neg c2]
          clear ih c
          induction l with
          | nil => rfl
          | cons q l ih =>
            rw [List.map_cons]
            by_cases c3 : q.1 = k
            · rw [if_pos c3]
              have : ¬ q.1 = k' := fun z => c2 (z.symm.trans c3)
              rw [getL_neg (p := (q.1, a)) this, getL_neg this]
              exact ih
            · rw [if_neg c3]
              by_cases c4 : q.1 = k'
              · rw [getL_pos c4, getL_pos c4]
              · rw [getL_neg c4, getL_neg c4]
                exact ih
      · rw [if_neg c1]
        rw [List.any_cons, decide_eq_false c1, Bool.false_or] at c
        by_cases c2 : p.1 = k'
        · rw [getL_pos c2, getL_pos c2, if_neg (fun z => c1 (c2.trans z))]
        · rw [getL_neg c2, getL_neg c2]
          exact ih c
  · rw [if_neg c]
    induction l with
    | nil =>
      by_cases c2 : k' = k
      · rw [if_pos c2]; exact getL_pos c2.symm
      · rw [if_neg c2]; exact getL_neg (fun z => c2 z.symm)
    | cons p l ih =>
      rw [List.any_cons, Bool.or_eq_true, decide_eq_true_iff, not_or] at c
      rw [List.cons_append]
      by_cases c2 : p.1 = k'
      · rw [getL_pos c2, getL_pos c2, if_neg (fun z => c.1 (c2.trans z))]
      · rw [getL_neg c2, getL_neg c2]
        exact ih c.2
variable {K : PySem.W.Frag} {O : AP} {H : Hp} {f : κ → κ'} {en : α → D}
def enc (f : κ → κ') (en : α → D) (l : List (κ × α)) : List (κ' × D) := l.map fun p => (f p.1, en p.2)
theorem val_rep (inj : ∀ a b, f a = f b → a = b) (k : κ) : ∀ {l : List (κ × α)} {kvs : List (κ' × V)}, kvs.map (·.1) = (enc f en l).map (·.1) → RepL K O H (kvs.map (·.2)) ((enc f en l).map (·.2)) → (getL l k = none ∧ valV kvs (f k) = none) ∨ ∃ a v, getL l k = some a ∧ valV kvs (f k) = some v ∧ Rep K O H v (en a)
  | [], [], _, _ => .inl ⟨rfl, rfl⟩
  | [], _ :: _, h, _ => by cases h
  | p :: l, [], h, _ => by cases h
  | p :: l, q :: kvs, h, .cons r t => by
    have h1 : q.1 = f p.1 := (List.cons.inj h).1
    have h2 : kvs.map (·.1) = (enc f en l).map (·.1) := (List.cons.inj h).2
    by_cases c : p.1 = k
    · exact .inr ⟨p.2, q.2, getL_pos c, valV_pos (by rw [h1, c]), r⟩
    · have c' : ¬ q.1 = f k := fun z => c (inj _ _ (h1.symm.trans z))
      rw [getL_neg c, valV_neg c']
      exact val_rep inj k h2 t
theorem put_any (inj : ∀ a b, f a = f b → a = b) (k : κ) : ∀ {l : List (κ × α)} {kvs : List (κ' × V)}, kvs.map (·.1) = (enc f en l).map (·.1) → (kvs.any fun kv => decide (kv.1 = f k)) = l.any fun p => decide (p.1 = k)
  | [], [], _ => rfl
  | [], _ :: _, h => by cases h
  | p :: l, [], h => by cases h
  | p :: l, q :: kvs, h => by
    have h1 : q.1 = f p.1 := (List.cons.inj h).1
    rw [List.any_cons, List.any_cons, put_any inj k (List.cons.inj h).2]
    congr 1
    rw [decide_eq_decide, h1]
    exact ⟨fun z => inj _ _ z, fun z => by rw [z]⟩
theorem put_map (inj : ∀ a b, f a = f b → a = b) {k : κ} {a : α} {v : V} (rv : Rep K O H v (en a)) : ∀ {l : List (κ × α)} {kvs : List (κ' × V)}, kvs.map (·.1) = (enc f en l).map (·.1) → RepL K O H (kvs.map (·.2)) ((enc f en l).map (·.2)) →
    (kvs.map fun kv => if kv.1 = f k then (kv.1, v) else kv).map (·.1) = (enc f en (l.map fun p => if p.1 = k then (p.1, a) else p)).map (·.1) ∧ RepL K O H ((kvs.map fun kv => if kv.1 = f k then (kv.1, v) else kv).map (·.2)) ((enc f en (l.map fun p => if p.1 = k then (p.1, a) else p)).map (·.2))
  | [], [], _, _ => ⟨rfl, .nil⟩
  | [], _ :: _, h, _ => by cases h
  | p :: l, [], h, _ => by cases h
  | p :: l, q :: kvs, h, .cons r t => by
    have h1 : q.1 = f p.1 := (List.cons.inj h).1
    obtain ⟨i1, i2⟩ := put_map inj rv (List.cons.inj h).2 t
    by_cases c : p.1 = k
    · have c' : q.1 = f k := by rw [h1, c]
      rw [List.map_cons, if_pos c', List.map_cons (l := l), if_pos c]
      exact ⟨by show q.1 :: _ = f p.1 :: _; rw [h1, i1]; rfl, .cons rv i2⟩
    · have c' : ¬ q.1 = f k := fun z => c (inj _ _ (h1.symm.trans z))
      rw [List.map_cons, if_neg c', List.map_cons (l := l), if_neg c]
      exact ⟨by show q.1 :: _ = f p.1 :: _; rw [h1, i1]; rfl, .cons r i2⟩
theorem put_rep (inj : ∀ a b, f a = f b → a = b) {k : κ} {a : α} {v : V} (rv : Rep K O H v (en a)) {l : List (κ × α)} {kvs : List (κ' × V)} (h : kvs.map (·.1) = (enc f en l).map (·.1)) (r : RepL K O H (kvs.map (·.2)) ((enc f en l).map (·.2))) :
    (putK kvs (f k) v).map (·.1) = (enc f en (putL l k a)).map (·.1) ∧ RepL K O H ((putK kvs (f k) v).map (·.2)) ((enc f en (putL l k a)).map (·.2)) := by
  unfold putK putL
  rw [put_any inj k h]
  by_cases c : (l.any fun p => decide (p.1 = k)) = true
  · rw [if_pos c, if_pos c]
    exact put_map inj rv h r
  · rw [if_neg c, if_neg c]
    unfold enc at h r ⊢
    rw [List.map_append, List.map_append, List.map_append, List.map_append, List.map_append, h]
    exact ⟨rfl, r.app (.cons rv .nil)⟩
theorem enc_len {l : List (κ × α)} {kvs : List (κ' × V)} (h : kvs.map (·.1) = (enc f en l).map (·.1)) : kvs.length = l.length := by
  have := congrArg List.length h
  unfold enc at this
  simpa using this
end
/-! ### their trees -/
class KeyE {κ : Type} (enk : κ → D) (kk : outParam (κ → Key)) : Prop where
  inj : ∀ a b, kk a = kk b → a = b
  rep : ∀ {K : PySem.W.Frag} {O : AP} {H : Hp} {v : V} {k : κ}, Rep K O H v (enk k) → v = kV (kk k)
  rp : ∀ {K : PySem.W.Frag} {O : AP} {H : Hp} (k : κ), Rep K O H (kV (kk k)) (enk k)
instance : KeyE D.int (Sum.inl : Int → Key) := ⟨fun _ _ h => Sum.inl.inj h, fun r => (by cases r; rfl), fun k => .int k⟩
instance : KeyE D.str (Sum.inr : Str → Key) := ⟨fun _ _ h => Sum.inr.inj h, fun r => (by cases r; rfl), fun k => .str k⟩
def kk2 (p : Int × Int) : List Key := [Sum.inl p.1, Sum.inl p.2]
theorem kk2_inj : ∀ a b, kk2 a = kk2 b → a = b := fun a b h => by
  injection h with h1 h2
  injection h2 with h2 _
  exact Prod.ext (Sum.inl.inj h1) (Sum.inl.inj h2)
def eD {κ α : Type} (kk : κ → Key) (en : α → D) (l : List (κ × α)) : D := .dct (enc kk en l)
def eP {α : Type} (en : α → D) (l : List ((Int × Int) × α)) : D := .dcp (enc kk2 en l)
def oD {κ α : Type} (kk : κ → Key) (oe : α → OT) (l : List (κ × α)) : OT := .dct (l.map fun p => (kk p.1, oe p.2))
def oP {α : Type} (oe : α → OT) (l : List ((Int × Int) × α)) : OT := .dcp (l.map fun p => (kk2 p.1, oe p.2))
theorem od_D {κ α : Type} {kk : κ → Key} {oe : α → OT} {en : α → D} (h : ∀ a, (oe a).d = en a) (l : List (κ × α)) : (oD kk oe l).d = eD kk en l := by
  unfold oD eD enc
  rw [OT.d]
  congr 1
  induction l with
  | nil => rfl
  | cons p l ih => rw [List.map_cons, List.map_cons, OT.dk, ih, h]
theorem od_P {α : Type} {oe : α → OT} {en : α → D} (h : ∀ a, (oe a).d = en a) (l : List ((Int × Int) × α)) : (oP oe l).d = eP en l := by
  unfold oP eP enc
  rw [OT.d]
  congr 1
  induction l with
  | nil => rfl
  | cons p l ih => rw [List.map_cons, List.map_cons, OT.dp, ih, h]
/-- no source -/
class NSrc {κ α : Type} (kk : κ → Key) (en : α → D) : Prop where
  no : ∀ {K : PySem.W.Frag} {O : AP} {H : Hp} {v : V} {k : κ} {a : α}, kk k = Sum.inr ("number" : Str) → Rep K O H v (en a) → ∀ i, v ≠ .int i
instance {α : Type} {en : α → D} : NSrc (Sum.inl : Int → Key) en := ⟨fun h => nomatch h⟩
instance : NSrc (Sum.inr : Str → Key) D.bl := ⟨fun _ r i z => by cases r; cases z⟩
instance {α : Type} {en : α → D} : NSrc (Sum.inr : Str → Key) (eL en) := ⟨fun _ r i z => by cases r; cases z⟩
instance {α : Type} {en : α → D} : NSrc (Sum.inr : Str → Key) (eP en) := ⟨fun _ r i z => by cases r; cases z⟩
theorem nsrc_of {κ α : Type} {kk : κ → Key} {en : α → D} [NSrc kk en] {K : PySem.W.Frag} {O : AP} {H : Hp} {l : List (κ × α)} {kvs : List (Key × V)} (h : kvs.map (·.1) = (enc kk en l).map (·.1)) (r : RepL K O H (kvs.map (·.2)) ((enc kk en l).map (·.2))) : ¬ isSrc (.dK kvs) := by
  rintro ⟨n, s, t, rfl⟩
  cases l with
  | nil => cases h
  | cons p l =>
    cases r with
    | cons r _ => exact NSrc.no (kk := kk) (en := en) (k := p.1) (a := p.2) (List.cons.inj h).1.symm r n rfl
section
variable {K : PySem.W.Frag} {EX : L2.St → XK} {ρ : List Sl} {α β γ R κ : Type} {F : Fr R} [DecidableEq κ]
theorem dget_rep {O : AP} {H : Hp} {v y : V} {enk : κ → D} {kk : κ → Key} [KeyE enk kk] {en : α → D} {l : List (κ × α)} {k : κ} (r : Rep K O H v (eD kk en l)) (ry : Rep K O H y (enk k)) : ∃ a o, v = .ref a ∧ DGet H a y o ∧ ((getL l k = none ∧ o = none) ∨ ∃ x w, getL l k = some x ∧ o = some w ∧ Rep K O H w (en x)) := by
  cases r with
  | @dct a kvs _ n h s e r =>
    refine ⟨a, valV kvs (kk k), rfl, .inl ⟨kvs, kk k, h, KeyE.rep ry, rfl⟩, ?_⟩
    rcases val_rep (KeyE.inj enk) k e r with ⟨h1, h2⟩ | ⟨x, w, h1, h2, h3⟩
    · exact .inl ⟨h1, h2⟩
    · exact .inr ⟨x, w, h1, h2, h3⟩
theorem rep_pair {O : AP} {H : Hp} {y : V} {k : Int × Int} (r : Rep K O H y (eT2 D.int D.int k)) : ∃ b, y = .ref b ∧ H b = some (.tup ((kk2 k).map kV)) := by
  cases r with
  | tup _ h r =>
    cases r with
    | cons r1 r =>
      cases r with
      | cons r2 r =>
        cases r; cases r1; cases r2
        exact ⟨_, rfl, h⟩
theorem dgetP_rep {O : AP} {H : Hp} {v y : V} {en : α → D} {l : List ((Int × Int) × α)} {k : Int × Int} (r : Rep K O H v (eP en l)) (ry : Rep K O H y (eT2 D.int D.int k)) : ∃ a o, v = .ref a ∧ DGet H a y o ∧ ((getL l k = none ∧ o = none) ∨ ∃ x w, getL l k = some x ∧ o = some w ∧ Rep K O H w (en x)) := by
  cases r with
  | @dcp a kvs _ n h e r =>
    obtain ⟨b, rfl, hb⟩ := rep_pair ry
    refine ⟨a, valV kvs (kk2 k), rfl, .inr ⟨kvs, kk2 k, b, h, rfl, hb, rfl⟩, ?_⟩
    rcases val_rep kk2_inj k e r with ⟨h1, h2⟩ | ⟨x, w, h1, h2, h3⟩
    · exact .inl ⟨h1, h2⟩
    · exact .inr ⟨x, w, h1, h2, h3⟩
theorem o_some {o : Option V} {g : Option α} {Pw : V → α → Prop} (h : (g = none ∧ o = none) ∨ ∃ x w, g = some x ∧ o = some w ∧ Pw w x) : o.isSome = g.isSome := by
  rcases h with ⟨h1, h2⟩ | ⟨x, w, h1, h2, _⟩ <;> rw [h1, h2] <;> rfl
/-! y in d -/
theorem re_din {ty td : TE} {enk : κ → D} {kk : κ → Key} [KeyE enk kk] {en : α → D} {wk : M κ} {wd : M (List (κ × α))} (hk : RE K EX ρ ty enk wk) (hd : RE K EX ρ td (eD kk en) wd) : RE K EX ρ (tDIn ty td) D.bl (wk >>= fun k => wd >>= fun l => pure (getL l k).isSome) := fun B O H σ E P PX Q hw hq hx =>
  hk B O H σ E _ PX _ hw (fun k y H1 p1 e1 r1 => hd B O H1 σ (E.ex e1) _ PX _ p1 (fun l v H2 p2 e2 r2 => by
    obtain ⟨a, o, ea, g, ho⟩ := dget_rep r2 (Rep.ex r1 e2)
    exact ⟨a, o, ea, g, by rw [o_some ho]; exact hq _ _ _ p2 (e1.trans e2) (.bl _)⟩) fun x cls d H' px e k => hx x cls d H' px (e1.trans e) k) hx
theorem re_dnin {ty td : TE} {enk : κ → D} {kk : κ → Key} [KeyE enk kk] {en : α → D} {wk : M κ} {wd : M (List (κ × α))} (hk : RE K EX ρ ty enk wk) (hd : RE K EX ρ td (eD kk en) wd) : RE K EX ρ (tDNotIn ty td) D.bl (wk >>= fun k => wd >>= fun l => pure (!(getL l k).isSome)) := fun B O H σ E P PX Q hw hq hx =>
  hk B O H σ E _ PX _ hw (fun k y H1 p1 e1 r1 => hd B O H1 σ (E.ex e1) _ PX _ p1 (fun l v H2 p2 e2 r2 => by
    obtain ⟨a, o, ea, g, ho⟩ := dget_rep r2 (Rep.ex r1 e2)
    exact ⟨a, o, ea, g, by rw [o_some ho]; exact hq _ _ _ p2 (e1.trans e2) (.bl _)⟩) fun x cls d H' px e k => hx x cls d H' px (e1.trans e) k) hx
theorem re_dinP {ty td : TE} {en : α → D} {wk : M (Int × Int)} {wd : M (List ((Int × Int) × α))} (hk : RE K EX ρ ty (eT2 D.int D.int) wk) (hd : RE K EX ρ td (eP en) wd) : RE K EX ρ (tDIn ty td) D.bl (wk >>= fun k => wd >>= fun l => pure (getL l k).isSome) := fun B O H σ E P PX Q hw hq hx =>
  hk B O H σ E _ PX _ hw (fun k y H1 p1 e1 r1 => hd B O H1 σ (E.ex e1) _ PX _ p1 (fun l v H2 p2 e2 r2 => by
    obtain ⟨a, o, ea, g, ho⟩ := dgetP_rep r2 (Rep.ex r1 e2)
    exact ⟨a, o, ea, g, by rw [o_some ho]; exact hq _ _ _ p2 (e1.trans e2) (.bl _)⟩) fun x cls d H' px e k => hx x cls d H' px (e1.trans e) k) hx
theorem re_dninP {ty td : TE} {en : α → D} {wk : M (Int × Int)} {wd : M (List ((Int × Int) × α))} (hk : RE K EX ρ ty (eT2 D.int D.int) wk) (hd : RE K EX ρ td (eP en) wd) : RE K EX ρ (tDNotIn ty td) D.bl (wk >>= fun k => wd >>= fun l => pure (!(getL l k).isSome)) := fun B O H σ E P PX Q hw hq hx =>
  hk B O H σ E _ PX _ hw (fun k y H1 p1 e1 r1 => hd B O H1 σ (E.ex e1) _ PX _ p1 (fun l v H2 p2 e2 r2 => by
    obtain ⟨a, o, ea, g, ho⟩ := dgetP_rep r2 (Rep.ex r1 e2)
    exact ⟨a, o, ea, g, by rw [o_some ho]; exact hq _ _ _ p2 (e1.trans e2) (.bl _)⟩) fun x cls d H' px e k => hx x cls d H' px (e1.trans e) k) hx
/-! d[y] -/
def getD {κ α : Type} [DecidableEq κ] (l : List (κ × α)) (k : κ) : M α := fun P _ => ∃ a, getL l k = some a ∧ P a
theorem re_dget {ty td : TE} {enk : κ → D} {kk : κ → Key} [KeyE enk kk] {en : α → D} {wk : M κ} {wd : M (List (κ × α))} (hd : RE K EX ρ td (eD kk en) wd) (hk : RE K EX ρ ty enk wk) : RE K EX ρ (tDGet td ty) en (wd >>= fun l => wk >>= fun k => getD l k) := fun B O H σ E P PX Q hw hq hx =>
  hd B O H σ E _ PX _ hw (fun l v H1 p1 e1 r1 => hk B O H1 σ (E.ex e1) _ PX _ p1 (fun k y H2 p2 e2 r2 => by
    obtain ⟨a, o, ea, g, ho⟩ := dget_rep (Rep.ex r1 e2) r2
    obtain ⟨x, hx1, p2⟩ := p2
    rcases ho with ⟨h1, h2⟩ | ⟨x', w, h1, h2, h3⟩
    · rw [hx1] at h1; cases h1
    · rw [hx1] at h1; cases h1
      subst h2
      exact ⟨a, w, ea, g, hq _ _ _ p2 (e1.trans e2) h3⟩) fun x cls d H' px e k => hx x cls d H' px (e1.trans e) k) hx
/-! {} -/
theorem rg_dnew {kk : κ → Key} {oe : α → OT} : RG K EX ρ tDNewK (resO K (oD kk oe)) (pure []) := fun B O H σ E P PX Q hw hq hx p hp =>
  hq [] _ _ hw (.new hp) ⟨[p], .dct upd_same (fun ⟨n, s, t, z⟩ => nomatch z) rfl .nil, List.nodup_cons.mpr ⟨(fun z => nomatch z), List.nodup_nil⟩, fun b m => by rw [List.mem_singleton.mp m]; exact hp⟩
theorem rg_dnewP {oe : α → OT} : RG K EX ρ tDNewT (resO K (oP oe)) (pure []) := fun B O H σ E P PX Q hw hq hx p hp =>
  hq [] _ _ hw (.new hp) ⟨[p], .dcp upd_same rfl .nil, List.nodup_cons.mpr ⟨(fun z => nomatch z), List.nodup_nil⟩, fun b m => by rw [List.mem_singleton.mp m]; exact hp⟩
/-! d[k] = v -/
theorem oD_s {O : AP} {H : Hp} {kk : κ → Key} {en : α → D} {l : List (κ × α)} {vs : List V} {as : List Addr} (r : RepOL K O H vs ((l.map fun p => (kk p.1, oS en p.2)).map (·.2)) as) : RepL K O H vs ((enc kk en l).map (·.2)) ∧ as = [] := by
  have e1 : (l.map fun p => (kk p.1, oS en p.2)).map (·.2) = (l.map (·.2)).map (oS en) := by rw [List.map_map, List.map_map]; rfl
  have e2 : (enc kk en l).map (·.2) = (l.map (·.2)).map en := by unfold enc; rw [List.map_map, List.map_map]; rfl
  rw [e1] at r
  rw [e2]
  exact repl_s r
theorem oD_o {O : AP} {H : Hp} {κ' : Type} {kk : κ → κ'} {en : α → D} {l : List (κ × α)} {vs : List V} (r : RepL K O H vs ((enc kk en l).map (·.2))) : RepOL K O H vs ((l.map fun p => (kk p.1, oS en p.2)).map (·.2)) [] := by
  have e1 : (l.map fun p => (kk p.1, oS en p.2)).map (·.2) = (l.map (·.2)).map (oS en) := by rw [List.map_map, List.map_map]; rfl
  have e2 : (enc kk en l).map (·.2) = (l.map (·.2)).map en := by unfold enc; rw [List.map_map, List.map_map]; rfl
  rw [e1]
  rw [e2] at r
  exact repl_o r
theorem enc_k {κ' : Type} {kk : κ → κ'} {en : α → D} {l : List (κ × α)} : (l.map fun p => (kk p.1, oS en p.2)).map (·.1) = (enc kk en l).map (·.1) := by unfold enc; rw [List.map_map, List.map_map]; rfl
/-- an own dict, changed -/
theorem put_own {O : AP} {H : Hp} {p : Addr} {enk : κ → D} {kk : κ → Key} [KeyE enk kk] {en : α → D} [NSrc kk en] {l : List (κ × α)} {as : List Addr} {k : κ} {a : α} {v y : V} (r : RepO K O H (.ref p) (oD kk (oS en) l) as) (rv : Rep K O H v (en a)) (ry : Rep K O H y (enk k)) (op : O p) (hl : l.length < sizeLine) :
    as = [p] ∧ ∃ kvs, H p = some (.dK kvs) ∧ ¬ isSrc (.dK kvs) ∧ DPut H p y v (upd H p (.dK (putK kvs (kk k) v))) ∧ RepO K O (upd H p (.dK (putK kvs (kk k) v))) (.ref p) (oD kk (oS en) (putL l k a)) [p] := by
  cases r with
  | @dct _ kvs _ as' hp s e r =>
    obtain ⟨r2, rfl⟩ := oD_s r
    rw [enc_k] at e
    have up : Ext (fun b => b = p) H (upd H p (.dK (putK kvs (kk k) v))) := up_ext hp s
    have A : ∀ b, b = p → O b := fun b z => z ▸ op
    obtain ⟨q1, q2⟩ := put_rep (KeyE.inj enk) (k := k) rv e r2
    refine ⟨rfl, kvs, hp, s, .inl ⟨kvs, kk k, hp, KeyE.rep ry, by rw [enc_len e]; exact hl, rfl⟩, .dct upd_same (nsrc_of q1 q2) (by rw [enc_k]; exact q1) (oD_o (q2.ext up A))⟩
theorem put_ownP {O : AP} {H : Hp} {p : Addr} {en : α → D} {l : List ((Int × Int) × α)} {as : List Addr} {k : Int × Int} {a : α} {v y : V} (r : RepO K O H (.ref p) (oP (oS en) l) as) (rv : Rep K O H v (en a)) (ry : Rep K O H y (eT2 D.int D.int k)) (op : O p) (hl : l.length < sizeLine) :
    as = [p] ∧ ∃ kvs, H p = some (.dT kvs) ∧ DPut H p y v (upd H p (.dT (putK kvs (kk2 k) v))) ∧ RepO K O (upd H p (.dT (putK kvs (kk2 k) v))) (.ref p) (oP (oS en) (putL l k a)) [p] := by
  cases r with
  | @dcp _ kvs _ as' hp e r =>
    have e1 : (l.map fun p => (kk2 p.1, oS en p.2)).map (·.2) = (l.map (·.2)).map (oS en) := by rw [List.map_map, List.map_map]; rfl
    have e2 : (enc kk2 en l).map (·.2) = (l.map (·.2)).map en := by unfold enc; rw [List.map_map, List.map_map]; rfl
    rw [e1] at r
    obtain ⟨r2, rfl⟩ := repl_s r
    rw [← e2] at r2
    rw [enc_k] at e
    have up : Ext (fun b => b = p) H (upd H p (.dT (putK kvs (kk2 k) v))) := up_ext hp ns_dT
    have A : ∀ b, b = p → O b := fun b z => z ▸ op
    obtain ⟨q1, q2⟩ := put_rep kk2_inj (k := k) rv e r2
    obtain ⟨b, rfl, hb⟩ := rep_pair ry
    exact ⟨rfl, kvs, hp, .inr ⟨kvs, kk2 k, b, hp, rfl, hb, by rw [enc_len e]; exact hl, rfl⟩, .dcp upd_same (by rw [enc_k]; exact q1) (oD_o (q2.ext up A))⟩
end
end Va

namespace Va
open PySem PySem.Spec PyProof.Rows L2 Bg
section
variable {K : PySem.W.Frag} {EX : L2.St → XK} {ρ : List Sl} {α β γ R κ : Type} {F : Fr R} [DecidableEq κ]
/-! ### d[k] = v -/
theorem rb_dput {tk tv : TE} {enk : κ → D} {kk : κ → Key} [KeyE enk kk] {en : α → D} [NSrc kk en] {wk : M κ} {wv : M α} {u : TS} {l : List (κ × α)} {k : List (κ × α) → M R} (i : Nat) (hv : RE K EX ρ tv en wv) (hk : RE K EX ρ tk enk wk) (hu : ∀ l', RB K EX F (ρ.set i (.od (oD kk (oS en) l'))) u (k l')) (h : ρ[i]? = some (.od (oD kk (oS en) l)) := by rfl) (hx : LeX F.ρx ρ := by first | exact lex_nil | (refine lex_le ?_; repeat (first | exact le_nil | refine le_cons ?_ | refine le_no ?_))) :
    RB K EX F ρ (tSeq (sDPut (tVar i) tk tv) u) (wv >>= fun a => (wk >>= fun y => (need (l.length < sizeLine) >>= fun _ => k (putL l y a)))) := fun B O H σ D E P PX hp nx bk ct rt xc =>
  hv B O H σ E _ PX _ hp (fun a v H1 p1 e1 r1 => by
    have E1 := E.ex e1
    obtain ⟨x, as, hx1, r0, nd, own⟩ := E1.at_ i _ h
    refine ⟨x, hx1, hk B O H1 σ E1 _ PX _ p1 (fun y vy H2 p2 e2 r2 => ?_) fun x cls d H' px e k => xc ρ O σ x cls d H' (E1.ex e) hx px k⟩
    obtain ⟨hl, p2⟩ := p2
    have E2 := E1.ex e2
    have r0' := r0.tr (ex_tr e2) (fun b _ u s q => e2.keep b u (fun z => z) s q)
    obtain ⟨p, rfl, m⟩ : ∃ p, x = .ref p ∧ p ∈ as := by
      cases r0 with
      | dct _ _ _ _ => exact ⟨_, rfl, List.mem_cons_self⟩
    obtain ⟨e, kvs, hpp, ns, dp, rn⟩ := put_own (k := y) (a := a) r0' (Rep.ex r1 e2) r2 (own p m).1 hl
    subst e
    have ow2 : Own K H2 (σ[i]?) (.od (oD kk (oS en) l)) [p] := ⟨_, O, hx1, r0'⟩
    refine ⟨p, _, rfl, dp, hu _ B O _ σ D (E2.mutW h ow2 m hpp ⟨_, _, hx1, rn, nd, own⟩ fun bs w b m => ?_) P PX p2 nx bk ct rt xc⟩
    obtain ⟨v', O2, e', r'⟩ := w
    rw [hx1] at e'
    cases e'
    rw [rn.det r']
    exact m) fun x cls d H' px e k => xc ρ O σ x cls d H' (E.ex e) hx px k
theorem rb_dputP {tk tv : TE} {en : α → D} {wk : M (Int × Int)} {wv : M α} {u : TS} {l : List ((Int × Int) × α)} {k : List ((Int × Int) × α) → M R} (i : Nat) (hv : RE K EX ρ tv en wv) (hk : RE K EX ρ tk (eT2 D.int D.int) wk) (hu : ∀ l', RB K EX F (ρ.set i (.od (oP (oS en) l'))) u (k l')) (h : ρ[i]? = some (.od (oP (oS en) l)) := by rfl) (hx : LeX F.ρx ρ := by first | exact lex_nil | (refine lex_le ?_; repeat (first | exact le_nil | refine le_cons ?_ | refine le_no ?_))) :
    RB K EX F ρ (tSeq (sDPut (tVar i) tk tv) u) (wv >>= fun a => (wk >>= fun y => (need (l.length < sizeLine) >>= fun _ => k (putL l y a)))) := fun B O H σ D E P PX hp nx bk ct rt xc =>
  hv B O H σ E _ PX _ hp (fun a v H1 p1 e1 r1 => by
    have E1 := E.ex e1
    obtain ⟨x, as, hx1, r0, nd, own⟩ := E1.at_ i _ h
    refine ⟨x, hx1, hk B O H1 σ E1 _ PX _ p1 (fun y vy H2 p2 e2 r2 => ?_) fun x cls d H' px e k => xc ρ O σ x cls d H' (E1.ex e) hx px k⟩
    obtain ⟨hl, p2⟩ := p2
    have E2 := E1.ex e2
    have r0' := r0.tr (ex_tr e2) (fun b _ u s q => e2.keep b u (fun z => z) s q)
    obtain ⟨p, rfl, m⟩ : ∃ p, x = .ref p ∧ p ∈ as := by
      cases r0 with
      | dcp _ _ _ => exact ⟨_, rfl, List.mem_cons_self⟩
    obtain ⟨e, kvs, hpp, dp, rn⟩ := put_ownP (k := y) (a := a) r0' (Rep.ex r1 e2) r2 (own p m).1 hl
    subst e
    have ow2 : Own K H2 (σ[i]?) (.od (oP (oS en) l)) [p] := ⟨_, O, hx1, r0'⟩
    refine ⟨p, _, rfl, dp, hu _ B O _ σ D (E2.mutW h ow2 m hpp ⟨_, _, hx1, rn, nd, own⟩ fun bs w b m => ?_) P PX p2 nx bk ct rt xc⟩
    obtain ⟨v', O2, e', r'⟩ := w
    rw [hx1] at e'
    cases e'
    rw [rn.det r']
    exact m) fun x cls d H' px e k => xc ρ O σ x cls d H' (E.ex e) hx px k
/-- xs[j][k] = v -/
def dput2 {κ α : Type} [DecidableEq κ] (l : List (List (κ × α))) (j : Int) (y : κ) (a : α) : M (List (List (κ × α))) := fun P _ => ∃ n row, ixN l.length j = some n ∧ l[n]? = some row ∧ row.length < sizeLine ∧ P (l.set n (putL row y a))
theorem rb_dput2 {tk tv ti : TE} {enk : κ → D} {kk : κ → Key} [KeyE enk kk] {en : α → D} [NSrc kk en] {wk : M κ} {wv : M α} {wi : M Int} {u : TS} {l : List (List (κ × α))} {k : List (List (κ × α)) → M R} (i : Nat) (hv : RE K EX ρ tv en wv) (hi : RE K EX ρ ti D.int wi) (hk : RE K EX ρ tk enk wk) (hu : ∀ l', RB K EX F (ρ.set i (.od (oL (oD kk (oS en)) l'))) u (k l')) (h : ρ[i]? = some (.od (oL (oD kk (oS en)) l)) := by rfl) (hx : LeX F.ρx ρ := by first | exact lex_nil | (refine lex_le ?_; repeat (first | exact le_nil | refine le_cons ?_ | refine le_no ?_))) :
    RB K EX F ρ (tSeq (sDPut (tOp (rIxL K) (tVar i) ti) tk tv) u) (wv >>= fun a => (wi >>= fun j => (need (∃ n, ixN l.length j = some n) >>= fun _ => (wk >>= fun y => dput2 l j y a >>= k)))) := fun B O H σ D E P PX hp nx bk ct rt xc =>
  hv B O H σ E _ PX _ hp (fun a v H1 p1 e1 r1 => by
    have E1 := E.ex e1
    obtain ⟨x, as, hx1, r0, nd, own⟩ := E1.at_ i _ h
    refine ⟨x, hx1, hi B O H1 σ E1 _ PX _ p1 (fun j vj H2 p2 e2 r2 => ?_) fun x cls d H' px e k => xc ρ O σ x cls d H' (E1.ex e) hx px k⟩
    cases r2
    obtain ⟨⟨n, hn⟩, p2⟩ := p2
    have hnl : n < l.length := (ixN_seq hn).2.1
    have E2 := E1.ex e2
    have r2 := r0.tr (ex_tr e2) (fun b _ u s q => e2.keep b u (fun z => z) s q)
    cases r2 with
    | @lst a0 vs ts as' hpa rl =>
      have hl := rl.length
      rw [List.length_map] at hl
      obtain ⟨v1, bs, ev, k1, mb⟩ := rl.get (t := oD kk (oS en) l[n]) (i := n) (by rw [List.getElem?_map, List.getElem?_eq_getElem hnl]; rfl)
      refine ⟨_, _, j, v1, rfl, rfl, .inl (.inl hpa), ?_, hk B O H2 σ E2 _ PX _ p2 (fun y vy H3 p3 e3 r3 => ?_) fun x cls d H' px e k => xc ρ O σ x cls d H' (E2.ex e) hx px k⟩
      · unfold L2.atI
        rw [hl, hn]
        exact ev
      obtain ⟨n', row, hn', hrow, hlen, p3⟩ := p3
      rw [hn] at hn'
      cases hn'
      rw [List.getElem?_eq_getElem hnl] at hrow
      cases hrow
      have E3 := E2.ex e3
      have hpa3 := e3.keep _ _ (fun z => z) ns_lst hpa
      have rl3 := rl.tr (ex_tr e3) (fun b _ u s q => e3.keep b u (fun z => z) s q)
      have k3 := k1.tr (ex_tr e3) (fun b _ u s q => e3.keep b u (fun z => z) s q)
      obtain ⟨p, rfl, m⟩ : ∃ p, v1 = .ref p ∧ p ∈ bs := by
        cases k1 with
        | dct _ _ _ _ => exact ⟨_, rfl, List.mem_cons_self⟩
      have mp : p ∈ as' := mb p m
      have op : O p := (own p (List.mem_cons_of_mem _ mp)).1
      have nap : a0 ≠ p := fun z => (List.nodup_cons.mp nd).1 (z ▸ mp)
      obtain ⟨e, kvs, hpp, ns, dp, rn⟩ := put_own (k := y) (a := a) k3 (Rep.ex r1 (e2.trans e3)) r3 op hlen
      subst e
      have rl4 : RepOL K O (upd H3 p (.dK (putK kvs (kk y) v))) vs ((l.map (oD kk (oS en))).set n (oD kk (oS en) (putL l[n] y a))) as' := by
        refine RepOL.put (t := oD kk (oS en) l[n]) op rl3 (List.nodup_cons.mp nd).2 (by rw [List.getElem?_map, List.getElem?_eq_getElem hnl]; rfl) fun v bs ev2 rb => ?_
        rw [ev] at ev2
        cases ev2
        rw [rb.det k3]
        exact ⟨m, rn⟩
      have newt : RepO K O (upd H3 p (.dK (putK kvs (kk y) v))) (.ref a0) (oL (oD kk (oS en)) (l.set n (putL l[n] y a))) (a0 :: as') := by
        refine .lst (by rw [upd_ne nap]; exact hpa3) ?_
        rw [List.map_set]
        exact rl4
      have ow3 : Own K H3 (σ[i]?) (.od (oL (oD kk (oS en)) l)) (a0 :: as') := ⟨_, O, hx1, .lst hpa3 rl3⟩
      refine ⟨p, _, rfl, dp, hu _ B O _ σ D (E3.mutW h ow3 (List.mem_cons_of_mem _ mp) hpp ⟨_, _, hx1, newt, nd, own⟩ fun bs w b m => ?_) P PX p3 nx bk ct rt xc⟩
      obtain ⟨v', O2, e', r'⟩ := w
      rw [hx1] at e'
      cases e'
      rw [newt.det r']
      exact m) fun x cls d H' px e k => xc ρ O σ x cls d H' (E.ex e) hx px k
/-! ### {"a": .., "b": ..} of new things -/
theorem rg_disp2 {ta tb : TE} {oe : α → OT} {wa wb : M α} (z1 z2 : Str) (hz : z1 ≠ z2) (ha : RG K EX ρ ta (resO K oe) wa) (hb : RG K EX ρ tb (resO K oe) wb) : RG K EX ρ (tDisp [(tC (.str z1), ta), (tC (.str z2), tb)]) (resO K (oD (Sum.inr : Str → Key) oe)) (wa >>= fun a => (wb >>= fun b => pure [(z1, a), (z2, b)])) := fun B O H σ E P PX Q hw hq hx => by
  intro p hp
  have E0 := E.shun (H' := upd H p (.dK [])) hp (.new hp) (by rw [upd_same]; exact fun z => nomatch z)
  have e0 : Ext No H (upd H p (.dK [])) := .new hp
  refine ha B (Pl O p) _ σ E0 _ PX _ hw (fun a v1 H1 p1 e1 ⟨as, r1, nd1, n1⟩ => ?_) fun x cls d H' px e k => hx x cls d H' px (e0.trans e) (k.mono fun b z => .inl z)
  have E1 := E0.shuns (N := fun b => b ∈ as) n1 e1 fun b m => by obtain ⟨u, hu, _⟩ := r1.dom b m; rw [hu]; exact fun z => nomatch z
  refine hb B _ _ σ E1 _ PX _ p1 (fun b v2 H2 p2 e2 ⟨bs, r2, nd2, n2⟩ => ?_) fun x cls d H' px e k => hx x cls d H' px (e0.trans (e1.trans e)) (k.mono fun b z => .inl (.inl z))
  have ns0 : ¬ isSrc (.dK []) := fun ⟨_, _, _, z⟩ => nomatch z
  have hp1 : H1 p = some (.dK []) := e1.keep p _ (fun z => z) ns0 upd_same
  have hp2 : H2 p = some (.dK []) := e2.keep p _ (fun z => z) ns0 hp1
  have pas : p ∉ as := fun m => by have := n1 p m; rw [upd_same] at this; cases this
  have pbs : p ∉ bs := fun m => by rw [n2 p m] at hp1; cases hp1
  have asb : ∀ b ∈ as, b ∉ bs := fun b m m2 => by
    obtain ⟨u, hu, _⟩ := r1.dom b m
    rw [n2 b m2] at hu; cases hu
  refine ⟨hp2, [(Sum.inr z1, v1), (Sum.inr z2, v2)], rfl, (by show 2 ≤ 15; decide), ?_⟩
  have hm : mergeK [] [((Sum.inr z1 : Key), v1), (Sum.inr z2, v2)] = [(Sum.inr z1, v1), (Sum.inr z2, v2)] := by
    have : ¬ (Sum.inr z1 : Key) = Sum.inr z2 := fun z => hz (Sum.inr.inj z)
    simp [mergeK, putK, this]
  rw [hm]
  have up : Ext (fun b => b = p) H2 (upd H2 p (.dK [(Sum.inr z1, v1), (Sum.inr z2, v2)])) := up_ext hp2 ns0
  have e12 := e0.trans (e1.trans e2)
  have eE : Ext No H (upd H2 p (.dK [(Sum.inr z1, v1), (Sum.inr z2, v2)])) := by
    refine ⟨fun b o n s q => ?_, fun b q => up.src b (e12.src b q)⟩
    rw [upd_ne (fun z => by rw [z, hp] at q; cases q)]
    exact e12.keep b o n s q
  have fr1 : ∀ b ∈ as, H b = none := fun b m => e0.free (fun z => z) (n1 b m)
  have fr2 : ∀ b ∈ bs, H b = none := fun b m => (e0.trans e1).free (fun z => z) (n2 b m)
  have R1 : RepO K (fun b => O b ∨ b ∈ p :: (as ++ bs)) (upd H2 p (.dK [(Sum.inr z1, v1), (Sum.inr z2, v2)])) v1 (oe a) as := r1.tr (fun b u n s q => by
    have nb : b ≠ p := fun z => n (.inl (.inr z))
    refine ⟨by rw [upd_ne nb]; exact e2.keep b u (fun z => z) s q, fun z => z.elim (fun z => n (.inl (.inl z))) fun m => (List.mem_cons.mp m).elim nb fun m => (List.mem_append.mp m).elim (fun m => n (.inr m)) fun m => by rw [n2 b m] at q; cases q⟩) fun b m u s q => by
    rw [upd_ne (fun (z : b = p) => pas (z ▸ m))]; exact e2.keep b u (fun z => z) s q
  have R2 : RepO K (fun b => O b ∨ b ∈ p :: (as ++ bs)) (upd H2 p (.dK [(Sum.inr z1, v1), (Sum.inr z2, v2)])) v2 (oe b) bs := r2.tr (fun b u n s q => by
    have nb : b ≠ p := fun z => n (.inl (.inl (.inr z)))
    refine ⟨by rw [upd_ne nb]; exact q, fun z => z.elim (fun z => n (.inl (.inl (.inl z)))) fun m => (List.mem_cons.mp m).elim nb fun m => (List.mem_append.mp m).elim (fun m => n (.inl (.inr m))) fun m => n (.inr m)⟩) fun b m u s q => by
    rw [upd_ne (fun (z : b = p) => pbs (z ▸ m))]; exact q
  have RL := RepOL.cons R1 (RepOL.cons R2 .nil)
  rw [List.append_nil] at RL
  refine hq _ _ _ p2 eE ⟨p :: (as ++ bs), .dct upd_same (fun ⟨_, _, _, z⟩ => nomatch z) rfl RL, List.nodup_cons.mpr ⟨fun m => (List.mem_append.mp m).elim pas pbs, List.nodup_append.mpr ⟨nd1, nd2, fun a m b z e => asb a m (e ▸ z)⟩⟩, fun b m => (List.mem_cons.mp m).elim (fun z => z ▸ hp) fun m => (List.mem_append.mp m).elim (fr1 b) (fr2 b)⟩
/-! ### walks over one's own dicts -/
def OkK (K : PySem.W.Frag) {κ α : Type} (kk : κ → Key) (en : α → D) (l : List (κ × α)) (H : Hp) (O : AP) (d : Addr) : Prop := ∃ kvs, H d = some (.dK kvs) ∧ ¬ isSrc (.dK kvs) ∧ kvs.map (·.1) = (enc kk en l).map (·.1)
def OkT (K : PySem.W.Frag) {α : Type} (en : α → D) (l : List ((Int × Int) × α)) (H : Hp) (O : AP) (d : Addr) : Prop := ∃ kvs, H d = some (.dT kvs) ∧ kvs.map (·.1) = (enc kk2 en l).map (·.1)
def Pth (K : PySem.W.Frag) (ρ : List Sl) (i : Nat) (t : OT) (td : TE) (Ok : Hp → AP → Addr → Prop) : Prop := ∀ {B : Bs} {O : AP} {H : Hp} {σ : L2.St}, En K B O H σ ρ → ∃ v as d, σ[i]? = some (some v) ∧ RepO K O H v t as ∧ as.Nodup ∧ d ∈ as ∧ Ok H O d ∧ ∀ (H' : Hp) (Q : VK), Rl H H' → Q (.ref d) H' → td σ H' Q
theorem pth_var {kk : κ → Key} {en : α → D} {l : List (κ × α)} (i : Nat) (h : ρ[i]? = some (.od (oD kk (oS en) l)) := by rfl) : Pth K ρ i (oD kk (oS en) l) (tVar i) (OkK K kk en l) := fun {B O H σ} E => by
  obtain ⟨v, as, hv, r, nd, own⟩ := E.at_ i _ h
  cases r with
  | @dct d kvs _ _ hp s e r => exact ⟨_, _, d, hv, .dct hp s e r, nd, List.mem_cons_self, ⟨kvs, hp, s, by rw [enc_k] at e; exact e⟩, fun H' Q _ q => ⟨_, hv, q⟩⟩
theorem pth_varP {en : α → D} {l : List ((Int × Int) × α)} (i : Nat) (h : ρ[i]? = some (.od (oP (oS en) l)) := by rfl) : Pth K ρ i (oP (oS en) l) (tVar i) (OkT K en l) := fun {B O H σ} E => by
  obtain ⟨v, as, hv, r, nd, own⟩ := E.at_ i _ h
  cases r with
  | @dcp d kvs _ _ hp e r => exact ⟨_, _, d, hv, .dcp hp e r, nd, List.mem_cons_self, ⟨kvs, hp, by rw [enc_k] at e; exact e⟩, fun H' Q _ q => ⟨_, hv, q⟩⟩
theorem pth_ix {kk : κ → Key} {en : α → D} {L : List (List (κ × α))} {l : List (κ × α)} {x : Int} (i j : Nat) (hl : L2.atI L x = some l) (h : ρ[i]? = some (.od (oL (oD kk (oS en)) L)) := by rfl) (hj : ρ[j]? = some (.sh (D.int x)) := by rfl) : Pth K ρ i (oL (oD kk (oS en)) L) (tOp (rIxL K) (tVar i) (tVar j)) (OkK K kk en l) := fun {B O H σ} E => by
  obtain ⟨v, as, hv, r, nd, own⟩ := E.at_ i _ h
  obtain ⟨vj, hvj, rj⟩ := E.at_ j _ hj
  cases rj
  unfold L2.atI at hl
  cases c : ixN L.length x with
  | none => rw [c] at hl; cases hl
  | some n =>
    rw [c] at hl
    have hl : L[n]? = some l := hl
    cases r with
    | @lst a vs _ as' hp r =>
      obtain ⟨v1, bs, ev, k1, mb⟩ := r.get (t := oD kk (oS en) l) (i := n) (by rw [List.getElem?_map, hl]; rfl)
      have hlen := r.length
      rw [List.length_map] at hlen
      cases k1 with
      | @dct d kvs _ cs hd s e r1 =>
        refine ⟨_, _, d, hv, .lst hp r, nd, List.mem_cons_of_mem _ (mb d List.mem_cons_self), ⟨kvs, hd, s, by rw [enc_k] at e; exact e⟩, fun H' Q rl q => ⟨_, hv, _, hvj, a, vs, x, .ref d, rfl, rfl, .inl (.inl (rl.lst _ _ hp)), ?_, q⟩⟩
        unfold L2.atI
        rw [hlen, c]
        exact ev
/-- d[z], z a text, of a dict of dicts of pairs -/
theorem pth_dg {en : α → D} {L : List (Str × List ((Int × Int) × α))} {l : List ((Int × Int) × α)} {z : Str} (i j : Nat) (hl : getL L z = some l) (h : ρ[i]? = some (.od (oD (Sum.inr : Str → Key) (oP (oS en)) L)) := by rfl) (hj : ρ[j]? = some (.sh (D.str z)) := by rfl) : Pth K ρ i (oD (Sum.inr : Str → Key) (oP (oS en)) L) (tDGet (tVar i) (tVar j)) (OkT K en l) := fun {B O H σ} E => by
  obtain ⟨v, as, hv, r, nd, own⟩ := E.at_ i _ h
  obtain ⟨vj, hvj, rj⟩ := E.at_ j _ hj
  cases rj
  cases r with
  | @dct a kvs es as' hp s e r =>
    have key : ∀ {L : List (Str × List ((Int × Int) × α))} {kvs : List (Key × V)} {as' : List Addr}, getL L z = some l → kvs.map (·.1) = (L.map fun p => ((Sum.inr p.1 : Key), oP (oS en) p.2)).map (·.1) → RepOL K O H (kvs.map (·.2)) ((L.map fun p => ((Sum.inr p.1 : Key), oP (oS en) p.2)).map (·.2)) as' → ∃ w bs, valV kvs (Sum.inr z) = some w ∧ RepO K O H w (oP (oS en) l) bs ∧ ∀ b ∈ bs, b ∈ as' := by
      intro L
      induction L with
      | nil => intro kvs as' h; cases h
      | cons q L ih =>
        intro kvs as' h e r
        cases kvs with
        | nil => cases e
        | cons kv kvs =>
          have e1 : kv.1 = Sum.inr q.1 := (List.cons.inj e).1
          cases r with
          | cons r t =>
            by_cases c : q.1 = z
            · rw [getL_pos c] at h
              cases h
              exact ⟨_, _, valV_pos (by rw [e1, c]), r, fun b m => List.mem_append_left _ m⟩
            · rw [getL_neg c] at h
              obtain ⟨w, bs, h1, h2, h3⟩ := ih h (List.cons.inj e).2 t
              exact ⟨w, bs, by rw [valV_neg (fun k => c (Sum.inr.inj (e1.symm.trans k)))]; exact h1, h2, fun b m => List.mem_append_right _ (h3 b m)⟩
    obtain ⟨w, bs, hw, rw1, mb⟩ := key hl e r
    cases rw1 with
    | @dcp d kvd _ cs hd ed rd =>
      exact ⟨_, _, d, hv, .dct hp s e r, nd, List.mem_cons_of_mem _ (mb d List.mem_cons_self), ⟨kvd, hd, by rw [enc_k] at ed; exact ed⟩, fun H' Q rl q => ⟨_, hv, _, hvj, a, .ref d, rfl, .inl ⟨kvs, Sum.inr z, rl.dK _ _ (.inl hp), rfl, hw.symm⟩, q⟩⟩
theorem itk_ok {O : AP} {Hl : Hp} {d : Addr} {od : Obj} {kvs : List (Key × V)} {enk : κ → D} {kk : κ → Key} [KeyE enk kk] {en : α → D} {l : List (κ × α)} (hd : Hl d = some (.frz od (.dK kvs))) (hk : kvs.map (·.1) = (enc kk en l).map (·.1)) : ItOk K false O Hl (Itk d od kvs) enk (l.map (·.1)) := fun H e => by
  have hd2 : H d = some (.frz od (.dK kvs)) := e.keep d _ (fun z => nomatch z.1) ns_frz hd
  refine ⟨fun i x hx => ⟨⟨hd2, ?_⟩, fun v H' y => ?_⟩, hd2, ?_⟩
  · have := (List.getElem?_eq_some_iff.mp hx).1
    rw [List.length_map] at this
    rw [enc_len hk]; exact this
  · obtain ⟨rfl, k, w, hkv, rfl⟩ := y
    refine ⟨.refl _ _, fun O2 _ _ => ?_⟩
    have h1 : (kvs.map (·.1))[i]? = some k := by rw [List.getElem?_map, hkv]; rfl
    rw [hk] at h1
    unfold enc at h1
    rw [List.map_map, List.getElem?_map] at h1
    rw [List.getElem?_map] at hx
    cases q : l[i]? with
    | none => rw [q] at hx; cases hx
    | some p =>
      rw [q] at hx h1
      cases hx
      cases h1
      exact KeyE.rp p.1
  · rw [enc_len hk, List.length_map]; exact Nat.le_refl _
theorem lcK_core {i : Nat} {t : OT} {d' : D} {td : TE} {g : TG} {tt : TT} {te : TE} {vs : List Nat} {enk : κ → D} {kk : κ → Key} [KeyE enk kk] {en : α → D} {en' : β → D} [FlatE en'] {l : List (κ × α)} {ft : κ → List Sl → List Sl} {wt : κ → M Bool} {wf : κ → M β} (hp : Pth K ρ i t td (OkK K kk en l)) (h : ρ[i]? = some (.od t)) (hd : t.d = d') (hg : RTg K g enk ft vs) (ht : ∀ x, RT K EX (ft x (wipeR (ρ.set i (.sh d')) vs)) tt (wt x)) (hf : ∀ x, RE K EX (ft x (wipeR (ρ.set i (.sh d')) vs)) te en' (wf x))
    (hE : ∀ σ σ', L2.wipe σ vs = L2.wipe σ' vs → EX σ = EX σ') : RF K EX ρ (tLockE (tLc (iKeys td) g tt te vs)) en' (need ((l.map (·.1)).length ≤ sizeLine) >>= fun _ => noX (lcM (l.map (·.1)) wt wf)) := fun B O H σ E P PX Q hw hq hx => by
  obtain ⟨v, as, d, hv, r, nd, md, ⟨kvs, hdk, ns, hk⟩, rd⟩ := hp E
  have E' : En K B (fun b => O b ∧ b ∉ as) H σ (ρ.set i (.sh d')) := E.frzW (as := as) h ⟨v, O, hv, r⟩ hv (hd ▸ r.frz (fun b z => z.1) fun b m z => z.2 m)
  refine ⟨d, .dK kvs, hdk, trivial, fun od => ?_⟩
  have El := E'.lock (od := od) hdk trivial ns fun z => z.2 md
  have rl : Rl H (upd H d (.frz od (.dK kvs))) := Rl.lock hdk trivial
  have hi : RIat K EX (iKeys td) false enk (pure (l.map (·.1))) (fun b => O b ∧ b ∉ as) (upd H d (.frz od (.dK kvs))) σ := fun P' PX' R' hw' hq' _ => rd _ _ rl ⟨d, od, rfl, .inl ⟨kvs, upd_same, hq' _ _ _ hw' (.refl _ _) (itk_ok upd_same hk)⟩⟩
  refine rf_lc_at hg ht hf hE hi El P (fun _ => False) _ hw (fun a w H' p e ⟨A, ws, ew, hA, hA2, rw2⟩ => ?_) fun _ _ _ _ z => z.elim
  obtain ⟨hd', e'⟩ := ext_lock hdk ns e
  have nA : A ≠ d := fun z => by rw [z, upd_same] at hA; cases hA
  refine ⟨hd', hq a w _ p e' ⟨A, ws, ew, by rw [upd_ne nA] at hA; exact hA, by rw [upd_ne nA]; exact hA2, flatL (RepL.rl (Rl.unlock hd' trivial) rw2)⟩⟩
theorem rf_lcKi {g : TG} {tt : TT} {te : TE} {vs : List Nat} {enk : κ → D} {kk : κ → Key} [KeyE enk kk] {en : α → D} {en' : β → D} [FlatE en'] {L : List (List (κ × α))} {x : Int} {d' : D} {ft : κ → List Sl → List Sl} {wt : κ → M Bool} {wf : κ → M β} (i j : Nat) (hd : (oL (oD kk (oS en)) L).d = d') (hg : RTg K g enk ft vs) (ht : ∀ x, RT K EX (ft x (wipeR (ρ.set i (.sh d')) vs)) tt (wt x)) (hf : ∀ x, RE K EX (ft x (wipeR (ρ.set i (.sh d')) vs)) te en' (wf x))
    (hE : ∀ σ σ', L2.wipe σ vs = L2.wipe σ' vs → EX σ = EX σ') (h : ρ[i]? = some (.od (oL (oD kk (oS en)) L)) := by rfl) (hj : ρ[j]? = some (.sh (D.int x)) := by rfl) : RF K EX ρ (tLockE (tLc (iKeys (tOp (rIxL K) (tVar i) (tVar j))) g tt te vs)) en' (getI L x >>= fun l => (need ((l.map (·.1)).length ≤ sizeLine) >>= fun _ => noX (lcM (l.map (·.1)) wt wf))) := fun B O H σ E P PX Q hw hq hx => by
  obtain ⟨l, hl, hw⟩ := hw
  exact lcK_core (pth_ix i j hl h hj) h hd hg ht hf hE B O H σ E P PX Q hw hq hx
theorem rf_lcKv {g : TG} {tt : TT} {te : TE} {vs : List Nat} {enk : κ → D} {kk : κ → Key} [KeyE enk kk] {en : α → D} {en' : β → D} [FlatE en'] {l : List (κ × α)} {d' : D} {ft : κ → List Sl → List Sl} {wt : κ → M Bool} {wf : κ → M β} (i : Nat) (hd : (oD kk (oS en) l).d = d') (hg : RTg K g enk ft vs) (ht : ∀ x, RT K EX (ft x (wipeR (ρ.set i (.sh d')) vs)) tt (wt x)) (hf : ∀ x, RE K EX (ft x (wipeR (ρ.set i (.sh d')) vs)) te en' (wf x))
    (hE : ∀ σ σ', L2.wipe σ vs = L2.wipe σ' vs → EX σ = EX σ') (h : ρ[i]? = some (.od (oD kk (oS en) l)) := by rfl) : RF K EX ρ (tLockE (tLc (iKeys (tVar i)) g tt te vs)) en' (need ((l.map (·.1)).length ≤ sizeLine) >>= fun _ => noX (lcM (l.map (·.1)) wt wf)) :=
  lcK_core (pth_var i h) h hd hg ht hf hE
/-- for a, b in d: .. of pairs -/
theorem forP_core {i : Nat} {t : OT} {td : TE} {tb u : TS} {en : α → D} {l : List ((Int × Int) × α)} {S : Type} (ρl : V → S → List Sl) (s0 : S) {f : Int × Int → S → M S} {k : S → M R} (a b : Nat) (hp : Pth K ρ i t td (OkT K en l)) (h : ρ[i]? = some (.od t)) (h0 : ∀ v, Le (ρl v s0) (ρ.set i (.pin v))) (hpin : ∀ v s, (ρl v s)[i]? = some (.pin v))
    (hb : ∀ v x s, RB K EX (frC S (ρl v) F.ρx) (((ρl v s).set a (.sh (D.int x.1))).set b (.sh (D.int x.2))) tb (f x s)) (hk : ∀ v s, RB K EX F ((ρl v s).set i (.od t)) u (k s)) :
    RB K EX F ρ (tSeq (tLock (tFor (iKeys td) (gTup K 2 (gCons (gName a) (gCons (gName b) gNil))) tb)) u) (noX (forS (l.map (·.1)) s0 f) >>= k) := fun B O H σ D E P PX hw nx bk ct rt xc => by
  obtain ⟨v, as, d, hv, r, nd, md, ⟨kvs, hdk, hkk⟩, rd⟩ := hp E
  refine ⟨d, .dT kvs, hdk, trivial, fun od => ?_⟩
  have Ei := E.into (od := od) h hv r md hdk trivial ns_dT
  have E1 := Ei.le (h0 v)
  generalize hB : Bs.in_ K B O H (upd H d (.frz od (.dT kvs))) σ (ρ.set i (.pin v)) as = B' at Ei E1
  have out : ∀ {O' H' σ' s}, En K B' O' H' σ' (ρl v s) → H' d = some (.frz od (.dT kvs)) ∧ En K B O' (upd H' d (.dT kvs)) σ' ((ρl v s).set i (.od t)) := fun {O' H' σ' s} z => E.outof h hv r nd md hdk trivial ns_dT (hB ▸ z) (hpin v s)
  have rl : Rl H (upd H d (.frz od (.dT kvs))) := Rl.lock hdk trivial
  refine rd _ _ rl ⟨d, od, rfl, .inr ⟨kvs, upd_same, ?_⟩⟩
  have h2 : (enc kk2 en l).map (·.1) = (l.map (·.1)).map kk2 := by unfold enc; rw [List.map_map, List.map_map]; rfl
  rw [h2] at hkk
  have hw : forS (l.map (·.1)) s0 f (fun s => k s P PX) (fun _ => False) := hw
  generalize l.map (·.1) = ks at hkk hw
  have hlen : kvs.length = ks.length := by have := congrArg List.length hkk; simpa using this
  refine ⟨fun i m σ' H' => i ≤ ks.length ∧ m = ks.length - i ∧ ∃ s O', En K B' O' H' σ' (ρl v s) ∧ forS (ks.drop i) s f (fun s => k s P PX) (fun _ => False), ⟨ks.length, Nat.zero_le _, rfl, s0, O, E1, hw⟩, ?_⟩
  rintro n m σ2 H2 ⟨hi2, rfl, s, O2, E2, p2⟩
  obtain ⟨hd2, Eo⟩ := out E2
  by_cases c : n < ks.length
  · right
    refine ⟨⟨hd2, by omega⟩, fun σ' H' => n + 1 ≤ ks.length ∧ ∃ s O', En K B' O' H' σ' (ρl v s) ∧ forS (ks.drop (n + 1)) s f (fun s => k s P PX) (fun _ => False), fun σ' H' z => ⟨ks.length - (n + 1), by omega, z.1, rfl, z.2⟩, fun w H3 hy => ?_⟩
    obtain ⟨rfl, key, wv, q, hkv, rfl, hq⟩ := hy
    rw [List.drop_eq_getElem_cons c] at p2
    have hkey : key = kk2 ks[n] := by
      have h1 : (kvs.map (·.1))[n]? = some key := by rw [List.getElem?_map, hkv]; rfl
      rw [hkk] at h1
      rw [List.getElem?_map, List.getElem?_eq_getElem c] at h1
      exact (Option.some.inj h1).symm
    subst hkey
    refine ⟨_, _, rfl, .inl (.inl hq), rfl, _, _, rfl, _, _, rfl, rfl, ?_⟩
    have E3 := (E2.set a (Rep.int (K := K) (O := O2) (H := H3) ks[n].1)).set b (Rep.int (K := K) (O := O2) (H := H3) ks[n].2)
    exact hb v ks[n] s B' O2 H3 _ _ E3 _ (fun _ => False) p2 (fun s' O' H' σ' E' q => ⟨c, s', O', E', q⟩) (fun s' => Empty.elim s') (fun s' O' H' σ' E' q => ⟨c, s', O', E', q⟩) (fun r => Empty.elim r) fun _ _ _ _ _ _ _ _ _ z => z.elim
  · left
    have hn : n = ks.length := by omega
    subst hn
    rw [List.drop_length] at p2
    exact ⟨⟨hd2, by omega⟩, hd2, hk v s B O2 _ σ2 D Eo P PX p2 nx bk ct rt xc⟩
theorem rb_forPg {tb u : TS} {en : α → D} {L : List (Str × List ((Int × Int) × α))} {z : Str} {S : Type} (ρl : V → S → List Sl) (s0 : S) {f : Int × Int → S → M S} {k : S → M R} (i j a b : Nat) (h0 : ∀ v, Le (ρl v s0) (ρ.set i (.pin v)))
    (hb : ∀ v x s, RB K EX (frC S (ρl v) F.ρx) (((ρl v s).set a (.sh (D.int x.1))).set b (.sh (D.int x.2))) tb (f x s)) (ρk : S → List Sl) (hk : ∀ s, RB K EX F (ρk s) u (k s)) (hρ : ∀ v s, (ρl v s).set i (.od (oD (Sum.inr : Str → Key) (oP (oS en)) L)) = ρk s := by intros; rfl) (hpin : ∀ v s, (ρl v s)[i]? = some (.pin v) := by intros; rfl) (h : ρ[i]? = some (.od (oD (Sum.inr : Str → Key) (oP (oS en)) L)) := by rfl) (hj : ρ[j]? = some (.sh (D.str z)) := by rfl) :
    RB K EX F ρ (tSeq (tLock (tFor (iKeys (tDGet (tVar i) (tVar j))) (gTup K 2 (gCons (gName a) (gCons (gName b) gNil))) tb)) u) (getD L z >>= fun l => (noX (forS (l.map (·.1)) s0 f) >>= k)) := fun B O H σ D E P PX hw nx bk ct rt xc => by
  obtain ⟨l, hl, hw⟩ := hw
  exact forP_core ρl s0 a b (pth_dg i j hl h hj) h h0 hpin hb (fun v s => by rw [hρ v s]; exact hk s) B O H σ D E P PX hw nx bk ct rt xc
/-! ### sorted -/
def srt (l : List Int) : M (List Int) := fun P _ => ∀ ys : List Int, ys.Perm l → ys.Pairwise (· ≤ ·) → P ys
theorem repl_ints {O : AP} {H : Hp} : ∀ (ys : List Int), RepL K O H (ys.map V.int) (ys.map D.int)
  | [] => .nil
  | y :: ys => .cons (.int y) (repl_ints ys)
theorem rf_sort {ta : TE} {wa : M (List Int)} (ha : RQ K EX ρ ta D.int wa) : RF K EX ρ (tCB (rSortedI K) (tCons ta tNil)) D.int (wa >>= fun l => srt l) := fun B O H σ E P PX Q hw hq hx =>
  ha B O H σ E _ PX _ hw (fun l v H1 p e r => by
    obtain ⟨a, vs, rfl, hs, r⟩ := r
    have : vs = l.map V.int := by
      clear hs p
      induction l generalizing vs with
      | nil => cases r; rfl
      | cons x l ih =>
        cases r with
        | cons r t => cases r; rw [List.map_cons, ← ih _ t]
    subst this
    refine ⟨a, l, rfl, hs, fun ys q hp hs' hq' => hq ys _ _ (p ys hp hs') (e.trans (.new hq')) ⟨q, ys.map V.int, rfl, e.free (fun z => z) hq', upd_same, repl_ints ys⟩⟩) hx
def rSortedDI : List V → Hp → VK → Prop := fun xs H Q => ∃ (a : Addr) (kvs : List (Key × V)) (ks : List Int), xs = [.ref a] ∧ Rd H a (.dK kvs) ∧ kvs.map (·.1) = ks.map Sum.inl ∧ ks.length < 64 ∧ ∀ (ys : List Int) (p : Addr), ys.Perm ks → ys.Pairwise (· ≤ ·) → H p = none → Q (.ref p) (upd H p (.lst (ys.map V.int)))
theorem rf_sortD {ta : TE} {en : α → D} {wa : M (List (Int × α))} (ha : RE K EX ρ ta (eD (Sum.inl : Int → Key) en) wa) : RF K EX ρ (tCB rSortedDI (tCons ta tNil)) D.int (wa >>= fun l => (need (l.length < 64) >>= fun _ => srt (l.map (·.1)))) := fun B O H σ E P PX Q hw hq hx =>
  ha B O H σ E _ PX _ hw (fun l v H1 p e r => by
    cases r with
    | @dct a kvs _ n h s hk r =>
      obtain ⟨hl, p⟩ := p
      refine ⟨a, kvs, l.map (·.1), rfl, h, ?_, by rw [List.length_map]; exact hl, fun ys q hp hs' hq' => hq ys _ _ (p ys hp hs') (e.trans (.new hq')) ⟨q, ys.map V.int, rfl, e.free (fun z => z) hq', upd_same, ?_⟩⟩
      · have hk : kvs.map (·.1) = (enc (Sum.inl : Int → Key) en l).map (·.1) := hk
        rw [hk]; unfold enc; rw [List.map_map, List.map_map]; rfl
      · exact repl_ints ys) hx
/-! ### new trees that share nothing -/
class FlatT {α : Type} (oe : α → OT) : Prop where
  any : ∀ {K : PySem.W.Frag} {O O' : AP} {H : Hp} {v : V} {a : α} {as : List Addr}, RepO K O H v (oe a) as → RepO K O' H v (oe a) as
instance {en : α → D} [FlatE en] : FlatT (oS en) := ⟨fun r => by
  cases r with
  | sh r => exact .sh (FlatE.any (en := en) r)⟩
theorem flatTL {oe : α → OT} [FlatT oe] {O O' : AP} {H : Hp} : ∀ {l : List α} {vs : List V} {as : List Addr}, RepOL K O H vs (l.map oe) as → RepOL K O' H vs (l.map oe) as
  | [], _, _, .nil => .nil
  | a :: l, _, _, .cons r t => .cons (FlatT.any r) (flatTL (l := l) t)
instance {oe : α → OT} [FlatT oe] : FlatT (oL oe) := ⟨fun r => by
  cases r with
  | lst h r => exact .lst h (flatTL r)⟩
instance {oe : α → OT} [FlatT oe] : FlatT (oO oe) := ⟨fun {K O O' H v a as} r => by
  cases a with
  | none => cases r with | sh r => cases r; exact .sh .non
  | some a => exact FlatT.any (oe := oe) r⟩
theorem oe_snd {κ κ' : Type} {f : κ → κ'} {oe : α → OT} {l : List (κ × α)} : (l.map fun p => (f p.1, oe p.2)).map (·.2) = (l.map (·.2)).map oe := by rw [List.map_map, List.map_map]; rfl
instance {κ : Type} {kk : κ → Key} {oe : α → OT} [FlatT oe] : FlatT (oD kk oe) := ⟨fun r => by
  cases r with
  | dct h s e r => rw [oe_snd] at r; exact .dct h s e (by rw [oe_snd]; exact flatTL r)⟩
instance {oe : α → OT} [FlatT oe] : FlatT (oP oe) := ⟨fun r => by
  cases r with
  | dcp h e r => rw [oe_snd] at r; exact .dcp h e (by rw [oe_snd]; exact flatTL r)⟩
instance {oe : α → OT} [FlatT oe] : Flat (resO K oe) := ⟨fun ⟨as, r, nd, n⟩ => ⟨as, FlatT.any r, nd, n⟩⟩
/-- the end of a block, the state told with its kind -/
theorem rb_nilT {S : Type} {ρj : S → List Sl} {kk : S → M R} {bk ct : EndS R} {RR : Type} {rr : Res RR} {kr : RR → M R} {ρx : List Sl} (s : S) (h : Le (ρj s) ρ) : RB K EX (⟨⟨S, ρj, kk⟩, bk, ct, RR, rr, kr, ρx⟩ : Fr R) ρ tNext (kk s) := fun B O H σ D E P PX hp nx _ _ _ _ => nx s O H σ (E.le h) hp
end
end Va

namespace Va
open PySem PySem.Spec PyProof.Rows L2 Bg
/-! ### trees laid into one another -/
theorem line_ex {ds : List Int} (h : Dv ds) : ∀ k, k < ds.length → ∃ ln, Line ds k ln
  | 0, _ => ⟨_, Line.first h⟩
  | k + 1, hk => let ⟨_, l⟩ := line_ex h k (by omega); ⟨_, l.next h hk⟩
theorem dv_up {ds : List Int} (h : Dv ds) {k : Nat} (hk : k < ds.length) : ∃ o, UpAt ds k o := by
  by_cases c : 1 < dg ds k
  · obtain ⟨ln, l⟩ := line_ex h k hk
    have hl := l.len
    have hi : (dg ds k - 2).toNat < ln.length := by omega
    exact ⟨_, l.upper c hk (List.getElem?_eq_getElem hi)⟩
  · exact ⟨none, upAt_none h c⟩
theorem dv_par {ds : List Int} (h : Dv ds) {a k : Nat} (an : An ds a k) : ∃ u, Par ds u k ∧ (a = u ∨ An ds a u) := by
  obtain ⟨o, ho⟩ := dv_up h an.2.1
  cases o with
  | none => exact absurd an (ho a)
  | some u =>
    obtain ⟨n, _, p⟩ := ho
    exact ⟨n, p, (p.all a).mp an⟩
theorem dv_root {ds : List Int} (h : Dv ds) {j : Nat} (hj : j < ds.length) (h0 : 0 < j) : An ds 0 j := by
  refine ⟨h0, hj, fun i h1 h2 => ?_⟩
  obtain ⟨i', rfl⟩ : ∃ i', i = i' + 1 := ⟨i - 1, by omega⟩
  rw [h.one]
  have := (h.two i' (by omega)).1
  omega
theorem par_lt {ds : List Int} {u k : Nat} (p : Par ds u k) : u < k ∧ k < ds.length ∧ u < ds.length := ⟨p.1.1, p.1.2.1, Nat.lt_trans p.1.1 p.1.2.1⟩
section
variable {ds : List Int} {m : Nat} {like : Nat → Nat → Prop} {goes : Nat → Nat → Nat → Prop} {top : Nat → Nat → Prop}
inductive Emb (ds : List Int) (m : Nat) (like : Nat → Nat → Prop) (goes : Nat → Nat → Nat → Prop) : Nat → Nat → Prop
  | mk {k i : Nat} (f : Nat → Nat) : k < ds.length → i < m → like k i → (∀ l, Par ds k l → Emb ds m like goes l (f l)) → (∀ l, Par ds k l → goes l (f l) i) → Emb ds m like goes k i
structure MtF (ds : List Int) (m : Nat) (like : Nat → Nat → Prop) (goes : Nat → Nat → Nat → Prop) (top : Nat → Nat → Prop) (f : Nat → Nat) : Prop where
  lt : ∀ k, k < ds.length → f k < m
  like : ∀ k, k < ds.length → like k (f k)
  top : ∀ k, k < ds.length → (∀ u, ¬ An ds u k) → top k (f k)
  goes : ∀ u k, Par ds u k → goes k (f k) (f u)
theorem Emb.lt {k i : Nat} (h : Emb ds m like goes k i) : k < ds.length ∧ i < m := by
  cases h with
  | mk f hk hi _ _ _ => exact ⟨hk, hi⟩
theorem Emb.lk {k i : Nat} (h : Emb ds m like goes k i) : like k i := by
  cases h with
  | mk f hk hi l _ _ => exact l
theorem Emb.low {k i l : Nat} (h : Emb ds m like goes k i) (p : Par ds k l) : ∃ j, Emb ds m like goes l j ∧ goes l j i := by
  cases h with
  | mk f _ _ _ a b => exact ⟨f l, a l p, b l p⟩
theorem Emb.of {k i : Nat} (hk : k < ds.length) (hi : i < m) (hl : like k i) (h : ∀ l, Par ds k l → ∃ j, Emb ds m like goes l j ∧ goes l j i) : Emb ds m like goes k i := by
  classical
  refine .mk (fun l => if p : Par ds k l then (h l p).choose else 0) hk hi hl (fun l p => ?_) fun l p => ?_
  · rw [dif_pos p]; exact (h l p).choose_spec.1
  · rw [dif_pos p]; exact (h l p).choose_spec.2
theorem MtF.emb {f : Nat → Nat} (h : MtF ds m like goes top f) : ∀ (n k : Nat), ds.length - k ≤ n → k < ds.length → Emb ds m like goes k (f k)
  | 0, k, hn, hk => by omega
  | n + 1, k, hn, hk => Emb.of hk (h.lt k hk) (h.like k hk) fun l p => ⟨f l, h.emb n l (by have := (par_lt p).1; omega) (par_lt p).2.1, h.goes k l p⟩
theorem MtF.at_ {f : Nat → Nat} (h : MtF ds m like goes top f) {k : Nat} (hk : k < ds.length) : Emb ds m like goes k (f k) := h.emb ds.length k (by omega) hk
/-- beneath k by Emb, elsewhere as before -/
theorem emb_ext (hd : Dv ds) {k x : Nat} (hE : Emb ds m like goes k x) (f0 : Nat → Nat) : ∀ n, n ≤ ds.length → ∃ f : Nat → Nat, ∀ j, j < n → (j ≠ k → ¬ An ds k j → f j = f0 j) ∧ (j = k → f j = x) ∧ (An ds k j → ∀ u, Par ds u j → Emb ds m like goes j (f j) ∧ goes j (f j) (f u))
  | 0, _ => ⟨f0, fun j hj => by omega⟩
  | n + 1, hn => by
    obtain ⟨f, hf⟩ := emb_ext hd hE f0 n (by omega)
    have set_ : ∀ v : Nat, ((n ≠ k → ¬ An ds k n → v = f0 n) ∧ (n = k → v = x) ∧ (An ds k n → ∀ u, Par ds u n → Emb ds m like goes n v ∧ goes n v (f u))) → ∃ f : Nat → Nat, ∀ j, j < n + 1 → (j ≠ k → ¬ An ds k j → f j = f0 j) ∧ (j = k → f j = x) ∧ (An ds k j → ∀ u, Par ds u j → Emb ds m like goes j (f j) ∧ goes j (f j) (f u)) := fun v hv => by
      refine ⟨fun j => if j = n then v else f j, fun j hj => ?_⟩
      by_cases c : j = n
      · subst c
        simp only [if_true]
        refine ⟨hv.1, hv.2.1, fun a u p => ?_⟩
        rw [if_neg (Nat.ne_of_lt (par_lt p).1)]
        exact hv.2.2 a u p
      · simp only [if_neg c]
        obtain ⟨a, b, d⟩ := hf j (by omega)
        refine ⟨a, b, fun an u p => ?_⟩
        rw [if_neg (by have := (par_lt p).1; omega)]
        exact d an u p
    by_cases c1 : n = k
    · exact set_ x ⟨fun z => absurd c1 z, fun _ => rfl, fun a => absurd a.1 (by omega)⟩
    · by_cases c2 : An ds k n
      · obtain ⟨u, p, hu⟩ := dv_par hd c2
        have eu : Emb ds m like goes u (f u) := by
          rcases hu with rfl | hu
          · rw [(hf k (par_lt p).1).2.1 rfl]; exact hE
          · obtain ⟨w, pw, _⟩ := dv_par hd hu
            exact ((hf u (par_lt p).1).2.2 hu w pw).1
        obtain ⟨j, ej, gj⟩ := eu.low p
        refine set_ j ⟨fun _ z => absurd c2 z, fun z => absurd z c1, fun _ u' p' => ?_⟩
        have : u' = u := p.only p'
        subst this
        exact ⟨ej, gj⟩
      · exact set_ (f0 n) ⟨fun _ _ => rfl, fun z => absurd z c1, fun z => absurd z c2⟩
/-- where a step may stand in some match -/
def Ful (ds : List Int) (m : Nat) (like : Nat → Nat → Prop) (goes : Nat → Nat → Nat → Prop) (top : Nat → Nat → Prop) (k x : Nat) : Prop := ∃ f, MtF ds m like goes top f ∧ f k = x
theorem ful_iff (hd : Dv ds) {k x : Nat} (hk : k < ds.length) : Ful ds m like goes top k x ↔ Emb ds m like goes k x ∧ ((∀ u, ¬ An ds u k) → top k x) ∧ ∀ u, Par ds u k → ∃ y, Ful ds m like goes top u y ∧ goes k x y := by
  constructor
  · rintro ⟨f, h, rfl⟩
    exact ⟨h.at_ hk, h.top k hk, fun u p => ⟨f u, ⟨f, h, rfl⟩, h.goes u k p⟩⟩
  · rintro ⟨hE, ht, hu⟩
    by_cases c : ∃ u, Par ds u k
    · obtain ⟨u, p⟩ := c
      obtain ⟨y, ⟨f0, h0, rfl⟩, g⟩ := hu u p
      obtain ⟨f, hf⟩ := emb_ext hd hE f0 ds.length (Nat.le_refl _)
      refine ⟨f, ⟨fun j hj => ?_, fun j hj => ?_, fun j hj hr => ?_, fun u' j p' => ?_⟩, (hf k hk).2.1 rfl⟩
      · obtain ⟨a, b, d⟩ := hf j hj
        by_cases c1 : j = k
        · rw [b c1]; exact hE.lt.2
        · by_cases c2 : An ds k j
          · obtain ⟨w, pw, _⟩ := dv_par hd c2
            exact (d c2 w pw).1.lt.2
          · rw [a c1 c2]; exact h0.lt j hj
      · obtain ⟨a, b, d⟩ := hf j hj
        by_cases c1 : j = k
        · rw [b c1, c1]; exact hE.lk
        · by_cases c2 : An ds k j
          · obtain ⟨w, pw, _⟩ := dv_par hd c2
            exact (d c2 w pw).1.lk
          · rw [a c1 c2]; exact h0.like j hj
      · obtain ⟨a, b, d⟩ := hf j hj
        rw [a (fun z => hr u (z ▸ p.1)) (hr k)]
        exact h0.top j hj hr
      · obtain ⟨lt1, lt2, lt3⟩ := par_lt p'
        obtain ⟨a, b, d⟩ := hf j lt2
        by_cases c1 : j = k
        · subst c1
          have : u' = u := p.only p'
          subst this
          rw [b rfl, (hf u' lt3).1 (by omega) (fun z => by have := z.1; omega)]
          exact g
        · by_cases c2 : An ds k j
          · exact (d c2 u' p').2
          · rw [a c1 c2, (hf u' lt3).1 (fun z => c2 (z ▸ p'.1)) (fun z => c2 (z.trans p'.1))]
            exact h0.goes u' j p'
    · have hr : ∀ u, ¬ An ds u k := fun u an => by
        obtain ⟨w, p, _⟩ := dv_par hd an
        exact c ⟨w, p⟩
      have k0 : k = 0 := by
        by_cases z : 0 < k
        · exact absurd (dv_root hd hk z) (hr 0)
        · omega
      subst k0
      obtain ⟨f, hf⟩ := emb_ext hd hE (fun _ => 0) ds.length (Nat.le_refl _)
      have sub : ∀ j, j < ds.length → j ≠ 0 → An ds 0 j := fun j hj z => dv_root hd hj (by omega)
      refine ⟨f, ⟨fun j hj => ?_, fun j hj => ?_, fun j hj hr' => ?_, fun u' j p' => ?_⟩, (hf 0 hk).2.1 rfl⟩
      · obtain ⟨a, b, d⟩ := hf j hj
        by_cases c1 : j = 0
        · rw [b c1]; exact hE.lt.2
        · obtain ⟨w, pw, _⟩ := dv_par hd (sub j hj c1)
          exact (d (sub j hj c1) w pw).1.lt.2
      · obtain ⟨a, b, d⟩ := hf j hj
        by_cases c1 : j = 0
        · rw [b c1, c1]; exact hE.lk
        · obtain ⟨w, pw, _⟩ := dv_par hd (sub j hj c1)
          exact (d (sub j hj c1) w pw).1.lk
      · by_cases c1 : j = 0
        · subst c1; rw [(hf 0 hj).2.1 rfl]; exact ht hr'
        · exact absurd (sub j hj c1) (hr' 0)
      · obtain ⟨lt1, lt2, lt3⟩ := par_lt p'
        exact ((hf j lt2).2.2 (sub j lt2 (by omega)) u' p').2
/-! the images, listed -/
noncomputable def emU (ds : List Int) (m : Nat) (like : Nat → Nat → Prop) (goes : Nat → Nat → Nat → Prop) (k c : Nat) : List Int := by
  classical
  exact ((List.range c).filter fun i => decide (Emb ds m like goes k i)).map fun i : Nat => (i : Int)
theorem emU_mem {k c : Nat} {x : Int} : x ∈ emU ds m like goes k c ↔ ∃ i : Nat, x = (i : Int) ∧ i < c ∧ Emb ds m like goes k i := by
  classical
  unfold emU
  rw [List.mem_map]
  constructor
  · rintro ⟨i, h, rfl⟩
    rw [List.mem_filter, List.mem_range] at h
    exact ⟨i, rfl, h.1, of_decide_eq_true h.2⟩
  · rintro ⟨i, rfl, h1, h2⟩
    exact ⟨i, by rw [List.mem_filter, List.mem_range]; exact ⟨h1, decide_eq_true h2⟩, rfl⟩
theorem emU_zero {k : Nat} : emU ds m like goes k 0 = [] := rfl
theorem emU_yes {k c : Nat} (h : Emb ds m like goes k c) : emU ds m like goes k (c + 1) = emU ds m like goes k c ++ [(c : Int)] := by
  classical
  unfold emU
  rw [List.range_succ, List.filter_append, List.map_append]
  simp [h]
theorem emU_no {k c : Nat} (h : ¬ Emb ds m like goes k c) : emU ds m like goes k (c + 1) = emU ds m like goes k c := by
  classical
  unfold emU
  rw [List.range_succ, List.filter_append, List.map_append]
  simp [h]
theorem emU_len {k c : Nat} : (emU ds m like goes k c).length ≤ c := by
  classical
  unfold emU
  rw [List.length_map]
  exact Nat.le_trans (List.length_filter_le _ _) (by rw [List.length_range]; exact Nat.le_refl _)
theorem emU_new {k c : Nat} : (c : Int) ∉ emU ds m like goes k c := fun h => by
  obtain ⟨i, e, h1, _⟩ := emU_mem.mp h
  omega
end
/-! ### matches of questions in documents -/
def lkD (dr : List (Str × Int)) (qr : List Sr) (k p : Nat) : Prop := ∃ r sr, dr[p]? = some r ∧ qr[k]? = some sr ∧ r.1 = sr.2.1
def gsD (dr : List (Str × Int)) (qr : List Sr) (k p u : Nat) : Prop := ∀ sr, qr[k]? = some sr → Bn (dps dr) (wB sr.1) u p
def tpD (qr : List Sr) (k p : Nat) : Prop := ∀ sr, qr[k]? = some sr → sr.1 = "//" ∨ p = 0
/-- a match, of which the wanted step's part may be told -/
def lkO (dr : List (Str × Int)) (qr : List Sr) (g : Nat) (o : Option Int) (k p : Nat) : Prop := lkD dr qr k p ∧ ∀ x, o = some x → k = g → (p : Int) = x
abbrev MtD (dr : List (Str × Int)) (qr : List Sr) (g : Nat) (o : Option Int) (f : Nat → Nat) : Prop := MtF (qds qr) dr.length (lkO dr qr g o) (gsD dr qr) (tpD qr) f
abbrev EmD (dr : List (Str × Int)) (qr : List Sr) (g : Nat) (o : Option Int) : Nat → Nat → Prop := Emb (qds qr) dr.length (lkO dr qr g o) (gsD dr qr)
abbrev FuD (dr : List (Str × Int)) (qr : List Sr) (g : Nat) (o : Option Int) : Nat → Nat → Prop := Ful (qds qr) dr.length (lkO dr qr g o) (gsD dr qr) (tpD qr)
theorem MtF.wk {ds : List Int} {m : Nat} {like like' : Nat → Nat → Prop} {goes : Nat → Nat → Nat → Prop} {top : Nat → Nat → Prop} {f : Nat → Nat} (h : MtF ds m like goes top f) (hl : ∀ k, k < ds.length → like k (f k) → like' k (f k)) : MtF ds m like' goes top f := ⟨h.lt, fun k hk => hl k hk (h.like k hk), h.top, h.goes⟩
theorem mtD_only {dr : List (Str × Int)} {qr : List Sr} {g p : Nat} {f : Nat → Nat} (h : MtD dr qr g none f) (e : f g = p) : MtD dr qr g (some (p : Int)) f := h.wk fun k hk l => ⟨l.1, fun x hx hg => by cases hx; rw [hg, e]⟩
theorem mtD_any {dr : List (Str × Int)} {qr : List Sr} {g : Nat} {o : Option Int} {f : Nat → Nat} (h : MtD dr qr g o f) : MtD dr qr g none f := h.wk fun k hk l => ⟨l.1, fun x hx => nomatch hx⟩
/-- images of what is above are above -/
theorem MtD.an {dr : List (Str × Int)} {qr : List Sr} {g : Nat} {o : Option Int} {f : Nat → Nat} (h : MtD dr qr g o f) (hd : Dv (qds qr)) : ∀ (k u : Nat), An (qds qr) u k → An (dps dr) (f u) (f k) := by
  intro k
  induction k using Nat.strongRecOn with
  | _ k ih =>
    intro u an
    obtain ⟨w, p, hw⟩ := dv_par hd an
    have hk : k < qr.length := by have := an.2.1; rw [qds_len] at this; exact this
    have e : An (dps dr) (f w) (f k) := (h.goes w k p _ (List.getElem?_eq_getElem hk)).1
    rcases hw with rfl | hw
    · exact e
    · exact (ih w (par_lt p).1 u hw).trans e
/-- a match, carried along a map -/
theorem mtD_map {dr : List (Str × Int)} {r1 r2 : List Sr} {g1 g2 : Nat} {im : List Nat} {f : Nat → Nat} (ok1 : QuOk r1 g1) (ok2 : QuOk r2 g2) (hm : IsMapN r1 g1 r2 g2 im) (h : MtD dr r2 g2 none f) : MtD dr r1 g1 none (fun k => f (im.getD k 0)) ∧ im[g1]? = some g2 := by
  obtain ⟨hl, hb, hs⟩ := hm
  have at_ : ∀ k, k < r1.length → ∃ x, im[k]? = some x ∧ im.getD k 0 = x ∧ x < r2.length := fun k hk => by
    have hk' : k < im.length := by omega
    refine ⟨im[k], List.getElem?_eq_getElem hk', by simp [List.getD, List.getElem?_eq_getElem hk'], hb _ (List.getElem_mem ..)⟩
  refine ⟨⟨fun k hk => ?_, fun k hk => ?_, fun k hk hr => ?_, fun u k p => ?_⟩, ?_⟩
  · rw [qds_len] at hk
    obtain ⟨x, h1, h2, h3⟩ := at_ k hk
    simp only [h2]
    exact h.lt x (by rw [qds_len]; exact h3)
  · rw [qds_len] at hk
    obtain ⟨x, h1, h2, h3⟩ := at_ k hk
    simp only [h2]
    obtain ⟨⟨a, b, ha, hb', e⟩, _⟩ := (hs k (by omega) x h1).1
    obtain ⟨⟨r, sr, q1, q2, q3⟩, _⟩ := h.like x (by rw [qds_len]; exact h3)
    rw [hb'] at q2
    cases q2
    exact ⟨⟨r, a, q1, ha, by rw [q3, ← e]⟩, fun _ z => nomatch z⟩
  · rw [qds_len] at hk
    obtain ⟨x, h1, h2, h3⟩ := at_ k hk
    simp only [h2]
    have gt := (hs k (by omega) x h1).2.1 hr
    intro sr hsr
    rcases ok1.way sr (List.mem_of_getElem? hsr) with w | w
    · right
      obtain ⟨r0, hr0⟩ := get_lt (l := r2) (n := 0) (by omega)
      rcases (goesN (im := x) hsr hr0).mp gt with z | ⟨z1, z2⟩
      · exact absurd w z
      · subst z1
        have t := h.top 0 (by rw [qds_len]; omega) (fun u a => by have := a.1; omega) r0 hr0
        rcases t with t | t
        · rw [z2] at t; exact absurd t (by decide)
        · exact t
    · exact .inl w
  · obtain ⟨lt1, lt2, lt3⟩ := par_lt p
    rw [qds_len] at lt2 lt3
    obtain ⟨x, h1, h2, h3⟩ := at_ k lt2
    obtain ⟨y, h1', h2', h3'⟩ := at_ u lt3
    simp only [h2, h2']
    have gt := (hs k (by omega) x h1).2.2 u y p h1'
    intro sr hsr
    obtain ⟨r', hr'⟩ := get_lt (l := r2) (n := x) h3
    rcases (goesS (u := y) hsr hr').mp gt with ⟨w, pr, w2⟩ | ⟨w, an⟩
    · have b := h.goes y x pr r' hr'
      rw [w2] at b
      rw [w]
      exact b
    · refine ⟨h.an ok2.dv x y an, .inl ?_⟩
      unfold wB
      rcases ok1.way sr (List.mem_of_getElem? hsr) with w' | w'
      · exact absurd w' w
      · rw [w']; rfl
  · obtain ⟨x, h1, h2, h3⟩ := at_ g1 ok1.goal
    have := (hs g1 (by have := ok1.goal; omega) x h1).1.2 rfl
    rw [h1, this]
end Va

namespace Va
open PySem PySem.Spec PyProof.Rows L2 Bg
/-! ### the pairs of a tree, as a dict -/
def kvOf (l : List ((Int × Int) × Bool)) : List (List Key × V) := l.map fun p => (kk2 p.1, V.bl p.2)
theorem has2_kv {l : List ((Int × Int) × Bool)} {u k : Int} : has2 (kvOf l) u k ↔ (u, k) ∈ l.map (·.1) := by
  unfold has2
  induction l with
  | nil => simp [kvOf, valV]
  | cons p l ih =>
    show (valV ((kk2 p.1, V.bl p.2) :: kvOf l) _).isSome = true ↔ _
    by_cases c : p.1 = (u, k)
    · rw [valV_pos (by show kk2 p.1 = _; rw [c]; rfl)]
      simp [c]
    · rw [valV_neg (fun z => c (kk2_inj _ _ z)), ih]
      simp [Ne.symm c]
theorem has2_putL {l : List ((Int × Int) × Bool)} {n i : Int} {b : Bool} {u k : Int} : has2 (kvOf (putL l (n, i) b)) u k ↔ has2 (put2 (kvOf l) n i) u k := by
  rw [has2_put, has2_kv, has2_kv, putL_keys]
  by_cases c : (n, i) ∈ l.map (·.1)
  · rw [if_pos c]
    refine ⟨.inr, fun z => z.elim (fun ⟨h1, h2⟩ => by rw [h1, h2]; exact c) id⟩
  · rw [if_neg c, List.mem_append, List.mem_singleton]
    refine ⟨fun z => z.elim .inr fun e => .inl ⟨congrArg Prod.fst e, congrArg Prod.snd e⟩, fun z => z.elim (fun ⟨h1, h2⟩ => .inr (by rw [h1, h2])) .inl⟩
theorem PWalk.cg {ds : List Int} {w : Bool} {i : Nat} {o : Option Int} {kv kv' : List (List Key × V)} (h : PWalk ds w i o kv) (e : ∀ u k, has2 kv' u k ↔ has2 kv u k) : PWalk ds w i o kv' := ⟨h.at_, fun u k => by rw [e, h.all]⟩
abbrev PrL (ds : List Int) (w : Bool) (n : Nat) (l : List ((Int × Int) × Bool)) : Prop := Prs ds w n (kvOf l)
theorem PrL.get {ds : List Int} {w : Bool} {n : Nat} {l : List ((Int × Int) × Bool)} (h : PrL ds w n l) {a b : Nat} (hb : b < n) : (getL l ((a : Int), (b : Int))).isSome = true ↔ Bn ds w a b := by
  rw [getL_has, ← has2_kv, h]
  constructor
  · rintro ⟨x, y, e1, e2, _, q⟩
    have e1 : a = x := by omega
    have e2 : b = y := by omega
    rw [e1, e2]; exact q
  · intro q
    exact ⟨a, b, rfl, rfl, hb, q⟩
theorem PrL.key {ds : List Int} {w : Bool} {n : Nat} {l : List ((Int × Int) × Bool)} (h : PrL ds w n l) {a b : Int} (hm : (a, b) ∈ l.map (·.1)) : ∃ x y : Nat, a = x ∧ b = y ∧ y < n ∧ Bn ds w x y := (h a b).mp (has2_kv.mpr hm)
theorem PrL.mem {ds : List Int} {w : Bool} {n : Nat} {l : List ((Int × Int) × Bool)} (h : PrL ds w n l) {x y : Nat} (hy : y < n) (q : Bn ds w x y) : ((x : Int), (y : Int)) ∈ l.map (·.1) := has2_kv.mp ((h _ _).mpr ⟨x, y, rfl, rfl, hy, q⟩)
/-- the pairs of both ways -/
structure PsL (ds : List Int) (L : List (Str × List ((Int × Int) × Bool))) : Prop where
  at_ : ∀ w : Str, (w = "/" ∨ w = "//") → ∃ l, getL L w = some l ∧ PrL ds (wB w) ds.length l ∧ l.length ≤ 1000000
theorem PsL.of {ds : List Int} {l1 l2 : List ((Int × Int) × Bool)} (h1 : PrL ds (wB "/") ds.length l1) (m1 : l1.length ≤ 1000000) (h2 : PrL ds (wB "//") ds.length l2) (m2 : l2.length ≤ 1000000) : PsL ds [("/", l1), ("//", l2)] := ⟨fun w hw => by
  rcases hw with rfl | rfl
  · exact ⟨l1, rfl, h1, m1⟩
  · exact ⟨l2, rfl, h2, m2⟩⟩
/-- the tables while they are found -/
def EmO (ds : List Int) (m : Nat) (like : Nat → Nat → Prop) (goes : Nat → Nat → Nat → Prop) (k0 : Nat) (T : List (List (Int × Bool))) : Prop := T.length = ds.length ∧ ∀ k, k < ds.length → ∃ row, T[k]? = some row ∧ (k < k0 → row = []) ∧ (k0 ≤ k → row.map (·.1) = emU ds m like goes k m)
def EmI (ds : List Int) (m : Nat) (like : Nat → Nat → Prop) (goes : Nat → Nat → Nat → Prop) (st c : Nat) (T : List (List (Int × Bool))) : Prop := T.length = ds.length ∧ ∀ k, k < ds.length → ∃ row, T[k]? = some row ∧ (k < st → row = []) ∧ (k = st → row.map (·.1) = emU ds m like goes st c) ∧ (st < k → row.map (·.1) = emU ds m like goes k m)
section
variable {ds : List Int} {m : Nat} {like : Nat → Nat → Prop} {goes : Nat → Nat → Nat → Prop}
theorem EmO.start {st : Nat} {T : List (List (Int × Bool))} (h : EmO ds m like goes (st + 1) T) : EmI ds m like goes st 0 T :=
  ⟨h.1, fun k hk => let ⟨row, a, b, c⟩ := h.2 k hk; ⟨row, a, fun z => b (by omega), fun z => by rw [b (by omega)]; rfl, fun z => c (by omega)⟩⟩
theorem EmI.fin {st : Nat} {T : List (List (Int × Bool))} (h : EmI ds m like goes st m T) : EmO ds m like goes st T :=
  ⟨h.1, fun k hk => let ⟨row, a, b, c, d⟩ := h.2 k hk; ⟨row, a, b, fun z => by
    by_cases e : k = st
    · subst e; exact c rfl
    · exact d (by omega)⟩⟩
theorem EmI.yes {st c : Nat} {T : List (List (Int × Bool))} {row : List (Int × Bool)} (h : EmI ds m like goes st c T) (hr : T[st]? = some row) (hst : st < ds.length) (hs : Emb ds m like goes st c) : EmI ds m like goes st (c + 1) (T.set st (putL row (c : Int) true)) := by
  refine ⟨by rw [List.length_set]; exact h.1, fun k hk => ?_⟩
  by_cases e : k = st
  · subst e
    refine ⟨_, List.getElem?_set_self (by rw [h.1]; exact hk), fun z => absurd z (by omega), fun _ => ?_, fun z => absurd z (by omega)⟩
    obtain ⟨row', a, _, q, _⟩ := h.2 k hk
    rw [hr] at a
    cases a
    rw [putL_keys, q rfl, if_neg emU_new, emU_yes hs]
  · obtain ⟨row', a, b, _, d⟩ := h.2 k hk
    exact ⟨row', by rw [List.getElem?_set_ne (Ne.symm e)]; exact a, b, fun z => absurd z e, d⟩
theorem EmI.no {st c : Nat} {T : List (List (Int × Bool))} (h : EmI ds m like goes st c T) (hs : ¬ Emb ds m like goes st c) : EmI ds m like goes st (c + 1) T :=
  ⟨h.1, fun k hk => let ⟨row, a, b, q, d⟩ := h.2 k hk; ⟨row, a, b, fun z => by rw [emU_no hs]; exact q z, d⟩⟩
end
/-! ### maps, one behind the other -/
theorem map_an {r1 r2 : List Sr} {g1 g2 : Nat} {im : List Nat} (ok1 : QuOk r1 g1) (hm : IsMapN r1 g1 r2 g2 im) : ∀ (k u x y : Nat), An (qds r1) u k → im[k]? = some x → im[u]? = some y → An (qds r2) y x := by
  intro k
  induction k using Nat.strongRecOn with
  | _ k ih =>
    intro u x y an hx hy
    obtain ⟨w, p, hw⟩ := dv_par ok1.dv an
    have hk : k < r1.length := by have := an.2.1; rw [qds_len] at this; exact this
    have hxl : x < r2.length := hm.2.1 x (List.mem_of_getElem? hx)
    obtain ⟨sr, hsr⟩ := get_lt hk
    obtain ⟨r', hr'⟩ := get_lt hxl
    have hwl : w < im.length := by rw [hm.1]; have := (par_lt p).1; omega
    have hz := List.getElem?_eq_getElem hwl
    have gt := (hm.2.2 k (by rw [hm.1]; exact hk) x hx).2.2 w _ p hz
    have e : An (qds r2) im[w] x := by
      rcases (goesS hsr hr').mp gt with ⟨_, pr, _⟩ | ⟨_, a⟩
      · exact pr.1
      · exact a
    rcases hw with rfl | hw
    · rw [hz] at hy
      cases hy
      exact e
    · exact (ih w (par_lt p).1 u _ y hw hz hy).trans e
theorem map_comp {r1 r2 r3 : List Sr} {g1 g2 g3 : Nat} {im jm : List Nat} (ok1 : QuOk r1 g1) (ok2 : QuOk r2 g2) (ok3 : QuOk r3 g3) (h1 : IsMapN r1 g1 r2 g2 im) (h2 : IsMapN r2 g2 r3 g3 jm) : IsMapN r1 g1 r3 g3 (im.map fun x => jm.getD x 0) := by
  have at2 : ∀ x, x < r2.length → jm[x]? = some (jm.getD x 0) ∧ jm.getD x 0 < r3.length := fun x hx => by
    have hx' : x < jm.length := by rw [h2.1]; exact hx
    have e := List.getElem?_eq_getElem hx'
    have e2 : jm.getD x 0 = jm[x] := by simp [List.getD, e]
    rw [e2]
    exact ⟨e, h2.2.1 _ (List.getElem_mem ..)⟩
  refine ⟨by rw [List.length_map]; exact h1.1, fun z hz => ?_, fun k hk z hz => ?_⟩
  · obtain ⟨x, hx, rfl⟩ := List.mem_map.mp hz
    exact (at2 x (h1.2.1 x hx)).2
  · rw [List.length_map] at hk
    have hx := List.getElem?_eq_getElem hk
    rw [List.getElem?_map, hx] at hz
    have hz : jm.getD im[k] 0 = z := Option.some.inj hz
    subst hz
    have hkl : k < r1.length := by rw [← h1.1]; exact hk
    have hxl : im[k] < r2.length := h1.2.1 _ (List.getElem_mem ..)
    obtain ⟨hj, hjl⟩ := at2 _ hxl
    obtain ⟨⟨⟨a, b, ha, hb, e⟩, hg⟩, ht, hp⟩ := h1.2.2 k hk _ hx
    obtain ⟨⟨⟨a', b', ha', hb', e'⟩, hg'⟩, ht', hp'⟩ := h2.2.2 _ (by rw [h2.1]; exact hxl) _ hj
    rw [hb] at ha'
    cases ha'
    obtain ⟨r0, hr0⟩ := get_lt (l := r3) (n := 0) (by omega)
    obtain ⟨q0, hq0⟩ := get_lt (l := r2) (n := 0) (by omega)
    refine ⟨⟨⟨a, b', ha, hb', by rw [e, e']⟩, fun z => hg' (hg z)⟩, fun hr => ?_, fun u y p hy => ?_⟩
    · rcases (goesN (im := im[k]) ha hq0).mp (ht hr) with c | ⟨c1, c2⟩
      · exact (goesN ha hr0).mpr (.inl c)
      · have hr2 : ∀ u, ¬ An (qds r2) u im[k] := fun u an => by have := an.1; omega
        rcases (goesN (im := jm.getD im[k] 0) hb hr0).mp (ht' hr2) with d | ⟨d1, d2⟩
        · have : b = q0 := by rw [c1, hq0] at hb; cases hb; rfl
          rw [this] at d
          exact absurd c2 d
        · exact (goesN ha hr0).mpr (.inr ⟨d1, d2⟩)
    · rw [List.getElem?_map] at hy
      have hul : u < im.length := Nat.lt_trans (par_lt p).1 hk
      have hu := List.getElem?_eq_getElem hul
      rw [hu] at hy
      have hy : jm.getD im[u] 0 = y := Option.some.inj hy
      subst hy
      have hul2 : im[u] < r2.length := h1.2.1 _ (List.getElem_mem ..)
      obtain ⟨hj2, _⟩ := at2 _ hul2
      rcases (goesS (u := im[u]) ha hb).mp (hp u _ p hu) with ⟨c1, pr, c2⟩ | ⟨c1, an⟩
      · rcases (goesS (u := jm.getD im[u] 0) hb hb').mp (hp' _ _ pr hj2) with ⟨d1, pr2, d2⟩ | ⟨d1, _⟩
        · exact (goesS ha hb').mpr (.inl ⟨c1, pr2, d2⟩)
        · exact absurd c2 d1
      · exact (goesS ha hb').mpr (.inr ⟨c1, map_an ok2 h2 _ _ _ _ an hj hj2⟩)
theorem getI_lastM {α : Type} {X : Exn → Prop} {P : α → Prop} {l : List α} (h : l ≠ []) (p : ∀ x ∈ l, P x) : getI l (-1) P X := by
  have hl : 0 < l.length := List.length_pos_iff.mpr h
  refine ⟨l[l.length - 1]'(by omega), ?_, p _ (List.getElem_mem ..)⟩
  unfold L2.atI ixN
  rw [if_neg (by decide), if_pos (by omega)]
  show l[(-1 + (l.length : Int)).toNat]? = _
  rw [show (-1 + (l.length : Int)).toNat = l.length - 1 by omega]
  exact List.getElem?_eq_getElem _
end Va

namespace Bg
open PySem PySem.Spec PyProof.Rows L2
/-! ### defs with defaults -/
structure FnD (P : Program) (w : World) (K : PySem.W.Frag) (mg : Str → Option Value) (base : Heap) (CX : CXT) (k : Nat) (x : Str) (ps : List Str) (dvs : List V) (sp : Sp) : Prop where
  ex : ∃ (f : Addr) (fd : FuncData) (ds : List Value), FnOk P w K mg base CX k f fd ps sp ∧ mg x = some (.ref f) ∧ PySem.W.keepIn K (.ref f) = true ∧ Vals dvs ds ∧ Binds K fd ps ds
theorem FnD.of {P : Program} {w : World} {K : PySem.W.Frag} {mg : Str → Option Value} {base : Heap} {CX : CXT} {k : Nat} {x : Str} {ps : List Str} {dvs : List V} {sp : Sp} {f : Addr} {fd : FuncData} (F : FnOk P w K mg base CX k f fd ps sp) (hm : mg x = some (.ref f)) (hk : PySem.W.keepIn K (.ref f) = true) (hb : ∃ ds, Vals dvs ds ∧ Binds K fd ps ds) : FnD P w K mg base CX k x ps dvs sp :=
  let ⟨ds, h1, h2⟩ := hb; ⟨f, fd, ds, F, hm, hk, h1, h2⟩
section
variable {X : Cx} {CX : CXT} {k : Nat} {ps : List Str} {sp : Sp} {E : XK} {x : Str} {p pos : Pos} {e : Expr} {es : List Expr} {t : TA} {dvs : List V}
theorem pe_callFd (F : FnD X.prog X.w X.K X.mg X.base CX k x ps dvs sp) (hr : Room k X.A) (hx : Passes CX X E) (ha : PA X (e :: es) t) (hg : Gl X x := by rfl) (hdb : (x == ("__debug__" : Str)) = false := by decide)
    (he : starEach (e :: es) X.env = (false, eval e X.env) :: starEach es X.env := by rfl) (hpl : (backTo pos (starEach es X.env)).any (·.1) = false := by rfl) :
    PE X (.Call (.Name x p) (e :: es) [] pos) (tCall sp dvs E t) := by
  obtain ⟨f, fd, ds, F, hm, hk, hv, hb⟩ := F.ex
  exact pe_call F hr hg hm hk hb hv hx ha hdb he hpl
end
end Bg
namespace Va
open PySem PySem.Spec PyProof.Rows L2 Bg
section
variable {K : PySem.W.Frag} {EX : L2.St → XK} {ρ : List Sl} {α β γ R : Type} {F : Fr R}
theorem ArOk.snoc {O : AP} {H : Hp} {vs : List V} {ss : List Sl} {v : V} {d : D} (h : ArOk K O H vs ss) (r : Rep K O H v d) : ArOk K O H (vs ++ [v]) (ss ++ [.sh d]) := by
  induction h with
  | nil => exact .sh r .nil
  | sh e _ ih => exact .sh e ih
  | src e1 e2 _ ih => exact .src e1 e2 ih
  | scr e _ ih => exact .scr e ih
theorem rg_callD {E0' : XK} {t : TA} {ar : α → List Sl} {ar' : γ → List Sl} {w : M α} {res : Res β} [Lasts res] {c : γ → M β} (f : α → γ) (hf : ∀ a, ar' (f a) = ar a ++ [.sh .non]) (h : RA K EX ρ t ar w) (nx : ∀ a P X, c a P X → c a P fun _ => False) : RG K EX ρ (tCall (spC K ar' res c) [.non] E0' t) res (w >>= fun a => c (f a)) := fun B O H σ E P PX Q hw hq hx =>
  h B O H σ E _ PX _ hw (fun a vs H1 p1 e1 r1 => ⟨O, f a, P, fun _ => False, by rw [hf]; exact r1.snoc .non, (E.ex e1).dom, nx _ P PX p1, fun r v H' p' e' k => hq r v H' p' (e1.trans e') (Lasts.base k e1), fun _ _ _ _ z => z.elim⟩) hx
/-- x or [], x a list or None -/
theorem re_orL {ta : TE} {en : α → D} {wa : M (Option (List α))} (ha : RE K EX ρ ta (eO (eL en)) wa) : RE K EX ρ (tOrT K ta (tLst tNil)) (eL en) (wa >>= fun o => pure (o.getD [])) := fun B O H σ E P PX Q hw hq hx =>
  ha B O H σ E _ PX _ hw (fun o v H1 p e r => by
    have new : P [] → tLst tNil σ H1 Q := fun p => by
      refine ⟨by show 0 ≤ _; exact Nat.zero_le _, fun a ha => hq [] _ _ p (e.trans (.new ha)) ?_⟩
      exact .lst (fun z => (E.ex e).dom a z ha) upd_same .nil
    cases o with
    | none =>
      cases r
      exact ⟨false, rfl, new p⟩
    | some l =>
      cases r with
      | @lst a vs _ n h r =>
        cases l with
        | nil =>
          cases r
          exact ⟨false, .inl ⟨_, .inl (.inl h), rfl⟩, new p⟩
        | cons x l =>
          cases r with
          | cons r1 r2 => exact ⟨true, .inl ⟨_, .inl (.inl h), rfl⟩, hq _ _ _ p e (.lst n h (.cons r1 r2))⟩) hx
end
end Va

namespace Va
open PySem PySem.Spec PyProof.Rows L2 Bg
/-! ### a strange label -/
def ltr (i : Nat) : Str := ⟨#[97 + i]⟩
theorem sgns_abc : sgns "abcdefghijklmnopqrstuvwxyz" = (List.range 26).map ltr := by decide +kernel
theorem sgns_abc_at {i : Nat} {x : Str} (h : (sgns "abcdefghijklmnopqrstuvwxyz")[i]? = some x) : i < 26 ∧ x = ltr i := by
  rw [sgns_abc, List.getElem?_map] at h
  have hi : i < 26 := by
    by_cases c : i < 26
    · exact c
    · rw [List.getElem?_eq_none (by simpa using c)] at h; cases h
  rw [List.getElem?_range hi] at h
  exact ⟨hi, (Option.some.inj h).symm⟩
theorem sgns_abc_len : (sgns "abcdefghijklmnopqrstuvwxyz").length = 26 := by rw [sgns_abc]; simp
theorem word_eq (i j : Nat) : ltr i ++ ltr j = (⟨#[97 + i, 97 + j]⟩ : Str) := rfl
theorem word_inj {i j i' j' : Nat} (h : ltr i ++ ltr j = ltr i' ++ ltr j') : i = i' ∧ j = j' := by
  rw [word_eq, word_eq] at h
  injection h with h
  injection h with h
  injection h with h1 h2
  injection h2 with h2 _
  omega
theorem ltr_len (i : Nat) : (ltr i).length = 1 := rfl
theorem word_label {i j : Nat} (hi : i < 26) (hj : j < 26) : labelB (ltr i ++ ltr j) = true := by
  have low : ∀ n, n < 26 → isLow (97 + n) = true := by decide
  rw [word_eq]
  unfold labelB
  show (true && true && (isLow (97 + i) && (isLow (97 + j) && true))) = true
  rw [low i hi, low j hj]
  rfl
theorem nodup_len {α : Type} [DecidableEq α] : ∀ {l m : List α}, l.Nodup → (∀ x ∈ l, x ∈ m) → l.length ≤ m.length
  | [], _, _, _ => Nat.zero_le _
  | a :: l, m, nd, h => by
    obtain ⟨n1, n2⟩ := List.nodup_cons.mp nd
    have ha := h a List.mem_cons_self
    have := nodup_len (l := l) (m := m.erase a) n2 fun x hx => (List.mem_erase_of_ne fun (e : x = a) => n1 (e ▸ hx)).mpr (h x (List.mem_cons_of_mem _ hx))
    rw [List.length_erase_of_mem ha] at this
    have hp := List.length_pos_of_mem ha
    rw [List.length_cons]
    omega
theorem words_many {m : List Str} (h : ∀ i, i < 26 → ∀ j, j < 26 → ltr i ++ ltr j ∈ m) : 676 ≤ m.length := by
  have nd : ((List.range 676).map fun k => ltr (k / 26) ++ ltr (k % 26)).Nodup := by
    rw [List.nodup_iff_pairwise_ne, List.pairwise_map]
    refine List.Pairwise.imp_of_mem (fun {a b} _ _ hab => ?_) List.pairwise_lt_range
    intro e
    obtain ⟨h1, h2⟩ := word_inj e
    have := Nat.div_add_mod a 26
    have := Nat.div_add_mod b 26
    omega
  have := nodup_len nd fun x hx => by
    obtain ⟨k, hk, rfl⟩ := List.mem_map.mp hx
    rw [List.mem_range] at hk
    exact h _ (by omega) _ (Nat.mod_lt _ (by decide))
  simpa using this
theorem putL_key {κ α : Type} [DecidableEq κ] {l : List (κ × α)} {k x : κ} {a : α} : x ∈ (putL l k a).map (·.1) ↔ x ∈ l.map (·.1) ∨ x = k := by
  rw [putL_keys]
  by_cases c : k ∈ l.map (·.1)
  · rw [if_pos c]
    exact ⟨.inl, fun z => z.elim id fun e => e ▸ c⟩
  · rw [if_neg c, List.mem_append, List.mem_singleton]
end Va

namespace Va
open PySem PySem.Spec PyProof.Rows L2 Bg
/-! ### a question laid out as a document -/
def wt (w : Str) : Nat := if w = "//" then 2 else 1
theorem wt_pos (w : Str) : 1 ≤ wt w ∧ wt w ≤ 2 := by unfold wt; split <;> decide
structure LO (qr : List Sr) (z : Str) (rows : List (Str × Int)) (pl : List Nat) (Dl : List Int) : Prop where
  dlen : Dl.length = pl.length
  le : pl.length ≤ qr.length
  at_ : ∀ (j p : Nat) (sr : Sr) (d : Int), pl[j]? = some p → qr[j]? = some sr → Dl[j]? = some d → rows[p]? = some (sr.2.1, d) ∧ (sr.1 = "//" → 1 ≤ p ∧ rows[p - 1]? = some (z, d - 1))
  first : ∀ (p : Nat) (sr : Sr), pl[0]? = some p → qr[0]? = some sr → p + 1 = wt sr.1
  next : ∀ (j p q : Nat) (sr : Sr), pl[j]? = some p → pl[j + 1]? = some q → qr[j + 1]? = some sr → q = p + wt sr.1
  fin0 : pl = [] → rows = []
  fin : ∀ j p, j + 1 = pl.length → pl[j]? = some p → rows.length = p + 1
  dep0 : ∀ (d : Int) (sr : Sr), Dl[0]? = some d → qr[0]? = some sr → d = (wt sr.1 : Int)
  dep : ∀ (u j : Nat) (du d : Int) (sr : Sr), Par (qds qr) u j → Dl[u]? = some du → Dl[j]? = some d → qr[j]? = some sr → d = du + (wt sr.1 : Int)
theorem LO.nil {qr : List Sr} {z : Str} : LO qr z [] [] [] := ⟨rfl, Nat.zero_le _, fun _ _ _ _ h => (nomatch h), fun _ _ h => (nomatch h), fun _ _ _ _ h => (nomatch h), fun _ => rfl, fun _ _ h => (nomatch h), fun _ _ h => (nomatch h), fun _ _ _ _ _ _ h => nomatch h⟩
section
variable {qr : List Sr} {g : Nat} {z : Str} {rows : List (Str × Int)} {pl : List Nat} {Dl : List Int}
theorem get_snoc {α : Type} {l : List α} {x y : α} {j : Nat} (h : (l ++ [x])[j]? = some y) : (j < l.length ∧ l[j]? = some y) ∨ (j = l.length ∧ y = x) := by
  rcases Nat.lt_or_ge j l.length with c | c
  · rw [List.getElem?_append_left c] at h
    exact .inl ⟨c, h⟩
  · have hl := (List.getElem?_eq_some_iff.mp h).1
    rw [List.length_append, List.length_singleton] at hl
    have e : j = l.length := by omega
    subst e
    rw [List.getElem?_append_right (Nat.le_refl _), Nat.sub_self] at h
    exact .inr ⟨rfl, (Option.some.inj h).symm⟩
theorem LO.lt (h : LO qr z rows pl Dl) : ∀ (j p : Nat), pl[j]? = some p → p < rows.length := fun j p hp => by
  obtain ⟨sr, hsr⟩ := get_lt (l := qr) (n := j) (by have := (List.getElem?_eq_some_iff.mp hp).1; have := h.le; omega)
  obtain ⟨d, hd⟩ := get_lt (l := Dl) (n := j) (by have := (List.getElem?_eq_some_iff.mp hp).1; have := h.dlen; omega)
  exact (List.getElem?_eq_some_iff.mp (h.at_ j p sr d hp hsr hd).1).1
/-- one step more -/
theorem LO.snoc (h : LO qr z rows pl Dl) (hd : Dv (qds qr)) {sr : Sr} (hsr : qr[pl.length]? = some sr) {d0 : Int} (h0 : (∀ u, ¬ An (qds qr) u pl.length) → d0 = 0) (hu : ∀ u du, Par (qds qr) u pl.length → Dl[u]? = some du → d0 = du) :
    LO qr z (rows ++ ((if sr.1 = "//" then [(z, d0 + 1)] else []) ++ [(sr.2.1, d0 + (wt sr.1 : Int))])) (pl ++ [rows.length + wt sr.1 - 1]) (Dl ++ [d0 + (wt sr.1 : Int)]) := by
  have hkl : pl.length < qr.length := (List.getElem?_eq_some_iff.mp hsr).1
  have hw := wt_pos sr.1
  have blk : ((if sr.1 = "//" then [(z, d0 + 1)] else []) ++ [(sr.2.1, d0 + (wt sr.1 : Int))]).length = wt sr.1 := by
    unfold wt
    by_cases c : sr.1 = "//"
    · rw [if_pos c, if_pos c]; rfl
    · rw [if_neg c, if_neg c]; rfl
  have hdl := h.dlen
  refine ⟨by rw [List.length_append, List.length_append, hdl]; rfl, by rw [List.length_append]; exact hkl, fun j p sr' d hp hs hdd => ?_, fun p sr' hp hs => ?_, fun j p q sr' hp hq hs => ?_, fun e => by simp at e, fun j p hj hp => ?_, fun d sr' hdd hs => ?_, fun u j du d sr' par h1 h2 hs => ?_⟩
  · rcases get_snoc hp with ⟨c, hp⟩ | ⟨rfl, rfl⟩
    · rw [List.getElem?_append_left (by omega)] at hdd
      obtain ⟨a, b⟩ := h.at_ j p sr' d hp hs hdd
      have hpl := h.lt j p hp
      refine ⟨by rw [List.getElem?_append_left hpl]; exact a, fun w => ?_⟩
      obtain ⟨b1, b2⟩ := b w
      exact ⟨b1, by rw [List.getElem?_append_left (by omega)]; exact b2⟩
    · rw [hsr] at hs
      cases hs
      rw [List.getElem?_append_right (by omega), hdl, Nat.sub_self] at hdd
      have hdd : d0 + (wt sr.1 : Int) = d := Option.some.inj hdd
      subst hdd
      by_cases c : sr.1 = "//"
      · have e : wt sr.1 = 2 := by unfold wt; rw [if_pos c]
        rw [e, if_pos c]
        refine ⟨?_, fun _ => ⟨by omega, ?_⟩⟩
        · rw [List.getElem?_append_right (by omega), show rows.length + 2 - 1 - rows.length = 1 by omega]; rfl
        · rw [List.getElem?_append_right (by omega), show rows.length + 2 - 1 - 1 - rows.length = 0 by omega]
          show some (z, d0 + 1) = some (z, d0 + 2 - 1)
          rw [show d0 + 2 - 1 = d0 + 1 by omega]
      · have e : wt sr.1 = 1 := by unfold wt; rw [if_neg c]
        rw [e, if_neg c]
        refine ⟨?_, fun w => absurd w c⟩
        rw [List.getElem?_append_right (by omega), show rows.length + 1 - 1 - rows.length = 0 by omega]; rfl
  · rcases get_snoc hp with ⟨c, hp⟩ | ⟨e, rfl⟩
    · exact h.first p sr' hp hs
    · rw [e, hsr] at hs
      cases hs
      have : rows = [] := h.fin0 (List.length_eq_zero_iff.mp e.symm)
      rw [this, List.length_nil]
      omega
  · rcases get_snoc hq with ⟨c, hq⟩ | ⟨e, rfl⟩
    · rw [List.getElem?_append_left (by omega)] at hp
      exact h.next j p q sr' hp hq hs
    · rw [e, hsr] at hs
      cases hs
      rw [List.getElem?_append_left (by omega)] at hp
      have := h.fin j p e hp
      omega
  · rw [List.length_append, List.length_singleton] at hj
    rcases get_snoc hp with ⟨c, _⟩ | ⟨e, rfl⟩
    · omega
    · rw [List.length_append, blk]
      omega
  · rcases get_snoc hdd with ⟨c, hdd⟩ | ⟨e, rfl⟩
    · exact h.dep0 d sr' hdd hs
    · rw [e, hdl, hsr] at hs
      cases hs
      rw [h0 fun u a => by have := a.1; omega]
      omega
  · have lt1 := (par_lt par).1
    rcases get_snoc h2 with ⟨c, h2⟩ | ⟨e, rfl⟩
    · rw [List.getElem?_append_left (by omega)] at h1
      exact h.dep u j du d sr' par h1 h2 hs
    · rw [e, hdl] at hs par
      rw [hsr] at hs
      cases hs
      rw [List.getElem?_append_left (by omega)] at h1
      rw [hu u du par h1]
/-- laid out whole -/
structure LW (qr : List Sr) (g : Nat) (z : Str) (rows : List (Str × Int)) (pl : List Nat) (Dl : List Int) : Prop where
  lo : LO qr z rows pl Dl
  all : pl.length = qr.length
  ok : QuOk qr g
  zl : labelB z = true
namespace LW
variable (h : LW qr g z rows pl Dl)
include h
theorem at2 {j : Nat} (hj : j < qr.length) : ∃ (p : Nat) (d : Int) (sr : Sr), pl[j]? = some p ∧ Dl[j]? = some d ∧ qr[j]? = some sr ∧ rows[p]? = some (sr.2.1, d) ∧ (sr.1 = "//" → 1 ≤ p ∧ rows[p - 1]? = some (z, d - 1)) ∧ p < rows.length := by
  obtain ⟨p, hp⟩ := get_lt (l := pl) (n := j) (by rw [h.all]; exact hj)
  obtain ⟨d, hd⟩ := get_lt (l := Dl) (n := j) (by rw [h.lo.dlen, h.all]; exact hj)
  obtain ⟨sr, hsr⟩ := get_lt hj
  obtain ⟨a, b⟩ := h.lo.at_ j p sr d hp hsr hd
  exact ⟨p, d, sr, hp, hd, hsr, a, b, h.lo.lt j p hp⟩
/-- deeper beneath -/
theorem dlt : ∀ (j u : Nat) (du d : Int) (sr : Sr), An (qds qr) u j → Dl[u]? = some du → Dl[j]? = some d → qr[j]? = some sr → du + (wt sr.1 : Int) ≤ d := by
  intro j
  induction j using Nat.strongRecOn with
  | _ j ih =>
    intro u du d sr an h1 h2 h3
    obtain ⟨w, p, hw⟩ := dv_par h.ok.dv an
    have hwl : w < qr.length := by have := (par_lt p).2.2; rw [qds_len] at this; exact this
    obtain ⟨_, dw, srw, _, hdw, hsw, _⟩ := h.at2 hwl
    have e := h.lo.dep w j dw d sr p hdw h2 h3
    rcases hw with rfl | hw
    · rw [h1] at hdw
      cases hdw
      omega
    · have := ih w (par_lt p).1 u du dw srw hw h1 hdw hsw
      omega
theorem dpos : ∀ (j : Nat) (d : Int) (sr : Sr), Dl[j]? = some d → qr[j]? = some sr → (wt sr.1 : Int) ≤ d ∧ d ≤ 2 * dg (qds qr) j := by
  intro j
  induction j using Nat.strongRecOn with
  | _ j ih =>
    intro d sr h1 h2
    have hj : j < qr.length := (List.getElem?_eq_some_iff.mp h2).1
    have hw := wt_pos sr.1
    rcases Nat.eq_zero_or_pos j with rfl | hp
    · rw [h.lo.dep0 d sr h1 h2, h.ok.dv.one]
      omega
    · obtain ⟨w, p, _⟩ := dv_par h.ok.dv (dv_root h.ok.dv (by rw [qds_len]; exact hj) hp)
      have hwl : w < qr.length := by have := (par_lt p).2.2; rw [qds_len] at this; exact this
      obtain ⟨_, dw, srw, _, hdw, hsw, _⟩ := h.at2 hwl
      have e := h.lo.dep w j dw d sr p hdw h1 h2
      obtain ⟨a, b⟩ := ih w (par_lt p).1 dw srw hdw hsw
      have hww := wt_pos srw.1
      have := p.2
      omega
theorem plt : ∀ (j i p q : Nat), i < j → pl[i]? = some p → pl[j]? = some q → p < q := by
  intro j
  induction j with
  | zero => intro i p q hi; omega
  | succ j ih =>
    intro i p q hij hp hq
    have hj1 : j + 1 < qr.length := by rw [← h.all]; exact (List.getElem?_eq_some_iff.mp hq).1
    obtain ⟨r, hr⟩ := get_lt (l := pl) (n := j) (by rw [h.all]; omega)
    obtain ⟨sr, hsr⟩ := get_lt hj1
    have e := h.lo.next j r q sr hr hq hsr
    have hw := wt_pos sr.1
    by_cases c : i = j
    · subst c
      rw [hr] at hp
      cases hp
      omega
    · have := ih i p r (by omega) hp hr
      omega
theorem inj {i j p : Nat} (hi : pl[i]? = some p) (hj : pl[j]? = some p) : i = j := by
  rcases Nat.lt_trichotomy i j with c | c | c
  · have := h.plt j i p p c hi hj; omega
  · exact c
  · have := h.plt i j p p c hj hi; omega
/-- the strange part is no step's -/
theorem gap {i j p q : Nat} {sr : Sr} (hj : pl[j]? = some q) (hs : qr[j]? = some sr) (w : sr.1 = "//") (hi : pl[i]? = some p) : p + 1 ≠ q := fun e => by
  have e2 : wt sr.1 = 2 := by unfold wt; rw [if_pos w]
  rcases Nat.eq_zero_or_pos j with rfl | hp
  · have := h.lo.first q sr hj hs
    have c : ¬ i < 0 := by omega
    rcases Nat.eq_zero_or_pos i with rfl | hi0
    · rw [hi] at hj; cases hj; omega
    · have := h.plt i 0 q p hi0 hj hi; omega
  · obtain ⟨j', rfl⟩ : ∃ j', j = j' + 1 := ⟨j - 1, by omega⟩
    have hj1 : j' + 1 < qr.length := (List.getElem?_eq_some_iff.mp hs).1
    obtain ⟨r, hr⟩ := get_lt (l := pl) (n := j') (by rw [h.all]; omega)
    have := h.lo.next j' r q sr hr hj hs
    rcases Nat.lt_or_ge j' i with c | c
    · rcases Nat.lt_or_ge i (j' + 1) with c2 | c2
      · omega
      · by_cases c3 : i = j' + 1
        · subst c3; rw [hj] at hi; cases hi; omega
        · have := h.plt i (j' + 1) q p (by omega) hj hi; omega
    · by_cases c3 : i = j'
      · subst c3; rw [hr] at hi; cases hi; omega
      · have := h.plt j' i p r (by omega) hi hr; omega
/-- each part is a step's, or the strange one ahead of it -/
theorem cover : ∀ (n : Nat), n < rows.length → ∃ (j p : Nat) (sr : Sr), pl[j]? = some p ∧ qr[j]? = some sr ∧ (n = p ∨ (sr.1 = "//" ∧ n + 1 = p)) := by
  have key : ∀ (j p : Nat), pl[j]? = some p → ∀ n, n ≤ p → ∃ (j p : Nat) (sr : Sr), pl[j]? = some p ∧ qr[j]? = some sr ∧ (n = p ∨ (sr.1 = "//" ∧ n + 1 = p)) := by
    intro j
    induction j with
    | zero =>
      intro p hp n hn
      obtain ⟨sr, hsr⟩ := get_lt (l := qr) (n := 0) (by rw [← h.all]; exact (List.getElem?_eq_some_iff.mp hp).1)
      have e := h.lo.first p sr hp hsr
      unfold wt at e
      refine ⟨0, p, sr, hp, hsr, ?_⟩
      by_cases c : sr.1 = "//"
      · rw [if_pos c] at e
        by_cases c2 : n = p
        · exact .inl c2
        · exact .inr ⟨c, by omega⟩
      · rw [if_neg c] at e
        exact .inl (by omega)
    | succ j ih =>
      intro p hp n hn
      have hj1 : j + 1 < qr.length := by rw [← h.all]; exact (List.getElem?_eq_some_iff.mp hp).1
      obtain ⟨r, hr⟩ := get_lt (l := pl) (n := j) (by rw [h.all]; omega)
      obtain ⟨sr, hsr⟩ := get_lt hj1
      have e := h.lo.next j r p sr hr hp hsr
      by_cases c0 : n ≤ r
      · exact ih r hr n c0
      · unfold wt at e
        refine ⟨j + 1, p, sr, hp, hsr, ?_⟩
        by_cases c : sr.1 = "//"
        · rw [if_pos c] at e
          by_cases c2 : n = p
          · exact .inl c2
          · exact .inr ⟨c, by omega⟩
        · rw [if_neg c] at e
          exact .inl (by omega)
  intro n hn
  have hone := h.ok.one
  obtain ⟨p, hp⟩ := get_lt (l := pl) (n := qr.length - 1) (by rw [h.all]; omega)
  have := h.lo.fin (qr.length - 1) p (by rw [h.all]; omega) hp
  exact key _ p hp n (by omega)
theorem dgp {j p : Nat} {d : Int} (hp : pl[j]? = some p) (hd : Dl[j]? = some d) : dg (dps rows) p = d := by
  have hj : j < qr.length := by rw [← h.all]; exact (List.getElem?_eq_some_iff.mp hp).1
  obtain ⟨p', d', sr, h1, h2, h3, h4, _⟩ := h.at2 hj
  rw [hp] at h1; cases h1
  rw [hd] at h2; cases h2
  exact dps_at h4
theorem dgs {j p : Nat} {d : Int} {sr : Sr} (hp : pl[j]? = some p) (hd : Dl[j]? = some d) (hs : qr[j]? = some sr) (w : sr.1 = "//") : dg (dps rows) (p - 1) = d - 1 ∧ 1 ≤ p := by
  have hj : j < qr.length := by rw [← h.all]; exact (List.getElem?_eq_some_iff.mp hp).1
  obtain ⟨p', d', sr', h1, h2, h3, h4, h5, _⟩ := h.at2 hj
  rw [hp] at h1; cases h1
  rw [hd] at h2; cases h2
  rw [hs] at h3; cases h3
  obtain ⟨a, b⟩ := h5 w
  exact ⟨dps_at b, a⟩
/-- what is beneath u is deeper, part by part -/
theorem anp {u j pu pj : Nat} (an : An (qds qr) u j) (hu : pl[u]? = some pu) (hj : pl[j]? = some pj) : An (dps rows) pu pj ∧ ∀ sr, qr[j]? = some sr → sr.1 = "//" → An (dps rows) pu (pj - 1) := by
  have hul : u < qr.length := by have := an.1; have := an.2.1; rw [qds_len] at this; omega
  have hjl : j < qr.length := by have := an.2.1; rw [qds_len] at this; exact this
  obtain ⟨_, du, su, hu1, hdu, hsu, _, _, hpul⟩ := h.at2 hul
  rw [hu] at hu1; cases hu1
  have gt : ∀ n, pu < n → n ≤ pj → dg (dps rows) pu < dg (dps rows) n := fun n h1 h2 => by
    obtain ⟨i, p, sr, hp, hs, hc⟩ := h.cover n (by have := h.lo.lt j pj hj; omega)
    have hil : i < qr.length := (List.getElem?_eq_some_iff.mp hs).1
    obtain ⟨_, di, si, hp1, hdi, hsi, _⟩ := h.at2 hil
    rw [hp] at hp1; cases hp1
    rw [hs] at hsi; cases hsi
    have hui : u < i := by
      rcases Nat.lt_trichotomy u i with c | c | c
      · exact c
      · subst c; rw [hu] at hp; cases hp; omega
      · have := h.plt u i p pu c hp hu; omega
    have hij : i ≤ j := by
      rcases Nat.lt_or_ge j i with c | c
      · have := h.plt i j pj p c hj hp
        rcases hc with e | ⟨w, e⟩
        · omega
        · have := h.gap hp hs w hj
          omega
      · exact c
    have an2 : An (qds qr) u i := ⟨hui, by rw [qds_len]; exact hil, fun m a b => an.2.2 m a (by omega)⟩
    have hd := h.dlt i u du di sr an2 hdu hdi hs
    rw [h.dgp hu hdu]
    rcases hc with rfl | ⟨w, e⟩
    · rw [h.dgp hp hdi]
      have := wt_pos sr.1
      omega
    · have e2 : wt sr.1 = 2 := by unfold wt; rw [if_pos w]
      rw [show n = p - 1 by omega, (h.dgs hp hdi hs w).1]
      omega
  have hlt := h.plt j u pu pj an.1 hu hj
  have hpj := h.lo.lt j pj hj
  refine ⟨⟨hlt, by rw [dps_len]; exact hpj, gt⟩, fun sr hs w => ?_⟩
  have := h.gap hj hs w hu
  exact ⟨by omega, by rw [dps_len]; omega, fun n a b => gt n a (by omega)⟩
/-- the uppers of parts -/
theorem par_s {u j pu pj : Nat} {sr : Sr} (p : Par (qds qr) u j) (hu : pl[u]? = some pu) (hj : pl[j]? = some pj) (hs : qr[j]? = some sr) : if sr.1 = "//" then Par (dps rows) pu (pj - 1) ∧ Par (dps rows) (pj - 1) pj else Par (dps rows) pu pj := by
  have hul : u < qr.length := by have := (par_lt p).2.2; rw [qds_len] at this; exact this
  have hjl : j < qr.length := by have := (par_lt p).2.1; rw [qds_len] at this; exact this
  obtain ⟨_, du, su, hu1, hdu, hsu, _⟩ := h.at2 hul
  rw [hu] at hu1; cases hu1
  obtain ⟨_, dj, sj, hj1, hdj, hsj, _, _, hpj⟩ := h.at2 hjl
  rw [hj] at hj1; cases hj1
  have e := h.lo.dep u j du dj sr p hdu hdj hs
  obtain ⟨a1, a2⟩ := h.anp p.1 hu hj
  by_cases c : sr.1 = "//"
  · rw [if_pos c]
    have e2 : wt sr.1 = 2 := by unfold wt; rw [if_pos c]
    obtain ⟨s1, s2⟩ := h.dgs hj hdj hs c
    refine ⟨⟨a2 sr hs c, by rw [h.dgp hu hdu, s1]; omega⟩, ⟨⟨by omega, by rw [dps_len]; exact hpj, fun n b1 b2 => ?_⟩, by rw [s1, h.dgp hj hdj]; omega⟩⟩
    rw [show n = pj by omega, s1, h.dgp hj hdj]
    omega
  · rw [if_neg c]
    have e2 : wt sr.1 = 1 := by unfold wt; rw [if_neg c]
    exact ⟨a1, by rw [h.dgp hu hdu, h.dgp hj hdj]; omega⟩
theorem par_0 {p0 : Nat} {sr : Sr} (hp : pl[0]? = some p0) (hs : qr[0]? = some sr) : if sr.1 = "//" then p0 = 1 ∧ Par (dps rows) 0 p0 else p0 = 0 := by
  have e := h.lo.first p0 sr hp hs
  have hone := h.ok.one
  obtain ⟨_, d0, s0, h1, h2, h3, _, _, h5⟩ := h.at2 (j := 0) (by omega)
  rw [hp] at h1; cases h1
  by_cases c : sr.1 = "//"
  · rw [if_pos c]
    have e2 : wt sr.1 = 2 := by unfold wt; rw [if_pos c]
    have ed := h.lo.dep0 d0 sr h2 hs
    obtain ⟨s1, s2⟩ := h.dgs hp h2 hs c
    have p1 : p0 = 1 := by omega
    subst p1
    refine ⟨rfl, ⟨by omega, by rw [dps_len]; exact h5, fun n b1 b2 => ?_⟩, ?_⟩
    · rw [show n = 1 by omega, h.dgp hp h2]
      have : dg (dps rows) 0 = d0 - 1 := s1
      omega
    · have : dg (dps rows) 0 = d0 - 1 := s1
      rw [this, h.dgp hp h2]; omega
  · rw [if_neg c]
    have e2 : wt sr.1 = 1 := by unfold wt; rw [if_neg c]
    omega
theorem docOk : DocOk rows := by
  have hone := h.ok.one
  have hmost := h.ok.most
  have dv := h.ok.dv
  have hub : ∀ j p, pl[j]? = some p → p + 1 ≤ 2 * (j + 1) := by
    intro j
    induction j with
    | zero =>
      intro p hp
      obtain ⟨sr, hsr⟩ := get_lt (l := qr) (n := 0) (by omega)
      have := h.lo.first p sr hp hsr
      have := wt_pos sr.1
      omega
    | succ j ih =>
      intro p hp
      have hj1 : j + 1 < qr.length := by rw [← h.all]; exact (List.getElem?_eq_some_iff.mp hp).1
      obtain ⟨r, hr⟩ := get_lt (l := pl) (n := j) (by rw [h.all]; omega)
      obtain ⟨sr, hsr⟩ := get_lt hj1
      have := h.lo.next j r p sr hr hp hsr
      have := wt_pos sr.1
      have := ih r hr
      omega
  obtain ⟨pl', hpl⟩ := get_lt (l := pl) (n := qr.length - 1) (by rw [h.all]; omega)
  have hrl := h.lo.fin (qr.length - 1) pl' (by rw [h.all]; omega) hpl
  have hb := hub _ _ hpl
  have deep : ∀ j, j < qr.length → dg (qds qr) j ≤ 30 := fun j hj => by
    obtain ⟨sr, hsr⟩ := get_lt hj
    rw [qds_at hsr]
    exact h.ok.deep sr (List.mem_of_getElem? hsr)
  have row : ∀ (n : Nat) (r : Str × Int), rows[n]? = some r → labelB r.1 = true ∧ r.2 ≤ 80 := fun n r hr => by
    have hn := (List.getElem?_eq_some_iff.mp hr).1
    obtain ⟨j, p, sr, hp, hs, hc⟩ := h.cover n hn
    have hj : j < qr.length := (List.getElem?_eq_some_iff.mp hs).1
    obtain ⟨_, d, sr', h1, h2, h3, h4, h5, _⟩ := h.at2 hj
    rw [hp] at h1; cases h1
    rw [hs] at h3; cases h3
    have hd := (h.dpos j d sr h2 hs).2
    have := deep j hj
    rcases hc with rfl | ⟨w, e⟩
    · rw [h4] at hr; cases hr
      exact ⟨h.ok.lab sr (List.mem_of_getElem? hs), by show d ≤ 80; omega⟩
    · obtain ⟨_, h6⟩ := h5 w
      rw [show n = p - 1 by omega, h6] at hr; cases hr
      exact ⟨h.zl, by show d - 1 ≤ 80; omega⟩
  refine ⟨by omega, by omega, fun r hr => ?_, ⟨?_, fun i hi => ?_⟩, fun r hr => ?_⟩
  · obtain ⟨n, hn⟩ := List.mem_iff_getElem?.mp hr
    exact (row n r hn).1
  · obtain ⟨p0, d0, s0, h1, h2, h3, h4, h5, _⟩ := h.at2 (j := 0) (by omega)
    have ed := h.lo.dep0 d0 s0 h2 h3
    have z := h.par_0 h1 h3
    by_cases c : s0.1 = "//"
    · rw [if_pos c] at z
      have e2 : wt s0.1 = 2 := by unfold wt; rw [if_pos c]
      have := (h.dgs h1 h2 h3 c).1
      rw [z.1] at this
      have this : dg (dps rows) 0 = d0 - 1 := this
      omega
    · rw [if_neg c] at z
      have e2 : wt s0.1 = 1 := by unfold wt; rw [if_neg c]
      have := h.dgp h1 h2
      rw [z] at this
      omega
  · rw [dps_len] at hi
    obtain ⟨j, p, sr, hp, hs, hc⟩ := h.cover (i + 1) hi
    have hj : j < qr.length := (List.getElem?_eq_some_iff.mp hs).1
    obtain ⟨_, d, sr', h1, h2, h3, h4, h5, _⟩ := h.at2 hj
    rw [hp] at h1; cases h1
    rw [hs] at h3; cases h3
    have hdp := (h.dpos j d sr h2 hs).1
    have hw := wt_pos sr.1
    rcases hc with e | ⟨w, e⟩
    · by_cases c : sr.1 = "//"
      · have e2 : wt sr.1 = 2 := by unfold wt; rw [if_pos c]
        have s1 := (h.dgs hp h2 hs c).1
        rw [show p - 1 = i by omega] at s1
        rw [e, h.dgp hp h2, s1]
        omega
      · have e2 : wt sr.1 = 1 := by unfold wt; rw [if_neg c]
        rcases Nat.eq_zero_or_pos j with rfl | hp0
        · have := h.lo.first p sr hp hs
          omega
        · obtain ⟨j', rfl⟩ : ∃ j', j = j' + 1 := ⟨j - 1, by omega⟩
          obtain ⟨r, dr, srr, g1, g2, g3, _⟩ := h.at2 (j := j') (by omega)
          have := h.lo.next j' r p sr g1 hp hs
          obtain ⟨w, pw, _⟩ := dv_par dv (dv_root dv (by rw [qds_len]; exact hj) hp0)
          have hwl : w < qr.length := by have := (par_lt pw).2.2; rw [qds_len] at this; exact this
          obtain ⟨_, dw, srw, _, hdw, hsw, _⟩ := h.at2 hwl
          have ed := h.lo.dep w (j' + 1) dw d sr pw hdw h2 hs
          have hdw1 := (h.dpos w dw srw hdw hsw).1
          have hww := wt_pos srw.1
          have hle : dw ≤ dr := by
            by_cases c2 : w = j'
            · subst c2; rw [hdw] at g2; cases g2; omega
            · have an2 : An (qds qr) w j' := ⟨by have := (par_lt pw).1; omega, by rw [qds_len]; omega, fun m a b => pw.1.2.2 m a (by omega)⟩
              have := h.dlt j' w dw dr srr an2 hdw g2 g3
              have := wt_pos srr.1
              omega
          have hi' : i = r := by omega
          rw [e, h.dgp hp h2, hi', h.dgp g1 g2]
          omega
    · have e2 : wt sr.1 = 2 := by unfold wt; rw [if_pos w]
      have s1 := (h.dgs hp h2 hs w).1
      rw [show p - 1 = i + 1 by omega] at s1
      rcases Nat.eq_zero_or_pos j with rfl | hp0
      · have := h.lo.first p sr hp hs
        omega
      · obtain ⟨j', rfl⟩ : ∃ j', j = j' + 1 := ⟨j - 1, by omega⟩
        obtain ⟨r, dr, srr, g1, g2, g3, _⟩ := h.at2 (j := j') (by omega)
        have := h.lo.next j' r p sr g1 hp hs
        obtain ⟨w', pw, _⟩ := dv_par dv (dv_root dv (by rw [qds_len]; exact hj) hp0)
        have hwl : w' < qr.length := by have := (par_lt pw).2.2; rw [qds_len] at this; exact this
        obtain ⟨_, dw, srw, _, hdw, hsw, _⟩ := h.at2 hwl
        have ed := h.lo.dep w' (j' + 1) dw d sr pw hdw h2 hs
        have hdw1 := (h.dpos w' dw srw hdw hsw).1
        have hww := wt_pos srw.1
        have hle : dw ≤ dr := by
          by_cases c2 : w' = j'
          · subst c2; rw [hdw] at g2; cases g2; omega
          · have an2 : An (qds qr) w' j' := ⟨by have := (par_lt pw).1; omega, by rw [qds_len]; omega, fun m a b => pw.1.2.2 m a (by omega)⟩
            have := h.dlt j' w' dw dr srr an2 hdw g2 g3
            have := wt_pos srr.1
            omega
        have hi' : i = r := by omega
        rw [s1, hi', h.dgp g1 g2]
        omega
  · obtain ⟨n, hn⟩ := List.mem_iff_getElem?.mp hr
    exact (row n r hn).2
end LW
end
end Va

namespace Va
open PySem PySem.Spec PyProof.Rows L2 Bg
section
variable {qr : List Sr} {g : Nat} {z : Str} {rows : List (Str × Int)} {pl : List Nat} {Dl : List Int}
theorem LW.an_back (h : LW qr g z rows pl Dl) : ∀ (x y px py : Nat), pl[x]? = some px → pl[y]? = some py → An (dps rows) py px → An (qds qr) y x := by
  intro x
  induction x using Nat.strongRecOn with
  | _ x ih =>
    intro y px py hx hy an
    have hxl : x < qr.length := by rw [← h.all]; exact (List.getElem?_eq_some_iff.mp hx).1
    obtain ⟨sr, hsr⟩ := get_lt hxl
    rcases Nat.eq_zero_or_pos x with rfl | hx0
    · have e := h.par_0 hx hsr
      have lt := an.1
      by_cases c : sr.1 = "//"
      · rw [if_pos c] at e
        rcases Nat.eq_zero_or_pos y with rfl | hy0
        · rw [hx] at hy; cases hy; omega
        · have := h.plt y 0 px py hy0 hx hy; omega
      · rw [if_neg c] at e; omega
    · obtain ⟨u, p, _⟩ := dv_par h.ok.dv (dv_root h.ok.dv (by rw [qds_len]; exact hxl) hx0)
      have hul : u < qr.length := by have := (par_lt p).2.2; rw [qds_len] at this; exact this
      obtain ⟨pu, hpu⟩ := get_lt (l := pl) (n := u) (by rw [h.all]; exact hul)
      have ps := h.par_s p hpu hx hsr
      have fin : (py = pu ∨ An (dps rows) py pu) → An (qds qr) y x := fun k => by
        rcases k with rfl | k
        · rw [h.inj hy hpu]; exact p.1
        · exact (ih u (par_lt p).1 y pu py hpu hy k).trans p.1
      by_cases c : sr.1 = "//"
      · rw [if_pos c] at ps
        rcases (ps.2.all py).mp an with e | e
        · have := h.gap hx hsr c hy
          have := ps.2.1.1
          omega
        · exact fin ((ps.1.all py).mp e)
      · rw [if_neg c] at ps
        exact fin ((ps.all py).mp an)
theorem LW.par_back (h : LW qr g z rows pl Dl) {x y px py : Nat} {sr : Sr} (hx : pl[x]? = some px) (hy : pl[y]? = some py) (hsr : qr[x]? = some sr) (pr : Par (dps rows) py px) : Par (qds qr) y x ∧ sr.1 = "/" := by
  have an := h.an_back x y px py hx hy pr.1
  have hxl : x < qr.length := (List.getElem?_eq_some_iff.mp hsr).1
  obtain ⟨u, p, _⟩ := dv_par h.ok.dv an
  have hul : u < qr.length := by have := (par_lt p).2.2; rw [qds_len] at this; exact this
  obtain ⟨pu, hpu⟩ := get_lt (l := pl) (n := u) (by rw [h.all]; exact hul)
  have ps := h.par_s p hpu hx hsr
  by_cases c : sr.1 = "//"
  · rw [if_pos c] at ps
    have e : py = px - 1 := ps.2.only pr
    have := h.gap hx hsr c hy
    have := ps.2.1.1
    omega
  · rw [if_neg c] at ps
    have e : py = pu := ps.only pr
    subst e
    rw [h.inj hy hpu]
    exact ⟨p, (h.ok.way sr (List.mem_of_getElem? hsr)).resolve_right c⟩
/-- the question itself has its match there -/
theorem LW.match_ (h : LW qr g z rows pl Dl) : MtD rows qr g none (fun j => pl.getD j 0) := by
  have at_ : ∀ j, j < qr.length → pl[j]? = some (pl.getD j 0) := fun j hj => by
    have e := List.getElem?_eq_getElem (l := pl) (i := j) (by rw [h.all]; exact hj)
    rw [e]; simp [List.getD, e]
  refine ⟨fun k hk => ?_, fun k hk => ?_, fun k hk hr => ?_, fun u k p => ?_⟩
  · rw [qds_len] at hk
    exact h.lo.lt k _ (at_ k hk)
  · rw [qds_len] at hk
    obtain ⟨p, d, sr, h1, h2, h3, h4, _⟩ := h.at2 hk
    have := at_ k hk
    rw [h1] at this
    cases this
    exact ⟨⟨_, sr, h4, h3, rfl⟩, fun _ z => nomatch z⟩
  · rw [qds_len] at hk
    have k0 : k = 0 := by
      rcases Nat.eq_zero_or_pos k with e | e
      · exact e
      · exact absurd (dv_root h.ok.dv (by rw [qds_len]; exact hk) e) (hr 0)
    subst k0
    intro sr hsr
    have e := h.par_0 (at_ 0 hk) hsr
    by_cases c : sr.1 = "//"
    · exact .inl c
    · rw [if_neg c] at e; exact .inr e
  · obtain ⟨l1, l2, l3⟩ := par_lt p
    rw [qds_len] at l2 l3
    intro sr hsr
    have ps := h.par_s p (at_ u l3) (at_ k l2) hsr
    by_cases c : sr.1 = "//"
    · rw [if_pos c] at ps
      exact ⟨(h.anp p.1 (at_ u l3) (at_ k l2)).1, .inl (by unfold wB; rw [c]; rfl)⟩
    · rw [if_neg c] at ps
      exact ⟨ps.1, .inr ps.2⟩
/-- who has a match there has a map -/
theorem LW.map_ {r1 : List Sr} {g1 : Nat} {f : Nat → Nat} (h : LW qr g z rows pl Dl) (ok1 : QuOk r1 g1) (hz : ∀ r ∈ r1, r.2.1 ≠ z) (mf : MtD rows r1 g1 none f) (hg : pl[g]? = some (f g1)) : ∃ im, IsMapN r1 g1 qr g im := by
  classical
  have ex : ∀ k, k < r1.length → ∃ x, pl[x]? = some (f k) := fun k hk => by
    obtain ⟨⟨r, sk, h1, h2, h3⟩, _⟩ := mf.like k (by rw [qds_len]; exact hk)
    have hl := (List.getElem?_eq_some_iff.mp h1).1
    obtain ⟨j, p, sr, hp, hs, hc⟩ := h.cover (f k) hl
    rcases hc with e | ⟨w, e⟩
    · exact ⟨j, by rw [e]; exact hp⟩
    · have hj : j < qr.length := (List.getElem?_eq_some_iff.mp hs).1
      obtain ⟨p', d, sr', q1, q2, q3, q4, q5, _⟩ := h.at2 hj
      rw [hp] at q1; cases q1
      rw [hs] at q3; cases q3
      have := (q5 w).2
      rw [show p - 1 = f k by omega, h1] at this
      cases this
      exact absurd h3.symm (hz sk (List.mem_of_getElem? h2))
  let hm : Nat → Nat := fun k => if c : k < r1.length then (ex k c).choose else 0
  have hat : ∀ k, k < r1.length → pl[hm k]? = some (f k) := fun k hk => by
    show pl[if c : k < r1.length then (ex k c).choose else 0]? = _
    rw [dif_pos hk]; exact (ex k hk).choose_spec
  have hlt : ∀ k, k < r1.length → hm k < qr.length := fun k hk => by rw [← h.all]; exact (List.getElem?_eq_some_iff.mp (hat k hk)).1
  refine ⟨(List.range r1.length).map hm, by simp, fun x hx => ?_, fun k hk x hx => ?_⟩
  · obtain ⟨k, hk, rfl⟩ := List.mem_map.mp hx
    exact hlt k (List.mem_range.mp hk)
  · have hk : k < r1.length := by simpa using hk
    rw [List.getElem?_map, List.getElem?_range hk] at hx
    have hx : hm k = x := Option.some.inj hx
    subst hx
    obtain ⟨⟨r, sk, h1, h2, h3⟩, _⟩ := mf.like k (by rw [qds_len]; exact hk)
    obtain ⟨p, d, sx, q1, q2, q3, q4, _⟩ := h.at2 (hlt k hk)
    rw [hat k hk] at q1; cases q1
    rw [h1] at q4; cases q4
    have hway1 := ok1.way sk (List.mem_of_getElem? h2)
    refine ⟨⟨⟨sk, sx, h2, q3, h3.symm⟩, fun e => ?_⟩, fun hr => ?_, fun u y p hy => ?_⟩
    · subst e
      exact h.inj (hat _ hk) hg
    · obtain ⟨s0, hs0⟩ := get_lt (l := qr) (n := 0) (by have := h.ok.one; omega)
      refine (goesN h2 hs0).mpr ?_
      rcases mf.top k (by rw [qds_len]; exact hk) hr sk h2 with w | w
      · exact .inl (by rw [w]; decide)
      · have hx0 : hm k = 0 := by
          rcases Nat.eq_zero_or_pos (hm k) with e | e
          · exact e
          · obtain ⟨p0, hp0⟩ := get_lt (l := pl) (n := 0) (by rw [h.all]; have := h.ok.one; omega)
            have := h.plt (hm k) 0 p0 (f k) e hp0 (hat k hk)
            omega
        have hk0 := hat k hk
        rw [hx0] at hk0
        have e := h.par_0 hk0 hs0
        right
        refine ⟨hx0, ?_⟩
        by_cases c : s0.1 = "//"
        · rw [if_pos c] at e; omega
        · exact (h.ok.way s0 (List.mem_of_getElem? hs0)).resolve_right c
    · obtain ⟨l1, l2, l3⟩ := par_lt p
      rw [qds_len] at l3
      rw [List.getElem?_map, List.getElem?_range l3] at hy
      have hy : hm u = y := Option.some.inj hy
      subst hy
      have bn := mf.goes u k p sk h2
      refine (goesS h2 q3).mpr ?_
      rcases hway1 with w | w
      · have pr : Par (dps rows) (f u) (f k) := ⟨bn.1, bn.2.resolve_left (by rw [w]; decide)⟩
        obtain ⟨a, b⟩ := h.par_back (hat k hk) (hat u l3) q3 pr
        exact .inl ⟨w, a, b⟩
      · exact .inr ⟨by rw [w]; decide, h.an_back _ _ _ _ (hat k hk) (hat u l3) bn.1⟩
end
end Va

namespace Va
open PySem PySem.Spec PyProof.Rows L2 Bg
/-! ### labels named anew -/
def nmR (rows : List Sr) (old new : Str) : List Sr := rows.map fun r => (r.1, (if r.2.1 = old then new else r.2.1), r.2.2)
theorem nmR_len (rows : List Sr) (old new : Str) : (nmR rows old new).length = rows.length := List.length_map ..
theorem nmR_qds (rows : List Sr) (old new : Str) : qds (nmR rows old new) = qds rows := by unfold qds nmR; rw [List.map_map]; rfl
theorem nmR_at {rows : List Sr} {old new : Str} {k : Nat} {r : Sr} (h : rows[k]? = some r) : (nmR rows old new)[k]? = some (r.1, (if r.2.1 = old then new else r.2.1), r.2.2) := by unfold nmR; rw [List.getElem?_map, h]; rfl
theorem nmR_ok {rows : List Sr} {g : Nat} {old new : Str} (ok : QuOk rows g) (hn : labelB new = true) : QuOk (nmR rows old new) g := by
  have mem : ∀ r ∈ nmR rows old new, ∃ r' ∈ rows, r = (r'.1, (if r'.2.1 = old then new else r'.2.1), r'.2.2) := fun r hr => by
    obtain ⟨r', h1, h2⟩ := List.mem_map.mp hr
    exact ⟨r', h1, h2.symm⟩
  refine ⟨by rw [nmR_len]; exact ok.one, by rw [nmR_len]; exact ok.most, fun r hr => ?_, fun r hr => ?_, by rw [nmR_qds]; exact ok.dv, fun r hr => ?_, by rw [nmR_len]; exact ok.goal⟩
  · obtain ⟨r', h1, rfl⟩ := mem r hr; exact ok.way r' h1
  · obtain ⟨r', h1, rfl⟩ := mem r hr
    show labelB (if r'.2.1 = old then new else r'.2.1) = true
    split
    · exact hn
    · exact ok.lab r' h1
  · obtain ⟨r', h1, rfl⟩ := mem r hr; exact ok.deep r' h1
theorem nmR_map {r1 r2 : List Sr} {g1 g2 : Nat} {old new : Str} {im : List Nat} (ok1 : QuOk r1 g1) (ok2 : QuOk r2 g2) (h1 : ∀ r ∈ r1, r.2.1 ≠ new) (h2 : ∀ r ∈ r2, r.2.1 ≠ new) : IsMapN (nmR r1 old new) g1 (nmR r2 old new) g2 im ↔ IsMapN r1 g1 r2 g2 im := by
  have two := ok2.one
  obtain ⟨r0, hr0⟩ := get_lt (l := r2) (n := 0) (by omega)
  have lk : ∀ k x, k < r1.length → x < r2.length → (Likes (nmR r1 old new) g1 (nmR r2 old new) g2 k x ↔ Likes r1 g1 r2 g2 k x) := fun k x hk hx => by
    obtain ⟨a, ha⟩ := get_lt hk
    obtain ⟨b, hb⟩ := get_lt hx
    have na := h1 a (List.mem_of_getElem? ha)
    have nb := h2 b (List.mem_of_getElem? hb)
    rw [likes_at (nmR_at ha) (nmR_at hb), likes_at ha hb]
    have : ((if a.2.1 = old then new else a.2.1) = (if b.2.1 = old then new else b.2.1)) ↔ a.2.1 = b.2.1 := by
      by_cases c : a.2.1 = old <;> by_cases d : b.2.1 = old
      · simp [c, d]
      · rw [if_pos c, if_neg d]
        exact ⟨fun e => absurd e.symm nb, fun e => absurd (e.symm.trans c) d⟩
      · rw [if_neg c, if_pos d]
        exact ⟨fun e => absurd e na, fun e => absurd (e.trans d) c⟩
      · rw [if_neg c, if_neg d]
    exact and_congr this Iff.rfl
  have gn : ∀ k x, k < r1.length → (GoesT (nmR r1 old new) (nmR r2 old new) k x none ↔ GoesT r1 r2 k x none) := fun k x hk => by
    obtain ⟨a, ha⟩ := get_lt hk
    rw [goesN (im := x) (nmR_at ha) (nmR_at hr0), goesN (im := x) ha hr0]
  have gs : ∀ k x u, k < r1.length → x < r2.length → (GoesT (nmR r1 old new) (nmR r2 old new) k x (some u) ↔ GoesT r1 r2 k x (some u)) := fun k x u hk hx => by
    obtain ⟨a, ha⟩ := get_lt hk
    obtain ⟨b, hb⟩ := get_lt hx
    rw [goesS (u := u) (nmR_at ha) (nmR_at hb), goesS (u := u) ha hb, nmR_qds]
  unfold IsMapN
  rw [nmR_len, nmR_len]
  refine and_congr_right fun hl => and_congr_right fun hb => ?_
  refine forall_congr' fun s => ?_
  refine forall_congr' fun hs => ?_
  unfold StepOk
  rw [nmR_qds]
  refine forall_congr' fun x => ?_
  refine forall_congr' fun hx => ?_
  have hxl : x < r2.length := hb x (List.mem_of_getElem? hx)
  rw [lk s x (by omega) hxl, gn s x (by omega)]
  refine and_congr_right fun _ => and_congr_right fun _ => ?_
  refine forall_congr' fun u => forall_congr' fun y => forall_congr' fun p => forall_congr' fun hy => ?_
  exact gs s x y (by omega) hxl
end Va

namespace Va
open PySem PySem.Spec PyProof.Rows L2 Bg
/-! ### a pair of an own list and another thing -/
theorem od_T2 {α β : Type} {o1 : α → OT} {o2 : β → OT} {e1 : α → D} {e2 : β → D} (h1 : ∀ a, (o1 a).d = e1 a) (h2 : ∀ b, (o2 b).d = e2 b) (p : α × β) : (OT.tup [o1 p.1, o2 p.2]).d = eT2 e1 e2 p := by
  show D.tup [(o1 p.1).d, (o2 p.2).d] = _
  rw [h1, h2]; rfl
def oT2 {α β : Type} (o1 : α → OT) (o2 : β → OT) (p : α × β) : OT := .tup [o1 p.1, o2 p.2]
section
variable {K : PySem.W.Frag} {EX : L2.St → XK} {ρ : List Sl} {α β γ R : Type} {F : Fr R}
theorem RepO.pair {O : AP} {H : Hp} {v : V} {e1 : α → D} {l : List α} {d : D} {as : List Addr} (h : RepO K O H v (.tup [.lst (l.map (oS e1)), .sh d]) as) : ∃ q p vs w, v = .ref q ∧ as = [q, p] ∧ H q = some (.tup [.ref p, w]) ∧ H p = some (.lst vs) ∧ RepL K O H vs (l.map e1) ∧ Rep K O H w d := by
  cases h with
  | tup hq r =>
    cases r with
    | cons r1 r2 =>
      cases r1 with
      | lst hp r1 =>
        obtain ⟨r3, rfl⟩ := repl_s r1
        cases r2 with
        | cons r4 r5 =>
          cases r5
          cases r4 with
          | sh r4 => exact ⟨_, _, _, _, rfl, rfl, hq, hp, r3, r4⟩
theorem rb_unpT {te : TE} {e1 : α → D} {e2 : β → D} {w : M (List α × β)} {u : TS} {k : List α × β → M R} (i j : Nat) (he : RG K EX ρ te (resO K (oT2 (oL (oS e1)) (oS e2))) w) (hk : ∀ a : List α × β, RB K EX F ((ρ.set i (.ow (.lst (a.1.map e1)))).set j (.sh (e2 a.2))) u (k a)) (hx : LeX F.ρx ρ := by first | exact lex_nil | (refine lex_le ?_; repeat (first | exact le_nil | refine le_cons ?_ | refine le_no ?_))) :
    RB K EX F ρ (tSeq (tAsg te (gTup K 2 (gCons (gName i) (gCons (gName j) gNil)))) u) (w >>= k) := fun B O H σ D E P PX hp nx bk ct rt xc =>
  he B O H σ E _ PX _ hp (fun a v H1 p1 ex ⟨as, r, nd, n⟩ => by
    obtain ⟨q, p, vs, x, rfl, rfl, hq, hpl, r1, r2⟩ := RepO.pair (show RepO K _ H1 v (.tup [.lst (a.1.map (oS e1)), .sh (e2 a.2)]) as from r)
    have np : H p = none := n p (List.mem_cons_of_mem _ List.mem_cons_self)
    have mo : ∀ b, Pl O p b → O b ∨ b ∈ [q, p] := fun b z => z.elim .inl fun (z : b = p) => .inr (by rw [z]; exact List.mem_cons_of_mem _ List.mem_cons_self)
    have E1 : En K B (Pl O p) H1 (σ.set i (some (.ref p))) (ρ.set i (.ow (.lst (a.1.map e1)))) := E.own i np (E.bfree np) ex ⟨p, vs, rfl, .inr rfl, E.bfree np, .inr (E.free np).2, hpl, r1.mono mo⟩ (by rw [hpl]; exact fun z => nomatch z)
    refine ⟨q, [.ref p, x], rfl, .inl (.inl hq), rfl, _, _, rfl, x, [], rfl, rfl, ?_⟩
    exact hk a B (Pl O p) H1 _ D (E1.set j (r2.mono mo)) P PX p1 nx bk ct rt xc) fun x cls d H' px e k => xc ρ O σ x cls d H' (E.ex e) hx px k
theorem rb_retT {te : TE} {e1 : α → D} {e2 : β → D} {l : List α} {w : M β} {u : TS} {nx bk ct : EndS R} {kr : List α × β → M R} {ρx : List Sl} (i : Nat) (he : RE K EX ρ te e2 w) (h : ρ[i]? = some (.ow (.lst (l.map e1))) := by rfl) (hx : LeX ρx ρ := by first | exact lex_nil | (refine lex_le ?_; repeat (first | exact le_nil | refine le_cons ?_ | refine le_no ?_))) :
    RB K EX ⟨nx, bk, ct, List α × β, resO K (oT2 (oL (oS e1)) (oS e2)), kr, ρx⟩ ρ (tSeq (tRet (tTup (tCons (tVar i) (tCons te tNil)))) u) (w >>= fun b => kr (l, b)) := fun B O H σ D E P PX hp nx bk ct rt xc => by
  obtain ⟨p, vs, hv, o, hF, _, hpl, r⟩ := E.at_ i _ h
  refine ⟨.ref p, hv, he B O H σ E _ PX _ hp (fun b v H1 p1 ex r1 => ⟨by rw [PySem.sizeLine_eq]; exact (by decide : 2 ≤ 16777216), fun q nq => ?_⟩) fun x cls d H' px e k => xc ρ O σ x cls d H' (E.ex e) hx px k⟩
  have E1 := E.ex ex
  have hp1 : H1 p = some (.lst vs) := ex.keep p _ (fun z => z) ns_lst hpl
  have hqp : p ≠ q := fun z => by rw [z, nq] at hp1; cases hp1
  have tr : ∀ b u, ¬ O b → ¬ isSrc u → H1 b = some u → upd H1 q (.tup [.ref p, v]) b = some u ∧ ¬ (B.O b ∨ b ∈ [q, p]) := fun b u n _ hb => by
    have hbq : b ≠ q := fun z => by rw [z, nq] at hb; cases hb
    refine ⟨by rw [upd_ne hbq]; exact hb, fun z => z.elim (fun z => n (E.sub b z)) fun z => ?_⟩
    rcases List.mem_cons.mp z with z | z
    · exact hbq z
    · exact n (List.mem_singleton.mp z ▸ o)
  refine rt (l, b) (.ref q) _ (E1.ext.trans (Ext.new nq)) ⟨[q, p], ?_, ?_, ?_⟩ p1
  · have z := RepO.tup (K := K) (O := fun b => B.O b ∨ b ∈ [q, p]) (H := upd H1 q (.tup [.ref p, v])) (a := q) upd_same (RepOL.cons (RepO.lst (a := p) (by rw [upd_ne hqp]; exact hp1) (repl_o ((r.ext ex fun _ z => z.elim).tr tr))) (RepOL.cons (RepO.sh (r1.tr tr)) RepOL.nil))
    exact z
  · exact List.nodup_cons.mpr ⟨fun z => hqp (List.mem_singleton.mp z).symm, List.nodup_cons.mpr ⟨(fun z => nomatch z), List.nodup_nil⟩⟩
  · intro b m
    rcases List.mem_cons.mp m with z | z
    · rw [z]; exact E1.bfree nq
    · rw [List.mem_singleton.mp z]; exact hF
/-- an own tree goes out as a shared one -/
theorem rb_retDE {oe : α → OT} {en : α → D} {x : α} {u : TS} {nx bk ct : EndS R} {kr : α → M R} {ρx : List Sl} (i : Nat) (hd : ∀ a, (oe a).d = en a) (h : ρ[i]? = some (.od (oe x)) := by rfl) : RB K EX ⟨nx, bk, ct, α, resE K en, kr, ρx⟩ ρ (tSeq (tRet (tVar i)) u) (kr x) := fun B O H σ D E P PX hp nx bk ct rt xc => by
  obtain ⟨v, as, hv, r, nd, k⟩ := E.at_ i _ h
  refine ⟨v, hv, rt x v H E.ext ?_ hp⟩
  show Rep K B.O H v (en x)
  rw [← hd x]
  exact r.frz (fun b z => E.sub b z) fun b m z => E.bdom b z (k b m).2.1
end
end Va

namespace Va
open PySem PySem.Spec PyProof.Rows L2 Bg
/-! ### rising lists -/
structure Rs (l : List Int) (S : Nat → Prop) : Prop where
  up : l.Pairwise (· < ·)
  mem : ∀ x : Int, x ∈ l ↔ ∃ i : Nat, x = (i : Int) ∧ S i
theorem rise_ext : ∀ {l m : List Int}, l.Pairwise (· < ·) → m.Pairwise (· < ·) → (∀ x, x ∈ l ↔ x ∈ m) → l = m
  | [], [], _, _, _ => rfl
  | [], b :: m, _, _, h => nomatch (h b).mpr List.mem_cons_self
  | a :: l, [], _, _, h => nomatch (h a).mp List.mem_cons_self
  | a :: l, b :: m, p, q, h => by
    obtain ⟨p1, p2⟩ := List.pairwise_cons.mp p
    obtain ⟨q1, q2⟩ := List.pairwise_cons.mp q
    have e : a = b := by
      rcases List.mem_cons.mp ((h a).mp List.mem_cons_self) with e | e
      · exact e
      · rcases List.mem_cons.mp ((h b).mpr List.mem_cons_self) with e' | e'
        · exact e'.symm
        · have := q1 a e; have := p1 b e'; omega
    subst e
    rw [rise_ext p2 q2 fun x => ?_]
    have hx := h x
    rw [List.mem_cons, List.mem_cons] at hx
    constructor
    · intro z
      have := p1 x z
      exact (hx.mp (.inr z)).resolve_left (by omega)
    · intro z
      have := q1 x z
      exact (hx.mpr (.inr z)).resolve_left (by omega)
theorem Rs.only {l m : List Int} {S T : Nat → Prop} (h : Rs l S) (g : Rs m T) (e : ∀ i, S i ↔ T i) : l = m := rise_ext h.up g.up fun x => by
  rw [h.mem, g.mem]; exact exists_congr fun i => and_congr_right fun _ => e i
theorem Rs.cg {l : List Int} {S T : Nat → Prop} (h : Rs l S) (e : ∀ i, S i ↔ T i) : Rs l T := ⟨h.up, fun x => by rw [h.mem]; exact exists_congr fun i => and_congr_right fun _ => e i⟩
theorem Rs.nat {l : List Int} {S : Nat → Prop} (h : Rs l S) (i : Nat) : (i : Int) ∈ l ↔ S i := by
  rw [h.mem]
  exact ⟨fun ⟨j, e, s⟩ => (show i = j by omega) ▸ s, fun s => ⟨i, rfl, s⟩⟩
theorem Rs.filter {l : List Int} {S T : Nat → Prop} {b : Int → Bool} (h : Rs l S) (e : ∀ i : Nat, S i → (b i = true ↔ T i)) (hT : ∀ i, T i → S i) : Rs (l.filter b) T := ⟨h.up.filter _, fun x => by
  rw [List.mem_filter, h.mem]
  constructor
  · rintro ⟨⟨i, rfl, s⟩, hb⟩
    exact ⟨i, rfl, (e i s).mp hb⟩
  · rintro ⟨i, rfl, t⟩
    exact ⟨⟨i, rfl, hT i t⟩, (e i (hT i t)).mpr t⟩⟩
theorem Rs.len {l : List Int} {S : Nat → Prop} (h : Rs l S) {n : Nat} (hS : ∀ i, S i → i < n) : l.length ≤ n := by
  have key : ∀ (l : List Int) (a : Int), l.Pairwise (· < ·) → (∀ x ∈ l, a ≤ x ∧ x < (n : Int)) → a ≤ n → (l.length : Int) ≤ n - a := by
    intro l
    induction l with
    | nil => intro a _ _ h; simp; omega
    | cons b l ih =>
      intro a p hb ha
      obtain ⟨p1, p2⟩ := List.pairwise_cons.mp p
      have h1 := hb b List.mem_cons_self
      have := ih (b + 1) p2 (fun x hx => ⟨by have := p1 x hx; omega, (hb x (List.mem_cons_of_mem _ hx)).2⟩) (by omega)
      rw [List.length_cons]
      omega
  have := key l 0 h.up (fun x hx => by obtain ⟨i, rfl, s⟩ := (h.mem x).mp hx; have := hS i s; omega) (by omega)
  omega
/-- sorted: rising, when no thing is twice there -/
theorem rise_sort {l ys : List Int} (hp : ys.Perm l) (hs : ys.Pairwise (· ≤ ·)) (hn : l.Nodup) : ys.Pairwise (· < ·) := by
  have hn' : ys.Nodup := hp.nodup_iff.mpr hn
  exact (hs.and hn').imp fun ⟨a, b⟩ => by have := b; omega
/-! ### what a rest tells from a part on -/
def Tld (dr : List (Str × Int)) (qr : List Sr) (g p x : Nat) : Prop := Ful (qds qr) dr.length (lkO dr qr g none) (gsD dr qr) (fun _ y => y = p) g x
/-! ### two questions laid together -/
def laidR (r1 : List Sr) (g1 e : Nat) (r2 : List Sr) : List Sr := r1.take (e + 1) ++ ((r2.drop 1).map fun r => (r.1, r.2.1, r.2.2 + dg (qds r1) g1 - 1)) ++ r1.drop (e + 1)
def laidG (g1 e g2 : Nat) : Nat := if g2 = 0 then g1 else e + g2
section
variable {r1 r2 : List Sr} {g1 e : Nat}
theorem laid_len (he : e < r1.length) (h2 : 1 ≤ r2.length) : (laidR r1 g1 e r2).length = r1.length + r2.length - 1 := by
  unfold laidR
  rw [List.length_append, List.length_append, List.length_map, List.length_take, List.length_drop, List.length_drop]
  omega
theorem laid_lo (he : e < r1.length) {k : Nat} (hk : k ≤ e) : (laidR r1 g1 e r2)[k]? = r1[k]? := by
  unfold laidR
  rw [List.append_assoc, List.getElem?_append_left (by rw [List.length_take]; omega), List.getElem?_take_of_lt (by omega)]
theorem laid_mid (he : e < r1.length) {k : Nat} (h0 : 0 < k) (hk : k < r2.length) : (laidR r1 g1 e r2)[e + k]? = r2[k]?.map fun r => (r.1, r.2.1, r.2.2 + dg (qds r1) g1 - 1) := by
  unfold laidR
  rw [List.append_assoc, List.getElem?_append_right (by rw [List.length_take]; omega), List.length_take, List.getElem?_append_left (by rw [List.length_map, List.length_drop]; omega), List.getElem?_map, List.getElem?_drop]
  rw [show 1 + (e + k - min (e + 1) r1.length) = k by omega]
theorem laid_hi (he : e < r1.length) {k : Nat} (hk : e < k) (h2 : 1 ≤ r2.length) : (laidR r1 g1 e r2)[k + (r2.length - 1)]? = r1[k]? := by
  unfold laidR
  rw [List.getElem?_append_right (by rw [List.length_append, List.length_take, List.length_map, List.length_drop]; omega), List.length_append, List.length_take, List.length_map, List.length_drop, List.getElem?_drop]
  rw [show e + 1 + (k + (r2.length - 1) - (min (e + 1) r1.length + (r2.length - 1))) = k by omega]
def j1 (e n2 k : Nat) : Nat := if k ≤ e then k else k + (n2 - 1)
def j2 (g1 e k : Nat) : Nat := if k = 0 then g1 else e + k
theorem laid_j1 (he : e < r1.length) (h2 : 1 ≤ r2.length) (k : Nat) : (laidR r1 g1 e r2)[j1 e r2.length k]? = r1[k]? := by
  unfold j1
  split
  · exact laid_lo he (by assumption)
  · exact laid_hi he (by omega) h2
theorem dgL1 (he : e < r1.length) (h2 : 1 ≤ r2.length) {k : Nat} (hk : k < r1.length) : dg (qds (laidR r1 g1 e r2)) (j1 e r2.length k) = dg (qds r1) k := by
  obtain ⟨r, hr⟩ := get_lt hk
  rw [qds_at hr, qds_at (by rw [laid_j1 he h2]; exact hr)]
theorem dgL2 (he : e < r1.length) {k : Nat} (h0 : 0 < k) (hk : k < r2.length) : dg (qds (laidR r1 g1 e r2)) (e + k) = dg (qds r2) k + dg (qds r1) g1 - 1 := by
  obtain ⟨r, hr⟩ := get_lt hk
  rw [qds_at hr, qds_at (r := (r.1, r.2.1, r.2.2 + dg (qds r1) g1 - 1)) (by rw [laid_mid he h0 hk, hr]; rfl)]
theorem laid_in (he : e < r1.length) (h2 : 1 ≤ r2.length) {j : Nat} (hj : j < (laidR r1 g1 e r2).length) : (∃ k, k < r1.length ∧ j = j1 e r2.length k) ∨ ∃ k, 0 < k ∧ k < r2.length ∧ j = e + k := by
  rw [laid_len he h2] at hj
  by_cases c : j ≤ e
  · exact .inl ⟨j, by omega, by unfold j1; rw [if_pos c]⟩
  · by_cases d : j < e + r2.length
    · exact .inr ⟨j - e, by omega, by omega, by omega⟩
    · exact .inl ⟨j - (r2.length - 1), by omega, by unfold j1; rw [if_neg (by omega)]; omega⟩
variable (d1 : Dv (qds r1)) (d2 : Dv (qds r2)) (ep : EndP (qds r1) g1 e) (h2 : 1 ≤ r2.length)
theorem ends_lt (ep : EndP (qds r1) g1 e) : e < r1.length ∧ g1 ≤ e := ⟨by have := ep.lt; rw [qds_len] at this; exact this, ep.le⟩
theorem ends_ge (ep : EndP (qds r1) g1 e) {j : Nat} (h1 : g1 ≤ j) (h2 : j ≤ e) : dg (qds r1) g1 ≤ dg (qds r1) j := by
  by_cases c : g1 = j
  · rw [c]; exact Int.le_refl _
  · exact Int.le_of_lt (ep.in_ j (by omega) h2)
theorem dv_two (d2 : Dv (qds r2)) {k : Nat} (h0 : 0 < k) (hk : k < r2.length) : 2 ≤ dg (qds r2) k := by
  obtain ⟨i, rfl⟩ : ∃ i, k = i + 1 := ⟨k - 1, by omega⟩
  exact (d2.two i (by rw [qds_len]; exact hk)).1
include d2 ep h2 in
theorem dgL2' {k : Nat} (hk : k < r2.length) : dg (qds (laidR r1 g1 e r2)) (j2 g1 e k) = dg (qds r2) k + dg (qds r1) g1 - 1 := by
  obtain ⟨he, hg⟩ := ends_lt ep
  unfold j2
  split
  · rename_i c
    subst c
    have := dgL1 (g1 := g1) he h2 (k := g1) (by omega)
    unfold j1 at this
    rw [if_pos hg] at this
    rw [this, d2.one]
    omega
  · exact dgL2 he (by omega) hk
include d1 d2 ep h2 in
theorem laid_dv : Dv (qds (laidR r1 g1 e r2)) := by
  obtain ⟨he, hg⟩ := ends_lt ep
  have z1 : ∀ k, k ≤ e → dg (qds (laidR r1 g1 e r2)) k = dg (qds r1) k := fun k hk => by
    have := dgL1 (g1 := g1) he h2 (k := k) (by omega)
    unfold j1 at this
    rwa [if_pos hk] at this
  have z3 : ∀ k, e < k → k < r1.length → dg (qds (laidR r1 g1 e r2)) (k + (r2.length - 1)) = dg (qds r1) k := fun k hk hl => by
    have := dgL1 (g1 := g1) he h2 (k := k) hl
    unfold j1 at this
    rwa [if_neg (by omega)] at this
  have z2 : ∀ k, 0 < k → k < r2.length → dg (qds (laidR r1 g1 e r2)) (e + k) = dg (qds r2) k + dg (qds r1) g1 - 1 := fun k h0 hk => dgL2 he h0 hk
  have t1 : ∀ i, i + 1 < r1.length → 2 ≤ dg (qds r1) (i + 1) ∧ dg (qds r1) (i + 1) ≤ dg (qds r1) i + 1 := fun i hi => d1.two i (by rw [qds_len]; exact hi)
  have t2 : ∀ i, i + 1 < r2.length → 2 ≤ dg (qds r2) (i + 1) ∧ dg (qds r2) (i + 1) ≤ dg (qds r2) i + 1 := fun i hi => d2.two i (by rw [qds_len]; exact hi)
  have hd := d1.pos g1 (by rw [qds_len]; omega)
  have hee := ends_ge ep hg (Nat.le_refl _)
  refine ⟨by rw [z1 0 (by omega)]; exact d1.one, fun j hj => ?_⟩
  rw [qds_len, laid_len he h2] at hj
  by_cases c : j + 1 ≤ e
  · rw [z1 _ c, z1 j (by omega)]
    exact t1 j (by omega)
  · by_cases d : j + 1 < e + r2.length
    · obtain ⟨k, rfl⟩ : ∃ k, j = e + k := ⟨j - e, by omega⟩
      rw [show e + k + 1 = e + (k + 1) by omega, z2 (k + 1) (by omega) (by omega)]
      have q := t2 k (by omega)
      by_cases k0 : k = 0
      · subst k0
        simp only [Nat.add_zero, Nat.zero_add] at q ⊢
        rw [z1 e (Nat.le_refl _)]
        rw [d2.one] at q
        omega
      · rw [z2 k (by omega) (by omega)]
        omega
    · obtain ⟨k, rfl⟩ : ∃ k, j = e + k + (r2.length - 1) := ⟨j - e - (r2.length - 1), by omega⟩
      have q := t1 (e + k) (by omega)
      rw [show e + k + (r2.length - 1) + 1 = (e + k + 1) + (r2.length - 1) by omega, z3 (e + k + 1) (by omega) (by omega)]
      by_cases k0 : k = 0
      · subst k0
        simp only [Nat.add_zero] at q ⊢
        have out := ep.out (by rw [qds_len]; omega)
        by_cases c2 : r2.length = 1
        · rw [c2]
          simp only [Nat.sub_self, Nat.add_zero]
          rw [z1 e (Nat.le_refl _)]
          exact q
        · rw [z2 (r2.length - 1) (by omega) (by omega)]
          have := dv_two d2 (k := r2.length - 1) (by omega) (by omega)
          omega
      · rw [z3 (e + k) (by omega) (by omega)]
        exact q
theorem j1_lt {n u k : Nat} (h : u < k) : j1 e n u < j1 e n k := by
  unfold j1
  split <;> split <;> omega
theorem j1_of_lt {n u k : Nat} (h : j1 e n u < j1 e n k) : u < k := by
  unfold j1 at h
  split at h <;> split at h <;> omega
include d2 ep h2 in
theorem laid_an1 {u k : Nat} (a : An (qds r1) u k) : An (qds (laidR r1 g1 e r2)) (j1 e r2.length u) (j1 e r2.length k) := by
  obtain ⟨he, hg⟩ := ends_lt ep
  have hk : k < r1.length := by have := a.2.1; rw [qds_len] at this; exact this
  have huk := a.1
  have hkl : j1 e r2.length k < (laidR r1 g1 e r2).length := by
    rw [laid_len he h2]
    unfold j1
    split <;> omega
  refine ⟨j1_lt huk, by rw [qds_len]; exact hkl, fun j h1 h3 => ?_⟩
  rw [dgL1 he h2 (by omega)]
  rcases laid_in he h2 (Nat.lt_of_le_of_lt h3 hkl) with ⟨m, hm, rfl⟩ | ⟨m, m0, hm, rfl⟩
  · rw [dgL1 he h2 hm]
    refine a.2.2 m (j1_of_lt h1) ?_
    rcases Nat.lt_or_ge k m with c | c
    · have := j1_lt (e := e) (n := r2.length) c; omega
    · exact c
  · have hu : u ≤ e := by
      unfold j1 at h1
      split at h1 <;> omega
    have hke : e < k := by
      unfold j1 at h3
      split at h3 <;> omega
    have ho := ep.out (by rw [qds_len]; omega)
    have hx := a.2.2 (e + 1) (by omega) (by omega)
    rw [dgL2 he m0 hm]
    have := dv_two d2 m0 hm
    rcases Nat.lt_or_ge u g1 with c | c
    · have := a.2.2 g1 c (by omega)
      omega
    · have := ends_ge ep c hu
      omega
include d2 ep h2 in
theorem laid_an2 {u k : Nat} (a : An (qds r2) u k) : An (qds (laidR r1 g1 e r2)) (j2 g1 e u) (j2 g1 e k) := by
  obtain ⟨he, hg⟩ := ends_lt ep
  have hk : k < r2.length := by have := a.2.1; rw [qds_len] at this; exact this
  have huk := a.1
  have ek : j2 g1 e k = e + k := by unfold j2; rw [if_neg (by omega)]
  have hkl : e + k < (laidR r1 g1 e r2).length := by rw [laid_len he h2]; omega
  have hul : j2 g1 e u ≤ e + u := by unfold j2; split <;> omega
  refine ⟨by rw [ek]; omega, by rw [ek, qds_len]; exact hkl, fun j h1 h3 => ?_⟩
  rw [ek] at h3
  rw [dgL2' d2 ep h2 (by omega)]
  by_cases c : j ≤ e
  · have hu : u = 0 := by
      unfold j2 at h1
      split at h1
      · assumption
      · omega
    subst hu
    have hj : g1 < j := h1
    have z := dgL1 (g1 := g1) he h2 (k := j) (by omega)
    unfold j1 at z
    rw [if_pos c] at z
    rw [z, d2.one]
    have := ep.in_ j hj c
    omega
  · obtain ⟨m, rfl⟩ : ∃ m, j = e + m := ⟨j - e, by omega⟩
    rw [dgL2 he (by omega) (by omega)]
    have hum : u < m := by
      unfold j2 at h1
      split at h1
      · omega
      · omega
    have := a.2.2 m hum (by omega)
    omega
include d2 ep h2 in
theorem laid_par1 {u k : Nat} (p : Par (qds r1) u k) : Par (qds (laidR r1 g1 e r2)) (j1 e r2.length u) (j1 e r2.length k) := by
  obtain ⟨he, hg⟩ := ends_lt ep
  obtain ⟨lt1, lt2, lt3⟩ := par_lt p
  rw [qds_len] at lt2 lt3
  refine ⟨laid_an1 d2 ep h2 p.1, ?_⟩
  rw [dgL1 he h2 lt3, dgL1 he h2 lt2]
  exact p.2
include d2 ep h2 in
theorem laid_par2 {u k : Nat} (p : Par (qds r2) u k) : Par (qds (laidR r1 g1 e r2)) (j2 g1 e u) (j2 g1 e k) := by
  obtain ⟨lt1, lt2, lt3⟩ := par_lt p
  rw [qds_len] at lt2 lt3
  refine ⟨laid_an2 d2 ep h2 p.1, ?_⟩
  rw [dgL2' d2 ep h2 lt3, dgL2' d2 ep h2 lt2]
  have := p.2
  omega
end
/-- where both laid together stand: the rest from where the view stands -/
theorem laid_ful {dr : List (Str × Int)} {r1 r2 : List Sr} {g1 g2 e : Nat} (d1 : Dv (qds r1)) (d2 : Dv (qds r2)) (ep : EndP (qds r1) g1 e) (hg2 : g2 < r2.length) {a b : Sr} (ha : r2[0]? = some a) (hb : r1[g1]? = some b) (hl : a.2.1 = b.2.1) (x : Nat) :
    FuD dr (laidR r1 g1 e r2) (laidG g1 e g2) none (laidG g1 e g2) x ↔ ∃ p, FuD dr r1 g1 none g1 p ∧ Tld dr r2 g2 p x := by
  have h2 : 1 ≤ r2.length := by omega
  obtain ⟨he, hg⟩ := ends_lt ep
  have eG : laidG g1 e g2 = j2 g1 e g2 := rfl
  have none_ : ∀ (qr : List Sr) (g k p : Nat), lkO dr qr g none k p ↔ lkD dr qr k p := fun qr g k p => ⟨fun z => z.1, fun z => ⟨z, fun _ z => nomatch z⟩⟩
  have len1 : ∀ {k}, k < r1.length → j1 e r2.length k < (laidR r1 g1 e r2).length := fun {k} hk => by
    rw [laid_len he h2]; unfold j1; split <;> omega
  have len2 : ∀ {k}, k < r2.length → j2 g1 e k < (laidR r1 g1 e r2).length := fun {k} hk => by
    rw [laid_len he h2]; unfold j2; split <;> omega
  have row2 : ∀ {k} {r : Sr}, 0 < k → r2[k]? = some r → (laidR r1 g1 e r2)[j2 g1 e k]? = some (r.1, r.2.1, r.2.2 + dg (qds r1) g1 - 1) := fun {k r} h0 hr => by
    have hk := (List.getElem?_eq_some_iff.mp hr).1
    unfold j2
    rw [if_neg (by omega), laid_mid he h0 hk, hr]; rfl
  have root : ∀ {qr : List Sr} {k : Nat}, Dv (qds qr) → k < qr.length → (∀ u, ¬ An (qds qr) u k) → k = 0 := fun {qr k} dv hk hr => by
    by_cases z : 0 < k
    · exact absurd (dv_root dv (by rw [qds_len]; exact hk) z) (hr 0)
    · omega
  constructor
  · rintro ⟨f, m, hf⟩
    refine ⟨f g1, ⟨fun k => f (j1 e r2.length k), ⟨fun k hk => ?_, fun k hk => ?_, fun k hk hr => ?_, fun u k p => ?_⟩, ?_⟩, fun k => f (j2 g1 e k), ⟨fun k hk => ?_, fun k hk => ?_, fun k hk hr => ?_, fun u k p => ?_⟩, ?_⟩
    · rw [qds_len] at hk; exact m.lt _ (by rw [qds_len]; exact len1 hk)
    · rw [qds_len] at hk
      obtain ⟨⟨r, sr, q1, q2, q3⟩, _⟩ := m.like _ (by rw [qds_len]; exact len1 hk)
      rw [laid_j1 he h2] at q2
      exact (none_ ..).mpr ⟨r, sr, q1, q2, q3⟩
    · rw [qds_len] at hk
      have k0 := root d1 hk hr
      subst k0
      have z0 : j1 e r2.length 0 = 0 := by unfold j1; rw [if_pos (by omega)]
      intro sr hsr
      rw [z0]
      exact m.top 0 (by rw [qds_len, laid_len he h2]; omega) (fun u an => by have := an.1; omega) sr (by rw [laid_lo he (by omega)]; exact hsr)
    · intro sr hsr
      exact m.goes _ _ (laid_par1 d2 ep h2 p) sr (by rw [laid_j1 he h2]; exact hsr)
    · show f (j1 e r2.length g1) = f g1
      unfold j1; rw [if_pos hg]
    · rw [qds_len] at hk; exact m.lt _ (by rw [qds_len]; exact len2 hk)
    · rw [qds_len] at hk
      obtain ⟨⟨r, sr, q1, q2, q3⟩, _⟩ := m.like _ (by rw [qds_len]; exact len2 hk)
      obtain ⟨s2, hs2⟩ := get_lt hk
      refine (none_ ..).mpr ⟨r, s2, q1, hs2, ?_⟩
      by_cases k0 : k = 0
      · subst k0
        have q2 : (laidR r1 g1 e r2)[g1]? = some sr := q2
        rw [laid_lo he hg, hb] at q2
        cases q2
        rw [ha] at hs2
        cases hs2
        rw [q3, hl]
      · rw [row2 (by omega) hs2] at q2
        cases q2
        exact q3
    · rw [qds_len] at hk
      have k0 := root d2 hk hr
      subst k0
      rfl
    · intro sr hsr
      have hk0 : 0 < k := by have := (par_lt p).1; omega
      exact m.goes _ _ (laid_par2 d2 ep h2 p) (sr.1, sr.2.1, sr.2.2 + dg (qds r1) g1 - 1) (row2 hk0 hsr)
    · exact hf
  · rintro ⟨p, ⟨f1, m1, rfl⟩, f2, m2, hf⟩
    have f20 : f2 0 = f1 g1 := m2.top 0 (by rw [qds_len]; omega) fun u an => by have := an.1; omega
    let f : Nat → Nat := fun j => if j ≤ e then f1 j else if j < e + r2.length then f2 (j - e) else f1 (j - (r2.length - 1))
    have fj1 : ∀ k, f (j1 e r2.length k) = f1 k := fun k => by
      show (if j1 e r2.length k ≤ e then _ else _) = _
      unfold j1
      by_cases c : k ≤ e
      · simp only [if_pos c]
      · rw [if_neg c, if_neg (by omega), if_neg (by omega)]
        congr 1
        omega
    have fmid : ∀ k, 0 < k → k < r2.length → f (e + k) = f2 k := fun k h0 hk => by
      show (if e + k ≤ e then _ else _) = _
      rw [if_neg (by omega), if_pos (by omega)]
      congr 1
      omega
    have fj2 : ∀ k, k < r2.length → f (j2 g1 e k) = f2 k := fun k hk => by
      unfold j2
      split
      · rename_i c
        subst c
        rw [f20]
        show (if g1 ≤ e then _ else _) = _
        rw [if_pos hg]
      · exact fmid k (by omega) hk
    refine ⟨f, ⟨fun j hj => ?_, fun j hj => ?_, fun j hj hr => ?_, fun u j p => ?_⟩, ?_⟩
    · rw [qds_len] at hj
      rcases laid_in he h2 hj with ⟨k, hk, rfl⟩ | ⟨k, k0, hk, rfl⟩
      · rw [fj1]; exact m1.lt k (by rw [qds_len]; exact hk)
      · rw [fmid k k0 hk]; exact m2.lt k (by rw [qds_len]; exact hk)
    · rw [qds_len] at hj
      rcases laid_in he h2 hj with ⟨k, hk, rfl⟩ | ⟨k, k0, hk, rfl⟩
      · rw [fj1]
        obtain ⟨⟨r, sr, q1, q2, q3⟩, _⟩ := m1.like k (by rw [qds_len]; exact hk)
        exact (none_ ..).mpr ⟨r, sr, q1, by rw [laid_j1 he h2]; exact q2, q3⟩
      · rw [fmid k k0 hk]
        obtain ⟨⟨r, sr, q1, q2, q3⟩, _⟩ := m2.like k (by rw [qds_len]; exact hk)
        exact (none_ ..).mpr ⟨r, (sr.1, sr.2.1, sr.2.2 + dg (qds r1) g1 - 1), q1, by rw [laid_mid he k0 hk, q2]; rfl, q3⟩
    · rw [qds_len] at hj
      have j0 := root (laid_dv d1 d2 ep h2) hj hr
      subst j0
      intro sr hsr
      rw [laid_lo he (by omega)] at hsr
      have : f 0 = f1 0 := by show (if 0 ≤ e then _ else _) = _; rw [if_pos (by omega)]
      rw [this]
      exact m1.top 0 (by rw [qds_len]; omega) (fun u an => by have := an.1; omega) sr hsr
    · obtain ⟨lt1, lt2, lt3⟩ := par_lt p
      rw [qds_len] at lt2 lt3
      intro sr hsr
      rcases laid_in he h2 lt2 with ⟨k, hk, rfl⟩ | ⟨k, k0, hk, rfl⟩
      · have k0 : 0 < k := by
          rcases Nat.eq_zero_or_pos k with c | c
          · subst c
            unfold j1 at lt1
            rw [if_pos (by omega)] at lt1
            omega
          · exact c
        obtain ⟨w, pw, _⟩ := dv_par d1 (dv_root d1 (by rw [qds_len]; exact hk) k0)
        have := p.only (laid_par1 d2 ep h2 pw)
        subst this
        rw [fj1, fj1]
        rw [laid_j1 he h2] at hsr
        exact m1.goes w k pw sr hsr
      · obtain ⟨w, pw, _⟩ := dv_par d2 (dv_root d2 (by rw [qds_len]; exact hk) k0)
        have e2 : j2 g1 e k = e + k := by unfold j2; rw [if_neg (by omega)]
        have pp := laid_par2 d2 ep h2 pw
        rw [e2] at pp
        have := p.only pp
        subst this
        have hw := (par_lt pw).2.2
        rw [qds_len] at hw
        rw [fmid k k0 hk, fj2 w hw]
        obtain ⟨s2, hs2⟩ := get_lt hk
        rw [laid_mid he k0 hk, hs2] at hsr
        cases hsr
        exact m2.goes w k pw s2 hs2
    · rw [eG, fj2 g2 hg2]; exact hf
theorem laid_ok {r1 r2 : List Sr} {g1 g2 e : Nat} (ok1 : QuOk r1 g1) (ok2 : QuOk r2 g2) (ep : EndP (qds r1) g1 e) (hn : r1.length + r2.length ≤ 101) {m1 m2 : Int} (hd1 : ∀ r ∈ r1, r.2.2 ≤ m1) (hd2 : ∀ r ∈ r2, r.2.2 ≤ m2) (hm : m1 + m2 ≤ 31) : QuOk (laidR r1 g1 e r2) (laidG g1 e g2) := by
  obtain ⟨he, hg⟩ := ends_lt ep
  have h2 := ok2.one
  have hgo := ok2.goal
  have mem : ∀ r ∈ laidR r1 g1 e r2, r ∈ r1 ∨ ∃ r' ∈ r2, r = (r'.1, r'.2.1, r'.2.2 + dg (qds r1) g1 - 1) := fun r hr => by
    unfold laidR at hr
    rcases List.mem_append.mp hr with hr | hr
    · rcases List.mem_append.mp hr with hr | hr
      · exact .inl (List.mem_of_mem_take hr)
      · obtain ⟨r', h1, h2⟩ := List.mem_map.mp hr
        exact .inr ⟨r', List.mem_of_mem_drop h1, h2.symm⟩
    · exact .inl (List.mem_of_mem_drop hr)
  obtain ⟨b, hb⟩ := get_lt (l := r1) (n := g1) (by omega)
  have hbd := hd1 b (List.mem_of_getElem? hb)
  rw [← qds_at hb] at hbd
  refine ⟨by rw [laid_len he h2]; omega, by rw [laid_len he h2]; omega, fun r hr => ?_, fun r hr => ?_, laid_dv ok1.dv ok2.dv ep h2, fun r hr => ?_, ?_⟩
  · rcases mem r hr with h | ⟨r', h, rfl⟩
    · exact ok1.way r h
    · exact ok2.way r' h
  · rcases mem r hr with h | ⟨r', h, rfl⟩
    · exact ok1.lab r h
    · exact ok2.lab r' h
  · rcases mem r hr with h | ⟨r', h, rfl⟩
    · exact ok1.deep r h
    · have := hd2 r' h
      show r'.2.2 + dg (qds r1) g1 - 1 ≤ 30
      omega
  · rw [laid_len he h2]; unfold laidG; split <;> omega
end Va

namespace Va
open PySem PySem.Spec PyProof.Rows L2 Bg
/-! ### dicts as sets of parts -/
theorem nd_len : ∀ (n : Nat) {l : List Int}, l.Nodup → (∀ x ∈ l, 0 ≤ x ∧ x < (n : Int)) → l.length ≤ n
  | 0, l, _, h => by
    cases l with
    | nil => exact Nat.le_refl _
    | cons a l => have := h a List.mem_cons_self; omega
  | n + 1, l, nd, h => by
    have := nd_len n (l := l.erase (n : Int)) (nd.erase _) fun x hx => by
      have h1 := (nd.mem_erase_iff).mp hx
      have := h x h1.2
      have := h1.1
      omega
    rw [List.length_erase] at this
    split at this <;> omega
structure KS (l : List (Int × Bool)) (S : Nat → Prop) : Prop where
  nd : (l.map (·.1)).Nodup
  mem : ∀ x : Int, x ∈ l.map (·.1) ↔ ∃ i : Nat, x = (i : Int) ∧ S i
theorem KS.nil {S : Nat → Prop} (h : ∀ i, ¬ S i) : KS [] S := ⟨List.nodup_nil, fun x => ⟨fun z => (nomatch z), fun ⟨i, _, s⟩ => absurd s (h i)⟩⟩
theorem KS.cg {l : List (Int × Bool)} {S T : Nat → Prop} (h : KS l S) (e : ∀ i, S i ↔ T i) : KS l T := ⟨h.nd, fun x => by rw [h.mem]; exact exists_congr fun i => and_congr_right fun _ => e i⟩
theorem KS.nat {l : List (Int × Bool)} {S : Nat → Prop} (h : KS l S) (i : Nat) : (i : Int) ∈ l.map (·.1) ↔ S i := by
  rw [h.mem]
  exact ⟨fun ⟨j, e, s⟩ => (show i = j by omega) ▸ s, fun s => ⟨i, rfl, s⟩⟩
theorem KS.has {l : List (Int × Bool)} {S : Nat → Prop} (h : KS l S) (i : Nat) : (getL l (i : Int)).isSome = true ↔ S i := by rw [getL_has, h.nat]
theorem KS.put {l : List (Int × Bool)} {S : Nat → Prop} (h : KS l S) (i : Nat) {b : Bool} : KS (putL l (i : Int) b) (fun j => S j ∨ j = i) := by
  refine ⟨?_, fun x => ?_⟩
  · rw [putL_keys]
    split
    · exact h.nd
    · rename_i c
      exact List.nodup_append.mpr ⟨h.nd, List.nodup_cons.mpr ⟨(fun z => nomatch z), List.nodup_nil⟩, fun a ha b hb e => c (by rw [← List.mem_singleton.mp hb, ← e]; exact ha)⟩
  · rw [putL_keys]
    split
    · rename_i c
      rw [h.mem]
      constructor
      · rintro ⟨j, e, s⟩; exact ⟨j, e, .inl s⟩
      · rintro ⟨j, e, s | s⟩
        · exact ⟨j, e, s⟩
        · subst s; exact ⟨j, e, (h.nat j).mp c⟩
    · rw [List.mem_append, h.mem, List.mem_singleton]
      constructor
      · rintro (⟨j, e, s⟩ | e)
        · exact ⟨j, e, .inl s⟩
        · exact ⟨i, e, .inr rfl⟩
      · rintro ⟨j, e, s | s⟩
        · exact .inl ⟨j, e, s⟩
        · subst s; exact .inr e
theorem KS.len {l : List (Int × Bool)} {S : Nat → Prop} (h : KS l S) {n : Nat} (hS : ∀ i, S i → i < n) : l.length ≤ n := by
  have := nd_len n h.nd fun x hx => by obtain ⟨i, rfl, s⟩ := (h.mem x).mp hx; have := hS i s; omega
  rwa [List.length_map] at this
theorem KS.rs {l : List (Int × Bool)} {S : Nat → Prop} {ys : List Int} (h : KS l S) (hp : ys.Perm (l.map (·.1))) (hs : ys.Pairwise (· ≤ ·)) : Rs ys S := ⟨rise_sort hp hs h.nd, fun x => by rw [hp.mem_iff, h.mem]⟩
theorem bn_lt {ds : List Int} {w : Bool} {u k : Nat} (h : Bn ds w u k) : u < k ∧ k < ds.length ∧ u < ds.length := ⟨h.1.1, h.1.2.1, Nat.lt_trans h.1.1 h.1.2.1⟩
theorem bn_par {ds : List Int} {u k : Nat} : Bn ds false u k ↔ Par ds u k := ⟨fun h => ⟨h.1, h.2.resolve_left (fun z => nomatch z)⟩, fun h => ⟨h.1, .inr h.2⟩⟩
theorem bn_an {ds : List Int} {u k : Nat} : Bn ds true u k ↔ An ds u k := ⟨fun h => h.1, fun h => ⟨h, .inl rfl⟩⟩
/-- one walks up from p, by the way w; o is next -/
structure UW (ds : List Int) (w : Bool) (p : Nat) (A : Nat → Prop) (o : Option Int) (l : List (Int × Bool)) : Prop where
  at_ : ∀ u, o = some u → ∃ n : Nat, u = (n : Int) ∧ Bn ds w n p
  ks : KS l (fun i => A i ∨ (Bn ds w i p ∧ ∀ n : Nat, o = some (n : Int) → ¬ (i = n ∨ (w = true ∧ An ds i n))))
section
variable {ds : List Int} {w : Bool} {p : Nat} {A : Nat → Prop} {o : Option Int} {l : List (Int × Bool)}
theorem UW.start (h : KS l A) (u : UpAt ds p o) : UW ds w p A o l := by
  cases o with
  | none => exact ⟨fun u z => (nomatch z), h.cg fun i => ⟨.inl, fun z => z.elim id fun z => absurd z.1.1 (u i)⟩⟩
  | some x =>
    obtain ⟨n, rfl, pr⟩ := u
    refine ⟨fun u z => ?_, h.cg fun i => ⟨.inl, fun z => z.elim id fun z => ?_⟩⟩
    · cases z
      exact ⟨n, rfl, pr.1, .inr pr.2⟩
    · exfalso
      refine z.2 n rfl ?_
      rcases (pr.all i).mp z.1.1 with e | a
      · exact .inl e
      · refine .inr ⟨?_, a⟩
        rcases z.1.2 with c | c
        · exact c
        · have := a.dlt; have := pr.2; omega
theorem UW.fin (h : UW ds w p A none l) : KS l (fun i => A i ∨ Bn ds w i p) := h.ks.cg fun i => or_congr_right ⟨fun z => z.1, fun z => ⟨z, fun _ e => nomatch e⟩⟩
theorem UW.stop {n : Nat} (h : UW ds w p A (some (n : Int)) l) (hm : (getL l (n : Int)).isSome = true) (hA : w = true → ∀ i j, A j → An ds i j → A i) : KS l (fun i => A i ∨ Bn ds w i p) := by
  have an : A n := by
    rcases (h.ks.has n).mp hm with z | z
    · exact z
    · exact absurd (.inl rfl) (z.2 n rfl)
  refine h.ks.cg fun i => ⟨fun z => z.imp id fun z => z.1, fun z => z.elim .inl fun b => ?_⟩
  by_cases c : i = n ∨ (w = true ∧ An ds i n)
  · rcases c with c | ⟨c1, c2⟩
    · exact .inl (c ▸ an)
    · exact .inl (hA c1 i n an c2)
  · exact .inr ⟨b, fun m e => by cases (show n = m by injection e with e; omega); exact c⟩
theorem UW.stepS {n : Nat} {b : Bool} (h : UW ds false p A (some (n : Int)) l) : UW ds false p A none (putL l (n : Int) b) := by
  obtain ⟨m, e, bn⟩ := h.at_ _ rfl
  have e : n = m := by omega
  subst e
  refine ⟨fun u z => (nomatch z), (h.ks.put n).cg fun i => ⟨?_, ?_⟩⟩
  · rintro ((z | z) | rfl)
    · exact .inl z
    · exact .inr ⟨z.1, fun _ e => nomatch e⟩
    · exact .inr ⟨bn, fun _ e => nomatch e⟩
  · rintro (z | z)
    · exact .inl (.inl z)
    · exact .inr ((bn_par.mp bn).only (bn_par.mp z.1))
theorem UW.step {n : Nat} {b : Bool} {o2 : Option Int} (h : UW ds true p A (some (n : Int)) l) (u : UpAt ds n o2) : UW ds true p A o2 (putL l (n : Int) b) := by
  obtain ⟨m, e, bn⟩ := h.at_ _ rfl
  have e : n = m := by omega
  subst e
  refine ⟨fun x z => ?_, (h.ks.put n).cg fun i => ⟨?_, ?_⟩⟩
  · subst z
    obtain ⟨m, rfl, pr⟩ := u
    exact ⟨m, rfl, bn_an.mpr (pr.1.trans bn.1)⟩
  · rintro ((z | z) | rfl)
    · exact .inl z
    · refine .inr ⟨z.1, fun m e c => z.2 n rfl (.inr ⟨rfl, ?_⟩)⟩
      subst e
      obtain ⟨m', e', pr⟩ := u
      have e' : m = m' := by omega
      subst e'
      rcases c with rfl | ⟨_, c⟩
      · exact pr.1
      · exact c.trans pr.1
    · refine .inr ⟨bn, fun m e c => ?_⟩
      subst e
      obtain ⟨m', e', pr⟩ := u
      have e' : m = m' := by omega
      subst e'
      have := pr.1.1
      rcases c with c | ⟨_, c⟩
      · omega
      · have := c.1; omega
  · rintro (z | z)
    · exact .inl (.inl z)
    · by_cases c : i = n
      · exact .inr c
      · refine .inl (.inr ⟨z.1, fun m e d => ?_⟩)
        have e : n = m := by injection e with e; omega
        subst e
        rcases d with d | ⟨_, d⟩
        · exact c d
        · cases o2 with
          | none => exact u i d
          | some x =>
            obtain ⟨m', rfl, pr⟩ := u
            refine z.2 m' rfl ?_
            rcases (pr.all i).mp d with e | e
            · exact .inl e
            · exact .inr ⟨rfl, e⟩
end
theorem nats_of : ∀ {r : List Int}, (∀ x ∈ r, ∃ i : Nat, x = (i : Int)) → ∃ m : List Nat, r = m.map (fun i : Nat => (i : Int)) ∧ ∀ i : Nat, i ∈ m ↔ (i : Int) ∈ r
  | [], _ => ⟨[], rfl, fun i => ⟨fun z => (nomatch z), fun z => nomatch z⟩⟩
  | x :: r, h => by
    obtain ⟨i, rfl⟩ := h x List.mem_cons_self
    obtain ⟨m, rfl, hm⟩ := nats_of fun y hy => h y (List.mem_cons_of_mem _ hy)
    refine ⟨i :: m, rfl, fun j => ?_⟩
    rw [List.mem_cons, List.mem_cons, hm]
    exact or_congr_left ⟨fun e => by rw [e], fun e => by omega⟩
theorem rng_nats (a n : Nat) : ∃ m : List Nat, rng (a : Int) n = m.map (fun i : Nat => (i : Int)) ∧ ∀ i : Nat, i ∈ m ↔ a ≤ i ∧ i < a + n := by
  refine ⟨(List.range n).map fun i => a + i, ?_, fun i => ?_⟩
  · unfold rng
    rw [List.map_map]
    apply List.map_congr_left
    intro i _
    show (a : Int) + (i : Int) = ((a + i : Nat) : Int)
    omega
  · rw [List.mem_map]
    constructor
    · rintro ⟨j, h, rfl⟩; rw [List.mem_range] at h; omega
    · rintro ⟨h1, h2⟩; exact ⟨i - a, by rw [List.mem_range]; omega, by omega⟩
theorem enum_up {α : Type} (l : List α) : (enumL l).Pairwise (fun a b => a.1 < b.1) := List.pairwise_iff_getElem.mpr fun i j hi hj hij => by
  have h1 := (enumL_at (List.getElem?_eq_getElem hi)).1
  have h2 := (enumL_at (List.getElem?_eq_getElem hj)).1
  omega
theorem enum_pick {α : Type} {l : List α} (b : Int × α → Bool) : Rs (((enumL l).filter b).map (·.1)) (fun i => ∃ r, l[i]? = some r ∧ b ((i : Int), r) = true) := ⟨List.pairwise_map.mpr ((enum_up l).filter _), fun x => by
  rw [List.mem_map]
  constructor
  · rintro ⟨⟨y, r⟩, h, rfl⟩
    obtain ⟨h1, h2⟩ := List.mem_filter.mp h
    obtain ⟨i, hi⟩ := List.mem_iff_getElem?.mp h1
    obtain ⟨e1, e2⟩ := enumL_at hi
    have e1 : y = (i : Int) := e1
    subst e1
    exact ⟨i, rfl, r, e2, h2⟩
  · rintro ⟨i, rfl, r, h1, h2⟩
    exact ⟨((i : Int), r), List.mem_filter.mpr ⟨List.mem_of_getElem? (enumL_get h1), h2⟩, rfl⟩⟩
/-- an Emb by what is beneath -/
theorem emD_iff {dr : List (Str × Int)} {qr : List Sr} {g k p : Nat} (hk : k < qr.length) : EmD dr qr g none k p ↔ p < dr.length ∧ lkD dr qr k p ∧ ∀ l, Par (qds qr) k l → ∃ j, EmD dr qr g none l j ∧ gsD dr qr l j p := by
  constructor
  · intro h
    exact ⟨h.lt.2, h.lk.1, fun l pl => h.low pl⟩
  · rintro ⟨h1, h2, h3⟩
    exact Emb.of (by rw [qds_len]; exact hk) h1 ⟨h2, fun _ z => nomatch z⟩ h3
theorem gsD_at {dr : List (Str × Int)} {qr : List Sr} {k p u : Nat} {sr : Sr} (h : qr[k]? = some sr) : gsD dr qr k p u ↔ Bn (dps dr) (wB sr.1) u p := ⟨fun z => z sr h, fun z sr' h' => by rw [h] at h'; cases h'; exact z⟩
theorem lkD_lt {dr : List (Str × Int)} {qr : List Sr} {k p : Nat} (h : lkD dr qr k p) : p < dr.length := by
  obtain ⟨r, sr, h1, _⟩ := h
  exact (List.getElem?_eq_some_iff.mp h1).1
theorem fuD_iff {dr : List (Str × Int)} {qr : List Sr} {g k x : Nat} {top : Nat → Nat → Prop} (dv : Dv (qds qr)) (hk : k < qr.length) : Ful (qds qr) dr.length (lkO dr qr g none) (gsD dr qr) top k x ↔ EmD dr qr g none k x ∧ ((∀ u, ¬ An (qds qr) u k) → top k x) ∧ ∀ u, Par (qds qr) u k → ∃ y, Ful (qds qr) dr.length (lkO dr qr g none) (gsD dr qr) top u y ∧ gsD dr qr k x y := ful_iff dv (by rw [qds_len]; exact hk)
theorem setI_n {α : Type} {X : Exn → Prop} {P : List α → Prop} {l : List α} {i : Nat} {a : α} (h : i < l.length) (p : P (l.set i a)) : setI l (i : Int) a P X := by
  refine ⟨i, ?_, p⟩
  unfold ixN
  rw [if_pos (by omega), if_pos (by omega), Int.toNat_natCast]
theorem eL_some {α : Type} (en : α → D) (l : List α) : eL (eO en) (l.map some) = eL en l := by
  show D.lst ((l.map some).map (eO en)) = D.lst (l.map en)
  rw [List.map_map]; rfl
theorem in_oi {X : Exn → Prop} {P : Bool → Prop} (o : Option Int) (l : List Int) : inM false (eO D.int) o (l.map some) P X = P (decide (∃ x ∈ l, o = some x)) := by
  have e : (l.map some).map (fun x => flV (eO D.int x)) = l.map V.int := by rw [List.map_map]; rfl
  have fl : (∀ x ∈ l.map some, flatD (eO D.int x) = true) = True := by
    refine propext ⟨fun _ => trivial, fun _ x hx => ?_⟩
    obtain ⟨y, _, rfl⟩ := List.mem_map.mp hx
    rfl
  unfold inM
  rw [fl, e]
  cases o with
  | none =>
    have : inV .non (l.map V.int) = false := by
      unfold inV
      rw [List.any_map]
      exact List.any_eq_false.mpr fun x _ => by show ¬ eqV (.int x) .non = true; simp [eqV]
    have e2 : decide (∃ x ∈ l, (none : Option Int) = some x) = false := decide_eq_false fun ⟨x, _, z⟩ => nomatch z
    rw [e2]
    show (true = true ∧ True ∧ P (if false = true then !inV .non (l.map V.int) else inV .non (l.map V.int))) = _
    rw [this]
    simp
  | some y =>
    have e2 : decide (∃ x ∈ l, some y = some x) = decide (y ∈ l) := by
      rw [decide_eq_decide]
      exact ⟨fun ⟨x, h, z⟩ => by cases z; exact h, fun h => ⟨y, h, rfl⟩⟩
    rw [e2]
    show (true = true ∧ True ∧ P (if false = true then !inV (.int y) (l.map V.int) else inV (.int y) (l.map V.int))) = _
    rw [inV_i]
    simp
end Va

namespace Va
open PySem PySem.Spec PyProof.Rows L2 Bg
/-! ### calls that may raise: what the state's slots were is told -/
section
variable {X : Cx} {CX : CXT} {k : Nat} {f C : Addr} {fd : FuncData} {ps : List Str} {sp : Sp} {E : L2.St → XK} {x m : Str} {p pos apos : Pos} {e o : Expr} {es : List Expr} {ta : TE} {t : TA} {W : WX}
def tMethS (C : Addr) (m : Str) (sp : Sp) (E : L2.St → XK) (ta : TE) (t : TA) : TE := fun σ H Q => ta σ H fun x H1 => ∃ a dx fs, x = .ref a ∧ H1 a = some (.ins C dx fs) ∧ fs.lookup m = none ∧ t σ H1 fun vs H2 => sp (.ref a :: vs) H2 Q (E σ)
def tMakeS (C : Addr) (sp : Sp) (E : L2.St → XK) (t : TA) : TE := fun σ H Q => t σ H fun vs H1 => ∀ x dx, H1 x = none → H1 dx = none → dx ≠ x → sp (.ref x :: vs) (upd (upd H1 dx (.own x)) x (.ins C dx [])) (fun v H2 => v = .non ∧ Q (.ref x) H2) (E σ)
theorem pe_callFS (F : Fn X.prog X.w X.K X.mg X.base (L2.CX X.prog X.w) k x ps sp) (hr : Room k X.A) (tk : Takes X W) (ha : PA X (e :: es) t) (hg : Gl X x := by rfl) (hdb : (x == ("__debug__" : Str)) = false := by decide)
    (he : starEach (e :: es) X.env = (false, eval e X.env) :: starEach es X.env := by rfl) (hpl : (backTo pos (starEach es X.env)).any (·.1) = false := by rfl) :
    PE X (.Call (.Name x p) (e :: es) [] pos) (tCallS sp (WE W) t) := by
  obtain ⟨f, fd, F, hm, hk, hb⟩ := F.ex
  exact pe_callS F hr hg hm hk hb (fun σ => passAt tk σ) ha hdb he hpl
theorem pe_methFS {pl : Sem Bool} (he : PE X o ta) (F : Mt X.prog X.w X.K X.mg X.base (L2.CX X.prog X.w) k C m ps sp) (hr : Room k X.A) (tk : Takes X W) (ha : PA X (e :: es) t)
    (hst : starEach (e :: es) X.env = (false, eval e X.env) :: starEach es X.env := by rfl) (hpl : (backTo pos (starEach es X.env)).any (·.1) = false := by rfl)
    (ht : eval (.Call (.Attribute o m apos) (e :: es) [] pos) X.env = (do
      let ov ← eval o X.env
      standAt apos.atName
      let (f, first) ← holding [ov] (getMethod ov m pl)
      callWith pos f first (backTo pos (starEach (e :: es) X.env)) (backToKw pos (keywordEach [] X.env))) := by rfl) :
    PE X (.Call (.Attribute o m apos) (e :: es) [] pos) (tMethS C m sp (WE W) ta t) := by
  obtain ⟨f, fd, F, hm, c, hb⟩ := F.ex
  refine ⟨fun pins s σ H Q I h => ?_⟩
  refine PySem.W.methodCall_KW (pl := pl) (thn (he.run pins s σ H _ I h) fun u s1 ⟨x, H1, I1, rx, a, dx, fs, ex, ea, l, q⟩ => ?_) ht
  subst ex
  obtain rfl : u = Value.ref a := rx
  refine getmeth_ok I1 ea c hm l ?_
  refine PySem.W.callWith_K (first := [.ref a]) (h₀ := X.base) I.ok.mod.kin hm.kp (thn (ha.run pos pins s1 σ H1 _ I1 q) fun us s2 ⟨vs, H2, I2, r, q2⟩ => ⟨I2.kIn, ?_⟩) hst hpl
  exact run_fnS (E := WE W) (us := .ref a :: us) (vs := .ref a :: vs) F hr hb (passAt tk σ) I2 (.cons rfl r) q2
theorem pe_methFS0 {pl : Sem Bool} (he : PE X o ta) (F : Mt X.prog X.w X.K X.mg X.base (L2.CX X.prog X.w) k C m ps sp) (hr : Room k X.A) (tk : Takes X W)
    (ht : eval (.Call (.Attribute o m apos) [] [] pos) X.env = (do
      let ov ← eval o X.env
      standAt apos.atName
      let (f, first) ← holding [ov] (getMethod ov m pl)
      callWith pos f first (backTo pos (starEach [] X.env)) (backToKw pos (keywordEach [] X.env))) := by rfl) :
    PE X (.Call (.Attribute o m apos) [] [] pos) (tMethS C m sp (WE W) ta tNil) := by
  obtain ⟨f, fd, F, hm, c, hb⟩ := F.ex
  refine ⟨fun pins s σ H Q I h => ?_⟩
  refine PySem.W.methodCall_KW (pl := pl) (thn (he.run pins s σ H _ I h) fun u s1 ⟨x, H1, I1, rx, a, dx, fs, ex, ea, l, q⟩ => ?_) ht
  subst ex
  obtain rfl : u = Value.ref a := rx
  refine getmeth_ok I1 ea c hm l ?_
  exact PySem.W.callWith_K0 (first := [.ref a]) I1.kIn hm.kp (run_fnS (E := WE W) (us := [.ref a]) (vs := [.ref a]) F hr hb (passAt tk σ) I1 (.cons rfl .nil) q)
theorem pe_makeFS (F : Mkr X.prog X.w X.K X.mg X.base (L2.CX X.prog X.w) k C x ps sp) (hr : Room (k + 1) X.A) (tk : Takes X W) (ha : PA X (e :: es) t) (hg : Gl X x := by rfl) (hdb : (x == ("__debug__" : Str)) = false := by decide)
    (he : starEach (e :: es) X.env = (false, eval e X.env) :: starEach es X.env := by rfl) (hpl : (backTo pos (starEach es X.env)).any (·.1) = false := by rfl) :
    PE X (.Call (.Name x p) (e :: es) [] pos) (tMakeS C sp (WE W) t) := by
  obtain ⟨f, fd, F, M, hm, hb⟩ := F.ex
  refine ⟨fun pins s σ H Q I h => ?_⟩
  refine wpAny_Call_Name_kw (ld_glob I hg hm ?_ hdb)
  refine PySem.W.callWith_K (h₀ := X.base) I.ok.mod.kin M.kp (thn (ha.run pos pins s σ H _ I h) fun us s1 ⟨vs, H1, I1, r, q⟩ => ⟨I1.kIn, ?_⟩) he hpl
  have hq := q (s1.heap.objs.size + 1) s1.heap.objs.size (I1.hok.fresh (Nat.le_succ _)) (I1.hok.fresh (Nat.le_refl _)) (Nat.ne_of_lt (Nat.lt_succ_self _))
  have I2 := Inv.made (C := C) I1
  have r2 : Vals (V.ref (s1.heap.objs.size + 1) :: vs) (Value.ref (s1.heap.objs.size + 1) :: us) := .cons rfl r
  have hl : (Value.ref (s1.heap.objs.size + 1) :: us).length = ps.length := by
    have e := r2.length
    rw [F.len _ _ _ _ hq] at e
    exact e.symm
  have b := hb _ (Value.ref (s1.heap.objs.size + 1) :: us) I2.kIn (by rw [List.append_nil]; exact hl)
  rw [List.append_nil] at b
  refine wpAny_call (make_map (f := f) I1.kIn M.makes M.init (beq_iff_eq.mp M.fn) (codeAny_mono (F.run _ X.stack _ _ ⟨Value.ref (s1.heap.objs.size + 1) :: us, []⟩ (Value.ref (s1.heap.objs.size + 1) :: us) _ _ (WE W σ) (hr.make C us [])
    (I2.env0.make C us []) b r2 hq) fun r s' hq' => ?_))
  cases r with
  | error e => exact passAt tk σ pins _ _ e s' I2 hq'
  | ok fl =>
    cases fl with
    | ret u =>
      obtain ⟨v, H', I3, rv, ev, q3⟩ := I2.after hq'
      subst ev
      exact ⟨rv, ⟨V.ref (s1.heap.objs.size + 1), H', I3, rfl, q3⟩⟩
    | next => exact False.elim hq'
    | brk => exact False.elim hq'
    | cont => exact False.elim hq'
/-! a promise without exceptions -/
theorem FnOk.quiet {P : Program} {w : World} {K : PySem.W.Frag} {mg : Str → Option Value} {base : Heap} {sp' : Sp} (F : FnOk P w K mg base (L2.CX P w) k f fd ps sp) (h : ∀ vs H Q E, sp' vs H Q E → sp vs H Q fun _ _ _ => False) : FnOk P w K mg base CX0 k f fd ps sp' := by
  refine ⟨fun vs H Q E q => F.len vs H Q _ (h _ _ _ _ q), fun A outer s H args us vs Q E hr he hb hv hs => codeAny_mono (F.run A outer s H args us vs Q _ hr he hb hv (h _ _ _ _ hs)) fun r s' hq => ?_⟩
  cases r with
  | error e =>
    obtain ⟨_, _, _, _, _, _, _, _, _, _, _, _, z⟩ := hq
    exact z.elim
  | ok fl => cases fl <;> exact hq
end
/-! ### BoughError.__init__(self, ..) -/
section
variable {X : Cx} {o e : Expr} {es : List Expr} {to te : TE} {ta : TA} {f : Str} {p p' p1 p2 pos : Pos}
theorem pe_clsinit {pl : Sem Bool} {x : Str} {B : Addr} {mc : Value} (hg : Gl X x) (hm : X.mg x = some (.ref B)) (hga : PySem.W.specialIn X.K (.ref B) "__getattribute__" = some (some (.builtin "type.__getattribute__"))) (hrd : PySem.W.readsIn X.K B mc = true) (vV : PySem.W.findCls X.K (.ref B) mc "__init__" = some (.val (.builtin "ValueError.__init__"))) (ha : PA X (e :: es) ta)
    (hdb : (x == ("__debug__" : Str)) = false := by decide)
    (hc : eval (.Call (.Attribute (.Name x p1) "__init__" p2) (e :: es) [] pos) X.env = (do
      let ov ← eval (.Name x p1) X.env
      standAt p2.atName
      let (f, first) ← holding [ov] (getMethod ov "__init__" pl)
      callWith pos f first (backTo pos (starEach (e :: es) X.env)) (backToKw pos (keywordEach [] X.env))) := by rfl)
    (he : starEach (e :: es) X.env = (false, eval e X.env) :: starEach es X.env := by rfl) (hpl : (backTo pos (starEach es X.env)).any (·.1) = false := by rfl) :
    PE X (.Call (.Attribute (.Name x p1) "__init__" p2) (e :: es) [] pos) (tVeI X.K ta) := by
  refine ⟨fun pins s σ H Q I h => ?_⟩
  refine PySem.W.methodCall_KW (ld_glob I hg hm ?_ hdb) hc
  refine PySem.W.method_cls I.kIn hga (PySem.W.cls_value I.kIn hrd vV (by decide +kernel) ?_)
  show wpAny _ _ (callWith pos (Value.builtin "ValueError.__init__") [] (backTo pos (starEach (e :: es) X.env)) []) _ _ _
  refine PyProof.Rows.callWith_method1 (thn (ha.run pos pins _ σ H _ (I.tok _) h) fun us s1 ⟨vs, H1, I1, r1, a, C, ws, ev, hl, T, ea, q⟩ => ?_) he hpl
  subst ev
  cases r1 with
  | @cons _ u0 _ ur ra rw' =>
    obtain rfl : u0 = Value.ref a := ra
    have hlen : ur.length ≤ sizeLine := by
      rw [← Paired.length rw', sizeLine_eq]
      omega
    exact oinit_ok T I1 ea hlen fun s' J => ⟨.non, H1, J, rfl, q⟩
end
end Va

namespace Va
open PySem PySem.Spec PyProof.Rows L2 Bg
/-! ### try with several clauses, each with a name or without -/
abbrev SuT := Addr → Value → Option Addr → TS
def offD (i : Nat) (D : Ends) : Ends := { nx := fun σ' H' => D.nx (σ'.set i none) H', rt := D.rt, bk := fun σ' H' => D.bk (σ'.set i none) H', ct := fun σ' H' => D.ct (σ'.set i none) H' }
def wTry (K : PySem.W.Frag) (Wout : WX) (D : Ends) : List (Value × Option Nat × SuT) → WX
  | [] => Wout
  | (c, some i, ts) :: r => fun cls d σ H => ∃ b, PySem.W.exmOne K cls c = some b ∧ (b = true → ∀ a, H a = none → ts a cls d (offD i D) (σ.set i (some (.ref a))) H) ∧ (b = false → wTry K Wout D r cls d σ H)
  | (c, none, ts) :: r => fun cls d σ H => ∃ b, PySem.W.exmOne K cls c = some b ∧ (b = true → ∀ a, H a = none → ts a cls d D σ H) ∧ (b = false → wTry K Wout D r cls d σ H)
def tTry (K : PySem.W.Frag) (Wout : WX) (tb : WX → TS) (l : List (Value × Option Nat × SuT)) : TS := fun D σ H => tb (wTry K Wout D l) D σ H
section
variable {X : Cx} {x n : Str} {c : Value} {i : Nat} {body suite : List Stmt} {b₀ : Stmt} {np pos pos' : Pos} {tb : WX → TS} {ts : SuT} {Wout : WX}
/-- one clause with a name, by the library's rule -/
theorem ps_tryA1 (hs : X.stack = X.env :: X.outer) (hf : X.env.frame = some X.env.locals) (hN : X.N.Nodup) (hi : X.N[i]? = some n) (hln : X.env.kindOf n = some .local) (hc : Names X x c) (tk : Takes X Wout)
    (hb : ∀ (W : WX) (pn : List (Addr × Obj)) (xe : Value → Shared → Prop), Takes (X.tr pn xe) W → PassesOwn (model X.prog X.w) X.A X.env xe → PSs (X.tr pn xe) body (tb W))
    (hu : ∀ (a : Addr) (oe : Obj) (cls : Value) (d : Option Addr) (pn : List (Addr × Obj)), Zc cls d oe → (∃ vs, oe.data = .fields vs) → PSs (X.suite a ((a, oe) :: pn)) (b₀ :: suite) (ts a cls d)) :
    PS X (.Try body [.ExceptHandler (some (.Name x np)) (some n) (b₀ :: suite) pos'] [] [] pos) (tTry X.K Wout tb [(c, some i, ts)]) := ps_try_as hs hf hN hi hln hc tk hb hu
/-- one clause without a name -/
theorem ps_tryO1 (hs : X.stack = X.env :: X.outer) (hf : X.env.frame = some X.env.locals) (hc : Names X x c) (tk : Takes X Wout)
    (hb : ∀ (W : WX) (pn : List (Addr × Obj)) (xe : Value → Shared → Prop), Takes (X.tr pn xe) W → PassesOwn (model X.prog X.w) X.A X.env xe → PSs (X.tr pn xe) body (tb W))
    (hu : ∀ (a : Addr) (oe : Obj) (cls : Value) (d : Option Addr) (pn : List (Addr × Obj)), Zc cls d oe → (∃ vs, oe.data = .fields vs) → PSs (X.suite a ((a, oe) :: pn)) (b₀ :: suite) (ts a cls d)) :
    PS X (.Try body [.ExceptHandler (some (.Name x np)) none (b₀ :: suite) pos'] [] [] pos) (tTry X.K Wout tb [(c, none, ts)]) := ps_try_only hs hf hc tk hb hu
end
/-! ### what is asked of a caught exception -/
/-- e.f, a the caught one: its class is one whose fields are read -/
def tXfA (K : PySem.W.Frag) (a : Addr) (cls : Value) (d : Option Addr) (f : Str) (te : TE) : TE := fun σ H Q => ∃ C : Addr, cls = .ref C ∧ XfC K C ∧ PySem.W.findIn K (.ref C) f = some none ∧ tXf a cls d C f te σ H Q
/-- isinstance(e, c) -/
def rIsA (K : PySem.W.Frag) (a : Addr) (cls : Value) (d : Option Addr) : List V → Hp → VK → Prop := fun xs H Q => ∃ (c : V) (cv : Value) (b : Bool) (C dd : Addr) (fs : List (Str × V)), xs = [.ref a, c] ∧ (∀ u, RelV c u → u = cv) ∧ cls = .ref C ∧ ExcC K C ∧ d = some dd ∧ H dd = some (.xd fs) ∧ PySem.W.kitOne K (.ref C) cv = some b ∧ Q (.bl b) H
section
variable {X : Cx} {a : Addr} {oe : Obj} {cls : Value} {d : Option Addr} {pn : List (Addr × Obj)} {e : Expr} {te : TE} {pos : Pos} {n : Str}
theorem pe_xfA (hz : Zc cls d oe) (hf : ∃ vs, oe.data = .fields vs) (he : PE (X.suite a ((a, oe) :: pn)) e te) (hb : attributeBase e n X.env (eval e X.env) = eval e X.env := by rfl) :
    PE (X.suite a ((a, oe) :: pn)) (.Attribute e n pos) (tXfA X.K a cls d n te) := ⟨fun pins s σ H Q I ⟨_, _, T, hno, h⟩ => (pe_xf T hno hz hf he hb).run pins s σ H Q I h⟩
theorem call_isA (hz : Zc cls d oe) (hf : ∃ vs, oe.data = .fields vs) : CallR (X.suite a ((a, oe) :: pn)) (.builtin "isinstance") (rIsA X.K a cls d) := by
  intro pins s σ H xs us Q I r h
  obtain ⟨c, cv, b, C, dd, fs, rfl, hcv, ec, T, ed, ea, e, q⟩ := h
  cases r with
  | cons rx rr =>
    cases rr with
    | cons rt rr =>
      cases rr
      cases rx
      have ec' := hcv _ rt
      subst ec'
      obtain ⟨hget, _⟩ := I.pin (a, oe) (List.mem_append.mpr (.inl List.mem_cons_self))
      obtain ⟨vs, hv⟩ := hf
      have hx : ObjOk X.prog X.w H s.heap dd (.xd fs) := I.hok dd _ ea
      obtain ⟨mA, hns, hr⟩ := hx
      obtain ⟨od, ho, hl⟩ := lookIn_ns hns
      have J : PySem.W.InstAt s.heap a oe C (some od) := ⟨hget, hz.1.trans ec, by unfold PySem.W.notCls; rw [hv] <;> rfl, by rw [hz.2, ed]; exact ho⟩
      obtain ⟨cd, hc, _⟩ := PySem.W.any_some T.hd
      exact PySem.W.kia_one (PySem.W.kitx_exc (by rw [hc]; rfl) T.hg T.hk T.hs T.ha T.hn T.ht T.hm) I.kIn J e (fun z => nomatch z) fun tk => ⟨.bl b, H, I.kept (t' := tk) fun _ _ z => z, rfl, q⟩
end
end Va

namespace Va
open PySem PySem.Spec PyProof.Rows L2 Bg
/-! ### the classes of exceptions, as the text has them -/
/-! ### what an exception's __init__ promises -/
def strC (c : Str) : Bool := decide (c = "NoDocument") || decide (c = "NoQuestion") || decide (c = "NoText")
def spX (K : PySem.W.Frag) (c : Str) : Sp := fun vs H Q _ => ∃ a v, vs = [.ref a, v] ∧ (strC c = true → ∃ i : Int, v = .int i ∧ 0 ≤ i ∧ i ≤ 1000000) ∧ H a = some (exo a (He.ga K c) none) ∧ ∀ dx, H dx = none → dx ≠ a → Q .non (upd (upd H dx (exd dx [(exField c, v)])) a (exo a (He.ga K c) (some dx)))
theorem spX_len {K : PySem.W.Frag} {c : Str} {vs : List V} {H : Hp} {Q : VK} {E : XK} (h : spX K c vs H Q E) : vs.length = 2 := by
  obtain ⟨a, v, rfl, _⟩ := h
  rfl
theorem exo_init {K : PySem.W.Frag} {c : Str} {vs : List V} {H : Hp} {Q : VK} {E : XK} {tm : TE} {D : Ends} {N : List Str} {f : Str} (h : spX K c vs H Q E) (T : XcK K c) (hD : D.nx = fun _ H' => Q .non H') (hN : N.length = 2) (hf : exField c = f) (hm : ∀ a v, vs = [.ref a, v] → (strC c = true → ∃ i : Int, v = .int i ∧ 0 ≤ i ∧ i ≤ 1000000) → ∀ R : VK, (∀ z, R (.str z) H) → tm (L2.start N vs) H R) :
    tSeq (tDrop (tVeI K (tCons (tVar 0) (tCons tm tNil)))) (tSeq (tOst K f (tVar 0) (tVar 1)) tNext) D (L2.start N vs) H := by
  subst hf
  have h' := h
  obtain ⟨a, v, rfl, hi, ha, q⟩ := h
  have s0 : (L2.start N [.ref a, v])[0]? = some (some (.ref a)) := rfl
  have s1 : (L2.start N [.ref a, v])[1]? = some (some v) := rfl
  refine ⟨.ref a, s0, hm a v rfl hi _ fun z => ⟨a, _, [.str z], rfl, (by show 1 ≤ 1000; decide), T.ox, ha, ?_⟩⟩
  refine ⟨v, s1, .ref a, s0, a, _, rfl, T.ox, T.fn, .inl ⟨ha, fun dx n ne => ?_⟩⟩
  show D.nx _ _
  rw [hD]
  exact q dx n ne
/-! ### raise -/
def raiseM {R : Type} (x : Exn) : M R := fun _ X => X x
theorem raise_ap {R : Type} {x : Exn} {P : R → Prop} {X : Exn → Prop} : (raiseM x : M R) P X = X x := rfl
/-- one is made and raised -/
def raiseN {R : Type} (c : Str) (d : D) : M R := fun _ X => (strC c = true → ∃ i : Int, d = .int i ∧ 0 ≤ i ∧ i ≤ 1000000) ∧ X ⟨c, d⟩
def tRaise (C : Addr) (sp : Sp) (ta : TA) (W : WX) : TS := fun _ σ H => tMkO C sp [] ta σ H fun cls d H' => W cls d σ H'
/-- an exception's class, as a def makes one -/
structure Xcr (P : Program) (w : World) (K : PySem.W.Frag) (mg : Str → Option Value) (base : Heap) (k : Nat) (c : Str) : Prop where
  ex : ∃ (f : Addr) (fd : FuncData) (ps : List Str), FnOk P w K mg base CX0 k f fd ps (spX K c) ∧ PySem.W.findIn K (.ref (He.ga K c)) "__init__" = some (some (.ref f)) ∧ PySem.W.typeIn K (.ref f) = some (.type "function") ∧ XcK K c ∧ mg c = some (.ref (He.ga K c)) ∧ Binds K fd ps []
theorem ps_raiseX {X : Cx} {W : WX} {e : Expr} {C : Addr} {sp : Sp} {ta : TA} {pos : Pos} (hc : X.calm = true) (tk : Takes X W) (he : PMk X e (tMkO C sp [] ta)) : PS X (.Raise (some e) none pos) (tRaise C sp ta W) := ps_raise hc tk he
theorem pmkX {X : Cx} {k : Nat} {c : Str} {p pos : Pos} {e : Expr} {es : List Expr} {ta : TA} (F : Xcr X.prog X.w X.K X.mg X.base k c) (hr : Room (k + 1) X.A) (ha : PA X (e :: es) ta) (hg : Gl X c := by rfl)
    (hdb : (c == ("__debug__" : Str)) = false := by decide) (he : starEach (e :: es) X.env = (false, eval e X.env) :: starEach es X.env := by rfl) (hpl : (backTo pos (starEach es X.env)).any (·.1) = false := by rfl) :
    PMk X (.Call (.Name c p) (e :: es) [] pos) (tMkO (He.ga X.K c) (spX X.K c) [] ta) := by
  obtain ⟨f, fd, ps, F, h1, h2, h3, h4, h5⟩ := F.ex
  exact pmk_oex h3.ox h1 h2 F hr h5 .nil pass0 hg h4 ha hdb he hpl
theorem tk_of {P : Program} {w : World} {K : PySem.W.Frag} {mg : Str → Option Value} {base : Heap} {N : List Str} {qual : Str} {sc : Scope} {f : Addr} {cd : Value} {A : Around} {outer : List Env} {s : Shared} {H : Hp} {E : XK} :
    Takes (cxOf (L2.CX P w) P w K mg base N qual sc f cd A outer s H E) (fun cls d _ H => E cls d H) := takes_of rfl rfl rfl rfl
theorem po_of {P : Program} {w : World} {K : PySem.W.Frag} {mg : Str → Option Value} {base : Heap} {N : List Str} {qual : Str} {sc : Scope} {f : Addr} {cd : Value} {A : Around} {outer : List Env} {s : Shared} {H : Hp} {E : XK} :
    PassesOwn (model P w) (cxOf (L2.CX P w) P w K mg base N qual sc f cd A outer s H E).A (cxOf (L2.CX P w) P w K mg base N qual sc f cd A outer s H E).env (cxOf (L2.CX P w) P w K mg base N qual sc f cd A outer s H E).xe := passes_of rfl
/-- the old promise, by the one that speaks of exceptions -/
theorem spC_old {K : PySem.W.Frag} {α α' β : Type} {ar : α → List Sl} {ar' : α' → List Sl} {res : Res β} {c : α → M β} {c' : α' → M β} (f : α → α') (ha : ∀ a, ar' (f a) = ar a) (h : ∀ a P X, c a P X → c' (f a) P fun _ => False) : ∀ vs H Q E, spC K ar res c vs H Q E → spC K ar' res c' vs H Q fun _ _ _ => False := by
  rintro vs H Q E ⟨O, a, P, PX, h1, h2, h3, h4, h5⟩
  exact ⟨O, f a, P, fun _ => False, by rw [ha a]; exact h1, h2, h a P PX h3, h4, fun _ _ _ _ z => z.elim⟩
theorem spMk_old {K : PySem.W.Frag} {C : Str} {α α' β : Type} {ar : α → List Sl} {ar' : α' → List Sl} {en : β → D} {c : α → M β} {c' : α' → M β} (f : α → α') (ha : ∀ a, ar' (f a) = ar a) (h : ∀ a P X, c a P X → c' (f a) P fun _ => False) : ∀ vs H Q E, spMk K C ar en c vs H Q E → spMk K C ar' en c' vs H Q fun _ _ _ => False := by
  rintro vs H Q E ⟨O, H1, x, dx, ws, a, P, PX, h1, h2, h3, h4, h5, h6, h7, h8, h9, h10⟩
  exact ⟨O, H1, x, dx, ws, f a, P, fun _ => False, h1, h2, h3, h4, h5, by rw [ha a]; exact h6, h7, h a P PX h8, h9, fun _ _ _ _ z => z.elim⟩
section
variable {K : PySem.W.Frag} {EX : L2.St → XK} {ρ : List Sl} {α β γ R : Type} {F : Fr R} {W : WX}
theorem rb_raise {u : TS} {te : TE} {en : α → D} {w : M α} (c : Str) (he : RE K (WE W) ρ te en w) (hx : LeX F.ρx ρ := by first | exact lex_nil | (refine lex_le ?_; repeat (first | exact le_nil | refine le_cons ?_ | refine le_no ?_))) :
    RB K (WE W) F ρ (tSeq (tRaise (He.ga K c) (spX K c) (tCons te tNil) W) u) (w >>= fun a => raiseN c (en a)) := fun B O H σ D E P PX hp nx bk ct rt xc => by
  refine he B O H σ E (fun a => raiseN (R := R) c (en a) P PX) PX _ hp (fun a v H1 px e r => ?_) fun x cls d H' px e k => xc ρ O σ x cls d H' (E.ex e) hx px k
  refine ⟨(by show 1 ≤ 1000; decide), fun a1 n1 => ?_⟩
  have E1 := E.ex e
  obtain ⟨hs, px⟩ := px
  refine ⟨a1, v, rfl, fun z => ?_, upd_same, fun dx n2 ne => ?_⟩
  · obtain ⟨i, ei, b1, b2⟩ := hs z
    have r' : Rep K O H1 v (.int i) := by rw [← ei]; exact r
    cases r'
    exact ⟨i, rfl, b1, b2⟩
  · rw [upd_ne ne] at n2
    have nO : ¬ O dx := fun z => E1.dom dx z n2
    refine ⟨rfl, dx, [(exField c, v)], upd_same, ?_, n2, ?_⟩
    · rw [upd_ne ne, upd_same]
    · have ee : Ext No H1 (upd (del (upd (upd (upd H1 a1 (exo a1 (He.ga K c) none)) dx (exd dx [(exField c, v)])) a1 (exo a1 (He.ga K c) (some dx))) a1) dx (.xd [(exField c, v)])) := by
        refine ⟨fun b o _ _ hb => ?_, fun b hb => ?_⟩
        · have nb1 : b ≠ a1 := fun z => by subst z; rw [n1] at hb; cases hb
          have nb2 : b ≠ dx := fun z => by subst z; rw [n2] at hb; cases hb
          rw [upd_ne nb2, del_ne nb1, upd_ne nb1, upd_ne nb2, upd_ne nb1]
          exact hb
        · have nb : H1 b ≠ none := fun z => by
            obtain ⟨n, s, t, q⟩ := hb
            simp_all
          have nb1 : b ≠ a1 := fun z => nb (by rw [z]; exact n1)
          have nb2 : b ≠ dx := fun z => nb (by rw [z]; exact n2)
          have q : (upd (del (upd (upd (upd H1 a1 (exo a1 (He.ga K c) none)) dx (exd dx [(exField c, v)])) a1 (exo a1 (He.ga K c) (some dx))) a1) dx (.xd [(exField c, v)])) b = H1 b := by
            rw [upd_ne nb2, del_ne nb1, upd_ne nb1, upd_ne nb2, upd_ne nb1]
          unfold Src at hb ⊢
          simpa [q] using hb
      refine xc ρ O σ ⟨c, en a⟩ _ _ _ (E1.ex ee) hx px ⟨rfl, dx, v, rfl, nO, upd_same, Rep.ex r ee⟩
/-! ### calls -/
theorem rg_methS {C m : Str} {ta : TE} {t : TA} {eo : γ → D} {gs : γ → List (Str × D)} {ar : α → List Sl} {wo : M γ} {w : M α} {res : Res β} [Lasts res] {c : γ × α → M β} (ho : ∀ a, eo a = .obj C (gs a)) (hm : ∀ a, (gs a).lookup m = none) (h1 : RE K EX ρ ta eo wo) (h : RA K EX ρ t ar w) :
    RG K EX ρ (tMethS (He.ga K C) m (spC K (fun p : γ × α => .sh (eo p.1) :: ar p.2) res c) EX ta t) res (wo >>= fun o => w >>= fun a => c (o, a)) := fun B O H σ E P PX Q hw hq hx => by
  refine h1 B O H σ E _ PX _ hw (fun o v H1 p1 e1 r1 => ?_) hx
  have r1' : Rep K O H1 v (.obj C (gs o)) := by rw [← ho o]; exact r1
  cases r1' with
  | @obj a dx _ fs _ nO ha hf rl =>
    refine ⟨a, dx, fs, rfl, ha, lookup_none hf (hm o), ?_⟩
    refine h B O H1 σ (E.ex e1) _ PX _ p1 (fun b vs H2 p2 e2 r2 => ?_) fun x cls d H' px e k => hx x cls d H' px (e1.trans e) k
    exact ⟨O, (o, b), P, PX, .sh (Rep.ex r1 e2) r2, (E.ex (e1.trans e2)).dom, p2, fun r v H' p e k => hq r v H' p ((e1.trans e2).trans e) (Lasts.base k (e1.trans e2)), fun x cls d H' px e k => hx x cls d H' px ((e1.trans e2).trans e) k⟩
theorem re_makeS {C : Str} {t : TA} {ar : α → List Sl} {w : M α} {en : β → D} {c : α → M β} (h : RA K EX ρ t ar w) : RE K EX ρ (tMakeS (He.ga K C) (spMk K C ar en c) EX t) en (w >>= c) := fun B O H σ E P PX Q hw hq hx => by
  refine h B O H σ E _ PX _ hw (fun a vs H1 p e1 r => ?_) hx
  intro x dx nx nd ne
  exact ⟨O, H1, x, dx, vs, a, P, PX, rfl, nx, nd, ne, rfl, r, (E.ex e1).dom, p, fun r H' p e k => ⟨rfl, hq r _ H' p (e1.trans e) k⟩, fun y cls d H' px e k => hx y cls d H' px (e1.trans e) k⟩
/-! ### the caught one -/
def xfM (CL : List Str) (f : Str) (x : Exn) : M D := fun P _ => x.cls ∈ CL ∧ exField x.cls = f ∧ P x.fld
theorem re_xf {CL TL : List Str} {a : Addr} {cls : Value} {d : Option Addr} {x : Exn} (f : Str) (i : Nat) (T : XcA K CL TL) (h : ρ[i]? = some (.exc a cls d x) := by rfl) : RE K EX ρ (tXfA K a cls d f (tVar i)) (fun d : Va.D => d) (xfM CL f x) := fun B O H σ E P PX Q hw hq _ => by
  obtain ⟨h1, h2, hp⟩ := hw
  obtain ⟨e1, ec, da, v, ed, nO, hd, r⟩ := E.at_ i _ h
  have T1 := T.k _ h1
  refine ⟨_, ec, T1.xf, h2 ▸ T1.fn, .ref a, e1, rfl, ec, da, _, v, ed, hd, ?_, hq _ v H hp (.refl _ _) r⟩
  rw [h2]
  exact lookup_put1
where lookup_put1 {f : Str} {v : V} : List.lookup f [(f, v)] = some v := by simp [List.lookup]
def isXM (CL : List Str) (c' : Str) (x : Exn) : M Bool := fun P _ => x.cls ∈ CL ∧ P (isX c' x.cls)
theorem re_isE {CL TL : List Str} {a : Addr} {cls : Value} {d : Option Addr} {x : Exn} (c' : Str) (i : Nat) (T : XcA K CL TL) (hc : c' ∈ TL) (h : ρ[i]? = some (.exc a cls d x) := by rfl) :
    RE K EX ρ (tCB (rIsA K a cls d) (tCons (tVar i) (tCons (tC (.ref (He.ga K c'))) tNil))) D.bl (isXM CL c' x) := fun B O H σ E P PX Q hw hq _ => by
  obtain ⟨h1, hp⟩ := hw
  obtain ⟨e1, ec, da, v, ed, nO, hd, r⟩ := E.at_ i _ h
  refine ⟨.ref a, e1, ?_⟩
  exact ⟨.ref (He.ga K c'), .ref (He.ga K c'), isX c' x.cls, He.ga K x.cls, da, _, rfl, fun u z => z, ec, (T.k _ h1).ec, ed, hd, (T.p _ h1 _ hc).kit, hq _ _ H hp (.refl _ _) (.bl _)⟩
theorem re_isEV {CL TL : List Str} {a : Addr} {cls : Value} {d : Option Addr} {x : Exn} (i : Nat) (T : XcA K CL TL) (h : ρ[i]? = some (.exc a cls d x) := by rfl) :
    RE K EX ρ (tCB (rIsA K a cls d) (tCons (tVar i) (tCons (tC (.ty "ValueError")) tNil))) D.bl (isXM CL "ValueError" x) := fun B O H σ E P PX Q hw hq _ => by
  obtain ⟨h1, hp⟩ := hw
  obtain ⟨e1, ec, da, v, ed, nO, hd, r⟩ := E.at_ i _ h
  have e : isX "ValueError" x.cls = true := by simp [isX]
  rw [e] at hp
  refine ⟨.ref a, e1, ?_⟩
  exact ⟨.ty "ValueError", .type "ValueError", true, He.ga K x.cls, da, _, rfl, fun u z => z, ec, (T.k _ h1).ec, ed, hd, (T.k _ h1).ve, hq _ _ H hp (.refl _ _) (.bl _)⟩
/-! ### try -/
def tryM {R : Type} (p : M R) (h : Exn → M R) : M R := fun P X => p P fun x => h x P X
theorem try_ap {R : Type} {p : M R} {h : Exn → M R} {P : R → Prop} {X : Exn → Prop} : tryM p h P X = p P fun x => h x P X := rfl
/-- the clauses: what they make of an exception -/
def RH (K : PySem.W.Frag) (EX : L2.St → XK) (Wout : WX) (F : Fr R) (ρh : List Sl) (l : List (Value × Option Nat × SuT)) (ph : Exn → M R) : Prop :=
  ∀ (B : Bs) (O : AP) (H : Hp) (σ : L2.St) (D : Ends) (x : Exn) (cls : Value) (d : Option Addr), En K B O H σ ρh → XOk K O H cls d x → ∀ (P : R → Prop) (PX : Exn → Prop), ph x P PX →
    (∀ s O' H' σ', En K B O' H' σ' (F.nx.ρ s) → F.nx.k s P PX → D.nx σ' H') → (∀ s O' H' σ', En K B O' H' σ' (F.bk.ρ s) → F.bk.k s P PX → D.bk σ' H') → (∀ s O' H' σ', En K B O' H' σ' (F.ct.ρ s) → F.ct.k s P PX → D.ct σ' H') →
    (∀ r v H', Ext B.A B.H H' → F.rr B.O B.F H' v r → F.kr r P PX → D.rt v H') →
    (∀ ρ' O' σ' x cls d H', En K B O' H' σ' ρ' → LeX F.ρx ρ' → PX x → XOk K O' H' cls d x → EX σ' cls d H') → wTry K Wout D l cls d σ H
/-- no clause is left: it flies on -/
theorem rh_nil {ρh : List Sl} {Wout : WX} (hx : LeX F.ρx ρh := by first | exact lex_nil | (refine lex_le ?_; repeat (first | exact le_nil | refine le_cons ?_ | refine le_no ?_))) : RH K (WE Wout) Wout F ρh [] (fun x => raiseM x) := fun B O H σ D x cls d E k P PX hp nx bk ct rt xc => xc ρh O σ x cls d H E hx hp k
/-- .. which never comes -/
theorem rh_never {ρh : List Sl} {Wout : WX} : RH K EX Wout F ρh [] (fun _ => never) := fun B O H σ D x cls d E k P PX hp nx bk ct rt xc => hp.elim
/-- a slot is empty -/
theorem En.unset {B : Bs} {O : AP} {H : Hp} {σ : L2.St} (E : En K B O H σ ρ) (i : Nat) (hi : ρ[i]? = some .no) : En K B O H (σ.set i none) ρ := by
  have off : ∀ (j : Nat) (s : Sl), ρ[j]? = some s → s ≠ .no → (σ.set i none)[j]? = σ[j]? := fun j s hj hn => set_off fun z => hn (by subst z; rw [hi] at hj; cases hj; rfl)
  refine ⟨E.sub, E.bdom, E.osub, E.dom, E.adom, E.fdom, E.ext, by rw [List.length_set]; exact E.len, fun j s hj => ?_, fun j k s t as bs b hj hk w1 w2 m1 m2 => ?_⟩
  · by_cases c : s = .no
    · subst c; trivial
    · rw [off j s hj c]; exact E.at_ j s hj
  · have c1 : s ≠ .no := fun z => by subst z; exact w1.elim
    have c2 : t ≠ .no := fun z => by subst z; exact w2.elim
    rw [off j s hj c1] at w1
    rw [off k t hk c2] at w2
    exact E.inj j k s t as bs b hj hk w1 w2 m1 m2
def clM {R : Type} (CL : List Str) (c' : Str) (p q : Exn → M R) : Exn → M R := fun x P X => x.cls ∈ CL ∧ cond (isX c' x.cls) (p x P X) (q x P X)
/-- except c' as n: slot i is n's -/
theorem rh_as {CL TL : List Str} {ρh : List Sl} {Wout : WX} {ts : SuT} {l : List (Value × Option Nat × SuT)} {p q : Exn → M R} (c' : Str) (i : Nat) (T : XcA K CL TL) (hc : c' ∈ TL)
    (hs : ∀ a cls d x, RB K EX F (ρh.set i (.exc a cls d x)) (ts a cls d) (p x)) (hq : RH K EX Wout F ρh l q) (hn : ∀ s, (F.nx.ρ s)[i]? = some .no := by exact fun _ => rfl) (hb : ∀ s, (F.bk.ρ s)[i]? = some .no := by exact fun e => e.elim) (ht : ∀ s, (F.ct.ρ s)[i]? = some .no := by exact fun e => e.elim) :
    RH K EX Wout F ρh ((.ref (He.ga K c'), some i, ts) :: l) (clM CL c' p q) := fun B O H σ D x cls d E k P PX hw nx bk ct rt xc => by
  obtain ⟨h1, hw⟩ := hw
  refine ⟨isX c' x.cls, k.1 ▸ (T.p _ h1 _ hc).exm, fun hb1 a na => ?_, fun hb1 => ?_⟩
  · rw [hb1] at hw
    have E1 : En K B O H (σ.set i (some (.ref a))) (ρh.set i (.exc a cls d x)) := E.setv ⟨rfl, k⟩ fun as z => z
    exact hs a cls d x B O H _ _ E1 P PX hw (fun s O' H' σ' E' k' => nx s O' H' _ (E'.unset i (hn s)) k') (fun s O' H' σ' E' k' => bk s O' H' _ (E'.unset i (hb s)) k') (fun s O' H' σ' E' k' => ct s O' H' _ (E'.unset i (ht s)) k') rt xc
  · rw [hb1] at hw
    exact hq B O H σ D x cls d E k P PX hw nx bk ct rt xc
/-- except c' -/
theorem rh_no {CL TL : List Str} {ρh : List Sl} {Wout : WX} {ts : SuT} {l : List (Value × Option Nat × SuT)} {p q : Exn → M R} (c' : Str) (T : XcA K CL TL) (hc : c' ∈ TL)
    (hs : ∀ a cls d x, RB K EX F ρh (ts a cls d) (p x)) (hq : RH K EX Wout F ρh l q) : RH K EX Wout F ρh ((.ref (He.ga K c'), none, ts) :: l) (clM CL c' p q) := fun B O H σ D x cls d E k P PX hw nx bk ct rt xc => by
  obtain ⟨h1, hw⟩ := hw
  refine ⟨isX c' x.cls, k.1 ▸ (T.p _ h1 _ hc).exm, fun hb1 a na => ?_, fun hb1 => ?_⟩
  · rw [hb1] at hw
    exact hs a cls d x B O H _ _ E P PX hw nx bk ct rt xc
  · rw [hb1] at hw
    exact hq B O H σ D x cls d E k P PX hw nx bk ct rt xc
/-- try, where both the body and the clauses go on -/
theorem rb_try {tb : WX → TS} {l : List (Value × Option Nat × SuT)} {u : TS} {S : Type} (ρj : S → List Sl) (ρh : List Sl) {k : S → M R} {p1 : M S} {ph : Exn → M S} {Wout : WX} (hne : ρh ≠ []) (h1 : ∀ W, RB K (WE W) (frS S ρj ρh) ρ (tb W) p1) (hh : RH K EX Wout (frS S ρj F.ρx) ρh l ph) (hk : ∀ s, RB K EX F (ρj s) u (k s)) :
    RB K EX F ρ (tSeq (tTry K Wout tb l) u) (joinM (tryM p1 ph) k) := fun B O H σ D E P PX hp nx bk ct rt xc => by
  refine h1 (wTry K Wout { D with nx := u D } l) B O H σ { D with nx := u D } E (fun s => k s P PX) (fun x => ph x (fun s => k s P PX) PX) hp (fun s O' H' σ' E' k' => ?_) (fun e => e.elim) (fun e => e.elim) (fun e => e.elim) fun ρ' O' σ' x cls d H' E' le px kx => ?_
  · exact hk s B O' H' σ' D E' P PX k' nx bk ct rt xc
  · have E2 : En K B O' H' σ' ρh := E'.le (le.resolve_left hne)
    exact hh B O' H' σ' { D with nx := u D } x cls d E2 kx _ PX px (fun s O2 H2 σ2 E3 k2 => hk s B O2 H2 σ2 D E3 P PX k2 nx bk ct rt xc) (fun e => e.elim) (fun e => e.elim) (fun e => e.elim) xc
end
end Va

namespace Va
open PySem PySem.Spec PyProof.Rows L2 Bg
/-! ### numbers of parts and steps, and what is none -/
theorem within_x {len : Nat} {d : D} {G B : Prop} (hg : ∀ n : Nat, d = .int (n : Int) → n < len → G) (hb : withinD d 0 ((len : Int) - 1) = false → B) : (withinD d 0 ((len : Int) - 1) = true → G) ∧ (withinD d 0 ((len : Int) - 1) = false → B) := by
  refine ⟨fun c => ?_, hb⟩
  cases d with
  | int i =>
    simp only [withinD, Bool.and_eq_true, decide_eq_true_eq] at c
    exact hg i.toNat (by rw [Int.toNat_of_nonneg c.1]) (by omega)
  | _ => cases c
theorem within_n {len : Nat} {d : D} (h : withinD d 0 ((len : Int) - 1) = true) : ∃ n : Nat, d = .int (n : Int) ∧ n < len := by
  cases d with
  | int i =>
    simp only [withinD, Bool.and_eq_true, decide_eq_true_eq] at h
    exact ⟨i.toNat, by rw [Int.toNat_of_nonneg h.1], by omega⟩
  | _ => cases h
theorem within_t {len n : Nat} (h : n < len) : withinD (.int (n : Int)) 0 ((len : Int) - 1) = true := by
  simp only [withinD, Bool.and_eq_true, decide_eq_true_eq]
  omega
theorem within_i {len : Nat} {i : Int} (h1 : 0 ≤ i) (h2 : i < len) : withinD (.int i) 0 ((len : Int) - 1) = true := by
  simp only [withinD, Bool.and_eq_true, decide_eq_true_eq]
  omega
theorem not_within {len : Nat} {i : Int} {G : Prop} (h1 : 0 ≤ i) (h2 : i < len) (c : withinD (.int i) 0 ((len : Int) - 1) = false) : G := by
  rw [within_i h1 h2] at c
  cases c
/-- a message with a row's number in it -/
theorem msg_ok {z1 z3 : Str} {vs : List V} {a : Addr} {v : V} {N : List Str} {H : Hp} {R : VK} (h : ∃ i : Int, v = .int i ∧ 0 ≤ i ∧ i ≤ 1000000) (e : vs = [.ref a, v]) (h1 : z1.length ≤ 100) (h3 : z3.length ≤ 100) (k : ∀ z, R (.str z) H) :
    tOp (fun x y H Q => ∃ i j, x = .str i ∧ y = .str j ∧ i.length + j.length ≤ sizeLine ∧ Q (.str (i ++ j)) H) (tOp (fun x y H Q => ∃ i j, x = .str i ∧ y = .str j ∧ i.length + j.length ≤ sizeLine ∧ Q (.str (i ++ j)) H) (tC (.str z1)) (tCB (fun xs H Q => ∃ i : Int, xs = [.int i] ∧ i.natAbs.log2 < 1920 ∧ Q (.str (toString i)) H) (tCons (tVar 1) tNil))) (tC (.str z3)) (L2.start N vs) H R := by
  obtain ⟨i, rfl, i0, i1⟩ := h
  subst e
  have hn : i.natAbs < 10 ^ 7 := by omega
  have hl : i.natAbs.log2 < 1920 := by
    by_cases c : i.natAbs = 0
    · rw [c]; decide
    · exact (Nat.log2_lt c).mpr (Nat.lt_of_lt_of_le hn (Nat.le_trans (by decide : 10 ^ 7 ≤ 2 ^ 24) (Nat.pow_le_pow_right (by decide) (by decide))))
  have ht : (Str.ofString (toString i)).length ≤ 8 := by rw [PySem.ofString_length]; exact int_text_length_le10 (k := 7) (by decide) hn
  have h2 : (z1 ++ Str.ofString (toString i)).length = z1.length + (Str.ofString (toString i)).length := by show (z1.cps ++ (Str.ofString (toString i)).cps).size = _; rw [Array.size_append]; rfl
  exact ⟨.int i, rfl, i, rfl, hl, z1, _, rfl, rfl, by rw [sizeLine_eq]; omega, _, z3, rfl, rfl, by rw [h2, sizeLine_eq]; omega, k _⟩
theorem ty_int {i : Int} : tyD (.int i) ≠ none := fun z => nomatch z
end Va

namespace Va
open PySem PySem.Spec PyProof.Rows L2 Bg
/-! ### the same tree twice, empty dicts among it: == is true -/
mutual
inductive SameV (K : PySem.W.Frag) (H : Hp) : Nat → V → V → Prop
  | non {n : Nat} : SameV K H n .non .non
  | bl {n : Nat} (b : Bool) : SameV K H n (.bl b) (.bl b)
  | int {n : Nat} (i : Int) : SameV K H n (.int i) (.int i)
  | str {n : Nat} (z : Str) : SameV K H n (.str z) (.str z)
  | lst {n : Nat} {a b : Addr} {xs ys : List V} : SqL K H a xs → SqL K H b ys → SameL K H n xs ys → SameV K H (n + 1) (.ref a) (.ref b)
  | tup {n : Nat} {a b : Addr} {xs ys : List V} : SqT K H a xs → SqT K H b ys → SameL K H n xs ys → SameV K H (n + 1) (.ref a) (.ref b)
  | dct {n : Nat} {a b : Addr} : Rd H a (.dK []) → Rd H b (.dK []) → SameV K H (n + 1) (.ref a) (.ref b)
inductive SameL (K : PySem.W.Frag) (H : Hp) : Nat → List V → List V → Prop
  | nil {n : Nat} : SameL K H n [] []
  | cons {n : Nat} {x y : V} {xs ys : List V} : SameV K H n x y → SameL K H n xs ys → SameL K H n (x :: xs) (y :: ys)
end
theorem SameL.length {K : PySem.W.Frag} {H : Hp} {n : Nat} : ∀ {xs ys : List V}, SameL K H n xs ys → xs.length = ys.length
  | _, _, .nil => rfl
  | _, _, .cons _ t => congrArg (· + 1) t.length
theorem dictOf_any {P P' : Program} {w w' : World} {h : Heap} {a : Addr} (x : h.DictOf (mixKind P w) a []) : h.DictOf (mixKind P' w') a [] := by
  obtain ⟨o, es, ep, h1, h2, h3, h4, h5, h6⟩ := x
  have e : es.toList = [] := by cases h5' : es.toList with | nil => rfl | cons _ _ => rw [h5'] at h5; cases h5
  refine ⟨o, es, ep, h1, h2, h3, ?_, by rw [e]; exact .nil, List.nodup_nil⟩
  intro y hy
  rw [← Array.mem_toList_iff, e] at hy
  cases hy
section
variable {X : Cx} {pins : List (Addr × Obj)} {σ : L2.St} {H : Hp} {s : Shared}
theorem dicts_eq (I : Inv X pins σ H s) {a b : Addr} (ha : Rd H a (.dK [])) (hb : Rd H b (.dK [])) (A : Around) (hu : A.units < cLine) : SeqAt.EqAt A s (.ref a) (.ref b) true := by
  by_cases c : a = b
  · subst c; exact SeqAt.EqAt.same _
  · obtain ⟨_, sa, va, ka, da⟩ := dk_rd I.hok ha
    obtain ⟨_, sb, vb, kb, db⟩ := dk_rd I.hok hb
    cases ka; cases kb
    refine SeqAt.EqAt.of_refs c fun prog w E Q hq => ?_
    exact PySem.W.keq_eqIn (knd := mixKind prog w) sa sb (dictOf_any da) (dictOf_any db) hu (fun _ => .nil) hq
theorem all_true {n : Nat} : (List.range n).all (fun _ => true) = true := by simp
mutual
theorem SameV.eqAt (I : Inv X pins σ H s) : ∀ {n : Nat} {x y : V}, SameV X.K H n x y → ∀ (u v : Value), RelV x u → RelV y v → ∀ A : Around, A.units + n < cLine → SeqAt.EqAt A s u v true
  | _, _, _, .non, _, _, r1, r2, A, _ => by cases r1; cases r2; exact SeqAt.EqAt.same _
  | _, _, _, .bl b, _, _, r1, r2, A, _ => by cases r1; cases r2; exact SeqAt.EqAt.same _
  | _, _, _, .int i, _, _, r1, r2, A, _ => by
    obtain ⟨t, rfl⟩ := r1; obtain ⟨t', rfl⟩ := r2
    have := SeqAt.EqAt.int_int (A := A) (s := s) i t i t'
    rwa [beq_self_eq_true] at this
  | _, _, _, .str z, _, _, r1, r2, A, _ => by
    obtain ⟨t, rfl⟩ := r1; obtain ⟨t', rfl⟩ := r2
    have := SeqAt.EqAt.str_str (A := A) (s := s) z t z t'
    rwa [beq_self_eq_true] at this
  | _, _, _, .dct ha hb, _, _, r1, r2, A, hu => by
    cases r1; cases r2
    exact dicts_eq I ha hb A (by omega)
  | n + 1, _, _, .lst (a := a) (b := b) (xs := xs) (ys := ys) ha hb l, _, _, r1, r2, A, hu => by
    cases r1; cases r2
    by_cases c : a = b
    · subst c; exact SeqAt.EqAt.same _
    obtain ⟨i1, v1, p1, _⟩ := I.list ha
    obtain ⟨i2, v2, p2, _⟩ := I.list hb
    have hz : i1.toArray.size = i2.toArray.size := by rw [List.size_toArray, List.size_toArray, ← v1.length, ← v2.length, l.length]
    have := SeqAt.RcAt.lists (e := fun _ => true) (A := A) p1.isList p2.isList hz (by omega) fun j h1 h2 => by
      have := SameL.eqAt I l i1 i2 v1 v2 A.in1 (by show A.units + 1 + n < cLine; omega) j (by simpa using h1) (by simpa using h2)
      simpa using this
    rw [all_true] at this
    exact SeqAt.EqAt.of_refs c this
  | n + 1, _, _, .tup (a := a) (b := b) (xs := xs) (ys := ys) ha hb l, _, _, r1, r2, A, hu => by
    cases r1; cases r2
    by_cases c : a = b
    · subst c; exact SeqAt.EqAt.same _
    obtain ⟨i1, v1, p1, _⟩ := I.tuple ha
    obtain ⟨i2, v2, p2, _⟩ := I.tuple hb
    have hz : i1.toArray.size = i2.toArray.size := by rw [List.size_toArray, List.size_toArray, ← v1.length, ← v2.length, l.length]
    have := SeqAt.RcAt.tuples (e := fun _ => true) (A := A) p1 p2 (by omega) fun j h1 h2 => by
      have := SameL.eqAt I l i1 i2 v1 v2 A.in1 (by show A.units + 1 + n < cLine; omega) j (by simpa using h1) (by simpa using h2)
      simpa using this
    rw [all_true, hz, beq_self_eq_true] at this
    exact SeqAt.EqAt.of_refs c this
theorem SameL.eqAt (I : Inv X pins σ H s) : ∀ {n : Nat} {xs ys : List V}, SameL X.K H n xs ys → ∀ (us vs : List Value), Vals xs us → Vals ys vs → ∀ A : Around, A.units + n < cLine → ∀ j (h1 : j < us.length) (h2 : j < vs.length), SeqAt.EqAt A s us[j] vs[j] true
  | _, _, _, .nil, _, _, r1, _, A, _, j, h1, _ => by cases r1; exact absurd h1 (Nat.not_lt_zero _)
  | _, _, _, .cons t l, _, _, .cons q1 r1, .cons q2 r2, A, hu, 0, _, _ => t.eqAt I _ _ q1 q2 A hu
  | _, _, _, .cons t l, _, _, .cons q1 r1, .cons q2 r2, A, hu, j + 1, h1, h2 => SameL.eqAt I l _ _ r1 r2 A hu j (Nat.lt_of_succ_lt_succ h1) (Nat.lt_of_succ_lt_succ h2)
end
end
/-- by what both are as data, or as the same tree -/
def rEqX (K : PySem.W.Frag) : R2 := fun x y H Q => rEqD K x y H Q ∨ ∃ (a b : Addr) (xs ys : List V) (n : Nat), x = .ref a ∧ y = .ref b ∧ n ≤ 60 ∧ ((SqL K H a xs ∧ SqL K H b ys) ∨ (SqT K H a xs ∧ SqT K H b ys)) ∧ SameL K H n xs ys ∧ Q (.bl true) H
def rNeX (K : PySem.W.Frag) : R2 := fun x y H Q => rNeD K x y H Q ∨ ∃ (a b : Addr) (xs ys : List V) (n : Nat), x = .ref a ∧ y = .ref b ∧ n ≤ 60 ∧ ((SqL K H a xs ∧ SqL K H b ys) ∨ (SqT K H a xs ∧ SqT K H b ys)) ∧ SameL K H n xs ys ∧ Q (.bl false) H
section
variable {X : Cx}
theorem op_eqX (hu : X.A.units + 64 < cLine) : OpR X (compareOp .Eq) (rEqX X.K) := by
  intro pins s σ H x y v u Q I rx ry h
  rcases h with h | ⟨a, b, xs, ys, n, rfl, rfl, hn, hs, l, q⟩
  · exact op_eqD hu pins s σ H x y v u Q I rx ry h
  cases rx; cases ry
  rcases hs with ⟨ha, hb⟩ | ⟨ha, hb⟩
  · obtain ⟨i1, v1, p1, _⟩ := I.list ha
    obtain ⟨i2, v2, p2, _⟩ := I.list hb
    have hz : i1.toArray.size = i2.toArray.size := by rw [List.size_toArray, List.size_toArray, ← v1.length, ← v2.length, l.length]
    refine SeqAt.RcAt.lists (e := fun _ => true) (A := X.A) p1.isList p2.isList hz (by omega) (fun j h1 h2 => ?_) X.prog X.w _ _ ?_
    · have := SameL.eqAt I l i1 i2 v1 v2 X.A.in1 (by show X.A.units + 1 + n < cLine; omega) j (by simpa using h1) (by simpa using h2)
      simpa using this
    · rw [all_true]; exact ⟨.bl true, H, I, rfl, q⟩
  · obtain ⟨i1, v1, p1, _⟩ := I.tuple ha
    obtain ⟨i2, v2, p2, _⟩ := I.tuple hb
    have hz : i1.toArray.size = i2.toArray.size := by rw [List.size_toArray, List.size_toArray, ← v1.length, ← v2.length, l.length]
    refine SeqAt.RcAt.tuples (e := fun _ => true) (A := X.A) p1 p2 (by omega) (fun j h1 h2 => ?_) X.prog X.w _ _ ?_
    · have := SameL.eqAt I l i1 i2 v1 v2 X.A.in1 (by show X.A.units + 1 + n < cLine; omega) j (by simpa using h1) (by simpa using h2)
      simpa using this
    · rw [all_true, hz, beq_self_eq_true]; exact ⟨.bl true, H, I, rfl, q⟩
theorem op_neX (hu : X.A.units + 64 < cLine) : OpR X (compareOp .NotEq) (rNeX X.K) := by
  intro pins s σ H x y v u Q I rx ry h
  rcases h with h | ⟨a, b, xs, ys, n, rfl, rfl, hn, hs, l, q⟩
  · exact op_neD hu pins s σ H x y v u Q I rx ry h
  cases rx; cases ry
  rcases hs with ⟨ha, hb⟩ | ⟨ha, hb⟩
  · obtain ⟨i1, v1, p1, _⟩ := I.list ha
    obtain ⟨i2, v2, p2, _⟩ := I.list hb
    have hz : i1.toArray.size = i2.toArray.size := by rw [List.size_toArray, List.size_toArray, ← v1.length, ← v2.length, l.length]
    refine SeqAt.RcNeAt.lists (e := fun _ => true) (A := X.A) p1.isList p2.isList hz (by omega) (fun j h1 h2 => ?_) X.prog X.w _ _ ?_
    · have := SameL.eqAt I l i1 i2 v1 v2 X.A.in1 (by show X.A.units + 1 + n < cLine; omega) j (by simpa using h1) (by simpa using h2)
      simpa using this
    · rw [all_true]; exact ⟨.bl false, H, I, rfl, q⟩
  · obtain ⟨i1, v1, p1, _⟩ := I.tuple ha
    obtain ⟨i2, v2, p2, _⟩ := I.tuple hb
    have hz : i1.toArray.size = i2.toArray.size := by rw [List.size_toArray, List.size_toArray, ← v1.length, ← v2.length, l.length]
    refine SeqAt.RcNeAt.tuples (e := fun _ => true) (A := X.A) p1 p2 (by omega) (fun j h1 h2 => ?_) X.prog X.w _ _ ?_
    · have := SameL.eqAt I l i1 i2 v1 v2 X.A.in1 (by show X.A.units + 1 + n < cLine; omega) j (by simpa using h1) (by simpa using h2)
      simpa using this
    · rw [all_true, hz, beq_self_eq_true]; exact ⟨.bl false, H, I, rfl, q⟩
end
/-! the value layer -/
mutual
/-- data, empty dicts among it, at most so deep -/
def emD : Nat → D → Bool
  | _, .non => true
  | _, .bl _ => true
  | _, .int _ => true
  | _, .str _ => true
  | n, .lst ds => n != 0 && emDs (n - 1) ds
  | n, .tup ds => n != 0 && emDs (n - 1) ds
  | n, .dct es => n != 0 && es.isEmpty
  | _, .dcp _ => false
  | _, .obj _ _ => false
def emDs : Nat → List D → Bool
  | _, [] => true
  | n, d :: ds => emD n d && emDs n ds
end
mutual
theorem emD_up : ∀ {n : Nat} {d : D}, emD n d = true → emD (n + 1) d = true
  | _, .non, _ => rfl
  | _, .bl _, _ => rfl
  | _, .int _, _ => rfl
  | _, .str _, _ => rfl
  | 0, .lst _, h => Bool.noConfusion (show false = true from h)
  | 0, .tup _, h => Bool.noConfusion (show false = true from h)
  | 0, .dct _, h => Bool.noConfusion (show false = true from h)
  | n + 1, .lst ds, h => show emDs (n + 1) ds = true from emDs_up (show emDs n ds = true from h)
  | n + 1, .tup ds, h => show emDs (n + 1) ds = true from emDs_up (show emDs n ds = true from h)
  | n + 1, .dct es, h => h
  | _, .dcp _, h => Bool.noConfusion (show false = true from h)
  | _, .obj _ _, h => Bool.noConfusion (show false = true from h)
theorem emDs_up : ∀ {n : Nat} {ds : List D}, emDs n ds = true → emDs (n + 1) ds = true
  | _, [], _ => rfl
  | n, d :: ds, h => by
    rw [emDs, Bool.and_eq_true] at h
    rw [emDs, Bool.and_eq_true]
    exact ⟨emD_up h.1, emDs_up h.2⟩
end
section
variable {K : PySem.W.Frag} {O : AP} {H : Hp}
mutual
theorem Rep.same : ∀ {n : Nat} {d : D} {x y : V}, emD n d = true → Rep K O H x d → Rep K O H y d → SameV K H n x y
  | _, _, _, _, _, .non, .non => .non
  | _, _, _, _, _, .bl b, .bl _ => .bl b
  | _, _, _, _, _, .int i, .int _ => .int i
  | _, _, _, _, _, .str z, .str _ => .str z
  | 0, .lst _, _, _, h, _, _ => Bool.noConfusion (show false = true from h)
  | 0, .tup _, _, _, h, _, _ => Bool.noConfusion (show false = true from h)
  | 0, .dct _, _, _, h, _, _ => Bool.noConfusion (show false = true from h)
  | n + 1, .lst _, _, _, h, .lst _ h1 r1, .lst _ h2 r2 => .lst (.inl (.inl h1)) (.inl (.inl h2)) (RepL.same (show emDs n _ = true from h) r1 r2)
  | n + 1, .tup _, _, _, h, .tup _ h1 r1, .tup _ h2 r2 => .tup (.inl (.inl h1)) (.inl (.inl h2)) (RepL.same (show emDs n _ = true from h) r1 r2)
  | n + 1, .dct [], _, _, h, .dct _ h1 _ k1 _, .dct _ h2 _ k2 _ => by
    rw [List.map_nil, List.map_eq_nil_iff] at k1 k2
    subst k1 k2
    exact .dct h1 h2
  | n + 1, .dct (_ :: _), _, _, h, _, _ => Bool.noConfusion (show false = true from h)
  | _, .dcp _, _, _, h, _, _ => Bool.noConfusion (show false = true from h)
  | _, .obj _ _, _, _, h, _, _ => Bool.noConfusion (show false = true from h)
theorem RepL.same : ∀ {n : Nat} {ds : List D} {xs ys : List V}, emDs n ds = true → RepL K O H xs ds → RepL K O H ys ds → SameL K H n xs ys
  | _, _, _, _, _, .nil, .nil => .nil
  | _, _ :: _, _, _, h, .cons r1 l1, .cons r2 l2 => by
    rw [emDs, Bool.and_eq_true] at h
    exact .cons (Rep.same h.1 r1 r2) (RepL.same h.2 l1 l2)
end
end
/-- == or != of trees: as data, or of the same tree twice -/
def eqX (neg : Bool) (d e : D) : M Bool := fun P X => eqD neg d e P X ∨ (d = e ∧ (∃ n ds, n ≤ 60 ∧ (d = .lst ds ∨ d = .tup ds) ∧ emDs n ds = true) ∧ P neg.not)
/-- what is read as a tree, or as a list seen -/
class SeenX {α : Type} (K : PySem.W.Frag) (res : Res α) (en : outParam (α → D)) : Prop where
  dp : ∀ {O : AP} {H0 H : Hp} {v : V} {a : α}, res O H0 H v a → plain (en a) = true → Dp K H v (toP (en a))
  sl : ∀ {O : AP} {H0 H : Hp} {v : V} {a : α} {ds : List D}, res O H0 H v a → en a = .lst ds → ∃ p xs, v = .ref p ∧ SqL K H p xs ∧ RepL K O H xs ds
  st : ∀ {O : AP} {H0 H : Hp} {v : V} {a : α} {ds : List D}, res O H0 H v a → en a = .tup ds → ∃ p xs, v = .ref p ∧ SqT K H p xs ∧ RepL K O H xs ds
instance {K : PySem.W.Frag} {α : Type} {en : α → D} : SeenX K (resE K en) en where
  dp := fun r p => Rep.dp r p
  sl := fun {O H0 H v a ds} r e => by
    have r' : Rep K O H v (.lst ds) := by rw [← e]; exact r
    cases r' with | lst _ h l => exact ⟨_, _, rfl, .inl (.inl h), l⟩
  st := fun {O H0 H v a ds} r e => by
    have r' : Rep K O H v (.tup ds) := by rw [← e]; exact r
    cases r' with | tup _ h l => exact ⟨_, _, rfl, .inl (.inl h), l⟩
section
variable {K : PySem.W.Frag} {EX : L2.St → XK} {ρ : List Sl} {α β : Type}
theorem eqX_op (neg : Bool) {res1 : Res α} {res2 : Res β} {en : α → D} {en' : β → D} [SeenX K res1 en] [SeenX K res2 en'] {O : AP} {H0 H : Hp} {x y : V} {a : α} {b : β} {P : Bool → Prop} {PX : Exn → Prop} {Q : VK} (r1 : res1 O H0 H x a) (r2 : res2 O H0 H y b) (p : eqX neg (en a) (en' b) P PX) (q : ∀ c, P c → Q (.bl c) H) :
    (if neg then rNeX K else rEqX K) x y H Q := by
  rcases p with ⟨f1, f2, s1, s2, p⟩ | ⟨e, ⟨n, ds, hn, hd, em⟩, p⟩
  · have d1 := SeenX.dp (K := K) (res := res1) r1 f1
    have d2 := SeenX.dp (K := K) (res := res2) r2 f2
    cases neg with
    | false => exact .inl ⟨_, _, d1, d2, s1, s2, q _ p⟩
    | true => exact .inl ⟨_, _, d1, d2, s1, s2, q _ p⟩
  · rcases hd with hd | hd
    · obtain ⟨p1, xs, rfl, sq1, l1⟩ := SeenX.sl (K := K) (res := res1) r1 hd
      obtain ⟨p2, ys, rfl, sq2, l2⟩ := SeenX.sl (K := K) (res := res2) r2 (e ▸ hd)
      have sl := RepL.same em l1 l2
      cases neg with
      | false => exact .inr ⟨p1, p2, xs, ys, n, rfl, rfl, hn, .inl ⟨sq1, sq2⟩, sl, q _ p⟩
      | true => exact .inr ⟨p1, p2, xs, ys, n, rfl, rfl, hn, .inl ⟨sq1, sq2⟩, sl, q _ p⟩
    · obtain ⟨p1, xs, rfl, sq1, l1⟩ := SeenX.st (K := K) (res := res1) r1 hd
      obtain ⟨p2, ys, rfl, sq2, l2⟩ := SeenX.st (K := K) (res := res2) r2 (e ▸ hd)
      have sl := RepL.same em l1 l2
      cases neg with
      | false => exact .inr ⟨p1, p2, xs, ys, n, rfl, rfl, hn, .inr ⟨sq1, sq2⟩, sl, q _ p⟩
      | true => exact .inr ⟨p1, p2, xs, ys, n, rfl, rfl, hn, .inr ⟨sq1, sq2⟩, sl, q _ p⟩
theorem re_eqX {ta tb : TE} {res1 : Res α} {res2 : Res β} [Lasts res1] [Lasts res2] {en : α → D} {en' : β → D} [SeenX K res1 en] [SeenX K res2 en'] {wa : M α} {wb : M β} (ha : RG K EX ρ ta res1 wa) (hb : RG K EX ρ tb res2 wb) : RE K EX ρ (tOp (rEqX K) ta tb) D.bl (wa >>= fun a => wb >>= fun b => eqX false (en a) (en' b)) :=
  rg_op (fun O H0 H x y a b P PX Q _ r1 r2 p q => eqX_op false r1 r2 p fun c z => q c _ H z (.refl _ _) (.bl _)) ha hb
theorem re_neX {ta tb : TE} {res1 : Res α} {res2 : Res β} [Lasts res1] [Lasts res2] {en : α → D} {en' : β → D} [SeenX K res1 en] [SeenX K res2 en'] {wa : M α} {wb : M β} (ha : RG K EX ρ ta res1 wa) (hb : RG K EX ρ tb res2 wb) : RE K EX ρ (tOp (rNeX K) ta tb) D.bl (wa >>= fun a => wb >>= fun b => eqX true (en a) (en' b)) :=
  rg_op (fun O H0 H x y a b P PX Q _ r1 r2 p q => eqX_op true r1 r2 p fun c z => q c _ H z (.refl _ _) (.bl _)) ha hb
end
/-- a list seen -/
instance {K : PySem.W.Frag} {α : Type} {en : α → D} : SeenX K (resQ K en) (fun l => .lst (l.map en)) where
  dp := fun r p => Seen.dp (K := K) (res := resQ K en) r p
  sl := fun {O H0 H v a ds} ⟨p, vs, e1, h, r⟩ e => by cases e; exact ⟨p, vs, e1, h, r⟩
  st := fun _ e => nomatch e
end Va

namespace Va
open PySem PySem.Spec PyProof.Rows L2 Bg
/-! ### isinstance of an object and a class of the text -/
section
variable {K : PySem.W.Frag} {EX : L2.St → XK} {ρ : List Sl} {α β R : Type} {F : Fr R}
theorem re_isiO {c : Str} {ta : TE} {en : α → D} {gs : α → List (Str × D)} {wa : M α} (cl : Cls K (He.ga K c)) (T : IsC K c) (ho : ∀ a, en a = .obj c (gs a)) (ha : RE K EX ρ ta en wa) : RE K EX ρ (tCB (rIsi K) (tCons ta (tCons (tC (.ref (He.ga K c))) tNil))) D.bl (wa >>= fun _ => pure true) := fun B O H σ E P PX Q hw hq hx =>
  ha B O H σ E _ PX _ hw (fun a v H1 p e r => by
    have r' : Rep K O H1 v (.obj c (gs a)) := by rw [← ho a]; exact r
    cases r' with
    | obj nO h hf rl => exact ⟨_, _, .ref (He.ga K c), .ref (He.ga K c), true, rfl, .own _, .base (.ins h cl T.ha T.hn T.ht T.hm), by unfold PySem.W.kitOne; rw [if_pos (beq_self_eq_true _)], hq _ _ H1 p e (.bl _)⟩) hx
/-! ### xs.insert(i, e) -/
theorem rb_insert {te ti : TE} {en : α → D} {w : M α} {wi : M Int} {u : TS} {l : List α} {k : List α → M R} (i : Nat) (hi : RE K EX ρ ti D.int wi) (he : RE K EX ρ te en w) (hk : ∀ l', RB K EX F (ρ.set i (.ow (.lst (l'.map en)))) u (k l')) (h : ρ[i]? = some (.ow (.lst (l.map en))) := by rfl)
    (hx : LeX F.ρx ρ := by first | exact lex_nil | (refine lex_le ?_; repeat (first | exact le_nil | refine le_cons ?_ | refine le_no ?_))) :
    RB K EX F ρ (tSeq (tDrop (tBM K "list" (fun x vs H Q => ∃ (l : Addr) (xs : List V) (i : Int) (y : V), x = .ref l ∧ vs = [.int i, y] ∧ H l = some (.lst xs) ∧ xs.length < sizeLine ∧ 0 ≤ i ∧ i < 2 ^ 63 ∧ Q .non (upd H l (.lst (xs.take i.toNat ++ [y] ++ xs.drop i.toNat)))) (tVar i) (tCons ti (tCons te tNil)))) u)
      (wi >>= fun j => w >>= fun a => (need (l.length < sizeLine ∧ 0 ≤ j ∧ j < 2 ^ 63) >>= fun _ => k (l.take j.toNat ++ [a] ++ l.drop j.toNat))) := fun B O H σ D E P PX hp nx bk ct rt xc => by
  obtain ⟨p, vs, hs, hpl, r, mk⟩ := E.mutL (ds' := (l.map en)) h
  refine ⟨.ref p, hs, .inl ⟨rfl, vs, SqL.of hpl⟩, hi B O H σ E _ PX _ hp (fun j vj H0 p0 e0 r0 => ?_) fun x cls d H' px e k => xc ρ O σ x cls d H' (E.ex e) hx px k⟩
  cases r0
  refine he B O H0 σ (E.ex e0) _ PX _ p0 (fun a v H1 p1 e1 r1 => ?_) fun x cls d H' px e k => xc ρ O σ x cls d H' (E.ex (e0.trans e)) hx px k
  have E1 := E.ex (e0.trans e1)
  obtain ⟨p', vs', hs', hpl', r', mk'⟩ := E1.mutL (ds' := ((l.take j.toNat ++ [a] ++ l.drop j.toNat).map en)) h
  rw [hs] at hs'
  cases hs'
  have hl := r'.length
  rw [List.length_map] at hl
  refine ⟨p, vs', j, v, rfl, rfl, hpl', by rw [hl]; exact p1.1.1, p1.1.2.1, p1.1.2.2, hk _ B O _ σ D (mk' _ ?_) P PX p1.2 nx bk ct rt xc⟩
  rw [List.map_append, List.map_append, List.map_take, List.map_drop]
  exact ((r'.take _).app (.cons r1 .nil)).app (r'.drop _)
end
/-! ### questions that may be too long or too deep -/
structure QuSh (rows : List Sr) (g : Nat) : Prop where
  one : 1 ≤ rows.length
  big : rows.length ≤ 1000
  way : ∀ r ∈ rows, r.1 = "/" ∨ r.1 = "//"
  lab : ∀ r ∈ rows, labelB r.2.1 = true
  dv : Dv (qds rows)
  goal : g < rows.length
theorem QuOk.sh {rows : List Sr} {g : Nat} (h : QuOk rows g) : QuSh rows g := ⟨h.one, by have := h.most; omega, h.way, h.lab, h.dv, h.goal⟩
theorem QuSh.ok {rows : List Sr} {g : Nat} (h : QuSh rows g) (h1 : rows.length ≤ 100) (h2 : ∀ r ∈ rows, r.2.2 ≤ 30) : QuOk rows g := ⟨h.one, h1, h.way, h.lab, h.dv, h2, h.goal⟩
end Va

namespace Va
open PySem PySem.Spec PyProof.Rows L2 Bg
/-! ### two questions laid together, of any length and depth -/
theorem laid_mem {r1 r2 : List Sr} {g1 e : Nat} {r : Sr} (hr : r ∈ laidR r1 g1 e r2) : r ∈ r1 ∨ ∃ r' ∈ r2, r = (r'.1, r'.2.1, r'.2.2 + dg (qds r1) g1 - 1) := by
  unfold laidR at hr
  rw [List.mem_append, List.mem_append] at hr
  rcases hr with (hr | hr) | hr
  · exact .inl (List.mem_of_mem_take hr)
  · obtain ⟨r', q1, q2⟩ := List.mem_map.mp hr
    exact .inr ⟨r', List.mem_of_mem_drop q1, q2.symm⟩
  · exact .inl (List.mem_of_mem_drop hr)
theorem laid_sh {r1 r2 : List Sr} {g1 g2 e : Nat} (ok1 : QuOk r1 g1) (ok2 : QuOk r2 g2) (ep : EndP (qds r1) g1 e) : QuSh (laidR r1 g1 e r2) (laidG g1 e g2) := by
  obtain ⟨he, hg⟩ := ends_lt ep
  have h1 := ok1.most
  have h2 := ok2.one
  have h3 := ok2.most
  have hgo := ok2.goal
  refine ⟨by rw [laid_len he h2]; omega, by rw [laid_len he h2]; omega, fun r hr => ?_, fun r hr => ?_, laid_dv ok1.dv ok2.dv ep h2, ?_⟩
  · rcases laid_mem hr with h | ⟨r', h, rfl⟩
    · exact ok1.way r h
    · exact ok2.way r' h
  · rcases laid_mem hr with h | ⟨r', h, rfl⟩
    · exact ok1.lab r h
    · exact ok2.lab r' h
  · rw [laid_len he h2]; unfold laidG; split <;> omega
/-! ### the road, and the rest from one of its steps on -/
abbrev OnR (ds : List Int) (g i : Nat) : Prop := i = g ∨ An ds i g
def restR (r : List Sr) (s e : Nat) : List Sr := match r[s]? with
  | none => []
  | some b => ((("/" : Str), b.2.1, (1 : Int)) : Sr) :: ((r.take (e + 1)).drop (s + 1)).map fun x => (x.1, x.2.1, x.2.2 - b.2.2 + 1)
section
variable {r : List Sr} {s e g : Nat} {b : Sr}
theorem rest_eq (hb : r[s]? = some b) : restR r s e = ((("/" : Str), b.2.1, (1 : Int)) : Sr) :: ((r.take (e + 1)).drop (s + 1)).map fun x => (x.1, x.2.1, x.2.2 - b.2.2 + 1) := by unfold restR; rw [hb]
theorem rest_len (hb : r[s]? = some b) (he : e < r.length) (hs : s ≤ e) : (restR r s e).length = e - s + 1 := by
  rw [rest_eq hb, List.length_cons, List.length_map, List.length_drop, List.length_take]
  omega
theorem rest_at (hb : r[s]? = some b) {k : Nat} (h0 : 0 < k) (hk : s + k ≤ e) : (restR r s e)[k]? = r[s + k]?.map fun x => (x.1, x.2.1, x.2.2 - b.2.2 + 1) := by
  obtain ⟨j, rfl⟩ : ∃ j, k = j + 1 := ⟨k - 1, by omega⟩
  rw [rest_eq hb, List.getElem?_cons_succ, List.getElem?_map, List.getElem?_drop, List.getElem?_take, if_pos (by omega), show s + 1 + j = s + (j + 1) by omega]
theorem rest_zero (hb : r[s]? = some b) : (restR r s e)[0]? = some ((("/" : Str), b.2.1, (1 : Int)) : Sr) := by rw [rest_eq hb]; rfl
theorem cut_cons (hb : r[s]? = some b) (hs : s ≤ e) : (r.take (e + 1)).drop s = b :: (r.take (e + 1)).drop (s + 1) := by
  obtain ⟨h, rfl⟩ := List.getElem?_eq_some_iff.mp hb
  have hl : s < (r.take (e + 1)).length := by rw [List.length_take]; omega
  rw [List.drop_eq_getElem_cons hl]
  congr 1
  exact List.getElem_take
theorem rest_ok (ok : QuOk r g) (ep : EndP (qds r) s e) (on : OnR (qds r) g s) (hb : r[s]? = some b) : QuOk (restR r s e) (g - s) := by
  obtain ⟨he, hs⟩ := ends_lt ep
  have hl := rest_len hb he hs
  have hm := ok.most
  have hge : g ≤ e ∧ s ≤ g := by
    rcases on with rfl | a
    · exact ⟨hs, Nat.le_refl _⟩
    · have := (ep.an g).mp a; omega
  have db := qds_at hb
  have dpos : ∀ k, 0 < k → s + k ≤ e → ∃ x, r[s + k]? = some x ∧ (restR r s e)[k]? = some (x.1, x.2.1, x.2.2 - b.2.2 + 1) ∧ b.2.2 < x.2.2 := fun k h0 hk => by
    obtain ⟨x, hx⟩ := get_lt (l := r) (n := s + k) (by omega)
    refine ⟨x, hx, by rw [rest_at hb h0 hk, hx]; rfl, ?_⟩
    have := ((ep.an (s + k)).mpr ⟨by omega, by omega⟩).dlt
    rw [db, qds_at hx] at this
    exact this
  have mem : ∀ x ∈ restR r s e, x = ((("/" : Str), b.2.1, (1 : Int)) : Sr) ∨ ∃ y ∈ r, x = (y.1, y.2.1, y.2.2 - b.2.2 + 1) := fun x hx => by
    obtain ⟨k, hk⟩ := List.mem_iff_getElem?.mp hx
    by_cases h0 : k = 0
    · subst h0; rw [rest_zero hb] at hk; cases hk; exact .inl rfl
    · have hkl := (List.getElem?_eq_some_iff.mp hk).1
      obtain ⟨y, q1, q2, _⟩ := dpos k (by omega) (by omega)
      rw [q2] at hk; cases hk
      exact .inr ⟨y, List.mem_of_getElem? q1, rfl⟩
  have b1 := ok.dv.pos s (by rw [qds_len]; omega)
  rw [db] at b1
  have dg0 : dg (qds (restR r s e)) 0 = 1 := qds_at (rest_zero hb)
  refine ⟨by omega, by omega, fun x hx => ?_, fun x hx => ?_, ⟨dg0, fun i hi => ?_⟩, fun x hx => ?_, by omega⟩
  · rcases mem x hx with rfl | ⟨y, hy, rfl⟩
    · exact .inl rfl
    · exact ok.way y hy
  · rcases mem x hx with rfl | ⟨y, hy, rfl⟩
    · exact ok.lab b (List.mem_of_getElem? hb)
    · exact ok.lab y hy
  · rw [qds_len, hl] at hi
    obtain ⟨x, hx, hx2, hlt⟩ := dpos (i + 1) (by omega) (by omega)
    have d1 := qds_at hx2
    have d1' := qds_at hx
    have two := (ok.dv.two (s + i) (by rw [qds_len]; omega)).2
    have e1 : s + i + 1 = s + (i + 1) := by omega
    rw [e1, d1'] at two
    rw [d1]
    refine ⟨by show 2 ≤ x.2.2 - b.2.2 + 1; omega, ?_⟩
    show x.2.2 - b.2.2 + 1 ≤ _
    by_cases h0 : i = 0
    · subst h0
      rw [dg0]
      rw [Nat.add_zero, db] at two
      omega
    · obtain ⟨y, hy, hy2, _⟩ := dpos i (by omega) (by omega)
      rw [qds_at hy2]
      rw [qds_at hy] at two
      show _ ≤ y.2.2 - b.2.2 + 1 + 1
      omega
  · rcases mem x hx with rfl | ⟨y, hy, rfl⟩
    · show (1 : Int) ≤ 30; decide
    · have := ok.deep y hy
      show y.2.2 - b.2.2 + 1 ≤ 30
      omega
end
/-- the first step gets another label -/
theorem first_set {r : List Sr} {g : Nat} (ok : QuOk r g) {a : Sr} (ha : r[0]? = some a) {l : Str} (hl : labelB l = true) : QuOk (r.set 0 (a.1, l, 1)) g := by
  have hd : qds (r.set 0 (a.1, l, 1)) = qds r := by
    have e1 : a.2.2 = 1 := by rw [← qds_at ha]; exact ok.dv.one
    unfold qds
    rw [List.map_set]
    show (r.map fun x => x.2.2).set 0 1 = r.map fun x => x.2.2
    cases r with
    | nil => rfl
    | cons b t => simp at ha; subst ha; simp [e1]
  have mem : ∀ x ∈ r.set 0 (a.1, l, 1), x ∈ r ∨ x = (a.1, l, 1) := fun x hx => (List.mem_or_eq_of_mem_set hx)
  refine ⟨by rw [List.length_set]; exact ok.one, by rw [List.length_set]; exact ok.most, fun x hx => ?_, fun x hx => ?_, by rw [hd]; exact ok.dv, fun x hx => ?_, by rw [List.length_set]; exact ok.goal⟩
  · rcases mem x hx with h | rfl
    · exact ok.way x h
    · exact ok.way a (List.mem_of_getElem? ha)
  · rcases mem x hx with h | rfl
    · exact ok.lab x h
    · exact hl
  · rcases mem x hx with h | rfl
    · exact ok.deep x h
    · show (1 : Int) ≤ 30; decide
/-- the road while it is found -/
structure RdW (ds : List Int) (g : Nat) (l : List Int) : Prop where
  hd : ∃ h : Nat, l[0]? = some (h : Int) ∧ OnR ds g h ∧ Rs l (fun i => OnR ds g i ∧ h ≤ i)
theorem RdW.start {ds : List Int} {g : Nat} : RdW ds g [(g : Int)] := by
  refine ⟨g, rfl, .inl rfl, ⟨List.pairwise_singleton .., fun x => ?_⟩⟩
  rw [List.mem_singleton]
  constructor
  · rintro rfl; exact ⟨g, rfl, .inl rfl, Nat.le_refl _⟩
  · rintro ⟨i, rfl, rfl | a, h⟩
    · rfl
    · exact absurd a.1 (by omega)
theorem RdW.fin {ds : List Int} {g h : Nat} {l : List Int} (w : RdW ds g l) (h0 : l[0]? = some (h : Int)) (up : UpAt ds h none) : Rs l (OnR ds g) := by
  obtain ⟨h', h1, on, rs⟩ := w.hd
  have e : h' = h := by rw [h0] at h1; injection h1 with h1; omega
  subst e
  refine rs.cg fun i => ⟨fun z => z.1, fun z => ⟨z, ?_⟩⟩
  rcases Nat.lt_or_ge i h' with c | c
  · exfalso
    rcases on with rfl | a
    · rcases z with rfl | z
      · omega
      · exact up i z
    · rcases z with rfl | z
      · have := a.1; omega
      · exact up i (z.mid a c)
  · exact c
theorem RdW.step {ds : List Int} {g h n : Nat} {l : List Int} (w : RdW ds g l) (h0 : l[0]? = some (h : Int)) (p : Par ds n h) : RdW ds g ((n : Int) :: l) := by
  obtain ⟨h', h1, on, rs⟩ := w.hd
  have e : h' = h := by rw [h0] at h1; injection h1 with h1; omega
  subst e
  have on' : OnR ds g n := by
    rcases on with rfl | a
    · exact .inr p.1
    · exact .inr (p.1.trans a)
  have hlt := p.1.1
  refine ⟨n, rfl, on', ⟨List.pairwise_cons.mpr ⟨fun x hx => ?_, rs.up⟩, fun x => ?_⟩⟩
  · obtain ⟨i, rfl, _, hi⟩ := (rs.mem x).mp hx
    omega
  · rw [List.mem_cons, rs.mem]
    constructor
    · rintro (rfl | ⟨i, rfl, a, b⟩)
      · exact ⟨n, rfl, on', Nat.le_refl _⟩
      · exact ⟨i, rfl, a, by omega⟩
    · rintro ⟨i, rfl, a, b⟩
      by_cases c : i = n
      · exact .inl (by rw [c])
      · refine .inr ⟨i, rfl, a, ?_⟩
        rcases Nat.lt_or_ge i h' with d | d
        · exfalso
          have an : An ds i h' := by
            rcases on with rfl | q
            · rcases a with rfl | a
              · omega
              · exact a
            · rcases a with rfl | a
              · have := q.1; omega
              · exact a.mid q d
          rcases (p.all i).mp an with rfl | an
          · exact c rfl
          · have := an.1; omega
        · exact d
end Va

namespace Va
open PySem PySem.Spec PyProof.Rows L2 Bg
/-! ### records: dicts with written texts as keys -/
def kz (zs : List Str) : List Key := zs.map Sum.inr
def eR {α : Type} (zs : List Str) (fs : α → List D) (a : α) : D := .dct ((kz zs).zip (fs a))
theorem kz_inj : ∀ (a b : List Str), kz a = kz b → a = b
  | [], [], _ => rfl
  | [], _ :: _, h => nomatch h
  | _ :: _, [], h => nomatch h
  | x :: a, y :: b, h => by
    have h : (Sum.inr x : Key) :: kz a = Sum.inr y :: kz b := h
    injection h with h1 h2
    rw [Sum.inr.inj h1, kz_inj a b h2]
theorem merge_nd : ∀ (kvs acc : List (Key × V)), (kvs.map (·.1)).Nodup → (∀ k ∈ kvs.map (·.1), k ∉ acc.map (·.1)) → mergeK acc kvs = acc ++ kvs
  | [], acc, _, _ => (List.append_nil acc).symm
  | (k, v) :: r, acc, nd, dj => by
    have nk : (acc.any fun kv => decide (kv.1 = k)) = false := by
      rw [List.any_eq_false]
      intro x hx hd
      exact dj k List.mem_cons_self (List.mem_map.mpr ⟨x, hx, of_decide_eq_true hd⟩)
    have e : putK acc k v = acc ++ [(k, v)] := by unfold putK; rw [if_neg (by rw [nk]; exact Bool.false_ne_true)]
    have h := List.nodup_cons.mp (show (k :: r.map (·.1)).Nodup from nd)
    show mergeK (putK acc k v) r = _
    rw [e, merge_nd r (acc ++ [(k, v)]) h.2 fun k' hk' hm => ?_, List.append_assoc]
    · rfl
    · rw [List.map_append, List.mem_append] at hm
      rcases hm with hm | hm
      · exact dj k' (List.mem_cons_of_mem _ hk') hm
      · have : k' = k := List.mem_singleton.mp hm
        exact h.1 (this ▸ hk')
section
variable {K : PySem.W.Frag} {EX : L2.St → XK} {ρ : List Sl} {α β : Type}
/-- pairs of a display -/
def RP (K : PySem.W.Frag) (EX : L2.St → XK) (ρ : List Sl) (trs : List (TE × TE)) (zs : List Str) (fs : α → List D) (w : M α) : Prop :=
  ∀ (B : Bs) (O : AP) (H : Hp) (σ : L2.St), En K B O H σ ρ → ∀ (P : α → Prop) (PX : Exn → Prop) (Q : List (V × V) → Hp → Prop), w P PX →
    (∀ a vs H', P a → Ext No H H' → RepL K O H' vs (fs a) → Q ((zs.map V.str).zip vs) H') → (∀ x cls d H', PX x → Ext No H H' → XOk K O H' cls d x → EX σ cls d H') → tPairs trs σ H Q
theorem rp_nil : RP K EX ρ [] [] (fun _ : Unit => []) (pure ()) := fun B O H σ E P PX Q hw hq hx => hq () [] H hw (.refl _ _) .nil
theorem rp_cons {te : TE} {trs : List (TE × TE)} {zs : List Str} {en : α → D} {fs : β → List D} {wa : M α} {wb : M β} (z : Str) (ha : RE K EX ρ te en wa) (hb : RP K EX ρ trs zs fs wb) : RP K EX ρ ((tC (.str z), te) :: trs) (z :: zs) (fun p : α × β => en p.1 :: fs p.2) (wa >>= fun a => wb >>= fun b => pure (a, b)) := fun B O H σ E P PX Q hw hq hx =>
  ha B O H σ E _ PX _ hw (fun a v H1 p1 e1 r1 => hb B O H1 σ (E.ex e1) _ PX _ p1 (fun b vs H2 p2 e2 r2 => hq (a, b) (v :: vs) H2 p2 (e1.trans e2) (.cons (Rep.ex r1 e2) r2)) fun x cls d H' px e k => hx x cls d H' px (e1.trans e) k) hx
/-- {"a": .., "b": ..} -/
theorem re_rec {trs : List (TE × TE)} {zs : List Str} {fs : α → List D} {w : M α} (hl : ∀ a, (fs a).length = zs.length) (hz : zs.length ≤ 15) (nd : zs.Nodup) (ns : zs ≠ ([("number" : Str), "seed", "turn"] : List Str)) (h : RP K EX ρ trs zs fs w) : RE K EX ρ (tDisp trs) (eR zs fs) w := fun B O H σ E P PX Q hw hq hx => by
  intro p hp
  have E0 := E.shun (H' := upd H p (.dK [])) hp (.new hp) (by rw [upd_same]; exact fun z => nomatch z)
  have e0 : Ext No H (upd H p (.dK [])) := .new hp
  refine h B (Pl O p) _ σ E0 _ PX _ hw (fun a vs H1 pa e1 r1 => ?_) fun x cls d H' px e k => hx x cls d H' px (e0.trans e) (k.mono fun b z => .inl z)
  have ns0 : ¬ isSrc (.dK []) := fun ⟨_, _, _, z⟩ => nomatch z
  have hp1 : H1 p = some (.dK []) := e1.keep p _ (fun z => z) ns0 upd_same
  have hvl : vs.length = zs.length := by rw [r1.length, hl]
  have hkl : (kz zs).length = zs.length := List.length_map ..
  have m1 : ((kz zs).zip vs).map (·.1) = kz zs := List.map_fst_zip (by omega)
  have m2 : ((kz zs).zip vs).map (·.2) = vs := List.map_snd_zip (by omega)
  have d1 : ((kz zs).zip (fs a)).map (·.1) = kz zs := List.map_fst_zip (by rw [hl]; omega)
  have d2 : ((kz zs).zip (fs a)).map (·.2) = fs a := List.map_snd_zip (by rw [hl]; omega)
  have ndk : (kz zs).Nodup := List.Pairwise.map _ (fun a b n z => n (Sum.inr.inj z)) nd
  refine ⟨hp1, (kz zs).zip vs, ?_, by rw [List.length_zip]; omega, ?_⟩
  · unfold kz
    rw [List.zip_map_left, List.zip_map_left, List.map_map]
    rfl
  have hm : mergeK [] ((kz zs).zip vs) = (kz zs).zip vs := (merge_nd _ [] (by rw [m1]; exact ndk) fun k _ z => nomatch z).trans (List.nil_append _)
  rw [hm]
  have nsr : ¬ isSrc (.dK ((kz zs).zip vs)) := fun ⟨n, s, t, z⟩ => by
    have := congrArg (List.map (·.1)) z
    rw [m1] at this
    have e2 : kz zs = kz ([("number" : Str), "seed", "turn"] : List Str) := this
    exact ns (kz_inj _ _ e2)
  have up : Ext (fun b => b = p) H1 (upd H1 p (.dK ((kz zs).zip vs))) := up_ext hp1 ns0
  have e12 := e0.trans e1
  have eE : Ext No H (upd H1 p (.dK ((kz zs).zip vs))) := by
    refine ⟨fun b o n s q => ?_, fun b q => up.src b (e12.src b q)⟩
    rw [upd_ne (fun z => by rw [z, hp] at q; cases q)]
    exact e12.keep b o n s q
  have nO : ¬ O p := fun z => E.dom p z hp
  refine hq a _ _ pa eE (.dct nO (.inl upd_same) nsr (by rw [m1, d1]) ?_)
  rw [m2, d2]
  exact (r1.ext up fun b z => .inr z).mono fun b z => .inl z
/-- r["a"] -/
theorem re_rget {td : TE} {zs : List Str} {fs : α → List D} {en' : β → D} {w : M α} (z : Str) (i : Nat) (g : α → β) (hi : zs[i]? = some z) (nd : zs.Nodup) (hl : ∀ a, (fs a).length = zs.length) (hg : ∀ a, (fs a)[i]? = some (en' (g a))) (hd : RE K EX ρ td (eR zs fs) w) : RE K EX ρ (tDGet td (tC (.str z))) en' (w >>= fun a => pure (g a)) := fun B O H σ E P PX Q hw hq hx =>
  hd B O H σ E _ PX _ hw (fun a v H1 p1 e1 r1 => by
    have e : eR zs fs a = eD (Sum.inr : Str → Key) (fun d : D => d) (zs.zip (fs a)) := by
      unfold eR eD kz enc
      rw [List.zip_map_left]
      rfl
    rw [resE, e] at r1
    obtain ⟨p, o, ea, hgt, ho⟩ := dget_rep (k := z) r1 (.str z)
    have hget : getL (zs.zip (fs a)) z = some (en' (g a)) := getL_zip zs (fs a) i hi nd (hg a)
    rcases ho with ⟨h1, h2⟩ | ⟨x', u, h1, h2, h3⟩
    · rw [hget] at h1; cases h1
    · rw [hget] at h1; cases h1
      subst h2
      exact ⟨p, u, ea, hgt, hq _ _ _ p1 e1 h3⟩) hx
where getL_zip : ∀ (zs : List Str) (ds : List D) (i : Nat) {z : Str} {d : D}, zs[i]? = some z → zs.Nodup → ds[i]? = some d → getL (zs.zip ds) z = some d
  | [], _, _, _, _, h, _, _ => by cases h
  | _ :: _, [], _, _, _, _, _, h => by cases h
  | y :: zs, e :: ds, 0, z, d, h1, nd, h2 => by
    simp at h1 h2
    subst h1 h2
    simp [getL]
  | y :: zs, e :: ds, i + 1, z, d, h1, nd, h2 => by
    have n := List.nodup_cons.mp nd
    have ne : ¬ y = z := fun q => n.1 (q ▸ List.mem_of_getElem? (by simpa using h1))
    have := getL_zip zs ds i (by simpa using h1) n.2 (by simpa using h2)
    simpa [getL, ne] using this
end
end Va
namespace Va
open PySem PySem.Spec PyProof.Rows L2 Bg
section
variable {K : PySem.W.Frag} {EX : L2.St → XK} {ρ : List Sl} {α β : Type}
/-- {"a": x}, one's own, x shared -/
theorem rg_disp1 {te : TE} {en : α → D} {w : M α} (z : Str) (he : RE K EX ρ te en w) : RG K EX ρ (tDisp [(tC (.str z), te)]) (resO K (oD (Sum.inr : Str → Key) (oS en))) (w >>= fun a => pure [(z, a)]) := fun B O H σ E P PX Q hw hq hx => by
  intro p hp
  have E0 := E.shun (H' := upd H p (.dK [])) hp (.new hp) (by rw [upd_same]; exact fun z => nomatch z)
  have e0 : Ext No H (upd H p (.dK [])) := .new hp
  refine he B (Pl O p) _ σ E0 _ PX _ hw (fun a v H1 pa e1 r1 => ?_) fun x cls d H' px e k => hx x cls d H' px (e0.trans e) (k.mono fun b z => .inl z)
  have ns0 : ¬ isSrc (.dK []) := fun ⟨_, _, _, z⟩ => nomatch z
  have hp1 : H1 p = some (.dK []) := e1.keep p _ (fun z => z) ns0 upd_same
  refine ⟨hp1, [(Sum.inr z, v)], rfl, (by show 1 ≤ 15; decide), ?_⟩
  have hm : mergeK [] [((Sum.inr z : Key), v)] = [(Sum.inr z, v)] := rfl
  rw [hm]
  have up : Ext (fun b => b = p) H1 (upd H1 p (.dK [(Sum.inr z, v)])) := up_ext hp1 ns0
  have e12 := e0.trans e1
  have eE : Ext No H (upd H1 p (.dK [(Sum.inr z, v)])) := by
    refine ⟨fun b o n s q => ?_, fun b q => up.src b (e12.src b q)⟩
    rw [upd_ne (fun z => by rw [z, hp] at q; cases q)]
    exact e12.keep b o n s q
  have R1 : RepO K (fun b => O b ∨ b ∈ [p]) (upd H1 p (.dK [(Sum.inr z, v)])) v (oS en a) [] := .sh ((r1.ext up fun b z => .inr z).mono fun b z => z.imp id fun m => List.mem_singleton.mp m)
  exact hq _ _ _ pa eE ⟨[p], .dct upd_same (fun ⟨_, _, _, z⟩ => nomatch z) rfl (.cons R1 .nil), List.nodup_cons.mpr ⟨fun m => (nomatch m), List.nodup_nil⟩, fun b m => by rw [List.mem_singleton.mp m]; exact hp⟩
end
instance {α : Type} {en : α → D} : NSrc (Sum.inr : Str → Key) (eP en) := ⟨fun _ r i z => by cases r; cases z⟩
end Va
namespace Va
open PySem PySem.Spec PyProof.Rows L2 Bg
section
variable {K : PySem.W.Frag} {EX : L2.St → XK} {ρ : List Sl} {α β γ : Type}
/-! ### lists of two things of unlike kinds -/
def eL2 (e1 : α → D) (e2 : β → D) (x : α × β) : D := .lst [e1 x.1, e2 x.2]
theorem re_lt2 {ta tb : TE} {e1 : α → D} {e2 : β → D} {wa : M α} {wb : M β} (ha : RE K EX ρ ta e1 wa) (hb : RE K EX ρ tb e2 wb) : RE K EX ρ (tLst (tCons ta (tCons tb tNil))) (eL2 e1 e2) (wa >>= fun a => wb >>= fun b => pure (a, b)) := fun B O H σ E P PX Q hw hq hx =>
  ha B O H σ E _ PX _ hw (fun a v H1 p1 e1 r1 => hb B O H1 σ (E.ex e1) _ PX _ p1 (fun b u H2 p2 e2 r2 => ⟨(by decide : 2 ≤ sizeLine), fun c n => hq (a, b) _ _ p2 ((e1.trans e2).trans (.new n)) (.lst (fun z => (E.ex (e1.trans e2)).dom c z n) upd_same (.cons ((Rep.ex r1 e2).ex (.new n)) (.cons (Rep.ex r2 (.new n)) .nil)))⟩)
    fun x cls d H' px e k => hx x cls d H' px (e1.trans e) k) hx
theorem tg_pairL {e1 : α → D} {e2 : β → D} (i j : Nat) : RTg K (gLst K 2 (gCons (gName i) (gCons (gName j) gNil))) (eL2 e1 e2) (fun x ρ => (ρ.set i (.sh (e1 x.1))).set j (.sh (e2 x.2))) [i, j] := ⟨fun B O H σ ρ x v Q E r k => by
  cases r with
  | lst _ h r =>
    cases r with
    | cons r1 r =>
      cases r with
      | cons r2 r =>
        cases r
        exact ⟨_, _, rfl, .inl (.inl h), rfl, _, _, rfl, _, _, rfl, rfl, k _ ((E.set i r1).set j r2) (wipe2 σ i j _ _)⟩⟩
/-- x or 0, x a number or None -/
theorem re_orI {ta : TE} {wa : M (Option Int)} (ha : RE K EX ρ ta (eO D.int) wa) : RE K EX ρ (tOrT K ta (tC (.int 0))) D.int (wa >>= fun o => pure (o.getD 0)) := fun B O H σ E P PX Q hw hq hx =>
  ha B O H σ E _ PX _ hw (fun o v H1 p e r => by
    cases o with
    | none => cases r; exact ⟨false, rfl, hq _ _ _ p e (.int 0)⟩
    | some i =>
      cases r
      by_cases c : i = 0
      · subst c; exact ⟨false, rfl, hq _ _ _ p e (.int 0)⟩
      · exact ⟨true, (bne_iff_ne.mpr c).symm, hq _ _ _ p e (.int i)⟩) hx
end
end Va

namespace Va
open PySem PySem.Spec PyProof.Rows L2 Bg
/-! ### list(reversed(x)): the new list is filled from a walk backwards -/
section
variable {prog : Program} {w : World} {A : Around} {E : Value → Shared → Prop} {s : Shared}
/-- the walk into an empty list S, which is neither the list nor the walk -/
theorem fill_rev {R : Result → Shared → Prop} {S it l : Addr} {items : Array Value} {c : Nat} {res : Value} (hh : A.handled = none) (hS : s.heap.get? S = some { cls := .type "list", data := .seq #[] c }) (hSit : S ≠ it) (hSl : S ≠ l) (hne : l ≠ it)
    (hit : s.heap.IsRevIter it l ((items.size : Int) - 1)) (hl : s.heap.IsList l items) (hn : items.size ≤ sizeLine)
    (hR : ∀ (h' : Heap) (tk : Nat) (acc : Array Value) (c' : Nat), (∀ b o, b ≠ S → b ≠ it → s.heap.get? b = some o → h'.get? b = some o) → h'.get? S = some { cls := .type "list", dict := none, data := .seq acc c', slots := #[] } →
      ItemsOf (fun i v => items[items.size - 1 - i]? = some v) acc items.size → R (.ok (.ret res)) { s with heap := h', toks := tk }) :
    wpAny (model prog w) A.in1 (Builtin.List.listExtendWith (.ref S) (.ref it) res)
      (fun fin s' => match fin with | .done f => R (.ok f) s' | .again c' => c'.quiet = true ∧ codeAny (model prog w) A c' R s') (fun e s' => R (.error e) s') s := by
  have ty : s.TypeIs (.ref it) "list_reverseiterator" := hit.typeIs
  have same : Builtin.List.listSameRef (.ref S) (.ref it) = false := by simp [Builtin.List.listSameRef, hSit]
  have inst : isSubtype (.type "list_reverseiterator") (.type "list_reverseiterator") = pure true := by rw [isSubtype_type]; kernel_rfl
  have cut : splitId "list_reverseiterator.__length_hint__" = some ("list_reverseiterator", "__length_hint__") := by decide +kernel
  have start : (items.size : Int) - 1 - ((0 : Nat) : Int) = (items.size : Int) - 1 := Int.sub_zero _
  have loop : codeAny (model prog w) A (.builtin "list.extend.loop" ⟨[.ref S, .ref it, res], []⟩) R s :=
    codeAny_extend_loopS (Walks.listRev (prog := prog) (w := w) (A := A.in1) hh it l hne items).toS hn S (fun h => by
      rcases List.mem_cons.mp h with h | h
      · exact hSit h
      · exact hSl (List.mem_singleton.mp h)) res items.size 0 s #[] c rfl (Nat.zero_le _) ⟨Nat.zero_le _, by rw [start]; exact hit, hl⟩ hS (ItemsOf.nil _) fun s' acc c' mv hS' ha => by
        rw [Moved.eq_with mv]
        exact hR _ _ acc c' (fun b o b1 b2 e => mv.heap b o (fun h => by
          rcases List.mem_cons.mp h with h | h
          · exact b1 h
          · exact b2 (List.mem_singleton.mp h)) e) hS' ha
  unfold Builtin.List.listExtendWith
  refine wpAny_bind (wpAny_typeOf ty ?_)
  rw [if_neg (by rw [same]; decide)]
  refine wpAny_bind (wpAny_pyIter_revIter hit (wpAny_bind (wpAny_holding ?_)))
  unfold Builtin.List.listLengthHint
  refine wpAny_bind (wpAny_specialOf ty RT.nolen_lri ?_)
  refine wpAny_bind (wpAny_specialOf ty RT.hint_lri ?_)
  dsimp only
  rw [cut]
  refine wpAny_bind (wpAny_isInstance (b := true) ty inst ?_)
  refine wpAny_pure ?_
  rw [if_neg (by decide)]
  exact wpAny_pure ⟨plainId_quiet F.plain_extend_loop _, loop⟩
/-- list(walk) -/
theorem call_list_rev {Q : Value → Shared → Prop} {it l : Addr} {items : Array Value} (hh : A.handled = none) (hit : s.heap.IsRevIter it l ((items.size : Int) - 1)) (hl : s.heap.IsList l items) (hne : l ≠ it) (hn : items.size ≤ sizeLine)
    (hQ : ∀ (h' : Heap) (tk : Nat) (acc : Array Value) (c' : Nat), (∀ b o, b ≠ it → s.heap.get? b = some o → h'.get? b = some o) → h'.get? s.heap.objs.size = some { cls := .type "list", dict := none, data := .seq acc c', slots := #[] } →
      ItemsOf (fun i v => items[items.size - 1 - i]? = some v) acc items.size → Q (.ref s.heap.objs.size) { s with heap := h', toks := tk }) :
    wpAny (model prog w) A (call (.type "list") [.ref it]) Q E s := by
  obtain ⟨oi, hoi, _⟩ := id hit
  obtain ⟨ol, hol, _⟩ := id hl
  have new : ∀ {b o}, s.heap.get? b = some o → b ≠ s.heap.objs.size := fun e => Nat.ne_of_lt (Heap.lt_size e)
  have step : ∀ (s1 : Shared) (h2 : Heap), s1 = { s with heap := h2 } → h2.get? s.heap.objs.size = some { cls := .type "list", data := .seq #[] } → (∀ b o, s.heap.get? b = some o → h2.get? b = some o) →
      wpAny (model prog w) A.in1.in1 (Builtin.«list.__init__» ⟨[.ref s.heap.objs.size, .ref it], []⟩)
        (fun fin s' => match fin with | .done f => wants (fun r s₂ => r = .none ∧ Q (.ref s.heap.objs.size) s₂) E (.ok f) s' | .again c' => c'.quiet = true ∧ codeAny (model prog w) A.in1 c' (wants (fun r s₂ => r = .none ∧ Q (.ref s.heap.objs.size) s₂) E) s')
        (fun e s' => wants (fun r s₂ => r = .none ∧ Q (.ref s.heap.objs.size) s₂) E (.error e) s') s1 := by
    intro s1 h2 e1 hS keep
    subst e1
    show wpAny _ _ (Builtin.List.listItems (.ref s.heap.objs.size) >>= fun old => Builtin.List.listUpdate (.ref s.heap.objs.size) (fun _ => #[]) >>= fun _ => letGo old.toList.reverse >>= fun _ => Builtin.List.listExtendWith (.ref s.heap.objs.size) (.ref it) .none) _ _ _
    unfold Builtin.List.listItems
    refine wpAny_bind (wpAny_bind (wpAny_seqItems hS rfl (wpAny_pure ?_)))
    refine wpAny_bind ?_
    show wpAny _ _ (updateSeq s.heap.objs.size (fun _ => #[])) _ _ _
    refine wpAny_updateSeq hS rfl (wpAny_bind (wpAny_letGo ?_))
    have keep2 : ∀ b o, b ≠ s.heap.objs.size → s.heap.get? b = some o → (h2.update s.heap.objs.size (Obj.mapSeq fun _ => (#[] : Array Value))).get? b = some o := fun b o nb e => (Heap.get?_update_other _ _ (Ne.symm nb)).trans (keep b o e)
    refine fill_rev hh (Heap.get?_update_self (Obj.mapSeq fun _ => (#[] : Array Value)) hS rfl) (Ne.symm (new hoi)) (Ne.symm (new hol)) hne (hit.at fun o e => keep2 _ _ (new hoi) e) ?_ hn fun h' tk acc c' k k1 k2 => ?_
    · obtain ⟨o, ho, r⟩ := hl
      exact ⟨o, keep2 _ _ (new hol) ho, r⟩
    · exact ⟨rfl, hQ h' tk acc c' (fun b o nb e => k b o (new e) nb (keep2 b o (new e) e)) k1 k2⟩
  refine callType_codes (Q₁ := fun obj s₁ => obj = .ref s.heap.objs.size ∧ s₁ = { s with heap := s.heap.push { cls := .type "list", data := .seq #[] } }) F.called_list (F.typeCall_list_1 _) F.entry_list_init (code_list_new _ ⟨rfl, rfl⟩) fun obj s₁ h₁ => ?_
  obtain ⟨rfl, rfl⟩ := h₁
  have hS : (s.heap.push { cls := .type "list", data := .seq #[] }).get? s.heap.objs.size = some { cls := .type "list", data := .seq #[] } := Heap.get?_push_size _ rfl
  exact ⟨⟨_, hS, rfl⟩, F.args_list_init_2 _ _, step _ _ rfl hS fun b o e => Heap.get?_push_of_some _ e⟩
end
/-- list(reversed(x)), x a list: a new list -/
def tLstRev (K : PySem.W.Frag) (te : TE) : TE := fun σ H Q => te σ H fun v H1 => ∃ (a : Addr) (xs : List V), v = .ref a ∧ SqL K H1 a xs ∧ ∀ q, H1 q = none → Q (.ref q) (upd H1 q (.lst xs.reverse))
theorem pe_listRev {X : Cx} {e : Expr} {te : TE} {p p2 pos pos2 : Pos} (hc : X.calm = true) (hg : Gl X "list") (hm : X.mg "list" = none) (hg2 : Gl X "reversed") (hm2 : X.mg "reversed" = none) (he : PE X e te)
    (hs : starEach [e] X.env = (false, eval e X.env) :: starEach [] X.env := by rfl)
    (hs2 : starEach [.Call (.Name "reversed" p2) [e] [] pos2] X.env = (false, eval (.Call (.Name "reversed" p2) [e] [] pos2) X.env) :: starEach [] X.env := by rfl) :
    PE X (.Call (.Name "list" p) [.Call (.Name "reversed" p2) [e] [] pos2] [] pos) (tLstRev X.K te) := ⟨fun pins s σ H Q I h => by
  have inner : ∀ {Q2 : Value → Shared → Prop}, (∀ a s1 H1 xs its, Inv X pins σ H1 s1 → SqL X.K H1 a xs → Vals xs its → s1.heap.IsList a its.toArray → xs.length ≤ sizeLine → (∀ q, H1 q = none → Q (.ref q) (upd H1 q (.lst xs.reverse))) →
      Q2 (.ref s1.heap.objs.size) { s1 with heap := s1.heap.push (revObj a ((its.toArray.size : Int) - 1)) }) → wpAny (model X.prog X.w) X.A (eval (.Call (.Name "reversed" p2) [e] [] pos2) X.env) Q2 X.xe s := fun k =>
    Call_ (ld_blt I hg2 hm2 PyProof.Rows.boot_reversed (PyProof.Rows.callWith_type1 (args_cons (thn (he.run pins s σ H _ I h) fun u s1 ⟨v, H1, I1, r1, q1⟩ => args_nil (by
      obtain ⟨a, xs, ev, hq, q⟩ := q1
      subst ev
      obtain rfl : u = Value.ref a := r1
      obtain ⟨its, rv, pl, hz⟩ := I1.list hq
      exact call_reversed_list pl.isList (k a s1 H1 xs its I1 hq rv pl.isList hz q))) hs) hs rfl))
  refine Call_ (ld_blt I hg hm PyProof.Rows.boot_list (PyProof.Rows.callWith_type1 (args_cons (inner fun a s1 H1 xs its I1 hq rv hl hz q => args_nil ?_) hs2) hs2 rfl))
  have I2 : Inv X pins σ H1 { s1 with heap := s1.heap.push (revObj a ((its.toArray.size : Int) - 1)) } := I1.kept (t' := s1.toks) fun b o e => Heap.get?_push_of_some _ e
  have fp : FpOk X pins H1 s1.heap.objs.size := I1.fpOk (Nat.le_refl _) (I1.hok.fresh (Nat.le_refl _))
  obtain ⟨ol, hol, _⟩ := id hl
  have hn : its.toArray.size ≤ sizeLine := by rw [List.size_toArray, ← rv.length]; exact hz
  refine call_list_rev (s := { s1 with heap := s1.heap.push (revObj a ((its.toArray.size : Int) - 1)) }) (I1.ok.hd hc) ⟨_, Heap.get?_push_size _ rfl, rfl, rfl⟩ (hl.push _) (Nat.ne_of_lt (Heap.lt_size hol)) hn fun h' tk acc c' hk e' hi => ?_
  have I3 := I2.turnedNew (t' := tk) (ch := [s1.heap.objs.size]) (ob := .lst xs.reverse) (h' := h') (fun b o nb e => hk b o (fun z => nb (z ▸ List.mem_singleton.mpr rfl)) e) (fun b hb => by rw [List.mem_singleton.mp hb]; exact fp) (Nat.le_refl _)
    (show ObjOk X.prog X.w _ _ _ (.lst xs.reverse) from ⟨by rw [List.length_reverse]; exact hz, acc.toList, c', RT.vals_rev rv hi, by rw [Array.toArray_toList]; exact e'⟩)
  exact ⟨.ref _, _, I3, rfl, q _ (I2.hok.fresh (Nat.le_refl _))⟩⟩
variable {K : PySem.W.Frag} {EX : L2.St → XK} {ρ : List Sl} {α β κ : Type} [DecidableEq κ]
theorem repL_rev {O : AP} {H : Hp} : ∀ {vs : List V} {ds : List D}, RepL K O H vs ds → RepL K O H vs.reverse ds.reverse
  | [], _, .nil => .nil
  | v :: vs, d :: ds, .cons r t => by
    rw [List.reverse_cons, List.reverse_cons]
    exact (repL_rev t).snoc r
theorem rf_listRev {te : TE} {en : α → D} {w : M (List α)} (h : RQ K EX ρ te en w) : RF K EX ρ (tLstRev K te) en (w >>= fun l => pure l.reverse) := fun B O H σ E P PX Q hw hq hx =>
  h B O H σ E _ PX _ hw (fun l v H1 p e r => by
    obtain ⟨a, vs, rfl, hl, r⟩ := r
    exact ⟨a, vs, rfl, hl, fun c n => hq _ _ _ p (e.trans (.new n)) (Lasts.base (res := resF K en) (FrV.new n (by rw [List.map_reverse]; exact repL_rev r)) e)⟩) hx
theorem pth_ixC {kk : κ → Key} {en : α → D} {L : List (List (κ × α))} {l : List (κ × α)} {x : Int} (i : Nat) (hl : L2.atI L x = some l) (h : ρ[i]? = some (.od (oL (oD kk (oS en)) L)) := by rfl) : Pth K ρ i (oL (oD kk (oS en)) L) (tOp (rIxL K) (tVar i) (tC (.int x))) (OkK K kk en l) := fun {B O H σ} E => by
  obtain ⟨v, as, hv, r, nd, own⟩ := E.at_ i _ h
  unfold L2.atI at hl
  cases c : ixN L.length x with
  | none => rw [c] at hl; cases hl
  | some n =>
    rw [c] at hl
    have hl : L[n]? = some l := hl
    cases r with
    | @lst a vs _ as' hp r =>
      obtain ⟨v1, bs, ev, k1, mb⟩ := r.get (t := oD kk (oS en) l) (i := n) (by rw [List.getElem?_map, hl]; rfl)
      have hlen := r.length
      rw [List.length_map] at hlen
      cases k1 with
      | @dct d kvs _ cs hd s e r1 =>
        refine ⟨_, _, d, hv, .lst hp r, nd, List.mem_cons_of_mem _ (mb d List.mem_cons_self), ⟨kvs, hd, s, by rw [enc_k] at e; exact e⟩, fun H' Q rl q => ⟨_, hv, a, vs, x, .ref d, rfl, rfl, .inl (.inl (rl.lst _ _ hp)), ?_, q⟩⟩
        unfold L2.atI
        rw [hlen, c]
        exact ev
theorem rf_lcKc {g : TG} {tt : TT} {te : TE} {vs : List Nat} {enk : κ → D} {kk : κ → Key} [KeyE enk kk] {en : α → D} {en' : β → D} [FlatE en'] {L : List (List (κ × α))} {x : Int} {d' : D} {ft : κ → List Sl → List Sl} {wt : κ → M Bool} {wf : κ → M β} (i : Nat) (hd : (oL (oD kk (oS en)) L).d = d') (hg : RTg K g enk ft vs) (ht : ∀ x, RT K EX (ft x (wipeR (ρ.set i (.sh d')) vs)) tt (wt x)) (hf : ∀ x, RE K EX (ft x (wipeR (ρ.set i (.sh d')) vs)) te en' (wf x))
    (hE : ∀ σ σ', L2.wipe σ vs = L2.wipe σ' vs → EX σ = EX σ') (h : ρ[i]? = some (.od (oL (oD kk (oS en)) L)) := by rfl) : RF K EX ρ (tLockE (tLc (iKeys (tOp (rIxL K) (tVar i) (tC (.int x)))) g tt te vs)) en' (getI L x >>= fun l => (need ((l.map (·.1)).length ≤ sizeLine) >>= fun _ => noX (lcM (l.map (·.1)) wt wf))) := fun B O H σ E P PX Q hw hq hx => by
  obtain ⟨l, hl, hw⟩ := hw
  exact lcK_core (pth_ixC i hl h) h hd hg ht hf hE B O H σ E P PX Q hw hq hx
theorem emU_up {ds : List Int} {m : Nat} {like : Nat → Nat → Prop} {goes : Nat → Nat → Nat → Prop} {k c : Nat} : (emU ds m like goes k c).Pairwise (· < ·) := by
  classical
  unfold emU
  exact List.pairwise_map.mpr ((List.pairwise_lt_range.filter _).imp fun h => by omega)
theorem rise_nd {l : List Int} (h : l.Pairwise (· < ·)) : l.Nodup := h.imp fun h e => by omega
end Va

namespace Va
open PySem PySem.Spec PyProof.Rows L2 Bg
variable {K : PySem.W.Frag} {EX : L2.St → XK} {ρ : List Sl} {α β : Type}
/-- a program that raises nothing, said so -/
theorem rg_noX {t : TE} {res : Res α} {w : M α} (h : RG K EX ρ t res w) : RG K EX ρ t res (noX w) := fun B O H σ E P PX Q hp hq _ => h B O H σ E P (fun _ => False) Q hp hq fun _ _ _ _ z => z.elim
/-! ### tables as lists of lists -/
section
variable {ds : List Int} {m : Nat} {like : Nat → Nat → Prop} {goes : Nat → Nat → Nat → Prop}
def EmL (ds : List Int) (m : Nat) (like : Nat → Nat → Prop) (goes : Nat → Nat → Nat → Prop) (k0 : Nat) (T : List (List Int)) : Prop := T.length = ds.length ∧ ∀ k, k < ds.length → ∃ row, T[k]? = some row ∧ (k < k0 → row = []) ∧ (k0 ≤ k → row = emU ds m like goes k m)
def EmJ (ds : List Int) (m : Nat) (like : Nat → Nat → Prop) (goes : Nat → Nat → Nat → Prop) (st c : Nat) (T : List (List Int)) : Prop := T.length = ds.length ∧ ∀ k, k < ds.length → ∃ row, T[k]? = some row ∧ (k < st → row = []) ∧ (k = st → row = emU ds m like goes st c) ∧ (st < k → row = emU ds m like goes k m)
theorem EmL.start {st : Nat} {T : List (List Int)} (h : EmL ds m like goes (st + 1) T) : EmJ ds m like goes st 0 T :=
  ⟨h.1, fun k hk => let ⟨row, a, b, c⟩ := h.2 k hk; ⟨row, a, fun z => b (by omega), fun z => by rw [b (by omega)]; rfl, fun z => c (by omega)⟩⟩
theorem EmJ.fin {st : Nat} {T : List (List Int)} (h : EmJ ds m like goes st m T) : EmL ds m like goes st T :=
  ⟨h.1, fun k hk => let ⟨row, a, b, c, d⟩ := h.2 k hk; ⟨row, a, b, fun z => by
    by_cases e : k = st
    · subst e; exact c rfl
    · exact d (by omega)⟩⟩
theorem EmJ.yes {st c : Nat} {T : List (List Int)} {row : List Int} (h : EmJ ds m like goes st c T) (hr : T[st]? = some row) (hst : st < ds.length) (hs : Emb ds m like goes st c) : EmJ ds m like goes st (c + 1) (T.set st (row ++ [(c : Int)])) := by
  refine ⟨by rw [List.length_set]; exact h.1, fun k hk => ?_⟩
  by_cases e : k = st
  · subst e
    refine ⟨_, List.getElem?_set_self (by rw [h.1]; exact hk), fun z => absurd z (by omega), fun _ => ?_, fun z => absurd z (by omega)⟩
    obtain ⟨row', a, _, q, _⟩ := h.2 k hk
    rw [hr] at a
    cases a
    rw [q rfl, emU_yes hs]
  · obtain ⟨row', a, b, _, d⟩ := h.2 k hk
    exact ⟨row', by rw [List.getElem?_set_ne (Ne.symm e)]; exact a, b, fun z => absurd z e, d⟩
theorem EmJ.no {st c : Nat} {T : List (List Int)} (h : EmJ ds m like goes st c T) (hs : ¬ Emb ds m like goes st c) : EmJ ds m like goes st (c + 1) T :=
  ⟨h.1, fun k hk => let ⟨row, a, b, q, d⟩ := h.2 k hk; ⟨row, a, b, fun z => by rw [emU_no hs]; exact q z, d⟩⟩
end
/-! ### lists that are matches -/
/-- what a match asks of one step -/
def MtK (dr : List (Str × Int)) (qr : List Sr) (f : Nat → Nat) (k : Nat) : Prop := lkD dr qr k (f k) ∧ ((∀ u, ¬ An (qds qr) u k) → tpD qr k (f k)) ∧ ∀ u, Par (qds qr) u k → gsD dr qr k (f k) (f u)
def IsMt (dr : List (Str × Int)) (qr : List Sr) (g : Nat) (l : List D) : Prop := l.length = qr.length ∧ ∃ f : Nat → Nat, (∀ k d, l[k]? = some d → d = D.int (f k)) ∧ MtD dr qr g none f
/-- all things are parts -/
def Pts (n : Nat) (l : List D) (f : Nat → Nat) : Prop := ∀ k d, l[k]? = some d → d = D.int (f k) ∧ f k < n
theorem Pts.of {n : Nat} {l : List D} (h : ∀ d ∈ l, withinD d 0 ((n : Int) - 1) = true) : ∃ f, Pts n l f := by
  refine ⟨fun k => match l[k]? with | some (.int i) => i.toNat | _ => 0, fun k d hd => ?_⟩
  have w := h d (List.mem_of_getElem? hd)
  cases d with
  | int i =>
    have w : 0 ≤ i ∧ i ≤ (n : Int) - 1 := by simpa [withinD] using w
    dsimp only
    rw [hd]
    show D.int i = D.int ((i.toNat : Nat) : Int) ∧ i.toNat < n
    exact ⟨by rw [show ((i.toNat : Nat) : Int) = i by omega], by omega⟩
  | _ => cases w
section
variable {dr : List (Str × Int)} {qr : List Sr} {g : Nat} {l : List D} {f : Nat → Nat}
theorem IsMt.mk' (hl : l.length = qr.length) (hp : Pts dr.length l f) (h : ∀ k, k < qr.length → MtK dr qr f k) : IsMt dr qr g l := by
  have hq := qds_len qr
  exact ⟨hl, f, fun k d e => (hp k d e).1, fun k hk => (hp k _ (List.getElem?_eq_getElem (by omega : k < l.length))).2, fun k hk => ⟨(h k (by omega)).1, fun _ z => nomatch z⟩, fun k hk => (h k (by omega)).2.1, fun u k p => (h k (by have := (par_lt p).2.1; omega)).2.2 u p⟩
theorem IsMt.at_ (h : IsMt dr qr g l) (hp : Pts dr.length l f) {k : Nat} (hk : k < qr.length) : MtK dr qr f k := by
  obtain ⟨hl, f', he, m⟩ := h
  have hq := qds_len qr
  have same : ∀ j, j < qr.length → f j = f' j := fun j hj => by
    have e := List.getElem?_eq_getElem (by omega : j < l.length)
    have e1 := (hp j _ e).1
    have e2 := he j _ e
    rw [e1] at e2
    injection e2 with e2
    omega
  refine ⟨?_, fun r => ?_, fun u p => ?_⟩
  · rw [same k hk]; exact (m.like k (by omega)).1
  · rw [same k hk]; exact m.top k (by omega) r
  · rw [same k hk, same u (by have := (par_lt p).1; omega)]; exact m.goes u k p
theorem IsMt.in_ (h : IsMt dr qr g l) : ∀ d ∈ l, withinD d 0 ((dr.length : Int) - 1) = true := fun d hd => by
  obtain ⟨hl, f', he, m⟩ := h
  obtain ⟨k, hk⟩ := List.mem_iff_getElem?.mp hd
  have := (List.getElem?_eq_some_iff.mp hk).1
  have lt := m.lt k (by rw [qds_len]; omega)
  rw [he k d hk]
  simp [withinD]
  omega
end
theorem in_not {en : α → D} {a : α} {l : List α} {P : Bool → Prop} {X : Exn → Prop} : inM true en a l P X = inM false en a l (fun b => P (!b)) X := by simp [inM]
theorem upAt_iff {ds : List Int} {k : Nat} {o o' : Option Int} (h : UpAt ds k o) : o = o' ↔ UpAt ds k o' := by
  constructor
  · intro e; exact e ▸ h
  · intro h'
    cases o with
    | none =>
      cases o' with
      | none => rfl
      | some u => obtain ⟨n, _, p⟩ := h'; exact absurd p.1 (h n)
    | some u =>
      obtain ⟨n, rfl, p⟩ := h
      exact ((upAt_some h').mpr p).symm
section
variable {K : PySem.W.Frag} {EX : L2.St → XK} {ρ : List Sl} {α : Type}
/-- {k: x}, one's own, k a number, x shared -/
theorem rg_dispI {tk te : TE} {en : α → D} {wk : M Int} {w : M α} (hk : RE K EX ρ tk D.int wk) (he : RE K EX ρ te en w) : RG K EX ρ (tDisp [(tk, te)]) (resO K (oD (Sum.inl : Int → Key) (oS en))) (wk >>= fun k => w >>= fun a => pure [(k, a)]) := fun B O H σ E P PX Q hw hq hx => by
  intro p hp
  have E0 := E.shun (H' := upd H p (.dK [])) hp (.new hp) (by rw [upd_same]; exact fun z => nomatch z)
  have e0 : Ext No H (upd H p (.dK [])) := .new hp
  refine hk B (Pl O p) _ σ E0 _ PX _ hw (fun k vk H1 pk e1 rk => ?_) fun x cls d H' px e k => hx x cls d H' px (e0.trans e) (k.mono fun b z => .inl z)
  cases rk
  refine he B (Pl O p) _ σ (E0.ex e1) _ PX _ pk (fun a v H2 pa e2 r1 => ?_) fun x cls d H' px e k => hx x cls d H' px ((e0.trans e1).trans e) (k.mono fun b z => .inl z)
  have ns0 : ¬ isSrc (.dK []) := fun ⟨_, _, _, z⟩ => nomatch z
  have hp1 : H2 p = some (.dK []) := (e1.trans e2).keep p _ (fun z => z) ns0 upd_same
  refine ⟨hp1, [(Sum.inl k, v)], rfl, (by show 1 ≤ 15; decide), ?_⟩
  have hm : mergeK [] [((Sum.inl k : Key), v)] = [(Sum.inl k, v)] := rfl
  rw [hm]
  have up : Ext (fun b => b = p) H2 (upd H2 p (.dK [(Sum.inl k, v)])) := up_ext hp1 ns0
  have e12 := (e0.trans e1).trans e2
  have eE : Ext No H (upd H2 p (.dK [(Sum.inl k, v)])) := by
    refine ⟨fun b o n s q => ?_, fun b q => up.src b (e12.src b q)⟩
    rw [upd_ne (fun z => by rw [z, hp] at q; cases q)]
    exact e12.keep b o n s q
  have R1 : RepO K (fun b => O b ∨ b ∈ [p]) (upd H2 p (.dK [(Sum.inl k, v)])) v (oS en a) [] := .sh ((r1.ext up fun b z => .inr z).mono fun b z => z.imp id fun m => List.mem_singleton.mp m)
  exact hq _ _ _ pa eE ⟨[p], .dct upd_same (fun ⟨_, _, _, z⟩ => nomatch z) rfl (.cons R1 .nil), List.nodup_cons.mpr ⟨fun m => (nomatch m), List.nodup_nil⟩, fun b m => by rw [List.mem_singleton.mp m]; exact hp⟩
end
/-! ### a match that is chosen step by step -/
section
variable {dr : List (Str × Int)} {qr : List Sr} {g : Nat} {p0 : Int}
/-- up to step k -/
structure ChW (dr : List (Str × Int)) (qr : List Sr) (g : Nat) (p0 : Int) (k : Nat) (L : List (Int × Int)) : Prop where
  all : ∀ (s v : Int), getL L s = some v → ∃ sn vn : Nat, s = sn ∧ v = vn ∧ k ≤ sn ∧ FuD dr qr g none sn vn ∧ (sn = k ∨ ∃ u y : Nat, Par (qds qr) u sn ∧ getL L (u : Int) = some (y : Int) ∧ gsD dr qr sn vn y)
  here : k < qr.length
  goal : getL L (g : Int) = some p0
  len : L.length + k ≤ g + 1
/-- all steps ahead of i -/
structure ChF (dr : List (Str × Int)) (qr : List Sr) (g : Nat) (p0 : Int) (i : Nat) (L : List (Int × Int)) : Prop where
  all : ∀ (s v : Int), getL L s = some v → ∃ sn vn : Nat, s = sn ∧ v = vn ∧ EmD dr qr g none sn vn ∧ ((∀ u, ¬ An (qds qr) u sn) → tpD qr sn vn) ∧ ∀ u, Par (qds qr) u sn → ∃ y : Nat, getL L (u : Int) = some (y : Int) ∧ gsD dr qr sn vn y
  in_ : ∀ j : Nat, j < i → ∃ v, getL L (j : Int) = some v
  zero : ∃ v, getL L 0 = some v
  goal : getL L (g : Int) = some p0
  len : L.length ≤ g + 1 + i
theorem ChW.start {p : Nat} (hg : g < qr.length) (h : FuD dr qr g none g p) : ChW dr qr g p g [((g : Int), (p : Int))] := by
  refine ⟨fun s v e => ?_, hg, getL_pos rfl, by simp; omega⟩
  by_cases c : (g : Int) = s
  · rw [getL_pos c] at e
    cases e
    exact ⟨g, p, c.symm, rfl, Nat.le_refl _, h, .inl rfl⟩
  · rw [getL_neg c] at e; cases e
theorem ChW.put {k u p y : Nat} {L : List (Int × Int)} (h : ChW dr qr g p0 k L) (hp : getL L (k : Int) = some (p : Int)) (par : Par (qds qr) u k) (fu : FuD dr qr g none u y) (gs : gsD dr qr k p y) : ChW dr qr g p0 u (putL L (u : Int) (y : Int)) := by
  have lt := par_lt par
  have hql := qds_len qr
  refine ⟨fun s v e => ?_, by omega, ?_, ?_⟩
  · rw [getL_put] at e
    by_cases c : s = (u : Int)
    · rw [if_pos c] at e
      cases e
      exact ⟨u, y, c, rfl, Nat.le_refl _, fu, .inl rfl⟩
    · rw [if_neg c] at e
      obtain ⟨sn, vn, rfl, rfl, hk, f, q⟩ := h.all s v e
      refine ⟨sn, vn, rfl, rfl, by omega, f, .inr ?_⟩
      rcases q with rfl | ⟨u', y', a, b, c'⟩
      · rw [hp] at e
        have e : (p : Int) = vn := by injection e
        have e : p = vn := by omega
        subst e
        exact ⟨u, y, par, by rw [getL_put, if_pos rfl], gs⟩
      · have hu' : k ≤ u' := by
          obtain ⟨sn', _, e1, _, e3, _⟩ := h.all _ _ b
          omega
        exact ⟨u', y', a, by rw [getL_put, if_neg (by omega)]; exact b, c'⟩
  · obtain ⟨sn', _, e1, _, e3, _⟩ := h.all _ _ h.goal
    rw [getL_put, if_neg (by omega)]
    exact h.goal
  · have := putL_len (l := L) (k := (u : Int)) (a := (y : Int))
    have := h.len
    omega
theorem ChW.fin {k : Nat} {L : List (Int × Int)} (h : ChW dr qr g p0 k L) (hd : Dv (qds qr)) {p : Int} (hp : getL L (k : Int) = some p) (rt : ∀ u, ¬ An (qds qr) u k) : ChF dr qr g p0 0 L := by
  have hql := qds_len qr
  have hk := h.here
  have k0 : k = 0 := by
    by_cases c : 0 < k
    · exact absurd (dv_root hd (by omega) c) (rt 0)
    · omega
  subst k0
  refine ⟨fun s v e => ?_, fun j z => absurd z (Nat.not_lt_zero _), ⟨p, hp⟩, h.goal, by have := h.len; omega⟩
  obtain ⟨sn, vn, rfl, rfl, _, f, q⟩ := h.all s v e
  have hsn : sn < (qds qr).length := by
    obtain ⟨f', m, e⟩ := f
    rcases q with rfl | ⟨u, _, par, _⟩
    · omega
    · exact (par_lt par).2.1
  obtain ⟨em, tp, _⟩ := (ful_iff hd hsn).mp f
  refine ⟨sn, vn, rfl, rfl, em, tp, fun u par => ?_⟩
  rcases q with rfl | ⟨u', y', par', b, c'⟩
  · exact absurd par.1 (rt u)
  · obtain rfl := par.only par'
    exact ⟨y', b, c'⟩
theorem ChF.has {i : Nat} {L : List (Int × Int)} (h : ChF dr qr g p0 i L) {v : Int} (hv : getL L (i : Int) = some v) : ChF dr qr g p0 (i + 1) L :=
  ⟨h.all, fun j hj => by
    by_cases c : j = i
    · subst c; exact ⟨v, hv⟩
    · exact h.in_ j (by omega), h.zero, h.goal, by have := h.len; omega⟩
theorem ChF.put {i u p y : Nat} {L : List (Int × Int)} (h : ChF dr qr g p0 i L) (hn : getL L (i : Int) = none) (par : Par (qds qr) u i) (hu : getL L (u : Int) = some (y : Int)) (em : EmD dr qr g none i p) (gs : gsD dr qr i p y) : ChF dr qr g p0 (i + 1) (putL L (i : Int) (p : Int)) := by
  have keep : ∀ (s v : Int), getL L s = some v → getL (putL L (i : Int) (p : Int)) s = some v := fun s v e => by
    rw [getL_put, if_neg fun c => by rw [c, hn] at e; cases e]
    exact e
  refine ⟨fun s v e => ?_, fun j hj => ?_, ?_, keep _ _ h.goal, ?_⟩
  · rw [getL_put] at e
    by_cases c : s = (i : Int)
    · rw [if_pos c] at e
      cases e
      refine ⟨i, p, c, rfl, em, fun rt => absurd par.1 (rt u), fun u' par' => ?_⟩
      obtain rfl := par.only par'
      exact ⟨y, keep _ _ hu, gs⟩
    · rw [if_neg c] at e
      obtain ⟨sn, vn, rfl, rfl, e1, e2, e3⟩ := h.all s v e
      exact ⟨sn, vn, rfl, rfl, e1, e2, fun u' par' => let ⟨y', a, b⟩ := e3 u' par'; ⟨y', keep _ _ a, b⟩⟩
  · by_cases c : j = i
    · subst c; exact ⟨p, by rw [getL_put, if_pos rfl]⟩
    · obtain ⟨v, hv⟩ := h.in_ j (by omega)
      exact ⟨v, keep _ _ hv⟩
  · obtain ⟨v, hv⟩ := h.zero
    exact ⟨v, keep _ _ hv⟩
  · have := putL_len (l := L) (k := (i : Int)) (a := (p : Int))
    have := h.len
    omega
theorem ChF.up {i : Nat} {L : List (Int × Int)} (h : ChF dr qr g p0 i L) (hd : Dv (qds qr)) (hi : i < qr.length) (hn : getL L (i : Int) = none) : ∃ u y : Nat, Par (qds qr) u i ∧ getL L (u : Int) = some (y : Int) ∧ EmD dr qr g none u y := by
  have hql := qds_len qr
  have c : 0 < i := by
    rcases Nat.eq_zero_or_pos i with c | c
    · subst c
      obtain ⟨v, hv⟩ := h.zero
      rw [show ((0 : Nat) : Int) = 0 from rfl, hv] at hn
      cases hn
    · exact c
  obtain ⟨u, par, _⟩ := dv_par hd (dv_root hd (by omega) c)
  obtain ⟨v, hv⟩ := h.in_ u (par_lt par).1
  obtain ⟨sn, vn, e1, rfl, em, _⟩ := h.all _ _ hv
  have e1 : u = sn := by omega
  subst e1
  exact ⟨u, vn, par, hv, em⟩
theorem ChF.done {L : List (Int × Int)} (h : ChF dr qr g p0 qr.length L) (hg : g < qr.length) {l : List Int} (hl : l.length = qr.length) (ha : ∀ (k : Nat) (x : Int), l[k]? = some x → getL L (k : Int) = some x) : IsMt dr qr g (l.map D.int) ∧ l[g]? = some p0 := by
  have hql := qds_len qr
  have at_ : ∀ k : Nat, k < qr.length → ∃ x : Int, l[k]? = some x ∧ getL L (k : Int) = some x := fun k hk => by
    obtain ⟨x, hx⟩ := get_lt (l := l) (n := k) (by omega)
    exact ⟨x, hx, ha k x hx⟩
  refine ⟨IsMt.mk' (f := fun k => match l[k]? with | some i => i.toNat | _ => 0) (by rw [List.length_map]; exact hl) (fun k d hd => ?_) fun k hk => ?_, ?_⟩
  · rw [List.getElem?_map] at hd
    cases hx : l[k]? with
    | none => rw [hx] at hd; cases hd
    | some x =>
      rw [hx] at hd
      cases hd
      obtain ⟨sn, vn, e1, rfl, em, _⟩ := h.all _ _ (ha k x hx)
      simp only [hx, Int.toNat_natCast]
      exact ⟨trivial, em.lt.2⟩
  · obtain ⟨x, hx, gx⟩ := at_ k hk
    obtain ⟨sn, vn, e1, rfl, em, tp, gs⟩ := h.all _ _ gx
    have e1 : k = sn := by omega
    subst e1
    refine ⟨?_, fun rt => ?_, fun u par => ?_⟩
    · dsimp only
      rw [hx]
      exact em.lk.1
    · dsimp only
      rw [hx]
      exact tp rt
    · obtain ⟨y, gy, q⟩ := gs u par
      obtain ⟨x', hx', gx'⟩ := at_ u (by have := par_lt par; omega)
      rw [gy] at gx'
      cases gx'
      dsimp only
      rw [hx, hx']
      exact q
  · obtain ⟨x, hx, gx⟩ := at_ g hg
    rw [h.goal] at gx
    rw [hx, ← gx]
end
end Va

namespace Va
open PySem PySem.Spec PyProof.Rows L2 Bg
section
variable {K : PySem.W.Frag} {EX : L2.St → XK} {ρ : List Sl} {α β γ δ : Type}
/-! ### tuples of four -/
def eT4 (e1 : α → D) (e2 : β → D) (e3 : γ → D) (e4 : δ → D) : α × β × γ × δ → D := fun p => .tup [e1 p.1, e2 p.2.1, e3 p.2.2.1, e4 p.2.2.2]
theorem re_tup4 {ta tb tc td : TE} {e1 : α → D} {e2 : β → D} {e3 : γ → D} {e4 : δ → D} {wa : M α} {wb : M β} {wc : M γ} {wd : M δ} (ha : RE K EX ρ ta e1 wa) (hb : RE K EX ρ tb e2 wb) (hc : RE K EX ρ tc e3 wc) (hd : RE K EX ρ td e4 wd) :
    RE K EX ρ (tTup (tCons ta (tCons tb (tCons tc (tCons td tNil))))) (eT4 e1 e2 e3 e4) (wa >>= fun a => wb >>= fun b => wc >>= fun c => wd >>= fun d => pure (a, b, c, d)) := fun B O H σ E P PX Q hw hq hx =>
  ha B O H σ E _ PX _ hw (fun a v H1 p1 e1 r1 => hb B O H1 σ (E.ex e1) _ PX _ p1 (fun b u H2 p2 e2 r2 => hc B O H2 σ (E.ex (e1.trans e2)) _ PX _ p2 (fun c t H3 p3 e3 r3 => hd B O H3 σ (E.ex ((e1.trans e2).trans e3)) _ PX _ p3 (fun d s H4 p4 e4 r4 =>
      ⟨(by decide : 4 ≤ sizeLine), fun q n => hq (a, b, c, d) _ _ p4 ((((e1.trans e2).trans e3).trans e4).trans (.new n)) (.tup (fun z => (E.ex (((e1.trans e2).trans e3).trans e4)).dom q z n) upd_same (.cons ((((Rep.ex r1 e2).ex e3).ex e4).ex (.new n)) (.cons (((Rep.ex r2 e3).ex e4).ex (.new n)) (.cons ((Rep.ex r3 e4).ex (.new n)) (.cons (Rep.ex r4 (.new n)) .nil)))))⟩)
    fun x cls d H' px e k => hx x cls d H' px (((e1.trans e2).trans e3).trans e) k) fun x cls d H' px e k => hx x cls d H' px ((e1.trans e2).trans e) k) fun x cls d H' px e k => hx x cls d H' px (e1.trans e) k) hx
end
theorem ChW.small {dr : List (Str × Int)} {qr : List Sr} {g k : Nat} {p0 : Int} {L : List (Int × Int)} (h : ChW dr qr g p0 k L) (hg : g < qr.length) (hm : qr.length ≤ 100) : L.length < 16777216 := by
  have := h.len
  omega
end Va

namespace Va
open PySem PySem.Spec PyProof.Rows L2 Bg
/-! ### defs that want to know that no repr is under way around them -/
structure FnOkG (P : Program) (w : World) (K : PySem.W.Frag) (mg : Str → Option Value) (base : Heap) (CX : CXT) (k : Nat) (f : Addr) (fd : FuncData) (ps : List Str) (sp : Sp) : Prop where
  len : ∀ vs H Q E, sp vs H Q E → vs.length = ps.length
  runs : ∀ (A : Around) (out : List Env) (s : Shared) (H : Hp) (args : Args) (us : List Value) (vs : List V) (Q : VK) (E : XK), Room k A → A.guards = some [] → Env0 P w K mg base A out s H →
    BindsTo s fd args (ps.zip us) → Vals vs us → sp vs H Q E → codeAny (model P w) A (.call (.ref f) args) (CR CX out P w H s Q E) s
section
variable {P : Program} {w : World} {K : PySem.W.Frag} {mg : Str → Option Value} {base : Heap}
theorem fd_okG {CX : CXT} {x qual : Str} {pa : Arguments} {bd : List Stmt} {sc : Scope} {dvs : List V} {kws : List (Str × V)} {f : Addr} {fd : FuncData} {N ps : List Str} {k : Nat} {sp : Sp} (F : FunD K x qual pa bd sc dvs kws f fd) (S : FnScope N ps sc)
    (len : ∀ vs H Q E, sp vs H Q E → vs.length = ps.length)
    (hb : ∀ (cdv : Value) (A : Around) (out : List Env) (s : Shared) (H : Hp) (vs : List V) (Q : VK) (E : XK), Room k (A.deeper (envOfC qual sc s.heap.objs.size f cdv)) → A.guards = some [] → sp vs H Q E →
      ∃ t, PSs (cxOf CX P w K mg base N qual sc f cdv A out s H E) bd t ∧ t { nx := fun _ H' => Q .non H', rt := Q } (L2.start N vs) H) : FnOkG P w K mg base CX (k + 1) f fd ps sp := by
  obtain ⟨oc, od, dV, kV, doc, pm, an, cdv, ct, osl, rfl, lk, hcd, _, _⟩ := F.ex
  constructor
  · exact len
  intro A out s H args us vs Q E room gd e0 bnd rel pre
  have keep := fun (b : Addr) (o : Obj) (e : base.get? b = some o) => (e0.bs b o e).1
  have inK : K.In s.heap := e0.mod.kin.keeps keep
  have noLim : s.heap.NoLimit := e0.mod.nolimit.keeps keep
  have vis : ∀ y ∈ ps.zip us, sc.names.lookup y.1 = some .local ∨ (sc.names.lookup y.1 = some .cell ∧ ((cellsFrom (s.heap.objs.size + 1) sc.names []).lookup y.1).isSome = true) := by
    rintro ⟨n, v⟩ hy
    refine (S.par n (List.of_mem_zip hy).1).imp id fun q => ⟨q, ?_⟩
    exact PySem.W.cellsFrom_some _ _ _ (.inl q)
  apply codeAny_call_function room.depth (inK _ _ lk) rfl S.co S.gen rfl (PySem.W.codeRec_of inK hcd)
  apply bnd
  apply wpAny_newFunctionEnv_cells S.kind vis
  rintro env rfl s1 st
  refine ⟨noLim.keeps st.toInCall.keep, ?_⟩
  apply codeAny_func
  obtain ⟨t, ht, hq⟩ := hb cdv A out s H vs Q E (room.deeper _) gd pre
  have I0 := inv_start (CX := CX) (E := E) S room.hd e0 (len _ _ _ _ pre) rel st
  refine wpAny_mono (ht.run [] s1 _ H _ I0 hq) ?_ (fun _ _ z => z)
  intro fl s' h
  cases fl with
  | ret u => obtain ⟨v, _, H', J, rv, q⟩ := h; exact ⟨v, H', J.os, J.bare, J.base, J.hok, rv, q⟩
  | next => obtain ⟨_, H', J, q⟩ := h; exact ⟨V.non, H', J.os, J.bare, J.base, J.hok, rfl, q⟩
  | brk => obtain ⟨_, _, _, q⟩ := h; exact q.elim
  | cont => obtain ⟨_, _, _, q⟩ := h; exact q.elim
end
structure FnG (P : Program) (w : World) (K : PySem.W.Frag) (mg : Str → Option Value) (base : Heap) (CX : CXT) (k : Nat) (x : Str) (ps : List Str) (sp : Sp) : Prop where
  ex : ∃ (f : Addr) (fd : FuncData), FnOkG P w K mg base CX k f fd ps sp ∧ mg x = some (.ref f) ∧ PySem.W.keepIn K (.ref f) = true ∧ Binds K fd ps []
section
variable {X : Cx} {CX : CXT} {k : Nat} {ps : List Str} {sp : Sp} {E : XK} {x : Str} {p pos : Pos} {e : Expr} {es : List Expr} {t : TA}
theorem pe_callG (F : FnG X.prog X.w X.K X.mg X.base CX k x ps sp) (hr : Room k X.A) (gd : X.A.guards = some []) (hx : Passes CX X E) (ha : PA X (e :: es) t) (hg : Gl X x := by rfl) (hdb : (x == ("__debug__" : Str)) = false := by decide)
    (he : starEach (e :: es) X.env = (false, eval e X.env) :: starEach es X.env := by rfl) (hpl : (backTo pos (starEach es X.env)).any (·.1) = false := by rfl) :
    PE X (.Call (.Name x p) (e :: es) [] pos) (tCall sp [] E t) := by
  obtain ⟨f, fd, F, hm, hk, hb⟩ := F.ex
  constructor
  intro pins s σ H Q I pre
  apply wpAny_Call_Name_kw
  refine ld_glob I hg hm ?_ hdb
  refine PySem.W.callWith_K (h₀ := X.base) I.ok.mod.kin hk (thn (ha.run pos pins s σ H _ I pre) ?_) he hpl
  rintro us s1 ⟨vs, H1, I1, rel, q⟩
  refine ⟨I1.kIn, ?_⟩
  rw [List.append_nil] at q
  have ln : us.length = ps.length := by rw [← rel.length]; exact F.len _ _ _ _ q
  have bn := hb s1 us I1.kIn (by rw [List.append_nil]; exact ln)
  rw [List.append_nil] at bn
  apply wpAny_call
  refine codeAny_mono (F.runs X.A X.stack s1 H1 ⟨us, []⟩ us vs Q E hr gd I1.env0 bn rel q) ?_
  rintro (e | fl) s' h
  · exact hx pins σ H1 s1 e s' I1 h
  · cases fl with
    | ret u => exact I1.after h
    | _ => exact h.elim
end
/-! ### the law's own call, for such a def -/
section
variable {P : Program} {w : World} {K : PySem.W.Frag} {mg mb : Str → Option Value} {k : Nat} {fa a : Addr} {fd : FuncData} {x : Str} {sp : Sp} {s1 : Shared} {vs : List Value} {ns : List Int}
/-- .. where nothing or the script alone is tracked -/
theorem lawG0 (KX : K.In s1.heap) (hns : s1.heap.Ns mainGlobals mg) (hb : s1.heap.Ns builtinsNs mb) (hbb : ∀ x : Str, x ≠ "__name__" → mb x = bootBuiltins x) (hlim : s1.heap.NoLimit) (hgen : s1.gens = #[])
    (ha : s1.heap.get? a = some { cls := .type "list", data := .seq vs.toArray }) (hr : Room k callerA)
    (F : ∀ base : Heap, K.In base → base.Ns mainGlobals mg → FnOkG P w K mg base CX0 k fa fd [x] sp) (hbind : ∀ (s : Shared) (u : Value), BindsTo s fd ⟨[u], []⟩ [(x, u)])
    {H : Hp} (hO : Only H) (hsp : sp [.ref a] H (fun v _ => v = .bl true) fun _ _ _ => False) (hok : HOk P w H s1.heap) (hA : ∀ b, H b ≠ none → b = a ∧ K.lookup a = none) :
    codeAny (model P w) callerA (.call (.ref fa) ⟨[.ref a], []⟩) (fun r s' => r = .ok (.ret (.bool true)) ∧ OldK s1.heap s'.heap ∧ s'.os = s1.os ∧ AllBare s'.gens) s1 := by
  have noList : ∀ (b : Addr) (o : Obj) (es : Array DictEntry) (ep : Nat), s1.heap.get? b = some o → o.data = .dict es ep → H b = none := by
    intro b o es ep e d
    by_cases c : H b = none
    · exact c
    · rw [(hA b c).1, ha] at e
      cases e
      cases (d : Data.seq vs.toArray _ = Data.dict es ep)
  have nsB : ∀ (b : Addr) (m : Str → Option Value), s1.heap.Ns b m → (hidT s1.heap H).Ns b m := by
    rintro b m ⟨o, es, ep, e, d, r⟩
    exact ⟨o, es, ep, hidT_get e (noList b o es ep e d), d, r⟩
  have inB : K.In (hidT s1.heap H) := by
    intro b o e
    refine hidT_get (KX b o e) ?_
    by_cases c : H b = none
    · exact c
    · obtain ⟨rfl, n⟩ := hA b c
      rw [n] at e
      cases e
  have md : Mod K mg (hidT s1.heap H) := by
    obtain ⟨mc, h1, h2⟩ := hlim
    exact ⟨inB, nsB _ _ hns, ⟨mb, nsB _ _ hb, hbb⟩, ⟨mc, nsB _ _ h1, h2⟩⟩
  have none_in : ∀ b : Addr, b ∉ ([] : List Addr) := fun b z => (nomatch z)
  have e0 : Env0 P w K mg (hidT s1.heap H) callerA [] s1 H := ⟨rfl, md, fun b o e => of_hidT e, Nat.le_of_eq (hidT_size _ _), trivial, fun b z => (none_in b z).elim, hok, .of_eq hgen⟩
  refine codeAny_mono ((F _ inB (nsB _ _ hns)).runs callerA [] s1 H ⟨[.ref a], []⟩ [.ref a] [.ref a] _ _ hr rfl e0 (hbind s1 (.ref a)) (.cons rfl .nil) hsp) ?_
  rintro (e | fl) s' h
  · exact h.elim
  cases fl with
  | ret u =>
    obtain ⟨v, H', os, bare, un, hok', rel, q⟩ := h
    have q : v = .bl true := q
    subst q
    obtain rfl : u = Value.bool true := rel
    refine ⟨rfl, OldK.of_keep ?_, os, bare⟩
    intro b o e
    rcases hO b with z | ⟨ob, xs, z⟩
    · exact un.keep b o e z (none_in b) (none_in b)
    · obtain ⟨e1, _⟩ := hok b _ z
      obtain ⟨e2, _⟩ := hok' b _ (un.frzs b ob _ z)
      rw [e] at e1
      cases e1
      exact e2
  | _ => exact h.elim
theorem lawG (KX : K.In s1.heap) (hns : s1.heap.Ns mainGlobals mg) (hb : s1.heap.Ns builtinsNs mb) (hbb : ∀ x : Str, x ≠ "__name__" → mb x = bootBuiltins x) (hlim : s1.heap.NoLimit) (hgen : s1.gens = #[])
    (ha : s1.heap.get? a = some { cls := .type "list", data := .seq vs.toArray }) (hi : IntsAre vs ns) (hl : ns.length ≤ sizeLine) (hr : Room k callerA)
    (F : ∀ base : Heap, K.In base → base.Ns mainGlobals mg → FnOkG P w K mg base CX0 k fa fd [x] sp) (hbind : ∀ (s : Shared) (u : Value), BindsTo s fd ⟨[u], []⟩ [(x, u)])
    (hsp : ∀ H : Hp, Only H → SqL K H a (ns.map V.int) → sp [.ref a] H (fun v _ => v = .bl true) fun _ _ _ => False) :
    codeAny (model P w) callerA (.call (.ref fa) ⟨[.ref a], []⟩) (fun r s' => r = .ok (.ret (.bool true)) ∧ OldK s1.heap s'.heap ∧ s'.os = s1.os ∧ AllBare s'.gens) s1 := by
  have rel := vals_ints hi
  have lv := hi.length
  by_cases c : K.lookup a = none
  · let o : Obj := { cls := .type "list", data := .seq vs.toArray }
    have only : Only (upd (fun _ => none) a (.frz o (.lst (ns.map V.int)))) := fun b => by
      by_cases q : b = a
      · exact .inr ⟨o, _, by rw [q, upd_same]⟩
      · exact .inl (by rw [upd_ne q])
    refine lawG0 KX hns hb hbb hlim hgen ha hr F hbind only (hsp _ only (.inl (.inr ⟨o, upd_same⟩))) (fun b u z => ?_) fun b z => ?_
    · by_cases q : b = a
      · rw [q, upd_same] at z
        cases z
        rw [q]
        exact ⟨ha, by rw [List.length_map]; exact hl, vs, _, rel, ha⟩
      · rw [upd_ne q] at z
        cases z
    · by_cases q : b = a
      · exact ⟨q, c⟩
      · rw [upd_ne q] at z
        exact absurd rfl z
  · obtain ⟨o, ho⟩ := Option.ne_none_iff_exists'.mp c
    have e := KX a o ho
    rw [ha] at e
    cases e
    refine lawG0 KX hns hb hbb hlim hgen ha hr F hbind (H := fun _ => none) (fun _ => .inl rfl) (hsp _ (fun _ => .inl rfl) (.inr ⟨_, vs.toArray, _, ho, rfl, rfl, rfl, ?_, ?_⟩)) (fun b u z => (nomatch z)) fun b z => absurd rfl z
    · rw [List.size_toArray, lv]; exact hl
    · simpa using rel
end
theorem walkG {l : PySem.W.OpenLaw} {n k : Nat} {q : Program} {loose : List Str} {XP : (Str → Option Value) → Heap → Prop} {YP : World → Heap → Prop} {d : DefRec} {x : Str}
    (hn : l.most = some n) (hn2 : n ≤ sizeLine) (hdf : d.params.defaults = []) (hr : Room k callerA)
    (F : ∀ (w : World) (mg : Str → Option Value) (fa : Addr) (h : Heap), YP w h → h.Ns mainGlobals mg → mg d.name = some (.ref fa) →
      ∃ (K : PySem.W.Frag) (fd : FuncData) (sp : Sp), K.In h ∧ (∀ (s : Shared) (u : Value), BindsTo s fd ⟨[u], []⟩ [(x, u)]) ∧
        (∀ (H : Hp) (a : Addr) (ns : List Int), ns.length ≤ n → Only H → SqL K H a (ns.map V.int) → sp [.ref a] H (fun v _ => v = .bl true) fun _ _ _ => False) ∧
        ∀ base : Heap, K.In base → base.Ns mainGlobals mg → FnOkG l.prog w K mg base CX0 k fa fd [x] sp) :
    PySem.W.WalkO q loose XP YP l.row.toRowW d [] (fun f vs => PySem.call f vs) := by
  apply Att.attach_call hn hdf
  intro w s0 s1 mg mb fa o pm cd doc a vs ns G Y ho hd hcd hmg hobj hints hlen hg
  obtain ⟨K, fd, sp, KX, hb, hsp, hF⟩ := F w mg fa _ Y G.T.g hmg
  exact lawG KX G.T.g G.T.b G.T.builtins G.T.nolimit hg hobj hints (Nat.le_trans hlen hn2) hr hF hb fun H hO hS => hsp H a ns hlen hO hS
end Va

namespace Va
open PySem PySem.Spec PyProof.Rows L2 Bg
/-! ### several except clauses, each with a name or without -/
inductive HdM (X : Cx) : List ExceptHandler → List (Value × Option Nat × SuT) → Prop
  | nil : HdM X [] []
  | as_ {x n : Str} {c : Value} {i : Nat} {ts : SuT} {b0 : Stmt} {bs : List Stmt} {np po : Pos} {hds : List ExceptHandler} {l : List (Value × Option Nat × SuT)} : Names X x c → X.N[i]? = some n → X.env.kindOf n = some .local →
      (∀ (a : Addr) (oe : Obj) (cls : Value) (d : Option Addr) (pn : List (Addr × Obj)), Zc cls d oe → (∃ vs, oe.data = .fields vs) → PSs (X.suite a ((a, oe) :: pn)) (b0 :: bs) (ts a cls d)) → HdM X hds l →
      HdM X (.ExceptHandler (some (.Name x np)) (some n) (b0 :: bs) po :: hds) ((c, some i, ts) :: l)
  | no_ {x : Str} {c : Value} {ts : SuT} {b0 : Stmt} {bs : List Stmt} {np po : Pos} {hds : List ExceptHandler} {l : List (Value × Option Nat × SuT)} : Names X x c →
      (∀ (a : Addr) (oe : Obj) (cls : Value) (d : Option Addr) (pn : List (Addr × Obj)), Zc cls d oe → (∃ vs, oe.data = .fields vs) → PSs (X.suite a ((a, oe) :: pn)) (b0 :: bs) (ts a cls d)) → HdM X hds l →
      HdM X (.ExceptHandler (some (.Name x np)) none (b0 :: bs) po :: hds) ((c, none, ts) :: l)
section
variable {X : Cx} {body : List Stmt} {h0 : ExceptHandler} {hds : List ExceptHandler} {l : List (Value × Option Nat × SuT)} {pos : Pos} {tb : WX → TS} {Wout : WX}
theorem ps_tryM (hs : X.stack = X.env :: X.outer) (hf : X.env.frame = some X.env.locals) (hN : X.N.Nodup) (tk : Takes X Wout)
    (hb : ∀ (W : WX) (pn : List (Addr × Obj)) (xe : Value → Shared → Prop), Takes (X.tr pn xe) W → PassesOwn (model X.prog X.w) X.A X.env xe → PSs (X.tr pn xe) body (tb W))
    (hh : HdM X (h0 :: hds) l) : PS X (.Try body (h0 :: hds) [] [] pos) (tTry X.K Wout tb l) := by
  constructor
  intro pins s σ H D I pre
  have ok := I.ok
  have frX : X.A.frames = some (X.env :: X.outer) := ok.frames.trans (congrArg some hs)
  apply wpAny_Try_except
  refine wpAny_mono ((hb (wTry X.K Wout D l) (X.pn ++ pins) _ ?caught PassesOwn.looking).run [] s σ H D (I.toTry _) pre) ?fine fun _ _ z => z
  case fine =>
    intro f s1 h
    cases f with
    | next => obtain ⟨a, b, J, q⟩ := h; exact wpAny_execs_nil ⟨a, b, J.ofTry ok, q⟩
    | brk => obtain ⟨a, b, J, q⟩ := h; exact ⟨a, b, J.ofTry ok, q⟩
    | cont => obtain ⟨a, b, J, q⟩ := h; exact ⟨a, b, J.ofTry ok, q⟩
    | ret u => obtain ⟨v, a, b, J, r, q⟩ := h; exact ⟨v, a, b, J.ofTry ok, r, q⟩
  case caught =>
    rintro u s' ⟨a, B, sI, _, σ1, H1, cls, d, rfl, J0, nb, up, sky, na, os, ag, wish⟩
    have J : Inv X pins σ1 H1 sI := J0.ofTry ok
    rw [hs] at sky
    show wpAny (model X.prog X.w) X.A (noteFrame (.ref a) X.env) _ _ _
    refine Sky.land Zc.steady frX hf sky ?_
    intro h3 fl up3
    have J3 : Inv X pins σ1 H1 { s' with heap := h3 } := J.landed nb fl.1 (up.trans up3) os ag
    obtain ⟨oe, vs, he, hz, hd⟩ := fl.there
    have nfr : a ∉ frs (X.env :: X.outer) := by
      intro hm
      obtain ⟨_, o', e', nd⟩ := fl.2.2.1.mem hm
      rw [he] at e'
      cases e'
      exact nd _ hd
    have nL : a ≠ X.env.locals := by
      rintro rfl
      exact nfr (List.mem_filterMap.mpr ⟨X.env, List.mem_cons_self, hf⟩)
    have nF : a ∉ X.fs := by
      intro hm
      obtain ⟨e, m, q⟩ := List.mem_filterMap.mp hm
      exact nfr (List.mem_filterMap.mpr ⟨e, .tail _ m, q⟩)
    have S3 := J3.suite he hd na nL nF
    /- the class that a clause names is found -/
    have look : ∀ {x : Str} {c : Value} {np : Pos} {Q : Value → Shared → Prop} {E : Value → Shared → Prop}, Names X x c → Q c { s' with heap := h3 } → wpAny (model X.prog X.w) (X.A.mark (some (.ref a))) (eval (.Name x np) X.env) Q E { s' with heap := h3 } := by
      rintro x c np Q E ⟨g1, g2, m | ⟨m1, m2, m3⟩⟩ q
      · exact ld_glob (X := X.suite a ((a, oe) :: (X.pn ++ pins))) S3 g1 m q g2
      · exact ld_blt (X := X.suite a ((a, oe) :: (X.pn ++ pins))) S3 g1 m1 m2 q m3 g2
    have isCls : PySem.W.Looks (model X.prog X.w) h3 (typeOf (.ref a)) cls := by
      intro A Q E s k q
      refine wpAny_typeOf_ref (k _ _ he) ?_
      rw [hz.1]
      exact q
    clear pre
    revert wish
    show wTry X.K Wout D l cls d σ1 H1 → wpAny (model X.prog X.w) X.A (handleBy (.ref a) X.env (h0 :: hds)) _ _ _
    generalize h0 :: hds = hl at hh ⊢
    induction hh with
    | nil =>
      intro wish
      apply wpAny_handleBy_nil
      obtain ⟨_, _, _, oe', vs', T, oT, _, he', _, hd', h1, _⟩ := id fl
      unfold PySem.passOn
      refine wpAny_bind (wpAny_field he' hd' h1 ?_)
      rw [if_neg (by simp)]
      have out : wpAny (model X.prog X.w) X.A (setFlight (.ref a) X.env.frame) (fun _ s4 => wpAny (model X.prog X.w) X.A (throw (.ref a) : Sem Flow) (SP X pins D) X.xe s4) X.xe { s' with heap := h3 } := by
        rw [hf]
        refine HandSPX.setFlight_upZ fl ?_
        intro h4 hh4 up4
        refine wpAny_throw (tk _ _ ⟨a, B, sI, pins, σ1, H1, cls, d, rfl, J, nb, (up.trans up3).trans up4, .inr (.inr ?_), na, os, ag, wish⟩)
        rw [hs]
        exact hh4
      first | exact wpAny_bind (wpAny_pure (wpAny_bind out)) | exact wpAny_bind out
    | @as_ x n c i ts b0 bs np po hds2 l2 hc hi hln hsu _ ih =>
      rintro ⟨b, hb1, yes, no⟩
      refine wpAny_handleBy_cons (codeAny_handlers_test (look hc ((PySem.W.exm_one (M := model X.prog X.w) J3.kIn isCls hb1).here ?_))) (fun q => by cases q)
      cases b with
      | false => exact ih (no rfl)
      | true =>
        apply codeAny_handlers_suite_as
        refine HandSPX.lands_againZ fl ?_
        intro h4 fl4 up4
        have J4 : Inv X pins σ1 H1 { s' with heap := h4 } := J.landed nb fl4.1 ((up.trans up3).trans up4) os ag
        obtain ⟨oe4, _, he4, hz4, hd4⟩ := fl4.there
        refine store_ok (X := X.suite a ((a, oe4) :: (X.pn ++ pins))) (v := .ref a) (J4.suite he4 hd4 na nL nF) hN hi (.inl hln) rfl ?_ (.inr hln)
        intro s5 S5
        refine wpAny_mono ((hsu a oe4 cls d (X.pn ++ pins) hz4 ⟨_, hd4⟩).run [] s5 _ H1 _ S5 (yes rfl a na)) ?_ fun _ _ z => z.elim
        intro f s6 h
        have fin : ∀ {σ6 : L2.St} {H6 : Hp} {Q : Shared → Prop}, Inv (X.suite a ((a, oe4) :: (X.pn ++ pins))) [] σ6 H6 s6 → (∀ s7, Inv X pins (σ6.set i none) H6 s7 → Q s7) →
            wpAny (model X.prog X.w) X.A (do bindName X.env n .none; unbindBehindTheSuite X.env n po) (fun _ s7 => Q s7) X.xe s6 := fun S6 hq => gone_ok (S6.unsuite ok) hN hi hln hq
        cases f with
        | next => obtain ⟨_, _, S6, q⟩ := h; exact fin S6 fun s7 J7 => ⟨_, _, J7, q⟩
        | brk => obtain ⟨_, _, S6, q⟩ := h; exact fin S6 fun s7 J7 => ⟨_, _, J7, q⟩
        | cont => obtain ⟨_, _, S6, q⟩ := h; exact fin S6 fun s7 J7 => ⟨_, _, J7, q⟩
        | ret u => obtain ⟨_, _, _, S6, r, q⟩ := h; exact fin S6 fun s7 J7 => ⟨_, _, _, J7, r, q⟩
    | @no_ x c ts b0 bs np po hds2 l2 hc hsu _ ih =>
      rintro ⟨b, hb1, yes, no⟩
      refine wpAny_handleBy_cons (codeAny_handlers_test (look hc ((PySem.W.exm_one (M := model X.prog X.w) J3.kIn isCls hb1).here ?_))) (fun q => by cases q)
      cases b with
      | false => exact ih (no rfl)
      | true =>
        apply codeAny_handlers_suite
        refine HandSPX.lands_againZ fl ?_
        intro h4 fl4 up4
        have J4 : Inv X pins σ1 H1 { s' with heap := h4 } := J.landed nb fl4.1 ((up.trans up3).trans up4) os ag
        obtain ⟨oe4, _, he4, hz4, hd4⟩ := fl4.there
        refine wpAny_mono ((hsu a oe4 cls d (X.pn ++ pins) hz4 ⟨_, hd4⟩).run [] _ _ H1 _ (J4.suite he4 hd4 na nL nF) (yes rfl a na)) ?_ fun _ _ z => z.elim
        intro f s6 h
        cases f with
        | next => obtain ⟨_, _, S6, q⟩ := h; exact ⟨_, _, S6.unsuite ok, q⟩
        | brk => obtain ⟨_, _, S6, q⟩ := h; exact ⟨_, _, S6.unsuite ok, q⟩
        | cont => obtain ⟨_, _, S6, q⟩ := h; exact ⟨_, _, S6.unsuite ok, q⟩
        | ret u => obtain ⟨_, _, _, S6, r, q⟩ := h; exact ⟨_, _, _, S6.unsuite ok, r, q⟩
end
end Va

namespace Va
open PySem PySem.Spec PyProof.Rows L2 Bg
/-! ### repr of lists and tuples -/
/-- a plain thing or an empty dict, and its text -/
def ItV (H : Hp) (v : V) (t : Str) : Prop := (v = .non ∧ t = ("None" : Str)) ∨ (∃ b, v = .bl b ∧ t = (if b = true then ("True" : Str) else ("False" : Str))) ∨ (∃ i : Int, v = .int i ∧ i.natAbs.log2 < 1920 ∧ t = Str.ofString (toString i)) ∨ (∃ z, v = .str z ∧ (reprText z).length ≤ sizeLine ∧ t = reprText z) ∨ (∃ b, v = .ref b ∧ Rd H b (.dK []) ∧ t = dictText [])
def ShV (K : PySem.W.Frag) (H : Hp) (a : Addr) (t : Str) : Prop :=
  (∃ d : PyData, Dp K H (.ref a) d ∧ d.showable = true ∧ d.hasDict = false ∧ d.depth ≤ 64 ∧ d.shown.length ≤ sizeLine ∧ t = d.shown) ∨
  (∃ xs ts, SqL K H a xs ∧ xs ≠ [] ∧ ts.length = xs.length ∧ (∀ (i : Nat) (x : V) (t : Str), xs[i]? = some x → ts[i]? = some t → ItV H x t) ∧ (listText ts).length ≤ sizeLine ∧ t = listText ts)
def rRepr (K : PySem.W.Frag) : List V → Hp → VK → Prop := fun xs H Q => ∃ a t, xs = [.ref a] ∧ ShV K H a t ∧ Q (.str t) H
theorem call_reprV {X : Cx} (gd : X.A.guards = some []) (hu : X.A.units + 200 < cLine) : CallR X (.builtin "repr") (rRepr X.K) := by
  intro pins s σ H xs us Q I r h
  obtain ⟨a, t, rfl, hv, q⟩ := h
  obtain ⟨u, rfl, rx⟩ := vals1 r
  cases rx
  rcases hv with ⟨d, dp, h1, h2, h3, h4, rfl⟩ | ⟨xs, ts, sq, hne, hlen, hit, hsz, rfl⟩
  · obtain ⟨as, rd⟩ := Dp.reads I d _ _ dp rfl
    exact repr_of_reads' rd h1 (PyData.noDict_hsm h2) gd (by omega) (fun _ _ z => z) (fun h' u tk hk => ⟨.str d.shown, H, I.kept hk, ⟨u, rfl⟩, q⟩) h4
  · obtain ⟨its, rv, ⟨o, n, ho, hc, _, hd⟩, _⟩ := I.list sq
    have dct : ∀ b, Rd H b (.dK []) → b ≠ a ∧ ReprK X.prog X.w [b] s.heap 1 (.ref b) (dictText []) := fun b hb => by
      have hok : ObjOk X.prog X.w H s.heap b (.dK []) := hb.ok I.hok
      obtain ⟨_, nsys, kv, hkv, ob, es, ep, hob, hcls, hdat, _, hpr, _⟩ := hok
      cases hkv
      obtain ⟨les⟩ := es
      have les0 : les = [] := by
        have hp2 : Pairs (mixKind X.prog X.w) les [] := hpr
        cases hp2
        rfl
      subst les0
      refine ⟨fun z => ?_, ReprK.dict (as := []) hob hcls.1 hdat nsys (fun z => (nomatch z)) .nil⟩
      rw [z, ho] at hob
      cases hob
      rw [hd] at hdat
      cases hdat
    let as : List Addr := xs.filterMap fun v => match v with | .ref b => some b | _ => none
    have hna : a ∉ as := fun z => by
      obtain ⟨v, hv, e⟩ := List.mem_filterMap.mp z
      obtain ⟨i, hi⟩ := List.mem_iff_getElem?.mp hv
      obtain ⟨t, ht⟩ := get_lt (l := ts) (n := i) (by rw [hlen]; exact (List.getElem?_eq_some_iff.mp hi).1)
      cases v with
      | ref b =>
        cases e
        rcases hit i _ t hi ht with h | ⟨_, h, _⟩ | ⟨_, h, _⟩ | ⟨_, h, _⟩ | ⟨b', h, hb, _⟩
        · cases h.1
        · cases h
        · cases h
        · cases h
        · cases h; exact (dct _ hb).1 rfl
      | _ => cases e
    have item : ∀ (i : Nat) (y : Value), its[i]? = some y → ∃ t, ts[i]? = some t ∧ ReprK X.prog X.w as s.heap 1 y t := fun i y hy => by
      have hi : i < its.length := (List.getElem?_eq_some_iff.mp hy).1
      have hl := rv.length
      obtain ⟨x, hx⟩ := get_lt (l := xs) (n := i) (by omega)
      obtain ⟨t, ht⟩ := get_lt (l := ts) (n := i) (by omega)
      obtain ⟨y', hy', rel⟩ := rv.get hx
      rw [hy] at hy'
      cases hy'
      refine ⟨t, ht, ?_⟩
      rcases hit i x t hx ht with ⟨rfl, rfl⟩ | ⟨b, rfl, rfl⟩ | ⟨k, rfl, hk, rfl⟩ | ⟨z, rfl, hz, rfl⟩ | ⟨b, rfl, hb, rfl⟩
      · cases rel; exact .of_is ReprIs.none _ _ _
      · cases rel; exact .of_is (ReprIs.bool b) _ _ _
      · obtain ⟨tk, rfl⟩ := rel; exact .of_is (ReprIs.int tk hk) _ _ _
      · obtain ⟨tk, rfl⟩ := rel; exact .of_is (ReprIs.str z tk hz) _ _ _
      · cases rel
        exact ((dct b hb).2).more fun c hc => by
          cases List.mem_singleton.mp hc
          exact List.mem_filterMap.mpr ⟨_, List.mem_of_getElem? hx, rfl⟩
    cases its with
    | nil => cases rv; exact absurd rfl hne
    | cons x l =>
      have hl := rv.length
      exact call_repr_slot (by omega) ⟨o, ho, hc⟩ F.slot_list_repr.toG (call_list_reprK ho hc hd hna (by rw [hlen]; simpa using hl) (fun i y e => item i y (by simpa using e)) (g := []) gd (fun b _ => Clear.nil b) (by show X.A.units + 1 + (1 + 1) < _; omega) (fun _ _ z => z) (fun h' u tk hk => ⟨_, _, rfl, .str (listText ts), H, I.kept hk, ⟨u, rfl⟩, q⟩) hsz)
/-! ### texts of trees -/
mutual
theorem plain_noDict : ∀ {d : D}, plain d = true → (toP d).hasDict = false
  | .non, _ => rfl
  | .bl _, _ => rfl
  | .int _, _ => rfl
  | .str _, _ => rfl
  | .lst ds, h => plains_noDict (ds := ds) h
  | .tup ds, h => plains_noDict (ds := ds) h
  | .dct _, h => (nomatch h)
  | .dcp _, h => (nomatch h)
  | .obj _ _, h => (nomatch h)
theorem plains_noDict : ∀ {ds : List D}, plains ds = true → PyData.hasDictAll (toPs ds) = false
  | [], _ => rfl
  | d :: ds, h => by
    have h : (plain d && plains ds) = true := h
    rw [Bool.and_eq_true] at h
    show ((toP d).hasDict || PyData.hasDictAll (toPs ds)) = false
    rw [plain_noDict h.1, plains_noDict h.2]
    rfl
end
/-- its text is told: at most n deep, at most m signs -/
structure Sh (n m : Nat) (d : D) : Prop where
  pl : plain d = true
  sh : (toP d).showable = true
  dp : (toP d).depth ≤ n
  ln : (toP d).shown.length ≤ m
theorem Sh.mono {n m n' m' : Nat} {d : D} (h : Sh n m d) (h1 : n ≤ n') (h2 : m ≤ m') : Sh n' m' d := ⟨h.pl, h.sh, Nat.le_trans h.dp h1, Nat.le_trans h.ln h2⟩
theorem sh_non : Sh 0 4 .non := ⟨rfl, rfl, Nat.le_refl _, by decide +kernel⟩
theorem sh_bl (b : Bool) : Sh 0 5 (.bl b) := ⟨rfl, rfl, Nat.le_refl _, by cases b <;> decide +kernel⟩
theorem sh_int {i : Int} {k : Nat} (hk : 0 < k) (hk2 : k ≤ 500) (h : i.natAbs < 10 ^ k) : Sh 0 (k + 1) (.int i) := by
  refine ⟨rfl, ?_, Nat.le_refl _, ?_⟩
  · show decide (i.natAbs.log2 < 1920) = true
    rw [decide_eq_true_iff]
    by_cases c : i.natAbs = 0
    · rw [c]; decide
    · rw [Nat.log2_lt c]
      refine Nat.lt_of_lt_of_le h (Nat.le_trans (Nat.pow_le_pow_right (by decide) hk2) ?_)
      have e : (2 : Nat) ^ 1920 = (2 ^ 4) ^ 480 := by rw [← Nat.pow_mul]
      have e2 : (10 : Nat) ^ 500 ≤ 2 ^ 1920 := by decide +kernel
      exact e2
  · show (Str.ofString (toString i)).length ≤ k + 1
    rw [PySem.ofString_length]
    exact int_text_length_le10 hk h
theorem sh_str {z : Str} {m : Nat} (h : (reprText z).length ≤ m) : Sh 0 m (.str z) := ⟨rfl, rfl, Nat.le_refl _, h⟩
theorem shs {n m : Nat} : ∀ {ds : List D}, (∀ d ∈ ds, Sh n m d) → plains ds = true ∧ PyData.showableAll (toPs ds) = true ∧ PyData.depthAll (toPs ds) ≤ n ∧ ((PyData.shownAll (toPs ds)).map (·.length)).sum ≤ ds.length * m ∧ (PyData.shownAll (toPs ds)).length = ds.length
  | [], _ => ⟨rfl, rfl, Nat.zero_le _, Nat.zero_le _, rfl⟩
  | d :: ds, h => by
    have h1 := h d List.mem_cons_self
    obtain ⟨a, b, c, e, f⟩ := shs (ds := ds) fun x hx => h x (.tail _ hx)
    refine ⟨?_, ?_, ?_, ?_, ?_⟩
    · show (plain d && plains ds) = true
      rw [h1.pl, a]; rfl
    · show ((toP d).showable && PyData.showableAll (toPs ds)) = true
      rw [h1.sh, b]; rfl
    · show max (toP d).depth (PyData.depthAll (toPs ds)) ≤ n
      exact Nat.max_le.mpr ⟨h1.dp, c⟩
    · show (toP d).shown.length + ((PyData.shownAll (toPs ds)).map (·.length)).sum ≤ (ds.length + 1) * m
      have := h1.ln
      rw [Nat.add_mul]
      omega
    · show (PyData.shownAll (toPs ds)).length + 1 = ds.length + 1
      rw [f]
theorem sh_lst {n m : Nat} {ds : List D} (h : ∀ d ∈ ds, Sh n m d) : Sh (n + 1) (ds.length * m + 2 * ds.length + 3) (.lst ds) := by
  obtain ⟨a, b, c, e, f⟩ := shs h
  refine ⟨a, b, Nat.succ_le_succ c, ?_⟩
  have := listText_len_le (PyData.shownAll (toPs ds))
  show (listText (PyData.shownAll (toPs ds))).length ≤ _
  omega
theorem sh_tup {n m : Nat} {ds : List D} (h : ∀ d ∈ ds, Sh n m d) : Sh (n + 1) (ds.length * m + 2 * ds.length + 3) (.tup ds) := by
  obtain ⟨a, b, c, e, f⟩ := shs h
  refine ⟨a, b, Nat.succ_le_succ c, ?_⟩
  have := tupleText_len_le (PyData.shownAll (toPs ds))
  show (tupleText (PyData.shownAll (toPs ds))).length ≤ _
  omega
theorem foldl_sum {q : Nat} {m : Nat} : ∀ (l : List Nat) (a : Array Nat), (∀ c ∈ l, (Builtin.Str.reprChar q c).length ≤ m) → (l.foldl (fun (out : Array Nat) c => out ++ (Builtin.Str.reprChar q c).toArray) a).size ≤ a.size + l.length * m
  | [], a, _ => by simp
  | c :: l, a, h => by
    have := foldl_sum l (a ++ (Builtin.Str.reprChar q c).toArray) fun x hx => h x (.tail _ hx)
    have h1 := h c List.mem_cons_self
    simp only [List.foldl_cons, List.length_cons, Array.size_append, List.size_toArray] at this ⊢
    rw [Nat.add_mul]
    omega
theorem reprText_le {z : Str} {m : Nat} (h : ∀ c ∈ z.cps.toList, ∀ q, (Builtin.Str.reprChar q c).length ≤ m) : (reprText z).length ≤ z.length * m + 2 := by
  have := foldl_sum (q := reprQuote z) (m := m) z.cps.toList #[reprQuote z] fun c hc => h c hc _
  unfold reprText
  show (Array.push _ _).size ≤ _
  rw [Array.size_push, ← Array.foldl_toList]
  have e : z.cps.toList.length = z.length := by simp [Str.length]
  rw [e] at this
  have e2 : (#[reprQuote z] : Array Nat).size = 1 := rfl
  rw [e2] at this
  omega
theorem low_prints : ∀ c, isLow c = true → Unicode.isPrintable c = true := by
  intro c h
  have h1 : 97 ≤ c ∧ c ≤ 122 := by simpa [isLow] using h
  have : ∀ d, d < 26 → Unicode.isPrintable (97 + d) = true := by decide +kernel
  have h2 := this (c - 97) (by omega)
  rwa [show 97 + (c - 97) = c by omega] at h2
theorem reprChar_low {c : Nat} (h : isLow c = true) (q : Nat) : (Builtin.Str.reprChar q c).length ≤ 2 := by
  have hp := low_prints c h
  unfold Builtin.Str.reprChar
  dsimp only
  split
  · exact Nat.le_refl _
  split
  · exact Nat.le_refl _
  split
  · exact Nat.le_refl _
  split
  · exact Nat.le_refl _
  exact Nat.le_succ _
theorem sh_label {z : Str} (h : labelB z = true) : Sh 0 18 (.str z) := by
  have h' : (1 ≤ z.length ∧ z.length ≤ 8) ∧ z.cps.toList.all isLow = true := by simpa [labelB] using h
  refine sh_str (Nat.le_trans (reprText_le (m := 2) fun c hc q => reprChar_low (List.all_eq_true.mp h'.2 c hc) q) ?_)
  omega
/-! ### the rule -/
/-- plain things and empty dicts -/
def itB : D → Bool
  | .non => true
  | .bl _ => true
  | .int i => decide (i.natAbs.log2 < 1920)
  | .str z => decide ((reprText z).length ≤ 1000)
  | .dct es => es.isEmpty
  | _ => false
def itT : D → Str
  | .dct _ => dictText []
  | d => (toP d).shown
theorem itV_of {K : PySem.W.Frag} {O : AP} {H : Hp} {v : V} {d : D} (r : Rep K O H v d) (h : itB d = true) : ItV H v (itT d) := by
  cases r with
  | non => exact .inl ⟨rfl, rfl⟩
  | bl b => exact .inr (.inl ⟨b, rfl, by cases b <;> rfl⟩)
  | int i => exact .inr (.inr (.inl ⟨i, rfl, of_decide_eq_true h, rfl⟩))
  | str z => exact .inr (.inr (.inr (.inl ⟨z, rfl, Nat.le_trans (of_decide_eq_true h) (by decide), rfl⟩)))
  | @dct a kvs es _ hr _ hk _ =>
    have : es = [] := by cases es with | nil => rfl | cons _ _ => cases h
    subst this
    have : kvs = [] := by simpa using hk
    subst this
    exact .inr (.inr (.inr (.inr ⟨_, rfl, hr, rfl⟩)))
  | _ => cases h
def reprM (d : D) : M Str := fun P _ => ((∃ ds, d = .lst ds ∨ d = .tup ds) ∧ Sh 64 16000000 d ∧ P (toP d).shown) ∨ (∃ ds, d = .lst ds ∧ ds ≠ [] ∧ (∀ x ∈ ds, itB x = true) ∧ (listText (ds.map itT)).length ≤ sizeLine ∧ P (listText (ds.map itT)))
theorem repr_same {d : D} {Q : Str → Str → Prop} {X X' : Exn → Prop} (h : (∃ ds, d = .lst ds ∨ d = .tup ds) ∧ Sh 64 16000000 d ∨ (∃ ds, d = .lst ds ∧ ds ≠ [] ∧ (∀ x ∈ ds, itB x = true) ∧ (listText (ds.map itT)).length ≤ sizeLine)) (q : ∀ t, Q t t) : reprM d (fun a => reprM d (fun b => Q a b) X') X := by
  rcases h with ⟨h1, h2⟩ | ⟨ds, h1, h2, h3, h4⟩
  · exact .inl ⟨h1, h2, .inl ⟨h1, h2, q _⟩⟩
  · exact .inr ⟨ds, h1, h2, h3, h4, .inr ⟨ds, h1, h2, h3, h4, q _⟩⟩
/-- a text that is the same each time -/
def repT (d : D) (t : Str) : Prop := (∃ ds, d = .lst ds ∨ d = .tup ds) ∧ Sh 64 16000000 d ∧ t = (toP d).shown ∨ (∃ ds, d = .lst ds ∧ ds ≠ [] ∧ (∀ x ∈ ds, itB x = true) ∧ (listText (ds.map itT)).length ≤ sizeLine ∧ t = listText (ds.map itT))
section
variable {K : PySem.W.Frag} {EX : L2.St → XK} {ρ : List Sl} {α : Type}
theorem re_repr {ta : TE} {res : Res α} {en : α → D} [SeenX K res en] {w : M α} (ha : RG K EX ρ ta res w) : RE K EX ρ (tCB (rRepr K) (tCons ta tNil)) D.str (w >>= fun a => reprM (en a)) := fun B O H σ E P PX Q hw hq hx =>
  ha B O H σ E _ PX _ hw (fun a v H1 p e r => by
    rcases p with ⟨⟨ds, hd⟩, hs, p⟩ | ⟨ds, hd, hne, hit, hsz, p⟩
    · have dp := SeenX.dp (K := K) r hs.pl
      have hv : ∃ b, v = .ref b := by
        rcases hd with hd | hd <;> rw [hd] at dp <;> cases dp <;> exact ⟨_, rfl⟩
      obtain ⟨b, rfl⟩ := hv
      exact ⟨b, _, rfl, .inl ⟨_, dp, hs.sh, plain_noDict hs.pl, hs.dp, Nat.le_trans hs.ln (by decide), rfl⟩, hq _ _ _ p e (.str _)⟩
    · obtain ⟨b, xs, rfl, sq, rl⟩ := SeenX.sl (K := K) r hd
      have hl := rl.length
      refine ⟨b, _, rfl, .inr ⟨xs, ds.map itT, sq, fun z => ?_, by rw [List.length_map, hl], fun i x t hx ht => ?_, hsz, rfl⟩, hq _ _ _ p e (.str _)⟩
      · rw [z] at hl; exact hne (List.length_eq_zero_iff.mp hl.symm)
      · obtain ⟨d, hd', rd⟩ := rl.get' hx
        rw [List.getElem?_map, hd'] at ht
        cases ht
        exact itV_of rd (hit d (List.mem_of_getElem? hd'))) hx
end
theorem un_of {k : Nat} {A : Around} (hr : Room k A) : A.units + 200 < cLine := by have := hr.un; omega
end Va

namespace Va
open PySem PySem.Spec PyProof.Rows L2 Bg
/-! ### xs == [], whatever xs holds -/
def rEqN (K : PySem.W.Frag) (neg : Bool) : R2 := fun x y H Q => ∃ (a b : Addr) (xs : List V), x = .ref a ∧ y = .ref b ∧ SqL K H a xs ∧ SqL K H b [] ∧ Q (.bl (xs.isEmpty != neg)) H
section
variable {X : Cx}
theorem op_eqN (hu : X.A.units + 64 < cLine) : OpR X (compareOp .Eq) (rEqN X.K false) := by
  rintro pins s σ H x y v u Q I rx ry ⟨a, b, xs, rfl, rfl, ha, hb, q⟩
  cases rx; cases ry
  obtain ⟨i1, v1, p1, _⟩ := I.list ha
  obtain ⟨i2, v2, p2, _⟩ := I.list hb
  cases v2
  cases v1 with
  | nil =>
    refine SeqAt.RcAt.lists (e := fun _ => true) (A := X.A) p1.isList p2.isList rfl (by omega) (fun j h1 h2 => absurd h1 (Nat.not_lt_zero _)) X.prog X.w _ _ ?_
    rw [all_true]; exact ⟨.bl true, H, I, rfl, q⟩
  | cons r t => exact SeqAt.RcAt.lists_lengths (A := X.A) p1.isList p2.isList rfl (by omega) X.prog X.w _ _ ⟨.bl false, H, I, rfl, q⟩
theorem op_neN (hu : X.A.units + 64 < cLine) : OpR X (compareOp .NotEq) (rEqN X.K true) := by
  rintro pins s σ H x y v u Q I rx ry ⟨a, b, xs, rfl, rfl, ha, hb, q⟩
  cases rx; cases ry
  obtain ⟨i1, v1, p1, _⟩ := I.list ha
  obtain ⟨i2, v2, p2, _⟩ := I.list hb
  cases v2
  cases v1 with
  | nil =>
    refine SeqAt.RcNeAt.lists (e := fun _ => true) (A := X.A) p1.isList p2.isList rfl (by omega) (fun j h1 h2 => absurd h1 (Nat.not_lt_zero _)) X.prog X.w _ _ ?_
    rw [all_true]; exact ⟨.bl false, H, I, rfl, q⟩
  | cons r t => exact SeqAt.RcNeAt.lists_lengths (A := X.A) p1.isList p2.isList rfl (by omega) X.prog X.w _ _ ⟨.bl true, H, I, rfl, q⟩
end
def eqN (neg : Bool) (d e : D) : M Bool := fun P _ => ∃ ds, d = .lst ds ∧ e = .lst [] ∧ P (ds.isEmpty != neg)
section
variable {K : PySem.W.Frag} {EX : L2.St → XK} {ρ : List Sl} {α β : Type}
theorem re_eqN (neg : Bool) {ta tb : TE} {res1 : Res α} {res2 : Res β} [Lasts res1] [Lasts res2] {en : α → D} {en' : β → D} [SeenX K res1 en] [SeenX K res2 en'] {wa : M α} {wb : M β} (ha : RG K EX ρ ta res1 wa) (hb : RG K EX ρ tb res2 wb) : RE K EX ρ (tOp (rEqN K neg) ta tb) D.bl (wa >>= fun a => wb >>= fun b => eqN neg (en a) (en' b)) :=
  rg_op (fun O H0 H x y a b P PX Q _ r1 r2 p q => by
    obtain ⟨ds, h1, h2, p⟩ := p
    obtain ⟨p1, xs, rfl, sq1, l1⟩ := SeenX.sl (K := K) (res := res1) r1 h1
    obtain ⟨p2, ys, rfl, sq2, l2⟩ := SeenX.sl (K := K) (res := res2) r2 h2
    cases l2
    have e : xs.isEmpty = ds.isEmpty := by cases l1 <;> rfl
    exact ⟨p1, p2, xs, rfl, rfl, sq1, sq2, by rw [e]; exact q _ _ H p (.refl _ _) (.bl _)⟩) ha hb
end
theorem eqN_l {α : Type} {en : α → D} {l : List α} {neg : Bool} {P : Bool → Prop} {X : Exn → Prop} : eqN neg (eL en l) (eL (fun d : D => d) []) P X = P (l.isEmpty != neg) := propext ⟨fun ⟨ds, e, _, p⟩ => by
  have e : D.lst (l.map en) = .lst ds := e
  cases e
  cases l <;> exact p, fun p => ⟨_, rfl, rfl, by cases l <;> exact p⟩⟩
end Va

namespace Va
open PySem PySem.Spec PyProof.Rows L2 Bg
/-! ### rows looked through one by one -/
structure RowK {ρ : Type} (en : ρ → D) (dr : ρ → Int) (gd : ρ → Prop) (pr : D → Int → Bool) (dp : D → Int) : Prop where
  enc : ∀ d m, pr d m = true → ∃ r, d = en r ∧ gd r ∧ 1 ≤ dr r ∧ dr r ≤ m
  dec : ∀ r m, gd r → 1 ≤ dr r → dr r ≤ m → pr (en r) m = true
  dpe : ∀ r, dp (en r) = dr r
def okR (pr : D → Int → Bool) (dp : D → Int) (top : Int) (n : Nat) (m : Int) (d : D) : Bool := pr d (min m top) && !(decide (0 < n) && decide (dp d = 1))
def scanR (pr : D → Int → Bool) (dp : D → Int) (top : Int) : Nat → Int → List D → Option Nat
  | _, _, [] => none
  | n, m, d :: ds => if okR pr dp top n m d = true then scanR pr dp top (n + 1) (dp d + 1) ds else some n
def ChG {ρ : Type} (dr : ρ → Int) (gd : ρ → Prop) (top : Int) : Nat → Int → List ρ → Prop
  | _, _, [] => True
  | n, m, r :: rs => gd r ∧ 1 ≤ dr r ∧ dr r ≤ min m top ∧ (0 < n → dr r ≠ 1) ∧ ChG dr gd top (n + 1) (dr r + 1) rs
def endM {ρ : Type} (dr : ρ → Int) : Int → List ρ → Int
  | m, [] => m
  | _, r :: rs => endM dr (dr r + 1) rs
section
variable {ρ : Type} {en : ρ → D} {dr : ρ → Int} {gd : ρ → Prop} {pr : D → Int → Bool} {dp : D → Int} {top : Int}
theorem okR_iff (K : RowK en dr gd pr dp) {n : Nat} {m : Int} {d : D} : okR pr dp top n m d = true ↔ ∃ r, d = en r ∧ gd r ∧ 1 ≤ dr r ∧ dr r ≤ min m top ∧ (0 < n → dr r ≠ 1) := by
  unfold okR
  rw [Bool.and_eq_true]
  constructor
  · rintro ⟨h1, h2⟩
    obtain ⟨r, rfl, a, b, c⟩ := K.enc _ _ h1
    refine ⟨r, rfl, a, b, c, fun hn e => ?_⟩
    rw [K.dpe, e, decide_eq_true hn] at h2
    cases h2
  · rintro ⟨r, rfl, a, b, c, e⟩
    refine ⟨K.dec r _ a b c, ?_⟩
    rw [K.dpe]
    by_cases hn : 0 < n
    · rw [decide_eq_false (e hn)]; simp
    · rw [decide_eq_false hn]; rfl
theorem scan_app (K : RowK en dr gd pr dp) : ∀ (pre : List ρ) (n : Nat) (m : Int) (ds : List D), ChG dr gd top n m pre → scanR pr dp top n m (pre.map en ++ ds) = scanR pr dp top (n + pre.length) (endM dr m pre) ds
  | [], _, _, _, _ => rfl
  | r :: rs, n, m, ds, ⟨a, b, c, e, t⟩ => by
    show (if okR pr dp top n m (en r) = true then scanR pr dp top (n + 1) (dp (en r) + 1) (rs.map en ++ ds) else some n) = _
    rw [if_pos ((okR_iff K).mpr ⟨r, rfl, a, b, c, e⟩), K.dpe, scan_app K rs (n + 1) _ ds t, List.length_cons, show n + 1 + rs.length = n + (rs.length + 1) by omega]
    rfl
theorem scan_good (K : RowK en dr gd pr dp) {rows : List ρ} {n : Nat} {m : Int} (h : ChG dr gd top n m rows) : scanR pr dp top n m (rows.map en) = none := by
  have := scan_app K rows n m [] h
  rw [List.append_nil] at this
  rw [this]
  rfl
theorem scan_none (K : RowK en dr gd pr dp) : ∀ (ds : List D) (n : Nat) (m : Int), scanR pr dp top n m ds = none → ∃ rows : List ρ, ds = rows.map en ∧ ChG dr gd top n m rows
  | [], _, _, _ => ⟨[], rfl, trivial⟩
  | d :: ds, n, m, h => by
    unfold scanR at h
    by_cases c : okR pr dp top n m d = true
    · rw [if_pos c] at h
      obtain ⟨r, rfl, a, b, c', e⟩ := (okR_iff K).mp c
      rw [K.dpe] at h
      obtain ⟨rs, rfl, t⟩ := scan_none K ds (n + 1) _ h
      exact ⟨r :: rs, rfl, a, b, c', e, t⟩
    · rw [if_neg c] at h; cases h
theorem ChG.snoc : ∀ {pre : List ρ} {n : Nat} {m : Int} {r : ρ}, ChG dr gd top n m pre → gd r → 1 ≤ dr r → dr r ≤ min (endM dr m pre) top → (0 < n + pre.length → dr r ≠ 1) → ChG dr gd top n m (pre ++ [r])
  | [], n, m, r, _, a, b, c, e => ⟨a, b, c, e, trivial⟩
  | q :: pre, n, m, r, ⟨a', b', c', e', t⟩, a, b, c, e => ⟨a', b', c', e', ChG.snoc t a b c fun _ => e (by simp only [List.length_cons]; omega)⟩
theorem endM_snoc : ∀ {pre : List ρ} {m : Int} {r : ρ}, endM dr m (pre ++ [r]) = dr r + 1
  | [], _, _ => rfl
  | _ :: pre, _, _ => endM_snoc (pre := pre)
/-- a tree's rows are good ones -/
theorem chG_drop {rows : List ρ} (hg : ∀ r ∈ rows, gd r) (ht : ∀ r ∈ rows, dr r ≤ top) (dv : Dv (rows.map dr)) : ∀ (l : List ρ) (k : Nat) (m : Int), rows.drop k = l → (k = 0 → m = 1) → (∀ j, k = j + 1 → m = dg (rows.map dr) j + 1) → ChG dr gd top k m l
  | [], _, _, _, _, _ => trivial
  | r :: l, k, m, e, h0, h1 => by
    have hr : rows[k]? = some r := by
      have : (rows.drop k)[0]? = some r := by rw [e]; rfl
      rwa [List.getElem?_drop, Nat.add_zero] at this
    have hk : k < (rows.map dr).length := by rw [List.length_map]; exact (List.getElem?_eq_some_iff.mp hr).1
    have hd : dg (rows.map dr) k = dr r := dg_of (by rw [List.getElem?_map, hr]; rfl)
    have hm := List.mem_of_getElem? hr
    have hpos := dv.pos k hk
    have htop := ht r hm
    have hb : dr r ≤ m ∧ (0 < k → dr r ≠ 1) := by
      cases k with
      | zero =>
        have := dv.one
        rw [h0 rfl]
        exact ⟨by omega, fun z => absurd z (Nat.lt_irrefl _)⟩
      | succ j =>
        have := dv.two j hk
        rw [h1 j rfl]
        exact ⟨by omega, fun _ => by omega⟩
    refine ⟨hg r hm, by omega, by omega, hb.2, chG_drop hg ht dv l (k + 1) _ ?_ (fun z => absurd z (Nat.succ_ne_zero k)) fun j ej => ?_⟩
    · rw [← List.drop_drop, e]; rfl
    · obtain rfl : k = j := by omega
      rw [hd]
theorem chG_of {rows : List ρ} (hg : ∀ r ∈ rows, gd r) (ht : ∀ r ∈ rows, dr r ≤ top) (dv : Dv (rows.map dr)) : ChG dr gd top 0 1 rows := chG_drop hg ht dv rows 0 1 rfl (fun _ => rfl) fun j e => nomatch e
theorem ChG.take : ∀ {rows : List ρ} {n : Nat} {m : Int} (p : Nat), ChG dr gd top n m rows → ChG dr gd top n m (rows.take p)
  | _, _, _, 0, _ => trivial
  | [], _, _, _ + 1, _ => trivial
  | _ :: _, _, _, p + 1, ⟨a, b, c, e, t⟩ => ⟨a, b, c, e, ChG.take p t⟩
/-- .. and back -/
theorem chG_all : ∀ {rows : List ρ} {n : Nat} {m : Int}, ChG dr gd top n m rows → ∀ (k : Nat) (r : ρ), rows[k]? = some r → gd r ∧ 1 ≤ dr r ∧ dr r ≤ top ∧ (0 < n + k → dr r ≠ 1) ∧ (k = 0 → dr r ≤ m) ∧ (∀ j q, k = j + 1 → rows[j]? = some q → dr r ≤ dr q + 1)
  | [], _, _, _, _, _, e => nomatch e
  | q :: rs, n, m, ⟨a, b, c, e, t⟩, 0, r, h => by
    cases h
    exact ⟨a, b, by omega, e, fun _ => by omega, fun j _ z => nomatch z⟩
  | q :: rs, n, m, ⟨a, b, c, e, t⟩, k + 1, r, h => by
    have h : rs[k]? = some r := h
    obtain ⟨a', b', c', e', f', g'⟩ := chG_all t k r h
    refine ⟨a', b', c', fun z => e' (by omega), fun z => (nomatch z), fun j s ej hs => ?_⟩
    obtain rfl : k = j := by omega
    cases k with
    | zero => cases hs; exact f' rfl
    | succ i => exact g' i s rfl hs
theorem chG_dv {rows : List ρ} (h : ChG dr gd top 0 1 rows) (h1 : rows ≠ []) : (∀ r ∈ rows, gd r) ∧ (∀ r ∈ rows, dr r ≤ top) ∧ Dv (rows.map dr) := by
  have at_ := chG_all h
  refine ⟨fun r hr => ?_, fun r hr => ?_, ⟨?_, fun i hi => ?_⟩⟩
  · obtain ⟨k, hk⟩ := List.mem_iff_getElem?.mp hr
    exact (at_ k r hk).1
  · obtain ⟨k, hk⟩ := List.mem_iff_getElem?.mp hr
    exact (at_ k r hk).2.2.1
  · cases rows with
    | nil => exact absurd rfl h1
    | cons r rs =>
      obtain ⟨_, b, _, _, f, _⟩ := at_ 0 r rfl
      have := f rfl
      have e : dg ((r :: rs).map dr) 0 = dr r := dg_of rfl
      omega
  · rw [List.length_map] at hi
    obtain ⟨q, hq⟩ := get_lt (l := rows) (n := i) (by omega)
    obtain ⟨r, hr⟩ := get_lt hi
    obtain ⟨_, b, _, e, _, g⟩ := at_ (i + 1) r hr
    have e1 : dg (rows.map dr) i = dr q := dg_of (by rw [List.getElem?_map, hq]; rfl)
    have e2 : dg (rows.map dr) (i + 1) = dr r := dg_of (by rw [List.getElem?_map, hr]; rfl)
    have := e (by omega)
    have := g i q rfl hq
    omega
/-- good ones ahead, a bad one behind -/
theorem scan_bad (K : RowK en dr gd pr dp) {rows : List ρ} {ds : List D} {p : Nat} {b : D} (h : ChG dr gd top 0 1 rows) (hp : p ≤ rows.length) (ha : ∀ k : Nat, k < p → ds[k]? = (rows[k]?).map en) (hb : ds[p]? = some b) (bad : okR pr dp top p (endM dr 1 (rows.take p)) b = false) : scanR pr dp top 0 1 ds = some p := by
  have hl : p < ds.length := (List.getElem?_eq_some_iff.mp hb).1
  have e : ds = (rows.take p).map en ++ b :: ds.drop (p + 1) := by
    apply List.ext_getElem?
    intro i
    rcases Nat.lt_trichotomy i p with c | c | c
    · rw [List.getElem?_append_left (by rw [List.length_map, List.length_take]; omega), List.getElem?_map, List.getElem?_take_of_lt c]
      exact ha i c
    · subst c
      rw [List.getElem?_append_right (by rw [List.length_map, List.length_take]; omega), List.length_map, List.length_take, show i - min i rows.length = 0 by omega]
      exact hb
    · rw [List.getElem?_append_right (by rw [List.length_map, List.length_take]; omega), List.length_map, List.length_take, show i - min p rows.length = (i - p - 1) + 1 by omega, List.getElem?_cons_succ, List.getElem?_drop, show p + 1 + (i - p - 1) = i by omega]
  rw [e, scan_app K _ 0 1 _ (h.take p), List.length_take, show 0 + min p rows.length = p by omega]
  unfold scanR
  rw [if_neg (by rw [bad]; exact fun z => nomatch z)]
theorem endM_take {rows : List ρ} : ∀ {p : Nat} {m : Int}, (p = 0 → endM dr m (rows.take p) = m) ∧ (∀ j r, p = j + 1 → rows[j]? = some r → endM dr m (rows.take p) = dr r + 1) := by
  intro p m
  refine ⟨fun z => by subst z; rfl, fun j r e h => ?_⟩
  subst e
  rw [take_snoc h]
  exact endM_snoc
end
/-! ### rows of documents -/
def prB (d : D) (m : Int) : Bool := match d with
  | .tup [a, b] => labelD a && withinD b 1 m
  | _ => false
def dpB (d : D) : Int := match d with
  | .tup [_, .int i] => i
  | _ => 0
theorem labelD_e {d : D} (h : labelD d = true) : ∃ z, d = .str z ∧ labelB z = true := by
  cases d with
  | str z => exact ⟨z, rfl, h⟩
  | _ => cases h
theorem withinD_e {d : D} {l m : Int} (h : withinD d l m = true) : ∃ i, d = .int i ∧ l ≤ i ∧ i ≤ m := by
  cases d with
  | int i => exact ⟨i, rfl, by simpa [withinD] using h⟩
  | _ => cases h
theorem rowK_doc : RowK eDr (fun r => r.2) (fun r => labelB r.1 = true) prB dpB where
  enc := fun d m h => by
    unfold prB at h
    split at h
    · rw [Bool.and_eq_true] at h
      obtain ⟨z, rfl, hz⟩ := labelD_e h.1
      obtain ⟨i, rfl, h1, h2⟩ := withinD_e h.2
      exact ⟨(z, i), rfl, hz, h1, h2⟩
    · cases h
  dec := fun r m h1 h2 h3 => by
    show (labelB r.1 && (decide (1 ≤ r.2) && decide (r.2 ≤ m))) = true
    rw [h1, decide_eq_true h2, decide_eq_true h3]; rfl
  dpe := fun r => rfl
abbrev scanDoc : List D → Option Nat := scanR prB dpB 80 0 1
theorem docOk_ch {rows : List (Str × Int)} (h : DocOk rows) : ChG (fun r : Str × Int => r.2) (fun r => labelB r.1 = true) 80 0 1 rows := chG_of h.lab h.deep h.dv
theorem scan_doc {ds : List D} (h : scanDoc ds = none) (h1 : ds ≠ []) (h2 : ds.length ≤ 240) : ∃ rows, ds = rows.map eDr ∧ DocOk rows := by
  obtain ⟨rows, rfl, c⟩ := scan_none rowK_doc ds 0 1 h
  have hne : rows ≠ [] := fun z => h1 (by rw [z]; rfl)
  obtain ⟨a, b, d⟩ := chG_dv c hne
  rw [List.length_map] at h2
  exact ⟨rows, rfl, List.length_pos_iff.mpr hne, h2, a, d, b⟩
/-- a thing that can be looked at as a row -/
def TyR (d : D) : Prop := tyD d ≠ none ∧ ∀ a b, d = .tup [a, b] → tyD a ≠ none ∧ tyD b ≠ none ∧ ∀ z, a = .str z → z.length ≤ 100000
theorem tyR_doc {r : Str × Int} (h : labelB r.1 = true) : TyR (eDr r) := ⟨fun z => (nomatch z), fun a b e => by
  have e : D.tup [.str r.1, .int r.2] = .tup [a, b] := e
  cases e
  exact ⟨fun z => (nomatch z), fun z => (nomatch z), fun z e => by cases e; have := (label_len h).2; omega⟩⟩
/-- () -/
theorem re_tup0 {K : PySem.W.Frag} {EX : L2.St → XK} {ρ : List Sl} : RE K EX ρ (tTup tNil) (eTL fun d : D => d) (pure ([] : List D)) := fun B O H σ E P PX Q hw hq hx =>
  ⟨(by decide : 0 ≤ sizeLine), fun c n => hq [] _ _ hw (.new n) (.tup (fun z => E.dom c z n) upd_same .nil)⟩
def docD (k : Int) : D := .lst [.str "document", .int k, .bl true, .bl true, .bl false]
def manyD (k : Int) : D := .lst [.str "many", .int k, .bl true, .bl true, .bl false]
def goodD (k : Int) : D := .lst [.str "good", .int k]
/-- what is told of rows -/
def TellD (d : D) (P : D → Prop) : Prop := tyD d ≠ none ∧ ((∀ ds, d ≠ .lst ds) → P (docD 0)) ∧ ∀ ds, d = .lst ds → ds.length ≤ 1000 ∧ (∀ d ∈ ds, TyR d) ∧ (ds = [] → P (docD 0)) ∧ (240 < ds.length → P (manyD ds.length)) ∧ (ds.length ≤ 240 → ∀ k : Nat, scanDoc ds = some k → P (docD k)) ∧ (ds ≠ [] → ds.length ≤ 240 → scanDoc ds = none → P (goodD ds.length))
/-- a row that is bad at its place -/
def BadR (place ahead : Int) (d : D) : Prop := prB d (min (ahead + 1) 80) = false ∨ (0 < place ∧ dpB d = 1)
theorem sh_msg {z : Str} {k : Int} {bs : List Bool} (hz : (reprText z).length ≤ 100) (hk : k.natAbs < 10 ^ 70) (hb : bs.length ≤ 10) : Sh 64 16000000 (.lst (.str z :: .int k :: bs.map D.bl)) := by
  refine (sh_lst (n := 0) (m := 100) fun d hd => ?_).mono (by decide) ?_
  · rcases List.mem_cons.mp hd with rfl | hd
    · exact sh_str hz
    rcases List.mem_cons.mp hd with rfl | hd
    · exact (sh_int (k := 70) (by decide) (by decide) hk).mono (Nat.le_refl _) (by decide)
    obtain ⟨b, _, rfl⟩ := List.mem_map.mp hd
    exact (sh_bl b).mono (Nat.le_refl _) (by decide)
  · simp only [List.length_cons, List.length_map]
    omega
theorem sh_docD {k : Int} (hk : k.natAbs < 10 ^ 70) : Sh 64 16000000 (docD k) := sh_msg (bs := [true, true, false]) (by decide +kernel) hk (by decide)
theorem sh_manyD {k : Int} (hk : k.natAbs < 10 ^ 70) : Sh 64 16000000 (manyD k) := sh_msg (bs := [true, true, false]) (by decide +kernel) hk (by decide)
theorem sh_goodD {k : Int} (hk : k.natAbs < 10 ^ 70) : Sh 64 16000000 (goodD k) := sh_msg (bs := []) (by decide +kernel) hk (by decide)
theorem getI_end {α : Type} {l : List α} {x : α} {P : α → Prop} {X : Exn → Prop} (p : P x) : getI (l ++ [x]) (-1) P X := by
  refine ⟨x, ?_, p⟩
  unfold atI ixN
  rw [if_neg (by decide), if_pos (by rw [List.length_append]; simp; omega)]
  show (l ++ [x])[(-1 + ((l ++ [x]).length : Int)).toNat]? = _
  rw [List.length_append, show (-1 + ((l.length + [x].length : Nat) : Int)).toNat = l.length by simp; omega, List.getElem?_append_right (Nat.le_refl _), Nat.sub_self]
  rfl
section
variable {P : D → Prop}
theorem tell_good {rows : List (Str × Int)} (ok : DocOk rows) (h : P (goodD rows.length)) : TellD (.lst (rows.map eDr)) P := by
  have hm := ok.most
  refine ⟨fun z => (nomatch z), fun z => absurd rfl (z _), fun ds e => ?_⟩
  cases e
  rw [List.length_map]
  refine ⟨by omega, fun d hd => ?_, fun z => ?_, fun z => by omega, fun _ k z => ?_, fun _ _ _ => h⟩
  · obtain ⟨r, hr, rfl⟩ := List.mem_map.mp hd
    exact tyR_doc (ok.lab r hr)
  · have := ok.one
    rw [List.map_eq_nil_iff.mp z] at this
    exact absurd this (by decide)
  · exact absurd ((scan_good (top := 80) rowK_doc (docOk_ch ok)).symm.trans z) fun y => (nomatch y)
theorem tell_bad {ds : List D} {p : Nat} (h1 : ds.length ≤ 240) (h2 : ∀ d ∈ ds, TyR d) (h3 : scanDoc ds = some p) (h : P (docD p)) : TellD (.lst ds) P := by
  refine ⟨fun z => (nomatch z), fun z => absurd rfl (z _), fun ds' e => ?_⟩
  cases e
  refine ⟨by omega, h2, fun z => ?_, fun z => by omega, fun _ k z => ?_, fun _ _ z => ?_⟩
  · rw [z] at h3; cases h3
  · rw [h3] at z; cases z; exact h
  · rw [h3] at z; cases z
theorem tell_many {ds : List D} (h1 : 240 < ds.length) (h0 : ds.length ≤ 1000) (h2 : ∀ d ∈ ds, TyR d) (h : P (manyD ds.length)) : TellD (.lst ds) P := by
  refine ⟨fun z => (nomatch z), fun z => absurd rfl (z _), fun ds' e => ?_⟩
  cases e
  refine ⟨h0, h2, fun z => ?_, fun _ => h, fun z => by omega, fun _ z => by omega⟩
  rw [z] at h1; exact absurd h1 (by decide)
theorem tell_no {d : D} (h1 : tyD d ≠ none) (h2 : d = .lst [] ∨ ∀ ds, d ≠ .lst ds) (h : P (docD 0)) : TellD d P := by
  refine ⟨h1, fun _ => h, fun ds e => ?_⟩
  rcases h2 with h2 | h2
  · rw [h2] at e; cases e
    exact ⟨by decide, fun d z => (nomatch z), fun _ => h, fun z => absurd z (by decide), fun _ k z => (nomatch z), fun z => absurd rfl z⟩
  · exact absurd e (h2 ds)
end
theorem sm70 {i : Int} (h : i.natAbs ≤ 1000000) : i.natAbs < 10 ^ 70 := Nat.lt_of_le_of_lt h (by decide +kernel)
def chainR (z : Str) (n : Nat) : List (Str × Int) := (rng 0 n).map fun x => (z, x + 1)
theorem chainR_at {z : Str} {n k : Nat} (h : k < n) : (chainR z n)[k]? = some (z, (k : Int) + 1) := by
  unfold chainR
  rw [List.getElem?_map, rng_get h, Option.map_some, Int.zero_add]
theorem chainR_len {z : Str} {n : Nat} : (chainR z n).length = n := by unfold chainR; rw [List.length_map, rng_len]
theorem chainR_ok {z : Str} {n : Nat} (hz : labelB z = true) (h1 : 1 ≤ n) (h2 : n ≤ 80) : DocOk (chainR z n) := by
  have at_ : ∀ (k : Nat) (r : Str × Int), (chainR z n)[k]? = some r → r = (z, (k : Int) + 1) ∧ k < n := fun k r h => by
    have hk : k < n := by have := (List.getElem?_eq_some_iff.mp h).1; rwa [chainR_len] at this
    rw [chainR_at hk] at h
    cases h
    exact ⟨rfl, hk⟩
  have dg_ : ∀ k, k < n → dg (dps (chainR z n)) k = (k : Int) + 1 := fun k hk => dps_at (chainR_at hk)
  refine ⟨by rw [chainR_len]; exact h1, by rw [chainR_len]; omega, fun r hr => ?_, ⟨dg_ 0 (by omega), fun i hi => ?_⟩, fun r hr => ?_⟩
  · obtain ⟨k, hk⟩ := List.mem_iff_getElem?.mp hr
    rw [(at_ k r hk).1]; exact hz
  · rw [dps_len, chainR_len] at hi
    rw [dg_ i (by omega), dg_ (i + 1) hi]
    omega
  · obtain ⟨k, hk⟩ := List.mem_iff_getElem?.mp hr
    obtain ⟨rfl, h⟩ := at_ k r hk
    show (k : Int) + 1 ≤ 80
    omega
theorem chainR_bad {z : Str} {n : Nat} (hz : labelB z = true) (h : 80 < n) : scanDoc ((chainR z n).map eDr) = some 80 := by
  refine scan_bad (rows := chainR z 80) (b := eDr (z, 81)) rowK_doc (docOk_ch (chainR_ok hz (by decide) (by decide))) (by rw [chainR_len]; exact Nat.le_refl _) (fun k hk => ?_) ?_ ?_
  · rw [List.getElem?_map, chainR_at (by omega), chainR_at hk]
  · rw [List.getElem?_map, chainR_at h]; rfl
  · unfold okR
    have : prB (eDr (z, 81)) (min (endM (fun r : Str × Int => r.2) 1 ((chainR z 80).take 80)) 80) = false := by
      generalize endM (fun r : Str × Int => r.2) 1 ((chainR z 80).take 80) = m
      show (labelB z && (decide ((1 : Int) ≤ 81) && decide ((81 : Int) ≤ min m 80))) = false
      rw [decide_eq_false (show ¬ (81 : Int) ≤ min m 80 by omega)]; simp
    rw [this]; rfl
def flatR (z : Str) (n : Nat) : List (Str × Int) := (z, 1) :: List.replicate n (z, 2)
theorem flatR_ok {z : Str} {n : Nat} (hz : labelB z = true) (h : n < 240) : DocOk (flatR z n) := by
  have hl : (flatR z n).length = n + 1 := by unfold flatR; rw [List.length_cons, List.length_replicate]
  have at_ : ∀ r ∈ flatR z n, r = (z, 1) ∨ r = (z, 2) := fun r hr => (List.mem_cons.mp hr).imp id fun h => (List.mem_replicate.mp h).2
  refine ⟨by omega, by omega, fun r hr => ?_, ⟨dps_at (rows := flatR z n) (k := 0) rfl, fun i hi => ?_⟩, fun r hr => ?_⟩
  · rcases at_ r hr with rfl | rfl <;> exact hz
  · rw [dps_len, hl] at hi
    have e2 : dg (dps (flatR z n)) (i + 1) = 2 := dps_at (rows := flatR z n) (r := (z, 2)) (by show (List.replicate n (z, (2 : Int)))[i]? = _; rw [List.getElem?_replicate, if_pos (by omega)])
    have e1 : 1 ≤ dg (dps (flatR z n)) i := by
      cases i with
      | zero => rw [dps_at (rows := flatR z n) (k := 0) (r := (z, 1)) rfl]; exact Int.le_refl 1
      | succ j => rw [dps_at (rows := flatR z n) (k := j + 1) (r := (z, 2)) (by show (List.replicate n (z, (2 : Int)))[j]? = _; rw [List.getElem?_replicate, if_pos (by omega)])]; exact (by decide : (1 : Int) ≤ 2)
    rw [e2]
    omega
  · rcases at_ r hr with rfl | rfl
    · exact (by decide : (1 : Int) ≤ 80)
    · exact (by decide : (2 : Int) ≤ 80)
end Va

namespace Va
open PySem PySem.Spec PyProof.Rows L2 Bg
/-! ### rows of questions -/
def wayD : D → Bool
  | .str z => decide (z = "/" ∨ z = "//")
  | _ => false
def prQ (d : D) (m : Int) : Bool := match d with
  | .tup [w, a, b] => wayD w && (labelD a && withinD b 1 m)
  | _ => false
def dpQ (d : D) : Int := match d with
  | .tup [_, _, .int i] => i
  | _ => 0
theorem wayD_e {d : D} (h : wayD d = true) : ∃ z, d = .str z ∧ (z = "/" ∨ z = "//") := by
  cases d with
  | str z => exact ⟨z, rfl, of_decide_eq_true h⟩
  | _ => cases h
theorem rowK_qu : RowK eSr (fun r => r.2.2) (fun r => (r.1 = "/" ∨ r.1 = "//") ∧ labelB r.2.1 = true) prQ dpQ where
  enc := fun d m h => by
    unfold prQ at h
    split at h
    · rw [Bool.and_eq_true, Bool.and_eq_true] at h
      obtain ⟨w, rfl, hw⟩ := wayD_e h.1
      obtain ⟨z, rfl, hz⟩ := labelD_e h.2.1
      obtain ⟨i, rfl, h1, h2⟩ := withinD_e h.2.2
      exact ⟨(w, z, i), rfl, ⟨hw, hz⟩, h1, h2⟩
    · cases h
  dec := fun r m h1 h2 h3 => by
    show (decide (r.1 = "/" ∨ r.1 = "//") && (labelB r.2.1 && (decide (1 ≤ r.2.2) && decide (r.2.2 ≤ m)))) = true
    rw [decide_eq_true h1.1, h1.2, decide_eq_true h2, decide_eq_true h3]; rfl
  dpe := fun r => rfl
abbrev scanQu : List D → Option Nat := scanR prQ dpQ 30 0 1
theorem quOk_ch {rows : List Sr} {g : Nat} (h : QuOk rows g) : ChG (fun r : Sr => r.2.2) (fun r => (r.1 = "/" ∨ r.1 = "//") ∧ labelB r.2.1 = true) 30 0 1 rows := chG_of (fun r hr => ⟨h.way r hr, h.lab r hr⟩) h.deep h.dv
def TyQ (d : D) : Prop := tyD d ≠ none ∧ ∀ w a b, d = .tup [w, a, b] → (tyD w ≠ none ∧ tyD a ≠ none ∧ tyD b ≠ none) ∧ ∀ z, a = .str z → z.length ≤ 100000
theorem tyQ_qu {r : Sr} (h : labelB r.2.1 = true) : TyQ (eSr r) := ⟨fun z => (nomatch z), fun w a b e => by
  have e : D.tup [.str r.1, .str r.2.1, .int r.2.2] = .tup [w, a, b] := e
  cases e
  exact ⟨⟨fun z => (nomatch z), fun z => (nomatch z), fun z => (nomatch z)⟩, fun z e => by cases e; have := (label_len h).2; omega⟩⟩
def msgD (z : Str) (x : D) : D := .lst [.str z, x, .bl true, .bl true, .bl false]
/-- what is told of rows and a wanted step -/
def TellQ (d w : D) (P : D → Prop) : Prop := tyD d ≠ none ∧ tyD w ≠ none ∧ ((∀ ds, d ≠ .lst ds) → P (msgD "question" (.int 0))) ∧ ∀ ds, d = .lst ds → ds.length ≤ 1000 ∧ (∀ d ∈ ds, TyQ d) ∧ (ds = [] → P (msgD "question" (.int 0))) ∧ (100 < ds.length → P (msgD "many" (.int ds.length))) ∧ (ds.length ≤ 100 → ∀ k : Nat, scanQu ds = some k → P (msgD "question" (.int k))) ∧ (ds ≠ [] → ds.length ≤ 100 → scanQu ds = none → (withinD w 0 ((ds.length : Int) - 1) = false → P (msgD "wanted" w)) ∧ (∀ g : Nat, w = .int g → g < ds.length → P (goodD ds.length)))
section
variable {P : D → Prop} {w : D}
theorem tellQ_rows {rows : List Sr} {g0 : Nat} (ok : QuOk rows g0) (hw : tyD w ≠ none) (h1 : withinD w 0 ((rows.length : Int) - 1) = false → P (msgD "wanted" w)) (h2 : ∀ g : Nat, w = .int g → g < rows.length → P (goodD rows.length)) : TellQ (.lst (rows.map eSr)) w P := by
  have hm := ok.most
  refine ⟨fun z => (nomatch z), hw, fun z => absurd rfl (z _), fun ds e => ?_⟩
  cases e
  rw [List.length_map]
  refine ⟨by omega, fun d hd => ?_, fun z => ?_, fun z => by omega, fun _ k z => ?_, fun _ _ _ => ⟨h1, h2⟩⟩
  · obtain ⟨r, hr, rfl⟩ := List.mem_map.mp hd
    exact tyQ_qu (ok.lab r hr)
  · have := ok.one
    rw [List.map_eq_nil_iff.mp z] at this
    exact absurd this (by decide)
  · exact absurd ((scan_good (top := 30) rowK_qu (quOk_ch ok)).symm.trans z) fun y => (nomatch y)
theorem tellQ_bad {ds : List D} {p : Nat} (hw : tyD w ≠ none) (h1 : ds.length ≤ 100) (h2 : ∀ d ∈ ds, TyQ d) (h3 : scanQu ds = some p) (h : P (msgD "question" (.int p))) : TellQ (.lst ds) w P := by
  refine ⟨fun z => (nomatch z), hw, fun z => absurd rfl (z _), fun ds' e => ?_⟩
  cases e
  refine ⟨by omega, h2, fun z => ?_, fun z => by omega, fun _ k z => ?_, fun _ _ z => ?_⟩
  · rw [z] at h3; cases h3
  · rw [h3] at z; cases z; exact h
  · rw [h3] at z; cases z
theorem tellQ_many {ds : List D} (hw : tyD w ≠ none) (h1 : 100 < ds.length) (h0 : ds.length ≤ 1000) (h2 : ∀ d ∈ ds, TyQ d) (h : P (msgD "many" (.int ds.length))) : TellQ (.lst ds) w P := by
  refine ⟨fun z => (nomatch z), hw, fun z => absurd rfl (z _), fun ds' e => ?_⟩
  cases e
  refine ⟨h0, h2, fun z => ?_, fun _ => h, fun z => by omega, fun _ z => by omega⟩
  rw [z] at h1; exact absurd h1 (by decide)
theorem tellQ_no {d : D} (hw : tyD w ≠ none) (h1 : tyD d ≠ none) (h2 : d = .lst [] ∨ ∀ ds, d ≠ .lst ds) (h : P (msgD "question" (.int 0))) : TellQ d w P := by
  refine ⟨h1, hw, fun _ => h, fun ds e => ?_⟩
  rcases h2 with h2 | h2
  · rw [h2] at e; cases e
    exact ⟨by decide, fun d z => (nomatch z), fun _ => h, fun z => absurd z (by decide), fun _ k z => (nomatch z), fun z => absurd rfl z⟩
  · exact absurd e (h2 ds)
end
/-- a row that is bad at its place -/
def BadQ (place ahead : Int) (d : D) : Prop := prQ d (min (ahead + 1) 30) = false ∨ (0 < place ∧ dpQ d = 1)
/-- a thing whose text is told -/
def ThOk (x : D) : Prop := Sh 3 1000 x ∨ itB x = true ∧ (itT x).length ≤ 1000
theorem sh_msgD {z : Str} {x : D} (hz : (reprText z).length ≤ 100) (hx : Sh 3 1000 x) : Sh 64 16000000 (msgD z x) := by
  refine (sh_lst (n := 3) (m := 1000) fun d hd => ?_).mono (by decide) ?_
  · simp only [List.mem_cons, List.not_mem_nil, or_false] at hd
    rcases hd with rfl | rfl | rfl | rfl | rfl
    · exact (sh_str hz).mono (by decide) (by decide)
    · exact hx
    · exact (sh_bl _).mono (by decide) (by decide)
    · exact (sh_bl _).mono (by decide) (by decide)
    · exact (sh_bl _).mono (by decide) (by decide)
  · show 5 * 1000 + 2 * 5 + 3 ≤ _
    decide
theorem rep_msgD {z : Str} {x : D} (hz : (reprText z).length ≤ 100) (hx : ThOk x) : (∃ ds, msgD z x = .lst ds ∨ msgD z x = .tup ds) ∧ Sh 64 16000000 (msgD z x) ∨ (∃ ds, msgD z x = .lst ds ∧ ds ≠ [] ∧ (∀ x ∈ ds, itB x = true) ∧ (listText (ds.map itT)).length ≤ sizeLine) := by
  rcases hx with hx | ⟨h1, h2⟩
  · exact .inl ⟨⟨_, .inl rfl⟩, sh_msgD hz hx⟩
  · refine .inr ⟨_, rfl, fun y => (nomatch y), fun y hy => ?_, ?_⟩
    · simp only [List.mem_cons, List.not_mem_nil, or_false] at hy
      rcases hy with rfl | rfl | rfl | rfl | rfl
      · exact decide_eq_true (Nat.le_trans hz (by decide))
      · exact h1
      · rfl
      · rfl
      · rfl
    · have := listText_len_le ([D.str z, x, .bl true, .bl true, .bl false].map itT)
      have e1 : (itT (.bl true)).length = 4 := by decide +kernel
      have e2 : (itT (.bl false)).length = 5 := by decide +kernel
      have e3 : (itT (.str z)).length = (reprText z).length := rfl
      simp only [List.map_cons, List.map_nil, List.sum_cons, List.sum_nil, List.length_cons, List.length_nil, e1, e2, e3] at this ⊢
      have e4 : sizeLine = 16777216 := sizeLine_eq
      omega
def chainQ (w z : Str) (n : Nat) : List Sr := (rng 0 n).map fun x => (w, z, x + 1)
theorem chainQ_at {w z : Str} {n k : Nat} (h : k < n) : (chainQ w z n)[k]? = some (w, z, (k : Int) + 1) := by
  unfold chainQ
  rw [List.getElem?_map, rng_get h, Option.map_some, Int.zero_add]
theorem chainQ_len {w z : Str} {n : Nat} : (chainQ w z n).length = n := by unfold chainQ; rw [List.length_map, rng_len]
theorem chainQ_ok {w z : Str} {n : Nat} (hw : w = "/" ∨ w = "//") (hz : labelB z = true) (h1 : 1 ≤ n) (h2 : n ≤ 30) : QuOk (chainQ w z n) 0 := by
  have at_ : ∀ (k : Nat) (r : Sr), (chainQ w z n)[k]? = some r → r = (w, z, (k : Int) + 1) ∧ k < n := fun k r h => by
    have hk : k < n := by have := (List.getElem?_eq_some_iff.mp h).1; rwa [chainQ_len] at this
    rw [chainQ_at hk] at h
    cases h
    exact ⟨rfl, hk⟩
  have dg_ : ∀ k, k < n → dg (qds (chainQ w z n)) k = (k : Int) + 1 := fun k hk => qds_at (chainQ_at hk)
  refine ⟨by rw [chainQ_len]; exact h1, by rw [chainQ_len]; omega, fun r hr => ?_, fun r hr => ?_, ⟨dg_ 0 (by omega), fun i hi => ?_⟩, fun r hr => ?_, by rw [chainQ_len]; exact h1⟩
  · obtain ⟨k, hk⟩ := List.mem_iff_getElem?.mp hr
    rw [(at_ k r hk).1]; exact hw
  · obtain ⟨k, hk⟩ := List.mem_iff_getElem?.mp hr
    rw [(at_ k r hk).1]; exact hz
  · rw [qds_len, chainQ_len] at hi
    rw [dg_ i (by omega), dg_ (i + 1) hi]
    omega
  · obtain ⟨k, hk⟩ := List.mem_iff_getElem?.mp hr
    obtain ⟨rfl, h⟩ := at_ k r hk
    show (k : Int) + 1 ≤ 30
    omega
theorem chainQ_bad {w z : Str} {n : Nat} (hw : w = "/" ∨ w = "//") (hz : labelB z = true) (h : 30 < n) : scanQu ((chainQ w z n).map eSr) = some 30 := by
  refine scan_bad (rows := chainQ w z 30) (b := eSr (w, z, 31)) rowK_qu (quOk_ch (chainQ_ok hw hz (by decide) (by decide))) (by rw [chainQ_len]; exact Nat.le_refl _) (fun k hk => ?_) ?_ ?_
  · rw [List.getElem?_map, chainQ_at (by omega), chainQ_at hk]
  · rw [List.getElem?_map, chainQ_at h]; rfl
  · unfold okR
    have : prQ (eSr (w, z, 31)) (min (endM (fun r : Sr => r.2.2) 1 ((chainQ w z 30).take 30)) 30) = false := by
      generalize endM (fun r : Sr => r.2.2) 1 ((chainQ w z 30).take 30) = m
      show (_ && (labelB z && (decide ((1 : Int) ≤ 31) && decide ((31 : Int) ≤ min m 30)))) = false
      rw [decide_eq_false (show ¬ (31 : Int) ≤ min m 30 by omega)]; simp
    rw [this]; rfl
def flatQ (w z : Str) (n : Nat) : List Sr := (w, z, 1) :: List.replicate n (w, z, 2)
theorem flatQ_ok {w z : Str} {n : Nat} (hw : w = "/" ∨ w = "//") (hz : labelB z = true) (h : n < 100) : QuOk (flatQ w z n) 0 := by
  have hl : (flatQ w z n).length = n + 1 := by unfold flatQ; rw [List.length_cons, List.length_replicate]
  have at_ : ∀ r ∈ flatQ w z n, r = (w, z, 1) ∨ r = (w, z, 2) := fun r hr => (List.mem_cons.mp hr).imp id fun h => (List.mem_replicate.mp h).2
  have two : ∀ i, i < n → (flatQ w z n)[i + 1]? = some (w, z, 2) := fun i hi => by
    show (List.replicate n (w, z, (2 : Int)))[i]? = _
    rw [List.getElem?_replicate, if_pos hi]
  refine ⟨by omega, by omega, fun r hr => ?_, fun r hr => ?_, ⟨qds_at (rows := flatQ w z n) (k := 0) rfl, fun i hi => ?_⟩, fun r hr => ?_, by omega⟩
  · rcases at_ r hr with rfl | rfl <;> exact hw
  · rcases at_ r hr with rfl | rfl <;> exact hz
  · rw [qds_len, hl] at hi
    have e2 : dg (qds (flatQ w z n)) (i + 1) = 2 := qds_at (two i (by omega))
    have e1 : 1 ≤ dg (qds (flatQ w z n)) i := by
      cases i with
      | zero => rw [qds_at (rows := flatQ w z n) (k := 0) (r := (w, z, 1)) rfl]; exact Int.le_refl 1
      | succ j => rw [qds_at (two j (by omega))]; exact (by decide : (1 : Int) ≤ 2)
    rw [e2]
    omega
  · rcases at_ r hr with rfl | rfl
    · exact (by decide : (1 : Int) ≤ 30)
    · exact (by decide : (2 : Int) ≤ 30)
theorem rep_in {d : D} {Q : Str → Prop} {X : Exn → Prop} (h1 : ∃ ds, d = .lst ds ∨ d = .tup ds) (h2 : Sh 64 16000000 d) (q : Q (toP d).shown) : reprM d Q X := .inl ⟨h1, h2, q⟩
theorem sh_msgI {z : Str} {k : Int} (hz : (reprText z).length ≤ 100) (hk : k.natAbs ≤ 1000000) : Sh 64 16000000 (msgD z (.int k)) := sh_msgD hz ((sh_int (k := 70) (by decide) (by decide) (sm70 hk)).mono (by decide) (by decide))
end Va

namespace Lw
open PySem PySem.Spec PyProof.Rows L2 Bg Va
def c_law_source : Int × Unit → M Unit := fun q P X => (fun (cell : Int) => (P ())) q.1
def sp_law_source (K : PySem.W.Frag) : Sp := spC K (fun q : Int × Unit => [.sh (D.int q.1)]) resSrc c_law_source
def c_law_cell_at : (List Int) × Int × Unit → M Int := fun q P X => (fun (script : (List Int)) (k : Int) => (script.length ≤ 63 ∧ 0 ≤ k ∧ ∀ c : Int, P c)) q.1 q.2.1
def sp_law_cell_at (K : PySem.W.Frag) : Sp := spC K (fun q : (List Int) × Int × Unit => [.scr q.1, .sh (D.int q.2.1)]) (resE K D.int) c_law_cell_at
def c_law_take : Unit × Int × Unit → M Int := fun q P X => (fun (source_here : Unit) (many : Int) => (0 < many ∧ many < 1073741824 ∧ ∀ r : Int, 0 ≤ r → r < many → P r)) q.1 q.2.1
def sp_law_take (K : PySem.W.Frag) : Sp := spC K (fun q : Unit × Int × Unit => [.src, .sh (D.int q.2.1)]) (resE K D.int) c_law_take
def c_law_labels : Unit × Int × Unit → M (List Str) := fun q P X => (fun (source_here : Unit) (many : Int) => (1 ≤ many ∧ many ≤ 12 ∧ ∀ ls : List Str, (ls.length : Int) = many → (∀ z ∈ ls, labelB z = true) → P ls)) q.1 q.2.1
def sp_law_labels (K : PySem.W.Frag) : Sp := spC K (fun q : Unit × Int × Unit => [.src, .sh (D.int q.2.1)]) (resF K D.str) c_law_labels
def c_law_depth : Unit × Int × Int × Unit → M Int := fun q P X => (fun (source_here : Unit) (shape : Int) (above : Int) => (0 ≤ above ∧ above ≤ 1000 ∧ ∀ r : Int, 1 ≤ r → r ≤ above + 1 → (r = 1 → above = 0) → P r)) q.1 q.2.1 q.2.2.1
def sp_law_depth (K : PySem.W.Frag) : Sp := spC K (fun q : Unit × Int × Int × Unit => [.src, .sh (D.int q.2.1), .sh (D.int q.2.2.1)]) (resE K D.int) c_law_depth
def c_law_rows : Unit × (List Str) × Int × Int × Unit → M (List (Str × Int)) := fun q P X => (fun (source_here : Unit) (labels_here : (List Str)) (most : Int) (deep : Int) => (1 ≤ labels_here.length ∧ labels_here.length ≤ 1000 ∧ 1 ≤ most ∧ most ≤ 1000 ∧ 2 ≤ deep ∧ deep ≤ 1000 ∧ ∀ rows : List (Str × Int), 1 ≤ rows.length → (rows.length : Int) ≤ most → (∀ r ∈ rows, r.1 ∈ labels_here) → (∀ r ∈ rows, r.2 ≤ deep) → Dv (rows.map (·.2)) → P rows)) q.1 q.2.1 q.2.2.1 q.2.2.2.1
def sp_law_rows (K : PySem.W.Frag) : Sp := spC K (fun q : Unit × (List Str) × Int × Int × Unit => [.src, .sh ((eL D.str) q.2.1), .sh (D.int q.2.2.1), .sh (D.int q.2.2.2.1)]) (resF K (eT2 D.str D.int)) c_law_rows
def c_law_steps : Unit × (List Str) × Int × Int × Unit → M (List (Str × Str × Int)) := fun q P X => (fun (source_here : Unit) (labels_here : (List Str)) (most : Int) (deep : Int) => (1 ≤ labels_here.length ∧ labels_here.length ≤ 1000 ∧ 1 ≤ most ∧ most ≤ 1000 ∧ 2 ≤ deep ∧ deep ≤ 1000 ∧ ∀ rows : List (Str × Str × Int), 1 ≤ rows.length → (rows.length : Int) ≤ most → (∀ r ∈ rows, r.1 = "/" ∨ r.1 = "//") → (∀ r ∈ rows, r.2.1 ∈ labels_here) → (∀ r ∈ rows, r.2.2 ≤ deep) → Dv (rows.map (·.2.2)) → P rows)) q.1 q.2.1 q.2.2.1 q.2.2.2.1
def sp_law_steps (K : PySem.W.Frag) : Sp := spC K (fun q : Unit × (List Str) × Int × Int × Unit => [.src, .sh ((eL D.str) q.2.1), .sh (D.int q.2.2.1), .sh (D.int q.2.2.2.1)]) (resF K (eT3 D.str D.str D.int)) c_law_steps
def c_Question_many : QuT × Unit → M Int := fun q P X => (fun (self : QuT) => (P (self.rows.length : Int))) q.1
def sp_Question_many (K : PySem.W.Frag) : Sp := spC K (fun q : QuT × Unit => [.sh (eQu q.1)]) (resE K D.int) c_Question_many
def c_is_whole : Va.D × Unit → M Bool := fun q P X => (fun (thing : Va.D) => (tyD thing ≠ none ∧ P (wholeD thing))) q.1
def sp_is_whole (K : PySem.W.Frag) : Sp := spC K (fun q : Va.D × Unit => [.sh ((fun d : Va.D => d) q.1)]) (resE K D.bl) c_is_whole
def c_is_within : Va.D × Int × Int × Unit → M Bool := fun q P X => (fun (thing : Va.D) (low : Int) (high : Int) => (tyD thing ≠ none ∧ P (withinD thing low high))) q.1 q.2.1 q.2.2.1
def sp_is_within (K : PySem.W.Frag) : Sp := spC K (fun q : Va.D × Int × Int × Unit => [.sh ((fun d : Va.D => d) q.1), .sh (D.int q.2.1), .sh (D.int q.2.2.1)]) (resE K D.bl) c_is_within
def c_is_label : Va.D × Unit → M Bool := fun q P X => (fun (thing : Va.D) => (tyD thing ≠ none ∧ (∀ z, thing = .str z → z.length ≤ 100000) ∧ P (labelD thing))) q.1
def sp_is_label (K : PySem.W.Frag) : Sp := spC K (fun q : Va.D × Unit => [.sh ((fun d : Va.D => d) q.1)]) (resE K D.bl) c_is_label
def c_is_step_row : Va.D × Int × Unit → M Bool := fun q P X => (fun (thing : Va.D) (deepest : Int) => (TyQ thing ∧ P (prQ thing deepest))) q.1 q.2.1
def sp_is_step_row (K : PySem.W.Frag) : Sp := spC K (fun q : Va.D × Int × Unit => [.sh ((fun d : Va.D => d) q.1), .sh (D.int q.2.1)]) (resE K D.bl) c_is_step_row
def c_Straight_init : Str × Unit → M Str := fun q P X => (fun (label : Str) => (P label)) q.1
def sp_Straight_init (K : PySem.W.Frag) : Sp := spMk K "Straight" (fun q : Str × Unit => [.sh (D.str q.1)]) eSt1 c_Straight_init
def c_Anywhere_init : Str × Unit → M Str := fun q P X => (fun (label : Str) => (P label)) q.1
def sp_Anywhere_init (K : PySem.W.Frag) : Sp := spMk K "Anywhere" (fun q : Str × Unit => [.sh (D.str q.1)]) eAn1 c_Anywhere_init
def c_step_of : Str × Str × Unit → M StT := fun q P X => (fun (way : Str) (label : Str) => (P (stOf way label))) q.1 q.2.1
def sp_step_of (K : PySem.W.Frag) : Sp := spC K (fun q : Str × Str × Unit => [.sh (D.str q.1), .sh (D.str q.2.1)]) (resE K eSt) c_step_of
def c_ends_by : (List Int) × Unit → M (List Int) := fun q P X => (fun (depths : (List Int)) => (Dv depths ∧ depths.length ≤ 1000 ∧ ∀ es, EndsOk depths es → P es)) q.1
def sp_ends_by (K : PySem.W.Frag) : Sp := spC K (fun q : (List Int) × Unit => [.sh ((eL D.int) q.1)]) (resF K D.int) c_ends_by
def c_uppers_by : (List Int) × Unit → M (List (Option Int)) := fun q P X => (fun (depths : (List Int)) => (Dv depths ∧ depths.length ≤ 1000 ∧ ∀ us, UpOk depths us → P us)) q.1
def sp_uppers_by (K : PySem.W.Frag) : Sp := spC K (fun q : (List Int) × Unit => [.sh ((eL D.int) q.1)]) (resF K (eO D.int)) c_uppers_by
def c_Question_init : (List (Str × Str × Int)) × Int × Unit → M QuT := fun q P X => (fun (rows : (List (Str × Str × Int))) (wanted : Int) => (∃ g : Nat, wanted = (g : Int) ∧ QuOk rows g ∧ ∀ q : QuT, q.rows = rows → q.g = g → P q)) q.1 q.2.1
def sp_Question_init (K : PySem.W.Frag) : Sp := spMk K "Question" (fun q : (List (Str × Str × Int)) × Int × Unit => [.sh ((eL (eT3 D.str D.str D.int)) q.1), .sh (D.int q.2.1)]) eQu c_Question_init
def cx_Question_init : Va.D × Va.D × Unit → M QuT := fun q P X => (fun (rows : Va.D) (wanted : Va.D) => (tyD rows ≠ none ∧ tyD wanted ≠ none ∧ ((∀ ds, rows ≠ .lst ds) → X ⟨"NoQuestion", .int 0⟩) ∧ ∀ ds, rows = .lst ds → ds.length ≤ 1000 ∧ (∀ d ∈ ds, TyQ d) ∧ (ds = [] → X ⟨"NoQuestion", .int 0⟩) ∧ (100 < ds.length → X ⟨"TooMany", .int ds.length⟩) ∧ (ds.length ≤ 100 → ∀ k : Nat, scanQu ds = some k → X ⟨"NoQuestion", .int k⟩) ∧ (ds ≠ [] → ds.length ≤ 100 → scanQu ds = none → (withinD wanted 0 ((ds.length : Int) - 1) = false → X ⟨"NoWanted", wanted⟩) ∧ ∀ q : QuT, ds = q.rows.map eSr → wanted = .int (q.g : Int) → P q))) q.1 q.2.1
def spx_Question_init (K : PySem.W.Frag) : Sp := spMk K "Question" (fun q : Va.D × Va.D × Unit => [.sh ((fun d : Va.D => d) q.1), .sh ((fun d : Va.D => d) q.2.1)]) eQu cx_Question_init
def c_law_told : Va.D × Va.D × Unit → M Va.D := fun q P X => (fun (rows_here : Va.D) (wanted : Va.D) => (TellQ rows_here wanted P)) q.1 q.2.1
def sp_law_told (K : PySem.W.Frag) : Sp := spC K (fun q : Va.D × Va.D × Unit => [.sh ((fun d : Va.D => d) q.1), .sh ((fun d : Va.D => d) q.2.1)]) (resE K (fun d : Va.D => d)) c_law_told
def c_law_due : Str × Va.D × Unit → M Str := fun q P X => (fun (word : Str) (thing : Va.D) => (reprM (msgD word thing) P X)) q.1 q.2.1
def sp_law_due (K : PySem.W.Frag) : Sp := spC K (fun q : Str × Va.D × Unit => [.sh (D.str q.1), .sh ((fun d : Va.D => d) q.2.1)]) (resE K D.str) c_law_due
def c_law_bad : (Str × Str × Int) × Int × Int × Int × Unit → M Va.D := fun q P X => (fun (row : (Str × Str × Int)) (place : Int) (ahead : Int) (number : Int) => (((row.1 = "/" ∨ row.1 = "//") ∧ labelB row.2.1 = true) ∧ 0 ≤ number ∧ 0 ≤ ahead ∧ 0 ≤ place ∧ (place = 0 → ahead = 0) ∧ ∀ d, TyQ d → BadQ place ahead d → P d)) q.1 q.2.1 q.2.2.1 q.2.2.2.1
def sp_law_bad (K : PySem.W.Frag) : Sp := spC K (fun q : (Str × Str × Int) × Int × Int × Int × Unit => [.sh ((eT3 D.str D.str D.int) q.1), .sh (D.int q.2.1), .sh (D.int q.2.2.1), .sh (D.int q.2.2.2.1)]) (resE K (fun d : Va.D => d)) c_law_bad
def c_law_spoiled : (List (Str × Str × Int)) × Unit × Unit → M ((List Va.D) × Int) := fun q P X => (fun (rows_here : (List (Str × Str × Int))) (source_here : Unit) => (∃ g, QuOk rows_here g ∧ ∀ (ds : List D) (p : Nat), ds.length = rows_here.length → (∀ d ∈ ds, TyQ d) → scanQu ds = some p → p < rows_here.length → P (ds, (p : Int)))) q.1 q.2.1
def sp_law_spoiled (K : PySem.W.Frag) : Sp := spC K (fun q : (List (Str × Str × Int)) × Unit × Unit => [.sh ((eL (eT3 D.str D.str D.int)) q.1), .src]) (resE K (eL2 (eL (fun d : Va.D => d)) D.int)) c_law_spoiled
def c_law_great : Unit × Str × Unit → M Bool := fun q P X => (fun (source_here : Unit) (label : Str) => (labelB label = true ∧ P true)) q.1 q.2.1
def sp_law_great (K : PySem.W.Frag) : Sp := spC K (fun q : Unit × Str × Unit => [.src, .sh (D.str q.2.1)]) (resE K D.bl) c_law_great
def c_law : (List Int) × Unit → M Bool := fun q P X => (fun (script : (List Int)) => (script.length ≤ 63 ∧ P true)) q.1
def sp_law (K : PySem.W.Frag) : Sp := spC K (fun q : (List Int) × Unit => [.scr q.1]) (resE K D.bl) c_law
local macro_rules | `(tactic| walk_at "pos") => `(tactic| (show (0 : Int) < _; decide))
local macro_rules | `(tactic| walk_at "wp") => `(tactic| simp only [bind_ap, pure_ap, noX_ap, pure_bd, bind_bd, ite_ap, cond_ap, cond_true, cond_false, true_implies, false_implies, implies_true, eq_self, Bool.true_eq_false, Bool.not_eq_false', Bool.not_eq_eq_eq_not, Bool.not_true, Bool.not_false, need, bnd, CMul, CDiv, CPow, rng1, rng2, lrg, revR, getS, setI, popL, frC_nx, frC_ct, frS_nx, frL_nx, frL_ct, frL_bk, frL_kr, fn_kr, fn_bk, frL_bd, fnN_kr, fnN_nx, aft_nx, aft_bk, aft_rt, eq_ii, ne_ii, eq_ss, ne_ss, eq_bb, ne_bb, eq_oi, ne_oi, eq_oo, ne_oo, eq_io, isN_o, isN_i, in_s, nin_s, in_i, nin_i, never_ap, try_ap, raise_ap, raiseN, clM, xfM, isXM, mk_nx, nar_oi, isi_int, isi_int_b, isi_bl_b, isi_bl_i, isi_str, isi_lst, isi_t2, isi_t3, isi_tl, tyD, withinD_i, labelD_s, wholeD_i, repL, rep_flat, ne_eq, reduceCtorEq, not_false_eq_true, Bool.and_eq_true, not_true_eq_false, sizeLine_eq, List.length_cons, List.length_nil, Nat.reduceAdd, Nat.reduceLeDiff, Int.reduceNeg, Int.reducePow, Int.reduceLT, Int.reduceLE, Int.reduceToNat, true_and, and_true, true_or, or_true, decide_eq_true_eq, Bool.not_eq_true', decide_eq_false_iff_not, Bool.false_eq_true, if_false, if_true, ite_false, ite_true, reduceIte, c_law_source, c_law_cell_at, c_law_take, c_law_labels, c_law_depth, c_law_rows, c_law_steps, c_Question_many, c_is_whole, c_is_within, c_is_label, c_is_step_row, c_Straight_init, c_Anywhere_init, c_step_of, c_ends_by, c_uppers_by, c_Question_init, c_law_told, c_law_due, c_law_bad, c_law_spoiled, c_law_great, c_law, cx_Question_init])
local macro_rules | `(tactic| walk_at "wpj") => `(tactic| simp only [joinM, bind_ap, pure_ap, noX_ap, pure_bd, bind_bd, ite_ap, cond_ap, cond_true, cond_false, true_implies, false_implies, implies_true, eq_self, Bool.true_eq_false, Bool.not_eq_false', Bool.not_eq_eq_eq_not, Bool.not_true, Bool.not_false, need, bnd, CMul, CDiv, CPow, rng1, rng2, lrg, revR, getS, setI, popL, frC_nx, frC_ct, frS_nx, frL_nx, frL_ct, frL_bk, frL_kr, fn_kr, fn_bk, frL_bd, fnN_kr, fnN_nx, aft_nx, aft_bk, aft_rt, eq_ii, ne_ii, eq_ss, ne_ss, eq_bb, ne_bb, eq_oi, ne_oi, eq_oo, ne_oo, eq_io, isN_o, isN_i, in_s, nin_s, in_i, nin_i, never_ap, try_ap, raise_ap, raiseN, clM, xfM, isXM, mk_nx, nar_oi, isi_int, isi_int_b, isi_bl_b, isi_bl_i, isi_str, isi_lst, isi_t2, isi_t3, isi_tl, tyD, withinD_i, labelD_s, wholeD_i, repL, rep_flat, ne_eq, reduceCtorEq, not_false_eq_true, Bool.and_eq_true, not_true_eq_false, sizeLine_eq, List.length_cons, List.length_nil, Nat.reduceAdd, Nat.reduceLeDiff, Int.reduceNeg, Int.reducePow, Int.reduceLT, Int.reduceLE, Int.reduceToNat, true_and, and_true, true_or, or_true, decide_eq_true_eq, Bool.not_eq_true', decide_eq_false_iff_not, Bool.false_eq_true, if_false, if_true, ite_false, ite_true, reduceIte, c_law_source, c_law_cell_at, c_law_take, c_law_labels, c_law_depth, c_law_rows, c_law_steps, c_Question_many, c_is_whole, c_is_within, c_is_label, c_is_step_row, c_Straight_init, c_Anywhere_init, c_step_of, c_ends_by, c_uppers_by, c_Question_init, c_law_told, c_law_due, c_law_bad, c_law_spoiled, c_law_great, c_law, cx_Question_init])
structure Txt (K : PySem.W.Frag) (mg : Str → Option Value) : Prop where
  free_max : mg "max" = none
  free_int : mg "int" = none
  free_len : mg "len" = none
  free_range : mg "range" = none
  free_min : mg "min" = none
  free_isinstance : mg "isinstance" = none
  free_bool : mg "bool" = none
  free_str : mg "str" = none
  g_MOST_LETTERS : ∃ t, mg "MOST_LETTERS" = some (.int 8 t)
  free_all : mg "all" = none
  g_LETTERS : ∃ t, mg "LETTERS" = some (.str "abcdefghijklmnopqrstuvwxyz" t)
  free_tuple : mg "tuple" = none
  glo_WAYS : mg "WAYS" = some (.ref (He.ga K "WAYS"))
  ls_WAYS : ∀ H, SqL K H (He.ga K "WAYS") [.str "/", .str "//"]
  free_enumerate : mg "enumerate" = none
  free_list : mg "list" = none
  g_MOST_STEPS : ∃ t, mg "MOST_STEPS" = some (.int 100 t)
  g_MOST_DEEP : ∃ t, mg "MOST_DEEP" = some (.int 30 t)
  glo_TooMany : mg "TooMany" = some (.ref (He.ga K "TooMany"))
  free_ValueError : mg "ValueError" = none
  glo_BoughError : mg "BoughError" = some (.ref (He.ga K "BoughError"))
  glo_NoStep : mg "NoStep" = some (.ref (He.ga K "NoStep"))
  glo_NoWanted : mg "NoWanted" = some (.ref (He.ga K "NoWanted"))
  glo_NoQuestion : mg "NoQuestion" = some (.ref (He.ga K "NoQuestion"))
  free_repr : mg "repr" = none
  cl_Question : Cls K (He.ga K "Question")
  na_Question_given_rows : NoAttr K (He.ga K "Question") "given_rows"
  na_Question_goal : NoAttr K (He.ga K "Question") "goal"
  na_Question_steps : NoAttr K (He.ga K "Question") "steps"
  na_Question_ends : NoAttr K (He.ga K "Question") "ends"
  na_Question_uppers : NoAttr K (He.ga K "Question") "uppers"
  cl_Straight : Cls K (He.ga K "Straight")
  na_Straight_label : NoAttr K (He.ga K "Straight") "label"
  cl_Anywhere : Cls K (He.ga K "Anywhere")
  na_Anywhere_label : NoAttr K (He.ga K "Anywhere") "label"
  xc : XcA K ["NoQuestion", "TooMany", "NoWanted"] ["NoQuestion", "BoughError", "TooMany", "NoStep", "NoWanted"]
  bo : BoE K "BoughError"
section
variable {P : Program} {w : World} {K : PySem.W.Frag} {mg : Str → Option Value} {base : Heap}
theorem sc_NoQuestion_init : FnScope ["self", "row"] ["self", "row"] (defScope st_NoQuestion_init) := ⟨rfl, rfl, rfl, by decide +kernel, rfl, by decide +kernel, by decide +kernel⟩
theorem ok_NoQuestion_init {f : Addr} {fd : FuncData} (T : Txt K mg) (F : FnP K "__init__" "NoQuestion.__init__" st_NoQuestion_init f fd) : FnOk P w K mg base CX0 1 f fd ["self", "row"] (spX K "NoQuestion") := by
  refine F.ok sc_NoQuestion_init (fun vs H Q E h => spX_len h) (fun cdv A outer s H vs Q E hr h => ?_)
  exact ⟨_, PSs.nox (pss_cons (ps_expr (pe_clsinit rfl T.glo_BoughError T.bo.ga T.bo.rd T.bo.fc (pa_cons (pv 0) (pa_cons (pe_op op_add_str (pe_op op_add_str pe_str (pe_callTy call_str_int rfl T.free_str (by decide +kernel) (pa_cons (pv 1) pa_nil))) pe_str) pa_nil)))) (pss_cons (ps_ost (pv 0) (pv 1)) pss_nil)), exo_init h (T.xc.k "NoQuestion" (by decide)) rfl rfl rfl (fun a v e hi R k => msg_ok (hi rfl) e (by decide) (by decide) k)⟩
theorem sc_TooMany_init : FnScope ["self", "found"] ["self", "found"] (defScope st_TooMany_init) := ⟨rfl, rfl, rfl, by decide +kernel, rfl, by decide +kernel, by decide +kernel⟩
theorem ok_TooMany_init {f : Addr} {fd : FuncData} (T : Txt K mg) (F : FnP K "__init__" "TooMany.__init__" st_TooMany_init f fd) : FnOk P w K mg base CX0 1 f fd ["self", "found"] (spX K "TooMany") := by
  refine F.ok sc_TooMany_init (fun vs H Q E h => spX_len h) (fun cdv A outer s H vs Q E hr h => ?_)
  exact ⟨_, PSs.nox (pss_cons (ps_expr (pe_clsinit rfl T.glo_BoughError T.bo.ga T.bo.rd T.bo.fc (pa_cons (pv 0) (pa_cons pe_str pa_nil)))) (pss_cons (ps_ost (pv 0) (pv 1)) pss_nil)), exo_init h (T.xc.k "TooMany" (by decide)) rfl rfl rfl (fun a v e hi R k => k _)⟩
theorem sc_NoWanted_init : FnScope ["self", "found"] ["self", "found"] (defScope st_NoWanted_init) := ⟨rfl, rfl, rfl, by decide +kernel, rfl, by decide +kernel, by decide +kernel⟩
theorem ok_NoWanted_init {f : Addr} {fd : FuncData} (T : Txt K mg) (F : FnP K "__init__" "NoWanted.__init__" st_NoWanted_init f fd) : FnOk P w K mg base CX0 1 f fd ["self", "found"] (spX K "NoWanted") := by
  refine F.ok sc_NoWanted_init (fun vs H Q E h => spX_len h) (fun cdv A outer s H vs Q E hr h => ?_)
  exact ⟨_, PSs.nox (pss_cons (ps_expr (pe_clsinit rfl T.glo_BoughError T.bo.ga T.bo.rd T.bo.fc (pa_cons (pv 0) (pa_cons pe_str pa_nil)))) (pss_cons (ps_ost (pv 0) (pv 1)) pss_nil)), exo_init h (T.xc.k "NoWanted" (by decide)) rfl rfl rfl (fun a v e hi R k => k _)⟩
theorem sc_law_source : FnScope ["_law_cell"] ["_law_cell"] (defScope st_law_source) := ⟨rfl, rfl, rfl, by decide +kernel, rfl, by decide +kernel, by decide +kernel⟩
theorem ok_law_source {f : Addr} {fd : FuncData} (T : Txt K mg) (F : FnP K "_law_source" "_law_source" st_law_source f fd)  : FnOk P w K mg base CX0 1 f fd ["_law_cell"] (sp_law_source K) := by
  refine F.ok sc_law_source (fun vs H Q E h => spC_len h fun _ => rfl) (fun cdv A outer s H vs Q E hr h => ?_)
  refine ⟨_, PSs.nox (pss_cons (ps_ret (pe_disp (pps_cons pe_str (pe_op op_mul (pe_callB (call_max2 rfl) rfl T.free_max (by decide +kernel) (pa_cons pe_int (pa_cons (pv 0) pa_nil))) (pe_callTy call_int1 rfl T.free_int (by decide +kernel) (pa_cons (pe_cmpR op_ge (pv 0) (pe_op op_pow pe_int pe_int) (nomark _)) pa_nil))) (pps_cons pe_str (pe_op op_mod (pv 0) pe_int) (pps_cons pe_str pe_int pps_nil))) (by rfl) (by rfl) (fun z => by cases z) (by decide))) pss_nil), ?_⟩
  obtain ⟨O, q, P, PX, ha, hd, hc, hq, hx⟩ := h
  cases ha with
  | sh r ha =>
    cases ha
    cases r
    generalize q.1 = c
    intro p hp
    refine ⟨_, rfl, _, _, rfl, _, rfl, _, _, rfl, rfl, ⟨by decide, by decide, by decide⟩, _, _, rfl, rfl, .inr ⟨_, rfl, ?_⟩⟩
    refine ⟨_, _, rfl, rfl, .inr ?_, _, rfl, _, _, rfl, rfl, by walk_at "pos", upd_same, [(Sum.inr "number", _), (Sum.inr "seed", _), (Sum.inr "turn", _)], rfl, (by show 3 ≤ 15; decide), ?_⟩
    · split <;> decide
    · exact hq () _ _ hc (.of_same ((L2.Same.new hp).mut hp)) ⟨p, rfl, hp, src_at⟩
theorem sc_law_cell_at : FnScope ["_law_script", "_law_k"] ["_law_script", "_law_k"] (defScope st_law_cell_at) := ⟨rfl, rfl, rfl, by decide +kernel, rfl, by decide +kernel, by decide +kernel⟩
theorem ok_law_cell_at {f : Addr} {fd : FuncData} (T : Txt K mg) (F : FnP K "_law_cell_at" "_law_cell_at" st_law_cell_at f fd)  : FnOk P w K mg base CX0 1 f fd ["_law_script", "_law_k"] (sp_law_cell_at K) := by
  refine F.ok sc_law_cell_at (fun vs H Q E h => spC_len h fun _ => rfl) (fun cdv A outer s H vs Q E hr h => ?_)
  refine ⟨_, PSs.nox (pss_cons (ps_if (pt_cmpR op_lt (pv 1) (pe_callB call_len rfl T.free_len PySem.boot_len (pa_cons (pv 0) pa_nil)) (nomark _))
      (pss_cons (ps_ret (pe_ix ix_list (pv 0) (pv 1) (fun _ _ => rfl))) pss_nil)
      pss_nil)
      (pss_cons (ps_ret (pe_op op_add (pe_op op_mul pe_int (pv 1)) pe_int)) pss_nil)), fn_run (N := ["_law_script", "_law_k"]) (c := c_law_cell_at) h (fun _ => (by decide : 2 ≤ 2)) (fun q => (rb_if (S := Unit) (ρj := (fun s_1 : Unit => [.scr q.1, .sh (D.int q.2.1)])) (rt_test (re_lt (re_var (en := D.int) (x := q.2.1) 1) (re_len (rq_scr 0)))) (rb_retE (en := D.int) (re_ixL (rq_scr 0) (re_var (en := D.int) (x := q.2.1) 1))) (rb_nil (s := (() : Unit)) (le_cons (le_cons le_nil))) (fun s_1 => (rb_retE (en := D.int) (re_add (re_bnd (re_int 7919) (re_var (en := D.int) (x := q.2.1) 1)) (re_int 13)))))) ?_⟩
  rintro ⟨script, k, ⟨⟩⟩ P X h
  change (script.length ≤ 63 ∧ 0 ≤ k ∧ ∀ c : Int, P c) at h
  obtain ⟨h1, h2, h⟩ := h
  walk_at "wp"
  exact ⟨fun c => getI_lt h2 c fun x _ => h x, fun c => h _⟩
theorem sc_law_take : FnScope ["_law_source_here", "_law_many", "_law_digit", "_law_number"] ["_law_source_here", "_law_many"] (defScope st_law_take) := ⟨rfl, rfl, rfl, by decide +kernel, rfl, by decide +kernel, by decide +kernel⟩
theorem ok_law_take {f : Addr} {fd : FuncData} (T : Txt K mg) (F : FnP K "_law_take" "_law_take" st_law_take f fd)  : FnOk P w K mg base CX0 1 f fd ["_law_source_here", "_law_many"] (sp_law_take K) := by
  refine F.ok sc_law_take (fun vs H Q E h => spC_len h fun _ => rfl) (fun cdv A outer s H vs Q E hr h => ?_)
  refine ⟨_, PSs.nox (pss_cons (ps_if (pt_cmpR op_gt (pe_dget (hu_of hr) (pv 0) pe_str (fun _ _ => rfl)) pe_int (nomark _))
      (pss_cons (ps_set (i := 2) sc_law_take.nd rfl (Or.inl rfl) (pe_op op_mod (pe_dget (hu_of hr) (pv 0) pe_str (fun _ _ => rfl)) (pv 1)))
      (pss_cons (ps_dput (hu_of hr) (pv 0) pe_str (pe_op op_fdiv (pe_dget (hu_of hr) (pv 0) pe_str (fun _ _ => rfl)) (pv 1)) rfl)
      (pss_cons (ps_ret (pv 2)) pss_nil)))
      pss_nil)
      (pss_cons (ps_dput (hu_of hr) (pv 0) pe_str (pe_op op_add (pe_dget (hu_of hr) (pv 0) pe_str (fun _ _ => rfl)) pe_int) rfl)
      (pss_cons (ps_set (i := 3) sc_law_take.nd rfl (Or.inl rfl) (pe_op op_mod (pe_op op_mul (pe_op op_add (pe_dget (hu_of hr) (pv 0) pe_str (fun _ _ => rfl)) (pe_op op_mul pe_int (pe_dget (hu_of hr) (pv 0) pe_str (fun _ _ => rfl)))) pe_int) pe_int))
      (pss_cons (ps_set (i := 3) sc_law_take.nd rfl (Or.inl rfl) (pe_op op_mod (pe_op op_mul (pv 3) (pv 3)) pe_int))
      (pss_cons (ps_ret (pe_op op_mod (pe_op op_fdiv (pe_op op_mod (pe_op op_mul (pe_op op_add (pv 3) (pe_dget (hu_of hr) (pv 0) pe_str (fun _ _ => rfl))) (pe_op op_add (pv 3) pe_int)) pe_int) pe_int) (pv 1))) pss_nil))))), ?_⟩
  obtain ⟨O, q, P, PX, ha, hd, hc, hq, hx⟩ := h
  cases ha with
  | @src a _ _ o hS ha =>
    cases ha with
    | sh r ha =>
      cases ha
      cases r
      obtain ⟨hm, hm2, hP⟩ := hc
      have hm : 0 < q.2.1 := hm
      have hm2 : q.2.1 < 1073741824 := hm2
      have hP : ∀ r : Int, 0 ≤ r → r < q.2.1 → P r := hP
      generalize q.2.1 = m at hm hm2 hP
      have S0 := hS
      obtain ⟨n, s, t, hS⟩ := hS
      have k : ∀ (r : Int) (H' : Hp), 0 ≤ r → r < m → But a H H' → Src H' a → Q (.int r) H' := fun r H' h0 h1 b s1 => hq r _ H' (hP r h0 h1) (.but b S0 s1) (.int r)
      refine ⟨_, rfl, _, _, rfl, src_get_n hS, _, _, rfl, rfl, _, rfl, ?_⟩
      refine ite2 (fun c => ?_) (fun c => ?_)
      · refine ⟨_, rfl, _, _, rfl, src_get_n hS, _, rfl, _, _, rfl, rfl, hm, ?_⟩
        refine ⟨_, rfl, _, _, rfl, src_get_n hS, _, rfl, _, _, rfl, rfl, ⟨hm, hm2⟩, _, rfl, _, _, rfl, src_put_n hS, ?_⟩
        refine ⟨_, rfl, k _ _ (Int.emod_nonneg _ (by omega)) (Int.emod_lt_of_pos _ hm) But.upd ⟨_, _, _, upd_same⟩⟩
      · refine ⟨_, rfl, _, _, rfl, src_get_t hS, _, _, rfl, rfl, _, rfl, _, _, rfl, src_put_t hS, ?_⟩
        refine ⟨_, rfl, _, _, rfl, src_get_s upd_same, _, rfl, _, _, rfl, src_get_t upd_same, _, _, rfl, rfl, .inl ⟨by decide, by decide⟩, _, _, rfl, rfl, _, _, rfl, rfl, .inr ⟨by decide, by decide⟩, _, _, rfl, rfl, by walk_at "pos", ?_⟩
        have b1 := Int.emod_nonneg ((s + 7919 * (t + 1)) * 48271) (show (2147483647 : Int) ≠ 0 by decide)
        have b2 := Int.emod_lt_of_pos ((s + 7919 * (t + 1)) * 48271) (show (0 : Int) < 2147483647 by decide)
        generalize ((s + 7919 * (t + 1)) * 48271) % 2147483647 = x1 at b1 b2 ⊢
        refine ⟨_, rfl, _, rfl, _, _, rfl, rfl, .inl ⟨by omega, by omega⟩, _, _, rfl, rfl, by walk_at "pos", ?_⟩
        have d1 := Int.emod_nonneg (x1 * x1) (show (2147483629 : Int) ≠ 0 by decide)
        have d2 := Int.emod_lt_of_pos (x1 * x1) (show (0 : Int) < 2147483629 by decide)
        generalize (x1 * x1) % 2147483629 = x2 at d1 d2 ⊢
        refine ⟨_, rfl, _, rfl, _, _, rfl, src_get_t upd_same, _, _, rfl, rfl, _, rfl, _, _, rfl, rfl, _, _, rfl, rfl, .inr ⟨by omega, by omega⟩, _, _, rfl, rfl, by walk_at "pos", _, _, rfl, rfl, ⟨by decide, by decide⟩, _, rfl, _, _, rfl, rfl, hm, ?_⟩
        exact k _ _ (Int.emod_nonneg _ (by omega)) (Int.emod_lt_of_pos _ hm) But.upd ⟨_, _, _, upd_same⟩
theorem sc_law_labels : FnScope ["_law_source_here", "_law_many", "_law_letters", "_law_word", "_law_k", "_law_ahead", "_law_first", "_law_step", "_law_labels_here", "_law_behind"] ["_law_source_here", "_law_many"] (defScope st_law_labels) := ⟨rfl, rfl, rfl, by decide +kernel, rfl, by decide +kernel, by decide +kernel⟩
theorem ok_law_labels {f : Addr} {fd : FuncData} (T : Txt K mg) (F : FnP K "_law_labels" "_law_labels" st_law_labels f fd) (G_law_take : Fn P w K mg base CX0 1 "_law_take" ["_law_source_here", "_law_many"] (sp_law_take K)) : FnOk P w K mg base CX0 2 f fd ["_law_source_here", "_law_many"] (sp_law_labels K) := by
  refine F.ok sc_law_labels (fun vs H Q E h => spC_len h fun _ => rfl) (fun cdv A outer s H vs Q E hr h => ?_)
  refine ⟨_, PSs.nox (pss_cons (ps_set (i := 2) sc_law_labels.nd rfl (Or.inr rfl) pe_str)
      (pss_cons (ps_set (i := 3) sc_law_labels.nd rfl (Or.inl rfl) (pe_join pe_str (pe_lc (own := [("_law_k", 4)]) (g := gName 4) (te := (tOp rIxS (tVar 2) (tCall (sp_law_take K) [] E0 (tCons (tVar 0) (tCons (tC (.int 26)) tNil))))) rfl sc_law_labels.nd (pi_range1 rfl T.free_range (pa_cons pe_int pa_nil)) (blkOk_by (own := [("_law_k", 4)]) (N := ["_law_source_here", "_law_many", "_law_letters", "_law_word", "_law_k", "_law_ahead", "_law_first", "_law_step", "_law_labels_here", "_law_behind"]) (sc := defScope st_law_labels) (by decide +kernel)) (fun _ _ _ _ _ => (pg_name (i := 4) sc_law_labels.nd rfl (Or.inl rfl))) (fun _ _ _ _ _ => pts_nil) (fun _ _ _ _ _ => (pe_ix ix_str (pv 2) (pe_callF G_law_take (hr.mono (by decide)) pass0 (pa_cons (pv 0) (pa_cons pe_int pa_nil))) (fun _ _ => rfl))))))
      (pss_cons (ps_set (i := 5) sc_law_labels.nd rfl (Or.inl rfl) (pe_slice sl_str (pv 3) po_none (po_some (pe_op op_mul (pe_callF G_law_take (hr.mono (by decide)) pass0 (pa_cons (pv 0) (pa_cons pe_int pa_nil))) (pe_callF G_law_take (hr.mono (by decide)) pass0 (pa_cons (pv 0) (pa_cons pe_int pa_nil)))))))
      (pss_cons (ps_set (i := 6) sc_law_labels.nd rfl (Or.inl rfl) (pe_callF G_law_take (hr.mono (by decide)) pass0 (pa_cons (pv 0) (pa_cons pe_int pa_nil))))
      (pss_cons (ps_set (i := 7) sc_law_labels.nd rfl (Or.inl rfl) (pe_ix ix_list (pe_lst (pa_cons pe_int (pa_cons pe_int (pa_cons pe_int (pa_cons pe_int (pa_cons pe_int (pa_cons pe_int pa_nil))))))) (pe_callF G_law_take (hr.mono (by decide)) pass0 (pa_cons (pv 0) (pa_cons pe_int pa_nil))) (fun _ _ => rfl)))
      (pss_cons (ps_set (i := 8) sc_law_labels.nd rfl (Or.inl rfl) (pe_lst pa_nil))
      (pss_cons (ps_for PassesOwn.never rfl (pi_range1 rfl T.free_range (pa_cons (pv 1) pa_nil)) (pg_name (i := 4) sc_law_labels.nd rfl (Or.inl rfl))
      (pss_cons (ps_set (i := 9) sc_law_labels.nd rfl (Or.inl rfl) (pe_slice sl_str (pv 3) po_none (po_some (pe_callF G_law_take (hr.mono (by decide)) pass0 (pa_cons (pv 0) (pa_cons (pe_op op_sub pe_int (pe_callB call_len rfl T.free_len PySem.boot_len (pa_cons (pv 5) pa_nil))) pa_nil))))))
      (pss_cons (ps_expr (pe_bm PySem.F.plainAttrs_list PySem.F.slot_list_append PySem.F.type_list_append mt_append (pv 8) (pa_cons (pe_op op_add_str (pe_op op_add_str (pv 5) (pe_ix ix_str (pv 2) (pe_op op_mod (pe_op op_add (pv 6) (pe_op op_mul (pv 7) (pv 4))) pe_int) (fun _ _ => rfl))) (pv 9)) pa_nil))) pss_nil)))
      (pss_cons (ps_ret (pv 8)) pss_nil)))))))), fn_run (N := ["_law_source_here", "_law_many", "_law_letters", "_law_word", "_law_k", "_law_ahead", "_law_first", "_law_step", "_law_labels_here", "_law_behind"]) (c := c_law_labels) h (fun _ => (by decide : 2 ≤ 10)) (fun q => (rb_set (en := D.str) 2 (re_str "abcdefghijklmnopqrstuvwxyz") (fun letters_1 => (rb_set (en := D.str) 3 (re_join (re_str "") (RG.fq (rf_lc (en := D.int) (en' := D.str) (ri_rng1 (re_int 7)) (tg_name (en := D.int) 4) (fun x_2 => rt_yes) (fun x_2 => (re_ixS (re_var (en := D.str) (x := letters_1) 2) (rg_call (ra_src 0 (ra_cons (en := D.int) (re_int 26) ra_nil)) (fun _ _ _ h => h)))) (fun _ _ _ => rfl)))) (fun word_3 => (rb_set (en := D.str) 5 (re_slS (re_var (en := D.str) (x := word_3) 3) ro_none (ro_some (re_bnd (rg_call (ra_src 0 (ra_cons (en := D.int) (re_int 2) ra_nil)) (fun _ _ _ h => h)) (rg_call (ra_src 0 (ra_cons (en := D.int) (re_int 5) ra_nil)) (fun _ _ _ h => h))))) (fun ahead_4 => (rb_set (en := D.int) 6 (rg_call (ra_src 0 (ra_cons (en := D.int) (re_int 26) ra_nil)) (fun _ _ _ h => h)) (fun first_5 => (rb_set (en := D.int) 7 (re_ixL (RG.fq (rf_lst (en := D.int) (rl_cons (re_int 1) (rl_cons (re_int 3) (rl_cons (re_int 5) (rl_cons (re_int 7) (rl_cons (re_int 9) (rl_cons (re_int 11) rl_nil)))))))) (rg_call (ra_src 0 (ra_cons (en := D.int) (re_int 6) ra_nil)) (fun _ _ _ h => h))) (fun step_6 => (rb_own (en := D.str) 8 (rf_lst (en := D.str) rl_nil) (fun labels_here_7 => (rb_forS (en := D.int) (S := (List Str)) (fun s_8 : (List Str) => [.src, .sh (D.int q.2.1), .sh (D.str letters_1), .sh (D.str word_3), .no, .sh (D.str ahead_4), .sh (D.int first_5), .sh (D.int step_6), .ow (.lst (List.map D.str s_8)), .no]) (labels_here_7) (ri_rng1 (re_var (en := D.int) (x := q.2.1) 1)) (tg_name (en := D.int) 4) (le_cons (le_cons (le_cons (le_cons (le_no (le_cons (le_cons (le_cons (le_cons (le_no le_nil)))))))))) (fun x_9 s_8 => (rb_set (en := D.str) 9 (re_slS (re_var (en := D.str) (x := word_3) 3) ro_none (ro_some (rg_call (ra_src 0 (ra_cons (en := D.int) (re_sub (re_int 8) (re_lenS (re_var (en := D.str) (x := ahead_4) 5))) ra_nil)) (fun _ _ _ h => h)))) (fun behind_10 => (rb_append (en := D.str) (l := s_8) 8 (re_addS (re_addS (re_var (en := D.str) (x := ahead_4) 5) (re_ixS (re_var (en := D.str) (x := letters_1) 2) (re_bnd (re_add (re_var (en := D.int) (x := first_5) 6) (re_bnd (re_var (en := D.int) (x := step_6) 7) (re_var (en := D.int) (x := x_9) 4))) (re_int 26)))) (re_var (en := D.str) (x := behind_10) 9)) (fun labels_here_11 => (rb_nil (s := ((labels_here_11) : (List Str))) (le_cons (le_cons (le_cons (le_cons (le_no (le_cons (le_cons (le_cons (le_cons (le_no le_nil)))))))))))))))) (fun s_8 => (rb_retOF (en := D.str) (l := s_8) 8)))))))))))))))) ?_⟩
  rintro ⟨⟨⟩, many, ⟨⟩⟩ P X h
  change (1 ≤ many ∧ many ≤ 12 ∧ ∀ ls : List Str, (ls.length : Int) = many → (∀ z ∈ ls, labelB z = true) → P ls) at h
  obtain ⟨h1, h2, h⟩ := h
  walk_at "wp"
  refine ⟨by rw [rng_len]; decide, ?_⟩
  refine lcM_all (fun _ _ y => ∃ c : Nat, y = ⟨#[c]⟩ ∧ isLow c = true) (fun i x hx Q k => ?_) fun ys hl hy => ?_
  · walk_at "wp"
    intro r h0 h1
    obtain ⟨c, hc, hlc⟩ := abc_at h0 h1
    exact ⟨by decide, c, hc, k _ ⟨c, rfl, hlc⟩⟩
  rw [rng_len] at hl
  have hy1 : ∀ y ∈ ys, ∃ c : Nat, y = ⟨#[c]⟩ ∧ isLow c = true := fun y hy' => by
    obtain ⟨i, hi⟩ := List.getElem?_of_mem hy'
    have hil := (List.getElem?_eq_some_iff.mp hi).1
    exact hy i _ y (rng_get (by omega)) hi
  have hsum : (ys.map (·.length)).sum = 7 := by rw [sum_ones ys fun y hy' => by obtain ⟨c, rfl, _⟩ := hy1 y hy'; rfl, hl]
  have wlow : LowS (Txt.join "" ys) := lows_join fun y hy' => by obtain ⟨c, rfl, hc⟩ := hy1 y hy'; exact lows_one hc
  have wlen : (Txt.join "" ys).length = 7 := by rw [join_len, hsum]
  refine ⟨by rw [hsum, hl]; decide, ?_⟩
  generalize Txt.join "" ys = word at wlen wlow ⊢
  intro a a0 a1 b b0 b1
  refine ⟨.inl ⟨by omega, by omega⟩, by omega, ?_⟩
  intro first f0 f1 st s0 s1
  have hab : 0 ≤ a * b ∧ a * b ≤ 4 := by
    have : a = 0 ∨ a = 1 := by omega
    rcases this with rfl | rfl <;> omega
  have plen := (len_cut_to word (a * b) hab.1).1
  have plow := lows_cut wlow none (some (a * b))
  generalize cutS word none (some (a * b)) = pre at plen plow ⊢
  refine getI_lt s0 s1 fun step hstep => ⟨by omega, by omega, ?_⟩
  have hst : 1 ≤ step ∧ step ≤ 11 := by
    have := List.mem_of_getElem? hstep
    simp at this
    omega
  refine forS_inv (fun i s => s.length = i ∧ ∀ z ∈ s, labelB z = true) ⟨rfl, fun z hz => nomatch hz⟩ (fun i x s hx ⟨hs, hz⟩ Q k => ?_) fun s ⟨hs, hz⟩ => h s (by rw [hs, rng_len]; omega) hz
  obtain ⟨hi, rfl⟩ := rng_at hx
  walk_at "wp"
  refine ⟨by omega, by omega, by omega, fun r r0 r1 => ⟨by omega, .inl ⟨by omega, by omega⟩, ?_⟩⟩
  have m0 := Int.emod_nonneg (first + step * (0 + (i : Int))) (show (26 : Int) ≠ 0 by decide)
  have m1 := Int.emod_lt_of_pos (first + step * (0 + (i : Int))) (show (0 : Int) < 26 by decide)
  generalize (first + step * (0 + (i : Int))) % 26 = m at m0 m1 ⊢
  obtain ⟨c, hc, hlc⟩ := abc_at m0 m1
  have blen := (len_cut_to word r r0).1
  have blow := lows_cut wlow none (some r)
  generalize cutS word none (some r) = beh at blen blow ⊢
  have one : (⟨#[c]⟩ : Str).length = 1 := rfl
  refine ⟨by decide, c, hc, by rw [one]; omega, by rw [len_app, one]; omega, by omega, k _ ⟨by simp [hs], fun z hz' => ?_⟩⟩
  rcases List.mem_append.mp hz' with h' | h'
  · exact hz z h'
  · rw [List.mem_singleton.mp h']
    exact label_of_low (lows_app (lows_app plow (lows_one hlc)) blow) (by rw [len_app, len_app, one]; omega) (by rw [len_app, len_app, one]; omega)
theorem sc_law_depth : FnScope ["_law_source_here", "_law_shape", "_law_above"] ["_law_source_here", "_law_shape", "_law_above"] (defScope st_law_depth) := ⟨rfl, rfl, rfl, by decide +kernel, rfl, by decide +kernel, by decide +kernel⟩
theorem ok_law_depth {f : Addr} {fd : FuncData} (T : Txt K mg) (F : FnP K "_law_depth" "_law_depth" st_law_depth f fd) (G_law_take : Fn P w K mg base CX0 1 "_law_take" ["_law_source_here", "_law_many"] (sp_law_take K)) : FnOk P w K mg base CX0 2 f fd ["_law_source_here", "_law_shape", "_law_above"] (sp_law_depth K) := by
  refine F.ok sc_law_depth (fun vs H Q E h => spC_len h fun _ => rfl) (fun cdv A outer s H vs Q E hr h => ?_)
  refine ⟨_, PSs.nox (pss_cons (ps_if (PW.pt (pw_or (pt_cmpR op_eq (pv 2) pe_int (nomark _)) (pw_or1 (PW.pt (pw_and (pt_cmpR op_lt (pv 1) pe_int (nomark _)) (pw_and1 (pt_cmpR op_gt (pe_callF G_law_take (hr.mono (by decide)) pass0 (pa_cons (pv 0) (pa_cons pe_int pa_nil))) (pv 1) (nomark _))))))))
      (pss_cons (ps_ret (pe_op op_add (pv 2) pe_int)) pss_nil)
      pss_nil)
      (pss_cons (ps_ret (pe_callB (call_min2 rfl) rfl T.free_min (by decide +kernel) (pa_cons (pe_op op_add (pv 2) pe_int) (pa_cons (pe_op op_add pe_int (pe_callF G_law_take (hr.mono (by decide)) pass0 (pa_cons (pv 0) (pa_cons (pe_callB (call_max2 rfl) rfl T.free_max (by decide +kernel) (pa_cons pe_int (pa_cons (pv 2) pa_nil))) pa_nil)))) pa_nil)))) pss_nil)), fn_run (N := ["_law_source_here", "_law_shape", "_law_above"]) (c := c_law_depth) h (fun _ => (by decide : 3 ≤ 3)) (fun q => (rb_if (S := Unit) (ρj := (fun s_1 : Unit => [.src, .sh (D.int q.2.1), .sh (D.int q.2.2.1)])) (rt_or (rt_test (re_eq (re_var (en := D.int) (x := q.2.2.1) 2) (re_int 0))) (rt_and (rt_test (re_lt (re_var (en := D.int) (x := q.2.1) 1) (re_int 2))) (rt_test (re_gt (rg_call (ra_src 0 (ra_cons (en := D.int) (re_int 4) ra_nil)) (fun _ _ _ h => h)) (re_var (en := D.int) (x := q.2.1) 1))))) (rb_retE (en := D.int) (re_add (re_var (en := D.int) (x := q.2.2.1) 2) (re_int 1))) (rb_nil (s := (() : Unit)) (le_cons (le_cons (le_cons le_nil)))) (fun s_1 => (rb_retE (en := D.int) (re_min (ra_cons (re_add (re_var (en := D.int) (x := q.2.2.1) 2) (re_int 1)) (ra_cons (re_add (re_int 2) (rg_call (ra_src 0 (ra_cons (en := D.int) (re_max (ra_cons (re_int 1) (ra_cons (re_var (en := D.int) (x := q.2.2.1) 2) ra_nil))) ra_nil)) (fun _ _ _ h => h))) ra_nil))))))) ?_⟩
  rintro ⟨⟨⟩, shape, above, ⟨⟩⟩ P X h
  change (0 ≤ above ∧ above ≤ 1000 ∧ ∀ r : Int, 1 ≤ r → r ≤ above + 1 → (r = 1 → above = 0) → P r) at h
  obtain ⟨h1, h2, h⟩ := h
  walk_at "wp"
  have k2 : ¬ above = 0 → 0 < max 1 above ∧ max 1 above < 1073741824 ∧ ∀ r : Int, 0 ≤ r → r < max 1 above → P (min (above + 1) (2 + r)) := fun c => ⟨by omega, by omega, fun r r0 r1 => h _ (by omega) (by omega) (by omega)⟩
  refine ⟨fun c => h _ (by omega) (by omega) (by omega), fun c => ⟨fun c1 => ?_, fun c1 => k2 c⟩⟩
  exact fun r r0 r1 => ⟨fun c2 => h _ (by omega) (by omega) (by omega), fun c2 => k2 c⟩
theorem sc_law_rows : FnScope ["_law_source_here", "_law_labels_here", "_law_most", "_law_deep", "_law_shape", "_law_rows_here", "_law_above", "_law_k"] ["_law_source_here", "_law_labels_here", "_law_most", "_law_deep"] (defScope st_law_rows) := ⟨rfl, rfl, rfl, by decide +kernel, rfl, by decide +kernel, by decide +kernel⟩
theorem ok_law_rows {f : Addr} {fd : FuncData} (T : Txt K mg) (F : FnP K "_law_rows" "_law_rows" st_law_rows f fd) (G_law_take : Fn P w K mg base CX0 1 "_law_take" ["_law_source_here", "_law_many"] (sp_law_take K)) (G_law_depth : Fn P w K mg base CX0 2 "_law_depth" ["_law_source_here", "_law_shape", "_law_above"] (sp_law_depth K)) : FnOk P w K mg base CX0 3 f fd ["_law_source_here", "_law_labels_here", "_law_most", "_law_deep"] (sp_law_rows K) := by
  refine F.ok sc_law_rows (fun vs H Q E h => spC_len h fun _ => rfl) (fun cdv A outer s H vs Q E hr h => ?_)
  refine ⟨_, PSs.nox (pss_cons (ps_set (i := 4) sc_law_rows.nd rfl (Or.inl rfl) (pe_callF G_law_take (hr.mono (by decide)) pass0 (pa_cons (pv 0) (pa_cons pe_int pa_nil))))
      (pss_cons (ps_set (i := 5) sc_law_rows.nd rfl (Or.inl rfl) (pe_lst pa_nil))
      (pss_cons (ps_set (i := 6) sc_law_rows.nd rfl (Or.inl rfl) pe_int)
      (pss_cons (ps_for PassesOwn.never rfl (pi_range1 rfl T.free_range (pa_cons (pe_op op_add pe_int (pe_callF G_law_take (hr.mono (by decide)) pass0 (pa_cons (pv 0) (pa_cons (pv 2) pa_nil)))) pa_nil)) (pg_name (i := 7) sc_law_rows.nd rfl (Or.inl rfl))
      (pss_cons (ps_set (i := 6) sc_law_rows.nd rfl (Or.inl rfl) (pe_callB (call_min2 rfl) rfl T.free_min (by decide +kernel) (pa_cons (pv 3) (pa_cons (pe_callF G_law_depth (hr.mono (by decide)) pass0 (pa_cons (pv 0) (pa_cons (pv 4) (pa_cons (pv 6) pa_nil)))) pa_nil))))
      (pss_cons (ps_expr (pe_bm PySem.F.plainAttrs_list PySem.F.slot_list_append PySem.F.type_list_append mt_append (pv 5) (pa_cons (pe_tup (pa_cons (pe_ix ix_list (pv 1) (pe_callF G_law_take (hr.mono (by decide)) pass0 (pa_cons (pv 0) (pa_cons (pe_callB call_len rfl T.free_len PySem.boot_len (pa_cons (pv 1) pa_nil)) pa_nil))) (fun _ _ => rfl)) (pa_cons (pv 6) pa_nil))) pa_nil))) pss_nil)))
      (pss_cons (ps_ret (pv 5)) pss_nil))))), fn_run (N := ["_law_source_here", "_law_labels_here", "_law_most", "_law_deep", "_law_shape", "_law_rows_here", "_law_above", "_law_k"]) (c := c_law_rows) h (fun _ => (by decide : 4 ≤ 8)) (fun q => (rb_set (en := D.int) 4 (rg_call (ra_src 0 (ra_cons (en := D.int) (re_int 4) ra_nil)) (fun _ _ _ h => h)) (fun shape_1 => (rb_own (en := (eT2 D.str D.int)) 5 (rf_lst (en := (eT2 D.str D.int)) rl_nil) (fun rows_here_2 => (rb_set (en := D.int) 6 (re_int 0) (fun above_3 => (rb_forS (en := D.int) (S := Int × (List (Str × Int))) (fun s_4 : Int × (List (Str × Int)) => [.src, .sh ((eL D.str) q.2.1), .sh (D.int q.2.2.1), .sh (D.int q.2.2.2.1), .sh (D.int shape_1), .ow (.lst (List.map (eT2 D.str D.int) s_4.2)), .sh (D.int s_4.1), .no]) (above_3, rows_here_2) (ri_rng1 (re_add (re_int 1) (rg_call (ra_src 0 (ra_cons (en := D.int) (re_var (en := D.int) (x := q.2.2.1) 2) ra_nil)) (fun _ _ _ h => h)))) (tg_name (en := D.int) 7) (le_cons (le_cons (le_cons (le_cons (le_cons (le_cons (le_cons (le_no le_nil)))))))) (fun x_5 s_4 => (rb_set (en := D.int) 6 (re_min (ra_cons (re_var (en := D.int) (x := q.2.2.2.1) 3) (ra_cons (rg_call (ra_src 0 (ra_cons (en := D.int) (re_var (en := D.int) (x := shape_1) 4) (ra_cons (en := D.int) (re_var (en := D.int) (x := s_4.1) 6) ra_nil))) (fun _ _ _ h => h)) ra_nil))) (fun above_6 => (rb_append (en := (eT2 D.str D.int)) (l := s_4.2) 5 (re_tup2 (re_ixL (RG.eq (re_var (en := (eL D.str)) (x := q.2.1) 1)) (rg_call (ra_src 0 (ra_cons (en := D.int) (re_len (RG.eq (re_var (en := (eL D.str)) (x := q.2.1) 1))) ra_nil)) (fun _ _ _ h => h))) (re_var (en := D.int) (x := above_6) 6)) (fun rows_here_7 => (rb_nil (s := ((above_6, rows_here_7) : Int × (List (Str × Int)))) (le_cons (le_cons (le_cons (le_cons (le_cons (le_cons (le_cons (le_no le_nil)))))))))))))) (fun s_4 => (rb_retOF (en := (eT2 D.str D.int)) (l := s_4.2) 5)))))))))) ?_⟩
  rintro ⟨⟨⟩, labels_here, most, deep, ⟨⟩⟩ P X h
  change (1 ≤ labels_here.length ∧ labels_here.length ≤ 1000 ∧ 1 ≤ most ∧ most ≤ 1000 ∧ 2 ≤ deep ∧ deep ≤ 1000 ∧ ∀ rows : List (Str × Int), 1 ≤ rows.length → (rows.length : Int) ≤ most → (∀ r ∈ rows, r.1 ∈ labels_here) → (∀ r ∈ rows, r.2 ≤ deep) → Dv (rows.map (·.2)) → P rows) at h
  obtain ⟨h1, h2, h3, h4, h5, h6, h⟩ := h
  walk_at "wp"
  intro sh sh0 sh1
  refine ⟨by omega, by omega, fun n n0 n1 => ⟨by omega, by omega, ?_⟩⟩
  refine forS_inv (fun i s => s.2.length = i ∧ s.1 ≤ deep ∧ (∀ r ∈ s.2, r.1 ∈ labels_here) ∧ (∀ r ∈ s.2, r.2 ≤ deep) ∧ Dvp (s.2.map (·.2)) s.1) ⟨rfl, by omega, fun r hr => (nomatch hr), fun r hr => (nomatch hr), Dvp.nil⟩ ?_ ?_
  · rintro i x ⟨ab, rs⟩ hx ⟨q1, q2, q3, q4, q5⟩ Q k
    obtain ⟨hi, rfl⟩ := rng_at hx
    walk_at "wp"
    have q0 := q5.nonneg
    refine ⟨q0, by omega, fun d d1 d2 d3 => ⟨by omega, by omega, fun j j0 j1 => getI_lt j0 j1 fun lab hlab => ⟨?_, k _ ⟨?_, ?_, ?_, ?_, ?_⟩⟩⟩⟩
    · show rs.length < _
      have q1 : rs.length = i := q1
      omega
    · show (rs ++ [_]).length = _
      rw [List.length_append]
      have q1 : rs.length = i := q1
      simp [q1]
    · show min deep d ≤ deep
      omega
    · intro r hr
      rcases List.mem_append.mp hr with h' | h'
      · exact q3 r h'
      · rw [List.mem_singleton.mp h']
        exact List.mem_of_getElem? hlab
    · intro r hr
      rcases List.mem_append.mp hr with h' | h'
      · exact q4 r h'
      · rw [List.mem_singleton.mp h']
        show min deep d ≤ deep
        omega
    · show Dvp ((rs ++ [(lab, min deep d)]).map (·.2)) (min deep d)
      rw [List.map_append]
      have q5 : Dvp (rs.map (·.2)) ab := q5
      have q2 : ab ≤ deep := q2
      exact Dvp.snoc (d := min deep d) q5 (fun e => by omega) (fun e => by omega)
  · rintro ⟨ab, rs⟩ ⟨q1, q2, q3, q4, q5⟩
    rw [rng_len] at q1
    have q1 : rs.length = _ := q1
    refine h rs (by omega) (by omega) q3 q4 (q5.dv (by rw [List.length_map]; show 1 ≤ rs.length; omega))
theorem sc_law_steps : FnScope ["_law_source_here", "_law_labels_here", "_law_most", "_law_deep", "_law_row"] ["_law_source_here", "_law_labels_here", "_law_most", "_law_deep"] (defScope st_law_steps) := ⟨rfl, rfl, rfl, by decide +kernel, rfl, by decide +kernel, by decide +kernel⟩
theorem ok_law_steps {f : Addr} {fd : FuncData} (T : Txt K mg) (F : FnP K "_law_steps" "_law_steps" st_law_steps f fd) (G_law_rows : Fn P w K mg base CX0 3 "_law_rows" ["_law_source_here", "_law_labels_here", "_law_most", "_law_deep"] (sp_law_rows K)) (G_law_take : Fn P w K mg base CX0 1 "_law_take" ["_law_source_here", "_law_many"] (sp_law_take K)) : FnOk P w K mg base CX0 4 f fd ["_law_source_here", "_law_labels_here", "_law_most", "_law_deep"] (sp_law_steps K) := by
  refine F.ok sc_law_steps (fun vs H Q E h => spC_len h fun _ => rfl) (fun cdv A outer s H vs Q E hr h => ?_)
  refine ⟨_, PSs.nox (pss_cons (ps_ret (pe_lc (own := [("_law_row", 4)]) (g := gName 4) (te := (tOp (rCatT K) (tTup (tCons (tOp (rIxL K) (tLst (tCons (tC (.str "/")) (tCons (tC (.str "//")) tNil))) (tCall (sp_law_take K) [] E0 (tCons (tVar 0) (tCons (tC (.int 2)) tNil)))) tNil)) (tVar 4))) rfl sc_law_steps.nd (pi_list (pe_callF G_law_rows (hr.mono (by decide)) pass0 (pa_cons (pv 0) (pa_cons (pv 1) (pa_cons (pv 2) (pa_cons (pv 3) pa_nil)))))) (blkOk_by (own := [("_law_row", 4)]) (N := ["_law_source_here", "_law_labels_here", "_law_most", "_law_deep", "_law_row"]) (sc := defScope st_law_steps) (by decide +kernel)) (fun _ _ _ _ _ => (pg_name (i := 4) sc_law_steps.nd rfl (Or.inl rfl))) (fun _ _ _ _ _ => pts_nil) (fun _ _ _ _ _ => (pe_op op_catT (pe_tup (pa_cons (pe_ix ix_list (pe_lst (pa_cons pe_str (pa_cons pe_str pa_nil))) (pe_callF G_law_take (hr.mono (by decide)) pass0 (pa_cons (pv 0) (pa_cons pe_int pa_nil))) (fun _ _ => rfl)) pa_nil)) (pv 4))))) pss_nil), fn_run (N := ["_law_source_here", "_law_labels_here", "_law_most", "_law_deep", "_law_row"]) (c := c_law_steps) h (fun _ => (by decide : 4 ≤ 5)) (fun q => (rb_retF (rf_lc (en := (eT2 D.str D.int)) (en' := (eT3 D.str D.str D.int)) (ri_list (RG.fs (rg_call (ra_src 0 (ra_cons (en := (eL D.str)) (re_var (en := (eL D.str)) (x := q.2.1) 1) (ra_cons (en := D.int) (re_var (en := D.int) (x := q.2.2.1) 2) (ra_cons (en := D.int) (re_var (en := D.int) (x := q.2.2.2.1) 3) ra_nil)))) (fun _ _ _ h => h)))) (tg_name (en := (eT2 D.str D.int)) 4) (fun x_1 => rt_yes) (fun x_1 => (re_catT (en := (eT3 D.str D.str D.int)) (fun (a : (Str)) (b : (Str × Int)) => (a, b.1, b.2)) (fun a : (Str) => [D.str (a)]) (fun a : (Str × Int) => [D.str (a.1), D.int (a.2)]) (fun _ => rfl) (fun _ => rfl) (fun _ _ => rfl) (fun _ z => nomatch z) (fun _ z => nomatch z) (fun _ _ => (by decide : 3 ≤ sizeLine)) (re_tup1 (re_ixL (RG.fq (rf_lst (en := D.str) (rl_cons (re_str "/") (rl_cons (re_str "//") rl_nil)))) (rg_call (ra_src 0 (ra_cons (en := D.int) (re_int 2) ra_nil)) (fun _ _ _ h => h)))) (re_var (en := (eT2 D.str D.int)) (x := x_1) 4))) (fun _ _ _ => rfl)))) ?_⟩
  rintro ⟨⟨⟩, labels_here, most, deep, ⟨⟩⟩ P X h
  change (1 ≤ labels_here.length ∧ labels_here.length ≤ 1000 ∧ 1 ≤ most ∧ most ≤ 1000 ∧ 2 ≤ deep ∧ deep ≤ 1000 ∧ ∀ rows : List (Str × Str × Int), 1 ≤ rows.length → (rows.length : Int) ≤ most → (∀ r ∈ rows, r.1 = "/" ∨ r.1 = "//") → (∀ r ∈ rows, r.2.1 ∈ labels_here) → (∀ r ∈ rows, r.2.2 ≤ deep) → Dv (rows.map (·.2.2)) → P rows) at h
  obtain ⟨h1, h2, h3, h4, h5, h6, h⟩ := h
  walk_at "wp"
  refine ⟨h1, h2, h3, h4, h5, h6, fun rows r1 r2 r3 r4 r5 => ⟨by omega, ?_⟩⟩
  refine lcM_all (fun _ x y => (y.1 = "/" ∨ y.1 = "//") ∧ y.2 = x) (fun i x hx Q k => ?_) fun ys hl hy => ?_
  · walk_at "wp"
    intro r r0 r1
    refine getI_lt r0 r1 fun z hz => k _ ⟨?_, rfl⟩
    have := List.mem_of_getElem? hz
    simpa using this
  have key : ys.map (·.2) = rows := by
    apply List.ext_getElem?
    intro i
    rw [List.getElem?_map]
    by_cases c : i < rows.length
    · have c' : i < ys.length := by omega
      rw [List.getElem?_eq_getElem c, List.getElem?_eq_getElem c']
      have := (hy i _ _ (List.getElem?_eq_getElem c) (List.getElem?_eq_getElem c')).2
      rw [← this]; rfl
    · rw [List.getElem?_eq_none (by omega), List.getElem?_eq_none (by omega)]; rfl
  have mem : ∀ y ∈ ys, (y.1 = "/" ∨ y.1 = "//") ∧ y.2 ∈ rows := fun y hy' => by
    refine ⟨?_, by rw [← key]; exact List.mem_map_of_mem hy'⟩
    obtain ⟨i, hi⟩ := List.getElem?_of_mem hy'
    have := (List.getElem?_eq_some_iff.mp hi).1
    exact (hy i _ y (List.getElem?_eq_getElem (by omega)) hi).1
  refine h ys (by omega) (by omega) (fun y hy' => (mem y hy').1) (fun y hy' => r3 _ (mem y hy').2) (fun y hy' => r4 _ (mem y hy').2) ?_
  rw [show ys.map (fun y => y.2.2) = rows.map (·.2) by rw [← key, List.map_map]; rfl]
  exact r5
theorem sc_Question_many : FnScope ["self"] ["self"] (defScope st_Question_many) := ⟨rfl, rfl, rfl, by decide +kernel, rfl, by decide +kernel, by decide +kernel⟩
theorem ok_Question_many {f : Addr} {fd : FuncData} (T : Txt K mg) (F : FnP K "many" "Question.many" st_Question_many f fd)  : FnOk P w K mg base CX0 1 f fd ["self"] (sp_Question_many K) := by
  refine F.ok sc_Question_many (fun vs H Q E h => spC_len h fun _ => rfl) (fun cdv A outer s H vs Q E hr h => ?_)
  refine ⟨_, PSs.nox (pss_cons (ps_ret (pe_callB call_len rfl T.free_len PySem.boot_len (pa_cons (pe_fld (pv 0) rfl) pa_nil))) pss_nil), fn_run (N := ["self"]) (c := c_Question_many) h (fun _ => (by decide : 1 ≤ 1)) (fun q => (rb_retE (en := D.int) (re_lenT (re_fld (en' := (eTL (eT3 D.str D.str D.int))) (gs := quG) (fun q : QuT => q.rows) T.cl_Question T.na_Question_given_rows (fun _ => rfl) (fun _ => rfl) (re_var (en := eQu) (x := q.1) 0))))) ?_⟩
  rintro ⟨self, ⟨⟩⟩ P X h
  change (P (self.rows.length : Int)) at h
  exact h
theorem sc_is_whole : FnScope ["thing"] ["thing"] (defScope st_is_whole) := ⟨rfl, rfl, rfl, by decide +kernel, rfl, by decide +kernel, by decide +kernel⟩
theorem ok_is_whole {f : Addr} {fd : FuncData} (T : Txt K mg) (F : FnP K "is_whole" "is_whole" st_is_whole f fd)  : FnOk P w K mg base CX0 1 f fd ["thing"] (sp_is_whole K) := by
  refine F.ok sc_is_whole (fun vs H Q E h => spC_len h fun _ => rfl) (fun cdv A outer s H vs Q E hr h => ?_)
  refine ⟨_, PSs.nox (pss_cons (ps_ret (pe_and (pe_callB call_isi rfl T.free_isinstance (by decide +kernel) (pa_cons (pv 0) (pa_cons (pe_bltn (v := .ty "int") rfl T.free_int (by decide +kernel) rfl) pa_nil))) (pe_one (pe_not (pe_callB call_isi rfl T.free_isinstance (by decide +kernel) (pa_cons (pv 0) (pa_cons (pe_bltn (v := .ty "bool") rfl T.free_bool (by decide +kernel) rfl) pa_nil))))))) pss_nil), fn_run (N := ["thing"]) (c := c_is_whole) h (fun _ => (by decide : 1 ≤ 1)) (fun q => (rb_retE (en := D.bl) (re_and (re_isi "int" (by decide +kernel) (re_var (en := (fun d : Va.D => d)) (x := q.1) 0)) (re_not (re_isi "bool" (by decide +kernel) (re_var (en := (fun d : Va.D => d)) (x := q.1) 0)))))) ?_⟩
  rintro ⟨thing, ⟨⟩⟩ P X h
  change (tyD thing ≠ none ∧ P (wholeD thing)) at h
  obtain ⟨h1, h⟩ := h
  walk_at "wp"
  simp only [isiM]
  refine ⟨h1, ?_⟩
  cases thing <;> first | exact absurd rfl h1 | simpa [isD, tyD, wholeD] using h
theorem sc_is_within : FnScope ["thing", "low", "high"] ["thing", "low", "high"] (defScope st_is_within) := ⟨rfl, rfl, rfl, by decide +kernel, rfl, by decide +kernel, by decide +kernel⟩
theorem ok_is_within {f : Addr} {fd : FuncData} (T : Txt K mg) (F : FnP K "is_within" "is_within" st_is_within f fd) (G_is_whole : Fn P w K mg base CX0 1 "is_whole" ["thing"] (sp_is_whole K)) : FnOk P w K mg base CX0 2 f fd ["thing", "low", "high"] (sp_is_within K) := by
  refine F.ok sc_is_within (fun vs H Q E h => spC_len h fun _ => rfl) (fun cdv A outer s H vs Q E hr h => ?_)
  refine ⟨_, PSs.nox (pss_cons (ps_ret (pe_and (pe_callF G_is_whole (hr.mono (by decide)) pass0 (pa_cons (pv 0) pa_nil)) (pe_one (pe_chain op_le op_le (pv 1) (pv 0) (pv 2))))) pss_nil), fn_run (N := ["thing", "low", "high"]) (c := c_is_within) h (fun _ => (by decide : 3 ≤ 3)) (fun q => (rb_retE (en := D.bl) (re_and (rg_call (ra_cons (en := (fun d : Va.D => d)) (re_var (en := (fun d : Va.D => d)) (x := q.1) 0) ra_nil) (fun _ _ _ h => h)) (re_chain (rop_b fun i j => decide (i ≤ j)) (rop_b fun i j => decide (i ≤ j)) (re_var (en := D.int) (x := q.2.1) 1) (RG.nar (en' := D.int) (re_var (en := (fun d : Va.D => d)) (x := q.1) 0)) (re_var (en := D.int) (x := q.2.2.1) 2))))) ?_⟩
  rintro ⟨thing, low, high, ⟨⟩⟩ P X h
  change (tyD thing ≠ none ∧ P (withinD thing low high)) at h
  obtain ⟨h1, h⟩ := h
  walk_at "wp"
  refine ⟨h1, ?_⟩
  cases thing with
  | int i =>
    refine ⟨fun _ => ⟨i, rfl, ?_⟩, fun z => nomatch z⟩
    refine ⟨fun c => ?_, fun c => ?_⟩
    · simpa [c, withinD] using h
    · simpa [c, withinD] using h
  | _ => first | exact absurd rfl h1 | exact ⟨fun z => (nomatch z), fun _ => h⟩
theorem sc_is_label : FnScope ["thing", "sign"] ["thing"] (defScope st_is_label) := ⟨rfl, rfl, rfl, by decide +kernel, rfl, by decide +kernel, by decide +kernel⟩
theorem ok_is_label {f : Addr} {fd : FuncData} (T : Txt K mg) (F : FnP K "is_label" "is_label" st_is_label f fd)  : FnOk P w K mg base CX0 1 f fd ["thing"] (sp_is_label K) := by
  obtain ⟨tk_MOST_LETTERS, g_MOST_LETTERS⟩ := T.g_MOST_LETTERS
  obtain ⟨tk_LETTERS, g_LETTERS⟩ := T.g_LETTERS
  refine F.ok sc_is_label (fun vs H Q E h => spC_len h fun _ => rfl) (fun cdv A outer s H vs Q E hr h => ?_)
  refine ⟨_, PSs.nox (pss_cons (ps_if (PW.pt (pw_or (pt_not (pt_val (pe_callB call_isi rfl T.free_isinstance (by decide +kernel) (pa_cons (pv 0) (pa_cons (pe_bltn (v := .ty "str") rfl T.free_str (by decide +kernel) rfl) pa_nil))))) (pw_or1 (pt_not (pt_chain op_le op_le pe_int (pe_callB call_len rfl T.free_len PySem.boot_len (pa_cons (pv 0) pa_nil)) (pe_glob (v := .int 8) rfl g_MOST_LETTERS ⟨_, rfl⟩))))))
      (pss_cons (ps_ret pe_bl) pss_nil)
      pss_nil)
      (pss_cons (ps_ret (pe_callB (cr_all rfl) rfl T.free_all (by decide +kernel) (pa_cons (pe_lc (own := [("sign", 1)]) (g := gName 1) rfl sc_is_label.nd (pi_str (pv 0)) (blkOk_by (own := [("sign", 1)]) (N := ["thing", "sign"]) (sc := defScope st_is_label) (by decide +kernel)) (fun _ _ _ _ _ => (pg_name (i := 1) sc_is_label.nd rfl (Or.inl rfl))) (fun _ _ _ _ _ => pts_nil) (fun _ _ _ _ _ => (pe_cmpR op_in_sign (pv 1) (pe_glob (v := .str "abcdefghijklmnopqrstuvwxyz") rfl g_LETTERS ⟨_, rfl⟩) (by rfl)))) pa_nil))) pss_nil)), fn_run (N := ["thing", "sign"]) (c := c_is_label) h (fun _ => (by decide : 1 ≤ 2)) (fun q => (rb_if (S := Unit) (ρj := (fun s_1 : Unit => [.sh ((fun d : Va.D => d) q.1), .no])) (rt_or (rt_not (rt_b (re_isi "str" (by decide +kernel) (re_var (en := (fun d : Va.D => d)) (x := q.1) 0)))) (rt_not (rt_test (re_chain (rop_b fun i j => decide (i ≤ j)) (rop_b fun i j => decide (i ≤ j)) (re_int 1) (re_lenS (RG.nar (en' := D.str) (re_var (en := (fun d : Va.D => d)) (x := q.1) 0))) (re_int 8))))) (rb_retE (en := D.bl) (re_bl false)) (rb_nil (s := (() : Unit)) (le_cons (le_no le_nil))) (fun s_1 => (rb_retE (en := D.bl) (re_all (RG.fq (rf_lc (en := D.str) (en' := D.bl) (ri_str (RG.nar (en' := D.str) (re_var (en := (fun d : Va.D => d)) (x := q.1) 0))) (tg_name (en := D.str) 1) (fun x_2 => rt_yes) (fun x_2 => (re_inC (re_var (en := D.str) (x := x_2) 1) (re_str "abcdefghijklmnopqrstuvwxyz"))) (fun _ _ _ => rfl)))))))) ?_⟩
  rintro ⟨thing, ⟨⟩⟩ P X h
  change (tyD thing ≠ none ∧ (∀ z, thing = .str z → z.length ≤ 100000) ∧ P (labelD thing)) at h
  obtain ⟨h1, h2, h⟩ := h
  walk_at "wp"
  simp only [isiM]
  refine ⟨h1, ?_⟩
  cases thing with
  | str z =>
    have hz := h2 z rfl
    have h : P (labelB z) := h
    simp [isD, tyD, narrow]
    refine ⟨by omega, fun c1 => ⟨fun c2 => ?_, fun c2 => ⟨?_, ?_⟩⟩, fun c1 => ?_⟩
    · rw [labelB_long (by omega)] at h
      exact h
    · show (sgns z).length ≤ _
      unfold sgns
      rw [List.length_map]
      show z.cps.toList.length ≤ _
      have : z.cps.toList.length = z.length := by simp [Str.length]
      omega
    · refine lcM_comp (lcM_filter (fun _ => true) (fun c => decide (c ∈ letters)) (fun c _ Q q => q) (fun c _ _ Q q => ⟨c, rfl, ?_⟩) ?_)
      · have : decide (c ∈ ("abcdefghijklmnopqrstuvwxyz" : Str).cps) = decide (c ∈ letters) := by
          unfold letters
          simp
        exact this ▸ q
      · rw [List.filter_eq_self.mpr fun _ _ => rfl]
        rw [labelB_in (by omega) (by omega)] at h
        exact h
    · rw [labelB_empty (by omega)] at h
      exact h
  | _ => first | exact absurd rfl h1 | exact ⟨fun _ => h, fun z => by simp [isD, tyD] at z⟩
theorem sc_is_step_row : FnScope ["thing", "deepest"] ["thing", "deepest"] (defScope st_is_step_row) := ⟨rfl, rfl, rfl, by decide +kernel, rfl, by decide +kernel, by decide +kernel⟩
theorem ok_is_step_row {f : Addr} {fd : FuncData} (T : Txt K mg) (F : FnP K "is_step_row" "is_step_row" st_is_step_row f fd) (G_is_within : Fn P w K mg base CX0 2 "is_within" ["thing", "low", "high"] (sp_is_within K)) (G_is_label : Fn P w K mg base CX0 1 "is_label" ["thing"] (sp_is_label K)) : FnOk P w K mg base CX0 3 f fd ["thing", "deepest"] (sp_is_step_row K) := by
  refine F.ok sc_is_step_row (fun vs H Q E h => spC_len h fun _ => rfl) (fun cdv A outer s H vs Q E hr h => ?_)
  refine ⟨_, PSs.nox (pss_cons (ps_if (PW.pt (pw_or (pt_not (pt_val (pe_callB call_isi rfl T.free_isinstance (by decide +kernel) (pa_cons (pv 0) (pa_cons (pe_bltn (v := .ty "tuple") rfl T.free_tuple (by decide +kernel) rfl) pa_nil))))) (pw_or (pt_cmpR op_ne (pe_callB call_len rfl T.free_len PySem.boot_len (pa_cons (pv 0) pa_nil)) pe_int (nomark _)) (pw_or (pt_not (pt_val (pe_callB call_isi rfl T.free_isinstance (by decide +kernel) (pa_cons (pe_ix ix_tup (pv 0) pe_int (fun _ _ => rfl)) (pa_cons (pe_bltn (v := .ty "str") rfl T.free_str (by decide +kernel) rfl) pa_nil))))) (pw_or1 (pt_cmpR op_notIn_seq (pe_ix ix_tup (pv 0) pe_int (fun _ _ => rfl)) (pe_glob (v := .ref (He.ga _ "WAYS")) rfl T.glo_WAYS rfl) (by rfl)))))))
      (pss_cons (ps_ret pe_bl) pss_nil)
      pss_nil)
      (pss_cons (ps_ret (pe_and (pe_callF G_is_label (hr.mono (by decide)) pass0 (pa_cons (pe_ix ix_tup (pv 0) pe_int (fun _ _ => rfl)) pa_nil)) (pe_one (pe_callF G_is_within (hr.mono (by decide)) pass0 (pa_cons (pe_ix ix_tup (pv 0) pe_int (fun _ _ => rfl)) (pa_cons pe_int (pa_cons (pv 1) pa_nil))))))) pss_nil)), fn_run (N := ["thing", "deepest"]) (c := c_is_step_row) h (fun _ => (by decide : 2 ≤ 2)) (fun q => (rb_if (S := Unit) (ρj := (fun s_1 : Unit => [.sh ((fun d : Va.D => d) q.1), .sh (D.int q.2.1)])) (rt_or (rt_not (rt_b (re_isi "tuple" (by decide +kernel) (re_var (en := (fun d : Va.D => d)) (x := q.1) 0)))) (rt_or (rt_test (re_ne (re_lenT (RG.nar (en' := (eTL (fun d : Va.D => d))) (re_var (en := (fun d : Va.D => d)) (x := q.1) 0))) (re_int 3))) (rt_or (rt_not (rt_b (re_isi "str" (by decide +kernel) (re_ixTL (RG.nar (en' := (eTL (fun d : Va.D => d))) (re_var (en := (fun d : Va.D => d)) (x := q.1) 0)) (re_int 0))))) (rt_test (re_inS (RG.nar (en' := D.str) (re_ixTL (RG.nar (en' := (eTL (fun d : Va.D => d))) (re_var (en := (fun d : Va.D => d)) (x := q.1) 0)) (re_int 0))) (rq_glob (zs := ["/", "//"]) T.ls_WAYS)))))) (rb_retE (en := D.bl) (re_bl false)) (rb_nil (s := (() : Unit)) (le_cons (le_cons le_nil))) (fun s_1 => (rb_retE (en := D.bl) (re_and (rg_call (ra_cons (en := (fun d : Va.D => d)) (re_ixTL (RG.nar (en' := (eTL (fun d : Va.D => d))) (re_var (en := (fun d : Va.D => d)) (x := q.1) 0)) (re_int 1)) ra_nil) (fun _ _ _ h => h)) (rg_call (ra_cons (en := (fun d : Va.D => d)) (re_ixTL (RG.nar (en' := (eTL (fun d : Va.D => d))) (re_var (en := (fun d : Va.D => d)) (x := q.1) 0)) (re_int 2)) (ra_cons (en := D.int) (re_int 1) (ra_cons (en := D.int) (re_var (en := D.int) (x := q.2.1) 1) ra_nil))) (fun _ _ _ h => h))))))) ?_⟩
  rintro ⟨thing, deepest, ⟨⟩⟩ P X h
  change (TyQ thing ∧ P (prQ thing deepest)) at h
  obtain ⟨h1, h⟩ := h
  walk_at "wp"
  simp only [isiM]
  refine ⟨h1.1, ?_⟩
  cases thing with
  | tup l =>
    refine ⟨fun c => (by simp [isD, tyD] at c), fun _ => ⟨l, by simp [eTL], fun c => ?_, fun c => ⟨l, by simp [eTL], ?_⟩⟩⟩
    · rcases l with _ | ⟨a, _ | ⟨b, _ | ⟨e, _ | ⟨f, l⟩⟩⟩⟩
      · exact h
      · exact h
      · exact h
      · exact absurd rfl c
      · exact h
    · rcases l with _ | ⟨a, _ | ⟨b, _ | ⟨e, _ | ⟨f, l⟩⟩⟩⟩
      · cases c
      · cases c
      · cases c
      · obtain ⟨⟨t1, t2, t3⟩, t4⟩ := h1.2 a b e rfl
        have h : P (wayD a && (labelD b && withinD e 1 deepest)) := h
        refine getI_n (x := a) (by decide) rfl ⟨t1, fun c => ?_, fun c => ⟨[a, b, e], rfl, getI_n (x := a) (by decide) rfl ?_⟩⟩
        · have : wayD a = false := by cases a <;> first | rfl | simp [isD, tyD] at c
          rw [this] at h; exact h
        · obtain ⟨z, rfl⟩ : ∃ z, a = .str z := by
            cases a with
            | str z => exact ⟨z, rfl⟩
            | _ => simp [isD, tyD] at c
          have hw : wayD (.str z) = decide (z = "/" ∨ z = "//") := rfl
          rw [hw] at h
          refine ⟨z, rfl, fun cm => ?_, fun cm => ⟨[.str z, b, e], rfl, getI_n (x := b) (by decide) rfl ⟨t2, t4, fun cl => ⟨[.str z, b, e], rfl, getI_n (x := e) (by decide) rfl ⟨t3, ?_⟩⟩, fun cl => ?_⟩⟩⟩
          · rw [decide_eq_false (by simpa using cm)] at h; exact h
          · rw [decide_eq_true (by simpa using cm), cl] at h; exact h
          · rw [cl] at h; simpa using h
      · simp at c; omega
  | dcp _ => exact absurd rfl h1.1
  | obj _ _ => exact absurd rfl h1.1
  | _ => exact ⟨fun _ => h, fun c => by simp [isD, tyD] at c⟩
theorem sc_Straight_init : FnScope ["self", "label"] ["self", "label"] (defScope st_Straight_init) := ⟨rfl, rfl, rfl, by decide +kernel, rfl, by decide +kernel, by decide +kernel⟩
theorem ok_Straight_init {f : Addr} {fd : FuncData} (T : Txt K mg) (F : FnP K "__init__" "Step.__init__" st_Straight_init f fd)  : FnOk P w K mg base CX0 1 f fd ["self", "label"] (sp_Straight_init K) := by
  refine F.ok sc_Straight_init (fun vs H Q E h => spMk_len h fun _ => rfl) (fun cdv A outer s H vs Q E hr h => ?_)
  refine ⟨_, PSs.nox (pss_cons (ps_fld (pv 0) (pv 1) rfl) pss_nil), fn_runMk (N := ["self", "label"]) (c := c_Straight_init) h (fun _ => (by decide : 2 ≤ 2)) (fun q => (rb_fld (en := D.str) (gs := []) 0 T.cl_Straight T.na_Straight_label (by decide : 0 < 1000) (re_var (en := D.str) (x := q.1) 1) (fun label_1 => (rb_endMk (le_cons (le_no le_nil)))))) ?_⟩
  rintro ⟨label, ⟨⟩⟩ P X h
  change (P label) at h
  walk_at "wp"
  exact ⟨label, rfl, h⟩
theorem sc_Anywhere_init : FnScope ["self", "label"] ["self", "label"] (defScope st_Anywhere_init) := ⟨rfl, rfl, rfl, by decide +kernel, rfl, by decide +kernel, by decide +kernel⟩
theorem ok_Anywhere_init {f : Addr} {fd : FuncData} (T : Txt K mg) (F : FnP K "__init__" "Step.__init__" st_Anywhere_init f fd)  : FnOk P w K mg base CX0 1 f fd ["self", "label"] (sp_Anywhere_init K) := by
  refine F.ok sc_Anywhere_init (fun vs H Q E h => spMk_len h fun _ => rfl) (fun cdv A outer s H vs Q E hr h => ?_)
  refine ⟨_, PSs.nox (pss_cons (ps_fld (pv 0) (pv 1) rfl) pss_nil), fn_runMk (N := ["self", "label"]) (c := c_Anywhere_init) h (fun _ => (by decide : 2 ≤ 2)) (fun q => (rb_fld (en := D.str) (gs := []) 0 T.cl_Anywhere T.na_Anywhere_label (by decide : 0 < 1000) (re_var (en := D.str) (x := q.1) 1) (fun label_1 => (rb_endMk (le_cons (le_no le_nil)))))) ?_⟩
  rintro ⟨label, ⟨⟩⟩ P X h
  change (P label) at h
  walk_at "wp"
  exact ⟨label, rfl, h⟩
theorem sc_step_of : FnScope ["way", "label"] ["way", "label"] (defScope st_step_of) := ⟨rfl, rfl, rfl, by decide +kernel, rfl, by decide +kernel, by decide +kernel⟩
theorem ok_step_of {f : Addr} {fd : FuncData} (T : Txt K mg) (F : FnP K "step_of" "step_of" st_step_of f fd) (M_Straight : Mkr P w K mg base CX0 1 (He.ga K "Straight") "Straight" ["self", "label"] (sp_Straight_init K)) (M_Anywhere : Mkr P w K mg base CX0 1 (He.ga K "Anywhere") "Anywhere" ["self", "label"] (sp_Anywhere_init K)) : FnOk P w K mg base CX0 3 f fd ["way", "label"] (sp_step_of K) := by
  refine F.ok sc_step_of (fun vs H Q E h => spC_len h fun _ => rfl) (fun cdv A outer s H vs Q E hr h => ?_)
  refine ⟨_, PSs.nox (pss_cons (ps_if (pt_cmpR op_eq (pv 0) pe_str (nomark _))
      (pss_cons (ps_ret (pe_makeF M_Straight (hr.mono (by decide)) pass0 (pa_cons (pv 1) pa_nil))) pss_nil)
      pss_nil)
      (pss_cons (ps_ret (pe_makeF M_Anywhere (hr.mono (by decide)) pass0 (pa_cons (pv 1) pa_nil))) pss_nil)), fn_run (N := ["way", "label"]) (c := c_step_of) h (fun _ => (by decide : 2 ≤ 2)) (fun q => (rb_if (S := Unit) (ρj := (fun s_1 : Unit => [.sh (D.str q.1), .sh (D.str q.2.1)])) (rt_test (re_eq (re_var (en := D.str) (x := q.1) 0) (re_str "/"))) (rb_retE (en := eSt) (RG.map (en' := eSt) StT.st (re_make (ra_cons (en := D.str) (re_var (en := D.str) (x := q.2.1) 1) ra_nil) (fun _ _ _ h => h)) (fun _ => rfl))) (rb_nil (s := (() : Unit)) (le_cons (le_cons le_nil))) (fun s_1 => (rb_retE (en := eSt) (RG.map (en' := eSt) StT.an (re_make (ra_cons (en := D.str) (re_var (en := D.str) (x := q.2.1) 1) ra_nil) (fun _ _ _ h => h)) (fun _ => rfl)))))) ?_⟩
  rintro ⟨way, label, ⟨⟩⟩ P X h
  change (P (stOf way label)) at h
  walk_at "wp"
  unfold stOf at h
  refine ⟨fun c => ?_, fun c => ?_⟩
  · rw [if_pos c] at h; exact h
  · rw [if_neg c] at h; exact h
theorem sc_ends_by : FnScope ["depths", "found", "open_places", "place", "depth"] ["depths"] (defScope st_ends_by) := ⟨rfl, rfl, rfl, by decide +kernel, rfl, by decide +kernel, by decide +kernel⟩
theorem ok_ends_by {f : Addr} {fd : FuncData} (T : Txt K mg) (F : FnP K "ends_by" "ends_by" st_ends_by f fd)  : FnOk P w K mg base CX0 1 f fd ["depths"] (sp_ends_by K) := by
  refine F.ok sc_ends_by (fun vs H Q E h => spC_len h fun _ => rfl) (fun cdv A outer s H vs Q E hr h => ?_)
  refine ⟨_, PSs.nox (pss_cons (ps_set (i := 1) sc_ends_by.nd rfl (Or.inl rfl) (pe_op op_rep (pe_lst (pa_cons pe_int pa_nil)) (pe_callB call_len rfl T.free_len PySem.boot_len (pa_cons (pv 0) pa_nil))))
      (pss_cons (ps_set (i := 2) sc_ends_by.nd rfl (Or.inl rfl) (pe_lst pa_nil))
      (pss_cons (ps_for PassesOwn.never rfl (pi_enum rfl T.free_enumerate (pa_cons (pv 0) pa_nil)) (pg_tup rfl (pgs_cons (pg_name (i := 3) sc_ends_by.nd rfl (Or.inl rfl)) (pgs_cons (pg_name (i := 4) sc_ends_by.nd rfl (Or.inl rfl)) pgs_nil)))
      (pss_cons (ps_while PassesOwn.never (pt_cmpR op_ge (pe_callB call_len rfl T.free_len PySem.boot_len (pa_cons (pv 2) pa_nil)) (pv 4) (nomark _))
      (pss_cons (ps_asg (pe_op op_sub (pv 3) pe_int) (pg_sub (pv 1) (pe_bm0 PySem.F.plainAttrs_list PySem.F.slot_list_pop PySem.F.type_list_pop mt_pop (pv 2)) set_list)) pss_nil))
      (pss_cons (ps_expr (pe_bm PySem.F.plainAttrs_list PySem.F.slot_list_append PySem.F.type_list_append mt_append (pv 2) (pa_cons (pv 3) pa_nil))) pss_nil)))
      (pss_cons (ps_while PassesOwn.never (pt_cmpR (op_neD hr.units) (pv 2) (pe_lst pa_nil) (nomark _))
      (pss_cons (ps_asg (pe_op op_sub (pe_callB call_len rfl T.free_len PySem.boot_len (pa_cons (pv 0) pa_nil)) pe_int) (pg_sub (pv 1) (pe_bm0 PySem.F.plainAttrs_list PySem.F.slot_list_pop PySem.F.type_list_pop mt_pop (pv 2)) set_list)) pss_nil))
      (pss_cons (ps_ret (pv 1)) pss_nil))))), fn_run (N := ["depths", "found", "open_places", "place", "depth"]) (c := c_ends_by) h (fun _ => (by decide : 1 ≤ 5)) (fun q => (rb_own (en := D.int) 1 (rf_rep (RG.fl (rf_lst (en := D.int) (rl_cons (re_int 0) rl_nil))) (re_len (RG.eq (re_var (en := (eL D.int)) (x := q.1) 0)))) (fun found_1 => (rb_own (en := D.int) 2 (rf_lst (en := D.int) rl_nil) (fun open_places_2 => (rb_forS (en := (eT2 D.int D.int)) (S := (List Int) × (List Int)) (fun s_3 : (List Int) × (List Int) => [.sh ((eL D.int) q.1), .ow (.lst (List.map D.int s_3.1)), .ow (.lst (List.map D.int s_3.2)), .no, .no]) (found_1, open_places_2) (ri_enum (RG.es (re_var (en := (eL D.int)) (x := q.1) 0))) (tg_pair (e1 := D.int) (e2 := D.int) 3 4) (le_cons (le_cons (le_cons (le_no (le_no le_nil))))) (fun x_4 s_3 => (rb_while (S := (List Int) × (List Int)) (fun s_5 : (List Int) × (List Int) => [.sh ((eL D.int) q.1), .ow (.lst (List.map D.int s_5.1)), .ow (.lst (List.map D.int s_5.2)), .sh (D.int x_4.1), .sh (D.int x_4.2)]) (s_3.1, s_3.2) (le_cons (le_cons (le_cons (le_cons (le_cons le_nil))))) (fun s_5 => (rt_test (re_ge (re_len (rq_own (en := D.int) (l := s_5.2) 2)) (re_var (en := D.int) (x := x_4.2) 4)))) (fun s_5 => (rb_setIP (en := D.int) (l := s_5.1) (m := s_5.2) 1 2 (by decide) (re_sub (re_var (en := D.int) (x := x_4.1) 3) (re_int 1)) (fun found_6 open_places_7 => (rb_nil (s := ((found_6, open_places_7) : (List Int) × (List Int))) (le_cons (le_cons (le_cons (le_cons (le_cons le_nil))))))))) (fun s_5 => (rb_append (en := D.int) (l := s_5.2) 2 (re_var (en := D.int) (x := x_4.1) 3) (fun open_places_8 => (rb_nil (s := ((s_5.1, open_places_8) : (List Int) × (List Int))) (le_cons (le_cons (le_cons (le_no (le_no le_nil))))))))))) (fun s_3 => (rb_while (S := (List Int) × (List Int)) (fun s_9 : (List Int) × (List Int) => [.sh ((eL D.int) q.1), .ow (.lst (List.map D.int s_9.1)), .ow (.lst (List.map D.int s_9.2)), .no, .no]) (s_3.1, s_3.2) (le_cons (le_cons (le_cons (le_no (le_no le_nil))))) (fun s_9 => (rt_test (re_neD (rq_own (en := D.int) (l := s_9.2) 2) (RG.fe (rf_lst (en := D.int) rl_nil))))) (fun s_9 => (rb_setIP (en := D.int) (l := s_9.1) (m := s_9.2) 1 2 (by decide) (re_sub (re_len (RG.eq (re_var (en := (eL D.int)) (x := q.1) 0))) (re_int 1)) (fun found_10 open_places_11 => (rb_nil (s := ((found_10, open_places_11) : (List Int) × (List Int))) (le_cons (le_cons (le_cons (le_no (le_no le_nil))))))))) (fun s_9 => (rb_retOF (en := D.int) (l := s_9.1) 1)))))))))) ?_⟩
  rintro ⟨depths, ⟨⟩⟩ P X h
  change (Dv depths ∧ depths.length ≤ 1000 ∧ ∀ es, EndsOk depths es → P es) at h
  obtain ⟨dv, hn, h⟩ := h
  walk_at "wp"
  refine ⟨by omega, by omega, by omega, ?_⟩
  refine forS_inv (fun i s => EI depths i s.1 s.2 ∧ ((i = 0 ∧ s.2 = []) ∨ ∃ j, i = j + 1 ∧ Line depths j s.2)) ⟨⟨by simp, fun k hk => by omega⟩, .inl ⟨rfl, rfl⟩⟩ ?_ ?_
  · rintro i ⟨x1, d⟩ ⟨fs, op⟩ hx ⟨ei, hop⟩ Q k
    obtain ⟨h1, hd⟩ := enumL_at hx
    have h1 : x1 = (i : Int) := h1
    subst h1
    have hd : depths[i]? = some d := hd
    have ei : EI depths i fs op := ei
    have hop : (i = 0 ∧ op = []) ∨ ∃ j, i = j + 1 ∧ Line depths j op := hop
    have hil : i < depths.length := (List.getElem?_eq_some_iff.mp hd).1
    have hdd : dg depths i = d := dg_of hd
    have hpos := dv.pos i hil
    rw [hdd] at hpos
    have hlen1 : op.length ≤ 1001 := by
      rcases hop with ⟨_, rfl⟩ | ⟨j, rfl, L⟩
      · exact Nat.zero_le _
      · have h1 := L.len
        have h2 := dv.le j (by omega)
        omega
    have hdle : d - 1 ≤ (op.length : Int) := by
      rcases hop with ⟨rfl, rfl⟩ | ⟨j, rfl, L⟩
      · have := dv.one
        rw [hdd] at this
        rw [this]
        decide
      · have h1 := L.len
        have h2 := (dv.two j hil).2
        rw [hdd] at h2
        omega
    refine whL_inv (fun s => ∃ j : Nat, s.2 = op.take j ∧ EI depths i s.1 s.2 ∧ d - 1 ≤ (j : Int) ∧ j ≤ op.length) (fun s => s.2.length) ⟨op.length, (List.take_length ..).symm, ei, hdle, Nat.le_refl _⟩ ?_
    rintro ⟨fs', op'⟩ ⟨j, e, ei6, hdj, hjl⟩ Qc kt kf
    have e : op' = op.take j := e
    subst e
    have htl : (op.take j).length = j := by rw [List.length_take]; omega
    walk_at "wp"
    show Qc (decide (d ≤ ((op.take j).length : Int)))
    rw [htl]
    by_cases c : d ≤ (j : Int)
    · rw [decide_eq_true c]
      refine kt fun Q' kn _ _ => ?_
      obtain ⟨j', rfl⟩ : ∃ j', j = j' + 1 := ⟨j - 1, by omega⟩
      obtain ⟨i', hi', L⟩ : ∃ i', i = i' + 1 ∧ Line depths i' op := by
        rcases hop with ⟨_, rfl⟩ | h
        · simp at hjl
        · exact h
      obtain ⟨n, hn', hdn, hnk⟩ := line_snoc L j' (by omega)
      have htk : op.take (j' + 1) = op.take j' ++ [(n : Int)] := take_snoc hn'
      have hni : n < depths.length := by
        rcases hnk with rfl | a
        · omega
        · have := a.1; omega
      have ei6 : EI depths i fs' (op.take (j' + 1)) := ei6
      walk_at "wp"
      show ∃ x, (op.take (j' + 1))[(op.take (j' + 1)).length - 1]? = some x ∧ ∃ q, ixN fs'.length x = some q ∧ Q' (.nx (fs'.set q ((i : Int) - 1), (op.take (j' + 1)).dropLast))
      rw [htk] at ei6 ⊢
      refine ⟨(n : Int), by simp, n, ixN_nat (by rw [ei6.1]; exact hni), kn _ ⟨j', by rw [List.dropLast_concat], ?_, by omega, by omega⟩ (by simp; omega)⟩
      rw [List.dropLast_concat]
      have := ei6.pop hi' (by omega) hnk (fun _ => by rw [hdn, ← hi', hdd]; omega)
      rw [show ((i : Int) - 1) = ((i' : Nat) : Int) by omega]
      exact this
    · rw [decide_eq_false c]
      refine kf ?_
      have hj : j = (d - 1).toNat := by omega
      walk_at "wp"
      refine ⟨by show (op.take j).length < _; omega, k _ ⟨ei6.push, .inr ⟨i, rfl, ?_⟩⟩⟩
      show Line depths i (op.take j ++ [(i : Int)])
      rw [hj]
      rcases hop with ⟨rfl, rfl⟩ | ⟨i', rfl, L⟩
      · rw [List.take_nil]
        exact Line.first dv
      · rw [← hdd]
        exact L.next dv hil
  · rintro ⟨fs, op⟩ ⟨ei, hop⟩
    rw [enumL_len] at ei hop
    have ei : EI depths depths.length fs op := ei
    have hop : (depths.length = 0 ∧ op = []) ∨ ∃ j, depths.length = j + 1 ∧ Line depths j op := hop
    refine whL_inv (fun s => ∃ j : Nat, s.2 = op.take j ∧ EI depths depths.length s.1 s.2 ∧ j ≤ op.length) (fun s => s.2.length) ⟨op.length, (List.take_length ..).symm, ei, Nat.le_refl _⟩ ?_
    rintro ⟨fs', op'⟩ ⟨j, e, ei6, hjl⟩ Qc kt kf
    have e : op' = op.take j := e
    subst e
    walk_at "wp"
    refine neD_nil (n := 0) (fun x _ => nice_int x) (by decide) ?_
    show Qc (!(op.take j).isEmpty)
    cases j with
    | zero =>
      refine kf ?_
      walk_at "wp"
      exact h _ ei6.done_
    | succ j' =>
      obtain ⟨i', hi', L⟩ : ∃ i', depths.length = i' + 1 ∧ Line depths i' op := by
        rcases hop with ⟨_, rfl⟩ | h
        · simp at hjl
        · exact h
      obtain ⟨n, hn', hdn, hnk⟩ := line_snoc L j' (by omega)
      have htk : op.take (j' + 1) = op.take j' ++ [(n : Int)] := take_snoc hn'
      have ei6 : EI depths depths.length fs' (op.take (j' + 1)) := ei6
      rw [show (!(op.take (j' + 1)).isEmpty) = true by rw [htk]; simp]
      have hni : n < depths.length := by
        rcases hnk with rfl | a
        · omega
        · have := a.1; omega
      refine kt fun Q' kn _ _ => ?_
      walk_at "wp"
      show ∃ x, (op.take (j' + 1))[(op.take (j' + 1)).length - 1]? = some x ∧ ∃ q, ixN fs'.length x = some q ∧ Q' (.nx (fs'.set q ((depths.length : Int) - 1), (op.take (j' + 1)).dropLast))
      rw [htk] at ei6 ⊢
      refine ⟨(n : Int), by simp, n, ixN_nat (by rw [ei6.1]; exact hni), kn _ ⟨j', by rw [List.dropLast_concat], ?_, by omega⟩ (by simp; omega)⟩
      rw [List.dropLast_concat]
      have := ei6.pop hi' (by omega) hnk (fun z => by omega)
      rw [show ((depths.length : Int) - 1) = ((i' : Nat) : Int) by omega]
      exact this
theorem sc_uppers_by : FnScope ["depths", "found", "ways", "place", "depth"] ["depths"] (defScope st_uppers_by) := ⟨rfl, rfl, rfl, by decide +kernel, rfl, by decide +kernel, by decide +kernel⟩
theorem ok_uppers_by {f : Addr} {fd : FuncData} (T : Txt K mg) (F : FnP K "uppers_by" "uppers_by" st_uppers_by f fd)  : FnOk P w K mg base CX0 1 f fd ["depths"] (sp_uppers_by K) := by
  refine F.ok sc_uppers_by (fun vs H Q E h => spC_len h fun _ => rfl) (fun cdv A outer s H vs Q E hr h => ?_)
  refine ⟨_, PSs.nox (pss_cons (ps_set (i := 1) sc_uppers_by.nd rfl (Or.inl rfl) (pe_lst pa_nil))
      (pss_cons (ps_set (i := 2) sc_uppers_by.nd rfl (Or.inl rfl) (pe_lst pa_nil))
      (pss_cons (ps_for PassesOwn.never rfl (pi_enum rfl T.free_enumerate (pa_cons (pv 0) pa_nil)) (pg_tup rfl (pgs_cons (pg_name (i := 3) sc_uppers_by.nd rfl (Or.inl rfl)) (pgs_cons (pg_name (i := 4) sc_uppers_by.nd rfl (Or.inl rfl)) pgs_nil)))
      (pss_cons (ps_set (i := 2) sc_uppers_by.nd rfl (Or.inl rfl) (pe_slice sl_list (pv 2) po_none (po_some (pe_op op_sub (pv 4) pe_int))))
      (pss_cons (ps_expr (pe_bm PySem.F.plainAttrs_list PySem.F.slot_list_append PySem.F.type_list_append mt_append (pv 1) (pa_cons (pe_ix ix_list (pe_op op_cat (pv 2) (pe_lst (pa_cons pe_non pa_nil))) (pe_op op_sub (pe_callB call_len rfl T.free_len PySem.boot_len (pa_cons (pv 2) pa_nil)) pe_int) (fun _ _ => rfl)) pa_nil)))
      (pss_cons (ps_expr (pe_bm PySem.F.plainAttrs_list PySem.F.slot_list_append PySem.F.type_list_append mt_append (pv 2) (pa_cons (pv 3) pa_nil))) pss_nil))))
      (pss_cons (ps_ret (pv 1)) pss_nil)))), fn_run (N := ["depths", "found", "ways", "place", "depth"]) (c := c_uppers_by) h (fun _ => (by decide : 1 ≤ 5)) (fun q => (rb_own (en := (eO D.int)) 1 (rf_lst (en := (eO D.int)) rl_nil) (fun found_1 => (rb_own (en := D.int) 2 (rf_lst (en := D.int) rl_nil) (fun ways_2 => (rb_forS (en := (eT2 D.int D.int)) (S := (List Int) × (List (Option Int))) (fun s_3 : (List Int) × (List (Option Int)) => [.sh ((eL D.int) q.1), .ow (.lst (List.map (eO D.int) s_3.2)), .ow (.lst (List.map D.int s_3.1)), .no, .no]) (ways_2, found_1) (ri_enum (RG.es (re_var (en := (eL D.int)) (x := q.1) 0))) (tg_pair (e1 := D.int) (e2 := D.int) 3 4) (le_cons (le_cons (le_cons (le_no (le_no le_nil))))) (fun x_4 s_3 => (rb_own (en := D.int) 2 (rf_sl (rq_own (en := D.int) (l := s_3.1) 2) ro_none (ro_some (re_sub (re_var (en := D.int) (x := x_4.2) 4) (re_int 1)))) (fun ways_5 => (rb_append (en := (eO D.int)) (l := s_3.2) 1 (re_ixL (RG.fq (rf_cat (RG.lm (en := D.int) (en' := (eO D.int)) some (RG.ol 2) (fun _ => rfl)) (RG.fl (rf_lst (en := (eO D.int)) (rl_cons (RG.map (en' := (eO D.int)) (fun _ => none) re_non (fun _ => rfl)) rl_nil))))) (re_sub (re_len (rq_own (en := D.int) (l := ways_5) 2)) (re_int 1))) (fun found_6 => (rb_append (en := D.int) (l := ways_5) 2 (re_var (en := D.int) (x := x_4.1) 3) (fun ways_7 => (rb_nil (s := ((ways_7, found_6) : (List Int) × (List (Option Int)))) (le_cons (le_cons (le_cons (le_no (le_no le_nil))))))))))))) (fun s_3 => (rb_retOF (en := (eO D.int)) (l := s_3.2) 1)))))))) ?_⟩
  rintro ⟨depths, ⟨⟩⟩ P X h
  change (Dv depths ∧ depths.length ≤ 1000 ∧ ∀ us, UpOk depths us → P us) at h
  obtain ⟨dv, hn, h⟩ := h
  walk_at "wp"
  refine forS_inv (fun i s => s.2.length = i ∧ (∀ (k : Nat) o, s.2[k]? = some o → UpAt depths k o) ∧ ((i = 0 ∧ s.1 = []) ∨ ∃ j, i = j + 1 ∧ Line depths j s.1)) ⟨rfl, fun k o z => (nomatch z), .inl ⟨rfl, rfl⟩⟩ ?_ ?_
  · rintro i ⟨x1, d⟩ ⟨ln, us⟩ hx ⟨hul, hup, hln⟩ Q k
    obtain ⟨h1, hd⟩ := enumL_at hx
    have h1 : x1 = (i : Int) := h1
    subst h1
    have hd : depths[i]? = some d := hd
    have hul : us.length = i := hul
    have hln : (i = 0 ∧ ln = []) ∨ ∃ j, i = j + 1 ∧ Line depths j ln := hln
    have hil : i < depths.length := (List.getElem?_eq_some_iff.mp hd).1
    have hdd : dg depths i = d := dg_of hd
    have hpos := dv.pos i hil
    have line' : Line depths i (ln.take (d - 1).toNat ++ [(i : Int)]) := by
      rcases hln with ⟨rfl, rfl⟩ | ⟨j, rfl, L⟩
      · rw [List.take_nil]
        exact Line.first dv
      · rw [← hdd]
        exact L.next dv hil
    walk_at "wp"
    rw [cutL_to (show (0 : Int) ≤ d - 1 by omega)]
    have hlen := line'.len
    rw [hdd, List.length_append, List.length_singleton] at hlen
    have hdl : d ≤ 1001 := by have := dv.le i hil; omega
    show (List.map some (ln.take (d - 1).toNat)).length ≤ _ ∧ _
    generalize ln.take (d - 1).toNat = wy at line' hlen ⊢
    have fin : ∀ o, UpAt depths i o → Q (wy ++ [(i : Int)], us ++ [o]) := fun o ho => k _ ⟨by simp [hul], fun k' o' hk' => by
      have hk' : (us ++ [o])[k']? = some o' := hk'
      by_cases c : k' < us.length
      · rw [List.getElem?_append_left c] at hk'
        exact hup k' o' hk'
      · rw [List.getElem?_append_right (by omega)] at hk'
        have : k' = us.length := by
          by_cases e : k' - us.length = 0
          · omega
          · rw [List.getElem?_eq_none (by simp; omega)] at hk'; cases hk'
        subst this
        simp at hk'
        rw [← hk', hul]
        exact ho, .inr ⟨i, rfl, line'⟩⟩
    refine ⟨by rw [List.length_map]; omega, ?_⟩
    by_cases c : 1 < d
    · have hw : 0 < wy.length := by omega
      refine getI_lt (by omega) (by simp; omega) fun x hx => ⟨by omega, by omega, fin x ?_⟩
      rw [List.getElem?_append_left (by rw [List.length_map]; omega), List.getElem?_map] at hx
      cases e : wy[((wy.length : Int) - 1).toNat]? with
      | none => rw [e] at hx; cases hx
      | some m =>
        rw [e] at hx
        cases hx
        refine line'.upper (by omega) hil ?_
        rw [hdd, List.getElem?_append_left (by omega), ← e]
        congr 1
        omega
    · have hw : wy = [] := List.eq_nil_of_length_eq_zero (by omega)
      subst hw
      refine ⟨none, by rfl, by omega, by decide, fin none (upAt_none dv (by omega))⟩
  · rintro ⟨ln, us⟩ ⟨hul, hup, _⟩
    rw [enumL_len] at hul
    exact h us ⟨hul, hup⟩
theorem sc_Question_init : FnScope ["self", "rows", "wanted", "deepest", "number", "row"] ["self", "rows", "wanted"] (defScope st_Question_init) := ⟨rfl, rfl, rfl, by decide +kernel, rfl, by decide +kernel, by decide +kernel⟩
theorem okx_Question_init {f : Addr} {fd : FuncData} (T : Txt K mg) (F : FnP K "__init__" "Question.__init__" st_Question_init f fd) (X_NoQuestion : Xcr P w K mg base 1 "NoQuestion") (X_TooMany : Xcr P w K mg base 1 "TooMany") (G_is_step_row : Fn P w K mg base CX0 3 "is_step_row" ["thing", "deepest"] (sp_is_step_row K)) (G_is_within : Fn P w K mg base CX0 2 "is_within" ["thing", "low", "high"] (sp_is_within K)) (X_NoWanted : Xcr P w K mg base 1 "NoWanted") (G_step_of : Fn P w K mg base CX0 3 "step_of" ["way", "label"] (sp_step_of K)) (G_ends_by : Fn P w K mg base CX0 1 "ends_by" ["depths"] (sp_ends_by K)) (G_uppers_by : Fn P w K mg base CX0 1 "uppers_by" ["depths"] (sp_uppers_by K)) : FnOk P w K mg base (L2.CX P w) 4 f fd ["self", "rows", "wanted"] (spx_Question_init K) := by
  obtain ⟨tk_MOST_STEPS, g_MOST_STEPS⟩ := T.g_MOST_STEPS
  obtain ⟨tk_MOST_DEEP, g_MOST_DEEP⟩ := T.g_MOST_DEEP
  refine F.ok sc_Question_init (fun vs H Q E h => spMk_len h fun _ => rfl) (fun cdv A outer s H vs Q E hr h => ?_)
  refine ⟨_, (pss_cons (ps_if (PW.pt (pw_or (pt_not (pt_val (pe_callB call_isi rfl T.free_isinstance (by decide +kernel) (pa_cons (pv 1) (pa_cons (pe_bltn (v := .ty "list") rfl T.free_list (by decide +kernel) rfl) pa_nil))))) (pw_or1 (pt_cmpR (op_eqN hr.units) (pv 1) (pe_lst pa_nil) (nomark _)))))
      (pss_cons (ps_raiseX rfl tk_of (pmkX X_NoQuestion (hr.mono (by decide)) (pa_cons pe_int pa_nil))) pss_nil)
      pss_nil)
      (pss_cons (ps_if (pt_cmpR op_gt (pe_callB call_len rfl T.free_len PySem.boot_len (pa_cons (pv 1) pa_nil)) (pe_glob (v := .int 100) rfl g_MOST_STEPS ⟨_, rfl⟩) (nomark _))
      (pss_cons (ps_raiseX rfl tk_of (pmkX X_TooMany (hr.mono (by decide)) (pa_cons (pe_callB call_len rfl T.free_len PySem.boot_len (pa_cons (pv 1) pa_nil)) pa_nil))) pss_nil)
      pss_nil)
      (pss_cons (ps_set (i := 3) sc_Question_init.nd rfl (Or.inl rfl) pe_int)
      (pss_cons (ps_for po_of rfl (pi_enum rfl T.free_enumerate (pa_cons (pv 1) pa_nil)) (pg_tup rfl (pgs_cons (pg_name (i := 4) sc_Question_init.nd rfl (Or.inl rfl)) (pgs_cons (pg_name (i := 5) sc_Question_init.nd rfl (Or.inl rfl)) pgs_nil)))
      (pss_cons (ps_if (PW.pt (pw_or (pt_not (pt_val (pe_callF G_is_step_row (hr.mono (by decide)) pass0 (pa_cons (pv 5) (pa_cons (pe_callB (call_min2 rfl) rfl T.free_min (by decide +kernel) (pa_cons (pv 3) (pa_cons (pe_glob (v := .int 30) rfl g_MOST_DEEP ⟨_, rfl⟩) pa_nil))) pa_nil))))) (pw_or1 (PW.pt (pw_and (pt_cmpR op_gt (pv 4) pe_int (nomark _)) (pw_and1 (pt_cmpR op_eq (pe_ix ix_tup (pv 5) pe_int (fun _ _ => rfl)) pe_int (nomark _))))))))
      (pss_cons (ps_raiseX rfl tk_of (pmkX X_NoQuestion (hr.mono (by decide)) (pa_cons (pv 4) pa_nil))) pss_nil)
      pss_nil)
      (pss_cons (ps_set (i := 3) sc_Question_init.nd rfl (Or.inl rfl) (pe_op op_add (pe_ix ix_tup (pv 5) pe_int (fun _ _ => rfl)) pe_int)) pss_nil)))
      (pss_cons (ps_if (pt_not (pt_val (pe_callF G_is_within (hr.mono (by decide)) pass0 (pa_cons (pv 2) (pa_cons pe_int (pa_cons (pe_op op_sub (pe_callB call_len rfl T.free_len PySem.boot_len (pa_cons (pv 1) pa_nil)) pe_int) pa_nil))))))
      (pss_cons (ps_raiseX rfl tk_of (pmkX X_NoWanted (hr.mono (by decide)) (pa_cons (pv 2) pa_nil))) pss_nil)
      pss_nil)
      (pss_cons (ps_fld (pv 0) (pe_callTy call_tuple_of rfl T.free_tuple (by decide +kernel) (pa_cons (pv 1) pa_nil)) rfl)
      (pss_cons (ps_fld (pv 0) (pv 2) rfl)
      (pss_cons (ps_fld (pv 0) (pe_callTy call_tuple_of rfl T.free_tuple (by decide +kernel) (pa_cons (pe_lc (own := [("row", 5)]) (g := gName 5) (te := (tCall (sp_step_of K) [] E0 (tCons (tOp (rIxT K) (tVar 5) (tC (.int 0))) (tCons (tOp (rIxT K) (tVar 5) (tC (.int 1))) tNil)))) rfl sc_Question_init.nd (pi_list (pv 1)) (blkOk_by (own := [("row", 5)]) (N := ["self", "rows", "wanted", "deepest", "number", "row"]) (sc := defScope st_Question_init) (by decide +kernel)) (fun _ _ _ _ _ => (pg_name (i := 5) sc_Question_init.nd rfl (Or.inl rfl))) (fun _ _ _ _ _ => pts_nil) (fun _ _ _ _ _ => (pe_callF G_step_of (hr.mono (by decide)) pass0 (pa_cons (pe_ix ix_tup (pv 5) pe_int (fun _ _ => rfl)) (pa_cons (pe_ix ix_tup (pv 5) pe_int (fun _ _ => rfl)) pa_nil))))) pa_nil)) rfl)
      (pss_cons (ps_fld (pv 0) (pe_callF G_ends_by (hr.mono (by decide)) pass0 (pa_cons (pe_lc (own := [("row", 5)]) (g := gName 5) (te := (tOp (rIxT K) (tVar 5) (tC (.int 2)))) rfl sc_Question_init.nd (pi_list (pv 1)) (blkOk_by (own := [("row", 5)]) (N := ["self", "rows", "wanted", "deepest", "number", "row"]) (sc := defScope st_Question_init) (by decide +kernel)) (fun _ _ _ _ _ => (pg_name (i := 5) sc_Question_init.nd rfl (Or.inl rfl))) (fun _ _ _ _ _ => pts_nil) (fun _ _ _ _ _ => (pe_ix ix_tup (pv 5) pe_int (fun _ _ => rfl)))) pa_nil)) rfl)
      (pss_cons (ps_fld (pv 0) (pe_callF G_uppers_by (hr.mono (by decide)) pass0 (pa_cons (pe_lc (own := [("row", 5)]) (g := gName 5) (te := (tOp (rIxT K) (tVar 5) (tC (.int 2)))) rfl sc_Question_init.nd (pi_list (pv 1)) (blkOk_by (own := [("row", 5)]) (N := ["self", "rows", "wanted", "deepest", "number", "row"]) (sc := defScope st_Question_init) (by decide +kernel)) (fun _ _ _ _ _ => (pg_name (i := 5) sc_Question_init.nd rfl (Or.inl rfl))) (fun _ _ _ _ _ => pts_nil) (fun _ _ _ _ _ => (pe_ix ix_tup (pv 5) pe_int (fun _ _ => rfl)))) pa_nil)) rfl) pss_nil)))))))))), fn_runMk (N := ["self", "rows", "wanted", "deepest", "number", "row"]) (c := cx_Question_init) h (fun _ => (by decide : 3 ≤ 6)) (fun q => (rb_if (S := Unit) (ρj := (fun s_1 : Unit => [.ow (.obj "Question" []), .sh ((fun d : Va.D => d) q.1), .sh ((fun d : Va.D => d) q.2.1), .no, .no, .no])) (rt_or (rt_not (rt_b (re_isi "list" (by decide +kernel) (re_var (en := (fun d : Va.D => d)) (x := q.1) 1)))) (rt_test (re_eqN false (RG.nar (en' := (eL (fun d : Va.D => d))) (re_var (en := (fun d : Va.D => d)) (x := q.1) 1)) (RG.fe (rf_lst (en := (fun d : Va.D => d)) rl_nil))))) (rb_raise (en := D.int) "NoQuestion" (re_int 0)) (rb_nil (s := (() : Unit)) (le_cons (le_cons (le_cons (le_no (le_no (le_no le_nil))))))) (fun s_1 => (rb_if (S := Unit) (ρj := (fun s_2 : Unit => [.ow (.obj "Question" []), .sh ((fun d : Va.D => d) q.1), .sh ((fun d : Va.D => d) q.2.1), .no, .no, .no])) (rt_test (re_gt (re_len (RG.eq (RG.nar (en' := (eL (fun d : Va.D => d))) (re_var (en := (fun d : Va.D => d)) (x := q.1) 1)))) (re_int 100))) (rb_raise (en := D.int) "TooMany" (re_len (RG.eq (RG.nar (en' := (eL (fun d : Va.D => d))) (re_var (en := (fun d : Va.D => d)) (x := q.1) 1))))) (rb_nil (s := (() : Unit)) (le_cons (le_cons (le_cons (le_no (le_no (le_no le_nil))))))) (fun s_2 => (rb_set (en := D.int) 3 (re_int 1) (fun deepest_3 => (rb_for (en := (eT2 D.int (fun d : Va.D => d))) (S := Int) (fun s_4 : Int => [.ow (.obj "Question" []), .sh ((fun d : Va.D => d) q.1), .sh ((fun d : Va.D => d) q.2.1), .sh (D.int s_4), .no, .no]) (deepest_3) (ri_enum (RG.es (RG.nar (en' := (eL (fun d : Va.D => d))) (re_var (en := (fun d : Va.D => d)) (x := q.1) 1)))) (tg_pair (e1 := D.int) (e2 := (fun d : Va.D => d)) 4 5) (le_cons (le_cons (le_cons (le_cons (le_no (le_no le_nil)))))) (fun x_5 s_4 => (rb_if (S := Unit) (ρj := (fun s_6 : Unit => [.ow (.obj "Question" []), .sh ((fun d : Va.D => d) q.1), .sh ((fun d : Va.D => d) q.2.1), .sh (D.int s_4), .sh (D.int x_5.1), .sh ((fun d : Va.D => d) x_5.2)])) (rt_or (rt_not (rt_b (rg_call (ra_cons (en := (fun d : Va.D => d)) (re_var (en := (fun d : Va.D => d)) (x := x_5.2) 5) (ra_cons (en := D.int) (re_min (ra_cons (re_var (en := D.int) (x := s_4) 3) (ra_cons (re_int 30) ra_nil))) ra_nil)) (fun _ _ _ h => h)))) (rt_and (rt_test (re_gt (re_var (en := D.int) (x := x_5.1) 4) (re_int 0))) (rt_test (re_eq (re_ixTL (RG.nar (en' := (eTL (fun d : Va.D => d))) (re_var (en := (fun d : Va.D => d)) (x := x_5.2) 5)) (re_int 2)) (re_int 1))))) (rb_raise (en := D.int) "NoQuestion" (re_var (en := D.int) (x := x_5.1) 4)) (rb_nil (s := (() : Unit)) (le_cons (le_cons (le_cons (le_cons (le_cons (le_cons le_nil))))))) (fun s_6 => (rb_set (en := D.int) 3 (re_add (RG.nar (en' := D.int) (re_ixTL (RG.nar (en' := (eTL (fun d : Va.D => d))) (re_var (en := (fun d : Va.D => d)) (x := x_5.2) 5)) (re_int 2))) (re_int 1)) (fun deepest_7 => (rb_nil (s := ((deepest_7) : Int)) (le_cons (le_cons (le_cons (le_cons (le_no (le_no le_nil)))))))))))) (fun s_4 => (rb_if (S := Unit) (ρj := (fun s_8 : Unit => [.ow (.obj "Question" []), .sh ((fun d : Va.D => d) q.1), .sh ((fun d : Va.D => d) q.2.1), .sh (D.int s_4), .no, .no])) (rt_not (rt_b (rg_call (ra_cons (en := (fun d : Va.D => d)) (re_var (en := (fun d : Va.D => d)) (x := q.2.1) 2) (ra_cons (en := D.int) (re_int 0) (ra_cons (en := D.int) (re_sub (re_len (RG.eq (RG.nar (en' := (eL (fun d : Va.D => d))) (re_var (en := (fun d : Va.D => d)) (x := q.1) 1)))) (re_int 1)) ra_nil))) (fun _ _ _ h => h)))) (rb_raise (en := (fun d : Va.D => d)) "NoWanted" (re_var (en := (fun d : Va.D => d)) (x := q.2.1) 2)) (rb_nil (s := (() : Unit)) (le_cons (le_cons (le_cons (le_cons (le_no (le_no le_nil))))))) (fun s_8 => (rb_fld (en := (eTL (eT3 D.str D.str D.int))) (gs := []) 0 T.cl_Question T.na_Question_given_rows (by decide : 0 < 1000) (RG.nar (en' := (eTL (eT3 D.str D.str D.int))) (re_tuple (RG.eq (RG.nar (en' := (eL (fun d : Va.D => d))) (re_var (en := (fun d : Va.D => d)) (x := q.1) 1))))) (fun given_rows_9 => (rb_fld (en := D.int) (gs := [("given_rows", (eTL (eT3 D.str D.str D.int)) given_rows_9)]) 0 T.cl_Question T.na_Question_goal (by decide : 1 < 1000) (RG.nar (en' := D.int) (re_var (en := (fun d : Va.D => d)) (x := q.2.1) 2)) (fun goal_10 => (rb_fld (en := (eTL eSt)) (gs := [("given_rows", (eTL (eT3 D.str D.str D.int)) given_rows_9), ("goal", D.int goal_10)]) 0 T.cl_Question T.na_Question_steps (by decide : 2 < 1000) (re_tuple (RG.fq (rf_lc (en := (fun d : Va.D => d)) (en' := eSt) (ri_list (RG.es (RG.nar (en' := (eL (fun d : Va.D => d))) (re_var (en := (fun d : Va.D => d)) (x := q.1) 1)))) (tg_name (en := (fun d : Va.D => d)) 5) (fun x_11 => rt_yes) (fun x_11 => (rg_call (ra_cons (en := D.str) (RG.nar (en' := D.str) (re_ixTL (RG.nar (en' := (eTL (fun d : Va.D => d))) (re_var (en := (fun d : Va.D => d)) (x := x_11) 5)) (re_int 0))) (ra_cons (en := D.str) (RG.nar (en' := D.str) (re_ixTL (RG.nar (en' := (eTL (fun d : Va.D => d))) (re_var (en := (fun d : Va.D => d)) (x := x_11) 5)) (re_int 1))) ra_nil)) (fun _ _ _ h => h))) (fun _ _ _ => rfl)))) (fun steps_12 => (rb_fld (en := (eL D.int)) (gs := [("given_rows", (eTL (eT3 D.str D.str D.int)) given_rows_9), ("goal", D.int goal_10), ("steps", (eTL eSt) steps_12)]) 0 T.cl_Question T.na_Question_ends (by decide : 3 < 1000) (RG.fe (rg_call (ra_cons (en := (eL D.int)) (RG.fe (rf_lc (en := (fun d : Va.D => d)) (en' := D.int) (ri_list (RG.es (RG.nar (en' := (eL (fun d : Va.D => d))) (re_var (en := (fun d : Va.D => d)) (x := q.1) 1)))) (tg_name (en := (fun d : Va.D => d)) 5) (fun x_13 => rt_yes) (fun x_13 => (RG.nar (en' := D.int) (re_ixTL (RG.nar (en' := (eTL (fun d : Va.D => d))) (re_var (en := (fun d : Va.D => d)) (x := x_13) 5)) (re_int 2)))) (fun _ _ _ => rfl))) ra_nil) (fun _ _ _ h => h))) (fun ends_14 => (rb_fld (en := (eL (eO D.int))) (gs := [("given_rows", (eTL (eT3 D.str D.str D.int)) given_rows_9), ("goal", D.int goal_10), ("steps", (eTL eSt) steps_12), ("ends", (eL D.int) ends_14)]) 0 T.cl_Question T.na_Question_uppers (by decide : 4 < 1000) (RG.fe (rg_call (ra_cons (en := (eL D.int)) (RG.fe (rf_lc (en := (fun d : Va.D => d)) (en' := D.int) (ri_list (RG.es (RG.nar (en' := (eL (fun d : Va.D => d))) (re_var (en := (fun d : Va.D => d)) (x := q.1) 1)))) (tg_name (en := (fun d : Va.D => d)) 5) (fun x_15 => rt_yes) (fun x_15 => (RG.nar (en' := D.int) (re_ixTL (RG.nar (en' := (eTL (fun d : Va.D => d))) (re_var (en := (fun d : Va.D => d)) (x := x_15) 5)) (re_int 2)))) (fun _ _ _ => rfl))) ra_nil) (fun _ _ _ h => h))) (fun uppers_16 => (rb_endMk (le_cons (le_no (le_no (le_no (le_no (le_no le_nil)))))))))))))))))))))))))))) ?_⟩
  rintro ⟨rows, wanted, ⟨⟩⟩ P X h
  change (tyD rows ≠ none ∧ tyD wanted ≠ none ∧ ((∀ ds, rows ≠ .lst ds) → X ⟨"NoQuestion", .int 0⟩) ∧ ∀ ds, rows = .lst ds → ds.length ≤ 1000 ∧ (∀ d ∈ ds, TyQ d) ∧ (ds = [] → X ⟨"NoQuestion", .int 0⟩) ∧ (100 < ds.length → X ⟨"TooMany", .int ds.length⟩) ∧ (ds.length ≤ 100 → ∀ k : Nat, scanQu ds = some k → X ⟨"NoQuestion", .int k⟩) ∧ (ds ≠ [] → ds.length ≤ 100 → scanQu ds = none → (withinD wanted 0 ((ds.length : Int) - 1) = false → X ⟨"NoWanted", wanted⟩) ∧ ∀ q : QuT, ds = q.rows.map eSr → wanted = .int (q.g : Int) → P q)) at h
  obtain ⟨h1, hw, h2, h3⟩ := h
  have st0 : ∀ k : Nat, k ≤ 1000 → (strC "NoQuestion" = true → ∃ i : Int, D.int (k : Int) = D.int i ∧ 0 ≤ i ∧ i ≤ 1000000) := fun k hk _ => ⟨k, rfl, by omega, by omega⟩
  walk_at "wp"
  simp only [isiM]
  refine ⟨h1, fun c => ⟨st0 0 (by decide), h2 fun ds e => by rw [e] at c; simp [isD, tyD] at c⟩, fun c => ?_⟩
  obtain ⟨ds, rfl⟩ : ∃ ds, rows = .lst ds := by
    cases rows with
    | lst ds => exact ⟨ds, rfl⟩
    | _ => simp [isD, tyD] at c
  obtain ⟨q1, q2, q3, q4, q5, q6⟩ := h3 ds rfl
  have nar : ∀ {Q : List D → Prop}, Q ds → narrow (fun d : D => d) (eL fun d : D => d) (.lst ds) Q X := fun z => ⟨ds, by simp [eL], z⟩
  refine nar ⟨ds, by simp [eL], rfl, fun c => ⟨st0 0 (by decide), q3 (by simpa using c)⟩, fun c => nar ⟨fun c2 => nar ⟨fun z => absurd z (by decide), q4 (by omega)⟩, fun c2 => nar ?_⟩⟩
  have hne : ds ≠ [] := fun z => by rw [z] at c; cases c
  refine forL_inv (fun i s => ∃ pre : List Sr, ds.take i = pre.map eSr ∧ pre.length = i ∧ ChG (fun r : Sr => r.2.2) (fun r => (r.1 = "/" ∨ r.1 = "//") ∧ labelB r.2.1 = true) 30 0 1 pre ∧ s = endM (fun r : Sr => r.2.2) 1 pre) ⟨[], rfl, rfl, trivial, rfl⟩ ?_ ?_
  · rintro i ⟨x1, d⟩ s hx ⟨pre, e1, e2, ch, rfl⟩ Q k _ _
    obtain ⟨g1, hd⟩ := enumL_at hx
    have g1 : x1 = (i : Int) := g1
    subst g1
    have hd : ds[i]? = some d := hd
    have hil : i < ds.length := (List.getElem?_eq_some_iff.mp hd).1
    have ty := q2 d (List.mem_of_getElem? hd)
    have eds : ds = pre.map eSr ++ d :: ds.drop (i + 1) := by
      rw [← e1, ← List.take_append_drop i ds, List.take_append_drop]
      rw [show d :: ds.drop (i + 1) = ds.drop i from ?_, List.take_append_drop]
      obtain ⟨hi, e⟩ := List.getElem?_eq_some_iff.mp hd
      rw [List.drop_eq_getElem_cons hi, e]
    have bad : okR prQ dpQ 30 i (endM (fun r : Sr => r.2.2) 1 pre) d = false → X ⟨"NoQuestion", .int i⟩ := fun z => q5 (by omega) i (by
      have sc := scan_app (top := 30) rowK_qu pre 0 1 (d :: ds.drop (i + 1)) ch
      rw [← eds] at sc
      show scanR prQ dpQ 30 0 1 ds = some i
      rw [sc, Nat.zero_add, e2]
      unfold scanR
      rw [if_neg (by rw [z]; exact fun y => nomatch y)])
    walk_at "wp"
    refine ⟨ty, fun c => ⟨st0 i (by omega), bad (by unfold okR; rw [c]; rfl)⟩, fun c => ?_⟩
    obtain ⟨r, rfl, g1, g2, g3⟩ := rowK_qu.enc _ _ c
    have nar2 : ∀ {Q : List D → Prop}, Q [D.str r.1, D.str r.2.1, D.int r.2.2] → narrow (fun d : D => d) (eTL fun d : D => d) (eSr r) Q X := fun z => ⟨[D.str r.1, D.str r.2.1, D.int r.2.2], rfl, z⟩
    have fin : (0 < i → r.2.2 ≠ 1) → Q (.nx (r.2.2 + 1)) := fun z => k _ ⟨pre ++ [r], by rw [take_snoc hd, e1, List.map_append]; rfl, by rw [List.length_append, e2]; rfl, ch.snoc g1 g2 g3 fun y => z (by omega), (endM_snoc (dr := fun r : Sr => r.2.2)).symm⟩
    refine ⟨fun ci => nar2 (getI_n (x := D.int r.2.2) (by decide) rfl ?_), fun ci => nar2 (getI_n (x := D.int r.2.2) (by decide) rfl ⟨r.2.2, rfl, fin fun y => absurd (by omega) ci⟩)⟩
    rw [eq_ii]
    refine ⟨fun c3 => ⟨st0 i (by omega), bad ?_⟩, fun c3 => nar2 (getI_n (x := D.int r.2.2) (by decide) rfl ⟨r.2.2, rfl, fin fun _ => of_decide_eq_false c3⟩)⟩
    unfold okR
    rw [rowK_qu.dpe, c3, decide_eq_true (show 0 < i by omega)]
    simp
  · rintro s ⟨pre, e1, e2, ch, rfl⟩
    rw [enumL_len] at e1 e2
    rw [List.take_length] at e1
    subst e1
    rw [List.length_map] at q1 e2
    have hp0 : pre ≠ [] := fun z => hne (by rw [z]; rfl)
    obtain ⟨d1, d2, d3⟩ := chG_dv ch hp0
    have c2 : pre.length ≤ 100 := by rw [List.length_map] at c2; omega
    obtain ⟨q7, q8⟩ := q6 hne (by rw [List.length_map]; exact c2) (scan_good (top := 30) rowK_qu ch)
    rw [List.length_map] at q7
    have cut : ∀ {Q : List Int → Prop}, Q (qds pre) → lcM (pre.map eSr) (fun _ => pure true) (fun x => narrow (fun d : D => d) (eTL fun d : D => d) x >>= fun a => getI a 2 >>= narrow (fun d : D => d) D.int) Q X := fun {Q} z => lcM_comp (lcM_filter (fun _ => true) (fun r => r.2.2) (fun _ _ _ y => y) (fun r _ _ Q y => ⟨[D.str r.1, D.str r.2.1, D.int r.2.2], rfl, getI_n (x := D.int r.2.2) (by decide) rfl ⟨r.2.2, rfl, y⟩⟩) (by rw [List.filter_eq_self.mpr fun _ _ => rfl]; exact z))
    rw [aft_nx]
    walk_at "wp"
    refine nar ⟨hw, fun c => ⟨fun z => absurd z (by decide), q7 (by rw [List.length_map] at c; exact c)⟩, fun c => nar ⟨pre, by simp [eTL], ?_⟩⟩
    obtain ⟨i, rfl, i0, i1⟩ := withinD_e c
    obtain ⟨g, rfl⟩ := nat_of i0
    rw [List.length_map] at i1
    have ok : QuOk pre g := ⟨List.length_pos_iff.mpr hp0, c2, fun r hr => (d1 r hr).1, fun r hr => (d1 r hr).2, d3, d2, by omega⟩
    refine ⟨(g : Int), rfl, nar ⟨by rw [List.length_map]; omega, lcM_comp (lcM_filter (fun _ => true) (fun r => stOf r.1 r.2.1) (fun _ _ _ y => y) (fun r _ _ Q y => ⟨[D.str r.1, D.str r.2.1, D.int r.2.2], rfl, getI_n (x := D.str r.1) (by decide) rfl ⟨r.1, rfl, ⟨[D.str r.1, D.str r.2.1, D.int r.2.2], rfl, getI_n (x := D.str r.2.1) (by decide) rfl ⟨r.2.1, rfl, y⟩⟩⟩⟩) ?_)⟩⟩
    rw [List.filter_eq_self.mpr fun _ _ => rfl]
    refine nar ⟨by rw [List.length_map]; omega, cut ⟨ok.dv, by rw [qds_len]; omega, fun es hes => nar ⟨by rw [List.length_map]; omega, cut ⟨ok.dv, by rw [qds_len]; omega, fun us hus => ?_⟩⟩⟩⟩
    exact ⟨⟨pre, g, es, us, ok, hes, hus⟩, rfl, q8 _ rfl rfl⟩
theorem old_Question_init (K : PySem.W.Frag) : ∀ vs H Q E, sp_Question_init K vs H Q E → spx_Question_init K vs H Q fun _ _ _ => False := by
  refine spMk_old (fun q => (((eL (eT3 D.str D.str D.int)) q.1), (D.int q.2.1), ())) (fun _ => rfl) ?_
  rintro ⟨rows, wanted, ⟨⟩⟩ P X h
  change (∃ g : Nat, wanted = (g : Int) ∧ QuOk rows g ∧ ∀ q : QuT, q.rows = rows → q.g = g → P q) at h
  change (fun (X : Exn → Prop) => ((fun (rows : Va.D) (wanted : Va.D) => (tyD rows ≠ none ∧ tyD wanted ≠ none ∧ ((∀ ds, rows ≠ .lst ds) → X ⟨"NoQuestion", .int 0⟩) ∧ ∀ ds, rows = .lst ds → ds.length ≤ 1000 ∧ (∀ d ∈ ds, TyQ d) ∧ (ds = [] → X ⟨"NoQuestion", .int 0⟩) ∧ (100 < ds.length → X ⟨"TooMany", .int ds.length⟩) ∧ (ds.length ≤ 100 → ∀ k : Nat, scanQu ds = some k → X ⟨"NoQuestion", .int k⟩) ∧ (ds ≠ [] → ds.length ≤ 100 → scanQu ds = none → (withinD wanted 0 ((ds.length : Int) - 1) = false → X ⟨"NoWanted", wanted⟩) ∧ ∀ q : QuT, ds = q.rows.map eSr → wanted = .int (q.g : Int) → P q))) ((eL (eT3 D.str D.str D.int)) rows) (D.int wanted))) (fun _ => False)
  obtain ⟨g, rfl, ok, h⟩ := h
  have hm := ok.most
  have hg := ok.goal
  refine ⟨fun z => (nomatch z), fun z => (nomatch z), fun z => absurd rfl (z _), fun ds e => ?_⟩
  have e : D.lst (rows.map eSr) = .lst ds := e
  cases e
  rw [List.length_map]
  refine ⟨by omega, fun d hd => ?_, fun z => ?_, fun z => by omega, fun _ k z => ?_, fun _ _ _ => ⟨fun z => ?_, fun q eq eg => h q ?_ ?_⟩⟩
  · obtain ⟨r, hr, rfl⟩ := List.mem_map.mp hd
    exact tyQ_qu (ok.lab r hr)
  · have := ok.one
    rw [List.map_eq_nil_iff.mp z] at this
    exact absurd this (by decide)
  · exact absurd ((scan_good (top := 30) rowK_qu (quOk_ch ok)).symm.trans z) fun y => (nomatch y)
  · exact not_within (len := rows.length) (i := (g : Int)) (by omega) (by omega) z
  · exact (List.map_inj_right (f := eSr) fun a b e => by obtain ⟨a1, a2, a3⟩ := a; obtain ⟨b1, b2, b3⟩ := b; cases e; rfl).mp eq.symm
  · injection eg with eg; omega
theorem sc_law_told : FnScope ["_law_rows_here", "_law_wanted", "_law_found", "e"] ["_law_rows_here", "_law_wanted"] (defScope st_law_told) := ⟨rfl, rfl, rfl, by decide +kernel, rfl, by decide +kernel, by decide +kernel⟩
theorem ok_law_told {f : Addr} {fd : FuncData} (T : Txt K mg) (F : FnP K "_law_told" "_law_told" st_law_told f fd) (G_Question_many : Mt P w K mg base CX0 1 (He.ga K "Question") "many" ["self"] (sp_Question_many K)) (MX_Question : Mkr P w K mg base (L2.CX P w) 4 (He.ga K "Question") "Question" ["self", "rows", "wanted"] (spx_Question_init K)) : FnOk P w K mg base CX0 6 f fd ["_law_rows_here", "_law_wanted"] (sp_law_told K) := by
  refine F.ok sc_law_told (fun vs H Q E h => spC_len h fun _ => rfl) (fun cdv A outer s H vs Q E hr h => ?_)
  refine ⟨_, PSs.nox (pss_cons (ps_set (i := 2) sc_law_told.nd rfl (Or.inl rfl) pe_non)
      (pss_cons (ps_tryM rfl rfl sc_law_told.nd takes_none5 (fun W pn xe tk po => (pss_cons (ps_set (i := 2) sc_law_told.nd rfl (Or.inl rfl) (pe_lst (pa_cons pe_str (pa_cons (pe_methF0 (pe_makeFS MX_Question (hr.mono (by decide)) tk (pa_cons (pv 0) (pa_cons (pv 1) pa_nil))) G_Question_many (hr.mono (by decide)) pass0) pa_nil)))) pss_nil)) (.as_ (i := 3) ⟨rfl, by decide, .inl T.glo_NoQuestion⟩ rfl rfl (fun a oe cls d pn hz hf => (pss_cons (ps_set (i := 2) sc_law_told.nd rfl (Or.inl rfl) (pe_lst (pa_cons pe_str (pa_cons (pe_xfA hz hf (pv 3)) (pa_cons (pe_callB (call_isA hz hf) rfl T.free_isinstance (by decide +kernel) (pa_cons (pv 3) (pa_cons (pe_glob (v := .ref (He.ga _ "BoughError")) rfl T.glo_BoughError rfl) pa_nil))) (pa_cons (pe_callB (call_isA hz hf) rfl T.free_isinstance (by decide +kernel) (pa_cons (pv 3) (pa_cons (pe_bltn (v := .ty "ValueError") rfl T.free_ValueError (by decide +kernel) rfl) pa_nil))) (pa_cons (pe_callB (call_isA hz hf) rfl T.free_isinstance (by decide +kernel) (pa_cons (pv 3) (pa_cons (pe_glob (v := .ref (He.ga _ "TooMany")) rfl T.glo_TooMany rfl) pa_nil))) pa_nil))))))) pss_nil)) (.as_ (i := 3) ⟨rfl, by decide, .inl T.glo_TooMany⟩ rfl rfl (fun a oe cls d pn hz hf => (pss_cons (ps_set (i := 2) sc_law_told.nd rfl (Or.inl rfl) (pe_lst (pa_cons pe_str (pa_cons (pe_xfA hz hf (pv 3)) (pa_cons (pe_callB (call_isA hz hf) rfl T.free_isinstance (by decide +kernel) (pa_cons (pv 3) (pa_cons (pe_glob (v := .ref (He.ga _ "BoughError")) rfl T.glo_BoughError rfl) pa_nil))) (pa_cons (pe_callB (call_isA hz hf) rfl T.free_isinstance (by decide +kernel) (pa_cons (pv 3) (pa_cons (pe_bltn (v := .ty "ValueError") rfl T.free_ValueError (by decide +kernel) rfl) pa_nil))) (pa_cons (pe_callB (call_isA hz hf) rfl T.free_isinstance (by decide +kernel) (pa_cons (pv 3) (pa_cons (pe_glob (v := .ref (He.ga _ "NoStep")) rfl T.glo_NoStep rfl) pa_nil))) pa_nil))))))) pss_nil)) (.as_ (i := 3) ⟨rfl, by decide, .inl T.glo_NoWanted⟩ rfl rfl (fun a oe cls d pn hz hf => (pss_cons (ps_set (i := 2) sc_law_told.nd rfl (Or.inl rfl) (pe_lst (pa_cons pe_str (pa_cons (pe_xfA hz hf (pv 3)) (pa_cons (pe_callB (call_isA hz hf) rfl T.free_isinstance (by decide +kernel) (pa_cons (pv 3) (pa_cons (pe_glob (v := .ref (He.ga _ "BoughError")) rfl T.glo_BoughError rfl) pa_nil))) (pa_cons (pe_callB (call_isA hz hf) rfl T.free_isinstance (by decide +kernel) (pa_cons (pv 3) (pa_cons (pe_bltn (v := .ty "ValueError") rfl T.free_ValueError (by decide +kernel) rfl) pa_nil))) (pa_cons (pe_callB (call_isA hz hf) rfl T.free_isinstance (by decide +kernel) (pa_cons (pv 3) (pa_cons (pe_glob (v := .ref (He.ga _ "NoStep")) rfl T.glo_NoStep rfl) pa_nil))) pa_nil))))))) pss_nil)) .nil))))
      (pss_cons (ps_ret (pv 2)) pss_nil))), fn_run (N := ["_law_rows_here", "_law_wanted", "_law_found", "e"]) (c := c_law_told) h (fun _ => (by decide : 2 ≤ 4)) (fun q => (rb_set (en := (fun d : Va.D => d)) 2 (RG.map (en' := (fun d : Va.D => d)) eU re_non (fun _ => rfl)) (fun found_1 => (rb_try (S := Va.D) (fun s_2 : Va.D => [.sh ((fun d : Va.D => d) q.1), .sh ((fun d : Va.D => d) q.2.1), .sh ((fun d : Va.D => d) s_2), .no]) [.sh ((fun d : Va.D => d) q.1), .sh ((fun d : Va.D => d) q.2.1), .no, .no] (fun z => nomatch z) (fun W => (rb_set (en := (fun d : Va.D => d)) 2 (RG.map (en' := (fun d : Va.D => d)) (eL (fun d : Va.D => d)) (RG.fe (rf_lst (en := (fun d : Va.D => d)) (rl_cons (RG.map (en' := (fun d : Va.D => d)) D.str (re_str "good") (fun _ => rfl)) (rl_cons (RG.map (en' := (fun d : Va.D => d)) D.int (rg_meth (gs := quG) (fun _ => rfl) (fun _ => rfl) (re_makeS (ra_cons (en := (fun d : Va.D => d)) (re_var (en := (fun d : Va.D => d)) (x := q.1) 0) (ra_cons (en := (fun d : Va.D => d)) (re_var (en := (fun d : Va.D => d)) (x := q.2.1) 1) ra_nil))) ra_nil (fun _ _ _ h => h)) (fun _ => rfl)) rl_nil)))) (fun _ => rfl)) (fun found_3 => (rb_nilT (S := Va.D) ((found_3)) (le_cons (le_cons (le_cons (le_no le_nil)))))))) (rh_as "NoQuestion" 3 T.xc (by decide) (fun a_3 cls_3 d_3 x_3 => (rb_set (en := (fun d : Va.D => d)) 2 (RG.map (en' := (fun d : Va.D => d)) (eL (fun d : Va.D => d)) (RG.fe (rf_lst (en := (fun d : Va.D => d)) (rl_cons (RG.map (en' := (fun d : Va.D => d)) D.str (re_str "question") (fun _ => rfl)) (rl_cons (re_xf "row" 3 T.xc) (rl_cons (RG.map (en' := (fun d : Va.D => d)) D.bl (re_isE "BoughError" 3 T.xc (by decide)) (fun _ => rfl)) (rl_cons (RG.map (en' := (fun d : Va.D => d)) D.bl (re_isEV 3 T.xc) (fun _ => rfl)) (rl_cons (RG.map (en' := (fun d : Va.D => d)) D.bl (re_isE "TooMany" 3 T.xc (by decide)) (fun _ => rfl)) rl_nil))))))) (fun _ => rfl)) (fun found_5 => (rb_nilT (S := Va.D) ((found_5)) (le_cons (le_cons (le_cons (le_no le_nil)))))))) (rh_as "TooMany" 3 T.xc (by decide) (fun a_5 cls_5 d_5 x_5 => (rb_set (en := (fun d : Va.D => d)) 2 (RG.map (en' := (fun d : Va.D => d)) (eL (fun d : Va.D => d)) (RG.fe (rf_lst (en := (fun d : Va.D => d)) (rl_cons (RG.map (en' := (fun d : Va.D => d)) D.str (re_str "many") (fun _ => rfl)) (rl_cons (re_xf "found" 3 T.xc) (rl_cons (RG.map (en' := (fun d : Va.D => d)) D.bl (re_isE "BoughError" 3 T.xc (by decide)) (fun _ => rfl)) (rl_cons (RG.map (en' := (fun d : Va.D => d)) D.bl (re_isEV 3 T.xc) (fun _ => rfl)) (rl_cons (RG.map (en' := (fun d : Va.D => d)) D.bl (re_isE "NoStep" 3 T.xc (by decide)) (fun _ => rfl)) rl_nil))))))) (fun _ => rfl)) (fun found_7 => (rb_nilT (S := Va.D) ((found_7)) (le_cons (le_cons (le_cons (le_no le_nil)))))))) (rh_as "NoWanted" 3 T.xc (by decide) (fun a_7 cls_7 d_7 x_7 => (rb_set (en := (fun d : Va.D => d)) 2 (RG.map (en' := (fun d : Va.D => d)) (eL (fun d : Va.D => d)) (RG.fe (rf_lst (en := (fun d : Va.D => d)) (rl_cons (RG.map (en' := (fun d : Va.D => d)) D.str (re_str "wanted") (fun _ => rfl)) (rl_cons (re_xf "found" 3 T.xc) (rl_cons (RG.map (en' := (fun d : Va.D => d)) D.bl (re_isE "BoughError" 3 T.xc (by decide)) (fun _ => rfl)) (rl_cons (RG.map (en' := (fun d : Va.D => d)) D.bl (re_isEV 3 T.xc) (fun _ => rfl)) (rl_cons (RG.map (en' := (fun d : Va.D => d)) D.bl (re_isE "NoStep" 3 T.xc (by decide)) (fun _ => rfl)) rl_nil))))))) (fun _ => rfl)) (fun found_9 => (rb_nilT (S := Va.D) ((found_9)) (le_cons (le_cons (le_cons (le_no le_nil)))))))) rh_never))) (fun s_2 => (rb_retE (en := (fun d : Va.D => d)) (re_var (en := (fun d : Va.D => d)) (x := s_2) 2))))))) ?_⟩
  rintro ⟨rows_here, wanted, ⟨⟩⟩ P X h
  change (TellQ rows_here wanted P) at h
  obtain ⟨h1, hw, h2, h3⟩ := h
  walk_at "wpj"
  refine ⟨h1, hw, fun z => ?_, fun ds e => ?_⟩
  · simp (decide := true) [isX, exField]
    exact h2 z
  obtain ⟨q1, q2, q3, q4, q5, q6⟩ := h3 ds e
  refine ⟨q1, q2, fun z => ?_, fun z => ?_, fun z k hk => ?_, fun y1 y2 y3 => ⟨fun z => ?_, fun q hq eg => ?_⟩⟩
  · simp (decide := true) [isX, exField]
    exact q3 z
  · simp (decide := true) [isX, exField]
    exact q4 z
  · simp (decide := true) [isX, exField]
    exact q5 z k hk
  · simp (decide := true) [isX, exField]
    exact (q6 y1 y2 y3).1 z
  · have := (q6 y1 y2 y3).2 q.g eg (by rw [hq, List.length_map]; exact q.ok.goal)
    rw [hq, List.length_map] at this
    exact this
theorem sc_law_due : FnScope ["_law_word", "_law_thing"] ["_law_word", "_law_thing"] (defScope st_law_due) := ⟨rfl, rfl, rfl, by decide +kernel, rfl, by decide +kernel, by decide +kernel⟩
theorem ok_law_due {f : Addr} {fd : FuncData} (T : Txt K mg) (F : FnP K "_law_due" "_law_due" st_law_due f fd)  : FnOkG P w K mg base CX0 1 f fd ["_law_word", "_law_thing"] (sp_law_due K) := by
  refine fd_okG F sc_law_due (fun vs H Q E h => spC_len h fun _ => rfl) (fun cdv A outer s H vs Q E hr gd h => ?_)
  refine ⟨_, PSs.nox (pss_cons (ps_ret (pe_callB (call_reprV gd (un_of hr)) rfl T.free_repr (by decide +kernel) (pa_cons (pe_lst (pa_cons (pv 0) (pa_cons (pv 1) (pa_cons pe_bl (pa_cons pe_bl (pa_cons pe_bl pa_nil)))))) pa_nil))) pss_nil), fn_run (N := ["_law_word", "_law_thing"]) (c := c_law_due) h (fun _ => (by decide : 2 ≤ 2)) (fun q => (rb_retE (en := D.str) (re_repr (RG.fe (rf_lst (en := (fun d : Va.D => d)) (rl_cons (RG.map (en' := (fun d : Va.D => d)) D.str (re_var (en := D.str) (x := q.1) 0) (fun _ => rfl)) (rl_cons (re_var (en := (fun d : Va.D => d)) (x := q.2.1) 1) (rl_cons (RG.map (en' := (fun d : Va.D => d)) D.bl (re_bl true) (fun _ => rfl)) (rl_cons (RG.map (en' := (fun d : Va.D => d)) D.bl (re_bl true) (fun _ => rfl)) (rl_cons (RG.map (en' := (fun d : Va.D => d)) D.bl (re_bl false) (fun _ => rfl)) rl_nil)))))))))) ?_⟩
  rintro ⟨word, thing, ⟨⟩⟩ P X h
  change (reprM (msgD word thing) P X) at h
  walk_at "wp"
  exact h
theorem sc_law_bad : FnScope ["_law_row", "_law_place", "_law_ahead", "_law_number", "_law_way", "_law_label", "_law_depth_here", "_law_ways", "_law_labels_here", "_law_depths", "_law_sort", "_law_some"] ["_law_row", "_law_place", "_law_ahead", "_law_number"] (defScope st_law_bad) := ⟨rfl, rfl, rfl, by decide +kernel, rfl, by decide +kernel, by decide +kernel⟩
theorem ok_law_bad {f : Addr} {fd : FuncData} (T : Txt K mg) (F : FnP K "_law_bad" "_law_bad" st_law_bad f fd)  : FnOk P w K mg base CX0 1 f fd ["_law_row", "_law_place", "_law_ahead", "_law_number"] (sp_law_bad K) := by
  refine F.ok sc_law_bad (fun vs H Q E h => spC_len h fun _ => rfl) (fun cdv A outer s H vs Q E hr h => ?_)
  refine ⟨_, PSs.nox (pss_cons (ps_asg (pv 0) (pg_tup rfl (pgs_cons (pg_name (i := 4) sc_law_bad.nd rfl (Or.inl rfl)) (pgs_cons (pg_name (i := 5) sc_law_bad.nd rfl (Or.inl rfl)) (pgs_cons (pg_name (i := 6) sc_law_bad.nd rfl (Or.inl rfl)) pgs_nil)))))
      (pss_cons (ps_set (i := 7) sc_law_bad.nd rfl (Or.inl rfl) (pe_lst (pa_cons pe_str (pa_cons pe_str (pa_cons pe_str (pa_cons pe_str (pa_cons pe_int (pa_cons pe_non (pa_cons (pe_lst (pa_cons pe_str pa_nil)) (pa_cons (pe_tup (pa_cons pe_str pa_nil)) (pa_cons pe_bl (pa_cons pe_str pa_nil))))))))))))
      (pss_cons (ps_set (i := 8) sc_law_bad.nd rfl (Or.inl rfl) (pe_lst (pa_cons pe_str (pa_cons pe_str (pa_cons pe_str (pa_cons pe_str (pa_cons pe_str (pa_cons pe_int (pa_cons pe_non (pa_cons (pe_lst (pa_cons pe_str pa_nil)) (pa_cons (pe_tup (pa_cons pe_str pa_nil)) (pa_cons pe_bl pa_nil))))))))))))
      (pss_cons (ps_set (i := 9) sc_law_bad.nd rfl (Or.inl rfl) (pe_lst (pa_cons pe_int (pa_cons (pe_un un_neg pe_int) (pa_cons pe_int (pa_cons (pe_op op_add (pv 2) pe_int) (pa_cons (pe_op op_add (pv 2) pe_int) (pa_cons pe_int (pa_cons (pe_op op_pow pe_int pe_int) (pa_cons pe_bl (pa_cons pe_str (pa_cons pe_non (pa_cons (pe_lst (pa_cons pe_int pa_nil)) (pa_cons (pe_tup (pa_cons pe_int pa_nil)) pa_nil))))))))))))))
      (pss_cons (ps_if (pt_cmpR op_eq (pv 1) pe_int (nomark _))
      (pss_cons (ps_asg pe_int (pg_sub (pv 9) pe_int set_list)) pss_nil)
      pss_nil)
      (pss_cons (ps_set (i := 10) sc_law_bad.nd rfl (Or.inl rfl) (pe_op op_mod (pv 3) pe_int))
      (pss_cons (ps_if (pt_cmpR op_eq (pv 10) pe_int (nomark _))
      (pss_cons (ps_ret (pe_tup (pa_cons (pe_ix ix_list (pv 7) (pe_op op_mod (pe_op op_fdiv (pv 3) pe_int) pe_int) (fun _ _ => rfl)) (pa_cons (pv 5) (pa_cons (pv 6) pa_nil))))) pss_nil)
      pss_nil)
      (pss_cons (ps_if (pt_cmpR op_eq (pv 10) pe_int (nomark _))
      (pss_cons (ps_ret (pe_tup (pa_cons (pv 4) (pa_cons (pe_ix ix_list (pv 8) (pe_op op_mod (pe_op op_fdiv (pv 3) pe_int) pe_int) (fun _ _ => rfl)) (pa_cons (pv 6) pa_nil))))) pss_nil)
      pss_nil)
      (pss_cons (ps_if (pt_cmpR op_lt (pv 10) pe_int (nomark _))
      (pss_cons (ps_ret (pe_tup (pa_cons (pv 4) (pa_cons (pv 5) (pa_cons (pe_ix ix_list (pv 9) (pe_op op_mod (pe_op op_fdiv (pv 3) pe_int) pe_int) (fun _ _ => rfl)) pa_nil))))) pss_nil)
      pss_nil)
      (pss_cons (ps_set (i := 11) sc_law_bad.nd rfl (Or.inl rfl) (pe_lst (pa_cons (pe_tup (pa_cons (pv 4) (pa_cons (pv 5) pa_nil))) (pa_cons (pe_tup (pa_cons (pv 5) (pa_cons (pv 6) pa_nil))) (pa_cons (pe_tup (pa_cons (pv 4) (pa_cons (pv 5) (pa_cons (pv 6) (pa_cons (pv 6) pa_nil))))) (pa_cons (pe_lst (pa_cons (pv 4) (pa_cons (pv 5) (pa_cons (pv 6) pa_nil)))) (pa_cons (pe_tup (pa_cons (pv 5) (pa_cons (pv 4) (pa_cons (pv 6) pa_nil)))) pa_nil)))))))
      (pss_cons (ps_ret (pe_ix ix_list (pe_op op_cat (pv 11) (pe_lst (pa_cons pe_non (pa_cons pe_int (pa_cons pe_str (pa_cons pe_dnewK (pa_cons (pe_tup pa_nil) pa_nil))))))) (pe_op op_mod (pe_op op_fdiv (pv 3) pe_int) pe_int) (fun _ _ => rfl))) pss_nil))))))))))), fn_run (N := ["_law_row", "_law_place", "_law_ahead", "_law_number", "_law_way", "_law_label", "_law_depth_here", "_law_ways", "_law_labels_here", "_law_depths", "_law_sort", "_law_some"]) (c := c_law_bad) h (fun _ => (by decide : 4 ≤ 12)) (fun q => (rb_unp (re_var (en := (eT3 D.str D.str D.int)) (x := q.1) 0) (tg_tri (e1 := D.str) (e2 := D.str) (e3 := D.int) 4 5 6) (fun u_1 => (rb_set (en := (eL (fun d : Va.D => d))) 7 (RG.fe (rf_lst (en := (fun d : Va.D => d)) (rl_cons (RG.map (en' := (fun d : Va.D => d)) D.str (re_str "") (fun _ => rfl)) (rl_cons (RG.map (en' := (fun d : Va.D => d)) D.str (re_str "///") (fun _ => rfl)) (rl_cons (RG.map (en' := (fun d : Va.D => d)) D.str (re_str "/ ") (fun _ => rfl)) (rl_cons (RG.map (en' := (fun d : Va.D => d)) D.str (re_str "a") (fun _ => rfl)) (rl_cons (RG.map (en' := (fun d : Va.D => d)) D.int (re_int 5) (fun _ => rfl)) (rl_cons (RG.map (en' := (fun d : Va.D => d)) eU re_non (fun _ => rfl)) (rl_cons (RG.map (en' := (fun d : Va.D => d)) (eL D.str) (RG.fe (rf_lst (en := D.str) (rl_cons (re_str "/") rl_nil))) (fun _ => rfl)) (rl_cons (RG.map (en' := (fun d : Va.D => d)) (eT1 D.str) (re_tup1 (re_str "/")) (fun _ => rfl)) (rl_cons (RG.map (en' := (fun d : Va.D => d)) D.bl (re_bl true) (fun _ => rfl)) (rl_cons (RG.map (en' := (fun d : Va.D => d)) D.str (re_str "\\") (fun _ => rfl)) rl_nil)))))))))))) (fun ways_2 => (rb_set (en := (eL (fun d : Va.D => d))) 8 (RG.fe (rf_lst (en := (fun d : Va.D => d)) (rl_cons (RG.map (en' := (fun d : Va.D => d)) D.str (re_str "") (fun _ => rfl)) (rl_cons (RG.map (en' := (fun d : Va.D => d)) D.str (re_str "A") (fun _ => rfl)) (rl_cons (RG.map (en' := (fun d : Va.D => d)) D.str (re_str "a1") (fun _ => rfl)) (rl_cons (RG.map (en' := (fun d : Va.D => d)) D.str (re_str "abcdefghi") (fun _ => rfl)) (rl_cons (RG.map (en' := (fun d : Va.D => d)) D.str (re_str "a b") (fun _ => rfl)) (rl_cons (RG.map (en' := (fun d : Va.D => d)) D.int (re_int 5) (fun _ => rfl)) (rl_cons (RG.map (en' := (fun d : Va.D => d)) eU re_non (fun _ => rfl)) (rl_cons (RG.map (en' := (fun d : Va.D => d)) (eL D.str) (RG.fe (rf_lst (en := D.str) (rl_cons (re_str "a") rl_nil))) (fun _ => rfl)) (rl_cons (RG.map (en' := (fun d : Va.D => d)) (eT1 D.str) (re_tup1 (re_str "a")) (fun _ => rfl)) (rl_cons (RG.map (en' := (fun d : Va.D => d)) D.bl (re_bl true) (fun _ => rfl)) rl_nil)))))))))))) (fun labels_here_3 => (rb_own (en := (fun d : Va.D => d)) 9 (rf_lst (en := (fun d : Va.D => d)) (rl_cons (RG.map (en' := (fun d : Va.D => d)) D.int (re_int 0) (fun _ => rfl)) (rl_cons (RG.map (en' := (fun d : Va.D => d)) D.int (re_neg (re_int 1)) (fun _ => rfl)) (rl_cons (RG.map (en' := (fun d : Va.D => d)) D.int (re_int 1) (fun _ => rfl)) (rl_cons (RG.map (en' := (fun d : Va.D => d)) D.int (re_add (re_var (en := D.int) (x := q.2.2.1) 2) (re_int 2)) (fun _ => rfl)) (rl_cons (RG.map (en' := (fun d : Va.D => d)) D.int (re_add (re_var (en := D.int) (x := q.2.2.1) 2) (re_int 3)) (fun _ => rfl)) (rl_cons (RG.map (en' := (fun d : Va.D => d)) D.int (re_int 31) (fun _ => rfl)) (rl_cons (RG.map (en' := (fun d : Va.D => d)) D.int (re_bnd (re_int 10) (re_int 30)) (fun _ => rfl)) (rl_cons (RG.map (en' := (fun d : Va.D => d)) D.bl (re_bl true) (fun _ => rfl)) (rl_cons (RG.map (en' := (fun d : Va.D => d)) D.str (re_str "1") (fun _ => rfl)) (rl_cons (RG.map (en' := (fun d : Va.D => d)) eU re_non (fun _ => rfl)) (rl_cons (RG.map (en' := (fun d : Va.D => d)) (eL D.int) (RG.fe (rf_lst (en := D.int) (rl_cons (re_int 1) rl_nil))) (fun _ => rfl)) (rl_cons (RG.map (en' := (fun d : Va.D => d)) (eT1 D.int) (re_tup1 (re_int 1)) (fun _ => rfl)) rl_nil))))))))))))) (fun depths_4 => (rb_ifS (S := (List Va.D)) (fun s_5 : (List Va.D) => [.sh ((eT3 D.str D.str D.int) q.1), .sh (D.int q.2.1), .sh (D.int q.2.2.1), .sh (D.int q.2.2.2.1), .sh (D.str u_1.1), .sh (D.str u_1.2.1), .sh (D.int u_1.2.2), .sh ((eL (fun d : Va.D => d)) ways_2), .sh ((eL (fun d : Va.D => d)) labels_here_3), .ow (.lst (List.map (fun d : Va.D => d) s_5)), .no, .no]) (rt_test (re_eq (re_var (en := D.int) (x := q.2.1) 1) (re_int 0))) (rb_setI (en := (fun d : Va.D => d)) (l := depths_4) 9 (RG.map (en' := (fun d : Va.D => d)) D.int (re_int 2) (fun _ => rfl)) (re_int 2) (fun depths_6 => (rb_nil (s := ((depths_6) : (List Va.D))) (le_cons (le_cons (le_cons (le_cons (le_cons (le_cons (le_cons (le_cons (le_cons (le_cons (le_no (le_no le_nil))))))))))))))) (rb_nil (s := ((depths_4) : (List Va.D))) (le_cons (le_cons (le_cons (le_cons (le_cons (le_cons (le_cons (le_cons (le_cons (le_cons (le_no (le_no le_nil))))))))))))) (fun s_5 => (rb_set (en := D.int) 10 (re_bnd (re_var (en := D.int) (x := q.2.2.2.1) 3) (re_int 5)) (fun sort_7 => (rb_if (S := Unit) (ρj := (fun s_8 : Unit => [.sh ((eT3 D.str D.str D.int) q.1), .sh (D.int q.2.1), .sh (D.int q.2.2.1), .sh (D.int q.2.2.2.1), .sh (D.str u_1.1), .sh (D.str u_1.2.1), .sh (D.int u_1.2.2), .sh ((eL (fun d : Va.D => d)) ways_2), .sh ((eL (fun d : Va.D => d)) labels_here_3), .ow (.lst (List.map (fun d : Va.D => d) s_5)), .sh (D.int sort_7), .no])) (rt_test (re_eq (re_var (en := D.int) (x := sort_7) 10) (re_int 0))) (rb_retE (en := (fun d : Va.D => d)) (RG.map (en' := (fun d : Va.D => d)) (eT3 (fun d : Va.D => d) D.str D.int) (re_tup3 (re_ixL (RG.eq (re_var (en := (eL (fun d : Va.D => d))) (x := ways_2) 7)) (re_bnd (re_bnd (re_var (en := D.int) (x := q.2.2.2.1) 3) (re_int 5)) (re_int 10))) (re_var (en := D.str) (x := u_1.2.1) 5) (re_var (en := D.int) (x := u_1.2.2) 6)) (fun _ => rfl))) (rb_nil (s := (() : Unit)) (le_cons (le_cons (le_cons (le_cons (le_cons (le_cons (le_cons (le_cons (le_cons (le_cons (le_cons (le_no le_nil))))))))))))) (fun s_8 => (rb_if (S := Unit) (ρj := (fun s_9 : Unit => [.sh ((eT3 D.str D.str D.int) q.1), .sh (D.int q.2.1), .sh (D.int q.2.2.1), .sh (D.int q.2.2.2.1), .sh (D.str u_1.1), .sh (D.str u_1.2.1), .sh (D.int u_1.2.2), .sh ((eL (fun d : Va.D => d)) ways_2), .sh ((eL (fun d : Va.D => d)) labels_here_3), .ow (.lst (List.map (fun d : Va.D => d) s_5)), .sh (D.int sort_7), .no])) (rt_test (re_eq (re_var (en := D.int) (x := sort_7) 10) (re_int 1))) (rb_retE (en := (fun d : Va.D => d)) (RG.map (en' := (fun d : Va.D => d)) (eT3 D.str (fun d : Va.D => d) D.int) (re_tup3 (re_var (en := D.str) (x := u_1.1) 4) (re_ixL (RG.eq (re_var (en := (eL (fun d : Va.D => d))) (x := labels_here_3) 8)) (re_bnd (re_bnd (re_var (en := D.int) (x := q.2.2.2.1) 3) (re_int 5)) (re_int 10))) (re_var (en := D.int) (x := u_1.2.2) 6)) (fun _ => rfl))) (rb_nil (s := (() : Unit)) (le_cons (le_cons (le_cons (le_cons (le_cons (le_cons (le_cons (le_cons (le_cons (le_cons (le_cons (le_no le_nil))))))))))))) (fun s_9 => (rb_if (S := Unit) (ρj := (fun s_10 : Unit => [.sh ((eT3 D.str D.str D.int) q.1), .sh (D.int q.2.1), .sh (D.int q.2.2.1), .sh (D.int q.2.2.2.1), .sh (D.str u_1.1), .sh (D.str u_1.2.1), .sh (D.int u_1.2.2), .sh ((eL (fun d : Va.D => d)) ways_2), .sh ((eL (fun d : Va.D => d)) labels_here_3), .ow (.lst (List.map (fun d : Va.D => d) s_5)), .sh (D.int sort_7), .no])) (rt_test (re_lt (re_var (en := D.int) (x := sort_7) 10) (re_int 4))) (rb_retE (en := (fun d : Va.D => d)) (RG.map (en' := (fun d : Va.D => d)) (eT3 D.str D.str (fun d : Va.D => d)) (re_tup3 (re_var (en := D.str) (x := u_1.1) 4) (re_var (en := D.str) (x := u_1.2.1) 5) (re_ixL (rq_own (en := (fun d : Va.D => d)) (l := s_5) 9) (re_bnd (re_bnd (re_var (en := D.int) (x := q.2.2.2.1) 3) (re_int 5)) (re_int 12)))) (fun _ => rfl))) (rb_nil (s := (() : Unit)) (le_cons (le_cons (le_cons (le_cons (le_cons (le_cons (le_cons (le_cons (le_cons (le_cons (le_cons (le_no le_nil))))))))))))) (fun s_10 => (rb_set (en := (eL (fun d : Va.D => d))) 11 (RG.fe (rf_lst (en := (fun d : Va.D => d)) (rl_cons (RG.map (en' := (fun d : Va.D => d)) (eT2 D.str D.str) (re_tup2 (re_var (en := D.str) (x := u_1.1) 4) (re_var (en := D.str) (x := u_1.2.1) 5)) (fun _ => rfl)) (rl_cons (RG.map (en' := (fun d : Va.D => d)) (eT2 D.str D.int) (re_tup2 (re_var (en := D.str) (x := u_1.2.1) 5) (re_var (en := D.int) (x := u_1.2.2) 6)) (fun _ => rfl)) (rl_cons (RG.map (en' := (fun d : Va.D => d)) (eT4 D.str D.str D.int D.int) (re_tup4 (re_var (en := D.str) (x := u_1.1) 4) (re_var (en := D.str) (x := u_1.2.1) 5) (re_var (en := D.int) (x := u_1.2.2) 6) (re_var (en := D.int) (x := u_1.2.2) 6)) (fun _ => rfl)) (rl_cons (RG.map (en' := (fun d : Va.D => d)) (eL (fun d : Va.D => d)) (RG.fe (rf_lst (en := (fun d : Va.D => d)) (rl_cons (RG.map (en' := (fun d : Va.D => d)) D.str (re_var (en := D.str) (x := u_1.1) 4) (fun _ => rfl)) (rl_cons (RG.map (en' := (fun d : Va.D => d)) D.str (re_var (en := D.str) (x := u_1.2.1) 5) (fun _ => rfl)) (rl_cons (RG.map (en' := (fun d : Va.D => d)) D.int (re_var (en := D.int) (x := u_1.2.2) 6) (fun _ => rfl)) rl_nil))))) (fun _ => rfl)) (rl_cons (RG.map (en' := (fun d : Va.D => d)) (eT3 D.str D.str D.int) (re_tup3 (re_var (en := D.str) (x := u_1.2.1) 5) (re_var (en := D.str) (x := u_1.1) 4) (re_var (en := D.int) (x := u_1.2.2) 6)) (fun _ => rfl)) rl_nil))))))) (fun some_11 => (rb_retE (en := (fun d : Va.D => d)) (re_ixL (RG.fq (rf_cat (RG.el (re_var (en := (eL (fun d : Va.D => d))) (x := some_11) 11)) (RG.fl (rf_lst (en := (fun d : Va.D => d)) (rl_cons (RG.map (en' := (fun d : Va.D => d)) eU re_non (fun _ => rfl)) (rl_cons (RG.map (en' := (fun d : Va.D => d)) D.int (re_int 5) (fun _ => rfl)) (rl_cons (RG.map (en' := (fun d : Va.D => d)) D.str (re_str "/ab") (fun _ => rfl)) (rl_cons (RG.map (en' := (fun d : Va.D => d)) (eD (Sum.inl : Int → Key) D.int) (RG.ge (en := (eD (Sum.inl : Int → Key) D.int)) rg_dnew (od_D (od_S D.int))) (fun _ => rfl)) (rl_cons (RG.map (en' := (fun d : Va.D => d)) (eTL (fun d : Va.D => d)) re_tup0 (fun _ => rfl)) rl_nil))))))))) (re_bnd (re_bnd (re_var (en := D.int) (x := q.2.2.2.1) 3) (re_int 5)) (re_int 10))))))))))))))))))))))))) ?_⟩
  rintro ⟨row, place, ahead, number, ⟨⟩⟩ P X h
  change (((row.1 = "/" ∨ row.1 = "//") ∧ labelB row.2.1 = true) ∧ 0 ≤ number ∧ 0 ≤ ahead ∧ 0 ≤ place ∧ (place = 0 → ahead = 0) ∧ ∀ d, TyQ d → BadQ place ahead d → P d) at h
  obtain ⟨⟨hway, hlab⟩, hn, ha, hp, hpa, h⟩ := h
  walk_at "wp"
  have ty3 : ∀ w a b : D, tyD w ≠ none → tyD a ≠ none → tyD b ≠ none → (∀ z, a = .str z → z.length ≤ 100000) → TyQ (.tup [w, a, b]) := fun w a b h0 h1 h2 h3 => ⟨fun z => (nomatch z), fun w' a' b' e => by cases e; exact ⟨⟨h0, h1, h2⟩, h3⟩⟩
  refine ⟨by decide, join_inv (fun l : List D => l.length = 12 ∧ ∀ x ∈ l, tyD x ≠ none ∧ (withinD x 1 (min (ahead + 1) 30) = false ∨ (0 < place ∧ x = .int 1))) (fun Q kq => ?_) ?_⟩
  · walk_at "wp"
    refine ⟨fun c => ?_, fun c => kq _ ⟨rfl, fun x hx => ?_⟩⟩
    · refine ⟨2, rfl, kq _ ⟨rfl, fun x hx => ?_⟩⟩
      have := hpa c
      simp only [List.set, List.mem_cons, List.not_mem_nil, or_false] at hx
      rcases hx with rfl | rfl | rfl | rfl | rfl | rfl | rfl | rfl | rfl | rfl | rfl | rfl <;> refine ⟨fun z => (nomatch z), .inl ?_⟩ <;> first | rfl | (simp [withinD]; omega)
    · simp only [List.mem_cons, List.not_mem_nil, or_false] at hx
      rcases hx with rfl | rfl | rfl | rfl | rfl | rfl | rfl | rfl | rfl | rfl | rfl | rfl <;> refine ⟨fun z => (nomatch z), ?_⟩ <;> first | exact .inr ⟨by omega, rfl⟩ | exact .inl rfl | (refine .inl ?_; simp [withinD]; omega)
  · rintro l ⟨hl, hall⟩
    have hzl := (label_len hlab).2
    have tS : ∀ z, D.str row.2.1 = .str z → z.length ≤ 100000 := fun z e => by cases e; omega
    walk_at "wp"
    refine ⟨fun c => getI_lt (by omega) (by simp; omega) fun x hx => ?_, fun c => ⟨fun c1 => getI_lt (by omega) (by simp; omega) fun x hx => ?_, fun c1 => ⟨fun c2 => getI_lt (by omega) (by omega) fun x hx => ?_, fun c2 => getI_lt (by omega) (by simp; omega) fun x hx => ?_⟩⟩⟩
    · have hm := List.mem_of_getElem? hx
      have key : tyD x ≠ none ∧ wayD x = false := by
        simp only [List.mem_cons, List.not_mem_nil, or_false] at hm
        rcases hm with rfl | rfl | rfl | rfl | rfl | rfl | rfl | rfl | rfl | rfl <;> refine ⟨fun z => (nomatch z), ?_⟩ <;> first | rfl | decide +kernel
      refine h _ (ty3 _ _ _ key.1 (fun z => (nomatch z)) (fun z => (nomatch z)) tS) (.inl ?_)
      show (wayD x && _) = false
      rw [key.2]; rfl
    · have hm := List.mem_of_getElem? hx
      have key : tyD x ≠ none ∧ (∀ z, x = .str z → z.length ≤ 100000) ∧ labelD x = false := by
        simp only [List.mem_cons, List.not_mem_nil, or_false] at hm
        rcases hm with rfl | rfl | rfl | rfl | rfl | rfl | rfl | rfl | rfl | rfl <;> refine ⟨fun z => (nomatch z), ?_, ?_⟩ <;> first | (intro z e; cases e; decide +kernel) | (intro z e; cases e; done) | rfl | decide +kernel
      refine h _ (ty3 _ _ _ (fun z => (nomatch z)) key.1 (fun z => (nomatch z)) key.2.1) (.inl ?_)
      show (_ && (labelD x && _)) = false
      rw [key.2.2]; simp
    · obtain ⟨k1, k2⟩ := hall x (List.mem_of_getElem? hx)
      refine h _ (ty3 _ _ _ (fun z => (nomatch z)) (fun z => (nomatch z)) k1 tS) ?_
      rcases k2 with k2 | ⟨k2, rfl⟩
      · refine .inl ?_
        show (_ && (labelB row.2.1 && withinD x 1 _)) = false
        rw [k2]; simp
      · exact .inr ⟨k2, rfl⟩
    · have hm := List.mem_of_getElem? hx
      simp only [List.cons_append, List.nil_append, List.mem_cons, List.not_mem_nil, or_false] at hm
      have hlw : wayD (.str row.2.1) = false := by
        show decide (row.2.1 = "/" ∨ row.2.1 = "//") = false
        rw [decide_eq_false_iff_not]
        rintro (e | e) <;> rw [e] at hlab <;> exact absurd hlab (by decide +kernel)
      rcases hm with rfl | rfl | rfl | rfl | rfl | rfl | rfl | rfl | rfl | rfl
      · exact h _ ⟨fun z => (nomatch z), fun w a b e => (nomatch e)⟩ (.inl rfl)
      · exact h _ ⟨fun z => (nomatch z), fun w a b e => (nomatch e)⟩ (.inl rfl)
      · exact h _ ⟨fun z => (nomatch z), fun w a b e => (nomatch e)⟩ (.inl rfl)
      · exact h _ ⟨fun z => (nomatch z), fun w a b e => (nomatch e)⟩ (.inl rfl)
      · refine h _ (ty3 _ _ _ (fun z => (nomatch z)) (fun z => (nomatch z)) (fun z => (nomatch z)) fun z e => ?_) (.inl ?_)
        · cases e
          rcases hway with e | e <;> rw [e] <;> decide +kernel
        · show (wayD (.str row.2.1) && _) = false
          rw [hlw]; rfl
      · exact h _ ⟨fun z => (nomatch z), fun w a b e => (nomatch e)⟩ (.inl rfl)
      · exact h _ ⟨fun z => (nomatch z), fun w a b e => (nomatch e)⟩ (.inl rfl)
      · exact h _ ⟨fun z => (nomatch z), fun w a b e => (nomatch e)⟩ (.inl rfl)
      · exact h _ ⟨fun z => (nomatch z), fun w a b e => (nomatch e)⟩ (.inl rfl)
      · exact h _ ⟨fun z => (nomatch z), fun w a b e => (nomatch e)⟩ (.inl rfl)
theorem sc_law_spoiled : FnScope ["_law_rows_here", "_law_source_here", "_law_found", "_law_place", "_law_ahead", "_law_behind"] ["_law_rows_here", "_law_source_here"] (defScope st_law_spoiled) := ⟨rfl, rfl, rfl, by decide +kernel, rfl, by decide +kernel, by decide +kernel⟩
theorem ok_law_spoiled {f : Addr} {fd : FuncData} (T : Txt K mg) (F : FnP K "_law_spoiled" "_law_spoiled" st_law_spoiled f fd) (G_law_take : Fn P w K mg base CX0 1 "_law_take" ["_law_source_here", "_law_many"] (sp_law_take K)) (G_law_bad : Fn P w K mg base CX0 1 "_law_bad" ["_law_row", "_law_place", "_law_ahead", "_law_number"] (sp_law_bad K)) : FnOk P w K mg base CX0 2 f fd ["_law_rows_here", "_law_source_here"] (sp_law_spoiled K) := by
  refine F.ok sc_law_spoiled (fun vs H Q E h => spC_len h fun _ => rfl) (fun cdv A outer s H vs Q E hr h => ?_)
  refine ⟨_, PSs.nox (pss_cons (ps_set (i := 2) sc_law_spoiled.nd rfl (Or.inl rfl) (pe_callTy call_list_of rfl T.free_list (by decide +kernel) (pa_cons (pv 0) pa_nil)))
      (pss_cons (ps_set (i := 3) sc_law_spoiled.nd rfl (Or.inl rfl) (pe_callF G_law_take (hr.mono (by decide)) pass0 (pa_cons (pv 1) (pa_cons (pe_callB call_len rfl T.free_len PySem.boot_len (pa_cons (pv 0) pa_nil)) pa_nil))))
      (pss_cons (ps_set (i := 4) sc_law_spoiled.nd rfl (Or.inl rfl) (pe_ix ix_tup (pe_ix ix_list (pe_op op_cat (pv 0) (pe_lst (pa_cons (pe_tup (pa_cons pe_str (pa_cons pe_str (pa_cons pe_int pa_nil)))) pa_nil))) (pe_op op_sub (pv 3) pe_int) (fun _ _ => rfl)) pe_int (fun _ _ => rfl)))
      (pss_cons (ps_asg (pe_callF G_law_bad (hr.mono (by decide)) pass0 (pa_cons (pe_ix ix_list (pv 0) (pv 3) (fun _ _ => rfl)) (pa_cons (pv 3) (pa_cons (pv 4) (pa_cons (pe_callF G_law_take (hr.mono (by decide)) pass0 (pa_cons (pv 1) (pa_cons pe_int pa_nil))) pa_nil))))) (pg_sub (pv 2) (pv 3) set_list))
      (pss_cons (ps_if (PW.pt (pw_and (pt_cmpR op_eq (pe_callF G_law_take (hr.mono (by decide)) pass0 (pa_cons (pv 1) (pa_cons pe_int pa_nil))) pe_int (nomark _)) (pw_and1 (pt_cmpR op_lt (pe_op op_add (pv 3) pe_int) (pe_callB call_len rfl T.free_len PySem.boot_len (pa_cons (pv 0) pa_nil)) (nomark _)))))
      (pss_cons (ps_set (i := 5) sc_law_spoiled.nd rfl (Or.inl rfl) (pe_op op_add (pe_op op_add (pv 3) pe_int) (pe_callF G_law_take (hr.mono (by decide)) pass0 (pa_cons (pv 1) (pa_cons (pe_op op_sub (pe_op op_sub (pe_callB call_len rfl T.free_len PySem.boot_len (pa_cons (pv 0) pa_nil)) (pv 3)) pe_int) pa_nil)))))
      (pss_cons (ps_asg (pe_callF G_law_bad (hr.mono (by decide)) pass0 (pa_cons (pe_ix ix_list (pv 0) (pv 5) (fun _ _ => rfl)) (pa_cons (pv 5) (pa_cons pe_int (pa_cons (pe_callF G_law_take (hr.mono (by decide)) pass0 (pa_cons (pv 1) (pa_cons pe_int pa_nil))) pa_nil))))) (pg_sub (pv 2) (pv 5) set_list)) pss_nil))
      pss_nil)
      (pss_cons (ps_ret (pe_lst (pa_cons (pv 2) (pa_cons (pv 3) pa_nil)))) pss_nil)))))), fn_run (N := ["_law_rows_here", "_law_source_here", "_law_found", "_law_place", "_law_ahead", "_law_behind"]) (c := c_law_spoiled) h (fun _ => (by decide : 2 ≤ 6)) (fun q => (rb_own (en := (fun d : Va.D => d)) 2 (RG.fm (en' := (fun d : Va.D => d)) (eT3 D.str D.str D.int) (rf_list (RG.eq (re_var (en := (eL (eT3 D.str D.str D.int))) (x := q.1) 0))) (fun _ => rfl)) (fun found_1 => (rb_set (en := D.int) 3 (rg_call (ra_src 1 (ra_cons (en := D.int) (re_len (RG.eq (re_var (en := (eL (eT3 D.str D.str D.int))) (x := q.1) 0))) ra_nil)) (fun _ _ _ h => h)) (fun place_2 => (rb_set (en := D.int) 4 (re_ixT (en' := D.int) (ds := fun a : (Str × Str × Int) => [D.str (a.1), D.str (a.2.1), D.int (a.2.2)]) (fun a : (Str × Str × Int) => a.2.2) 2 (fun _ => rfl) (fun _ => rfl) (re_ixL (RG.fq (rf_cat (RG.el (re_var (en := (eL (eT3 D.str D.str D.int))) (x := q.1) 0)) (RG.fl (rf_lst (en := (eT3 D.str D.str D.int)) (rl_cons (re_tup3 (re_str "/") (re_str "a") (re_int 0)) rl_nil))))) (re_sub (re_var (en := D.int) (x := place_2) 3) (re_int 1)))) (fun ahead_3 => (rb_setI (en := (fun d : Va.D => d)) (l := found_1) 2 (rg_call (ra_cons (en := (eT3 D.str D.str D.int)) (re_ixL (RG.eq (re_var (en := (eL (eT3 D.str D.str D.int))) (x := q.1) 0)) (re_var (en := D.int) (x := place_2) 3)) (ra_cons (en := D.int) (re_var (en := D.int) (x := place_2) 3) (ra_cons (en := D.int) (re_var (en := D.int) (x := ahead_3) 4) (ra_cons (en := D.int) (rg_call (ra_src 1 (ra_cons (en := D.int) (re_int 6000) ra_nil)) (fun _ _ _ h => h)) ra_nil)))) (fun _ _ _ h => h)) (re_var (en := D.int) (x := place_2) 3) (fun found_4 => (rb_ifS (S := (List Va.D)) (fun s_5 : (List Va.D) => [.sh ((eL (eT3 D.str D.str D.int)) q.1), .src, .ow (.lst (List.map (fun d : Va.D => d) s_5)), .sh (D.int place_2), .sh (D.int ahead_3), .no]) (rt_and (rt_test (re_eq (rg_call (ra_src 1 (ra_cons (en := D.int) (re_int 2) ra_nil)) (fun _ _ _ h => h)) (re_int 1))) (rt_test (re_lt (re_add (re_var (en := D.int) (x := place_2) 3) (re_int 1)) (re_len (RG.eq (re_var (en := (eL (eT3 D.str D.str D.int))) (x := q.1) 0)))))) (rb_set (en := D.int) 5 (re_add (re_add (re_var (en := D.int) (x := place_2) 3) (re_int 1)) (rg_call (ra_src 1 (ra_cons (en := D.int) (re_sub (re_sub (re_len (RG.eq (re_var (en := (eL (eT3 D.str D.str D.int))) (x := q.1) 0))) (re_var (en := D.int) (x := place_2) 3)) (re_int 1)) ra_nil)) (fun _ _ _ h => h))) (fun behind_6 => (rb_setI (en := (fun d : Va.D => d)) (l := found_4) 2 (rg_call (ra_cons (en := (eT3 D.str D.str D.int)) (re_ixL (RG.eq (re_var (en := (eL (eT3 D.str D.str D.int))) (x := q.1) 0)) (re_var (en := D.int) (x := behind_6) 5)) (ra_cons (en := D.int) (re_var (en := D.int) (x := behind_6) 5) (ra_cons (en := D.int) (re_int 100) (ra_cons (en := D.int) (rg_call (ra_src 1 (ra_cons (en := D.int) (re_int 6000) ra_nil)) (fun _ _ _ h => h)) ra_nil)))) (fun _ _ _ h => h)) (re_var (en := D.int) (x := behind_6) 5) (fun found_7 => (rb_nil (s := ((found_7) : (List Va.D))) (le_cons (le_cons (le_cons (le_cons (le_cons (le_no le_nil))))))))))) (rb_nil (s := ((found_4) : (List Va.D))) (le_cons (le_cons (le_cons (le_cons (le_cons (le_no le_nil))))))) (fun s_5 => (rb_frz 2 (rb_retE (en := (eL2 (eL (fun d : Va.D => d)) D.int)) (re_lt2 (re_var (en := (eL (fun d : Va.D => d))) (x := s_5) 2) (re_var (en := D.int) (x := place_2) 3))))))))))))))) ?_⟩
  rintro ⟨rows_here, ⟨⟩, ⟨⟩⟩ P X h
  change (∃ g, QuOk rows_here g ∧ ∀ (ds : List D) (p : Nat), ds.length = rows_here.length → (∀ d ∈ ds, TyQ d) → scanQu ds = some p → p < rows_here.length → P (ds, (p : Int))) at h
  obtain ⟨g, ok, h⟩ := h
  have h1 := ok.one
  have hm := ok.most
  have pos : ∀ (k : Nat) (r : Sr), rows_here[k]? = some r → 1 ≤ r.2.2 := fun k r hr => by
    have := ok.dv.pos k (by rw [qds_len]; exact (List.getElem?_eq_some_iff.mp hr).1)
    rw [qds_at hr] at this
    exact this
  walk_at "wp"
  refine ⟨by omega, by omega, fun r r0 r1 => ⟨by omega, ?_⟩⟩
  obtain ⟨p, rfl⟩ := nat_of r0
  have hp : p < rows_here.length := by omega
  obtain ⟨rp, hrp⟩ := get_lt hp
  have key : ∀ {Q : Sr → Prop}, (∀ a : Sr, 0 ≤ a.2.2 → ((p : Int) = 0 → a.2.2 = 0) → endM (fun r : Sr => r.2.2) 1 (rows_here.take p) = a.2.2 + 1 → Q a) → getI (rows_here ++ [(("/", "a", 0) : Sr)]) ((p : Int) - 1) Q X := fun {Q} z => by
    cases p with
    | zero => exact getI_end (z ("/", "a", 0) (by decide) (fun _ => rfl) rfl)
    | succ j =>
      obtain ⟨rj, hrj⟩ := get_lt (l := rows_here) (n := j) (by omega)
      have e : ((j + 1 : Nat) : Int) - 1 = (j : Int) := by omega
      rw [e]
      refine getI_n (x := rj) (by omega) (by rw [Int.toNat_natCast, List.getElem?_append_left (by omega)]; exact hrj) (z rj (by have := pos j rj hrj; omega) (fun y => by omega) (endM_take.2 j rj rfl hrj))
  refine key fun a a0 ap ae => getI_n (x := rp) (by omega) (by rw [Int.toNat_natCast]; exact hrp) fun r r0 r1 => ⟨⟨ok.way rp (List.mem_of_getElem? hrp), ok.lab rp (List.mem_of_getElem? hrp)⟩, r0, a0, by omega, ap, fun d ty bad => ⟨p, ixN_nat (by rw [List.length_map]; exact hp), ?_⟩⟩
  refine join_inv (fun l : List D => l.length = rows_here.length ∧ (∀ d ∈ l, TyQ d) ∧ (∀ k : Nat, k < p → l[k]? = (rows_here[k]?).map eSr) ∧ l[p]? = some d) (fun Q kq => ?_) ?_
  · have base : ((rows_here.map eSr).set p d).length = rows_here.length ∧ (∀ x ∈ (rows_here.map eSr).set p d, TyQ x) ∧ (∀ k : Nat, k < p → ((rows_here.map eSr).set p d)[k]? = (rows_here[k]?).map eSr) ∧ ((rows_here.map eSr).set p d)[p]? = some d := by
      refine ⟨by rw [List.length_set, List.length_map], fun x hx => ?_, fun k hk => ?_, set_at (by rw [List.length_map]; exact hp)⟩
      · rcases List.mem_or_eq_of_mem_set hx with hx | rfl
        · obtain ⟨q, hq, rfl⟩ := List.mem_map.mp hx
          exact tyQ_qu (ok.lab q hq)
        · exact ty
      · rw [set_off (by omega), List.getElem?_map]
    walk_at "wp"
    refine fun t _ _ => ⟨fun _ => ⟨fun c => ⟨by omega, by omega, fun t2 t0 t1 => ?_⟩, fun _ => kq _ base⟩, fun _ => kq _ base⟩
    obtain ⟨w, hw⟩ := nat_of (i := (p : Int) + 1 + t2) (by omega)
    rw [hw]
    obtain ⟨rw_, hrw⟩ := get_lt (l := rows_here) (n := w) (by omega)
    refine getI_n (x := rw_) (by omega) (by rw [Int.toNat_natCast]; exact hrw) fun u u0 u1 => ⟨⟨ok.way _ (List.mem_of_getElem? hrw), ok.lab _ (List.mem_of_getElem? hrw)⟩, u0, by omega, fun z => by omega, fun d2 ty2 _ => ⟨w, ixN_nat (by rw [base.1]; omega), kq _ ?_⟩⟩
    refine ⟨by rw [List.length_set]; exact base.1, fun x hx => ?_, fun k hk => ?_, ?_⟩
    · rcases List.mem_or_eq_of_mem_set hx with hx | rfl
      · exact base.2.1 x hx
      · exact ty2
    · rw [set_off (by omega)]; exact base.2.2.1 k hk
    · rw [set_off (by omega)]; exact base.2.2.2
  · rintro l ⟨e1, e2, e3, e4⟩
    refine h l p e1 e2 (scan_bad rowK_qu (quOk_ch ok) (by omega) e3 e4 ?_) hp
    unfold okR
    rw [ae]
    rcases bad with bad | ⟨b1, b2⟩
    · rw [bad]; rfl
    · rw [b2, decide_eq_true (show 0 < p by omega)]; simp
theorem sc_law_great : FnScope ["_law_source_here", "_law_label", "_law_way", "_law_long", "_law_due_here", "_law_wide", "_law_flat", "_law_depth_here"] ["_law_source_here", "_law_label"] (defScope st_law_great) := ⟨rfl, rfl, rfl, by decide +kernel, rfl, by decide +kernel, by decide +kernel⟩
theorem ok_law_great {f : Addr} {fd : FuncData} (T : Txt K mg) (F : FnP K "_law_great" "_law_great" st_law_great f fd) (G_law_take : Fn P w K mg base CX0 1 "_law_take" ["_law_source_here", "_law_many"] (sp_law_take K)) (G_law_due : FnG P w K mg base CX0 1 "_law_due" ["_law_word", "_law_thing"] (sp_law_due K)) (G_law_told : Fn P w K mg base CX0 6 "_law_told" ["_law_rows_here", "_law_wanted"] (sp_law_told K)) : FnOkG P w K mg base CX0 7 f fd ["_law_source_here", "_law_label"] (sp_law_great K) := by
  refine fd_okG F sc_law_great (fun vs H Q E h => spC_len h fun _ => rfl) (fun cdv A outer s H vs Q E hr gd h => ?_)
  refine ⟨_, PSs.nox (pss_cons (ps_set (i := 2) sc_law_great.nd rfl (Or.inr rfl) (pe_ix ix_list (pe_lst (pa_cons pe_str (pa_cons pe_str pa_nil))) (pe_callF G_law_take (hr.mono (by decide)) pass0 (pa_cons (pv 0) (pa_cons pe_int pa_nil))) (fun _ _ => rfl)))
      (pss_cons (ps_set (i := 3) sc_law_great.nd rfl (Or.inl rfl) (pe_op op_add pe_int (pe_callF G_law_take (hr.mono (by decide)) pass0 (pa_cons (pv 0) (pa_cons pe_int pa_nil)))))
      (pss_cons (ps_set (i := 4) sc_law_great.nd rfl (Or.inl rfl) (pe_callB (call_reprV gd (un_of hr)) rfl T.free_repr (by decide +kernel) (pa_cons (pe_lst (pa_cons pe_str (pa_cons (pv 3) pa_nil))) pa_nil)))
      (pss_cons (ps_if (pt_cmpR op_gt (pv 3) pe_int (nomark _))
      (pss_cons (ps_set (i := 4) sc_law_great.nd rfl (Or.inl rfl) (pe_callG G_law_due (hr.mono (by decide)) gd pass0 (pa_cons pe_str (pa_cons pe_int pa_nil)))) pss_nil)
      pss_nil)
      (pss_cons (ps_if (pt_cmpR op_ne (pe_callB (call_reprV gd (un_of hr)) rfl T.free_repr (by decide +kernel) (pa_cons (pe_callF G_law_told (hr.mono (by decide)) pass0 (pa_cons (pe_lc (own := [("_law_depth_here", 7)]) (g := gName 7) rfl sc_law_great.nd (pi_range1 rfl T.free_range (pa_cons (pv 3) pa_nil)) (blkOk_by (own := [("_law_depth_here", 7)]) (N := ["_law_source_here", "_law_label", "_law_way", "_law_long", "_law_due_here", "_law_wide", "_law_flat", "_law_depth_here"]) (sc := defScope st_law_great) (by decide +kernel)) (fun _ _ _ _ _ => (pg_name (i := 7) sc_law_great.nd rfl (Or.inl rfl))) (fun _ _ _ _ _ => pts_nil) (fun _ _ _ _ _ => (pe_tup (pa_cons (pv 2) (pa_cons (pv 1) (pa_cons (pe_op op_add (pv 7) pe_int) pa_nil)))))) (pa_cons pe_int pa_nil))) pa_nil)) (pv 4) (nomark _))
      (pss_cons (ps_ret pe_bl) pss_nil)
      pss_nil)
      (pss_cons (ps_set (i := 5) sc_law_great.nd rfl (Or.inl rfl) (pe_op op_add pe_int (pe_callF G_law_take (hr.mono (by decide)) pass0 (pa_cons (pv 0) (pa_cons pe_int pa_nil)))))
      (pss_cons (ps_set (i := 6) sc_law_great.nd rfl (Or.inl rfl) (pe_op op_cat (pe_lst (pa_cons (pe_tup (pa_cons (pv 2) (pa_cons (pv 1) (pa_cons pe_int pa_nil)))) pa_nil)) (pe_op op_rep (pe_lst (pa_cons (pe_tup (pa_cons (pv 2) (pa_cons (pv 1) (pa_cons pe_int pa_nil)))) pa_nil)) (pe_op op_sub (pv 5) pe_int))))
      (pss_cons (ps_set (i := 4) sc_law_great.nd rfl (Or.inl rfl) (pe_callB (call_reprV gd (un_of hr)) rfl T.free_repr (by decide +kernel) (pa_cons (pe_lst (pa_cons pe_str (pa_cons (pv 5) pa_nil))) pa_nil)))
      (pss_cons (ps_if (pt_cmpR op_gt (pv 5) pe_int (nomark _))
      (pss_cons (ps_set (i := 4) sc_law_great.nd rfl (Or.inl rfl) (pe_callG G_law_due (hr.mono (by decide)) gd pass0 (pa_cons pe_str (pa_cons (pv 5) pa_nil))))
      (pss_cons (ps_asg pe_non (pg_sub (pv 6) (pe_callF G_law_take (hr.mono (by decide)) pass0 (pa_cons (pv 0) (pa_cons (pv 5) pa_nil))) set_list)) pss_nil))
      pss_nil)
      (pss_cons (ps_ret (pe_cmpR op_eq (pe_callB (call_reprV gd (un_of hr)) rfl T.free_repr (by decide +kernel) (pa_cons (pe_callF G_law_told (hr.mono (by decide)) pass0 (pa_cons (pv 6) (pa_cons pe_int pa_nil))) pa_nil)) (pv 4) (nomark _))) pss_nil)))))))))), fn_run (N := ["_law_source_here", "_law_label", "_law_way", "_law_long", "_law_due_here", "_law_wide", "_law_flat", "_law_depth_here"]) (c := c_law_great) h (fun _ => (by decide : 2 ≤ 8)) (fun q => (rb_set (en := D.str) 2 (re_ixL (RG.fq (rf_lst (en := D.str) (rl_cons (re_str "/") (rl_cons (re_str "//") rl_nil)))) (rg_call (ra_src 0 (ra_cons (en := D.int) (re_int 2) ra_nil)) (fun _ _ _ h => h))) (fun way_1 => (rb_set (en := D.int) 3 (re_add (re_int 28) (rg_call (ra_src 0 (ra_cons (en := D.int) (re_int 6) ra_nil)) (fun _ _ _ h => h))) (fun long_2 => (rb_set (en := D.str) 4 (re_repr (RG.fe (rf_lst (en := (fun d : Va.D => d)) (rl_cons (RG.map (en' := (fun d : Va.D => d)) D.str (re_str "good") (fun _ => rfl)) (rl_cons (RG.map (en' := (fun d : Va.D => d)) D.int (re_var (en := D.int) (x := long_2) 3) (fun _ => rfl)) rl_nil))))) (fun due_here_3 => (rb_ifS (S := Str) (fun s_4 : Str => [.src, .sh (D.str q.2.1), .sh (D.str way_1), .sh (D.int long_2), .sh (D.str s_4), .no, .no, .no]) (rt_test (re_gt (re_var (en := D.int) (x := long_2) 3) (re_int 30))) (rb_set (en := D.str) 4 (rg_call (ra_cons (en := D.str) (re_str "question") (ra_cons (en := (fun d : Va.D => d)) (RG.map (en' := (fun d : Va.D => d)) D.int (re_int 30) (fun _ => rfl)) ra_nil)) (fun _ _ _ h => h)) (fun due_here_5 => (rb_nil (s := ((due_here_5) : Str)) (le_cons (le_cons (le_cons (le_cons (le_cons (le_no (le_no (le_no le_nil))))))))))) (rb_nil (s := ((due_here_3) : Str)) (le_cons (le_cons (le_cons (le_cons (le_cons (le_no (le_no (le_no le_nil))))))))) (fun s_4 => (rb_if (S := Unit) (ρj := (fun s_7 : Unit => [.src, .sh (D.str q.2.1), .sh (D.str way_1), .sh (D.int long_2), .sh (D.str s_4), .no, .no, .no])) (rt_test (re_ne (re_repr (rg_call (ra_cons (en := (fun d : Va.D => d)) (RG.map (en' := (fun d : Va.D => d)) (eL (eT3 D.str D.str D.int)) (RG.fe (rf_lc (en := D.int) (en' := (eT3 D.str D.str D.int)) (ri_rng1 (re_var (en := D.int) (x := long_2) 3)) (tg_name (en := D.int) 7) (fun x_6 => rt_yes) (fun x_6 => (re_tup3 (re_var (en := D.str) (x := way_1) 2) (re_var (en := D.str) (x := q.2.1) 1) (re_add (re_var (en := D.int) (x := x_6) 7) (re_int 1)))) (fun _ _ _ => rfl))) (fun _ => rfl)) (ra_cons (en := (fun d : Va.D => d)) (RG.map (en' := (fun d : Va.D => d)) D.int (re_int 0) (fun _ => rfl)) ra_nil)) (fun _ _ _ h => h))) (re_var (en := D.str) (x := s_4) 4))) (rb_retE (en := D.bl) (re_bl false)) (rb_nil (s := (() : Unit)) (le_cons (le_cons (le_cons (le_cons (le_cons (le_no (le_no (le_no le_nil))))))))) (fun s_7 => (rb_set (en := D.int) 5 (re_add (re_int 98) (rg_call (ra_src 0 (ra_cons (en := D.int) (re_int 5) ra_nil)) (fun _ _ _ h => h))) (fun wide_8 => (rb_own (en := (fun d : Va.D => d)) 6 (rf_cat (RG.fl (rf_lst (en := (fun d : Va.D => d)) (rl_cons (RG.map (en' := (fun d : Va.D => d)) (eT3 D.str D.str D.int) (re_tup3 (re_var (en := D.str) (x := way_1) 2) (re_var (en := D.str) (x := q.2.1) 1) (re_int 1)) (fun _ => rfl)) rl_nil))) (RG.fl (rf_rep (RG.fl (rf_lst (en := (fun d : Va.D => d)) (rl_cons (RG.map (en' := (fun d : Va.D => d)) (eT3 D.str D.str D.int) (re_tup3 (re_var (en := D.str) (x := way_1) 2) (re_var (en := D.str) (x := q.2.1) 1) (re_int 2)) (fun _ => rfl)) rl_nil))) (re_sub (re_var (en := D.int) (x := wide_8) 5) (re_int 1))))) (fun flat_9 => (rb_set (en := D.str) 4 (re_repr (RG.fe (rf_lst (en := (fun d : Va.D => d)) (rl_cons (RG.map (en' := (fun d : Va.D => d)) D.str (re_str "good") (fun _ => rfl)) (rl_cons (RG.map (en' := (fun d : Va.D => d)) D.int (re_var (en := D.int) (x := wide_8) 5) (fun _ => rfl)) rl_nil))))) (fun due_here_10 => (rb_ifS (S := Str × (List Va.D)) (fun s_11 : Str × (List Va.D) => [.src, .sh (D.str q.2.1), .sh (D.str way_1), .sh (D.int long_2), .sh (D.str s_11.1), .sh (D.int wide_8), .ow (.lst (List.map (fun d : Va.D => d) s_11.2)), .no]) (rt_test (re_gt (re_var (en := D.int) (x := wide_8) 5) (re_int 100))) (rb_set (en := D.str) 4 (rg_call (ra_cons (en := D.str) (re_str "many") (ra_cons (en := (fun d : Va.D => d)) (RG.map (en' := (fun d : Va.D => d)) D.int (re_var (en := D.int) (x := wide_8) 5) (fun _ => rfl)) ra_nil)) (fun _ _ _ h => h)) (fun due_here_12 => (rb_setI (en := (fun d : Va.D => d)) (l := flat_9) 6 (RG.map (en' := (fun d : Va.D => d)) eU re_non (fun _ => rfl)) (rg_call (ra_src 0 (ra_cons (en := D.int) (re_var (en := D.int) (x := wide_8) 5) ra_nil)) (fun _ _ _ h => h)) (fun flat_13 => (rb_nil (s := ((due_here_12, flat_13) : Str × (List Va.D))) (le_cons (le_cons (le_cons (le_cons (le_cons (le_cons (le_cons (le_no le_nil))))))))))))) (rb_nil (s := ((due_here_10, flat_9) : Str × (List Va.D))) (le_cons (le_cons (le_cons (le_cons (le_cons (le_cons (le_cons (le_no le_nil))))))))) (fun s_11 => (rb_frz 6 (rb_retE (en := D.bl) (re_eq (re_repr (rg_call (ra_cons (en := (fun d : Va.D => d)) (RG.map (en' := (fun d : Va.D => d)) (eL (fun d : Va.D => d)) (re_var (en := (eL (fun d : Va.D => d))) (x := s_11.2) 6) (fun _ => rfl)) (ra_cons (en := (fun d : Va.D => d)) (RG.map (en' := (fun d : Va.D => d)) D.int (re_int 0) (fun _ => rfl)) ra_nil)) (fun _ _ _ h => h))) (re_var (en := D.str) (x := s_11.1) 4))))))))))))))))))))))) ?_⟩
  rintro ⟨⟨⟩, label, ⟨⟩⟩ P X h
  change (labelB label = true ∧ P true) at h
  obtain ⟨lz, hp⟩ := h
  have sq : ∀ {z : Str} {k : Int}, (reprText z).length ≤ 100 → k.natAbs ≤ 1000000 → ∀ {Q : Str → Prop}, Q (toP (msgD z (.int k))).shown → reprM (msgD z (.int k)) Q X := fun {z k} hz hk {Q} y => rep_in ⟨_, .inl rfl⟩ (sh_msgI hz hk) y
  have sg : ∀ {k : Int}, k.natAbs ≤ 1000000 → ∀ {Q : Str → Prop}, Q (toP (goodD k)).shown → reprM (goodD k) Q X := fun {k} hk {Q} y => rep_in ⟨_, .inl rfl⟩ (sh_goodD (sm70 hk)) y
  walk_at "wp"
  intro r r0 r1
  refine getI_lt r0 (by simpa using r1) fun w hw => ?_
  have hway : w = "/" ∨ w = "//" := by
    have := List.mem_of_getElem? hw
    simpa using this
  intro a a0 a1
  obtain ⟨n, hn⟩ := nat_of (i := 28 + a) (by omega)
  rw [hn]
  refine sg (k := (n : Int)) (by omega) ?_
  refine join_inv (fun s : Str => (n ≤ 30 ∧ s = (toP (goodD n)).shown) ∨ (30 < n ∧ s = (toP (msgD "question" (.int 30))).shown)) (fun Q kq => ?_) ?_
  · walk_at "wp"
    exact ⟨fun c => sq (by decide +kernel) (by decide) (kq _ (.inr ⟨by omega, rfl⟩)), fun c => kq _ (.inl ⟨by omega, rfl⟩)⟩
  intro s hs
  walk_at "wp"
  refine ⟨by omega, by omega, by rw [rng_len, Int.toNat_natCast]; omega, ?_⟩
  rw [Int.toNat_natCast]
  refine lcM_map ?_
  show TellQ (.lst ((chainQ w label n).map eSr)) _ _
  have ty0 : tyD (.int 0) ≠ none := fun z => (nomatch z)
  have next : (∀ {Pd : D → Prop}, (∀ b : D, s = (toP b).shown → (∃ ds, b = .lst ds ∨ b = .tup ds) → Sh 64 16000000 b → Pd b) → TellQ (.lst ((chainQ w label n).map eSr)) (.int 0) Pd) := fun {Pd} y => by
    rcases hs with ⟨h1, h2⟩ | ⟨h1, h2⟩
    · refine tellQ_rows (chainQ_ok hway lz (by omega) h1) ty0 (fun z => ?_) fun g e hg => ?_
      · rw [chainQ_len] at z
        simp [withinD] at z <;> omega
      · rw [chainQ_len]
        exact y _ h2 ⟨_, .inl rfl⟩ (sh_goodD (sm70 (by omega)))
    · refine tellQ_bad (p := 30) ty0 (by rw [List.length_map, chainQ_len]; omega) (fun d hd => ?_) (chainQ_bad hway lz h1) (y _ h2 ⟨_, .inl rfl⟩ (sh_msgI (by decide +kernel) (by decide)))
      obtain ⟨x, hx, rfl⟩ := List.mem_map.mp hd
      obtain ⟨k, hk⟩ := List.mem_iff_getElem?.mp hx
      have hkn : k < n := by have := (List.getElem?_eq_some_iff.mp hk).1; rwa [chainQ_len] at this
      rw [chainQ_at hkn] at hk
      cases hk
      exact tyQ_qu lz
  refine next fun b e1 e2 e3 => rep_in e2 e3 ⟨fun c => absurd e1.symm c, fun _ => ?_⟩
  intro b2 b0 b1
  obtain ⟨m, hm⟩ := nat_of (i := 98 + b2 - 1) (by omega)
  have hb : 98 + b2 = ((m + 1 : Nat) : Int) := by omega
  rw [hm, hb, Int.toNat_natCast]
  have ef : ([eT3 D.str D.str D.int (w, label, 1)] ++ List.replicate m (eT3 D.str D.str D.int (w, label, 2)) : List D) = (flatQ w label m).map eSr := by
    unfold flatQ
    rw [List.map_cons, List.map_replicate]
    rfl
  rw [ef]
  have fl : ((flatQ w label m).map eSr).length = m + 1 := by rw [List.length_map]; unfold flatQ; rw [List.length_cons, List.length_replicate]
  have fty : ∀ d ∈ (flatQ w label m).map eSr, TyQ d := fun d hd => by
    obtain ⟨x, hx, rfl⟩ := List.mem_map.mp hd
    rcases List.mem_cons.mp hx with rfl | hx
    · exact tyQ_qu lz
    · rw [(List.mem_replicate.mp hx).2]; exact tyQ_qu lz
  refine ⟨by omega, by omega, by omega, by rw [List.length_replicate]; omega, sg (k := ((m + 1 : Nat) : Int)) (by omega) ?_⟩
  refine join_inv (fun s : Str × List D => (m + 1 ≤ 100 ∧ s.1 = (toP (goodD ((m + 1 : Nat) : Int))).shown ∧ s.2 = (flatQ w label m).map eSr) ∨ (100 < m + 1 ∧ s.1 = (toP (msgD "many" (.int ((m + 1 : Nat) : Int)))).shown ∧ s.2.length = m + 1 ∧ ∀ d ∈ s.2, TyQ d)) (fun Q kq => ?_) ?_
  · walk_at "wp"
    refine ⟨fun c => sq (by decide +kernel) (by omega) ⟨by omega, by omega, fun j j0 j1 => ⟨j.toNat, ixN_int j0 (by rw [fl]; exact j1), kq _ (.inr ⟨by omega, rfl, by rw [List.length_set]; exact fl, fun d hd => ?_⟩)⟩⟩, fun c => kq _ (.inl ⟨by omega, rfl, rfl⟩)⟩
    rcases List.mem_or_eq_of_mem_set hd with hd | rfl
    · exact fty d hd
    · exact ⟨fun z => (nomatch z), fun w a b e => (nomatch e)⟩
  rintro ⟨s1, s2⟩ h12
  have e2 : eL (fun d : D => d) s2 = .lst s2 := by simp [eL]
  walk_at "wp"
  rw [e2]
  rcases h12 with ⟨h1, h2, h3⟩ | ⟨h1, h2, h3, h4⟩
  · have h2 : s1 = (toP (goodD ((m + 1 : Nat) : Int))).shown := h2
    have h3 : s2 = (flatQ w label m).map eSr := h3
    rw [h2, h3]
    refine tellQ_rows (flatQ_ok hway lz (by omega)) ty0 (fun z => ?_) fun g e hg => ?_
    · rw [← List.length_map (f := eSr), fl] at z
      simp [withinD] at z <;> omega
    rw [← List.length_map (f := eSr), fl]
    refine sg (by omega) ?_
    simpa using hp
  · have h2 : s1 = (toP (msgD "many" (.int ((m + 1 : Nat) : Int)))).shown := h2
    have h3 : s2.length = m + 1 := h3
    rw [h2]
    refine tellQ_many ty0 (by omega) (by omega) h4 ?_
    rw [h3]
    refine sq (by decide +kernel) (by omega) ?_
    simpa using hp
theorem sc_law : FnScope ["_law_script", "_law_k", "_law_source_here", "_law_labels_here", "_law_rows_here", "_law_wanted", "_law_bad_here", "_law_found", "_law_place", "_law_thing"] ["_law_script"] (defScope st_law) := ⟨rfl, rfl, rfl, by decide +kernel, rfl, by decide +kernel, by decide +kernel⟩
theorem ok_law {f : Addr} {fd : FuncData} (T : Txt K mg) (F : FnP K "law" "law" st_law f fd) (G_law_source : Fn P w K mg base CX0 1 "_law_source" ["_law_cell"] (sp_law_source K)) (G_law_cell_at : Fn P w K mg base CX0 1 "_law_cell_at" ["_law_script", "_law_k"] (sp_law_cell_at K)) (G_law_labels : Fn P w K mg base CX0 2 "_law_labels" ["_law_source_here", "_law_many"] (sp_law_labels K)) (G_law_take : Fn P w K mg base CX0 1 "_law_take" ["_law_source_here", "_law_many"] (sp_law_take K)) (G_law_steps : Fn P w K mg base CX0 4 "_law_steps" ["_law_source_here", "_law_labels_here", "_law_most", "_law_deep"] (sp_law_steps K)) (G_law_told : Fn P w K mg base CX0 6 "_law_told" ["_law_rows_here", "_law_wanted"] (sp_law_told K)) (G_law_due : FnG P w K mg base CX0 1 "_law_due" ["_law_word", "_law_thing"] (sp_law_due K)) (G_law_spoiled : Fn P w K mg base CX0 2 "_law_spoiled" ["_law_rows_here", "_law_source_here"] (sp_law_spoiled K)) (G_law_great : FnG P w K mg base CX0 7 "_law_great" ["_law_source_here", "_law_label"] (sp_law_great K)) : FnOkG P w K mg base CX0 8 f fd ["_law_script"] (sp_law K) := by
  refine fd_okG F sc_law (fun vs H Q E h => spC_len h fun _ => rfl) (fun cdv A outer s H vs Q E hr gd h => ?_)
  refine ⟨_, PSs.nox (pss_cons (ps_for PassesOwn.never rfl (pi_range1 rfl T.free_range (pa_cons (pe_callB (call_max2 rfl) rfl T.free_max (by decide +kernel) (pa_cons pe_int (pa_cons (pe_callB (call_min2 rfl) rfl T.free_min (by decide +kernel) (pa_cons (pe_callB call_len rfl T.free_len PySem.boot_len (pa_cons (pv 0) pa_nil)) (pa_cons pe_int pa_nil))) pa_nil))) pa_nil)) (pg_name (i := 1) sc_law.nd rfl (Or.inl rfl))
      (pss_cons (ps_set (i := 2) sc_law.nd rfl (Or.inl rfl) (pe_callF G_law_source (hr.mono (by decide)) pass0 (pa_cons (pe_callF G_law_cell_at (hr.mono (by decide)) pass0 (pa_cons (pv 0) (pa_cons (pv 1) pa_nil))) pa_nil)))
      (pss_cons (ps_set (i := 3) sc_law.nd rfl (Or.inl rfl) (pe_callF G_law_labels (hr.mono (by decide)) pass0 (pa_cons (pv 2) (pa_cons (pe_op op_add pe_int (pe_callF G_law_take (hr.mono (by decide)) pass0 (pa_cons (pv 2) (pa_cons pe_int pa_nil)))) pa_nil))))
      (pss_cons (ps_set (i := 4) sc_law.nd rfl (Or.inl rfl) (pe_callF G_law_steps (hr.mono (by decide)) pass0 (pa_cons (pv 2) (pa_cons (pv 3) (pa_cons pe_int (pa_cons pe_int pa_nil))))))
      (pss_cons (ps_set (i := 5) sc_law.nd rfl (Or.inl rfl) (pe_callF G_law_take (hr.mono (by decide)) pass0 (pa_cons (pv 2) (pa_cons (pe_callB call_len rfl T.free_len PySem.boot_len (pa_cons (pv 4) pa_nil)) pa_nil))))
      (pss_cons (ps_if (pt_cmpR op_ne (pe_callB (call_reprV gd (un_of hr)) rfl T.free_repr (by decide +kernel) (pa_cons (pe_callF G_law_told (hr.mono (by decide)) pass0 (pa_cons (pv 4) (pa_cons (pv 5) pa_nil))) pa_nil)) (pe_callB (call_reprV gd (un_of hr)) rfl T.free_repr (by decide +kernel) (pa_cons (pe_lst (pa_cons pe_str (pa_cons (pe_callB call_len rfl T.free_len PySem.boot_len (pa_cons (pv 4) pa_nil)) pa_nil))) pa_nil)) (nomark _))
      (pss_cons (ps_ret pe_bl) pss_nil)
      pss_nil)
      (pss_cons (ps_set (i := 6) sc_law.nd rfl (Or.inl rfl) (pe_ix ix_list (pe_lst (pa_cons (pe_un un_neg pe_int) (pa_cons (pe_callB call_len rfl T.free_len PySem.boot_len (pa_cons (pv 4) pa_nil)) (pa_cons (pe_op op_pow pe_int pe_int) (pa_cons pe_bl (pa_cons pe_bl (pa_cons pe_non (pa_cons pe_str (pa_cons (pe_lst (pa_cons pe_int pa_nil)) (pa_cons (pe_tup (pa_cons pe_int pa_nil)) (pa_cons pe_dnewK pa_nil))))))))))) (pe_callF G_law_take (hr.mono (by decide)) pass0 (pa_cons (pv 2) (pa_cons pe_int pa_nil))) (fun _ _ => rfl)))
      (pss_cons (ps_if (pt_cmpR op_ne (pe_callB (call_reprV gd (un_of hr)) rfl T.free_repr (by decide +kernel) (pa_cons (pe_callF G_law_told (hr.mono (by decide)) pass0 (pa_cons (pv 4) (pa_cons (pv 6) pa_nil))) pa_nil)) (pe_callG G_law_due (hr.mono (by decide)) gd pass0 (pa_cons pe_str (pa_cons (pv 6) pa_nil))) (nomark _))
      (pss_cons (ps_ret pe_bl) pss_nil)
      pss_nil)
      (pss_cons (ps_asg (pe_callF G_law_spoiled (hr.mono (by decide)) pass0 (pa_cons (pv 4) (pa_cons (pv 2) pa_nil))) (pg_lst rfl (pgs_cons (pg_name (i := 7) sc_law.nd rfl (Or.inl rfl)) (pgs_cons (pg_name (i := 8) sc_law.nd rfl (Or.inl rfl)) pgs_nil))))
      (pss_cons (ps_if (pt_cmpR op_ne (pe_callB (call_reprV gd (un_of hr)) rfl T.free_repr (by decide +kernel) (pa_cons (pe_callF G_law_told (hr.mono (by decide)) pass0 (pa_cons (pv 7) (pa_cons (pe_ix ix_list (pe_lst (pa_cons (pv 5) (pa_cons (pv 6) pa_nil))) (pe_callF G_law_take (hr.mono (by decide)) pass0 (pa_cons (pv 2) (pa_cons pe_int pa_nil))) (fun _ _ => rfl)) pa_nil))) pa_nil)) (pe_callG G_law_due (hr.mono (by decide)) gd pass0 (pa_cons pe_str (pa_cons (pv 8) pa_nil))) (nomark _))
      (pss_cons (ps_ret pe_bl) pss_nil)
      pss_nil)
      (pss_cons (ps_if (pt_not (pt_val (pe_callG G_law_great (hr.mono (by decide)) gd pass0 (pa_cons (pv 2) (pa_cons (pe_ix ix_list (pv 3) pe_int (fun _ _ => rfl)) pa_nil)))))
      (pss_cons (ps_ret pe_bl) pss_nil)
      pss_nil) pss_nil)))))))))))
      (pss_cons (ps_for PassesOwn.never rfl (pi_list (pe_lst (pa_cons pe_non (pa_cons pe_int (pa_cons pe_bl (pa_cons pe_str (pa_cons pe_dnewK (pa_cons (pe_tup pa_nil) (pa_cons (pe_tup (pa_cons (pe_tup (pa_cons pe_str (pa_cons pe_str (pa_cons pe_int pa_nil)))) pa_nil)) (pa_cons (pe_lst pa_nil) pa_nil)))))))))) (pg_name (i := 9) sc_law.nd rfl (Or.inl rfl))
      (pss_cons (ps_if (pt_cmpR op_ne (pe_callB (call_reprV gd (un_of hr)) rfl T.free_repr (by decide +kernel) (pa_cons (pe_callF G_law_told (hr.mono (by decide)) pass0 (pa_cons (pv 9) (pa_cons pe_int pa_nil))) pa_nil)) (pe_callG G_law_due (hr.mono (by decide)) gd pass0 (pa_cons pe_str (pa_cons pe_int pa_nil))) (nomark _))
      (pss_cons (ps_ret pe_bl) pss_nil)
      pss_nil) pss_nil))
      (pss_cons (ps_ret pe_bl) pss_nil))), fn_run (N := ["_law_script", "_law_k", "_law_source_here", "_law_labels_here", "_law_rows_here", "_law_wanted", "_law_bad_here", "_law_found", "_law_place", "_law_thing"]) (c := c_law) h (fun _ => (by decide : 1 ≤ 10)) (fun q => (rb_for (en := D.int) (S := Unit) (fun s_1 : Unit => [.scr q.1, .no, .no, .no, .no, .no, .no, .no, .no, .no]) () (ri_rng1 (re_max (ra_cons (re_int 3) (ra_cons (re_min (ra_cons (re_len (rq_scr 0)) (ra_cons (re_int 14) ra_nil))) ra_nil)))) (tg_name (en := D.int) 1) (le_cons (le_no (le_no (le_no (le_no (le_no (le_no (le_no (le_no (le_no le_nil)))))))))) (fun x_2 s_1 => (rb_src 2 (rg_call (ra_cons (en := D.int) (rg_call (ra_scr 0 (ra_cons (en := D.int) (re_var (en := D.int) (x := x_2) 1) ra_nil)) (fun _ _ _ h => h)) ra_nil) (fun _ _ _ h => h)) (rb_set (en := (eL D.str)) 3 (RG.fe (rg_call (ra_src 2 (ra_cons (en := D.int) (re_add (re_int 1) (rg_call (ra_src 2 (ra_cons (en := D.int) (re_int 3) ra_nil)) (fun _ _ _ h => h))) ra_nil)) (fun _ _ _ h => h))) (fun labels_here_3 => (rb_set (en := (eL (eT3 D.str D.str D.int))) 4 (RG.fe (rg_call (ra_src 2 (ra_cons (en := (eL D.str)) (re_var (en := (eL D.str)) (x := labels_here_3) 3) (ra_cons (en := D.int) (re_int 9) (ra_cons (en := D.int) (re_int 30) ra_nil)))) (fun _ _ _ h => h))) (fun rows_here_4 => (rb_set (en := D.int) 5 (rg_call (ra_src 2 (ra_cons (en := D.int) (re_len (RG.eq (re_var (en := (eL (eT3 D.str D.str D.int))) (x := rows_here_4) 4))) ra_nil)) (fun _ _ _ h => h)) (fun wanted_5 => (rb_if (S := Unit) (ρj := (fun s_6 : Unit => [.scr q.1, .sh (D.int x_2), .src, .sh ((eL D.str) labels_here_3), .sh ((eL (eT3 D.str D.str D.int)) rows_here_4), .sh (D.int wanted_5), .no, .no, .no, .no])) (rt_test (re_ne (re_repr (rg_call (ra_cons (en := (fun d : Va.D => d)) (RG.map (en' := (fun d : Va.D => d)) (eL (eT3 D.str D.str D.int)) (re_var (en := (eL (eT3 D.str D.str D.int))) (x := rows_here_4) 4) (fun _ => rfl)) (ra_cons (en := (fun d : Va.D => d)) (RG.map (en' := (fun d : Va.D => d)) D.int (re_var (en := D.int) (x := wanted_5) 5) (fun _ => rfl)) ra_nil)) (fun _ _ _ h => h))) (re_repr (RG.fe (rf_lst (en := (fun d : Va.D => d)) (rl_cons (RG.map (en' := (fun d : Va.D => d)) D.str (re_str "good") (fun _ => rfl)) (rl_cons (RG.map (en' := (fun d : Va.D => d)) D.int (re_len (RG.eq (re_var (en := (eL (eT3 D.str D.str D.int))) (x := rows_here_4) 4))) (fun _ => rfl)) rl_nil))))))) (rb_retE (en := D.bl) (re_bl false)) (rb_nil (s := (() : Unit)) (le_cons (le_cons (le_cons (le_cons (le_cons (le_cons (le_no (le_no (le_no (le_no le_nil))))))))))) (fun s_6 => (rb_set (en := (fun d : Va.D => d)) 6 (re_ixL (RG.fq (rf_lst (en := (fun d : Va.D => d)) (rl_cons (RG.map (en' := (fun d : Va.D => d)) D.int (re_neg (re_int 1)) (fun _ => rfl)) (rl_cons (RG.map (en' := (fun d : Va.D => d)) D.int (re_len (RG.eq (re_var (en := (eL (eT3 D.str D.str D.int))) (x := rows_here_4) 4))) (fun _ => rfl)) (rl_cons (RG.map (en' := (fun d : Va.D => d)) D.int (re_bnd (re_int 10) (re_int 30)) (fun _ => rfl)) (rl_cons (RG.map (en' := (fun d : Va.D => d)) D.bl (re_bl true) (fun _ => rfl)) (rl_cons (RG.map (en' := (fun d : Va.D => d)) D.bl (re_bl false) (fun _ => rfl)) (rl_cons (RG.map (en' := (fun d : Va.D => d)) eU re_non (fun _ => rfl)) (rl_cons (RG.map (en' := (fun d : Va.D => d)) D.str (re_str "0") (fun _ => rfl)) (rl_cons (RG.map (en' := (fun d : Va.D => d)) (eL D.int) (RG.fe (rf_lst (en := D.int) (rl_cons (re_int 0) rl_nil))) (fun _ => rfl)) (rl_cons (RG.map (en' := (fun d : Va.D => d)) (eT1 D.int) (re_tup1 (re_int 0)) (fun _ => rfl)) (rl_cons (RG.map (en' := (fun d : Va.D => d)) (eD (Sum.inl : Int → Key) D.int) (RG.ge (en := (eD (Sum.inl : Int → Key) D.int)) rg_dnew (od_D (od_S D.int))) (fun _ => rfl)) rl_nil)))))))))))) (rg_call (ra_src 2 (ra_cons (en := D.int) (re_int 10) ra_nil)) (fun _ _ _ h => h))) (fun bad_here_7 => (rb_if (S := Unit) (ρj := (fun s_8 : Unit => [.scr q.1, .sh (D.int x_2), .src, .sh ((eL D.str) labels_here_3), .sh ((eL (eT3 D.str D.str D.int)) rows_here_4), .sh (D.int wanted_5), .sh ((fun d : Va.D => d) bad_here_7), .no, .no, .no])) (rt_test (re_ne (re_repr (rg_call (ra_cons (en := (fun d : Va.D => d)) (RG.map (en' := (fun d : Va.D => d)) (eL (eT3 D.str D.str D.int)) (re_var (en := (eL (eT3 D.str D.str D.int))) (x := rows_here_4) 4) (fun _ => rfl)) (ra_cons (en := (fun d : Va.D => d)) (re_var (en := (fun d : Va.D => d)) (x := bad_here_7) 6) ra_nil)) (fun _ _ _ h => h))) (rg_call (ra_cons (en := D.str) (re_str "wanted") (ra_cons (en := (fun d : Va.D => d)) (re_var (en := (fun d : Va.D => d)) (x := bad_here_7) 6) ra_nil)) (fun _ _ _ h => h)))) (rb_retE (en := D.bl) (re_bl false)) (rb_nil (s := (() : Unit)) (le_cons (le_cons (le_cons (le_cons (le_cons (le_cons (le_cons (le_no (le_no (le_no le_nil))))))))))) (fun s_8 => (rb_unp (rg_call (ra_cons (en := (eL (eT3 D.str D.str D.int))) (re_var (en := (eL (eT3 D.str D.str D.int))) (x := rows_here_4) 4) (ra_src 2 ra_nil)) (fun _ _ _ h => h)) (tg_pairL (e1 := (eL (fun d : Va.D => d))) (e2 := D.int) 7 8) (fun u_9 => (rb_if (S := Unit) (ρj := (fun s_10 : Unit => [.scr q.1, .sh (D.int x_2), .src, .sh ((eL D.str) labels_here_3), .sh ((eL (eT3 D.str D.str D.int)) rows_here_4), .sh (D.int wanted_5), .sh ((fun d : Va.D => d) bad_here_7), .sh ((eL (fun d : Va.D => d)) u_9.1), .sh (D.int u_9.2), .no])) (rt_test (re_ne (re_repr (rg_call (ra_cons (en := (fun d : Va.D => d)) (RG.map (en' := (fun d : Va.D => d)) (eL (fun d : Va.D => d)) (re_var (en := (eL (fun d : Va.D => d))) (x := u_9.1) 7) (fun _ => rfl)) (ra_cons (en := (fun d : Va.D => d)) (re_ixL (RG.fq (rf_lst (en := (fun d : Va.D => d)) (rl_cons (RG.map (en' := (fun d : Va.D => d)) D.int (re_var (en := D.int) (x := wanted_5) 5) (fun _ => rfl)) (rl_cons (re_var (en := (fun d : Va.D => d)) (x := bad_here_7) 6) rl_nil)))) (rg_call (ra_src 2 (ra_cons (en := D.int) (re_int 2) ra_nil)) (fun _ _ _ h => h))) ra_nil)) (fun _ _ _ h => h))) (rg_call (ra_cons (en := D.str) (re_str "question") (ra_cons (en := (fun d : Va.D => d)) (RG.map (en' := (fun d : Va.D => d)) D.int (re_var (en := D.int) (x := u_9.2) 8) (fun _ => rfl)) ra_nil)) (fun _ _ _ h => h)))) (rb_retE (en := D.bl) (re_bl false)) (rb_nil (s := (() : Unit)) (le_cons (le_cons (le_cons (le_cons (le_cons (le_cons (le_cons (le_cons (le_cons (le_no le_nil))))))))))) (fun s_10 => (rb_if (S := Unit) (ρj := (fun s_11 : Unit => [.scr q.1, .sh (D.int x_2), .src, .sh ((eL D.str) labels_here_3), .sh ((eL (eT3 D.str D.str D.int)) rows_here_4), .sh (D.int wanted_5), .sh ((fun d : Va.D => d) bad_here_7), .sh ((eL (fun d : Va.D => d)) u_9.1), .sh (D.int u_9.2), .no])) (rt_not (rt_b (rg_call (ra_src 2 (ra_cons (en := D.str) (re_ixL (RG.eq (re_var (en := (eL D.str)) (x := labels_here_3) 3)) (re_int 0)) ra_nil)) (fun _ _ _ h => h)))) (rb_retE (en := D.bl) (re_bl false)) (rb_nil (s := (() : Unit)) (le_cons (le_cons (le_cons (le_cons (le_cons (le_cons (le_cons (le_cons (le_cons (le_no le_nil))))))))))) (fun s_11 => (rb_nil (s := (() : Unit)) (le_cons (le_no (le_no (le_no (le_no (le_no (le_no (le_no (le_no (le_no le_nil))))))))))))))))))))))))))))))) (fun s_1 => (rb_for (en := (fun d : Va.D => d)) (S := Unit) (fun s_12 : Unit => [.scr q.1, .no, .no, .no, .no, .no, .no, .no, .no, .no]) () (ri_list (RG.fs (rf_lst (en := (fun d : Va.D => d)) (rl_cons (RG.map (en' := (fun d : Va.D => d)) eU re_non (fun _ => rfl)) (rl_cons (RG.map (en' := (fun d : Va.D => d)) D.int (re_int 5) (fun _ => rfl)) (rl_cons (RG.map (en' := (fun d : Va.D => d)) D.bl (re_bl true) (fun _ => rfl)) (rl_cons (RG.map (en' := (fun d : Va.D => d)) D.str (re_str "/a") (fun _ => rfl)) (rl_cons (RG.map (en' := (fun d : Va.D => d)) (eD (Sum.inl : Int → Key) D.int) (RG.ge (en := (eD (Sum.inl : Int → Key) D.int)) rg_dnew (od_D (od_S D.int))) (fun _ => rfl)) (rl_cons (RG.map (en' := (fun d : Va.D => d)) (eTL (fun d : Va.D => d)) re_tup0 (fun _ => rfl)) (rl_cons (RG.map (en' := (fun d : Va.D => d)) (eT1 (eT3 D.str D.str D.int)) (re_tup1 (re_tup3 (re_str "/") (re_str "a") (re_int 1))) (fun _ => rfl)) (rl_cons (RG.map (en' := (fun d : Va.D => d)) (eL (fun d : Va.D => d)) (RG.fe (rf_lst (en := (fun d : Va.D => d)) rl_nil)) (fun _ => rfl)) rl_nil))))))))))) (tg_name (en := (fun d : Va.D => d)) 9) (le_cons (le_no (le_no (le_no (le_no (le_no (le_no (le_no (le_no (le_no le_nil)))))))))) (fun x_13 s_12 => (rb_if (S := Unit) (ρj := (fun s_14 : Unit => [.scr q.1, .no, .no, .no, .no, .no, .no, .no, .no, .sh ((fun d : Va.D => d) x_13)])) (rt_test (re_ne (re_repr (rg_call (ra_cons (en := (fun d : Va.D => d)) (re_var (en := (fun d : Va.D => d)) (x := x_13) 9) (ra_cons (en := (fun d : Va.D => d)) (RG.map (en' := (fun d : Va.D => d)) D.int (re_int 0) (fun _ => rfl)) ra_nil)) (fun _ _ _ h => h))) (rg_call (ra_cons (en := D.str) (re_str "question") (ra_cons (en := (fun d : Va.D => d)) (RG.map (en' := (fun d : Va.D => d)) D.int (re_int 0) (fun _ => rfl)) ra_nil)) (fun _ _ _ h => h)))) (rb_retE (en := D.bl) (re_bl false)) (rb_nil (s := (() : Unit)) (le_cons (le_no (le_no (le_no (le_no (le_no (le_no (le_no (le_no (le_cons le_nil))))))))))) (fun s_14 => (rb_nil (s := (() : Unit)) (le_cons (le_no (le_no (le_no (le_no (le_no (le_no (le_no (le_no (le_no le_nil)))))))))))))) (fun s_12 => (rb_retE (en := D.bl) (re_bl true))))))) ?_⟩
  rintro ⟨script, ⟨⟩⟩ P X h
  change (script.length ≤ 63 ∧ P true) at h
  obtain ⟨hl, hp⟩ := h
  walk_at "wp"
  refine ⟨by omega, by omega, forL_inv (fun _ _ => True) trivial (fun i x _ hx _ Q k _ _ => ?_) fun _ _ => ?_⟩
  · obtain ⟨hi, rfl⟩ := rng_at hx
    walk_at "wp"
    refine ⟨hl, by omega, fun c r r0 r1 => ⟨by omega, by omega, fun ls hls hlab => ⟨by omega, by omega, fun rows q1 q2 q3 q4 q5 q6 => ⟨by omega, by omega, fun w w0 w1 => ?_⟩⟩⟩⟩
    obtain ⟨g, rfl⟩ := nat_of w0
    have ok : QuOk rows g := ⟨q1, by omega, q3, fun r hr => hlab _ (q4 r hr), q6, q5, by omega⟩
    have tyI : ∀ i : Int, tyD (.int i) ≠ none := fun i z => (nomatch z)
    refine tellQ_rows ok (tyI _) (fun z => ?_) fun g' e hg => repr_same (d := goodD rows.length) (.inl ⟨⟨_, .inl rfl⟩, sh_goodD (sm70 (by omega))⟩) fun t => ⟨fun c => absurd rfl c, fun _ => ⟨by decide, fun b b0 b1 => ?_⟩⟩
    · simp [withinD] at z <;> omega
    refine getI_lt b0 (by simpa using b1) fun bd hbd => ?_
    have key : tyD bd ≠ none ∧ (∀ g : Nat, bd = .int (g : Int) → ¬ g < rows.length) ∧ ThOk bd := by
      have hm := List.mem_of_getElem? hbd
      have hi : ∀ i : Int, i.natAbs < 10 ^ 70 → ThOk (.int i) := fun i hi => .inl ((sh_int (k := 70) (by decide) (by decide) hi).mono (by decide) (by decide))
      simp only [List.mem_cons, List.not_mem_nil, or_false] at hm
      rcases hm with rfl | rfl | rfl | rfl | rfl | rfl | rfl | rfl | rfl | rfl
      · exact ⟨tyI _, fun g e => by injection e with e; omega, hi _ (by decide +kernel)⟩
      · exact ⟨tyI _, fun g e => by injection e with e; omega, hi _ (sm70 (by omega))⟩
      · exact ⟨tyI _, fun g e => by injection e with e; omega, hi _ (by decide +kernel)⟩
      · exact ⟨fun z => (nomatch z), fun g e => (nomatch e), .inl ((sh_bl _).mono (by decide) (by decide))⟩
      · exact ⟨fun z => (nomatch z), fun g e => (nomatch e), .inl ((sh_bl _).mono (by decide) (by decide))⟩
      · exact ⟨fun z => (nomatch z), fun g e => (nomatch e), .inl (sh_non.mono (by decide) (by decide))⟩
      · exact ⟨fun z => (nomatch z), fun g e => (nomatch e), .inl ((sh_str (m := 100) (by decide +kernel)).mono (by decide) (by decide))⟩
      · exact ⟨fun z => (nomatch z), fun g e => (nomatch e), .inl ((sh_lst (n := 0) (m := 71) (ds := [.int 0]) fun d hd => by rw [List.mem_singleton.mp hd]; exact sh_int (k := 70) (by decide) (by decide) (by decide +kernel)).mono (by decide) (by decide))⟩
      · exact ⟨fun z => (nomatch z), fun g e => (nomatch e), .inl ((sh_tup (n := 0) (m := 71) (ds := [.int 0]) fun d hd => by rw [List.mem_singleton.mp hd]; exact sh_int (k := 70) (by decide) (by decide) (by decide +kernel)).mono (by decide) (by decide))⟩
      · exact ⟨fun z => (nomatch z), fun g e => (nomatch e), .inr ⟨rfl, by decide +kernel⟩⟩
    obtain ⟨k1, k2, k3⟩ := key
    refine tellQ_rows ok k1 (fun z => repr_same (rep_msgD (by decide +kernel) k3) fun t => ⟨fun c => absurd rfl c, fun _ => ⟨g, ok, fun ds p e1 e2 e3 e4 t2 t20 t21 => ?_⟩⟩) fun g' e hg => absurd hg (k2 g' e)
    refine getI_lt t20 (by simpa using t21) fun wd hwd => ?_
    have twd : tyD wd ≠ none := by
      have hm := List.mem_of_getElem? hwd
      simp only [List.mem_cons, List.not_mem_nil, or_false] at hm
      rcases hm with rfl | rfl
      · exact tyI _
      · exact k1
    refine tellQ_bad (ds := ds.map fun d => d) twd (by rw [List.length_map]; omega) (by rw [List.map_id']; exact e2) (by rw [List.map_id']; exact e3) (repr_same (.inl ⟨⟨_, .inl rfl⟩, sh_msgI (by decide +kernel) (by omega)⟩) fun t => ⟨fun c => absurd rfl c, fun _ => ?_⟩)
    obtain ⟨z0, hz0⟩ := get_lt (l := ls) (n := 0) (by omega)
    exact getI_n (x := z0) (by decide) hz0 ⟨hlab z0 (List.mem_of_getElem? hz0), k () trivial⟩
  walk_at "wp"
  refine forL_inv (fun _ _ => True) trivial (fun i x _ hx _ Q k _ _ => ?_) fun _ _ => hp
  have hm := List.mem_of_getElem? hx
  have key : tyD x ≠ none ∧ (x = .lst [] ∨ ∀ ds, x ≠ .lst ds) := by
    simp only [List.mem_cons, List.not_mem_nil, or_false] at hm
    rcases hm with rfl | rfl | rfl | rfl | rfl | rfl | rfl | rfl <;> refine ⟨fun z => (nomatch z), ?_⟩ <;> first | exact .inl rfl | exact .inr fun ds z => (nomatch z)
  walk_at "wp"
  exact tellQ_no (fun z => (nomatch z)) key.1 key.2 (repr_same (.inl ⟨⟨_, .inl rfl⟩, sh_msgI (by decide +kernel) (by decide)⟩) fun t => ⟨fun c => absurd rfl c, fun _ => k () trivial⟩)
end
theorem facts {P : Program} {w : World} {K : PySem.W.Frag} {h : Heap} {mg : Str → Option Value} {fl : Addr} (X : K.In h) (G : h.Ns mainGlobals mg) (hfa : mg ("law" : Str) = some (.ref fl)) (c : He.SaysD facs fns K) (cx : (exs K).all id = true) :
    ∃ fd : FuncData, (∀ (s : Shared) (v : Value), BindsTo s fd ⟨[v], []⟩ [("_law_script", v)]) ∧ ∀ base : Heap, K.In base → base.Ns mainGlobals mg → FnOkG P w K mg base CX0 8 fl fd ["_law_script"] (sp_law K) := by
  obtain ⟨fd_law_source, F_law_source⟩ := c.def_ 0 (d := dd_law_source) rfl
  obtain ⟨fd_law_cell_at, F_law_cell_at⟩ := c.def_ 1 (d := dd_law_cell_at) rfl
  obtain ⟨fd_law_take, F_law_take⟩ := c.def_ 2 (d := dd_law_take) rfl
  obtain ⟨fd_law_labels, F_law_labels⟩ := c.def_ 3 (d := dd_law_labels) rfl
  obtain ⟨fd_law_depth, F_law_depth⟩ := c.def_ 4 (d := dd_law_depth) rfl
  obtain ⟨fd_law_rows, F_law_rows⟩ := c.def_ 5 (d := dd_law_rows) rfl
  obtain ⟨fd_law_steps, F_law_steps⟩ := c.def_ 6 (d := dd_law_steps) rfl
  obtain ⟨fd_Question_many, F_Question_many⟩ := c.def_ 7 (d := dd_Question_many) rfl
  obtain ⟨fd_is_whole, F_is_whole⟩ := c.def_ 8 (d := dd_is_whole) rfl
  obtain ⟨fd_is_within, F_is_within⟩ := c.def_ 9 (d := dd_is_within) rfl
  obtain ⟨fd_is_label, F_is_label⟩ := c.def_ 10 (d := dd_is_label) rfl
  obtain ⟨fd_is_step_row, F_is_step_row⟩ := c.def_ 11 (d := dd_is_step_row) rfl
  obtain ⟨fd_Straight_init, F_Straight_init⟩ := c.def_ 12 (d := dd_Straight_init) rfl
  obtain ⟨fd_Anywhere_init, F_Anywhere_init⟩ := c.def_ 13 (d := dd_Anywhere_init) rfl
  obtain ⟨fd_step_of, F_step_of⟩ := c.def_ 14 (d := dd_step_of) rfl
  obtain ⟨fd_ends_by, F_ends_by⟩ := c.def_ 15 (d := dd_ends_by) rfl
  obtain ⟨fd_uppers_by, F_uppers_by⟩ := c.def_ 16 (d := dd_uppers_by) rfl
  obtain ⟨fd_Question_init, F_Question_init⟩ := c.def_ 17 (d := dd_Question_init) rfl
  obtain ⟨fd_law_told, F_law_told⟩ := c.def_ 18 (d := dd_law_told) rfl
  obtain ⟨fd_law_due, F_law_due⟩ := c.def_ 19 (d := dd_law_due) rfl
  obtain ⟨fd_law_bad, F_law_bad⟩ := c.def_ 20 (d := dd_law_bad) rfl
  obtain ⟨fd_law_spoiled, F_law_spoiled⟩ := c.def_ 21 (d := dd_law_spoiled) rfl
  obtain ⟨fd_law_great, F_law_great⟩ := c.def_ 22 (d := dd_law_great) rfl
  obtain ⟨fd_law, F_law⟩ := c.def_ 23 (d := dd_law) rfl
  obtain ⟨fd_NoQuestion_init, F_NoQuestion_init⟩ := c.def_ 24 (d := dd_NoQuestion_init) rfl
  obtain ⟨fd_TooMany_init, F_TooMany_init⟩ := c.def_ 25 (d := dd_TooMany_init) rfl
  obtain ⟨fd_NoWanted_init, F_NoWanted_init⟩ := c.def_ 26 (d := dd_NoWanted_init) rfl
  have T : Txt K mg := { free_max := He.free_ok X G (c.fact 0 (f := .free "max") rfl), free_int := He.free_ok X G (c.fact 1 (f := .free "int") rfl), free_len := He.free_ok X G (c.fact 2 (f := .free "len") rfl), free_range := He.free_ok X G (c.fact 3 (f := .free "range") rfl), free_min := He.free_ok X G (c.fact 4 (f := .free "min") rfl), free_isinstance := He.free_ok X G (c.fact 5 (f := .free "isinstance") rfl), free_bool := He.free_ok X G (c.fact 6 (f := .free "bool") rfl), free_str := He.free_ok X G (c.fact 7 (f := .free "str") rfl), g_MOST_LETTERS := He.int_ok X G (c.fact 8 (f := .int "MOST_LETTERS" 8) rfl), free_all := He.free_ok X G (c.fact 9 (f := .free "all") rfl), g_LETTERS := He.str_ok X G (c.fact 10 (f := .str "LETTERS" "abcdefghijklmnopqrstuvwxyz") rfl), free_tuple := He.free_ok X G (c.fact 11 (f := .free "tuple") rfl), glo_WAYS := He.glo_ok X G (c.fact 12 (f := .glo "WAYS") rfl), ls_WAYS := He.lstB_ok (ex_at 0 cx), free_enumerate := He.free_ok X G (c.fact 13 (f := .free "enumerate") rfl), free_list := He.free_ok X G (c.fact 14 (f := .free "list") rfl), g_MOST_STEPS := He.int_ok X G (c.fact 15 (f := .int "MOST_STEPS" 100) rfl), g_MOST_DEEP := He.int_ok X G (c.fact 16 (f := .int "MOST_DEEP" 30) rfl), glo_TooMany := He.glo_ok X G (c.fact 17 (f := .glo "TooMany") rfl), free_ValueError := He.free_ok X G (c.fact 18 (f := .free "ValueError") rfl), glo_BoughError := He.glo_ok X G (c.fact 19 (f := .glo "BoughError") rfl), glo_NoStep := He.glo_ok X G (c.fact 20 (f := .glo "NoStep") rfl), glo_NoWanted := He.glo_ok X G (c.fact 21 (f := .glo "NoWanted") rfl), glo_NoQuestion := He.glo_ok X G (c.fact 22 (f := .glo "NoQuestion") rfl), free_repr := He.free_ok X G (c.fact 23 (f := .free "repr") rfl), cl_Question := He.cls_ok (c.fact 24 (f := .cls "Question") rfl), na_Question_given_rows := He.noat_ok (c.fact 25 (f := .noat "Question" "given_rows") rfl), na_Question_goal := He.noat_ok (c.fact 26 (f := .noat "Question" "goal") rfl), na_Question_steps := He.noat_ok (c.fact 27 (f := .noat "Question" "steps") rfl), na_Question_ends := He.noat_ok (c.fact 28 (f := .noat "Question" "ends") rfl), na_Question_uppers := He.noat_ok (c.fact 29 (f := .noat "Question" "uppers") rfl), cl_Straight := He.cls_ok (c.fact 30 (f := .cls "Straight") rfl), na_Straight_label := He.noat_ok (c.fact 31 (f := .noat "Straight" "label") rfl), cl_Anywhere := He.cls_ok (c.fact 32 (f := .cls "Anywhere") rfl), na_Anywhere_label := He.noat_ok (c.fact 33 (f := .noat "Anywhere" "label") rfl), xc := xallB_ok (ex_at 1 cx), bo := boB_ok (ex_at 2 cx) }
  have e := hfa.symm.trans (He.glo_ok X G (c.fact 60 (f := .glo "law") rfl))
  cases e
  have b := FunD.bindsA (ps := ["_law_script"]) F_law fun _ _ _ _ _ _ us hl => match us, hl with | [_], _ => rfl
  refine ⟨fd_law, fun s v => b s [v] rfl, fun base _ _ => ?_⟩
  have X_NoQuestion : Xcr P w K mg base 1 "NoQuestion" := ⟨_, _, _, ok_NoQuestion_init (P := P) (w := w) (base := base) T F_NoQuestion_init, (xinB_ok (T.xc.k "NoQuestion" (by decide)).ini).1, (xinB_ok (T.xc.k "NoQuestion" (by decide)).ini).2, T.xc.k "NoQuestion" (by decide), He.glo_ok X G (c.fact 22 (f := .glo "NoQuestion") rfl), (F_NoQuestion_init.bindsN fun _ _ _ _ _ _ us hl => match us, hl with | [_, _], _ => rfl)⟩
  have X_TooMany : Xcr P w K mg base 1 "TooMany" := ⟨_, _, _, ok_TooMany_init (P := P) (w := w) (base := base) T F_TooMany_init, (xinB_ok (T.xc.k "TooMany" (by decide)).ini).1, (xinB_ok (T.xc.k "TooMany" (by decide)).ini).2, T.xc.k "TooMany" (by decide), He.glo_ok X G (c.fact 17 (f := .glo "TooMany") rfl), (F_TooMany_init.bindsN fun _ _ _ _ _ _ us hl => match us, hl with | [_, _], _ => rfl)⟩
  have X_NoWanted : Xcr P w K mg base 1 "NoWanted" := ⟨_, _, _, ok_NoWanted_init (P := P) (w := w) (base := base) T F_NoWanted_init, (xinB_ok (T.xc.k "NoWanted" (by decide)).ini).1, (xinB_ok (T.xc.k "NoWanted" (by decide)).ini).2, T.xc.k "NoWanted" (by decide), He.glo_ok X G (c.fact 21 (f := .glo "NoWanted") rfl), (F_NoWanted_init.bindsN fun _ _ _ _ _ _ us hl => match us, hl with | [_, _], _ => rfl)⟩
  have G_law_source : Fn P w K mg base CX0 1 "_law_source" ["_law_cell"] (sp_law_source K) := ⟨_, _, (ok_law_source (P := P) (w := w) (base := base) T F_law_source ), He.glo_ok X G (c.fact 34 (f := .glo "_law_source") rfl), F_law_source.kp, (F_law_source.bindsN fun _ _ _ _ _ _ us hl => match us, hl with | [_], _ => rfl)⟩
  have G_law_cell_at : Fn P w K mg base CX0 1 "_law_cell_at" ["_law_script", "_law_k"] (sp_law_cell_at K) := ⟨_, _, (ok_law_cell_at (P := P) (w := w) (base := base) T F_law_cell_at ), He.glo_ok X G (c.fact 35 (f := .glo "_law_cell_at") rfl), F_law_cell_at.kp, (F_law_cell_at.bindsN fun _ _ _ _ _ _ us hl => match us, hl with | [_, _], _ => rfl)⟩
  have G_law_take : Fn P w K mg base CX0 1 "_law_take" ["_law_source_here", "_law_many"] (sp_law_take K) := ⟨_, _, (ok_law_take (P := P) (w := w) (base := base) T F_law_take ), He.glo_ok X G (c.fact 36 (f := .glo "_law_take") rfl), F_law_take.kp, (F_law_take.bindsN fun _ _ _ _ _ _ us hl => match us, hl with | [_, _], _ => rfl)⟩
  have G_law_labels : Fn P w K mg base CX0 2 "_law_labels" ["_law_source_here", "_law_many"] (sp_law_labels K) := ⟨_, _, (ok_law_labels (P := P) (w := w) (base := base) T F_law_labels G_law_take), He.glo_ok X G (c.fact 37 (f := .glo "_law_labels") rfl), F_law_labels.kp, (F_law_labels.bindsN fun _ _ _ _ _ _ us hl => match us, hl with | [_, _], _ => rfl)⟩
  have G_law_depth : Fn P w K mg base CX0 2 "_law_depth" ["_law_source_here", "_law_shape", "_law_above"] (sp_law_depth K) := ⟨_, _, (ok_law_depth (P := P) (w := w) (base := base) T F_law_depth G_law_take), He.glo_ok X G (c.fact 38 (f := .glo "_law_depth") rfl), F_law_depth.kp, (F_law_depth.bindsN fun _ _ _ _ _ _ us hl => match us, hl with | [_, _, _], _ => rfl)⟩
  have G_law_rows : Fn P w K mg base CX0 3 "_law_rows" ["_law_source_here", "_law_labels_here", "_law_most", "_law_deep"] (sp_law_rows K) := ⟨_, _, (ok_law_rows (P := P) (w := w) (base := base) T F_law_rows G_law_take G_law_depth), He.glo_ok X G (c.fact 39 (f := .glo "_law_rows") rfl), F_law_rows.kp, (F_law_rows.bindsN fun _ _ _ _ _ _ us hl => match us, hl with | [_, _, _, _], _ => rfl)⟩
  have G_law_steps : Fn P w K mg base CX0 4 "_law_steps" ["_law_source_here", "_law_labels_here", "_law_most", "_law_deep"] (sp_law_steps K) := ⟨_, _, (ok_law_steps (P := P) (w := w) (base := base) T F_law_steps G_law_rows G_law_take), He.glo_ok X G (c.fact 40 (f := .glo "_law_steps") rfl), F_law_steps.kp, (F_law_steps.bindsN fun _ _ _ _ _ _ us hl => match us, hl with | [_, _, _, _], _ => rfl)⟩
  have G_Question_many : Mt P w K mg base CX0 1 (He.ga K "Question") "many" ["self"] (sp_Question_many K) := ⟨_, _, (ok_Question_many (P := P) (w := w) (base := base) T F_Question_many ), He.meth_ok (c.fact 41 (f := .meth "Question" "many") rfl), T.cl_Question, (F_Question_many.bindsN fun _ _ _ _ _ _ us hl => match us, hl with | [_], _ => rfl)⟩
  have G_is_whole : Fn P w K mg base CX0 1 "is_whole" ["thing"] (sp_is_whole K) := ⟨_, _, (ok_is_whole (P := P) (w := w) (base := base) T F_is_whole ), He.glo_ok X G (c.fact 42 (f := .glo "is_whole") rfl), F_is_whole.kp, (F_is_whole.bindsN fun _ _ _ _ _ _ us hl => match us, hl with | [_], _ => rfl)⟩
  have G_is_within : Fn P w K mg base CX0 2 "is_within" ["thing", "low", "high"] (sp_is_within K) := ⟨_, _, (ok_is_within (P := P) (w := w) (base := base) T F_is_within G_is_whole), He.glo_ok X G (c.fact 43 (f := .glo "is_within") rfl), F_is_within.kp, (F_is_within.bindsN fun _ _ _ _ _ _ us hl => match us, hl with | [_, _, _], _ => rfl)⟩
  have G_is_label : Fn P w K mg base CX0 1 "is_label" ["thing"] (sp_is_label K) := ⟨_, _, (ok_is_label (P := P) (w := w) (base := base) T F_is_label ), He.glo_ok X G (c.fact 44 (f := .glo "is_label") rfl), F_is_label.kp, (F_is_label.bindsN fun _ _ _ _ _ _ us hl => match us, hl with | [_], _ => rfl)⟩
  have G_is_step_row : Fn P w K mg base CX0 3 "is_step_row" ["thing", "deepest"] (sp_is_step_row K) := ⟨_, _, (ok_is_step_row (P := P) (w := w) (base := base) T F_is_step_row G_is_within G_is_label), He.glo_ok X G (c.fact 45 (f := .glo "is_step_row") rfl), F_is_step_row.kp, (F_is_step_row.bindsN fun _ _ _ _ _ _ us hl => match us, hl with | [_, _], _ => rfl)⟩
  have M_Straight : Mkr P w K mg base CX0 1 (He.ga K "Straight") "Straight" ["self", "label"] (sp_Straight_init K) := ⟨_, _, (ok_Straight_init (P := P) (w := w) (base := base) T F_Straight_init ), He.mkr_ok (c.fact 46 (f := .mkr "Straight") rfl), He.glo_ok X G (c.fact 47 (f := .glo "Straight") rfl), (F_Straight_init.bindsN fun _ _ _ _ _ _ us hl => match us, hl with | [_, _], _ => rfl)⟩
  have M_Anywhere : Mkr P w K mg base CX0 1 (He.ga K "Anywhere") "Anywhere" ["self", "label"] (sp_Anywhere_init K) := ⟨_, _, (ok_Anywhere_init (P := P) (w := w) (base := base) T F_Anywhere_init ), He.mkr_ok (c.fact 48 (f := .mkr "Anywhere") rfl), He.glo_ok X G (c.fact 49 (f := .glo "Anywhere") rfl), (F_Anywhere_init.bindsN fun _ _ _ _ _ _ us hl => match us, hl with | [_, _], _ => rfl)⟩
  have G_step_of : Fn P w K mg base CX0 3 "step_of" ["way", "label"] (sp_step_of K) := ⟨_, _, (ok_step_of (P := P) (w := w) (base := base) T F_step_of M_Straight M_Anywhere), He.glo_ok X G (c.fact 50 (f := .glo "step_of") rfl), F_step_of.kp, (F_step_of.bindsN fun _ _ _ _ _ _ us hl => match us, hl with | [_, _], _ => rfl)⟩
  have G_ends_by : Fn P w K mg base CX0 1 "ends_by" ["depths"] (sp_ends_by K) := ⟨_, _, (ok_ends_by (P := P) (w := w) (base := base) T F_ends_by ), He.glo_ok X G (c.fact 51 (f := .glo "ends_by") rfl), F_ends_by.kp, (F_ends_by.bindsN fun _ _ _ _ _ _ us hl => match us, hl with | [_], _ => rfl)⟩
  have G_uppers_by : Fn P w K mg base CX0 1 "uppers_by" ["depths"] (sp_uppers_by K) := ⟨_, _, (ok_uppers_by (P := P) (w := w) (base := base) T F_uppers_by ), He.glo_ok X G (c.fact 52 (f := .glo "uppers_by") rfl), F_uppers_by.kp, (F_uppers_by.bindsN fun _ _ _ _ _ _ us hl => match us, hl with | [_], _ => rfl)⟩
  have MX_Question : Mkr P w K mg base (L2.CX P w) 4 (He.ga K "Question") "Question" ["self", "rows", "wanted"] (spx_Question_init K) := ⟨_, _, (okx_Question_init (P := P) (w := w) (base := base) T F_Question_init X_NoQuestion X_TooMany G_is_step_row G_is_within X_NoWanted G_step_of G_ends_by G_uppers_by), He.mkr_ok (c.fact 53 (f := .mkr "Question") rfl), He.glo_ok X G (c.fact 54 (f := .glo "Question") rfl), (F_Question_init.bindsN fun _ _ _ _ _ _ us hl => match us, hl with | [_, _, _], _ => rfl)⟩
  have M_Question : Mkr P w K mg base CX0 4 (He.ga K "Question") "Question" ["self", "rows", "wanted"] (sp_Question_init K) := ⟨_, _, (FnOk.quiet (okx_Question_init (P := P) (w := w) (base := base) T F_Question_init X_NoQuestion X_TooMany G_is_step_row G_is_within X_NoWanted G_step_of G_ends_by G_uppers_by) (old_Question_init K)), He.mkr_ok (c.fact 53 (f := .mkr "Question") rfl), He.glo_ok X G (c.fact 54 (f := .glo "Question") rfl), (F_Question_init.bindsN fun _ _ _ _ _ _ us hl => match us, hl with | [_, _, _], _ => rfl)⟩
  have G_law_told : Fn P w K mg base CX0 6 "_law_told" ["_law_rows_here", "_law_wanted"] (sp_law_told K) := ⟨_, _, (ok_law_told (P := P) (w := w) (base := base) T F_law_told G_Question_many MX_Question), He.glo_ok X G (c.fact 55 (f := .glo "_law_told") rfl), F_law_told.kp, (F_law_told.bindsN fun _ _ _ _ _ _ us hl => match us, hl with | [_, _], _ => rfl)⟩
  have G_law_due : FnG P w K mg base CX0 1 "_law_due" ["_law_word", "_law_thing"] (sp_law_due K) := ⟨_, _, (ok_law_due (P := P) (w := w) (base := base) T F_law_due ), He.glo_ok X G (c.fact 56 (f := .glo "_law_due") rfl), F_law_due.kp, (F_law_due.bindsN fun _ _ _ _ _ _ us hl => match us, hl with | [_, _], _ => rfl)⟩
  have G_law_bad : Fn P w K mg base CX0 1 "_law_bad" ["_law_row", "_law_place", "_law_ahead", "_law_number"] (sp_law_bad K) := ⟨_, _, (ok_law_bad (P := P) (w := w) (base := base) T F_law_bad ), He.glo_ok X G (c.fact 57 (f := .glo "_law_bad") rfl), F_law_bad.kp, (F_law_bad.bindsN fun _ _ _ _ _ _ us hl => match us, hl with | [_, _, _, _], _ => rfl)⟩
  have G_law_spoiled : Fn P w K mg base CX0 2 "_law_spoiled" ["_law_rows_here", "_law_source_here"] (sp_law_spoiled K) := ⟨_, _, (ok_law_spoiled (P := P) (w := w) (base := base) T F_law_spoiled G_law_take G_law_bad), He.glo_ok X G (c.fact 58 (f := .glo "_law_spoiled") rfl), F_law_spoiled.kp, (F_law_spoiled.bindsN fun _ _ _ _ _ _ us hl => match us, hl with | [_, _], _ => rfl)⟩
  have G_law_great : FnG P w K mg base CX0 7 "_law_great" ["_law_source_here", "_law_label"] (sp_law_great K) := ⟨_, _, (ok_law_great (P := P) (w := w) (base := base) T F_law_great G_law_take G_law_due G_law_told), He.glo_ok X G (c.fact 59 (f := .glo "_law_great") rfl), F_law_great.kp, (F_law_great.bindsN fun _ _ _ _ _ _ us hl => match us, hl with | [_, _], _ => rfl)⟩
  exact ok_law T F_law G_law_source G_law_cell_at G_law_labels G_law_take G_law_steps G_law_told G_law_due G_law_spoiled G_law_great
end Lw
open PySem PySem.W PySem.Calls PyProof.Rows
theorem PySem.Challenge.cw_boughask_k13_questions_refused_holds : PySem.Challenge.rw_boughask_k13_questions_refused.Holds := by
  w_on; o_law
  refine HandSHeadRun.head_any (r := OpenLaw.row PySem.Challenge.rw_boughask_k13_questions_refused) (q := view (OpenLaw.row PySem.Challenge.rw_boughask_k13_questions_refused).prog [40]) (H := Lw.hk) (ob := Lw.ob) (M := 20000) (loose := Lw.loose) (d := HandSHeadRun.topDef (OpenLaw.row PySem.Challenge.rw_boughask_k13_questions_refused).prog 40) (kwd := []) Lw.ob_eq
    (by kernel_rfl) (fun s => by kernel_rfl) Lw.run (by kernel_rfl) (by kernel_rfl) (by kernel_rfl) (by rfl) (by first | assumption | decide +kernel) (by decide +kernel) ⟨rfl, rfl, rfl, rfl, rfl, by decide +kernel⟩ ?hw ?hc
  case hw => w_witness2
  case hc =>
    refine Va.walkG (l := PySem.Challenge.rw_boughask_k13_questions_refused) (n := 63) (k := 8) (x := "_law_script") rfl (by decide) (by kernel_rfl) ⟨rfl, by decide, by decide⟩ ?F
    intro w mg fa h Y G hmg0
    obtain ⟨K, KX, c, cx⟩ := Y
    have hmg : mg ("law" : PySem.Str) = some (.ref fa) := by
      have e : (HandSHeadRun.topDef (OpenLaw.row PySem.Challenge.rw_boughask_k13_questions_refused).prog 40).name = ("law" : PySem.Str) := by kernel_rfl
      rw [← e]
      exact hmg0
    obtain ⟨fd, hb, hF⟩ := Lw.facts (P := (PySem.Challenge.rw_boughask_k13_questions_refused).prog) (w := w) KX G hmg c cx
    exact ⟨K, fd, Lw.sp_law K, KX, hb, fun H a ns hl _ hS => ⟨Va.No, (ns, ()), fun b => b = true, fun _ => False, .scr (Va.Scr.of hS) .nil, fun b z => z.elim, ⟨hl, rfl⟩, fun r v H' e _ k => (by cases e; cases k; rfl), fun _ _ _ _ z => z.elim⟩, hF⟩

