import PyProof.Rows.All
import Wide.All
import OpenK.AllK
import Wide.FinOn
import HandS.ForMost
import KE.KStateDown
import HandS.ForExc
import HandS.Head0
import HandS.Head1
import HandS.Head2
import HandS.HeadEnd
import HandS.HeadHook1
import HandS.HeadHook2
import HandS.Exc
import HandS.Wide
import HandS.CallSlots
import HandS.Walk
import HandS.Lambda
import HandS.TupAny
import HandS.DeepEq
import HandS.IsInst
import HandS.ExcIs
import HandS.RaiseMore
import HandS.Deep
import HandS.ExcOwn
import HandS.Defaults
import HandS.TryOnly
import HandS.Text
import HandS.TupLe
import HandS.Dict
import HandS.Iter
import HandS.Conv
import HandS.ListItems
import HandS.Finally
import HandS.TryElse
import HandS.ExcInit
import HandS.ExcField
import KE.KExcIs
import HandS.ExcValue
import HandS.Rev
import HandS.RevRange
import PySem.Challenge.RW_toothyard_k05_errors
set_option Elab.async false
set_option linter.all false
set_option maxRecDepth 100000
set_option maxHeartbeats 40000000
namespace Y
open PySem PySem.Spec PyProof.Rows L2
def top (i : Nat) : Stmt := PySem.Challenge.pw_toothyard_k05_errors.main.body.getD i (.Pass ⟨0, 0, 0, 0⟩)
abbrev s_l_mixed : Stmt := top 13
abbrev s_l_cell_at : Stmt := top 12
abbrev s_NoRow_init : Stmt := inClass (top 4) 0
abbrev s_NoName_init : Stmt := inClass (top 4) 0
abbrev s_Twice_init : Stmt := inClass (top 4) 0
abbrev s_TooMany_init : Stmt := inClass (top 4) 0
abbrev s_l_of_rows : Stmt := top 15
abbrev s_Stuck_init : Stmt := inClass (top 9) 0
abbrev s_Free_init : Stmt := inClass (top 10) 0
abbrev s_l_made : Stmt := top 16
abbrev s_l_all : Stmt := top 14
abbrev s_l_right : Stmt := top 17
abbrev s_RowError_init : Stmt := inClass (top 4) 0
abbrev s_l_bare : Stmt := top 18
abbrev s_law : Stmt := top 19
end Y
/-! The head: what the end leans on, read by one Hook off the heap that the top leaves. -/
namespace G
open PySem PySem.Spec PyProof.Rows L2
/-- what an object names that the facts want -/
def refs1 (o : Obj) : List Addr := match o.data with
  | .dict es _ => es.toList.flatMap fun e => He.refV e.val
  | .func fd => He.refV fd.code ++ He.refV fd.defaults
  | .cls cd => [cd.ns]
  | _ => []
def next1 (g : Addr → Option Obj) (as : List Addr) : List Addr := as.flatMap fun a => match g a with
  | some o => refs1 o
  | none => []
def asX (g : Addr → Option Obj) : List Addr :=
  let l1 := next1 g [mainGlobals]
  let l2 := next1 g l1
  let l3 := next1 g l2
  let l4 := next1 g l3
  mainGlobals :: cStatics :: (l1 ++ (l2 ++ (l3 ++ l4)))
abbrev Fr := PySem.W.Frag
def obsX (fs : Fr → List Bool) (fn : List He.DefD) (K : Fr) : He.AlD := ((fs K).all id && fn.all (fun d => d.ok K), fn.map fun d => He.fnW K d.at_)
def SaysX (fs : Fr → List Bool) (fn : List He.DefD) (K : Fr) : Prop := obsX fs fn K = He.valD fn
def hookX (fs : Fr → List Bool) (fn : List He.DefD) : PySem.W.Hook where
  α := He.AlD
  obs := fun s => obsX fs fn (He.frG s.heap.get? (asX s.heap.get?))
  val := fun _ => He.valD fn
  says := fun _ h => ∃ K : Fr, K.In h ∧ SaysX fs fn K
  of := fun _ _ e => ⟨_, He.frG_in, e⟩
  keeps := fun _ _ _ z k => by
    obtain ⟨K, hK, c⟩ := z
    exact ⟨K, PySem.W.Frag.In.keeps hK k, c⟩
def obX (fs : Fr → List Bool) (fn : List He.DefD) (s : PySem.W.SharedT) : He.AlD := obsX fs fn (He.frG (HandSHeadRun.getT s) (asX (HandSHeadRun.getT s)))
theorem obX_eq (fs : Fr → List Bool) (fn : List He.DefD) (s : PySem.W.SharedT) : obX fs fn s = (hookX fs fn).obs s.abs := by
  have e : HandSHeadRun.getT s = s.abs.heap.get? := funext (HandSHeadRun.getT_eq s)
  unfold obX
  rw [e] <;> rfl
theorem SaysX.at {fs : Fr → List Bool} {fn : List He.DefD} {K : Fr} (c : SaysX fs fn K) (i : Nat) {b : Bool} (h : (fs K)[i]? = some b := by rfl) : b = true := by
  have c0 : ((fs K).all id && fn.all (fun d => d.ok K)) = true := congrArg (fun z : He.AlD => z.1) c
  exact List.all_eq_true.mp (Bool.and_eq_true_iff.mp c0).1 b (List.mem_of_getElem? h)
theorem SaysX.df {fs : Fr → List Bool} {fn : List He.DefD} {K : Fr} (c : SaysX fs fn K) (i : Nat) {d : He.DefD} (h : fn[i]? = some d := by rfl) : ∃ fd, FunD K d.name d.qual d.params d.body d.scope (d.dvs K) (d.kws K) (He.fAd K d.at_) fd := by
  have c0 : ((fs K).all id && fn.all (fun d => d.ok K)) = true := congrArg (fun z : He.AlD => z.1) c
  have e : fn.map (fun d => He.fnW K d.at_) = fn.map He.DefD.val := congrArg (fun z : He.AlD => z.2) c
  have hm := List.mem_of_getElem? h
  have e3 : He.fnW K d.at_ = d.val := by
    have e2 : (fn.map fun d => He.fnW K d.at_)[i]? = (fn.map He.DefD.val)[i]? := by rw [e]
    rw [List.getElem?_map, List.getElem?_map, h] at e2
    injection e2
  exact He.DefD.funD e3 (List.all_eq_true.mp (Bool.and_eq_true_iff.mp c0).2 d hm)
end G
/-! The head's looks at exception classes with an own __init__. -/
namespace G
open PySem
def oexB (K : PySem.W.Frag) (C : Addr) : Bool := match K.lookup C with
  | some ⟨.type "type", _, .cls cd, sl⟩ => (match cd.mro, sl.toList with
    | .ref C' :: bm, [_, _, _, _, some (.builtin n), _] => C' == C && n == "ValueError.__new__" && !cd.hasDel && PySem.HandSPX.refsVE bm && cd.hasDict
    | _, _ => false)
  | _ => false
def winB (K : PySem.W.Frag) (C : Addr) : Bool := match PySem.W.findCls K (.ref C) (.type "type") "__init__" with
  | some (.val (.builtin n)) => n == "ValueError.__init__"
  | _ => false
end G
namespace G
/-- a fact, by its piece of the list -/
theorem SaysX.ck {fs : Fr → List Bool} {fn : List He.DefD} {K : Fr} (c : SaysX fs fn K) {l : List Bool} (m : ∀ b ∈ l, b ∈ fs K) (i : Nat) {b : Bool} (h : l[i]? = some b := by rfl) : b = true := by
  have c0 : ((fs K).all id && fn.all (fun d => d.ok K)) = true := congrArg (fun z : He.AlD => z.1) c
  exact List.all_eq_true.mp (Bool.and_eq_true_iff.mp c0).1 b (m b (List.mem_of_getElem? h))
end G
namespace Y
open PySem PySem.Spec PyProof.Rows L2 G
def hd0 : He.DefD := ⟨("_law_mixed", none), "_law_mixed", "_law_mixed", defArgs s_l_mixed, defBody s_l_mixed, defScope s_l_mixed, [], []⟩
def hd1 : He.DefD := ⟨("_law_cell_at", none), "_law_cell_at", "_law_cell_at", defArgs s_l_cell_at, defBody s_l_cell_at, defScope s_l_cell_at, [], []⟩
def hd2 : He.DefD := ⟨("RowError", some "__init__"), "__init__", "RowError.__init__", defArgs s_NoRow_init, defBody s_NoRow_init, defScope s_NoRow_init, [.str ""], []⟩
def hd3 : He.DefD := ⟨("RowError", some "__init__"), "__init__", "RowError.__init__", defArgs s_NoName_init, defBody s_NoName_init, defScope s_NoName_init, [.str ""], []⟩
def hd4 : He.DefD := ⟨("RowError", some "__init__"), "__init__", "RowError.__init__", defArgs s_Twice_init, defBody s_Twice_init, defScope s_Twice_init, [.str ""], []⟩
def hd5 : He.DefD := ⟨("RowError", some "__init__"), "__init__", "RowError.__init__", defArgs s_TooMany_init, defBody s_TooMany_init, defScope s_TooMany_init, [.str ""], []⟩
def hd6 : He.DefD := ⟨("_law_of_rows", none), "_law_of_rows", "_law_of_rows", defArgs s_l_of_rows, defBody s_l_of_rows, defScope s_l_of_rows, [], []⟩
def hd7 : He.DefD := ⟨("Stuck", some "__init__"), "__init__", "Stuck.__init__", defArgs s_Stuck_init, defBody s_Stuck_init, defScope s_Stuck_init, [], []⟩
def hd8 : He.DefD := ⟨("Free", some "__init__"), "__init__", "Free.__init__", defArgs s_Free_init, defBody s_Free_init, defScope s_Free_init, [], []⟩
def hd9 : He.DefD := ⟨("_law_made", none), "_law_made", "_law_made", defArgs s_l_made, defBody s_l_made, defScope s_l_made, [], []⟩
def hd10 : He.DefD := ⟨("_law_all", none), "_law_all", "_law_all", defArgs s_l_all, defBody s_l_all, defScope s_l_all, [], []⟩
def hd11 : He.DefD := ⟨("_law_right", none), "_law_right", "_law_right", defArgs s_l_right, defBody s_l_right, defScope s_l_right, [], []⟩
def hd12 : He.DefD := ⟨("RowError", some "__init__"), "__init__", "RowError.__init__", defArgs s_RowError_init, defBody s_RowError_init, defScope s_RowError_init, [.str ""], []⟩
def hd13 : He.DefD := ⟨("_law_bare", none), "_law_bare", "_law_bare", defArgs s_l_bare, defBody s_l_bare, defScope s_l_bare, [], []⟩
def hd14 : He.DefD := ⟨("law", none), "law", "law", defArgs s_law, defBody s_law, defScope s_law, [], []⟩
def hfn0 : List He.DefD := [hd0, hd1, hd2, hd3, hd4, hd5, hd6, hd7, hd8, hd9, hd10, hd11, hd12, hd13, hd14]
def hfn : List He.DefD := hfn0
def hfs0 (K : Fr) : List Bool := [(He.Fa.free "len").ok K,
  (He.Fa.free "range").ok K,
  (He.Fa.free "list").ok K,
  (He.Fa.free "tuple").ok K,
  (He.Fa.glo "NoRow").ok K,
  (He.Fa.glo "WorkError").ok K,
  decide (PySem.W.specialIn K (.ref (He.ga K "WorkError")) "__getattribute__" = some (some (.builtin "type.__getattribute__"))),
  decide (PySem.W.readsIn K (He.ga K "WorkError") (.type "type") = true),
  winB K (He.ga K "WorkError"),
  oexB K (He.ga K "NoRow"),
  decide (PySem.W.findIn K (.ref (He.ga K "NoRow")) "__setattr__" = some (some (.builtin "object.__setattr__"))),
  decide (PySem.W.subIn K (.ref (He.ga K "NoRow")) (.type "BaseException") = some true),
  decide (PySem.W.typeIn K (.ref (He.ga K "NoRow")) = some (.type "type")),
  decide (PySem.W.keepIn K (.ref (He.ga K "NoRow")) = true),
  decide (PySem.W.findIn K (.ref (He.ga K "NoRow")) "row" = some none),
  decide (PySem.W.findIn K (.ref (He.ga K "NoRow")) "word" = some none),
  (He.Fa.glo "NoName").ok K,
  oexB K (He.ga K "NoName"),
  decide (PySem.W.findIn K (.ref (He.ga K "NoName")) "__setattr__" = some (some (.builtin "object.__setattr__"))),
  decide (PySem.W.subIn K (.ref (He.ga K "NoName")) (.type "BaseException") = some true),
  decide (PySem.W.typeIn K (.ref (He.ga K "NoName")) = some (.type "type")),
  decide (PySem.W.keepIn K (.ref (He.ga K "NoName")) = true),
  decide (PySem.W.findIn K (.ref (He.ga K "NoName")) "row" = some none),
  decide (PySem.W.findIn K (.ref (He.ga K "NoName")) "word" = some none),
  (He.Fa.glo "Twice").ok K,
  oexB K (He.ga K "Twice"),
  decide (PySem.W.findIn K (.ref (He.ga K "Twice")) "__setattr__" = some (some (.builtin "object.__setattr__"))),
  decide (PySem.W.subIn K (.ref (He.ga K "Twice")) (.type "BaseException") = some true),
  decide (PySem.W.typeIn K (.ref (He.ga K "Twice")) = some (.type "type")),
  decide (PySem.W.keepIn K (.ref (He.ga K "Twice")) = true)]
def hfs1 (K : Fr) : List Bool := [decide (PySem.W.findIn K (.ref (He.ga K "Twice")) "row" = some none),
  decide (PySem.W.findIn K (.ref (He.ga K "Twice")) "word" = some none),
  (He.Fa.glo "TooMany").ok K,
  oexB K (He.ga K "TooMany"),
  decide (PySem.W.findIn K (.ref (He.ga K "TooMany")) "__setattr__" = some (some (.builtin "object.__setattr__"))),
  decide (PySem.W.subIn K (.ref (He.ga K "TooMany")) (.type "BaseException") = some true),
  decide (PySem.W.typeIn K (.ref (He.ga K "TooMany")) = some (.type "type")),
  decide (PySem.W.keepIn K (.ref (He.ga K "TooMany")) = true),
  decide (PySem.W.findIn K (.ref (He.ga K "TooMany")) "row" = some none),
  decide (PySem.W.findIn K (.ref (He.ga K "TooMany")) "word" = some none),
  (He.Fa.glo "Stuck").ok K,
  oexB K (He.ga K "Stuck"),
  decide (PySem.W.findIn K (.ref (He.ga K "Stuck")) "__setattr__" = some (some (.builtin "object.__setattr__"))),
  decide (PySem.W.subIn K (.ref (He.ga K "Stuck")) (.type "BaseException") = some true),
  decide (PySem.W.typeIn K (.ref (He.ga K "Stuck")) = some (.type "type")),
  decide (PySem.W.keepIn K (.ref (He.ga K "Stuck")) = true),
  decide (PySem.W.findIn K (.ref (He.ga K "Stuck")) "rows" = some none),
  (He.Fa.glo "Free").ok K,
  oexB K (He.ga K "Free"),
  decide (PySem.W.findIn K (.ref (He.ga K "Free")) "__setattr__" = some (some (.builtin "object.__setattr__"))),
  decide (PySem.W.subIn K (.ref (He.ga K "Free")) (.type "BaseException") = some true),
  decide (PySem.W.typeIn K (.ref (He.ga K "Free")) = some (.type "type")),
  decide (PySem.W.keepIn K (.ref (He.ga K "Free")) = true),
  decide (PySem.W.findIn K (.ref (He.ga K "Free")) "name" = some none),
  (He.Fa.free "str").ok K,
  (He.Fa.glo "NoRatio").ok K,
  decide (PySem.W.excIn K (He.ga K "NoRatio") [.type "ValueError", .type "Exception", .type "BaseException", .type "object"] "ValueError.__new__" = true),
  decide (PySem.W.keepIn K (.ref (He.ga K "NoRatio")) = true),
  decide (PySem.W.subIn K (.ref (He.ga K "NoRatio")) (.type "BaseException") = some true),
  decide (PySem.W.typeIn K (.ref (He.ga K "NoRatio")) = some (.type "type"))]
def hfs2 (K : Fr) : List Bool := [(He.Fa.glo "NoAsk").ok K,
  decide (PySem.W.excIn K (He.ga K "NoAsk") [.type "ValueError", .type "Exception", .type "BaseException", .type "object"] "ValueError.__new__" = true),
  decide (PySem.W.keepIn K (.ref (He.ga K "NoAsk")) = true),
  decide (PySem.W.subIn K (.ref (He.ga K "NoAsk")) (.type "BaseException") = some true),
  decide (PySem.W.typeIn K (.ref (He.ga K "NoAsk")) = some (.type "type")),
  (He.Fa.free "isinstance").ok K,
  (He.Fa.free "ValueError").ok K,
  (He.Fa.glo "RowError").ok K,
  (He.Fa.free "int").ok K,
  oexB K (He.ga K "RowError"),
  decide (PySem.W.findIn K (.ref (He.ga K "RowError")) "__setattr__" = some (some (.builtin "object.__setattr__"))),
  decide (PySem.W.subIn K (.ref (He.ga K "RowError")) (.type "BaseException") = some true),
  decide (PySem.W.typeIn K (.ref (He.ga K "RowError")) = some (.type "type")),
  decide (PySem.W.keepIn K (.ref (He.ga K "RowError")) = true),
  decide (PySem.W.findIn K (.ref (He.ga K "RowError")) "row" = some none),
  decide (PySem.W.findIn K (.ref (He.ga K "RowError")) "word" = some none),
  (He.Fa.glo "_law_mixed").ok K,
  (He.Fa.glo "_law_cell_at").ok K,
  decide (PySem.W.findIn K (.ref (He.ga K "NoRow")) "__init__" = some (some (.ref (He.ma K (He.ga K "RowError") "__init__")))),
  decide (PySem.W.typeIn K (.ref (He.ma K (He.ga K "RowError") "__init__")) = some (.type "function")),
  decide (PySem.W.findIn K (.ref (He.ga K "NoName")) "__init__" = some (some (.ref (He.ma K (He.ga K "RowError") "__init__")))),
  decide (PySem.W.findIn K (.ref (He.ga K "Twice")) "__init__" = some (some (.ref (He.ma K (He.ga K "RowError") "__init__")))),
  decide (PySem.W.findIn K (.ref (He.ga K "TooMany")) "__init__" = some (some (.ref (He.ma K (He.ga K "RowError") "__init__")))),
  (He.Fa.glo "_law_of_rows").ok K,
  decide (PySem.W.findIn K (.ref (He.ga K "Stuck")) "__init__" = some (some (.ref (He.ma K (He.ga K "Stuck") "__init__")))),
  decide (PySem.W.typeIn K (.ref (He.ma K (He.ga K "Stuck") "__init__")) = some (.type "function")),
  decide (PySem.W.findIn K (.ref (He.ga K "Free")) "__init__" = some (some (.ref (He.ma K (He.ga K "Free") "__init__")))),
  decide (PySem.W.typeIn K (.ref (He.ma K (He.ga K "Free") "__init__")) = some (.type "function")),
  (He.Fa.glo "_law_made").ok K,
  (He.Fa.glo "_law_all").ok K]
def hfs3 (K : Fr) : List Bool := [(He.Fa.glo "_law_right").ok K,
  decide (PySem.W.findIn K (.ref (He.ga K "RowError")) "__init__" = some (some (.ref (He.ma K (He.ga K "RowError") "__init__")))),
  (He.Fa.glo "_law_bare").ok K,
  (He.Fa.glo "law").ok K,
  decide (PySem.W.findIn K (.ref (He.ga K "Free")) "__getattribute__" = some (some (.builtin "BaseException.__getattribute__"))),
  decide (PySem.W.findIn K (.ref (He.ga K "Free")) "__getattr__" = some none),
  decide (PySem.W.hasDictIn K (He.ga K "Free") = true),
  decide (PySem.W.findIn K (.ref (He.ga K "RowError")) "__getattribute__" = some (some (.builtin "BaseException.__getattribute__"))),
  decide (PySem.W.findIn K (.ref (He.ga K "RowError")) "__getattr__" = some none),
  decide (PySem.W.hasDictIn K (He.ga K "RowError") = true),
  decide (PySem.W.findIn K (.ref (He.ga K "NoRow")) "__getattribute__" = some (some (.builtin "BaseException.__getattribute__"))),
  decide (PySem.W.findIn K (.ref (He.ga K "NoRow")) "__getattr__" = some none),
  decide (PySem.W.hasDictIn K (He.ga K "NoRow") = true),
  decide (PySem.W.findIn K (.ref (He.ga K "NoName")) "__getattribute__" = some (some (.builtin "BaseException.__getattribute__"))),
  decide (PySem.W.findIn K (.ref (He.ga K "NoName")) "__getattr__" = some none),
  decide (PySem.W.hasDictIn K (He.ga K "NoName") = true),
  decide (PySem.W.findIn K (.ref (He.ga K "Twice")) "__getattribute__" = some (some (.builtin "BaseException.__getattribute__"))),
  decide (PySem.W.findIn K (.ref (He.ga K "Twice")) "__getattr__" = some none),
  decide (PySem.W.hasDictIn K (He.ga K "Twice") = true),
  decide (PySem.W.findIn K (.ref (He.ga K "TooMany")) "__getattribute__" = some (some (.builtin "BaseException.__getattribute__"))),
  decide (PySem.W.findIn K (.ref (He.ga K "TooMany")) "__getattr__" = some none),
  decide (PySem.W.hasDictIn K (He.ga K "TooMany") = true),
  decide (PySem.W.findIn K (.ref (He.ga K "Stuck")) "__getattribute__" = some (some (.builtin "BaseException.__getattribute__"))),
  decide (PySem.W.findIn K (.ref (He.ga K "Stuck")) "__getattr__" = some none),
  decide (PySem.W.hasDictIn K (He.ga K "Stuck") = true),
  decide (PySem.W.kitOne K (.ref (He.ga K "NoRatio")) (.ref (He.ga K "TooMany")) = some false),
  decide (PySem.W.findIn K (.ref (He.ga K "NoRatio")) "__getattribute__" = some (some (.builtin "BaseException.__getattribute__"))),
  decide (PySem.W.findIn K (.ref (He.ga K "NoRatio")) "__getattr__" = some none),
  decide (PySem.W.hasDictIn K (He.ga K "NoRatio") = true),
  decide (PySem.W.findIn K (.ref (He.ga K "NoRatio")) "__class__" = some (some (.builtin "object.__class__")))]
def hfs4 (K : Fr) : List Bool := [decide (PySem.W.specialIn K (.builtin "object.__class__") "__get__" = some (some (.builtin "getset_descriptor.__get__"))),
  decide (PySem.W.takesIn K (.builtin "object.__class__") = some true),
  decide (PySem.W.mroIn K (He.ga K "NoRatio") (.type "object") = some true),
  decide (PySem.W.kitOne K (.ref (He.ga K "NoAsk")) (.ref (He.ga K "TooMany")) = some false),
  decide (PySem.W.findIn K (.ref (He.ga K "NoAsk")) "__getattribute__" = some (some (.builtin "BaseException.__getattribute__"))),
  decide (PySem.W.findIn K (.ref (He.ga K "NoAsk")) "__getattr__" = some none),
  decide (PySem.W.hasDictIn K (He.ga K "NoAsk") = true),
  decide (PySem.W.findIn K (.ref (He.ga K "NoAsk")) "__class__" = some (some (.builtin "object.__class__"))),
  decide (PySem.W.mroIn K (He.ga K "NoAsk") (.type "object") = some true),
  decide (PySem.W.kitOne K (.ref (He.ga K "RowError")) (.ref (He.ga K "TooMany")) = some false),
  decide (PySem.W.findIn K (.ref (He.ga K "RowError")) "__class__" = some (some (.builtin "object.__class__"))),
  decide (PySem.W.mroIn K (He.ga K "RowError") (.type "object") = some true),
  decide (PySem.W.kitOne K (.ref (He.ga K "NoRow")) (.ref (He.ga K "TooMany")) = some false),
  decide (PySem.W.findIn K (.ref (He.ga K "NoRow")) "__class__" = some (some (.builtin "object.__class__"))),
  decide (PySem.W.mroIn K (He.ga K "NoRow") (.type "object") = some true),
  decide (PySem.W.kitOne K (.ref (He.ga K "NoName")) (.ref (He.ga K "TooMany")) = some false),
  decide (PySem.W.findIn K (.ref (He.ga K "NoName")) "__class__" = some (some (.builtin "object.__class__"))),
  decide (PySem.W.mroIn K (He.ga K "NoName") (.type "object") = some true),
  decide (PySem.W.kitOne K (.ref (He.ga K "Twice")) (.ref (He.ga K "TooMany")) = some false),
  decide (PySem.W.findIn K (.ref (He.ga K "Twice")) "__class__" = some (some (.builtin "object.__class__"))),
  decide (PySem.W.mroIn K (He.ga K "Twice") (.type "object") = some true),
  decide (PySem.W.kitOne K (.ref (He.ga K "TooMany")) (.ref (He.ga K "TooMany")) = some true),
  decide (PySem.W.findIn K (.ref (He.ga K "TooMany")) "__class__" = some (some (.builtin "object.__class__"))),
  decide (PySem.W.mroIn K (He.ga K "TooMany") (.type "object") = some true),
  decide (PySem.W.kitOne K (.ref (He.ga K "Stuck")) (.ref (He.ga K "TooMany")) = some false),
  decide (PySem.W.findIn K (.ref (He.ga K "Stuck")) "__class__" = some (some (.builtin "object.__class__"))),
  decide (PySem.W.mroIn K (He.ga K "Stuck") (.type "object") = some true),
  decide (PySem.W.kitOne K (.ref (He.ga K "Free")) (.ref (He.ga K "TooMany")) = some false),
  decide (PySem.W.findIn K (.ref (He.ga K "Free")) "__class__" = some (some (.builtin "object.__class__"))),
  decide (PySem.W.mroIn K (He.ga K "Free") (.type "object") = some true)]
def hfs5 (K : Fr) : List Bool := [decide (PySem.W.kitOne K (.ref (He.ga K "NoRatio")) (.ref (He.ga K "Twice")) = some false),
  decide (PySem.W.kitOne K (.ref (He.ga K "NoAsk")) (.ref (He.ga K "Twice")) = some false),
  decide (PySem.W.kitOne K (.ref (He.ga K "RowError")) (.ref (He.ga K "Twice")) = some false),
  decide (PySem.W.kitOne K (.ref (He.ga K "NoRow")) (.ref (He.ga K "Twice")) = some false),
  decide (PySem.W.kitOne K (.ref (He.ga K "NoName")) (.ref (He.ga K "Twice")) = some false),
  decide (PySem.W.kitOne K (.ref (He.ga K "Twice")) (.ref (He.ga K "Twice")) = some true),
  decide (PySem.W.kitOne K (.ref (He.ga K "TooMany")) (.ref (He.ga K "Twice")) = some false),
  decide (PySem.W.kitOne K (.ref (He.ga K "Stuck")) (.ref (He.ga K "Twice")) = some false),
  decide (PySem.W.kitOne K (.ref (He.ga K "Free")) (.ref (He.ga K "Twice")) = some false),
  decide (PySem.W.kitOne K (.ref (He.ga K "NoRatio")) (.ref (He.ga K "NoName")) = some false),
  decide (PySem.W.kitOne K (.ref (He.ga K "NoAsk")) (.ref (He.ga K "NoName")) = some false),
  decide (PySem.W.kitOne K (.ref (He.ga K "RowError")) (.ref (He.ga K "NoName")) = some false),
  decide (PySem.W.kitOne K (.ref (He.ga K "NoRow")) (.ref (He.ga K "NoName")) = some false),
  decide (PySem.W.kitOne K (.ref (He.ga K "NoName")) (.ref (He.ga K "NoName")) = some true),
  decide (PySem.W.kitOne K (.ref (He.ga K "Twice")) (.ref (He.ga K "NoName")) = some false),
  decide (PySem.W.kitOne K (.ref (He.ga K "TooMany")) (.ref (He.ga K "NoName")) = some false),
  decide (PySem.W.kitOne K (.ref (He.ga K "Stuck")) (.ref (He.ga K "NoName")) = some false),
  decide (PySem.W.kitOne K (.ref (He.ga K "Free")) (.ref (He.ga K "NoName")) = some false),
  decide (PySem.W.kitOne K (.ref (He.ga K "NoRatio")) (.ref (He.ga K "NoRow")) = some false),
  decide (PySem.W.kitOne K (.ref (He.ga K "NoAsk")) (.ref (He.ga K "NoRow")) = some false),
  decide (PySem.W.kitOne K (.ref (He.ga K "RowError")) (.ref (He.ga K "NoRow")) = some false),
  decide (PySem.W.kitOne K (.ref (He.ga K "NoRow")) (.ref (He.ga K "NoRow")) = some true),
  decide (PySem.W.kitOne K (.ref (He.ga K "NoName")) (.ref (He.ga K "NoRow")) = some false),
  decide (PySem.W.kitOne K (.ref (He.ga K "Twice")) (.ref (He.ga K "NoRow")) = some false),
  decide (PySem.W.kitOne K (.ref (He.ga K "TooMany")) (.ref (He.ga K "NoRow")) = some false),
  decide (PySem.W.kitOne K (.ref (He.ga K "Stuck")) (.ref (He.ga K "NoRow")) = some false),
  decide (PySem.W.kitOne K (.ref (He.ga K "Free")) (.ref (He.ga K "NoRow")) = some false),
  decide (PySem.W.kitOne K (.ref (He.ga K "NoRatio")) (.ref (He.ga K "NoAsk")) = some false),
  decide (PySem.W.kitOne K (.ref (He.ga K "NoAsk")) (.ref (He.ga K "NoAsk")) = some true),
  decide (PySem.W.kitOne K (.ref (He.ga K "RowError")) (.ref (He.ga K "NoAsk")) = some false)]
def hfs6 (K : Fr) : List Bool := [decide (PySem.W.kitOne K (.ref (He.ga K "NoRow")) (.ref (He.ga K "NoAsk")) = some false),
  decide (PySem.W.kitOne K (.ref (He.ga K "NoName")) (.ref (He.ga K "NoAsk")) = some false),
  decide (PySem.W.kitOne K (.ref (He.ga K "Twice")) (.ref (He.ga K "NoAsk")) = some false),
  decide (PySem.W.kitOne K (.ref (He.ga K "TooMany")) (.ref (He.ga K "NoAsk")) = some false),
  decide (PySem.W.kitOne K (.ref (He.ga K "Stuck")) (.ref (He.ga K "NoAsk")) = some false),
  decide (PySem.W.kitOne K (.ref (He.ga K "Free")) (.ref (He.ga K "NoAsk")) = some false),
  decide (PySem.W.kitOne K (.ref (He.ga K "NoRatio")) (.ref (He.ga K "NoRatio")) = some true),
  decide (PySem.W.kitOne K (.ref (He.ga K "NoAsk")) (.ref (He.ga K "NoRatio")) = some false),
  decide (PySem.W.kitOne K (.ref (He.ga K "RowError")) (.ref (He.ga K "NoRatio")) = some false),
  decide (PySem.W.kitOne K (.ref (He.ga K "NoRow")) (.ref (He.ga K "NoRatio")) = some false),
  decide (PySem.W.kitOne K (.ref (He.ga K "NoName")) (.ref (He.ga K "NoRatio")) = some false),
  decide (PySem.W.kitOne K (.ref (He.ga K "Twice")) (.ref (He.ga K "NoRatio")) = some false),
  decide (PySem.W.kitOne K (.ref (He.ga K "TooMany")) (.ref (He.ga K "NoRatio")) = some false),
  decide (PySem.W.kitOne K (.ref (He.ga K "Stuck")) (.ref (He.ga K "NoRatio")) = some false),
  decide (PySem.W.kitOne K (.ref (He.ga K "Free")) (.ref (He.ga K "NoRatio")) = some false),
  decide (PySem.W.kitOne K (.ref (He.ga K "NoRatio")) (.ref (He.ga K "Free")) = some false),
  decide (PySem.W.kitOne K (.ref (He.ga K "NoAsk")) (.ref (He.ga K "Free")) = some false),
  decide (PySem.W.kitOne K (.ref (He.ga K "RowError")) (.ref (He.ga K "Free")) = some false),
  decide (PySem.W.kitOne K (.ref (He.ga K "NoRow")) (.ref (He.ga K "Free")) = some false),
  decide (PySem.W.kitOne K (.ref (He.ga K "NoName")) (.ref (He.ga K "Free")) = some false),
  decide (PySem.W.kitOne K (.ref (He.ga K "Twice")) (.ref (He.ga K "Free")) = some false),
  decide (PySem.W.kitOne K (.ref (He.ga K "TooMany")) (.ref (He.ga K "Free")) = some false),
  decide (PySem.W.kitOne K (.ref (He.ga K "Stuck")) (.ref (He.ga K "Free")) = some false),
  decide (PySem.W.kitOne K (.ref (He.ga K "Free")) (.ref (He.ga K "Free")) = some true),
  decide (PySem.W.kitOne K (.ref (He.ga K "NoRatio")) (.ref (He.ga K "Stuck")) = some false),
  decide (PySem.W.kitOne K (.ref (He.ga K "NoAsk")) (.ref (He.ga K "Stuck")) = some false),
  decide (PySem.W.kitOne K (.ref (He.ga K "RowError")) (.ref (He.ga K "Stuck")) = some false),
  decide (PySem.W.kitOne K (.ref (He.ga K "NoRow")) (.ref (He.ga K "Stuck")) = some false),
  decide (PySem.W.kitOne K (.ref (He.ga K "NoName")) (.ref (He.ga K "Stuck")) = some false),
  decide (PySem.W.kitOne K (.ref (He.ga K "Twice")) (.ref (He.ga K "Stuck")) = some false)]
def hfs7 (K : Fr) : List Bool := [decide (PySem.W.kitOne K (.ref (He.ga K "TooMany")) (.ref (He.ga K "Stuck")) = some false),
  decide (PySem.W.kitOne K (.ref (He.ga K "Stuck")) (.ref (He.ga K "Stuck")) = some true),
  decide (PySem.W.kitOne K (.ref (He.ga K "Free")) (.ref (He.ga K "Stuck")) = some false),
  decide (PySem.W.kitOne K (.ref (He.ga K "NoRatio")) (.ref (He.ga K "WorkError")) = some true),
  decide (PySem.W.kitOne K (.ref (He.ga K "NoAsk")) (.ref (He.ga K "WorkError")) = some true),
  decide (PySem.W.kitOne K (.ref (He.ga K "RowError")) (.ref (He.ga K "WorkError")) = some true),
  decide (PySem.W.kitOne K (.ref (He.ga K "NoRow")) (.ref (He.ga K "WorkError")) = some true),
  decide (PySem.W.kitOne K (.ref (He.ga K "NoName")) (.ref (He.ga K "WorkError")) = some true),
  decide (PySem.W.kitOne K (.ref (He.ga K "Twice")) (.ref (He.ga K "WorkError")) = some true),
  decide (PySem.W.kitOne K (.ref (He.ga K "TooMany")) (.ref (He.ga K "WorkError")) = some true),
  decide (PySem.W.kitOne K (.ref (He.ga K "Stuck")) (.ref (He.ga K "WorkError")) = some true),
  decide (PySem.W.kitOne K (.ref (He.ga K "Free")) (.ref (He.ga K "WorkError")) = some true),
  decide (PySem.W.kitOne K (.ref (He.ga K "NoRatio")) (.type "ValueError") = some true),
  decide (PySem.W.kitOne K (.ref (He.ga K "NoAsk")) (.type "ValueError") = some true),
  decide (PySem.W.kitOne K (.ref (He.ga K "RowError")) (.type "ValueError") = some true),
  decide (PySem.W.kitOne K (.ref (He.ga K "NoRow")) (.type "ValueError") = some true),
  decide (PySem.W.kitOne K (.ref (He.ga K "NoName")) (.type "ValueError") = some true),
  decide (PySem.W.kitOne K (.ref (He.ga K "Twice")) (.type "ValueError") = some true),
  decide (PySem.W.kitOne K (.ref (He.ga K "TooMany")) (.type "ValueError") = some true),
  decide (PySem.W.kitOne K (.ref (He.ga K "Stuck")) (.type "ValueError") = some true),
  decide (PySem.W.kitOne K (.ref (He.ga K "Free")) (.type "ValueError") = some true),
  decide (PySem.W.kitOne K (.ref (He.ga K "NoRatio")) (.ref (He.ga K "RowError")) = some false),
  decide (PySem.W.kitOne K (.ref (He.ga K "NoAsk")) (.ref (He.ga K "RowError")) = some false),
  decide (PySem.W.kitOne K (.ref (He.ga K "RowError")) (.ref (He.ga K "RowError")) = some true),
  decide (PySem.W.kitOne K (.ref (He.ga K "NoRow")) (.ref (He.ga K "RowError")) = some true),
  decide (PySem.W.kitOne K (.ref (He.ga K "NoName")) (.ref (He.ga K "RowError")) = some true),
  decide (PySem.W.kitOne K (.ref (He.ga K "Twice")) (.ref (He.ga K "RowError")) = some true),
  decide (PySem.W.kitOne K (.ref (He.ga K "TooMany")) (.ref (He.ga K "RowError")) = some true),
  decide (PySem.W.kitOne K (.ref (He.ga K "Stuck")) (.ref (He.ga K "RowError")) = some false),
  decide (PySem.W.kitOne K (.ref (He.ga K "Free")) (.ref (He.ga K "RowError")) = some false)]
def hfs (K : Fr) : List Bool := hfs0 K ++ hfs1 K ++ hfs2 K ++ hfs3 K ++ hfs4 K ++ hfs5 K ++ hfs6 K ++ hfs7 K
def hnames : List PySem.Str := (["__name__", "WorkError", "NoRatio", "NoAsk", "RowError", "NoRow", "NoName", "Twice", "TooMany", "Stuck", "Free", "_law_cell_at", "_law_mixed", "_law_all", "_law_of_rows", "_law_made", "_law_right", "_law_bare"] : List PySem.Str)
theorem hrun (w : World) : HandSHeadRun.RunEq (PySem.W.OpenLaw.row PySem.Challenge.rw_toothyard_k05_errors) (PySem.W.view (PySem.W.OpenLaw.row PySem.Challenge.rw_toothyard_k05_errors).prog [19]) (hookX hfs hfn) (obX hfs hfn) 30000 hnames w := by
  intro os
  kernel_rfl
end Y
/-! The engine, part 1: data D, worlds, what represents what, results and their posts. -/
namespace G
open PySem PySem.Spec PyProof.Rows L2

/-- data: what does not change, by its content; ref: a place of the mutable store -/
inductive D where
  | non | bl (b : Bool) | int (i : Int) | str (s : Str)
  | tup (l : List D) | lst (l : List D) | scr (l : List D)
  | dct (ks : List Key) (l : List D)
  | obj (c : Nat) (l : List D)
  | exc (c : Nat) (l : List D)
  | ref (n : Nat)
  | vls (vs : List V) (l : List D)
  /-- a lambda: its object, its code object, what it captured -/
  | lam (f c : Addr) (q : Str) (vs : List V) (l : List D)

inductive MO where
  | dead | lst (l : List D) | dct (ks : List Key) (l : List D) | ins (c : Nat) (l : List D) | ldct (ks : List Key) (l : List D) | llst (l : List D) | tab (k : Nat) (q : Str)
abbrev AH := List MO
inductive Sl where
  | no | val (d : D) | own (o : MO)
abbrev En := List Sl

structure Tb where
  K : PySem.W.Frag
  cl : Nat → Addr
  fl : Nat → List Str
  xl : Nat → List Str
  /-- the tables of code objects: numbers, and the names that they tell -/
  tl : List (Nat × Str)

structure Wd where
  Hf : Hp
  ρ : List Addr
  /-- what a loop walks: locked -/
  Lk : Hp

/-- an exception that was caught and kept: its object -/
def ExcK (cls : Value) (d : Option Addr) (a : Addr) : HO := .ext fun h => ∃ (oe : Obj) (vs : Array Value), h.get? a = some oe ∧ Zc cls d oe ∧ oe.data = .fields vs

mutual
def Rep (t : Tb) (w : Wd) : D → V → Prop
  | .non, v => v = .non
  | .bl b, v => v = .bl b
  | .int i, v => v = .int i
  | .str s, v => v = .str s
  | .tup l, v => ∃ p vs, v = .ref p ∧ SqT t.K w.Hf p vs ∧ Reps t w l vs
  | .lst l, v => ∃ p vs, v = .ref p ∧ w.Hf p = some (.lst vs) ∧ Reps t w l vs
  | .scr l, v => ∃ p vs, v = .ref p ∧ SqL t.K w.Hf p vs ∧ Reps t w l vs
  | .dct ks l, v => ∃ p od vs, v = .ref p ∧ w.Hf p = some (.frz od (.dK (ks.zip vs))) ∧ ks.length = vs.length ∧ Reps t w l vs
  | .obj c l, v => ∃ p dx vs, v = .ref p ∧ w.Hf p = some (.ins (t.cl c) dx ((t.fl c).zip vs)) ∧ vs.length = (t.fl c).length ∧ Reps t w l vs
  | .exc c l, v => ∃ p d, v = .ref p ∧ w.Hf p = some (ExcK (.ref (t.cl c)) d p) ∧
      ((l = [] ∧ d = none) ∨ (l ≠ [] ∧ ∃ dx vs, d = some dx ∧ w.Hf dx = some (.xd ((t.xl c).zip vs)) ∧ vs.length = (t.xl c).length ∧ Reps t w l vs))
  | .ref n, v => ∃ p, v = .ref p ∧ w.ρ[n]? = some p
  | .vls vs l, v => ∃ p, v = .ref p ∧ w.Hf p = some (.lst vs) ∧ Reps t w l vs
  | .lam f c q vs l, v => v = .ref f ∧ w.Hf c = some (LamX.CodeO c q) ∧ Reps t w l vs
def Reps (t : Tb) (w : Wd) : List D → List V → Prop
  | [], vs => vs = []
  | d :: l, vs => ∃ v r, vs = v :: r ∧ Rep t w d v ∧ Reps t w l r
end

theorem reps_len {t : Tb} {w : Wd} : ∀ {l : List D} {vs : List V}, Reps t w l vs → l.length = vs.length
  | [], vs, h => by
    simp only [Reps] at h
    subst h
    rfl
  | d :: l, vs, h => by
    simp only [Reps] at h
    obtain ⟨v, r, rfl, _, h2⟩ := h
    rw [List.length_cons, List.length_cons, reps_len h2]
theorem reps_get {t : Tb} {w : Wd} : ∀ {l : List D} {vs : List V} {i : Nat} {d : D}, Reps t w l vs → l[i]? = some d → ∃ v, vs[i]? = some v ∧ Rep t w d v
  | [], vs, i, d, h, e => by simp at e
  | d :: l, vs, i, x, h, e => by
    simp only [Reps] at h
    obtain ⟨v, r, rfl, h1, h2⟩ := h
    cases i with
    | zero =>
      simp at e
      subst e
      exact ⟨v, by simp, h1⟩
    | succ i =>
      obtain ⟨u, e1, e2⟩ := reps_get (i := i) h2 (by simpa using e)
      exact ⟨u, by simpa using e1, e2⟩
theorem reps_getv {t : Tb} {w : Wd} {l : List D} {vs : List V} {i : Nat} {v : V} (h : Reps t w l vs) (e : vs[i]? = some v) : ∃ d, l[i]? = some d ∧ Rep t w d v := by
  have hi : i < l.length := by
    rw [reps_len h]
    exact (List.getElem?_eq_some_iff.mp e).1
  obtain ⟨u, e1, e2⟩ := reps_get (i := i) (d := l[i]) h (by simp [hi])
  rw [e] at e1
  cases e1
  exact ⟨l[i], by simp [hi], e2⟩
theorem reps_append {t : Tb} {w : Wd} : ∀ {l m : List D} {vs us : List V}, Reps t w l vs → Reps t w m us → Reps t w (l ++ m) (vs ++ us)
  | [], m, vs, us, h, h2 => by
    simp only [Reps] at h
    subst h
    exact h2
  | d :: l, m, vs, us, h, h2 => by
    simp only [Reps] at h
    obtain ⟨v, r, rfl, h1, h3⟩ := h
    show Reps t w (d :: (l ++ m)) _
    simp only [Reps]
    exact ⟨v, r ++ us, rfl, h1, reps_append h3 h2⟩
theorem reps_one {t : Tb} {w : Wd} {d : D} {v : V} (h : Rep t w d v) : Reps t w [d] [v] := by
  unfold Reps
  refine ⟨v, [], rfl, h, ?_⟩
  unfold Reps
  rfl
theorem reps_take {t : Tb} {w : Wd} : ∀ (n : Nat) {l : List D} {vs : List V}, Reps t w l vs → Reps t w (l.take n) (vs.take n)
  | 0, l, vs, h => by
    show Reps t w [] []
    simp only [Reps]
  | n + 1, [], vs, h => by
    simp only [Reps] at h
    subst h
    show Reps t w [] []
    simp only [Reps]
  | n + 1, d :: l, vs, h => by
    simp only [Reps] at h
    obtain ⟨v, r, rfl, h1, h3⟩ := h
    show Reps t w (d :: l.take n) (v :: r.take n)
    simp only [Reps]
    exact ⟨v, r.take n, rfl, h1, reps_take n h3⟩
theorem reps_drop {t : Tb} {w : Wd} : ∀ (n : Nat) {l : List D} {vs : List V}, Reps t w l vs → Reps t w (l.drop n) (vs.drop n)
  | 0, l, vs, h => h
  | n + 1, [], vs, h => by
    simp only [Reps] at h
    subst h
    show Reps t w [] []
    simp only [Reps]
  | n + 1, d :: l, vs, h => by
    simp only [Reps] at h
    obtain ⟨v, r, rfl, h1, h3⟩ := h
    exact reps_drop n h3
theorem reps_set {t : Tb} {w : Wd} {d : D} {v : V} (h : Rep t w d v) : ∀ {l : List D} {vs : List V} (n : Nat), Reps t w l vs → Reps t w (l.set n d) (vs.set n v)
  | [], vs, n, q => by
    simp only [Reps] at q
    subst q
    show Reps t w [] []
    simp only [Reps]
  | e :: l, vs, 0, q => by
    simp only [Reps] at q
    obtain ⟨u, r, rfl, h1, h3⟩ := q
    show Reps t w (d :: l) (v :: r)
    simp only [Reps]
    exact ⟨v, r, rfl, h, h3⟩
  | e :: l, vs, n + 1, q => by
    simp only [Reps] at q
    obtain ⟨u, r, rfl, h1, h3⟩ := q
    show Reps t w (e :: l.set n d) (u :: r.set n v)
    simp only [Reps]
    exact ⟨u, r.set n v, rfl, h1, reps_set h n h3⟩
theorem reps_ints {t : Tb} {w : Wd} : ∀ (ns : List Int), Reps t w (ns.map D.int) (ns.map V.int)
  | [] => by
    show Reps t w [] []
    simp only [Reps]
  | n :: r => by
    show Reps t w (D.int n :: r.map D.int) (V.int n :: r.map V.int)
    simp only [Reps]
    exact ⟨.int n, r.map V.int, rfl, by simp [Rep], reps_ints r⟩

theorem same_sqT {K : PySem.W.Frag} {H H' : Hp} {a : Addr} {xs : List V} (e : Same H H') (h : SqT K H a xs) : SqT K H' a xs := by
  rcases h with (h | ⟨o, h⟩) | h
  · exact .inl (.inl (e _ _ h))
  · exact .inl (.inr ⟨o, e _ _ h⟩)
  · exact .inr h
structure Wlq (w w' : Wd) : Prop where
  hf : Same w.Hf w'.Hf
  rho : ∀ (n : Nat) (a : Addr), w.ρ[n]? = some a → w'.ρ[n]? = some a
theorem Wlq.refl (w : Wd) : Wlq w w := ⟨Same.refl _, fun _ _ h => h⟩
theorem Wlq.trans {a b c : Wd} (x : Wlq a b) (y : Wlq b c) : Wlq a c := ⟨x.hf.trans y.hf, fun n z h => y.rho n z (x.rho n z h)⟩
structure Wle (w w' : Wd) : Prop where
  hf : Same w.Hf w'.Hf
  rho : ∀ (n : Nat) (a : Addr), w.ρ[n]? = some a → w'.ρ[n]? = some a
  lk : w'.Lk = w.Lk
theorem Wle.refl (w : Wd) : Wle w w := ⟨Same.refl _, fun _ _ h => h, rfl⟩
theorem Wle.trans {a b c : Wd} (x : Wle a b) (y : Wle b c) : Wle a c := ⟨x.hf.trans y.hf, fun n z h => y.rho n z (x.rho n z h), y.lk.trans x.lk⟩
mutual
theorem Rep.mono0 {t : Tb} {w w' : Wd} (l : Wlq w w') : ∀ (d : D) {v : V}, Rep t w d v → Rep t w' d v
  | .non, v, h => h
  | .bl b, v, h => h
  | .int i, v, h => h
  | .str s, v, h => h
  | .tup m, v, h => by
    simp only [Rep] at h ⊢
    obtain ⟨p, vs, e, q, r⟩ := h
    exact ⟨p, vs, e, same_sqT l.hf q, Reps.mono0 l m r⟩
  | .lst m, v, h => by
    simp only [Rep] at h ⊢
    obtain ⟨p, vs, e, q, r⟩ := h
    exact ⟨p, vs, e, l.hf _ _ q, Reps.mono0 l m r⟩
  | .scr m, v, h => by
    simp only [Rep] at h ⊢
    obtain ⟨p, vs, e, q, r⟩ := h
    exact ⟨p, vs, e, l.hf.seq q, Reps.mono0 l m r⟩
  | .dct ks m, v, h => by
    simp only [Rep] at h ⊢
    obtain ⟨p, od, vs, e, q, z, r⟩ := h
    exact ⟨p, od, vs, e, l.hf _ _ q, z, Reps.mono0 l m r⟩
  | .obj c m, v, h => by
    simp only [Rep] at h ⊢
    obtain ⟨p, dx, vs, e, q, z, r⟩ := h
    exact ⟨p, dx, vs, e, l.hf _ _ q, z, Reps.mono0 l m r⟩
  | .exc c m, v, h => by
    simp only [Rep] at h ⊢
    obtain ⟨p, d, e, q, r⟩ := h
    refine ⟨p, d, e, l.hf _ _ q, ?_⟩
    rcases r with r | ⟨n, dx, vs, e1, e2, e3, r⟩
    · exact .inl r
    · exact .inr ⟨n, dx, vs, e1, l.hf _ _ e2, e3, Reps.mono0 l m r⟩
  | .ref n, v, h => by
    simp only [Rep] at h ⊢
    obtain ⟨p, e, q⟩ := h
    exact ⟨p, e, l.rho _ _ q⟩
  | .vls vs m, v, h => by
    simp only [Rep] at h ⊢
    obtain ⟨p, e, q, r⟩ := h
    exact ⟨p, e, l.hf _ _ q, Reps.mono0 l m r⟩
  | .lam f c q0 vs m, v, h => by
    simp only [Rep] at h ⊢
    obtain ⟨e, q, r⟩ := h
    exact ⟨e, l.hf _ _ q, Reps.mono0 l m r⟩
theorem Reps.mono0 {t : Tb} {w w' : Wd} (l : Wlq w w') : ∀ (ds : List D) {vs : List V}, Reps t w ds vs → Reps t w' ds vs
  | [], vs, h => h
  | d :: ds, vs, h => by
    simp only [Reps] at h ⊢
    obtain ⟨v, r, e, h1, h2⟩ := h
    exact ⟨v, r, e, Rep.mono0 l d h1, Reps.mono0 l ds h2⟩
end

theorem Wle.q {w w' : Wd} (l : Wle w w') : Wlq w w' := ⟨l.hf, l.rho⟩
theorem Rep.mono {t : Tb} {w w' : Wd} (l : Wle w w') (d : D) {v : V} (h : Rep t w d v) : Rep t w' d v := Rep.mono0 l.q d h
theorem Reps.mono {t : Tb} {w w' : Wd} (l : Wle w w') (ds : List D) {vs : List V} (h : Reps t w ds vs) : Reps t w' ds vs := Reps.mono0 l.q ds h

/-- a mutable object at a -/
def MOk (t : Tb) (w : Wd) (o : MO) (H : Hp) (a : Addr) : Prop := match o with
  | .dead => True
  | .lst l => w.Hf a = none ∧ ∃ vs, H a = some (.lst vs) ∧ Reps t w l vs
  | .dct ks l => w.Hf a = none ∧ ∃ vs, H a = some (.dK (ks.zip vs)) ∧ ks.length = vs.length ∧ Reps t w l vs
  | .ins c l => w.Hf a = none ∧ ∃ dx vs, H a = some (.ins (t.cl c) dx ((t.fl c).zip vs)) ∧ vs.length ≤ (t.fl c).length ∧ Reps t w l vs
  | .ldct ks l => w.Hf a = none ∧ ∃ od vs, w.Lk a = some (.frz od (.dK (ks.zip vs))) ∧ ks.length = vs.length ∧ Reps t w l vs
  | .llst l => w.Hf a = none ∧ ∃ od vs, w.Lk a = some (.frz od (.lst vs)) ∧ Reps t w l vs
  | .tab k q => (a = t.cl k ∧ (k, q) ∈ t.tl) ∧ w.Hf a = none ∧ ∃ ps, H a = some (.tbl ps) ∧ TriplesOk ps.toList ∧ ∀ (pos : Pos) (cv : Value), codeAmong pos ps.toList = some cv → ∃ c, cv = .ref c ∧ w.Hf c = some (LamX.CodeO c q)
structure RelA (t : Tb) (w : Wd) (ah : AH) (H : Hp) : Prop where
  sub : Same w.Hf H
  len : w.ρ.length = ah.length
  nd : w.ρ.Nodup
  live : ∀ a ∈ w.ρ, ∃ o, H a = some o
  obj : ∀ (n : Nat) (o : MO) (a : Addr), ah[n]? = some o → w.ρ[n]? = some a → MOk t w o H a
  lks : ∀ (a : Addr) (o : HO), w.Lk a = some o → H a = some o ∧ a ∈ w.ρ ∧ ∃ od u, o = .frz od u
theorem RelA.free {t : Tb} {w : Wd} {ah : AH} {H : Hp} {p : Addr} (A : RelA t w ah H) (h : H p = none) : p ∉ w.ρ := fun z => by
  obtain ⟨o, e⟩ := A.live p z
  rw [h] at e
  cases e
/-- where a def began: the heap, the instance that it makes -/
structure Bs where
  H : Hp
  me : Addr
def MO.isIns : MO → Bool
  | .ins _ _ => true
  | _ => false
/-- a slot and what stands in it; own: fresh behind H0 -/
def SlOk (t : Tb) (H0 : Bs) (w : Wd) (s : Sl) (x : Option (Option V)) (H : Hp) : Prop := match s with
  | .no => True
  | .val d => ∃ v, x = some (some v) ∧ Rep t w d v
  | .own o => ∃ a ob, x = some (some (.ref a)) ∧ H a = some ob ∧ MOk t w o H a ∧ H0.H a = none ∧ a ∉ w.ρ ∧ w.Hf a = none ∧ (o.isIns = true → a = H0.me)
structure RelE (t : Tb) (H0 : Bs) (w : Wd) (env : En) (σ : L2.St) (H : Hp) : Prop where
  len : env.length = σ.length
  slot : ∀ (i : Nat) (s : Sl), env[i]? = some s → SlOk t H0 w s σ[i]? H
  dist : ∀ (i j : Nat) (o p : MO) (a : Addr), i ≠ j → env[i]? = some (.own o) → env[j]? = some (.own p) → σ[i]? = some (some (.ref a)) → σ[j]? = some (some (.ref a)) → False
/-- a step of the heap: what is not of the store stays -/
structure Stp (w : Wd) (H : Hp) (w' : Wd) (H' : Hp) : Prop where
  le : Wle w w'
  fr : ∀ (a : Addr) (o : HO), a ∉ w.ρ → H a = some o → H' a = some o
  there : ∀ (a : Addr) (o : HO), H a = some o → ∃ o', H' a = some o'
  newR : ∀ a ∈ w'.ρ, a ∈ w.ρ ∨ H a = none
  newF : ∀ (a : Addr) (o : HO), w'.Hf a = some o → w.Hf a = some o ∨ H a = none ∨ a ∈ w.ρ
theorem Stp.refl (w : Wd) (H : Hp) : Stp w H w H := ⟨Wle.refl w, fun _ _ _ h => h, fun _ o h => ⟨o, h⟩, fun _ h => .inl h, fun _ _ h => .inl h⟩
theorem Stp.trans {w w1 w2 : Wd} {H H1 H2 : Hp} (x : Stp w H w1 H1) (y : Stp w1 H1 w2 H2) : Stp w H w2 H2 := by
  have nn : ∀ a, H1 a = none → H a = none := fun a h => by
    cases q : H a with
    | none => rfl
    | some o =>
      obtain ⟨o', e⟩ := x.there a o q
      rw [h] at e
      cases e
  refine ⟨x.le.trans y.le, fun a o h1 h2 => ?_, fun a o h => ?_, fun a h => ?_, fun a o h => ?_⟩
  · refine y.fr a o (fun z => ?_) (x.fr a o h1 h2)
    rcases x.newR a z with q | q
    · exact h1 q
    · rw [h2] at q
      cases q
  · obtain ⟨o1, e1⟩ := x.there a o h
    exact y.there a o1 e1
  · rcases y.newR a h with q | q
    · exact x.newR a q
    · exact .inr (nn a q)
  · rcases y.newF a o h with q | q | q
    · exact x.newF a o q
    · exact .inr (.inl (nn a q))
    · rcases x.newR a q with z | z
      · exact .inr (.inr z)
      · exact .inr (.inl z)
/-- the same, whatever is locked -/
structure StpQ (w : Wd) (H : Hp) (w' : Wd) (H' : Hp) : Prop where
  le : Wlq w w'
  fr : ∀ (a : Addr) (o : HO), a ∉ w.ρ → H a = some o → H' a = some o
  there : ∀ (a : Addr) (o : HO), H a = some o → ∃ o', H' a = some o'
  newR : ∀ a ∈ w'.ρ, a ∈ w.ρ ∨ H a = none
  newF : ∀ (a : Addr) (o : HO), w'.Hf a = some o → w.Hf a = some o ∨ H a = none ∨ a ∈ w.ρ
theorem Stp.q {w w' : Wd} {H H' : Hp} (s : Stp w H w' H') : StpQ w H w' H' := ⟨s.le.q, s.fr, s.there, s.newR, s.newF⟩
theorem StpQ.lk {w w' : Wd} {H H' : Hp} (s : StpQ w H w' H') (l : w'.Lk = w.Lk) : Stp w H w' H' := ⟨⟨s.le.hf, s.le.rho, l⟩, s.fr, s.there, s.newR, s.newF⟩
theorem StpQ.refl (w : Wd) (H : Hp) : StpQ w H w H := (Stp.refl w H).q
theorem StpQ.trans {w w1 w2 : Wd} {H H1 H2 : Hp} (x : StpQ w H w1 H1) (y : Stp w1 H1 w2 H2) : StpQ w H w2 H2 := by
  have nn : ∀ a, H1 a = none → H a = none := fun a h => by
    cases q : H a with
    | none => rfl
    | some o =>
      obtain ⟨o', e⟩ := x.there a o q
      rw [h] at e
      cases e
  refine ⟨x.le.trans y.le.q, fun a o h1 h2 => ?_, fun a o h => ?_, fun a h => ?_, fun a o h => ?_⟩
  · refine y.fr a o (fun z => ?_) (x.fr a o h1 h2)
    rcases x.newR a z with q | q
    · exact h1 q
    · rw [h2] at q
      cases q
  · obtain ⟨o1, e1⟩ := x.there a o h
    exact y.there a o1 e1
  · rcases y.newR a h with q | q
    · exact x.newR a q
    · exact .inr (nn a q)
  · rcases y.newF a o h with q | q | q
    · exact x.newF a o q
    · exact .inr (.inl (nn a q))
    · rcases x.newR a q with z | z
      · exact .inr (.inr z)
      · exact .inr (.inl z)
theorem MOk.step {t : Tb} {w w' : Wd} {H H' : Hp} {o : MO} {a : Addr} (m : MOk t w o H a) (le : Wle w w') (hf : w.Hf a = none → w'.Hf a = none) (hH : ∀ ob, H a = some ob → H' a = some ob) : MOk t w' o H' a := by
  cases o with
  | dead => trivial
  | lst l =>
    obtain ⟨h0, vs, h1, h2⟩ := m
    exact ⟨hf h0, vs, hH _ h1, Reps.mono le l h2⟩
  | dct ks l =>
    obtain ⟨h0, vs, h1, h3, h2⟩ := m
    exact ⟨hf h0, vs, hH _ h1, h3, Reps.mono le l h2⟩
  | ins c l =>
    obtain ⟨h0, dx, vs, h1, h3, h2⟩ := m
    exact ⟨hf h0, dx, vs, hH _ h1, h3, Reps.mono le l h2⟩
  | ldct ks l =>
    obtain ⟨h0, od, vs, h1, h3, h2⟩ := m
    exact ⟨hf h0, od, vs, by rw [le.lk]; exact h1, h3, Reps.mono le l h2⟩
  | llst l =>
    obtain ⟨h0, od, vs, h1, h2⟩ := m
    exact ⟨hf h0, od, vs, by rw [le.lk]; exact h1, Reps.mono le l h2⟩
  | tab k q =>
    obtain ⟨hk, h0, ps, h1, h2, h3⟩ := m
    refine ⟨hk, hf h0, ps, hH _ h1, h2, fun pos cv hc => ?_⟩
    obtain ⟨c, e1, e2⟩ := h3 pos cv hc
    exact ⟨c, e1, le.hf _ _ e2⟩
theorem SlOk.step {t : Tb} {H0 : Bs} {w w' : Wd} {H H' : Hp} {s : Sl} {x : Option (Option V)} (m : SlOk t H0 w s x H) (st : Stp w H w' H') : SlOk t H0 w' s x H' := by
  cases s with
  | no => trivial
  | val d =>
    obtain ⟨v, e, r⟩ := m
    exact ⟨v, e, Rep.mono st.le d r⟩
  | own o =>
    obtain ⟨a, ob, e, h1, h2, h3, h4, h5, h6⟩ := m
    have hf : w'.Hf a = none := by
      cases q : w'.Hf a with
      | none => rfl
      | some u =>
        rcases st.newF a u q with z | z | z
        · rw [h5] at z; cases z
        · rw [h1] at z; cases z
        · exact absurd z h4
    refine ⟨a, ob, e, st.fr a ob h4 h1, h2.step st.le (fun _ => hf) (fun ob h => st.fr a ob h4 h), h3, fun z => ?_, hf, h6⟩
    rcases st.newR a z with q | q
    · exact h4 q
    · rw [h1] at q; cases q
theorem RelE.step {t : Tb} {H0 : Bs} {w w' : Wd} {H H' : Hp} {env : En} {σ : L2.St} (m : RelE t H0 w env σ H) (st : Stp w H w' H') : RelE t H0 w' env σ H' :=
  ⟨m.len, fun i s e => (m.slot i s e).step st, m.dist⟩

/-! ### results -/
inductive Res (α : Type) where
  | ok (a : α) (ah : AH)
  | exc (c : Nat) (l : List D) (ah : AH)
  | bad
def Res.bind {α β : Type} (r : Res α) (k : α → AH → Res β) : Res β := match r with
  | .ok a ah => k a ah
  | .exc c l ah => .exc c l ah
  | .bad => .bad
@[simp] theorem bind_ok {α β : Type} (a : α) (ah : AH) (k : α → AH → Res β) : (Res.ok a ah).bind k = k a ah := rfl
@[simp] theorem bind_exc {α β : Type} (c : Nat) (l : List D) (ah : AH) (k : α → AH → Res β) : (Res.exc c l ah : Res α).bind k = .exc c l ah := rfl
@[simp] theorem bind_bad {α β : Type} (k : α → AH → Res β) : (Res.bad : Res α).bind k = .bad := rfl
def ofO {α : Type} (o : Option α) (ah : AH) : Res α := match o with
  | some a => .ok a ah
  | none => .bad
@[simp] theorem ofO_some {α : Type} (a : α) (ah : AH) : ofO (some a) ah = .ok a ah := rfl
@[simp] theorem ofO_none {α : Type} (ah : AH) : ofO (none : Option α) ah = .bad := rfl

/-- an exception's own dict -/
def ExcD (t : Tb) (w : Wd) (c : Nat) (l : List D) (d : Option Addr) : Prop :=
  (l = [] ∧ d = none) ∨ (l ≠ [] ∧ ∃ dx vs, d = some dx ∧ w.Hf dx = some (.xd ((t.xl c).zip vs)) ∧ vs.length = (t.xl c).length ∧ Reps t w l vs)
theorem ExcD.mono {t : Tb} {w w' : Wd} {c : Nat} {l : List D} {d : Option Addr} (le : Wle w w') (h : ExcD t w c l d) : ExcD t w' c l d := by
  rcases h with h | ⟨n, dx, vs, e1, e2, e3, e4⟩
  · exact .inl h
  · exact .inr ⟨n, dx, vs, e1, le.hf _ _ e2, e3, Reps.mono le l e4⟩
def Post (t : Tb) {α β : Type} (R : Wd → α → β → Prop) (w : Wd) (H : Hp) (r : Res α) (Q : β → Hp → Prop) (E : XK) : Prop := match r with
  | .ok a ah => ∀ w' b H', Stp w H w' H' → RelA t w' ah H' → R w' a b → Q b H'
  | .exc c l ah => ∀ w' d H', Stp w H w' H' → RelA t w' ah H' → ExcD t w' c l d → E (.ref (t.cl c)) d H'
  | .bad => False
theorem Post.shift {t : Tb} {α β : Type} {R : Wd → α → β → Prop} {w w1 : Wd} {H H1 : Hp} {r : Res α} {Q : β → Hp → Prop} {E : XK} (p : Post t R w H r Q E) (s : Stp w H w1 H1) : Post t R w1 H1 r Q E := by
  cases r with
  | ok a ah => exact fun w' b H' s' A rr => p w' b H' (s.trans s') A rr
  | exc c l ah => exact fun w' d H' s' A rr => p w' d H' (s.trans s') A rr
  | bad => exact p
theorem post_bind {t : Tb} {α β γ δ : Type} {R : Wd → α → β → Prop} {S : Wd → γ → δ → Prop} {w : Wd} {H : Hp} {r : Res α} {k : α → AH → Res γ} {Q : δ → Hp → Prop} {E : XK} {Y : β → Hp → Prop}
    (p : Post t S w H (r.bind k) Q E) (g : ∀ a ah w' b H', Stp w H w' H' → RelA t w' ah H' → R w' a b → Post t S w' H' (k a ah) Q E → Y b H') : Post t R w H r Y E := by
  cases r with
  | ok a ah => exact fun w' b H' s A rr => g a ah w' b H' s A rr (Post.shift (show Post t S w H (k a ah) Q E from p) s)
  | exc c l ah => exact p
  | bad => exact p
theorem post_ok {t : Tb} {α β : Type} {R : Wd → α → β → Prop} {w : Wd} {H : Hp} {a : α} {ah : AH} {Q : β → Hp → Prop} {E : XK} {b : β} (p : Post t R w H (.ok a ah) Q E) (A : RelA t w ah H) (r : R w a b) : Q b H := p w b H (Stp.refl w H) A r
theorem post_imp {t : Tb} {α β : Type} {R : Wd → α → β → Prop} {w : Wd} {H : Hp} {r : Res α} {Q Q' : β → Hp → Prop} {E E' : XK} (p : Post t R w H r Q E) (hq : ∀ b H', Q b H' → Q' b H') (he : ∀ c d H', E c d H' → E' c d H') : Post t R w H r Q' E' := by
  cases r with
  | ok a ah => exact fun w' b H' s A rr => hq _ _ (p w' b H' s A rr)
  | exc c l ah => exact fun w' d H' s A rr => he _ _ _ (p w' d H' s A rr)
  | bad => exact p

/-- a new frozen object -/
def Wd.add (w : Wd) (p : Addr) (o : HO) : Wd := { w with Hf := upd w.Hf p o }
theorem stp_add {t : Tb} {w : Wd} {H : Hp} {ah : AH} {p : Addr} {o : HO} (A : RelA t w ah H) (hp : H p = none) : Stp w H (w.add p o) (upd H p o) ∧ RelA t (w.add p o) ah (upd H p o) := by
  have hf : w.Hf p = none := A.sub.free hp
  have le : Wle w (w.add p o) := ⟨fun a u h => by
    show upd w.Hf p o a = some u
    rw [upd_ne (ne_of_none h hf)]
    exact h, fun _ _ h => h, rfl⟩
  refine ⟨⟨le, fun a u _ h => by rw [upd_ne (ne_of_none h hp)]; exact h, fun a u h => ⟨u, by rw [upd_ne (ne_of_none h hp)]; exact h⟩, fun a h => .inl h, fun a u h => ?_⟩, ⟨fun a u h => ?_, A.len, A.nd, fun a h => by
    obtain ⟨u, e⟩ := A.live a h
    exact ⟨u, by rw [upd_ne (ne_of_none e hp)]; exact e⟩, fun n u a h1 h2 => ?_, fun a o2 h => ⟨by rw [upd_ne (ne_of_none (A.lks a o2 h).1 hp)]; exact (A.lks a o2 h).1, (A.lks a o2 h).2⟩⟩⟩
  · by_cases e : a = p
    · exact .inr (.inl (by rw [e]; exact hp))
    · have h' : upd w.Hf p o a = some u := h
      rw [upd_ne e] at h'
      exact .inl h'
  · have h' : upd w.Hf p o a = some u := h
    by_cases e : a = p
    · rw [e, upd_same] at h' ⊢
      exact h'
    · rw [upd_ne e] at h' ⊢
      exact A.sub a u h'
  · have m := A.obj n u a h1 h2
    cases u with
    | dead => trivial
    | lst l =>
      obtain ⟨h0, vs, h3, h4⟩ := m
      have e : a ≠ p := ne_of_none h3 hp
      exact ⟨by show upd w.Hf p o a = none; rw [upd_ne e]; exact h0, vs, by rw [upd_ne e]; exact h3, Reps.mono le l h4⟩
    | dct ks l =>
      obtain ⟨h0, vs, h3, h5, h4⟩ := m
      have e : a ≠ p := ne_of_none h3 hp
      exact ⟨by show upd w.Hf p o a = none; rw [upd_ne e]; exact h0, vs, by rw [upd_ne e]; exact h3, h5, Reps.mono le l h4⟩
    | ins c l =>
      obtain ⟨h0, dx, vs, h3, h5, h4⟩ := m
      have e : a ≠ p := ne_of_none h3 hp
      exact ⟨by show upd w.Hf p o a = none; rw [upd_ne e]; exact h0, dx, vs, by rw [upd_ne e]; exact h3, h5, Reps.mono le l h4⟩
    | ldct ks l =>
      obtain ⟨h0, od, vs, h3, h5, h4⟩ := m
      have e : a ≠ p := ne_of_none (A.lks a _ h3).1 hp
      exact ⟨by show upd w.Hf p o a = none; rw [upd_ne e]; exact h0, od, vs, h3, h5, Reps.mono le l h4⟩
    | llst l =>
      obtain ⟨h0, od, vs, h3, h4⟩ := m
      have e : a ≠ p := ne_of_none (A.lks a _ h3).1 hp
      exact ⟨by show upd w.Hf p o a = none; rw [upd_ne e]; exact h0, od, vs, h3, Reps.mono le l h4⟩
    | tab k q =>
      obtain ⟨hk, h0, ps, h3, h4, h5⟩ := m
      have e : a ≠ p := ne_of_none h3 hp
      refine ⟨hk, by show upd w.Hf p o a = none; rw [upd_ne e]; exact h0, ps, by rw [upd_ne e]; exact h3, h4, fun pos cv hc => ?_⟩
      obtain ⟨c, e1, e2⟩ := h5 pos cv hc
      exact ⟨c, e1, le.hf _ _ e2⟩
theorem add_at {w : Wd} {p : Addr} {o : HO} : (w.add p o).Hf p = some o := upd_same
/-- a new object that is owned (by a slot), or not told of -/
theorem stp_new {t : Tb} {w : Wd} {H : Hp} {ah : AH} {p : Addr} {o : HO} (A : RelA t w ah H) (hp : H p = none) : Stp w H w (upd H p o) ∧ RelA t w ah (upd H p o) := by
  refine ⟨⟨Wle.refl w, fun a u _ h => by rw [upd_ne (ne_of_none h hp)]; exact h, fun a u h => ⟨u, by rw [upd_ne (ne_of_none h hp)]; exact h⟩, fun a h => .inl h, fun a u h => .inl h⟩, ⟨fun a u h => ?_, A.len, A.nd, fun a h => by
    obtain ⟨u, e⟩ := A.live a h
    exact ⟨u, by rw [upd_ne (ne_of_none e hp)]; exact e⟩, fun n u a h1 h2 => ?_, fun a o2 h => ⟨by rw [upd_ne (ne_of_none (A.lks a o2 h).1 hp)]; exact (A.lks a o2 h).1, (A.lks a o2 h).2⟩⟩⟩
  · have h' := A.sub a u h
    rw [upd_ne (ne_of_none h' hp)]
    exact h'
  · refine (A.obj n u a h1 h2).step (Wle.refl w) (fun h => h) fun ob h => ?_
    rw [upd_ne (ne_of_none h hp)]
    exact h

/-! ### readings -/
abbrev CE := En → AH → Res D
abbrev CA := En → AH → Res (List D)
abbrev CT := En → AH → Res Bool
def tR (t : Tb) (W : WX) (H0 : Bs) {α β : Type} (R : Wd → α → β → Prop) (c : En → AH → Res α) : L2.St → Hp → (β → Hp → Prop) → Prop := fun σ H Q =>
  ∃ w env ah, RelA t w ah H ∧ RelE t H0 w env σ H ∧ Post t R w H (c env ah) Q (fun cls d H' => W cls d σ H')
abbrev tE (t : Tb) (W : WX) (H0 : Bs) (c : CE) : TE := tR t W H0 (Rep t) c
abbrev tAr (t : Tb) (W : WX) (H0 : Bs) (c : CA) : TA := tR t W H0 (Reps t) c
abbrev tT (t : Tb) (W : WX) (H0 : Bs) (c : CT) : TT := tR t W H0 (fun _ a b => a = b) c

theorem PE.imp {X : Cx} {e : Expr} {u v : TE} (h : PE X e u) (i : ∀ σ H Q, v σ H Q → u σ H Q) : PE X e v := ⟨fun pins s σ H Q I hw => h.run pins s σ H Q I (i σ H Q hw)⟩
theorem PT.imp {X : Cx} {e : Expr} {u v : TT} (h : PT X e u) (i : ∀ σ H Q, v σ H Q → u σ H Q) : PT X e v := ⟨fun pins s σ H Q I hw => h.run pins s σ H Q I (i σ H Q hw)⟩
theorem PW.imp {X : Cx} {e : Expr} {u v : TT} (h : PW X e u) (i : ∀ σ H Q, v σ H Q → u σ H Q) : PW X e v := ⟨fun wh pins s σ H Q I hw => h.run wh pins s σ H Q I (i σ H Q hw)⟩
theorem PA.imp {X : Cx} {e : List Expr} {u v : TA} (h : PA X e u) (i : ∀ σ H Q, v σ H Q → u σ H Q) : PA X e v := ⟨fun pos pins s σ H Q I hw => h.run pos pins s σ H Q I (i σ H Q hw)⟩
theorem PS.imp {X : Cx} {e : Stmt} {u v : TS} (h : PS X e u) (i : ∀ D σ H, v D σ H → u D σ H) : PS X e v := ⟨fun pins s σ H D I hw => h.run pins s σ H D I (i D σ H hw)⟩
theorem PSs.imp {X : Cx} {e : List Stmt} {u v : TS} (h : PSs X e u) (i : ∀ D σ H, v D σ H → u D σ H) : PSs X e v := ⟨fun pins s σ H D I hw => h.run pins s σ H D I (i D σ H hw)⟩
end G
/-! The engine, part 2: expressions. -/
namespace G
open PySem PySem.Spec PyProof.Rows L2

section
variable {X : Cx} {t : Tb} {W : WX} {H0 : Bs}

/-! ### names, constants -/
def cVar (i : Nat) : CE := fun env ah => match env[i]? with
  | some (.val d) => .ok d ah
  | _ => .bad
def cC (d : D) : CE := fun _ ah => .ok d ah
theorem q_var (i : Nat) {x : Str} {pos : Pos} (hN : X.N[i]? = some x := by rfl) (hv : Vis X.env.scope x := by first | exact Or.inl rfl | exact Or.inr (Or.inl rfl) | exact Or.inr (Or.inr rfl)) (hd : (x == ("__debug__" : Str)) = false := by decide)
    (hcd : (x == ("__classdict__" : Str)) = false := by decide) : PE X (.Name x pos) (tE t W H0 (cVar i)) := by
  refine PE.imp (pv i hN hv hd hcd) ?_
  rintro σ H Q ⟨w, env, ah, A, R, P⟩
  show ∃ v, σ[i]? = some (some v) ∧ Q v H
  unfold cVar at P
  cases e : env[i]? with
  | none => rw [e] at P; exact False.elim P
  | some s =>
    rw [e] at P
    cases s with
    | no => exact False.elim P
    | own o => exact False.elim P
    | val d =>
      obtain ⟨v, hv, r⟩ := R.slot i _ e
      exact ⟨v, hv, post_ok P A r⟩
theorem q_const {e : Expr} {v : V} {d : D} (h : PE X e (tC v)) (r : ∀ w, Rep t w d v) : PE X e (tE t W H0 (cC d)) := by
  refine PE.imp h ?_
  rintro σ H Q ⟨w, env, ah, A, R, P⟩
  exact post_ok P A (r w)
theorem q_int {i j pos} : PE X (.Constant (.int i) j pos) (tE t W H0 (cC (.int i))) := q_const pe_int fun w => by simp only [Rep]
theorem q_bl {i j pos} : PE X (.Constant (.bool i) j pos) (tE t W H0 (cC (.bl i))) := q_const pe_bl fun w => by simp only [Rep]
theorem q_non {j pos} : PE X (.Constant .none j pos) (tE t W H0 (cC .non)) := q_const pe_non fun w => by simp only [Rep]
theorem q_str {x j pos} : PE X (.Constant (.str x) j pos) (tE t W H0 (cC (.str x))) := q_const pe_str fun w => by simp only [Rep]
/-- a module's constant -/
theorem q_glob {x : Str} {v : V} {u : Value} {d : D} {pos : Pos} (hm : X.mg x = some u) (r : RelV v u) (rd : ∀ w, Rep t w d v) (hg : Gl X x := by rfl) (hd : (x == ("__debug__" : Str)) = false := by decide) : PE X (.Name x pos) (tE t W H0 (cC d)) :=
  q_const (pe_glob hg hm r hd) rd

/-! ### two places -/
abbrev F2 := AH → D → D → Option D
def cBin (f : F2) (a b : CE) : CE := fun env ah => (a env ah).bind fun x ah1 => (b env ah1).bind fun y ah2 => ofO (f ah2 x y) ah2
/-- an operation by values does what f says -/
def BinS (t : Tb) (f : F2) (r : R2) : Prop := ∀ w ah H x y d v u Q, RelA t w ah H → Rep t w x v → Rep t w y u → f ah x y = some d → (∀ w' z H', Stp w H w' H' → RelA t w' ah H' → Rep t w' d z → Q z H') → r v u H Q
theorem bin_read {f : F2} {r : R2} {ca cb : CE} (hs : BinS t f r) : ∀ σ H Q, tE t W H0 (cBin f ca cb) σ H Q → tOp r (tE t W H0 ca) (tE t W H0 cb) σ H Q := by
  rintro σ H Q ⟨w, env, ah, A, R, P⟩
  refine ⟨w, env, ah, A, R, post_bind P fun x ah1 w1 v H1 s1 A1 r1 P1 => ?_⟩
  refine ⟨w1, env, ah1, A1, R.step s1, post_bind P1 fun y ah2 w2 u H2 s2 A2 r2 P2 => ?_⟩
  cases e : f ah2 x y with
  | none => rw [e] at P2; exact False.elim P2
  | some d =>
    rw [e] at P2
    exact hs w2 ah2 H2 x y d v u _ A2 (Rep.mono s2.le x r1) r2 e fun w' z H' s' A' rz => P2 w' z H' s' A' rz
theorem q_bin {op : Operator} {f : F2} {r : R2} {a b : Expr} {ca cb : CE} {pos : Pos} (ho : OpR X (binaryOp op) r) (hs : BinS t f r) (ha : PE X a (tE t W H0 ca)) (hb : PE X b (tE t W H0 cb)) :
    PE X (.BinOp a op b pos) (tE t W H0 (cBin f ca cb)) := PE.imp (pe_op ho ha hb) (bin_read hs)
theorem q_cmp {op : CmpOp} {f : F2} {r : R2} {a b : Expr} {ca cb : CE} {pos : Pos} (ho : OpR X (compareOp op) r) (hs : BinS t f r) (ha : PE X a (tE t W H0 ca)) (hb : PE X b (tE t W H0 cb)) (hm : behindInMarks op b = false) :
    PE X (.Compare a [op] [b] pos) (tE t W H0 (cBin f ca cb)) := PE.imp (pe_cmpR ho ha hb hm) (bin_read hs)
/-- a bool as a test -/
def asB : D → Option Bool
  | .bl b => some b
  | _ => none
def cTest (c : CE) : CT := fun env ah => (c env ah).bind fun d ah1 => ofO (asB d) ah1
theorem test_read {c : CE} : ∀ σ H Q, tT t W H0 (cTest c) σ H Q → tTest (tE t W H0 c) σ H Q := by
  rintro σ H Q ⟨w, env, ah, A, R, P⟩
  refine ⟨w, env, ah, A, R, post_bind P fun d ah1 w1 v H1 s1 A1 r1 P1 => ?_⟩
  cases d with
  | bl b =>
    refine ⟨b, ?_, P1 w1 b H1 (Stp.refl _ _) A1 rfl⟩
    simpa only [Rep] using r1
  | _ => exact False.elim P1
theorem q_tcmp {op : CmpOp} {f : F2} {r : R2} {a b : Expr} {ca cb : CE} {pos : Pos} (ho : OpR X (compareOp op) r) (hs : BinS t f r) (ha : PE X a (tE t W H0 ca)) (hb : PE X b (tE t W H0 cb)) (hm : behindInMarks op b = false) :
    PT X (.Compare a [op] [b] pos) (tT t W H0 (cTest (cBin f ca cb))) := by
  refine PT.imp (pt_cmpR ho ha hb hm) fun σ H Q h => ?_
  obtain ⟨w, env, ah, A, R, P⟩ := test_read σ H Q h
  exact bin_read hs σ H _ ⟨w, env, ah, A, R, P⟩
theorem q_test {e : Expr} {c : CE} (h : PE X e (tE t W H0 c)) (he : ∀ whole, isTrue e X.env whole = (do let v ← whole; standAt e.pos; holding [v] (truthy v)) := by intro _; rfl) : PT X e (tT t W H0 (cTest c)) :=
  PT.imp (pt_val h he) test_read

/-! ### the operations -/
theorem same_none {H H' : Hp} {a : Addr} (h : H = H') (e : H a = none) : H' a = none := h ▸ e
theorem fin0 {w : Wd} {ah : AH} {H : Hp} {d : D} {z : V} {Q : V → Hp → Prop} (A : RelA t w ah H) (q : ∀ w' z H', Stp w H w' H' → RelA t w' ah H' → Rep t w' d z → Q z H') (r : Rep t w d z) : Q z H := q w z H (Stp.refl _ _) A r

def mulOk (i j : Int) : Prop := CMul i j ∨ CMulW i j
instance (i j : Int) : Decidable (mulOk i j) := by unfold mulOk CMul CMulW; infer_instance
theorem op_mulA : OpR X (binaryOp .Mult) (rI mulOk fun i j => .int (i * j)) := opI fun _ _ _ _ _ _ _ hc q => mul_int q (hc.elim CMul.ok CMulW.ok)
def divOk (j : Int) : Prop := j ≠ 0 ∧ j.natAbs.log2 < 9000
instance (j : Int) : Decidable (divOk j) := by unfold divOk; infer_instance
theorem op_fdivA : OpR X (binaryOp .FloorDiv) (rI (fun _ j => divOk j) fun i j => .int (i.fdiv j)) := opI fun i j _ _ _ _ _ hc q => floordiv_int hc.1 q (.inl (PyProof.noPylong_of_log2 hc.2))

def addD : F2 := fun ah x y => match x, y with
  | .int i, .int j => some (.int (i + j))
  | .str a, .str b => if a.length + b.length ≤ sizeLine then some (.str (a ++ b)) else none
  | .lst l, .lst m => if l.length + m.length ≤ sizeLine then some (.lst (l ++ m)) else none
  | .tup l, .tup m => if l.length + m.length ≤ sizeLine then some (.tup (l ++ m)) else none
  | _, _ => none
def subD : F2 := fun _ x y => match x, y with
  | .int i, .int j => some (.int (i - j))
  | _, _ => none
def mulD : F2 := fun _ x y => match x, y with
  | .int i, .int j => if mulOk i j then some (.int (i * j)) else none
  | .str z, .int n => if z.length ≤ 1000 ∧ 0 ≤ n ∧ n ≤ 1000 then some (.str (Txt.mul z n)) else none
  | _, _ => none
def fdivD : F2 := fun _ x y => match x, y with
  | .int i, .int j => if divOk j then some (.int (i.fdiv j)) else none
  | _, _ => none
def modD : F2 := fun _ x y => match x, y with
  | .int i, .int j => if j ≠ 0 then some (.int (i.fmod j)) else none
  | _, _ => none
def powD : F2 := fun _ x y => match x, y with
  | .int i, .int j => if 0 ≤ j ∧ j ≤ 1000000 ∧ i.natAbs < 2 ^ 64 then some (.int (i ^ j.toNat)) else none
  | _, _ => none

def rAddA (K : PySem.W.Frag) : R2 := fun x y H Q => rI0 (fun i j => .int (i + j)) x y H Q ∨ (∃ i j, x = .str i ∧ y = .str j ∧ i.length + j.length ≤ sizeLine ∧ Q (.str (i ++ j)) H) ∨ rCat x y H Q ∨ rCatA K x y H Q
theorem op_addA : OpR X (binaryOp .Add) (rAddA X.K) := op_add.or (op_add_str.or (op_cat.or op_catA))
theorem bs_add (hK : t.K = X.K := by rfl) : BinS t addD (rAddA X.K) := by
  intro w ah H x y d v u Q A rx ry e q
  cases x <;> cases y <;> simp only [addD, reduceCtorEq] at e <;> try (simp only [Rep] at rx ry)
  · rename_i i j
    injection e with e
    subst e
    exact .inl ⟨i, j, rx, ry, fin0 A q (by simp only [Rep])⟩
  · rename_i a b
    split at e
    · rename_i hz
      injection e with e
      subst e
      exact .inr (.inl ⟨a, b, rx, ry, hz, fin0 A q (by simp only [Rep])⟩)
    · cases e
  · rename_i l m
    split at e
    · rename_i hz
      injection e with e
      subst e
      obtain ⟨p, vs, rfl, h1, r1⟩ := rx
      obtain ⟨p2, vs2, rfl, h2, r2⟩ := ry
      rw [hK] at h1 h2
      have l1 := reps_len r1
      have l2 := reps_len r2
      refine .inr (.inr (.inr ⟨p, p2, vs, vs2, rfl, rfl, same_sqT A.sub h1, same_sqT A.sub h2, by omega, fun z => ?_, fun z1 z2 => ?_, fun z1 z2 pp hp => ?_⟩))
      · subst z
        have : l = [] := List.length_eq_zero_iff.mp (by simpa using l1)
        subst this
        refine fin0 A q ?_
        simp only [Rep]
        exact ⟨p2, vs2, rfl, by rw [hK]; exact h2, by simpa using r2⟩
      · subst z2
        have : m = [] := List.length_eq_zero_iff.mp (by simpa using l2)
        subst this
        refine fin0 A q ?_
        simp only [Rep]
        exact ⟨p, vs, rfl, by rw [hK]; exact h1, by simpa using r1⟩
      · obtain ⟨s, A'⟩ := stp_add (o := .tup (vs ++ vs2)) A hp
        refine q _ _ _ s A' ?_
        simp only [Rep]
        exact ⟨pp, _, rfl, SqT.of add_at, reps_append (Reps.mono s.le _ r1) (Reps.mono s.le _ r2)⟩
    · cases e
  · rename_i l m
    split at e
    · rename_i hz
      injection e with e
      subst e
      obtain ⟨p, vs, rfl, h1, r1⟩ := rx
      obtain ⟨p2, vs2, rfl, h2, r2⟩ := ry
      have l1 := reps_len r1
      have l2 := reps_len r2
      refine .inr (.inr (.inl ⟨p, p2, vs, vs2, rfl, rfl, A.sub _ _ h1, A.sub _ _ h2, by omega, fun pp hp => ?_⟩))
      obtain ⟨s, A'⟩ := stp_add (o := .lst (vs ++ vs2)) A hp
      refine q _ _ _ s A' ?_
      simp only [Rep]
      exact ⟨pp, _, rfl, add_at, reps_append (Reps.mono s.le _ r1) (Reps.mono s.le _ r2)⟩
    · cases e

def simpleI (g : Int → Int → Int) : F2 := fun _ x y => match x, y with
  | .int i, .int j => some (.int (g i j))
  | _, _ => none
theorem bs_sub : BinS t subD (rI0 fun i j => .int (i - j)) := by
  intro w ah H x y d v u Q A rx ry e q
  cases x <;> cases y <;> simp only [subD, reduceCtorEq] at e <;> simp only [Rep] at rx ry
  rename_i i j
  injection e with e
  subst e
  exact ⟨i, j, rx, ry, fin0 A q (by simp only [Rep])⟩
def rMulA : R2 := fun x y H Q => rI mulOk (fun i j => .int (i * j)) x y H Q ∨ ∃ z n, x = .str z ∧ y = .int n ∧ (z.length ≤ 1000 ∧ 0 ≤ n ∧ n ≤ 1000) ∧ Q (.str (Txt.mul z n)) H
theorem mul_ok {z : Str} {n : Int} (h1 : z.length ≤ 1000) (h2 : 0 ≤ n) (h3 : n ≤ 1000) : MulOk z n := by
  refine ⟨?_, fun a b c => ?_, fun a b => ?_⟩
  · rw [Bool.or_eq_false_iff]
    constructor <;> rw [decide_eq_false_iff_not] <;> omega
  · have e : (9223372036854775 : Int) ≤ (2 ^ 63 - 1) / n := by
      rw [Int.le_ediv_iff_mul_le (by omega)]
      omega
    omega
  · unfold PySem.Builtin.Str.tooLong
    rw [decide_eq_false_iff_not, sizeLine_eq]
    have : z.length * n.toNat ≤ 1000 * 1000 := Nat.mul_le_mul h1 (by omega)
    omega
theorem op_mulZ : OpR X (binaryOp .Mult) rMulA := op_mulA.or fun pins s σ H x y v u Q I rx ry h => by
  obtain ⟨z, n, rfl, rfl, ⟨h1, h2, h3⟩, q⟩ := h
  obtain ⟨t, rfl⟩ := rx
  obtain ⟨t', rfl⟩ := ry
  exact SB.mul (mul_ok h1 h2 h3) fun t' k => ⟨.str (Txt.mul z n), H, I.tok _, ⟨_, rfl⟩, q⟩
theorem bs_mul : BinS t mulD rMulA := by
  intro w ah H x y d v u Q A rx ry e q
  cases x <;> cases y <;> simp only [mulD, reduceCtorEq] at e <;> simp only [Rep] at rx ry
  · rename_i i j
    split at e
    · rename_i h
      injection e with e
      subst e
      exact .inl ⟨i, j, rx, ry, h, fin0 A q (by simp only [Rep])⟩
    · cases e
  · rename_i z n
    split at e
    · rename_i h
      injection e with e
      subst e
      exact .inr ⟨z, n, rx, ry, h, fin0 A q (by simp only [Rep])⟩
    · cases e
theorem bs_fdiv : BinS t fdivD (rI (fun _ j => divOk j) fun i j => .int (i.fdiv j)) := by
  intro w ah H x y d v u Q A rx ry e q
  cases x <;> cases y <;> simp only [fdivD, reduceCtorEq] at e <;> simp only [Rep] at rx ry
  rename_i i j
  split at e
  · rename_i h
    injection e with e
    subst e
    exact ⟨i, j, rx, ry, h, fin0 A q (by simp only [Rep])⟩
  · cases e
theorem bs_mod : BinS t modD (rI (fun _ j => j ≠ 0) fun i j => .int (i.fmod j)) := by
  intro w ah H x y d v u Q A rx ry e q
  cases x <;> cases y <;> simp only [modD, reduceCtorEq] at e <;> simp only [Rep] at rx ry
  rename_i i j
  split at e
  · rename_i h
    injection e with e
    subst e
    exact ⟨i, j, rx, ry, h, fin0 A q (by simp only [Rep])⟩
  · cases e
theorem bs_pow : BinS t powD (rI CPow fun i j => .int (i ^ j.toNat)) := by
  intro w ah H x y d v u Q A rx ry e q
  cases x <;> cases y <;> simp only [powD, reduceCtorEq] at e <;> simp only [Rep] at rx ry
  rename_i i j
  split at e
  · rename_i h
    injection e with e
    subst e
    exact ⟨i, j, rx, ry, h, fin0 A q (by simp only [Rep])⟩
  · cases e
theorem q_add {a b : Expr} {ca cb : CE} {pos : Pos} (ha : PE X a (tE t W H0 ca)) (hb : PE X b (tE t W H0 cb)) (hK : t.K = X.K := by rfl) : PE X (.BinOp a .Add b pos) (tE t W H0 (cBin addD ca cb)) := q_bin op_addA (bs_add hK) ha hb
theorem q_sub {a b : Expr} {ca cb : CE} {pos : Pos} (ha : PE X a (tE t W H0 ca)) (hb : PE X b (tE t W H0 cb)) : PE X (.BinOp a .Sub b pos) (tE t W H0 (cBin subD ca cb)) := q_bin op_sub bs_sub ha hb
theorem q_mul {a b : Expr} {ca cb : CE} {pos : Pos} (ha : PE X a (tE t W H0 ca)) (hb : PE X b (tE t W H0 cb)) : PE X (.BinOp a .Mult b pos) (tE t W H0 (cBin mulD ca cb)) := q_bin op_mulZ bs_mul ha hb
theorem q_fdiv {a b : Expr} {ca cb : CE} {pos : Pos} (ha : PE X a (tE t W H0 ca)) (hb : PE X b (tE t W H0 cb)) : PE X (.BinOp a .FloorDiv b pos) (tE t W H0 (cBin fdivD ca cb)) := q_bin op_fdivA bs_fdiv ha hb
theorem q_mod {a b : Expr} {ca cb : CE} {pos : Pos} (ha : PE X a (tE t W H0 ca)) (hb : PE X b (tE t W H0 cb)) : PE X (.BinOp a .Mod b pos) (tE t W H0 (cBin modD ca cb)) := q_bin op_modN bs_mod ha hb
theorem q_pow {a b : Expr} {ca cb : CE} {pos : Pos} (ha : PE X a (tE t W H0 ca)) (hb : PE X b (tE t W H0 cb)) : PE X (.BinOp a .Pow b pos) (tE t W H0 (cBin powD ca cb)) := q_bin op_pow bs_pow ha hb

/-! ### one place -/
def cUn (f : AH → D → Option D) (a : CE) : CE := fun env ah => (a env ah).bind fun x ah1 => ofO (f ah1 x) ah1
def UnS (t : Tb) (f : AH → D → Option D) (r : V → Hp → VK → Prop) : Prop := ∀ w ah H x d v Q, RelA t w ah H → Rep t w x v → f ah x = some d → (∀ w' z H', Stp w H w' H' → RelA t w' ah H' → Rep t w' d z → Q z H') → r v H Q
theorem un_read {f : AH → D → Option D} {r : V → Hp → VK → Prop} {ca : CE} (hs : UnS t f r) : ∀ σ H Q, tE t W H0 (cUn f ca) σ H Q → tUn r (tE t W H0 ca) σ H Q := by
  rintro σ H Q ⟨w, env, ah, A, R, P⟩
  refine ⟨w, env, ah, A, R, post_bind P fun x ah1 w1 v H1 s1 A1 r1 P1 => ?_⟩
  cases e : f ah1 x with
  | none => rw [e] at P1; exact False.elim P1
  | some d =>
    rw [e] at P1
    exact hs w1 ah1 H1 x d v _ A1 r1 e fun w' z H' s' A' rz => P1 w' z H' s' A' rz
def negD : AH → D → Option D := fun _ x => match x with
  | .int i => some (.int (-i))
  | _ => none
theorem us_neg : UnS t negD (rU fun i => .int (-i)) := by
  intro w ah H x d v Q A rx e q
  cases x <;> simp only [negD, reduceCtorEq] at e
  simp only [Rep] at rx
  injection e with e
  subst e
  exact ⟨_, rx, fin0 A q (by simp only [Rep])⟩
theorem q_neg {a : Expr} {ca : CE} {pos : Pos} (ha : PE X a (tE t W H0 ca)) : PE X (.UnaryOp .USub a pos) (tE t W H0 (cUn negD ca)) := PE.imp (pe_un un_neg ha) (un_read us_neg)
def notD : AH → D → Option D := fun _ x => match x with
  | .bl b => some (.bl (!b))
  | _ => none
theorem q_not {a : Expr} {ca : CE} {pos : Pos} (ha : PE X a (tE t W H0 ca)) : PE X (.UnaryOp .Not a pos) (tE t W H0 (cUn notD ca)) := by
  refine PE.imp (pe_not ha) ?_
  rintro σ H Q ⟨w, env, ah, A, R, P⟩
  refine ⟨w, env, ah, A, R, post_bind P fun x ah1 w1 v H1 s1 A1 r1 P1 => ?_⟩
  cases x <;> first | exact False.elim P1 | skip
  rename_i b
  simp only [Rep] at r1
  exact ⟨b, r1, post_ok P1 A1 (by simp only [Rep])⟩

/-! ### comparisons -/
def cmpI (p : Int → Int → Bool) : F2 := fun _ x y => match x, y with
  | .int i, .int j => some (.bl (p i j))
  | _, _ => none
theorem bs_cmpI {p : Int → Int → Bool} : BinS t (cmpI p) (rI0 fun i j => .bl (p i j)) := by
  intro w ah H x y d v u Q A rx ry e q
  cases x <;> cases y <;> simp only [cmpI, reduceCtorEq] at e <;> simp only [Rep] at rx ry
  rename_i i j
  injection e with e
  subst e
  exact ⟨i, j, rx, ry, fin0 A q (by simp only [Rep])⟩
abbrev ltD : F2 := cmpI fun i j => decide (i < j)
abbrev leD : F2 := cmpI fun i j => decide (i ≤ j)
abbrev gtD : F2 := cmpI fun i j => decide (j < i)
abbrev geD : F2 := cmpI fun i j => decide (j ≤ i)
mutual
def pd : D → Option PyData
  | .non => some .none
  | .bl b => some (.bool b)
  | .int i => some (.int i)
  | .str s => some (.str s)
  | .tup l => (pds l).map PyData.tuple
  | .lst l => (pds l).map PyData.list
  | .scr l => none
  | .vls _ _ => none
  | .lam _ _ _ _ _ => none
  | .dct _ _ => none
  | .obj _ _ => none
  | .exc _ _ => none
  | .ref _ => none
def pds : List D → Option (List PyData)
  | [] => some []
  | d :: r => match pd d, pds r with
    | some a, some b => some (a :: b)
    | _, _ => none
end
mutual
theorem dp_of {w : Wd} {H : Hp} (hs : Same w.Hf H) : ∀ (d : D) {v : V} {p : PyData}, pd d = some p → Rep t w d v → Dp t.K H v p
  | .non, v, p, e, r => by
    simp only [pd] at e
    cases e
    simp only [Rep] at r
    subst r
    exact .non
  | .bl b, v, p, e, r => by
    simp only [pd] at e
    cases e
    simp only [Rep] at r
    subst r
    exact .bl b
  | .int i, v, p, e, r => by
    simp only [pd] at e
    cases e
    simp only [Rep] at r
    subst r
    exact .int i
  | .str s, v, p, e, r => by
    simp only [pd] at e
    cases e
    simp only [Rep] at r
    subst r
    exact .str s
  | .tup l, v, p, e, r => by
    simp only [pd] at e
    simp only [Rep] at r
    obtain ⟨a, vs, rfl, h1, h2⟩ := r
    cases q : pds l with
    | none => rw [q] at e; cases e
    | some ds =>
      rw [q] at e
      cases e
      exact .tup (same_sqT hs h1) (dps_of hs l q h2)
  | .lst l, v, p, e, r => by
    simp only [pd] at e
    simp only [Rep] at r
    obtain ⟨a, vs, rfl, h1, h2⟩ := r
    cases q : pds l with
    | none => rw [q] at e; cases e
    | some ds =>
      rw [q] at e
      cases e
      exact .lst (SqL.of (hs _ _ h1)) (dps_of hs l q h2)
  | .scr l, v, p, e, r => by simp only [pd] at e; cases e
  | .dct _ _, v, p, e, r => by simp only [pd] at e; cases e
  | .obj _ _, v, p, e, r => by simp only [pd] at e; cases e
  | .exc _ _, v, p, e, r => by simp only [pd] at e; cases e
  | .ref _, v, p, e, r => by simp only [pd] at e; cases e
theorem dps_of {w : Wd} {H : Hp} (hs : Same w.Hf H) : ∀ (l : List D) {vs : List V} {ps : List PyData}, pds l = some ps → Reps t w l vs → DpAll t.K H vs ps
  | [], vs, ps, e, r => by
    simp only [pds] at e
    cases e
    simp only [Reps] at r
    subst r
    exact .nil
  | d :: l, vs, ps, e, r => by
    simp only [pds] at e
    simp only [Reps] at r
    obtain ⟨v, vr, rfl, h1, h2⟩ := r
    cases q1 : pd d with
    | none => rw [q1] at e; cases e
    | some a =>
      cases q2 : pds l with
      | none => rw [q1, q2] at e; cases e
      | some b =>
        rw [q1, q2] at e
        cases e
        exact .cons (dp_of hs d q1 h1) (dps_of hs l q2 h2)
end
def scD : D → Option V
  | .non => some .non
  | .bl b => some (.bl b)
  | .int i => some (.int i)
  | .str s => some (.str s)
  | _ => none
theorem scD_rep {w : Wd} {d : D} {v x : V} (r : Rep t w d v) (e : scD d = some x) : v = x := by
  cases d <;> simp only [scD, reduceCtorEq] at e <;> simp only [Rep] at r <;> (injection e with e; rw [r, e])
def eqB (x y : D) : Option Bool := match scD x, scD y with
  | some a, some b => if scal a b then some (decide (a = b)) else none
  | _, _ => match pd x, pd y with
    | some a, some b => if SeqAt.shaped a && SeqAt.shaped b then some (PyData.eqv a b) else none
    | _, _ => none
def eqD : F2 := fun _ x y => (eqB x y).map D.bl
def neD : F2 := fun _ x y => (eqB x y).map fun b => D.bl (!b)
def rEqA (K : PySem.W.Frag) : R2 := fun x y H Q => rEq x y H Q ∨ rEqD K x y H Q
def rNeA (K : PySem.W.Frag) : R2 := fun x y H Q => rNe x y H Q ∨ rNeD K x y H Q
theorem op_eqA (hu : X.A.units + 64 < cLine) : OpR X (compareOp .Eq) (rEqA X.K) := op_eq.or (op_eqD hu)
theorem op_neA (hu : X.A.units + 64 < cLine) : OpR X (compareOp .NotEq) (rNeA X.K) := op_ne.or (op_neD hu)
theorem eqB_cases {w : Wd} {H : Hp} {x y : D} {v u : V} {b : Bool} (hs : Same w.Hf H) (rx : Rep t w x v) (ry : Rep t w y u) (e : eqB x y = some b) :
    (scal v u = true ∧ b = decide (v = u)) ∨ ∃ p q, Dp t.K H v p ∧ Dp t.K H u q ∧ SeqAt.shaped p = true ∧ SeqAt.shaped q = true ∧ b = PyData.eqv p q := by
  unfold eqB at e
  split at e
  · rename_i a c h1 h2
    have e1 := scD_rep rx h1
    have e2 := scD_rep ry h2
    subst e1 e2
    split at e
    · rename_i h
      injection e with e
      exact .inl ⟨h, e.symm⟩
    · cases e
  · split at e
    · rename_i p q h1 h2
      split at e
      · rename_i h
        rw [Bool.and_eq_true] at h
        injection e with e
        exact .inr ⟨p, q, dp_of hs x h1 rx, dp_of hs y h2 ry, h.1, h.2, e.symm⟩
      · cases e
    · cases e
theorem bs_eq (hK : t.K = X.K := by rfl) : BinS t eqD (rEqA X.K) := by
  intro w ah H x y d v u Q A rx ry e q
  unfold eqD at e
  cases h : eqB x y with
  | none => rw [h] at e; cases e
  | some b =>
    rw [h] at e
    cases e
    rcases eqB_cases A.sub rx ry h with ⟨h1, rfl⟩ | ⟨p, q', h1, h2, h3, h4, rfl⟩
    · exact .inl ⟨h1, fin0 A q (by simp only [Rep])⟩
    · rw [hK] at h1 h2
      exact .inr ⟨p, q', h1, h2, h3, h4, fin0 A q (by simp only [Rep])⟩
theorem bs_ne (hK : t.K = X.K := by rfl) : BinS t neD (rNeA X.K) := by
  intro w ah H x y d v u Q A rx ry e q
  unfold neD at e
  cases h : eqB x y with
  | none => rw [h] at e; cases e
  | some b =>
    rw [h] at e
    cases e
    rcases eqB_cases A.sub rx ry h with ⟨h1, rfl⟩ | ⟨p, q', h1, h2, h3, h4, rfl⟩
    · exact .inl ⟨h1, fin0 A q (by simp only [Rep])⟩
    · rw [hK] at h1 h2
      exact .inr ⟨p, q', h1, h2, h3, h4, fin0 A q (by simp only [Rep])⟩
def isN : D → Bool
  | .non => true
  | _ => false
theorem isN_rep {w : Wd} {d : D} {v : V} (r : Rep t w d v) : decide (v = .non) = isN d := by
  cases d <;> simp only [Rep] at r <;> first
    | (subst r; rfl)
    | (obtain ⟨rfl, _, _⟩ := r; rfl)
    | (obtain ⟨p, h⟩ := r
       first
       | (obtain ⟨rfl, _⟩ := h; rfl)
       | (obtain ⟨a, rfl, _⟩ := h; rfl)
       | (obtain ⟨a, b, rfl, _⟩ := h; rfl))
def isND : F2 := fun _ x y => match y with
  | .non => some (.bl (isN x))
  | _ => none
def notND : F2 := fun _ x y => match y with
  | .non => some (.bl (!isN x))
  | _ => none
theorem bs_isN : BinS t isND (fun x y H Q => y = .non ∧ Q (.bl (decide (x = .non))) H) := by
  intro w ah H x y d v u Q A rx ry e q
  cases y <;> simp only [isND, reduceCtorEq] at e
  injection e with e
  subst e
  simp only [Rep] at ry
  refine ⟨ry, ?_⟩
  rw [isN_rep rx]
  exact fin0 A q (by simp only [Rep])
theorem bs_notN : BinS t notND (fun x y H Q => y = .non ∧ Q (.bl (!decide (x = .non))) H) := by
  intro w ah H x y d v u Q A rx ry e q
  cases y <;> simp only [notND, reduceCtorEq] at e
  injection e with e
  subst e
  simp only [Rep] at ry
  refine ⟨ry, ?_⟩
  rw [isN_rep rx]
  exact fin0 A q (by simp only [Rep])
/-- c in s, c one sign -/
def inSD : F2 := fun _ x y => match x, y with
  | .str a, .str z => match a.cps.toList with
    | [c] => some (.bl (decide (c ∈ z.cps.toList)))
    | _ => none
  | _, _ => none
def notInSD : F2 := fun _ x y => match x, y with
  | .str a, .str z => match a.cps.toList with
    | [c] => some (.bl (!decide (c ∈ z.cps.toList)))
    | _ => none
  | _, _ => none
theorem str_one {a : Str} {c : Nat} (h : a.cps.toList = [c]) : a = ⟨#[c]⟩ := by
  obtain ⟨⟨l⟩⟩ := a
  have : l = [c] := h
  subst this
  rfl
theorem bs_inS : BinS t inSD (fun x y H Q => ∃ (c : Nat) (z : Str), x = .str ⟨#[c]⟩ ∧ y = .str z ∧ Q (.bl (decide (c ∈ z.cps.toList))) H) := by
  intro w ah H x y d v u Q A rx ry e q
  cases x <;> cases y <;> simp only [inSD, reduceCtorEq] at e <;> simp only [Rep] at rx ry
  rename_i a z
  split at e
  · rename_i c hc
    injection e with e
    subst e
    rw [str_one hc] at rx
    exact ⟨c, z, rx, ry, fin0 A q (by simp only [Rep])⟩
  · cases e
theorem bs_notInS : BinS t notInSD (fun x y H Q => ∃ (c : Nat) (z : Str), x = .str ⟨#[c]⟩ ∧ y = .str z ∧ Q (.bl (!decide (c ∈ z.cps.toList))) H) := by
  intro w ah H x y d v u Q A rx ry e q
  cases x <;> cases y <;> simp only [notInSD, reduceCtorEq] at e <;> simp only [Rep] at rx ry
  rename_i a z
  split at e
  · rename_i c hc
    injection e with e
    subst e
    rw [str_one hc] at rx
    exact ⟨c, z, rx, ry, fin0 A q (by simp only [Rep])⟩
  · cases e
/-- x in xs, a list or a tuple of flat things -/
def flats : List D → Option (List V)
  | [] => some []
  | d :: r => match scD d, flats r with
    | some v, some vs => some (v :: vs)
    | _, _ => none
theorem flats_rep {w : Wd} : ∀ {l : List D} {vs xs : List V}, Reps t w l vs → flats l = some xs → vs = xs ∧ xs.all flatV = true
  | [], vs, xs, r, e => by
    simp only [flats] at e
    cases e
    simp only [Reps] at r
    subst r
    exact ⟨rfl, rfl⟩
  | d :: l, vs, xs, r, e => by
    simp only [flats] at e
    simp only [Reps] at r
    obtain ⟨v, vr, rfl, h1, h2⟩ := r
    split at e
    · rename_i a b q1 q2
      cases e
      obtain ⟨rfl, h3⟩ := flats_rep h2 q2
      have e1 := scD_rep h1 q1
      subst e1
      refine ⟨rfl, ?_⟩
      rw [List.all_cons, h3, Bool.and_true]
      cases d <;> simp only [scD, reduceCtorEq] at q1 <;> (injection q1 with q1; subst q1; rfl)
    · cases e
def inQB (x y : D) : Option Bool := match scD x, (match y with | .lst l => flats l | .tup l => flats l | _ => none) with
  | some v, some vs => some (inV v vs)
  | _, _ => none
def inQD : F2 := fun _ x y => (inQB x y).map D.bl
def notInQD : F2 := fun _ x y => (inQB x y).map fun b => D.bl (!b)
theorem inQ_rep {w : Wd} {H : Hp} {x y : D} {v u : V} {b : Bool} (hK : t.K = X.K) (hs : Same w.Hf H) (rx : Rep t w x v) (ry : Rep t w y u) (e : inQB x y = some b) :
    ∃ p xs, u = .ref p ∧ (SqL X.K H p xs ∨ SqT X.K H p xs) ∧ flatV v = true ∧ xs.all flatV = true ∧ b = inV v xs := by
  unfold inQB at e
  split at e
  · rename_i z zs h1 h2
    cases e
    have e1 := scD_rep rx h1
    subst e1
    have fv : flatV v = true := by
      cases x <;> simp only [scD, reduceCtorEq] at h1 <;> (injection h1 with h1; subst h1; rfl)
    split at h2
    · simp only [Rep] at ry
      obtain ⟨p, vs, rfl, q1, q2⟩ := ry
      obtain ⟨rfl, h3⟩ := flats_rep q2 h2
      exact ⟨p, vs, rfl, .inl (SqL.of (hs _ _ q1)), fv, h3, rfl⟩
    · simp only [Rep] at ry
      obtain ⟨p, vs, rfl, q1, q2⟩ := ry
      obtain ⟨rfl, h3⟩ := flats_rep q2 h2
      rw [hK] at q1
      exact ⟨p, vs, rfl, .inr (same_sqT hs q1), fv, h3, rfl⟩
    · cases h2
  · cases e
theorem bs_inQ (hK : t.K = X.K := by rfl) : BinS t inQD (rIn X.K false) := by
  intro w ah H x y d v u Q A rx ry e q
  unfold inQD at e
  cases h : inQB x y with
  | none => rw [h] at e; cases e
  | some b =>
    rw [h] at e
    cases e
    obtain ⟨p, xs, e1, h1, h2, h3, rfl⟩ := inQ_rep hK A.sub rx ry h
    exact ⟨p, xs, e1, h1, h2, h3, fin0 A q (by simp only [Rep, if_neg Bool.false_ne_true])⟩
theorem bs_notInQ (hK : t.K = X.K := by rfl) : BinS t notInQD (rIn X.K true) := by
  intro w ah H x y d v u Q A rx ry e q
  unfold notInQD at e
  cases h : inQB x y with
  | none => rw [h] at e; cases e
  | some b =>
    rw [h] at e
    cases e
    obtain ⟨p, xs, e1, h1, h2, h3, rfl⟩ := inQ_rep hK A.sub rx ry h
    exact ⟨p, xs, e1, h1, h2, h3, fin0 A q (by simp only [Rep, if_true])⟩
end
end G
/-! The engine, part 3: tests, arguments, displays, places, calls. -/
namespace G
open PySem PySem.Spec PyProof.Rows L2

section
variable {X : Cx} {t : Tb} {W : WX} {H0 : Bs}
/-! ### tests -/
def cAndT (a b : CT) : CT := fun env ah => (a env ah).bind fun c ah1 => if c = true then b env ah1 else .ok false ah1
def cOrT (a b : CT) : CT := fun env ah => (a env ah).bind fun c ah1 => if c = true then .ok true ah1 else b env ah1
def cNotT (a : CT) : CT := fun env ah => (a env ah).bind fun c ah1 => .ok (!c) ah1
variable {a b : Expr} {rest : List Expr} {pos : Pos} {ca cb : CT}
theorem q_and1 (ha : PT X a (tT t W H0 ca)) : PW X (.BoolOp .And [a] pos) (tT t W H0 ca) := pw_and1 ha
theorem q_or1 (ha : PT X a (tT t W H0 ca)) : PW X (.BoolOp .Or [a] pos) (tT t W H0 ca) := pw_or1 ha
theorem q_andT (ha : PT X a (tT t W H0 ca)) (hb : PW X (.BoolOp .And (b :: rest) pos) (tT t W H0 cb)) : PW X (.BoolOp .And (a :: b :: rest) pos) (tT t W H0 (cAndT ca cb)) := by
  refine PW.imp (pw_and ha hb) ?_
  rintro σ H Q ⟨w, env, ah, A, R, P⟩
  refine ⟨w, env, ah, A, R, post_bind P fun c ah1 w1 v H1 s1 A1 r1 P1 => ?_⟩
  subst r1
  cases c with
  | true =>
    rw [if_pos rfl] at P1
    exact iteT ⟨w1, env, ah1, A1, R.step s1, P1⟩
  | false =>
    rw [if_neg Bool.false_ne_true] at P1
    exact iteF (post_ok P1 A1 rfl)
theorem q_orT (ha : PT X a (tT t W H0 ca)) (hb : PW X (.BoolOp .Or (b :: rest) pos) (tT t W H0 cb)) : PW X (.BoolOp .Or (a :: b :: rest) pos) (tT t W H0 (cOrT ca cb)) := by
  refine PW.imp (pw_or ha hb) ?_
  rintro σ H Q ⟨w, env, ah, A, R, P⟩
  refine ⟨w, env, ah, A, R, post_bind P fun c ah1 w1 v H1 s1 A1 r1 P1 => ?_⟩
  subst r1
  cases c with
  | true =>
    rw [if_pos rfl] at P1
    exact iteT (post_ok P1 A1 rfl)
  | false =>
    rw [if_neg Bool.false_ne_true] at P1
    exact iteF ⟨w1, env, ah1, A1, R.step s1, P1⟩
theorem q_notT (ha : PT X a (tT t W H0 ca)) : PT X (.UnaryOp .Not a pos) (tT t W H0 (cNotT ca)) := by
  refine PT.imp (pt_not ha) ?_
  rintro σ H Q ⟨w, env, ah, A, R, P⟩
  refine ⟨w, env, ah, A, R, post_bind P fun c ah1 w1 v H1 s1 A1 r1 P1 => ?_⟩
  subst r1
  exact post_ok P1 A1 rfl
/-! ### and, or as values; if as a value -/
def cAnd (a b : CE) : CE := fun env ah => (a env ah).bind fun x ah1 => match x with
  | .bl true => b env ah1
  | .bl false => .ok (.bl false) ah1
  | _ => .bad
def cOr (a b : CE) : CE := fun env ah => (a env ah).bind fun x ah1 => match x with
  | .bl true => .ok (.bl true) ah1
  | .bl false => b env ah1
  | _ => .bad
def cIf (c : CT) (a b : CE) : CE := fun env ah => (c env ah).bind fun x ah1 => if x = true then a env ah1 else b env ah1
variable {xa xb xc : CE} {op : BoolOp}
theorem q_one (h : PE X a (tE t W H0 xa)) : PE X (.BoolOp op [a] pos) (tE t W H0 xa) := pe_one h
theorem q_and (ha : PE X a (tE t W H0 xa)) (hb : PE X (.BoolOp .And (b :: rest) pos) (tE t W H0 xb)) : PE X (.BoolOp .And (a :: b :: rest) pos) (tE t W H0 (cAnd xa xb)) := by
  refine PE.imp (pe_and ha hb) ?_
  rintro σ H Q ⟨w, env, ah, A, R, P⟩
  refine ⟨w, env, ah, A, R, post_bind P fun c ah1 w1 v H1 s1 A1 r1 P1 => ?_⟩
  cases c <;> first | exact False.elim P1 | skip
  rename_i k
  simp only [Rep] at r1
  refine ⟨k, r1, ?_⟩
  cases k with
  | true => exact iteT ⟨w1, env, ah1, A1, R.step s1, P1⟩
  | false => exact iteF (post_ok P1 A1 (by simp only [Rep]))
theorem q_or (ha : PE X a (tE t W H0 xa)) (hb : PE X (.BoolOp .Or (b :: rest) pos) (tE t W H0 xb)) : PE X (.BoolOp .Or (a :: b :: rest) pos) (tE t W H0 (cOr xa xb)) := by
  refine PE.imp (pe_or ha hb) ?_
  rintro σ H Q ⟨w, env, ah, A, R, P⟩
  refine ⟨w, env, ah, A, R, post_bind P fun c ah1 w1 v H1 s1 A1 r1 P1 => ?_⟩
  cases c <;> first | exact False.elim P1 | skip
  rename_i k
  simp only [Rep] at r1
  refine ⟨k, r1, ?_⟩
  cases k with
  | true => exact iteT (post_ok P1 A1 (by simp only [Rep]))
  | false => exact iteF ⟨w1, env, ah1, A1, R.step s1, P1⟩
theorem q_if {c : Expr} {cc : CT} (hc : PT X c (tT t W H0 cc)) (ha : PE X a (tE t W H0 xa)) (hb : PE X b (tE t W H0 xb)) : PE X (.IfExp c a b pos) (tE t W H0 (cIf cc xa xb)) := by
  refine PE.imp (pe_ifExp hc ha hb) ?_
  rintro σ H Q ⟨w, env, ah, A, R, P⟩
  refine ⟨w, env, ah, A, R, post_bind P fun c ah1 w1 v H1 s1 A1 r1 P1 => ?_⟩
  subst r1
  cases c with
  | true =>
    rw [if_pos rfl] at P1
    exact iteT ⟨w1, env, ah1, A1, R.step s1, P1⟩
  | false =>
    rw [if_neg Bool.false_ne_true] at P1
    exact iteF ⟨w1, env, ah1, A1, R.step s1, P1⟩
/-! ### a < b < c -/
def cChain (f g : F2) (a b c : CE) : CE := fun env ah => (a env ah).bind fun x ah1 => (b env ah1).bind fun y ah2 => match f ah2 x y with
  | some (.bl true) => (c env ah2).bind fun z ah3 => ofO (g ah3 y z) ah3
  | some (.bl false) => .ok (.bl false) ah2
  | _ => .bad
theorem chain_read {f g : F2} {r r' : R2} (hf : BinS t f r) (hg : BinS t g r') : ∀ σ H Q, tE t W H0 (cChain f g xa xb xc) σ H Q → tChain r r' (tE t W H0 xa) (tE t W H0 xb) (tE t W H0 xc) σ H Q := by
  rintro σ H Q ⟨w, env, ah, A, R, P⟩
  refine ⟨w, env, ah, A, R, post_bind P fun x ah1 w1 v H1 s1 A1 r1 P1 => ?_⟩
  refine ⟨w1, env, ah1, A1, R.step s1, post_bind P1 fun y ah2 w2 u H2 s2 A2 r2 P2 => ?_⟩
  cases e : f ah2 x y with
  | none => rw [e] at P2; exact False.elim P2
  | some d =>
    rw [e] at P2
    refine hf w2 ah2 H2 x y d v u _ A2 (Rep.mono s2.le x r1) r2 e fun w3 z H3 s3 A3 rz => ?_
    cases d <;> first | exact False.elim P2 | skip
    rename_i k
    simp only [Rep] at rz
    refine ⟨k, rz, ?_⟩
    cases k with
    | false => exact iteF (P2 w3 (.bl false) H3 s3 A3 (by simp only [Rep]))
    | true =>
      have P2' := Post.shift (show Post t (Rep t) w2 H2 ((xc env ah2).bind fun z ah3 => ofO (g ah3 y z) ah3) Q _ from P2) s3
      refine iteT ⟨w3, env, ah2, A3, ((R.step s1).step s2).step s3, post_bind P2' fun z ah3 w4 v4 H4 s4 A4 r4 P4 => ?_⟩
      cases e4 : g ah3 y z with
      | none => rw [e4] at P4; exact False.elim P4
      | some d4 =>
        rw [e4] at P4
        exact hg w4 ah3 H4 y z d4 u v4 _ A4 (Rep.mono (s3.le.trans s4.le) y r2) r4 e4 fun w' z' H' s' A' rz' => P4 w' z' H' s' A' rz'
theorem q_chain {o o' : CmpOp} {f g : F2} {r r' : R2} {c : Expr} (ho : OpR X (compareOp o) r) (ho' : OpR X (compareOp o') r') (hf : BinS t f r) (hg : BinS t g r') (ha : PE X a (tE t W H0 xa)) (hb : PE X b (tE t W H0 xb)) (hc : PE X c (tE t W H0 xc))
    (hm : lastMarks [o, o'] [b, c] = false := by with_unfolding_all rfl) : PE X (.Compare a [o, o'] [b, c] pos) (tE t W H0 (cChain f g xa xb xc)) := PE.imp (pe_chain ho ho' ha hb hc hm) (chain_read hf hg)
theorem q_tchain {o o' : CmpOp} {f g : F2} {r r' : R2} {c : Expr} (ho : OpR X (compareOp o) r) (ho' : OpR X (compareOp o') r') (hf : BinS t f r) (hg : BinS t g r') (ha : PE X a (tE t W H0 xa)) (hb : PE X b (tE t W H0 xb)) (hc : PE X c (tE t W H0 xc))
    (hm : lastMarks [o, o'] [b, c] = false := by with_unfolding_all rfl) : PT X (.Compare a [o, o'] [b, c] pos) (tT t W H0 (cTest (cChain f g xa xb xc))) := by
  refine PT.imp (pt_chain ho ho' ha hb hc hm) fun σ H Q h => ?_
  obtain ⟨w, env, ah, A, R, P⟩ := test_read σ H Q h
  exact chain_read hf hg σ H _ ⟨w, env, ah, A, R, P⟩

/-! ### arguments, displays -/
def cNil : CA := fun _ ah => .ok [] ah
def cCons (a : CE) (r : CA) : CA := fun env ah => (a env ah).bind fun x ah1 => (r env ah1).bind fun xs ah2 => .ok (x :: xs) ah2
theorem qa_nil : PA X [] (tAr t W H0 cNil) := by
  refine PA.imp pa_nil ?_
  rintro σ H Q ⟨w, env, ah, A, R, P⟩
  exact post_ok P A (by simp only [Reps])
theorem qa_cons {es : List Expr} {cr : CA} (ha : PE X a (tE t W H0 xa)) (hr : PA X es (tAr t W H0 cr)) (hs : starEach (a :: es) X.env = (false, eval a X.env) :: starEach es X.env := by rfl) : PA X (a :: es) (tAr t W H0 (cCons xa cr)) := by
  refine PA.imp (pa_cons ha hr hs) ?_
  rintro σ H Q ⟨w, env, ah, A, R, P⟩
  refine ⟨w, env, ah, A, R, post_bind P fun x ah1 w1 v H1 s1 A1 r1 P1 => ?_⟩
  refine ⟨w1, env, ah1, A1, R.step s1, post_bind P1 fun l ah2 w2 vs H2 s2 A2 r2 P2 => ?_⟩
  refine post_ok P2 A2 ?_
  simp only [Reps]
  exact ⟨v, vs, rfl, Rep.mono s2.le x r1, r2⟩
theorem le_line {n : Nat} (h : n ≤ 1000) : n ≤ sizeLine := Nat.le_trans h (by decide)
def cTup (a : CA) : CE := fun env ah => (a env ah).bind fun l ah1 => if l.length ≤ 1000 then .ok (.tup l) ah1 else .bad
def cLst (a : CA) : CE := fun env ah => (a env ah).bind fun l ah1 => if l.length ≤ 1000 then .ok (.lst l) ah1 else .bad
theorem q_tup {es : List Expr} {cr : CA} {x1} (h : PA X es (tAr t W H0 cr)) : PE X (.Tuple es x1 pos) (tE t W H0 (cTup cr)) := by
  refine PE.imp (pe_tup h) ?_
  rintro σ H Q ⟨w, env, ah, A, R, P⟩
  refine ⟨w, env, ah, A, R, post_bind P fun l ah1 w1 vs H1 s1 A1 r1 P1 => ?_⟩
  split at P1
  · rename_i hz
    refine ⟨le_line (by rw [← reps_len r1]; exact hz), fun p hp => ?_⟩
    obtain ⟨s, A'⟩ := stp_add (o := .tup vs) A1 hp
    refine P1 _ _ _ s A' ?_
    simp only [Rep]
    exact ⟨p, vs, rfl, SqT.of add_at, Reps.mono s.le _ r1⟩
  · exact False.elim P1
theorem q_lst {es : List Expr} {cr : CA} (h : PA X es (tAr t W H0 cr)) : PE X (.List es pos) (tE t W H0 (cLst cr)) := by
  refine PE.imp (pe_lst h) ?_
  rintro σ H Q ⟨w, env, ah, A, R, P⟩
  refine ⟨w, env, ah, A, R, post_bind P fun l ah1 w1 vs H1 s1 A1 r1 P1 => ?_⟩
  split at P1
  · rename_i hz
    refine ⟨le_line (by rw [← reps_len r1]; exact hz), fun p hp => ?_⟩
    obtain ⟨s, A'⟩ := stp_add (o := .lst vs) A1 hp
    refine P1 _ _ _ s A' ?_
    simp only [Rep]
    exact ⟨p, vs, rfl, add_at, Reps.mono s.le _ r1⟩
  · exact False.elim P1

/-! ### places -/
def idxD : F2 := fun _ x y => match x, y with
  | .lst l, .int i => atI l i
  | .scr l, .int i => atI l i
  | .tup l, .int i => atI l i
  | .str z, .int i => if z.length ≤ sizeLine then (atI z.cps.toList i).map fun c => .str ⟨#[c]⟩ else none
  | _, _ => none
theorem atI_reps {w : Wd} {l : List D} {vs : List V} {i : Int} {d : D} (r : Reps t w l vs) (e : atI l i = some d) : ∃ v, atI vs i = some v ∧ Rep t w d v := by
  unfold atI at e ⊢
  rw [← reps_len r]
  cases h : ixN l.length i with
  | none => rw [h] at e; cases e
  | some j =>
    rw [h] at e
    exact reps_get r e
theorem bs_idx (hK : t.K = X.K := by rfl) : BinS t idxD (rIx X.K) := by
  intro w ah H x y d v u Q A rx ry e q
  cases x <;> cases y <;> simp only [idxD, reduceCtorEq] at e <;> simp only [Rep] at rx ry
  · rename_i z i
    split at e
    · rename_i hz
      cases h : atI z.cps.toList i with
      | none => rw [h] at e; cases e
      | some c =>
        rw [h] at e
        cases e
        exact .inr (.inr ⟨z, i, c, rx, ry, hz, h, fin0 A q (by simp only [Rep])⟩)
    · cases e
  · rename_i l i
    obtain ⟨p, vs, rfl, h1, h2⟩ := rx
    obtain ⟨x, h3, h4⟩ := atI_reps h2 e
    rw [hK] at h1
    exact .inr (.inl ⟨p, vs, i, x, rfl, ry, same_sqT A.sub h1, h3, fin0 A q h4⟩)
  · rename_i l i
    obtain ⟨p, vs, rfl, h1, h2⟩ := rx
    obtain ⟨x, h3, h4⟩ := atI_reps h2 e
    exact .inl ⟨p, vs, i, x, rfl, ry, SqL.of (A.sub _ _ h1), h3, fin0 A q h4⟩
  · rename_i l i
    obtain ⟨p, vs, rfl, h1, h2⟩ := rx
    obtain ⟨x, h3, h4⟩ := atI_reps h2 e
    rw [hK] at h1
    exact .inl ⟨p, vs, i, x, rfl, ry, A.sub.seq h1, h3, fin0 A q h4⟩
theorem q_idx (ha : PE X a (tE t W H0 xa)) (hb : PE X b (tE t W H0 xb)) (hs : PlainIx b := by exact fun _ _ => rfl) (hK : t.K = X.K := by rfl) : PE X (.Subscript a b pos) (tE t W H0 (cBin idxD xa xb)) := PE.imp (pe_ix ix_seq ha hb hs) (bin_read (bs_idx hK))

/-! ### slices -/
abbrev CO := En → AH → Res (Option Int)
abbrev tO (t : Tb) (W : WX) (H0 : Bs) (c : CO) : TO := tR t W H0 (fun _ a b => a = b) c
def cNo : CO := fun _ ah => .ok none ah
def cPart (a : CE) : CO := fun env ah => (a env ah).bind fun x ah1 => match x with
  | .int i => .ok (some i) ah1
  | _ => .bad
theorem qo_none : PO X none (tO t W H0 cNo) := by
  refine ⟨fun pins s σ H Q I h => po_none.run pins s σ H Q I ?_⟩
  obtain ⟨w, env, ah, A, R, P⟩ := h
  exact post_ok P A rfl
theorem qo_some (ha : PE X a (tE t W H0 xa)) : PO X (some a) (tO t W H0 (cPart xa)) := by
  refine ⟨fun pins s σ H Q I h => (po_some ha).run pins s σ H Q I ?_⟩
  obtain ⟨w, env, ah, A, R, P⟩ := h
  refine ⟨w, env, ah, A, R, post_bind P fun x ah1 w1 v H1 s1 A1 r1 P1 => ?_⟩
  cases x <;> first | exact False.elim P1 | skip
  rename_i i
  simp only [Rep] at r1
  exact ⟨i, r1, post_ok P1 A1 rfl⟩
def cutD {α : Type} (xs : List α) (lo hi : Option Int) : List α := (xs.drop (HT.sIx xs.length 0 lo)).take (HT.sIx xs.length xs.length hi - HT.sIx xs.length 0 lo)
theorem reps_cut {w : Wd} {l : List D} {vs : List V} (r : Reps t w l vs) (lo hi : Option Int) : Reps t w (cutD l lo hi) (cutV vs lo hi) := by
  unfold cutD cutV
  rw [reps_len r]
  exact reps_take _ (reps_drop _ r)
def slD (x : D) (lo hi : Option Int) : Option D := match x with
  | .lst l => some (.lst (cutD l lo hi))
  | .scr l => some (.lst (cutD l lo hi))
  | .tup l => some (.tup (cutD l lo hi))
  | .str z => if z.length ≤ sizeLine then some (.str (cutS z lo hi)) else none
  | _ => none
def cSl (a : CE) (lo hi : CO) : CE := fun env ah => (a env ah).bind fun x ah1 => (lo env ah1).bind fun l ah2 => (hi env ah2).bind fun h ah3 => ofO (slD x l h) ah3
def rSlAll (K : PySem.W.Frag) : V → Option Int → Option Int → Hp → VK → Prop := fun x lo hi H Q => rSlL K x lo hi H Q ∨ rSlA K x lo hi H Q ∨ ∃ z, x = .str z ∧ z.length ≤ sizeLine ∧ Q (.str (cutS z lo hi)) H
theorem sl_all : SlR X (rSlAll X.K) := sl_list.or (sl_tupA.or sl_str)
theorem cut_whole {α : Type} {xs : List α} {lo hi : Option Int} (h : HT.sIx xs.length 0 lo = 0 ∧ HT.sIx xs.length xs.length hi = xs.length) : cutD xs lo hi = xs := by
  unfold cutD
  rw [h.1, h.2]
  simp
theorem q_slice {lo hi : Option Expr} {cl ch : CO} {p2 : Pos} (ha : PE X a (tE t W H0 xa)) (hl : PO X lo (tO t W H0 cl)) (hh : PO X hi (tO t W H0 ch)) (hK : t.K = X.K := by rfl) : PE X (.Subscript a (.Slice lo hi none p2) pos) (tE t W H0 (cSl xa cl ch)) := by
  refine PE.imp (pe_slice sl_all ha hl hh) ?_
  rintro σ H Q ⟨w, env, ah, A, R, P⟩
  refine ⟨w, env, ah, A, R, post_bind P fun x ah1 w1 v H1 s1 A1 r1 P1 => ?_⟩
  refine ⟨w1, env, ah1, A1, R.step s1, post_bind P1 fun l ah2 w2 l' H2 s2 A2 r2 P2 => ?_⟩
  subst r2
  refine ⟨w2, env, ah2, A2, (R.step s1).step s2, post_bind P2 fun h ah3 w3 h' H3 s3 A3 r3 P3 => ?_⟩
  subst r3
  have r1' := Rep.mono (s2.le.trans s3.le) x r1
  cases x <;> simp only [slD] at P3 <;> first | exact False.elim P3 | skip
  · rename_i z
    simp only [Rep] at r1'
    split at P3
    · rename_i hz
      exact .inr (.inr ⟨z, r1', hz, post_ok P3 A3 (by simp only [Rep])⟩)
    · exact False.elim P3
  · rename_i m
    simp only [Rep] at r1'
    obtain ⟨p, vs, rfl, q1, q2⟩ := r1'
    rw [hK] at q1
    refine .inr (.inl ⟨p, vs, rfl, same_sqT A3.sub q1, fun z => ?_, fun z pp hp => ?_⟩)
    · refine post_ok P3 A3 ?_
      simp only [Rep]
      refine ⟨p, vs, rfl, by rw [hK]; exact q1, ?_⟩
      rw [cut_whole (by rw [reps_len q2]; exact z)]
      exact q2
    · obtain ⟨s, A'⟩ := stp_add (o := .tup (cutV vs l h)) A3 hp
      refine P3 _ _ _ s A' ?_
      simp only [Rep]
      exact ⟨pp, _, rfl, SqT.of add_at, Reps.mono s.le _ (reps_cut q2 l h)⟩
  · rename_i m
    simp only [Rep] at r1'
    obtain ⟨p, vs, rfl, q1, q2⟩ := r1'
    refine .inl ⟨p, vs, rfl, SqL.of (A3.sub _ _ q1), fun pp hp => ?_⟩
    obtain ⟨s, A'⟩ := stp_add (o := .lst (cutV vs l h)) A3 hp
    refine P3 _ _ _ s A' ?_
    simp only [Rep]
    exact ⟨pp, _, rfl, add_at, Reps.mono s.le _ (reps_cut q2 l h)⟩
  · rename_i m
    simp only [Rep] at r1'
    obtain ⟨p, vs, rfl, q1, q2⟩ := r1'
    rw [hK] at q1
    refine .inl ⟨p, vs, rfl, A3.sub.seq q1, fun pp hp => ?_⟩
    obtain ⟨s, A'⟩ := stp_add (o := .lst (cutV vs l h)) A3 hp
    refine P3 _ _ _ s A' ?_
    simp only [Rep]
    exact ⟨pp, _, rfl, add_at, Reps.mono s.le _ (reps_cut q2 l h)⟩

/-! ### fields -/
def flIx (ns : List Str) (f : Str) : Option Nat := match ns with
  | [] => none
  | n :: r => if n = f then some 0 else (flIx r f).map (· + 1)
theorem flIx_zip {f : Str} : ∀ {ns : List Str} {vs : List V} {i : Nat} {v : V}, flIx ns f = some i → vs[i]? = some v → (ns.zip vs).lookup f = some v
  | [], vs, i, v, e, h => by cases e
  | n :: r, [], i, v, e, h => by simp at h
  | n :: r, y :: vs, i, v, e, h => by
    unfold flIx at e
    by_cases q : n = f
    · rw [if_pos q] at e
      cases e
      simp at h
      subst h q
      simp [List.lookup]
    · rw [if_neg q] at e
      cases e2 : flIx r f with
      | none => rw [e2] at e; cases e
      | some j =>
        rw [e2] at e
        cases e
        have hb : (f == n) = false := by simpa using fun z => q z.symm
        rw [List.zip_cons_cons, List.lookup_cons, hb]
        exact flIx_zip e2 (by simpa using h)
def fldD (fl : Nat → List Str) (f : Str) : AH → D → Option D := fun ah x => match x with
  | .obj c l => (flIx (fl c) f).bind fun i => l[i]?
  | .ref n => match ah[n]? with
    | some (.ins c l) => (flIx (fl c) f).bind fun i => l[i]?
    | _ => none
  | _ => none
def cFld (fl : Nat → List Str) (f : Str) (a : CE) : CE := cUn (fldD fl f) a
/-- what is known of the program's classes (their instances' fields, f among them) -/
def FldOk (t : Tb) (f : Str) : Prop := ∀ c i, flIx (t.fl c) f = some i → Cls t.K (t.cl c) ∧ NoAttr t.K (t.cl c) f
theorem q_fld {f : Str} (hf : FldOk t f) (ha : PE X a (tE t W H0 xa)) (hb : attributeBase a f X.env (eval a X.env) = eval a X.env := by rfl) (hK : t.K = X.K := by rfl) : PE X (.Attribute a f pos) (tE t W H0 (cFld t.fl f xa)) := by
  refine PE.imp (pe_fld ha hb) ?_
  rintro σ H Q ⟨w, env, ah, A, R, P⟩
  refine ⟨w, env, ah, A, R, post_bind P fun x ah1 w1 v H1 s1 A1 r1 P1 => ?_⟩
  rw [← hK]
  cases x <;> simp only [fldD] at P1 <;> first | exact False.elim P1 | skip
  · rename_i c l
    simp only [Rep] at r1
    obtain ⟨p, dx, vs, rfl, h1, h2, h3⟩ := r1
    cases hi : flIx (t.fl c) f with
    | none => rw [hi] at P1; exact False.elim P1
    | some i =>
      rw [hi, Option.bind_some] at P1
      cases hd : l[i]? with
      | none => rw [hd] at P1; exact False.elim P1
      | some d =>
        rw [hd] at P1
        obtain ⟨u, h4, h5⟩ := reps_get h3 hd
        exact ⟨p, t.cl c, dx, _, u, rfl, A1.sub _ _ h1, (hf c i hi).1, (hf c i hi).2, flIx_zip hi h4, post_ok P1 A1 h5⟩
  · rename_i n
    simp only [Rep] at r1
    obtain ⟨p, rfl, h1⟩ := r1
    cases hn : ah1[n]? with
    | none => rw [hn] at P1; exact False.elim P1
    | some o =>
      rw [hn] at P1
      cases o <;> simp only at P1 <;> first | exact False.elim P1 | skip
      rename_i c l
      obtain ⟨h0, dx, vs, h2, h6, h3⟩ := A1.obj n _ p hn h1
      cases hi : flIx (t.fl c) f with
      | none => rw [hi] at P1; exact False.elim P1
      | some i =>
        rw [hi, Option.bind_some] at P1
        cases hd : l[i]? with
        | none => rw [hd] at P1; exact False.elim P1
        | some d =>
          rw [hd] at P1
          obtain ⟨u, h4, h5⟩ := reps_get h3 hd
          exact ⟨p, t.cl c, dx, _, u, rfl, h2, (hf c i hi).1, (hf c i hi).2, flIx_zip hi h4, post_ok P1 A1 h5⟩
end
end G
/-! The engine, part 4: calls of built-ins, of defs; methods of built-in types; isinstance. -/
namespace G
open PySem PySem.Spec PyProof.Rows L2

section
variable {X : Cx} {t : Tb} {W : WX} {H0 : Bs} {xa xb : CE} {ca : CA} {a b e : Expr} {es : List Expr} {pos : Pos}
/-! ### built-ins by values -/
abbrev FL := AH → List D → Option D
def cCB (f : FL) (a : CA) : CE := fun env ah => (a env ah).bind fun l ah1 => ofO (f ah1 l) ah1
def CallS (t : Tb) (f : FL) (r : List V → Hp → VK → Prop) : Prop := ∀ w ah H l d vs Q, RelA t w ah H → Reps t w l vs → f ah l = some d → (∀ w' z H', Stp w H w' H' → RelA t w' ah H' → Rep t w' d z → Q z H') → r vs H Q
theorem cb_read {f : FL} {r : List V → Hp → VK → Prop} (hs : CallS t f r) : ∀ σ H Q, tE t W H0 (cCB f ca) σ H Q → tCB r (tAr t W H0 ca) σ H Q := by
  rintro σ H Q ⟨w, env, ah, A, R, P⟩
  refine ⟨w, env, ah, A, R, post_bind P fun x ah1 w1 v H1 s1 A1 r1 P1 => ?_⟩
  cases e : f ah1 x with
  | none => rw [e] at P1; exact False.elim P1
  | some d =>
    rw [e] at P1
    exact hs w1 ah1 H1 x d v _ A1 r1 e fun w' z H' s' A' rz => P1 w' z H' s' A' rz
theorem q_cb {f : FL} {r : List V → Hp → VK → Prop} {x : Str} {p : Pos} {id : String} (hc : CallR X (.builtin id) r) (hf : CallS t f r) (hm : X.mg x = none) (hv : bootBuiltins x = some (.builtin id)) (ha : PA X (e :: es) (tAr t W H0 ca)) (hg : Gl X x := by rfl) (hn : x ≠ "__name__" := by decide) (hdb : (x == ("__debug__" : Str)) = false := by decide)
    (he : starEach (e :: es) X.env = (false, eval e X.env) :: starEach es X.env := by rfl) (hpl : (backTo pos (starEach es X.env)).any (·.1) = false := by rfl) : PE X (.Call (.Name x p) (e :: es) [] pos) (tE t W H0 (cCB f ca)) :=
  PE.imp (pe_callB hc hg hm hv ha hn hdb he hpl) (cb_read hf)
theorem q_cty {f : FL} {r : List V → Hp → VK → Prop} {x : Str} {p : Pos} {T : String} (hc : CallR X (.type T) r) (hf : CallS t f r) (hm : X.mg x = none) (hv : bootBuiltins x = some (.type T)) (ha : PA X (e :: es) (tAr t W H0 ca)) (hg : Gl X x := by rfl) (hn : x ≠ "__name__" := by decide) (hdb : (x == ("__debug__" : Str)) = false := by decide)
    (he : starEach (e :: es) X.env = (false, eval e X.env) :: starEach es X.env := by rfl) (hpl : (backTo pos (starEach es X.env)).any (·.1) = false := by rfl) : PE X (.Call (.Name x p) (e :: es) [] pos) (tE t W H0 (cCB f ca)) :=
  PE.imp (pe_callTy hc hg hm hv ha hn hdb he hpl) (cb_read hf)
theorem reps1 {w : Wd} {d : D} {vs : List V} (h : Reps t w [d] vs) : ∃ v, vs = [v] ∧ Rep t w d v := by
  simp only [Reps] at h
  obtain ⟨v, r, rfl, h1, rfl⟩ := h
  exact ⟨v, rfl, h1⟩
theorem reps2 {w : Wd} {d d2 : D} {vs : List V} (h : Reps t w [d, d2] vs) : ∃ v v2, vs = [v, v2] ∧ Rep t w d v ∧ Rep t w d2 v2 := by
  simp only [Reps] at h
  obtain ⟨v, r, rfl, h1, v2, r2, rfl, h2, rfl⟩ := h
  exact ⟨v, v2, rfl, h1, h2⟩
def lenD : FL := fun _ l => match l with
  | [.str z] => if z.length ≤ sizeLine then some (.int z.length) else none
  | [.lst m] => some (.int m.length)
  | [.scr m] => some (.int m.length)
  | [.tup m] => some (.int m.length)
  | _ => none
theorem cs_len (hK : t.K = X.K := by rfl) : CallS t lenD (fun xs H Q => ∃ x n, xs = [x] ∧ LenV X.K x H n ∧ Q (.int n) H) := by
  intro w ah H l d vs Q A r e q
  unfold lenD at e
  split at e
  · rename_i z
    obtain ⟨v, rfl, r1⟩ := reps1 r
    simp only [Rep] at r1
    subst r1
    split at e
    · rename_i hz
      cases e
      exact ⟨_, z.length, rfl, ⟨hz, rfl⟩, fin0 A q (by simp only [Rep])⟩
    · cases e
  · rename_i m
    obtain ⟨v, rfl, r1⟩ := reps1 r
    simp only [Rep] at r1
    obtain ⟨p, us, rfl, h1, h2⟩ := r1
    cases e
    exact ⟨_, us.length, rfl, .inl ⟨us, SqL.of (A.sub _ _ h1), rfl⟩, fin0 A q (by simp only [Rep, reps_len h2])⟩
  · rename_i m
    obtain ⟨v, rfl, r1⟩ := reps1 r
    simp only [Rep] at r1
    obtain ⟨p, us, rfl, h1, h2⟩ := r1
    cases e
    rw [hK] at h1
    exact ⟨_, us.length, rfl, .inl ⟨us, A.sub.seq h1, rfl⟩, fin0 A q (by simp only [Rep, reps_len h2])⟩
  · rename_i m
    obtain ⟨v, rfl, r1⟩ := reps1 r
    simp only [Rep] at r1
    obtain ⟨p, us, rfl, h1, h2⟩ := r1
    cases e
    rw [hK] at h1
    exact ⟨_, us.length, rfl, .inr ⟨us, same_sqT A.sub h1, rfl⟩, fin0 A q (by simp only [Rep, reps_len h2])⟩
  · cases e
def absD : FL := fun _ l => match l with
  | [.int i] => some (.int (if i < 0 then -i else i))
  | _ => none
theorem cs_abs : CallS t absD (fun xs H Q => ∃ i, xs = [.int i] ∧ Q (.int (if i < 0 then -i else i)) H) := by
  intro w ah H l d vs Q A r e q
  unfold absD at e
  split at e
  · obtain ⟨v, rfl, r1⟩ := reps1 r
    simp only [Rep] at r1
    subst r1
    cases e
    exact ⟨_, rfl, fin0 A q (by simp only [Rep])⟩
  · cases e
def intD : FL := fun _ l => match l with
  | [.int i] => some (.int i)
  | [.bl b] => some (.int (if b then 1 else 0))
  | [.str z] => if z.length ≤ 640 then (PySem.intText? z).map D.int else none
  | _ => none
theorem call_intA : CallR X (.type "int") (fun xs H Q => ((∃ i, xs = [.int i] ∧ Q (.int i) H) ∨ ∃ k, xs = [.bl k] ∧ Q (.int (if k then 1 else 0)) H) ∨ ∃ a n, xs = [.str a] ∧ PySem.intText? a = some n ∧ a.length ≤ 640 ∧ Q (.int n) H) := call_int1.or call_int_str
theorem cs_int : CallS t intD (fun xs H Q => ((∃ i, xs = [.int i] ∧ Q (.int i) H) ∨ ∃ k, xs = [.bl k] ∧ Q (.int (if k then 1 else 0)) H) ∨ ∃ a n, xs = [.str a] ∧ PySem.intText? a = some n ∧ a.length ≤ 640 ∧ Q (.int n) H) := by
  intro w ah H l d vs Q A r e q
  unfold intD at e
  split at e
  · obtain ⟨v, rfl, r1⟩ := reps1 r
    simp only [Rep] at r1
    subst r1
    cases e
    exact .inl (.inl ⟨_, rfl, fin0 A q (by simp only [Rep])⟩)
  · obtain ⟨v, rfl, r1⟩ := reps1 r
    simp only [Rep] at r1
    subst r1
    cases e
    exact .inl (.inr ⟨_, rfl, fin0 A q (by simp only [Rep])⟩)
  · rename_i z
    obtain ⟨v, rfl, r1⟩ := reps1 r
    simp only [Rep] at r1
    subst r1
    split at e
    · rename_i hz
      cases h : PySem.intText? z with
      | none => rw [h] at e; cases e
      | some n =>
        rw [h] at e
        cases e
        exact .inr ⟨z, n, rfl, h, hz, fin0 A q (by simp only [Rep])⟩
    · cases e
  · cases e
def strD : FL := fun _ l => match l with
  | [.int i] => if i.natAbs.log2 < 1920 then some (.str (toString i)) else none
  | [.str z] => some (.str z)
  | _ => none
theorem cs_str : CallS t strD (fun xs H Q => (∃ i, xs = [.int i] ∧ i.natAbs.log2 < 1920 ∧ Q (.str (toString i)) H) ∨ ∃ a, xs = [.str a] ∧ Q (.str a) H) := by
  intro w ah H l d vs Q A r e q
  unfold strD at e
  split at e
  · obtain ⟨v, rfl, r1⟩ := reps1 r
    simp only [Rep] at r1
    subst r1
    split at e
    · rename_i hz
      cases e
      exact .inl ⟨_, rfl, hz, fin0 A q (by simp only [Rep])⟩
    · cases e
  · obtain ⟨v, rfl, r1⟩ := reps1 r
    simp only [Rep] at r1
    subst r1
    cases e
    exact .inr ⟨_, rfl, fin0 A q (by simp only [Rep])⟩
  · cases e
theorem call_strA : CallR X (.type "str") (fun xs H Q => (∃ i, xs = [.int i] ∧ i.natAbs.log2 < 1920 ∧ Q (.str (toString i)) H) ∨ ∃ a, xs = [.str a] ∧ Q (.str a) H) := call_str_int.or SkE.call_str_str
def listD : FL := fun _ l => match l with
  | [.lst m] => some (.lst m)
  | [.scr m] => some (.lst m)
  | [.tup m] => some (.lst m)
  | _ => none
theorem cs_list (hK : t.K = X.K := by rfl) : CallS t listD (fun xs H Q => ∃ p ys, xs = [.ref p] ∧ (SqL X.K H p ys ∨ SqT X.K H p ys) ∧ ∀ l, H l = none → Q (.ref l) (upd H l (.lst ys))) := by
  intro w ah H l d vs Q A r e q
  have fin : ∀ {m : List D} {us : List V} (p : Addr), H p = none → Reps t w m us → d = .lst m → Q (.ref p) (upd H p (.lst us)) := fun {m us} p hp r2 hd => by
    subst hd
    obtain ⟨s, A'⟩ := stp_add (o := .lst us) A hp
    refine q _ _ _ s A' ?_
    simp only [Rep]
    exact ⟨p, us, rfl, add_at, Reps.mono s.le _ r2⟩
  unfold listD at e
  split at e
  · obtain ⟨v, rfl, r1⟩ := reps1 r
    simp only [Rep] at r1
    obtain ⟨p, us, rfl, h1, h2⟩ := r1
    cases e
    exact ⟨p, us, rfl, .inl (SqL.of (A.sub _ _ h1)), fun l hl => fin l hl h2 rfl⟩
  · obtain ⟨v, rfl, r1⟩ := reps1 r
    simp only [Rep] at r1
    obtain ⟨p, us, rfl, h1, h2⟩ := r1
    cases e
    rw [hK] at h1
    exact ⟨p, us, rfl, .inl (A.sub.seq h1), fun l hl => fin l hl h2 rfl⟩
  · obtain ⟨v, rfl, r1⟩ := reps1 r
    simp only [Rep] at r1
    obtain ⟨p, us, rfl, h1, h2⟩ := r1
    cases e
    rw [hK] at h1
    exact ⟨p, us, rfl, .inr (same_sqT A.sub h1), fun l hl => fin l hl h2 rfl⟩
  · cases e
def tupD : FL := fun _ l => match l with
  | [.lst m] => some (.tup m)
  | [.scr m] => some (.tup m)
  | [.tup m] => some (.tup m)
  | _ => none
theorem cs_tuple (hK : t.K = X.K := by rfl) : CallS t tupD (fun xs H Q => ∃ p ys, xs = [.ref p] ∧ ((SqL X.K H p ys ∧ ∀ l, H l = none → Q (.ref l) (upd H l (.tup ys))) ∨ (SqT X.K H p ys ∧ Q (.ref p) H))) := by
  intro w ah H l d vs Q A r e q
  have fin : ∀ {m : List D} {us : List V} (p : Addr), H p = none → Reps t w m us → d = .tup m → Q (.ref p) (upd H p (.tup us)) := fun {m us} p hp r2 hd => by
    subst hd
    obtain ⟨s, A'⟩ := stp_add (o := .tup us) A hp
    refine q _ _ _ s A' ?_
    simp only [Rep]
    exact ⟨p, us, rfl, SqT.of add_at, Reps.mono s.le _ r2⟩
  unfold tupD at e
  split at e
  · obtain ⟨v, rfl, r1⟩ := reps1 r
    simp only [Rep] at r1
    obtain ⟨p, us, rfl, h1, h2⟩ := r1
    cases e
    exact ⟨p, us, rfl, .inl ⟨SqL.of (A.sub _ _ h1), fun l hl => fin l hl h2 rfl⟩⟩
  · obtain ⟨v, rfl, r1⟩ := reps1 r
    simp only [Rep] at r1
    obtain ⟨p, us, rfl, h1, h2⟩ := r1
    cases e
    rw [hK] at h1
    exact ⟨p, us, rfl, .inl ⟨A.sub.seq h1, fun l hl => fin l hl h2 rfl⟩⟩
  · obtain ⟨v, rfl, r1⟩ := reps1 r
    simp only [Rep] at r1
    obtain ⟨p, us, rfl, h1, h2⟩ := r1
    cases e
    refine ⟨p, us, rfl, .inr ⟨?_, ?_⟩⟩
    · rw [← hK]
      exact same_sqT A.sub h1
    · refine fin0 A q ?_
      simp only [Rep]
      exact ⟨p, us, rfl, h1, h2⟩
  · cases e
def max2D : FL := fun _ l => match l with
  | [.int i, .int j] => some (.int (if j > i then j else i))
  | _ => none
theorem cs_max2 : CallS t max2D (fun xs H Q => ∃ i j, xs = [.int i, .int j] ∧ Q (.int (if j > i then j else i)) H) := by
  intro w ah H l d vs Q A r e q
  unfold max2D at e
  split at e
  · obtain ⟨v, v2, rfl, r1, r2⟩ := reps2 r
    simp only [Rep] at r1 r2
    subst r1 r2
    cases e
    exact ⟨_, _, rfl, fin0 A q (by simp only [Rep])⟩
  · cases e
def min2D : FL := fun _ l => match l with
  | [.int i, .int j] => some (.int (if j < i then j else i))
  | _ => none
theorem cs_min2 : CallS t min2D (fun xs H Q => ∃ i j, xs = [.int i, .int j] ∧ Q (.int (if j < i then j else i)) H) := by
  intro w ah H l d vs Q A r e q
  unfold min2D at e
  split at e
  · obtain ⟨v, v2, rfl, r1, r2⟩ := reps2 r
    simp only [Rep] at r1 r2
    subst r1 r2
    cases e
    exact ⟨_, _, rfl, fin0 A q (by simp only [Rep])⟩
  · cases e
def blsD : List D → Option (List Bool)
  | [] => some []
  | .bl b :: r => (blsD r).map (b :: ·)
  | _ => none
theorem bls_rep {w : Wd} : ∀ {l : List D} {vs : List V} {bs : List Bool}, Reps t w l vs → blsD l = some bs → vs = bs.map V.bl
  | [], vs, bs, r, e => by
    simp only [blsD] at e
    cases e
    simp only [Reps] at r
    subst r
    rfl
  | d :: l, vs, bs, r, e => by
    simp only [Reps] at r
    obtain ⟨v, vr, rfl, h1, h2⟩ := r
    cases d <;> simp only [blsD, reduceCtorEq] at e
    rename_i b
    cases q : blsD l with
    | none => rw [q] at e; cases e
    | some cs =>
      rw [q] at e
      cases e
      simp only [Rep] at h1
      subst h1
      rw [bls_rep h2 q]
      rfl
def allD : FL := fun _ l => match l with
  | [.lst m] => (blsD m).map fun bs => .bl (bs.all id)
  | _ => none
def anyD : FL := fun _ l => match l with
  | [.lst m] => (blsD m).map fun bs => .bl (bs.any id)
  | _ => none
theorem cs_all (hK : t.K = X.K := by rfl) : CallS t allD (rAll X.K) := by
  intro w ah H l d vs Q A r e q
  unfold allD at e
  split at e
  · rename_i m
    obtain ⟨v, rfl, r1⟩ := reps1 r
    simp only [Rep] at r1
    obtain ⟨p, us, rfl, h1, h2⟩ := r1
    cases hb : blsD m with
    | none => rw [hb] at e; cases e
    | some bs =>
      rw [hb] at e
      cases e
      have eu := bls_rep h2 hb
      subst eu
      exact ⟨p, bs, rfl, SqL.of (A.sub _ _ h1), fin0 A q (by simp only [Rep])⟩
  · cases e
theorem cs_any (hK : t.K = X.K := by rfl) : CallS t anyD (rAny X.K) := by
  intro w ah H l d vs Q A r e q
  unfold anyD at e
  split at e
  · rename_i m
    obtain ⟨v, rfl, r1⟩ := reps1 r
    simp only [Rep] at r1
    obtain ⟨p, us, rfl, h1, h2⟩ := r1
    cases hb : blsD m with
    | none => rw [hb] at e; cases e
    | some bs =>
      rw [hb] at e
      cases e
      have eu := bls_rep h2 hb
      subst eu
      exact ⟨p, bs, rfl, SqL.of (A.sub _ _ h1), fin0 A q (by simp only [Rep])⟩
  · cases e

/-! ### defs -/
abbrev FD := List D → AH → Res D
/-- what a def promises: it does F -/
def spD (t : Tb) (F : FD) (n : Nat) : Sp := fun vs H Q E => vs.length = n ∧ ∃ w ds ah, RelA t w ah H ∧ Reps t w ds vs ∧ Post t (Rep t) w H (F ds ah) Q E
theorem spD_len {F : FD} {n : Nat} {ps : List Str} (h : n = ps.length) : ∀ vs H Q E, spD t F n vs H Q E → vs.length = ps.length := fun vs H Q E q => by rw [q.1, h]
def cCall (F : FD) (n : Nat) (dds : List D) (a : CA) : CE := fun env ah => (a env ah).bind fun l ah1 => if (l ++ dds).length = n then F (l ++ dds) ah1 else .bad
theorem call_read {F : FD} {n : Nat} {dds : List D} {dvs : List V} (hd : ∀ w, Reps t w dds dvs) : ∀ σ H Q, tE t W H0 (cCall F n dds ca) σ H Q → tCallSD (spD t F n) dvs (WE W) (tAr t W H0 ca) σ H Q := by
  rintro σ H Q ⟨w, env, ah, A, R, P⟩
  refine ⟨w, env, ah, A, R, post_bind P fun l ah1 w1 vs H1 s1 A1 r1 P1 => ?_⟩
  split at P1
  · rename_i hn
    refine ⟨?_, w1, l ++ dds, ah1, A1, reps_append r1 (hd w1), P1⟩
    rw [← hn, List.length_append, List.length_append, reps_len r1, reps_len (hd w1)]
  · exact False.elim P1
theorem q_call {F : FD} {n k : Nat} {f : Addr} {fd : FuncData} {ps : List Str} {dds : List D} {dvs : List V} {ds : List Value} {x : Str} {p : Pos} (hF : FnOk X.prog X.w X.K X.mg X.base (L2.CX X.prog X.w) k f fd ps (spD t F n)) (hr : Room k X.A) (hm : X.mg x = some (.ref f)) (hk : PySem.W.keepIn X.K (.ref f) = true)
    (hb : L2.Binds X.K fd ps ds) (hd : Vals dvs ds) (hdd : ∀ w, Reps t w dds dvs) (tk : Takes X W) (ha : PA X (e :: es) (tAr t W H0 ca)) (hg : Gl X x := by rfl) (hdb : (x == ("__debug__" : Str)) = false := by decide)
    (he : starEach (e :: es) X.env = (false, eval e X.env) :: starEach es X.env := by rfl) (hpl : (backTo pos (starEach es X.env)).any (·.1) = false := by rfl) : PE X (.Call (.Name x p) (e :: es) [] pos) (tE t W H0 (cCall F n dds ca)) :=
  PE.imp (pe_callSD hF hr hg hm hk hb hd (fun σ => passAt tk σ) ha hdb he hpl) (call_read hdd)
theorem pe_callSD0 {CX : CXT} {k : Nat} {f : Addr} {fd : FuncData} {ps : List Str} {sp : Sp} {dvs : List V} {ds : List Value} {E : L2.St → XK} {x : Str} {p : Pos} (F : FnOk X.prog X.w X.K X.mg X.base CX k f fd ps sp) (hr : Room k X.A) (hg : Gl X x) (hm : X.mg x = some (.ref f)) (hk : PySem.W.keepIn X.K (.ref f) = true) (hb : L2.Binds X.K fd ps ds) (hd : Vals dvs ds) (hx : ∀ σ, PassesAt CX X σ (E σ))
    (hdb : (x == ("__debug__" : Str)) = false := by decide) : PE X (.Call (.Name x p) [] [] pos) (tCallSD sp dvs E tNil) := by
  refine ⟨fun pins s σ H Q I h => ?_⟩
  refine wpAny_Call_Name_kw (ld_glob I hg hm ?_ hdb)
  exact PySem.W.callWith_K0 I.kIn hk (run_fnSD (us := []) F hr hb hd (hx σ) I .nil h)
theorem nil_read : ∀ σ H Q, tAr t W H0 cNil σ H Q → tNil σ H Q := by
  rintro σ H Q ⟨w, env, ah, A, R, P⟩
  exact post_ok P A (by simp only [Reps])
theorem q_call0 {F : FD} {n k : Nat} {f : Addr} {fd : FuncData} {ps : List Str} {dds : List D} {dvs : List V} {ds : List Value} {x : Str} {p : Pos} (hF : FnOk X.prog X.w X.K X.mg X.base (L2.CX X.prog X.w) k f fd ps (spD t F n)) (hr : Room k X.A) (hm : X.mg x = some (.ref f)) (hk : PySem.W.keepIn X.K (.ref f) = true)
    (hb : L2.Binds X.K fd ps ds) (hd : Vals dvs ds) (hdd : ∀ w, Reps t w dds dvs) (tk : Takes X W) (hg : Gl X x := by rfl) (hdb : (x == ("__debug__" : Str)) = false := by decide) : PE X (.Call (.Name x p) [] [] pos) (tE t W H0 (cCall F n dds cNil)) :=
  PE.imp (pe_callSD0 hF hr hg hm hk hb hd (fun σ => passAt tk σ) hdb) fun σ H Q h => nil_read σ H _ (call_read hdd σ H Q h)
end
end G
/-! The engine, part 5: statements, loops, comprehensions, the rule for a def. -/
namespace G
open PySem PySem.Spec PyProof.Rows L2

inductive SRes where
  | nx (env : En) (ah : AH) | rt (d : D) (ah : AH) | bk (env : En) (ah : AH) | ct (env : En) (ah : AH) | exc (c : Nat) (l : List D) (env : En) (ah : AH) | bad
abbrev CS := En → AH → SRes
def PostS (t : Tb) (W : WX) (w0 : Wd) (H0 : Bs) (w : Wd) (r : SRes) (Dn : Ends) : Prop := match r with
  | .nx env ah => ∀ w' σ H, Wle w w' → StpQ w0 H0.H w' H → RelA t w' ah H → RelE t H0 w' env σ H → Dn.nx σ H
  | .rt d ah => ∀ w' v H, Wle w w' → StpQ w0 H0.H w' H → RelA t w' ah H → Rep t w' d v → Dn.rt v H
  | .bk env ah => ∀ w' σ H, Wle w w' → StpQ w0 H0.H w' H → RelA t w' ah H → RelE t H0 w' env σ H → Dn.bk σ H
  | .ct env ah => ∀ w' σ H, Wle w w' → StpQ w0 H0.H w' H → RelA t w' ah H → RelE t H0 w' env σ H → Dn.ct σ H
  | .exc c l env ah => ∀ w' σ d H, Wle w w' → StpQ w0 H0.H w' H → RelA t w' ah H → RelE t H0 w' env σ H → ExcD t w' c l d → W (.ref (t.cl c)) d σ H
  | .bad => False
theorem PostS.up {t : Tb} {W : WX} {w0 w w1 : Wd} {H0 : Bs} {r : SRes} {Dn : Ends} (p : PostS t W w0 H0 w r Dn) (l : Wle w w1) : PostS t W w0 H0 w1 r Dn := by
  cases r with
  | nx env ah => exact fun w' σ H l' => p w' σ H (l.trans l')
  | rt d ah => exact fun w' v H l' => p w' v H (l.trans l')
  | bk env ah => exact fun w' σ H l' => p w' σ H (l.trans l')
  | ct env ah => exact fun w' σ H l' => p w' σ H (l.trans l')
  | exc c m env ah => exact fun w' σ d H l' => p w' σ d H (l.trans l')
  | bad => exact p
def tS (t : Tb) (W : WX) (w0 : Wd) (H0 : Bs) (c : CS) : TS := fun Dn σ H => ∃ w env ah, StpQ w0 H0.H w H ∧ RelA t w ah H ∧ RelE t H0 w env σ H ∧ PostS t W w0 H0 w (c env ah) Dn
/-- what a statement does with an expression's result -/
def SRes.of {α : Type} (env : En) (r : Res α) (k : α → AH → SRes) : SRes := match r with
  | .ok a ah => k a ah
  | .exc c l ah => .exc c l env ah
  | .bad => .bad
@[simp] theorem of_ok {α : Type} (env : En) (a : α) (ah : AH) (k : α → AH → SRes) : SRes.of env (.ok a ah) k = k a ah := rfl
@[simp] theorem of_exc {α : Type} (env : En) (c : Nat) (l : List D) (ah : AH) (k : α → AH → SRes) : SRes.of env (.exc c l ah : Res α) k = .exc c l env ah := rfl
@[simp] theorem of_bad {α : Type} (env : En) (k : α → AH → SRes) : SRes.of env (.bad : Res α) k = .bad := rfl
theorem post_of {t : Tb} {W : WX} {w0 w : Wd} {H0 : Bs} {H : Hp} {α β : Type} {R : Wd → α → β → Prop} {env : En} {σ : L2.St} {r : Res α} {k : α → AH → SRes} {Dn : Ends} {Y : β → Hp → Prop} (s0 : StpQ w0 H0.H w H) (E : RelE t H0 w env σ H)
    (p : PostS t W w0 H0 w (SRes.of env r k) Dn) (g : ∀ a ah w' b H', Stp w H w' H' → StpQ w0 H0.H w' H' → RelA t w' ah H' → RelE t H0 w' env σ H' → R w' a b → PostS t W w0 H0 w' (k a ah) Dn → Y b H') :
    Post t R w H r Y (fun cls d H' => W cls d σ H') := by
  cases r with
  | ok a ah => exact fun w' b H' s A rr => g a ah w' b H' s (s0.trans s) A (E.step s) rr (PostS.up (show PostS t W w0 H0 w (k a ah) Dn from p) s.le)
  | exc c l ah => exact fun w' d H' s A x => p w' σ d H' s.le (s0.trans s) A (E.step s) x
  | bad => exact p

/-! ### slots -/
theorem relE_set {t : Tb} {H0 : Bs} {H : Hp} {w : Wd} {env : En} {σ : L2.St} {i : Nat} {s : Sl} {x : Option V} (E : RelE t H0 w env σ H) (hs : SlOk t H0 w s (some x) H)
    (hd : ∀ o j p a, s = .own o → i ≠ j → env[j]? = some (.own p) → σ[j]? = some (some (.ref a)) → x ≠ some (.ref a)) : RelE t H0 w (env.set i s) (σ.set i x) H := by
  refine ⟨by rw [List.length_set, List.length_set, E.len], fun j u e => ?_, fun j k o p a hjk e1 e2 e3 e4 => ?_⟩
  · by_cases h : i = j
    · subst h
      have hi : i < env.length := by
        by_cases h : i < env.length
        · exact h
        · rw [List.getElem?_eq_none (by rw [List.length_set]; omega)] at e
          cases e
      rw [List.getElem?_set_self hi] at e
      rw [List.getElem?_set_self (by rw [← E.len]; exact hi)]
      cases e
      exact hs
    · rw [List.getElem?_set_ne h] at e ⊢
      exact E.slot j u e
  · by_cases h1 : i = j
    · subst h1
      have hi : i < env.length := by
        by_cases h : i < env.length
        · exact h
        · rw [List.getElem?_eq_none (by rw [List.length_set]; omega)] at e1
          cases e1
      rw [List.getElem?_set_self hi] at e1
      rw [List.getElem?_set_self (by rw [← E.len]; exact hi)] at e3
      rw [List.getElem?_set_ne hjk] at e2 e4
      cases e1
      exact hd o k p a rfl hjk e2 e4 (Option.some.inj e3)
    · by_cases h2 : i = k
      · subst h2
        have hi : i < env.length := by
          by_cases h : i < env.length
          · exact h
          · rw [List.getElem?_eq_none (by rw [List.length_set]; omega)] at e2
            cases e2
        rw [List.getElem?_set_self hi] at e2
        rw [List.getElem?_set_self (by rw [← E.len]; exact hi)] at e4
        rw [List.getElem?_set_ne h1] at e1 e3
        cases e2
        exact hd p j o a rfl (Ne.symm hjk) e1 e3 (Option.some.inj e4)
      · rw [List.getElem?_set_ne h1] at e1 e3
        rw [List.getElem?_set_ne h2] at e2 e4
        exact E.dist j k o p a hjk e1 e2 e3 e4
theorem relE_val {t : Tb} {H0 : Bs} {H : Hp} {w : Wd} {env : En} {σ : L2.St} {i : Nat} {d : D} {v : V} (E : RelE t H0 w env σ H) (r : Rep t w d v) : RelE t H0 w (env.set i (.val d)) (σ.set i (some v)) H :=
  relE_set E ⟨v, rfl, r⟩ fun o j p a e => by cases e
theorem relE_no {t : Tb} {H0 : Bs} {H : Hp} {w : Wd} {env : En} {σ : L2.St} {i : Nat} {x : Option V} (E : RelE t H0 w env σ H) : RelE t H0 w (env.set i .no) (σ.set i x) H :=
  relE_set E trivial fun o j p a e => by cases e

section
variable {X : Cx} {t : Tb} {W : WX} {w0 : Wd} {H0 : Bs} {xa xb : CE} {ca : CA} {a b e : Expr} {es : List Expr} {pos : Pos} {st : Stmt} {rest : List Stmt} {c1 c2 : CS}
/-! ### blocks -/
def cSkip : CS := fun env ah => .nx env ah
def cSeq (a b : CS) : CS := fun env ah => match a env ah with
  | .nx env' ah' => b env' ah'
  | r => r
theorem z_nil : PSs X [] (tS t W w0 H0 cSkip) := by
  refine PSs.imp pss_nil ?_
  rintro Dn σ H ⟨w, env, ah, s, A, E, P⟩
  exact P w σ H (Wle.refl _) s A E
theorem z_cons (h1 : PS X st (tS t W w0 H0 c1)) (h2 : PSs X rest (tS t W w0 H0 c2)) : PSs X (st :: rest) (tS t W w0 H0 (cSeq c1 c2)) := by
  refine PSs.imp (pss_cons h1 h2) ?_
  rintro Dn σ H ⟨w, env, ah, s, A, E, P⟩
  refine ⟨w, env, ah, s, A, E, ?_⟩
  unfold cSeq at P
  cases e : c1 env ah with
  | nx env' ah' =>
    rw [e] at P
    exact fun w' σ' H' l' s' A' E' => ⟨w', env', ah', s', A', E', PostS.up P l'⟩
  | rt d ah' => rw [e] at P; exact P
  | bk env' ah' => rw [e] at P; exact P
  | ct env' ah' => rw [e] at P; exact P
  | exc c l env' ah' => rw [e] at P; exact P
  | bad => rw [e] at P; exact P
theorem z_one (h1 : PS X st (tS t W w0 H0 c1)) : PSs X [st] (tS t W w0 H0 c1) := pss_one h1
theorem z_pass : PS X (.Pass pos) (tS t W w0 H0 cSkip) := by
  refine PS.imp ps_pass ?_
  rintro Dn σ H ⟨w, env, ah, s, A, E, P⟩
  exact P w σ H (Wle.refl _) s A E
def cBrk : CS := fun env ah => .bk env ah
def cCnt : CS := fun env ah => .ct env ah
theorem z_break : PS X (.Break pos) (tS t W w0 H0 cBrk) := by
  refine PS.imp ps_break ?_
  rintro Dn σ H ⟨w, env, ah, s, A, E, P⟩
  exact P w σ H (Wle.refl _) s A E
theorem z_continue : PS X (.Continue pos) (tS t W w0 H0 cCnt) := by
  refine PS.imp ps_continue ?_
  rintro Dn σ H ⟨w, env, ah, s, A, E, P⟩
  exact P w σ H (Wle.refl _) s A E
theorem z_doc {x j pos'} : PS X (.Expr (.Constant (.str x) j pos') pos) (tS t W w0 H0 cSkip) := by
  refine PS.imp ps_doc ?_
  rintro Dn σ H ⟨w, env, ah, s, A, E, P⟩
  exact P w σ H (Wle.refl _) s A E
def cExpr (a : CE) : CS := fun env ah => SRes.of env (a env ah) fun _ ah1 => .nx env ah1
theorem z_expr (ha : PE X a (tE t W H0 xa)) (hs : swapsWith a none pos.line X.env = pure false := by rfl) : PS X (.Expr a pos) (tS t W w0 H0 (cExpr xa)) := by
  refine PS.imp (ps_expr ha hs) ?_
  rintro Dn σ H ⟨w, env, ah, s, A, E, P⟩
  exact ⟨w, env, ah, A, E, post_of s E P fun d ah1 w1 v H1 s1 s01 A1 E1 r1 P1 => P1 w1 σ H1 (Wle.refl _) s01 A1 E1⟩
def cRet (a : CE) : CS := fun env ah => SRes.of env (a env ah) fun d ah1 => .rt d ah1
theorem z_ret (ha : PE X a (tE t W H0 xa)) : PS X (.Return (some a) pos) (tS t W w0 H0 (cRet xa)) := by
  refine PS.imp (ps_ret ha) ?_
  rintro Dn σ H ⟨w, env, ah, s, A, E, P⟩
  exact ⟨w, env, ah, A, E, post_of s E P fun d ah1 w1 v H1 s1 s01 A1 E1 r1 P1 => P1 w1 v H1 (Wle.refl _) s01 A1 r1⟩
def cRetN : CS := fun env ah => .rt .non ah
theorem z_retN : PS X (.Return none pos) (tS t W w0 H0 cRetN) := by
  refine PS.imp ps_retN ?_
  rintro Dn σ H ⟨w, env, ah, s, A, E, P⟩
  exact P w .non H (Wle.refl _) s A (by simp only [Rep])
def cIfS (c : CT) (a b : CS) : CS := fun env ah => SRes.of env (c env ah) fun k ah1 => if k = true then a env ah1 else b env ah1
theorem z_if {c : Expr} {l m : List Stmt} {cc : CT} (hc : PT X c (tT t W H0 cc)) (ha : PSs X l (tS t W w0 H0 c1)) (hb : PSs X m (tS t W w0 H0 c2)) : PS X (.If c l m pos) (tS t W w0 H0 (cIfS cc c1 c2)) := by
  refine PS.imp (ps_if hc ha hb) ?_
  rintro Dn σ H ⟨w, env, ah, s, A, E, P⟩
  refine ⟨w, env, ah, A, E, post_of s E P fun k ah1 w1 k' H1 s1 s01 A1 E1 r1 P1 => ?_⟩
  subst r1
  cases k with
  | true =>
    rw [if_pos rfl] at P1
    exact iteT ⟨w1, env, ah1, s01, A1, E1, P1⟩
  | false =>
    rw [if_neg Bool.false_ne_true] at P1
    exact iteF ⟨w1, env, ah1, s01, A1, E1, P1⟩

/-! ### names stored -/
abbrev TgD := D → En → Option En
/-- a target does what f says -/
def TgS (t : Tb) (is : List Nat) (f : TgD) (g : TG) : Prop := ∀ H0 w ah env env' σ H d v Q, RelA t w ah H → RelE t H0 w env σ H → Rep t w d v → f d env = some env' →
  (∀ σ', RelE t H0 w env' σ' H → σ'.length = σ.length → (∀ j, j ∉ is → σ'[j]? = σ[j]?) → Q σ' H) → g v σ H Q
def gN (i : Nat) : TgD := fun d env => some (env.set i (.val d))
theorem tg_name (i : Nat) : TgS t [i] (gN i) (gName i) := by
  intro H0 w ah env env' σ H d v Q A E r e q
  cases e
  exact q _ (relE_val E r) List.length_set fun j hj => List.getElem?_set_ne (fun z => hj (by rw [z]; exact List.mem_singleton.mpr rfl))
def gNs : List Nat → List D → En → Option En
  | [], [], env => some env
  | i :: is, d :: ds, env => gNs is ds (env.set i (.val d))
  | _, _, _ => none
def gTupN (is : List Nat) : TgD := fun d env => match d with
  | .tup l => gNs is l env
  | _ => none
def gSeq : List Nat → TGs
  | [] => gNil
  | i :: r => gCons (gName i) (gSeq r)
theorem tgs_names : ∀ (is : List Nat) {H0 w ah env env' σ H} {ds : List D} {vs : List V} {Q : L2.St → Hp → Prop}, RelA t w ah H → RelE t H0 w env σ H → Reps t w ds vs → gNs is ds env = some env' →
    (∀ σ', RelE t H0 w env' σ' H → σ'.length = σ.length → (∀ j, j ∉ is → σ'[j]? = σ[j]?) → Q σ' H) → gSeq is vs σ H Q
  | [], H0, w, ah, env, env', σ, H, ds, vs, Q, A, E, r, e, q => by
    cases ds with
    | nil =>
      simp only [Reps] at r
      cases e
      exact ⟨r, q σ E rfl fun _ _ => rfl⟩
    | cons d ds => cases e
  | i :: is, H0, w, ah, env, env', σ, H, ds, vs, Q, A, E, r, e, q => by
    cases ds with
    | nil => cases e
    | cons d ds =>
      simp only [Reps] at r
      obtain ⟨v, vr, rfl, r1, r2⟩ := r
      refine ⟨v, vr, rfl, tgs_names is A (relE_val E r1) r2 e fun σ' E' hl hj => q σ' E' (by rw [hl, List.length_set]) fun j hn => ?_⟩
      rw [hj j (fun z => hn (List.mem_cons_of_mem _ z)), List.getElem?_set_ne (fun z => hn (by rw [z]; exact List.mem_cons_self ..))]
theorem gNs_len : ∀ (is : List Nat) {ds : List D} {env env' : En}, gNs is ds env = some env' → ds.length = is.length
  | [], [], env, env', e => rfl
  | [], d :: ds, env, env', e => by cases e
  | i :: is, [], env, env', e => by cases e
  | i :: is, d :: ds, env, env', e => by
    rw [List.length_cons, List.length_cons, gNs_len is (env := env.set i (.val d)) e]
theorem tg_tup (is : List Nat) : TgS t is (gTupN is) (gTup t.K is.length (gSeq is)) := by
  intro H0 w ah env env' σ H d v Q A E r e q
  unfold gTupN at e
  split at e
  · rename_i l
    simp only [Rep] at r
    obtain ⟨p, vs, rfl, h1, h2⟩ := r
    exact ⟨p, vs, rfl, same_sqT A.sub h1, by rw [← reps_len h2, gNs_len is e], tgs_names is A E h2 e q⟩
  · cases e
theorem pgs_names1 {i : Nat} {x : Str} {is : List Nat} {p : Pos} {r : List Expr} (hN : X.N.Nodup) (h2 : PGs X r (gSeq is)) (hi : X.N[i]? = some x := by rfl) (hx : Loc X.env.scope x := by first | exact Or.inl rfl | exact Or.inr rfl) (hs : (assignEach (.Name x p :: r) X.env).map (·.2) = assign (.Name x p) X.env :: (assignEach r X.env).map (·.2) := by rfl)
    (hf : X.fn x = true ∨ X.env.scope.names.lookup x = some .local := by first | exact .inl rfl | exact .inr rfl | assumption) : PGs X (.Name x p :: r) (gSeq (i :: is)) := pgs_cons (pg_name hN hi hx hf) h2 hs
theorem pgs_names0 : PGs X [] (gSeq []) := pgs_nil
def cAsg (f : TgD) (a : CE) : CS := fun env ah => SRes.of env (a env ah) fun d ah1 => match f d env with
  | some env' => .nx env' ah1
  | none => .bad
theorem asg_read {is : List Nat} {f : TgD} {g : TG} (hf : TgS t is f g) : ∀ Dn σ H, tS t W w0 H0 (cAsg f xa) Dn σ H → tAsg (tE t W H0 xa) g Dn σ H := by
  rintro Dn σ H ⟨w, env, ah, s, A, E, P⟩
  refine ⟨w, env, ah, A, E, post_of s E P fun d ah1 w1 v H1 s1 s01 A1 E1 r1 P1 => ?_⟩
  cases e : f d env with
  | none => rw [e] at P1; exact False.elim P1
  | some env' =>
    rw [e] at P1
    exact hf H0 w1 ah1 env env' σ H1 d v Dn.nx A1 E1 r1 e fun σ' E' _ _ => P1 w1 σ' H1 (Wle.refl _) s01 A1 E'
theorem z_asg {tg : Expr} {is : List Nat} {f : TgD} {g : TG} (hf : TgS t is f g) (ha : PE X a (tE t W H0 xa)) (hg : PG X tg g) (hs : swapsWithSole [tg] a pos.line X.env = pure false := by rfl) (hw : swappedStores [tg] a X.env = pure none := by rfl)
    (h1 : (assignEach [tg] X.env).map (·.2) = [assign tg X.env] := by rfl) : PS X (.Assign [tg] a pos) (tS t W w0 H0 (cAsg f xa)) := PS.imp (ps_asg ha hg hs hw h1) (asg_read hf)
/-- x = e -/
theorem z_set (i : Nat) {x : Str} {pos' : Pos} (hN : X.N.Nodup) (ha : PE X a (tE t W H0 xa)) (hi : X.N[i]? = some x := by rfl) (hx : Loc X.env.scope x := by first | exact Or.inl rfl | exact Or.inr rfl) (hs : swapsWith a (some (.Name x pos')) pos.line X.env = pure false := by rfl) (hf : X.fn x = true ∨ X.env.scope.names.lookup x = some .local := by first | exact .inl rfl | exact .inr rfl | assumption) :
    PS X (.Assign [.Name x pos'] a pos) (tS t W w0 H0 (cAsg (gN i) xa)) := PS.imp (ps_set hN hi hx ha hs hf) (asg_read (tg_name i))
/-- a, b = x, y -/
def cPar (i j : Nat) (a : CA) : CS := fun env ah => SRes.of env (a env ah) fun l ah1 => match l with
  | [x, y] => .nx ((env.set i (.val x)).set j (.val y)) ah1
  | _ => .bad
theorem z_par (i j : Nat) {x y : Str} {px py pt : Pos} {kt k2 pt2} (hc : X.calm = true) (hN : X.N.Nodup) (ha : PA X [a, b] (tAr t W H0 ca)) (hij : i ≠ j := by decide) (hi : X.N[i]? = some x := by rfl) (hj : X.N[j]? = some y := by rfl)
    (hx : X.env.scope.names.lookup x = some .local := by rfl) (hy : X.env.scope.names.lookup y = some .local := by rfl)
    (hw : swappedStores [.Tuple [.Name x px, .Name y py] kt pt] (.Tuple [a, b] k2 pt2) X.env = pure (some [x, y]) := by rfl)
    (hs : swapsWithSole [.Tuple [.Name x px, .Name y py] kt pt] (.Tuple [a, b] k2 pt2) pos.line X.env = pure false := by rfl) :
    PS X (.Assign [.Tuple [.Name x px, .Name y py] kt pt] (.Tuple [a, b] k2 pt2) pos) (tS t W w0 H0 (cPar i j ca)) := by
  refine PS.imp (ps_par hc hN hi hj hij hx hy ha hw hs) ?_
  rintro Dn σ H ⟨w, env, ah, s, A, E, P⟩
  refine ⟨w, env, ah, A, E, post_of s E P fun l ah1 w1 vs H1 s1 s01 A1 E1 r1 P1 => ?_⟩
  split at P1
  · rename_i d1 d2
    simp only [Reps] at r1
    obtain ⟨v, vr, rfl, q1, v2, vr2, rfl, q2, rfl⟩ := r1
    exact ⟨v, v2, rfl, P1 w1 _ H1 (Wle.refl _) s01 A1 (relE_val (relE_val E1 q1) q2)⟩
  · exact False.elim P1

/-! ### while -/
/-- runs of a loop, at most n turns -/
def whL (c : CT) (b : CS) : Nat → En → AH → SRes
  | 0, _, _ => .bad
  | n + 1, env, ah => SRes.of env (c env ah) fun k ah1 => if k = true then (match b env ah1 with
      | .nx env' ah' => whL c b n env' ah'
      | .ct env' ah' => whL c b n env' ah'
      | .bk env' ah' => .nx env' ah'
      | r => r) else .nx env ah1
open Classical in
noncomputable def cWhile (c : CT) (b : CS) : CS := fun env ah => if h : ∃ n, whL c b n env ah ≠ .bad then whL c b h.choose env ah else .bad
theorem whL_more {c : CT} {b : CS} : ∀ (n : Nat) (env : En) (ah : AH), whL c b n env ah ≠ .bad → ∀ m, n ≤ m → whL c b m env ah = whL c b n env ah
  | 0, env, ah, h, m, hm => absurd rfl h
  | n + 1, env, ah, h, m, hm => by
    obtain ⟨m, rfl⟩ : ∃ k, m = k + 1 := ⟨m - 1, by omega⟩
    unfold whL at h ⊢
    cases hc : c env ah with
    | exc _ _ _ => rfl
    | bad => rfl
    | ok k ah1 =>
      rw [hc] at h
      simp only [of_ok] at h ⊢
      cases k with
      | false => rfl
      | true =>
        simp only [if_true] at h ⊢
        cases hb : b env ah1 with
        | nx env' ah' =>
          rw [hb] at h
          exact whL_more n env' ah' h m (by omega)
        | ct env' ah' =>
          rw [hb] at h
          exact whL_more n env' ah' h m (by omega)
        | _ => rfl
theorem while_eq {c : CT} {b : CS} {n : Nat} {env : En} {ah : AH} {r : SRes} (h : whL c b n env ah = r) (hr : r ≠ .bad) : cWhile c b env ah = r := by
  have he : ∃ n, whL c b n env ah ≠ .bad := ⟨n, by rw [h]; exact hr⟩
  unfold cWhile
  rw [dif_pos he]
  have h1 := he.choose_spec
  rcases Nat.le_total n he.choose with q | q
  · rw [whL_more n env ah (by rw [h]; exact hr) _ q, h]
  · rw [← whL_more he.choose env ah h1 n q, h]
theorem z_while {c : Expr} {body : List Stmt} {cc : CT} (hp : PassesOwn (model X.prog X.w) X.A X.env X.xe) (hc : PT X c (tT t W H0 cc)) (hb : PSs X body (tS t W w0 H0 c1)) : PS X (.While c body [] pos) (tS t W w0 H0 (cWhile cc c1)) := by
  refine PS.imp (ps_while hp hc hb) ?_
  rintro Dn σ H ⟨w, env, ah, s, A, E, P⟩
  by_cases he : ∃ n, whL cc c1 n env ah ≠ .bad
  · obtain ⟨n, hn⟩ := he
    rw [while_eq (n := n) rfl hn] at P
    refine ⟨fun m σ H => ∃ w env ah, StpQ w0 H0.H w H ∧ RelA t w ah H ∧ RelE t H0 w env σ H ∧ PostS t W w0 H0 w (whL cc c1 m env ah) Dn, ⟨n, w, env, ah, s, A, E, P⟩, ?_⟩
    rintro m σ H ⟨w, env, ah, s, A, E, P⟩
    cases m with
    | zero => exact False.elim P
    | succ m =>
      refine ⟨w, env, ah, A, E, post_of s E P fun k ah1 w1 k' H1 s1 s01 A1 E1 r1 P1 => ?_⟩
      subst r1
      cases k with
      | false => exact iteF (P1 w1 σ H1 (Wle.refl _) s01 A1 E1)
      | true =>
        refine iteT ⟨fun σ' H' => ∃ w env ah, StpQ w0 H0.H w H' ∧ RelA t w ah H' ∧ RelE t H0 w env σ' H' ∧ PostS t W w0 H0 w (whL cc c1 m env ah) Dn, fun σ' H' q => ⟨m, Nat.lt_succ_self m, q⟩, w1, env, ah1, s01, A1, E1, ?_⟩
        simp only [if_true] at P1
        cases hb : c1 env ah1 with
        | nx env' ah' =>
          rw [hb] at P1
          exact fun w' σ' H' l' s' A' E' => ⟨w', env', ah', s', A', E', PostS.up P1 l'⟩
        | ct env' ah' =>
          rw [hb] at P1
          exact fun w' σ' H' l' s' A' E' => ⟨w', env', ah', s', A', E', PostS.up P1 l'⟩
        | bk env' ah' => rw [hb] at P1; exact P1
        | rt d ah' => rw [hb] at P1; exact P1
        | exc c l env' ah' => rw [hb] at P1; exact P1
        | bad => rw [hb] at P1; exact False.elim P1
  · unfold cWhile at P
    rw [dif_neg he] at P
    exact False.elim P

/-! ### for -/
/-- what is walked: it yields the items -/
structure Wlk (t : Tb) (w : Wd) (items : List D) (J : It) : Prop where
  ex : ∃ (G : Hp → Prop) (Y : Nat → Hp → V → Hp → Prop), Walk J items.length G Y ∧ (∀ w' ah H, Wle w w' → RelA t w' ah H → G H) ∧
    ∀ w' ah H i x H', Wle w w' → RelA t w' ah H → i < items.length → Y i H x H' → ∃ w2 d, Stp w' H w2 H' ∧ RelA t w2 ah H' ∧ items[i]? = some d ∧ Rep t w2 d x
theorem Wlk.mono {w w' : Wd} {items : List D} {J : It} (h : Wlk t w items J) (le : Wle w w') : Wlk t w' items J := by
  obtain ⟨G, Y, h1, h2, h3⟩ := h.ex
  exact ⟨G, Y, h1, fun w2 ah H l A => h2 w2 ah H (le.trans l) A, fun w2 ah H i x H' l A => h3 w2 ah H i x H' (le.trans l) A⟩
abbrev CIt := En → AH → Res (List D)
abbrev tI (t : Tb) (W : WX) (H0 : Bs) (c : CIt) : TI := tR t W H0 (Wlk t) c
def forL (f : TgD) (b : CS) : List D → En → AH → SRes
  | [], env, ah => .nx env ah
  | d :: r, env, ah => match f d env with
    | none => .bad
    | some env1 => match b env1 ah with
      | .nx env' ah' => forL f b r env' ah'
      | .ct env' ah' => forL f b r env' ah'
      | .bk env' ah' => .nx env' ah'
      | r => r
def cFor (it : CIt) (f : TgD) (b : CS) : CS := fun env ah => SRes.of env (it env ah) fun l ah1 => forL f b l env ah1
theorem z_for {tg iter : Expr} {body : List Stmt} {it : CIt} {is : List Nat} {f : TgD} {g : TG} (hp : PassesOwn (model X.prog X.w) X.A X.env X.xe) (hc : X.calm = true) (hf : TgS t is f g) (hi : PI X tg iter (tI t W H0 it)) (hg : PG X tg g) (hb : PSs X body (tS t W w0 H0 c1))
    (hs : ∀ x, foldedSetIterable iter X.env x = pure x := by intro _; rfl) : PS X (.For tg iter body [] pos) (tS t W w0 H0 (cFor it f c1)) := by
  refine PS.imp (ps_for hp hc hi hg hb hs) ?_
  rintro Dn σ H ⟨w, env, ah, s, A, E, P⟩
  refine ⟨w, env, ah, A, E, post_of s E P fun items ah1 w1 J H1 s1 s01 A1 E1 wk P1 => ?_⟩
  obtain ⟨G, Y, hW, hG, hY⟩ := wk.ex
  refine for_it hW (fun i σ H => ∃ w env ah, Wle w1 w ∧ StpQ w0 H0.H w H ∧ RelA t w ah H ∧ RelE t H0 w env σ H ∧ PostS t W w0 H0 w (forL f c1 (items.drop i) env ah) Dn) ⟨w1, env, ah1, Wle.refl _, s01, A1, E1, P1⟩
    (fun i σ H _ ⟨w, env, ah, l, _, A, _, _⟩ => hG w ah H l A) ?_ ?_
  · rintro i x σ H H' hi ⟨w, env, ah, l, s, A, E, P⟩ y
    obtain ⟨w2, d, s2, A2, hd, rd⟩ := hY w ah H i x H' l A hi y
    have hdr : items.drop i = d :: items.drop (i + 1) := by
      have hd' := List.getElem?_eq_some_iff.mp hd
      obtain ⟨hlt, e⟩ := hd'
      rw [List.drop_eq_getElem_cons hlt, e]
    rw [hdr] at P
    unfold forL at P
    cases he : f d env with
    | none => rw [he] at P; exact False.elim P
    | some env1 =>
      rw [he] at P
      refine hf H0 w2 ah env env1 σ H' d x _ A2 (E.step s2) rd he fun σ' E' _ _ => ⟨w2, env1, ah, s.trans s2, A2, E', ?_⟩
      replace P := PostS.up P s2.le
      simp only at P
      cases hb : c1 env1 ah with
      | nx env' ah' =>
        rw [hb] at P
        intro w3 σ3 H3 l3 s3 A3 E3
        exact ⟨w3, env', ah', l.trans (s2.le.trans l3), s3, A3, E3, PostS.up P l3⟩
      | ct env' ah' =>
        rw [hb] at P
        intro w3 σ3 H3 l3 s3 A3 E3
        exact ⟨w3, env', ah', l.trans (s2.le.trans l3), s3, A3, E3, PostS.up P l3⟩
      | bk env' ah' => rw [hb] at P; exact P
      | rt d ah' => rw [hb] at P; exact P
      | exc c l env' ah' => rw [hb] at P; exact P
      | bad => rw [hb] at P; exact P
  · rintro σ H ⟨w, env, ah, l, s, A, E, P⟩
    rw [List.drop_length] at P
    exact P w σ H (Wle.refl _) s A E
end
end G
/-! The engine, part 6: what is walked, comprehensions. -/
namespace G
open PySem PySem.Spec PyProof.Rows L2

section
variable {X : Cx} {t : Tb} {W : WX} {w0 : Wd} {H0 : Bs} {xa xb : CE} {ca : CA} {a b e tg : Expr} {es : List Expr} {pos : Pos}
/-- a list, a tuple or a text, walked -/
def iAny (K : PySem.W.Frag) (tl : TE) : TI := fun σ H R => tl σ H fun x H1 => (∃ a, x = .ref a ∧ (∃ xs, SqL K H1 a xs) ∧ R (Itl K a) H1) ∨ (∃ a, x = .ref a ∧ (∃ xs, SqT K H1 a xs) ∧ R (Itt K a) H1) ∨ ∃ z, x = .str z ∧ R (Its z) H1
theorem pi_any {l : Expr} {tl : TE} (hl : PE X l tl) : PI X tg l (iAny X.K tl) := by
  refine ⟨fun pins s σ H R I h => ?_⟩
  refine thn (hl.run pins s σ H _ I h) fun v s1 ⟨x, H1, I1, r1, q1⟩ => ?_
  rcases q1 with ⟨a, e, ⟨xs, hq⟩, q⟩ | ⟨a, e, ⟨xs, hq⟩, q⟩ | ⟨z, e, q⟩
  · subst e
    cases r1
    obtain ⟨its, rv, p, hz⟩ := I1.list hq
    refine wpAny_pyIter_list p.isList ?_
    refine ⟨s1.heap.objs.size, [s1.heap.objs.size], _, _, H1, rfl, I1.kept (t' := s1.toks) fun b o e => Heap.get?_push_of_some _ e, turn_list a _, ⟨_, Heap.get?_push_size _ rfl, rfl, rfl⟩, fun b hb => ?_, q⟩
    have e : b = s1.heap.objs.size := by simpa using hb
    subst e
    exact I1.fpOk (Nat.le_refl _) (I1.hok.fresh (Nat.le_refl _))
  · subst e
    cases r1
    obtain ⟨its, rv, p, hz⟩ := I1.tuple hq
    refine wpAny_pyIter_tuple (show s1.heap.IsTuple a its.toArray from p) ?_
    refine ⟨s1.heap.objs.size, [s1.heap.objs.size], _, _, H1, rfl, I1.kept (t' := s1.toks) fun b o e => Heap.get?_push_of_some _ e, turn_tuple a _, ⟨_, Heap.get?_push_size _ rfl, rfl, rfl⟩, fun b hb => ?_, q⟩
    have e : b = s1.heap.objs.size := by simpa using hb
    subst e
    exact I1.fpOk (Nat.le_refl _) (I1.hok.fresh (Nat.le_refl _))
  · subst e
    obtain ⟨t, rfl⟩ := r1
    cases ha : z.cps.all (· < 128)
    · exact wpAny_pyIter_wide ha (pi_one (tk := s1.toks) I1 _ (turn_str _ z t "str_iterator" (.inr rfl)) ⟨_, Heap.get?_push_size _ rfl, rfl, rfl⟩ q)
    · exact wpAny_pyIter_ascii ha (pi_one (tk := s1.toks) I1 _ (turn_str _ z t "str_ascii_iterator" (.inl rfl)) ⟨_, Heap.get?_push_size _ rfl, rfl, rfl⟩ q)

theorem wlk_list {w : Wd} {K : PySem.W.Frag} {l : List D} {a : Addr} {vs : List V} (h : SqL K w.Hf a vs) (r : Reps t w l vs) : Wlk t w l (Itl K a) := by
  refine ⟨fun H => SqL K H a vs, YAt vs, ?_, fun w' ah H le A => (le.hf.trans A.sub).seq h, fun w' ah H i x H' le A hi y => ?_⟩
  · rw [reps_len r]
    exact walk_list
  · obtain ⟨e, y⟩ := y
    subst e
    obtain ⟨d, h1, h2⟩ := reps_getv r y
    exact ⟨w', d, Stp.refl _ _, A, h1, Rep.mono le d h2⟩
theorem wlk_tup {w : Wd} {K : PySem.W.Frag} {l : List D} {a : Addr} {vs : List V} (h : SqT K w.Hf a vs) (r : Reps t w l vs) : Wlk t w l (Itt K a) := by
  refine ⟨fun H => SqT K H a vs, YAt vs, ?_, fun w' ah H le A => same_sqT (le.hf.trans A.sub) h, fun w' ah H i x H' le A hi y => ?_⟩
  · rw [reps_len r]
    exact walk_tup
  · obtain ⟨e, y⟩ := y
    subst e
    obtain ⟨d, h1, h2⟩ := reps_getv r y
    exact ⟨w', d, Stp.refl _ _, A, h1, Rep.mono le d h2⟩
def chD (c : Nat) : D := .str ⟨#[c]⟩
theorem wlk_str {w : Wd} {z : Str} : Wlk t w (z.cps.toList.map chD) (Its z) := by
  refine ⟨fun _ => True, fun i H v H' => H' = H ∧ ∃ c, z.cps[i]? = some c ∧ v = .str ⟨#[c]⟩, ?_, fun _ _ _ _ _ => trivial, fun w' ah H i x H' le A hi y => ?_⟩
  · rw [List.length_map, Array.length_toList]
    exact walk_str
  · obtain ⟨e, c, h1, h2⟩ := y
    subst e
    refine ⟨w', chD c, Stp.refl _ _, A, ?_, ?_⟩
    · rw [List.getElem?_map, Array.getElem?_toList, h1]
      rfl
    · unfold chD
      simp only [Rep]
      exact h2
def rngD (lo : Int) (n : Nat) : List D := (List.range n).map fun i => .int (lo + (i : Nat))
theorem wlk_rng {w : Wd} {lo : Int} {n : Nat} : Wlk t w (rngD lo n) (Itr lo n) := by
  refine ⟨fun _ => True, YFn fun i => .int (lo + i), ?_, fun _ _ _ _ _ => trivial, fun w' ah H i x H' le A hi y => ?_⟩
  · unfold rngD
    rw [List.length_map, List.length_range]
    exact walk_range
  · obtain ⟨e, h⟩ := y
    subst e
    have hi' : i < n := by
      unfold rngD at hi
      rw [List.length_map, List.length_range] at hi
      exact hi
    refine ⟨w', .int (lo + i), Stp.refl _ _, A, ?_, ?_⟩
    · unfold rngD
      rw [List.getElem?_map, List.getElem?_range hi']
      rfl
    · simp only [Rep]
      exact h
def enumD : Nat → List D → List D
  | _, [] => []
  | n, d :: r => .tup [.int (n : Nat), d] :: enumD (n + 1) r
theorem enumD_len : ∀ (n : Nat) (l : List D), (enumD n l).length = l.length
  | _, [] => rfl
  | n, d :: r => by
    unfold enumD
    rw [List.length_cons, List.length_cons, enumD_len]
theorem enumD_get : ∀ (n i : Nat) (l : List D), (enumD n l)[i]? = (l[i]?).map fun d => D.tup [.int ((n + i : Nat) : Int), d]
  | n, i, [] => by simp [enumD]
  | n, 0, d :: r => by simp [enumD]
  | n, i + 1, d :: r => by
    unfold enumD
    rw [List.getElem?_cons_succ, List.getElem?_cons_succ, enumD_get (n + 1) i r]
    have e : n + 1 + i = n + (i + 1) := by omega
    rw [e]
theorem wlk_enum {w : Wd} {K : PySem.W.Frag} {l : List D} {a : Addr} {vs : List V} (h : SqL K w.Hf a vs) (r : Reps t w l vs) : Wlk t w (enumD 0 l) (Ite K a) := by
  refine ⟨fun H => SqL K H a vs, YPair (fun i => some (.int (i : Nat))) (fun i => vs[i]?), ?_, fun w' ah H le A => (le.hf.trans A.sub).seq h, fun w' ah H i x H' le A hi y => ?_⟩
  · rw [enumD_len, reps_len r]
    exact walk_enum
  · obtain ⟨T, x1, x2, h1, h2, h3, h4, h5⟩ := y
    subst h1 h3
    cases h4
    obtain ⟨d, h6, h7⟩ := reps_getv r h5
    obtain ⟨s, A'⟩ := stp_add (o := .tup [.int (i : Nat), x2]) A h2
    refine ⟨_, .tup [.int (i : Nat), d], s, A', ?_, ?_⟩
    · rw [enumD_get, h6, Nat.zero_add]
      rfl
    · simp only [Rep, Reps]
      exact ⟨T, _, rfl, SqT.of add_at, .int (i : Nat), [x2], rfl, rfl, x2, [], rfl, Rep.mono (le.trans s.le) d h7, rfl⟩
def zipD : List D → List D → List D
  | d :: l, e :: m => .tup [d, e] :: zipD l m
  | _, _ => []
theorem zipD_len : ∀ (l m : List D), (zipD l m).length = min l.length m.length
  | [], m => by simp [zipD]
  | d :: l, [] => by simp [zipD]
  | d :: l, e :: m => by
    unfold zipD
    rw [List.length_cons, List.length_cons, List.length_cons, zipD_len]
    omega
theorem zipD_get : ∀ (i : Nat) (l m : List D) (d e : D), l[i]? = some d → m[i]? = some e → (zipD l m)[i]? = some (.tup [d, e])
  | i, [], m, d, e, h, _ => by simp at h
  | i, x :: l, [], d, e, _, h => by simp at h
  | 0, x :: l, y :: m, d, e, h1, h2 => by
    simp at h1 h2
    subst h1 h2
    simp [zipD]
  | i + 1, x :: l, y :: m, d, e, h1, h2 => by
    unfold zipD
    rw [List.getElem?_cons_succ]
    exact zipD_get i l m d e (by simpa using h1) (by simpa using h2)
theorem wlk_zip {w : Wd} {K : PySem.W.Frag} {l m : List D} {a b : Addr} {vs us : List V} (h : SqL K w.Hf a vs) (h2 : SqL K w.Hf b us) (r : Reps t w l vs) (r2 : Reps t w m us) : Wlk t w (zipD l m) (Itz K a b) := by
  refine ⟨fun H => SqL K H a vs ∧ SqL K H b us, YPair (fun i => vs[i]?) (fun i => us[i]?), ?_, fun w' ah H le A => ⟨(le.hf.trans A.sub).seq h, (le.hf.trans A.sub).seq h2⟩, fun w' ah H i x H' le A hi y => ?_⟩
  · refine walk_zip ?_
    rw [zipD_len, reps_len r, reps_len r2]
  · obtain ⟨T, x1, x2, h1, h3, h4, h5, h6⟩ := y
    subst h1 h4
    obtain ⟨d, h7, h8⟩ := reps_getv r h5
    obtain ⟨e, h9, h10⟩ := reps_getv r2 h6
    obtain ⟨s, A'⟩ := stp_add (o := .tup [x1, x2]) A h3
    refine ⟨_, .tup [d, e], s, A', zipD_get i l m d e h7 h9, ?_⟩
    simp only [Rep, Reps]
    exact ⟨T, _, rfl, SqT.of add_at, x1, [x2], rfl, Rep.mono (le.trans s.le) d h8, x2, [], rfl, Rep.mono (le.trans s.le) e h10, rfl⟩

def itD : D → Option (List D)
  | .lst l => some l
  | .scr l => some l
  | .tup l => some l
  | .str z => some (z.cps.toList.map chD)
  | _ => none
def itAny (a : CE) : CIt := fun env ah => (a env ah).bind fun x ah1 => ofO (itD x) ah1
theorem i_any (ha : PE X a (tE t W H0 xa)) (hK : t.K = X.K := by rfl) : PI X tg a (tI t W H0 (itAny xa)) := by
  refine ⟨fun pins s σ H R I h => (pi_any ha).run pins s σ H R I ?_⟩
  obtain ⟨w, env, ah, A, E, P⟩ := h
  refine ⟨w, env, ah, A, E, post_bind P fun x ah1 w1 v H1 s1 A1 r1 P1 => ?_⟩
  cases x <;> simp only [itD] at P1 <;> first | exact False.elim P1 | skip
  · simp only [Rep] at r1
    subst r1
    exact .inr (.inr ⟨_, rfl, post_ok P1 A1 wlk_str⟩)
  · simp only [Rep] at r1
    obtain ⟨p, vs, rfl, h1, h2⟩ := r1
    rw [hK] at h1
    exact .inr (.inl ⟨p, rfl, ⟨vs, same_sqT A1.sub h1⟩, post_ok P1 A1 (wlk_tup h1 h2)⟩)
  · simp only [Rep] at r1
    obtain ⟨p, vs, rfl, h1, h2⟩ := r1
    exact .inl ⟨p, rfl, ⟨vs, SqL.of (A1.sub _ _ h1)⟩, post_ok P1 A1 (wlk_list (SqL.of h1) h2)⟩
  · simp only [Rep] at r1
    obtain ⟨p, vs, rfl, h1, h2⟩ := r1
    rw [hK] at h1
    exact .inl ⟨p, rfl, ⟨vs, A1.sub.seq h1⟩, post_ok P1 A1 (wlk_list h1 h2)⟩
def itRng1 (a : CA) : CIt := fun env ah => (a env ah).bind fun x ah1 => match x with
  | [.int j] => if -(2 ^ 62) ≤ j ∧ j < 2 ^ 62 then .ok (rngD 0 j.toNat) ah1 else .bad
  | _ => .bad
def itRng2 (a : CA) : CIt := fun env ah => (a env ah).bind fun x ah1 => match x with
  | [.int i, .int j] => if -(2 ^ 62) ≤ i ∧ i < 2 ^ 62 ∧ -(2 ^ 62) ≤ j ∧ j < 2 ^ 62 then .ok (rngD i (j - i).toNat) ah1 else .bad
  | _ => .bad
theorem i_rng1 {p : Pos} (hm : X.mg "range" = none) (ha : PA X [a] (tAr t W H0 ca)) (hg : Gl X "range" := by rfl) (hs : starEach [a] X.env = [(false, eval a X.env)] := by rfl) : PI X tg (.Call (.Name "range" p) [a] [] pos) (tI t W H0 (itRng1 ca)) := by
  refine ⟨fun pins s σ H R I h => (pi_range1 hg hm ha hs).run pins s σ H R I ?_⟩
  obtain ⟨w, env, ah, A, E, P⟩ := h
  refine ⟨w, env, ah, A, E, post_bind P fun x ah1 w1 v H1 s1 A1 r1 P1 => ?_⟩
  split at P1
  · obtain ⟨v, rfl, r2⟩ := reps1 r1
    simp only [Rep] at r2
    subst r2
    split at P1
    · rename_i h
      exact ⟨_, rfl, h.1, h.2, post_ok P1 A1 wlk_rng⟩
    · exact False.elim P1
  · exact False.elim P1
theorem i_rng2 {p : Pos} (hm : X.mg "range" = none) (ha : PA X [a, b] (tAr t W H0 ca)) (hg : Gl X "range" := by rfl) (hs : starEach [a, b] X.env = [(false, eval a X.env), (false, eval b X.env)] := by rfl) (hs2 : starEach [b] X.env = [(false, eval b X.env)] := by rfl) : PI X tg (.Call (.Name "range" p) [a, b] [] pos) (tI t W H0 (itRng2 ca)) := by
  refine ⟨fun pins s σ H R I h => (pi_range2 hg hm ha hs hs2).run pins s σ H R I ?_⟩
  obtain ⟨w, env, ah, A, E, P⟩ := h
  refine ⟨w, env, ah, A, E, post_bind P fun x ah1 w1 v H1 s1 A1 r1 P1 => ?_⟩
  split at P1
  · obtain ⟨v, v2, rfl, ra, rb⟩ := reps2 r1
    simp only [Rep] at ra rb
    subst ra rb
    split at P1
    · rename_i h
      exact ⟨_, _, rfl, h, post_ok P1 A1 wlk_rng⟩
    · exact False.elim P1
  · exact False.elim P1
def seqD : D → Option (List D)
  | .lst l => some l
  | .scr l => some l
  | _ => none
theorem seqD_rep {w : Wd} {x : D} {l : List D} {v : V} (r : Rep t w x v) (e : seqD x = some l) : ∃ p vs, v = .ref p ∧ SqL t.K w.Hf p vs ∧ Reps t w l vs := by
  cases x <;> simp only [seqD, reduceCtorEq] at e
  · cases e
    simp only [Rep] at r
    obtain ⟨p, vs, rfl, h1, h2⟩ := r
    exact ⟨p, vs, rfl, SqL.of h1, h2⟩
  · cases e
    simp only [Rep] at r
    exact r
def itEnum (a : CA) : CIt := fun env ah => (a env ah).bind fun x ah1 => match x with
  | [d] => (ofO (seqD d) ah1).bind fun l ah2 => .ok (enumD 0 l) ah2
  | _ => .bad
theorem i_enum {elts : List Expr} {kk : Nat} {p tpos : Pos} (hm : X.mg "enumerate" = none) (ha : PA X [a] (tAr t W H0 ca)) (hg : Gl X "enumerate" := by rfl) (hs : starEach [a] X.env = [(false, eval a X.env)] := by rfl) (hK : t.K = X.K := by rfl) :
    PI X (.Tuple elts kk tpos) (.Call (.Name "enumerate" p) [a] [] pos) (tI t W H0 (itEnum ca)) := by
  refine ⟨fun pins s σ H R I h => (pi_enum hg hm ha hs).run pins s σ H R I ?_⟩
  obtain ⟨w, env, ah, A, E, P⟩ := h
  refine ⟨w, env, ah, A, E, post_bind P fun x ah1 w1 v H1 s1 A1 r1 P1 => ?_⟩
  split at P1
  · rename_i d
    obtain ⟨v, rfl, r2⟩ := reps1 r1
    cases e : seqD d with
    | none => rw [e] at P1; exact False.elim P1
    | some l =>
      rw [e] at P1
      obtain ⟨p, vs, rfl, h1, h2⟩ := seqD_rep r2 e
      rw [hK] at h1
      exact ⟨p, vs, rfl, A1.sub.seq h1, post_ok P1 A1 (wlk_enum h1 h2)⟩
  · exact False.elim P1
def itZip (a : CA) : CIt := fun env ah => (a env ah).bind fun x ah1 => match x with
  | [d, e] => (ofO (seqD d) ah1).bind fun l ah2 => (ofO (seqD e) ah2).bind fun m ah3 => .ok (zipD l m) ah3
  | _ => .bad
theorem i_zip {elts : List Expr} {kk : Nat} {p tpos : Pos} (hm : X.mg "zip" = none) (ha : PA X [a, b] (tAr t W H0 ca)) (hg : Gl X "zip" := by rfl) (hs : starEach [a, b] X.env = (false, eval a X.env) :: starEach [b] X.env := by rfl) (hpl : (backTo pos (starEach [b] X.env)).any (·.1) = false := by rfl) (hK : t.K = X.K := by rfl) :
    PI X (.Tuple elts kk tpos) (.Call (.Name "zip" p) [a, b] [] pos) (tI t W H0 (itZip ca)) := by
  refine ⟨fun pins s σ H R I h => (pi_zip hg hm ha hs hpl).run pins s σ H R I ?_⟩
  obtain ⟨w, env, ah, A, E, P⟩ := h
  refine ⟨w, env, ah, A, E, post_bind P fun x ah1 w1 v H1 s1 A1 r1 P1 => ?_⟩
  split at P1
  · rename_i d e'
    obtain ⟨v, v2, rfl, ra, rb⟩ := reps2 r1
    cases e : seqD d with
    | none => rw [e] at P1; exact False.elim P1
    | some l =>
      rw [e] at P1
      cases e2 : seqD e' with
      | none => rw [e2] at P1; exact False.elim P1
      | some m =>
        rw [e2] at P1
        obtain ⟨p, vs, rfl, h1, h2⟩ := seqD_rep ra e
        obtain ⟨p2, us, rfl, h3, h4⟩ := seqD_rep rb e2
        rw [hK] at h1 h3
        exact ⟨p, p2, vs, us, rfl, A1.sub.seq h1, A1.sub.seq h3, post_ok P1 A1 (wlk_zip h1 h3 h2 h4)⟩
  · exact False.elim P1

/-! ### comprehensions -/
def noX {α : Type} (r : Res α) : Res α := match r with
  | .exc _ _ _ => .bad
  | r => r
@[simp] theorem noX_ok {α : Type} (a : α) (ah : AH) : noX (.ok a ah) = .ok a ah := rfl
def wipeE (env : En) : List Nat → En
  | [] => env
  | v :: vs => (wipeE env vs).set v .no
def lcL (vs : List Nat) (f : TgD) (tt : CT) (te : CE) (env : En) : List D → AH → Res (List D)
  | [], ah => .ok [] ah
  | d :: r, ah => match f d (wipeE env vs) with
    | none => .bad
    | some env1 => (noX (tt env1 ah)).bind fun k ah1 => if k = true then (noX (te env1 ah1)).bind fun y ah2 => (lcL vs f tt te env r ah2).bind fun ys ah3 => .ok (y :: ys) ah3 else lcL vs f tt te env r ah1
def cLc (it : CIt) (vs : List Nat) (f : TgD) (tt : CT) (te : CE) : CE := fun env ah => (it env ah).bind fun l ah1 => if l.length ≤ 10000000 then (lcL vs f tt te env l ah1).bind fun ys ah2 => .ok (.lst ys) ah2 else .bad
theorem PTs.imp {X : Cx} {e : List Expr} {u v : TT} (h : PTs X e u) (i : ∀ σ H Q, v σ H Q → u σ H Q) : PTs X e v := ⟨fun pins s σ H Q I hw => h.run pins s σ H Q I (i σ H Q hw)⟩
def cYes : CT := fun _ ah => .ok true ah
theorem qs_nil : PTs X [] (tT t W H0 cYes) := by
  refine PTs.imp pts_nil ?_
  rintro σ H Q ⟨w, env, ah, A, E, P⟩
  exact post_ok P A rfl
theorem qs_one {cc : CT} (h : PT X a (tT t W H0 cc)) : PTs X [a] (tT t W H0 cc) := pts_one h
theorem relE_wipe {w : Wd} {env : En} {σ : L2.St} {H : Hp} (E : RelE t H0 w env σ H) : ∀ vs : List Nat, RelE t H0 w (wipeE env vs) (wipe σ vs) H
  | [] => E
  | v :: vs => relE_no (relE_wipe E vs)
theorem wipe_get {σ : L2.St} : ∀ (vs : List Nat) (j : Nat), (wipe σ vs)[j]? = if j ∈ vs then (σ[j]?).map (fun _ => none) else σ[j]?
  | [], j => by simp [wipe]
  | v :: vs, j => by
    unfold wipe
    by_cases h : v = j
    · subst h
      rw [List.getElem?_set]
      simp only [if_true, List.mem_cons, true_or]
      rw [wipe_length]
      by_cases hl : v < σ.length
      · rw [if_pos hl, List.getElem?_eq_getElem hl]
        rfl
      · rw [if_neg hl, List.getElem?_eq_none (by omega)]
        rfl
    · rw [List.getElem?_set_ne h, wipe_get vs j]
      have : (j ∈ v :: vs) ↔ j ∈ vs := by
        rw [List.mem_cons]
        exact ⟨fun z => z.resolve_left (fun q => h q.symm), .inr⟩
      simp only [this]
theorem wipe_back {σ σ' : L2.St} {vs is : List Nat} (hl : σ'.length = (wipe σ vs).length) (hj : ∀ j, j ∉ is → σ'[j]? = (wipe σ vs)[j]?) (hs : ∀ i ∈ is, i ∈ vs) : wipe σ' vs = wipe σ vs := by
  refine List.ext_getElem? fun j => ?_
  rw [wipe_get vs j]
  by_cases h : j ∈ vs
  · rw [if_pos h, wipe_get vs j, if_pos h]
    have e : σ'.length = σ.length := by rw [hl, wipe_length]
    by_cases q : j < σ.length
    · rw [List.getElem?_eq_getElem q, List.getElem?_eq_getElem (by omega)]
      rfl
    · rw [List.getElem?_eq_none (by omega), List.getElem?_eq_none (by omega)]
  · rw [if_neg h]
    exact hj j fun z => h (hs j z)
theorem upd_free {w : Wd} {ah : AH} {H : Hp} {p : Addr} {o : HO} (A : RelA t w ah H) (h1 : w.Hf p = none) (h2 : p ∉ w.ρ) : RelA t w ah (upd H p o) := by
  refine ⟨fun a u h => ?_, A.len, A.nd, fun a h => ?_, fun n u a e1 e2 => ?_, fun a o2 h => ⟨by rw [upd_ne (fun z => h2 (by rw [← z]; exact (A.lks a o2 h).2.1))]; exact (A.lks a o2 h).1, (A.lks a o2 h).2⟩⟩
  · rw [upd_ne (ne_of_none h h1)]
    exact A.sub a u h
  · rw [upd_ne (fun z => h2 (by rw [← z]; exact h))]
    exact A.live a h
  · refine (A.obj n u a e1 e2).step (Wle.refl w) (fun h => h) fun ob h => ?_
    rw [upd_ne (fun z => h2 (by rw [← z]; exact List.mem_of_getElem? e2))]
    exact h
theorem stp_upd {w w' : Wd} {H H' : Hp} {p : Addr} {o : HO} (s : Stp w H w' H') (h : H p = none) : Stp w H w' (upd H' p o) :=
  ⟨s.le, fun a u h1 h2 => by rw [upd_ne (ne_of_none h2 h)]; exact s.fr a u h1 h2, fun a u h2 => by rw [upd_ne (ne_of_none h2 h)]; exact s.there a u h2, s.newR, s.newF⟩
/-- a fresh object is frozen -/
theorem stp_updQ {w w' : Wd} {H H' : Hp} {p : Addr} {o : HO} (s : StpQ w H w' H') (h : H p = none) : StpQ w H w' (upd H' p o) :=
  ⟨s.le, fun a u h1 h2 => by rw [upd_ne (ne_of_none h2 h)]; exact s.fr a u h1 h2, fun a u h2 => by rw [upd_ne (ne_of_none h2 h)]; exact s.there a u h2, s.newR, s.newF⟩
/-- a fresh object is frozen -/
theorem frz_A {w : Wd} {ah : AH} {H : Hp} {p : Addr} {o : HO} (A : RelA t w ah H) (hp : H p = some o) (h1 : w.Hf p = none) (h2 : p ∉ w.ρ) : Wle w (w.add p o) ∧ RelA t (w.add p o) ah H := by
  have le : Wle w (w.add p o) := ⟨fun a u h => by
    show upd w.Hf p o a = some u
    rw [upd_ne (ne_of_none h h1)]
    exact h, fun _ _ h => h, rfl⟩
  refine ⟨le, fun a u h => ?_, A.len, A.nd, A.live, fun n u a e1 e2 => ?_, A.lks⟩
  · have h' : upd w.Hf p o a = some u := h
    by_cases e : a = p
    · rw [e, upd_same] at h'
      rw [e, ← h']
      exact hp
    · rw [upd_ne e] at h'
      exact A.sub a u h'
  · refine (A.obj n u a e1 e2).step le (fun h => ?_) fun ob h => h
    show upd w.Hf p o a = none
    rw [upd_ne (fun z => h2 (by rw [← z]; exact List.mem_of_getElem? e2))]
    exact h
theorem frz_S {w w' : Wd} {H H' : Hp} {p : Addr} {o : HO} (s : Stp w H w' H') (h : H p = none) (h1 : w'.Hf p = none) : Stp w H (w'.add p o) H' := by
  refine ⟨s.le.trans ⟨fun a u h => by
    show upd w'.Hf p o a = some u
    rw [upd_ne (ne_of_none h h1)]
    exact h, fun _ _ h => h, rfl⟩, s.fr, s.there, s.newR, fun a u h2 => ?_⟩
  have h' : upd w'.Hf p o a = some u := h2
  by_cases e : a = p
  · exact .inr (.inl (by rw [e]; exact h))
  · rw [upd_ne e] at h'
    exact s.newF a u h'
/-- a cell that is nobody's stays through a step -/
theorem frz_SQ {w w' : Wd} {H H' : Hp} {p : Addr} {o : HO} (s : StpQ w H w' H') (h : H p = none) (h1 : w'.Hf p = none) : StpQ w H (w'.add p o) H' := by
  refine ⟨s.le.trans ⟨fun a u h => by
    show upd w'.Hf p o a = some u
    rw [upd_ne (ne_of_none h h1)]
    exact h, fun _ _ h => h⟩, s.fr, s.there, s.newR, fun a u h2 => ?_⟩
  have h' : upd w'.Hf p o a = some u := h2
  by_cases e : a = p
  · exact .inr (.inl (by rw [e]; exact h))
  · rw [upd_ne e] at h'
    exact s.newF a u h'
/-- a cell that is nobody's stays through a step -/
theorem stay_at {w w' : Wd} {H H' : Hp} {p : Addr} {o : HO} (s : Stp w H w' H') (hp : H p = some o) (h1 : w.Hf p = none) (h2 : p ∉ w.ρ) : H' p = some o ∧ w'.Hf p = none ∧ p ∉ w'.ρ := by
  refine ⟨s.fr p o h2 hp, ?_, fun z => ?_⟩
  · cases q : w'.Hf p with
    | none => rfl
    | some u =>
      rcases s.newF p u q with z | z | z
      · rw [h1] at z; cases z
      · rw [hp] at z; cases z
      · exact absurd z h2
  · rcases s.newR p z with q | q
    · exact h2 q
    · rw [hp] at q; cases q
abbrev WF : WX := fun _ _ _ _ => False
theorem lc_read {wi : TI} {it : CIt} {is vs : List Nat} {f : TgD} {g : TG} {tt : CT} {te : CE} (hwi : wi = tI t W H0 it) (hf : TgS t is f g) (hs : ∀ i ∈ is, i ∈ vs) : ∀ σ H Q, tE t W H0 (cLc it vs f tt te) σ H Q → tLc wi g (tT t WF H0 tt) (tE t WF H0 te) vs σ H Q := by
  subst hwi
  rintro σ H Q ⟨w, env, ah, A, E, P⟩
  refine ⟨w, env, ah, A, E, post_bind P fun items ah1 w1 J H1 s1 A1 wk P1 => ?_⟩
  intro Dd hD
  split at P1
  case isFalse => exact False.elim P1
  rename_i hlen
  have E1 := E.step s1
  obtain ⟨G, Y, hW, hG, hY⟩ := wk.ex
  obtain ⟨sn, An⟩ := stp_new (o := .lst []) A1 hD
  have hf1 : w1.Hf Dd = none := A1.sub.free hD
  have hr1 : Dd ∉ w1.ρ := A1.free hD
  refine lc_it hW (fun i H => ∃ w ah acc accV, Stp w1 H1 w H ∧ RelA t w ah H ∧ H Dd = some (.lst accV) ∧ w.Hf Dd = none ∧ Dd ∉ w.ρ ∧ Reps t w acc accV ∧ acc.length ≤ i ∧
      Post t (Rep t) w1 H1 ((lcL vs f tt te env (items.drop i) ah).bind fun ys ah2 => .ok (.lst (acc ++ ys)) ah2) Q (fun cls d H' => W cls d σ H'))
    ⟨w1, ah1, [], [], sn, An, upd_same, hf1, hr1, by simp only [Reps], Nat.le_refl _, P1⟩ (fun i H _ ⟨w, ah, _, _, s, A, _⟩ => hG w ah H s.le A) ?_ ?_
  · rintro i x H H' hi ⟨w, ah, acc, accV, s, A, q1, q2, q3, q4, q5, P⟩ y
    obtain ⟨w2, d, s2, A2, hd, rd⟩ := hY w ah H i x H' s.le A hi y
    obtain ⟨p1, p2, p3⟩ := stay_at s2 q1 q2 q3
    have hdr : items.drop i = d :: items.drop (i + 1) := by
      obtain ⟨hlt, e⟩ := List.getElem?_eq_some_iff.mp hd
      rw [List.drop_eq_getElem_cons hlt, e]
    rw [hdr] at P
    unfold lcL at P
    cases he : f d (wipeE env vs) with
    | none => rw [he] at P; exact False.elim P
    | some env1 =>
      rw [he] at P
      simp only at P
      have E2 := relE_wipe (E1.step (s.trans s2)) vs
      refine hf H0 w2 ah _ env1 _ H' d x _ A2 E2 rd he fun σ' E' hl hj => ⟨wipe_back hl hj hs, w2, env1, ah, A2, E', ?_⟩
      cases ht : tt env1 ah with
      | exc _ _ _ => rw [ht] at P; exact False.elim P
      | bad => rw [ht] at P; exact False.elim P
      | ok k ah3 =>
        rw [ht] at P
        intro w3 k' H3 s3 A3 ek
        subst ek
        obtain ⟨p1', p2', p3'⟩ := stay_at s3 p1 p2 p3
        simp only [noX_ok, bind_ok] at P
        cases k with
        | false =>
          refine iteF ⟨w3, ah3, acc, accV, (s.trans s2).trans s3, A3, p1', p2', p3', Reps.mono (s2.le.trans s3.le) _ q4, by omega, ?_⟩
          rw [if_neg Bool.false_ne_true] at P
          exact P
        | true =>
          rw [if_pos rfl] at P
          refine iteT ⟨w3, env1, ah3, A3, E'.step s3, ?_⟩
          cases hv : te env1 ah3 with
          | exc _ _ _ => rw [hv] at P; exact False.elim P
          | bad => rw [hv] at P; exact False.elim P
          | ok y ah4 =>
            rw [hv] at P
            simp only [noX_ok, bind_ok] at P
            intro w4 yv H4 s4 A4 ry
            obtain ⟨p1'', p2'', p3''⟩ := stay_at s4 p1' p2' p3'
            have racc := Reps.mono ((s2.le.trans s3.le).trans s4.le) _ q4
            have hlen2 := reps_len racc
            refine ⟨accV, p1'', ?_, w4, ah4, acc ++ [y], accV ++ [yv], stp_upd (((s.trans s2).trans s3).trans s4) hD, upd_free A4 p2'' p3'', upd_same, p2'', p3'', reps_append racc (reps_one ry), ?_, ?_⟩
            · rw [← hlen2]
              refine Nat.lt_of_le_of_lt (Nat.le_trans q5 (Nat.le_of_lt (Nat.lt_of_lt_of_le hi hlen))) (by decide)
            · rw [List.length_append, List.length_singleton]
              omega
            · cases hr : lcL vs f tt te env (items.drop (i + 1)) ah4 with
              | exc c l ah5 => rw [hr] at P; exact P
              | bad => rw [hr] at P; exact P
              | ok ys ah5 =>
                rw [hr] at P
                simp only [bind_ok] at P ⊢
                rw [List.append_assoc]
                exact P
  · rintro H ⟨w, ah, acc, accV, s, A, q1, q2, q3, q4, q5, P⟩
    rw [List.drop_length] at P
    unfold lcL at P
    simp only [bind_ok, List.append_nil] at P
    obtain ⟨le, A'⟩ := frz_A A q1 q2 q3
    refine P (w.add Dd (.lst accV)) _ H (frz_S s hD q2) A' ?_
    simp only [Rep]
    exact ⟨Dd, accV, rfl, add_at, Reps.mono le _ q4⟩
theorem q_lc {elt iter : Expr} {ifs : List Expr} {scope : Scope} {own : List (Str × Nat)} {it : CIt} {is : List Nat} {f : TgD} {g : TG} {tt : CT} {te : CE} (hc : X.calm = true) (hN : X.N.Nodup) (hf : TgS t is f g) (hi : PI X tg iter (tI t W H0 it)) (ok : BlkOk X.N X.env.scope scope own) (hs' : ∀ i ∈ is, i ∈ own.map (·.2))
    (hg : ∀ (s : Shared) (H : Hp) (C : Addr) (cl : List (Str × Addr)) (fp : List Addr), PG (X.blk s H scope (compEnvC scope cl C X.env) fp) tg g) (ht : ∀ (s : Shared) (H : Hp) (C : Addr) (cl : List (Str × Addr)) (fp : List Addr), PTs (X.blk s H scope (compEnvC scope cl C X.env) fp) ifs (tT t WF H0 tt))
    (he : ∀ (s : Shared) (H : Hp) (C : Addr) (cl : List (Str × Addr)) (fp : List Addr), PE (X.blk s H scope (compEnvC scope cl C X.env) fp) elt (tE t WF H0 te)) (hs : ∀ x, foldedSetIterable iter X.env x = pure x := by intro _; rfl) :
    PE X (.ListComp elt [⟨tg, iter, ifs, 0⟩] scope pos) (tE t W H0 (cLc it (own.map (·.2)) f tt te)) := PE.imp (pe_lc hc hN hi ok hg ht he hs) (lc_read rfl hf hs')
/-- y = [..] on one line -/
theorem z_setLc (i : Nat) {y : Str} {py : Pos} {elt iter : Expr} {ifs : List Expr} {scope : Scope} {own : List (Str × Nat)} {spos : Pos} {it : CIt} {is : List Nat} {f : TgD} {g : TG} {tt : CT} {te : CE} (hc : X.calm = true) (hN : X.N.Nodup) (hf : TgS t is f g) (hi : PI X tg iter (tI t W H0 it)) (ok : BlkOk X.N X.env.scope scope own) (hs' : ∀ i ∈ is, i ∈ own.map (·.2))
    (hg : ∀ (s : Shared) (H : Hp) (C : Addr) (cl : List (Str × Addr)) (fp : List Addr), PG (X.blk s H scope (compEnvC scope cl C X.env) fp) tg g) (ht : ∀ (s : Shared) (H : Hp) (C : Addr) (cl : List (Str × Addr)) (fp : List Addr), PTs (X.blk s H scope (compEnvC scope cl C X.env) fp) ifs (tT t WF H0 tt))
    (he : ∀ (s : Shared) (H : Hp) (C : Addr) (cl : List (Str × Addr)) (fp : List Addr), PE (X.blk s H scope (compEnvC scope cl C X.env) fp) elt (tE t WF H0 te)) (hsw : swapsWith (.ListComp elt [⟨tg, iter, ifs, 0⟩] scope pos) (some (.Name y py)) spos.line X.env = pure true) (hy : X.N[i]? = some y := by rfl) (hyl : X.env.scope.names.lookup y = some .local := by rfl) (hs : ∀ x, foldedSetIterable iter X.env x = pure x := by intro _; rfl) :
    PS X (.Assign [.Name y py] (.ListComp elt [⟨tg, iter, ifs, 0⟩] scope pos) spos) (tS t W w0 H0 (cAsg (gN i) (cLc it (own.map (·.2)) f tt te))) :=
  PS.imp (ps_setLc hc hN hy hyl hsw hi ok hg ht he hs) fun Dn σ H h => by
    obtain ⟨w, env, ah, A, E, P⟩ := asg_read (tg_name i) Dn σ H h
    exact lc_read rfl hf hs' σ H _ ⟨w, env, ah, A, E, P⟩
end
end G
/-! The engine, part 7: exceptions: raised, caught and kept; isinstance. -/
namespace G
open PySem PySem.Spec PyProof.Rows L2

/-! ### an exception that was caught is tracked -/
section
variable {X : Cx} {pins : List (Addr × Obj)} {σ : L2.St} {H : Hp} {s : Shared}
theorem Inv.track {a : Addr} {oe : Obj} {vs : Array Value} {cls : Value} {d : Option Addr} (I : L2.Inv X pins σ H s) (ha : s.heap.get? a = some oe) (hz : Zc cls d oe) (hd : oe.data = .fields vs) (na : H a = none) (n0 : X.s_0.heap.get? a = none) (nL : a ≠ X.env.locals)
    (nC : ∀ x c, X.env.cells.lookup x = some c → c ≠ a) (nP : ∀ p ∈ X.pn ++ pins, p.1 ≠ a) : L2.Inv X pins σ (upd H a (ExcK cls d a)) s := by
  have ok : ObjOk X.prog X.w (upd H a (ExcK cls d a)) s.heap a (ExcK cls d a) := ⟨⟨oe, vs, ha, hz, hd⟩, ⟨oe, ha⟩, fun h1 h2 ⟨o, v, q, r⟩ k => ⟨o, v, k o q, r⟩⟩
  have hne : ∀ b u, H b = some u → b ≠ a := fun b u e => ne_of_none e na
  refine ⟨I.ok, I.os, I.bare, ⟨I.base.keep, I.base.slot, fun b o e n hx => ?_, I.base.there, fun b xs e => ?_, fun b o u e => ?_, fun b ps e => ?_⟩, I.loc, I.cell, ?_, fun x c e => ?_, fun p hp => ?_, fun b u e => ?_, I.len⟩
  · have nb : b ≠ a := fun z => by rw [z, n0] at e; cases e
    rw [upd_ne nb]
    exact I.base.free b o e n hx
  · have q := I.base.tups b xs e
    rw [upd_ne (hne _ _ q)]
    exact q
  · have q := I.base.frzs b o u e
    rw [upd_ne (hne _ _ q)]
    exact q
  · obtain ⟨m, q⟩ := I.base.tbls b ps e
    exact ⟨m, by rw [upd_ne (hne _ _ q)]; exact q⟩
  · rw [upd_ne (Ne.symm nL)]
    exact I.free
  · rw [upd_ne (nC x c e)]
    exact I.freeC x c e
  · obtain ⟨h1, h2, h3, h4, h5⟩ := I.pin p hp
    exact ⟨h1, by rw [upd_ne (nP p hp)]; exact h2, h3, h4, h5⟩
  · by_cases hb : b = a
    · subst hb
      rw [upd_same] at e
      cases e
      exact ok
    · rw [upd_ne hb] at e
      exact (I.hok b u e).stay (fun c v _ q => q) (fun c q => by rw [upd_ne (hne _ _ q)]; exact q) fun c xs q => by rw [upd_ne (hne _ _ q)]; exact q
end
/-- what the clause 'except x as n' wishes, where the exception is kept: slot i is n's -/
def wKeep (K : PySem.W.Frag) (c : Value) (i : Nat) (ts : Addr → Value → Option Addr → TS) (Wout : WX) (Dn : Ends) : WX := fun cls d σ H =>
  ∃ b, PySem.W.exmOne K cls c = some b ∧ (b = true → ∀ a, H a = none → ts a cls d { nx := fun σ' H' => Dn.nx (σ'.set i none) (upd H' a (ExcK cls d a)), rt := Dn.rt, bk := fun σ' H' => Dn.bk (σ'.set i none) (upd H' a (ExcK cls d a)), ct := fun σ' H' => Dn.ct (σ'.set i none) (upd H' a (ExcK cls d a)) } (σ.set i (some (.ref a))) H) ∧
    (b = false → Wout cls d σ H)
section
variable {X : Cx} {x n : Str} {c : Value} {i : Nat} {body suite : List Stmt} {b₀ : Stmt} {np pos pos' : Pos} {tb : WX → TS} {ts : Addr → Value → Option Addr → TS} {Wout : WX}
theorem ps_try_keep (hs : X.stack = X.env :: X.outer) (hf : X.env.frame = some X.env.locals) (hex : X.ex = []) (hN : X.N.Nodup) (hi : X.N[i]? = some n) (hln : X.env.kindOf n = some .local) (hc : Names X x c) (tk : Takes X Wout)
    (hb : ∀ (W : WX) (pn : List (Addr × Obj)) (xe : Value → Shared → Prop), Takes (X.tr pn xe) W → PassesOwn (model X.prog X.w) X.A X.env xe → PSs (X.tr pn xe) body (tb W))
    (hsu : ∀ (a : Addr) (oe : Obj) (cls : Value) (d : Option Addr) (pn : List (Addr × Obj)), Zc cls d oe → (∃ vs, oe.data = .fields vs) → PSs (X.suite a ((a, oe) :: pn)) (b₀ :: suite) (ts a cls d)) :
    PS X (.Try body [.ExceptHandler (some (.Name x np)) (some n) (b₀ :: suite) pos'] [] [] pos) (fun Dn σ H => tb (wKeep X.K c i ts Wout Dn) Dn σ H) := by
  refine ⟨fun pins s σ H Dn I h => ?_⟩
  have ok := I.ok
  have hfr : X.A.frames = some (X.env :: X.outer) := by rw [ok.frames, hs]
  have hloc : Loc X.env.scope n := .inl hln
  refine wpAny_Try_except ?_
  refine wpAny_mono ((hb (wKeep X.K c i ts Wout Dn) (X.pn ++ pins) (fun e s₁ => wpAny (model X.prog X.w) X.A (noteFrame e X.env) (fun _ s₂ => wpAny (model X.prog X.w) X.A (setFlight e none) (fun _ s₃ =>
    wpAny (model X.prog X.w) X.A (handleBy e X.env [.ExceptHandler (some (.Name x np)) (some n) (b₀ :: suite) pos']) (SP X pins Dn) X.xe s₃) X.xe s₂) X.xe s₁) (fun u s' xx => ?_) PassesOwn.looking).run [] s σ H Dn (I.toTry _) h) (fun f s1 hsp => ?_) (fun e s1 he => he)
  · -- the catch
    obtain ⟨a, B, sI, pins', σ', H', cls, d, rfl, J', nb, up, sky, na, os, ag, b, hb1, hyes, hno⟩ := xx
    have J : L2.Inv X pins σ' H' sI := J'.ofTry ok
    have sky' : Sky B (X.env :: X.outer) a (Zc cls d) X.env.locals s'.heap := by rw [← hs]; exact sky
    show wpAny (model X.prog X.w) X.A (noteFrame (.ref a) X.env) _ _ _
    refine Sky.land Zc.steady hfr hf sky' fun h3 fl3 up3 => ?_
    have J3 : L2.Inv X pins σ' H' { s' with heap := h3 } := J.landed nb fl3.1 (up.trans up3) os ag
    obtain ⟨oe3, vs3, he3, hz3, hd3⟩ := fl3.there
    have notFr : ∀ {h : Heap} {o : Obj} {vs : Array Value}, h.FunFrames B (X.env :: X.outer) → h.get? a = some o → o.data = .fields vs → a ∉ frs (X.env :: X.outer) := fun {h o vs} ff e dd hm => by
      obtain ⟨_, o', e', hnf⟩ := ff.mem hm
      rw [e] at e'; cases e'
      exact hnf _ dd
    have nfr := notFr fl3.2.2.1 he3 hd3
    have nL : a ≠ X.env.locals := fun z => nfr (List.mem_filterMap.mpr ⟨X.env, List.mem_cons_self, by rw [hf, z]⟩)
    have nF : a ∉ X.fs := fun hm => by
      obtain ⟨e, he, q⟩ := List.mem_filterMap.mp hm
      exact nfr (List.mem_filterMap.mpr ⟨e, List.mem_cons_of_mem _ he, q⟩)
    have nI : sI.heap.get? a = none := by
      cases q : sI.heap.get? a with
      | none => rfl
      | some o =>
        have z := nb a o q (by show a ∉ frs X.stack; rw [hs]; exact nfr)
        rw [fl3.2.1] at z
        cases z
    have n0 : X.s_0.heap.get? a = none := by
      cases q : X.s_0.heap.get? a with
      | none => rfl
      | some o =>
        obtain ⟨o', e⟩ := J.base.there a o q (by rw [hex]; exact fun z => nomatch z)
        rw [nI] at e
        cases e
    have nC : ∀ x c, X.env.cells.lookup x = some c → c ≠ a := fun x c e z => by
      obtain ⟨v, q⟩ := J.cell x c e
      obtain ⟨o, ho, _⟩ := q
      rw [z, nI] at ho
      cases ho
    have nP : ∀ p ∈ X.pn ++ pins, p.1 ≠ a := fun p hp z => by
      have q := (J.pin p hp).1
      rw [z, nI] at q
      cases q
    have S3 := J3.suite he3 hd3 na nL nF
    refine wpAny_handleBy_cons (codeAny_handlers_test ?_) (by intro q; cases q)
    have LT : PySem.W.Looks (model X.prog X.w) h3 (typeOf (.ref a)) cls := fun A Q E s k q => wpAny_typeOf_ref (k _ _ he3) (by rw [hz3.1]; exact q)
    have LM := PySem.W.exm_one (M := model X.prog X.w) (J3.kIn) LT hb1
    have test : ∀ {Q : Value → Shared → Prop} {E : Value → Shared → Prop}, Q c { s' with heap := h3 } → wpAny (model X.prog X.w) (X.A.mark (some (.ref a))) (eval (.Name x np) X.env) Q E { s' with heap := h3 } := fun {Q E} q => by
      obtain ⟨hg, hdbg, hm | ⟨hm, hv, hnn⟩⟩ := hc
      · exact ld_glob (X := X.suite a ((a, oe3) :: (X.pn ++ pins))) S3 hg hm q hdbg
      · exact ld_blt (X := X.suite a ((a, oe3) :: (X.pn ++ pins))) S3 hg hm hv q hnn hdbg
    refine test (LM.here ?_)
    cases b with
    | true =>
      refine codeAny_handlers_suite_as ?_
      refine HandSPX.lands_againZ fl3 fun h4 fl4 up4 => ?_
      have J4 : L2.Inv X pins σ' H' { s' with heap := h4 } := J.landed nb fl4.1 ((up.trans up3).trans up4) os ag
      obtain ⟨oe4, vs4, he4, hz4, hd4⟩ := fl4.there
      have S4 := J4.suite he4 hd4 na nL nF
      refine store_ok (X := X.suite a ((a, oe4) :: (X.pn ++ pins))) (v := .ref a) S4 hN hi hloc rfl (fun s5 S5 => ?_) (.inr hln)
      refine wpAny_mono ((hsu a oe4 cls d (X.pn ++ pins) hz4 ⟨_, hd4⟩).run [] s5 _ H' _ S5 (hyes rfl a na)) (fun f s6 hsp => ?_) (fun _ _ z => False.elim z)
      have end_ : ∀ {σ6 : L2.St} {H6 : Hp} {Q : Shared → Prop}, L2.Inv (X.suite a ((a, oe4) :: (X.pn ++ pins))) [] σ6 H6 s6 → (∀ s7, L2.Inv X pins (σ6.set i none) (upd H6 a (ExcK cls d a)) s7 → Q s7) →
          wpAny (model X.prog X.w) X.A (do bindName X.env n .none; unbindBehindTheSuite X.env n pos') (fun _ s7 => Q s7) X.xe s6 := fun {σ6 H6 Q} S6 hq => by
        have P6 := S6.pin (a, oe4) (List.mem_append_left _ List.mem_cons_self)
        exact gone_ok (Inv.track (S6.unsuite ok) P6.1 hz4 hd4 P6.2.1 n0 nL nC nP) hN hi hln hq
      have endr : ∀ {σ6 : L2.St} {H6 : Hp} {Q : Shared → Prop}, L2.Inv (X.suite a ((a, oe4) :: (X.pn ++ pins))) [] σ6 H6 s6 → (∀ s7, L2.Inv X pins (σ6.set i none) H6 s7 → Q s7) →
          wpAny (model X.prog X.w) X.A (do bindName X.env n .none; unbindBehindTheSuite X.env n pos') (fun _ s7 => Q s7) X.xe s6 := fun {σ6 H6 Q} S6 hq => gone_ok (S6.unsuite ok) hN hi hln hq
      cases f with
      | next =>
        obtain ⟨σ6, H6, S6, q6⟩ := hsp
        exact end_ S6 fun s7 J7 => ⟨_, _, J7, q6⟩
      | brk =>
        obtain ⟨σ6, H6, S6, q6⟩ := hsp
        exact end_ S6 fun s7 J7 => ⟨_, _, J7, q6⟩
      | cont =>
        obtain ⟨σ6, H6, S6, q6⟩ := hsp
        exact end_ S6 fun s7 J7 => ⟨_, _, J7, q6⟩
      | ret u =>
        obtain ⟨v6, σ6, H6, S6, r6, q6⟩ := hsp
        exact endr S6 fun s7 J7 => ⟨_, _, _, J7, r6, q6⟩
    | false =>
      show wpAny _ X.A (handleBy (.ref a) X.env []) _ _ _
      refine wpAny_handleBy_nil ?_
      obtain ⟨k1, k2, k3, oe, vs, T, oT, ts', he, hz, hd, h1, hr⟩ := id fl3
      unfold PySem.passOn
      refine wpAny_bind (wpAny_field he hd h1 ?_)
      rw [if_neg (show ¬ ((Value.ref T == Value.none) = true) from by simp)]
      have fin : wpAny (model X.prog X.w) X.A (setFlight (.ref a) X.env.frame) (fun _ s4 => wpAny (model X.prog X.w) X.A (throw (.ref a) : Sem Flow) (SP X pins Dn) X.xe s4) X.xe { s' with heap := h3 } := by
        rw [hf]
        refine HandSPX.setFlight_upZ fl3 fun h4 hh4 up4 => wpAny_throw (tk _ _ ?_)
        exact ⟨a, B, sI, pins, σ', H', cls, d, rfl, J, nb, (up.trans up3).trans up4, .inr (.inr (by rw [hs]; exact hh4)), na, os, ag, hno rfl⟩
      first
        | exact wpAny_bind (wpAny_pure (wpAny_bind fin))
        | exact wpAny_bind fin
  · cases f with
    | next =>
      obtain ⟨σ', H', J', q⟩ := hsp
      exact wpAny_execs_nil ⟨σ', H', J'.ofTry ok, q⟩
    | brk =>
      obtain ⟨σ', H', J', q⟩ := hsp
      exact ⟨σ', H', J'.ofTry ok, q⟩
    | cont =>
      obtain ⟨σ', H', J', q⟩ := hsp
      exact ⟨σ', H', J'.ofTry ok, q⟩
    | ret u =>
      obtain ⟨v, σ', H', J', r, q⟩ := hsp
      exact ⟨v, σ', H', J'.ofTry ok, r, q⟩
end

/-! ### try: body; except C as n: y = n -/
def cTryK (b : CS) (sub : Nat → Option Bool) (i j : Nat) : CS := fun env ah => match b env ah with
  | .exc c l env' ah' => match sub c with
    | some true => if i < env'.length then .nx (((env'.set i .no).set j (.val (.exc c l))).set i .no) ah' else .bad
    | some false => .exc c l env' ah'
    | none => .bad
  | r => r
section
variable {X : Cx} {t : Tb} {W : WX} {w0 : Wd} {H0 : Bs} {x n y : Str} {cv : Value} {c1 : CS} {i j : Nat} {body : List Stmt} {np n1 n2 p1 pos pos' : Pos} {sub : Nat → Option Bool}
theorem z_tryK (i j : Nat) (hN : X.N.Nodup) (hc : Names X x cv) (tk : Takes X W) (hsub : ∀ c b, sub c = some b → PySem.W.exmOne t.K (.ref (t.cl c)) cv = some b)
    (hb : ∀ (W : WX) (pn : List (Addr × Obj)) (xe : Value → Shared → Prop), Takes (X.tr pn xe) W → PassesOwn (model X.prog X.w) X.A X.env xe → PSs (X.tr pn xe) body (tS t W w0 H0 c1))
    (hK : t.K = X.K := by rfl) (hij : i ≠ j := by decide) (hi : X.N[i]? = some n := by rfl) (hj : X.N[j]? = some y := by rfl) (hs : X.stack = X.env :: X.outer := by rfl) (hf : X.env.frame = some X.env.locals := by rfl) (hex : X.ex = [] := by rfl) (hln : X.env.kindOf n = some .local := by rfl) (hly : X.env.scope.names.lookup y = some .local := by rfl)
    (hsw : swapsWith (.Name n n2) (some (.Name y n1)) p1.line X.env = pure false := by rfl) (hd : (n == ("__debug__" : Str)) = false := by decide) (hcd : (n == ("__classdict__" : Str)) = false := by decide) :
    PS X (.Try body [.ExceptHandler (some (.Name x np)) (some n) [.Assign [.Name y n1] (.Name n n2) p1] pos'] [] [] pos) (tS t W w0 H0 (cTryK c1 sub i j)) := by
  refine PS.imp (ps_try_keep (tb := fun W => tS t W w0 H0 c1) (ts := fun _ _ _ => tAsg (tVar i) (gName j)) hs hf hex hN hi hln hc tk hb fun a oe cls d pn hz hv => ?_) ?_
  · exact pss_one (ps_set (X := X.suite a ((a, oe) :: pn)) hN hj (.inl hly) (pv i hi (.inl hln) hd hcd) hsw (.inr hly))
  · rintro Dn σ H ⟨w, env, ah, s, A, E, P⟩
    refine ⟨w, env, ah, s, A, E, ?_⟩
    unfold cTryK at P
    cases e : c1 env ah with
    | nx env' ah' => rw [e] at P; exact P
    | rt d ah' => rw [e] at P; exact P
    | bk env' ah' => rw [e] at P; exact P
    | ct env' ah' => rw [e] at P; exact P
    | bad => rw [e] at P; exact P
    | exc c l env' ah' =>
      rw [e] at P
      simp only at P
      intro w' σ' d H' le' s' A' E' x'
      cases hb : sub c with
      | none => rw [hb] at P; exact False.elim P
      | some k =>
        rw [hb] at P
        refine ⟨k, by rw [← hK]; exact hsub c k hb, fun hk a na => ?_, fun hk => ?_⟩
        · subst hk
          simp only at P
          by_cases hl : i < env'.length
          · rw [if_pos hl] at P
            rw [E'.len] at hl
            refine ⟨.ref a, by rw [List.getElem?_set_self hl], ?_⟩
            obtain ⟨s2, A2⟩ := stp_add (o := ExcK (.ref (t.cl c)) d a) A' na
            refine P _ _ _ (le'.trans s2.le) (s'.trans s2) A2 (relE_no (relE_val (relE_no (E'.step s2)) ?_))
            simp only [Rep]
            refine ⟨a, d, rfl, add_at, ?_⟩
            rcases ExcD.mono s2.le x' with q | q
            · exact .inl q
            · exact .inr q
          · rw [if_neg hl] at P
            exact False.elim P
        · subst hk
          exact P w' σ' d H' le' s' A' E' x'
/-! ### raise -/
def cRaise (c : Nat) : CS := fun env ah => .exc c [] env ah
theorem z_raise (c : Nat) {x m : Str} {B newId initId : String} {bmB : List Value} {j : Nat} {p p2 pos2 : Pos} (hc : X.calm = true) (tk : Takes X W) (F : ExcBaseFacts B newId initId bmB) (q : PySem.W.excIn X.K (t.cl c) bmB newId = true) (gC : X.mg x = some (.ref (t.cl c))) (kC : PySem.W.keepIn X.K (.ref (t.cl c)) = true)
    (h1 : PySem.W.subIn X.K (.ref (t.cl c)) (.type "BaseException") = some true) (h2 : PySem.W.typeIn X.K (.ref (t.cl c)) = some (.type "type")) (hg : Gl X x := by rfl) (hdb : (x == ("__debug__" : Str)) = false := by decide) :
    PS X (.Raise (some (.Call (.Name x p) [.Constant (.str m) j p2] [] pos)) none pos2) (tS t W w0 H0 (cRaise c)) := by
  refine PS.imp (ps_raise hc tk (pmk_own F q gC kC (raises_own h1 h2) hg hdb)) ?_
  rintro Dn σ H ⟨w, env, ah, s, A, E, P⟩
  exact P w σ none H (Wle.refl _) s A E (.inl ⟨rfl, rfl⟩)

/-! ### isinstance -/
/-- what the written part says of a class whose instances are asked -/
structure ObjC (K : PySem.W.Frag) (C : Addr) : Prop where
  cls : Cls K C
  ha : PySem.W.findIn K (.ref C) "__class__" = some (some (.builtin "object.__class__"))
  hn : PySem.W.specialIn K (.builtin "object.__class__") "__get__" = some (some (.builtin "getset_descriptor.__get__"))
  htk : PySem.W.takesIn K (.builtin "object.__class__") = some true
  hm : PySem.W.mroIn K C (.type "object") = some true
theorem call_isX {K : PySem.W.Frag} : CallR X (.builtin "isinstance") (fun xs H Q => rIsi X.K xs H Q ∨ ∃ (a C : Addr) (c : V) (u : Value) (b : Bool), xs = [.ref a, c] ∧ H a = some (ExcK (.ref C) none a) ∧ ClsV c u ∧ ExcC X.K C ∧ PySem.W.kitOne X.K (.ref C) u = some b ∧ Q (.bl b) H) := by
  refine call_isi.or ?_
  intro pins s σ H xs us Q I r h
  obtain ⟨a, C, c, u, b, rfl, hx, hc, hC, e, q⟩ := h
  obtain ⟨u1, u2, rfl, r1, r2⟩ := vals2 r
  have e2 := hc.eq r2
  subst e2
  cases r1
  have z : ObjOk X.prog X.w H s.heap a (ExcK (.ref C) none a) := I.hok a _ hx
  obtain ⟨⟨oe, vs, hget, hz, hv⟩, _⟩ := z
  have J : PySem.W.InstAt s.heap a oe C none := by
    obtain ⟨oc, od, oda, osl⟩ := oe
    obtain ⟨h1, h2⟩ := hz
    dsimp only at h1 h2 hv
    subst h1 h2 hv
    exact ⟨hget, rfl, rfl, trivial⟩
  exact PySem.W.kia_one (PySem.W.handS_kitx_exc hC.hg hC.hk hC.hs hC.hd hC.ha hC.hn hC.ht hC.hm) I.kIn J e (fun z => nomatch z) fun tk => ⟨.bl b, H, I.tok tk, rfl, q⟩
/-- the deciders' word for what a datum is an instance of -/
def IsK (t : Tb) (ah : AH) (d : D) (u : Value) (b : Bool) : Prop := match d with
  | .non => PySem.W.kitOne t.K (.type "NoneType") u = some b
  | .bl _ => PySem.W.kitOne t.K (.type "bool") u = some b
  | .int _ => PySem.W.kitOne t.K (.type "int") u = some b
  | .str _ => PySem.W.kitOne t.K (.type "str") u = some b
  | .tup _ => PySem.W.kitOne t.K (.type "tuple") u = some b
  | .lst _ => PySem.W.kitOne t.K (.type "list") u = some b
  | .dct _ _ => PySem.W.kitOne t.K (.type "dict") u = some b
  | .obj c _ => ObjC t.K (t.cl c) ∧ PySem.W.kitOne t.K (.ref (t.cl c)) u = some b
  | .exc c l => l = [] ∧ ExcC t.K (t.cl c) ∧ PySem.W.kitOne t.K (.ref (t.cl c)) u = some b
  | .ref n => (∃ c l, ah[n]? = some (.ins c l) ∧ ObjC t.K (t.cl c) ∧ PySem.W.kitOne t.K (.ref (t.cl c)) u = some b) ∨ (∃ l, ah[n]? = some (.lst l) ∧ PySem.W.kitOne t.K (.type "list") u = some b) ∨ (∃ ks l, ah[n]? = some (.dct ks l) ∧ PySem.W.kitOne t.K (.type "dict") u = some b) ∨ (∃ l, ah[n]? = some (.llst l) ∧ PySem.W.kitOne t.K (.type "list") u = some b)
  | .scr _ => False
  | .vls _ _ => False
  | .lam _ _ _ _ _ => False
def cIsI (f : AH → D → Option Bool) (a : CE) : CE := cUn (fun ah d => (f ah d).map D.bl) a
variable {xa : CE} {a : Expr}
theorem q_isI {f : AH → D → Option Bool} {T : Expr} {cV : V} {u : Value} {p pos : Pos} (hT : PE X T (tC cV)) (hc : ClsV cV u) (hf : ∀ ah d b, f ah d = some b → IsK t ah d u b) (ha : PE X a (tE t W H0 xa)) (hm : X.mg "isinstance" = none) (hg : Gl X "isinstance" := by rfl) (hK : t.K = X.K := by rfl)
    (hs1 : starEach [a, T] X.env = (false, eval a X.env) :: starEach [T] X.env := by rfl) (hs2 : starEach [T] X.env = (false, eval T X.env) :: starEach [] X.env := by rfl) (hpl : (backTo pos (starEach [T] X.env)).any (·.1) = false := by rfl) :
    PE X (.Call (.Name "isinstance" p) [a, T] [] pos) (tE t W H0 (cIsI f xa)) := by
  refine PE.imp (pe_callB (call_isX (K := X.K)) hg hm (by decide +kernel) (pa_cons ha (pa_cons hT pa_nil hs2) hs1) (by decide) (by decide) hs1 hpl) ?_
  rintro σ H Q ⟨w, env, ah, A, E, P⟩
  refine ⟨w, env, ah, A, E, post_bind P fun d ah1 w1 v H1 s1 A1 r1 P1 => ?_⟩
  show (rIsi X.K [v, cV] H1 Q) ∨ _
  replace P1 : Post t (Rep t) w1 H1 (ofO ((f ah1 d).map D.bl) ah1) Q (fun cls d H' => W cls d σ H') := P1
  cases e : f ah1 d with
  | none => rw [e] at P1; exact False.elim P1
  | some b =>
    rw [e] at P1
    have hk := hf ah1 d b e
    have fin : Q (.bl b) H1 := post_ok P1 A1 (by simp only [Rep])
    unfold IsK at hk
    rw [hK] at hk
    cases d <;> simp only at hk <;> simp only [Rep] at r1
    · subst r1
      exact .inl ⟨_, _, _, u, b, rfl, hc, .base .non, hk, fin⟩
    · subst r1
      exact .inl ⟨_, _, _, u, b, rfl, hc, .base (.bl _), hk, fin⟩
    · subst r1
      exact .inl ⟨_, _, _, u, b, rfl, hc, .base (.int _), hk, fin⟩
    · subst r1
      exact .inl ⟨_, _, _, u, b, rfl, hc, .base (.str _), hk, fin⟩
    · obtain ⟨p, vs, rfl, h1, h2⟩ := r1
      rw [hK] at h1
      rcases same_sqT A1.sub h1 with (h | ⟨o, h⟩) | ⟨o, its, n, h3, h4, _⟩
      · exact .inl ⟨_, _, _, u, b, rfl, hc, .base (.tup h), hk, fin⟩
      · exact .inl ⟨_, _, _, u, b, rfl, hc, .fTuple h, hk, fin⟩
      · exact .inl ⟨_, _, _, u, b, rfl, hc, .kTuple h3 h4, hk, fin⟩
    · obtain ⟨p, vs, rfl, h1, h2⟩ := r1
      exact .inl ⟨_, _, _, u, b, rfl, hc, .base (.lst (A1.sub _ _ h1)), hk, fin⟩
    · obtain ⟨p, od, vs, rfl, h1, h2⟩ := r1
      exact .inl ⟨_, _, _, u, b, rfl, hc, .fDict (A1.sub _ _ h1), hk, fin⟩
    · obtain ⟨p, dx, vs, rfl, h1, h2⟩ := r1
      exact .inl ⟨_, _, _, u, b, rfl, hc, .base (.ins (A1.sub _ _ h1) hk.1.cls hk.1.ha hk.1.hn hk.1.htk hk.1.hm), hk.2, fin⟩
    · obtain ⟨p, dd, rfl, h1, h2⟩ := r1
      obtain ⟨e1, e2, e3⟩ := hk
      rcases h2 with ⟨_, rfl⟩ | ⟨h3, _⟩
      · exact .inr ⟨p, _, cV, u, b, rfl, A1.sub _ _ h1, hc, e2, e3, fin⟩
      · exact absurd e1 h3
    · obtain ⟨p, rfl, h1⟩ := r1
      rcases hk with ⟨c, l, e1, e2, e3⟩ | ⟨l, e1, e3⟩ | ⟨ks, l, e1, e3⟩ | ⟨l, e1, e3⟩
      · obtain ⟨h0, dx, vs, h2, _⟩ := A1.obj _ _ p e1 h1
        exact .inl ⟨_, _, _, u, b, rfl, hc, .base (.ins h2 e2.cls e2.ha e2.hn e2.htk e2.hm), e3, fin⟩
      · obtain ⟨h0, vs, h2, _⟩ := A1.obj _ _ p e1 h1
        exact .inl ⟨_, _, _, u, b, rfl, hc, .base (.lst h2), e3, fin⟩
      · obtain ⟨h0, vs, h2, _⟩ := A1.obj _ _ p e1 h1
        exact .inl ⟨_, _, _, u, b, rfl, hc, .base (.dK h2), e3, fin⟩
      · obtain ⟨h0, od, vs, h2, _⟩ := A1.obj _ _ p e1 h1
        exact .inl ⟨_, _, _, u, b, rfl, hc, .base (.frz (A1.lks _ _ h2).1), e3, fin⟩
end
end G
/-! The engine, part 8: the rule for a def, instances made, methods, lists of a slot. -/
namespace G
open PySem PySem.Spec PyProof.Rows L2

/-! ### a def -/
def env0 (N : Nat) (ds : List D) : En := ds.map Sl.val ++ List.replicate (N - ds.length) Sl.no
def runDef (c : CS) (N : Nat) : FD := fun ds ah => match c (env0 N ds) ah with
  | .rt d ah' => .ok d ah'
  | .nx _ ah' => .ok .non ah'
  | .exc c l _ ah' => .exc c l ah'
  | _ => .bad
theorem relE_start {t : Tb} {H0 : Bs} {H : Hp} {w : Wd} {N : List Str} {ds : List D} {vs : List V} (r : Reps t w ds vs) (hl : vs.length ≤ N.length) : RelE t H0 w (env0 N.length ds) (L2.start N vs) H := by
  have e1 := reps_len r
  refine ⟨?_, fun i s e => ?_, fun i j o p a h e1 e2 => ?_⟩
  · unfold env0 L2.start
    rw [List.length_append, List.length_append, List.length_map, List.length_map, List.length_replicate, List.length_replicate, e1]
  · unfold env0 at e
    by_cases hi : i < ds.length
    · rw [List.getElem?_append_left (by simpa using hi), List.getElem?_map, List.getElem?_eq_getElem hi] at e
      cases e
      obtain ⟨v, h1, h2⟩ := reps_get r (List.getElem?_eq_getElem hi)
      refine ⟨v, ?_, h2⟩
      unfold L2.start
      rw [List.getElem?_append_left (by rw [List.length_map, ← e1]; exact hi), List.getElem?_map, h1]
      rfl
    · rw [List.getElem?_append_right (by simpa using hi), List.getElem?_replicate] at e
      split at e
      · cases e
        trivial
      · cases e
  · unfold env0 at e1
    by_cases hi : i < ds.length
    · rw [List.getElem?_append_left (by simpa using hi), List.getElem?_map, List.getElem?_eq_getElem hi] at e1
      cases e1
    · rw [List.getElem?_append_right (by simpa using hi), List.getElem?_replicate] at e1
      split at e1
      · cases e1
      · cases e1
section
variable {P : Program} {w : World} {K : PySem.W.Frag} {mg : Str → Option Value} {base : Heap} {t : Tb}
/-- THE RULE for a def -/
theorem ok_def {x qual : Str} {st : Stmt} {dvs : List V} {f : Addr} {fd : FuncData} {N ps : List Str} {k : Nat} {c : CS} (Fn : FunD K x qual (defArgs st) (defBody st) (defScope st) dvs [] f fd) (S : FnScope N ps (defScope st))
    (hbody : ∀ (cdv : Value) (A : Around) (outer : List Env) (s : Shared) (H0 : Hp) (E : XK) (w0 : Wd), Room k (A.deeper (envOfC qual (defScope st) s.heap.objs.size f cdv)) →
      PSs (cxOf (L2.CX P w) P w K mg base N qual (defScope st) f cdv A outer s H0 E) (defBody st) (tS t (fun cls d _ H => E cls d H) w0 ⟨H0, 0⟩ c)) :
    FnOk P w K mg base (L2.CX P w) (k + 1) f fd ps (spD t (runDef c N.length) ps.length) := by
  refine Fn.ok S (spD_len rfl) fun cdv A outer s H vs Q E hr hsp => ?_
  obtain ⟨hl, w0, ds, ah, A0, r, P0⟩ := hsp
  refine ⟨_, hbody cdv A outer s H E w0 hr, w0, env0 N.length ds, ah, StpQ.refl _ _, A0, relE_start r ?_, ?_⟩
  · have := congrArg List.length S.pre
    rw [List.length_take] at this
    omega
  · unfold runDef at P0
    cases e : c (env0 N.length ds) ah with
    | nx env ah' =>
      rw [e] at P0
      exact fun w' σ H' l' s' A' E' => P0 w' .non H' (s'.lk l'.lk) A' (by simp only [Rep])
    | rt d ah' =>
      rw [e] at P0
      exact fun w' v H' l' s' A' r' => P0 w' v H' (s'.lk l'.lk) A' r'
    | bk env ah' => rw [e] at P0; exact False.elim P0
    | ct env ah' => rw [e] at P0; exact False.elim P0
    | bad => rw [e] at P0; exact False.elim P0
    | exc cc l env ah' =>
      rw [e] at P0
      exact fun w' σ d H' l' s' A' E' x' => P0 w' d H' (s'.lk l'.lk) A' x'
end

/-! ### instances -/
/-- what an __init__ does: the fields' data from the arguments -/
abbrev FI := List D → AH → Res (List D)
def PostI (t : Tb) (c : Nat) (p : Addr) (w0 : Wd) (H0 : Hp) (r : Res (List D)) (Q : VK) (E : XK) : Prop := match r with
  | .ok l ah => ∀ w dx vs H, Stp w0 H0 w H → RelA t w ah H → H p = some (.ins (t.cl c) dx ((t.fl c).zip vs)) → vs.length = (t.fl c).length → w.Hf p = none → p ∉ w.ρ → Reps t w l vs → Q .non H
  | .exc e l ah => ∀ w d H, Stp w0 H0 w H → RelA t w ah H → ExcD t w e l d → E (.ref (t.cl e)) d H
  | .bad => False
def spI (t : Tb) (c : Nat) (F : FI) (n : Nat) : Sp := fun vs H Q E => vs.length = n + 1 ∧ ∃ (p dx : Addr) (vr : List V) (w : Wd) (Hb : Hp) (ds : List D) (ah : AH), vs = .ref p :: vr ∧ Hb p = none ∧ Stp w Hb w H ∧ RelA t w ah H ∧ w.Hf p = none ∧ p ∉ w.ρ ∧ H p = some (.ins (t.cl c) dx []) ∧ Reps t w ds vr ∧ PostI t c p w Hb (F ds ah) Q E
theorem spI_len {t : Tb} {c : Nat} {F : FI} {n : Nat} {ps : List Str} (h : n + 1 = ps.length) : ∀ vs H Q E, spI t c F n vs H Q E → vs.length = ps.length := fun vs H Q E q => by rw [q.1, h]
def env1 (cls N : Nat) (ds : List D) : En := .own (.ins cls []) :: (ds.map Sl.val ++ List.replicate (N - (ds.length + 1)) Sl.no)
def endI (cls nf : Nat) (env : En) (ah : AH) : Res (List D) := match env with
    | .own (.ins k l) :: _ => if k = cls ∧ l.length = nf then .ok l ah else .bad
    | _ => .bad
def runInit (c : CS) (N cls nf : Nat) : FI := fun ds ah => match c (env1 cls N ds) ah with
  | .nx env ah' => endI cls nf env ah'
  | .exc e l _ ah' => .exc e l ah'
  | _ => .bad
section
variable {P : Program} {w : World} {K : PySem.W.Frag} {mg : Str → Option Value} {base : Heap} {t : Tb}
theorem ok_init {x qual : Str} {st : Stmt} {dvs : List V} {f : Addr} {fd : FuncData} {N ps : List Str} {k cls : Nat} {c : CS} {n : Nat} (Fn : FunD K x qual (defArgs st) (defBody st) (defScope st) dvs [] f fd) (S : FnScope N ps (defScope st)) (hn : n + 1 = ps.length)
    (hbody : ∀ (cdv : Value) (A : Around) (outer : List Env) (s : Shared) (H : Hp) (H0 : Bs) (E : XK) (w0 : Wd), Room k (A.deeper (envOfC qual (defScope st) s.heap.objs.size f cdv)) →
      PSs (cxOf (L2.CX P w) P w K mg base N qual (defScope st) f cdv A outer s H E) (defBody st) (tS t (fun cls d _ H => E cls d H) w0 H0 c)) :
    FnOk P w K mg base (L2.CX P w) (k + 1) f fd ps (spI t cls (runInit c N.length cls (t.fl cls).length) n) := by
  refine Fn.ok S (spI_len hn) fun cdv A outer s H vs Q E hr hsp => ?_
  obtain ⟨hl, p, dx, vr, w0, Hb, ds, ah, rfl, hp, st0, A0, hf, hr0, h1, r, P0⟩ := hsp
  have hlen : ps.length ≤ N.length := by
    have := congrArg List.length S.pre
    rw [List.length_take] at this
    omega
  have e1 := reps_len r
  have hvl : vr.length = n := by simpa using hl
  have es : L2.start N (.ref p :: vr) = some (.ref p) :: (vr.map some ++ List.replicate (N.length - (vr.length + 1)) none) := by
    unfold L2.start
    rw [List.map_cons, List.length_cons, List.cons_append]
  have hE : RelE t ⟨Hb, p⟩ w0 (env1 cls N.length ds) (L2.start N (.ref p :: vr)) H := by
    rw [es]
    unfold env1
    refine ⟨by simp [e1], fun i sl e => ?_, fun i j o q a h e1' e2 => ?_⟩
    · cases i with
      | zero =>
        simp only [List.getElem?_cons_zero, Option.some.injEq] at e
        subst e
        exact ⟨p, _, by simp, h1, ⟨hf, dx, [], by rw [h1, List.zip_nil_right], Nat.zero_le _, by simp only [Reps]⟩, hp, hr0, hf, fun _ => rfl⟩
      | succ i =>
        rw [List.getElem?_cons_succ] at e ⊢
        by_cases hi : i < ds.length
        · rw [List.getElem?_append_left (by simpa using hi), List.getElem?_map, List.getElem?_eq_getElem hi] at e
          cases e
          obtain ⟨v, h2, h3⟩ := reps_get r (List.getElem?_eq_getElem hi)
          refine ⟨v, ?_, h3⟩
          rw [List.getElem?_append_left (by rw [List.length_map, ← e1]; exact hi), List.getElem?_map, h2]
          rfl
        · rw [List.getElem?_append_right (by simpa using hi), List.getElem?_replicate] at e
          split at e
          · cases e
            trivial
          · cases e
    · have no : ∀ (i : Nat) (o : MO), (Sl.own (.ins cls []) :: (ds.map Sl.val ++ List.replicate (N.length - (ds.length + 1)) Sl.no))[i]? = some (.own o) → i = 0 := fun i o e => by
        cases i with
        | zero => rfl
        | succ i =>
          rw [List.getElem?_cons_succ] at e
          by_cases hi : i < ds.length
          · rw [List.getElem?_append_left (by simpa using hi), List.getElem?_map, List.getElem?_eq_getElem hi] at e
            cases e
          · rw [List.getElem?_append_right (by simpa using hi), List.getElem?_replicate] at e
            split at e
            · cases e
            · cases e
      exact absurd ((no i o e1').trans (no j q e2).symm) h
  refine ⟨_, hbody cdv A outer s H ⟨Hb, p⟩ E w0 hr, w0, env1 cls N.length ds, ah, st0.q, A0, hE, ?_⟩
  unfold runInit at P0
  cases e : c (env1 cls N.length ds) ah with
  | nx env ah' =>
    rw [e] at P0
    intro w' σ H' l' s' A' E'
    simp only at P0
    unfold endI at P0
    split at P0
    · rename_i k l tl
      split at P0
      · rename_i hk
        obtain ⟨rfl, hl2⟩ := hk
        obtain ⟨a, ob, q1, q2, q3, q4, q5, q6, q7⟩ := E'.slot 0 (.own (.ins k l)) (by simp)
        have ea : a = p := q7 rfl
        subst ea
        obtain ⟨m1, dx', vs', m2, m3, m4⟩ := q3
        exact P0 w' dx' vs' H' (s'.lk l'.lk) A' m2 (by rw [← reps_len m4]; exact hl2) q6 q5 m4
      · exact False.elim P0
    · exact False.elim P0
  | rt d ah' => rw [e] at P0; exact False.elim P0
  | bk env ah' => rw [e] at P0; exact False.elim P0
  | ct env ah' => rw [e] at P0; exact False.elim P0
  | bad => rw [e] at P0; exact False.elim P0
  | exc cc l env ah' =>
    rw [e] at P0
    exact fun w' σ d H' l' s' A' E' x' => P0 w' d H' (s'.lk l'.lk) A' x'
end
/-! ### C(..) -/
def cMake (cls : Nat) (F : FI) (n : Nat) (dds : List D) (a : CA) : CE := fun env ah => (a env ah).bind fun l ah1 => if (l ++ dds).length = n then (F (l ++ dds) ah1).bind fun fs ah2 => .ok (.obj cls fs) ah2 else .bad
section
variable {X : Cx} {t : Tb} {W : WX} {w0 : Wd} {H0 : Bs} {xa xb : CE} {ca : CA} {a b e o : Expr} {es : List Expr} {pos : Pos}
def tMakeS (C : Addr) (sp : Sp) (dvs : List V) (E : L2.St → XK) (u : TA) : TE := fun σ H Q => u σ H fun vs H1 => ∀ x dx, H1 x = none → H1 dx = none → dx ≠ x →
  sp (.ref x :: (vs ++ dvs)) (upd (upd H1 dx (.own x)) x (.ins C dx [])) (fun v H2 => v = .non ∧ Q (.ref x) H2) (E σ)
theorem run_makeS {pins : List (Addr × Obj)} {σ : L2.St} {H : Hp} {s : Shared} {Q : VK} {us : List Value} {vs : List V} {C f : Addr} {fd : FuncData} {ps : List Str} {sp : Sp} {dvs : List V} {ds : List Value} {E : XK} {k : Nat} {CX : CXT} (M : Mk X.K C f) (F : FnOk X.prog X.w X.K X.mg X.base CX k f fd ps sp) (hr : Room (k + 1) X.A) (hb : L2.Binds X.K fd ps ds) (hd : Vals dvs ds)
    (hx : PassesAt CX X σ E) (I : L2.Inv X pins σ H s) (r : Vals vs us)
    (h : ∀ x dx, H x = none → H dx = none → dx ≠ x → sp (.ref x :: (vs ++ dvs)) (upd (upd H dx (.own x)) x (.ins C dx [])) (fun v H2 => v = .non ∧ Q (.ref x) H2) E) :
    wpAny (model X.prog X.w) X.A (call (.ref C) us) (EP X pins σ Q) X.xe s := by
  have hq := h (s.heap.objs.size + 1) s.heap.objs.size (I.hok.fresh (Nat.le_succ _)) (I.hok.fresh (Nat.le_refl _)) (Nat.ne_of_lt (Nat.lt_succ_self _))
  have I2 := L2.Inv.made (C := C) I
  have r2 : Vals (V.ref (s.heap.objs.size + 1) :: (vs ++ dvs)) (Value.ref (s.heap.objs.size + 1) :: (us ++ ds)) := .cons rfl (r.append hd)
  have hl : (Value.ref (s.heap.objs.size + 1) :: us ++ ds).length = ps.length := by
    have e := r2.length
    rw [F.len _ _ _ _ hq] at e
    exact e.symm
  refine wpAny_call (make_map (f := f) I.kIn M.makes M.init (beq_iff_eq.mp M.fn) (codeAny_mono (F.run _ X.stack _ _ ⟨Value.ref (s.heap.objs.size + 1) :: us, []⟩ (Value.ref (s.heap.objs.size + 1) :: (us ++ ds)) _ _ E (hr.make C us [])
    (I2.env0.make C us []) (hb _ (Value.ref (s.heap.objs.size + 1) :: us) I2.kIn hl) r2 hq) fun r s' hq' => ?_))
  cases r with
  | error e => exact hx pins _ _ e s' I2 hq'
  | ok fl =>
    cases fl with
    | ret u =>
      obtain ⟨v, H', I3, rv, ev, q3⟩ := I2.after hq'
      subst ev
      exact ⟨rv, ⟨V.ref (s.heap.objs.size + 1), H', I3, rfl, q3⟩⟩
    | next => exact False.elim hq'
    | brk => exact False.elim hq'
    | cont => exact False.elim hq'
theorem pe_makeS {x : Str} {p : Pos} {C f : Addr} {fd : FuncData} {ps : List Str} {sp : Sp} {dvs : List V} {ds : List Value} {E : L2.St → XK} {k : Nat} {CX : CXT} {u : TA} (M : Mk X.K C f) (F : FnOk X.prog X.w X.K X.mg X.base CX k f fd ps sp) (hr : Room (k + 1) X.A) (hg : Gl X x) (hm : X.mg x = some (.ref C)) (hb : L2.Binds X.K fd ps ds) (hd : Vals dvs ds) (hx : ∀ σ, PassesAt CX X σ (E σ))
    (ha : PA X (e :: es) u) (hdb : (x == ("__debug__" : Str)) = false := by decide) (he : starEach (e :: es) X.env = (false, eval e X.env) :: starEach es X.env := by rfl) (hpl : (backTo pos (starEach es X.env)).any (·.1) = false := by rfl) :
    PE X (.Call (.Name x p) (e :: es) [] pos) (tMakeS C sp dvs E u) := by
  refine ⟨fun pins s σ H Q I h => ?_⟩
  refine wpAny_Call_Name_kw (ld_glob I hg hm ?_ hdb)
  refine PySem.W.callWith_K (h₀ := X.base) I.ok.mod.kin M.kp (thn (ha.run pos pins s σ H _ I h) fun us s1 ⟨vs, H1, I1, r, q⟩ => ⟨I1.kIn, ?_⟩) he hpl
  exact run_makeS M F hr hb hd (hx σ) I1 r q
theorem make_read {cls n : Nat} {F : FI} {dds : List D} {dvs : List V} (hd : ∀ w, Reps t w dds dvs) : ∀ σ H Q, tE t W H0 (cMake cls F n dds ca) σ H Q → tMakeS (t.cl cls) (spI t cls F n) dvs (WE W) (tAr t W H0 ca) σ H Q := by
  rintro σ H Q ⟨w, env, ah, A, R, P⟩
  refine ⟨w, env, ah, A, R, post_bind P fun l ah1 w1 vs H1 s1 A1 r1 P1 => ?_⟩
  intro x dx hx hdx hne
  split at P1
  case isFalse => exact False.elim P1
  rename_i hn
  obtain ⟨sa, Aa⟩ := stp_new (o := .own x) A1 hdx
  have hx' : upd H1 dx (.own x) x = none := by rw [upd_ne (Ne.symm hne)]; exact hx
  obtain ⟨sb, Ab⟩ := stp_new (o := .ins (t.cl cls) dx []) Aa hx'
  refine ⟨?_, x, dx, vs ++ dvs, w1, H1, l ++ dds, ah1, rfl, hx, sa.trans sb, Ab, A1.sub.free hx, A1.free hx, upd_same, reps_append r1 (hd w1), ?_⟩
  · rw [List.length_cons, ← hn, List.length_append, List.length_append, reps_len r1, reps_len (hd w1)]
  · cases e : F (l ++ dds) ah1 with
    | bad => rw [e] at P1; exact False.elim P1
    | exc c m ah2 =>
      rw [e] at P1
      exact fun w d H' s A x => P1 w d H' s A x
    | ok fs ah2 =>
      rw [e] at P1
      intro w' dx' vs' H' s' A' h1 h2 h3 h4 h5
      refine ⟨rfl, ?_⟩
      obtain ⟨le, A2⟩ := frz_A A' h1 h3 h4
      refine P1 _ _ _ (frz_S (o := .ins (t.cl cls) dx' ((t.fl cls).zip vs')) s' hx h3) A2 ?_
      simp only [Rep]
      exact ⟨x, dx', vs', rfl, add_at, h2, Reps.mono le _ h5⟩
theorem q_make (cls : Nat) {x : Str} {p : Pos} {f : Addr} {fd : FuncData} {ps : List Str} {F : FI} {n : Nat} {dds : List D} {dvs : List V} {ds : List Value} {k : Nat} (M : Mk X.K (t.cl cls) f) (hF : FnOk X.prog X.w X.K X.mg X.base (L2.CX X.prog X.w) k f fd ps (spI t cls F n)) (hr : Room (k + 1) X.A) (hm : X.mg x = some (.ref (t.cl cls))) (hb : L2.Binds X.K fd ps ds) (hd : Vals dvs ds) (hdd : ∀ w, Reps t w dds dvs) (tk : Takes X W)
    (ha : PA X (e :: es) (tAr t W H0 ca)) (hg : Gl X x := by rfl) (hdb : (x == ("__debug__" : Str)) = false := by decide) (he : starEach (e :: es) X.env = (false, eval e X.env) :: starEach es X.env := by rfl) (hpl : (backTo pos (starEach es X.env)).any (·.1) = false := by rfl) :
    PE X (.Call (.Name x p) (e :: es) [] pos) (tE t W H0 (cMake cls F n dds ca)) := PE.imp (pe_makeS M hF hr hg hm hb hd (fun σ => passAt tk σ) ha hdb he hpl) (make_read hdd)

/-! ### o.m(..) -/
/-- what stands behind a method's name for instances of a class -/
structure MtI (P : Program) (w : World) (K : PySem.W.Frag) (mg : Str → Option Value) (base : Heap) (t : Tb) (k : Nat) (c : Nat) (m : Str) (F : FD) (n : Nat) : Prop where
  cls : Cls K (t.cl c)
  no : flIx (t.fl c) m = none
  ex : ∃ f fd ps, Meth K (t.cl c) m f ∧ FnOk P w K mg base (L2.CX P w) k f fd ps (spD t F n) ∧ L2.Binds K fd ps []
theorem flIx_none {m : Str} : ∀ {ns : List Str} {vs : List V}, flIx ns m = none → (ns.zip vs).lookup m = none
  | [], vs, e => by simp
  | n :: r, [], e => by simp
  | n :: r, v :: vs, e => by
    unfold flIx at e
    by_cases q : n = m
    · rw [if_pos q] at e
      cases e
    · rw [if_neg q] at e
      have e2 : flIx r m = none := by
        cases h : flIx r m with
        | none => rfl
        | some j => rw [h] at e; cases e
      have hb : (m == n) = false := by simpa using fun z => q z.symm
      rw [List.zip_cons_cons, List.lookup_cons, hb]
      exact flIx_none e2
/-- the class of a datum -/
def clsD (ah : AH) : D → Option Nat
  | .obj c _ => some c
  | .ref n => match ah[n]? with
    | some (.ins c _) => some c
    | _ => none
  | _ => none
abbrev MtTab := Nat → Option (FD × Nat)
def cMeth (M : MtTab) (o : CE) (a : CA) : CE := fun env ah => (o env ah).bind fun x ah1 => match (clsD ah1 x).bind M with
  | some (F, n) => (a env ah1).bind fun l ah2 => if l.length + 1 = n then F (x :: l) ah2 else .bad
  | none => .bad
def tMethS (K : PySem.W.Frag) (m : Str) (E : L2.St → XK) (te : TE) (u : TA) : (Nat → Addr → Sp → Prop) → TE := fun ok σ H Q => te σ H fun x H1 => ∃ a C dx fs f sp k, x = .ref a ∧ H1 a = some (.ins C dx fs) ∧ Cls K C ∧ Meth K C m f ∧ ok k f sp ∧ fs.lookup m = none ∧ u σ H1 fun vs H2 => sp (x :: vs) H2 Q (E σ)
theorem pe_methS {pl : Sem Bool} {m : Str} {apos : Pos} {te : TE} {u : TA} {E : L2.St → XK} {CX : CXT} {k : Nat} (he : PE X o te) (hr : Room k X.A) (hx : ∀ σ, PassesAt CX X σ (E σ)) (ha : PA X (e :: es) u)
    (hst : starEach (e :: es) X.env = (false, eval e X.env) :: starEach es X.env := by rfl) (hpl : (backTo pos (starEach es X.env)).any (·.1) = false := by rfl)
    (ht : eval (.Call (.Attribute o m apos) (e :: es) [] pos) X.env = (do
      let ov ← eval o X.env
      standAt apos.atName
      let (f, first) ← holding [ov] (getMethod ov m pl)
      callWith pos f first (backTo pos (starEach (e :: es) X.env)) (backToKw pos (keywordEach [] X.env))) := by rfl) :
    PE X (.Call (.Attribute o m apos) (e :: es) [] pos) (tMethS X.K m E te u fun j f sp => j ≤ k ∧ ∃ fd ps, FnOk X.prog X.w X.K X.mg X.base CX j f fd ps sp ∧ L2.Binds X.K fd ps []) := by
  refine ⟨fun pins s σ H Q I h => ?_⟩
  refine PySem.W.methodCall_KW (pl := pl) (thn (he.run pins s σ H _ I h) fun u s1 ⟨x, H1, I1, rx, a, C, dx, fs, f, sp, j, ex, ea, c, hm, ⟨hj, fd, ps, F, hb⟩, l, q⟩ => ?_) ht
  subst ex
  obtain rfl : u = Value.ref a := rx
  refine getmeth_ok I1 ea c hm l ?_
  refine PySem.W.callWith_K (first := [.ref a]) (h₀ := X.base) I.ok.mod.kin hm.kp (thn (ha.run pos pins s1 σ H1 _ I1 q) fun us s2 ⟨vs, H2, I2, r, q2⟩ => ⟨I2.kIn, ?_⟩) hst hpl
  exact run_fnSD (dvs := []) (ds := []) (us := .ref a :: us) (vs := .ref a :: vs) F (hr.mono hj) hb .nil (hx σ) I2 (.cons rfl r) (by rw [List.append_nil]; exact q2)
theorem pe_methS0 {pl : Sem Bool} {m : Str} {apos : Pos} {te : TE} {E : L2.St → XK} {CX : CXT} {k : Nat} (he : PE X o te) (hr : Room k X.A) (hx : ∀ σ, PassesAt CX X σ (E σ))
    (ht : eval (.Call (.Attribute o m apos) [] [] pos) X.env = (do
      let ov ← eval o X.env
      standAt apos.atName
      let (f, first) ← holding [ov] (getMethod ov m pl)
      callWith pos f first (backTo pos (starEach [] X.env)) (backToKw pos (keywordEach [] X.env))) := by rfl) :
    PE X (.Call (.Attribute o m apos) [] [] pos) (tMethS X.K m E te tNil fun j f sp => j ≤ k ∧ ∃ fd ps, FnOk X.prog X.w X.K X.mg X.base CX j f fd ps sp ∧ L2.Binds X.K fd ps []) := by
  refine ⟨fun pins s σ H Q I h => ?_⟩
  refine PySem.W.methodCall_KW (pl := pl) (thn (he.run pins s σ H _ I h) fun u s1 ⟨x, H1, I1, rx, a, C, dx, fs, f, sp, j, ex, ea, c, hm, ⟨hj, fd, ps, F, hb⟩, l, q⟩ => ?_) ht
  subst ex
  obtain rfl : u = Value.ref a := rx
  refine getmeth_ok I1 ea c hm l ?_
  exact PySem.W.callWith_K0 (first := [.ref a]) I1.kIn hm.kp (run_fnSD (dvs := []) (ds := []) (us := [.ref a]) (vs := [.ref a]) F (hr.mono hj) hb .nil (hx σ) I1 (.cons rfl .nil) (by rw [List.append_nil]; exact q))
theorem meth_read {M : MtTab} {m : Str} {k : Nat} (hM : ∀ c F n, M c = some (F, n) → ∃ j, j ≤ k ∧ MtI X.prog X.w X.K X.mg X.base t j c m F n) (hK : t.K = X.K) {u : TA} (hu : ∀ σ H Q, tAr t W H0 ca σ H Q → u σ H Q) :
    ∀ σ H Q, tE t W H0 (cMeth M xa ca) σ H Q → tMethS X.K m (WE W) (tE t W H0 xa) u (fun j f sp => j ≤ k ∧ ∃ fd ps, FnOk X.prog X.w X.K X.mg X.base (L2.CX X.prog X.w) j f fd ps sp ∧ L2.Binds X.K fd ps []) σ H Q := by
  rintro σ H Q ⟨w, env, ah, A, R, P⟩
  refine ⟨w, env, ah, A, R, post_bind P fun x ah1 w1 v H1 s1 A1 r1 P1 => ?_⟩
  cases hc : clsD ah1 x with
  | none => rw [hc] at P1; exact False.elim P1
  | some c =>
    rw [hc, Option.bind_some] at P1
    cases hF : M c with
    | none => rw [hF] at P1; exact False.elim P1
    | some Fn =>
      obtain ⟨F, n⟩ := Fn
      rw [hF] at P1
      obtain ⟨j, hj, I⟩ := hM c F n hF
      obtain ⟨f, fd, ps, hm, hFn, hb⟩ := I.ex
      have inst : ∃ a dx vs, v = .ref a ∧ H1 a = some (.ins (t.cl c) dx ((t.fl c).zip vs)) := by
        cases x <;> simp only [clsD, reduceCtorEq] at hc
        · cases hc
          simp only [Rep] at r1
          obtain ⟨p, dx, vs, rfl, h1, _⟩ := r1
          exact ⟨p, dx, vs, rfl, A1.sub _ _ h1⟩
        · rename_i q
          simp only [Rep] at r1
          obtain ⟨p, rfl, h1⟩ := r1
          split at hc
          · rename_i c' l' hq
            cases hc
            obtain ⟨_, dx, vs, h2, _⟩ := A1.obj _ _ p hq h1
            exact ⟨p, dx, vs, rfl, h2⟩
          · cases hc
      obtain ⟨a, dx, vs, rfl, ha⟩ := inst
      refine ⟨a, t.cl c, dx, _, f, spD t F n, j, rfl, ha, I.cls, hm, ⟨hj, fd, ps, hFn, hb⟩, flIx_none I.no, hu _ _ _ ⟨w1, env, ah1, A1, R.step s1, post_bind P1 fun l ah2 w2 us H2 s2 A2 r2 P2 => ?_⟩⟩
      split at P2
      · rename_i hn
        refine ⟨?_, w2, x :: l, ah2, A2, ?_, P2⟩
        · rw [List.length_cons, ← reps_len r2, hn]
        · simp only [Reps]
          exact ⟨_, us, rfl, Rep.mono s2.le x r1, r2⟩
      · exact False.elim P2
theorem q_meth {M : MtTab} {pl : Sem Bool} {m : Str} {apos : Pos} {k : Nat} (hM : ∀ c F n, M c = some (F, n) → ∃ j, j ≤ k ∧ MtI X.prog X.w X.K X.mg X.base t j c m F n) (hr : Room k X.A) (tk : Takes X W) (ho : PE X o (tE t W H0 xa)) (ha : PA X (e :: es) (tAr t W H0 ca)) (hK : t.K = X.K := by rfl)
    (hst : starEach (e :: es) X.env = (false, eval e X.env) :: starEach es X.env := by rfl) (hpl : (backTo pos (starEach es X.env)).any (·.1) = false := by rfl)
    (ht : eval (.Call (.Attribute o m apos) (e :: es) [] pos) X.env = (do
      let ov ← eval o X.env
      standAt apos.atName
      let (f, first) ← holding [ov] (getMethod ov m pl)
      callWith pos f first (backTo pos (starEach (e :: es) X.env)) (backToKw pos (keywordEach [] X.env))) := by rfl) :
    PE X (.Call (.Attribute o m apos) (e :: es) [] pos) (tE t W H0 (cMeth M xa ca)) := PE.imp (pe_methS (pl := pl) ho hr (fun σ => passAt tk σ) ha hst hpl ht) (meth_read hM hK fun _ _ _ h => h)
theorem q_meth0 {M : MtTab} {pl : Sem Bool} {m : Str} {apos : Pos} {k : Nat} (hM : ∀ c F n, M c = some (F, n) → ∃ j, j ≤ k ∧ MtI X.prog X.w X.K X.mg X.base t j c m F n) (hr : Room k X.A) (tk : Takes X W) (ho : PE X o (tE t W H0 xa)) (hK : t.K = X.K := by rfl)
    (ht : eval (.Call (.Attribute o m apos) [] [] pos) X.env = (do
      let ov ← eval o X.env
      standAt apos.atName
      let (f, first) ← holding [ov] (getMethod ov m pl)
      callWith pos f first (backTo pos (starEach [] X.env)) (backToKw pos (keywordEach [] X.env))) := by rfl) :
    PE X (.Call (.Attribute o m apos) [] [] pos) (tE t W H0 (cMeth M xa cNil)) := PE.imp (pe_methS0 (pl := pl) ho hr (fun σ => passAt tk σ) ht) (meth_read hM hK nil_read)
end
end G
/-! The engine, part 9: what a slot owns: fields of the instance that is made, lists. -/
namespace G
open PySem PySem.Spec PyProof.Rows L2

section
variable {X : Cx} {t : Tb} {W : WX} {w0 : Wd} {H0 : Bs} {xa xb : CE} {ca : CA} {a b e o : Expr} {es : List Expr} {pos : Pos} {st : Stmt} {c1 : CS}
/-- what slot i owns is changed -/
theorem own_upd {w : Wd} {ah : AH} {env : En} {σ : L2.St} {H : Hp} {i : Nat} {o o' : MO} {p : Addr} {ob : HO} (s : StpQ w0 H0.H w H) (A : RelA t w ah H) (E : RelE t H0 w env σ H) (he : env[i]? = some (.own o)) (hσ : σ[i]? = some (some (.ref p)))
    (hn : MOk t w o' (upd H p ob) p) (hi : o'.isIns = true → o.isIns = true) : StpQ w0 H0.H w (upd H p ob) ∧ RelA t w ah (upd H p ob) ∧ RelE t H0 w (env.set i (.own o')) σ (upd H p ob) := by
  obtain ⟨a, ob0, q1, q2, q3, q4, q5, q6, q7⟩ := E.slot i _ he
  rw [hσ] at q1
  cases q1
  have hil : i < env.length := (List.getElem?_eq_some_iff.mp he).1
  refine ⟨stp_updQ s q4, upd_free A q6 q5, ⟨by rw [List.length_set, E.len], fun j sl ej => ?_, fun j k o1 o2 a hjk e1 e2 e3 e4 => ?_⟩⟩
  · by_cases h : i = j
    · subst h
      rw [List.getElem?_set_self hil] at ej
      cases ej
      exact ⟨p, ob, hσ, upd_same, hn, q4, q5, q6, fun z => q7 (hi z)⟩
    · rw [List.getElem?_set_ne h] at ej
      have z := E.slot j sl ej
      cases sl with
      | no => trivial
      | val d => exact z
      | own o2 =>
        obtain ⟨a2, ob2, r1, r2, r3, r4, r5, r6, r7⟩ := z
        have ne : a2 ≠ p := fun q => E.dist i j o o2 p h he ej hσ (by rw [r1, q])
        exact ⟨a2, ob2, r1, by rw [upd_ne ne]; exact r2, r3.step (Wle.refl _) (fun h => h) (fun ob h => by rw [upd_ne ne]; exact h), r4, r5, r6, r7⟩
  · have old : ∀ (j : Nat) (o1 : MO), (env.set i (Sl.own o'))[j]? = some (Sl.own o1) → ∃ o3 : MO, env[j]? = some (Sl.own o3) := fun j o1 e => by
      by_cases h : i = j
      · subst h
        exact ⟨o, he⟩
      · rw [List.getElem?_set_ne h] at e
        exact ⟨o1, e⟩
    obtain ⟨o3, h3⟩ := old j o1 e1
    obtain ⟨o4, h4⟩ := old k o2 e2
    exact E.dist j k o3 o4 a hjk h3 h4 e3 e4

/-! ### self.f = e -/
theorem putF_set {f : Str} {y : V} : ∀ {ns : List Str} {vs : List V} {j : Nat}, flIx ns f = some j → j < vs.length → putF f y (ns.zip vs) = ns.zip (vs.set j y)
  | [], vs, j, e, h => by cases e
  | n :: r, [], j, e, h => by simp at h
  | n :: r, v :: vs, j, e, h => by
    unfold flIx at e
    rw [List.zip_cons_cons]
    unfold putF
    by_cases q : n = f
    · rw [if_pos q] at e ⊢
      cases e
      rfl
    · rw [if_neg q] at e ⊢
      cases e2 : flIx r f with
      | none => rw [e2] at e; cases e
      | some k =>
        rw [e2] at e
        cases e
        rw [List.set_cons_succ, List.zip_cons_cons, putF_set e2 (by simpa using h)]
theorem putF_app {f : Str} {y : V} : ∀ {ns : List Str} {vs : List V}, flIx ns f = some vs.length → putF f y (ns.zip vs) = ns.zip (vs ++ [y])
  | [], vs, e => by cases e
  | n :: r, [], e => by
    unfold flIx at e
    by_cases q : n = f
    · rw [q]
      show putF f y [] = (f :: r).zip [y]
      rw [List.zip_cons_cons, List.zip_nil_right]
      rfl
    · rw [if_neg q] at e
      cases e2 : flIx r f with
      | none => rw [e2] at e; cases e
      | some k => rw [e2] at e; cases e
  | n :: r, v :: vs, e => by
    unfold flIx at e
    rw [List.zip_cons_cons]
    unfold putF
    by_cases q : n = f
    · rw [if_pos q] at e
      cases e
    · rw [if_neg q] at e ⊢
      cases e2 : flIx r f with
      | none => rw [e2] at e; cases e
      | some k =>
        rw [e2] at e
        cases e
        rw [List.cons_append, List.zip_cons_cons, putF_app e2]
theorem flIx_lt {f : Str} : ∀ {ns : List Str} {j : Nat}, flIx ns f = some j → j < ns.length
  | [], j, e => by cases e
  | n :: r, j, e => by
    unfold flIx at e
    by_cases q : n = f
    · rw [if_pos q] at e
      cases e
      simp
    · rw [if_neg q] at e
      cases e2 : flIx r f with
      | none => rw [e2] at e; cases e
      | some k =>
        rw [e2] at e
        cases e
        have := flIx_lt e2
        rw [List.length_cons]
        exact Nat.succ_lt_succ this
/-- the fields with one set -/
def putD (ns : List Str) (f : Str) (d : D) (l : List D) : Option (List D) := match flIx ns f with
  | some j => if j < l.length then some (l.set j d) else if j = l.length then some (l ++ [d]) else none
  | none => none
theorem putD_rep {w : Wd} {ns : List Str} {f : Str} {d : D} {v : V} {l l' : List D} {vs : List V} (r : Reps t w l vs) (rd : Rep t w d v) (hl : vs.length ≤ ns.length) (e : putD ns f d l = some l') : ∃ vs', putF f v (ns.zip vs) = ns.zip vs' ∧ vs'.length ≤ ns.length ∧ Reps t w l' vs' := by
  unfold putD at e
  cases h : flIx ns f with
  | none => rw [h] at e; cases e
  | some j =>
    rw [h] at e
    simp only at e
    have e1 := reps_len r
    split at e
    · rename_i hj
      cases e
      exact ⟨vs.set j v, putF_set h (by omega), by rw [List.length_set]; exact hl, reps_set rd j r⟩
    · split at e
      · rename_i hj
        cases e
        have hlt := flIx_lt h
        refine ⟨vs ++ [v], putF_app (by rw [h, ← e1, ← hj]), by rw [List.length_append, List.length_singleton]; omega, reps_append r (reps_one rd)⟩
      · cases e
def cSetF (fl : Nat → List Str) (i : Nat) (f : Str) (c : CE) : CS := fun env ah => SRes.of env (c env ah) fun d ah1 => match env[i]? with
  | some (.own (.ins k l)) => match putD (fl k) f d l with
    | some l' => .nx (env.set i (.own (.ins k l'))) ah1
    | none => .bad
  | some (.val (.ref n)) => match ah1[n]? with
    | some (.ins k l) => match putD (fl k) f d l with
      | some l' => .nx env (ah1.set n (.ins k l'))
      | none => .bad
    | _ => .bad
  | _ => .bad
/-- an object of the store is changed -/
theorem ref_upd {w : Wd} {ah : AH} {env : En} {σ : L2.St} {H : Hp} {n : Nat} {o o' : MO} {p : Addr} {ob : HO} (s : StpQ w0 H0.H w H) (A : RelA t w ah H) (E : RelE t H0 w env σ H) (he : ah[n]? = some o) (hρ : w.ρ[n]? = some p) (hf : w.Hf p = none) (hold : p ∈ w0.ρ ∨ H0.H p = none) (hL : w.Lk p = none)
    (hn : MOk t w o' (upd H p ob) p) : StpQ w0 H0.H w (upd H p ob) ∧ RelA t w (ah.set n o') (upd H p ob) ∧ RelE t H0 w env σ (upd H p ob) := by
  have hm : p ∈ w.ρ := List.mem_of_getElem? hρ
  refine ⟨⟨s.le, fun a u h1 h2 => ?_, fun a u h2 => ?_, s.newR, s.newF⟩, ⟨fun a u h => ?_, by rw [List.length_set]; exact A.len, A.nd, fun a h => ?_, fun m u a e1 e2 => ?_, fun a o2 h => ⟨by rw [upd_ne (fun z => by rw [z, hL] at h; cases h)]; exact (A.lks a o2 h).1, (A.lks a o2 h).2⟩⟩, ⟨E.len, fun j sl ej => ?_, E.dist⟩⟩
  · have ne : a ≠ p := fun z => by
      rcases hold with q | q
      · exact h1 (by rw [z]; exact q)
      · rw [z, q] at h2; cases h2
    rw [upd_ne ne]
    exact s.fr a u h1 h2
  · by_cases z : a = p
    · exact ⟨ob, by rw [z]; exact upd_same⟩
    · rw [upd_ne z]
      exact s.there a u h2
  · rw [upd_ne (fun z => by rw [z, hf] at h; cases h)]
    exact A.sub a u h
  · by_cases z : a = p
    · exact ⟨ob, by rw [z]; exact upd_same⟩
    · rw [upd_ne z]
      exact A.live a h
  · by_cases h : n = m
    · subst h
      rw [hρ] at e2
      cases e2
      have hlt : n < ah.length := (List.getElem?_eq_some_iff.mp he).1
      rw [List.getElem?_set_self hlt] at e1
      cases e1
      exact hn
    · rw [List.getElem?_set_ne h] at e1
      have ne : a ≠ p := fun z => by
        subst z
        obtain ⟨h1, e3⟩ := List.getElem?_eq_some_iff.mp hρ
        obtain ⟨h2, e4⟩ := List.getElem?_eq_some_iff.mp e2
        exact h ((List.getElem_inj A.nd).mp (e3.trans e4.symm))
      exact (A.obj m u a e1 e2).step (Wle.refl _) (fun h => h) fun ob h => by rw [upd_ne ne]; exact h
  · have z := E.slot j sl ej
    cases sl with
    | no => trivial
    | val d => exact z
    | own o2 =>
      obtain ⟨a2, ob2, r1, r2, r3, r4, r5, r6, r7⟩ := z
      have ne : a2 ≠ p := fun q => r5 (by rw [q]; exact hm)
      exact ⟨a2, ob2, r1, by rw [upd_ne ne]; exact r2, r3.step (Wle.refl _) (fun h => h) (fun ob h => by rw [upd_ne ne]; exact h), r4, r5, r6, r7⟩
/-- what is seen is not locked -/
theorem nolk {w : Wd} {ah : AH} {H : Hp} {p : Addr} {ob : HO} (A : RelA t w ah H) (h : H p = some ob) (nf : ∀ od u, ob ≠ .frz od u) : w.Lk p = none := by
  cases q : w.Lk p with
  | none => rfl
  | some o =>
    obtain ⟨h1, _, od, u, rfl⟩ := A.lks p o q
    rw [h] at h1
    cases h1
    exact absurd rfl (nf od u)
theorem old_or {w : Wd} {H : Hp} {p : Addr} (s : StpQ w0 H0.H w H) (h : p ∈ w.ρ) : p ∈ w0.ρ ∨ H0.H p = none := s.newR p h
theorem z_fld (i : Nat) {f x : Str} {p1 p2 : Pos} (hf : FldOk t f) (hfl : ∀ c, (t.fl c).length < 1000) (hv : PE X a (tE t W H0 xa)) (hK : t.K = X.K := by rfl) (hN : X.N[i]? = some x := by rfl) (hvis : Vis X.env.scope x := by first | exact Or.inl rfl | exact Or.inr (Or.inl rfl) | exact Or.inr (Or.inr rfl)) (hd : (x == ("__debug__" : Str)) = false := by decide)
    (hcd : (x == ("__classdict__" : Str)) = false := by decide) (hs : swapsWith a (some (.Attribute (.Name x p1) f p2)) pos.line X.env = pure false := by rfl) : PS X (.Assign [.Attribute (.Name x p1) f p2] a pos) (tS t W w0 H0 (cSetF t.fl i f xa)) := by
  refine PS.imp (ps_fld (pv i hN hvis hd hcd) hv hs) ?_
  rintro Dn σ H ⟨w, env, ah, s, A, E, P⟩
  refine ⟨w, env, ah, A, E, post_of s E P fun d ah1 w1 v H1 s1 s01 A1 E1 r1 P1 => ?_⟩
  show ∃ u, σ[i]? = some (some u) ∧ _
  split at P1
  · rename_i k l he
    obtain ⟨p, ob, q1, q2, q3, q4, q5, q6, q7⟩ := E1.slot i _ he
    obtain ⟨m1, dx, vs, m2, m3, m4⟩ := q3
    split at P1
    · rename_i l' hl'
      obtain ⟨vs', g1, g2, g3⟩ := putD_rep m4 r1 m3 hl'
      obtain ⟨z1, z2, z3⟩ := own_upd (o' := .ins k l') (ob := .ins (t.cl k) dx (putF f v ((t.fl k).zip vs))) s01 A1 E1 he q1 ⟨m1, dx, vs', by rw [upd_same, g1], g2, g3⟩ (fun _ => rfl)
      have hj : ∃ j, flIx (t.fl k) f = some j := by
        unfold putD at hl'
        cases h : flIx (t.fl k) f with
        | none => rw [h] at hl'; cases hl'
        | some j => exact ⟨j, rfl⟩
      obtain ⟨j, hj⟩ := hj
      rw [← hK]
      refine ⟨.ref p, q1, p, t.cl k, dx, _, rfl, m2, (hf k j hj).1, (hf k j hj).2, ?_, P1 w1 σ _ (Wle.refl _) z1 z2 z3⟩
      have := hfl k
      rw [List.length_zip]
      omega
    · exact False.elim P1
  · rename_i n he
    obtain ⟨u, q1, q2⟩ := E1.slot i _ he
    simp only [Rep] at q2
    obtain ⟨p, rfl, hρ⟩ := q2
    split at P1
    · rename_i k l hn
      obtain ⟨m1, dx, vs, m2, m3, m4⟩ := A1.obj n _ p hn hρ
      split at P1
      · rename_i l' hl'
        obtain ⟨vs', g1, g2, g3⟩ := putD_rep m4 r1 m3 hl'
        obtain ⟨z1, z2, z3⟩ := ref_upd (o' := .ins k l') (ob := .ins (t.cl k) dx (putF f v ((t.fl k).zip vs))) s01 A1 E1 hn hρ m1 (old_or s01 (List.mem_of_getElem? hρ)) (nolk A1 m2 fun _ _ z => nomatch z) ⟨m1, dx, vs', by rw [upd_same, g1], g2, g3⟩
        have hj : ∃ j, flIx (t.fl k) f = some j := by
          unfold putD at hl'
          cases h : flIx (t.fl k) f with
          | none => rw [h] at hl'; cases hl'
          | some j => exact ⟨j, rfl⟩
        obtain ⟨j, hj⟩ := hj
        rw [← hK]
        refine ⟨.ref p, q1, p, t.cl k, dx, _, rfl, m2, (hf k j hj).1, (hf k j hj).2, ?_, P1 w1 σ _ (Wle.refl _) z1 z2 z3⟩
        have := hfl k
        rw [List.length_zip]
        omega
      · exact False.elim P1
    · exact False.elim P1
  · exact False.elim P1

/-! ### lists of a slot -/
/-- x = [..], the list the slot's own -/
def cNewL (i : Nat) (c : CA) : CS := fun env ah => SRes.of env (c env ah) fun l ah1 => if l.length ≤ 1000 then .nx (env.set i (.own (.lst l))) ah1 else .bad
theorem relE_own {w : Wd} {ah : AH} {env : En} {σ : L2.St} {H : Hp} {i : Nat} {o : MO} {p : Addr} {ob : HO} (s : StpQ w0 H0.H w H) (A : RelA t w ah H) (E : RelE t H0 w env σ H) (hp : H p = none) (hn : MOk t w o (upd H p ob) p) (hi : o.isIns = false) :
    StpQ w0 H0.H w (upd H p ob) ∧ RelA t w ah (upd H p ob) ∧ RelE t H0 w (env.set i (.own o)) (σ.set i (some (.ref p))) (upd H p ob) := by
  obtain ⟨s1, A1⟩ := stp_new (o := ob) A hp
  have h0 : H0.H p = none := by
    cases q : H0.H p with
    | none => rfl
    | some u =>
      obtain ⟨u', e⟩ := s.there p u q
      rw [hp] at e
      cases e
  refine ⟨s.trans s1, A1, relE_set (E.step s1) ⟨p, ob, rfl, upd_same, hn, h0, A.free hp, A.sub.free hp, fun z => ?_⟩ fun o2 j p2 a e hij e1 e2 q => ?_⟩
  · rw [hi] at z
    cases z
  · cases q
    obtain ⟨a3, ob3, r1, r2, _⟩ := E.slot j _ e1
    rw [e2] at r1
    cases r1
    rw [hp] at r2
    cases r2
theorem z_newL (i : Nat) {x : Str} {pos' p2 : Pos} (hN : X.N.Nodup) (ha : PA X es (tAr t W H0 ca)) (hi : X.N[i]? = some x := by rfl) (hx : Loc X.env.scope x := by first | exact Or.inl rfl | exact Or.inr rfl) (hs : swapsWith (.List es p2) (some (.Name x pos')) pos.line X.env = pure false := by rfl) (hf : X.fn x = true ∨ X.env.scope.names.lookup x = some .local := by first | exact .inl rfl | exact .inr rfl | assumption) :
    PS X (.Assign [.Name x pos'] (.List es p2) pos) (tS t W w0 H0 (cNewL i ca)) := by
  refine PS.imp (ps_set hN hi hx (pe_lst ha) hs hf) ?_
  rintro Dn σ H ⟨w, env, ah, s, A, E, P⟩
  refine ⟨w, env, ah, A, E, post_of s E P fun l ah1 w1 vs H1 s1 s01 A1 E1 r1 P1 => ?_⟩
  split at P1
  · rename_i hz
    refine ⟨le_line (by rw [← reps_len r1]; exact hz), fun p hp => ?_⟩
    obtain ⟨z1, z2, z3⟩ := relE_own (i := i) (o := .lst l) (ob := .lst vs) s01 A1 E1 hp ⟨A1.sub.free hp, vs, upd_same, r1⟩ rfl
    exact P1 w1 _ _ (Wle.refl _) z1 z2 z3
  · exact False.elim P1
def cApp (i : Nat) (c : CE) : CS := fun env ah => match env[i]? with
  | some (.own (.lst l)) => SRes.of env (c env ah) fun d ah1 => if l.length < 10000000 then .nx (env.set i (.own (.lst (l ++ [d])))) ah1 else .bad
  | _ => .bad
theorem lt_line {n : Nat} (h : n < 10000000) : n < sizeLine := Nat.lt_trans h (by decide)
theorem z_app (i : Nat) {x : Str} {p1 p2 p3 : Pos} (ha : PE X a (tE t W H0 xa)) (hN : X.N[i]? = some x := by rfl) (hvis : Vis X.env.scope x := by first | exact Or.inl rfl | exact Or.inr (Or.inl rfl) | exact Or.inr (Or.inr rfl)) (hd : (x == ("__debug__" : Str)) = false := by decide)
    (hcd : (x == ("__classdict__" : Str)) = false := by decide) (hbase : attributeBase (.Name x p1) "append" X.env (eval (.Name x p1) X.env) = eval (.Name x p1) X.env := by rfl)
    (hfew : ((backTo p3 (starEach (a :: []) X.env)).all (fun x => !x.1) && (backToKw p3 (keywordEach [] X.env)).all (fun x => x.1.isSome)
      && decide ((a :: []).length + ([] : List Keyword).length + (if ([] : List Keyword).isEmpty then 0 else 1) < 30)) = true := by rfl) (hline : (p2.endLine == p3.line) = true := by rfl) (hs : starEach (a :: []) X.env = (false, eval a X.env) :: starEach [] X.env := by rfl)
    (hsw : swapsWith (.Call (.Attribute (.Name x p1) "append" p2) [a] [] p3) none pos.line X.env = pure false := by rfl) :
    PS X (.Expr (.Call (.Attribute (.Name x p1) "append" p2) [a] [] p3) pos) (tS t W w0 H0 (cApp i xa)) := by
  refine PS.imp (ps_expr (pe_bm PySem.F.plainAttrs_list PySem.F.slot_list_append PySem.F.type_list_append mt_append (pv i hN hvis hd hcd) (pa_cons ha pa_nil hs) hbase hfew hline hs (by rfl)) hsw) ?_
  rintro Dn σ H ⟨w, env, ah, s, A, E, P⟩
  unfold cApp at P
  split at P
  case h_2 => exact False.elim P
  rename_i l he
  obtain ⟨p, ob, q1, q2, q3, q4, q5, q6, q7⟩ := E.slot i _ he
  obtain ⟨m1, vs, m2, m3⟩ := q3
  refine ⟨.ref p, q1, .inl ⟨rfl, vs, SqL.of m2⟩, w, env, ah, A, E, post_of s E P fun d ah1 w1 v H1 s1 s01 A1 E1 r1 P1 => ?_⟩
  obtain ⟨n1, n2, n3⟩ := stay_at s1 m2 m1 q5
  split at P1
  · rename_i hz
    have m3' := Reps.mono s1.le l m3
    have hlen := reps_len m3'
    obtain ⟨z1, z2, z3⟩ := own_upd (o' := .lst (l ++ [d])) (ob := .lst (vs ++ [v])) s01 A1 E1 he q1 ⟨n2, _, upd_same, reps_append m3' (reps_one r1)⟩ (fun z => z)
    exact ⟨p, vs, v, rfl, rfl, n1, lt_line (by rw [← hlen]; exact hz), P1 w1 σ _ (Wle.refl _) z1 z2 z3⟩
  · exact False.elim P1
/-- x[k] = e, x the slot's own list -/
def cSetI (i : Nat) (c k : CE) : CS := fun env ah => match env[i]? with
  | some (.own (.lst l)) => SRes.of env (c env ah) fun d ah1 => SRes.of env (k env ah1) fun x ah2 => match x with
    | .int n => match ixN l.length n with
      | some j => .nx (env.set i (.own (.lst (l.set j d)))) ah2
      | none => .bad
    | _ => .bad
  | _ => .bad
theorem z_setI (i : Nat) {x : Str} {p1 p2 : Pos} {kx : CE} {ke : Expr} (ha : PE X a (tE t W H0 xa)) (hk : PE X ke (tE t W H0 kx)) (hN : X.N[i]? = some x := by rfl) (hvis : Vis X.env.scope x := by first | exact Or.inl rfl | exact Or.inr (Or.inl rfl) | exact Or.inr (Or.inr rfl)) (hd : (x == ("__debug__" : Str)) = false := by decide)
    (hcd : (x == ("__classdict__" : Str)) = false := by decide)
    (hasg : ∀ v, assign (.Subscript (.Name x p1) ke p2) X.env v = (do
      let ov ← holding [v] (eval (.Name x p1) X.env)
      let iv ← holding [v, ov] (eval ke X.env)
      standAt p2
      holding [v, ov, iv] (setItem ov iv v)
      release [v, ov, iv] []) := by intro _; rfl)
    (hs : swapsWithSole [.Subscript (.Name x p1) ke p2] a pos.line X.env = pure false := by rfl) (hw : swappedStores [.Subscript (.Name x p1) ke p2] a X.env = pure none := by rfl)
    (h1 : (assignEach [.Subscript (.Name x p1) ke p2] X.env).map (·.2) = [assign (.Subscript (.Name x p1) ke p2) X.env] := by rfl) :
    PS X (.Assign [.Subscript (.Name x p1) ke p2] a pos) (tS t W w0 H0 (cSetI i xa kx)) := by
  refine PS.imp (ps_asg ha (pg_sub (pv i hN hvis hd hcd) hk set_list hasg) hs hw h1) ?_
  rintro Dn σ H ⟨w, env, ah, s, A, E, P⟩
  unfold cSetI at P
  split at P
  case h_2 => exact False.elim P
  rename_i l he
  refine ⟨w, env, ah, A, E, post_of s E P fun d ah1 w1 v H1 s1 s01 A1 E1 r1 P1 => ?_⟩
  obtain ⟨p, ob, q1, q2, q3, q4, q5, q6, q7⟩ := E1.slot i _ he
  obtain ⟨m1, vs, m2, m3⟩ := q3
  refine ⟨.ref p, q1, w1, env, ah1, A1, E1, post_of s01 E1 P1 fun kd ah2 w2 kv H2 s2 s02 A2 E2 r2 P2 => ?_⟩
  obtain ⟨n1, n2, n3⟩ := stay_at s2 m2 m1 q5
  split at P2
  case h_2 => exact False.elim P2
  rename_i n
  simp only [Rep] at r2
  split at P2
  case h_2 => exact False.elim P2
  rename_i j hj
  have m3' := Reps.mono s2.le l m3
  obtain ⟨z1, z2, z3⟩ := own_upd (o' := .lst (l.set j d)) (ob := .lst (vs.set j v)) s02 A2 E2 he q1 ⟨n2, _, upd_same, reps_set (Rep.mono s2.le d r1) j m3'⟩ (fun z => z)
  exact ⟨p, vs, n, j, rfl, r2, n1, by rw [← reps_len m3']; exact hj, P2 w2 σ _ (Wle.refl _) z1 z2 z3⟩
/-- what slot i owns is frozen -/
def frzE (i : Nat) (env : En) : En := match env[i]? with
  | some (.own (.lst l)) => env.set i (.val (.lst l))
  | _ => env
theorem frz_ok {w : Wd} {ah : AH} {env : En} {σ : L2.St} {H : Hp} (i : Nat) (s : StpQ w0 H0.H w H) (A : RelA t w ah H) (E : RelE t H0 w env σ H) : ∃ w', Wle w w' ∧ StpQ w0 H0.H w' H ∧ RelA t w' ah H ∧ RelE t H0 w' (frzE i env) σ H := by
  have key : ∀ (o : MO) (d : D) (p : Addr) (ob : HO), env[i]? = some (.own o) → σ[i]? = some (some (.ref p)) → H p = some ob → H0.H p = none → p ∉ w.ρ → w.Hf p = none → (∀ w', Wle w w' → w'.Hf p = some ob → Rep t w' d (.ref p)) →
      ∃ w', Wle w w' ∧ StpQ w0 H0.H w' H ∧ RelA t w' ah H ∧ RelE t H0 w' (env.set i (.val d)) σ H := fun o d p ob he hσ hH h0 hr hf hrep => by
    obtain ⟨le, A'⟩ := frz_A A hH hf hr
    have hil : i < env.length := (List.getElem?_eq_some_iff.mp he).1
    refine ⟨w.add p ob, le, frz_SQ s h0 hf, A', ⟨by rw [List.length_set, E.len], fun j sl ej => ?_, fun j k o1 o2 a hjk e1 e2 e3 e4 => ?_⟩⟩
    · by_cases h : i = j
      · subst h
        rw [List.getElem?_set_self hil] at ej
        cases ej
        exact ⟨.ref p, hσ, hrep _ le add_at⟩
      · rw [List.getElem?_set_ne h] at ej
        have z := E.slot j sl ej
        cases sl with
        | no => trivial
        | val d =>
          obtain ⟨v, z1, z2⟩ := z
          exact ⟨v, z1, Rep.mono le d z2⟩
        | own o2 =>
          obtain ⟨a2, ob2, r1, r2, r3, r4, r5, r6, r7⟩ := z
          have ne : a2 ≠ p := fun q => E.dist i j o o2 p h he ej hσ (by rw [r1, q])
          have hf2 : (w.add p ob).Hf a2 = none := by
            show upd w.Hf p ob a2 = none
            rw [upd_ne ne]
            exact r6
          exact ⟨a2, ob2, r1, r2, r3.step le (fun _ => hf2) (fun ob h => h), r4, r5, hf2, r7⟩
    · have hj : i ≠ j := fun z => by
        rw [← z, List.getElem?_set_self hil] at e1
        cases e1
      have hk : i ≠ k := fun z => by
        rw [← z, List.getElem?_set_self hil] at e2
        cases e2
      rw [List.getElem?_set_ne hj] at e1
      rw [List.getElem?_set_ne hk] at e2
      exact E.dist j k o1 o2 a hjk e1 e2 e3 e4
  unfold frzE
  split
  · rename_i l he
    obtain ⟨p, ob, q1, q2, q3, q4, q5, q6, q7⟩ := E.slot i _ he
    obtain ⟨m1, vs, m2, m3⟩ := q3
    refine key (.lst l) (.lst l) p (.lst vs) he q1 m2 q4 q5 q6 fun w' le h => ?_
    simp only [Rep]
    exact ⟨p, vs, rfl, h, Reps.mono le l m3⟩
  · exact ⟨w, Wle.refl w, s, A, E⟩
def cFrz (i : Nat) (c : CS) : CS := fun env ah => c (frzE i env) ah
theorem z_frz (i : Nat) (h : PS X st (tS t W w0 H0 c1)) : PS X st (tS t W w0 H0 (cFrz i c1)) := by
  refine PS.imp h ?_
  rintro Dn σ H ⟨w, env, ah, s, A, E, P⟩
  obtain ⟨w', le, s', A', E'⟩ := frz_ok i s A E
  exact ⟨w', frzE i env, ah, s', A', E', PostS.up P le⟩

/-! ### methods of lists: count, index, over plain data -/
def cBM (f : AH → D → List D → Option D) (o : CE) (a : CA) : CE := fun env ah => (o env ah).bind fun x ah1 => (a env ah1).bind fun l ah2 => ofO (f ah2 x l) ah2
theorem mt_countD (hu : X.A.units + 65 < cLine) : MtR X "list.count" (fun x xs H Q => ∃ (a : Addr) (y : V) (d : PyData) (ds : List PyData), x = V.ref a ∧ xs = [y] ∧ Dp X.K H (V.ref a) (.list ds) ∧ Dp X.K H y d ∧ SeqAt.shaped (.list ds) = true ∧ SeqAt.shaped d = true ∧ Q (.int ((ds.countP fun z => PyData.eqv z d : Nat) : Int)) H) := by
  intro pins s σ H x xs v us Q I rx rxs h
  obtain ⟨a, y, d, ds, rfl, rfl, hl, hy, sl, sd, q⟩ := h
  cases rx
  cases rxs with
  | cons ry rt =>
    rename_i uy ut
    cases rt
    obtain ⟨bs, r1⟩ := Dp.reads I d y uy hy ry
    have hxs : PyData.canLayAll0 ds = true := SeqAt.canLay_of_shaped sl
    have hroom : X.A.units + 1 + min (PyData.depthAll ds) d.depth < cLine := room_in_shaped sd hu
    cases hl with
    | lst hs ha =>
      obtain ⟨its, rv, ⟨⟨cls, dd, data, sls⟩, n, ho, hc, hdn, hdt⟩, hlen⟩ := I.list hs
      simp only at hc hdt
      subst hc hdt
      obtain ⟨as, h4⟩ := Dp.readsAll I ds _ its ha rv
      have hmap : its.map (SeqAt.readOf s.heap) = ds := SeqAt.readsAll_map ds its as hxs h4
      refine call_meets PySem.F.slot_list_count ⟨_, ho, rfl⟩ PySem.F.entry_list_count (PySem.F.args_list_count_2 _ _)
        (SeqAt.list_countAt a its.toArray n dd sls uy (fun u => PyData.eqv (SeqAt.readOf s.heap u) d)) ⟨ho, SeqAt.items_eqAt (vs := its.toArray) (show ReadsAll s.heap its.toArray.toList ds as from h4) r1 hxs (SeqAt.canLay_of_shaped sd) hroom, ?_⟩
      have ec : its.toArray.toList.countP (fun u => PyData.eqv (SeqAt.readOf s.heap u) d) = ds.countP fun z => PyData.eqv z d := by
        rw [← hmap, List.countP_map]
        rfl
      refine ⟨.int ((ds.countP fun z => PyData.eqv z d : Nat) : Int), H, I.tok _, ⟨s.toks, ?_⟩, q⟩
      show Value.int ((its.toArray.toList.countP (fun u => PyData.eqv (SeqAt.readOf s.heap u) d) : Nat) : Int) s.toks = Value.int ((ds.countP fun z => PyData.eqv z d : Nat) : Int) s.toks
      rw [ec]
def idxOfP : List PyData → PyData → Option Nat
  | [], _ => none
  | z :: r, d => if PyData.eqv z d then some 0 else (idxOfP r d).map (· + 1)
theorem idxOfP_spec : ∀ {ds : List PyData} {d : PyData} {j : Nat}, idxOfP ds d = some j → ∃ z, ds[j]? = some z ∧ PyData.eqv z d = true ∧ ∀ (m : Nat) (z' : PyData), m < j → ds[m]? = some z' → PyData.eqv z' d = false
  | [], d, j, e => by cases e
  | z :: r, d, j, e => by
    unfold idxOfP at e
    by_cases h : PyData.eqv z d = true
    · rw [if_pos h] at e
      cases e
      exact ⟨z, rfl, h, fun m z' hm => absurd hm (Nat.not_lt_zero m)⟩
    · rw [if_neg h] at e
      cases e2 : idxOfP r d with
      | none => rw [e2] at e; cases e
      | some k =>
        rw [e2] at e
        cases e
        obtain ⟨y, h1, h2, h3⟩ := idxOfP_spec e2
        refine ⟨y, by simpa using h1, h2, fun m z' hm hz => ?_⟩
        cases m with
        | zero =>
          simp at hz
          subst hz
          exact Bool.eq_false_iff.mpr h
        | succ m => exact h3 m z' (by simpa using hm) (by simpa using hz)
def countD : AH → D → List D → Option D := fun _ x l => match l with
  | [y] => match x with
    | .lst m => match pds m, pd y with
      | some ds, some d => if SeqAt.shaped (.list ds) && SeqAt.shaped d then some (.int ((ds.countP fun z => PyData.eqv z d : Nat) : Int)) else none
      | _, _ => none
    | _ => none
  | _ => none
def indexD : AH → D → List D → Option D := fun _ x l => match l with
  | [y] => match x with
    | .lst m => match pds m, pd y with
      | some ds, some d => if SeqAt.shaped (.list ds) && SeqAt.shaped d then (idxOfP ds d).map fun j => .int ((j : Nat) : Int) else none
      | _, _ => none
    | _ => none
  | _ => none
/-- a method's rule does what f says -/
def BmS (t : Tb) (T : String) (f : AH → D → List D → Option D) (r : V → List V → Hp → VK → Prop) : Prop := ∀ w ah H x l d v vs Q, RelA t w ah H → Rep t w x v → Reps t w l vs → f ah x l = some d → (∀ w' z H', Stp w H w' H' → RelA t w' ah H' → Rep t w' d z → Q z H') → r v vs H Q
/-- data of a built-in type, for the type's methods -/
def TyS (t : Tb) (T : String) (g : D → Bool) : Prop := ∀ w ah H x v, RelA t w ah H → Rep t w x v → g x = true → tyV t.K T v H
def isStr : D → Bool
  | .str _ => true
  | _ => false
def isLst : D → Bool
  | .lst _ => true
  | _ => false
theorem ty_str : TyS t "str" isStr := by
  intro w ah H x v A r g
  cases x <;> simp only [isStr, Bool.false_eq_true] at g
  simp only [Rep] at r
  subst r
  rfl
theorem ty_lst : TyS t "list" isLst := by
  intro w ah H x v A r g
  cases x <;> simp only [isLst, Bool.false_eq_true] at g
  simp only [Rep] at r
  obtain ⟨p, vs, rfl, h1, h2⟩ := r
  exact .inl ⟨rfl, vs, SqL.of (A.sub _ _ h1)⟩
def cBMg (g : D → Bool) (f : AH → D → List D → Option D) (o : CE) (a : CA) : CE := fun env ah => (o env ah).bind fun x ah1 => if g x = true then (a env ah1).bind fun l ah2 => ofO (f ah2 x l) ah2 else .bad
theorem bm_read {T : String} {g : D → Bool} {f : AH → D → List D → Option D} {r : V → List V → Hp → VK → Prop} (hg : TyS t T g) (hf : BmS t T f r) (hK : t.K = X.K) : ∀ σ H Q, tE t W H0 (cBMg g f xa ca) σ H Q → tBM X.K T r (tE t W H0 xa) (tAr t W H0 ca) σ H Q := by
  rintro σ H Q ⟨w, env, ah, A, E, P⟩
  refine ⟨w, env, ah, A, E, post_bind P fun x ah1 w1 v H1 s1 A1 r1 P1 => ?_⟩
  split at P1
  case isFalse => exact False.elim P1
  rename_i hgx
  refine ⟨by rw [← hK]; exact hg w1 ah1 H1 x v A1 r1 hgx, w1, env, ah1, A1, E.step s1, post_bind P1 fun l ah2 w2 vs H2 s2 A2 r2 P2 => ?_⟩
  cases e : f ah2 x l with
  | none => rw [e] at P2; exact False.elim P2
  | some d =>
    rw [e] at P2
    exact hf w2 ah2 H2 x l d v vs _ A2 (Rep.mono s2.le x r1) r2 e fun w' z H' s' A' rz => P2 w' z H' s' A' rz
theorem q_bm {T id : String} {name : Str} {apos cpos : Pos} {g : D → Bool} {f : AH → D → List D → Option D} {r : V → List V → Hp → VK → Prop} (pa : PlainAttrs T) (slot : Slot T name id) (hty : typeOf (.builtin id) = pure (.type "method_descriptor")) (hm : MtR X id r) (hg : TyS t T g) (hf : BmS t T f r) (ho : PE X o (tE t W H0 xa)) (ha : PA X (e :: es) (tAr t W H0 ca)) (hK : t.K = X.K := by rfl)
    (hbase : attributeBase o name X.env (eval o X.env) = eval o X.env := by rfl)
    (hfew : ((backTo cpos (starEach (e :: es) X.env)).all (fun x => !x.1) && (backToKw cpos (keywordEach [] X.env)).all (fun x => x.1.isSome)
      && decide ((e :: es).length + ([] : List Keyword).length + (if ([] : List Keyword).isEmpty then 0 else 1) < 30)) = true := by rfl)
    (hline : (apos.endLine == cpos.line) = true := by rfl) (hs : starEach (e :: es) X.env = (false, eval e X.env) :: starEach es X.env := by rfl) (hplain : (backTo cpos (starEach es X.env)).any (·.1) = false := by rfl) :
    PE X (.Call (.Attribute o name apos) (e :: es) [] cpos) (tE t W H0 (cBMg g f xa ca)) := PE.imp (pe_bm pa slot hty hm ho ha hbase hfew hline hs hplain) (bm_read hg hf hK)
theorem bs_count (hK : t.K = X.K := by rfl) : BmS t "list" countD (fun x xs H Q => ∃ (a : Addr) (y : V) (d : PyData) (ds : List PyData), x = V.ref a ∧ xs = [y] ∧ Dp X.K H (V.ref a) (.list ds) ∧ Dp X.K H y d ∧ SeqAt.shaped (.list ds) = true ∧ SeqAt.shaped d = true ∧ Q (.int ((ds.countP fun z => PyData.eqv z d : Nat) : Int)) H) := by
  intro w ah H x l d v vs Q A rx rl e q
  unfold countD at e
  split at e
  case h_2 => cases e
  rename_i y
  split at e
  case h_2 => cases e
  rename_i m
  split at e
  case h_2 => cases e
  rename_i ds dd h1 h2
  split at e
  case isFalse => cases e
  rename_i hs
  rw [Bool.and_eq_true] at hs
  cases e
  obtain ⟨u, rfl, ru⟩ := reps1 rl
  have z := dp_of A.sub (.lst m) (p := .list ds) (by simp only [pd, h1]; rfl) rx
  have z2 := dp_of A.sub y h2 ru
  simp only [Rep] at rx
  obtain ⟨p, us, rfl, _, _⟩ := rx
  rw [hK] at z z2
  exact ⟨p, u, dd, ds, rfl, rfl, z, z2, hs.1, hs.2, fin0 A q (by simp only [Rep])⟩
theorem bs_index (hK : t.K = X.K := by rfl) : BmS t "list" indexD (rIndexD X.K) := by
  intro w ah H x l d v vs Q A rx rl e q
  unfold indexD at e
  split at e
  case h_2 => cases e
  rename_i y
  split at e
  case h_2 => cases e
  rename_i m
  split at e
  case h_2 => cases e
  rename_i ds dd h1 h2
  split at e
  case isFalse => cases e
  rename_i hs
  rw [Bool.and_eq_true] at hs
  cases hj : idxOfP ds dd with
  | none => rw [hj] at e; cases e
  | some j =>
    rw [hj] at e
    cases e
    obtain ⟨zz, g1, g2, g3⟩ := idxOfP_spec hj
    obtain ⟨u, rfl, ru⟩ := reps1 rl
    have z := dp_of A.sub (.lst m) (p := .list ds) (by simp only [pd, h1]; rfl) rx
    have z2 := dp_of A.sub y h2 ru
    simp only [Rep] at rx
    obtain ⟨p, us, rfl, _, _⟩ := rx
    rw [hK] at z z2
    exact ⟨p, u, dd, ds, j, zz, rfl, rfl, z, z2, hs.1, hs.2, g1, g2, g3, fin0 A q (by simp only [Rep])⟩
end
end G
/-! The engine, part 10: what the callers want of a def, a class. -/
namespace G
open PySem PySem.Spec PyProof.Rows L2

section
variable {P : Program} {w : World} {K : PySem.W.Frag} {mg : Str → Option Value} {base : Heap} {t : Tb}
/-- a default's value, by data -/
def dfV : D → Option V := scD
theorem scD_reps {w : Wd} : ∀ {dds : List D} {dvs : List V}, dds.map scD = dvs.map some → Reps t w dds dvs
  | [], [], _ => by simp only [Reps]
  | [], _ :: _, h => by cases h
  | _ :: _, [], h => by cases h
  | d :: ds, v :: vs, h => by
    rw [List.map_cons, List.map_cons] at h
    injection h with h1 h2
    unfold Reps
    refine ⟨v, vs, rfl, ?_, scD_reps h2⟩
    cases d <;> simp only [scD, reduceCtorEq, Option.some.injEq] at h1 <;> (subst h1; simp only [Rep])
/-- a name of the module that stands for a def: its rule; dds fill up what a call leaves out -/
structure FOk (P : Program) (w : World) (K : PySem.W.Frag) (mg : Str → Option Value) (base : Heap) (t : Tb) (k : Nat) (x : Str) (F : FD) (n : Nat) (dds : List D) : Prop where
  ex : ∃ (f : Addr) (fd : FuncData) (ps : List Str) (ds : List Value) (dvs : List V), FnOk P w K mg base (L2.CX P w) k f fd ps (spD t F n) ∧ mg x = some (.ref f) ∧ PySem.W.keepIn K (.ref f) = true ∧ L2.Binds K fd ps ds ∧ Vals dvs ds ∧ dds.map scD = dvs.map some
/-- a name of the module that stands for a class whose instances are frozen once made -/
structure KOk (P : Program) (w : World) (K : PySem.W.Frag) (mg : Str → Option Value) (base : Heap) (t : Tb) (k : Nat) (x : Str) (cls : Nat) (F : FI) (n : Nat) (dds : List D) : Prop where
  ex : ∃ (f : Addr) (fd : FuncData) (ps : List Str) (ds : List Value) (dvs : List V), FnOk P w K mg base (L2.CX P w) k f fd ps (spI t cls F n) ∧ Mk K (t.cl cls) f ∧ mg x = some (.ref (t.cl cls)) ∧ L2.Binds K fd ps ds ∧ Vals dvs ds ∧ dds.map scD = dvs.map some
end
section
variable {X : Cx} {t : Tb} {W : WX} {w0 : Wd} {H0 : Bs} {xa xb : CE} {ca : CA} {a b e o : Expr} {es : List Expr} {pos : Pos}
theorem q_callF {F : FD} {n k : Nat} {dds : List D} {x : Str} {p : Pos} (hF : FOk X.prog X.w X.K X.mg X.base t k x F n dds) (hr : Room k X.A) (tk : Takes X W) (ha : PA X (e :: es) (tAr t W H0 ca)) (hg : Gl X x := by rfl) (hdb : (x == ("__debug__" : Str)) = false := by decide)
    (he : starEach (e :: es) X.env = (false, eval e X.env) :: starEach es X.env := by rfl) (hpl : (backTo pos (starEach es X.env)).any (·.1) = false := by rfl) : PE X (.Call (.Name x p) (e :: es) [] pos) (tE t W H0 (cCall F n dds ca)) := by
  obtain ⟨f, fd, ps, ds, dvs, h1, h2, h3, h4, h5, h6⟩ := hF.ex
  exact q_call h1 hr h2 h3 h4 h5 (fun w => scD_reps h6) tk ha hg hdb he hpl
theorem q_callF0 {F : FD} {n k : Nat} {dds : List D} {x : Str} {p : Pos} (hF : FOk X.prog X.w X.K X.mg X.base t k x F n dds) (hr : Room k X.A) (tk : Takes X W) (hg : Gl X x := by rfl) (hdb : (x == ("__debug__" : Str)) = false := by decide) : PE X (.Call (.Name x p) [] [] pos) (tE t W H0 (cCall F n dds cNil)) := by
  obtain ⟨f, fd, ps, ds, dvs, h1, h2, h3, h4, h5, h6⟩ := hF.ex
  exact q_call0 h1 hr h2 h3 h4 h5 (fun w => scD_reps h6) tk hg hdb
theorem q_makeF (cls : Nat) {x : Str} {p : Pos} {F : FI} {n : Nat} {dds : List D} {k : Nat} (hF : KOk X.prog X.w X.K X.mg X.base t k x cls F n dds) (hr : Room (k + 1) X.A) (tk : Takes X W)
    (ha : PA X (e :: es) (tAr t W H0 ca)) (hg : Gl X x := by rfl) (hdb : (x == ("__debug__" : Str)) = false := by decide) (he : starEach (e :: es) X.env = (false, eval e X.env) :: starEach es X.env := by rfl) (hpl : (backTo pos (starEach es X.env)).any (·.1) = false := by rfl) :
    PE X (.Call (.Name x p) (e :: es) [] pos) (tE t W H0 (cMake cls F n dds ca)) := by
  obtain ⟨f, fd, ps, ds, dvs, h1, h2, h3, h4, h5, h6⟩ := hF.ex
  exact q_make cls h2 h1 hr h3 h4 h5 (fun w => scD_reps h6) tk ha hg hdb he hpl
end
/-! ### the law's own end -/
theorem law_sp {t : Tb} {F : FD} (hF : ∀ ns : List Int, ns.length ≤ 63 → ∃ ah, F [.scr (ns.map .int)] [] = .ok (.bl true) ah) (H : Hp) (a : Addr) (ns : List Int) (hl : ns.length ≤ 63) (hS : SqL t.K H a (ns.map V.int)) : spD t F 1 [.ref a] H (fun v _ => v = .bl true) fun _ _ _ => False := by
  refine ⟨rfl, ⟨H, [], fun _ => none⟩, [.scr (ns.map .int)], [], ⟨Same.refl _, rfl, List.nodup_nil, fun a h => (by cases h), fun n o a h => (by cases h), fun a o h => (by cases h)⟩, ?_, ?_⟩
  · refine reps_one ?_
    simp only [Rep]
    exact ⟨a, ns.map V.int, rfl, hS, reps_ints ns⟩
  · obtain ⟨ah, e⟩ := hF ns hl
    rw [e]
    intro w' b H' s A r
    simp only [Rep] at r
    exact r
theorem cx_no {P : Program} {w : World} (H : Hp) (s : Shared) (e : Value) (s' : Shared) (h : L2.CX P w [] H s (fun _ _ _ => False) e s') : False := by
  unfold L2.CX at h
  first
  | exact h
  | (obtain ⟨_, _, _, _, _, _, _, _, _, _, _, _, _, h⟩ := h; exact h)
  | (obtain ⟨_, _, _, _, _, _, _, _, _, _, _, _, h⟩ := h; exact h)
  | (obtain ⟨_, _, _, _, _, _, _, _, _, _, _, h⟩ := h; exact h)
  | (obtain ⟨_, _, _, _, _, _, _, _, _, _, h⟩ := h; exact h)
  | (obtain ⟨_, _, _, _, _, _, _, _, _, h⟩ := h; exact h)
  | (obtain ⟨_, _, _, _, _, _, _, _, h⟩ := h; exact h)
end G
namespace G
open PySem PySem.Spec PyProof.Rows L2
theorem hu65 {k : Nat} {A : Around} (r : Room k A) : A.units + 65 < cLine := by have := r.un; omega
end G
namespace G
open PySem PySem.Spec PyProof.Rows L2
theorem kitCls_own {K : PySem.W.Frag} {t : Value} {D : Addr} {b : Bool} (h2 : PySem.W.isClsIn K D = true) (h3 : PySem.W.typeIn K (.ref D) = some (.type "type")) (h4 : PySem.W.subIn K t (.ref D) = some b) : PySem.W.kitCls K t (.ref D) = some b := by
  have e2 : ((PySem.W.clsIn K D).isSome && PySem.W.typeIn K (.ref D) == some (.type "type")) = true := by
    have h2' : (PySem.W.clsIn K D).isSome = true := h2
    rw [h2', h3] <;> rfl
  show (if ((PySem.W.clsIn K D).isSome && PySem.W.typeIn K (.ref D) == some (.type "type")) = true then PySem.W.subIn K t (.ref D) else none) = some b
  rw [if_pos e2]
  exact h4
theorem kit_oo {K : PySem.W.Frag} {C D : Addr} {b : Bool} (h1 : PySem.W.subIn K (.ref C) (.ref C) = some true) (h2 : PySem.W.isClsIn K D = true) (h3 : PySem.W.typeIn K (.ref D) = some (.type "type")) (h4 : PySem.W.subIn K (.ref C) (.ref D) = some b) : PySem.W.kitOne K (.ref C) (.ref D) = some b := by
  unfold PySem.W.kitOne
  by_cases h : C = D
  · subst h
    rw [h1] at h4
    cases h4
    simp
  · rw [if_neg (by simpa using h)]
    exact kitCls_own h2 h3 h4
theorem kit_ot {K : PySem.W.Frag} {C : Addr} {T : String} {b : Bool} (h2 : PySem.W.kitMeta T = true) (h4 : PySem.W.subIn K (.ref C) (.type T) = some b) : PySem.W.kitOne K (.ref C) (.type T) = some b := by
  unfold PySem.W.kitOne
  rw [if_neg (by simp)]
  show (if PySem.W.kitMeta T = true then PySem.W.subIn K (.ref C) (.type T) else none) = some b
  rw [if_pos h2]
  exact h4
theorem kit_to {K : PySem.W.Frag} {D : Addr} {T : String} {b : Bool} (h2 : PySem.W.isClsIn K D = true) (h3 : PySem.W.typeIn K (.ref D) = some (.type "type")) (h4 : PySem.W.subIn K (.type T) (.ref D) = some b) : PySem.W.kitOne K (.type T) (.ref D) = some b := by
  unfold PySem.W.kitOne
  rw [if_neg (by simp)]
  exact kitCls_own h2 h3 h4
theorem exm_oo {K : PySem.W.Frag} {C D : Addr} {b : Bool} (h1 : PySem.W.subIn K (.ref D) (.type "BaseException") = some true) (h2 : PySem.W.isClsIn K D = true) (h3 : PySem.W.typeIn K (.ref D) = some (.type "type")) (h4 : PySem.W.subIn K (.ref C) (.ref D) = some b) : PySem.W.exmOne K (.ref C) (.ref D) = some b := by
  unfold PySem.W.exmOne
  rw [if_pos (by rw [h1] <;> rfl)]
  exact kitCls_own h2 h3 h4
end G
/-! The engine, part 11: running the plain functions: each combinator's step as a rewriting rule. -/
namespace G
open PySem PySem.Spec PyProof.Rows L2
section
variable {fl : Nat → List Str} {F : FD} {FI' : FI} {M : MtTab} {sub : Nat → Option Bool} {f g : F2} {u : AH → D → Option D} {fn : FL} {bmf : AH → D → List D → Option D} {gd : D → Bool} {tg : TgD} {a b c : CE} {ar br : CA} {ta tb : CT} {s r : CS} {it : CIt} {lo hi : CO} {env env' : En} {ah ah1 : AH} {x y d : D} {l m ds dds : List D} {n i j k cls : Nat} {e : Nat} {nm : Str}
/-! expressions -/
theorem ev_var : cVar i env ah = (match env[i]? with | some (.val d) => .ok d ah | _ => .bad) := rfl
theorem ev_c : cC d env ah = .ok d ah := rfl
def bin2 (f : F2) (x : D) (r : Res D) : Res D := r.bind fun y ah2 => ofO (f ah2 x y) ah2
def bin1 (f : F2) (b : CE) (env : En) (r : Res D) : Res D := r.bind fun x ah1 => bin2 f x (b env ah1)
theorem ev_bin : cBin f a b env ah = bin1 f b env (a env ah) := rfl
theorem bin1_ok : bin1 f b env (.ok x ah) = bin2 f x (b env ah) := rfl
theorem bin1_exc : bin1 f b env (.exc e l ah) = .exc e l ah := rfl
theorem bin2_ok : bin2 f x (.ok y ah) = ofO (f ah x y) ah := rfl
theorem bin2_exc : bin2 f x (.exc e l ah) = .exc e l ah := rfl
def un1 (u : AH → D → Option D) (r : Res D) : Res D := r.bind fun x ah1 => ofO (u ah1 x) ah1
theorem ev_un : cUn u a env ah = un1 u (a env ah) := rfl
theorem ev_fld : cFld fl nm a env ah = un1 (fldD fl nm) (a env ah) := rfl
theorem ev_isI {h : AH → D → Option Bool} : cIsI h a env ah = un1 (fun ah d => (h ah d).map D.bl) (a env ah) := rfl
theorem un1_ok : un1 u (.ok x ah) = ofO (u ah x) ah := rfl
theorem un1_exc : un1 u (.exc e l ah) = .exc e l ah := rfl
def test1 (r : Res D) : Res Bool := r.bind fun d ah1 => ofO (asB d) ah1
theorem ev_test : cTest a env ah = test1 (a env ah) := rfl
theorem test1_ok {z : Bool} : test1 (.ok (.bl z) ah) = .ok z ah := rfl
theorem test1_exc : test1 (.exc e l ah) = .exc e l ah := rfl
def notT1 (r : Res Bool) : Res Bool := r.bind fun c ah1 => .ok (!c) ah1
theorem ev_notT : cNotT ta env ah = notT1 (ta env ah) := rfl
theorem notT1_ok {z : Bool} : notT1 (.ok z ah) = .ok (!z) ah := rfl
theorem notT1_exc : notT1 (.exc e l ah) = .exc e l ah := rfl
def andT1 (b : CT) (env : En) (r : Res Bool) : Res Bool := r.bind fun c ah1 => if c = true then b env ah1 else .ok false ah1
theorem ev_andT : cAndT ta tb env ah = andT1 tb env (ta env ah) := rfl
theorem andT1_t : andT1 tb env (.ok true ah) = tb env ah := rfl
theorem andT1_f : andT1 tb env (.ok false ah) = .ok false ah := rfl
theorem andT1_exc : andT1 tb env (.exc e l ah) = .exc e l ah := rfl
def orT1 (b : CT) (env : En) (r : Res Bool) : Res Bool := r.bind fun c ah1 => if c = true then .ok true ah1 else b env ah1
theorem ev_orT : cOrT ta tb env ah = orT1 tb env (ta env ah) := rfl
theorem orT1_t : orT1 tb env (.ok true ah) = .ok true ah := rfl
theorem orT1_f : orT1 tb env (.ok false ah) = tb env ah := rfl
theorem orT1_exc : orT1 tb env (.exc e l ah) = .exc e l ah := rfl
def and1 (b : CE) (env : En) (r : Res D) : Res D := r.bind fun x ah1 => match x with
  | .bl true => b env ah1
  | .bl false => .ok (.bl false) ah1
  | _ => .bad
theorem ev_and : cAnd a b env ah = and1 b env (a env ah) := rfl
theorem and1_t : and1 b env (.ok (.bl true) ah) = b env ah := rfl
theorem and1_f : and1 b env (.ok (.bl false) ah) = .ok (.bl false) ah := rfl
theorem and1_exc : and1 b env (.exc e l ah) = .exc e l ah := rfl
def or1 (b : CE) (env : En) (r : Res D) : Res D := r.bind fun x ah1 => match x with
  | .bl true => .ok (.bl true) ah1
  | .bl false => b env ah1
  | _ => .bad
theorem ev_or : cOr a b env ah = or1 b env (a env ah) := rfl
theorem or1_t : or1 b env (.ok (.bl true) ah) = .ok (.bl true) ah := rfl
theorem or1_f : or1 b env (.ok (.bl false) ah) = b env ah := rfl
theorem or1_exc : or1 b env (.exc e l ah) = .exc e l ah := rfl
def if1 (a b : CE) (env : En) (r : Res Bool) : Res D := r.bind fun x ah1 => if x = true then a env ah1 else b env ah1
theorem ev_if : cIf ta a b env ah = if1 a b env (ta env ah) := rfl
theorem if1_t : if1 a b env (.ok true ah) = a env ah := rfl
theorem if1_f : if1 a b env (.ok false ah) = b env ah := rfl
theorem if1_exc : if1 a b env (.exc e l ah) = .exc e l ah := rfl
def ch3 (g : F2) (y : D) (r : Res D) : Res D := r.bind fun z ah3 => ofO (g ah3 y z) ah3
def chm (o : Option D) (g : F2) (y : D) (c : CE) (env : En) (ah : AH) : Res D := match o with
  | some (.bl true) => ch3 g y (c env ah)
  | some (.bl false) => .ok (.bl false) ah
  | _ => .bad
def ch2 (f g : F2) (x : D) (c : CE) (env : En) (r : Res D) : Res D := r.bind fun y ah2 => chm (f ah2 x y) g y c env ah2
def ch1 (f g : F2) (b c : CE) (env : En) (r : Res D) : Res D := r.bind fun x ah1 => ch2 f g x c env (b env ah1)
theorem ev_chain : cChain f g a b c env ah = ch1 f g b c env (a env ah) := rfl
theorem ch1_ok : ch1 f g b c env (.ok x ah) = ch2 f g x c env (b env ah) := rfl
theorem ch1_exc : ch1 f g b c env (.exc e l ah) = .exc e l ah := rfl
theorem ch2_ok : ch2 f g x c env (.ok y ah) = chm (f ah x y) g y c env ah := rfl
theorem ch2_exc : ch2 f g x c env (.exc e l ah) = .exc e l ah := rfl
theorem chm_t : chm (some (.bl true)) g y c env ah = ch3 g y (c env ah) := rfl
theorem chm_f : chm (some (.bl false)) g y c env ah = .ok (.bl false) ah := rfl
theorem ch3_ok : ch3 g y (.ok x ah) = ofO (g ah y x) ah := rfl
theorem ch3_exc : ch3 g y (.exc e l ah) = .exc e l ah := rfl
/-! arguments -/
theorem ev_nil : cNil env ah = .ok [] ah := rfl
def cons2 (x : D) (r : Res (List D)) : Res (List D) := r.bind fun xs ah2 => .ok (x :: xs) ah2
def cons1 (b : CA) (env : En) (r : Res D) : Res (List D) := r.bind fun x ah1 => cons2 x (b env ah1)
theorem ev_cons : cCons a ar env ah = cons1 ar env (a env ah) := rfl
theorem cons1_ok : cons1 ar env (.ok x ah) = cons2 x (ar env ah) := rfl
theorem cons1_exc : cons1 ar env (.exc e l ah) = .exc e l ah := rfl
theorem cons2_ok : cons2 x (.ok l ah) = .ok (x :: l) ah := rfl
theorem cons2_exc : cons2 x (.exc e l ah) = .exc e l ah := rfl
def tup1 (r : Res (List D)) : Res D := r.bind fun l ah1 => if l.length ≤ 1000 then .ok (.tup l) ah1 else .bad
def lst1 (r : Res (List D)) : Res D := r.bind fun l ah1 => if l.length ≤ 1000 then .ok (.lst l) ah1 else .bad
theorem ev_tup : cTup ar env ah = tup1 (ar env ah) := rfl
theorem ev_lst : cLst ar env ah = lst1 (ar env ah) := rfl
theorem tup1_ok : tup1 (.ok l ah) = if l.length ≤ 1000 then .ok (.tup l) ah else .bad := rfl
theorem tup1_exc : tup1 (.exc e l ah) = .exc e l ah := rfl
theorem lst1_ok : lst1 (.ok l ah) = if l.length ≤ 1000 then .ok (.lst l) ah else .bad := rfl
theorem lst1_exc : lst1 (.exc e l ah) = .exc e l ah := rfl
/-! slices -/
theorem ev_no : cNo env ah = .ok none ah := rfl
def part1 (r : Res D) : Res (Option Int) := r.bind fun x ah1 => match x with
  | .int i => .ok (some i) ah1
  | _ => .bad
theorem ev_part : cPart a env ah = part1 (a env ah) := rfl
theorem part1_ok {z : Int} : part1 (.ok (.int z) ah) = .ok (some z) ah := rfl
def sl3 (x : D) (z : Option Int) (r : Res (Option Int)) : Res D := r.bind fun h ah3 => ofO (slD x z h) ah3
def sl2 (x : D) (hi : CO) (env : En) (r : Res (Option Int)) : Res D := r.bind fun z ah2 => sl3 x z (hi env ah2)
def sl1 (lo hi : CO) (env : En) (r : Res D) : Res D := r.bind fun x ah1 => sl2 x hi env (lo env ah1)
theorem ev_sl : cSl a lo hi env ah = sl1 lo hi env (a env ah) := rfl
theorem sl1_ok : sl1 lo hi env (.ok x ah) = sl2 x hi env (lo env ah) := rfl
theorem sl1_exc : sl1 lo hi env (.exc e l ah) = .exc e l ah := rfl
theorem sl2_ok {z : Option Int} : sl2 x hi env (.ok z ah) = sl3 x z (hi env ah) := rfl
theorem sl3_ok {z w : Option Int} : sl3 x z (.ok w ah) = ofO (slD x z w) ah := rfl
/-! calls -/
def cb1 (fn : FL) (r : Res (List D)) : Res D := r.bind fun l ah1 => ofO (fn ah1 l) ah1
theorem ev_cb : cCB fn ar env ah = cb1 fn (ar env ah) := rfl
theorem cb1_ok : cb1 fn (.ok l ah) = ofO (fn ah l) ah := rfl
theorem cb1_exc : cb1 fn (.exc e l ah) = .exc e l ah := rfl
def call1 (F : FD) (n : Nat) (dds : List D) (r : Res (List D)) : Res D := r.bind fun l ah1 => if (l ++ dds).length = n then F (l ++ dds) ah1 else .bad
theorem ev_call : cCall F n dds ar env ah = call1 F n dds (ar env ah) := rfl
theorem call1_ok : call1 F n dds (.ok l ah) = if (l ++ dds).length = n then F (l ++ dds) ah else .bad := rfl
theorem call1_exc : call1 F n dds (.exc e l ah) = .exc e l ah := rfl
def make2 (cls : Nat) (r : Res (List D)) : Res D := r.bind fun fs ah2 => .ok (.obj cls fs) ah2
def make1 (cls : Nat) (F : FI) (n : Nat) (dds : List D) (r : Res (List D)) : Res D := r.bind fun l ah1 => if (l ++ dds).length = n then make2 cls (F (l ++ dds) ah1) else .bad
theorem ev_make : cMake cls FI' n dds ar env ah = make1 cls FI' n dds (ar env ah) := rfl
theorem make1_ok : make1 cls FI' n dds (.ok l ah) = if (l ++ dds).length = n then make2 cls (FI' (l ++ dds) ah) else .bad := rfl
theorem make1_exc : make1 cls FI' n dds (.exc e l ah) = .exc e l ah := rfl
theorem make2_ok : make2 cls (.ok l ah) = .ok (.obj cls l) ah := rfl
theorem make2_exc : make2 cls (.exc e l ah) = .exc e l ah := rfl
def methk (F : FD) (n : Nat) (x : D) (r : Res (List D)) : Res D := r.bind fun l ah2 => if l.length + 1 = n then F (x :: l) ah2 else .bad
def methm (o : Option (FD × Nat)) (x : D) (ar : CA) (env : En) (ah : AH) : Res D := match o with
  | some (F, n) => methk F n x (ar env ah)
  | none => .bad
def meth1 (M : MtTab) (ar : CA) (env : En) (r : Res D) : Res D := r.bind fun x ah1 => methm ((clsD ah1 x).bind M) x ar env ah1
theorem ev_meth : cMeth M a ar env ah = meth1 M ar env (a env ah) := rfl
theorem meth1_ok : meth1 M ar env (.ok x ah) = methm ((clsD ah x).bind M) x ar env ah := rfl
theorem meth1_exc : meth1 M ar env (.exc e l ah) = .exc e l ah := rfl
theorem methm_some : methm (some (F, n)) x ar env ah = methk F n x (ar env ah) := rfl
theorem methk_ok : methk F n x (.ok l ah) = if l.length + 1 = n then F (x :: l) ah else .bad := rfl
theorem methk_exc : methk F n x (.exc e l ah) = .exc e l ah := rfl
theorem cls_obj : clsD ah (.obj k l) = some k := rfl
def bm2 (bmf : AH → D → List D → Option D) (x : D) (r : Res (List D)) : Res D := r.bind fun l ah2 => ofO (bmf ah2 x l) ah2
def bm1 (gd : D → Bool) (bmf : AH → D → List D → Option D) (ar : CA) (env : En) (r : Res D) : Res D := r.bind fun x ah1 => if gd x = true then bm2 bmf x (ar env ah1) else .bad
theorem ev_bm : cBMg gd bmf a ar env ah = bm1 gd bmf ar env (a env ah) := rfl
theorem bm1_ok : bm1 gd bmf ar env (.ok x ah) = if gd x = true then bm2 bmf x (ar env ah) else .bad := rfl
theorem bm1_exc : bm1 gd bmf ar env (.exc e l ah) = .exc e l ah := rfl
theorem bm2_ok : bm2 bmf x (.ok l ah) = ofO (bmf ah x l) ah := rfl
theorem bm2_exc : bm2 bmf x (.exc e l ah) = .exc e l ah := rfl
/-! what is walked -/
def it1 (r : Res D) : Res (List D) := r.bind fun x ah1 => ofO (itD x) ah1
theorem ev_itAny : itAny a env ah = it1 (a env ah) := rfl
theorem it1_ok : it1 (.ok x ah) = ofO (itD x) ah := rfl
def rng1 (r : Res (List D)) : Res (List D) := r.bind fun x ah1 => match x with
  | [.int j] => if -(2 ^ 62) ≤ j ∧ j < 2 ^ 62 then .ok (rngD 0 j.toNat) ah1 else .bad
  | _ => .bad
theorem ev_rng1 : itRng1 ar env ah = rng1 (ar env ah) := rfl
theorem rng1_ok {z : Int} : rng1 (.ok [.int z] ah) = if -(2 ^ 62) ≤ z ∧ z < 2 ^ 62 then .ok (rngD 0 z.toNat) ah else .bad := rfl
def rng2 (r : Res (List D)) : Res (List D) := r.bind fun x ah1 => match x with
  | [.int i, .int j] => if -(2 ^ 62) ≤ i ∧ i < 2 ^ 62 ∧ -(2 ^ 62) ≤ j ∧ j < 2 ^ 62 then .ok (rngD i (j - i).toNat) ah1 else .bad
  | _ => .bad
theorem ev_rng2 : itRng2 ar env ah = rng2 (ar env ah) := rfl
theorem rng2_ok {y z : Int} : rng2 (.ok [.int y, .int z] ah) = if -(2 ^ 62) ≤ y ∧ y < 2 ^ 62 ∧ -(2 ^ 62) ≤ z ∧ z < 2 ^ 62 then .ok (rngD y (z - y).toNat) ah else .bad := rfl
def enum1 (r : Res (List D)) : Res (List D) := r.bind fun x ah1 => match x with
  | [d] => (ofO (seqD d) ah1).bind fun l ah2 => .ok (enumD 0 l) ah2
  | _ => .bad
theorem ev_enum : itEnum ar env ah = enum1 (ar env ah) := rfl
theorem enum1_lst : enum1 (.ok [.lst l] ah) = .ok (enumD 0 l) ah := rfl
theorem enum1_scr : enum1 (.ok [.scr l] ah) = .ok (enumD 0 l) ah := rfl
def zip1 (r : Res (List D)) : Res (List D) := r.bind fun x ah1 => match x with
  | [d, e] => (ofO (seqD d) ah1).bind fun l ah2 => (ofO (seqD e) ah2).bind fun m ah3 => .ok (zipD l m) ah3
  | _ => .bad
theorem ev_zip : itZip ar env ah = zip1 (ar env ah) := rfl
theorem zip1_lst : zip1 (.ok [.lst l, .lst m] ah) = .ok (zipD l m) ah := rfl
/-! statements -/
theorem ev_skip : cSkip env ah = .nx env ah := rfl
def seq1 (r : CS) (z : SRes) : SRes := match z with
  | .nx env' ah' => r env' ah'
  | z => z
theorem ev_seq : cSeq s r env ah = seq1 r (s env ah) := rfl
theorem seq1_nx : seq1 r (.nx env ah) = r env ah := rfl
theorem seq1_rt : seq1 r (.rt d ah) = .rt d ah := rfl
theorem seq1_bk : seq1 r (.bk env ah) = .bk env ah := rfl
theorem seq1_ct : seq1 r (.ct env ah) = .ct env ah := rfl
theorem seq1_exc : seq1 r (.exc e l env ah) = .exc e l env ah := rfl
theorem ev_brk : cBrk env ah = .bk env ah := rfl
theorem ev_cnt : cCnt env ah = .ct env ah := rfl
def expr1 (env : En) (r : Res D) : SRes := SRes.of env r fun _ ah1 => .nx env ah1
theorem ev_expr : cExpr a env ah = expr1 env (a env ah) := rfl
theorem expr1_ok : expr1 env (.ok x ah) = .nx env ah := rfl
theorem expr1_exc : expr1 env (.exc e l ah) = .exc e l env ah := rfl
def ret1 (env : En) (r : Res D) : SRes := SRes.of env r fun d ah1 => .rt d ah1
theorem ev_ret : cRet a env ah = ret1 env (a env ah) := rfl
theorem ret1_ok : ret1 env (.ok x ah) = .rt x ah := rfl
theorem ret1_exc : ret1 env (.exc e l ah) = .exc e l env ah := rfl
theorem ev_retN : cRetN env ah = .rt .non ah := rfl
def ifS1 (s r : CS) (env : En) (z : Res Bool) : SRes := SRes.of env z fun k ah1 => if k = true then s env ah1 else r env ah1
theorem ev_ifS : cIfS ta s r env ah = ifS1 s r env (ta env ah) := rfl
theorem ifS1_t : ifS1 s r env (.ok true ah) = s env ah := rfl
theorem ifS1_f : ifS1 s r env (.ok false ah) = r env ah := rfl
theorem ifS1_exc : ifS1 s r env (.exc e l ah) = .exc e l env ah := rfl
def nxO (o : Option En) (ah : AH) : SRes := match o with
  | some env' => .nx env' ah
  | none => .bad
theorem nxO_some : nxO (some env) ah = .nx env ah := rfl
def asg1 (tg : TgD) (env : En) (r : Res D) : SRes := SRes.of env r fun d ah1 => nxO (tg d env) ah1
theorem ev_asg : cAsg tg a env ah = asg1 tg env (a env ah) := rfl
theorem asg1_ok : asg1 tg env (.ok x ah) = nxO (tg x env) ah := rfl
theorem asg1_exc : asg1 tg env (.exc e l ah) = .exc e l env ah := rfl
theorem gN_ap : gN i d env = some (env.set i (.val d)) := rfl
theorem gTup_ap {is : List Nat} : gTupN is (.tup l) env = gNs is l env := rfl
theorem gNs_nil : gNs [] [] env = some env := rfl
theorem gNs_cons {is : List Nat} : gNs (i :: is) (d :: l) env = gNs is l (env.set i (.val d)) := rfl
def par1 (i j : Nat) (env : En) (r : Res (List D)) : SRes := SRes.of env r fun l ah1 => match l with
  | [x, y] => .nx ((env.set i (.val x)).set j (.val y)) ah1
  | _ => .bad
theorem ev_par : cPar i j ar env ah = par1 i j env (ar env ah) := rfl
theorem par1_ok : par1 i j env (.ok [x, y] ah) = .nx ((env.set i (.val x)).set j (.val y)) ah := rfl
theorem par1_exc : par1 i j env (.exc e l ah) = .exc e l env ah := rfl
def for1 (tg : TgD) (s : CS) (env : En) (r : Res (List D)) : SRes := SRes.of env r fun l ah1 => forL tg s l env ah1
theorem ev_for : cFor it tg s env ah = for1 tg s env (it env ah) := rfl
theorem for1_ok : for1 tg s env (.ok l ah) = forL tg s l env ah := rfl
theorem for1_exc : for1 tg s env (.exc e l ah) = .exc e l env ah := rfl
def forK (tg : TgD) (s : CS) (l : List D) (z : SRes) : SRes := match z with
  | .nx env' ah' => forL tg s l env' ah'
  | .ct env' ah' => forL tg s l env' ah'
  | .bk env' ah' => .nx env' ah'
  | z => z
def forM (tg : TgD) (s : CS) (l : List D) (o : Option En) (ah : AH) : SRes := match o with
  | none => .bad
  | some env1 => forK tg s l (s env1 ah)
theorem forL_nil : forL tg s [] env ah = .nx env ah := rfl
theorem forL_cons : forL tg s (d :: l) env ah = forM tg s l (tg d env) ah := by
  unfold forL forM forK
  cases tg d env with
  | none => rfl
  | some env1 =>
    simp only <;> (cases s env1 ah <;> rfl)
theorem forM_some : forM tg s l (some env) ah = forK tg s l (s env ah) := rfl
theorem forK_nx : forK tg s l (.nx env ah) = forL tg s l env ah := rfl
theorem forK_ct : forK tg s l (.ct env ah) = forL tg s l env ah := rfl
theorem forK_bk : forK tg s l (.bk env ah) = .nx env ah := rfl
theorem forK_rt : forK tg s l (.rt d ah) = .rt d ah := rfl
theorem forK_exc : forK tg s l (.exc e m env ah) = .exc e m env ah := rfl
def tryK1 (sub : Nat → Option Bool) (i j : Nat) (z : SRes) : SRes := match z with
  | .exc c l env' ah' => match sub c with
    | some true => if i < env'.length then .nx (((env'.set i .no).set j (.val (.exc c l))).set i .no) ah' else .bad
    | some false => .exc c l env' ah'
    | none => .bad
  | z => z
theorem ev_tryK : cTryK s sub i j env ah = tryK1 sub i j (s env ah) := rfl
theorem tryK1_nx : tryK1 sub i j (.nx env ah) = .nx env ah := rfl
theorem tryK1_rt : tryK1 sub i j (.rt d ah) = .rt d ah := rfl
theorem tryK1_exc (h : sub e = some true) (hi : i < env.length) : tryK1 sub i j (.exc e l env ah) = .nx (((env.set i .no).set j (.val (.exc e l))).set i .no) ah := by
  unfold tryK1
  simp only [h, if_pos hi]
theorem ev_raise : cRaise k env ah = .exc k [] env ah := rfl
def setF1 (fl : Nat → List Str) (i : Nat) (nm : Str) (env : En) (r : Res D) : SRes := SRes.of env r fun d ah1 => match env[i]? with
  | some (.own (.ins k l)) => match putD (fl k) nm d l with
    | some l' => .nx (env.set i (.own (.ins k l'))) ah1
    | none => .bad
  | some (.val (.ref n)) => match ah1[n]? with
    | some (.ins k l) => match putD (fl k) nm d l with
      | some l' => .nx env (ah1.set n (.ins k l'))
      | none => .bad
    | _ => .bad
  | _ => .bad
theorem ev_setF : cSetF fl i nm a env ah = setF1 fl i nm env (a env ah) := rfl
theorem setF1_own {l' : List D} (h1 : env[i]? = some (.own (.ins k l))) (h : putD (fl k) nm x l = some l') : setF1 fl i nm env (.ok x ah) = .nx (env.set i (.own (.ins k l'))) ah := by
  unfold setF1
  simp only [of_ok, h1, h]
theorem setF1_exc : setF1 fl i nm env (.exc e l ah) = .exc e l env ah := rfl
/-! defs -/
def run1 (z : SRes) : Res D := match z with
  | .rt d ah' => .ok d ah'
  | .nx _ ah' => .ok .non ah'
  | .exc c l _ ah' => .exc c l ah'
  | _ => .bad
theorem ev_run : runDef s n ds ah = run1 (s (env0 n ds) ah) := rfl
theorem run1_rt : run1 (.rt d ah) = .ok d ah := rfl
theorem run1_nx : run1 (.nx env ah) = .ok .non ah := rfl
theorem run1_exc : run1 (.exc e l env ah) = .exc e l ah := rfl
def init1 (cls nf : Nat) (z : SRes) : Res (List D) := match z with
  | .nx env ah' => endI cls nf env ah'
  | .exc e l _ ah' => .exc e l ah'
  | _ => .bad
theorem ev_init : runInit s n cls k ds ah = init1 cls k (s (env1 cls n ds) ah) := rfl
theorem init1_nx : init1 cls k (.nx env ah) = endI cls k env ah := rfl
theorem init1_exc : init1 cls k (.exc e l env ah) = .exc e l ah := rfl
theorem endI_ok (h : l.length = k) : endI cls k (.own (.ins cls l) :: env) ah = .ok l ah := by
  unfold endI
  simp only [h, and_self, if_true]
/-! operations by values -/
variable {p q : Int} {z w : Bool} {v : Str}
theorem add_i : addD ah (.int p) (.int q) = some (.int (p + q)) := rfl
theorem add_s {v' : Str} (h : v.length + v'.length ≤ sizeLine) : addD ah (.str v) (.str v') = some (.str (v ++ v')) := if_pos h
theorem add_l (h : l.length + m.length ≤ sizeLine) : addD ah (.lst l) (.lst m) = some (.lst (l ++ m)) := if_pos h
theorem add_t (h : l.length + m.length ≤ sizeLine) : addD ah (.tup l) (.tup m) = some (.tup (l ++ m)) := if_pos h
theorem sub_i : subD ah (.int p) (.int q) = some (.int (p - q)) := rfl
theorem mul_i (h : mulOk p q) : mulD ah (.int p) (.int q) = some (.int (p * q)) := if_pos h
theorem fdiv_i (h : divOk q) : fdivD ah (.int p) (.int q) = some (.int (p.fdiv q)) := if_pos h
theorem mod_i (h : q ≠ 0) : modD ah (.int p) (.int q) = some (.int (p.fmod q)) := if_pos h
theorem pow_i (h : 0 ≤ q ∧ q ≤ 1000000 ∧ p.natAbs < 2 ^ 64) : powD ah (.int p) (.int q) = some (.int (p ^ q.toNat)) := if_pos h
theorem neg_i : negD ah (.int p) = some (.int (-p)) := rfl
theorem not_b : notD ah (.bl z) = some (.bl (!z)) := rfl
theorem lt_i : ltD ah (.int p) (.int q) = some (.bl (decide (p < q))) := rfl
theorem le_i : leD ah (.int p) (.int q) = some (.bl (decide (p ≤ q))) := rfl
theorem gt_i : gtD ah (.int p) (.int q) = some (.bl (decide (q < p))) := rfl
theorem ge_i : geD ah (.int p) (.int q) = some (.bl (decide (q ≤ p))) := rfl
theorem eq_i : eqD ah (.int p) (.int q) = some (.bl (decide (p = q))) := by
  show some (D.bl (decide (V.int p = V.int q))) = _
  congr 2
  simp
theorem ne_i : neD ah (.int p) (.int q) = some (.bl (!decide (p = q))) := by
  show some (D.bl (!decide (V.int p = V.int q))) = _
  congr 3
  simp
theorem eq_s {v' : Str} : eqD ah (.str v) (.str v') = some (.bl (decide (v = v'))) := by
  show some (D.bl (decide (V.str v = V.str v'))) = _
  congr 2
  simp
theorem ne_s {v' : Str} : neD ah (.str v) (.str v') = some (.bl (!decide (v = v'))) := by
  show some (D.bl (!decide (V.str v = V.str v'))) = _
  congr 3
  simp
theorem is_n : isND ah x .non = some (.bl (isN x)) := rfl
theorem nis_n : notND ah x .non = some (.bl (!isN x)) := rfl
theorem abs_i : absD ah [.int p] = some (.int (if p < 0 then -p else p)) := rfl
theorem int_i : intD ah [.int p] = some (.int p) := rfl
theorem int_b : intD ah [.bl z] = some (.int (if z then 1 else 0)) := rfl
theorem str_i (h : p.natAbs.log2 < 1920) : strD ah [.int p] = some (.str (toString p)) := if_pos h
theorem str_s : strD ah [.str v] = some (.str v) := rfl
theorem list_s : listD ah [.scr l] = some (.lst l) := rfl
theorem list_l : listD ah [.lst l] = some (.lst l) := rfl
theorem list_t : listD ah [.tup l] = some (.lst l) := rfl
theorem tup_s : tupD ah [.scr l] = some (.tup l) := rfl
theorem tup_l : tupD ah [.lst l] = some (.tup l) := rfl
theorem tup_t : tupD ah [.tup l] = some (.tup l) := rfl
theorem len_l : lenD ah [.lst l] = some (.int l.length) := rfl
theorem len_t : lenD ah [.tup l] = some (.int l.length) := rfl
theorem len_r : lenD ah [.scr l] = some (.int l.length) := rfl
theorem len_s (h : v.length ≤ sizeLine) : lenD ah [.str v] = some (.int v.length) := if_pos h
theorem idx_l : idxD ah (.lst l) (.int p) = atI l p := rfl
theorem idx_t : idxD ah (.tup l) (.int p) = atI l p := rfl
theorem idx_r : idxD ah (.scr l) (.int p) = atI l p := rfl
theorem sl_l {o o' : Option Int} : slD (.lst l) o o' = some (.lst (cutD l o o')) := rfl
theorem sl_t {o o' : Option Int} : slD (.tup l) o o' = some (.tup (cutD l o o')) := rfl
/-! bounds -/
theorem mulOk_l (h : -(2 ^ 64) < p ∧ p < 2 ^ 64) : mulOk p q := .inl (.inl h)
theorem mulOk_r (h : -(2 ^ 64) < q ∧ q < 2 ^ 64) : mulOk p q := .inl (.inr h)
theorem mulOk_w {a b : Nat} (ha : p.natAbs < 2 ^ a) (hb : q.natAbs < 2 ^ b) (h0 : 0 < a) (h1 : 0 < b) (h : a + b ≤ 1000000) : mulOk p q := .inr (wide_mul ha hb h0 h1 h)
theorem divOk_w {b : Nat} (h : q ≠ 0) (hb : q.natAbs < 2 ^ b) (h0 : 0 < b) (h9 : b ≤ 9000) : divOk q := ⟨h, Nat.lt_of_lt_of_le (PySem.Flt.log2_lt_of h0 hb) h9⟩
theorem log_w {a : Nat} (ha : p.natAbs < 2 ^ a) (h0 : 0 < a) (h : a ≤ 1920) : p.natAbs.log2 < 1920 := Nat.lt_of_lt_of_le (PySem.Flt.log2_lt_of h0 ha) h
end
end G
namespace G
open PySem PySem.Spec PyProof.Rows L2
theorem fld_at {fl : Nat → List Str} {f : Str} {ah : AH} {c i : Nat} {l : List D} {d : D} (h : flIx (fl c) f = some i) (e : l[i]? = some d) : fldD fl f ah (.obj c l) = some d := by
  show (flIx (fl c) f).bind (fun i => l[i]?) = some d
  rw [h]
  exact e
theorem put_at {ns : List Str} {f : Str} {i : Nat} {l : List D} {d : D} (h : flIx ns f = some i) (e : l.length = i) : putD ns f d l = some (l ++ [d]) := by
  unfold putD
  rw [h]
  simp only
  rw [if_neg (by omega), if_pos e.symm]
end G
/-! while, as steps; places -/
namespace G
open PySem PySem.Spec PyProof.Rows L2
section
variable {c : CT} {s : CS} {n : Nat} {env : En} {ah : AH} {e : Nat} {l : List D} {d : D}
def whK (c : CT) (s : CS) (n : Nat) (z : SRes) : SRes := match z with
  | .nx env' ah' => whL c s n env' ah'
  | .ct env' ah' => whL c s n env' ah'
  | .bk env' ah' => .nx env' ah'
  | z => z
def whC (c : CT) (s : CS) (n : Nat) (env : En) (r : Res Bool) : SRes := SRes.of env r fun k ah1 => if k = true then whK c s n (s env ah1) else .nx env ah1
theorem whL_succ : whL c s (n + 1) env ah = whC c s n env (c env ah) := by
  rw [whL]
  unfold whC whK
  cases c env ah with
  | ok k ah1 =>
    simp only [of_ok] <;> (split <;> first | rfl | (cases s env ah1 <;> rfl))
  | exc _ _ _ => rfl
  | bad => rfl
theorem whC_t : whC c s n env (.ok true ah) = whK c s n (s env ah) := rfl
theorem whC_f : whC c s n env (.ok false ah) = .nx env ah := rfl
theorem whK_nx : whK c s n (.nx env ah) = whL c s n env ah := rfl
theorem whK_ct : whK c s n (.ct env ah) = whL c s n env ah := rfl
theorem whK_bk : whK c s n (.bk env ah) = .nx env ah := rfl
theorem whK_rt : whK c s n (.rt d ah) = .rt d ah := rfl
theorem while_nx {env' : En} {ah' : AH} (h : whL c s n env ah = .nx env' ah') : cWhile c s env ah = .nx env' ah' := while_eq h (by intro z; cases z)
theorem at_mem {l : List D} {i : Int} (h0 : 0 ≤ i) (h : i < l.length) : ∃ d ∈ l, atI l i = some d := by
  have hj : ixN l.length i = some i.toNat := by
    unfold ixN
    split <;> rename_i q <;> first | omega | skip
    simp_all
  refine ⟨l[i.toNat]'(by omega), List.getElem_mem _, ?_⟩
  unfold atI
  rw [hj]
  exact List.getElem?_eq_getElem (by omega)
end
end G
namespace G
open PySem PySem.Spec PyProof.Rows L2
section
variable {α : Type} {a b c d e : α} {l : List α}
theorem at_0 : atI (a :: l) 0 = some a := by
  unfold atI ixN
  rw [if_pos (by decide), if_pos (by simp only [List.length_cons]; omega)]
  rfl
theorem at_1 : atI (a :: b :: l) 1 = some b := by
  unfold atI ixN
  rw [if_pos (by decide), if_pos (by simp only [List.length_cons]; omega)]
  rfl
theorem at_2 : atI (a :: b :: c :: l) 2 = some c := by
  unfold atI ixN
  rw [if_pos (by decide), if_pos (by simp only [List.length_cons]; omega)]
  rfl
theorem at_3 : atI (a :: b :: c :: d :: l) 3 = some d := by
  unfold atI ixN
  rw [if_pos (by decide), if_pos (by simp only [List.length_cons]; omega)]
  rfl
theorem at_4 : atI (a :: b :: c :: d :: e :: l) 4 = some e := by
  unfold atI ixN
  rw [if_pos (by decide), if_pos (by simp only [List.length_cons]; omega)]
  rfl
end
theorem eqv_t2 {ah : AH} {p q r s : Int} : neD ah (.tup [.int p, .int q]) (.tup [.int r, .int s]) = some (.bl (!(decide (p = r) && decide (q = s)))) := by
  have e : eqB (.tup [.int p, .int q]) (.tup [.int r, .int s]) = some (PyData.eqv (.tuple [.int p, .int q]) (.tuple [.int r, .int s])) := rfl
  unfold neD
  rw [e]
  have e2 : PyData.eqv (.tuple [.int p, .int q]) (.tuple [.int r, .int s]) = (decide (p = r) && decide (q = s)) := by
    by_cases h1 : p = r <;> by_cases h2 : q = s <;> simp [PyData.eqv, PyData.eqvAll, h1, h2]
  rw [e2]
  rfl
theorem txt_len {a : Int} {k : Nat} (hk : 0 < k) (h : a.natAbs < 2 ^ k) : (toString a : Str).length ≤ k + 1 := by
  have e := int_text_length_le (a := a) hk (PySem.Flt.log2_lt_of hk h)
  show (Str.ofString (toString a)).length ≤ k + 1
  rw [PySem.ofString_length]
  exact e
end G
namespace G
open PySem PySem.Spec PyProof.Rows L2
theorem eq_t2 {ah : AH} {p q r s : Int} : eqD ah (.tup [.int p, .int q]) (.tup [.int r, .int s]) = some (.bl (decide (p = r) && decide (q = s))) := by
  have e : eqB (.tup [.int p, .int q]) (.tup [.int r, .int s]) = some (PyData.eqv (.tuple [.int p, .int q]) (.tuple [.int r, .int s])) := rfl
  unfold eqD
  rw [e]
  have e2 : PyData.eqv (.tuple [.int p, .int q]) (.tuple [.int r, .int s]) = (decide (p = r) && decide (q = s)) := by
    by_cases h1 : p = r <;> by_cases h2 : q = s <;> simp [PyData.eqv, PyData.eqvAll, h1, h2]
  rw [e2]
  rfl
end G
/-! The engine, part 12: reading a slot's own list; lists unpacked. -/
namespace G
open PySem PySem.Spec PyProof.Rows L2
section
variable {X : Cx} {t : Tb} {W : WX} {w0 : Wd} {H0 : Bs} {xa xb : CE} {ca : CA} {a b e o : Expr} {es : List Expr} {pos : Pos}
def cIxS (i : Nat) (k : CE) : CE := fun env ah => match env[i]? with
  | some (.val d) => (k env ah).bind fun y ah2 => ofO (idxD ah2 d y) ah2
  | some (.own (.lst l)) => (k env ah).bind fun y ah2 => match y with
    | .int n => ofO (atI l n) ah2
    | _ => .bad
  | _ => .bad
theorem q_ixS (i : Nat) {x : Str} {p : Pos} (hb : PE X b (tE t W H0 xb)) (hN : X.N[i]? = some x := by rfl) (hv : Vis X.env.scope x := by first | exact Or.inl rfl | exact Or.inr (Or.inl rfl) | exact Or.inr (Or.inr rfl)) (hd : (x == ("__debug__" : Str)) = false := by decide)
    (hcd : (x == ("__classdict__" : Str)) = false := by decide) (hs : PlainIx b := by exact fun _ _ => rfl) (hK : t.K = X.K := by rfl) : PE X (.Subscript (.Name x p) b pos) (tE t W H0 (cIxS i xb)) := by
  refine PE.imp (pe_ix ix_seq (pv i hN hv hd hcd) hb hs) ?_
  rintro σ H Q ⟨w, env, ah, A, R, P⟩
  unfold cIxS at P
  split at P
  · rename_i d he
    obtain ⟨v, hv, r⟩ := R.slot i _ he
    refine ⟨v, hv, w, env, ah, A, R, post_bind P fun y ah2 w2 u H2 s2 A2 r2 P2 => ?_⟩
    cases e : idxD ah2 d y with
    | none => rw [e] at P2; exact False.elim P2
    | some z =>
      rw [e] at P2
      exact bs_idx hK w2 ah2 H2 d y z v u _ A2 (Rep.mono s2.le d r) r2 e fun w' z' H' s' A' rz => P2 w' z' H' s' A' rz
  · rename_i l he
    obtain ⟨p, ob, q1, q2, q3, q4, q5, q6, q7⟩ := R.slot i _ he
    obtain ⟨m1, vs, m2, m3⟩ := q3
    refine ⟨.ref p, q1, w, env, ah, A, R, post_bind P fun y ah2 w2 u H2 s2 A2 r2 P2 => ?_⟩
    obtain ⟨n1, n2, n3⟩ := stay_at s2 m2 m1 q5
    split at P2
    · rename_i n
      simp only [Rep] at r2
      cases e : atI l n with
      | none => rw [e] at P2; exact False.elim P2
      | some d =>
        rw [e] at P2
        obtain ⟨z, z1, z2⟩ := atI_reps (Reps.mono s2.le l m3) e
        exact .inl ⟨p, vs, n, z, rfl, r2, SqL.of n1, z1, post_ok P2 A2 z2⟩
    · exact False.elim P2
  · exact False.elim P
def cLenS (i : Nat) : CE := fun env ah => match env[i]? with
  | some (.own (.lst l)) => .ok (.int l.length) ah
  | some (.val d) => ofO (lenD ah [d]) ah
  | _ => .bad
def gAnyN (is : List Nat) : TgD := fun d env => match d with
  | .tup l => gNs is l env
  | .lst l => gNs is l env
  | _ => none
def gAny (K : PySem.W.Frag) (n : Nat) (t : TGs) : TG := fun v σ H Q => gTup K n t v σ H Q ∨ gLst K n t v σ H Q
theorem pg_any {es : List Expr} {k : Nat} {t : TGs} {n : Nat} (hc : X.calm = true) (h : PGs X es t)
    (hn : (assignEach es X.env).length = n := by rfl) (hst : (assignEach es X.env).findIdx? (·.1) = none := by rfl) : PG X (.Tuple es k pos) (gAny X.K n t) := by
  refine ⟨fun pins s σ H v u Q I r hw => ?_⟩
  rcases hw with hw | hw
  · exact (pg_tup hc h hn hst).run pins s σ H v u Q I r hw
  · exact (pg_lst hc h hn hst).run pins s σ H v u Q I r hw
theorem tg_any (is : List Nat) : TgS t is (gAnyN is) (gAny t.K is.length (gSeq is)) := by
  intro H0 w ah env env' σ H d v Q A E r e q
  unfold gAnyN at e
  split at e
  · rename_i l
    simp only [Rep] at r
    obtain ⟨p, vs, rfl, h1, h2⟩ := r
    exact .inl ⟨p, vs, rfl, same_sqT A.sub h1, by rw [← reps_len h2, gNs_len is e], tgs_names is A E h2 e q⟩
  · rename_i l
    simp only [Rep] at r
    obtain ⟨p, vs, rfl, h1, h2⟩ := r
    exact .inr ⟨p, vs, rfl, SqL.of (A.sub _ _ h1), by rw [← reps_len h2, gNs_len is e], tgs_names is A E h2 e q⟩
  · cases e
end
theorem eqB_refl {x : D} {p : PyData} (h : pd x = some p) (hs : scD x = none) (hz : SeqAt.shaped p = true) (hr : PyData.eqv p p = true) : eqB x x = some true := by
  unfold eqB
  rw [hs, h]
  simp only [hz, Bool.and_self, if_true, hr]
section
variable {l : List D} {env : En} {ah : AH} {i : Nat} {k : CE} {is : List Nat} {z n : Int} {d y : D}
def ixS1 (l : List D) (r : Res D) : Res D := r.bind fun y ah2 => match y with
  | .int n => ofO (atI l n) ah2
  | _ => .bad
def ixS0 (s : Option Sl) (k : CE) (env : En) (ah : AH) : Res D := match s with
  | some (.val d) => bin2 idxD d (k env ah)
  | some (.own (.lst l)) => ixS1 l (k env ah)
  | _ => .bad
theorem ev_ixS : cIxS i k env ah = ixS0 env[i]? k env ah := rfl
theorem ixS0_val : ixS0 (some (.val d)) k env ah = bin2 idxD d (k env ah) := rfl
theorem ixS0_own : ixS0 (some (.own (.lst l))) k env ah = ixS1 l (k env ah) := rfl
theorem ixS1_ok : ixS1 l (.ok (.int n) ah) = ofO (atI l n) ah := rfl
theorem gAny_t : gAnyN is (.tup l) env = gNs is l env := rfl
theorem gAny_l : gAnyN is (.lst l) env = gNs is l env := rfl
def newL1 (i : Nat) (env : En) (r : Res (List D)) : SRes := SRes.of env r fun l ah1 => if l.length ≤ 1000 then .nx (env.set i (.own (.lst l))) ah1 else .bad
theorem ev_newL {ar : CA} : cNewL i ar env ah = newL1 i env (ar env ah) := rfl
theorem newL1_ok : newL1 i env (.ok l ah) = if l.length ≤ 1000 then .nx (env.set i (.own (.lst l))) ah else .bad := rfl
def app1 (l : List D) (i : Nat) (env : En) (r : Res D) : SRes := SRes.of env r fun d ah1 => if l.length < 10000000 then .nx (env.set i (.own (.lst (l ++ [d])))) ah1 else .bad
def app0 (s : Option Sl) (i : Nat) (k : CE) (env : En) (ah : AH) : SRes := match s with
  | some (.own (.lst l)) => app1 l i env (k env ah)
  | _ => .bad
theorem ev_app : cApp i k env ah = app0 env[i]? i k env ah := rfl
theorem app0_own : app0 (some (.own (.lst l))) i k env ah = app1 l i env (k env ah) := rfl
theorem app1_ok : app1 l i env (.ok d ah) = if l.length < 10000000 then .nx (env.set i (.own (.lst (l ++ [d])))) ah else .bad := rfl
def setI3 (l : List D) (d : D) (i : Nat) (env : En) (n : Int) (ah : AH) : SRes := match ixN l.length n with
  | some j => .nx (env.set i (.own (.lst (l.set j d)))) ah
  | none => .bad
def setI2 (l : List D) (d : D) (i : Nat) (env : En) (r : Res D) : SRes := SRes.of env r fun x ah2 => match x with
  | .int n => setI3 l d i env n ah2
  | _ => .bad
def setI1 (l : List D) (i : Nat) (k : CE) (env : En) (r : Res D) : SRes := SRes.of env r fun d ah1 => setI2 l d i env (k env ah1)
def setI0 (s : Option Sl) (i : Nat) (c k : CE) (env : En) (ah : AH) : SRes := match s with
  | some (.own (.lst l)) => setI1 l i k env (c env ah)
  | _ => .bad
theorem ev_setI {c : CE} : cSetI i c k env ah = setI0 env[i]? i c k env ah := rfl
theorem setI0_own {c : CE} : setI0 (some (.own (.lst l))) i c k env ah = setI1 l i k env (c env ah) := rfl
theorem setI1_ok : setI1 l i k env (.ok d ah) = setI2 l d i env (k env ah) := rfl
theorem setI2_ok : setI2 l d i env (.ok (.int n) ah) = setI3 l d i env n ah := rfl
theorem setI3_ok {j : Nat} (h : ixN l.length n = some j) : setI3 l d i env n ah = .nx (env.set i (.own (.lst (l.set j d)))) ah := by
  unfold setI3
  rw [h]
def frz0 (s : Option Sl) (i : Nat) (env : En) : En := match s with
  | some (.own (.lst l)) => env.set i (.val (.lst l))
  | _ => env
theorem ev_frz {s : CS} : cFrz i s env ah = s (frz0 env[i]? i env) ah := rfl
theorem frz0_own : frz0 (some (.own (.lst l))) i env = env.set i (.val (.lst l)) := rfl
theorem frz0_val : frz0 (some (.val d)) i env = env := rfl
def lc2 (vs : List Nat) (f : TgD) (tt : CT) (te : CE) (env : En) (l : List D) (y : D) (z : Res (List D)) : Res (List D) := z.bind fun ys ah3 => .ok (y :: ys) ah3
def lcB (vs : List Nat) (f : TgD) (tt : CT) (te : CE) (env : En) (l : List D) (z : Res D) : Res (List D) := (noX z).bind fun y ah2 => lc2 vs f tt te env l y (lcL vs f tt te env l ah2)
def lcA (vs : List Nat) (f : TgD) (tt : CT) (te : CE) (env env1 : En) (l : List D) (z : Res Bool) : Res (List D) := (noX z).bind fun k ah1 => if k = true then lcB vs f tt te env l (te env1 ah1) else lcL vs f tt te env l ah1
def lcO (vs : List Nat) (f : TgD) (tt : CT) (te : CE) (env : En) (l : List D) (o : Option En) (ah : AH) : Res (List D) := match o with
  | none => .bad
  | some env1 => lcA vs f tt te env env1 l (tt env1 ah)
variable {vs : List Nat} {f : TgD} {tt : CT} {te : CE} {env1 : En}
theorem lcL_nil : lcL vs f tt te env [] ah = .ok [] ah := rfl
theorem lcL_cons : lcL vs f tt te env (d :: l) ah = lcO vs f tt te env l (f d (wipeE env vs)) ah := by
  rw [lcL]
  cases f d (wipeE env vs) <;> rfl
theorem lcO_some : lcO vs f tt te env l (some env1) ah = lcA vs f tt te env env1 l (tt env1 ah) := rfl
theorem lcA_t : lcA vs f tt te env env1 l (.ok true ah) = lcB vs f tt te env l (te env1 ah) := rfl
theorem lcA_f : lcA vs f tt te env env1 l (.ok false ah) = lcL vs f tt te env l ah := rfl
theorem lcB_ok : lcB vs f tt te env l (.ok y ah) = lc2 vs f tt te env l y (lcL vs f tt te env l ah) := rfl
theorem lc2_ok {m : List D} : lc2 vs f tt te env l y (.ok m ah) = .ok (y :: m) ah := rfl
theorem ev_yes : cYes env ah = .ok true ah := rfl
theorem wipe_nil : wipeE env [] = env := rfl
theorem wipe_cons : wipeE env (i :: vs) = (wipeE env vs).set i .no := rfl
def lcE (r : Res (List D)) : Res D := r.bind fun ys ah2 => .ok (.lst ys) ah2
def lc0 (vs : List Nat) (f : TgD) (tt : CT) (te : CE) (env : En) (r : Res (List D)) : Res D := r.bind fun l ah1 => if l.length ≤ 10000000 then lcE (lcL vs f tt te env l ah1) else .bad
theorem ev_lc {it : CIt} : cLc it vs f tt te env ah = lc0 vs f tt te env (it env ah) := rfl
theorem lc0_ok : lc0 vs f tt te env (.ok l ah) = if l.length ≤ 10000000 then lcE (lcL vs f tt te env l ah) else .bad := rfl
theorem lcE_ok : lcE (.ok l ah) = .ok (.lst l) ah := rfl
theorem it_l : itD (.lst l) = some l := rfl
theorem it_t : itD (.tup l) = some l := rfl
theorem it_r : itD (.scr l) = some l := rfl
end
end G
/-! The engine, part 13: methods of texts, constants of a module. -/
namespace G
open PySem PySem.Spec PyProof.Rows L2
section
variable {X : Cx} {t : Tb} {W : WX} {w0 : Wd} {H0 : Bs} {xa xb : CE} {ca : CA} {a b e o : Expr} {es : List Expr} {pos : Pos}
theorem reps_strs {w : Wd} : ∀ (ys : List Str), Reps t w (ys.map D.str) (ys.map V.str)
  | [] => by
    show Reps t w [] []
    simp only [Reps]
  | y :: r => by
    show Reps t w (D.str y :: r.map D.str) (V.str y :: r.map V.str)
    simp only [Reps]
    exact ⟨.str y, r.map V.str, rfl, by simp only [Rep], reps_strs r⟩
def strsD : List D → Option (List Str)
  | [] => some []
  | .str s :: r => (strsD r).map (s :: ·)
  | _ => none
theorem strs_rep {w : Wd} : ∀ {l : List D} {vs : List V} {ss : List Str}, Reps t w l vs → strsD l = some ss → vs = ss.map V.str
  | [], vs, ss, r, e => by
    simp only [strsD] at e
    cases e
    simp only [Reps] at r
    subst r
    rfl
  | d :: l, vs, ss, r, e => by
    simp only [Reps] at r
    obtain ⟨v, vr, rfl, h1, h2⟩ := r
    cases d <;> simp only [strsD, reduceCtorEq] at e
    rename_i s
    cases q : strsD l with
    | none => rw [q] at e; cases e
    | some cs =>
      rw [q] at e
      cases e
      simp only [Rep] at h1
      subst h1
      rw [strs_rep h2 q]
      rfl
theorem strsD_map : ∀ ss : List Str, strsD (ss.map D.str) = some ss
  | [] => rfl
  | s :: r => by
    show (strsD (r.map D.str)).map (s :: ·) = _
    rw [strsD_map r]
    rfl
abbrev BMF := AH → D → List D → Option D
def splitD : BMF := fun _ x l => match x, l with
  | .str a, [.str b] => if (b.length == 0) = false ∧ a.length + 2 ≤ sizeLine then some (.lst ((Txt.split a b).map D.str)) else none
  | _, _ => none
theorem bs_split : BmS t "str" splitD (fun x xs H Q => ∃ a b, x = .str a ∧ xs = [.str b] ∧ (b.length == 0) = false ∧ a.length + 2 ≤ sizeLine ∧ rNewStrs (Txt.split a b) H Q) := by
  intro w ah H x l d v vs Q A rx rl e q
  unfold splitD at e
  split at e
  case h_2 => cases e
  rename_i a b
  split at e
  case isFalse => cases e
  rename_i hz
  cases e
  obtain ⟨u, rfl, ru⟩ := reps1 rl
  simp only [Rep] at rx ru
  refine ⟨a, b, rx, by rw [ru], hz.1, hz.2, fun p hp => ?_⟩
  obtain ⟨s, A'⟩ := stp_add (o := .lst ((Txt.split a b).map V.str)) A hp
  refine q _ _ _ s A' ?_
  simp only [Rep]
  exact ⟨p, _, rfl, add_at, reps_strs _⟩
def joinD : BMF := fun _ x l => match x, l with
  | .str a, [.lst m] => (strsD m).bind fun ys => if (ys.map (·.length)).sum + ys.length * a.length ≤ 16777216 then some (.str (Txt.join a ys)) else none
  | .str a, [.tup m] => (strsD m).bind fun ys => if (ys.map (·.length)).sum + ys.length * a.length ≤ 16777216 then some (.str (Txt.join a ys)) else none
  | _, _ => none
theorem bs_join (hK : t.K = X.K := by rfl) : BmS t "str" joinD (fun x xs H Q => ∃ a p, ∃ ys : List Str, x = .str a ∧ xs = [.ref p] ∧ (SqL X.K H p (ys.map V.str) ∨ SqT X.K H p (ys.map V.str)) ∧ (ys.map (·.length)).sum + ys.length * a.length ≤ 16777216 ∧ Q (.str (Txt.join a ys)) H) := by
  intro w ah H x l d v vs Q A rx rl e q
  unfold joinD at e
  split at e
  · rename_i a m
    obtain ⟨u, rfl, ru⟩ := reps1 rl
    simp only [Rep] at rx ru
    obtain ⟨p, us, rfl, h1, h2⟩ := ru
    cases hs : strsD m with
    | none => rw [hs] at e; cases e
    | some ys =>
      rw [hs, Option.bind_some] at e
      split at e
      · rename_i hz
        cases e
        have eu := strs_rep h2 hs
        subst eu
        exact ⟨a, p, ys, rx, rfl, .inl (SqL.of (A.sub _ _ h1)), hz, fin0 A q (by simp only [Rep])⟩
      · cases e
  · rename_i a m
    obtain ⟨u, rfl, ru⟩ := reps1 rl
    simp only [Rep] at rx ru
    obtain ⟨p, us, rfl, h1, h2⟩ := ru
    cases hs : strsD m with
    | none => rw [hs] at e; cases e
    | some ys =>
      rw [hs, Option.bind_some] at e
      split at e
      · rename_i hz
        cases e
        have eu := strs_rep h2 hs
        subst eu
        rw [hK] at h1
        exact ⟨a, p, ys, rx, rfl, .inr (same_sqT A.sub h1), hz, fin0 A q (by simp only [Rep])⟩
      · cases e
  · cases e
def partitionD : BMF := fun _ x l => match x, l with
  | .str a, [.str b] => if (b.length == 0) = false ∧ a.length ≤ sizeLine then some (.tup [.str (Txt.partition a b).1, .str (Txt.partition a b).2.1, .str (Txt.partition a b).2.2]) else none
  | _, _ => none
theorem bs_partition : BmS t "str" partitionD (fun x xs H Q => ∃ a b, x = .str a ∧ xs = [.str b] ∧ (b.length == 0) = false ∧ a.length ≤ sizeLine ∧ ∀ p, H p = none → Q (.ref p) (upd H p (.tup [.str (Txt.partition a b).1, .str (Txt.partition a b).2.1, .str (Txt.partition a b).2.2]))) := by
  intro w ah H x l d v vs Q A rx rl e q
  unfold partitionD at e
  split at e
  case h_2 => cases e
  rename_i a b
  split at e
  case isFalse => cases e
  rename_i hz
  cases e
  obtain ⟨u, rfl, ru⟩ := reps1 rl
  simp only [Rep] at rx ru
  refine ⟨a, b, rx, by rw [ru], hz.1, hz.2, fun p hp => ?_⟩
  obtain ⟨s, A'⟩ := stp_add (o := .tup [.str (Txt.partition a b).1, .str (Txt.partition a b).2.1, .str (Txt.partition a b).2.2]) A hp
  refine q _ _ _ s A' ?_
  simp only [Rep]
  exact ⟨p, _, rfl, SqT.of add_at, reps_strs [(Txt.partition a b).1, (Txt.partition a b).2.1, (Txt.partition a b).2.2]⟩
def startsD : BMF := fun _ x l => match x, l with
  | .str a, [.str b] => some (.bl (Txt.startswith a b))
  | _, _ => none
def endsD : BMF := fun _ x l => match x, l with
  | .str a, [.str b] => some (.bl (Txt.endswith a b))
  | _, _ => none
theorem bs_starts : BmS t "str" startsD (fun x xs H Q => ∃ a b, x = .str a ∧ xs = [.str b] ∧ Q (.bl (Txt.startswith a b)) H) := by
  intro w ah H x l d v vs Q A rx rl e q
  unfold startsD at e
  split at e
  case h_2 => cases e
  rename_i a b
  cases e
  obtain ⟨u, rfl, ru⟩ := reps1 rl
  simp only [Rep] at rx ru
  exact ⟨a, b, rx, by rw [ru], fin0 A q (by simp only [Rep])⟩
theorem bs_ends : BmS t "str" endsD (fun x xs H Q => ∃ a b, x = .str a ∧ xs = [.str b] ∧ Q (.bl (Txt.endswith a b)) H) := by
  intro w ah H x l d v vs Q A rx rl e q
  unfold endsD at e
  split at e
  case h_2 => cases e
  rename_i a b
  cases e
  obtain ⟨u, rfl, ru⟩ := reps1 rl
  simp only [Rep] at rx ru
  exact ⟨a, b, rx, by rw [ru], fin0 A q (by simp only [Rep])⟩
/-! ### is True -/
def isBD : F2 := fun _ x y => match x, y with
  | .bl a, .bl b => some (.bl (decide (a = b)))
  | _, _ => none
def notBD : F2 := fun _ x y => match x, y with
  | .bl a, .bl b => some (.bl (!decide (a = b)))
  | _, _ => none
theorem bs_isB : BinS t isBD (fun x y H Q => ∃ a b, x = .bl a ∧ y = .bl b ∧ Q (.bl (decide (a = b))) H) := by
  intro w ah H x y d v u Q A rx ry e q
  cases x <;> cases y <;> simp only [isBD, reduceCtorEq] at e <;> simp only [Rep] at rx ry
  cases e
  exact ⟨_, _, rx, ry, fin0 A q (by simp only [Rep])⟩
theorem bs_notB : BinS t notBD (fun x y H Q => ∃ a b, x = .bl a ∧ y = .bl b ∧ Q (.bl (!decide (a = b))) H) := by
  intro w ah H x y d v u Q A rx ry e q
  cases x <;> cases y <;> simp only [notBD, reduceCtorEq] at e <;> simp only [Rep] at rx ry
  cases e
  exact ⟨_, _, rx, ry, fin0 A q (by simp only [Rep])⟩
/-! ### constants of a module -/
theorem q_globI {x : Str} {i : Int} {pos : Pos} (hm : ∃ tk, X.mg x = some (.int i tk)) (hg : Gl X x := by rfl) (hd : (x == ("__debug__" : Str)) = false := by decide) : PE X (.Name x pos) (tE t W H0 (cC (.int i))) := by
  obtain ⟨tk, h⟩ := hm
  exact q_glob (v := .int i) h ⟨tk, rfl⟩ (fun w => by simp only [Rep]) hg hd
theorem q_globS {x s : Str} {pos : Pos} (hm : ∃ tk, X.mg x = some (.str s tk)) (hg : Gl X x := by rfl) (hd : (x == ("__debug__" : Str)) = false := by decide) : PE X (.Name x pos) (tE t W H0 (cC (.str s))) := by
  obtain ⟨tk, h⟩ := hm
  exact q_glob (v := .str s) h ⟨tk, rfl⟩ (fun w => by simp only [Rep]) hg hd
/-- a tuple that the module's text made -/
structure KTup (K : PySem.W.Frag) (mg : Str → Option Value) (x : Str) (l : List D) : Prop where
  ex : ∃ (a : Addr) (oc : Option Addr) (its : List Value) (n : Nat) (sl : Array (Option Value)) (vs : List V), mg x = some (.ref a) ∧ K.lookup a = some ⟨.type "tuple", oc, .seq its.toArray n, sl⟩ ∧ l.map scD = vs.map some ∧ Vals vs its ∧ its.length ≤ sizeLine
theorem q_globT {x : Str} {l : List D} {pos : Pos} (hm : KTup X.K X.mg x l) (hK : t.K = X.K := by rfl) (hg : Gl X x := by rfl) (hd : (x == ("__debug__" : Str)) = false := by decide) : PE X (.Name x pos) (tE t W H0 (cC (.tup l))) := by
  obtain ⟨a, oc, its, n, sl, vs, h1, h2, h3, h4, h5⟩ := hm.ex
  refine q_glob (v := .ref a) h1 rfl (fun w => ?_) hg hd
  simp only [Rep]
  refine ⟨a, vs, rfl, .inr ⟨_, its.toArray, n, by rw [hK]; exact h2, rfl, rfl, ?_, by simpa using h4⟩, scD_reps h3⟩
  simpa using h5
end
section
variable {ah : AH} {a b : Str} {l : List D} {ys : List Str}
theorem split_ap (h : (b.length == 0) = false) (h2 : a.length + 2 ≤ sizeLine) : splitD ah (.str a) [.str b] = some (.lst ((Txt.split a b).map D.str)) := if_pos ⟨h, h2⟩
theorem part_ap (h : (b.length == 0) = false) (h2 : a.length ≤ sizeLine) : partitionD ah (.str a) [.str b] = some (.tup [.str (Txt.partition a b).1, .str (Txt.partition a b).2.1, .str (Txt.partition a b).2.2]) := if_pos ⟨h, h2⟩
theorem join_ap (h : (ys.map (·.length)).sum + ys.length * a.length ≤ 16777216) : joinD ah (.str a) [.lst (ys.map D.str)] = some (.str (Txt.join a ys)) := by
  show (strsD (ys.map D.str)).bind _ = _
  rw [strsD_map]
  exact if_pos h
theorem ev_starts : startsD ah (.str a) [.str b] = some (.bl (Txt.startswith a b)) := rfl
theorem ev_ends : endsD ah (.str a) [.str b] = some (.bl (Txt.endswith a b)) := rfl
theorem ev_isB {p q : Bool} : isBD ah (.bl p) (.bl q) = some (.bl (decide (p = q))) := rfl
theorem ev_notB {p q : Bool} : notBD ah (.bl p) (.bl q) = some (.bl (!decide (p = q))) := rfl
theorem ev_itS {z : Str} : itD (.str z) = some (z.cps.toList.map chD) := rfl
theorem ev_isStr : isStr (.str a) = true := rfl
theorem ev_isLst : isLst (.lst l) = true := rfl
end
end G
/-! The engine, part 14: plain laws of texts. -/
namespace G
open PySem PySem.Spec PyProof.Rows L2
section
variable {ah : AH} {a b z : Str} {l : List D} {ys ss : List Str} {c : Nat}
def sOk (s : Str) : Prop := ∀ c ∈ s.cps.toList, c < 128
theorem sOk_str {s : Str} (h : sOk s) : PyData.strOk s = true := by
  unfold PyData.strOk
  rw [Array.all_eq_true']
  intro c hc
  have := h c (by simpa using hc)
  simp only [decide_eq_true_eq]
  omega
theorem pds_strs : ∀ ss : List Str, pds (ss.map D.str) = some (ss.map PyData.str)
  | [] => rfl
  | s :: r => by
    show (match pd (.str s), pds (r.map D.str) with | some a, some b => some (a :: b) | _, _ => none) = _
    rw [pds_strs r]
    rfl
theorem lay_strs : ∀ ss : List Str, (∀ s ∈ ss, sOk s) → PyData.canLayAll0 (ss.map PyData.str) = true
  | [], _ => by simp [PyData.canLayAll0]
  | s :: r, h => by
    have e := lay_strs r fun x hx => h x (List.mem_cons_of_mem _ hx)
    have e2 := sOk_str (h s (List.mem_cons_self ..))
    simp [PyData.canLayAll0, PyData.canLay0, e, e2]
theorem depth_strs : ∀ ss : List Str, PyData.depthAll (ss.map PyData.str) = 0
  | [] => by simp [PyData.depthAll]
  | s :: r => by
    have := depth_strs r
    simp [PyData.depthAll, PyData.depth, this]
theorem shaped_strs (h : ∀ s ∈ ss, sOk s) : SeqAt.shaped (.list (ss.map PyData.str)) = true := by
  unfold SeqAt.shaped
  rw [Bool.and_eq_true]
  refine ⟨by simp only [PyData.canLay0]; exact lay_strs ss h, ?_⟩
  simp [PyData.depth, depth_strs ss]
theorem eqv_strs : ∀ ss ts : List Str, PyData.eqvAll (ss.map PyData.str) (ts.map PyData.str) = decide (ss = ts)
  | [], [] => by simp [PyData.eqvAll]
  | [], t :: r => by simp [PyData.eqvAll]
  | s :: r, [] => by simp [PyData.eqvAll]
  | s :: r, t :: q => by
    have := eqv_strs r q
    simp [PyData.eqvAll, PyData.eqv, this]
    by_cases h1 : s = t <;> by_cases h2 : r = q <;> simp [h1, h2]
theorem eq_strs {ts : List Str} (h : ∀ s ∈ ss, sOk s) (h2 : ∀ s ∈ ts, sOk s) : eqD ah (.lst (ss.map D.str)) (.lst (ts.map D.str)) = some (.bl (decide (ss = ts))) := by
  have p1 : pd (.lst (ss.map D.str)) = some (.list (ss.map PyData.str)) := by
    show (pds (ss.map D.str)).map PyData.list = _
    rw [pds_strs]
    rfl
  have p2 : pd (.lst (ts.map D.str)) = some (.list (ts.map PyData.str)) := by
    show (pds (ts.map D.str)).map PyData.list = _
    rw [pds_strs]
    rfl
  have e : eqB (.lst (ss.map D.str)) (.lst (ts.map D.str)) = some (decide (ss = ts)) := by
    unfold eqB
    have s1 : scD (.lst (ss.map D.str)) = none := rfl
    rw [s1, p1, p2]
    simp only [shaped_strs h, shaped_strs h2, Bool.and_self, if_true]
    show some (PyData.eqvAll (ss.map PyData.str) (ts.map PyData.str)) = _
    rw [eqv_strs]
  unfold eqD
  rw [e]
  rfl
theorem eq_nil (h : ∀ s ∈ ss, sOk s) : eqD ah (.lst (ss.map D.str)) (.lst []) = some (.bl (decide (ss = []))) := eq_strs (ts := []) h (fun s hs => by cases hs)
theorem inS_ap : inSD ah (.str ⟨#[c]⟩) (.str z) = some (.bl (decide (c ∈ z.cps.toList))) := rfl
theorem notInS_ap : notInSD ah (.str ⟨#[c]⟩) (.str z) = some (.bl (!decide (c ∈ z.cps.toList))) := rfl
theorem idx_s {p : Int} (h : z.length ≤ sizeLine) : idxD ah (.str z) (.int p) = (atI z.cps.toList p).map fun c => .str ⟨#[c]⟩ := if_pos h
/-! pieces of a text -/
theorem spl_mem (S : List Nat) : ∀ (k : Nat) (acc l : List Nat) (p : List Nat), p ∈ TL.spl S k acc l → (p.length ≤ acc.length + l.length) ∧ ∀ c ∈ p, c ∈ acc ∨ c ∈ l
  | k, acc, [], p, h => by
    have e : p = acc := by
      cases k <;> simpa [TL.spl] using h
    subst e
    exact ⟨by simp, fun c hc => .inl hc⟩
  | 0, acc, c :: r, p, h => by
    unfold TL.spl at h
    split at h
    · rcases List.mem_cons.mp h with rfl | h
      · exact ⟨by simp, fun c hc => .inl hc⟩
      · obtain ⟨h1, h2⟩ := spl_mem S (S.length - 1) [] r p h
        refine ⟨by simp only [List.length_cons, List.length_nil] at h1 ⊢; omega, fun x hx => ?_⟩
        rcases h2 x hx with q | q
        · cases q
        · exact .inr (List.mem_cons_of_mem _ q)
    · obtain ⟨h1, h2⟩ := spl_mem S 0 (acc ++ [c]) r p h
      refine ⟨by simp only [List.length_cons, List.length_append, List.length_nil] at h1 ⊢; omega, fun x hx => ?_⟩
      rcases h2 x hx with q | q
      · rcases List.mem_append.mp q with q | q
        · exact .inl q
        · rw [List.mem_singleton] at q
          subst q
          exact .inr (List.mem_cons_self ..)
      · exact .inr (List.mem_cons_of_mem _ q)
  | k + 1, acc, c :: r, p, h => by
    unfold TL.spl at h
    obtain ⟨h1, h2⟩ := spl_mem S k acc r p h
    refine ⟨by simp only [List.length_cons]; omega, fun x hx => ?_⟩
    rcases h2 x hx with q | q
    · exact .inl q
    · exact .inr (List.mem_cons_of_mem _ q)
theorem split_mem {x y p : Str} (hy : y.cps.toList ≠ []) (hk : y.cps.all (· < 256) = true) (h : p ∈ Txt.split x y) : p.length ≤ x.length ∧ ∀ c ∈ p.cps.toList, c ∈ x.cps.toList := by
  have e := TL.split_spl x y hy (TL.kind_ok hk)
  have hm : TL.tl p ∈ TL.spl (TL.tl y) 0 [] (TL.tl x) := by
    rw [← e]
    exact List.mem_map_of_mem h
  obtain ⟨h1, h2⟩ := spl_mem (TL.tl y) 0 [] (TL.tl x) (TL.tl p) hm
  refine ⟨by rw [TL.len_tl, TL.len_tl]; simpa using h1, fun c hc => ?_⟩
  rcases h2 c hc with q | q
  · cases q
  · exact q
theorem split_ok {x y p : Str} (hy : y.cps.toList ≠ []) (hk : y.cps.all (· < 256) = true) (h : p ∈ Txt.split x y) (hx : sOk x) : sOk p := fun c hc => hx c ((split_mem hy hk h).2 c hc)
theorem sOk_append {x y : Str} (hx : sOk x) (hy : sOk y) : sOk (x ++ y) := fun c hc => by
  have e : (x ++ y).cps.toList = x.cps.toList ++ y.cps.toList := TL.tl_append x y
  rw [e] at hc
  rcases List.mem_append.mp hc with q | q
  · exact hx c q
  · exact hy c q
theorem join_len {x : Str} : (Txt.join x ys).length = (ys.map (·.length)).sum + (ys.length - 1) * x.length := PySem.size_glued x ys
theorem glued_ok {x : Str} (hx : sOk x) : ∀ (r : List Str) (acc : Array Nat), (∀ c ∈ acc.toList, c < 128) → (∀ s ∈ r, sOk s) → ∀ c ∈ (r.foldl (fun acc p => acc ++ x.cps ++ p.cps) acc).toList, c < 128
  | [], acc, ha, hr, c, hc => ha c hc
  | s :: r, acc, ha, hr, c, hc => by
    refine glued_ok hx r (acc ++ x.cps ++ s.cps) (fun d hd => ?_) (fun t ht => hr t (List.mem_cons_of_mem _ ht)) c hc
    rw [Array.toList_append, Array.toList_append] at hd
    rcases List.mem_append.mp hd with q | q
    · rcases List.mem_append.mp q with q | q
      · exact ha d q
      · exact hx d q
    · exact hr s (List.mem_cons_self ..) d q
theorem join_ok {x : Str} (hx : sOk x) (h : ∀ s ∈ ys, sOk s) : sOk (Txt.join x ys) := by
  intro c hc
  cases ys with
  | nil => cases hc
  | cons s r => exact glued_ok hx r s.cps (h s (List.mem_cons_self ..)) (fun t ht => h t (List.mem_cons_of_mem _ ht)) c hc
theorem chs_map (cs : List Nat) : cs.map chD = (cs.map fun c => (⟨#[c]⟩ : Str)).map D.str := by
  rw [List.map_map]
  rfl
end
end G
namespace G
open PySem PySem.Spec PyProof.Rows L2
section
variable {ah : AH} {z : Str} {c : Nat}
theorem inS_ch : inSD ah (chD c) (.str z) = some (.bl (decide (c ∈ z.cps.toList))) := rfl
theorem notInS_ch : notInSD ah (chD c) (.str z) = some (.bl (!decide (c ∈ z.cps.toList))) := rfl
theorem idx_ch {p : Int} (h : z.length ≤ sizeLine) : idxD ah (.str z) (.int p) = (atI z.cps.toList p).map chD := if_pos h
theorem eq_chs {cs : List Nat} (h : ∀ c ∈ cs, c < 128) : eqD ah (.lst (cs.map chD)) (.lst []) = some (.bl (decide (cs = []))) := by
  rw [chs_map, eq_nil (fun s hs => ?_)]
  · cases cs <;> simp
  · obtain ⟨c, hc, rfl⟩ := List.mem_map.mp hs
    intro d hd
    have : d = c := by simpa using hd
    rw [this]
    exact h c hc
theorem bls_map (bs : List Bool) : blsD (bs.map D.bl) = some bs := by
  induction bs with
  | nil => rfl
  | cons b r ih =>
    show (blsD (r.map D.bl)).map (b :: ·) = _
    rw [ih]
    rfl
theorem all_ap {bs : List Bool} : allD ah [.lst (bs.map D.bl)] = some (.bl (bs.all id)) := by
  show (blsD (bs.map D.bl)).map _ = _
  rw [bls_map]
  rfl
theorem any_ap {bs : List Bool} : anyD ah [.lst (bs.map D.bl)] = some (.bl (bs.any id)) := by
  show (blsD (bs.map D.bl)).map _ = _
  rw [bls_map]
  rfl
end
end G
namespace G
open PySem PySem.Spec PyProof.Rows L2
theorem rng1_if {ah : AH} {z : Int} (h : -(2 ^ 62) ≤ z ∧ z < 2 ^ 62) : rng1 (.ok [.int z] ah) = .ok (rngD 0 z.toNat) ah := if_pos h
theorem rng2_if {ah : AH} {y z : Int} (h : -(2 ^ 62) ≤ y ∧ y < 2 ^ 62 ∧ -(2 ^ 62) ≤ z ∧ z < 2 ^ 62) : rng2 (.ok [.int y, .int z] ah) = .ok (rngD y (z - y).toNat) ah := if_pos h
end G
namespace G
open PySem PySem.Spec PyProof.Rows L2
theorem lc_run {it : CIt} {vs : List Nat} {f : TgD} {tt : CT} {te : CE} {env : En} {ah ah1 ah2 : AH} {l ys : List D} (h1 : it env ah = .ok l ah1) (h2 : l.length ≤ 10000000) (h3 : lcL vs f tt te env l ah1 = .ok ys ah2) : cLc it vs f tt te env ah = .ok (.lst ys) ah2 := by
  rw [ev_lc, h1, lc0_ok, if_pos h2, h3, lcE_ok]
end G
namespace G
open PySem PySem.Spec PyProof.Rows L2
theorem cut_from {z : Str} {k : Int} (h : 0 ≤ k) : (cutS z (some k) none).cps.toList = z.cps.toList.drop k.toNat := by
  have e : HT.sIx z.length 0 (some k) = min k.toNat z.length := by
    obtain ⟨n, rfl⟩ := Int.eq_ofNat_of_zero_le h
    rw [HT.sIx_nat]
    rfl
  have el : z.length = z.cps.toList.length := TL.len_tl z
  unfold cutS
  rw [e]
  show ((z.cps.toList.drop (min k.toNat z.length)).take (z.length - min k.toNat z.length)) = _
  rw [List.take_of_length_le (by rw [List.length_drop, el]; omega)]
  rcases Nat.le_total k.toNat z.length with q | q
  · rw [Nat.min_eq_left q]
  · rw [Nat.min_eq_right q, List.drop_of_length_le (by rw [el]; exact Nat.le_refl _), List.drop_of_length_le (by rw [← el]; exact q)]
theorem cut_to {z : Str} {k : Int} (h : 0 ≤ k) : (cutS z none (some k)).cps.toList = z.cps.toList.take k.toNat := by
  have e : HT.sIx z.length z.length (some k) = min k.toNat z.length := by
    obtain ⟨n, rfl⟩ := Int.eq_ofNat_of_zero_le h
    rw [HT.sIx_nat]
    rfl
  have el : z.length = z.cps.toList.length := TL.len_tl z
  unfold cutS
  rw [e]
  show ((z.cps.toList.drop 0).take (min k.toNat z.length - 0)) = _
  rw [List.drop_zero, Nat.sub_zero]
  rcases Nat.le_total k.toNat z.length with q | q
  · rw [Nat.min_eq_left q]
  · rw [Nat.min_eq_right q, List.take_of_length_le (by rw [el]; exact Nat.le_refl _), List.take_of_length_le (by rw [← el]; exact q)]
theorem slD_s {z : Str} {o o' : Option Int} (h : z.length ≤ sizeLine) : slD (.str z) o o' = some (.str (cutS z o o')) := if_pos h
end G
/-! The engine, part 15: the end over the head that the Hook reads. -/
namespace G
open PySem PySem.Spec PyProof.Rows L2
theorem tupB_seq {K : Fr} {x : Str} {vs : List He.Dv} (h : He.tupB K x vs = true) : ∃ (oc : Option Addr) (its : Array Value) (n : Nat) (sl : Array (Option Value)), K.lookup (He.ga K x) = some ⟨.type "tuple", oc, .seq its n, sl⟩ ∧ its.size ≤ sizeLine ∧ Vals (vs.map (He.Dv.v K)) its.toList := by
  have h0 := h
  unfold He.tupB at h0
  split at h0
  · rename_i c oc its n sl q
    rw [Bool.and_eq_true_iff, Bool.and_eq_true_iff] at h0
    obtain ⟨a1, a2, a3⟩ := h0
    exact ⟨oc, its, n, sl, by rw [q, of_decide_eq_true a1], of_decide_eq_true a2, He.relAll_ok a3⟩
  · cases h0
theorem ktup_of {K : Fr} {mg : Str → Option Value} {x : Str} {l : List D} {vs : List He.Dv} (hg : mg x = some (.ref (He.ga K x))) (hb : He.tupB K x vs = true) (e : l.map scD = (vs.map (He.Dv.v K)).map some) : KTup K mg x l := by
  obtain ⟨oc, its, n, sl, h1, h2, h3⟩ := tupB_seq hb
  exact ⟨_, oc, its.toList, n, sl, _, hg, by simpa using h1, e, h3, by simpa using h2⟩
theorem walkX {l : PySem.W.OpenLaw} {k : Nat} {q : Program} {loose : List Str} {XP : (Str → Option Value) → Heap → Prop} {YP : World → Heap → Prop} {d : DefRec} {x : Str} {flX xlX : Nat → List Str} {F : FD}
    (hn : l.most = some 63) (hdf : d.params.defaults = []) (hr : Room k callerA) (hF : ∀ ns : List Int, ns.length ≤ 63 → ∃ ah, F [.scr (ns.map .int)] [] = .ok (.bl true) ah)
    (hY : ∀ (w : World) (mg : Str → Option Value) (fa : Addr) (h : Heap), YP w h → h.Ns mainGlobals mg → mg d.name = some (.ref fa) → ∃ (K : Fr) (cl : Nat → Addr) (fd : FuncData), K.In h ∧
      (∀ (s : Shared) (u : Value), BindsTo s fd ⟨[u], []⟩ [(x, u)]) ∧ ∀ base : Heap, K.In base → base.Ns mainGlobals mg → FnOk l.prog w K mg base (L2.CX l.prog w) k fa fd [x] (spD ⟨K, cl, flX, xlX, []⟩ F 1)) :
    PySem.W.WalkO q loose XP YP l.row.toRowW d [] (fun f vs => PySem.call f vs) := by
  refine Att.attach_call hn hdf ?_
  intro w s0 s1 mg mb fa o pm cd doc a vs ns GG Y ho hd hcd hmg hobj hints hlen hg
  obtain ⟨K, cl, fd, KX, hb, hok⟩ := hY w mg fa _ Y GG.T.g hmg
  refine law_call KX GG.T.g GG.T.b GG.T.builtins GG.T.nolimit hg hobj hints (Nat.le_trans hlen (by decide)) hr hok hb ?_ ?_
  · intro H hO hS
    exact law_sp hF H a ns hlen hS
  · intro H e s' z
    exact cx_no H s1 e s' z
end G
/-! Fractions: what the program's lowest terms are among Lean's Rat; sizes. -/
namespace G
/-- the sign of what is below, on the common divisor -/
def sgn (t b : Int) : Int := if b < 0 then -(Int.gcd t b : Int) else Int.gcd t b
theorem sgn_ne {t b : Int} (h : b ≠ 0) : sgn t b ≠ 0 := by
  have := Int.gcd_pos_of_ne_zero_right t h
  unfold sgn
  split <;> omega
theorem fdiv_key {x g k : Int} (h : g ≠ 0) (e : x = g * k) : x.fdiv g = k := by
  rw [e, Int.mul_comm]
  exact Int.mul_fdiv_cancel k h
theorem ediv_key {x g k : Int} (h : g ≠ 0) (e : x = g * k) : x / g = k := by
  rw [e]
  exact Int.mul_ediv_cancel_left k h
theorem q_num {t b : Int} (h : b ≠ 0) : t.fdiv (sgn t b) = (Rat.divInt t b).num := by
  have hg := Int.gcd_pos_of_ne_zero_right t h
  obtain ⟨k, hk⟩ := Int.gcd_dvd_left t b
  rw [Rat.num_divInt, Int.gcd_comm b t]
  unfold sgn
  have hg2 : (Int.gcd t b : Int) ≠ 0 := by omega
  generalize (Int.gcd t b : Int) = g at *
  by_cases hb : b < 0
  · rw [if_pos hb, Int.sign_eq_neg_one_of_neg hb, fdiv_key (k := -k) (by omega) (by rw [Int.neg_mul_neg]; exact hk)]
    exact (ediv_key hg2 (by rw [Int.mul_neg, ← hk, Int.neg_mul, Int.one_mul])).symm
  · rw [if_neg hb, Int.sign_eq_one_of_pos (by omega), Int.one_mul, fdiv_key hg2 hk, ediv_key hg2 hk]
theorem q_den {t b : Int} (h : b ≠ 0) : b.fdiv (sgn t b) = ((Rat.divInt t b).den : Int) := by
  have hg := Int.gcd_pos_of_ne_zero_right t h
  obtain ⟨k, hk⟩ := Int.gcd_dvd_right t b
  rw [Rat.den_divInt, if_neg h, Int.gcd_comm b t, Int.natCast_ediv]
  unfold sgn
  have hg2 : (Int.gcd t b : Int) ≠ 0 := by omega
  generalize (Int.gcd t b : Int) = g at *
  by_cases hb : b < 0
  · have e0 : ((b.natAbs : Nat) : Int) = -b := by omega
    rw [if_pos hb, e0, fdiv_key (k := -k) (by omega) (by rw [Int.neg_mul_neg]; exact hk)]
    exact (ediv_key hg2 (by rw [Int.mul_neg, ← hk])).symm
  · have e0 : ((b.natAbs : Nat) : Int) = b := by omega
    rw [if_neg hb, e0, fdiv_key hg2 hk, ediv_key hg2 hk]
/-- a fraction of at most n bits above and below -/
def Sz (n : Nat) (q : Rat) : Prop := q.num.natAbs < 2 ^ n ∧ q.den < 2 ^ n
theorem Sz.mono {m n : Nat} {q : Rat} (h : Sz m q) (k : m ≤ n) : Sz n q := ⟨Nat.lt_of_lt_of_le h.1 (Nat.pow_le_pow_right (by decide) k), Nat.lt_of_lt_of_le h.2 (Nat.pow_le_pow_right (by decide) k)⟩
theorem natAbs_fdiv_le {t s : Int} (h : s ≠ 0) (hd : s ∣ t) : (t.fdiv s).natAbs ≤ t.natAbs := by
  obtain ⟨k, rfl⟩ := hd
  rw [Int.mul_comm, Int.mul_fdiv_cancel k h, Int.natAbs_mul]
  exact Nat.le_mul_of_pos_right _ (by omega)
theorem sgn_dvd (t b : Int) : sgn t b ∣ t ∧ sgn t b ∣ b := by
  unfold sgn
  split
  · exact ⟨(Int.neg_dvd).mpr (Int.gcd_dvd_left t b), (Int.neg_dvd).mpr (Int.gcd_dvd_right t b)⟩
  · exact ⟨Int.gcd_dvd_left t b, Int.gcd_dvd_right t b⟩
theorem sz_divInt {t b : Int} {n : Nat} (h : b ≠ 0) (ht : t.natAbs < 2 ^ n) (hb : b.natAbs < 2 ^ n) : Sz n (Rat.divInt t b) := by
  have d := sgn_dvd t b
  have z := sgn_ne (t := t) h
  have e1 := natAbs_fdiv_le z d.1
  have e2 := natAbs_fdiv_le z d.2
  rw [q_num h] at e1
  rw [q_den h] at e2
  exact ⟨by omega, by omega⟩
theorem sz_int {i : Int} {n : Nat} (h : i.natAbs < 2 ^ n) (h0 : 0 < n) : Sz n (i : Rat) := by
  refine ⟨by rw [Rat.num_intCast]; exact h, ?_⟩
  rw [Rat.den_intCast]
  exact Nat.lt_of_lt_of_le (show 1 < 2 ^ 1 by decide) (Nat.pow_le_pow_right (by decide) h0)
theorem add_eq (a b : Rat) : a + b = Rat.divInt (a.num * b.den + b.num * a.den) (a.den * b.den) := by
  have h := Rat.divInt_add_divInt a.num b.num (d₁ := a.den) (d₂ := b.den) (by have := a.den_pos; omega) (by have := b.den_pos; omega)
  rw [Rat.num_divInt_den, Rat.num_divInt_den] at h
  exact h
theorem mul_eq (a b : Rat) : a * b = Rat.divInt (a.num * b.num) (a.den * b.den) := by
  have h := Rat.divInt_mul_divInt a.num b.num (d₁ := a.den) (d₂ := b.den)
  rw [Rat.num_divInt_den, Rat.num_divInt_den] at h
  exact h
theorem div_eq (a b : Rat) : a / b = Rat.divInt (a.num * b.den) (a.den * b.num) := by
  rw [Rat.div_def, Rat.inv_def]
  have h := Rat.divInt_mul_divInt a.num b.den (d₁ := a.den) (d₂ := b.num)
  rw [Rat.num_divInt_den] at h
  exact h
theorem nab_mul {x y : Int} {m n : Nat} (hx : x.natAbs < 2 ^ m) (hy : y.natAbs < 2 ^ n) : (x * y).natAbs < 2 ^ (m + n) := by
  rw [Int.natAbs_mul, Nat.pow_add]
  exact Nat.mul_lt_mul'' hx hy
theorem nab_add {x y : Int} {m : Nat} (hx : x.natAbs < 2 ^ m) (hy : y.natAbs < 2 ^ m) : (x + y).natAbs < 2 ^ (m + 1) := by
  have := Int.natAbs_add_le x y
  rw [Nat.pow_succ]
  omega
theorem den_ab {q : Rat} {n : Nat} (h : Sz n q) : ((q.den : Nat) : Int).natAbs < 2 ^ n := by
  rw [Int.natAbs_natCast]
  exact h.2
theorem den_ne (q : Rat) : ((q.den : Nat) : Int) ≠ 0 := by have := q.den_pos; omega
theorem den_ne2 (a b : Rat) : ((a.den : Nat) : Int) * ((b.den : Nat) : Int) ≠ 0 := Int.mul_ne_zero (den_ne a) (den_ne b)
theorem sz_add {m n : Nat} {a b : Rat} (ha : Sz m a) (hb : Sz n b) : Sz (m + n + 1) (a + b) := by
  rw [add_eq]
  have e : n + m = m + n := Nat.add_comm n m
  refine sz_divInt (den_ne2 a b) (nab_add (nab_mul ha.1 (den_ab hb)) ?_) ?_
  · rw [← e]
    exact nab_mul hb.1 (den_ab ha)
  · exact Nat.lt_of_lt_of_le (nab_mul (den_ab ha) (den_ab hb)) (Nat.pow_le_pow_right (by decide) (Nat.le_succ _))
theorem sz_mul {m n : Nat} {a b : Rat} (ha : Sz m a) (hb : Sz n b) : Sz (m + n) (a * b) := by
  rw [mul_eq]
  exact sz_divInt (den_ne2 a b) (nab_mul ha.1 hb.1) (nab_mul (den_ab ha) (den_ab hb))
theorem num_ne {b : Rat} (h : b ≠ 0) : b.num ≠ 0 := fun z => h (by rw [← Rat.num_divInt_den b, z]; simp)
theorem sz_div {m n : Nat} {a b : Rat} (ha : Sz m a) (hb : Sz n b) (h : b ≠ 0) : Sz (m + n) (a / b) := by
  rw [div_eq]
  exact sz_divInt (Int.mul_ne_zero (den_ne a) (num_ne h)) (nab_mul ha.1 (den_ab hb)) (nab_mul (den_ab ha) hb.1)
theorem num_neg (a : Rat) : (-a).num = -a.num := rfl
theorem den_neg (a : Rat) : (-a).den = a.den := rfl
theorem sz_neg {m : Nat} {a : Rat} (ha : Sz m a) : Sz m (-a) := ⟨by rw [num_neg, Int.natAbs_neg]; exact ha.1, ha.2⟩
theorem sz_sub {m n : Nat} {a b : Rat} (ha : Sz m a) (hb : Sz n b) : Sz (m + n + 1) (a - b) := by
  rw [Rat.sub_eq_add_neg]
  exact sz_add ha (sz_neg hb)
theorem floor_eq (a : Rat) : a.num.fdiv a.den = a.floor := by
  rw [Rat.floor_def, Int.fdiv_eq_ediv_of_nonneg _ (by omega)]
theorem fract_eq (a : Rat) : Rat.divInt (a.num.fmod a.den) a.den = a - (a.floor : Rat) := by
  have h : a.num.fmod a.den = a.num - a.den * a.floor := by
    rw [← floor_eq]
    have := Int.mul_fdiv_add_fmod a.num a.den
    omega
  have hd : ((a.den : Nat) : Rat) ≠ 0 := by
    have := a.den_pos
    intro z
    have : (a.den : Rat) = ((0 : Nat) : Rat) := z
    have := Rat.natCast_inj.mp this
    omega
  rw [h, Rat.divInt_eq_div, Rat.intCast_sub, Rat.intCast_mul]
  have e : (a.num : Rat) / ((a.den : Int) : Rat) = a := by rw [← Rat.divInt_eq_div, Rat.num_divInt_den]
  have e2 : ((a.den : Int) : Rat) = ((a.den : Nat) : Rat) := rfl
  rw [e2] at e ⊢
  rw [Rat.sub_eq_add_neg, Rat.div_def, Rat.add_mul, ← Rat.div_def, e]
  grind
theorem num_pos_iff {a : Rat} : 0 < a.num ↔ 0 < a := by
  rw [Rat.lt_iff]
  simp
theorem num_neg_iff {a : Rat} : a.num < 0 ↔ a < 0 := by
  rw [Rat.lt_iff]
  simp
end G
/-! The engine, part 16: what is never reached; new objects of the store; dicts. -/
namespace G
open PySem PySem.Spec PyProof.Rows L2

section
variable {X : Cx} {t : Tb} {W : WX} {w0 : Wd} {H0 : Bs} {xa xb xc : CE} {ca : CA} {a b c e o : Expr} {es : List Expr} {pos apos cpos : Pos} {st : Stmt} {c1 : CS}
/-! ### never reached -/
def cDead : CS := fun _ _ => .bad
theorem z_dead : PS X st (tS t W w0 H0 cDead) := ⟨fun _ _ _ _ _ _ h => by
  obtain ⟨_, _, _, _, _, _, P⟩ := h
  exact False.elim P⟩
def cDeadE : CE := fun _ _ => .bad
theorem q_dead : PE X e (tE t W H0 cDeadE) := ⟨fun _ _ _ _ _ _ h => by
  obtain ⟨_, _, _, _, _, P⟩ := h
  exact False.elim P⟩

/-! ### a new object of the store -/
def Wd.own (w : Wd) (p : Addr) : Wd := { w with ρ := w.ρ ++ [p] }
theorem stp_alloc {w : Wd} {ah : AH} {H : Hp} {p : Addr} {o : MO} {ob : HO} (A : RelA t w ah H) (hp : H p = none) (hm : MOk t (w.own p) o (upd H p ob) p) :
    Stp w H (w.own p) (upd H p ob) ∧ RelA t (w.own p) (ah ++ [o]) (upd H p ob) := by
  have le : Wle w (w.own p) := ⟨Same.refl _, fun n z h => by
    show (w.ρ ++ [p])[n]? = some z
    rw [List.getElem?_append_left (List.getElem?_eq_some_iff.mp h).1]
    exact h, rfl⟩
  have hmem : ∀ z, z ∈ (w.own p).ρ → z ∈ w.ρ ∨ z = p := fun z h => by
    rcases List.mem_append.mp (show z ∈ w.ρ ++ [p] from h) with q | q
    · exact .inl q
    · exact .inr (List.mem_singleton.mp q)
  refine ⟨⟨le, fun z u _ h => by rw [upd_ne (ne_of_none h hp)]; exact h, fun z u h => ⟨u, by rw [upd_ne (ne_of_none h hp)]; exact h⟩, fun z h => ?_, fun z u h => .inl h⟩, ⟨fun z u h => ?_, ?_, ?_, fun z h => ?_, fun n u z h1 h2 => ?_, fun z o2 h => ⟨?_, ?_, (A.lks z o2 h).2.2⟩⟩⟩
  · rcases hmem z h with q | q
    · exact .inl q
    · exact .inr (by rw [q]; exact hp)
  · have h' := A.sub z u h
    rw [upd_ne (ne_of_none h' hp)]
    exact h'
  · show (w.ρ ++ [p]).length = _
    rw [List.length_append, List.length_append, A.len]
    rfl
  · show (w.ρ ++ [p]).Nodup
    rw [List.nodup_append]
    refine ⟨A.nd, by simp, fun x h1 y h2 e => ?_⟩
    rw [List.mem_singleton] at h2
    subst h2 e
    exact A.free hp h1
  · rcases hmem z h with q | q
    · obtain ⟨u, e⟩ := A.live z q
      exact ⟨u, by rw [upd_ne (ne_of_none e hp)]; exact e⟩
    · exact ⟨ob, by rw [q]; exact upd_same⟩
  · replace h2 : (w.ρ ++ [p])[n]? = some z := h2
    by_cases hn : n < ah.length
    · rw [List.getElem?_append_left hn] at h1
      rw [List.getElem?_append_left (by rw [A.len]; exact hn)] at h2
      refine (A.obj n u z h1 h2).step le (fun h => h) fun ob h => ?_
      rw [upd_ne (ne_of_none h hp)]
      exact h
    · rw [List.getElem?_append_right (by omega)] at h1
      rw [List.getElem?_append_right (by rw [A.len]; omega)] at h2
      obtain ⟨h3, h4⟩ := List.getElem?_eq_some_iff.mp h1
      obtain ⟨h5, h6⟩ := List.getElem?_eq_some_iff.mp h2
      rw [List.getElem_singleton] at h4 h6
      subst h4 h6
      exact hm
  · rw [upd_ne (ne_of_none (A.lks z o2 h).1 hp)]
    exact (A.lks z o2 h).1
  · exact List.mem_append_left _ (A.lks z o2 h).2.1
theorem rep_alloc {w : Wd} {ah : AH} {H : Hp} {p : Addr} (A : RelA t w ah H) : Rep t (w.own p) (.ref ah.length) (.ref p) := by
  simp only [Rep]
  refine ⟨p, rfl, ?_⟩
  show (w.ρ ++ [p])[ah.length]? = some p
  rw [← A.len, List.getElem?_append_right (Nat.le_refl _), Nat.sub_self]
  rfl
/-- an object of the store is changed, within an expression -/
theorem ah_upd {w : Wd} {ah : AH} {H : Hp} {n : Nat} {o' : MO} {o : MO} {p : Addr} {ob : HO} (A : RelA t w ah H) (he : ah[n]? = some o) (hρ : w.ρ[n]? = some p) (hf : w.Hf p = none) (hL : w.Lk p = none) (hn : MOk t w o' (upd H p ob) p) :
    Stp w H w (upd H p ob) ∧ RelA t w (ah.set n o') (upd H p ob) := by
  have hm : p ∈ w.ρ := List.mem_of_getElem? hρ
  refine ⟨⟨Wle.refl w, fun a u h1 h2 => ?_, fun a u h2 => ?_, fun _ h => .inl h, fun _ _ h => .inl h⟩, ⟨fun a u h => ?_, by rw [List.length_set]; exact A.len, A.nd, fun a h => ?_, fun m u a e1 e2 => ?_, fun a o2 h => ⟨by rw [upd_ne (fun z => by rw [z, hL] at h; cases h)]; exact (A.lks a o2 h).1, (A.lks a o2 h).2⟩⟩⟩
  · rw [upd_ne (fun z => h1 (by rw [z]; exact hm))]
    exact h2
  · by_cases z : a = p
    · exact ⟨ob, by rw [z]; exact upd_same⟩
    · rw [upd_ne z]
      exact ⟨u, h2⟩
  · rw [upd_ne (fun z => by rw [z, hf] at h; cases h)]
    exact A.sub a u h
  · by_cases z : a = p
    · exact ⟨ob, by rw [z]; exact upd_same⟩
    · rw [upd_ne z]
      exact A.live a h
  · by_cases h : n = m
    · subst h
      rw [hρ] at e2
      cases e2
      have hlt : n < ah.length := (List.getElem?_eq_some_iff.mp he).1
      rw [List.getElem?_set_self hlt] at e1
      cases e1
      exact hn
    · rw [List.getElem?_set_ne h] at e1
      have ne : a ≠ p := fun z => by
        subst z
        obtain ⟨h1, e3⟩ := List.getElem?_eq_some_iff.mp hρ
        obtain ⟨h2, e4⟩ := List.getElem?_eq_some_iff.mp e2
        exact h ((List.getElem_inj A.nd).mp (e3.trans e4.symm))
      exact (A.obj m u a e1 e2).step (Wle.refl _) (fun h => h) fun ob h => by rw [upd_ne ne]; exact h
theorem rho_of {w : Wd} {ah : AH} {H : Hp} {n : Nat} {o : MO} (A : RelA t w ah H) (h : ah[n]? = some o) : ∃ p, w.ρ[n]? = some p := by
  have hn := (List.getElem?_eq_some_iff.mp h).1
  rw [← A.len] at hn
  exact ⟨_, List.getElem?_eq_getElem hn⟩

/-! ### tables -/
def keyD : D → Option Key
  | .int i => some (.inl i)
  | .str s => some (.inr s)
  | _ => none
def kD : Key → D
  | .inl i => .int i
  | .inr s => .str s
theorem keyD_kD (k : Key) : keyD (kD k) = some k := by cases k <;> rfl
theorem keyD_rep {w : Wd} {d : D} {v : V} {k : Key} (r : Rep t w d v) (e : keyD d = some k) : v = kV k := by
  cases d <;> simp only [keyD, Option.some.injEq, reduceCtorEq] at e <;> subst e <;> (simp only [Rep] at r; exact r)
theorem kD_rep {w : Wd} (k : Key) : Rep t w (kD k) (kV k) := by cases k <;> simp only [kD, kV, Rep]
def lkD : List Key → List D → Key → Option D
  | k' :: ks, d :: l, k => if k' = k then some d else lkD ks l k
  | _, _, _ => none
def stL : List Key → List D → Key → D → List D
  | k' :: ks, d :: l, k, x => (if k' = k then x else d) :: stL ks l k x
  | _, _, _, _ => []
/-- the keys, the data behind d[k] = x -/
def hasK (ks : List Key) (k : Key) : Bool := ks.any fun k' => decide (k' = k)
def putKs (ks : List Key) (k : Key) : List Key := if hasK ks k = true then ks else ks ++ [k]
def putL (ks : List Key) (l : List D) (k : Key) (x : D) : List D := if hasK ks k = true then stL ks l k x else l ++ [x]
def dropKs (ks : List Key) (k : Key) : List Key := ks.filter fun k' => decide (k' ≠ k)
def dropL : List Key → List D → Key → List D
  | k' :: ks, d :: l, k => if k' = k then dropL ks l k else d :: dropL ks l k
  | _, _, _ => []
theorem lk_val {w : Wd} (k : Key) : ∀ {ks : List Key} {l : List D} {vs : List V}, ks.length = vs.length → Reps t w l vs → match lkD ks l k with
    | some d => ∃ v, valV (ks.zip vs) k = some v ∧ Rep t w d v
    | none => valV (ks.zip vs) k = none
  | [], l, vs, h, r => by
    cases vs with
    | nil =>
      cases l <;> exact rfl
    | cons _ _ => cases h
  | k' :: ks, l, vs, h, r => by
    cases vs with
    | nil => cases h
    | cons v vs =>
      cases l with
      | nil => simp [Reps] at r
      | cons d l =>
        simp only [Reps] at r
        obtain ⟨v', vr, e, r1, r2⟩ := r
        cases e
        show match (if k' = k then some d else lkD ks l k) with
          | some d => ∃ v', valV ((k', v) :: ks.zip vs) k = some v' ∧ Rep t w d v'
          | none => valV ((k', v) :: ks.zip vs) k = none
        by_cases hk : k' = k
        · rw [if_pos hk]
          exact ⟨v, valV_pos (p := (k', v)) hk, r1⟩
        · rw [if_neg hk, valV_neg (p := (k', v)) hk]
          exact lk_val k (by simpa using h) r2
theorem st_len (k : Key) (x : D) : ∀ {ks : List Key} {l : List D}, ks.length = l.length → (stL ks l k x).length = l.length
  | [], l, h => by
    cases l with
    | nil => rfl
    | cons _ _ => cases h
  | k' :: ks, [], h => by cases h
  | k' :: ks, d :: l, h => by
    show (stL ks l k x).length + 1 = _
    rw [st_len k x (by simpa using h), List.length_cons]
theorem st_rep {w : Wd} {k : Key} {x : D} {y : V} (rx : Rep t w x y) : ∀ {ks : List Key} {l : List D} {vs : List V}, ks.length = vs.length → Reps t w l vs →
    ∃ us, (ks.zip vs).map (fun kv => if kv.1 = k then (kv.1, y) else kv) = ks.zip us ∧ us.length = vs.length ∧ Reps t w (stL ks l k x) us
  | [], l, vs, h, r => by
    cases vs with
    | nil =>
      refine ⟨[], rfl, rfl, ?_⟩
      cases l <;> (show Reps t w [] []; simp only [Reps])
    | cons _ _ => cases h
  | k' :: ks, l, vs, h, r => by
    cases vs with
    | nil => cases h
    | cons v vs =>
      cases l with
      | nil => simp [Reps] at r
      | cons d l =>
        simp only [Reps] at r
        obtain ⟨v', vr, e, r1, r2⟩ := r
        cases e
        obtain ⟨us, e1, e2, e3⟩ := st_rep (k := k) rx (by simpa using h) r2
        refine ⟨(if k' = k then y else v) :: us, ?_, by simp [e2], ?_⟩
        · rw [List.zip_cons_cons, List.map_cons, List.zip_cons_cons, e1]
          by_cases hk : k' = k
          · simp [hk]
          · simp [hk]
        · show Reps t w ((if k' = k then x else d) :: stL ks l k x) _
          simp only [Reps]
          refine ⟨_, us, rfl, ?_, e3⟩
          split
          · exact rx
          · exact r1
theorem any_mem {k : Key} : ∀ {ks : List Key} {vs : List V}, ks.length = vs.length → ((ks.zip vs).any fun kv => decide (kv.1 = k)) = hasK ks k
  | [], vs, h => by
    rw [List.zip_nil_left]
    rfl
  | k' :: ks, [], h => by cases h
  | k' :: ks, v :: vs, h => by
    rw [List.zip_cons_cons, List.any_cons, any_mem (by simpa using h)]
    rfl
theorem put_rep {w : Wd} {k : Key} {x : D} {y : V} {ks : List Key} {l : List D} {vs : List V} (rx : Rep t w x y) (h : ks.length = vs.length) (r : Reps t w l vs) :
    ∃ us, putK (ks.zip vs) k y = (putKs ks k).zip us ∧ (putKs ks k).length = us.length ∧ Reps t w (putL ks l k x) us := by
  unfold putK putKs putL
  rw [any_mem h]
  by_cases hk : hasK ks k = true
  · rw [if_pos hk, if_pos hk, if_pos hk]
    obtain ⟨us, e1, e2, e3⟩ := st_rep (k := k) rx h r
    exact ⟨us, e1, by rw [e2, h], e3⟩
  · rw [if_neg hk, if_neg hk, if_neg hk]
    exact ⟨vs ++ [y], by rw [List.zip_append h]; rfl, by simp [h], reps_append r (reps_one rx)⟩
theorem drop_rep {w : Wd} {k : Key} : ∀ {ks : List Key} {l : List D} {vs : List V}, ks.length = vs.length → Reps t w l vs →
    ∃ us, dropK (ks.zip vs) k = (dropKs ks k).zip us ∧ (dropKs ks k).length = us.length ∧ Reps t w (dropL ks l k) us
  | [], l, vs, h, r => by
    cases vs with
    | nil =>
      refine ⟨[], rfl, rfl, ?_⟩
      cases l <;> (show Reps t w [] []; simp only [Reps])
    | cons _ _ => cases h
  | k' :: ks, l, vs, h, r => by
    cases vs with
    | nil => cases h
    | cons v vs =>
      cases l with
      | nil => simp [Reps] at r
      | cons d l =>
        simp only [Reps] at r
        obtain ⟨v', vr, e, r1, r2⟩ := r
        cases e
        obtain ⟨us, e1, e2, e3⟩ := drop_rep (k := k) (by simpa using h) r2
        unfold dropK at e1 ⊢
        unfold dropKs at e1 e2 ⊢
        rw [List.zip_cons_cons]
        show ∃ us, _ ∧ _ ∧ Reps t w (if k' = k then dropL ks l k else d :: dropL ks l k) us
        by_cases hk : k' = k
        · rw [if_pos hk, List.filter_cons_of_neg (by simp [hk]), List.filter_cons_of_neg (by simp [hk])]
          exact ⟨us, e1, e2, e3⟩
        · rw [if_neg hk, List.filter_cons_of_pos (by simp [hk]), List.filter_cons_of_pos (by simp [hk]), e1]
          exact ⟨v :: us, rfl, by rw [List.length_cons, List.length_cons, e2], by simp only [Reps]; exact ⟨v, us, rfl, r1, e3⟩⟩

/-! ### what a datum holds as a dict -/
def dOf (ah : AH) : D → Option (List Key × List D)
  | .dct ks l => some (ks, l)
  | .ref n => match ah[n]? with
    | some (.dct ks l) => some (ks, l)
    | some (.ldct ks l) => some (ks, l)
    | _ => none
  | _ => none
theorem dOf_rep {w : Wd} {ah : AH} {H : Hp} {d : D} {v : V} {ks : List Key} {l : List D} (A : RelA t w ah H) (r : Rep t w d v) (e : dOf ah d = some (ks, l)) :
    ∃ p vs, v = .ref p ∧ Rd H p (.dK (ks.zip vs)) ∧ ks.length = vs.length ∧ Reps t w l vs := by
  cases d with
  | dct ks' l' =>
    simp only [dOf, Option.some.injEq, Prod.mk.injEq] at e
    obtain ⟨rfl, rfl⟩ := e
    simp only [Rep] at r
    obtain ⟨p, od, vs, rfl, h1, h2, h3⟩ := r
    exact ⟨p, vs, rfl, .inr ⟨od, A.sub _ _ h1⟩, h2, h3⟩
  | ref n =>
    simp only [Rep] at r
    obtain ⟨p, rfl, hρ⟩ := r
    simp only [dOf] at e
    split at e
    · rename_i ks' l' hn
      simp only [Option.some.injEq, Prod.mk.injEq] at e
      obtain ⟨rfl, rfl⟩ := e
      obtain ⟨_, vs, h1, h2, h3⟩ := A.obj n _ p hn hρ
      exact ⟨p, vs, rfl, .inl h1, h2, h3⟩
    · rename_i ks' l' hn
      simp only [Option.some.injEq, Prod.mk.injEq] at e
      obtain ⟨rfl, rfl⟩ := e
      obtain ⟨_, od, vs, h1, h2, h3⟩ := A.obj n _ p hn hρ
      exact ⟨p, vs, rfl, .inr ⟨od, (A.lks _ _ h1).1⟩, h2, h3⟩
    · cases e
  | _ => simp only [dOf, reduceCtorEq] at e
theorem dget_of {w : Wd} {ah : AH} {H : Hp} {d y : D} {v u : V} {ks : List Key} {l : List D} {k : Key} (A : RelA t w ah H) (r : Rep t w d v) (ry : Rep t w y u) (e : dOf ah d = some (ks, l)) (ek : keyD y = some k) :
    ∃ p o, v = .ref p ∧ DGet H p u o ∧ match lkD ks l k with
      | some d => ∃ v, o = some v ∧ Rep t w d v
      | none => o = none := by
  obtain ⟨p, vs, rfl, h1, h2, h3⟩ := dOf_rep A r e
  have hk := keyD_rep ry ek
  subst hk
  exact ⟨p, valV (ks.zip vs) k, rfl, .inl ⟨_, k, h1, rfl, rfl⟩, lk_val k h2 h3⟩

/-! ### d[k], a list's place or a dict's -/
theorem ix_dget (hu : X.A.units + 1 < cLine) : IxR X (fun x y H Q => ∃ a v, x = .ref a ∧ DGet H a y (some v) ∧ Q v H) := by
  intro value slice pins s σ H x y v u Q I rx ry h hs
  obtain ⟨a, z, rfl, g, q⟩ := h
  obtain rfl : v = Value.ref a := rx
  have hT := dict_typeIs I g
  unfold subscriptTail
  refine wpAny_bind ?_
  rw [getitemInPython_of_ne hT.not_modules]
  refine wpAny_bind (wpAny_specialOf hT PySem.F.slot_dict_getitem.lookup ?_)
  have fin : wpAny (model X.prog X.w) X.A (subscripted slice false (.ref a) u) (fun r s₃ => wpAny (model X.prog X.w) X.A (letTemporaryGo value (.ref a) r >>= fun _ => pure r) (EP X pins σ Q) X.xe s₃) X.xe s := by
    rw [hs]
    exact wpAny_operating (wpAny_mono (d_getItem hu I g ry fun w' s3 I3 rw' => (⟨z, H, I3, rw', q⟩ : EP X pins σ Q w' s3)) (fun r s₃ h₃ => wpAny_bind (wpAny_letTemporaryGo (wpAny_pure h₃))) fun _ _ x => x)
  first
    | exact wpAny_pure (wpAny_bind fin)
    | exact wpAny_bind (wpAny_pure (wpAny_bind fin))
    | exact wpAny_bind fin
def rIxA (K : PySem.W.Frag) : R2 := fun x y H Q => rIx K x y H Q ∨ ∃ a v, x = .ref a ∧ DGet H a y (some v) ∧ Q v H
/-- a place of a list (of the store, too), of a tuple, of a text, of a dict -/
def idxAD : F2 := fun ah x y => match dOf ah x with
  | some (ks, l) => (keyD y).bind fun k => lkD ks l k
  | none => match x with
    | .ref n => match ah[n]? with
      | some (.lst l) => match y with
        | .int i => atI l i
        | _ => none
      | _ => none
    | x => idxD ah x y
theorem bs_idxA (hK : t.K = X.K := by rfl) : BinS t idxAD (rIxA X.K) := by
  intro w ah H x y d v u Q A rx ry e q
  unfold idxAD at e
  split at e
  · rename_i ks l hd
    cases hk : keyD y with
    | none => rw [hk] at e; cases e
    | some k =>
      rw [hk] at e
      replace e : lkD ks l k = some d := e
      obtain ⟨p, o, rfl, g, h⟩ := dget_of A rx ry hd hk
      rw [e] at h
      obtain ⟨z, rfl, rz⟩ := h
      exact .inr ⟨p, z, rfl, g, q w z H (Stp.refl w H) A rz⟩
  · split at e
    · rename_i n _
      split at e
      · rename_i l hn
        split at e
        · rename_i i
          simp only [Rep] at rx ry
          subst ry
          obtain ⟨p, rfl, hρ⟩ := rx
          obtain ⟨_, vs, h1, h2⟩ := A.obj n _ p hn hρ
          obtain ⟨z, h3, h4⟩ := atI_reps h2 e
          exact .inl (.inl ⟨p, vs, i, z, rfl, rfl, SqL.of h1, h3, q w z H (Stp.refl w H) A h4⟩)
        · cases e
      · cases e
    · exact .inl (bs_idx hK w ah H _ y d v u Q A rx ry e q)
theorem q_idxA (ha : PE X a (tE t W H0 xa)) (hb : PE X b (tE t W H0 xb)) (hu : X.A.units + 64 < cLine) (hs : PlainIx b := by exact fun _ _ => rfl) (hK : t.K = X.K := by rfl) : PE X (.Subscript a b pos) (tE t W H0 (cBin idxAD xa xb)) := PE.imp (pe_ix (ix_seq.or (ix_dget (by omega))) ha hb hs) (bin_read (bs_idxA hK))
end
end G
/-! The engine, part 17: operations on dicts and on objects of the store. -/
namespace G
open PySem PySem.Spec PyProof.Rows L2

section
variable {X : Cx} {t : Tb} {W : WX} {w0 : Wd} {H0 : Bs} {xa xb xc : CE} {ca : CA} {a b c e f o tg : Expr} {es : List Expr} {pos apos cpos pos' : Pos} {st : Stmt} {c1 : CS}
theorem PE.or {u v : TE} (h : PE X e u) (h' : PE X e v) : PE X e (fun σ H Q => u σ H Q ∨ v σ H Q) := ⟨fun pins s σ H Q I q => q.elim (fun q => h.run pins s σ H Q I q) fun q => h'.run pins s σ H Q I q⟩
theorem PI.or {u v : TI} (h : PI X tg e u) (h' : PI X tg e v) : PI X tg e (fun σ H Q => u σ H Q ∨ v σ H Q) := ⟨fun pins s σ H Q I q => q.elim (fun q => h.run pins s σ H Q I q) fun q => h'.run pins s σ H Q I q⟩
theorem PS.or {u v : TS} (h : PS X st u) (h' : PS X st v) : PS X st (fun D σ H => u D σ H ∨ v D σ H) := ⟨fun pins s σ H D I q => q.elim (fun q => h.run pins s σ H D I q) fun q => h'.run pins s σ H D I q⟩

/-! ### {} -/
def cDNew : CE := fun _ ah => .ok (.ref ah.length) (ah ++ [.dct [] []])
theorem q_dnew : PE X (.Dict [] [] pos) (tE t W H0 cDNew) := by
  refine PE.imp pe_dnewK ?_
  rintro σ H Q ⟨w, env, ah, A, E, P⟩ p hp
  have hm : MOk t (w.own p) (.dct [] []) (upd H p (.dK [])) p := ⟨A.sub.free hp, [], upd_same, rfl, by simp only [Reps]⟩
  obtain ⟨s1, A1⟩ := stp_alloc A hp hm
  exact P _ _ _ s1 A1 (rep_alloc A)
/-- [..], a list of the store -/
def cLNew (a : CA) : CE := fun env ah => (a env ah).bind fun l ah1 => if l.length ≤ 1000 then .ok (.ref ah1.length) (ah1 ++ [.lst l]) else .bad
theorem q_lnew {cr : CA} (h : PA X es (tAr t W H0 cr)) : PE X (.List es pos) (tE t W H0 (cLNew cr)) := by
  refine PE.imp (pe_lst h) ?_
  rintro σ H Q ⟨w, env, ah, A, E, P⟩
  refine ⟨w, env, ah, A, E, post_bind P fun l ah1 w1 vs H1 s1 A1 r1 P1 => ?_⟩
  split at P1
  · rename_i hl
    refine ⟨by rw [← reps_len r1]; exact le_line hl, fun p hp => ?_⟩
    have hm : MOk t (w1.own p) (.lst l) (upd H1 p (.lst vs)) p := ⟨A1.sub.free hp, vs, upd_same, Reps.mono (stp_alloc (t := t) (o := .dead) (ob := .lst vs) A1 hp trivial).1.le l r1⟩
    obtain ⟨s2, A2⟩ := stp_alloc A1 hp hm
    exact P1 _ _ _ s2 A2 (rep_alloc A1)
  · exact False.elim P1

/-! ### d.get(k), d.get(k, x), d.pop(k, x) -/
def cGet1 (o k : CE) : CE := fun env ah => (o env ah).bind fun x ah1 => if (dOf ah1 x).isSome = true then (k env ah1).bind fun y ah2 => match dOf ah2 x, keyD y with
  | some (ks, l), some k => .ok ((lkD ks l k).getD .non) ah2
  | _, _ => .bad else .bad
def cGet2 (o k d : CE) : CE := fun env ah => (o env ah).bind fun x ah1 => if (dOf ah1 x).isSome = true then (k env ah1).bind fun y ah2 => (d env ah2).bind fun z ah3 => match dOf ah3 x, keyD y with
  | some (ks, l), some k => .ok ((lkD ks l k).getD z) ah3
  | _, _ => .bad else .bad
theorem isD_of {w : Wd} {ah : AH} {H : Hp} {d : D} {v : V} (A : RelA t w ah H) (r : Rep t w d v) (e : (dOf ah d).isSome = true) : ∃ p, v = .ref p ∧ IsD H p := by
  obtain ⟨⟨ks, l⟩, e⟩ := Option.isSome_iff_exists.mp e
  obtain ⟨p, vs, rfl, h, _⟩ := dOf_rep A r e
  exact ⟨p, rfl, .inl ⟨_, h⟩⟩
theorem q_get1 (hu : X.A.units + 64 < cLine) (ho : PE X o (tE t W H0 xa)) (he : PE X e (tE t W H0 xb)) (m : M1 X o "get" apos e cpos := by exact ⟨rfl, rfl, rfl, rfl⟩) : PE X (.Call (.Attribute o "get" apos) [e] [] cpos) (tE t W H0 (cGet1 xa xb)) := by
  refine PE.imp (pe_dget1 (by omega) ho he m) ?_
  rintro σ H Q ⟨w, env, ah, A, E, P⟩
  refine ⟨w, env, ah, A, E, post_bind P fun x ah1 w1 v H1 s1 A1 r1 P1 => ?_⟩
  split at P1
  case isFalse => exact False.elim P1
  rename_i hx
  obtain ⟨p, rfl, hd⟩ := isD_of A1 r1 hx
  refine ⟨p, rfl, hd, w1, env, ah1, A1, E.step s1, post_bind P1 fun y ah2 w2 u H2 s2 A2 r2 P2 => ?_⟩
  split at P2
  · rename_i ks l k h1 h2
    obtain ⟨p', o, e1, g, h3⟩ := dget_of A2 (Rep.mono s2.le x r1) r2 h1 h2
    cases e1
    refine ⟨o, g, ?_⟩
    cases hl : lkD ks l k with
    | none =>
      rw [hl] at h3 P2
      replace h3 : o = none := h3
      subst h3
      exact post_ok P2 A2 (by simp only [Option.getD_none, Rep])
    | some d =>
      rw [hl] at h3 P2
      obtain ⟨v, rfl, rv⟩ := h3
      exact post_ok P2 A2 rv
  · exact False.elim P2
theorem q_get2 (hu : X.A.units + 64 < cLine) (ho : PE X o (tE t W H0 xa)) (he : PE X e (tE t W H0 xb)) (hf : PE X f (tE t W H0 xc)) (m : M2 X o "get" apos e f cpos := by exact ⟨rfl, rfl, rfl, rfl⟩) : PE X (.Call (.Attribute o "get" apos) [e, f] [] cpos) (tE t W H0 (cGet2 xa xb xc)) := by
  refine PE.imp (pe_dget2 (by omega) ho he hf m) ?_
  rintro σ H Q ⟨w, env, ah, A, E, P⟩
  refine ⟨w, env, ah, A, E, post_bind P fun x ah1 w1 v H1 s1 A1 r1 P1 => ?_⟩
  split at P1
  case isFalse => exact False.elim P1
  rename_i hx
  obtain ⟨p, rfl, hd⟩ := isD_of A1 r1 hx
  refine ⟨p, rfl, hd, w1, env, ah1, A1, E.step s1, post_bind P1 fun y ah2 w2 u H2 s2 A2 r2 P2 => ?_⟩
  refine ⟨w2, env, ah2, A2, (E.step s1).step s2, post_bind P2 fun z ah3 w3 u3 H3 s3 A3 r3 P3 => ?_⟩
  split at P3
  · rename_i ks l k h1 h2
    obtain ⟨p', o, e1, g, h3⟩ := dget_of A3 (Rep.mono (s2.trans s3).le x r1) (Rep.mono s3.le y r2) h1 h2
    cases e1
    refine ⟨o, g, ?_⟩
    cases hl : lkD ks l k with
    | none =>
      rw [hl] at h3 P3
      replace h3 : o = none := h3
      subst h3
      exact post_ok P3 A3 r3
    | some d =>
      rw [hl] at h3 P3
      obtain ⟨v, rfl, rv⟩ := h3
      exact post_ok P3 A3 rv
  · exact False.elim P3
/-- d.pop(k, x), d of the store -/
def popD (n : Nat) (k : Key) (z : D) (ah : AH) : Res D := match ah[n]? with
  | some (.dct ks l) => match lkD ks l k with
    | some d => .ok d (ah.set n (.dct (dropKs ks k) (dropL ks l k)))
    | none => .ok z ah
  | _ => .bad
def cPop2 (o k d : CE) : CE := fun env ah => (o env ah).bind fun x ah1 => if (dOf ah1 x).isSome = true then (k env ah1).bind fun y ah2 => (d env ah2).bind fun z ah3 => match x, keyD y with
  | .ref n, some k => popD n k z ah3
  | _, _ => .bad else .bad
theorem q_pop2 (ho : PE X o (tE t W H0 xa)) (he : PE X e (tE t W H0 xb)) (hf : PE X f (tE t W H0 xc)) (m : M2 X o "pop" apos e f cpos := by exact ⟨rfl, rfl, rfl, rfl⟩) : PE X (.Call (.Attribute o "pop" apos) [e, f] [] cpos) (tE t W H0 (cPop2 xa xb xc)) := by
  refine PE.imp (pe_dpop2 ho he hf m) ?_
  rintro σ H Q ⟨w, env, ah, A, E, P⟩
  refine ⟨w, env, ah, A, E, post_bind P fun x ah1 w1 v H1 s1 A1 r1 P1 => ?_⟩
  split at P1
  case isFalse => exact False.elim P1
  rename_i hx
  obtain ⟨p, rfl, hd⟩ := isD_of A1 r1 hx
  refine ⟨p, rfl, hd, w1, env, ah1, A1, E.step s1, post_bind P1 fun y ah2 w2 u H2 s2 A2 r2 P2 => ?_⟩
  refine ⟨w2, env, ah2, A2, (E.step s1).step s2, post_bind P2 fun z ah3 w3 u3 H3 s3 A3 r3 P3 => ?_⟩
  split at P3
  · rename_i n k hk
    have rx := Rep.mono (s2.trans s3).le _ r1
    simp only [Rep] at rx
    obtain ⟨p', e1, hρ⟩ := rx
    cases e1
    have ek := keyD_rep (Rep.mono s3.le y r2) hk
    unfold popD at P3
    split at P3
    · rename_i ks l hn
      obtain ⟨m0, vs, m1, m2, m3⟩ := A3.obj n _ p hn hρ
      have hlk := lk_val k m2 m3
      refine ⟨_, k, m1, ek, fun v hv => ?_, fun hv => ?_⟩
      · cases hl : lkD ks l k with
        | none =>
          rw [hl] at hlk
          rw [hlk] at hv
          cases hv
        | some d =>
          rw [hl] at hlk P3
          obtain ⟨v', e2, rv⟩ := hlk
          rw [hv] at e2
          cases e2
          obtain ⟨us, e3, e4, e5⟩ := drop_rep (k := k) m2 m3
          obtain ⟨s4, A4⟩ := ah_upd (o' := .dct (dropKs ks k) (dropL ks l k)) (ob := .dK (dropK (ks.zip vs) k)) A3 hn hρ m0 (nolk A3 m1 fun _ _ z => nomatch z) ⟨m0, us, by rw [upd_same, e3], e4, e5⟩
          exact P3 _ _ _ s4 A4 rv
      · cases hl : lkD ks l k with
        | none =>
          rw [hl] at P3
          exact post_ok P3 A3 r3
        | some d =>
          rw [hl] at hlk
          obtain ⟨v', e2, rv⟩ := hlk
          rw [hv] at e2
          cases e2
    · exact False.elim P3
  · exact False.elim P3

/-! ### k in d -/
theorem op_din (hu : X.A.units + 64 < cLine) : OpR X (compareOp .In) (fun x y H Q => ∃ a o, y = .ref a ∧ DGet H a x o ∧ Q (.bl o.isSome) H) := by
  intro pins s σ H x y v u Q I rx ry h
  obtain ⟨a, o, rfl, g, q⟩ := h
  obtain rfl : u = Value.ref a := ry
  exact d_in (by omega) I g rx fun s' I' => ⟨.bl o.isSome, H, I', rfl, q⟩
theorem op_dnotin (hu : X.A.units + 64 < cLine) : OpR X (compareOp .NotIn) (fun x y H Q => ∃ a o, y = .ref a ∧ DGet H a x o ∧ Q (.bl (!o.isSome)) H) := by
  intro pins s σ H x y v u Q I rx ry h
  obtain ⟨a, o, rfl, g, q⟩ := h
  obtain rfl : u = Value.ref a := ry
  exact d_notIn (by omega) I g rx fun s' I' => ⟨.bl (!o.isSome), H, I', rfl, q⟩
def inDD : F2 := fun ah x y => match dOf ah y, keyD x with
  | some (ks, l), some k => some (.bl (lkD ks l k).isSome)
  | _, _ => none
def notInDD : F2 := fun ah x y => match dOf ah y, keyD x with
  | some (ks, l), some k => some (.bl (!(lkD ks l k).isSome))
  | _, _ => none
theorem bs_inD : BinS t inDD (fun x y H Q => ∃ a o, y = .ref a ∧ DGet H a x o ∧ Q (.bl o.isSome) H) := by
  intro w ah H x y d v u Q A rx ry e q
  unfold inDD at e
  split at e
  · rename_i ks l k h1 h2
    cases e
    obtain ⟨p, o, rfl, g, h⟩ := dget_of A ry rx h1 h2
    refine ⟨p, o, rfl, g, ?_⟩
    have e2 : o.isSome = (lkD ks l k).isSome := by
      cases hl : lkD ks l k with
      | none => rw [hl] at h; replace h : o = none := h; rw [h]; rfl
      | some d => rw [hl] at h; obtain ⟨_, rfl, _⟩ := h; rfl
    rw [e2]
    exact fin0 A q (by simp only [Rep])
  · cases e
theorem bs_notInD : BinS t notInDD (fun x y H Q => ∃ a o, y = .ref a ∧ DGet H a x o ∧ Q (.bl (!o.isSome)) H) := by
  intro w ah H x y d v u Q A rx ry e q
  unfold notInDD at e
  split at e
  · rename_i ks l k h1 h2
    cases e
    obtain ⟨p, o, rfl, g, h⟩ := dget_of A ry rx h1 h2
    refine ⟨p, o, rfl, g, ?_⟩
    have e2 : o.isSome = (lkD ks l k).isSome := by
      cases hl : lkD ks l k with
      | none => rw [hl] at h; replace h : o = none := h; rw [h]; rfl
      | some d => rw [hl] at h; obtain ⟨_, rfl, _⟩ := h; rfl
    rw [e2]
    exact fin0 A q (by simp only [Rep])
  · cases e

/-! ### d[k] = v -/
def cDPut (v o k : CE) : CS := fun env ah => SRes.of env (v env ah) fun d ah1 => SRes.of env (o env ah1) fun x ah2 => SRes.of env (k env ah2) fun y ah3 => match x, keyD y with
  | .ref n, some k => match ah3[n]? with
    | some (.dct ks l) => if ks.length < 10000000 then .nx env (ah3.set n (.dct (putKs ks k) (putL ks l k d))) else .bad
    | _ => .bad
  | _, _ => .bad
theorem z_dput (hu : X.A.units + 64 < cLine) (hv : PE X a (tE t W H0 xc)) (ho : PE X o (tE t W H0 xa)) (hi : PE X e (tE t W H0 xb)) (hs : swapsWith a (some (.Subscript o e pos')) pos.line X.env = pure false := by rfl) :
    PS X (.Assign [.Subscript o e pos'] a pos) (tS t W w0 H0 (cDPut xc xa xb)) := by
  refine PS.imp (ps_dput (by omega) ho hi hv hs) ?_
  rintro Dn σ H ⟨w, env, ah, s, A, E, P⟩
  refine ⟨w, env, ah, A, E, post_of s E P fun d ah1 w1 v H1 s1 s01 A1 E1 r1 P1 => ?_⟩
  refine ⟨w1, env, ah1, A1, E1, post_of s01 E1 P1 fun x ah2 w2 u H2 s2 s02 A2 E2 r2 P2 => ?_⟩
  refine ⟨w2, env, ah2, A2, E2, post_of s02 E2 P2 fun y ah3 w3 u3 H3 s3 s03 A3 E3 r3 P3 => ?_⟩
  split at P3
  · rename_i n k hk
    split at P3
    · rename_i ks l hn
      split at P3
      · rename_i hlt
        have rx := Rep.mono s3.le _ r2
        simp only [Rep] at rx
        obtain ⟨p, rfl, hρ⟩ := rx
        have ek := keyD_rep r3 hk
        subst ek
        obtain ⟨m0, vs, m1, m2, m3⟩ := A3.obj n _ p hn hρ
        obtain ⟨us, e1, e2, e3⟩ := put_rep (k := k) (Rep.mono (s2.trans s3).le d r1) m2 m3
        obtain ⟨z1, z2, z3⟩ := ref_upd (o' := .dct (putKs ks k) (putL ks l k d)) (ob := .dK (putK (ks.zip vs) k v)) s03 A3 E3 hn hρ m0 (old_or s03 (List.mem_of_getElem? hρ)) (nolk A3 m1 fun _ _ z => nomatch z) ⟨m0, us, by rw [upd_same, e1], e2, e3⟩
        exact ⟨p, _, rfl, DPut.k m1 (by rw [List.length_zip]; exact Nat.lt_of_le_of_lt (Nat.min_le_left _ _) (lt_line hlt)), P3 w3 σ _ (Wle.refl _) z1 z2 z3⟩
      · exact False.elim P3
    · exact False.elim P3
  · exact False.elim P3

/-! ### d == {} -/
def rEqE : R2 := fun x y H Q => ∃ a b ks, x = .ref a ∧ y = .ref b ∧ Rd H a (.dK ks) ∧ Rd H b (.dK []) ∧ Q (.bl (ks.length == 0)) H
theorem op_eqE (hu : X.A.units + 64 < cLine) : OpR X (compareOp .Eq) rEqE := by
  intro pins s σ H x y v u Q I rx ry h
  obtain ⟨a, b, ks, rfl, rfl, ea, eb, q⟩ := h
  obtain rfl : v = Value.ref a := rx
  obtain rfl : u = Value.ref b := ry
  obtain ⟨_, ya, va, ra, da⟩ := dk_rd I.hok ea
  obtain ⟨_, yb, vb, rb, db⟩ := dk_rd I.hok eb
  have hb : vb = [] := by cases rb; rfl
  subst hb
  refine PySem.W.keq_eq (knd := mixKind X.prog X.w) (r := true) ya yb da db (by omega) (fun hl => ?_) (fin_bl I q (by rw [ra.length]; simp))
  have hv : va = [] := List.length_eq_zero_iff.mp hl
  subst hv
  exact .nil
def eqED : F2 := fun ah x y => match dOf ah x, dOf ah y with
  | some (ks, _), some ([], _) => some (.bl (ks.length == 0))
  | _, _ => none
theorem bs_eqE : BinS t eqED rEqE := by
  intro w ah H x y d v u Q A rx ry e q
  unfold eqED at e
  split at e
  · rename_i ks l l2 h1 h2
    cases e
    obtain ⟨p, vs, rfl, g1, g2, g3⟩ := dOf_rep A rx h1
    obtain ⟨p2, vs2, rfl, k1, k2, k3⟩ := dOf_rep A ry h2
    refine ⟨p, p2, _, rfl, rfl, g1, k1, ?_⟩
    have e2 : (ks.zip vs).length = ks.length := by rw [List.length_zip, ← g2, Nat.min_self]
    rw [e2]
    exact fin0 A q (by simp only [Rep])
  · cases e

/-! ### len(d), list(d), dict(pairs), list(d.items()) -/
def FLA := AH → List D → Option (D × AH)
def cCBA (f : FLA) (a : CA) : CE := fun env ah => (a env ah).bind fun l ah1 => match f ah1 l with
  | some (d, ah2) => .ok d ah2
  | none => .bad
def CallSA (t : Tb) (f : FLA) (r : List V → Hp → VK → Prop) : Prop := ∀ w ah H l d ah' vs Q, RelA t w ah H → Reps t w l vs → f ah l = some (d, ah') → (∀ w' z H', Stp w H w' H' → RelA t w' ah' H' → Rep t w' d z → Q z H') → r vs H Q
theorem cba_read {f : FLA} {r : List V → Hp → VK → Prop} (hs : CallSA t f r) : ∀ σ H Q, tE t W H0 (cCBA f ca) σ H Q → tCB r (tAr t W H0 ca) σ H Q := by
  rintro σ H Q ⟨w, env, ah, A, R, P⟩
  refine ⟨w, env, ah, A, R, post_bind P fun x ah1 w1 v H1 s1 A1 r1 P1 => ?_⟩
  cases e : f ah1 x with
  | none => rw [e] at P1; exact False.elim P1
  | some d =>
    obtain ⟨d, ah2⟩ := d
    rw [e] at P1
    exact hs w1 ah1 H1 x d ah2 v _ A1 r1 e fun w' z H' s' A' rz => P1 w' z H' s' A' rz
theorem q_ctyA {f : FLA} {r : List V → Hp → VK → Prop} {x : Str} {p : Pos} {T : String} (hc : CallR X (.type T) r) (hf : CallSA t f r) (hm : X.mg x = none) (hv : bootBuiltins x = some (.type T)) (ha : PA X (e :: es) (tAr t W H0 ca)) (hg : Gl X x := by rfl) (hn : x ≠ "__name__" := by decide) (hdb : (x == ("__debug__" : Str)) = false := by decide)
    (he : starEach (e :: es) X.env = (false, eval e X.env) :: starEach es X.env := by rfl) (hpl : (backTo pos (starEach es X.env)).any (·.1) = false := by rfl) : PE X (.Call (.Name x p) (e :: es) [] pos) (tE t W H0 (cCBA f ca)) :=
  PE.imp (pe_callTy hc hg hm hv ha hn hdb he hpl) (cba_read hf)
/-- len of a list of the store, of a dict -/
theorem call_lenX : CallR X (.builtin "len") (fun xs H Q => (∃ x n, xs = [x] ∧ LenV X.K x H n ∧ Q (.int n) H) ∨ ∃ a kvs, xs = [.ref a] ∧ Rd H a (.dK kvs) ∧ Q (.int kvs.length) H) := by
  refine call_len.or ?_
  intro pins s σ H xs us Q I r h
  obtain ⟨a, kvs, rfl, e, q⟩ := h
  obtain ⟨u, rfl, rx⟩ := vals1 r
  obtain rfl : u = Value.ref a := rx
  exact d_len I e fun t s' I' => ⟨.int kvs.length, H, I', ⟨t, rfl⟩, q⟩
def lenAD : FL := fun ah l => match l with
  | [x] => match dOf ah x with
    | some (ks, _) => some (.int ks.length)
    | none => match x with
      | .ref n => match ah[n]? with
        | some (.lst m) => some (.int m.length)
        | _ => none
      | x => lenD ah [x]
  | _ => none
theorem cs_lenA (hK : t.K = X.K := by rfl) : CallS t lenAD (fun xs H Q => (∃ x n, xs = [x] ∧ LenV X.K x H n ∧ Q (.int n) H) ∨ ∃ a kvs, xs = [.ref a] ∧ Rd H a (.dK kvs) ∧ Q (.int kvs.length) H) := by
  intro w ah H l d vs Q A r e q
  unfold lenAD at e
  split at e
  · rename_i x
    split at e
    · rename_i ks m h1
      cases e
      obtain ⟨v, rfl, rx⟩ := reps1 r
      obtain ⟨p, us, rfl, g1, g2, g3⟩ := dOf_rep A rx h1
      refine .inr ⟨p, _, rfl, g1, ?_⟩
      have e2 : (ks.zip us).length = ks.length := by rw [List.length_zip, ← g2, Nat.min_self]
      rw [e2]
      exact fin0 A q (by simp only [Rep])
    · split at e
      · rename_i n _
        split at e
        · rename_i m hn
          cases e
          obtain ⟨v, rfl, rx⟩ := reps1 r
          simp only [Rep] at rx
          obtain ⟨p, rfl, hρ⟩ := rx
          obtain ⟨_, us, h1, h2⟩ := A.obj n _ p hn hρ
          refine .inl ⟨.ref p, m.length, rfl, .inl ⟨us, SqL.of h1, reps_len h2⟩, fin0 A q (by simp only [Rep])⟩
        · cases e
      · exact .inl (cs_len hK w ah H _ d vs Q A r e q)
  · cases e
/-- list of a dict, of a list of the store -/
theorem call_list_rd (hc : X.calm = true) : CallR X (.type "list") (fun xs H Q => ∃ p kvs, xs = [.ref p] ∧ Rd H p (.dK kvs) ∧ ∀ q, H q = none → Q (.ref q) (upd H q (.lst (kvs.map fun kv => kV kv.1)))) := by
  intro pins s σ H xs us Q I r h
  obtain ⟨p, kvs, e, hk, q⟩ := h
  subst e
  obtain ⟨u, eu, rx⟩ := vals1 r
  subst eu
  obtain rfl : u = Value.ref p := rx
  obtain ⟨z, lo, vs, rk, hd⟩ := dk_rd I.hok hk
  obtain ⟨ep, hat⟩ := hd.dictAt
  have hl : kvs.length = vs.length := Paired.length rk
  refine PySem.W.kdl_call (PySem.W.kdl_dict (knd := mixKind X.prog X.w) (kvs := vs) (ep := ep) lo) (I.ok.hd hc) hat (by rw [← hl]; exact z) fun h' tk acc' c' hkeep hS hacc => ?_
  refine ⟨.ref s.heap.objs.size, upd H s.heap.objs.size (.lst (kvs.map fun kv => kV kv.1)), I.laid hkeep (Nat.le_refl _) (show ObjOk X.prog X.w _ _ _ (.lst (kvs.map fun kv => kV kv.1)) from ⟨?_, acc'.toList, c', ?_, ?_⟩), rfl, q _ (I.hok.fresh (Nat.le_refl _))⟩
  · rw [List.length_map]; exact z
  · have el : acc'.toList.length = acc'.size := by simp
    refine vals_of_at (by rw [List.length_map, el, hacc.1, hl]) fun j x w h1 h2 => ?_
    obtain ⟨k, y, hky, hi⟩ := hacc.2 j w (by rw [← Array.getElem?_toList]; exact h2)
    have e1 : (kvs.map (·.1))[j]? = some k := by
      rw [KV.keys rk, List.getElem?_map, hky] <;> rfl
    have e2 : (kvs.map fun kv => kV kv.1)[j]? = some (kV k) := by
      have e3 : (kvs.map fun kv => kV kv.1) = (kvs.map (·.1)).map kV := by rw [List.map_map] <;> rfl
      rw [e3, List.getElem?_map, e1] <;> rfl
    rw [e2] at h1
    cases h1
    exact keyIs_rel hi
  · rw [Array.toArray_toList]; exact hS
theorem reps_keys {w : Wd} : ∀ (ks : List Key), Reps t w (ks.map kD) (ks.map kV)
  | [] => by
    show Reps t w [] []
    simp only [Reps]
  | k :: r => by
    show Reps t w (kD k :: r.map kD) (kV k :: r.map kV)
    simp only [Reps]
    exact ⟨_, _, rfl, kD_rep k, reps_keys r⟩
theorem zip_keys : ∀ {ks : List Key} {vs : List V}, ks.length = vs.length → ((ks.zip vs).map fun kv => kV kv.1) = ks.map kV
  | [], [], _ => rfl
  | [], _ :: _, h => by cases h
  | _ :: _, [], h => by cases h
  | k :: ks, v :: vs, h => by
    rw [List.zip_cons_cons, List.map_cons, List.map_cons, zip_keys (by simpa using h)]
def listAD : FL := fun ah l => match l with
  | [x] => match dOf ah x with
    | some (ks, _) => some (.lst (ks.map kD))
    | none => match x with
      | .ref n => match ah[n]? with
        | some (.lst m) => some (.lst m)
        | _ => none
      | x => listD ah [x]
  | _ => none
def rListA (K : PySem.W.Frag) : List V → Hp → VK → Prop := fun xs H Q => (∃ p ys, xs = [.ref p] ∧ (SqL K H p ys ∨ SqT K H p ys) ∧ ∀ l, H l = none → Q (.ref l) (upd H l (.lst ys))) ∨ ∃ p kvs, xs = [.ref p] ∧ Rd H p (.dK kvs) ∧ ∀ q, H q = none → Q (.ref q) (upd H q (.lst (kvs.map fun kv => kV kv.1)))
theorem call_listA (hc : X.calm = true) : CallR X (.type "list") (rListA X.K) := call_list_of.or (call_list_rd hc)
theorem new_lst {w : Wd} {ah : AH} {H : Hp} {p : Addr} {l : List D} {vs : List V} (A : RelA t w ah H) (hp : H p = none) (r : Reps t w l vs) : ∃ w', Stp w H w' (upd H p (.lst vs)) ∧ RelA t w' ah (upd H p (.lst vs)) ∧ Rep t w' (.lst l) (.ref p) := by
  obtain ⟨s, A'⟩ := stp_add (o := .lst vs) A hp
  refine ⟨_, s, A', ?_⟩
  simp only [Rep]
  exact ⟨p, vs, rfl, add_at, Reps.mono s.le l r⟩
theorem cs_listA (hK : t.K = X.K := by rfl) : CallS t listAD (rListA X.K) := by
  intro w ah H l d vs Q A r e q
  unfold listAD at e
  split at e
  · rename_i x
    split at e
    · rename_i ks m h1
      cases e
      obtain ⟨v, rfl, rx⟩ := reps1 r
      obtain ⟨p, us, rfl, g1, g2, g3⟩ := dOf_rep A rx h1
      refine .inr ⟨p, _, rfl, g1, fun l hl => ?_⟩
      rw [zip_keys g2]
      obtain ⟨w', s', A', r'⟩ := new_lst A hl (reps_keys ks)
      exact q w' _ _ s' A' r'
    · split at e
      · rename_i n _
        split at e
        · rename_i m hn
          cases e
          obtain ⟨v, rfl, rx⟩ := reps1 r
          simp only [Rep] at rx
          obtain ⟨p, rfl, hρ⟩ := rx
          obtain ⟨_, us, h1, h2⟩ := A.obj n _ p hn hρ
          refine .inl ⟨p, us, rfl, .inl (SqL.of h1), fun l hl => ?_⟩
          obtain ⟨w', s', A', r'⟩ := new_lst A hl h2
          exact q w' _ _ s' A' r'
        · cases e
      · exact .inl (cs_list hK w ah H _ d vs Q A r e q)
  · cases e
end
end G
/-! The engine, part 18: dicts made of pairs, frozen, walked; instances of the store made; locks. -/
namespace G
open PySem PySem.Spec PyProof.Rows L2

section
variable {X : Cx} {t : Tb} {W : WX} {w0 : Wd} {H0 : Bs} {xa xb xc : CE} {ca : CA} {a b c e f o tg : Expr} {es : List Expr} {pos apos cpos pos' : Pos} {st : Stmt} {c1 : CS}
/-! ### list(d.items()), d of the store, not locked -/
def pairsD : List Key → List D → List D
  | k :: ks, d :: l => .tup [kD k, d] :: pairsD ks l
  | _, _ => []
def cItemsL (a : CE) : CE := fun env ah => (a env ah).bind fun x ah1 => match x with
  | .ref n => match ah1[n]? with
    | some (.dct ks l) => .ok (.lst (pairsD ks l)) ah1
    | _ => .bad
  | _ => .bad
theorem pairs_rep {w : Wd} : ∀ {ks : List Key} {l : List D} {vs : List V} {ts : List Addr}, ks.length = vs.length → Reps t w l vs → Paired (fun (z : Addr) (q : Key × V) => w.Hf z = some (.tup [kV q.1, q.2])) ts (ks.zip vs) → Reps t w (pairsD ks l) (ts.map V.ref)
  | [], l, vs, ts, h, r, p => by
    rw [List.zip_nil_left] at p
    cases p
    cases l <;> (show Reps t w [] []; simp only [Reps])
  | k :: ks, l, [], ts, h, r, p => by cases h
  | k :: ks, [], v :: vs, ts, h, r, p => by simp [Reps] at r
  | k :: ks, d :: l, v :: vs, ts, h, r, p => by
    rw [List.zip_cons_cons] at p
    cases p with
    | cons p1 p2 =>
      rename_i z zs
      simp only [Reps] at r
      obtain ⟨v', vr, e, r1, r2⟩ := r
      cases e
      show Reps t w (.tup [kD k, d] :: pairsD ks l) (.ref z :: zs.map V.ref)
      unfold Reps
      refine ⟨.ref z, zs.map V.ref, rfl, ?_, pairs_rep (by simpa using h) r2 p2⟩
      simp only [Rep]
      refine ⟨z, [kV k, v], rfl, .inl (.inl p1), ?_⟩
      simp only [Reps]
      exact ⟨kV k, [v], rfl, kD_rep k, v, [], rfl, r1, rfl⟩
theorem q_itemsL (hc : X.calm = true) (he : PE X e (tE t W H0 xa)) {p : Pos} (hm : X.mg "list" = none) (hg : Gl X "list" := by rfl) (hbase : attributeBase e "items" X.env (eval e X.env) = eval e X.env := by rfl) (hline : (apos.endLine == cpos.line) = true := by rfl)
    (hs : starEach [.Call (.Attribute e "items" apos) [] [] cpos] X.env = (false, eval (.Call (.Attribute e "items" apos) [] [] cpos) X.env) :: starEach [] X.env := by rfl) :
    PE X (.Call (.Name "list" p) [.Call (.Attribute e "items" apos) [] [] cpos] [] pos) (tE t W H0 (cItemsL xa)) := by
  refine PE.imp (LiI.pe_listItems hc he hg hm (by decide +kernel) hbase hline hs) ?_
  rintro σ H Q ⟨w, env, ah, A, E, P⟩
  refine ⟨w, env, ah, A, E, post_bind P fun x ah1 w1 v H1 s1 A1 r1 P1 => ?_⟩
  split at P1
  · rename_i n
    split at P1
    · rename_i ks l hn
      simp only [Rep] at r1
      obtain ⟨d, rfl, hρ⟩ := r1
      obtain ⟨m0, vs, m1, m2, m3⟩ := A1.obj n _ d hn hρ
      refine ⟨d, _, rfl, m1, fun H' p ts hk hp hts hpt hl hpa => ?_⟩
      have hfn : ∀ z, (z = p ∨ z ∈ ts) → H1 z = none := fun z h => by
        rcases h with h | h
        · rw [h]; exact hp
        · exact hts z h
      have key : ∀ z o, w1.Hf z = some o → ¬ (z = p ∨ z ∈ ts) := fun z o h q => by
        have := A1.sub z o h
        rw [hfn z q] at this
        cases this
      let w2 : Wd := { w1 with Hf := fun z => open Classical in if z = p ∨ z ∈ ts then H' z else w1.Hf z }
      have le : Wle w1 w2 := ⟨fun z o h => by
        show (if z = p ∨ z ∈ ts then H' z else w1.Hf z) = some o
        rw [if_neg (key z o h)]
        exact h, fun _ _ h => h, rfl⟩
      have s2 : Stp w1 H1 w2 H' := ⟨le, fun z o _ h => hk z o h, fun z o h => ⟨o, hk z o h⟩, fun _ h => .inl h, fun z o h => by
        replace h : (if z = p ∨ z ∈ ts then H' z else w1.Hf z) = some o := h
        split at h
        · rename_i q
          exact .inr (.inl (hfn z q))
        · exact .inl h⟩
      have A2 : RelA t w2 ah1 H' := ⟨fun z o h => by
        replace h : (if z = p ∨ z ∈ ts then H' z else w1.Hf z) = some o := h
        split at h
        · exact h
        · exact hk z o (A1.sub z o h), A1.len, A1.nd, fun z h => by
          obtain ⟨o, e⟩ := A1.live z h
          exact ⟨o, hk z o e⟩, fun m u z e1 e2 => (A1.obj m u z e1 e2).step le (fun h => by
            show (if z = p ∨ z ∈ ts then H' z else w1.Hf z) = none
            rw [if_neg (fun q => by
              obtain ⟨o, e⟩ := A1.live z (List.mem_of_getElem? e2)
              rw [hfn z q] at e
              cases e)]
            exact h) fun ob h => hk z ob h, fun z o h => ⟨hk z o (A1.lks z o h).1, (A1.lks z o h).2⟩⟩
      refine P1 w2 _ H' s2 A2 ?_
      simp only [Rep]
      have e1 : ∀ z, (z = p ∨ z ∈ ts) → w2.Hf z = H' z := fun z q => if_pos q
      refine ⟨p, _, rfl, by rw [e1 p (.inl rfl)]; exact hl, pairs_rep m2 (Reps.mono le l m3) ?_⟩
      have go : ∀ (us : List Addr) (qs : List (Key × V)), (∀ z ∈ us, z ∈ ts) → Paired (fun (t : Addr) (q : Key × V) => H' t = some (.tup [kV q.1, q.2])) us qs → Paired (fun (z : Addr) (q : Key × V) => w2.Hf z = some (.tup [kV q.1, q.2])) us qs := by
        intro us qs hu h
        induction h with
        | nil => exact .nil
        | cons h1 h2 ih =>
          refine .cons ?_ (ih fun z hz => hu z (List.mem_cons_of_mem _ hz))
          rw [e1 _ (.inr (hu _ (List.mem_cons_self ..)))]
          exact h1
      exact go ts _ (fun z h => h) hpa
    · exact False.elim P1
  · exact False.elim P1

/-! ### dict(pairs) -/
def pairsOf : List D → Option (List (Key × D))
  | [] => some []
  | .tup [k, d] :: r => (keyD k).bind fun k => (pairsOf r).map ((k, d) :: ·)
  | _ => none
def mergeD : List (Key × D) → List Key → List D → List Key × List D
  | [], ks, l => (ks, l)
  | (k, d) :: r, ks, l => mergeD r (putKs ks k) (putL ks l k d)
theorem pairsOf_rep {w : Wd} {K : PySem.W.Frag} (hK : t.K = K) : ∀ {m : List D} {vs : List V} {r : List (Key × D)}, Reps t w m vs → pairsOf m = some r → ∃ (ps : List Addr) (us : List V), vs = ps.map V.ref ∧ r.length = us.length ∧ Reps t w (r.map (·.2)) us ∧
    Paired (fun p kv => SqT K w.Hf p [kV kv.1, kv.2]) ps ((r.map (·.1)).zip us)
  | [], vs, r, h, e => by
    simp only [Reps] at h
    subst h
    cases e
    exact ⟨[], [], rfl, rfl, by show Reps t w [] []; simp only [Reps], .nil⟩
  | d :: m, vs, r, h, e => by
    unfold pairsOf at e
    split at e
    · rename_i q
      cases q
    · rename_i k d r' q
      cases q
      simp only [Reps] at h
      obtain ⟨v, vr, rfl, h1, h2⟩ := h
      simp only [Rep] at h1
      obtain ⟨p, xs, rfl, h3, h4⟩ := h1
      simp only [Reps] at h4
      obtain ⟨v1, _, rfl, h5, v2, _, rfl, h6, rfl⟩ := h4
      cases hk : keyD k with
      | none => rw [hk] at e; cases e
      | some kk =>
        rw [hk] at e
        replace e : (pairsOf m).map ((kk, d) :: ·) = some r := e
        cases hm : pairsOf m with
        | none => rw [hm] at e; cases e
        | some r2 =>
          rw [hm] at e
          cases e
          obtain ⟨ps, us, e1, e2, e3, e4⟩ := pairsOf_rep hK h2 hm
          have ek := keyD_rep h5 hk
          subst ek
          refine ⟨p :: ps, v2 :: us, by rw [e1]; rfl, by simp [e2], ?_, ?_⟩
          · show Reps t w (d :: r2.map (·.2)) _
            simp only [Reps]
            exact ⟨v2, us, rfl, h6, e3⟩
          · show Paired _ (p :: ps) ((kk, v2) :: ((r2.map (·.1)).zip us))
            refine .cons ?_ e4
            rw [← hK]
            exact h3
    · cases e
theorem merge_rep {w : Wd} : ∀ {r : List (Key × D)} {us : List V} {ks : List Key} {l : List D} {vs : List V}, r.length = us.length → Reps t w (r.map (·.2)) us → ks.length = vs.length → Reps t w l vs →
    ∃ zs, mergeK (ks.zip vs) ((r.map (·.1)).zip us) = (mergeD r ks l).1.zip zs ∧ (mergeD r ks l).1.length = zs.length ∧ Reps t w (mergeD r ks l).2 zs
  | [], us, ks, l, vs, h, hr, h2, r2 => by
    cases us with
    | nil => exact ⟨vs, rfl, h2, r2⟩
    | cons _ _ => cases h
  | (k, d) :: r, us, ks, l, vs, h, hr, h2, r2 => by
    cases us with
    | nil => cases h
    | cons u us =>
      replace hr : Reps t w (d :: r.map (·.2)) (u :: us) := hr
      simp only [Reps] at hr
      obtain ⟨v', vr, e, q1, q2⟩ := hr
      cases e
      obtain ⟨ws, e1, e2, e3⟩ := put_rep (k := k) q1 h2 r2
      obtain ⟨zs, e4, e5, e6⟩ := merge_rep (by simpa using h) q2 e2 e3
      refine ⟨zs, ?_, e5, e6⟩
      show mergeK (putK (ks.zip vs) k u) ((r.map (·.1)).zip us) = _
      rw [e1, e4]
      rfl
/-- dict(pairs): a dict of the store; dict(d): a copy -/
def dictA : FLA := fun ah l => match l with
  | [x] => match dOf ah x with
    | some (ks, l) => some (.ref ah.length, ah ++ [.dct ks l])
    | none => match x with
      | .lst m => (pairsOf m).map fun r => (.ref ah.length, ah ++ [.dct (mergeD r [] []).1 (mergeD r [] []).2])
      | _ => none
  | _ => none
def rDictA (K : PySem.W.Frag) : List V → Hp → VK → Prop := fun xs H Q => (∃ (a : Addr) (ps : List Addr) (kvs : List (Key × V)), xs = [.ref a] ∧ SqL K H a (ps.map V.ref) ∧ Paired (fun p kv => SqT K H p [kV kv.1, kv.2]) ps kvs ∧
    ∀ p, H p = none → Q (.ref p) (upd H p (.dK (mergeK [] kvs)))) ∨ ∃ a kvs, xs = [.ref a] ∧ Rd H a (.dK kvs) ∧ ∀ p, H p = none → Q (.ref p) (upd H p (.dK kvs))
theorem call_dictA (hc : X.calm = true) : CallR X (.type "dict") (rDictA X.K) := by
  refine (call_dictP hc).or ?_
  intro pins s σ H xs us Q I r h
  obtain ⟨a, kvs, rfl, e, q⟩ := h
  obtain ⟨u, rfl, rx⟩ := vals1 r
  obtain rfl : u = Value.ref a := rx
  exact d_copyOf I e fun p s' hp I' => ⟨.ref p, _, I', rfl, q p hp⟩
theorem cs_dictA (hK : t.K = X.K := by rfl) : CallSA t dictA (rDictA X.K) := by
  intro w ah H l d ah' vs Q A r e q
  unfold dictA at e
  split at e
  · rename_i x
    obtain ⟨v, rfl, rx⟩ := reps1 r
    split at e
    · rename_i ks l h1
      cases e
      obtain ⟨p, us, rfl, g1, g2, g3⟩ := dOf_rep A rx h1
      refine .inr ⟨p, _, rfl, g1, fun z hz => ?_⟩
      have hm : MOk t (w.own z) (.dct ks l) (upd H z (.dK (ks.zip us))) z := ⟨A.sub.free hz, us, upd_same, g2, Reps.mono (stp_alloc (t := t) (o := .dead) (ob := .dK (ks.zip us)) A hz trivial).1.le l g3⟩
      obtain ⟨s1, A1⟩ := stp_alloc A hz hm
      exact q _ _ _ s1 A1 (rep_alloc A)
    · split at e
      · rename_i m _
        cases hp : pairsOf m with
        | none => rw [hp] at e; cases e
        | some rr =>
          rw [hp] at e
          cases e
          simp only [Rep] at rx
          obtain ⟨p, xs, rfl, h1, h2⟩ := rx
          obtain ⟨ps, us, rfl, e2, e3, e4⟩ := pairsOf_rep hK h2 hp
          refine .inl ⟨p, ps, _, rfl, SqL.of (A.sub _ _ h1), L2.Paired.mapP e4 fun z kv h => same_sqT A.sub h, fun z hz => ?_⟩
          obtain ⟨zs, k1, k2, k3⟩ := merge_rep (ks := []) (l := []) (vs := []) e2 e3 rfl (by simp only [Reps])
          rw [show mergeK [] ((rr.map (·.1)).zip us) = _ from k1]
          have hm : MOk t (w.own z) (.dct (mergeD rr [] []).1 (mergeD rr [] []).2) (upd H z (.dK ((mergeD rr [] []).1.zip zs))) z := ⟨A.sub.free hz, zs, upd_same, k2, Reps.mono (stp_alloc (t := t) (o := .dead) (ob := .dK ((mergeD rr [] []).1.zip zs)) A hz trivial).1.le _ k3⟩
          obtain ⟨s1, A1⟩ := stp_alloc A hz hm
          exact q _ _ _ s1 A1 (rep_alloc A)
      · cases e
  · cases e

/-! ### a dict of the store is frozen where it stands -/
/-- what a value, or a field of it, is frozen to -/
def frzV (ah : AH) (d : D) : Option (D × AH) := match d with
  | .ref n => match ah[n]? with
    | some (.dct ks l) => some (.dct ks l, ah.set n .dead)
    | _ => none
  | _ => none
theorem pe_ghost {u : TE} (h : PE X e u) : PE X e (fun σ H Q => u σ H fun v H1 => Q v H1 ∨ ∃ d o, H1 d = some o ∧ Mut (some o) ∧ ∀ od, Q v (upd H1 d (.frz od o))) := by
  refine ⟨fun pins s σ H Q I hw => ?_⟩
  refine thn (h.run pins s σ H _ I hw) fun v s1 ⟨x, H1, I1, r, q⟩ => ?_
  rcases q with q | ⟨d, o, hd, mu, q⟩
  · exact ⟨x, H1, I1, r, q⟩
  · obtain ⟨od, I2⟩ := I1.lock hd mu
    exact ⟨x, _, I2, r, q od⟩
theorem frz_step {w : Wd} {ah : AH} {H : Hp} {n : Nat} {p : Addr} {ks : List Key} {l : List D} {od : Obj} {vs : List V} (A : RelA t w ah H) (hn : ah[n]? = some (.dct ks l)) (hρ : w.ρ[n]? = some p) (hp : H p = some (.dK (ks.zip vs))) (hf : w.Hf p = none) :
    Stp w H (w.add p (.frz od (.dK (ks.zip vs)))) (upd H p (.frz od (.dK (ks.zip vs)))) ∧ RelA t (w.add p (.frz od (.dK (ks.zip vs)))) (ah.set n .dead) (upd H p (.frz od (.dK (ks.zip vs)))) := by
  have hm : p ∈ w.ρ := List.mem_of_getElem? hρ
  have hL : w.Lk p = none := nolk A hp fun _ _ z => nomatch z
  have hne : ∀ z o, w.Hf z = some o → z ≠ p := fun z o h q => by rw [q, hf] at h; cases h
  have le : Wle w (w.add p (.frz od (.dK (ks.zip vs)))) := ⟨fun z o h => by
    show upd w.Hf p _ z = some o
    rw [upd_ne (hne z o h)]
    exact h, fun _ _ h => h, rfl⟩
  refine ⟨⟨le, fun z o h1 h2 => by rw [upd_ne (fun q => h1 (by rw [q]; exact hm))]; exact h2, fun z o h => ?_, fun _ h => .inl h, fun z o h => ?_⟩, ⟨fun z o h => ?_, by rw [List.length_set]; exact A.len, A.nd, fun z h => ?_, fun m u z e1 e2 => ?_, fun z o h => ?_⟩⟩
  · by_cases q : z = p
    · exact ⟨_, by rw [q]; exact upd_same⟩
    · exact ⟨o, by rw [upd_ne q]; exact h⟩
  · by_cases q : z = p
    · exact .inr (.inr (by rw [q]; exact hm))
    · replace h : upd w.Hf p _ z = some o := h
      rw [upd_ne q] at h
      exact .inl h
  · replace h : upd w.Hf p _ z = some o := h
    by_cases q : z = p
    · rw [q, upd_same] at h ⊢
      exact h
    · rw [upd_ne q] at h ⊢
      exact A.sub z o h
  · by_cases q : z = p
    · exact ⟨_, by rw [q]; exact upd_same⟩
    · rw [upd_ne q]
      exact A.live z h
  · by_cases h : n = m
    · subst h
      have hlt : n < ah.length := (List.getElem?_eq_some_iff.mp hn).1
      rw [List.getElem?_set_self hlt] at e1
      cases e1
      trivial
    · rw [List.getElem?_set_ne h] at e1
      have ne : z ≠ p := fun q => by
        subst q
        obtain ⟨h1, e3⟩ := List.getElem?_eq_some_iff.mp hρ
        obtain ⟨h2, e4⟩ := List.getElem?_eq_some_iff.mp e2
        exact h ((List.getElem_inj A.nd).mp (e3.trans e4.symm))
      exact (A.obj m u z e1 e2).step le (fun h => by show upd w.Hf p _ z = none; rw [upd_ne ne]; exact h) fun ob h => by rw [upd_ne ne]; exact h
  · replace h : w.Lk z = some o := h
    have q : z ≠ p := fun q => by rw [q, hL] at h; cases h
    rw [upd_ne q]
    exact A.lks z o h
def cFrzV (a : CE) : CE := fun env ah => (a env ah).bind fun d ah1 => match frzV ah1 d with
  | some (d', ah2) => .ok d' ah2
  | none => .ok d ah1
theorem q_frzV (h : PE X e (tE t W H0 xa)) : PE X e (tE t W H0 (cFrzV xa)) := by
  refine PE.imp (pe_ghost h) ?_
  rintro σ H Q ⟨w, env, ah, A, E, P⟩
  refine ⟨w, env, ah, A, E, post_bind P fun d ah1 w1 v H1 s1 A1 r1 P1 => ?_⟩
  split at P1
  · rename_i d' ah2 hf
    unfold frzV at hf
    split at hf
    · rename_i n
      split at hf
      · rename_i ks l hn
        cases hf
        simp only [Rep] at r1
        obtain ⟨p, rfl, hρ⟩ := r1
        obtain ⟨m0, vs, m1, m2, m3⟩ := A1.obj n _ p hn hρ
        refine .inr ⟨p, _, m1, trivial, fun od => ?_⟩
        obtain ⟨s2, A2⟩ := frz_step (od := od) A1 hn hρ m1 m0
        refine P1 _ _ _ s2 A2 ?_
        simp only [Rep]
        exact ⟨p, od, vs, rfl, add_at, m2, Reps.mono s2.le l m3⟩
      · cases hf
    · cases hf
  · exact .inl (post_ok P1 A1 r1)
/-- field j of the instance that is told -/
def frzF (j : Nat) (ah : AH) (d : D) : Option AH := match d with
  | .ref m => match ah[m]? with
    | some (.ins c l) => match l[j]? with
      | some (.ref n) => match ah[n]? with
        | some (.dct ks l') => some ((ah.set n .dead).set m (.ins c (l.set j (.dct ks l'))))
        | _ => none
      | _ => none
    | _ => none
  | _ => none
def cFrzF (j : Nat) (a : CE) : CE := fun env ah => (a env ah).bind fun d ah1 => match frzF j ah1 d with
  | some ah2 => .ok d ah2
  | none => .ok d ah1
theorem q_frzF (j : Nat) (h : PE X e (tE t W H0 xa)) : PE X e (tE t W H0 (cFrzF j xa)) := by
  refine PE.imp (pe_ghost h) ?_
  rintro σ H Q ⟨w, env, ah, A, E, P⟩
  refine ⟨w, env, ah, A, E, post_bind P fun d ah1 w1 v H1 s1 A1 r1 P1 => ?_⟩
  split at P1
  · rename_i ah2 hf
    unfold frzF at hf
    split at hf
    · rename_i m
      split at hf
      · rename_i c l hm
        split at hf
        · rename_i n hj
          split at hf
          · rename_i ks l' hn
            cases hf
            have r1' := r1
            simp only [Rep] at r1'
            obtain ⟨pm, rfl, hρm⟩ := r1'
            obtain ⟨i0, dx, us, i1, i2, i3⟩ := A1.obj m _ pm hm hρm
            obtain ⟨z, hz, rz⟩ := reps_get i3 hj
            simp only [Rep] at rz
            obtain ⟨p, rfl, hρ⟩ := rz
            obtain ⟨m0, vs, m1, m2, m3⟩ := A1.obj n _ p hn hρ
            refine .inr ⟨p, _, m1, trivial, fun od => ?_⟩
            obtain ⟨s2, A2⟩ := frz_step (od := od) A1 hn hρ m1 m0
            have hne : n ≠ m := fun q => by rw [q, hm] at hn; cases hn
            have hpne : pm ≠ p := fun q => by rw [q, m1] at i1; cases i1
            have hm2 : (ah1.set n MO.dead)[m]? = some (.ins c l) := by rw [List.getElem?_set_ne hne]; exact hm
            have e1 : us.set j (V.ref p) = us := by
              refine List.ext_getElem? fun i => ?_
              by_cases h : j = i
              · subst h
                have hlt := (List.getElem?_eq_some_iff.mp hz).1
                rw [List.getElem?_set_self hlt, hz]
              · rw [List.getElem?_set_ne h]
            have rr : Reps t (w1.add p (.frz od (.dK (ks.zip vs)))) (l.set j (.dct ks l')) us := by
              have := reps_set (t := t) (w := w1.add p (.frz od (.dK (ks.zip vs)))) (d := .dct ks l') (v := .ref p) (by simp only [Rep]; exact ⟨p, od, vs, rfl, add_at, m2, Reps.mono s2.le l' m3⟩) j (Reps.mono s2.le l i3)
              rw [e1] at this
              exact this
            obtain ⟨k0, _, _, k1, _, _⟩ := A2.obj m _ pm hm2 hρm
            have A3 : RelA t (w1.add p (.frz od (.dK (ks.zip vs)))) ((ah1.set n .dead).set m (.ins c (l.set j (.dct ks l')))) (upd H1 p (.frz od (.dK (ks.zip vs)))) := by
              refine ⟨A2.sub, by rw [List.length_set]; exact A2.len, A2.nd, A2.live, fun i u z e1 e2 => ?_, A2.lks⟩
              by_cases h : m = i
              · subst h
                have hlt : m < (ah1.set n MO.dead).length := (List.getElem?_eq_some_iff.mp hm2).1
                rw [List.getElem?_set_self hlt] at e1
                cases e1
                rw [show (w1.add p (.frz od (.dK (ks.zip vs)))).ρ = w1.ρ from rfl, hρm] at e2
                cases e2
                exact ⟨k0, dx, us, by rw [upd_ne hpne]; exact i1, i2, rr⟩
              · rw [List.getElem?_set_ne h] at e1
                exact A2.obj i u z e1 e2
            exact P1 _ _ _ s2 A3 (Rep.mono s2.le _ r1)
          · cases hf
        · cases hf
      · cases hf
    · cases hf
  · exact .inl (post_ok P1 A1 r1)

/-! ### C(..), the instance in the store -/
def cMakeR (cls : Nat) (F : FD) (n : Nat) (dds : List D) (a : CA) : CE := fun env ah => (a env ah).bind fun l ah1 => if (l ++ dds).length = n then (F (.ref ah1.length :: (l ++ dds)) (ah1 ++ [.ins cls []])).bind fun r ah2 => match r with
  | .non => .ok (.ref ah1.length) ah2
  | _ => .bad else .bad
theorem makeR_read {cls n : Nat} {F : FD} {dds : List D} {dvs : List V} (hd : ∀ w, Reps t w dds dvs) : ∀ σ H Q, tE t W H0 (cMakeR cls F n dds ca) σ H Q → tMakeS (t.cl cls) (spD t F (n + 1)) dvs (WE W) (tAr t W H0 ca) σ H Q := by
  rintro σ H Q ⟨w, env, ah, A, R, P⟩
  refine ⟨w, env, ah, A, R, post_bind P fun l ah1 w1 vs H1 s1 A1 r1 P1 => ?_⟩
  intro x dx hx hdx hne
  split at P1
  case isFalse => exact False.elim P1
  rename_i hn
  obtain ⟨sa, Aa⟩ := stp_new (o := .own x) A1 hdx
  have hx' : upd H1 dx (.own x) x = none := by rw [upd_ne (Ne.symm hne)]; exact hx
  have hm : MOk t (w1.own x) (.ins cls []) (upd (upd H1 dx (.own x)) x (.ins (t.cl cls) dx [])) x := ⟨A1.sub.free hx, dx, [], by rw [upd_same, List.zip_nil_right], Nat.zero_le _, by simp only [Reps]⟩
  obtain ⟨sb, Ab⟩ := stp_alloc Aa hx' hm
  refine ⟨?_, w1.own x, .ref ah1.length :: (l ++ dds), _, Ab, ?_, ?_⟩
  · rw [List.length_cons, ← hn, List.length_append, List.length_append, reps_len r1, reps_len (hd w1)]
  · have le : Wle w1 (w1.own x) := (sa.trans sb).le
    unfold Reps
    exact ⟨_, _, rfl, rep_alloc Aa, reps_append (Reps.mono le l r1) (hd _)⟩
  · cases e : F (.ref ah1.length :: (l ++ dds)) (ah1 ++ [.ins cls []]) with
    | bad => rw [e] at P1; exact False.elim P1
    | exc c m ah2 =>
      rw [e] at P1
      exact fun w d H' s A x => P1 w d H' ((sa.trans sb).trans s) A x
    | ok r ah2 =>
      rw [e] at P1
      intro w' v H' s' A' rv
      cases r <;> first
        | exact False.elim P1
        | (simp only [Rep] at rv
           exact ⟨rv, P1 w' _ H' ((sa.trans sb).trans s') A' (Rep.mono s'.le _ (rep_alloc Aa))⟩)
structure KROk (P : Program) (w : World) (K : PySem.W.Frag) (mg : Str → Option Value) (base : Heap) (t : Tb) (k : Nat) (x : Str) (cls : Nat) (F : FD) (n : Nat) (dds : List D) : Prop where
  ex : ∃ (f : Addr) (fd : FuncData) (ps : List Str) (ds : List Value) (dvs : List V), FnOk P w K mg base (L2.CX P w) k f fd ps (spD t F (n + 1)) ∧ Mk K (t.cl cls) f ∧ mg x = some (.ref (t.cl cls)) ∧ L2.Binds K fd ps ds ∧ Vals dvs ds ∧ dds.map scD = dvs.map some
theorem q_makeR (cls : Nat) {x : Str} {p : Pos} {F : FD} {n : Nat} {dds : List D} {k : Nat} (hF : KROk X.prog X.w X.K X.mg X.base t k x cls F n dds) (hr : Room (k + 1) X.A) (tk : Takes X W)
    (ha : PA X (e :: es) (tAr t W H0 ca)) (hg : Gl X x := by rfl) (hdb : (x == ("__debug__" : Str)) = false := by decide) (he : starEach (e :: es) X.env = (false, eval e X.env) :: starEach es X.env := by rfl) (hpl : (backTo pos (starEach es X.env)).any (·.1) = false := by rfl) :
    PE X (.Call (.Name x p) (e :: es) [] pos) (tE t W H0 (cMakeR cls F n dds ca)) := by
  obtain ⟨f, fd, ps, ds, dvs, h1, h2, h3, h4, h5, h6⟩ := hF.ex
  exact PE.imp (pe_makeS h2 h1 hr hg h3 h4 h5 (fun σ => passAt tk σ) ha hdb he hpl) (makeR_read fun w => scD_reps h6)

/-! ### walks of dicts: frozen ones, locked ones -/
def lkdOf (ah : AH) : D → Option (List Key × List D)
  | .dct ks l => some (ks, l)
  | .ref n => match ah[n]? with
    | some (.ldct ks l) => some (ks, l)
    | _ => none
  | _ => none
theorem lkd_rep {w : Wd} {ah : AH} {H : Hp} {d : D} {v : V} {ks : List Key} {l : List D} (A : RelA t w ah H) (r : Rep t w d v) (e : lkdOf ah d = some (ks, l)) :
    ∃ p od vs, v = .ref p ∧ (∀ w' ah' H', Wle w w' → RelA t w' ah' H' → H' p = some (.frz od (.dK (ks.zip vs)))) ∧ ks.length = vs.length ∧ Reps t w l vs := by
  cases d with
  | dct ks' l' =>
    simp only [lkdOf, Option.some.injEq, Prod.mk.injEq] at e
    obtain ⟨rfl, rfl⟩ := e
    simp only [Rep] at r
    obtain ⟨p, od, vs, rfl, h1, h2, h3⟩ := r
    exact ⟨p, od, vs, rfl, fun w' ah' H' le A' => A'.sub _ _ (le.hf _ _ h1), h2, h3⟩
  | ref n =>
    simp only [Rep] at r
    obtain ⟨p, rfl, hρ⟩ := r
    simp only [lkdOf] at e
    split at e
    · rename_i ks' l' hn
      simp only [Option.some.injEq, Prod.mk.injEq] at e
      obtain ⟨rfl, rfl⟩ := e
      obtain ⟨_, od, vs, h1, h2, h3⟩ := A.obj n _ p hn hρ
      exact ⟨p, od, vs, rfl, fun w' ah' H' le A' => (A'.lks _ _ (by rw [le.lk]; exact h1)).1, h2, h3⟩
    · cases e
  | _ => simp only [lkdOf, reduceCtorEq] at e
theorem zip_get {ks : List Key} {vs : List V} {i : Nat} {k : Key} {v : V} (h : (ks.zip vs)[i]? = some (k, v)) : ks[i]? = some k ∧ vs[i]? = some v := by
  have := List.getElem?_zip_eq_some.mp h
  exact this
theorem wlk_keys {w : Wd} {p : Addr} {od : Obj} {ks : List Key} {vs : List V} (hl : ks.length = vs.length) (h : ∀ w' ah' H', Wle w w' → RelA t w' ah' H' → H' p = some (.frz od (.dK (ks.zip vs)))) : Wlk t w (ks.map kD) (Itk p od (ks.zip vs)) := by
  have e1 : (ks.zip vs).length = ks.length := by rw [List.length_zip, ← hl, Nat.min_self]
  refine ⟨_, _, by rw [List.length_map, ← e1]; exact walk_keys, fun w' ah H le A => h w' ah H le A, fun w' ah H i x H' le A hi y => ?_⟩
  obtain ⟨rfl, k, v, h1, rfl⟩ := y
  exact ⟨w', kD k, Stp.refl _ _, A, by rw [List.getElem?_map, (zip_get h1).1]; rfl, kD_rep k⟩
theorem wlk_vals {w : Wd} {p : Addr} {od : Obj} {ks : List Key} {vs : List V} {l : List D} (hl : ks.length = vs.length) (h : ∀ w' ah' H', Wle w w' → RelA t w' ah' H' → H' p = some (.frz od (.dK (ks.zip vs)))) (r : Reps t w l vs) : Wlk t w l (Itd p od (ks.zip vs)) := by
  have e1 : (ks.zip vs).length = l.length := by rw [List.length_zip, hl, Nat.min_self, reps_len r]
  refine ⟨_, _, by rw [← e1]; exact walk_values, fun w' ah H le A => h w' ah H le A, fun w' ah H i x H' le A hi y => ?_⟩
  obtain ⟨rfl, k, h1⟩ := y
  obtain ⟨d, h2, h3⟩ := reps_getv r (zip_get h1).2
  exact ⟨w', d, Stp.refl _ _, A, h2, Rep.mono le d h3⟩
theorem pairsD_len : ∀ {ks : List Key} {l : List D}, ks.length = l.length → (pairsD ks l).length = ks.length
  | [], l, h => by cases l <;> rfl
  | k :: ks, [], h => by cases h
  | k :: ks, d :: l, h => by
    show (pairsD ks l).length + 1 = _
    rw [pairsD_len (by simpa using h), List.length_cons]
theorem pairsD_get : ∀ {ks : List Key} {l : List D} {i : Nat} {k : Key} {d : D}, ks[i]? = some k → l[i]? = some d → (pairsD ks l)[i]? = some (.tup [kD k, d])
  | [], l, i, k, d, h1, h2 => by simp at h1
  | k' :: ks, [], i, k, d, h1, h2 => by simp at h2
  | k' :: ks, d' :: l, 0, k, d, h1, h2 => by
    simp only [List.getElem?_cons_zero, Option.some.injEq] at h1 h2
    subst h1 h2
    rfl
  | k' :: ks, d' :: l, i + 1, k, d, h1, h2 => by
    rw [List.getElem?_cons_succ] at h1 h2
    show (D.tup [kD k', d'] :: pairsD ks l)[i + 1]? = _
    rw [List.getElem?_cons_succ]
    exact pairsD_get h1 h2
theorem wlk_items {w : Wd} {p : Addr} {od : Obj} {ks : List Key} {vs : List V} {l : List D} (hl : ks.length = vs.length) (h : ∀ w' ah' H', Wle w w' → RelA t w' ah' H' → H' p = some (.frz od (.dK (ks.zip vs)))) (r : Reps t w l vs) : Wlk t w (pairsD ks l) (Iti p od (ks.zip vs)) := by
  have e0 : ks.length = l.length := by rw [hl, reps_len r]
  have e1 : (ks.zip vs).length = (pairsD ks l).length := by rw [List.length_zip, ← hl, Nat.min_self, pairsD_len e0]
  refine ⟨_, _, by rw [← e1]; exact walk_items, fun w' ah H le A => h w' ah H le A, fun w' ah H i x H' le A hi y => ?_⟩
  obtain ⟨T, y1, y2, rfl, hT, rfl, h1, h2⟩ := y
  replace h2 : (ks.zip vs)[i]?.map Prod.snd = some y2 := h2
  obtain ⟨⟨k, v⟩, h3, h4⟩ := Option.map_eq_some_iff.mp h1
  rw [h3] at h2
  simp only [Option.map_some, Option.some.injEq] at h2 h4
  subst h2 h4
  obtain ⟨g1, g2⟩ := zip_get h3
  obtain ⟨d, h5, h6⟩ := reps_getv r g2
  obtain ⟨s, A'⟩ := stp_add (o := .tup [kV k, v]) A hT
  refine ⟨_, .tup [kD k, d], s, A', pairsD_get g1 h5, ?_⟩
  simp only [Rep]
  refine ⟨T, [kV k, v], rfl, .inl (.inl add_at), ?_⟩
  simp only [Reps]
  exact ⟨kV k, [v], rfl, kD_rep k, v, [], rfl, Rep.mono (le.trans s.le) d h6, rfl⟩
/-- what is walked of a datum: a dict's keys, else as itD -/
def itDD (ah : AH) (x : D) : Option (List D) := match lkdOf ah x with
  | some (ks, _) => some (ks.map kD)
  | none => itD x
def itAnyD (a : CE) : CIt := fun env ah => (a env ah).bind fun x ah1 => ofO (itDD ah1 x) ah1
theorem i_anyD (ha : PE X a (tE t W H0 xa)) (hK : t.K = X.K := by rfl) : PI X tg a (tI t W H0 (itAnyD xa)) := by
  refine ⟨fun pins s σ H R I h => (G.PI.or (i_any ha hK) (pi_keys ha)).run pins s σ H R I ?_⟩
  obtain ⟨w, env, ah, A, E, P⟩ := h
  unfold itAnyD at P
  cases e : xa env ah with
  | bad => rw [e] at P; exact False.elim P
  | exc c m ah1 =>
    rw [e] at P
    refine .inl ⟨w, env, ah, A, E, ?_⟩
    unfold itAny
    rw [e]
    exact P
  | ok x ah1 =>
    rw [e] at P
    replace P : Post t (Wlk t) w H (ofO (itDD ah1 x) ah1) R (fun cls d H' => W cls d σ H') := P
    unfold itDD at P
    split at P
    · rename_i ks l hk
      refine .inr ⟨w, env, ah, A, E, ?_⟩
      rw [e]
      intro w1 v H1 s1 A1 r1
      obtain ⟨p, od, vs, rfl, h1, h2, h3⟩ := lkd_rep A1 r1 hk
      exact ⟨p, od, rfl, .inl ⟨_, h1 w1 ah1 H1 (Wle.refl _) A1, P w1 _ H1 s1 A1 (wlk_keys h2 h1)⟩⟩
    · refine .inl ⟨w, env, ah, A, E, ?_⟩
      unfold itAny
      rw [e]
      exact P
def itVals (a : CE) : CIt := fun env ah => (a env ah).bind fun x ah1 => ofO ((lkdOf ah1 x).map (·.2)) ah1
theorem i_vals (ha : PE X a (tE t W H0 xa)) (hbase : attributeBase a "values" X.env (eval a X.env) = eval a X.env := by rfl) (hline : (apos.endLine == cpos.line) = true := by rfl) : PI X tg (.Call (.Attribute a "values" apos) [] [] cpos) (tI t W H0 (itVals xa)) := by
  refine ⟨fun pins s σ H R I h => (pi_values ha hbase hline).run pins s σ H R I ?_⟩
  obtain ⟨w, env, ah, A, E, P⟩ := h
  refine ⟨w, env, ah, A, E, post_bind P fun x ah1 w1 v H1 s1 A1 r1 P1 => ?_⟩
  cases hk : lkdOf ah1 x with
  | none => rw [hk] at P1; exact False.elim P1
  | some kl =>
    obtain ⟨ks, l⟩ := kl
    rw [hk] at P1
    obtain ⟨p, od, vs, rfl, h1, h2, h3⟩ := lkd_rep A1 r1 hk
    exact ⟨p, od, _, rfl, h1 w1 ah1 H1 (Wle.refl _) A1, post_ok P1 A1 (wlk_vals h2 h1 h3)⟩
def itItems (a : CE) : CIt := fun env ah => (a env ah).bind fun x ah1 => ofO ((lkdOf ah1 x).map fun q => pairsD q.1 q.2) ah1
theorem i_items {elts : List Expr} {kk : Nat} {tpos : Pos} (ha : PE X a (tE t W H0 xa)) (hbase : attributeBase a "items" X.env (eval a X.env) = eval a X.env := by rfl) (hline : (apos.endLine == cpos.line) = true := by rfl) : PI X (.Tuple elts kk tpos) (.Call (.Attribute a "items" apos) [] [] cpos) (tI t W H0 (itItems xa)) := by
  refine ⟨fun pins s σ H R I h => (pi_items ha hbase hline).run pins s σ H R I ?_⟩
  obtain ⟨w, env, ah, A, E, P⟩ := h
  refine ⟨w, env, ah, A, E, post_bind P fun x ah1 w1 v H1 s1 A1 r1 P1 => ?_⟩
  cases hk : lkdOf ah1 x with
  | none => rw [hk] at P1; exact False.elim P1
  | some kl =>
    obtain ⟨ks, l⟩ := kl
    rw [hk] at P1
    obtain ⟨p, od, vs, rfl, h1, h2, h3⟩ := lkd_rep A1 r1 hk
    exact ⟨p, od, _, rfl, h1 w1 ah1 H1 (Wle.refl _) A1, post_ok P1 A1 (wlk_items h2 h1 h3)⟩
end
end G
/-! The engine, part 19: a dict of the store locked while a statement walks it. -/
namespace G
open PySem PySem.Spec PyProof.Rows L2

/-- another lock -/
def Wd.lock (w : Wd) (L : Hp) : Wd := { w with Lk := L }
theorem Wlq.lock (w : Wd) (L : Hp) : Wlq w (w.lock L) := ⟨Same.refl _, fun _ _ h => h⟩
theorem MOk.lock {t : Tb} {w : Wd} {H H' : Hp} {L : Hp} {o : MO} {a : Addr} (m : MOk t w o H a) (hL : w.Lk a = L a) (hH : ∀ ob, H a = some ob → H' a = some ob) : MOk t (w.lock L) o H' a := by
  cases o with
  | dead => trivial
  | lst l =>
    obtain ⟨h0, vs, h1, h2⟩ := m
    exact ⟨h0, vs, hH _ h1, Reps.mono0 (Wlq.lock w L) l h2⟩
  | dct ks l =>
    obtain ⟨h0, vs, h1, h3, h2⟩ := m
    exact ⟨h0, vs, hH _ h1, h3, Reps.mono0 (Wlq.lock w L) l h2⟩
  | ins c l =>
    obtain ⟨h0, dx, vs, h1, h3, h2⟩ := m
    exact ⟨h0, dx, vs, hH _ h1, h3, Reps.mono0 (Wlq.lock w L) l h2⟩
  | ldct ks l =>
    obtain ⟨h0, od, vs, h1, h3, h2⟩ := m
    exact ⟨h0, od, vs, by rw [← h1]; exact hL.symm, h3, Reps.mono0 (Wlq.lock w L) l h2⟩
  | llst l =>
    obtain ⟨h0, od, vs, h1, h2⟩ := m
    exact ⟨h0, od, vs, by rw [← h1]; exact hL.symm, Reps.mono0 (Wlq.lock w L) l h2⟩
  | tab k q =>
    obtain ⟨hk, h0, ps, h1, h2, h3⟩ := m
    exact ⟨hk, h0, ps, hH _ h1, h2, h3⟩
theorem RelE.lock {t : Tb} {H0 : Bs} {w : Wd} {H H' : Hp} {L : Hp} {env : En} {σ : L2.St} (E : RelE t H0 w env σ H) (hL : ∀ a, a ∉ w.ρ → w.Lk a = L a) (hH : ∀ a ob, a ∉ w.ρ → H a = some ob → H' a = some ob) : RelE t H0 (w.lock L) env σ H' := by
  refine ⟨E.len, fun i s e => ?_, E.dist⟩
  have z := E.slot i s e
  cases s with
  | no => trivial
  | val d =>
    obtain ⟨v, z1, z2⟩ := z
    exact ⟨v, z1, Rep.mono0 (Wlq.lock w L) d z2⟩
  | own o =>
    obtain ⟨a, ob, r1, r2, r3, r4, r5, r6, r7⟩ := z
    exact ⟨a, ob, r1, hH a ob r5 r2, r3.lock (hL a r5) (fun ob h => hH a ob r5 h), r4, r5, r6, r7⟩
/-- locked: the object n -/
theorem lock_A {t : Tb} {w : Wd} {ah : AH} {H : Hp} {n : Nat} {p : Addr} {ks : List Key} {l : List D} {vs : List V} {od : Obj} (A : RelA t w ah H) (hn : ah[n]? = some (.dct ks l)) (hρ : w.ρ[n]? = some p) (hp : H p = some (.dK (ks.zip vs))) (hf : w.Hf p = none) (hl : ks.length = vs.length) (r : Reps t w l vs) :
    RelA t (w.lock (upd w.Lk p (.frz od (.dK (ks.zip vs))))) (ah.set n (.ldct ks l)) (upd H p (.frz od (.dK (ks.zip vs)))) := by
  have hm : p ∈ w.ρ := List.mem_of_getElem? hρ
  refine ⟨fun z o h => ?_, by rw [List.length_set]; exact A.len, A.nd, fun z h => ?_, fun m u z e1 e2 => ?_, fun z o h => ?_⟩
  · replace h : w.Hf z = some o := h
    rw [upd_ne (fun q => by rw [q, hf] at h; cases h)]
    exact A.sub z o h
  · by_cases q : z = p
    · exact ⟨_, by rw [q]; exact upd_same⟩
    · rw [upd_ne q]
      exact A.live z h
  · replace e2 : w.ρ[m]? = some z := e2
    by_cases h : n = m
    · subst h
      have hlt : n < ah.length := (List.getElem?_eq_some_iff.mp hn).1
      rw [List.getElem?_set_self hlt] at e1
      cases e1
      rw [hρ] at e2
      cases e2
      exact ⟨hf, od, vs, upd_same, hl, Reps.mono0 (Wlq.lock w _) l r⟩
    · rw [List.getElem?_set_ne h] at e1
      have ne : z ≠ p := fun q => by
        subst q
        obtain ⟨h1, e3⟩ := List.getElem?_eq_some_iff.mp hρ
        obtain ⟨h2, e4⟩ := List.getElem?_eq_some_iff.mp e2
        exact h ((List.getElem_inj A.nd).mp (e3.trans e4.symm))
      exact (A.obj m u z e1 e2).lock (by rw [upd_ne ne]) fun ob h => by rw [upd_ne ne]; exact h
  · replace h : upd w.Lk p _ z = some o := h
    by_cases q : z = p
    · rw [q, upd_same] at h
      cases h
      rw [q]
      exact ⟨upd_same, hm, od, _, rfl⟩
    · rw [upd_ne q] at h
      rw [upd_ne q]
      exact A.lks z o h
/-- unlocked -/
theorem unlock_A {t : Tb} {w : Wd} {ah : AH} {H : Hp} {n : Nat} {p : Addr} {ks : List Key} {l : List D} {u : HO} {od : Obj} {L : Hp} (A : RelA t w ah H) (hn : ah[n]? = some (.ldct ks l)) (hρ : w.ρ[n]? = some p) (hp : w.Lk p = some (.frz od u)) (hL : ∀ z, z ≠ p → w.Lk z = L z) (h0 : L p = none) :
    RelA t (w.lock L) (ah.set n (.dct ks l)) (upd H p u) := by
  have hm : p ∈ w.ρ := List.mem_of_getElem? hρ
  obtain ⟨hf, od', vs, g1, g2, g3⟩ := A.obj n _ p hn hρ
  rw [hp] at g1
  cases g1
  refine ⟨fun z o h => ?_, by rw [List.length_set]; exact A.len, A.nd, fun z h => ?_, fun m u z e1 e2 => ?_, fun z o h => ?_⟩
  · replace h : w.Hf z = some o := h
    rw [upd_ne (fun q => by rw [q, hf] at h; cases h)]
    exact A.sub z o h
  · by_cases q : z = p
    · exact ⟨_, by rw [q]; exact upd_same⟩
    · rw [upd_ne q]
      exact A.live z h
  · replace e2 : w.ρ[m]? = some z := e2
    by_cases h : n = m
    · subst h
      have hlt : n < ah.length := (List.getElem?_eq_some_iff.mp hn).1
      rw [List.getElem?_set_self hlt] at e1
      cases e1
      rw [hρ] at e2
      cases e2
      exact ⟨hf, vs, upd_same, g2, Reps.mono0 (Wlq.lock w _) l g3⟩
    · rw [List.getElem?_set_ne h] at e1
      have ne : z ≠ p := fun q => by
        subst q
        obtain ⟨h1, e3⟩ := List.getElem?_eq_some_iff.mp hρ
        obtain ⟨h2, e4⟩ := List.getElem?_eq_some_iff.mp e2
        exact h ((List.getElem_inj A.nd).mp (e3.trans e4.symm))
      exact (A.obj m u z e1 e2).lock (hL z ne) fun ob h => by rw [upd_ne ne]; exact h
  · replace h : L z = some o := h
    have q : z ≠ p := fun q => by rw [q, h0] at h; cases h
    rw [upd_ne q]
    rw [← hL z q] at h
    exact A.lks z o h
def unlS (n : Nat) (r : SRes) : SRes := match r with
  | .nx env ah => match ah[n]? with
    | some (.ldct ks l) => .nx env (ah.set n (.dct ks l))
    | _ => .bad
  | .rt d ah => match ah[n]? with
    | some (.ldct ks l) => .rt d (ah.set n (.dct ks l))
    | _ => .bad
  | _ => .bad
/-- the statement s runs while the dict that c tells is locked -/
def cLockS (c : CE) (s : CS) : CS := fun env ah => match c env ah with
  | .ok (.ref n) _ => match ah[n]? with
    | some (.dct ks l) => unlS n (s env (ah.set n (.ldct ks l)))
    | _ => s env ah
  | _ => s env ah
section
variable {X : Cx} {t : Tb} {W : WX} {w0 : Wd} {H0 : Bs} {c : CE} {st : Stmt} {c1 : CS}
theorem z_lock (c : CE) (h : PS X st (tS t W w0 H0 c1)) : PS X st (tS t W w0 H0 (cLockS c c1)) := by
  refine PS.imp (G.PS.or h (ps_lock h)) ?_
  rintro Dn σ H ⟨w, env, ah, s, A, E, P⟩
  unfold cLockS at P
  split at P
  case h_2 => exact .inl ⟨w, env, ah, s, A, E, P⟩
  rename_i n _ _
  split at P
  case h_2 => exact .inl ⟨w, env, ah, s, A, E, P⟩
  rename_i ks l hn
  obtain ⟨p, hρ⟩ := rho_of A hn
  obtain ⟨hf, vs, g1, g2, g3⟩ := A.obj n _ p hn hρ
  have hL : w.Lk p = none := nolk A g1 fun _ _ z => nomatch z
  have hm : p ∈ w.ρ := List.mem_of_getElem? hρ
  refine .inr ⟨p, _, g1, trivial, fun od => ?_⟩
  have A' := lock_A (od := od) A hn hρ g1 hf g2 g3
  have hne : ∀ a, a ∉ w.ρ → a ≠ p := fun a h q => h (by rw [q]; exact hm)
  have hold := old_or s hm
  have s' : StpQ w0 H0.H (w.lock (upd w.Lk p (.frz od (.dK (ks.zip vs))))) (upd H p (.frz od (.dK (ks.zip vs)))) := by
    refine ⟨s.le.trans (Wlq.lock w _), fun a o h1 h2 => ?_, fun a o h => ?_, s.newR, s.newF⟩
    · have ne : a ≠ p := fun z => by
        rcases hold with q | q
        · exact h1 (by rw [z]; exact q)
        · rw [z, q] at h2; cases h2
      rw [upd_ne ne]
      exact s.fr a o h1 h2
    · by_cases z : a = p
      · exact ⟨_, by rw [z]; exact upd_same⟩
      · rw [upd_ne z]
        exact s.there a o h
  have E' : RelE t H0 (w.lock (upd w.Lk p (.frz od (.dK (ks.zip vs))))) env σ (upd H p (.frz od (.dK (ks.zip vs)))) := E.lock (fun a h => by rw [upd_ne (hne a h)]) fun a ob h e => by rw [upd_ne (hne a h)]; exact e
  refine ⟨_, env, _, s', A', E', ?_⟩
  -- behind
  have back : ∀ (w2 : Wd) (ah2 : AH) (H2 : Hp) (ks' : List Key) (l' : List D), Wle (w.lock (upd w.Lk p (.frz od (.dK (ks.zip vs))))) w2 → StpQ w0 H0.H w2 H2 → RelA t w2 ah2 H2 → ah2[n]? = some (.ldct ks' l') →
      H2 p = some (.frz od (.dK (ks.zip vs))) ∧ Wle w (w2.lock w.Lk) ∧ StpQ w0 H0.H (w2.lock w.Lk) (upd H2 p (.dK (ks.zip vs))) ∧ RelA t (w2.lock w.Lk) (ah2.set n (.dct ks' l')) (upd H2 p (.dK (ks.zip vs))) ∧ p ∈ w2.ρ := by
    intro w2 ah2 H2 ks' l' le s2 A2 hn2
    have hρ2 : w2.ρ[n]? = some p := le.rho n p hρ
    have hm2 : p ∈ w2.ρ := List.mem_of_getElem? hρ2
    have hLk : w2.Lk p = some (.frz od (.dK (ks.zip vs))) := by rw [le.lk]; exact upd_same
    have hH := (A2.lks _ _ hLk).1
    have hold2 := old_or s2 hm2
    refine ⟨hH, ⟨le.hf, le.rho, rfl⟩, ⟨s2.le.trans (Wlq.lock w2 _), fun a o h1 h2 => ?_, fun a o h => ?_, s2.newR, s2.newF⟩, unlock_A A2 hn2 hρ2 hLk (fun z hz => by rw [le.lk]; exact upd_ne hz) hL, hm2⟩
    · have ne : a ≠ p := fun z => by
        rcases hold2 with q | q
        · exact h1 (by rw [z]; exact q)
        · rw [z, q] at h2; cases h2
      rw [upd_ne ne]
      exact s2.fr a o h1 h2
    · by_cases z : a = p
      · exact ⟨_, by rw [z]; exact upd_same⟩
      · rw [upd_ne z]
        exact s2.there a o h
  cases hr : c1 env (ah.set n (.ldct ks l)) with
  | nx env' ah' =>
    rw [hr] at P
    replace P : PostS t W w0 H0 w (match ah'[n]? with
      | some (.ldct ks l) => .nx env' (ah'.set n (.dct ks l))
      | _ => .bad) Dn := P
    split at P
    case h_2 => exact False.elim P
    rename_i ks' l' hn'
    intro w2 σ2 H2 le2 s2 A2 E2
    obtain ⟨b1, b2, b3, b4, b5⟩ := back w2 ah' H2 ks' l' le2 s2 A2 hn'
    have hne2 : ∀ a, a ∉ w2.ρ → a ≠ p := fun a h q => h (by rw [q]; exact b5)
    exact ⟨b1, P _ σ2 _ b2 b3 b4 (E2.lock (fun a h => by rw [le2.lk]; exact upd_ne (hne2 a h)) fun a ob h e => by rw [upd_ne (hne2 a h)]; exact e)⟩
  | rt d ah' =>
    rw [hr] at P
    replace P : PostS t W w0 H0 w (match ah'[n]? with
      | some (.ldct ks l) => .rt d (ah'.set n (.dct ks l))
      | _ => .bad) Dn := P
    split at P
    case h_2 => exact False.elim P
    rename_i ks' l' hn'
    intro w2 v2 H2 le2 s2 A2 r2
    obtain ⟨b1, b2, b3, b4, b5⟩ := back w2 ah' H2 ks' l' le2 s2 A2 hn'
    exact ⟨b1, P _ v2 _ b2 b3 b4 (Rep.mono0 (Wlq.lock w2 _) d r2)⟩
  | bk env' ah' => rw [hr] at P; exact False.elim P
  | ct env' ah' => rw [hr] at P; exact False.elim P
  | exc c l env' ah' => rw [hr] at P; exact False.elim P
  | bad => rw [hr] at P; exact False.elim P
end
end G
/-! The engine, part 20: x.append(e) in the store, isinstance of several classes; running rules of parts 16 to 20. -/
namespace G
open PySem PySem.Spec PyProof.Rows L2
section
variable {X : Cx} {t : Tb} {W : WX} {w0 : Wd} {H0 : Bs} {xa xb xc : CE} {ca : CA} {a b c e f o tg : Expr} {es : List Expr} {pos apos cpos pos' : Pos} {st : Stmt} {c1 : CS}
def lstAt (ah : AH) (n : Nat) : Option (List D) := match ah[n]? with
  | some (.lst l) => some l
  | _ => none
theorem lstAt_some {ah : AH} {n : Nat} {l : List D} (h : lstAt ah n = some l) : ah[n]? = some (.lst l) := by
  unfold lstAt at h
  split at h
  · rename_i l' hn
    cases h
    exact hn
  · cases h
def cAppR (o v : CE) : CE := fun env ah => (o env ah).bind fun x ah1 => match x with
  | .ref n => if (lstAt ah1 n).isSome = true then (v env ah1).bind fun d ah2 => match lstAt ah2 n with
    | some l => if l.length < 10000000 then .ok .non (ah2.set n (.lst (l ++ [d]))) else .bad
    | none => .bad else .bad
  | _ => .bad
theorem q_appR {p1 p3 : Pos} (ho : PE X o (tE t W H0 xa)) (ha : PE X a (tE t W H0 xb)) (hK : t.K = X.K := by rfl) (hbase : attributeBase o "append" X.env (eval o X.env) = eval o X.env := by rfl)
    (hfew : ((backTo p3 (starEach (a :: []) X.env)).all (fun x => !x.1) && (backToKw p3 (keywordEach [] X.env)).all (fun x => x.1.isSome)
      && decide ((a :: []).length + ([] : List Keyword).length + (if ([] : List Keyword).isEmpty then 0 else 1) < 30)) = true := by rfl) (hline : (p1.endLine == p3.line) = true := by rfl) (hs : starEach (a :: []) X.env = (false, eval a X.env) :: starEach [] X.env := by rfl) :
    PE X (.Call (.Attribute o "append" p1) [a] [] p3) (tE t W H0 (cAppR xa xb)) := by
  refine PE.imp (pe_bm PySem.F.plainAttrs_list PySem.F.slot_list_append PySem.F.type_list_append mt_append ho (pa_cons ha pa_nil hs) hbase hfew hline hs (by rfl)) ?_
  rintro σ H Q ⟨w, env, ah, A, E, P⟩
  refine ⟨w, env, ah, A, E, post_bind P fun x ah1 w1 v H1 s1 A1 r1 P1 => ?_⟩
  split at P1
  case h_2 => exact False.elim P1
  rename_i n
  split at P1
  case isFalse => exact False.elim P1
  rename_i hsome
  obtain ⟨l0, hl0⟩ := Option.isSome_iff_exists.mp hsome
  have hn0 := lstAt_some hl0
  have r1' := r1
  simp only [Rep] at r1'
  obtain ⟨p, rfl, hρ⟩ := r1'
  obtain ⟨_, vs0, g1, _⟩ := A1.obj n _ p hn0 hρ
  refine ⟨.inl ⟨rfl, vs0, SqL.of g1⟩, w1, env, ah1, A1, E.step s1, post_bind P1 fun d ah2 w2 v H2 s2 A2 r2 P2 => ?_⟩
  split at P2
  case h_2 => exact False.elim P2
  rename_i l hl
  have hn := lstAt_some hl
  split at P2
  case isFalse => exact False.elim P2
  rename_i hlt
  have hρ2 := s2.le.rho n p hρ
  obtain ⟨m0, vs, m1, m2⟩ := A2.obj n _ p hn hρ2
  obtain ⟨s3, A3⟩ := ah_upd (o' := .lst (l ++ [d])) (ob := .lst (vs ++ [v])) A2 hn hρ2 m0 (nolk A2 m1 fun _ _ z => nomatch z) ⟨m0, _, upd_same, reps_append m2 (reps_one r2)⟩
  exact ⟨p, vs, v, rfl, rfl, m1, lt_line (by rw [← reps_len m2]; exact hlt), P2 _ _ _ s3 A3 (by simp only [Rep])⟩
/-- what the deciders say of an instance and a tuple of classes -/
def IsKT (t : Tb) (d : D) (us : List Value) (b : Bool) : Prop := match d with
  | .obj c _ => ObjC t.K (t.cl c) ∧ PySem.W.kitAny t.K (.ref (t.cl c)) us = some b
  | _ => False
theorem q_isIT {f : AH → D → Option Bool} {T1 T2 : Expr} {c1 c2 : V} {u1 u2 : Value} {p pos pt : Pos} {kt} (hT1 : PE X T1 (tC c1)) (hT2 : PE X T2 (tC c2)) (hc1 : ClsV c1 u1) (hc2 : ClsV c2 u2) (hf : ∀ ah d b, f ah d = some b → IsKT t d [u1, u2] b) (ha : PE X a (tE t W H0 xa)) (hm : X.mg "isinstance" = none) (hg : Gl X "isinstance" := by rfl) (hK : t.K = X.K := by rfl)
    (hs1 : starEach [a, .Tuple [T1, T2] kt pt] X.env = (false, eval a X.env) :: starEach [.Tuple [T1, T2] kt pt] X.env := by rfl) (hs2 : starEach [.Tuple [T1, T2] kt pt] X.env = (false, eval (.Tuple [T1, T2] kt pt) X.env) :: starEach [] X.env := by rfl) (hpl : (backTo pos (starEach [.Tuple [T1, T2] kt pt] X.env)).any (·.1) = false := by rfl)
    (hs3 : starEach [T1, T2] X.env = (false, eval T1 X.env) :: starEach [T2] X.env := by rfl) (hs4 : starEach [T2] X.env = (false, eval T2 X.env) :: starEach [] X.env := by rfl) :
    PE X (.Call (.Name "isinstance" p) [a, .Tuple [T1, T2] kt pt] [] pos) (tE t W H0 (cIsI f xa)) := by
  refine PE.imp (pe_callB call_isiT hg hm (by decide +kernel) (pa_cons ha (pa_cons (pe_tup (pa_cons hT1 (pa_cons hT2 pa_nil hs4) hs3)) pa_nil hs2) hs1) (by decide) (by decide) hs1 hpl) ?_
  rintro σ H Q ⟨w, env, ah, A, E, P⟩
  refine ⟨w, env, ah, A, E, post_bind P fun d ah1 w1 v H1 s1 A1 r1 P1 => ?_⟩
  replace P1 : Post t (Rep t) w1 H1 (ofO ((f ah1 d).map D.bl) ah1) Q (fun cls d H' => W cls d σ H') := P1
  cases e : f ah1 d with
  | none => rw [e] at P1; exact False.elim P1
  | some b =>
    rw [e] at P1
    have hk := hf ah1 d b e
    unfold IsKT at hk
    split at hk
    · rename_i k l
      rw [hK] at hk
      simp only [Rep] at r1
      obtain ⟨p, dx, vs, rfl, h1, h2⟩ := r1
      refine ⟨by show 2 ≤ sizeLine; decide, fun tp htp => ?_⟩
      obtain ⟨s2, A2⟩ := stp_add (o := .tup [c1, c2]) A1 htp
      have hne : p ≠ tp := ne_of_none (A1.sub _ _ h1) htp
      refine ⟨_, tp, [c1, c2], _, [u1, u2], b, rfl, upd_same, .cons hc1 (.cons hc2 .nil), .base (.ins (by rw [upd_ne hne]; exact A1.sub _ _ h1) hk.1.cls hk.1.ha hk.1.hn hk.1.htk hk.1.hm), hk.2, P1 _ _ _ s2 A2 (by simp only [Rep])⟩
    · exact False.elim hk
end

theorem pick {p : Prop} [Decidable p] {x b : Bool} {o : Option Bool} (h : (if p then some x else o) = some b) : (p ∧ x = b) ∨ (¬p ∧ o = some b) := by
  split at h
  · rename_i hp
    cases h
    exact .inl ⟨hp, rfl⟩
  · rename_i hp
    exact .inr ⟨hp, h⟩
/-! ### running rules -/
section
variable {env : En} {ah ah' : AH} {o k z a : CE} {ar : CA} {x y d : D} {ks : List Key} {l m : List D} {n : Nat} {c : Nat} {e : Nat} {s : CS} {F : FD} {dds : List D} {v : CE}
theorem ev_dnew : cDNew env ah = .ok (.ref ah.length) (ah ++ [.dct [] []]) := rfl
def lnew1 (r : Res (List D)) : Res D := r.bind fun l ah1 => if l.length ≤ 1000 then .ok (.ref ah1.length) (ah1 ++ [.lst l]) else .bad
theorem ev_lnew : cLNew ar env ah = lnew1 (ar env ah) := rfl
theorem lnew1_ok : lnew1 (.ok l ah) = if l.length ≤ 1000 then .ok (.ref ah.length) (ah ++ [.lst l]) else .bad := rfl
def getK (o : Option (List Key × List D)) (k : Option Key) (z : D) (ah : AH) : Res D := match o, k with
  | some (ks, l), some k => .ok ((lkD ks l k).getD z) ah
  | _, _ => .bad
theorem getK_some {k : Key} : getK (some (ks, l)) (some k) z' ah = .ok ((lkD ks l k).getD z') ah := rfl
def get1b (x : D) (r : Res D) : Res D := r.bind fun y ah2 => getK (dOf ah2 x) (keyD y) .non ah2
def get1a (k : CE) (env : En) (r : Res D) : Res D := r.bind fun x ah1 => if (dOf ah1 x).isSome = true then get1b x (k env ah1) else .bad
theorem ev_get1 : cGet1 o k env ah = get1a k env (o env ah) := rfl
theorem get1a_ok : get1a k env (.ok x ah) = if (dOf ah x).isSome = true then get1b x (k env ah) else .bad := rfl
theorem get1b_ok : get1b x (.ok y ah) = getK (dOf ah x) (keyD y) .non ah := rfl
def get2c (x y : D) (r : Res D) : Res D := r.bind fun z ah3 => getK (dOf ah3 x) (keyD y) z ah3
def get2b (x : D) (z : CE) (env : En) (r : Res D) : Res D := r.bind fun y ah2 => get2c x y (z env ah2)
def get2a (k z : CE) (env : En) (r : Res D) : Res D := r.bind fun x ah1 => if (dOf ah1 x).isSome = true then get2b x z env (k env ah1) else .bad
theorem ev_get2 : cGet2 o k z env ah = get2a k z env (o env ah) := rfl
theorem get2a_ok : get2a k z env (.ok x ah) = if (dOf ah x).isSome = true then get2b x z env (k env ah) else .bad := rfl
theorem get2b_ok : get2b x z env (.ok y ah) = get2c x y (z env ah) := rfl
theorem get2c_ok : get2c x y (.ok d ah) = getK (dOf ah x) (keyD y) d ah := rfl
def popK (x : D) (k : Option Key) (z : D) (ah : AH) : Res D := match x, k with
  | .ref n, some k => popD n k z ah
  | _, _ => .bad
theorem popK_ref {k : Key} : popK (.ref n) (some k) d ah = popD n k d ah := rfl
def pop2c (x y : D) (r : Res D) : Res D := r.bind fun z ah3 => popK x (keyD y) z ah3
def pop2b (x : D) (z : CE) (env : En) (r : Res D) : Res D := r.bind fun y ah2 => pop2c x y (z env ah2)
def pop2a (k z : CE) (env : En) (r : Res D) : Res D := r.bind fun x ah1 => if (dOf ah1 x).isSome = true then pop2b x z env (k env ah1) else .bad
theorem ev_pop2 : cPop2 o k z env ah = pop2a k z env (o env ah) := rfl
theorem pop2a_ok : pop2a k z env (.ok x ah) = if (dOf ah x).isSome = true then pop2b x z env (k env ah) else .bad := rfl
theorem pop2b_ok : pop2b x z env (.ok y ah) = pop2c x y (z env ah) := rfl
theorem pop2c_ok : pop2c x y (.ok d ah) = popK x (keyD y) d ah := rfl
theorem popD_some {k : Key} (h : ah[n]? = some (.dct ks l)) (h2 : lkD ks l k = some d) : popD n k z' ah = .ok d (ah.set n (.dct (dropKs ks k) (dropL ks l k))) := by
  unfold popD
  simp only [h, h2]
theorem popD_none {k : Key} (h : ah[n]? = some (.dct ks l)) (h2 : lkD ks l k = none) : popD n k z' ah = .ok z' ah := by
  unfold popD
  simp only [h, h2]
theorem keyD_i {i : Int} : keyD (.int i) = some (.inl i) := rfl
theorem keyD_s {i : Str} : keyD (.str i) = some (.inr i) := rfl
theorem dOf_ref (h : ah[n]? = some (.dct ks l)) : dOf ah (.ref n) = some (ks, l) := by
  unfold dOf
  simp only [h]
theorem dOf_lref (h : ah[n]? = some (.ldct ks l)) : dOf ah (.ref n) = some (ks, l) := by
  unfold dOf
  simp only [h]
theorem dOf_dct : dOf ah (.dct ks l) = some (ks, l) := rfl
def dputK (x : D) (k : Option Key) (d : D) (env : En) (ah3 : AH) : SRes := match x, k with
  | .ref n, some k => match ah3[n]? with
    | some (.dct ks l) => if ks.length < 10000000 then .nx env (ah3.set n (.dct (putKs ks k) (putL ks l k d))) else .bad
    | _ => .bad
  | _, _ => .bad
theorem dputK_ref {k : Key} (h : ah[n]? = some (.dct ks l)) (h2 : ks.length < 10000000) : dputK (.ref n) (some k) d env ah = .nx env (ah.set n (.dct (putKs ks k) (putL ks l k d))) := by
  unfold dputK
  simp only [h, if_pos h2]
def dput3 (d x : D) (env : En) (r : Res D) : SRes := SRes.of env r fun y ah3 => dputK x (keyD y) d env ah3
def dput2 (d : D) (k : CE) (env : En) (r : Res D) : SRes := SRes.of env r fun x ah2 => dput3 d x env (k env ah2)
def dput1 (o k : CE) (env : En) (r : Res D) : SRes := SRes.of env r fun d ah1 => dput2 d k env (o env ah1)
theorem ev_dput : cDPut v o k env ah = dput1 o k env (v env ah) := by
  unfold cDPut dput1 dput2 dput3 <;> rfl
theorem dput1_ok : dput1 o k env (.ok d ah) = dput2 d k env (o env ah) := rfl
theorem dput1_exc : dput1 o k env (.exc e l ah) = .exc e l env ah := rfl
theorem dput2_ok : dput2 d k env (.ok x ah) = dput3 d x env (k env ah) := rfl
theorem dput3_ok : dput3 d x env (.ok y ah) = dputK x (keyD y) d env ah := rfl
def cba1 (f : FLA) (r : Res (List D)) : Res D := r.bind fun l ah1 => match f ah1 l with
  | some (d, ah2) => .ok d ah2
  | none => .bad
theorem ev_cba {f : FLA} : cCBA f ar env ah = cba1 f (ar env ah) := rfl
theorem cba1_ok {f : FLA} (h : f ah l = some (d, ah')) : cba1 f (.ok l ah) = .ok d ah' := by
  unfold cba1
  simp only [bind_ok, h]
def frzV1 (r : Res D) : Res D := r.bind fun d ah1 => match frzV ah1 d with
  | some (d', ah2) => .ok d' ah2
  | none => .ok d ah1
theorem ev_frzV : cFrzV a env ah = frzV1 (a env ah) := rfl
theorem frzV1_ref (h : ah[n]? = some (.dct ks l)) : frzV1 (.ok (.ref n) ah) = .ok (.dct ks l) (ah.set n .dead) := by
  unfold frzV1 frzV
  simp only [bind_ok, h]
def frzF1 (j : Nat) (r : Res D) : Res D := r.bind fun d ah1 => match frzF j ah1 d with
  | some ah2 => .ok d ah2
  | none => .ok d ah1
theorem ev_frzF {j : Nat} : cFrzF j a env ah = frzF1 j (a env ah) := rfl
theorem frzF1_ref {j : Nat} {i : Nat} (h : ah[n]? = some (.ins c m)) (h2 : m[j]? = some (.ref i)) (h3 : ah[i]? = some (.dct ks l)) : frzF1 j (.ok (.ref n) ah) = .ok (.ref n) ((ah.set i .dead).set n (.ins c (m.set j (.dct ks l)))) := by
  unfold frzF1 frzF
  simp only [bind_ok, h, h2, h3]
theorem frzF1_exc {j : Nat} : frzF1 j (.exc e l ah) = .exc e l ah := rfl
def items1 (r : Res D) : Res D := r.bind fun x ah1 => match x with
  | .ref n => match ah1[n]? with
    | some (.dct ks l) => .ok (.lst (pairsD ks l)) ah1
    | _ => .bad
  | _ => .bad
theorem ev_itemsL : cItemsL a env ah = items1 (a env ah) := rfl
theorem items1_ref (h : ah[n]? = some (.dct ks l)) : items1 (.ok (.ref n) ah) = .ok (.lst (pairsD ks l)) ah := by
  unfold items1
  simp only [bind_ok, h]
def makeR2 (n : Nat) (r : Res D) : Res D := r.bind fun r ah2 => match r with
  | .non => .ok (.ref n) ah2
  | _ => .bad
def makeR1 (cls : Nat) (F : FD) (n : Nat) (dds : List D) (r : Res (List D)) : Res D := r.bind fun l ah1 => if (l ++ dds).length = n then makeR2 ah1.length (F (.ref ah1.length :: (l ++ dds)) (ah1 ++ [.ins cls []])) else .bad
theorem ev_makeR {cls : Nat} : cMakeR cls F n dds ar env ah = makeR1 cls F n dds (ar env ah) := rfl
theorem makeR1_ok {cls : Nat} : makeR1 cls F n dds (.ok l ah) = if (l ++ dds).length = n then makeR2 ah.length (F (.ref ah.length :: (l ++ dds)) (ah ++ [.ins cls []])) else .bad := rfl
theorem makeR1_exc {cls : Nat} : makeR1 cls F n dds (.exc e l ah) = .exc e l ah := rfl
theorem makeR2_non : makeR2 n (.ok .non ah) = .ok (.ref n) ah := rfl
theorem makeR2_exc : makeR2 n (.exc e l ah) = .exc e l ah := rfl
def itD1 (r : Res D) : Res (List D) := r.bind fun x ah1 => ofO (itDD ah1 x) ah1
theorem ev_itAnyD : itAnyD a env ah = itD1 (a env ah) := rfl
theorem itD1_ok : itD1 (.ok x ah) = ofO (itDD ah x) ah := rfl
theorem itDD_l : itDD ah (.lst l) = some l := rfl
theorem itDD_t : itDD ah (.tup l) = some l := rfl
theorem itDD_r : itDD ah (.scr l) = some l := rfl
theorem itDD_d : itDD ah (.dct ks l) = some (ks.map kD) := rfl
theorem itDD_s {z : Str} : itDD ah (.str z) = some (z.cps.toList.map chD) := rfl
theorem itDD_ref (h : ah[n]? = some (.ldct ks l)) : itDD ah (.ref n) = some (ks.map kD) := by
  unfold itDD lkdOf
  simp only [h]
def itV1 (r : Res D) : Res (List D) := r.bind fun x ah1 => ofO ((lkdOf ah1 x).map (·.2)) ah1
theorem ev_itVals : itVals a env ah = itV1 (a env ah) := rfl
theorem itV1_d : itV1 (.ok (.dct ks l) ah) = .ok l ah := rfl
theorem itV1_ref (h : ah[n]? = some (.ldct ks l)) : itV1 (.ok (.ref n) ah) = .ok l ah := by
  unfold itV1 lkdOf
  simp only [bind_ok, h, Option.map_some, ofO_some]
def itI1 (r : Res D) : Res (List D) := r.bind fun x ah1 => ofO ((lkdOf ah1 x).map fun q => pairsD q.1 q.2) ah1
theorem ev_itItems : itItems a env ah = itI1 (a env ah) := rfl
theorem itI1_d : itI1 (.ok (.dct ks l) ah) = .ok (pairsD ks l) ah := rfl
theorem itI1_ref (h : ah[n]? = some (.ldct ks l)) : itI1 (.ok (.ref n) ah) = .ok (pairsD ks l) ah := by
  unfold itI1 lkdOf
  simp only [bind_ok, h, Option.map_some, ofO_some]
theorem lock_ref {ce : CE} (h : ce env ah = .ok (.ref n) ah') (h2 : ah[n]? = some (.dct ks l)) : cLockS ce s env ah = unlS n (s env (ah.set n (.ldct ks l))) := by
  unfold cLockS
  simp only [h, h2]
theorem lock_no {ce : CE} {d : D} (h : ce env ah = .ok d ah') (h2 : ∀ n, d ≠ .ref n) : cLockS ce s env ah = s env ah := by
  unfold cLockS
  rw [h]
  cases d <;> first | rfl | exact absurd rfl (h2 _)
theorem unl_nx (h : ah[n]? = some (.ldct ks l)) : unlS n (.nx env ah) = .nx env (ah.set n (.dct ks l)) := by
  unfold unlS
  simp only [h]
theorem unl_rt (h : ah[n]? = some (.ldct ks l)) : unlS n (.rt d ah) = .rt d (ah.set n (.dct ks l)) := by
  unfold unlS
  simp only [h]
def appR2 (n : Nat) (r : Res D) : Res D := r.bind fun d ah2 => match lstAt ah2 n with
  | some l => if l.length < 10000000 then .ok .non (ah2.set n (.lst (l ++ [d]))) else .bad
  | none => .bad
def appRK (v : CE) (env : En) (x : D) (ah1 : AH) : Res D := match x with
  | .ref n => if (lstAt ah1 n).isSome = true then appR2 n (v env ah1) else .bad
  | _ => .bad
def appR1 (v : CE) (env : En) (r : Res D) : Res D := r.bind fun x ah1 => appRK v env x ah1
theorem ev_appR : cAppR o v env ah = appR1 v env (o env ah) := by
  unfold cAppR appR1
  congr 1
theorem appR1_ref (h : ah[n]? = some (.lst l)) : appR1 v env (.ok (.ref n) ah) = appR2 n (v env ah) := by
  show (if (lstAt ah n).isSome = true then appR2 n (v env ah) else .bad) = _
  unfold lstAt
  rw [h]
  rfl
theorem appR2_ok (h : ah[n]? = some (.lst l)) (h2 : l.length < 10000000) : appR2 n (.ok d ah) = .ok .non (ah.set n (.lst (l ++ [d]))) := by
  show (match lstAt ah n with
  | some l => if l.length < 10000000 then (.ok .non (ah.set n (.lst (l ++ [d]))) : Res D) else .bad
  | none => .bad) = _
  unfold lstAt
  rw [h]
  exact if_pos h2
theorem isN_non : isN .non = true := rfl
theorem isN_bl {b : Bool} : isN (.bl b) = false := rfl
theorem isN_int {b : Int} : isN (.int b) = false := rfl
theorem isN_str {b : Str} : isN (.str b) = false := rfl
theorem isN_tup : isN (.tup l) = false := rfl
theorem isN_lst : isN (.lst l) = false := rfl
theorem isN_scr : isN (.scr l) = false := rfl
theorem isN_dct : isN (.dct ks l) = false := rfl
theorem isN_obj : isN (.obj c l) = false := rfl
theorem isN_exc : isN (.exc c l) = false := rfl
theorem isN_ref : isN (.ref n) = false := rfl
/-! operations -/
theorem ixA_dct {k : Key} : idxAD ah (.dct ks l) y = (keyD y).bind fun k => lkD ks l k := rfl
theorem ixA_ref (h : ah[n]? = some (.dct ks l)) : idxAD ah (.ref n) y = (keyD y).bind fun k => lkD ks l k := by
  unfold idxAD
  rw [dOf_ref h]
theorem ixA_lref (h : ah[n]? = some (.ldct ks l)) : idxAD ah (.ref n) y = (keyD y).bind fun k => lkD ks l k := by
  unfold idxAD
  rw [dOf_lref h]
theorem ixA_rl {i : Int} (h : ah[n]? = some (.lst l)) : idxAD ah (.ref n) (.int i) = atI l i := by
  have : dOf ah (.ref n) = none := by
    unfold dOf
    simp only [h]
  unfold idxAD
  simp only [this, h]
theorem ixA_l {i : Int} : idxAD ah (.lst l) (.int i) = atI l i := rfl
theorem ixA_t {i : Int} : idxAD ah (.tup l) (.int i) = atI l i := rfl
theorem ixA_r {i : Int} : idxAD ah (.scr l) (.int i) = atI l i := rfl
theorem ixA_s {i : Int} {z : Str} : idxAD ah (.str z) (.int i) = idxD ah (.str z) (.int i) := rfl
theorem inD_dct : inDD ah x (.dct ks l) = (keyD x).map fun k => .bl (lkD ks l k).isSome := by
  unfold inDD
  rw [dOf_dct]
  cases keyD x <;> rfl
theorem inD_ref (h : ah[n]? = some (.dct ks l)) : inDD ah x (.ref n) = (keyD x).map fun k => .bl (lkD ks l k).isSome := by
  unfold inDD
  rw [dOf_ref h]
  cases keyD x <;> rfl
theorem ninD_dct : notInDD ah x (.dct ks l) = (keyD x).map fun k => .bl (!(lkD ks l k).isSome) := by
  unfold notInDD
  rw [dOf_dct]
  cases keyD x <;> rfl
theorem ninD_ref (h : ah[n]? = some (.dct ks l)) : notInDD ah x (.ref n) = (keyD x).map fun k => .bl (!(lkD ks l k).isSome) := by
  unfold notInDD
  rw [dOf_ref h]
  cases keyD x <;> rfl
theorem lenA_l : lenAD ah [.lst l] = some (.int l.length) := rfl
theorem lenA_t : lenAD ah [.tup l] = some (.int l.length) := rfl
theorem lenA_r : lenAD ah [.scr l] = some (.int l.length) := rfl
theorem lenA_d : lenAD ah [.dct ks l] = some (.int ks.length) := rfl
theorem lenA_s {v : Str} (h : v.length ≤ sizeLine) : lenAD ah [.str v] = some (.int v.length) := if_pos h
theorem lenA_rd (h : ah[n]? = some (.dct ks l)) : lenAD ah [.ref n] = some (.int ks.length) := by
  unfold lenAD
  simp only [dOf_ref h]
theorem lenA_rl (h : ah[n]? = some (.lst l)) : lenAD ah [.ref n] = some (.int l.length) := by
  have : dOf ah (.ref n) = none := by
    unfold dOf
    simp only [h]
  unfold lenAD
  simp only [this, h]
theorem listA_l : listAD ah [.lst l] = some (.lst l) := rfl
theorem listA_t : listAD ah [.tup l] = some (.lst l) := rfl
theorem listA_r : listAD ah [.scr l] = some (.lst l) := rfl
theorem listA_d : listAD ah [.dct ks l] = some (.lst (ks.map kD)) := rfl
theorem listA_rd (h : ah[n]? = some (.dct ks l)) : listAD ah [.ref n] = some (.lst (ks.map kD)) := by
  unfold listAD
  simp only [dOf_ref h]
theorem listA_rl (h : ah[n]? = some (.lst l)) : listAD ah [.ref n] = some (.lst l) := by
  have : dOf ah (.ref n) = none := by
    unfold dOf
    simp only [h]
  unfold listAD
  simp only [this, h]
theorem dictA_l {r : List (Key × D)} (h : pairsOf l = some r) : dictA ah [.lst l] = some (.ref ah.length, ah ++ [.dct (mergeD r [] []).1 (mergeD r [] []).2]) := by
  show (pairsOf l).map _ = _
  rw [h]
  rfl
theorem dictA_ref (h : ah[n]? = some (.dct ks l)) : dictA ah [.ref n] = some (.ref ah.length, ah ++ [.dct ks l]) := by
  unfold dictA
  simp only [dOf_ref h]
theorem eqE_ref {i : Nat} (h : ah[n]? = some (.dct ks l)) (h2 : ah[i]? = some (.dct [] m)) : eqED ah (.ref n) (.ref i) = some (.bl (ks.length == 0)) := by
  unfold eqED
  simp only [dOf_ref h, dOf_ref h2]
end
end G
/-! The engine, part 21: a list times a number. -/
namespace G
open PySem PySem.Spec PyProof.Rows L2
section
variable {X : Cx} {t : Tb} {W : WX} {H0 : Bs} {xa xb : CE} {a b : Expr} {pos : Pos}
def repD (n : Nat) (l : List D) : List D := (List.replicate n l).flatten
def mulLD : F2 := fun _ x y => match x, y with
  | .lst l, .int k => if 0 ≤ k ∧ k < 1000 ∧ l.length ≤ 1000 then some (.lst (repD k.toNat l)) else none
  | _, _ => none
theorem reps_rep {w : Wd} {l : List D} {vs : List V} (r : Reps t w l vs) : ∀ n : Nat, Reps t w (repD n l) (List.replicate n vs).flatten
  | 0 => by
    show Reps t w [] []
    simp only [Reps]
  | n + 1 => by
    show Reps t w (l ++ repD n l) (vs ++ (List.replicate n vs).flatten)
    exact reps_append r (reps_rep r n)
theorem bs_mulL : BinS t mulLD rRep := by
  intro w ah H x y d v u Q A rx ry e q
  unfold mulLD at e
  split at e
  · rename_i l k
    split at e
    · rename_i h
      cases e
      simp only [Rep] at rx ry
      subst ry
      obtain ⟨p, vs, rfl, h1, h2⟩ := rx
      refine ⟨p, k, vs, rfl, rfl, A.sub _ _ h1, by omega, by omega, ?_, fun z hz => ?_⟩
      · have h3 : vs.length ≤ 1000 := by rw [← reps_len h2]; exact h.2.2
        have h4 : vs.length * k.toNat ≤ 1000 * 1000 := Nat.mul_le_mul h3 (by omega)
        exact Nat.le_trans h4 (by decide)
      · obtain ⟨w', s', A', r'⟩ := new_lst A hz (reps_rep h2 k.toNat)
        exact q w' _ _ s' A' r'
    · cases e
  · cases e
theorem q_mulL (ha : PE X a (tE t W H0 xa)) (hb : PE X b (tE t W H0 xb)) : PE X (.BinOp a .Mult b pos) (tE t W H0 (cBin mulLD xa xb)) := q_bin op_rep bs_mulL ha hb
end
end G
/-! The engine, part 22: clear, reverse, list(x) in the store; lists of the store frozen. -/
namespace G
open PySem PySem.Spec PyProof.Rows L2
section
variable {X : Cx} {t : Tb} {W : WX} {w0 : Wd} {H0 : Bs} {xa xb xc : CE} {ca : CA} {a b c e f o tg : Expr} {es : List Expr} {pos apos cpos pos' : Pos} {st : Stmt} {c1 : CS}
/-! ### o.clear(), o.reverse() -/
def clrO (ah : AH) (n : Nat) : Option AH := match ah[n]? with
  | some (.lst _) => some (ah.set n (.lst []))
  | some (.dct _ _) => some (ah.set n (.dct [] []))
  | _ => none
def cClr (o : CE) : CE := fun env ah => (o env ah).bind fun x ah1 => match x with
  | .ref n => match clrO ah1 n with
    | some ah2 => .ok .non ah2
    | none => .bad
  | _ => .bad
theorem q_clr (ho : PE X o (tE t W H0 xa)) (hK : t.K = X.K := by rfl) (hbase : attributeBase o "clear" X.env (eval o X.env) = eval o X.env := by rfl) (hline : (apos.endLine == cpos.line) = true := by rfl) : PE X (.Call (.Attribute o "clear" apos) [] [] cpos) (tE t W H0 (cClr xa)) := by
  refine PE.imp (G.PE.or (pe_bm0 PySem.F.plainAttrs_list PySem.F.slot_list_clear PySem.F.type_list_clear mt_clear ho hbase hline) (pe_dclear ho hbase hline)) ?_
  rintro σ H Q ⟨w, env, ah, A, E, P⟩
  unfold cClr at P
  cases e : xa env ah with
  | bad => rw [e] at P; exact False.elim P
  | exc c m ah1 =>
    rw [e] at P
    refine .inl ⟨w, env, ah, A, E, ?_⟩
    rw [e]
    exact P
  | ok x ah1 =>
    rw [e] at P
    cases x with
    | ref n =>
      replace P : Post t (Rep t) w H (match clrO ah1 n with
        | some ah2 => .ok .non ah2
        | none => .bad) Q (fun cls d H' => W cls d σ H') := P
      unfold clrO at P
      split at P
      · rename_i ah2 hc
        split at hc
        · rename_i l hn
          cases hc
          refine .inl ⟨w, env, ah, A, E, ?_⟩
          rw [e]
          intro w1 v H1 s1 A1 r1
          simp only [Rep] at r1
          obtain ⟨p, rfl, hρ⟩ := r1
          obtain ⟨m0, vs, m1, m2⟩ := A1.obj n _ p hn hρ
          obtain ⟨s2, A2⟩ := ah_upd (o' := .lst []) (ob := .lst []) A1 hn hρ m0 (nolk A1 m1 fun _ _ z => nomatch z) ⟨m0, [], upd_same, by simp only [Reps]⟩
          exact ⟨.inl ⟨rfl, vs, SqL.of m1⟩, p, vs, rfl, rfl, m1, P w1 _ _ (s1.trans s2) A2 (by simp only [Rep])⟩
        · rename_i ks l hn
          cases hc
          refine .inr ⟨w, env, ah, A, E, ?_⟩
          rw [e]
          intro w1 v H1 s1 A1 r1
          simp only [Rep] at r1
          obtain ⟨p, rfl, hρ⟩ := r1
          obtain ⟨m0, vs, m1, m2, m3⟩ := A1.obj n _ p hn hρ
          obtain ⟨s2, A2⟩ := ah_upd (o' := .dct [] []) (ob := .dK []) A1 hn hρ m0 (nolk A1 m1 fun _ _ z => nomatch z) ⟨m0, [], upd_same, rfl, by simp only [Reps]⟩
          exact ⟨.inr (.inr (.inl ⟨rfl, .inl ⟨_, m1⟩⟩)), p, _, rfl, rfl, m1, P w1 _ _ (s1.trans s2) A2 (by simp only [Rep])⟩
        · cases hc
      · exact False.elim P
    | _ => exact False.elim P
def cRev (o : CE) : CE := fun env ah => (o env ah).bind fun x ah1 => match x with
  | .ref n => match lstAt ah1 n with
    | some l => .ok .non (ah1.set n (.lst l.reverse))
    | none => .bad
  | _ => .bad
theorem reps_rev {w : Wd} : ∀ {l : List D} {vs : List V}, Reps t w l vs → Reps t w l.reverse vs.reverse
  | [], vs, h => by
    simp only [Reps] at h
    subst h
    show Reps t w [] []
    simp only [Reps]
  | d :: l, vs, h => by
    simp only [Reps] at h
    obtain ⟨v, r, rfl, h1, h2⟩ := h
    rw [List.reverse_cons, List.reverse_cons]
    exact reps_append (reps_rev h2) (reps_one h1)
theorem q_rev (ho : PE X o (tE t W H0 xa)) (hK : t.K = X.K := by rfl) (hbase : attributeBase o "reverse" X.env (eval o X.env) = eval o X.env := by rfl) (hline : (apos.endLine == cpos.line) = true := by rfl) : PE X (.Call (.Attribute o "reverse" apos) [] [] cpos) (tE t W H0 (cRev xa)) := by
  refine PE.imp (pe_bm0 PySem.F.plainAttrs_list PySem.F.slot_list_reverse PySem.F.type_list_reverse mt_reverse ho hbase hline) ?_
  rintro σ H Q ⟨w, env, ah, A, E, P⟩
  refine ⟨w, env, ah, A, E, post_bind P fun x ah1 w1 v H1 s1 A1 r1 P1 => ?_⟩
  split at P1
  case h_2 => exact False.elim P1
  rename_i n
  split at P1
  case h_2 => exact False.elim P1
  rename_i l hl
  have hn := lstAt_some hl
  simp only [Rep] at r1
  obtain ⟨p, rfl, hρ⟩ := r1
  obtain ⟨m0, vs, m1, m2⟩ := A1.obj n _ p hn hρ
  obtain ⟨s2, A2⟩ := ah_upd (o' := .lst l.reverse) (ob := .lst vs.reverse) A1 hn hρ m0 (nolk A1 m1 fun _ _ z => nomatch z) ⟨m0, _, upd_same, reps_rev m2⟩
  exact ⟨.inl ⟨rfl, vs, SqL.of m1⟩, p, vs, rfl, rfl, m1, P1 _ _ _ s2 A2 (by simp only [Rep])⟩
/-! ### list(x), a list of the store -/
def listRA : FLA := fun ah l => match listAD ah l with
  | some (.lst m) => some (.ref ah.length, ah ++ [.lst m])
  | _ => none
theorem new_lstR {w : Wd} {ah : AH} {H : Hp} {p : Addr} {l : List D} {vs : List V} (A : RelA t w ah H) (hp : H p = none) (r : Reps t w l vs) : ∃ w', Stp w H w' (upd H p (.lst vs)) ∧ RelA t w' (ah ++ [.lst l]) (upd H p (.lst vs)) ∧ Rep t w' (.ref ah.length) (.ref p) := by
  have hm : MOk t (w.own p) (.lst l) (upd H p (.lst vs)) p := ⟨A.sub.free hp, vs, upd_same, Reps.mono (stp_alloc (t := t) (o := .dead) (ob := .lst vs) A hp trivial).1.le l r⟩
  obtain ⟨s1, A1⟩ := stp_alloc A hp hm
  exact ⟨_, s1, A1, rep_alloc A⟩
theorem cs_listRA (hK : t.K = X.K := by rfl) : CallSA t listRA (rListA X.K) := by
  intro w ah H l d ah' vs Q A r e q
  unfold listRA at e
  split at e
  · rename_i m hm
    cases e
    unfold listAD at hm
    split at hm
    · rename_i x
      split at hm
      · rename_i ks l2 h1
        cases hm
        obtain ⟨v, rfl, rx⟩ := reps1 r
        obtain ⟨p, us, rfl, g1, g2, g3⟩ := dOf_rep A rx h1
        refine .inr ⟨p, _, rfl, g1, fun z hz => ?_⟩
        rw [zip_keys g2]
        obtain ⟨w', s', A', r'⟩ := new_lstR A hz (reps_keys ks)
        exact q w' _ _ s' A' r'
      · split at hm
        · rename_i n _
          split at hm
          · rename_i m2 hn
            cases hm
            obtain ⟨v, rfl, rx⟩ := reps1 r
            simp only [Rep] at rx
            obtain ⟨p, rfl, hρ⟩ := rx
            obtain ⟨_, us, h1, h2⟩ := A.obj n _ p hn hρ
            refine .inl ⟨p, us, rfl, .inl (SqL.of h1), fun z hz => ?_⟩
            obtain ⟨w', s', A', r'⟩ := new_lstR A hz h2
            exact q w' _ _ s' A' r'
          · cases hm
        · obtain ⟨v, rfl, rx⟩ := reps1 r
          unfold listD at hm
          split at hm <;> cases hm
          · rename_i hx
            cases hx
            simp only [Rep] at rx
            obtain ⟨p, us, rfl, h1, h2⟩ := rx
            refine .inl ⟨p, us, rfl, .inl (SqL.of (A.sub _ _ h1)), fun z hz => ?_⟩
            obtain ⟨w', s', A', r'⟩ := new_lstR A hz h2
            exact q w' _ _ s' A' r'
          · rename_i hx
            cases hx
            simp only [Rep] at rx
            obtain ⟨p, us, rfl, h1, h2⟩ := rx
            rw [hK] at h1
            refine .inl ⟨p, us, rfl, .inl (A.sub.seq h1), fun z hz => ?_⟩
            obtain ⟨w', s', A', r'⟩ := new_lstR A hz h2
            exact q w' _ _ s' A' r'
          · rename_i hx
            cases hx
            simp only [Rep] at rx
            obtain ⟨p, us, rfl, h1, h2⟩ := rx
            rw [hK] at h1
            refine .inl ⟨p, us, rfl, .inr (same_sqT A.sub h1), fun z hz => ?_⟩
            obtain ⟨w', s', A', r'⟩ := new_lstR A hz h2
            exact q w' _ _ s' A' r'
    · cases hm
  · cases e
/-! ### a list of the store is frozen where it stands -/
def cFrzL (a : CE) : CE := fun env ah => (a env ah).bind fun d ah1 => match d with
  | .ref n => match lstAt ah1 n with
    | some l => .ok (.lst l) (ah1.set n .dead)
    | none => .ok d ah1
  | _ => .ok d ah1
theorem frzL_step {w : Wd} {ah : AH} {H : Hp} {n : Nat} {p : Addr} {l : List D} {vs : List V} (A : RelA t w ah H) (hn : ah[n]? = some (.lst l)) (hρ : w.ρ[n]? = some p) (hp : H p = some (.lst vs)) (hf : w.Hf p = none) :
    Stp w H (w.add p (.lst vs)) H ∧ RelA t (w.add p (.lst vs)) (ah.set n .dead) H := by
  have hm : p ∈ w.ρ := List.mem_of_getElem? hρ
  have hne : ∀ z o, w.Hf z = some o → z ≠ p := fun z o h q => by rw [q, hf] at h; cases h
  have le : Wle w (w.add p (.lst vs)) := ⟨fun z o h => by
    show upd w.Hf p _ z = some o
    rw [upd_ne (hne z o h)]
    exact h, fun _ _ h => h, rfl⟩
  refine ⟨⟨le, fun z o h1 h2 => h2, fun z o h => ⟨o, h⟩, fun _ h => .inl h, fun z o h => ?_⟩, ⟨fun z o h => ?_, by rw [List.length_set]; exact A.len, A.nd, A.live, fun m u z e1 e2 => ?_, A.lks⟩⟩
  · by_cases q : z = p
    · exact .inr (.inr (by rw [q]; exact hm))
    · replace h : upd w.Hf p _ z = some o := h
      rw [upd_ne q] at h
      exact .inl h
  · replace h : upd w.Hf p _ z = some o := h
    by_cases q : z = p
    · rw [q, upd_same] at h
      cases h
      rw [q]
      exact hp
    · rw [upd_ne q] at h
      exact A.sub z o h
  · by_cases h : n = m
    · subst h
      have hlt : n < ah.length := (List.getElem?_eq_some_iff.mp hn).1
      rw [List.getElem?_set_self hlt] at e1
      cases e1
      trivial
    · rw [List.getElem?_set_ne h] at e1
      have ne : z ≠ p := fun q => by
        subst q
        obtain ⟨h1, e3⟩ := List.getElem?_eq_some_iff.mp hρ
        obtain ⟨h2, e4⟩ := List.getElem?_eq_some_iff.mp e2
        exact h ((List.getElem_inj A.nd).mp (e3.trans e4.symm))
      exact (A.obj m u z e1 e2).step le (fun h => by show upd w.Hf p _ z = none; rw [upd_ne ne]; exact h) fun ob h => h
theorem q_frzL (h : PE X e (tE t W H0 xa)) : PE X e (tE t W H0 (cFrzL xa)) := by
  refine PE.imp h ?_
  rintro σ H Q ⟨w, env, ah, A, E, P⟩
  refine ⟨w, env, ah, A, E, post_bind P fun d ah1 w1 v H1 s1 A1 r1 P1 => ?_⟩
  split at P1
  · rename_i n
    split at P1
    · rename_i l hl
      have hn := lstAt_some hl
      simp only [Rep] at r1
      obtain ⟨p, rfl, hρ⟩ := r1
      obtain ⟨m0, vs, m1, m2⟩ := A1.obj n _ p hn hρ
      obtain ⟨s2, A2⟩ := frzL_step A1 hn hρ m1 m0
      refine P1 _ _ _ s2 A2 ?_
      simp only [Rep]
      exact ⟨p, vs, rfl, add_at, Reps.mono s2.le l m2⟩
    · exact post_ok P1 A1 r1
  · exact post_ok P1 A1 r1
end
/-! ### lists of the store compared -/
section
variable {X : Cx} {t : Tb}
def dr (ah : AH) (d : D) : D := match d with
  | .ref n => match ah[n]? with
    | some (.lst l) => .lst l
    | _ => .ref n
  | d => d
def Wd.all (w : Wd) (H : Hp) : Wd := { w with Hf := H }
theorem all_le {w : Wd} {ah : AH} {H : Hp} (A : RelA t w ah H) : Wlq w (w.all H) := ⟨A.sub, fun _ _ h => h⟩
theorem dr_rep {w : Wd} {ah : AH} {H : Hp} {d : D} {v : V} (A : RelA t w ah H) (r : Rep t w d v) : Rep t (w.all H) (dr ah d) v := by
  unfold dr
  split
  · rename_i n
    split
    · rename_i l hn
      simp only [Rep] at r
      obtain ⟨p, rfl, hρ⟩ := r
      obtain ⟨_, vs, h1, h2⟩ := A.obj n _ p hn hρ
      simp only [Rep]
      exact ⟨p, vs, rfl, h1, Reps.mono0 (all_le A) l h2⟩
    · exact Rep.mono0 (all_le A) _ r
  · exact Rep.mono0 (all_le A) _ r
def eqAD : F2 := fun ah x y => (eqB (dr ah x) (dr ah y)).map D.bl
def neAD : F2 := fun ah x y => (eqB (dr ah x) (dr ah y)).map fun b => D.bl (!b)
theorem bs_eqA (hK : t.K = X.K := by rfl) : BinS t eqAD (rEqA X.K) := by
  intro w ah H x y d v u Q A rx ry e q
  unfold eqAD at e
  cases h : eqB (dr ah x) (dr ah y) with
  | none => rw [h] at e; cases e
  | some b =>
    rw [h] at e
    cases e
    rcases eqB_cases (w := w.all H) (H := H) (Same.refl _) (dr_rep A rx) (dr_rep A ry) h with ⟨h1, rfl⟩ | ⟨p, q', h1, h2, h3, h4, rfl⟩
    · exact .inl ⟨h1, fin0 A q (by simp only [Rep])⟩
    · rw [hK] at h1 h2
      exact .inr ⟨p, q', h1, h2, h3, h4, fin0 A q (by simp only [Rep])⟩
theorem bs_neA (hK : t.K = X.K := by rfl) : BinS t neAD (rNeA X.K) := by
  intro w ah H x y d v u Q A rx ry e q
  unfold neAD at e
  cases h : eqB (dr ah x) (dr ah y) with
  | none => rw [h] at e; cases e
  | some b =>
    rw [h] at e
    cases e
    rcases eqB_cases (w := w.all H) (H := H) (Same.refl _) (dr_rep A rx) (dr_rep A ry) h with ⟨h1, rfl⟩ | ⟨p, q', h1, h2, h3, h4, rfl⟩
    · exact .inl ⟨h1, fin0 A q (by simp only [Rep])⟩
    · rw [hK] at h1 h2
      exact .inr ⟨p, q', h1, h2, h3, h4, fin0 A q (by simp only [Rep])⟩
end
/-! ### running rules -/
section
variable {env : En} {ah ah' : AH} {o a : CE} {n : Nat} {l : List D} {ks : List Key}
def clr1 (r : Res D) : Res D := r.bind fun x ah1 => match x with
  | .ref n => match clrO ah1 n with
    | some ah2 => .ok .non ah2
    | none => .bad
  | _ => .bad
theorem ev_clr : cClr o env ah = clr1 (o env ah) := rfl
theorem clr1_l (h : ah[n]? = some (.lst l)) : clr1 (.ok (.ref n) ah) = .ok .non (ah.set n (.lst [])) := by
  unfold clr1 clrO
  simp only [bind_ok, h]
theorem clr1_d (h : ah[n]? = some (.dct ks l)) : clr1 (.ok (.ref n) ah) = .ok .non (ah.set n (.dct [] [])) := by
  unfold clr1 clrO
  simp only [bind_ok, h]
def rev1 (r : Res D) : Res D := r.bind fun x ah1 => match x with
  | .ref n => match lstAt ah1 n with
    | some l => .ok .non (ah1.set n (.lst l.reverse))
    | none => .bad
  | _ => .bad
theorem ev_rev : cRev o env ah = rev1 (o env ah) := rfl
theorem rev1_l (h : ah[n]? = some (.lst l)) : rev1 (.ok (.ref n) ah) = .ok .non (ah.set n (.lst l.reverse)) := by
  unfold rev1 lstAt
  simp only [bind_ok, h]
theorem listRA_l : listRA ah [.lst l] = some (.ref ah.length, ah ++ [.lst l]) := rfl
theorem listRA_d : listRA ah [.dct ks l] = some (.ref ah.length, ah ++ [.lst (ks.map kD)]) := rfl
theorem listRA_rl (h : ah[n]? = some (.lst l)) : listRA ah [.ref n] = some (.ref ah.length, ah ++ [.lst l]) := by
  unfold listRA
  rw [listA_rl h]
def frzL1 (r : Res D) : Res D := r.bind fun d ah1 => match d with
  | .ref n => match lstAt ah1 n with
    | some l => .ok (.lst l) (ah1.set n .dead)
    | none => .ok d ah1
  | _ => .ok d ah1
theorem ev_frzL : cFrzL a env ah = frzL1 (a env ah) := rfl
theorem frzL1_l (h : ah[n]? = some (.lst l)) : frzL1 (.ok (.ref n) ah) = .ok (.lst l) (ah.set n .dead) := by
  unfold frzL1 lstAt
  simp only [bind_ok, h]
theorem eqA_ev {x y : D} : eqAD ah x y = eqD ah (dr ah x) (dr ah y) := rfl
theorem neA_ev {x y : D} : neAD ah x y = neD ah (dr ah x) (dr ah y) := rfl
theorem dr_l : dr ah (.lst l) = .lst l := rfl
theorem dr_t : dr ah (.tup l) = .tup l := rfl
theorem dr_ref (h : ah[n]? = some (.lst l)) : dr ah (.ref n) = .lst l := by
  unfold dr
  simp only [h]
theorem frzL1_lst : frzL1 (.ok (.lst l) ah) = .ok (.lst l) ah := rfl
end
end G
/-! Plain laws: tables with text keys; what of the store stays. -/
namespace G
open PySem PySem.Spec PyProof.Rows L2

/-! ### tables with text keys -/
section
variable {α β : Type}
def lkT : List (Str × α) → Str → Option α
  | [], _ => none
  | (y, v) :: r, x => if y = x then some v else lkT r x
def putT (ts : List (Str × α)) (x : Str) (v : α) : List (Str × α) := if (ts.any fun e => decide (e.1 = x)) = true then ts.map (fun e => if e.1 = x then (e.1, v) else e) else ts ++ [(x, v)]
def dropT (ts : List (Str × α)) (x : Str) : List (Str × α) := ts.filter fun e => decide (e.1 ≠ x)
def kT (ts : List (Str × α)) : List Key := ts.map fun e => .inr e.1
def vT (f : α → D) (ts : List (Str × α)) : List D := ts.map fun e => f e.2
def dctT (f : α → D) (ts : List (Str × α)) : MO := .dct (kT ts) (vT f ts)
theorem inr_eq {x y : Str} : ((Sum.inr y : Key) = Sum.inr x) ↔ y = x := ⟨fun h => by injection h, fun h => by rw [h]⟩
theorem lk_kT {f : α → D} {x : Str} : ∀ ts : List (Str × α), lkD (kT ts) (vT f ts) (.inr x) = (lkT ts x).map f
  | [] => rfl
  | (y, v) :: r => by
    show (if (Sum.inr y : Key) = Sum.inr x then some (f v) else lkD (kT r) (vT f r) (.inr x)) = (if y = x then some v else lkT r x).map f
    by_cases h : y = x
    · rw [if_pos (inr_eq.mpr h), if_pos h]
      rfl
    · rw [if_neg (fun z => h (inr_eq.mp z)), if_neg h]
      exact lk_kT r
theorem has_kT {x : Str} : ∀ ts : List (Str × α), hasK (kT ts) (.inr x) = (ts.any fun e => decide (e.1 = x))
  | [] => rfl
  | (y, v) :: r => by
    show (decide ((Sum.inr y : Key) = Sum.inr x) || hasK (kT r) (.inr x)) = (decide (y = x) || r.any fun e => decide (e.1 = x))
    rw [has_kT r]
    congr 1
    exact decide_eq_decide.mpr inr_eq
theorem st_kT {f : α → D} {x : Str} {v : α} : ∀ ts : List (Str × α), stL (kT ts) (vT f ts) (.inr x) (f v) = vT f (ts.map (fun e => if e.1 = x then (e.1, v) else e))
  | [] => rfl
  | (y, u) :: r => by
    show (if (Sum.inr y : Key) = Sum.inr x then f v else f u) :: stL (kT r) (vT f r) (.inr x) (f v) = _
    rw [st_kT r]
    by_cases h : y = x
    · rw [if_pos (inr_eq.mpr h)]
      show _ = vT f ((if y = x then (y, v) else (y, u)) :: _)
      rw [if_pos h]
      rfl
    · rw [if_neg (fun z => h (inr_eq.mp z))]
      show _ = vT f ((if y = x then (y, v) else (y, u)) :: _)
      rw [if_neg h]
      rfl
theorem kT_map {x : Str} {v : α} (ts : List (Str × α)) : kT (ts.map (fun e => if e.1 = x then (e.1, v) else e)) = kT ts := by
  unfold kT
  rw [List.map_map]
  refine List.map_congr_left fun e _ => ?_
  show (Sum.inr (if e.1 = x then (e.1, v) else e).1 : Key) = _
  split <;> rfl
theorem put_kT {x : Str} {v : α} (ts : List (Str × α)) : putKs (kT ts) (.inr x) = kT (putT ts x v) := by
  unfold putKs putT
  rw [has_kT]
  split
  · rw [kT_map]
  · unfold kT
    rw [List.map_append]
    rfl
theorem putl_kT {f : α → D} {x : Str} {v : α} (ts : List (Str × α)) : putL (kT ts) (vT f ts) (.inr x) (f v) = vT f (putT ts x v) := by
  unfold putL putT
  rw [has_kT]
  split
  · exact st_kT ts
  · unfold vT
    rw [List.map_append]
    rfl
theorem drop_kT {x : Str} : ∀ ts : List (Str × α), dropKs (kT ts) (.inr x) = kT (dropT ts x)
  | [] => rfl
  | (y, v) :: r => by
    have ih := drop_kT (x := x) r
    unfold dropKs dropT kT at ih ⊢
    rw [List.map_cons]
    by_cases h : y = x
    · rw [List.filter_cons_of_neg (by simp [h]), List.filter_cons_of_neg (by simp [h])]
      exact ih
    · rw [List.filter_cons_of_pos (by simp only [ne_eq, decide_eq_true_eq]; exact fun z => h (inr_eq.mp z)), List.filter_cons_of_pos (by simp [h]), List.map_cons, ih]
theorem dropl_kT {f : α → D} {x : Str} : ∀ ts : List (Str × α), dropL (kT ts) (vT f ts) (.inr x) = vT f (dropT ts x)
  | [] => rfl
  | (y, v) :: r => by
    have ih := dropl_kT (f := f) (x := x) r
    show (if (Sum.inr y : Key) = Sum.inr x then dropL (kT r) (vT f r) (.inr x) else f v :: dropL (kT r) (vT f r) (.inr x)) = _
    rw [ih]
    unfold dropT
    by_cases h : y = x
    · rw [if_pos (inr_eq.mpr h), List.filter_cons_of_neg (by simp [h])]
    · rw [if_neg (fun z => h (inr_eq.mp z)), List.filter_cons_of_pos (by simp [h])]
      rfl
theorem lkT_none {x : Str} : ∀ {ts : List (Str × α)}, lkT ts x = none ↔ ∀ e ∈ ts, e.1 ≠ x
  | [] => by simp [lkT]
  | (y, v) :: r => by
    show (if y = x then some v else lkT r x) = none ↔ _
    by_cases h : y = x
    · rw [if_pos h]
      constructor
      · intro z; cases z
      · intro z; exact absurd h (z (y, v) (List.mem_cons_self ..))
    · rw [if_neg h, lkT_none]
      constructor
      · intro z e he
        rcases List.mem_cons.mp he with q | q
        · rw [q]; exact h
        · exact z e q
      · intro z e he
        exact z e (List.mem_cons_of_mem _ he)
theorem lkT_mem {x : Str} {v : α} : ∀ {ts : List (Str × α)}, lkT ts x = some v → (x, v) ∈ ts
  | [], h => by cases h
  | (y, u) :: r, h => by
    replace h : (if y = x then some u else lkT r x) = some v := h
    by_cases q : y = x
    · rw [if_pos q] at h
      cases h
      rw [q]
      exact List.mem_cons_self ..
    · rw [if_neg q] at h
      exact List.mem_cons_of_mem _ (lkT_mem h)
theorem lkT_of {x : Str} {v : α} : ∀ {ts : List (Str × α)}, (ts.map (·.1)).Nodup → (x, v) ∈ ts → lkT ts x = some v
  | [], _, h => by cases h
  | (y, u) :: r, hn, h => by
    rw [List.map_cons, List.nodup_cons] at hn
    show (if y = x then some u else lkT r x) = some v
    rcases List.mem_cons.mp h with q | q
    · cases q
      rw [if_pos rfl]
    · rw [if_neg (fun z => hn.1 (by rw [z]; exact List.mem_map.mpr ⟨_, q, rfl⟩)), lkT_of hn.2 q]
theorem any_lkT {x : Str} : ∀ ts : List (Str × α), (ts.any fun e => decide (e.1 = x)) = (lkT ts x).isSome
  | [] => rfl
  | (y, v) :: r => by
    show (decide (y = x) || r.any fun e => decide (e.1 = x)) = (if y = x then some v else lkT r x).isSome
    by_cases h : y = x
    · rw [if_pos h, decide_eq_true h]; rfl
    · rw [if_neg h, decide_eq_false h, any_lkT r]; rfl
theorem dropT_none {ts : List (Str × α)} {x : Str} (h : lkT ts x = none) : dropT ts x = ts := by
  unfold dropT
  rw [List.filter_eq_self]
  intro e he
  simp only [ne_eq, decide_eq_true_eq]
  exact lkT_none.mp h e he
theorem putT_none {ts : List (Str × α)} {x : Str} {v : α} (h : lkT ts x = none) : putT ts x v = ts ++ [(x, v)] := by
  unfold putT
  rw [any_lkT, h]
  rfl
theorem lkT_append {x : Str} {ts us : List (Str × α)} : lkT (ts ++ us) x = (lkT ts x).or (lkT us x) := by
  induction ts with
  | nil => rfl
  | cons e r ih =>
    obtain ⟨y, v⟩ := e
    show (if y = x then some v else lkT (r ++ us) x) = (if y = x then some v else lkT r x).or (lkT us x)
    split
    · rfl
    · exact ih
theorem lkT_dropT {x z : Str} : ∀ ts : List (Str × α), lkT (dropT ts x) z = if z = x then none else lkT ts z
  | [] => by simp [dropT, lkT]
  | (y, v) :: r => by
    have ih := lkT_dropT (x := x) (z := z) r
    unfold dropT at ih ⊢
    by_cases h : y = x
    · rw [List.filter_cons_of_neg (by simp [h]), ih]
      show _ = if z = x then none else (if y = z then some v else lkT r z)
      by_cases q : z = x
      · rw [if_pos q, if_pos q]
      · rw [if_neg q, if_neg q, if_neg (fun w => q (by rw [← w, h]))]
    · rw [List.filter_cons_of_pos (by simp [h])]
      show (if y = z then some v else lkT _ z) = if z = x then none else (if y = z then some v else lkT r z)
      by_cases q : y = z
      · rw [if_pos q, if_pos q, if_neg (fun w => h (by rw [q, w]))]
      · rw [if_neg q, if_neg q, ih]
theorem lkT_map {x z : Str} {v : α} : ∀ ts : List (Str × α), lkT (ts.map (fun e => if e.1 = x then (e.1, v) else e)) z = if z = x then (lkT ts z).map (fun _ => v) else lkT ts z
  | [] => by simp [lkT]
  | (y, u) :: r => by
    rw [List.map_cons]
    have ih := lkT_map (x := x) (z := z) (v := v) r
    by_cases h : y = x
    · rw [if_pos (show (y, u).1 = x from h)]
      show (if y = z then some v else lkT _ z) = if z = x then (if y = z then some u else lkT r z).map (fun _ => v) else (if y = z then some u else lkT r z)
      by_cases q : y = z
      · rw [if_pos q, if_pos q, if_pos (by rw [← q, h])]; rfl
      · rw [if_neg q, if_neg q, ih]
    · rw [if_neg (show ¬ (y, u).1 = x from h)]
      show (if y = z then some u else lkT _ z) = if z = x then (if y = z then some u else lkT r z).map (fun _ => v) else (if y = z then some u else lkT r z)
      by_cases q : y = z
      · rw [if_pos q, if_pos q, if_neg (fun w => h (by rw [q, w]))]
      · rw [if_neg q, if_neg q, ih]
theorem lkT_putT {x z : Str} {v : α} (ts : List (Str × α)) : lkT (putT ts x v) z = if z = x then some v else lkT ts z := by
  unfold putT
  rw [any_lkT]
  cases h : lkT ts x with
  | none =>
    rw [if_neg (by simp), lkT_append]
    show (lkT ts z).or (if x = z then some v else none) = _
    by_cases q : z = x
    · rw [if_pos q, q, h, if_pos rfl]; rfl
    · rw [if_neg q, if_neg (fun w => q w.symm)]
      cases lkT ts z <;> rfl
  | some u =>
    rw [if_pos (by simp), lkT_map]
    by_cases q : z = x
    · rw [if_pos q, if_pos q, q, h]; rfl
    · rw [if_neg q, if_neg q]
theorem keys_map {x : Str} {v : α} (ts : List (Str × α)) : (ts.map (fun e => if e.1 = x then (e.1, v) else e)).map (·.1) = ts.map (·.1) := by
  rw [List.map_map]
  refine List.map_congr_left fun e _ => ?_
  show (if e.1 = x then (e.1, v) else e).1 = _
  split <;> rfl
theorem nodup_putT {x : Str} {v : α} {ts : List (Str × α)} (h : (ts.map (·.1)).Nodup) : ((putT ts x v).map (·.1)).Nodup := by
  unfold putT
  split
  · rw [keys_map]; exact h
  · rename_i q
    rw [any_lkT] at q
    have hn : lkT ts x = none := by
      cases e : lkT ts x with
      | none => rfl
      | some u => rw [e] at q; exact absurd rfl q
    rw [List.map_append, List.nodup_append]
    refine ⟨h, by simp, fun a ha b hb e => ?_⟩
    simp only [List.map_cons, List.map_nil, List.mem_singleton] at hb
    obtain ⟨p, hp, rfl⟩ := List.mem_map.mp ha
    exact lkT_none.mp hn p hp (e.trans hb)
theorem nodup_dropT {x : Str} {ts : List (Str × α)} (h : (ts.map (·.1)).Nodup) : ((dropT ts x).map (·.1)).Nodup := by
  unfold dropT
  exact List.Nodup.sublist (List.Sublist.map _ (List.filter_sublist)) h
theorem mem_putT {x : Str} {v : α} {ts : List (Str × α)} {e : Str × α} (h : e ∈ putT ts x v) : e ∈ ts ∨ e.2 = v := by
  unfold putT at h
  split at h
  · obtain ⟨p, hp, q⟩ := List.mem_map.mp h
    split at q
    · rw [← q]; exact .inr rfl
    · rw [← q]; exact .inl hp
  · rcases List.mem_append.mp h with q | q
    · exact .inl q
    · rw [List.mem_singleton] at q
      rw [q]; exact .inr rfl
theorem mem_dropT {x : Str} {ts : List (Str × α)} {e : Str × α} (h : e ∈ dropT ts x) : e ∈ ts := (List.mem_filter.mp h).1
end
/-! ### what of the store stays -/
structure Frm (S : List Nat) (ah ah' : AH) : Prop where
  len : ah'.length = ah.length
  at_ : ∀ i, i ∉ S → ah'[i]? = ah[i]?
theorem Frm.refl (S : List Nat) (ah : AH) : Frm S ah ah := ⟨rfl, fun _ _ => rfl⟩
theorem Frm.trans {S : List Nat} {a b c : AH} (x : Frm S a b) (y : Frm S b c) : Frm S a c := ⟨y.len.trans x.len, fun i h => (y.at_ i h).trans (x.at_ i h)⟩
theorem Frm.mono {S S' : List Nat} {a b : AH} (x : Frm S a b) (h : ∀ i ∈ S, i ∈ S') : Frm S' a b := ⟨x.len, fun i hi => x.at_ i fun z => hi (h i z)⟩
theorem Frm.set {S : List Nat} {a : AH} {n : Nat} {o : MO} (h : n ∈ S) : Frm S a (a.set n o) := ⟨List.length_set, fun i hi => List.getElem?_set_ne fun z => hi (by rw [← z]; exact h)⟩
theorem set_self {a : AH} {n : Nat} {o : MO} (h : a[n]? = some o) : a.set n o = a := by
  refine List.ext_getElem? fun i => ?_
  by_cases e : n = i
  · subst e
    rw [List.getElem?_set_self (List.getElem?_eq_some_iff.mp h).1, h]
  · rw [List.getElem?_set_ne e]
theorem set_at {a : AH} {n : Nat} {o o' : MO} (h : a[n]? = some o) : (a.set n o')[n]? = some o' := List.getElem?_set_self (List.getElem?_eq_some_iff.mp h).1
theorem set_off {a : AH} {n m : Nat} {o : MO} (h : n ≠ m) : (a.set n o)[m]? = a[m]? := List.getElem?_set_ne h
theorem app_at {a : AH} {o : MO} : (a ++ [o])[a.length]? = some o := by
  rw [List.getElem?_append_right (Nat.le_refl _), Nat.sub_self]
  rfl
theorem app_off {a b : AH} {n : Nat} {o : MO} (h : a[n]? = some o) : (a ++ b)[n]? = some o := by
  rw [List.getElem?_append_left (List.getElem?_eq_some_iff.mp h).1]
  exact h
theorem fld_ref {fl : Nat → List Str} {f : Str} {ah : AH} {n c i : Nat} {l : List D} {d : D} (h : flIx (fl c) f = some i) (hn : ah[n]? = some (.ins c l)) (e : l[i]? = some d) : fldD fl f ah (.ref n) = some d := by
  show (match ah[n]? with
    | some (.ins c l) => (flIx (fl c) f).bind fun i => l[i]?
    | _ => none) = some d
  rw [hn]
  show (flIx (fl c) f).bind (fun i => l[i]?) = some d
  rw [h]
  exact e
theorem cls_ref {ah : AH} {n c : Nat} {l : List D} (hn : ah[n]? = some (.ins c l)) : clsD ah (.ref n) = some c := by
  show (match ah[n]? with
    | some (.ins c _) => some c
    | _ => none) = some c
  rw [hn]
theorem setF1_ref {fl : Nat → List Str} {i n k : Nat} {nm : Str} {env : En} {ah : AH} {l l' : List D} {x : D} (h1 : env[i]? = some (.val (.ref n))) (h2 : ah[n]? = some (.ins k l)) (h : putD (fl k) nm x l = some l') : setF1 fl i nm env (.ok x ah) = .nx env (ah.set n (.ins k l')) := by
  unfold setF1
  simp only [of_ok, h1, h2, h]
theorem put_old {ns : List Str} {f : Str} {i : Nat} {l : List D} {d : D} (h : flIx ns f = some i) (e : i < l.length) : putD ns f d l = some (l.set i d) := by
  unfold putD
  rw [h]
  simp only
  rw [if_pos e]
end G
namespace G
theorem fmod_b {a m : Int} (h : 0 < m) : 0 ≤ a.fmod m ∧ a.fmod m < m := ⟨Int.fmod_nonneg_of_pos a h, Int.fmod_lt_of_pos a h⟩
end G
namespace G
open PySem PySem.Spec PyProof.Rows L2
/-- what stays, the store may grow -/
structure Frx (S : List Nat) (ah ah' : AH) : Prop where
  len : ah.length ≤ ah'.length
  at_ : ∀ i, i < ah.length → i ∉ S → ah'[i]? = ah[i]?
theorem Frx.refl (S : List Nat) (ah : AH) : Frx S ah ah := ⟨Nat.le_refl _, fun _ _ _ => rfl⟩
theorem Frx.trans {S : List Nat} {a b c : AH} (x : Frx S a b) (y : Frx S b c) : Frx S a c := ⟨Nat.le_trans x.len y.len, fun i hi h => (y.at_ i (Nat.lt_of_lt_of_le hi x.len) h).trans (x.at_ i hi h)⟩
theorem Frx.mono {S S' : List Nat} {a b : AH} (x : Frx S a b) (h : ∀ i ∈ S, i ∈ S') : Frx S' a b := ⟨x.len, fun i hi hs => x.at_ i hi fun z => hs (h i z)⟩
theorem Frx.set {S : List Nat} {a : AH} {n : Nat} {o : MO} (h : n ∈ S) : Frx S a (a.set n o) := ⟨by rw [List.length_set]; exact Nat.le_refl _, fun i _ hi => List.getElem?_set_ne fun z => hi (by rw [← z]; exact h)⟩
theorem Frx.app {S : List Nat} (a b : AH) : Frx S a (a ++ b) := ⟨by rw [List.length_append]; omega, fun i hi _ => List.getElem?_append_left hi⟩
theorem Frx.get {S : List Nat} {a b : AH} {i : Nat} {o : MO} (x : Frx S a b) (h : a[i]? = some o) (hs : i ∉ S) : b[i]? = some o := by rw [x.at_ i (List.getElem?_eq_some_iff.mp h).1 hs]; exact h
theorem Frm.x {S : List Nat} {a b : AH} (x : Frm S a b) : Frx S a b := ⟨Nat.le_of_eq x.len.symm, fun i _ h => x.at_ i h⟩
theorem Frx.app_of {S : List Nat} {a b : AH} (x : Frx S a b) (h : ∀ i ∈ S, a.length ≤ i) : ∃ e, b = a ++ e := by
  refine ⟨b.drop a.length, List.ext_getElem? fun i => ?_⟩
  by_cases hi : i < a.length
  · rw [x.at_ i hi (fun z => by have := h i z; omega), List.getElem?_append_left hi]
  · rw [List.getElem?_append_right (by omega), List.getElem?_drop]
    congr 1
    omega
end G
namespace G
open PySem PySem.Spec PyProof.Rows L2
theorem merge_kT {α : Type} {f : α → D} : ∀ (us acc : List (Str × α)), ((acc ++ us).map (·.1)).Nodup → mergeD (us.map fun e => ((Sum.inr e.1 : Key), f e.2)) (kT acc) (vT f acc) = (kT (acc ++ us), vT f (acc ++ us))
  | [], acc, h => by rw [List.append_nil]; rfl
  | (y, v) :: r, acc, h => by
    have hn : lkT acc y = none := lkT_none.mpr fun e he z => by
      rw [List.map_append, List.nodup_append] at h
      exact h.2.2 y (by rw [← z]; exact List.mem_map.mpr ⟨e, he, rfl⟩) y (by simp) rfl
    show mergeD (r.map _) (putKs (kT acc) (.inr y)) (putL (kT acc) (vT f acc) (.inr y) (f v)) = _
    rw [put_kT (v := v), putl_kT, putT_none hn, merge_kT r (acc ++ [(y, v)]) (by rw [List.append_assoc]; exact h), List.append_assoc]
    rfl
theorem pairs_of {α : Type} {f : α → D} : ∀ us : List (Str × α), pairsOf (us.map fun e => D.tup [.str e.1, f e.2]) = some (us.map fun e => ((Sum.inr e.1 : Key), f e.2))
  | [] => rfl
  | (y, v) :: r => by
    show (keyD (.str y)).bind (fun k => (pairsOf (r.map _)).map ((k, f v) :: ·)) = _
    rw [pairs_of r]
    rfl
end G
namespace G
open PySem PySem.Spec PyProof.Rows L2
theorem map_off {α : Type} {x : Str} {v : α} : ∀ {F : List (Str × α)}, lkT F x = none → F.map (fun e => if e.1 = x then (e.1, v) else e) = F
  | [], _ => rfl
  | (y, u) :: r, h => by
    have hy := lkT_none.mp h (y, u) (List.mem_cons_self ..)
    rw [List.map_cons, if_neg hy, map_off (lkT_none.mpr fun e he => lkT_none.mp h e (List.mem_cons_of_mem _ he))]
theorem putT_last {α : Type} {F : List (Str × α)} {x : Str} {u v : α} (h : lkT F x = none) : putT (F ++ [(x, u)]) x v = F ++ [(x, v)] := by
  unfold putT
  rw [if_pos (by simp), List.map_append, map_off h]
  simp
end G
/-! The engine, part 24: isinstance of tuples of classes, of exceptions with fields; fields of exceptions; try with a suite and else. -/
namespace G
open PySem PySem.Spec PyProof.Rows L2
/-! ### constants in a row -/
def tCs (cs : List V) : TA := fun _ H Q => Q cs H
section
variable {X : Cx} {e : Expr} {es : List Expr} {c : V} {cs : List V}
theorem qt_nil : PA X [] (tCs []) := pa_nil
theorem qt_cons (h : PE X e (tC c)) (r : PA X es (tCs cs)) (hs : starEach (e :: es) X.env = (false, eval e X.env) :: starEach es X.env := by rfl) : PA X (e :: es) (tCs (c :: cs)) := pa_cons h r hs
end
section
variable {X : Cx} {t : Tb} {W : WX} {w0 : Wd} {H0 : Bs} {xa xb xc : CE} {ca : CA} {a b c e f o tg : Expr} {es : List Expr} {pos apos cpos pos' : Pos} {st : Stmt} {c1 c2 c3 : CS}
/-! ### isinstance, of exceptions too -/
/-- an exception's dict is there -/
def DctOk (H : Hp) (d : Option Addr) : Prop := d = none ∨ ∃ dd fs, d = some dd ∧ H dd = some (.xd fs)
theorem inst_exc {pins : List (Addr × Obj)} {σ : L2.St} {H : Hp} {s : Shared} {x C : Addr} {d : Option Addr} (I : L2.Inv X pins σ H s) (hx : H x = some (ExcK (.ref C) d x)) (hd : DctOk H d) : ∃ ox od, PySem.W.InstAt s.heap x ox C od := by
  have z : ObjOk X.prog X.w H s.heap x (ExcK (.ref C) d x) := I.hok x _ hx
  obtain ⟨⟨oe, vs, hget, hz, hv⟩, _⟩ := z
  rcases hd with rfl | ⟨dd, fs, rfl, ea⟩
  · obtain ⟨oc, od, oda, osl⟩ := oe
    obtain ⟨h1, h2⟩ := hz
    dsimp only at h1 h2 hv
    subst h1 h2 hv
    exact ⟨_, none, ⟨hget, rfl, rfl, trivial⟩⟩
  · have hq : ObjOk X.prog X.w H s.heap dd (.xd fs) := I.hok dd _ ea
    obtain ⟨mA, hns, hr⟩ := hq
    obtain ⟨od, ho, hl⟩ := lookIn_ns hns
    exact ⟨oe, some od, ⟨hget, hz.1, by unfold PySem.W.notCls; rw [hv] <;> rfl, by rw [hz.2]; exact ho⟩⟩
def rIsXD (K : PySem.W.Frag) : List V → Hp → VK → Prop := fun xs H Q => ∃ (x C : Addr) (d : Option Addr) (c : V) (b : Bool), xs = [.ref x, c] ∧ H x = some (ExcK (.ref C) d x) ∧ DctOk H d ∧ ExcC K C ∧
  ((∃ u, ClsV c u ∧ PySem.W.kitOne K (.ref C) u = some b) ∨ (∃ tp cs us, c = .ref tp ∧ H tp = some (.tup cs) ∧ Paired ClsV cs us ∧ PySem.W.kitAny K (.ref C) us = some b)) ∧ Q (.bl b) H
theorem call_isXD : CallR X (.builtin "isinstance") (rIsXD X.K) := by
  intro pins s σ H xs us Q I r h
  obtain ⟨x, C, d, c, b, rfl, hx, hd, hC, hk, q⟩ := h
  obtain ⟨u1, u2, rfl, r1, r2⟩ := vals2 r
  obtain ⟨ox, od, J⟩ := inst_exc I hx hd
  cases r1
  have cl : (PySem.W.clsIn X.K C).isSome = true := by
    have h := hC.hd
    unfold PySem.W.hasDictIn at h
    obtain ⟨cd, e, _⟩ := PySem.W.any_some h
    rw [e]; rfl
  have Z := PySem.W.kitx_exc (x := x) (od := od) (ox := ox) cl hC.hg hC.hk hC.hs hC.ha hC.hn hC.ht hC.hm
  rcases hk with ⟨u, hc, e⟩ | ⟨tp, cs, ws, rfl, hT, k, e⟩
  · have e2 := hc.eq r2
    subst e2
    exact PySem.W.kia_one Z I.kIn J e (fun z => nomatch z) fun tk => ⟨.bl b, H, I.tok tk, rfl, q⟩
  · cases (show u2 = Value.ref tp from r2)
    obtain ⟨_, its, rv, o, h1, h2, n, h3⟩ := (show ObjOk X.prog X.w H s.heap tp (.tup cs) from I.hok tp _ hT)
    have e3 := ClsV.all k rv
    subst e3
    obtain ⟨oc, odd, dt, sl⟩ := o
    simp only at h2 h3
    subst h2 h3
    exact PySem.W.kia_tup Z I.kIn J h1 e (fun z => nomatch z) fun tk => ⟨.bl b, H, I.tok tk, rfl, q⟩
def IsKX (t : Tb) (d : D) (u : Value) (b : Bool) : Prop := match d with
  | .non => PySem.W.kitOne t.K (.type "NoneType") u = some b
  | .obj c _ => ObjC t.K (t.cl c) ∧ PySem.W.kitOne t.K (.ref (t.cl c)) u = some b
  | .exc c _ => ExcC t.K (t.cl c) ∧ PySem.W.kitOne t.K (.ref (t.cl c)) u = some b
  | _ => False
def IsKXT (t : Tb) (d : D) (us : List Value) (b : Bool) : Prop := match d with
  | .non => PySem.W.kitAny t.K (.type "NoneType") us = some b
  | .obj c _ => ObjC t.K (t.cl c) ∧ PySem.W.kitAny t.K (.ref (t.cl c)) us = some b
  | .exc c _ => ExcC t.K (t.cl c) ∧ PySem.W.kitAny t.K (.ref (t.cl c)) us = some b
  | _ => False
theorem dct_ok {w : Wd} {H : Hp} {ah : AH} {c : Nat} {l : List D} {d : Option Addr} (A : RelA t w ah H) (h : ExcD t w c l d) : DctOk H d := by
  rcases h with ⟨_, rfl⟩ | ⟨_, dx, vs, rfl, e, _, _⟩
  · exact .inl rfl
  · exact .inr ⟨dx, _, rfl, A.sub _ _ e⟩
theorem q_isX {f : D → Option Bool} {T : Expr} {cV : V} {u : Value} {p pos : Pos} (hT : PE X T (tC cV)) (hc : ClsV cV u) (hf : ∀ d b, f d = some b → IsKX t d u b) (ha : PE X a (tE t W H0 xa)) (hm : X.mg "isinstance" = none) (hg : Gl X "isinstance" := by rfl) (hK : t.K = X.K := by rfl)
    (hs1 : starEach [a, T] X.env = (false, eval a X.env) :: starEach [T] X.env := by rfl) (hs2 : starEach [T] X.env = (false, eval T X.env) :: starEach [] X.env := by rfl) (hpl : (backTo pos (starEach [T] X.env)).any (·.1) = false := by rfl) :
    PE X (.Call (.Name "isinstance" p) [a, T] [] pos) (tE t W H0 (cIsI (fun _ => f) xa)) := by
  refine PE.imp (pe_callB (call_isi.or (call_isXD (X := X))) hg hm (by decide +kernel) (pa_cons ha (pa_cons hT pa_nil hs2) hs1) (by decide) (by decide) hs1 hpl) ?_
  rintro σ H Q ⟨w, env, ah, A, E, P⟩
  refine ⟨w, env, ah, A, E, post_bind P fun d ah1 w1 v H1 s1 A1 r1 P1 => ?_⟩
  show (rIsi X.K [v, cV] H1 Q) ∨ rIsXD X.K [v, cV] H1 Q
  replace P1 : Post t (Rep t) w1 H1 (ofO ((f d).map D.bl) ah1) Q (fun cls d H' => W cls d σ H') := P1
  cases e : f d with
  | none => rw [e] at P1; exact False.elim P1
  | some b =>
    rw [e] at P1
    have hk := hf d b e
    have fin : Q (.bl b) H1 := post_ok P1 A1 (by simp only [Rep])
    unfold IsKX at hk
    rw [hK] at hk
    split at hk
    · simp only [Rep] at r1
      subst r1
      exact .inl ⟨_, _, _, u, b, rfl, hc, .base .non, hk, fin⟩
    · simp only [Rep] at r1
      obtain ⟨p, dx, vs, rfl, h1, h2⟩ := r1
      exact .inl ⟨_, _, _, u, b, rfl, hc, .base (.ins (A1.sub _ _ h1) hk.1.cls hk.1.ha hk.1.hn hk.1.htk hk.1.hm), hk.2, fin⟩
    · simp only [Rep] at r1
      obtain ⟨p, dd, rfl, h1, h2⟩ := r1
      exact .inr ⟨p, _, dd, cV, b, rfl, A1.sub _ _ h1, dct_ok A1 h2, hk.1, .inl ⟨u, hc, hk.2⟩, fin⟩
    · exact False.elim hk
theorem q_isXT {f : D → Option Bool} {Ts : List Expr} {cs : List V} {us : List Value} {p pos pt : Pos} {kt} (hT : PA X Ts (tCs cs)) (hc : Paired ClsV cs us) (hn : cs.length ≤ 100) (hf : ∀ d b, f d = some b → IsKXT t d us b) (ha : PE X a (tE t W H0 xa)) (hm : X.mg "isinstance" = none) (hg : Gl X "isinstance" := by rfl) (hK : t.K = X.K := by rfl)
    (hs1 : starEach [a, .Tuple Ts kt pt] X.env = (false, eval a X.env) :: starEach [.Tuple Ts kt pt] X.env := by rfl) (hs2 : starEach [.Tuple Ts kt pt] X.env = (false, eval (.Tuple Ts kt pt) X.env) :: starEach [] X.env := by rfl) (hpl : (backTo pos (starEach [.Tuple Ts kt pt] X.env)).any (·.1) = false := by rfl) :
    PE X (.Call (.Name "isinstance" p) [a, .Tuple Ts kt pt] [] pos) (tE t W H0 (cIsI (fun _ => f) xa)) := by
  refine PE.imp (pe_callB (call_isiT.or (call_isXD (X := X))) hg hm (by decide +kernel) (pa_cons ha (pa_cons (pe_tup hT) pa_nil hs2) hs1) (by decide) (by decide) hs1 hpl) ?_
  rintro σ H Q ⟨w, env, ah, A, E, P⟩
  refine ⟨w, env, ah, A, E, post_bind P fun d ah1 w1 v H1 s1 A1 r1 P1 => ?_⟩
  replace P1 : Post t (Rep t) w1 H1 (ofO ((f d).map D.bl) ah1) Q (fun cls d H' => W cls d σ H') := P1
  cases e : f d with
  | none => rw [e] at P1; exact False.elim P1
  | some b =>
    rw [e] at P1
    have hk := hf d b e
    refine ⟨Nat.le_trans hn (by decide), fun tp htp => ?_⟩
    obtain ⟨s2, A2⟩ := stp_add (o := .tup cs) A1 htp
    have fin : Q (.bl b) (upd H1 tp (.tup cs)) := P1 _ _ _ s2 A2 (by simp only [Rep])
    have up : ∀ {p : Addr} {o : HO}, H1 p = some o → upd H1 tp (.tup cs) p = some o := fun {p o} h => by rw [upd_ne (ne_of_none h htp)]; exact h
    unfold IsKXT at hk
    rw [hK] at hk
    show (rIsiT X.K [v, .ref tp] _ Q) ∨ rIsXD X.K [v, .ref tp] _ Q
    split at hk
    · simp only [Rep] at r1
      subst r1
      exact .inl ⟨_, tp, cs, _, us, b, rfl, upd_same, hc, .base .non, hk, fin⟩
    · simp only [Rep] at r1
      obtain ⟨p, dx, vs, rfl, h1, h2⟩ := r1
      exact .inl ⟨_, tp, cs, _, us, b, rfl, upd_same, hc, .base (.ins (up (A1.sub _ _ h1)) hk.1.cls hk.1.ha hk.1.hn hk.1.htk hk.1.hm), hk.2, fin⟩
    · simp only [Rep] at r1
      obtain ⟨p, dd, rfl, h1, h2⟩ := r1
      refine .inr ⟨p, _, dd, _, b, rfl, up (A1.sub _ _ h1), ?_, hk.1, .inr ⟨tp, cs, us, rfl, upd_same, hc, hk.2⟩, fin⟩
      rcases dct_ok A1 h2 with z | ⟨x, fs, z1, z2⟩
      · exact .inl z
      · exact .inr ⟨x, fs, z1, up z2⟩
    · exact False.elim hk
/-! ### a field of an exception that was kept -/
def fldX (fl : Nat → List Str) (f : Str) : D → Option D := fun x => match x with
  | .exc c l => (flIx (fl c) f).bind fun i => l[i]?
  | _ => none
def cFldX (fl : Nat → List Str) (f : Str) (a : CE) : CE := cUn (fun _ => fldX fl f) a
def FldX (t : Tb) (f : Str) : Prop := ∀ c i, flIx (t.xl c) f = some i → XfC t.K (t.cl c) ∧ PySem.W.findIn t.K (.ref (t.cl c)) f = some none
theorem q_fldX {f : Str} (hf : FldX t f) (ha : PE X a (tE t W H0 xa)) (hb : attributeBase a f X.env (eval a X.env) = eval a X.env := by rfl) (hK : t.K = X.K := by rfl) : PE X (.Attribute a f pos) (tE t W H0 (cFldX t.xl f xa)) := by
  refine ⟨fun pins s σ H Q I h => ?_⟩
  obtain ⟨w, env, ah, A, E, P⟩ := h
  refine attr_of hb (thn (ha.run pins s σ H _ I ⟨w, env, ah, A, E, post_bind P fun d ah1 w1 v H1 s1 A1 r1 P1 => show (∃ p C dd fs y, v = .ref p ∧ H1 p = some (ExcK (.ref C) (some dd) p) ∧ H1 dd = some (.xd fs) ∧ fs.lookup f = some y ∧ XfC X.K C ∧ PySem.W.findIn X.K (.ref C) f = some none ∧ Q y H1) from ?_⟩) fun u s1 hh => ?_)
  · cases d <;> simp only [fldX] at P1 <;> first | exact False.elim P1 | skip
    rename_i c l
    simp only [Rep] at r1
    obtain ⟨p, dd, rfl, h1, h2⟩ := r1
    cases hi : flIx (t.xl c) f with
    | none => rw [hi] at P1; exact False.elim P1
    | some i =>
      rw [hi] at P1
      cases hd : l[i]? with
      | none => simp only [Option.bind_some, hd] at P1; exact False.elim P1
      | some y =>
        simp only [Option.bind_some, hd] at P1
        rcases h2 with ⟨rfl, _⟩ | ⟨_, dx, vs, rfl, e1, e2, e3⟩
        · simp at hd
        · obtain ⟨v, g1, g2⟩ := reps_get e3 hd
          obtain ⟨k1, k2⟩ := hf c i hi
          exact ⟨p, _, dx, _, v, rfl, A1.sub _ _ h1, A1.sub _ _ e1, flIx_zip hi g1, by rw [← hK]; exact k1, by rw [← hK]; exact k2, post_ok P1 A1 g2⟩
  · obtain ⟨v, H1, I1, rv, p, C, dd, fs, y, rfl, h1, h2, l, T, hno, q⟩ := hh
    obtain rfl : u = Value.ref p := rv
    have z : ObjOk X.prog X.w H1 s1.heap p (ExcK (.ref C) (some dd) p) := I1.hok p _ h1
    obtain ⟨⟨oe, vs, hget, hz, hv⟩, _⟩ := z
    have hx : ObjOk X.prog X.w H1 s1.heap dd (.xd fs) := I1.hok dd _ h2
    obtain ⟨mA, hns, hr⟩ := hx
    obtain ⟨od, ho, hl⟩ := lookIn_ns hns
    obtain ⟨u, hu, ru⟩ := RelO.some_of (v := y) (o := mA f) (by rw [← l]; exact hr f)
    have J : PySem.W.InstAt s1.heap p oe C (some od) := ⟨hget, hz.1, by unfold PySem.W.notCls; rw [hv] <;> rfl, by rw [hz.2]; exact ho⟩
    exact HandSPX.exc_get I1.kIn J T.ga T.gg T.exC (PySem.W.findObj_own T.hdC hno rfl (by rw [hl, hu])) (handed_of ru) ⟨y, H1, I1.tok _, ru, q⟩
end

/-! ### try: .. except C: .. else: .. -/
/-- a new object beside an exception in flight -/
theorem frames_push {B h : Heap} {o : Obj} : ∀ {l : List Env}, h.FunFrames B l → (h.push o).FunFrames B l
  | [], _ => trivial
  | env :: l, hh => by
    obtain ⟨hk, ⟨L, oo, hf, hn, ho, hd⟩, hr⟩ := hh
    exact ⟨hk, ⟨L, oo, hf, hn, Heap.get?_push_of_some _ ho, hd⟩, frames_push hr⟩
theorem flying_push {B h : Heap} {l : List Env} {a : Addr} {Z : Obj → Prop} {o : Obj} (f : HandSPX.FlyingZ B l a Z h) : HandSPX.FlyingZ B l a Z (h.push o) := by
  obtain ⟨h1, h2, h3, oe, vs, T, oT, ts, e1, e2, e3, e4, e5, e6, e7, e8, e9⟩ := f
  exact ⟨fun b u e => Heap.get?_push_of_some _ (h1 b u e), h2, frames_push h3, oe, vs, T, oT, ts, Heap.get?_push_of_some _ e1, e2, e3, e4, e5, e6, Heap.get?_push_of_some _ e7, e8, e9⟩
theorem upto_push {h h' : Heap} {o : Obj} (u : h.UpToSlots h') : h.UpToSlots (h'.push o) := fun b oo e n => by
  obtain ⟨sl, q⟩ := u b oo e n
  exact ⟨sl, Heap.get?_push_of_some _ q⟩
/-- what an except of two classes wishes -/
def wTup (K : PySem.W.Frag) (cs : List Value) (ts : Addr → Value → Option Addr → TS) (Wout : WX) (D : Ends) : WX := fun cls d σ H =>
  ∃ b, PySem.W.exmAny K cls cs = some b ∧ (b = true → ∀ a, H a = none → ts a cls d D σ H) ∧ (b = false → Wout cls d σ H)
section
variable {X : Cx} {x1 x2 : Str} {v1 v2 : Value} {body suite : List Stmt} {b₀ : Stmt} {np1 np2 pt pos pos' : Pos} {kt : _} {tb : WX → TS} {ts : Addr → Value → Option Addr → TS} {Wout : WX}
theorem ps_try_tupE {orelse : List Stmt} {u : TS} (ho : PSs X orelse u) (hs : X.stack = X.env :: X.outer) (hf : X.env.frame = some X.env.locals) (hc : Names X x1 v1) (hc2 : Names X x2 v2) (tk : Takes X Wout)
    (hb : ∀ (W : WX) (pn : List (Addr × Obj)) (xe : Value → Shared → Prop), Takes (X.tr pn xe) W → PassesOwn (model X.prog X.w) X.A X.env xe → PSs (X.tr pn xe) body (tb W))
    (hsu : ∀ (a : Addr) (oe : Obj) (cls : Value) (d : Option Addr) (pn : List (Addr × Obj)), Zc cls d oe → (∃ vs, oe.data = .fields vs) → PSs (X.suite a ((a, oe) :: pn)) (b₀ :: suite) (ts a cls d))
    (hst1 : starEach [.Name x1 np1, .Name x2 np2] X.env = (false, eval (.Name x1 np1) X.env) :: starEach [.Name x2 np2] X.env := by rfl) (hst2 : starEach [.Name x2 np2] X.env = (false, eval (.Name x2 np2) X.env) :: starEach [] X.env := by rfl) :
    PS X (.Try body [.ExceptHandler (some (.Tuple [.Name x1 np1, .Name x2 np2] kt pt)) none (b₀ :: suite) pos'] orelse [] pos) (fun D σ H => tb (wTup X.K [v1, v2] ts Wout D) { D with nx := u D } σ H) := by
  refine ⟨fun pins s σ H D I h => ?_⟩
  have ok := I.ok
  have hfr : X.A.frames = some (X.env :: X.outer) := by rw [ok.frames, hs]
  refine wpAny_Try_except ?_
  refine wpAny_mono ((hb (wTup X.K [v1, v2] ts Wout D) (X.pn ++ pins) (fun e s₁ => wpAny (model X.prog X.w) X.A (noteFrame e X.env) (fun _ s₂ => wpAny (model X.prog X.w) X.A (setFlight e none) (fun _ s₃ =>
    wpAny (model X.prog X.w) X.A (handleBy e X.env [.ExceptHandler (some (.Tuple [.Name x1 np1, .Name x2 np2] kt pt)) none (b₀ :: suite) pos']) (SP X pins D) X.xe s₃) X.xe s₂) X.xe s₁) (fun u s' xx => ?_) PassesOwn.looking).run [] s σ H { D with nx := u D } (I.toTry _) h) (fun f s1 hsp => ?_) (fun e s1 he => he)
  · -- the catch
    obtain ⟨a, B, sI, pins', σ', H', cls, d, rfl, J', nb, up, sky, na, os, ag, b, hb1, hyes, hno⟩ := xx
    have J : L2.Inv X pins σ' H' sI := J'.ofTry ok
    have sky' : Sky B (X.env :: X.outer) a (Zc cls d) X.env.locals s'.heap := by rw [← hs]; exact sky
    show wpAny (model X.prog X.w) X.A (noteFrame (.ref a) X.env) _ _ _
    refine Sky.land Zc.steady hfr hf sky' fun h3 fl3 up3 => ?_
    have J3 : L2.Inv X pins σ' H' { s' with heap := h3 } := J.landed nb fl3.1 (up.trans up3) os ag
    obtain ⟨oe3, vs3, he3, hz3, hd3⟩ := fl3.there
    have notFr : ∀ {h : Heap} {o : Obj} {vs : Array Value}, h.FunFrames B (X.env :: X.outer) → h.get? a = some o → o.data = .fields vs → a ∉ frs (X.env :: X.outer) := fun {h o vs} ff e dd hm => by
      obtain ⟨_, o', e', hnf⟩ := ff.mem hm
      rw [e] at e'; cases e'
      exact hnf _ dd
    have nfr := notFr fl3.2.2.1 he3 hd3
    have nL : a ≠ X.env.locals := fun z => nfr (List.mem_filterMap.mpr ⟨X.env, List.mem_cons_self, by rw [hf, z]⟩)
    have nF : a ∉ X.fs := fun hm => by
      obtain ⟨e, he, q⟩ := List.mem_filterMap.mp hm
      exact nfr (List.mem_filterMap.mpr ⟨e, List.mem_cons_of_mem _ he, q⟩)
    have S3 := J3.suite he3 hd3 na nL nF
    refine wpAny_handleBy_cons (codeAny_handlers_test ?_) (by intro q; cases q)
    have test : ∀ {x : Str} {c : Value} {np : Pos} {Q : Value → Shared → Prop} {E : Value → Shared → Prop}, Names X x c → Q c { s' with heap := h3 } → wpAny (model X.prog X.w) (X.A.mark (some (.ref a))) (eval (.Name x np) X.env) Q E { s' with heap := h3 } := fun {x c np Q E} hc q => by
      obtain ⟨hg, hdbg, hm | ⟨hm, hv, hnn⟩⟩ := hc
      · exact ld_glob (X := X.suite a ((a, oe3) :: (X.pn ++ pins))) S3 hg hm q hdbg
      · exact ld_blt (X := X.suite a ((a, oe3) :: (X.pn ++ pins))) S3 hg hm hv q hnn hdbg
    refine wpAny_Tuple_spliced ?_
    rw [hst1]
    refine Calls.spliced_cons (test hc ?_)
    show wpAny _ _ (spliced (backTo pt (starEach [.Name x2 np2] X.env))) _ _ _
    rw [hst2]
    refine Calls.spliced_cons (test hc2 ?_)
    refine Calls.spliced_nil ⟨by show 2 ≤ sizeLine; decide, ?_⟩
    have fl4 := flying_push (o := { cls := .type "tuple", data := .seq [v1, v2].toArray }) fl3
    have J4 : L2.Inv X pins σ' H' { s' with heap := h3.push { cls := .type "tuple", data := .seq [v1, v2].toArray } } := J.landed nb fl4.1 (upto_push (up.trans up3)) os ag
    have LT : PySem.W.Looks (model X.prog X.w) (h3.push { cls := .type "tuple", data := .seq [v1, v2].toArray }) (typeOf (.ref a)) cls := fun A Q E s k q => wpAny_typeOf_ref (k _ _ (Heap.get?_push_of_some _ he3)) (by rw [hz3.1]; exact q)
    have LM := PySem.W.exm_tup2 (M := model X.prog X.w) (c1 := v1) (c2 := v2) (J4.kIn) LT (Heap.get?_push_size _ rfl) hb1
    refine LM.here ?_
    cases b with
    | true =>
      refine codeAny_handlers_suite ?_
      refine HandSPX.lands_againZ fl4 fun h5 fl5 up5 => ?_
      have J5 : L2.Inv X pins σ' H' { s' with heap := h5 } := J.landed nb fl5.1 ((upto_push (up.trans up3)).trans up5) os ag
      obtain ⟨oe4, vs4, he4, hz4, hd4⟩ := fl5.there
      have S4 := J5.suite he4 hd4 na nL nF
      refine wpAny_mono ((hsu a oe4 cls d (X.pn ++ pins) hz4 ⟨_, hd4⟩).run [] _ _ H' _ S4 (hyes rfl a na)) (fun f s6 hsp => ?_) (fun _ _ z => False.elim z)
      cases f with
      | next =>
        obtain ⟨σ6, H6, S6, q6⟩ := hsp
        exact ⟨_, _, S6.unsuite ok, q6⟩
      | brk =>
        obtain ⟨σ6, H6, S6, q6⟩ := hsp
        exact ⟨_, _, S6.unsuite ok, q6⟩
      | cont =>
        obtain ⟨σ6, H6, S6, q6⟩ := hsp
        exact ⟨_, _, S6.unsuite ok, q6⟩
      | ret u =>
        obtain ⟨v6, σ6, H6, S6, r6, q6⟩ := hsp
        exact ⟨_, _, _, S6.unsuite ok, r6, q6⟩
    | false =>
      show wpAny _ X.A (handleBy (.ref a) X.env []) _ _ _
      refine wpAny_handleBy_nil ?_
      obtain ⟨k1, k2, k3, oe, vs, T, oT, ts', he, hz, hd, h1, hr⟩ := id fl4
      unfold PySem.passOn
      refine wpAny_bind (wpAny_field he hd h1 ?_)
      rw [if_neg (show ¬ ((Value.ref T == Value.none) = true) from by simp)]
      have fin : wpAny (model X.prog X.w) X.A (setFlight (.ref a) X.env.frame) (fun _ s4 => wpAny (model X.prog X.w) X.A (throw (.ref a) : Sem Flow) (SP X pins D) X.xe s4) X.xe { s' with heap := h3.push { cls := .type "tuple", data := .seq [v1, v2].toArray } } := by
        rw [hf]
        refine HandSPX.setFlight_upZ fl4 fun h5 hh5 up5 => wpAny_throw (tk _ _ ?_)
        exact ⟨a, B, sI, pins, σ', H', cls, d, rfl, J, nb, (upto_push (up.trans up3)).trans up5, .inr (.inr (by rw [hs]; exact hh5)), na, os, ag, hno rfl⟩
      first
        | exact wpAny_bind (wpAny_pure (wpAny_bind fin))
        | exact wpAny_bind fin
  · cases f with
    | next =>
      obtain ⟨σ', H', J', q⟩ := hsp
      exact ho.run pins s1 σ' H' D (J'.ofTry ok) q
    | brk =>
      obtain ⟨σ', H', J', q⟩ := hsp
      exact ⟨σ', H', J'.ofTry ok, q⟩
    | cont =>
      obtain ⟨σ', H', J', q⟩ := hsp
      exact ⟨σ', H', J'.ofTry ok, q⟩
    | ret u =>
      obtain ⟨v, σ', H', J', r, q⟩ := hsp
      exact ⟨v, σ', H', J'.ofTry ok, r, q⟩
end

/-- the suite and the else -/
def cTryS (b : CS) (sub : Nat → Option Bool) (s e : CS) : CS := fun env ah => match b env ah with
  | .nx env' ah' => e env' ah'
  | .exc c l env' ah' => match sub c with
    | some true => match s env' ah' with
      | .exc _ _ _ _ => .bad
      | r => r
    | some false => .exc c l env' ah'
    | none => .bad
  | r => r
def noW : WX := fun _ _ _ _ => False
section
variable {X : Cx} {t : Tb} {W : WX} {w0 : Wd} {H0 : Bs} {x x1 x2 : Str} {v v1 v2 : Value} {c1 c2 c3 : CS} {body suite orelse : List Stmt} {b₀ : Stmt} {np np1 np2 pt pos pos' : Pos} {kt : _} {sub : Nat → Option Bool}
theorem tryS_read {wish : WX → Ends → WX} (ho : ∀ Dn σ H, tS t W w0 H0 c3 Dn σ H → tS t W w0 H0 c3 Dn σ H) (Dn : Ends) (σ : L2.St) (H : Hp)
    (hw : ∀ c b, sub c = some b → ∀ σ' d H', (b = true → ∀ a, H' a = none → tS t noW w0 H0 c2 Dn σ' H') → (b = false → W (.ref (t.cl c)) d σ' H') → wish W Dn (.ref (t.cl c)) d σ' H')
    (h : tS t W w0 H0 (cTryS c1 sub c2 c3) Dn σ H) : tS t (wish W Dn) w0 H0 c1 { Dn with nx := tS t W w0 H0 c3 Dn } σ H := by
  obtain ⟨w, env, ah, s, A, E, P⟩ := h
  refine ⟨w, env, ah, s, A, E, ?_⟩
  unfold cTryS at P
  cases e : c1 env ah with
  | nx env' ah' =>
    rw [e] at P
    exact fun w' σ' H' le' s' A' E' => ⟨w', env', ah', s', A', E', PostS.up (show PostS t W w0 H0 w (c3 env' ah') Dn from P) le'⟩
  | rt d ah' => rw [e] at P; exact P
  | bk env' ah' => rw [e] at P; exact P
  | ct env' ah' => rw [e] at P; exact P
  | bad => rw [e] at P; exact P
  | exc c l env' ah' =>
    rw [e] at P
    simp only at P
    intro w' σ' d H' le' s' A' E' x'
    cases hb : sub c with
    | none => rw [hb] at P; exact False.elim P
    | some k =>
      rw [hb] at P
      refine hw c k hb σ' d H' (fun hk a na => ?_) (fun hk => ?_)
      · subst hk
        simp only at P
        refine ⟨w', env', ah', s', A', E', ?_⟩
        cases e2 : c2 env' ah' with
        | exc _ _ _ _ => rw [e2] at P; exact False.elim P
        | nx _ _ => rw [e2] at P; exact PostS.up (r := .nx _ _) P le'
        | rt _ _ => rw [e2] at P; exact PostS.up (r := .rt _ _) P le'
        | bk _ _ => rw [e2] at P; exact PostS.up (r := .bk _ _) P le'
        | ct _ _ => rw [e2] at P; exact PostS.up (r := .ct _ _) P le'
        | bad => rw [e2] at P; exact False.elim P
      · subst hk
        exact P w' σ' d H' le' s' A' E' x'
theorem noW_up {r : SRes} {w0 w : Wd} {Dn : Ends} (h : PostS t noW w0 H0 w r Dn) : PostS t noW w0 H0 w r Dn := h
theorem z_tryS (hc : Names X x v) (tk : Takes X W) (hsub : ∀ c b, sub c = some b → PySem.W.exmOne t.K (.ref (t.cl c)) v = some b)
    (hb : ∀ (W : WX) (pn : List (Addr × Obj)) (xe : Value → Shared → Prop), Takes (X.tr pn xe) W → PassesOwn (model X.prog X.w) X.A X.env xe → PSs (X.tr pn xe) body (tS t W w0 H0 c1))
    (hsu : ∀ (a : Addr) (oe : Obj) (pn : List (Addr × Obj)), PSs (X.suite a ((a, oe) :: pn)) (b₀ :: suite) (tS t noW w0 H0 c2)) (he : PSs X orelse (tS t W w0 H0 c3))
    (hK : t.K = X.K := by rfl) (hs : X.stack = X.env :: X.outer := by rfl) (hf : X.env.frame = some X.env.locals := by rfl) :
    PS X (.Try body [.ExceptHandler (some (.Name x np)) none (b₀ :: suite) pos'] orelse [] pos) (tS t W w0 H0 (cTryS c1 sub c2 c3)) := by
  refine PS.imp (ps_try_onlyE (tb := fun W => tS t W w0 H0 c1) (ts := fun _ _ _ => tS t noW w0 H0 c2) he hs hf hc tk hb fun a oe cls d pn hz hv => hsu a oe pn) fun Dn σ H h => ?_
  exact tryS_read (wish := fun W Dn => wOnly X.K v (fun _ _ _ => tS t noW w0 H0 c2) W Dn) (fun _ _ _ z => z) Dn σ H (fun c b hb σ' d H' h1 h2 => ⟨b, by rw [← hK]; exact hsub c b hb, h1, h2⟩) h
theorem z_tryT (hc : Names X x1 v1) (hc2 : Names X x2 v2) (tk : Takes X W) (hsub : ∀ c b, sub c = some b → PySem.W.exmAny t.K (.ref (t.cl c)) [v1, v2] = some b)
    (hb : ∀ (W : WX) (pn : List (Addr × Obj)) (xe : Value → Shared → Prop), Takes (X.tr pn xe) W → PassesOwn (model X.prog X.w) X.A X.env xe → PSs (X.tr pn xe) body (tS t W w0 H0 c1))
    (hsu : ∀ (a : Addr) (oe : Obj) (pn : List (Addr × Obj)), PSs (X.suite a ((a, oe) :: pn)) (b₀ :: suite) (tS t noW w0 H0 c2)) (he : PSs X orelse (tS t W w0 H0 c3))
    (hK : t.K = X.K := by rfl) (hs : X.stack = X.env :: X.outer := by rfl) (hf : X.env.frame = some X.env.locals := by rfl)
    (hst1 : starEach [.Name x1 np1, .Name x2 np2] X.env = (false, eval (.Name x1 np1) X.env) :: starEach [.Name x2 np2] X.env := by rfl) (hst2 : starEach [.Name x2 np2] X.env = (false, eval (.Name x2 np2) X.env) :: starEach [] X.env := by rfl) :
    PS X (.Try body [.ExceptHandler (some (.Tuple [.Name x1 np1, .Name x2 np2] kt pt)) none (b₀ :: suite) pos'] orelse [] pos) (tS t W w0 H0 (cTryS c1 sub c2 c3)) := by
  refine PS.imp (ps_try_tupE (tb := fun W => tS t W w0 H0 c1) (ts := fun _ _ _ => tS t noW w0 H0 c2) he hs hf hc hc2 tk hb (fun a oe cls d pn hz hv => hsu a oe pn) hst1 hst2) fun Dn σ H h => ?_
  exact tryS_read (wish := fun W Dn => wTup X.K [v1, v2] (fun _ _ _ => tS t noW w0 H0 c2) W Dn) (fun _ _ _ z => z) Dn σ H (fun c b hb σ' d H' h1 h2 => ⟨b, by rw [← hK]; exact hsub c b hb, h1, h2⟩) h
end
end G
/-! The engine, part 25: exceptions with an own __init__, raised. -/
namespace G
open PySem PySem.Spec PyProof.Rows L2
/-- W.__init__ is ValueError's -/
structure WInC (K : PySem.W.Frag) (C : Addr) : Prop where
  ga : PySem.W.specialIn K (.ref C) "__getattribute__" = some (some (.builtin "type.__getattribute__"))
  rd : PySem.W.readsIn K C (.type "type") = true
  at_ : PySem.W.findCls K (.ref C) (.type "type") "__init__" = some (.val (.builtin "ValueError.__init__"))
theorem pe_winit {X : Cx} {e : Expr} {es : List Expr} {ta : TA} {x : Str} {CW : Addr} {p1 p2 pos : Pos} {pl : Sem Bool} (T : WInC X.K CW) (hm : X.mg x = some (.ref CW)) (ha : PA X (e :: es) ta) (hg : Gl X x := by rfl) (hdb : (x == ("__debug__" : Str)) = false := by decide)
    (hc : eval (.Call (.Attribute (.Name x p1) "__init__" p2) (e :: es) [] pos) X.env = (do
      let ov ← eval (.Name x p1) X.env
      standAt p2.atName
      let (f, first) ← holding [ov] (getMethod ov "__init__" pl)
      callWith pos f first (backTo pos (starEach (e :: es) X.env)) (backToKw pos (keywordEach [] X.env))) := by rfl)
    (he : starEach (e :: es) X.env = (false, eval e X.env) :: starEach es X.env := by rfl) (hpl : (backTo pos (starEach es X.env)).any (·.1) = false := by rfl) :
    PE X (.Call (.Attribute (.Name x p1) "__init__" p2) (e :: es) [] pos) (tVeI X.K ta) := by
  refine ⟨fun pins s σ H Q I h => ?_⟩
  refine PySem.W.methodCall_KW (ld_glob I hg hm ?_ hdb) hc
  refine PySem.W.method_cls I.kIn T.ga ?_
  refine PySem.W.cls_value I.kIn T.rd T.at_ (by decide +kernel) ?_
  show wpAny _ _ (callWith pos (Value.builtin "ValueError.__init__") [] (backTo pos (starEach (e :: es) X.env)) []) _ _ _
  refine PyProof.Rows.callWith_method1 (thn (ha.run pos pins _ σ H _ (I.tok _) h) fun us s1 ⟨vs, H1, I1, r1, a, C, ws, ev, hl, T, ea, q⟩ => ?_) he hpl
  subst ev
  cases r1 with
  | @cons _ u0 _ ur ra rw' =>
    obtain rfl : u0 = Value.ref a := ra
    have hlen : ur.length ≤ sizeLine := by
      rw [← Paired.length rw', sizeLine_eq]
      omega
    exact oinit_ok T I1 ea hlen fun s' J => ⟨.non, H1, J, rfl, q⟩
/-! ### what such an __init__ keeps -/
abbrev FXI := List D → Option (List D)
def spX (t : Tb) (c : Nat) (F : FXI) (n : Nat) : Sp := fun vs H Q E => vs.length = n + 1 ∧ ∃ (p : Addr) (vr : List V) (w : Wd) (Hb : Hp) (ds : List D) (ah : AH) (l : List D), vs = .ref p :: vr ∧ Hb p = none ∧ H = upd Hb p (exo p (t.cl c) none) ∧ RelA t w ah Hb ∧ Reps t w ds vr ∧ F ds = some l ∧
  ∀ d us, Hb d = none → d ≠ p → us.length = (t.xl c).length → Reps t w l us → Q .non (upd (upd Hb d (exd d ((t.xl c).zip us))) p (exo p (t.cl c) (some d)))
theorem spX_len {t : Tb} {c : Nat} {F : FXI} {n : Nat} {ps : List Str} (h : n + 1 = ps.length) : ∀ vs H Q E, spX t c F n vs H Q E → vs.length = ps.length := fun vs H Q E q => by rw [q.1, h]
theorem upd_swap {H : Hp} {p d : Addr} {a b c e : HO} (h : d ≠ p) : upd (upd (upd H p a) d b) p c = upd (upd H d b) p c := by
  funext x
  by_cases h1 : x = p
  · rw [h1, upd_same, upd_same]
  · rw [upd_ne h1, upd_ne h1]
    by_cases h2 : x = d
    · rw [h2, upd_same, upd_same]
    · rw [upd_ne h2, upd_ne h2, upd_ne h1]
section
variable {P : Program} {w : World} {K : PySem.W.Frag} {mg : Str → Option Value} {base : Heap} {t : Tb}
def fx1 : FXI := fun ds => match ds with | [x] => some [x] | _ => none
def fx2 : FXI := fun ds => match ds with | [.tup l] => some [.tup l] | _ => none
def fx3 : FXI := fun ds => match ds with | [x, y] => some [y, x] | _ => none
theorem fx1_len {n : Nat} (h : n = 1) : ∀ ds l, fx1 ds = some l → l.length = n := fun ds l e => by
  match ds, e with
  | [x], e => cases e; rw [h]; rfl
theorem fx2_len {n : Nat} (h : n = 1) : ∀ ds l, fx2 ds = some l → l.length = n := fun ds l e => by
  match ds, e with
  | [.tup x], e => cases e; rw [h]; rfl
theorem fx3_len {n : Nat} (h : n = 2) : ∀ ds l, fx3 ds = some l → l.length = n := fun ds l e => by
  match ds, e with
  | [x, y], e => cases e; rw [h]; rfl
/-- self.f = the argument -/
theorem xread1 {cls : Nat} {f m : Str} {N : List Str} (O : OexC t.K (t.cl cls)) (hno : PySem.W.findIn t.K (.ref (t.cl cls)) f = some none) (hf : t.xl cls = [f]) {vs : List V} {H : Hp} {Q : VK} {E : XK} (h : spX t cls fx1 1 vs H Q E) :
    tSeq (tDrop (tVeI t.K (tCons (tVar 0) (tCons (tC (.str m)) tNil)))) (tOst t.K f (tVar 0) (tVar 1)) { nx := fun _ H' => Q .non H', rt := Q } (L2.start N vs) H := by
  obtain ⟨hl, p, vr, w, Hb, ds, ah, l, rfl, hp, rfl, A, r, hF, q⟩ := h
  match ds, hF with
  | [x], hF =>
    cases hF
    obtain ⟨v, rfl, rv⟩ := reps1 r
    have s0 : (L2.start N [V.ref p, v])[0]? = some (some (.ref p)) := rfl
    have s1 : (L2.start N [V.ref p, v])[1]? = some (some v) := rfl
    refine ⟨.ref p, s0, p, t.cl cls, [.str m], rfl, by simp, O, upd_same, ?_⟩
    refine ⟨v, s1, .ref p, s0, p, t.cl cls, rfl, O, hno, .inl ⟨upd_same, fun dx hdx hne => ?_⟩⟩
    have hd : Hb dx = none := by rw [upd_ne hne] at hdx; exact hdx
    have z := q dx [v] hd hne (by rw [hf]; rfl) (reps_one rv)
    rw [hf] at z
    show Q .non _
    rw [upd_swap (e := exo p (t.cl cls) none) hne]
    exact z
/-- self.f = tuple(the argument), a tuple -/
theorem xread2 {cls : Nat} {f m : Str} {N : List Str} (O : OexC t.K (t.cl cls)) (hno : PySem.W.findIn t.K (.ref (t.cl cls)) f = some none) (hf : t.xl cls = [f]) {vs : List V} {H : Hp} {Q : VK} {E : XK} (h : spX t cls fx2 1 vs H Q E) :
    tSeq (tDrop (tVeI t.K (tCons (tVar 0) (tCons (tC (.str m)) tNil)))) (tOst t.K f (tVar 0) (tCB (fun xs H Q => ∃ p ys, xs = [.ref p] ∧ ((SqL t.K H p ys ∧ ∀ l, H l = none → Q (.ref l) (upd H l (.tup ys))) ∨ (SqT t.K H p ys ∧ Q (.ref p) H))) (tCons (tVar 1) tNil))) { nx := fun _ H' => Q .non H', rt := Q } (L2.start N vs) H := by
  obtain ⟨hl, p, vr, w, Hb, ds, ah, l, rfl, hp, rfl, A, r, hF, q⟩ := h
  match ds, hF with
  | [.tup x], hF =>
    cases hF
    obtain ⟨v, rfl, rv⟩ := reps1 r
    have rv' := rv
    simp only [Rep] at rv'
    obtain ⟨b, ys, rfl, hb, _⟩ := rv'
    have s0 : (L2.start N [V.ref p, .ref b])[0]? = some (some (.ref p)) := rfl
    have s1 : (L2.start N [V.ref p, .ref b])[1]? = some (some (.ref b)) := rfl
    have sm : Same Hb (upd Hb p (exo p (t.cl cls) none)) := fun a o h => by rw [upd_ne (ne_of_none h hp)]; exact h
    refine ⟨.ref p, s0, p, t.cl cls, [.str m], rfl, by simp, O, upd_same, ?_⟩
    refine ⟨.ref b, s1, b, ys, rfl, .inr ⟨same_sqT sm (same_sqT A.sub hb), ?_⟩⟩
    refine ⟨.ref p, s0, p, t.cl cls, rfl, O, hno, .inl ⟨upd_same, fun dx hdx hne => ?_⟩⟩
    have hd : Hb dx = none := by rw [upd_ne hne] at hdx; exact hdx
    have z := q dx [.ref b] hd hne (by rw [hf]; rfl) (reps_one rv)
    rw [hf] at z
    show Q .non _
    rw [upd_swap (e := exo p (t.cl cls) none) hne]
    exact z
/-- self.f = one, self.g = the other -/
theorem xread3 {cls : Nat} {f g m : Str} {N : List Str} (O : OexC t.K (t.cl cls)) (hno : PySem.W.findIn t.K (.ref (t.cl cls)) f = some none) (hno2 : PySem.W.findIn t.K (.ref (t.cl cls)) g = some none) (hf : t.xl cls = [g, f]) {vs : List V} {H : Hp} {Q : VK} {E : XK} (h : spX t cls fx3 2 vs H Q E) :
    tSeq (tDrop (tVeI t.K (tCons (tVar 0) (tCons (tC (.str m)) tNil)))) (tSeq (tOst t.K f (tVar 0) (tVar 1)) (tOst t.K g (tVar 0) (tVar 2))) { nx := fun _ H' => Q .non H', rt := Q } (L2.start N vs) H := by
  obtain ⟨hl, p, vr, w, Hb, ds, ah, l, rfl, hp, rfl, A, r, hF, q⟩ := h
  match ds, hF with
  | [x, y], hF =>
    cases hF
    simp only [Reps] at r
    obtain ⟨v, r1, rfl, rv, u, r2, rfl, ru, rfl⟩ := r
    have s0 : (L2.start N [V.ref p, v, u])[0]? = some (some (.ref p)) := rfl
    have s1 : (L2.start N [V.ref p, v, u])[1]? = some (some v) := rfl
    have s2 : (L2.start N [V.ref p, v, u])[2]? = some (some u) := rfl
    refine ⟨.ref p, s0, p, t.cl cls, [.str m], rfl, by simp, O, upd_same, ?_⟩
    refine ⟨v, s1, .ref p, s0, p, t.cl cls, rfl, O, hno, .inl ⟨upd_same, fun dx hdx hne => ?_⟩⟩
    have hd : Hb dx = none := by rw [upd_ne hne] at hdx; exact hdx
    refine ⟨u, s2, .ref p, s0, p, t.cl cls, rfl, O, hno2, .inr ⟨dx, [(f, v)], upd_same, by rw [upd_ne hne, upd_same], by simp, ?_⟩⟩
    have rr : Reps t w [y, x] [u, v] := by
      simp only [Reps]
      exact ⟨u, [v], rfl, ru, v, [], rfl, rv, rfl⟩
    have z := q dx [u, v] hd hne (by rw [hf]; rfl) rr
    rw [hf] at z
    show Q .non _
    have e : upd (upd (upd (upd Hb p (exo p (t.cl cls) none)) dx (exd dx [(f, v)])) p (exo p (t.cl cls) (some dx))) dx (exd dx ((g, u) :: [(f, v)])) = upd (upd Hb dx (exd dx ([g, f].zip [u, v]))) p (exo p (t.cl cls) (some dx)) := by
      funext b
      by_cases h1 : b = p
      · rw [h1, upd_ne hne.symm, upd_same, upd_same]
      · rw [upd_ne (a := p) h1]
        by_cases h2 : b = dx
        · rw [h2, upd_same, upd_same]; rfl
        · rw [upd_ne h2, upd_ne h2, upd_ne h1, upd_ne h2, upd_ne h1]
    rw [e]
    exact z
theorem ok_xinit {x qual : Str} {st : Stmt} {dvs : List V} {f : Addr} {fd : FuncData} {N ps : List Str} {k cls n : Nat} {F : FXI} {TB : TS} (Fn : FunD K x qual (defArgs st) (defBody st) (defScope st) dvs [] f fd) (S : FnScope N ps (defScope st)) (hn : n + 1 = ps.length)
    (hbody : ∀ (cdv : Value) (A : Around) (outer : List Env) (s : Shared) (H : Hp) (E : XK), Room k (A.deeper (envOfC qual (defScope st) s.heap.objs.size f cdv)) → PSs (cxOf (L2.CX P w) P w K mg base N qual (defScope st) f cdv A outer s H E) (defBody st) TB)
    (hread : ∀ vs H Q E, spX t cls F n vs H Q E → TB { nx := fun _ H' => Q .non H', rt := Q } (L2.start N vs) H) : FnOk P w K mg base (L2.CX P w) (k + 1) f fd ps (spX t cls F n) :=
  Fn.ok S (spX_len hn) fun cdv A outer s H vs Q E hr hsp => ⟨TB, hbody cdv A outer s H E hr, hread vs H Q E hsp⟩
end
/-! ### raise C(..) -/
def raiseI1 (c : Nat) (F : FXI) (n : Nat) (dds : List D) (env : En) (r : Res (List D)) : SRes := SRes.of env r fun l ah1 => if (l ++ dds).length = n then match F (l ++ dds) with
  | some fs => if fs ≠ [] then .exc c fs env ah1 else .bad
  | none => .bad else .bad
def cRaiseI (c : Nat) (F : FXI) (n : Nat) (dds : List D) (a : CA) : CS := fun env ah => raiseI1 c F n dds env (a env ah)
section
variable {X : Cx} {t : Tb} {W : WX} {w0 : Wd} {H0 : Bs} {ca : CA} {e : Expr} {es : List Expr}
theorem z_raiseI (cls : Nat) {x : Str} {fI : Addr} {fd : FuncData} {ps : List Str} {F : FXI} {n : Nat} {dds : List D} {dvs : List V} {ds : List Value} {k : Nat} {p pos pos2 : Pos} (hc : X.calm = true) (tk : Takes X W) (hF : FnOk X.prog X.w X.K X.mg X.base (L2.CX X.prog X.w) k fI fd ps (spX t cls F n)) (O : OexC X.K (t.cl cls))
    (iC : PySem.W.findIn X.K (.ref (t.cl cls)) "__init__" = some (some (.ref fI))) (tI : PySem.W.typeIn X.K (.ref fI) = some (.type "function")) (hr : Room (k + 1) X.A) (hm : X.mg x = some (.ref (t.cl cls))) (hb : L2.Binds X.K fd ps ds) (hd : Vals dvs ds) (hdd : ∀ w, Reps t w dds dvs) (hnl : n ≤ 100) (hfl : ∀ ds l, F ds = some l → l.length = (t.xl cls).length) (ha : PA X (e :: es) (tAr t W H0 ca))
    (hg : Gl X x := by rfl) (hdb : (x == ("__debug__" : Str)) = false := by decide) (he : starEach (e :: es) X.env = (false, eval e X.env) :: starEach es X.env := by rfl) (hpl : (backTo pos (starEach es X.env)).any (·.1) = false := by rfl) :
    PS X (.Raise (some (.Call (.Name x p) (e :: es) [] pos)) none pos2) (tS t W w0 H0 (cRaiseI cls F n dds ca)) := by
  refine PS.imp (ps_raise hc tk (pmk_oex (CX := L2.CX X.prog X.w) O iC tI hF hr hb hd (fun pins σ H s e s' I c => by
    obtain ⟨a, B, H', cls, d, rfl, fl, hok, ub, na, os, ag, hE⟩ := c
    exact False.elim hE) hg hm ha hdb he hpl)) ?_
  rintro Dn σ H ⟨w, env, ah, s, A, E, P⟩
  refine ⟨w, env, ah, A, E, post_of s E P fun l ah1 w1 vs H1 s1 s01 A1 E1 r1 P1 => ?_⟩
  split at P1
  case isFalse => exact False.elim P1
  rename_i hn
  cases eF : F (l ++ dds) with
  | none => rw [eF] at P1; exact False.elim P1
  | some fs =>
    rw [eF] at P1
    simp only at P1
    split at P1
    case isFalse => exact False.elim P1
    rename_i hne
    have hl : vs.length ≤ n := by
      rw [← reps_len r1, ← hn, List.length_append]
      omega
    have hlv : (vs ++ dvs).length = n := by
      rw [List.length_append, ← reps_len r1, ← reps_len (hdd w1), ← List.length_append, hn]
    refine ⟨by omega, fun a na => ⟨by rw [List.length_cons, hlv], a, vs ++ dvs, w1, H1, l ++ dds, ah1, fs, rfl, na, rfl, A1, reps_append r1 (hdd w1), eF, fun d us hd hda hus ru => ⟨rfl, d, (t.xl cls).zip us, upd_same, by rw [upd_ne hda, upd_same], hd, ?_⟩⟩⟩
    have e1 : upd (del (upd (upd H1 d (exd d ((t.xl cls).zip us))) a (exo a (t.cl cls) (some d))) a) d (.xd ((t.xl cls).zip us)) = upd H1 d (.xd ((t.xl cls).zip us)) := by
      funext b
      by_cases h1 : b = d
      · rw [h1, upd_same, upd_same]
      · rw [upd_ne h1, upd_ne h1]
        by_cases h2 : b = a
        · rw [h2, del_same, na]
        · rw [del_ne h2, upd_ne h2, upd_ne h1]
    rw [e1]
    obtain ⟨s2, A2⟩ := stp_add (o := .xd ((t.xl cls).zip us)) A1 hd
    exact P1 _ σ _ _ s2.le (s01.trans s2) A2 (E1.step s2) (.inr ⟨hne, d, us, rfl, add_at, hus, Reps.mono s2.le _ ru⟩)
end
/-! ### running rules -/
section
variable {env : En} {ah ah' : AH} {a : CA} {x : CE} {d : D} {l fs dds : List D} {n c e : Nat} {F : FXI} {b s r : CS} {sub : Nat → Option Bool}
theorem ev_raiseI : cRaiseI c F n dds a env ah = raiseI1 c F n dds env (a env ah) := rfl
theorem raiseI1_ok (h1 : (l ++ dds).length = n) (h2 : F (l ++ dds) = some fs) (h3 : fs ≠ []) : raiseI1 c F n dds env (.ok l ah) = .exc c fs env ah := by
  unfold raiseI1
  simp only [of_ok, h1, h2, if_true, if_pos h3]
theorem raiseI1_exc : raiseI1 c F n dds env (.exc e l ah) = .exc e l env ah := rfl
def tryS1 (sub : Nat → Option Bool) (s r : CS) (z : SRes) : SRes := match z with
  | .nx env' ah' => r env' ah'
  | .exc c l env' ah' => match sub c with
    | some true => match s env' ah' with
      | .exc _ _ _ _ => .bad
      | r => r
    | some false => .exc c l env' ah'
    | none => .bad
  | z => z
theorem ev_tryS : cTryS b sub s r env ah = tryS1 sub s r (b env ah) := rfl
theorem tryS1_nx : tryS1 sub s r (.nx env ah) = r env ah := rfl
theorem tryS1_rt : tryS1 sub s r (.rt d ah) = .rt d ah := rfl
theorem tryS1_exc {z : SRes} (h : sub e = some true) (hz : s env ah = z) (hn : ∀ c l en a, z ≠ .exc c l en a) : tryS1 sub s r (.exc e l env ah) = z := by
  unfold tryS1
  simp only [h, hz]
theorem ev_fldX {fl : Nat → List Str} {f : Str} : cFldX fl f x env ah = un1 (fun _ => fldX fl f) (x env ah) := rfl
theorem fldX_at {fl : Nat → List Str} {f : Str} {i : Nat} (h : flIx (fl c) f = some i) (h2 : l[i]? = some d) : fldX fl f (.exc c l) = some d := by
  unfold fldX
  simp only [h, Option.bind_some, h2]
end
end G
/-! ### packages -/
namespace G
open PySem PySem.Spec PyProof.Rows L2
theorem winB_at {K : PySem.W.Frag} {C : Addr} (q : winB K C = true) : PySem.W.findCls K (.ref C) (.type "type") "__init__" = some (.val (.builtin "ValueError.__init__")) := by
  unfold winB at q
  split at q
  · rename_i n e
    rw [e, eq_of_beq q]
  · cases q
theorem oexB_cls {K : PySem.W.Frag} {C : Addr} (q : oexB K C = true) : ∃ nm q N bs bm sn sub ab col dd k0 k1 k2 k3 k5, K.lookup C = some (excClassObj nm q C N bs bm true sn sub ab col dd k0 k1 k2 k3 k5 "ValueError.__new__") ∧ PySem.HandSPX.refsVE bm = true := by
  unfold oexB at q
  split at q
  · rename_i dd cd sl ho
    split at q
    · rename_i C' bm k0 k1 k2 k3 n k5 hm hs
      simp only [Bool.and_eq_true, beq_iff_eq, Bool.not_eq_true'] at q
      obtain ⟨⟨⟨⟨rfl, rfl⟩, hdel⟩, hr⟩, hdct⟩ := q
      obtain ⟨nm, bs, mro, ns, qn, hd, sn, sub, ab, col, del⟩ := cd
      dsimp only at hm hdel hdct
      subst hm hdel hdct
      have hsl : sl = #[k0, k1, k2, k3, some (.builtin "ValueError.__new__"), k5] := by
        obtain ⟨l⟩ := sl
        simp only at hs
        rw [hs]
      subst hsl
      exact ⟨nm, qn, ns, bs, bm, sn, sub, ab, col, dd, k0, k1, k2, k3, k5, ho, hr⟩
    · cases q
  · cases q
structure XOk (P : Program) (w : World) (K : PySem.W.Frag) (mg : Str → Option Value) (base : Heap) (t : Tb) (k : Nat) (x : Str) (cls : Nat) (F : FXI) (n : Nat) (dds : List D) : Prop where
  ex : ∃ (fI : Addr) (fd : FuncData) (ps : List Str) (ds : List Value) (dvs : List V), FnOk P w K mg base (L2.CX P w) k fI fd ps (spX t cls F n) ∧ OexC K (t.cl cls) ∧ PySem.W.findIn K (.ref (t.cl cls)) "__init__" = some (some (.ref fI)) ∧ PySem.W.typeIn K (.ref fI) = some (.type "function") ∧
    mg x = some (.ref (t.cl cls)) ∧ L2.Binds K fd ps ds ∧ Vals dvs ds ∧ dds.map scD = dvs.map some
section
variable {X : Cx} {t : Tb} {W : WX} {w0 : Wd} {H0 : Bs} {ca : CA} {e : Expr} {es : List Expr}
theorem z_raiseX (cls : Nat) {x : Str} {F : FXI} {n : Nat} {dds : List D} {k : Nat} {p pos pos2 : Pos} (hc : X.calm = true) (hF : XOk X.prog X.w X.K X.mg X.base t k x cls F n dds) (hfl : ∀ ds l, F ds = some l → l.length = (t.xl cls).length) (hr : Room (k + 1) X.A) (tk : Takes X W) (ha : PA X (e :: es) (tAr t W H0 ca)) (hnl : n ≤ 100 := by decide)
    (hg : Gl X x := by rfl) (hdb : (x == ("__debug__" : Str)) = false := by decide) (he : starEach (e :: es) X.env = (false, eval e X.env) :: starEach es X.env := by rfl) (hpl : (backTo pos (starEach es X.env)).any (·.1) = false := by rfl) :
    PS X (.Raise (some (.Call (.Name x p) (e :: es) [] pos)) none pos2) (tS t W w0 H0 (cRaiseI cls F n dds ca)) := by
  obtain ⟨fI, fd, ps, ds, dvs, h1, h2, h3, h4, h5, h6, h7, h8⟩ := hF.ex
  exact z_raiseI cls hc tk h1 h2 h3 h4 hr h5 h6 h7 (fun w => scD_reps h8) hnl hfl ha hg hdb he hpl
end
end G
/-! The engine, part 53: exceptions made as values; tuple(x) of a list of the store. -/
namespace G
open PySem PySem.Spec PyProof.Rows L2
/-! ### tuple(x), x a list of the store, too -/
def tupAD : FL := fun ah l => match l with
  | [.ref n] => (lstAt ah n).map D.tup
  | l => tupD ah l
section
variable {X : Cx} {t : Tb}
theorem cs_tupleA (hK : t.K = X.K := by rfl) : CallS t tupAD (fun xs H Q => ∃ p ys, xs = [.ref p] ∧ ((SqL X.K H p ys ∧ ∀ l, H l = none → Q (.ref l) (upd H l (.tup ys))) ∨ (SqT X.K H p ys ∧ Q (.ref p) H))) := by
  intro w ah H l d vs Q A r e q
  unfold tupAD at e
  split at e
  · rename_i n
    cases hn : lstAt ah n with
    | none => rw [hn] at e; cases e
    | some m =>
      rw [hn] at e
      cases e
      obtain ⟨v, rfl, r1⟩ := reps1 r
      simp only [Rep] at r1
      obtain ⟨p, rfl, hρ⟩ := r1
      obtain ⟨_, us, h1, h2⟩ := A.obj n _ p (lstAt_some hn) hρ
      refine ⟨p, us, rfl, .inl ⟨SqL.of h1, fun z hz => ?_⟩⟩
      obtain ⟨s, A'⟩ := stp_add (o := .tup us) A hz
      refine q _ _ _ s A' ?_
      simp only [Rep]
      exact ⟨z, us, rfl, SqT.of add_at, Reps.mono s.le _ h2⟩
  · exact cs_tuple hK w ah H _ d vs Q A r e q
end
theorem tupA_ref {ah : AH} {n : Nat} {l : List D} (h : ah[n]? = some (.lst l)) : tupAD ah [.ref n] = some (.tup l) := by
  unfold tupAD lstAt
  simp only [h, Option.map_some]
theorem tupA_t {ah : AH} {l : List D} : tupAD ah [.tup l] = some (.tup l) := rfl
theorem tupA_s {ah : AH} {l : List D} : tupAD ah [.scr l] = some (.tup l) := rfl
theorem tupA_l {ah : AH} {l : List D} : tupAD ah [.lst l] = some (.tup l) := rfl

/-! ### str(None) -/
theorem call_str_non {X : Cx} : CallR X (.type "str") (fun xs H Q => xs = [.non] ∧ Q (.str "None") H) := by
  intro pins s σ H xs us Q I r h
  obtain ⟨rfl, q⟩ := h
  obtain ⟨u, rfl, rfl⟩ := vals1 r
  exact PySem.P.str_of_none ⟨.str "None", H, I.tok _, ⟨_, rfl⟩, q⟩
def strAD : FL := fun ah l => match l with
  | [.non] => some (.str "None")
  | l => strD ah l
theorem call_strB {X : Cx} : CallR X (.type "str") (fun xs H Q => (xs = [.non] ∧ Q (.str "None") H) ∨ ((∃ i, xs = [.int i] ∧ i.natAbs.log2 < 1920 ∧ Q (.str (toString i)) H) ∨ ∃ a, xs = [.str a] ∧ Q (.str a) H)) := call_str_non.or call_strA
section
variable {t : Tb}
theorem cs_strA : CallS t strAD (fun xs H Q => (xs = [.non] ∧ Q (.str "None") H) ∨ ((∃ i, xs = [.int i] ∧ i.natAbs.log2 < 1920 ∧ Q (.str (toString i)) H) ∨ ∃ a, xs = [.str a] ∧ Q (.str a) H)) := by
  intro w ah H l d vs Q A r e q
  unfold strAD at e
  split at e
  · obtain ⟨v, rfl, r1⟩ := reps1 r
    simp only [Rep] at r1
    subst r1
    cases e
    exact .inl ⟨rfl, fin0 A q (by simp only [Rep])⟩
  · exact .inr (cs_str w ah H _ d vs Q A r e q)
end
theorem strA_n {ah : AH} : strAD ah [.non] = some (.str "None") := rfl
theorem strA_s {ah : AH} {v : Str} : strAD ah [.str v] = some (.str v) := rfl
/-! ### an exception as a value -/
theorem exK_ok {P : Program} {w : World} {H : Hp} {h : Heap} {a : Addr} {cls : Value} {d : Option Addr} {oe : Obj} {vs : Array Value} (e : h.get? a = some oe) (z : Zc cls d oe) (hd : oe.data = .fields vs) : ObjOk P w H h a (ExcK cls d a) :=
  ⟨⟨oe, vs, e, z, hd⟩, ⟨oe, e⟩, fun _ _ ⟨o, v, q, r⟩ k => ⟨o, v, k o q, r⟩⟩
theorem pe_of_pmk {X : Cx} {e : Expr} {tm : L2.St → Hp → XK → Prop} (h : PMk X e tm) : PE X e (fun σ H Q => tm σ H fun cls d H' => ∀ a, H' a = none → Q (.ref a) (upd H' a (ExcK cls d a))) := by
  refine ⟨fun pins s σ H Q I q => wpAny_mono (h pins s σ H _ I q) (fun u s1 hu => ?_) fun _ _ x => x⟩
  obtain ⟨a, oe, vs, sI, H', cls, d, rfl, J, k, hne, ha, hz, hd, h1, na, os, ag, r, q⟩ := hu
  refine ⟨.ref a, upd H' a (ExcK cls d a), ?_, rfl, q a na⟩
  exact J.call' (ch := []) os (Un.laidN k hne na) (J.hok.laidN k na (exK_ok ha hz hd)) ag (fun b hb => absurd hb (by simp))
/-- C("a text"), a class without own __init__ -/
def cMkE (c : Nat) : CE := fun _ ah => .ok (.exc c []) ah
/-- C(..), a class whose __init__ keeps fields -/
def mkX1 (c : Nat) (F : AH → FXI) (n : Nat) (dds : List D) (r : Res (List D)) : Res D := r.bind fun l ah1 => if (l ++ dds).length = n then match F ah1 (l ++ dds) with
  | some fs => if fs ≠ [] then .ok (.exc c fs) ah1 else .bad
  | none => .bad else .bad
def cMkX (c : Nat) (F : AH → FXI) (n : Nat) (dds : List D) (a : CA) : CE := fun env ah => mkX1 c F n dds (a env ah)
section
variable {X : Cx} {t : Tb} {W : WX} {w0 : Wd} {H0 : Bs} {ca : CA} {e : Expr} {es : List Expr}
theorem q_mkE (c : Nat) {x m : Str} {B newId initId : String} {bmB : List Value} {j : Nat} {p p2 pos : Pos} (F : ExcBaseFacts B newId initId bmB) (q : PySem.W.excIn X.K (t.cl c) bmB newId = true) (gC : X.mg x = some (.ref (t.cl c))) (kC : PySem.W.keepIn X.K (.ref (t.cl c)) = true)
    (h1 : PySem.W.subIn X.K (.ref (t.cl c)) (.type "BaseException") = some true) (h2 : PySem.W.typeIn X.K (.ref (t.cl c)) = some (.type "type")) (hg : Gl X x := by rfl) (hdb : (x == ("__debug__" : Str)) = false := by decide) :
    PE X (.Call (.Name x p) [.Constant (.str m) j p2] [] pos) (tE t W H0 (cMkE c)) := by
  refine PE.imp (pe_of_pmk (pmk_own F q gC kC (raises_own h1 h2) hg hdb)) ?_
  rintro σ H Q ⟨w, env, ah, A, E, P⟩ a na
  obtain ⟨s2, A2⟩ := stp_add (o := ExcK (.ref (t.cl c)) none a) A na
  refine P _ _ _ s2 A2 ?_
  simp only [Rep]
  exact ⟨a, none, rfl, add_at, .inl ⟨True.intro, rfl⟩⟩
/-- the heap that an __init__ leaves, read as an exception that is kept -/
theorem del_xd {H1 : Hp} {a d C : Addr} {fs : List (Str × V)} (na : H1 a = none) (hda : d ≠ a) : upd (del (upd (upd H1 d (exd d fs)) a (exo a C (some d))) a) d (.xd fs) = upd H1 d (.xd fs) := by
  funext b
  by_cases h1 : b = d
  · rw [h1, upd_same, upd_same]
  · rw [upd_ne h1, upd_ne h1]
    by_cases h2 : b = a
    · rw [h2, del_same, na]
    · rw [del_ne h2, upd_ne h2, upd_ne h1]
theorem q_mkX (cls : Nat) {x : Str} {F : FXI} {n : Nat} {dds : List D} {k : Nat} {p pos : Pos} (hF : XOk X.prog X.w X.K X.mg X.base t k x cls F n dds) (hfl : ∀ ds l, F ds = some l → l.length = (t.xl cls).length) (hr : Room (k + 1) X.A) (ha : PA X (e :: es) (tAr t W H0 ca)) (hnl : n ≤ 100 := by decide)
    (hg : Gl X x := by rfl) (hdb : (x == ("__debug__" : Str)) = false := by decide) (he : starEach (e :: es) X.env = (false, eval e X.env) :: starEach es X.env := by rfl) (hpl : (backTo pos (starEach es X.env)).any (·.1) = false := by rfl) :
    PE X (.Call (.Name x p) (e :: es) [] pos) (tE t W H0 (cMkX cls (fun _ => F) n dds ca)) := by
  obtain ⟨fI, fd, ps, ds, dvs, hF, O, iC, tI, hm, hb, hd, h8⟩ := hF.ex
  have hdd : ∀ w, Reps t w dds dvs := fun w => scD_reps h8
  refine PE.imp (pe_of_pmk (pmk_oex (CX := L2.CX X.prog X.w) O iC tI hF hr hb hd (fun pins σ H s e s' I c => by
    obtain ⟨a, B, H', cls, d, rfl, fl, hok, ub, na, os, ag, hE⟩ := c
    exact False.elim hE) hg hm ha hdb he hpl)) ?_
  rintro σ H Q ⟨w, env, ah, A, E, P⟩
  refine ⟨w, env, ah, A, E, post_bind P fun l ah1 w1 vs H1 s1 A1 r1 P1 => ?_⟩
  split at P1
  case isFalse => exact False.elim P1
  rename_i hn
  simp only at P1
  cases eF : F (l ++ dds) with
  | none => rw [eF] at P1; exact False.elim P1
  | some fs =>
    rw [eF] at P1
    simp only at P1
    split at P1
    case isFalse => exact False.elim P1
    rename_i hne
    have hl : vs.length ≤ n := by
      rw [← reps_len r1, ← hn, List.length_append]
      omega
    have hlv : (vs ++ dvs).length = n := by
      rw [List.length_append, ← reps_len r1, ← reps_len (hdd w1), ← List.length_append, hn]
    refine ⟨by omega, fun a na => ⟨by rw [List.length_cons, hlv], a, vs ++ dvs, w1, H1, l ++ dds, ah1, fs, rfl, na, rfl, A1, reps_append r1 (hdd w1), eF, fun d us hd hda hus ru => ⟨rfl, d, (t.xl cls).zip us, upd_same, by rw [upd_ne hda, upd_same], hd, ?_⟩⟩⟩
    rw [del_xd na hda]
    intro a2 na2
    obtain ⟨s2, A2⟩ := stp_add (o := .xd ((t.xl cls).zip us)) A1 hd
    obtain ⟨s3, A3⟩ := stp_add (o := ExcK (.ref (t.cl cls)) (some d) a2) A2 na2
    refine P1 _ _ _ (s2.trans s3) A3 ?_
    simp only [Rep]
    exact ⟨a2, some d, rfl, add_at, .inr ⟨hne, d, us, rfl, s3.le.hf _ _ add_at, hus, Reps.mono (s2.trans s3).le _ ru⟩⟩
end
/-! ### an __init__ that reads the store -/
def spXA (t : Tb) (c : Nat) (F : AH → FXI) (n : Nat) : Sp := fun vs H Q E => vs.length = n + 1 ∧ ∃ (p : Addr) (vr : List V) (w : Wd) (Hb : Hp) (ds : List D) (ah : AH) (l : List D), vs = .ref p :: vr ∧ Hb p = none ∧ H = upd Hb p (exo p (t.cl c) none) ∧ RelA t w ah Hb ∧ Reps t w ds vr ∧ F ah ds = some l ∧
  ∀ w' Hb', Stp w Hb w' Hb' → RelA t w' ah Hb' → ∀ d us, Hb d = none → Hb' d = none → Hb' p = none → d ≠ p → us.length = (t.xl c).length → Reps t w' l us → Q .non (upd (upd Hb' d (exd d ((t.xl c).zip us))) p (exo p (t.cl c) (some d)))
theorem spXA_len {t : Tb} {c : Nat} {F : AH → FXI} {n : Nat} {ps : List Str} (h : n + 1 = ps.length) : ∀ vs H Q E, spXA t c F n vs H Q E → vs.length = ps.length := fun vs H Q E q => by rw [q.1, h]
def fx2A : AH → FXI := fun ah ds => match ds with
  | [x] => (tupAD ah [x]).map fun y => [y]
  | _ => none
theorem fx2A_len {n : Nat} (h : n = 1) : ∀ ah ds l, fx2A ah ds = some l → l.length = n := fun ah ds l e => by
  match ds, e with
  | [x], e =>
    unfold fx2A at e
    simp only at e
    cases q : tupAD ah [x] with
    | none => rw [q] at e; cases e
    | some y => rw [q] at e; cases e; rw [h]; rfl
theorem tupA_cases {t : Tb} {w : Wd} {ah : AH} {H : Hp} {x y : D} {v : V} (A : RelA t w ah H) (r : Rep t w x v) (e : tupAD ah [x] = some y) :
    ∃ b ys m, v = .ref b ∧ y = .tup m ∧ Reps t w m ys ∧ (SqL t.K H b ys ∨ (SqT t.K H b ys ∧ x = .tup m)) := by
  unfold tupAD at e
  split at e
  · rename_i n hx
    cases hx
    cases hn : lstAt ah n with
    | none => rw [hn] at e; cases e
    | some m =>
      rw [hn] at e
      cases e
      simp only [Rep] at r
      obtain ⟨p, rfl, hρ⟩ := r
      obtain ⟨_, us, h1, h2⟩ := A.obj n _ p (lstAt_some hn) hρ
      exact ⟨p, us, m, rfl, rfl, h2, .inl (SqL.of h1)⟩
  · unfold tupD at e
    split at e
    · rename_i hx
      cases hx
      cases e
      simp only [Rep] at r
      obtain ⟨p, us, rfl, h1, h2⟩ := r
      exact ⟨p, us, _, rfl, rfl, h2, .inl (SqL.of (A.sub _ _ h1))⟩
    · rename_i hx
      cases hx
      cases e
      simp only [Rep] at r
      obtain ⟨p, us, rfl, h1, h2⟩ := r
      exact ⟨p, us, _, rfl, rfl, h2, .inl (A.sub.seq h1)⟩
    · rename_i hx
      cases hx
      cases e
      simp only [Rep] at r
      obtain ⟨p, us, rfl, h1, h2⟩ := r
      exact ⟨p, us, _, rfl, rfl, h2, .inr ⟨same_sqT A.sub h1, rfl⟩⟩
    · cases e
section
variable {P : Program} {w : World} {K : PySem.W.Frag} {mg : Str → Option Value} {base : Heap} {t : Tb}
/-- self.f = tuple(the argument), which a list of the store may be -/
theorem xread2A {cls : Nat} {f m : Str} {N : List Str} (O : OexC t.K (t.cl cls)) (hno : PySem.W.findIn t.K (.ref (t.cl cls)) f = some none) (hf : t.xl cls = [f]) {vs : List V} {H : Hp} {Q : VK} {E : XK} (h : spXA t cls fx2A 1 vs H Q E) :
    tSeq (tDrop (tVeI t.K (tCons (tVar 0) (tCons (tC (.str m)) tNil)))) (tOst t.K f (tVar 0) (tCB (fun xs H Q => ∃ p ys, xs = [.ref p] ∧ ((SqL t.K H p ys ∧ ∀ l, H l = none → Q (.ref l) (upd H l (.tup ys))) ∨ (SqT t.K H p ys ∧ Q (.ref p) H))) (tCons (tVar 1) tNil))) { nx := fun _ H' => Q .non H', rt := Q } (L2.start N vs) H := by
  obtain ⟨hl, p, vr, w, Hb, ds, ah, l, rfl, hp, rfl, A, r, hF, q⟩ := h
  have sm : Same Hb (upd Hb p (exo p (t.cl cls) none)) := fun a o h => by rw [upd_ne (ne_of_none h hp)]; exact h
  match ds, hF with
  | [x], hF =>
    unfold fx2A at hF
    simp only at hF
    cases hx2 : tupAD ah [x] with
    | none => rw [hx2] at hF; cases hF
    | some y =>
      rw [hx2] at hF
      cases hF
      obtain ⟨v, rfl, rv⟩ := reps1 r
      obtain ⟨b, ys, m', rfl, rfl, rm, hs⟩ := tupA_cases A rv hx2
      have s0 : (L2.start N [V.ref p, .ref b])[0]? = some (some (.ref p)) := rfl
      have s1 : (L2.start N [V.ref p, .ref b])[1]? = some (some (.ref b)) := rfl
      refine ⟨.ref p, s0, p, t.cl cls, [.str m], rfl, by simp, O, upd_same, ?_⟩
      rcases hs with hs | ⟨hs, rfl⟩
      · refine ⟨.ref b, s1, b, ys, rfl, .inl ⟨sm.seq hs, fun z hz => ?_⟩⟩
        have zp : z ≠ p := fun e => by rw [e, upd_same] at hz; cases hz
        have hz' : Hb z = none := by rw [upd_ne zp] at hz; exact hz
        refine ⟨.ref p, s0, p, t.cl cls, rfl, O, hno, .inl ⟨by rw [upd_ne (Ne.symm zp), upd_same], fun dx hdx hne => ?_⟩⟩
        have dz : dx ≠ z := fun e => by rw [e, upd_same] at hdx; cases hdx
        have hd1 : Hb dx = none := by rw [upd_ne dz, upd_ne hne] at hdx; exact hdx
        obtain ⟨s2, A2⟩ := stp_add (o := .tup ys) A hz'
        have k := q _ _ s2 A2 dx [.ref z] hd1 (by rw [upd_ne dz]; exact hd1) (by rw [upd_ne (Ne.symm zp)]; exact hp) hne (by rw [hf]; rfl) (reps_one (by
          simp only [Rep]
          exact ⟨z, ys, rfl, SqT.of add_at, Reps.mono s2.le _ rm⟩))
        rw [hf] at k
        show Q .non _
        have e1 : upd (upd (upd (upd Hb p (exo p (t.cl cls) none)) z (.tup ys)) dx (exd dx [(f, .ref z)])) p (exo p (t.cl cls) (some dx)) = upd (upd (upd Hb z (.tup ys)) dx (exd dx ([f].zip [V.ref z]))) p (exo p (t.cl cls) (some dx)) := by
          funext c
          by_cases h1 : c = p
          · rw [h1, upd_same, upd_same]
          · rw [upd_ne h1, upd_ne h1]
            by_cases h2 : c = dx
            · rw [h2, upd_same, upd_same]; rfl
            · rw [upd_ne h2, upd_ne h2]
              by_cases h3 : c = z
              · rw [h3, upd_same, upd_same]
              · rw [upd_ne h3, upd_ne h3, upd_ne h1]
        rw [e1]
        exact k
      · refine ⟨.ref b, s1, b, ys, rfl, .inr ⟨same_sqT sm hs, ?_⟩⟩
        refine ⟨.ref p, s0, p, t.cl cls, rfl, O, hno, .inl ⟨upd_same, fun dx hdx hne => ?_⟩⟩
        have hd : Hb dx = none := by rw [upd_ne hne] at hdx; exact hdx
        have z := q _ _ (Stp.refl w Hb) A dx [.ref b] hd hd hp hne (by rw [hf]; rfl) (reps_one rv)
        rw [hf] at z
        show Q .non _
        rw [upd_swap (e := exo p (t.cl cls) none) hne]
        exact z
theorem ok_xinitA {x qual : Str} {st : Stmt} {dvs : List V} {f : Addr} {fd : FuncData} {N ps : List Str} {k cls n : Nat} {F : AH → FXI} {TB : TS} (Fn : FunD K x qual (defArgs st) (defBody st) (defScope st) dvs [] f fd) (S : FnScope N ps (defScope st)) (hn : n + 1 = ps.length)
    (hbody : ∀ (cdv : Value) (A : Around) (outer : List Env) (s : Shared) (H : Hp) (E : XK), Room k (A.deeper (envOfC qual (defScope st) s.heap.objs.size f cdv)) → PSs (cxOf (L2.CX P w) P w K mg base N qual (defScope st) f cdv A outer s H E) (defBody st) TB)
    (hread : ∀ vs H Q E, spXA t cls F n vs H Q E → TB { nx := fun _ H' => Q .non H', rt := Q } (L2.start N vs) H) : FnOk P w K mg base (L2.CX P w) (k + 1) f fd ps (spXA t cls F n) :=
  Fn.ok S (spXA_len hn) fun cdv A outer s H vs Q E hr hsp => ⟨TB, hbody cdv A outer s H E hr, hread vs H Q E hsp⟩
end
structure XOkA (P : Program) (w : World) (K : PySem.W.Frag) (mg : Str → Option Value) (base : Heap) (t : Tb) (k : Nat) (x : Str) (cls : Nat) (F : AH → FXI) (n : Nat) (dds : List D) : Prop where
  ex : ∃ (fI : Addr) (fd : FuncData) (ps : List Str) (ds : List Value) (dvs : List V), FnOk P w K mg base (L2.CX P w) k fI fd ps (spXA t cls F n) ∧ OexC K (t.cl cls) ∧ PySem.W.findIn K (.ref (t.cl cls)) "__init__" = some (some (.ref fI)) ∧ PySem.W.typeIn K (.ref fI) = some (.type "function") ∧
    mg x = some (.ref (t.cl cls)) ∧ L2.Binds K fd ps ds ∧ Vals dvs ds ∧ dds.map scD = dvs.map some
section
variable {X : Cx} {t : Tb} {W : WX} {w0 : Wd} {H0 : Bs} {ca : CA} {e : Expr} {es : List Expr}
theorem q_mkXA (cls : Nat) {x : Str} {F : AH → FXI} {n : Nat} {dds : List D} {k : Nat} {p pos : Pos} (hF : XOkA X.prog X.w X.K X.mg X.base t k x cls F n dds) (hfl : ∀ ah ds l, F ah ds = some l → l.length = (t.xl cls).length) (hr : Room (k + 1) X.A) (ha : PA X (e :: es) (tAr t W H0 ca)) (hnl : n ≤ 100 := by decide)
    (hg : Gl X x := by rfl) (hdb : (x == ("__debug__" : Str)) = false := by decide) (he : starEach (e :: es) X.env = (false, eval e X.env) :: starEach es X.env := by rfl) (hpl : (backTo pos (starEach es X.env)).any (·.1) = false := by rfl) :
    PE X (.Call (.Name x p) (e :: es) [] pos) (tE t W H0 (cMkX cls F n dds ca)) := by
  obtain ⟨fI, fd, ps, ds, dvs, hF, O, iC, tI, hm, hb, hd, h8⟩ := hF.ex
  have hdd : ∀ w, Reps t w dds dvs := fun w => scD_reps h8
  refine PE.imp (pe_of_pmk (pmk_oex (CX := L2.CX X.prog X.w) O iC tI hF hr hb hd (fun pins σ H s e s' I c => by
    obtain ⟨a, B, H', cls, d, rfl, fl, hok, ub, na, os, ag, hE⟩ := c
    exact False.elim hE) hg hm ha hdb he hpl)) ?_
  rintro σ H Q ⟨w, env, ah, A, E, P⟩
  refine ⟨w, env, ah, A, E, post_bind P fun l ah1 w1 vs H1 s1 A1 r1 P1 => ?_⟩
  split at P1
  case isFalse => exact False.elim P1
  rename_i hn
  cases eF : F ah1 (l ++ dds) with
  | none => rw [eF] at P1; exact False.elim P1
  | some fs =>
    rw [eF] at P1
    simp only at P1
    split at P1
    case isFalse => exact False.elim P1
    rename_i hne
    have hl : vs.length ≤ n := by
      rw [← reps_len r1, ← hn, List.length_append]
      omega
    have hlv : (vs ++ dvs).length = n := by
      rw [List.length_append, ← reps_len r1, ← reps_len (hdd w1), ← List.length_append, hn]
    refine ⟨by omega, fun a na => ⟨by rw [List.length_cons, hlv], a, vs ++ dvs, w1, H1, l ++ dds, ah1, fs, rfl, na, rfl, A1, reps_append r1 (hdd w1), eF, fun w2 H2 s2 A2 d us hd0 hd ha2 hda hus ru => ⟨rfl, d, (t.xl cls).zip us, upd_same, by rw [upd_ne hda, upd_same], hd0, ?_⟩⟩⟩
    rw [del_xd ha2 hda]
    intro a2 na2
    obtain ⟨s3, A3⟩ := stp_add (o := .xd ((t.xl cls).zip us)) A2 hd
    obtain ⟨s4, A4⟩ := stp_add (o := ExcK (.ref (t.cl cls)) (some d) a2) A3 na2
    refine P1 _ _ _ (s2.trans (s3.trans s4)) A4 ?_
    simp only [Rep]
    exact ⟨a2, some d, rfl, add_at, .inr ⟨hne, d, us, rfl, s4.le.hf _ _ add_at, hus, Reps.mono (s3.trans s4).le _ ru⟩⟩
end
/-! ### running rules -/
section
variable {env : En} {ah ah' : AH} {a : CA} {l fs dds : List D} {n c e : Nat} {F : AH → FXI}
theorem ev_mkE : cMkE c env ah = .ok (.exc c []) ah := rfl
theorem ev_mkX : cMkX c F n dds a env ah = mkX1 c F n dds (a env ah) := rfl
theorem mkX1_ok (h1 : (l ++ dds).length = n) (h2 : F ah (l ++ dds) = some fs) (h3 : fs ≠ []) : mkX1 c F n dds (.ok l ah) = .ok (.exc c fs) ah := by
  unfold mkX1
  show (if _ then _ else _) = _
  simp only [h1, h2, if_true, if_pos h3]
theorem mkX1_3 {x y : D} : mkX1 c (fun _ => fx3) 2 [] (.ok [x, y] ah) = .ok (.exc c [y, x]) ah := rfl
theorem mkX1_31 {x z : D} : mkX1 c (fun _ => fx3) 2 [z] (.ok [x] ah) = .ok (.exc c [z, x]) ah := rfl
theorem mkX1_1 {x : D} : mkX1 c (fun _ => fx1) 1 [] (.ok [x] ah) = .ok (.exc c [x]) ah := rfl
theorem mkX1_2 {x y : D} (h : tupAD ah [x] = some y) : mkX1 c fx2A 1 [] (.ok [x] ah) = .ok (.exc c [y]) ah := by
  refine mkX1_ok rfl ?_ (by simp)
  show (tupAD ah [x]).map _ = _
  rw [h]
  rfl
end
end G
/-! The engine, part 26: for over reversed(..). -/
namespace G
open PySem PySem.Spec PyProof.Rows L2
section
variable {t : Tb}
theorem rev_get {α : Type} {l : List α} {i : Nat} (h : i < l.length) : l.reverse[i]? = l[l.length - 1 - i]? := by
  rw [List.getElem?_reverse h]
theorem wlk_rev {w : Wd} {K : PySem.W.Frag} {l : List D} {a : Addr} {vs : List V} (h : SqL K w.Hf a vs) (r : Reps t w l vs) : Wlk t w l.reverse (Itv K a vs.length) := by
  refine ⟨fun H => SqL K H a vs, fun i H x H' => H' = H ∧ vs[vs.length - 1 - i]? = some x, ?_, fun w' ah H le A => (le.hf.trans A.sub).seq h, fun w' ah H i x H' le A hi y => ?_⟩
  · rw [List.length_reverse, reps_len r]
    exact walk_rev
  · obtain ⟨e, y⟩ := y
    subst e
    obtain ⟨d, h1, h2⟩ := reps_getv r y
    rw [List.length_reverse] at hi
    exact ⟨w', d, Stp.refl _ _, A, by rw [rev_get hi, reps_len r]; exact h1, Rep.mono le d h2⟩
theorem wlk_revT {w : Wd} {K : PySem.W.Frag} {l : List D} {a : Addr} {vs : List V} (h : SqT K w.Hf a vs) (r : Reps t w l vs) : Wlk t w l.reverse (RT.ItvT K a vs.length) := by
  refine ⟨fun H => SqT K H a vs, fun i H x H' => H' = H ∧ vs[vs.length - 1 - i]? = some x, ?_, fun w' ah H le A => same_sqT (le.hf.trans A.sub) h, fun w' ah H i x H' le A hi y => ?_⟩
  · rw [List.length_reverse, reps_len r]
    exact ⟨fun i _ hi q => ⟨hi, vs, vs[vs.length - 1 - i]'(by omega), q, by simp [show vs.length - 1 - i < vs.length by omega]⟩, fun _ _ => Nat.le_refl _, fun _ _ _ _ _ q y => ⟨y.1, y.2 vs q⟩⟩
  · obtain ⟨e, y⟩ := y
    subst e
    obtain ⟨d, h1, h2⟩ := reps_getv r y
    rw [List.length_reverse] at hi
    exact ⟨w', d, Stp.refl _ _, A, by rw [rev_get hi, reps_len r]; exact h1, Rep.mono le d h2⟩
theorem wlk_rngC {w : Wd} {lo : Int} {n : Nat} : Wlk t w (rngD lo n).reverse (Itc (lo + (n : Int) - 1) (-1) n) := by
  refine ⟨fun _ => True, YFn fun i => .int (lo + (n : Int) - 1 + (i : Nat) * (-1)), ?_, fun _ _ _ _ _ => trivial, fun w' ah H i x H' le A hi y => ?_⟩
  · unfold rngD
    rw [List.length_reverse, List.length_map, List.length_range]
    exact walk_rangeC
  · obtain ⟨e, h⟩ := y
    subst e
    rw [List.length_reverse] at hi
    have hl : (rngD lo n).length = n := by unfold rngD; rw [List.length_map, List.length_range]
    have hi' : i < n := by rw [← hl]; exact hi
    refine ⟨w', .int (lo + ((n - 1 - i : Nat) : Int)), Stp.refl _ _, A, ?_, ?_⟩
    · rw [rev_get hi, hl]
      unfold rngD
      rw [List.getElem?_map, List.getElem?_range (by omega)]
      rfl
    · simp only [Rep]
      have e : lo + (n : Int) - 1 + ((i : Nat) : Int) * (-1) = lo + ((n - 1 - i : Nat) : Int) := by
        have h1 : n - 1 - i + (i + 1) = n := by omega
        have h2 : ((n - 1 - i : Nat) : Int) + ((i : Int) + 1) = (n : Int) := by rw [← h1]; simp
        generalize ((n - 1 - i : Nat) : Int) = z at h2 ⊢
        omega
      rw [h]
      show V.int _ = _
      rw [e]
end
section
variable {X : Cx} {t : Tb} {W : WX} {H0 : Bs} {xa : CE} {ca : CA} {a b tg : Expr}
def revD : D → Option (List D)
  | .lst l => some l.reverse
  | .scr l => some l.reverse
  | .tup l => some l.reverse
  | _ => none
def itRev (a : CE) : CIt := fun env ah => (a env ah).bind fun x ah1 => ofO (revD x) ah1
theorem i_rev {p pos : Pos} (hm : X.mg "reversed" = none) (ha : PE X a (tE t W H0 xa)) (hg : Gl X "reversed" := by rfl) (hK : t.K = X.K := by rfl) (hs : starEach [a] X.env = (false, eval a X.env) :: starEach [] X.env := by rfl) :
    PI X tg (.Call (.Name "reversed" p) [a] [] pos) (tI t W H0 (itRev xa)) := by
  refine ⟨fun pins s σ H R I h => (RT.pi_revA hg hm ha hs).run pins s σ H R I ?_⟩
  obtain ⟨w, env, ah, A, E, P⟩ := h
  refine ⟨w, env, ah, A, E, post_bind P fun x ah1 w1 v H1 s1 A1 r1 P1 => ?_⟩
  cases x <;> simp only [revD] at P1 <;> first | exact False.elim P1 | skip
  · simp only [Rep] at r1
    obtain ⟨p, vs, rfl, h1, h2⟩ := r1
    rw [hK] at h1
    exact ⟨p, vs, rfl, .inr ⟨same_sqT A1.sub h1, post_ok P1 A1 (wlk_revT h1 h2)⟩⟩
  · simp only [Rep] at r1
    obtain ⟨p, vs, rfl, h1, h2⟩ := r1
    exact ⟨p, vs, rfl, .inl ⟨SqL.of (A1.sub _ _ h1), post_ok P1 A1 (wlk_rev (SqL.of h1) h2)⟩⟩
  · simp only [Rep] at r1
    obtain ⟨p, vs, rfl, h1, h2⟩ := r1
    rw [hK] at h1
    exact ⟨p, vs, rfl, .inl ⟨A1.sub.seq h1, post_ok P1 A1 (wlk_rev h1 h2)⟩⟩
def itRevR (a : CE) : CIt := fun env ah => (a env ah).bind fun x ah1 => match x with
  | .int j => if 0 ≤ j ∧ j < 2 ^ 62 then .ok (rngD 0 j.toNat).reverse ah1 else .bad
  | _ => .bad
theorem i_revR {p p2 pos pos2 : Pos} (hm : X.mg "reversed" = none) (hm2 : X.mg "range" = none) (ha : PE X a (tE t W H0 xa)) (hg : Gl X "reversed" := by rfl) (hg2 : Gl X "range" := by rfl) (hK : t.K = X.K := by rfl) (hs2 : starEach [a] X.env = (false, eval a X.env) :: starEach [] X.env := by rfl)
    (hs : starEach [.Call (.Name "range" p2) [a] [] pos2] X.env = (false, eval (.Call (.Name "range" p2) [a] [] pos2) X.env) :: starEach [] X.env := by rfl) :
    PI X tg (.Call (.Name "reversed" p) [.Call (.Name "range" p2) [a] [] pos2] [] pos) (tI t W H0 (itRevR xa)) := by
  refine ⟨fun pins s σ H R I h => (pi_revR hg hm (prg_1 hg2 hm2 ha hs2) hs).run pins s σ H R I ?_⟩
  obtain ⟨w, env, ah, A, E, P⟩ := h
  refine ⟨w, env, ah, A, E, post_bind P fun x ah1 w1 v H1 s1 A1 r1 P1 => ?_⟩
  cases x <;> simp only at P1 <;> first | exact False.elim P1 | skip
  rename_i j
  simp only [Rep] at r1
  subst r1
  split at P1
  · rename_i h
    refine ⟨j, rfl, by decide, by decide, by omega, by omega, ?_⟩
    have e := wlk_rngC (t := t) (w := w1) (lo := 0) (n := (j - 0).toNat)
    have ez : (j - 0).toNat = j.toNat := by omega
    rw [ez] at e ⊢
    exact post_ok P1 A1 e
  · exact False.elim P1
end
/-! ### running rules -/
section
variable {env : En} {ah : AH} {a : CE} {ar : CA} {x : D} {l : List D} {e : Nat} {m : List D}
def itR1 (r : Res D) : Res (List D) := r.bind fun x ah1 => ofO (revD x) ah1
theorem ev_itRev : itRev a env ah = itR1 (a env ah) := rfl
theorem itR1_ok : itR1 (.ok x ah) = ofO (revD x) ah := rfl
theorem itR1_exc : itR1 (.exc e l ah) = .exc e l ah := rfl
theorem revD_l : revD (.lst l) = some l.reverse := rfl
theorem revD_t : revD (.tup l) = some l.reverse := rfl
def itRR1 (r : Res D) : Res (List D) := r.bind fun x ah1 => match x with
  | .int j => if 0 ≤ j ∧ j < 2 ^ 62 then .ok (rngD 0 j.toNat).reverse ah1 else .bad
  | _ => .bad
theorem ev_itRevR : itRevR a env ah = itRR1 (a env ah) := rfl
theorem itRR1_ok {j : Int} (h : 0 ≤ j ∧ j < 2 ^ 62) : itRR1 (.ok (.int j) ah) = .ok (rngD 0 j.toNat).reverse ah := if_pos h
end
end G
/-! The engine, part 27: a list of the store that a slot tells of: frozen ahead of a statement; x[i] = e. -/
namespace G
open PySem PySem.Spec PyProof.Rows L2
section
variable {X : Cx} {t : Tb} {W : WX} {w0 : Wd} {H0 : Bs} {xa xb : CE} {a b : Expr} {pos : Pos} {st : Stmt} {c1 : CS}
def frzRE (i : Nat) (env : En) (ah : AH) : En × AH := match env[i]? with
  | some (.val (.ref n)) => match lstAt ah n with
    | some l => (env.set i (.val (.lst l)), ah.set n .dead)
    | none => (env, ah)
  | _ => (env, ah)
def cFrzR (i : Nat) (c : CS) : CS := fun env ah => c (frzRE i env ah).1 (frzRE i env ah).2
theorem z_frzR (i : Nat) (h : PS X st (tS t W w0 H0 c1)) : PS X st (tS t W w0 H0 (cFrzR i c1)) := by
  refine PS.imp h ?_
  rintro Dn σ H ⟨w, env, ah, s, A, E, P⟩
  unfold cFrzR frzRE at P
  split at P
  case h_2 => exact ⟨w, env, ah, s, A, E, P⟩
  rename_i n he
  split at P
  case h_2 => exact ⟨w, env, ah, s, A, E, P⟩
  rename_i l hl
  have hn := lstAt_some hl
  obtain ⟨v, hv, rv⟩ := E.slot i _ he
  simp only [Rep] at rv
  obtain ⟨p, rfl, hρ⟩ := rv
  obtain ⟨m0, vs, m1, m2⟩ := A.obj n _ p hn hρ
  obtain ⟨s2, A2⟩ := frzL_step A hn hρ m1 m0
  have E2 := E.step s2
  have hil : i < env.length := (List.getElem?_eq_some_iff.mp he).1
  refine ⟨w.add p (.lst vs), _, _, s.trans s2, A2, ⟨by rw [List.length_set, E2.len], fun j sl ej => ?_, fun j k o1 o2 a hjk e1 e2 e3 e4 => ?_⟩, PostS.up P s2.le⟩
  · by_cases h : i = j
    · subst h
      rw [List.getElem?_set_self hil] at ej
      cases ej
      refine ⟨.ref p, hv, ?_⟩
      simp only [Rep]
      exact ⟨p, vs, rfl, add_at, Reps.mono s2.le l m2⟩
    · rw [List.getElem?_set_ne h] at ej
      exact E2.slot j sl ej
  · have off : ∀ {j : Nat} {o : MO}, (env.set i (.val (.lst l)))[j]? = some (.own o) → env[j]? = some (.own o) := fun {j o} e => by
      by_cases h : i = j
      · subst h
        rw [List.getElem?_set_self hil] at e
        cases e
      · rw [List.getElem?_set_ne h] at e
        exact e
    exact E2.dist j k o1 o2 a hjk (off e1) (off e2) e3 e4
def setIR2 (n : Nat) (env : En) (d : D) (r : Res D) : SRes := SRes.of env r fun kd ah2 => match kd with
  | .int m => match lstAt ah2 n with
    | some l => match ixN l.length m with
      | some j => .nx env (ah2.set n (.lst (l.set j d)))
      | none => .bad
    | none => .bad
  | _ => .bad
def setIR1 (i : Nat) (k : CE) (env : En) (r : Res D) : SRes := SRes.of env r fun d ah1 => match env[i]? with
  | some (.val (.ref n)) => setIR2 n env d (k env ah1)
  | _ => .bad
def cSetIR (i : Nat) (a k : CE) : CS := fun env ah => setIR1 i k env (a env ah)
theorem z_setIR (i : Nat) {x : Str} {p1 p2 : Pos} {kx : CE} {ke : Expr} (ha : PE X a (tE t W H0 xa)) (hk : PE X ke (tE t W H0 kx)) (hN : X.N[i]? = some x := by rfl) (hvis : Vis X.env.scope x := by first | exact Or.inl rfl | exact Or.inr (Or.inl rfl) | exact Or.inr (Or.inr rfl)) (hd : (x == ("__debug__" : Str)) = false := by decide)
    (hcd : (x == ("__classdict__" : Str)) = false := by decide)
    (hasg : ∀ v, assign (.Subscript (.Name x p1) ke p2) X.env v = (do
      let ov ← holding [v] (eval (.Name x p1) X.env)
      let iv ← holding [v, ov] (eval ke X.env)
      standAt p2
      holding [v, ov, iv] (setItem ov iv v)
      release [v, ov, iv] []) := by intro _; rfl)
    (hs : swapsWithSole [.Subscript (.Name x p1) ke p2] a pos.line X.env = pure false := by rfl) (hw : swappedStores [.Subscript (.Name x p1) ke p2] a X.env = pure none := by rfl)
    (h1 : (assignEach [.Subscript (.Name x p1) ke p2] X.env).map (·.2) = [assign (.Subscript (.Name x p1) ke p2) X.env] := by rfl) :
    PS X (.Assign [.Subscript (.Name x p1) ke p2] a pos) (tS t W w0 H0 (cSetIR i xa kx)) := by
  refine PS.imp (ps_asg ha (pg_sub (pv i hN hvis hd hcd) hk set_list hasg) hs hw h1) ?_
  rintro Dn σ H ⟨w, env, ah, s, A, E, P⟩
  refine ⟨w, env, ah, A, E, post_of s E P fun d ah1 w1 v H1 s1 s01 A1 E1 r1 P1 => ?_⟩
  split at P1
  case h_2 => exact False.elim P1
  rename_i n he
  obtain ⟨u, hu, ru⟩ := E1.slot i _ he
  simp only [Rep] at ru
  obtain ⟨p, rfl, hρ⟩ := ru
  refine ⟨.ref p, hu, w1, env, ah1, A1, E1, post_of s01 E1 P1 fun kd ah2 w2 kv H2 s2 s02 A2 E2 r2 P2 => ?_⟩
  split at P2
  case h_2 => exact False.elim P2
  rename_i m
  simp only [Rep] at r2
  split at P2
  case h_2 => exact False.elim P2
  rename_i l hl
  have hn := lstAt_some hl
  split at P2
  case h_2 => exact False.elim P2
  rename_i j hj
  have hρ2 := s2.le.rho n p hρ
  obtain ⟨m0, vs, m1, m2⟩ := A2.obj n _ p hn hρ2
  obtain ⟨s3, A3⟩ := ah_upd (o' := .lst (l.set j d)) (ob := .lst (vs.set j v)) A2 hn hρ2 m0 (nolk A2 m1 fun _ _ z => nomatch z) ⟨m0, _, upd_same, reps_set (Rep.mono s2.le d r1) j m2⟩
  exact ⟨p, vs, m, j, rfl, r2, m1, by rw [← reps_len m2]; exact hj, P2 w2 σ _ s3.le (s02.trans s3) A3 (E2.step s3)⟩
end
/-! ### running rules -/
section
variable {env : En} {ah : AH} {a k : CE} {d : D} {l : List D} {n i j e : Nat} {m : Int} {s : CS}
theorem ev_frzR : cFrzR i s env ah = s (frzRE i env ah).1 (frzRE i env ah).2 := rfl
theorem frzR_lst (h : env[i]? = some (.val (.ref n))) (h2 : ah[n]? = some (.lst l)) : cFrzR i s env ah = s (env.set i (.val (.lst l))) (ah.set n .dead) := by
  unfold cFrzR frzRE lstAt
  simp only [h, h2]
theorem frzR_not (h : ∀ n, env[i]? ≠ some (.val (.ref n))) : cFrzR i s env ah = s env ah := by
  unfold cFrzR frzRE
  split
  · rename_i n hn; exact absurd hn (h n)
  · rfl
theorem ev_setIR : cSetIR i a k env ah = setIR1 i k env (a env ah) := rfl
theorem setIR1_ok (h : env[i]? = some (.val (.ref n))) : setIR1 i k env (.ok d ah) = setIR2 n env d (k env ah) := by
  unfold setIR1
  simp only [of_ok, h]
theorem setIR2_ok (h : ah[n]? = some (.lst l)) (h2 : ixN l.length m = some j) : setIR2 n env d (.ok (.int m) ah) = .nx env (ah.set n (.lst (l.set j d))) := by
  unfold setIR2 lstAt
  simp only [of_ok, h, h2]
end
end G
-- CLS WorkError=1 NoRatio=2 NoAsk=3 RowError=4 NoRow=5 NoName=6 Twice=7 TooMany=8 Stuck=9 Free=10
noncomputable section
namespace Y
open PySem PySem.Spec PyProof.Rows L2 G
def flT : List (List Str) := [[]]
def fl (n : Nat) : List Str := flT.getD n []
theorem fl_out : ∀ c, ¬ c < 1 → fl c = [] := fun c h => by
  unfold fl
  rw [List.getD_eq_getElem?_getD, List.getElem?_eq_none (show flT.length ≤ c from Nat.le_of_not_lt h)]
  rfl
theorem fl_in : ∀ c, c < 1 → (fl c).length < 1000 := by decide +kernel
theorem fl_len : ∀ c, (fl c).length < 1000 := fun c => by
  by_cases h : c < 1
  · exact fl_in c h
  · rw [fl_out c h]
    decide
theorem fl_cases : ∀ c, fl c = [] := fun c => by
  by_cases h : c < 1
  · match c, h with
    | 0, _ => exact rfl
    | _ + 1, h => exact absurd h (by omega)
  · exact fl_out c h
def xlT : List (List Str) := [[], [], [], [], ["word", "row"], ["word", "row"], ["word", "row"], ["word", "row"], ["word", "row"], ["rows"], ["name"]]
def xl (n : Nat) : List Str := xlT.getD n []
theorem xl_out : ∀ c, ¬ c < 11 → xl c = [] := fun c h => by
  unfold xl
  rw [List.getD_eq_getElem?_getD, List.getElem?_eq_none (show xlT.length ≤ c from Nat.le_of_not_lt h)]
  rfl
theorem xl_cases : ∀ c, c = 4 ∨ c = 5 ∨ c = 6 ∨ c = 7 ∨ c = 8 ∨ c = 9 ∨ c = 10 ∨ xl c = [] := fun c => by
  by_cases h : c < 11
  · match c, h with
    | 0, _ => exact .inr (.inr (.inr (.inr (.inr (.inr (.inr (rfl)))))))
    | 1, _ => exact .inr (.inr (.inr (.inr (.inr (.inr (.inr (rfl)))))))
    | 2, _ => exact .inr (.inr (.inr (.inr (.inr (.inr (.inr (rfl)))))))
    | 3, _ => exact .inr (.inr (.inr (.inr (.inr (.inr (.inr (rfl)))))))
    | 4, _ => exact .inl rfl
    | 5, _ => exact .inr (.inl rfl)
    | 6, _ => exact .inr (.inr (.inl rfl))
    | 7, _ => exact .inr (.inr (.inr (.inl rfl)))
    | 8, _ => exact .inr (.inr (.inr (.inr (.inl rfl))))
    | 9, _ => exact .inr (.inr (.inr (.inr (.inr (.inl rfl)))))
    | 10, _ => exact .inr (.inr (.inr (.inr (.inr (.inr (.inl rfl))))))
    | _ + 11, h => exact absurd h (by omega)
  · exact .inr (.inr (.inr (.inr (.inr (.inr (.inr (xl_out c h)))))))
abbrev tb (K : PySem.W.Frag) (cl : Nat → Addr) : Tb := ⟨K, cl, fl, xl, []⟩
structure Tx (K : PySem.W.Frag) (mg : Str → Option Value) (cl : Nat → Addr) : Prop where
  b_len : mg "len" = none
  b_range : mg "range" = none
  b_list : mg "list" = none
  b_tuple : mg "tuple" = none
  g_NoRow : mg "NoRow" = some (.ref (cl 5))
  g_WorkError : mg "WorkError" = some (.ref (cl 1))
  w_WorkError : WInC K (cl 1)
  ox_NoRow : OexC K (cl 5)
  nx_NoRow_row : PySem.W.findIn K (.ref (cl 5)) "row" = some none
  nx_NoRow_word : PySem.W.findIn K (.ref (cl 5)) "word" = some none
  g_NoName : mg "NoName" = some (.ref (cl 6))
  ox_NoName : OexC K (cl 6)
  nx_NoName_row : PySem.W.findIn K (.ref (cl 6)) "row" = some none
  nx_NoName_word : PySem.W.findIn K (.ref (cl 6)) "word" = some none
  g_Twice : mg "Twice" = some (.ref (cl 7))
  ox_Twice : OexC K (cl 7)
  nx_Twice_row : PySem.W.findIn K (.ref (cl 7)) "row" = some none
  nx_Twice_word : PySem.W.findIn K (.ref (cl 7)) "word" = some none
  g_TooMany : mg "TooMany" = some (.ref (cl 8))
  ox_TooMany : OexC K (cl 8)
  nx_TooMany_row : PySem.W.findIn K (.ref (cl 8)) "row" = some none
  nx_TooMany_word : PySem.W.findIn K (.ref (cl 8)) "word" = some none
  g_Stuck : mg "Stuck" = some (.ref (cl 9))
  ox_Stuck : OexC K (cl 9)
  nx_Stuck_rows : PySem.W.findIn K (.ref (cl 9)) "rows" = some none
  g_Free : mg "Free" = some (.ref (cl 10))
  ox_Free : OexC K (cl 10)
  nx_Free_name : PySem.W.findIn K (.ref (cl 10)) "name" = some none
  b_str : mg "str" = none
  g_NoRatio : mg "NoRatio" = some (.ref (cl 2))
  x_NoRatio : PySem.W.excIn K (cl 2) [.type "ValueError", .type "Exception", .type "BaseException", .type "object"] "ValueError.__new__" = true
  k_NoRatio : PySem.W.keepIn K (.ref (cl 2)) = true
  bs_NoRatio : PySem.W.subIn K (.ref (cl 2)) (.type "BaseException") = some true
  ty_NoRatio : PySem.W.typeIn K (.ref (cl 2)) = some (.type "type")
  g_NoAsk : mg "NoAsk" = some (.ref (cl 3))
  x_NoAsk : PySem.W.excIn K (cl 3) [.type "ValueError", .type "Exception", .type "BaseException", .type "object"] "ValueError.__new__" = true
  k_NoAsk : PySem.W.keepIn K (.ref (cl 3)) = true
  bs_NoAsk : PySem.W.subIn K (.ref (cl 3)) (.type "BaseException") = some true
  ty_NoAsk : PySem.W.typeIn K (.ref (cl 3)) = some (.type "type")
  b_isinstance : mg "isinstance" = none
  b_ValueError : mg "ValueError" = none
  g_RowError : mg "RowError" = some (.ref (cl 4))
  b_int : mg "int" = none
  ox_RowError : OexC K (cl 4)
  nx_RowError_row : PySem.W.findIn K (.ref (cl 4)) "row" = some none
  nx_RowError_word : PySem.W.findIn K (.ref (cl 4)) "word" = some none
  d_l_mixed : ∃ f fd, FunD K "_law_mixed" "_law_mixed" (defArgs s_l_mixed) (defBody s_l_mixed) (defScope s_l_mixed) [] [] f fd ∧ mg "_law_mixed" = some (.ref f)
  d_l_cell_at : ∃ f fd, FunD K "_law_cell_at" "_law_cell_at" (defArgs s_l_cell_at) (defBody s_l_cell_at) (defScope s_l_cell_at) [] [] f fd ∧ mg "_law_cell_at" = some (.ref f)
  d_NoRow_init : ∃ f fd, FunD K "__init__" "RowError.__init__" (defArgs s_NoRow_init) (defBody s_NoRow_init) (defScope s_NoRow_init) [.str ""] [] f fd ∧ PySem.W.findIn K (.ref (cl 5)) "__init__" = some (some (.ref f)) ∧ PySem.W.typeIn K (.ref f) = some (.type "function")
  d_NoName_init : ∃ f fd, FunD K "__init__" "RowError.__init__" (defArgs s_NoName_init) (defBody s_NoName_init) (defScope s_NoName_init) [.str ""] [] f fd ∧ PySem.W.findIn K (.ref (cl 6)) "__init__" = some (some (.ref f)) ∧ PySem.W.typeIn K (.ref f) = some (.type "function")
  d_Twice_init : ∃ f fd, FunD K "__init__" "RowError.__init__" (defArgs s_Twice_init) (defBody s_Twice_init) (defScope s_Twice_init) [.str ""] [] f fd ∧ PySem.W.findIn K (.ref (cl 7)) "__init__" = some (some (.ref f)) ∧ PySem.W.typeIn K (.ref f) = some (.type "function")
  d_TooMany_init : ∃ f fd, FunD K "__init__" "RowError.__init__" (defArgs s_TooMany_init) (defBody s_TooMany_init) (defScope s_TooMany_init) [.str ""] [] f fd ∧ PySem.W.findIn K (.ref (cl 8)) "__init__" = some (some (.ref f)) ∧ PySem.W.typeIn K (.ref f) = some (.type "function")
  d_l_of_rows : ∃ f fd, FunD K "_law_of_rows" "_law_of_rows" (defArgs s_l_of_rows) (defBody s_l_of_rows) (defScope s_l_of_rows) [] [] f fd ∧ mg "_law_of_rows" = some (.ref f)
  d_Stuck_init : ∃ f fd, FunD K "__init__" "Stuck.__init__" (defArgs s_Stuck_init) (defBody s_Stuck_init) (defScope s_Stuck_init) [] [] f fd ∧ PySem.W.findIn K (.ref (cl 9)) "__init__" = some (some (.ref f)) ∧ PySem.W.typeIn K (.ref f) = some (.type "function")
  d_Free_init : ∃ f fd, FunD K "__init__" "Free.__init__" (defArgs s_Free_init) (defBody s_Free_init) (defScope s_Free_init) [] [] f fd ∧ PySem.W.findIn K (.ref (cl 10)) "__init__" = some (some (.ref f)) ∧ PySem.W.typeIn K (.ref f) = some (.type "function")
  d_l_made : ∃ f fd, FunD K "_law_made" "_law_made" (defArgs s_l_made) (defBody s_l_made) (defScope s_l_made) [] [] f fd ∧ mg "_law_made" = some (.ref f)
  d_l_all : ∃ f fd, FunD K "_law_all" "_law_all" (defArgs s_l_all) (defBody s_l_all) (defScope s_l_all) [] [] f fd ∧ mg "_law_all" = some (.ref f)
  d_l_right : ∃ f fd, FunD K "_law_right" "_law_right" (defArgs s_l_right) (defBody s_l_right) (defScope s_l_right) [] [] f fd ∧ mg "_law_right" = some (.ref f)
  d_RowError_init : ∃ f fd, FunD K "__init__" "RowError.__init__" (defArgs s_RowError_init) (defBody s_RowError_init) (defScope s_RowError_init) [.str ""] [] f fd ∧ PySem.W.findIn K (.ref (cl 4)) "__init__" = some (some (.ref f)) ∧ PySem.W.typeIn K (.ref f) = some (.type "function")
  d_l_bare : ∃ f fd, FunD K "_law_bare" "_law_bare" (defArgs s_l_bare) (defBody s_l_bare) (defScope s_l_bare) [] [] f fd ∧ mg "_law_bare" = some (.ref f)
  d_law : ∃ f fd, FunD K "law" "law" (defArgs s_law) (defBody s_law) (defScope s_law) [] [] f fd ∧ mg "law" = some (.ref f)
  xf_Free : XfC K (cl 10)
  xf_RowError : XfC K (cl 4)
  xf_NoRow : XfC K (cl 5)
  xf_NoName : XfC K (cl 6)
  xf_Twice : XfC K (cl 7)
  xf_TooMany : XfC K (cl 8)
  xf_Stuck : XfC K (cl 9)
  ix_NoRatio_TooMany : PySem.W.kitOne K (.ref (cl 2)) (.ref (cl 8)) = some false
  e_NoRatio : ExcC K (cl 2)
  ix_NoAsk_TooMany : PySem.W.kitOne K (.ref (cl 3)) (.ref (cl 8)) = some false
  e_NoAsk : ExcC K (cl 3)
  ix_RowError_TooMany : PySem.W.kitOne K (.ref (cl 4)) (.ref (cl 8)) = some false
  e_RowError : ExcC K (cl 4)
  ix_NoRow_TooMany : PySem.W.kitOne K (.ref (cl 5)) (.ref (cl 8)) = some false
  e_NoRow : ExcC K (cl 5)
  ix_NoName_TooMany : PySem.W.kitOne K (.ref (cl 6)) (.ref (cl 8)) = some false
  e_NoName : ExcC K (cl 6)
  ix_Twice_TooMany : PySem.W.kitOne K (.ref (cl 7)) (.ref (cl 8)) = some false
  e_Twice : ExcC K (cl 7)
  ix_TooMany_TooMany : PySem.W.kitOne K (.ref (cl 8)) (.ref (cl 8)) = some true
  e_TooMany : ExcC K (cl 8)
  ix_Stuck_TooMany : PySem.W.kitOne K (.ref (cl 9)) (.ref (cl 8)) = some false
  e_Stuck : ExcC K (cl 9)
  ix_Free_TooMany : PySem.W.kitOne K (.ref (cl 10)) (.ref (cl 8)) = some false
  e_Free : ExcC K (cl 10)
  ix_NoRatio_Twice : PySem.W.kitOne K (.ref (cl 2)) (.ref (cl 7)) = some false
  ix_NoAsk_Twice : PySem.W.kitOne K (.ref (cl 3)) (.ref (cl 7)) = some false
  ix_RowError_Twice : PySem.W.kitOne K (.ref (cl 4)) (.ref (cl 7)) = some false
  ix_NoRow_Twice : PySem.W.kitOne K (.ref (cl 5)) (.ref (cl 7)) = some false
  ix_NoName_Twice : PySem.W.kitOne K (.ref (cl 6)) (.ref (cl 7)) = some false
  ix_Twice_Twice : PySem.W.kitOne K (.ref (cl 7)) (.ref (cl 7)) = some true
  ix_TooMany_Twice : PySem.W.kitOne K (.ref (cl 8)) (.ref (cl 7)) = some false
  ix_Stuck_Twice : PySem.W.kitOne K (.ref (cl 9)) (.ref (cl 7)) = some false
  ix_Free_Twice : PySem.W.kitOne K (.ref (cl 10)) (.ref (cl 7)) = some false
  ix_NoRatio_NoName : PySem.W.kitOne K (.ref (cl 2)) (.ref (cl 6)) = some false
  ix_NoAsk_NoName : PySem.W.kitOne K (.ref (cl 3)) (.ref (cl 6)) = some false
  ix_RowError_NoName : PySem.W.kitOne K (.ref (cl 4)) (.ref (cl 6)) = some false
  ix_NoRow_NoName : PySem.W.kitOne K (.ref (cl 5)) (.ref (cl 6)) = some false
  ix_NoName_NoName : PySem.W.kitOne K (.ref (cl 6)) (.ref (cl 6)) = some true
  ix_Twice_NoName : PySem.W.kitOne K (.ref (cl 7)) (.ref (cl 6)) = some false
  ix_TooMany_NoName : PySem.W.kitOne K (.ref (cl 8)) (.ref (cl 6)) = some false
  ix_Stuck_NoName : PySem.W.kitOne K (.ref (cl 9)) (.ref (cl 6)) = some false
  ix_Free_NoName : PySem.W.kitOne K (.ref (cl 10)) (.ref (cl 6)) = some false
  ix_NoRatio_NoRow : PySem.W.kitOne K (.ref (cl 2)) (.ref (cl 5)) = some false
  ix_NoAsk_NoRow : PySem.W.kitOne K (.ref (cl 3)) (.ref (cl 5)) = some false
  ix_RowError_NoRow : PySem.W.kitOne K (.ref (cl 4)) (.ref (cl 5)) = some false
  ix_NoRow_NoRow : PySem.W.kitOne K (.ref (cl 5)) (.ref (cl 5)) = some true
  ix_NoName_NoRow : PySem.W.kitOne K (.ref (cl 6)) (.ref (cl 5)) = some false
  ix_Twice_NoRow : PySem.W.kitOne K (.ref (cl 7)) (.ref (cl 5)) = some false
  ix_TooMany_NoRow : PySem.W.kitOne K (.ref (cl 8)) (.ref (cl 5)) = some false
  ix_Stuck_NoRow : PySem.W.kitOne K (.ref (cl 9)) (.ref (cl 5)) = some false
  ix_Free_NoRow : PySem.W.kitOne K (.ref (cl 10)) (.ref (cl 5)) = some false
  ix_NoRatio_NoAsk : PySem.W.kitOne K (.ref (cl 2)) (.ref (cl 3)) = some false
  ix_NoAsk_NoAsk : PySem.W.kitOne K (.ref (cl 3)) (.ref (cl 3)) = some true
  ix_RowError_NoAsk : PySem.W.kitOne K (.ref (cl 4)) (.ref (cl 3)) = some false
  ix_NoRow_NoAsk : PySem.W.kitOne K (.ref (cl 5)) (.ref (cl 3)) = some false
  ix_NoName_NoAsk : PySem.W.kitOne K (.ref (cl 6)) (.ref (cl 3)) = some false
  ix_Twice_NoAsk : PySem.W.kitOne K (.ref (cl 7)) (.ref (cl 3)) = some false
  ix_TooMany_NoAsk : PySem.W.kitOne K (.ref (cl 8)) (.ref (cl 3)) = some false
  ix_Stuck_NoAsk : PySem.W.kitOne K (.ref (cl 9)) (.ref (cl 3)) = some false
  ix_Free_NoAsk : PySem.W.kitOne K (.ref (cl 10)) (.ref (cl 3)) = some false
  ix_NoRatio_NoRatio : PySem.W.kitOne K (.ref (cl 2)) (.ref (cl 2)) = some true
  ix_NoAsk_NoRatio : PySem.W.kitOne K (.ref (cl 3)) (.ref (cl 2)) = some false
  ix_RowError_NoRatio : PySem.W.kitOne K (.ref (cl 4)) (.ref (cl 2)) = some false
  ix_NoRow_NoRatio : PySem.W.kitOne K (.ref (cl 5)) (.ref (cl 2)) = some false
  ix_NoName_NoRatio : PySem.W.kitOne K (.ref (cl 6)) (.ref (cl 2)) = some false
  ix_Twice_NoRatio : PySem.W.kitOne K (.ref (cl 7)) (.ref (cl 2)) = some false
  ix_TooMany_NoRatio : PySem.W.kitOne K (.ref (cl 8)) (.ref (cl 2)) = some false
  ix_Stuck_NoRatio : PySem.W.kitOne K (.ref (cl 9)) (.ref (cl 2)) = some false
  ix_Free_NoRatio : PySem.W.kitOne K (.ref (cl 10)) (.ref (cl 2)) = some false
  ix_NoRatio_Free : PySem.W.kitOne K (.ref (cl 2)) (.ref (cl 10)) = some false
  ix_NoAsk_Free : PySem.W.kitOne K (.ref (cl 3)) (.ref (cl 10)) = some false
  ix_RowError_Free : PySem.W.kitOne K (.ref (cl 4)) (.ref (cl 10)) = some false
  ix_NoRow_Free : PySem.W.kitOne K (.ref (cl 5)) (.ref (cl 10)) = some false
  ix_NoName_Free : PySem.W.kitOne K (.ref (cl 6)) (.ref (cl 10)) = some false
  ix_Twice_Free : PySem.W.kitOne K (.ref (cl 7)) (.ref (cl 10)) = some false
  ix_TooMany_Free : PySem.W.kitOne K (.ref (cl 8)) (.ref (cl 10)) = some false
  ix_Stuck_Free : PySem.W.kitOne K (.ref (cl 9)) (.ref (cl 10)) = some false
  ix_Free_Free : PySem.W.kitOne K (.ref (cl 10)) (.ref (cl 10)) = some true
  ix_NoRatio_Stuck : PySem.W.kitOne K (.ref (cl 2)) (.ref (cl 9)) = some false
  ix_NoAsk_Stuck : PySem.W.kitOne K (.ref (cl 3)) (.ref (cl 9)) = some false
  ix_RowError_Stuck : PySem.W.kitOne K (.ref (cl 4)) (.ref (cl 9)) = some false
  ix_NoRow_Stuck : PySem.W.kitOne K (.ref (cl 5)) (.ref (cl 9)) = some false
  ix_NoName_Stuck : PySem.W.kitOne K (.ref (cl 6)) (.ref (cl 9)) = some false
  ix_Twice_Stuck : PySem.W.kitOne K (.ref (cl 7)) (.ref (cl 9)) = some false
  ix_TooMany_Stuck : PySem.W.kitOne K (.ref (cl 8)) (.ref (cl 9)) = some false
  ix_Stuck_Stuck : PySem.W.kitOne K (.ref (cl 9)) (.ref (cl 9)) = some true
  ix_Free_Stuck : PySem.W.kitOne K (.ref (cl 10)) (.ref (cl 9)) = some false
  ix_NoRatio_WorkError : PySem.W.kitOne K (.ref (cl 2)) (.ref (cl 1)) = some true
  ix_NoAsk_WorkError : PySem.W.kitOne K (.ref (cl 3)) (.ref (cl 1)) = some true
  ix_RowError_WorkError : PySem.W.kitOne K (.ref (cl 4)) (.ref (cl 1)) = some true
  ix_NoRow_WorkError : PySem.W.kitOne K (.ref (cl 5)) (.ref (cl 1)) = some true
  ix_NoName_WorkError : PySem.W.kitOne K (.ref (cl 6)) (.ref (cl 1)) = some true
  ix_Twice_WorkError : PySem.W.kitOne K (.ref (cl 7)) (.ref (cl 1)) = some true
  ix_TooMany_WorkError : PySem.W.kitOne K (.ref (cl 8)) (.ref (cl 1)) = some true
  ix_Stuck_WorkError : PySem.W.kitOne K (.ref (cl 9)) (.ref (cl 1)) = some true
  ix_Free_WorkError : PySem.W.kitOne K (.ref (cl 10)) (.ref (cl 1)) = some true
  ix_NoRatio_ValueError : PySem.W.kitOne K (.ref (cl 2)) (.type "ValueError") = some true
  ix_NoAsk_ValueError : PySem.W.kitOne K (.ref (cl 3)) (.type "ValueError") = some true
  ix_RowError_ValueError : PySem.W.kitOne K (.ref (cl 4)) (.type "ValueError") = some true
  ix_NoRow_ValueError : PySem.W.kitOne K (.ref (cl 5)) (.type "ValueError") = some true
  ix_NoName_ValueError : PySem.W.kitOne K (.ref (cl 6)) (.type "ValueError") = some true
  ix_Twice_ValueError : PySem.W.kitOne K (.ref (cl 7)) (.type "ValueError") = some true
  ix_TooMany_ValueError : PySem.W.kitOne K (.ref (cl 8)) (.type "ValueError") = some true
  ix_Stuck_ValueError : PySem.W.kitOne K (.ref (cl 9)) (.type "ValueError") = some true
  ix_Free_ValueError : PySem.W.kitOne K (.ref (cl 10)) (.type "ValueError") = some true
  ix_NoRatio_RowError : PySem.W.kitOne K (.ref (cl 2)) (.ref (cl 4)) = some false
  ix_NoAsk_RowError : PySem.W.kitOne K (.ref (cl 3)) (.ref (cl 4)) = some false
  ix_RowError_RowError : PySem.W.kitOne K (.ref (cl 4)) (.ref (cl 4)) = some true
  ix_NoRow_RowError : PySem.W.kitOne K (.ref (cl 5)) (.ref (cl 4)) = some true
  ix_NoName_RowError : PySem.W.kitOne K (.ref (cl 6)) (.ref (cl 4)) = some true
  ix_Twice_RowError : PySem.W.kitOne K (.ref (cl 7)) (.ref (cl 4)) = some true
  ix_TooMany_RowError : PySem.W.kitOne K (.ref (cl 8)) (.ref (cl 4)) = some true
  ix_Stuck_RowError : PySem.W.kitOne K (.ref (cl 9)) (.ref (cl 4)) = some false
  ix_Free_RowError : PySem.W.kitOne K (.ref (cl 10)) (.ref (cl 4)) = some false
section
variable {P : Program} {w : World} {K : PySem.W.Frag} {mg : Str → Option Value} {base : Heap} {cl : Nat → Addr}
def is_list : AH → D → Option Bool := fun ah d => match d with
  | .ref n => (match ah[n]? with | some (.lst _) => some true | some (.llst _) => some true | _ => none)
  | .tup _ => some false
  | _ => none
theorem is_list_ok (T : Tx K mg cl) : ∀ ah d b, is_list ah d = some b → IsK (tb K cl) ah d (.type "list") b := by
  intro ah d b h
  unfold is_list at h
  split at h
  · rename_i n
    split at h
    · rename_i hn
      cases h
      exact .inr (.inl ⟨_, hn, kit_ty (by decide +kernel)⟩)
    · rename_i hn
      cases h
      exact .inr (.inr (.inr ⟨_, hn, kit_ty (by decide +kernel)⟩))
    · cases h
  · cases h; exact kit_ty (by decide +kernel)
  · cases h
def is_int : AH → D → Option Bool := fun ah d => match d with
  | .int _ => some true
  | _ => none
theorem is_int_ok (T : Tx K mg cl) : ∀ ah d b, is_int ah d = some b → IsK (tb K cl) ah d (.type "int") b := by
  intro ah d b h
  unfold is_int at h
  split at h
  · cases h; exact kit_ty (by decide +kernel)
  · cases h
def is_str : AH → D → Option Bool := fun ah d => match d with
  | .str _ => some true
  | _ => none
theorem is_str_ok (T : Tx K mg cl) : ∀ ah d b, is_str ah d = some b → IsK (tb K cl) ah d (.type "str") b := by
  intro ah d b h
  unfold is_str at h
  split at h
  · cases h; exact kit_ty (by decide +kernel)
  · cases h
def is_tuple : AH → D → Option Bool := fun ah d => match d with
  | .tup _ => some true
  | _ => none
theorem is_tuple_ok (T : Tx K mg cl) : ∀ ah d b, is_tuple ah d = some b → IsK (tb K cl) ah d (.type "tuple") b := by
  intro ah d b h
  unfold is_tuple at h
  split at h
  · cases h; exact kit_ty (by decide +kernel)
  · cases h
def ix_TooMany : D → Option Bool := fun d => match d with
  | .exc c _ => if c = 2 then some false else if c = 3 then some false else if c = 4 then some false else if c = 5 then some false else if c = 6 then some false else if c = 7 then some false else if c = 8 then some true else if c = 9 then some false else if c = 10 then some false else none
  | _ => none
theorem ix_TooMany_ok (T : Tx K mg cl) : ∀ d b, ix_TooMany d = some b → IsKX (tb K cl) d (.ref (cl 8)) b := by
  intro d b h
  unfold ix_TooMany at h
  split at h
  · rename_i k l
    rcases G.pick h with ⟨rfl, rfl⟩ | ⟨_, h⟩
    · exact ⟨T.e_NoRatio, T.ix_NoRatio_TooMany⟩
    rcases G.pick h with ⟨rfl, rfl⟩ | ⟨_, h⟩
    · exact ⟨T.e_NoAsk, T.ix_NoAsk_TooMany⟩
    rcases G.pick h with ⟨rfl, rfl⟩ | ⟨_, h⟩
    · exact ⟨T.e_RowError, T.ix_RowError_TooMany⟩
    rcases G.pick h with ⟨rfl, rfl⟩ | ⟨_, h⟩
    · exact ⟨T.e_NoRow, T.ix_NoRow_TooMany⟩
    rcases G.pick h with ⟨rfl, rfl⟩ | ⟨_, h⟩
    · exact ⟨T.e_NoName, T.ix_NoName_TooMany⟩
    rcases G.pick h with ⟨rfl, rfl⟩ | ⟨_, h⟩
    · exact ⟨T.e_Twice, T.ix_Twice_TooMany⟩
    rcases G.pick h with ⟨rfl, rfl⟩ | ⟨_, h⟩
    · exact ⟨T.e_TooMany, T.ix_TooMany_TooMany⟩
    rcases G.pick h with ⟨rfl, rfl⟩ | ⟨_, h⟩
    · exact ⟨T.e_Stuck, T.ix_Stuck_TooMany⟩
    rcases G.pick h with ⟨rfl, rfl⟩ | ⟨_, h⟩
    · exact ⟨T.e_Free, T.ix_Free_TooMany⟩
    cases h
  · cases h
def ix_Twice : D → Option Bool := fun d => match d with
  | .exc c _ => if c = 2 then some false else if c = 3 then some false else if c = 4 then some false else if c = 5 then some false else if c = 6 then some false else if c = 7 then some true else if c = 8 then some false else if c = 9 then some false else if c = 10 then some false else none
  | _ => none
theorem ix_Twice_ok (T : Tx K mg cl) : ∀ d b, ix_Twice d = some b → IsKX (tb K cl) d (.ref (cl 7)) b := by
  intro d b h
  unfold ix_Twice at h
  split at h
  · rename_i k l
    rcases G.pick h with ⟨rfl, rfl⟩ | ⟨_, h⟩
    · exact ⟨T.e_NoRatio, T.ix_NoRatio_Twice⟩
    rcases G.pick h with ⟨rfl, rfl⟩ | ⟨_, h⟩
    · exact ⟨T.e_NoAsk, T.ix_NoAsk_Twice⟩
    rcases G.pick h with ⟨rfl, rfl⟩ | ⟨_, h⟩
    · exact ⟨T.e_RowError, T.ix_RowError_Twice⟩
    rcases G.pick h with ⟨rfl, rfl⟩ | ⟨_, h⟩
    · exact ⟨T.e_NoRow, T.ix_NoRow_Twice⟩
    rcases G.pick h with ⟨rfl, rfl⟩ | ⟨_, h⟩
    · exact ⟨T.e_NoName, T.ix_NoName_Twice⟩
    rcases G.pick h with ⟨rfl, rfl⟩ | ⟨_, h⟩
    · exact ⟨T.e_Twice, T.ix_Twice_Twice⟩
    rcases G.pick h with ⟨rfl, rfl⟩ | ⟨_, h⟩
    · exact ⟨T.e_TooMany, T.ix_TooMany_Twice⟩
    rcases G.pick h with ⟨rfl, rfl⟩ | ⟨_, h⟩
    · exact ⟨T.e_Stuck, T.ix_Stuck_Twice⟩
    rcases G.pick h with ⟨rfl, rfl⟩ | ⟨_, h⟩
    · exact ⟨T.e_Free, T.ix_Free_Twice⟩
    cases h
  · cases h
def ix_NoName : D → Option Bool := fun d => match d with
  | .exc c _ => if c = 2 then some false else if c = 3 then some false else if c = 4 then some false else if c = 5 then some false else if c = 6 then some true else if c = 7 then some false else if c = 8 then some false else if c = 9 then some false else if c = 10 then some false else none
  | _ => none
theorem ix_NoName_ok (T : Tx K mg cl) : ∀ d b, ix_NoName d = some b → IsKX (tb K cl) d (.ref (cl 6)) b := by
  intro d b h
  unfold ix_NoName at h
  split at h
  · rename_i k l
    rcases G.pick h with ⟨rfl, rfl⟩ | ⟨_, h⟩
    · exact ⟨T.e_NoRatio, T.ix_NoRatio_NoName⟩
    rcases G.pick h with ⟨rfl, rfl⟩ | ⟨_, h⟩
    · exact ⟨T.e_NoAsk, T.ix_NoAsk_NoName⟩
    rcases G.pick h with ⟨rfl, rfl⟩ | ⟨_, h⟩
    · exact ⟨T.e_RowError, T.ix_RowError_NoName⟩
    rcases G.pick h with ⟨rfl, rfl⟩ | ⟨_, h⟩
    · exact ⟨T.e_NoRow, T.ix_NoRow_NoName⟩
    rcases G.pick h with ⟨rfl, rfl⟩ | ⟨_, h⟩
    · exact ⟨T.e_NoName, T.ix_NoName_NoName⟩
    rcases G.pick h with ⟨rfl, rfl⟩ | ⟨_, h⟩
    · exact ⟨T.e_Twice, T.ix_Twice_NoName⟩
    rcases G.pick h with ⟨rfl, rfl⟩ | ⟨_, h⟩
    · exact ⟨T.e_TooMany, T.ix_TooMany_NoName⟩
    rcases G.pick h with ⟨rfl, rfl⟩ | ⟨_, h⟩
    · exact ⟨T.e_Stuck, T.ix_Stuck_NoName⟩
    rcases G.pick h with ⟨rfl, rfl⟩ | ⟨_, h⟩
    · exact ⟨T.e_Free, T.ix_Free_NoName⟩
    cases h
  · cases h
def ix_NoRow : D → Option Bool := fun d => match d with
  | .exc c _ => if c = 2 then some false else if c = 3 then some false else if c = 4 then some false else if c = 5 then some true else if c = 6 then some false else if c = 7 then some false else if c = 8 then some false else if c = 9 then some false else if c = 10 then some false else none
  | _ => none
theorem ix_NoRow_ok (T : Tx K mg cl) : ∀ d b, ix_NoRow d = some b → IsKX (tb K cl) d (.ref (cl 5)) b := by
  intro d b h
  unfold ix_NoRow at h
  split at h
  · rename_i k l
    rcases G.pick h with ⟨rfl, rfl⟩ | ⟨_, h⟩
    · exact ⟨T.e_NoRatio, T.ix_NoRatio_NoRow⟩
    rcases G.pick h with ⟨rfl, rfl⟩ | ⟨_, h⟩
    · exact ⟨T.e_NoAsk, T.ix_NoAsk_NoRow⟩
    rcases G.pick h with ⟨rfl, rfl⟩ | ⟨_, h⟩
    · exact ⟨T.e_RowError, T.ix_RowError_NoRow⟩
    rcases G.pick h with ⟨rfl, rfl⟩ | ⟨_, h⟩
    · exact ⟨T.e_NoRow, T.ix_NoRow_NoRow⟩
    rcases G.pick h with ⟨rfl, rfl⟩ | ⟨_, h⟩
    · exact ⟨T.e_NoName, T.ix_NoName_NoRow⟩
    rcases G.pick h with ⟨rfl, rfl⟩ | ⟨_, h⟩
    · exact ⟨T.e_Twice, T.ix_Twice_NoRow⟩
    rcases G.pick h with ⟨rfl, rfl⟩ | ⟨_, h⟩
    · exact ⟨T.e_TooMany, T.ix_TooMany_NoRow⟩
    rcases G.pick h with ⟨rfl, rfl⟩ | ⟨_, h⟩
    · exact ⟨T.e_Stuck, T.ix_Stuck_NoRow⟩
    rcases G.pick h with ⟨rfl, rfl⟩ | ⟨_, h⟩
    · exact ⟨T.e_Free, T.ix_Free_NoRow⟩
    cases h
  · cases h
def ix_NoAsk : D → Option Bool := fun d => match d with
  | .exc c _ => if c = 2 then some false else if c = 3 then some true else if c = 4 then some false else if c = 5 then some false else if c = 6 then some false else if c = 7 then some false else if c = 8 then some false else if c = 9 then some false else if c = 10 then some false else none
  | _ => none
theorem ix_NoAsk_ok (T : Tx K mg cl) : ∀ d b, ix_NoAsk d = some b → IsKX (tb K cl) d (.ref (cl 3)) b := by
  intro d b h
  unfold ix_NoAsk at h
  split at h
  · rename_i k l
    rcases G.pick h with ⟨rfl, rfl⟩ | ⟨_, h⟩
    · exact ⟨T.e_NoRatio, T.ix_NoRatio_NoAsk⟩
    rcases G.pick h with ⟨rfl, rfl⟩ | ⟨_, h⟩
    · exact ⟨T.e_NoAsk, T.ix_NoAsk_NoAsk⟩
    rcases G.pick h with ⟨rfl, rfl⟩ | ⟨_, h⟩
    · exact ⟨T.e_RowError, T.ix_RowError_NoAsk⟩
    rcases G.pick h with ⟨rfl, rfl⟩ | ⟨_, h⟩
    · exact ⟨T.e_NoRow, T.ix_NoRow_NoAsk⟩
    rcases G.pick h with ⟨rfl, rfl⟩ | ⟨_, h⟩
    · exact ⟨T.e_NoName, T.ix_NoName_NoAsk⟩
    rcases G.pick h with ⟨rfl, rfl⟩ | ⟨_, h⟩
    · exact ⟨T.e_Twice, T.ix_Twice_NoAsk⟩
    rcases G.pick h with ⟨rfl, rfl⟩ | ⟨_, h⟩
    · exact ⟨T.e_TooMany, T.ix_TooMany_NoAsk⟩
    rcases G.pick h with ⟨rfl, rfl⟩ | ⟨_, h⟩
    · exact ⟨T.e_Stuck, T.ix_Stuck_NoAsk⟩
    rcases G.pick h with ⟨rfl, rfl⟩ | ⟨_, h⟩
    · exact ⟨T.e_Free, T.ix_Free_NoAsk⟩
    cases h
  · cases h
def ix_NoRatio : D → Option Bool := fun d => match d with
  | .exc c _ => if c = 2 then some true else if c = 3 then some false else if c = 4 then some false else if c = 5 then some false else if c = 6 then some false else if c = 7 then some false else if c = 8 then some false else if c = 9 then some false else if c = 10 then some false else none
  | _ => none
theorem ix_NoRatio_ok (T : Tx K mg cl) : ∀ d b, ix_NoRatio d = some b → IsKX (tb K cl) d (.ref (cl 2)) b := by
  intro d b h
  unfold ix_NoRatio at h
  split at h
  · rename_i k l
    rcases G.pick h with ⟨rfl, rfl⟩ | ⟨_, h⟩
    · exact ⟨T.e_NoRatio, T.ix_NoRatio_NoRatio⟩
    rcases G.pick h with ⟨rfl, rfl⟩ | ⟨_, h⟩
    · exact ⟨T.e_NoAsk, T.ix_NoAsk_NoRatio⟩
    rcases G.pick h with ⟨rfl, rfl⟩ | ⟨_, h⟩
    · exact ⟨T.e_RowError, T.ix_RowError_NoRatio⟩
    rcases G.pick h with ⟨rfl, rfl⟩ | ⟨_, h⟩
    · exact ⟨T.e_NoRow, T.ix_NoRow_NoRatio⟩
    rcases G.pick h with ⟨rfl, rfl⟩ | ⟨_, h⟩
    · exact ⟨T.e_NoName, T.ix_NoName_NoRatio⟩
    rcases G.pick h with ⟨rfl, rfl⟩ | ⟨_, h⟩
    · exact ⟨T.e_Twice, T.ix_Twice_NoRatio⟩
    rcases G.pick h with ⟨rfl, rfl⟩ | ⟨_, h⟩
    · exact ⟨T.e_TooMany, T.ix_TooMany_NoRatio⟩
    rcases G.pick h with ⟨rfl, rfl⟩ | ⟨_, h⟩
    · exact ⟨T.e_Stuck, T.ix_Stuck_NoRatio⟩
    rcases G.pick h with ⟨rfl, rfl⟩ | ⟨_, h⟩
    · exact ⟨T.e_Free, T.ix_Free_NoRatio⟩
    cases h
  · cases h
def ix_Free : D → Option Bool := fun d => match d with
  | .exc c _ => if c = 2 then some false else if c = 3 then some false else if c = 4 then some false else if c = 5 then some false else if c = 6 then some false else if c = 7 then some false else if c = 8 then some false else if c = 9 then some false else if c = 10 then some true else none
  | _ => none
theorem ix_Free_ok (T : Tx K mg cl) : ∀ d b, ix_Free d = some b → IsKX (tb K cl) d (.ref (cl 10)) b := by
  intro d b h
  unfold ix_Free at h
  split at h
  · rename_i k l
    rcases G.pick h with ⟨rfl, rfl⟩ | ⟨_, h⟩
    · exact ⟨T.e_NoRatio, T.ix_NoRatio_Free⟩
    rcases G.pick h with ⟨rfl, rfl⟩ | ⟨_, h⟩
    · exact ⟨T.e_NoAsk, T.ix_NoAsk_Free⟩
    rcases G.pick h with ⟨rfl, rfl⟩ | ⟨_, h⟩
    · exact ⟨T.e_RowError, T.ix_RowError_Free⟩
    rcases G.pick h with ⟨rfl, rfl⟩ | ⟨_, h⟩
    · exact ⟨T.e_NoRow, T.ix_NoRow_Free⟩
    rcases G.pick h with ⟨rfl, rfl⟩ | ⟨_, h⟩
    · exact ⟨T.e_NoName, T.ix_NoName_Free⟩
    rcases G.pick h with ⟨rfl, rfl⟩ | ⟨_, h⟩
    · exact ⟨T.e_Twice, T.ix_Twice_Free⟩
    rcases G.pick h with ⟨rfl, rfl⟩ | ⟨_, h⟩
    · exact ⟨T.e_TooMany, T.ix_TooMany_Free⟩
    rcases G.pick h with ⟨rfl, rfl⟩ | ⟨_, h⟩
    · exact ⟨T.e_Stuck, T.ix_Stuck_Free⟩
    rcases G.pick h with ⟨rfl, rfl⟩ | ⟨_, h⟩
    · exact ⟨T.e_Free, T.ix_Free_Free⟩
    cases h
  · cases h
def ix_Stuck : D → Option Bool := fun d => match d with
  | .exc c _ => if c = 2 then some false else if c = 3 then some false else if c = 4 then some false else if c = 5 then some false else if c = 6 then some false else if c = 7 then some false else if c = 8 then some false else if c = 9 then some true else if c = 10 then some false else none
  | _ => none
theorem ix_Stuck_ok (T : Tx K mg cl) : ∀ d b, ix_Stuck d = some b → IsKX (tb K cl) d (.ref (cl 9)) b := by
  intro d b h
  unfold ix_Stuck at h
  split at h
  · rename_i k l
    rcases G.pick h with ⟨rfl, rfl⟩ | ⟨_, h⟩
    · exact ⟨T.e_NoRatio, T.ix_NoRatio_Stuck⟩
    rcases G.pick h with ⟨rfl, rfl⟩ | ⟨_, h⟩
    · exact ⟨T.e_NoAsk, T.ix_NoAsk_Stuck⟩
    rcases G.pick h with ⟨rfl, rfl⟩ | ⟨_, h⟩
    · exact ⟨T.e_RowError, T.ix_RowError_Stuck⟩
    rcases G.pick h with ⟨rfl, rfl⟩ | ⟨_, h⟩
    · exact ⟨T.e_NoRow, T.ix_NoRow_Stuck⟩
    rcases G.pick h with ⟨rfl, rfl⟩ | ⟨_, h⟩
    · exact ⟨T.e_NoName, T.ix_NoName_Stuck⟩
    rcases G.pick h with ⟨rfl, rfl⟩ | ⟨_, h⟩
    · exact ⟨T.e_Twice, T.ix_Twice_Stuck⟩
    rcases G.pick h with ⟨rfl, rfl⟩ | ⟨_, h⟩
    · exact ⟨T.e_TooMany, T.ix_TooMany_Stuck⟩
    rcases G.pick h with ⟨rfl, rfl⟩ | ⟨_, h⟩
    · exact ⟨T.e_Stuck, T.ix_Stuck_Stuck⟩
    rcases G.pick h with ⟨rfl, rfl⟩ | ⟨_, h⟩
    · exact ⟨T.e_Free, T.ix_Free_Stuck⟩
    cases h
  · cases h
def ix_WorkError : D → Option Bool := fun d => match d with
  | .exc c _ => if c = 2 then some true else if c = 3 then some true else if c = 4 then some true else if c = 5 then some true else if c = 6 then some true else if c = 7 then some true else if c = 8 then some true else if c = 9 then some true else if c = 10 then some true else none
  | _ => none
theorem ix_WorkError_ok (T : Tx K mg cl) : ∀ d b, ix_WorkError d = some b → IsKX (tb K cl) d (.ref (cl 1)) b := by
  intro d b h
  unfold ix_WorkError at h
  split at h
  · rename_i k l
    rcases G.pick h with ⟨rfl, rfl⟩ | ⟨_, h⟩
    · exact ⟨T.e_NoRatio, T.ix_NoRatio_WorkError⟩
    rcases G.pick h with ⟨rfl, rfl⟩ | ⟨_, h⟩
    · exact ⟨T.e_NoAsk, T.ix_NoAsk_WorkError⟩
    rcases G.pick h with ⟨rfl, rfl⟩ | ⟨_, h⟩
    · exact ⟨T.e_RowError, T.ix_RowError_WorkError⟩
    rcases G.pick h with ⟨rfl, rfl⟩ | ⟨_, h⟩
    · exact ⟨T.e_NoRow, T.ix_NoRow_WorkError⟩
    rcases G.pick h with ⟨rfl, rfl⟩ | ⟨_, h⟩
    · exact ⟨T.e_NoName, T.ix_NoName_WorkError⟩
    rcases G.pick h with ⟨rfl, rfl⟩ | ⟨_, h⟩
    · exact ⟨T.e_Twice, T.ix_Twice_WorkError⟩
    rcases G.pick h with ⟨rfl, rfl⟩ | ⟨_, h⟩
    · exact ⟨T.e_TooMany, T.ix_TooMany_WorkError⟩
    rcases G.pick h with ⟨rfl, rfl⟩ | ⟨_, h⟩
    · exact ⟨T.e_Stuck, T.ix_Stuck_WorkError⟩
    rcases G.pick h with ⟨rfl, rfl⟩ | ⟨_, h⟩
    · exact ⟨T.e_Free, T.ix_Free_WorkError⟩
    cases h
  · cases h
def ix_ValueError : D → Option Bool := fun d => match d with
  | .exc c _ => if c = 2 then some true else if c = 3 then some true else if c = 4 then some true else if c = 5 then some true else if c = 6 then some true else if c = 7 then some true else if c = 8 then some true else if c = 9 then some true else if c = 10 then some true else none
  | _ => none
theorem ix_ValueError_ok (T : Tx K mg cl) : ∀ d b, ix_ValueError d = some b → IsKX (tb K cl) d (.type "ValueError") b := by
  intro d b h
  unfold ix_ValueError at h
  split at h
  · rename_i k l
    rcases G.pick h with ⟨rfl, rfl⟩ | ⟨_, h⟩
    · exact ⟨T.e_NoRatio, T.ix_NoRatio_ValueError⟩
    rcases G.pick h with ⟨rfl, rfl⟩ | ⟨_, h⟩
    · exact ⟨T.e_NoAsk, T.ix_NoAsk_ValueError⟩
    rcases G.pick h with ⟨rfl, rfl⟩ | ⟨_, h⟩
    · exact ⟨T.e_RowError, T.ix_RowError_ValueError⟩
    rcases G.pick h with ⟨rfl, rfl⟩ | ⟨_, h⟩
    · exact ⟨T.e_NoRow, T.ix_NoRow_ValueError⟩
    rcases G.pick h with ⟨rfl, rfl⟩ | ⟨_, h⟩
    · exact ⟨T.e_NoName, T.ix_NoName_ValueError⟩
    rcases G.pick h with ⟨rfl, rfl⟩ | ⟨_, h⟩
    · exact ⟨T.e_Twice, T.ix_Twice_ValueError⟩
    rcases G.pick h with ⟨rfl, rfl⟩ | ⟨_, h⟩
    · exact ⟨T.e_TooMany, T.ix_TooMany_ValueError⟩
    rcases G.pick h with ⟨rfl, rfl⟩ | ⟨_, h⟩
    · exact ⟨T.e_Stuck, T.ix_Stuck_ValueError⟩
    rcases G.pick h with ⟨rfl, rfl⟩ | ⟨_, h⟩
    · exact ⟨T.e_Free, T.ix_Free_ValueError⟩
    cases h
  · cases h
def ix_RowError : D → Option Bool := fun d => match d with
  | .exc c _ => if c = 2 then some false else if c = 3 then some false else if c = 4 then some true else if c = 5 then some true else if c = 6 then some true else if c = 7 then some true else if c = 8 then some true else if c = 9 then some false else if c = 10 then some false else none
  | _ => none
theorem ix_RowError_ok (T : Tx K mg cl) : ∀ d b, ix_RowError d = some b → IsKX (tb K cl) d (.ref (cl 4)) b := by
  intro d b h
  unfold ix_RowError at h
  split at h
  · rename_i k l
    rcases G.pick h with ⟨rfl, rfl⟩ | ⟨_, h⟩
    · exact ⟨T.e_NoRatio, T.ix_NoRatio_RowError⟩
    rcases G.pick h with ⟨rfl, rfl⟩ | ⟨_, h⟩
    · exact ⟨T.e_NoAsk, T.ix_NoAsk_RowError⟩
    rcases G.pick h with ⟨rfl, rfl⟩ | ⟨_, h⟩
    · exact ⟨T.e_RowError, T.ix_RowError_RowError⟩
    rcases G.pick h with ⟨rfl, rfl⟩ | ⟨_, h⟩
    · exact ⟨T.e_NoRow, T.ix_NoRow_RowError⟩
    rcases G.pick h with ⟨rfl, rfl⟩ | ⟨_, h⟩
    · exact ⟨T.e_NoName, T.ix_NoName_RowError⟩
    rcases G.pick h with ⟨rfl, rfl⟩ | ⟨_, h⟩
    · exact ⟨T.e_Twice, T.ix_Twice_RowError⟩
    rcases G.pick h with ⟨rfl, rfl⟩ | ⟨_, h⟩
    · exact ⟨T.e_TooMany, T.ix_TooMany_RowError⟩
    rcases G.pick h with ⟨rfl, rfl⟩ | ⟨_, h⟩
    · exact ⟨T.e_Stuck, T.ix_Stuck_RowError⟩
    rcases G.pick h with ⟨rfl, rfl⟩ | ⟨_, h⟩
    · exact ⟨T.e_Free, T.ix_Free_RowError⟩
    cases h
  · cases h
theorem xok_name (T : Tx K mg cl) : FldX (tb K cl) "name" := by
  intro c i h
  replace h : flIx (xl c) "name" = some i := h
  rcases xl_cases c with rfl | rfl | rfl | rfl | rfl | rfl | rfl | e
  · exact absurd (h.symm.trans (by decide +kernel : flIx (xl 4) "name" = none)) nofun
  · exact absurd (h.symm.trans (by decide +kernel : flIx (xl 5) "name" = none)) nofun
  · exact absurd (h.symm.trans (by decide +kernel : flIx (xl 6) "name" = none)) nofun
  · exact absurd (h.symm.trans (by decide +kernel : flIx (xl 7) "name" = none)) nofun
  · exact absurd (h.symm.trans (by decide +kernel : flIx (xl 8) "name" = none)) nofun
  · exact absurd (h.symm.trans (by decide +kernel : flIx (xl 9) "name" = none)) nofun
  · exact ⟨T.xf_Free, T.nx_Free_name⟩
  · rw [e] at h
    cases h
theorem xok_row (T : Tx K mg cl) : FldX (tb K cl) "row" := by
  intro c i h
  replace h : flIx (xl c) "row" = some i := h
  rcases xl_cases c with rfl | rfl | rfl | rfl | rfl | rfl | rfl | e
  · exact ⟨T.xf_RowError, T.nx_RowError_row⟩
  · exact ⟨T.xf_NoRow, T.nx_NoRow_row⟩
  · exact ⟨T.xf_NoName, T.nx_NoName_row⟩
  · exact ⟨T.xf_Twice, T.nx_Twice_row⟩
  · exact ⟨T.xf_TooMany, T.nx_TooMany_row⟩
  · exact absurd (h.symm.trans (by decide +kernel : flIx (xl 9) "row" = none)) nofun
  · exact absurd (h.symm.trans (by decide +kernel : flIx (xl 10) "row" = none)) nofun
  · rw [e] at h
    cases h
theorem xok_rows (T : Tx K mg cl) : FldX (tb K cl) "rows" := by
  intro c i h
  replace h : flIx (xl c) "rows" = some i := h
  rcases xl_cases c with rfl | rfl | rfl | rfl | rfl | rfl | rfl | e
  · exact absurd (h.symm.trans (by decide +kernel : flIx (xl 4) "rows" = none)) nofun
  · exact absurd (h.symm.trans (by decide +kernel : flIx (xl 5) "rows" = none)) nofun
  · exact absurd (h.symm.trans (by decide +kernel : flIx (xl 6) "rows" = none)) nofun
  · exact absurd (h.symm.trans (by decide +kernel : flIx (xl 7) "rows" = none)) nofun
  · exact absurd (h.symm.trans (by decide +kernel : flIx (xl 8) "rows" = none)) nofun
  · exact ⟨T.xf_Stuck, T.nx_Stuck_rows⟩
  · exact absurd (h.symm.trans (by decide +kernel : flIx (xl 10) "rows" = none)) nofun
  · rw [e] at h
    cases h
theorem xok_word (T : Tx K mg cl) : FldX (tb K cl) "word" := by
  intro c i h
  replace h : flIx (xl c) "word" = some i := h
  rcases xl_cases c with rfl | rfl | rfl | rfl | rfl | rfl | rfl | e
  · exact ⟨T.xf_RowError, T.nx_RowError_word⟩
  · exact ⟨T.xf_NoRow, T.nx_NoRow_word⟩
  · exact ⟨T.xf_NoName, T.nx_NoName_word⟩
  · exact ⟨T.xf_Twice, T.nx_Twice_word⟩
  · exact ⟨T.xf_TooMany, T.nx_TooMany_word⟩
  · exact absurd (h.symm.trans (by decide +kernel : flIx (xl 9) "word" = none)) nofun
  · exact absurd (h.symm.trans (by decide +kernel : flIx (xl 10) "word" = none)) nofun
  · rw [e] at h
    cases h
theorem xx_RowError_word : flIx (xl 4) "word" = some 0 := by decide +kernel
theorem xx_RowError_row : flIx (xl 4) "row" = some 1 := by decide +kernel
theorem xx_NoRow_word : flIx (xl 5) "word" = some 0 := by decide +kernel
theorem xx_NoRow_row : flIx (xl 5) "row" = some 1 := by decide +kernel
theorem xx_NoName_word : flIx (xl 6) "word" = some 0 := by decide +kernel
theorem xx_NoName_row : flIx (xl 6) "row" = some 1 := by decide +kernel
theorem xx_Twice_word : flIx (xl 7) "word" = some 0 := by decide +kernel
theorem xx_Twice_row : flIx (xl 7) "row" = some 1 := by decide +kernel
theorem xx_TooMany_word : flIx (xl 8) "word" = some 0 := by decide +kernel
theorem xx_TooMany_row : flIx (xl 8) "row" = some 1 := by decide +kernel
theorem xx_Stuck_rows : flIx (xl 9) "rows" = some 0 := by decide +kernel
theorem xx_Free_name : flIx (xl 10) "name" = some 0 := by decide +kernel
theorem sc_l_mixed : FnScope ["_law_cell", "_law_k", "_law_mix"] ["_law_cell", "_law_k"] (defScope s_l_mixed) := ⟨rfl, rfl, rfl, by decide +kernel, rfl, by decide +kernel, by decide +kernel⟩
def c_l_mixed : CS :=
  (cSeq (cAsg (gN 2) (cBin modD (cBin mulD (cBin addD (cBin addD (cVar 0) (cBin mulD (cC (.int 7919)) (cVar 1))) (cC (.int 11))) (cC (.int 48271))) (cC (.int 2147483647))))
  (cRet (cBin modD (cBin addD (cBin mulD (cVar 2) (cVar 2)) (cBin mulD (cC (.int 40692)) (cVar 2))) (cC (.int 2147483399)))))
def f_l_mixed : FD := runDef c_l_mixed 3
theorem r_l_mixed {d0 d1 : D} {ah : AH} : f_l_mixed [d0, d1] ah = run1 (c_l_mixed [.val d0, .val d1, .no] ah) := (ev_run).trans rfl
theorem l_mixed_body (T : Tx K mg cl) {f : Addr} {cdv : Value} {A : Around} {outer : List Env} {s : Shared} {H0 : Hp} {E : XK} {w0 : Wd} (hr : Room 0 (A.deeper (envOfC "_law_mixed" (defScope s_l_mixed) s.heap.objs.size f cdv))) :
    PSs (cxOf (L2.CX P w) P w K mg base ["_law_cell", "_law_k", "_law_mix"] "_law_mixed" (defScope s_l_mixed) f cdv A outer s H0 E) (defBody s_l_mixed) (tS (tb K cl) (fun cls d _ H => E cls d H) w0 ⟨H0, 0⟩ c_l_mixed) := by
  exact (z_cons (z_set 2 sc_l_mixed.nd (q_mod (q_mul (q_add (q_add (q_var 0) (q_mul q_int (q_var 1))) q_int) q_int) q_int))
    (z_one (z_ret (q_mod (q_add (q_mul (q_var 2) (q_var 2)) (q_mul q_int (q_var 2))) q_int))))
theorem ok_l_mixed (T : Tx K mg cl) : FOk P w K mg base (tb K cl) 1 "_law_mixed" f_l_mixed 2 [] := by
  obtain ⟨f, fd, F, hm⟩ := T.d_l_mixed
  exact ⟨⟨f, fd, ["_law_cell", "_law_k"], [], _, ok_def (t := tb K cl) F sc_l_mixed (fun cdv A outer s H0 E w0 hr => l_mixed_body T hr), hm, F.kp, (F.bindsN fun _ _ _ _ _ _ us hl => match us, hl with | [_, _], _ => rfl), .nil, rfl⟩⟩
theorem sc_l_cell_at : FnScope ["_law_script", "_law_k"] ["_law_script", "_law_k"] (defScope s_l_cell_at) := ⟨rfl, rfl, rfl, by decide +kernel, rfl, by decide +kernel, by decide +kernel⟩
def c_l_cell_at : CS :=
  (cSeq (cIfS (cTest (cBin ltD (cVar 1) (cCB lenAD (cCons (cVar 0) cNil)))) (cRet (cBin idxAD (cVar 0) (cVar 1))) cSkip)
  (cRet (cBin mulD (cBin mulD (cBin addD (cVar 1) (cC (.int 3))) (cBin addD (cVar 1) (cC (.int 7)))) (cC (.int 7919)))))
def f_l_cell_at : FD := runDef c_l_cell_at 2
theorem r_l_cell_at {d0 d1 : D} {ah : AH} : f_l_cell_at [d0, d1] ah = run1 (c_l_cell_at [.val d0, .val d1] ah) := (ev_run).trans rfl
theorem l_cell_at_body (T : Tx K mg cl) {f : Addr} {cdv : Value} {A : Around} {outer : List Env} {s : Shared} {H0 : Hp} {E : XK} {w0 : Wd} (hr : Room 0 (A.deeper (envOfC "_law_cell_at" (defScope s_l_cell_at) s.heap.objs.size f cdv))) :
    PSs (cxOf (L2.CX P w) P w K mg base ["_law_script", "_law_k"] "_law_cell_at" (defScope s_l_cell_at) f cdv A outer s H0 E) (defBody s_l_cell_at) (tS (tb K cl) (fun cls d _ H => E cls d H) w0 ⟨H0, 0⟩ c_l_cell_at) := by
  have hu := hr.units
  exact (z_cons (z_if (q_tcmp op_lt bs_cmpI (q_var 1) (q_cb call_lenX cs_lenA T.b_len (by decide +kernel) (qa_cons (q_var 0) qa_nil)) (nomark _)) (z_one (z_ret (q_idxA (q_var 0) (q_var 1) hu))) z_nil)
    (z_one (z_ret (q_mul (q_mul (q_add (q_var 1) q_int) (q_add (q_var 1) q_int)) q_int))))
theorem ok_l_cell_at (T : Tx K mg cl) : FOk P w K mg base (tb K cl) 1 "_law_cell_at" f_l_cell_at 2 [] := by
  obtain ⟨f, fd, F, hm⟩ := T.d_l_cell_at
  exact ⟨⟨f, fd, ["_law_script", "_law_k"], [], _, ok_def (t := tb K cl) F sc_l_cell_at (fun cdv A outer s H0 E w0 hr => l_cell_at_body T hr), hm, F.kp, (F.bindsN fun _ _ _ _ _ _ us hl => match us, hl with | [_, _], _ => rfl), .nil, rfl⟩⟩
theorem sc_NoRow_init : FnScope ["self", "row", "word"] ["self", "row", "word"] (defScope s_NoRow_init) := ⟨rfl, rfl, rfl, by decide +kernel, rfl, by decide +kernel, by decide +kernel⟩
theorem ok_NoRow_init (T : Tx K mg cl) : XOk P w K mg base (tb K cl) 1 "NoRow" 5 fx3 2 [] := by
  obtain ⟨f, fd, F, hi, ht⟩ := T.d_NoRow_init
  obtain ⟨ds, hv, hb⟩ := F.binds1 (ps := ["self", "row", "word"]) 3 1 (by simp) rfl (fun _ _ _ _ _ _ _ us its h1 h2 => match us, its, h1, h2 with | [_, _, _], [_], _, _ => ⟨_, rfl, rfl⟩)
  exact ⟨⟨f, fd, ["self", "row", "word"], ds, _, ok_xinit (t := tb K cl) (cls := 5) (n := 2) (F := fx3) F sc_NoRow_init rfl (fun cdv A outer s H E hr => pss_cons (ps_expr (pe_winit T.w_WorkError T.g_WorkError (pa_cons (pv 0) (pa_cons pe_str pa_nil)))) (pss_cons (ps_ost (pv 0) (pv 1)) (pss_one (ps_ost (pv 0) (pv 2))))) (fun vs H Q E h => xread3 T.ox_NoRow T.nx_NoRow_row T.nx_NoRow_word rfl h), T.ox_NoRow, hi, ht, T.g_NoRow, hb, hv, rfl⟩⟩
theorem ok_NoRow_init_1 (T : Tx K mg cl) : XOk P w K mg base (tb K cl) 1 "NoRow" 5 fx3 2 [.str ""] := by
  obtain ⟨f, fd, F, hi, ht⟩ := T.d_NoRow_init
  obtain ⟨ds, hv, hb⟩ := F.binds1 (ps := ["self", "row", "word"]) 2 0 (by simp) rfl (fun _ _ _ _ _ _ _ us its h1 h2 => match us, its, h1, h2 with | [_, _], [_], _, _ => ⟨_, rfl, rfl⟩)
  exact ⟨⟨f, fd, ["self", "row", "word"], ds, _, ok_xinit (t := tb K cl) (cls := 5) (n := 2) (F := fx3) F sc_NoRow_init rfl (fun cdv A outer s H E hr => pss_cons (ps_expr (pe_winit T.w_WorkError T.g_WorkError (pa_cons (pv 0) (pa_cons pe_str pa_nil)))) (pss_cons (ps_ost (pv 0) (pv 1)) (pss_one (ps_ost (pv 0) (pv 2))))) (fun vs H Q E h => xread3 T.ox_NoRow T.nx_NoRow_row T.nx_NoRow_word rfl h), T.ox_NoRow, hi, ht, T.g_NoRow, hb, hv, rfl⟩⟩
theorem sc_NoName_init : FnScope ["self", "row", "word"] ["self", "row", "word"] (defScope s_NoName_init) := ⟨rfl, rfl, rfl, by decide +kernel, rfl, by decide +kernel, by decide +kernel⟩
theorem ok_NoName_init (T : Tx K mg cl) : XOk P w K mg base (tb K cl) 1 "NoName" 6 fx3 2 [] := by
  obtain ⟨f, fd, F, hi, ht⟩ := T.d_NoName_init
  obtain ⟨ds, hv, hb⟩ := F.binds1 (ps := ["self", "row", "word"]) 3 1 (by simp) rfl (fun _ _ _ _ _ _ _ us its h1 h2 => match us, its, h1, h2 with | [_, _, _], [_], _, _ => ⟨_, rfl, rfl⟩)
  exact ⟨⟨f, fd, ["self", "row", "word"], ds, _, ok_xinit (t := tb K cl) (cls := 6) (n := 2) (F := fx3) F sc_NoName_init rfl (fun cdv A outer s H E hr => pss_cons (ps_expr (pe_winit T.w_WorkError T.g_WorkError (pa_cons (pv 0) (pa_cons pe_str pa_nil)))) (pss_cons (ps_ost (pv 0) (pv 1)) (pss_one (ps_ost (pv 0) (pv 2))))) (fun vs H Q E h => xread3 T.ox_NoName T.nx_NoName_row T.nx_NoName_word rfl h), T.ox_NoName, hi, ht, T.g_NoName, hb, hv, rfl⟩⟩
theorem ok_NoName_init_1 (T : Tx K mg cl) : XOk P w K mg base (tb K cl) 1 "NoName" 6 fx3 2 [.str ""] := by
  obtain ⟨f, fd, F, hi, ht⟩ := T.d_NoName_init
  obtain ⟨ds, hv, hb⟩ := F.binds1 (ps := ["self", "row", "word"]) 2 0 (by simp) rfl (fun _ _ _ _ _ _ _ us its h1 h2 => match us, its, h1, h2 with | [_, _], [_], _, _ => ⟨_, rfl, rfl⟩)
  exact ⟨⟨f, fd, ["self", "row", "word"], ds, _, ok_xinit (t := tb K cl) (cls := 6) (n := 2) (F := fx3) F sc_NoName_init rfl (fun cdv A outer s H E hr => pss_cons (ps_expr (pe_winit T.w_WorkError T.g_WorkError (pa_cons (pv 0) (pa_cons pe_str pa_nil)))) (pss_cons (ps_ost (pv 0) (pv 1)) (pss_one (ps_ost (pv 0) (pv 2))))) (fun vs H Q E h => xread3 T.ox_NoName T.nx_NoName_row T.nx_NoName_word rfl h), T.ox_NoName, hi, ht, T.g_NoName, hb, hv, rfl⟩⟩
theorem sc_Twice_init : FnScope ["self", "row", "word"] ["self", "row", "word"] (defScope s_Twice_init) := ⟨rfl, rfl, rfl, by decide +kernel, rfl, by decide +kernel, by decide +kernel⟩
theorem ok_Twice_init (T : Tx K mg cl) : XOk P w K mg base (tb K cl) 1 "Twice" 7 fx3 2 [] := by
  obtain ⟨f, fd, F, hi, ht⟩ := T.d_Twice_init
  obtain ⟨ds, hv, hb⟩ := F.binds1 (ps := ["self", "row", "word"]) 3 1 (by simp) rfl (fun _ _ _ _ _ _ _ us its h1 h2 => match us, its, h1, h2 with | [_, _, _], [_], _, _ => ⟨_, rfl, rfl⟩)
  exact ⟨⟨f, fd, ["self", "row", "word"], ds, _, ok_xinit (t := tb K cl) (cls := 7) (n := 2) (F := fx3) F sc_Twice_init rfl (fun cdv A outer s H E hr => pss_cons (ps_expr (pe_winit T.w_WorkError T.g_WorkError (pa_cons (pv 0) (pa_cons pe_str pa_nil)))) (pss_cons (ps_ost (pv 0) (pv 1)) (pss_one (ps_ost (pv 0) (pv 2))))) (fun vs H Q E h => xread3 T.ox_Twice T.nx_Twice_row T.nx_Twice_word rfl h), T.ox_Twice, hi, ht, T.g_Twice, hb, hv, rfl⟩⟩
theorem ok_Twice_init_1 (T : Tx K mg cl) : XOk P w K mg base (tb K cl) 1 "Twice" 7 fx3 2 [.str ""] := by
  obtain ⟨f, fd, F, hi, ht⟩ := T.d_Twice_init
  obtain ⟨ds, hv, hb⟩ := F.binds1 (ps := ["self", "row", "word"]) 2 0 (by simp) rfl (fun _ _ _ _ _ _ _ us its h1 h2 => match us, its, h1, h2 with | [_, _], [_], _, _ => ⟨_, rfl, rfl⟩)
  exact ⟨⟨f, fd, ["self", "row", "word"], ds, _, ok_xinit (t := tb K cl) (cls := 7) (n := 2) (F := fx3) F sc_Twice_init rfl (fun cdv A outer s H E hr => pss_cons (ps_expr (pe_winit T.w_WorkError T.g_WorkError (pa_cons (pv 0) (pa_cons pe_str pa_nil)))) (pss_cons (ps_ost (pv 0) (pv 1)) (pss_one (ps_ost (pv 0) (pv 2))))) (fun vs H Q E h => xread3 T.ox_Twice T.nx_Twice_row T.nx_Twice_word rfl h), T.ox_Twice, hi, ht, T.g_Twice, hb, hv, rfl⟩⟩
theorem sc_TooMany_init : FnScope ["self", "row", "word"] ["self", "row", "word"] (defScope s_TooMany_init) := ⟨rfl, rfl, rfl, by decide +kernel, rfl, by decide +kernel, by decide +kernel⟩
theorem ok_TooMany_init (T : Tx K mg cl) : XOk P w K mg base (tb K cl) 1 "TooMany" 8 fx3 2 [] := by
  obtain ⟨f, fd, F, hi, ht⟩ := T.d_TooMany_init
  obtain ⟨ds, hv, hb⟩ := F.binds1 (ps := ["self", "row", "word"]) 3 1 (by simp) rfl (fun _ _ _ _ _ _ _ us its h1 h2 => match us, its, h1, h2 with | [_, _, _], [_], _, _ => ⟨_, rfl, rfl⟩)
  exact ⟨⟨f, fd, ["self", "row", "word"], ds, _, ok_xinit (t := tb K cl) (cls := 8) (n := 2) (F := fx3) F sc_TooMany_init rfl (fun cdv A outer s H E hr => pss_cons (ps_expr (pe_winit T.w_WorkError T.g_WorkError (pa_cons (pv 0) (pa_cons pe_str pa_nil)))) (pss_cons (ps_ost (pv 0) (pv 1)) (pss_one (ps_ost (pv 0) (pv 2))))) (fun vs H Q E h => xread3 T.ox_TooMany T.nx_TooMany_row T.nx_TooMany_word rfl h), T.ox_TooMany, hi, ht, T.g_TooMany, hb, hv, rfl⟩⟩
theorem ok_TooMany_init_1 (T : Tx K mg cl) : XOk P w K mg base (tb K cl) 1 "TooMany" 8 fx3 2 [.str ""] := by
  obtain ⟨f, fd, F, hi, ht⟩ := T.d_TooMany_init
  obtain ⟨ds, hv, hb⟩ := F.binds1 (ps := ["self", "row", "word"]) 2 0 (by simp) rfl (fun _ _ _ _ _ _ _ us its h1 h2 => match us, its, h1, h2 with | [_, _], [_], _, _ => ⟨_, rfl, rfl⟩)
  exact ⟨⟨f, fd, ["self", "row", "word"], ds, _, ok_xinit (t := tb K cl) (cls := 8) (n := 2) (F := fx3) F sc_TooMany_init rfl (fun cdv A outer s H E hr => pss_cons (ps_expr (pe_winit T.w_WorkError T.g_WorkError (pa_cons (pv 0) (pa_cons pe_str pa_nil)))) (pss_cons (ps_ost (pv 0) (pv 1)) (pss_one (ps_ost (pv 0) (pv 2))))) (fun vs H Q E h => xread3 T.ox_TooMany T.nx_TooMany_row T.nx_TooMany_word rfl h), T.ox_TooMany, hi, ht, T.g_TooMany, hb, hv, rfl⟩⟩
theorem sc_l_of_rows : FnScope ["_law_k", "_law_row", "_law_word"] ["_law_k", "_law_row", "_law_word"] (defScope s_l_of_rows) := ⟨rfl, rfl, rfl, by decide +kernel, rfl, by decide +kernel, by decide +kernel⟩
def c_l_of_rows : CS :=
  (cSeq (cIfS (cAndT (cTest (cBin isND (cVar 2) (cC .non))) (cTest (cBin ltD (cVar 0) (cC (.int 2))))) (cRet (cIf (cTest (cBin eqD (cVar 0) (cC (.int 0)))) (cMkX 5 (fun _ => fx3) 2 [.str ""] (cCons (cVar 1) cNil)) (cMkX 6 (fun _ => fx3) 2 [.str ""] (cCons (cVar 1) cNil)))) cSkip)
  (cSeq (cIfS (cTest (cBin isND (cVar 2) (cC .non))) (cRet (cIf (cTest (cBin eqD (cVar 0) (cC (.int 2)))) (cMkX 7 (fun _ => fx3) 2 [.str ""] (cCons (cVar 1) cNil)) (cMkX 8 (fun _ => fx3) 2 [.str ""] (cCons (cVar 1) cNil)))) cSkip)
  (cSeq (cIfS (cTest (cBin ltD (cVar 0) (cC (.int 2)))) (cRet (cIf (cTest (cBin eqD (cVar 0) (cC (.int 0)))) (cMkX 5 (fun _ => fx3) 2 [] (cCons (cVar 1) (cCons (cVar 2) cNil))) (cMkX 6 (fun _ => fx3) 2 [] (cCons (cVar 1) (cCons (cVar 2) cNil))))) cSkip)
  (cRet (cIf (cTest (cBin eqD (cVar 0) (cC (.int 2)))) (cMkX 7 (fun _ => fx3) 2 [] (cCons (cVar 1) (cCons (cVar 2) cNil))) (cMkX 8 (fun _ => fx3) 2 [] (cCons (cVar 1) (cCons (cVar 2) cNil))))))))
def f_l_of_rows : FD := runDef c_l_of_rows 3
theorem r_l_of_rows {d0 d1 d2 : D} {ah : AH} : f_l_of_rows [d0, d1, d2] ah = run1 (c_l_of_rows [.val d0, .val d1, .val d2] ah) := (ev_run).trans rfl
theorem l_of_rows_body (T : Tx K mg cl) {f : Addr} {cdv : Value} {A : Around} {outer : List Env} {s : Shared} {H0 : Hp} {E : XK} {w0 : Wd} (hr : Room 2 (A.deeper (envOfC "_law_of_rows" (defScope s_l_of_rows) s.heap.objs.size f cdv))) :
    PSs (cxOf (L2.CX P w) P w K mg base ["_law_k", "_law_row", "_law_word"] "_law_of_rows" (defScope s_l_of_rows) f cdv A outer s H0 E) (defBody s_l_of_rows) (tS (tb K cl) (fun cls d _ H => E cls d H) w0 ⟨H0, 0⟩ c_l_of_rows) := by
  have hu := hr.units
  exact (z_cons (z_if (PW.pt (q_andT (q_tcmp op_isN bs_isN (q_var 2) q_non (nomark _)) (q_and1 (q_tcmp op_lt bs_cmpI (q_var 0) q_int (nomark _))))) (z_one (z_ret (q_if (q_tcmp (op_eqA hu) bs_eq (q_var 0) q_int (nomark _)) (q_mkX 5 (ok_NoRow_init_1 T) (fx3_len rfl) (hr.mono (by decide)) (qa_cons (q_var 1) qa_nil)) (q_mkX 6 (ok_NoName_init_1 T) (fx3_len rfl) (hr.mono (by decide)) (qa_cons (q_var 1) qa_nil))))) z_nil)
    (z_cons (z_if (q_tcmp op_isN bs_isN (q_var 2) q_non (nomark _)) (z_one (z_ret (q_if (q_tcmp (op_eqA hu) bs_eq (q_var 0) q_int (nomark _)) (q_mkX 7 (ok_Twice_init_1 T) (fx3_len rfl) (hr.mono (by decide)) (qa_cons (q_var 1) qa_nil)) (q_mkX 8 (ok_TooMany_init_1 T) (fx3_len rfl) (hr.mono (by decide)) (qa_cons (q_var 1) qa_nil))))) z_nil)
    (z_cons (z_if (q_tcmp op_lt bs_cmpI (q_var 0) q_int (nomark _)) (z_one (z_ret (q_if (q_tcmp (op_eqA hu) bs_eq (q_var 0) q_int (nomark _)) (q_mkX 5 (ok_NoRow_init T) (fx3_len rfl) (hr.mono (by decide)) (qa_cons (q_var 1) (qa_cons (q_var 2) qa_nil))) (q_mkX 6 (ok_NoName_init T) (fx3_len rfl) (hr.mono (by decide)) (qa_cons (q_var 1) (qa_cons (q_var 2) qa_nil)))))) z_nil)
    (z_one (z_ret (q_if (q_tcmp (op_eqA hu) bs_eq (q_var 0) q_int (nomark _)) (q_mkX 7 (ok_Twice_init T) (fx3_len rfl) (hr.mono (by decide)) (qa_cons (q_var 1) (qa_cons (q_var 2) qa_nil))) (q_mkX 8 (ok_TooMany_init T) (fx3_len rfl) (hr.mono (by decide)) (qa_cons (q_var 1) (qa_cons (q_var 2) qa_nil)))))))))
theorem ok_l_of_rows (T : Tx K mg cl) : FOk P w K mg base (tb K cl) 3 "_law_of_rows" f_l_of_rows 3 [] := by
  obtain ⟨f, fd, F, hm⟩ := T.d_l_of_rows
  exact ⟨⟨f, fd, ["_law_k", "_law_row", "_law_word"], [], _, ok_def (t := tb K cl) F sc_l_of_rows (fun cdv A outer s H0 E w0 hr => l_of_rows_body T hr), hm, F.kp, (F.bindsN fun _ _ _ _ _ _ us hl => match us, hl with | [_, _, _], _ => rfl), .nil, rfl⟩⟩
theorem sc_Stuck_init : FnScope ["self", "rows"] ["self", "rows"] (defScope s_Stuck_init) := ⟨rfl, rfl, rfl, by decide +kernel, rfl, by decide +kernel, by decide +kernel⟩
theorem ok_Stuck_initA (T : Tx K mg cl) : XOkA P w K mg base (tb K cl) 1 "Stuck" 9 fx2A 1 [] := by
  obtain ⟨f, fd, F, hi, ht⟩ := T.d_Stuck_init
  exact ⟨⟨f, fd, ["self", "rows"], [], [], ok_xinitA (t := tb K cl) (cls := 9) (n := 1) (F := fx2A) F sc_Stuck_init rfl (fun cdv A outer s H E hr => pss_cons (ps_expr (pe_winit T.w_WorkError T.g_WorkError (pa_cons (pv 0) (pa_cons pe_str pa_nil)))) (pss_one (ps_ost (pv 0) (pe_callTy call_tuple_of (by rfl) T.b_tuple (by decide +kernel) (pa_cons (pv 1) pa_nil))))) (fun vs H Q E h => xread2A T.ox_Stuck T.nx_Stuck_rows rfl h), T.ox_Stuck, hi, ht, T.g_Stuck, (F.bindsN fun _ _ _ _ _ _ us hl => match us, hl with | [_, _], _ => rfl), .nil, rfl⟩⟩
theorem ok_Stuck_init (T : Tx K mg cl) : XOk P w K mg base (tb K cl) 1 "Stuck" 9 fx2 1 [] := by
  obtain ⟨f, fd, F, hi, ht⟩ := T.d_Stuck_init
  exact ⟨⟨f, fd, ["self", "rows"], [], [], ok_xinit (t := tb K cl) (cls := 9) (n := 1) (F := fx2) F sc_Stuck_init rfl (fun cdv A outer s H E hr => pss_cons (ps_expr (pe_winit T.w_WorkError T.g_WorkError (pa_cons (pv 0) (pa_cons pe_str pa_nil)))) (pss_one (ps_ost (pv 0) (pe_callTy call_tuple_of (by rfl) T.b_tuple (by decide +kernel) (pa_cons (pv 1) pa_nil))))) (fun vs H Q E h => xread2 T.ox_Stuck T.nx_Stuck_rows rfl h), T.ox_Stuck, hi, ht, T.g_Stuck, (F.bindsN fun _ _ _ _ _ _ us hl => match us, hl with | [_, _], _ => rfl), .nil, rfl⟩⟩
theorem sc_Free_init : FnScope ["self", "name"] ["self", "name"] (defScope s_Free_init) := ⟨rfl, rfl, rfl, by decide +kernel, rfl, by decide +kernel, by decide +kernel⟩
theorem ok_Free_init (T : Tx K mg cl) : XOk P w K mg base (tb K cl) 1 "Free" 10 fx1 1 [] := by
  obtain ⟨f, fd, F, hi, ht⟩ := T.d_Free_init
  exact ⟨⟨f, fd, ["self", "name"], [], [], ok_xinit (t := tb K cl) (cls := 10) (n := 1) (F := fx1) F sc_Free_init rfl (fun cdv A outer s H E hr => pss_cons (ps_expr (pe_winit T.w_WorkError T.g_WorkError (pa_cons (pv 0) (pa_cons pe_str pa_nil)))) (pss_one (ps_ost (pv 0) (pv 1)))) (fun vs H Q E h => xread1 T.ox_Free T.nx_Free_name rfl h), T.ox_Free, hi, ht, T.g_Free, (F.bindsN fun _ _ _ _ _ _ us hl => match us, hl with | [_, _], _ => rfl), .nil, rfl⟩⟩
theorem sc_l_made : FnScope ["_law_k", "_law_row", "_law_word", "_law_rows"] ["_law_k", "_law_row", "_law_word", "_law_rows"] (defScope s_l_made) := ⟨rfl, rfl, rfl, by decide +kernel, rfl, by decide +kernel, by decide +kernel⟩
def c_l_made : CS :=
  (cSeq (cIfS (cTest (cBin ltD (cVar 0) (cC (.int 4)))) (cRet (cCall f_l_of_rows 3 [] (cCons (cVar 0) (cCons (cVar 1) (cCons (cVar 2) cNil))))) cSkip)
  (cSeq (cIfS (cTest (cBin eqD (cVar 0) (cC (.int 4)))) (cRet (cMkX 9 fx2A 1 [] (cCons (cVar 3) cNil))) cSkip)
  (cSeq (cIfS (cTest (cBin eqD (cVar 0) (cC (.int 5)))) (cRet (cMkX 10 (fun _ => fx1) 1 [] (cCons (cCB strAD (cCons (cVar 2) cNil)) cNil))) cSkip)
  (cRet (cIf (cTest (cBin eqD (cVar 0) (cC (.int 6)))) (cMkE 2) (cMkE 3))))))
def f_l_made : FD := runDef c_l_made 4
theorem r_l_made {d0 d1 d2 d3 : D} {ah : AH} : f_l_made [d0, d1, d2, d3] ah = run1 (c_l_made [.val d0, .val d1, .val d2, .val d3] ah) := (ev_run).trans rfl
theorem l_made_body (T : Tx K mg cl) {f : Addr} {cdv : Value} {A : Around} {outer : List Env} {s : Shared} {H0 : Hp} {E : XK} {w0 : Wd} (hr : Room 3 (A.deeper (envOfC "_law_made" (defScope s_l_made) s.heap.objs.size f cdv))) :
    PSs (cxOf (L2.CX P w) P w K mg base ["_law_k", "_law_row", "_law_word", "_law_rows"] "_law_made" (defScope s_l_made) f cdv A outer s H0 E) (defBody s_l_made) (tS (tb K cl) (fun cls d _ H => E cls d H) w0 ⟨H0, 0⟩ c_l_made) := by
  have hu := hr.units
  exact (z_cons (z_if (q_tcmp op_lt bs_cmpI (q_var 0) q_int (nomark _)) (z_one (z_ret (q_callF (ok_l_of_rows T) (hr.mono (by decide)) (takes_of rfl rfl rfl rfl) (qa_cons (q_var 0) (qa_cons (q_var 1) (qa_cons (q_var 2) qa_nil)))))) z_nil)
    (z_cons (z_if (q_tcmp (op_eqA hu) bs_eq (q_var 0) q_int (nomark _)) (z_one (z_ret (q_mkXA 9 (ok_Stuck_initA T) (fx2A_len rfl) (hr.mono (by decide)) (qa_cons (q_var 3) qa_nil)))) z_nil)
    (z_cons (z_if (q_tcmp (op_eqA hu) bs_eq (q_var 0) q_int (nomark _)) (z_one (z_ret (q_mkX 10 (ok_Free_init T) (fx1_len rfl) (hr.mono (by decide)) (qa_cons (q_cty call_strB cs_strA T.b_str (by decide +kernel) (qa_cons (q_var 2) qa_nil)) qa_nil)))) z_nil)
    (z_one (z_ret (q_if (q_tcmp (op_eqA hu) bs_eq (q_var 0) q_int (nomark _)) (q_mkE 2 PySem.F.excBase_ValueError T.x_NoRatio T.g_NoRatio T.k_NoRatio T.bs_NoRatio T.ty_NoRatio) (q_mkE 3 PySem.F.excBase_ValueError T.x_NoAsk T.g_NoAsk T.k_NoAsk T.bs_NoAsk T.ty_NoAsk)))))))
theorem ok_l_made (T : Tx K mg cl) : FOk P w K mg base (tb K cl) 4 "_law_made" f_l_made 4 [] := by
  obtain ⟨f, fd, F, hm⟩ := T.d_l_made
  exact ⟨⟨f, fd, ["_law_k", "_law_row", "_law_word", "_law_rows"], [], _, ok_def (t := tb K cl) F sc_l_made (fun cdv A outer s H0 E w0 hr => l_made_body T hr), hm, F.kp, (F.bindsN fun _ _ _ _ _ _ us hl => match us, hl with | [_, _, _, _], _ => rfl), .nil, rfl⟩⟩
theorem sc_l_all : FnScope ["_law_e", "_law_some"] ["_law_e"] (defScope s_l_all) := ⟨rfl, rfl, rfl, by decide +kernel, rfl, by decide +kernel, by decide +kernel⟩
def c_l_all : CS :=
  (cSeq (cAsg (gN 1) (cLst (cCons (cIsI (fun _ => ix_NoRow) (cVar 0)) (cCons (cIsI (fun _ => ix_NoName) (cVar 0)) (cCons (cIsI (fun _ => ix_Twice) (cVar 0)) (cCons (cIsI (fun _ => ix_TooMany) (cVar 0)) cNil))))))
  (cRet (cBin addD (cVar 1) (cLst (cCons (cIsI (fun _ => ix_Stuck) (cVar 0)) (cCons (cIsI (fun _ => ix_Free) (cVar 0)) (cCons (cIsI (fun _ => ix_NoRatio) (cVar 0)) (cCons (cIsI (fun _ => ix_NoAsk) (cVar 0)) cNil))))))))
def f_l_all : FD := runDef c_l_all 2
theorem r_l_all {d0 : D} {ah : AH} : f_l_all [d0] ah = run1 (c_l_all [.val d0, .no] ah) := (ev_run).trans rfl
theorem l_all_body (T : Tx K mg cl) {f : Addr} {cdv : Value} {A : Around} {outer : List Env} {s : Shared} {H0 : Hp} {E : XK} {w0 : Wd} (hr : Room 0 (A.deeper (envOfC "_law_all" (defScope s_l_all) s.heap.objs.size f cdv))) :
    PSs (cxOf (L2.CX P w) P w K mg base ["_law_e", "_law_some"] "_law_all" (defScope s_l_all) f cdv A outer s H0 E) (defBody s_l_all) (tS (tb K cl) (fun cls d _ H => E cls d H) w0 ⟨H0, 0⟩ c_l_all) := by
  exact (z_cons (z_set 1 sc_l_all.nd (q_lst (qa_cons (q_isX (pe_glob (v := .ref (cl 5)) rfl T.g_NoRow rfl) (.own (cl 5)) (ix_NoRow_ok T) (q_var 0) T.b_isinstance) (qa_cons (q_isX (pe_glob (v := .ref (cl 6)) rfl T.g_NoName rfl) (.own (cl 6)) (ix_NoName_ok T) (q_var 0) T.b_isinstance) (qa_cons (q_isX (pe_glob (v := .ref (cl 7)) rfl T.g_Twice rfl) (.own (cl 7)) (ix_Twice_ok T) (q_var 0) T.b_isinstance) (qa_cons (q_isX (pe_glob (v := .ref (cl 8)) rfl T.g_TooMany rfl) (.own (cl 8)) (ix_TooMany_ok T) (q_var 0) T.b_isinstance) qa_nil))))))
    (z_one (z_ret (q_add (q_var 1) (q_lst (qa_cons (q_isX (pe_glob (v := .ref (cl 9)) rfl T.g_Stuck rfl) (.own (cl 9)) (ix_Stuck_ok T) (q_var 0) T.b_isinstance) (qa_cons (q_isX (pe_glob (v := .ref (cl 10)) rfl T.g_Free rfl) (.own (cl 10)) (ix_Free_ok T) (q_var 0) T.b_isinstance) (qa_cons (q_isX (pe_glob (v := .ref (cl 2)) rfl T.g_NoRatio rfl) (.own (cl 2)) (ix_NoRatio_ok T) (q_var 0) T.b_isinstance) (qa_cons (q_isX (pe_glob (v := .ref (cl 3)) rfl T.g_NoAsk rfl) (.own (cl 3)) (ix_NoAsk_ok T) (q_var 0) T.b_isinstance) qa_nil)))))))))
theorem ok_l_all (T : Tx K mg cl) : FOk P w K mg base (tb K cl) 1 "_law_all" f_l_all 1 [] := by
  obtain ⟨f, fd, F, hm⟩ := T.d_l_all
  exact ⟨⟨f, fd, ["_law_e"], [], _, ok_def (t := tb K cl) F sc_l_all (fun cdv A outer s H0 E w0 hr => l_all_body T hr), hm, F.kp, (F.bindsN fun _ _ _ _ _ _ us hl => match us, hl with | [_], _ => rfl), .nil, rfl⟩⟩
theorem sc_l_right : FnScope ["_law_k", "_law_row", "_law_word", "_law_rows", "_law_handed", "_law_due", "_law_e", "_law_wanted", "_law_place"] ["_law_k", "_law_row", "_law_word", "_law_rows"] (defScope s_l_right) := ⟨rfl, rfl, rfl, by decide +kernel, rfl, by decide +kernel, by decide +kernel⟩
def te_l_right_1 : CE := (cBin eqD (cVar 8) (cVar 0))
def k_l_right_4 : CS := (cSeq (cIfS (cOrT (cTest (cBin neD (cCall f_l_all 1 [] (cCons (cVar 6) cNil)) (cLc (itRng1 (cCons (cC (.int 8)) cNil)) [8] (gN 8) cYes te_l_right_1))) (cNotT (cTest (cIsI (fun _ => ix_WorkError) (cVar 6))))) (cRet (cC (.bl false))) cSkip)
  (cSeq (cIfS (cOrT (cNotT (cTest (cIsI (fun _ => ix_ValueError) (cVar 6)))) (cTest (cBin neD (cIsI (fun _ => ix_RowError) (cVar 6)) (cBin ltD (cVar 0) (cC (.int 4)))))) (cRet (cC (.bl false))) cSkip)
  (cSeq (cIfS (cTest (cBin ltD (cVar 0) (cC (.int 4)))) (cSeq (cAsg (gN 7) (cVar 2))
  (cSeq (cIfS (cTest (cBin isND (cVar 2) (cC .non))) (cAsg (gN 7) (cC (.str ""))) cSkip)
  (cRet (cAnd (cIsI is_int (cFldX xl "row" (cVar 6))) (cAnd (cBin eqD (cFldX xl "row" (cVar 6)) (cVar 1)) (cAnd (cIsI is_str (cFldX xl "word" (cVar 6))) (cBin eqD (cFldX xl "word" (cVar 6)) (cVar 7)))))))) cSkip)
  (cSeq (cIfS (cTest (cBin eqD (cVar 0) (cC (.int 4)))) (cRet (cAnd (cIsI is_tuple (cFldX xl "rows" (cVar 6))) (cBin eqD (cFldX xl "rows" (cVar 6)) (cVar 5)))) cSkip)
  (cRet (cOr (cBin gtD (cVar 0) (cC (.int 5))) (cBin eqD (cFldX xl "name" (cVar 6)) (cCB strAD (cCons (cVar 2) cNil)))))))))
def c_l_right : CS :=
  (cSeq (cAsg (gN 4) (cVar 3))
  (cSeq (cAsg (gN 5) (cCB tupAD (cCons (cVar 3) cNil)))
  (cSeq (cAsg (gN 6) (cCall f_l_made 4 [] (cCons (cVar 0) (cCons (cVar 1) (cCons (cVar 2) (cCons (cVar 4) cNil))))))
  (cSeq (cIfS (cTest (cIsI is_list (cVar 4))) (cExpr (cAppR (cVar 4) (cC (.int 7)))) cSkip)
  k_l_right_4))))
def f_l_right : FD := runDef c_l_right 9
theorem r_l_right {d0 d1 d2 d3 : D} {ah : AH} : f_l_right [d0, d1, d2, d3] ah = run1 (c_l_right [.val d0, .val d1, .val d2, .val d3, .no, .no, .no, .no, .no] ah) := (ev_run).trans rfl
theorem l_right_body (T : Tx K mg cl) {f : Addr} {cdv : Value} {A : Around} {outer : List Env} {s : Shared} {H0 : Hp} {E : XK} {w0 : Wd} (hr : Room 4 (A.deeper (envOfC "_law_right" (defScope s_l_right) s.heap.objs.size f cdv))) :
    PSs (cxOf (L2.CX P w) P w K mg base ["_law_k", "_law_row", "_law_word", "_law_rows", "_law_handed", "_law_due", "_law_e", "_law_wanted", "_law_place"] "_law_right" (defScope s_l_right) f cdv A outer s H0 E) (defBody s_l_right) (tS (tb K cl) (fun cls d _ H => E cls d H) w0 ⟨H0, 0⟩ c_l_right) := by
  have hu := hr.units
  exact (z_cons (z_set 4 sc_l_right.nd (q_var 3))
    (z_cons (z_set 5 sc_l_right.nd (q_cty call_tuple_of cs_tupleA T.b_tuple (by decide +kernel) (qa_cons (q_var 3) qa_nil)))
    (z_cons (z_set 6 sc_l_right.nd (q_callF (ok_l_made T) (hr.mono (by decide)) (takes_of rfl rfl rfl rfl) (qa_cons (q_var 0) (qa_cons (q_var 1) (qa_cons (q_var 2) (qa_cons (q_var 4) qa_nil))))))
    (z_cons (z_if (q_test (q_isI (pe_bltn (v := .ty "list") (u := .type "list") rfl T.b_list (by decide +kernel) rfl) (.ty "list") (is_list_ok T) (q_var 4) T.b_isinstance)) (z_one (z_expr (q_appR (q_var 4) q_int))) z_nil)
    (z_cons (z_if (PW.pt (q_orT (q_tcmp (op_neA hu) bs_ne (q_callF (ok_l_all T) (hr.mono (by decide)) (takes_of rfl rfl rfl rfl) (qa_cons (q_var 6) qa_nil)) (q_lc (own := [("_law_place", 8)]) rfl sc_l_right.nd (tg_name 8) (i_rng1 T.b_range (qa_cons q_int qa_nil)) (blkOk_by (N := ["_law_k", "_law_row", "_law_word", "_law_rows", "_law_handed", "_law_due", "_law_e", "_law_wanted", "_law_place"]) (sc := defScope s_l_right) (by decide +kernel)) (by decide) (fun _ _ _ _ _ => (pg_name (i := 8) sc_l_right.nd rfl (by first | exact Or.inl rfl | exact Or.inr rfl))) (fun _ _ _ _ _ => qs_nil) (fun _ _ _ _ _ => (q_cmp (op_eqA hu) bs_eq (q_var 8) (q_var 0) (nomark _)))) (nomark _)) (q_or1 (q_notT (q_test (q_isX (pe_glob (v := .ref (cl 1)) rfl T.g_WorkError rfl) (.own (cl 1)) (ix_WorkError_ok T) (q_var 6) T.b_isinstance)))))) (z_one (z_ret q_bl)) z_nil)
    (z_cons (z_if (PW.pt (q_orT (q_notT (q_test (q_isX (pe_bltn (v := .ty "ValueError") (u := .type "ValueError") rfl T.b_ValueError (by decide +kernel) rfl) (.ty "ValueError") (ix_ValueError_ok T) (q_var 6) T.b_isinstance))) (q_or1 (q_tcmp (op_neA hu) bs_ne (q_isX (pe_glob (v := .ref (cl 4)) rfl T.g_RowError rfl) (.own (cl 4)) (ix_RowError_ok T) (q_var 6) T.b_isinstance) (q_cmp op_lt bs_cmpI (q_var 0) q_int (nomark _)) (nomark _))))) (z_one (z_ret q_bl)) z_nil)
    (z_cons (z_if (q_tcmp op_lt bs_cmpI (q_var 0) q_int (nomark _)) (z_cons (z_set 7 sc_l_right.nd (q_var 2))
    (z_cons (z_if (q_tcmp op_isN bs_isN (q_var 2) q_non (nomark _)) (z_one (z_set 7 sc_l_right.nd q_str)) z_nil)
    (z_one (z_ret (q_and (q_isI (pe_bltn (v := .ty "int") (u := .type "int") rfl T.b_int (by decide +kernel) rfl) (.ty "int") (is_int_ok T) (q_fldX (xok_row T) (q_var 6)) T.b_isinstance) (q_and (q_cmp (op_eqA hu) bs_eq (q_fldX (xok_row T) (q_var 6)) (q_var 1) (nomark _)) (q_and (q_isI (pe_bltn (v := .ty "str") (u := .type "str") rfl T.b_str (by decide +kernel) rfl) (.ty "str") (is_str_ok T) (q_fldX (xok_word T) (q_var 6)) T.b_isinstance) (q_one (q_cmp (op_eqA hu) bs_eq (q_fldX (xok_word T) (q_var 6)) (q_var 7) (nomark _)))))))))) z_nil)
    (z_cons (z_if (q_tcmp (op_eqA hu) bs_eq (q_var 0) q_int (nomark _)) (z_one (z_ret (q_and (q_isI (pe_bltn (v := .ty "tuple") (u := .type "tuple") rfl T.b_tuple (by decide +kernel) rfl) (.ty "tuple") (is_tuple_ok T) (q_fldX (xok_rows T) (q_var 6)) T.b_isinstance) (q_one (q_cmp (op_eqA hu) bs_eq (q_fldX (xok_rows T) (q_var 6)) (q_var 5) (nomark _)))))) z_nil)
    (z_one (z_ret (q_or (q_cmp op_gt bs_cmpI (q_var 0) q_int (nomark _)) (q_one (q_cmp (op_eqA hu) bs_eq (q_fldX (xok_name T) (q_var 6)) (q_cty call_strB cs_strA T.b_str (by decide +kernel) (qa_cons (q_var 2) qa_nil)) (nomark _))))))))))))))
theorem ok_l_right (T : Tx K mg cl) : FOk P w K mg base (tb K cl) 5 "_law_right" f_l_right 4 [] := by
  obtain ⟨f, fd, F, hm⟩ := T.d_l_right
  exact ⟨⟨f, fd, ["_law_k", "_law_row", "_law_word", "_law_rows"], [], _, ok_def (t := tb K cl) F sc_l_right (fun cdv A outer s H0 E w0 hr => l_right_body T hr), hm, F.kp, (F.bindsN fun _ _ _ _ _ _ us hl => match us, hl with | [_, _, _, _], _ => rfl), .nil, rfl⟩⟩
theorem sc_RowError_init : FnScope ["self", "row", "word"] ["self", "row", "word"] (defScope s_RowError_init) := ⟨rfl, rfl, rfl, by decide +kernel, rfl, by decide +kernel, by decide +kernel⟩
theorem ok_RowError_init (T : Tx K mg cl) : XOk P w K mg base (tb K cl) 1 "RowError" 4 fx3 2 [] := by
  obtain ⟨f, fd, F, hi, ht⟩ := T.d_RowError_init
  obtain ⟨ds, hv, hb⟩ := F.binds1 (ps := ["self", "row", "word"]) 3 1 (by simp) rfl (fun _ _ _ _ _ _ _ us its h1 h2 => match us, its, h1, h2 with | [_, _, _], [_], _, _ => ⟨_, rfl, rfl⟩)
  exact ⟨⟨f, fd, ["self", "row", "word"], ds, _, ok_xinit (t := tb K cl) (cls := 4) (n := 2) (F := fx3) F sc_RowError_init rfl (fun cdv A outer s H E hr => pss_cons (ps_expr (pe_winit T.w_WorkError T.g_WorkError (pa_cons (pv 0) (pa_cons pe_str pa_nil)))) (pss_cons (ps_ost (pv 0) (pv 1)) (pss_one (ps_ost (pv 0) (pv 2))))) (fun vs H Q E h => xread3 T.ox_RowError T.nx_RowError_row T.nx_RowError_word rfl h), T.ox_RowError, hi, ht, T.g_RowError, hb, hv, rfl⟩⟩
theorem ok_RowError_init_1 (T : Tx K mg cl) : XOk P w K mg base (tb K cl) 1 "RowError" 4 fx3 2 [.str ""] := by
  obtain ⟨f, fd, F, hi, ht⟩ := T.d_RowError_init
  obtain ⟨ds, hv, hb⟩ := F.binds1 (ps := ["self", "row", "word"]) 2 0 (by simp) rfl (fun _ _ _ _ _ _ _ us its h1 h2 => match us, its, h1, h2 with | [_, _], [_], _, _ => ⟨_, rfl, rfl⟩)
  exact ⟨⟨f, fd, ["self", "row", "word"], ds, _, ok_xinit (t := tb K cl) (cls := 4) (n := 2) (F := fx3) F sc_RowError_init rfl (fun cdv A outer s H E hr => pss_cons (ps_expr (pe_winit T.w_WorkError T.g_WorkError (pa_cons (pv 0) (pa_cons pe_str pa_nil)))) (pss_cons (ps_ost (pv 0) (pv 1)) (pss_one (ps_ost (pv 0) (pv 2))))) (fun vs H Q E h => xread3 T.ox_RowError T.nx_RowError_row T.nx_RowError_word rfl h), T.ox_RowError, hi, ht, T.g_RowError, hb, hv, rfl⟩⟩
theorem sc_l_bare : FnScope ["_law_one", "_law_other"] [] (defScope s_l_bare) := ⟨rfl, rfl, rfl, by decide +kernel, rfl, by decide +kernel, by decide +kernel⟩
def c_l_bare : CS :=
  (cSeq (cAsg (gN 0) (cMkX 4 (fun _ => fx3) 2 [.str ""] (cCons (cC (.int 3)) cNil)))
  (cSeq (cAsg (gN 1) (cMkX 4 (fun _ => fx3) 2 [] (cCons (cC (.int 4)) (cCons (cC (.str "x.y")) cNil))))
  (cSeq (cIfS (cTest (cBin neD (cTup (cCons (cFldX xl "row" (cVar 0)) (cCons (cFldX xl "word" (cVar 0)) (cCons (cFldX xl "row" (cVar 1)) (cCons (cFldX xl "word" (cVar 1)) cNil))))) (cTup (cCons (cC (.int 3)) (cCons (cC (.str "")) (cCons (cC (.int 4)) (cCons (cC (.str "x.y")) cNil))))))) (cRet (cC (.bl false))) cSkip)
  (cRet (cAnd (cIsI (fun _ => ix_WorkError) (cVar 0)) (cBin notInQD (cC (.bl true)) (cCall f_l_all 1 [] (cCons (cVar 1) cNil))))))))
def f_l_bare : FD := runDef c_l_bare 2
theorem r_l_bare {ah : AH} : f_l_bare [] ah = run1 (c_l_bare [.no, .no] ah) := (ev_run).trans rfl
theorem l_bare_body (T : Tx K mg cl) {f : Addr} {cdv : Value} {A : Around} {outer : List Env} {s : Shared} {H0 : Hp} {E : XK} {w0 : Wd} (hr : Room 2 (A.deeper (envOfC "_law_bare" (defScope s_l_bare) s.heap.objs.size f cdv))) :
    PSs (cxOf (L2.CX P w) P w K mg base ["_law_one", "_law_other"] "_law_bare" (defScope s_l_bare) f cdv A outer s H0 E) (defBody s_l_bare) (tS (tb K cl) (fun cls d _ H => E cls d H) w0 ⟨H0, 0⟩ c_l_bare) := by
  have hu := hr.units
  exact (z_cons (z_set 0 sc_l_bare.nd (q_mkX 4 (ok_RowError_init_1 T) (fx3_len rfl) (hr.mono (by decide)) (qa_cons q_int qa_nil)))
    (z_cons (z_set 1 sc_l_bare.nd (q_mkX 4 (ok_RowError_init T) (fx3_len rfl) (hr.mono (by decide)) (qa_cons q_int (qa_cons q_str qa_nil))))
    (z_cons (z_if (q_tcmp (op_neA hu) bs_ne (q_tup (qa_cons (q_fldX (xok_row T) (q_var 0)) (qa_cons (q_fldX (xok_word T) (q_var 0)) (qa_cons (q_fldX (xok_row T) (q_var 1)) (qa_cons (q_fldX (xok_word T) (q_var 1)) qa_nil))))) (q_tup (qa_cons q_int (qa_cons q_str (qa_cons q_int (qa_cons q_str qa_nil))))) (nomark _)) (z_one (z_ret q_bl)) z_nil)
    (z_one (z_ret (q_and (q_isX (pe_glob (v := .ref (cl 1)) rfl T.g_WorkError rfl) (.own (cl 1)) (ix_WorkError_ok T) (q_var 0) T.b_isinstance) (q_one (q_cmp op_notIn_seq bs_notInQ q_bl (q_callF (ok_l_all T) (hr.mono (by decide)) (takes_of rfl rfl rfl rfl) (qa_cons (q_var 1) qa_nil)) (by with_unfolding_all rfl)))))))))
theorem ok_l_bare (T : Tx K mg cl) : FOk P w K mg base (tb K cl) 3 "_law_bare" f_l_bare 0 [] := by
  obtain ⟨f, fd, F, hm⟩ := T.d_l_bare
  exact ⟨⟨f, fd, [], [], _, ok_def (t := tb K cl) F sc_l_bare (fun cdv A outer s H0 E w0 hr => l_bare_body T hr), hm, F.kp, (F.bindsN fun _ _ _ _ _ _ us hl => match us, hl with | [], _ => rfl), .nil, rfl⟩⟩
theorem sc_law : FnScope ["_law_script", "_law_cell", "_law_rows", "_law_k", "_law_word", "_law_handed"] ["_law_script"] (defScope s_law) := ⟨rfl, rfl, rfl, by decide +kernel, rfl, by decide +kernel, by decide +kernel⟩
def te_law_1 : CE := (cBin modD (cBin fdivD (cCall f_l_mixed 2 [] (cCons (cVar 1) (cCons (cBin addD (cC (.int 10)) (cVar 3)) cNil))) (cC (.int 7))) (cC (.int 200)))
def b_law_1 : CS := (cSeq (cAsg (gN 4) (cBin idxAD (cLst (cCons (cC (.str "m.c")) (cCons (cC .non) (cCons (cC (.str "")) (cCons (cC (.str "x")) cNil))))) (cBin modD (cBin fdivD (cCall f_l_mixed 2 [] (cCons (cVar 1) (cCons (cBin addD (cC (.int 30)) (cVar 3)) cNil))) (cC (.int 7))) (cC (.int 4)))))
  (cSeq (cAsg (gN 5) (cBin idxAD (cLst (cCons (cCB tupD (cCons (cVar 2) cNil)) (cCons (cCBA listRA (cCons (cVar 2) cNil)) cNil))) (cBin modD (cBin fdivD (cCall f_l_mixed 2 [] (cCons (cVar 1) (cCons (cBin addD (cC (.int 50)) (cVar 3)) cNil))) (cC (.int 7))) (cC (.int 2)))))
  (cIfS (cNotT (cTest (cCall f_l_right 4 [] (cCons (cVar 3) (cCons (cBin modD (cBin fdivD (cCall f_l_mixed 2 [] (cCons (cVar 1) (cCons (cBin addD (cC (.int 40)) (cVar 3)) cNil))) (cC (.int 7))) (cC (.int 300))) (cCons (cVar 4) (cCons (cVar 5) cNil))))))) (cRet (cC (.bl false))) cSkip)))
def c_law : CS :=
  (cSeq (cAsg (gN 1) (cCall f_l_mixed 2 [] (cCons (cCall f_l_cell_at 2 [] (cCons (cVar 0) (cCons (cC (.int 0)) cNil))) (cCons (cC (.int 3)) cNil))))
  (cSeq (cAsg (gN 2) (cLc (itRng1 (cCons (cBin modD (cBin fdivD (cCall f_l_mixed 2 [] (cCons (cVar 1) (cCons (cC (.int 1)) cNil))) (cC (.int 7))) (cC (.int 5))) cNil)) [3] (gN 3) cYes te_law_1))
  (cSeq (cFor (itRng1 (cCons (cC (.int 8)) cNil)) (gN 3) b_law_1)
  (cRet (cCall f_l_bare 0 [] cNil)))))
def f_law : FD := runDef c_law 6
theorem r_law {d0 : D} {ah : AH} : f_law [d0] ah = run1 (c_law [.val d0, .no, .no, .no, .no, .no] ah) := (ev_run).trans rfl
theorem law_body (T : Tx K mg cl) {f : Addr} {cdv : Value} {A : Around} {outer : List Env} {s : Shared} {H0 : Hp} {E : XK} {w0 : Wd} (hr : Room 5 (A.deeper (envOfC "law" (defScope s_law) s.heap.objs.size f cdv))) :
    PSs (cxOf (L2.CX P w) P w K mg base ["_law_script", "_law_cell", "_law_rows", "_law_k", "_law_word", "_law_handed"] "law" (defScope s_law) f cdv A outer s H0 E) (defBody s_law) (tS (tb K cl) (fun cls d _ H => E cls d H) w0 ⟨H0, 0⟩ c_law) := by
  have hu := hr.units
  exact (z_cons (z_set 1 sc_law.nd (q_callF (ok_l_mixed T) (hr.mono (by decide)) (takes_of rfl rfl rfl rfl) (qa_cons (q_callF (ok_l_cell_at T) (hr.mono (by decide)) (takes_of rfl rfl rfl rfl) (qa_cons (q_var 0) (qa_cons q_int qa_nil))) (qa_cons q_int qa_nil))))
    (z_cons (z_setLc 2 (own := [("_law_k", 3)]) rfl sc_law.nd (tg_name 3) (i_rng1 T.b_range (qa_cons (q_mod (q_fdiv (q_callF (ok_l_mixed T) (hr.mono (by decide)) (takes_of rfl rfl rfl rfl) (qa_cons (q_var 1) (qa_cons q_int qa_nil))) q_int) q_int) qa_nil)) (blkOk_by (N := ["_law_script", "_law_cell", "_law_rows", "_law_k", "_law_word", "_law_handed"]) (sc := defScope s_law) (by decide +kernel)) (by decide) (fun _ _ _ _ _ => (pg_name (i := 3) sc_law.nd rfl (by first | exact Or.inl rfl | exact Or.inr rfl))) (fun _ _ _ _ _ => qs_nil) (fun _ _ _ _ _ => (q_mod (q_fdiv (q_callF (ok_l_mixed T) (hr.mono (by decide)) takes0 (qa_cons (q_var 1) (qa_cons (q_add q_int (q_var 3)) qa_nil))) q_int) q_int)) (sw_true rfl rfl rfl (by decide +kernel)))
    (z_cons (z_for (passes_of rfl) rfl (tg_name 3) (i_rng1 T.b_range (qa_cons q_int qa_nil)) (pg_name (i := 3) sc_law.nd rfl (by first | exact Or.inl rfl | exact Or.inr rfl)) (z_cons (z_set 4 sc_law.nd (q_idxA (q_lst (qa_cons q_str (qa_cons q_non (qa_cons q_str (qa_cons q_str qa_nil))))) (q_mod (q_fdiv (q_callF (ok_l_mixed T) (hr.mono (by decide)) (takes_of rfl rfl rfl rfl) (qa_cons (q_var 1) (qa_cons (q_add q_int (q_var 3)) qa_nil))) q_int) q_int) hu))
    (z_cons (z_set 5 sc_law.nd (q_idxA (q_lst (qa_cons (q_cty call_tuple_of cs_tuple T.b_tuple (by decide +kernel) (qa_cons (q_var 2) qa_nil)) (qa_cons (q_ctyA (call_listA rfl) cs_listRA T.b_list (by decide +kernel) (qa_cons (q_var 2) qa_nil)) qa_nil))) (q_mod (q_fdiv (q_callF (ok_l_mixed T) (hr.mono (by decide)) (takes_of rfl rfl rfl rfl) (qa_cons (q_var 1) (qa_cons (q_add q_int (q_var 3)) qa_nil))) q_int) q_int) hu))
    (z_one (z_if (q_notT (q_test (q_callF (ok_l_right T) (hr.mono (by decide)) (takes_of rfl rfl rfl rfl) (qa_cons (q_var 3) (qa_cons (q_mod (q_fdiv (q_callF (ok_l_mixed T) (hr.mono (by decide)) (takes_of rfl rfl rfl rfl) (qa_cons (q_var 1) (qa_cons (q_add q_int (q_var 3)) qa_nil))) q_int) q_int) (qa_cons (q_var 4) (qa_cons (q_var 5) qa_nil))))))) (z_one (z_ret q_bl)) z_nil)))))
    (z_one (z_ret (q_callF0 (ok_l_bare T) (hr.mono (by decide)) (takes_of rfl rfl rfl rfl)))))))
theorem ok_law (T : Tx K mg cl) : FOk P w K mg base (tb K cl) 6 "law" f_law 1 [] := by
  obtain ⟨f, fd, F, hm⟩ := T.d_law
  exact ⟨⟨f, fd, ["_law_script"], [], _, ok_def (t := tb K cl) F sc_law (fun cdv A outer s H0 E w0 hr => law_body T hr), hm, F.kp, (F.bindsN fun _ _ _ _ _ _ us hl => match us, hl with | [_], _ => rfl), .nil, rfl⟩⟩
end
end Y
end
namespace Y
open PySem PySem.Spec PyProof.Rows L2 G
/-! ## the pure part -/
def mix0 (c k : Int) : Int := ((c + 7919 * k + 11) * 48271).fmod 2147483647
def mixed (c k : Int) : Int := (mix0 c k * mix0 c k + 40692 * mix0 c k).fmod 2147483399
theorem fmod_b {a m : Int} (h : 0 < m) : 0 ≤ a.fmod m ∧ a.fmod m < m := ⟨Int.fmod_nonneg_of_pos a h, Int.fmod_lt_of_pos a h⟩
theorem p_mixed {c k : Int} {ah : AH} : f_l_mixed [.int c, .int k] ah = .ok (.int (mixed c k)) ah := by
  have b := fmod_b (a := (c + 7919 * k + 11) * 48271) (m := 2147483647) (by decide)
  have h1 : mulOk 7919 k := mulOk_l (by decide)
  have h2 : mulOk (c + 7919 * k + 11) 48271 := mulOk_r (by decide)
  have h3 : mulOk (mix0 c k) (mix0 c k) := mulOk_l (by unfold mix0; omega)
  have h4 : mulOk 40692 (mix0 c k) := mulOk_l (by decide)
  have n1 : (2147483647 : Int) ≠ 0 := by decide
  have n2 : (2147483399 : Int) ≠ 0 := by decide
  simp -implicitDefEqProofs only [r_l_mixed, c_l_mixed, ev_var, ev_c, ev_bin, bin1_ok, bin2_ok, ev_seq, seq1_nx, ev_ret, ret1_ok, nxO_some, ev_asg, asg1_ok, gN_ap, run1_rt, add_i, mul_i, mod_i, Option.isSome_some, Option.isSome_none, Option.getD_some, Option.getD_none, List.getElem?_cons_zero, List.getElem?_cons_succ, List.set_cons_zero, List.set_cons_succ, List.length_cons, List.length_nil, List.cons_append, List.nil_append, List.append_nil, Nat.reduceAdd, Nat.reduceLeDiff, Nat.reduceEqDiff, ↓reduceIte, ofO_some, Bool.not_true, Bool.not_false, Option.map_some, Option.bind_some, decide_true, decide_false, Nat.zero_add, Bool.false_eq_true, List.set_cons_zero, Int.reduceLT, Int.reduceLE, Int.reduceEq, mul_i h1, mul_i h2, mod_i n1, ← mix0.eq_1, mul_i h3, mul_i h4, mod_i n2]
  rfl
theorem mixed_b (c k : Int) : 0 ≤ mixed c k ∧ mixed c k < 2147483399 := fmod_b (by decide)
theorem at_nat {l : List D} {k : Nat} {d : D} (h : l[k]? = some d) : atI l (k : Int) = some d := by
  have hk := (List.getElem?_eq_some_iff.mp h).1
  have hj : ixN l.length (k : Int) = some k := by
    unfold ixN
    split <;> rename_i q <;> first | omega | skip
    split <;> rename_i q2 <;> first | omega | simp
  unfold atI
  rw [hj]
  exact h
theorem p_cell_at {ns : List Int} (k : Nat) (hk : k < 1000) : ∃ v : Int, ∀ ah, f_l_cell_at [.scr (ns.map .int), .int (k : Int)] ah = .ok (.int v) ah := by
  by_cases h : k < ns.length
  · refine ⟨ns[k], fun ah => ?_⟩
    have e1 : decide ((k : Int) < ((ns.map D.int).length : Int)) = true := by rw [decide_eq_true_eq, List.length_map]; omega
    have e2 : atI (ns.map D.int) (k : Int) = some (.int ns[k]) := at_nat (by rw [List.getElem?_map, List.getElem?_eq_getElem h]; rfl)
    simp -implicitDefEqProofs only [r_l_cell_at, c_l_cell_at, ev_var, ev_c, ev_bin, bin1_ok, bin2_ok, ev_test, test1_ok, ev_nil, ev_cons, cons1_ok, cons2_ok, ev_cb, cb1_ok, ev_skip, ev_seq, seq1_nx, seq1_rt, ev_ret, ret1_ok, ev_ifS, ifS1_t, ifS1_f, run1_rt, add_i, mul_i, lt_i, ixA_r, lenA_r, Option.isSome_some, Option.isSome_none, Option.getD_some, Option.getD_none, List.getElem?_cons_zero, List.getElem?_cons_succ, List.set_cons_zero, List.set_cons_succ, List.length_cons, List.length_nil, List.cons_append, List.nil_append, List.append_nil, Nat.reduceAdd, Nat.reduceLeDiff, Nat.reduceEqDiff, ↓reduceIte, ofO_some, Bool.not_true, Bool.not_false, Option.map_some, Option.bind_some, decide_true, decide_false, Nat.zero_add, Bool.false_eq_true, List.set_cons_zero, Int.reduceLT, Int.reduceLE, Int.reduceEq, e1, e2]
  · refine ⟨((k : Int) + 3) * ((k : Int) + 7) * 7919, fun ah => ?_⟩
    have e1 : decide ((k : Int) < ((ns.map D.int).length : Int)) = false := by rw [decide_eq_false_iff_not, List.length_map]; omega
    have m1 : mulOk ((k : Int) + 3) ((k : Int) + 7) := mulOk_l (by omega)
    have m2 : mulOk (((k : Int) + 3) * ((k : Int) + 7)) 7919 := mulOk_r (by decide)
    simp -implicitDefEqProofs only [r_l_cell_at, c_l_cell_at, ev_var, ev_c, ev_bin, bin1_ok, bin2_ok, ev_test, test1_ok, ev_nil, ev_cons, cons1_ok, cons2_ok, ev_cb, cb1_ok, ev_skip, ev_seq, seq1_nx, seq1_rt, ev_ret, ret1_ok, ev_ifS, ifS1_t, ifS1_f, run1_rt, add_i, mul_i, lt_i, ixA_r, lenA_r, Option.isSome_some, Option.isSome_none, Option.getD_some, Option.getD_none, List.getElem?_cons_zero, List.getElem?_cons_succ, List.set_cons_zero, List.set_cons_succ, List.length_cons, List.length_nil, List.cons_append, List.nil_append, List.append_nil, Nat.reduceAdd, Nat.reduceLeDiff, Nat.reduceEqDiff, ↓reduceIte, ofO_some, Bool.not_true, Bool.not_false, Option.map_some, Option.bind_some, decide_true, decide_false, Nat.zero_add, Bool.false_eq_true, List.set_cons_zero, Int.reduceLT, Int.reduceLE, Int.reduceEq, e1, mul_i m1, mul_i m2]
/-! ### plain data is alike -/
def PlK (k : Nat) (d : D) : Prop := ∃ p, pd d = some p ∧ p.canLay0 = true ∧ p.depth ≤ k
theorem PlK.mono {k j : Nat} {d : D} (h : PlK k d) (hk : k ≤ j) : PlK j d := by
  obtain ⟨p, h1, h2, h3⟩ := h
  exact ⟨p, h1, h2, by omega⟩
theorem pl_str {s : Str} (h : PyData.strOk s = true) : PlK 0 (.str s) := ⟨.str s, rfl, h, Nat.le_refl _⟩
theorem pl_int {i : Int} : PlK 0 (.int i) := ⟨.int i, rfl, rfl, Nat.le_refl _⟩
theorem pl_non : PlK 0 .non := ⟨.none, rfl, rfl, Nat.le_refl _⟩
theorem pl_all {k : Nat} : ∀ l : List D, (∀ d ∈ l, PlK k d) → ∃ ps, pds l = some ps ∧ PyData.canLayAll0 ps = true ∧ PyData.depthAll ps ≤ k
  | [], _ => ⟨[], rfl, rfl, Nat.zero_le _⟩
  | d :: l, h => by
    obtain ⟨p, h1, h2, h3⟩ := h d (List.mem_cons_self ..)
    obtain ⟨ps, q1, q2, q3⟩ := pl_all l fun x hx => h x (List.mem_cons_of_mem _ hx)
    refine ⟨p :: ps, ?_, ?_, ?_⟩
    · unfold pds
      rw [h1, q1] <;> rfl
    · simp [PyData.canLayAll0, h2, q2]
    · simp only [PyData.depthAll]
      omega
theorem pl_tup {k : Nat} {l : List D} (h : ∀ d ∈ l, PlK k d) : PlK (k + 1) (.tup l) := by
  obtain ⟨ps, q1, q2, q3⟩ := pl_all l h
  refine ⟨.tuple ps, ?_, q2, ?_⟩
  · show (pds l).map PyData.tuple = _
    rw [q1]
    rfl
  · simp only [PyData.depth]
    omega
theorem pl_lst {k : Nat} {l : List D} (h : ∀ d ∈ l, PlK k d) : PlK (k + 1) (.lst l) := by
  obtain ⟨ps, q1, q2, q3⟩ := pl_all l h
  refine ⟨.list ps, ?_, q2, ?_⟩
  · show (pds l).map PyData.list = _
    rw [q1]
    rfl
  · simp only [PyData.depth]
    omega
theorem pl_eq {k : Nat} {l : List D} (h : PlK k (.lst l)) (hk : k ≤ 64) : eqB (.lst l) (.lst l) = some true := by
  obtain ⟨p, h1, h2, h3⟩ := h
  refine eqB_refl h1 rfl ?_ (SeqAt.eqv_refl _ h2)
  unfold SeqAt.shaped
  rw [h2, Bool.true_and, decide_eq_true_eq]
  omega
/-! ### the answers by class -/
def LB (c : Nat) : List D := [.bl (c = 5), .bl (c = 6), .bl (c = 7), .bl (c = 8), .bl (c = 9), .bl (c = 10), .bl (c = 2), .bl (c = 3)]
def Cl8 (c : Nat) : Prop := c = 2 ∨ c = 3 ∨ c = 5 ∨ c = 6 ∨ c = 7 ∨ c = 8 ∨ c = 9 ∨ c = 10
theorem p_all {c : Nat} (hc : Cl8 c) {l : List D} {ah : AH} : f_l_all [.exc c l] ah = .ok (.lst (LB c)) ah := by
  rcases hc with rfl | rfl | rfl | rfl | rfl | rfl | rfl | rfl <;> rfl
theorem p_allR {l : List D} {ah : AH} : f_l_all [.exc 4 l] ah = .ok (.lst (LB 4)) ah := rfl
theorem ixW {c : Nat} (hc : Cl8 c) {l : List D} : ix_WorkError (.exc c l) = some true := by
  rcases hc with rfl | rfl | rfl | rfl | rfl | rfl | rfl | rfl <;> rfl
theorem ixV {c : Nat} (hc : Cl8 c) {l : List D} : ix_ValueError (.exc c l) = some true := by
  rcases hc with rfl | rfl | rfl | rfl | rfl | rfl | rfl | rfl <;> rfl
theorem ixR {c : Nat} (hc : Cl8 c) {l : List D} : ix_RowError (.exc c l) = some (decide (c = 5 ∨ c = 6 ∨ c = 7 ∨ c = 8)) := by
  rcases hc with rfl | rfl | rfl | rfl | rfl | rfl | rfl | rfl <;> rfl
/-! ### the k-th refusal -/
def cOf (k : Nat) : Nat := [5, 6, 7, 8, 9, 10, 2, 3].getD k 0
/-- what is handed in as rows -/
def Hnd (ah : AH) (h : D) (L : List D) : Prop := h = .tup L ∨ ∃ n, h = .ref n ∧ ah[n]? = some (.lst L)
theorem hnd_tup {ah : AH} {h : D} {L : List D} (q : Hnd ah h L) : tupAD ah [h] = some (.tup L) := by
  rcases q with rfl | ⟨n, rfl, e⟩
  · rfl
  · exact tupA_ref e
/-- a word, None or a text -/
def wD (o : Option Str) : D := match o with | none => .non | some s => .str s
def wS (o : Option Str) : Str := match o with | none => "" | some s => s
def wN (o : Option Str) : Str := match o with | none => "None" | some s => s
theorem p_of_rows {k : Nat} (hk : k < 4) {r : Int} {o : Option Str} {ah : AH} : f_l_of_rows [.int (k : Int), .int r, wD o] ah = .ok (.exc (cOf k) [.str (wS o), .int r]) ah := by
  match k, hk with
  | 0, _ | 1, _ | 2, _ | 3, _ => cases o <;> rfl
  | n + 4, h => omega
def flds (k : Nat) (r : Int) (o : Option Str) (L : List D) : List D := match k with
  | 0 | 1 | 2 | 3 => [.str (wS o), .int r]
  | 4 => [.tup L]
  | 5 => [.str (wN o)]
  | _ => []
theorem made0 {r : Int} {o : Option Str} {h : D} {ah : AH} : f_l_made [.int 0, .int r, wD o, h] ah = .ok (.exc 5 [.str (wS o), .int r]) ah := by cases o <;> rfl
theorem made1 {r : Int} {o : Option Str} {h : D} {ah : AH} : f_l_made [.int 1, .int r, wD o, h] ah = .ok (.exc 6 [.str (wS o), .int r]) ah := by cases o <;> rfl
theorem made2 {r : Int} {o : Option Str} {h : D} {ah : AH} : f_l_made [.int 2, .int r, wD o, h] ah = .ok (.exc 7 [.str (wS o), .int r]) ah := by cases o <;> rfl
theorem made3 {r : Int} {o : Option Str} {h : D} {ah : AH} : f_l_made [.int 3, .int r, wD o, h] ah = .ok (.exc 8 [.str (wS o), .int r]) ah := by cases o <;> rfl
theorem made4 {r : Int} {o : Option Str} {h : D} {L : List D} {ah : AH} (q : Hnd ah h L) : f_l_made [.int 4, .int r, wD o, h] ah = .ok (.exc 9 [.tup L]) ah := by
  have e := hnd_tup q
  simp -implicitDefEqProofs only [r_l_made, c_l_made, ev_var, ev_c, ev_bin, bin1_ok, bin2_ok, ev_test, test1_ok, ev_nil, ev_cons, cons1_ok, cons2_ok, ev_skip, ev_seq, seq1_nx, seq1_rt, ev_ret, ret1_ok, ev_ifS, ifS1_t, ifS1_f, run1_rt, lt_i, eq_i, Option.isSome_some, Option.isSome_none, Option.getD_some, Option.getD_none, List.getElem?_cons_zero, List.getElem?_cons_succ, List.set_cons_zero, List.set_cons_succ, List.length_cons, List.length_nil, List.cons_append, List.nil_append, List.append_nil, Nat.reduceAdd, Nat.reduceLeDiff, Nat.reduceEqDiff, ↓reduceIte, ofO_some, Bool.not_true, Bool.not_false, Option.map_some, Option.bind_some, decide_true, decide_false, Nat.zero_add, Bool.false_eq_true, List.set_cons_zero, Int.reduceLT, Int.reduceLE, Int.reduceEq, eq_i, ev_mkX, mkX1_2 e]
theorem made5 {r : Int} {o : Option Str} {h : D} {ah : AH} : f_l_made [.int 5, .int r, wD o, h] ah = .ok (.exc 10 [.str (wN o)]) ah := by cases o <;> rfl
theorem made6 {r : Int} {o : Option Str} {h : D} {ah : AH} : f_l_made [.int 6, .int r, wD o, h] ah = .ok (.exc 2 []) ah := by cases o <;> rfl
theorem made7 {r : Int} {o : Option Str} {h : D} {ah : AH} : f_l_made [.int 7, .int r, wD o, h] ah = .ok (.exc 3 []) ah := by cases o <;> rfl
theorem is_nn {ah : AH} : isND ah .non .non = some (.bl true) := rfl
theorem is_sn {ah : AH} {s : Str} : isND ah (.str s) .non = some (.bl false) := rfl
/-- the store behind l_right -/
def ahR (ah : AH) (h : D) (L : List D) : AH := match h with
  | .ref n => ah.set n (.lst (L ++ [.int 7]))
  | _ => ah
theorem ne0 {ah : AH} : neD ah (.lst (LB 5)) (.lst [.bl true, .bl false, .bl false, .bl false, .bl false, .bl false, .bl false, .bl false]) = some (.bl false) := by
  with_unfolding_all rfl
theorem ne1 {ah : AH} : neD ah (.lst (LB 6)) (.lst [.bl false, .bl true, .bl false, .bl false, .bl false, .bl false, .bl false, .bl false]) = some (.bl false) := by
  with_unfolding_all rfl
theorem ne2 {ah : AH} : neD ah (.lst (LB 7)) (.lst [.bl false, .bl false, .bl true, .bl false, .bl false, .bl false, .bl false, .bl false]) = some (.bl false) := by
  with_unfolding_all rfl
theorem ne3 {ah : AH} : neD ah (.lst (LB 8)) (.lst [.bl false, .bl false, .bl false, .bl true, .bl false, .bl false, .bl false, .bl false]) = some (.bl false) := by
  with_unfolding_all rfl
theorem ne4 {ah : AH} : neD ah (.lst (LB 9)) (.lst [.bl false, .bl false, .bl false, .bl false, .bl true, .bl false, .bl false, .bl false]) = some (.bl false) := by
  with_unfolding_all rfl
theorem ne5 {ah : AH} : neD ah (.lst (LB 10)) (.lst [.bl false, .bl false, .bl false, .bl false, .bl false, .bl true, .bl false, .bl false]) = some (.bl false) := by
  with_unfolding_all rfl
theorem ne6 {ah : AH} : neD ah (.lst (LB 2)) (.lst [.bl false, .bl false, .bl false, .bl false, .bl false, .bl false, .bl true, .bl false]) = some (.bl false) := by
  with_unfolding_all rfl
theorem ne7 {ah : AH} : neD ah (.lst (LB 3)) (.lst [.bl false, .bl false, .bl false, .bl false, .bl false, .bl false, .bl false, .bl true]) = some (.bl false) := by
  with_unfolding_all rfl
theorem fr (c : Nat) (hc : c = 5 ∨ c = 6 ∨ c = 7 ∨ c = 8) {x y : D} : fldX xl "row" (.exc c [x, y]) = some y ∧ fldX xl "word" (.exc c [x, y]) = some x := by
  rcases hc with rfl | rfl | rfl | rfl <;> exact ⟨by first | exact fldX_at xx_NoRow_row rfl | exact fldX_at xx_NoName_row rfl | exact fldX_at xx_Twice_row rfl | exact fldX_at xx_TooMany_row rfl, by first | exact fldX_at xx_NoRow_word rfl | exact fldX_at xx_NoName_word rfl | exact fldX_at xx_Twice_word rfl | exact fldX_at xx_TooMany_word rfl⟩
theorem frS {x : D} : fldX xl "rows" (.exc 9 [x]) = some x := fldX_at xx_Stuck_rows rfl
theorem frF {x : D} : fldX xl "name" (.exc 10 [x]) = some x := fldX_at xx_Free_name rfl
theorem ii {ah : AH} {r : Int} : is_int ah (.int r) = some true := rfl
theorem iss {ah : AH} {r : Str} : is_str ah (.str r) = some true := rfl
theorem itt {ah : AH} {r : List D} : is_tuple ah (.tup r) = some true := rfl
theorem r8 {ah : AH} : (if -2 ^ 62 ≤ (8 : Int) ∧ (8 : Int) < 2 ^ 62 then Res.ok (rngD 0 (Int.toNat 8)) ah else Res.bad) = .ok [.int 0, .int 1, .int 2, .int 3, .int 4, .int 5, .int 6, .int 7] ah := by
  rw [if_pos (by decide)]
  rfl
def TlR (k : Int) (r : Int) (o : Option Str) (h : D) (L : List D) (c : Nat) (fs : List D) (ah : AH) : Prop := k_l_right_4 [.val (.int k), .val (.int r), .val (wD o), .val h, .val h, .val (.tup L), .val (.exc c fs), .no, .no] ah = .rt (.bl true) ah
theorem nb1 {ah : AH} : neD ah (.bl true) (.bl true) = some (.bl false) := rfl
theorem nb0 {ah : AH} : neD ah (.bl false) (.bl false) = some (.bl false) := rfl
theorem tl0 {r : Int} {o : Option Str} {h : D} {L : List D} {ah : AH} : TlR 0 r o h L 5 [.str (wS o), .int r] ah := by
  have c8 : Cl8 5 := by unfold Cl8; simp
  have f1 := (fr 5 (by simp) (x := .str (wS o)) (y := .int r)).1
  have f2 := (fr 5 (by simp) (x := .str (wS o)) (y := .int r)).2
  have e8 : ∀ l, f_l_all [.exc 5 l] ah = .ok (.lst (LB 5)) ah := fun l => p_all c8
  have iR : ∀ l, ix_RowError (.exc 5 l) = some true := fun _ => rfl
  have n0 := ne0 (ah := ah)
  have lt : decide ((0 : Int) < 4) = true := rfl
  unfold TlR
  cases o with
  | none =>
    simp only [wD, wS] at f1 f2 ⊢
    simp -implicitDefEqProofs only [k_l_right_4, ev_var, ev_c, ev_bin, bin1_ok, bin2_ok, ev_isI, un1_ok, ev_test, test1_ok, ev_notT, notT1_ok, ev_orT, orT1_f, ev_and, and1_t, ev_nil, ev_cons, cons1_ok, cons2_ok, ev_call, call1_ok, ev_rng1, rng1_ok, ev_skip, ev_seq, seq1_nx, seq1_rt, ev_ret, ret1_ok, ev_ifS, ifS1_t, ifS1_f, nxO_some, ev_asg, asg1_ok, gN_ap, lt_i, eq_i, eq_s, is_n, lcL_nil, lcL_cons, lcO_some, lcA_t, lcB_ok, lc2_ok, ev_yes, wipe_nil, wipe_cons, ev_lc, lc0_ok, lcE_ok, isN_non, isN_str, Option.isSome_some, Option.isSome_none, Option.getD_some, Option.getD_none, List.getElem?_cons_zero, List.getElem?_cons_succ, List.set_cons_zero, List.set_cons_succ, List.length_cons, List.length_nil, List.cons_append, List.nil_append, List.append_nil, Nat.reduceAdd, Nat.reduceLeDiff, Nat.reduceEqDiff, ↓reduceIte, ofO_some, Bool.not_true, Bool.not_false, Option.map_some, Option.bind_some, decide_true, decide_false, Nat.zero_add, Bool.false_eq_true, List.set_cons_zero, Int.reduceLT, Int.reduceLE, Int.reduceEq, te_l_right_1, e8, rng1_if, r8, lc_run, n0, ixW c8, ixV c8, iR, nb1, nb0, ev_fldX, f1, f2, ii, iss, is_nn, lt]
    try rfl
  | some s =>
    simp only [wD, wS] at f1 f2 ⊢
    simp -implicitDefEqProofs only [k_l_right_4, ev_var, ev_c, ev_bin, bin1_ok, bin2_ok, ev_isI, un1_ok, ev_test, test1_ok, ev_notT, notT1_ok, ev_orT, orT1_f, ev_and, and1_t, ev_nil, ev_cons, cons1_ok, cons2_ok, ev_call, call1_ok, ev_rng1, rng1_ok, ev_skip, ev_seq, seq1_nx, seq1_rt, ev_ret, ret1_ok, ev_ifS, ifS1_t, ifS1_f, nxO_some, ev_asg, asg1_ok, gN_ap, lt_i, eq_i, eq_s, is_n, lcL_nil, lcL_cons, lcO_some, lcA_t, lcB_ok, lc2_ok, ev_yes, wipe_nil, wipe_cons, ev_lc, lc0_ok, lcE_ok, isN_non, isN_str, Option.isSome_some, Option.isSome_none, Option.getD_some, Option.getD_none, List.getElem?_cons_zero, List.getElem?_cons_succ, List.set_cons_zero, List.set_cons_succ, List.length_cons, List.length_nil, List.cons_append, List.nil_append, List.append_nil, Nat.reduceAdd, Nat.reduceLeDiff, Nat.reduceEqDiff, ↓reduceIte, ofO_some, Bool.not_true, Bool.not_false, Option.map_some, Option.bind_some, decide_true, decide_false, Nat.zero_add, Bool.false_eq_true, List.set_cons_zero, Int.reduceLT, Int.reduceLE, Int.reduceEq, te_l_right_1, e8, rng1_if, r8, lc_run, n0, ixW c8, ixV c8, iR, nb1, nb0, ev_fldX, f1, f2, ii, iss, is_sn, lt]
    try rfl
theorem tl1 {r : Int} {o : Option Str} {h : D} {L : List D} {ah : AH} : TlR 1 r o h L 6 [.str (wS o), .int r] ah := by
  have c8 : Cl8 6 := by unfold Cl8; simp
  have f1 := (fr 6 (by simp) (x := .str (wS o)) (y := .int r)).1
  have f2 := (fr 6 (by simp) (x := .str (wS o)) (y := .int r)).2
  have e8 : ∀ l, f_l_all [.exc 6 l] ah = .ok (.lst (LB 6)) ah := fun l => p_all c8
  have iR : ∀ l, ix_RowError (.exc 6 l) = some true := fun _ => rfl
  have n0 := ne1 (ah := ah)
  have lt : decide ((1 : Int) < 4) = true := rfl
  unfold TlR
  cases o with
  | none =>
    simp only [wD, wS] at f1 f2 ⊢
    simp -implicitDefEqProofs only [k_l_right_4, ev_var, ev_c, ev_bin, bin1_ok, bin2_ok, ev_isI, un1_ok, ev_test, test1_ok, ev_notT, notT1_ok, ev_orT, orT1_f, ev_and, and1_t, ev_nil, ev_cons, cons1_ok, cons2_ok, ev_call, call1_ok, ev_rng1, rng1_ok, ev_skip, ev_seq, seq1_nx, seq1_rt, ev_ret, ret1_ok, ev_ifS, ifS1_t, ifS1_f, nxO_some, ev_asg, asg1_ok, gN_ap, lt_i, eq_i, eq_s, is_n, lcL_nil, lcL_cons, lcO_some, lcA_t, lcB_ok, lc2_ok, ev_yes, wipe_nil, wipe_cons, ev_lc, lc0_ok, lcE_ok, isN_non, isN_str, Option.isSome_some, Option.isSome_none, Option.getD_some, Option.getD_none, List.getElem?_cons_zero, List.getElem?_cons_succ, List.set_cons_zero, List.set_cons_succ, List.length_cons, List.length_nil, List.cons_append, List.nil_append, List.append_nil, Nat.reduceAdd, Nat.reduceLeDiff, Nat.reduceEqDiff, ↓reduceIte, ofO_some, Bool.not_true, Bool.not_false, Option.map_some, Option.bind_some, decide_true, decide_false, Nat.zero_add, Bool.false_eq_true, List.set_cons_zero, Int.reduceLT, Int.reduceLE, Int.reduceEq, te_l_right_1, e8, rng1_if, r8, lc_run, n0, ixW c8, ixV c8, iR, nb1, nb0, ev_fldX, f1, f2, ii, iss, is_nn, lt]
    try rfl
  | some s =>
    simp only [wD, wS] at f1 f2 ⊢
    simp -implicitDefEqProofs only [k_l_right_4, ev_var, ev_c, ev_bin, bin1_ok, bin2_ok, ev_isI, un1_ok, ev_test, test1_ok, ev_notT, notT1_ok, ev_orT, orT1_f, ev_and, and1_t, ev_nil, ev_cons, cons1_ok, cons2_ok, ev_call, call1_ok, ev_rng1, rng1_ok, ev_skip, ev_seq, seq1_nx, seq1_rt, ev_ret, ret1_ok, ev_ifS, ifS1_t, ifS1_f, nxO_some, ev_asg, asg1_ok, gN_ap, lt_i, eq_i, eq_s, is_n, lcL_nil, lcL_cons, lcO_some, lcA_t, lcB_ok, lc2_ok, ev_yes, wipe_nil, wipe_cons, ev_lc, lc0_ok, lcE_ok, isN_non, isN_str, Option.isSome_some, Option.isSome_none, Option.getD_some, Option.getD_none, List.getElem?_cons_zero, List.getElem?_cons_succ, List.set_cons_zero, List.set_cons_succ, List.length_cons, List.length_nil, List.cons_append, List.nil_append, List.append_nil, Nat.reduceAdd, Nat.reduceLeDiff, Nat.reduceEqDiff, ↓reduceIte, ofO_some, Bool.not_true, Bool.not_false, Option.map_some, Option.bind_some, decide_true, decide_false, Nat.zero_add, Bool.false_eq_true, List.set_cons_zero, Int.reduceLT, Int.reduceLE, Int.reduceEq, te_l_right_1, e8, rng1_if, r8, lc_run, n0, ixW c8, ixV c8, iR, nb1, nb0, ev_fldX, f1, f2, ii, iss, is_sn, lt]
    try rfl
theorem tl2 {r : Int} {o : Option Str} {h : D} {L : List D} {ah : AH} : TlR 2 r o h L 7 [.str (wS o), .int r] ah := by
  have c8 : Cl8 7 := by unfold Cl8; simp
  have f1 := (fr 7 (by simp) (x := .str (wS o)) (y := .int r)).1
  have f2 := (fr 7 (by simp) (x := .str (wS o)) (y := .int r)).2
  have e8 : ∀ l, f_l_all [.exc 7 l] ah = .ok (.lst (LB 7)) ah := fun l => p_all c8
  have iR : ∀ l, ix_RowError (.exc 7 l) = some true := fun _ => rfl
  have n0 := ne2 (ah := ah)
  have lt : decide ((2 : Int) < 4) = true := rfl
  unfold TlR
  cases o with
  | none =>
    simp only [wD, wS] at f1 f2 ⊢
    simp -implicitDefEqProofs only [k_l_right_4, ev_var, ev_c, ev_bin, bin1_ok, bin2_ok, ev_isI, un1_ok, ev_test, test1_ok, ev_notT, notT1_ok, ev_orT, orT1_f, ev_and, and1_t, ev_nil, ev_cons, cons1_ok, cons2_ok, ev_call, call1_ok, ev_rng1, rng1_ok, ev_skip, ev_seq, seq1_nx, seq1_rt, ev_ret, ret1_ok, ev_ifS, ifS1_t, ifS1_f, nxO_some, ev_asg, asg1_ok, gN_ap, lt_i, eq_i, eq_s, is_n, lcL_nil, lcL_cons, lcO_some, lcA_t, lcB_ok, lc2_ok, ev_yes, wipe_nil, wipe_cons, ev_lc, lc0_ok, lcE_ok, isN_non, isN_str, Option.isSome_some, Option.isSome_none, Option.getD_some, Option.getD_none, List.getElem?_cons_zero, List.getElem?_cons_succ, List.set_cons_zero, List.set_cons_succ, List.length_cons, List.length_nil, List.cons_append, List.nil_append, List.append_nil, Nat.reduceAdd, Nat.reduceLeDiff, Nat.reduceEqDiff, ↓reduceIte, ofO_some, Bool.not_true, Bool.not_false, Option.map_some, Option.bind_some, decide_true, decide_false, Nat.zero_add, Bool.false_eq_true, List.set_cons_zero, Int.reduceLT, Int.reduceLE, Int.reduceEq, te_l_right_1, e8, rng1_if, r8, lc_run, n0, ixW c8, ixV c8, iR, nb1, nb0, ev_fldX, f1, f2, ii, iss, is_nn, lt]
    try rfl
  | some s =>
    simp only [wD, wS] at f1 f2 ⊢
    simp -implicitDefEqProofs only [k_l_right_4, ev_var, ev_c, ev_bin, bin1_ok, bin2_ok, ev_isI, un1_ok, ev_test, test1_ok, ev_notT, notT1_ok, ev_orT, orT1_f, ev_and, and1_t, ev_nil, ev_cons, cons1_ok, cons2_ok, ev_call, call1_ok, ev_rng1, rng1_ok, ev_skip, ev_seq, seq1_nx, seq1_rt, ev_ret, ret1_ok, ev_ifS, ifS1_t, ifS1_f, nxO_some, ev_asg, asg1_ok, gN_ap, lt_i, eq_i, eq_s, is_n, lcL_nil, lcL_cons, lcO_some, lcA_t, lcB_ok, lc2_ok, ev_yes, wipe_nil, wipe_cons, ev_lc, lc0_ok, lcE_ok, isN_non, isN_str, Option.isSome_some, Option.isSome_none, Option.getD_some, Option.getD_none, List.getElem?_cons_zero, List.getElem?_cons_succ, List.set_cons_zero, List.set_cons_succ, List.length_cons, List.length_nil, List.cons_append, List.nil_append, List.append_nil, Nat.reduceAdd, Nat.reduceLeDiff, Nat.reduceEqDiff, ↓reduceIte, ofO_some, Bool.not_true, Bool.not_false, Option.map_some, Option.bind_some, decide_true, decide_false, Nat.zero_add, Bool.false_eq_true, List.set_cons_zero, Int.reduceLT, Int.reduceLE, Int.reduceEq, te_l_right_1, e8, rng1_if, r8, lc_run, n0, ixW c8, ixV c8, iR, nb1, nb0, ev_fldX, f1, f2, ii, iss, is_sn, lt]
    try rfl
theorem tl3 {r : Int} {o : Option Str} {h : D} {L : List D} {ah : AH} : TlR 3 r o h L 8 [.str (wS o), .int r] ah := by
  have c8 : Cl8 8 := by unfold Cl8; simp
  have f1 := (fr 8 (by simp) (x := .str (wS o)) (y := .int r)).1
  have f2 := (fr 8 (by simp) (x := .str (wS o)) (y := .int r)).2
  have e8 : ∀ l, f_l_all [.exc 8 l] ah = .ok (.lst (LB 8)) ah := fun l => p_all c8
  have iR : ∀ l, ix_RowError (.exc 8 l) = some true := fun _ => rfl
  have n0 := ne3 (ah := ah)
  have lt : decide ((3 : Int) < 4) = true := rfl
  unfold TlR
  cases o with
  | none =>
    simp only [wD, wS] at f1 f2 ⊢
    simp -implicitDefEqProofs only [k_l_right_4, ev_var, ev_c, ev_bin, bin1_ok, bin2_ok, ev_isI, un1_ok, ev_test, test1_ok, ev_notT, notT1_ok, ev_orT, orT1_f, ev_and, and1_t, ev_nil, ev_cons, cons1_ok, cons2_ok, ev_call, call1_ok, ev_rng1, rng1_ok, ev_skip, ev_seq, seq1_nx, seq1_rt, ev_ret, ret1_ok, ev_ifS, ifS1_t, ifS1_f, nxO_some, ev_asg, asg1_ok, gN_ap, lt_i, eq_i, eq_s, is_n, lcL_nil, lcL_cons, lcO_some, lcA_t, lcB_ok, lc2_ok, ev_yes, wipe_nil, wipe_cons, ev_lc, lc0_ok, lcE_ok, isN_non, isN_str, Option.isSome_some, Option.isSome_none, Option.getD_some, Option.getD_none, List.getElem?_cons_zero, List.getElem?_cons_succ, List.set_cons_zero, List.set_cons_succ, List.length_cons, List.length_nil, List.cons_append, List.nil_append, List.append_nil, Nat.reduceAdd, Nat.reduceLeDiff, Nat.reduceEqDiff, ↓reduceIte, ofO_some, Bool.not_true, Bool.not_false, Option.map_some, Option.bind_some, decide_true, decide_false, Nat.zero_add, Bool.false_eq_true, List.set_cons_zero, Int.reduceLT, Int.reduceLE, Int.reduceEq, te_l_right_1, e8, rng1_if, r8, lc_run, n0, ixW c8, ixV c8, iR, nb1, nb0, ev_fldX, f1, f2, ii, iss, is_nn, lt]
    try rfl
  | some s =>
    simp only [wD, wS] at f1 f2 ⊢
    simp -implicitDefEqProofs only [k_l_right_4, ev_var, ev_c, ev_bin, bin1_ok, bin2_ok, ev_isI, un1_ok, ev_test, test1_ok, ev_notT, notT1_ok, ev_orT, orT1_f, ev_and, and1_t, ev_nil, ev_cons, cons1_ok, cons2_ok, ev_call, call1_ok, ev_rng1, rng1_ok, ev_skip, ev_seq, seq1_nx, seq1_rt, ev_ret, ret1_ok, ev_ifS, ifS1_t, ifS1_f, nxO_some, ev_asg, asg1_ok, gN_ap, lt_i, eq_i, eq_s, is_n, lcL_nil, lcL_cons, lcO_some, lcA_t, lcB_ok, lc2_ok, ev_yes, wipe_nil, wipe_cons, ev_lc, lc0_ok, lcE_ok, isN_non, isN_str, Option.isSome_some, Option.isSome_none, Option.getD_some, Option.getD_none, List.getElem?_cons_zero, List.getElem?_cons_succ, List.set_cons_zero, List.set_cons_succ, List.length_cons, List.length_nil, List.cons_append, List.nil_append, List.append_nil, Nat.reduceAdd, Nat.reduceLeDiff, Nat.reduceEqDiff, ↓reduceIte, ofO_some, Bool.not_true, Bool.not_false, Option.map_some, Option.bind_some, decide_true, decide_false, Nat.zero_add, Bool.false_eq_true, List.set_cons_zero, Int.reduceLT, Int.reduceLE, Int.reduceEq, te_l_right_1, e8, rng1_if, r8, lc_run, n0, ixW c8, ixV c8, iR, nb1, nb0, ev_fldX, f1, f2, ii, iss, is_sn, lt]
    try rfl
/-- texts, list and numbers that are alike -/
theorem tl4 {r : Int} {o : Option Str} {h : D} {L : List D} {ah : AH} (hL : eqD ah (.tup L) (.tup L) = some (.bl true)) : TlR 4 r o h L 9 [.tup L] ah := by
  have c8 : Cl8 9 := by unfold Cl8; simp
  have e8 : ∀ l, f_l_all [.exc 9 l] ah = .ok (.lst (LB 9)) ah := fun l => p_all c8
  have iR : ∀ l, ix_RowError (.exc 9 l) = some false := fun _ => rfl
  have n0 := ne4 (ah := ah)
  have lt : decide ((4 : Int) < 4) = false := rfl
  unfold TlR
  simp -implicitDefEqProofs only [k_l_right_4, ev_var, ev_c, ev_bin, bin1_ok, bin2_ok, ev_isI, un1_ok, ev_test, test1_ok, ev_notT, notT1_ok, ev_orT, orT1_f, ev_and, and1_t, ev_nil, ev_cons, cons1_ok, cons2_ok, ev_call, call1_ok, ev_rng1, rng1_ok, ev_skip, ev_seq, seq1_nx, seq1_rt, ev_ret, ret1_ok, ev_ifS, ifS1_t, ifS1_f, gN_ap, lt_i, eq_i, lcL_nil, lcL_cons, lcO_some, lcA_t, lcB_ok, lc2_ok, ev_yes, wipe_nil, wipe_cons, ev_lc, lc0_ok, lcE_ok, Option.isSome_some, Option.isSome_none, Option.getD_some, Option.getD_none, List.getElem?_cons_zero, List.getElem?_cons_succ, List.set_cons_zero, List.set_cons_succ, List.length_cons, List.length_nil, List.cons_append, List.nil_append, List.append_nil, Nat.reduceAdd, Nat.reduceLeDiff, Nat.reduceEqDiff, ↓reduceIte, ofO_some, Bool.not_true, Bool.not_false, Option.map_some, Option.bind_some, decide_true, decide_false, Nat.zero_add, Bool.false_eq_true, List.set_cons_zero, Int.reduceLT, Int.reduceLE, Int.reduceEq, te_l_right_1, e8, rng1_if, r8, lc_run, n0, ixW c8, ixV c8, iR, nb1, nb0, ev_fldX, frS, itt, hL, lt]
  try rfl
theorem tl5 {r : Int} {o : Option Str} {h : D} {L : List D} {ah : AH} : TlR 5 r o h L 10 [.str (wN o)] ah := by
  have c8 : Cl8 10 := by unfold Cl8; simp
  have e8 : ∀ l, f_l_all [.exc 10 l] ah = .ok (.lst (LB 10)) ah := fun l => p_all c8
  have iR : ∀ l, ix_RowError (.exc 10 l) = some false := fun _ => rfl
  have n0 := ne5 (ah := ah)
  have lt : decide ((5 : Int) < 4) = false := rfl
  have gt : decide ((5 : Int) < 5) = false := rfl
  unfold TlR
  cases o with
  | none =>
    simp only [wD, wN]
    simp -implicitDefEqProofs only [k_l_right_4, ev_var, ev_c, ev_bin, bin1_ok, bin2_ok, ev_isI, un1_ok, ev_test, test1_ok, ev_notT, notT1_ok, ev_orT, orT1_f, ev_or, or1_f, ev_nil, ev_cons, cons1_ok, cons2_ok, ev_cb, cb1_ok, ev_call, call1_ok, ev_rng1, rng1_ok, ev_skip, ev_seq, seq1_nx, ev_ret, ret1_ok, ev_ifS, ifS1_f, gN_ap, lt_i, gt_i, eq_i, eq_s, lcL_nil, lcL_cons, lcO_some, lcA_t, lcB_ok, lc2_ok, ev_yes, wipe_nil, wipe_cons, ev_lc, lc0_ok, lcE_ok, Option.isSome_some, Option.isSome_none, Option.getD_some, Option.getD_none, List.getElem?_cons_zero, List.getElem?_cons_succ, List.set_cons_zero, List.set_cons_succ, List.length_cons, List.length_nil, List.cons_append, List.nil_append, List.append_nil, Nat.reduceAdd, Nat.reduceLeDiff, Nat.reduceEqDiff, ↓reduceIte, ofO_some, Bool.not_true, Bool.not_false, Option.map_some, Option.bind_some, decide_true, decide_false, Nat.zero_add, Bool.false_eq_true, List.set_cons_zero, Int.reduceLT, Int.reduceLE, Int.reduceEq, te_l_right_1, e8, rng1_if, r8, lc_run, n0, ixW c8, ixV c8, iR, nb1, nb0, ev_fldX, frF, lt, gt, strA_n]
    try rfl
  | some s =>
    simp only [wD, wN]
    simp -implicitDefEqProofs only [k_l_right_4, ev_var, ev_c, ev_bin, bin1_ok, bin2_ok, ev_isI, un1_ok, ev_test, test1_ok, ev_notT, notT1_ok, ev_orT, orT1_f, ev_or, or1_f, ev_nil, ev_cons, cons1_ok, cons2_ok, ev_cb, cb1_ok, ev_call, call1_ok, ev_rng1, rng1_ok, ev_skip, ev_seq, seq1_nx, ev_ret, ret1_ok, ev_ifS, ifS1_f, gN_ap, lt_i, gt_i, eq_i, eq_s, lcL_nil, lcL_cons, lcO_some, lcA_t, lcB_ok, lc2_ok, ev_yes, wipe_nil, wipe_cons, ev_lc, lc0_ok, lcE_ok, Option.isSome_some, Option.isSome_none, Option.getD_some, Option.getD_none, List.getElem?_cons_zero, List.getElem?_cons_succ, List.set_cons_zero, List.set_cons_succ, List.length_cons, List.length_nil, List.cons_append, List.nil_append, List.append_nil, Nat.reduceAdd, Nat.reduceLeDiff, Nat.reduceEqDiff, ↓reduceIte, ofO_some, Bool.not_true, Bool.not_false, Option.map_some, Option.bind_some, decide_true, decide_false, Nat.zero_add, Bool.false_eq_true, List.set_cons_zero, Int.reduceLT, Int.reduceLE, Int.reduceEq, te_l_right_1, e8, rng1_if, r8, lc_run, n0, ixW c8, ixV c8, iR, nb1, nb0, ev_fldX, frF, lt, gt, strA_s]
    try rfl
theorem tl6 {r : Int} {o : Option Str} {h : D} {L : List D} {ah : AH} : TlR 6 r o h L 2 [] ah := by
  have c8 : Cl8 2 := by unfold Cl8; simp
  have e8 : ∀ l, f_l_all [.exc 2 l] ah = .ok (.lst (LB 2)) ah := fun l => p_all c8
  have iR : ∀ l, ix_RowError (.exc 2 l) = some false := fun _ => rfl
  have n0 := ne6 (ah := ah)
  have lt : decide ((6 : Int) < 4) = false := rfl
  have gt : decide ((5 : Int) < 6) = true := rfl
  unfold TlR
  simp -implicitDefEqProofs only [k_l_right_4, ev_var, ev_c, ev_bin, bin1_ok, bin2_ok, ev_isI, un1_ok, ev_test, test1_ok, ev_notT, notT1_ok, ev_orT, orT1_f, ev_or, or1_t, ev_nil, ev_cons, cons1_ok, cons2_ok, ev_call, call1_ok, ev_rng1, rng1_ok, ev_skip, ev_seq, seq1_nx, ev_ret, ret1_ok, ev_ifS, ifS1_f, gN_ap, lt_i, gt_i, eq_i, lcL_nil, lcL_cons, lcO_some, lcA_t, lcB_ok, lc2_ok, ev_yes, wipe_nil, wipe_cons, ev_lc, lc0_ok, lcE_ok, Option.isSome_some, Option.isSome_none, Option.getD_some, Option.getD_none, List.getElem?_cons_zero, List.getElem?_cons_succ, List.set_cons_zero, List.set_cons_succ, List.length_cons, List.length_nil, List.cons_append, List.nil_append, List.append_nil, Nat.reduceAdd, Nat.reduceLeDiff, Nat.reduceEqDiff, ↓reduceIte, ofO_some, Bool.not_true, Bool.not_false, Option.map_some, Option.bind_some, decide_true, decide_false, Nat.zero_add, Bool.false_eq_true, List.set_cons_zero, Int.reduceLT, Int.reduceLE, Int.reduceEq, te_l_right_1, e8, rng1_if, r8, lc_run, n0, ixW c8, ixV c8, iR, nb1, nb0, lt, gt]
  try rfl
theorem tl7 {r : Int} {o : Option Str} {h : D} {L : List D} {ah : AH} : TlR 7 r o h L 3 [] ah := by
  have c8 : Cl8 3 := by unfold Cl8; simp
  have e8 : ∀ l, f_l_all [.exc 3 l] ah = .ok (.lst (LB 3)) ah := fun l => p_all c8
  have iR : ∀ l, ix_RowError (.exc 3 l) = some false := fun _ => rfl
  have n0 := ne7 (ah := ah)
  have lt : decide ((7 : Int) < 4) = false := rfl
  have gt : decide ((5 : Int) < 7) = true := rfl
  unfold TlR
  simp -implicitDefEqProofs only [k_l_right_4, ev_var, ev_c, ev_bin, bin1_ok, bin2_ok, ev_isI, un1_ok, ev_test, test1_ok, ev_notT, notT1_ok, ev_orT, orT1_f, ev_or, or1_t, ev_nil, ev_cons, cons1_ok, cons2_ok, ev_call, call1_ok, ev_rng1, rng1_ok, ev_skip, ev_seq, seq1_nx, ev_ret, ret1_ok, ev_ifS, ifS1_f, gN_ap, lt_i, gt_i, eq_i, lcL_nil, lcL_cons, lcO_some, lcA_t, lcB_ok, lc2_ok, ev_yes, wipe_nil, wipe_cons, ev_lc, lc0_ok, lcE_ok, Option.isSome_some, Option.isSome_none, Option.getD_some, Option.getD_none, List.getElem?_cons_zero, List.getElem?_cons_succ, List.set_cons_zero, List.set_cons_succ, List.length_cons, List.length_nil, List.cons_append, List.nil_append, List.append_nil, Nat.reduceAdd, Nat.reduceLeDiff, Nat.reduceEqDiff, ↓reduceIte, ofO_some, Bool.not_true, Bool.not_false, Option.map_some, Option.bind_some, decide_true, decide_false, Nat.zero_add, Bool.false_eq_true, List.set_cons_zero, Int.reduceLT, Int.reduceLE, Int.reduceEq, te_l_right_1, e8, rng1_if, r8, lc_run, n0, ixW c8, ixV c8, iR, nb1, nb0, lt, gt]
  try rfl
theorem h_l {ah : AH} {n : Nat} {L : List D} (h : ah[n]? = some (.lst L)) : is_list ah (.ref n) = some true := by
  unfold is_list
  simp only [h]
theorem h_t {ah : AH} {L : List D} : is_list ah (.tup L) = some false := rfl
theorem front {k r : Int} {o : Option Str} {h : D} {L : List D} {c : Nat} {fs : List D} {ah : AH} (q : Hnd ah h L) (hlen : L.length < 1000) (hm : f_l_made [.int k, .int r, wD o, h] ah = .ok (.exc c fs) ah) (ht : TlR k r o h L c fs (ahR ah h L)) :
    f_l_right [.int k, .int r, wD o, h] ah = .ok (.bl true) (ahR ah h L) := by
  have e := hnd_tup q
  unfold TlR at ht
  rcases q with rfl | ⟨n, rfl, hn⟩
  · simp only [ahR] at ht ⊢
    simp -implicitDefEqProofs only [r_l_right, c_l_right, ev_var, ev_c, ev_isI, un1_ok, ev_test, test1_ok, ev_nil, ev_cons, cons1_ok, cons2_ok, ev_cb, cb1_ok, ev_call, call1_ok, ev_skip, ev_seq, seq1_nx, ev_expr, expr1_ok, ev_ifS, ifS1_t, ifS1_f, nxO_some, ev_asg, asg1_ok, gN_ap, run1_rt, ev_appR, Option.isSome_some, Option.isSome_none, Option.getD_some, Option.getD_none, List.getElem?_cons_zero, List.getElem?_cons_succ, List.set_cons_zero, List.set_cons_succ, List.length_cons, List.length_nil, List.cons_append, List.nil_append, List.append_nil, Nat.reduceAdd, Nat.reduceLeDiff, Nat.reduceEqDiff, ↓reduceIte, ofO_some, Bool.not_true, Bool.not_false, Option.map_some, Option.bind_some, decide_true, decide_false, Nat.zero_add, Bool.false_eq_true, List.set_cons_zero, Int.reduceLT, Int.reduceLE, Int.reduceEq, e, hm, h_t, ht]
  · simp only [ahR] at ht ⊢
    have a1 : ∀ v env, appR1 v env (.ok (.ref n) ah) = appR2 n (v env ah) := fun v env => appR1_ref hn
    have a2 : ∀ d, appR2 n (.ok d ah) = .ok .non (ah.set n (.lst (L ++ [d]))) := fun d => appR2_ok hn (by omega)
    simp -implicitDefEqProofs only [r_l_right, c_l_right, ev_var, ev_c, ev_isI, un1_ok, ev_test, test1_ok, ev_nil, ev_cons, cons1_ok, cons2_ok, ev_cb, cb1_ok, ev_call, call1_ok, ev_skip, ev_seq, seq1_nx, ev_expr, expr1_ok, ev_ifS, ifS1_t, ifS1_f, nxO_some, ev_asg, asg1_ok, gN_ap, run1_rt, ev_appR, Option.isSome_some, Option.isSome_none, Option.getD_some, Option.getD_none, List.getElem?_cons_zero, List.getElem?_cons_succ, List.set_cons_zero, List.set_cons_succ, List.length_cons, List.length_nil, List.cons_append, List.nil_append, List.append_nil, Nat.reduceAdd, Nat.reduceLeDiff, Nat.reduceEqDiff, ↓reduceIte, ofO_some, Bool.not_true, Bool.not_false, Option.map_some, Option.bind_some, decide_true, decide_false, Nat.zero_add, Bool.false_eq_true, List.set_cons_zero, Int.reduceLT, Int.reduceLE, Int.reduceEq, e, hm, h_l hn, a1, a2, ht]
theorem d7 : divOk 7 := divOk_w (b := 3) (by decide) (by decide) (by decide) (by decide)
theorem rngD_map (n : Nat) : rngD 0 n = ((List.range n).map fun i : Nat => (i : Int)).map D.int := by
  unfold rngD
  rw [List.map_map]
  refine List.map_congr_left fun a _ => ?_
  show D.int (0 + (a : Int)) = D.int (a : Int)
  rw [Int.zero_add]
theorem te1 {x0 x2 x4 x5 : Sl} {c k : Int} {ah : AH} : te_law_1 [x0, .val (.int c), x2, .val (.int k), x4, x5] ah = .ok (.int (((mixed c (10 + k)).fdiv 7).fmod 200)) ah := by
  simp -implicitDefEqProofs only [te_law_1, ev_var, ev_c, ev_bin, bin1_ok, bin2_ok, ev_nil, ev_cons, cons1_ok, cons2_ok, ev_call, call1_ok, add_i, fdiv_i, mod_i, Option.isSome_some, Option.isSome_none, Option.getD_some, Option.getD_none, List.getElem?_cons_zero, List.getElem?_cons_succ, List.set_cons_zero, List.set_cons_succ, List.length_cons, List.length_nil, List.cons_append, List.nil_append, List.append_nil, Nat.reduceAdd, Nat.reduceLeDiff, Nat.reduceEqDiff, ↓reduceIte, ofO_some, Bool.not_true, Bool.not_false, Option.map_some, Option.bind_some, decide_true, decide_false, Nat.zero_add, Bool.false_eq_true, List.set_cons_zero, Int.reduceLT, Int.reduceLE, Int.reduceEq, p_mixed, fdiv_i d7, mod_i (show (200 : Int) ≠ 0 by decide)]
theorem lc1 {x0 x2 x4 x5 : Sl} {c : Int} : ∀ (ks : List Int) (x3 : Sl) (ah : AH), lcL [3] (gN 3) cYes te_law_1 [x0, .val (.int c), x2, x3, x4, x5] (ks.map D.int) ah = .ok ((ks.map fun k => ((mixed c (10 + k)).fdiv 7).fmod 200).map D.int) ah
  | [], x3, ah => rfl
  | k :: r, x3, ah => by
    have ih := lc1 (x0 := x0) (x2 := x2) (x4 := x4) (x5 := x5) (c := c) r x3 ah
    rw [List.map_cons, lcL_cons]
    simp -implicitDefEqProofs only [gN_ap, lcL_cons, lcO_some, lcA_t, lcB_ok, lc2_ok, ev_yes, wipe_nil, wipe_cons, Option.isSome_some, Option.isSome_none, Option.getD_some, Option.getD_none, List.getElem?_cons_zero, List.getElem?_cons_succ, List.set_cons_zero, List.set_cons_succ, List.length_cons, List.length_nil, List.cons_append, List.nil_append, List.append_nil, Nat.reduceAdd, Nat.reduceLeDiff, Nat.reduceEqDiff, ↓reduceIte, ofO_some, Bool.not_true, Bool.not_false, Option.map_some, Option.bind_some, decide_true, decide_false, Nat.zero_add, Bool.false_eq_true, List.set_cons_zero, Int.reduceLT, Int.reduceLE, Int.reduceEq, te1, ih]
    rfl
/-- what a whole number of four, or of two, picks -/
theorem pick4 (x : Int) {w : Int} (h : x.fmod 4 = w) : w = 0 ∨ w = 1 ∨ w = 2 ∨ w = 3 := by
  have := fmod_b (a := x) (m := 4) (by decide)
  omega
theorem pick2 (x : Int) {w : Int} (h : x.fmod 2 = w) : w = 0 ∨ w = 1 := by
  have := fmod_b (a := x) (m := 2) (by decide)
  omega
theorem wpick (x : Int) : ∃ o, atI [.str "m.c", .non, .str "", .str "x"] (x.fmod 4) = some (wD o) := by
  rcases pick4 x rfl with h | h | h | h <;> rw [h]
  · exact ⟨some "m.c", rfl⟩
  · exact ⟨none, rfl⟩
  · exact ⟨some "", rfl⟩
  · exact ⟨some "x", rfl⟩
/-- one turn -/
theorem turn {x0 x4 x5 : Sl} {c : Int} {k : Int} {cl : Nat} {fs : Int → Option Str → List D} {L : List D} {ah : AH} (hlen : L.length < 1000) (hm : ∀ r o h ah, Hnd ah h L → f_l_made [.int k, .int r, wD o, h] ah = .ok (.exc cl (fs r o)) ah) (ht : ∀ r o h ah, TlR k r o h L cl (fs r o) ah) :
    ∃ y4 y5 ah', b_law_1 [x0, .val (.int c), .val (.lst L), .val (.int k), x4, x5] ah = .nx [x0, .val (.int c), .val (.lst L), .val (.int k), y4, y5] ah' := by
  obtain ⟨o, ho⟩ := wpick ((mixed c (30 + k)).fdiv 7)
  have n4 : (4 : Int) ≠ 0 := by decide
  have n2 : (2 : Int) ≠ 0 := by decide
  have n3 : (300 : Int) ≠ 0 := by decide
  have ft : ∀ r h ah, Hnd ah h L → f_l_right [.int k, .int r, wD o, h] ah = .ok (.bl true) (ahR ah h L) := fun r h ah q => front q hlen (hm r o h ah q) (ht r o h _)
  have e1 : listRA ah [.lst L] = some (.ref ah.length, ah ++ [.lst L]) := rfl
  have hn : (ah ++ [MO.lst L])[ah.length]? = some (.lst L) := by simp
  rcases pick2 ((mixed c (50 + k)).fdiv 7) rfl with h | h
  · have a2 : atI [D.tup L, .ref ah.length] (((mixed c (50 + k)).fdiv 7).fmod 2) = some (.tup L) := by rw [h]; rfl
    have f2 := fun r => ft r (.tup L) (ah ++ [.lst L]) (.inl rfl)
    refine ⟨.val (wD o), .val (.tup L), ahR (ah ++ [.lst L]) (.tup L) L, ?_⟩
    simp -implicitDefEqProofs only [b_law_1, ev_var, ev_c, ev_bin, bin1_ok, bin2_ok, ev_test, test1_ok, ev_notT, notT1_ok, ev_nil, ev_cons, cons1_ok, cons2_ok, ev_lst, lst1_ok, ev_cb, cb1_ok, ev_call, call1_ok, ev_skip, ev_seq, seq1_nx, ev_ifS, ifS1_f, nxO_some, ev_asg, asg1_ok, gN_ap, add_i, fdiv_i, mod_i, tup_l, ev_cba, ixA_l, Option.isSome_some, Option.isSome_none, Option.getD_some, Option.getD_none, List.getElem?_cons_zero, List.getElem?_cons_succ, List.set_cons_zero, List.set_cons_succ, List.length_cons, List.length_nil, List.cons_append, List.nil_append, List.append_nil, Nat.reduceAdd, Nat.reduceLeDiff, Nat.reduceEqDiff, ↓reduceIte, ofO_some, Bool.not_true, Bool.not_false, Option.map_some, Option.bind_some, decide_true, decide_false, Nat.zero_add, Bool.false_eq_true, List.set_cons_zero, Int.reduceLT, Int.reduceLE, Int.reduceEq, p_mixed, fdiv_i d7, mod_i n4, mod_i n2, mod_i n3, ho, cba1_ok e1, a2, f2]
  · have a2 : atI [D.tup L, .ref ah.length] (((mixed c (50 + k)).fdiv 7).fmod 2) = some (.ref ah.length) := by rw [h]; rfl
    have f2 := fun r => ft r (.ref ah.length) (ah ++ [.lst L]) (.inr ⟨_, rfl, hn⟩)
    refine ⟨.val (wD o), .val (.ref ah.length), ahR (ah ++ [.lst L]) (.ref ah.length) L, ?_⟩
    simp -implicitDefEqProofs only [b_law_1, ev_var, ev_c, ev_bin, bin1_ok, bin2_ok, ev_test, test1_ok, ev_notT, notT1_ok, ev_nil, ev_cons, cons1_ok, cons2_ok, ev_lst, lst1_ok, ev_cb, cb1_ok, ev_call, call1_ok, ev_skip, ev_seq, seq1_nx, ev_ifS, ifS1_f, nxO_some, ev_asg, asg1_ok, gN_ap, add_i, fdiv_i, mod_i, tup_l, ev_cba, ixA_l, Option.isSome_some, Option.isSome_none, Option.getD_some, Option.getD_none, List.getElem?_cons_zero, List.getElem?_cons_succ, List.set_cons_zero, List.set_cons_succ, List.length_cons, List.length_nil, List.cons_append, List.nil_append, List.append_nil, Nat.reduceAdd, Nat.reduceLeDiff, Nat.reduceEqDiff, ↓reduceIte, ofO_some, Bool.not_true, Bool.not_false, Option.map_some, Option.bind_some, decide_true, decide_false, Nat.zero_add, Bool.false_eq_true, List.set_cons_zero, Int.reduceLT, Int.reduceLE, Int.reduceEq, p_mixed, fdiv_i d7, mod_i n4, mod_i n2, mod_i n3, ho, cba1_ok e1, a2, f2]
theorem p_bare {ah : AH} : f_l_bare [] ah = .ok (.bl true) ah := by
  have f1 : ∀ x y : D, fldX xl "row" (.exc 4 [x, y]) = some y := fun x y => fldX_at xx_RowError_row rfl
  have f2 : ∀ x y : D, fldX xl "word" (.exc 4 [x, y]) = some x := fun x y => fldX_at xx_RowError_word rfl
  have n1 : neD ah (.tup [.int 3, .str "", .int 4, .str "x.y"]) (.tup [.int 3, .str "", .int 4, .str "x.y"]) = some (.bl false) := by with_unfolding_all rfl
  have w1 : ∀ l, ix_WorkError (.exc 4 l) = some true := fun _ => rfl
  have i1 : notInQD ah (.bl true) (.lst (LB 4)) = some (.bl true) := by with_unfolding_all rfl
  simp -implicitDefEqProofs only [r_l_bare, c_l_bare, ev_var, ev_c, ev_bin, bin1_ok, bin2_ok, ev_isI, un1_ok, ev_test, test1_ok, ev_and, and1_t, ev_nil, ev_cons, cons1_ok, cons2_ok, ev_tup, tup1_ok, ev_call, call1_ok, ev_skip, ev_seq, seq1_nx, ev_ret, ret1_ok, ev_ifS, ifS1_f, nxO_some, ev_asg, asg1_ok, gN_ap, run1_rt, Option.isSome_some, Option.isSome_none, Option.getD_some, Option.getD_none, List.getElem?_cons_zero, List.getElem?_cons_succ, List.set_cons_zero, List.set_cons_succ, List.length_cons, List.length_nil, List.cons_append, List.nil_append, List.append_nil, Nat.reduceAdd, Nat.reduceLeDiff, Nat.reduceEqDiff, ↓reduceIte, ofO_some, Bool.not_true, Bool.not_false, Option.map_some, Option.bind_some, decide_true, decide_false, Nat.zero_add, Bool.false_eq_true, List.set_cons_zero, Int.reduceLT, Int.reduceLE, Int.reduceEq, ev_mkX, mkX1_3, mkX1_31, ev_fldX, f1, f2, n1, w1, p_allR, i1]
theorem law_true (ns : List Int) (h : ns.length ≤ 63) : ∃ ah, f_law [.scr (ns.map .int)] [] = .ok (.bl true) ah := by
  obtain ⟨v, hv⟩ := p_cell_at (ns := ns) 0 (by decide)
  have hv0 : ∀ ah, f_l_cell_at [.scr (ns.map .int), .int 0] ah = .ok (.int v) ah := hv
  generalize hc : mixed v 3 = c
  have n5 : (5 : Int) ≠ 0 := by decide
  have b5 := fmod_b (a := (mixed c 1).fdiv 7) (m := 5) (by decide)
  generalize hm : ((mixed c 1).fdiv 7).fmod 5 = m at b5
  generalize hks : (List.range m.toNat).map (fun i : Nat => (i : Int)) = ks
  have hkl : ks.length ≤ 10 := by rw [← hks, List.length_map, List.length_range]; omega
  have hrk : rngD 0 m.toNat = ks.map D.int := by rw [rngD_map, hks]
  generalize hL : (ks.map fun k => ((mixed c (10 + k)).fdiv 7).fmod 200).map D.int = L
  have hLl : L.length < 1000 := by rw [← hL, List.length_map, List.length_map]; omega
  have eqL : ∀ ah, eqD ah (.tup L) (.tup L) = some (.bl true) := fun ah => by
    have q : PlK 1 (.tup L) := pl_tup fun d hd => by
      rw [← hL] at hd
      obtain ⟨i, _, rfl⟩ := List.mem_map.mp hd
      exact pl_int
    obtain ⟨p, h1, h2, h3⟩ := q
    have z : eqB (.tup L) (.tup L) = some true := by
      refine eqB_refl h1 rfl ?_ (SeqAt.eqv_refl _ h2)
      unfold SeqAt.shaped
      rw [h2, Bool.true_and, decide_eq_true_eq]
      omega
    unfold eqD
    rw [z]
    rfl
  have hr : (if -2 ^ 62 ≤ m ∧ m < 2 ^ 62 then Res.ok (rngD 0 m.toNat) [] else Res.bad) = .ok (ks.map D.int) ([] : AH) := by
    rw [if_pos ⟨by omega, by omega⟩, hrk]
  have hl1 : (ks.map D.int).length ≤ 10000000 := by rw [List.length_map]; omega
  have lc : ∀ ah, lcL [3] (gN 3) cYes te_law_1 [.val (.scr (ns.map .int)), .val (.int c), .no, .no, .no, .no] (ks.map D.int) ah = .ok L ah := fun ah => by
    rw [← hL]
    exact lc1 ks _ _
  obtain ⟨a0, b0, h0, t0⟩ := turn (x0 := .val (.scr (ns.map .int))) (x4 := .no) (x5 := .no) (c := c) (k := 0) (cl := 5) (fs := fun r o => [.str (wS o), .int r]) (L := L) (ah := []) hLl (fun r o h ah _ => made0) fun r o h ah => tl0
  obtain ⟨a1, b1, h1, t1⟩ := turn (x0 := .val (.scr (ns.map .int))) (x4 := a0) (x5 := b0) (c := c) (k := 1) (cl := 6) (fs := fun r o => [.str (wS o), .int r]) (L := L) (ah := h0) hLl (fun r o h ah _ => made1) fun r o h ah => tl1
  obtain ⟨a2, b2, h2, t2⟩ := turn (x0 := .val (.scr (ns.map .int))) (x4 := a1) (x5 := b1) (c := c) (k := 2) (cl := 7) (fs := fun r o => [.str (wS o), .int r]) (L := L) (ah := h1) hLl (fun r o h ah _ => made2) fun r o h ah => tl2
  obtain ⟨a3, b3, h3, t3⟩ := turn (x0 := .val (.scr (ns.map .int))) (x4 := a2) (x5 := b2) (c := c) (k := 3) (cl := 8) (fs := fun r o => [.str (wS o), .int r]) (L := L) (ah := h2) hLl (fun r o h ah _ => made3) fun r o h ah => tl3
  obtain ⟨a4, b4, h4, t4⟩ := turn (x0 := .val (.scr (ns.map .int))) (x4 := a3) (x5 := b3) (c := c) (k := 4) (cl := 9) (fs := fun r o => [.tup L]) (L := L) (ah := h3) hLl (fun r o h ah q => made4 q) fun r o h ah => tl4 (eqL ah)
  obtain ⟨a5, b5', h5, t5⟩ := turn (x0 := .val (.scr (ns.map .int))) (x4 := a4) (x5 := b4) (c := c) (k := 5) (cl := 10) (fs := fun r o => [.str (wN o)]) (L := L) (ah := h4) hLl (fun r o h ah _ => made5) fun r o h ah => tl5
  obtain ⟨a6, b6, h6, t6⟩ := turn (x0 := .val (.scr (ns.map .int))) (x4 := a5) (x5 := b5') (c := c) (k := 6) (cl := 2) (fs := fun r o => []) (L := L) (ah := h5) hLl (fun r o h ah _ => made6) fun r o h ah => tl6
  obtain ⟨a7, b7, h7, t7⟩ := turn (x0 := .val (.scr (ns.map .int))) (x4 := a6) (x5 := b6) (c := c) (k := 7) (cl := 3) (fs := fun r o => []) (L := L) (ah := h6) hLl (fun r o h ah _ => made7) fun r o h ah => tl7
  refine ⟨h7, ?_⟩
  simp -implicitDefEqProofs only [r_law, c_law, ev_var, ev_c, ev_bin, bin1_ok, bin2_ok, ev_nil, ev_cons, cons1_ok, cons2_ok, ev_call, call1_ok, ev_rng1, rng1_ok, ev_seq, seq1_nx, ev_ret, ret1_ok, nxO_some, ev_asg, asg1_ok, ev_for, for1_ok, forM_some, forK_nx, run1_rt, fdiv_i, mod_i, ev_lc, lc0_ok, lcE_ok, Option.isSome_some, Option.isSome_none, Option.getD_some, Option.getD_none, List.getElem?_cons_zero, List.getElem?_cons_succ, List.set_cons_zero, List.set_cons_succ, List.length_cons, List.length_nil, List.cons_append, List.nil_append, List.append_nil, Nat.reduceAdd, Nat.reduceLeDiff, Nat.reduceEqDiff, ↓reduceIte, ofO_some, Bool.not_true, Bool.not_false, Option.map_some, Option.bind_some, decide_true, decide_false, Nat.zero_add, Bool.false_eq_true, List.set_cons_zero, Int.reduceLT, Int.reduceLE, Int.reduceEq, hv0, p_mixed, hc, fdiv_i d7, mod_i n5, hm, hr, lc0_ok, if_pos hl1, lc, lcE_ok, rng1_if, r8, forL_cons, forL_nil, gN, t0, t1, t2, t3, t4, t5, t6, t7, p_bare]
end Y
namespace Y
open PySem PySem.Spec PyProof.Rows L2 G
def clK (K : Fr) : Nat → Addr := fun n => [0, He.ga K "WorkError", He.ga K "NoRatio", He.ga K "NoAsk", He.ga K "RowError", He.ga K "NoRow", He.ga K "NoName", He.ga K "Twice", He.ga K "TooMany", He.ga K "Stuck", He.ga K "Free"].getD n 0
theorem tx {K : Fr} {h : Heap} {mg : Str → Option Value} (X : K.In h) (G : h.Ns mainGlobals mg) (c : SaysX hfs hfn K) : Tx K mg (clK K) := by
  have F0 := c.df 0 (d := hd0)
  have F1 := c.df 1 (d := hd1)
  have F2 := c.df 2 (d := hd2)
  have F3 := c.df 3 (d := hd3)
  have F4 := c.df 4 (d := hd4)
  have F5 := c.df 5 (d := hd5)
  have F6 := c.df 6 (d := hd6)
  have F7 := c.df 7 (d := hd7)
  have F8 := c.df 8 (d := hd8)
  have F9 := c.df 9 (d := hd9)
  have F10 := c.df 10 (d := hd10)
  have F11 := c.df 11 (d := hd11)
  have F12 := c.df 12 (d := hd12)
  have F13 := c.df 13 (d := hd13)
  have F14 := c.df 14 (d := hd14)
  have M0 : ∀ b ∈ hfs0 K, b ∈ hfs K := fun b hb => (List.mem_append_left _ (List.mem_append_left _ (List.mem_append_left _ (List.mem_append_left _ (List.mem_append_left _ (List.mem_append_left _ (List.mem_append_left _ hb)))))))
  have M1 : ∀ b ∈ hfs1 K, b ∈ hfs K := fun b hb => (List.mem_append_left _ (List.mem_append_left _ (List.mem_append_left _ (List.mem_append_left _ (List.mem_append_left _ (List.mem_append_left _ (List.mem_append_right _ hb)))))))
  have M2 : ∀ b ∈ hfs2 K, b ∈ hfs K := fun b hb => (List.mem_append_left _ (List.mem_append_left _ (List.mem_append_left _ (List.mem_append_left _ (List.mem_append_left _ (List.mem_append_right _ hb))))))
  have M3 : ∀ b ∈ hfs3 K, b ∈ hfs K := fun b hb => (List.mem_append_left _ (List.mem_append_left _ (List.mem_append_left _ (List.mem_append_left _ (List.mem_append_right _ hb)))))
  have M4 : ∀ b ∈ hfs4 K, b ∈ hfs K := fun b hb => (List.mem_append_left _ (List.mem_append_left _ (List.mem_append_left _ (List.mem_append_right _ hb))))
  have M5 : ∀ b ∈ hfs5 K, b ∈ hfs K := fun b hb => (List.mem_append_left _ (List.mem_append_left _ (List.mem_append_right _ hb)))
  have M6 : ∀ b ∈ hfs6 K, b ∈ hfs K := fun b hb => (List.mem_append_left _ (List.mem_append_right _ hb))
  have M7 : ∀ b ∈ hfs7 K, b ∈ hfs K := fun b hb => (List.mem_append_right _ hb)
  exact {
    b_len := He.free_ok X G (c.ck M0 0),
    b_range := He.free_ok X G (c.ck M0 1),
    b_list := He.free_ok X G (c.ck M0 2),
    b_tuple := He.free_ok X G (c.ck M0 3),
    g_NoRow := He.glo_ok X G (c.ck M0 4),
    g_WorkError := He.glo_ok X G (c.ck M0 5),
    w_WorkError := ⟨of_decide_eq_true (c.ck M0 6), of_decide_eq_true (c.ck M0 7), winB_at (c.ck M0 8)⟩,
    ox_NoRow := ⟨oexB_cls (c.ck M0 9), of_decide_eq_true (c.ck M0 10), of_decide_eq_true (c.ck M0 11), of_decide_eq_true (c.ck M0 12), of_decide_eq_true (c.ck M0 13)⟩,
    nx_NoRow_row := of_decide_eq_true (c.ck M0 14),
    nx_NoRow_word := of_decide_eq_true (c.ck M0 15),
    g_NoName := He.glo_ok X G (c.ck M0 16),
    ox_NoName := ⟨oexB_cls (c.ck M0 17), of_decide_eq_true (c.ck M0 18), of_decide_eq_true (c.ck M0 19), of_decide_eq_true (c.ck M0 20), of_decide_eq_true (c.ck M0 21)⟩,
    nx_NoName_row := of_decide_eq_true (c.ck M0 22),
    nx_NoName_word := of_decide_eq_true (c.ck M0 23),
    g_Twice := He.glo_ok X G (c.ck M0 24),
    ox_Twice := ⟨oexB_cls (c.ck M0 25), of_decide_eq_true (c.ck M0 26), of_decide_eq_true (c.ck M0 27), of_decide_eq_true (c.ck M0 28), of_decide_eq_true (c.ck M0 29)⟩,
    nx_Twice_row := of_decide_eq_true (c.ck M1 0),
    nx_Twice_word := of_decide_eq_true (c.ck M1 1),
    g_TooMany := He.glo_ok X G (c.ck M1 2),
    ox_TooMany := ⟨oexB_cls (c.ck M1 3), of_decide_eq_true (c.ck M1 4), of_decide_eq_true (c.ck M1 5), of_decide_eq_true (c.ck M1 6), of_decide_eq_true (c.ck M1 7)⟩,
    nx_TooMany_row := of_decide_eq_true (c.ck M1 8),
    nx_TooMany_word := of_decide_eq_true (c.ck M1 9),
    g_Stuck := He.glo_ok X G (c.ck M1 10),
    ox_Stuck := ⟨oexB_cls (c.ck M1 11), of_decide_eq_true (c.ck M1 12), of_decide_eq_true (c.ck M1 13), of_decide_eq_true (c.ck M1 14), of_decide_eq_true (c.ck M1 15)⟩,
    nx_Stuck_rows := of_decide_eq_true (c.ck M1 16),
    g_Free := He.glo_ok X G (c.ck M1 17),
    ox_Free := ⟨oexB_cls (c.ck M1 18), of_decide_eq_true (c.ck M1 19), of_decide_eq_true (c.ck M1 20), of_decide_eq_true (c.ck M1 21), of_decide_eq_true (c.ck M1 22)⟩,
    nx_Free_name := of_decide_eq_true (c.ck M1 23),
    b_str := He.free_ok X G (c.ck M1 24),
    g_NoRatio := He.glo_ok X G (c.ck M1 25),
    x_NoRatio := of_decide_eq_true (c.ck M1 26),
    k_NoRatio := of_decide_eq_true (c.ck M1 27),
    bs_NoRatio := of_decide_eq_true (c.ck M1 28),
    ty_NoRatio := of_decide_eq_true (c.ck M1 29),
    g_NoAsk := He.glo_ok X G (c.ck M2 0),
    x_NoAsk := of_decide_eq_true (c.ck M2 1),
    k_NoAsk := of_decide_eq_true (c.ck M2 2),
    bs_NoAsk := of_decide_eq_true (c.ck M2 3),
    ty_NoAsk := of_decide_eq_true (c.ck M2 4),
    b_isinstance := He.free_ok X G (c.ck M2 5),
    b_ValueError := He.free_ok X G (c.ck M2 6),
    g_RowError := He.glo_ok X G (c.ck M2 7),
    b_int := He.free_ok X G (c.ck M2 8),
    ox_RowError := ⟨oexB_cls (c.ck M2 9), of_decide_eq_true (c.ck M2 10), of_decide_eq_true (c.ck M2 11), of_decide_eq_true (c.ck M2 12), of_decide_eq_true (c.ck M2 13)⟩,
    nx_RowError_row := of_decide_eq_true (c.ck M2 14),
    nx_RowError_word := of_decide_eq_true (c.ck M2 15),
    d_l_mixed := ⟨_, F0.choose, F0.choose_spec, He.glo_ok X G (c.ck M2 16)⟩,
    d_l_cell_at := ⟨_, F1.choose, F1.choose_spec, He.glo_ok X G (c.ck M2 17)⟩,
    d_NoRow_init := ⟨_, F2.choose, F2.choose_spec, ⟨of_decide_eq_true (c.ck M2 18), of_decide_eq_true (c.ck M2 19)⟩⟩,
    d_NoName_init := ⟨_, F3.choose, F3.choose_spec, ⟨of_decide_eq_true (c.ck M2 20), of_decide_eq_true (c.ck M2 19)⟩⟩,
    d_Twice_init := ⟨_, F4.choose, F4.choose_spec, ⟨of_decide_eq_true (c.ck M2 21), of_decide_eq_true (c.ck M2 19)⟩⟩,
    d_TooMany_init := ⟨_, F5.choose, F5.choose_spec, ⟨of_decide_eq_true (c.ck M2 22), of_decide_eq_true (c.ck M2 19)⟩⟩,
    d_l_of_rows := ⟨_, F6.choose, F6.choose_spec, He.glo_ok X G (c.ck M2 23)⟩,
    d_Stuck_init := ⟨_, F7.choose, F7.choose_spec, ⟨of_decide_eq_true (c.ck M2 24), of_decide_eq_true (c.ck M2 25)⟩⟩,
    d_Free_init := ⟨_, F8.choose, F8.choose_spec, ⟨of_decide_eq_true (c.ck M2 26), of_decide_eq_true (c.ck M2 27)⟩⟩,
    d_l_made := ⟨_, F9.choose, F9.choose_spec, He.glo_ok X G (c.ck M2 28)⟩,
    d_l_all := ⟨_, F10.choose, F10.choose_spec, He.glo_ok X G (c.ck M2 29)⟩,
    d_l_right := ⟨_, F11.choose, F11.choose_spec, He.glo_ok X G (c.ck M3 0)⟩,
    d_RowError_init := ⟨_, F12.choose, F12.choose_spec, ⟨of_decide_eq_true (c.ck M3 1), of_decide_eq_true (c.ck M2 19)⟩⟩,
    d_l_bare := ⟨_, F13.choose, F13.choose_spec, He.glo_ok X G (c.ck M3 2)⟩,
    d_law := ⟨_, F14.choose, F14.choose_spec, He.glo_ok X G (c.ck M3 3)⟩,
    xf_Free := ⟨of_decide_eq_true (c.ck M3 4), of_decide_eq_true (c.ck M3 5), of_decide_eq_true (c.ck M1 20), of_decide_eq_true (c.ck M3 6)⟩,
    xf_RowError := ⟨of_decide_eq_true (c.ck M3 7), of_decide_eq_true (c.ck M3 8), of_decide_eq_true (c.ck M2 11), of_decide_eq_true (c.ck M3 9)⟩,
    xf_NoRow := ⟨of_decide_eq_true (c.ck M3 10), of_decide_eq_true (c.ck M3 11), of_decide_eq_true (c.ck M0 11), of_decide_eq_true (c.ck M3 12)⟩,
    xf_NoName := ⟨of_decide_eq_true (c.ck M3 13), of_decide_eq_true (c.ck M3 14), of_decide_eq_true (c.ck M0 19), of_decide_eq_true (c.ck M3 15)⟩,
    xf_Twice := ⟨of_decide_eq_true (c.ck M3 16), of_decide_eq_true (c.ck M3 17), of_decide_eq_true (c.ck M0 27), of_decide_eq_true (c.ck M3 18)⟩,
    xf_TooMany := ⟨of_decide_eq_true (c.ck M3 19), of_decide_eq_true (c.ck M3 20), of_decide_eq_true (c.ck M1 5), of_decide_eq_true (c.ck M3 21)⟩,
    xf_Stuck := ⟨of_decide_eq_true (c.ck M3 22), of_decide_eq_true (c.ck M3 23), of_decide_eq_true (c.ck M1 13), of_decide_eq_true (c.ck M3 24)⟩,
    ix_NoRatio_TooMany := of_decide_eq_true (c.ck M3 25),
    e_NoRatio := ⟨of_decide_eq_true (c.ck M3 26), of_decide_eq_true (c.ck M3 27), of_decide_eq_true (c.ck M1 28), of_decide_eq_true (c.ck M3 28), of_decide_eq_true (c.ck M3 29), of_decide_eq_true (c.ck M4 0), of_decide_eq_true (c.ck M4 1), of_decide_eq_true (c.ck M4 2)⟩,
    ix_NoAsk_TooMany := of_decide_eq_true (c.ck M4 3),
    e_NoAsk := ⟨of_decide_eq_true (c.ck M4 4), of_decide_eq_true (c.ck M4 5), of_decide_eq_true (c.ck M2 3), of_decide_eq_true (c.ck M4 6), of_decide_eq_true (c.ck M4 7), of_decide_eq_true (c.ck M4 0), of_decide_eq_true (c.ck M4 1), of_decide_eq_true (c.ck M4 8)⟩,
    ix_RowError_TooMany := of_decide_eq_true (c.ck M4 9),
    e_RowError := ⟨of_decide_eq_true (c.ck M3 7), of_decide_eq_true (c.ck M3 8), of_decide_eq_true (c.ck M2 11), of_decide_eq_true (c.ck M3 9), of_decide_eq_true (c.ck M4 10), of_decide_eq_true (c.ck M4 0), of_decide_eq_true (c.ck M4 1), of_decide_eq_true (c.ck M4 11)⟩,
    ix_NoRow_TooMany := of_decide_eq_true (c.ck M4 12),
    e_NoRow := ⟨of_decide_eq_true (c.ck M3 10), of_decide_eq_true (c.ck M3 11), of_decide_eq_true (c.ck M0 11), of_decide_eq_true (c.ck M3 12), of_decide_eq_true (c.ck M4 13), of_decide_eq_true (c.ck M4 0), of_decide_eq_true (c.ck M4 1), of_decide_eq_true (c.ck M4 14)⟩,
    ix_NoName_TooMany := of_decide_eq_true (c.ck M4 15),
    e_NoName := ⟨of_decide_eq_true (c.ck M3 13), of_decide_eq_true (c.ck M3 14), of_decide_eq_true (c.ck M0 19), of_decide_eq_true (c.ck M3 15), of_decide_eq_true (c.ck M4 16), of_decide_eq_true (c.ck M4 0), of_decide_eq_true (c.ck M4 1), of_decide_eq_true (c.ck M4 17)⟩,
    ix_Twice_TooMany := of_decide_eq_true (c.ck M4 18),
    e_Twice := ⟨of_decide_eq_true (c.ck M3 16), of_decide_eq_true (c.ck M3 17), of_decide_eq_true (c.ck M0 27), of_decide_eq_true (c.ck M3 18), of_decide_eq_true (c.ck M4 19), of_decide_eq_true (c.ck M4 0), of_decide_eq_true (c.ck M4 1), of_decide_eq_true (c.ck M4 20)⟩,
    ix_TooMany_TooMany := of_decide_eq_true (c.ck M4 21),
    e_TooMany := ⟨of_decide_eq_true (c.ck M3 19), of_decide_eq_true (c.ck M3 20), of_decide_eq_true (c.ck M1 5), of_decide_eq_true (c.ck M3 21), of_decide_eq_true (c.ck M4 22), of_decide_eq_true (c.ck M4 0), of_decide_eq_true (c.ck M4 1), of_decide_eq_true (c.ck M4 23)⟩,
    ix_Stuck_TooMany := of_decide_eq_true (c.ck M4 24),
    e_Stuck := ⟨of_decide_eq_true (c.ck M3 22), of_decide_eq_true (c.ck M3 23), of_decide_eq_true (c.ck M1 13), of_decide_eq_true (c.ck M3 24), of_decide_eq_true (c.ck M4 25), of_decide_eq_true (c.ck M4 0), of_decide_eq_true (c.ck M4 1), of_decide_eq_true (c.ck M4 26)⟩,
    ix_Free_TooMany := of_decide_eq_true (c.ck M4 27),
    e_Free := ⟨of_decide_eq_true (c.ck M3 4), of_decide_eq_true (c.ck M3 5), of_decide_eq_true (c.ck M1 20), of_decide_eq_true (c.ck M3 6), of_decide_eq_true (c.ck M4 28), of_decide_eq_true (c.ck M4 0), of_decide_eq_true (c.ck M4 1), of_decide_eq_true (c.ck M4 29)⟩,
    ix_NoRatio_Twice := of_decide_eq_true (c.ck M5 0),
    ix_NoAsk_Twice := of_decide_eq_true (c.ck M5 1),
    ix_RowError_Twice := of_decide_eq_true (c.ck M5 2),
    ix_NoRow_Twice := of_decide_eq_true (c.ck M5 3),
    ix_NoName_Twice := of_decide_eq_true (c.ck M5 4),
    ix_Twice_Twice := of_decide_eq_true (c.ck M5 5),
    ix_TooMany_Twice := of_decide_eq_true (c.ck M5 6),
    ix_Stuck_Twice := of_decide_eq_true (c.ck M5 7),
    ix_Free_Twice := of_decide_eq_true (c.ck M5 8),
    ix_NoRatio_NoName := of_decide_eq_true (c.ck M5 9),
    ix_NoAsk_NoName := of_decide_eq_true (c.ck M5 10),
    ix_RowError_NoName := of_decide_eq_true (c.ck M5 11),
    ix_NoRow_NoName := of_decide_eq_true (c.ck M5 12),
    ix_NoName_NoName := of_decide_eq_true (c.ck M5 13),
    ix_Twice_NoName := of_decide_eq_true (c.ck M5 14),
    ix_TooMany_NoName := of_decide_eq_true (c.ck M5 15),
    ix_Stuck_NoName := of_decide_eq_true (c.ck M5 16),
    ix_Free_NoName := of_decide_eq_true (c.ck M5 17),
    ix_NoRatio_NoRow := of_decide_eq_true (c.ck M5 18),
    ix_NoAsk_NoRow := of_decide_eq_true (c.ck M5 19),
    ix_RowError_NoRow := of_decide_eq_true (c.ck M5 20),
    ix_NoRow_NoRow := of_decide_eq_true (c.ck M5 21),
    ix_NoName_NoRow := of_decide_eq_true (c.ck M5 22),
    ix_Twice_NoRow := of_decide_eq_true (c.ck M5 23),
    ix_TooMany_NoRow := of_decide_eq_true (c.ck M5 24),
    ix_Stuck_NoRow := of_decide_eq_true (c.ck M5 25),
    ix_Free_NoRow := of_decide_eq_true (c.ck M5 26),
    ix_NoRatio_NoAsk := of_decide_eq_true (c.ck M5 27),
    ix_NoAsk_NoAsk := of_decide_eq_true (c.ck M5 28),
    ix_RowError_NoAsk := of_decide_eq_true (c.ck M5 29),
    ix_NoRow_NoAsk := of_decide_eq_true (c.ck M6 0),
    ix_NoName_NoAsk := of_decide_eq_true (c.ck M6 1),
    ix_Twice_NoAsk := of_decide_eq_true (c.ck M6 2),
    ix_TooMany_NoAsk := of_decide_eq_true (c.ck M6 3),
    ix_Stuck_NoAsk := of_decide_eq_true (c.ck M6 4),
    ix_Free_NoAsk := of_decide_eq_true (c.ck M6 5),
    ix_NoRatio_NoRatio := of_decide_eq_true (c.ck M6 6),
    ix_NoAsk_NoRatio := of_decide_eq_true (c.ck M6 7),
    ix_RowError_NoRatio := of_decide_eq_true (c.ck M6 8),
    ix_NoRow_NoRatio := of_decide_eq_true (c.ck M6 9),
    ix_NoName_NoRatio := of_decide_eq_true (c.ck M6 10),
    ix_Twice_NoRatio := of_decide_eq_true (c.ck M6 11),
    ix_TooMany_NoRatio := of_decide_eq_true (c.ck M6 12),
    ix_Stuck_NoRatio := of_decide_eq_true (c.ck M6 13),
    ix_Free_NoRatio := of_decide_eq_true (c.ck M6 14),
    ix_NoRatio_Free := of_decide_eq_true (c.ck M6 15),
    ix_NoAsk_Free := of_decide_eq_true (c.ck M6 16),
    ix_RowError_Free := of_decide_eq_true (c.ck M6 17),
    ix_NoRow_Free := of_decide_eq_true (c.ck M6 18),
    ix_NoName_Free := of_decide_eq_true (c.ck M6 19),
    ix_Twice_Free := of_decide_eq_true (c.ck M6 20),
    ix_TooMany_Free := of_decide_eq_true (c.ck M6 21),
    ix_Stuck_Free := of_decide_eq_true (c.ck M6 22),
    ix_Free_Free := of_decide_eq_true (c.ck M6 23),
    ix_NoRatio_Stuck := of_decide_eq_true (c.ck M6 24),
    ix_NoAsk_Stuck := of_decide_eq_true (c.ck M6 25),
    ix_RowError_Stuck := of_decide_eq_true (c.ck M6 26),
    ix_NoRow_Stuck := of_decide_eq_true (c.ck M6 27),
    ix_NoName_Stuck := of_decide_eq_true (c.ck M6 28),
    ix_Twice_Stuck := of_decide_eq_true (c.ck M6 29),
    ix_TooMany_Stuck := of_decide_eq_true (c.ck M7 0),
    ix_Stuck_Stuck := of_decide_eq_true (c.ck M7 1),
    ix_Free_Stuck := of_decide_eq_true (c.ck M7 2),
    ix_NoRatio_WorkError := of_decide_eq_true (c.ck M7 3),
    ix_NoAsk_WorkError := of_decide_eq_true (c.ck M7 4),
    ix_RowError_WorkError := of_decide_eq_true (c.ck M7 5),
    ix_NoRow_WorkError := of_decide_eq_true (c.ck M7 6),
    ix_NoName_WorkError := of_decide_eq_true (c.ck M7 7),
    ix_Twice_WorkError := of_decide_eq_true (c.ck M7 8),
    ix_TooMany_WorkError := of_decide_eq_true (c.ck M7 9),
    ix_Stuck_WorkError := of_decide_eq_true (c.ck M7 10),
    ix_Free_WorkError := of_decide_eq_true (c.ck M7 11),
    ix_NoRatio_ValueError := of_decide_eq_true (c.ck M7 12),
    ix_NoAsk_ValueError := of_decide_eq_true (c.ck M7 13),
    ix_RowError_ValueError := of_decide_eq_true (c.ck M7 14),
    ix_NoRow_ValueError := of_decide_eq_true (c.ck M7 15),
    ix_NoName_ValueError := of_decide_eq_true (c.ck M7 16),
    ix_Twice_ValueError := of_decide_eq_true (c.ck M7 17),
    ix_TooMany_ValueError := of_decide_eq_true (c.ck M7 18),
    ix_Stuck_ValueError := of_decide_eq_true (c.ck M7 19),
    ix_Free_ValueError := of_decide_eq_true (c.ck M7 20),
    ix_NoRatio_RowError := of_decide_eq_true (c.ck M7 21),
    ix_NoAsk_RowError := of_decide_eq_true (c.ck M7 22),
    ix_RowError_RowError := of_decide_eq_true (c.ck M7 23),
    ix_NoRow_RowError := of_decide_eq_true (c.ck M7 24),
    ix_NoName_RowError := of_decide_eq_true (c.ck M7 25),
    ix_Twice_RowError := of_decide_eq_true (c.ck M7 26),
    ix_TooMany_RowError := of_decide_eq_true (c.ck M7 27),
    ix_Stuck_RowError := of_decide_eq_true (c.ck M7 28),
    ix_Free_RowError := of_decide_eq_true (c.ck M7 29) }
end Y

open PySem PySem.W PyProof.Rows in
set_option maxRecDepth 100000 in
set_option maxHeartbeats 0 in
theorem PySem.Challenge.cw_toothyard_k05_errors_holds : PySem.Challenge.rw_toothyard_k05_errors.Holds := by
  w_on; o_law
  refine HandSHeadRun.head_any (r := OpenLaw.row PySem.Challenge.rw_toothyard_k05_errors) (q := view (OpenLaw.row PySem.Challenge.rw_toothyard_k05_errors).prog [19]) (H := G.hookX Y.hfs Y.hfn) (ob := G.obX Y.hfs Y.hfn) (M := 30000) (loose := Y.hnames) (d := HandSHeadRun.topDef (OpenLaw.row PySem.Challenge.rw_toothyard_k05_errors).prog 19) (kwd := [])
    (G.obX_eq Y.hfs Y.hfn) (by kernel_rfl) (fun s => by kernel_rfl) Y.hrun (by kernel_rfl) (by kernel_rfl) (by kernel_rfl) rfl (by first | assumption | decide +kernel) (by decide +kernel) ⟨rfl, rfl, rfl, rfl, rfl, by decide +kernel⟩ ?hw ?hc
  case hw => w_witness2
  case hc =>
    refine G.walkX (l := PySem.Challenge.rw_toothyard_k05_errors) (k := 6) (x := "_law_script") (flX := Y.fl) (xlX := Y.xl) (F := Y.f_law) rfl (by kernel_rfl) ⟨rfl, by decide, by decide⟩ Y.law_true ?F
    intro w mg fa h Y GM hmg0
    obtain ⟨K, KX, c⟩ := Y
    have e0 : (HandSHeadRun.topDef (OpenLaw.row PySem.Challenge.rw_toothyard_k05_errors).prog 19).name = ("law" : PySem.Str) := by kernel_rfl
    rw [e0] at hmg0
    have T := Y.tx KX GM c
    obtain ⟨fd, F⟩ := c.df 14 (d := Y.hd14)
    have e := hmg0.symm.trans (He.glo_ok KX GM (c.at 93))
    cases e
    have b := L2.FunD.bindsA (ps := ["_law_script"]) F fun _ _ _ _ _ _ us hl => match us, hl with | [_], _ => rfl
    exact ⟨K, Y.clK K, fd, KX, fun s v => b s [v] rfl, fun base _ _ => G.ok_def (t := Y.tb K (Y.clK K)) F Y.sc_law (fun cdv A outer s H0 E w0 hr => Y.law_body T hr)⟩
#print axioms PySem.Challenge.cw_toothyard_k05_errors_holds
