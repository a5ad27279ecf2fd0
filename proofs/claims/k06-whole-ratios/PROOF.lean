import PyProof.Rows.All
import Wide.All
import OpenK.AllK
import Wide.FinOn
import HandS.ForMost
import KE.KStateDown
import HandS.ForExc
import HandS.Head0
import HandS.Head1
import HandS.Head2
import HandS.HeadEnd
import HandS.HeadHook1
import HandS.HeadHook2
import HandS.Wide
import HandS.CallSlots
import HandS.Walk
import HandS.TupAny
import HandS.DeepEq
import HandS.IsInst
import HandS.ExcIs
import HandS.RaiseMore
import HandS.Deep
import HandS.ExcOwn
import HandS.Defaults
import HandS.TryOnly
import HandS.Text
import HandS.TupLe
import KE.IntTextLaws
import PySem.Challenge.RW_toothyard_k06_whole_ratios
set_option Elab.async false
set_option linter.all false
set_option maxRecDepth 100000
set_option maxHeartbeats 4000000
namespace Y
open PySem PySem.Spec PyProof.Rows L2
def top (i : Nat) : Stmt := PySem.Challenge.pw_toothyard_k06_whole_ratios.main.body.getD i (.Pass ⟨0, 0, 0, 0⟩)
abbrev s_l_common : Stmt := top 15
abbrev s_l_low : Stmt := top 16
abbrev s_l_mixed : Stmt := top 13
abbrev s_l_small : Stmt := top 19
abbrev s_common : Stmt := top 6
abbrev s_Ratio_init : Stmt := inClass (top 7) 0
abbrev s_Ratio_plus : Stmt := inClass (top 7) 1
abbrev s_l_sum : Stmt := top 18
abbrev s_Ratio_told : Stmt := inClass (top 7) 9
abbrev s_l_great : Stmt := top 14
abbrev s_l_pair : Stmt := top 17
abbrev s_l_cell_at : Stmt := top 12
abbrev s_Ratio_times : Stmt := inClass (top 7) 3
abbrev s_Ratio_turned : Stmt := inClass (top 7) 5
abbrev s_Ratio_minus : Stmt := inClass (top 7) 2
abbrev s_Ratio_rest : Stmt := inClass (top 7) 8
abbrev s_Ratio_floor : Stmt := inClass (top 7) 7
abbrev s_are_figures : Stmt := top 8
abbrev s_read_ratio : Stmt := top 9
abbrev s_Ratio_text : Stmt := inClass (top 7) 10
abbrev s_before : Stmt := top 10
abbrev s_Ratio_sign : Stmt := inClass (top 7) 6
abbrev s_Ratio_over : Stmt := inClass (top 7) 4
abbrev s_l_three : Stmt := top 20
abbrev s_law : Stmt := top 21
end Y
/-! The head: what the end leans on, read by one Hook off the heap that the top leaves. -/
namespace G
open PySem PySem.Spec PyProof.Rows L2
/-- what an object names that the facts want -/
def refs1 (o : Obj) : List Addr := match o.data with
  | .dict es _ => es.toList.flatMap fun e => He.refV e.val
  | .func fd => He.refV fd.code ++ He.refV fd.defaults
  | .cls cd => [cd.ns]
  | _ => []
def next1 (g : Addr → Option Obj) (as : List Addr) : List Addr := as.flatMap fun a => match g a with
  | some o => refs1 o
  | none => []
def asX (g : Addr → Option Obj) : List Addr :=
  let l1 := next1 g [mainGlobals]
  let l2 := next1 g l1
  let l3 := next1 g l2
  let l4 := next1 g l3
  mainGlobals :: (l1 ++ (l2 ++ (l3 ++ l4)))
abbrev Fr := PySem.W.Frag
def obsX (fs : Fr → List Bool) (fn : List He.DefD) (K : Fr) : He.AlD := ((fs K).all id && fn.all (fun d => d.ok K), fn.map fun d => He.fnW K d.at_)
def SaysX (fs : Fr → List Bool) (fn : List He.DefD) (K : Fr) : Prop := obsX fs fn K = He.valD fn
def hookX (fs : Fr → List Bool) (fn : List He.DefD) : PySem.W.Hook where
  α := He.AlD
  obs := fun s => obsX fs fn (He.frG s.heap.get? (asX s.heap.get?))
  val := fun _ => He.valD fn
  says := fun _ h => ∃ K : Fr, K.In h ∧ SaysX fs fn K
  of := fun _ _ e => ⟨_, He.frG_in, e⟩
  keeps := fun _ _ _ z k => by
    obtain ⟨K, hK, c⟩ := z
    exact ⟨K, PySem.W.Frag.In.keeps hK k, c⟩
def obX (fs : Fr → List Bool) (fn : List He.DefD) (s : PySem.W.SharedT) : He.AlD := obsX fs fn (He.frG (HandSHeadRun.getT s) (asX (HandSHeadRun.getT s)))
theorem obX_eq (fs : Fr → List Bool) (fn : List He.DefD) (s : PySem.W.SharedT) : obX fs fn s = (hookX fs fn).obs s.abs := by
  have e : HandSHeadRun.getT s = s.abs.heap.get? := funext (HandSHeadRun.getT_eq s)
  unfold obX
  rw [e] <;> rfl
theorem SaysX.at {fs : Fr → List Bool} {fn : List He.DefD} {K : Fr} (c : SaysX fs fn K) (i : Nat) {b : Bool} (h : (fs K)[i]? = some b := by rfl) : b = true := by
  have c0 : ((fs K).all id && fn.all (fun d => d.ok K)) = true := congrArg (fun z : He.AlD => z.1) c
  exact List.all_eq_true.mp (Bool.and_eq_true_iff.mp c0).1 b (List.mem_of_getElem? h)
theorem SaysX.df {fs : Fr → List Bool} {fn : List He.DefD} {K : Fr} (c : SaysX fs fn K) (i : Nat) {d : He.DefD} (h : fn[i]? = some d := by rfl) : ∃ fd, FunD K d.name d.qual d.params d.body d.scope (d.dvs K) (d.kws K) (He.fAd K d.at_) fd := by
  have c0 : ((fs K).all id && fn.all (fun d => d.ok K)) = true := congrArg (fun z : He.AlD => z.1) c
  have e : fn.map (fun d => He.fnW K d.at_) = fn.map He.DefD.val := congrArg (fun z : He.AlD => z.2) c
  have hm := List.mem_of_getElem? h
  have e3 : He.fnW K d.at_ = d.val := by
    have e2 : (fn.map fun d => He.fnW K d.at_)[i]? = (fn.map He.DefD.val)[i]? := by rw [e]
    rw [List.getElem?_map, List.getElem?_map, h] at e2
    injection e2
  exact He.DefD.funD e3 (List.all_eq_true.mp (Bool.and_eq_true_iff.mp c0).2 d hm)
end G
namespace Y
open PySem PySem.Spec PyProof.Rows L2 G
def hd0 : He.DefD := ⟨("_law_common", none), "_law_common", "_law_common", defArgs s_l_common, defBody s_l_common, defScope s_l_common, [], []⟩
def hd1 : He.DefD := ⟨("_law_low", none), "_law_low", "_law_low", defArgs s_l_low, defBody s_l_low, defScope s_l_low, [], []⟩
def hd2 : He.DefD := ⟨("_law_mixed", none), "_law_mixed", "_law_mixed", defArgs s_l_mixed, defBody s_l_mixed, defScope s_l_mixed, [], []⟩
def hd3 : He.DefD := ⟨("_law_small", none), "_law_small", "_law_small", defArgs s_l_small, defBody s_l_small, defScope s_l_small, [], []⟩
def hd4 : He.DefD := ⟨("common", none), "common", "common", defArgs s_common, defBody s_common, defScope s_common, [], []⟩
def hd5 : He.DefD := ⟨("Ratio", some "__init__"), "__init__", "Ratio.__init__", defArgs s_Ratio_init, defBody s_Ratio_init, defScope s_Ratio_init, [.int 1], []⟩
def hd6 : He.DefD := ⟨("Ratio", some "plus"), "plus", "Ratio.plus", defArgs s_Ratio_plus, defBody s_Ratio_plus, defScope s_Ratio_plus, [], []⟩
def hd7 : He.DefD := ⟨("_law_sum", none), "_law_sum", "_law_sum", defArgs s_l_sum, defBody s_l_sum, defScope s_l_sum, [], []⟩
def hd8 : He.DefD := ⟨("Ratio", some "told"), "told", "Ratio.told", defArgs s_Ratio_told, defBody s_Ratio_told, defScope s_Ratio_told, [], []⟩
def hd9 : He.DefD := ⟨("_law_great", none), "_law_great", "_law_great", defArgs s_l_great, defBody s_l_great, defScope s_l_great, [], []⟩
def hd10 : He.DefD := ⟨("_law_pair", none), "_law_pair", "_law_pair", defArgs s_l_pair, defBody s_l_pair, defScope s_l_pair, [], []⟩
def hd11 : He.DefD := ⟨("_law_cell_at", none), "_law_cell_at", "_law_cell_at", defArgs s_l_cell_at, defBody s_l_cell_at, defScope s_l_cell_at, [], []⟩
def hd12 : He.DefD := ⟨("Ratio", some "times"), "times", "Ratio.times", defArgs s_Ratio_times, defBody s_Ratio_times, defScope s_Ratio_times, [], []⟩
def hd13 : He.DefD := ⟨("Ratio", some "turned"), "turned", "Ratio.turned", defArgs s_Ratio_turned, defBody s_Ratio_turned, defScope s_Ratio_turned, [], []⟩
def hd14 : He.DefD := ⟨("Ratio", some "minus"), "minus", "Ratio.minus", defArgs s_Ratio_minus, defBody s_Ratio_minus, defScope s_Ratio_minus, [], []⟩
def hd15 : He.DefD := ⟨("Ratio", some "rest"), "rest", "Ratio.rest", defArgs s_Ratio_rest, defBody s_Ratio_rest, defScope s_Ratio_rest, [], []⟩
def hd16 : He.DefD := ⟨("Ratio", some "floor"), "floor", "Ratio.floor", defArgs s_Ratio_floor, defBody s_Ratio_floor, defScope s_Ratio_floor, [], []⟩
def hd17 : He.DefD := ⟨("are_figures", none), "are_figures", "are_figures", defArgs s_are_figures, defBody s_are_figures, defScope s_are_figures, [], []⟩
def hd18 : He.DefD := ⟨("read_ratio", none), "read_ratio", "read_ratio", defArgs s_read_ratio, defBody s_read_ratio, defScope s_read_ratio, [], []⟩
def hd19 : He.DefD := ⟨("Ratio", some "text"), "text", "Ratio.text", defArgs s_Ratio_text, defBody s_Ratio_text, defScope s_Ratio_text, [], []⟩
def hd20 : He.DefD := ⟨("before", none), "before", "before", defArgs s_before, defBody s_before, defScope s_before, [], []⟩
def hd21 : He.DefD := ⟨("Ratio", some "sign"), "sign", "Ratio.sign", defArgs s_Ratio_sign, defBody s_Ratio_sign, defScope s_Ratio_sign, [], []⟩
def hd22 : He.DefD := ⟨("Ratio", some "over"), "over", "Ratio.over", defArgs s_Ratio_over, defBody s_Ratio_over, defScope s_Ratio_over, [], []⟩
def hd23 : He.DefD := ⟨("_law_three", none), "_law_three", "_law_three", defArgs s_l_three, defBody s_l_three, defScope s_l_three, [], []⟩
def hd24 : He.DefD := ⟨("law", none), "law", "law", defArgs s_law, defBody s_law, defScope s_law, [], []⟩
def hfn0 : List He.DefD := [hd0, hd1, hd2, hd3, hd4, hd5, hd6, hd7, hd8, hd9, hd10, hd11, hd12, hd13, hd14, hd15, hd16, hd17, hd18, hd19, hd20, hd21, hd22, hd23, hd24]
def hfn : List He.DefD := hfn0
def hfs0 (K : Fr) : List Bool := [(He.Fa.free "enumerate").ok K,
  (He.Fa.free "list").ok K,
  (He.Fa.free "abs").ok K,
  (He.Fa.glo "NoRatio").ok K,
  decide (PySem.W.excIn K (He.ga K "NoRatio") [.type "ValueError", .type "Exception", .type "BaseException", .type "object"] "ValueError.__new__" = true),
  decide (PySem.W.keepIn K (.ref (He.ga K "NoRatio")) = true),
  decide (PySem.W.subIn K (.ref (He.ga K "NoRatio")) (.type "BaseException") = some true),
  decide (PySem.W.typeIn K (.ref (He.ga K "NoRatio")) = some (.type "type")),
  (He.Fa.free "range").ok K,
  (He.Fa.free "len").ok K,
  (He.Fa.free "min").ok K,
  (He.Fa.free "all").ok K,
  (He.Fa.str "FIGURES" "0123456789").ok K,
  (He.Fa.int "MOST_FIGURES" 30).ok K,
  (He.Fa.free "int").ok K,
  (He.Fa.free "str").ok K,
  (He.Fa.glo "_law_common").ok K,
  (He.Fa.glo "_law_low").ok K,
  (He.Fa.glo "_law_mixed").ok K,
  (He.Fa.glo "_law_small").ok K,
  (He.Fa.glo "common").ok K,
  (He.Fa.mkr "Ratio").ok K,
  (He.Fa.meth "Ratio" "plus").ok K,
  (He.Fa.glo "_law_sum").ok K,
  (He.Fa.meth "Ratio" "told").ok K,
  (He.Fa.glo "_law_great").ok K,
  (He.Fa.glo "_law_pair").ok K,
  (He.Fa.glo "_law_cell_at").ok K,
  (He.Fa.meth "Ratio" "times").ok K,
  (He.Fa.meth "Ratio" "turned").ok K]
def hfs1 (K : Fr) : List Bool := [(He.Fa.meth "Ratio" "minus").ok K,
  (He.Fa.meth "Ratio" "rest").ok K,
  (He.Fa.meth "Ratio" "floor").ok K,
  (He.Fa.glo "are_figures").ok K,
  (He.Fa.glo "read_ratio").ok K,
  (He.Fa.meth "Ratio" "text").ok K,
  (He.Fa.glo "before").ok K,
  (He.Fa.meth "Ratio" "sign").ok K,
  (He.Fa.meth "Ratio" "over").ok K,
  (He.Fa.glo "_law_three").ok K,
  (He.Fa.glo "law").ok K,
  (He.Fa.cls "Ratio").ok K,
  (He.Fa.glo "Ratio").ok K,
  (He.Fa.noat "Ratio" "bottom").ok K,
  (He.Fa.noat "Ratio" "top").ok K]
def hfs (K : Fr) : List Bool := hfs0 K ++ hfs1 K
def hnames : List PySem.Str := (["__name__", "WorkError", "NoRatio", "FIGURES", "MOST_FIGURES", "common", "Ratio", "are_figures", "read_ratio", "before", "_law_cell_at", "_law_mixed", "_law_great", "_law_common", "_law_low", "_law_pair", "_law_sum", "_law_small", "_law_three"] : List PySem.Str)
theorem hrun (w : World) : HandSHeadRun.RunEq (PySem.W.OpenLaw.row PySem.Challenge.rw_toothyard_k06_whole_ratios) (PySem.W.view (PySem.W.OpenLaw.row PySem.Challenge.rw_toothyard_k06_whole_ratios).prog [21]) (hookX hfs hfn) (obX hfs hfn) 30000 hnames w := by
  intro os
  kernel_rfl
end Y
/-! The engine, part 1: data D, worlds, what represents what, results and their posts. -/
namespace G
open PySem PySem.Spec PyProof.Rows L2

/-- data: what does not change, by its content; ref: a place of the mutable store -/
inductive D where
  | non | bl (b : Bool) | int (i : Int) | str (s : Str)
  | tup (l : List D) | lst (l : List D) | scr (l : List D)
  | dct (ks : List Key) (l : List D)
  | obj (c : Nat) (l : List D)
  | exc (c : Nat) (l : List D)
  | ref (n : Nat)

inductive MO where
  | dead | lst (l : List D) | dct (ks : List Key) (l : List D) | ins (c : Nat) (l : List D)
abbrev AH := List MO
inductive Sl where
  | no | val (d : D) | own (o : MO)
abbrev En := List Sl

structure Tb where
  K : PySem.W.Frag
  cl : Nat → Addr
  fl : Nat → List Str

structure Wd where
  Hf : Hp
  ρ : List Addr

/-- an exception that was caught and kept: its object -/
def ExcK (cls : Value) (d : Option Addr) (a : Addr) : HO := .ext fun h => ∃ (oe : Obj) (vs : Array Value), h.get? a = some oe ∧ Zc cls d oe ∧ oe.data = .fields vs

mutual
def Rep (t : Tb) (w : Wd) : D → V → Prop
  | .non, v => v = .non
  | .bl b, v => v = .bl b
  | .int i, v => v = .int i
  | .str s, v => v = .str s
  | .tup l, v => ∃ p vs, v = .ref p ∧ SqT t.K w.Hf p vs ∧ Reps t w l vs
  | .lst l, v => ∃ p vs, v = .ref p ∧ w.Hf p = some (.lst vs) ∧ Reps t w l vs
  | .scr l, v => ∃ p vs, v = .ref p ∧ SqL t.K w.Hf p vs ∧ Reps t w l vs
  | .dct ks l, v => ∃ p vs, v = .ref p ∧ w.Hf p = some (.dK (ks.zip vs)) ∧ ks.length = vs.length ∧ Reps t w l vs
  | .obj c l, v => ∃ p dx vs, v = .ref p ∧ w.Hf p = some (.ins (t.cl c) dx ((t.fl c).zip vs)) ∧ vs.length = (t.fl c).length ∧ Reps t w l vs
  | .exc c l, v => ∃ p d, v = .ref p ∧ w.Hf p = some (ExcK (.ref (t.cl c)) d p) ∧
      ((l = [] ∧ d = none) ∨ (l ≠ [] ∧ ∃ dx vs, d = some dx ∧ w.Hf dx = some (.xd ((t.fl c).zip vs)) ∧ vs.length = (t.fl c).length ∧ Reps t w l vs))
  | .ref n, v => ∃ p, v = .ref p ∧ w.ρ[n]? = some p
def Reps (t : Tb) (w : Wd) : List D → List V → Prop
  | [], vs => vs = []
  | d :: l, vs => ∃ v r, vs = v :: r ∧ Rep t w d v ∧ Reps t w l r
end

theorem reps_len {t : Tb} {w : Wd} : ∀ {l : List D} {vs : List V}, Reps t w l vs → l.length = vs.length
  | [], vs, h => by
    simp only [Reps] at h
    subst h
    rfl
  | d :: l, vs, h => by
    simp only [Reps] at h
    obtain ⟨v, r, rfl, _, h2⟩ := h
    rw [List.length_cons, List.length_cons, reps_len h2]
theorem reps_get {t : Tb} {w : Wd} : ∀ {l : List D} {vs : List V} {i : Nat} {d : D}, Reps t w l vs → l[i]? = some d → ∃ v, vs[i]? = some v ∧ Rep t w d v
  | [], vs, i, d, h, e => by simp at e
  | d :: l, vs, i, x, h, e => by
    simp only [Reps] at h
    obtain ⟨v, r, rfl, h1, h2⟩ := h
    cases i with
    | zero =>
      simp at e
      subst e
      exact ⟨v, by simp, h1⟩
    | succ i =>
      obtain ⟨u, e1, e2⟩ := reps_get (i := i) h2 (by simpa using e)
      exact ⟨u, by simpa using e1, e2⟩
theorem reps_getv {t : Tb} {w : Wd} {l : List D} {vs : List V} {i : Nat} {v : V} (h : Reps t w l vs) (e : vs[i]? = some v) : ∃ d, l[i]? = some d ∧ Rep t w d v := by
  have hi : i < l.length := by
    rw [reps_len h]
    exact (List.getElem?_eq_some_iff.mp e).1
  obtain ⟨u, e1, e2⟩ := reps_get (i := i) (d := l[i]) h (by simp [hi])
  rw [e] at e1
  cases e1
  exact ⟨l[i], by simp [hi], e2⟩
theorem reps_append {t : Tb} {w : Wd} : ∀ {l m : List D} {vs us : List V}, Reps t w l vs → Reps t w m us → Reps t w (l ++ m) (vs ++ us)
  | [], m, vs, us, h, h2 => by
    simp only [Reps] at h
    subst h
    exact h2
  | d :: l, m, vs, us, h, h2 => by
    simp only [Reps] at h
    obtain ⟨v, r, rfl, h1, h3⟩ := h
    show Reps t w (d :: (l ++ m)) _
    simp only [Reps]
    exact ⟨v, r ++ us, rfl, h1, reps_append h3 h2⟩
theorem reps_one {t : Tb} {w : Wd} {d : D} {v : V} (h : Rep t w d v) : Reps t w [d] [v] := by
  unfold Reps
  refine ⟨v, [], rfl, h, ?_⟩
  unfold Reps
  rfl
theorem reps_take {t : Tb} {w : Wd} : ∀ (n : Nat) {l : List D} {vs : List V}, Reps t w l vs → Reps t w (l.take n) (vs.take n)
  | 0, l, vs, h => by
    show Reps t w [] []
    simp only [Reps]
  | n + 1, [], vs, h => by
    simp only [Reps] at h
    subst h
    show Reps t w [] []
    simp only [Reps]
  | n + 1, d :: l, vs, h => by
    simp only [Reps] at h
    obtain ⟨v, r, rfl, h1, h3⟩ := h
    show Reps t w (d :: l.take n) (v :: r.take n)
    simp only [Reps]
    exact ⟨v, r.take n, rfl, h1, reps_take n h3⟩
theorem reps_drop {t : Tb} {w : Wd} : ∀ (n : Nat) {l : List D} {vs : List V}, Reps t w l vs → Reps t w (l.drop n) (vs.drop n)
  | 0, l, vs, h => h
  | n + 1, [], vs, h => by
    simp only [Reps] at h
    subst h
    show Reps t w [] []
    simp only [Reps]
  | n + 1, d :: l, vs, h => by
    simp only [Reps] at h
    obtain ⟨v, r, rfl, h1, h3⟩ := h
    exact reps_drop n h3
theorem reps_set {t : Tb} {w : Wd} {d : D} {v : V} (h : Rep t w d v) : ∀ {l : List D} {vs : List V} (n : Nat), Reps t w l vs → Reps t w (l.set n d) (vs.set n v)
  | [], vs, n, q => by
    simp only [Reps] at q
    subst q
    show Reps t w [] []
    simp only [Reps]
  | e :: l, vs, 0, q => by
    simp only [Reps] at q
    obtain ⟨u, r, rfl, h1, h3⟩ := q
    show Reps t w (d :: l) (v :: r)
    simp only [Reps]
    exact ⟨v, r, rfl, h, h3⟩
  | e :: l, vs, n + 1, q => by
    simp only [Reps] at q
    obtain ⟨u, r, rfl, h1, h3⟩ := q
    show Reps t w (e :: l.set n d) (u :: r.set n v)
    simp only [Reps]
    exact ⟨u, r.set n v, rfl, h1, reps_set h n h3⟩
theorem reps_ints {t : Tb} {w : Wd} : ∀ (ns : List Int), Reps t w (ns.map D.int) (ns.map V.int)
  | [] => by
    show Reps t w [] []
    simp only [Reps]
  | n :: r => by
    show Reps t w (D.int n :: r.map D.int) (V.int n :: r.map V.int)
    simp only [Reps]
    exact ⟨.int n, r.map V.int, rfl, by simp [Rep], reps_ints r⟩

theorem same_sqT {K : PySem.W.Frag} {H H' : Hp} {a : Addr} {xs : List V} (e : Same H H') (h : SqT K H a xs) : SqT K H' a xs := by
  rcases h with (h | ⟨o, h⟩) | h
  · exact .inl (.inl (e _ _ h))
  · exact .inl (.inr ⟨o, e _ _ h⟩)
  · exact .inr h
structure Wle (w w' : Wd) : Prop where
  hf : Same w.Hf w'.Hf
  rho : ∀ (n : Nat) (a : Addr), w.ρ[n]? = some a → w'.ρ[n]? = some a
theorem Wle.refl (w : Wd) : Wle w w := ⟨Same.refl _, fun _ _ h => h⟩
theorem Wle.trans {a b c : Wd} (x : Wle a b) (y : Wle b c) : Wle a c := ⟨x.hf.trans y.hf, fun n z h => y.rho n z (x.rho n z h)⟩
mutual
theorem Rep.mono {t : Tb} {w w' : Wd} (l : Wle w w') : ∀ (d : D) {v : V}, Rep t w d v → Rep t w' d v
  | .non, v, h => h
  | .bl b, v, h => h
  | .int i, v, h => h
  | .str s, v, h => h
  | .tup m, v, h => by
    simp only [Rep] at h ⊢
    obtain ⟨p, vs, e, q, r⟩ := h
    exact ⟨p, vs, e, same_sqT l.hf q, Reps.mono l m r⟩
  | .lst m, v, h => by
    simp only [Rep] at h ⊢
    obtain ⟨p, vs, e, q, r⟩ := h
    exact ⟨p, vs, e, l.hf _ _ q, Reps.mono l m r⟩
  | .scr m, v, h => by
    simp only [Rep] at h ⊢
    obtain ⟨p, vs, e, q, r⟩ := h
    exact ⟨p, vs, e, l.hf.seq q, Reps.mono l m r⟩
  | .dct ks m, v, h => by
    simp only [Rep] at h ⊢
    obtain ⟨p, vs, e, q, z, r⟩ := h
    exact ⟨p, vs, e, l.hf _ _ q, z, Reps.mono l m r⟩
  | .obj c m, v, h => by
    simp only [Rep] at h ⊢
    obtain ⟨p, dx, vs, e, q, z, r⟩ := h
    exact ⟨p, dx, vs, e, l.hf _ _ q, z, Reps.mono l m r⟩
  | .exc c m, v, h => by
    simp only [Rep] at h ⊢
    obtain ⟨p, d, e, q, r⟩ := h
    refine ⟨p, d, e, l.hf _ _ q, ?_⟩
    rcases r with r | ⟨n, dx, vs, e1, e2, e3, r⟩
    · exact .inl r
    · exact .inr ⟨n, dx, vs, e1, l.hf _ _ e2, e3, Reps.mono l m r⟩
  | .ref n, v, h => by
    simp only [Rep] at h ⊢
    obtain ⟨p, e, q⟩ := h
    exact ⟨p, e, l.rho _ _ q⟩
theorem Reps.mono {t : Tb} {w w' : Wd} (l : Wle w w') : ∀ (ds : List D) {vs : List V}, Reps t w ds vs → Reps t w' ds vs
  | [], vs, h => h
  | d :: ds, vs, h => by
    simp only [Reps] at h ⊢
    obtain ⟨v, r, e, h1, h2⟩ := h
    exact ⟨v, r, e, Rep.mono l d h1, Reps.mono l ds h2⟩
end

/-- a mutable object at a -/
def MOk (t : Tb) (w : Wd) (o : MO) (H : Hp) (a : Addr) : Prop := match o with
  | .dead => True
  | .lst l => w.Hf a = none ∧ ∃ vs, H a = some (.lst vs) ∧ Reps t w l vs
  | .dct ks l => w.Hf a = none ∧ ∃ vs, H a = some (.dK (ks.zip vs)) ∧ ks.length = vs.length ∧ Reps t w l vs
  | .ins c l => w.Hf a = none ∧ ∃ dx vs, H a = some (.ins (t.cl c) dx ((t.fl c).zip vs)) ∧ vs.length ≤ (t.fl c).length ∧ Reps t w l vs
structure RelA (t : Tb) (w : Wd) (ah : AH) (H : Hp) : Prop where
  sub : Same w.Hf H
  len : w.ρ.length = ah.length
  nd : w.ρ.Nodup
  live : ∀ a ∈ w.ρ, ∃ o, H a = some o
  obj : ∀ (n : Nat) (o : MO) (a : Addr), ah[n]? = some o → w.ρ[n]? = some a → MOk t w o H a
theorem RelA.free {t : Tb} {w : Wd} {ah : AH} {H : Hp} {p : Addr} (A : RelA t w ah H) (h : H p = none) : p ∉ w.ρ := fun z => by
  obtain ⟨o, e⟩ := A.live p z
  rw [h] at e
  cases e
/-- where a def began: the heap, the instance that it makes -/
structure Bs where
  H : Hp
  me : Addr
def MO.isIns : MO → Bool
  | .ins _ _ => true
  | _ => false
/-- a slot and what stands in it; own: fresh behind H0 -/
def SlOk (t : Tb) (H0 : Bs) (w : Wd) (s : Sl) (x : Option (Option V)) (H : Hp) : Prop := match s with
  | .no => True
  | .val d => ∃ v, x = some (some v) ∧ Rep t w d v
  | .own o => ∃ a ob, x = some (some (.ref a)) ∧ H a = some ob ∧ MOk t w o H a ∧ H0.H a = none ∧ a ∉ w.ρ ∧ w.Hf a = none ∧ (o.isIns = true → a = H0.me)
structure RelE (t : Tb) (H0 : Bs) (w : Wd) (env : En) (σ : L2.St) (H : Hp) : Prop where
  len : env.length = σ.length
  slot : ∀ (i : Nat) (s : Sl), env[i]? = some s → SlOk t H0 w s σ[i]? H
  dist : ∀ (i j : Nat) (o p : MO) (a : Addr), i ≠ j → env[i]? = some (.own o) → env[j]? = some (.own p) → σ[i]? = some (some (.ref a)) → σ[j]? = some (some (.ref a)) → False
/-- a step of the heap: what is not of the store stays -/
structure Stp (w : Wd) (H : Hp) (w' : Wd) (H' : Hp) : Prop where
  le : Wle w w'
  fr : ∀ (a : Addr) (o : HO), a ∉ w.ρ → H a = some o → H' a = some o
  there : ∀ (a : Addr) (o : HO), H a = some o → ∃ o', H' a = some o'
  newR : ∀ a ∈ w'.ρ, a ∈ w.ρ ∨ H a = none
  newF : ∀ (a : Addr) (o : HO), w'.Hf a = some o → w.Hf a = some o ∨ H a = none ∨ a ∈ w.ρ
theorem Stp.refl (w : Wd) (H : Hp) : Stp w H w H := ⟨Wle.refl w, fun _ _ _ h => h, fun _ o h => ⟨o, h⟩, fun _ h => .inl h, fun _ _ h => .inl h⟩
theorem Stp.trans {w w1 w2 : Wd} {H H1 H2 : Hp} (x : Stp w H w1 H1) (y : Stp w1 H1 w2 H2) : Stp w H w2 H2 := by
  have nn : ∀ a, H1 a = none → H a = none := fun a h => by
    cases q : H a with
    | none => rfl
    | some o =>
      obtain ⟨o', e⟩ := x.there a o q
      rw [h] at e
      cases e
  refine ⟨x.le.trans y.le, fun a o h1 h2 => ?_, fun a o h => ?_, fun a h => ?_, fun a o h => ?_⟩
  · refine y.fr a o (fun z => ?_) (x.fr a o h1 h2)
    rcases x.newR a z with q | q
    · exact h1 q
    · rw [h2] at q
      cases q
  · obtain ⟨o1, e1⟩ := x.there a o h
    exact y.there a o1 e1
  · rcases y.newR a h with q | q
    · exact x.newR a q
    · exact .inr (nn a q)
  · rcases y.newF a o h with q | q | q
    · exact x.newF a o q
    · exact .inr (.inl (nn a q))
    · rcases x.newR a q with z | z
      · exact .inr (.inr z)
      · exact .inr (.inl z)
theorem MOk.step {t : Tb} {w w' : Wd} {H H' : Hp} {o : MO} {a : Addr} (m : MOk t w o H a) (le : Wle w w') (hf : w.Hf a = none → w'.Hf a = none) (hH : ∀ ob, H a = some ob → H' a = some ob) : MOk t w' o H' a := by
  cases o with
  | dead => trivial
  | lst l =>
    obtain ⟨h0, vs, h1, h2⟩ := m
    exact ⟨hf h0, vs, hH _ h1, Reps.mono le l h2⟩
  | dct ks l =>
    obtain ⟨h0, vs, h1, h3, h2⟩ := m
    exact ⟨hf h0, vs, hH _ h1, h3, Reps.mono le l h2⟩
  | ins c l =>
    obtain ⟨h0, dx, vs, h1, h3, h2⟩ := m
    exact ⟨hf h0, dx, vs, hH _ h1, h3, Reps.mono le l h2⟩
theorem SlOk.step {t : Tb} {H0 : Bs} {w w' : Wd} {H H' : Hp} {s : Sl} {x : Option (Option V)} (m : SlOk t H0 w s x H) (st : Stp w H w' H') : SlOk t H0 w' s x H' := by
  cases s with
  | no => trivial
  | val d =>
    obtain ⟨v, e, r⟩ := m
    exact ⟨v, e, Rep.mono st.le d r⟩
  | own o =>
    obtain ⟨a, ob, e, h1, h2, h3, h4, h5, h6⟩ := m
    have hf : w'.Hf a = none := by
      cases q : w'.Hf a with
      | none => rfl
      | some u =>
        rcases st.newF a u q with z | z | z
        · rw [h5] at z; cases z
        · rw [h1] at z; cases z
        · exact absurd z h4
    refine ⟨a, ob, e, st.fr a ob h4 h1, h2.step st.le (fun _ => hf) (fun ob h => st.fr a ob h4 h), h3, fun z => ?_, hf, h6⟩
    rcases st.newR a z with q | q
    · exact h4 q
    · rw [h1] at q; cases q
theorem RelE.step {t : Tb} {H0 : Bs} {w w' : Wd} {H H' : Hp} {env : En} {σ : L2.St} (m : RelE t H0 w env σ H) (st : Stp w H w' H') : RelE t H0 w' env σ H' :=
  ⟨m.len, fun i s e => (m.slot i s e).step st, m.dist⟩

/-! ### results -/
inductive Res (α : Type) where
  | ok (a : α) (ah : AH)
  | exc (c : Nat) (l : List D) (ah : AH)
  | bad
def Res.bind {α β : Type} (r : Res α) (k : α → AH → Res β) : Res β := match r with
  | .ok a ah => k a ah
  | .exc c l ah => .exc c l ah
  | .bad => .bad
@[simp] theorem bind_ok {α β : Type} (a : α) (ah : AH) (k : α → AH → Res β) : (Res.ok a ah).bind k = k a ah := rfl
@[simp] theorem bind_exc {α β : Type} (c : Nat) (l : List D) (ah : AH) (k : α → AH → Res β) : (Res.exc c l ah : Res α).bind k = .exc c l ah := rfl
@[simp] theorem bind_bad {α β : Type} (k : α → AH → Res β) : (Res.bad : Res α).bind k = .bad := rfl
def ofO {α : Type} (o : Option α) (ah : AH) : Res α := match o with
  | some a => .ok a ah
  | none => .bad
@[simp] theorem ofO_some {α : Type} (a : α) (ah : AH) : ofO (some a) ah = .ok a ah := rfl
@[simp] theorem ofO_none {α : Type} (ah : AH) : ofO (none : Option α) ah = .bad := rfl

/-- an exception's own dict -/
def ExcD (t : Tb) (w : Wd) (c : Nat) (l : List D) (d : Option Addr) : Prop :=
  (l = [] ∧ d = none) ∨ (l ≠ [] ∧ ∃ dx vs, d = some dx ∧ w.Hf dx = some (.xd ((t.fl c).zip vs)) ∧ vs.length = (t.fl c).length ∧ Reps t w l vs)
theorem ExcD.mono {t : Tb} {w w' : Wd} {c : Nat} {l : List D} {d : Option Addr} (le : Wle w w') (h : ExcD t w c l d) : ExcD t w' c l d := by
  rcases h with h | ⟨n, dx, vs, e1, e2, e3, e4⟩
  · exact .inl h
  · exact .inr ⟨n, dx, vs, e1, le.hf _ _ e2, e3, Reps.mono le l e4⟩
def Post (t : Tb) {α β : Type} (R : Wd → α → β → Prop) (w : Wd) (H : Hp) (r : Res α) (Q : β → Hp → Prop) (E : XK) : Prop := match r with
  | .ok a ah => ∀ w' b H', Stp w H w' H' → RelA t w' ah H' → R w' a b → Q b H'
  | .exc c l ah => ∀ w' d H', Stp w H w' H' → RelA t w' ah H' → ExcD t w' c l d → E (.ref (t.cl c)) d H'
  | .bad => False
theorem Post.shift {t : Tb} {α β : Type} {R : Wd → α → β → Prop} {w w1 : Wd} {H H1 : Hp} {r : Res α} {Q : β → Hp → Prop} {E : XK} (p : Post t R w H r Q E) (s : Stp w H w1 H1) : Post t R w1 H1 r Q E := by
  cases r with
  | ok a ah => exact fun w' b H' s' A rr => p w' b H' (s.trans s') A rr
  | exc c l ah => exact fun w' d H' s' A rr => p w' d H' (s.trans s') A rr
  | bad => exact p
theorem post_bind {t : Tb} {α β γ δ : Type} {R : Wd → α → β → Prop} {S : Wd → γ → δ → Prop} {w : Wd} {H : Hp} {r : Res α} {k : α → AH → Res γ} {Q : δ → Hp → Prop} {E : XK} {Y : β → Hp → Prop}
    (p : Post t S w H (r.bind k) Q E) (g : ∀ a ah w' b H', Stp w H w' H' → RelA t w' ah H' → R w' a b → Post t S w' H' (k a ah) Q E → Y b H') : Post t R w H r Y E := by
  cases r with
  | ok a ah => exact fun w' b H' s A rr => g a ah w' b H' s A rr (Post.shift (show Post t S w H (k a ah) Q E from p) s)
  | exc c l ah => exact p
  | bad => exact p
theorem post_ok {t : Tb} {α β : Type} {R : Wd → α → β → Prop} {w : Wd} {H : Hp} {a : α} {ah : AH} {Q : β → Hp → Prop} {E : XK} {b : β} (p : Post t R w H (.ok a ah) Q E) (A : RelA t w ah H) (r : R w a b) : Q b H := p w b H (Stp.refl w H) A r
theorem post_imp {t : Tb} {α β : Type} {R : Wd → α → β → Prop} {w : Wd} {H : Hp} {r : Res α} {Q Q' : β → Hp → Prop} {E E' : XK} (p : Post t R w H r Q E) (hq : ∀ b H', Q b H' → Q' b H') (he : ∀ c d H', E c d H' → E' c d H') : Post t R w H r Q' E' := by
  cases r with
  | ok a ah => exact fun w' b H' s A rr => hq _ _ (p w' b H' s A rr)
  | exc c l ah => exact fun w' d H' s A rr => he _ _ _ (p w' d H' s A rr)
  | bad => exact p

/-- a new frozen object -/
def Wd.add (w : Wd) (p : Addr) (o : HO) : Wd := { w with Hf := upd w.Hf p o }
theorem stp_add {t : Tb} {w : Wd} {H : Hp} {ah : AH} {p : Addr} {o : HO} (A : RelA t w ah H) (hp : H p = none) : Stp w H (w.add p o) (upd H p o) ∧ RelA t (w.add p o) ah (upd H p o) := by
  have hf : w.Hf p = none := A.sub.free hp
  have le : Wle w (w.add p o) := ⟨fun a u h => by
    show upd w.Hf p o a = some u
    rw [upd_ne (ne_of_none h hf)]
    exact h, fun _ _ h => h⟩
  refine ⟨⟨le, fun a u _ h => by rw [upd_ne (ne_of_none h hp)]; exact h, fun a u h => ⟨u, by rw [upd_ne (ne_of_none h hp)]; exact h⟩, fun a h => .inl h, fun a u h => ?_⟩, ⟨fun a u h => ?_, A.len, A.nd, fun a h => by
    obtain ⟨u, e⟩ := A.live a h
    exact ⟨u, by rw [upd_ne (ne_of_none e hp)]; exact e⟩, fun n u a h1 h2 => ?_⟩⟩
  · by_cases e : a = p
    · exact .inr (.inl (by rw [e]; exact hp))
    · have h' : upd w.Hf p o a = some u := h
      rw [upd_ne e] at h'
      exact .inl h'
  · have h' : upd w.Hf p o a = some u := h
    by_cases e : a = p
    · rw [e, upd_same] at h' ⊢
      exact h'
    · rw [upd_ne e] at h' ⊢
      exact A.sub a u h'
  · have m := A.obj n u a h1 h2
    cases u with
    | dead => trivial
    | lst l =>
      obtain ⟨h0, vs, h3, h4⟩ := m
      have e : a ≠ p := ne_of_none h3 hp
      exact ⟨by show upd w.Hf p o a = none; rw [upd_ne e]; exact h0, vs, by rw [upd_ne e]; exact h3, Reps.mono le l h4⟩
    | dct ks l =>
      obtain ⟨h0, vs, h3, h5, h4⟩ := m
      have e : a ≠ p := ne_of_none h3 hp
      exact ⟨by show upd w.Hf p o a = none; rw [upd_ne e]; exact h0, vs, by rw [upd_ne e]; exact h3, h5, Reps.mono le l h4⟩
    | ins c l =>
      obtain ⟨h0, dx, vs, h3, h5, h4⟩ := m
      have e : a ≠ p := ne_of_none h3 hp
      exact ⟨by show upd w.Hf p o a = none; rw [upd_ne e]; exact h0, dx, vs, by rw [upd_ne e]; exact h3, h5, Reps.mono le l h4⟩
theorem add_at {w : Wd} {p : Addr} {o : HO} : (w.add p o).Hf p = some o := upd_same
/-- a new object that is owned (by a slot), or not told of -/
theorem stp_new {t : Tb} {w : Wd} {H : Hp} {ah : AH} {p : Addr} {o : HO} (A : RelA t w ah H) (hp : H p = none) : Stp w H w (upd H p o) ∧ RelA t w ah (upd H p o) := by
  refine ⟨⟨Wle.refl w, fun a u _ h => by rw [upd_ne (ne_of_none h hp)]; exact h, fun a u h => ⟨u, by rw [upd_ne (ne_of_none h hp)]; exact h⟩, fun a h => .inl h, fun a u h => .inl h⟩, ⟨fun a u h => ?_, A.len, A.nd, fun a h => by
    obtain ⟨u, e⟩ := A.live a h
    exact ⟨u, by rw [upd_ne (ne_of_none e hp)]; exact e⟩, fun n u a h1 h2 => ?_⟩⟩
  · have h' := A.sub a u h
    rw [upd_ne (ne_of_none h' hp)]
    exact h'
  · refine (A.obj n u a h1 h2).step (Wle.refl w) (fun h => h) fun ob h => ?_
    rw [upd_ne (ne_of_none h hp)]
    exact h

/-! ### readings -/
abbrev CE := En → AH → Res D
abbrev CA := En → AH → Res (List D)
abbrev CT := En → AH → Res Bool
def tR (t : Tb) (W : WX) (H0 : Bs) {α β : Type} (R : Wd → α → β → Prop) (c : En → AH → Res α) : L2.St → Hp → (β → Hp → Prop) → Prop := fun σ H Q =>
  ∃ w env ah, RelA t w ah H ∧ RelE t H0 w env σ H ∧ Post t R w H (c env ah) Q (fun cls d H' => W cls d σ H')
abbrev tE (t : Tb) (W : WX) (H0 : Bs) (c : CE) : TE := tR t W H0 (Rep t) c
abbrev tAr (t : Tb) (W : WX) (H0 : Bs) (c : CA) : TA := tR t W H0 (Reps t) c
abbrev tT (t : Tb) (W : WX) (H0 : Bs) (c : CT) : TT := tR t W H0 (fun _ a b => a = b) c

theorem PE.imp {X : Cx} {e : Expr} {u v : TE} (h : PE X e u) (i : ∀ σ H Q, v σ H Q → u σ H Q) : PE X e v := ⟨fun pins s σ H Q I hw => h.run pins s σ H Q I (i σ H Q hw)⟩
theorem PT.imp {X : Cx} {e : Expr} {u v : TT} (h : PT X e u) (i : ∀ σ H Q, v σ H Q → u σ H Q) : PT X e v := ⟨fun pins s σ H Q I hw => h.run pins s σ H Q I (i σ H Q hw)⟩
theorem PW.imp {X : Cx} {e : Expr} {u v : TT} (h : PW X e u) (i : ∀ σ H Q, v σ H Q → u σ H Q) : PW X e v := ⟨fun wh pins s σ H Q I hw => h.run wh pins s σ H Q I (i σ H Q hw)⟩
theorem PA.imp {X : Cx} {e : List Expr} {u v : TA} (h : PA X e u) (i : ∀ σ H Q, v σ H Q → u σ H Q) : PA X e v := ⟨fun pos pins s σ H Q I hw => h.run pos pins s σ H Q I (i σ H Q hw)⟩
theorem PS.imp {X : Cx} {e : Stmt} {u v : TS} (h : PS X e u) (i : ∀ D σ H, v D σ H → u D σ H) : PS X e v := ⟨fun pins s σ H D I hw => h.run pins s σ H D I (i D σ H hw)⟩
theorem PSs.imp {X : Cx} {e : List Stmt} {u v : TS} (h : PSs X e u) (i : ∀ D σ H, v D σ H → u D σ H) : PSs X e v := ⟨fun pins s σ H D I hw => h.run pins s σ H D I (i D σ H hw)⟩
end G
/-! The engine, part 2: expressions. -/
namespace G
open PySem PySem.Spec PyProof.Rows L2

section
variable {X : Cx} {t : Tb} {W : WX} {H0 : Bs}

/-! ### names, constants -/
def cVar (i : Nat) : CE := fun env ah => match env[i]? with
  | some (.val d) => .ok d ah
  | _ => .bad
def cC (d : D) : CE := fun _ ah => .ok d ah
theorem q_var (i : Nat) {x : Str} {pos : Pos} (hN : X.N[i]? = some x := by rfl) (hv : Vis X.env.scope x := by first | exact Or.inl rfl | exact Or.inr (Or.inl rfl) | exact Or.inr (Or.inr rfl)) (hd : (x == ("__debug__" : Str)) = false := by decide)
    (hcd : (x == ("__classdict__" : Str)) = false := by decide) : PE X (.Name x pos) (tE t W H0 (cVar i)) := by
  refine PE.imp (pv i hN hv hd hcd) ?_
  rintro σ H Q ⟨w, env, ah, A, R, P⟩
  show ∃ v, σ[i]? = some (some v) ∧ Q v H
  unfold cVar at P
  cases e : env[i]? with
  | none => rw [e] at P; exact False.elim P
  | some s =>
    rw [e] at P
    cases s with
    | no => exact False.elim P
    | own o => exact False.elim P
    | val d =>
      obtain ⟨v, hv, r⟩ := R.slot i _ e
      exact ⟨v, hv, post_ok P A r⟩
theorem q_const {e : Expr} {v : V} {d : D} (h : PE X e (tC v)) (r : ∀ w, Rep t w d v) : PE X e (tE t W H0 (cC d)) := by
  refine PE.imp h ?_
  rintro σ H Q ⟨w, env, ah, A, R, P⟩
  exact post_ok P A (r w)
theorem q_int {i j pos} : PE X (.Constant (.int i) j pos) (tE t W H0 (cC (.int i))) := q_const pe_int fun w => by simp only [Rep]
theorem q_bl {i j pos} : PE X (.Constant (.bool i) j pos) (tE t W H0 (cC (.bl i))) := q_const pe_bl fun w => by simp only [Rep]
theorem q_non {j pos} : PE X (.Constant .none j pos) (tE t W H0 (cC .non)) := q_const pe_non fun w => by simp only [Rep]
theorem q_str {x j pos} : PE X (.Constant (.str x) j pos) (tE t W H0 (cC (.str x))) := q_const pe_str fun w => by simp only [Rep]
/-- a module's constant -/
theorem q_glob {x : Str} {v : V} {u : Value} {d : D} {pos : Pos} (hm : X.mg x = some u) (r : RelV v u) (rd : ∀ w, Rep t w d v) (hg : Gl X x := by rfl) (hd : (x == ("__debug__" : Str)) = false := by decide) : PE X (.Name x pos) (tE t W H0 (cC d)) :=
  q_const (pe_glob hg hm r hd) rd

/-! ### two places -/
abbrev F2 := AH → D → D → Option D
def cBin (f : F2) (a b : CE) : CE := fun env ah => (a env ah).bind fun x ah1 => (b env ah1).bind fun y ah2 => ofO (f ah2 x y) ah2
/-- an operation by values does what f says -/
def BinS (t : Tb) (f : F2) (r : R2) : Prop := ∀ w ah H x y d v u Q, RelA t w ah H → Rep t w x v → Rep t w y u → f ah x y = some d → (∀ w' z H', Stp w H w' H' → RelA t w' ah H' → Rep t w' d z → Q z H') → r v u H Q
theorem bin_read {f : F2} {r : R2} {ca cb : CE} (hs : BinS t f r) : ∀ σ H Q, tE t W H0 (cBin f ca cb) σ H Q → tOp r (tE t W H0 ca) (tE t W H0 cb) σ H Q := by
  rintro σ H Q ⟨w, env, ah, A, R, P⟩
  refine ⟨w, env, ah, A, R, post_bind P fun x ah1 w1 v H1 s1 A1 r1 P1 => ?_⟩
  refine ⟨w1, env, ah1, A1, R.step s1, post_bind P1 fun y ah2 w2 u H2 s2 A2 r2 P2 => ?_⟩
  cases e : f ah2 x y with
  | none => rw [e] at P2; exact False.elim P2
  | some d =>
    rw [e] at P2
    exact hs w2 ah2 H2 x y d v u _ A2 (Rep.mono s2.le x r1) r2 e fun w' z H' s' A' rz => P2 w' z H' s' A' rz
theorem q_bin {op : Operator} {f : F2} {r : R2} {a b : Expr} {ca cb : CE} {pos : Pos} (ho : OpR X (binaryOp op) r) (hs : BinS t f r) (ha : PE X a (tE t W H0 ca)) (hb : PE X b (tE t W H0 cb)) :
    PE X (.BinOp a op b pos) (tE t W H0 (cBin f ca cb)) := PE.imp (pe_op ho ha hb) (bin_read hs)
theorem q_cmp {op : CmpOp} {f : F2} {r : R2} {a b : Expr} {ca cb : CE} {pos : Pos} (ho : OpR X (compareOp op) r) (hs : BinS t f r) (ha : PE X a (tE t W H0 ca)) (hb : PE X b (tE t W H0 cb)) (hm : behindInMarks op b = false) :
    PE X (.Compare a [op] [b] pos) (tE t W H0 (cBin f ca cb)) := PE.imp (pe_cmpR ho ha hb hm) (bin_read hs)
/-- a bool as a test -/
def asB : D → Option Bool
  | .bl b => some b
  | _ => none
def cTest (c : CE) : CT := fun env ah => (c env ah).bind fun d ah1 => ofO (asB d) ah1
theorem test_read {c : CE} : ∀ σ H Q, tT t W H0 (cTest c) σ H Q → tTest (tE t W H0 c) σ H Q := by
  rintro σ H Q ⟨w, env, ah, A, R, P⟩
  refine ⟨w, env, ah, A, R, post_bind P fun d ah1 w1 v H1 s1 A1 r1 P1 => ?_⟩
  cases d with
  | bl b =>
    refine ⟨b, ?_, P1 w1 b H1 (Stp.refl _ _) A1 rfl⟩
    simpa only [Rep] using r1
  | _ => exact False.elim P1
theorem q_tcmp {op : CmpOp} {f : F2} {r : R2} {a b : Expr} {ca cb : CE} {pos : Pos} (ho : OpR X (compareOp op) r) (hs : BinS t f r) (ha : PE X a (tE t W H0 ca)) (hb : PE X b (tE t W H0 cb)) (hm : behindInMarks op b = false) :
    PT X (.Compare a [op] [b] pos) (tT t W H0 (cTest (cBin f ca cb))) := by
  refine PT.imp (pt_cmpR ho ha hb hm) fun σ H Q h => ?_
  obtain ⟨w, env, ah, A, R, P⟩ := test_read σ H Q h
  exact bin_read hs σ H _ ⟨w, env, ah, A, R, P⟩
theorem q_test {e : Expr} {c : CE} (h : PE X e (tE t W H0 c)) (he : ∀ whole, isTrue e X.env whole = (do let v ← whole; standAt e.pos; holding [v] (truthy v)) := by intro _; rfl) : PT X e (tT t W H0 (cTest c)) :=
  PT.imp (pt_val h he) test_read

/-! ### the operations -/
theorem same_none {H H' : Hp} {a : Addr} (h : H = H') (e : H a = none) : H' a = none := h ▸ e
theorem fin0 {w : Wd} {ah : AH} {H : Hp} {d : D} {z : V} {Q : V → Hp → Prop} (A : RelA t w ah H) (q : ∀ w' z H', Stp w H w' H' → RelA t w' ah H' → Rep t w' d z → Q z H') (r : Rep t w d z) : Q z H := q w z H (Stp.refl _ _) A r

def mulOk (i j : Int) : Prop := CMul i j ∨ CMulW i j
instance (i j : Int) : Decidable (mulOk i j) := by unfold mulOk CMul CMulW; infer_instance
theorem op_mulA : OpR X (binaryOp .Mult) (rI mulOk fun i j => .int (i * j)) := opI fun _ _ _ _ _ _ _ hc q => mul_int q (hc.elim CMul.ok CMulW.ok)
def divOk (j : Int) : Prop := j ≠ 0 ∧ j.natAbs.log2 < 9000
instance (j : Int) : Decidable (divOk j) := by unfold divOk; infer_instance
theorem op_fdivA : OpR X (binaryOp .FloorDiv) (rI (fun _ j => divOk j) fun i j => .int (i.fdiv j)) := opI fun i j _ _ _ _ _ hc q => floordiv_int hc.1 q (.inl (PyProof.noPylong_of_log2 hc.2))

def addD : F2 := fun ah x y => match x, y with
  | .int i, .int j => some (.int (i + j))
  | .str a, .str b => if a.length + b.length ≤ sizeLine then some (.str (a ++ b)) else none
  | .lst l, .lst m => if l.length + m.length ≤ sizeLine then some (.lst (l ++ m)) else none
  | .tup l, .tup m => if l.length + m.length ≤ sizeLine then some (.tup (l ++ m)) else none
  | _, _ => none
def subD : F2 := fun _ x y => match x, y with
  | .int i, .int j => some (.int (i - j))
  | _, _ => none
def mulD : F2 := fun _ x y => match x, y with
  | .int i, .int j => if mulOk i j then some (.int (i * j)) else none
  | .str z, .int n => if z.length ≤ 1000 ∧ 0 ≤ n ∧ n ≤ 1000 then some (.str (Txt.mul z n)) else none
  | _, _ => none
def fdivD : F2 := fun _ x y => match x, y with
  | .int i, .int j => if divOk j then some (.int (i.fdiv j)) else none
  | _, _ => none
def modD : F2 := fun _ x y => match x, y with
  | .int i, .int j => if j ≠ 0 then some (.int (i.fmod j)) else none
  | _, _ => none
def powD : F2 := fun _ x y => match x, y with
  | .int i, .int j => if 0 ≤ j ∧ j ≤ 1000000 ∧ i.natAbs < 2 ^ 64 then some (.int (i ^ j.toNat)) else none
  | _, _ => none

def rAddA (K : PySem.W.Frag) : R2 := fun x y H Q => rI0 (fun i j => .int (i + j)) x y H Q ∨ (∃ i j, x = .str i ∧ y = .str j ∧ i.length + j.length ≤ sizeLine ∧ Q (.str (i ++ j)) H) ∨ rCat x y H Q ∨ rCatA K x y H Q
theorem op_addA : OpR X (binaryOp .Add) (rAddA X.K) := op_add.or (op_add_str.or (op_cat.or op_catA))
theorem bs_add (hK : t.K = X.K := by rfl) : BinS t addD (rAddA X.K) := by
  intro w ah H x y d v u Q A rx ry e q
  cases x <;> cases y <;> simp only [addD, reduceCtorEq] at e <;> try (simp only [Rep] at rx ry)
  · rename_i i j
    injection e with e
    subst e
    exact .inl ⟨i, j, rx, ry, fin0 A q (by simp only [Rep])⟩
  · rename_i a b
    split at e
    · rename_i hz
      injection e with e
      subst e
      exact .inr (.inl ⟨a, b, rx, ry, hz, fin0 A q (by simp only [Rep])⟩)
    · cases e
  · rename_i l m
    split at e
    · rename_i hz
      injection e with e
      subst e
      obtain ⟨p, vs, rfl, h1, r1⟩ := rx
      obtain ⟨p2, vs2, rfl, h2, r2⟩ := ry
      rw [hK] at h1 h2
      have l1 := reps_len r1
      have l2 := reps_len r2
      refine .inr (.inr (.inr ⟨p, p2, vs, vs2, rfl, rfl, same_sqT A.sub h1, same_sqT A.sub h2, by omega, fun z => ?_, fun z1 z2 => ?_, fun z1 z2 pp hp => ?_⟩))
      · subst z
        have : l = [] := List.length_eq_zero_iff.mp (by simpa using l1)
        subst this
        refine fin0 A q ?_
        simp only [Rep]
        exact ⟨p2, vs2, rfl, by rw [hK]; exact h2, by simpa using r2⟩
      · subst z2
        have : m = [] := List.length_eq_zero_iff.mp (by simpa using l2)
        subst this
        refine fin0 A q ?_
        simp only [Rep]
        exact ⟨p, vs, rfl, by rw [hK]; exact h1, by simpa using r1⟩
      · obtain ⟨s, A'⟩ := stp_add (o := .tup (vs ++ vs2)) A hp
        refine q _ _ _ s A' ?_
        simp only [Rep]
        exact ⟨pp, _, rfl, SqT.of add_at, reps_append (Reps.mono s.le _ r1) (Reps.mono s.le _ r2)⟩
    · cases e
  · rename_i l m
    split at e
    · rename_i hz
      injection e with e
      subst e
      obtain ⟨p, vs, rfl, h1, r1⟩ := rx
      obtain ⟨p2, vs2, rfl, h2, r2⟩ := ry
      have l1 := reps_len r1
      have l2 := reps_len r2
      refine .inr (.inr (.inl ⟨p, p2, vs, vs2, rfl, rfl, A.sub _ _ h1, A.sub _ _ h2, by omega, fun pp hp => ?_⟩))
      obtain ⟨s, A'⟩ := stp_add (o := .lst (vs ++ vs2)) A hp
      refine q _ _ _ s A' ?_
      simp only [Rep]
      exact ⟨pp, _, rfl, add_at, reps_append (Reps.mono s.le _ r1) (Reps.mono s.le _ r2)⟩
    · cases e

def simpleI (g : Int → Int → Int) : F2 := fun _ x y => match x, y with
  | .int i, .int j => some (.int (g i j))
  | _, _ => none
theorem bs_sub : BinS t subD (rI0 fun i j => .int (i - j)) := by
  intro w ah H x y d v u Q A rx ry e q
  cases x <;> cases y <;> simp only [subD, reduceCtorEq] at e <;> simp only [Rep] at rx ry
  rename_i i j
  injection e with e
  subst e
  exact ⟨i, j, rx, ry, fin0 A q (by simp only [Rep])⟩
def rMulA : R2 := fun x y H Q => rI mulOk (fun i j => .int (i * j)) x y H Q ∨ ∃ z n, x = .str z ∧ y = .int n ∧ (z.length ≤ 1000 ∧ 0 ≤ n ∧ n ≤ 1000) ∧ Q (.str (Txt.mul z n)) H
theorem mul_ok {z : Str} {n : Int} (h1 : z.length ≤ 1000) (h2 : 0 ≤ n) (h3 : n ≤ 1000) : MulOk z n := by
  refine ⟨?_, fun a b c => ?_, fun a b => ?_⟩
  · rw [Bool.or_eq_false_iff]
    constructor <;> rw [decide_eq_false_iff_not] <;> omega
  · have e : (9223372036854775 : Int) ≤ (2 ^ 63 - 1) / n := by
      rw [Int.le_ediv_iff_mul_le (by omega)]
      omega
    omega
  · unfold PySem.Builtin.Str.tooLong
    rw [decide_eq_false_iff_not, sizeLine_eq]
    have : z.length * n.toNat ≤ 1000 * 1000 := Nat.mul_le_mul h1 (by omega)
    omega
theorem op_mulZ : OpR X (binaryOp .Mult) rMulA := op_mulA.or fun pins s σ H x y v u Q I rx ry h => by
  obtain ⟨z, n, rfl, rfl, ⟨h1, h2, h3⟩, q⟩ := h
  obtain ⟨t, rfl⟩ := rx
  obtain ⟨t', rfl⟩ := ry
  exact SB.mul (mul_ok h1 h2 h3) fun t' k => ⟨.str (Txt.mul z n), H, I.tok _, ⟨_, rfl⟩, q⟩
theorem bs_mul : BinS t mulD rMulA := by
  intro w ah H x y d v u Q A rx ry e q
  cases x <;> cases y <;> simp only [mulD, reduceCtorEq] at e <;> simp only [Rep] at rx ry
  · rename_i i j
    split at e
    · rename_i h
      injection e with e
      subst e
      exact .inl ⟨i, j, rx, ry, h, fin0 A q (by simp only [Rep])⟩
    · cases e
  · rename_i z n
    split at e
    · rename_i h
      injection e with e
      subst e
      exact .inr ⟨z, n, rx, ry, h, fin0 A q (by simp only [Rep])⟩
    · cases e
theorem bs_fdiv : BinS t fdivD (rI (fun _ j => divOk j) fun i j => .int (i.fdiv j)) := by
  intro w ah H x y d v u Q A rx ry e q
  cases x <;> cases y <;> simp only [fdivD, reduceCtorEq] at e <;> simp only [Rep] at rx ry
  rename_i i j
  split at e
  · rename_i h
    injection e with e
    subst e
    exact ⟨i, j, rx, ry, h, fin0 A q (by simp only [Rep])⟩
  · cases e
theorem bs_mod : BinS t modD (rI (fun _ j => j ≠ 0) fun i j => .int (i.fmod j)) := by
  intro w ah H x y d v u Q A rx ry e q
  cases x <;> cases y <;> simp only [modD, reduceCtorEq] at e <;> simp only [Rep] at rx ry
  rename_i i j
  split at e
  · rename_i h
    injection e with e
    subst e
    exact ⟨i, j, rx, ry, h, fin0 A q (by simp only [Rep])⟩
  · cases e
theorem bs_pow : BinS t powD (rI CPow fun i j => .int (i ^ j.toNat)) := by
  intro w ah H x y d v u Q A rx ry e q
  cases x <;> cases y <;> simp only [powD, reduceCtorEq] at e <;> simp only [Rep] at rx ry
  rename_i i j
  split at e
  · rename_i h
    injection e with e
    subst e
    exact ⟨i, j, rx, ry, h, fin0 A q (by simp only [Rep])⟩
  · cases e
theorem q_add {a b : Expr} {ca cb : CE} {pos : Pos} (ha : PE X a (tE t W H0 ca)) (hb : PE X b (tE t W H0 cb)) (hK : t.K = X.K := by rfl) : PE X (.BinOp a .Add b pos) (tE t W H0 (cBin addD ca cb)) := q_bin op_addA (bs_add hK) ha hb
theorem q_sub {a b : Expr} {ca cb : CE} {pos : Pos} (ha : PE X a (tE t W H0 ca)) (hb : PE X b (tE t W H0 cb)) : PE X (.BinOp a .Sub b pos) (tE t W H0 (cBin subD ca cb)) := q_bin op_sub bs_sub ha hb
theorem q_mul {a b : Expr} {ca cb : CE} {pos : Pos} (ha : PE X a (tE t W H0 ca)) (hb : PE X b (tE t W H0 cb)) : PE X (.BinOp a .Mult b pos) (tE t W H0 (cBin mulD ca cb)) := q_bin op_mulZ bs_mul ha hb
theorem q_fdiv {a b : Expr} {ca cb : CE} {pos : Pos} (ha : PE X a (tE t W H0 ca)) (hb : PE X b (tE t W H0 cb)) : PE X (.BinOp a .FloorDiv b pos) (tE t W H0 (cBin fdivD ca cb)) := q_bin op_fdivA bs_fdiv ha hb
theorem q_mod {a b : Expr} {ca cb : CE} {pos : Pos} (ha : PE X a (tE t W H0 ca)) (hb : PE X b (tE t W H0 cb)) : PE X (.BinOp a .Mod b pos) (tE t W H0 (cBin modD ca cb)) := q_bin op_modN bs_mod ha hb
theorem q_pow {a b : Expr} {ca cb : CE} {pos : Pos} (ha : PE X a (tE t W H0 ca)) (hb : PE X b (tE t W H0 cb)) : PE X (.BinOp a .Pow b pos) (tE t W H0 (cBin powD ca cb)) := q_bin op_pow bs_pow ha hb

/-! ### one place -/
def cUn (f : AH → D → Option D) (a : CE) : CE := fun env ah => (a env ah).bind fun x ah1 => ofO (f ah1 x) ah1
def UnS (t : Tb) (f : AH → D → Option D) (r : V → Hp → VK → Prop) : Prop := ∀ w ah H x d v Q, RelA t w ah H → Rep t w x v → f ah x = some d → (∀ w' z H', Stp w H w' H' → RelA t w' ah H' → Rep t w' d z → Q z H') → r v H Q
theorem un_read {f : AH → D → Option D} {r : V → Hp → VK → Prop} {ca : CE} (hs : UnS t f r) : ∀ σ H Q, tE t W H0 (cUn f ca) σ H Q → tUn r (tE t W H0 ca) σ H Q := by
  rintro σ H Q ⟨w, env, ah, A, R, P⟩
  refine ⟨w, env, ah, A, R, post_bind P fun x ah1 w1 v H1 s1 A1 r1 P1 => ?_⟩
  cases e : f ah1 x with
  | none => rw [e] at P1; exact False.elim P1
  | some d =>
    rw [e] at P1
    exact hs w1 ah1 H1 x d v _ A1 r1 e fun w' z H' s' A' rz => P1 w' z H' s' A' rz
def negD : AH → D → Option D := fun _ x => match x with
  | .int i => some (.int (-i))
  | _ => none
theorem us_neg : UnS t negD (rU fun i => .int (-i)) := by
  intro w ah H x d v Q A rx e q
  cases x <;> simp only [negD, reduceCtorEq] at e
  simp only [Rep] at rx
  injection e with e
  subst e
  exact ⟨_, rx, fin0 A q (by simp only [Rep])⟩
theorem q_neg {a : Expr} {ca : CE} {pos : Pos} (ha : PE X a (tE t W H0 ca)) : PE X (.UnaryOp .USub a pos) (tE t W H0 (cUn negD ca)) := PE.imp (pe_un un_neg ha) (un_read us_neg)
def notD : AH → D → Option D := fun _ x => match x with
  | .bl b => some (.bl (!b))
  | _ => none
theorem q_not {a : Expr} {ca : CE} {pos : Pos} (ha : PE X a (tE t W H0 ca)) : PE X (.UnaryOp .Not a pos) (tE t W H0 (cUn notD ca)) := by
  refine PE.imp (pe_not ha) ?_
  rintro σ H Q ⟨w, env, ah, A, R, P⟩
  refine ⟨w, env, ah, A, R, post_bind P fun x ah1 w1 v H1 s1 A1 r1 P1 => ?_⟩
  cases x <;> first | exact False.elim P1 | skip
  rename_i b
  simp only [Rep] at r1
  exact ⟨b, r1, post_ok P1 A1 (by simp only [Rep])⟩

/-! ### comparisons -/
def cmpI (p : Int → Int → Bool) : F2 := fun _ x y => match x, y with
  | .int i, .int j => some (.bl (p i j))
  | _, _ => none
theorem bs_cmpI {p : Int → Int → Bool} : BinS t (cmpI p) (rI0 fun i j => .bl (p i j)) := by
  intro w ah H x y d v u Q A rx ry e q
  cases x <;> cases y <;> simp only [cmpI, reduceCtorEq] at e <;> simp only [Rep] at rx ry
  rename_i i j
  injection e with e
  subst e
  exact ⟨i, j, rx, ry, fin0 A q (by simp only [Rep])⟩
abbrev ltD : F2 := cmpI fun i j => decide (i < j)
abbrev leD : F2 := cmpI fun i j => decide (i ≤ j)
abbrev gtD : F2 := cmpI fun i j => decide (j < i)
abbrev geD : F2 := cmpI fun i j => decide (j ≤ i)
mutual
def pd : D → Option PyData
  | .non => some .none
  | .bl b => some (.bool b)
  | .int i => some (.int i)
  | .str s => some (.str s)
  | .tup l => (pds l).map PyData.tuple
  | .lst l => (pds l).map PyData.list
  | .scr l => none
  | .dct _ _ => none
  | .obj _ _ => none
  | .exc _ _ => none
  | .ref _ => none
def pds : List D → Option (List PyData)
  | [] => some []
  | d :: r => match pd d, pds r with
    | some a, some b => some (a :: b)
    | _, _ => none
end
mutual
theorem dp_of {w : Wd} {H : Hp} (hs : Same w.Hf H) : ∀ (d : D) {v : V} {p : PyData}, pd d = some p → Rep t w d v → Dp t.K H v p
  | .non, v, p, e, r => by
    simp only [pd] at e
    cases e
    simp only [Rep] at r
    subst r
    exact .non
  | .bl b, v, p, e, r => by
    simp only [pd] at e
    cases e
    simp only [Rep] at r
    subst r
    exact .bl b
  | .int i, v, p, e, r => by
    simp only [pd] at e
    cases e
    simp only [Rep] at r
    subst r
    exact .int i
  | .str s, v, p, e, r => by
    simp only [pd] at e
    cases e
    simp only [Rep] at r
    subst r
    exact .str s
  | .tup l, v, p, e, r => by
    simp only [pd] at e
    simp only [Rep] at r
    obtain ⟨a, vs, rfl, h1, h2⟩ := r
    cases q : pds l with
    | none => rw [q] at e; cases e
    | some ds =>
      rw [q] at e
      cases e
      exact .tup (same_sqT hs h1) (dps_of hs l q h2)
  | .lst l, v, p, e, r => by
    simp only [pd] at e
    simp only [Rep] at r
    obtain ⟨a, vs, rfl, h1, h2⟩ := r
    cases q : pds l with
    | none => rw [q] at e; cases e
    | some ds =>
      rw [q] at e
      cases e
      exact .lst (SqL.of (hs _ _ h1)) (dps_of hs l q h2)
  | .scr l, v, p, e, r => by simp only [pd] at e; cases e
  | .dct _ _, v, p, e, r => by simp only [pd] at e; cases e
  | .obj _ _, v, p, e, r => by simp only [pd] at e; cases e
  | .exc _ _, v, p, e, r => by simp only [pd] at e; cases e
  | .ref _, v, p, e, r => by simp only [pd] at e; cases e
theorem dps_of {w : Wd} {H : Hp} (hs : Same w.Hf H) : ∀ (l : List D) {vs : List V} {ps : List PyData}, pds l = some ps → Reps t w l vs → DpAll t.K H vs ps
  | [], vs, ps, e, r => by
    simp only [pds] at e
    cases e
    simp only [Reps] at r
    subst r
    exact .nil
  | d :: l, vs, ps, e, r => by
    simp only [pds] at e
    simp only [Reps] at r
    obtain ⟨v, vr, rfl, h1, h2⟩ := r
    cases q1 : pd d with
    | none => rw [q1] at e; cases e
    | some a =>
      cases q2 : pds l with
      | none => rw [q1, q2] at e; cases e
      | some b =>
        rw [q1, q2] at e
        cases e
        exact .cons (dp_of hs d q1 h1) (dps_of hs l q2 h2)
end
def scD : D → Option V
  | .non => some .non
  | .bl b => some (.bl b)
  | .int i => some (.int i)
  | .str s => some (.str s)
  | _ => none
theorem scD_rep {w : Wd} {d : D} {v x : V} (r : Rep t w d v) (e : scD d = some x) : v = x := by
  cases d <;> simp only [scD, reduceCtorEq] at e <;> simp only [Rep] at r <;> (injection e with e; rw [r, e])
def eqB (x y : D) : Option Bool := match scD x, scD y with
  | some a, some b => if scal a b then some (decide (a = b)) else none
  | _, _ => match pd x, pd y with
    | some a, some b => if SeqAt.shaped a && SeqAt.shaped b then some (PyData.eqv a b) else none
    | _, _ => none
def eqD : F2 := fun _ x y => (eqB x y).map D.bl
def neD : F2 := fun _ x y => (eqB x y).map fun b => D.bl (!b)
def rEqA (K : PySem.W.Frag) : R2 := fun x y H Q => rEq x y H Q ∨ rEqD K x y H Q
def rNeA (K : PySem.W.Frag) : R2 := fun x y H Q => rNe x y H Q ∨ rNeD K x y H Q
theorem op_eqA (hu : X.A.units + 64 < cLine) : OpR X (compareOp .Eq) (rEqA X.K) := op_eq.or (op_eqD hu)
theorem op_neA (hu : X.A.units + 64 < cLine) : OpR X (compareOp .NotEq) (rNeA X.K) := op_ne.or (op_neD hu)
theorem eqB_cases {w : Wd} {H : Hp} {x y : D} {v u : V} {b : Bool} (hs : Same w.Hf H) (rx : Rep t w x v) (ry : Rep t w y u) (e : eqB x y = some b) :
    (scal v u = true ∧ b = decide (v = u)) ∨ ∃ p q, Dp t.K H v p ∧ Dp t.K H u q ∧ SeqAt.shaped p = true ∧ SeqAt.shaped q = true ∧ b = PyData.eqv p q := by
  unfold eqB at e
  split at e
  · rename_i a c h1 h2
    have e1 := scD_rep rx h1
    have e2 := scD_rep ry h2
    subst e1 e2
    split at e
    · rename_i h
      injection e with e
      exact .inl ⟨h, e.symm⟩
    · cases e
  · split at e
    · rename_i p q h1 h2
      split at e
      · rename_i h
        rw [Bool.and_eq_true] at h
        injection e with e
        exact .inr ⟨p, q, dp_of hs x h1 rx, dp_of hs y h2 ry, h.1, h.2, e.symm⟩
      · cases e
    · cases e
theorem bs_eq (hK : t.K = X.K := by rfl) : BinS t eqD (rEqA X.K) := by
  intro w ah H x y d v u Q A rx ry e q
  unfold eqD at e
  cases h : eqB x y with
  | none => rw [h] at e; cases e
  | some b =>
    rw [h] at e
    cases e
    rcases eqB_cases A.sub rx ry h with ⟨h1, rfl⟩ | ⟨p, q', h1, h2, h3, h4, rfl⟩
    · exact .inl ⟨h1, fin0 A q (by simp only [Rep])⟩
    · rw [hK] at h1 h2
      exact .inr ⟨p, q', h1, h2, h3, h4, fin0 A q (by simp only [Rep])⟩
theorem bs_ne (hK : t.K = X.K := by rfl) : BinS t neD (rNeA X.K) := by
  intro w ah H x y d v u Q A rx ry e q
  unfold neD at e
  cases h : eqB x y with
  | none => rw [h] at e; cases e
  | some b =>
    rw [h] at e
    cases e
    rcases eqB_cases A.sub rx ry h with ⟨h1, rfl⟩ | ⟨p, q', h1, h2, h3, h4, rfl⟩
    · exact .inl ⟨h1, fin0 A q (by simp only [Rep])⟩
    · rw [hK] at h1 h2
      exact .inr ⟨p, q', h1, h2, h3, h4, fin0 A q (by simp only [Rep])⟩
def isN : D → Bool
  | .non => true
  | _ => false
theorem isN_rep {w : Wd} {d : D} {v : V} (r : Rep t w d v) : decide (v = .non) = isN d := by
  cases d <;> simp only [Rep] at r <;> first
    | (subst r; rfl)
    | (obtain ⟨p, h⟩ := r
       first
       | (obtain ⟨rfl, _⟩ := h; rfl)
       | (obtain ⟨a, rfl, _⟩ := h; rfl)
       | (obtain ⟨a, b, rfl, _⟩ := h; rfl))
def isND : F2 := fun _ x y => match y with
  | .non => some (.bl (isN x))
  | _ => none
def notND : F2 := fun _ x y => match y with
  | .non => some (.bl (!isN x))
  | _ => none
theorem bs_isN : BinS t isND (fun x y H Q => y = .non ∧ Q (.bl (decide (x = .non))) H) := by
  intro w ah H x y d v u Q A rx ry e q
  cases y <;> simp only [isND, reduceCtorEq] at e
  injection e with e
  subst e
  simp only [Rep] at ry
  refine ⟨ry, ?_⟩
  rw [isN_rep rx]
  exact fin0 A q (by simp only [Rep])
theorem bs_notN : BinS t notND (fun x y H Q => y = .non ∧ Q (.bl (!decide (x = .non))) H) := by
  intro w ah H x y d v u Q A rx ry e q
  cases y <;> simp only [notND, reduceCtorEq] at e
  injection e with e
  subst e
  simp only [Rep] at ry
  refine ⟨ry, ?_⟩
  rw [isN_rep rx]
  exact fin0 A q (by simp only [Rep])
/-- c in s, c one sign -/
def inSD : F2 := fun _ x y => match x, y with
  | .str a, .str z => match a.cps.toList with
    | [c] => some (.bl (decide (c ∈ z.cps.toList)))
    | _ => none
  | _, _ => none
def notInSD : F2 := fun _ x y => match x, y with
  | .str a, .str z => match a.cps.toList with
    | [c] => some (.bl (!decide (c ∈ z.cps.toList)))
    | _ => none
  | _, _ => none
theorem str_one {a : Str} {c : Nat} (h : a.cps.toList = [c]) : a = ⟨#[c]⟩ := by
  obtain ⟨⟨l⟩⟩ := a
  have : l = [c] := h
  subst this
  rfl
theorem bs_inS : BinS t inSD (fun x y H Q => ∃ (c : Nat) (z : Str), x = .str ⟨#[c]⟩ ∧ y = .str z ∧ Q (.bl (decide (c ∈ z.cps.toList))) H) := by
  intro w ah H x y d v u Q A rx ry e q
  cases x <;> cases y <;> simp only [inSD, reduceCtorEq] at e <;> simp only [Rep] at rx ry
  rename_i a z
  split at e
  · rename_i c hc
    injection e with e
    subst e
    rw [str_one hc] at rx
    exact ⟨c, z, rx, ry, fin0 A q (by simp only [Rep])⟩
  · cases e
theorem bs_notInS : BinS t notInSD (fun x y H Q => ∃ (c : Nat) (z : Str), x = .str ⟨#[c]⟩ ∧ y = .str z ∧ Q (.bl (!decide (c ∈ z.cps.toList))) H) := by
  intro w ah H x y d v u Q A rx ry e q
  cases x <;> cases y <;> simp only [notInSD, reduceCtorEq] at e <;> simp only [Rep] at rx ry
  rename_i a z
  split at e
  · rename_i c hc
    injection e with e
    subst e
    rw [str_one hc] at rx
    exact ⟨c, z, rx, ry, fin0 A q (by simp only [Rep])⟩
  · cases e
/-- x in xs, a list or a tuple of flat things -/
def flats : List D → Option (List V)
  | [] => some []
  | d :: r => match scD d, flats r with
    | some v, some vs => some (v :: vs)
    | _, _ => none
theorem flats_rep {w : Wd} : ∀ {l : List D} {vs xs : List V}, Reps t w l vs → flats l = some xs → vs = xs ∧ xs.all flatV = true
  | [], vs, xs, r, e => by
    simp only [flats] at e
    cases e
    simp only [Reps] at r
    subst r
    exact ⟨rfl, rfl⟩
  | d :: l, vs, xs, r, e => by
    simp only [flats] at e
    simp only [Reps] at r
    obtain ⟨v, vr, rfl, h1, h2⟩ := r
    split at e
    · rename_i a b q1 q2
      cases e
      obtain ⟨rfl, h3⟩ := flats_rep h2 q2
      have e1 := scD_rep h1 q1
      subst e1
      refine ⟨rfl, ?_⟩
      rw [List.all_cons, h3, Bool.and_true]
      cases d <;> simp only [scD, reduceCtorEq] at q1 <;> (injection q1 with q1; subst q1; rfl)
    · cases e
def inQB (x y : D) : Option Bool := match scD x, (match y with | .lst l => flats l | .tup l => flats l | _ => none) with
  | some v, some vs => some (inV v vs)
  | _, _ => none
def inQD : F2 := fun _ x y => (inQB x y).map D.bl
def notInQD : F2 := fun _ x y => (inQB x y).map fun b => D.bl (!b)
theorem inQ_rep {w : Wd} {H : Hp} {x y : D} {v u : V} {b : Bool} (hK : t.K = X.K) (hs : Same w.Hf H) (rx : Rep t w x v) (ry : Rep t w y u) (e : inQB x y = some b) :
    ∃ p xs, u = .ref p ∧ (SqL X.K H p xs ∨ SqT X.K H p xs) ∧ flatV v = true ∧ xs.all flatV = true ∧ b = inV v xs := by
  unfold inQB at e
  split at e
  · rename_i z zs h1 h2
    cases e
    have e1 := scD_rep rx h1
    subst e1
    have fv : flatV v = true := by
      cases x <;> simp only [scD, reduceCtorEq] at h1 <;> (injection h1 with h1; subst h1; rfl)
    split at h2
    · simp only [Rep] at ry
      obtain ⟨p, vs, rfl, q1, q2⟩ := ry
      obtain ⟨rfl, h3⟩ := flats_rep q2 h2
      exact ⟨p, vs, rfl, .inl (SqL.of (hs _ _ q1)), fv, h3, rfl⟩
    · simp only [Rep] at ry
      obtain ⟨p, vs, rfl, q1, q2⟩ := ry
      obtain ⟨rfl, h3⟩ := flats_rep q2 h2
      rw [hK] at q1
      exact ⟨p, vs, rfl, .inr (same_sqT hs q1), fv, h3, rfl⟩
    · cases h2
  · cases e
theorem bs_inQ (hK : t.K = X.K := by rfl) : BinS t inQD (rIn X.K false) := by
  intro w ah H x y d v u Q A rx ry e q
  unfold inQD at e
  cases h : inQB x y with
  | none => rw [h] at e; cases e
  | some b =>
    rw [h] at e
    cases e
    obtain ⟨p, xs, e1, h1, h2, h3, rfl⟩ := inQ_rep hK A.sub rx ry h
    exact ⟨p, xs, e1, h1, h2, h3, fin0 A q (by simp only [Rep, if_neg Bool.false_ne_true])⟩
theorem bs_notInQ (hK : t.K = X.K := by rfl) : BinS t notInQD (rIn X.K true) := by
  intro w ah H x y d v u Q A rx ry e q
  unfold notInQD at e
  cases h : inQB x y with
  | none => rw [h] at e; cases e
  | some b =>
    rw [h] at e
    cases e
    obtain ⟨p, xs, e1, h1, h2, h3, rfl⟩ := inQ_rep hK A.sub rx ry h
    exact ⟨p, xs, e1, h1, h2, h3, fin0 A q (by simp only [Rep, if_true])⟩
end
end G
/-! The engine, part 3: tests, arguments, displays, places, calls. -/
namespace G
open PySem PySem.Spec PyProof.Rows L2

section
variable {X : Cx} {t : Tb} {W : WX} {H0 : Bs}
/-! ### tests -/
def cAndT (a b : CT) : CT := fun env ah => (a env ah).bind fun c ah1 => if c = true then b env ah1 else .ok false ah1
def cOrT (a b : CT) : CT := fun env ah => (a env ah).bind fun c ah1 => if c = true then .ok true ah1 else b env ah1
def cNotT (a : CT) : CT := fun env ah => (a env ah).bind fun c ah1 => .ok (!c) ah1
variable {a b : Expr} {rest : List Expr} {pos : Pos} {ca cb : CT}
theorem q_and1 (ha : PT X a (tT t W H0 ca)) : PW X (.BoolOp .And [a] pos) (tT t W H0 ca) := pw_and1 ha
theorem q_or1 (ha : PT X a (tT t W H0 ca)) : PW X (.BoolOp .Or [a] pos) (tT t W H0 ca) := pw_or1 ha
theorem q_andT (ha : PT X a (tT t W H0 ca)) (hb : PW X (.BoolOp .And (b :: rest) pos) (tT t W H0 cb)) : PW X (.BoolOp .And (a :: b :: rest) pos) (tT t W H0 (cAndT ca cb)) := by
  refine PW.imp (pw_and ha hb) ?_
  rintro σ H Q ⟨w, env, ah, A, R, P⟩
  refine ⟨w, env, ah, A, R, post_bind P fun c ah1 w1 v H1 s1 A1 r1 P1 => ?_⟩
  subst r1
  cases c with
  | true =>
    rw [if_pos rfl] at P1
    exact iteT ⟨w1, env, ah1, A1, R.step s1, P1⟩
  | false =>
    rw [if_neg Bool.false_ne_true] at P1
    exact iteF (post_ok P1 A1 rfl)
theorem q_orT (ha : PT X a (tT t W H0 ca)) (hb : PW X (.BoolOp .Or (b :: rest) pos) (tT t W H0 cb)) : PW X (.BoolOp .Or (a :: b :: rest) pos) (tT t W H0 (cOrT ca cb)) := by
  refine PW.imp (pw_or ha hb) ?_
  rintro σ H Q ⟨w, env, ah, A, R, P⟩
  refine ⟨w, env, ah, A, R, post_bind P fun c ah1 w1 v H1 s1 A1 r1 P1 => ?_⟩
  subst r1
  cases c with
  | true =>
    rw [if_pos rfl] at P1
    exact iteT (post_ok P1 A1 rfl)
  | false =>
    rw [if_neg Bool.false_ne_true] at P1
    exact iteF ⟨w1, env, ah1, A1, R.step s1, P1⟩
theorem q_notT (ha : PT X a (tT t W H0 ca)) : PT X (.UnaryOp .Not a pos) (tT t W H0 (cNotT ca)) := by
  refine PT.imp (pt_not ha) ?_
  rintro σ H Q ⟨w, env, ah, A, R, P⟩
  refine ⟨w, env, ah, A, R, post_bind P fun c ah1 w1 v H1 s1 A1 r1 P1 => ?_⟩
  subst r1
  exact post_ok P1 A1 rfl
/-! ### and, or as values; if as a value -/
def cAnd (a b : CE) : CE := fun env ah => (a env ah).bind fun x ah1 => match x with
  | .bl true => b env ah1
  | .bl false => .ok (.bl false) ah1
  | _ => .bad
def cOr (a b : CE) : CE := fun env ah => (a env ah).bind fun x ah1 => match x with
  | .bl true => .ok (.bl true) ah1
  | .bl false => b env ah1
  | _ => .bad
def cIf (c : CT) (a b : CE) : CE := fun env ah => (c env ah).bind fun x ah1 => if x = true then a env ah1 else b env ah1
variable {xa xb xc : CE} {op : BoolOp}
theorem q_one (h : PE X a (tE t W H0 xa)) : PE X (.BoolOp op [a] pos) (tE t W H0 xa) := pe_one h
theorem q_and (ha : PE X a (tE t W H0 xa)) (hb : PE X (.BoolOp .And (b :: rest) pos) (tE t W H0 xb)) : PE X (.BoolOp .And (a :: b :: rest) pos) (tE t W H0 (cAnd xa xb)) := by
  refine PE.imp (pe_and ha hb) ?_
  rintro σ H Q ⟨w, env, ah, A, R, P⟩
  refine ⟨w, env, ah, A, R, post_bind P fun c ah1 w1 v H1 s1 A1 r1 P1 => ?_⟩
  cases c <;> first | exact False.elim P1 | skip
  rename_i k
  simp only [Rep] at r1
  refine ⟨k, r1, ?_⟩
  cases k with
  | true => exact iteT ⟨w1, env, ah1, A1, R.step s1, P1⟩
  | false => exact iteF (post_ok P1 A1 (by simp only [Rep]))
theorem q_or (ha : PE X a (tE t W H0 xa)) (hb : PE X (.BoolOp .Or (b :: rest) pos) (tE t W H0 xb)) : PE X (.BoolOp .Or (a :: b :: rest) pos) (tE t W H0 (cOr xa xb)) := by
  refine PE.imp (pe_or ha hb) ?_
  rintro σ H Q ⟨w, env, ah, A, R, P⟩
  refine ⟨w, env, ah, A, R, post_bind P fun c ah1 w1 v H1 s1 A1 r1 P1 => ?_⟩
  cases c <;> first | exact False.elim P1 | skip
  rename_i k
  simp only [Rep] at r1
  refine ⟨k, r1, ?_⟩
  cases k with
  | true => exact iteT (post_ok P1 A1 (by simp only [Rep]))
  | false => exact iteF ⟨w1, env, ah1, A1, R.step s1, P1⟩
theorem q_if {c : Expr} {cc : CT} (hc : PT X c (tT t W H0 cc)) (ha : PE X a (tE t W H0 xa)) (hb : PE X b (tE t W H0 xb)) : PE X (.IfExp c a b pos) (tE t W H0 (cIf cc xa xb)) := by
  refine PE.imp (pe_ifExp hc ha hb) ?_
  rintro σ H Q ⟨w, env, ah, A, R, P⟩
  refine ⟨w, env, ah, A, R, post_bind P fun c ah1 w1 v H1 s1 A1 r1 P1 => ?_⟩
  subst r1
  cases c with
  | true =>
    rw [if_pos rfl] at P1
    exact iteT ⟨w1, env, ah1, A1, R.step s1, P1⟩
  | false =>
    rw [if_neg Bool.false_ne_true] at P1
    exact iteF ⟨w1, env, ah1, A1, R.step s1, P1⟩
/-! ### a < b < c -/
def cChain (f g : F2) (a b c : CE) : CE := fun env ah => (a env ah).bind fun x ah1 => (b env ah1).bind fun y ah2 => match f ah2 x y with
  | some (.bl true) => (c env ah2).bind fun z ah3 => ofO (g ah3 y z) ah3
  | some (.bl false) => .ok (.bl false) ah2
  | _ => .bad
theorem chain_read {f g : F2} {r r' : R2} (hf : BinS t f r) (hg : BinS t g r') : ∀ σ H Q, tE t W H0 (cChain f g xa xb xc) σ H Q → tChain r r' (tE t W H0 xa) (tE t W H0 xb) (tE t W H0 xc) σ H Q := by
  rintro σ H Q ⟨w, env, ah, A, R, P⟩
  refine ⟨w, env, ah, A, R, post_bind P fun x ah1 w1 v H1 s1 A1 r1 P1 => ?_⟩
  refine ⟨w1, env, ah1, A1, R.step s1, post_bind P1 fun y ah2 w2 u H2 s2 A2 r2 P2 => ?_⟩
  cases e : f ah2 x y with
  | none => rw [e] at P2; exact False.elim P2
  | some d =>
    rw [e] at P2
    refine hf w2 ah2 H2 x y d v u _ A2 (Rep.mono s2.le x r1) r2 e fun w3 z H3 s3 A3 rz => ?_
    cases d <;> first | exact False.elim P2 | skip
    rename_i k
    simp only [Rep] at rz
    refine ⟨k, rz, ?_⟩
    cases k with
    | false => exact iteF (P2 w3 (.bl false) H3 s3 A3 (by simp only [Rep]))
    | true =>
      have P2' := Post.shift (show Post t (Rep t) w2 H2 ((xc env ah2).bind fun z ah3 => ofO (g ah3 y z) ah3) Q _ from P2) s3
      refine iteT ⟨w3, env, ah2, A3, ((R.step s1).step s2).step s3, post_bind P2' fun z ah3 w4 v4 H4 s4 A4 r4 P4 => ?_⟩
      cases e4 : g ah3 y z with
      | none => rw [e4] at P4; exact False.elim P4
      | some d4 =>
        rw [e4] at P4
        exact hg w4 ah3 H4 y z d4 u v4 _ A4 (Rep.mono (s3.le.trans s4.le) y r2) r4 e4 fun w' z' H' s' A' rz' => P4 w' z' H' s' A' rz'
theorem q_chain {o o' : CmpOp} {f g : F2} {r r' : R2} {c : Expr} (ho : OpR X (compareOp o) r) (ho' : OpR X (compareOp o') r') (hf : BinS t f r) (hg : BinS t g r') (ha : PE X a (tE t W H0 xa)) (hb : PE X b (tE t W H0 xb)) (hc : PE X c (tE t W H0 xc))
    (hm : lastMarks [o, o'] [b, c] = false := by with_unfolding_all rfl) : PE X (.Compare a [o, o'] [b, c] pos) (tE t W H0 (cChain f g xa xb xc)) := PE.imp (pe_chain ho ho' ha hb hc hm) (chain_read hf hg)
theorem q_tchain {o o' : CmpOp} {f g : F2} {r r' : R2} {c : Expr} (ho : OpR X (compareOp o) r) (ho' : OpR X (compareOp o') r') (hf : BinS t f r) (hg : BinS t g r') (ha : PE X a (tE t W H0 xa)) (hb : PE X b (tE t W H0 xb)) (hc : PE X c (tE t W H0 xc))
    (hm : lastMarks [o, o'] [b, c] = false := by with_unfolding_all rfl) : PT X (.Compare a [o, o'] [b, c] pos) (tT t W H0 (cTest (cChain f g xa xb xc))) := by
  refine PT.imp (pt_chain ho ho' ha hb hc hm) fun σ H Q h => ?_
  obtain ⟨w, env, ah, A, R, P⟩ := test_read σ H Q h
  exact chain_read hf hg σ H _ ⟨w, env, ah, A, R, P⟩

/-! ### arguments, displays -/
def cNil : CA := fun _ ah => .ok [] ah
def cCons (a : CE) (r : CA) : CA := fun env ah => (a env ah).bind fun x ah1 => (r env ah1).bind fun xs ah2 => .ok (x :: xs) ah2
theorem qa_nil : PA X [] (tAr t W H0 cNil) := by
  refine PA.imp pa_nil ?_
  rintro σ H Q ⟨w, env, ah, A, R, P⟩
  exact post_ok P A (by simp only [Reps])
theorem qa_cons {es : List Expr} {cr : CA} (ha : PE X a (tE t W H0 xa)) (hr : PA X es (tAr t W H0 cr)) (hs : starEach (a :: es) X.env = (false, eval a X.env) :: starEach es X.env := by rfl) : PA X (a :: es) (tAr t W H0 (cCons xa cr)) := by
  refine PA.imp (pa_cons ha hr hs) ?_
  rintro σ H Q ⟨w, env, ah, A, R, P⟩
  refine ⟨w, env, ah, A, R, post_bind P fun x ah1 w1 v H1 s1 A1 r1 P1 => ?_⟩
  refine ⟨w1, env, ah1, A1, R.step s1, post_bind P1 fun l ah2 w2 vs H2 s2 A2 r2 P2 => ?_⟩
  refine post_ok P2 A2 ?_
  simp only [Reps]
  exact ⟨v, vs, rfl, Rep.mono s2.le x r1, r2⟩
theorem le_line {n : Nat} (h : n ≤ 1000) : n ≤ sizeLine := Nat.le_trans h (by decide)
def cTup (a : CA) : CE := fun env ah => (a env ah).bind fun l ah1 => if l.length ≤ 1000 then .ok (.tup l) ah1 else .bad
def cLst (a : CA) : CE := fun env ah => (a env ah).bind fun l ah1 => if l.length ≤ 1000 then .ok (.lst l) ah1 else .bad
theorem q_tup {es : List Expr} {cr : CA} {x1} (h : PA X es (tAr t W H0 cr)) : PE X (.Tuple es x1 pos) (tE t W H0 (cTup cr)) := by
  refine PE.imp (pe_tup h) ?_
  rintro σ H Q ⟨w, env, ah, A, R, P⟩
  refine ⟨w, env, ah, A, R, post_bind P fun l ah1 w1 vs H1 s1 A1 r1 P1 => ?_⟩
  split at P1
  · rename_i hz
    refine ⟨le_line (by rw [← reps_len r1]; exact hz), fun p hp => ?_⟩
    obtain ⟨s, A'⟩ := stp_add (o := .tup vs) A1 hp
    refine P1 _ _ _ s A' ?_
    simp only [Rep]
    exact ⟨p, vs, rfl, SqT.of add_at, Reps.mono s.le _ r1⟩
  · exact False.elim P1
theorem q_lst {es : List Expr} {cr : CA} (h : PA X es (tAr t W H0 cr)) : PE X (.List es pos) (tE t W H0 (cLst cr)) := by
  refine PE.imp (pe_lst h) ?_
  rintro σ H Q ⟨w, env, ah, A, R, P⟩
  refine ⟨w, env, ah, A, R, post_bind P fun l ah1 w1 vs H1 s1 A1 r1 P1 => ?_⟩
  split at P1
  · rename_i hz
    refine ⟨le_line (by rw [← reps_len r1]; exact hz), fun p hp => ?_⟩
    obtain ⟨s, A'⟩ := stp_add (o := .lst vs) A1 hp
    refine P1 _ _ _ s A' ?_
    simp only [Rep]
    exact ⟨p, vs, rfl, add_at, Reps.mono s.le _ r1⟩
  · exact False.elim P1

/-! ### places -/
def idxD : F2 := fun _ x y => match x, y with
  | .lst l, .int i => atI l i
  | .scr l, .int i => atI l i
  | .tup l, .int i => atI l i
  | .str z, .int i => if z.length ≤ sizeLine then (atI z.cps.toList i).map fun c => .str ⟨#[c]⟩ else none
  | _, _ => none
theorem atI_reps {w : Wd} {l : List D} {vs : List V} {i : Int} {d : D} (r : Reps t w l vs) (e : atI l i = some d) : ∃ v, atI vs i = some v ∧ Rep t w d v := by
  unfold atI at e ⊢
  rw [← reps_len r]
  cases h : ixN l.length i with
  | none => rw [h] at e; cases e
  | some j =>
    rw [h] at e
    exact reps_get r e
theorem bs_idx (hK : t.K = X.K := by rfl) : BinS t idxD (rIx X.K) := by
  intro w ah H x y d v u Q A rx ry e q
  cases x <;> cases y <;> simp only [idxD, reduceCtorEq] at e <;> simp only [Rep] at rx ry
  · rename_i z i
    split at e
    · rename_i hz
      cases h : atI z.cps.toList i with
      | none => rw [h] at e; cases e
      | some c =>
        rw [h] at e
        cases e
        exact .inr (.inr ⟨z, i, c, rx, ry, hz, h, fin0 A q (by simp only [Rep])⟩)
    · cases e
  · rename_i l i
    obtain ⟨p, vs, rfl, h1, h2⟩ := rx
    obtain ⟨x, h3, h4⟩ := atI_reps h2 e
    rw [hK] at h1
    exact .inr (.inl ⟨p, vs, i, x, rfl, ry, same_sqT A.sub h1, h3, fin0 A q h4⟩)
  · rename_i l i
    obtain ⟨p, vs, rfl, h1, h2⟩ := rx
    obtain ⟨x, h3, h4⟩ := atI_reps h2 e
    exact .inl ⟨p, vs, i, x, rfl, ry, SqL.of (A.sub _ _ h1), h3, fin0 A q h4⟩
  · rename_i l i
    obtain ⟨p, vs, rfl, h1, h2⟩ := rx
    obtain ⟨x, h3, h4⟩ := atI_reps h2 e
    rw [hK] at h1
    exact .inl ⟨p, vs, i, x, rfl, ry, A.sub.seq h1, h3, fin0 A q h4⟩
theorem q_idx (ha : PE X a (tE t W H0 xa)) (hb : PE X b (tE t W H0 xb)) (hs : PlainIx b := by exact fun _ _ => rfl) (hK : t.K = X.K := by rfl) : PE X (.Subscript a b pos) (tE t W H0 (cBin idxD xa xb)) := PE.imp (pe_ix ix_seq ha hb hs) (bin_read (bs_idx hK))

/-! ### slices -/
abbrev CO := En → AH → Res (Option Int)
abbrev tO (t : Tb) (W : WX) (H0 : Bs) (c : CO) : TO := tR t W H0 (fun _ a b => a = b) c
def cNo : CO := fun _ ah => .ok none ah
def cPart (a : CE) : CO := fun env ah => (a env ah).bind fun x ah1 => match x with
  | .int i => .ok (some i) ah1
  | _ => .bad
theorem qo_none : PO X none (tO t W H0 cNo) := by
  refine ⟨fun pins s σ H Q I h => po_none.run pins s σ H Q I ?_⟩
  obtain ⟨w, env, ah, A, R, P⟩ := h
  exact post_ok P A rfl
theorem qo_some (ha : PE X a (tE t W H0 xa)) : PO X (some a) (tO t W H0 (cPart xa)) := by
  refine ⟨fun pins s σ H Q I h => (po_some ha).run pins s σ H Q I ?_⟩
  obtain ⟨w, env, ah, A, R, P⟩ := h
  refine ⟨w, env, ah, A, R, post_bind P fun x ah1 w1 v H1 s1 A1 r1 P1 => ?_⟩
  cases x <;> first | exact False.elim P1 | skip
  rename_i i
  simp only [Rep] at r1
  exact ⟨i, r1, post_ok P1 A1 rfl⟩
def cutD {α : Type} (xs : List α) (lo hi : Option Int) : List α := (xs.drop (HT.sIx xs.length 0 lo)).take (HT.sIx xs.length xs.length hi - HT.sIx xs.length 0 lo)
theorem reps_cut {w : Wd} {l : List D} {vs : List V} (r : Reps t w l vs) (lo hi : Option Int) : Reps t w (cutD l lo hi) (cutV vs lo hi) := by
  unfold cutD cutV
  rw [reps_len r]
  exact reps_take _ (reps_drop _ r)
def slD (x : D) (lo hi : Option Int) : Option D := match x with
  | .lst l => some (.lst (cutD l lo hi))
  | .scr l => some (.lst (cutD l lo hi))
  | .tup l => some (.tup (cutD l lo hi))
  | .str z => if z.length ≤ sizeLine then some (.str (cutS z lo hi)) else none
  | _ => none
def cSl (a : CE) (lo hi : CO) : CE := fun env ah => (a env ah).bind fun x ah1 => (lo env ah1).bind fun l ah2 => (hi env ah2).bind fun h ah3 => ofO (slD x l h) ah3
def rSlAll (K : PySem.W.Frag) : V → Option Int → Option Int → Hp → VK → Prop := fun x lo hi H Q => rSlL K x lo hi H Q ∨ rSlA K x lo hi H Q ∨ ∃ z, x = .str z ∧ z.length ≤ sizeLine ∧ Q (.str (cutS z lo hi)) H
theorem sl_all : SlR X (rSlAll X.K) := sl_list.or (sl_tupA.or sl_str)
theorem cut_whole {α : Type} {xs : List α} {lo hi : Option Int} (h : HT.sIx xs.length 0 lo = 0 ∧ HT.sIx xs.length xs.length hi = xs.length) : cutD xs lo hi = xs := by
  unfold cutD
  rw [h.1, h.2]
  simp
theorem q_slice {lo hi : Option Expr} {cl ch : CO} {p2 : Pos} (ha : PE X a (tE t W H0 xa)) (hl : PO X lo (tO t W H0 cl)) (hh : PO X hi (tO t W H0 ch)) (hK : t.K = X.K := by rfl) : PE X (.Subscript a (.Slice lo hi none p2) pos) (tE t W H0 (cSl xa cl ch)) := by
  refine PE.imp (pe_slice sl_all ha hl hh) ?_
  rintro σ H Q ⟨w, env, ah, A, R, P⟩
  refine ⟨w, env, ah, A, R, post_bind P fun x ah1 w1 v H1 s1 A1 r1 P1 => ?_⟩
  refine ⟨w1, env, ah1, A1, R.step s1, post_bind P1 fun l ah2 w2 l' H2 s2 A2 r2 P2 => ?_⟩
  subst r2
  refine ⟨w2, env, ah2, A2, (R.step s1).step s2, post_bind P2 fun h ah3 w3 h' H3 s3 A3 r3 P3 => ?_⟩
  subst r3
  have r1' := Rep.mono (s2.le.trans s3.le) x r1
  cases x <;> simp only [slD] at P3 <;> first | exact False.elim P3 | skip
  · rename_i z
    simp only [Rep] at r1'
    split at P3
    · rename_i hz
      exact .inr (.inr ⟨z, r1', hz, post_ok P3 A3 (by simp only [Rep])⟩)
    · exact False.elim P3
  · rename_i m
    simp only [Rep] at r1'
    obtain ⟨p, vs, rfl, q1, q2⟩ := r1'
    rw [hK] at q1
    refine .inr (.inl ⟨p, vs, rfl, same_sqT A3.sub q1, fun z => ?_, fun z pp hp => ?_⟩)
    · refine post_ok P3 A3 ?_
      simp only [Rep]
      refine ⟨p, vs, rfl, by rw [hK]; exact q1, ?_⟩
      rw [cut_whole (by rw [reps_len q2]; exact z)]
      exact q2
    · obtain ⟨s, A'⟩ := stp_add (o := .tup (cutV vs l h)) A3 hp
      refine P3 _ _ _ s A' ?_
      simp only [Rep]
      exact ⟨pp, _, rfl, SqT.of add_at, Reps.mono s.le _ (reps_cut q2 l h)⟩
  · rename_i m
    simp only [Rep] at r1'
    obtain ⟨p, vs, rfl, q1, q2⟩ := r1'
    refine .inl ⟨p, vs, rfl, SqL.of (A3.sub _ _ q1), fun pp hp => ?_⟩
    obtain ⟨s, A'⟩ := stp_add (o := .lst (cutV vs l h)) A3 hp
    refine P3 _ _ _ s A' ?_
    simp only [Rep]
    exact ⟨pp, _, rfl, add_at, Reps.mono s.le _ (reps_cut q2 l h)⟩
  · rename_i m
    simp only [Rep] at r1'
    obtain ⟨p, vs, rfl, q1, q2⟩ := r1'
    rw [hK] at q1
    refine .inl ⟨p, vs, rfl, A3.sub.seq q1, fun pp hp => ?_⟩
    obtain ⟨s, A'⟩ := stp_add (o := .lst (cutV vs l h)) A3 hp
    refine P3 _ _ _ s A' ?_
    simp only [Rep]
    exact ⟨pp, _, rfl, add_at, Reps.mono s.le _ (reps_cut q2 l h)⟩

/-! ### fields -/
def flIx (ns : List Str) (f : Str) : Option Nat := match ns with
  | [] => none
  | n :: r => if n = f then some 0 else (flIx r f).map (· + 1)
theorem flIx_zip {f : Str} : ∀ {ns : List Str} {vs : List V} {i : Nat} {v : V}, flIx ns f = some i → vs[i]? = some v → (ns.zip vs).lookup f = some v
  | [], vs, i, v, e, h => by cases e
  | n :: r, [], i, v, e, h => by simp at h
  | n :: r, y :: vs, i, v, e, h => by
    unfold flIx at e
    by_cases q : n = f
    · rw [if_pos q] at e
      cases e
      simp at h
      subst h q
      simp [List.lookup]
    · rw [if_neg q] at e
      cases e2 : flIx r f with
      | none => rw [e2] at e; cases e
      | some j =>
        rw [e2] at e
        cases e
        have hb : (f == n) = false := by simpa using fun z => q z.symm
        rw [List.zip_cons_cons, List.lookup_cons, hb]
        exact flIx_zip e2 (by simpa using h)
def fldD (fl : Nat → List Str) (f : Str) : AH → D → Option D := fun ah x => match x with
  | .obj c l => (flIx (fl c) f).bind fun i => l[i]?
  | .ref n => match ah[n]? with
    | some (.ins c l) => (flIx (fl c) f).bind fun i => l[i]?
    | _ => none
  | _ => none
def cFld (fl : Nat → List Str) (f : Str) (a : CE) : CE := cUn (fldD fl f) a
/-- what is known of the program's classes (their instances' fields, f among them) -/
def FldOk (t : Tb) (f : Str) : Prop := ∀ c i, flIx (t.fl c) f = some i → Cls t.K (t.cl c) ∧ NoAttr t.K (t.cl c) f
theorem q_fld {f : Str} (hf : FldOk t f) (ha : PE X a (tE t W H0 xa)) (hb : attributeBase a f X.env (eval a X.env) = eval a X.env := by rfl) (hK : t.K = X.K := by rfl) : PE X (.Attribute a f pos) (tE t W H0 (cFld t.fl f xa)) := by
  refine PE.imp (pe_fld ha hb) ?_
  rintro σ H Q ⟨w, env, ah, A, R, P⟩
  refine ⟨w, env, ah, A, R, post_bind P fun x ah1 w1 v H1 s1 A1 r1 P1 => ?_⟩
  rw [← hK]
  cases x <;> simp only [fldD] at P1 <;> first | exact False.elim P1 | skip
  · rename_i c l
    simp only [Rep] at r1
    obtain ⟨p, dx, vs, rfl, h1, h2, h3⟩ := r1
    cases hi : flIx (t.fl c) f with
    | none => rw [hi] at P1; exact False.elim P1
    | some i =>
      rw [hi, Option.bind_some] at P1
      cases hd : l[i]? with
      | none => rw [hd] at P1; exact False.elim P1
      | some d =>
        rw [hd] at P1
        obtain ⟨u, h4, h5⟩ := reps_get h3 hd
        exact ⟨p, t.cl c, dx, _, u, rfl, A1.sub _ _ h1, (hf c i hi).1, (hf c i hi).2, flIx_zip hi h4, post_ok P1 A1 h5⟩
  · rename_i n
    simp only [Rep] at r1
    obtain ⟨p, rfl, h1⟩ := r1
    cases hn : ah1[n]? with
    | none => rw [hn] at P1; exact False.elim P1
    | some o =>
      rw [hn] at P1
      cases o <;> simp only at P1 <;> first | exact False.elim P1 | skip
      rename_i c l
      obtain ⟨h0, dx, vs, h2, h6, h3⟩ := A1.obj n _ p hn h1
      cases hi : flIx (t.fl c) f with
      | none => rw [hi] at P1; exact False.elim P1
      | some i =>
        rw [hi, Option.bind_some] at P1
        cases hd : l[i]? with
        | none => rw [hd] at P1; exact False.elim P1
        | some d =>
          rw [hd] at P1
          obtain ⟨u, h4, h5⟩ := reps_get h3 hd
          exact ⟨p, t.cl c, dx, _, u, rfl, h2, (hf c i hi).1, (hf c i hi).2, flIx_zip hi h4, post_ok P1 A1 h5⟩
end
end G
/-! The engine, part 4: calls of built-ins, of defs; methods of built-in types; isinstance. -/
namespace G
open PySem PySem.Spec PyProof.Rows L2

section
variable {X : Cx} {t : Tb} {W : WX} {H0 : Bs} {xa xb : CE} {ca : CA} {a b e : Expr} {es : List Expr} {pos : Pos}
/-! ### built-ins by values -/
abbrev FL := AH → List D → Option D
def cCB (f : FL) (a : CA) : CE := fun env ah => (a env ah).bind fun l ah1 => ofO (f ah1 l) ah1
def CallS (t : Tb) (f : FL) (r : List V → Hp → VK → Prop) : Prop := ∀ w ah H l d vs Q, RelA t w ah H → Reps t w l vs → f ah l = some d → (∀ w' z H', Stp w H w' H' → RelA t w' ah H' → Rep t w' d z → Q z H') → r vs H Q
theorem cb_read {f : FL} {r : List V → Hp → VK → Prop} (hs : CallS t f r) : ∀ σ H Q, tE t W H0 (cCB f ca) σ H Q → tCB r (tAr t W H0 ca) σ H Q := by
  rintro σ H Q ⟨w, env, ah, A, R, P⟩
  refine ⟨w, env, ah, A, R, post_bind P fun x ah1 w1 v H1 s1 A1 r1 P1 => ?_⟩
  cases e : f ah1 x with
  | none => rw [e] at P1; exact False.elim P1
  | some d =>
    rw [e] at P1
    exact hs w1 ah1 H1 x d v _ A1 r1 e fun w' z H' s' A' rz => P1 w' z H' s' A' rz
theorem q_cb {f : FL} {r : List V → Hp → VK → Prop} {x : Str} {p : Pos} {id : String} (hc : CallR X (.builtin id) r) (hf : CallS t f r) (hm : X.mg x = none) (hv : bootBuiltins x = some (.builtin id)) (ha : PA X (e :: es) (tAr t W H0 ca)) (hg : Gl X x := by rfl) (hn : x ≠ "__name__" := by decide) (hdb : (x == ("__debug__" : Str)) = false := by decide)
    (he : starEach (e :: es) X.env = (false, eval e X.env) :: starEach es X.env := by rfl) (hpl : (backTo pos (starEach es X.env)).any (·.1) = false := by rfl) : PE X (.Call (.Name x p) (e :: es) [] pos) (tE t W H0 (cCB f ca)) :=
  PE.imp (pe_callB hc hg hm hv ha hn hdb he hpl) (cb_read hf)
theorem q_cty {f : FL} {r : List V → Hp → VK → Prop} {x : Str} {p : Pos} {T : String} (hc : CallR X (.type T) r) (hf : CallS t f r) (hm : X.mg x = none) (hv : bootBuiltins x = some (.type T)) (ha : PA X (e :: es) (tAr t W H0 ca)) (hg : Gl X x := by rfl) (hn : x ≠ "__name__" := by decide) (hdb : (x == ("__debug__" : Str)) = false := by decide)
    (he : starEach (e :: es) X.env = (false, eval e X.env) :: starEach es X.env := by rfl) (hpl : (backTo pos (starEach es X.env)).any (·.1) = false := by rfl) : PE X (.Call (.Name x p) (e :: es) [] pos) (tE t W H0 (cCB f ca)) :=
  PE.imp (pe_callTy hc hg hm hv ha hn hdb he hpl) (cb_read hf)
theorem reps1 {w : Wd} {d : D} {vs : List V} (h : Reps t w [d] vs) : ∃ v, vs = [v] ∧ Rep t w d v := by
  simp only [Reps] at h
  obtain ⟨v, r, rfl, h1, rfl⟩ := h
  exact ⟨v, rfl, h1⟩
theorem reps2 {w : Wd} {d d2 : D} {vs : List V} (h : Reps t w [d, d2] vs) : ∃ v v2, vs = [v, v2] ∧ Rep t w d v ∧ Rep t w d2 v2 := by
  simp only [Reps] at h
  obtain ⟨v, r, rfl, h1, v2, r2, rfl, h2, rfl⟩ := h
  exact ⟨v, v2, rfl, h1, h2⟩
def lenD : FL := fun _ l => match l with
  | [.str z] => if z.length ≤ sizeLine then some (.int z.length) else none
  | [.lst m] => some (.int m.length)
  | [.scr m] => some (.int m.length)
  | [.tup m] => some (.int m.length)
  | _ => none
theorem cs_len (hK : t.K = X.K := by rfl) : CallS t lenD (fun xs H Q => ∃ x n, xs = [x] ∧ LenV X.K x H n ∧ Q (.int n) H) := by
  intro w ah H l d vs Q A r e q
  unfold lenD at e
  split at e
  · rename_i z
    obtain ⟨v, rfl, r1⟩ := reps1 r
    simp only [Rep] at r1
    subst r1
    split at e
    · rename_i hz
      cases e
      exact ⟨_, z.length, rfl, ⟨hz, rfl⟩, fin0 A q (by simp only [Rep])⟩
    · cases e
  · rename_i m
    obtain ⟨v, rfl, r1⟩ := reps1 r
    simp only [Rep] at r1
    obtain ⟨p, us, rfl, h1, h2⟩ := r1
    cases e
    exact ⟨_, us.length, rfl, .inl ⟨us, SqL.of (A.sub _ _ h1), rfl⟩, fin0 A q (by simp only [Rep, reps_len h2])⟩
  · rename_i m
    obtain ⟨v, rfl, r1⟩ := reps1 r
    simp only [Rep] at r1
    obtain ⟨p, us, rfl, h1, h2⟩ := r1
    cases e
    rw [hK] at h1
    exact ⟨_, us.length, rfl, .inl ⟨us, A.sub.seq h1, rfl⟩, fin0 A q (by simp only [Rep, reps_len h2])⟩
  · rename_i m
    obtain ⟨v, rfl, r1⟩ := reps1 r
    simp only [Rep] at r1
    obtain ⟨p, us, rfl, h1, h2⟩ := r1
    cases e
    rw [hK] at h1
    exact ⟨_, us.length, rfl, .inr ⟨us, same_sqT A.sub h1, rfl⟩, fin0 A q (by simp only [Rep, reps_len h2])⟩
  · cases e
def absD : FL := fun _ l => match l with
  | [.int i] => some (.int (if i < 0 then -i else i))
  | _ => none
theorem cs_abs : CallS t absD (fun xs H Q => ∃ i, xs = [.int i] ∧ Q (.int (if i < 0 then -i else i)) H) := by
  intro w ah H l d vs Q A r e q
  unfold absD at e
  split at e
  · obtain ⟨v, rfl, r1⟩ := reps1 r
    simp only [Rep] at r1
    subst r1
    cases e
    exact ⟨_, rfl, fin0 A q (by simp only [Rep])⟩
  · cases e
def intD : FL := fun _ l => match l with
  | [.int i] => some (.int i)
  | [.bl b] => some (.int (if b then 1 else 0))
  | [.str z] => if z.length ≤ 640 then (PySem.intText? z).map D.int else none
  | _ => none
theorem call_intA : CallR X (.type "int") (fun xs H Q => ((∃ i, xs = [.int i] ∧ Q (.int i) H) ∨ ∃ k, xs = [.bl k] ∧ Q (.int (if k then 1 else 0)) H) ∨ ∃ a n, xs = [.str a] ∧ PySem.intText? a = some n ∧ a.length ≤ 640 ∧ Q (.int n) H) := call_int1.or call_int_str
theorem cs_int : CallS t intD (fun xs H Q => ((∃ i, xs = [.int i] ∧ Q (.int i) H) ∨ ∃ k, xs = [.bl k] ∧ Q (.int (if k then 1 else 0)) H) ∨ ∃ a n, xs = [.str a] ∧ PySem.intText? a = some n ∧ a.length ≤ 640 ∧ Q (.int n) H) := by
  intro w ah H l d vs Q A r e q
  unfold intD at e
  split at e
  · obtain ⟨v, rfl, r1⟩ := reps1 r
    simp only [Rep] at r1
    subst r1
    cases e
    exact .inl (.inl ⟨_, rfl, fin0 A q (by simp only [Rep])⟩)
  · obtain ⟨v, rfl, r1⟩ := reps1 r
    simp only [Rep] at r1
    subst r1
    cases e
    exact .inl (.inr ⟨_, rfl, fin0 A q (by simp only [Rep])⟩)
  · rename_i z
    obtain ⟨v, rfl, r1⟩ := reps1 r
    simp only [Rep] at r1
    subst r1
    split at e
    · rename_i hz
      cases h : PySem.intText? z with
      | none => rw [h] at e; cases e
      | some n =>
        rw [h] at e
        cases e
        exact .inr ⟨z, n, rfl, h, hz, fin0 A q (by simp only [Rep])⟩
    · cases e
  · cases e
def strD : FL := fun _ l => match l with
  | [.int i] => if i.natAbs.log2 < 1920 then some (.str (toString i)) else none
  | [.str z] => some (.str z)
  | _ => none
theorem cs_str : CallS t strD (fun xs H Q => (∃ i, xs = [.int i] ∧ i.natAbs.log2 < 1920 ∧ Q (.str (toString i)) H) ∨ ∃ a, xs = [.str a] ∧ Q (.str a) H) := by
  intro w ah H l d vs Q A r e q
  unfold strD at e
  split at e
  · obtain ⟨v, rfl, r1⟩ := reps1 r
    simp only [Rep] at r1
    subst r1
    split at e
    · rename_i hz
      cases e
      exact .inl ⟨_, rfl, hz, fin0 A q (by simp only [Rep])⟩
    · cases e
  · obtain ⟨v, rfl, r1⟩ := reps1 r
    simp only [Rep] at r1
    subst r1
    cases e
    exact .inr ⟨_, rfl, fin0 A q (by simp only [Rep])⟩
  · cases e
theorem call_strA : CallR X (.type "str") (fun xs H Q => (∃ i, xs = [.int i] ∧ i.natAbs.log2 < 1920 ∧ Q (.str (toString i)) H) ∨ ∃ a, xs = [.str a] ∧ Q (.str a) H) := call_str_int.or SkE.call_str_str
def listD : FL := fun _ l => match l with
  | [.lst m] => some (.lst m)
  | [.scr m] => some (.lst m)
  | [.tup m] => some (.lst m)
  | _ => none
theorem cs_list (hK : t.K = X.K := by rfl) : CallS t listD (fun xs H Q => ∃ p ys, xs = [.ref p] ∧ (SqL X.K H p ys ∨ SqT X.K H p ys) ∧ ∀ l, H l = none → Q (.ref l) (upd H l (.lst ys))) := by
  intro w ah H l d vs Q A r e q
  have fin : ∀ {m : List D} {us : List V} (p : Addr), H p = none → Reps t w m us → d = .lst m → Q (.ref p) (upd H p (.lst us)) := fun {m us} p hp r2 hd => by
    subst hd
    obtain ⟨s, A'⟩ := stp_add (o := .lst us) A hp
    refine q _ _ _ s A' ?_
    simp only [Rep]
    exact ⟨p, us, rfl, add_at, Reps.mono s.le _ r2⟩
  unfold listD at e
  split at e
  · obtain ⟨v, rfl, r1⟩ := reps1 r
    simp only [Rep] at r1
    obtain ⟨p, us, rfl, h1, h2⟩ := r1
    cases e
    exact ⟨p, us, rfl, .inl (SqL.of (A.sub _ _ h1)), fun l hl => fin l hl h2 rfl⟩
  · obtain ⟨v, rfl, r1⟩ := reps1 r
    simp only [Rep] at r1
    obtain ⟨p, us, rfl, h1, h2⟩ := r1
    cases e
    rw [hK] at h1
    exact ⟨p, us, rfl, .inl (A.sub.seq h1), fun l hl => fin l hl h2 rfl⟩
  · obtain ⟨v, rfl, r1⟩ := reps1 r
    simp only [Rep] at r1
    obtain ⟨p, us, rfl, h1, h2⟩ := r1
    cases e
    rw [hK] at h1
    exact ⟨p, us, rfl, .inr (same_sqT A.sub h1), fun l hl => fin l hl h2 rfl⟩
  · cases e
def tupD : FL := fun _ l => match l with
  | [.lst m] => some (.tup m)
  | [.scr m] => some (.tup m)
  | [.tup m] => some (.tup m)
  | _ => none
theorem cs_tuple (hK : t.K = X.K := by rfl) : CallS t tupD (fun xs H Q => ∃ p ys, xs = [.ref p] ∧ ((SqL X.K H p ys ∧ ∀ l, H l = none → Q (.ref l) (upd H l (.tup ys))) ∨ (SqT X.K H p ys ∧ Q (.ref p) H))) := by
  intro w ah H l d vs Q A r e q
  have fin : ∀ {m : List D} {us : List V} (p : Addr), H p = none → Reps t w m us → d = .tup m → Q (.ref p) (upd H p (.tup us)) := fun {m us} p hp r2 hd => by
    subst hd
    obtain ⟨s, A'⟩ := stp_add (o := .tup us) A hp
    refine q _ _ _ s A' ?_
    simp only [Rep]
    exact ⟨p, us, rfl, SqT.of add_at, Reps.mono s.le _ r2⟩
  unfold tupD at e
  split at e
  · obtain ⟨v, rfl, r1⟩ := reps1 r
    simp only [Rep] at r1
    obtain ⟨p, us, rfl, h1, h2⟩ := r1
    cases e
    exact ⟨p, us, rfl, .inl ⟨SqL.of (A.sub _ _ h1), fun l hl => fin l hl h2 rfl⟩⟩
  · obtain ⟨v, rfl, r1⟩ := reps1 r
    simp only [Rep] at r1
    obtain ⟨p, us, rfl, h1, h2⟩ := r1
    cases e
    rw [hK] at h1
    exact ⟨p, us, rfl, .inl ⟨A.sub.seq h1, fun l hl => fin l hl h2 rfl⟩⟩
  · obtain ⟨v, rfl, r1⟩ := reps1 r
    simp only [Rep] at r1
    obtain ⟨p, us, rfl, h1, h2⟩ := r1
    cases e
    refine ⟨p, us, rfl, .inr ⟨?_, ?_⟩⟩
    · rw [← hK]
      exact same_sqT A.sub h1
    · refine fin0 A q ?_
      simp only [Rep]
      exact ⟨p, us, rfl, h1, h2⟩
  · cases e
def max2D : FL := fun _ l => match l with
  | [.int i, .int j] => some (.int (if j > i then j else i))
  | _ => none
theorem cs_max2 : CallS t max2D (fun xs H Q => ∃ i j, xs = [.int i, .int j] ∧ Q (.int (if j > i then j else i)) H) := by
  intro w ah H l d vs Q A r e q
  unfold max2D at e
  split at e
  · obtain ⟨v, v2, rfl, r1, r2⟩ := reps2 r
    simp only [Rep] at r1 r2
    subst r1 r2
    cases e
    exact ⟨_, _, rfl, fin0 A q (by simp only [Rep])⟩
  · cases e
def min2D : FL := fun _ l => match l with
  | [.int i, .int j] => some (.int (if j < i then j else i))
  | _ => none
theorem cs_min2 : CallS t min2D (fun xs H Q => ∃ i j, xs = [.int i, .int j] ∧ Q (.int (if j < i then j else i)) H) := by
  intro w ah H l d vs Q A r e q
  unfold min2D at e
  split at e
  · obtain ⟨v, v2, rfl, r1, r2⟩ := reps2 r
    simp only [Rep] at r1 r2
    subst r1 r2
    cases e
    exact ⟨_, _, rfl, fin0 A q (by simp only [Rep])⟩
  · cases e
def blsD : List D → Option (List Bool)
  | [] => some []
  | .bl b :: r => (blsD r).map (b :: ·)
  | _ => none
theorem bls_rep {w : Wd} : ∀ {l : List D} {vs : List V} {bs : List Bool}, Reps t w l vs → blsD l = some bs → vs = bs.map V.bl
  | [], vs, bs, r, e => by
    simp only [blsD] at e
    cases e
    simp only [Reps] at r
    subst r
    rfl
  | d :: l, vs, bs, r, e => by
    simp only [Reps] at r
    obtain ⟨v, vr, rfl, h1, h2⟩ := r
    cases d <;> simp only [blsD, reduceCtorEq] at e
    rename_i b
    cases q : blsD l with
    | none => rw [q] at e; cases e
    | some cs =>
      rw [q] at e
      cases e
      simp only [Rep] at h1
      subst h1
      rw [bls_rep h2 q]
      rfl
def allD : FL := fun _ l => match l with
  | [.lst m] => (blsD m).map fun bs => .bl (bs.all id)
  | _ => none
def anyD : FL := fun _ l => match l with
  | [.lst m] => (blsD m).map fun bs => .bl (bs.any id)
  | _ => none
theorem cs_all (hK : t.K = X.K := by rfl) : CallS t allD (rAll X.K) := by
  intro w ah H l d vs Q A r e q
  unfold allD at e
  split at e
  · rename_i m
    obtain ⟨v, rfl, r1⟩ := reps1 r
    simp only [Rep] at r1
    obtain ⟨p, us, rfl, h1, h2⟩ := r1
    cases hb : blsD m with
    | none => rw [hb] at e; cases e
    | some bs =>
      rw [hb] at e
      cases e
      have eu := bls_rep h2 hb
      subst eu
      exact ⟨p, bs, rfl, SqL.of (A.sub _ _ h1), fin0 A q (by simp only [Rep])⟩
  · cases e
theorem cs_any (hK : t.K = X.K := by rfl) : CallS t anyD (rAny X.K) := by
  intro w ah H l d vs Q A r e q
  unfold anyD at e
  split at e
  · rename_i m
    obtain ⟨v, rfl, r1⟩ := reps1 r
    simp only [Rep] at r1
    obtain ⟨p, us, rfl, h1, h2⟩ := r1
    cases hb : blsD m with
    | none => rw [hb] at e; cases e
    | some bs =>
      rw [hb] at e
      cases e
      have eu := bls_rep h2 hb
      subst eu
      exact ⟨p, bs, rfl, SqL.of (A.sub _ _ h1), fin0 A q (by simp only [Rep])⟩
  · cases e

/-! ### defs -/
abbrev FD := List D → AH → Res D
/-- what a def promises: it does F -/
def spD (t : Tb) (F : FD) (n : Nat) : Sp := fun vs H Q E => vs.length = n ∧ ∃ w ds ah, RelA t w ah H ∧ Reps t w ds vs ∧ Post t (Rep t) w H (F ds ah) Q E
theorem spD_len {F : FD} {n : Nat} {ps : List Str} (h : n = ps.length) : ∀ vs H Q E, spD t F n vs H Q E → vs.length = ps.length := fun vs H Q E q => by rw [q.1, h]
def cCall (F : FD) (n : Nat) (dds : List D) (a : CA) : CE := fun env ah => (a env ah).bind fun l ah1 => if (l ++ dds).length = n then F (l ++ dds) ah1 else .bad
theorem call_read {F : FD} {n : Nat} {dds : List D} {dvs : List V} (hd : ∀ w, Reps t w dds dvs) : ∀ σ H Q, tE t W H0 (cCall F n dds ca) σ H Q → tCallSD (spD t F n) dvs (WE W) (tAr t W H0 ca) σ H Q := by
  rintro σ H Q ⟨w, env, ah, A, R, P⟩
  refine ⟨w, env, ah, A, R, post_bind P fun l ah1 w1 vs H1 s1 A1 r1 P1 => ?_⟩
  split at P1
  · rename_i hn
    refine ⟨?_, w1, l ++ dds, ah1, A1, reps_append r1 (hd w1), P1⟩
    rw [← hn, List.length_append, List.length_append, reps_len r1, reps_len (hd w1)]
  · exact False.elim P1
theorem q_call {F : FD} {n k : Nat} {f : Addr} {fd : FuncData} {ps : List Str} {dds : List D} {dvs : List V} {ds : List Value} {x : Str} {p : Pos} (hF : FnOk X.prog X.w X.K X.mg X.base (L2.CX X.prog X.w) k f fd ps (spD t F n)) (hr : Room k X.A) (hm : X.mg x = some (.ref f)) (hk : PySem.W.keepIn X.K (.ref f) = true)
    (hb : L2.Binds X.K fd ps ds) (hd : Vals dvs ds) (hdd : ∀ w, Reps t w dds dvs) (tk : Takes X W) (ha : PA X (e :: es) (tAr t W H0 ca)) (hg : Gl X x := by rfl) (hdb : (x == ("__debug__" : Str)) = false := by decide)
    (he : starEach (e :: es) X.env = (false, eval e X.env) :: starEach es X.env := by rfl) (hpl : (backTo pos (starEach es X.env)).any (·.1) = false := by rfl) : PE X (.Call (.Name x p) (e :: es) [] pos) (tE t W H0 (cCall F n dds ca)) :=
  PE.imp (pe_callSD hF hr hg hm hk hb hd (fun σ => passAt tk σ) ha hdb he hpl) (call_read hdd)
theorem pe_callSD0 {CX : CXT} {k : Nat} {f : Addr} {fd : FuncData} {ps : List Str} {sp : Sp} {dvs : List V} {ds : List Value} {E : L2.St → XK} {x : Str} {p : Pos} (F : FnOk X.prog X.w X.K X.mg X.base CX k f fd ps sp) (hr : Room k X.A) (hg : Gl X x) (hm : X.mg x = some (.ref f)) (hk : PySem.W.keepIn X.K (.ref f) = true) (hb : L2.Binds X.K fd ps ds) (hd : Vals dvs ds) (hx : ∀ σ, PassesAt CX X σ (E σ))
    (hdb : (x == ("__debug__" : Str)) = false := by decide) : PE X (.Call (.Name x p) [] [] pos) (tCallSD sp dvs E tNil) := by
  refine ⟨fun pins s σ H Q I h => ?_⟩
  refine wpAny_Call_Name_kw (ld_glob I hg hm ?_ hdb)
  exact PySem.W.callWith_K0 I.kIn hk (run_fnSD (us := []) F hr hb hd (hx σ) I .nil h)
theorem nil_read : ∀ σ H Q, tAr t W H0 cNil σ H Q → tNil σ H Q := by
  rintro σ H Q ⟨w, env, ah, A, R, P⟩
  exact post_ok P A (by simp only [Reps])
theorem q_call0 {F : FD} {n k : Nat} {f : Addr} {fd : FuncData} {ps : List Str} {dds : List D} {dvs : List V} {ds : List Value} {x : Str} {p : Pos} (hF : FnOk X.prog X.w X.K X.mg X.base (L2.CX X.prog X.w) k f fd ps (spD t F n)) (hr : Room k X.A) (hm : X.mg x = some (.ref f)) (hk : PySem.W.keepIn X.K (.ref f) = true)
    (hb : L2.Binds X.K fd ps ds) (hd : Vals dvs ds) (hdd : ∀ w, Reps t w dds dvs) (tk : Takes X W) (hg : Gl X x := by rfl) (hdb : (x == ("__debug__" : Str)) = false := by decide) : PE X (.Call (.Name x p) [] [] pos) (tE t W H0 (cCall F n dds cNil)) :=
  PE.imp (pe_callSD0 hF hr hg hm hk hb hd (fun σ => passAt tk σ) hdb) fun σ H Q h => nil_read σ H _ (call_read hdd σ H Q h)
end
end G
/-! The engine, part 5: statements, loops, comprehensions, the rule for a def. -/
namespace G
open PySem PySem.Spec PyProof.Rows L2

inductive SRes where
  | nx (env : En) (ah : AH) | rt (d : D) (ah : AH) | bk (env : En) (ah : AH) | ct (env : En) (ah : AH) | exc (c : Nat) (l : List D) (env : En) (ah : AH) | bad
abbrev CS := En → AH → SRes
def PostS (t : Tb) (W : WX) (w0 : Wd) (H0 : Bs) (w : Wd) (r : SRes) (Dn : Ends) : Prop := match r with
  | .nx env ah => ∀ w' σ H, Wle w w' → Stp w0 H0.H w' H → RelA t w' ah H → RelE t H0 w' env σ H → Dn.nx σ H
  | .rt d ah => ∀ w' v H, Wle w w' → Stp w0 H0.H w' H → RelA t w' ah H → Rep t w' d v → Dn.rt v H
  | .bk env ah => ∀ w' σ H, Wle w w' → Stp w0 H0.H w' H → RelA t w' ah H → RelE t H0 w' env σ H → Dn.bk σ H
  | .ct env ah => ∀ w' σ H, Wle w w' → Stp w0 H0.H w' H → RelA t w' ah H → RelE t H0 w' env σ H → Dn.ct σ H
  | .exc c l env ah => ∀ w' σ d H, Wle w w' → Stp w0 H0.H w' H → RelA t w' ah H → RelE t H0 w' env σ H → ExcD t w' c l d → W (.ref (t.cl c)) d σ H
  | .bad => False
theorem PostS.up {t : Tb} {W : WX} {w0 w w1 : Wd} {H0 : Bs} {r : SRes} {Dn : Ends} (p : PostS t W w0 H0 w r Dn) (l : Wle w w1) : PostS t W w0 H0 w1 r Dn := by
  cases r with
  | nx env ah => exact fun w' σ H l' => p w' σ H (l.trans l')
  | rt d ah => exact fun w' v H l' => p w' v H (l.trans l')
  | bk env ah => exact fun w' σ H l' => p w' σ H (l.trans l')
  | ct env ah => exact fun w' σ H l' => p w' σ H (l.trans l')
  | exc c m env ah => exact fun w' σ d H l' => p w' σ d H (l.trans l')
  | bad => exact p
def tS (t : Tb) (W : WX) (w0 : Wd) (H0 : Bs) (c : CS) : TS := fun Dn σ H => ∃ w env ah, Stp w0 H0.H w H ∧ RelA t w ah H ∧ RelE t H0 w env σ H ∧ PostS t W w0 H0 w (c env ah) Dn
/-- what a statement does with an expression's result -/
def SRes.of {α : Type} (env : En) (r : Res α) (k : α → AH → SRes) : SRes := match r with
  | .ok a ah => k a ah
  | .exc c l ah => .exc c l env ah
  | .bad => .bad
@[simp] theorem of_ok {α : Type} (env : En) (a : α) (ah : AH) (k : α → AH → SRes) : SRes.of env (.ok a ah) k = k a ah := rfl
@[simp] theorem of_exc {α : Type} (env : En) (c : Nat) (l : List D) (ah : AH) (k : α → AH → SRes) : SRes.of env (.exc c l ah : Res α) k = .exc c l env ah := rfl
@[simp] theorem of_bad {α : Type} (env : En) (k : α → AH → SRes) : SRes.of env (.bad : Res α) k = .bad := rfl
theorem post_of {t : Tb} {W : WX} {w0 w : Wd} {H0 : Bs} {H : Hp} {α β : Type} {R : Wd → α → β → Prop} {env : En} {σ : L2.St} {r : Res α} {k : α → AH → SRes} {Dn : Ends} {Y : β → Hp → Prop} (s0 : Stp w0 H0.H w H) (E : RelE t H0 w env σ H)
    (p : PostS t W w0 H0 w (SRes.of env r k) Dn) (g : ∀ a ah w' b H', Stp w H w' H' → Stp w0 H0.H w' H' → RelA t w' ah H' → RelE t H0 w' env σ H' → R w' a b → PostS t W w0 H0 w' (k a ah) Dn → Y b H') :
    Post t R w H r Y (fun cls d H' => W cls d σ H') := by
  cases r with
  | ok a ah => exact fun w' b H' s A rr => g a ah w' b H' s (s0.trans s) A (E.step s) rr (PostS.up (show PostS t W w0 H0 w (k a ah) Dn from p) s.le)
  | exc c l ah => exact fun w' d H' s A x => p w' σ d H' s.le (s0.trans s) A (E.step s) x
  | bad => exact p

/-! ### slots -/
theorem relE_set {t : Tb} {H0 : Bs} {H : Hp} {w : Wd} {env : En} {σ : L2.St} {i : Nat} {s : Sl} {x : Option V} (E : RelE t H0 w env σ H) (hs : SlOk t H0 w s (some x) H)
    (hd : ∀ o j p a, s = .own o → i ≠ j → env[j]? = some (.own p) → σ[j]? = some (some (.ref a)) → x ≠ some (.ref a)) : RelE t H0 w (env.set i s) (σ.set i x) H := by
  refine ⟨by rw [List.length_set, List.length_set, E.len], fun j u e => ?_, fun j k o p a hjk e1 e2 e3 e4 => ?_⟩
  · by_cases h : i = j
    · subst h
      have hi : i < env.length := by
        by_cases h : i < env.length
        · exact h
        · rw [List.getElem?_eq_none (by rw [List.length_set]; omega)] at e
          cases e
      rw [List.getElem?_set_self hi] at e
      rw [List.getElem?_set_self (by rw [← E.len]; exact hi)]
      cases e
      exact hs
    · rw [List.getElem?_set_ne h] at e ⊢
      exact E.slot j u e
  · by_cases h1 : i = j
    · subst h1
      have hi : i < env.length := by
        by_cases h : i < env.length
        · exact h
        · rw [List.getElem?_eq_none (by rw [List.length_set]; omega)] at e1
          cases e1
      rw [List.getElem?_set_self hi] at e1
      rw [List.getElem?_set_self (by rw [← E.len]; exact hi)] at e3
      rw [List.getElem?_set_ne hjk] at e2 e4
      cases e1
      exact hd o k p a rfl hjk e2 e4 (Option.some.inj e3)
    · by_cases h2 : i = k
      · subst h2
        have hi : i < env.length := by
          by_cases h : i < env.length
          · exact h
          · rw [List.getElem?_eq_none (by rw [List.length_set]; omega)] at e2
            cases e2
        rw [List.getElem?_set_self hi] at e2
        rw [List.getElem?_set_self (by rw [← E.len]; exact hi)] at e4
        rw [List.getElem?_set_ne h1] at e1 e3
        cases e2
        exact hd p j o a rfl (Ne.symm hjk) e1 e3 (Option.some.inj e4)
      · rw [List.getElem?_set_ne h1] at e1 e3
        rw [List.getElem?_set_ne h2] at e2 e4
        exact E.dist j k o p a hjk e1 e2 e3 e4
theorem relE_val {t : Tb} {H0 : Bs} {H : Hp} {w : Wd} {env : En} {σ : L2.St} {i : Nat} {d : D} {v : V} (E : RelE t H0 w env σ H) (r : Rep t w d v) : RelE t H0 w (env.set i (.val d)) (σ.set i (some v)) H :=
  relE_set E ⟨v, rfl, r⟩ fun o j p a e => by cases e
theorem relE_no {t : Tb} {H0 : Bs} {H : Hp} {w : Wd} {env : En} {σ : L2.St} {i : Nat} {x : Option V} (E : RelE t H0 w env σ H) : RelE t H0 w (env.set i .no) (σ.set i x) H :=
  relE_set E trivial fun o j p a e => by cases e

section
variable {X : Cx} {t : Tb} {W : WX} {w0 : Wd} {H0 : Bs} {xa xb : CE} {ca : CA} {a b e : Expr} {es : List Expr} {pos : Pos} {st : Stmt} {rest : List Stmt} {c1 c2 : CS}
/-! ### blocks -/
def cSkip : CS := fun env ah => .nx env ah
def cSeq (a b : CS) : CS := fun env ah => match a env ah with
  | .nx env' ah' => b env' ah'
  | r => r
theorem z_nil : PSs X [] (tS t W w0 H0 cSkip) := by
  refine PSs.imp pss_nil ?_
  rintro Dn σ H ⟨w, env, ah, s, A, E, P⟩
  exact P w σ H (Wle.refl _) s A E
theorem z_cons (h1 : PS X st (tS t W w0 H0 c1)) (h2 : PSs X rest (tS t W w0 H0 c2)) : PSs X (st :: rest) (tS t W w0 H0 (cSeq c1 c2)) := by
  refine PSs.imp (pss_cons h1 h2) ?_
  rintro Dn σ H ⟨w, env, ah, s, A, E, P⟩
  refine ⟨w, env, ah, s, A, E, ?_⟩
  unfold cSeq at P
  cases e : c1 env ah with
  | nx env' ah' =>
    rw [e] at P
    exact fun w' σ' H' l' s' A' E' => ⟨w', env', ah', s', A', E', PostS.up P l'⟩
  | rt d ah' => rw [e] at P; exact P
  | bk env' ah' => rw [e] at P; exact P
  | ct env' ah' => rw [e] at P; exact P
  | exc c l env' ah' => rw [e] at P; exact P
  | bad => rw [e] at P; exact P
theorem z_one (h1 : PS X st (tS t W w0 H0 c1)) : PSs X [st] (tS t W w0 H0 c1) := pss_one h1
theorem z_pass : PS X (.Pass pos) (tS t W w0 H0 cSkip) := by
  refine PS.imp ps_pass ?_
  rintro Dn σ H ⟨w, env, ah, s, A, E, P⟩
  exact P w σ H (Wle.refl _) s A E
def cBrk : CS := fun env ah => .bk env ah
def cCnt : CS := fun env ah => .ct env ah
theorem z_break : PS X (.Break pos) (tS t W w0 H0 cBrk) := by
  refine PS.imp ps_break ?_
  rintro Dn σ H ⟨w, env, ah, s, A, E, P⟩
  exact P w σ H (Wle.refl _) s A E
theorem z_continue : PS X (.Continue pos) (tS t W w0 H0 cCnt) := by
  refine PS.imp ps_continue ?_
  rintro Dn σ H ⟨w, env, ah, s, A, E, P⟩
  exact P w σ H (Wle.refl _) s A E
theorem z_doc {x j pos'} : PS X (.Expr (.Constant (.str x) j pos') pos) (tS t W w0 H0 cSkip) := by
  refine PS.imp ps_doc ?_
  rintro Dn σ H ⟨w, env, ah, s, A, E, P⟩
  exact P w σ H (Wle.refl _) s A E
def cExpr (a : CE) : CS := fun env ah => SRes.of env (a env ah) fun _ ah1 => .nx env ah1
theorem z_expr (ha : PE X a (tE t W H0 xa)) (hs : swapsWith a none pos.line X.env = pure false := by rfl) : PS X (.Expr a pos) (tS t W w0 H0 (cExpr xa)) := by
  refine PS.imp (ps_expr ha hs) ?_
  rintro Dn σ H ⟨w, env, ah, s, A, E, P⟩
  exact ⟨w, env, ah, A, E, post_of s E P fun d ah1 w1 v H1 s1 s01 A1 E1 r1 P1 => P1 w1 σ H1 (Wle.refl _) s01 A1 E1⟩
def cRet (a : CE) : CS := fun env ah => SRes.of env (a env ah) fun d ah1 => .rt d ah1
theorem z_ret (ha : PE X a (tE t W H0 xa)) : PS X (.Return (some a) pos) (tS t W w0 H0 (cRet xa)) := by
  refine PS.imp (ps_ret ha) ?_
  rintro Dn σ H ⟨w, env, ah, s, A, E, P⟩
  exact ⟨w, env, ah, A, E, post_of s E P fun d ah1 w1 v H1 s1 s01 A1 E1 r1 P1 => P1 w1 v H1 (Wle.refl _) s01 A1 r1⟩
def cRetN : CS := fun env ah => .rt .non ah
theorem z_retN : PS X (.Return none pos) (tS t W w0 H0 cRetN) := by
  refine PS.imp ps_retN ?_
  rintro Dn σ H ⟨w, env, ah, s, A, E, P⟩
  exact P w .non H (Wle.refl _) s A (by simp only [Rep])
def cIfS (c : CT) (a b : CS) : CS := fun env ah => SRes.of env (c env ah) fun k ah1 => if k = true then a env ah1 else b env ah1
theorem z_if {c : Expr} {l m : List Stmt} {cc : CT} (hc : PT X c (tT t W H0 cc)) (ha : PSs X l (tS t W w0 H0 c1)) (hb : PSs X m (tS t W w0 H0 c2)) : PS X (.If c l m pos) (tS t W w0 H0 (cIfS cc c1 c2)) := by
  refine PS.imp (ps_if hc ha hb) ?_
  rintro Dn σ H ⟨w, env, ah, s, A, E, P⟩
  refine ⟨w, env, ah, A, E, post_of s E P fun k ah1 w1 k' H1 s1 s01 A1 E1 r1 P1 => ?_⟩
  subst r1
  cases k with
  | true =>
    rw [if_pos rfl] at P1
    exact iteT ⟨w1, env, ah1, s01, A1, E1, P1⟩
  | false =>
    rw [if_neg Bool.false_ne_true] at P1
    exact iteF ⟨w1, env, ah1, s01, A1, E1, P1⟩

/-! ### names stored -/
abbrev TgD := D → En → Option En
/-- a target does what f says -/
def TgS (t : Tb) (is : List Nat) (f : TgD) (g : TG) : Prop := ∀ H0 w ah env env' σ H d v Q, RelA t w ah H → RelE t H0 w env σ H → Rep t w d v → f d env = some env' →
  (∀ σ', RelE t H0 w env' σ' H → σ'.length = σ.length → (∀ j, j ∉ is → σ'[j]? = σ[j]?) → Q σ' H) → g v σ H Q
def gN (i : Nat) : TgD := fun d env => some (env.set i (.val d))
theorem tg_name (i : Nat) : TgS t [i] (gN i) (gName i) := by
  intro H0 w ah env env' σ H d v Q A E r e q
  cases e
  exact q _ (relE_val E r) List.length_set fun j hj => List.getElem?_set_ne (fun z => hj (by rw [z]; exact List.mem_singleton.mpr rfl))
def gNs : List Nat → List D → En → Option En
  | [], [], env => some env
  | i :: is, d :: ds, env => gNs is ds (env.set i (.val d))
  | _, _, _ => none
def gTupN (is : List Nat) : TgD := fun d env => match d with
  | .tup l => gNs is l env
  | _ => none
def gSeq : List Nat → TGs
  | [] => gNil
  | i :: r => gCons (gName i) (gSeq r)
theorem tgs_names : ∀ (is : List Nat) {H0 w ah env env' σ H} {ds : List D} {vs : List V} {Q : L2.St → Hp → Prop}, RelA t w ah H → RelE t H0 w env σ H → Reps t w ds vs → gNs is ds env = some env' →
    (∀ σ', RelE t H0 w env' σ' H → σ'.length = σ.length → (∀ j, j ∉ is → σ'[j]? = σ[j]?) → Q σ' H) → gSeq is vs σ H Q
  | [], H0, w, ah, env, env', σ, H, ds, vs, Q, A, E, r, e, q => by
    cases ds with
    | nil =>
      simp only [Reps] at r
      cases e
      exact ⟨r, q σ E rfl fun _ _ => rfl⟩
    | cons d ds => cases e
  | i :: is, H0, w, ah, env, env', σ, H, ds, vs, Q, A, E, r, e, q => by
    cases ds with
    | nil => cases e
    | cons d ds =>
      simp only [Reps] at r
      obtain ⟨v, vr, rfl, r1, r2⟩ := r
      refine ⟨v, vr, rfl, tgs_names is A (relE_val E r1) r2 e fun σ' E' hl hj => q σ' E' (by rw [hl, List.length_set]) fun j hn => ?_⟩
      rw [hj j (fun z => hn (List.mem_cons_of_mem _ z)), List.getElem?_set_ne (fun z => hn (by rw [z]; exact List.mem_cons_self ..))]
theorem gNs_len : ∀ (is : List Nat) {ds : List D} {env env' : En}, gNs is ds env = some env' → ds.length = is.length
  | [], [], env, env', e => rfl
  | [], d :: ds, env, env', e => by cases e
  | i :: is, [], env, env', e => by cases e
  | i :: is, d :: ds, env, env', e => by
    rw [List.length_cons, List.length_cons, gNs_len is (env := env.set i (.val d)) e]
theorem tg_tup (is : List Nat) : TgS t is (gTupN is) (gTup t.K is.length (gSeq is)) := by
  intro H0 w ah env env' σ H d v Q A E r e q
  unfold gTupN at e
  split at e
  · rename_i l
    simp only [Rep] at r
    obtain ⟨p, vs, rfl, h1, h2⟩ := r
    exact ⟨p, vs, rfl, same_sqT A.sub h1, by rw [← reps_len h2, gNs_len is e], tgs_names is A E h2 e q⟩
  · cases e
theorem pgs_names1 {i : Nat} {x : Str} {is : List Nat} {p : Pos} {r : List Expr} (hN : X.N.Nodup) (h2 : PGs X r (gSeq is)) (hi : X.N[i]? = some x := by rfl) (hx : Loc X.env.scope x := by first | exact Or.inl rfl | exact Or.inr rfl) (hs : (assignEach (.Name x p :: r) X.env).map (·.2) = assign (.Name x p) X.env :: (assignEach r X.env).map (·.2) := by rfl)
    (hf : X.fn x = true ∨ X.env.scope.names.lookup x = some .local := by first | exact .inl rfl | exact .inr rfl | assumption) : PGs X (.Name x p :: r) (gSeq (i :: is)) := pgs_cons (pg_name hN hi hx hf) h2 hs
theorem pgs_names0 : PGs X [] (gSeq []) := pgs_nil
def cAsg (f : TgD) (a : CE) : CS := fun env ah => SRes.of env (a env ah) fun d ah1 => match f d env with
  | some env' => .nx env' ah1
  | none => .bad
theorem asg_read {is : List Nat} {f : TgD} {g : TG} (hf : TgS t is f g) : ∀ Dn σ H, tS t W w0 H0 (cAsg f xa) Dn σ H → tAsg (tE t W H0 xa) g Dn σ H := by
  rintro Dn σ H ⟨w, env, ah, s, A, E, P⟩
  refine ⟨w, env, ah, A, E, post_of s E P fun d ah1 w1 v H1 s1 s01 A1 E1 r1 P1 => ?_⟩
  cases e : f d env with
  | none => rw [e] at P1; exact False.elim P1
  | some env' =>
    rw [e] at P1
    exact hf H0 w1 ah1 env env' σ H1 d v Dn.nx A1 E1 r1 e fun σ' E' _ _ => P1 w1 σ' H1 (Wle.refl _) s01 A1 E'
theorem z_asg {tg : Expr} {is : List Nat} {f : TgD} {g : TG} (hf : TgS t is f g) (ha : PE X a (tE t W H0 xa)) (hg : PG X tg g) (hs : swapsWithSole [tg] a pos.line X.env = pure false := by rfl) (hw : swappedStores [tg] a X.env = pure none := by rfl)
    (h1 : (assignEach [tg] X.env).map (·.2) = [assign tg X.env] := by rfl) : PS X (.Assign [tg] a pos) (tS t W w0 H0 (cAsg f xa)) := PS.imp (ps_asg ha hg hs hw h1) (asg_read hf)
/-- x = e -/
theorem z_set (i : Nat) {x : Str} {pos' : Pos} (hN : X.N.Nodup) (ha : PE X a (tE t W H0 xa)) (hi : X.N[i]? = some x := by rfl) (hx : Loc X.env.scope x := by first | exact Or.inl rfl | exact Or.inr rfl) (hs : swapsWith a (some (.Name x pos')) pos.line X.env = pure false := by rfl) (hf : X.fn x = true ∨ X.env.scope.names.lookup x = some .local := by first | exact .inl rfl | exact .inr rfl | assumption) :
    PS X (.Assign [.Name x pos'] a pos) (tS t W w0 H0 (cAsg (gN i) xa)) := PS.imp (ps_set hN hi hx ha hs hf) (asg_read (tg_name i))
/-- a, b = x, y -/
def cPar (i j : Nat) (a : CA) : CS := fun env ah => SRes.of env (a env ah) fun l ah1 => match l with
  | [x, y] => .nx ((env.set i (.val x)).set j (.val y)) ah1
  | _ => .bad
theorem z_par (i j : Nat) {x y : Str} {px py pt : Pos} {kt k2 pt2} (hc : X.calm = true) (hN : X.N.Nodup) (ha : PA X [a, b] (tAr t W H0 ca)) (hij : i ≠ j := by decide) (hi : X.N[i]? = some x := by rfl) (hj : X.N[j]? = some y := by rfl)
    (hx : X.env.scope.names.lookup x = some .local := by rfl) (hy : X.env.scope.names.lookup y = some .local := by rfl)
    (hw : swappedStores [.Tuple [.Name x px, .Name y py] kt pt] (.Tuple [a, b] k2 pt2) X.env = pure (some [x, y]) := by rfl)
    (hs : swapsWithSole [.Tuple [.Name x px, .Name y py] kt pt] (.Tuple [a, b] k2 pt2) pos.line X.env = pure false := by rfl) :
    PS X (.Assign [.Tuple [.Name x px, .Name y py] kt pt] (.Tuple [a, b] k2 pt2) pos) (tS t W w0 H0 (cPar i j ca)) := by
  refine PS.imp (ps_par hc hN hi hj hij hx hy ha hw hs) ?_
  rintro Dn σ H ⟨w, env, ah, s, A, E, P⟩
  refine ⟨w, env, ah, A, E, post_of s E P fun l ah1 w1 vs H1 s1 s01 A1 E1 r1 P1 => ?_⟩
  split at P1
  · rename_i d1 d2
    simp only [Reps] at r1
    obtain ⟨v, vr, rfl, q1, v2, vr2, rfl, q2, rfl⟩ := r1
    exact ⟨v, v2, rfl, P1 w1 _ H1 (Wle.refl _) s01 A1 (relE_val (relE_val E1 q1) q2)⟩
  · exact False.elim P1

/-! ### while -/
/-- runs of a loop, at most n turns -/
def whL (c : CT) (b : CS) : Nat → En → AH → SRes
  | 0, _, _ => .bad
  | n + 1, env, ah => SRes.of env (c env ah) fun k ah1 => if k = true then (match b env ah1 with
      | .nx env' ah' => whL c b n env' ah'
      | .ct env' ah' => whL c b n env' ah'
      | .bk env' ah' => .nx env' ah'
      | r => r) else .nx env ah1
open Classical in
noncomputable def cWhile (c : CT) (b : CS) : CS := fun env ah => if h : ∃ n, whL c b n env ah ≠ .bad then whL c b h.choose env ah else .bad
theorem whL_more {c : CT} {b : CS} : ∀ (n : Nat) (env : En) (ah : AH), whL c b n env ah ≠ .bad → ∀ m, n ≤ m → whL c b m env ah = whL c b n env ah
  | 0, env, ah, h, m, hm => absurd rfl h
  | n + 1, env, ah, h, m, hm => by
    obtain ⟨m, rfl⟩ : ∃ k, m = k + 1 := ⟨m - 1, by omega⟩
    unfold whL at h ⊢
    cases hc : c env ah with
    | exc _ _ _ => rfl
    | bad => rfl
    | ok k ah1 =>
      rw [hc] at h
      simp only [of_ok] at h ⊢
      cases k with
      | false => rfl
      | true =>
        simp only [if_true] at h ⊢
        cases hb : b env ah1 with
        | nx env' ah' =>
          rw [hb] at h
          exact whL_more n env' ah' h m (by omega)
        | ct env' ah' =>
          rw [hb] at h
          exact whL_more n env' ah' h m (by omega)
        | _ => rfl
theorem while_eq {c : CT} {b : CS} {n : Nat} {env : En} {ah : AH} {r : SRes} (h : whL c b n env ah = r) (hr : r ≠ .bad) : cWhile c b env ah = r := by
  have he : ∃ n, whL c b n env ah ≠ .bad := ⟨n, by rw [h]; exact hr⟩
  unfold cWhile
  rw [dif_pos he]
  have h1 := he.choose_spec
  rcases Nat.le_total n he.choose with q | q
  · rw [whL_more n env ah (by rw [h]; exact hr) _ q, h]
  · rw [← whL_more he.choose env ah h1 n q, h]
theorem z_while {c : Expr} {body : List Stmt} {cc : CT} (hp : PassesOwn (model X.prog X.w) X.A X.env X.xe) (hc : PT X c (tT t W H0 cc)) (hb : PSs X body (tS t W w0 H0 c1)) : PS X (.While c body [] pos) (tS t W w0 H0 (cWhile cc c1)) := by
  refine PS.imp (ps_while hp hc hb) ?_
  rintro Dn σ H ⟨w, env, ah, s, A, E, P⟩
  by_cases he : ∃ n, whL cc c1 n env ah ≠ .bad
  · obtain ⟨n, hn⟩ := he
    rw [while_eq (n := n) rfl hn] at P
    refine ⟨fun m σ H => ∃ w env ah, Stp w0 H0.H w H ∧ RelA t w ah H ∧ RelE t H0 w env σ H ∧ PostS t W w0 H0 w (whL cc c1 m env ah) Dn, ⟨n, w, env, ah, s, A, E, P⟩, ?_⟩
    rintro m σ H ⟨w, env, ah, s, A, E, P⟩
    cases m with
    | zero => exact False.elim P
    | succ m =>
      refine ⟨w, env, ah, A, E, post_of s E P fun k ah1 w1 k' H1 s1 s01 A1 E1 r1 P1 => ?_⟩
      subst r1
      cases k with
      | false => exact iteF (P1 w1 σ H1 (Wle.refl _) s01 A1 E1)
      | true =>
        refine iteT ⟨fun σ' H' => ∃ w env ah, Stp w0 H0.H w H' ∧ RelA t w ah H' ∧ RelE t H0 w env σ' H' ∧ PostS t W w0 H0 w (whL cc c1 m env ah) Dn, fun σ' H' q => ⟨m, Nat.lt_succ_self m, q⟩, w1, env, ah1, s01, A1, E1, ?_⟩
        simp only [if_true] at P1
        cases hb : c1 env ah1 with
        | nx env' ah' =>
          rw [hb] at P1
          exact fun w' σ' H' l' s' A' E' => ⟨w', env', ah', s', A', E', PostS.up P1 l'⟩
        | ct env' ah' =>
          rw [hb] at P1
          exact fun w' σ' H' l' s' A' E' => ⟨w', env', ah', s', A', E', PostS.up P1 l'⟩
        | bk env' ah' => rw [hb] at P1; exact P1
        | rt d ah' => rw [hb] at P1; exact P1
        | exc c l env' ah' => rw [hb] at P1; exact P1
        | bad => rw [hb] at P1; exact False.elim P1
  · unfold cWhile at P
    rw [dif_neg he] at P
    exact False.elim P

/-! ### for -/
/-- what is walked: it yields the items -/
structure Wlk (t : Tb) (w : Wd) (items : List D) (J : It) : Prop where
  ex : ∃ (G : Hp → Prop) (Y : Nat → Hp → V → Hp → Prop), Walk J items.length G Y ∧ (∀ w' ah H, Wle w w' → RelA t w' ah H → G H) ∧
    ∀ w' ah H i x H', Wle w w' → RelA t w' ah H → i < items.length → Y i H x H' → ∃ w2 d, Stp w' H w2 H' ∧ RelA t w2 ah H' ∧ items[i]? = some d ∧ Rep t w2 d x
theorem Wlk.mono {w w' : Wd} {items : List D} {J : It} (h : Wlk t w items J) (le : Wle w w') : Wlk t w' items J := by
  obtain ⟨G, Y, h1, h2, h3⟩ := h.ex
  exact ⟨G, Y, h1, fun w2 ah H l A => h2 w2 ah H (le.trans l) A, fun w2 ah H i x H' l A => h3 w2 ah H i x H' (le.trans l) A⟩
abbrev CIt := En → AH → Res (List D)
abbrev tI (t : Tb) (W : WX) (H0 : Bs) (c : CIt) : TI := tR t W H0 (Wlk t) c
def forL (f : TgD) (b : CS) : List D → En → AH → SRes
  | [], env, ah => .nx env ah
  | d :: r, env, ah => match f d env with
    | none => .bad
    | some env1 => match b env1 ah with
      | .nx env' ah' => forL f b r env' ah'
      | .ct env' ah' => forL f b r env' ah'
      | .bk env' ah' => .nx env' ah'
      | r => r
def cFor (it : CIt) (f : TgD) (b : CS) : CS := fun env ah => SRes.of env (it env ah) fun l ah1 => forL f b l env ah1
theorem z_for {tg iter : Expr} {body : List Stmt} {it : CIt} {is : List Nat} {f : TgD} {g : TG} (hp : PassesOwn (model X.prog X.w) X.A X.env X.xe) (hc : X.calm = true) (hf : TgS t is f g) (hi : PI X tg iter (tI t W H0 it)) (hg : PG X tg g) (hb : PSs X body (tS t W w0 H0 c1))
    (hs : ∀ x, foldedSetIterable iter X.env x = pure x := by intro _; rfl) : PS X (.For tg iter body [] pos) (tS t W w0 H0 (cFor it f c1)) := by
  refine PS.imp (ps_for hp hc hi hg hb hs) ?_
  rintro Dn σ H ⟨w, env, ah, s, A, E, P⟩
  refine ⟨w, env, ah, A, E, post_of s E P fun items ah1 w1 J H1 s1 s01 A1 E1 wk P1 => ?_⟩
  obtain ⟨G, Y, hW, hG, hY⟩ := wk.ex
  refine for_it hW (fun i σ H => ∃ w env ah, Wle w1 w ∧ Stp w0 H0.H w H ∧ RelA t w ah H ∧ RelE t H0 w env σ H ∧ PostS t W w0 H0 w (forL f c1 (items.drop i) env ah) Dn) ⟨w1, env, ah1, Wle.refl _, s01, A1, E1, P1⟩
    (fun i σ H _ ⟨w, env, ah, l, _, A, _, _⟩ => hG w ah H l A) ?_ ?_
  · rintro i x σ H H' hi ⟨w, env, ah, l, s, A, E, P⟩ y
    obtain ⟨w2, d, s2, A2, hd, rd⟩ := hY w ah H i x H' l A hi y
    have hdr : items.drop i = d :: items.drop (i + 1) := by
      have hd' := List.getElem?_eq_some_iff.mp hd
      obtain ⟨hlt, e⟩ := hd'
      rw [List.drop_eq_getElem_cons hlt, e]
    rw [hdr] at P
    unfold forL at P
    cases he : f d env with
    | none => rw [he] at P; exact False.elim P
    | some env1 =>
      rw [he] at P
      refine hf H0 w2 ah env env1 σ H' d x _ A2 (E.step s2) rd he fun σ' E' _ _ => ⟨w2, env1, ah, s.trans s2, A2, E', ?_⟩
      replace P := PostS.up P s2.le
      simp only at P
      cases hb : c1 env1 ah with
      | nx env' ah' =>
        rw [hb] at P
        intro w3 σ3 H3 l3 s3 A3 E3
        exact ⟨w3, env', ah', l.trans (s2.le.trans l3), s3, A3, E3, PostS.up P l3⟩
      | ct env' ah' =>
        rw [hb] at P
        intro w3 σ3 H3 l3 s3 A3 E3
        exact ⟨w3, env', ah', l.trans (s2.le.trans l3), s3, A3, E3, PostS.up P l3⟩
      | bk env' ah' => rw [hb] at P; exact P
      | rt d ah' => rw [hb] at P; exact P
      | exc c l env' ah' => rw [hb] at P; exact P
      | bad => rw [hb] at P; exact P
  · rintro σ H ⟨w, env, ah, l, s, A, E, P⟩
    rw [List.drop_length] at P
    exact P w σ H (Wle.refl _) s A E
end
end G
/-! The engine, part 6: what is walked, comprehensions. -/
namespace G
open PySem PySem.Spec PyProof.Rows L2

section
variable {X : Cx} {t : Tb} {W : WX} {w0 : Wd} {H0 : Bs} {xa xb : CE} {ca : CA} {a b e tg : Expr} {es : List Expr} {pos : Pos}
/-- a list, a tuple or a text, walked -/
def iAny (K : PySem.W.Frag) (tl : TE) : TI := fun σ H R => tl σ H fun x H1 => (∃ a, x = .ref a ∧ (∃ xs, SqL K H1 a xs) ∧ R (Itl K a) H1) ∨ (∃ a, x = .ref a ∧ (∃ xs, SqT K H1 a xs) ∧ R (Itt K a) H1) ∨ ∃ z, x = .str z ∧ R (Its z) H1
theorem pi_any {l : Expr} {tl : TE} (hl : PE X l tl) : PI X tg l (iAny X.K tl) := by
  refine ⟨fun pins s σ H R I h => ?_⟩
  refine thn (hl.run pins s σ H _ I h) fun v s1 ⟨x, H1, I1, r1, q1⟩ => ?_
  rcases q1 with ⟨a, e, ⟨xs, hq⟩, q⟩ | ⟨a, e, ⟨xs, hq⟩, q⟩ | ⟨z, e, q⟩
  · subst e
    cases r1
    obtain ⟨its, rv, p, hz⟩ := I1.list hq
    refine wpAny_pyIter_list p.isList ?_
    refine ⟨s1.heap.objs.size, [s1.heap.objs.size], _, _, H1, rfl, I1.kept (t' := s1.toks) fun b o e => Heap.get?_push_of_some _ e, turn_list a _, ⟨_, Heap.get?_push_size _ rfl, rfl, rfl⟩, fun b hb => ?_, q⟩
    have e : b = s1.heap.objs.size := by simpa using hb
    subst e
    exact I1.fpOk (Nat.le_refl _) (I1.hok.fresh (Nat.le_refl _))
  · subst e
    cases r1
    obtain ⟨its, rv, p, hz⟩ := I1.tuple hq
    refine wpAny_pyIter_tuple (show s1.heap.IsTuple a its.toArray from p) ?_
    refine ⟨s1.heap.objs.size, [s1.heap.objs.size], _, _, H1, rfl, I1.kept (t' := s1.toks) fun b o e => Heap.get?_push_of_some _ e, turn_tuple a _, ⟨_, Heap.get?_push_size _ rfl, rfl, rfl⟩, fun b hb => ?_, q⟩
    have e : b = s1.heap.objs.size := by simpa using hb
    subst e
    exact I1.fpOk (Nat.le_refl _) (I1.hok.fresh (Nat.le_refl _))
  · subst e
    obtain ⟨t, rfl⟩ := r1
    cases ha : z.cps.all (· < 128)
    · exact wpAny_pyIter_wide ha (pi_one (tk := s1.toks) I1 _ (turn_str _ z t "str_iterator" (.inr rfl)) ⟨_, Heap.get?_push_size _ rfl, rfl, rfl⟩ q)
    · exact wpAny_pyIter_ascii ha (pi_one (tk := s1.toks) I1 _ (turn_str _ z t "str_ascii_iterator" (.inl rfl)) ⟨_, Heap.get?_push_size _ rfl, rfl, rfl⟩ q)

theorem wlk_list {w : Wd} {K : PySem.W.Frag} {l : List D} {a : Addr} {vs : List V} (h : SqL K w.Hf a vs) (r : Reps t w l vs) : Wlk t w l (Itl K a) := by
  refine ⟨fun H => SqL K H a vs, YAt vs, ?_, fun w' ah H le A => (le.hf.trans A.sub).seq h, fun w' ah H i x H' le A hi y => ?_⟩
  · rw [reps_len r]
    exact walk_list
  · obtain ⟨e, y⟩ := y
    subst e
    obtain ⟨d, h1, h2⟩ := reps_getv r y
    exact ⟨w', d, Stp.refl _ _, A, h1, Rep.mono le d h2⟩
theorem wlk_tup {w : Wd} {K : PySem.W.Frag} {l : List D} {a : Addr} {vs : List V} (h : SqT K w.Hf a vs) (r : Reps t w l vs) : Wlk t w l (Itt K a) := by
  refine ⟨fun H => SqT K H a vs, YAt vs, ?_, fun w' ah H le A => same_sqT (le.hf.trans A.sub) h, fun w' ah H i x H' le A hi y => ?_⟩
  · rw [reps_len r]
    exact walk_tup
  · obtain ⟨e, y⟩ := y
    subst e
    obtain ⟨d, h1, h2⟩ := reps_getv r y
    exact ⟨w', d, Stp.refl _ _, A, h1, Rep.mono le d h2⟩
def chD (c : Nat) : D := .str ⟨#[c]⟩
theorem wlk_str {w : Wd} {z : Str} : Wlk t w (z.cps.toList.map chD) (Its z) := by
  refine ⟨fun _ => True, fun i H v H' => H' = H ∧ ∃ c, z.cps[i]? = some c ∧ v = .str ⟨#[c]⟩, ?_, fun _ _ _ _ _ => trivial, fun w' ah H i x H' le A hi y => ?_⟩
  · rw [List.length_map, Array.length_toList]
    exact walk_str
  · obtain ⟨e, c, h1, h2⟩ := y
    subst e
    refine ⟨w', chD c, Stp.refl _ _, A, ?_, ?_⟩
    · rw [List.getElem?_map, Array.getElem?_toList, h1]
      rfl
    · unfold chD
      simp only [Rep]
      exact h2
def rngD (lo : Int) (n : Nat) : List D := (List.range n).map fun i => .int (lo + (i : Nat))
theorem wlk_rng {w : Wd} {lo : Int} {n : Nat} : Wlk t w (rngD lo n) (Itr lo n) := by
  refine ⟨fun _ => True, YFn fun i => .int (lo + i), ?_, fun _ _ _ _ _ => trivial, fun w' ah H i x H' le A hi y => ?_⟩
  · unfold rngD
    rw [List.length_map, List.length_range]
    exact walk_range
  · obtain ⟨e, h⟩ := y
    subst e
    have hi' : i < n := by
      unfold rngD at hi
      rw [List.length_map, List.length_range] at hi
      exact hi
    refine ⟨w', .int (lo + i), Stp.refl _ _, A, ?_, ?_⟩
    · unfold rngD
      rw [List.getElem?_map, List.getElem?_range hi']
      rfl
    · simp only [Rep]
      exact h
def enumD : Nat → List D → List D
  | _, [] => []
  | n, d :: r => .tup [.int (n : Nat), d] :: enumD (n + 1) r
theorem enumD_len : ∀ (n : Nat) (l : List D), (enumD n l).length = l.length
  | _, [] => rfl
  | n, d :: r => by
    unfold enumD
    rw [List.length_cons, List.length_cons, enumD_len]
theorem enumD_get : ∀ (n i : Nat) (l : List D), (enumD n l)[i]? = (l[i]?).map fun d => D.tup [.int ((n + i : Nat) : Int), d]
  | n, i, [] => by simp [enumD]
  | n, 0, d :: r => by simp [enumD]
  | n, i + 1, d :: r => by
    unfold enumD
    rw [List.getElem?_cons_succ, List.getElem?_cons_succ, enumD_get (n + 1) i r]
    have e : n + 1 + i = n + (i + 1) := by omega
    rw [e]
theorem wlk_enum {w : Wd} {K : PySem.W.Frag} {l : List D} {a : Addr} {vs : List V} (h : SqL K w.Hf a vs) (r : Reps t w l vs) : Wlk t w (enumD 0 l) (Ite K a) := by
  refine ⟨fun H => SqL K H a vs, YPair (fun i => some (.int (i : Nat))) (fun i => vs[i]?), ?_, fun w' ah H le A => (le.hf.trans A.sub).seq h, fun w' ah H i x H' le A hi y => ?_⟩
  · rw [enumD_len, reps_len r]
    exact walk_enum
  · obtain ⟨T, x1, x2, h1, h2, h3, h4, h5⟩ := y
    subst h1 h3
    cases h4
    obtain ⟨d, h6, h7⟩ := reps_getv r h5
    obtain ⟨s, A'⟩ := stp_add (o := .tup [.int (i : Nat), x2]) A h2
    refine ⟨_, .tup [.int (i : Nat), d], s, A', ?_, ?_⟩
    · rw [enumD_get, h6, Nat.zero_add]
      rfl
    · simp only [Rep, Reps]
      exact ⟨T, _, rfl, SqT.of add_at, .int (i : Nat), [x2], rfl, rfl, x2, [], rfl, Rep.mono (le.trans s.le) d h7, rfl⟩
def zipD : List D → List D → List D
  | d :: l, e :: m => .tup [d, e] :: zipD l m
  | _, _ => []
theorem zipD_len : ∀ (l m : List D), (zipD l m).length = min l.length m.length
  | [], m => by simp [zipD]
  | d :: l, [] => by simp [zipD]
  | d :: l, e :: m => by
    unfold zipD
    rw [List.length_cons, List.length_cons, List.length_cons, zipD_len]
    omega
theorem zipD_get : ∀ (i : Nat) (l m : List D) (d e : D), l[i]? = some d → m[i]? = some e → (zipD l m)[i]? = some (.tup [d, e])
  | i, [], m, d, e, h, _ => by simp at h
  | i, x :: l, [], d, e, _, h => by simp at h
  | 0, x :: l, y :: m, d, e, h1, h2 => by
    simp at h1 h2
    subst h1 h2
    simp [zipD]
  | i + 1, x :: l, y :: m, d, e, h1, h2 => by
    unfold zipD
    rw [List.getElem?_cons_succ]
    exact zipD_get i l m d e (by simpa using h1) (by simpa using h2)
theorem wlk_zip {w : Wd} {K : PySem.W.Frag} {l m : List D} {a b : Addr} {vs us : List V} (h : SqL K w.Hf a vs) (h2 : SqL K w.Hf b us) (r : Reps t w l vs) (r2 : Reps t w m us) : Wlk t w (zipD l m) (Itz K a b) := by
  refine ⟨fun H => SqL K H a vs ∧ SqL K H b us, YPair (fun i => vs[i]?) (fun i => us[i]?), ?_, fun w' ah H le A => ⟨(le.hf.trans A.sub).seq h, (le.hf.trans A.sub).seq h2⟩, fun w' ah H i x H' le A hi y => ?_⟩
  · refine walk_zip ?_
    rw [zipD_len, reps_len r, reps_len r2]
  · obtain ⟨T, x1, x2, h1, h3, h4, h5, h6⟩ := y
    subst h1 h4
    obtain ⟨d, h7, h8⟩ := reps_getv r h5
    obtain ⟨e, h9, h10⟩ := reps_getv r2 h6
    obtain ⟨s, A'⟩ := stp_add (o := .tup [x1, x2]) A h3
    refine ⟨_, .tup [d, e], s, A', zipD_get i l m d e h7 h9, ?_⟩
    simp only [Rep, Reps]
    exact ⟨T, _, rfl, SqT.of add_at, x1, [x2], rfl, Rep.mono (le.trans s.le) d h8, x2, [], rfl, Rep.mono (le.trans s.le) e h10, rfl⟩

def itD : D → Option (List D)
  | .lst l => some l
  | .scr l => some l
  | .tup l => some l
  | .str z => some (z.cps.toList.map chD)
  | _ => none
def itAny (a : CE) : CIt := fun env ah => (a env ah).bind fun x ah1 => ofO (itD x) ah1
theorem i_any (ha : PE X a (tE t W H0 xa)) (hK : t.K = X.K := by rfl) : PI X tg a (tI t W H0 (itAny xa)) := by
  refine ⟨fun pins s σ H R I h => (pi_any ha).run pins s σ H R I ?_⟩
  obtain ⟨w, env, ah, A, E, P⟩ := h
  refine ⟨w, env, ah, A, E, post_bind P fun x ah1 w1 v H1 s1 A1 r1 P1 => ?_⟩
  cases x <;> simp only [itD] at P1 <;> first | exact False.elim P1 | skip
  · simp only [Rep] at r1
    subst r1
    exact .inr (.inr ⟨_, rfl, post_ok P1 A1 wlk_str⟩)
  · simp only [Rep] at r1
    obtain ⟨p, vs, rfl, h1, h2⟩ := r1
    rw [hK] at h1
    exact .inr (.inl ⟨p, rfl, ⟨vs, same_sqT A1.sub h1⟩, post_ok P1 A1 (wlk_tup h1 h2)⟩)
  · simp only [Rep] at r1
    obtain ⟨p, vs, rfl, h1, h2⟩ := r1
    exact .inl ⟨p, rfl, ⟨vs, SqL.of (A1.sub _ _ h1)⟩, post_ok P1 A1 (wlk_list (SqL.of h1) h2)⟩
  · simp only [Rep] at r1
    obtain ⟨p, vs, rfl, h1, h2⟩ := r1
    rw [hK] at h1
    exact .inl ⟨p, rfl, ⟨vs, A1.sub.seq h1⟩, post_ok P1 A1 (wlk_list h1 h2)⟩
def itRng1 (a : CA) : CIt := fun env ah => (a env ah).bind fun x ah1 => match x with
  | [.int j] => if -(2 ^ 62) ≤ j ∧ j < 2 ^ 62 then .ok (rngD 0 j.toNat) ah1 else .bad
  | _ => .bad
def itRng2 (a : CA) : CIt := fun env ah => (a env ah).bind fun x ah1 => match x with
  | [.int i, .int j] => if -(2 ^ 62) ≤ i ∧ i < 2 ^ 62 ∧ -(2 ^ 62) ≤ j ∧ j < 2 ^ 62 then .ok (rngD i (j - i).toNat) ah1 else .bad
  | _ => .bad
theorem i_rng1 {p : Pos} (hm : X.mg "range" = none) (ha : PA X [a] (tAr t W H0 ca)) (hg : Gl X "range" := by rfl) (hs : starEach [a] X.env = [(false, eval a X.env)] := by rfl) : PI X tg (.Call (.Name "range" p) [a] [] pos) (tI t W H0 (itRng1 ca)) := by
  refine ⟨fun pins s σ H R I h => (pi_range1 hg hm ha hs).run pins s σ H R I ?_⟩
  obtain ⟨w, env, ah, A, E, P⟩ := h
  refine ⟨w, env, ah, A, E, post_bind P fun x ah1 w1 v H1 s1 A1 r1 P1 => ?_⟩
  split at P1
  · obtain ⟨v, rfl, r2⟩ := reps1 r1
    simp only [Rep] at r2
    subst r2
    split at P1
    · rename_i h
      exact ⟨_, rfl, h.1, h.2, post_ok P1 A1 wlk_rng⟩
    · exact False.elim P1
  · exact False.elim P1
theorem i_rng2 {p : Pos} (hm : X.mg "range" = none) (ha : PA X [a, b] (tAr t W H0 ca)) (hg : Gl X "range" := by rfl) (hs : starEach [a, b] X.env = [(false, eval a X.env), (false, eval b X.env)] := by rfl) (hs2 : starEach [b] X.env = [(false, eval b X.env)] := by rfl) : PI X tg (.Call (.Name "range" p) [a, b] [] pos) (tI t W H0 (itRng2 ca)) := by
  refine ⟨fun pins s σ H R I h => (pi_range2 hg hm ha hs hs2).run pins s σ H R I ?_⟩
  obtain ⟨w, env, ah, A, E, P⟩ := h
  refine ⟨w, env, ah, A, E, post_bind P fun x ah1 w1 v H1 s1 A1 r1 P1 => ?_⟩
  split at P1
  · obtain ⟨v, v2, rfl, ra, rb⟩ := reps2 r1
    simp only [Rep] at ra rb
    subst ra rb
    split at P1
    · rename_i h
      exact ⟨_, _, rfl, h, post_ok P1 A1 wlk_rng⟩
    · exact False.elim P1
  · exact False.elim P1
def seqD : D → Option (List D)
  | .lst l => some l
  | .scr l => some l
  | _ => none
theorem seqD_rep {w : Wd} {x : D} {l : List D} {v : V} (r : Rep t w x v) (e : seqD x = some l) : ∃ p vs, v = .ref p ∧ SqL t.K w.Hf p vs ∧ Reps t w l vs := by
  cases x <;> simp only [seqD, reduceCtorEq] at e
  · cases e
    simp only [Rep] at r
    obtain ⟨p, vs, rfl, h1, h2⟩ := r
    exact ⟨p, vs, rfl, SqL.of h1, h2⟩
  · cases e
    simp only [Rep] at r
    exact r
def itEnum (a : CA) : CIt := fun env ah => (a env ah).bind fun x ah1 => match x with
  | [d] => (ofO (seqD d) ah1).bind fun l ah2 => .ok (enumD 0 l) ah2
  | _ => .bad
theorem i_enum {elts : List Expr} {kk : Nat} {p tpos : Pos} (hm : X.mg "enumerate" = none) (ha : PA X [a] (tAr t W H0 ca)) (hg : Gl X "enumerate" := by rfl) (hs : starEach [a] X.env = [(false, eval a X.env)] := by rfl) (hK : t.K = X.K := by rfl) :
    PI X (.Tuple elts kk tpos) (.Call (.Name "enumerate" p) [a] [] pos) (tI t W H0 (itEnum ca)) := by
  refine ⟨fun pins s σ H R I h => (pi_enum hg hm ha hs).run pins s σ H R I ?_⟩
  obtain ⟨w, env, ah, A, E, P⟩ := h
  refine ⟨w, env, ah, A, E, post_bind P fun x ah1 w1 v H1 s1 A1 r1 P1 => ?_⟩
  split at P1
  · rename_i d
    obtain ⟨v, rfl, r2⟩ := reps1 r1
    cases e : seqD d with
    | none => rw [e] at P1; exact False.elim P1
    | some l =>
      rw [e] at P1
      obtain ⟨p, vs, rfl, h1, h2⟩ := seqD_rep r2 e
      rw [hK] at h1
      exact ⟨p, vs, rfl, A1.sub.seq h1, post_ok P1 A1 (wlk_enum h1 h2)⟩
  · exact False.elim P1
def itZip (a : CA) : CIt := fun env ah => (a env ah).bind fun x ah1 => match x with
  | [d, e] => (ofO (seqD d) ah1).bind fun l ah2 => (ofO (seqD e) ah2).bind fun m ah3 => .ok (zipD l m) ah3
  | _ => .bad
theorem i_zip {elts : List Expr} {kk : Nat} {p tpos : Pos} (hm : X.mg "zip" = none) (ha : PA X [a, b] (tAr t W H0 ca)) (hg : Gl X "zip" := by rfl) (hs : starEach [a, b] X.env = (false, eval a X.env) :: starEach [b] X.env := by rfl) (hpl : (backTo pos (starEach [b] X.env)).any (·.1) = false := by rfl) (hK : t.K = X.K := by rfl) :
    PI X (.Tuple elts kk tpos) (.Call (.Name "zip" p) [a, b] [] pos) (tI t W H0 (itZip ca)) := by
  refine ⟨fun pins s σ H R I h => (pi_zip hg hm ha hs hpl).run pins s σ H R I ?_⟩
  obtain ⟨w, env, ah, A, E, P⟩ := h
  refine ⟨w, env, ah, A, E, post_bind P fun x ah1 w1 v H1 s1 A1 r1 P1 => ?_⟩
  split at P1
  · rename_i d e'
    obtain ⟨v, v2, rfl, ra, rb⟩ := reps2 r1
    cases e : seqD d with
    | none => rw [e] at P1; exact False.elim P1
    | some l =>
      rw [e] at P1
      cases e2 : seqD e' with
      | none => rw [e2] at P1; exact False.elim P1
      | some m =>
        rw [e2] at P1
        obtain ⟨p, vs, rfl, h1, h2⟩ := seqD_rep ra e
        obtain ⟨p2, us, rfl, h3, h4⟩ := seqD_rep rb e2
        rw [hK] at h1 h3
        exact ⟨p, p2, vs, us, rfl, A1.sub.seq h1, A1.sub.seq h3, post_ok P1 A1 (wlk_zip h1 h3 h2 h4)⟩
  · exact False.elim P1

/-! ### comprehensions -/
def noX {α : Type} (r : Res α) : Res α := match r with
  | .exc _ _ _ => .bad
  | r => r
@[simp] theorem noX_ok {α : Type} (a : α) (ah : AH) : noX (.ok a ah) = .ok a ah := rfl
def wipeE (env : En) : List Nat → En
  | [] => env
  | v :: vs => (wipeE env vs).set v .no
def lcL (vs : List Nat) (f : TgD) (tt : CT) (te : CE) (env : En) : List D → AH → Res (List D)
  | [], ah => .ok [] ah
  | d :: r, ah => match f d (wipeE env vs) with
    | none => .bad
    | some env1 => (noX (tt env1 ah)).bind fun k ah1 => if k = true then (noX (te env1 ah1)).bind fun y ah2 => (lcL vs f tt te env r ah2).bind fun ys ah3 => .ok (y :: ys) ah3 else lcL vs f tt te env r ah1
def cLc (it : CIt) (vs : List Nat) (f : TgD) (tt : CT) (te : CE) : CE := fun env ah => (it env ah).bind fun l ah1 => if l.length ≤ 10000000 then (lcL vs f tt te env l ah1).bind fun ys ah2 => .ok (.lst ys) ah2 else .bad
theorem PTs.imp {X : Cx} {e : List Expr} {u v : TT} (h : PTs X e u) (i : ∀ σ H Q, v σ H Q → u σ H Q) : PTs X e v := ⟨fun pins s σ H Q I hw => h.run pins s σ H Q I (i σ H Q hw)⟩
def cYes : CT := fun _ ah => .ok true ah
theorem qs_nil : PTs X [] (tT t W H0 cYes) := by
  refine PTs.imp pts_nil ?_
  rintro σ H Q ⟨w, env, ah, A, E, P⟩
  exact post_ok P A rfl
theorem qs_one {cc : CT} (h : PT X a (tT t W H0 cc)) : PTs X [a] (tT t W H0 cc) := pts_one h
theorem relE_wipe {w : Wd} {env : En} {σ : L2.St} {H : Hp} (E : RelE t H0 w env σ H) : ∀ vs : List Nat, RelE t H0 w (wipeE env vs) (wipe σ vs) H
  | [] => E
  | v :: vs => relE_no (relE_wipe E vs)
theorem wipe_get {σ : L2.St} : ∀ (vs : List Nat) (j : Nat), (wipe σ vs)[j]? = if j ∈ vs then (σ[j]?).map (fun _ => none) else σ[j]?
  | [], j => by simp [wipe]
  | v :: vs, j => by
    unfold wipe
    by_cases h : v = j
    · subst h
      rw [List.getElem?_set]
      simp only [if_true, List.mem_cons, true_or]
      rw [wipe_length]
      by_cases hl : v < σ.length
      · rw [if_pos hl, List.getElem?_eq_getElem hl]
        rfl
      · rw [if_neg hl, List.getElem?_eq_none (by omega)]
        rfl
    · rw [List.getElem?_set_ne h, wipe_get vs j]
      have : (j ∈ v :: vs) ↔ j ∈ vs := by
        rw [List.mem_cons]
        exact ⟨fun z => z.resolve_left (fun q => h q.symm), .inr⟩
      simp only [this]
theorem wipe_back {σ σ' : L2.St} {vs is : List Nat} (hl : σ'.length = (wipe σ vs).length) (hj : ∀ j, j ∉ is → σ'[j]? = (wipe σ vs)[j]?) (hs : ∀ i ∈ is, i ∈ vs) : wipe σ' vs = wipe σ vs := by
  refine List.ext_getElem? fun j => ?_
  rw [wipe_get vs j]
  by_cases h : j ∈ vs
  · rw [if_pos h, wipe_get vs j, if_pos h]
    have e : σ'.length = σ.length := by rw [hl, wipe_length]
    by_cases q : j < σ.length
    · rw [List.getElem?_eq_getElem q, List.getElem?_eq_getElem (by omega)]
      rfl
    · rw [List.getElem?_eq_none (by omega), List.getElem?_eq_none (by omega)]
  · rw [if_neg h]
    exact hj j fun z => h (hs j z)
theorem upd_free {w : Wd} {ah : AH} {H : Hp} {p : Addr} {o : HO} (A : RelA t w ah H) (h1 : w.Hf p = none) (h2 : p ∉ w.ρ) : RelA t w ah (upd H p o) := by
  refine ⟨fun a u h => ?_, A.len, A.nd, fun a h => ?_, fun n u a e1 e2 => ?_⟩
  · rw [upd_ne (ne_of_none h h1)]
    exact A.sub a u h
  · rw [upd_ne (fun z => h2 (by rw [← z]; exact h))]
    exact A.live a h
  · refine (A.obj n u a e1 e2).step (Wle.refl w) (fun h => h) fun ob h => ?_
    rw [upd_ne (fun z => h2 (by rw [← z]; exact List.mem_of_getElem? e2))]
    exact h
theorem stp_upd {w w' : Wd} {H H' : Hp} {p : Addr} {o : HO} (s : Stp w H w' H') (h : H p = none) : Stp w H w' (upd H' p o) :=
  ⟨s.le, fun a u h1 h2 => by rw [upd_ne (ne_of_none h2 h)]; exact s.fr a u h1 h2, fun a u h2 => by rw [upd_ne (ne_of_none h2 h)]; exact s.there a u h2, s.newR, s.newF⟩
/-- a fresh object is frozen -/
theorem frz_A {w : Wd} {ah : AH} {H : Hp} {p : Addr} {o : HO} (A : RelA t w ah H) (hp : H p = some o) (h1 : w.Hf p = none) (h2 : p ∉ w.ρ) : Wle w (w.add p o) ∧ RelA t (w.add p o) ah H := by
  have le : Wle w (w.add p o) := ⟨fun a u h => by
    show upd w.Hf p o a = some u
    rw [upd_ne (ne_of_none h h1)]
    exact h, fun _ _ h => h⟩
  refine ⟨le, fun a u h => ?_, A.len, A.nd, A.live, fun n u a e1 e2 => ?_⟩
  · have h' : upd w.Hf p o a = some u := h
    by_cases e : a = p
    · rw [e, upd_same] at h'
      rw [e, ← h']
      exact hp
    · rw [upd_ne e] at h'
      exact A.sub a u h'
  · refine (A.obj n u a e1 e2).step le (fun h => ?_) fun ob h => h
    show upd w.Hf p o a = none
    rw [upd_ne (fun z => h2 (by rw [← z]; exact List.mem_of_getElem? e2))]
    exact h
theorem frz_S {w w' : Wd} {H H' : Hp} {p : Addr} {o : HO} (s : Stp w H w' H') (h : H p = none) (h1 : w'.Hf p = none) : Stp w H (w'.add p o) H' := by
  refine ⟨s.le.trans ⟨fun a u h => by
    show upd w'.Hf p o a = some u
    rw [upd_ne (ne_of_none h h1)]
    exact h, fun _ _ h => h⟩, s.fr, s.there, s.newR, fun a u h2 => ?_⟩
  have h' : upd w'.Hf p o a = some u := h2
  by_cases e : a = p
  · exact .inr (.inl (by rw [e]; exact h))
  · rw [upd_ne e] at h'
    exact s.newF a u h'
/-- a cell that is nobody's stays through a step -/
theorem stay_at {w w' : Wd} {H H' : Hp} {p : Addr} {o : HO} (s : Stp w H w' H') (hp : H p = some o) (h1 : w.Hf p = none) (h2 : p ∉ w.ρ) : H' p = some o ∧ w'.Hf p = none ∧ p ∉ w'.ρ := by
  refine ⟨s.fr p o h2 hp, ?_, fun z => ?_⟩
  · cases q : w'.Hf p with
    | none => rfl
    | some u =>
      rcases s.newF p u q with z | z | z
      · rw [h1] at z; cases z
      · rw [hp] at z; cases z
      · exact absurd z h2
  · rcases s.newR p z with q | q
    · exact h2 q
    · rw [hp] at q; cases q
abbrev WF : WX := fun _ _ _ _ => False
theorem lc_read {wi : TI} {it : CIt} {is vs : List Nat} {f : TgD} {g : TG} {tt : CT} {te : CE} (hwi : wi = tI t W H0 it) (hf : TgS t is f g) (hs : ∀ i ∈ is, i ∈ vs) : ∀ σ H Q, tE t W H0 (cLc it vs f tt te) σ H Q → tLc wi g (tT t WF H0 tt) (tE t WF H0 te) vs σ H Q := by
  subst hwi
  rintro σ H Q ⟨w, env, ah, A, E, P⟩
  refine ⟨w, env, ah, A, E, post_bind P fun items ah1 w1 J H1 s1 A1 wk P1 => ?_⟩
  intro Dd hD
  split at P1
  case isFalse => exact False.elim P1
  rename_i hlen
  have E1 := E.step s1
  obtain ⟨G, Y, hW, hG, hY⟩ := wk.ex
  obtain ⟨sn, An⟩ := stp_new (o := .lst []) A1 hD
  have hf1 : w1.Hf Dd = none := A1.sub.free hD
  have hr1 : Dd ∉ w1.ρ := A1.free hD
  refine lc_it hW (fun i H => ∃ w ah acc accV, Stp w1 H1 w H ∧ RelA t w ah H ∧ H Dd = some (.lst accV) ∧ w.Hf Dd = none ∧ Dd ∉ w.ρ ∧ Reps t w acc accV ∧ acc.length ≤ i ∧
      Post t (Rep t) w1 H1 ((lcL vs f tt te env (items.drop i) ah).bind fun ys ah2 => .ok (.lst (acc ++ ys)) ah2) Q (fun cls d H' => W cls d σ H'))
    ⟨w1, ah1, [], [], sn, An, upd_same, hf1, hr1, by simp only [Reps], Nat.le_refl _, P1⟩ (fun i H _ ⟨w, ah, _, _, s, A, _⟩ => hG w ah H s.le A) ?_ ?_
  · rintro i x H H' hi ⟨w, ah, acc, accV, s, A, q1, q2, q3, q4, q5, P⟩ y
    obtain ⟨w2, d, s2, A2, hd, rd⟩ := hY w ah H i x H' s.le A hi y
    obtain ⟨p1, p2, p3⟩ := stay_at s2 q1 q2 q3
    have hdr : items.drop i = d :: items.drop (i + 1) := by
      obtain ⟨hlt, e⟩ := List.getElem?_eq_some_iff.mp hd
      rw [List.drop_eq_getElem_cons hlt, e]
    rw [hdr] at P
    unfold lcL at P
    cases he : f d (wipeE env vs) with
    | none => rw [he] at P; exact False.elim P
    | some env1 =>
      rw [he] at P
      simp only at P
      have E2 := relE_wipe (E1.step (s.trans s2)) vs
      refine hf H0 w2 ah _ env1 _ H' d x _ A2 E2 rd he fun σ' E' hl hj => ⟨wipe_back hl hj hs, w2, env1, ah, A2, E', ?_⟩
      cases ht : tt env1 ah with
      | exc _ _ _ => rw [ht] at P; exact False.elim P
      | bad => rw [ht] at P; exact False.elim P
      | ok k ah3 =>
        rw [ht] at P
        intro w3 k' H3 s3 A3 ek
        subst ek
        obtain ⟨p1', p2', p3'⟩ := stay_at s3 p1 p2 p3
        simp only [noX_ok, bind_ok] at P
        cases k with
        | false =>
          refine iteF ⟨w3, ah3, acc, accV, (s.trans s2).trans s3, A3, p1', p2', p3', Reps.mono (s2.le.trans s3.le) _ q4, by omega, ?_⟩
          rw [if_neg Bool.false_ne_true] at P
          exact P
        | true =>
          rw [if_pos rfl] at P
          refine iteT ⟨w3, env1, ah3, A3, E'.step s3, ?_⟩
          cases hv : te env1 ah3 with
          | exc _ _ _ => rw [hv] at P; exact False.elim P
          | bad => rw [hv] at P; exact False.elim P
          | ok y ah4 =>
            rw [hv] at P
            simp only [noX_ok, bind_ok] at P
            intro w4 yv H4 s4 A4 ry
            obtain ⟨p1'', p2'', p3''⟩ := stay_at s4 p1' p2' p3'
            have racc := Reps.mono ((s2.le.trans s3.le).trans s4.le) _ q4
            have hlen2 := reps_len racc
            refine ⟨accV, p1'', ?_, w4, ah4, acc ++ [y], accV ++ [yv], stp_upd (((s.trans s2).trans s3).trans s4) hD, upd_free A4 p2'' p3'', upd_same, p2'', p3'', reps_append racc (reps_one ry), ?_, ?_⟩
            · rw [← hlen2]
              refine Nat.lt_of_le_of_lt (Nat.le_trans q5 (Nat.le_of_lt (Nat.lt_of_lt_of_le hi hlen))) (by decide)
            · rw [List.length_append, List.length_singleton]
              omega
            · cases hr : lcL vs f tt te env (items.drop (i + 1)) ah4 with
              | exc c l ah5 => rw [hr] at P; exact P
              | bad => rw [hr] at P; exact P
              | ok ys ah5 =>
                rw [hr] at P
                simp only [bind_ok] at P ⊢
                rw [List.append_assoc]
                exact P
  · rintro H ⟨w, ah, acc, accV, s, A, q1, q2, q3, q4, q5, P⟩
    rw [List.drop_length] at P
    unfold lcL at P
    simp only [bind_ok, List.append_nil] at P
    obtain ⟨le, A'⟩ := frz_A A q1 q2 q3
    refine P (w.add Dd (.lst accV)) _ H (frz_S s hD q2) A' ?_
    simp only [Rep]
    exact ⟨Dd, accV, rfl, add_at, Reps.mono le _ q4⟩
theorem q_lc {elt iter : Expr} {ifs : List Expr} {scope : Scope} {own : List (Str × Nat)} {it : CIt} {is : List Nat} {f : TgD} {g : TG} {tt : CT} {te : CE} (hc : X.calm = true) (hN : X.N.Nodup) (hf : TgS t is f g) (hi : PI X tg iter (tI t W H0 it)) (ok : BlkOk X.N X.env.scope scope own) (hs' : ∀ i ∈ is, i ∈ own.map (·.2))
    (hg : ∀ (s : Shared) (H : Hp) (C : Addr) (cl : List (Str × Addr)) (fp : List Addr), PG (X.blk s H scope (compEnvC scope cl C X.env) fp) tg g) (ht : ∀ (s : Shared) (H : Hp) (C : Addr) (cl : List (Str × Addr)) (fp : List Addr), PTs (X.blk s H scope (compEnvC scope cl C X.env) fp) ifs (tT t WF H0 tt))
    (he : ∀ (s : Shared) (H : Hp) (C : Addr) (cl : List (Str × Addr)) (fp : List Addr), PE (X.blk s H scope (compEnvC scope cl C X.env) fp) elt (tE t WF H0 te)) (hs : ∀ x, foldedSetIterable iter X.env x = pure x := by intro _; rfl) :
    PE X (.ListComp elt [⟨tg, iter, ifs, 0⟩] scope pos) (tE t W H0 (cLc it (own.map (·.2)) f tt te)) := PE.imp (pe_lc hc hN hi ok hg ht he hs) (lc_read rfl hf hs')
/-- y = [..] on one line -/
theorem z_setLc (i : Nat) {y : Str} {py : Pos} {elt iter : Expr} {ifs : List Expr} {scope : Scope} {own : List (Str × Nat)} {spos : Pos} {it : CIt} {is : List Nat} {f : TgD} {g : TG} {tt : CT} {te : CE} (hc : X.calm = true) (hN : X.N.Nodup) (hf : TgS t is f g) (hi : PI X tg iter (tI t W H0 it)) (ok : BlkOk X.N X.env.scope scope own) (hs' : ∀ i ∈ is, i ∈ own.map (·.2))
    (hg : ∀ (s : Shared) (H : Hp) (C : Addr) (cl : List (Str × Addr)) (fp : List Addr), PG (X.blk s H scope (compEnvC scope cl C X.env) fp) tg g) (ht : ∀ (s : Shared) (H : Hp) (C : Addr) (cl : List (Str × Addr)) (fp : List Addr), PTs (X.blk s H scope (compEnvC scope cl C X.env) fp) ifs (tT t WF H0 tt))
    (he : ∀ (s : Shared) (H : Hp) (C : Addr) (cl : List (Str × Addr)) (fp : List Addr), PE (X.blk s H scope (compEnvC scope cl C X.env) fp) elt (tE t WF H0 te)) (hsw : swapsWith (.ListComp elt [⟨tg, iter, ifs, 0⟩] scope pos) (some (.Name y py)) spos.line X.env = pure true) (hy : X.N[i]? = some y := by rfl) (hyl : X.env.scope.names.lookup y = some .local := by rfl) (hs : ∀ x, foldedSetIterable iter X.env x = pure x := by intro _; rfl) :
    PS X (.Assign [.Name y py] (.ListComp elt [⟨tg, iter, ifs, 0⟩] scope pos) spos) (tS t W w0 H0 (cAsg (gN i) (cLc it (own.map (·.2)) f tt te))) :=
  PS.imp (ps_setLc hc hN hy hyl hsw hi ok hg ht he hs) fun Dn σ H h => by
    obtain ⟨w, env, ah, A, E, P⟩ := asg_read (tg_name i) Dn σ H h
    exact lc_read rfl hf hs' σ H _ ⟨w, env, ah, A, E, P⟩
end
end G
/-! The engine, part 7: exceptions: raised, caught and kept; isinstance. -/
namespace G
open PySem PySem.Spec PyProof.Rows L2

/-! ### an exception that was caught is tracked -/
section
variable {X : Cx} {pins : List (Addr × Obj)} {σ : L2.St} {H : Hp} {s : Shared}
theorem Inv.track {a : Addr} {oe : Obj} {vs : Array Value} {cls : Value} {d : Option Addr} (I : L2.Inv X pins σ H s) (ha : s.heap.get? a = some oe) (hz : Zc cls d oe) (hd : oe.data = .fields vs) (na : H a = none) (n0 : X.s_0.heap.get? a = none) (nL : a ≠ X.env.locals)
    (nC : ∀ x c, X.env.cells.lookup x = some c → c ≠ a) (nP : ∀ p ∈ X.pn ++ pins, p.1 ≠ a) : L2.Inv X pins σ (upd H a (ExcK cls d a)) s := by
  have ok : ObjOk X.prog X.w (upd H a (ExcK cls d a)) s.heap a (ExcK cls d a) := ⟨⟨oe, vs, ha, hz, hd⟩, ⟨oe, ha⟩, fun h1 h2 ⟨o, v, q, r⟩ k => ⟨o, v, k o q, r⟩⟩
  have hne : ∀ b u, H b = some u → b ≠ a := fun b u e => ne_of_none e na
  refine ⟨I.ok, I.os, I.bare, ⟨I.base.keep, I.base.slot, fun b o e n hx => ?_, I.base.there, fun b xs e => ?_, fun b o u e => ?_, fun b ps e => ?_⟩, I.loc, I.cell, ?_, fun x c e => ?_, fun p hp => ?_, fun b u e => ?_, I.len⟩
  · have nb : b ≠ a := fun z => by rw [z, n0] at e; cases e
    rw [upd_ne nb]
    exact I.base.free b o e n hx
  · have q := I.base.tups b xs e
    rw [upd_ne (hne _ _ q)]
    exact q
  · have q := I.base.frzs b o u e
    rw [upd_ne (hne _ _ q)]
    exact q
  · obtain ⟨m, q⟩ := I.base.tbls b ps e
    exact ⟨m, by rw [upd_ne (hne _ _ q)]; exact q⟩
  · rw [upd_ne (Ne.symm nL)]
    exact I.free
  · rw [upd_ne (nC x c e)]
    exact I.freeC x c e
  · obtain ⟨h1, h2, h3, h4, h5⟩ := I.pin p hp
    exact ⟨h1, by rw [upd_ne (nP p hp)]; exact h2, h3, h4, h5⟩
  · by_cases hb : b = a
    · subst hb
      rw [upd_same] at e
      cases e
      exact ok
    · rw [upd_ne hb] at e
      exact (I.hok b u e).stay (fun c v _ q => q) (fun c q => by rw [upd_ne (hne _ _ q)]; exact q) fun c xs q => by rw [upd_ne (hne _ _ q)]; exact q
end
/-- what the clause 'except x as n' wishes, where the exception is kept: slot i is n's -/
def wKeep (K : PySem.W.Frag) (c : Value) (i : Nat) (ts : Addr → Value → Option Addr → TS) (Wout : WX) (Dn : Ends) : WX := fun cls d σ H =>
  ∃ b, PySem.W.exmOne K cls c = some b ∧ (b = true → ∀ a, H a = none → ts a cls d { nx := fun σ' H' => Dn.nx (σ'.set i none) (upd H' a (ExcK cls d a)), rt := Dn.rt, bk := fun σ' H' => Dn.bk (σ'.set i none) (upd H' a (ExcK cls d a)), ct := fun σ' H' => Dn.ct (σ'.set i none) (upd H' a (ExcK cls d a)) } (σ.set i (some (.ref a))) H) ∧
    (b = false → Wout cls d σ H)
section
variable {X : Cx} {x n : Str} {c : Value} {i : Nat} {body suite : List Stmt} {b₀ : Stmt} {np pos pos' : Pos} {tb : WX → TS} {ts : Addr → Value → Option Addr → TS} {Wout : WX}
theorem ps_try_keep (hs : X.stack = X.env :: X.outer) (hf : X.env.frame = some X.env.locals) (hex : X.ex = []) (hN : X.N.Nodup) (hi : X.N[i]? = some n) (hln : X.env.kindOf n = some .local) (hc : Names X x c) (tk : Takes X Wout)
    (hb : ∀ (W : WX) (pn : List (Addr × Obj)) (xe : Value → Shared → Prop), Takes (X.tr pn xe) W → PassesOwn (model X.prog X.w) X.A X.env xe → PSs (X.tr pn xe) body (tb W))
    (hsu : ∀ (a : Addr) (oe : Obj) (cls : Value) (d : Option Addr) (pn : List (Addr × Obj)), Zc cls d oe → (∃ vs, oe.data = .fields vs) → PSs (X.suite a ((a, oe) :: pn)) (b₀ :: suite) (ts a cls d)) :
    PS X (.Try body [.ExceptHandler (some (.Name x np)) (some n) (b₀ :: suite) pos'] [] [] pos) (fun Dn σ H => tb (wKeep X.K c i ts Wout Dn) Dn σ H) := by
  refine ⟨fun pins s σ H Dn I h => ?_⟩
  have ok := I.ok
  have hfr : X.A.frames = some (X.env :: X.outer) := by rw [ok.frames, hs]
  have hloc : Loc X.env.scope n := .inl hln
  refine wpAny_Try_except ?_
  refine wpAny_mono ((hb (wKeep X.K c i ts Wout Dn) (X.pn ++ pins) (fun e s₁ => wpAny (model X.prog X.w) X.A (noteFrame e X.env) (fun _ s₂ => wpAny (model X.prog X.w) X.A (setFlight e none) (fun _ s₃ =>
    wpAny (model X.prog X.w) X.A (handleBy e X.env [.ExceptHandler (some (.Name x np)) (some n) (b₀ :: suite) pos']) (SP X pins Dn) X.xe s₃) X.xe s₂) X.xe s₁) (fun u s' xx => ?_) PassesOwn.looking).run [] s σ H Dn (I.toTry _) h) (fun f s1 hsp => ?_) (fun e s1 he => he)
  · -- the catch
    obtain ⟨a, B, sI, pins', σ', H', cls, d, rfl, J', nb, up, sky, na, os, ag, b, hb1, hyes, hno⟩ := xx
    have J : L2.Inv X pins σ' H' sI := J'.ofTry ok
    have sky' : Sky B (X.env :: X.outer) a (Zc cls d) X.env.locals s'.heap := by rw [← hs]; exact sky
    show wpAny (model X.prog X.w) X.A (noteFrame (.ref a) X.env) _ _ _
    refine Sky.land Zc.steady hfr hf sky' fun h3 fl3 up3 => ?_
    have J3 : L2.Inv X pins σ' H' { s' with heap := h3 } := J.landed nb fl3.1 (up.trans up3) os ag
    obtain ⟨oe3, vs3, he3, hz3, hd3⟩ := fl3.there
    have notFr : ∀ {h : Heap} {o : Obj} {vs : Array Value}, h.FunFrames B (X.env :: X.outer) → h.get? a = some o → o.data = .fields vs → a ∉ frs (X.env :: X.outer) := fun {h o vs} ff e dd hm => by
      obtain ⟨_, o', e', hnf⟩ := ff.mem hm
      rw [e] at e'; cases e'
      exact hnf _ dd
    have nfr := notFr fl3.2.2.1 he3 hd3
    have nL : a ≠ X.env.locals := fun z => nfr (List.mem_filterMap.mpr ⟨X.env, List.mem_cons_self, by rw [hf, z]⟩)
    have nF : a ∉ X.fs := fun hm => by
      obtain ⟨e, he, q⟩ := List.mem_filterMap.mp hm
      exact nfr (List.mem_filterMap.mpr ⟨e, List.mem_cons_of_mem _ he, q⟩)
    have nI : sI.heap.get? a = none := by
      cases q : sI.heap.get? a with
      | none => rfl
      | some o =>
        have z := nb a o q (by show a ∉ frs X.stack; rw [hs]; exact nfr)
        rw [fl3.2.1] at z
        cases z
    have n0 : X.s_0.heap.get? a = none := by
      cases q : X.s_0.heap.get? a with
      | none => rfl
      | some o =>
        obtain ⟨o', e⟩ := J.base.there a o q (by rw [hex]; exact fun z => nomatch z)
        rw [nI] at e
        cases e
    have nC : ∀ x c, X.env.cells.lookup x = some c → c ≠ a := fun x c e z => by
      obtain ⟨v, q⟩ := J.cell x c e
      obtain ⟨o, ho, _⟩ := q
      rw [z, nI] at ho
      cases ho
    have nP : ∀ p ∈ X.pn ++ pins, p.1 ≠ a := fun p hp z => by
      have q := (J.pin p hp).1
      rw [z, nI] at q
      cases q
    have S3 := J3.suite he3 hd3 na nL nF
    refine wpAny_handleBy_cons (codeAny_handlers_test ?_) (by intro q; cases q)
    have LT : PySem.W.Looks (model X.prog X.w) h3 (typeOf (.ref a)) cls := fun A Q E s k q => wpAny_typeOf_ref (k _ _ he3) (by rw [hz3.1]; exact q)
    have LM := PySem.W.exm_one (M := model X.prog X.w) (J3.kIn) LT hb1
    have test : ∀ {Q : Value → Shared → Prop} {E : Value → Shared → Prop}, Q c { s' with heap := h3 } → wpAny (model X.prog X.w) (X.A.mark (some (.ref a))) (eval (.Name x np) X.env) Q E { s' with heap := h3 } := fun {Q E} q => by
      obtain ⟨hg, hdbg, hm | ⟨hm, hv, hnn⟩⟩ := hc
      · exact ld_glob (X := X.suite a ((a, oe3) :: (X.pn ++ pins))) S3 hg hm q hdbg
      · exact ld_blt (X := X.suite a ((a, oe3) :: (X.pn ++ pins))) S3 hg hm hv q hnn hdbg
    refine test (LM.here ?_)
    cases b with
    | true =>
      refine codeAny_handlers_suite_as ?_
      refine HandSPX.lands_againZ fl3 fun h4 fl4 up4 => ?_
      have J4 : L2.Inv X pins σ' H' { s' with heap := h4 } := J.landed nb fl4.1 ((up.trans up3).trans up4) os ag
      obtain ⟨oe4, vs4, he4, hz4, hd4⟩ := fl4.there
      have S4 := J4.suite he4 hd4 na nL nF
      refine store_ok (X := X.suite a ((a, oe4) :: (X.pn ++ pins))) (v := .ref a) S4 hN hi hloc rfl (fun s5 S5 => ?_) (.inr hln)
      refine wpAny_mono ((hsu a oe4 cls d (X.pn ++ pins) hz4 ⟨_, hd4⟩).run [] s5 _ H' _ S5 (hyes rfl a na)) (fun f s6 hsp => ?_) (fun _ _ z => False.elim z)
      have end_ : ∀ {σ6 : L2.St} {H6 : Hp} {Q : Shared → Prop}, L2.Inv (X.suite a ((a, oe4) :: (X.pn ++ pins))) [] σ6 H6 s6 → (∀ s7, L2.Inv X pins (σ6.set i none) (upd H6 a (ExcK cls d a)) s7 → Q s7) →
          wpAny (model X.prog X.w) X.A (do bindName X.env n .none; unbindBehindTheSuite X.env n pos') (fun _ s7 => Q s7) X.xe s6 := fun {σ6 H6 Q} S6 hq => by
        have P6 := S6.pin (a, oe4) (List.mem_append_left _ List.mem_cons_self)
        exact gone_ok (Inv.track (S6.unsuite ok) P6.1 hz4 hd4 P6.2.1 n0 nL nC nP) hN hi hln hq
      have endr : ∀ {σ6 : L2.St} {H6 : Hp} {Q : Shared → Prop}, L2.Inv (X.suite a ((a, oe4) :: (X.pn ++ pins))) [] σ6 H6 s6 → (∀ s7, L2.Inv X pins (σ6.set i none) H6 s7 → Q s7) →
          wpAny (model X.prog X.w) X.A (do bindName X.env n .none; unbindBehindTheSuite X.env n pos') (fun _ s7 => Q s7) X.xe s6 := fun {σ6 H6 Q} S6 hq => gone_ok (S6.unsuite ok) hN hi hln hq
      cases f with
      | next =>
        obtain ⟨σ6, H6, S6, q6⟩ := hsp
        exact end_ S6 fun s7 J7 => ⟨_, _, J7, q6⟩
      | brk =>
        obtain ⟨σ6, H6, S6, q6⟩ := hsp
        exact end_ S6 fun s7 J7 => ⟨_, _, J7, q6⟩
      | cont =>
        obtain ⟨σ6, H6, S6, q6⟩ := hsp
        exact end_ S6 fun s7 J7 => ⟨_, _, J7, q6⟩
      | ret u =>
        obtain ⟨v6, σ6, H6, S6, r6, q6⟩ := hsp
        exact endr S6 fun s7 J7 => ⟨_, _, _, J7, r6, q6⟩
    | false =>
      show wpAny _ X.A (handleBy (.ref a) X.env []) _ _ _
      refine wpAny_handleBy_nil ?_
      obtain ⟨k1, k2, k3, oe, vs, T, oT, ts', he, hz, hd, h1, hr⟩ := id fl3
      unfold PySem.passOn
      refine wpAny_bind (wpAny_field he hd h1 ?_)
      rw [if_neg (show ¬ ((Value.ref T == Value.none) = true) from by simp)]
      have fin : wpAny (model X.prog X.w) X.A (setFlight (.ref a) X.env.frame) (fun _ s4 => wpAny (model X.prog X.w) X.A (throw (.ref a) : Sem Flow) (SP X pins Dn) X.xe s4) X.xe { s' with heap := h3 } := by
        rw [hf]
        refine HandSPX.setFlight_upZ fl3 fun h4 hh4 up4 => wpAny_throw (tk _ _ ?_)
        exact ⟨a, B, sI, pins, σ', H', cls, d, rfl, J, nb, (up.trans up3).trans up4, .inr (.inr (by rw [hs]; exact hh4)), na, os, ag, hno rfl⟩
      first
        | exact wpAny_bind (wpAny_pure (wpAny_bind fin))
        | exact wpAny_bind fin
  · cases f with
    | next =>
      obtain ⟨σ', H', J', q⟩ := hsp
      exact wpAny_execs_nil ⟨σ', H', J'.ofTry ok, q⟩
    | brk =>
      obtain ⟨σ', H', J', q⟩ := hsp
      exact ⟨σ', H', J'.ofTry ok, q⟩
    | cont =>
      obtain ⟨σ', H', J', q⟩ := hsp
      exact ⟨σ', H', J'.ofTry ok, q⟩
    | ret u =>
      obtain ⟨v, σ', H', J', r, q⟩ := hsp
      exact ⟨v, σ', H', J'.ofTry ok, r, q⟩
end

/-! ### try: body; except C as n: y = n -/
def cTryK (b : CS) (sub : Nat → Option Bool) (i j : Nat) : CS := fun env ah => match b env ah with
  | .exc c l env' ah' => match sub c with
    | some true => if i < env'.length then .nx (((env'.set i .no).set j (.val (.exc c l))).set i .no) ah' else .bad
    | some false => .exc c l env' ah'
    | none => .bad
  | r => r
section
variable {X : Cx} {t : Tb} {W : WX} {w0 : Wd} {H0 : Bs} {x n y : Str} {cv : Value} {c1 : CS} {i j : Nat} {body : List Stmt} {np n1 n2 p1 pos pos' : Pos} {sub : Nat → Option Bool}
theorem z_tryK (i j : Nat) (hN : X.N.Nodup) (hc : Names X x cv) (tk : Takes X W) (hsub : ∀ c b, sub c = some b → PySem.W.exmOne t.K (.ref (t.cl c)) cv = some b)
    (hb : ∀ (W : WX) (pn : List (Addr × Obj)) (xe : Value → Shared → Prop), Takes (X.tr pn xe) W → PassesOwn (model X.prog X.w) X.A X.env xe → PSs (X.tr pn xe) body (tS t W w0 H0 c1))
    (hK : t.K = X.K := by rfl) (hij : i ≠ j := by decide) (hi : X.N[i]? = some n := by rfl) (hj : X.N[j]? = some y := by rfl) (hs : X.stack = X.env :: X.outer := by rfl) (hf : X.env.frame = some X.env.locals := by rfl) (hex : X.ex = [] := by rfl) (hln : X.env.kindOf n = some .local := by rfl) (hly : X.env.scope.names.lookup y = some .local := by rfl)
    (hsw : swapsWith (.Name n n2) (some (.Name y n1)) p1.line X.env = pure false := by rfl) (hd : (n == ("__debug__" : Str)) = false := by decide) (hcd : (n == ("__classdict__" : Str)) = false := by decide) :
    PS X (.Try body [.ExceptHandler (some (.Name x np)) (some n) [.Assign [.Name y n1] (.Name n n2) p1] pos'] [] [] pos) (tS t W w0 H0 (cTryK c1 sub i j)) := by
  refine PS.imp (ps_try_keep (tb := fun W => tS t W w0 H0 c1) (ts := fun _ _ _ => tAsg (tVar i) (gName j)) hs hf hex hN hi hln hc tk hb fun a oe cls d pn hz hv => ?_) ?_
  · exact pss_one (ps_set (X := X.suite a ((a, oe) :: pn)) hN hj (.inl hly) (pv i hi (.inl hln) hd hcd) hsw (.inr hly))
  · rintro Dn σ H ⟨w, env, ah, s, A, E, P⟩
    refine ⟨w, env, ah, s, A, E, ?_⟩
    unfold cTryK at P
    cases e : c1 env ah with
    | nx env' ah' => rw [e] at P; exact P
    | rt d ah' => rw [e] at P; exact P
    | bk env' ah' => rw [e] at P; exact P
    | ct env' ah' => rw [e] at P; exact P
    | bad => rw [e] at P; exact P
    | exc c l env' ah' =>
      rw [e] at P
      simp only at P
      intro w' σ' d H' le' s' A' E' x'
      cases hb : sub c with
      | none => rw [hb] at P; exact False.elim P
      | some k =>
        rw [hb] at P
        refine ⟨k, by rw [← hK]; exact hsub c k hb, fun hk a na => ?_, fun hk => ?_⟩
        · subst hk
          simp only at P
          by_cases hl : i < env'.length
          · rw [if_pos hl] at P
            rw [E'.len] at hl
            refine ⟨.ref a, by rw [List.getElem?_set_self hl], ?_⟩
            obtain ⟨s2, A2⟩ := stp_add (o := ExcK (.ref (t.cl c)) d a) A' na
            refine P _ _ _ (le'.trans s2.le) (s'.trans s2) A2 (relE_no (relE_val (relE_no (E'.step s2)) ?_))
            simp only [Rep]
            refine ⟨a, d, rfl, add_at, ?_⟩
            rcases ExcD.mono s2.le x' with q | q
            · exact .inl q
            · exact .inr q
          · rw [if_neg hl] at P
            exact False.elim P
        · subst hk
          exact P w' σ' d H' le' s' A' E' x'
/-! ### raise -/
def cRaise (c : Nat) : CS := fun env ah => .exc c [] env ah
theorem z_raise (c : Nat) {x m : Str} {B newId initId : String} {bmB : List Value} {j : Nat} {p p2 pos2 : Pos} (hc : X.calm = true) (tk : Takes X W) (F : ExcBaseFacts B newId initId bmB) (q : PySem.W.excIn X.K (t.cl c) bmB newId = true) (gC : X.mg x = some (.ref (t.cl c))) (kC : PySem.W.keepIn X.K (.ref (t.cl c)) = true)
    (h1 : PySem.W.subIn X.K (.ref (t.cl c)) (.type "BaseException") = some true) (h2 : PySem.W.typeIn X.K (.ref (t.cl c)) = some (.type "type")) (hg : Gl X x := by rfl) (hdb : (x == ("__debug__" : Str)) = false := by decide) :
    PS X (.Raise (some (.Call (.Name x p) [.Constant (.str m) j p2] [] pos)) none pos2) (tS t W w0 H0 (cRaise c)) := by
  refine PS.imp (ps_raise hc tk (pmk_own F q gC kC (raises_own h1 h2) hg hdb)) ?_
  rintro Dn σ H ⟨w, env, ah, s, A, E, P⟩
  exact P w σ none H (Wle.refl _) s A E (.inl ⟨rfl, rfl⟩)

/-! ### isinstance -/
/-- what the written part says of a class whose instances are asked -/
structure ObjC (K : PySem.W.Frag) (C : Addr) : Prop where
  cls : Cls K C
  ha : PySem.W.findIn K (.ref C) "__class__" = some (some (.builtin "object.__class__"))
  hn : PySem.W.specialIn K (.builtin "object.__class__") "__get__" = some (some (.builtin "getset_descriptor.__get__"))
  htk : PySem.W.takesIn K (.builtin "object.__class__") = some true
  hm : PySem.W.mroIn K C (.type "object") = some true
theorem call_isX {K : PySem.W.Frag} : CallR X (.builtin "isinstance") (fun xs H Q => rIsi X.K xs H Q ∨ ∃ (a C : Addr) (c : V) (u : Value) (b : Bool), xs = [.ref a, c] ∧ H a = some (ExcK (.ref C) none a) ∧ ClsV c u ∧ ExcC X.K C ∧ PySem.W.kitOne X.K (.ref C) u = some b ∧ Q (.bl b) H) := by
  refine call_isi.or ?_
  intro pins s σ H xs us Q I r h
  obtain ⟨a, C, c, u, b, rfl, hx, hc, hC, e, q⟩ := h
  obtain ⟨u1, u2, rfl, r1, r2⟩ := vals2 r
  have e2 := hc.eq r2
  subst e2
  cases r1
  have z : ObjOk X.prog X.w H s.heap a (ExcK (.ref C) none a) := I.hok a _ hx
  obtain ⟨⟨oe, vs, hget, hz, hv⟩, _⟩ := z
  have J : PySem.W.InstAt s.heap a oe C none := by
    obtain ⟨oc, od, oda, osl⟩ := oe
    obtain ⟨h1, h2⟩ := hz
    dsimp only at h1 h2 hv
    subst h1 h2 hv
    exact ⟨hget, rfl, rfl, trivial⟩
  exact PySem.W.kia_one (PySem.W.handS_kitx_exc hC.hg hC.hk hC.hs hC.hd hC.ha hC.hn hC.ht hC.hm) I.kIn J e (fun z => nomatch z) fun tk => ⟨.bl b, H, I.tok tk, rfl, q⟩
/-- the deciders' word for what a datum is an instance of -/
def IsK (t : Tb) (ah : AH) (d : D) (u : Value) (b : Bool) : Prop := match d with
  | .non => PySem.W.kitOne t.K (.type "NoneType") u = some b
  | .bl _ => PySem.W.kitOne t.K (.type "bool") u = some b
  | .int _ => PySem.W.kitOne t.K (.type "int") u = some b
  | .str _ => PySem.W.kitOne t.K (.type "str") u = some b
  | .tup _ => PySem.W.kitOne t.K (.type "tuple") u = some b
  | .lst _ => PySem.W.kitOne t.K (.type "list") u = some b
  | .dct _ _ => PySem.W.kitOne t.K (.type "dict") u = some b
  | .obj c _ => ObjC t.K (t.cl c) ∧ PySem.W.kitOne t.K (.ref (t.cl c)) u = some b
  | .exc c l => l = [] ∧ ExcC t.K (t.cl c) ∧ PySem.W.kitOne t.K (.ref (t.cl c)) u = some b
  | .ref n => ∃ c l, ah[n]? = some (.ins c l) ∧ ObjC t.K (t.cl c) ∧ PySem.W.kitOne t.K (.ref (t.cl c)) u = some b
  | .scr _ => False
def cIsI (f : AH → D → Option Bool) (a : CE) : CE := cUn (fun ah d => (f ah d).map D.bl) a
variable {xa : CE} {a : Expr}
theorem q_isI {f : AH → D → Option Bool} {T : Expr} {cV : V} {u : Value} {p pos : Pos} (hT : PE X T (tC cV)) (hc : ClsV cV u) (hf : ∀ ah d b, f ah d = some b → IsK t ah d u b) (ha : PE X a (tE t W H0 xa)) (hm : X.mg "isinstance" = none) (hg : Gl X "isinstance" := by rfl) (hK : t.K = X.K := by rfl)
    (hs1 : starEach [a, T] X.env = (false, eval a X.env) :: starEach [T] X.env := by rfl) (hs2 : starEach [T] X.env = (false, eval T X.env) :: starEach [] X.env := by rfl) (hpl : (backTo pos (starEach [T] X.env)).any (·.1) = false := by rfl) :
    PE X (.Call (.Name "isinstance" p) [a, T] [] pos) (tE t W H0 (cIsI f xa)) := by
  refine PE.imp (pe_callB (call_isX (K := X.K)) hg hm (by decide +kernel) (pa_cons ha (pa_cons hT pa_nil hs2) hs1) (by decide) (by decide) hs1 hpl) ?_
  rintro σ H Q ⟨w, env, ah, A, E, P⟩
  refine ⟨w, env, ah, A, E, post_bind P fun d ah1 w1 v H1 s1 A1 r1 P1 => ?_⟩
  show (rIsi X.K [v, cV] H1 Q) ∨ _
  replace P1 : Post t (Rep t) w1 H1 (ofO ((f ah1 d).map D.bl) ah1) Q (fun cls d H' => W cls d σ H') := P1
  cases e : f ah1 d with
  | none => rw [e] at P1; exact False.elim P1
  | some b =>
    rw [e] at P1
    have hk := hf ah1 d b e
    have fin : Q (.bl b) H1 := post_ok P1 A1 (by simp only [Rep])
    unfold IsK at hk
    rw [hK] at hk
    cases d <;> simp only at hk <;> simp only [Rep] at r1
    · subst r1
      exact .inl ⟨_, _, _, u, b, rfl, hc, .base .non, hk, fin⟩
    · subst r1
      exact .inl ⟨_, _, _, u, b, rfl, hc, .base (.bl _), hk, fin⟩
    · subst r1
      exact .inl ⟨_, _, _, u, b, rfl, hc, .base (.int _), hk, fin⟩
    · subst r1
      exact .inl ⟨_, _, _, u, b, rfl, hc, .base (.str _), hk, fin⟩
    · obtain ⟨p, vs, rfl, h1, h2⟩ := r1
      rw [hK] at h1
      rcases same_sqT A1.sub h1 with (h | ⟨o, h⟩) | ⟨o, its, n, h3, h4, _⟩
      · exact .inl ⟨_, _, _, u, b, rfl, hc, .base (.tup h), hk, fin⟩
      · exact .inl ⟨_, _, _, u, b, rfl, hc, .fTuple h, hk, fin⟩
      · exact .inl ⟨_, _, _, u, b, rfl, hc, .kTuple h3 h4, hk, fin⟩
    · obtain ⟨p, vs, rfl, h1, h2⟩ := r1
      exact .inl ⟨_, _, _, u, b, rfl, hc, .base (.lst (A1.sub _ _ h1)), hk, fin⟩
    · obtain ⟨p, vs, rfl, h1, h2⟩ := r1
      exact .inl ⟨_, _, _, u, b, rfl, hc, .base (.dK (A1.sub _ _ h1)), hk, fin⟩
    · obtain ⟨p, dx, vs, rfl, h1, h2⟩ := r1
      exact .inl ⟨_, _, _, u, b, rfl, hc, .base (.ins (A1.sub _ _ h1) hk.1.cls hk.1.ha hk.1.hn hk.1.htk hk.1.hm), hk.2, fin⟩
    · obtain ⟨p, dd, rfl, h1, h2⟩ := r1
      obtain ⟨e1, e2, e3⟩ := hk
      rcases h2 with ⟨_, rfl⟩ | ⟨h3, _⟩
      · exact .inr ⟨p, _, cV, u, b, rfl, A1.sub _ _ h1, hc, e2, e3, fin⟩
      · exact absurd e1 h3
    · obtain ⟨p, rfl, h1⟩ := r1
      obtain ⟨c, l, e1, e2, e3⟩ := hk
      obtain ⟨h0, dx, vs, h2, _⟩ := A1.obj _ _ p e1 h1
      exact .inl ⟨_, _, _, u, b, rfl, hc, .base (.ins h2 e2.cls e2.ha e2.hn e2.htk e2.hm), e3, fin⟩
end
end G
/-! The engine, part 8: the rule for a def, instances made, methods, lists of a slot. -/
namespace G
open PySem PySem.Spec PyProof.Rows L2

/-! ### a def -/
def env0 (N : Nat) (ds : List D) : En := ds.map Sl.val ++ List.replicate (N - ds.length) Sl.no
def runDef (c : CS) (N : Nat) : FD := fun ds ah => match c (env0 N ds) ah with
  | .rt d ah' => .ok d ah'
  | .nx _ ah' => .ok .non ah'
  | .exc c l _ ah' => .exc c l ah'
  | _ => .bad
theorem relE_start {t : Tb} {H0 : Bs} {H : Hp} {w : Wd} {N : List Str} {ds : List D} {vs : List V} (r : Reps t w ds vs) (hl : vs.length ≤ N.length) : RelE t H0 w (env0 N.length ds) (L2.start N vs) H := by
  have e1 := reps_len r
  refine ⟨?_, fun i s e => ?_, fun i j o p a h e1 e2 => ?_⟩
  · unfold env0 L2.start
    rw [List.length_append, List.length_append, List.length_map, List.length_map, List.length_replicate, List.length_replicate, e1]
  · unfold env0 at e
    by_cases hi : i < ds.length
    · rw [List.getElem?_append_left (by simpa using hi), List.getElem?_map, List.getElem?_eq_getElem hi] at e
      cases e
      obtain ⟨v, h1, h2⟩ := reps_get r (List.getElem?_eq_getElem hi)
      refine ⟨v, ?_, h2⟩
      unfold L2.start
      rw [List.getElem?_append_left (by rw [List.length_map, ← e1]; exact hi), List.getElem?_map, h1]
      rfl
    · rw [List.getElem?_append_right (by simpa using hi), List.getElem?_replicate] at e
      split at e
      · cases e
        trivial
      · cases e
  · unfold env0 at e1
    by_cases hi : i < ds.length
    · rw [List.getElem?_append_left (by simpa using hi), List.getElem?_map, List.getElem?_eq_getElem hi] at e1
      cases e1
    · rw [List.getElem?_append_right (by simpa using hi), List.getElem?_replicate] at e1
      split at e1
      · cases e1
      · cases e1
section
variable {P : Program} {w : World} {K : PySem.W.Frag} {mg : Str → Option Value} {base : Heap} {t : Tb}
/-- THE RULE for a def -/
theorem ok_def {x qual : Str} {st : Stmt} {dvs : List V} {f : Addr} {fd : FuncData} {N ps : List Str} {k : Nat} {c : CS} (Fn : FunD K x qual (defArgs st) (defBody st) (defScope st) dvs [] f fd) (S : FnScope N ps (defScope st))
    (hbody : ∀ (cdv : Value) (A : Around) (outer : List Env) (s : Shared) (H0 : Hp) (E : XK) (w0 : Wd), Room k (A.deeper (envOfC qual (defScope st) s.heap.objs.size f cdv)) →
      PSs (cxOf (L2.CX P w) P w K mg base N qual (defScope st) f cdv A outer s H0 E) (defBody st) (tS t (fun cls d _ H => E cls d H) w0 ⟨H0, 0⟩ c)) :
    FnOk P w K mg base (L2.CX P w) (k + 1) f fd ps (spD t (runDef c N.length) ps.length) := by
  refine Fn.ok S (spD_len rfl) fun cdv A outer s H vs Q E hr hsp => ?_
  obtain ⟨hl, w0, ds, ah, A0, r, P0⟩ := hsp
  refine ⟨_, hbody cdv A outer s H E w0 hr, w0, env0 N.length ds, ah, Stp.refl _ _, A0, relE_start r ?_, ?_⟩
  · have := congrArg List.length S.pre
    rw [List.length_take] at this
    omega
  · unfold runDef at P0
    cases e : c (env0 N.length ds) ah with
    | nx env ah' =>
      rw [e] at P0
      exact fun w' σ H' _ s' A' E' => P0 w' .non H' s' A' (by simp only [Rep])
    | rt d ah' =>
      rw [e] at P0
      exact fun w' v H' _ s' A' r' => P0 w' v H' s' A' r'
    | bk env ah' => rw [e] at P0; exact False.elim P0
    | ct env ah' => rw [e] at P0; exact False.elim P0
    | bad => rw [e] at P0; exact False.elim P0
    | exc cc l env ah' =>
      rw [e] at P0
      exact fun w' σ d H' _ s' A' E' x' => P0 w' d H' s' A' x'
end

/-! ### instances -/
/-- what an __init__ does: the fields' data from the arguments -/
abbrev FI := List D → AH → Res (List D)
def PostI (t : Tb) (c : Nat) (p : Addr) (w0 : Wd) (H0 : Hp) (r : Res (List D)) (Q : VK) (E : XK) : Prop := match r with
  | .ok l ah => ∀ w dx vs H, Stp w0 H0 w H → RelA t w ah H → H p = some (.ins (t.cl c) dx ((t.fl c).zip vs)) → vs.length = (t.fl c).length → w.Hf p = none → p ∉ w.ρ → Reps t w l vs → Q .non H
  | .exc e l ah => ∀ w d H, Stp w0 H0 w H → RelA t w ah H → ExcD t w e l d → E (.ref (t.cl e)) d H
  | .bad => False
def spI (t : Tb) (c : Nat) (F : FI) (n : Nat) : Sp := fun vs H Q E => vs.length = n + 1 ∧ ∃ (p dx : Addr) (vr : List V) (w : Wd) (Hb : Hp) (ds : List D) (ah : AH), vs = .ref p :: vr ∧ Hb p = none ∧ Stp w Hb w H ∧ RelA t w ah H ∧ w.Hf p = none ∧ p ∉ w.ρ ∧ H p = some (.ins (t.cl c) dx []) ∧ Reps t w ds vr ∧ PostI t c p w Hb (F ds ah) Q E
theorem spI_len {t : Tb} {c : Nat} {F : FI} {n : Nat} {ps : List Str} (h : n + 1 = ps.length) : ∀ vs H Q E, spI t c F n vs H Q E → vs.length = ps.length := fun vs H Q E q => by rw [q.1, h]
def env1 (cls N : Nat) (ds : List D) : En := .own (.ins cls []) :: (ds.map Sl.val ++ List.replicate (N - (ds.length + 1)) Sl.no)
def endI (cls nf : Nat) (env : En) (ah : AH) : Res (List D) := match env with
    | .own (.ins k l) :: _ => if k = cls ∧ l.length = nf then .ok l ah else .bad
    | _ => .bad
def runInit (c : CS) (N cls nf : Nat) : FI := fun ds ah => match c (env1 cls N ds) ah with
  | .nx env ah' => endI cls nf env ah'
  | .exc e l _ ah' => .exc e l ah'
  | _ => .bad
section
variable {P : Program} {w : World} {K : PySem.W.Frag} {mg : Str → Option Value} {base : Heap} {t : Tb}
theorem ok_init {x qual : Str} {st : Stmt} {dvs : List V} {f : Addr} {fd : FuncData} {N ps : List Str} {k cls : Nat} {c : CS} {n : Nat} (Fn : FunD K x qual (defArgs st) (defBody st) (defScope st) dvs [] f fd) (S : FnScope N ps (defScope st)) (hn : n + 1 = ps.length)
    (hbody : ∀ (cdv : Value) (A : Around) (outer : List Env) (s : Shared) (H : Hp) (H0 : Bs) (E : XK) (w0 : Wd), Room k (A.deeper (envOfC qual (defScope st) s.heap.objs.size f cdv)) →
      PSs (cxOf (L2.CX P w) P w K mg base N qual (defScope st) f cdv A outer s H E) (defBody st) (tS t (fun cls d _ H => E cls d H) w0 H0 c)) :
    FnOk P w K mg base (L2.CX P w) (k + 1) f fd ps (spI t cls (runInit c N.length cls (t.fl cls).length) n) := by
  refine Fn.ok S (spI_len hn) fun cdv A outer s H vs Q E hr hsp => ?_
  obtain ⟨hl, p, dx, vr, w0, Hb, ds, ah, rfl, hp, st0, A0, hf, hr0, h1, r, P0⟩ := hsp
  have hlen : ps.length ≤ N.length := by
    have := congrArg List.length S.pre
    rw [List.length_take] at this
    omega
  have e1 := reps_len r
  have hvl : vr.length = n := by simpa using hl
  have es : L2.start N (.ref p :: vr) = some (.ref p) :: (vr.map some ++ List.replicate (N.length - (vr.length + 1)) none) := by
    unfold L2.start
    rw [List.map_cons, List.length_cons, List.cons_append]
  have hE : RelE t ⟨Hb, p⟩ w0 (env1 cls N.length ds) (L2.start N (.ref p :: vr)) H := by
    rw [es]
    unfold env1
    refine ⟨by simp [e1], fun i sl e => ?_, fun i j o q a h e1' e2 => ?_⟩
    · cases i with
      | zero =>
        simp only [List.getElem?_cons_zero, Option.some.injEq] at e
        subst e
        exact ⟨p, _, by simp, h1, ⟨hf, dx, [], by rw [h1, List.zip_nil_right], Nat.zero_le _, by simp only [Reps]⟩, hp, hr0, hf, fun _ => rfl⟩
      | succ i =>
        rw [List.getElem?_cons_succ] at e ⊢
        by_cases hi : i < ds.length
        · rw [List.getElem?_append_left (by simpa using hi), List.getElem?_map, List.getElem?_eq_getElem hi] at e
          cases e
          obtain ⟨v, h2, h3⟩ := reps_get r (List.getElem?_eq_getElem hi)
          refine ⟨v, ?_, h3⟩
          rw [List.getElem?_append_left (by rw [List.length_map, ← e1]; exact hi), List.getElem?_map, h2]
          rfl
        · rw [List.getElem?_append_right (by simpa using hi), List.getElem?_replicate] at e
          split at e
          · cases e
            trivial
          · cases e
    · have no : ∀ (i : Nat) (o : MO), (Sl.own (.ins cls []) :: (ds.map Sl.val ++ List.replicate (N.length - (ds.length + 1)) Sl.no))[i]? = some (.own o) → i = 0 := fun i o e => by
        cases i with
        | zero => rfl
        | succ i =>
          rw [List.getElem?_cons_succ] at e
          by_cases hi : i < ds.length
          · rw [List.getElem?_append_left (by simpa using hi), List.getElem?_map, List.getElem?_eq_getElem hi] at e
            cases e
          · rw [List.getElem?_append_right (by simpa using hi), List.getElem?_replicate] at e
            split at e
            · cases e
            · cases e
      exact absurd ((no i o e1').trans (no j q e2).symm) h
  refine ⟨_, hbody cdv A outer s H ⟨Hb, p⟩ E w0 hr, w0, env1 cls N.length ds, ah, st0, A0, hE, ?_⟩
  unfold runInit at P0
  cases e : c (env1 cls N.length ds) ah with
  | nx env ah' =>
    rw [e] at P0
    intro w' σ H' _ s' A' E'
    simp only at P0
    unfold endI at P0
    split at P0
    · rename_i k l tl
      split at P0
      · rename_i hk
        obtain ⟨rfl, hl2⟩ := hk
        obtain ⟨a, ob, q1, q2, q3, q4, q5, q6, q7⟩ := E'.slot 0 (.own (.ins k l)) (by simp)
        have ea : a = p := q7 rfl
        subst ea
        obtain ⟨m1, dx', vs', m2, m3, m4⟩ := q3
        exact P0 w' dx' vs' H' s' A' m2 (by rw [← reps_len m4]; exact hl2) q6 q5 m4
      · exact False.elim P0
    · exact False.elim P0
  | rt d ah' => rw [e] at P0; exact False.elim P0
  | bk env ah' => rw [e] at P0; exact False.elim P0
  | ct env ah' => rw [e] at P0; exact False.elim P0
  | bad => rw [e] at P0; exact False.elim P0
  | exc cc l env ah' =>
    rw [e] at P0
    exact fun w' σ d H' _ s' A' E' x' => P0 w' d H' s' A' x'
end
/-! ### C(..) -/
def cMake (cls : Nat) (F : FI) (n : Nat) (dds : List D) (a : CA) : CE := fun env ah => (a env ah).bind fun l ah1 => if (l ++ dds).length = n then (F (l ++ dds) ah1).bind fun fs ah2 => .ok (.obj cls fs) ah2 else .bad
section
variable {X : Cx} {t : Tb} {W : WX} {w0 : Wd} {H0 : Bs} {xa xb : CE} {ca : CA} {a b e o : Expr} {es : List Expr} {pos : Pos}
def tMakeS (C : Addr) (sp : Sp) (dvs : List V) (E : L2.St → XK) (u : TA) : TE := fun σ H Q => u σ H fun vs H1 => ∀ x dx, H1 x = none → H1 dx = none → dx ≠ x →
  sp (.ref x :: (vs ++ dvs)) (upd (upd H1 dx (.own x)) x (.ins C dx [])) (fun v H2 => v = .non ∧ Q (.ref x) H2) (E σ)
theorem run_makeS {pins : List (Addr × Obj)} {σ : L2.St} {H : Hp} {s : Shared} {Q : VK} {us : List Value} {vs : List V} {C f : Addr} {fd : FuncData} {ps : List Str} {sp : Sp} {dvs : List V} {ds : List Value} {E : XK} {k : Nat} {CX : CXT} (M : Mk X.K C f) (F : FnOk X.prog X.w X.K X.mg X.base CX k f fd ps sp) (hr : Room (k + 1) X.A) (hb : L2.Binds X.K fd ps ds) (hd : Vals dvs ds)
    (hx : PassesAt CX X σ E) (I : L2.Inv X pins σ H s) (r : Vals vs us)
    (h : ∀ x dx, H x = none → H dx = none → dx ≠ x → sp (.ref x :: (vs ++ dvs)) (upd (upd H dx (.own x)) x (.ins C dx [])) (fun v H2 => v = .non ∧ Q (.ref x) H2) E) :
    wpAny (model X.prog X.w) X.A (call (.ref C) us) (EP X pins σ Q) X.xe s := by
  have hq := h (s.heap.objs.size + 1) s.heap.objs.size (I.hok.fresh (Nat.le_succ _)) (I.hok.fresh (Nat.le_refl _)) (Nat.ne_of_lt (Nat.lt_succ_self _))
  have I2 := L2.Inv.made (C := C) I
  have r2 : Vals (V.ref (s.heap.objs.size + 1) :: (vs ++ dvs)) (Value.ref (s.heap.objs.size + 1) :: (us ++ ds)) := .cons rfl (r.append hd)
  have hl : (Value.ref (s.heap.objs.size + 1) :: us ++ ds).length = ps.length := by
    have e := r2.length
    rw [F.len _ _ _ _ hq] at e
    exact e.symm
  refine wpAny_call (make_map (f := f) I.kIn M.makes M.init (beq_iff_eq.mp M.fn) (codeAny_mono (F.run _ X.stack _ _ ⟨Value.ref (s.heap.objs.size + 1) :: us, []⟩ (Value.ref (s.heap.objs.size + 1) :: (us ++ ds)) _ _ E (hr.make C us [])
    (I2.env0.make C us []) (hb _ (Value.ref (s.heap.objs.size + 1) :: us) I2.kIn hl) r2 hq) fun r s' hq' => ?_))
  cases r with
  | error e => exact hx pins _ _ e s' I2 hq'
  | ok fl =>
    cases fl with
    | ret u =>
      obtain ⟨v, H', I3, rv, ev, q3⟩ := I2.after hq'
      subst ev
      exact ⟨rv, ⟨V.ref (s.heap.objs.size + 1), H', I3, rfl, q3⟩⟩
    | next => exact False.elim hq'
    | brk => exact False.elim hq'
    | cont => exact False.elim hq'
theorem pe_makeS {x : Str} {p : Pos} {C f : Addr} {fd : FuncData} {ps : List Str} {sp : Sp} {dvs : List V} {ds : List Value} {E : L2.St → XK} {k : Nat} {CX : CXT} {u : TA} (M : Mk X.K C f) (F : FnOk X.prog X.w X.K X.mg X.base CX k f fd ps sp) (hr : Room (k + 1) X.A) (hg : Gl X x) (hm : X.mg x = some (.ref C)) (hb : L2.Binds X.K fd ps ds) (hd : Vals dvs ds) (hx : ∀ σ, PassesAt CX X σ (E σ))
    (ha : PA X (e :: es) u) (hdb : (x == ("__debug__" : Str)) = false := by decide) (he : starEach (e :: es) X.env = (false, eval e X.env) :: starEach es X.env := by rfl) (hpl : (backTo pos (starEach es X.env)).any (·.1) = false := by rfl) :
    PE X (.Call (.Name x p) (e :: es) [] pos) (tMakeS C sp dvs E u) := by
  refine ⟨fun pins s σ H Q I h => ?_⟩
  refine wpAny_Call_Name_kw (ld_glob I hg hm ?_ hdb)
  refine PySem.W.callWith_K (h₀ := X.base) I.ok.mod.kin M.kp (thn (ha.run pos pins s σ H _ I h) fun us s1 ⟨vs, H1, I1, r, q⟩ => ⟨I1.kIn, ?_⟩) he hpl
  exact run_makeS M F hr hb hd (hx σ) I1 r q
theorem make_read {cls n : Nat} {F : FI} {dds : List D} {dvs : List V} (hd : ∀ w, Reps t w dds dvs) : ∀ σ H Q, tE t W H0 (cMake cls F n dds ca) σ H Q → tMakeS (t.cl cls) (spI t cls F n) dvs (WE W) (tAr t W H0 ca) σ H Q := by
  rintro σ H Q ⟨w, env, ah, A, R, P⟩
  refine ⟨w, env, ah, A, R, post_bind P fun l ah1 w1 vs H1 s1 A1 r1 P1 => ?_⟩
  intro x dx hx hdx hne
  split at P1
  case isFalse => exact False.elim P1
  rename_i hn
  obtain ⟨sa, Aa⟩ := stp_new (o := .own x) A1 hdx
  have hx' : upd H1 dx (.own x) x = none := by rw [upd_ne (Ne.symm hne)]; exact hx
  obtain ⟨sb, Ab⟩ := stp_new (o := .ins (t.cl cls) dx []) Aa hx'
  refine ⟨?_, x, dx, vs ++ dvs, w1, H1, l ++ dds, ah1, rfl, hx, sa.trans sb, Ab, A1.sub.free hx, A1.free hx, upd_same, reps_append r1 (hd w1), ?_⟩
  · rw [List.length_cons, ← hn, List.length_append, List.length_append, reps_len r1, reps_len (hd w1)]
  · cases e : F (l ++ dds) ah1 with
    | bad => rw [e] at P1; exact False.elim P1
    | exc c m ah2 =>
      rw [e] at P1
      exact fun w d H' s A x => P1 w d H' s A x
    | ok fs ah2 =>
      rw [e] at P1
      intro w' dx' vs' H' s' A' h1 h2 h3 h4 h5
      refine ⟨rfl, ?_⟩
      obtain ⟨le, A2⟩ := frz_A A' h1 h3 h4
      refine P1 _ _ _ (frz_S (o := .ins (t.cl cls) dx' ((t.fl cls).zip vs')) s' hx h3) A2 ?_
      simp only [Rep]
      exact ⟨x, dx', vs', rfl, add_at, h2, Reps.mono le _ h5⟩
theorem q_make (cls : Nat) {x : Str} {p : Pos} {f : Addr} {fd : FuncData} {ps : List Str} {F : FI} {n : Nat} {dds : List D} {dvs : List V} {ds : List Value} {k : Nat} (M : Mk X.K (t.cl cls) f) (hF : FnOk X.prog X.w X.K X.mg X.base (L2.CX X.prog X.w) k f fd ps (spI t cls F n)) (hr : Room (k + 1) X.A) (hm : X.mg x = some (.ref (t.cl cls))) (hb : L2.Binds X.K fd ps ds) (hd : Vals dvs ds) (hdd : ∀ w, Reps t w dds dvs) (tk : Takes X W)
    (ha : PA X (e :: es) (tAr t W H0 ca)) (hg : Gl X x := by rfl) (hdb : (x == ("__debug__" : Str)) = false := by decide) (he : starEach (e :: es) X.env = (false, eval e X.env) :: starEach es X.env := by rfl) (hpl : (backTo pos (starEach es X.env)).any (·.1) = false := by rfl) :
    PE X (.Call (.Name x p) (e :: es) [] pos) (tE t W H0 (cMake cls F n dds ca)) := PE.imp (pe_makeS M hF hr hg hm hb hd (fun σ => passAt tk σ) ha hdb he hpl) (make_read hdd)

/-! ### o.m(..) -/
/-- what stands behind a method's name for instances of a class -/
structure MtI (P : Program) (w : World) (K : PySem.W.Frag) (mg : Str → Option Value) (base : Heap) (t : Tb) (k : Nat) (c : Nat) (m : Str) (F : FD) (n : Nat) : Prop where
  cls : Cls K (t.cl c)
  no : flIx (t.fl c) m = none
  ex : ∃ f fd ps, Meth K (t.cl c) m f ∧ FnOk P w K mg base (L2.CX P w) k f fd ps (spD t F n) ∧ L2.Binds K fd ps []
theorem flIx_none {m : Str} : ∀ {ns : List Str} {vs : List V}, flIx ns m = none → (ns.zip vs).lookup m = none
  | [], vs, e => by simp
  | n :: r, [], e => by simp
  | n :: r, v :: vs, e => by
    unfold flIx at e
    by_cases q : n = m
    · rw [if_pos q] at e
      cases e
    · rw [if_neg q] at e
      have e2 : flIx r m = none := by
        cases h : flIx r m with
        | none => rfl
        | some j => rw [h] at e; cases e
      have hb : (m == n) = false := by simpa using fun z => q z.symm
      rw [List.zip_cons_cons, List.lookup_cons, hb]
      exact flIx_none e2
/-- the class of a datum -/
def clsD (ah : AH) : D → Option Nat
  | .obj c _ => some c
  | .ref n => match ah[n]? with
    | some (.ins c _) => some c
    | _ => none
  | _ => none
abbrev MtTab := Nat → Option (FD × Nat)
def cMeth (M : MtTab) (o : CE) (a : CA) : CE := fun env ah => (o env ah).bind fun x ah1 => match (clsD ah1 x).bind M with
  | some (F, n) => (a env ah1).bind fun l ah2 => if l.length + 1 = n then F (x :: l) ah2 else .bad
  | none => .bad
def tMethS (K : PySem.W.Frag) (m : Str) (E : L2.St → XK) (te : TE) (u : TA) : (Nat → Addr → Sp → Prop) → TE := fun ok σ H Q => te σ H fun x H1 => ∃ a C dx fs f sp k, x = .ref a ∧ H1 a = some (.ins C dx fs) ∧ Cls K C ∧ Meth K C m f ∧ ok k f sp ∧ fs.lookup m = none ∧ u σ H1 fun vs H2 => sp (x :: vs) H2 Q (E σ)
theorem pe_methS {pl : Sem Bool} {m : Str} {apos : Pos} {te : TE} {u : TA} {E : L2.St → XK} {CX : CXT} {k : Nat} (he : PE X o te) (hr : Room k X.A) (hx : ∀ σ, PassesAt CX X σ (E σ)) (ha : PA X (e :: es) u)
    (hst : starEach (e :: es) X.env = (false, eval e X.env) :: starEach es X.env := by rfl) (hpl : (backTo pos (starEach es X.env)).any (·.1) = false := by rfl)
    (ht : eval (.Call (.Attribute o m apos) (e :: es) [] pos) X.env = (do
      let ov ← eval o X.env
      standAt apos.atName
      let (f, first) ← holding [ov] (getMethod ov m pl)
      callWith pos f first (backTo pos (starEach (e :: es) X.env)) (backToKw pos (keywordEach [] X.env))) := by rfl) :
    PE X (.Call (.Attribute o m apos) (e :: es) [] pos) (tMethS X.K m E te u fun j f sp => j ≤ k ∧ ∃ fd ps, FnOk X.prog X.w X.K X.mg X.base CX j f fd ps sp ∧ L2.Binds X.K fd ps []) := by
  refine ⟨fun pins s σ H Q I h => ?_⟩
  refine PySem.W.methodCall_KW (pl := pl) (thn (he.run pins s σ H _ I h) fun u s1 ⟨x, H1, I1, rx, a, C, dx, fs, f, sp, j, ex, ea, c, hm, ⟨hj, fd, ps, F, hb⟩, l, q⟩ => ?_) ht
  subst ex
  obtain rfl : u = Value.ref a := rx
  refine getmeth_ok I1 ea c hm l ?_
  refine PySem.W.callWith_K (first := [.ref a]) (h₀ := X.base) I.ok.mod.kin hm.kp (thn (ha.run pos pins s1 σ H1 _ I1 q) fun us s2 ⟨vs, H2, I2, r, q2⟩ => ⟨I2.kIn, ?_⟩) hst hpl
  exact run_fnSD (dvs := []) (ds := []) (us := .ref a :: us) (vs := .ref a :: vs) F (hr.mono hj) hb .nil (hx σ) I2 (.cons rfl r) (by rw [List.append_nil]; exact q2)
theorem pe_methS0 {pl : Sem Bool} {m : Str} {apos : Pos} {te : TE} {E : L2.St → XK} {CX : CXT} {k : Nat} (he : PE X o te) (hr : Room k X.A) (hx : ∀ σ, PassesAt CX X σ (E σ))
    (ht : eval (.Call (.Attribute o m apos) [] [] pos) X.env = (do
      let ov ← eval o X.env
      standAt apos.atName
      let (f, first) ← holding [ov] (getMethod ov m pl)
      callWith pos f first (backTo pos (starEach [] X.env)) (backToKw pos (keywordEach [] X.env))) := by rfl) :
    PE X (.Call (.Attribute o m apos) [] [] pos) (tMethS X.K m E te tNil fun j f sp => j ≤ k ∧ ∃ fd ps, FnOk X.prog X.w X.K X.mg X.base CX j f fd ps sp ∧ L2.Binds X.K fd ps []) := by
  refine ⟨fun pins s σ H Q I h => ?_⟩
  refine PySem.W.methodCall_KW (pl := pl) (thn (he.run pins s σ H _ I h) fun u s1 ⟨x, H1, I1, rx, a, C, dx, fs, f, sp, j, ex, ea, c, hm, ⟨hj, fd, ps, F, hb⟩, l, q⟩ => ?_) ht
  subst ex
  obtain rfl : u = Value.ref a := rx
  refine getmeth_ok I1 ea c hm l ?_
  exact PySem.W.callWith_K0 (first := [.ref a]) I1.kIn hm.kp (run_fnSD (dvs := []) (ds := []) (us := [.ref a]) (vs := [.ref a]) F (hr.mono hj) hb .nil (hx σ) I1 (.cons rfl .nil) (by rw [List.append_nil]; exact q))
theorem meth_read {M : MtTab} {m : Str} {k : Nat} (hM : ∀ c F n, M c = some (F, n) → ∃ j, j ≤ k ∧ MtI X.prog X.w X.K X.mg X.base t j c m F n) (hK : t.K = X.K) {u : TA} (hu : ∀ σ H Q, tAr t W H0 ca σ H Q → u σ H Q) :
    ∀ σ H Q, tE t W H0 (cMeth M xa ca) σ H Q → tMethS X.K m (WE W) (tE t W H0 xa) u (fun j f sp => j ≤ k ∧ ∃ fd ps, FnOk X.prog X.w X.K X.mg X.base (L2.CX X.prog X.w) j f fd ps sp ∧ L2.Binds X.K fd ps []) σ H Q := by
  rintro σ H Q ⟨w, env, ah, A, R, P⟩
  refine ⟨w, env, ah, A, R, post_bind P fun x ah1 w1 v H1 s1 A1 r1 P1 => ?_⟩
  cases hc : clsD ah1 x with
  | none => rw [hc] at P1; exact False.elim P1
  | some c =>
    rw [hc, Option.bind_some] at P1
    cases hF : M c with
    | none => rw [hF] at P1; exact False.elim P1
    | some Fn =>
      obtain ⟨F, n⟩ := Fn
      rw [hF] at P1
      obtain ⟨j, hj, I⟩ := hM c F n hF
      obtain ⟨f, fd, ps, hm, hFn, hb⟩ := I.ex
      have inst : ∃ a dx vs, v = .ref a ∧ H1 a = some (.ins (t.cl c) dx ((t.fl c).zip vs)) := by
        cases x <;> simp only [clsD, reduceCtorEq] at hc
        · cases hc
          simp only [Rep] at r1
          obtain ⟨p, dx, vs, rfl, h1, _⟩ := r1
          exact ⟨p, dx, vs, rfl, A1.sub _ _ h1⟩
        · rename_i q
          simp only [Rep] at r1
          obtain ⟨p, rfl, h1⟩ := r1
          split at hc
          · rename_i c' l' hq
            cases hc
            obtain ⟨_, dx, vs, h2, _⟩ := A1.obj _ _ p hq h1
            exact ⟨p, dx, vs, rfl, h2⟩
          · cases hc
      obtain ⟨a, dx, vs, rfl, ha⟩ := inst
      refine ⟨a, t.cl c, dx, _, f, spD t F n, j, rfl, ha, I.cls, hm, ⟨hj, fd, ps, hFn, hb⟩, flIx_none I.no, hu _ _ _ ⟨w1, env, ah1, A1, R.step s1, post_bind P1 fun l ah2 w2 us H2 s2 A2 r2 P2 => ?_⟩⟩
      split at P2
      · rename_i hn
        refine ⟨?_, w2, x :: l, ah2, A2, ?_, P2⟩
        · rw [List.length_cons, ← reps_len r2, hn]
        · simp only [Reps]
          exact ⟨_, us, rfl, Rep.mono s2.le x r1, r2⟩
      · exact False.elim P2
theorem q_meth {M : MtTab} {pl : Sem Bool} {m : Str} {apos : Pos} {k : Nat} (hM : ∀ c F n, M c = some (F, n) → ∃ j, j ≤ k ∧ MtI X.prog X.w X.K X.mg X.base t j c m F n) (hr : Room k X.A) (tk : Takes X W) (ho : PE X o (tE t W H0 xa)) (ha : PA X (e :: es) (tAr t W H0 ca)) (hK : t.K = X.K := by rfl)
    (hst : starEach (e :: es) X.env = (false, eval e X.env) :: starEach es X.env := by rfl) (hpl : (backTo pos (starEach es X.env)).any (·.1) = false := by rfl)
    (ht : eval (.Call (.Attribute o m apos) (e :: es) [] pos) X.env = (do
      let ov ← eval o X.env
      standAt apos.atName
      let (f, first) ← holding [ov] (getMethod ov m pl)
      callWith pos f first (backTo pos (starEach (e :: es) X.env)) (backToKw pos (keywordEach [] X.env))) := by rfl) :
    PE X (.Call (.Attribute o m apos) (e :: es) [] pos) (tE t W H0 (cMeth M xa ca)) := PE.imp (pe_methS (pl := pl) ho hr (fun σ => passAt tk σ) ha hst hpl ht) (meth_read hM hK fun _ _ _ h => h)
theorem q_meth0 {M : MtTab} {pl : Sem Bool} {m : Str} {apos : Pos} {k : Nat} (hM : ∀ c F n, M c = some (F, n) → ∃ j, j ≤ k ∧ MtI X.prog X.w X.K X.mg X.base t j c m F n) (hr : Room k X.A) (tk : Takes X W) (ho : PE X o (tE t W H0 xa)) (hK : t.K = X.K := by rfl)
    (ht : eval (.Call (.Attribute o m apos) [] [] pos) X.env = (do
      let ov ← eval o X.env
      standAt apos.atName
      let (f, first) ← holding [ov] (getMethod ov m pl)
      callWith pos f first (backTo pos (starEach [] X.env)) (backToKw pos (keywordEach [] X.env))) := by rfl) :
    PE X (.Call (.Attribute o m apos) [] [] pos) (tE t W H0 (cMeth M xa cNil)) := PE.imp (pe_methS0 (pl := pl) ho hr (fun σ => passAt tk σ) ht) (meth_read hM hK nil_read)
end
end G
/-! The engine, part 9: what a slot owns: fields of the instance that is made, lists. -/
namespace G
open PySem PySem.Spec PyProof.Rows L2

section
variable {X : Cx} {t : Tb} {W : WX} {w0 : Wd} {H0 : Bs} {xa xb : CE} {ca : CA} {a b e o : Expr} {es : List Expr} {pos : Pos} {st : Stmt} {c1 : CS}
/-- what slot i owns is changed -/
theorem own_upd {w : Wd} {ah : AH} {env : En} {σ : L2.St} {H : Hp} {i : Nat} {o o' : MO} {p : Addr} {ob : HO} (s : Stp w0 H0.H w H) (A : RelA t w ah H) (E : RelE t H0 w env σ H) (he : env[i]? = some (.own o)) (hσ : σ[i]? = some (some (.ref p)))
    (hn : MOk t w o' (upd H p ob) p) (hi : o'.isIns = true → o.isIns = true) : Stp w0 H0.H w (upd H p ob) ∧ RelA t w ah (upd H p ob) ∧ RelE t H0 w (env.set i (.own o')) σ (upd H p ob) := by
  obtain ⟨a, ob0, q1, q2, q3, q4, q5, q6, q7⟩ := E.slot i _ he
  rw [hσ] at q1
  cases q1
  have hil : i < env.length := (List.getElem?_eq_some_iff.mp he).1
  refine ⟨stp_upd s q4, upd_free A q6 q5, ⟨by rw [List.length_set, E.len], fun j sl ej => ?_, fun j k o1 o2 a hjk e1 e2 e3 e4 => ?_⟩⟩
  · by_cases h : i = j
    · subst h
      rw [List.getElem?_set_self hil] at ej
      cases ej
      exact ⟨p, ob, hσ, upd_same, hn, q4, q5, q6, fun z => q7 (hi z)⟩
    · rw [List.getElem?_set_ne h] at ej
      have z := E.slot j sl ej
      cases sl with
      | no => trivial
      | val d => exact z
      | own o2 =>
        obtain ⟨a2, ob2, r1, r2, r3, r4, r5, r6, r7⟩ := z
        have ne : a2 ≠ p := fun q => E.dist i j o o2 p h he ej hσ (by rw [r1, q])
        exact ⟨a2, ob2, r1, by rw [upd_ne ne]; exact r2, r3.step (Wle.refl _) (fun h => h) (fun ob h => by rw [upd_ne ne]; exact h), r4, r5, r6, r7⟩
  · have old : ∀ (j : Nat) (o1 : MO), (env.set i (Sl.own o'))[j]? = some (Sl.own o1) → ∃ o3 : MO, env[j]? = some (Sl.own o3) := fun j o1 e => by
      by_cases h : i = j
      · subst h
        exact ⟨o, he⟩
      · rw [List.getElem?_set_ne h] at e
        exact ⟨o1, e⟩
    obtain ⟨o3, h3⟩ := old j o1 e1
    obtain ⟨o4, h4⟩ := old k o2 e2
    exact E.dist j k o3 o4 a hjk h3 h4 e3 e4

/-! ### self.f = e -/
theorem putF_set {f : Str} {y : V} : ∀ {ns : List Str} {vs : List V} {j : Nat}, flIx ns f = some j → j < vs.length → putF f y (ns.zip vs) = ns.zip (vs.set j y)
  | [], vs, j, e, h => by cases e
  | n :: r, [], j, e, h => by simp at h
  | n :: r, v :: vs, j, e, h => by
    unfold flIx at e
    rw [List.zip_cons_cons]
    unfold putF
    by_cases q : n = f
    · rw [if_pos q] at e ⊢
      cases e
      rfl
    · rw [if_neg q] at e ⊢
      cases e2 : flIx r f with
      | none => rw [e2] at e; cases e
      | some k =>
        rw [e2] at e
        cases e
        rw [List.set_cons_succ, List.zip_cons_cons, putF_set e2 (by simpa using h)]
theorem putF_app {f : Str} {y : V} : ∀ {ns : List Str} {vs : List V}, flIx ns f = some vs.length → putF f y (ns.zip vs) = ns.zip (vs ++ [y])
  | [], vs, e => by cases e
  | n :: r, [], e => by
    unfold flIx at e
    by_cases q : n = f
    · rw [q]
      show putF f y [] = (f :: r).zip [y]
      rw [List.zip_cons_cons, List.zip_nil_right]
      rfl
    · rw [if_neg q] at e
      cases e2 : flIx r f with
      | none => rw [e2] at e; cases e
      | some k => rw [e2] at e; cases e
  | n :: r, v :: vs, e => by
    unfold flIx at e
    rw [List.zip_cons_cons]
    unfold putF
    by_cases q : n = f
    · rw [if_pos q] at e
      cases e
    · rw [if_neg q] at e ⊢
      cases e2 : flIx r f with
      | none => rw [e2] at e; cases e
      | some k =>
        rw [e2] at e
        cases e
        rw [List.cons_append, List.zip_cons_cons, putF_app e2]
theorem flIx_lt {f : Str} : ∀ {ns : List Str} {j : Nat}, flIx ns f = some j → j < ns.length
  | [], j, e => by cases e
  | n :: r, j, e => by
    unfold flIx at e
    by_cases q : n = f
    · rw [if_pos q] at e
      cases e
      simp
    · rw [if_neg q] at e
      cases e2 : flIx r f with
      | none => rw [e2] at e; cases e
      | some k =>
        rw [e2] at e
        cases e
        have := flIx_lt e2
        rw [List.length_cons]
        exact Nat.succ_lt_succ this
/-- the fields with one set -/
def putD (ns : List Str) (f : Str) (d : D) (l : List D) : Option (List D) := match flIx ns f with
  | some j => if j < l.length then some (l.set j d) else if j = l.length then some (l ++ [d]) else none
  | none => none
theorem putD_rep {w : Wd} {ns : List Str} {f : Str} {d : D} {v : V} {l l' : List D} {vs : List V} (r : Reps t w l vs) (rd : Rep t w d v) (hl : vs.length ≤ ns.length) (e : putD ns f d l = some l') : ∃ vs', putF f v (ns.zip vs) = ns.zip vs' ∧ vs'.length ≤ ns.length ∧ Reps t w l' vs' := by
  unfold putD at e
  cases h : flIx ns f with
  | none => rw [h] at e; cases e
  | some j =>
    rw [h] at e
    simp only at e
    have e1 := reps_len r
    split at e
    · rename_i hj
      cases e
      exact ⟨vs.set j v, putF_set h (by omega), by rw [List.length_set]; exact hl, reps_set rd j r⟩
    · split at e
      · rename_i hj
        cases e
        have hlt := flIx_lt h
        refine ⟨vs ++ [v], putF_app (by rw [h, ← e1, ← hj]), by rw [List.length_append, List.length_singleton]; omega, reps_append r (reps_one rd)⟩
      · cases e
def cSetF (fl : Nat → List Str) (i : Nat) (f : Str) (c : CE) : CS := fun env ah => SRes.of env (c env ah) fun d ah1 => match env[i]? with
  | some (.own (.ins k l)) => match putD (fl k) f d l with
    | some l' => .nx (env.set i (.own (.ins k l'))) ah1
    | none => .bad
  | some (.val (.ref n)) => match ah1[n]? with
    | some (.ins k l) => match putD (fl k) f d l with
      | some l' => .nx env (ah1.set n (.ins k l'))
      | none => .bad
    | _ => .bad
  | _ => .bad
/-- an object of the store is changed -/
theorem ref_upd {w : Wd} {ah : AH} {env : En} {σ : L2.St} {H : Hp} {n : Nat} {o o' : MO} {p : Addr} {ob : HO} (s : Stp w0 H0.H w H) (A : RelA t w ah H) (E : RelE t H0 w env σ H) (he : ah[n]? = some o) (hρ : w.ρ[n]? = some p) (hf : w.Hf p = none) (hold : p ∈ w0.ρ ∨ H0.H p = none)
    (hn : MOk t w o' (upd H p ob) p) : Stp w0 H0.H w (upd H p ob) ∧ RelA t w (ah.set n o') (upd H p ob) ∧ RelE t H0 w env σ (upd H p ob) := by
  have hm : p ∈ w.ρ := List.mem_of_getElem? hρ
  refine ⟨⟨s.le, fun a u h1 h2 => ?_, fun a u h2 => ?_, s.newR, s.newF⟩, ⟨fun a u h => ?_, by rw [List.length_set]; exact A.len, A.nd, fun a h => ?_, fun m u a e1 e2 => ?_⟩, ⟨E.len, fun j sl ej => ?_, E.dist⟩⟩
  · have ne : a ≠ p := fun z => by
      rcases hold with q | q
      · exact h1 (by rw [z]; exact q)
      · rw [z, q] at h2; cases h2
    rw [upd_ne ne]
    exact s.fr a u h1 h2
  · by_cases z : a = p
    · exact ⟨ob, by rw [z]; exact upd_same⟩
    · rw [upd_ne z]
      exact s.there a u h2
  · rw [upd_ne (fun z => by rw [z, hf] at h; cases h)]
    exact A.sub a u h
  · by_cases z : a = p
    · exact ⟨ob, by rw [z]; exact upd_same⟩
    · rw [upd_ne z]
      exact A.live a h
  · by_cases h : n = m
    · subst h
      rw [hρ] at e2
      cases e2
      have hlt : n < ah.length := (List.getElem?_eq_some_iff.mp he).1
      rw [List.getElem?_set_self hlt] at e1
      cases e1
      exact hn
    · rw [List.getElem?_set_ne h] at e1
      have ne : a ≠ p := fun z => by
        subst z
        obtain ⟨h1, e3⟩ := List.getElem?_eq_some_iff.mp hρ
        obtain ⟨h2, e4⟩ := List.getElem?_eq_some_iff.mp e2
        exact h ((List.getElem_inj A.nd).mp (e3.trans e4.symm))
      exact (A.obj m u a e1 e2).step (Wle.refl _) (fun h => h) fun ob h => by rw [upd_ne ne]; exact h
  · have z := E.slot j sl ej
    cases sl with
    | no => trivial
    | val d => exact z
    | own o2 =>
      obtain ⟨a2, ob2, r1, r2, r3, r4, r5, r6, r7⟩ := z
      have ne : a2 ≠ p := fun q => r5 (by rw [q]; exact hm)
      exact ⟨a2, ob2, r1, by rw [upd_ne ne]; exact r2, r3.step (Wle.refl _) (fun h => h) (fun ob h => by rw [upd_ne ne]; exact h), r4, r5, r6, r7⟩
theorem old_or {w : Wd} {H : Hp} {p : Addr} (s : Stp w0 H0.H w H) (h : p ∈ w.ρ) : p ∈ w0.ρ ∨ H0.H p = none := s.newR p h
theorem z_fld (i : Nat) {f x : Str} {p1 p2 : Pos} (hf : FldOk t f) (hfl : ∀ c, (t.fl c).length < 1000) (hv : PE X a (tE t W H0 xa)) (hK : t.K = X.K := by rfl) (hN : X.N[i]? = some x := by rfl) (hvis : Vis X.env.scope x := by first | exact Or.inl rfl | exact Or.inr (Or.inl rfl) | exact Or.inr (Or.inr rfl)) (hd : (x == ("__debug__" : Str)) = false := by decide)
    (hcd : (x == ("__classdict__" : Str)) = false := by decide) (hs : swapsWith a (some (.Attribute (.Name x p1) f p2)) pos.line X.env = pure false := by rfl) : PS X (.Assign [.Attribute (.Name x p1) f p2] a pos) (tS t W w0 H0 (cSetF t.fl i f xa)) := by
  refine PS.imp (ps_fld (pv i hN hvis hd hcd) hv hs) ?_
  rintro Dn σ H ⟨w, env, ah, s, A, E, P⟩
  refine ⟨w, env, ah, A, E, post_of s E P fun d ah1 w1 v H1 s1 s01 A1 E1 r1 P1 => ?_⟩
  show ∃ u, σ[i]? = some (some u) ∧ _
  split at P1
  · rename_i k l he
    obtain ⟨p, ob, q1, q2, q3, q4, q5, q6, q7⟩ := E1.slot i _ he
    obtain ⟨m1, dx, vs, m2, m3, m4⟩ := q3
    split at P1
    · rename_i l' hl'
      obtain ⟨vs', g1, g2, g3⟩ := putD_rep m4 r1 m3 hl'
      obtain ⟨z1, z2, z3⟩ := own_upd (o' := .ins k l') (ob := .ins (t.cl k) dx (putF f v ((t.fl k).zip vs))) s01 A1 E1 he q1 ⟨m1, dx, vs', by rw [upd_same, g1], g2, g3⟩ (fun _ => rfl)
      have hj : ∃ j, flIx (t.fl k) f = some j := by
        unfold putD at hl'
        cases h : flIx (t.fl k) f with
        | none => rw [h] at hl'; cases hl'
        | some j => exact ⟨j, rfl⟩
      obtain ⟨j, hj⟩ := hj
      rw [← hK]
      refine ⟨.ref p, q1, p, t.cl k, dx, _, rfl, m2, (hf k j hj).1, (hf k j hj).2, ?_, P1 w1 σ _ (Wle.refl _) z1 z2 z3⟩
      have := hfl k
      rw [List.length_zip]
      omega
    · exact False.elim P1
  · rename_i n he
    obtain ⟨u, q1, q2⟩ := E1.slot i _ he
    simp only [Rep] at q2
    obtain ⟨p, rfl, hρ⟩ := q2
    split at P1
    · rename_i k l hn
      obtain ⟨m1, dx, vs, m2, m3, m4⟩ := A1.obj n _ p hn hρ
      split at P1
      · rename_i l' hl'
        obtain ⟨vs', g1, g2, g3⟩ := putD_rep m4 r1 m3 hl'
        obtain ⟨z1, z2, z3⟩ := ref_upd (o' := .ins k l') (ob := .ins (t.cl k) dx (putF f v ((t.fl k).zip vs))) s01 A1 E1 hn hρ m1 (old_or s01 (List.mem_of_getElem? hρ)) ⟨m1, dx, vs', by rw [upd_same, g1], g2, g3⟩
        have hj : ∃ j, flIx (t.fl k) f = some j := by
          unfold putD at hl'
          cases h : flIx (t.fl k) f with
          | none => rw [h] at hl'; cases hl'
          | some j => exact ⟨j, rfl⟩
        obtain ⟨j, hj⟩ := hj
        rw [← hK]
        refine ⟨.ref p, q1, p, t.cl k, dx, _, rfl, m2, (hf k j hj).1, (hf k j hj).2, ?_, P1 w1 σ _ (Wle.refl _) z1 z2 z3⟩
        have := hfl k
        rw [List.length_zip]
        omega
      · exact False.elim P1
    · exact False.elim P1
  · exact False.elim P1

/-! ### lists of a slot -/
/-- x = [..], the list the slot's own -/
def cNewL (i : Nat) (c : CA) : CS := fun env ah => SRes.of env (c env ah) fun l ah1 => if l.length ≤ 1000 then .nx (env.set i (.own (.lst l))) ah1 else .bad
theorem relE_own {w : Wd} {ah : AH} {env : En} {σ : L2.St} {H : Hp} {i : Nat} {o : MO} {p : Addr} {ob : HO} (s : Stp w0 H0.H w H) (A : RelA t w ah H) (E : RelE t H0 w env σ H) (hp : H p = none) (hn : MOk t w o (upd H p ob) p) (hi : o.isIns = false) :
    Stp w0 H0.H w (upd H p ob) ∧ RelA t w ah (upd H p ob) ∧ RelE t H0 w (env.set i (.own o)) (σ.set i (some (.ref p))) (upd H p ob) := by
  obtain ⟨s1, A1⟩ := stp_new (o := ob) A hp
  have h0 : H0.H p = none := by
    cases q : H0.H p with
    | none => rfl
    | some u =>
      obtain ⟨u', e⟩ := s.there p u q
      rw [hp] at e
      cases e
  refine ⟨s.trans s1, A1, relE_set (E.step s1) ⟨p, ob, rfl, upd_same, hn, h0, A.free hp, A.sub.free hp, fun z => ?_⟩ fun o2 j p2 a e hij e1 e2 q => ?_⟩
  · rw [hi] at z
    cases z
  · cases q
    obtain ⟨a3, ob3, r1, r2, _⟩ := E.slot j _ e1
    rw [e2] at r1
    cases r1
    rw [hp] at r2
    cases r2
theorem z_newL (i : Nat) {x : Str} {pos' p2 : Pos} (hN : X.N.Nodup) (ha : PA X es (tAr t W H0 ca)) (hi : X.N[i]? = some x := by rfl) (hx : Loc X.env.scope x := by first | exact Or.inl rfl | exact Or.inr rfl) (hs : swapsWith (.List es p2) (some (.Name x pos')) pos.line X.env = pure false := by rfl) (hf : X.fn x = true ∨ X.env.scope.names.lookup x = some .local := by first | exact .inl rfl | exact .inr rfl | assumption) :
    PS X (.Assign [.Name x pos'] (.List es p2) pos) (tS t W w0 H0 (cNewL i ca)) := by
  refine PS.imp (ps_set hN hi hx (pe_lst ha) hs hf) ?_
  rintro Dn σ H ⟨w, env, ah, s, A, E, P⟩
  refine ⟨w, env, ah, A, E, post_of s E P fun l ah1 w1 vs H1 s1 s01 A1 E1 r1 P1 => ?_⟩
  split at P1
  · rename_i hz
    refine ⟨le_line (by rw [← reps_len r1]; exact hz), fun p hp => ?_⟩
    obtain ⟨z1, z2, z3⟩ := relE_own (i := i) (o := .lst l) (ob := .lst vs) s01 A1 E1 hp ⟨A1.sub.free hp, vs, upd_same, r1⟩ rfl
    exact P1 w1 _ _ (Wle.refl _) z1 z2 z3
  · exact False.elim P1
def cApp (i : Nat) (c : CE) : CS := fun env ah => match env[i]? with
  | some (.own (.lst l)) => SRes.of env (c env ah) fun d ah1 => if l.length < 10000000 then .nx (env.set i (.own (.lst (l ++ [d])))) ah1 else .bad
  | _ => .bad
theorem lt_line {n : Nat} (h : n < 10000000) : n < sizeLine := Nat.lt_trans h (by decide)
theorem z_app (i : Nat) {x : Str} {p1 p2 p3 : Pos} (ha : PE X a (tE t W H0 xa)) (hN : X.N[i]? = some x := by rfl) (hvis : Vis X.env.scope x := by first | exact Or.inl rfl | exact Or.inr (Or.inl rfl) | exact Or.inr (Or.inr rfl)) (hd : (x == ("__debug__" : Str)) = false := by decide)
    (hcd : (x == ("__classdict__" : Str)) = false := by decide) (hbase : attributeBase (.Name x p1) "append" X.env (eval (.Name x p1) X.env) = eval (.Name x p1) X.env := by rfl)
    (hfew : ((backTo p3 (starEach (a :: []) X.env)).all (fun x => !x.1) && (backToKw p3 (keywordEach [] X.env)).all (fun x => x.1.isSome)
      && decide ((a :: []).length + ([] : List Keyword).length + (if ([] : List Keyword).isEmpty then 0 else 1) < 30)) = true := by rfl) (hline : (p2.endLine == p3.line) = true := by rfl) (hs : starEach (a :: []) X.env = (false, eval a X.env) :: starEach [] X.env := by rfl)
    (hsw : swapsWith (.Call (.Attribute (.Name x p1) "append" p2) [a] [] p3) none pos.line X.env = pure false := by rfl) :
    PS X (.Expr (.Call (.Attribute (.Name x p1) "append" p2) [a] [] p3) pos) (tS t W w0 H0 (cApp i xa)) := by
  refine PS.imp (ps_expr (pe_bm PySem.F.plainAttrs_list PySem.F.slot_list_append PySem.F.type_list_append mt_append (pv i hN hvis hd hcd) (pa_cons ha pa_nil hs) hbase hfew hline hs (by rfl)) hsw) ?_
  rintro Dn σ H ⟨w, env, ah, s, A, E, P⟩
  unfold cApp at P
  split at P
  case h_2 => exact False.elim P
  rename_i l he
  obtain ⟨p, ob, q1, q2, q3, q4, q5, q6, q7⟩ := E.slot i _ he
  obtain ⟨m1, vs, m2, m3⟩ := q3
  refine ⟨.ref p, q1, .inl ⟨rfl, vs, SqL.of m2⟩, w, env, ah, A, E, post_of s E P fun d ah1 w1 v H1 s1 s01 A1 E1 r1 P1 => ?_⟩
  obtain ⟨n1, n2, n3⟩ := stay_at s1 m2 m1 q5
  split at P1
  · rename_i hz
    have m3' := Reps.mono s1.le l m3
    have hlen := reps_len m3'
    obtain ⟨z1, z2, z3⟩ := own_upd (o' := .lst (l ++ [d])) (ob := .lst (vs ++ [v])) s01 A1 E1 he q1 ⟨n2, _, upd_same, reps_append m3' (reps_one r1)⟩ (fun z => z)
    exact ⟨p, vs, v, rfl, rfl, n1, lt_line (by rw [← hlen]; exact hz), P1 w1 σ _ (Wle.refl _) z1 z2 z3⟩
  · exact False.elim P1
/-- x[k] = e, x the slot's own list -/
def cSetI (i : Nat) (c k : CE) : CS := fun env ah => match env[i]? with
  | some (.own (.lst l)) => SRes.of env (c env ah) fun d ah1 => SRes.of env (k env ah1) fun x ah2 => match x with
    | .int n => match ixN l.length n with
      | some j => .nx (env.set i (.own (.lst (l.set j d)))) ah2
      | none => .bad
    | _ => .bad
  | _ => .bad
theorem z_setI (i : Nat) {x : Str} {p1 p2 : Pos} {kx : CE} {ke : Expr} (ha : PE X a (tE t W H0 xa)) (hk : PE X ke (tE t W H0 kx)) (hN : X.N[i]? = some x := by rfl) (hvis : Vis X.env.scope x := by first | exact Or.inl rfl | exact Or.inr (Or.inl rfl) | exact Or.inr (Or.inr rfl)) (hd : (x == ("__debug__" : Str)) = false := by decide)
    (hcd : (x == ("__classdict__" : Str)) = false := by decide)
    (hasg : ∀ v, assign (.Subscript (.Name x p1) ke p2) X.env v = (do
      let ov ← holding [v] (eval (.Name x p1) X.env)
      let iv ← holding [v, ov] (eval ke X.env)
      standAt p2
      holding [v, ov, iv] (setItem ov iv v)
      release [v, ov, iv] []) := by intro _; rfl)
    (hs : swapsWithSole [.Subscript (.Name x p1) ke p2] a pos.line X.env = pure false := by rfl) (hw : swappedStores [.Subscript (.Name x p1) ke p2] a X.env = pure none := by rfl)
    (h1 : (assignEach [.Subscript (.Name x p1) ke p2] X.env).map (·.2) = [assign (.Subscript (.Name x p1) ke p2) X.env] := by rfl) :
    PS X (.Assign [.Subscript (.Name x p1) ke p2] a pos) (tS t W w0 H0 (cSetI i xa kx)) := by
  refine PS.imp (ps_asg ha (pg_sub (pv i hN hvis hd hcd) hk set_list hasg) hs hw h1) ?_
  rintro Dn σ H ⟨w, env, ah, s, A, E, P⟩
  unfold cSetI at P
  split at P
  case h_2 => exact False.elim P
  rename_i l he
  refine ⟨w, env, ah, A, E, post_of s E P fun d ah1 w1 v H1 s1 s01 A1 E1 r1 P1 => ?_⟩
  obtain ⟨p, ob, q1, q2, q3, q4, q5, q6, q7⟩ := E1.slot i _ he
  obtain ⟨m1, vs, m2, m3⟩ := q3
  refine ⟨.ref p, q1, w1, env, ah1, A1, E1, post_of s01 E1 P1 fun kd ah2 w2 kv H2 s2 s02 A2 E2 r2 P2 => ?_⟩
  obtain ⟨n1, n2, n3⟩ := stay_at s2 m2 m1 q5
  split at P2
  case h_2 => exact False.elim P2
  rename_i n
  simp only [Rep] at r2
  split at P2
  case h_2 => exact False.elim P2
  rename_i j hj
  have m3' := Reps.mono s2.le l m3
  obtain ⟨z1, z2, z3⟩ := own_upd (o' := .lst (l.set j d)) (ob := .lst (vs.set j v)) s02 A2 E2 he q1 ⟨n2, _, upd_same, reps_set (Rep.mono s2.le d r1) j m3'⟩ (fun z => z)
  exact ⟨p, vs, n, j, rfl, r2, n1, by rw [← reps_len m3']; exact hj, P2 w2 σ _ (Wle.refl _) z1 z2 z3⟩
/-- what slot i owns is frozen -/
def frzE (i : Nat) (env : En) : En := match env[i]? with
  | some (.own (.lst l)) => env.set i (.val (.lst l))
  | some (.own (.dct ks l)) => env.set i (.val (.dct ks l))
  | _ => env
theorem frz_ok {w : Wd} {ah : AH} {env : En} {σ : L2.St} {H : Hp} (i : Nat) (s : Stp w0 H0.H w H) (A : RelA t w ah H) (E : RelE t H0 w env σ H) : ∃ w', Wle w w' ∧ Stp w0 H0.H w' H ∧ RelA t w' ah H ∧ RelE t H0 w' (frzE i env) σ H := by
  have key : ∀ (o : MO) (d : D) (p : Addr) (ob : HO), env[i]? = some (.own o) → σ[i]? = some (some (.ref p)) → H p = some ob → H0.H p = none → p ∉ w.ρ → w.Hf p = none → (∀ w', Wle w w' → w'.Hf p = some ob → Rep t w' d (.ref p)) →
      ∃ w', Wle w w' ∧ Stp w0 H0.H w' H ∧ RelA t w' ah H ∧ RelE t H0 w' (env.set i (.val d)) σ H := fun o d p ob he hσ hH h0 hr hf hrep => by
    obtain ⟨le, A'⟩ := frz_A A hH hf hr
    have hil : i < env.length := (List.getElem?_eq_some_iff.mp he).1
    refine ⟨w.add p ob, le, frz_S s h0 hf, A', ⟨by rw [List.length_set, E.len], fun j sl ej => ?_, fun j k o1 o2 a hjk e1 e2 e3 e4 => ?_⟩⟩
    · by_cases h : i = j
      · subst h
        rw [List.getElem?_set_self hil] at ej
        cases ej
        exact ⟨.ref p, hσ, hrep _ le add_at⟩
      · rw [List.getElem?_set_ne h] at ej
        have z := E.slot j sl ej
        cases sl with
        | no => trivial
        | val d =>
          obtain ⟨v, z1, z2⟩ := z
          exact ⟨v, z1, Rep.mono le d z2⟩
        | own o2 =>
          obtain ⟨a2, ob2, r1, r2, r3, r4, r5, r6, r7⟩ := z
          have ne : a2 ≠ p := fun q => E.dist i j o o2 p h he ej hσ (by rw [r1, q])
          have hf2 : (w.add p ob).Hf a2 = none := by
            show upd w.Hf p ob a2 = none
            rw [upd_ne ne]
            exact r6
          exact ⟨a2, ob2, r1, r2, r3.step le (fun _ => hf2) (fun ob h => h), r4, r5, hf2, r7⟩
    · have hj : i ≠ j := fun z => by
        rw [← z, List.getElem?_set_self hil] at e1
        cases e1
      have hk : i ≠ k := fun z => by
        rw [← z, List.getElem?_set_self hil] at e2
        cases e2
      rw [List.getElem?_set_ne hj] at e1
      rw [List.getElem?_set_ne hk] at e2
      exact E.dist j k o1 o2 a hjk e1 e2 e3 e4
  unfold frzE
  split
  · rename_i l he
    obtain ⟨p, ob, q1, q2, q3, q4, q5, q6, q7⟩ := E.slot i _ he
    obtain ⟨m1, vs, m2, m3⟩ := q3
    refine key (.lst l) (.lst l) p (.lst vs) he q1 m2 q4 q5 q6 fun w' le h => ?_
    simp only [Rep]
    exact ⟨p, vs, rfl, h, Reps.mono le l m3⟩
  · rename_i ks l he
    obtain ⟨p, ob, q1, q2, q3, q4, q5, q6, q7⟩ := E.slot i _ he
    obtain ⟨m1, vs, m2, m4, m3⟩ := q3
    refine key (.dct ks l) (.dct ks l) p (.dK (ks.zip vs)) he q1 m2 q4 q5 q6 fun w' le h => ?_
    simp only [Rep]
    exact ⟨p, vs, rfl, h, m4, Reps.mono le l m3⟩
  · exact ⟨w, Wle.refl w, s, A, E⟩
def cFrz (i : Nat) (c : CS) : CS := fun env ah => c (frzE i env) ah
theorem z_frz (i : Nat) (h : PS X st (tS t W w0 H0 c1)) : PS X st (tS t W w0 H0 (cFrz i c1)) := by
  refine PS.imp h ?_
  rintro Dn σ H ⟨w, env, ah, s, A, E, P⟩
  obtain ⟨w', le, s', A', E'⟩ := frz_ok i s A E
  exact ⟨w', frzE i env, ah, s', A', E', PostS.up P le⟩

/-! ### methods of lists: count, index, over plain data -/
def cBM (f : AH → D → List D → Option D) (o : CE) (a : CA) : CE := fun env ah => (o env ah).bind fun x ah1 => (a env ah1).bind fun l ah2 => ofO (f ah2 x l) ah2
theorem mt_countD (hu : X.A.units + 65 < cLine) : MtR X "list.count" (fun x xs H Q => ∃ (a : Addr) (y : V) (d : PyData) (ds : List PyData), x = V.ref a ∧ xs = [y] ∧ Dp X.K H (V.ref a) (.list ds) ∧ Dp X.K H y d ∧ SeqAt.shaped (.list ds) = true ∧ SeqAt.shaped d = true ∧ Q (.int ((ds.countP fun z => PyData.eqv z d : Nat) : Int)) H) := by
  intro pins s σ H x xs v us Q I rx rxs h
  obtain ⟨a, y, d, ds, rfl, rfl, hl, hy, sl, sd, q⟩ := h
  cases rx
  cases rxs with
  | cons ry rt =>
    rename_i uy ut
    cases rt
    obtain ⟨bs, r1⟩ := Dp.reads I d y uy hy ry
    have hxs : PyData.canLayAll0 ds = true := SeqAt.canLay_of_shaped sl
    have hroom : X.A.units + 1 + min (PyData.depthAll ds) d.depth < cLine := room_in_shaped sd hu
    cases hl with
    | lst hs ha =>
      obtain ⟨its, rv, ⟨⟨cls, dd, data, sls⟩, n, ho, hc, hdn, hdt⟩, hlen⟩ := I.list hs
      simp only at hc hdt
      subst hc hdt
      obtain ⟨as, h4⟩ := Dp.readsAll I ds _ its ha rv
      have hmap : its.map (SeqAt.readOf s.heap) = ds := SeqAt.readsAll_map ds its as hxs h4
      refine call_meets PySem.F.slot_list_count ⟨_, ho, rfl⟩ PySem.F.entry_list_count (PySem.F.args_list_count_2 _ _)
        (SeqAt.list_countAt a its.toArray n dd sls uy (fun u => PyData.eqv (SeqAt.readOf s.heap u) d)) ⟨ho, SeqAt.items_eqAt (vs := its.toArray) (show ReadsAll s.heap its.toArray.toList ds as from h4) r1 hxs (SeqAt.canLay_of_shaped sd) hroom, ?_⟩
      have ec : its.toArray.toList.countP (fun u => PyData.eqv (SeqAt.readOf s.heap u) d) = ds.countP fun z => PyData.eqv z d := by
        rw [← hmap, List.countP_map]
        rfl
      refine ⟨.int ((ds.countP fun z => PyData.eqv z d : Nat) : Int), H, I.tok _, ⟨s.toks, ?_⟩, q⟩
      show Value.int ((its.toArray.toList.countP (fun u => PyData.eqv (SeqAt.readOf s.heap u) d) : Nat) : Int) s.toks = Value.int ((ds.countP fun z => PyData.eqv z d : Nat) : Int) s.toks
      rw [ec]
def idxOfP : List PyData → PyData → Option Nat
  | [], _ => none
  | z :: r, d => if PyData.eqv z d then some 0 else (idxOfP r d).map (· + 1)
theorem idxOfP_spec : ∀ {ds : List PyData} {d : PyData} {j : Nat}, idxOfP ds d = some j → ∃ z, ds[j]? = some z ∧ PyData.eqv z d = true ∧ ∀ (m : Nat) (z' : PyData), m < j → ds[m]? = some z' → PyData.eqv z' d = false
  | [], d, j, e => by cases e
  | z :: r, d, j, e => by
    unfold idxOfP at e
    by_cases h : PyData.eqv z d = true
    · rw [if_pos h] at e
      cases e
      exact ⟨z, rfl, h, fun m z' hm => absurd hm (Nat.not_lt_zero m)⟩
    · rw [if_neg h] at e
      cases e2 : idxOfP r d with
      | none => rw [e2] at e; cases e
      | some k =>
        rw [e2] at e
        cases e
        obtain ⟨y, h1, h2, h3⟩ := idxOfP_spec e2
        refine ⟨y, by simpa using h1, h2, fun m z' hm hz => ?_⟩
        cases m with
        | zero =>
          simp at hz
          subst hz
          exact Bool.eq_false_iff.mpr h
        | succ m => exact h3 m z' (by simpa using hm) (by simpa using hz)
def countD : AH → D → List D → Option D := fun _ x l => match l with
  | [y] => match x with
    | .lst m => match pds m, pd y with
      | some ds, some d => if SeqAt.shaped (.list ds) && SeqAt.shaped d then some (.int ((ds.countP fun z => PyData.eqv z d : Nat) : Int)) else none
      | _, _ => none
    | _ => none
  | _ => none
def indexD : AH → D → List D → Option D := fun _ x l => match l with
  | [y] => match x with
    | .lst m => match pds m, pd y with
      | some ds, some d => if SeqAt.shaped (.list ds) && SeqAt.shaped d then (idxOfP ds d).map fun j => .int ((j : Nat) : Int) else none
      | _, _ => none
    | _ => none
  | _ => none
/-- a method's rule does what f says -/
def BmS (t : Tb) (T : String) (f : AH → D → List D → Option D) (r : V → List V → Hp → VK → Prop) : Prop := ∀ w ah H x l d v vs Q, RelA t w ah H → Rep t w x v → Reps t w l vs → f ah x l = some d → (∀ w' z H', Stp w H w' H' → RelA t w' ah H' → Rep t w' d z → Q z H') → r v vs H Q
/-- data of a built-in type, for the type's methods -/
def TyS (t : Tb) (T : String) (g : D → Bool) : Prop := ∀ w ah H x v, RelA t w ah H → Rep t w x v → g x = true → tyV t.K T v H
def isStr : D → Bool
  | .str _ => true
  | _ => false
def isLst : D → Bool
  | .lst _ => true
  | _ => false
theorem ty_str : TyS t "str" isStr := by
  intro w ah H x v A r g
  cases x <;> simp only [isStr, Bool.false_eq_true] at g
  simp only [Rep] at r
  subst r
  rfl
theorem ty_lst : TyS t "list" isLst := by
  intro w ah H x v A r g
  cases x <;> simp only [isLst, Bool.false_eq_true] at g
  simp only [Rep] at r
  obtain ⟨p, vs, rfl, h1, h2⟩ := r
  exact .inl ⟨rfl, vs, SqL.of (A.sub _ _ h1)⟩
def cBMg (g : D → Bool) (f : AH → D → List D → Option D) (o : CE) (a : CA) : CE := fun env ah => (o env ah).bind fun x ah1 => if g x = true then (a env ah1).bind fun l ah2 => ofO (f ah2 x l) ah2 else .bad
theorem bm_read {T : String} {g : D → Bool} {f : AH → D → List D → Option D} {r : V → List V → Hp → VK → Prop} (hg : TyS t T g) (hf : BmS t T f r) (hK : t.K = X.K) : ∀ σ H Q, tE t W H0 (cBMg g f xa ca) σ H Q → tBM X.K T r (tE t W H0 xa) (tAr t W H0 ca) σ H Q := by
  rintro σ H Q ⟨w, env, ah, A, E, P⟩
  refine ⟨w, env, ah, A, E, post_bind P fun x ah1 w1 v H1 s1 A1 r1 P1 => ?_⟩
  split at P1
  case isFalse => exact False.elim P1
  rename_i hgx
  refine ⟨by rw [← hK]; exact hg w1 ah1 H1 x v A1 r1 hgx, w1, env, ah1, A1, E.step s1, post_bind P1 fun l ah2 w2 vs H2 s2 A2 r2 P2 => ?_⟩
  cases e : f ah2 x l with
  | none => rw [e] at P2; exact False.elim P2
  | some d =>
    rw [e] at P2
    exact hf w2 ah2 H2 x l d v vs _ A2 (Rep.mono s2.le x r1) r2 e fun w' z H' s' A' rz => P2 w' z H' s' A' rz
theorem q_bm {T id : String} {name : Str} {apos cpos : Pos} {g : D → Bool} {f : AH → D → List D → Option D} {r : V → List V → Hp → VK → Prop} (pa : PlainAttrs T) (slot : Slot T name id) (hty : typeOf (.builtin id) = pure (.type "method_descriptor")) (hm : MtR X id r) (hg : TyS t T g) (hf : BmS t T f r) (ho : PE X o (tE t W H0 xa)) (ha : PA X (e :: es) (tAr t W H0 ca)) (hK : t.K = X.K := by rfl)
    (hbase : attributeBase o name X.env (eval o X.env) = eval o X.env := by rfl)
    (hfew : ((backTo cpos (starEach (e :: es) X.env)).all (fun x => !x.1) && (backToKw cpos (keywordEach [] X.env)).all (fun x => x.1.isSome)
      && decide ((e :: es).length + ([] : List Keyword).length + (if ([] : List Keyword).isEmpty then 0 else 1) < 30)) = true := by rfl)
    (hline : (apos.endLine == cpos.line) = true := by rfl) (hs : starEach (e :: es) X.env = (false, eval e X.env) :: starEach es X.env := by rfl) (hplain : (backTo cpos (starEach es X.env)).any (·.1) = false := by rfl) :
    PE X (.Call (.Attribute o name apos) (e :: es) [] cpos) (tE t W H0 (cBMg g f xa ca)) := PE.imp (pe_bm pa slot hty hm ho ha hbase hfew hline hs hplain) (bm_read hg hf hK)
theorem bs_count (hK : t.K = X.K := by rfl) : BmS t "list" countD (fun x xs H Q => ∃ (a : Addr) (y : V) (d : PyData) (ds : List PyData), x = V.ref a ∧ xs = [y] ∧ Dp X.K H (V.ref a) (.list ds) ∧ Dp X.K H y d ∧ SeqAt.shaped (.list ds) = true ∧ SeqAt.shaped d = true ∧ Q (.int ((ds.countP fun z => PyData.eqv z d : Nat) : Int)) H) := by
  intro w ah H x l d v vs Q A rx rl e q
  unfold countD at e
  split at e
  case h_2 => cases e
  rename_i y
  split at e
  case h_2 => cases e
  rename_i m
  split at e
  case h_2 => cases e
  rename_i ds dd h1 h2
  split at e
  case isFalse => cases e
  rename_i hs
  rw [Bool.and_eq_true] at hs
  cases e
  obtain ⟨u, rfl, ru⟩ := reps1 rl
  have z := dp_of A.sub (.lst m) (p := .list ds) (by simp only [pd, h1]; rfl) rx
  have z2 := dp_of A.sub y h2 ru
  simp only [Rep] at rx
  obtain ⟨p, us, rfl, _, _⟩ := rx
  rw [hK] at z z2
  exact ⟨p, u, dd, ds, rfl, rfl, z, z2, hs.1, hs.2, fin0 A q (by simp only [Rep])⟩
theorem bs_index (hK : t.K = X.K := by rfl) : BmS t "list" indexD (rIndexD X.K) := by
  intro w ah H x l d v vs Q A rx rl e q
  unfold indexD at e
  split at e
  case h_2 => cases e
  rename_i y
  split at e
  case h_2 => cases e
  rename_i m
  split at e
  case h_2 => cases e
  rename_i ds dd h1 h2
  split at e
  case isFalse => cases e
  rename_i hs
  rw [Bool.and_eq_true] at hs
  cases hj : idxOfP ds dd with
  | none => rw [hj] at e; cases e
  | some j =>
    rw [hj] at e
    cases e
    obtain ⟨zz, g1, g2, g3⟩ := idxOfP_spec hj
    obtain ⟨u, rfl, ru⟩ := reps1 rl
    have z := dp_of A.sub (.lst m) (p := .list ds) (by simp only [pd, h1]; rfl) rx
    have z2 := dp_of A.sub y h2 ru
    simp only [Rep] at rx
    obtain ⟨p, us, rfl, _, _⟩ := rx
    rw [hK] at z z2
    exact ⟨p, u, dd, ds, j, zz, rfl, rfl, z, z2, hs.1, hs.2, g1, g2, g3, fin0 A q (by simp only [Rep])⟩
end
end G
/-! The engine, part 10: what the callers want of a def, a class. -/
namespace G
open PySem PySem.Spec PyProof.Rows L2

section
variable {P : Program} {w : World} {K : PySem.W.Frag} {mg : Str → Option Value} {base : Heap} {t : Tb}
/-- a default's value, by data -/
def dfV : D → Option V := scD
theorem scD_reps {w : Wd} : ∀ {dds : List D} {dvs : List V}, dds.map scD = dvs.map some → Reps t w dds dvs
  | [], [], _ => by simp only [Reps]
  | [], _ :: _, h => by cases h
  | _ :: _, [], h => by cases h
  | d :: ds, v :: vs, h => by
    rw [List.map_cons, List.map_cons] at h
    injection h with h1 h2
    unfold Reps
    refine ⟨v, vs, rfl, ?_, scD_reps h2⟩
    cases d <;> simp only [scD, reduceCtorEq, Option.some.injEq] at h1 <;> (subst h1; simp only [Rep])
/-- a name of the module that stands for a def: its rule; dds fill up what a call leaves out -/
structure FOk (P : Program) (w : World) (K : PySem.W.Frag) (mg : Str → Option Value) (base : Heap) (t : Tb) (k : Nat) (x : Str) (F : FD) (n : Nat) (dds : List D) : Prop where
  ex : ∃ (f : Addr) (fd : FuncData) (ps : List Str) (ds : List Value) (dvs : List V), FnOk P w K mg base (L2.CX P w) k f fd ps (spD t F n) ∧ mg x = some (.ref f) ∧ PySem.W.keepIn K (.ref f) = true ∧ L2.Binds K fd ps ds ∧ Vals dvs ds ∧ dds.map scD = dvs.map some
/-- a name of the module that stands for a class whose instances are frozen once made -/
structure KOk (P : Program) (w : World) (K : PySem.W.Frag) (mg : Str → Option Value) (base : Heap) (t : Tb) (k : Nat) (x : Str) (cls : Nat) (F : FI) (n : Nat) (dds : List D) : Prop where
  ex : ∃ (f : Addr) (fd : FuncData) (ps : List Str) (ds : List Value) (dvs : List V), FnOk P w K mg base (L2.CX P w) k f fd ps (spI t cls F n) ∧ Mk K (t.cl cls) f ∧ mg x = some (.ref (t.cl cls)) ∧ L2.Binds K fd ps ds ∧ Vals dvs ds ∧ dds.map scD = dvs.map some
end
section
variable {X : Cx} {t : Tb} {W : WX} {w0 : Wd} {H0 : Bs} {xa xb : CE} {ca : CA} {a b e o : Expr} {es : List Expr} {pos : Pos}
theorem q_callF {F : FD} {n k : Nat} {dds : List D} {x : Str} {p : Pos} (hF : FOk X.prog X.w X.K X.mg X.base t k x F n dds) (hr : Room k X.A) (tk : Takes X W) (ha : PA X (e :: es) (tAr t W H0 ca)) (hg : Gl X x := by rfl) (hdb : (x == ("__debug__" : Str)) = false := by decide)
    (he : starEach (e :: es) X.env = (false, eval e X.env) :: starEach es X.env := by rfl) (hpl : (backTo pos (starEach es X.env)).any (·.1) = false := by rfl) : PE X (.Call (.Name x p) (e :: es) [] pos) (tE t W H0 (cCall F n dds ca)) := by
  obtain ⟨f, fd, ps, ds, dvs, h1, h2, h3, h4, h5, h6⟩ := hF.ex
  exact q_call h1 hr h2 h3 h4 h5 (fun w => scD_reps h6) tk ha hg hdb he hpl
theorem q_callF0 {F : FD} {n k : Nat} {dds : List D} {x : Str} {p : Pos} (hF : FOk X.prog X.w X.K X.mg X.base t k x F n dds) (hr : Room k X.A) (tk : Takes X W) (hg : Gl X x := by rfl) (hdb : (x == ("__debug__" : Str)) = false := by decide) : PE X (.Call (.Name x p) [] [] pos) (tE t W H0 (cCall F n dds cNil)) := by
  obtain ⟨f, fd, ps, ds, dvs, h1, h2, h3, h4, h5, h6⟩ := hF.ex
  exact q_call0 h1 hr h2 h3 h4 h5 (fun w => scD_reps h6) tk hg hdb
theorem q_makeF (cls : Nat) {x : Str} {p : Pos} {F : FI} {n : Nat} {dds : List D} {k : Nat} (hF : KOk X.prog X.w X.K X.mg X.base t k x cls F n dds) (hr : Room (k + 1) X.A) (tk : Takes X W)
    (ha : PA X (e :: es) (tAr t W H0 ca)) (hg : Gl X x := by rfl) (hdb : (x == ("__debug__" : Str)) = false := by decide) (he : starEach (e :: es) X.env = (false, eval e X.env) :: starEach es X.env := by rfl) (hpl : (backTo pos (starEach es X.env)).any (·.1) = false := by rfl) :
    PE X (.Call (.Name x p) (e :: es) [] pos) (tE t W H0 (cMake cls F n dds ca)) := by
  obtain ⟨f, fd, ps, ds, dvs, h1, h2, h3, h4, h5, h6⟩ := hF.ex
  exact q_make cls h2 h1 hr h3 h4 h5 (fun w => scD_reps h6) tk ha hg hdb he hpl
end
/-! ### the law's own end -/
theorem law_sp {t : Tb} {F : FD} (hF : ∀ ns : List Int, ns.length ≤ 63 → ∃ ah, F [.scr (ns.map .int)] [] = .ok (.bl true) ah) (H : Hp) (a : Addr) (ns : List Int) (hl : ns.length ≤ 63) (hS : SqL t.K H a (ns.map V.int)) : spD t F 1 [.ref a] H (fun v _ => v = .bl true) fun _ _ _ => False := by
  refine ⟨rfl, ⟨H, []⟩, [.scr (ns.map .int)], [], ⟨Same.refl _, rfl, List.nodup_nil, fun a h => (by cases h), fun n o a h => (by cases h)⟩, ?_, ?_⟩
  · refine reps_one ?_
    simp only [Rep]
    exact ⟨a, ns.map V.int, rfl, hS, reps_ints ns⟩
  · obtain ⟨ah, e⟩ := hF ns hl
    rw [e]
    intro w' b H' s A r
    simp only [Rep] at r
    exact r
theorem cx_no {P : Program} {w : World} (H : Hp) (s : Shared) (e : Value) (s' : Shared) (h : L2.CX P w [] H s (fun _ _ _ => False) e s') : False := by
  unfold L2.CX at h
  first
  | exact h
  | (obtain ⟨_, _, _, _, _, _, _, _, _, _, _, _, _, h⟩ := h; exact h)
  | (obtain ⟨_, _, _, _, _, _, _, _, _, _, _, _, h⟩ := h; exact h)
  | (obtain ⟨_, _, _, _, _, _, _, _, _, _, _, h⟩ := h; exact h)
  | (obtain ⟨_, _, _, _, _, _, _, _, _, _, h⟩ := h; exact h)
  | (obtain ⟨_, _, _, _, _, _, _, _, _, h⟩ := h; exact h)
  | (obtain ⟨_, _, _, _, _, _, _, _, h⟩ := h; exact h)
end G
namespace G
open PySem PySem.Spec PyProof.Rows L2
theorem hu65 {k : Nat} {A : Around} (r : Room k A) : A.units + 65 < cLine := by have := r.un; omega
end G
namespace G
open PySem PySem.Spec PyProof.Rows L2
theorem kitCls_own {K : PySem.W.Frag} {t : Value} {D : Addr} {b : Bool} (h2 : PySem.W.isClsIn K D = true) (h3 : PySem.W.typeIn K (.ref D) = some (.type "type")) (h4 : PySem.W.subIn K t (.ref D) = some b) : PySem.W.kitCls K t (.ref D) = some b := by
  have e2 : ((PySem.W.clsIn K D).isSome && PySem.W.typeIn K (.ref D) == some (.type "type")) = true := by
    have h2' : (PySem.W.clsIn K D).isSome = true := h2
    rw [h2', h3] <;> rfl
  show (if ((PySem.W.clsIn K D).isSome && PySem.W.typeIn K (.ref D) == some (.type "type")) = true then PySem.W.subIn K t (.ref D) else none) = some b
  rw [if_pos e2]
  exact h4
theorem kit_oo {K : PySem.W.Frag} {C D : Addr} {b : Bool} (h1 : PySem.W.subIn K (.ref C) (.ref C) = some true) (h2 : PySem.W.isClsIn K D = true) (h3 : PySem.W.typeIn K (.ref D) = some (.type "type")) (h4 : PySem.W.subIn K (.ref C) (.ref D) = some b) : PySem.W.kitOne K (.ref C) (.ref D) = some b := by
  unfold PySem.W.kitOne
  by_cases h : C = D
  · subst h
    rw [h1] at h4
    cases h4
    simp
  · rw [if_neg (by simpa using h)]
    exact kitCls_own h2 h3 h4
theorem kit_ot {K : PySem.W.Frag} {C : Addr} {T : String} {b : Bool} (h2 : PySem.W.kitMeta T = true) (h4 : PySem.W.subIn K (.ref C) (.type T) = some b) : PySem.W.kitOne K (.ref C) (.type T) = some b := by
  unfold PySem.W.kitOne
  rw [if_neg (by simp)]
  show (if PySem.W.kitMeta T = true then PySem.W.subIn K (.ref C) (.type T) else none) = some b
  rw [if_pos h2]
  exact h4
theorem kit_to {K : PySem.W.Frag} {D : Addr} {T : String} {b : Bool} (h2 : PySem.W.isClsIn K D = true) (h3 : PySem.W.typeIn K (.ref D) = some (.type "type")) (h4 : PySem.W.subIn K (.type T) (.ref D) = some b) : PySem.W.kitOne K (.type T) (.ref D) = some b := by
  unfold PySem.W.kitOne
  rw [if_neg (by simp)]
  exact kitCls_own h2 h3 h4
theorem exm_oo {K : PySem.W.Frag} {C D : Addr} {b : Bool} (h1 : PySem.W.subIn K (.ref D) (.type "BaseException") = some true) (h2 : PySem.W.isClsIn K D = true) (h3 : PySem.W.typeIn K (.ref D) = some (.type "type")) (h4 : PySem.W.subIn K (.ref C) (.ref D) = some b) : PySem.W.exmOne K (.ref C) (.ref D) = some b := by
  unfold PySem.W.exmOne
  rw [if_pos (by rw [h1] <;> rfl)]
  exact kitCls_own h2 h3 h4
end G
/-! The engine, part 11: running the plain functions: each combinator's step as a rewriting rule. -/
namespace G
open PySem PySem.Spec PyProof.Rows L2
section
variable {fl : Nat → List Str} {F : FD} {FI' : FI} {M : MtTab} {sub : Nat → Option Bool} {f g : F2} {u : AH → D → Option D} {fn : FL} {bmf : AH → D → List D → Option D} {gd : D → Bool} {tg : TgD} {a b c : CE} {ar br : CA} {ta tb : CT} {s r : CS} {it : CIt} {lo hi : CO} {env env' : En} {ah ah1 : AH} {x y d : D} {l m ds dds : List D} {n i j k cls : Nat} {e : Nat} {nm : Str}
/-! expressions -/
theorem ev_var : cVar i env ah = (match env[i]? with | some (.val d) => .ok d ah | _ => .bad) := rfl
theorem ev_c : cC d env ah = .ok d ah := rfl
def bin2 (f : F2) (x : D) (r : Res D) : Res D := r.bind fun y ah2 => ofO (f ah2 x y) ah2
def bin1 (f : F2) (b : CE) (env : En) (r : Res D) : Res D := r.bind fun x ah1 => bin2 f x (b env ah1)
theorem ev_bin : cBin f a b env ah = bin1 f b env (a env ah) := rfl
theorem bin1_ok : bin1 f b env (.ok x ah) = bin2 f x (b env ah) := rfl
theorem bin1_exc : bin1 f b env (.exc e l ah) = .exc e l ah := rfl
theorem bin2_ok : bin2 f x (.ok y ah) = ofO (f ah x y) ah := rfl
theorem bin2_exc : bin2 f x (.exc e l ah) = .exc e l ah := rfl
def un1 (u : AH → D → Option D) (r : Res D) : Res D := r.bind fun x ah1 => ofO (u ah1 x) ah1
theorem ev_un : cUn u a env ah = un1 u (a env ah) := rfl
theorem ev_fld : cFld fl nm a env ah = un1 (fldD fl nm) (a env ah) := rfl
theorem ev_isI {h : AH → D → Option Bool} : cIsI h a env ah = un1 (fun ah d => (h ah d).map D.bl) (a env ah) := rfl
theorem un1_ok : un1 u (.ok x ah) = ofO (u ah x) ah := rfl
theorem un1_exc : un1 u (.exc e l ah) = .exc e l ah := rfl
def test1 (r : Res D) : Res Bool := r.bind fun d ah1 => ofO (asB d) ah1
theorem ev_test : cTest a env ah = test1 (a env ah) := rfl
theorem test1_ok {z : Bool} : test1 (.ok (.bl z) ah) = .ok z ah := rfl
theorem test1_exc : test1 (.exc e l ah) = .exc e l ah := rfl
def notT1 (r : Res Bool) : Res Bool := r.bind fun c ah1 => .ok (!c) ah1
theorem ev_notT : cNotT ta env ah = notT1 (ta env ah) := rfl
theorem notT1_ok {z : Bool} : notT1 (.ok z ah) = .ok (!z) ah := rfl
theorem notT1_exc : notT1 (.exc e l ah) = .exc e l ah := rfl
def andT1 (b : CT) (env : En) (r : Res Bool) : Res Bool := r.bind fun c ah1 => if c = true then b env ah1 else .ok false ah1
theorem ev_andT : cAndT ta tb env ah = andT1 tb env (ta env ah) := rfl
theorem andT1_t : andT1 tb env (.ok true ah) = tb env ah := rfl
theorem andT1_f : andT1 tb env (.ok false ah) = .ok false ah := rfl
theorem andT1_exc : andT1 tb env (.exc e l ah) = .exc e l ah := rfl
def orT1 (b : CT) (env : En) (r : Res Bool) : Res Bool := r.bind fun c ah1 => if c = true then .ok true ah1 else b env ah1
theorem ev_orT : cOrT ta tb env ah = orT1 tb env (ta env ah) := rfl
theorem orT1_t : orT1 tb env (.ok true ah) = .ok true ah := rfl
theorem orT1_f : orT1 tb env (.ok false ah) = tb env ah := rfl
theorem orT1_exc : orT1 tb env (.exc e l ah) = .exc e l ah := rfl
def and1 (b : CE) (env : En) (r : Res D) : Res D := r.bind fun x ah1 => match x with
  | .bl true => b env ah1
  | .bl false => .ok (.bl false) ah1
  | _ => .bad
theorem ev_and : cAnd a b env ah = and1 b env (a env ah) := rfl
theorem and1_t : and1 b env (.ok (.bl true) ah) = b env ah := rfl
theorem and1_f : and1 b env (.ok (.bl false) ah) = .ok (.bl false) ah := rfl
theorem and1_exc : and1 b env (.exc e l ah) = .exc e l ah := rfl
def or1 (b : CE) (env : En) (r : Res D) : Res D := r.bind fun x ah1 => match x with
  | .bl true => .ok (.bl true) ah1
  | .bl false => b env ah1
  | _ => .bad
theorem ev_or : cOr a b env ah = or1 b env (a env ah) := rfl
theorem or1_t : or1 b env (.ok (.bl true) ah) = .ok (.bl true) ah := rfl
theorem or1_f : or1 b env (.ok (.bl false) ah) = b env ah := rfl
theorem or1_exc : or1 b env (.exc e l ah) = .exc e l ah := rfl
def if1 (a b : CE) (env : En) (r : Res Bool) : Res D := r.bind fun x ah1 => if x = true then a env ah1 else b env ah1
theorem ev_if : cIf ta a b env ah = if1 a b env (ta env ah) := rfl
theorem if1_t : if1 a b env (.ok true ah) = a env ah := rfl
theorem if1_f : if1 a b env (.ok false ah) = b env ah := rfl
theorem if1_exc : if1 a b env (.exc e l ah) = .exc e l ah := rfl
def ch3 (g : F2) (y : D) (r : Res D) : Res D := r.bind fun z ah3 => ofO (g ah3 y z) ah3
def chm (o : Option D) (g : F2) (y : D) (c : CE) (env : En) (ah : AH) : Res D := match o with
  | some (.bl true) => ch3 g y (c env ah)
  | some (.bl false) => .ok (.bl false) ah
  | _ => .bad
def ch2 (f g : F2) (x : D) (c : CE) (env : En) (r : Res D) : Res D := r.bind fun y ah2 => chm (f ah2 x y) g y c env ah2
def ch1 (f g : F2) (b c : CE) (env : En) (r : Res D) : Res D := r.bind fun x ah1 => ch2 f g x c env (b env ah1)
theorem ev_chain : cChain f g a b c env ah = ch1 f g b c env (a env ah) := rfl
theorem ch1_ok : ch1 f g b c env (.ok x ah) = ch2 f g x c env (b env ah) := rfl
theorem ch1_exc : ch1 f g b c env (.exc e l ah) = .exc e l ah := rfl
theorem ch2_ok : ch2 f g x c env (.ok y ah) = chm (f ah x y) g y c env ah := rfl
theorem ch2_exc : ch2 f g x c env (.exc e l ah) = .exc e l ah := rfl
theorem chm_t : chm (some (.bl true)) g y c env ah = ch3 g y (c env ah) := rfl
theorem chm_f : chm (some (.bl false)) g y c env ah = .ok (.bl false) ah := rfl
theorem ch3_ok : ch3 g y (.ok x ah) = ofO (g ah y x) ah := rfl
theorem ch3_exc : ch3 g y (.exc e l ah) = .exc e l ah := rfl
/-! arguments -/
theorem ev_nil : cNil env ah = .ok [] ah := rfl
def cons2 (x : D) (r : Res (List D)) : Res (List D) := r.bind fun xs ah2 => .ok (x :: xs) ah2
def cons1 (b : CA) (env : En) (r : Res D) : Res (List D) := r.bind fun x ah1 => cons2 x (b env ah1)
theorem ev_cons : cCons a ar env ah = cons1 ar env (a env ah) := rfl
theorem cons1_ok : cons1 ar env (.ok x ah) = cons2 x (ar env ah) := rfl
theorem cons1_exc : cons1 ar env (.exc e l ah) = .exc e l ah := rfl
theorem cons2_ok : cons2 x (.ok l ah) = .ok (x :: l) ah := rfl
theorem cons2_exc : cons2 x (.exc e l ah) = .exc e l ah := rfl
def tup1 (r : Res (List D)) : Res D := r.bind fun l ah1 => if l.length ≤ 1000 then .ok (.tup l) ah1 else .bad
def lst1 (r : Res (List D)) : Res D := r.bind fun l ah1 => if l.length ≤ 1000 then .ok (.lst l) ah1 else .bad
theorem ev_tup : cTup ar env ah = tup1 (ar env ah) := rfl
theorem ev_lst : cLst ar env ah = lst1 (ar env ah) := rfl
theorem tup1_ok : tup1 (.ok l ah) = if l.length ≤ 1000 then .ok (.tup l) ah else .bad := rfl
theorem tup1_exc : tup1 (.exc e l ah) = .exc e l ah := rfl
theorem lst1_ok : lst1 (.ok l ah) = if l.length ≤ 1000 then .ok (.lst l) ah else .bad := rfl
theorem lst1_exc : lst1 (.exc e l ah) = .exc e l ah := rfl
/-! slices -/
theorem ev_no : cNo env ah = .ok none ah := rfl
def part1 (r : Res D) : Res (Option Int) := r.bind fun x ah1 => match x with
  | .int i => .ok (some i) ah1
  | _ => .bad
theorem ev_part : cPart a env ah = part1 (a env ah) := rfl
theorem part1_ok {z : Int} : part1 (.ok (.int z) ah) = .ok (some z) ah := rfl
def sl3 (x : D) (z : Option Int) (r : Res (Option Int)) : Res D := r.bind fun h ah3 => ofO (slD x z h) ah3
def sl2 (x : D) (hi : CO) (env : En) (r : Res (Option Int)) : Res D := r.bind fun z ah2 => sl3 x z (hi env ah2)
def sl1 (lo hi : CO) (env : En) (r : Res D) : Res D := r.bind fun x ah1 => sl2 x hi env (lo env ah1)
theorem ev_sl : cSl a lo hi env ah = sl1 lo hi env (a env ah) := rfl
theorem sl1_ok : sl1 lo hi env (.ok x ah) = sl2 x hi env (lo env ah) := rfl
theorem sl1_exc : sl1 lo hi env (.exc e l ah) = .exc e l ah := rfl
theorem sl2_ok {z : Option Int} : sl2 x hi env (.ok z ah) = sl3 x z (hi env ah) := rfl
theorem sl3_ok {z w : Option Int} : sl3 x z (.ok w ah) = ofO (slD x z w) ah := rfl
/-! calls -/
def cb1 (fn : FL) (r : Res (List D)) : Res D := r.bind fun l ah1 => ofO (fn ah1 l) ah1
theorem ev_cb : cCB fn ar env ah = cb1 fn (ar env ah) := rfl
theorem cb1_ok : cb1 fn (.ok l ah) = ofO (fn ah l) ah := rfl
theorem cb1_exc : cb1 fn (.exc e l ah) = .exc e l ah := rfl
def call1 (F : FD) (n : Nat) (dds : List D) (r : Res (List D)) : Res D := r.bind fun l ah1 => if (l ++ dds).length = n then F (l ++ dds) ah1 else .bad
theorem ev_call : cCall F n dds ar env ah = call1 F n dds (ar env ah) := rfl
theorem call1_ok : call1 F n dds (.ok l ah) = if (l ++ dds).length = n then F (l ++ dds) ah else .bad := rfl
theorem call1_exc : call1 F n dds (.exc e l ah) = .exc e l ah := rfl
def make2 (cls : Nat) (r : Res (List D)) : Res D := r.bind fun fs ah2 => .ok (.obj cls fs) ah2
def make1 (cls : Nat) (F : FI) (n : Nat) (dds : List D) (r : Res (List D)) : Res D := r.bind fun l ah1 => if (l ++ dds).length = n then make2 cls (F (l ++ dds) ah1) else .bad
theorem ev_make : cMake cls FI' n dds ar env ah = make1 cls FI' n dds (ar env ah) := rfl
theorem make1_ok : make1 cls FI' n dds (.ok l ah) = if (l ++ dds).length = n then make2 cls (FI' (l ++ dds) ah) else .bad := rfl
theorem make1_exc : make1 cls FI' n dds (.exc e l ah) = .exc e l ah := rfl
theorem make2_ok : make2 cls (.ok l ah) = .ok (.obj cls l) ah := rfl
theorem make2_exc : make2 cls (.exc e l ah) = .exc e l ah := rfl
def methk (F : FD) (n : Nat) (x : D) (r : Res (List D)) : Res D := r.bind fun l ah2 => if l.length + 1 = n then F (x :: l) ah2 else .bad
def methm (o : Option (FD × Nat)) (x : D) (ar : CA) (env : En) (ah : AH) : Res D := match o with
  | some (F, n) => methk F n x (ar env ah)
  | none => .bad
def meth1 (M : MtTab) (ar : CA) (env : En) (r : Res D) : Res D := r.bind fun x ah1 => methm ((clsD ah1 x).bind M) x ar env ah1
theorem ev_meth : cMeth M a ar env ah = meth1 M ar env (a env ah) := rfl
theorem meth1_ok : meth1 M ar env (.ok x ah) = methm ((clsD ah x).bind M) x ar env ah := rfl
theorem meth1_exc : meth1 M ar env (.exc e l ah) = .exc e l ah := rfl
theorem methm_some : methm (some (F, n)) x ar env ah = methk F n x (ar env ah) := rfl
theorem methk_ok : methk F n x (.ok l ah) = if l.length + 1 = n then F (x :: l) ah else .bad := rfl
theorem methk_exc : methk F n x (.exc e l ah) = .exc e l ah := rfl
theorem cls_obj : clsD ah (.obj k l) = some k := rfl
def bm2 (bmf : AH → D → List D → Option D) (x : D) (r : Res (List D)) : Res D := r.bind fun l ah2 => ofO (bmf ah2 x l) ah2
def bm1 (gd : D → Bool) (bmf : AH → D → List D → Option D) (ar : CA) (env : En) (r : Res D) : Res D := r.bind fun x ah1 => if gd x = true then bm2 bmf x (ar env ah1) else .bad
theorem ev_bm : cBMg gd bmf a ar env ah = bm1 gd bmf ar env (a env ah) := rfl
theorem bm1_ok : bm1 gd bmf ar env (.ok x ah) = if gd x = true then bm2 bmf x (ar env ah) else .bad := rfl
theorem bm1_exc : bm1 gd bmf ar env (.exc e l ah) = .exc e l ah := rfl
theorem bm2_ok : bm2 bmf x (.ok l ah) = ofO (bmf ah x l) ah := rfl
theorem bm2_exc : bm2 bmf x (.exc e l ah) = .exc e l ah := rfl
/-! what is walked -/
def it1 (r : Res D) : Res (List D) := r.bind fun x ah1 => ofO (itD x) ah1
theorem ev_itAny : itAny a env ah = it1 (a env ah) := rfl
theorem it1_ok : it1 (.ok x ah) = ofO (itD x) ah := rfl
def rng1 (r : Res (List D)) : Res (List D) := r.bind fun x ah1 => match x with
  | [.int j] => if -(2 ^ 62) ≤ j ∧ j < 2 ^ 62 then .ok (rngD 0 j.toNat) ah1 else .bad
  | _ => .bad
theorem ev_rng1 : itRng1 ar env ah = rng1 (ar env ah) := rfl
theorem rng1_ok {z : Int} : rng1 (.ok [.int z] ah) = if -(2 ^ 62) ≤ z ∧ z < 2 ^ 62 then .ok (rngD 0 z.toNat) ah else .bad := rfl
def rng2 (r : Res (List D)) : Res (List D) := r.bind fun x ah1 => match x with
  | [.int i, .int j] => if -(2 ^ 62) ≤ i ∧ i < 2 ^ 62 ∧ -(2 ^ 62) ≤ j ∧ j < 2 ^ 62 then .ok (rngD i (j - i).toNat) ah1 else .bad
  | _ => .bad
theorem ev_rng2 : itRng2 ar env ah = rng2 (ar env ah) := rfl
theorem rng2_ok {y z : Int} : rng2 (.ok [.int y, .int z] ah) = if -(2 ^ 62) ≤ y ∧ y < 2 ^ 62 ∧ -(2 ^ 62) ≤ z ∧ z < 2 ^ 62 then .ok (rngD y (z - y).toNat) ah else .bad := rfl
def enum1 (r : Res (List D)) : Res (List D) := r.bind fun x ah1 => match x with
  | [d] => (ofO (seqD d) ah1).bind fun l ah2 => .ok (enumD 0 l) ah2
  | _ => .bad
theorem ev_enum : itEnum ar env ah = enum1 (ar env ah) := rfl
theorem enum1_lst : enum1 (.ok [.lst l] ah) = .ok (enumD 0 l) ah := rfl
theorem enum1_scr : enum1 (.ok [.scr l] ah) = .ok (enumD 0 l) ah := rfl
def zip1 (r : Res (List D)) : Res (List D) := r.bind fun x ah1 => match x with
  | [d, e] => (ofO (seqD d) ah1).bind fun l ah2 => (ofO (seqD e) ah2).bind fun m ah3 => .ok (zipD l m) ah3
  | _ => .bad
theorem ev_zip : itZip ar env ah = zip1 (ar env ah) := rfl
theorem zip1_lst : zip1 (.ok [.lst l, .lst m] ah) = .ok (zipD l m) ah := rfl
/-! statements -/
theorem ev_skip : cSkip env ah = .nx env ah := rfl
def seq1 (r : CS) (z : SRes) : SRes := match z with
  | .nx env' ah' => r env' ah'
  | z => z
theorem ev_seq : cSeq s r env ah = seq1 r (s env ah) := rfl
theorem seq1_nx : seq1 r (.nx env ah) = r env ah := rfl
theorem seq1_rt : seq1 r (.rt d ah) = .rt d ah := rfl
theorem seq1_bk : seq1 r (.bk env ah) = .bk env ah := rfl
theorem seq1_ct : seq1 r (.ct env ah) = .ct env ah := rfl
theorem seq1_exc : seq1 r (.exc e l env ah) = .exc e l env ah := rfl
theorem ev_brk : cBrk env ah = .bk env ah := rfl
theorem ev_cnt : cCnt env ah = .ct env ah := rfl
def expr1 (env : En) (r : Res D) : SRes := SRes.of env r fun _ ah1 => .nx env ah1
theorem ev_expr : cExpr a env ah = expr1 env (a env ah) := rfl
theorem expr1_ok : expr1 env (.ok x ah) = .nx env ah := rfl
theorem expr1_exc : expr1 env (.exc e l ah) = .exc e l env ah := rfl
def ret1 (env : En) (r : Res D) : SRes := SRes.of env r fun d ah1 => .rt d ah1
theorem ev_ret : cRet a env ah = ret1 env (a env ah) := rfl
theorem ret1_ok : ret1 env (.ok x ah) = .rt x ah := rfl
theorem ret1_exc : ret1 env (.exc e l ah) = .exc e l env ah := rfl
theorem ev_retN : cRetN env ah = .rt .non ah := rfl
def ifS1 (s r : CS) (env : En) (z : Res Bool) : SRes := SRes.of env z fun k ah1 => if k = true then s env ah1 else r env ah1
theorem ev_ifS : cIfS ta s r env ah = ifS1 s r env (ta env ah) := rfl
theorem ifS1_t : ifS1 s r env (.ok true ah) = s env ah := rfl
theorem ifS1_f : ifS1 s r env (.ok false ah) = r env ah := rfl
theorem ifS1_exc : ifS1 s r env (.exc e l ah) = .exc e l env ah := rfl
def nxO (o : Option En) (ah : AH) : SRes := match o with
  | some env' => .nx env' ah
  | none => .bad
theorem nxO_some : nxO (some env) ah = .nx env ah := rfl
def asg1 (tg : TgD) (env : En) (r : Res D) : SRes := SRes.of env r fun d ah1 => nxO (tg d env) ah1
theorem ev_asg : cAsg tg a env ah = asg1 tg env (a env ah) := rfl
theorem asg1_ok : asg1 tg env (.ok x ah) = nxO (tg x env) ah := rfl
theorem asg1_exc : asg1 tg env (.exc e l ah) = .exc e l env ah := rfl
theorem gN_ap : gN i d env = some (env.set i (.val d)) := rfl
theorem gTup_ap {is : List Nat} : gTupN is (.tup l) env = gNs is l env := rfl
theorem gNs_nil : gNs [] [] env = some env := rfl
theorem gNs_cons {is : List Nat} : gNs (i :: is) (d :: l) env = gNs is l (env.set i (.val d)) := rfl
def par1 (i j : Nat) (env : En) (r : Res (List D)) : SRes := SRes.of env r fun l ah1 => match l with
  | [x, y] => .nx ((env.set i (.val x)).set j (.val y)) ah1
  | _ => .bad
theorem ev_par : cPar i j ar env ah = par1 i j env (ar env ah) := rfl
theorem par1_ok : par1 i j env (.ok [x, y] ah) = .nx ((env.set i (.val x)).set j (.val y)) ah := rfl
theorem par1_exc : par1 i j env (.exc e l ah) = .exc e l env ah := rfl
def for1 (tg : TgD) (s : CS) (env : En) (r : Res (List D)) : SRes := SRes.of env r fun l ah1 => forL tg s l env ah1
theorem ev_for : cFor it tg s env ah = for1 tg s env (it env ah) := rfl
theorem for1_ok : for1 tg s env (.ok l ah) = forL tg s l env ah := rfl
theorem for1_exc : for1 tg s env (.exc e l ah) = .exc e l env ah := rfl
def forK (tg : TgD) (s : CS) (l : List D) (z : SRes) : SRes := match z with
  | .nx env' ah' => forL tg s l env' ah'
  | .ct env' ah' => forL tg s l env' ah'
  | .bk env' ah' => .nx env' ah'
  | z => z
def forM (tg : TgD) (s : CS) (l : List D) (o : Option En) (ah : AH) : SRes := match o with
  | none => .bad
  | some env1 => forK tg s l (s env1 ah)
theorem forL_nil : forL tg s [] env ah = .nx env ah := rfl
theorem forL_cons : forL tg s (d :: l) env ah = forM tg s l (tg d env) ah := by
  unfold forL forM forK
  cases tg d env with
  | none => rfl
  | some env1 =>
    simp only <;> (cases s env1 ah <;> rfl)
theorem forM_some : forM tg s l (some env) ah = forK tg s l (s env ah) := rfl
theorem forK_nx : forK tg s l (.nx env ah) = forL tg s l env ah := rfl
theorem forK_ct : forK tg s l (.ct env ah) = forL tg s l env ah := rfl
theorem forK_bk : forK tg s l (.bk env ah) = .nx env ah := rfl
theorem forK_rt : forK tg s l (.rt d ah) = .rt d ah := rfl
theorem forK_exc : forK tg s l (.exc e m env ah) = .exc e m env ah := rfl
def tryK1 (sub : Nat → Option Bool) (i j : Nat) (z : SRes) : SRes := match z with
  | .exc c l env' ah' => match sub c with
    | some true => if i < env'.length then .nx (((env'.set i .no).set j (.val (.exc c l))).set i .no) ah' else .bad
    | some false => .exc c l env' ah'
    | none => .bad
  | z => z
theorem ev_tryK : cTryK s sub i j env ah = tryK1 sub i j (s env ah) := rfl
theorem tryK1_nx : tryK1 sub i j (.nx env ah) = .nx env ah := rfl
theorem tryK1_rt : tryK1 sub i j (.rt d ah) = .rt d ah := rfl
theorem tryK1_exc (h : sub e = some true) (hi : i < env.length) : tryK1 sub i j (.exc e l env ah) = .nx (((env.set i .no).set j (.val (.exc e l))).set i .no) ah := by
  unfold tryK1
  simp only [h, if_pos hi]
theorem ev_raise : cRaise k env ah = .exc k [] env ah := rfl
def setF1 (fl : Nat → List Str) (i : Nat) (nm : Str) (env : En) (r : Res D) : SRes := SRes.of env r fun d ah1 => match env[i]? with
  | some (.own (.ins k l)) => match putD (fl k) nm d l with
    | some l' => .nx (env.set i (.own (.ins k l'))) ah1
    | none => .bad
  | some (.val (.ref n)) => match ah1[n]? with
    | some (.ins k l) => match putD (fl k) nm d l with
      | some l' => .nx env (ah1.set n (.ins k l'))
      | none => .bad
    | _ => .bad
  | _ => .bad
theorem ev_setF : cSetF fl i nm a env ah = setF1 fl i nm env (a env ah) := rfl
theorem setF1_own {l' : List D} (h1 : env[i]? = some (.own (.ins k l))) (h : putD (fl k) nm x l = some l') : setF1 fl i nm env (.ok x ah) = .nx (env.set i (.own (.ins k l'))) ah := by
  unfold setF1
  simp only [of_ok, h1, h]
theorem setF1_exc : setF1 fl i nm env (.exc e l ah) = .exc e l env ah := rfl
/-! defs -/
def run1 (z : SRes) : Res D := match z with
  | .rt d ah' => .ok d ah'
  | .nx _ ah' => .ok .non ah'
  | .exc c l _ ah' => .exc c l ah'
  | _ => .bad
theorem ev_run : runDef s n ds ah = run1 (s (env0 n ds) ah) := rfl
theorem run1_rt : run1 (.rt d ah) = .ok d ah := rfl
theorem run1_nx : run1 (.nx env ah) = .ok .non ah := rfl
theorem run1_exc : run1 (.exc e l env ah) = .exc e l ah := rfl
def init1 (cls nf : Nat) (z : SRes) : Res (List D) := match z with
  | .nx env ah' => endI cls nf env ah'
  | .exc e l _ ah' => .exc e l ah'
  | _ => .bad
theorem ev_init : runInit s n cls k ds ah = init1 cls k (s (env1 cls n ds) ah) := rfl
theorem init1_nx : init1 cls k (.nx env ah) = endI cls k env ah := rfl
theorem init1_exc : init1 cls k (.exc e l env ah) = .exc e l ah := rfl
theorem endI_ok (h : l.length = k) : endI cls k (.own (.ins cls l) :: env) ah = .ok l ah := by
  unfold endI
  simp only [h, and_self, if_true]
/-! operations by values -/
variable {p q : Int} {z w : Bool} {v : Str}
theorem add_i : addD ah (.int p) (.int q) = some (.int (p + q)) := rfl
theorem add_s {v' : Str} (h : v.length + v'.length ≤ sizeLine) : addD ah (.str v) (.str v') = some (.str (v ++ v')) := if_pos h
theorem add_l (h : l.length + m.length ≤ sizeLine) : addD ah (.lst l) (.lst m) = some (.lst (l ++ m)) := if_pos h
theorem add_t (h : l.length + m.length ≤ sizeLine) : addD ah (.tup l) (.tup m) = some (.tup (l ++ m)) := if_pos h
theorem sub_i : subD ah (.int p) (.int q) = some (.int (p - q)) := rfl
theorem mul_i (h : mulOk p q) : mulD ah (.int p) (.int q) = some (.int (p * q)) := if_pos h
theorem fdiv_i (h : divOk q) : fdivD ah (.int p) (.int q) = some (.int (p.fdiv q)) := if_pos h
theorem mod_i (h : q ≠ 0) : modD ah (.int p) (.int q) = some (.int (p.fmod q)) := if_pos h
theorem pow_i (h : 0 ≤ q ∧ q ≤ 1000000 ∧ p.natAbs < 2 ^ 64) : powD ah (.int p) (.int q) = some (.int (p ^ q.toNat)) := if_pos h
theorem neg_i : negD ah (.int p) = some (.int (-p)) := rfl
theorem not_b : notD ah (.bl z) = some (.bl (!z)) := rfl
theorem lt_i : ltD ah (.int p) (.int q) = some (.bl (decide (p < q))) := rfl
theorem le_i : leD ah (.int p) (.int q) = some (.bl (decide (p ≤ q))) := rfl
theorem gt_i : gtD ah (.int p) (.int q) = some (.bl (decide (q < p))) := rfl
theorem ge_i : geD ah (.int p) (.int q) = some (.bl (decide (q ≤ p))) := rfl
theorem eq_i : eqD ah (.int p) (.int q) = some (.bl (decide (p = q))) := by
  show some (D.bl (decide (V.int p = V.int q))) = _
  congr 2
  simp
theorem ne_i : neD ah (.int p) (.int q) = some (.bl (!decide (p = q))) := by
  show some (D.bl (!decide (V.int p = V.int q))) = _
  congr 3
  simp
theorem eq_s {v' : Str} : eqD ah (.str v) (.str v') = some (.bl (decide (v = v'))) := by
  show some (D.bl (decide (V.str v = V.str v'))) = _
  congr 2
  simp
theorem ne_s {v' : Str} : neD ah (.str v) (.str v') = some (.bl (!decide (v = v'))) := by
  show some (D.bl (!decide (V.str v = V.str v'))) = _
  congr 3
  simp
theorem is_n : isND ah x .non = some (.bl (isN x)) := rfl
theorem nis_n : notND ah x .non = some (.bl (!isN x)) := rfl
theorem abs_i : absD ah [.int p] = some (.int (if p < 0 then -p else p)) := rfl
theorem int_i : intD ah [.int p] = some (.int p) := rfl
theorem int_b : intD ah [.bl z] = some (.int (if z then 1 else 0)) := rfl
theorem str_i (h : p.natAbs.log2 < 1920) : strD ah [.int p] = some (.str (toString p)) := if_pos h
theorem str_s : strD ah [.str v] = some (.str v) := rfl
theorem list_s : listD ah [.scr l] = some (.lst l) := rfl
theorem list_l : listD ah [.lst l] = some (.lst l) := rfl
theorem list_t : listD ah [.tup l] = some (.lst l) := rfl
theorem tup_s : tupD ah [.scr l] = some (.tup l) := rfl
theorem tup_l : tupD ah [.lst l] = some (.tup l) := rfl
theorem tup_t : tupD ah [.tup l] = some (.tup l) := rfl
theorem len_l : lenD ah [.lst l] = some (.int l.length) := rfl
theorem len_t : lenD ah [.tup l] = some (.int l.length) := rfl
theorem len_r : lenD ah [.scr l] = some (.int l.length) := rfl
theorem len_s (h : v.length ≤ sizeLine) : lenD ah [.str v] = some (.int v.length) := if_pos h
theorem idx_l : idxD ah (.lst l) (.int p) = atI l p := rfl
theorem idx_t : idxD ah (.tup l) (.int p) = atI l p := rfl
theorem idx_r : idxD ah (.scr l) (.int p) = atI l p := rfl
theorem sl_l {o o' : Option Int} : slD (.lst l) o o' = some (.lst (cutD l o o')) := rfl
theorem sl_t {o o' : Option Int} : slD (.tup l) o o' = some (.tup (cutD l o o')) := rfl
/-! bounds -/
theorem mulOk_l (h : -(2 ^ 64) < p ∧ p < 2 ^ 64) : mulOk p q := .inl (.inl h)
theorem mulOk_r (h : -(2 ^ 64) < q ∧ q < 2 ^ 64) : mulOk p q := .inl (.inr h)
theorem mulOk_w {a b : Nat} (ha : p.natAbs < 2 ^ a) (hb : q.natAbs < 2 ^ b) (h0 : 0 < a) (h1 : 0 < b) (h : a + b ≤ 1000000) : mulOk p q := .inr (wide_mul ha hb h0 h1 h)
theorem divOk_w {b : Nat} (h : q ≠ 0) (hb : q.natAbs < 2 ^ b) (h0 : 0 < b) (h9 : b ≤ 9000) : divOk q := ⟨h, Nat.lt_of_lt_of_le (PySem.Flt.log2_lt_of h0 hb) h9⟩
theorem log_w {a : Nat} (ha : p.natAbs < 2 ^ a) (h0 : 0 < a) (h : a ≤ 1920) : p.natAbs.log2 < 1920 := Nat.lt_of_lt_of_le (PySem.Flt.log2_lt_of h0 ha) h
end
end G
namespace G
open PySem PySem.Spec PyProof.Rows L2
theorem fld_at {fl : Nat → List Str} {f : Str} {ah : AH} {c i : Nat} {l : List D} {d : D} (h : flIx (fl c) f = some i) (e : l[i]? = some d) : fldD fl f ah (.obj c l) = some d := by
  show (flIx (fl c) f).bind (fun i => l[i]?) = some d
  rw [h]
  exact e
theorem put_at {ns : List Str} {f : Str} {i : Nat} {l : List D} {d : D} (h : flIx ns f = some i) (e : l.length = i) : putD ns f d l = some (l ++ [d]) := by
  unfold putD
  rw [h]
  simp only
  rw [if_neg (by omega), if_pos e.symm]
end G
/-! while, as steps; places -/
namespace G
open PySem PySem.Spec PyProof.Rows L2
section
variable {c : CT} {s : CS} {n : Nat} {env : En} {ah : AH} {e : Nat} {l : List D} {d : D}
def whK (c : CT) (s : CS) (n : Nat) (z : SRes) : SRes := match z with
  | .nx env' ah' => whL c s n env' ah'
  | .ct env' ah' => whL c s n env' ah'
  | .bk env' ah' => .nx env' ah'
  | z => z
def whC (c : CT) (s : CS) (n : Nat) (env : En) (r : Res Bool) : SRes := SRes.of env r fun k ah1 => if k = true then whK c s n (s env ah1) else .nx env ah1
theorem whL_succ : whL c s (n + 1) env ah = whC c s n env (c env ah) := by
  rw [whL]
  unfold whC whK
  cases c env ah with
  | ok k ah1 =>
    simp only [of_ok] <;> (split <;> first | rfl | (cases s env ah1 <;> rfl))
  | exc _ _ _ => rfl
  | bad => rfl
theorem whC_t : whC c s n env (.ok true ah) = whK c s n (s env ah) := rfl
theorem whC_f : whC c s n env (.ok false ah) = .nx env ah := rfl
theorem whK_nx : whK c s n (.nx env ah) = whL c s n env ah := rfl
theorem whK_ct : whK c s n (.ct env ah) = whL c s n env ah := rfl
theorem whK_bk : whK c s n (.bk env ah) = .nx env ah := rfl
theorem whK_rt : whK c s n (.rt d ah) = .rt d ah := rfl
theorem while_nx {env' : En} {ah' : AH} (h : whL c s n env ah = .nx env' ah') : cWhile c s env ah = .nx env' ah' := while_eq h (by intro z; cases z)
theorem at_mem {l : List D} {i : Int} (h0 : 0 ≤ i) (h : i < l.length) : ∃ d ∈ l, atI l i = some d := by
  have hj : ixN l.length i = some i.toNat := by
    unfold ixN
    split <;> rename_i q <;> first | omega | skip
    simp_all
  refine ⟨l[i.toNat]'(by omega), List.getElem_mem _, ?_⟩
  unfold atI
  rw [hj]
  exact List.getElem?_eq_getElem (by omega)
end
end G
namespace G
open PySem PySem.Spec PyProof.Rows L2
section
variable {α : Type} {a b c d e : α} {l : List α}
theorem at_0 : atI (a :: l) 0 = some a := by
  unfold atI ixN
  rw [if_pos (by decide), if_pos (by simp only [List.length_cons]; omega)]
  rfl
theorem at_1 : atI (a :: b :: l) 1 = some b := by
  unfold atI ixN
  rw [if_pos (by decide), if_pos (by simp only [List.length_cons]; omega)]
  rfl
theorem at_2 : atI (a :: b :: c :: l) 2 = some c := by
  unfold atI ixN
  rw [if_pos (by decide), if_pos (by simp only [List.length_cons]; omega)]
  rfl
theorem at_3 : atI (a :: b :: c :: d :: l) 3 = some d := by
  unfold atI ixN
  rw [if_pos (by decide), if_pos (by simp only [List.length_cons]; omega)]
  rfl
theorem at_4 : atI (a :: b :: c :: d :: e :: l) 4 = some e := by
  unfold atI ixN
  rw [if_pos (by decide), if_pos (by simp only [List.length_cons]; omega)]
  rfl
end
theorem eqv_t2 {ah : AH} {p q r s : Int} : neD ah (.tup [.int p, .int q]) (.tup [.int r, .int s]) = some (.bl (!(decide (p = r) && decide (q = s)))) := by
  have e : eqB (.tup [.int p, .int q]) (.tup [.int r, .int s]) = some (PyData.eqv (.tuple [.int p, .int q]) (.tuple [.int r, .int s])) := rfl
  unfold neD
  rw [e]
  have e2 : PyData.eqv (.tuple [.int p, .int q]) (.tuple [.int r, .int s]) = (decide (p = r) && decide (q = s)) := by
    by_cases h1 : p = r <;> by_cases h2 : q = s <;> simp [PyData.eqv, PyData.eqvAll, h1, h2]
  rw [e2]
  rfl
theorem txt_len {a : Int} {k : Nat} (hk : 0 < k) (h : a.natAbs < 2 ^ k) : (toString a : Str).length ≤ k + 1 := by
  have e := int_text_length_le (a := a) hk (PySem.Flt.log2_lt_of hk h)
  show (Str.ofString (toString a)).length ≤ k + 1
  rw [PySem.ofString_length]
  exact e
end G
namespace G
open PySem PySem.Spec PyProof.Rows L2
theorem eq_t2 {ah : AH} {p q r s : Int} : eqD ah (.tup [.int p, .int q]) (.tup [.int r, .int s]) = some (.bl (decide (p = r) && decide (q = s))) := by
  have e : eqB (.tup [.int p, .int q]) (.tup [.int r, .int s]) = some (PyData.eqv (.tuple [.int p, .int q]) (.tuple [.int r, .int s])) := rfl
  unfold eqD
  rw [e]
  have e2 : PyData.eqv (.tuple [.int p, .int q]) (.tuple [.int r, .int s]) = (decide (p = r) && decide (q = s)) := by
    by_cases h1 : p = r <;> by_cases h2 : q = s <;> simp [PyData.eqv, PyData.eqvAll, h1, h2]
  rw [e2]
  rfl
end G
/-! The engine, part 12: reading a slot's own list; lists unpacked. -/
namespace G
open PySem PySem.Spec PyProof.Rows L2
section
variable {X : Cx} {t : Tb} {W : WX} {w0 : Wd} {H0 : Bs} {xa xb : CE} {ca : CA} {a b e o : Expr} {es : List Expr} {pos : Pos}
def cIxS (i : Nat) (k : CE) : CE := fun env ah => match env[i]? with
  | some (.val d) => (k env ah).bind fun y ah2 => ofO (idxD ah2 d y) ah2
  | some (.own (.lst l)) => (k env ah).bind fun y ah2 => match y with
    | .int n => ofO (atI l n) ah2
    | _ => .bad
  | _ => .bad
theorem q_ixS (i : Nat) {x : Str} {p : Pos} (hb : PE X b (tE t W H0 xb)) (hN : X.N[i]? = some x := by rfl) (hv : Vis X.env.scope x := by first | exact Or.inl rfl | exact Or.inr (Or.inl rfl) | exact Or.inr (Or.inr rfl)) (hd : (x == ("__debug__" : Str)) = false := by decide)
    (hcd : (x == ("__classdict__" : Str)) = false := by decide) (hs : PlainIx b := by exact fun _ _ => rfl) (hK : t.K = X.K := by rfl) : PE X (.Subscript (.Name x p) b pos) (tE t W H0 (cIxS i xb)) := by
  refine PE.imp (pe_ix ix_seq (pv i hN hv hd hcd) hb hs) ?_
  rintro σ H Q ⟨w, env, ah, A, R, P⟩
  unfold cIxS at P
  split at P
  · rename_i d he
    obtain ⟨v, hv, r⟩ := R.slot i _ he
    refine ⟨v, hv, w, env, ah, A, R, post_bind P fun y ah2 w2 u H2 s2 A2 r2 P2 => ?_⟩
    cases e : idxD ah2 d y with
    | none => rw [e] at P2; exact False.elim P2
    | some z =>
      rw [e] at P2
      exact bs_idx hK w2 ah2 H2 d y z v u _ A2 (Rep.mono s2.le d r) r2 e fun w' z' H' s' A' rz => P2 w' z' H' s' A' rz
  · rename_i l he
    obtain ⟨p, ob, q1, q2, q3, q4, q5, q6, q7⟩ := R.slot i _ he
    obtain ⟨m1, vs, m2, m3⟩ := q3
    refine ⟨.ref p, q1, w, env, ah, A, R, post_bind P fun y ah2 w2 u H2 s2 A2 r2 P2 => ?_⟩
    obtain ⟨n1, n2, n3⟩ := stay_at s2 m2 m1 q5
    split at P2
    · rename_i n
      simp only [Rep] at r2
      cases e : atI l n with
      | none => rw [e] at P2; exact False.elim P2
      | some d =>
        rw [e] at P2
        obtain ⟨z, z1, z2⟩ := atI_reps (Reps.mono s2.le l m3) e
        exact .inl ⟨p, vs, n, z, rfl, r2, SqL.of n1, z1, post_ok P2 A2 z2⟩
    · exact False.elim P2
  · exact False.elim P
def cLenS (i : Nat) : CE := fun env ah => match env[i]? with
  | some (.own (.lst l)) => .ok (.int l.length) ah
  | some (.val d) => ofO (lenD ah [d]) ah
  | _ => .bad
def gAnyN (is : List Nat) : TgD := fun d env => match d with
  | .tup l => gNs is l env
  | .lst l => gNs is l env
  | _ => none
def gAny (K : PySem.W.Frag) (n : Nat) (t : TGs) : TG := fun v σ H Q => gTup K n t v σ H Q ∨ gLst K n t v σ H Q
theorem pg_any {es : List Expr} {k : Nat} {t : TGs} {n : Nat} (hc : X.calm = true) (h : PGs X es t)
    (hn : (assignEach es X.env).length = n := by rfl) (hst : (assignEach es X.env).findIdx? (·.1) = none := by rfl) : PG X (.Tuple es k pos) (gAny X.K n t) := by
  refine ⟨fun pins s σ H v u Q I r hw => ?_⟩
  rcases hw with hw | hw
  · exact (pg_tup hc h hn hst).run pins s σ H v u Q I r hw
  · exact (pg_lst hc h hn hst).run pins s σ H v u Q I r hw
theorem tg_any (is : List Nat) : TgS t is (gAnyN is) (gAny t.K is.length (gSeq is)) := by
  intro H0 w ah env env' σ H d v Q A E r e q
  unfold gAnyN at e
  split at e
  · rename_i l
    simp only [Rep] at r
    obtain ⟨p, vs, rfl, h1, h2⟩ := r
    exact .inl ⟨p, vs, rfl, same_sqT A.sub h1, by rw [← reps_len h2, gNs_len is e], tgs_names is A E h2 e q⟩
  · rename_i l
    simp only [Rep] at r
    obtain ⟨p, vs, rfl, h1, h2⟩ := r
    exact .inr ⟨p, vs, rfl, SqL.of (A.sub _ _ h1), by rw [← reps_len h2, gNs_len is e], tgs_names is A E h2 e q⟩
  · cases e
end
theorem eqB_refl {x : D} {p : PyData} (h : pd x = some p) (hs : scD x = none) (hz : SeqAt.shaped p = true) (hr : PyData.eqv p p = true) : eqB x x = some true := by
  unfold eqB
  rw [hs, h]
  simp only [hz, Bool.and_self, if_true, hr]
section
variable {l : List D} {env : En} {ah : AH} {i : Nat} {k : CE} {is : List Nat} {z n : Int} {d y : D}
def ixS1 (l : List D) (r : Res D) : Res D := r.bind fun y ah2 => match y with
  | .int n => ofO (atI l n) ah2
  | _ => .bad
def ixS0 (s : Option Sl) (k : CE) (env : En) (ah : AH) : Res D := match s with
  | some (.val d) => bin2 idxD d (k env ah)
  | some (.own (.lst l)) => ixS1 l (k env ah)
  | _ => .bad
theorem ev_ixS : cIxS i k env ah = ixS0 env[i]? k env ah := rfl
theorem ixS0_val : ixS0 (some (.val d)) k env ah = bin2 idxD d (k env ah) := rfl
theorem ixS0_own : ixS0 (some (.own (.lst l))) k env ah = ixS1 l (k env ah) := rfl
theorem ixS1_ok : ixS1 l (.ok (.int n) ah) = ofO (atI l n) ah := rfl
theorem gAny_t : gAnyN is (.tup l) env = gNs is l env := rfl
theorem gAny_l : gAnyN is (.lst l) env = gNs is l env := rfl
def newL1 (i : Nat) (env : En) (r : Res (List D)) : SRes := SRes.of env r fun l ah1 => if l.length ≤ 1000 then .nx (env.set i (.own (.lst l))) ah1 else .bad
theorem ev_newL {ar : CA} : cNewL i ar env ah = newL1 i env (ar env ah) := rfl
theorem newL1_ok : newL1 i env (.ok l ah) = if l.length ≤ 1000 then .nx (env.set i (.own (.lst l))) ah else .bad := rfl
def app1 (l : List D) (i : Nat) (env : En) (r : Res D) : SRes := SRes.of env r fun d ah1 => if l.length < 10000000 then .nx (env.set i (.own (.lst (l ++ [d])))) ah1 else .bad
def app0 (s : Option Sl) (i : Nat) (k : CE) (env : En) (ah : AH) : SRes := match s with
  | some (.own (.lst l)) => app1 l i env (k env ah)
  | _ => .bad
theorem ev_app : cApp i k env ah = app0 env[i]? i k env ah := rfl
theorem app0_own : app0 (some (.own (.lst l))) i k env ah = app1 l i env (k env ah) := rfl
theorem app1_ok : app1 l i env (.ok d ah) = if l.length < 10000000 then .nx (env.set i (.own (.lst (l ++ [d])))) ah else .bad := rfl
def setI3 (l : List D) (d : D) (i : Nat) (env : En) (n : Int) (ah : AH) : SRes := match ixN l.length n with
  | some j => .nx (env.set i (.own (.lst (l.set j d)))) ah
  | none => .bad
def setI2 (l : List D) (d : D) (i : Nat) (env : En) (r : Res D) : SRes := SRes.of env r fun x ah2 => match x with
  | .int n => setI3 l d i env n ah2
  | _ => .bad
def setI1 (l : List D) (i : Nat) (k : CE) (env : En) (r : Res D) : SRes := SRes.of env r fun d ah1 => setI2 l d i env (k env ah1)
def setI0 (s : Option Sl) (i : Nat) (c k : CE) (env : En) (ah : AH) : SRes := match s with
  | some (.own (.lst l)) => setI1 l i k env (c env ah)
  | _ => .bad
theorem ev_setI {c : CE} : cSetI i c k env ah = setI0 env[i]? i c k env ah := rfl
theorem setI0_own {c : CE} : setI0 (some (.own (.lst l))) i c k env ah = setI1 l i k env (c env ah) := rfl
theorem setI1_ok : setI1 l i k env (.ok d ah) = setI2 l d i env (k env ah) := rfl
theorem setI2_ok : setI2 l d i env (.ok (.int n) ah) = setI3 l d i env n ah := rfl
theorem setI3_ok {j : Nat} (h : ixN l.length n = some j) : setI3 l d i env n ah = .nx (env.set i (.own (.lst (l.set j d)))) ah := by
  unfold setI3
  rw [h]
def frz0 (s : Option Sl) (i : Nat) (env : En) : En := match s with
  | some (.own (.lst l)) => env.set i (.val (.lst l))
  | some (.own (.dct ks l)) => env.set i (.val (.dct ks l))
  | _ => env
theorem ev_frz {s : CS} : cFrz i s env ah = s (frz0 env[i]? i env) ah := rfl
theorem frz0_own : frz0 (some (.own (.lst l))) i env = env.set i (.val (.lst l)) := rfl
theorem frz0_val : frz0 (some (.val d)) i env = env := rfl
def lc2 (vs : List Nat) (f : TgD) (tt : CT) (te : CE) (env : En) (l : List D) (y : D) (z : Res (List D)) : Res (List D) := z.bind fun ys ah3 => .ok (y :: ys) ah3
def lcB (vs : List Nat) (f : TgD) (tt : CT) (te : CE) (env : En) (l : List D) (z : Res D) : Res (List D) := (noX z).bind fun y ah2 => lc2 vs f tt te env l y (lcL vs f tt te env l ah2)
def lcA (vs : List Nat) (f : TgD) (tt : CT) (te : CE) (env env1 : En) (l : List D) (z : Res Bool) : Res (List D) := (noX z).bind fun k ah1 => if k = true then lcB vs f tt te env l (te env1 ah1) else lcL vs f tt te env l ah1
def lcO (vs : List Nat) (f : TgD) (tt : CT) (te : CE) (env : En) (l : List D) (o : Option En) (ah : AH) : Res (List D) := match o with
  | none => .bad
  | some env1 => lcA vs f tt te env env1 l (tt env1 ah)
variable {vs : List Nat} {f : TgD} {tt : CT} {te : CE} {env1 : En}
theorem lcL_nil : lcL vs f tt te env [] ah = .ok [] ah := rfl
theorem lcL_cons : lcL vs f tt te env (d :: l) ah = lcO vs f tt te env l (f d (wipeE env vs)) ah := by
  rw [lcL]
  cases f d (wipeE env vs) <;> rfl
theorem lcO_some : lcO vs f tt te env l (some env1) ah = lcA vs f tt te env env1 l (tt env1 ah) := rfl
theorem lcA_t : lcA vs f tt te env env1 l (.ok true ah) = lcB vs f tt te env l (te env1 ah) := rfl
theorem lcA_f : lcA vs f tt te env env1 l (.ok false ah) = lcL vs f tt te env l ah := rfl
theorem lcB_ok : lcB vs f tt te env l (.ok y ah) = lc2 vs f tt te env l y (lcL vs f tt te env l ah) := rfl
theorem lc2_ok {m : List D} : lc2 vs f tt te env l y (.ok m ah) = .ok (y :: m) ah := rfl
theorem ev_yes : cYes env ah = .ok true ah := rfl
theorem wipe_nil : wipeE env [] = env := rfl
theorem wipe_cons : wipeE env (i :: vs) = (wipeE env vs).set i .no := rfl
def lcE (r : Res (List D)) : Res D := r.bind fun ys ah2 => .ok (.lst ys) ah2
def lc0 (vs : List Nat) (f : TgD) (tt : CT) (te : CE) (env : En) (r : Res (List D)) : Res D := r.bind fun l ah1 => if l.length ≤ 10000000 then lcE (lcL vs f tt te env l ah1) else .bad
theorem ev_lc {it : CIt} : cLc it vs f tt te env ah = lc0 vs f tt te env (it env ah) := rfl
theorem lc0_ok : lc0 vs f tt te env (.ok l ah) = if l.length ≤ 10000000 then lcE (lcL vs f tt te env l ah) else .bad := rfl
theorem lcE_ok : lcE (.ok l ah) = .ok (.lst l) ah := rfl
theorem it_l : itD (.lst l) = some l := rfl
theorem it_t : itD (.tup l) = some l := rfl
theorem it_r : itD (.scr l) = some l := rfl
end
end G
/-! The engine, part 13: methods of texts, constants of a module. -/
namespace G
open PySem PySem.Spec PyProof.Rows L2
section
variable {X : Cx} {t : Tb} {W : WX} {w0 : Wd} {H0 : Bs} {xa xb : CE} {ca : CA} {a b e o : Expr} {es : List Expr} {pos : Pos}
theorem reps_strs {w : Wd} : ∀ (ys : List Str), Reps t w (ys.map D.str) (ys.map V.str)
  | [] => by
    show Reps t w [] []
    simp only [Reps]
  | y :: r => by
    show Reps t w (D.str y :: r.map D.str) (V.str y :: r.map V.str)
    simp only [Reps]
    exact ⟨.str y, r.map V.str, rfl, by simp only [Rep], reps_strs r⟩
def strsD : List D → Option (List Str)
  | [] => some []
  | .str s :: r => (strsD r).map (s :: ·)
  | _ => none
theorem strs_rep {w : Wd} : ∀ {l : List D} {vs : List V} {ss : List Str}, Reps t w l vs → strsD l = some ss → vs = ss.map V.str
  | [], vs, ss, r, e => by
    simp only [strsD] at e
    cases e
    simp only [Reps] at r
    subst r
    rfl
  | d :: l, vs, ss, r, e => by
    simp only [Reps] at r
    obtain ⟨v, vr, rfl, h1, h2⟩ := r
    cases d <;> simp only [strsD, reduceCtorEq] at e
    rename_i s
    cases q : strsD l with
    | none => rw [q] at e; cases e
    | some cs =>
      rw [q] at e
      cases e
      simp only [Rep] at h1
      subst h1
      rw [strs_rep h2 q]
      rfl
theorem strsD_map : ∀ ss : List Str, strsD (ss.map D.str) = some ss
  | [] => rfl
  | s :: r => by
    show (strsD (r.map D.str)).map (s :: ·) = _
    rw [strsD_map r]
    rfl
abbrev BMF := AH → D → List D → Option D
def splitD : BMF := fun _ x l => match x, l with
  | .str a, [.str b] => if (b.length == 0) = false ∧ a.length + 2 ≤ sizeLine then some (.lst ((Txt.split a b).map D.str)) else none
  | _, _ => none
theorem bs_split : BmS t "str" splitD (fun x xs H Q => ∃ a b, x = .str a ∧ xs = [.str b] ∧ (b.length == 0) = false ∧ a.length + 2 ≤ sizeLine ∧ rNewStrs (Txt.split a b) H Q) := by
  intro w ah H x l d v vs Q A rx rl e q
  unfold splitD at e
  split at e
  case h_2 => cases e
  rename_i a b
  split at e
  case isFalse => cases e
  rename_i hz
  cases e
  obtain ⟨u, rfl, ru⟩ := reps1 rl
  simp only [Rep] at rx ru
  refine ⟨a, b, rx, by rw [ru], hz.1, hz.2, fun p hp => ?_⟩
  obtain ⟨s, A'⟩ := stp_add (o := .lst ((Txt.split a b).map V.str)) A hp
  refine q _ _ _ s A' ?_
  simp only [Rep]
  exact ⟨p, _, rfl, add_at, reps_strs _⟩
def joinD : BMF := fun _ x l => match x, l with
  | .str a, [.lst m] => (strsD m).bind fun ys => if (ys.map (·.length)).sum + ys.length * a.length ≤ 16777216 then some (.str (Txt.join a ys)) else none
  | .str a, [.tup m] => (strsD m).bind fun ys => if (ys.map (·.length)).sum + ys.length * a.length ≤ 16777216 then some (.str (Txt.join a ys)) else none
  | _, _ => none
theorem bs_join (hK : t.K = X.K := by rfl) : BmS t "str" joinD (fun x xs H Q => ∃ a p, ∃ ys : List Str, x = .str a ∧ xs = [.ref p] ∧ (SqL X.K H p (ys.map V.str) ∨ SqT X.K H p (ys.map V.str)) ∧ (ys.map (·.length)).sum + ys.length * a.length ≤ 16777216 ∧ Q (.str (Txt.join a ys)) H) := by
  intro w ah H x l d v vs Q A rx rl e q
  unfold joinD at e
  split at e
  · rename_i a m
    obtain ⟨u, rfl, ru⟩ := reps1 rl
    simp only [Rep] at rx ru
    obtain ⟨p, us, rfl, h1, h2⟩ := ru
    cases hs : strsD m with
    | none => rw [hs] at e; cases e
    | some ys =>
      rw [hs, Option.bind_some] at e
      split at e
      · rename_i hz
        cases e
        have eu := strs_rep h2 hs
        subst eu
        exact ⟨a, p, ys, rx, rfl, .inl (SqL.of (A.sub _ _ h1)), hz, fin0 A q (by simp only [Rep])⟩
      · cases e
  · rename_i a m
    obtain ⟨u, rfl, ru⟩ := reps1 rl
    simp only [Rep] at rx ru
    obtain ⟨p, us, rfl, h1, h2⟩ := ru
    cases hs : strsD m with
    | none => rw [hs] at e; cases e
    | some ys =>
      rw [hs, Option.bind_some] at e
      split at e
      · rename_i hz
        cases e
        have eu := strs_rep h2 hs
        subst eu
        rw [hK] at h1
        exact ⟨a, p, ys, rx, rfl, .inr (same_sqT A.sub h1), hz, fin0 A q (by simp only [Rep])⟩
      · cases e
  · cases e
def partitionD : BMF := fun _ x l => match x, l with
  | .str a, [.str b] => if (b.length == 0) = false ∧ a.length ≤ sizeLine then some (.tup [.str (Txt.partition a b).1, .str (Txt.partition a b).2.1, .str (Txt.partition a b).2.2]) else none
  | _, _ => none
theorem bs_partition : BmS t "str" partitionD (fun x xs H Q => ∃ a b, x = .str a ∧ xs = [.str b] ∧ (b.length == 0) = false ∧ a.length ≤ sizeLine ∧ ∀ p, H p = none → Q (.ref p) (upd H p (.tup [.str (Txt.partition a b).1, .str (Txt.partition a b).2.1, .str (Txt.partition a b).2.2]))) := by
  intro w ah H x l d v vs Q A rx rl e q
  unfold partitionD at e
  split at e
  case h_2 => cases e
  rename_i a b
  split at e
  case isFalse => cases e
  rename_i hz
  cases e
  obtain ⟨u, rfl, ru⟩ := reps1 rl
  simp only [Rep] at rx ru
  refine ⟨a, b, rx, by rw [ru], hz.1, hz.2, fun p hp => ?_⟩
  obtain ⟨s, A'⟩ := stp_add (o := .tup [.str (Txt.partition a b).1, .str (Txt.partition a b).2.1, .str (Txt.partition a b).2.2]) A hp
  refine q _ _ _ s A' ?_
  simp only [Rep]
  exact ⟨p, _, rfl, SqT.of add_at, reps_strs [(Txt.partition a b).1, (Txt.partition a b).2.1, (Txt.partition a b).2.2]⟩
def startsD : BMF := fun _ x l => match x, l with
  | .str a, [.str b] => some (.bl (Txt.startswith a b))
  | _, _ => none
def endsD : BMF := fun _ x l => match x, l with
  | .str a, [.str b] => some (.bl (Txt.endswith a b))
  | _, _ => none
theorem bs_starts : BmS t "str" startsD (fun x xs H Q => ∃ a b, x = .str a ∧ xs = [.str b] ∧ Q (.bl (Txt.startswith a b)) H) := by
  intro w ah H x l d v vs Q A rx rl e q
  unfold startsD at e
  split at e
  case h_2 => cases e
  rename_i a b
  cases e
  obtain ⟨u, rfl, ru⟩ := reps1 rl
  simp only [Rep] at rx ru
  exact ⟨a, b, rx, by rw [ru], fin0 A q (by simp only [Rep])⟩
theorem bs_ends : BmS t "str" endsD (fun x xs H Q => ∃ a b, x = .str a ∧ xs = [.str b] ∧ Q (.bl (Txt.endswith a b)) H) := by
  intro w ah H x l d v vs Q A rx rl e q
  unfold endsD at e
  split at e
  case h_2 => cases e
  rename_i a b
  cases e
  obtain ⟨u, rfl, ru⟩ := reps1 rl
  simp only [Rep] at rx ru
  exact ⟨a, b, rx, by rw [ru], fin0 A q (by simp only [Rep])⟩
/-! ### is True -/
def isBD : F2 := fun _ x y => match x, y with
  | .bl a, .bl b => some (.bl (decide (a = b)))
  | _, _ => none
def notBD : F2 := fun _ x y => match x, y with
  | .bl a, .bl b => some (.bl (!decide (a = b)))
  | _, _ => none
theorem bs_isB : BinS t isBD (fun x y H Q => ∃ a b, x = .bl a ∧ y = .bl b ∧ Q (.bl (decide (a = b))) H) := by
  intro w ah H x y d v u Q A rx ry e q
  cases x <;> cases y <;> simp only [isBD, reduceCtorEq] at e <;> simp only [Rep] at rx ry
  cases e
  exact ⟨_, _, rx, ry, fin0 A q (by simp only [Rep])⟩
theorem bs_notB : BinS t notBD (fun x y H Q => ∃ a b, x = .bl a ∧ y = .bl b ∧ Q (.bl (!decide (a = b))) H) := by
  intro w ah H x y d v u Q A rx ry e q
  cases x <;> cases y <;> simp only [notBD, reduceCtorEq] at e <;> simp only [Rep] at rx ry
  cases e
  exact ⟨_, _, rx, ry, fin0 A q (by simp only [Rep])⟩
/-! ### constants of a module -/
theorem q_globI {x : Str} {i : Int} {pos : Pos} (hm : ∃ tk, X.mg x = some (.int i tk)) (hg : Gl X x := by rfl) (hd : (x == ("__debug__" : Str)) = false := by decide) : PE X (.Name x pos) (tE t W H0 (cC (.int i))) := by
  obtain ⟨tk, h⟩ := hm
  exact q_glob (v := .int i) h ⟨tk, rfl⟩ (fun w => by simp only [Rep]) hg hd
theorem q_globS {x s : Str} {pos : Pos} (hm : ∃ tk, X.mg x = some (.str s tk)) (hg : Gl X x := by rfl) (hd : (x == ("__debug__" : Str)) = false := by decide) : PE X (.Name x pos) (tE t W H0 (cC (.str s))) := by
  obtain ⟨tk, h⟩ := hm
  exact q_glob (v := .str s) h ⟨tk, rfl⟩ (fun w => by simp only [Rep]) hg hd
/-- a tuple that the module's text made -/
structure KTup (K : PySem.W.Frag) (mg : Str → Option Value) (x : Str) (l : List D) : Prop where
  ex : ∃ (a : Addr) (oc : Option Addr) (its : List Value) (n : Nat) (sl : Array (Option Value)) (vs : List V), mg x = some (.ref a) ∧ K.lookup a = some ⟨.type "tuple", oc, .seq its.toArray n, sl⟩ ∧ l.map scD = vs.map some ∧ Vals vs its ∧ its.length ≤ sizeLine
theorem q_globT {x : Str} {l : List D} {pos : Pos} (hm : KTup X.K X.mg x l) (hK : t.K = X.K := by rfl) (hg : Gl X x := by rfl) (hd : (x == ("__debug__" : Str)) = false := by decide) : PE X (.Name x pos) (tE t W H0 (cC (.tup l))) := by
  obtain ⟨a, oc, its, n, sl, vs, h1, h2, h3, h4, h5⟩ := hm.ex
  refine q_glob (v := .ref a) h1 rfl (fun w => ?_) hg hd
  simp only [Rep]
  refine ⟨a, vs, rfl, .inr ⟨_, its.toArray, n, by rw [hK]; exact h2, rfl, rfl, ?_, by simpa using h4⟩, scD_reps h3⟩
  simpa using h5
end
section
variable {ah : AH} {a b : Str} {l : List D} {ys : List Str}
theorem split_ap (h : (b.length == 0) = false) (h2 : a.length + 2 ≤ sizeLine) : splitD ah (.str a) [.str b] = some (.lst ((Txt.split a b).map D.str)) := if_pos ⟨h, h2⟩
theorem part_ap (h : (b.length == 0) = false) (h2 : a.length ≤ sizeLine) : partitionD ah (.str a) [.str b] = some (.tup [.str (Txt.partition a b).1, .str (Txt.partition a b).2.1, .str (Txt.partition a b).2.2]) := if_pos ⟨h, h2⟩
theorem join_ap (h : (ys.map (·.length)).sum + ys.length * a.length ≤ 16777216) : joinD ah (.str a) [.lst (ys.map D.str)] = some (.str (Txt.join a ys)) := by
  show (strsD (ys.map D.str)).bind _ = _
  rw [strsD_map]
  exact if_pos h
theorem ev_starts : startsD ah (.str a) [.str b] = some (.bl (Txt.startswith a b)) := rfl
theorem ev_ends : endsD ah (.str a) [.str b] = some (.bl (Txt.endswith a b)) := rfl
theorem ev_isB {p q : Bool} : isBD ah (.bl p) (.bl q) = some (.bl (decide (p = q))) := rfl
theorem ev_notB {p q : Bool} : notBD ah (.bl p) (.bl q) = some (.bl (!decide (p = q))) := rfl
theorem ev_itS {z : Str} : itD (.str z) = some (z.cps.toList.map chD) := rfl
theorem ev_isStr : isStr (.str a) = true := rfl
theorem ev_isLst : isLst (.lst l) = true := rfl
end
end G
/-! The engine, part 14: plain laws of texts. -/
namespace G
open PySem PySem.Spec PyProof.Rows L2
section
variable {ah : AH} {a b z : Str} {l : List D} {ys ss : List Str} {c : Nat}
def sOk (s : Str) : Prop := ∀ c ∈ s.cps.toList, c < 128
theorem sOk_str {s : Str} (h : sOk s) : PyData.strOk s = true := by
  unfold PyData.strOk
  rw [Array.all_eq_true']
  intro c hc
  have := h c (by simpa using hc)
  simp only [decide_eq_true_eq]
  omega
theorem pds_strs : ∀ ss : List Str, pds (ss.map D.str) = some (ss.map PyData.str)
  | [] => rfl
  | s :: r => by
    show (match pd (.str s), pds (r.map D.str) with | some a, some b => some (a :: b) | _, _ => none) = _
    rw [pds_strs r]
    rfl
theorem lay_strs : ∀ ss : List Str, (∀ s ∈ ss, sOk s) → PyData.canLayAll0 (ss.map PyData.str) = true
  | [], _ => by simp [PyData.canLayAll0]
  | s :: r, h => by
    have e := lay_strs r fun x hx => h x (List.mem_cons_of_mem _ hx)
    have e2 := sOk_str (h s (List.mem_cons_self ..))
    simp [PyData.canLayAll0, PyData.canLay0, e, e2]
theorem depth_strs : ∀ ss : List Str, PyData.depthAll (ss.map PyData.str) = 0
  | [] => by simp [PyData.depthAll]
  | s :: r => by
    have := depth_strs r
    simp [PyData.depthAll, PyData.depth, this]
theorem shaped_strs (h : ∀ s ∈ ss, sOk s) : SeqAt.shaped (.list (ss.map PyData.str)) = true := by
  unfold SeqAt.shaped
  rw [Bool.and_eq_true]
  refine ⟨by simp only [PyData.canLay0]; exact lay_strs ss h, ?_⟩
  simp [PyData.depth, depth_strs ss]
theorem eqv_strs : ∀ ss ts : List Str, PyData.eqvAll (ss.map PyData.str) (ts.map PyData.str) = decide (ss = ts)
  | [], [] => by simp [PyData.eqvAll]
  | [], t :: r => by simp [PyData.eqvAll]
  | s :: r, [] => by simp [PyData.eqvAll]
  | s :: r, t :: q => by
    have := eqv_strs r q
    simp [PyData.eqvAll, PyData.eqv, this]
    by_cases h1 : s = t <;> by_cases h2 : r = q <;> simp [h1, h2]
theorem eq_strs {ts : List Str} (h : ∀ s ∈ ss, sOk s) (h2 : ∀ s ∈ ts, sOk s) : eqD ah (.lst (ss.map D.str)) (.lst (ts.map D.str)) = some (.bl (decide (ss = ts))) := by
  have p1 : pd (.lst (ss.map D.str)) = some (.list (ss.map PyData.str)) := by
    show (pds (ss.map D.str)).map PyData.list = _
    rw [pds_strs]
    rfl
  have p2 : pd (.lst (ts.map D.str)) = some (.list (ts.map PyData.str)) := by
    show (pds (ts.map D.str)).map PyData.list = _
    rw [pds_strs]
    rfl
  have e : eqB (.lst (ss.map D.str)) (.lst (ts.map D.str)) = some (decide (ss = ts)) := by
    unfold eqB
    have s1 : scD (.lst (ss.map D.str)) = none := rfl
    rw [s1, p1, p2]
    simp only [shaped_strs h, shaped_strs h2, Bool.and_self, if_true]
    show some (PyData.eqvAll (ss.map PyData.str) (ts.map PyData.str)) = _
    rw [eqv_strs]
  unfold eqD
  rw [e]
  rfl
theorem eq_nil (h : ∀ s ∈ ss, sOk s) : eqD ah (.lst (ss.map D.str)) (.lst []) = some (.bl (decide (ss = []))) := eq_strs (ts := []) h (fun s hs => by cases hs)
theorem inS_ap : inSD ah (.str ⟨#[c]⟩) (.str z) = some (.bl (decide (c ∈ z.cps.toList))) := rfl
theorem notInS_ap : notInSD ah (.str ⟨#[c]⟩) (.str z) = some (.bl (!decide (c ∈ z.cps.toList))) := rfl
theorem idx_s {p : Int} (h : z.length ≤ sizeLine) : idxD ah (.str z) (.int p) = (atI z.cps.toList p).map fun c => .str ⟨#[c]⟩ := if_pos h
/-! pieces of a text -/
theorem spl_mem (S : List Nat) : ∀ (k : Nat) (acc l : List Nat) (p : List Nat), p ∈ TL.spl S k acc l → (p.length ≤ acc.length + l.length) ∧ ∀ c ∈ p, c ∈ acc ∨ c ∈ l
  | k, acc, [], p, h => by
    have e : p = acc := by
      cases k <;> simpa [TL.spl] using h
    subst e
    exact ⟨by simp, fun c hc => .inl hc⟩
  | 0, acc, c :: r, p, h => by
    unfold TL.spl at h
    split at h
    · rcases List.mem_cons.mp h with rfl | h
      · exact ⟨by simp, fun c hc => .inl hc⟩
      · obtain ⟨h1, h2⟩ := spl_mem S (S.length - 1) [] r p h
        refine ⟨by simp only [List.length_cons, List.length_nil] at h1 ⊢; omega, fun x hx => ?_⟩
        rcases h2 x hx with q | q
        · cases q
        · exact .inr (List.mem_cons_of_mem _ q)
    · obtain ⟨h1, h2⟩ := spl_mem S 0 (acc ++ [c]) r p h
      refine ⟨by simp only [List.length_cons, List.length_append, List.length_nil] at h1 ⊢; omega, fun x hx => ?_⟩
      rcases h2 x hx with q | q
      · rcases List.mem_append.mp q with q | q
        · exact .inl q
        · rw [List.mem_singleton] at q
          subst q
          exact .inr (List.mem_cons_self ..)
      · exact .inr (List.mem_cons_of_mem _ q)
  | k + 1, acc, c :: r, p, h => by
    unfold TL.spl at h
    obtain ⟨h1, h2⟩ := spl_mem S k acc r p h
    refine ⟨by simp only [List.length_cons]; omega, fun x hx => ?_⟩
    rcases h2 x hx with q | q
    · exact .inl q
    · exact .inr (List.mem_cons_of_mem _ q)
theorem split_mem {x y p : Str} (hy : y.cps.toList ≠ []) (hk : y.cps.all (· < 256) = true) (h : p ∈ Txt.split x y) : p.length ≤ x.length ∧ ∀ c ∈ p.cps.toList, c ∈ x.cps.toList := by
  have e := TL.split_spl x y hy (TL.kind_ok hk)
  have hm : TL.tl p ∈ TL.spl (TL.tl y) 0 [] (TL.tl x) := by
    rw [← e]
    exact List.mem_map_of_mem h
  obtain ⟨h1, h2⟩ := spl_mem (TL.tl y) 0 [] (TL.tl x) (TL.tl p) hm
  refine ⟨by rw [TL.len_tl, TL.len_tl]; simpa using h1, fun c hc => ?_⟩
  rcases h2 c hc with q | q
  · cases q
  · exact q
theorem split_ok {x y p : Str} (hy : y.cps.toList ≠ []) (hk : y.cps.all (· < 256) = true) (h : p ∈ Txt.split x y) (hx : sOk x) : sOk p := fun c hc => hx c ((split_mem hy hk h).2 c hc)
theorem sOk_append {x y : Str} (hx : sOk x) (hy : sOk y) : sOk (x ++ y) := fun c hc => by
  have e : (x ++ y).cps.toList = x.cps.toList ++ y.cps.toList := TL.tl_append x y
  rw [e] at hc
  rcases List.mem_append.mp hc with q | q
  · exact hx c q
  · exact hy c q
theorem join_len {x : Str} : (Txt.join x ys).length = (ys.map (·.length)).sum + (ys.length - 1) * x.length := PySem.size_glued x ys
theorem glued_ok {x : Str} (hx : sOk x) : ∀ (r : List Str) (acc : Array Nat), (∀ c ∈ acc.toList, c < 128) → (∀ s ∈ r, sOk s) → ∀ c ∈ (r.foldl (fun acc p => acc ++ x.cps ++ p.cps) acc).toList, c < 128
  | [], acc, ha, hr, c, hc => ha c hc
  | s :: r, acc, ha, hr, c, hc => by
    refine glued_ok hx r (acc ++ x.cps ++ s.cps) (fun d hd => ?_) (fun t ht => hr t (List.mem_cons_of_mem _ ht)) c hc
    rw [Array.toList_append, Array.toList_append] at hd
    rcases List.mem_append.mp hd with q | q
    · rcases List.mem_append.mp q with q | q
      · exact ha d q
      · exact hx d q
    · exact hr s (List.mem_cons_self ..) d q
theorem join_ok {x : Str} (hx : sOk x) (h : ∀ s ∈ ys, sOk s) : sOk (Txt.join x ys) := by
  intro c hc
  cases ys with
  | nil => cases hc
  | cons s r => exact glued_ok hx r s.cps (h s (List.mem_cons_self ..)) (fun t ht => h t (List.mem_cons_of_mem _ ht)) c hc
theorem chs_map (cs : List Nat) : cs.map chD = (cs.map fun c => (⟨#[c]⟩ : Str)).map D.str := by
  rw [List.map_map]
  rfl
end
end G
namespace G
open PySem PySem.Spec PyProof.Rows L2
section
variable {ah : AH} {z : Str} {c : Nat}
theorem inS_ch : inSD ah (chD c) (.str z) = some (.bl (decide (c ∈ z.cps.toList))) := rfl
theorem notInS_ch : notInSD ah (chD c) (.str z) = some (.bl (!decide (c ∈ z.cps.toList))) := rfl
theorem idx_ch {p : Int} (h : z.length ≤ sizeLine) : idxD ah (.str z) (.int p) = (atI z.cps.toList p).map chD := if_pos h
theorem eq_chs {cs : List Nat} (h : ∀ c ∈ cs, c < 128) : eqD ah (.lst (cs.map chD)) (.lst []) = some (.bl (decide (cs = []))) := by
  rw [chs_map, eq_nil (fun s hs => ?_)]
  · cases cs <;> simp
  · obtain ⟨c, hc, rfl⟩ := List.mem_map.mp hs
    intro d hd
    have : d = c := by simpa using hd
    rw [this]
    exact h c hc
theorem bls_map (bs : List Bool) : blsD (bs.map D.bl) = some bs := by
  induction bs with
  | nil => rfl
  | cons b r ih =>
    show (blsD (r.map D.bl)).map (b :: ·) = _
    rw [ih]
    rfl
theorem all_ap {bs : List Bool} : allD ah [.lst (bs.map D.bl)] = some (.bl (bs.all id)) := by
  show (blsD (bs.map D.bl)).map _ = _
  rw [bls_map]
  rfl
theorem any_ap {bs : List Bool} : anyD ah [.lst (bs.map D.bl)] = some (.bl (bs.any id)) := by
  show (blsD (bs.map D.bl)).map _ = _
  rw [bls_map]
  rfl
end
end G
namespace G
open PySem PySem.Spec PyProof.Rows L2
theorem rng1_if {ah : AH} {z : Int} (h : -(2 ^ 62) ≤ z ∧ z < 2 ^ 62) : rng1 (.ok [.int z] ah) = .ok (rngD 0 z.toNat) ah := if_pos h
theorem rng2_if {ah : AH} {y z : Int} (h : -(2 ^ 62) ≤ y ∧ y < 2 ^ 62 ∧ -(2 ^ 62) ≤ z ∧ z < 2 ^ 62) : rng2 (.ok [.int y, .int z] ah) = .ok (rngD y (z - y).toNat) ah := if_pos h
end G
namespace G
open PySem PySem.Spec PyProof.Rows L2
theorem lc_run {it : CIt} {vs : List Nat} {f : TgD} {tt : CT} {te : CE} {env : En} {ah ah1 ah2 : AH} {l ys : List D} (h1 : it env ah = .ok l ah1) (h2 : l.length ≤ 10000000) (h3 : lcL vs f tt te env l ah1 = .ok ys ah2) : cLc it vs f tt te env ah = .ok (.lst ys) ah2 := by
  rw [ev_lc, h1, lc0_ok, if_pos h2, h3, lcE_ok]
end G
namespace G
open PySem PySem.Spec PyProof.Rows L2
theorem cut_from {z : Str} {k : Int} (h : 0 ≤ k) : (cutS z (some k) none).cps.toList = z.cps.toList.drop k.toNat := by
  have e : HT.sIx z.length 0 (some k) = min k.toNat z.length := by
    obtain ⟨n, rfl⟩ := Int.eq_ofNat_of_zero_le h
    rw [HT.sIx_nat]
    rfl
  have el : z.length = z.cps.toList.length := TL.len_tl z
  unfold cutS
  rw [e]
  show ((z.cps.toList.drop (min k.toNat z.length)).take (z.length - min k.toNat z.length)) = _
  rw [List.take_of_length_le (by rw [List.length_drop, el]; omega)]
  rcases Nat.le_total k.toNat z.length with q | q
  · rw [Nat.min_eq_left q]
  · rw [Nat.min_eq_right q, List.drop_of_length_le (by rw [el]; exact Nat.le_refl _), List.drop_of_length_le (by rw [← el]; exact q)]
theorem cut_to {z : Str} {k : Int} (h : 0 ≤ k) : (cutS z none (some k)).cps.toList = z.cps.toList.take k.toNat := by
  have e : HT.sIx z.length z.length (some k) = min k.toNat z.length := by
    obtain ⟨n, rfl⟩ := Int.eq_ofNat_of_zero_le h
    rw [HT.sIx_nat]
    rfl
  have el : z.length = z.cps.toList.length := TL.len_tl z
  unfold cutS
  rw [e]
  show ((z.cps.toList.drop 0).take (min k.toNat z.length - 0)) = _
  rw [List.drop_zero, Nat.sub_zero]
  rcases Nat.le_total k.toNat z.length with q | q
  · rw [Nat.min_eq_left q]
  · rw [Nat.min_eq_right q, List.take_of_length_le (by rw [el]; exact Nat.le_refl _), List.take_of_length_le (by rw [← el]; exact q)]
theorem slD_s {z : Str} {o o' : Option Int} (h : z.length ≤ sizeLine) : slD (.str z) o o' = some (.str (cutS z o o')) := if_pos h
end G
/-! The engine, part 15: the end over the head that the Hook reads. -/
namespace G
open PySem PySem.Spec PyProof.Rows L2
theorem tupB_seq {K : Fr} {x : Str} {vs : List He.Dv} (h : He.tupB K x vs = true) : ∃ (oc : Option Addr) (its : Array Value) (n : Nat) (sl : Array (Option Value)), K.lookup (He.ga K x) = some ⟨.type "tuple", oc, .seq its n, sl⟩ ∧ its.size ≤ sizeLine ∧ Vals (vs.map (He.Dv.v K)) its.toList := by
  have h0 := h
  unfold He.tupB at h0
  split at h0
  · rename_i c oc its n sl q
    rw [Bool.and_eq_true_iff, Bool.and_eq_true_iff] at h0
    obtain ⟨a1, a2, a3⟩ := h0
    exact ⟨oc, its, n, sl, by rw [q, of_decide_eq_true a1], of_decide_eq_true a2, He.relAll_ok a3⟩
  · cases h0
theorem ktup_of {K : Fr} {mg : Str → Option Value} {x : Str} {l : List D} {vs : List He.Dv} (hg : mg x = some (.ref (He.ga K x))) (hb : He.tupB K x vs = true) (e : l.map scD = (vs.map (He.Dv.v K)).map some) : KTup K mg x l := by
  obtain ⟨oc, its, n, sl, h1, h2, h3⟩ := tupB_seq hb
  exact ⟨_, oc, its.toList, n, sl, _, hg, by simpa using h1, e, h3, by simpa using h2⟩
theorem walkX {l : PySem.W.OpenLaw} {k : Nat} {q : Program} {loose : List Str} {XP : (Str → Option Value) → Heap → Prop} {YP : World → Heap → Prop} {d : DefRec} {x : Str} {flX : Nat → List Str} {F : FD}
    (hn : l.most = some 63) (hdf : d.params.defaults = []) (hr : Room k callerA) (hF : ∀ ns : List Int, ns.length ≤ 63 → ∃ ah, F [.scr (ns.map .int)] [] = .ok (.bl true) ah)
    (hY : ∀ (w : World) (mg : Str → Option Value) (fa : Addr) (h : Heap), YP w h → h.Ns mainGlobals mg → mg d.name = some (.ref fa) → ∃ (K : Fr) (cl : Nat → Addr) (fd : FuncData), K.In h ∧
      (∀ (s : Shared) (u : Value), BindsTo s fd ⟨[u], []⟩ [(x, u)]) ∧ ∀ base : Heap, K.In base → base.Ns mainGlobals mg → FnOk l.prog w K mg base (L2.CX l.prog w) k fa fd [x] (spD ⟨K, cl, flX⟩ F 1)) :
    PySem.W.WalkO q loose XP YP l.row.toRowW d [] (fun f vs => PySem.call f vs) := by
  refine Att.attach_call hn hdf ?_
  intro w s0 s1 mg mb fa o pm cd doc a vs ns GG Y ho hd hcd hmg hobj hints hlen hg
  obtain ⟨K, cl, fd, KX, hb, hok⟩ := hY w mg fa _ Y GG.T.g hmg
  refine law_call KX GG.T.g GG.T.b GG.T.builtins GG.T.nolimit hg hobj hints (Nat.le_trans hlen (by decide)) hr hok hb ?_ ?_
  · intro H hO hS
    exact law_sp hF H a ns hlen hS
  · intro H e s' z
    exact cx_no H s1 e s' z
end G
-- CLS WorkError=1 NoRatio=2 Ratio=3
noncomputable section
namespace Y
open PySem PySem.Spec PyProof.Rows L2 G
def fl (n : Nat) : List Str := if n = 3 then ["top", "bottom"] else []
theorem fl_len : ∀ c, (fl c).length < 1000 := by
  intro c
  unfold fl
  repeat (first | (split; decide) | decide)
abbrev tb (K : PySem.W.Frag) (cl : Nat → Addr) : Tb := ⟨K, cl, fl⟩
structure Tx (K : PySem.W.Frag) (mg : Str → Option Value) (cl : Nat → Addr) : Prop where
  b_enumerate : mg "enumerate" = none
  b_list : mg "list" = none
  b_abs : mg "abs" = none
  g_NoRatio : mg "NoRatio" = some (.ref (cl 2))
  x_NoRatio : PySem.W.excIn K (cl 2) [.type "ValueError", .type "Exception", .type "BaseException", .type "object"] "ValueError.__new__" = true
  k_NoRatio : PySem.W.keepIn K (.ref (cl 2)) = true
  bs_NoRatio : PySem.W.subIn K (.ref (cl 2)) (.type "BaseException") = some true
  ty_NoRatio : PySem.W.typeIn K (.ref (cl 2)) = some (.type "type")
  b_range : mg "range" = none
  b_len : mg "len" = none
  b_min : mg "min" = none
  b_all : mg "all" = none
  g_FIGURES : ∃ tk, mg "FIGURES" = some (.str "0123456789" tk)
  g_MOST_FIGURES : ∃ tk, mg "MOST_FIGURES" = some (.int 30 tk)
  b_int : mg "int" = none
  b_str : mg "str" = none
  d_l_common : ∃ f fd, FunD K "_law_common" "_law_common" (defArgs s_l_common) (defBody s_l_common) (defScope s_l_common) [] [] f fd ∧ mg "_law_common" = some (.ref f)
  d_l_low : ∃ f fd, FunD K "_law_low" "_law_low" (defArgs s_l_low) (defBody s_l_low) (defScope s_l_low) [] [] f fd ∧ mg "_law_low" = some (.ref f)
  d_l_mixed : ∃ f fd, FunD K "_law_mixed" "_law_mixed" (defArgs s_l_mixed) (defBody s_l_mixed) (defScope s_l_mixed) [] [] f fd ∧ mg "_law_mixed" = some (.ref f)
  d_l_small : ∃ f fd, FunD K "_law_small" "_law_small" (defArgs s_l_small) (defBody s_l_small) (defScope s_l_small) [] [] f fd ∧ mg "_law_small" = some (.ref f)
  d_common : ∃ f fd, FunD K "common" "common" (defArgs s_common) (defBody s_common) (defScope s_common) [] [] f fd ∧ mg "common" = some (.ref f)
  d_Ratio_init : ∃ f fd, FunD K "__init__" "Ratio.__init__" (defArgs s_Ratio_init) (defBody s_Ratio_init) (defScope s_Ratio_init) [.int 1] [] f fd ∧ Mk K (cl 3) f
  d_Ratio_plus : ∃ f fd, FunD K "plus" "Ratio.plus" (defArgs s_Ratio_plus) (defBody s_Ratio_plus) (defScope s_Ratio_plus) [] [] f fd ∧ Meth K (cl 3) "plus" f
  d_l_sum : ∃ f fd, FunD K "_law_sum" "_law_sum" (defArgs s_l_sum) (defBody s_l_sum) (defScope s_l_sum) [] [] f fd ∧ mg "_law_sum" = some (.ref f)
  d_Ratio_told : ∃ f fd, FunD K "told" "Ratio.told" (defArgs s_Ratio_told) (defBody s_Ratio_told) (defScope s_Ratio_told) [] [] f fd ∧ Meth K (cl 3) "told" f
  d_l_great : ∃ f fd, FunD K "_law_great" "_law_great" (defArgs s_l_great) (defBody s_l_great) (defScope s_l_great) [] [] f fd ∧ mg "_law_great" = some (.ref f)
  d_l_pair : ∃ f fd, FunD K "_law_pair" "_law_pair" (defArgs s_l_pair) (defBody s_l_pair) (defScope s_l_pair) [] [] f fd ∧ mg "_law_pair" = some (.ref f)
  d_l_cell_at : ∃ f fd, FunD K "_law_cell_at" "_law_cell_at" (defArgs s_l_cell_at) (defBody s_l_cell_at) (defScope s_l_cell_at) [] [] f fd ∧ mg "_law_cell_at" = some (.ref f)
  d_Ratio_times : ∃ f fd, FunD K "times" "Ratio.times" (defArgs s_Ratio_times) (defBody s_Ratio_times) (defScope s_Ratio_times) [] [] f fd ∧ Meth K (cl 3) "times" f
  d_Ratio_turned : ∃ f fd, FunD K "turned" "Ratio.turned" (defArgs s_Ratio_turned) (defBody s_Ratio_turned) (defScope s_Ratio_turned) [] [] f fd ∧ Meth K (cl 3) "turned" f
  d_Ratio_minus : ∃ f fd, FunD K "minus" "Ratio.minus" (defArgs s_Ratio_minus) (defBody s_Ratio_minus) (defScope s_Ratio_minus) [] [] f fd ∧ Meth K (cl 3) "minus" f
  d_Ratio_rest : ∃ f fd, FunD K "rest" "Ratio.rest" (defArgs s_Ratio_rest) (defBody s_Ratio_rest) (defScope s_Ratio_rest) [] [] f fd ∧ Meth K (cl 3) "rest" f
  d_Ratio_floor : ∃ f fd, FunD K "floor" "Ratio.floor" (defArgs s_Ratio_floor) (defBody s_Ratio_floor) (defScope s_Ratio_floor) [] [] f fd ∧ Meth K (cl 3) "floor" f
  d_are_figures : ∃ f fd, FunD K "are_figures" "are_figures" (defArgs s_are_figures) (defBody s_are_figures) (defScope s_are_figures) [] [] f fd ∧ mg "are_figures" = some (.ref f)
  d_read_ratio : ∃ f fd, FunD K "read_ratio" "read_ratio" (defArgs s_read_ratio) (defBody s_read_ratio) (defScope s_read_ratio) [] [] f fd ∧ mg "read_ratio" = some (.ref f)
  d_Ratio_text : ∃ f fd, FunD K "text" "Ratio.text" (defArgs s_Ratio_text) (defBody s_Ratio_text) (defScope s_Ratio_text) [] [] f fd ∧ Meth K (cl 3) "text" f
  d_before : ∃ f fd, FunD K "before" "before" (defArgs s_before) (defBody s_before) (defScope s_before) [] [] f fd ∧ mg "before" = some (.ref f)
  d_Ratio_sign : ∃ f fd, FunD K "sign" "Ratio.sign" (defArgs s_Ratio_sign) (defBody s_Ratio_sign) (defScope s_Ratio_sign) [] [] f fd ∧ Meth K (cl 3) "sign" f
  d_Ratio_over : ∃ f fd, FunD K "over" "Ratio.over" (defArgs s_Ratio_over) (defBody s_Ratio_over) (defScope s_Ratio_over) [] [] f fd ∧ Meth K (cl 3) "over" f
  d_l_three : ∃ f fd, FunD K "_law_three" "_law_three" (defArgs s_l_three) (defBody s_l_three) (defScope s_l_three) [] [] f fd ∧ mg "_law_three" = some (.ref f)
  d_law : ∃ f fd, FunD K "law" "law" (defArgs s_law) (defBody s_law) (defScope s_law) [] [] f fd ∧ mg "law" = some (.ref f)
  c_Ratio : Cls K (cl 3)
  g_Ratio : mg "Ratio" = some (.ref (cl 3))
  n_Ratio_bottom : NoAttr K (cl 3) "bottom"
  n_Ratio_top : NoAttr K (cl 3) "top"
section
variable {P : Program} {w : World} {K : PySem.W.Frag} {mg : Str → Option Value} {base : Heap} {cl : Nat → Addr}
theorem fok_bottom (T : Tx K mg cl) : FldOk (tb K cl) "bottom" := by
  intro c i h
  replace h : flIx (fl c) "bottom" = some i := h
  unfold fl at h
  split at h
  · rename_i e; subst e; exact ⟨T.c_Ratio, T.n_Ratio_bottom⟩
  cases h
theorem fok_top (T : Tx K mg cl) : FldOk (tb K cl) "top" := by
  intro c i h
  replace h : flIx (fl c) "top" = some i := h
  unfold fl at h
  split at h
  · rename_i e; subst e; exact ⟨T.c_Ratio, T.n_Ratio_top⟩
  cases h
theorem fx_Ratio_top : flIx (fl 3) "top" = some 0 := by decide +kernel
theorem fl_Ratio_top {ah : AH} {d0 d1 : D} : fldD fl "top" ah (.obj 3 [d0, d1]) = some d0 := fld_at fx_Ratio_top rfl
theorem put_Ratio_top {x : D} : putD (fl 3) "top" x [] = some [x] := put_at fx_Ratio_top rfl
theorem fx_Ratio_bottom : flIx (fl 3) "bottom" = some 1 := by decide +kernel
theorem fl_Ratio_bottom {ah : AH} {d0 d1 : D} : fldD fl "bottom" ah (.obj 3 [d0, d1]) = some d1 := fld_at fx_Ratio_bottom rfl
theorem put_Ratio_bottom {d0 : D} {x : D} : putD (fl 3) "bottom" x [d0] = some [d0, x] := put_at fx_Ratio_bottom rfl
theorem sc_l_common : FnScope ["_law_one", "_law_other"] ["_law_one", "_law_other"] (defScope s_l_common) := ⟨rfl, rfl, rfl, by decide +kernel, rfl, by decide +kernel, by decide +kernel⟩
def w_l_common_1 : CT := (cTest (cBin gtD (cVar 1) (cC (.int 0))))
def b_l_common_1 : CS := (cPar 0 1 (cCons (cVar 1) (cCons (cBin modD (cVar 0) (cVar 1)) cNil)))
def c_l_common : CS :=
  (cSeq (cWhile w_l_common_1 b_l_common_1)
  (cRet (cVar 0)))
def f_l_common : FD := runDef c_l_common 2
theorem r_l_common {d0 d1 : D} {ah : AH} : f_l_common [d0, d1] ah = run1 (c_l_common [.val d0, .val d1] ah) := (ev_run).trans rfl
theorem l_common_body (T : Tx K mg cl) {f : Addr} {cdv : Value} {A : Around} {outer : List Env} {s : Shared} {H0 : Hp} {E : XK} {w0 : Wd} (hr : Room 0 (A.deeper (envOfC "_law_common" (defScope s_l_common) s.heap.objs.size f cdv))) :
    PSs (cxOf (L2.CX P w) P w K mg base ["_law_one", "_law_other"] "_law_common" (defScope s_l_common) f cdv A outer s H0 E) (defBody s_l_common) (tS (tb K cl) (fun cls d _ H => E cls d H) w0 ⟨H0, 0⟩ c_l_common) := by
  exact (z_cons (z_while (passes_of rfl) (q_tcmp op_gt bs_cmpI (q_var 1) q_int (nomark _)) (z_one (z_par 0 1 rfl sc_l_common.nd (qa_cons (q_var 1) (qa_cons (q_mod (q_var 0) (q_var 1)) qa_nil)))))
    (z_one (z_ret (q_var 0))))
theorem ok_l_common (T : Tx K mg cl) : FOk P w K mg base (tb K cl) 1 "_law_common" f_l_common 2 [] := by
  obtain ⟨f, fd, F, hm⟩ := T.d_l_common
  exact ⟨⟨f, fd, ["_law_one", "_law_other"], [], _, ok_def (t := tb K cl) F sc_l_common (fun cdv A outer s H0 E w0 hr => l_common_body T hr), hm, F.kp, (F.bindsN fun _ _ _ _ _ _ us hl => match us, hl with | [_, _], _ => rfl), .nil, rfl⟩⟩
theorem sc_l_low : FnScope ["_law_top", "_law_bottom", "_law_both"] ["_law_top", "_law_bottom"] (defScope s_l_low) := ⟨rfl, rfl, rfl, by decide +kernel, rfl, by decide +kernel, by decide +kernel⟩
def c_l_low : CS :=
  (cSeq (cAsg (gN 2) (cCall f_l_common 2 [] (cCons (cCB absD (cCons (cVar 0) cNil)) (cCons (cCB absD (cCons (cVar 1) cNil)) cNil))))
  (cSeq (cIfS (cTest (cBin ltD (cVar 1) (cC (.int 0)))) (cAsg (gN 2) (cUn negD (cVar 2))) cSkip)
  (cRet (cTup (cCons (cBin fdivD (cVar 0) (cVar 2)) (cCons (cBin fdivD (cVar 1) (cVar 2)) cNil))))))
def f_l_low : FD := runDef c_l_low 3
theorem r_l_low {d0 d1 : D} {ah : AH} : f_l_low [d0, d1] ah = run1 (c_l_low [.val d0, .val d1, .no] ah) := (ev_run).trans rfl
theorem l_low_body (T : Tx K mg cl) {f : Addr} {cdv : Value} {A : Around} {outer : List Env} {s : Shared} {H0 : Hp} {E : XK} {w0 : Wd} (hr : Room 1 (A.deeper (envOfC "_law_low" (defScope s_l_low) s.heap.objs.size f cdv))) :
    PSs (cxOf (L2.CX P w) P w K mg base ["_law_top", "_law_bottom", "_law_both"] "_law_low" (defScope s_l_low) f cdv A outer s H0 E) (defBody s_l_low) (tS (tb K cl) (fun cls d _ H => E cls d H) w0 ⟨H0, 0⟩ c_l_low) := by
  exact (z_cons (z_set 2 sc_l_low.nd (q_callF (ok_l_common T) (hr.mono (by decide)) (takes_of rfl rfl rfl rfl) (qa_cons (q_cb call_abs cs_abs T.b_abs (by decide +kernel) (qa_cons (q_var 0) qa_nil)) (qa_cons (q_cb call_abs cs_abs T.b_abs (by decide +kernel) (qa_cons (q_var 1) qa_nil)) qa_nil))))
    (z_cons (z_if (q_tcmp op_lt bs_cmpI (q_var 1) q_int (nomark _)) (z_one (z_set 2 sc_l_low.nd (q_neg (q_var 2)))) z_nil)
    (z_one (z_ret (q_tup (qa_cons (q_fdiv (q_var 0) (q_var 2)) (qa_cons (q_fdiv (q_var 1) (q_var 2)) qa_nil)))))))
theorem ok_l_low (T : Tx K mg cl) : FOk P w K mg base (tb K cl) 2 "_law_low" f_l_low 2 [] := by
  obtain ⟨f, fd, F, hm⟩ := T.d_l_low
  exact ⟨⟨f, fd, ["_law_top", "_law_bottom"], [], _, ok_def (t := tb K cl) F sc_l_low (fun cdv A outer s H0 E w0 hr => l_low_body T hr), hm, F.kp, (F.bindsN fun _ _ _ _ _ _ us hl => match us, hl with | [_, _], _ => rfl), .nil, rfl⟩⟩
theorem sc_l_mixed : FnScope ["_law_cell", "_law_k", "_law_mix"] ["_law_cell", "_law_k"] (defScope s_l_mixed) := ⟨rfl, rfl, rfl, by decide +kernel, rfl, by decide +kernel, by decide +kernel⟩
def c_l_mixed : CS :=
  (cSeq (cAsg (gN 2) (cBin modD (cBin mulD (cBin addD (cBin addD (cVar 0) (cBin mulD (cC (.int 7919)) (cVar 1))) (cC (.int 11))) (cC (.int 48271))) (cC (.int 2147483647))))
  (cRet (cBin modD (cBin addD (cBin mulD (cVar 2) (cVar 2)) (cBin mulD (cC (.int 40692)) (cVar 2))) (cC (.int 2147483399)))))
def f_l_mixed : FD := runDef c_l_mixed 3
theorem r_l_mixed {d0 d1 : D} {ah : AH} : f_l_mixed [d0, d1] ah = run1 (c_l_mixed [.val d0, .val d1, .no] ah) := (ev_run).trans rfl
theorem l_mixed_body (T : Tx K mg cl) {f : Addr} {cdv : Value} {A : Around} {outer : List Env} {s : Shared} {H0 : Hp} {E : XK} {w0 : Wd} (hr : Room 0 (A.deeper (envOfC "_law_mixed" (defScope s_l_mixed) s.heap.objs.size f cdv))) :
    PSs (cxOf (L2.CX P w) P w K mg base ["_law_cell", "_law_k", "_law_mix"] "_law_mixed" (defScope s_l_mixed) f cdv A outer s H0 E) (defBody s_l_mixed) (tS (tb K cl) (fun cls d _ H => E cls d H) w0 ⟨H0, 0⟩ c_l_mixed) := by
  exact (z_cons (z_set 2 sc_l_mixed.nd (q_mod (q_mul (q_add (q_add (q_var 0) (q_mul q_int (q_var 1))) q_int) q_int) q_int))
    (z_one (z_ret (q_mod (q_add (q_mul (q_var 2) (q_var 2)) (q_mul q_int (q_var 2))) q_int))))
theorem ok_l_mixed (T : Tx K mg cl) : FOk P w K mg base (tb K cl) 1 "_law_mixed" f_l_mixed 2 [] := by
  obtain ⟨f, fd, F, hm⟩ := T.d_l_mixed
  exact ⟨⟨f, fd, ["_law_cell", "_law_k"], [], _, ok_def (t := tb K cl) F sc_l_mixed (fun cdv A outer s H0 E w0 hr => l_mixed_body T hr), hm, F.kp, (F.bindsN fun _ _ _ _ _ _ us hl => match us, hl with | [_, _], _ => rfl), .nil, rfl⟩⟩
theorem sc_l_small : FnScope ["_law_cell"] ["_law_cell"] (defScope s_l_small) := ⟨rfl, rfl, rfl, by decide +kernel, rfl, by decide +kernel, by decide +kernel⟩
def c_l_small : CS :=
  (cRet (cCall f_l_low 2 [] (cCons (cBin subD (cBin modD (cCall f_l_mixed 2 [] (cCons (cVar 0) (cCons (cC (.int 1)) cNil))) (cC (.int 200001))) (cC (.int 100000))) (cCons (cBin idxD (cLst (cCons (cC (.int 1)) (cCons (cC (.int 2)) (cCons (cC (.int 3)) (cCons (cC (.int 4)) (cCons (cC (.int 6)) (cCons (cC (.int 12)) cNil))))))) (cBin modD (cBin fdivD (cCall f_l_mixed 2 [] (cCons (cVar 0) (cCons (cC (.int 2)) cNil))) (cC (.int 7))) (cC (.int 6)))) cNil))))
def f_l_small : FD := runDef c_l_small 1
theorem r_l_small {d0 : D} {ah : AH} : f_l_small [d0] ah = run1 (c_l_small [.val d0] ah) := (ev_run).trans rfl
theorem l_small_body (T : Tx K mg cl) {f : Addr} {cdv : Value} {A : Around} {outer : List Env} {s : Shared} {H0 : Hp} {E : XK} {w0 : Wd} (hr : Room 2 (A.deeper (envOfC "_law_small" (defScope s_l_small) s.heap.objs.size f cdv))) :
    PSs (cxOf (L2.CX P w) P w K mg base ["_law_cell"] "_law_small" (defScope s_l_small) f cdv A outer s H0 E) (defBody s_l_small) (tS (tb K cl) (fun cls d _ H => E cls d H) w0 ⟨H0, 0⟩ c_l_small) := by
  exact (z_one (z_ret (q_callF (ok_l_low T) (hr.mono (by decide)) (takes_of rfl rfl rfl rfl) (qa_cons (q_sub (q_mod (q_callF (ok_l_mixed T) (hr.mono (by decide)) (takes_of rfl rfl rfl rfl) (qa_cons (q_var 0) (qa_cons q_int qa_nil))) q_int) q_int) (qa_cons (q_idx (q_lst (qa_cons q_int (qa_cons q_int (qa_cons q_int (qa_cons q_int (qa_cons q_int (qa_cons q_int qa_nil))))))) (q_mod (q_fdiv (q_callF (ok_l_mixed T) (hr.mono (by decide)) (takes_of rfl rfl rfl rfl) (qa_cons (q_var 0) (qa_cons q_int qa_nil))) q_int) q_int)) qa_nil)))))
theorem ok_l_small (T : Tx K mg cl) : FOk P w K mg base (tb K cl) 3 "_law_small" f_l_small 1 [] := by
  obtain ⟨f, fd, F, hm⟩ := T.d_l_small
  exact ⟨⟨f, fd, ["_law_cell"], [], _, ok_def (t := tb K cl) F sc_l_small (fun cdv A outer s H0 E w0 hr => l_small_body T hr), hm, F.kp, (F.bindsN fun _ _ _ _ _ _ us hl => match us, hl with | [_], _ => rfl), .nil, rfl⟩⟩
theorem sc_common : FnScope ["one", "other"] ["one", "other"] (defScope s_common) := ⟨rfl, rfl, rfl, by decide +kernel, rfl, by decide +kernel, by decide +kernel⟩
def w_common_1 : CT := (cTest (cBin gtD (cVar 1) (cC (.int 0))))
def b_common_1 : CS := (cPar 0 1 (cCons (cVar 1) (cCons (cBin modD (cVar 0) (cVar 1)) cNil)))
def c_common : CS :=
  (cSeq (cAsg (gN 0) (cCB absD (cCons (cVar 0) cNil)))
  (cSeq (cAsg (gN 1) (cCB absD (cCons (cVar 1) cNil)))
  (cSeq (cWhile w_common_1 b_common_1)
  (cRet (cVar 0)))))
def f_common : FD := runDef c_common 2
theorem r_common {d0 d1 : D} {ah : AH} : f_common [d0, d1] ah = run1 (c_common [.val d0, .val d1] ah) := (ev_run).trans rfl
theorem common_body (T : Tx K mg cl) {f : Addr} {cdv : Value} {A : Around} {outer : List Env} {s : Shared} {H0 : Hp} {E : XK} {w0 : Wd} (hr : Room 0 (A.deeper (envOfC "common" (defScope s_common) s.heap.objs.size f cdv))) :
    PSs (cxOf (L2.CX P w) P w K mg base ["one", "other"] "common" (defScope s_common) f cdv A outer s H0 E) (defBody s_common) (tS (tb K cl) (fun cls d _ H => E cls d H) w0 ⟨H0, 0⟩ c_common) := by
  exact (z_cons (z_set 0 sc_common.nd (q_cb call_abs cs_abs T.b_abs (by decide +kernel) (qa_cons (q_var 0) qa_nil)))
    (z_cons (z_set 1 sc_common.nd (q_cb call_abs cs_abs T.b_abs (by decide +kernel) (qa_cons (q_var 1) qa_nil)))
    (z_cons (z_while (passes_of rfl) (q_tcmp op_gt bs_cmpI (q_var 1) q_int (nomark _)) (z_one (z_par 0 1 rfl sc_common.nd (qa_cons (q_var 1) (qa_cons (q_mod (q_var 0) (q_var 1)) qa_nil)))))
    (z_one (z_ret (q_var 0))))))
theorem ok_common (T : Tx K mg cl) : FOk P w K mg base (tb K cl) 1 "common" f_common 2 [] := by
  obtain ⟨f, fd, F, hm⟩ := T.d_common
  exact ⟨⟨f, fd, ["one", "other"], [], _, ok_def (t := tb K cl) F sc_common (fun cdv A outer s H0 E w0 hr => common_body T hr), hm, F.kp, (F.bindsN fun _ _ _ _ _ _ us hl => match us, hl with | [_, _], _ => rfl), .nil, rfl⟩⟩
theorem sc_Ratio_init : FnScope ["self", "top", "bottom", "both"] ["self", "top", "bottom"] (defScope s_Ratio_init) := ⟨rfl, rfl, rfl, by decide +kernel, rfl, by decide +kernel, by decide +kernel⟩
def c_Ratio_init : CS :=
  (cSeq (cIfS (cTest (cBin eqD (cVar 2) (cC (.int 0)))) (cRaise 2) cSkip)
  (cSeq (cAsg (gN 3) (cCall f_common 2 [] (cCons (cVar 1) (cCons (cVar 2) cNil))))
  (cSeq (cIfS (cTest (cBin ltD (cVar 2) (cC (.int 0)))) (cAsg (gN 3) (cUn negD (cVar 3))) cSkip)
  (cSeq (cSetF fl 0 "top" (cBin fdivD (cVar 1) (cVar 3)))
  (cSetF fl 0 "bottom" (cBin fdivD (cVar 2) (cVar 3)))))))
def f_Ratio_init : FI := runInit c_Ratio_init 4 3 2
theorem r_Ratio_init {d0 d1 : D} {ah : AH} : f_Ratio_init [d0, d1] ah = init1 3 2 (c_Ratio_init [.own (.ins 3 []), .val d0, .val d1, .no] ah) := (ev_init).trans rfl
theorem Ratio_init_body (T : Tx K mg cl) {f : Addr} {cdv : Value} {A : Around} {outer : List Env} {s : Shared} {H : Hp} {H0 : Bs} {E : XK} {w0 : Wd} (hr : Room 1 (A.deeper (envOfC "Ratio.__init__" (defScope s_Ratio_init) s.heap.objs.size f cdv))) :
    PSs (cxOf (L2.CX P w) P w K mg base ["self", "top", "bottom", "both"] "Ratio.__init__" (defScope s_Ratio_init) f cdv A outer s H E) (defBody s_Ratio_init) (tS (tb K cl) (fun cls d _ H => E cls d H) w0 H0 c_Ratio_init) := by
  have hu := hr.units
  exact (z_cons (z_if (q_tcmp (op_eqA hu) bs_eq (q_var 2) q_int (nomark _)) (z_one (z_raise 2 rfl (takes_of rfl rfl rfl rfl) PySem.F.excBase_ValueError T.x_NoRatio T.g_NoRatio T.k_NoRatio T.bs_NoRatio T.ty_NoRatio)) z_nil)
    (z_cons (z_set 3 sc_Ratio_init.nd (q_callF (ok_common T) (hr.mono (by decide)) (takes_of rfl rfl rfl rfl) (qa_cons (q_var 1) (qa_cons (q_var 2) qa_nil))))
    (z_cons (z_if (q_tcmp op_lt bs_cmpI (q_var 2) q_int (nomark _)) (z_one (z_set 3 sc_Ratio_init.nd (q_neg (q_var 3)))) z_nil)
    (z_cons (z_fld 0 (fok_top T) fl_len (q_fdiv (q_var 1) (q_var 3)))
    (z_one (z_fld 0 (fok_bottom T) fl_len (q_fdiv (q_var 2) (q_var 3))))))))
theorem ok_Ratio_init (T : Tx K mg cl) : KOk P w K mg base (tb K cl) 2 "Ratio" 3 f_Ratio_init 2 [] := by
  obtain ⟨f, fd, F, hm⟩ := T.d_Ratio_init
  obtain ⟨ds, hv, hb⟩ := F.binds1 (ps := ["self", "top", "bottom"]) 3 1 (by simp) rfl (fun _ _ _ _ _ _ _ us its h1 h2 => match us, its, h1, h2 with | [_, _, _], [_], _, _ => ⟨_, rfl, rfl⟩)
  exact ⟨⟨f, fd, ["self", "top", "bottom"], ds, _, ok_init (t := tb K cl) (cls := 3) (n := 2) F sc_Ratio_init rfl (fun cdv A outer s H H0 E w0 hr => Ratio_init_body T hr), hm, T.g_Ratio, hb, hv, rfl⟩⟩
theorem ok_Ratio_init_1 (T : Tx K mg cl) : KOk P w K mg base (tb K cl) 2 "Ratio" 3 f_Ratio_init 2 [.int 1] := by
  obtain ⟨f, fd, F, hm⟩ := T.d_Ratio_init
  obtain ⟨ds, hv, hb⟩ := F.binds1 (ps := ["self", "top", "bottom"]) 2 0 (by simp) rfl (fun _ _ _ _ _ _ _ us its h1 h2 => match us, its, h1, h2 with | [_, _], [_], _, _ => ⟨_, rfl, rfl⟩)
  exact ⟨⟨f, fd, ["self", "top", "bottom"], ds, _, ok_init (t := tb K cl) (cls := 3) (n := 2) F sc_Ratio_init rfl (fun cdv A outer s H H0 E w0 hr => Ratio_init_body T hr), hm, T.g_Ratio, hb, hv, rfl⟩⟩
theorem sc_Ratio_plus : FnScope ["self", "other"] ["self", "other"] (defScope s_Ratio_plus) := ⟨rfl, rfl, rfl, by decide +kernel, rfl, by decide +kernel, by decide +kernel⟩
def c_Ratio_plus : CS :=
  (cRet (cMake 3 f_Ratio_init 2 [] (cCons (cBin addD (cBin mulD (cFld fl "top" (cVar 0)) (cFld fl "bottom" (cVar 1))) (cBin mulD (cFld fl "top" (cVar 1)) (cFld fl "bottom" (cVar 0)))) (cCons (cBin mulD (cFld fl "bottom" (cVar 0)) (cFld fl "bottom" (cVar 1))) cNil))))
def f_Ratio_plus : FD := runDef c_Ratio_plus 2
theorem r_Ratio_plus {d0 d1 : D} {ah : AH} : f_Ratio_plus [d0, d1] ah = run1 (c_Ratio_plus [.val d0, .val d1] ah) := (ev_run).trans rfl
theorem Ratio_plus_body (T : Tx K mg cl) {f : Addr} {cdv : Value} {A : Around} {outer : List Env} {s : Shared} {H0 : Hp} {E : XK} {w0 : Wd} (hr : Room 3 (A.deeper (envOfC "Ratio.plus" (defScope s_Ratio_plus) s.heap.objs.size f cdv))) :
    PSs (cxOf (L2.CX P w) P w K mg base ["self", "other"] "Ratio.plus" (defScope s_Ratio_plus) f cdv A outer s H0 E) (defBody s_Ratio_plus) (tS (tb K cl) (fun cls d _ H => E cls d H) w0 ⟨H0, 0⟩ c_Ratio_plus) := by
  exact (z_one (z_ret (q_makeF 3 (ok_Ratio_init T) (hr.mono (by decide)) (takes_of rfl rfl rfl rfl) (qa_cons (q_add (q_mul (q_fld (fok_top T) (q_var 0)) (q_fld (fok_bottom T) (q_var 1))) (q_mul (q_fld (fok_top T) (q_var 1)) (q_fld (fok_bottom T) (q_var 0)))) (qa_cons (q_mul (q_fld (fok_bottom T) (q_var 0)) (q_fld (fok_bottom T) (q_var 1))) qa_nil)))))
theorem ok_Ratio_plus (T : Tx K mg cl) : MtI P w K mg base (tb K cl) 4 3 "plus" f_Ratio_plus 2 := by
  obtain ⟨f, fd, F, hm⟩ := T.d_Ratio_plus
  exact ⟨T.c_Ratio, (by decide +kernel : flIx (fl 3) "plus" = none), ⟨f, fd, ["self", "other"], hm, ok_def (t := tb K cl) F sc_Ratio_plus (fun cdv A outer s H0 E w0 hr => Ratio_plus_body T hr), (F.bindsN fun _ _ _ _ _ _ us hl => match us, hl with | [_, _], _ => rfl)⟩⟩
theorem sc_l_sum : FnScope ["_law_one", "_law_other"] ["_law_one", "_law_other"] (defScope s_l_sum) := ⟨rfl, rfl, rfl, by decide +kernel, rfl, by decide +kernel, by decide +kernel⟩
def c_l_sum : CS :=
  (cRet (cCall f_l_low 2 [] (cCons (cBin addD (cBin mulD (cBin idxD (cVar 0) (cC (.int 0))) (cBin idxD (cVar 1) (cC (.int 1)))) (cBin mulD (cBin idxD (cVar 1) (cC (.int 0))) (cBin idxD (cVar 0) (cC (.int 1))))) (cCons (cBin mulD (cBin idxD (cVar 0) (cC (.int 1))) (cBin idxD (cVar 1) (cC (.int 1)))) cNil))))
def f_l_sum : FD := runDef c_l_sum 2
theorem r_l_sum {d0 d1 : D} {ah : AH} : f_l_sum [d0, d1] ah = run1 (c_l_sum [.val d0, .val d1] ah) := (ev_run).trans rfl
theorem l_sum_body (T : Tx K mg cl) {f : Addr} {cdv : Value} {A : Around} {outer : List Env} {s : Shared} {H0 : Hp} {E : XK} {w0 : Wd} (hr : Room 2 (A.deeper (envOfC "_law_sum" (defScope s_l_sum) s.heap.objs.size f cdv))) :
    PSs (cxOf (L2.CX P w) P w K mg base ["_law_one", "_law_other"] "_law_sum" (defScope s_l_sum) f cdv A outer s H0 E) (defBody s_l_sum) (tS (tb K cl) (fun cls d _ H => E cls d H) w0 ⟨H0, 0⟩ c_l_sum) := by
  exact (z_one (z_ret (q_callF (ok_l_low T) (hr.mono (by decide)) (takes_of rfl rfl rfl rfl) (qa_cons (q_add (q_mul (q_idx (q_var 0) q_int) (q_idx (q_var 1) q_int)) (q_mul (q_idx (q_var 1) q_int) (q_idx (q_var 0) q_int))) (qa_cons (q_mul (q_idx (q_var 0) q_int) (q_idx (q_var 1) q_int)) qa_nil)))))
theorem ok_l_sum (T : Tx K mg cl) : FOk P w K mg base (tb K cl) 3 "_law_sum" f_l_sum 2 [] := by
  obtain ⟨f, fd, F, hm⟩ := T.d_l_sum
  exact ⟨⟨f, fd, ["_law_one", "_law_other"], [], _, ok_def (t := tb K cl) F sc_l_sum (fun cdv A outer s H0 E w0 hr => l_sum_body T hr), hm, F.kp, (F.bindsN fun _ _ _ _ _ _ us hl => match us, hl with | [_, _], _ => rfl), .nil, rfl⟩⟩
theorem sc_Ratio_told : FnScope ["self"] ["self"] (defScope s_Ratio_told) := ⟨rfl, rfl, rfl, by decide +kernel, rfl, by decide +kernel, by decide +kernel⟩
def c_Ratio_told : CS :=
  (cRet (cTup (cCons (cFld fl "top" (cVar 0)) (cCons (cFld fl "bottom" (cVar 0)) cNil))))
def f_Ratio_told : FD := runDef c_Ratio_told 1
theorem r_Ratio_told {d0 : D} {ah : AH} : f_Ratio_told [d0] ah = run1 (c_Ratio_told [.val d0] ah) := (ev_run).trans rfl
theorem Ratio_told_body (T : Tx K mg cl) {f : Addr} {cdv : Value} {A : Around} {outer : List Env} {s : Shared} {H0 : Hp} {E : XK} {w0 : Wd} (hr : Room 0 (A.deeper (envOfC "Ratio.told" (defScope s_Ratio_told) s.heap.objs.size f cdv))) :
    PSs (cxOf (L2.CX P w) P w K mg base ["self"] "Ratio.told" (defScope s_Ratio_told) f cdv A outer s H0 E) (defBody s_Ratio_told) (tS (tb K cl) (fun cls d _ H => E cls d H) w0 ⟨H0, 0⟩ c_Ratio_told) := by
  exact (z_one (z_ret (q_tup (qa_cons (q_fld (fok_top T) (q_var 0)) (qa_cons (q_fld (fok_bottom T) (q_var 0)) qa_nil)))))
theorem ok_Ratio_told (T : Tx K mg cl) : MtI P w K mg base (tb K cl) 1 3 "told" f_Ratio_told 1 := by
  obtain ⟨f, fd, F, hm⟩ := T.d_Ratio_told
  exact ⟨T.c_Ratio, (by decide +kernel : flIx (fl 3) "told" = none), ⟨f, fd, ["self"], hm, ok_def (t := tb K cl) F sc_Ratio_told (fun cdv A outer s H0 E w0 hr => Ratio_told_body T hr), (F.bindsN fun _ _ _ _ _ _ us hl => match us, hl with | [_], _ => rfl)⟩⟩
theorem sc_l_great : FnScope ["_law_cell", "_law_most", "_law_found", "_law_k"] ["_law_cell", "_law_most"] (defScope s_l_great) := ⟨rfl, rfl, rfl, by decide +kernel, rfl, by decide +kernel, by decide +kernel⟩
def b_l_great_1 : CS := (cAsg (gN 2) (cBin addD (cBin mulD (cVar 2) (cC (.int 2147483399))) (cCall f_l_mixed 2 [] (cCons (cVar 0) (cCons (cBin addD (cC (.int 40)) (cVar 3)) cNil)))))
def c_l_great : CS :=
  (cSeq (cAsg (gN 2) (cC (.int 0)))
  (cSeq (cFor (itRng1 (cCons (cC (.int 8)) cNil)) (gN 3) b_l_great_1)
  (cRet (cBin modD (cVar 2) (cVar 1)))))
def f_l_great : FD := runDef c_l_great 4
theorem r_l_great {d0 d1 : D} {ah : AH} : f_l_great [d0, d1] ah = run1 (c_l_great [.val d0, .val d1, .no, .no] ah) := (ev_run).trans rfl
theorem l_great_body (T : Tx K mg cl) {f : Addr} {cdv : Value} {A : Around} {outer : List Env} {s : Shared} {H0 : Hp} {E : XK} {w0 : Wd} (hr : Room 1 (A.deeper (envOfC "_law_great" (defScope s_l_great) s.heap.objs.size f cdv))) :
    PSs (cxOf (L2.CX P w) P w K mg base ["_law_cell", "_law_most", "_law_found", "_law_k"] "_law_great" (defScope s_l_great) f cdv A outer s H0 E) (defBody s_l_great) (tS (tb K cl) (fun cls d _ H => E cls d H) w0 ⟨H0, 0⟩ c_l_great) := by
  exact (z_cons (z_set 2 sc_l_great.nd q_int)
    (z_cons (z_for (passes_of rfl) rfl (tg_name 3) (i_rng1 T.b_range (qa_cons q_int qa_nil)) (pg_name (i := 3) sc_l_great.nd rfl (by first | exact Or.inl rfl | exact Or.inr rfl)) (z_one (z_set 2 sc_l_great.nd (q_add (q_mul (q_var 2) q_int) (q_callF (ok_l_mixed T) (hr.mono (by decide)) (takes_of rfl rfl rfl rfl) (qa_cons (q_var 0) (qa_cons (q_add q_int (q_var 3)) qa_nil)))))))
    (z_one (z_ret (q_mod (q_var 2) (q_var 1))))))
theorem ok_l_great (T : Tx K mg cl) : FOk P w K mg base (tb K cl) 2 "_law_great" f_l_great 2 [] := by
  obtain ⟨f, fd, F, hm⟩ := T.d_l_great
  exact ⟨⟨f, fd, ["_law_cell", "_law_most"], [], _, ok_def (t := tb K cl) F sc_l_great (fun cdv A outer s H0 E w0 hr => l_great_body T hr), hm, F.kp, (F.bindsN fun _ _ _ _ _ _ us hl => match us, hl with | [_, _], _ => rfl), .nil, rfl⟩⟩
theorem sc_l_pair : FnScope ["_law_cell", "_law_most", "_law_top", "_law_bottom"] ["_law_cell"] (defScope s_l_pair) := ⟨rfl, rfl, rfl, by decide +kernel, rfl, by decide +kernel, by decide +kernel⟩
def c_l_pair : CS :=
  (cSeq (cAsg (gN 1) (cBin idxD (cLst (cCons (cC (.int 3)) (cCons (cC (.int 9)) (cCons (cC (.int 30)) (cCons (cBin powD (cC (.int 10)) (cC (.int 9))) (cCons (cBin powD (cC (.int 10)) (cC (.int 29))) cNil)))))) (cBin modD (cBin fdivD (cCall f_l_mixed 2 [] (cCons (cVar 0) (cCons (cC (.int 1)) cNil))) (cC (.int 7))) (cC (.int 5)))))
  (cSeq (cAsg (gN 2) (cBin subD (cCall f_l_great 2 [] (cCons (cCall f_l_mixed 2 [] (cCons (cVar 0) (cCons (cC (.int 2)) cNil))) (cCons (cVar 1) cNil))) (cBin fdivD (cVar 1) (cBin idxD (cLst (cCons (cC (.int 2)) (cCons (cC (.int 2)) (cCons (cC (.int 1000000)) cNil)))) (cBin modD (cBin fdivD (cCall f_l_mixed 2 [] (cCons (cVar 0) (cCons (cC (.int 3)) cNil))) (cC (.int 7))) (cC (.int 3)))))))
  (cSeq (cAsg (gN 3) (cBin addD (cC (.int 1)) (cCall f_l_great 2 [] (cCons (cCall f_l_mixed 2 [] (cCons (cVar 0) (cCons (cC (.int 4)) cNil))) (cCons (cBin idxD (cLst (cCons (cC (.int 1)) (cCons (cC (.int 2)) (cCons (cVar 1) (cCons (cVar 1) (cCons (cC (.int 6)) cNil)))))) (cBin modD (cBin fdivD (cCall f_l_mixed 2 [] (cCons (cVar 0) (cCons (cC (.int 5)) cNil))) (cC (.int 7))) (cC (.int 5)))) cNil)))))
  (cRet (cCall f_l_low 2 [] (cCons (cVar 2) (cCons (cVar 3) cNil)))))))
def f_l_pair : FD := runDef c_l_pair 4
theorem r_l_pair {d0 : D} {ah : AH} : f_l_pair [d0] ah = run1 (c_l_pair [.val d0, .no, .no, .no] ah) := (ev_run).trans rfl
theorem l_pair_body (T : Tx K mg cl) {f : Addr} {cdv : Value} {A : Around} {outer : List Env} {s : Shared} {H0 : Hp} {E : XK} {w0 : Wd} (hr : Room 2 (A.deeper (envOfC "_law_pair" (defScope s_l_pair) s.heap.objs.size f cdv))) :
    PSs (cxOf (L2.CX P w) P w K mg base ["_law_cell", "_law_most", "_law_top", "_law_bottom"] "_law_pair" (defScope s_l_pair) f cdv A outer s H0 E) (defBody s_l_pair) (tS (tb K cl) (fun cls d _ H => E cls d H) w0 ⟨H0, 0⟩ c_l_pair) := by
  exact (z_cons (z_set 1 sc_l_pair.nd (q_idx (q_lst (qa_cons q_int (qa_cons q_int (qa_cons q_int (qa_cons (q_pow q_int q_int) (qa_cons (q_pow q_int q_int) qa_nil)))))) (q_mod (q_fdiv (q_callF (ok_l_mixed T) (hr.mono (by decide)) (takes_of rfl rfl rfl rfl) (qa_cons (q_var 0) (qa_cons q_int qa_nil))) q_int) q_int)))
    (z_cons (z_set 2 sc_l_pair.nd (q_sub (q_callF (ok_l_great T) (hr.mono (by decide)) (takes_of rfl rfl rfl rfl) (qa_cons (q_callF (ok_l_mixed T) (hr.mono (by decide)) (takes_of rfl rfl rfl rfl) (qa_cons (q_var 0) (qa_cons q_int qa_nil))) (qa_cons (q_var 1) qa_nil))) (q_fdiv (q_var 1) (q_idx (q_lst (qa_cons q_int (qa_cons q_int (qa_cons q_int qa_nil)))) (q_mod (q_fdiv (q_callF (ok_l_mixed T) (hr.mono (by decide)) (takes_of rfl rfl rfl rfl) (qa_cons (q_var 0) (qa_cons q_int qa_nil))) q_int) q_int)))))
    (z_cons (z_set 3 sc_l_pair.nd (q_add q_int (q_callF (ok_l_great T) (hr.mono (by decide)) (takes_of rfl rfl rfl rfl) (qa_cons (q_callF (ok_l_mixed T) (hr.mono (by decide)) (takes_of rfl rfl rfl rfl) (qa_cons (q_var 0) (qa_cons q_int qa_nil))) (qa_cons (q_idx (q_lst (qa_cons q_int (qa_cons q_int (qa_cons (q_var 1) (qa_cons (q_var 1) (qa_cons q_int qa_nil)))))) (q_mod (q_fdiv (q_callF (ok_l_mixed T) (hr.mono (by decide)) (takes_of rfl rfl rfl rfl) (qa_cons (q_var 0) (qa_cons q_int qa_nil))) q_int) q_int)) qa_nil)))))
    (z_one (z_ret (q_callF (ok_l_low T) (hr.mono (by decide)) (takes_of rfl rfl rfl rfl) (qa_cons (q_var 2) (qa_cons (q_var 3) qa_nil))))))))
theorem ok_l_pair (T : Tx K mg cl) : FOk P w K mg base (tb K cl) 3 "_law_pair" f_l_pair 1 [] := by
  obtain ⟨f, fd, F, hm⟩ := T.d_l_pair
  exact ⟨⟨f, fd, ["_law_cell"], [], _, ok_def (t := tb K cl) F sc_l_pair (fun cdv A outer s H0 E w0 hr => l_pair_body T hr), hm, F.kp, (F.bindsN fun _ _ _ _ _ _ us hl => match us, hl with | [_], _ => rfl), .nil, rfl⟩⟩
theorem sc_l_cell_at : FnScope ["_law_script", "_law_k"] ["_law_script", "_law_k"] (defScope s_l_cell_at) := ⟨rfl, rfl, rfl, by decide +kernel, rfl, by decide +kernel, by decide +kernel⟩
def c_l_cell_at : CS :=
  (cSeq (cIfS (cTest (cBin ltD (cVar 1) (cCB lenD (cCons (cVar 0) cNil)))) (cRet (cBin idxD (cVar 0) (cVar 1))) cSkip)
  (cRet (cBin mulD (cBin mulD (cBin addD (cVar 1) (cC (.int 3))) (cBin addD (cVar 1) (cC (.int 7)))) (cC (.int 7919)))))
def f_l_cell_at : FD := runDef c_l_cell_at 2
theorem r_l_cell_at {d0 d1 : D} {ah : AH} : f_l_cell_at [d0, d1] ah = run1 (c_l_cell_at [.val d0, .val d1] ah) := (ev_run).trans rfl
theorem l_cell_at_body (T : Tx K mg cl) {f : Addr} {cdv : Value} {A : Around} {outer : List Env} {s : Shared} {H0 : Hp} {E : XK} {w0 : Wd} (hr : Room 0 (A.deeper (envOfC "_law_cell_at" (defScope s_l_cell_at) s.heap.objs.size f cdv))) :
    PSs (cxOf (L2.CX P w) P w K mg base ["_law_script", "_law_k"] "_law_cell_at" (defScope s_l_cell_at) f cdv A outer s H0 E) (defBody s_l_cell_at) (tS (tb K cl) (fun cls d _ H => E cls d H) w0 ⟨H0, 0⟩ c_l_cell_at) := by
  exact (z_cons (z_if (q_tcmp op_lt bs_cmpI (q_var 1) (q_cb call_len cs_len T.b_len (by decide +kernel) (qa_cons (q_var 0) qa_nil)) (nomark _)) (z_one (z_ret (q_idx (q_var 0) (q_var 1)))) z_nil)
    (z_one (z_ret (q_mul (q_mul (q_add (q_var 1) q_int) (q_add (q_var 1) q_int)) q_int))))
theorem ok_l_cell_at (T : Tx K mg cl) : FOk P w K mg base (tb K cl) 1 "_law_cell_at" f_l_cell_at 2 [] := by
  obtain ⟨f, fd, F, hm⟩ := T.d_l_cell_at
  exact ⟨⟨f, fd, ["_law_script", "_law_k"], [], _, ok_def (t := tb K cl) F sc_l_cell_at (fun cdv A outer s H0 E w0 hr => l_cell_at_body T hr), hm, F.kp, (F.bindsN fun _ _ _ _ _ _ us hl => match us, hl with | [_, _], _ => rfl), .nil, rfl⟩⟩
theorem sc_Ratio_times : FnScope ["self", "other"] ["self", "other"] (defScope s_Ratio_times) := ⟨rfl, rfl, rfl, by decide +kernel, rfl, by decide +kernel, by decide +kernel⟩
def c_Ratio_times : CS :=
  (cRet (cMake 3 f_Ratio_init 2 [] (cCons (cBin mulD (cFld fl "top" (cVar 0)) (cFld fl "top" (cVar 1))) (cCons (cBin mulD (cFld fl "bottom" (cVar 0)) (cFld fl "bottom" (cVar 1))) cNil))))
def f_Ratio_times : FD := runDef c_Ratio_times 2
theorem r_Ratio_times {d0 d1 : D} {ah : AH} : f_Ratio_times [d0, d1] ah = run1 (c_Ratio_times [.val d0, .val d1] ah) := (ev_run).trans rfl
theorem Ratio_times_body (T : Tx K mg cl) {f : Addr} {cdv : Value} {A : Around} {outer : List Env} {s : Shared} {H0 : Hp} {E : XK} {w0 : Wd} (hr : Room 3 (A.deeper (envOfC "Ratio.times" (defScope s_Ratio_times) s.heap.objs.size f cdv))) :
    PSs (cxOf (L2.CX P w) P w K mg base ["self", "other"] "Ratio.times" (defScope s_Ratio_times) f cdv A outer s H0 E) (defBody s_Ratio_times) (tS (tb K cl) (fun cls d _ H => E cls d H) w0 ⟨H0, 0⟩ c_Ratio_times) := by
  exact (z_one (z_ret (q_makeF 3 (ok_Ratio_init T) (hr.mono (by decide)) (takes_of rfl rfl rfl rfl) (qa_cons (q_mul (q_fld (fok_top T) (q_var 0)) (q_fld (fok_top T) (q_var 1))) (qa_cons (q_mul (q_fld (fok_bottom T) (q_var 0)) (q_fld (fok_bottom T) (q_var 1))) qa_nil)))))
theorem ok_Ratio_times (T : Tx K mg cl) : MtI P w K mg base (tb K cl) 4 3 "times" f_Ratio_times 2 := by
  obtain ⟨f, fd, F, hm⟩ := T.d_Ratio_times
  exact ⟨T.c_Ratio, (by decide +kernel : flIx (fl 3) "times" = none), ⟨f, fd, ["self", "other"], hm, ok_def (t := tb K cl) F sc_Ratio_times (fun cdv A outer s H0 E w0 hr => Ratio_times_body T hr), (F.bindsN fun _ _ _ _ _ _ us hl => match us, hl with | [_, _], _ => rfl)⟩⟩
theorem sc_Ratio_turned : FnScope ["self"] ["self"] (defScope s_Ratio_turned) := ⟨rfl, rfl, rfl, by decide +kernel, rfl, by decide +kernel, by decide +kernel⟩
def c_Ratio_turned : CS :=
  (cRet (cMake 3 f_Ratio_init 2 [] (cCons (cUn negD (cFld fl "top" (cVar 0))) (cCons (cFld fl "bottom" (cVar 0)) cNil))))
def f_Ratio_turned : FD := runDef c_Ratio_turned 1
theorem r_Ratio_turned {d0 : D} {ah : AH} : f_Ratio_turned [d0] ah = run1 (c_Ratio_turned [.val d0] ah) := (ev_run).trans rfl
theorem Ratio_turned_body (T : Tx K mg cl) {f : Addr} {cdv : Value} {A : Around} {outer : List Env} {s : Shared} {H0 : Hp} {E : XK} {w0 : Wd} (hr : Room 3 (A.deeper (envOfC "Ratio.turned" (defScope s_Ratio_turned) s.heap.objs.size f cdv))) :
    PSs (cxOf (L2.CX P w) P w K mg base ["self"] "Ratio.turned" (defScope s_Ratio_turned) f cdv A outer s H0 E) (defBody s_Ratio_turned) (tS (tb K cl) (fun cls d _ H => E cls d H) w0 ⟨H0, 0⟩ c_Ratio_turned) := by
  exact (z_one (z_ret (q_makeF 3 (ok_Ratio_init T) (hr.mono (by decide)) (takes_of rfl rfl rfl rfl) (qa_cons (q_neg (q_fld (fok_top T) (q_var 0))) (qa_cons (q_fld (fok_bottom T) (q_var 0)) qa_nil)))))
theorem ok_Ratio_turned (T : Tx K mg cl) : MtI P w K mg base (tb K cl) 4 3 "turned" f_Ratio_turned 1 := by
  obtain ⟨f, fd, F, hm⟩ := T.d_Ratio_turned
  exact ⟨T.c_Ratio, (by decide +kernel : flIx (fl 3) "turned" = none), ⟨f, fd, ["self"], hm, ok_def (t := tb K cl) F sc_Ratio_turned (fun cdv A outer s H0 E w0 hr => Ratio_turned_body T hr), (F.bindsN fun _ _ _ _ _ _ us hl => match us, hl with | [_], _ => rfl)⟩⟩
def mt_plus : MtTab := fun c => if c = 3 then some (f_Ratio_plus, 2) else none
theorem mt_plus_ok (T : Tx K mg cl) : ∀ c F n, mt_plus c = some (F, n) → ∃ j, j ≤ 4 ∧ MtI P w K mg base (tb K cl) j c "plus" F n := by
  intro c F n h
  unfold mt_plus at h
  split at h
  · rename_i e; subst e; cases h; exact ⟨4, by decide, ok_Ratio_plus T⟩
  cases h
def mt_turned : MtTab := fun c => if c = 3 then some (f_Ratio_turned, 1) else none
theorem mt_turned_ok (T : Tx K mg cl) : ∀ c F n, mt_turned c = some (F, n) → ∃ j, j ≤ 4 ∧ MtI P w K mg base (tb K cl) j c "turned" F n := by
  intro c F n h
  unfold mt_turned at h
  split at h
  · rename_i e; subst e; cases h; exact ⟨4, by decide, ok_Ratio_turned T⟩
  cases h
theorem sc_Ratio_minus : FnScope ["self", "other"] ["self", "other"] (defScope s_Ratio_minus) := ⟨rfl, rfl, rfl, by decide +kernel, rfl, by decide +kernel, by decide +kernel⟩
def c_Ratio_minus : CS :=
  (cRet (cMeth mt_plus (cVar 0) (cCons (cMeth mt_turned (cVar 1) cNil) cNil)))
def f_Ratio_minus : FD := runDef c_Ratio_minus 2
theorem r_Ratio_minus {d0 d1 : D} {ah : AH} : f_Ratio_minus [d0, d1] ah = run1 (c_Ratio_minus [.val d0, .val d1] ah) := (ev_run).trans rfl
theorem Ratio_minus_body (T : Tx K mg cl) {f : Addr} {cdv : Value} {A : Around} {outer : List Env} {s : Shared} {H0 : Hp} {E : XK} {w0 : Wd} (hr : Room 4 (A.deeper (envOfC "Ratio.minus" (defScope s_Ratio_minus) s.heap.objs.size f cdv))) :
    PSs (cxOf (L2.CX P w) P w K mg base ["self", "other"] "Ratio.minus" (defScope s_Ratio_minus) f cdv A outer s H0 E) (defBody s_Ratio_minus) (tS (tb K cl) (fun cls d _ H => E cls d H) w0 ⟨H0, 0⟩ c_Ratio_minus) := by
  exact (z_one (z_ret (q_meth (mt_plus_ok T) (hr.mono (by decide)) (takes_of rfl rfl rfl rfl) (q_var 0) (qa_cons (q_meth0 (mt_turned_ok T) (hr.mono (by decide)) (takes_of rfl rfl rfl rfl) (q_var 1)) qa_nil))))
theorem ok_Ratio_minus (T : Tx K mg cl) : MtI P w K mg base (tb K cl) 5 3 "minus" f_Ratio_minus 2 := by
  obtain ⟨f, fd, F, hm⟩ := T.d_Ratio_minus
  exact ⟨T.c_Ratio, (by decide +kernel : flIx (fl 3) "minus" = none), ⟨f, fd, ["self", "other"], hm, ok_def (t := tb K cl) F sc_Ratio_minus (fun cdv A outer s H0 E w0 hr => Ratio_minus_body T hr), (F.bindsN fun _ _ _ _ _ _ us hl => match us, hl with | [_, _], _ => rfl)⟩⟩
theorem sc_Ratio_rest : FnScope ["self"] ["self"] (defScope s_Ratio_rest) := ⟨rfl, rfl, rfl, by decide +kernel, rfl, by decide +kernel, by decide +kernel⟩
def c_Ratio_rest : CS :=
  (cRet (cMake 3 f_Ratio_init 2 [] (cCons (cBin modD (cFld fl "top" (cVar 0)) (cFld fl "bottom" (cVar 0))) (cCons (cFld fl "bottom" (cVar 0)) cNil))))
def f_Ratio_rest : FD := runDef c_Ratio_rest 1
theorem r_Ratio_rest {d0 : D} {ah : AH} : f_Ratio_rest [d0] ah = run1 (c_Ratio_rest [.val d0] ah) := (ev_run).trans rfl
theorem Ratio_rest_body (T : Tx K mg cl) {f : Addr} {cdv : Value} {A : Around} {outer : List Env} {s : Shared} {H0 : Hp} {E : XK} {w0 : Wd} (hr : Room 3 (A.deeper (envOfC "Ratio.rest" (defScope s_Ratio_rest) s.heap.objs.size f cdv))) :
    PSs (cxOf (L2.CX P w) P w K mg base ["self"] "Ratio.rest" (defScope s_Ratio_rest) f cdv A outer s H0 E) (defBody s_Ratio_rest) (tS (tb K cl) (fun cls d _ H => E cls d H) w0 ⟨H0, 0⟩ c_Ratio_rest) := by
  exact (z_one (z_ret (q_makeF 3 (ok_Ratio_init T) (hr.mono (by decide)) (takes_of rfl rfl rfl rfl) (qa_cons (q_mod (q_fld (fok_top T) (q_var 0)) (q_fld (fok_bottom T) (q_var 0))) (qa_cons (q_fld (fok_bottom T) (q_var 0)) qa_nil)))))
theorem ok_Ratio_rest (T : Tx K mg cl) : MtI P w K mg base (tb K cl) 4 3 "rest" f_Ratio_rest 1 := by
  obtain ⟨f, fd, F, hm⟩ := T.d_Ratio_rest
  exact ⟨T.c_Ratio, (by decide +kernel : flIx (fl 3) "rest" = none), ⟨f, fd, ["self"], hm, ok_def (t := tb K cl) F sc_Ratio_rest (fun cdv A outer s H0 E w0 hr => Ratio_rest_body T hr), (F.bindsN fun _ _ _ _ _ _ us hl => match us, hl with | [_], _ => rfl)⟩⟩
theorem sc_Ratio_floor : FnScope ["self"] ["self"] (defScope s_Ratio_floor) := ⟨rfl, rfl, rfl, by decide +kernel, rfl, by decide +kernel, by decide +kernel⟩
def c_Ratio_floor : CS :=
  (cRet (cBin fdivD (cFld fl "top" (cVar 0)) (cFld fl "bottom" (cVar 0))))
def f_Ratio_floor : FD := runDef c_Ratio_floor 1
theorem r_Ratio_floor {d0 : D} {ah : AH} : f_Ratio_floor [d0] ah = run1 (c_Ratio_floor [.val d0] ah) := (ev_run).trans rfl
theorem Ratio_floor_body (T : Tx K mg cl) {f : Addr} {cdv : Value} {A : Around} {outer : List Env} {s : Shared} {H0 : Hp} {E : XK} {w0 : Wd} (hr : Room 0 (A.deeper (envOfC "Ratio.floor" (defScope s_Ratio_floor) s.heap.objs.size f cdv))) :
    PSs (cxOf (L2.CX P w) P w K mg base ["self"] "Ratio.floor" (defScope s_Ratio_floor) f cdv A outer s H0 E) (defBody s_Ratio_floor) (tS (tb K cl) (fun cls d _ H => E cls d H) w0 ⟨H0, 0⟩ c_Ratio_floor) := by
  exact (z_one (z_ret (q_fdiv (q_fld (fok_top T) (q_var 0)) (q_fld (fok_bottom T) (q_var 0)))))
theorem ok_Ratio_floor (T : Tx K mg cl) : MtI P w K mg base (tb K cl) 1 3 "floor" f_Ratio_floor 1 := by
  obtain ⟨f, fd, F, hm⟩ := T.d_Ratio_floor
  exact ⟨T.c_Ratio, (by decide +kernel : flIx (fl 3) "floor" = none), ⟨f, fd, ["self"], hm, ok_def (t := tb K cl) F sc_Ratio_floor (fun cdv A outer s H0 E w0 hr => Ratio_floor_body T hr), (F.bindsN fun _ _ _ _ _ _ us hl => match us, hl with | [_], _ => rfl)⟩⟩
theorem sc_are_figures : FnScope ["text", "most", "sign"] ["text", "most"] (defScope s_are_figures) := ⟨rfl, rfl, rfl, by decide +kernel, rfl, by decide +kernel, by decide +kernel⟩
def te_are_figures_1 : CE := (cBin inSD (cVar 2) (cC (.str "0123456789")))
def c_are_figures : CS :=
  (cSeq (cIfS (cOrT (cNotT (cTest (cChain leD leD (cC (.int 1)) (cCB lenD (cCons (cVar 0) cNil)) (cVar 1)))) (cNotT (cTest (cCB allD (cCons (cLc (itAny (cVar 0)) [2] (gN 2) cYes te_are_figures_1) cNil))))) (cRet (cC (.bl false))) cSkip)
  (cRet (cOr (cBin eqD (cVar 0) (cC (.str "0"))) (cUn notD (cBMg isStr startsD (cVar 0) (cCons (cC (.str "0")) cNil))))))
def f_are_figures : FD := runDef c_are_figures 3
theorem r_are_figures {d0 d1 : D} {ah : AH} : f_are_figures [d0, d1] ah = run1 (c_are_figures [.val d0, .val d1, .no] ah) := (ev_run).trans rfl
theorem are_figures_body (T : Tx K mg cl) {f : Addr} {cdv : Value} {A : Around} {outer : List Env} {s : Shared} {H0 : Hp} {E : XK} {w0 : Wd} (hr : Room 0 (A.deeper (envOfC "are_figures" (defScope s_are_figures) s.heap.objs.size f cdv))) :
    PSs (cxOf (L2.CX P w) P w K mg base ["text", "most", "sign"] "are_figures" (defScope s_are_figures) f cdv A outer s H0 E) (defBody s_are_figures) (tS (tb K cl) (fun cls d _ H => E cls d H) w0 ⟨H0, 0⟩ c_are_figures) := by
  have hu := hr.units
  exact (z_cons (z_if (PW.pt (q_orT (q_notT (q_tchain op_le op_le bs_cmpI bs_cmpI q_int (q_cb call_len cs_len T.b_len (by decide +kernel) (qa_cons (q_var 0) qa_nil)) (q_var 1))) (q_or1 (q_notT (q_test (q_cb (cr_all rfl) cs_all T.b_all (by decide +kernel) (qa_cons (q_lc (own := [("sign", 2)]) rfl sc_are_figures.nd (tg_name 2) (i_any (q_var 0)) (blkOk_by (N := ["text", "most", "sign"]) (sc := defScope s_are_figures) (by decide +kernel)) (by decide) (fun _ _ _ _ _ => (pg_name (i := 2) sc_are_figures.nd rfl (by first | exact Or.inl rfl | exact Or.inr rfl))) (fun _ _ _ _ _ => qs_nil) (fun _ _ _ _ _ => (q_cmp op_in_sign bs_inS (q_var 2) (q_globS T.g_FIGURES) (by with_unfolding_all rfl)))) qa_nil))))))) (z_one (z_ret q_bl)) z_nil)
    (z_one (z_ret (q_or (q_cmp (op_eqA hu) bs_eq (q_var 0) q_str (nomark _)) (q_one (q_not (q_bm PySem.F.plainAttrs_str PySem.F.slot_str_startswith PySem.F.type_str_startswith mt_startswith ty_str bs_starts (q_var 0) (qa_cons q_str qa_nil))))))))
theorem ok_are_figures (T : Tx K mg cl) : FOk P w K mg base (tb K cl) 1 "are_figures" f_are_figures 2 [] := by
  obtain ⟨f, fd, F, hm⟩ := T.d_are_figures
  exact ⟨⟨f, fd, ["text", "most"], [], _, ok_def (t := tb K cl) F sc_are_figures (fun cdv A outer s H0 E w0 hr => are_figures_body T hr), hm, F.kp, (F.bindsN fun _ _ _ _ _ _ us hl => match us, hl with | [_, _], _ => rfl), .nil, rfl⟩⟩
theorem sc_read_ratio : FnScope ["text", "size", "top", "stroke", "bottom"] ["text"] (defScope s_read_ratio) := ⟨rfl, rfl, rfl, by decide +kernel, rfl, by decide +kernel, by decide +kernel⟩
def k_read_ratio_1 : CS := (cSeq (cAsg (gN 1) (cIf (cTest (cBMg isStr startsD (cVar 2) (cCons (cC (.str "-")) cNil))) (cSl (cVar 2) (cPart (cC (.int 1))) cNo) (cVar 2)))
  (cSeq (cIfS (cOrT (cNotT (cTest (cCall f_are_figures 2 [] (cCons (cVar 1) (cCons (cC (.int 30)) cNil))))) (cTest (cBin eqD (cVar 2) (cC (.str "-0"))))) (cRaise 2) cSkip)
  (cSeq (cIfS (cTest (cBin eqD (cVar 3) (cC (.str "")))) (cRet (cMake 3 f_Ratio_init 2 [.int 1] (cCons (cCB intD (cCons (cVar 2) cNil)) cNil))) cSkip)
  (cSeq (cIfS (cOrT (cNotT (cTest (cCall f_are_figures 2 [] (cCons (cVar 4) (cCons (cC (.int 30)) cNil))))) (cTest (cBin eqD (cVar 4) (cC (.str "0"))))) (cRaise 2) cSkip)
  (cRet (cMake 3 f_Ratio_init 2 [] (cCons (cCB intD (cCons (cVar 2) cNil)) (cCons (cCB intD (cCons (cVar 4) cNil)) cNil))))))))
def c_read_ratio : CS :=
  (cSeq (cAsg (gAnyN [2, 3, 4]) (cBMg isStr partitionD (cVar 0) (cCons (cC (.str "/")) cNil)))
  k_read_ratio_1)
def f_read_ratio : FD := runDef c_read_ratio 5
theorem r_read_ratio {d0 : D} {ah : AH} : f_read_ratio [d0] ah = run1 (c_read_ratio [.val d0, .no, .no, .no, .no] ah) := (ev_run).trans rfl
theorem read_ratio_body (T : Tx K mg cl) {f : Addr} {cdv : Value} {A : Around} {outer : List Env} {s : Shared} {H0 : Hp} {E : XK} {w0 : Wd} (hr : Room 3 (A.deeper (envOfC "read_ratio" (defScope s_read_ratio) s.heap.objs.size f cdv))) :
    PSs (cxOf (L2.CX P w) P w K mg base ["text", "size", "top", "stroke", "bottom"] "read_ratio" (defScope s_read_ratio) f cdv A outer s H0 E) (defBody s_read_ratio) (tS (tb K cl) (fun cls d _ H => E cls d H) w0 ⟨H0, 0⟩ c_read_ratio) := by
  have hu := hr.units
  exact (z_cons (z_asg (tg_any [2, 3, 4]) (q_bm PySem.F.plainAttrs_str PySem.F.slot_str_partition PySem.F.type_str_partition mt_partition ty_str bs_partition (q_var 0) (qa_cons q_str qa_nil)) (pg_any rfl (pgs_names1 (i := 2) sc_read_ratio.nd (pgs_names1 (i := 3) sc_read_ratio.nd (pgs_names1 (i := 4) sc_read_ratio.nd pgs_names0)))))
    (z_cons (z_set 1 sc_read_ratio.nd (q_if (q_test (q_bm PySem.F.plainAttrs_str PySem.F.slot_str_startswith PySem.F.type_str_startswith mt_startswith ty_str bs_starts (q_var 2) (qa_cons q_str qa_nil))) (q_slice (q_var 2) (qo_some q_int) qo_none) (q_var 2)))
    (z_cons (z_if (PW.pt (q_orT (q_notT (q_test (q_callF (ok_are_figures T) (hr.mono (by decide)) (takes_of rfl rfl rfl rfl) (qa_cons (q_var 1) (qa_cons (q_globI T.g_MOST_FIGURES) qa_nil))))) (q_or1 (q_tcmp (op_eqA hu) bs_eq (q_var 2) q_str (nomark _))))) (z_one (z_raise 2 rfl (takes_of rfl rfl rfl rfl) PySem.F.excBase_ValueError T.x_NoRatio T.g_NoRatio T.k_NoRatio T.bs_NoRatio T.ty_NoRatio)) z_nil)
    (z_cons (z_if (q_tcmp (op_eqA hu) bs_eq (q_var 3) q_str (nomark _)) (z_one (z_ret (q_makeF 3 (ok_Ratio_init_1 T) (hr.mono (by decide)) (takes_of rfl rfl rfl rfl) (qa_cons (q_cty call_intA cs_int T.b_int (by decide +kernel) (qa_cons (q_var 2) qa_nil)) qa_nil)))) z_nil)
    (z_cons (z_if (PW.pt (q_orT (q_notT (q_test (q_callF (ok_are_figures T) (hr.mono (by decide)) (takes_of rfl rfl rfl rfl) (qa_cons (q_var 4) (qa_cons (q_globI T.g_MOST_FIGURES) qa_nil))))) (q_or1 (q_tcmp (op_eqA hu) bs_eq (q_var 4) q_str (nomark _))))) (z_one (z_raise 2 rfl (takes_of rfl rfl rfl rfl) PySem.F.excBase_ValueError T.x_NoRatio T.g_NoRatio T.k_NoRatio T.bs_NoRatio T.ty_NoRatio)) z_nil)
    (z_one (z_ret (q_makeF 3 (ok_Ratio_init T) (hr.mono (by decide)) (takes_of rfl rfl rfl rfl) (qa_cons (q_cty call_intA cs_int T.b_int (by decide +kernel) (qa_cons (q_var 2) qa_nil)) (qa_cons (q_cty call_intA cs_int T.b_int (by decide +kernel) (qa_cons (q_var 4) qa_nil)) qa_nil))))))))))
theorem ok_read_ratio (T : Tx K mg cl) : FOk P w K mg base (tb K cl) 4 "read_ratio" f_read_ratio 1 [] := by
  obtain ⟨f, fd, F, hm⟩ := T.d_read_ratio
  exact ⟨⟨f, fd, ["text"], [], _, ok_def (t := tb K cl) F sc_read_ratio (fun cdv A outer s H0 E w0 hr => read_ratio_body T hr), hm, F.kp, (F.bindsN fun _ _ _ _ _ _ us hl => match us, hl with | [_], _ => rfl), .nil, rfl⟩⟩
theorem sc_Ratio_text : FnScope ["self"] ["self"] (defScope s_Ratio_text) := ⟨rfl, rfl, rfl, by decide +kernel, rfl, by decide +kernel, by decide +kernel⟩
def c_Ratio_text : CS :=
  (cSeq (cIfS (cTest (cBin eqD (cFld fl "bottom" (cVar 0)) (cC (.int 1)))) (cRet (cCB strD (cCons (cFld fl "top" (cVar 0)) cNil))) cSkip)
  (cRet (cBin addD (cBin addD (cCB strD (cCons (cFld fl "top" (cVar 0)) cNil)) (cC (.str "/"))) (cCB strD (cCons (cFld fl "bottom" (cVar 0)) cNil)))))
def f_Ratio_text : FD := runDef c_Ratio_text 1
theorem r_Ratio_text {d0 : D} {ah : AH} : f_Ratio_text [d0] ah = run1 (c_Ratio_text [.val d0] ah) := (ev_run).trans rfl
theorem Ratio_text_body (T : Tx K mg cl) {f : Addr} {cdv : Value} {A : Around} {outer : List Env} {s : Shared} {H0 : Hp} {E : XK} {w0 : Wd} (hr : Room 0 (A.deeper (envOfC "Ratio.text" (defScope s_Ratio_text) s.heap.objs.size f cdv))) :
    PSs (cxOf (L2.CX P w) P w K mg base ["self"] "Ratio.text" (defScope s_Ratio_text) f cdv A outer s H0 E) (defBody s_Ratio_text) (tS (tb K cl) (fun cls d _ H => E cls d H) w0 ⟨H0, 0⟩ c_Ratio_text) := by
  have hu := hr.units
  exact (z_cons (z_if (q_tcmp (op_eqA hu) bs_eq (q_fld (fok_bottom T) (q_var 0)) q_int (nomark _)) (z_one (z_ret (q_cty call_strA cs_str T.b_str (by decide +kernel) (qa_cons (q_fld (fok_top T) (q_var 0)) qa_nil)))) z_nil)
    (z_one (z_ret (q_add (q_add (q_cty call_strA cs_str T.b_str (by decide +kernel) (qa_cons (q_fld (fok_top T) (q_var 0)) qa_nil)) q_str) (q_cty call_strA cs_str T.b_str (by decide +kernel) (qa_cons (q_fld (fok_bottom T) (q_var 0)) qa_nil))))))
theorem ok_Ratio_text (T : Tx K mg cl) : MtI P w K mg base (tb K cl) 1 3 "text" f_Ratio_text 1 := by
  obtain ⟨f, fd, F, hm⟩ := T.d_Ratio_text
  exact ⟨T.c_Ratio, (by decide +kernel : flIx (fl 3) "text" = none), ⟨f, fd, ["self"], hm, ok_def (t := tb K cl) F sc_Ratio_text (fun cdv A outer s H0 E w0 hr => Ratio_text_body T hr), (F.bindsN fun _ _ _ _ _ _ us hl => match us, hl with | [_], _ => rfl)⟩⟩
theorem sc_before : FnScope ["one", "other"] ["one", "other"] (defScope s_before) := ⟨rfl, rfl, rfl, by decide +kernel, rfl, by decide +kernel, by decide +kernel⟩
def c_before : CS :=
  (cRet (cBin ltD (cBin mulD (cFld fl "top" (cVar 0)) (cFld fl "bottom" (cVar 1))) (cBin mulD (cFld fl "top" (cVar 1)) (cFld fl "bottom" (cVar 0)))))
def f_before : FD := runDef c_before 2
theorem r_before {d0 d1 : D} {ah : AH} : f_before [d0, d1] ah = run1 (c_before [.val d0, .val d1] ah) := (ev_run).trans rfl
theorem before_body (T : Tx K mg cl) {f : Addr} {cdv : Value} {A : Around} {outer : List Env} {s : Shared} {H0 : Hp} {E : XK} {w0 : Wd} (hr : Room 0 (A.deeper (envOfC "before" (defScope s_before) s.heap.objs.size f cdv))) :
    PSs (cxOf (L2.CX P w) P w K mg base ["one", "other"] "before" (defScope s_before) f cdv A outer s H0 E) (defBody s_before) (tS (tb K cl) (fun cls d _ H => E cls d H) w0 ⟨H0, 0⟩ c_before) := by
  exact (z_one (z_ret (q_cmp op_lt bs_cmpI (q_mul (q_fld (fok_top T) (q_var 0)) (q_fld (fok_bottom T) (q_var 1))) (q_mul (q_fld (fok_top T) (q_var 1)) (q_fld (fok_bottom T) (q_var 0))) (nomark _))))
theorem ok_before (T : Tx K mg cl) : FOk P w K mg base (tb K cl) 1 "before" f_before 2 [] := by
  obtain ⟨f, fd, F, hm⟩ := T.d_before
  exact ⟨⟨f, fd, ["one", "other"], [], _, ok_def (t := tb K cl) F sc_before (fun cdv A outer s H0 E w0 hr => before_body T hr), hm, F.kp, (F.bindsN fun _ _ _ _ _ _ us hl => match us, hl with | [_, _], _ => rfl), .nil, rfl⟩⟩
theorem sc_Ratio_sign : FnScope ["self"] ["self"] (defScope s_Ratio_sign) := ⟨rfl, rfl, rfl, by decide +kernel, rfl, by decide +kernel, by decide +kernel⟩
def c_Ratio_sign : CS :=
  (cRet (cBin subD (cCB intD (cCons (cBin gtD (cFld fl "top" (cVar 0)) (cC (.int 0))) cNil)) (cCB intD (cCons (cBin ltD (cFld fl "top" (cVar 0)) (cC (.int 0))) cNil))))
def f_Ratio_sign : FD := runDef c_Ratio_sign 1
theorem r_Ratio_sign {d0 : D} {ah : AH} : f_Ratio_sign [d0] ah = run1 (c_Ratio_sign [.val d0] ah) := (ev_run).trans rfl
theorem Ratio_sign_body (T : Tx K mg cl) {f : Addr} {cdv : Value} {A : Around} {outer : List Env} {s : Shared} {H0 : Hp} {E : XK} {w0 : Wd} (hr : Room 0 (A.deeper (envOfC "Ratio.sign" (defScope s_Ratio_sign) s.heap.objs.size f cdv))) :
    PSs (cxOf (L2.CX P w) P w K mg base ["self"] "Ratio.sign" (defScope s_Ratio_sign) f cdv A outer s H0 E) (defBody s_Ratio_sign) (tS (tb K cl) (fun cls d _ H => E cls d H) w0 ⟨H0, 0⟩ c_Ratio_sign) := by
  exact (z_one (z_ret (q_sub (q_cty call_intA cs_int T.b_int (by decide +kernel) (qa_cons (q_cmp op_gt bs_cmpI (q_fld (fok_top T) (q_var 0)) q_int (nomark _)) qa_nil)) (q_cty call_intA cs_int T.b_int (by decide +kernel) (qa_cons (q_cmp op_lt bs_cmpI (q_fld (fok_top T) (q_var 0)) q_int (nomark _)) qa_nil)))))
theorem ok_Ratio_sign (T : Tx K mg cl) : MtI P w K mg base (tb K cl) 1 3 "sign" f_Ratio_sign 1 := by
  obtain ⟨f, fd, F, hm⟩ := T.d_Ratio_sign
  exact ⟨T.c_Ratio, (by decide +kernel : flIx (fl 3) "sign" = none), ⟨f, fd, ["self"], hm, ok_def (t := tb K cl) F sc_Ratio_sign (fun cdv A outer s H0 E w0 hr => Ratio_sign_body T hr), (F.bindsN fun _ _ _ _ _ _ us hl => match us, hl with | [_], _ => rfl)⟩⟩
theorem sc_Ratio_over : FnScope ["self", "other"] ["self", "other"] (defScope s_Ratio_over) := ⟨rfl, rfl, rfl, by decide +kernel, rfl, by decide +kernel, by decide +kernel⟩
def c_Ratio_over : CS :=
  (cRet (cMake 3 f_Ratio_init 2 [] (cCons (cBin mulD (cFld fl "top" (cVar 0)) (cFld fl "bottom" (cVar 1))) (cCons (cBin mulD (cFld fl "bottom" (cVar 0)) (cFld fl "top" (cVar 1))) cNil))))
def f_Ratio_over : FD := runDef c_Ratio_over 2
theorem r_Ratio_over {d0 d1 : D} {ah : AH} : f_Ratio_over [d0, d1] ah = run1 (c_Ratio_over [.val d0, .val d1] ah) := (ev_run).trans rfl
theorem Ratio_over_body (T : Tx K mg cl) {f : Addr} {cdv : Value} {A : Around} {outer : List Env} {s : Shared} {H0 : Hp} {E : XK} {w0 : Wd} (hr : Room 3 (A.deeper (envOfC "Ratio.over" (defScope s_Ratio_over) s.heap.objs.size f cdv))) :
    PSs (cxOf (L2.CX P w) P w K mg base ["self", "other"] "Ratio.over" (defScope s_Ratio_over) f cdv A outer s H0 E) (defBody s_Ratio_over) (tS (tb K cl) (fun cls d _ H => E cls d H) w0 ⟨H0, 0⟩ c_Ratio_over) := by
  exact (z_one (z_ret (q_makeF 3 (ok_Ratio_init T) (hr.mono (by decide)) (takes_of rfl rfl rfl rfl) (qa_cons (q_mul (q_fld (fok_top T) (q_var 0)) (q_fld (fok_bottom T) (q_var 1))) (qa_cons (q_mul (q_fld (fok_bottom T) (q_var 0)) (q_fld (fok_top T) (q_var 1))) qa_nil)))))
theorem ok_Ratio_over (T : Tx K mg cl) : MtI P w K mg base (tb K cl) 4 3 "over" f_Ratio_over 2 := by
  obtain ⟨f, fd, F, hm⟩ := T.d_Ratio_over
  exact ⟨T.c_Ratio, (by decide +kernel : flIx (fl 3) "over" = none), ⟨f, fd, ["self", "other"], hm, ok_def (t := tb K cl) F sc_Ratio_over (fun cdv A outer s H0 E w0 hr => Ratio_over_body T hr), (F.bindsN fun _ _ _ _ _ _ us hl => match us, hl with | [_, _], _ => rfl)⟩⟩
def mt_told : MtTab := fun c => if c = 3 then some (f_Ratio_told, 1) else none
theorem mt_told_ok (T : Tx K mg cl) : ∀ c F n, mt_told c = some (F, n) → ∃ j, j ≤ 1 ∧ MtI P w K mg base (tb K cl) j c "told" F n := by
  intro c F n h
  unfold mt_told at h
  split at h
  · rename_i e; subst e; cases h; exact ⟨1, by decide, ok_Ratio_told T⟩
  cases h
def mt_times : MtTab := fun c => if c = 3 then some (f_Ratio_times, 2) else none
theorem mt_times_ok (T : Tx K mg cl) : ∀ c F n, mt_times c = some (F, n) → ∃ j, j ≤ 4 ∧ MtI P w K mg base (tb K cl) j c "times" F n := by
  intro c F n h
  unfold mt_times at h
  split at h
  · rename_i e; subst e; cases h; exact ⟨4, by decide, ok_Ratio_times T⟩
  cases h
def mt_minus : MtTab := fun c => if c = 3 then some (f_Ratio_minus, 2) else none
theorem mt_minus_ok (T : Tx K mg cl) : ∀ c F n, mt_minus c = some (F, n) → ∃ j, j ≤ 5 ∧ MtI P w K mg base (tb K cl) j c "minus" F n := by
  intro c F n h
  unfold mt_minus at h
  split at h
  · rename_i e; subst e; cases h; exact ⟨5, by decide, ok_Ratio_minus T⟩
  cases h
def mt_rest : MtTab := fun c => if c = 3 then some (f_Ratio_rest, 1) else none
theorem mt_rest_ok (T : Tx K mg cl) : ∀ c F n, mt_rest c = some (F, n) → ∃ j, j ≤ 4 ∧ MtI P w K mg base (tb K cl) j c "rest" F n := by
  intro c F n h
  unfold mt_rest at h
  split at h
  · rename_i e; subst e; cases h; exact ⟨4, by decide, ok_Ratio_rest T⟩
  cases h
def mt_floor : MtTab := fun c => if c = 3 then some (f_Ratio_floor, 1) else none
theorem mt_floor_ok (T : Tx K mg cl) : ∀ c F n, mt_floor c = some (F, n) → ∃ j, j ≤ 1 ∧ MtI P w K mg base (tb K cl) j c "floor" F n := by
  intro c F n h
  unfold mt_floor at h
  split at h
  · rename_i e; subst e; cases h; exact ⟨1, by decide, ok_Ratio_floor T⟩
  cases h
def mt_text : MtTab := fun c => if c = 3 then some (f_Ratio_text, 1) else none
theorem mt_text_ok (T : Tx K mg cl) : ∀ c F n, mt_text c = some (F, n) → ∃ j, j ≤ 1 ∧ MtI P w K mg base (tb K cl) j c "text" F n := by
  intro c F n h
  unfold mt_text at h
  split at h
  · rename_i e; subst e; cases h; exact ⟨1, by decide, ok_Ratio_text T⟩
  cases h
def mt_sign : MtTab := fun c => if c = 3 then some (f_Ratio_sign, 1) else none
theorem mt_sign_ok (T : Tx K mg cl) : ∀ c F n, mt_sign c = some (F, n) → ∃ j, j ≤ 1 ∧ MtI P w K mg base (tb K cl) j c "sign" F n := by
  intro c F n h
  unfold mt_sign at h
  split at h
  · rename_i e; subst e; cases h; exact ⟨1, by decide, ok_Ratio_sign T⟩
  cases h
def mt_over : MtTab := fun c => if c = 3 then some (f_Ratio_over, 2) else none
theorem mt_over_ok (T : Tx K mg cl) : ∀ c F n, mt_over c = some (F, n) → ∃ j, j ≤ 4 ∧ MtI P w K mg base (tb K cl) j c "over" F n := by
  intro c F n h
  unfold mt_over at h
  split at h
  · rename_i e; subst e; cases h; exact ⟨4, by decide, ok_Ratio_over T⟩
  cases h
theorem sc_l_three : FnScope ["_law_one", "_law_two", "_law_three_here", "_law_shared"] ["_law_one", "_law_two", "_law_three_here"] (defScope s_l_three) := ⟨rfl, rfl, rfl, by decide +kernel, rfl, by decide +kernel, by decide +kernel⟩
def c_l_three : CS :=
  (cSeq (cIfS (cTest (cBin neD (cMeth mt_told (cMeth mt_plus (cVar 0) (cCons (cVar 1) cNil)) cNil) (cMeth mt_told (cMeth mt_plus (cVar 1) (cCons (cVar 0) cNil)) cNil))) (cRet (cC (.bl false))) cSkip)
  (cSeq (cIfS (cTest (cBin neD (cMeth mt_told (cMeth mt_times (cVar 0) (cCons (cVar 1) cNil)) cNil) (cMeth mt_told (cMeth mt_times (cVar 1) (cCons (cVar 0) cNil)) cNil))) (cRet (cC (.bl false))) cSkip)
  (cSeq (cIfS (cTest (cBin neD (cMeth mt_told (cMeth mt_plus (cMeth mt_plus (cVar 0) (cCons (cVar 1) cNil)) (cCons (cVar 2) cNil)) cNil) (cMeth mt_told (cMeth mt_plus (cVar 0) (cCons (cMeth mt_plus (cVar 1) (cCons (cVar 2) cNil)) cNil)) cNil))) (cRet (cC (.bl false))) cSkip)
  (cSeq (cIfS (cTest (cBin neD (cMeth mt_told (cMeth mt_times (cMeth mt_times (cVar 0) (cCons (cVar 1) cNil)) (cCons (cVar 2) cNil)) cNil) (cMeth mt_told (cMeth mt_times (cVar 0) (cCons (cMeth mt_times (cVar 1) (cCons (cVar 2) cNil)) cNil)) cNil))) (cRet (cC (.bl false))) cSkip)
  (cSeq (cAsg (gN 3) (cMeth mt_plus (cMeth mt_times (cVar 0) (cCons (cVar 1) cNil)) (cCons (cMeth mt_times (cVar 0) (cCons (cVar 2) cNil)) cNil)))
  (cSeq (cIfS (cTest (cBin neD (cMeth mt_told (cMeth mt_times (cVar 0) (cCons (cMeth mt_plus (cVar 1) (cCons (cVar 2) cNil)) cNil)) cNil) (cMeth mt_told (cVar 3) cNil))) (cRet (cC (.bl false))) cSkip)
  (cSeq (cIfS (cTest (cBin neD (cMeth mt_told (cMeth mt_minus (cMeth mt_plus (cVar 0) (cCons (cVar 1) cNil)) (cCons (cVar 1) cNil)) cNil) (cMeth mt_told (cVar 0) cNil))) (cRet (cC (.bl false))) cSkip)
  (cSeq (cIfS (cOrT (cTest (cBin neD (cMeth mt_told (cMeth mt_plus (cMeth mt_rest (cVar 0) cNil) (cCons (cMake 3 f_Ratio_init 2 [.int 1] (cCons (cMeth mt_floor (cVar 0) cNil) cNil)) cNil)) cNil) (cMeth mt_told (cVar 0) cNil))) (cTest (cBin neD (cMeth mt_floor (cMeth mt_rest (cVar 0) cNil) cNil) (cC (.int 0))))) (cRet (cC (.bl false))) cSkip)
  (cSeq (cIfS (cTest (cBin neD (cMeth mt_told (cCall f_read_ratio 1 [] (cCons (cMeth mt_text (cVar 0) cNil) cNil)) cNil) (cMeth mt_told (cVar 0) cNil))) (cRet (cC (.bl false))) cSkip)
  (cSeq (cIfS (cTest (cBin neD (cCall f_before 2 [] (cCons (cVar 0) (cCons (cVar 1) cNil))) (cCall f_before 2 [] (cCons (cMeth mt_plus (cVar 0) (cCons (cVar 2) cNil)) (cCons (cMeth mt_plus (cVar 1) (cCons (cVar 2) cNil)) cNil))))) (cRet (cC (.bl false))) cSkip)
  (cRet (cOr (cBin eqD (cMeth mt_sign (cVar 1) cNil) (cC (.int 0))) (cBin eqD (cMeth mt_told (cMeth mt_over (cMeth mt_times (cVar 0) (cCons (cVar 1) cNil)) (cCons (cVar 1) cNil)) cNil) (cMeth mt_told (cVar 0) cNil))))))))))))))
def f_l_three : FD := runDef c_l_three 4
theorem r_l_three {d0 d1 d2 : D} {ah : AH} : f_l_three [d0, d1, d2] ah = run1 (c_l_three [.val d0, .val d1, .val d2, .no] ah) := (ev_run).trans rfl
theorem l_three_body (T : Tx K mg cl) {f : Addr} {cdv : Value} {A : Around} {outer : List Env} {s : Shared} {H0 : Hp} {E : XK} {w0 : Wd} (hr : Room 5 (A.deeper (envOfC "_law_three" (defScope s_l_three) s.heap.objs.size f cdv))) :
    PSs (cxOf (L2.CX P w) P w K mg base ["_law_one", "_law_two", "_law_three_here", "_law_shared"] "_law_three" (defScope s_l_three) f cdv A outer s H0 E) (defBody s_l_three) (tS (tb K cl) (fun cls d _ H => E cls d H) w0 ⟨H0, 0⟩ c_l_three) := by
  have hu := hr.units
  exact (z_cons (z_if (q_tcmp (op_neA hu) bs_ne (q_meth0 (mt_told_ok T) (hr.mono (by decide)) (takes_of rfl rfl rfl rfl) (q_meth (mt_plus_ok T) (hr.mono (by decide)) (takes_of rfl rfl rfl rfl) (q_var 0) (qa_cons (q_var 1) qa_nil))) (q_meth0 (mt_told_ok T) (hr.mono (by decide)) (takes_of rfl rfl rfl rfl) (q_meth (mt_plus_ok T) (hr.mono (by decide)) (takes_of rfl rfl rfl rfl) (q_var 1) (qa_cons (q_var 0) qa_nil))) (nomark _)) (z_one (z_ret q_bl)) z_nil)
    (z_cons (z_if (q_tcmp (op_neA hu) bs_ne (q_meth0 (mt_told_ok T) (hr.mono (by decide)) (takes_of rfl rfl rfl rfl) (q_meth (mt_times_ok T) (hr.mono (by decide)) (takes_of rfl rfl rfl rfl) (q_var 0) (qa_cons (q_var 1) qa_nil))) (q_meth0 (mt_told_ok T) (hr.mono (by decide)) (takes_of rfl rfl rfl rfl) (q_meth (mt_times_ok T) (hr.mono (by decide)) (takes_of rfl rfl rfl rfl) (q_var 1) (qa_cons (q_var 0) qa_nil))) (nomark _)) (z_one (z_ret q_bl)) z_nil)
    (z_cons (z_if (q_tcmp (op_neA hu) bs_ne (q_meth0 (mt_told_ok T) (hr.mono (by decide)) (takes_of rfl rfl rfl rfl) (q_meth (mt_plus_ok T) (hr.mono (by decide)) (takes_of rfl rfl rfl rfl) (q_meth (mt_plus_ok T) (hr.mono (by decide)) (takes_of rfl rfl rfl rfl) (q_var 0) (qa_cons (q_var 1) qa_nil)) (qa_cons (q_var 2) qa_nil))) (q_meth0 (mt_told_ok T) (hr.mono (by decide)) (takes_of rfl rfl rfl rfl) (q_meth (mt_plus_ok T) (hr.mono (by decide)) (takes_of rfl rfl rfl rfl) (q_var 0) (qa_cons (q_meth (mt_plus_ok T) (hr.mono (by decide)) (takes_of rfl rfl rfl rfl) (q_var 1) (qa_cons (q_var 2) qa_nil)) qa_nil))) (nomark _)) (z_one (z_ret q_bl)) z_nil)
    (z_cons (z_if (q_tcmp (op_neA hu) bs_ne (q_meth0 (mt_told_ok T) (hr.mono (by decide)) (takes_of rfl rfl rfl rfl) (q_meth (mt_times_ok T) (hr.mono (by decide)) (takes_of rfl rfl rfl rfl) (q_meth (mt_times_ok T) (hr.mono (by decide)) (takes_of rfl rfl rfl rfl) (q_var 0) (qa_cons (q_var 1) qa_nil)) (qa_cons (q_var 2) qa_nil))) (q_meth0 (mt_told_ok T) (hr.mono (by decide)) (takes_of rfl rfl rfl rfl) (q_meth (mt_times_ok T) (hr.mono (by decide)) (takes_of rfl rfl rfl rfl) (q_var 0) (qa_cons (q_meth (mt_times_ok T) (hr.mono (by decide)) (takes_of rfl rfl rfl rfl) (q_var 1) (qa_cons (q_var 2) qa_nil)) qa_nil))) (nomark _)) (z_one (z_ret q_bl)) z_nil)
    (z_cons (z_set 3 sc_l_three.nd (q_meth (mt_plus_ok T) (hr.mono (by decide)) (takes_of rfl rfl rfl rfl) (q_meth (mt_times_ok T) (hr.mono (by decide)) (takes_of rfl rfl rfl rfl) (q_var 0) (qa_cons (q_var 1) qa_nil)) (qa_cons (q_meth (mt_times_ok T) (hr.mono (by decide)) (takes_of rfl rfl rfl rfl) (q_var 0) (qa_cons (q_var 2) qa_nil)) qa_nil)))
    (z_cons (z_if (q_tcmp (op_neA hu) bs_ne (q_meth0 (mt_told_ok T) (hr.mono (by decide)) (takes_of rfl rfl rfl rfl) (q_meth (mt_times_ok T) (hr.mono (by decide)) (takes_of rfl rfl rfl rfl) (q_var 0) (qa_cons (q_meth (mt_plus_ok T) (hr.mono (by decide)) (takes_of rfl rfl rfl rfl) (q_var 1) (qa_cons (q_var 2) qa_nil)) qa_nil))) (q_meth0 (mt_told_ok T) (hr.mono (by decide)) (takes_of rfl rfl rfl rfl) (q_var 3)) (nomark _)) (z_one (z_ret q_bl)) z_nil)
    (z_cons (z_if (q_tcmp (op_neA hu) bs_ne (q_meth0 (mt_told_ok T) (hr.mono (by decide)) (takes_of rfl rfl rfl rfl) (q_meth (mt_minus_ok T) (hr.mono (by decide)) (takes_of rfl rfl rfl rfl) (q_meth (mt_plus_ok T) (hr.mono (by decide)) (takes_of rfl rfl rfl rfl) (q_var 0) (qa_cons (q_var 1) qa_nil)) (qa_cons (q_var 1) qa_nil))) (q_meth0 (mt_told_ok T) (hr.mono (by decide)) (takes_of rfl rfl rfl rfl) (q_var 0)) (nomark _)) (z_one (z_ret q_bl)) z_nil)
    (z_cons (z_if (PW.pt (q_orT (q_tcmp (op_neA hu) bs_ne (q_meth0 (mt_told_ok T) (hr.mono (by decide)) (takes_of rfl rfl rfl rfl) (q_meth (mt_plus_ok T) (hr.mono (by decide)) (takes_of rfl rfl rfl rfl) (q_meth0 (mt_rest_ok T) (hr.mono (by decide)) (takes_of rfl rfl rfl rfl) (q_var 0)) (qa_cons (q_makeF 3 (ok_Ratio_init_1 T) (hr.mono (by decide)) (takes_of rfl rfl rfl rfl) (qa_cons (q_meth0 (mt_floor_ok T) (hr.mono (by decide)) (takes_of rfl rfl rfl rfl) (q_var 0)) qa_nil)) qa_nil))) (q_meth0 (mt_told_ok T) (hr.mono (by decide)) (takes_of rfl rfl rfl rfl) (q_var 0)) (nomark _)) (q_or1 (q_tcmp (op_neA hu) bs_ne (q_meth0 (mt_floor_ok T) (hr.mono (by decide)) (takes_of rfl rfl rfl rfl) (q_meth0 (mt_rest_ok T) (hr.mono (by decide)) (takes_of rfl rfl rfl rfl) (q_var 0))) q_int (nomark _))))) (z_one (z_ret q_bl)) z_nil)
    (z_cons (z_if (q_tcmp (op_neA hu) bs_ne (q_meth0 (mt_told_ok T) (hr.mono (by decide)) (takes_of rfl rfl rfl rfl) (q_callF (ok_read_ratio T) (hr.mono (by decide)) (takes_of rfl rfl rfl rfl) (qa_cons (q_meth0 (mt_text_ok T) (hr.mono (by decide)) (takes_of rfl rfl rfl rfl) (q_var 0)) qa_nil))) (q_meth0 (mt_told_ok T) (hr.mono (by decide)) (takes_of rfl rfl rfl rfl) (q_var 0)) (nomark _)) (z_one (z_ret q_bl)) z_nil)
    (z_cons (z_if (q_tcmp (op_neA hu) bs_ne (q_callF (ok_before T) (hr.mono (by decide)) (takes_of rfl rfl rfl rfl) (qa_cons (q_var 0) (qa_cons (q_var 1) qa_nil))) (q_callF (ok_before T) (hr.mono (by decide)) (takes_of rfl rfl rfl rfl) (qa_cons (q_meth (mt_plus_ok T) (hr.mono (by decide)) (takes_of rfl rfl rfl rfl) (q_var 0) (qa_cons (q_var 2) qa_nil)) (qa_cons (q_meth (mt_plus_ok T) (hr.mono (by decide)) (takes_of rfl rfl rfl rfl) (q_var 1) (qa_cons (q_var 2) qa_nil)) qa_nil))) (nomark _)) (z_one (z_ret q_bl)) z_nil)
    (z_one (z_ret (q_or (q_cmp (op_eqA hu) bs_eq (q_meth0 (mt_sign_ok T) (hr.mono (by decide)) (takes_of rfl rfl rfl rfl) (q_var 1)) q_int (nomark _)) (q_one (q_cmp (op_eqA hu) bs_eq (q_meth0 (mt_told_ok T) (hr.mono (by decide)) (takes_of rfl rfl rfl rfl) (q_meth (mt_over_ok T) (hr.mono (by decide)) (takes_of rfl rfl rfl rfl) (q_meth (mt_times_ok T) (hr.mono (by decide)) (takes_of rfl rfl rfl rfl) (q_var 0) (qa_cons (q_var 1) qa_nil)) (qa_cons (q_var 1) qa_nil))) (q_meth0 (mt_told_ok T) (hr.mono (by decide)) (takes_of rfl rfl rfl rfl) (q_var 0)) (nomark _))))))))))))))))
theorem ok_l_three (T : Tx K mg cl) : FOk P w K mg base (tb K cl) 6 "_law_three" f_l_three 3 [] := by
  obtain ⟨f, fd, F, hm⟩ := T.d_l_three
  exact ⟨⟨f, fd, ["_law_one", "_law_two", "_law_three_here"], [], _, ok_def (t := tb K cl) F sc_l_three (fun cdv A outer s H0 E w0 hr => l_three_body T hr), hm, F.kp, (F.bindsN fun _ _ _ _ _ _ us hl => match us, hl with | [_, _, _], _ => rfl), .nil, rfl⟩⟩
theorem sc_law : FnScope ["_law_script", "_law_pairs", "_law_numbers", "_law_total", "_law_back", "_law_due", "_law_k", "_law_pair_here", "_law_great_here", "_law_cell"] ["_law_script"] (defScope s_law) := ⟨rfl, rfl, rfl, by decide +kernel, rfl, by decide +kernel, by decide +kernel⟩
def te_law_1 : CE := (cCall f_l_small 1 [] (cCons (cCall f_l_mixed 2 [] (cCons (cVar 9) (cCons (cBin addD (cC (.int 450)) (cVar 6)) cNil))) cNil))
def te_law_2 : CE := (cMake 3 f_Ratio_init 2 [] (cCons (cBin idxD (cVar 7) (cC (.int 0))) (cCons (cBin idxD (cVar 7) (cC (.int 1))) cNil)))
def b_law_1 : CS := (cSeq (cAsg (gN 3) (cMeth mt_plus (cVar 3) (cCons (cBin idxD (cVar 2) (cVar 6)) cNil)))
  (cSeq (cAsg (gN 4) (cMeth mt_plus (cBin idxD (cVar 2) (cBin subD (cUn negD (cC (.int 1))) (cVar 6))) (cCons (cVar 4) cNil)))
  (cAsg (gN 5) (cCall f_l_sum 2 [] (cCons (cVar 5) (cCons (cBin idxD (cVar 1) (cVar 6)) cNil))))))
def b_law_2 : CS := (cSeq (cAsg (gN 7) (cCall f_l_pair 1 [] (cCons (cCall f_l_mixed 2 [] (cCons (cCall f_l_cell_at 2 [] (cCons (cVar 0) (cCons (cVar 6) cNil))) (cCons (cC (.int 500)) cNil))) cNil)))
  (cSeq (cAsg (gN 8) (cMake 3 f_Ratio_init 2 [] (cCons (cBin idxD (cVar 7) (cC (.int 0))) (cCons (cBin idxD (cVar 7) (cC (.int 1))) cNil))))
  (cSeq (cIfS (cNotT (cTest (cCall f_l_three 3 [] (cCons (cBin idxD (cVar 2) (cVar 6)) (cCons (cBin idxD (cVar 2) (cBin subD (cUn negD (cC (.int 1))) (cVar 6))) (cCons (cVar 8) cNil)))))) (cRet (cC (.bl false))) cSkip)
  (cIfS (cNotT (cTest (cCall f_l_three 3 [] (cCons (cVar 8) (cCons (cBin idxD (cVar 2) (cVar 6)) (cCons (cBin idxD (cVar 2) (cBin subD (cUn negD (cC (.int 1))) (cVar 6))) cNil)))))) (cRet (cC (.bl false))) cSkip))))
def c_law : CS :=
  (cSeq (cAsg (gN 1) (cLc (itEnum (cCons (cSl (cBin addD (cLst (cCons (cC (.int 7)) cNil)) (cCB listD (cCons (cVar 0) cNil))) cNo (cPart (cC (.int 200)))) cNil)) [6, 9] (gTupN [6, 9]) cYes te_law_1))
  (cSeq (cAsg (gN 2) (cLc (itAny (cVar 1)) [7] (gN 7) cYes te_law_2))
  (cSeq (cAsg (gN 3) (cMake 3 f_Ratio_init 2 [.int 1] (cCons (cC (.int 0)) cNil)))
  (cSeq (cAsg (gN 4) (cMake 3 f_Ratio_init 2 [] (cCons (cC (.int 0)) (cCons (cC (.int 5)) cNil))))
  (cSeq (cAsg (gN 5) (cTup (cCons (cC (.int 0)) (cCons (cC (.int 1)) cNil))))
  (cSeq (cFor (itRng1 (cCons (cCB lenD (cCons (cVar 2) cNil)) cNil)) (gN 6) b_law_1)
  (cSeq (cIfS (cOrT (cTest (cBin neD (cMeth mt_told (cVar 3) cNil) (cVar 5))) (cTest (cBin neD (cMeth mt_told (cVar 4) cNil) (cVar 5)))) (cRet (cC (.bl false))) cSkip)
  (cSeq (cFor (itRng1 (cCons (cCB min2D (cCons (cC (.int 20)) (cCons (cCB lenD (cCons (cVar 2) cNil)) cNil))) cNil)) (gN 6) b_law_2)
  (cRet (cC (.bl true)))))))))))
def f_law : FD := runDef c_law 10
theorem r_law {d0 : D} {ah : AH} : f_law [d0] ah = run1 (c_law [.val d0, .no, .no, .no, .no, .no, .no, .no, .no, .no] ah) := (ev_run).trans rfl
theorem law_body (T : Tx K mg cl) {f : Addr} {cdv : Value} {A : Around} {outer : List Env} {s : Shared} {H0 : Hp} {E : XK} {w0 : Wd} (hr : Room 6 (A.deeper (envOfC "law" (defScope s_law) s.heap.objs.size f cdv))) :
    PSs (cxOf (L2.CX P w) P w K mg base ["_law_script", "_law_pairs", "_law_numbers", "_law_total", "_law_back", "_law_due", "_law_k", "_law_pair_here", "_law_great_here", "_law_cell"] "law" (defScope s_law) f cdv A outer s H0 E) (defBody s_law) (tS (tb K cl) (fun cls d _ H => E cls d H) w0 ⟨H0, 0⟩ c_law) := by
  have hu := hr.units
  exact (z_cons (z_setLc 1 (own := [("_law_k", 6), ("_law_cell", 9)]) rfl sc_law.nd (tg_tup [6, 9]) (i_enum T.b_enumerate (qa_cons (q_slice (q_add (q_lst (qa_cons q_int qa_nil)) (q_cty call_list_of cs_list T.b_list (by decide +kernel) (qa_cons (q_var 0) qa_nil))) qo_none (qo_some q_int)) qa_nil)) (blkOk_by (N := ["_law_script", "_law_pairs", "_law_numbers", "_law_total", "_law_back", "_law_due", "_law_k", "_law_pair_here", "_law_great_here", "_law_cell"]) (sc := defScope s_law) (by decide +kernel)) (by decide) (fun _ _ _ _ _ => (pg_tup rfl (pgs_names1 (i := 6) sc_law.nd (pgs_names1 (i := 9) sc_law.nd pgs_names0)))) (fun _ _ _ _ _ => qs_nil) (fun _ _ _ _ _ => (q_callF (ok_l_small T) (hr.mono (by decide)) takes0 (qa_cons (q_callF (ok_l_mixed T) (hr.mono (by decide)) takes0 (qa_cons (q_var 9) (qa_cons (q_add q_int (q_var 6)) qa_nil))) qa_nil))) (sw_true rfl rfl rfl (by decide +kernel)))
    (z_cons (z_setLc 2 (own := [("_law_pair_here", 7)]) rfl sc_law.nd (tg_name 7) (i_any (q_var 1)) (blkOk_by (N := ["_law_script", "_law_pairs", "_law_numbers", "_law_total", "_law_back", "_law_due", "_law_k", "_law_pair_here", "_law_great_here", "_law_cell"]) (sc := defScope s_law) (by decide +kernel)) (by decide) (fun _ _ _ _ _ => (pg_name (i := 7) sc_law.nd rfl (by first | exact Or.inl rfl | exact Or.inr rfl))) (fun _ _ _ _ _ => qs_nil) (fun _ _ _ _ _ => (q_makeF 3 (ok_Ratio_init T) (hr.mono (by decide)) takes0 (qa_cons (q_idx (q_var 7) q_int) (qa_cons (q_idx (q_var 7) q_int) qa_nil)))) (sw_true rfl rfl rfl (by decide +kernel)))
    (z_cons (z_set 3 sc_law.nd (q_makeF 3 (ok_Ratio_init_1 T) (hr.mono (by decide)) (takes_of rfl rfl rfl rfl) (qa_cons q_int qa_nil)))
    (z_cons (z_set 4 sc_law.nd (q_makeF 3 (ok_Ratio_init T) (hr.mono (by decide)) (takes_of rfl rfl rfl rfl) (qa_cons q_int (qa_cons q_int qa_nil))))
    (z_cons (z_set 5 sc_law.nd (q_tup (qa_cons q_int (qa_cons q_int qa_nil))))
    (z_cons (z_for (passes_of rfl) rfl (tg_name 6) (i_rng1 T.b_range (qa_cons (q_cb call_len cs_len T.b_len (by decide +kernel) (qa_cons (q_var 2) qa_nil)) qa_nil)) (pg_name (i := 6) sc_law.nd rfl (by first | exact Or.inl rfl | exact Or.inr rfl)) (z_cons (z_set 3 sc_law.nd (q_meth (mt_plus_ok T) (hr.mono (by decide)) (takes_of rfl rfl rfl rfl) (q_var 3) (qa_cons (q_idx (q_var 2) (q_var 6)) qa_nil)))
    (z_cons (z_set 4 sc_law.nd (q_meth (mt_plus_ok T) (hr.mono (by decide)) (takes_of rfl rfl rfl rfl) (q_idx (q_var 2) (q_sub (q_neg q_int) (q_var 6))) (qa_cons (q_var 4) qa_nil)))
    (z_one (z_set 5 sc_law.nd (q_callF (ok_l_sum T) (hr.mono (by decide)) (takes_of rfl rfl rfl rfl) (qa_cons (q_var 5) (qa_cons (q_idx (q_var 1) (q_var 6)) qa_nil))))))))
    (z_cons (z_if (PW.pt (q_orT (q_tcmp (op_neA hu) bs_ne (q_meth0 (mt_told_ok T) (hr.mono (by decide)) (takes_of rfl rfl rfl rfl) (q_var 3)) (q_var 5) (nomark _)) (q_or1 (q_tcmp (op_neA hu) bs_ne (q_meth0 (mt_told_ok T) (hr.mono (by decide)) (takes_of rfl rfl rfl rfl) (q_var 4)) (q_var 5) (nomark _))))) (z_one (z_ret q_bl)) z_nil)
    (z_cons (z_for (passes_of rfl) rfl (tg_name 6) (i_rng1 T.b_range (qa_cons (q_cb (call_min2 rfl) cs_min2 T.b_min (by decide +kernel) (qa_cons q_int (qa_cons (q_cb call_len cs_len T.b_len (by decide +kernel) (qa_cons (q_var 2) qa_nil)) qa_nil))) qa_nil)) (pg_name (i := 6) sc_law.nd rfl (by first | exact Or.inl rfl | exact Or.inr rfl)) (z_cons (z_set 7 sc_law.nd (q_callF (ok_l_pair T) (hr.mono (by decide)) (takes_of rfl rfl rfl rfl) (qa_cons (q_callF (ok_l_mixed T) (hr.mono (by decide)) (takes_of rfl rfl rfl rfl) (qa_cons (q_callF (ok_l_cell_at T) (hr.mono (by decide)) (takes_of rfl rfl rfl rfl) (qa_cons (q_var 0) (qa_cons (q_var 6) qa_nil))) (qa_cons q_int qa_nil))) qa_nil)))
    (z_cons (z_set 8 sc_law.nd (q_makeF 3 (ok_Ratio_init T) (hr.mono (by decide)) (takes_of rfl rfl rfl rfl) (qa_cons (q_idx (q_var 7) q_int) (qa_cons (q_idx (q_var 7) q_int) qa_nil))))
    (z_cons (z_if (q_notT (q_test (q_callF (ok_l_three T) (hr.mono (by decide)) (takes_of rfl rfl rfl rfl) (qa_cons (q_idx (q_var 2) (q_var 6)) (qa_cons (q_idx (q_var 2) (q_sub (q_neg q_int) (q_var 6))) (qa_cons (q_var 8) qa_nil)))))) (z_one (z_ret q_bl)) z_nil)
    (z_one (z_if (q_notT (q_test (q_callF (ok_l_three T) (hr.mono (by decide)) (takes_of rfl rfl rfl rfl) (qa_cons (q_var 8) (qa_cons (q_idx (q_var 2) (q_var 6)) (qa_cons (q_idx (q_var 2) (q_sub (q_neg q_int) (q_var 6))) qa_nil)))))) (z_one (z_ret q_bl)) z_nil))))))
    (z_one (z_ret q_bl))))))))))
theorem ok_law (T : Tx K mg cl) : FOk P w K mg base (tb K cl) 7 "law" f_law 1 [] := by
  obtain ⟨f, fd, F, hm⟩ := T.d_law
  exact ⟨⟨f, fd, ["_law_script"], [], _, ok_def (t := tb K cl) F sc_law (fun cdv A outer s H0 E w0 hr => law_body T hr), hm, F.kp, (F.bindsN fun _ _ _ _ _ _ us hl => match us, hl with | [_], _ => rfl), .nil, rfl⟩⟩
end
end Y
end
/-! Fractions: what the program's lowest terms are among Lean's Rat; sizes. -/
namespace G
/-- the sign of what is below, on the common divisor -/
def sgn (t b : Int) : Int := if b < 0 then -(Int.gcd t b : Int) else Int.gcd t b
theorem sgn_ne {t b : Int} (h : b ≠ 0) : sgn t b ≠ 0 := by
  have := Int.gcd_pos_of_ne_zero_right t h
  unfold sgn
  split <;> omega
theorem fdiv_key {x g k : Int} (h : g ≠ 0) (e : x = g * k) : x.fdiv g = k := by
  rw [e, Int.mul_comm]
  exact Int.mul_fdiv_cancel k h
theorem ediv_key {x g k : Int} (h : g ≠ 0) (e : x = g * k) : x / g = k := by
  rw [e]
  exact Int.mul_ediv_cancel_left k h
theorem q_num {t b : Int} (h : b ≠ 0) : t.fdiv (sgn t b) = (Rat.divInt t b).num := by
  have hg := Int.gcd_pos_of_ne_zero_right t h
  obtain ⟨k, hk⟩ := Int.gcd_dvd_left t b
  rw [Rat.num_divInt, Int.gcd_comm b t]
  unfold sgn
  have hg2 : (Int.gcd t b : Int) ≠ 0 := by omega
  generalize (Int.gcd t b : Int) = g at *
  by_cases hb : b < 0
  · rw [if_pos hb, Int.sign_eq_neg_one_of_neg hb, fdiv_key (k := -k) (by omega) (by rw [Int.neg_mul_neg]; exact hk)]
    exact (ediv_key hg2 (by rw [Int.mul_neg, ← hk, Int.neg_mul, Int.one_mul])).symm
  · rw [if_neg hb, Int.sign_eq_one_of_pos (by omega), Int.one_mul, fdiv_key hg2 hk, ediv_key hg2 hk]
theorem q_den {t b : Int} (h : b ≠ 0) : b.fdiv (sgn t b) = ((Rat.divInt t b).den : Int) := by
  have hg := Int.gcd_pos_of_ne_zero_right t h
  obtain ⟨k, hk⟩ := Int.gcd_dvd_right t b
  rw [Rat.den_divInt, if_neg h, Int.gcd_comm b t, Int.natCast_ediv]
  unfold sgn
  have hg2 : (Int.gcd t b : Int) ≠ 0 := by omega
  generalize (Int.gcd t b : Int) = g at *
  by_cases hb : b < 0
  · have e0 : ((b.natAbs : Nat) : Int) = -b := by omega
    rw [if_pos hb, e0, fdiv_key (k := -k) (by omega) (by rw [Int.neg_mul_neg]; exact hk)]
    exact (ediv_key hg2 (by rw [Int.mul_neg, ← hk])).symm
  · have e0 : ((b.natAbs : Nat) : Int) = b := by omega
    rw [if_neg hb, e0, fdiv_key hg2 hk, ediv_key hg2 hk]
/-- a fraction of at most n bits above and below -/
def Sz (n : Nat) (q : Rat) : Prop := q.num.natAbs < 2 ^ n ∧ q.den < 2 ^ n
theorem Sz.mono {m n : Nat} {q : Rat} (h : Sz m q) (k : m ≤ n) : Sz n q := ⟨Nat.lt_of_lt_of_le h.1 (Nat.pow_le_pow_right (by decide) k), Nat.lt_of_lt_of_le h.2 (Nat.pow_le_pow_right (by decide) k)⟩
theorem natAbs_fdiv_le {t s : Int} (h : s ≠ 0) (hd : s ∣ t) : (t.fdiv s).natAbs ≤ t.natAbs := by
  obtain ⟨k, rfl⟩ := hd
  rw [Int.mul_comm, Int.mul_fdiv_cancel k h, Int.natAbs_mul]
  exact Nat.le_mul_of_pos_right _ (by omega)
theorem sgn_dvd (t b : Int) : sgn t b ∣ t ∧ sgn t b ∣ b := by
  unfold sgn
  split
  · exact ⟨(Int.neg_dvd).mpr (Int.gcd_dvd_left t b), (Int.neg_dvd).mpr (Int.gcd_dvd_right t b)⟩
  · exact ⟨Int.gcd_dvd_left t b, Int.gcd_dvd_right t b⟩
theorem sz_divInt {t b : Int} {n : Nat} (h : b ≠ 0) (ht : t.natAbs < 2 ^ n) (hb : b.natAbs < 2 ^ n) : Sz n (Rat.divInt t b) := by
  have d := sgn_dvd t b
  have z := sgn_ne (t := t) h
  have e1 := natAbs_fdiv_le z d.1
  have e2 := natAbs_fdiv_le z d.2
  rw [q_num h] at e1
  rw [q_den h] at e2
  exact ⟨by omega, by omega⟩
theorem sz_int {i : Int} {n : Nat} (h : i.natAbs < 2 ^ n) (h0 : 0 < n) : Sz n (i : Rat) := by
  refine ⟨by rw [Rat.num_intCast]; exact h, ?_⟩
  rw [Rat.den_intCast]
  exact Nat.lt_of_lt_of_le (show 1 < 2 ^ 1 by decide) (Nat.pow_le_pow_right (by decide) h0)
theorem add_eq (a b : Rat) : a + b = Rat.divInt (a.num * b.den + b.num * a.den) (a.den * b.den) := by
  have h := Rat.divInt_add_divInt a.num b.num (d₁ := a.den) (d₂ := b.den) (by have := a.den_pos; omega) (by have := b.den_pos; omega)
  rw [Rat.num_divInt_den, Rat.num_divInt_den] at h
  exact h
theorem mul_eq (a b : Rat) : a * b = Rat.divInt (a.num * b.num) (a.den * b.den) := by
  have h := Rat.divInt_mul_divInt a.num b.num (d₁ := a.den) (d₂ := b.den)
  rw [Rat.num_divInt_den, Rat.num_divInt_den] at h
  exact h
theorem div_eq (a b : Rat) : a / b = Rat.divInt (a.num * b.den) (a.den * b.num) := by
  rw [Rat.div_def, Rat.inv_def]
  have h := Rat.divInt_mul_divInt a.num b.den (d₁ := a.den) (d₂ := b.num)
  rw [Rat.num_divInt_den] at h
  exact h
theorem nab_mul {x y : Int} {m n : Nat} (hx : x.natAbs < 2 ^ m) (hy : y.natAbs < 2 ^ n) : (x * y).natAbs < 2 ^ (m + n) := by
  rw [Int.natAbs_mul, Nat.pow_add]
  exact Nat.mul_lt_mul'' hx hy
theorem nab_add {x y : Int} {m : Nat} (hx : x.natAbs < 2 ^ m) (hy : y.natAbs < 2 ^ m) : (x + y).natAbs < 2 ^ (m + 1) := by
  have := Int.natAbs_add_le x y
  rw [Nat.pow_succ]
  omega
theorem den_ab {q : Rat} {n : Nat} (h : Sz n q) : ((q.den : Nat) : Int).natAbs < 2 ^ n := by
  rw [Int.natAbs_natCast]
  exact h.2
theorem den_ne (q : Rat) : ((q.den : Nat) : Int) ≠ 0 := by have := q.den_pos; omega
theorem den_ne2 (a b : Rat) : ((a.den : Nat) : Int) * ((b.den : Nat) : Int) ≠ 0 := Int.mul_ne_zero (den_ne a) (den_ne b)
theorem sz_add {m n : Nat} {a b : Rat} (ha : Sz m a) (hb : Sz n b) : Sz (m + n + 1) (a + b) := by
  rw [add_eq]
  have e : n + m = m + n := Nat.add_comm n m
  refine sz_divInt (den_ne2 a b) (nab_add (nab_mul ha.1 (den_ab hb)) ?_) ?_
  · rw [← e]
    exact nab_mul hb.1 (den_ab ha)
  · exact Nat.lt_of_lt_of_le (nab_mul (den_ab ha) (den_ab hb)) (Nat.pow_le_pow_right (by decide) (Nat.le_succ _))
theorem sz_mul {m n : Nat} {a b : Rat} (ha : Sz m a) (hb : Sz n b) : Sz (m + n) (a * b) := by
  rw [mul_eq]
  exact sz_divInt (den_ne2 a b) (nab_mul ha.1 hb.1) (nab_mul (den_ab ha) (den_ab hb))
theorem num_ne {b : Rat} (h : b ≠ 0) : b.num ≠ 0 := fun z => h (by rw [← Rat.num_divInt_den b, z]; simp)
theorem sz_div {m n : Nat} {a b : Rat} (ha : Sz m a) (hb : Sz n b) (h : b ≠ 0) : Sz (m + n) (a / b) := by
  rw [div_eq]
  exact sz_divInt (Int.mul_ne_zero (den_ne a) (num_ne h)) (nab_mul ha.1 (den_ab hb)) (nab_mul (den_ab ha) hb.1)
theorem num_neg (a : Rat) : (-a).num = -a.num := rfl
theorem den_neg (a : Rat) : (-a).den = a.den := rfl
theorem sz_neg {m : Nat} {a : Rat} (ha : Sz m a) : Sz m (-a) := ⟨by rw [num_neg, Int.natAbs_neg]; exact ha.1, ha.2⟩
theorem sz_sub {m n : Nat} {a b : Rat} (ha : Sz m a) (hb : Sz n b) : Sz (m + n + 1) (a - b) := by
  rw [Rat.sub_eq_add_neg]
  exact sz_add ha (sz_neg hb)
theorem floor_eq (a : Rat) : a.num.fdiv a.den = a.floor := by
  rw [Rat.floor_def, Int.fdiv_eq_ediv_of_nonneg _ (by omega)]
theorem fract_eq (a : Rat) : Rat.divInt (a.num.fmod a.den) a.den = a - (a.floor : Rat) := by
  have h : a.num.fmod a.den = a.num - a.den * a.floor := by
    rw [← floor_eq]
    have := Int.mul_fdiv_add_fmod a.num a.den
    omega
  have hd : ((a.den : Nat) : Rat) ≠ 0 := by
    have := a.den_pos
    intro z
    have : (a.den : Rat) = ((0 : Nat) : Rat) := z
    have := Rat.natCast_inj.mp this
    omega
  rw [h, Rat.divInt_eq_div, Rat.intCast_sub, Rat.intCast_mul]
  have e : (a.num : Rat) / ((a.den : Int) : Rat) = a := by rw [← Rat.divInt_eq_div, Rat.num_divInt_den]
  have e2 : ((a.den : Int) : Rat) = ((a.den : Nat) : Rat) := rfl
  rw [e2] at e ⊢
  rw [Rat.sub_eq_add_neg, Rat.div_def, Rat.add_mul, ← Rat.div_def, e]
  grind
theorem num_pos_iff {a : Rat} : 0 < a.num ↔ 0 < a := by
  rw [Rat.lt_iff]
  simp
theorem num_neg_iff {a : Rat} : a.num < 0 ↔ a < 0 := by
  rw [Rat.lt_iff]
  simp
end G
namespace Y
open PySem PySem.Spec PyProof.Rows L2 G
/-! ## the pure part -/
def mix0 (c k : Int) : Int := ((c + 7919 * k + 11) * 48271).fmod 2147483647
def mixed (c k : Int) : Int := (mix0 c k * mix0 c k + 40692 * mix0 c k).fmod 2147483399
theorem fmod_b {a m : Int} (h : 0 < m) : 0 ≤ a.fmod m ∧ a.fmod m < m := ⟨Int.fmod_nonneg_of_pos a h, Int.fmod_lt_of_pos a h⟩
theorem p_mixed {c k : Int} {ah : AH} : f_l_mixed [.int c, .int k] ah = .ok (.int (mixed c k)) ah := by
  have b := fmod_b (a := (c + 7919 * k + 11) * 48271) (m := 2147483647) (by decide)
  have h1 : mulOk 7919 k := mulOk_l (by decide)
  have h2 : mulOk (c + 7919 * k + 11) 48271 := mulOk_r (by decide)
  have h3 : mulOk (mix0 c k) (mix0 c k) := mulOk_l (by unfold mix0; omega)
  have h4 : mulOk 40692 (mix0 c k) := mulOk_l (by decide)
  have n1 : (2147483647 : Int) ≠ 0 := by decide
  have n2 : (2147483399 : Int) ≠ 0 := by decide
  simp -implicitDefEqProofs only [r_l_mixed, c_l_mixed, ev_var, ev_c, ev_bin, bin1_ok, bin1_exc, bin2_ok, bin2_exc, ev_un, ev_fld, ev_isI, un1_ok, un1_exc, ev_test, test1_ok, test1_exc, ev_notT, notT1_ok, notT1_exc, ev_andT, andT1_t, andT1_f, andT1_exc, ev_orT, orT1_t, orT1_f, orT1_exc, ev_and, and1_t, and1_f, and1_exc, ev_or, or1_t, or1_f, or1_exc, ev_if, if1_t, if1_f, if1_exc, ev_chain, ch1_ok, ch1_exc, ch2_ok, ch2_exc, chm_t, chm_f, ch3_ok, ch3_exc, ev_nil, ev_cons, cons1_ok, cons1_exc, cons2_ok, cons2_exc, ev_tup, ev_lst, tup1_ok, tup1_exc, lst1_ok, lst1_exc, ev_no, ev_part, part1_ok, ev_sl, sl1_ok, sl1_exc, sl2_ok, sl3_ok, ev_cb, cb1_ok, cb1_exc, ev_call, call1_ok, call1_exc, ev_make, make1_ok, make1_exc, make2_ok, make2_exc, ev_meth, meth1_ok, meth1_exc, methm_some, methk_ok, methk_exc, cls_obj, ev_bm, bm1_ok, bm1_exc, bm2_ok, bm2_exc, ev_itAny, it1_ok, ev_rng1, rng1_ok, ev_rng2, rng2_ok, ev_enum, enum1_lst, enum1_scr, ev_zip, zip1_lst, ev_skip, ev_seq, seq1_nx, seq1_rt, seq1_bk, seq1_ct, seq1_exc, ev_brk, ev_cnt, ev_expr, expr1_ok, expr1_exc, ev_ret, ret1_ok, ret1_exc, ev_retN, ev_ifS, ifS1_t, ifS1_f, ifS1_exc, nxO_some, ev_asg, asg1_ok, asg1_exc, gN_ap, gTup_ap, gNs_nil, gNs_cons, ev_par, par1_ok, par1_exc, ev_for, for1_ok, for1_exc, forM_some, forK_nx, forK_ct, forK_bk, forK_rt, forK_exc, ev_tryK, tryK1_nx, tryK1_rt, ev_raise, ev_setF, setF1_exc, ev_run, run1_rt, run1_nx, run1_exc, ev_init, init1_nx, init1_exc, add_i, add_s, add_l, add_t, sub_i, mul_i, fdiv_i, mod_i, pow_i, neg_i, not_b, lt_i, le_i, gt_i, ge_i, eq_i, ne_i, eq_s, ne_s, is_n, nis_n, abs_i, int_i, int_b, str_i, str_s, list_s, list_l, list_t, tup_s, tup_l, tup_t, len_l, len_t, len_r, idx_l, idx_t, idx_r, sl_l, sl_t, whC_t, whC_f, whK_nx, whK_ct, whK_bk, whK_rt, at_0, at_1, at_2, at_3, at_4, ev_ixS, ixS0_val, ixS0_own, ixS1_ok, gAny_t, gAny_l, ev_newL, newL1_ok, ev_app, app0_own, app1_ok, ev_setI, setI0_own, setI1_ok, setI2_ok, ev_frz, frz0_own, frz0_val, lcL_nil, lcL_cons, lcO_some, lcA_t, lcA_f, lcB_ok, lc2_ok, ev_yes, wipe_nil, wipe_cons, ev_lc, lc0_ok, lcE_ok, it_l, it_t, it_r, ev_starts, ev_ends, ev_isB, ev_notB, ev_itS, ev_isStr, ev_isLst, List.getElem?_cons_zero, List.getElem?_cons_succ, List.set_cons_zero, List.set_cons_succ, List.length_cons, List.length_nil, List.cons_append, List.nil_append, List.append_nil, Nat.reduceAdd, Nat.reduceLeDiff, Nat.reduceEqDiff, ↓reduceIte, ofO_some, Bool.not_true, Bool.not_false, Option.map_some, Option.bind_some, decide_true, decide_false, Nat.zero_add, isN, Bool.false_eq_true, List.set_cons_zero, Int.reduceLT, Int.reduceLE, Int.reduceEq, mul_i h1, mul_i h2, mod_i n1, ← mix0.eq_1, mul_i h3, mul_i h4, mod_i n2]
  rfl
theorem mixed_b (c k : Int) : 0 ≤ mixed c k ∧ mixed c k < 2147483399 := fmod_b (by decide)
def gfold (c : Int) : List Int → Int → Int
  | [], acc => acc
  | k :: r, acc => gfold c r (acc * 2147483399 + mixed c (40 + k))
theorem p_gL (c : Int) (most : Sl) (ah : AH) : ∀ (ks : List Int) (acc : Int) (x : Sl), ∃ y, forL (gN 3) b_l_great_1 (ks.map .int) [.val (.int c), most, .val (.int acc), x] ah = .nx [.val (.int c), most, .val (.int (gfold c ks acc)), y] ah
  | [], acc, x => ⟨x, rfl⟩
  | k :: r, acc, x => by
    have h1 : mulOk acc 2147483399 := mulOk_r (by decide)
    obtain ⟨y, h⟩ := p_gL c most ah r (acc * 2147483399 + mixed c (40 + k)) (.val (.int k))
    refine ⟨y, ?_⟩
    rw [List.map_cons, forL_cons]
    unfold gfold
    simp -implicitDefEqProofs only [b_l_great_1, ev_var, ev_c, ev_bin, bin1_ok, bin1_exc, bin2_ok, bin2_exc, ev_un, ev_fld, ev_isI, un1_ok, un1_exc, ev_test, test1_ok, test1_exc, ev_notT, notT1_ok, notT1_exc, ev_andT, andT1_t, andT1_f, andT1_exc, ev_orT, orT1_t, orT1_f, orT1_exc, ev_and, and1_t, and1_f, and1_exc, ev_or, or1_t, or1_f, or1_exc, ev_if, if1_t, if1_f, if1_exc, ev_chain, ch1_ok, ch1_exc, ch2_ok, ch2_exc, chm_t, chm_f, ch3_ok, ch3_exc, ev_nil, ev_cons, cons1_ok, cons1_exc, cons2_ok, cons2_exc, ev_tup, ev_lst, tup1_ok, tup1_exc, lst1_ok, lst1_exc, ev_no, ev_part, part1_ok, ev_sl, sl1_ok, sl1_exc, sl2_ok, sl3_ok, ev_cb, cb1_ok, cb1_exc, ev_call, call1_ok, call1_exc, ev_make, make1_ok, make1_exc, make2_ok, make2_exc, ev_meth, meth1_ok, meth1_exc, methm_some, methk_ok, methk_exc, cls_obj, ev_bm, bm1_ok, bm1_exc, bm2_ok, bm2_exc, ev_itAny, it1_ok, ev_rng1, rng1_ok, ev_rng2, rng2_ok, ev_enum, enum1_lst, enum1_scr, ev_zip, zip1_lst, ev_skip, ev_seq, seq1_nx, seq1_rt, seq1_bk, seq1_ct, seq1_exc, ev_brk, ev_cnt, ev_expr, expr1_ok, expr1_exc, ev_ret, ret1_ok, ret1_exc, ev_retN, ev_ifS, ifS1_t, ifS1_f, ifS1_exc, nxO_some, ev_asg, asg1_ok, asg1_exc, gN_ap, gTup_ap, gNs_nil, gNs_cons, ev_par, par1_ok, par1_exc, ev_for, for1_ok, for1_exc, forM_some, forK_nx, forK_ct, forK_bk, forK_rt, forK_exc, ev_tryK, tryK1_nx, tryK1_rt, ev_raise, ev_setF, setF1_exc, ev_run, run1_rt, run1_nx, run1_exc, ev_init, init1_nx, init1_exc, add_i, add_s, add_l, add_t, sub_i, mul_i, fdiv_i, mod_i, pow_i, neg_i, not_b, lt_i, le_i, gt_i, ge_i, eq_i, ne_i, eq_s, ne_s, is_n, nis_n, abs_i, int_i, int_b, str_i, str_s, list_s, list_l, list_t, tup_s, tup_l, tup_t, len_l, len_t, len_r, idx_l, idx_t, idx_r, sl_l, sl_t, whC_t, whC_f, whK_nx, whK_ct, whK_bk, whK_rt, at_0, at_1, at_2, at_3, at_4, ev_ixS, ixS0_val, ixS0_own, ixS1_ok, gAny_t, gAny_l, ev_newL, newL1_ok, ev_app, app0_own, app1_ok, ev_setI, setI0_own, setI1_ok, setI2_ok, ev_frz, frz0_own, frz0_val, lcL_nil, lcL_cons, lcO_some, lcA_t, lcA_f, lcB_ok, lc2_ok, ev_yes, wipe_nil, wipe_cons, ev_lc, lc0_ok, lcE_ok, it_l, it_t, it_r, ev_starts, ev_ends, ev_isB, ev_notB, ev_itS, ev_isStr, ev_isLst, List.getElem?_cons_zero, List.getElem?_cons_succ, List.set_cons_zero, List.set_cons_succ, List.length_cons, List.length_nil, List.cons_append, List.nil_append, List.append_nil, Nat.reduceAdd, Nat.reduceLeDiff, Nat.reduceEqDiff, ↓reduceIte, ofO_some, Bool.not_true, Bool.not_false, Option.map_some, Option.bind_some, decide_true, decide_false, Nat.zero_add, isN, Bool.false_eq_true, List.set_cons_zero, Int.reduceLT, Int.reduceLE, Int.reduceEq, mul_i h1, p_mixed, h]
    exact h
def great (c most : Int) : Int := (gfold c [0, 1, 2, 3, 4, 5, 6, 7] 0).fmod most
theorem p_great {c most : Int} (hm : most ≠ 0) {ah : AH} : f_l_great [.int c, .int most] ah = .ok (.int (great c most)) ah := by
  have hr : rngD 0 (8 : Int).toNat = ([0, 1, 2, 3, 4, 5, 6, 7] : List Int).map D.int := rfl
  have h8 : (-(2 ^ 62) ≤ (8 : Int) ∧ (8 : Int) < 2 ^ 62) := by decide
  obtain ⟨y, h⟩ := p_gL c (.val (.int most)) ah [0, 1, 2, 3, 4, 5, 6, 7] 0 .no
  simp -implicitDefEqProofs only [r_l_great, c_l_great, ev_var, ev_c, ev_bin, bin1_ok, bin1_exc, bin2_ok, bin2_exc, ev_un, ev_fld, ev_isI, un1_ok, un1_exc, ev_test, test1_ok, test1_exc, ev_notT, notT1_ok, notT1_exc, ev_andT, andT1_t, andT1_f, andT1_exc, ev_orT, orT1_t, orT1_f, orT1_exc, ev_and, and1_t, and1_f, and1_exc, ev_or, or1_t, or1_f, or1_exc, ev_if, if1_t, if1_f, if1_exc, ev_chain, ch1_ok, ch1_exc, ch2_ok, ch2_exc, chm_t, chm_f, ch3_ok, ch3_exc, ev_nil, ev_cons, cons1_ok, cons1_exc, cons2_ok, cons2_exc, ev_tup, ev_lst, tup1_ok, tup1_exc, lst1_ok, lst1_exc, ev_no, ev_part, part1_ok, ev_sl, sl1_ok, sl1_exc, sl2_ok, sl3_ok, ev_cb, cb1_ok, cb1_exc, ev_call, call1_ok, call1_exc, ev_make, make1_ok, make1_exc, make2_ok, make2_exc, ev_meth, meth1_ok, meth1_exc, methm_some, methk_ok, methk_exc, cls_obj, ev_bm, bm1_ok, bm1_exc, bm2_ok, bm2_exc, ev_itAny, it1_ok, ev_rng1, rng1_ok, ev_rng2, rng2_ok, ev_enum, enum1_lst, enum1_scr, ev_zip, zip1_lst, ev_skip, ev_seq, seq1_nx, seq1_rt, seq1_bk, seq1_ct, seq1_exc, ev_brk, ev_cnt, ev_expr, expr1_ok, expr1_exc, ev_ret, ret1_ok, ret1_exc, ev_retN, ev_ifS, ifS1_t, ifS1_f, ifS1_exc, nxO_some, ev_asg, asg1_ok, asg1_exc, gN_ap, gTup_ap, gNs_nil, gNs_cons, ev_par, par1_ok, par1_exc, ev_for, for1_ok, for1_exc, forM_some, forK_nx, forK_ct, forK_bk, forK_rt, forK_exc, ev_tryK, tryK1_nx, tryK1_rt, ev_raise, ev_setF, setF1_exc, ev_run, run1_rt, run1_nx, run1_exc, ev_init, init1_nx, init1_exc, add_i, add_s, add_l, add_t, sub_i, mul_i, fdiv_i, mod_i, pow_i, neg_i, not_b, lt_i, le_i, gt_i, ge_i, eq_i, ne_i, eq_s, ne_s, is_n, nis_n, abs_i, int_i, int_b, str_i, str_s, list_s, list_l, list_t, tup_s, tup_l, tup_t, len_l, len_t, len_r, idx_l, idx_t, idx_r, sl_l, sl_t, whC_t, whC_f, whK_nx, whK_ct, whK_bk, whK_rt, at_0, at_1, at_2, at_3, at_4, ev_ixS, ixS0_val, ixS0_own, ixS1_ok, gAny_t, gAny_l, ev_newL, newL1_ok, ev_app, app0_own, app1_ok, ev_setI, setI0_own, setI1_ok, setI2_ok, ev_frz, frz0_own, frz0_val, lcL_nil, lcL_cons, lcO_some, lcA_t, lcA_f, lcB_ok, lc2_ok, ev_yes, wipe_nil, wipe_cons, ev_lc, lc0_ok, lcE_ok, it_l, it_t, it_r, ev_starts, ev_ends, ev_isB, ev_notB, ev_itS, ev_isStr, ev_isLst, List.getElem?_cons_zero, List.getElem?_cons_succ, List.set_cons_zero, List.set_cons_succ, List.length_cons, List.length_nil, List.cons_append, List.nil_append, List.append_nil, Nat.reduceAdd, Nat.reduceLeDiff, Nat.reduceEqDiff, ↓reduceIte, ofO_some, Bool.not_true, Bool.not_false, Option.map_some, Option.bind_some, decide_true, decide_false, Nat.zero_add, isN, Bool.false_eq_true, List.set_cons_zero, Int.reduceLT, Int.reduceLE, Int.reduceEq, if_pos h8, hr, h, mod_i hm]
  rfl
theorem great_b (c : Int) {most : Int} (h : 0 < most) : 0 ≤ great c most ∧ great c most < most := fmod_b h
/-! ### the greatest divisor -/
theorem gcd_step {a b : Int} (ha : 0 ≤ a) (hb : 0 < b) : (Int.gcd b (a.fmod b) : Nat) = Int.gcd a b := by
  rw [Int.fmod_eq_emod_of_nonneg a (by omega)]
  obtain ⟨m, rfl⟩ := Int.eq_ofNat_of_zero_le ha
  obtain ⟨n, rfl⟩ := Int.eq_ofNat_of_zero_le (by omega : 0 ≤ b)
  show Nat.gcd n (m % n) = Nat.gcd m n
  rw [Nat.gcd_comm n, ← Nat.gcd_rec, Nat.gcd_comm]
theorem p_comL (ah : AH) : ∀ (n : Nat) (a b : Int), 0 ≤ a → 0 ≤ b → b.toNat < n → whL w_l_common_1 b_l_common_1 n [.val (.int a), .val (.int b)] ah = .nx [.val (.int (Int.gcd a b)), .val (.int 0)] ah
  | 0, a, b, ha, hb, h => absurd h (Nat.not_lt_zero _)
  | n + 1, a, b, ha, hb, h => by
    rw [whL_succ]
    by_cases hz : 0 < b
    · have nb : b ≠ 0 := by omega
      have bd := fmod_b (a := a) hz
      have ih := p_comL ah n b (a.fmod b) (by omega) bd.1 (by omega)
      simp -implicitDefEqProofs only [w_l_common_1, b_l_common_1, ev_var, ev_c, ev_bin, bin1_ok, bin1_exc, bin2_ok, bin2_exc, ev_un, ev_fld, ev_isI, un1_ok, un1_exc, ev_test, test1_ok, test1_exc, ev_notT, notT1_ok, notT1_exc, ev_andT, andT1_t, andT1_f, andT1_exc, ev_orT, orT1_t, orT1_f, orT1_exc, ev_and, and1_t, and1_f, and1_exc, ev_or, or1_t, or1_f, or1_exc, ev_if, if1_t, if1_f, if1_exc, ev_chain, ch1_ok, ch1_exc, ch2_ok, ch2_exc, chm_t, chm_f, ch3_ok, ch3_exc, ev_nil, ev_cons, cons1_ok, cons1_exc, cons2_ok, cons2_exc, ev_tup, ev_lst, tup1_ok, tup1_exc, lst1_ok, lst1_exc, ev_no, ev_part, part1_ok, ev_sl, sl1_ok, sl1_exc, sl2_ok, sl3_ok, ev_cb, cb1_ok, cb1_exc, ev_call, call1_ok, call1_exc, ev_make, make1_ok, make1_exc, make2_ok, make2_exc, ev_meth, meth1_ok, meth1_exc, methm_some, methk_ok, methk_exc, cls_obj, ev_bm, bm1_ok, bm1_exc, bm2_ok, bm2_exc, ev_itAny, it1_ok, ev_rng1, rng1_ok, ev_rng2, rng2_ok, ev_enum, enum1_lst, enum1_scr, ev_zip, zip1_lst, ev_skip, ev_seq, seq1_nx, seq1_rt, seq1_bk, seq1_ct, seq1_exc, ev_brk, ev_cnt, ev_expr, expr1_ok, expr1_exc, ev_ret, ret1_ok, ret1_exc, ev_retN, ev_ifS, ifS1_t, ifS1_f, ifS1_exc, nxO_some, ev_asg, asg1_ok, asg1_exc, gN_ap, gTup_ap, gNs_nil, gNs_cons, ev_par, par1_ok, par1_exc, ev_for, for1_ok, for1_exc, forM_some, forK_nx, forK_ct, forK_bk, forK_rt, forK_exc, ev_tryK, tryK1_nx, tryK1_rt, ev_raise, ev_setF, setF1_exc, ev_run, run1_rt, run1_nx, run1_exc, ev_init, init1_nx, init1_exc, add_i, add_s, add_l, add_t, sub_i, mul_i, fdiv_i, mod_i, pow_i, neg_i, not_b, lt_i, le_i, gt_i, ge_i, eq_i, ne_i, eq_s, ne_s, is_n, nis_n, abs_i, int_i, int_b, str_i, str_s, list_s, list_l, list_t, tup_s, tup_l, tup_t, len_l, len_t, len_r, idx_l, idx_t, idx_r, sl_l, sl_t, whC_t, whC_f, whK_nx, whK_ct, whK_bk, whK_rt, at_0, at_1, at_2, at_3, at_4, ev_ixS, ixS0_val, ixS0_own, ixS1_ok, gAny_t, gAny_l, ev_newL, newL1_ok, ev_app, app0_own, app1_ok, ev_setI, setI0_own, setI1_ok, setI2_ok, ev_frz, frz0_own, frz0_val, lcL_nil, lcL_cons, lcO_some, lcA_t, lcA_f, lcB_ok, lc2_ok, ev_yes, wipe_nil, wipe_cons, ev_lc, lc0_ok, lcE_ok, it_l, it_t, it_r, ev_starts, ev_ends, ev_isB, ev_notB, ev_itS, ev_isStr, ev_isLst, List.getElem?_cons_zero, List.getElem?_cons_succ, List.set_cons_zero, List.set_cons_succ, List.length_cons, List.length_nil, List.cons_append, List.nil_append, List.append_nil, Nat.reduceAdd, Nat.reduceLeDiff, Nat.reduceEqDiff, ↓reduceIte, ofO_some, Bool.not_true, Bool.not_false, Option.map_some, Option.bind_some, decide_true, decide_false, Nat.zero_add, isN, Bool.false_eq_true, List.set_cons_zero, Int.reduceLT, Int.reduceLE, Int.reduceEq, decide_eq_true hz, whC_t, whK_nx, mod_i nb]
      simp only [w_l_common_1, b_l_common_1] at ih
      rw [ih, gcd_step ha hz]
    · have e : b = 0 := by omega
      subst e
      have ea : ((Int.gcd a 0 : Nat) : Int) = a := by
        rw [Int.gcd_zero_right]
        omega
      simp -implicitDefEqProofs only [w_l_common_1, b_l_common_1, ev_var, ev_c, ev_bin, bin1_ok, bin1_exc, bin2_ok, bin2_exc, ev_un, ev_fld, ev_isI, un1_ok, un1_exc, ev_test, test1_ok, test1_exc, ev_notT, notT1_ok, notT1_exc, ev_andT, andT1_t, andT1_f, andT1_exc, ev_orT, orT1_t, orT1_f, orT1_exc, ev_and, and1_t, and1_f, and1_exc, ev_or, or1_t, or1_f, or1_exc, ev_if, if1_t, if1_f, if1_exc, ev_chain, ch1_ok, ch1_exc, ch2_ok, ch2_exc, chm_t, chm_f, ch3_ok, ch3_exc, ev_nil, ev_cons, cons1_ok, cons1_exc, cons2_ok, cons2_exc, ev_tup, ev_lst, tup1_ok, tup1_exc, lst1_ok, lst1_exc, ev_no, ev_part, part1_ok, ev_sl, sl1_ok, sl1_exc, sl2_ok, sl3_ok, ev_cb, cb1_ok, cb1_exc, ev_call, call1_ok, call1_exc, ev_make, make1_ok, make1_exc, make2_ok, make2_exc, ev_meth, meth1_ok, meth1_exc, methm_some, methk_ok, methk_exc, cls_obj, ev_bm, bm1_ok, bm1_exc, bm2_ok, bm2_exc, ev_itAny, it1_ok, ev_rng1, rng1_ok, ev_rng2, rng2_ok, ev_enum, enum1_lst, enum1_scr, ev_zip, zip1_lst, ev_skip, ev_seq, seq1_nx, seq1_rt, seq1_bk, seq1_ct, seq1_exc, ev_brk, ev_cnt, ev_expr, expr1_ok, expr1_exc, ev_ret, ret1_ok, ret1_exc, ev_retN, ev_ifS, ifS1_t, ifS1_f, ifS1_exc, nxO_some, ev_asg, asg1_ok, asg1_exc, gN_ap, gTup_ap, gNs_nil, gNs_cons, ev_par, par1_ok, par1_exc, ev_for, for1_ok, for1_exc, forM_some, forK_nx, forK_ct, forK_bk, forK_rt, forK_exc, ev_tryK, tryK1_nx, tryK1_rt, ev_raise, ev_setF, setF1_exc, ev_run, run1_rt, run1_nx, run1_exc, ev_init, init1_nx, init1_exc, add_i, add_s, add_l, add_t, sub_i, mul_i, fdiv_i, mod_i, pow_i, neg_i, not_b, lt_i, le_i, gt_i, ge_i, eq_i, ne_i, eq_s, ne_s, is_n, nis_n, abs_i, int_i, int_b, str_i, str_s, list_s, list_l, list_t, tup_s, tup_l, tup_t, len_l, len_t, len_r, idx_l, idx_t, idx_r, sl_l, sl_t, whC_t, whC_f, whK_nx, whK_ct, whK_bk, whK_rt, at_0, at_1, at_2, at_3, at_4, ev_ixS, ixS0_val, ixS0_own, ixS1_ok, gAny_t, gAny_l, ev_newL, newL1_ok, ev_app, app0_own, app1_ok, ev_setI, setI0_own, setI1_ok, setI2_ok, ev_frz, frz0_own, frz0_val, lcL_nil, lcL_cons, lcO_some, lcA_t, lcA_f, lcB_ok, lc2_ok, ev_yes, wipe_nil, wipe_cons, ev_lc, lc0_ok, lcE_ok, it_l, it_t, it_r, ev_starts, ev_ends, ev_isB, ev_notB, ev_itS, ev_isStr, ev_isLst, List.getElem?_cons_zero, List.getElem?_cons_succ, List.set_cons_zero, List.set_cons_succ, List.length_cons, List.length_nil, List.cons_append, List.nil_append, List.append_nil, Nat.reduceAdd, Nat.reduceLeDiff, Nat.reduceEqDiff, ↓reduceIte, ofO_some, Bool.not_true, Bool.not_false, Option.map_some, Option.bind_some, decide_true, decide_false, Nat.zero_add, isN, Bool.false_eq_true, List.set_cons_zero, Int.reduceLT, Int.reduceLE, Int.reduceEq, decide_eq_false hz, whC_f, ea]
theorem p_lcommon {a b : Int} (ha : 0 ≤ a) (hb : 0 ≤ b) {ah : AH} : f_l_common [.int a, .int b] ah = .ok (.int (Int.gcd a b)) ah := by
  have h := while_nx (p_comL ah (b.toNat + 1) a b ha hb (Nat.lt_succ_self _))
  simp -implicitDefEqProofs only [r_l_common, c_l_common, ev_var, ev_c, ev_bin, bin1_ok, bin1_exc, bin2_ok, bin2_exc, ev_un, ev_fld, ev_isI, un1_ok, un1_exc, ev_test, test1_ok, test1_exc, ev_notT, notT1_ok, notT1_exc, ev_andT, andT1_t, andT1_f, andT1_exc, ev_orT, orT1_t, orT1_f, orT1_exc, ev_and, and1_t, and1_f, and1_exc, ev_or, or1_t, or1_f, or1_exc, ev_if, if1_t, if1_f, if1_exc, ev_chain, ch1_ok, ch1_exc, ch2_ok, ch2_exc, chm_t, chm_f, ch3_ok, ch3_exc, ev_nil, ev_cons, cons1_ok, cons1_exc, cons2_ok, cons2_exc, ev_tup, ev_lst, tup1_ok, tup1_exc, lst1_ok, lst1_exc, ev_no, ev_part, part1_ok, ev_sl, sl1_ok, sl1_exc, sl2_ok, sl3_ok, ev_cb, cb1_ok, cb1_exc, ev_call, call1_ok, call1_exc, ev_make, make1_ok, make1_exc, make2_ok, make2_exc, ev_meth, meth1_ok, meth1_exc, methm_some, methk_ok, methk_exc, cls_obj, ev_bm, bm1_ok, bm1_exc, bm2_ok, bm2_exc, ev_itAny, it1_ok, ev_rng1, rng1_ok, ev_rng2, rng2_ok, ev_enum, enum1_lst, enum1_scr, ev_zip, zip1_lst, ev_skip, ev_seq, seq1_nx, seq1_rt, seq1_bk, seq1_ct, seq1_exc, ev_brk, ev_cnt, ev_expr, expr1_ok, expr1_exc, ev_ret, ret1_ok, ret1_exc, ev_retN, ev_ifS, ifS1_t, ifS1_f, ifS1_exc, nxO_some, ev_asg, asg1_ok, asg1_exc, gN_ap, gTup_ap, gNs_nil, gNs_cons, ev_par, par1_ok, par1_exc, ev_for, for1_ok, for1_exc, forM_some, forK_nx, forK_ct, forK_bk, forK_rt, forK_exc, ev_tryK, tryK1_nx, tryK1_rt, ev_raise, ev_setF, setF1_exc, ev_run, run1_rt, run1_nx, run1_exc, ev_init, init1_nx, init1_exc, add_i, add_s, add_l, add_t, sub_i, mul_i, fdiv_i, mod_i, pow_i, neg_i, not_b, lt_i, le_i, gt_i, ge_i, eq_i, ne_i, eq_s, ne_s, is_n, nis_n, abs_i, int_i, int_b, str_i, str_s, list_s, list_l, list_t, tup_s, tup_l, tup_t, len_l, len_t, len_r, idx_l, idx_t, idx_r, sl_l, sl_t, whC_t, whC_f, whK_nx, whK_ct, whK_bk, whK_rt, at_0, at_1, at_2, at_3, at_4, ev_ixS, ixS0_val, ixS0_own, ixS1_ok, gAny_t, gAny_l, ev_newL, newL1_ok, ev_app, app0_own, app1_ok, ev_setI, setI0_own, setI1_ok, setI2_ok, ev_frz, frz0_own, frz0_val, lcL_nil, lcL_cons, lcO_some, lcA_t, lcA_f, lcB_ok, lc2_ok, ev_yes, wipe_nil, wipe_cons, ev_lc, lc0_ok, lcE_ok, it_l, it_t, it_r, ev_starts, ev_ends, ev_isB, ev_notB, ev_itS, ev_isStr, ev_isLst, List.getElem?_cons_zero, List.getElem?_cons_succ, List.set_cons_zero, List.set_cons_succ, List.length_cons, List.length_nil, List.cons_append, List.nil_append, List.append_nil, Nat.reduceAdd, Nat.reduceLeDiff, Nat.reduceEqDiff, ↓reduceIte, ofO_some, Bool.not_true, Bool.not_false, Option.map_some, Option.bind_some, decide_true, decide_false, Nat.zero_add, isN, Bool.false_eq_true, List.set_cons_zero, Int.reduceLT, Int.reduceLE, Int.reduceEq, h]
theorem p_common {a b : Int} {ah : AH} : f_common [.int a, .int b] ah = .ok (.int (Int.gcd a b)) ah := by
  have ab : ∀ x : Int, (if x < 0 then -x else x) = (x.natAbs : Int) := fun x => by split <;> omega
  have h := while_nx (p_comL ah (b.natAbs + 1) (a.natAbs : Int) (b.natAbs : Int) (by omega) (by omega) (by omega))
  have h2 : cWhile w_common_1 b_common_1 [.val (.int (a.natAbs : Int)), .val (.int (b.natAbs : Int))] ah = .nx [.val (.int (Int.gcd a b)), .val (.int 0)] ah := h
  simp -implicitDefEqProofs only [r_common, c_common, ev_var, ev_c, ev_bin, bin1_ok, bin1_exc, bin2_ok, bin2_exc, ev_un, ev_fld, ev_isI, un1_ok, un1_exc, ev_test, test1_ok, test1_exc, ev_notT, notT1_ok, notT1_exc, ev_andT, andT1_t, andT1_f, andT1_exc, ev_orT, orT1_t, orT1_f, orT1_exc, ev_and, and1_t, and1_f, and1_exc, ev_or, or1_t, or1_f, or1_exc, ev_if, if1_t, if1_f, if1_exc, ev_chain, ch1_ok, ch1_exc, ch2_ok, ch2_exc, chm_t, chm_f, ch3_ok, ch3_exc, ev_nil, ev_cons, cons1_ok, cons1_exc, cons2_ok, cons2_exc, ev_tup, ev_lst, tup1_ok, tup1_exc, lst1_ok, lst1_exc, ev_no, ev_part, part1_ok, ev_sl, sl1_ok, sl1_exc, sl2_ok, sl3_ok, ev_cb, cb1_ok, cb1_exc, ev_call, call1_ok, call1_exc, ev_make, make1_ok, make1_exc, make2_ok, make2_exc, ev_meth, meth1_ok, meth1_exc, methm_some, methk_ok, methk_exc, cls_obj, ev_bm, bm1_ok, bm1_exc, bm2_ok, bm2_exc, ev_itAny, it1_ok, ev_rng1, rng1_ok, ev_rng2, rng2_ok, ev_enum, enum1_lst, enum1_scr, ev_zip, zip1_lst, ev_skip, ev_seq, seq1_nx, seq1_rt, seq1_bk, seq1_ct, seq1_exc, ev_brk, ev_cnt, ev_expr, expr1_ok, expr1_exc, ev_ret, ret1_ok, ret1_exc, ev_retN, ev_ifS, ifS1_t, ifS1_f, ifS1_exc, nxO_some, ev_asg, asg1_ok, asg1_exc, gN_ap, gTup_ap, gNs_nil, gNs_cons, ev_par, par1_ok, par1_exc, ev_for, for1_ok, for1_exc, forM_some, forK_nx, forK_ct, forK_bk, forK_rt, forK_exc, ev_tryK, tryK1_nx, tryK1_rt, ev_raise, ev_setF, setF1_exc, ev_run, run1_rt, run1_nx, run1_exc, ev_init, init1_nx, init1_exc, add_i, add_s, add_l, add_t, sub_i, mul_i, fdiv_i, mod_i, pow_i, neg_i, not_b, lt_i, le_i, gt_i, ge_i, eq_i, ne_i, eq_s, ne_s, is_n, nis_n, abs_i, int_i, int_b, str_i, str_s, list_s, list_l, list_t, tup_s, tup_l, tup_t, len_l, len_t, len_r, idx_l, idx_t, idx_r, sl_l, sl_t, whC_t, whC_f, whK_nx, whK_ct, whK_bk, whK_rt, at_0, at_1, at_2, at_3, at_4, ev_ixS, ixS0_val, ixS0_own, ixS1_ok, gAny_t, gAny_l, ev_newL, newL1_ok, ev_app, app0_own, app1_ok, ev_setI, setI0_own, setI1_ok, setI2_ok, ev_frz, frz0_own, frz0_val, lcL_nil, lcL_cons, lcO_some, lcA_t, lcA_f, lcB_ok, lc2_ok, ev_yes, wipe_nil, wipe_cons, ev_lc, lc0_ok, lcE_ok, it_l, it_t, it_r, ev_starts, ev_ends, ev_isB, ev_notB, ev_itS, ev_isStr, ev_isLst, List.getElem?_cons_zero, List.getElem?_cons_succ, List.set_cons_zero, List.set_cons_succ, List.length_cons, List.length_nil, List.cons_append, List.nil_append, List.append_nil, Nat.reduceAdd, Nat.reduceLeDiff, Nat.reduceEqDiff, ↓reduceIte, ofO_some, Bool.not_true, Bool.not_false, Option.map_some, Option.bind_some, decide_true, decide_false, Nat.zero_add, isN, Bool.false_eq_true, List.set_cons_zero, Int.reduceLT, Int.reduceLE, Int.reduceEq, ab, h2]
/-! ### fractions -/
def rt (q : Rat) : D := .obj 3 [.int q.num, .int ((q.den : Nat) : Int)]
theorem sgn_ok {t b : Int} {n : Nat} (h : b ≠ 0) (hb : b.natAbs < 2 ^ n) (h9 : n ≤ 9000) : divOk (sgn t b) := by
  have h1 : Int.gcd t b ≤ b.natAbs := Nat.gcd_le_right t.natAbs (by omega)
  have hn : 0 < n := by
    cases n with
    | zero => simp at hb; omega
    | succ n => omega
  refine divOk_w (b := n) (sgn_ne h) ?_ hn h9
  unfold sgn
  split <;> omega
theorem p_initQ {t b : Int} {n : Nat} (h : b ≠ 0) (hb : b.natAbs < 2 ^ n) (h9 : n ≤ 9000) {ah : AH} : f_Ratio_init [.int t, .int b] ah = .ok [.int (Rat.divInt t b).num, .int ((Rat.divInt t b).den : Int)] ah := by
  have hd := sgn_ok (t := t) h hb h9
  rw [← q_num h, ← q_den h]
  unfold sgn at hd ⊢
  by_cases hz : b < 0
  · rw [if_pos hz] at hd ⊢
    simp -implicitDefEqProofs only [r_Ratio_init, c_Ratio_init, ev_var, ev_c, ev_bin, bin1_ok, bin1_exc, bin2_ok, bin2_exc, ev_un, ev_fld, ev_isI, un1_ok, un1_exc, ev_test, test1_ok, test1_exc, ev_notT, notT1_ok, notT1_exc, ev_andT, andT1_t, andT1_f, andT1_exc, ev_orT, orT1_t, orT1_f, orT1_exc, ev_and, and1_t, and1_f, and1_exc, ev_or, or1_t, or1_f, or1_exc, ev_if, if1_t, if1_f, if1_exc, ev_chain, ch1_ok, ch1_exc, ch2_ok, ch2_exc, chm_t, chm_f, ch3_ok, ch3_exc, ev_nil, ev_cons, cons1_ok, cons1_exc, cons2_ok, cons2_exc, ev_tup, ev_lst, tup1_ok, tup1_exc, lst1_ok, lst1_exc, ev_no, ev_part, part1_ok, ev_sl, sl1_ok, sl1_exc, sl2_ok, sl3_ok, ev_cb, cb1_ok, cb1_exc, ev_call, call1_ok, call1_exc, ev_make, make1_ok, make1_exc, make2_ok, make2_exc, ev_meth, meth1_ok, meth1_exc, methm_some, methk_ok, methk_exc, cls_obj, ev_bm, bm1_ok, bm1_exc, bm2_ok, bm2_exc, ev_itAny, it1_ok, ev_rng1, rng1_ok, ev_rng2, rng2_ok, ev_enum, enum1_lst, enum1_scr, ev_zip, zip1_lst, ev_skip, ev_seq, seq1_nx, seq1_rt, seq1_bk, seq1_ct, seq1_exc, ev_brk, ev_cnt, ev_expr, expr1_ok, expr1_exc, ev_ret, ret1_ok, ret1_exc, ev_retN, ev_ifS, ifS1_t, ifS1_f, ifS1_exc, nxO_some, ev_asg, asg1_ok, asg1_exc, gN_ap, gTup_ap, gNs_nil, gNs_cons, ev_par, par1_ok, par1_exc, ev_for, for1_ok, for1_exc, forM_some, forK_nx, forK_ct, forK_bk, forK_rt, forK_exc, ev_tryK, tryK1_nx, tryK1_rt, ev_raise, ev_setF, setF1_exc, ev_run, run1_rt, run1_nx, run1_exc, ev_init, init1_nx, init1_exc, add_i, add_s, add_l, add_t, sub_i, mul_i, fdiv_i, mod_i, pow_i, neg_i, not_b, lt_i, le_i, gt_i, ge_i, eq_i, ne_i, eq_s, ne_s, is_n, nis_n, abs_i, int_i, int_b, str_i, str_s, list_s, list_l, list_t, tup_s, tup_l, tup_t, len_l, len_t, len_r, idx_l, idx_t, idx_r, sl_l, sl_t, whC_t, whC_f, whK_nx, whK_ct, whK_bk, whK_rt, at_0, at_1, at_2, at_3, at_4, ev_ixS, ixS0_val, ixS0_own, ixS1_ok, gAny_t, gAny_l, ev_newL, newL1_ok, ev_app, app0_own, app1_ok, ev_setI, setI0_own, setI1_ok, setI2_ok, ev_frz, frz0_own, frz0_val, lcL_nil, lcL_cons, lcO_some, lcA_t, lcA_f, lcB_ok, lc2_ok, ev_yes, wipe_nil, wipe_cons, ev_lc, lc0_ok, lcE_ok, it_l, it_t, it_r, ev_starts, ev_ends, ev_isB, ev_notB, ev_itS, ev_isStr, ev_isLst, List.getElem?_cons_zero, List.getElem?_cons_succ, List.set_cons_zero, List.set_cons_succ, List.length_cons, List.length_nil, List.cons_append, List.nil_append, List.append_nil, Nat.reduceAdd, Nat.reduceLeDiff, Nat.reduceEqDiff, ↓reduceIte, ofO_some, Bool.not_true, Bool.not_false, Option.map_some, Option.bind_some, decide_true, decide_false, Nat.zero_add, isN, Bool.false_eq_true, List.set_cons_zero, Int.reduceLT, Int.reduceLE, Int.reduceEq, p_common, decide_eq_true hz, decide_eq_false h, fdiv_i hd]
    rw [setF1_own rfl put_Ratio_top]
    simp -implicitDefEqProofs only [ev_var, ev_c, ev_bin, bin1_ok, bin1_exc, bin2_ok, bin2_exc, ev_un, ev_fld, ev_isI, un1_ok, un1_exc, ev_test, test1_ok, test1_exc, ev_notT, notT1_ok, notT1_exc, ev_andT, andT1_t, andT1_f, andT1_exc, ev_orT, orT1_t, orT1_f, orT1_exc, ev_and, and1_t, and1_f, and1_exc, ev_or, or1_t, or1_f, or1_exc, ev_if, if1_t, if1_f, if1_exc, ev_chain, ch1_ok, ch1_exc, ch2_ok, ch2_exc, chm_t, chm_f, ch3_ok, ch3_exc, ev_nil, ev_cons, cons1_ok, cons1_exc, cons2_ok, cons2_exc, ev_tup, ev_lst, tup1_ok, tup1_exc, lst1_ok, lst1_exc, ev_no, ev_part, part1_ok, ev_sl, sl1_ok, sl1_exc, sl2_ok, sl3_ok, ev_cb, cb1_ok, cb1_exc, ev_call, call1_ok, call1_exc, ev_make, make1_ok, make1_exc, make2_ok, make2_exc, ev_meth, meth1_ok, meth1_exc, methm_some, methk_ok, methk_exc, cls_obj, ev_bm, bm1_ok, bm1_exc, bm2_ok, bm2_exc, ev_itAny, it1_ok, ev_rng1, rng1_ok, ev_rng2, rng2_ok, ev_enum, enum1_lst, enum1_scr, ev_zip, zip1_lst, ev_skip, ev_seq, seq1_nx, seq1_rt, seq1_bk, seq1_ct, seq1_exc, ev_brk, ev_cnt, ev_expr, expr1_ok, expr1_exc, ev_ret, ret1_ok, ret1_exc, ev_retN, ev_ifS, ifS1_t, ifS1_f, ifS1_exc, nxO_some, ev_asg, asg1_ok, asg1_exc, gN_ap, gTup_ap, gNs_nil, gNs_cons, ev_par, par1_ok, par1_exc, ev_for, for1_ok, for1_exc, forM_some, forK_nx, forK_ct, forK_bk, forK_rt, forK_exc, ev_tryK, tryK1_nx, tryK1_rt, ev_raise, ev_setF, setF1_exc, ev_run, run1_rt, run1_nx, run1_exc, ev_init, init1_nx, init1_exc, add_i, add_s, add_l, add_t, sub_i, mul_i, fdiv_i, mod_i, pow_i, neg_i, not_b, lt_i, le_i, gt_i, ge_i, eq_i, ne_i, eq_s, ne_s, is_n, nis_n, abs_i, int_i, int_b, str_i, str_s, list_s, list_l, list_t, tup_s, tup_l, tup_t, len_l, len_t, len_r, idx_l, idx_t, idx_r, sl_l, sl_t, whC_t, whC_f, whK_nx, whK_ct, whK_bk, whK_rt, at_0, at_1, at_2, at_3, at_4, ev_ixS, ixS0_val, ixS0_own, ixS1_ok, gAny_t, gAny_l, ev_newL, newL1_ok, ev_app, app0_own, app1_ok, ev_setI, setI0_own, setI1_ok, setI2_ok, ev_frz, frz0_own, frz0_val, lcL_nil, lcL_cons, lcO_some, lcA_t, lcA_f, lcB_ok, lc2_ok, ev_yes, wipe_nil, wipe_cons, ev_lc, lc0_ok, lcE_ok, it_l, it_t, it_r, ev_starts, ev_ends, ev_isB, ev_notB, ev_itS, ev_isStr, ev_isLst, List.getElem?_cons_zero, List.getElem?_cons_succ, List.set_cons_zero, List.set_cons_succ, List.length_cons, List.length_nil, List.cons_append, List.nil_append, List.append_nil, Nat.reduceAdd, Nat.reduceLeDiff, Nat.reduceEqDiff, ↓reduceIte, ofO_some, Bool.not_true, Bool.not_false, Option.map_some, Option.bind_some, decide_true, decide_false, Nat.zero_add, isN, Bool.false_eq_true, List.set_cons_zero, Int.reduceLT, Int.reduceLE, Int.reduceEq, fdiv_i hd]
    rw [setF1_own rfl put_Ratio_bottom]
    rfl
  · rw [if_neg hz] at hd ⊢
    simp -implicitDefEqProofs only [r_Ratio_init, c_Ratio_init, ev_var, ev_c, ev_bin, bin1_ok, bin1_exc, bin2_ok, bin2_exc, ev_un, ev_fld, ev_isI, un1_ok, un1_exc, ev_test, test1_ok, test1_exc, ev_notT, notT1_ok, notT1_exc, ev_andT, andT1_t, andT1_f, andT1_exc, ev_orT, orT1_t, orT1_f, orT1_exc, ev_and, and1_t, and1_f, and1_exc, ev_or, or1_t, or1_f, or1_exc, ev_if, if1_t, if1_f, if1_exc, ev_chain, ch1_ok, ch1_exc, ch2_ok, ch2_exc, chm_t, chm_f, ch3_ok, ch3_exc, ev_nil, ev_cons, cons1_ok, cons1_exc, cons2_ok, cons2_exc, ev_tup, ev_lst, tup1_ok, tup1_exc, lst1_ok, lst1_exc, ev_no, ev_part, part1_ok, ev_sl, sl1_ok, sl1_exc, sl2_ok, sl3_ok, ev_cb, cb1_ok, cb1_exc, ev_call, call1_ok, call1_exc, ev_make, make1_ok, make1_exc, make2_ok, make2_exc, ev_meth, meth1_ok, meth1_exc, methm_some, methk_ok, methk_exc, cls_obj, ev_bm, bm1_ok, bm1_exc, bm2_ok, bm2_exc, ev_itAny, it1_ok, ev_rng1, rng1_ok, ev_rng2, rng2_ok, ev_enum, enum1_lst, enum1_scr, ev_zip, zip1_lst, ev_skip, ev_seq, seq1_nx, seq1_rt, seq1_bk, seq1_ct, seq1_exc, ev_brk, ev_cnt, ev_expr, expr1_ok, expr1_exc, ev_ret, ret1_ok, ret1_exc, ev_retN, ev_ifS, ifS1_t, ifS1_f, ifS1_exc, nxO_some, ev_asg, asg1_ok, asg1_exc, gN_ap, gTup_ap, gNs_nil, gNs_cons, ev_par, par1_ok, par1_exc, ev_for, for1_ok, for1_exc, forM_some, forK_nx, forK_ct, forK_bk, forK_rt, forK_exc, ev_tryK, tryK1_nx, tryK1_rt, ev_raise, ev_setF, setF1_exc, ev_run, run1_rt, run1_nx, run1_exc, ev_init, init1_nx, init1_exc, add_i, add_s, add_l, add_t, sub_i, mul_i, fdiv_i, mod_i, pow_i, neg_i, not_b, lt_i, le_i, gt_i, ge_i, eq_i, ne_i, eq_s, ne_s, is_n, nis_n, abs_i, int_i, int_b, str_i, str_s, list_s, list_l, list_t, tup_s, tup_l, tup_t, len_l, len_t, len_r, idx_l, idx_t, idx_r, sl_l, sl_t, whC_t, whC_f, whK_nx, whK_ct, whK_bk, whK_rt, at_0, at_1, at_2, at_3, at_4, ev_ixS, ixS0_val, ixS0_own, ixS1_ok, gAny_t, gAny_l, ev_newL, newL1_ok, ev_app, app0_own, app1_ok, ev_setI, setI0_own, setI1_ok, setI2_ok, ev_frz, frz0_own, frz0_val, lcL_nil, lcL_cons, lcO_some, lcA_t, lcA_f, lcB_ok, lc2_ok, ev_yes, wipe_nil, wipe_cons, ev_lc, lc0_ok, lcE_ok, it_l, it_t, it_r, ev_starts, ev_ends, ev_isB, ev_notB, ev_itS, ev_isStr, ev_isLst, List.getElem?_cons_zero, List.getElem?_cons_succ, List.set_cons_zero, List.set_cons_succ, List.length_cons, List.length_nil, List.cons_append, List.nil_append, List.append_nil, Nat.reduceAdd, Nat.reduceLeDiff, Nat.reduceEqDiff, ↓reduceIte, ofO_some, Bool.not_true, Bool.not_false, Option.map_some, Option.bind_some, decide_true, decide_false, Nat.zero_add, isN, Bool.false_eq_true, List.set_cons_zero, Int.reduceLT, Int.reduceLE, Int.reduceEq, p_common, decide_eq_false hz, decide_eq_false h, fdiv_i hd]
    rw [setF1_own rfl put_Ratio_top]
    simp -implicitDefEqProofs only [ev_var, ev_c, ev_bin, bin1_ok, bin1_exc, bin2_ok, bin2_exc, ev_un, ev_fld, ev_isI, un1_ok, un1_exc, ev_test, test1_ok, test1_exc, ev_notT, notT1_ok, notT1_exc, ev_andT, andT1_t, andT1_f, andT1_exc, ev_orT, orT1_t, orT1_f, orT1_exc, ev_and, and1_t, and1_f, and1_exc, ev_or, or1_t, or1_f, or1_exc, ev_if, if1_t, if1_f, if1_exc, ev_chain, ch1_ok, ch1_exc, ch2_ok, ch2_exc, chm_t, chm_f, ch3_ok, ch3_exc, ev_nil, ev_cons, cons1_ok, cons1_exc, cons2_ok, cons2_exc, ev_tup, ev_lst, tup1_ok, tup1_exc, lst1_ok, lst1_exc, ev_no, ev_part, part1_ok, ev_sl, sl1_ok, sl1_exc, sl2_ok, sl3_ok, ev_cb, cb1_ok, cb1_exc, ev_call, call1_ok, call1_exc, ev_make, make1_ok, make1_exc, make2_ok, make2_exc, ev_meth, meth1_ok, meth1_exc, methm_some, methk_ok, methk_exc, cls_obj, ev_bm, bm1_ok, bm1_exc, bm2_ok, bm2_exc, ev_itAny, it1_ok, ev_rng1, rng1_ok, ev_rng2, rng2_ok, ev_enum, enum1_lst, enum1_scr, ev_zip, zip1_lst, ev_skip, ev_seq, seq1_nx, seq1_rt, seq1_bk, seq1_ct, seq1_exc, ev_brk, ev_cnt, ev_expr, expr1_ok, expr1_exc, ev_ret, ret1_ok, ret1_exc, ev_retN, ev_ifS, ifS1_t, ifS1_f, ifS1_exc, nxO_some, ev_asg, asg1_ok, asg1_exc, gN_ap, gTup_ap, gNs_nil, gNs_cons, ev_par, par1_ok, par1_exc, ev_for, for1_ok, for1_exc, forM_some, forK_nx, forK_ct, forK_bk, forK_rt, forK_exc, ev_tryK, tryK1_nx, tryK1_rt, ev_raise, ev_setF, setF1_exc, ev_run, run1_rt, run1_nx, run1_exc, ev_init, init1_nx, init1_exc, add_i, add_s, add_l, add_t, sub_i, mul_i, fdiv_i, mod_i, pow_i, neg_i, not_b, lt_i, le_i, gt_i, ge_i, eq_i, ne_i, eq_s, ne_s, is_n, nis_n, abs_i, int_i, int_b, str_i, str_s, list_s, list_l, list_t, tup_s, tup_l, tup_t, len_l, len_t, len_r, idx_l, idx_t, idx_r, sl_l, sl_t, whC_t, whC_f, whK_nx, whK_ct, whK_bk, whK_rt, at_0, at_1, at_2, at_3, at_4, ev_ixS, ixS0_val, ixS0_own, ixS1_ok, gAny_t, gAny_l, ev_newL, newL1_ok, ev_app, app0_own, app1_ok, ev_setI, setI0_own, setI1_ok, setI2_ok, ev_frz, frz0_own, frz0_val, lcL_nil, lcL_cons, lcO_some, lcA_t, lcA_f, lcB_ok, lc2_ok, ev_yes, wipe_nil, wipe_cons, ev_lc, lc0_ok, lcE_ok, it_l, it_t, it_r, ev_starts, ev_ends, ev_isB, ev_notB, ev_itS, ev_isStr, ev_isLst, List.getElem?_cons_zero, List.getElem?_cons_succ, List.set_cons_zero, List.set_cons_succ, List.length_cons, List.length_nil, List.cons_append, List.nil_append, List.append_nil, Nat.reduceAdd, Nat.reduceLeDiff, Nat.reduceEqDiff, ↓reduceIte, ofO_some, Bool.not_true, Bool.not_false, Option.map_some, Option.bind_some, decide_true, decide_false, Nat.zero_add, isN, Bool.false_eq_true, List.set_cons_zero, Int.reduceLT, Int.reduceLE, Int.reduceEq, fdiv_i hd]
    rw [setF1_own rfl put_Ratio_bottom]
    rfl
theorem p_rt {q : Rat} {n : Nat} (h : Sz n q) (h9 : n ≤ 9000) {ah : AH} : f_Ratio_init [.int q.num, .int ((q.den : Nat) : Int)] ah = .ok [.int q.num, .int ((q.den : Nat) : Int)] ah := by
  rw [p_initQ (den_ne q) (den_ab h) h9, Rat.num_divInt_den]
theorem p_rti {i : Int} {ah : AH} : f_Ratio_init [.int i, .int 1] ah = .ok [.int (i : Rat).num, .int ((i : Rat).den : Int)] ah := by
  rw [p_initQ (n := 2) (by decide) (by decide) (by decide)]
  have e : Rat.divInt i 1 = (i : Rat) := by
    rw [Rat.divInt_eq_div]
    have e1 : ((1 : Int) : Rat) = 1 := rfl
    rw [e1]
    grind
  rw [e]
theorem sz_pos {q : Rat} {n : Nat} (h : Sz n q) : 0 < n := by
  have := h.2
  have := q.den_pos
  cases n with
  | zero => omega
  | succ n => omega
theorem mO {x y : Int} {m n : Nat} (hx : x.natAbs < 2 ^ m) (hy : y.natAbs < 2 ^ n) (h1 : 0 < m) (h2 : 0 < n) (h : m + n ≤ 9000) : mulOk x y := mulOk_w hx hy h1 h2 (by omega)
theorem p_plusQ {a b : Rat} {m n : Nat} (ha : Sz m a) (hb : Sz n b) (h : m + n ≤ 9000) {ah : AH} : f_Ratio_plus [rt a, rt b] ah = .ok (rt (a + b)) ah := by
  have o1 := mO ha.1 (den_ab hb) (sz_pos ha) (sz_pos hb) h
  have o2 := mO hb.1 (den_ab ha) (sz_pos hb) (sz_pos ha) (by omega)
  have o3 := mO (den_ab ha) (den_ab hb) (sz_pos ha) (sz_pos hb) h
  unfold rt
  simp -implicitDefEqProofs only [r_Ratio_plus, c_Ratio_plus, ev_var, ev_c, ev_bin, bin1_ok, bin1_exc, bin2_ok, bin2_exc, ev_un, ev_fld, ev_isI, un1_ok, un1_exc, ev_test, test1_ok, test1_exc, ev_notT, notT1_ok, notT1_exc, ev_andT, andT1_t, andT1_f, andT1_exc, ev_orT, orT1_t, orT1_f, orT1_exc, ev_and, and1_t, and1_f, and1_exc, ev_or, or1_t, or1_f, or1_exc, ev_if, if1_t, if1_f, if1_exc, ev_chain, ch1_ok, ch1_exc, ch2_ok, ch2_exc, chm_t, chm_f, ch3_ok, ch3_exc, ev_nil, ev_cons, cons1_ok, cons1_exc, cons2_ok, cons2_exc, ev_tup, ev_lst, tup1_ok, tup1_exc, lst1_ok, lst1_exc, ev_no, ev_part, part1_ok, ev_sl, sl1_ok, sl1_exc, sl2_ok, sl3_ok, ev_cb, cb1_ok, cb1_exc, ev_call, call1_ok, call1_exc, ev_make, make1_ok, make1_exc, make2_ok, make2_exc, ev_meth, meth1_ok, meth1_exc, methm_some, methk_ok, methk_exc, cls_obj, ev_bm, bm1_ok, bm1_exc, bm2_ok, bm2_exc, ev_itAny, it1_ok, ev_rng1, rng1_ok, ev_rng2, rng2_ok, ev_enum, enum1_lst, enum1_scr, ev_zip, zip1_lst, ev_skip, ev_seq, seq1_nx, seq1_rt, seq1_bk, seq1_ct, seq1_exc, ev_brk, ev_cnt, ev_expr, expr1_ok, expr1_exc, ev_ret, ret1_ok, ret1_exc, ev_retN, ev_ifS, ifS1_t, ifS1_f, ifS1_exc, nxO_some, ev_asg, asg1_ok, asg1_exc, gN_ap, gTup_ap, gNs_nil, gNs_cons, ev_par, par1_ok, par1_exc, ev_for, for1_ok, for1_exc, forM_some, forK_nx, forK_ct, forK_bk, forK_rt, forK_exc, ev_tryK, tryK1_nx, tryK1_rt, ev_raise, ev_setF, setF1_exc, ev_run, run1_rt, run1_nx, run1_exc, ev_init, init1_nx, init1_exc, add_i, add_s, add_l, add_t, sub_i, mul_i, fdiv_i, mod_i, pow_i, neg_i, not_b, lt_i, le_i, gt_i, ge_i, eq_i, ne_i, eq_s, ne_s, is_n, nis_n, abs_i, int_i, int_b, str_i, str_s, list_s, list_l, list_t, tup_s, tup_l, tup_t, len_l, len_t, len_r, idx_l, idx_t, idx_r, sl_l, sl_t, whC_t, whC_f, whK_nx, whK_ct, whK_bk, whK_rt, at_0, at_1, at_2, at_3, at_4, ev_ixS, ixS0_val, ixS0_own, ixS1_ok, gAny_t, gAny_l, ev_newL, newL1_ok, ev_app, app0_own, app1_ok, ev_setI, setI0_own, setI1_ok, setI2_ok, ev_frz, frz0_own, frz0_val, lcL_nil, lcL_cons, lcO_some, lcA_t, lcA_f, lcB_ok, lc2_ok, ev_yes, wipe_nil, wipe_cons, ev_lc, lc0_ok, lcE_ok, it_l, it_t, it_r, ev_starts, ev_ends, ev_isB, ev_notB, ev_itS, ev_isStr, ev_isLst, List.getElem?_cons_zero, List.getElem?_cons_succ, List.set_cons_zero, List.set_cons_succ, List.length_cons, List.length_nil, List.cons_append, List.nil_append, List.append_nil, Nat.reduceAdd, Nat.reduceLeDiff, Nat.reduceEqDiff, ↓reduceIte, ofO_some, Bool.not_true, Bool.not_false, Option.map_some, Option.bind_some, decide_true, decide_false, Nat.zero_add, isN, Bool.false_eq_true, List.set_cons_zero, Int.reduceLT, Int.reduceLE, Int.reduceEq, fl_Ratio_top, fl_Ratio_bottom, mul_i o1, mul_i o2, mul_i o3, p_initQ (den_ne2 a b) (nab_mul (den_ab ha) (den_ab hb)) h, ← add_eq]
theorem p_turnedQ {a : Rat} {m : Nat} (ha : Sz m a) (h : m ≤ 9000) {ah : AH} : f_Ratio_turned [rt a] ah = .ok (rt (-a)) ah := by
  have e : Rat.divInt (-a.num) ((a.den : Nat) : Int) = -a := by rw [← Rat.neg_divInt, Rat.num_divInt_den]
  unfold rt
  simp -implicitDefEqProofs only [r_Ratio_turned, c_Ratio_turned, ev_var, ev_c, ev_bin, bin1_ok, bin1_exc, bin2_ok, bin2_exc, ev_un, ev_fld, ev_isI, un1_ok, un1_exc, ev_test, test1_ok, test1_exc, ev_notT, notT1_ok, notT1_exc, ev_andT, andT1_t, andT1_f, andT1_exc, ev_orT, orT1_t, orT1_f, orT1_exc, ev_and, and1_t, and1_f, and1_exc, ev_or, or1_t, or1_f, or1_exc, ev_if, if1_t, if1_f, if1_exc, ev_chain, ch1_ok, ch1_exc, ch2_ok, ch2_exc, chm_t, chm_f, ch3_ok, ch3_exc, ev_nil, ev_cons, cons1_ok, cons1_exc, cons2_ok, cons2_exc, ev_tup, ev_lst, tup1_ok, tup1_exc, lst1_ok, lst1_exc, ev_no, ev_part, part1_ok, ev_sl, sl1_ok, sl1_exc, sl2_ok, sl3_ok, ev_cb, cb1_ok, cb1_exc, ev_call, call1_ok, call1_exc, ev_make, make1_ok, make1_exc, make2_ok, make2_exc, ev_meth, meth1_ok, meth1_exc, methm_some, methk_ok, methk_exc, cls_obj, ev_bm, bm1_ok, bm1_exc, bm2_ok, bm2_exc, ev_itAny, it1_ok, ev_rng1, rng1_ok, ev_rng2, rng2_ok, ev_enum, enum1_lst, enum1_scr, ev_zip, zip1_lst, ev_skip, ev_seq, seq1_nx, seq1_rt, seq1_bk, seq1_ct, seq1_exc, ev_brk, ev_cnt, ev_expr, expr1_ok, expr1_exc, ev_ret, ret1_ok, ret1_exc, ev_retN, ev_ifS, ifS1_t, ifS1_f, ifS1_exc, nxO_some, ev_asg, asg1_ok, asg1_exc, gN_ap, gTup_ap, gNs_nil, gNs_cons, ev_par, par1_ok, par1_exc, ev_for, for1_ok, for1_exc, forM_some, forK_nx, forK_ct, forK_bk, forK_rt, forK_exc, ev_tryK, tryK1_nx, tryK1_rt, ev_raise, ev_setF, setF1_exc, ev_run, run1_rt, run1_nx, run1_exc, ev_init, init1_nx, init1_exc, add_i, add_s, add_l, add_t, sub_i, mul_i, fdiv_i, mod_i, pow_i, neg_i, not_b, lt_i, le_i, gt_i, ge_i, eq_i, ne_i, eq_s, ne_s, is_n, nis_n, abs_i, int_i, int_b, str_i, str_s, list_s, list_l, list_t, tup_s, tup_l, tup_t, len_l, len_t, len_r, idx_l, idx_t, idx_r, sl_l, sl_t, whC_t, whC_f, whK_nx, whK_ct, whK_bk, whK_rt, at_0, at_1, at_2, at_3, at_4, ev_ixS, ixS0_val, ixS0_own, ixS1_ok, gAny_t, gAny_l, ev_newL, newL1_ok, ev_app, app0_own, app1_ok, ev_setI, setI0_own, setI1_ok, setI2_ok, ev_frz, frz0_own, frz0_val, lcL_nil, lcL_cons, lcO_some, lcA_t, lcA_f, lcB_ok, lc2_ok, ev_yes, wipe_nil, wipe_cons, ev_lc, lc0_ok, lcE_ok, it_l, it_t, it_r, ev_starts, ev_ends, ev_isB, ev_notB, ev_itS, ev_isStr, ev_isLst, List.getElem?_cons_zero, List.getElem?_cons_succ, List.set_cons_zero, List.set_cons_succ, List.length_cons, List.length_nil, List.cons_append, List.nil_append, List.append_nil, Nat.reduceAdd, Nat.reduceLeDiff, Nat.reduceEqDiff, ↓reduceIte, ofO_some, Bool.not_true, Bool.not_false, Option.map_some, Option.bind_some, decide_true, decide_false, Nat.zero_add, isN, Bool.false_eq_true, List.set_cons_zero, Int.reduceLT, Int.reduceLE, Int.reduceEq, fl_Ratio_top, fl_Ratio_bottom, p_initQ (den_ne a) (den_ab ha) h, e]
theorem p_minusQ {a b : Rat} {m n : Nat} (ha : Sz m a) (hb : Sz n b) (h : m + n ≤ 9000) {ah : AH} : f_Ratio_minus [rt a, rt b] ah = .ok (rt (a - b)) ah := by
  have e1 := fun ah => p_turnedQ (ah := ah) hb (by omega)
  have e2 := fun ah => p_plusQ (ah := ah) ha (sz_neg hb) h
  have m1 : mt_turned 3 = some (f_Ratio_turned, 1) := rfl
  have m2 : mt_plus 3 = some (f_Ratio_plus, 2) := rfl
  rw [Rat.sub_eq_add_neg]
  have c1 : ∀ ah q, clsD ah (rt q) = some 3 := fun _ _ => rfl
  simp -implicitDefEqProofs only [r_Ratio_minus, c_Ratio_minus, ev_var, ev_c, ev_bin, bin1_ok, bin1_exc, bin2_ok, bin2_exc, ev_un, ev_fld, ev_isI, un1_ok, un1_exc, ev_test, test1_ok, test1_exc, ev_notT, notT1_ok, notT1_exc, ev_andT, andT1_t, andT1_f, andT1_exc, ev_orT, orT1_t, orT1_f, orT1_exc, ev_and, and1_t, and1_f, and1_exc, ev_or, or1_t, or1_f, or1_exc, ev_if, if1_t, if1_f, if1_exc, ev_chain, ch1_ok, ch1_exc, ch2_ok, ch2_exc, chm_t, chm_f, ch3_ok, ch3_exc, ev_nil, ev_cons, cons1_ok, cons1_exc, cons2_ok, cons2_exc, ev_tup, ev_lst, tup1_ok, tup1_exc, lst1_ok, lst1_exc, ev_no, ev_part, part1_ok, ev_sl, sl1_ok, sl1_exc, sl2_ok, sl3_ok, ev_cb, cb1_ok, cb1_exc, ev_call, call1_ok, call1_exc, ev_make, make1_ok, make1_exc, make2_ok, make2_exc, ev_meth, meth1_ok, meth1_exc, methm_some, methk_ok, methk_exc, cls_obj, ev_bm, bm1_ok, bm1_exc, bm2_ok, bm2_exc, ev_itAny, it1_ok, ev_rng1, rng1_ok, ev_rng2, rng2_ok, ev_enum, enum1_lst, enum1_scr, ev_zip, zip1_lst, ev_skip, ev_seq, seq1_nx, seq1_rt, seq1_bk, seq1_ct, seq1_exc, ev_brk, ev_cnt, ev_expr, expr1_ok, expr1_exc, ev_ret, ret1_ok, ret1_exc, ev_retN, ev_ifS, ifS1_t, ifS1_f, ifS1_exc, nxO_some, ev_asg, asg1_ok, asg1_exc, gN_ap, gTup_ap, gNs_nil, gNs_cons, ev_par, par1_ok, par1_exc, ev_for, for1_ok, for1_exc, forM_some, forK_nx, forK_ct, forK_bk, forK_rt, forK_exc, ev_tryK, tryK1_nx, tryK1_rt, ev_raise, ev_setF, setF1_exc, ev_run, run1_rt, run1_nx, run1_exc, ev_init, init1_nx, init1_exc, add_i, add_s, add_l, add_t, sub_i, mul_i, fdiv_i, mod_i, pow_i, neg_i, not_b, lt_i, le_i, gt_i, ge_i, eq_i, ne_i, eq_s, ne_s, is_n, nis_n, abs_i, int_i, int_b, str_i, str_s, list_s, list_l, list_t, tup_s, tup_l, tup_t, len_l, len_t, len_r, idx_l, idx_t, idx_r, sl_l, sl_t, whC_t, whC_f, whK_nx, whK_ct, whK_bk, whK_rt, at_0, at_1, at_2, at_3, at_4, ev_ixS, ixS0_val, ixS0_own, ixS1_ok, gAny_t, gAny_l, ev_newL, newL1_ok, ev_app, app0_own, app1_ok, ev_setI, setI0_own, setI1_ok, setI2_ok, ev_frz, frz0_own, frz0_val, lcL_nil, lcL_cons, lcO_some, lcA_t, lcA_f, lcB_ok, lc2_ok, ev_yes, wipe_nil, wipe_cons, ev_lc, lc0_ok, lcE_ok, it_l, it_t, it_r, ev_starts, ev_ends, ev_isB, ev_notB, ev_itS, ev_isStr, ev_isLst, List.getElem?_cons_zero, List.getElem?_cons_succ, List.set_cons_zero, List.set_cons_succ, List.length_cons, List.length_nil, List.cons_append, List.nil_append, List.append_nil, Nat.reduceAdd, Nat.reduceLeDiff, Nat.reduceEqDiff, ↓reduceIte, ofO_some, Bool.not_true, Bool.not_false, Option.map_some, Option.bind_some, decide_true, decide_false, Nat.zero_add, isN, Bool.false_eq_true, List.set_cons_zero, Int.reduceLT, Int.reduceLE, Int.reduceEq, c1, m1, m2, e1, e2]
theorem p_timesQ {a b : Rat} {m n : Nat} (ha : Sz m a) (hb : Sz n b) (h : m + n ≤ 9000) {ah : AH} : f_Ratio_times [rt a, rt b] ah = .ok (rt (a * b)) ah := by
  have o1 := mO ha.1 hb.1 (sz_pos ha) (sz_pos hb) h
  have o3 := mO (den_ab ha) (den_ab hb) (sz_pos ha) (sz_pos hb) h
  unfold rt
  simp -implicitDefEqProofs only [r_Ratio_times, c_Ratio_times, ev_var, ev_c, ev_bin, bin1_ok, bin1_exc, bin2_ok, bin2_exc, ev_un, ev_fld, ev_isI, un1_ok, un1_exc, ev_test, test1_ok, test1_exc, ev_notT, notT1_ok, notT1_exc, ev_andT, andT1_t, andT1_f, andT1_exc, ev_orT, orT1_t, orT1_f, orT1_exc, ev_and, and1_t, and1_f, and1_exc, ev_or, or1_t, or1_f, or1_exc, ev_if, if1_t, if1_f, if1_exc, ev_chain, ch1_ok, ch1_exc, ch2_ok, ch2_exc, chm_t, chm_f, ch3_ok, ch3_exc, ev_nil, ev_cons, cons1_ok, cons1_exc, cons2_ok, cons2_exc, ev_tup, ev_lst, tup1_ok, tup1_exc, lst1_ok, lst1_exc, ev_no, ev_part, part1_ok, ev_sl, sl1_ok, sl1_exc, sl2_ok, sl3_ok, ev_cb, cb1_ok, cb1_exc, ev_call, call1_ok, call1_exc, ev_make, make1_ok, make1_exc, make2_ok, make2_exc, ev_meth, meth1_ok, meth1_exc, methm_some, methk_ok, methk_exc, cls_obj, ev_bm, bm1_ok, bm1_exc, bm2_ok, bm2_exc, ev_itAny, it1_ok, ev_rng1, rng1_ok, ev_rng2, rng2_ok, ev_enum, enum1_lst, enum1_scr, ev_zip, zip1_lst, ev_skip, ev_seq, seq1_nx, seq1_rt, seq1_bk, seq1_ct, seq1_exc, ev_brk, ev_cnt, ev_expr, expr1_ok, expr1_exc, ev_ret, ret1_ok, ret1_exc, ev_retN, ev_ifS, ifS1_t, ifS1_f, ifS1_exc, nxO_some, ev_asg, asg1_ok, asg1_exc, gN_ap, gTup_ap, gNs_nil, gNs_cons, ev_par, par1_ok, par1_exc, ev_for, for1_ok, for1_exc, forM_some, forK_nx, forK_ct, forK_bk, forK_rt, forK_exc, ev_tryK, tryK1_nx, tryK1_rt, ev_raise, ev_setF, setF1_exc, ev_run, run1_rt, run1_nx, run1_exc, ev_init, init1_nx, init1_exc, add_i, add_s, add_l, add_t, sub_i, mul_i, fdiv_i, mod_i, pow_i, neg_i, not_b, lt_i, le_i, gt_i, ge_i, eq_i, ne_i, eq_s, ne_s, is_n, nis_n, abs_i, int_i, int_b, str_i, str_s, list_s, list_l, list_t, tup_s, tup_l, tup_t, len_l, len_t, len_r, idx_l, idx_t, idx_r, sl_l, sl_t, whC_t, whC_f, whK_nx, whK_ct, whK_bk, whK_rt, at_0, at_1, at_2, at_3, at_4, ev_ixS, ixS0_val, ixS0_own, ixS1_ok, gAny_t, gAny_l, ev_newL, newL1_ok, ev_app, app0_own, app1_ok, ev_setI, setI0_own, setI1_ok, setI2_ok, ev_frz, frz0_own, frz0_val, lcL_nil, lcL_cons, lcO_some, lcA_t, lcA_f, lcB_ok, lc2_ok, ev_yes, wipe_nil, wipe_cons, ev_lc, lc0_ok, lcE_ok, it_l, it_t, it_r, ev_starts, ev_ends, ev_isB, ev_notB, ev_itS, ev_isStr, ev_isLst, List.getElem?_cons_zero, List.getElem?_cons_succ, List.set_cons_zero, List.set_cons_succ, List.length_cons, List.length_nil, List.cons_append, List.nil_append, List.append_nil, Nat.reduceAdd, Nat.reduceLeDiff, Nat.reduceEqDiff, ↓reduceIte, ofO_some, Bool.not_true, Bool.not_false, Option.map_some, Option.bind_some, decide_true, decide_false, Nat.zero_add, isN, Bool.false_eq_true, List.set_cons_zero, Int.reduceLT, Int.reduceLE, Int.reduceEq, fl_Ratio_top, fl_Ratio_bottom, mul_i o1, mul_i o3, p_initQ (den_ne2 a b) (nab_mul (den_ab ha) (den_ab hb)) h, ← mul_eq]
theorem p_overQ {a b : Rat} {m n : Nat} (ha : Sz m a) (hb : Sz n b) (h : m + n ≤ 9000) (h0 : b ≠ 0) {ah : AH} : f_Ratio_over [rt a, rt b] ah = .ok (rt (a / b)) ah := by
  have o1 := mO ha.1 (den_ab hb) (sz_pos ha) (sz_pos hb) h
  have o3 := mO (den_ab ha) hb.1 (sz_pos ha) (sz_pos hb) h
  unfold rt
  simp -implicitDefEqProofs only [r_Ratio_over, c_Ratio_over, ev_var, ev_c, ev_bin, bin1_ok, bin1_exc, bin2_ok, bin2_exc, ev_un, ev_fld, ev_isI, un1_ok, un1_exc, ev_test, test1_ok, test1_exc, ev_notT, notT1_ok, notT1_exc, ev_andT, andT1_t, andT1_f, andT1_exc, ev_orT, orT1_t, orT1_f, orT1_exc, ev_and, and1_t, and1_f, and1_exc, ev_or, or1_t, or1_f, or1_exc, ev_if, if1_t, if1_f, if1_exc, ev_chain, ch1_ok, ch1_exc, ch2_ok, ch2_exc, chm_t, chm_f, ch3_ok, ch3_exc, ev_nil, ev_cons, cons1_ok, cons1_exc, cons2_ok, cons2_exc, ev_tup, ev_lst, tup1_ok, tup1_exc, lst1_ok, lst1_exc, ev_no, ev_part, part1_ok, ev_sl, sl1_ok, sl1_exc, sl2_ok, sl3_ok, ev_cb, cb1_ok, cb1_exc, ev_call, call1_ok, call1_exc, ev_make, make1_ok, make1_exc, make2_ok, make2_exc, ev_meth, meth1_ok, meth1_exc, methm_some, methk_ok, methk_exc, cls_obj, ev_bm, bm1_ok, bm1_exc, bm2_ok, bm2_exc, ev_itAny, it1_ok, ev_rng1, rng1_ok, ev_rng2, rng2_ok, ev_enum, enum1_lst, enum1_scr, ev_zip, zip1_lst, ev_skip, ev_seq, seq1_nx, seq1_rt, seq1_bk, seq1_ct, seq1_exc, ev_brk, ev_cnt, ev_expr, expr1_ok, expr1_exc, ev_ret, ret1_ok, ret1_exc, ev_retN, ev_ifS, ifS1_t, ifS1_f, ifS1_exc, nxO_some, ev_asg, asg1_ok, asg1_exc, gN_ap, gTup_ap, gNs_nil, gNs_cons, ev_par, par1_ok, par1_exc, ev_for, for1_ok, for1_exc, forM_some, forK_nx, forK_ct, forK_bk, forK_rt, forK_exc, ev_tryK, tryK1_nx, tryK1_rt, ev_raise, ev_setF, setF1_exc, ev_run, run1_rt, run1_nx, run1_exc, ev_init, init1_nx, init1_exc, add_i, add_s, add_l, add_t, sub_i, mul_i, fdiv_i, mod_i, pow_i, neg_i, not_b, lt_i, le_i, gt_i, ge_i, eq_i, ne_i, eq_s, ne_s, is_n, nis_n, abs_i, int_i, int_b, str_i, str_s, list_s, list_l, list_t, tup_s, tup_l, tup_t, len_l, len_t, len_r, idx_l, idx_t, idx_r, sl_l, sl_t, whC_t, whC_f, whK_nx, whK_ct, whK_bk, whK_rt, at_0, at_1, at_2, at_3, at_4, ev_ixS, ixS0_val, ixS0_own, ixS1_ok, gAny_t, gAny_l, ev_newL, newL1_ok, ev_app, app0_own, app1_ok, ev_setI, setI0_own, setI1_ok, setI2_ok, ev_frz, frz0_own, frz0_val, lcL_nil, lcL_cons, lcO_some, lcA_t, lcA_f, lcB_ok, lc2_ok, ev_yes, wipe_nil, wipe_cons, ev_lc, lc0_ok, lcE_ok, it_l, it_t, it_r, ev_starts, ev_ends, ev_isB, ev_notB, ev_itS, ev_isStr, ev_isLst, List.getElem?_cons_zero, List.getElem?_cons_succ, List.set_cons_zero, List.set_cons_succ, List.length_cons, List.length_nil, List.cons_append, List.nil_append, List.append_nil, Nat.reduceAdd, Nat.reduceLeDiff, Nat.reduceEqDiff, ↓reduceIte, ofO_some, Bool.not_true, Bool.not_false, Option.map_some, Option.bind_some, decide_true, decide_false, Nat.zero_add, isN, Bool.false_eq_true, List.set_cons_zero, Int.reduceLT, Int.reduceLE, Int.reduceEq, fl_Ratio_top, fl_Ratio_bottom, mul_i o1, mul_i o3, p_initQ (Int.mul_ne_zero (den_ne a) (num_ne h0)) (nab_mul (den_ab ha) hb.1) h, ← div_eq]
theorem p_signQ {a : Rat} {ah : AH} : f_Ratio_sign [rt a] ah = .ok (.int (if 0 < a then 1 else if a < 0 then -1 else 0)) ah := by
  have e1 : ∀ (z : Bool) (ah : AH), G.intD ah [.bl z] = some (.int (if z then 1 else 0)) := fun z ah => rfl
  have p1 : (0 < a) ↔ (0 < a.num) := num_pos_iff.symm
  have p2 : (a < 0) ↔ (a.num < 0) := num_neg_iff.symm
  unfold rt
  simp -implicitDefEqProofs only [r_Ratio_sign, c_Ratio_sign, ev_var, ev_c, ev_bin, bin1_ok, bin1_exc, bin2_ok, bin2_exc, ev_un, ev_fld, ev_isI, un1_ok, un1_exc, ev_test, test1_ok, test1_exc, ev_notT, notT1_ok, notT1_exc, ev_andT, andT1_t, andT1_f, andT1_exc, ev_orT, orT1_t, orT1_f, orT1_exc, ev_and, and1_t, and1_f, and1_exc, ev_or, or1_t, or1_f, or1_exc, ev_if, if1_t, if1_f, if1_exc, ev_chain, ch1_ok, ch1_exc, ch2_ok, ch2_exc, chm_t, chm_f, ch3_ok, ch3_exc, ev_nil, ev_cons, cons1_ok, cons1_exc, cons2_ok, cons2_exc, ev_tup, ev_lst, tup1_ok, tup1_exc, lst1_ok, lst1_exc, ev_no, ev_part, part1_ok, ev_sl, sl1_ok, sl1_exc, sl2_ok, sl3_ok, ev_cb, cb1_ok, cb1_exc, ev_call, call1_ok, call1_exc, ev_make, make1_ok, make1_exc, make2_ok, make2_exc, ev_meth, meth1_ok, meth1_exc, methm_some, methk_ok, methk_exc, cls_obj, ev_bm, bm1_ok, bm1_exc, bm2_ok, bm2_exc, ev_itAny, it1_ok, ev_rng1, rng1_ok, ev_rng2, rng2_ok, ev_enum, enum1_lst, enum1_scr, ev_zip, zip1_lst, ev_skip, ev_seq, seq1_nx, seq1_rt, seq1_bk, seq1_ct, seq1_exc, ev_brk, ev_cnt, ev_expr, expr1_ok, expr1_exc, ev_ret, ret1_ok, ret1_exc, ev_retN, ev_ifS, ifS1_t, ifS1_f, ifS1_exc, nxO_some, ev_asg, asg1_ok, asg1_exc, gN_ap, gTup_ap, gNs_nil, gNs_cons, ev_par, par1_ok, par1_exc, ev_for, for1_ok, for1_exc, forM_some, forK_nx, forK_ct, forK_bk, forK_rt, forK_exc, ev_tryK, tryK1_nx, tryK1_rt, ev_raise, ev_setF, setF1_exc, ev_run, run1_rt, run1_nx, run1_exc, ev_init, init1_nx, init1_exc, add_i, add_s, add_l, add_t, sub_i, mul_i, fdiv_i, mod_i, pow_i, neg_i, not_b, lt_i, le_i, gt_i, ge_i, eq_i, ne_i, eq_s, ne_s, is_n, nis_n, abs_i, int_i, int_b, str_i, str_s, list_s, list_l, list_t, tup_s, tup_l, tup_t, len_l, len_t, len_r, idx_l, idx_t, idx_r, sl_l, sl_t, whC_t, whC_f, whK_nx, whK_ct, whK_bk, whK_rt, at_0, at_1, at_2, at_3, at_4, ev_ixS, ixS0_val, ixS0_own, ixS1_ok, gAny_t, gAny_l, ev_newL, newL1_ok, ev_app, app0_own, app1_ok, ev_setI, setI0_own, setI1_ok, setI2_ok, ev_frz, frz0_own, frz0_val, lcL_nil, lcL_cons, lcO_some, lcA_t, lcA_f, lcB_ok, lc2_ok, ev_yes, wipe_nil, wipe_cons, ev_lc, lc0_ok, lcE_ok, it_l, it_t, it_r, ev_starts, ev_ends, ev_isB, ev_notB, ev_itS, ev_isStr, ev_isLst, List.getElem?_cons_zero, List.getElem?_cons_succ, List.set_cons_zero, List.set_cons_succ, List.length_cons, List.length_nil, List.cons_append, List.nil_append, List.append_nil, Nat.reduceAdd, Nat.reduceLeDiff, Nat.reduceEqDiff, ↓reduceIte, ofO_some, Bool.not_true, Bool.not_false, Option.map_some, Option.bind_some, decide_true, decide_false, Nat.zero_add, isN, Bool.false_eq_true, List.set_cons_zero, Int.reduceLT, Int.reduceLE, Int.reduceEq, fl_Ratio_top, fl_Ratio_bottom, e1]
  by_cases h1 : 0 < a.num
  · have h2 : ¬ a.num < 0 := by omega
    simp [p1, p2, h1, h2]
  · by_cases h2 : a.num < 0
    · simp [p1, p2, h1, h2]
    · simp [p1, p2, h1, h2]
theorem p_floorQ {a : Rat} {m : Nat} (ha : Sz m a) (h : m ≤ 9000) {ah : AH} : f_Ratio_floor [rt a] ah = .ok (.int a.floor) ah := by
  have d : divOk ((a.den : Nat) : Int) := divOk_w (b := m) (den_ne a) (den_ab ha) (sz_pos ha) h
  unfold rt
  simp -implicitDefEqProofs only [r_Ratio_floor, c_Ratio_floor, ev_var, ev_c, ev_bin, bin1_ok, bin1_exc, bin2_ok, bin2_exc, ev_un, ev_fld, ev_isI, un1_ok, un1_exc, ev_test, test1_ok, test1_exc, ev_notT, notT1_ok, notT1_exc, ev_andT, andT1_t, andT1_f, andT1_exc, ev_orT, orT1_t, orT1_f, orT1_exc, ev_and, and1_t, and1_f, and1_exc, ev_or, or1_t, or1_f, or1_exc, ev_if, if1_t, if1_f, if1_exc, ev_chain, ch1_ok, ch1_exc, ch2_ok, ch2_exc, chm_t, chm_f, ch3_ok, ch3_exc, ev_nil, ev_cons, cons1_ok, cons1_exc, cons2_ok, cons2_exc, ev_tup, ev_lst, tup1_ok, tup1_exc, lst1_ok, lst1_exc, ev_no, ev_part, part1_ok, ev_sl, sl1_ok, sl1_exc, sl2_ok, sl3_ok, ev_cb, cb1_ok, cb1_exc, ev_call, call1_ok, call1_exc, ev_make, make1_ok, make1_exc, make2_ok, make2_exc, ev_meth, meth1_ok, meth1_exc, methm_some, methk_ok, methk_exc, cls_obj, ev_bm, bm1_ok, bm1_exc, bm2_ok, bm2_exc, ev_itAny, it1_ok, ev_rng1, rng1_ok, ev_rng2, rng2_ok, ev_enum, enum1_lst, enum1_scr, ev_zip, zip1_lst, ev_skip, ev_seq, seq1_nx, seq1_rt, seq1_bk, seq1_ct, seq1_exc, ev_brk, ev_cnt, ev_expr, expr1_ok, expr1_exc, ev_ret, ret1_ok, ret1_exc, ev_retN, ev_ifS, ifS1_t, ifS1_f, ifS1_exc, nxO_some, ev_asg, asg1_ok, asg1_exc, gN_ap, gTup_ap, gNs_nil, gNs_cons, ev_par, par1_ok, par1_exc, ev_for, for1_ok, for1_exc, forM_some, forK_nx, forK_ct, forK_bk, forK_rt, forK_exc, ev_tryK, tryK1_nx, tryK1_rt, ev_raise, ev_setF, setF1_exc, ev_run, run1_rt, run1_nx, run1_exc, ev_init, init1_nx, init1_exc, add_i, add_s, add_l, add_t, sub_i, mul_i, fdiv_i, mod_i, pow_i, neg_i, not_b, lt_i, le_i, gt_i, ge_i, eq_i, ne_i, eq_s, ne_s, is_n, nis_n, abs_i, int_i, int_b, str_i, str_s, list_s, list_l, list_t, tup_s, tup_l, tup_t, len_l, len_t, len_r, idx_l, idx_t, idx_r, sl_l, sl_t, whC_t, whC_f, whK_nx, whK_ct, whK_bk, whK_rt, at_0, at_1, at_2, at_3, at_4, ev_ixS, ixS0_val, ixS0_own, ixS1_ok, gAny_t, gAny_l, ev_newL, newL1_ok, ev_app, app0_own, app1_ok, ev_setI, setI0_own, setI1_ok, setI2_ok, ev_frz, frz0_own, frz0_val, lcL_nil, lcL_cons, lcO_some, lcA_t, lcA_f, lcB_ok, lc2_ok, ev_yes, wipe_nil, wipe_cons, ev_lc, lc0_ok, lcE_ok, it_l, it_t, it_r, ev_starts, ev_ends, ev_isB, ev_notB, ev_itS, ev_isStr, ev_isLst, List.getElem?_cons_zero, List.getElem?_cons_succ, List.set_cons_zero, List.set_cons_succ, List.length_cons, List.length_nil, List.cons_append, List.nil_append, List.append_nil, Nat.reduceAdd, Nat.reduceLeDiff, Nat.reduceEqDiff, ↓reduceIte, ofO_some, Bool.not_true, Bool.not_false, Option.map_some, Option.bind_some, decide_true, decide_false, Nat.zero_add, isN, Bool.false_eq_true, List.set_cons_zero, Int.reduceLT, Int.reduceLE, Int.reduceEq, fl_Ratio_top, fl_Ratio_bottom, fdiv_i d, floor_eq]
theorem p_restQ {a : Rat} {m : Nat} (ha : Sz m a) (h : m ≤ 9000) {ah : AH} : f_Ratio_rest [rt a] ah = .ok (rt (a - (a.floor : Rat))) ah := by
  unfold rt
  simp -implicitDefEqProofs only [r_Ratio_rest, c_Ratio_rest, ev_var, ev_c, ev_bin, bin1_ok, bin1_exc, bin2_ok, bin2_exc, ev_un, ev_fld, ev_isI, un1_ok, un1_exc, ev_test, test1_ok, test1_exc, ev_notT, notT1_ok, notT1_exc, ev_andT, andT1_t, andT1_f, andT1_exc, ev_orT, orT1_t, orT1_f, orT1_exc, ev_and, and1_t, and1_f, and1_exc, ev_or, or1_t, or1_f, or1_exc, ev_if, if1_t, if1_f, if1_exc, ev_chain, ch1_ok, ch1_exc, ch2_ok, ch2_exc, chm_t, chm_f, ch3_ok, ch3_exc, ev_nil, ev_cons, cons1_ok, cons1_exc, cons2_ok, cons2_exc, ev_tup, ev_lst, tup1_ok, tup1_exc, lst1_ok, lst1_exc, ev_no, ev_part, part1_ok, ev_sl, sl1_ok, sl1_exc, sl2_ok, sl3_ok, ev_cb, cb1_ok, cb1_exc, ev_call, call1_ok, call1_exc, ev_make, make1_ok, make1_exc, make2_ok, make2_exc, ev_meth, meth1_ok, meth1_exc, methm_some, methk_ok, methk_exc, cls_obj, ev_bm, bm1_ok, bm1_exc, bm2_ok, bm2_exc, ev_itAny, it1_ok, ev_rng1, rng1_ok, ev_rng2, rng2_ok, ev_enum, enum1_lst, enum1_scr, ev_zip, zip1_lst, ev_skip, ev_seq, seq1_nx, seq1_rt, seq1_bk, seq1_ct, seq1_exc, ev_brk, ev_cnt, ev_expr, expr1_ok, expr1_exc, ev_ret, ret1_ok, ret1_exc, ev_retN, ev_ifS, ifS1_t, ifS1_f, ifS1_exc, nxO_some, ev_asg, asg1_ok, asg1_exc, gN_ap, gTup_ap, gNs_nil, gNs_cons, ev_par, par1_ok, par1_exc, ev_for, for1_ok, for1_exc, forM_some, forK_nx, forK_ct, forK_bk, forK_rt, forK_exc, ev_tryK, tryK1_nx, tryK1_rt, ev_raise, ev_setF, setF1_exc, ev_run, run1_rt, run1_nx, run1_exc, ev_init, init1_nx, init1_exc, add_i, add_s, add_l, add_t, sub_i, mul_i, fdiv_i, mod_i, pow_i, neg_i, not_b, lt_i, le_i, gt_i, ge_i, eq_i, ne_i, eq_s, ne_s, is_n, nis_n, abs_i, int_i, int_b, str_i, str_s, list_s, list_l, list_t, tup_s, tup_l, tup_t, len_l, len_t, len_r, idx_l, idx_t, idx_r, sl_l, sl_t, whC_t, whC_f, whK_nx, whK_ct, whK_bk, whK_rt, at_0, at_1, at_2, at_3, at_4, ev_ixS, ixS0_val, ixS0_own, ixS1_ok, gAny_t, gAny_l, ev_newL, newL1_ok, ev_app, app0_own, app1_ok, ev_setI, setI0_own, setI1_ok, setI2_ok, ev_frz, frz0_own, frz0_val, lcL_nil, lcL_cons, lcO_some, lcA_t, lcA_f, lcB_ok, lc2_ok, ev_yes, wipe_nil, wipe_cons, ev_lc, lc0_ok, lcE_ok, it_l, it_t, it_r, ev_starts, ev_ends, ev_isB, ev_notB, ev_itS, ev_isStr, ev_isLst, List.getElem?_cons_zero, List.getElem?_cons_succ, List.set_cons_zero, List.set_cons_succ, List.length_cons, List.length_nil, List.cons_append, List.nil_append, List.append_nil, Nat.reduceAdd, Nat.reduceLeDiff, Nat.reduceEqDiff, ↓reduceIte, ofO_some, Bool.not_true, Bool.not_false, Option.map_some, Option.bind_some, decide_true, decide_false, Nat.zero_add, isN, Bool.false_eq_true, List.set_cons_zero, Int.reduceLT, Int.reduceLE, Int.reduceEq, fl_Ratio_top, fl_Ratio_bottom, mod_i (den_ne a), p_initQ (den_ne a) (den_ab ha) h, fract_eq]
def tq (q : Rat) : D := .tup [.int q.num, .int ((q.den : Nat) : Int)]
theorem p_toldQ {a : Rat} {ah : AH} : f_Ratio_told [rt a] ah = .ok (tq a) ah := by
  unfold rt tq
  simp -implicitDefEqProofs only [r_Ratio_told, c_Ratio_told, ev_var, ev_c, ev_bin, bin1_ok, bin1_exc, bin2_ok, bin2_exc, ev_un, ev_fld, ev_isI, un1_ok, un1_exc, ev_test, test1_ok, test1_exc, ev_notT, notT1_ok, notT1_exc, ev_andT, andT1_t, andT1_f, andT1_exc, ev_orT, orT1_t, orT1_f, orT1_exc, ev_and, and1_t, and1_f, and1_exc, ev_or, or1_t, or1_f, or1_exc, ev_if, if1_t, if1_f, if1_exc, ev_chain, ch1_ok, ch1_exc, ch2_ok, ch2_exc, chm_t, chm_f, ch3_ok, ch3_exc, ev_nil, ev_cons, cons1_ok, cons1_exc, cons2_ok, cons2_exc, ev_tup, ev_lst, tup1_ok, tup1_exc, lst1_ok, lst1_exc, ev_no, ev_part, part1_ok, ev_sl, sl1_ok, sl1_exc, sl2_ok, sl3_ok, ev_cb, cb1_ok, cb1_exc, ev_call, call1_ok, call1_exc, ev_make, make1_ok, make1_exc, make2_ok, make2_exc, ev_meth, meth1_ok, meth1_exc, methm_some, methk_ok, methk_exc, cls_obj, ev_bm, bm1_ok, bm1_exc, bm2_ok, bm2_exc, ev_itAny, it1_ok, ev_rng1, rng1_ok, ev_rng2, rng2_ok, ev_enum, enum1_lst, enum1_scr, ev_zip, zip1_lst, ev_skip, ev_seq, seq1_nx, seq1_rt, seq1_bk, seq1_ct, seq1_exc, ev_brk, ev_cnt, ev_expr, expr1_ok, expr1_exc, ev_ret, ret1_ok, ret1_exc, ev_retN, ev_ifS, ifS1_t, ifS1_f, ifS1_exc, nxO_some, ev_asg, asg1_ok, asg1_exc, gN_ap, gTup_ap, gNs_nil, gNs_cons, ev_par, par1_ok, par1_exc, ev_for, for1_ok, for1_exc, forM_some, forK_nx, forK_ct, forK_bk, forK_rt, forK_exc, ev_tryK, tryK1_nx, tryK1_rt, ev_raise, ev_setF, setF1_exc, ev_run, run1_rt, run1_nx, run1_exc, ev_init, init1_nx, init1_exc, add_i, add_s, add_l, add_t, sub_i, mul_i, fdiv_i, mod_i, pow_i, neg_i, not_b, lt_i, le_i, gt_i, ge_i, eq_i, ne_i, eq_s, ne_s, is_n, nis_n, abs_i, int_i, int_b, str_i, str_s, list_s, list_l, list_t, tup_s, tup_l, tup_t, len_l, len_t, len_r, idx_l, idx_t, idx_r, sl_l, sl_t, whC_t, whC_f, whK_nx, whK_ct, whK_bk, whK_rt, at_0, at_1, at_2, at_3, at_4, ev_ixS, ixS0_val, ixS0_own, ixS1_ok, gAny_t, gAny_l, ev_newL, newL1_ok, ev_app, app0_own, app1_ok, ev_setI, setI0_own, setI1_ok, setI2_ok, ev_frz, frz0_own, frz0_val, lcL_nil, lcL_cons, lcO_some, lcA_t, lcA_f, lcB_ok, lc2_ok, ev_yes, wipe_nil, wipe_cons, ev_lc, lc0_ok, lcE_ok, it_l, it_t, it_r, ev_starts, ev_ends, ev_isB, ev_notB, ev_itS, ev_isStr, ev_isLst, List.getElem?_cons_zero, List.getElem?_cons_succ, List.set_cons_zero, List.set_cons_succ, List.length_cons, List.length_nil, List.cons_append, List.nil_append, List.append_nil, Nat.reduceAdd, Nat.reduceLeDiff, Nat.reduceEqDiff, ↓reduceIte, ofO_some, Bool.not_true, Bool.not_false, Option.map_some, Option.bind_some, decide_true, decide_false, Nat.zero_add, isN, Bool.false_eq_true, List.set_cons_zero, Int.reduceLT, Int.reduceLE, Int.reduceEq, fl_Ratio_top, fl_Ratio_bottom]
theorem eq_tq {a b : Rat} (ah : AH) : eqD ah (tq a) (tq b) = some (.bl (decide (a = b))) := by
  unfold tq
  rw [eq_t2]
  congr 1
  congr 1
  by_cases h : a = b
  · subst h; simp
  · have h2 : ¬ (a.num = b.num ∧ ((a.den : Nat) : Int) = ((b.den : Nat) : Int)) := fun z => h (Rat.ext z.1 (by omega))
    simp only [decide_eq_false h]
    by_cases h3 : a.num = b.num
    · have h4 : ¬ ((a.den : Nat) : Int) = ((b.den : Nat) : Int) := fun z => h2 ⟨h3, z⟩
      simp [h4]
    · simp [h3]
theorem ne_tq {a b : Rat} (ah : AH) : neD ah (tq a) (tq b) = some (.bl (!decide (a = b))) := by
  have e := eq_tq (a := a) (b := b) ah
  unfold eqD at e
  unfold neD
  cases k : eqB (tq a) (tq b) with
  | none => rw [k] at e; cases e
  | some z => rw [k] at e; cases e; rfl
theorem p_beforeQ {a b : Rat} {m n : Nat} (ha : Sz m a) (hb : Sz n b) (h : m + n ≤ 9000) {ah : AH} : f_before [rt a, rt b] ah = .ok (.bl (decide (a < b))) ah := by
  have o1 := mO ha.1 (den_ab hb) (sz_pos ha) (sz_pos hb) h
  have o2 := mO hb.1 (den_ab ha) (sz_pos hb) (sz_pos ha) (by omega)
  have e : decide (a.num * ((b.den : Nat) : Int) < b.num * ((a.den : Nat) : Int)) = decide (a < b) := decide_eq_decide.mpr (Rat.lt_iff a b).symm
  unfold rt
  simp -implicitDefEqProofs only [r_before, c_before, ev_var, ev_c, ev_bin, bin1_ok, bin1_exc, bin2_ok, bin2_exc, ev_un, ev_fld, ev_isI, un1_ok, un1_exc, ev_test, test1_ok, test1_exc, ev_notT, notT1_ok, notT1_exc, ev_andT, andT1_t, andT1_f, andT1_exc, ev_orT, orT1_t, orT1_f, orT1_exc, ev_and, and1_t, and1_f, and1_exc, ev_or, or1_t, or1_f, or1_exc, ev_if, if1_t, if1_f, if1_exc, ev_chain, ch1_ok, ch1_exc, ch2_ok, ch2_exc, chm_t, chm_f, ch3_ok, ch3_exc, ev_nil, ev_cons, cons1_ok, cons1_exc, cons2_ok, cons2_exc, ev_tup, ev_lst, tup1_ok, tup1_exc, lst1_ok, lst1_exc, ev_no, ev_part, part1_ok, ev_sl, sl1_ok, sl1_exc, sl2_ok, sl3_ok, ev_cb, cb1_ok, cb1_exc, ev_call, call1_ok, call1_exc, ev_make, make1_ok, make1_exc, make2_ok, make2_exc, ev_meth, meth1_ok, meth1_exc, methm_some, methk_ok, methk_exc, cls_obj, ev_bm, bm1_ok, bm1_exc, bm2_ok, bm2_exc, ev_itAny, it1_ok, ev_rng1, rng1_ok, ev_rng2, rng2_ok, ev_enum, enum1_lst, enum1_scr, ev_zip, zip1_lst, ev_skip, ev_seq, seq1_nx, seq1_rt, seq1_bk, seq1_ct, seq1_exc, ev_brk, ev_cnt, ev_expr, expr1_ok, expr1_exc, ev_ret, ret1_ok, ret1_exc, ev_retN, ev_ifS, ifS1_t, ifS1_f, ifS1_exc, nxO_some, ev_asg, asg1_ok, asg1_exc, gN_ap, gTup_ap, gNs_nil, gNs_cons, ev_par, par1_ok, par1_exc, ev_for, for1_ok, for1_exc, forM_some, forK_nx, forK_ct, forK_bk, forK_rt, forK_exc, ev_tryK, tryK1_nx, tryK1_rt, ev_raise, ev_setF, setF1_exc, ev_run, run1_rt, run1_nx, run1_exc, ev_init, init1_nx, init1_exc, add_i, add_s, add_l, add_t, sub_i, mul_i, fdiv_i, mod_i, pow_i, neg_i, not_b, lt_i, le_i, gt_i, ge_i, eq_i, ne_i, eq_s, ne_s, is_n, nis_n, abs_i, int_i, int_b, str_i, str_s, list_s, list_l, list_t, tup_s, tup_l, tup_t, len_l, len_t, len_r, idx_l, idx_t, idx_r, sl_l, sl_t, whC_t, whC_f, whK_nx, whK_ct, whK_bk, whK_rt, at_0, at_1, at_2, at_3, at_4, ev_ixS, ixS0_val, ixS0_own, ixS1_ok, gAny_t, gAny_l, ev_newL, newL1_ok, ev_app, app0_own, app1_ok, ev_setI, setI0_own, setI1_ok, setI2_ok, ev_frz, frz0_own, frz0_val, lcL_nil, lcL_cons, lcO_some, lcA_t, lcA_f, lcB_ok, lc2_ok, ev_yes, wipe_nil, wipe_cons, ev_lc, lc0_ok, lcE_ok, it_l, it_t, it_r, ev_starts, ev_ends, ev_isB, ev_notB, ev_itS, ev_isStr, ev_isLst, List.getElem?_cons_zero, List.getElem?_cons_succ, List.set_cons_zero, List.set_cons_succ, List.length_cons, List.length_nil, List.cons_append, List.nil_append, List.append_nil, Nat.reduceAdd, Nat.reduceLeDiff, Nat.reduceEqDiff, ↓reduceIte, ofO_some, Bool.not_true, Bool.not_false, Option.map_some, Option.bind_some, decide_true, decide_false, Nat.zero_add, isN, Bool.false_eq_true, List.set_cons_zero, Int.reduceLT, Int.reduceLE, Int.reduceEq, fl_Ratio_top, fl_Ratio_bottom, mul_i o1, mul_i o2, e]
/-! ### in lowest terms -/
def sg (t b : Int) : Int := if b < 0 then -(Int.gcd t b : Int) else Int.gcd t b
def lowT (t b : Int) : Int := t.fdiv (sg t b)
def lowB (t b : Int) : Int := b.fdiv (sg t b)
theorem gcd_pos_of {t b : Int} (h : b ≠ 0) : 0 < Int.gcd t b := Int.gcd_pos_of_ne_zero_right t h
theorem gcd_le_of {t b : Int} (h : b ≠ 0) : Int.gcd t b ≤ b.natAbs := by
  exact Nat.gcd_le_right t.natAbs (by omega)
theorem sg_ok {t b : Int} {n : Nat} (h : b ≠ 0) (hb : b.natAbs < 2 ^ n) (h9 : n ≤ 9000) : divOk (sg t b) := by
  have h1 := gcd_pos_of (t := t) h
  have h2 := gcd_le_of (t := t) h
  have hn : 0 < n := by
    cases n with
    | zero => simp at hb; omega
    | succ n => omega
  refine divOk_w (b := n) ?_ ?_ hn h9
  · unfold sg; split <;> omega
  · unfold sg; split <;> omega
theorem p_low {t b : Int} {n : Nat} (h : b ≠ 0) (hb : b.natAbs < 2 ^ n) (h9 : n ≤ 9000) {ah : AH} : f_l_low [.int t, .int b] ah = .ok (.tup [.int (lowT t b), .int (lowB t b)]) ah := by
  have ab : ∀ x : Int, (if x < 0 then -x else x) = (x.natAbs : Int) := fun x => by split <;> omega
  have hd := sg_ok (t := t) h hb h9
  have hc : ∀ {ah : AH}, f_l_common [.int (t.natAbs : Int), .int (b.natAbs : Int)] ah = .ok (.int (Int.gcd t b)) ah := fun {ah} => p_lcommon (by omega) (by omega)
  unfold lowT lowB
  unfold sg at hd ⊢
  by_cases hz : b < 0
  · rw [if_pos hz] at hd ⊢
    simp -implicitDefEqProofs only [r_l_low, c_l_low, ev_var, ev_c, ev_bin, bin1_ok, bin1_exc, bin2_ok, bin2_exc, ev_un, ev_fld, ev_isI, un1_ok, un1_exc, ev_test, test1_ok, test1_exc, ev_notT, notT1_ok, notT1_exc, ev_andT, andT1_t, andT1_f, andT1_exc, ev_orT, orT1_t, orT1_f, orT1_exc, ev_and, and1_t, and1_f, and1_exc, ev_or, or1_t, or1_f, or1_exc, ev_if, if1_t, if1_f, if1_exc, ev_chain, ch1_ok, ch1_exc, ch2_ok, ch2_exc, chm_t, chm_f, ch3_ok, ch3_exc, ev_nil, ev_cons, cons1_ok, cons1_exc, cons2_ok, cons2_exc, ev_tup, ev_lst, tup1_ok, tup1_exc, lst1_ok, lst1_exc, ev_no, ev_part, part1_ok, ev_sl, sl1_ok, sl1_exc, sl2_ok, sl3_ok, ev_cb, cb1_ok, cb1_exc, ev_call, call1_ok, call1_exc, ev_make, make1_ok, make1_exc, make2_ok, make2_exc, ev_meth, meth1_ok, meth1_exc, methm_some, methk_ok, methk_exc, cls_obj, ev_bm, bm1_ok, bm1_exc, bm2_ok, bm2_exc, ev_itAny, it1_ok, ev_rng1, rng1_ok, ev_rng2, rng2_ok, ev_enum, enum1_lst, enum1_scr, ev_zip, zip1_lst, ev_skip, ev_seq, seq1_nx, seq1_rt, seq1_bk, seq1_ct, seq1_exc, ev_brk, ev_cnt, ev_expr, expr1_ok, expr1_exc, ev_ret, ret1_ok, ret1_exc, ev_retN, ev_ifS, ifS1_t, ifS1_f, ifS1_exc, nxO_some, ev_asg, asg1_ok, asg1_exc, gN_ap, gTup_ap, gNs_nil, gNs_cons, ev_par, par1_ok, par1_exc, ev_for, for1_ok, for1_exc, forM_some, forK_nx, forK_ct, forK_bk, forK_rt, forK_exc, ev_tryK, tryK1_nx, tryK1_rt, ev_raise, ev_setF, setF1_exc, ev_run, run1_rt, run1_nx, run1_exc, ev_init, init1_nx, init1_exc, add_i, add_s, add_l, add_t, sub_i, mul_i, fdiv_i, mod_i, pow_i, neg_i, not_b, lt_i, le_i, gt_i, ge_i, eq_i, ne_i, eq_s, ne_s, is_n, nis_n, abs_i, int_i, int_b, str_i, str_s, list_s, list_l, list_t, tup_s, tup_l, tup_t, len_l, len_t, len_r, idx_l, idx_t, idx_r, sl_l, sl_t, whC_t, whC_f, whK_nx, whK_ct, whK_bk, whK_rt, at_0, at_1, at_2, at_3, at_4, ev_ixS, ixS0_val, ixS0_own, ixS1_ok, gAny_t, gAny_l, ev_newL, newL1_ok, ev_app, app0_own, app1_ok, ev_setI, setI0_own, setI1_ok, setI2_ok, ev_frz, frz0_own, frz0_val, lcL_nil, lcL_cons, lcO_some, lcA_t, lcA_f, lcB_ok, lc2_ok, ev_yes, wipe_nil, wipe_cons, ev_lc, lc0_ok, lcE_ok, it_l, it_t, it_r, ev_starts, ev_ends, ev_isB, ev_notB, ev_itS, ev_isStr, ev_isLst, List.getElem?_cons_zero, List.getElem?_cons_succ, List.set_cons_zero, List.set_cons_succ, List.length_cons, List.length_nil, List.cons_append, List.nil_append, List.append_nil, Nat.reduceAdd, Nat.reduceLeDiff, Nat.reduceEqDiff, ↓reduceIte, ofO_some, Bool.not_true, Bool.not_false, Option.map_some, Option.bind_some, decide_true, decide_false, Nat.zero_add, isN, Bool.false_eq_true, List.set_cons_zero, Int.reduceLT, Int.reduceLE, Int.reduceEq, ab, hc, decide_eq_true hz, fdiv_i hd]
  · rw [if_neg hz] at hd ⊢
    simp -implicitDefEqProofs only [r_l_low, c_l_low, ev_var, ev_c, ev_bin, bin1_ok, bin1_exc, bin2_ok, bin2_exc, ev_un, ev_fld, ev_isI, un1_ok, un1_exc, ev_test, test1_ok, test1_exc, ev_notT, notT1_ok, notT1_exc, ev_andT, andT1_t, andT1_f, andT1_exc, ev_orT, orT1_t, orT1_f, orT1_exc, ev_and, and1_t, and1_f, and1_exc, ev_or, or1_t, or1_f, or1_exc, ev_if, if1_t, if1_f, if1_exc, ev_chain, ch1_ok, ch1_exc, ch2_ok, ch2_exc, chm_t, chm_f, ch3_ok, ch3_exc, ev_nil, ev_cons, cons1_ok, cons1_exc, cons2_ok, cons2_exc, ev_tup, ev_lst, tup1_ok, tup1_exc, lst1_ok, lst1_exc, ev_no, ev_part, part1_ok, ev_sl, sl1_ok, sl1_exc, sl2_ok, sl3_ok, ev_cb, cb1_ok, cb1_exc, ev_call, call1_ok, call1_exc, ev_make, make1_ok, make1_exc, make2_ok, make2_exc, ev_meth, meth1_ok, meth1_exc, methm_some, methk_ok, methk_exc, cls_obj, ev_bm, bm1_ok, bm1_exc, bm2_ok, bm2_exc, ev_itAny, it1_ok, ev_rng1, rng1_ok, ev_rng2, rng2_ok, ev_enum, enum1_lst, enum1_scr, ev_zip, zip1_lst, ev_skip, ev_seq, seq1_nx, seq1_rt, seq1_bk, seq1_ct, seq1_exc, ev_brk, ev_cnt, ev_expr, expr1_ok, expr1_exc, ev_ret, ret1_ok, ret1_exc, ev_retN, ev_ifS, ifS1_t, ifS1_f, ifS1_exc, nxO_some, ev_asg, asg1_ok, asg1_exc, gN_ap, gTup_ap, gNs_nil, gNs_cons, ev_par, par1_ok, par1_exc, ev_for, for1_ok, for1_exc, forM_some, forK_nx, forK_ct, forK_bk, forK_rt, forK_exc, ev_tryK, tryK1_nx, tryK1_rt, ev_raise, ev_setF, setF1_exc, ev_run, run1_rt, run1_nx, run1_exc, ev_init, init1_nx, init1_exc, add_i, add_s, add_l, add_t, sub_i, mul_i, fdiv_i, mod_i, pow_i, neg_i, not_b, lt_i, le_i, gt_i, ge_i, eq_i, ne_i, eq_s, ne_s, is_n, nis_n, abs_i, int_i, int_b, str_i, str_s, list_s, list_l, list_t, tup_s, tup_l, tup_t, len_l, len_t, len_r, idx_l, idx_t, idx_r, sl_l, sl_t, whC_t, whC_f, whK_nx, whK_ct, whK_bk, whK_rt, at_0, at_1, at_2, at_3, at_4, ev_ixS, ixS0_val, ixS0_own, ixS1_ok, gAny_t, gAny_l, ev_newL, newL1_ok, ev_app, app0_own, app1_ok, ev_setI, setI0_own, setI1_ok, setI2_ok, ev_frz, frz0_own, frz0_val, lcL_nil, lcL_cons, lcO_some, lcA_t, lcA_f, lcB_ok, lc2_ok, ev_yes, wipe_nil, wipe_cons, ev_lc, lc0_ok, lcE_ok, it_l, it_t, it_r, ev_starts, ev_ends, ev_isB, ev_notB, ev_itS, ev_isStr, ev_isLst, List.getElem?_cons_zero, List.getElem?_cons_succ, List.set_cons_zero, List.set_cons_succ, List.length_cons, List.length_nil, List.cons_append, List.nil_append, List.append_nil, Nat.reduceAdd, Nat.reduceLeDiff, Nat.reduceEqDiff, ↓reduceIte, ofO_some, Bool.not_true, Bool.not_false, Option.map_some, Option.bind_some, decide_true, decide_false, Nat.zero_add, isN, Bool.false_eq_true, List.set_cons_zero, Int.reduceLT, Int.reduceLE, Int.reduceEq, ab, hc, decide_eq_false hz, fdiv_i hd]
theorem lowT_q {t b : Int} (h : b ≠ 0) : lowT t b = (Rat.divInt t b).num := q_num h
theorem lowB_q {t b : Int} (h : b ≠ 0) : lowB t b = ((Rat.divInt t b).den : Int) := q_den h
theorem p_lowQ {t b : Int} {n : Nat} (h : b ≠ 0) (hb : b.natAbs < 2 ^ n) (h9 : n ≤ 9000) {ah : AH} : f_l_low [.int t, .int b] ah = .ok (tq (Rat.divInt t b)) ah := by
  rw [p_low h hb h9, lowT_q h, lowB_q h]
  rfl
theorem p_init {t b : Int} {n : Nat} (h : b ≠ 0) (hb : b.natAbs < 2 ^ n) (h9 : n ≤ 9000) {ah : AH} : f_Ratio_init [.int t, .int b] ah = .ok [.int (lowT t b), .int (lowB t b)] ah := by
  rw [p_initQ h hb h9, lowT_q h, lowB_q h]
theorem at_ints {ms : List Int} {i : Int} (h0 : 0 ≤ i) (h : i < ms.length) : ∃ m ∈ ms, atI (ms.map D.int) i = some (.int m) := by
  obtain ⟨d, h1, h2⟩ := at_mem (l := ms.map D.int) h0 (by rw [List.length_map]; exact h)
  obtain ⟨m, h3, rfl⟩ := List.mem_map.mp h1
  exact ⟨m, h3, h2⟩
theorem d7 : divOk 7 := divOk_w (b := 3) (by decide) (by decide) (by decide) (by decide)
theorem pick {c k n : Int} (h : 0 < n) : 0 ≤ ((mixed c k).fdiv 7).fmod n ∧ ((mixed c k).fdiv 7).fmod n < n := fmod_b h
theorem cut_map {α β : Type} {f : α → β} {l : List α} {lo hi : Option Int} : G.cutD (l.map f) lo hi = (G.cutD l lo hi).map f := by
  unfold G.cutD
  rw [List.length_map, List.map_take, List.map_drop]
/-! ### figures -/
abbrev FG : Str := "0123456789"
def dig (c : Nat) : Bool := decide (c ∈ FG.cps.toList)
theorem dig_iff {c : Nat} : dig c = true ↔ 48 ≤ c ∧ c ≤ 57 := by
  have e : FG.cps.toList = [48, 49, 50, 51, 52, 53, 54, 55, 56, 57] := by decide +kernel
  unfold dig
  rw [decide_eq_true_iff, e]
  simp only [List.mem_cons, List.not_mem_nil, or_false]
  omega
theorem small (w : Str) (h : w.length ≤ 1000) : w.length ≤ sizeLine := Nat.le_trans h (by decide)
def figB (l : List Nat) : Bool := decide (1 ≤ (l.length : Int)) && decide ((l.length : Int) ≤ 30) && l.all dig && (decide (l = [48]) || !decide (l.head? = some 48))
theorem lf1 (x0 x1 : Sl) : ∀ (cs : List Nat) (y : Sl) (ah : AH), lcL [2] (gN 2) cYes te_are_figures_1 [x0, x1, y] (cs.map chD) ah = .ok ((cs.map dig).map D.bl) ah
  | [], y, ah => rfl
  | c :: r, y, ah => by
    have ih := lf1 x0 x1 r y ah
    rw [List.map_cons, lcL_cons]
    have e : te_are_figures_1 [x0, x1, .val (chD c)] ah = .ok (.bl (dig c)) ah := by
      simp -implicitDefEqProofs only [te_are_figures_1, ev_var, ev_c, ev_bin, bin1_ok, bin1_exc, bin2_ok, bin2_exc, ev_un, ev_fld, ev_isI, un1_ok, un1_exc, ev_test, test1_ok, test1_exc, ev_notT, notT1_ok, notT1_exc, ev_andT, andT1_t, andT1_f, andT1_exc, ev_orT, orT1_t, orT1_f, orT1_exc, ev_and, and1_t, and1_f, and1_exc, ev_or, or1_t, or1_f, or1_exc, ev_if, if1_t, if1_f, if1_exc, ev_chain, ch1_ok, ch1_exc, ch2_ok, ch2_exc, chm_t, chm_f, ch3_ok, ch3_exc, ev_nil, ev_cons, cons1_ok, cons1_exc, cons2_ok, cons2_exc, ev_tup, ev_lst, tup1_ok, tup1_exc, lst1_ok, lst1_exc, ev_no, ev_part, part1_ok, ev_sl, sl1_ok, sl1_exc, sl2_ok, sl3_ok, ev_cb, cb1_ok, cb1_exc, ev_call, call1_ok, call1_exc, ev_make, make1_ok, make1_exc, make2_ok, make2_exc, ev_meth, meth1_ok, meth1_exc, methm_some, methk_ok, methk_exc, cls_obj, ev_bm, bm1_ok, bm1_exc, bm2_ok, bm2_exc, ev_itAny, it1_ok, ev_rng1, rng1_ok, ev_rng2, rng2_ok, ev_enum, enum1_lst, enum1_scr, ev_zip, zip1_lst, ev_skip, ev_seq, seq1_nx, seq1_rt, seq1_bk, seq1_ct, seq1_exc, ev_brk, ev_cnt, ev_expr, expr1_ok, expr1_exc, ev_ret, ret1_ok, ret1_exc, ev_retN, ev_ifS, ifS1_t, ifS1_f, ifS1_exc, nxO_some, ev_asg, asg1_ok, asg1_exc, gN_ap, gTup_ap, gNs_nil, gNs_cons, ev_par, par1_ok, par1_exc, ev_for, for1_ok, for1_exc, forM_some, forK_nx, forK_ct, forK_bk, forK_rt, forK_exc, ev_tryK, tryK1_nx, tryK1_rt, ev_raise, ev_setF, setF1_exc, ev_run, run1_rt, run1_nx, run1_exc, ev_init, init1_nx, init1_exc, add_i, add_s, add_l, add_t, sub_i, mul_i, fdiv_i, mod_i, pow_i, neg_i, not_b, lt_i, le_i, gt_i, ge_i, eq_i, ne_i, eq_s, ne_s, is_n, nis_n, abs_i, int_i, int_b, str_i, str_s, list_s, list_l, list_t, tup_s, tup_l, tup_t, len_l, len_t, len_r, idx_l, idx_t, idx_r, sl_l, sl_t, whC_t, whC_f, whK_nx, whK_ct, whK_bk, whK_rt, at_0, at_1, at_2, at_3, at_4, ev_ixS, ixS0_val, ixS0_own, ixS1_ok, gAny_t, gAny_l, ev_newL, newL1_ok, ev_app, app0_own, app1_ok, ev_setI, setI0_own, setI1_ok, setI2_ok, ev_frz, frz0_own, frz0_val, lcL_nil, lcL_cons, lcO_some, lcA_t, lcA_f, lcB_ok, lc2_ok, ev_yes, wipe_nil, wipe_cons, ev_lc, lc0_ok, lcE_ok, it_l, it_t, it_r, ev_starts, ev_ends, ev_isB, ev_notB, ev_itS, ev_isStr, ev_isLst, List.getElem?_cons_zero, List.getElem?_cons_succ, List.set_cons_zero, List.set_cons_succ, List.length_cons, List.length_nil, List.cons_append, List.nil_append, List.append_nil, Nat.reduceAdd, Nat.reduceLeDiff, Nat.reduceEqDiff, ↓reduceIte, ofO_some, Bool.not_true, Bool.not_false, Option.map_some, Option.bind_some, decide_true, decide_false, Nat.zero_add, isN, Bool.false_eq_true, List.set_cons_zero, Int.reduceLT, Int.reduceLE, Int.reduceEq, inS_ch, dig]
    simp -implicitDefEqProofs only [ev_var, ev_c, ev_bin, bin1_ok, bin1_exc, bin2_ok, bin2_exc, ev_un, ev_fld, ev_isI, un1_ok, un1_exc, ev_test, test1_ok, test1_exc, ev_notT, notT1_ok, notT1_exc, ev_andT, andT1_t, andT1_f, andT1_exc, ev_orT, orT1_t, orT1_f, orT1_exc, ev_and, and1_t, and1_f, and1_exc, ev_or, or1_t, or1_f, or1_exc, ev_if, if1_t, if1_f, if1_exc, ev_chain, ch1_ok, ch1_exc, ch2_ok, ch2_exc, chm_t, chm_f, ch3_ok, ch3_exc, ev_nil, ev_cons, cons1_ok, cons1_exc, cons2_ok, cons2_exc, ev_tup, ev_lst, tup1_ok, tup1_exc, lst1_ok, lst1_exc, ev_no, ev_part, part1_ok, ev_sl, sl1_ok, sl1_exc, sl2_ok, sl3_ok, ev_cb, cb1_ok, cb1_exc, ev_call, call1_ok, call1_exc, ev_make, make1_ok, make1_exc, make2_ok, make2_exc, ev_meth, meth1_ok, meth1_exc, methm_some, methk_ok, methk_exc, cls_obj, ev_bm, bm1_ok, bm1_exc, bm2_ok, bm2_exc, ev_itAny, it1_ok, ev_rng1, rng1_ok, ev_rng2, rng2_ok, ev_enum, enum1_lst, enum1_scr, ev_zip, zip1_lst, ev_skip, ev_seq, seq1_nx, seq1_rt, seq1_bk, seq1_ct, seq1_exc, ev_brk, ev_cnt, ev_expr, expr1_ok, expr1_exc, ev_ret, ret1_ok, ret1_exc, ev_retN, ev_ifS, ifS1_t, ifS1_f, ifS1_exc, nxO_some, ev_asg, asg1_ok, asg1_exc, gN_ap, gTup_ap, gNs_nil, gNs_cons, ev_par, par1_ok, par1_exc, ev_for, for1_ok, for1_exc, forM_some, forK_nx, forK_ct, forK_bk, forK_rt, forK_exc, ev_tryK, tryK1_nx, tryK1_rt, ev_raise, ev_setF, setF1_exc, ev_run, run1_rt, run1_nx, run1_exc, ev_init, init1_nx, init1_exc, add_i, add_s, add_l, add_t, sub_i, mul_i, fdiv_i, mod_i, pow_i, neg_i, not_b, lt_i, le_i, gt_i, ge_i, eq_i, ne_i, eq_s, ne_s, is_n, nis_n, abs_i, int_i, int_b, str_i, str_s, list_s, list_l, list_t, tup_s, tup_l, tup_t, len_l, len_t, len_r, idx_l, idx_t, idx_r, sl_l, sl_t, whC_t, whC_f, whK_nx, whK_ct, whK_bk, whK_rt, at_0, at_1, at_2, at_3, at_4, ev_ixS, ixS0_val, ixS0_own, ixS1_ok, gAny_t, gAny_l, ev_newL, newL1_ok, ev_app, app0_own, app1_ok, ev_setI, setI0_own, setI1_ok, setI2_ok, ev_frz, frz0_own, frz0_val, lcL_nil, lcL_cons, lcO_some, lcA_t, lcA_f, lcB_ok, lc2_ok, ev_yes, wipe_nil, wipe_cons, ev_lc, lc0_ok, lcE_ok, it_l, it_t, it_r, ev_starts, ev_ends, ev_isB, ev_notB, ev_itS, ev_isStr, ev_isLst, List.getElem?_cons_zero, List.getElem?_cons_succ, List.set_cons_zero, List.set_cons_succ, List.length_cons, List.length_nil, List.cons_append, List.nil_append, List.append_nil, Nat.reduceAdd, Nat.reduceLeDiff, Nat.reduceEqDiff, ↓reduceIte, ofO_some, Bool.not_true, Bool.not_false, Option.map_some, Option.bind_some, decide_true, decide_false, Nat.zero_add, isN, Bool.false_eq_true, List.set_cons_zero, Int.reduceLT, Int.reduceLE, Int.reduceEq, e, ih]
    rfl
theorem all_map (cs : List Nat) : (cs.map dig).all id = cs.all dig := by
  rw [List.all_map]
  rfl
theorem str_is {w : Str} {z : Str} : decide (w = z) = decide (w.cps.toList = z.cps.toList) := decide_eq_decide.mpr ⟨fun h => by rw [h], fun h => TL.ext_tl h⟩
theorem starts_one {w : Str} {c : Nat} : Txt.startswith w ⟨#[c]⟩ = decide (w.cps.toList.head? = some c) := by
  have h := PySem.StrLaws.subAt_one w c 0
  have e : w.cps.toList[0]? = w.cps.toList.head? := by cases w.cps.toList <;> rfl
  rw [e] at h
  rw [Bool.eq_iff_iff, decide_eq_true_iff, ← h]
  unfold Txt.startswith
  rw [Bool.and_eq_true, decide_eq_true_iff]
theorem p_figs {w : Str} (hz : w.length ≤ 1000) {ah : AH} : f_are_figures [.str w, .int 30] ah = .ok (.bl (figB w.cps.toList)) ah := by
  have hs := small w hz
  have el : w.length = w.cps.toList.length := TL.len_tl w
  have z0 : ("0" : Str).cps.toList = [48] := by decide +kernel
  have zz : ("0" : Str) = ⟨#[48]⟩ := TL.ext_tl z0
  have h7 : (w.cps.toList.map chD).length ≤ 10000000 := by rw [List.length_map]; omega
  have l1 := fun x0 x1 y ah => lf1 x0 x1 w.cps.toList y ah
  have st : Txt.startswith w "0" = decide (w.cps.toList.head? = some 48) := by rw [zz, starts_one]
  unfold figB
  rw [← el]
  by_cases h1 : 1 ≤ (w.length : Int)
  · by_cases h8 : (w.length : Int) ≤ 30
    · cases ha : w.cps.toList.all dig with
      | false => simp -implicitDefEqProofs only [r_are_figures, c_are_figures, ev_var, ev_c, ev_bin, bin1_ok, bin1_exc, bin2_ok, bin2_exc, ev_un, ev_fld, ev_isI, un1_ok, un1_exc, ev_test, test1_ok, test1_exc, ev_notT, notT1_ok, notT1_exc, ev_andT, andT1_t, andT1_f, andT1_exc, ev_orT, orT1_t, orT1_f, orT1_exc, ev_and, and1_t, and1_f, and1_exc, ev_or, or1_t, or1_f, or1_exc, ev_if, if1_t, if1_f, if1_exc, ev_chain, ch1_ok, ch1_exc, ch2_ok, ch2_exc, chm_t, chm_f, ch3_ok, ch3_exc, ev_nil, ev_cons, cons1_ok, cons1_exc, cons2_ok, cons2_exc, ev_tup, ev_lst, tup1_ok, tup1_exc, lst1_ok, lst1_exc, ev_no, ev_part, part1_ok, ev_sl, sl1_ok, sl1_exc, sl2_ok, sl3_ok, ev_cb, cb1_ok, cb1_exc, ev_call, call1_ok, call1_exc, ev_make, make1_ok, make1_exc, make2_ok, make2_exc, ev_meth, meth1_ok, meth1_exc, methm_some, methk_ok, methk_exc, cls_obj, ev_bm, bm1_ok, bm1_exc, bm2_ok, bm2_exc, ev_itAny, it1_ok, ev_rng1, rng1_ok, ev_rng2, rng2_ok, ev_enum, enum1_lst, enum1_scr, ev_zip, zip1_lst, ev_skip, ev_seq, seq1_nx, seq1_rt, seq1_bk, seq1_ct, seq1_exc, ev_brk, ev_cnt, ev_expr, expr1_ok, expr1_exc, ev_ret, ret1_ok, ret1_exc, ev_retN, ev_ifS, ifS1_t, ifS1_f, ifS1_exc, nxO_some, ev_asg, asg1_ok, asg1_exc, gN_ap, gTup_ap, gNs_nil, gNs_cons, ev_par, par1_ok, par1_exc, ev_for, for1_ok, for1_exc, forM_some, forK_nx, forK_ct, forK_bk, forK_rt, forK_exc, ev_tryK, tryK1_nx, tryK1_rt, ev_raise, ev_setF, setF1_exc, ev_run, run1_rt, run1_nx, run1_exc, ev_init, init1_nx, init1_exc, add_i, add_s, add_l, add_t, sub_i, mul_i, fdiv_i, mod_i, pow_i, neg_i, not_b, lt_i, le_i, gt_i, ge_i, eq_i, ne_i, eq_s, ne_s, is_n, nis_n, abs_i, int_i, int_b, str_i, str_s, list_s, list_l, list_t, tup_s, tup_l, tup_t, len_l, len_t, len_r, idx_l, idx_t, idx_r, sl_l, sl_t, whC_t, whC_f, whK_nx, whK_ct, whK_bk, whK_rt, at_0, at_1, at_2, at_3, at_4, ev_ixS, ixS0_val, ixS0_own, ixS1_ok, gAny_t, gAny_l, ev_newL, newL1_ok, ev_app, app0_own, app1_ok, ev_setI, setI0_own, setI1_ok, setI2_ok, ev_frz, frz0_own, frz0_val, lcL_nil, lcL_cons, lcO_some, lcA_t, lcA_f, lcB_ok, lc2_ok, ev_yes, wipe_nil, wipe_cons, ev_lc, lc0_ok, lcE_ok, it_l, it_t, it_r, ev_starts, ev_ends, ev_isB, ev_notB, ev_itS, ev_isStr, ev_isLst, List.getElem?_cons_zero, List.getElem?_cons_succ, List.set_cons_zero, List.set_cons_succ, List.length_cons, List.length_nil, List.cons_append, List.nil_append, List.append_nil, Nat.reduceAdd, Nat.reduceLeDiff, Nat.reduceEqDiff, ↓reduceIte, ofO_some, Bool.not_true, Bool.not_false, Option.map_some, Option.bind_some, decide_true, decide_false, Nat.zero_add, isN, Bool.false_eq_true, List.set_cons_zero, Int.reduceLT, Int.reduceLE, Int.reduceEq, len_s hs, decide_eq_true h1, decide_eq_true h8, h7, l1, all_ap, all_map, ha, Bool.and_false, Bool.false_and, Bool.and_self]
      | true =>
        cases hq : decide (w = ("0" : Str)) with
        | true =>
          rw [str_is, z0] at hq
          simp -implicitDefEqProofs only [r_are_figures, c_are_figures, ev_var, ev_c, ev_bin, bin1_ok, bin1_exc, bin2_ok, bin2_exc, ev_un, ev_fld, ev_isI, un1_ok, un1_exc, ev_test, test1_ok, test1_exc, ev_notT, notT1_ok, notT1_exc, ev_andT, andT1_t, andT1_f, andT1_exc, ev_orT, orT1_t, orT1_f, orT1_exc, ev_and, and1_t, and1_f, and1_exc, ev_or, or1_t, or1_f, or1_exc, ev_if, if1_t, if1_f, if1_exc, ev_chain, ch1_ok, ch1_exc, ch2_ok, ch2_exc, chm_t, chm_f, ch3_ok, ch3_exc, ev_nil, ev_cons, cons1_ok, cons1_exc, cons2_ok, cons2_exc, ev_tup, ev_lst, tup1_ok, tup1_exc, lst1_ok, lst1_exc, ev_no, ev_part, part1_ok, ev_sl, sl1_ok, sl1_exc, sl2_ok, sl3_ok, ev_cb, cb1_ok, cb1_exc, ev_call, call1_ok, call1_exc, ev_make, make1_ok, make1_exc, make2_ok, make2_exc, ev_meth, meth1_ok, meth1_exc, methm_some, methk_ok, methk_exc, cls_obj, ev_bm, bm1_ok, bm1_exc, bm2_ok, bm2_exc, ev_itAny, it1_ok, ev_rng1, rng1_ok, ev_rng2, rng2_ok, ev_enum, enum1_lst, enum1_scr, ev_zip, zip1_lst, ev_skip, ev_seq, seq1_nx, seq1_rt, seq1_bk, seq1_ct, seq1_exc, ev_brk, ev_cnt, ev_expr, expr1_ok, expr1_exc, ev_ret, ret1_ok, ret1_exc, ev_retN, ev_ifS, ifS1_t, ifS1_f, ifS1_exc, nxO_some, ev_asg, asg1_ok, asg1_exc, gN_ap, gTup_ap, gNs_nil, gNs_cons, ev_par, par1_ok, par1_exc, ev_for, for1_ok, for1_exc, forM_some, forK_nx, forK_ct, forK_bk, forK_rt, forK_exc, ev_tryK, tryK1_nx, tryK1_rt, ev_raise, ev_setF, setF1_exc, ev_run, run1_rt, run1_nx, run1_exc, ev_init, init1_nx, init1_exc, add_i, add_s, add_l, add_t, sub_i, mul_i, fdiv_i, mod_i, pow_i, neg_i, not_b, lt_i, le_i, gt_i, ge_i, eq_i, ne_i, eq_s, ne_s, is_n, nis_n, abs_i, int_i, int_b, str_i, str_s, list_s, list_l, list_t, tup_s, tup_l, tup_t, len_l, len_t, len_r, idx_l, idx_t, idx_r, sl_l, sl_t, whC_t, whC_f, whK_nx, whK_ct, whK_bk, whK_rt, at_0, at_1, at_2, at_3, at_4, ev_ixS, ixS0_val, ixS0_own, ixS1_ok, gAny_t, gAny_l, ev_newL, newL1_ok, ev_app, app0_own, app1_ok, ev_setI, setI0_own, setI1_ok, setI2_ok, ev_frz, frz0_own, frz0_val, lcL_nil, lcL_cons, lcO_some, lcA_t, lcA_f, lcB_ok, lc2_ok, ev_yes, wipe_nil, wipe_cons, ev_lc, lc0_ok, lcE_ok, it_l, it_t, it_r, ev_starts, ev_ends, ev_isB, ev_notB, ev_itS, ev_isStr, ev_isLst, List.getElem?_cons_zero, List.getElem?_cons_succ, List.set_cons_zero, List.set_cons_succ, List.length_cons, List.length_nil, List.cons_append, List.nil_append, List.append_nil, Nat.reduceAdd, Nat.reduceLeDiff, Nat.reduceEqDiff, ↓reduceIte, ofO_some, Bool.not_true, Bool.not_false, Option.map_some, Option.bind_some, decide_true, decide_false, Nat.zero_add, isN, Bool.false_eq_true, List.set_cons_zero, Int.reduceLT, Int.reduceLE, Int.reduceEq, len_s hs, decide_eq_true h1, decide_eq_true h8, h7, l1, all_ap, all_map, ha, str_is, z0, hq, Bool.true_and, Bool.and_true, Bool.true_or, Bool.and_self]
        | false =>
          rw [str_is, z0] at hq
          simp -implicitDefEqProofs only [r_are_figures, c_are_figures, ev_var, ev_c, ev_bin, bin1_ok, bin1_exc, bin2_ok, bin2_exc, ev_un, ev_fld, ev_isI, un1_ok, un1_exc, ev_test, test1_ok, test1_exc, ev_notT, notT1_ok, notT1_exc, ev_andT, andT1_t, andT1_f, andT1_exc, ev_orT, orT1_t, orT1_f, orT1_exc, ev_and, and1_t, and1_f, and1_exc, ev_or, or1_t, or1_f, or1_exc, ev_if, if1_t, if1_f, if1_exc, ev_chain, ch1_ok, ch1_exc, ch2_ok, ch2_exc, chm_t, chm_f, ch3_ok, ch3_exc, ev_nil, ev_cons, cons1_ok, cons1_exc, cons2_ok, cons2_exc, ev_tup, ev_lst, tup1_ok, tup1_exc, lst1_ok, lst1_exc, ev_no, ev_part, part1_ok, ev_sl, sl1_ok, sl1_exc, sl2_ok, sl3_ok, ev_cb, cb1_ok, cb1_exc, ev_call, call1_ok, call1_exc, ev_make, make1_ok, make1_exc, make2_ok, make2_exc, ev_meth, meth1_ok, meth1_exc, methm_some, methk_ok, methk_exc, cls_obj, ev_bm, bm1_ok, bm1_exc, bm2_ok, bm2_exc, ev_itAny, it1_ok, ev_rng1, rng1_ok, ev_rng2, rng2_ok, ev_enum, enum1_lst, enum1_scr, ev_zip, zip1_lst, ev_skip, ev_seq, seq1_nx, seq1_rt, seq1_bk, seq1_ct, seq1_exc, ev_brk, ev_cnt, ev_expr, expr1_ok, expr1_exc, ev_ret, ret1_ok, ret1_exc, ev_retN, ev_ifS, ifS1_t, ifS1_f, ifS1_exc, nxO_some, ev_asg, asg1_ok, asg1_exc, gN_ap, gTup_ap, gNs_nil, gNs_cons, ev_par, par1_ok, par1_exc, ev_for, for1_ok, for1_exc, forM_some, forK_nx, forK_ct, forK_bk, forK_rt, forK_exc, ev_tryK, tryK1_nx, tryK1_rt, ev_raise, ev_setF, setF1_exc, ev_run, run1_rt, run1_nx, run1_exc, ev_init, init1_nx, init1_exc, add_i, add_s, add_l, add_t, sub_i, mul_i, fdiv_i, mod_i, pow_i, neg_i, not_b, lt_i, le_i, gt_i, ge_i, eq_i, ne_i, eq_s, ne_s, is_n, nis_n, abs_i, int_i, int_b, str_i, str_s, list_s, list_l, list_t, tup_s, tup_l, tup_t, len_l, len_t, len_r, idx_l, idx_t, idx_r, sl_l, sl_t, whC_t, whC_f, whK_nx, whK_ct, whK_bk, whK_rt, at_0, at_1, at_2, at_3, at_4, ev_ixS, ixS0_val, ixS0_own, ixS1_ok, gAny_t, gAny_l, ev_newL, newL1_ok, ev_app, app0_own, app1_ok, ev_setI, setI0_own, setI1_ok, setI2_ok, ev_frz, frz0_own, frz0_val, lcL_nil, lcL_cons, lcO_some, lcA_t, lcA_f, lcB_ok, lc2_ok, ev_yes, wipe_nil, wipe_cons, ev_lc, lc0_ok, lcE_ok, it_l, it_t, it_r, ev_starts, ev_ends, ev_isB, ev_notB, ev_itS, ev_isStr, ev_isLst, List.getElem?_cons_zero, List.getElem?_cons_succ, List.set_cons_zero, List.set_cons_succ, List.length_cons, List.length_nil, List.cons_append, List.nil_append, List.append_nil, Nat.reduceAdd, Nat.reduceLeDiff, Nat.reduceEqDiff, ↓reduceIte, ofO_some, Bool.not_true, Bool.not_false, Option.map_some, Option.bind_some, decide_true, decide_false, Nat.zero_add, isN, Bool.false_eq_true, List.set_cons_zero, Int.reduceLT, Int.reduceLE, Int.reduceEq, len_s hs, decide_eq_true h1, decide_eq_true h8, h7, l1, all_ap, all_map, ha, str_is, z0, hq, st, Bool.true_and, Bool.and_true, Bool.false_or, Bool.and_self]
    · simp -implicitDefEqProofs only [r_are_figures, c_are_figures, ev_var, ev_c, ev_bin, bin1_ok, bin1_exc, bin2_ok, bin2_exc, ev_un, ev_fld, ev_isI, un1_ok, un1_exc, ev_test, test1_ok, test1_exc, ev_notT, notT1_ok, notT1_exc, ev_andT, andT1_t, andT1_f, andT1_exc, ev_orT, orT1_t, orT1_f, orT1_exc, ev_and, and1_t, and1_f, and1_exc, ev_or, or1_t, or1_f, or1_exc, ev_if, if1_t, if1_f, if1_exc, ev_chain, ch1_ok, ch1_exc, ch2_ok, ch2_exc, chm_t, chm_f, ch3_ok, ch3_exc, ev_nil, ev_cons, cons1_ok, cons1_exc, cons2_ok, cons2_exc, ev_tup, ev_lst, tup1_ok, tup1_exc, lst1_ok, lst1_exc, ev_no, ev_part, part1_ok, ev_sl, sl1_ok, sl1_exc, sl2_ok, sl3_ok, ev_cb, cb1_ok, cb1_exc, ev_call, call1_ok, call1_exc, ev_make, make1_ok, make1_exc, make2_ok, make2_exc, ev_meth, meth1_ok, meth1_exc, methm_some, methk_ok, methk_exc, cls_obj, ev_bm, bm1_ok, bm1_exc, bm2_ok, bm2_exc, ev_itAny, it1_ok, ev_rng1, rng1_ok, ev_rng2, rng2_ok, ev_enum, enum1_lst, enum1_scr, ev_zip, zip1_lst, ev_skip, ev_seq, seq1_nx, seq1_rt, seq1_bk, seq1_ct, seq1_exc, ev_brk, ev_cnt, ev_expr, expr1_ok, expr1_exc, ev_ret, ret1_ok, ret1_exc, ev_retN, ev_ifS, ifS1_t, ifS1_f, ifS1_exc, nxO_some, ev_asg, asg1_ok, asg1_exc, gN_ap, gTup_ap, gNs_nil, gNs_cons, ev_par, par1_ok, par1_exc, ev_for, for1_ok, for1_exc, forM_some, forK_nx, forK_ct, forK_bk, forK_rt, forK_exc, ev_tryK, tryK1_nx, tryK1_rt, ev_raise, ev_setF, setF1_exc, ev_run, run1_rt, run1_nx, run1_exc, ev_init, init1_nx, init1_exc, add_i, add_s, add_l, add_t, sub_i, mul_i, fdiv_i, mod_i, pow_i, neg_i, not_b, lt_i, le_i, gt_i, ge_i, eq_i, ne_i, eq_s, ne_s, is_n, nis_n, abs_i, int_i, int_b, str_i, str_s, list_s, list_l, list_t, tup_s, tup_l, tup_t, len_l, len_t, len_r, idx_l, idx_t, idx_r, sl_l, sl_t, whC_t, whC_f, whK_nx, whK_ct, whK_bk, whK_rt, at_0, at_1, at_2, at_3, at_4, ev_ixS, ixS0_val, ixS0_own, ixS1_ok, gAny_t, gAny_l, ev_newL, newL1_ok, ev_app, app0_own, app1_ok, ev_setI, setI0_own, setI1_ok, setI2_ok, ev_frz, frz0_own, frz0_val, lcL_nil, lcL_cons, lcO_some, lcA_t, lcA_f, lcB_ok, lc2_ok, ev_yes, wipe_nil, wipe_cons, ev_lc, lc0_ok, lcE_ok, it_l, it_t, it_r, ev_starts, ev_ends, ev_isB, ev_notB, ev_itS, ev_isStr, ev_isLst, List.getElem?_cons_zero, List.getElem?_cons_succ, List.set_cons_zero, List.set_cons_succ, List.length_cons, List.length_nil, List.cons_append, List.nil_append, List.append_nil, Nat.reduceAdd, Nat.reduceLeDiff, Nat.reduceEqDiff, ↓reduceIte, ofO_some, Bool.not_true, Bool.not_false, Option.map_some, Option.bind_some, decide_true, decide_false, Nat.zero_add, isN, Bool.false_eq_true, List.set_cons_zero, Int.reduceLT, Int.reduceLE, Int.reduceEq, len_s hs, decide_eq_true h1, decide_eq_false h8, Bool.and_false, Bool.false_and]
  · simp -implicitDefEqProofs only [r_are_figures, c_are_figures, ev_var, ev_c, ev_bin, bin1_ok, bin1_exc, bin2_ok, bin2_exc, ev_un, ev_fld, ev_isI, un1_ok, un1_exc, ev_test, test1_ok, test1_exc, ev_notT, notT1_ok, notT1_exc, ev_andT, andT1_t, andT1_f, andT1_exc, ev_orT, orT1_t, orT1_f, orT1_exc, ev_and, and1_t, and1_f, and1_exc, ev_or, or1_t, or1_f, or1_exc, ev_if, if1_t, if1_f, if1_exc, ev_chain, ch1_ok, ch1_exc, ch2_ok, ch2_exc, chm_t, chm_f, ch3_ok, ch3_exc, ev_nil, ev_cons, cons1_ok, cons1_exc, cons2_ok, cons2_exc, ev_tup, ev_lst, tup1_ok, tup1_exc, lst1_ok, lst1_exc, ev_no, ev_part, part1_ok, ev_sl, sl1_ok, sl1_exc, sl2_ok, sl3_ok, ev_cb, cb1_ok, cb1_exc, ev_call, call1_ok, call1_exc, ev_make, make1_ok, make1_exc, make2_ok, make2_exc, ev_meth, meth1_ok, meth1_exc, methm_some, methk_ok, methk_exc, cls_obj, ev_bm, bm1_ok, bm1_exc, bm2_ok, bm2_exc, ev_itAny, it1_ok, ev_rng1, rng1_ok, ev_rng2, rng2_ok, ev_enum, enum1_lst, enum1_scr, ev_zip, zip1_lst, ev_skip, ev_seq, seq1_nx, seq1_rt, seq1_bk, seq1_ct, seq1_exc, ev_brk, ev_cnt, ev_expr, expr1_ok, expr1_exc, ev_ret, ret1_ok, ret1_exc, ev_retN, ev_ifS, ifS1_t, ifS1_f, ifS1_exc, nxO_some, ev_asg, asg1_ok, asg1_exc, gN_ap, gTup_ap, gNs_nil, gNs_cons, ev_par, par1_ok, par1_exc, ev_for, for1_ok, for1_exc, forM_some, forK_nx, forK_ct, forK_bk, forK_rt, forK_exc, ev_tryK, tryK1_nx, tryK1_rt, ev_raise, ev_setF, setF1_exc, ev_run, run1_rt, run1_nx, run1_exc, ev_init, init1_nx, init1_exc, add_i, add_s, add_l, add_t, sub_i, mul_i, fdiv_i, mod_i, pow_i, neg_i, not_b, lt_i, le_i, gt_i, ge_i, eq_i, ne_i, eq_s, ne_s, is_n, nis_n, abs_i, int_i, int_b, str_i, str_s, list_s, list_l, list_t, tup_s, tup_l, tup_t, len_l, len_t, len_r, idx_l, idx_t, idx_r, sl_l, sl_t, whC_t, whC_f, whK_nx, whK_ct, whK_bk, whK_rt, at_0, at_1, at_2, at_3, at_4, ev_ixS, ixS0_val, ixS0_own, ixS1_ok, gAny_t, gAny_l, ev_newL, newL1_ok, ev_app, app0_own, app1_ok, ev_setI, setI0_own, setI1_ok, setI2_ok, ev_frz, frz0_own, frz0_val, lcL_nil, lcL_cons, lcO_some, lcA_t, lcA_f, lcB_ok, lc2_ok, ev_yes, wipe_nil, wipe_cons, ev_lc, lc0_ok, lcE_ok, it_l, it_t, it_r, ev_starts, ev_ends, ev_isB, ev_notB, ev_itS, ev_isStr, ev_isLst, List.getElem?_cons_zero, List.getElem?_cons_succ, List.set_cons_zero, List.set_cons_succ, List.length_cons, List.length_nil, List.cons_append, List.nil_append, List.append_nil, Nat.reduceAdd, Nat.reduceLeDiff, Nat.reduceEqDiff, ↓reduceIte, ofO_some, Bool.not_true, Bool.not_false, Option.map_some, Option.bind_some, decide_true, decide_false, Nat.zero_add, isN, Bool.false_eq_true, List.set_cons_zero, Int.reduceLT, Int.reduceLE, Int.reduceEq, len_s hs, decide_eq_false h1, Bool.and_false, Bool.false_and]
theorem figB_len {l : List Nat} (h : figB l = true) : 1 ≤ l.length ∧ l.length ≤ 30 := by
  unfold figB at h
  simp only [Bool.and_eq_true, decide_eq_true_eq] at h
  omega
theorem figB_dig {l : List Nat} (h : figB l = true) : NumText.AllDigits l := by
  unfold figB at h
  simp only [Bool.and_eq_true, List.all_eq_true] at h
  exact fun c hc => dig_iff.mp (h.1.2 c hc)
/-! ### a text read -/
def negB (U : List Nat) : Bool := decide (U.head? = some 45)
def szL (U : List Nat) : List Nat := if negB U = true then U.drop 1 else U
def tv (U : List Nat) : Int := if negB U = true then -((NumText.digitsVal (szL U) : Nat) : Int) else ((NumText.digitsVal (szL U) : Nat) : Int)
def gT (U : List Nat) : Bool := figB (szL U) && !(negB U && decide (szL U = [48]))
def gB (b : List Nat) : Bool := figB b && !decide (b = [48])
def rd (U : List Nat) (ob : Option (List Nat)) : Option (Int × Int) := if gT U = true then (match ob with
  | none => some (tv U, 1)
  | some b => if gB b = true then some (tv U, ((NumText.digitsVal b : Nat) : Int)) else none) else none
def rdR (o : Option (Int × Int)) (ah : AH) : Res D := match o with
  | some (t, b) => .ok (.obj 3 [.int (lowT t b), .int (lowB t b)]) ah
  | none => .exc 2 [] ah
theorem dv_step (l : List Nat) : ∀ acc : Nat, l.foldl (fun acc c => acc * 10 + (c - 48)) acc < (acc + 1) * 10 ^ l.length ∨ ¬ NumText.AllDigits l := by
  induction l with
  | nil => intro acc; left; simp
  | cons c r ih =>
    intro acc
    by_cases h : NumText.AllDigits (c :: r)
    · left
      have hc := h c (List.mem_cons_self ..)
      rcases ih (acc * 10 + (c - 48)) with q | q
      · rw [List.foldl_cons, List.length_cons, Nat.pow_succ]
        refine Nat.lt_of_lt_of_le q ?_
        rw [Nat.mul_comm (10 ^ r.length) 10, ← Nat.mul_assoc]
        exact Nat.mul_le_mul_right _ (by omega)
      · exact absurd (fun x hx => h x (List.mem_cons_of_mem _ hx)) q
    · exact .inr h
theorem dv_lt {l : List Nat} (h : figB l = true) : NumText.digitsVal l < 2 ^ 100 := by
  have hl := figB_len h
  rcases dv_step l 0 with q | q
  · have : 10 ^ l.length ≤ 10 ^ 30 := Nat.pow_le_pow_right (by decide) hl.2
    have e : (10 : Nat) ^ 30 < 2 ^ 100 := by decide
    unfold NumText.digitsVal
    omega
  · exact absurd (figB_dig h) q
theorem dv_mono (l : List Nat) : ∀ acc : Nat, acc ≤ l.foldl (fun acc c => acc * 10 + (c - 48)) acc := by
  induction l with
  | nil => intro acc; exact Nat.le_refl _
  | cons c r ih =>
    intro acc
    exact Nat.le_trans (show acc ≤ acc * 10 + (c - 48) by omega) (ih _)
theorem dv_zero {l : List Nat} (h : figB l = true) : (NumText.digitsVal l = 0) ↔ l = [48] := by
  refine ⟨fun z => ?_, fun z => by rw [z]; rfl⟩
  have hd := figB_dig h
  unfold figB at h
  simp only [Bool.and_eq_true, Bool.or_eq_true, Bool.not_eq_true', decide_eq_true_eq, decide_eq_false_iff_not] at h
  rcases h.2 with q | q
  · exact q
  · cases l with
    | nil => simp at h
    | cons c r =>
      have hc := hd c (List.mem_cons_self ..)
      have nc : c ≠ 48 := by simpa using q
      have := dv_mono r (0 * 10 + (c - 48))
      have e : NumText.digitsVal (c :: r) = r.foldl (fun acc c => acc * 10 + (c - 48)) (0 * 10 + (c - 48)) := rfl
      omega
theorem int_d {w : Str} (h : figB w.cps.toList = true) (ah : AH) : G.intD ah [.str w] = some (.int ((NumText.digitsVal w.cps.toList : Nat) : Int)) := by
  have hl := figB_len h
  have el : w.length = w.cps.toList.length := TL.len_tl w
  show (if w.length ≤ 640 then (PySem.intText? w).map D.int else none) = _
  rw [if_pos (by omega), PySem.intText_digits (figB_dig h) (fun z => by rw [z] at hl; simp at hl) (by omega)]
  rfl
theorem int_n {w : Str} {r : List Nat} (hw : w.cps.toList = 45 :: r) (h : figB r = true) (ah : AH) : G.intD ah [.str w] = some (.int (-((NumText.digitsVal r : Nat) : Int))) := by
  have hl := figB_len h
  have el : w.length = w.cps.toList.length := TL.len_tl w
  rw [hw, List.length_cons] at el
  show (if w.length ≤ 640 then (PySem.intText? w).map D.int else none) = _
  rw [if_pos (by omega), PySem.intText_neg hw (figB_dig h) (fun z => by rw [z] at hl; simp at hl) (by omega)]
  rfl
theorem init_one (t : Int) (ah : AH) : f_Ratio_init [.int t, .int 1] ah = .ok [.int (lowT t 1), .int (lowB t 1)] ah := p_init (n := 2) (by decide) (by decide) (by decide)
theorem p_rtail {w u st b : Str} {ob : Option (List Nat)} (hu : u.length ≤ 600) (hb : b.length ≤ 600) (hst : (st = "" ∧ ob = none) ∨ (st = "/" ∧ ob = some b.cps.toList)) (ah : AH) : run1 (k_read_ratio_1 [.val (.str w), .no, .val (.str u), .val (.str st), .val (.str b)] ah) = rdR (rd u.cps.toList ob) ah := by
  have hs := small u (by omega)
  have z1 : ("-0" : Str).cps.toList = [45, 48] := by decide +kernel
  have z0 : ("0" : Str).cps.toList = [48] := by decide +kernel
  have zm : ("-" : Str) = ⟨#[45]⟩ := TL.ext_tl (by decide +kernel)
  have sw : Txt.startswith u "-" = negB u.cps.toList := by rw [zm, starts_one]; rfl
  have es : decide (st = ("" : Str)) = ob.isNone := by
    rcases hst with ⟨rfl, rfl⟩ | ⟨rfl, rfl⟩
    · exact decide_eq_true rfl
    · have e : decide (("/" : Str) = "") = false := by decide +kernel
      exact e
  have fb := fun ah => p_figs (ah := ah) (w := b) (by omega)
  have hc : (cutS u (some 1) none).cps.toList = u.cps.toList.drop 1 := cut_from (by decide)
  have hcl : (cutS u (some 1) none).length ≤ 1000 := Nat.le_trans (cutS_length u (some 1) none) (by omega)
  have fc := fun ah => p_figs (ah := ah) (w := cutS u (some 1) none) hcl
  have fu := fun ah => p_figs (ah := ah) (w := u) (by omega)
  have q1 : decide (u = ("-0" : Str)) = (negB u.cps.toList && decide (szL u.cps.toList = [48])) := by
    rw [str_is, z1]
    unfold szL negB
    cases hU : u.cps.toList with
    | nil => simp
    | cons c r =>
      by_cases h : c = 45
      · subst h; simp
      · simp [h]
  have q0 : decide (b = ("0" : Str)) = decide (b.cps.toList = [48]) := by rw [str_is, z0]
  rw [hc] at fc
  have it : figB (szL u.cps.toList) = true → ∀ ah, G.intD ah [.str u] = some (.int (tv u.cps.toList)) := fun h ah => by
    unfold tv
    unfold szL at h ⊢
    cases hn : negB u.cps.toList with
    | false =>
      rw [hn] at h
      simp only [Bool.false_eq_true, if_false] at h ⊢
      exact int_d h ah
    | true =>
      rw [hn] at h
      simp only [if_true] at h ⊢
      have hU : u.cps.toList = 45 :: u.cps.toList.drop 1 := by
        unfold negB at hn
        cases hU : u.cps.toList with
        | nil => rw [hU] at hn; simp at hn
        | cons c r =>
          rw [hU] at hn
          have : c = 45 := by simpa using hn
          rw [this]
          rfl
      exact int_n hU h ah
  have si : ∀ ah, f_are_figures [.str (if negB u.cps.toList = true then cutS u (some 1) none else u), .int 30] ah = .ok (.bl (figB (szL u.cps.toList))) ah := fun ah => by
    unfold szL
    cases negB u.cps.toList with
    | false => exact fu ah
    | true => exact fc ah
  have iff_ : ∀ ah, cIf (cTest (cBMg isStr startsD (cVar 2) (cCons (cC (.str "-")) cNil))) (cSl (cVar 2) (cPart (cC (.int 1))) cNo) (cVar 2) [.val (.str w), .no, .val (.str u), .val (.str st), .val (.str b)] ah = .ok (.str (if negB u.cps.toList = true then cutS u (some 1) none else u)) ah := fun ah => by
    cases hn : negB u.cps.toList with
    | true =>
      rw [hn] at sw
      simp -implicitDefEqProofs only [ev_var, ev_c, ev_bin, bin1_ok, bin1_exc, bin2_ok, bin2_exc, ev_un, ev_fld, ev_isI, un1_ok, un1_exc, ev_test, test1_ok, test1_exc, ev_notT, notT1_ok, notT1_exc, ev_andT, andT1_t, andT1_f, andT1_exc, ev_orT, orT1_t, orT1_f, orT1_exc, ev_and, and1_t, and1_f, and1_exc, ev_or, or1_t, or1_f, or1_exc, ev_if, if1_t, if1_f, if1_exc, ev_chain, ch1_ok, ch1_exc, ch2_ok, ch2_exc, chm_t, chm_f, ch3_ok, ch3_exc, ev_nil, ev_cons, cons1_ok, cons1_exc, cons2_ok, cons2_exc, ev_tup, ev_lst, tup1_ok, tup1_exc, lst1_ok, lst1_exc, ev_no, ev_part, part1_ok, ev_sl, sl1_ok, sl1_exc, sl2_ok, sl3_ok, ev_cb, cb1_ok, cb1_exc, ev_call, call1_ok, call1_exc, ev_make, make1_ok, make1_exc, make2_ok, make2_exc, ev_meth, meth1_ok, meth1_exc, methm_some, methk_ok, methk_exc, cls_obj, ev_bm, bm1_ok, bm1_exc, bm2_ok, bm2_exc, ev_itAny, it1_ok, ev_rng1, rng1_ok, ev_rng2, rng2_ok, ev_enum, enum1_lst, enum1_scr, ev_zip, zip1_lst, ev_skip, ev_seq, seq1_nx, seq1_rt, seq1_bk, seq1_ct, seq1_exc, ev_brk, ev_cnt, ev_expr, expr1_ok, expr1_exc, ev_ret, ret1_ok, ret1_exc, ev_retN, ev_ifS, ifS1_t, ifS1_f, ifS1_exc, nxO_some, ev_asg, asg1_ok, asg1_exc, gN_ap, gTup_ap, gNs_nil, gNs_cons, ev_par, par1_ok, par1_exc, ev_for, for1_ok, for1_exc, forM_some, forK_nx, forK_ct, forK_bk, forK_rt, forK_exc, ev_tryK, tryK1_nx, tryK1_rt, ev_raise, ev_setF, setF1_exc, ev_run, run1_rt, run1_nx, run1_exc, ev_init, init1_nx, init1_exc, add_i, add_s, add_l, add_t, sub_i, mul_i, fdiv_i, mod_i, pow_i, neg_i, not_b, lt_i, le_i, gt_i, ge_i, eq_i, ne_i, eq_s, ne_s, is_n, nis_n, abs_i, int_i, int_b, str_i, str_s, list_s, list_l, list_t, tup_s, tup_l, tup_t, len_l, len_t, len_r, idx_l, idx_t, idx_r, sl_l, sl_t, whC_t, whC_f, whK_nx, whK_ct, whK_bk, whK_rt, at_0, at_1, at_2, at_3, at_4, ev_ixS, ixS0_val, ixS0_own, ixS1_ok, gAny_t, gAny_l, ev_newL, newL1_ok, ev_app, app0_own, app1_ok, ev_setI, setI0_own, setI1_ok, setI2_ok, ev_frz, frz0_own, frz0_val, lcL_nil, lcL_cons, lcO_some, lcA_t, lcA_f, lcB_ok, lc2_ok, ev_yes, wipe_nil, wipe_cons, ev_lc, lc0_ok, lcE_ok, it_l, it_t, it_r, ev_starts, ev_ends, ev_isB, ev_notB, ev_itS, ev_isStr, ev_isLst, List.getElem?_cons_zero, List.getElem?_cons_succ, List.set_cons_zero, List.set_cons_succ, List.length_cons, List.length_nil, List.cons_append, List.nil_append, List.append_nil, Nat.reduceAdd, Nat.reduceLeDiff, Nat.reduceEqDiff, ↓reduceIte, ofO_some, Bool.not_true, Bool.not_false, Option.map_some, Option.bind_some, decide_true, decide_false, Nat.zero_add, isN, Bool.false_eq_true, List.set_cons_zero, Int.reduceLT, Int.reduceLE, Int.reduceEq, sw, slD_s hs]
    | false =>
      rw [hn] at sw
      simp -implicitDefEqProofs only [ev_var, ev_c, ev_bin, bin1_ok, bin1_exc, bin2_ok, bin2_exc, ev_un, ev_fld, ev_isI, un1_ok, un1_exc, ev_test, test1_ok, test1_exc, ev_notT, notT1_ok, notT1_exc, ev_andT, andT1_t, andT1_f, andT1_exc, ev_orT, orT1_t, orT1_f, orT1_exc, ev_and, and1_t, and1_f, and1_exc, ev_or, or1_t, or1_f, or1_exc, ev_if, if1_t, if1_f, if1_exc, ev_chain, ch1_ok, ch1_exc, ch2_ok, ch2_exc, chm_t, chm_f, ch3_ok, ch3_exc, ev_nil, ev_cons, cons1_ok, cons1_exc, cons2_ok, cons2_exc, ev_tup, ev_lst, tup1_ok, tup1_exc, lst1_ok, lst1_exc, ev_no, ev_part, part1_ok, ev_sl, sl1_ok, sl1_exc, sl2_ok, sl3_ok, ev_cb, cb1_ok, cb1_exc, ev_call, call1_ok, call1_exc, ev_make, make1_ok, make1_exc, make2_ok, make2_exc, ev_meth, meth1_ok, meth1_exc, methm_some, methk_ok, methk_exc, cls_obj, ev_bm, bm1_ok, bm1_exc, bm2_ok, bm2_exc, ev_itAny, it1_ok, ev_rng1, rng1_ok, ev_rng2, rng2_ok, ev_enum, enum1_lst, enum1_scr, ev_zip, zip1_lst, ev_skip, ev_seq, seq1_nx, seq1_rt, seq1_bk, seq1_ct, seq1_exc, ev_brk, ev_cnt, ev_expr, expr1_ok, expr1_exc, ev_ret, ret1_ok, ret1_exc, ev_retN, ev_ifS, ifS1_t, ifS1_f, ifS1_exc, nxO_some, ev_asg, asg1_ok, asg1_exc, gN_ap, gTup_ap, gNs_nil, gNs_cons, ev_par, par1_ok, par1_exc, ev_for, for1_ok, for1_exc, forM_some, forK_nx, forK_ct, forK_bk, forK_rt, forK_exc, ev_tryK, tryK1_nx, tryK1_rt, ev_raise, ev_setF, setF1_exc, ev_run, run1_rt, run1_nx, run1_exc, ev_init, init1_nx, init1_exc, add_i, add_s, add_l, add_t, sub_i, mul_i, fdiv_i, mod_i, pow_i, neg_i, not_b, lt_i, le_i, gt_i, ge_i, eq_i, ne_i, eq_s, ne_s, is_n, nis_n, abs_i, int_i, int_b, str_i, str_s, list_s, list_l, list_t, tup_s, tup_l, tup_t, len_l, len_t, len_r, idx_l, idx_t, idx_r, sl_l, sl_t, whC_t, whC_f, whK_nx, whK_ct, whK_bk, whK_rt, at_0, at_1, at_2, at_3, at_4, ev_ixS, ixS0_val, ixS0_own, ixS1_ok, gAny_t, gAny_l, ev_newL, newL1_ok, ev_app, app0_own, app1_ok, ev_setI, setI0_own, setI1_ok, setI2_ok, ev_frz, frz0_own, frz0_val, lcL_nil, lcL_cons, lcO_some, lcA_t, lcA_f, lcB_ok, lc2_ok, ev_yes, wipe_nil, wipe_cons, ev_lc, lc0_ok, lcE_ok, it_l, it_t, it_r, ev_starts, ev_ends, ev_isB, ev_notB, ev_itS, ev_isStr, ev_isLst, List.getElem?_cons_zero, List.getElem?_cons_succ, List.set_cons_zero, List.set_cons_succ, List.length_cons, List.length_nil, List.cons_append, List.nil_append, List.append_nil, Nat.reduceAdd, Nat.reduceLeDiff, Nat.reduceEqDiff, ↓reduceIte, ofO_some, Bool.not_true, Bool.not_false, Option.map_some, Option.bind_some, decide_true, decide_false, Nat.zero_add, isN, Bool.false_eq_true, List.set_cons_zero, Int.reduceLT, Int.reduceLE, Int.reduceEq, sw]
  generalize (if negB u.cps.toList = true then cutS u (some 1) none else u) = sz at iff_ si
  unfold rd gT
  cases h1 : figB (szL u.cps.toList) with
  | false =>
    rw [h1] at si
    simp -implicitDefEqProofs only [k_read_ratio_1, ev_var, ev_c, ev_bin, bin1_ok, bin1_exc, bin2_ok, bin2_exc, ev_un, ev_fld, ev_isI, un1_ok, un1_exc, ev_test, test1_ok, test1_exc, ev_notT, notT1_ok, notT1_exc, ev_andT, andT1_t, andT1_f, andT1_exc, ev_orT, orT1_t, orT1_f, orT1_exc, ev_and, and1_t, and1_f, and1_exc, ev_or, or1_t, or1_f, or1_exc, ev_if, if1_t, if1_f, if1_exc, ev_chain, ch1_ok, ch1_exc, ch2_ok, ch2_exc, chm_t, chm_f, ch3_ok, ch3_exc, ev_nil, ev_cons, cons1_ok, cons1_exc, cons2_ok, cons2_exc, ev_tup, ev_lst, tup1_ok, tup1_exc, lst1_ok, lst1_exc, ev_no, ev_part, part1_ok, ev_sl, sl1_ok, sl1_exc, sl2_ok, sl3_ok, ev_cb, cb1_ok, cb1_exc, ev_call, call1_ok, call1_exc, ev_make, make1_ok, make1_exc, make2_ok, make2_exc, ev_meth, meth1_ok, meth1_exc, methm_some, methk_ok, methk_exc, cls_obj, ev_bm, bm1_ok, bm1_exc, bm2_ok, bm2_exc, ev_itAny, it1_ok, ev_rng1, rng1_ok, ev_rng2, rng2_ok, ev_enum, enum1_lst, enum1_scr, ev_zip, zip1_lst, ev_skip, ev_seq, seq1_nx, seq1_rt, seq1_bk, seq1_ct, seq1_exc, ev_brk, ev_cnt, ev_expr, expr1_ok, expr1_exc, ev_ret, ret1_ok, ret1_exc, ev_retN, ev_ifS, ifS1_t, ifS1_f, ifS1_exc, nxO_some, ev_asg, asg1_ok, asg1_exc, gN_ap, gTup_ap, gNs_nil, gNs_cons, ev_par, par1_ok, par1_exc, ev_for, for1_ok, for1_exc, forM_some, forK_nx, forK_ct, forK_bk, forK_rt, forK_exc, ev_tryK, tryK1_nx, tryK1_rt, ev_raise, ev_setF, setF1_exc, ev_run, run1_rt, run1_nx, run1_exc, ev_init, init1_nx, init1_exc, add_i, add_s, add_l, add_t, sub_i, mul_i, fdiv_i, mod_i, pow_i, neg_i, not_b, lt_i, le_i, gt_i, ge_i, eq_i, ne_i, eq_s, ne_s, is_n, nis_n, abs_i, int_i, int_b, str_i, str_s, list_s, list_l, list_t, tup_s, tup_l, tup_t, len_l, len_t, len_r, idx_l, idx_t, idx_r, sl_l, sl_t, whC_t, whC_f, whK_nx, whK_ct, whK_bk, whK_rt, at_0, at_1, at_2, at_3, at_4, ev_ixS, ixS0_val, ixS0_own, ixS1_ok, gAny_t, gAny_l, ev_newL, newL1_ok, ev_app, app0_own, app1_ok, ev_setI, setI0_own, setI1_ok, setI2_ok, ev_frz, frz0_own, frz0_val, lcL_nil, lcL_cons, lcO_some, lcA_t, lcA_f, lcB_ok, lc2_ok, ev_yes, wipe_nil, wipe_cons, ev_lc, lc0_ok, lcE_ok, it_l, it_t, it_r, ev_starts, ev_ends, ev_isB, ev_notB, ev_itS, ev_isStr, ev_isLst, List.getElem?_cons_zero, List.getElem?_cons_succ, List.set_cons_zero, List.set_cons_succ, List.length_cons, List.length_nil, List.cons_append, List.nil_append, List.append_nil, Nat.reduceAdd, Nat.reduceLeDiff, Nat.reduceEqDiff, ↓reduceIte, ofO_some, Bool.not_true, Bool.not_false, Option.map_some, Option.bind_some, decide_true, decide_false, Nat.zero_add, isN, Bool.false_eq_true, List.set_cons_zero, Int.reduceLT, Int.reduceLE, Int.reduceEq, iff_, si, Bool.false_and, rdR, -ev_if]
  | true =>
    rw [h1] at si
    cases h2 : (negB u.cps.toList && decide (szL u.cps.toList = [48])) with
    | true =>
      rw [h2] at q1
      simp -implicitDefEqProofs only [k_read_ratio_1, ev_var, ev_c, ev_bin, bin1_ok, bin1_exc, bin2_ok, bin2_exc, ev_un, ev_fld, ev_isI, un1_ok, un1_exc, ev_test, test1_ok, test1_exc, ev_notT, notT1_ok, notT1_exc, ev_andT, andT1_t, andT1_f, andT1_exc, ev_orT, orT1_t, orT1_f, orT1_exc, ev_and, and1_t, and1_f, and1_exc, ev_or, or1_t, or1_f, or1_exc, ev_if, if1_t, if1_f, if1_exc, ev_chain, ch1_ok, ch1_exc, ch2_ok, ch2_exc, chm_t, chm_f, ch3_ok, ch3_exc, ev_nil, ev_cons, cons1_ok, cons1_exc, cons2_ok, cons2_exc, ev_tup, ev_lst, tup1_ok, tup1_exc, lst1_ok, lst1_exc, ev_no, ev_part, part1_ok, ev_sl, sl1_ok, sl1_exc, sl2_ok, sl3_ok, ev_cb, cb1_ok, cb1_exc, ev_call, call1_ok, call1_exc, ev_make, make1_ok, make1_exc, make2_ok, make2_exc, ev_meth, meth1_ok, meth1_exc, methm_some, methk_ok, methk_exc, cls_obj, ev_bm, bm1_ok, bm1_exc, bm2_ok, bm2_exc, ev_itAny, it1_ok, ev_rng1, rng1_ok, ev_rng2, rng2_ok, ev_enum, enum1_lst, enum1_scr, ev_zip, zip1_lst, ev_skip, ev_seq, seq1_nx, seq1_rt, seq1_bk, seq1_ct, seq1_exc, ev_brk, ev_cnt, ev_expr, expr1_ok, expr1_exc, ev_ret, ret1_ok, ret1_exc, ev_retN, ev_ifS, ifS1_t, ifS1_f, ifS1_exc, nxO_some, ev_asg, asg1_ok, asg1_exc, gN_ap, gTup_ap, gNs_nil, gNs_cons, ev_par, par1_ok, par1_exc, ev_for, for1_ok, for1_exc, forM_some, forK_nx, forK_ct, forK_bk, forK_rt, forK_exc, ev_tryK, tryK1_nx, tryK1_rt, ev_raise, ev_setF, setF1_exc, ev_run, run1_rt, run1_nx, run1_exc, ev_init, init1_nx, init1_exc, add_i, add_s, add_l, add_t, sub_i, mul_i, fdiv_i, mod_i, pow_i, neg_i, not_b, lt_i, le_i, gt_i, ge_i, eq_i, ne_i, eq_s, ne_s, is_n, nis_n, abs_i, int_i, int_b, str_i, str_s, list_s, list_l, list_t, tup_s, tup_l, tup_t, len_l, len_t, len_r, idx_l, idx_t, idx_r, sl_l, sl_t, whC_t, whC_f, whK_nx, whK_ct, whK_bk, whK_rt, at_0, at_1, at_2, at_3, at_4, ev_ixS, ixS0_val, ixS0_own, ixS1_ok, gAny_t, gAny_l, ev_newL, newL1_ok, ev_app, app0_own, app1_ok, ev_setI, setI0_own, setI1_ok, setI2_ok, ev_frz, frz0_own, frz0_val, lcL_nil, lcL_cons, lcO_some, lcA_t, lcA_f, lcB_ok, lc2_ok, ev_yes, wipe_nil, wipe_cons, ev_lc, lc0_ok, lcE_ok, it_l, it_t, it_r, ev_starts, ev_ends, ev_isB, ev_notB, ev_itS, ev_isStr, ev_isLst, List.getElem?_cons_zero, List.getElem?_cons_succ, List.set_cons_zero, List.set_cons_succ, List.length_cons, List.length_nil, List.cons_append, List.nil_append, List.append_nil, Nat.reduceAdd, Nat.reduceLeDiff, Nat.reduceEqDiff, ↓reduceIte, ofO_some, Bool.not_true, Bool.not_false, Option.map_some, Option.bind_some, decide_true, decide_false, Nat.zero_add, isN, Bool.false_eq_true, List.set_cons_zero, Int.reduceLT, Int.reduceLE, Int.reduceEq, iff_, si, q1, Bool.and_false, rdR, -ev_if]
    | false =>
      rw [h2] at q1
      have it' := it h1
      rcases hst with ⟨rfl, rfl⟩ | ⟨rfl, rfl⟩
      · simp -implicitDefEqProofs only [k_read_ratio_1, ev_var, ev_c, ev_bin, bin1_ok, bin1_exc, bin2_ok, bin2_exc, ev_un, ev_fld, ev_isI, un1_ok, un1_exc, ev_test, test1_ok, test1_exc, ev_notT, notT1_ok, notT1_exc, ev_andT, andT1_t, andT1_f, andT1_exc, ev_orT, orT1_t, orT1_f, orT1_exc, ev_and, and1_t, and1_f, and1_exc, ev_or, or1_t, or1_f, or1_exc, ev_if, if1_t, if1_f, if1_exc, ev_chain, ch1_ok, ch1_exc, ch2_ok, ch2_exc, chm_t, chm_f, ch3_ok, ch3_exc, ev_nil, ev_cons, cons1_ok, cons1_exc, cons2_ok, cons2_exc, ev_tup, ev_lst, tup1_ok, tup1_exc, lst1_ok, lst1_exc, ev_no, ev_part, part1_ok, ev_sl, sl1_ok, sl1_exc, sl2_ok, sl3_ok, ev_cb, cb1_ok, cb1_exc, ev_call, call1_ok, call1_exc, ev_make, make1_ok, make1_exc, make2_ok, make2_exc, ev_meth, meth1_ok, meth1_exc, methm_some, methk_ok, methk_exc, cls_obj, ev_bm, bm1_ok, bm1_exc, bm2_ok, bm2_exc, ev_itAny, it1_ok, ev_rng1, rng1_ok, ev_rng2, rng2_ok, ev_enum, enum1_lst, enum1_scr, ev_zip, zip1_lst, ev_skip, ev_seq, seq1_nx, seq1_rt, seq1_bk, seq1_ct, seq1_exc, ev_brk, ev_cnt, ev_expr, expr1_ok, expr1_exc, ev_ret, ret1_ok, ret1_exc, ev_retN, ev_ifS, ifS1_t, ifS1_f, ifS1_exc, nxO_some, ev_asg, asg1_ok, asg1_exc, gN_ap, gTup_ap, gNs_nil, gNs_cons, ev_par, par1_ok, par1_exc, ev_for, for1_ok, for1_exc, forM_some, forK_nx, forK_ct, forK_bk, forK_rt, forK_exc, ev_tryK, tryK1_nx, tryK1_rt, ev_raise, ev_setF, setF1_exc, ev_run, run1_rt, run1_nx, run1_exc, ev_init, init1_nx, init1_exc, add_i, add_s, add_l, add_t, sub_i, mul_i, fdiv_i, mod_i, pow_i, neg_i, not_b, lt_i, le_i, gt_i, ge_i, eq_i, ne_i, eq_s, ne_s, is_n, nis_n, abs_i, int_i, int_b, str_i, str_s, list_s, list_l, list_t, tup_s, tup_l, tup_t, len_l, len_t, len_r, idx_l, idx_t, idx_r, sl_l, sl_t, whC_t, whC_f, whK_nx, whK_ct, whK_bk, whK_rt, at_0, at_1, at_2, at_3, at_4, ev_ixS, ixS0_val, ixS0_own, ixS1_ok, gAny_t, gAny_l, ev_newL, newL1_ok, ev_app, app0_own, app1_ok, ev_setI, setI0_own, setI1_ok, setI2_ok, ev_frz, frz0_own, frz0_val, lcL_nil, lcL_cons, lcO_some, lcA_t, lcA_f, lcB_ok, lc2_ok, ev_yes, wipe_nil, wipe_cons, ev_lc, lc0_ok, lcE_ok, it_l, it_t, it_r, ev_starts, ev_ends, ev_isB, ev_notB, ev_itS, ev_isStr, ev_isLst, List.getElem?_cons_zero, List.getElem?_cons_succ, List.set_cons_zero, List.set_cons_succ, List.length_cons, List.length_nil, List.cons_append, List.nil_append, List.append_nil, Nat.reduceAdd, Nat.reduceLeDiff, Nat.reduceEqDiff, ↓reduceIte, ofO_some, Bool.not_true, Bool.not_false, Option.map_some, Option.bind_some, decide_true, decide_false, Nat.zero_add, isN, Bool.false_eq_true, List.set_cons_zero, Int.reduceLT, Int.reduceLE, Int.reduceEq, iff_, si, q1, es, Option.isNone_none, it', init_one, Bool.and_true, rdR, -ev_if]
      · have es2 : decide (("/" : Str) = "") = false := by decide +kernel
        cases h3 : figB b.cps.toList with
        | false =>
          rw [h3] at fb
          have g : gB b.cps.toList = false := by unfold gB; rw [h3]; rfl
          simp -implicitDefEqProofs only [k_read_ratio_1, ev_var, ev_c, ev_bin, bin1_ok, bin1_exc, bin2_ok, bin2_exc, ev_un, ev_fld, ev_isI, un1_ok, un1_exc, ev_test, test1_ok, test1_exc, ev_notT, notT1_ok, notT1_exc, ev_andT, andT1_t, andT1_f, andT1_exc, ev_orT, orT1_t, orT1_f, orT1_exc, ev_and, and1_t, and1_f, and1_exc, ev_or, or1_t, or1_f, or1_exc, ev_if, if1_t, if1_f, if1_exc, ev_chain, ch1_ok, ch1_exc, ch2_ok, ch2_exc, chm_t, chm_f, ch3_ok, ch3_exc, ev_nil, ev_cons, cons1_ok, cons1_exc, cons2_ok, cons2_exc, ev_tup, ev_lst, tup1_ok, tup1_exc, lst1_ok, lst1_exc, ev_no, ev_part, part1_ok, ev_sl, sl1_ok, sl1_exc, sl2_ok, sl3_ok, ev_cb, cb1_ok, cb1_exc, ev_call, call1_ok, call1_exc, ev_make, make1_ok, make1_exc, make2_ok, make2_exc, ev_meth, meth1_ok, meth1_exc, methm_some, methk_ok, methk_exc, cls_obj, ev_bm, bm1_ok, bm1_exc, bm2_ok, bm2_exc, ev_itAny, it1_ok, ev_rng1, rng1_ok, ev_rng2, rng2_ok, ev_enum, enum1_lst, enum1_scr, ev_zip, zip1_lst, ev_skip, ev_seq, seq1_nx, seq1_rt, seq1_bk, seq1_ct, seq1_exc, ev_brk, ev_cnt, ev_expr, expr1_ok, expr1_exc, ev_ret, ret1_ok, ret1_exc, ev_retN, ev_ifS, ifS1_t, ifS1_f, ifS1_exc, nxO_some, ev_asg, asg1_ok, asg1_exc, gN_ap, gTup_ap, gNs_nil, gNs_cons, ev_par, par1_ok, par1_exc, ev_for, for1_ok, for1_exc, forM_some, forK_nx, forK_ct, forK_bk, forK_rt, forK_exc, ev_tryK, tryK1_nx, tryK1_rt, ev_raise, ev_setF, setF1_exc, ev_run, run1_rt, run1_nx, run1_exc, ev_init, init1_nx, init1_exc, add_i, add_s, add_l, add_t, sub_i, mul_i, fdiv_i, mod_i, pow_i, neg_i, not_b, lt_i, le_i, gt_i, ge_i, eq_i, ne_i, eq_s, ne_s, is_n, nis_n, abs_i, int_i, int_b, str_i, str_s, list_s, list_l, list_t, tup_s, tup_l, tup_t, len_l, len_t, len_r, idx_l, idx_t, idx_r, sl_l, sl_t, whC_t, whC_f, whK_nx, whK_ct, whK_bk, whK_rt, at_0, at_1, at_2, at_3, at_4, ev_ixS, ixS0_val, ixS0_own, ixS1_ok, gAny_t, gAny_l, ev_newL, newL1_ok, ev_app, app0_own, app1_ok, ev_setI, setI0_own, setI1_ok, setI2_ok, ev_frz, frz0_own, frz0_val, lcL_nil, lcL_cons, lcO_some, lcA_t, lcA_f, lcB_ok, lc2_ok, ev_yes, wipe_nil, wipe_cons, ev_lc, lc0_ok, lcE_ok, it_l, it_t, it_r, ev_starts, ev_ends, ev_isB, ev_notB, ev_itS, ev_isStr, ev_isLst, List.getElem?_cons_zero, List.getElem?_cons_succ, List.set_cons_zero, List.set_cons_succ, List.length_cons, List.length_nil, List.cons_append, List.nil_append, List.append_nil, Nat.reduceAdd, Nat.reduceLeDiff, Nat.reduceEqDiff, ↓reduceIte, ofO_some, Bool.not_true, Bool.not_false, Option.map_some, Option.bind_some, decide_true, decide_false, Nat.zero_add, isN, Bool.false_eq_true, List.set_cons_zero, Int.reduceLT, Int.reduceLE, Int.reduceEq, iff_, si, q1, es2, fb, g, Bool.and_true, Bool.false_and, rdR, -ev_if]
        | true =>
          rw [h3] at fb
          cases h4 : decide (b.cps.toList = [48]) with
          | true =>
            rw [h4] at q0
            have g : gB b.cps.toList = false := by unfold gB; rw [h3, h4]; rfl
            simp -implicitDefEqProofs only [k_read_ratio_1, ev_var, ev_c, ev_bin, bin1_ok, bin1_exc, bin2_ok, bin2_exc, ev_un, ev_fld, ev_isI, un1_ok, un1_exc, ev_test, test1_ok, test1_exc, ev_notT, notT1_ok, notT1_exc, ev_andT, andT1_t, andT1_f, andT1_exc, ev_orT, orT1_t, orT1_f, orT1_exc, ev_and, and1_t, and1_f, and1_exc, ev_or, or1_t, or1_f, or1_exc, ev_if, if1_t, if1_f, if1_exc, ev_chain, ch1_ok, ch1_exc, ch2_ok, ch2_exc, chm_t, chm_f, ch3_ok, ch3_exc, ev_nil, ev_cons, cons1_ok, cons1_exc, cons2_ok, cons2_exc, ev_tup, ev_lst, tup1_ok, tup1_exc, lst1_ok, lst1_exc, ev_no, ev_part, part1_ok, ev_sl, sl1_ok, sl1_exc, sl2_ok, sl3_ok, ev_cb, cb1_ok, cb1_exc, ev_call, call1_ok, call1_exc, ev_make, make1_ok, make1_exc, make2_ok, make2_exc, ev_meth, meth1_ok, meth1_exc, methm_some, methk_ok, methk_exc, cls_obj, ev_bm, bm1_ok, bm1_exc, bm2_ok, bm2_exc, ev_itAny, it1_ok, ev_rng1, rng1_ok, ev_rng2, rng2_ok, ev_enum, enum1_lst, enum1_scr, ev_zip, zip1_lst, ev_skip, ev_seq, seq1_nx, seq1_rt, seq1_bk, seq1_ct, seq1_exc, ev_brk, ev_cnt, ev_expr, expr1_ok, expr1_exc, ev_ret, ret1_ok, ret1_exc, ev_retN, ev_ifS, ifS1_t, ifS1_f, ifS1_exc, nxO_some, ev_asg, asg1_ok, asg1_exc, gN_ap, gTup_ap, gNs_nil, gNs_cons, ev_par, par1_ok, par1_exc, ev_for, for1_ok, for1_exc, forM_some, forK_nx, forK_ct, forK_bk, forK_rt, forK_exc, ev_tryK, tryK1_nx, tryK1_rt, ev_raise, ev_setF, setF1_exc, ev_run, run1_rt, run1_nx, run1_exc, ev_init, init1_nx, init1_exc, add_i, add_s, add_l, add_t, sub_i, mul_i, fdiv_i, mod_i, pow_i, neg_i, not_b, lt_i, le_i, gt_i, ge_i, eq_i, ne_i, eq_s, ne_s, is_n, nis_n, abs_i, int_i, int_b, str_i, str_s, list_s, list_l, list_t, tup_s, tup_l, tup_t, len_l, len_t, len_r, idx_l, idx_t, idx_r, sl_l, sl_t, whC_t, whC_f, whK_nx, whK_ct, whK_bk, whK_rt, at_0, at_1, at_2, at_3, at_4, ev_ixS, ixS0_val, ixS0_own, ixS1_ok, gAny_t, gAny_l, ev_newL, newL1_ok, ev_app, app0_own, app1_ok, ev_setI, setI0_own, setI1_ok, setI2_ok, ev_frz, frz0_own, frz0_val, lcL_nil, lcL_cons, lcO_some, lcA_t, lcA_f, lcB_ok, lc2_ok, ev_yes, wipe_nil, wipe_cons, ev_lc, lc0_ok, lcE_ok, it_l, it_t, it_r, ev_starts, ev_ends, ev_isB, ev_notB, ev_itS, ev_isStr, ev_isLst, List.getElem?_cons_zero, List.getElem?_cons_succ, List.set_cons_zero, List.set_cons_succ, List.length_cons, List.length_nil, List.cons_append, List.nil_append, List.append_nil, Nat.reduceAdd, Nat.reduceLeDiff, Nat.reduceEqDiff, ↓reduceIte, ofO_some, Bool.not_true, Bool.not_false, Option.map_some, Option.bind_some, decide_true, decide_false, Nat.zero_add, isN, Bool.false_eq_true, List.set_cons_zero, Int.reduceLT, Int.reduceLE, Int.reduceEq, iff_, si, q1, es2, fb, q0, g, Bool.and_true, Bool.and_false, rdR, -ev_if]
          | false =>
            rw [h4] at q0
            have ib := int_d h3
            have nb : ((NumText.digitsVal b.cps.toList : Nat) : Int) ≠ 0 := by
              have h5 : ¬ b.cps.toList = [48] := of_decide_eq_false h4
              have h6 : ¬ NumText.digitsVal b.cps.toList = 0 := fun z => h5 ((dv_zero h3).mp z)
              omega
            have bb : (((NumText.digitsVal b.cps.toList : Nat) : Int)).natAbs < 2 ^ 100 := by
              have := dv_lt h3
              omega
            have g : gB b.cps.toList = true := by unfold gB; rw [h3, h4]; rfl
            simp -implicitDefEqProofs only [k_read_ratio_1, ev_var, ev_c, ev_bin, bin1_ok, bin1_exc, bin2_ok, bin2_exc, ev_un, ev_fld, ev_isI, un1_ok, un1_exc, ev_test, test1_ok, test1_exc, ev_notT, notT1_ok, notT1_exc, ev_andT, andT1_t, andT1_f, andT1_exc, ev_orT, orT1_t, orT1_f, orT1_exc, ev_and, and1_t, and1_f, and1_exc, ev_or, or1_t, or1_f, or1_exc, ev_if, if1_t, if1_f, if1_exc, ev_chain, ch1_ok, ch1_exc, ch2_ok, ch2_exc, chm_t, chm_f, ch3_ok, ch3_exc, ev_nil, ev_cons, cons1_ok, cons1_exc, cons2_ok, cons2_exc, ev_tup, ev_lst, tup1_ok, tup1_exc, lst1_ok, lst1_exc, ev_no, ev_part, part1_ok, ev_sl, sl1_ok, sl1_exc, sl2_ok, sl3_ok, ev_cb, cb1_ok, cb1_exc, ev_call, call1_ok, call1_exc, ev_make, make1_ok, make1_exc, make2_ok, make2_exc, ev_meth, meth1_ok, meth1_exc, methm_some, methk_ok, methk_exc, cls_obj, ev_bm, bm1_ok, bm1_exc, bm2_ok, bm2_exc, ev_itAny, it1_ok, ev_rng1, rng1_ok, ev_rng2, rng2_ok, ev_enum, enum1_lst, enum1_scr, ev_zip, zip1_lst, ev_skip, ev_seq, seq1_nx, seq1_rt, seq1_bk, seq1_ct, seq1_exc, ev_brk, ev_cnt, ev_expr, expr1_ok, expr1_exc, ev_ret, ret1_ok, ret1_exc, ev_retN, ev_ifS, ifS1_t, ifS1_f, ifS1_exc, nxO_some, ev_asg, asg1_ok, asg1_exc, gN_ap, gTup_ap, gNs_nil, gNs_cons, ev_par, par1_ok, par1_exc, ev_for, for1_ok, for1_exc, forM_some, forK_nx, forK_ct, forK_bk, forK_rt, forK_exc, ev_tryK, tryK1_nx, tryK1_rt, ev_raise, ev_setF, setF1_exc, ev_run, run1_rt, run1_nx, run1_exc, ev_init, init1_nx, init1_exc, add_i, add_s, add_l, add_t, sub_i, mul_i, fdiv_i, mod_i, pow_i, neg_i, not_b, lt_i, le_i, gt_i, ge_i, eq_i, ne_i, eq_s, ne_s, is_n, nis_n, abs_i, int_i, int_b, str_i, str_s, list_s, list_l, list_t, tup_s, tup_l, tup_t, len_l, len_t, len_r, idx_l, idx_t, idx_r, sl_l, sl_t, whC_t, whC_f, whK_nx, whK_ct, whK_bk, whK_rt, at_0, at_1, at_2, at_3, at_4, ev_ixS, ixS0_val, ixS0_own, ixS1_ok, gAny_t, gAny_l, ev_newL, newL1_ok, ev_app, app0_own, app1_ok, ev_setI, setI0_own, setI1_ok, setI2_ok, ev_frz, frz0_own, frz0_val, lcL_nil, lcL_cons, lcO_some, lcA_t, lcA_f, lcB_ok, lc2_ok, ev_yes, wipe_nil, wipe_cons, ev_lc, lc0_ok, lcE_ok, it_l, it_t, it_r, ev_starts, ev_ends, ev_isB, ev_notB, ev_itS, ev_isStr, ev_isLst, List.getElem?_cons_zero, List.getElem?_cons_succ, List.set_cons_zero, List.set_cons_succ, List.length_cons, List.length_nil, List.cons_append, List.nil_append, List.append_nil, Nat.reduceAdd, Nat.reduceLeDiff, Nat.reduceEqDiff, ↓reduceIte, ofO_some, Bool.not_true, Bool.not_false, Option.map_some, Option.bind_some, decide_true, decide_false, Nat.zero_add, isN, Bool.false_eq_true, List.set_cons_zero, Int.reduceLT, Int.reduceLE, Int.reduceEq, iff_, si, q1, es2, fb, q0, it', ib, p_init nb bb (by decide : 100 ≤ 9000), g, Bool.and_true, Bool.and_self, rdR, -ev_if]
abbrev mk (l : List Nat) : Str := ⟨l.toArray⟩
theorem tl_mk (l : List Nat) : (mk l).cps.toList = l := rfl
theorem sl47 : TL.tl "/" = [47] := by decide +kernel
theorem slk : (("/" : Str).length == 0) = false := by decide +kernel
theorem p_read0 {w : Str} (hz : w.length ≤ 600) (h : 47 ∉ w.cps.toList) (ah : AH) : f_read_ratio [.str w] ah = rdR (rd w.cps.toList none) ah := by
  have e := TL.partition_none (y := "/") sl47 (a := w) h
  have pa := fun ah => part_ap (ah := ah) (a := w) (b := "/") slk (small w (by omega))
  rw [e] at pa
  have em : (Str.empty : Str) = "" := TL.ext_tl (by decide +kernel)
  have t := fun ah => p_rtail (w := w) (u := w) (st := Str.empty) (b := Str.empty) (ob := none) hz (by decide) (.inl ⟨em, rfl⟩) ah
  simp -implicitDefEqProofs only [r_read_ratio, c_read_ratio, ev_var, ev_c, ev_bin, bin1_ok, bin1_exc, bin2_ok, bin2_exc, ev_un, ev_fld, ev_isI, un1_ok, un1_exc, ev_test, test1_ok, test1_exc, ev_notT, notT1_ok, notT1_exc, ev_andT, andT1_t, andT1_f, andT1_exc, ev_orT, orT1_t, orT1_f, orT1_exc, ev_and, and1_t, and1_f, and1_exc, ev_or, or1_t, or1_f, or1_exc, ev_if, if1_t, if1_f, if1_exc, ev_chain, ch1_ok, ch1_exc, ch2_ok, ch2_exc, chm_t, chm_f, ch3_ok, ch3_exc, ev_nil, ev_cons, cons1_ok, cons1_exc, cons2_ok, cons2_exc, ev_tup, ev_lst, tup1_ok, tup1_exc, lst1_ok, lst1_exc, ev_no, ev_part, part1_ok, ev_sl, sl1_ok, sl1_exc, sl2_ok, sl3_ok, ev_cb, cb1_ok, cb1_exc, ev_call, call1_ok, call1_exc, ev_make, make1_ok, make1_exc, make2_ok, make2_exc, ev_meth, meth1_ok, meth1_exc, methm_some, methk_ok, methk_exc, cls_obj, ev_bm, bm1_ok, bm1_exc, bm2_ok, bm2_exc, ev_itAny, it1_ok, ev_rng1, rng1_ok, ev_rng2, rng2_ok, ev_enum, enum1_lst, enum1_scr, ev_zip, zip1_lst, ev_skip, ev_seq, seq1_nx, seq1_rt, seq1_bk, seq1_ct, seq1_exc, ev_brk, ev_cnt, ev_expr, expr1_ok, expr1_exc, ev_ret, ret1_ok, ret1_exc, ev_retN, ev_ifS, ifS1_t, ifS1_f, ifS1_exc, nxO_some, ev_asg, asg1_ok, asg1_exc, gN_ap, gTup_ap, gNs_nil, gNs_cons, ev_par, par1_ok, par1_exc, ev_for, for1_ok, for1_exc, forM_some, forK_nx, forK_ct, forK_bk, forK_rt, forK_exc, ev_tryK, tryK1_nx, tryK1_rt, ev_raise, ev_setF, setF1_exc, ev_run, run1_rt, run1_nx, run1_exc, ev_init, init1_nx, init1_exc, add_i, add_s, add_l, add_t, sub_i, mul_i, fdiv_i, mod_i, pow_i, neg_i, not_b, lt_i, le_i, gt_i, ge_i, eq_i, ne_i, eq_s, ne_s, is_n, nis_n, abs_i, int_i, int_b, str_i, str_s, list_s, list_l, list_t, tup_s, tup_l, tup_t, len_l, len_t, len_r, idx_l, idx_t, idx_r, sl_l, sl_t, whC_t, whC_f, whK_nx, whK_ct, whK_bk, whK_rt, at_0, at_1, at_2, at_3, at_4, ev_ixS, ixS0_val, ixS0_own, ixS1_ok, gAny_t, gAny_l, ev_newL, newL1_ok, ev_app, app0_own, app1_ok, ev_setI, setI0_own, setI1_ok, setI2_ok, ev_frz, frz0_own, frz0_val, lcL_nil, lcL_cons, lcO_some, lcA_t, lcA_f, lcB_ok, lc2_ok, ev_yes, wipe_nil, wipe_cons, ev_lc, lc0_ok, lcE_ok, it_l, it_t, it_r, ev_starts, ev_ends, ev_isB, ev_notB, ev_itS, ev_isStr, ev_isLst, List.getElem?_cons_zero, List.getElem?_cons_succ, List.set_cons_zero, List.set_cons_succ, List.length_cons, List.length_nil, List.cons_append, List.nil_append, List.append_nil, Nat.reduceAdd, Nat.reduceLeDiff, Nat.reduceEqDiff, ↓reduceIte, ofO_some, Bool.not_true, Bool.not_false, Option.map_some, Option.bind_some, decide_true, decide_false, Nat.zero_add, isN, Bool.false_eq_true, List.set_cons_zero, Int.reduceLT, Int.reduceLE, Int.reduceEq, pa, t]
theorem p_read1 {w : Str} {a b : List Nat} (hz : w.length ≤ 600) (h : w.cps.toList = a ++ 47 :: b) (ha : 47 ∉ a) (ah : AH) : f_read_ratio [.str w] ah = rdR (rd a (some b)) ah := by
  have sl : ("/" : Str).cps.toList = [47] := sl47
  have ew : w = mk a ++ "/" ++ mk b := TL.ext_tl (by rw [TL.tl_append, TL.tl_append]; show w.cps.toList = a ++ ("/" : Str).cps.toList ++ b; rw [h, sl]; simp)
  have e := TL.partition_app (y := "/") sl47 (a := mk a) (b := mk b) ha
  rw [← ew] at e
  have pa := fun ah => part_ap (ah := ah) (a := w) (b := "/") slk (small w (by omega))
  rw [e] at pa
  have el : w.length = a.length + (b.length + 1) := by rw [TL.len_tl]; show w.cps.toList.length = _; rw [h, List.length_append, List.length_cons]
  have la : (mk a).length = a.length := TL.len_tl _
  have lb : (mk b).length = b.length := TL.len_tl _
  have t := fun ah => p_rtail (w := w) (u := mk a) (st := "/") (b := mk b) (ob := some b) (by omega) (by omega) (.inr ⟨rfl, rfl⟩) ah
  simp -implicitDefEqProofs only [r_read_ratio, c_read_ratio, ev_var, ev_c, ev_bin, bin1_ok, bin1_exc, bin2_ok, bin2_exc, ev_un, ev_fld, ev_isI, un1_ok, un1_exc, ev_test, test1_ok, test1_exc, ev_notT, notT1_ok, notT1_exc, ev_andT, andT1_t, andT1_f, andT1_exc, ev_orT, orT1_t, orT1_f, orT1_exc, ev_and, and1_t, and1_f, and1_exc, ev_or, or1_t, or1_f, or1_exc, ev_if, if1_t, if1_f, if1_exc, ev_chain, ch1_ok, ch1_exc, ch2_ok, ch2_exc, chm_t, chm_f, ch3_ok, ch3_exc, ev_nil, ev_cons, cons1_ok, cons1_exc, cons2_ok, cons2_exc, ev_tup, ev_lst, tup1_ok, tup1_exc, lst1_ok, lst1_exc, ev_no, ev_part, part1_ok, ev_sl, sl1_ok, sl1_exc, sl2_ok, sl3_ok, ev_cb, cb1_ok, cb1_exc, ev_call, call1_ok, call1_exc, ev_make, make1_ok, make1_exc, make2_ok, make2_exc, ev_meth, meth1_ok, meth1_exc, methm_some, methk_ok, methk_exc, cls_obj, ev_bm, bm1_ok, bm1_exc, bm2_ok, bm2_exc, ev_itAny, it1_ok, ev_rng1, rng1_ok, ev_rng2, rng2_ok, ev_enum, enum1_lst, enum1_scr, ev_zip, zip1_lst, ev_skip, ev_seq, seq1_nx, seq1_rt, seq1_bk, seq1_ct, seq1_exc, ev_brk, ev_cnt, ev_expr, expr1_ok, expr1_exc, ev_ret, ret1_ok, ret1_exc, ev_retN, ev_ifS, ifS1_t, ifS1_f, ifS1_exc, nxO_some, ev_asg, asg1_ok, asg1_exc, gN_ap, gTup_ap, gNs_nil, gNs_cons, ev_par, par1_ok, par1_exc, ev_for, for1_ok, for1_exc, forM_some, forK_nx, forK_ct, forK_bk, forK_rt, forK_exc, ev_tryK, tryK1_nx, tryK1_rt, ev_raise, ev_setF, setF1_exc, ev_run, run1_rt, run1_nx, run1_exc, ev_init, init1_nx, init1_exc, add_i, add_s, add_l, add_t, sub_i, mul_i, fdiv_i, mod_i, pow_i, neg_i, not_b, lt_i, le_i, gt_i, ge_i, eq_i, ne_i, eq_s, ne_s, is_n, nis_n, abs_i, int_i, int_b, str_i, str_s, list_s, list_l, list_t, tup_s, tup_l, tup_t, len_l, len_t, len_r, idx_l, idx_t, idx_r, sl_l, sl_t, whC_t, whC_f, whK_nx, whK_ct, whK_bk, whK_rt, at_0, at_1, at_2, at_3, at_4, ev_ixS, ixS0_val, ixS0_own, ixS1_ok, gAny_t, gAny_l, ev_newL, newL1_ok, ev_app, app0_own, app1_ok, ev_setI, setI0_own, setI1_ok, setI2_ok, ev_frz, frz0_own, frz0_val, lcL_nil, lcL_cons, lcO_some, lcA_t, lcA_f, lcB_ok, lc2_ok, ev_yes, wipe_nil, wipe_cons, ev_lc, lc0_ok, lcE_ok, it_l, it_t, it_r, ev_starts, ev_ends, ev_isB, ev_notB, ev_itS, ev_isStr, ev_isLst, List.getElem?_cons_zero, List.getElem?_cons_succ, List.set_cons_zero, List.set_cons_succ, List.length_cons, List.length_nil, List.cons_append, List.nil_append, List.append_nil, Nat.reduceAdd, Nat.reduceLeDiff, Nat.reduceEqDiff, ↓reduceIte, ofO_some, Bool.not_true, Bool.not_false, Option.map_some, Option.bind_some, decide_true, decide_false, Nat.zero_add, isN, Bool.false_eq_true, List.set_cons_zero, Int.reduceLT, Int.reduceLE, Int.reduceEq, pa, t]
def txq (q : Rat) : Str := if q.den = 1 then toString q.num else toString q.num ++ "/" ++ toString ((q.den : Nat) : Int)
theorem p_textQ {q : Rat} (h : Sz 100 q) {ah : AH} : f_Ratio_text [rt q] ah = .ok (.str (txq q)) ah := by
  have l1 : (toString q.num : Str).length ≤ 101 := txt_len (by decide) h.1
  have l2 : (toString ((q.den : Nat) : Int) : Str).length ≤ 101 := txt_len (by decide) (den_ab h)
  have s1 := log_w h.1 (by decide) (by decide)
  have s2 := log_w (den_ab h) (by decide) (by decide)
  have ls : ("/" : Str).length = 1 := rfl
  have a1 : (toString q.num : Str).length + ("/" : Str).length ≤ sizeLine := Nat.le_trans (by rw [ls]; omega) (show 200 ≤ sizeLine by decide)
  have a2 : ((toString q.num : Str) ++ ("/" : Str)).length + (toString ((q.den : Nat) : Int) : Str).length ≤ sizeLine := Nat.le_trans (by rw [strLen_append, ls]; omega) (show 300 ≤ sizeLine by decide)
  unfold txq rt
  by_cases hq : q.den = 1
  · have hq2 : ((q.den : Nat) : Int) = 1 := by omega
    rw [if_pos hq, hq2]
    simp -implicitDefEqProofs only [r_Ratio_text, c_Ratio_text, ev_var, ev_c, ev_bin, bin1_ok, bin1_exc, bin2_ok, bin2_exc, ev_un, ev_fld, ev_isI, un1_ok, un1_exc, ev_test, test1_ok, test1_exc, ev_notT, notT1_ok, notT1_exc, ev_andT, andT1_t, andT1_f, andT1_exc, ev_orT, orT1_t, orT1_f, orT1_exc, ev_and, and1_t, and1_f, and1_exc, ev_or, or1_t, or1_f, or1_exc, ev_if, if1_t, if1_f, if1_exc, ev_chain, ch1_ok, ch1_exc, ch2_ok, ch2_exc, chm_t, chm_f, ch3_ok, ch3_exc, ev_nil, ev_cons, cons1_ok, cons1_exc, cons2_ok, cons2_exc, ev_tup, ev_lst, tup1_ok, tup1_exc, lst1_ok, lst1_exc, ev_no, ev_part, part1_ok, ev_sl, sl1_ok, sl1_exc, sl2_ok, sl3_ok, ev_cb, cb1_ok, cb1_exc, ev_call, call1_ok, call1_exc, ev_make, make1_ok, make1_exc, make2_ok, make2_exc, ev_meth, meth1_ok, meth1_exc, methm_some, methk_ok, methk_exc, cls_obj, ev_bm, bm1_ok, bm1_exc, bm2_ok, bm2_exc, ev_itAny, it1_ok, ev_rng1, rng1_ok, ev_rng2, rng2_ok, ev_enum, enum1_lst, enum1_scr, ev_zip, zip1_lst, ev_skip, ev_seq, seq1_nx, seq1_rt, seq1_bk, seq1_ct, seq1_exc, ev_brk, ev_cnt, ev_expr, expr1_ok, expr1_exc, ev_ret, ret1_ok, ret1_exc, ev_retN, ev_ifS, ifS1_t, ifS1_f, ifS1_exc, nxO_some, ev_asg, asg1_ok, asg1_exc, gN_ap, gTup_ap, gNs_nil, gNs_cons, ev_par, par1_ok, par1_exc, ev_for, for1_ok, for1_exc, forM_some, forK_nx, forK_ct, forK_bk, forK_rt, forK_exc, ev_tryK, tryK1_nx, tryK1_rt, ev_raise, ev_setF, setF1_exc, ev_run, run1_rt, run1_nx, run1_exc, ev_init, init1_nx, init1_exc, add_i, add_s, add_l, add_t, sub_i, mul_i, fdiv_i, mod_i, pow_i, neg_i, not_b, lt_i, le_i, gt_i, ge_i, eq_i, ne_i, eq_s, ne_s, is_n, nis_n, abs_i, int_i, int_b, str_i, str_s, list_s, list_l, list_t, tup_s, tup_l, tup_t, len_l, len_t, len_r, idx_l, idx_t, idx_r, sl_l, sl_t, whC_t, whC_f, whK_nx, whK_ct, whK_bk, whK_rt, at_0, at_1, at_2, at_3, at_4, ev_ixS, ixS0_val, ixS0_own, ixS1_ok, gAny_t, gAny_l, ev_newL, newL1_ok, ev_app, app0_own, app1_ok, ev_setI, setI0_own, setI1_ok, setI2_ok, ev_frz, frz0_own, frz0_val, lcL_nil, lcL_cons, lcO_some, lcA_t, lcA_f, lcB_ok, lc2_ok, ev_yes, wipe_nil, wipe_cons, ev_lc, lc0_ok, lcE_ok, it_l, it_t, it_r, ev_starts, ev_ends, ev_isB, ev_notB, ev_itS, ev_isStr, ev_isLst, List.getElem?_cons_zero, List.getElem?_cons_succ, List.set_cons_zero, List.set_cons_succ, List.length_cons, List.length_nil, List.cons_append, List.nil_append, List.append_nil, Nat.reduceAdd, Nat.reduceLeDiff, Nat.reduceEqDiff, ↓reduceIte, ofO_some, Bool.not_true, Bool.not_false, Option.map_some, Option.bind_some, decide_true, decide_false, Nat.zero_add, isN, Bool.false_eq_true, List.set_cons_zero, Int.reduceLT, Int.reduceLE, Int.reduceEq, fl_Ratio_top, fl_Ratio_bottom, str_i s1]
  · have hq2 : ¬ ((q.den : Nat) : Int) = 1 := by omega
    simp -implicitDefEqProofs only [r_Ratio_text, c_Ratio_text, ev_var, ev_c, ev_bin, bin1_ok, bin1_exc, bin2_ok, bin2_exc, ev_un, ev_fld, ev_isI, un1_ok, un1_exc, ev_test, test1_ok, test1_exc, ev_notT, notT1_ok, notT1_exc, ev_andT, andT1_t, andT1_f, andT1_exc, ev_orT, orT1_t, orT1_f, orT1_exc, ev_and, and1_t, and1_f, and1_exc, ev_or, or1_t, or1_f, or1_exc, ev_if, if1_t, if1_f, if1_exc, ev_chain, ch1_ok, ch1_exc, ch2_ok, ch2_exc, chm_t, chm_f, ch3_ok, ch3_exc, ev_nil, ev_cons, cons1_ok, cons1_exc, cons2_ok, cons2_exc, ev_tup, ev_lst, tup1_ok, tup1_exc, lst1_ok, lst1_exc, ev_no, ev_part, part1_ok, ev_sl, sl1_ok, sl1_exc, sl2_ok, sl3_ok, ev_cb, cb1_ok, cb1_exc, ev_call, call1_ok, call1_exc, ev_make, make1_ok, make1_exc, make2_ok, make2_exc, ev_meth, meth1_ok, meth1_exc, methm_some, methk_ok, methk_exc, cls_obj, ev_bm, bm1_ok, bm1_exc, bm2_ok, bm2_exc, ev_itAny, it1_ok, ev_rng1, rng1_ok, ev_rng2, rng2_ok, ev_enum, enum1_lst, enum1_scr, ev_zip, zip1_lst, ev_skip, ev_seq, seq1_nx, seq1_rt, seq1_bk, seq1_ct, seq1_exc, ev_brk, ev_cnt, ev_expr, expr1_ok, expr1_exc, ev_ret, ret1_ok, ret1_exc, ev_retN, ev_ifS, ifS1_t, ifS1_f, ifS1_exc, nxO_some, ev_asg, asg1_ok, asg1_exc, gN_ap, gTup_ap, gNs_nil, gNs_cons, ev_par, par1_ok, par1_exc, ev_for, for1_ok, for1_exc, forM_some, forK_nx, forK_ct, forK_bk, forK_rt, forK_exc, ev_tryK, tryK1_nx, tryK1_rt, ev_raise, ev_setF, setF1_exc, ev_run, run1_rt, run1_nx, run1_exc, ev_init, init1_nx, init1_exc, add_i, add_s, add_l, add_t, sub_i, mul_i, fdiv_i, mod_i, pow_i, neg_i, not_b, lt_i, le_i, gt_i, ge_i, eq_i, ne_i, eq_s, ne_s, is_n, nis_n, abs_i, int_i, int_b, str_i, str_s, list_s, list_l, list_t, tup_s, tup_l, tup_t, len_l, len_t, len_r, idx_l, idx_t, idx_r, sl_l, sl_t, whC_t, whC_f, whK_nx, whK_ct, whK_bk, whK_rt, at_0, at_1, at_2, at_3, at_4, ev_ixS, ixS0_val, ixS0_own, ixS1_ok, gAny_t, gAny_l, ev_newL, newL1_ok, ev_app, app0_own, app1_ok, ev_setI, setI0_own, setI1_ok, setI2_ok, ev_frz, frz0_own, frz0_val, lcL_nil, lcL_cons, lcO_some, lcA_t, lcA_f, lcB_ok, lc2_ok, ev_yes, wipe_nil, wipe_cons, ev_lc, lc0_ok, lcE_ok, it_l, it_t, it_r, ev_starts, ev_ends, ev_isB, ev_notB, ev_itS, ev_isStr, ev_isLst, List.getElem?_cons_zero, List.getElem?_cons_succ, List.set_cons_zero, List.set_cons_succ, List.length_cons, List.length_nil, List.cons_append, List.nil_append, List.append_nil, Nat.reduceAdd, Nat.reduceLeDiff, Nat.reduceEqDiff, ↓reduceIte, ofO_some, Bool.not_true, Bool.not_false, Option.map_some, Option.bind_some, decide_true, decide_false, Nat.zero_add, isN, Bool.false_eq_true, List.set_cons_zero, Int.reduceLT, Int.reduceLE, Int.reduceEq, fl_Ratio_top, fl_Ratio_bottom, str_i s1, str_i s2, decide_eq_false hq2, add_s a1, add_s a2, if_neg hq]
/-! ### a fraction's text read -/
theorem numL_head {n : Nat} (h : (TL.numL n).head? = some 48) : n = 0 := by
  induction n using Nat.strongRecOn with
  | _ n ih =>
    by_cases h1 : n < 10
    · rw [TL.numL_lt h1] at h
      simp at h
      omega
    · rw [TL.numL_step (by omega)] at h
      have hne := TL.numL_ne (n / 10)
      have h2 : (TL.numL (n / 10)).head? = some 48 := by
        cases e : TL.numL (n / 10) with
        | nil => exact absurd e hne
        | cons a r =>
          rw [e] at h
          exact h
      have := ih (n / 10) (by omega) h2
      omega
theorem figB_num {n : Nat} (h : n < 10 ^ 30) : figB (TL.numL n) = true := by
  have l1 := TL.numL_len (k := 30) (by decide) h
  have l2 : 1 ≤ (TL.numL n).length := by
    have := TL.numL_ne n
    cases e : TL.numL n with
    | nil => exact absurd e this
    | cons a r => simp
  have d : (TL.numL n).all dig = true := List.all_eq_true.mpr fun c hc => dig_iff.mpr (TL.numL_digits n c hc)
  have z : (decide (TL.numL n = [48]) || !decide ((TL.numL n).head? = some 48)) = true := by
    by_cases e : (TL.numL n).head? = some 48
    · have := numL_head e
      subst this
      rw [show TL.numL 0 = [48] from TL.numL_lt (by decide)]
      rfl
    · simp [e]
  unfold figB
  rw [d, z, decide_eq_true (by omega : (1 : Int) ≤ ((TL.numL n).length : Int)), decide_eq_true (by omega : ((TL.numL n).length : Int) ≤ 30)]
  rfl
theorem tl_neg {n : Nat} (h : 0 < n) : (toString (-((n : Nat) : Int)) : Str).cps.toList = 45 :: TL.numL n := by
  obtain ⟨m, rfl⟩ : ∃ m, n = m + 1 := ⟨n - 1, by omega⟩
  have e : toString (-((m + 1 : Nat) : Int)) = "-" ++ toString (m + 1) := rfl
  show (Str.ofString (toString (-((m + 1 : Nat) : Int)))).cps.toList = _
  rw [e, Str.ofString_eq_toList]
  have e2 : (Str.ofString (toString ((m + 1 : Nat) : Int))).cps.toList = TL.numL (m + 1) := TL.tl_num (m + 1)
  rw [Str.ofString_eq_toList] at e2
  have e3 : toString ((m + 1 : Nat) : Int) = toString (m + 1) := rfl
  rw [e3] at e2
  simp only [String.toList_append, List.map_append, List.toList_toArray] at e2 ⊢
  rw [e2]
  rfl
theorem negB_num (n : Nat) : negB (TL.numL n) = false := by
  unfold negB
  refine decide_eq_false fun z => ?_
  have hm : 45 ∈ TL.numL n := List.mem_of_mem_head? z
  have := TL.numL_digits n 45 hm
  omega
/-- the figures of a whole number, as they are read -/
theorem tv_int {i : Int} (h : i.natAbs < 10 ^ 30) : gT (toString i : Str).cps.toList = true ∧ tv (toString i : Str).cps.toList = i ∧ 47 ∉ (toString i : Str).cps.toList ∧ (toString i : Str).length ≤ 31 := by
  have nl := TL.numL_len (k := 30) (by decide) h
  rcases Int.lt_or_le i 0 with hi | hi
  · have hn : 0 < i.natAbs := by omega
    have e : (toString i : Str).cps.toList = 45 :: TL.numL i.natAbs := by
      have e2 : i = -((i.natAbs : Nat) : Int) := by omega
      conv => lhs; rw [e2]
      exact tl_neg hn
    have f := figB_num h
    have ng : negB (45 :: TL.numL i.natAbs) = true := rfl
    have sz : szL (45 :: TL.numL i.natAbs) = TL.numL i.natAbs := by unfold szL; rw [ng]; rfl
    have nz : ¬ TL.numL i.natAbs = [48] := fun z => by
      have := (dv_zero f).mpr z
      rw [TL.numL_val] at this
      omega
    rw [e]
    refine ⟨?_, ?_, ?_, ?_⟩
    · unfold gT
      rw [sz, f, ng, decide_eq_false nz]
      rfl
    · unfold tv
      rw [sz, ng, TL.numL_val, if_pos rfl]
      omega
    · intro z
      rcases List.mem_cons.mp z with z | z
      · omega
      · have := TL.numL_digits i.natAbs 47 z
        omega
    · rw [TL.len_tl]
      show (toString i : Str).cps.toList.length ≤ 31
      rw [e, List.length_cons]
      omega
  · have e : (toString i : Str).cps.toList = TL.numL i.natAbs := by
      have e2 : i = ((i.natAbs : Nat) : Int) := by omega
      conv => lhs; rw [e2]
      exact TL.tl_num i.natAbs
    have f := figB_num h
    have ng := negB_num i.natAbs
    have sz : szL (TL.numL i.natAbs) = TL.numL i.natAbs := by unfold szL; rw [ng]; rfl
    rw [e]
    refine ⟨?_, ?_, ?_, ?_⟩
    · unfold gT
      rw [sz, f, ng]
      rfl
    · unfold tv
      rw [sz, ng, TL.numL_val]
      simp only [Bool.false_eq_true, if_false]
      omega
    · intro z
      have := TL.numL_digits i.natAbs 47 z
      omega
    · rw [TL.len_tl]
      show (toString i : Str).cps.toList.length ≤ 31
      rw [e]
      omega
def S30 (q : Rat) : Prop := q.num.natAbs < 10 ^ 30 ∧ q.den < 10 ^ 30
theorem S30.sz {q : Rat} (h : S30 q) : Sz 100 q := ⟨Nat.lt_trans h.1 (by decide), Nat.lt_trans h.2 (by decide)⟩
theorem p_readQ {q : Rat} (h : S30 q) (ah : AH) : f_read_ratio [.str (txq q)] ah = .ok (rt q) ah := by
  obtain ⟨g, v, n47, l1⟩ := tv_int h.1
  have hd : ((q.den : Nat) : Int).natAbs < 10 ^ 30 := by rw [Int.natAbs_natCast]; exact h.2
  obtain ⟨g2, v2, n472, l2⟩ := tv_int hd
  unfold txq
  by_cases hq : q.den = 1
  · rw [if_pos hq, p_read0 (by omega) n47]
    unfold rd
    rw [g, v]
    have e1 : Rat.divInt q.num 1 = q := by
      have := Rat.num_divInt_den q
      rw [hq] at this
      exact this
    show rdR (some (q.num, 1)) ah = _
    unfold rdR
    simp only
    rw [lowT_q (by decide), lowB_q (by decide), e1]
    rfl
  · have ed : (toString ((q.den : Nat) : Int) : Str).cps.toList = TL.numL q.den := TL.tl_num q.den
    have hw : ((toString q.num : Str) ++ "/" ++ (toString ((q.den : Nat) : Int) : Str)).cps.toList = (toString q.num : Str).cps.toList ++ 47 :: TL.numL q.den := by
      have e1 : ∀ a b : Str, (a ++ b).cps.toList = a.cps.toList ++ b.cps.toList := fun a b => TL.tl_append a b
      rw [e1, e1, ed, show ("/" : Str).cps.toList = [47] from sl47]
      simp
    rw [if_neg hq, p_read1 (by rw [strLen_append, strLen_append]; have : ("/" : Str).length = 1 := rfl; omega) hw n47]
    have f := figB_num h.2
    have gb : gB (TL.numL q.den) = true := by
      unfold gB
      have nz : ¬ TL.numL q.den = [48] := fun z => by
        have := (dv_zero f).mpr z
        rw [TL.numL_val] at this
        have := q.den_pos
        omega
      rw [f, decide_eq_false nz]
      rfl
    unfold rd
    rw [g, v]
    show rdR (if gB (TL.numL q.den) = true then some (q.num, ((NumText.digitsVal (TL.numL q.den) : Nat) : Int)) else none) ah = _
    rw [gb, if_pos rfl, TL.numL_val]
    unfold rdR
    simp only
    rw [lowT_q (den_ne q), lowB_q (den_ne q), Rat.num_divInt_den]
    rfl
/-! ### what is drawn -/
theorem s30_divInt {t b : Int} (h : b ≠ 0) (ht : t.natAbs < 10 ^ 30) (hb : b.natAbs < 10 ^ 30) : S30 (Rat.divInt t b) := by
  have d := sgn_dvd t b
  have z := sgn_ne (t := t) h
  have e1 := natAbs_fdiv_le z d.1
  have e2 := natAbs_fdiv_le z d.2
  rw [q_num h] at e1
  rw [q_den h] at e2
  exact ⟨by omega, by omega⟩
theorem p_small (c : Int) : ∃ q : Rat, (q.num.natAbs < 2 ^ 17 ∧ q.den < 2 ^ 17) ∧ ∀ ah, f_l_small [.int c] ah = .ok (tq q) ah := by
  have n1 : (200001 : Int) ≠ 0 := by decide
  have n6 : (6 : Int) ≠ 0 := by decide
  obtain ⟨b, hb, e1⟩ := at_ints (ms := [1, 2, 3, 4, 6, 12]) (pick (c := c) (k := 2) (n := 6) (by decide)).1 (pick (c := c) (k := 2) (n := 6) (by decide)).2
  simp only [List.map_cons, List.map_nil] at e1
  have bb : 0 < b ∧ b ≤ 12 := by
    simp only [List.mem_cons, List.not_mem_nil, or_false] at hb
    omega
  have m := fmod_b (a := mixed c 1) (m := 200001) (by decide)
  have h0 : b ≠ 0 := by omega
  have z := sz_divInt (n := 17) (t := (mixed c 1).fmod 200001 - 100000) h0 (by omega) (by omega)
  refine ⟨_, z, fun ah => ?_⟩
  have pl := fun ah => p_lowQ (ah := ah) (n := 17) (t := (mixed c 1).fmod 200001 - 100000) h0 (by omega) (by decide)
  simp -implicitDefEqProofs only [r_l_small, c_l_small, ev_var, ev_c, ev_bin, bin1_ok, bin1_exc, bin2_ok, bin2_exc, ev_un, ev_fld, ev_isI, un1_ok, un1_exc, ev_test, test1_ok, test1_exc, ev_notT, notT1_ok, notT1_exc, ev_andT, andT1_t, andT1_f, andT1_exc, ev_orT, orT1_t, orT1_f, orT1_exc, ev_and, and1_t, and1_f, and1_exc, ev_or, or1_t, or1_f, or1_exc, ev_if, if1_t, if1_f, if1_exc, ev_chain, ch1_ok, ch1_exc, ch2_ok, ch2_exc, chm_t, chm_f, ch3_ok, ch3_exc, ev_nil, ev_cons, cons1_ok, cons1_exc, cons2_ok, cons2_exc, ev_tup, ev_lst, tup1_ok, tup1_exc, lst1_ok, lst1_exc, ev_no, ev_part, part1_ok, ev_sl, sl1_ok, sl1_exc, sl2_ok, sl3_ok, ev_cb, cb1_ok, cb1_exc, ev_call, call1_ok, call1_exc, ev_make, make1_ok, make1_exc, make2_ok, make2_exc, ev_meth, meth1_ok, meth1_exc, methm_some, methk_ok, methk_exc, cls_obj, ev_bm, bm1_ok, bm1_exc, bm2_ok, bm2_exc, ev_itAny, it1_ok, ev_rng1, rng1_ok, ev_rng2, rng2_ok, ev_enum, enum1_lst, enum1_scr, ev_zip, zip1_lst, ev_skip, ev_seq, seq1_nx, seq1_rt, seq1_bk, seq1_ct, seq1_exc, ev_brk, ev_cnt, ev_expr, expr1_ok, expr1_exc, ev_ret, ret1_ok, ret1_exc, ev_retN, ev_ifS, ifS1_t, ifS1_f, ifS1_exc, nxO_some, ev_asg, asg1_ok, asg1_exc, gN_ap, gTup_ap, gNs_nil, gNs_cons, ev_par, par1_ok, par1_exc, ev_for, for1_ok, for1_exc, forM_some, forK_nx, forK_ct, forK_bk, forK_rt, forK_exc, ev_tryK, tryK1_nx, tryK1_rt, ev_raise, ev_setF, setF1_exc, ev_run, run1_rt, run1_nx, run1_exc, ev_init, init1_nx, init1_exc, add_i, add_s, add_l, add_t, sub_i, mul_i, fdiv_i, mod_i, pow_i, neg_i, not_b, lt_i, le_i, gt_i, ge_i, eq_i, ne_i, eq_s, ne_s, is_n, nis_n, abs_i, int_i, int_b, str_i, str_s, list_s, list_l, list_t, tup_s, tup_l, tup_t, len_l, len_t, len_r, idx_l, idx_t, idx_r, sl_l, sl_t, whC_t, whC_f, whK_nx, whK_ct, whK_bk, whK_rt, at_0, at_1, at_2, at_3, at_4, ev_ixS, ixS0_val, ixS0_own, ixS1_ok, gAny_t, gAny_l, ev_newL, newL1_ok, ev_app, app0_own, app1_ok, ev_setI, setI0_own, setI1_ok, setI2_ok, ev_frz, frz0_own, frz0_val, lcL_nil, lcL_cons, lcO_some, lcA_t, lcA_f, lcB_ok, lc2_ok, ev_yes, wipe_nil, wipe_cons, ev_lc, lc0_ok, lcE_ok, it_l, it_t, it_r, ev_starts, ev_ends, ev_isB, ev_notB, ev_itS, ev_isStr, ev_isLst, List.getElem?_cons_zero, List.getElem?_cons_succ, List.set_cons_zero, List.set_cons_succ, List.length_cons, List.length_nil, List.cons_append, List.nil_append, List.append_nil, Nat.reduceAdd, Nat.reduceLeDiff, Nat.reduceEqDiff, ↓reduceIte, ofO_some, Bool.not_true, Bool.not_false, Option.map_some, Option.bind_some, decide_true, decide_false, Nat.zero_add, isN, Bool.false_eq_true, List.set_cons_zero, Int.reduceLT, Int.reduceLE, Int.reduceEq, p_mixed, mod_i n1, fdiv_i d7, mod_i n6, e1, pl]
theorem p_pair (c : Int) : ∃ q : Rat, S30 q ∧ ∀ ah, f_l_pair [.int c] ah = .ok (tq q) ah := by
  have p9 : ∀ ah, powD ah (.int 10) (.int 9) = some (.int 1000000000) := fun ah => by rw [pow_i (by decide)]; rfl
  have p29 : ∀ ah, powD ah (.int 10) (.int 29) = some (.int 100000000000000000000000000000) := fun ah => by rw [pow_i (by decide)]; rfl
  have n5 : (5 : Int) ≠ 0 := by decide
  have n3 : (3 : Int) ≠ 0 := by decide
  obtain ⟨most, hm, e1⟩ := at_ints (ms := [3, 9, 30, 1000000000, 100000000000000000000000000000]) (pick (c := c) (k := 1) (n := 5) (by decide)).1 (pick (c := c) (k := 1) (n := 5) (by decide)).2
  have bm : 0 < most ∧ most ≤ 100000000000000000000000000000 := by
    simp only [List.mem_cons, List.not_mem_nil, or_false] at hm
    omega
  obtain ⟨dv, hd, e2⟩ := at_ints (ms := [2, 2, 1000000]) (pick (c := c) (k := 3) (n := 3) (by decide)).1 (pick (c := c) (k := 3) (n := 3) (by decide)).2
  have bd : 0 < dv ∧ dv ≤ 1000000 := by
    simp only [List.mem_cons, List.not_mem_nil, or_false] at hd
    omega
  obtain ⟨mb, hb, e3⟩ := at_ints (ms := [1, 2, most, most, 6]) (pick (c := c) (k := 5) (n := 5) (by decide)).1 (pick (c := c) (k := 5) (n := 5) (by decide)).2
  have bb : 0 < mb ∧ mb ≤ 100000000000000000000000000000 := by
    simp only [List.mem_cons, List.not_mem_nil, or_false] at hb
    omega
  simp only [List.map_cons, List.map_nil] at e1 e2 e3
  have dd : divOk dv := divOk_w (b := 30) (by omega) (by omega) (by decide) (by decide)
  have g1 := great_b (mixed c 2) bm.1
  have g2 := great_b (mixed c 4) bb.1
  have q1 : 0 ≤ most.fdiv dv ∧ most.fdiv dv ≤ most := by
    rw [Int.fdiv_eq_ediv_of_nonneg most (by omega)]
    exact ⟨Int.ediv_nonneg (by omega) (by omega), Int.ediv_le_self _ (by omega)⟩
  have nb : 1 + great (mixed c 4) mb ≠ 0 := by omega
  have lb : (1 + great (mixed c 4) mb).natAbs < 10 ^ 30 := by omega
  have lt : (great (mixed c 2) most - most.fdiv dv).natAbs < 10 ^ 30 := by omega
  refine ⟨_, s30_divInt nb lt lb, fun ah => ?_⟩
  have pl := fun ah => p_lowQ (ah := ah) (n := 100) (t := great (mixed c 2) most - most.fdiv dv) nb (Nat.lt_trans lb (by decide)) (by decide)
  simp -implicitDefEqProofs only [r_l_pair, c_l_pair, ev_var, ev_c, ev_bin, bin1_ok, bin1_exc, bin2_ok, bin2_exc, ev_un, ev_fld, ev_isI, un1_ok, un1_exc, ev_test, test1_ok, test1_exc, ev_notT, notT1_ok, notT1_exc, ev_andT, andT1_t, andT1_f, andT1_exc, ev_orT, orT1_t, orT1_f, orT1_exc, ev_and, and1_t, and1_f, and1_exc, ev_or, or1_t, or1_f, or1_exc, ev_if, if1_t, if1_f, if1_exc, ev_chain, ch1_ok, ch1_exc, ch2_ok, ch2_exc, chm_t, chm_f, ch3_ok, ch3_exc, ev_nil, ev_cons, cons1_ok, cons1_exc, cons2_ok, cons2_exc, ev_tup, ev_lst, tup1_ok, tup1_exc, lst1_ok, lst1_exc, ev_no, ev_part, part1_ok, ev_sl, sl1_ok, sl1_exc, sl2_ok, sl3_ok, ev_cb, cb1_ok, cb1_exc, ev_call, call1_ok, call1_exc, ev_make, make1_ok, make1_exc, make2_ok, make2_exc, ev_meth, meth1_ok, meth1_exc, methm_some, methk_ok, methk_exc, cls_obj, ev_bm, bm1_ok, bm1_exc, bm2_ok, bm2_exc, ev_itAny, it1_ok, ev_rng1, rng1_ok, ev_rng2, rng2_ok, ev_enum, enum1_lst, enum1_scr, ev_zip, zip1_lst, ev_skip, ev_seq, seq1_nx, seq1_rt, seq1_bk, seq1_ct, seq1_exc, ev_brk, ev_cnt, ev_expr, expr1_ok, expr1_exc, ev_ret, ret1_ok, ret1_exc, ev_retN, ev_ifS, ifS1_t, ifS1_f, ifS1_exc, nxO_some, ev_asg, asg1_ok, asg1_exc, gN_ap, gTup_ap, gNs_nil, gNs_cons, ev_par, par1_ok, par1_exc, ev_for, for1_ok, for1_exc, forM_some, forK_nx, forK_ct, forK_bk, forK_rt, forK_exc, ev_tryK, tryK1_nx, tryK1_rt, ev_raise, ev_setF, setF1_exc, ev_run, run1_rt, run1_nx, run1_exc, ev_init, init1_nx, init1_exc, add_i, add_s, add_l, add_t, sub_i, mul_i, fdiv_i, mod_i, pow_i, neg_i, not_b, lt_i, le_i, gt_i, ge_i, eq_i, ne_i, eq_s, ne_s, is_n, nis_n, abs_i, int_i, int_b, str_i, str_s, list_s, list_l, list_t, tup_s, tup_l, tup_t, len_l, len_t, len_r, idx_l, idx_t, idx_r, sl_l, sl_t, whC_t, whC_f, whK_nx, whK_ct, whK_bk, whK_rt, at_0, at_1, at_2, at_3, at_4, ev_ixS, ixS0_val, ixS0_own, ixS1_ok, gAny_t, gAny_l, ev_newL, newL1_ok, ev_app, app0_own, app1_ok, ev_setI, setI0_own, setI1_ok, setI2_ok, ev_frz, frz0_own, frz0_val, lcL_nil, lcL_cons, lcO_some, lcA_t, lcA_f, lcB_ok, lc2_ok, ev_yes, wipe_nil, wipe_cons, ev_lc, lc0_ok, lcE_ok, it_l, it_t, it_r, ev_starts, ev_ends, ev_isB, ev_notB, ev_itS, ev_isStr, ev_isLst, List.getElem?_cons_zero, List.getElem?_cons_succ, List.set_cons_zero, List.set_cons_succ, List.length_cons, List.length_nil, List.cons_append, List.nil_append, List.append_nil, Nat.reduceAdd, Nat.reduceLeDiff, Nat.reduceEqDiff, ↓reduceIte, ofO_some, Bool.not_true, Bool.not_false, Option.map_some, Option.bind_some, decide_true, decide_false, Nat.zero_add, isN, Bool.false_eq_true, List.set_cons_zero, Int.reduceLT, Int.reduceLE, Int.reduceEq, p9, p29, p_mixed, fdiv_i d7, mod_i n5, mod_i n3, e1, e2, e3, fdiv_i dd, p_great (show most ≠ 0 by omega), p_great (show mb ≠ 0 by omega), pl]
theorem p_sum {a b : Rat} {m n : Nat} (ha : Sz m a) (hb : Sz n b) (h : m + n ≤ 9000) {ah : AH} : f_l_sum [tq a, tq b] ah = .ok (tq (a + b)) ah := by
  have o1 := mO ha.1 (den_ab hb) (sz_pos ha) (sz_pos hb) h
  have o2 := mO hb.1 (den_ab ha) (sz_pos hb) (sz_pos ha) (by omega)
  have o3 := mO (den_ab ha) (den_ab hb) (sz_pos ha) (sz_pos hb) h
  have pl := fun ah => p_lowQ (ah := ah) (t := a.num * b.den + b.num * a.den) (den_ne2 a b) (nab_mul (den_ab ha) (den_ab hb)) h
  rw [add_eq]
  unfold tq at pl ⊢
  simp -implicitDefEqProofs only [r_l_sum, c_l_sum, ev_var, ev_c, ev_bin, bin1_ok, bin1_exc, bin2_ok, bin2_exc, ev_un, ev_fld, ev_isI, un1_ok, un1_exc, ev_test, test1_ok, test1_exc, ev_notT, notT1_ok, notT1_exc, ev_andT, andT1_t, andT1_f, andT1_exc, ev_orT, orT1_t, orT1_f, orT1_exc, ev_and, and1_t, and1_f, and1_exc, ev_or, or1_t, or1_f, or1_exc, ev_if, if1_t, if1_f, if1_exc, ev_chain, ch1_ok, ch1_exc, ch2_ok, ch2_exc, chm_t, chm_f, ch3_ok, ch3_exc, ev_nil, ev_cons, cons1_ok, cons1_exc, cons2_ok, cons2_exc, ev_tup, ev_lst, tup1_ok, tup1_exc, lst1_ok, lst1_exc, ev_no, ev_part, part1_ok, ev_sl, sl1_ok, sl1_exc, sl2_ok, sl3_ok, ev_cb, cb1_ok, cb1_exc, ev_call, call1_ok, call1_exc, ev_make, make1_ok, make1_exc, make2_ok, make2_exc, ev_meth, meth1_ok, meth1_exc, methm_some, methk_ok, methk_exc, cls_obj, ev_bm, bm1_ok, bm1_exc, bm2_ok, bm2_exc, ev_itAny, it1_ok, ev_rng1, rng1_ok, ev_rng2, rng2_ok, ev_enum, enum1_lst, enum1_scr, ev_zip, zip1_lst, ev_skip, ev_seq, seq1_nx, seq1_rt, seq1_bk, seq1_ct, seq1_exc, ev_brk, ev_cnt, ev_expr, expr1_ok, expr1_exc, ev_ret, ret1_ok, ret1_exc, ev_retN, ev_ifS, ifS1_t, ifS1_f, ifS1_exc, nxO_some, ev_asg, asg1_ok, asg1_exc, gN_ap, gTup_ap, gNs_nil, gNs_cons, ev_par, par1_ok, par1_exc, ev_for, for1_ok, for1_exc, forM_some, forK_nx, forK_ct, forK_bk, forK_rt, forK_exc, ev_tryK, tryK1_nx, tryK1_rt, ev_raise, ev_setF, setF1_exc, ev_run, run1_rt, run1_nx, run1_exc, ev_init, init1_nx, init1_exc, add_i, add_s, add_l, add_t, sub_i, mul_i, fdiv_i, mod_i, pow_i, neg_i, not_b, lt_i, le_i, gt_i, ge_i, eq_i, ne_i, eq_s, ne_s, is_n, nis_n, abs_i, int_i, int_b, str_i, str_s, list_s, list_l, list_t, tup_s, tup_l, tup_t, len_l, len_t, len_r, idx_l, idx_t, idx_r, sl_l, sl_t, whC_t, whC_f, whK_nx, whK_ct, whK_bk, whK_rt, at_0, at_1, at_2, at_3, at_4, ev_ixS, ixS0_val, ixS0_own, ixS1_ok, gAny_t, gAny_l, ev_newL, newL1_ok, ev_app, app0_own, app1_ok, ev_setI, setI0_own, setI1_ok, setI2_ok, ev_frz, frz0_own, frz0_val, lcL_nil, lcL_cons, lcO_some, lcA_t, lcA_f, lcB_ok, lc2_ok, ev_yes, wipe_nil, wipe_cons, ev_lc, lc0_ok, lcE_ok, it_l, it_t, it_r, ev_starts, ev_ends, ev_isB, ev_notB, ev_itS, ev_isStr, ev_isLst, List.getElem?_cons_zero, List.getElem?_cons_succ, List.set_cons_zero, List.set_cons_succ, List.length_cons, List.length_nil, List.cons_append, List.nil_append, List.append_nil, Nat.reduceAdd, Nat.reduceLeDiff, Nat.reduceEqDiff, ↓reduceIte, ofO_some, Bool.not_true, Bool.not_false, Option.map_some, Option.bind_some, decide_true, decide_false, Nat.zero_add, isN, Bool.false_eq_true, List.set_cons_zero, Int.reduceLT, Int.reduceLE, Int.reduceEq, at_0, at_1, mul_i o1, mul_i o2, mul_i o3, pl]
theorem c1 (ah : AH) (q : Rat) : clsD ah (rt q) = some 3 := rfl
theorem mtt : mt_told 3 = some (f_Ratio_told, 1) := rfl
theorem mtp : mt_plus 3 = some (f_Ratio_plus, 2) := rfl
theorem mtm : mt_minus 3 = some (f_Ratio_minus, 2) := rfl
theorem mtx : mt_times 3 = some (f_Ratio_times, 2) := rfl
theorem mto : mt_over 3 = some (f_Ratio_over, 2) := rfl
theorem mts : mt_sign 3 = some (f_Ratio_sign, 1) := rfl
theorem mtf : mt_floor 3 = some (f_Ratio_floor, 1) := rfl
theorem mtr : mt_rest 3 = some (f_Ratio_rest, 1) := rfl
theorem mty : mt_text 3 = some (f_Ratio_text, 1) := rfl
theorem sz_fl {a : Rat} {n : Nat} (h : Sz n a) : Sz n (a.floor : Rat) := by
  refine sz_int ?_ (sz_pos h)
  have e := Int.natAbs_ediv_le_natAbs a.num ((a.den : Nat) : Int)
  rw [Rat.floor_def]
  exact Nat.lt_of_le_of_lt e h.1
theorem fl_rest (a : Rat) : (a - (a.floor : Rat)).floor = 0 := by
  have h1 : (a.floor : Rat) ≤ a := Rat.floor_le a
  have h2 : a < ((a.floor + 1 : Int) : Rat) := Rat.lt_floor_add_one a
  rw [Rat.intCast_add] at h2
  have e1 : ((1 : Int) : Rat) = 1 := rfl
  rw [e1] at h2
  have l1 : (0 : Int) ≤ (a - (a.floor : Rat)).floor := by
    rw [Rat.le_floor_iff]
    have e0 : ((0 : Int) : Rat) = 0 := rfl
    rw [e0]
    grind
  have l2 : ¬ (1 : Int) ≤ (a - (a.floor : Rat)).floor := by
    rw [Rat.le_floor_iff, e1]
    grind
  omega
theorem p_three {a b c : Rat} (ha : S30 a) (hb : Sz 100 b) (hc : Sz 100 c) {ah : AH} : f_l_three [rt a, rt b, rt c] ah = .ok (.bl true) ah := by
  have za := ha.sz
  have d9 : ∀ {x y : Nat}, x ≤ 450 → y ≤ 450 → x + y ≤ 9000 := fun h1 h2 => by omega
  have zab := sz_add za hb
  have zba := sz_add hb za
  have zbc := sz_add hb hc
  have zac := sz_add za hc
  have tab := sz_mul za hb
  have tba := sz_mul hb za
  have tbc := sz_mul hb hc
  have tac := sz_mul za hc
  have zf := sz_fl za
  have zr := sz_sub za zf
  have i1 : ∀ ah, f_Ratio_init [.int a.floor, .int 1] ah = .ok [.int ((a.floor : Int) : Rat).num, .int (((a.floor : Int) : Rat).den : Int)] ah := fun ah => p_rti
  have mk : ∀ q : Rat, D.obj 3 [.int q.num, .int (q.den : Int)] = rt q := fun _ => rfl
  have e1 : decide (a + b = b + a) = true := decide_eq_true (by grind)
  have e2 : decide (a * b = b * a) = true := decide_eq_true (by grind)
  have e3 : decide (a + b + c = a + (b + c)) = true := decide_eq_true (by grind)
  have e4 : decide (a * b * c = a * (b * c)) = true := decide_eq_true (by grind)
  have e5 : decide (a * (b + c) = a * b + a * c) = true := decide_eq_true (by grind)
  have e6 : decide (a + b - b = a) = true := decide_eq_true (by grind)
  have e7 : decide (a - (a.floor : Rat) + (a.floor : Rat) = a) = true := decide_eq_true (by grind)
  have e8 : decide (a = a) = true := decide_eq_true rfl
  have e9 : decide (a + c < b + c) = decide (a < b) := decide_eq_decide.mpr ⟨fun h => by grind, fun h => by grind⟩
  have n1 : ∀ (i : Int) (ah : AH), neD ah (.int i) (.int i) = some (.bl false) := fun i ah => by
    show some (D.bl (!decide (V.int i = V.int i))) = _
    simp
  have n2 : ∀ (i : Bool) (ah : AH), neD ah (.bl i) (.bl i) = some (.bl false) := fun i ah => by
    show some (D.bl (!decide (V.bl i = V.bl i))) = _
    simp
  have q1 := fun ah => p_plusQ (ah := ah) za hb (by decide)
  have q2 := fun ah => p_plusQ (ah := ah) hb za (by decide)
  have q3 := fun ah => p_timesQ (ah := ah) za hb (by decide)
  have q4 := fun ah => p_timesQ (ah := ah) hb za (by decide)
  have q5 := fun ah => p_plusQ (ah := ah) zab hc (by decide)
  have q6 := fun ah => p_plusQ (ah := ah) hb hc (by decide)
  have q7 := fun ah => p_plusQ (ah := ah) za zbc (by decide)
  have q8 := fun ah => p_timesQ (ah := ah) tab hc (by decide)
  have q9 := fun ah => p_timesQ (ah := ah) hb hc (by decide)
  have r1 := fun ah => p_timesQ (ah := ah) za tbc (by decide)
  have r2 := fun ah => p_timesQ (ah := ah) za hc (by decide)
  have r3 := fun ah => p_plusQ (ah := ah) tab tac (by decide)
  have r4 := fun ah => p_timesQ (ah := ah) za zbc (by decide)
  have r5 := fun ah => p_minusQ (ah := ah) zab hb (by decide)
  have r6 := fun ah => p_restQ (ah := ah) za (by decide)
  have r7 := fun ah => p_floorQ (ah := ah) za (by decide)
  have r8 := fun ah => p_plusQ (ah := ah) zr zf (by decide)
  have r9 := fun ah => p_floorQ (ah := ah) zr (by decide)
  have s1 := fun ah => p_textQ (ah := ah) za
  have s2 := fun ah => p_readQ ha ah
  have s3 := fun ah => p_beforeQ (ah := ah) za hb (by decide)
  have s4 := fun ah => p_plusQ (ah := ah) za hc (by decide)
  have s5 := fun ah => p_beforeQ (ah := ah) zac zbc (by decide)
  by_cases h0 : b = 0
  · subst h0
    have sg : ∀ ah, f_Ratio_sign [rt 0] ah = .ok (.int 0) ah := fun ah => by rw [p_signQ]; rfl
    have g0 : ∀ ah, eqD ah (.int 0) (.int 0) = some (.bl true) := fun _ => rfl
    simp -implicitDefEqProofs only [r_l_three, c_l_three, ev_var, ev_c, ev_bin, bin1_ok, bin1_exc, bin2_ok, bin2_exc, ev_un, ev_fld, ev_isI, un1_ok, un1_exc, ev_test, test1_ok, test1_exc, ev_notT, notT1_ok, notT1_exc, ev_andT, andT1_t, andT1_f, andT1_exc, ev_orT, orT1_t, orT1_f, orT1_exc, ev_and, and1_t, and1_f, and1_exc, ev_or, or1_t, or1_f, or1_exc, ev_if, if1_t, if1_f, if1_exc, ev_chain, ch1_ok, ch1_exc, ch2_ok, ch2_exc, chm_t, chm_f, ch3_ok, ch3_exc, ev_nil, ev_cons, cons1_ok, cons1_exc, cons2_ok, cons2_exc, ev_tup, ev_lst, tup1_ok, tup1_exc, lst1_ok, lst1_exc, ev_no, ev_part, part1_ok, ev_sl, sl1_ok, sl1_exc, sl2_ok, sl3_ok, ev_cb, cb1_ok, cb1_exc, ev_call, call1_ok, call1_exc, ev_make, make1_ok, make1_exc, make2_ok, make2_exc, ev_meth, meth1_ok, meth1_exc, methm_some, methk_ok, methk_exc, cls_obj, ev_bm, bm1_ok, bm1_exc, bm2_ok, bm2_exc, ev_itAny, it1_ok, ev_rng1, rng1_ok, ev_rng2, rng2_ok, ev_enum, enum1_lst, enum1_scr, ev_zip, zip1_lst, ev_skip, ev_seq, seq1_nx, seq1_rt, seq1_bk, seq1_ct, seq1_exc, ev_brk, ev_cnt, ev_expr, expr1_ok, expr1_exc, ev_ret, ret1_ok, ret1_exc, ev_retN, ev_ifS, ifS1_t, ifS1_f, ifS1_exc, nxO_some, ev_asg, asg1_ok, asg1_exc, gN_ap, gTup_ap, gNs_nil, gNs_cons, ev_par, par1_ok, par1_exc, ev_for, for1_ok, for1_exc, forM_some, forK_nx, forK_ct, forK_bk, forK_rt, forK_exc, ev_tryK, tryK1_nx, tryK1_rt, ev_raise, ev_setF, setF1_exc, ev_run, run1_rt, run1_nx, run1_exc, ev_init, init1_nx, init1_exc, add_i, add_s, add_l, add_t, sub_i, mul_i, fdiv_i, mod_i, pow_i, neg_i, not_b, lt_i, le_i, gt_i, ge_i, eq_i, ne_i, eq_s, ne_s, is_n, nis_n, abs_i, int_i, int_b, str_i, str_s, list_s, list_l, list_t, tup_s, tup_l, tup_t, len_l, len_t, len_r, idx_l, idx_t, idx_r, sl_l, sl_t, whC_t, whC_f, whK_nx, whK_ct, whK_bk, whK_rt, at_0, at_1, at_2, at_3, at_4, ev_ixS, ixS0_val, ixS0_own, ixS1_ok, gAny_t, gAny_l, ev_newL, newL1_ok, ev_app, app0_own, app1_ok, ev_setI, setI0_own, setI1_ok, setI2_ok, ev_frz, frz0_own, frz0_val, lcL_nil, lcL_cons, lcO_some, lcA_t, lcA_f, lcB_ok, lc2_ok, ev_yes, wipe_nil, wipe_cons, ev_lc, lc0_ok, lcE_ok, it_l, it_t, it_r, ev_starts, ev_ends, ev_isB, ev_notB, ev_itS, ev_isStr, ev_isLst, List.getElem?_cons_zero, List.getElem?_cons_succ, List.set_cons_zero, List.set_cons_succ, List.length_cons, List.length_nil, List.cons_append, List.nil_append, List.append_nil, Nat.reduceAdd, Nat.reduceLeDiff, Nat.reduceEqDiff, ↓reduceIte, ofO_some, Bool.not_true, Bool.not_false, Option.map_some, Option.bind_some, decide_true, decide_false, Nat.zero_add, isN, Bool.false_eq_true, List.set_cons_zero, Int.reduceLT, Int.reduceLE, Int.reduceEq, c1, mtt, mtp, mtm, mtx, mto, mts, mtf, mtr, mty, p_toldQ, ne_tq, eq_tq, q1, q2, q3, q4, q5, q6, q7, q8, q9, r1, r2, r3, r4, r5, r6, r7, r8, r9, s1, s2, s3, s4, s5, i1, mk, e1, e2, e3, e4, e5, e6, e7, e8, e9, n1, n2, fl_rest, sg, g0]
  · have z : a * b / b = a := by grind
    have e10 : decide (a * b / b = a) = true := decide_eq_true z
    have u1 := fun ah => p_overQ (ah := ah) tab hb (by decide) h0
    obtain ⟨sgv, hsg, hne⟩ : ∃ i : Int, (∀ ah, f_Ratio_sign [rt b] ah = .ok (.int i) ah) ∧ ¬ i = 0 := ⟨_, fun ah => p_signQ, by
      by_cases h1 : 0 < b
      · simp [h1]
      · have : b < 0 := by grind
        simp [h1, this]⟩
    have g0 : ∀ ah, eqD ah (.int sgv) (.int 0) = some (.bl false) := fun ah => by
      show some (D.bl (decide (V.int sgv = V.int 0))) = _
      simp [hne]
    simp -implicitDefEqProofs only [r_l_three, c_l_three, ev_var, ev_c, ev_bin, bin1_ok, bin1_exc, bin2_ok, bin2_exc, ev_un, ev_fld, ev_isI, un1_ok, un1_exc, ev_test, test1_ok, test1_exc, ev_notT, notT1_ok, notT1_exc, ev_andT, andT1_t, andT1_f, andT1_exc, ev_orT, orT1_t, orT1_f, orT1_exc, ev_and, and1_t, and1_f, and1_exc, ev_or, or1_t, or1_f, or1_exc, ev_if, if1_t, if1_f, if1_exc, ev_chain, ch1_ok, ch1_exc, ch2_ok, ch2_exc, chm_t, chm_f, ch3_ok, ch3_exc, ev_nil, ev_cons, cons1_ok, cons1_exc, cons2_ok, cons2_exc, ev_tup, ev_lst, tup1_ok, tup1_exc, lst1_ok, lst1_exc, ev_no, ev_part, part1_ok, ev_sl, sl1_ok, sl1_exc, sl2_ok, sl3_ok, ev_cb, cb1_ok, cb1_exc, ev_call, call1_ok, call1_exc, ev_make, make1_ok, make1_exc, make2_ok, make2_exc, ev_meth, meth1_ok, meth1_exc, methm_some, methk_ok, methk_exc, cls_obj, ev_bm, bm1_ok, bm1_exc, bm2_ok, bm2_exc, ev_itAny, it1_ok, ev_rng1, rng1_ok, ev_rng2, rng2_ok, ev_enum, enum1_lst, enum1_scr, ev_zip, zip1_lst, ev_skip, ev_seq, seq1_nx, seq1_rt, seq1_bk, seq1_ct, seq1_exc, ev_brk, ev_cnt, ev_expr, expr1_ok, expr1_exc, ev_ret, ret1_ok, ret1_exc, ev_retN, ev_ifS, ifS1_t, ifS1_f, ifS1_exc, nxO_some, ev_asg, asg1_ok, asg1_exc, gN_ap, gTup_ap, gNs_nil, gNs_cons, ev_par, par1_ok, par1_exc, ev_for, for1_ok, for1_exc, forM_some, forK_nx, forK_ct, forK_bk, forK_rt, forK_exc, ev_tryK, tryK1_nx, tryK1_rt, ev_raise, ev_setF, setF1_exc, ev_run, run1_rt, run1_nx, run1_exc, ev_init, init1_nx, init1_exc, add_i, add_s, add_l, add_t, sub_i, mul_i, fdiv_i, mod_i, pow_i, neg_i, not_b, lt_i, le_i, gt_i, ge_i, eq_i, ne_i, eq_s, ne_s, is_n, nis_n, abs_i, int_i, int_b, str_i, str_s, list_s, list_l, list_t, tup_s, tup_l, tup_t, len_l, len_t, len_r, idx_l, idx_t, idx_r, sl_l, sl_t, whC_t, whC_f, whK_nx, whK_ct, whK_bk, whK_rt, at_0, at_1, at_2, at_3, at_4, ev_ixS, ixS0_val, ixS0_own, ixS1_ok, gAny_t, gAny_l, ev_newL, newL1_ok, ev_app, app0_own, app1_ok, ev_setI, setI0_own, setI1_ok, setI2_ok, ev_frz, frz0_own, frz0_val, lcL_nil, lcL_cons, lcO_some, lcA_t, lcA_f, lcB_ok, lc2_ok, ev_yes, wipe_nil, wipe_cons, ev_lc, lc0_ok, lcE_ok, it_l, it_t, it_r, ev_starts, ev_ends, ev_isB, ev_notB, ev_itS, ev_isStr, ev_isLst, List.getElem?_cons_zero, List.getElem?_cons_succ, List.set_cons_zero, List.set_cons_succ, List.length_cons, List.length_nil, List.cons_append, List.nil_append, List.append_nil, Nat.reduceAdd, Nat.reduceLeDiff, Nat.reduceEqDiff, ↓reduceIte, ofO_some, Bool.not_true, Bool.not_false, Option.map_some, Option.bind_some, decide_true, decide_false, Nat.zero_add, isN, Bool.false_eq_true, List.set_cons_zero, Int.reduceLT, Int.reduceLE, Int.reduceEq, c1, mtt, mtp, mtm, mtx, mto, mts, mtf, mtr, mty, p_toldQ, ne_tq, eq_tq, q1, q2, q3, q4, q5, q6, q7, q8, q9, r1, r2, r3, r4, r5, r6, r7, r8, r9, s1, s2, s3, s4, s5, i1, mk, e1, e2, e3, e4, e5, e6, e7, e8, e9, n1, n2, fl_rest, hsg, g0, u1, e10]
theorem at_nat {l : List D} {k : Nat} (h : k < l.length) : atI l (k : Int) = some l[k] := by
  have hj : ixN l.length (k : Int) = some k := by
    unfold ixN
    split <;> rename_i q <;> first | omega | skip
    split <;> rename_i q2 <;> first | omega | simp
  unfold atI
  rw [hj]
  simp [h]
theorem at_back {l : List D} {k : Nat} (h : k < l.length) : atI l (-1 - (k : Int)) = some (l[l.length - 1 - k]'(by omega)) := by
  have hj : ixN l.length (-1 - (k : Int)) = some (l.length - 1 - k) := by
    unfold ixN
    split <;> rename_i q <;> first | omega | skip
    all_goals (split <;> rename_i q2 <;> first | omega | (congr 1; omega))
  unfold atI
  rw [hj]
  simp [show l.length - 1 - k < l.length by omega]
/-! ### the loops -/
noncomputable def smq (c : Int) : Rat := (p_small c).choose
theorem smq_sz (c : Int) : Sz 17 (smq c) := (p_small c).choose_spec.1
theorem p_smq (c : Int) (ah : AH) : f_l_small [.int c] ah = .ok (tq (smq c)) ah := (p_small c).choose_spec.2 ah
noncomputable def numb : Nat → List Int → List Rat
  | _, [] => []
  | n, c :: r => smq (mixed c (450 + (n : Nat))) :: numb (n + 1) r
theorem numb_sz : ∀ (cs : List Int) (n : Nat), ∀ q ∈ numb n cs, Sz 17 q
  | [], n, q, h => by cases h
  | c :: r, n, q, h => by
    rcases List.mem_cons.mp h with rfl | h
    · exact smq_sz _
    · exact numb_sz r (n + 1) q h
theorem numb_len : ∀ (cs : List Int) (n : Nat), (numb n cs).length = cs.length
  | [], n => rfl
  | c :: r, n => by
    unfold numb
    rw [List.length_cons, List.length_cons, numb_len r]
theorem l_pairs (x0 x1 x2 x3 x4 x5 x7 x8 : Sl) (ah : AH) : ∀ (cs : List Int) (n : Nat) (x6 x9 : Sl), lcL [6, 9] (gTupN [6, 9]) cYes te_law_1 [x0, x1, x2, x3, x4, x5, x6, x7, x8, x9] (enumD n (cs.map .int)) ah = .ok ((numb n cs).map tq) ah
  | [], n, x6, x9 => rfl
  | c :: r, n, x6, x9 => by
    have ih := l_pairs x0 x1 x2 x3 x4 x5 x7 x8 ah r (n + 1) x6 x9
    rw [List.map_cons]
    unfold enumD numb
    rw [lcL_cons, List.map_cons]
    have e : te_law_1 [x0, x1, x2, x3, x4, x5, .val (.int (n : Nat)), x7, x8, .val (.int c)] ah = .ok (tq (smq (mixed c (450 + (n : Nat))))) ah := by
      simp -implicitDefEqProofs only [te_law_1, ev_var, ev_c, ev_bin, bin1_ok, bin1_exc, bin2_ok, bin2_exc, ev_un, ev_fld, ev_isI, un1_ok, un1_exc, ev_test, test1_ok, test1_exc, ev_notT, notT1_ok, notT1_exc, ev_andT, andT1_t, andT1_f, andT1_exc, ev_orT, orT1_t, orT1_f, orT1_exc, ev_and, and1_t, and1_f, and1_exc, ev_or, or1_t, or1_f, or1_exc, ev_if, if1_t, if1_f, if1_exc, ev_chain, ch1_ok, ch1_exc, ch2_ok, ch2_exc, chm_t, chm_f, ch3_ok, ch3_exc, ev_nil, ev_cons, cons1_ok, cons1_exc, cons2_ok, cons2_exc, ev_tup, ev_lst, tup1_ok, tup1_exc, lst1_ok, lst1_exc, ev_no, ev_part, part1_ok, ev_sl, sl1_ok, sl1_exc, sl2_ok, sl3_ok, ev_cb, cb1_ok, cb1_exc, ev_call, call1_ok, call1_exc, ev_make, make1_ok, make1_exc, make2_ok, make2_exc, ev_meth, meth1_ok, meth1_exc, methm_some, methk_ok, methk_exc, cls_obj, ev_bm, bm1_ok, bm1_exc, bm2_ok, bm2_exc, ev_itAny, it1_ok, ev_rng1, rng1_ok, ev_rng2, rng2_ok, ev_enum, enum1_lst, enum1_scr, ev_zip, zip1_lst, ev_skip, ev_seq, seq1_nx, seq1_rt, seq1_bk, seq1_ct, seq1_exc, ev_brk, ev_cnt, ev_expr, expr1_ok, expr1_exc, ev_ret, ret1_ok, ret1_exc, ev_retN, ev_ifS, ifS1_t, ifS1_f, ifS1_exc, nxO_some, ev_asg, asg1_ok, asg1_exc, gN_ap, gTup_ap, gNs_nil, gNs_cons, ev_par, par1_ok, par1_exc, ev_for, for1_ok, for1_exc, forM_some, forK_nx, forK_ct, forK_bk, forK_rt, forK_exc, ev_tryK, tryK1_nx, tryK1_rt, ev_raise, ev_setF, setF1_exc, ev_run, run1_rt, run1_nx, run1_exc, ev_init, init1_nx, init1_exc, add_i, add_s, add_l, add_t, sub_i, mul_i, fdiv_i, mod_i, pow_i, neg_i, not_b, lt_i, le_i, gt_i, ge_i, eq_i, ne_i, eq_s, ne_s, is_n, nis_n, abs_i, int_i, int_b, str_i, str_s, list_s, list_l, list_t, tup_s, tup_l, tup_t, len_l, len_t, len_r, idx_l, idx_t, idx_r, sl_l, sl_t, whC_t, whC_f, whK_nx, whK_ct, whK_bk, whK_rt, at_0, at_1, at_2, at_3, at_4, ev_ixS, ixS0_val, ixS0_own, ixS1_ok, gAny_t, gAny_l, ev_newL, newL1_ok, ev_app, app0_own, app1_ok, ev_setI, setI0_own, setI1_ok, setI2_ok, ev_frz, frz0_own, frz0_val, lcL_nil, lcL_cons, lcO_some, lcA_t, lcA_f, lcB_ok, lc2_ok, ev_yes, wipe_nil, wipe_cons, ev_lc, lc0_ok, lcE_ok, it_l, it_t, it_r, ev_starts, ev_ends, ev_isB, ev_notB, ev_itS, ev_isStr, ev_isLst, List.getElem?_cons_zero, List.getElem?_cons_succ, List.set_cons_zero, List.set_cons_succ, List.length_cons, List.length_nil, List.cons_append, List.nil_append, List.append_nil, Nat.reduceAdd, Nat.reduceLeDiff, Nat.reduceEqDiff, ↓reduceIte, ofO_some, Bool.not_true, Bool.not_false, Option.map_some, Option.bind_some, decide_true, decide_false, Nat.zero_add, isN, Bool.false_eq_true, List.set_cons_zero, Int.reduceLT, Int.reduceLE, Int.reduceEq, p_mixed, p_smq]
    simp -implicitDefEqProofs only [ev_var, ev_c, ev_bin, bin1_ok, bin1_exc, bin2_ok, bin2_exc, ev_un, ev_fld, ev_isI, un1_ok, un1_exc, ev_test, test1_ok, test1_exc, ev_notT, notT1_ok, notT1_exc, ev_andT, andT1_t, andT1_f, andT1_exc, ev_orT, orT1_t, orT1_f, orT1_exc, ev_and, and1_t, and1_f, and1_exc, ev_or, or1_t, or1_f, or1_exc, ev_if, if1_t, if1_f, if1_exc, ev_chain, ch1_ok, ch1_exc, ch2_ok, ch2_exc, chm_t, chm_f, ch3_ok, ch3_exc, ev_nil, ev_cons, cons1_ok, cons1_exc, cons2_ok, cons2_exc, ev_tup, ev_lst, tup1_ok, tup1_exc, lst1_ok, lst1_exc, ev_no, ev_part, part1_ok, ev_sl, sl1_ok, sl1_exc, sl2_ok, sl3_ok, ev_cb, cb1_ok, cb1_exc, ev_call, call1_ok, call1_exc, ev_make, make1_ok, make1_exc, make2_ok, make2_exc, ev_meth, meth1_ok, meth1_exc, methm_some, methk_ok, methk_exc, cls_obj, ev_bm, bm1_ok, bm1_exc, bm2_ok, bm2_exc, ev_itAny, it1_ok, ev_rng1, rng1_ok, ev_rng2, rng2_ok, ev_enum, enum1_lst, enum1_scr, ev_zip, zip1_lst, ev_skip, ev_seq, seq1_nx, seq1_rt, seq1_bk, seq1_ct, seq1_exc, ev_brk, ev_cnt, ev_expr, expr1_ok, expr1_exc, ev_ret, ret1_ok, ret1_exc, ev_retN, ev_ifS, ifS1_t, ifS1_f, ifS1_exc, nxO_some, ev_asg, asg1_ok, asg1_exc, gN_ap, gTup_ap, gNs_nil, gNs_cons, ev_par, par1_ok, par1_exc, ev_for, for1_ok, for1_exc, forM_some, forK_nx, forK_ct, forK_bk, forK_rt, forK_exc, ev_tryK, tryK1_nx, tryK1_rt, ev_raise, ev_setF, setF1_exc, ev_run, run1_rt, run1_nx, run1_exc, ev_init, init1_nx, init1_exc, add_i, add_s, add_l, add_t, sub_i, mul_i, fdiv_i, mod_i, pow_i, neg_i, not_b, lt_i, le_i, gt_i, ge_i, eq_i, ne_i, eq_s, ne_s, is_n, nis_n, abs_i, int_i, int_b, str_i, str_s, list_s, list_l, list_t, tup_s, tup_l, tup_t, len_l, len_t, len_r, idx_l, idx_t, idx_r, sl_l, sl_t, whC_t, whC_f, whK_nx, whK_ct, whK_bk, whK_rt, at_0, at_1, at_2, at_3, at_4, ev_ixS, ixS0_val, ixS0_own, ixS1_ok, gAny_t, gAny_l, ev_newL, newL1_ok, ev_app, app0_own, app1_ok, ev_setI, setI0_own, setI1_ok, setI2_ok, ev_frz, frz0_own, frz0_val, lcL_nil, lcL_cons, lcO_some, lcA_t, lcA_f, lcB_ok, lc2_ok, ev_yes, wipe_nil, wipe_cons, ev_lc, lc0_ok, lcE_ok, it_l, it_t, it_r, ev_starts, ev_ends, ev_isB, ev_notB, ev_itS, ev_isStr, ev_isLst, List.getElem?_cons_zero, List.getElem?_cons_succ, List.set_cons_zero, List.set_cons_succ, List.length_cons, List.length_nil, List.cons_append, List.nil_append, List.append_nil, Nat.reduceAdd, Nat.reduceLeDiff, Nat.reduceEqDiff, ↓reduceIte, ofO_some, Bool.not_true, Bool.not_false, Option.map_some, Option.bind_some, decide_true, decide_false, Nat.zero_add, isN, Bool.false_eq_true, List.set_cons_zero, Int.reduceLT, Int.reduceLE, Int.reduceEq, e, ih]
theorem l_nums (x0 x1 x2 x3 x4 x5 x6 x8 x9 : Sl) (ah : AH) : ∀ (qs : List Rat), (∀ q ∈ qs, Sz 17 q) → ∀ (x7 : Sl), lcL [7] (gN 7) cYes te_law_2 [x0, x1, x2, x3, x4, x5, x6, x7, x8, x9] (qs.map tq) ah = .ok (qs.map rt) ah
  | [], h, x7 => rfl
  | q :: r, h, x7 => by
    have ih := l_nums x0 x1 x2 x3 x4 x5 x6 x8 x9 ah r (fun p hp => h p (List.mem_cons_of_mem _ hp)) x7
    have hq := fun ah => p_rt (ah := ah) (h q (List.mem_cons_self ..)) (by decide)
    rw [List.map_cons, lcL_cons, List.map_cons]
    have e : te_law_2 [x0, x1, x2, x3, x4, x5, x6, .val (tq q), x8, x9] ah = .ok (rt q) ah := by
      unfold tq rt
      simp -implicitDefEqProofs only [te_law_2, ev_var, ev_c, ev_bin, bin1_ok, bin1_exc, bin2_ok, bin2_exc, ev_un, ev_fld, ev_isI, un1_ok, un1_exc, ev_test, test1_ok, test1_exc, ev_notT, notT1_ok, notT1_exc, ev_andT, andT1_t, andT1_f, andT1_exc, ev_orT, orT1_t, orT1_f, orT1_exc, ev_and, and1_t, and1_f, and1_exc, ev_or, or1_t, or1_f, or1_exc, ev_if, if1_t, if1_f, if1_exc, ev_chain, ch1_ok, ch1_exc, ch2_ok, ch2_exc, chm_t, chm_f, ch3_ok, ch3_exc, ev_nil, ev_cons, cons1_ok, cons1_exc, cons2_ok, cons2_exc, ev_tup, ev_lst, tup1_ok, tup1_exc, lst1_ok, lst1_exc, ev_no, ev_part, part1_ok, ev_sl, sl1_ok, sl1_exc, sl2_ok, sl3_ok, ev_cb, cb1_ok, cb1_exc, ev_call, call1_ok, call1_exc, ev_make, make1_ok, make1_exc, make2_ok, make2_exc, ev_meth, meth1_ok, meth1_exc, methm_some, methk_ok, methk_exc, cls_obj, ev_bm, bm1_ok, bm1_exc, bm2_ok, bm2_exc, ev_itAny, it1_ok, ev_rng1, rng1_ok, ev_rng2, rng2_ok, ev_enum, enum1_lst, enum1_scr, ev_zip, zip1_lst, ev_skip, ev_seq, seq1_nx, seq1_rt, seq1_bk, seq1_ct, seq1_exc, ev_brk, ev_cnt, ev_expr, expr1_ok, expr1_exc, ev_ret, ret1_ok, ret1_exc, ev_retN, ev_ifS, ifS1_t, ifS1_f, ifS1_exc, nxO_some, ev_asg, asg1_ok, asg1_exc, gN_ap, gTup_ap, gNs_nil, gNs_cons, ev_par, par1_ok, par1_exc, ev_for, for1_ok, for1_exc, forM_some, forK_nx, forK_ct, forK_bk, forK_rt, forK_exc, ev_tryK, tryK1_nx, tryK1_rt, ev_raise, ev_setF, setF1_exc, ev_run, run1_rt, run1_nx, run1_exc, ev_init, init1_nx, init1_exc, add_i, add_s, add_l, add_t, sub_i, mul_i, fdiv_i, mod_i, pow_i, neg_i, not_b, lt_i, le_i, gt_i, ge_i, eq_i, ne_i, eq_s, ne_s, is_n, nis_n, abs_i, int_i, int_b, str_i, str_s, list_s, list_l, list_t, tup_s, tup_l, tup_t, len_l, len_t, len_r, idx_l, idx_t, idx_r, sl_l, sl_t, whC_t, whC_f, whK_nx, whK_ct, whK_bk, whK_rt, at_0, at_1, at_2, at_3, at_4, ev_ixS, ixS0_val, ixS0_own, ixS1_ok, gAny_t, gAny_l, ev_newL, newL1_ok, ev_app, app0_own, app1_ok, ev_setI, setI0_own, setI1_ok, setI2_ok, ev_frz, frz0_own, frz0_val, lcL_nil, lcL_cons, lcO_some, lcA_t, lcA_f, lcB_ok, lc2_ok, ev_yes, wipe_nil, wipe_cons, ev_lc, lc0_ok, lcE_ok, it_l, it_t, it_r, ev_starts, ev_ends, ev_isB, ev_notB, ev_itS, ev_isStr, ev_isLst, List.getElem?_cons_zero, List.getElem?_cons_succ, List.set_cons_zero, List.set_cons_succ, List.length_cons, List.length_nil, List.cons_append, List.nil_append, List.append_nil, Nat.reduceAdd, Nat.reduceLeDiff, Nat.reduceEqDiff, ↓reduceIte, ofO_some, Bool.not_true, Bool.not_false, Option.map_some, Option.bind_some, decide_true, decide_false, Nat.zero_add, isN, Bool.false_eq_true, List.set_cons_zero, Int.reduceLT, Int.reduceLE, Int.reduceEq, at_0, at_1, hq]
    simp -implicitDefEqProofs only [ev_var, ev_c, ev_bin, bin1_ok, bin1_exc, bin2_ok, bin2_exc, ev_un, ev_fld, ev_isI, un1_ok, un1_exc, ev_test, test1_ok, test1_exc, ev_notT, notT1_ok, notT1_exc, ev_andT, andT1_t, andT1_f, andT1_exc, ev_orT, orT1_t, orT1_f, orT1_exc, ev_and, and1_t, and1_f, and1_exc, ev_or, or1_t, or1_f, or1_exc, ev_if, if1_t, if1_f, if1_exc, ev_chain, ch1_ok, ch1_exc, ch2_ok, ch2_exc, chm_t, chm_f, ch3_ok, ch3_exc, ev_nil, ev_cons, cons1_ok, cons1_exc, cons2_ok, cons2_exc, ev_tup, ev_lst, tup1_ok, tup1_exc, lst1_ok, lst1_exc, ev_no, ev_part, part1_ok, ev_sl, sl1_ok, sl1_exc, sl2_ok, sl3_ok, ev_cb, cb1_ok, cb1_exc, ev_call, call1_ok, call1_exc, ev_make, make1_ok, make1_exc, make2_ok, make2_exc, ev_meth, meth1_ok, meth1_exc, methm_some, methk_ok, methk_exc, cls_obj, ev_bm, bm1_ok, bm1_exc, bm2_ok, bm2_exc, ev_itAny, it1_ok, ev_rng1, rng1_ok, ev_rng2, rng2_ok, ev_enum, enum1_lst, enum1_scr, ev_zip, zip1_lst, ev_skip, ev_seq, seq1_nx, seq1_rt, seq1_bk, seq1_ct, seq1_exc, ev_brk, ev_cnt, ev_expr, expr1_ok, expr1_exc, ev_ret, ret1_ok, ret1_exc, ev_retN, ev_ifS, ifS1_t, ifS1_f, ifS1_exc, nxO_some, ev_asg, asg1_ok, asg1_exc, gN_ap, gTup_ap, gNs_nil, gNs_cons, ev_par, par1_ok, par1_exc, ev_for, for1_ok, for1_exc, forM_some, forK_nx, forK_ct, forK_bk, forK_rt, forK_exc, ev_tryK, tryK1_nx, tryK1_rt, ev_raise, ev_setF, setF1_exc, ev_run, run1_rt, run1_nx, run1_exc, ev_init, init1_nx, init1_exc, add_i, add_s, add_l, add_t, sub_i, mul_i, fdiv_i, mod_i, pow_i, neg_i, not_b, lt_i, le_i, gt_i, ge_i, eq_i, ne_i, eq_s, ne_s, is_n, nis_n, abs_i, int_i, int_b, str_i, str_s, list_s, list_l, list_t, tup_s, tup_l, tup_t, len_l, len_t, len_r, idx_l, idx_t, idx_r, sl_l, sl_t, whC_t, whC_f, whK_nx, whK_ct, whK_bk, whK_rt, at_0, at_1, at_2, at_3, at_4, ev_ixS, ixS0_val, ixS0_own, ixS1_ok, gAny_t, gAny_l, ev_newL, newL1_ok, ev_app, app0_own, app1_ok, ev_setI, setI0_own, setI1_ok, setI2_ok, ev_frz, frz0_own, frz0_val, lcL_nil, lcL_cons, lcO_some, lcA_t, lcA_f, lcB_ok, lc2_ok, ev_yes, wipe_nil, wipe_cons, ev_lc, lc0_ok, lcE_ok, it_l, it_t, it_r, ev_starts, ev_ends, ev_isB, ev_notB, ev_itS, ev_isStr, ev_isLst, List.getElem?_cons_zero, List.getElem?_cons_succ, List.set_cons_zero, List.set_cons_succ, List.length_cons, List.length_nil, List.cons_append, List.nil_append, List.append_nil, Nat.reduceAdd, Nat.reduceLeDiff, Nat.reduceEqDiff, ↓reduceIte, ofO_some, Bool.not_true, Bool.not_false, Option.map_some, Option.bind_some, decide_true, decide_false, Nat.zero_add, isN, Bool.false_eq_true, List.set_cons_zero, Int.reduceLT, Int.reduceLE, Int.reduceEq, e, ih]
def fold1 (X : Nat → Rat) : List Nat → Rat → Rat
  | [], t => t
  | k :: r, t => fold1 X r (t + X k)
def fold2 (X : Nat → Rat) : List Nat → Rat → Rat
  | [], t => t
  | k :: r, t => fold2 X r (X k + t)
theorem l_sum (qs : List Rat) (hq : ∀ q ∈ qs, Sz 17 q) (x0 x7 x8 x9 : Sl) (ah : AH) : ∀ (ks : List Nat), (∀ k ∈ ks, k < qs.length) → ∀ (m : Nat) (t b : Rat) (x6 : Sl), Sz m t → Sz m b → m + 18 * ks.length ≤ 8000 →
    ∃ y, forL (gN 6) b_law_1 (ks.map fun k : Nat => D.int (0 + (k : Int))) [x0, .val (.lst (qs.map tq)), .val (.lst (qs.map rt)), .val (rt t), .val (rt b), .val (tq t), x6, x7, x8, x9] ah =
      .nx [x0, .val (.lst (qs.map tq)), .val (.lst (qs.map rt)), .val (rt (fold1 (fun k => qs.getD k 0) ks t)), .val (rt (fold2 (fun k => qs.getD (qs.length - 1 - k) 0) ks b)), .val (tq (fold1 (fun k => qs.getD k 0) ks t)), y, x7, x8, x9] ah
  | [], h, m, t, b, x6, ht, hb, hm => ⟨x6, rfl⟩
  | k :: r, h, m, t, b, x6, ht, hb, hm => by
    rw [List.length_cons] at hm
    have hk := h k (List.mem_cons_self ..)
    have e1 : atI (qs.map rt) ((k : Nat) : Int) = some (rt (qs.getD k 0)) := by rw [at_nat (by rw [List.length_map]; exact hk)]; simp [hk]
    have e2 : atI (qs.map tq) ((k : Nat) : Int) = some (tq (qs.getD k 0)) := by rw [at_nat (by rw [List.length_map]; exact hk)]; simp [hk]
    have hk2 : qs.length - 1 - k < qs.length := by omega
    have e3 : atI (qs.map rt) (-1 - ((k : Nat) : Int)) = some (rt (qs.getD (qs.length - 1 - k) 0)) := by rw [at_back (by rw [List.length_map]; exact hk)]; simp [hk2]
    have z1 : Sz 17 (qs.getD k 0) := hq _ (by simp [hk])
    have z2 : Sz 17 (qs.getD (qs.length - 1 - k) 0) := hq _ (by simp [hk2])
    have g1 := fun ah => p_plusQ (ah := ah) ht z1 (by omega)
    have g2 := fun ah => p_plusQ (ah := ah) z2 hb (by omega)
    have g3 := fun ah => p_sum (ah := ah) ht z1 (by omega)
    have z3 : Sz (m + 18) (t + qs.getD k 0) := (sz_add ht z1).mono (by omega)
    have z4 : Sz (m + 18) (qs.getD (qs.length - 1 - k) 0 + b) := (sz_add z2 hb).mono (by omega)
    obtain ⟨y, ih⟩ := l_sum qs hq x0 x7 x8 x9 ah r (fun j hj => h j (List.mem_cons_of_mem _ hj)) (m + 18) _ _ (.val (.int (0 + (k : Int)))) z3 z4 (by omega)
    refine ⟨y, ?_⟩
    rw [List.map_cons, forL_cons]
    rw [Int.zero_add] at ih ⊢
    simp -implicitDefEqProofs only [b_law_1, ev_var, ev_c, ev_bin, bin1_ok, bin1_exc, bin2_ok, bin2_exc, ev_un, ev_fld, ev_isI, un1_ok, un1_exc, ev_test, test1_ok, test1_exc, ev_notT, notT1_ok, notT1_exc, ev_andT, andT1_t, andT1_f, andT1_exc, ev_orT, orT1_t, orT1_f, orT1_exc, ev_and, and1_t, and1_f, and1_exc, ev_or, or1_t, or1_f, or1_exc, ev_if, if1_t, if1_f, if1_exc, ev_chain, ch1_ok, ch1_exc, ch2_ok, ch2_exc, chm_t, chm_f, ch3_ok, ch3_exc, ev_nil, ev_cons, cons1_ok, cons1_exc, cons2_ok, cons2_exc, ev_tup, ev_lst, tup1_ok, tup1_exc, lst1_ok, lst1_exc, ev_no, ev_part, part1_ok, ev_sl, sl1_ok, sl1_exc, sl2_ok, sl3_ok, ev_cb, cb1_ok, cb1_exc, ev_call, call1_ok, call1_exc, ev_make, make1_ok, make1_exc, make2_ok, make2_exc, ev_meth, meth1_ok, meth1_exc, methm_some, methk_ok, methk_exc, cls_obj, ev_bm, bm1_ok, bm1_exc, bm2_ok, bm2_exc, ev_itAny, it1_ok, ev_rng1, rng1_ok, ev_rng2, rng2_ok, ev_enum, enum1_lst, enum1_scr, ev_zip, zip1_lst, ev_skip, ev_seq, seq1_nx, seq1_rt, seq1_bk, seq1_ct, seq1_exc, ev_brk, ev_cnt, ev_expr, expr1_ok, expr1_exc, ev_ret, ret1_ok, ret1_exc, ev_retN, ev_ifS, ifS1_t, ifS1_f, ifS1_exc, nxO_some, ev_asg, asg1_ok, asg1_exc, gN_ap, gTup_ap, gNs_nil, gNs_cons, ev_par, par1_ok, par1_exc, ev_for, for1_ok, for1_exc, forM_some, forK_nx, forK_ct, forK_bk, forK_rt, forK_exc, ev_tryK, tryK1_nx, tryK1_rt, ev_raise, ev_setF, setF1_exc, ev_run, run1_rt, run1_nx, run1_exc, ev_init, init1_nx, init1_exc, add_i, add_s, add_l, add_t, sub_i, mul_i, fdiv_i, mod_i, pow_i, neg_i, not_b, lt_i, le_i, gt_i, ge_i, eq_i, ne_i, eq_s, ne_s, is_n, nis_n, abs_i, int_i, int_b, str_i, str_s, list_s, list_l, list_t, tup_s, tup_l, tup_t, len_l, len_t, len_r, idx_l, idx_t, idx_r, sl_l, sl_t, whC_t, whC_f, whK_nx, whK_ct, whK_bk, whK_rt, at_0, at_1, at_2, at_3, at_4, ev_ixS, ixS0_val, ixS0_own, ixS1_ok, gAny_t, gAny_l, ev_newL, newL1_ok, ev_app, app0_own, app1_ok, ev_setI, setI0_own, setI1_ok, setI2_ok, ev_frz, frz0_own, frz0_val, lcL_nil, lcL_cons, lcO_some, lcA_t, lcA_f, lcB_ok, lc2_ok, ev_yes, wipe_nil, wipe_cons, ev_lc, lc0_ok, lcE_ok, it_l, it_t, it_r, ev_starts, ev_ends, ev_isB, ev_notB, ev_itS, ev_isStr, ev_isLst, List.getElem?_cons_zero, List.getElem?_cons_succ, List.set_cons_zero, List.set_cons_succ, List.length_cons, List.length_nil, List.cons_append, List.nil_append, List.append_nil, Nat.reduceAdd, Nat.reduceLeDiff, Nat.reduceEqDiff, ↓reduceIte, ofO_some, Bool.not_true, Bool.not_false, Option.map_some, Option.bind_some, decide_true, decide_false, Nat.zero_add, isN, Bool.false_eq_true, List.set_cons_zero, Int.reduceLT, Int.reduceLE, Int.reduceEq, e1, e2, e3, c1, mtp, g1, g2, g3]
    exact ih
theorem l_cell {ns : List Int} {k : Int} (h0 : 0 ≤ k) (h1 : k < 1000) (hl : ns.length ≤ 63) (ah : AH) : ∃ c : Int, f_l_cell_at [.scr (ns.map .int), .int k] ah = .ok (.int c) ah := by
  have hs : (ns.map D.int).length ≤ sizeLine := Nat.le_trans (by rw [List.length_map]; exact hl) (show 63 ≤ sizeLine by decide)
  have le : lenD ah [.scr (ns.map D.int)] = some (.int (ns.length : Nat)) := by
    show some (D.int ((ns.map D.int).length : Nat)) = _
    rw [List.length_map]
  by_cases h : k < ns.length
  · obtain ⟨m, hm, e⟩ := at_ints (ms := ns) h0 (by omega)
    have e2 : idxD ah (.scr (ns.map D.int)) (.int k) = some (.int m) := e
    exact ⟨m, by simp -implicitDefEqProofs only [r_l_cell_at, c_l_cell_at, ev_var, ev_c, ev_bin, bin1_ok, bin1_exc, bin2_ok, bin2_exc, ev_un, ev_fld, ev_isI, un1_ok, un1_exc, ev_test, test1_ok, test1_exc, ev_notT, notT1_ok, notT1_exc, ev_andT, andT1_t, andT1_f, andT1_exc, ev_orT, orT1_t, orT1_f, orT1_exc, ev_and, and1_t, and1_f, and1_exc, ev_or, or1_t, or1_f, or1_exc, ev_if, if1_t, if1_f, if1_exc, ev_chain, ch1_ok, ch1_exc, ch2_ok, ch2_exc, chm_t, chm_f, ch3_ok, ch3_exc, ev_nil, ev_cons, cons1_ok, cons1_exc, cons2_ok, cons2_exc, ev_tup, ev_lst, tup1_ok, tup1_exc, lst1_ok, lst1_exc, ev_no, ev_part, part1_ok, ev_sl, sl1_ok, sl1_exc, sl2_ok, sl3_ok, ev_cb, cb1_ok, cb1_exc, ev_call, call1_ok, call1_exc, ev_make, make1_ok, make1_exc, make2_ok, make2_exc, ev_meth, meth1_ok, meth1_exc, methm_some, methk_ok, methk_exc, cls_obj, ev_bm, bm1_ok, bm1_exc, bm2_ok, bm2_exc, ev_itAny, it1_ok, ev_rng1, rng1_ok, ev_rng2, rng2_ok, ev_enum, enum1_lst, enum1_scr, ev_zip, zip1_lst, ev_skip, ev_seq, seq1_nx, seq1_rt, seq1_bk, seq1_ct, seq1_exc, ev_brk, ev_cnt, ev_expr, expr1_ok, expr1_exc, ev_ret, ret1_ok, ret1_exc, ev_retN, ev_ifS, ifS1_t, ifS1_f, ifS1_exc, nxO_some, ev_asg, asg1_ok, asg1_exc, gN_ap, gTup_ap, gNs_nil, gNs_cons, ev_par, par1_ok, par1_exc, ev_for, for1_ok, for1_exc, forM_some, forK_nx, forK_ct, forK_bk, forK_rt, forK_exc, ev_tryK, tryK1_nx, tryK1_rt, ev_raise, ev_setF, setF1_exc, ev_run, run1_rt, run1_nx, run1_exc, ev_init, init1_nx, init1_exc, add_i, add_s, add_l, add_t, sub_i, mul_i, fdiv_i, mod_i, pow_i, neg_i, not_b, lt_i, le_i, gt_i, ge_i, eq_i, ne_i, eq_s, ne_s, is_n, nis_n, abs_i, int_i, int_b, str_i, str_s, list_s, list_l, list_t, tup_s, tup_l, tup_t, len_l, len_t, len_r, idx_l, idx_t, idx_r, sl_l, sl_t, whC_t, whC_f, whK_nx, whK_ct, whK_bk, whK_rt, at_0, at_1, at_2, at_3, at_4, ev_ixS, ixS0_val, ixS0_own, ixS1_ok, gAny_t, gAny_l, ev_newL, newL1_ok, ev_app, app0_own, app1_ok, ev_setI, setI0_own, setI1_ok, setI2_ok, ev_frz, frz0_own, frz0_val, lcL_nil, lcL_cons, lcO_some, lcA_t, lcA_f, lcB_ok, lc2_ok, ev_yes, wipe_nil, wipe_cons, ev_lc, lc0_ok, lcE_ok, it_l, it_t, it_r, ev_starts, ev_ends, ev_isB, ev_notB, ev_itS, ev_isStr, ev_isLst, List.getElem?_cons_zero, List.getElem?_cons_succ, List.set_cons_zero, List.set_cons_succ, List.length_cons, List.length_nil, List.cons_append, List.nil_append, List.append_nil, Nat.reduceAdd, Nat.reduceLeDiff, Nat.reduceEqDiff, ↓reduceIte, ofO_some, Bool.not_true, Bool.not_false, Option.map_some, Option.bind_some, decide_true, decide_false, Nat.zero_add, isN, Bool.false_eq_true, List.set_cons_zero, Int.reduceLT, Int.reduceLE, Int.reduceEq, le, decide_eq_true h, e2]⟩
  · have o1 : mulOk (k + 3) (k + 7) := mulOk_l (by omega)
    have o2 : mulOk ((k + 3) * (k + 7)) 7919 := mulOk_r (by decide)
    exact ⟨_, by simp -implicitDefEqProofs only [r_l_cell_at, c_l_cell_at, ev_var, ev_c, ev_bin, bin1_ok, bin1_exc, bin2_ok, bin2_exc, ev_un, ev_fld, ev_isI, un1_ok, un1_exc, ev_test, test1_ok, test1_exc, ev_notT, notT1_ok, notT1_exc, ev_andT, andT1_t, andT1_f, andT1_exc, ev_orT, orT1_t, orT1_f, orT1_exc, ev_and, and1_t, and1_f, and1_exc, ev_or, or1_t, or1_f, or1_exc, ev_if, if1_t, if1_f, if1_exc, ev_chain, ch1_ok, ch1_exc, ch2_ok, ch2_exc, chm_t, chm_f, ch3_ok, ch3_exc, ev_nil, ev_cons, cons1_ok, cons1_exc, cons2_ok, cons2_exc, ev_tup, ev_lst, tup1_ok, tup1_exc, lst1_ok, lst1_exc, ev_no, ev_part, part1_ok, ev_sl, sl1_ok, sl1_exc, sl2_ok, sl3_ok, ev_cb, cb1_ok, cb1_exc, ev_call, call1_ok, call1_exc, ev_make, make1_ok, make1_exc, make2_ok, make2_exc, ev_meth, meth1_ok, meth1_exc, methm_some, methk_ok, methk_exc, cls_obj, ev_bm, bm1_ok, bm1_exc, bm2_ok, bm2_exc, ev_itAny, it1_ok, ev_rng1, rng1_ok, ev_rng2, rng2_ok, ev_enum, enum1_lst, enum1_scr, ev_zip, zip1_lst, ev_skip, ev_seq, seq1_nx, seq1_rt, seq1_bk, seq1_ct, seq1_exc, ev_brk, ev_cnt, ev_expr, expr1_ok, expr1_exc, ev_ret, ret1_ok, ret1_exc, ev_retN, ev_ifS, ifS1_t, ifS1_f, ifS1_exc, nxO_some, ev_asg, asg1_ok, asg1_exc, gN_ap, gTup_ap, gNs_nil, gNs_cons, ev_par, par1_ok, par1_exc, ev_for, for1_ok, for1_exc, forM_some, forK_nx, forK_ct, forK_bk, forK_rt, forK_exc, ev_tryK, tryK1_nx, tryK1_rt, ev_raise, ev_setF, setF1_exc, ev_run, run1_rt, run1_nx, run1_exc, ev_init, init1_nx, init1_exc, add_i, add_s, add_l, add_t, sub_i, mul_i, fdiv_i, mod_i, pow_i, neg_i, not_b, lt_i, le_i, gt_i, ge_i, eq_i, ne_i, eq_s, ne_s, is_n, nis_n, abs_i, int_i, int_b, str_i, str_s, list_s, list_l, list_t, tup_s, tup_l, tup_t, len_l, len_t, len_r, idx_l, idx_t, idx_r, sl_l, sl_t, whC_t, whC_f, whK_nx, whK_ct, whK_bk, whK_rt, at_0, at_1, at_2, at_3, at_4, ev_ixS, ixS0_val, ixS0_own, ixS1_ok, gAny_t, gAny_l, ev_newL, newL1_ok, ev_app, app0_own, app1_ok, ev_setI, setI0_own, setI1_ok, setI2_ok, ev_frz, frz0_own, frz0_val, lcL_nil, lcL_cons, lcO_some, lcA_t, lcA_f, lcB_ok, lc2_ok, ev_yes, wipe_nil, wipe_cons, ev_lc, lc0_ok, lcE_ok, it_l, it_t, it_r, ev_starts, ev_ends, ev_isB, ev_notB, ev_itS, ev_isStr, ev_isLst, List.getElem?_cons_zero, List.getElem?_cons_succ, List.set_cons_zero, List.set_cons_succ, List.length_cons, List.length_nil, List.cons_append, List.nil_append, List.append_nil, Nat.reduceAdd, Nat.reduceLeDiff, Nat.reduceEqDiff, ↓reduceIte, ofO_some, Bool.not_true, Bool.not_false, Option.map_some, Option.bind_some, decide_true, decide_false, Nat.zero_add, isN, Bool.false_eq_true, List.set_cons_zero, Int.reduceLT, Int.reduceLE, Int.reduceEq, le, decide_eq_false h, mul_i o1, mul_i o2] <;> rfl⟩
theorem l_three (qs : List Rat) (hq : ∀ q ∈ qs, Sz 17 q) (ns : List Int) (hl : ns.length ≤ 63) (x1 x3 x4 x5 x9 : Sl) (ah : AH) : ∀ (ks : List Nat), (∀ k ∈ ks, k < qs.length ∧ k < 1000) → ∀ (x6 x7 x8 : Sl),
    ∃ y6 y7 y8, forL (gN 6) b_law_2 (ks.map fun k : Nat => D.int (0 + (k : Int))) [.val (.scr (ns.map .int)), x1, .val (.lst (qs.map rt)), x3, x4, x5, x6, x7, x8, x9] ah =
      .nx [.val (.scr (ns.map .int)), x1, .val (.lst (qs.map rt)), x3, x4, x5, y6, y7, y8, x9] ah
  | [], h, x6, x7, x8 => ⟨x6, x7, x8, rfl⟩
  | k :: r, h, x6, x7, x8 => by
    obtain ⟨hk, hk1⟩ := h k (List.mem_cons_self ..)
    have e1 : atI (qs.map rt) ((k : Nat) : Int) = some (rt (qs.getD k 0)) := by rw [at_nat (by rw [List.length_map]; exact hk)]; simp [hk]
    have hk2 : qs.length - 1 - k < qs.length := by omega
    have e3 : atI (qs.map rt) (-1 - ((k : Nat) : Int)) = some (rt (qs.getD (qs.length - 1 - k) 0)) := by rw [at_back (by rw [List.length_map]; exact hk)]; simp [hk2]
    have z1 : Sz 17 (qs.getD k 0) := hq _ (by simp [hk])
    have z2 : Sz 17 (qs.getD (qs.length - 1 - k) 0) := hq _ (by simp [hk2])
    have s1 : S30 (qs.getD k 0) := ⟨Nat.lt_trans z1.1 (by decide), Nat.lt_trans z1.2 (by decide)⟩
    obtain ⟨c, hc⟩ := l_cell (ns := ns) (k := (k : Int)) (by omega) (by omega) hl ah
    obtain ⟨q, hq1, hq2⟩ := p_pair (mixed c 500)
    have mk := fun ah => p_rt (ah := ah) hq1.sz (by decide)
    have mk2 : D.obj 3 [.int q.num, .int (q.den : Int)] = rt q := rfl
    have t1 := fun ah => p_three (ah := ah) (a := qs.getD k 0) (b := qs.getD (qs.length - 1 - k) 0) (c := q) s1 (z2.mono (by decide)) hq1.sz
    have t2 := fun ah => p_three (ah := ah) (a := q) (b := qs.getD k 0) (c := qs.getD (qs.length - 1 - k) 0) hq1 (z1.mono (by decide)) (z2.mono (by decide))
    obtain ⟨y6, y7, y8, ih⟩ := l_three qs hq ns hl x1 x3 x4 x5 x9 ah r (fun j hj => h j (List.mem_cons_of_mem _ hj)) (.val (.int (0 + (k : Int)))) (.val (tq q)) (.val (rt q))
    refine ⟨y6, y7, y8, ?_⟩
    rw [List.map_cons, forL_cons]
    rw [Int.zero_add] at ih ⊢
    unfold tq at hq2 ih
    simp -implicitDefEqProofs only [b_law_2, ev_var, ev_c, ev_bin, bin1_ok, bin1_exc, bin2_ok, bin2_exc, ev_un, ev_fld, ev_isI, un1_ok, un1_exc, ev_test, test1_ok, test1_exc, ev_notT, notT1_ok, notT1_exc, ev_andT, andT1_t, andT1_f, andT1_exc, ev_orT, orT1_t, orT1_f, orT1_exc, ev_and, and1_t, and1_f, and1_exc, ev_or, or1_t, or1_f, or1_exc, ev_if, if1_t, if1_f, if1_exc, ev_chain, ch1_ok, ch1_exc, ch2_ok, ch2_exc, chm_t, chm_f, ch3_ok, ch3_exc, ev_nil, ev_cons, cons1_ok, cons1_exc, cons2_ok, cons2_exc, ev_tup, ev_lst, tup1_ok, tup1_exc, lst1_ok, lst1_exc, ev_no, ev_part, part1_ok, ev_sl, sl1_ok, sl1_exc, sl2_ok, sl3_ok, ev_cb, cb1_ok, cb1_exc, ev_call, call1_ok, call1_exc, ev_make, make1_ok, make1_exc, make2_ok, make2_exc, ev_meth, meth1_ok, meth1_exc, methm_some, methk_ok, methk_exc, cls_obj, ev_bm, bm1_ok, bm1_exc, bm2_ok, bm2_exc, ev_itAny, it1_ok, ev_rng1, rng1_ok, ev_rng2, rng2_ok, ev_enum, enum1_lst, enum1_scr, ev_zip, zip1_lst, ev_skip, ev_seq, seq1_nx, seq1_rt, seq1_bk, seq1_ct, seq1_exc, ev_brk, ev_cnt, ev_expr, expr1_ok, expr1_exc, ev_ret, ret1_ok, ret1_exc, ev_retN, ev_ifS, ifS1_t, ifS1_f, ifS1_exc, nxO_some, ev_asg, asg1_ok, asg1_exc, gN_ap, gTup_ap, gNs_nil, gNs_cons, ev_par, par1_ok, par1_exc, ev_for, for1_ok, for1_exc, forM_some, forK_nx, forK_ct, forK_bk, forK_rt, forK_exc, ev_tryK, tryK1_nx, tryK1_rt, ev_raise, ev_setF, setF1_exc, ev_run, run1_rt, run1_nx, run1_exc, ev_init, init1_nx, init1_exc, add_i, add_s, add_l, add_t, sub_i, mul_i, fdiv_i, mod_i, pow_i, neg_i, not_b, lt_i, le_i, gt_i, ge_i, eq_i, ne_i, eq_s, ne_s, is_n, nis_n, abs_i, int_i, int_b, str_i, str_s, list_s, list_l, list_t, tup_s, tup_l, tup_t, len_l, len_t, len_r, idx_l, idx_t, idx_r, sl_l, sl_t, whC_t, whC_f, whK_nx, whK_ct, whK_bk, whK_rt, at_0, at_1, at_2, at_3, at_4, ev_ixS, ixS0_val, ixS0_own, ixS1_ok, gAny_t, gAny_l, ev_newL, newL1_ok, ev_app, app0_own, app1_ok, ev_setI, setI0_own, setI1_ok, setI2_ok, ev_frz, frz0_own, frz0_val, lcL_nil, lcL_cons, lcO_some, lcA_t, lcA_f, lcB_ok, lc2_ok, ev_yes, wipe_nil, wipe_cons, ev_lc, lc0_ok, lcE_ok, it_l, it_t, it_r, ev_starts, ev_ends, ev_isB, ev_notB, ev_itS, ev_isStr, ev_isLst, List.getElem?_cons_zero, List.getElem?_cons_succ, List.set_cons_zero, List.set_cons_succ, List.length_cons, List.length_nil, List.cons_append, List.nil_append, List.append_nil, Nat.reduceAdd, Nat.reduceLeDiff, Nat.reduceEqDiff, ↓reduceIte, ofO_some, Bool.not_true, Bool.not_false, Option.map_some, Option.bind_some, decide_true, decide_false, Nat.zero_add, isN, Bool.false_eq_true, List.set_cons_zero, Int.reduceLT, Int.reduceLE, Int.reduceEq, p_mixed, hc, hq2, at_0, at_1, mk, mk2, e1, e3, t1, t2]
    exact ih
theorem fold1_add (X : Nat → Rat) : ∀ (ks : List Nat) (t : Rat), fold1 X ks t = t + (ks.map X).sum
  | [], t => by
    show t = t + 0
    grind
  | k :: r, t => by
    show fold1 X r (t + X k) = _
    rw [fold1_add X r, List.map_cons, List.sum_cons]
    grind
theorem fold2_add (X : Nat → Rat) : ∀ (ks : List Nat) (t : Rat), fold2 X ks t = t + (ks.map X).sum
  | [], t => by
    show t = t + 0
    grind
  | k :: r, t => by
    show fold2 X r (X k + t) = _
    rw [fold2_add X r, List.map_cons, List.sum_cons]
    grind
theorem sum_app : ∀ (l m : List Rat), (l ++ m).sum = l.sum + m.sum
  | [], m => by
    show m.sum = 0 + m.sum
    grind
  | a :: l, m => by
    rw [List.cons_append, List.sum_cons, List.sum_cons, sum_app l m]
    grind
theorem sum_rev : ∀ (l : List Rat), l.reverse.sum = l.sum
  | [] => rfl
  | a :: l => by
    rw [List.reverse_cons, sum_app, sum_rev l, List.sum_cons]
    show l.sum + (a + 0) = _
    grind
theorem both_ways (qs : List Rat) : fold1 (fun k => qs.getD k 0) (List.range qs.length) 0 = fold2 (fun k => qs.getD (qs.length - 1 - k) 0) (List.range qs.length) 0 := by
  rw [fold1_add, fold2_add]
  have e1 : (List.range qs.length).map (fun k => qs.getD k 0) = qs := by
    refine List.ext_getElem (by simp) fun i h1 h2 => ?_
    simp [h2]
  have e2 : (List.range qs.length).map (fun k => qs.getD (qs.length - 1 - k) 0) = qs.reverse := by
    refine List.ext_getElem (by simp) fun i h1 h2 => ?_
    have h3 : qs.length - 1 - i < qs.length := by simp at h2; omega
    simp [h3]
  rw [e1, e2, sum_rev]
theorem law_true (ns : List Int) (h : ns.length ≤ 63) : ∃ ah, f_law [.scr (ns.map .int)] [] = .ok (.bl true) ah := by
  have a1 : ([D.int 7] : List D).length + (ns.map D.int).length ≤ sizeLine := Nat.le_trans (by rw [List.length_map]; simp only [List.length_cons, List.length_nil]; omega) (show 100 ≤ sizeLine by decide)
  have e : G.cutD (D.int 7 :: ns.map D.int) none (some 200) = (G.cutD (7 :: ns) none (some 200)).map D.int := by
    rw [← cut_map]
    rfl
  have lc : (G.cutD (7 :: ns) none (some 200)).length ≤ 64 := by
    unfold G.cutD
    rw [List.length_take, List.length_drop, List.length_cons]
    omega
  have le : (enumD 0 ((G.cutD (7 :: ns) none (some 200)).map D.int)).length ≤ 10000000 := by
    rw [enumD_len, List.length_map]
    omega
  have ln := numb_len (G.cutD (7 :: ns) none (some 200)) 0
  have hq := numb_sz (G.cutD (7 :: ns) none (some 200)) 0
  have lp := fun x0 x1 x2 x3 x4 x5 x7 x8 ah x6 x9 => l_pairs x0 x1 x2 x3 x4 x5 x7 x8 ah (G.cutD (7 :: ns) none (some 200)) 0 x6 x9
  generalize numb 0 (G.cutD (7 :: ns) none (some 200)) = qs at *
  have lq : qs.length ≤ 64 := by omega
  have l7 : (qs.map tq).length ≤ 10000000 := by rw [List.length_map]; omega
  have l8 : ((qs.map rt).length : Int) = qs.length := by rw [List.length_map]
  have lnn := fun x0 x1 x2 x3 x4 x5 x6 x7 x8 x9 ah => l_nums x0 x1 x2 x3 x4 x5 x6 x8 x9 ah qs hq x7
  have i0 : ∀ ah, f_Ratio_init [.int 0, .int 1] ah = .ok [.int (0 : Rat).num, .int ((0 : Rat).den : Int)] ah := fun ah => p_rti
  have i5 : ∀ ah, f_Ratio_init [.int 0, .int 5] ah = .ok [.int (0 : Rat).num, .int ((0 : Rat).den : Int)] ah := fun ah => by
    rw [p_initQ (n := 3) (by decide) (by decide) (by decide)]
    rfl
  have mk2 : D.obj 3 [.int (0 : Rat).num, .int ((0 : Rat).den : Int)] = rt 0 := rfl
  have mk3 : D.tup [.int 0, .int 1] = tq 0 := rfl
  obtain ⟨y, hs⟩ := l_sum qs hq (.val (.scr (ns.map .int))) .no .no .no [] (List.range qs.length) (fun k hk => List.mem_range.mp hk) 1 0 0 .no ⟨by decide, by decide⟩ ⟨by decide, by decide⟩ (by rw [List.length_range]; omega)
  have rg : ∀ n : Nat, rngD 0 ((n : Nat) : Int).toNat = (List.range n).map fun k : Nat => D.int (0 + (k : Int)) := fun n => rfl
  have w8 : -(2 ^ 62) ≤ (qs.length : Int) ∧ (qs.length : Int) < 2 ^ 62 := by omega
  have bw := both_ways qs
  generalize fold1 (fun k => qs.getD k 0) (List.range qs.length) 0 = T at *
  rw [← bw] at hs
  have eT : decide (T = T) = true := decide_eq_true rfl
  have mn : ∀ ah, min2D ah [.int 20, .int (qs.length : Int)] = some (.int ((min 20 qs.length : Nat) : Int)) := fun ah => by
    show some (D.int (if (qs.length : Int) < 20 then (qs.length : Int) else 20)) = _
    congr 2
    split <;> omega
  have w9 : -(2 ^ 62) ≤ ((min 20 qs.length : Nat) : Int) ∧ ((min 20 qs.length : Nat) : Int) < 2 ^ 62 := by omega
  obtain ⟨y6, y7, y8, ht⟩ := l_three qs hq ns h (.val (.lst (qs.map tq))) (.val (rt T)) (.val (rt T)) (.val (tq T)) .no [] (List.range (min 20 qs.length)) (fun k hk => by have := List.mem_range.mp hk; omega) y .no .no
  refine ⟨[], ?_⟩
  simp -implicitDefEqProofs only [r_law, c_law, ev_var, ev_c, ev_bin, bin1_ok, bin1_exc, bin2_ok, bin2_exc, ev_un, ev_fld, ev_isI, un1_ok, un1_exc, ev_test, test1_ok, test1_exc, ev_notT, notT1_ok, notT1_exc, ev_andT, andT1_t, andT1_f, andT1_exc, ev_orT, orT1_t, orT1_f, orT1_exc, ev_and, and1_t, and1_f, and1_exc, ev_or, or1_t, or1_f, or1_exc, ev_if, if1_t, if1_f, if1_exc, ev_chain, ch1_ok, ch1_exc, ch2_ok, ch2_exc, chm_t, chm_f, ch3_ok, ch3_exc, ev_nil, ev_cons, cons1_ok, cons1_exc, cons2_ok, cons2_exc, ev_tup, ev_lst, tup1_ok, tup1_exc, lst1_ok, lst1_exc, ev_no, ev_part, part1_ok, ev_sl, sl1_ok, sl1_exc, sl2_ok, sl3_ok, ev_cb, cb1_ok, cb1_exc, ev_call, call1_ok, call1_exc, ev_make, make1_ok, make1_exc, make2_ok, make2_exc, ev_meth, meth1_ok, meth1_exc, methm_some, methk_ok, methk_exc, cls_obj, ev_bm, bm1_ok, bm1_exc, bm2_ok, bm2_exc, ev_itAny, it1_ok, ev_rng1, rng1_ok, ev_rng2, rng2_ok, ev_enum, enum1_lst, enum1_scr, ev_zip, zip1_lst, ev_skip, ev_seq, seq1_nx, seq1_rt, seq1_bk, seq1_ct, seq1_exc, ev_brk, ev_cnt, ev_expr, expr1_ok, expr1_exc, ev_ret, ret1_ok, ret1_exc, ev_retN, ev_ifS, ifS1_t, ifS1_f, ifS1_exc, nxO_some, ev_asg, asg1_ok, asg1_exc, gN_ap, gTup_ap, gNs_nil, gNs_cons, ev_par, par1_ok, par1_exc, ev_for, for1_ok, for1_exc, forM_some, forK_nx, forK_ct, forK_bk, forK_rt, forK_exc, ev_tryK, tryK1_nx, tryK1_rt, ev_raise, ev_setF, setF1_exc, ev_run, run1_rt, run1_nx, run1_exc, ev_init, init1_nx, init1_exc, add_i, add_s, add_l, add_t, sub_i, mul_i, fdiv_i, mod_i, pow_i, neg_i, not_b, lt_i, le_i, gt_i, ge_i, eq_i, ne_i, eq_s, ne_s, is_n, nis_n, abs_i, int_i, int_b, str_i, str_s, list_s, list_l, list_t, tup_s, tup_l, tup_t, len_l, len_t, len_r, idx_l, idx_t, idx_r, sl_l, sl_t, whC_t, whC_f, whK_nx, whK_ct, whK_bk, whK_rt, at_0, at_1, at_2, at_3, at_4, ev_ixS, ixS0_val, ixS0_own, ixS1_ok, gAny_t, gAny_l, ev_newL, newL1_ok, ev_app, app0_own, app1_ok, ev_setI, setI0_own, setI1_ok, setI2_ok, ev_frz, frz0_own, frz0_val, lcL_nil, lcL_cons, lcO_some, lcA_t, lcA_f, lcB_ok, lc2_ok, ev_yes, wipe_nil, wipe_cons, ev_lc, lc0_ok, lcE_ok, it_l, it_t, it_r, ev_starts, ev_ends, ev_isB, ev_notB, ev_itS, ev_isStr, ev_isLst, List.getElem?_cons_zero, List.getElem?_cons_succ, List.set_cons_zero, List.set_cons_succ, List.length_cons, List.length_nil, List.cons_append, List.nil_append, List.append_nil, Nat.reduceAdd, Nat.reduceLeDiff, Nat.reduceEqDiff, ↓reduceIte, ofO_some, Bool.not_true, Bool.not_false, Option.map_some, Option.bind_some, decide_true, decide_false, Nat.zero_add, isN, Bool.false_eq_true, List.set_cons_zero, Int.reduceLT, Int.reduceLE, Int.reduceEq, add_l a1, e, le, lp, l7, lnn, i0, i5, mk2, mk3, l8, if_pos w8, rg, hs, c1, mtt, p_toldQ, ne_tq, eT, mn, if_pos w9, ht]
end Y
namespace Y
open PySem PySem.Spec PyProof.Rows L2 G
def clK (K : Fr) : Nat → Addr := fun n => [0, He.ga K "WorkError", He.ga K "NoRatio", He.ga K "Ratio"].getD n 0
theorem tx {K : Fr} {h : Heap} {mg : Str → Option Value} (X : K.In h) (G : h.Ns mainGlobals mg) (c : SaysX hfs hfn K) : Tx K mg (clK K) := by
  have F0 := c.df 0 (d := hd0)
  have F1 := c.df 1 (d := hd1)
  have F2 := c.df 2 (d := hd2)
  have F3 := c.df 3 (d := hd3)
  have F4 := c.df 4 (d := hd4)
  have F5 := c.df 5 (d := hd5)
  have F6 := c.df 6 (d := hd6)
  have F7 := c.df 7 (d := hd7)
  have F8 := c.df 8 (d := hd8)
  have F9 := c.df 9 (d := hd9)
  have F10 := c.df 10 (d := hd10)
  have F11 := c.df 11 (d := hd11)
  have F12 := c.df 12 (d := hd12)
  have F13 := c.df 13 (d := hd13)
  have F14 := c.df 14 (d := hd14)
  have F15 := c.df 15 (d := hd15)
  have F16 := c.df 16 (d := hd16)
  have F17 := c.df 17 (d := hd17)
  have F18 := c.df 18 (d := hd18)
  have F19 := c.df 19 (d := hd19)
  have F20 := c.df 20 (d := hd20)
  have F21 := c.df 21 (d := hd21)
  have F22 := c.df 22 (d := hd22)
  have F23 := c.df 23 (d := hd23)
  have F24 := c.df 24 (d := hd24)
  exact {
    b_enumerate := He.free_ok X G (c.at 0),
    b_list := He.free_ok X G (c.at 1),
    b_abs := He.free_ok X G (c.at 2),
    g_NoRatio := He.glo_ok X G (c.at 3),
    x_NoRatio := of_decide_eq_true (c.at 4),
    k_NoRatio := of_decide_eq_true (c.at 5),
    bs_NoRatio := of_decide_eq_true (c.at 6),
    ty_NoRatio := of_decide_eq_true (c.at 7),
    b_range := He.free_ok X G (c.at 8),
    b_len := He.free_ok X G (c.at 9),
    b_min := He.free_ok X G (c.at 10),
    b_all := He.free_ok X G (c.at 11),
    g_FIGURES := He.str_ok X G (c.at 12),
    g_MOST_FIGURES := He.int_ok X G (c.at 13),
    b_int := He.free_ok X G (c.at 14),
    b_str := He.free_ok X G (c.at 15),
    d_l_common := ⟨_, F0.choose, F0.choose_spec, He.glo_ok X G (c.at 16)⟩,
    d_l_low := ⟨_, F1.choose, F1.choose_spec, He.glo_ok X G (c.at 17)⟩,
    d_l_mixed := ⟨_, F2.choose, F2.choose_spec, He.glo_ok X G (c.at 18)⟩,
    d_l_small := ⟨_, F3.choose, F3.choose_spec, He.glo_ok X G (c.at 19)⟩,
    d_common := ⟨_, F4.choose, F4.choose_spec, He.glo_ok X G (c.at 20)⟩,
    d_Ratio_init := ⟨_, F5.choose, F5.choose_spec, He.mkr_ok (c.at 21)⟩,
    d_Ratio_plus := ⟨_, F6.choose, F6.choose_spec, He.meth_ok (c.at 22)⟩,
    d_l_sum := ⟨_, F7.choose, F7.choose_spec, He.glo_ok X G (c.at 23)⟩,
    d_Ratio_told := ⟨_, F8.choose, F8.choose_spec, He.meth_ok (c.at 24)⟩,
    d_l_great := ⟨_, F9.choose, F9.choose_spec, He.glo_ok X G (c.at 25)⟩,
    d_l_pair := ⟨_, F10.choose, F10.choose_spec, He.glo_ok X G (c.at 26)⟩,
    d_l_cell_at := ⟨_, F11.choose, F11.choose_spec, He.glo_ok X G (c.at 27)⟩,
    d_Ratio_times := ⟨_, F12.choose, F12.choose_spec, He.meth_ok (c.at 28)⟩,
    d_Ratio_turned := ⟨_, F13.choose, F13.choose_spec, He.meth_ok (c.at 29)⟩,
    d_Ratio_minus := ⟨_, F14.choose, F14.choose_spec, He.meth_ok (c.at 30)⟩,
    d_Ratio_rest := ⟨_, F15.choose, F15.choose_spec, He.meth_ok (c.at 31)⟩,
    d_Ratio_floor := ⟨_, F16.choose, F16.choose_spec, He.meth_ok (c.at 32)⟩,
    d_are_figures := ⟨_, F17.choose, F17.choose_spec, He.glo_ok X G (c.at 33)⟩,
    d_read_ratio := ⟨_, F18.choose, F18.choose_spec, He.glo_ok X G (c.at 34)⟩,
    d_Ratio_text := ⟨_, F19.choose, F19.choose_spec, He.meth_ok (c.at 35)⟩,
    d_before := ⟨_, F20.choose, F20.choose_spec, He.glo_ok X G (c.at 36)⟩,
    d_Ratio_sign := ⟨_, F21.choose, F21.choose_spec, He.meth_ok (c.at 37)⟩,
    d_Ratio_over := ⟨_, F22.choose, F22.choose_spec, He.meth_ok (c.at 38)⟩,
    d_l_three := ⟨_, F23.choose, F23.choose_spec, He.glo_ok X G (c.at 39)⟩,
    d_law := ⟨_, F24.choose, F24.choose_spec, He.glo_ok X G (c.at 40)⟩,
    c_Ratio := He.cls_ok (c.at 41),
    g_Ratio := He.glo_ok X G (c.at 42),
    n_Ratio_bottom := He.noat_ok (c.at 43),
    n_Ratio_top := He.noat_ok (c.at 44) }
end Y

open PySem PySem.W PyProof.Rows in
set_option maxRecDepth 100000 in
set_option maxHeartbeats 0 in
theorem PySem.Challenge.cw_toothyard_k06_whole_ratios_holds : PySem.Challenge.rw_toothyard_k06_whole_ratios.Holds := by
  w_on; o_law
  refine HandSHeadRun.head_any (r := OpenLaw.row PySem.Challenge.rw_toothyard_k06_whole_ratios) (q := view (OpenLaw.row PySem.Challenge.rw_toothyard_k06_whole_ratios).prog [21]) (H := G.hookX Y.hfs Y.hfn) (ob := G.obX Y.hfs Y.hfn) (M := 30000) (loose := Y.hnames) (d := HandSHeadRun.topDef (OpenLaw.row PySem.Challenge.rw_toothyard_k06_whole_ratios).prog 21) (kwd := [])
    (G.obX_eq Y.hfs Y.hfn) (by kernel_rfl) (fun s => by kernel_rfl) Y.hrun (by kernel_rfl) (by kernel_rfl) (by kernel_rfl) rfl (by first | assumption | decide +kernel) (by decide +kernel) ⟨rfl, rfl, rfl, rfl, rfl, by decide +kernel⟩ ?hw ?hc
  case hw => w_witness2
  case hc =>
    refine G.walkX (l := PySem.Challenge.rw_toothyard_k06_whole_ratios) (k := 7) (x := "_law_script") (flX := Y.fl) (F := Y.f_law) rfl (by kernel_rfl) ⟨rfl, by decide, by decide⟩ Y.law_true ?F
    intro w mg fa h Y GM hmg0
    obtain ⟨K, KX, c⟩ := Y
    have e0 : (HandSHeadRun.topDef (OpenLaw.row PySem.Challenge.rw_toothyard_k06_whole_ratios).prog 21).name = ("law" : PySem.Str) := by kernel_rfl
    rw [e0] at hmg0
    have T := Y.tx KX GM c
    obtain ⟨fd, F⟩ := c.df 24 (d := Y.hd24)
    have e := hmg0.symm.trans (He.glo_ok KX GM (c.at 40))
    cases e
    have b := L2.FunD.bindsA (ps := ["_law_script"]) F fun _ _ _ _ _ _ us hl => match us, hl with | [_], _ => rfl
    exact ⟨K, Y.clK K, fd, KX, fun s v => b s [v] rfl, fun base _ _ => G.ok_def (t := Y.tb K (Y.clK K)) F Y.sc_law (fun cdv A outer s H0 E w0 hr => Y.law_body T hr)⟩
#print axioms PySem.Challenge.cw_toothyard_k06_whole_ratios_holds
