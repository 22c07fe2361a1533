import PyProof.Rows.All
import Wide.All
import OpenK.AllK
import Wide.FinOn
import HandS.ForMost
import HandS.ForExc
import HandS.Defaults
import HandS.Codes
import HandS.ClsMeth
import HandS.TupLe
import HandS.StrMore
import HandS.IsInst
import HandS.SuiteRaise
import HandS.HotCalls
import HandS.ExcIs
import HandS.CallSlots
import KE.RegKIsAll
import HandS.TryElse
import HandS.TryMany
import HandS.WideBits
import KE.KStateDown
import HandS.Head0
import HandS.Head1
import HandS.Head2
import HandS.HeadEnd
import HandS.HeadHook1
import HandS.HeadHook2
import PySem.Challenge.RW_minders_k05_trees_read_and_written


set_option Elab.async false
set_option linter.all false
set_option maxRecDepth 100000
set_option maxHeartbeats 4000000

namespace Mn
open PySem L2
def top (i : Nat) : Stmt := PySem.Challenge.pw_minders_k05_trees_read_and_written.main.body.getD i (.Pass ⟨0, 0, 0, 0⟩)
/-- the built-ins that the text names -/
structure Bt (mg : Str → Option Value) : Prop where
  len : mg "len" = none
  int : mg "int" = none
  bool : mg "bool" = none
  list : mg "list" = none
  str : mg "str" = none
  divmod : mg "divmod" = none
  range : mg "range" = none
  isinstance : mg "isinstance" = none
  ValueError : mg "ValueError" = none
  KeyError : mg "KeyError" = none
abbrev s_fit_name : Stmt := top 10
theorem sc_fit_name : FnScope ["text"] ["text"] (defScope s_fit_name) := ⟨rfl, rfl, rfl, by decide +kernel, rfl, by decide +kernel, by decide +kernel⟩
abbrev s_number_in : Stmt := top 12
theorem sc_number_in : FnScope ["text", "most", "value"] ["text", "most"] (defScope s_number_in) := ⟨rfl, rfl, rfl, by decide +kernel, rfl, by decide +kernel, by decide +kernel⟩
abbrev s_Shape_init : Stmt := inClass (top 14) 0
theorem sc_Shape_init : FnScope ["self", "name", "keep"] ["self", "name", "keep"] (defScope s_Shape_init) := ⟨rfl, rfl, rfl, by decide +kernel, rfl, by decide +kernel, by decide +kernel⟩
abbrev s_Shape_leaf : Stmt := inClass (top 14) 1
theorem sc_Shape_leaf : FnScope ["self"] ["self"] (defScope s_Shape_leaf) := ⟨rfl, rfl, rfl, by decide +kernel, rfl, by decide +kernel, by decide +kernel⟩
abbrev s_Leaf_init : Stmt := inClass (top 15) 0
theorem sc_Leaf_init : FnScope ["self", "name", "keep", "grace", "slow"] ["self", "name", "keep", "grace", "slow"] (defScope s_Leaf_init) := ⟨rfl, rfl, rfl, by decide +kernel, rfl, by decide +kernel, by decide +kernel⟩
abbrev s_Leaf_leaf : Stmt := inClass (top 15) 1
theorem sc_Leaf_leaf : FnScope ["self"] ["self"] (defScope s_Leaf_leaf) := ⟨rfl, rfl, rfl, by decide +kernel, rfl, by decide +kernel, by decide +kernel⟩
abbrev s_Leaf_work : Stmt := inClass (top 15) 3
theorem sc_Leaf_work : FnScope ["self"] ["self"] (defScope s_Leaf_work) := ⟨rfl, rfl, rfl, by decide +kernel, rfl, by decide +kernel, by decide +kernel⟩
abbrev s_Leaf_words : Stmt := inClass (top 15) 4
theorem sc_Leaf_words : FnScope ["self"] ["self"] (defScope s_Leaf_words) := ⟨rfl, rfl, rfl, by decide +kernel, rfl, by decide +kernel, by decide +kernel⟩
abbrev s_Steady_init : Stmt := inClass (top 16) 0
theorem sc_Steady_init : FnScope ["self", "name", "keep", "many", "grace", "slow"] ["self", "name", "keep", "many", "grace", "slow"] (defScope s_Steady_init) := ⟨rfl, rfl, rfl, by decide +kernel, rfl, by decide +kernel, by decide +kernel⟩
abbrev s_Steady_work : Stmt := inClass (top 16) 2
theorem sc_Steady_work : FnScope ["self"] ["self"] (defScope s_Steady_work) := ⟨rfl, rfl, rfl, by decide +kernel, rfl, by decide +kernel, by decide +kernel⟩
abbrev s_Faller_init : Stmt := inClass (top 17) 0
theorem sc_Faller_init : FnScope ["self", "name", "keep", "many", "grace", "slow"] ["self", "name", "keep", "many", "grace", "slow"] (defScope s_Faller_init) := ⟨rfl, rfl, rfl, by decide +kernel, rfl, by decide +kernel, by decide +kernel⟩
abbrev s_Faller_work : Stmt := inClass (top 17) 2
theorem sc_Faller_work : FnScope ["self"] ["self"] (defScope s_Faller_work) := ⟨rfl, rfl, rfl, by decide +kernel, rfl, by decide +kernel, by decide +kernel⟩
abbrev s_Minder_init : Stmt := inClass (top 18) 0
theorem sc_Minder_init : FnScope ["self", "name", "keep", "most", "span"] ["self", "name", "keep", "most", "span"] (defScope s_Minder_init) := ⟨rfl, rfl, rfl, by decide +kernel, rfl, by decide +kernel, by decide +kernel⟩
abbrev s_Minder_way : Stmt := inClass (top 18) 1
theorem sc_Minder_way : FnScope ["self"] ["self"] (defScope s_Minder_way) := ⟨rfl, rfl, rfl, by decide +kernel, rfl, by decide +kernel, by decide +kernel⟩
abbrev s_Minder_words : Stmt := inClass (top 18) 3
theorem sc_Minder_words : FnScope ["self"] ["self"] (defScope s_Minder_words) := ⟨rfl, rfl, rfl, by decide +kernel, rfl, by decide +kernel, by decide +kernel⟩
abbrev s_AllMinder_way : Stmt := inClass (top 19) 0
theorem sc_AllMinder_way : FnScope ["self"] ["self"] (defScope s_AllMinder_way) := ⟨rfl, rfl, rfl, by decide +kernel, rfl, by decide +kernel, by decide +kernel⟩
abbrev s_RestMinder_way : Stmt := inClass (top 20) 0
theorem sc_RestMinder_way : FnScope ["self"] ["self"] (defScope s_RestMinder_way) := ⟨rfl, rfl, rfl, by decide +kernel, rfl, by decide +kernel, by decide +kernel⟩
abbrev s_Tree_init : Stmt := inClass (top 25) 0
theorem sc_Tree_init : FnScope ["self"] ["self"] (defScope s_Tree_init) := ⟨rfl, rfl, rfl, by decide +kernel, rfl, by decide +kernel, by decide +kernel⟩
abbrev s_Tree_add : Stmt := inClass (top 25) 1
theorem sc_Tree_add : FnScope ["self", "shape", "elder", "at"] ["self", "shape", "elder"] (defScope s_Tree_add) := ⟨rfl, rfl, rfl, by decide +kernel, rfl, by decide +kernel, by decide +kernel⟩
abbrev s_Tree_find : Stmt := inClass (top 25) 2
theorem sc_Tree_find : FnScope ["self", "name", "at"] ["self", "name"] (defScope s_Tree_find) := ⟨rfl, rfl, rfl, by decide +kernel, rfl, by decide +kernel, by decide +kernel⟩
abbrev s_Tree_names : Stmt := inClass (top 25) 3
theorem sc_Tree_names : FnScope ["self", "shape"] ["self"] (defScope s_Tree_names) := ⟨rfl, rfl, rfl, by decide +kernel, rfl, by decide +kernel, by decide +kernel⟩
abbrev s_Tree_place : Stmt := inClass (top 25) 4
theorem sc_Tree_place : FnScope ["self", "at"] ["self", "at"] (defScope s_Tree_place) := ⟨rfl, rfl, rfl, by decide +kernel, rfl, by decide +kernel, by decide +kernel⟩
abbrev s_Tree_depth : Stmt := inClass (top 25) 5
theorem sc_Tree_depth : FnScope ["self", "at", "steps"] ["self", "at"] (defScope s_Tree_depth) := ⟨rfl, rfl, rfl, by decide +kernel, rfl, by decide +kernel, by decide +kernel⟩
abbrev s_leaf_by : Stmt := top 26
theorem sc_leaf_by : FnScope ["words", "grace", "slow"] ["words"] (defScope s_leaf_by) := ⟨rfl, rfl, rfl, by decide +kernel, rfl, by decide +kernel, by decide +kernel⟩
abbrev s_minder_by : Stmt := top 27
theorem sc_minder_by : FnScope ["words", "most", "span"] ["words"] (defScope s_minder_by) := ⟨rfl, rfl, rfl, by decide +kernel, rfl, by decide +kernel, by decide +kernel⟩
abbrev s_shape_by : Stmt := top 28
theorem sc_shape_by : FnScope ["words", "shape"] ["words"] (defScope s_shape_by) := ⟨rfl, rfl, rfl, by decide +kernel, rfl, by decide +kernel, by decide +kernel⟩
abbrev s_elder_at : Stmt := top 29
theorem sc_elder_at : FnScope ["tree", "deep", "at"] ["tree", "deep"] (defScope s_elder_at) := ⟨rfl, rfl, rfl, by decide +kernel, rfl, by decide +kernel, by decide +kernel⟩
abbrev s_read : Stmt := top 30
theorem sc_read : FnScope ["text", "tree", "rows", "k", "words", "blanks", "shape", "elder", "deep", "odd", "word"] ["text"] (defScope s_read) := ⟨rfl, rfl, rfl, by decide +kernel, rfl, by decide +kernel, by decide +kernel⟩
abbrev s_written : Stmt := top 31
theorem sc_written : FnScope ["tree", "rows", "at", "shape"] ["tree"] (defScope s_written) := ⟨rfl, rfl, rfl, by decide +kernel, rfl, by decide +kernel, by decide +kernel⟩
abbrev s_law_cell_at : Stmt := top 33
theorem sc_law_cell_at : FnScope ["_law_script", "_law_k"] ["_law_script", "_law_k"] (defScope s_law_cell_at) := ⟨rfl, rfl, rfl, by decide +kernel, rfl, by decide +kernel, by decide +kernel⟩
abbrev s_law_name : Stmt := top 34
theorem sc_law_name : FnScope ["_law_k", "_law_mark", "_law_signs", "_law_two"] ["_law_k", "_law_mark"] (defScope s_law_name) := ⟨rfl, rfl, rfl, by decide +kernel, rfl, by decide +kernel, by decide +kernel⟩
abbrev s_law_minder_words : Stmt := top 35
theorem sc_law_minder_words : FnScope ["_law_cell", "_law_other", "_law_keep", "_law_way", "_law_most"] ["_law_cell", "_law_other"] (defScope s_law_minder_words) := ⟨rfl, rfl, rfl, by decide +kernel, rfl, by decide +kernel, by decide +kernel⟩
abbrev s_law_leaf_words : Stmt := top 36
theorem sc_law_leaf_words : FnScope ["_law_cell", "_law_other", "_law_keep", "_law_work", "_law_numbers", "_law_words"] ["_law_cell", "_law_other"] (defScope s_law_leaf_words) := ⟨rfl, rfl, rfl, by decide +kernel, rfl, by decide +kernel, by decide +kernel⟩
abbrev s_law_tree : Stmt := top 37
theorem sc_law_tree : FnScope ["_law_script", "_law_first", "_law_count", "_law_mark", "_law_depths", "_law_elders", "_law_words", "_law_path", "_law_k", "_law_cell", "_law_other", "_law_names"] ["_law_script", "_law_first", "_law_count", "_law_mark"] (defScope s_law_tree) := ⟨rfl, rfl, rfl, by decide +kernel, rfl, by decide +kernel, by decide +kernel⟩
abbrev s_law_texts : Stmt := top 38
theorem sc_law_texts : FnScope ["_law_found", "_law_due", "_law_k"] ["_law_found", "_law_due"] (defScope s_law_texts) := ⟨rfl, rfl, rfl, by decide +kernel, rfl, by decide +kernel, by decide +kernel⟩
abbrev s_law_row : Stmt := top 39
theorem sc_law_row : FnScope ["_law_depth", "_law_words", "_law_name_here", "_law_cell", "_law_gap", "_law_row_here"] ["_law_depth", "_law_words", "_law_name_here", "_law_cell"] (defScope s_law_row) := ⟨rfl, rfl, rfl, by decide +kernel, rfl, by decide +kernel, by decide +kernel⟩
abbrev s_law : Stmt := top 40
theorem sc_law : FnScope ["_law_script", "_law_count", "_law_mark", "_law_depths", "_law_elders", "_law_words", "_law_names", "_law_rows", "_law_plain", "_law_k", "_law_tree_here", "_law_at", "_law_place", "_law_again", "_law_found"] ["_law_script"] (defScope s_law) := ⟨rfl, rfl, rfl, by decide +kernel, rfl, by decide +kernel, by decide +kernel⟩
end Mn

namespace Mn
open PySem L2
abbrev s_wall : Stmt := top 0
theorem sc_wall : FnScope ["k"] ["k"] (defScope s_wall) := ⟨rfl, rfl, rfl, by decide +kernel, rfl, by decide +kernel, by decide +kernel⟩
abbrev s_BadRow_init : Stmt := inClass (top 4) 0
theorem sc_BadRow_init : FnScope ["self", "row"] ["self", "row"] (defScope s_BadRow_init) := ⟨rfl, rfl, rfl, by decide +kernel, rfl, by decide +kernel, by decide +kernel⟩
abbrev s_Shape_begun_again : Stmt := inClass (top 14) 2
theorem sc_Shape_begun_again : FnScope ["self", "word"] ["self", "word"] (defScope s_Shape_begun_again) := ⟨rfl, rfl, rfl, by decide +kernel, rfl, by decide +kernel, by decide +kernel⟩
abbrev s_Shape_words : Stmt := inClass (top 14) 3
theorem sc_Shape_words : FnScope ["self"] ["self"] (defScope s_Shape_words) := ⟨rfl, rfl, rfl, by decide +kernel, rfl, by decide +kernel, by decide +kernel⟩
abbrev s_Leaf_end_at : Stmt := inClass (top 15) 2
theorem sc_Leaf_end_at : FnScope ["self", "steps"] ["self", "steps"] (defScope s_Leaf_end_at) := ⟨rfl, rfl, rfl, by decide +kernel, rfl, by decide +kernel, by decide +kernel⟩
abbrev s_Steady_end_at : Stmt := inClass (top 16) 1
theorem sc_Steady_end_at : FnScope ["self", "steps"] ["self", "steps"] (defScope s_Steady_end_at) := ⟨rfl, rfl, rfl, by decide +kernel, rfl, by decide +kernel, by decide +kernel⟩
abbrev s_Faller_end_at : Stmt := inClass (top 17) 1
theorem sc_Faller_end_at : FnScope ["self", "steps"] ["self", "steps"] (defScope s_Faller_end_at) := ⟨rfl, rfl, rfl, by decide +kernel, rfl, by decide +kernel, by decide +kernel⟩
abbrev s_Minder_chosen : Stmt := inClass (top 18) 2
theorem sc_Minder_chosen : FnScope ["self", "place", "count", "on", "good"] ["self", "place", "count", "on", "good"] (defScope s_Minder_chosen) := ⟨rfl, rfl, rfl, by decide +kernel, rfl, by decide +kernel, by decide +kernel⟩
abbrev s_AllMinder_chosen : Stmt := inClass (top 19) 1
theorem sc_AllMinder_chosen : FnScope ["self", "place", "count", "on", "good"] ["self", "place", "count", "on", "good"] (defScope s_AllMinder_chosen) := ⟨rfl, rfl, rfl, by decide +kernel, rfl, by decide +kernel, by decide +kernel⟩
abbrev s_RestMinder_chosen : Stmt := inClass (top 20) 1
theorem sc_RestMinder_chosen : FnScope ["self", "place", "count", "on", "good"] ["self", "place", "count", "on", "good"] (defScope s_RestMinder_chosen) := ⟨rfl, rfl, rfl, by decide +kernel, rfl, by decide +kernel, by decide +kernel⟩
end Mn
namespace Mn
open PySem PySem.Spec PyProof.Rows L2
theorem clsF_nil {K : PySem.W.Frag} {C : Addr} : ∀ f ∈ ([] : List Str), NoAttr K C f := fun _ h => absurd h List.not_mem_nil
theorem clsF_cons {K : PySem.W.Frag} {C : Addr} {g : Str} {r : List Str} (a : PySem.W.findIn K (.ref C) g = some none) (b : ∀ f ∈ r, NoAttr K C f) : ∀ f ∈ g :: r, NoAttr K C f := fun f h => by
  rcases List.mem_cons.mp h with e | e
  · subst e
    exact a
  · exact b f e
/-! ### the small head: what is looked at behind the top: each def, and so many Bools -/
theorem fun_of {K : PySem.W.Frag} {x qual : Str} {st : Stmt} {f : Addr} {fd : FuncData} (F : FunD K x qual (defArgs st) (defBody st) (defScope st) [] [] f fd) : Fun K x qual st f fd := by
  obtain ⟨oc, od, dV, kV, doc, pm, an, cdv, ct, osl, rfl, lk, hcd, hD, _⟩ := F.ex
  rcases hD with ⟨_, rfl⟩ | ⟨e, _⟩
  · exact ⟨⟨_, _, _, _, _, _, _, _, _, rfl, lk, hcd⟩, F.kp⟩
  · exact absurd rfl e
def fcB (K : PySem.W.Frag) (C : Addr) (m : Str) (f : Addr) : Bool := match PySem.W.findCls K (.ref C) (.type "type") m with
  | some (.val (.ref a)) => decide (a = f)
  | _ => false
theorem fcB_ok {K : PySem.W.Frag} {C : Addr} {m : Str} {f : Addr} (h : fcB K C m f = true) : PySem.W.findCls K (.ref C) (.type "type") m = some (.val (.ref f)) := by
  unfold fcB at h
  split at h
  · rename_i a e
    rw [e, of_decide_eq_true h]
  · cases h
def fcV (K : PySem.W.Frag) (C : Addr) (m : Str) (f : String) : Bool := match PySem.W.findCls K (.ref C) (.type "type") m with
  | some (.val (.builtin a)) => decide (a = f)
  | _ => false
theorem fcV_ok {K : PySem.W.Frag} {C : Addr} {m : Str} {f : String} (h : fcV K C m f = true) : PySem.W.findCls K (.ref C) (.type "type") m = some (.val (.builtin f)) := by
  unfold fcV at h
  split at h
  · rename_i a e
    rw [e, of_decide_eq_true h]
  · cases h
def oexB (K : PySem.W.Frag) (C : Addr) : Bool := match K.lookup C with
  | some ⟨.type "type", _, .cls ⟨_, _, .ref C' :: bm, _, _, hd, _, _, _, _, del⟩, sl⟩ => (match sl.toList with
    | [_, _, _, _, some (.builtin n), _] => C' == C && n == "ValueError.__new__" && !del && hd && PySem.HandSPX.refsVE bm
    | _ => false)
  | _ => false
theorem oexB_ok {K : PySem.W.Frag} {C : Addr} (q : oexB K C = true) : ∃ nm q N bs bm sn sub ab col dd k0 k1 k2 k3 k5, K.lookup C = some (excClassObj nm q C N bs bm true sn sub ab col dd k0 k1 k2 k3 k5 "ValueError.__new__") ∧ PySem.HandSPX.refsVE bm = true := by
  unfold oexB at q
  split at q
  · rename_i dd nm bs C' bm ns qn hd sn sub ab col del sl ho
    split at q
    · rename_i k0 k1 k2 k3 n k5 hs
      simp only [Bool.and_eq_true, beq_iff_eq, Bool.not_eq_true'] at q
      obtain ⟨⟨⟨⟨rfl, rfl⟩, rfl⟩, rfl⟩, ht⟩ := q
      have hsl : sl = #[k0, k1, k2, k3, some (.builtin "ValueError.__new__"), k5] := by
        obtain ⟨l⟩ := sl
        simp only at hs
        rw [hs]
      subst hsl
      exact ⟨nm, qn, ns, bs, bm, sn, sub, ab, col, dd, k0, k1, k2, k3, k5, ho, ht⟩
    · cases q
  · cases q
abbrev AlM : Type := He.AlD × List Bool
def obsM (fn : List He.DefD) (ex : List (PySem.W.Frag → Bool)) (K : PySem.W.Frag) : AlM := (He.obsD [] fn K, ex.map fun f => f K)
def valM (fn : List He.DefD) (ex : List (PySem.W.Frag → Bool)) : AlM := (He.valD fn, ex.map fun _ => true)
/-- what an object leads to: a namespace's values, a def's code and defaults, a class's namespace -/
def refK (o : Obj) : List Addr := match o.data with
  | .dict es _ => es.toList.flatMap fun e => He.refV e.val
  | .func fd => He.refV fd.code ++ He.refV fd.defaults
  | .cls cd => [cd.ns]
  | _ => []
def nextK (g : Addr → Option Obj) : List Addr → List Addr
  | [] => []
  | a :: r => (match g a with
    | some o => refK o
    | none => []) ++ nextK g r
def frL {α : Type} : List Addr → (List Addr → α) → α
  | [], k => k []
  | a :: r, k => HandSHeadRun.frNat a fun a => frL r fun r => k (a :: r)
theorem frL_eq {α : Type} : ∀ (l : List Addr) (k : List Addr → α), frL l k = k l
  | [], _ => rfl
  | a :: r, k => by
    show HandSHeadRun.frNat a (fun a => frL r fun r => k (a :: r)) = _
    rw [HandSHeadRun.frNat_eq, frL_eq r]
def frF {α : Type} : PySem.W.Frag → (PySem.W.Frag → α) → α
  | [], k => k []
  | (a, o) :: r, k => HandSHeadRun.frNat a fun a => frF r fun r => k ((a, o) :: r)
theorem frF_eq {α : Type} : ∀ (l : PySem.W.Frag) (k : PySem.W.Frag → α), frF l k = k l
  | [], _ => rfl
  | (a, o) :: r, k => by
    show HandSHeadRun.frNat a (fun a => frF r fun r => k ((a, o) :: r)) = _
    rw [HandSHeadRun.frNat_eq, frF_eq r]
def obsMG (fn : List He.DefD) (ex : List (PySem.W.Frag → Bool)) (g : Addr → Option Obj) : AlM :=
  frL (nextK g [mainGlobals]) fun f1 => frL (nextK g f1) fun f2 => frL (nextK g f2) fun f3 => frL (nextK g f3) fun f4 =>
    frF (He.frG g (mainGlobals :: cStatics :: (f1 ++ (f2 ++ (f3 ++ f4))))) (obsM fn ex)
theorem obsMG_of (fn : List He.DefD) (ex : List (PySem.W.Frag → Bool)) (g : Addr → Option Obj) : ∃ as, obsMG fn ex g = obsM fn ex (He.frG g as) := by
  unfold obsMG
  rw [frL_eq, frL_eq, frL_eq, frL_eq, frF_eq]
  exact ⟨_, rfl⟩
def hookM (fn : List He.DefD) (ex : List (PySem.W.Frag → Bool)) : PySem.W.Hook where
  α := AlM
  obs := fun s => obsMG fn ex s.heap.get?
  val := fun _ => valM fn ex
  says := fun _ h => ∃ K : PySem.W.Frag, K.In h ∧ obsM fn ex K = valM fn ex
  of := fun _ s e => by
    obtain ⟨as, q⟩ := obsMG_of fn ex s.heap.get?
    exact ⟨_, He.frG_in, q.symm.trans e⟩
  keeps := fun _ _ _ ⟨K, hK, c⟩ k => ⟨K, PySem.W.Frag.In.keeps hK k, c⟩
theorem obsMG_eq {fn : List He.DefD} {ex : List (PySem.W.Frag → Bool)} {g : Addr → Option Obj} {s : Shared} (h : ∀ a, g a = s.heap.get? a) : obsMG fn ex g = (hookM fn ex).obs s := by
  have e : g = s.heap.get? := funext h
  rw [e] <;> rfl
theorem saysM_d {fn : List He.DefD} {ex : List (PySem.W.Frag → Bool)} {K : PySem.W.Frag} (c : obsM fn ex K = valM fn ex) : He.SaysD [] fn K := congrArg (fun z : AlM => z.1) c
theorem saysM_x {fn : List He.DefD} {ex : List (PySem.W.Frag → Bool)} {K : PySem.W.Frag} (c : obsM fn ex K = valM fn ex) (i : Nat) {f : PySem.W.Frag → Bool} (h : ex[i]? = some f) : f K = true := by
  have e : ex.map (fun f => f K) = ex.map fun _ => true := congrArg (fun z : AlM => z.2) c
  have e2 : (ex.map (fun f => f K))[i]? = (ex.map fun _ => true)[i]? := by rw [e]
  rw [List.getElem?_map, List.getElem?_map, h] at e2
  exact Option.some.inj e2
def loose : List Str := (["_wall", "MinderError", "NoNumber", "BadRow", "TooMany", "NoTop", "NoName", "SIGNS", "fit_name", "number_in", "Shape", "Leaf", "Steady", "Faller", "Minder", "AllMinder", "RestMinder", "BOUND", "DEEPEST", "KEEPS", "Tree", "leaf_by", "minder_by", "shape_by", "elder_at"] : List Str) ++ (["read", "written", "_law_cell_at", "_law_name", "_law_minder_words", "_law_leaf_words", "_law_tree", "_law_texts", "_law_row"] : List Str)
def d_fit_name : He.DefD := ⟨("fit_name", none), "fit_name", "fit_name", defArgs s_fit_name, defBody s_fit_name, defScope s_fit_name, [], []⟩
def d_number_in : He.DefD := ⟨("number_in", none), "number_in", "number_in", defArgs s_number_in, defBody s_number_in, defScope s_number_in, [.int 1000000], []⟩
def d_Shape_init : He.DefD := ⟨("Shape", some "__init__"), "__init__", "Shape.__init__", defArgs s_Shape_init, defBody s_Shape_init, defScope s_Shape_init, [], []⟩
def d_Shape_leaf : He.DefD := ⟨("Shape", some "leaf"), "leaf", "Shape.leaf", defArgs s_Shape_leaf, defBody s_Shape_leaf, defScope s_Shape_leaf, [], []⟩
def d_Leaf_init : He.DefD := ⟨("Leaf", some "__init__"), "__init__", "Leaf.__init__", defArgs s_Leaf_init, defBody s_Leaf_init, defScope s_Leaf_init, [.int 0, .int 0], []⟩
def d_Leaf_leaf : He.DefD := ⟨("Leaf", some "leaf"), "leaf", "Leaf.leaf", defArgs s_Leaf_leaf, defBody s_Leaf_leaf, defScope s_Leaf_leaf, [], []⟩
def d_Leaf_work : He.DefD := ⟨("Leaf", some "work"), "work", "Leaf.work", defArgs s_Leaf_work, defBody s_Leaf_work, defScope s_Leaf_work, [], []⟩
def d_Leaf_words : He.DefD := ⟨("Leaf", some "words"), "words", "Leaf.words", defArgs s_Leaf_words, defBody s_Leaf_words, defScope s_Leaf_words, [], []⟩
def d_Steady_init : He.DefD := ⟨("Steady", some "__init__"), "__init__", "Steady.__init__", defArgs s_Steady_init, defBody s_Steady_init, defScope s_Steady_init, [.int 0, .int 0], []⟩
def d_Steady_work : He.DefD := ⟨("Steady", some "work"), "work", "Steady.work", defArgs s_Steady_work, defBody s_Steady_work, defScope s_Steady_work, [], []⟩
def d_Faller_init : He.DefD := ⟨("Faller", some "__init__"), "__init__", "Faller.__init__", defArgs s_Faller_init, defBody s_Faller_init, defScope s_Faller_init, [.int 0, .int 0], []⟩
def d_Faller_work : He.DefD := ⟨("Faller", some "work"), "work", "Faller.work", defArgs s_Faller_work, defBody s_Faller_work, defScope s_Faller_work, [], []⟩
def d_Minder_init : He.DefD := ⟨("Minder", some "__init__"), "__init__", "Minder.__init__", defArgs s_Minder_init, defBody s_Minder_init, defScope s_Minder_init, [.int 1, .int 1], []⟩
def d_Minder_way : He.DefD := ⟨("Minder", some "way"), "way", "Minder.way", defArgs s_Minder_way, defBody s_Minder_way, defScope s_Minder_way, [], []⟩
def d_Minder_words : He.DefD := ⟨("Minder", some "words"), "words", "Minder.words", defArgs s_Minder_words, defBody s_Minder_words, defScope s_Minder_words, [], []⟩
def d_AllMinder_way : He.DefD := ⟨("AllMinder", some "way"), "way", "AllMinder.way", defArgs s_AllMinder_way, defBody s_AllMinder_way, defScope s_AllMinder_way, [], []⟩
def d_RestMinder_way : He.DefD := ⟨("RestMinder", some "way"), "way", "RestMinder.way", defArgs s_RestMinder_way, defBody s_RestMinder_way, defScope s_RestMinder_way, [], []⟩
def d_Tree_init : He.DefD := ⟨("Tree", some "__init__"), "__init__", "Tree.__init__", defArgs s_Tree_init, defBody s_Tree_init, defScope s_Tree_init, [], []⟩
def d_Tree_add : He.DefD := ⟨("Tree", some "add"), "add", "Tree.add", defArgs s_Tree_add, defBody s_Tree_add, defScope s_Tree_add, [], []⟩
def d_Tree_find : He.DefD := ⟨("Tree", some "find"), "find", "Tree.find", defArgs s_Tree_find, defBody s_Tree_find, defScope s_Tree_find, [], []⟩
def d_Tree_names : He.DefD := ⟨("Tree", some "names"), "names", "Tree.names", defArgs s_Tree_names, defBody s_Tree_names, defScope s_Tree_names, [], []⟩
def d_Tree_depth : He.DefD := ⟨("Tree", some "depth"), "depth", "Tree.depth", defArgs s_Tree_depth, defBody s_Tree_depth, defScope s_Tree_depth, [], []⟩
def d_leaf_by : He.DefD := ⟨("leaf_by", none), "leaf_by", "leaf_by", defArgs s_leaf_by, defBody s_leaf_by, defScope s_leaf_by, [], []⟩
def d_minder_by : He.DefD := ⟨("minder_by", none), "minder_by", "minder_by", defArgs s_minder_by, defBody s_minder_by, defScope s_minder_by, [], []⟩
def d_shape_by : He.DefD := ⟨("shape_by", none), "shape_by", "shape_by", defArgs s_shape_by, defBody s_shape_by, defScope s_shape_by, [], []⟩
def d_elder_at : He.DefD := ⟨("elder_at", none), "elder_at", "elder_at", defArgs s_elder_at, defBody s_elder_at, defScope s_elder_at, [], []⟩
def d_read : He.DefD := ⟨("read", none), "read", "read", defArgs s_read, defBody s_read, defScope s_read, [], []⟩
def d_written : He.DefD := ⟨("written", none), "written", "written", defArgs s_written, defBody s_written, defScope s_written, [], []⟩
def d_law_cell_at : He.DefD := ⟨("_law_cell_at", none), "_law_cell_at", "_law_cell_at", defArgs s_law_cell_at, defBody s_law_cell_at, defScope s_law_cell_at, [], []⟩
def d_law_name : He.DefD := ⟨("_law_name", none), "_law_name", "_law_name", defArgs s_law_name, defBody s_law_name, defScope s_law_name, [], []⟩
def d_law_minder_words : He.DefD := ⟨("_law_minder_words", none), "_law_minder_words", "_law_minder_words", defArgs s_law_minder_words, defBody s_law_minder_words, defScope s_law_minder_words, [], []⟩
def d_law_leaf_words : He.DefD := ⟨("_law_leaf_words", none), "_law_leaf_words", "_law_leaf_words", defArgs s_law_leaf_words, defBody s_law_leaf_words, defScope s_law_leaf_words, [], []⟩
def d_law_tree : He.DefD := ⟨("_law_tree", none), "_law_tree", "_law_tree", defArgs s_law_tree, defBody s_law_tree, defScope s_law_tree, [], []⟩
def d_law_texts : He.DefD := ⟨("_law_texts", none), "_law_texts", "_law_texts", defArgs s_law_texts, defBody s_law_texts, defScope s_law_texts, [], []⟩
def d_law_row : He.DefD := ⟨("_law_row", none), "_law_row", "_law_row", defArgs s_law_row, defBody s_law_row, defScope s_law_row, [], []⟩
def d_law : He.DefD := ⟨("law", none), "law", "law", defArgs s_law, defBody s_law, defScope s_law, [], []⟩
def fnL0 : List He.DefD := [d_fit_name, d_number_in, d_Shape_init, d_Shape_leaf, d_Leaf_init, d_Leaf_leaf, d_Leaf_work, d_Leaf_words, d_Steady_init, d_Steady_work, d_Faller_init, d_Faller_work, d_Minder_init, d_Minder_way, d_Minder_words, d_AllMinder_way, d_RestMinder_way, d_Tree_init, d_Tree_add, d_Tree_find, d_Tree_names, d_Tree_depth, d_leaf_by, d_minder_by, d_shape_by]
def fnL1 : List He.DefD := [d_elder_at, d_read, d_written, d_law_cell_at, d_law_name, d_law_minder_words, d_law_leaf_words, d_law_tree, d_law_texts, d_law_row, d_law]
def fnL : List He.DefD := fnL0 ++ (fnL1)
def x0 (K : PySem.W.Frag) : Bool := decide (PySem.W.nsIn K mainGlobals "len" = some none)
def x1 (K : PySem.W.Frag) : Bool := decide (PySem.W.nsIn K mainGlobals "int" = some none)
def x2 (K : PySem.W.Frag) : Bool := decide (PySem.W.nsIn K mainGlobals "bool" = some none)
def x3 (K : PySem.W.Frag) : Bool := decide (PySem.W.nsIn K mainGlobals "list" = some none)
def x4 (K : PySem.W.Frag) : Bool := decide (PySem.W.nsIn K mainGlobals "str" = some none)
def x5 (K : PySem.W.Frag) : Bool := decide (PySem.W.nsIn K mainGlobals "divmod" = some none)
def x6 (K : PySem.W.Frag) : Bool := decide (PySem.W.nsIn K mainGlobals "range" = some none)
def x7 (K : PySem.W.Frag) : Bool := decide (PySem.W.nsIn K mainGlobals "isinstance" = some none)
def x8 (K : PySem.W.Frag) : Bool := decide (PySem.W.nsIn K mainGlobals "ValueError" = some none)
def x9 (K : PySem.W.Frag) : Bool := decide (PySem.W.nsIn K mainGlobals "KeyError" = some none)
def x10 (K : PySem.W.Frag) : Bool := decide (PySem.W.nsIn K mainGlobals "Shape" = some (some (.ref (He.ga K "Shape"))))
def x11 (K : PySem.W.Frag) : Bool := decide (PySem.W.plainGet K (He.ga K "Shape") Str.empty = true)
def x12 (K : PySem.W.Frag) : Bool := decide (PySem.W.hasDictIn K (He.ga K "Shape") = true)
def x13 (K : PySem.W.Frag) : Bool := decide (PySem.W.plainOver K (He.ga K "Shape") = true)
def x14 (K : PySem.W.Frag) : Bool := decide (PySem.W.findIn K (.ref (He.ga K "Shape")) "__setattr__" = some (some (.builtin "object.__setattr__")))
def x15 (K : PySem.W.Frag) : Bool := decide (PySem.W.nsIn K mainGlobals "Leaf" = some (some (.ref (He.ga K "Leaf"))))
def x16 (K : PySem.W.Frag) : Bool := decide (PySem.W.plainGet K (He.ga K "Leaf") Str.empty = true)
def x17 (K : PySem.W.Frag) : Bool := decide (PySem.W.hasDictIn K (He.ga K "Leaf") = true)
def x18 (K : PySem.W.Frag) : Bool := decide (PySem.W.plainOver K (He.ga K "Leaf") = true)
def x19 (K : PySem.W.Frag) : Bool := decide (PySem.W.findIn K (.ref (He.ga K "Leaf")) "__setattr__" = some (some (.builtin "object.__setattr__")))
def x20 (K : PySem.W.Frag) : Bool := decide (PySem.W.findIn K (.ref (He.ga K "Leaf")) "name" = some none)
def x21 (K : PySem.W.Frag) : Bool := decide (PySem.W.findIn K (.ref (He.ga K "Leaf")) "keep" = some none)
def x22 (K : PySem.W.Frag) : Bool := decide (PySem.W.findIn K (.ref (He.ga K "Leaf")) "grace" = some none)
def x23 (K : PySem.W.Frag) : Bool := decide (PySem.W.findIn K (.ref (He.ga K "Leaf")) "slow" = some none)
def x24 (K : PySem.W.Frag) : Bool := decide (PySem.W.makesIn K (He.ga K "Leaf") = true)
def x25 (K : PySem.W.Frag) : Bool := decide (PySem.W.keepIn K (.ref (He.ga K "Leaf")) = true)
def x26 (K : PySem.W.Frag) : Bool := decide (PySem.W.nsIn K mainGlobals "Steady" = some (some (.ref (He.ga K "Steady"))))
def x27 (K : PySem.W.Frag) : Bool := decide (PySem.W.plainGet K (He.ga K "Steady") Str.empty = true)
def x28 (K : PySem.W.Frag) : Bool := decide (PySem.W.hasDictIn K (He.ga K "Steady") = true)
def x29 (K : PySem.W.Frag) : Bool := decide (PySem.W.plainOver K (He.ga K "Steady") = true)
def x30 (K : PySem.W.Frag) : Bool := decide (PySem.W.findIn K (.ref (He.ga K "Steady")) "__setattr__" = some (some (.builtin "object.__setattr__")))
def x31 (K : PySem.W.Frag) : Bool := decide (PySem.W.findIn K (.ref (He.ga K "Steady")) "name" = some none)
def x32 (K : PySem.W.Frag) : Bool := decide (PySem.W.findIn K (.ref (He.ga K "Steady")) "keep" = some none)
def x33 (K : PySem.W.Frag) : Bool := decide (PySem.W.findIn K (.ref (He.ga K "Steady")) "grace" = some none)
def x34 (K : PySem.W.Frag) : Bool := decide (PySem.W.findIn K (.ref (He.ga K "Steady")) "slow" = some none)
def x35 (K : PySem.W.Frag) : Bool := decide (PySem.W.findIn K (.ref (He.ga K "Steady")) "many" = some none)
def x36 (K : PySem.W.Frag) : Bool := decide (PySem.W.makesIn K (He.ga K "Steady") = true)
def x37 (K : PySem.W.Frag) : Bool := decide (PySem.W.keepIn K (.ref (He.ga K "Steady")) = true)
def x38 (K : PySem.W.Frag) : Bool := decide (PySem.W.nsIn K mainGlobals "Faller" = some (some (.ref (He.ga K "Faller"))))
def x39 (K : PySem.W.Frag) : Bool := decide (PySem.W.plainGet K (He.ga K "Faller") Str.empty = true)
def x40 (K : PySem.W.Frag) : Bool := decide (PySem.W.hasDictIn K (He.ga K "Faller") = true)
def x41 (K : PySem.W.Frag) : Bool := decide (PySem.W.plainOver K (He.ga K "Faller") = true)
def x42 (K : PySem.W.Frag) : Bool := decide (PySem.W.findIn K (.ref (He.ga K "Faller")) "__setattr__" = some (some (.builtin "object.__setattr__")))
def x43 (K : PySem.W.Frag) : Bool := decide (PySem.W.findIn K (.ref (He.ga K "Faller")) "name" = some none)
def x44 (K : PySem.W.Frag) : Bool := decide (PySem.W.findIn K (.ref (He.ga K "Faller")) "keep" = some none)
def x45 (K : PySem.W.Frag) : Bool := decide (PySem.W.findIn K (.ref (He.ga K "Faller")) "grace" = some none)
def x46 (K : PySem.W.Frag) : Bool := decide (PySem.W.findIn K (.ref (He.ga K "Faller")) "slow" = some none)
def x47 (K : PySem.W.Frag) : Bool := decide (PySem.W.findIn K (.ref (He.ga K "Faller")) "many" = some none)
def x48 (K : PySem.W.Frag) : Bool := decide (PySem.W.makesIn K (He.ga K "Faller") = true)
def x49 (K : PySem.W.Frag) : Bool := decide (PySem.W.keepIn K (.ref (He.ga K "Faller")) = true)
def x50 (K : PySem.W.Frag) : Bool := decide (PySem.W.nsIn K mainGlobals "Minder" = some (some (.ref (He.ga K "Minder"))))
def x51 (K : PySem.W.Frag) : Bool := decide (PySem.W.plainGet K (He.ga K "Minder") Str.empty = true)
def x52 (K : PySem.W.Frag) : Bool := decide (PySem.W.hasDictIn K (He.ga K "Minder") = true)
def x53 (K : PySem.W.Frag) : Bool := decide (PySem.W.plainOver K (He.ga K "Minder") = true)
def x54 (K : PySem.W.Frag) : Bool := decide (PySem.W.findIn K (.ref (He.ga K "Minder")) "__setattr__" = some (some (.builtin "object.__setattr__")))
def x55 (K : PySem.W.Frag) : Bool := decide (PySem.W.findIn K (.ref (He.ga K "Minder")) "name" = some none)
def x56 (K : PySem.W.Frag) : Bool := decide (PySem.W.findIn K (.ref (He.ga K "Minder")) "keep" = some none)
def x57 (K : PySem.W.Frag) : Bool := decide (PySem.W.findIn K (.ref (He.ga K "Minder")) "most" = some none)
def x58 (K : PySem.W.Frag) : Bool := decide (PySem.W.findIn K (.ref (He.ga K "Minder")) "span" = some none)
def x59 (K : PySem.W.Frag) : Bool := decide (PySem.W.makesIn K (He.ga K "Minder") = true)
def x60 (K : PySem.W.Frag) : Bool := decide (PySem.W.keepIn K (.ref (He.ga K "Minder")) = true)
def x61 (K : PySem.W.Frag) : Bool := decide (PySem.W.nsIn K mainGlobals "AllMinder" = some (some (.ref (He.ga K "AllMinder"))))
def x62 (K : PySem.W.Frag) : Bool := decide (PySem.W.plainGet K (He.ga K "AllMinder") Str.empty = true)
def x63 (K : PySem.W.Frag) : Bool := decide (PySem.W.hasDictIn K (He.ga K "AllMinder") = true)
def x64 (K : PySem.W.Frag) : Bool := decide (PySem.W.plainOver K (He.ga K "AllMinder") = true)
def x65 (K : PySem.W.Frag) : Bool := decide (PySem.W.findIn K (.ref (He.ga K "AllMinder")) "__setattr__" = some (some (.builtin "object.__setattr__")))
def x66 (K : PySem.W.Frag) : Bool := decide (PySem.W.findIn K (.ref (He.ga K "AllMinder")) "name" = some none)
def x67 (K : PySem.W.Frag) : Bool := decide (PySem.W.findIn K (.ref (He.ga K "AllMinder")) "keep" = some none)
def x68 (K : PySem.W.Frag) : Bool := decide (PySem.W.findIn K (.ref (He.ga K "AllMinder")) "most" = some none)
def x69 (K : PySem.W.Frag) : Bool := decide (PySem.W.findIn K (.ref (He.ga K "AllMinder")) "span" = some none)
def x70 (K : PySem.W.Frag) : Bool := decide (PySem.W.makesIn K (He.ga K "AllMinder") = true)
def x71 (K : PySem.W.Frag) : Bool := decide (PySem.W.keepIn K (.ref (He.ga K "AllMinder")) = true)
def x72 (K : PySem.W.Frag) : Bool := decide (PySem.W.nsIn K mainGlobals "RestMinder" = some (some (.ref (He.ga K "RestMinder"))))
def x73 (K : PySem.W.Frag) : Bool := decide (PySem.W.plainGet K (He.ga K "RestMinder") Str.empty = true)
def x74 (K : PySem.W.Frag) : Bool := decide (PySem.W.hasDictIn K (He.ga K "RestMinder") = true)
def x75 (K : PySem.W.Frag) : Bool := decide (PySem.W.plainOver K (He.ga K "RestMinder") = true)
def x76 (K : PySem.W.Frag) : Bool := decide (PySem.W.findIn K (.ref (He.ga K "RestMinder")) "__setattr__" = some (some (.builtin "object.__setattr__")))
def x77 (K : PySem.W.Frag) : Bool := decide (PySem.W.findIn K (.ref (He.ga K "RestMinder")) "name" = some none)
def x78 (K : PySem.W.Frag) : Bool := decide (PySem.W.findIn K (.ref (He.ga K "RestMinder")) "keep" = some none)
def x79 (K : PySem.W.Frag) : Bool := decide (PySem.W.findIn K (.ref (He.ga K "RestMinder")) "most" = some none)
def x80 (K : PySem.W.Frag) : Bool := decide (PySem.W.findIn K (.ref (He.ga K "RestMinder")) "span" = some none)
def x81 (K : PySem.W.Frag) : Bool := decide (PySem.W.makesIn K (He.ga K "RestMinder") = true)
def x82 (K : PySem.W.Frag) : Bool := decide (PySem.W.keepIn K (.ref (He.ga K "RestMinder")) = true)
def x83 (K : PySem.W.Frag) : Bool := decide (PySem.W.nsIn K mainGlobals "Tree" = some (some (.ref (He.ga K "Tree"))))
def x84 (K : PySem.W.Frag) : Bool := decide (PySem.W.plainGet K (He.ga K "Tree") Str.empty = true)
def x85 (K : PySem.W.Frag) : Bool := decide (PySem.W.hasDictIn K (He.ga K "Tree") = true)
def x86 (K : PySem.W.Frag) : Bool := decide (PySem.W.plainOver K (He.ga K "Tree") = true)
def x87 (K : PySem.W.Frag) : Bool := decide (PySem.W.findIn K (.ref (He.ga K "Tree")) "__setattr__" = some (some (.builtin "object.__setattr__")))
def x88 (K : PySem.W.Frag) : Bool := decide (PySem.W.findIn K (.ref (He.ga K "Tree")) "shapes" = some none)
def x89 (K : PySem.W.Frag) : Bool := decide (PySem.W.findIn K (.ref (He.ga K "Tree")) "elders" = some none)
def x90 (K : PySem.W.Frag) : Bool := decide (PySem.W.findIn K (.ref (He.ga K "Tree")) "young" = some none)
def x91 (K : PySem.W.Frag) : Bool := decide (PySem.W.findIn K (.ref (He.ga K "Tree")) "known" = some none)
def x92 (K : PySem.W.Frag) : Bool := decide (PySem.W.makesIn K (He.ga K "Tree") = true)
def x93 (K : PySem.W.Frag) : Bool := decide (PySem.W.keepIn K (.ref (He.ga K "Tree")) = true)
def x94 (K : PySem.W.Frag) : Bool := (He.Fa.str "SIGNS" "abcdefghijklmnopqrstuvwxyz0123456789").ok K
def x95 (K : PySem.W.Frag) : Bool := (He.Fa.int "BOUND" 64).ok K
def x96 (K : PySem.W.Frag) : Bool := (He.Fa.int "DEEPEST" 8).ok K
def x97 (K : PySem.W.Frag) : Bool := decide (PySem.W.nsIn K mainGlobals "KEEPS" = some (some (.ref (He.ga K "KEEPS"))))
def x98 (K : PySem.W.Frag) : Bool := He.tupB K "KEEPS" [.str "always", .str "fallen", .str "never"]
def x99 (K : PySem.W.Frag) : Bool := decide (PySem.W.nsIn K mainGlobals "fit_name" = some (some (.ref (He.fAd K ("fit_name", none)))))
def x100 (K : PySem.W.Frag) : Bool := decide (PySem.W.nsIn K mainGlobals "number_in" = some (some (.ref (He.fAd K ("number_in", none)))))
def x101 (K : PySem.W.Frag) : Bool := decide (PySem.W.findIn K (.ref (He.ga K "Shape")) "__init__" = some (some (.ref (He.fAd K ("Shape", some "__init__")))))
def x102 (K : PySem.W.Frag) : Bool := decide (PySem.W.isFn K (.ref (He.fAd K ("Shape", some "__init__"))) = true)
def x103 (K : PySem.W.Frag) : Bool := decide (PySem.W.findIn K (.ref (He.ga K "Shape")) "leaf" = some (some (.ref (He.fAd K ("Shape", some "leaf")))))
def x104 (K : PySem.W.Frag) : Bool := decide (PySem.W.isFn K (.ref (He.fAd K ("Shape", some "leaf"))) = true)
def x105 (K : PySem.W.Frag) : Bool := decide (PySem.W.findIn K (.ref (He.ga K "Leaf")) "__init__" = some (some (.ref (He.fAd K ("Leaf", some "__init__")))))
def x106 (K : PySem.W.Frag) : Bool := decide (PySem.W.isFn K (.ref (He.fAd K ("Leaf", some "__init__"))) = true)
def x107 (K : PySem.W.Frag) : Bool := decide (PySem.W.findIn K (.ref (He.ga K "Leaf")) "leaf" = some (some (.ref (He.fAd K ("Leaf", some "leaf")))))
def x108 (K : PySem.W.Frag) : Bool := decide (PySem.W.isFn K (.ref (He.fAd K ("Leaf", some "leaf"))) = true)
def x109 (K : PySem.W.Frag) : Bool := decide (PySem.W.findIn K (.ref (He.ga K "Leaf")) "work" = some (some (.ref (He.fAd K ("Leaf", some "work")))))
def x110 (K : PySem.W.Frag) : Bool := decide (PySem.W.isFn K (.ref (He.fAd K ("Leaf", some "work"))) = true)
def x111 (K : PySem.W.Frag) : Bool := decide (PySem.W.findIn K (.ref (He.ga K "Leaf")) "words" = some (some (.ref (He.fAd K ("Leaf", some "words")))))
def x112 (K : PySem.W.Frag) : Bool := decide (PySem.W.isFn K (.ref (He.fAd K ("Leaf", some "words"))) = true)
def x113 (K : PySem.W.Frag) : Bool := decide (PySem.W.findIn K (.ref (He.ga K "Steady")) "__init__" = some (some (.ref (He.fAd K ("Steady", some "__init__")))))
def x114 (K : PySem.W.Frag) : Bool := decide (PySem.W.isFn K (.ref (He.fAd K ("Steady", some "__init__"))) = true)
def x115 (K : PySem.W.Frag) : Bool := decide (PySem.W.findIn K (.ref (He.ga K "Steady")) "work" = some (some (.ref (He.fAd K ("Steady", some "work")))))
def x116 (K : PySem.W.Frag) : Bool := decide (PySem.W.isFn K (.ref (He.fAd K ("Steady", some "work"))) = true)
def x117 (K : PySem.W.Frag) : Bool := decide (PySem.W.findIn K (.ref (He.ga K "Faller")) "__init__" = some (some (.ref (He.fAd K ("Faller", some "__init__")))))
def x118 (K : PySem.W.Frag) : Bool := decide (PySem.W.isFn K (.ref (He.fAd K ("Faller", some "__init__"))) = true)
def x119 (K : PySem.W.Frag) : Bool := decide (PySem.W.findIn K (.ref (He.ga K "Faller")) "work" = some (some (.ref (He.fAd K ("Faller", some "work")))))
def x120 (K : PySem.W.Frag) : Bool := decide (PySem.W.isFn K (.ref (He.fAd K ("Faller", some "work"))) = true)
def x121 (K : PySem.W.Frag) : Bool := decide (PySem.W.findIn K (.ref (He.ga K "Minder")) "__init__" = some (some (.ref (He.fAd K ("Minder", some "__init__")))))
def x122 (K : PySem.W.Frag) : Bool := decide (PySem.W.isFn K (.ref (He.fAd K ("Minder", some "__init__"))) = true)
def x123 (K : PySem.W.Frag) : Bool := decide (PySem.W.findIn K (.ref (He.ga K "Minder")) "way" = some (some (.ref (He.fAd K ("Minder", some "way")))))
def x124 (K : PySem.W.Frag) : Bool := decide (PySem.W.isFn K (.ref (He.fAd K ("Minder", some "way"))) = true)
def x125 (K : PySem.W.Frag) : Bool := decide (PySem.W.findIn K (.ref (He.ga K "Minder")) "words" = some (some (.ref (He.fAd K ("Minder", some "words")))))
def x126 (K : PySem.W.Frag) : Bool := decide (PySem.W.isFn K (.ref (He.fAd K ("Minder", some "words"))) = true)
def x127 (K : PySem.W.Frag) : Bool := decide (PySem.W.findIn K (.ref (He.ga K "AllMinder")) "way" = some (some (.ref (He.fAd K ("AllMinder", some "way")))))
def x128 (K : PySem.W.Frag) : Bool := decide (PySem.W.isFn K (.ref (He.fAd K ("AllMinder", some "way"))) = true)
def x129 (K : PySem.W.Frag) : Bool := decide (PySem.W.findIn K (.ref (He.ga K "RestMinder")) "way" = some (some (.ref (He.fAd K ("RestMinder", some "way")))))
def x130 (K : PySem.W.Frag) : Bool := decide (PySem.W.isFn K (.ref (He.fAd K ("RestMinder", some "way"))) = true)
def x131 (K : PySem.W.Frag) : Bool := decide (PySem.W.findIn K (.ref (He.ga K "Tree")) "__init__" = some (some (.ref (He.fAd K ("Tree", some "__init__")))))
def x132 (K : PySem.W.Frag) : Bool := decide (PySem.W.isFn K (.ref (He.fAd K ("Tree", some "__init__"))) = true)
def x133 (K : PySem.W.Frag) : Bool := decide (PySem.W.findIn K (.ref (He.ga K "Tree")) "add" = some (some (.ref (He.fAd K ("Tree", some "add")))))
def x134 (K : PySem.W.Frag) : Bool := decide (PySem.W.isFn K (.ref (He.fAd K ("Tree", some "add"))) = true)
def x135 (K : PySem.W.Frag) : Bool := decide (PySem.W.findIn K (.ref (He.ga K "Tree")) "find" = some (some (.ref (He.fAd K ("Tree", some "find")))))
def x136 (K : PySem.W.Frag) : Bool := decide (PySem.W.isFn K (.ref (He.fAd K ("Tree", some "find"))) = true)
def x137 (K : PySem.W.Frag) : Bool := decide (PySem.W.findIn K (.ref (He.ga K "Tree")) "names" = some (some (.ref (He.fAd K ("Tree", some "names")))))
def x138 (K : PySem.W.Frag) : Bool := decide (PySem.W.isFn K (.ref (He.fAd K ("Tree", some "names"))) = true)
def x139 (K : PySem.W.Frag) : Bool := decide (PySem.W.findIn K (.ref (He.ga K "Tree")) "depth" = some (some (.ref (He.fAd K ("Tree", some "depth")))))
def x140 (K : PySem.W.Frag) : Bool := decide (PySem.W.isFn K (.ref (He.fAd K ("Tree", some "depth"))) = true)
def x141 (K : PySem.W.Frag) : Bool := decide (PySem.W.nsIn K mainGlobals "leaf_by" = some (some (.ref (He.fAd K ("leaf_by", none)))))
def x142 (K : PySem.W.Frag) : Bool := decide (PySem.W.nsIn K mainGlobals "minder_by" = some (some (.ref (He.fAd K ("minder_by", none)))))
def x143 (K : PySem.W.Frag) : Bool := decide (PySem.W.nsIn K mainGlobals "shape_by" = some (some (.ref (He.fAd K ("shape_by", none)))))
def x144 (K : PySem.W.Frag) : Bool := decide (PySem.W.nsIn K mainGlobals "elder_at" = some (some (.ref (He.fAd K ("elder_at", none)))))
def x145 (K : PySem.W.Frag) : Bool := decide (PySem.W.nsIn K mainGlobals "read" = some (some (.ref (He.fAd K ("read", none)))))
def x146 (K : PySem.W.Frag) : Bool := decide (PySem.W.nsIn K mainGlobals "written" = some (some (.ref (He.fAd K ("written", none)))))
def x147 (K : PySem.W.Frag) : Bool := decide (PySem.W.nsIn K mainGlobals "_law_cell_at" = some (some (.ref (He.fAd K ("_law_cell_at", none)))))
def x148 (K : PySem.W.Frag) : Bool := decide (PySem.W.nsIn K mainGlobals "_law_name" = some (some (.ref (He.fAd K ("_law_name", none)))))
def x149 (K : PySem.W.Frag) : Bool := decide (PySem.W.nsIn K mainGlobals "_law_minder_words" = some (some (.ref (He.fAd K ("_law_minder_words", none)))))
def x150 (K : PySem.W.Frag) : Bool := decide (PySem.W.nsIn K mainGlobals "_law_leaf_words" = some (some (.ref (He.fAd K ("_law_leaf_words", none)))))
def x151 (K : PySem.W.Frag) : Bool := decide (PySem.W.nsIn K mainGlobals "_law_tree" = some (some (.ref (He.fAd K ("_law_tree", none)))))
def x152 (K : PySem.W.Frag) : Bool := decide (PySem.W.nsIn K mainGlobals "_law_texts" = some (some (.ref (He.fAd K ("_law_texts", none)))))
def x153 (K : PySem.W.Frag) : Bool := decide (PySem.W.nsIn K mainGlobals "_law_row" = some (some (.ref (He.fAd K ("_law_row", none)))))
def x154 (K : PySem.W.Frag) : Bool := decide (PySem.W.nsIn K mainGlobals "law" = some (some (.ref (He.fAd K ("law", none)))))
def x155 (K : PySem.W.Frag) : Bool := decide (PySem.W.readsIn K (He.ga K "Shape") (.type "type") = true)
def x156 (K : PySem.W.Frag) : Bool := decide (PySem.W.specialIn K (.ref (He.ga K "Shape")) "__getattribute__" = some (some (.builtin "type.__getattribute__")))
def x157 (K : PySem.W.Frag) : Bool := fcB K (He.ga K "Shape") "__init__" (He.fAd K ("Shape", some "__init__"))
def x158 (K : PySem.W.Frag) : Bool := decide (PySem.W.readsIn K (He.ga K "Leaf") (.type "type") = true)
def x159 (K : PySem.W.Frag) : Bool := decide (PySem.W.specialIn K (.ref (He.ga K "Leaf")) "__getattribute__" = some (some (.builtin "type.__getattribute__")))
def x160 (K : PySem.W.Frag) : Bool := fcB K (He.ga K "Leaf") "__init__" (He.fAd K ("Leaf", some "__init__"))
def x161 (K : PySem.W.Frag) : Bool := decide (PySem.W.findIn K (.ref (He.ga K "AllMinder")) "__init__" = some (some (.ref (He.fAd K ("Minder", some "__init__")))))
def x162 (K : PySem.W.Frag) : Bool := decide (PySem.W.findIn K (.ref (He.ga K "RestMinder")) "__init__" = some (some (.ref (He.fAd K ("Minder", some "__init__")))))
def x163 (K : PySem.W.Frag) : Bool := decide (PySem.W.findIn K (.ref (He.ga K "Steady")) "leaf" = some (some (.ref (He.fAd K ("Leaf", some "leaf")))))
def x164 (K : PySem.W.Frag) : Bool := decide (PySem.W.findIn K (.ref (He.ga K "Faller")) "leaf" = some (some (.ref (He.fAd K ("Leaf", some "leaf")))))
def x165 (K : PySem.W.Frag) : Bool := decide (PySem.W.findIn K (.ref (He.ga K "Minder")) "leaf" = some (some (.ref (He.fAd K ("Shape", some "leaf")))))
def x166 (K : PySem.W.Frag) : Bool := decide (PySem.W.findIn K (.ref (He.ga K "AllMinder")) "leaf" = some (some (.ref (He.fAd K ("Shape", some "leaf")))))
def x167 (K : PySem.W.Frag) : Bool := decide (PySem.W.findIn K (.ref (He.ga K "RestMinder")) "leaf" = some (some (.ref (He.fAd K ("Shape", some "leaf")))))
def x168 (K : PySem.W.Frag) : Bool := decide (PySem.W.findIn K (.ref (He.ga K "Steady")) "words" = some (some (.ref (He.fAd K ("Leaf", some "words")))))
def x169 (K : PySem.W.Frag) : Bool := decide (PySem.W.findIn K (.ref (He.ga K "Faller")) "words" = some (some (.ref (He.fAd K ("Leaf", some "words")))))
def x170 (K : PySem.W.Frag) : Bool := decide (PySem.W.findIn K (.ref (He.ga K "AllMinder")) "words" = some (some (.ref (He.fAd K ("Minder", some "words")))))
def x171 (K : PySem.W.Frag) : Bool := decide (PySem.W.findIn K (.ref (He.ga K "RestMinder")) "words" = some (some (.ref (He.fAd K ("Minder", some "words")))))
def x172 (K : PySem.W.Frag) : Bool := decide (PySem.W.nsIn K mainGlobals "NoName" = some (some (.ref (He.ga K "NoName"))))
def x173 (K : PySem.W.Frag) : Bool := decide (PySem.W.excIn K (He.ga K "NoName") [.type "ValueError", .type "Exception", .type "BaseException", .type "object"] "ValueError.__new__" = true)
def x174 (K : PySem.W.Frag) : Bool := decide (PySem.W.keepIn K (.ref (He.ga K "NoName")) = true)
def x175 (K : PySem.W.Frag) : Bool := decide (PySem.W.subIn K (.ref (He.ga K "NoName")) (.type "BaseException") = some true)
def x176 (K : PySem.W.Frag) : Bool := decide (PySem.W.typeIn K (.ref (He.ga K "NoName")) = some (.type "type"))
def x177 (K : PySem.W.Frag) : Bool := decide (PySem.W.nsIn K mainGlobals "NoNumber" = some (some (.ref (He.ga K "NoNumber"))))
def x178 (K : PySem.W.Frag) : Bool := decide (PySem.W.excIn K (He.ga K "NoNumber") [.type "ValueError", .type "Exception", .type "BaseException", .type "object"] "ValueError.__new__" = true)
def x179 (K : PySem.W.Frag) : Bool := decide (PySem.W.keepIn K (.ref (He.ga K "NoNumber")) = true)
def x180 (K : PySem.W.Frag) : Bool := decide (PySem.W.subIn K (.ref (He.ga K "NoNumber")) (.type "BaseException") = some true)
def x181 (K : PySem.W.Frag) : Bool := decide (PySem.W.typeIn K (.ref (He.ga K "NoNumber")) = some (.type "type"))
def x182 (K : PySem.W.Frag) : Bool := decide (PySem.W.exmOne K (.ref (He.ga K "NoName")) (.ref (He.ga K "NoName")) = some true)
def exL0 : List (PySem.W.Frag → Bool) := [x0, x1, x2, x3, x4, x5, x6, x7, x8, x9, x10, x11, x12, x13, x14, x15, x16, x17, x18, x19, x20, x21, x22, x23, x24]
def exL1 : List (PySem.W.Frag → Bool) := [x25, x26, x27, x28, x29, x30, x31, x32, x33, x34, x35, x36, x37, x38, x39, x40, x41, x42, x43, x44, x45, x46, x47, x48, x49]
def exL2 : List (PySem.W.Frag → Bool) := [x50, x51, x52, x53, x54, x55, x56, x57, x58, x59, x60, x61, x62, x63, x64, x65, x66, x67, x68, x69, x70, x71, x72, x73, x74]
def exL3 : List (PySem.W.Frag → Bool) := [x75, x76, x77, x78, x79, x80, x81, x82, x83, x84, x85, x86, x87, x88, x89, x90, x91, x92, x93, x94, x95, x96, x97, x98, x99]
def exL4 : List (PySem.W.Frag → Bool) := [x100, x101, x102, x103, x104, x105, x106, x107, x108, x109, x110, x111, x112, x113, x114, x115, x116, x117, x118, x119, x120, x121, x122, x123, x124]
def exL5 : List (PySem.W.Frag → Bool) := [x125, x126, x127, x128, x129, x130, x131, x132, x133, x134, x135, x136, x137, x138, x139, x140, x141, x142, x143, x144, x145, x146, x147, x148, x149]
def exL6 : List (PySem.W.Frag → Bool) := [x150, x151, x152, x153, x154, x155, x156, x157, x158, x159, x160, x161, x162, x163, x164, x165, x166, x167, x168, x169, x170, x171, x172, x173, x174]
def exL7 : List (PySem.W.Frag → Bool) := [x175, x176, x177, x178, x179, x180, x181, x182]
def exL : List (PySem.W.Frag → Bool) := exL0 ++ (exL1 ++ (exL2 ++ (exL3 ++ (exL4 ++ (exL5 ++ (exL6 ++ (exL7)))))))
abbrev RR0 : PySem.W.OpenRow := PySem.W.OpenLaw.row PySem.Challenge.rw_minders_k05_trees_read_and_written
abbrev hkM : PySem.W.Hook := hookM fnL exL
def obM (s : PySem.W.SharedT) : AlM := obsMG fnL exL (HandSHeadRun.getT s)
theorem obM_eq (s : PySem.W.SharedT) : obM s = hkM.obs s.abs := obsMG_eq (HandSHeadRun.getT_eq s)
theorem runM (w : World) : HandSHeadRun.RunEq RR0 (PySem.W.view RR0.prog [40]) hkM obM 9000 loose w := by
  intro os
  kernel_rfl
end Mn

set_option Elab.async false
set_option linter.all false
set_option maxRecDepth 100000
set_option maxHeartbeats 4000000
/-! Mn: rules of my own over HandS: calls whose promise the reading picks. -/
namespace Mn
open PySem PySem.Spec PyProof.Rows L2

/-- a def of the module, by its name, its promise, its defaults -/
structure Cal (P : Program) (w : World) (K : PySem.W.Frag) (mg : Str → Option Value) (base : Heap) (CX : CXT) (x : Str) (k : Nat) (ps : List Str) (dvs : List V) (sp : Sp) : Prop where
  ex : ∃ (f : Addr) (fd : FuncData) (ds : List Value), FnOk P w K mg base CX k f fd ps sp ∧ mg x = some (.ref f) ∧ PySem.W.keepIn K (.ref f) = true ∧ Binds K fd ps ds ∧ Vals dvs ds
/-- a method of the class at C -/
structure Mth (P : Program) (w : World) (K : PySem.W.Frag) (mg : Str → Option Value) (base : Heap) (CX : CXT) (C : Addr) (m : Str) (k : Nat) (ps : List Str) (dvs : List V) (sp : Sp) : Prop where
  ex : ∃ (f : Addr) (fd : FuncData) (ds : List Value), FnOk P w K mg base CX k f fd ps sp ∧ Meth K C m f ∧ Binds K fd ps ds ∧ Vals dvs ds
/-- a class that is made by its name -/
structure Mak (P : Program) (w : World) (K : PySem.W.Frag) (mg : Str → Option Value) (base : Heap) (CX : CXT) (x : Str) (C : Addr) (k : Nat) (ps : List Str) (dvs : List V) (sp : Sp) : Prop where
  ex : ∃ (f : Addr) (fd : FuncData) (ds : List Value), FnOk P w K mg base CX k f fd ps sp ∧ mg x = some (.ref C) ∧ Mk K C f ∧ Binds K fd ps ds ∧ Vals dvs ds
/-- the context stands over these -/
structure Sx (X : Cx) (P : Program) (w : World) (K : PySem.W.Frag) (mg : Str → Option Value) (base : Heap) : Prop where
  p : X.prog = P
  w : X.w = w
  k : X.K = K
  m : X.mg = mg
  b : X.base = base
section
variable {X : Cx} {P : Program} {w : World} {K : PySem.W.Frag} {mg : Str → Option Value} {base : Heap} {CX : CXT} {k : Nat} {E : XK} {x m : Str} {p pos apos : Pos} {e o : Expr} {es : List Expr} {ta : TE} {t : TA}
def tCA (P : Program) (w : World) (K : PySem.W.Frag) (mg : Str → Option Value) (base : Heap) (CX : CXT) (x : Str) (k : Nat) (E : XK) (t : TA) : TE := fun σ H Q => ∃ j ps dvs sp, Cal P w K mg base CX x j ps dvs sp ∧ j ≤ k ∧ t σ H fun vs H1 => sp (vs ++ dvs) H1 Q E
/-- f(e, ..), nothing raised -/
theorem pe_ca (hX : Sx X P w K mg base) (hr : Room k X.A) (hg : Gl X x) (ha : PA X (e :: es) t) (hdb : (x == ("__debug__" : Str)) = false := by decide) (he : starEach (e :: es) X.env = (false, eval e X.env) :: starEach es X.env := by rfl) (hpl : (backTo pos (starEach es X.env)).any (·.1) = false := by rfl) :
    PE X (.Call (.Name x p) (e :: es) [] pos) (tCA P w K mg base CX0 x k E0 t) := by
  obtain ⟨rfl, rfl, rfl, rfl, rfl⟩ := hX
  refine ⟨fun pins s σ H Q I h => ?_⟩
  obtain ⟨j, ps, dvs, sp, C, hj, h⟩ := h
  obtain ⟨f, fd, ds, F, hm, hk, hb, hd⟩ := C.ex
  exact (pe_call F (hr.mono hj) hg hm hk hb hd pass0 ha hdb he hpl).run pins s σ H Q I h
/-- f(), nothing raised -/
theorem pe_ca0 (hX : Sx X P w K mg base) (hr : Room k X.A) (hg : Gl X x) (hdb : (x == ("__debug__" : Str)) = false := by decide) : PE X (.Call (.Name x p) [] [] pos) (tCA P w K mg base CX0 x k E0 tNil) := by
  obtain ⟨rfl, rfl, rfl, rfl, rfl⟩ := hX
  refine ⟨fun pins s σ H Q I h => ?_⟩
  obtain ⟨j, ps, dvs, sp, C, hj, h⟩ := h
  obtain ⟨f, fd, ds, F, hm, hk, hb, hd⟩ := C.ex
  exact (pe_call0 F (hr.mono hj) hg hm hk hb hd pass0 hdb).run pins s σ H Q I h
def tMkA (P : Program) (w : World) (K : PySem.W.Frag) (mg : Str → Option Value) (base : Heap) (CX : CXT) (x : Str) (k : Nat) (E : XK) (t : TA) : TE := fun σ H Q => ∃ C j ps dvs sp, Mak P w K mg base CX x C j ps dvs sp ∧ j + 1 ≤ k ∧ tMake C sp dvs E t σ H Q
theorem pe_mka (hX : Sx X P w K mg base) (hr : Room k X.A) (hg : Gl X x) (ha : PA X (e :: es) t) (hdb : (x == ("__debug__" : Str)) = false := by decide) (he : starEach (e :: es) X.env = (false, eval e X.env) :: starEach es X.env := by rfl) (hpl : (backTo pos (starEach es X.env)).any (·.1) = false := by rfl) :
    PE X (.Call (.Name x p) (e :: es) [] pos) (tMkA P w K mg base CX0 x k E0 t) := by
  obtain ⟨rfl, rfl, rfl, rfl, rfl⟩ := hX
  refine ⟨fun pins s σ H Q I h => ?_⟩
  obtain ⟨C, j, ps, dvs, sp, M, hj, h⟩ := h
  obtain ⟨f, fd, ds, F, hm, hk, hb, hd⟩ := M.ex
  exact (pe_make hk F (hr.mono hj) hg hm hb hd pass0 ha hdb he hpl).run pins s σ H Q I h
theorem pe_mka0 (hX : Sx X P w K mg base) (hr : Room k X.A) (hg : Gl X x) (hdb : (x == ("__debug__" : Str)) = false := by decide) : PE X (.Call (.Name x p) [] [] pos) (tMkA P w K mg base CX0 x k E0 tNil) := by
  obtain ⟨rfl, rfl, rfl, rfl, rfl⟩ := hX
  refine ⟨fun pins s σ H Q I h => ?_⟩
  obtain ⟨C, j, ps, dvs, sp, M, hj, h⟩ := h
  obtain ⟨f, fd, ds, F, hm, hk, hb, hd⟩ := M.ex
  exact (pe_make0 hk F (hr.mono hj) hg hm hb hd pass0 hdb).run pins s σ H Q I h
def tMA (P : Program) (w : World) (K : PySem.W.Frag) (mg : Str → Option Value) (base : Heap) (CX : CXT) (m : Str) (k : Nat) (E : XK) (ta : TE) (t : TA) : TE := fun σ H Q => ta σ H fun xv H1 => ∃ a C dx fs j ps dvs sp, xv = .ref a ∧ H1 a = some (.ins C dx fs) ∧ Cls K C ∧ fs.lookup m = none ∧ Mth P w K mg base CX C m j ps dvs sp ∧ j ≤ k ∧
  t σ H1 fun vs H2 => sp (xv :: (vs ++ dvs)) H2 Q E
/-- o.m(e, ..), o of any own class -/
theorem pe_maX {pl : Sem Bool} (hX : Sx X P w K mg base) (hr : Room k X.A) (hx : Passes CX X E) (he : PE X o ta) (ha : PA X (e :: es) t)
    (hst : starEach (e :: es) X.env = (false, eval e X.env) :: starEach es X.env := by rfl) (hpl : (backTo pos (starEach es X.env)).any (·.1) = false := by rfl)
    (ht : eval (.Call (.Attribute o m apos) (e :: es) [] pos) X.env = (do
      let ov ← eval o X.env
      standAt apos.atName
      let (f, first) ← holding [ov] (getMethod ov m pl)
      callWith pos f first (backTo pos (starEach (e :: es) X.env)) (backToKw pos (keywordEach [] X.env))) := by rfl) :
    PE X (.Call (.Attribute o m apos) (e :: es) [] pos) (tMA P w K mg base CX m k E ta t) := by
  obtain ⟨rfl, rfl, rfl, rfl, rfl⟩ := hX
  refine ⟨fun pins s σ H Q I h => ?_⟩
  refine PySem.W.methodCall_KW (pl := pl) (thn (he.run pins s σ H _ I h) fun u s1 ⟨xv, H1, I1, rx, a, C, dx, fs, j, ps, dvs, sp, ex, ea, c, l, M, hj, q⟩ => ?_) ht
  subst ex
  obtain rfl : u = Value.ref a := rx
  obtain ⟨f, fd, ds, F, hm, hb, hd⟩ := M.ex
  refine getmeth_ok I1 ea c hm l ?_
  refine PySem.W.callWith_K (first := [.ref a]) (h₀ := X.base) I.ok.mod.kin hm.kp (thn (ha.run pos pins s1 σ H1 _ I1 q) fun us s2 ⟨vs, H2, I2, r, q2⟩ => ⟨I2.kIn, ?_⟩) hst hpl
  exact run_fn (us := .ref a :: us) (vs := .ref a :: vs) F (hr.mono hj) hb hd hx I2 (.cons rfl r) q2
theorem pe_maX0 {pl : Sem Bool} (hX : Sx X P w K mg base) (hr : Room k X.A) (hx : Passes CX X E) (he : PE X o ta)
    (ht : eval (.Call (.Attribute o m apos) [] [] pos) X.env = (do
      let ov ← eval o X.env
      standAt apos.atName
      let (f, first) ← holding [ov] (getMethod ov m pl)
      callWith pos f first (backTo pos (starEach [] X.env)) (backToKw pos (keywordEach [] X.env))) := by rfl) :
    PE X (.Call (.Attribute o m apos) [] [] pos) (tMA P w K mg base CX m k E ta tNil) := by
  obtain ⟨rfl, rfl, rfl, rfl, rfl⟩ := hX
  refine ⟨fun pins s σ H Q I h => ?_⟩
  refine PySem.W.methodCall_KW (pl := pl) (thn (he.run pins s σ H _ I h) fun u s1 ⟨xv, H1, I1, rx, a, C, dx, fs, j, ps, dvs, sp, ex, ea, c, l, M, hj, q⟩ => ?_) ht
  subst ex
  obtain rfl : u = Value.ref a := rx
  obtain ⟨f, fd, ds, F, hm, hb, hd⟩ := M.ex
  refine getmeth_ok I1 ea c hm l ?_
  exact PySem.W.callWith_K0 (first := [.ref a]) I1.kIn hm.kp (run_fn (us := [.ref a]) (vs := [.ref a]) F (hr.mono hj) hb hd hx I1 (.cons rfl .nil) q)
theorem pe_ma {pl : Sem Bool} (hX : Sx X P w K mg base) (hr : Room k X.A) (he : PE X o ta) (ha : PA X (e :: es) t)
    (hst : starEach (e :: es) X.env = (false, eval e X.env) :: starEach es X.env := by rfl) (hpl : (backTo pos (starEach es X.env)).any (·.1) = false := by rfl)
    (ht : eval (.Call (.Attribute o m apos) (e :: es) [] pos) X.env = (do
      let ov ← eval o X.env
      standAt apos.atName
      let (f, first) ← holding [ov] (getMethod ov m pl)
      callWith pos f first (backTo pos (starEach (e :: es) X.env)) (backToKw pos (keywordEach [] X.env))) := by rfl) :
    PE X (.Call (.Attribute o m apos) (e :: es) [] pos) (tMA P w K mg base CX0 m k E0 ta t) := pe_maX (pl := pl) hX hr pass0 he ha hst hpl ht
theorem pe_ma0 {pl : Sem Bool} (hX : Sx X P w K mg base) (hr : Room k X.A) (he : PE X o ta)
    (ht : eval (.Call (.Attribute o m apos) [] [] pos) X.env = (do
      let ov ← eval o X.env
      standAt apos.atName
      let (f, first) ← holding [ov] (getMethod ov m pl)
      callWith pos f first (backTo pos (starEach [] X.env)) (backToKw pos (keywordEach [] X.env))) := by rfl) :
    PE X (.Call (.Attribute o m apos) [] [] pos) (tMA P w K mg base CX0 m k E0 ta tNil) := pe_maX0 (pl := pl) hX hr pass0 he ht
/-- a name of the module as a value -/
def tGv (mg : Str → Option Value) (x : Str) : TE := fun _ H Q => ∃ v u, mg x = some u ∧ RelV v u ∧ Q v H
theorem pe_gv (hm : X.mg = mg) (hg : Gl X x) (hd : (x == ("__debug__" : Str)) = false := by decide) : PE X (.Name x p) (tGv mg x) := by
  subst hm
  refine ⟨fun pins s σ H Q I h => ?_⟩
  obtain ⟨v, u, hm, r, q⟩ := h
  exact ld_glob I hg hm ⟨v, H, I, r, q⟩ hd
end
/-! ### == of a list with [] -/
def rEqE : R2 := fun x y H Q => ∃ a b xs, x = .ref a ∧ y = .ref b ∧ H a = some (.lst xs) ∧ H b = some (.lst []) ∧ Q (.bl xs.isEmpty) H
def rNeE : R2 := fun x y H Q => ∃ a b xs, x = .ref a ∧ y = .ref b ∧ H a = some (.lst xs) ∧ H b = some (.lst []) ∧ Q (.bl (!xs.isEmpty)) H
/-! ### readings, step by step -/
section
variable {σ σ' : L2.St} {H H1 : Hp} {Q : VK} {D : Ends} {v x y z : V} {a b : Bool} {i j : Int} {n : Nat} {ta tb tc te : TE} {t u : TT} {s1 s2 : TS} {ar : TA} {r r' : R2} {g : TG} {Qb : Bool → Hp → Prop} {Qa : List V → Hp → Prop} {Qs : L2.St → Hp → Prop} {K : PySem.W.Frag}
theorem w_var (h : σ[n]? = some (some v)) (q : Q v H) : tVar n σ H Q := ⟨v, h, q⟩
theorem w_c (q : Q v H) : tC v σ H Q := q
theorem w_op (q : ta σ H fun x H1 => tb σ H1 fun y H2 => r x y H2 Q) : tOp r ta tb σ H Q := q
theorem w_un {r : V → Hp → VK → Prop} (q : ta σ H fun x H1 => r x H1 Q) : tUn r ta σ H Q := q
theorem w_I0 {f : Int → Int → V} (q : Q (f i j) H) : rI0 f (.int i) (.int j) H Q := ⟨_, _, rfl, rfl, q⟩
theorem w_I {C : Int → Int → Prop} {f : Int → Int → V} (c : C i j) (q : Q (f i j) H) : rI C f (.int i) (.int j) H Q := ⟨_, _, rfl, rfl, c, q⟩
theorem w_U {f : Int → V} (q : Q (f i) H) : rU f (.int i) H Q := ⟨_, rfl, q⟩
theorem w_eq (h : scal x y = true) (q : Q (.bl (decide (x = y))) H) : rEq x y H Q := ⟨h, q⟩
theorem w_ne (h : scal x y = true) (q : Q (.bl (!decide (x = y))) H) : rNe x y H Q := ⟨h, q⟩
theorem w_test (q : te σ H fun x H' => ∃ k, x = .bl k ∧ Qb k H') : tTest te σ H Qb := q
theorem w_B (q : te σ H fun x H' => ∃ k, x = .bl k ∧ Qb k H') : tB te σ H Qb := q
theorem w_bl {R : Bool → Prop} (q : R a) : ∃ k, V.bl a = .bl k ∧ R k := ⟨_, rfl, q⟩
theorem w_and (q : t σ H fun c H1 => if c = true then u σ H1 Qb else Qb false H1) : tAnd t u σ H Qb := q
theorem w_or (q : t σ H fun c H1 => if c = true then Qb true H1 else u σ H1 Qb) : tOr t u σ H Qb := q
theorem w_not (q : t σ H fun c H1 => Qb (!c) H1) : tNot t σ H Qb := q
theorem w_andV (q : ta σ H fun x H1 => ∃ c, x = .bl c ∧ if c = true then tb σ H1 Q else Q (.bl false) H1) : tAndV ta tb σ H Q := q
theorem w_orV (q : ta σ H fun x H1 => ∃ c, x = .bl c ∧ if c = true then Q (.bl true) H1 else tb σ H1 Q) : tOrV ta tb σ H Q := q
theorem w_notV (q : ta σ H fun x H1 => ∃ c, x = .bl c ∧ Q (.bl (!c)) H1) : tNotV ta σ H Q := q
theorem w_chain (q : ta σ H fun x H1 => tb σ H1 fun y H2 => r x y H2 fun z H3 => ∃ k, z = .bl k ∧ (if k = true then tc σ H3 fun z H4 => r' y z H4 Q else Q (.bl false) H3)) : tChain r r' ta tb tc σ H Q := q
theorem w_seq (q : s1 { D with nx := s2 D } σ H) : tSeq s1 s2 D σ H := q
theorem w_next (q : D.nx σ H) : tNext D σ H := q
theorem w_ret (q : te σ H D.rt) : tRet te D σ H := q
theorem w_retN (q : D.rt .non H) : tRetN D σ H := q
theorem w_if (q : t σ H fun b H1 => if b = true then s1 D σ H1 else s2 D σ H1) : tIfS t s1 s2 D σ H := q
theorem w_drop (q : te σ H fun _ H1 => D.nx σ H1) : tDrop te D σ H := q
theorem w_asg (q : te σ H fun x H1 => g x σ H1 D.nx) : tAsg te g D σ H := q
theorem w_name (q : Qs (σ.set n (some v)) H) : gName n v σ H Qs := q
theorem w_name2 (h : σ.set n (some v) = σ') (q : Qs σ' H) : gName n v σ H Qs := by subst h; exact q
theorem w_nil (q : Qa [] H) : tNil σ H Qa := q
theorem w_cons (q : te σ H fun x H1 => ar σ H1 fun xs H2 => Qa (x :: xs) H2) : tCons te ar σ H Qa := q
theorem w_cb {r : List V → Hp → VK → Prop} (q : ar σ H fun vs H1 => r vs H1 Q) : tCB r ar σ H Q := q
theorem w_cont (q : D.ct σ H) : tCont D σ H := q
end
end Mn

namespace Mn
open PySem PySem.Spec PyProof.Rows L2
/-! ### named readings of what has none -/
section
variable {X : Cx} {K : PySem.W.Frag} {σ : L2.St} {H H1 H2 : Hp} {Q : VK} {D : Ends} {v x y z : V} {a b p q : Addr} {i j : Int} {n : Nat} {xs ys zs : List V} {s s' : Str} {Qs : L2.St → Hp → Prop} {Qt : Hp → Prop} {f : Str} {fs : List (Str × V)} {C dx : Addr} {ta tv te to ti : TE} {ar : TA}
theorem same_new (h : H p = none) (o : HO) : Same H (upd H p o) := fun b u q => by rw [upd_ne (ne_of_none q h)]; exact q
theorem same_upd {o : HO} (s : Same H H1) (h : H1 p = none) : Same H (upd H1 p o) := s.trans (same_new h o)
/-- an object that was not there at the start may change -/
theorem same_mut {o : HO} (s : Same H H1) (h : H p = none) : Same H (upd H1 p o) := fun b u q => by rw [upd_ne (ne_of_none q h)]; exact s b u q
theorem sqT_same (e : Same H H1) (h : SqT K H a xs) : SqT K H1 a xs := by
  rcases h with (h | ⟨o, h⟩) | h
  · exact .inl (.inl (e _ _ h))
  · exact .inl (.inr ⟨o, e _ _ h⟩)
  · exact .inr h
theorem rd_same {u : HO} (e : Same H H1) (h : Rd H a u) : Rd H1 a u := by
  rcases h with h | ⟨o, h⟩
  · exact .inl (e _ _ h)
  · exact .inr ⟨o, e _ _ h⟩
def cLenL (K : PySem.W.Frag) : List V → Hp → VK → Prop := fun xs H Q => ∃ p ys, xs = [.ref p] ∧ SqL K H p ys ∧ Q (.int ys.length) H
theorem call_lenL : CallR X (.builtin "len") (cLenL X.K) := fun pins s σ H xs us Q I r h => by
  obtain ⟨p, ys, e, hq, q⟩ := h
  exact call_len_seq pins s σ H xs us Q I r ⟨p, ys, e, .inl hq, q⟩
theorem w_lenL (h : SqL K H p ys) (q : Q (.int ys.length) H) : cLenL K [.ref p] H Q := ⟨_, _, rfl, h, q⟩
def cLenT (K : PySem.W.Frag) : List V → Hp → VK → Prop := fun xs H Q => ∃ p ys, xs = [.ref p] ∧ SqT K H p ys ∧ Q (.int ys.length) H
theorem call_lenT : CallR X (.builtin "len") (cLenT X.K) := fun pins s σ H xs us Q I r h => by
  obtain ⟨p, ys, e, hq, q⟩ := h
  exact call_len_seq pins s σ H xs us Q I r ⟨p, ys, e, .inr hq, q⟩
theorem w_lenT (h : SqT K H p ys) (q : Q (.int ys.length) H) : cLenT K [.ref p] H Q := ⟨_, _, rfl, h, q⟩
def cLenS : List V → Hp → VK → Prop := fun xs H Q => ∃ z, xs = [.str z] ∧ z.length ≤ sizeLine ∧ Q (.int z.length) H
theorem call_lenS : CallR X (.builtin "len") cLenS := call_len_str
theorem w_lenS (h : s.length ≤ sizeLine) (q : Q (.int s.length) H) : cLenS [.str s] H Q := ⟨_, rfl, h, q⟩
def cStrI : List V → Hp → VK → Prop := fun xs H Q => ∃ i, xs = [.int i] ∧ i.natAbs.log2 < 1920 ∧ Q (.str (toString i)) H
theorem call_strI : CallR X (.type "str") cStrI := call_str_int
theorem w_strI (h : i.natAbs.log2 < 1920) (q : Q (.str (toString i)) H) : cStrI [.int i] H Q := ⟨_, rfl, h, q⟩
def cIntS : List V → Hp → VK → Prop := fun xs H Q => ∃ a n, xs = [.str a] ∧ PySem.intText? a = some n ∧ a.length ≤ 640 ∧ Q (.int n) H
theorem call_intS : CallR X (.type "int") cIntS := call_int_str
theorem w_intS (h : PySem.intText? s = some i) (l : s.length ≤ 640) (q : Q (.int i) H) : cIntS [.str s] H Q := ⟨_, _, rfl, h, l, q⟩
def cIntB : List V → Hp → VK → Prop := fun xs H Q => ∃ k, xs = [.bl k] ∧ Q (.int (if k then 1 else 0)) H
theorem call_intB : CallR X (.type "int") cIntB := fun pins s σ H xs us Q I r h => call_int1 pins s σ H xs us Q I r (.inr h)
theorem w_intB {k : Bool} (q : Q (.int (if k then 1 else 0)) H) : cIntB [.bl k] H Q := ⟨_, rfl, q⟩
def cListL (K : PySem.W.Frag) : List V → Hp → VK → Prop := fun xs H Q => ∃ p ys, xs = [.ref p] ∧ SqL K H p ys ∧ ∀ l, H l = none → Q (.ref l) (upd H l (.lst ys))
theorem call_listL : CallR X (.type "list") (cListL X.K) := fun pins s σ H xs us Q I r h => by
  obtain ⟨p, ys, e, hq, q⟩ := h
  exact call_list_of pins s σ H xs us Q I r ⟨p, ys, e, .inl hq, q⟩
theorem w_listL (h : SqL K H p ys) (q : ∀ l, H l = none → Q (.ref l) (upd H l (.lst ys))) : cListL K [.ref p] H Q := ⟨_, _, rfl, h, q⟩
def cDivmod : List V → Hp → VK → Prop := fun xs H Q => ∃ i j, xs = [.int i, .int j] ∧ CDiv i j ∧ ∀ p, H p = none → Q (.ref p) (upd H p (.tup [.int (i / j), .int (i % j)]))
theorem call_divmodI : CallR X (.builtin "divmod") cDivmod := call_divmod
theorem w_divmod (c : CDiv i j) (q : ∀ p, H p = none → Q (.ref p) (upd H p (.tup [.int (i / j), .int (i % j)]))) : cDivmod [.int i, .int j] H Q := ⟨_, _, rfl, c, q⟩
def cMax : List V → Hp → VK → Prop := fun xs H Q => ∃ i j, xs = [.int i, .int j] ∧ Q (.int (if j > i then j else i)) H
theorem call_maxI (hc : X.calm = true) : CallR X (.builtin "max") cMax := call_max2 hc
theorem w_max (q : Q (.int (max i j)) H) : cMax [.int i, .int j] H Q := ⟨_, _, rfl, by
  have e : (if j > i then j else i) = max i j := by rw [Int.max_def]; split <;> split <;> omega
  rw [e]; exact q⟩
def cMin : List V → Hp → VK → Prop := fun xs H Q => ∃ i j, xs = [.int i, .int j] ∧ Q (.int (if j < i then j else i)) H
theorem call_minI (hc : X.calm = true) : CallR X (.builtin "min") cMin := call_min2 hc
theorem w_min (q : Q (.int (min i j)) H) : cMin [.int i, .int j] H Q := ⟨_, _, rfl, by
  have e : (if j < i then j else i) = min i j := by rw [Int.min_def]; split <;> split <;> omega
  rw [e]; exact q⟩
def rAddS : R2 := fun x y H Q => ∃ i j, x = .str i ∧ y = .str j ∧ i.length + j.length ≤ sizeLine ∧ Q (.str (i ++ j)) H
theorem op_addS : OpR X (binaryOp .Add) rAddS := op_add_str
theorem w_addS (h : s.length + s'.length ≤ sizeLine) (q : Q (.str (s ++ s')) H) : rAddS (.str s) (.str s') H Q := ⟨_, _, rfl, rfl, h, q⟩
def rInS : R2 := fun x y H Q => ∃ i j, x = .str i ∧ y = .str j ∧ Q (.bl (!(Builtin.Str.occurrences j i 0 j.length 1).isEmpty)) H
theorem op_inS : OpR X (compareOp .In) rInS := op_in_str
theorem w_inS (q : Q (.bl (!(Builtin.Str.occurrences s' s 0 s'.length 1).isEmpty)) H) : rInS (.str s) (.str s') H Q := ⟨_, _, rfl, rfl, q⟩
def rNinS : R2 := fun x y H Q => ∃ i j, x = .str i ∧ y = .str j ∧ Q (.bl (!(!(Builtin.Str.occurrences j i 0 j.length 1).isEmpty))) H
theorem op_ninS : OpR X (compareOp .NotIn) rNinS := op_notIn_str
theorem w_ninS (q : Q (.bl (!(!(Builtin.Str.occurrences s' s 0 s'.length 1).isEmpty))) H) : rNinS (.str s) (.str s') H Q := ⟨_, _, rfl, rfl, q⟩
def rIsN : R2 := fun x y H Q => y = .non ∧ Q (.bl (decide (x = .non))) H
theorem op_isNn : OpR X (compareOp .Is) rIsN := op_isN
theorem w_isN (q : Q (.bl (decide (x = .non))) H) : rIsN x .non H Q := ⟨rfl, q⟩
def rNotN : R2 := fun x y H Q => y = .non ∧ Q (.bl (!decide (x = .non))) H
theorem op_notNn : OpR X (compareOp .IsNot) rNotN := op_notN
theorem w_notN (q : Q (.bl (!decide (x = .non))) H) : rNotN x .non H Q := ⟨rfl, q⟩
theorem w_ixL (h : SqL K H p xs) (e : atI xs i = some v) (q : Q v H) : rIxL K (.ref p) (.int i) H Q := ⟨_, _, _, _, rfl, rfl, h, e, q⟩
theorem w_ixT (h : SqT K H p xs) (e : atI xs i = some v) (q : Q v H) : rIxT K (.ref p) (.int i) H Q := ⟨_, _, _, _, rfl, rfl, h, e, q⟩
theorem w_ixS {c : Nat} (l : s.length ≤ sizeLine) (e : atI s.cps.toList i = some c) (q : Q (.str ⟨#[c]⟩) H) : rIxS (.str s) (.int i) H Q := ⟨_, _, _, rfl, rfl, l, e, q⟩
theorem w_app (h : H p = some (.lst xs)) (l : xs.length < sizeLine) (q : Q .non (upd H p (.lst (xs ++ [y])))) : rAppend (.ref p) [y] H Q := ⟨_, _, _, rfl, rfl, h, l, q⟩
theorem w_cat (h : H p = some (.lst xs)) (h' : H a = some (.lst ys)) (l : xs.length + ys.length ≤ sizeLine) (q : ∀ r, H r = none → Q (.ref r) (upd H r (.lst (xs ++ ys)))) : rCat (.ref p) (.ref a) H Q := ⟨_, _, _, _, rfl, rfl, h, h', l, q⟩
theorem w_bm {T : String} {r : V → List V → Hp → VK → Prop} (q : to σ H fun x H1 => tyV K T x H1 ∧ ar σ H1 fun xs H2 => r x xs H2 Q) : tBM K T r to ar σ H Q := q
theorem w_bm0 {T : String} {r : V → List V → Hp → VK → Prop} (q : to σ H fun x H1 => tyV K T x H1 ∧ r x [] H1 Q) : tBM0 K T r to σ H Q := q
theorem w_tyL {P : Prop} (h : SqL K H p xs) (q : P) : tyV K "list" (.ref p) H ∧ P := ⟨.inl ⟨rfl, _, h⟩, q⟩
theorem w_tyS {P : Prop} (q : P) : tyV K "str" (.str s) H ∧ P := ⟨rfl, q⟩
theorem w_tyI {P : Prop} (q : P) : tyV K "int" (.int i) H ∧ P := ⟨rfl, q⟩
theorem w_lst (q : ar σ H fun xs H1 => xs.length ≤ sizeLine ∧ ∀ p, H1 p = none → Q (.ref p) (upd H1 p (.lst xs))) : tLst ar σ H Q := q
theorem w_tup (q : ar σ H fun xs H1 => xs.length ≤ sizeLine ∧ ∀ p, H1 p = none → Q (.ref p) (upd H1 p (.tup xs))) : tTup ar σ H Q := q
theorem w_new {P : Addr → Prop} (l : xs.length ≤ sizeLine) (q : ∀ p, H p = none → P p) : xs.length ≤ sizeLine ∧ ∀ p, H p = none → P p := ⟨l, q⟩
theorem w_sl {r : V → Option Int → Option Int → Hp → VK → Prop} {tl th : TO} (q : te σ H fun x H1 => tl σ H1 fun l H2 => th σ H2 fun u H3 => r x l u H3 Q) : tSl r te tl th σ H Q := q
theorem w_part {Qo : Option Int → Hp → Prop} (q : te σ H fun x H1 => ∃ i, x = .int i ∧ Qo (some i) H1) : tPart te σ H Qo := q
theorem w_part1 {R : Int → Prop} (q : R i) : ∃ j, V.int i = .int j ∧ R j := ⟨_, rfl, q⟩
theorem w_nopart {Qo : Option Int → Hp → Prop} (q : Qo none H) : tNoPart σ H Qo := q
theorem w_slL {lo hi : Option Int} (h : SqL K H p xs) (q : ∀ r, H r = none → Q (.ref r) (upd H r (.lst (cutV xs lo hi)))) : rSlL K (.ref p) lo hi H Q := ⟨_, _, rfl, h, q⟩
theorem w_slS {lo hi : Option Int} (l : s.length ≤ sizeLine) (q : Q (.str (cutS s lo hi)) H) : rSlS (.str s) lo hi H Q := ⟨_, rfl, l, q⟩
theorem w_m1 {r : V → List V → Hp → VK → Prop} (q : to σ H fun x H1 => (∃ a, x = .str a) ∧ te σ H1 fun y H2 => r x [y] H2 Q) : tM1 r to te σ H Q := q
theorem w_m0 {r : V → List V → Hp → VK → Prop} (q : to σ H fun x H1 => (∃ a, x = .str a) ∧ r x [] H1 Q) : tM0 r to σ H Q := q
theorem w_isS {P : Prop} (q : P) : (∃ a, V.str s = .str a) ∧ P := ⟨⟨_, rfl⟩, q⟩
/-- e.f at an instance -/
theorem w_fld (q : ta σ H fun x H1 => ∃ a C dx fs v, x = .ref a ∧ H1 a = some (.ins C dx fs) ∧ Cls K C ∧ NoAttr K C f ∧ fs.lookup f = some v ∧ Q v H1) : tFld K ta f σ H Q := q
theorem w_fld1 (h : H a = some (.ins C dx fs)) (c : Cls K C) (n : NoAttr K C f) (l : fs.lookup f = some v) {R : V → Prop} (q : R v) : ∃ a' C dx fs v', V.ref a = .ref a' ∧ H a' = some (.ins C dx fs) ∧ Cls K C ∧ NoAttr K C f ∧ fs.lookup f = some v' ∧ R v' := ⟨_, _, _, _, _, rfl, h, c, n, l, q⟩
theorem w_sfld (q : tv σ H fun y H1 => ta σ H1 fun x H2 => ∃ a C dx fs, x = .ref a ∧ H2 a = some (.ins C dx fs) ∧ Cls K C ∧ NoAttr K C f ∧ fs.length < 1000 ∧ D.nx σ (upd H2 a (.ins C dx (putF f y fs)))) : sFld K ta tv f D σ H := q
theorem w_sfld1 (h : H a = some (.ins C dx fs)) (c : Cls K C) (n : NoAttr K C f) (l : fs.length < 1000) {R : Hp → Prop} (q : R (upd H a (.ins C dx (putF f y fs)))) : ∃ a' C dx fs, V.ref a = .ref a' ∧ H a' = some (.ins C dx fs) ∧ Cls K C ∧ NoAttr K C f ∧ fs.length < 1000 ∧ R (upd H a' (.ins C dx (putF f y fs))) := ⟨_, _, _, _, rfl, h, c, n, l, q⟩
/-- a def's call: its promise -/
theorem w_ca {P : Program} {w : World} {mg : Str → Option Value} {base : Heap} {CX : CXT} {k j : Nat} {ps : List Str} {dvs : List V} {sp : Sp} {E : XK} (c : Cal P w K mg base CX f j ps dvs sp) (hj : j ≤ k) (q : ar σ H fun vs H1 => sp (vs ++ dvs) H1 Q E) : tCA P w K mg base CX f k E ar σ H Q := ⟨_, _, _, _, c, hj, q⟩
/-- a known test -/
theorem w_ite {c A B : Prop} [Decidable c] (h1 : c → A) (h2 : ¬ c → B) : if decide c = true then A else B := by
  by_cases h : c
  · rw [if_pos (decide_eq_true h)]; exact h1 h
  · rw [if_neg (by simp [h])]; exact h2 h
theorem w_iteN {c A B : Prop} [Decidable c] (h1 : ¬ c → A) (h2 : c → B) : if (!decide c) = true then A else B := by
  by_cases h : c
  · rw [if_neg (by simp [h])]; exact h2 h
  · rw [if_pos (by simp [h])]; exact h1 h
theorem w_iteB {c : Bool} {A B : Prop} (h1 : c = true → A) (h2 : c = false → B) : if c = true then A else B := by
  cases c
  · rw [if_neg Bool.false_ne_true]; exact h2 rfl
  · rw [if_pos rfl]; exact h1 rfl
end
/-! ### loops and comprehensions -/
section
variable {K : PySem.W.Frag} {σ : L2.St} {H : Hp} {Q : VK} {D : Ends} {a : Addr} {xs : List V} {g : TG} {tb : TS} {tt : TT} {te tl : TE} {vs : List Nat} {ar : TA}
theorem w_for {wi : TI} (q : wi σ H fun J H1 => ∃ W : Nat → Nat → L2.St → Hp → Prop, (∃ m, W 0 m σ H1) ∧ ∀ i m σ H, W i m σ H →
  (J.stop i H ∧ D.nx σ H) ∨ (J.go i H ∧ ∃ N : L2.St → Hp → Prop, (∀ σ' H', N σ' H' → ∃ m', m' < m ∧ W (i + 1) m' σ' H') ∧ ∀ x H', J.yld i H x H' → g x σ H' fun σ2 H2 => tb { D with nx := N, ct := N, bk := D.nx } σ2 H2)) : tFor wi g tb D σ H := q
theorem w_iList {R : It → Hp → Prop} (q : tl σ H fun x H1 => ∃ a, x = .ref a ∧ (∃ xs, SqL K H1 a xs) ∧ R (Itl K a) H1) : iList K tl σ H R := q
theorem w_iRng {R : It → Hp → Prop} (q : ar σ H fun vs H1 => ∃ j : Int, vs = [.int j] ∧ -(2 ^ 62) ≤ j ∧ j < 2 ^ 62 ∧ R (Itr 0 j.toNat) H1) : iRng1 ar σ H R := q
theorem w_iRng2 {R : It → Hp → Prop} (q : ar σ H fun vs H1 => ∃ i j : Int, vs = [.int i, .int j] ∧ (-(2 ^ 62) ≤ i ∧ i < 2 ^ 62 ∧ -(2 ^ 62) ≤ j ∧ j < 2 ^ 62) ∧ R (Itr i (j - i).toNat) H1) : iRng2 ar σ H R := q
/-- the loop over the list at a: an invariant over turn, slots, heap -/
theorem w_forL (Pv : Nat → L2.St → Hp → Prop) (hS : SqL K H a xs) (h0 : Pv 0 σ H) (hl : ∀ i σ H, i ≤ xs.length → Pv i σ H → SqL K H a xs)
    (hs : ∀ i x σ H, xs[i]? = some x → Pv i σ H → g x σ H fun σ2 H2 => tb { D with nx := Pv (i + 1), ct := Pv (i + 1), bk := D.nx } σ2 H2) (hd : ∀ σ H, Pv xs.length σ H → D.nx σ H) :
    ∃ a', V.ref a = .ref a' ∧ (∃ xs, SqL K H a' xs) ∧ ∃ W : Nat → Nat → L2.St → Hp → Prop, (∃ m, W 0 m σ H) ∧ ∀ i m σ H, W i m σ H →
      ((Itl K a').stop i H ∧ D.nx σ H) ∨ ((Itl K a').go i H ∧ ∃ N : L2.St → Hp → Prop, (∀ σ' H', N σ' H' → ∃ m', m' < m ∧ W (i + 1) m' σ' H') ∧ ∀ x H', (Itl K a').yld i H x H' → g x σ H' fun σ2 H2 => tb { D with nx := N, ct := N, bk := D.nx } σ2 H2) :=
  ⟨a, rfl, ⟨_, hS⟩, for_list Pv h0 hl hs hd⟩
theorem w_forR {n : Int} (Pv : Nat → L2.St → Hp → Prop) (b1 : -(2 ^ 62) ≤ n) (b2 : n < 2 ^ 62) (h0 : Pv 0 σ H)
    (hs : ∀ i σ H, i < n.toNat → Pv i σ H → g (.int (0 + i)) σ H fun σ2 H2 => tb { D with nx := Pv (i + 1), ct := Pv (i + 1), bk := D.nx } σ2 H2) (hd : ∀ σ H, Pv n.toNat σ H → D.nx σ H) :
    ∃ j : Int, [V.int n] = [V.int j] ∧ -(2 ^ 62) ≤ j ∧ j < 2 ^ 62 ∧ ∃ W : Nat → Nat → L2.St → Hp → Prop, (∃ m, W 0 m σ H) ∧ ∀ i m σ H, W i m σ H →
      ((Itr 0 j.toNat).stop i H ∧ D.nx σ H) ∨ ((Itr 0 j.toNat).go i H ∧ ∃ N : L2.St → Hp → Prop, (∀ σ' H', N σ' H' → ∃ m', m' < m ∧ W (i + 1) m' σ' H') ∧ ∀ x H', (Itr 0 j.toNat).yld i H x H' → g x σ H' fun σ2 H2 => tb { D with nx := N, ct := N, bk := D.nx } σ2 H2) :=
  ⟨n, rfl, b1, b2, for_range Pv h0 hs hd⟩
theorem w_lc {wi : TI} (q : wi σ H fun J H1 => ∀ D, H1 D = none → ∃ W : Nat → Nat → Hp → Prop, (∃ m, W 0 m (upd H1 D (.lst []))) ∧ ∀ i m H, W i m H →
  (J.stop i H ∧ Q (.ref D) H) ∨ (J.go i H ∧ ∃ Nx : Hp → Prop, (∀ H', Nx H' → ∃ m', m' < m ∧ W (i + 1) m' H') ∧ ∀ x H', J.yld i H x H' → g x (wipe σ vs) H' fun σ2 H2 => wipe σ2 vs = wipe σ vs ∧ tt σ2 H2 fun b H3 =>
    if b = true then te σ2 H3 fun y H4 => ∃ acc, H4 D = some (.lst acc) ∧ acc.length < sizeLine ∧ Nx (upd H4 D (.lst (acc ++ [y]))) else Nx H3)) : tLc wi g tt te vs σ H Q := q
theorem w_yes {Qb : Bool → Hp → Prop} (q : Qb true H) : tYes σ H Qb := q
/-- a comprehension over the list at a, in general -/
theorem w_lcL {Rq : Addr → Hp → Prop} (Pv : Addr → Nat → Hp → Prop) (hS : SqL K H a xs) (h0 : ∀ C, H C = none → Pv C 0 (upd H C (.lst []))) (hl : ∀ C i H', H C = none → i ≤ xs.length → Pv C i H' → SqL K H' a xs)
    (hs : ∀ C i x H', H C = none → xs[i]? = some x → Pv C i H' → g x (wipe σ vs) H' fun σ2 H2 => wipe σ2 vs = wipe σ vs ∧ tt σ2 H2 fun b H3 =>
      if b = true then te σ2 H3 fun y H4 => ∃ acc, H4 C = some (.lst acc) ∧ acc.length < sizeLine ∧ Pv C (i + 1) (upd H4 C (.lst (acc ++ [y]))) else Pv C (i + 1) H3) (hd : ∀ C H', H C = none → Pv C xs.length H' → Rq C H') :
    ∃ a', V.ref a = .ref a' ∧ (∃ xs, SqL K H a' xs) ∧ ∀ C, H C = none → ∃ W : Nat → Nat → Hp → Prop, (∃ m, W 0 m (upd H C (.lst []))) ∧ ∀ i m H, W i m H →
      ((Itl K a').stop i H ∧ Rq C H) ∨ ((Itl K a').go i H ∧ ∃ Nx : Hp → Prop, (∀ H', Nx H' → ∃ m', m' < m ∧ W (i + 1) m' H') ∧ ∀ x H', (Itl K a').yld i H x H' → g x (wipe σ vs) H' fun σ2 H2 => wipe σ2 vs = wipe σ vs ∧ tt σ2 H2 fun b H3 =>
        if b = true then te σ2 H3 fun y H4 => ∃ acc, H4 C = some (.lst acc) ∧ acc.length < sizeLine ∧ Nx (upd H4 C (.lst (acc ++ [y]))) else Nx H3) :=
  ⟨a, rfl, ⟨_, hS⟩, fun C hC => lc_list (Pv C) (h0 C hC) (fun i H' hi p => hl C i H' hC hi p) (fun i x H' hx p => hs C i x H' hC hx p) fun H' p => hd C H' hC p⟩
theorem w_lcR {Rq : Addr → Hp → Prop} {n : Int} (Pv : Addr → Nat → Hp → Prop) (b1 : -(2 ^ 62) ≤ n) (b2 : n < 2 ^ 62) (h0 : ∀ C, H C = none → Pv C 0 (upd H C (.lst [])))
    (hs : ∀ C i H', H C = none → i < n.toNat → Pv C i H' → g (.int (0 + i)) (wipe σ vs) H' fun σ2 H2 => wipe σ2 vs = wipe σ vs ∧ tt σ2 H2 fun b H3 =>
      if b = true then te σ2 H3 fun y H4 => ∃ acc, H4 C = some (.lst acc) ∧ acc.length < sizeLine ∧ Pv C (i + 1) (upd H4 C (.lst (acc ++ [y]))) else Pv C (i + 1) H3) (hd : ∀ C H', H C = none → Pv C n.toNat H' → Rq C H') :
    ∃ j : Int, [V.int n] = [V.int j] ∧ -(2 ^ 62) ≤ j ∧ j < 2 ^ 62 ∧ ∀ C, H C = none → ∃ W : Nat → Nat → Hp → Prop, (∃ m, W 0 m (upd H C (.lst []))) ∧ ∀ i m H, W i m H →
      ((Itr 0 j.toNat).stop i H ∧ Rq C H) ∨ ((Itr 0 j.toNat).go i H ∧ ∃ Nx : Hp → Prop, (∀ H', Nx H' → ∃ m', m' < m ∧ W (i + 1) m' H') ∧ ∀ x H', (Itr 0 j.toNat).yld i H x H' → g x (wipe σ vs) H' fun σ2 H2 => wipe σ2 vs = wipe σ vs ∧ tt σ2 H2 fun b H3 =>
        if b = true then te σ2 H3 fun y H4 => ∃ acc, H4 C = some (.lst acc) ∧ acc.length < sizeLine ∧ Nx (upd H4 C (.lst (acc ++ [y]))) else Nx H3) :=
  ⟨n, rfl, b1, b2, fun C hC => lc_range (Pv C) (h0 C hC) (fun i H' hi p => hs C i H' hC hi p) fun H' p => hd C H' hC p⟩
/-- what stands behind i items, where each gives a value or none and nothing else changes -/
def LcF (H : Hp) (xs : List V) (f : V → Option V) (C : Addr) (i : Nat) (H' : Hp) : Prop := Same H H' ∧ H' C = some (.lst ((xs.take i).filterMap f))
theorem take_succ' {α : Type} {xs : List α} {i : Nat} {x : α} (h : xs[i]? = some x) : xs.take (i + 1) = xs.take i ++ [x] := by
  rw [List.take_add_one, h]; rfl
theorem lcF_0 {f : V → Option V} {C : Addr} (h : H C = none) : LcF H xs f C 0 (upd H C (.lst [])) := ⟨same_new h _, by rw [upd_same]; rfl⟩
theorem lcF_yes {f : V → Option V} {C : Addr} {i : Nat} {x y : V} {H4 : Hp} (p : LcF H xs f C i H4) (h : H C = none) (hx : xs[i]? = some x) (hf : f x = some y) (hz : xs.length ≤ 100000) :
    ∃ acc, H4 C = some (.lst acc) ∧ acc.length < sizeLine ∧ LcF H xs f C (i + 1) (upd H4 C (.lst (acc ++ [y]))) := by
  refine ⟨_, p.2, ?_, same_mut p.1 h, ?_⟩
  · have h1 := List.length_filterMap_le f (xs.take i)
    rw [List.length_take] at h1
    have h2 := sizeLine_eq
    omega
  · rw [upd_same, take_succ' hx, List.filterMap_append, List.filterMap_cons_some hf]; rfl
theorem lcF_no {f : V → Option V} {C : Addr} {i : Nat} {x : V} {H4 : Hp} (p : LcF H xs f C i H4) (hx : xs[i]? = some x) (hf : f x = none) : LcF H xs f C (i + 1) H4 := by
  refine ⟨p.1, ?_⟩
  rw [p.2, take_succ' hx, List.filterMap_append, List.filterMap_cons_none hf, List.filterMap_nil, List.append_nil]
end
/-! ### isinstance; == of lists of ints -/
section
variable {X : Cx} {K : PySem.W.Frag} {H : Hp} {Q : VK} {a b : Addr} {ns ms : List Int} {x : V}
theorem w_isi {n t : String} {r : Bool} (ty : TyX K H x (.type t)) (k : kitB t n = some r) (q : Q (.bl r) H) : rIsi K [x, .ty n] H Q := ⟨_, _, _, _, _, rfl, ClsV.ty n, ty, kit_ty k, q⟩
theorem dpAll_ints : ∀ ns : List Int, DpAll K H (ns.map V.int) (ns.map PyData.int)
  | [] => .nil
  | n :: r => .cons (.int n) (dpAll_ints r)
theorem eqvAll_ints : ∀ ns ms : List Int, PyData.eqvAll (ns.map PyData.int) (ms.map PyData.int) = decide (ns = ms)
  | [], [] => by simp [PyData.eqvAll]
  | [], _ :: _ => by simp [PyData.eqvAll]
  | _ :: _, [] => by simp [PyData.eqvAll]
  | n :: r, k :: q => by
    simp only [List.map_cons, PyData.eqvAll, PyData.eqv, eqvAll_ints r q]
    by_cases h : n = k <;> simp [h]
theorem eqv_ints : PyData.eqv (.list (ns.map PyData.int)) (.list (ms.map PyData.int)) = decide (ns = ms) := by
  rw [PyData.eqv]; exact eqvAll_ints ns ms
def rEqI (K : PySem.W.Frag) : R2 := fun x y H Q => ∃ (a b : Addr) (ns ms : List Int), x = .ref a ∧ y = .ref b ∧ SqL K H a (ns.map V.int) ∧ SqL K H b (ms.map V.int) ∧ Q (.bl (decide (ns = ms))) H
def rNeI (K : PySem.W.Frag) : R2 := fun x y H Q => ∃ (a b : Addr) (ns ms : List Int), x = .ref a ∧ y = .ref b ∧ SqL K H a (ns.map V.int) ∧ SqL K H b (ms.map V.int) ∧ Q (.bl (!decide (ns = ms))) H
theorem op_eqLI (hu : X.A.units + 64 < cLine) : OpR X (compareOp .Eq) (rEqI X.K) := fun pins s σ H x y v u Q I rx ry h => by
  obtain ⟨a, b, ns, ms, rfl, rfl, h1, h2, q⟩ := h
  exact op_eqD hu pins s σ H _ _ v u Q I rx ry ⟨_, _, .lst h1 (dpAll_ints ns), .lst h2 (dpAll_ints ms), PySem.W.shaped_ints ns, PySem.W.shaped_ints ms, by rw [eqv_ints]; exact q⟩
theorem op_neLI (hu : X.A.units + 64 < cLine) : OpR X (compareOp .NotEq) (rNeI X.K) := fun pins s σ H x y v u Q I rx ry h => by
  obtain ⟨a, b, ns, ms, rfl, rfl, h1, h2, q⟩ := h
  exact op_neD hu pins s σ H _ _ v u Q I rx ry ⟨_, _, .lst h1 (dpAll_ints ns), .lst h2 (dpAll_ints ms), PySem.W.shaped_ints ns, PySem.W.shaped_ints ms, by rw [eqv_ints]; exact q⟩
theorem w_eqLI (h1 : SqL K H a (ns.map V.int)) (h2 : SqL K H b (ms.map V.int)) (q : Q (.bl (decide (ns = ms))) H) : rEqI K (.ref a) (.ref b) H Q := ⟨_, _, _, _, rfl, rfl, h1, h2, q⟩
theorem w_neLI (h1 : SqL K H a (ns.map V.int)) (h2 : SqL K H b (ms.map V.int)) (q : Q (.bl (!decide (ns = ms))) H) : rNeI K (.ref a) (.ref b) H Q := ⟨_, _, _, _, rfl, rfl, h1, h2, q⟩
theorem w_wip {σ σ' : L2.St} {vs : List Nat} {R : Prop} (h : wipe σ vs = wipe σ' vs) (q : R) : wipe σ vs = wipe σ' vs ∧ R := ⟨h, q⟩
theorem map_at {ns : List Int} {i : Nat} {x : V} (h : (ns.map V.int)[i]? = some x) : ∃ n, ns[i]? = some n ∧ x = .int n := by
  rw [List.getElem?_map] at h
  obtain ⟨t, ht, e⟩ := Option.map_eq_some_iff.mp h
  exact ⟨t, ht, e.symm⟩
theorem at_ints {ns : List Int} {k : Int} (h0 : 0 ≤ k) (h : k < (ns.length : Int)) : atI (ns.map V.int) k = some (V.int (ns.getD k.toNat 0)) := by
  refine at_of (j := k.toNat) (by omega) ?_
  rw [List.getElem?_map, List.getElem?_eq_getElem (by omega)]
  simp [List.getD, List.getElem?_eq_getElem (show k.toNat < ns.length by omega)]
theorem at_nat {xs : List V} {k : Int} {i : Nat} {v : V} (e : k = (i : Int)) (h : xs[i]? = some v) : atI xs k = some v := at_of e h
end
theorem kit_ll : kitB "list" "list" = some true := by decide +kernel
theorem kit_ii : kitB "int" "int" = some true := by decide +kernel
theorem kit_ib : kitB "int" "bool" = some false := by decide +kernel
theorem kit_bb : kitB "bool" "bool" = some true := by decide +kernel
theorem kit_tt : kitB "tuple" "tuple" = some true := by decide +kernel
theorem kit_ss : kitB "str" "str" = some true := by decide +kernel
theorem w_cut {t u : TS} {D : Ends} {σ : L2.St} {H : Hp} (Mid : L2.St → Hp → Prop) (h1 : t { D with nx := Mid } σ H) (h2 : ∀ σ' H', Mid σ' H' → u D σ' H') : C8.tCut t u D σ H := ⟨Mid, h1, h2⟩
section
variable {n : L2.St → Hp → Prop} {r : VK} {b c : L2.St → Hp → Prop} {σ : L2.St} {H : Hp} {v : V}
theorem w_nx (q : n σ H) : (Ends.mk n r b c).nx σ H := q
theorem w_rt (q : r v H) : (Ends.mk n r b c).rt v H := q
theorem w_bk (q : b σ H) : (Ends.mk n r b c).bk σ H := q
theorem w_ct (q : c σ H) : (Ends.mk n r b c).ct σ H := q
end
end Mn

namespace Mn
open PySem PySem.Spec PyProof.Rows L2
theorem ltb {n : Nat} (h : Nat.blt n 1000 = true) : n < 1000 := Nat.le_of_ble_eq_true h
/-! ### classes: their attributes -/
structure ClsF (K : PySem.W.Frag) (C : Addr) (fs : List Str) : Prop where
  cl : Cls K C
  no : ∀ f ∈ fs, NoAttr K C f
/-- Class.m(self, ..) -/
structure CMt (P : Program) (w : World) (K : PySem.W.Frag) (mg : Str → Option Value) (base : Heap) (CX : CXT) (x m : Str) (k : Nat) (ps : List Str) (dvs : List V) (sp : Sp) : Prop where
  ex : ∃ (C f : Addr) (mc : Value) (fd : FuncData) (ds : List Value), mg x = some (.ref C) ∧ ClX.CRead K C mc ∧ PySem.W.findCls K (.ref C) mc m = some (.val (.ref f)) ∧ FnOk P w K mg base CX k f fd ps sp ∧ PySem.W.keepIn K (.ref f) = true ∧ Binds K fd ps ds ∧ Vals dvs ds
section
variable {X : Cx} {P : Program} {w : World} {K : PySem.W.Frag} {mg : Str → Option Value} {base : Heap} {CX : CXT} {k : Nat} {E : XK} {x m : Str} {p pos apos : Pos} {e o : Expr} {es : List Expr} {ta : TE} {t : TA}
def tCMA (P : Program) (w : World) (K : PySem.W.Frag) (mg : Str → Option Value) (base : Heap) (CX : CXT) (x m : Str) (k : Nat) (E : XK) (t : TA) : TE := fun σ H Q => ∃ j ps dvs sp, CMt P w K mg base CX x m j ps dvs sp ∧ j ≤ k ∧ t σ H fun vs H1 => sp (vs ++ dvs) H1 Q E
theorem pe_cma {pl : Sem Bool} (hX : Sx X P w K mg base) (hr : Room k X.A) (hg : Gl X x) (ha : PA X (e :: es) t) (hdb : (x == ("__debug__" : Str)) = false := by decide)
    (hst : starEach (e :: es) X.env = (false, eval e X.env) :: starEach es X.env := by rfl) (hpl : (backTo pos (starEach es X.env)).any (·.1) = false := by rfl)
    (ht : eval (.Call (.Attribute (.Name x p) m apos) (e :: es) [] pos) X.env = (do
      let ov ← eval (.Name x p) X.env
      standAt apos.atName
      let (f, first) ← holding [ov] (getMethod ov m pl)
      callWith pos f first (backTo pos (starEach (e :: es) X.env)) (backToKw pos (keywordEach [] X.env))) := by rfl) :
    PE X (.Call (.Attribute (.Name x p) m apos) (e :: es) [] pos) (tCMA P w K mg base CX0 x m k E0 t) := by
  obtain ⟨rfl, rfl, rfl, rfl, rfl⟩ := hX
  refine ⟨fun pins s σ H Q I h => ?_⟩
  obtain ⟨j, ps, dvs, sp, M, hj, h⟩ := h
  obtain ⟨C, f, mc, fd, ds, hm, rd, fc, F, hk, hb, hd⟩ := M.ex
  refine PySem.W.methodCall_KW (pl := pl) (ld_glob I hg hm ?_ hdb) ht
  refine PySem.W.method_cls I.kIn rd.ga (ClX.getcval_ok (v := V.ref f) (u := Value.ref f) I rd ⟨fc, rfl⟩ fun s1 I1 => ?_)
  refine PySem.W.callWith_K (first := []) (h₀ := X.base) I.ok.mod.kin hk (thn (ha.run pos pins s1 σ H _ I1 h) fun us s2 ⟨vs, H2, I2, r, q2⟩ => ⟨I2.kIn, ?_⟩) hst hpl
  exact run_fn F (hr.mono hj) hb hd pass0 I2 r q2
theorem w_cma {σ : L2.St} {H : Hp} {Q : VK} {j : Nat} {ps : List Str} {dvs : List V} {sp : Sp} (c : CMt P w K mg base CX x m j ps dvs sp) (hj : j ≤ k) (q : t σ H fun vs H1 => sp (vs ++ dvs) H1 Q E) : tCMA P w K mg base CX x m k E t σ H Q := ⟨_, _, _, _, c, hj, q⟩
theorem w_mka {σ : L2.St} {H : Hp} {Q : VK} {j : Nat} {ps : List Str} {dvs : List V} {sp : Sp} {C : Addr} (c : Mak P w K mg base CX x C j ps dvs sp) (hj : j + 1 ≤ k) (q : t σ H fun vs H1 => ∀ x dx, H1 x = none → H1 dx = none → dx ≠ x →
  sp (.ref x :: (vs ++ dvs)) (upd (upd H1 dx (.own x)) x (.ins C dx [])) (fun v H2 => v = .non ∧ Q (.ref x) H2) E) : tMkA P w K mg base CX x k E t σ H Q := ⟨_, _, _, _, _, c, hj, q⟩
theorem w_ma {σ : L2.St} {H : Hp} {Q : VK} (q : ta σ H fun xv H1 => ∃ a C dx fs j ps dvs sp, xv = .ref a ∧ H1 a = some (.ins C dx fs) ∧ Cls K C ∧ fs.lookup m = none ∧ Mth P w K mg base CX C m j ps dvs sp ∧ j ≤ k ∧
  t σ H1 fun vs H2 => sp (xv :: (vs ++ dvs)) H2 Q E) : tMA P w K mg base CX m k E ta t σ H Q := q
theorem w_ma1 {H : Hp} {a C dx : Addr} {fs : List (Str × V)} {j : Nat} {ps : List Str} {dvs : List V} {sp : Sp} {R : List V → Sp → Prop} (h : H a = some (.ins C dx fs)) (c : Cls K C) (l : fs.lookup m = none)
    (M : Mth P w K mg base CX C m j ps dvs sp) (hj : j ≤ k) (q : R dvs sp) : ∃ a' C dx fs j ps dvs sp, V.ref a = .ref a' ∧ H a' = some (.ins C dx fs) ∧ Cls K C ∧ fs.lookup m = none ∧ Mth P w K mg base CX C m j ps dvs sp ∧ j ≤ k ∧ R dvs sp :=
  ⟨_, _, _, _, _, _, _, _, rfl, h, c, l, M, hj, q⟩
end
/-! ### lists of texts, is of bools, += -/
section
variable {X : Cx} {K : PySem.W.Frag} {H : Hp} {Q : VK} {a b : Addr} {ns ms : List Str} {x y : V} {D : Ends} {σ : L2.St} {te : TE} {n : Nat} {i j : Int} {p : Bool} {q : Bool}
theorem dpAll_strs : ∀ ns : List Str, DpAll K H (ns.map V.str) (ns.map PyData.str)
  | [] => .nil
  | n :: r => .cons (.str n) (dpAll_strs r)
theorem eqvAll_strs : ∀ ns ms : List Str, PyData.eqvAll (ns.map PyData.str) (ms.map PyData.str) = decide (ns = ms)
  | [], [] => by simp [PyData.eqvAll]
  | [], _ :: _ => by simp [PyData.eqvAll]
  | _ :: _, [] => by simp [PyData.eqvAll]
  | n :: r, k :: q => by
    simp only [List.map_cons, PyData.eqvAll, PyData.eqv, eqvAll_strs r q]
    by_cases h : n = k <;> simp [h]
def okStrs (ns : List Str) : Bool := ns.all PyData.strOk
theorem canLay_strs : ∀ ns : List Str, okStrs ns = true → PyData.canLayAll0 (ns.map PyData.str) = true
  | [], _ => by simp [PyData.canLayAll0]
  | n :: r, h => by
    simp only [okStrs, List.all_cons, Bool.and_eq_true] at h
    simp only [List.map_cons, PyData.canLayAll0, PyData.canLay0, Bool.and_eq_true]
    exact ⟨h.1, canLay_strs r h.2⟩
theorem depth_strs : ∀ ns : List Str, PyData.depthAll (ns.map PyData.str) ≤ 1
  | [] => by simp [PyData.depthAll]
  | n :: r => by
    have := depth_strs r
    simp only [List.map_cons, PyData.depthAll, PyData.depth]
    omega
theorem shaped_strs (h : okStrs ns = true) : SeqAt.shaped (.list (ns.map PyData.str)) = true := by
  have h1 := depth_strs ns
  have h2 : PyData.depth (.list (ns.map PyData.str)) ≤ 64 := by simp only [PyData.depth]; omega
  show (PyData.canLay0 (.list (ns.map PyData.str)) && decide (PyData.depth (.list (ns.map PyData.str)) ≤ 64)) = true
  rw [Bool.and_eq_true]
  exact ⟨by simp only [PyData.canLay0]; exact canLay_strs ns h, decide_eq_true h2⟩
def rEqS (K : PySem.W.Frag) : R2 := fun x y H Q => ∃ (a b : Addr) (ns ms : List Str), x = .ref a ∧ y = .ref b ∧ SqL K H a (ns.map V.str) ∧ SqL K H b (ms.map V.str) ∧ okStrs ns = true ∧ okStrs ms = true ∧ Q (.bl (decide (ns = ms))) H
def rNeS (K : PySem.W.Frag) : R2 := fun x y H Q => ∃ (a b : Addr) (ns ms : List Str), x = .ref a ∧ y = .ref b ∧ SqL K H a (ns.map V.str) ∧ SqL K H b (ms.map V.str) ∧ okStrs ns = true ∧ okStrs ms = true ∧ Q (.bl (!decide (ns = ms))) H
theorem op_eqLS (hu : X.A.units + 64 < cLine) : OpR X (compareOp .Eq) (rEqS X.K) := fun pins s σ H x y v u Q I rx ry h => by
  obtain ⟨a, b, ns, ms, rfl, rfl, h1, h2, o1, o2, q⟩ := h
  exact op_eqD hu pins s σ H _ _ v u Q I rx ry ⟨_, _, .lst h1 (dpAll_strs ns), .lst h2 (dpAll_strs ms), shaped_strs o1, shaped_strs o2, by rw [PyData.eqv, eqvAll_strs]; exact q⟩
theorem op_neLS (hu : X.A.units + 64 < cLine) : OpR X (compareOp .NotEq) (rNeS X.K) := fun pins s σ H x y v u Q I rx ry h => by
  obtain ⟨a, b, ns, ms, rfl, rfl, h1, h2, o1, o2, q⟩ := h
  exact op_neD hu pins s σ H _ _ v u Q I rx ry ⟨_, _, .lst h1 (dpAll_strs ns), .lst h2 (dpAll_strs ms), shaped_strs o1, shaped_strs o2, by rw [PyData.eqv, eqvAll_strs]; exact q⟩
theorem w_eqLS (h1 : SqL K H a (ns.map V.str)) (h2 : SqL K H b (ms.map V.str)) (o1 : okStrs ns = true) (o2 : okStrs ms = true) (q : Q (.bl (decide (ns = ms))) H) : rEqS K (.ref a) (.ref b) H Q := ⟨_, _, _, _, rfl, rfl, h1, h2, o1, o2, q⟩
theorem w_neLS (h1 : SqL K H a (ns.map V.str)) (h2 : SqL K H b (ms.map V.str)) (o1 : okStrs ns = true) (o2 : okStrs ms = true) (q : Q (.bl (!decide (ns = ms))) H) : rNeS K (.ref a) (.ref b) H Q := ⟨_, _, _, _, rfl, rfl, h1, h2, o1, o2, q⟩
def rIsBl : R2 := fun x y H Q => ∃ a b, x = .bl a ∧ y = .bl b ∧ Q (.bl (decide (a = b))) H
theorem op_isB : OpR X (compareOp .Is) rIsBl := op_is_bl
theorem w_isBl (h : Q (.bl (decide (p = q))) H) : rIsBl (.bl p) (.bl q) H Q := ⟨_, _, rfl, rfl, h⟩
theorem w_aug {ti : TIp} (h : σ[n]? = some (some x)) (q : te σ H fun y H1 => ti x y H1 fun z H2 => D.nx (σ.set n (some z)) H2) : tAug n te ti D σ H := ⟨_, h, q⟩
theorem w_ipI {f : Int → Int → Int} (q : Q (.int (f i j)) H) : ipI f (.int i) (.int j) H Q := ⟨_, _, rfl, rfl, q⟩
theorem w_tup_at {xs : List V} {i : Int} {k : Nat} {v : V} (e : i = (k : Int)) (h : xs[k]? = some v) : atI xs i = some v := at_of e h
theorem w_sub {to ti : TE} {ts : TSet} {v : V} {Qs : L2.St → Hp → Prop} (q : to σ H fun o H1 => ti σ H1 fun i H2 => ts o i v H2 fun H3 => Qs σ H3) : gSub to ti ts v σ H Qs := q
theorem w_setL {xs : List V} {k : Nat} {r : Addr} {v : V} {Qh : Hp → Prop} (h : H r = some (.lst xs)) (e : ixN xs.length i = some k) (q : Qh (upd H r (.lst (xs.set k v)))) : rSetL (.ref r) (.int i) v H Qh := ⟨_, _, _, _, rfl, rfl, h, e, q⟩
theorem ixN_of {m k : Nat} (e : i = (k : Int)) (h : k < m) : ixN m i = some k := by
  subst e
  unfold ixN
  rw [if_pos (by omega), if_pos (by omega), Int.toNat_natCast]
end
end Mn

namespace Mn
open PySem PySem.Spec PyProof.Rows L2
/-! ### the rules that name the written part, K told ahead -/
section
variable {X : Cx} {K : PySem.W.Frag} {e a b o value : Expr} {es : List Expr} {f name : Str} {pos pos' tpos apos cpos : Pos} {ta tb tv te to : TE} {t : TA} {tg : Expr}
theorem kFld (hK : X.K = K) (he : PE X e ta) (hb : attributeBase e f X.env (eval e X.env) = eval e X.env := by rfl) : PE X (.Attribute e f pos) (tFld K ta f) := hK ▸ pe_fld he hb
theorem kSFld (hK : X.K = K) (ha : PE X o ta) (hv : PE X value tv) (hs : swapsWith value (some (.Attribute o f pos')) pos.line X.env = pure false := by rfl) : PS X (.Assign [.Attribute o f pos'] value pos) (sFld K ta tv f) := hK ▸ ps_fld ha hv hs
theorem kSFldAug {op : Operator} {rd : V → V → Hp → VK → Prop} (hK : X.K = K) (ha : PE X o ta) (hv : PE X value tv) (hop : InOp X op rd) : PS X (.AugAssign (.Attribute o f tpos) op value pos) (sFldAug K ta tv rd f) := hK ▸ ps_fldaug ha hv hop
theorem kIxL (hK : X.K = K) : IxR X (rIxL K) := hK ▸ ix_list
theorem kIxT (hK : X.K = K) : IxR X (rIxT K) := hK ▸ ix_tup
theorem kLenL (hK : X.K = K) : CallR X (.builtin "len") (cLenL K) := hK ▸ call_lenL
theorem kLenT (hK : X.K = K) : CallR X (.builtin "len") (cLenT K) := hK ▸ call_lenT
theorem kListL (hK : X.K = K) : CallR X (.type "list") (cListL K) := hK ▸ call_listL
theorem kSorted (hK : X.K = K) : CallR X (.builtin "sorted") (rSorted K) := hK ▸ cr_sorted
theorem kIsi (hK : X.K = K) : CallR X (.builtin "isinstance") (rIsi K) := hK ▸ call_isi
theorem kPiL (hK : X.K = K) (hl : PE X e te) : PI X tg e (iList K te) := hK ▸ pi_list hl
theorem kPiT (hK : X.K = K) (hl : PE X e te) : PI X tg e (iTup K te) := hK ▸ pi_tup hl
theorem kSlL (hK : X.K = K) : SlR X (rSlL K) := hK ▸ sl_list
theorem kIn (hK : X.K = K) : OpR X (compareOp .In) (rIn K false) := hK ▸ op_in_seq
theorem kNotIn (hK : X.K = K) : OpR X (compareOp .NotIn) (rIn K true) := hK ▸ op_notIn_seq
theorem kEqI (hK : X.K = K) (hu : X.A.units + 64 < cLine) : OpR X (compareOp .Eq) (rEqI K) := hK ▸ op_eqLI hu
theorem kNeI (hK : X.K = K) (hu : X.A.units + 64 < cLine) : OpR X (compareOp .NotEq) (rNeI K) := hK ▸ op_neLI hu
theorem kEqS (hK : X.K = K) (hu : X.A.units + 64 < cLine) : OpR X (compareOp .Eq) (rEqS K) := hK ▸ op_eqLS hu
theorem kNeS (hK : X.K = K) (hu : X.A.units + 64 < cLine) : OpR X (compareOp .NotEq) (rNeS K) := hK ▸ op_neLS hu
theorem kEqD (hK : X.K = K) (hu : X.A.units + 64 < cLine) : OpR X (compareOp .Eq) (rEqD K) := hK ▸ op_eqD hu
theorem kNeD (hK : X.K = K) (hu : X.A.units + 64 < cLine) : OpR X (compareOp .NotEq) (rNeD K) := hK ▸ op_neD hu
theorem kIndex (hK : X.K = K) : MtR X "list.index" (rIndex K) := hK ▸ mt_index
theorem kTup {k : Nat} {n : Nat} {gs : TGs} (hK : X.K = K) (hc : X.calm = true) (h : PGs X es gs)
    (hn : (assignEach es X.env).length = n := by rfl) (hst : (assignEach es X.env).findIdx? (·.1) = none := by rfl) : PG X (.Tuple es k pos) (gTup K n gs) := hK ▸ pg_tup hc h hn hst
theorem kBm {T id : String} {r : V → List V → Hp → VK → Prop} (hK : X.K = K) (pa : PlainAttrs T) (slot : Slot T name id) (hty : typeOf (.builtin id) = pure (.type "method_descriptor")) (hm : MtR X id r) (ho : PE X o to) (ha : PA X (e :: es) t)
    (hbase : attributeBase o name X.env (eval o X.env) = eval o X.env := by rfl)
    (hfew : ((backTo cpos (starEach (e :: es) X.env)).all (fun x => !x.1) && (backToKw cpos (keywordEach [] X.env)).all (fun x => x.1.isSome)
      && decide ((e :: es).length + ([] : List Keyword).length + (if ([] : List Keyword).isEmpty then 0 else 1) < 30)) = true := by rfl)
    (hline : (apos.endLine == cpos.line) = true := by rfl) (hs : starEach (e :: es) X.env = (false, eval e X.env) :: starEach es X.env := by rfl) (hplain : (backTo cpos (starEach es X.env)).any (·.1) = false := by rfl) : PE X (.Call (.Attribute o name apos) (e :: es) [] cpos) (tBM K T r to t) := hK ▸ pe_bm pa slot hty hm ho ha hbase hfew hline hs hplain
theorem kBm0 {T id : String} {r : V → List V → Hp → VK → Prop} (hK : X.K = K) (pa : PlainAttrs T) (slot : Slot T name id) (hty : typeOf (.builtin id) = pure (.type "method_descriptor")) (hm : MtR X id r) (ho : PE X o to)
    (hbase : attributeBase o name X.env (eval o X.env) = eval o X.env := by rfl) (hline : (apos.endLine == cpos.line) = true := by rfl) : PE X (.Call (.Attribute o name apos) [] [] cpos) (tBM0 K T r to) := hK ▸ pe_bm0 pa slot hty hm ho hbase hline
end
end Mn

namespace Mn
open PySem L2
/-! ### texts that can be laid -/
theorem strOk_of (s : String) : PyData.strOk (Str.ofString s) = true := by
  rw [Str.ofString_eq_toList]
  show (List.toArray (s.toList.map Char.toNat)).all (fun n => decide (n < 0x110000)) = true
  rw [List.all_toArray, List.all_map, List.all_eq_true]
  intro c _
  refine decide_eq_true ?_
  have h := c.valid
  show c.val.toNat < 0x110000
  rcases h with h | h
  · exact Nat.lt_trans h (by decide)
  · exact h.2
theorem okStrs_cons {n : Str} {r : List Str} (h : PyData.strOk n = true) (t : okStrs r = true) : okStrs (n :: r) = true := by
  simp only [okStrs, List.all_cons, Bool.and_eq_true] at t ⊢
  exact ⟨h, t⟩
/-- a number whose digits are fewer than 577 -/
def Smol (i : Int) : Prop := i.natAbs.log2 < 1920
theorem smol_of {i : Int} (h : i.natAbs < 2 ^ 64) : Smol i := by
  unfold Smol
  by_cases h0 : i.natAbs = 0
  · rw [h0]; decide
  · have := (Nat.log2_lt h0).mpr h
    omega
abbrev FunS (K : PySem.W.Frag) (x qual : Str) (st : Stmt) (dvs : List V) (f : Addr) (fd : FuncData) : Prop := FunD K x qual (defArgs st) (defBody st) (defScope st) dvs [] f fd
/-! ### names of the module, x in a tuple | list -/
section
variable {K : PySem.W.Frag} {mg : Str → Option Value} {σ : L2.St} {H : Hp} {Q : VK} {x : Str} {v y : V} {u : Value} {p : Addr} {xs : List V}
theorem w_gv (h : mg x = some u) (r : RelV v u) (q : Q v H) : tGv mg x σ H Q := ⟨v, u, h, r, q⟩
theorem w_inT (h : SqT K H p xs) (fx : flatV y = true) (fs : xs.all flatV = true) (q : Q (.bl (inV y xs)) H) : rIn K false y (.ref p) H Q := ⟨p, xs, rfl, .inr h, fx, fs, q⟩
theorem w_inL (h : SqL K H p xs) (fx : flatV y = true) (fs : xs.all flatV = true) (q : Q (.bl (inV y xs)) H) : rIn K false y (.ref p) H Q := ⟨p, xs, rfl, .inl h, fx, fs, q⟩
theorem w_ninT (h : SqT K H p xs) (fx : flatV y = true) (fs : xs.all flatV = true) (q : Q (.bl (!inV y xs)) H) : rIn K true y (.ref p) H Q := ⟨p, xs, rfl, .inr h, fx, fs, q⟩
theorem w_ninL (h : SqL K H p xs) (fx : flatV y = true) (fs : xs.all flatV = true) (q : Q (.bl (!inV y xs)) H) : rIn K true y (.ref p) H Q := ⟨p, xs, rfl, .inl h, fx, fs, q⟩
end
theorem inV2 (x a b : Str) : inV (.str x) [.str a, .str b] = (decide (x = a) || decide (x = b)) := by
  unfold inV
  simp only [List.any_cons, List.any_nil, Bool.or_false]
  have e : ∀ a : Str, eqV (.str a) (.str x) = decide (x = a) := fun a => by
    show decide (a = x) = decide (x = a)
    exact decide_eq_decide.mpr ⟨Eq.symm, Eq.symm⟩
  rw [e, e]
theorem inV_int {z : Int} {l : List Int} : inV (.int z) (l.map V.int) = decide (z ∈ l) := by
  rw [Bool.eq_iff_iff, decide_eq_true_eq]
  unfold inV
  rw [List.any_map, List.any_eq_true]
  constructor
  · rintro ⟨y, hy, e⟩
    have e : decide (y = z) = true := e
    rw [← of_decide_eq_true e]
    exact hy
  · exact fun h => ⟨z, h, decide_eq_true rfl⟩
end Mn

/-! ### errors of own classes: raised, caught, handed to a def in the suite -/
namespace Mn
open PySem PySem.Spec PyProof.Rows L2 L2H
/-- the wish of a def's caller, slots aside -/
abbrev wE (E : XK) : WX := fun c d _ H => E c d H
abbrev CXN (P : Program) (w : World) : CXT := L2N.CX P w
section
variable {X : Cx} {P : Program} {w : World} {K : PySem.W.Frag} {mg : Str → Option Value} {base : Heap} {k : Nat} {W : WX} {x m : Str} {p pos apos : Pos} {e o : Expr} {es : List Expr} {ta : TE} {t : TA}
/-- f(e, ..) of a def that may raise; W takes what it lets out -/
def tCE (P : Program) (w : World) (K : PySem.W.Frag) (mg : Str → Option Value) (base : Heap) (x : Str) (k : Nat) (W : WX) (t : TA) : TE := fun σ H Q => ∃ j ps dvs sp, Cal P w K mg base (CXN P w) x j ps dvs sp ∧ j ≤ k ∧ t σ H fun vs H1 => sp (vs ++ dvs) H1 Q (WE W σ)
theorem pe_cae (hX : Sx X P w K mg base) (hr : Room k X.A) (hg : Gl X x) (tk : L2N.Takes X W) (ha : PA X (e :: es) t) (hdb : (x == ("__debug__" : Str)) = false := by decide) (he : starEach (e :: es) X.env = (false, eval e X.env) :: starEach es X.env := by rfl)
    (hpl : (backTo pos (starEach es X.env)).any (·.1) = false := by rfl) : PE X (.Call (.Name x p) (e :: es) [] pos) (tCE P w K mg base x k W t) := by
  obtain ⟨rfl, rfl, rfl, rfl, rfl⟩ := hX
  refine ⟨fun pins s σ H Q I h => ?_⟩
  obtain ⟨j, ps, dvs, sp, C, hj, h⟩ := h
  obtain ⟨f, fd, ds, F, hm, hk, hb, hd⟩ := C.ex
  refine wpAny_Call_Name_kw (ld_glob I hg hm ?_ hdb)
  refine PySem.W.callWith_K (h₀ := X.base) I.ok.mod.kin hk (thn (ha.run pos pins s σ H _ I h) fun us s1 ⟨vs, H1, I1, r, q⟩ => ⟨I1.kIn, ?_⟩) he hpl
  exact run_fnSD F (hr.mono hj) hb hd (L2N.passAt tk σ) I1 r q
theorem w_cae {σ : L2.St} {H : Hp} {Q : VK} {j : Nat} {ps : List Str} {dvs : List V} {sp : Sp} (c : Cal P w K mg base (CXN P w) x j ps dvs sp) (hj : j ≤ k) (q : t σ H fun vs H1 => sp (vs ++ dvs) H1 Q (WE W σ)) : tCE P w K mg base x k W t σ H Q := ⟨_, _, _, _, c, hj, q⟩
end
/-! ### a def that the suite calls with the error that it holds -/
/-- its promise may speak of the error's address and class -/
structure FnE (P : Program) (w : World) (K : PySem.W.Frag) (mg : Str → Option Value) (base : Heap) (k : Nat) (f : Addr) (fd : FuncData) (ps : List Str) (sp : Addr → Value → Option Addr → Sp) : Prop where
  len : ∀ a c d vs H Q E, sp a c d vs H Q E → vs.length = ps.length
  run : ∀ (A : Around) (outer : List Env) (s : Shared) (H : Hp) (args : Args) (us : List Value) (vs : List V) (Q : VK) (E : XK) (q : Addr × Obj) (c : Value) (d : Option Addr), RoomH k A → Hot1 A q → L2N.Zn c d q.2 → PinOk outer H s q → Env0 P w K mg base A outer s H →
    BindsTo s fd args (ps.zip us) → Vals vs us → sp q.1 c d vs H Q E → codeAny (model P w) A (.call (.ref f) args) (CR CX0 outer P w H s Q E) s
theorem hot_fields {A : Around} {q : Addr × Obj} (h : Hot1 A q) : ∃ vs, q.2.data = .fields vs := ⟨_, h.2.choose_spec.1⟩
/-- the rule for such a def -/
theorem fnE_of {P : Program} {w : World} {K : PySem.W.Frag} {mg : Str → Option Value} {base : Heap} {k : Nat} {x qual : Str} {st : Stmt} {f : Addr} {fd : FuncData} {N ps : List Str} {sp : Addr → Value → Option Addr → Sp} (F : Fun K x qual st f fd) (S : FnScope N ps (defScope st))
    (len : ∀ a c d vs H Q E, sp a c d vs H Q E → vs.length = ps.length)
    (hbody : ∀ (cdv : Value) (A : Around) (outer : List Env) (s : Shared) (H : Hp) (vs : List V) (Q : VK) (E : XK) (q : Addr × Obj) (c : Value) (d : Option Addr), Hot1 A q → L2N.Zn c d q.2 → RoomH k (A.deeper (envOfC qual (defScope st) s.heap.objs.size f cdv)) → sp q.1 c d vs H Q E →
      ∃ t, PSs (cxH CX0 P w K mg base N qual (defScope st) f cdv A outer s H E q) (defBody st) t ∧ t { nx := fun _ H' => Q .non H', rt := Q } (L2.start N vs) H) : FnE P w K mg base (k + 1) f fd ps sp := by
  obtain ⟨oc, od, kV, doc, pm, an, cdv, ct, osl, rfl, lk, hcd⟩ := F.ex
  refine ⟨len, fun A outer s H args us vs Q E q c d hr hot hz hpin e0 hb r hsp => ?_⟩
  -- the def is found, its frame is made
  have inK : K.In s.heap := e0.mod.kin.keeps fun b o z => (e0.bs b o z).1
  have noLim : s.heap.NoLimit := e0.mod.nolimit.keeps fun b o z => (e0.bs b o z).1
  refine codeAny_call_function hr.depth (inK _ _ lk) rfl S.co S.gen rfl (PySem.W.codeRec_of inK hcd) (hb _ _ _ _ ?_)
  refine wpAny_newFunctionEnv_cells S.kind (fun y hy => ?_) fun env he s1 z => ?_
  · rcases S.par y.1 (List.of_mem_zip hy).1 with loc | cell
    · exact .inl loc
    · exact .inr ⟨cell, PySem.W.cellsFrom_some _ _ _ (.inl cell)⟩
  subst he
  refine ⟨noLim.keeps z.toInCall.keep, codeAny_func ?_⟩
  -- its body
  obtain ⟨t, ht, hq⟩ := hbody cdv A outer s H vs Q E q c d hot hz (hr.deeper _) hsp
  have I := inv_startH (CX := CX0) (E := E) S hpin e0 (len _ _ _ _ _ _ _ hsp) r z
  refine wpAny_mono (ht.run [] s1 (L2.start N vs) H _ I hq) (fun fl s' hs => ?_) fun _ _ hs => hs
  cases fl with
  | brk => exact hs.choose_spec.choose_spec.2.elim
  | cont => exact hs.choose_spec.choose_spec.2.elim
  | next =>
    obtain ⟨σ', H', J, q'⟩ := hs
    exact ⟨V.non, H', J.os, J.bare, J.base, J.hok, rfl, q'⟩
  | ret u =>
    obtain ⟨v, σ', H', J, rv, q'⟩ := hs
    exact ⟨v, H', J.os, J.bare, J.base, J.hok, rv, q'⟩
structure CalE (P : Program) (w : World) (K : PySem.W.Frag) (mg : Str → Option Value) (base : Heap) (x : Str) (k : Nat) (ps : List Str) (sp : Addr → Value → Option Addr → Sp) : Prop where
  ex : ∃ (f : Addr) (fd : FuncData), FnE P w K mg base k f fd ps sp ∧ mg x = some (.ref f) ∧ PySem.W.keepIn K (.ref f) = true ∧ Binds K fd ps []
section
variable {X : Cx} {P : Program} {w : World} {K : PySem.W.Frag} {mg : Str → Option Value} {base : Heap} {k : Nat} {x : Str} {p pos : Pos} {e : Expr} {es : List Expr} {t : TA} {q : Addr × Obj} {c : Value} {d : Option Addr}
def tCH (P : Program) (w : World) (K : PySem.W.Frag) (mg : Str → Option Value) (base : Heap) (x : Str) (k : Nat) (a : Addr) (c : Value) (d : Option Addr) (t : TA) : TE := fun σ H Q => ∃ j ps sp, CalE P w K mg base x j ps sp ∧ j ≤ k ∧ t σ H fun vs H1 => sp a c d vs H1 Q E0
theorem pe_cah (hX : Sx X P w K mg base) (hr : RoomH k X.A) (hot : Hot1 X.A q) (hq : q ∈ X.pn) (hz : L2N.Zn c d q.2) (hg : Gl X x) (ha : PA X (e :: es) t) (hdb : (x == ("__debug__" : Str)) = false := by decide)
    (he : starEach (e :: es) X.env = (false, eval e X.env) :: starEach es X.env := by rfl) (hpl : (backTo pos (starEach es X.env)).any (·.1) = false := by rfl) : PE X (.Call (.Name x p) (e :: es) [] pos) (tCH P w K mg base x k q.1 c d t) := by
  obtain ⟨rfl, rfl, rfl, rfl, rfl⟩ := hX
  refine ⟨fun pins s σ H Q I h => ?_⟩
  obtain ⟨j, ps, sp, C, hj, h⟩ := h
  obtain ⟨f, fd, F, hm, hk, hb⟩ := C.ex
  refine wpAny_Call_Name_kw (ld_glob I hg hm ?_ hdb)
  refine PySem.W.callWith_K (h₀ := X.base) I.ok.mod.kin hk (thn (ha.run pos pins s σ H _ I h) fun us s1 ⟨vs, H1, I1, r, h1⟩ => ⟨I1.kIn, ?_⟩) he hpl
  -- the error stands where nothing else reaches
  have at_ := I1.pin q (List.mem_append_left _ hq)
  have pin : PinOk X.stack H1 s1 q := ⟨at_.1, at_.2.1, fun z => (List.mem_cons.mp (I1.stkSub q.1 z)).elim at_.2.2.1 at_.2.2.2.1, at_.2.2.2.2⟩
  have n : us.length = ps.length := r.length.symm.trans (F.len _ _ _ _ _ _ _ h1)
  have b := hb s1 us I1.kIn (by rw [List.append_nil]; exact n)
  rw [List.append_nil] at b
  refine wpAny_call (codeAny_mono (F.run X.A X.stack s1 H1 ⟨us, []⟩ us vs Q E0 q c d (hr.mono hj) hot hz pin I1.env0 b r h1) fun z s' hs => ?_)
  cases z with
  | error _ => exact hs.elim
  | ok fl => cases fl with
    | ret u => exact I1.after hs
    | next => exact hs.elim
    | brk => exact hs.elim
    | cont => exact hs.elim
theorem w_cah {σ : L2.St} {H : Hp} {Q : VK} {j : Nat} {ps : List Str} {sp : Addr → Value → Option Addr → Sp} {a : Addr} (C : CalE P w K mg base x j ps sp) (hj : j ≤ k) (h : t σ H fun vs H1 => sp a c d vs H1 Q E0) : tCH P w K mg base x k a c d t σ H Q := ⟨_, _, _, C, hj, h⟩
/-- isinstance(e, c) where the error is pinned -/
theorem call_isP {D : Addr} (hq : q ∈ X.pn) (C : ExcC X.K D) (hz : Zc (.ref D) none q.2) (hf : ∃ vs, q.2.data = .fields vs) : CallR X (.builtin "isinstance") (rIsE X.K D q.1) := by
  intro pins s σ H xs us Q I r h
  obtain ⟨c, cv, b, rfl, hcv, hk, h⟩ := h
  obtain ⟨vs, hv⟩ := hf
  have g := (I.pin q (List.mem_append_left _ hq)).1
  have J : PySem.W.InstAt s.heap q.1 q.2 D none := by
    obtain ⟨qa, oc, od, oda, osl⟩ := q
    obtain ⟨h1, h2⟩ := hz
    dsimp only at h1 h2 hv
    subst h1 h2 hv
    exact ⟨g, rfl, rfl, trivial⟩
  match us, r with
  | [u1, u2], .cons r1 (.cons r2 .nil) =>
    obtain rfl : u1 = Value.ref q.1 := r1
    obtain rfl := hcv _ r2
    exact PySem.W.kia_one (PySem.W.handS_kitx_exc C.hg C.hk C.hs C.hd C.ha C.hn C.ht C.hm) I.kIn J hk (fun z => nomatch z) fun tk => ⟨.bl b, H, I.kept (t' := tk) fun _ _ z => z, rfl, h⟩
theorem kIsP {K : PySem.W.Frag} {D : Addr} (hK : X.K = K) (hq : q ∈ X.pn) (C : ExcC K D) (hz : Zc (.ref D) none q.2) (hf : ∃ vs, q.2.data = .fields vs) : CallR X (.builtin "isinstance") (rIsE K D q.1) := by
  subst hK
  exact call_isP hq C hz hf
theorem w_isE {K : PySem.W.Frag} {D a : Addr} {v : V} {cv : Value} {b : Bool} {H : Hp} {Q : VK} (hv : ∀ u, RelV v u → u = cv) (hk : PySem.W.kitOne K (.ref D) cv = some b) (h : Q (.bl b) H) : rIsE K D a [.ref a, v] H Q := ⟨_, _, _, rfl, hv, hk, h⟩
end
theorem roomH_mark {k : Nat} {A : Around} {h : Option Value} (r : Room k A) : RoomH k (A.mark h) := ⟨r.dp, r.un⟩
theorem hot_mark {A : Around} {a : Addr} {oe : Obj} {c : Value} {d : Option Addr} (hz : L2N.Zn c d oe) (hv : ∃ vs, oe.data = .fields vs) : Hot1 (A.mark (some (.ref a))) (a, oe) := by
  obtain ⟨vs, e⟩ := hv
  exact ⟨rfl, vs, e, hz.2.2 vs e⟩
/-- what the text must say of an own error, so that it can be raised and named -/
structure ErrK (K : PySem.W.Frag) (mg : Str → Option Value) (x : Str) (C : Addr) : Prop where
  xf : PySem.W.excIn K C [.type "ValueError", .type "Exception", .type "BaseException", .type "object"] "ValueError.__new__" = true
  g : mg x = some (.ref C)
  k : PySem.W.keepIn K (.ref C) = true
  b : PySem.W.subIn K (.ref C) (.type "BaseException") = some true
  t : PySem.W.typeIn K (.ref C) = some (.type "type")
/-- the class named in a clause -/
structure NamK (K : PySem.W.Frag) (mg : Str → Option Value) (x : Str) (C : Addr) : Prop where
  g : mg x = some (.ref C)
theorem tk_weak {X : Cx} {W : WX} (tk : L2.Takes X W) : L2N.Takes X W := fun u s' h => by
  obtain ⟨a, B, sI, pins, σ, H, cls, d, e, I, nb, up, sky, na, os, ag, w⟩ := h
  refine tk u s' ⟨a, B, sI, pins, σ, H, cls, d, e, I, nb, up, ?_, na, os, ag, w⟩
  rcases sky with ⟨h1, h2, h3, oe, vs, he, hz, hd, h4⟩ | fl | hh
  · exact .inl ⟨h1, h2, h3, oe, vs, he, hz.zc, hd, h4⟩
  · exact .inr (.inl (flyingZ_imp (fun _ z => L2N.Zn.zc z) fl))
  · obtain ⟨h1, h2, h3, h4⟩ := hh
    exact .inr (.inr ⟨h1, h2, h3, tracedZ_imp (fun _ z => L2N.Zn.zc z) h4⟩)
theorem takesN0 {X : Cx} : L2N.Takes X (fun _ _ _ _ => False) := fun _ _ h => by
  obtain ⟨_, _, _, _, _, _, _, _, _, _, _, _, _, _, _, _, z⟩ := h
  exact z.elim
/-- a call in the suite, the error handed on -/
theorem pe_cas {X : Cx} {P : Program} {w : World} {K : PySem.W.Frag} {mg : Str → Option Value} {base : Heap} {k : Nat} {x : Str} {p pos : Pos} {e : Expr} {es : List Expr} {t : TA} {a : Addr} {oe : Obj} {c : Value} {d : Option Addr} (hX : Sx X P w K mg base) (hr : RoomH k X.A) (hz : L2N.Zn c d oe)
    (hot : Hot1 X.A (a, oe)) (hq : (a, oe) ∈ X.pn) (hg : Gl X x) (ha : PA X (e :: es) t) (hdb : (x == ("__debug__" : Str)) = false := by decide)
    (he : starEach (e :: es) X.env = (false, eval e X.env) :: starEach es X.env := by rfl) (hpl : (backTo pos (starEach es X.env)).any (·.1) = false := by rfl) : PE X (.Call (.Name x p) (e :: es) [] pos) (tCH P w K mg base x k a c d t) :=
  pe_cah (q := (a, oe)) hX hr hot hq hz hg ha hdb he hpl
theorem w_thru {t u : TS} {D : Ends} {σ : L2.St} {H : Hp} (q : t { D with nx := u D } σ H) : tThru t u D σ H := q
end Mn

/-! ### more of texts -/
namespace Mn
open PySem PySem.Spec PyProof.Rows L2
section
variable {X : Cx}
theorem mt_rpartition : MtR X "str.rpartition" (fun x xs H Q => ∃ a b, x = .str a ∧ xs = [.str b] ∧ (b.length == 0) = false ∧ a.length ≤ sizeLine ∧
    ∀ p, H p = none → Q (.ref p) (upd H p (.tup [.str (Txt.rpartition a b).1, .str (Txt.rpartition a b).2.1, .str (Txt.rpartition a b).2.2]))) := by
  intro pins s σ H x xs v us Q I rx rs h
  obtain ⟨a, b, rfl, rfl, hb, hz, h⟩ := h
  obtain ⟨t, rfl⟩ := rx
  match us, rs with
  | [_], .cons r1 .nil =>
    obtain ⟨u, rfl⟩ := r1
    refine call_meets F.slot_str_rpartition (typeIs_str _ _ _) F.entry_str_rpartition (F.args_str_rpartition_2 _ _) (meets_str_rpartition a b t u hb hz) ?_
    unfold Txt.rpartition at h
    cases e : Builtin.Str.lastOccurrence a b 0 a.length with
    | none => rw [e] at h; exact laid_parts I h
    | some i => rw [e] at h; exact laid_parts I h
end
/-! ### for c in text; while -/
section
variable {σ : L2.St} {H : Hp} {D : Ends} {g : TG} {tb : TS} {te : TE}
theorem w_iStr {R : It → Hp → Prop} (q : te σ H fun v H1 => ∃ x, v = .str x ∧ R (Its x) H1) : iStr te σ H R := q
theorem w_forS {x : Str} (Pv : Nat → L2.St → Hp → Prop) (h0 : Pv 0 σ H) (hs : ∀ i c σ H, (TL.tl x)[i]? = some c → Pv i σ H → g (.str ⟨#[c]⟩) σ H fun σ2 H2 => tb { D with nx := Pv (i + 1), ct := Pv (i + 1), bk := D.nx } σ2 H2)
    (hd : ∀ σ H, Pv (TL.tl x).length σ H → D.nx σ H) : ∃ x', V.str x = .str x' ∧ ∃ W : Nat → Nat → L2.St → Hp → Prop, (∃ m, W 0 m σ H) ∧ ∀ i m σ H, W i m σ H →
      ((Its x').stop i H ∧ D.nx σ H) ∨ ((Its x').go i H ∧ ∃ N : L2.St → Hp → Prop, (∀ σ' H', N σ' H' → ∃ m', m' < m ∧ W (i + 1) m' σ' H') ∧ ∀ v H', (Its x').yld i H v H' → g v σ H' fun σ2 H2 => tb { D with nx := N, ct := N, bk := D.nx } σ2 H2) := by
  have n : (TL.tl x).length = x.cps.size := Array.length_toList
  refine ⟨x, rfl, fun i m σ H => m = x.cps.size - i ∧ i ≤ x.cps.size ∧ Pv i σ H, ⟨_, rfl, Nat.zero_le _, h0⟩, ?_⟩
  rintro i m σ H ⟨rfl, hi, p⟩
  by_cases lt : i < x.cps.size
  · refine .inr ⟨lt, Pv (i + 1), fun σ' H' p' => ⟨x.cps.size - (i + 1), by omega, rfl, lt, p'⟩, fun v H' y => ?_⟩
    obtain ⟨rfl, c, hc, rfl⟩ := y
    exact hs i c σ _ (by rw [← hc]; exact Array.getElem?_toList) p
  · have e : i = x.cps.size := by omega
    subst e
    exact .inl ⟨Nat.le_refl _, hd σ H (n ▸ p)⟩
end
end Mn
namespace Mn
open PySem PySem.Spec PyProof.Rows L2
section
variable {K : PySem.W.Frag} {σ : L2.St} {H : Hp} {a : Addr} {n : Nat} {t : TG} {u : TGs} {us : TGs} {v : V} {r xs : List V} {Qs : L2.St → Hp → Prop}
theorem w_gtup (h : SqT K H a xs) (l : xs.length = n) (q : us xs σ H Qs) : gTup K n us (.ref a) σ H Qs := ⟨_, _, rfl, h, l, q⟩
theorem w_gcons (q : t v σ H fun σ' H' => u r σ' H' Qs) : gCons t u (v :: r) σ H Qs := ⟨_, _, rfl, q⟩
theorem w_gnil (q : Qs σ H) : gNil [] σ H Qs := ⟨rfl, q⟩
end
end Mn

/-! ### a list == [], text * int, int.bit_length -/
namespace Mn
open PySem PySem.Spec PyProof.Rows L2 TL
section
variable {X : Cx} {H : Hp} {Q : VK} {a b : Addr} {xs : List V} {x : Str} {n : Int} {k : Nat}
theorem op_eqE (hu : X.A.units + 64 < cLine) : OpR X (compareOp .Eq) rEqE := by
  intro pins s σ H x y v u Q I rx ry h
  obtain ⟨a, b, xs, rfl, rfl, h1, h2, q⟩ := h
  obtain rfl : v = Value.ref a := rx
  obtain rfl : u = Value.ref b := ry
  obtain ⟨is1, r1, ⟨o1, n1, g1, c1, _, d1⟩, _⟩ := I.list (SqL.of h1)
  obtain ⟨is2, r2, ⟨o2, n2, g2, c2, _, d2⟩, _⟩ := I.list (SqL.of h2)
  have e2 : is2 = [] := by cases r2; rfl
  subst e2
  have l1 : s.heap.IsList a is1.toArray := ⟨o1, g1, c1, n1, d1⟩
  have l2 : s.heap.IsList b #[] := ⟨o2, g2, c2, n2, d2⟩
  cases r1 with
  | nil => exact SeqAt.eq_listAt (e := fun _ => true) l1 l2 rfl (by omega) (fun j h => absurd h (Nat.not_lt_zero j)) ⟨.bl true, H, I, rfl, q⟩
  | cons r rs => exact SeqAt.eq_list_lengthsAt l1 l2 rfl (by omega) ⟨.bl false, H, I, rfl, q⟩
theorem op_neE (hu : X.A.units + 64 < cLine) : OpR X (compareOp .NotEq) rNeE := by
  intro pins s σ H x y v u Q I rx ry h
  obtain ⟨a, b, xs, rfl, rfl, h1, h2, q⟩ := h
  obtain rfl : v = Value.ref a := rx
  obtain rfl : u = Value.ref b := ry
  obtain ⟨is1, r1, ⟨o1, n1, g1, c1, _, d1⟩, _⟩ := I.list (SqL.of h1)
  obtain ⟨is2, r2, ⟨o2, n2, g2, c2, _, d2⟩, _⟩ := I.list (SqL.of h2)
  have e2 : is2 = [] := by cases r2; rfl
  subst e2
  have l1 : s.heap.IsList a is1.toArray := ⟨o1, g1, c1, n1, d1⟩
  have l2 : s.heap.IsList b #[] := ⟨o2, g2, c2, n2, d2⟩
  cases r1 with
  | nil => exact SeqAt.RcNeAt.lists (e := fun _ => true) l1 l2 rfl (by omega) (fun j h => absurd h (Nat.not_lt_zero j)) _ _ _ _ ⟨.bl false, H, I, rfl, q⟩
  | cons r rs => exact SeqAt.RcNeAt.lists_lengths l1 l2 rfl (by omega) _ _ _ _ ⟨.bl true, H, I, rfl, q⟩
theorem w_eqE (h1 : H a = some (.lst xs)) (h2 : H b = some (.lst [])) (q : Q (.bl xs.isEmpty) H) : rEqE (.ref a) (.ref b) H Q := ⟨_, _, _, rfl, rfl, h1, h2, q⟩
theorem w_neE (h1 : H a = some (.lst xs)) (h2 : H b = some (.lst [])) (q : Q (.bl (!xs.isEmpty)) H) : rNeE (.ref a) (.ref b) H Q := ⟨_, _, _, rfl, rfl, h1, h2, q⟩
def rMulS : R2 := fun x y H Q => ∃ (z : Str) (n : Nat), x = .str z ∧ y = .int (n : Int) ∧ z.length ≤ 1000 ∧ n ≤ 1000 ∧ Q (.str (Txt.mul z n)) H
theorem op_mul_str : OpR X (binaryOp .Mult) rMulS := by
  intro pins s σ H x y v u Q I rx ry h
  obtain ⟨z, n, rfl, rfl, lz, ln, q⟩ := h
  obtain ⟨t, rfl⟩ := rx
  obtain ⟨t', rfl⟩ := ry
  refine SB.mul ⟨?_, fun h1 h2 => ?_, fun h1 h2 => ?_⟩ fun t' k => ⟨.str _, H, I.tok _, ⟨_, rfl⟩, q⟩
  · rw [decide_eq_false (by omega), decide_eq_false (by omega)]
    rfl
  · have : (2 : Int) ^ 63 - 1 = 9223372036854775807 := by decide
    rw [this]
    have h3 : (1000 : Int) ≤ 9223372036854775807 / (n : Int) := by
      rw [Int.le_ediv_iff_mul_le (by omega)]
      omega
    omega
  · have hz := PySem.sizeLine_eq
    unfold Builtin.Str.tooLong
    have : z.length * ((n : Int)).toNat ≤ 1000 * 1000 := Nat.mul_le_mul lz (by omega)
    exact decide_eq_false (by omega)
theorem w_mulS (lz : x.length ≤ 1000) (lk : k ≤ 1000) (q : Q (.str (Txt.mul x k)) H) : rMulS (.str x) (.int (k : Int)) H Q := ⟨_, _, rfl, rfl, lz, lk, q⟩
theorem foldl_cat (l : List Nat) : ∀ (k : Nat) (acc : Array Nat), ((List.replicate k l.toArray).foldl (· ++ ·) acc).toList = acc.toList ++ (List.replicate k l).flatten
  | 0, acc => by simp
  | k + 1, acc => by
    rw [List.replicate_succ, List.foldl_cons, foldl_cat l k, List.replicate_succ, List.flatten_cons, Array.toList_append, List.append_assoc]
theorem tl_mul (z : Str) (n : Nat) : tl (Txt.mul z n) = (List.replicate n (tl z)).flatten := by
  unfold Txt.mul
  by_cases h : n = 0
  · subst h
    rfl
  · rw [if_neg (by omega)]
    split
    · rename_i c
      rw [Bool.or_eq_true, beq_iff_eq, beq_iff_eq] at c
      rcases c with c | c
      · have : n = 1 := by omega
        subst this
        simp [tl]
      · have e : tl z = [] := by rw [len_tl] at c; exact List.length_eq_zero_iff.mp c
        rw [e]
        simp
    · have := foldl_cat (tl z) n #[]
      rw [Int.toNat_natCast]
      simp only [Array.toArray_toList] at this
      rw [show tl ⟨List.foldl (· ++ ·) #[] (List.replicate n z.cps)⟩ = (List.foldl (· ++ ·) #[] (List.replicate n z.cps)).toList from rfl, this]
      simp
theorem tl_mul1 (c n : Nat) : tl (Txt.mul ⟨#[c]⟩ n) = List.replicate n c := by
  rw [tl_mul]
  induction n with
  | zero => rfl
  | succ n ih =>
    rw [List.replicate_succ, List.flatten_cons, ih, List.replicate_succ]
    rfl
theorem tl_mul2 (c n : Nat) : tl (Txt.mul ⟨#[c, c]⟩ n) = List.replicate (2 * n) c := by
  rw [tl_mul]
  induction n with
  | zero => rfl
  | succ n ih =>
    rw [List.replicate_succ, List.flatten_cons, ih, show 2 * (n + 1) = 2 * n + 1 + 1 by omega, List.replicate_succ, List.replicate_succ]
    rfl
def bitLen (n : Nat) : Nat := if n = 0 then 0 else n.log2 + 1
theorem mt_bitlen : MtR X "int.bit_length" (fun x xs H Q => ∃ n : Nat, x = .int (n : Int) ∧ xs = [] ∧ Q (.int (bitLen n : Int)) H) := by
  intro pins s σ H x xs v us Q I rx rs h
  obtain ⟨n, rfl, rfl, q⟩ := h
  obtain ⟨t, rfl⟩ := rx
  cases rs
  refine call_int_bit_length ?_
  have e : Builtin.Int.intBits (n : Int) = bitLen n := by
    unfold Builtin.Int.intBits bitLen
    by_cases h : n = 0
    · subst h; rfl
    · rw [if_neg h, if_neg (by simpa using h), Int.natAbs_natCast]
  rw [e]
  exact ⟨.int _, H, I.tok _, ⟨_, rfl⟩, q⟩
end
end Mn
namespace Mn
open PySem PySem.Spec PyProof.Rows L2
section
variable {σ : L2.St} {H : Hp} {Q : VK} {D : Ends} {td ty tv : TE} {a : Addr} {v y : V} {o : Option V} {kvs : List (Key × V)} {k : Key}
theorem neN {H : Hp} {a b : Addr} {o : HO} (h : H b = none) (h' : H a = some o) : a ≠ b := ne_of_none h' h
theorem w_dput (q : tv σ H fun v H1 => td σ H1 fun x H2 => ty σ H2 fun y H3 => ∃ a H4, x = .ref a ∧ DPut H3 a y v H4 ∧ D.nx σ H4) : sDPut td ty tv D σ H := q
theorem w_dput1 {R : Hp → Prop} (h : H a = some (.dK kvs)) (e : y = kV k) (l : kvs.length < sizeLine) (q : R (upd H a (.dK (putK kvs k v)))) : ∃ a' H4, V.ref a = .ref a' ∧ DPut H a' y v H4 ∧ R H4 := by
  subst e
  exact ⟨_, _, rfl, DPut.k h l, q⟩
theorem w_dget (q : td σ H fun x H1 => ty σ H1 fun y H2 => ∃ a v, x = .ref a ∧ DGet H2 a y (some v) ∧ Q v H2) : tDGet td ty σ H Q := q
theorem w_din (q : ty σ H fun y H1 => td σ H1 fun x H2 => ∃ a o, x = .ref a ∧ DGet H2 a y o ∧ Q (.bl o.isSome) H2) : tDIn ty td σ H Q := q
theorem w_dnin (q : ty σ H fun y H1 => td σ H1 fun x H2 => ∃ a o, x = .ref a ∧ DGet H2 a y o ∧ Q (.bl (!o.isSome)) H2) : tDNotIn ty td σ H Q := q
theorem w_dget1 {R : Option V → Prop} (h : H a = some (.dK kvs)) (e : y = kV k) (q : R (valV kvs k)) : ∃ a' o, V.ref a = .ref a' ∧ DGet H a' y o ∧ R o := by
  subst e
  exact ⟨_, _, rfl, DGet.k h, q⟩
theorem w_dget2 {R : V → Prop} (h : H a = some (.dK kvs)) (e : y = kV k) (hv : valV kvs k = some v) (q : R v) : ∃ a' v', V.ref a = .ref a' ∧ DGet H a' y (some v') ∧ R v' := by
  subst e
  exact ⟨_, _, rfl, by rw [← hv]; exact DGet.k h, q⟩
theorem w_dnew (q : ∀ p, H p = none → Q (.ref p) (upd H p (.dK []))) : tDNewK σ H Q := q
end
end Mn
namespace Mn
open PySem PySem.Spec PyProof.Rows L2
/-- a def by its body, whatever it lets out -/
theorem okN {CX : CXT} {P : Program} {w : World} {K : PySem.W.Frag} {mg : Str → Option Value} {base : Heap} {x qual : Str} {st : Stmt} {f : Addr} {fd : FuncData} {N ps : List Str} {k : Nat} {sp : Sp} (F : Fun K x qual st f fd)
    (S : FnScope N ps (defScope st)) (len : ∀ vs H Q E, sp vs H Q E → vs.length = ps.length)
    (body : ∀ (cdv : Value) (A : Around) (outer : List Env) (s : Shared) (H : Hp) (vs : List V) (Q : VK) (E : XK),
      Room k (A.deeper (envOfC qual (defScope st) s.heap.objs.size f cdv)) → sp vs H Q E →
        ∃ t, PSs (cxOf CX P w K mg base N qual (defScope st) f cdv A outer s H E) (defBody st) t ∧
          t { nx := fun _ H' => Q .non H', rt := Q } (start N vs) H) : FnOk P w K mg base CX (k + 1) f fd ps sp := by
  obtain ⟨_, _, _, _, _, _, c, _, _, rfl, lk, hc⟩ := F.ex
  exact fn_of lk hc S len fun A o s H vs Q E r h => body c A o s H vs Q E r h
end Mn
namespace Mn
open PySem PySem.Spec PyProof.Rows L2
section
variable {σ : L2.St} {H : Hp} {Q : VK} {D : Ends} {g : TG} {tb : TS}
theorem w_forR2 {lo hi : Int} (Pv : Nat → L2.St → Hp → Prop) (b : -(2 ^ 62) ≤ lo ∧ lo < 2 ^ 62 ∧ -(2 ^ 62) ≤ hi ∧ hi < 2 ^ 62) (h0 : Pv 0 σ H)
    (hs : ∀ i σ H, i < (hi - lo).toNat → Pv i σ H → g (.int (lo + i)) σ H fun σ2 H2 => tb { D with nx := Pv (i + 1), ct := Pv (i + 1), bk := D.nx } σ2 H2) (hd : ∀ σ H, Pv (hi - lo).toNat σ H → D.nx σ H) :
    ∃ i j : Int, [V.int lo, V.int hi] = [V.int i, V.int j] ∧ (-(2 ^ 62) ≤ i ∧ i < 2 ^ 62 ∧ -(2 ^ 62) ≤ j ∧ j < 2 ^ 62) ∧ ∃ W : Nat → Nat → L2.St → Hp → Prop, (∃ m, W 0 m σ H) ∧ ∀ k m σ H, W k m σ H →
      ((Itr i (j - i).toNat).stop k H ∧ D.nx σ H) ∨ ((Itr i (j - i).toNat).go k H ∧ ∃ N : L2.St → Hp → Prop, (∀ σ' H', N σ' H' → ∃ m', m' < m ∧ W (k + 1) m' σ' H') ∧ ∀ x H', (Itr i (j - i).toNat).yld k H x H' → g x σ H' fun σ2 H2 => tb { D with nx := N, ct := N, bk := D.nx } σ2 H2) :=
  ⟨lo, hi, rfl, b, for_range Pv h0 hs hd⟩
theorem cutV_to (xs : List V) (n : Nat) : cutV xs none (some (n : Int)) = xs.take n := by
  unfold cutV
  rw [HT.sIx_none, HT.sIx_nat, List.drop_zero, Nat.sub_zero]
  by_cases h : n ≤ xs.length
  · rw [Nat.min_eq_left h]
  · rw [Nat.min_eq_right (by omega), List.take_of_length_le (Nat.le_refl _), List.take_of_length_le (by omega)]
theorem cutV_from (xs : List V) (n : Nat) : cutV xs (some (n : Int)) none = xs.drop n := by
  unfold cutV
  rw [HT.sIx_none, HT.sIx_nat]
  by_cases h : n ≤ xs.length
  · rw [Nat.min_eq_left h, List.take_of_length_le (by rw [List.length_drop]; exact Nat.le_refl _)]
  · rw [Nat.min_eq_right (by omega), List.drop_of_length_le (Nat.le_refl _), List.drop_of_length_le (by omega), List.take_nil]
theorem at_last {α : Type} {xs : List α} {v : α} (h0 : 0 < xs.length) (h : xs[xs.length - 1]? = some v) : atI xs (-1) = some v := by
  have hne : xs ≠ [] := List.length_pos_iff.mp h0
  rw [← List.dropLast_concat_getLast hne, atI_last]
  rw [← h, ← List.getLast?_eq_getElem?, List.getLast?_eq_some_getLast hne]
end
end Mn

/-! ### texts: stripped signs, numbers -/
namespace Mn
open PySem PySem.Spec PyProof.Rows L2 TL
open PySem.Builtin PySem.Builtin.Str
theorem mem_tl {x : Str} {c : Nat} (h : c ∈ tl x) : ∃ k, k < x.length ∧ x.cps.getD k 0 = c := by
  obtain ⟨k, hk, e⟩ := List.getElem_of_mem h
  refine ⟨k, by rw [len_tl]; exact hk, ?_⟩
  rw [← getD_list]
  simp [List.getD, List.getElem?_eq_getElem hk, e]
theorem getD_mem {x : Str} {k : Nat} (h : k < x.length) : x.cps.getD k 0 ∈ tl x := by
  rw [len_tl] at h
  rw [← getD_list]
  simp [List.getD, List.getElem?_eq_getElem h]
theorem lo_all {g : Nat → Bool} {x : Str} (h : ∀ c ∈ tl x, g c = true) : stripLo g true x = x.length := by
  obtain ⟨h1, _, h3⟩ := lo_facts g x
  rcases h3 with h3 | h3
  · exact h3
  · by_cases hl : stripLo g true x < x.length
    · rw [h _ (getD_mem hl)] at h3
      cases h3
    · omega
theorem strip_all {g : Nat → Bool} {x : Str} {r : Bool} (h : ∀ c ∈ tl x, g c = true) : Txt.stripBy g true r x = "" := by
  refine ext_tl ?_
  rw [stripBy_eq, tl_strSub, lo_all h, List.drop_eq_nil_of_le (by rw [len_tl]; exact Nat.le_refl _), List.take_nil]
  rfl
theorem strip_all_of {g : Nat → Bool} {x : Str} (h : Txt.stripBy g true true x = "") : ∀ c ∈ tl x, g c = true := by
  have e := congrArg tl h
  rw [stripBy_eq, tl_strSub] at e
  obtain ⟨h1, h2, h3⟩ := lo_facts g x
  obtain ⟨k1, k2, k3, k4⟩ := hi_facts g x _ h1
  have e' := congrArg List.length e
  rw [List.length_take, List.length_drop, ← len_tl] at e'
  have e0 : (tl "").length = 0 := rfl
  rw [e0] at e'
  intro c hc
  obtain ⟨k, hk, rfl⟩ := mem_tl hc
  by_cases hl : k < stripLo g true x
  · exact h2 k hl
  · exact k3 k (by omega) hk
theorem strip_chars {x y : Str} : Txt.stripChars x y = "" ↔ ∀ c ∈ tl x, y.cps.contains c = true := ⟨strip_all_of, strip_all⟩
theorem digit_has (c : Nat) : ("0123456789" : Str).cps.contains c = true ↔ 48 ≤ c ∧ c ≤ 57 := by
  show (Array.contains #[48, 49, 50, 51, 52, 53, 54, 55, 56, 57] c) = true ↔ _
  simp only [Array.contains_eq_mem, decide_eq_true_eq, List.mem_toArray, List.mem_cons, List.not_mem_nil, or_false]
  omega
theorem starts_one (x : Str) (c : Nat) : Txt.startswith x ⟨#[c]⟩ = decide ((tl x).head? = some c) := by
  unfold Txt.startswith subAt
  rw [Bool.eq_iff_iff]
  simp only [Bool.and_eq_true, decide_eq_true_eq, beq_iff_eq]
  rw [len_tl x]
  show 0 + 1 ≤ (tl x).length ∧ x.cps.extract 0 (0 + 1) = #[c] ↔ _
  rw [← Array.toList_inj]
  simp only [Array.toList_extract]
  show 0 + 1 ≤ (tl x).length ∧ (tl x).extract 0 (0 + 1) = [c] ↔ _
  cases tl x with
  | nil => simp
  | cons a r => simp [List.extract_eq_drop_take]
def figs (l : List Nat) : Bool := l.all fun c => decide (48 ≤ c) && decide (c ≤ 57)
theorem figs_iff {l : List Nat} : figs l = true ↔ NumText.AllDigits l := by
  unfold figs NumText.AllDigits
  rw [List.all_eq_true]
  exact ⟨fun h c hc => by have := h c hc; simpa using this, fun h c hc => by simpa using h c hc⟩
theorem strip_figs {x : Str} : Txt.stripChars x "0123456789" = "" ↔ figs (tl x) = true := by
  rw [strip_chars, figs_iff]
  exact ⟨fun h c hc => (digit_has c).mp (h c hc), fun h c hc => (digit_has c).mpr (h c hc)⟩
def numOk (l : List Nat) : Bool := decide (l ≠ []) && figs l && !(decide (1 < l.length) && decide (l.head? = some 48))
/-- the number that a text tells: figures alone, no nought ahead of others -/
def numOf (x : Str) : Option Int := if numOk (tl x) = true then some ((NumText.digitsVal (tl x) : Nat) : Int) else none
theorem eq_nil_tl {x : Str} : x = "" ↔ tl x = [] := ⟨fun h => by rw [h]; rfl, fun h => ext_tl h⟩
theorem numOf_none {x : Str} (h : numOk (tl x) = false) : numOf x = none := by
  unfold numOf
  rw [h]
  exact if_neg Bool.false_ne_true
theorem intText_figs {x : Str} (h : figs (tl x) = true) (h1 : tl x ≠ []) (h2 : x.length ≤ 640) : intText? x = some ((NumText.digitsVal (tl x) : Nat) : Int) := intText_digits (figs_iff.mp h) h1 (by omega)
theorem numL_head (n : Nat) (h : 0 < n) : (numL n).head? ≠ some 48 := by
  induction n using Nat.strongRecOn with
  | _ n ih =>
    by_cases h9 : n < 10
    · rw [numL_lt h9]
      intro e
      have := Option.some.inj e
      omega
    · rw [numL_step (by omega)]
      have i := ih (n / 10) (by omega) (by omega)
      have ne := numL_ne (n / 10)
      cases hc : numL (n / 10) with
      | nil => exact absurd hc ne
      | cons a r =>
        rw [hc] at i
        exact i
theorem numOk_numL (n : Nat) : numOk (numL n) = true := by
  unfold numOk
  rw [decide_eq_true (numL_ne n), figs_iff.mpr (numL_digits n)]
  by_cases h : n = 0
  · subst h
    rw [numL_lt (by decide)]
    rfl
  · rw [decide_eq_false (numL_head n (by omega)), Bool.and_false]
    rfl
theorem numOf_str (n : Nat) : numOf (Str.ofString (toString ((n : Nat) : Int))) = some (n : Int) := by
  unfold numOf
  rw [tl_num, if_pos (numOk_numL n), numL_val]
theorem numOf_sign {x : Str} {c : Nat} (h : c ∈ tl x) (hc : ¬ (48 ≤ c ∧ c ≤ 57)) : numOf x = none := by
  refine numOf_none ?_
  have f : figs (tl x) = false := Bool.eq_false_iff.mpr fun f => hc (figs_iff.mp f c h)
  unfold numOk
  rw [f, Bool.and_false, Bool.false_and]
theorem smol_big {i : Int} (h : i.natAbs < 2 ^ 1900) : Smol i := by
  unfold Smol
  by_cases h0 : i.natAbs = 0
  · rw [h0]; decide
  · have := (Nat.log2_lt h0).mpr h
    omega
theorem tl_cutS (z : Str) (lo hi : Option Int) : tl (cutS z lo hi) = ((tl z).drop (HT.sIx z.length 0 lo)).take (HT.sIx z.length z.length hi - HT.sIx z.length 0 lo) := rfl
theorem tl_cut_to (z : Str) (n : Nat) : tl (cutS z none (some (n : Int))) = (tl z).take n := by
  rw [tl_cutS, HT.sIx_none, HT.sIx_nat, List.drop_zero, Nat.sub_zero, len_tl z]
  by_cases h : n ≤ (tl z).length
  · rw [Nat.min_eq_left h]
  · rw [Nat.min_eq_right (by omega), List.take_of_length_le (Nat.le_refl _), List.take_of_length_le (by omega)]
theorem tl_cut_from (z : Str) (n : Nat) : tl (cutS z (some (n : Int)) none) = (tl z).drop n := by
  rw [tl_cutS, HT.sIx_none, HT.sIx_nat, len_tl z]
  by_cases h : n ≤ (tl z).length
  · rw [Nat.min_eq_left h, List.take_of_length_le (by rw [List.length_drop]; omega)]
  · rw [Nat.min_eq_right (by omega), List.drop_eq_nil_of_le (Nat.le_refl _), List.drop_eq_nil_of_le (by omega), List.take_nil]
theorem tl_cut_mid (z : Str) (n k : Nat) : tl (cutS z (some (n : Int)) (some ((n + k : Nat) : Int))) = ((tl z).drop n).take k := by
  rw [tl_cutS, HT.sIx_nat, HT.sIx_nat, len_tl z]
  by_cases h : n ≤ (tl z).length
  · rw [Nat.min_eq_left h]
    by_cases h2 : n + k ≤ (tl z).length
    · rw [Nat.min_eq_left h2, Nat.add_sub_cancel_left]
    · rw [Nat.min_eq_right (by omega), List.take_of_length_le (by rw [List.length_drop]; omega), List.take_of_length_le (by rw [List.length_drop]; omega)]
  · rw [Nat.min_eq_right (show (tl z).length ≤ n + k by omega), Nat.min_eq_right (show (tl z).length ≤ n by omega), List.drop_eq_nil_of_le (Nat.le_refl _), List.drop_eq_nil_of_le (by omega), List.take_nil, List.take_nil]
end Mn

/-! ### rules that hold whether nothing is handled, or one error that stands apart -/
namespace Mn
open PySem PySem.Spec PyProof.Rows L2 L2H HotX
/-- the handled error p, whose context is q, whose context is None -/
def Hot2 (A : Around) (p q : Addr × Obj) : Prop := A.handled = some (.ref p.1) ∧ p.1 ≠ q.1 ∧ (∃ vs : Array Value, p.2.data = .fields vs ∧ vs[2]? = some (.ref q.1)) ∧ ∃ ws : Array Value, q.2.data = .fields ws ∧ ws[2]? = some .none
/-- .. at a heap -/
def HotZ (A : Around) (x y : Addr) (h : Heap) : Prop := A.handled = some (.ref x) ∧ x ≠ y ∧ (∃ (o : Obj) (vs : Array Value), h.get? x = some o ∧ o.data = .fields vs ∧ vs[2]? = some (.ref y)) ∧ ∃ (o : Obj) (ws : Array Value), h.get? y = some o ∧ o.data = .fields ws ∧ ws[2]? = some .none
theorem HotZ.keep {A : Around} {x y : Addr} {h h' : Heap} (z : HotZ A x y h) (kx : ∀ o, h.get? x = some o → h'.get? x = some o) (ky : ∀ o, h.get? y = some o → h'.get? y = some o) : HotZ A x y h' := by
  obtain ⟨hh, ne, ⟨o, vs, e, d, c⟩, ⟨o', vs', e', d', c'⟩⟩ := z
  exact ⟨hh, ne, ⟨o, vs, kx _ e, d, c⟩, ⟨o', vs', ky _ e', d', c'⟩⟩
/-- nothing is handled, or such an error, pinned -/
def GC (A : Around) (calm : Bool) (pn : List (Addr × Obj)) : Prop := calm = true ∨ ∃ p q, Hot2 A p q ∧ p ∈ pn ∧ q ∈ pn
/-- .. with room for calls of k levels -/
structure RG (k : Nat) (A : Around) (calm : Bool) (pn : List (Addr × Obj)) : Prop where
  room : RoomH k A
  gc : GC A calm pn
theorem RG.mono {j k : Nat} {A : Around} {c : Bool} {pn : List (Addr × Obj)} (r : RG k A c pn) (h : j ≤ k) : RG j A c pn := ⟨r.room.mono h, r.gc⟩
theorem RG.units {k : Nat} {A : Around} {c : Bool} {pn : List (Addr × Obj)} (r : RG k A c pn) : A.units + 64 < cLine := by have := r.room.un; omega
theorem RG.units0 {k : Nat} {A : Around} {c : Bool} {pn : List (Addr × Obj)} (r : RG k A c pn) : A.units < cLine := by have := r.room.un; omega
/-- at a state: nothing handled, or the error is there, and neither it nor its context is b -/
def GAt (A : Around) (h : Heap) (b : Addr) : Prop := A.handled = none ∨ ∃ x y, HotZ A x y h ∧ x ≠ b ∧ y ≠ b
section
variable {X : Cx} {pins pl : List (Addr × Obj)} {σ : L2.St} {H : Hp} {s : Shared}
theorem GC.at (g : GC X.A X.calm (X.pn ++ pins)) (I : Inv X pins σ H s) {b : Addr} (hb : ∀ p ∈ X.pn ++ pins, p.1 ≠ b) : GAt X.A s.heap b := by
  rcases g with g | ⟨p, q, ⟨hh, ne, ⟨vs, e, c⟩, ⟨ws, e', c'⟩⟩, hp, hq⟩
  · exact .inl (I.ok.hd g)
  · exact .inr ⟨p.1, q.1, ⟨hh, ne, ⟨p.2, vs, (I.pin p hp).1, e, c⟩, ⟨q.2, ws, (I.pin q hq).1, e', c'⟩⟩, hb p hp, hb q hq⟩
theorem GC.more {A : Around} {c : Bool} {pn : List (Addr × Obj)} (g : GC A c pn) (pl : List (Addr × Obj)) : GC A c (pn ++ pl) := by
  rcases g with g | ⟨p, q, h, hp, hq⟩
  · exact .inl g
  · exact .inr ⟨p, q, h, List.mem_append_left _ hp, List.mem_append_left _ hq⟩
theorem pin_ok {p : Addr × Obj} (I : Inv X pins σ H s) (hp : p ∈ X.pn) : PinOk X.stack H s p := by
  have z := I.pin p (List.mem_append_left _ hp)
  refine ⟨z.1, z.2.1, fun m => ?_, z.2.2.2.2⟩
  rcases List.mem_cons.mp (I.stkSub p.1 m) with e | e
  · exact z.2.2.1 e
  · exact z.2.2.2.1 e
end
/-! ### the ends of iterators -/
section
variable {prog : Program} {w : World} {A : Around} {E : Value → Shared → Prop} {s : Shared}
/-- raised there: its context is the handled error -/
theorem raise_hot2 {α : Type} {a x y : Addr} {oe : Obj} {vs : Array Value} {Q : α → Shared → Prop} (hot : HotZ A x y s.heap) (hx : x ≠ a) (hy : y ≠ a) (ha : s.heap.get? a = some oe) (da : oe.data = .fields vs) (hi : 2 < vs.size)
    (hE : E (.ref a) { s with heap := s.heap.update a (Obj.mapFields (·.setIfInBounds 2 (.ref x))) }) : wpAny (model prog w) A (raiseNew (.ref a) : Sem α) Q E s := by
  obtain ⟨hh, ne, ⟨o1, v1, h1, d1, c1⟩, ⟨o2, v2, h2, d2, c2⟩⟩ := hot
  have n1 : ¬ ((Value.ref y == Value.none) = true) := Bool.false_ne_true
  have n2 : ¬ ((Value.ref y == Value.ref a) = true) := fun z => hy (Value.ref.inj (eq_of_beq z))
  have n3 : ¬ ((Value.ref y == Value.ref x) = true) := fun z => ne (Value.ref.inj (eq_of_beq z)).symm
  have un : ∀ {Q : Value → Shared → Prop}, Q .none s → wpAny (model prog w) A (holding [Value.ref a] (runValue (.builtin "proto.unchain" ⟨[.ref a, .ref x, .ref x, .bool false], []⟩))) Q E s := fun {Q} q => by
    refine wpAny_holding (wpAny_runValue (codeAny_builtin entry_unchain ?_))
    show wpAny _ _ (field (.ref x) 2 >>= _) _ _ s
    refine wpAny_bind (wpAny_field h1 d1 c1 ?_)
    rw [if_neg n1]
    try dsimp only
    rw [if_neg n2]
    try dsimp only
    rw [if_neg n3]
    try dsimp only
    rw [if_neg Bool.false_ne_true]
    refine wpAny_bind (wpAny_pure ?_)
    unfold again
    refine wpAny_pure (a := Fin.again (.builtin "proto.unchain" ⟨[.ref a, .ref y, .ref x, .bool true], []⟩)) ⟨plainId_quiet (by decide +kernel) _, codeAny_builtin entry_unchain ?_⟩
    show wpAny _ _ (field (.ref y) 2 >>= _) _ _ s
    refine wpAny_bind (wpAny_field h2 d2 c2 ?_)
    rw [if_pos (show (Value.none == Value.none) = true from rfl)]
    first
    | exact wpAny_bind (wpAny_pure (wpAny_pure q))
    | exact wpAny_pure q
  unfold raiseNew
  refine wpAny_bind (wpAny_handled ?_)
  rw [hh]
  have hb : (Value.ref x != Value.ref a) = true := ref_bne hx
  first
  | (show wpAny _ _ (if (Value.ref x != Value.ref a) = true then _ else _) _ _ _
     rw [if_pos hb]
     first
     | exact wpAny_bind (un (wpAny_bind (chained ha da hi (wpAny_throw hE))))
     | exact wpAny_bind (wpAny_bind (un (chained ha da hi (wpAny_throw hE)))))
  | (refine wpAny_bind ?_
     show wpAny _ _ (if (Value.ref x != Value.ref a) = true then _ else _) _ _ _
     rw [if_pos hb]
     exact wpAny_bind (un (chained ha da hi (wpAny_throw hE))))
/-- an exception of no argument made and thrown there: the caller sees two objects more, the second written once -/
theorem stop_hot {α : Type} {x y : Addr} {h0 : Heap} {t e : Obj} {vs : Array Value} {Q : α → Shared → Prop} (hot : HotZ A x y h0) (hd : e.data = .fields vs) (hi : 2 < vs.size) (nf : e.isFreed = false)
    (hE : ∀ h', (∀ b o, h0.get? b = some o → h'.get? b = some o) → (∃ o, h'.get? (h0.push t).objs.size = some o ∧ o.cls = e.cls) → E (.ref (h0.push t).objs.size) { s with heap := h' }) :
    wpAny (model prog w) A (raiseNew (.ref (h0.push t).objs.size) : Sem α) Q E { s with heap := (h0.push t).push e } := by
  have kp : ∀ b o, h0.get? b = some o → ((h0.push t).push e).get? b = some o := fun b o z => Heap.get?_push_of_some _ (Heap.get?_push_of_some _ z)
  have lt : ∀ b o, h0.get? b = some o → b < (h0.push t).objs.size := fun b o z => Heap.lt_size (Heap.get?_push_of_some _ z)
  have k2 : ((h0.push t).push e).get? (h0.push t).objs.size = some e := Heap.get?_push_size _ nf
  have nx : x ≠ (h0.push t).objs.size := by obtain ⟨_, _, ⟨o, _, z, _⟩, _⟩ := hot; exact Nat.ne_of_lt (lt _ _ z)
  have ny : y ≠ (h0.push t).objs.size := by obtain ⟨_, _, _, ⟨o, _, z, _⟩⟩ := hot; exact Nat.ne_of_lt (lt _ _ z)
  refine raise_hot2 (s := { s with heap := (h0.push t).push e }) (hot.keep (kp x) (kp y)) nx ny k2 hd hi ?_
  refine hE _ (fun b u hb => ?_) ⟨_, Heap.get?_update_self _ k2 (Obj.isFreed_of_fields (Obj.data_mapFields hd _)), Obj.cls_mapFields ..⟩
  rw [Heap.get?_update_other _ _ (Nat.ne_of_gt (lt _ _ hb))]
  exact kp _ _ hb
theorem next_range_g {it : Addr} {x left step : Int} {Q : Option Value → Shared → Prop} (g : GAt A s.heap it) (hit : IsRangeIter s.heap it x left step) (hleft : left ≤ 0)
    (hQ : ∀ h', Heap.ExtBut it s.heap h' → Q none { s with heap := h' }) : wpAny (model prog w) A (pyNext (.ref it)) Q E s := by
  rcases g with g | ⟨a, b, hot, ne, ne'⟩
  · exact wpAny_pyNext_range_end g hit hleft hQ
  have hT : s.TypeIs (.ref it) "range_iterator" := ⟨_, hit, rfl⟩
  unfold pyNext
  refine wpAny_bind (wpAny_attempt (wpAny_callSpecial?_slot (name := Str.ofString "__next__") hT F.slot_range_iterator_next (wpAny_call_entry F.slot_range_iterator_next hT F.entry_range_iterator_next ?_ (F.args_range_iterator_next_1 _))))
  show wpAny _ _ (field (.ref it) 0 >>= _) _ _ _
  refine wpAny_bind (wpAny_field hit rfl (x := rawInt x) rfl ?_)
  show wpAny _ _ (field (.ref it) 1 >>= _) _ _ _
  refine wpAny_bind (wpAny_field hit rfl (x := rawInt left) rfl ?_)
  show wpAny _ _ (field (.ref it) 2 >>= _) _ _ _
  refine wpAny_bind (wpAny_field hit rfl (x := rawInt step) rfl ?_)
  show wpAny _ _ (if left ≤ 0 then _ else _) _ _ _
  rw [if_pos hleft]
  refine wpAny_bind (wpAny_rule ?_)
  refine wpAny_bind ?_
  show wpAny _ _ (newExc (.type "StopIteration") [] >>= _) _ _ _
  refine wpAny_bind ?_
  simp only [newExc, newTuple]
  refine wpAny_bind (wpAny_newObj_type ?_ (by size_fits))
  refine wpAny_bind (m := firstArgMember _ _) (wpAny_of_eq (a := Value.none) (by first | rfl | (simp only [firstArgMember]; rfl)) ?_)
  refine wpAny_newObj_type ?_ (by size_fits)
  refine stop_hot hot rfl (by first | (simp; done) | (simp; omega) | (simp only [Array.size_append]; simp; omega)) rfl fun h' kp st => ?_
  refine wpAny_bind (wpAny_isInstance (T := "StopIteration") (b := true) st isSubtype_stop ?_)
  exact wpAny_pure (hQ _ fun b u nb hb => kp b u hb)
theorem next_list_g {it l : Addr} {i : Nat} {items : Array Value} {Q : Option Value → Shared → Prop} (g : GAt A s.heap it) (hit : s.heap.IsListIter it l i) (hl : s.heap.IsList l items) (hx : items[i]? = none)
    (hQ : ∀ h', Heap.ExtBut it s.heap h' → Q none { s with heap := h' }) : wpAny (model prog w) A (pyNext (.ref it)) Q E s := by
  rcases g with g | ⟨x, y, hot, ne, ne'⟩
  · exact wpAny_pyNext_list_end g hit hl hx hQ
  have ⟨o, ho, _, hd⟩ := hit
  obtain ⟨ol, hol, _, nl, hdl⟩ := hl
  unfold pyNext
  refine wpAny_bind (wpAny_attempt (wpAny_callSpecial?_slot (name := Str.ofString "__next__") hit.typeIs slot_listiter_next (wpAny_call_entry slot_listiter_next hit.typeIs entry_listiter_next ?_ (args_listiter_next _))))
  show wpAny _ _ (field (.ref it) 0 >>= _) _ _ _
  refine wpAny_bind (wpAny_field ho hd (x := .ref l) rfl ?_)
  have nn : ¬ ((Value.ref l == Value.none) = true) := Bool.false_ne_true
  show wpAny _ _ (if (Value.ref l == Value.none) = true then _ else _) _ _ _
  rw [if_neg nn]
  show wpAny _ _ (field (.ref it) 1 >>= _) _ _ _
  refine wpAny_bind (wpAny_field ho hd (x := .int i 0) rfl ?_)
  show wpAny _ _ (seqItems? (.ref l) >>= _) _ _ _
  refine wpAny_bind (wpAny_seqItems hol hdl ?_)
  simp only [Int.toNat_natCast, hx]
  refine wpAny_bind (wpAny_rule (wpAny_bind (wpAny_setField ho hd (by simp) ?_)))
  show wpAny _ _ (newExc (.type "StopIteration") [] >>= _) _ _ _
  refine wpAny_bind ?_
  simp only [newExc, newTuple]
  refine wpAny_bind (wpAny_newObj_type ?_ (by size_fits))
  refine wpAny_bind (m := firstArgMember _ _) (wpAny_of_eq (a := Value.none) (by first | rfl | (simp only [firstArgMember]; rfl)) ?_)
  refine wpAny_newObj_type ?_ (by size_fits)
  refine stop_hot (hot.keep (fun o e => (Heap.get?_update_other _ _ (Ne.symm ne)).trans e) (fun o e => (Heap.get?_update_other _ _ (Ne.symm ne')).trans e)) rfl (by first | (simp; done) | (simp; omega) | (simp only [Array.size_append]; simp; omega)) rfl fun h' kp st => ?_
  refine wpAny_bind (wpAny_isInstance (T := "StopIteration") (b := true) st isSubtype_stop ?_)
  exact wpAny_pure (hQ _ fun b u nb hb => kp b u ((Heap.get?_update_other _ _ (Ne.symm nb)).trans hb))
theorem next_tup_g {it t : Addr} {i : Nat} {items : Array Value} {Q : Option Value → Shared → Prop} (g : GAt A s.heap it) (hit : IsTupIter s.heap it t i) (ht : IsTup s.heap t items) (hx : items[i]? = none)
    (hQ : ∀ h', Heap.ExtBut it s.heap h' → Q none { s with heap := h' }) : wpAny (model prog w) A (pyNext (.ref it)) Q E s := by
  rcases g with g | ⟨x, y, hot, ne, ne'⟩
  · exact next_tuple_end g hit ht hx hQ
  have ⟨o, ho, _, hd⟩ := hit
  obtain ⟨ol, hol, _, nl, hdl⟩ := ht
  unfold pyNext
  refine wpAny_bind (wpAny_attempt (wpAny_callSpecial?_slot (name := Str.ofString "__next__") hit.typeIs slot_tupleiter_next (wpAny_call_entry slot_tupleiter_next hit.typeIs entry_tupleiter_next ?_ (args_tupleiter_next _))))
  show wpAny _ _ (field (.ref it) 0 >>= _) _ _ _
  refine wpAny_bind (wpAny_field ho hd (x := .ref t) rfl ?_)
  have nn : ¬ ((Value.ref t == Value.none) = true) := Bool.false_ne_true
  show wpAny _ _ (if (Value.ref t == Value.none) = true then _ else _) _ _ _
  rw [if_neg nn]
  show wpAny _ _ (field (.ref it) 1 >>= _) _ _ _
  refine wpAny_bind (wpAny_field ho hd (x := .int i 0) rfl ?_)
  show wpAny _ _ (seqItems? (.ref t) >>= _) _ _ _
  refine wpAny_bind (wpAny_seqItems hol hdl ?_)
  simp only [Int.toNat_natCast, hx]
  refine wpAny_bind (wpAny_rule (wpAny_bind (wpAny_setField ho hd (by simp) ?_)))
  show wpAny _ _ (newExc (.type "StopIteration") [] >>= _) _ _ _
  refine wpAny_bind ?_
  simp only [newExc, newTuple]
  refine wpAny_bind (wpAny_newObj_type ?_ (by size_fits))
  refine wpAny_bind (m := firstArgMember _ _) (wpAny_of_eq (a := Value.none) (by first | rfl | (simp only [firstArgMember]; rfl)) ?_)
  refine wpAny_newObj_type ?_ (by size_fits)
  refine stop_hot (hot.keep (fun o e => (Heap.get?_update_other _ _ (Ne.symm ne)).trans e) (fun o e => (Heap.get?_update_other _ _ (Ne.symm ne')).trans e)) rfl (by first | (simp; done) | (simp; omega) | (simp only [Array.size_append]; simp; omega)) rfl fun h' kp st => ?_
  refine wpAny_bind (wpAny_isInstance (T := "StopIteration") (b := true) st isSubtype_stop ?_)
  exact wpAny_pure (hQ _ fun b u nb hb => kp b u ((Heap.get?_update_other _ _ (Ne.symm nb)).trans hb))
/-- (a, b) = a tuple of that length -/
theorem assign_tup_g {env : Env} {elts : List Expr} {k : Nat} {pos : Pos} {t : Addr} {items : Array Value} {Q : Unit → Shared → Prop} (g : GAt A s.heap s.heap.objs.size) (ht : IsTup s.heap t items)
    (hn : (assignEach elts env).length = items.size) (hstar : (assignEach elts env).findIdx? (·.1) = none)
    (h : ∀ h', Heap.ExtBut s.heap.objs.size s.heap h' → wpAny (model prog w) A (assignInOrder ((assignEach elts env).map (·.2)) items.toList) Q E { s with heap := h' }) :
    wpAny (model prog w) A (assign (.Tuple elts k pos) env (.ref t)) Q E s := by
  have ne : t ≠ s.heap.objs.size := Nat.ne_of_lt ht.lt
  rw [assign_Tuple]
  refine wpAny_bind (wpAny_standAt ?_)
  unfold unpack
  rw [hn, hstar]
  refine wpAny_bind (wpAny_holding ?_)
  unfold unpackItems notIterableAtAll
  refine wpAny_bind (wpAny_bind (wpAny_specialOf ht.typeIs slot_tuple_iter.lookup (wpAny_pure ?_)))
  simp only [Bool.false_eq_true, if_false]
  first
  | refine wpAny_pure ?_
  | skip
  refine wpAny_bind (wpAny_holding (iter_tuple ht ?_))
  refine wpAny_bind (wpAny_holding (draw_tuple ne items.size 0 _ _ ⟨_, Heap.get?_push_size _ rfl, rfl, rfl⟩ (ht.push _) (by omega) fun h1 it1 sb => ?_))
  rw [List.drop_zero, List.take_of_length_le (show items.toList.length ≤ items.size by simp), if_neg (by simp)]
  have g1 : GAt A h1 s.heap.objs.size := by
    rcases g with g | ⟨x, y, hot, nx, ny⟩
    · exact .inl g
    · exact .inr ⟨x, y, hot.keep (fun o e => sb.extBut x o nx (Heap.get?_push_of_some _ e)) (fun o e => sb.extBut y o ny (Heap.get?_push_of_some _ e)), nx, ny⟩
  refine wpAny_bind (wpAny_holding (next_tup_g (s := { s with heap := h1 }) g1 it1 ((ht.push _).extBut sb.extBut ne) (by simp) fun h2 e2 => ?_))
  simp only [Option.isSome_none, Bool.false_eq_true, if_false]
  exact wpAny_pure (h h2 fun b o nb e => e2 b o nb (sb.extBut b o nb (Heap.get?_push_of_some _ e)))
end
end Mn

/-! ### loops and comprehensions, whether an error is handled or not -/
namespace Mn
open PySem PySem.Spec PyProof.Rows L2 L2H HotX
structure TurnG (P : Program) (w : World) (K : PySem.W.Frag) (tg : Expr) (J : It) (fp : List Addr) (it : Addr) (tn : Nat → Heap → Prop) : Prop where
  obj : ∀ i h, tn i h → ∀ b ∈ fp, ∃ o, h.get? b = some o ∧ ∀ v, o.data ≠ .cell v
  keep : ∀ i h h', tn i h → (∀ b ∈ fp, ∀ o, h.get? b = some o → h'.get? b = some o) → tn i h'
  item : ∀ (X : Cx), X.prog = P → X.w = w → X.K = K → ∀ (i : Nat) (pins : List (Addr × Obj)) (s : Shared) (σ : L2.St) (H : Hp) (E : Value → Shared → Prop), Inv X pins σ H s → (∀ b ∈ fp, FpOk X pins H b) → tn i s.heap → J.go i H →
    wpAny (model P w) X.A (pyNext (.ref it)) (fun r s1 => ∃ u, r = some u ∧
      wpAny (model P w) X.A (letOwnedTupleGo tg (.ref it) u) (fun _ s2 => ∃ x H', Inv X pins σ H' s2 ∧ RelV x u ∧ J.yld i H x H' ∧ tn (i + 1) s2.heap ∧ ∀ b ∈ fp, H' b = none) E s1) E s
  done : ∀ (X : Cx), X.prog = P → X.w = w → X.K = K → ∀ (i : Nat) (pins : List (Addr × Obj)) (s : Shared) (σ : L2.St) (H : Hp) (E : Value → Shared → Prop), GC X.A X.calm (X.pn ++ pins) → Inv X pins σ H s → (∀ b ∈ fp, FpOk X pins H b) → tn i s.heap → J.stop i H →
    wpAny (model P w) X.A (pyNext (.ref it)) (fun r s1 => r = none ∧ Inv X pins σ H s1) E s
  self : ∀ (A : Around) (i : Nat) (s : Shared) (Q : Value → Shared → Prop) (E : Value → Shared → Prop), tn i s.heap → Q (.ref it) s → wpAny (model P w) A (pyIter (.ref it)) Q E s
section
variable {P : Program} {w : World} {K : PySem.W.Frag} {tg : Expr}
theorem turn_listG (a it : Addr) : TurnG P w K tg (Itl K a) [it] it (fun i h => h.IsListIter it a i) where
  obj := fun i h st b hb => by
    obtain rfl : b = it := List.mem_singleton.mp hb
    obtain ⟨o, e, _, d⟩ := st
    refine ⟨o, e, fun v z => ?_⟩
    rw [d] at z
    cases z
  keep := fun i h h' st k => st.at fun o e => k it List.mem_cons_self o e
  item := by
    intro X hP hw hK i pins s σ H E I hf st hg
    subst hP hw hK
    obtain ⟨xs, x, hq, hx⟩ := hg
    obtain ⟨its, rv, p, _⟩ := I.list hq
    obtain ⟨u, hu, ru⟩ := rv.get hx
    obtain ⟨f0, f1, f2, f3, f4, f5⟩ := hf it List.mem_cons_self
    refine wpAny_pyNext_list_item st p.isList (x := u) (by simpa using hu) fun h' st' sb => ?_
    have I1 : Inv X pins σ H { s with heap := h' } := I.turned (t' := s.toks) (fun b o hb e => (sb.2 b hb).trans e) f0 f1 f3 f4 f5
    have ⟨o, e, c, d⟩ := st'
    refine ⟨u, rfl, go_of (s := { s with heap := h' }) e c d (by decide) ⟨x, H, I1, ru, ⟨rfl, fun ys hy => ?_⟩, st', fun b hb => (hf b hb).1⟩⟩
    rw [I.list_inj hy hq]
    exact hx
  done := by
    intro X hP hw hK i pins s σ H E g I hf st hg
    subst hP hw hK
    obtain ⟨xs, hq, hx⟩ := hg
    obtain ⟨its, rv, p, _⟩ := I.list hq
    obtain ⟨f0, f1, f2, f3, f4, f5⟩ := hf it List.mem_cons_self
    have hl := rv.length
    exact next_list_g (g.at I f5) st p.isList (by simp; omega) fun h' eb => ⟨rfl, I.turned (t' := s.toks) (fun b o hb e => eb b o hb e) f0 f1 f3 f4 f5⟩
  self := fun _ _ _ _ _ st h => wpAny_pyIter_listiter st h
theorem turn_rangeG (it : Addr) (lo : Int) (n : Nat) : TurnG P w K tg (Itr lo n) [it] it (fun i h => IsRangeIter h it (lo + (i : Nat) * 1) ((n : Int) - (i : Nat)) 1) where
  obj := (turn_rangeH (P := P) (w := w) (K := K) (tg := tg) it lo n).obj
  keep := (turn_rangeH (P := P) (w := w) (K := K) (tg := tg) it lo n).keep
  item := by
    intro X hP hw hK i pins s σ H E I hf st hg
    subst hP hw hK
    obtain ⟨f0, f1, f2, f3, f4, f5⟩ := hf it List.mem_cons_self
    have hlt : i < n := hg
    refine wpAny_pyNext_range_item st (by omega) fun h' st' sb => ?_
    have st2 : IsRangeIter h' it (lo + ((i + 1 : Nat) : Int) * 1) ((n : Int) - ((i + 1 : Nat) : Int)) 1 := by
      rw [show lo + ((i + 1 : Nat) : Int) * 1 = lo + ((i : Nat) : Int) * 1 + 1 by omega, show (n : Int) - ((i + 1 : Nat) : Int) = (n : Int) - ((i : Nat) : Int) - 1 by omega]
      exact st'
    have I1 : Inv X pins σ H { s with heap := h', toks := s.toks + 1 } := I.turned (fun b o hb e => (sb.2 b hb).trans e) f0 f1 f3 f4 f5
    refine ⟨_, rfl, go_of (s := { s with heap := h', toks := s.toks + 1 }) (n := "range_iterator") st2 rfl rfl (by decide) ⟨.int (lo + i), H, I1, ⟨s.toks, ?_⟩, ⟨rfl, rfl⟩, st2, fun b hb => (hf b hb).1⟩⟩
    rw [Int.mul_one]
  done := by
    intro X hP hw hK i pins s σ H E g I hf st hg
    subst hP hw hK
    obtain ⟨f0, f1, f2, f3, f4, f5⟩ := hf it List.mem_cons_self
    have le : (n : Int) - (i : Nat) ≤ 0 := by have : n ≤ i := hg; omega
    exact next_range_g (g.at I f5) st le fun h' eb => ⟨rfl, I.turned (t' := s.toks) (fun b o hb e => eb b o hb e) f0 f1 f3 f4 f5⟩
  self := fun _ _ _ _ _ st h => wpAny_pyIter_rangeiter st h
end
def PIEG (X : Cx) (pins : List (Addr × Obj)) (σ : L2.St) (tg : Expr) (R : It → Hp → Prop) (itv : Value) (s2 : Shared) : Prop :=
  ∃ (it : Addr) (fp : List Addr) (tn : Nat → Heap → Prop) (J : It) (H' : Hp), itv = .ref it ∧ Inv X pins σ H' s2 ∧ TurnG X.prog X.w X.K tg J fp it tn ∧ tn 0 s2.heap ∧ (∀ b ∈ fp, FpOk X pins H' b) ∧ R J H'
structure PIG (X : Cx) (tg iter : Expr) (wi : TI) : Prop where
  run : ∀ (pins : List (Addr × Obj)) (s : Shared) (σ : L2.St) (H : Hp) (R : It → Hp → Prop), Inv X pins σ H s → wi σ H R →
    wpAny (model X.prog X.w) X.A (eval iter X.env) (fun v s1 => wpAny (model X.prog X.w) X.A (pyIter v) (PIEG X pins σ tg R) X.xe s1) X.xe s
section
variable {X : Cx} {K : PySem.W.Frag} {tg : Expr}
theorem pi_listG {l : Expr} {tl : TE} (hl : PE X l tl) : PIG X tg l (iList X.K tl) := by
  refine ⟨fun pins s σ H R I h => thn (hl.run pins s σ H _ I h) fun v s1 ⟨x, H1, I1, r1, a, e, ⟨xs, hq⟩, q⟩ => ?_⟩
  subst e
  cases r1
  obtain ⟨its, rv, p, _⟩ := I1.list hq
  refine wpAny_pyIter_list p.isList ⟨s1.heap.objs.size, [s1.heap.objs.size], _, _, H1, rfl, I1.kept (t' := s1.toks) fun b o e => Heap.get?_push_of_some _ e, turn_listG a _, ⟨_, Heap.get?_push_size _ rfl, rfl, rfl⟩, fun b hb => ?_, q⟩
  obtain rfl := List.mem_singleton.mp hb
  exact I1.fpOk (Nat.le_refl _) (I1.hok.fresh (Nat.le_refl _))
theorem kPiLG {e : Expr} {te : TE} (hK : X.K = K) (hl : PE X e te) : PIG X tg e (iList K te) := hK ▸ pi_listG hl
theorem pi_range1G {a : Expr} {ta : TA} {p pos : Pos} (hg : Gl X "range") (hm : X.mg "range" = none) (ha : PA X [a] ta) (hs : starEach [a] X.env = [(false, eval a X.env)] := by rfl) : PIG X tg (.Call (.Name "range" p) [a] [] pos) (iRng1 ta) := by
  refine ⟨fun pins s σ H R I h => Call_ (ld_blt I hg hm boot_range (PyProof.Rows.callWith_type1 (thn (ha.run pos pins s σ H _ I h) fun us s1 ⟨vs, H1, I1, r1, j, e, q1, q2, q⟩ => ?_) hs rfl))⟩
  subst e
  cases r1 with
  | cons r rr =>
    cases rr
    obtain ⟨t, rfl⟩ := r
    refine call_range_1 (wpAny_pyIter_range (IsRange.new ..) (small_one (by omega) (by omega) q1 q2) ?_)
    refine ⟨_, _, _, _, H1, rfl, I1.kept fun b o e => Heap.get?_push_of_some _ (Heap.get?_push_of_some _ e), turn_rangeG _ 0 (j - 0).toNat, ?_, fun b hb => ?_, by simpa using q⟩
    · have e1 : (0 : Int) + ((0 : Nat) : Int) * 1 = 0 := by simp
      have e2 : (((j - 0).toNat : Nat) : Int) - ((0 : Nat) : Int) = Builtin.Range.rangeSize 0 j 1 := by rw [rangeSize_one]; split <;> omega
      show IsRangeIter _ _ ((0 : Int) + ((0 : Nat) : Int) * 1) ((((j - 0).toNat : Nat) : Int) - ((0 : Nat) : Int)) 1
      rw [e1, e2]
      exact Heap.get?_push_size _ rfl
    · obtain rfl := List.mem_singleton.mp hb
      exact I1.fpOk (by rw [Heap.size_push]; exact Nat.le_succ _) (I1.hok.fresh (by rw [Heap.size_push]; exact Nat.le_succ _))
theorem ps_forG {iter : Expr} {body : List Stmt} {wi : TI} {g : TG} {tb : TS} {pos : Pos} (hp : PassesOwn (model X.prog X.w) X.A X.env X.xe) (hc : GC X.A X.calm X.pn) (hi : PIG X tg iter wi) (hg : PG X tg g) (hb : PSs X body tb)
    (hs : ∀ x, foldedSetIterable iter X.env x = pure x := by intro _; rfl) : PS X (.For tg iter body [] pos) (tFor wi g tb) := by
  refine ⟨fun pins s σ H D I h => wpAny_For (thn (hi.run pins s σ H _ I h) fun v s1 h1 => thn h1 fun itv s2 h2 => ?_) hs⟩
  obtain ⟨it, fp, tn, J, H2, rfl, I2, T, t2, f2, W, ⟨m0, w0⟩, turn⟩ := h2
  have still : ∀ {H' : Hp}, (∀ b ∈ fp, H' b = none) → ∀ b ∈ fp, FpOk X pins H' b := fun hn b hb => ⟨hn b hb, (f2 b hb).2⟩
  refine codeAny_forLoop_any (fun n s' => ∃ i σ' H', Inv X pins σ' H' s' ∧ tn i s'.heap ∧ (∀ b ∈ fp, H' b = none) ∧ W i n σ' H') ?_ m0 ⟨0, σ, H2, I2, t2, fun b hb => (f2 b hb).1, w0⟩
  rintro n s3 ⟨i, σ3, H3, I3, t3, fr, w3⟩
  rcases turn i n σ3 H3 w3 with ⟨stop, qn⟩ | ⟨go, N, hN, step⟩
  · refine wpAny_passesOwn hp (thn (T.done X rfl rfl rfl i pins s3 σ3 H3 X.xe (hc.more pins) I3 (still fr) t3 stop) fun r s4 ⟨hr, I4⟩ => ?_)
    subst hr
    exact wpAny_execs_nil ⟨σ3, H3, I4, qn⟩
  · refine wpAny_passesOwn hp (thn (T.item X rfl rfl rfl i pins s3 σ3 H3 X.xe I3 (still fr) t3 go) fun r s4 ⟨u, hr, h4⟩ => ?_)
    subst hr
    refine wpAny_passesOwn hp (thn h4 fun _ s5 ⟨x, H5, I5, r5, y5, t5, fr5⟩ => ?_)
    refine wpAny_passesOwn hp (thn (hg.run _ s5 σ3 H5 x u _ (I5.pinned (still fr5) (T.obj _ _ t5)) r5 (step x H5 y5)) fun _ s6 ⟨σ6, H6, I6, q6⟩ => ?_)
    refine wpAny_passesOwn hp (thn (hb.run _ s6 σ6 H6 _ I6 q6) fun f s7 q7 => ?_)
    have again : ∀ {σ7 : L2.St} {H7 : Hp}, Inv X (pins ++ pinsAt fp s5.heap) σ7 H7 s7 → N σ7 H7 → ∃ m, m < n ∧ ∃ i σ' H', Inv X pins σ' H' s7 ∧ tn i s7.heap ∧ (∀ b ∈ fp, H' b = none) ∧ W i m σ' H' := fun {σ7 H7} I7 n7 => by
      obtain ⟨m', hm, w7⟩ := hN σ7 H7 n7
      have at_ : ∀ b ∈ fp, ∀ o, s5.heap.get? b = some o → s7.heap.get? b = some o ∧ H7 b = none := fun b hb o e => by
        have z := I7.pin (b, o) (List.mem_append_right _ (List.mem_append_right _ (mem_pinsAt hb e)))
        exact ⟨z.1, z.2.1⟩
      refine ⟨m', hm, i + 1, σ7, H7, I7.unpinned, T.keep _ _ _ t5 fun b hb o e => (at_ b hb o e).1, fun b hb => ?_, w7⟩
      obtain ⟨o, e, _⟩ := T.obj _ _ t5 b hb
      exact (at_ b hb o e).2
    cases f with
    | next => obtain ⟨_, _, I7, n7⟩ := q7; exact again I7 n7
    | cont => obtain ⟨_, _, I7, n7⟩ := q7; exact again I7 n7
    | brk => obtain ⟨σ7, H7, I7, q7⟩ := q7; exact ⟨σ7, H7, I7.unpinned, q7⟩
    | ret v => obtain ⟨x7, σ7, H7, I7, r7, q7⟩ := q7; exact ⟨x7, σ7, H7, I7.unpinned, r7, q7⟩
theorem kTupG {es : List Expr} {k n : Nat} {gs : TGs} {pos : Pos} (hK : X.K = K) (hc : GC X.A X.calm X.pn) (h : PGs X es gs)
    (hn : (assignEach es X.env).length = n := by rfl) (hst : (assignEach es X.env).findIdx? (·.1) = none := by rfl) : PG X (.Tuple es k pos) (gTup K n gs) := by
  subst hK
  refine ⟨fun pins s σ H v u Q I r ⟨a, xs, e, hq, hl, hw⟩ => ?_⟩
  subst e
  cases r
  obtain ⟨its, rv, ht, _⟩ := I.tuple hq
  have g : GAt X.A s.heap s.heap.objs.size := GC.at (hc.more pins) I fun p hp => Nat.ne_of_lt (Heap.lt_size (I.pin p hp).1)
  refine assign_tup_g g ht (by simp [hn, ← hl, rv.length]) hst fun h' hx => ?_
  exact h.run pins _ σ H xs _ Q (I.kept (t' := s.toks) fun b o e => hx b o (Nat.ne_of_lt (Heap.lt_size e)) e) (by simpa using rv) hw
end
end Mn

/-! ### a comprehension, whether an error is handled or not; the pinned error stays pinned in its block -/
namespace Mn
open PySem PySem.Spec PyProof.Rows L2 L2H HotX
theorem GC.pick {A : Around} {c : Bool} {pn : List (Addr × Obj)} (g : GC A c pn) : ∃ pl, GC A c pl ∧ ∀ p ∈ pl, p ∈ pn := by
  rcases g with g | ⟨p, q, h, hp, hq⟩
  · exact ⟨[], .inl g, fun p hp => by cases hp⟩
  · refine ⟨[p, q], .inr ⟨p, q, h, List.mem_cons_self, List.mem_cons_of_mem _ List.mem_cons_self⟩, fun r hr => ?_⟩
    rcases List.mem_cons.mp hr with rfl | hr
    · exact hp
    · rw [List.mem_singleton.mp hr]
      exact hq
section
variable {X : Cx} {K : PySem.W.Frag}
theorem lc_coreG {pins : List (Addr × Obj)} {s : Shared} {σ : L2.St} {H : Hp} {Q : VK} {elt tg iter : Expr} {ifs : List Expr} {scope : Scope} {own : List (Str × Nat)} {pos pos' : Pos} {wi : TI} {g : TG} {tt : TT} {te : TE}
    {use : Option (Value → Sem Unit)} {Qf : Value → Shared → Prop} (hc : GC X.A X.calm X.pn) (hN : X.N.Nodup) (I : Inv X pins σ H s) (hi : PIG X tg iter wi) (ok : BlkOk X.N X.env.scope scope own)
    (hg : ∀ (s : Shared) (H : Hp) (C : Addr) (cl : List (Str × Addr)) (fp : List Addr), PG (X.blk s H scope (compEnvC scope cl C X.env) fp) tg g)
    (ht : ∀ (s : Shared) (H : Hp) (C : Addr) (cl : List (Str × Addr)) (fp : List Addr), PTs (X.blk s H scope (compEnvC scope cl C X.env) fp) ifs tt)
    (he : ∀ (s : Shared) (H : Hp) (C : Addr) (cl : List (Str × Addr)) (fp : List Addr), PE (X.blk s H scope (compEnvC scope cl C X.env) fp) elt te)
    (hs : ∀ x, foldedSetIterable iter X.env x = pure x) (h : tLc wi g tt te (own.map (·.2)) σ H Q)
    (hRR : ∀ D C s' m H', Inv X pins σ H' s' → Q (.ref D) H' → s'.heap.Ns C m → FpOk X pins H' C → compPost (model X.prog X.w) X.A X.xe use Qf (.ref D) C (.ok .next) s') :
    wpAny (model X.prog X.w) X.A (comprehension (.ListComp elt [⟨tg, iter, ifs, 0⟩] scope pos) scope X.env pos' (newList []) false (eval iter X.env) use) Qf X.xe s := by
  have hfree : ∀ y ∈ scope.names, y.2 = .free → ∃ c, X.env.cells.lookup y.1 = some c := fun y hy e => (ok.free y hy e).elim (fun k => I.ok.has _ (.inl k)) (fun k => I.ok.has _ (.inr k))
  obtain ⟨pl, gpl, hpl⟩ := hc.pick
  refine wpAny_comprehension_free (use := use) rfl hs (closure_ok hfree) ok.kind (fun y hy e => by rw [ok.uniq y hy, e]) (thn (hi.run pins s σ H _ I h) fun xv s1 hx => thn hx fun itv s2 h2 => ?_)
  obtain ⟨it, fp, tn, J, H2, rfl, I2, T, st2, f2, q⟩ := h2
  refine wpAny_newObj_type (newEnv_comp ?_) (Nat.zero_le _)
  generalize hD : s2.heap.objs.size = D
  have hDn : H2 D = none := I2.hok.fresh (Nat.le_of_eq hD)
  obtain ⟨W, ⟨m0, w0⟩, turn⟩ := q D hDn
  -- the list that grows
  generalize hs3 : ({ s2 with heap := s2.heap.push { cls := .type "list", data := .seq ([] : List Value).toArray } } : Shared) = s3
  have h3 : s3.heap = s2.heap.push { cls := .type "list", data := .seq ([] : List Value).toArray } := by rw [← hs3]
  have I3 : Inv X pins σ (upd H2 D (.lst [])) s3 := by
    rw [← hs3]
    refine I2.laid (t' := s2.toks) (fun b o e => Heap.get?_push_of_some _ e) (Nat.le_of_eq hD) ⟨Nat.zero_le _, [], 0, .nil, ?_⟩
    rw [← hD]
    exact Heap.get?_push_size _ rfl
  have sz : ∀ b ∈ fp, b < s2.heap.objs.size := fun b hb => (T.obj _ _ st2 b hb).elim fun o z => Heap.lt_size z.1
  have f3 : ∀ b ∈ fp, FpOk X pins (upd H2 D (.lst [])) b ∧ b < s3.heap.objs.size := fun b hb => by
    have lt := sz b hb
    refine ⟨⟨?_, (f2 b hb).2⟩, by rw [h3, Heap.size_push]; exact Nat.lt_succ_of_lt lt⟩
    rw [upd_ne (by rw [← hD]; exact Nat.ne_of_lt lt)]
    exact (f2 b hb).1
  have st3 : tn 0 s3.heap := T.keep _ _ _ st2 fun b _ o e => by rw [h3]; exact Heap.get?_push_of_some _ e
  have I4 := block_start I3 ok hN f3
  generalize hcl : cellsFrom (s3.heap.objs.size + 1) scope.names (cloFrom X.env.cells scope.names []) = cl at I4
  have pg := hg s3 (upd H2 D (.lst [])) s3.heap.objs.size cl fp
  have pt := ht s3 (upd H2 D (.lst [])) s3.heap.objs.size cl fp
  have pe := he s3 (upd H2 D (.lst [])) s3.heap.objs.size cl fp
  show codeAny _ _ (.compStart (.ListComp elt [⟨tg, iter, ifs, 0⟩] scope pos) 0 (.ref it) (.ref D) (compEnvC scope cl s3.heap.objs.size X.env)) (compPost (model X.prog X.w) X.A X.xe use Qf (.ref D) s3.heap.objs.size) { s3 with heap := pushCells (s3.heap.push { cls := .type "dict", data := .dict #[] }) scope.names }
  have nfp : ∀ b ∈ fp, (upd H2 D (.lst [])) b = none := fun b hb => (f3 b hb).1.1
  generalize hce : compEnvC scope cl s3.heap.objs.size X.env = ce at I4 pg pt pe ⊢
  have cL : ce.locals = s3.heap.objs.size := by subst hce; rfl
  generalize hH3 : upd H2 D (.lst []) = H3 at I3 I4 pg pt pe w0 nfp f3
  generalize hs4 : ({ s3 with heap := pushCells (s3.heap.push { cls := .type "dict", data := .dict #[] }) scope.names } : Shared) = s4 at I4 ⊢
  have k34 : ∀ b o, s3.heap.get? b = some o → s4.heap.get? b = some o := fun b o e => by rw [← hs4]; exact pushCells_keeps _ _ _ _ (Heap.get?_push_of_some _ e)
  have st4 : tn 0 s4.heap := T.keep _ _ _ st3 fun b _ o e => k34 b o e
  -- the pinned error in the block
  have I4 : Inv (X.blk s3 H3 scope ce fp) pl (wipe σ (own.map (·.2))) H3 s4 := I4.pins_of fun p hp => by
    have z := I3.pin p (List.mem_append_left _ (hpl p hp))
    have lt := Heap.lt_size z.1
    refine ⟨k34 _ _ z.1, z.2.1, ?_, fun m => ?_, z.2.2.2.2⟩
    · show p.1 ≠ ce.locals
      rw [cL]
      exact Nat.ne_of_lt lt
    · rcases List.mem_cons.mp (I3.stkSub p.1 m) with e | e
      · exact z.2.2.1 e
      · exact z.2.2.2.1 e
  have pfp : ∀ b ∈ fp, ∀ p ∈ pl, p.1 ≠ b := fun b hb p hp => (f3 b hb).1.2.2.2.2.2 p (List.mem_append_left _ (hpl p hp))
  have still : ∀ {σ' : L2.St} {H' : Hp} {s' : Shared}, Inv (X.blk s3 H3 scope ce fp) pl σ' H' s' → (∀ b ∈ fp, H' b = none) → ∀ b ∈ fp, FpOk (X.blk s3 H3 scope ce fp) pl H' b := fun {σ' H' s'} I' hn b hb =>
    ⟨hn b hb, (I'.ok.exf b hb).1, I'.ok.exfs b hb, .inl hb, fun x c e => (I'.ok.exf b hb).2 x c e, fun p hp => pfp b hb p (by simpa using hp)⟩
  have loop : codeAny (model X.prog X.w) X.A (.compLoop (.ListComp elt [⟨tg, iter, ifs, 0⟩] scope pos) 0 (.ref it) (.ref D) ce) (compPost (model X.prog X.w) X.A X.xe use Qf (.ref D) s3.heap.objs.size) s4 := by
    refine compLoop_any (fun n s' => ∃ i H', Inv (X.blk s3 H3 scope ce fp) pl (wipe σ (own.map (·.2))) H' s' ∧ tn i s'.heap ∧ (∀ b ∈ fp, H' b = none) ∧ W i n H') ?_ m0 ⟨0, H3, I4, st4, nfp, w0⟩
    rintro n s5 ⟨i, H5, I5, st5, n5, w5⟩
    rcases turn i n H5 w5 with ⟨stop, qq⟩ | ⟨go, Nx, hNx, step⟩
    · refine thnF (T.done (X.blk s3 H3 scope ce fp) rfl rfl rfl i pl s5 _ H5 (fun _ _ => False) gpl I5 (still I5 n5) st5 stop) fun r s6 ⟨hr, I6⟩ => ?_
      subst hr
      have I7 : Inv X pins σ H5 s6 := I3.call' (ch := fp) I6.os I6.base I6.hok I6.bare fun b hb => ⟨(f3 b hb).1.2.2.2.1, (f3 b hb).1.2.1, (f3 b hb).1.2.2.2.2.1, (f3 b hb).1.2.2.2.2.2⟩
      have nC : H5 s3.heap.objs.size = none := by
        have z : H5 ce.locals = none := I6.free
        rw [cL] at z
        exact z
      obtain ⟨m, hn, _⟩ := I6.loc
      have hn : s6.heap.Ns ce.locals m := hn
      rw [cL] at hn
      exact hRR D s3.heap.objs.size s6 m H5 I7 qq hn (I3.fpOk (Nat.le_refl _) nC)
    · refine thnF (T.item (X.blk s3 H3 scope ce fp) rfl rfl rfl i pl s5 _ H5 (fun _ _ => False) I5 (still I5 n5) st5 go) fun r s6 ⟨u, hr, h6⟩ => ?_
      subst hr
      refine thnF h6 fun _ s7 ⟨x, H7, I7, r7, y7, st7, n7⟩ => ?_
      refine thnF (pg.run _ s7 _ H7 x u _ (I7.pinned (still I7 n7) (T.obj _ _ st7)) r7 (step x H7 y7)) fun _ s8 ⟨σ8, H8, I8, hw8, q8⟩ => ?_
      refine thnF (pt.run _ s8 σ8 H8 _ I8 q8) fun b s9 ⟨H9, I9, q9⟩ => ?_
      -- where the turn ends
      have fin : ∀ {s' : Shared} {H' : Hp}, Inv (X.blk s3 H3 scope ce fp) (pl ++ pinsAt fp s7.heap) σ8 H' s' → Nx H' → ∃ m, m < n ∧ ∃ i H', Inv (X.blk s3 H3 scope ce fp) pl (wipe σ (own.map (·.2))) H' s' ∧ tn i s'.heap ∧ (∀ b ∈ fp, H' b = none) ∧ W i m H' := fun {s' H'} I' nx => by
        obtain ⟨m', hm, w'⟩ := hNx H' nx
        have at_ : ∀ b ∈ fp, ∀ o, s7.heap.get? b = some o → s'.heap.get? b = some o ∧ H' b = none := fun b hb o e => by
          have z := I'.pin (b, o) (List.mem_append_right _ (List.mem_append_right _ (mem_pinsAt hb e)))
          exact ⟨z.1, z.2.1⟩
        refine ⟨m', hm, i + 1, H', I'.unpinned.weak (by rw [← hw8, wipe_length]) (fun j v e => ?_), T.keep _ _ _ st7 fun b hb o e => (at_ b hb o e).1, fun b hb => ?_, w'⟩
        · rw [← hw8] at e
          exact (wipe_some e).1
        · obtain ⟨o, e, _⟩ := T.obj _ _ st7 b hb
          exact (at_ b hb o e).2
      cases b with
      | false =>
        simp only [Bool.false_eq_true, if_false] at q9 ⊢
        exact fin I9 q9
      | true =>
        simp only [if_true] at q9 ⊢
        refine thnF (pe.run _ s9 σ8 H9 _ I9 q9) fun z s10 ⟨yv, H10, I10, r10, acc, hD10, hz10, nx⟩ => ?_
        exact app_ok (X := X.blk s3 H3 scope ce fp) I10 hD10 hz10 r10 fun s11 I11 => fin I11 nx
  exact codeAny_compStart_list loop (T.self X.A 0 _ _ _ st4 loop)
theorem pe_lcG {elt tg iter : Expr} {ifs : List Expr} {scope : Scope} {own : List (Str × Nat)} {pos : Pos} {wi : TI} {g : TG} {tt : TT} {te : TE} (hc : GC X.A X.calm X.pn) (hN : X.N.Nodup) (hi : PIG X tg iter wi) (ok : BlkOk X.N X.env.scope scope own)
    (hg : ∀ (s : Shared) (H : Hp) (C : Addr) (cl : List (Str × Addr)) (fp : List Addr), PG (X.blk s H scope (compEnvC scope cl C X.env) fp) tg g)
    (ht : ∀ (s : Shared) (H : Hp) (C : Addr) (cl : List (Str × Addr)) (fp : List Addr), PTs (X.blk s H scope (compEnvC scope cl C X.env) fp) ifs tt)
    (he : ∀ (s : Shared) (H : Hp) (C : Addr) (cl : List (Str × Addr)) (fp : List Addr), PE (X.blk s H scope (compEnvC scope cl C X.env) fp) elt te) (hs : ∀ x, foldedSetIterable iter X.env x = pure x := by intro _; rfl) :
    PE X (.ListComp elt [⟨tg, iter, ifs, 0⟩] scope pos) (tLc wi g tt te (own.map (·.2))) := by
  refine ⟨fun pins s σ H Q I h => ?_⟩
  rw [eval_ListComp]
  refine lc_coreG hc hN I hi ok hg ht he hs h fun D C s' m H' I' q hn ⟨f0, f1, f2, f3, f4, f5⟩ => ⟨m, hn, fun h'' sb => ?_⟩
  exact ⟨.ref D, H', I'.turned (t' := s'.toks) (fun b o hb e => (sb.2 b hb).trans e) f0 f1 f3 f4 f5, rfl, q⟩
theorem ps_setLcG {i : Nat} {y : Str} {py : Pos} {elt tg iter : Expr} {ifs : List Expr} {scope : Scope} {own : List (Str × Nat)} {pos spos : Pos} {wi : TI} {g : TG} {tt : TT} {te : TE} (hc : GC X.A X.calm X.pn) (hN : X.N.Nodup)
    (hy : X.N[i]? = some y) (hyl : X.env.scope.names.lookup y = some .local) (hsw : swapsWith (.ListComp elt [⟨tg, iter, ifs, 0⟩] scope pos) (some (.Name y py)) spos.line X.env = pure true) (hi : PIG X tg iter wi) (ok : BlkOk X.N X.env.scope scope own)
    (hg : ∀ (s : Shared) (H : Hp) (C : Addr) (cl : List (Str × Addr)) (fp : List Addr), PG (X.blk s H scope (compEnvC scope cl C X.env) fp) tg g)
    (ht : ∀ (s : Shared) (H : Hp) (C : Addr) (cl : List (Str × Addr)) (fp : List Addr), PTs (X.blk s H scope (compEnvC scope cl C X.env) fp) ifs tt)
    (he : ∀ (s : Shared) (H : Hp) (C : Addr) (cl : List (Str × Addr)) (fp : List Addr), PE (X.blk s H scope (compEnvC scope cl C X.env) fp) elt te) (hs : ∀ x, foldedSetIterable iter X.env x = pure x := by intro _; rfl) :
    PS X (.Assign [.Name y py] (.ListComp elt [⟨tg, iter, ifs, 0⟩] scope pos) spos) (tAsg (tLc wi g tt te (own.map (·.2))) (gName i)) := by
  refine ⟨fun pins s σ H D I h => ?_⟩
  rw [exec_Assign_Name_used _ _ _ _ hsw]
  refine wpAny_bind (wpAny_standAt (wpAny_bind ?_))
  show wpAny _ X.A (do let _ ← comprehension (.ListComp elt [⟨tg, iter, ifs, 0⟩] scope pos) scope X.env (firstIterPos [⟨tg, iter, ifs, 0⟩] pos) (newList []) false (eval iter X.env) (some (assign (.Name y py) X.env))) _ _ s
  have h : tLc wi g tt te (own.map (·.2)) σ H (fun x H1 => gName i x σ H1 D.nx) := h
  refine wpAny_bind (thn (lc_coreG (Qf := fun _ s' => SP X pins D .next s') hc hN I hi ok hg ht he hs h fun L C s' m H' I' q hn ⟨f0, f1, f2, f3, f4, f5⟩ => ?_) fun _ s' hq => wpAny_pure (wpAny_pure hq))
  show wpAny _ _ (assign (.Name y py) X.env (.ref L)) _ _ _
  refine wpAny_assign_Name (store_ok2 (v := V.ref L) I' hN hy (.inl hyl) rfl (fun s2 I2 ⟨a, sb, ha⟩ => ?_) (.inr hyl))
  have ne : C ≠ a := ha.elim (fun z => by rw [z]; exact f1) (fun z e => f4 y a z e.symm)
  exact ⟨m, hn.sameBut sb ne, fun h3 sb3 => ⟨_, H', I2.turned (t' := s2.toks) (fun b o hb e => (sb3.2 b hb).trans e) f0 f1 f3 f4 f5, q⟩⟩
end
end Mn

/-! ### defs that are called with nothing handled, or within an except suite -/
namespace Mn
open PySem PySem.Spec PyProof.Rows L2 L2H HotX
/-- a def's promise within an except suite: p handled, q its context -/
structure FnP (P : Program) (w : World) (K : PySem.W.Frag) (mg : Str → Option Value) (base : Heap) (k : Nat) (f : Addr) (fd : FuncData) (ps : List Str) (sp : Sp) : Prop where
  len : ∀ vs H Q E, sp vs H Q E → vs.length = ps.length
  run : ∀ (A : Around) (outer : List Env) (s : Shared) (H : Hp) (args : Args) (us : List Value) (vs : List V) (Q : VK) (E : XK) (p q : Addr × Obj), RoomH k A → Hot2 A p q → PinOk outer H s p → PinOk outer H s q → Env0 P w K mg base A outer s H →
    BindsTo s fd args (ps.zip us) → Vals vs us → sp vs H Q E → codeAny (model P w) A (.call (.ref f) args) (CR CX0 outer P w H s Q E) s
/-- a def's promise in both contexts; nothing leaves it by an exception -/
structure FnG (P : Program) (w : World) (K : PySem.W.Frag) (mg : Str → Option Value) (base : Heap) (k : Nat) (f : Addr) (fd : FuncData) (ps : List Str) (sp : Sp) : Prop where
  c : FnOk P w K mg base CX0 k f fd ps sp
  h : FnP P w K mg base k f fd ps sp
section
variable {P : Program} {w : World} {K : PySem.W.Frag} {mg : Str → Option Value} {base : Heap} {k : Nat} {f : Addr} {fd : FuncData} {N ps : List Str} {sp : Sp}
theorem FnG.imp {sp' : Sp} (F : FnG P w K mg base k f fd ps sp) (h : ∀ vs H Q E, sp' vs H Q E → sp vs H Q E) : FnG P w K mg base k f fd ps sp' :=
  ⟨F.c.imp h, ⟨fun vs H Q E q => F.h.len vs H Q E (h _ _ _ _ q), fun A outer s H args us vs Q E p q hr hot hp hq he hb hv hs => F.h.run A outer s H args us vs Q E p q hr hot hp hq he hb hv (h _ _ _ _ hs)⟩⟩
/-- the body's context -/
def cxG (P : Program) (w : World) (K : PySem.W.Frag) (mg : Str → Option Value) (base : Heap) (N : List Str) (qual : Str) (scope : Scope) (f : Addr) (cd : Value) (A : Around) (outer : List Env) (s : Shared) (H : Hp) (E : XK) (c : Bool) (pn : List (Addr × Obj)) : Cx :=
  { cxOf CX0 P w K mg base N qual scope f cd A outer s H E with calm := c, pn := pn }
theorem inv_startP {qual : Str} {scope : Scope} {cd : Value} {A : Around} {outer : List Env} {s s1 : Shared} {H : Hp} {E : XK} {us : List Value} {vs : List V} {pn : List (Addr × Obj)} (S : FnScope N ps scope) (hpin : ∀ p ∈ pn, PinOk outer H s p) (e0 : Env0 P w K mg base A outer s H) (hl : vs.length = ps.length) (r : Vals vs us)
    (x : InCallC s s.heap.objs.size (bindL (envOfC qual scope s.heap.objs.size f cd).kindOf (ps.zip us) fun _ => none) (cellsFrom (s.heap.objs.size + 1) scope.names []) (bindC (envOfC qual scope s.heap.objs.size f cd).kindOf (ps.zip us) fun _ => none) s1) :
    Inv (cxG P w K mg base N qual scope f cd A outer s H E false pn) [] (L2.start N vs) H s1 := by
  obtain ⟨h1, tk, rfl, hk⟩ := x.done
  -- the first pin alone is what the library's start asks; the others are told beside
  have okA : (cxG P w K mg base N qual scope f cd A outer s H E false pn).Ok := by
    have hpl : ps.length ≤ N.length := by
      have := congrArg List.length S.pre
      rw [List.length_take] at this
      omega
    refine ⟨e0.mod, S.kind, rfl, rfl, Nat.le_refl _, fun y z c h1 h2 => name_of_addr x.apart (PySem.mem_of_lookup h1) (PySem.mem_of_lookup h2), fun y hy => ?_, fun y c _ h => Nat.le_of_lt (x.above y c (PySem.mem_of_lookup h)), (fun z => Bool.noConfusion (show false = true from z)), Around.frames_deeper e0.frames, .inr ⟨rfl, rfl⟩,
      fun b z => (List.not_mem_nil z).elim, e0.bs, e0.bsz, fun b _ _ => List.not_mem_nil, fun b z => (List.not_mem_nil z).elim, e0.funs, e0.frf⟩
    rcases (show scope.names.lookup y = some .cell ∨ scope.names.lookup y = some .free from hy) with hy | hy
    · exact cell_has hy
    · exact absurd rfl (S.nofree _ (PySem.mem_of_lookup hy))
  refine ⟨okA, rfl, e0.bare, Un.kept hk, ⟨_, x.toInCall.ns, fun i y v h1 h2 h3 => ?_⟩, fun y c h => ⟨_, x.cell y c h⟩, e0.hok.fresh (Nat.le_refl _), fun y c h => e0.hok.fresh (Nat.le_of_lt (x.above y c (PySem.mem_of_lookup h))), fun q hq => ?_, e0.hok.kept hk, ?_⟩
  · -- a slot that is filled is a parameter's
    have hi : i < vs.length := by
      by_cases hi : i < vs.length
      · exact hi
      · unfold L2.start at h2
        rw [List.getElem?_append_right (by simpa using hi), List.getElem?_replicate] at h2
        split at h2 <;> cases h2
    have ha : vs[i]? = some v := by
      unfold L2.start at h2
      rw [List.getElem?_append_left (by simpa using hi), List.getElem?_map] at h2
      obtain ⟨b, e, rfl'⟩ := Option.map_eq_some_iff.mp h2
      rw [e]
      exact rfl'
    obtain ⟨u, hu, rv⟩ := r.get ha
    have hp : ps[i]? = some y := by
      rw [← S.pre, List.getElem?_take_of_lt (by omega)]
      exact h1
    have ndP : ps.Nodup := by
      rw [← S.pre]
      exact S.nd.sublist (List.take_sublist _ _)
    refine ⟨u, rv, (S.par y (List.mem_of_getElem? hp)).elim (fun k => .inl ⟨k, bindL_get ndP hp hu k⟩) fun k => ?_⟩
    obtain ⟨c, e⟩ := cell_has (n := s.heap.objs.size + 1) k
    have q := x.cell y c e
    rw [bindC_get ndP hp hu (by show scope.names.lookup y ≠ _; rw [k]; decide)] at q
    exact .inr ⟨.inl k, c, e, q⟩
  · have z := hpin q (by simpa using (show q ∈ pn ++ ([] : List (Addr × Obj)) from hq))
    exact ⟨hk q.1 q.2 z.get, z.free, Nat.ne_of_lt (Heap.lt_size z.get), z.nofs, z.nocell⟩
  · have hpl : ps.length ≤ N.length := by
      have := congrArg List.length S.pre
      rw [List.length_take] at this
      omega
    unfold L2.start
    show _ = N.length
    rw [List.length_append, List.length_map, List.length_replicate]
    omega
theorem fn_ofP {name qual : Str} {params : Arguments} {body : List Stmt} {scope : Scope} {dV kV doc pm cdv ct oc : Value} {an od : Option Addr} {osl : Array (Option Value)}
    (lk : K.lookup f = some ⟨oc, od, .func (PySem.W.fnOf name qual params body scope dV kV doc pm an cdv ct), osl⟩) (hcd : PySem.W.codeIn K cdv qual = true) (S : FnScope N ps scope) (len : ∀ vs H Q E, sp vs H Q E → vs.length = ps.length)
    (hbody : ∀ (A : Around) (outer : List Env) (s : Shared) (H : Hp) (vs : List V) (Q : VK) (E : XK) (p q : Addr × Obj), Hot2 A p q → RoomH k (A.deeper (envOfC qual scope s.heap.objs.size f cdv)) → sp vs H Q E →
      ∃ t, PSs (cxG P w K mg base N qual scope f cdv A outer s H E false [p, q]) body t ∧ t { nx := fun _ H' => Q .non H', rt := Q } (L2.start N vs) H) :
    FnP P w K mg base (k + 1) f (PySem.W.fnOf name qual params body scope dV kV doc pm an cdv ct) ps sp := by
  refine ⟨len, fun A outer s H args us vs Q E p q hr hot hp hq e0 hb r hsp => ?_⟩
  have inK : K.In s.heap := e0.mod.kin.keeps fun b o z => (e0.bs b o z).1
  have noLim : s.heap.NoLimit := e0.mod.nolimit.keeps fun b o z => (e0.bs b o z).1
  refine codeAny_call_function hr.depth (inK _ _ lk) rfl S.co S.gen rfl (PySem.W.codeRec_of inK hcd) (hb _ _ _ _ ?_)
  refine wpAny_newFunctionEnv_cells S.kind (fun y hy => ?_) fun env he s1 z => ?_
  · rcases S.par y.1 (List.of_mem_zip hy).1 with loc | cell
    · exact .inl loc
    · exact .inr ⟨cell, PySem.W.cellsFrom_some _ _ _ (.inl cell)⟩
  subst he
  refine ⟨noLim.keeps z.toInCall.keep, codeAny_func ?_⟩
  obtain ⟨t, ht, h⟩ := hbody A outer s H vs Q E p q hot (hr.deeper _) hsp
  have I : Inv (cxG P w K mg base N qual scope f cdv A outer s H E false [p, q]) [] (L2.start N vs) H s1 := inv_startP S (fun r hr => by
    rcases List.mem_cons.mp hr with rfl | hr
    · exact hp
    · rw [List.mem_singleton.mp hr]
      exact hq) e0 (len _ _ _ _ hsp) r z
  refine wpAny_mono (ht.run [] s1 (L2.start N vs) H _ I h) (fun fl s' hs => ?_) fun _ _ hs => hs
  cases fl with
  | brk => exact hs.choose_spec.choose_spec.2.elim
  | cont => exact hs.choose_spec.choose_spec.2.elim
  | next =>
    obtain ⟨σ', H', J, q'⟩ := hs
    exact ⟨V.non, H', J.os, J.bare, J.base, J.hok, rfl, q'⟩
  | ret u =>
    obtain ⟨v, σ', H', J, rv, q'⟩ := hs
    exact ⟨v, H', J.os, J.bare, J.base, J.hok, rv, q'⟩
theorem fn_ofG {name qual : Str} {params : Arguments} {body : List Stmt} {scope : Scope} {dV kV doc pm cdv ct oc : Value} {an od : Option Addr} {osl : Array (Option Value)}
    (lk : K.lookup f = some ⟨oc, od, .func (PySem.W.fnOf name qual params body scope dV kV doc pm an cdv ct), osl⟩) (hcd : PySem.W.codeIn K cdv qual = true) (S : FnScope N ps scope) (len : ∀ vs H Q E, sp vs H Q E → vs.length = ps.length)
    (hbody : ∀ (A : Around) (outer : List Env) (s : Shared) (H : Hp) (vs : List V) (Q : VK) (E : XK) (c : Bool) (pn : List (Addr × Obj)), RG k (A.deeper (envOfC qual scope s.heap.objs.size f cdv)) c pn → sp vs H Q E →
      ∃ t, PSs (cxG P w K mg base N qual scope f cdv A outer s H E c pn).nox body t ∧ t { nx := fun _ H' => Q .non H', rt := Q } (L2.start N vs) H) :
    FnG P w K mg base (k + 1) f (PySem.W.fnOf name qual params body scope dV kV doc pm an cdv ct) ps sp := by
  refine ⟨fn_of lk hcd S len fun A outer s H vs Q E hr h => ?_, fn_ofP lk hcd S len fun A outer s H vs Q E p q hot hr h => ?_⟩
  · obtain ⟨t, ht, q⟩ := hbody A outer s H vs Q E true [] ⟨⟨hr.dp, hr.un⟩, .inl rfl⟩ h
    exact ⟨t, ht.nox, q⟩
  · obtain ⟨t, ht, h⟩ := hbody A outer s H vs Q E false [p, q] ⟨hr, .inr ⟨p, q, hot, List.mem_cons_self, List.mem_cons_of_mem _ List.mem_cons_self⟩⟩ h
    exact ⟨t, ht.nox, h⟩
theorem okG {x qual : Str} {st : Stmt} (F : Fun K x qual st f fd) (S : FnScope N ps (defScope st)) (len : ∀ vs H Q E, sp vs H Q E → vs.length = ps.length)
    (hbody : ∀ (cdv : Value) (A : Around) (outer : List Env) (s : Shared) (H : Hp) (vs : List V) (Q : VK) (E : XK) (c : Bool) (pn : List (Addr × Obj)), RG k (A.deeper (envOfC qual (defScope st) s.heap.objs.size f cdv)) c pn → sp vs H Q E →
      ∃ t, PSs (cxG P w K mg base N qual (defScope st) f cdv A outer s H E c pn).nox (defBody st) t ∧ t { nx := fun _ H' => Q .non H', rt := Q } (L2.start N vs) H) : FnG P w K mg base (k + 1) f fd ps sp := by
  obtain ⟨_, _, _, _, _, _, c, _, _, rfl, lk, hc⟩ := F.ex
  exact fn_ofG lk hc S len fun A o s H vs Q E b pn r h => hbody c A o s H vs Q E b pn r h
theorem okD {x qual : Str} {params : Arguments} {body : List Stmt} {scope : Scope} {dvs : List V} {kws : List (Str × V)} (F : FunD K x qual params body scope dvs kws f fd) (S : FnScope N ps scope) (len : ∀ vs H Q E, sp vs H Q E → vs.length = ps.length)
    (hbody : ∀ (cdv : Value) (A : Around) (outer : List Env) (s : Shared) (H : Hp) (vs : List V) (Q : VK) (E : XK) (c : Bool) (pn : List (Addr × Obj)), RG k (A.deeper (envOfC qual scope s.heap.objs.size f cdv)) c pn → sp vs H Q E →
      ∃ t, PSs (cxG P w K mg base N qual scope f cdv A outer s H E c pn).nox body t ∧ t { nx := fun _ H' => Q .non H', rt := Q } (L2.start N vs) H) : FnG P w K mg base (k + 1) f fd ps sp := by
  obtain ⟨_, _, _, _, _, _, _, c, _, _, rfl, lk, hc, _, _⟩ := F.ex
  exact fn_ofG lk hc S len fun A o s H vs Q E b pn r h => hbody c A o s H vs Q E b pn r h
end
theorem hu_ofG {k : Nat} {A : Around} {c : Bool} {pn : List (Addr × Obj)} (r : RG k A c pn) : A.units + 1 < cLine := by have := r.room.un; omega
/-! ### its callers -/
section
variable {X : Cx} {k : Nat} {f C : Addr} {fd : FuncData} {ps : List Str} {sp : Sp} {dvs : List V} {ds us : List Value} {vs : List V} {pins : List (Addr × Obj)} {σ : L2.St} {H : Hp} {s : Shared} {Q : VK}
theorem run_fnG (F : FnG X.prog X.w X.K X.mg X.base k f fd ps sp) (hr : RG k X.A X.calm X.pn) (hb : Binds X.K fd ps ds) (hd : Vals dvs ds) (I : Inv X pins σ H s) (r : Vals vs us) (h : sp (vs ++ dvs) H Q E0) :
    wpAny (model X.prog X.w) X.A (call (.ref f) us) (EP X pins σ Q) X.xe s := by
  rcases hr.gc with hc | ⟨p, q, hot, hp, hq⟩
  · exact run_fn F.c ⟨I.ok.hd hc, hr.room.dp, hr.room.un⟩ hb hd pass0 I r h
  have r2 : Vals (vs ++ dvs) (us ++ ds) := r.append hd
  have n : (us ++ ds).length = ps.length := r2.length.symm.trans (F.h.len _ _ _ _ h)
  refine wpAny_call (codeAny_mono (F.h.run X.A X.stack s H ⟨us, []⟩ (us ++ ds) (vs ++ dvs) Q E0 p q hr.room hot (pin_ok I hp) (pin_ok I hq) I.env0 (hb s us I.kIn n) r2 h) fun z s' hs => ?_)
  cases z with
  | error _ => exact hs.elim
  | ok fl => cases fl with
    | ret u => exact I.after hs
    | next => exact hs.elim
    | brk => exact hs.elim
    | cont => exact hs.elim
theorem run_makeG (M : Mk X.K C f) (F : FnG X.prog X.w X.K X.mg X.base k f fd ps sp) (hr : RG (k + 1) X.A X.calm X.pn) (hb : Binds X.K fd ps ds) (hd : Vals dvs ds) (I : Inv X pins σ H s) (r : Vals vs us)
    (h : ∀ x dx, H x = none → H dx = none → dx ≠ x → sp (.ref x :: (vs ++ dvs)) (upd (upd H dx (.own x)) x (.ins C dx [])) (fun v H2 => v = .non ∧ Q (.ref x) H2) E0) :
    wpAny (model X.prog X.w) X.A (call (.ref C) us) (EP X pins σ Q) X.xe s := by
  rcases hr.gc with hc | ⟨p, pq, ⟨hh, hot⟩, hp, hpq⟩
  · exact run_make M F.c ⟨I.ok.hd hc, hr.room.dp, hr.room.un⟩ hb hd pass0 I r h
  have q := h (s.heap.objs.size + 1) s.heap.objs.size (I.hok.fresh (Nat.le_succ _)) (I.hok.fresh (Nat.le_refl _)) (Nat.ne_of_lt (Nat.lt_succ_self _))
  have I2 := Inv.made (C := C) I
  have r2 : Vals (V.ref (s.heap.objs.size + 1) :: (vs ++ dvs)) (Value.ref (s.heap.objs.size + 1) :: (us ++ ds)) := .cons rfl (r.append hd)
  have n : (Value.ref (s.heap.objs.size + 1) :: us ++ ds).length = ps.length := r2.length.symm.trans (F.h.len _ _ _ _ q)
  have rm : RoomH k (X.A.under (.builtin "type.__call__" ⟨.ref C :: us, []⟩)) := ⟨by have := hr.room.dp; rw [make_depth]; omega, by have := hr.room.un; rw [make_units]; omega⟩
  refine wpAny_call (make_map (f := f) I.kIn M.makes M.init (beq_iff_eq.mp M.fn) (codeAny_mono (F.h.run _ X.stack _ _ ⟨Value.ref (s.heap.objs.size + 1) :: us, []⟩ (Value.ref (s.heap.objs.size + 1) :: (us ++ ds)) _ _ E0 p pq rm ⟨hh, hot⟩ (pin_ok I2 hp) (pin_ok I2 hpq)
    (I2.env0.make C us []) (hb _ (Value.ref (s.heap.objs.size + 1) :: us) I2.kIn n) r2 q) fun z s' hs => ?_))
  cases z with
  | error _ => exact hs.elim
  | ok fl => cases fl with
    | ret u =>
      obtain ⟨v, H', I3, rv, rfl, q3⟩ := I2.after hs
      exact ⟨rv, ⟨V.ref (s.heap.objs.size + 1), H', I3, rfl, q3⟩⟩
    | next => exact hs.elim
    | brk => exact hs.elim
    | cont => exact hs.elim
end
structure CalG (P : Program) (w : World) (K : PySem.W.Frag) (mg : Str → Option Value) (base : Heap) (x : Str) (k : Nat) (ps : List Str) (dvs : List V) (sp : Sp) : Prop where
  ex : ∃ (f : Addr) (fd : FuncData) (ds : List Value), FnG P w K mg base k f fd ps sp ∧ mg x = some (.ref f) ∧ PySem.W.keepIn K (.ref f) = true ∧ Binds K fd ps ds ∧ Vals dvs ds
structure MthG (P : Program) (w : World) (K : PySem.W.Frag) (mg : Str → Option Value) (base : Heap) (C : Addr) (m : Str) (k : Nat) (ps : List Str) (dvs : List V) (sp : Sp) : Prop where
  ex : ∃ (f : Addr) (fd : FuncData) (ds : List Value), FnG P w K mg base k f fd ps sp ∧ Meth K C m f ∧ Binds K fd ps ds ∧ Vals dvs ds
structure MakG (P : Program) (w : World) (K : PySem.W.Frag) (mg : Str → Option Value) (base : Heap) (x : Str) (C : Addr) (k : Nat) (ps : List Str) (dvs : List V) (sp : Sp) : Prop where
  ex : ∃ (f : Addr) (fd : FuncData) (ds : List Value), FnG P w K mg base k f fd ps sp ∧ mg x = some (.ref C) ∧ Mk K C f ∧ Binds K fd ps ds ∧ Vals dvs ds
structure CMtG (P : Program) (w : World) (K : PySem.W.Frag) (mg : Str → Option Value) (base : Heap) (x m : Str) (k : Nat) (ps : List Str) (dvs : List V) (sp : Sp) : Prop where
  ex : ∃ (C f : Addr) (mc : Value) (fd : FuncData) (ds : List Value), mg x = some (.ref C) ∧ ClX.CRead K C mc ∧ PySem.W.findCls K (.ref C) mc m = some (.val (.ref f)) ∧ FnG P w K mg base k f fd ps sp ∧ PySem.W.keepIn K (.ref f) = true ∧ Binds K fd ps ds ∧ Vals dvs ds
section
variable {P : Program} {w : World} {K : PySem.W.Frag} {mg : Str → Option Value} {base : Heap} {k : Nat} {x m : Str} {C : Addr} {ps : List Str} {dvs : List V} {sp : Sp}
theorem CalG.cal (c : CalG P w K mg base x k ps dvs sp) : Cal P w K mg base CX0 x k ps dvs sp := by
  obtain ⟨f, fd, ds, F, r⟩ := c.ex
  exact ⟨f, fd, ds, F.c, r⟩
theorem MthG.mth (c : MthG P w K mg base C m k ps dvs sp) : Mth P w K mg base CX0 C m k ps dvs sp := by
  obtain ⟨f, fd, ds, F, r⟩ := c.ex
  exact ⟨f, fd, ds, F.c, r⟩
end
section
variable {X : Cx} {P : Program} {w : World} {K : PySem.W.Frag} {mg : Str → Option Value} {base : Heap} {k : Nat} {x m : Str} {p pos apos : Pos} {e o : Expr} {es : List Expr} {ta : TE} {t : TA}
def tCAG (P : Program) (w : World) (K : PySem.W.Frag) (mg : Str → Option Value) (base : Heap) (x : Str) (k : Nat) (t : TA) : TE := fun σ H Q => ∃ j ps dvs sp, CalG P w K mg base x j ps dvs sp ∧ j ≤ k ∧ t σ H fun vs H1 => sp (vs ++ dvs) H1 Q E0
theorem pe_caG (hX : Sx X P w K mg base) (hr : RG k X.A X.calm X.pn) (hg : Gl X x) (ha : PA X (e :: es) t) (hdb : (x == ("__debug__" : Str)) = false := by decide) (he : starEach (e :: es) X.env = (false, eval e X.env) :: starEach es X.env := by rfl)
    (hpl : (backTo pos (starEach es X.env)).any (·.1) = false := by rfl) : PE X (.Call (.Name x p) (e :: es) [] pos) (tCAG P w K mg base x k t) := by
  obtain ⟨rfl, rfl, rfl, rfl, rfl⟩ := hX
  refine ⟨fun pins s σ H Q I ⟨j, ps, dvs, sp, c, hj, h⟩ => ?_⟩
  obtain ⟨f, fd, ds, F, hm, hk, hb, hd⟩ := c.ex
  refine wpAny_Call_Name_kw (ld_glob I hg hm (PySem.W.callWith_K (h₀ := X.base) I.ok.mod.kin hk (thn (ha.run pos pins s σ H _ I h) fun us s1 ⟨vs, H1, I1, r, q⟩ => ⟨I1.kIn, ?_⟩) he hpl) hdb)
  exact run_fnG F (hr.mono hj) hb hd I1 r q
theorem pe_ca0G (hX : Sx X P w K mg base) (hr : RG k X.A X.calm X.pn) (hg : Gl X x) (hdb : (x == ("__debug__" : Str)) = false := by decide) : PE X (.Call (.Name x p) [] [] pos) (tCAG P w K mg base x k tNil) := by
  obtain ⟨rfl, rfl, rfl, rfl, rfl⟩ := hX
  refine ⟨fun pins s σ H Q I ⟨j, ps, dvs, sp, c, hj, h⟩ => ?_⟩
  obtain ⟨f, fd, ds, F, hm, hk, hb, hd⟩ := c.ex
  exact wpAny_Call_Name_kw (ld_glob I hg hm (PySem.W.callWith_K0 I.kIn hk (run_fnG (us := []) F (hr.mono hj) hb hd I .nil h)) hdb)
def tMkAG (P : Program) (w : World) (K : PySem.W.Frag) (mg : Str → Option Value) (base : Heap) (x : Str) (k : Nat) (t : TA) : TE := fun σ H Q => ∃ C j ps dvs sp, MakG P w K mg base x C j ps dvs sp ∧ j + 1 ≤ k ∧ tMake C sp dvs E0 t σ H Q
theorem pe_mkaG (hX : Sx X P w K mg base) (hr : RG k X.A X.calm X.pn) (hg : Gl X x) (ha : PA X (e :: es) t) (hdb : (x == ("__debug__" : Str)) = false := by decide) (he : starEach (e :: es) X.env = (false, eval e X.env) :: starEach es X.env := by rfl)
    (hpl : (backTo pos (starEach es X.env)).any (·.1) = false := by rfl) : PE X (.Call (.Name x p) (e :: es) [] pos) (tMkAG P w K mg base x k t) := by
  obtain ⟨rfl, rfl, rfl, rfl, rfl⟩ := hX
  refine ⟨fun pins s σ H Q I ⟨C, j, ps, dvs, sp, c, hj, h⟩ => ?_⟩
  obtain ⟨f, fd, ds, F, hm, hk, hb, hd⟩ := c.ex
  refine wpAny_Call_Name_kw (ld_glob I hg hm (PySem.W.callWith_K (h₀ := X.base) I.ok.mod.kin hk.kp (thn (ha.run pos pins s σ H _ I h) fun us s1 ⟨vs, H1, I1, r, q⟩ => ⟨I1.kIn, ?_⟩) he hpl) hdb)
  exact run_makeG hk F (hr.mono hj) hb hd I1 r q
theorem pe_mka0G (hX : Sx X P w K mg base) (hr : RG k X.A X.calm X.pn) (hg : Gl X x) (hdb : (x == ("__debug__" : Str)) = false := by decide) : PE X (.Call (.Name x p) [] [] pos) (tMkAG P w K mg base x k tNil) := by
  obtain ⟨rfl, rfl, rfl, rfl, rfl⟩ := hX
  refine ⟨fun pins s σ H Q I ⟨C, j, ps, dvs, sp, c, hj, h⟩ => ?_⟩
  obtain ⟨f, fd, ds, F, hm, hk, hb, hd⟩ := c.ex
  exact wpAny_Call_Name_kw (ld_glob I hg hm (PySem.W.callWith_K0 I.kIn hk.kp (run_makeG (us := []) hk F (hr.mono hj) hb hd I .nil h)) hdb)
def tMAG (P : Program) (w : World) (K : PySem.W.Frag) (mg : Str → Option Value) (base : Heap) (m : Str) (k : Nat) (ta : TE) (t : TA) : TE := fun σ H Q => ta σ H fun xv H1 => ∃ a C dx fs j ps dvs sp, xv = .ref a ∧ H1 a = some (.ins C dx fs) ∧ Cls K C ∧ fs.lookup m = none ∧
  MthG P w K mg base C m j ps dvs sp ∧ j ≤ k ∧ t σ H1 fun vs H2 => sp (xv :: (vs ++ dvs)) H2 Q E0
theorem pe_maG {pl : Sem Bool} (hX : Sx X P w K mg base) (hr : RG k X.A X.calm X.pn) (he : PE X o ta) (ha : PA X (e :: es) t)
    (hst : starEach (e :: es) X.env = (false, eval e X.env) :: starEach es X.env := by rfl) (hpl : (backTo pos (starEach es X.env)).any (·.1) = false := by rfl)
    (ht : eval (.Call (.Attribute o m apos) (e :: es) [] pos) X.env = (do
      let ov ← eval o X.env
      standAt apos.atName
      let (f, first) ← holding [ov] (getMethod ov m pl)
      callWith pos f first (backTo pos (starEach (e :: es) X.env)) (backToKw pos (keywordEach [] X.env))) := by rfl) :
    PE X (.Call (.Attribute o m apos) (e :: es) [] pos) (tMAG P w K mg base m k ta t) := by
  obtain ⟨rfl, rfl, rfl, rfl, rfl⟩ := hX
  refine ⟨fun pins s σ H Q I h => PySem.W.methodCall_KW (pl := pl) (thn (he.run pins s σ H _ I h) fun u s1 ⟨xv, H1, I1, rx, a, C, dx, fs, j, ps, dvs, sp, ex, ea, c, l, M, hj, q⟩ => ?_) ht⟩
  subst ex
  obtain rfl : u = Value.ref a := rx
  obtain ⟨f, fd, ds, F, hm, hb, hd⟩ := M.ex
  refine getmeth_ok I1 ea c hm l (PySem.W.callWith_K (first := [.ref a]) (h₀ := X.base) I.ok.mod.kin hm.kp (thn (ha.run pos pins s1 σ H1 _ I1 q) fun us s2 ⟨vs, H2, I2, r, q2⟩ => ⟨I2.kIn, ?_⟩) hst hpl)
  exact run_fnG (us := .ref a :: us) (vs := .ref a :: vs) F (hr.mono hj) hb hd I2 (.cons rfl r) q2
theorem pe_ma0G {pl : Sem Bool} (hX : Sx X P w K mg base) (hr : RG k X.A X.calm X.pn) (he : PE X o ta)
    (ht : eval (.Call (.Attribute o m apos) [] [] pos) X.env = (do
      let ov ← eval o X.env
      standAt apos.atName
      let (f, first) ← holding [ov] (getMethod ov m pl)
      callWith pos f first (backTo pos (starEach [] X.env)) (backToKw pos (keywordEach [] X.env))) := by rfl) :
    PE X (.Call (.Attribute o m apos) [] [] pos) (tMAG P w K mg base m k ta tNil) := by
  obtain ⟨rfl, rfl, rfl, rfl, rfl⟩ := hX
  refine ⟨fun pins s σ H Q I h => PySem.W.methodCall_KW (pl := pl) (thn (he.run pins s σ H _ I h) fun u s1 ⟨xv, H1, I1, rx, a, C, dx, fs, j, ps, dvs, sp, ex, ea, c, l, M, hj, q⟩ => ?_) ht⟩
  subst ex
  obtain rfl : u = Value.ref a := rx
  obtain ⟨f, fd, ds, F, hm, hb, hd⟩ := M.ex
  exact getmeth_ok I1 ea c hm l (PySem.W.callWith_K0 (first := [.ref a]) I1.kIn hm.kp (run_fnG (us := [.ref a]) (vs := [.ref a]) F (hr.mono hj) hb hd I1 (.cons rfl .nil) q))
def tCMAG (P : Program) (w : World) (K : PySem.W.Frag) (mg : Str → Option Value) (base : Heap) (x m : Str) (k : Nat) (t : TA) : TE := fun σ H Q => ∃ j ps dvs sp, CMtG P w K mg base x m j ps dvs sp ∧ j ≤ k ∧ t σ H fun vs H1 => sp (vs ++ dvs) H1 Q E0
theorem pe_cmaG {pl : Sem Bool} (hX : Sx X P w K mg base) (hr : RG k X.A X.calm X.pn) (hg : Gl X x) (ha : PA X (e :: es) t) (hdb : (x == ("__debug__" : Str)) = false := by decide)
    (hst : starEach (e :: es) X.env = (false, eval e X.env) :: starEach es X.env := by rfl) (hpl : (backTo pos (starEach es X.env)).any (·.1) = false := by rfl)
    (ht : eval (.Call (.Attribute (.Name x p) m apos) (e :: es) [] pos) X.env = (do
      let ov ← eval (.Name x p) X.env
      standAt apos.atName
      let (f, first) ← holding [ov] (getMethod ov m pl)
      callWith pos f first (backTo pos (starEach (e :: es) X.env)) (backToKw pos (keywordEach [] X.env))) := by rfl) :
    PE X (.Call (.Attribute (.Name x p) m apos) (e :: es) [] pos) (tCMAG P w K mg base x m k t) := by
  obtain ⟨rfl, rfl, rfl, rfl, rfl⟩ := hX
  refine ⟨fun pins s σ H Q I ⟨j, ps, dvs, sp, M, hj, h⟩ => ?_⟩
  obtain ⟨C, f, mc, fd, ds, hm, rd, fc, F, hk, hb, hd⟩ := M.ex
  refine PySem.W.methodCall_KW (pl := pl) (ld_glob I hg hm ?_ hdb) ht
  refine PySem.W.method_cls I.kIn rd.ga (ClX.getcval_ok (v := V.ref f) (u := Value.ref f) I rd ⟨fc, rfl⟩ fun s1 I1 => ?_)
  refine PySem.W.callWith_K (first := []) (h₀ := X.base) I.ok.mod.kin hk (thn (ha.run pos pins s1 σ H _ I1 h) fun us s2 ⟨vs, H2, I2, r, q2⟩ => ⟨I2.kIn, ?_⟩) hst hpl
  exact run_fnG F (hr.mono hj) hb hd I2 r q2
end
section
variable {P : Program} {w : World} {K : PySem.W.Frag} {mg : Str → Option Value} {base : Heap} {k j : Nat} {x m : Str} {ps : List Str} {dvs : List V} {sp : Sp} {t : TA} {ta : TE} {σ : L2.St} {H : Hp} {Q : VK} {C a dx : Addr} {fs : List (Str × V)}
theorem w_caG (c : CalG P w K mg base x j ps dvs sp) (hj : j ≤ k) (q : t σ H fun vs H1 => sp (vs ++ dvs) H1 Q E0) : tCAG P w K mg base x k t σ H Q := ⟨_, _, _, _, c, hj, q⟩
theorem w_cmaG (c : CMtG P w K mg base x m j ps dvs sp) (hj : j ≤ k) (q : t σ H fun vs H1 => sp (vs ++ dvs) H1 Q E0) : tCMAG P w K mg base x m k t σ H Q := ⟨_, _, _, _, c, hj, q⟩
theorem w_mkaG (c : MakG P w K mg base x C j ps dvs sp) (hj : j + 1 ≤ k) (q : t σ H fun vs H1 => ∀ x dx, H1 x = none → H1 dx = none → dx ≠ x →
  sp (.ref x :: (vs ++ dvs)) (upd (upd H1 dx (.own x)) x (.ins C dx [])) (fun v H2 => v = .non ∧ Q (.ref x) H2) E0) : tMkAG P w K mg base x k t σ H Q := ⟨_, _, _, _, _, c, hj, q⟩
theorem w_maG (q : ta σ H fun xv H1 => ∃ a C dx fs j ps dvs sp, xv = .ref a ∧ H1 a = some (.ins C dx fs) ∧ Cls K C ∧ fs.lookup m = none ∧ MthG P w K mg base C m j ps dvs sp ∧ j ≤ k ∧
  t σ H1 fun vs H2 => sp (xv :: (vs ++ dvs)) H2 Q E0) : tMAG P w K mg base m k ta t σ H Q := q
theorem w_ma1G {R : List V → Sp → Prop} (h : H a = some (.ins C dx fs)) (c : Cls K C) (l : fs.lookup m = none) (M : MthG P w K mg base C m j ps dvs sp) (hj : j ≤ k) (q : R dvs sp) :
    ∃ a' C dx fs j ps dvs sp, V.ref a = .ref a' ∧ H a' = some (.ins C dx fs) ∧ Cls K C ∧ fs.lookup m = none ∧ MthG P w K mg base C m j ps dvs sp ∧ j ≤ k ∧ R dvs sp := ⟨_, _, _, _, _, _, _, _, rfl, h, c, l, M, hj, q⟩
end
end Mn

/-! ### an exception raised while another one is handled: what flies bears a context that stands pinned -/
namespace Mn
open PySem PySem.Spec PyProof.Rows L2 L2H HotX
def CtxIs (y : Addr) (o : Obj) : Prop := ∀ vs : Array Value, o.data = .fields vs → vs[2]? = some (.ref y)
theorem steady_ctxIs {y : Addr} : PXN.Steady1 (CtxIs y) := fun o v h => by
  obtain ⟨c, d, dt, sl⟩ := o
  cases dt with
  | fields v0 =>
    intro vs e
    obtain rfl : v0.setIfInBounds 1 v = vs := Data.fields.inj e
    have e3 : (v0.setIfInBounds 1 v)[2]? = v0[2]? := by first | exact Array.getElem?_setIfInBounds_ne (by decide) | simp [Array.getElem?_setIfInBounds]
    rw [e3]
    exact h v0 rfl
  | _ =>
    intro vs e
    first | exact Data.noConfusion e | cases e
def Zk (cls : Value) (d : Option Addr) (y : Addr) : Obj → Prop := fun o => o.cls = cls ∧ o.dict = d ∧ CtxIs y o
theorem Zk.steady {cls : Value} {d : Option Addr} {y : Addr} : PXN.Steady1 (Zk cls d y) := fun o v h => ⟨PXN.steady_cls o v h.1, PXN.steady_dict o v h.2.1, steady_ctxIs o v h.2.2⟩
def CtxO (q : Addr × Obj) : Prop := ∃ ws : Array Value, q.2.data = .fields ws ∧ ws[2]? = some .none
/-- in the air of X: the exception at a, whose context q is pinned -/
def XEK (X : Cx) (W : WX) (u : Value) (s' : Shared) : Prop :=
  ∃ (a : Addr) (B : Heap) (sI : Shared) (pins : List (Addr × Obj)) (q : Addr × Obj) (σ : L2.St) (H : Hp) (cls : Value) (d : Option Addr),
    u = .ref a ∧ Inv X (q :: pins) σ H sI ∧ (∀ b o, sI.heap.get? b = some o → b ∉ frs X.stack → B.get? b = some o) ∧ sI.heap.UpToSlots s'.heap ∧ Sky B X.stack a (Zk cls d q.1) X.env.locals s'.heap ∧ H a = none ∧ s'.os = sI.os ∧ AllBare s'.gens ∧ CtxO q ∧ W cls d σ H
def TakesK (X : Cx) (W : WX) : Prop := ∀ u s', XEK X W u s' → X.xe u s'
/-- behind a call that let such an exception out -/
def CXK (P : Program) (w : World) (outer : List Env) (H : Hp) (s : Shared) (E : XK) (u : Value) (s' : Shared) : Prop :=
  ∃ (a : Addr) (B : Heap) (H' : Hp) (cls : Value) (d : Option Addr) (q : Addr × Obj), u = .ref a ∧ HandSPX.FlyingZ B outer a (Zk cls d q.1) s'.heap ∧ HOk P w H' B ∧ UB (frs outer) H H' s.heap B s'.heap ∧ H' a = none ∧ s'.os = s.os ∧ AllBare s'.gens ∧
    (B.get? q.1 = some q.2 ∧ H' q.1 = none ∧ q.1 ∉ frs outer ∧ (∀ v, q.2.data ≠ .cell v) ∧ CtxO q) ∧ E cls d H'
section
variable {X : Cx} {pins : List (Addr × Obj)} {σ : L2.St} {H : Hp} {sI s s' : Shared} {B : Heap} {W : WX} {E : XK}
theorem Inv.unpin {q : Addr × Obj} (I : Inv X (q :: pins) σ H s) : Inv X pins σ H s := I.pins_of fun p hp => I.pin p (List.mem_append_right _ (List.mem_cons_of_mem _ hp))
theorem XEK.of_call (I : Inv X pins σ H s) (hW : ∀ cls d H', E cls d H' → W cls d σ H') {u : Value} (c : CXK X.prog X.w X.stack H s E u s') : XEK X W u s' := by
  obtain ⟨a, B, H', cls, d, q, rfl, fl, hok, ub, na, os, ag, ⟨qB, qn, qf, qc, qo⟩, hE⟩ := c
  obtain ⟨G, g1, g2⟩ := restrict s'.heap fun b => (B.get? b).isSome || decide (b ∈ frs X.stack)
  have st : B.StaysIn s'.heap := fl.1
  have gB : ∀ b o, B.get? b = some o → G.get? b = some o := fun b o e => (g1 b (by simp [e])).trans (st b o e)
  have gF : ∀ b, b ∈ frs X.stack → G.get? b = s'.heap.get? b := fun b hb => g1 b (by simp [hb])
  have og : ∀ b o, G.get? b = some o → s'.heap.get? b = some o ∧ ((B.get? b).isSome = true ∨ b ∈ frs X.stack) := fun b o e => by
    by_cases z : ((B.get? b).isSome || decide (b ∈ frs X.stack)) = true
    · rw [g1 b z] at e
      exact ⟨e, by simpa [Bool.or_eq_true] using z⟩
    · rw [g2 b (Bool.eq_false_iff.mpr z)] at e
      cases e
  have J : Inv X pins σ H' { s with heap := G, gens := s'.gens, drawn := s'.drawn, toks := s'.toks } := by
    refine I.call (ch := []) ⟨fun b o e n hb _ => gB b o (ub.keep b o e n hb), fun b o e n hb _ => ?_, fun b o e n _ => ub.free b o e n, fun b o e _ => ?_, ub.tups, ub.frzs, ub.tbls⟩ (hok.kept gB) ag (fun _ z => (List.not_mem_nil z).elim)
    · obtain ⟨sl, r⟩ := ub.slot b o e hb
      exact ⟨sl, (gF b hb).trans r⟩
    · by_cases hb : b ∈ frs X.stack
      · obtain ⟨sl, r⟩ := ub.slot b o e hb
        exact ⟨_, (gF b hb).trans r⟩
      · obtain ⟨o', r⟩ := ub.there b o e hb
        exact ⟨o', gB b o' r⟩
  have nL : q.1 ≠ X.env.locals ∧ q.1 ∉ X.fs := by
    rcases I.ok.stk with e | ⟨e, hf⟩
    · refine ⟨fun z => ?_, fun hm => qf (by rw [e]; exact hm)⟩
      -- the block's own map is a dict, no record
      obtain ⟨m, ⟨o', es, ep, h1, h2, _⟩, _⟩ := J.loc
      have h3 := gB _ _ qB
      rw [z] at h3
      have h4 : o' = q.2 := Option.some.inj (h1.symm.trans h3)
      obtain ⟨ws, d1, _⟩ := qo
      rw [h4, d1] at h2
      cases h2
    · rw [e] at qf
      exact ⟨fun z => qf (List.mem_filterMap.mpr ⟨X.env, List.mem_cons_self, by rw [hf, z]⟩), fun hm => qf (by
        obtain ⟨v, hv, r⟩ := List.mem_filterMap.mp hm
        exact List.mem_filterMap.mpr ⟨v, List.mem_cons_of_mem _ hv, r⟩)⟩
  refine ⟨a, B, _, pins, q, σ, H', cls, d, rfl, J.pins_of fun p hp => ?_, fun b o e hb => ?_, Heap.UpToSlots.of_keeps fun b o e => (og b o e).1, .inr (.inl fl), na, os, ag, qo, hW _ _ _ hE⟩
  · rcases List.mem_cons.mp hp with rfl | hp
    · exact ⟨gB _ _ qB, qn, nL.1, nL.2, qc⟩
    · exact J.pin p (List.mem_append_right _ hp)
  · obtain ⟨e', h⟩ := og b o e
    rcases h with h | h
    · obtain ⟨o', r⟩ := Option.isSome_iff_exists.mp h
      rw [r]
      exact (st b o' r).symm.trans e'
    · exact absurd h hb
theorem XEK.new {a : Addr} {q : Addr × Obj} {oe : Obj} {vs : Array Value} {cls : Value} {d : Option Addr} (I : Inv X (q :: pins) σ H sI) (k : ∀ b o, sI.heap.get? b = some o → s'.heap.get? b = some o) (hne : sI.heap.get? a = none) (he : s'.heap.get? a = some oe)
    (hz : Zk cls d q.1 oe) (hd : oe.data = .fields vs) (h1 : vs[1]? = some .none) (na : H a = none) (os : s'.os = sI.os) (ag : AllBare s'.gens) (qo : CtxO q) (w : W cls d σ H) : XEK X W (.ref a) s' := by
  have gone : (PySem.W.hideAll sI.heap (frs X.stack)).get? a = none := by
    cases z : (PySem.W.hideAll sI.heap (frs X.stack)).get? a with
    | none => rfl
    | some o => exact (by rw [PySem.W.of_hideAll _ z] at hne; cases hne)
  exact ⟨a, PySem.W.hideAll sI.heap (frs X.stack), sI, pins, q, σ, H, cls, d, rfl, I, fun b o e hb => PySem.W.hideAll_get _ e hb, Heap.UpToSlots.of_keeps k, .inl ⟨fun b o e => k b o (PySem.W.of_hideAll _ e), gone,
    Heap.FunFrames.of_keeps (fun b o e _ => ⟨o, k b o e, rfl⟩) (funFrames_none I.stack fun b hb => PySem.W.hideAll_none _ hb), oe, vs, he, hz, hd, h1⟩, na, os, ag, qo, w⟩
theorem XEK.leave (hs : X.stack = X.env :: X.outer) (hf : X.env.frame = some X.env.locals) (hex : X.ex = []) {E₁ : Value → Shared → Prop} (hW : ∀ cls d σ H, W cls d σ H → E cls d H) {u : Value} (x : XEK X W u s') :
    wpAny (model X.prog X.w) X.A (leaving X.env u) (fun _ s'' => CXK X.prog X.w X.outer X.H_0 X.s_0 E u s'') E₁ s' := by
  obtain ⟨a, B, sI, pins, q, σ, H, cls, d, rfl, I, nb, up, sky, na, os, ag, qo, w⟩ := x
  have hfr : X.A.frames = some (X.env :: X.outer) := by rw [I.ok.frames, hs]
  have nst : ∀ b o, X.s_0.heap.get? b = some o → b ∉ X.fs → b ∉ frs X.stack := fun b o e hb hm => (List.mem_cons.mp (I.stkSub b hm)).elim (fun z => by
    have h1 := Heap.lt_size e
    rw [z] at h1
    exact absurd (Nat.lt_of_lt_of_le h1 I.ok.above) (Nat.lt_irrefl _)) hb
  have no : ∀ b, b ∉ X.ex := fun b hb => by rw [hex] at hb; cases hb
  have hokB := I.inGround nb
  have zq := I.pin q (List.mem_append_right _ List.mem_cons_self)
  have qst : q.1 ∉ frs X.stack := fun m => (List.mem_cons.mp (I.stkSub _ m)).elim zq.2.2.1 zq.2.2.2.1
  have fin : ∀ h', HandSPX.FlyingZ B X.outer a (Zk cls d q.1) h' → s'.heap.UpToSlots h' → CXK X.prog X.w X.outer X.H_0 X.s_0 E (.ref a) { s' with heap := h' } := fun h' fl up' => by
    refine ⟨a, B, H, cls, d, q, rfl, fl, hokB, ⟨fun b o e n hb => nb b o (I.base.keep b o e n hb (no b)) (nst b o e hb), fun b o e hb => ?_, fun b o e n => I.base.free b o e n (no b), fun b o e hb => ?_, I.base.tups, I.base.frzs, I.base.tbls⟩,
      na, os.trans I.os, ag, ⟨nb _ _ zq.1 qst, zq.2.1, zq.2.2.2.1, zq.2.2.2.2, qo⟩, hW _ _ _ _ w⟩
    · obtain ⟨_, o₀, e₀, hnf⟩ := I.ok.funs.mem hb
      obtain rfl : o = o₀ := Option.some.inj (e.symm.trans e₀)
      obtain ⟨_, e1⟩ := I.base.slot b o e (I.ok.frf b hb) hb (no b)
      obtain ⟨_, e2⟩ := up b _ e1 hnf
      obtain ⟨sl, e3⟩ := up' b _ e2 hnf
      exact ⟨sl, e3⟩
    · obtain ⟨o', e1⟩ := I.base.there b o e (no b)
      exact ⟨o', nb b o' e1 (nst b o e hb)⟩
  rw [hs] at sky
  rcases sky with ⟨hB, hn, hl, oe, vs, he, hz, hd, h1⟩ | fl | hd
  · exact PXN.leaving_firstZ Zk.steady hfr hl hf he hB hn hd h1 hz fin
  · exact PXN.leaves_onZ Zk.steady hfr hf fl fin
  · exact HandSPX.leaves_heldZ hf hd fin
theorem takesK_of (hs : X.stack = X.env :: X.outer) (hf : X.env.frame = some X.env.locals) (hex : X.ex = []) {E₁ : Value → Shared → Prop}
    (hx : X.xe = fun e s' => wpAny (model X.prog X.w) X.A (leaving X.env e) (fun _ s'' => CXK X.prog X.w X.outer X.H_0 X.s_0 E e s'') E₁ s') : TakesK X (fun cls d _ H => E cls d H) := fun u s' x => by
  rw [hx]
  exact XEK.leave (W := fun cls d _ H => E cls d H) (E := E) hs hf hex (fun _ _ _ _ h => h) x
theorem passAtK (tk : TakesK X W) (σ : L2.St) : PassesAt (CXK X.prog X.w) X σ (WE W σ) := fun _ _ _ e s' I c => tk e s' (XEK.of_call I (fun _ _ _ h => h) c)
end
/-- raise C(..) within a suite -/
theorem ps_raiseK {X : Cx} {W : WX} {e : Expr} {t : L2.St → Hp → XK → Prop} {pos : Pos} {p : Addr × Obj} (hot : Hot1 X.A p) (hp : p ∈ X.pn) (tk : TakesK X W) (he : L2N.PMk X e t) : PS X (.Raise (some e) none pos) (fun _ σ H => t σ H fun cls d H' => W cls d σ H') := by
  obtain ⟨hh, v1, e1, c1⟩ := hot
  refine ⟨fun pins s σ H D I h => ?_⟩
  show wpAny _ _ (do standAt pos; raiseStmt X.env (some (do let v ← eval e X.env; standAt pos; pure v)) none) _ _ _
  refine wpAny_bind (wpAny_standAt (raise_made_hot (x1 := p.1) (wpAny_bind (wpAny_mono (he pins s σ H _ I h) (fun u s1 hu => wpAny_bind (wpAny_standAt (wpAny_pure ?_))) fun _ _ x => x))))
  obtain ⟨a, oe, vs, sI, H', cls, d, rfl, J, k, hne, ha, hz, hd, h1, na, os, ag, r, q⟩ := hu
  obtain ⟨r1, r2⟩ := r (model X.prog X.w) s1.heap (J.kIn.keeps k)
  have P1 := J.pin p (List.mem_append_left _ hp)
  have nap : p.1 ≠ a := fun z => by
    have := P1.1
    rw [z, hne] at this
    cases this
  have sz : 2 < vs.size := (Array.getElem?_eq_some_iff.mp (hz.2.2 vs hd)).1
  have g1 : (vs.setIfInBounds 2 (Value.ref p.1))[1]? = some Value.none := by
    have : (vs.setIfInBounds 2 (Value.ref p.1))[1]? = vs[1]? := by first | exact Array.getElem?_setIfInBounds_ne (by decide) | simp [Array.getElem?_setIfInBounds]
    rw [this]
    exact h1
  have g2 : (vs.setIfInBounds 2 (Value.ref p.1))[2]? = some (Value.ref p.1) := by simp [Array.getElem?_setIfInBounds, sz]
  have dm := Obj.data_mapFields hd (·.setIfInBounds 2 (Value.ref p.1))
  refine ⟨a, oe, vs, cls, rfl, ha, hz.1, hd, h1, sz, nap, ⟨hh, p.2, v1, k _ _ P1.1, e1, c1⟩, r1, r2, tk _ _ (XEK.new (q := p) (pins := pins) (J.pins_of fun b hb => ?_) (fun b u z => ?_) hne (Heap.get?_update_self _ ha (Obj.isFreed_of_fields dm))
    ⟨(Obj.cls_mapFields ..).trans hz.1, (HandSPX.dict_mapFields ..).trans hz.2.1, fun ws ew => ?_⟩ dm g1 na os ag ⟨v1, e1, c1⟩ q)⟩
  · rcases List.mem_cons.mp hb with rfl | hb
    · exact P1
    · exact J.pin b (List.mem_append_right _ hb)
  · have nab : a ≠ b := fun y => by
      rw [← y, hne] at z
      cases z
    show (s1.heap.update a (Obj.mapFields (·.setIfInBounds 2 (.ref p.1)))).get? b = some u
    rw [Heap.get?_update_other _ _ nab]
    exact k b u z
  · rw [dm] at ew
    obtain rfl := Data.fields.inj ew
    exact g2
/-! ### try: body, except x: a suite that raises, else -/
section
variable {X : Cx} {x : Str} {c : Value} {body suite orelse : List Stmt} {b₀ : Stmt} {np pos pos' : Pos} {tb : WX → TS} {ts : Addr → Value → Option Addr → TS} {u : TS} {Wout : WX}
/-- the clause matches -/
def wHit (K : PySem.W.Frag) (c : Value) (ts : Addr → Value → Option Addr → TS) (D : Ends) : WX := fun cls d σ H => PySem.W.exmOne K cls c = some true ∧ ∀ a, H a = none → ts a cls d D σ H
theorem nofr {B h : Heap} {env : Env} {outer : List Env} {a : Addr} {o : Obj} {vs : Array Value} (ff : h.FunFrames B (env :: outer)) (e : h.get? a = some o) (d : o.data = .fields vs) : a ∉ frs (env :: outer) := fun hm => by
  obtain ⟨_, o', e', n⟩ := ff.mem hm
  obtain rfl : o = o' := Option.some.inj (e.symm.trans e')
  exact n _ d
theorem ps_try_elseR (hs : X.stack = X.env :: X.outer) (hf : X.env.frame = some X.env.locals) (hc : Names X x c) (hpa : ∀ hd : Option Value, PassesOwnAt (model X.prog X.w) (X.A.mark hd) X.A X.env X.xe) (tk : TakesK X Wout) (ho : PSs X orelse u)
    (hb : ∀ (W : WX) (pn : List (Addr × Obj)) (xe : Value → Shared → Prop), L2N.Takes (X.tr pn xe) W → PSs (X.tr pn xe) body (tb W))
    (hsu : ∀ (a : Addr) (oe : Obj) (cls : Value) (d : Option Addr) (pn : List (Addr × Obj)), Hot1 (X.A.mark (some (.ref a))) (a, oe) → TakesK (suiteX X a ((a, oe) :: pn)) Wout → PSs (suiteX X a ((a, oe) :: pn)) (b₀ :: suite) (ts a cls d)) :
    PS X (.Try body [.ExceptHandler (some (.Name x np)) none (b₀ :: suite) pos'] orelse [] pos) (fun D σ H => tb (wHit X.K c ts D) { D with nx := u D } σ H) := by
  refine ⟨fun pins s σ H D I h => ?_⟩
  have ok := I.ok
  have hfr : X.A.frames = some (X.env :: X.outer) := by rw [ok.frames, hs]
  refine wpAny_Try_except ?_
  refine wpAny_mono ((hb (wHit X.K c ts D) (X.pn ++ pins) (fun e s₁ => wpAny (model X.prog X.w) X.A (noteFrame e X.env) (fun _ s₂ => wpAny (model X.prog X.w) X.A (setFlight e none) (fun _ s₃ =>
    wpAny (model X.prog X.w) X.A (handleBy e X.env [.ExceptHandler (some (.Name x np)) none (b₀ :: suite) pos']) (SP X pins D) X.xe s₃) X.xe s₂) X.xe s₁) (fun v s' xx => ?_)).run [] s σ H { D with nx := u D } (I.toTry _) h) (fun f s1 hsp => ?_) (fun e s1 he => he)
  · obtain ⟨a, B, sI, pins', σ', H', cls, d, rfl, J', nb, up, sky, na, os, ag, hyes, hts⟩ := xx
    have J : Inv X pins σ' H' sI := J'.ofTry ok
    have sky' : Sky B (X.env :: X.outer) a (L2N.Zn cls d) X.env.locals s'.heap := hs ▸ sky
    show wpAny (model X.prog X.w) X.A (noteFrame (.ref a) X.env) _ _ _
    refine L2N.Sky.land L2N.Zn.steady hfr hf sky' fun h3 fl3 up3 => ?_
    have J3 : Inv X pins σ' H' { s' with heap := h3 } := J.landed nb fl3.1 (up.trans up3) os ag
    obtain ⟨oe3, vs3, he3, hz3, hd3⟩ := fl3.there
    have nfr := nofr fl3.2.2.1 he3 hd3
    have nL : a ≠ X.env.locals := fun z => nfr (List.mem_filterMap.mpr ⟨X.env, List.mem_cons_self, by rw [hf, z]⟩)
    have nF : a ∉ X.fs := fun hm => (List.mem_filterMap.mp hm).elim fun e z => nfr (List.mem_filterMap.mpr ⟨e, List.mem_cons_of_mem _ z.1, z.2⟩)
    have S3 := J3.suite he3 hd3 na nL nF
    refine wpAny_handleBy_cons (codeAny_handlers_test ?_) (fun z => by cases z)
    have LT : PySem.W.Looks (model X.prog X.w) h3 (typeOf (.ref a)) cls := fun A Q E s k q => wpAny_typeOf_ref (k _ _ he3) (by rw [hz3.1]; exact q)
    have LM := PySem.W.exm_one (M := model X.prog X.w) J3.kIn LT hyes
    have test : ∀ {Q : Value → Shared → Prop} {E : Value → Shared → Prop}, Q c { s' with heap := h3 } → wpAny (model X.prog X.w) (X.A.mark (some (.ref a))) (eval (.Name x np) X.env) Q E { s' with heap := h3 } := fun {Q E} q => by
      obtain ⟨hg, hdbg, hm | ⟨hm, hv, hnn⟩⟩ := hc
      · exact ld_glob (X := X.suite a ((a, oe3) :: (X.pn ++ pins))) S3 hg hm q hdbg
      · exact ld_blt (X := X.suite a ((a, oe3) :: (X.pn ++ pins))) S3 hg hm hv q hnn hdbg
    refine test (LM.here (codeAny_handlers_suite (HandSPX.lands_againZ fl3 fun h4 fl4 up4 => ?_)))
    have J4 : Inv X pins σ' H' { s' with heap := h4 } := J.landed nb fl4.1 ((up.trans up3).trans up4) os ag
    obtain ⟨oe4, vs4, he4, hz4, hd4⟩ := fl4.there
    have S4 := J4.suite he4 hd4 na nL nF
    have tkS : TakesK (suiteX X a ((a, oe4) :: (X.pn ++ pins))) Wout := fun u2 s2 x2 => by
      obtain ⟨a2, B2, sI2, pn2, q2, σ2, H2, cls2, d2, e2, I2, nb2, up2, sky2, na2, os2, ag2, qo2, w2⟩ := x2
      have z2 := I2.pin q2 (List.mem_append_right _ List.mem_cons_self)
      have I3 : Inv X pins σ2 H2 sI2 := unsuiteX I2 ok
      refine tk u2 s2 ⟨a2, B2, sI2, pins, q2, σ2, H2, cls2, d2, e2, I3.pins_of fun p hp => ?_, nb2, up2, sky2, na2, os2, ag2, qo2, w2⟩
      rcases List.mem_cons.mp hp with rfl | hp
      · exact z2
      · exact I3.pin p (List.mem_append_right _ hp)
    refine wpAny_mono ((hsu a oe4 cls d (X.pn ++ pins) ⟨rfl, vs4, hd4, hz4.2.2 vs4 hd4⟩ tkS).run [] _ _ H' _ (suiteX_of S4) (hts a na)) (fun f s6 hsp => ?_) (fun e6 s6 z => hpa (some (.ref a)) e6 s6 z)
    cases f with
    | ret v =>
      obtain ⟨v6, σ6, H6, S6, r6, q6⟩ := hsp
      exact ⟨_, _, _, unsuiteX S6 ok, r6, q6⟩
    | next => obtain ⟨σ6, H6, S6, q6⟩ := hsp; exact ⟨_, _, unsuiteX S6 ok, q6⟩
    | brk => obtain ⟨σ6, H6, S6, q6⟩ := hsp; exact ⟨_, _, unsuiteX S6 ok, q6⟩
    | cont => obtain ⟨σ6, H6, S6, q6⟩ := hsp; exact ⟨_, _, unsuiteX S6 ok, q6⟩
  · cases f with
    | next => obtain ⟨σ', H', J', q⟩ := hsp; exact ho.run pins s1 σ' H' D (J'.ofTry ok) q
    | brk => obtain ⟨σ', H', J', q⟩ := hsp; exact ⟨σ', H', J'.ofTry ok, q⟩
    | cont => obtain ⟨σ', H', J', q⟩ := hsp; exact ⟨σ', H', J'.ofTry ok, q⟩
    | ret v =>
      obtain ⟨v, σ', H', J', r, q⟩ := hsp
      exact ⟨v, σ', H', J'.ofTry ok, r, q⟩
/-- try: body, except x: a suite that may call; the error bears a context -/
theorem ps_try_onlyK (hs : X.stack = X.env :: X.outer) (hf : X.env.frame = some X.env.locals) (hc : Names X x c)
    (hb : ∀ (W : WX) (pn : List (Addr × Obj)) (xe : Value → Shared → Prop), TakesK (X.tr pn xe) W → PSs (X.tr pn xe) body (tb W))
    (hsu : ∀ (a : Addr) (oe : Obj) (q : Addr × Obj) (cls : Value) (d : Option Addr) (pn : List (Addr × Obj)), Hot2 (X.A.mark (some (.ref a))) (a, oe) q → PSs (X.suite a ((a, oe) :: q :: pn)) (b₀ :: suite) (ts a cls d)) :
    PS X (.Try body [.ExceptHandler (some (.Name x np)) none (b₀ :: suite) pos'] [] [] pos) (fun D σ H => tb (wHit X.K c ts D) D σ H) := by
  refine ⟨fun pins s σ H D I h => ?_⟩
  have ok := I.ok
  have hfr : X.A.frames = some (X.env :: X.outer) := by rw [ok.frames, hs]
  refine wpAny_Try_except ?_
  refine wpAny_mono ((hb (wHit X.K c ts D) (X.pn ++ pins) (fun e s₁ => wpAny (model X.prog X.w) X.A (noteFrame e X.env) (fun _ s₂ => wpAny (model X.prog X.w) X.A (setFlight e none) (fun _ s₃ =>
    wpAny (model X.prog X.w) X.A (handleBy e X.env [.ExceptHandler (some (.Name x np)) none (b₀ :: suite) pos']) (SP X pins D) X.xe s₃) X.xe s₂) X.xe s₁) (fun v s' xx => ?_)).run [] s σ H D (I.toTry _) h) (fun f s1 hsp => ?_) (fun e s1 he => he)
  · obtain ⟨a, B, sI, pins', q, σ', H', cls, d, rfl, J', nb, up, sky, na, os, ag, ⟨ws, dq, cq⟩, hyes, hts⟩ := xx
    have zq := J'.pin q (List.mem_append_right _ List.mem_cons_self)
    have J0 : Inv X pins σ' H' sI := Inv.ofTry (pn' := q :: pins') J' ok
    have J : Inv X (pins ++ [q]) σ' H' sI := J0.pins_of fun p hp => by
      rcases List.mem_append.mp hp with hp | hp
      · exact J0.pin p (List.mem_append_right _ hp)
      · rw [List.mem_singleton.mp hp]
        exact zq
    have sky' : Sky B (X.env :: X.outer) a (Zk cls d q.1) X.env.locals s'.heap := hs ▸ sky
    show wpAny (model X.prog X.w) X.A (noteFrame (.ref a) X.env) _ _ _
    refine L2N.Sky.land Zk.steady hfr hf sky' fun h3 fl3 up3 => ?_
    have J3 := J.landed (s' := { s' with heap := h3 }) nb fl3.1 (up.trans up3) os ag
    obtain ⟨oe3, vs3, he3, hz3, hd3⟩ := fl3.there
    have nfr := nofr fl3.2.2.1 he3 hd3
    have nL : a ≠ X.env.locals := fun z => nfr (List.mem_filterMap.mpr ⟨X.env, List.mem_cons_self, by rw [hf, z]⟩)
    have nF : a ∉ X.fs := fun hm => (List.mem_filterMap.mp hm).elim fun e z => nfr (List.mem_filterMap.mpr ⟨e, List.mem_cons_of_mem _ z.1, z.2⟩)
    have S3 := J3.suite he3 hd3 na nL nF
    refine wpAny_handleBy_cons (codeAny_handlers_test ?_) (fun z => by cases z)
    have LT : PySem.W.Looks (model X.prog X.w) h3 (typeOf (.ref a)) cls := fun A Q E s k q => wpAny_typeOf_ref (k _ _ he3) (by rw [hz3.1]; exact q)
    have LM := PySem.W.exm_one (M := model X.prog X.w) J3.kIn LT hyes
    have test : ∀ {Q : Value → Shared → Prop} {E : Value → Shared → Prop}, Q c { s' with heap := h3 } → wpAny (model X.prog X.w) (X.A.mark (some (.ref a))) (eval (.Name x np) X.env) Q E { s' with heap := h3 } := fun {Q E} z => by
      obtain ⟨hg, hdbg, hm | ⟨hm, hv, hnn⟩⟩ := hc
      · exact ld_glob (X := X.suite a ((a, oe3) :: (X.pn ++ (pins ++ [q])))) S3 hg hm z hdbg
      · exact ld_blt (X := X.suite a ((a, oe3) :: (X.pn ++ (pins ++ [q])))) S3 hg hm hv z hnn hdbg
    refine test (LM.here (codeAny_handlers_suite (HandSPX.lands_againZ fl3 fun h4 fl4 up4 => ?_)))
    have J4 := J.landed (s' := { s' with heap := h4 }) nb fl4.1 ((up.trans up3).trans up4) os ag
    obtain ⟨oe4, vs4, he4, hz4, hd4⟩ := fl4.there
    have S4 := J4.suite he4 hd4 na nL nF
    -- the pins in the order that the suite wishes
    have S5 : Inv (X.suite a ((a, oe4) :: q :: (X.pn ++ pins))) [] σ' H' { s' with heap := h4 } := ⟨ok.suite _ _, S4.os, S4.bare, S4.base, S4.loc, S4.cell, S4.free, S4.freeC, fun p hp => S4.pin p (by
      have hp : p ∈ ((a, oe4) :: q :: (X.pn ++ pins)) ++ ([] : List (Addr × Obj)) := hp
      show p ∈ ((a, oe4) :: (X.pn ++ (pins ++ [q]))) ++ ([] : List (Addr × Obj))
      simp only [List.append_nil, List.mem_cons, List.mem_append, List.not_mem_nil, or_false] at hp ⊢
      rcases hp with h | h | h | h
      · exact .inl h
      · exact .inr (.inr (.inr h))
      · exact .inr (.inl h)
      · exact .inr (.inr (.inl h))), S4.hok, S4.len⟩
    have ne : a ≠ q.1 := fun z => by
      have h1 := (S5.pin q (List.mem_append_left _ (List.mem_cons_of_mem _ List.mem_cons_self))).1
      have h2 := (S5.pin (a, oe4) (List.mem_append_left _ List.mem_cons_self)).1
      have h2 : h4.get? a = some oe4 := h2
      have h1 : h4.get? q.1 = some q.2 := h1
      rw [← z, h2] at h1
      have e : oe4 = q.2 := Option.some.inj h1
      have c1 := hz4.2.2 vs4 hd4
      rw [e, dq] at hd4
      obtain rfl := Data.fields.inj hd4
      rw [cq] at c1
      cases c1
    have hot : Hot2 (X.A.mark (some (.ref a))) (a, oe4) q := ⟨rfl, ne, ⟨vs4, hd4, hz4.2.2 vs4 hd4⟩, ⟨ws, dq, cq⟩⟩
    have back : ∀ {σ6 : L2.St} {H6 : Hp} {s6 : Shared}, Inv (X.suite a ((a, oe4) :: q :: (X.pn ++ pins))) [] σ6 H6 s6 → Inv X pins σ6 H6 s6 := fun {σ6 H6 s6} S => ⟨ok, S.os, S.bare, S.base, S.loc, S.cell, S.free, S.freeC, fun p hp => S.pin p (List.mem_append_left _ (List.mem_cons_of_mem _ (List.mem_cons_of_mem _ hp))), S.hok, S.len⟩
    refine wpAny_mono ((hsu a oe4 q cls d (X.pn ++ pins) hot).run [] _ _ H' _ S5 (hts a na)) (fun f s6 hsp => ?_) (fun _ _ z => False.elim z)
    cases f with
    | ret v =>
      obtain ⟨v6, σ6, H6, S6, r6, q6⟩ := hsp
      exact ⟨_, _, _, back S6, r6, q6⟩
    | next => obtain ⟨σ6, H6, S6, q6⟩ := hsp; exact ⟨_, _, back S6, q6⟩
    | brk => obtain ⟨σ6, H6, S6, q6⟩ := hsp; exact ⟨_, _, back S6, q6⟩
    | cont => obtain ⟨σ6, H6, S6, q6⟩ := hsp; exact ⟨_, _, back S6, q6⟩
  · cases f with
    | next => obtain ⟨σ', H', J', q⟩ := hsp; exact wpAny_execs_nil ⟨σ', H', J'.ofTry ok, q⟩
    | brk => obtain ⟨σ', H', J', q⟩ := hsp; exact ⟨σ', H', J'.ofTry ok, q⟩
    | cont => obtain ⟨σ', H', J', q⟩ := hsp; exact ⟨σ', H', J'.ofTry ok, q⟩
    | ret v =>
      obtain ⟨v, σ', H', J', r, q⟩ := hsp
      exact ⟨v, σ', H', J'.ofTry ok, r, q⟩
end
/-! ### d[k] that may be missing; a call that lets such an error out -/
section
variable {X : Cx} {P : Program} {w : World} {K : PySem.W.Frag} {mg : Str → Option Value} {base : Heap} {k : Nat} {W : WX} {m : Str} {o i e : Expr} {es : List Expr} {td ty ta : TE} {t : TA} {pos apos : Pos}
theorem pe_dgetN (hc : X.calm = true) (hu : X.A.units + 1 < cLine) (tk : L2N.Takes X W) (ho : PE X o td) (hi : PE X i ty) (hs : NoSl i) : PE X (.Subscript o i pos) (tDGetX W td ty) := by
  refine ⟨fun pins s σ H Q I h => subD_of PySem.F.slot_dict_getitem.lookup hs (thn (ho.run pins s σ H _ I h) fun u s1 ⟨x, H1, I1, rx, q1⟩ => thn (hi.run pins s1 σ H1 _ I1 q1) fun iv s2 ⟨y, H2, I2, ry, a, ov, ex, g, qs, qn⟩ => ?_)⟩
  subst ex
  obtain rfl : u = Value.ref a := rx
  refine ⟨dict_typeIs I2 g, ?_⟩
  cases ov with
  | some v => exact d_getItem hu I2 g ry fun w' s3 I3 rw' => ⟨v, H2, I3, rw', qs v rfl⟩
  | none => exact d_missing hu (I2.ok.hd hc) I2 g ry fun h' e t' ne => L2N.takes_newN (t' := t') tk I2 ne (qn rfl)
def tMAK (P : Program) (w : World) (K : PySem.W.Frag) (mg : Str → Option Value) (base : Heap) (m : Str) (k : Nat) (W : WX) (ta : TE) (t : TA) : TE := fun σ H Q => ta σ H fun xv H1 => ∃ a C dx fs j ps dvs sp, xv = .ref a ∧ H1 a = some (.ins C dx fs) ∧ Cls K C ∧ fs.lookup m = none ∧
  Mth P w K mg base (CXK P w) C m j ps dvs sp ∧ j ≤ k ∧ t σ H1 fun vs H2 => sp (xv :: (vs ++ dvs)) H2 Q (WE W σ)
theorem pe_maK {pl : Sem Bool} (hX : Sx X P w K mg base) (hr : Room k X.A) (tk : TakesK X W) (he : PE X o ta) (ha : PA X (e :: es) t)
    (hst : starEach (e :: es) X.env = (false, eval e X.env) :: starEach es X.env := by rfl) (hpl : (backTo pos (starEach es X.env)).any (·.1) = false := by rfl)
    (ht : eval (.Call (.Attribute o m apos) (e :: es) [] pos) X.env = (do
      let ov ← eval o X.env
      standAt apos.atName
      let (f, first) ← holding [ov] (getMethod ov m pl)
      callWith pos f first (backTo pos (starEach (e :: es) X.env)) (backToKw pos (keywordEach [] X.env))) := by rfl) :
    PE X (.Call (.Attribute o m apos) (e :: es) [] pos) (tMAK P w K mg base m k W ta t) := by
  obtain ⟨rfl, rfl, rfl, rfl, rfl⟩ := hX
  refine ⟨fun pins s σ H Q I h => PySem.W.methodCall_KW (pl := pl) (thn (he.run pins s σ H _ I h) fun u s1 ⟨xv, H1, I1, rx, a, C, dx, fs, j, ps, dvs, sp, ex, ea, c, l, M, hj, q⟩ => ?_) ht⟩
  subst ex
  obtain rfl : u = Value.ref a := rx
  obtain ⟨f, fd, ds, F, hm, hb, hd⟩ := M.ex
  refine getmeth_ok I1 ea c hm l (PySem.W.callWith_K (first := [.ref a]) (h₀ := X.base) I.ok.mod.kin hm.kp (thn (ha.run pos pins s1 σ H1 _ I1 q) fun us s2 ⟨vs, H2, I2, r, q2⟩ => ⟨I2.kIn, ?_⟩) hst hpl)
  exact run_fnSD (us := .ref a :: us) (vs := .ref a :: vs) (E := WE W) F (hr.mono hj) hb hd (passAtK tk σ) I2 (.cons rfl r) q2
theorem w_maK {σ : L2.St} {H : Hp} {Q : VK} (q : ta σ H fun xv H1 => ∃ a C dx fs j ps dvs sp, xv = .ref a ∧ H1 a = some (.ins C dx fs) ∧ Cls K C ∧ fs.lookup m = none ∧
  Mth P w K mg base (CXK P w) C m j ps dvs sp ∧ j ≤ k ∧ t σ H1 fun vs H2 => sp (xv :: (vs ++ dvs)) H2 Q (WE W σ)) : tMAK P w K mg base m k W ta t σ H Q := q
theorem w_dgetX {σ : L2.St} {H : Hp} {Q : VK} (q : td σ H fun x H1 => ty σ H1 fun y H2 => ∃ (a : Addr) (o : Option V), x = .ref a ∧ DGet H2 a y o ∧ (∀ v, o = some v → Q v H2) ∧ (o = none → ∀ d, W (.type "KeyError") d σ H2)) : tDGetX W td ty σ H Q := q
end
end Mn

/-! ### tactics: "rd" reads on as far as it goes; "hp", "ne", "sq", "st", "same", "sz" close what is asked of heaps and sizes -/
local macro_rules | `(tactic| walk_at "sz") => `(tactic| first
  | assumption
  | decide
  | (show _ ≤ PySem.sizeLine; decide)
  | (have sl' := PySem.sizeLine_eq; (try simp only [List.length_map, List.length_append, List.length_cons, List.length_nil, List.length_singleton, List.length_drop, List.length_take]); omega))
local macro_rules | `(tactic| walk_at "ne1") => `(tactic| first
  | assumption
  | (apply Ne.symm; assumption)
  | exact L2.ne_of_none (by assumption) (by assumption)
  | exact (L2.ne_of_none (by assumption) (by assumption)).symm)
local macro_rules | `(tactic| walk_at "hp") => `(tactic| first
  | assumption
  | exact L2.upd_same
  | (rw [L2.upd_ne (by walk_at "ne")]; walk_at "hp")
  | exact (by assumption : L2.Same _ _) _ _ (by assumption)
  | exact (by assumption : L2.Same _ _) _ _ ((by assumption : L2.Same _ _) _ _ (by assumption)))
local macro_rules | `(tactic| walk_at "ne") => `(tactic| first
  | walk_at "ne1"
  | exact Mn.neN (by assumption) (by walk_at "hp")
  | exact (Mn.neN (by assumption) (by walk_at "hp")).symm
  | exact L2.ne_of_none (by walk_at "hp") (by assumption)
  | exact (L2.ne_of_none (by walk_at "hp") (by assumption)).symm)
local macro_rules | `(tactic| walk_at "same") => `(tactic| first
  | assumption
  | exact L2.Same.refl _
  | exact L2.Same.trans (by assumption) (by assumption)
  | (refine' Mn.same_upd (by walk_at "same") (by assumption))
  | (refine' Mn.same_mut (by walk_at "same") (by assumption)))
local macro_rules | `(tactic| walk_at "sq") => `(tactic| first
  | assumption
  | exact L2.SqL.of L2.upd_same
  | exact L2.SqL.of (by walk_at "hp")
  | (refine' L2.Same.seq ?sq_s ?sq_h; (case sq_h => assumption); (case sq_s => walk_at "same")))
local macro_rules | `(tactic| walk_at "st") => `(tactic| first
  | assumption
  | exact L2.SqT.of L2.upd_same
  | exact L2.SqT.of (by walk_at "hp")
  | (refine' Mn.sqT_same ?sq_s ?sq_h; (case sq_h => assumption); (case sq_s => walk_at "same")))
local macro_rules | `(tactic| walk_at "cls") => `(tactic| first | assumption | exact Mn.ClsF.cl (by assumption))
local macro_rules | `(tactic| walk_at "noattr") => `(tactic| exact Mn.ClsF.no (by assumption) _ (by decide))
local macro_rules | `(tactic| walk_at "v2") => `(tactic| first
  | ((with_reducible refine' Mn.w_lenL ?h ?_); (case h => walk_at "sq"))
  | ((with_reducible refine' Mn.w_lenT ?h ?_); (case h => walk_at "st"))
  | ((with_reducible refine' Mn.w_lenS ?h ?_); (case h => walk_at "sz"))
  | ((with_reducible refine' Mn.w_addS ?h ?_); (case h => walk_at "sz"))
  | with_reducible refine Mn.w_intB ?_
  | with_reducible refine Mn.w_max ?_
  | with_reducible refine Mn.w_min ?_
  | with_reducible refine Mn.w_isN ?_
  | with_reducible refine Mn.w_notN ?_
  | with_reducible refine Mn.w_inS ?_
  | with_reducible refine Mn.w_ninS ?_
  | with_reducible refine Mn.w_bm ?_
  | with_reducible refine Mn.w_bm0 ?_
  | with_reducible refine Mn.w_tyS ?_
  | with_reducible refine Mn.w_tyI ?_
  | ((with_reducible refine' Mn.w_tyL ?h ?_); (case h => walk_at "sq"))
  | ((with_reducible refine' Mn.w_app ?h ?hs ?_); (case h => walk_at "hp"); (case hs => walk_at "sz"))
  | with_reducible refine Mn.w_lst ?_
  | with_reducible refine Mn.w_tup ?_
  | with_reducible refine Mn.w_sl ?_
  | with_reducible refine Mn.w_part ?_
  | with_reducible refine Mn.w_part1 ?_
  | with_reducible refine Mn.w_nopart ?_
  | with_reducible refine Mn.w_m1 ?_
  | with_reducible refine Mn.w_m0 ?_
  | with_reducible refine Mn.w_isS ?_
  | with_reducible refine Mn.w_fld ?_
  | ((with_reducible refine' Mn.w_fld1 ?h ?c ?n ?l ?_); (case h => walk_at "hp"); (case c => walk_at "cls"); (case n => walk_at "noattr"); (case l => rfl))
  | ((with_reducible refine' Mn.w_sfld1 ?h ?c ?n ?l ?_); (case h => walk_at "hp"); (case c => walk_at "cls"); (case n => walk_at "noattr"); (case l => exact Mn.ltb rfl))
  | with_reducible refine Mn.w_ma ?_
  | with_reducible refine Mn.w_maG ?_
  | with_reducible refine Mn.w_isBl ?_
  | ((with_reducible refine' Mn.w_gtup ?h ?l ?_); (case h => walk_at "st"); (case l => rfl))
  | with_reducible refine Mn.w_gcons ?_
  | with_reducible refine Mn.w_dput ?_
  | ((with_reducible refine' Mn.w_eqE ?h1 ?h2 ?_); (case h1 => walk_at "hp"); (case h2 => walk_at "hp"))
  | ((with_reducible refine' Mn.w_neE ?h1 ?h2 ?_); (case h1 => walk_at "hp"); (case h2 => walk_at "hp"))
  | with_reducible refine Mn.w_dget ?_
  | with_reducible refine Mn.w_din ?_
  | with_reducible refine Mn.w_dnin ?_
  | with_reducible refine Mn.w_gnil ?_
  | ((with_reducible refine' Mn.w_aug ?h ?_); (case h => rfl))
  | with_reducible refine Mn.w_ipI ?_
  | with_reducible refine Mn.w_sub ?_
  | with_reducible refine Mn.w_sfld ?_
  | with_reducible refine Mn.w_for ?_
  | with_reducible refine Mn.w_iList ?_
  | with_reducible refine Mn.w_iRng ?_
  | with_reducible refine Mn.w_iRng2 ?_
  | with_reducible refine Mn.w_lc ?_
  | with_reducible refine Mn.w_yes ?_
  | ((with_reducible refine' Mn.w_wip ?h ?_); (case h => rfl))
  | ((with_reducible refine' Mn.w_eqLI ?h1 ?h2 ?_); (case h1 => walk_at "sq"); (case h2 => walk_at "sq"))
  | ((with_reducible refine' Mn.w_neLI ?h1 ?h2 ?_); (case h1 => walk_at "sq"); (case h2 => walk_at "sq"))
  | with_reducible refine L2.iteT ?_
  | with_reducible refine L2.iteF ?_
  | ((with_reducible refine' Mn.w_I ?c ?_); (case c => first | (show (0 : Int) < _; decide) | exact ⟨by decide, by decide⟩ | exact ⟨by decide, by decide, by decide⟩)))
local macro_rules | `(tactic| walk_at "v1") => `(tactic| first
  | ((with_reducible refine' Mn.w_var ?hv ?_); (case hv => rfl))
  | with_reducible refine Mn.w_c ?_
  | with_reducible refine Mn.w_seq ?_
  | with_reducible refine Mn.w_asg ?_
  | ((with_reducible refine' Mn.w_name2 ?hn ?_); (case hn => first | (simp only [L2.start, L2.wipe, List.map_cons, List.map_nil, List.length_cons, List.length_nil, List.replicate_succ, List.replicate_zero, List.cons_append, List.nil_append, List.set_cons_succ, List.set_cons_zero, Nat.reduceSub, Nat.reduceAdd]; exact rfl) | exact rfl))
  | with_reducible refine Mn.w_op ?_
  | with_reducible refine Mn.w_I0 ?_
  | with_reducible refine Mn.w_cons ?_
  | with_reducible refine Mn.w_nil ?_
  | with_reducible refine Mn.w_cb ?_
  | with_reducible refine Mn.w_if ?_
  | with_reducible refine Mn.w_test ?_
  | with_reducible refine Mn.w_bl ?_
  | ((with_reducible refine' Mn.w_eq ?hs ?_); (case hs => rfl))
  | ((with_reducible refine' Mn.w_ne ?hs ?_); (case hs => rfl))
  | with_reducible refine Mn.w_drop ?_
  | with_reducible refine Mn.w_ret ?_
  | with_reducible refine Mn.w_and ?_
  | with_reducible refine Mn.w_or ?_
  | with_reducible refine Mn.w_not ?_
  | with_reducible refine Mn.w_B ?_
  | with_reducible refine Mn.w_un ?_
  | with_reducible refine Mn.w_U ?_
  | with_reducible refine Mn.w_andV ?_
  | with_reducible refine Mn.w_orV ?_
  | with_reducible refine Mn.w_notV ?_
  | with_reducible refine Mn.w_chain ?_
  | with_reducible refine Mn.w_next ?_
  | with_reducible refine Mn.w_retN ?_
  | with_reducible refine Mn.w_cont ?_
  | with_reducible refine Mn.w_nx ?_
  | with_reducible refine Mn.w_rt ?_
  | with_reducible refine Mn.w_ct ?_
  | with_reducible refine Mn.w_bk ?_)
local macro_rules | `(tactic| walk_at "if") => `(tactic| first
  | (refine' Mn.w_ite ?_ ?_ <;> (intro c))
  | (refine' Mn.w_iteN ?_ ?_ <;> (intro c))
  | (refine' Mn.w_iteB ?_ ?_ <;> (intro c)))
local macro_rules | `(tactic| walk_at "rd") => `(tactic| repeat (first | walk_at "v1" | walk_at "v2"))

namespace Mn
open PySem L2 TL
section
variable {P : Program} {w : World} {K : PySem.W.Frag} {mg : Str → Option Value} {base : Heap}
/-- number_in: the number told, within the bound; else NoNumber (its class at CN) -/
def spNum (CN : Addr) : Sp := fun vs H Q E => ∃ (x : Str) (most : Int), vs = [.str x, .int most] ∧ x.length ≤ 640 ∧ (∀ v, numOf x = some v → v ≤ most → Q (.int v) H) ∧ ((∀ v, numOf x = some v → ¬ v ≤ most) → False)
theorem ok_number {CN f : Addr} {fd : FuncData} (F : FunS K "number_in" "number_in" s_number_in [.int 1000000] f fd) (T : Bt mg) (e_NoNumber : ErrK K mg "NoNumber" CN) : FnG P w K mg base 1 f fd ["text", "most"] (spNum CN) := by
  refine okD F sc_number_in (fun vs H Q E h => ?_) (fun cdv A outer s H vs Q E calm_ pn_ hr h => ?_)
  · obtain ⟨x, most, rfl, _⟩ := h
    rfl
  obtain ⟨x, most, rfl, hl, q, qe⟩ := h
  have hz := PySem.sizeLine_eq
  refine ⟨_, (pss_cons (ps_if (PW.pt (pw_or (pt_cmpR op_eq (pv 0) pe_str (nomark _)) (pw_or (pt_cmpR op_ne (kBm (K := K) rfl PySem.F.plainAttrs_str PySem.F.slot_str_strip PySem.F.type_str_strip mt_stripChars (pv 0) (pa_cons pe_str pa_nil)) pe_str (nomark _)) (pw_or1 (PW.pt (pw_and (pt_cmpR op_gt (pe_callB call_lenS (by rfl) T.len (by decide +kernel) (pa_cons (pv 0) pa_nil)) pe_int (nomark _)) (pw_and1 (pt_val (pe_m1 PySem.F.slot_str_startswith PySem.F.type_str_startswith mt_startswith (pv 0) pe_str))))))))) (pss_one ps_never) pss_nil)
    (pss_cons (ps_try_thru (pss_one (ps_set (i := 2) sc_number_in.nd rfl (Or.inl rfl) (pe_callTy call_intS (by rfl) T.int (by decide +kernel) (pa_cons (pv 0) pa_nil)))) (pss_one (ps_if (pt_cmpR op_gt (pv 2) (pv 1) (nomark _)) (pss_one ps_never) pss_nil)))
    (pss_one (ps_ret (pv 2))))), ?_⟩
  walk_at "rd"
  have no : numOk (tl x) = false → False := fun h => qe fun v e => by rw [numOf_none h] at e; cases e
  walk_at "if"
  · rename_i c
    walk_at "rd"
    refine no ?_
    rw [V.str.inj c]
    rfl
  rename_i c
  have c : tl x ≠ [] := fun e => c (congrArg V.str (eq_nil_tl.mpr e))
  walk_at "rd"
  refine ⟨x, _, rfl, rfl, by omega, ?_⟩
  walk_at "rd"
  walk_at "if"
  · rename_i c2
    walk_at "rd"
    refine no ?_
    have f : figs (tl x) = false := Bool.eq_false_iff.mpr fun f => by
      have c3 := c2
      rw [strip_figs.mpr f] at c3
      exact c3 rfl
    unfold numOk
    rw [f, Bool.and_false, Bool.false_and]
  rename_i c2
  have f : figs (tl x) = true := strip_figs.mp (V.str.inj c2)
  have lx : x.length = (tl x).length := len_tl x
  -- the number told
  have fin : numOk (tl x) = true → (∀ v, (numOf x = some v) ↔ v = ((NumText.digitsVal (tl x) : Nat) : Int)) := fun h v => by
    unfold numOf
    rw [if_pos h]
    exact ⟨fun e => (Option.some.inj e).symm, fun e => congrArg some e.symm⟩
  have hi := intText_figs f c hl
  generalize ((NumText.digitsVal (tl x) : Nat) : Int) = n at fin hi
  walk_at "rd"
  walk_at "if"
  all_goals rename_i c3
  all_goals walk_at "rd"
  · refine ⟨x, _, rfl, rfl, ?_⟩
    have es : Txt.startswith x "0" = decide ((tl x).head? = some 48) := starts_one x 48
    rw [es]
    walk_at "rd"
    walk_at "if"
    all_goals rename_i c4
    all_goals walk_at "rd"
    · refine no ?_
      unfold numOk
      rw [c4, f, decide_eq_true (show 1 < (tl x).length by omega), decide_eq_true c]
      rfl
    have ok : numOk (tl x) = true := by
      unfold numOk
      rw [f, decide_eq_true c, decide_eq_false c4, Bool.and_false]
      rfl
    refine w_thru ?_
    walk_at "rd"
    refine ⟨x, n, rfl, hi, hl, ?_⟩
    walk_at "rd"
    walk_at "if"
    all_goals rename_i c5
    all_goals walk_at "rd"
    · exact qe fun v e => by rw [(fin ok v).mp e]; omega
    · exact q n ((fin ok n).mpr rfl) (by omega)
  · have ok : numOk (tl x) = true := by
      unfold numOk
      rw [f, decide_eq_true c, decide_eq_false (show ¬ 1 < (tl x).length by omega), Bool.false_and]
      rfl
    refine w_thru ?_
    walk_at "rd"
    refine ⟨x, n, rfl, hi, hl, ?_⟩
    walk_at "rd"
    walk_at "if"
    all_goals rename_i c5
    all_goals walk_at "rd"
    · exact qe fun v e => by rw [(fin ok v).mp e]; omega
    · exact q n ((fin ok n).mpr rfl) (by omega)
end
end Mn

namespace Mn
open PySem L2 TL
open PySem.Builtin PySem.Builtin.Str
def alnum (c : Nat) : Bool := (decide (97 ≤ c) && decide (c ≤ 122)) || (decide (48 ≤ c) && decide (c ≤ 57))
def fitL (l : List Nat) : Bool := decide (1 ≤ l.length) && decide (l.length ≤ 12) && l.all alnum
abbrev signs36 : Str := "abcdefghijklmnopqrstuvwxyz0123456789"
theorem sign_has (c : Nat) : signs36.cps.contains c = alnum c := by
  show (Array.contains #[97, 98, 99, 100, 101, 102, 103, 104, 105, 106, 107, 108, 109, 110, 111, 112, 113, 114, 115, 116, 117, 118, 119, 120, 121, 122, 48, 49, 50, 51, 52, 53, 54, 55, 56, 57] c) = _
  rw [Bool.eq_iff_iff]
  unfold alnum
  simp only [Array.contains_eq_mem, decide_eq_true_eq, List.mem_toArray, List.mem_cons, List.not_mem_nil, or_false, Bool.or_eq_true, Bool.and_eq_true]
  omega
section
variable {P : Program} {w : World} {K : PySem.W.Frag} {mg : Str → Option Value} {base : Heap}
def spFit : Sp := fun vs H Q _ => ∃ x : Str, vs = [.str x] ∧ x.length ≤ 1000 ∧ Q (.bl (fitL (tl x))) H
theorem ok_fit {f : Addr} {fd : FuncData} {tk : Tok} (F : Fun K "fit_name" "fit_name" s_fit_name f fd) (T : Bt mg) (hg : mg "SIGNS" = some (.str signs36 tk)) : FnG P w K mg base 1 f fd ["text"] spFit := by
  refine okG F sc_fit_name (fun vs H Q E h => ?_) (fun cdv A outer s H vs Q E calm_ pn_ hr h => ?_)
  · obtain ⟨x, rfl, _⟩ := h
    rfl
  obtain ⟨x, rfl, hl, q⟩ := h
  have hz := PySem.sizeLine_eq
  have lx := len_tl x
  refine ⟨_, (pss_one (ps_ret (pe_and (pe_chain op_le op_le pe_int (pe_callB call_lenS (by rfl) T.len (by decide +kernel) (pa_cons (pv 0) pa_nil)) pe_int) (pe_one (pe_cmpR op_eq (kBm (K := K) rfl PySem.F.plainAttrs_str PySem.F.slot_str_strip PySem.F.type_str_strip mt_stripChars (pv 0) (pa_cons (pe_gv (mg := mg) rfl rfl) pa_nil)) pe_str (nomark _)))))), ?_⟩
  have fin : ∀ b : Bool, b = fitL (tl x) → Q (.bl b) H := fun b e => by rw [e]; exact q
  walk_at "rd"
  walk_at "if"
  · rename_i c1
    walk_at "rd"
    by_cases c2 : (x.length : Int) ≤ 12
    · rw [decide_eq_true c2]
      walk_at "rd"
      refine w_gv (v := .str signs36) hg ⟨_, rfl⟩ ?_
      walk_at "rd"
      refine ⟨x, _, rfl, rfl, by omega, ?_⟩
      walk_at "rd"
      refine fin _ ?_
      unfold fitL
      rw [decide_eq_true (show 1 ≤ (tl x).length by omega), decide_eq_true (show (tl x).length ≤ 12 by omega), Bool.true_and, Bool.true_and, Bool.eq_iff_iff, decide_eq_true_eq, List.all_eq_true]
      have e : (V.str (Txt.stripChars x signs36) = V.str "") ↔ Txt.stripChars x signs36 = "" := ⟨fun h => V.str.inj h, fun h => congrArg V.str h⟩
      rw [e, strip_chars]
      exact ⟨fun h c hc => by rw [← sign_has]; exact h c hc, fun h c hc => by rw [sign_has]; exact h c hc⟩
    · rw [decide_eq_false c2]
      walk_at "rd"
      refine fin _ ?_
      unfold fitL
      rw [decide_eq_false (show ¬ (tl x).length ≤ 12 by omega), Bool.and_false, Bool.false_and]
  · rename_i c1
    walk_at "rd"
    refine fin _ ?_
    unfold fitL
    rw [decide_eq_false (show ¬ 1 ≤ (tl x).length by omega), Bool.false_and, Bool.false_and]
end
end Mn

namespace Mn
open PySem L2
section
variable {P : Program} {w : World} {K : PySem.W.Frag} {mg : Str → Option Value} {base : Heap}
/-! ### what shapes bear -/
def shF (n k : Str) : List (Str × V) := [("name", .str n), ("keep", .str k)]
def minF (n k : Str) (m s : Int) : List (Str × V) := [("name", .str n), ("keep", .str k), ("most", .int m), ("span", .int s)]
abbrev minN : List Str := ["name", "keep", "most", "span"]
def spShape : Sp := fun vs H Q _ => ∃ (p C dx : Addr) (n k : Str) (fl : List Str), vs = [.ref p, .str n, .str k] ∧ H p = some (.ins C dx []) ∧ Cls K C ∧ NoAttr K C "name" ∧ NoAttr K C "keep" ∧ Q .non (upd H p (.ins C dx (shF n k)))
theorem ok_Shape_init {f : Addr} {fd : FuncData} (F : Fun K "__init__" "Shape.__init__" s_Shape_init f fd) : FnG P w K mg base 1 f fd ["self", "name", "keep"] (spShape (K := K)) := by
  refine okG F sc_Shape_init (fun vs H Q E h => ?_) (fun cdv A outer s H vs Q E calm_ pn_ hr h => ?_)
  · obtain ⟨p, C, dx, n, k, fl, rfl, _⟩ := h
    rfl
  obtain ⟨p, C, dx, n, k, fl, rfl, hp, c, n1, n2, q⟩ := h
  refine ⟨_, (pss_cons (kSFld (K := K) rfl (pv 0) (pv 1))
    (pss_one (kSFld (K := K) rfl (pv 0) (pv 2)))), ?_⟩
  walk_at "rd"
  refine w_sfld1 hp c n1 (ltb rfl) ?_
  walk_at "rd"
  refine w_sfld1 upd_same c n2 (ltb rfl) ?_
  rw [upd_upd]
  exact q
def spMinder (K : PySem.W.Frag) (C : Addr) : Sp := fun vs H Q _ => ∃ (p dx : Addr) (n k : Str) (m s : Int), vs = [.ref p, .str n, .str k, .int m, .int s] ∧ H p = some (.ins C dx []) ∧ Q .non (upd H p (.ins C dx (minF n k m s)))
theorem ok_Minder_init {C f : Addr} {fd : FuncData} (F : FunS K "__init__" "Minder.__init__" s_Minder_init [.int 1, .int 1] f fd) (cM : ClsF K C minN) (CS : CMtG P w K mg base "Shape" "__init__" 1 ["self", "name", "keep"] [] (spShape (K := K))) :
    FnG P w K mg base 2 f fd ["self", "name", "keep", "most", "span"] (spMinder K C) := by
  refine okD F sc_Minder_init (fun vs H Q E h => ?_) (fun cdv A outer s H vs Q E calm_ pn_ hr h => ?_)
  · obtain ⟨p, dx, n, k, m, s, rfl, _⟩ := h
    rfl
  obtain ⟨p, dx, n, k, m, s, rfl, hp, q⟩ := h
  refine ⟨_, (pss_cons (ps_expr (pe_cmaG (P := P) (w := w) (K := K) (mg := mg) (base := base) ⟨rfl, rfl, rfl, rfl, rfl⟩ hr rfl (pa_cons (pv 0) (pa_cons (pv 1) (pa_cons (pv 2) pa_nil)))))
    (pss_cons (kSFld (K := K) rfl (pv 0) (pv 3))
    (pss_one (kSFld (K := K) rfl (pv 0) (pv 4))))), ?_⟩
  walk_at "rd"
  refine w_cmaG CS (by decide) ?_
  walk_at "rd"
  refine ⟨p, C, dx, n, k, [], rfl, hp, cM.cl, cM.no _ (by decide), cM.no _ (by decide), ?_⟩
  walk_at "rd"
  rw [upd_upd, upd_upd]
  exact q
/-- a method that answers a written text | a truth value -/
def spSay (C : Addr) (wd : Str) : Sp := fun vs H Q _ => ∃ (p dx : Addr) (fs : List (Str × V)), vs = [.ref p] ∧ H p = some (.ins C dx fs) ∧ Q (.str wd) H
def spTruth (C : Addr) (b : Bool) : Sp := fun vs H Q _ => ∃ (p dx : Addr) (fs : List (Str × V)), vs = [.ref p] ∧ H p = some (.ins C dx fs) ∧ Q (.bl b) H
theorem ok_Shape_leaf {C f : Addr} {fd : FuncData} (F : Fun K "leaf" "Shape.leaf" s_Shape_leaf f fd) : FnG P w K mg base 1 f fd ["self"] (spTruth C false) := by
  refine okG F sc_Shape_leaf (fun vs H Q E h => ?_) (fun cdv A outer s H vs Q E calm_ pn_ hr h => ?_)
  · obtain ⟨p, dx, fs, rfl, _⟩ := h
    rfl
  obtain ⟨p, dx, fs, rfl, hp, q⟩ := h
  refine ⟨_, (pss_one (ps_ret pe_bl)), ?_⟩
  walk_at "rd"
  exact q
theorem ok_Minder_way {C f : Addr} {fd : FuncData} (F : Fun K "way" "Minder.way" s_Minder_way f fd) : FnG P w K mg base 1 f fd ["self"] (spSay C "one") := by
  refine okG F sc_Minder_way (fun vs H Q E h => ?_) (fun cdv A outer s H vs Q E calm_ pn_ hr h => ?_)
  · obtain ⟨p, dx, fs, rfl, _⟩ := h
    rfl
  obtain ⟨p, dx, fs, rfl, hp, q⟩ := h
  refine ⟨_, (pss_one (ps_ret pe_str)), ?_⟩
  walk_at "rd"
  exact q
def minWords (k wd : Str) (m s : Int) : List Str := ["minder", k, wd, toString m, toString s]
def spMinWords (C : Addr) (wd : Str) : Sp := fun vs H Q _ => ∃ (p dx : Addr) (n k : Str) (m s : Int), vs = [.ref p] ∧ H p = some (.ins C dx (minF n k m s)) ∧ Smol m ∧ Smol s ∧
  ∀ r, H r = none → Q (.ref r) (upd H r (.lst ((minWords k wd m s).map V.str)))
theorem ok_Minder_words {C f : Addr} {fd : FuncData} {wd : Str} (F : Fun K "words" "Minder.words" s_Minder_words f fd) (T : Bt mg) (cM : ClsF K C minN) (MW : MthG P w K mg base C "way" 1 ["self"] [] (spSay C wd)) :
    FnG P w K mg base 2 f fd ["self"] (spMinWords C wd) := by
  refine okG F sc_Minder_words (fun vs H Q E h => ?_) (fun cdv A outer s H vs Q E calm_ pn_ hr h => ?_)
  · obtain ⟨p, dx, n, k, m, s, rfl, _⟩ := h
    rfl
  obtain ⟨p, dx, n, k, m, s, rfl, hp, hm, hs, q⟩ := h
  refine ⟨_, (pss_one (ps_ret (pe_lst (pa_cons pe_str (pa_cons (kFld (K := K) rfl (pv 0)) (pa_cons (pe_ma0G (P := P) (w := w) (K := K) (mg := mg) (base := base) ⟨rfl, rfl, rfl, rfl, rfl⟩ hr (pv 0)) (pa_cons (pe_callTy call_strI (by rfl) T.str (by decide +kernel) (pa_cons (kFld (K := K) rfl (pv 0)) pa_nil)) (pa_cons (pe_callTy call_strI (by rfl) T.str (by decide +kernel) (pa_cons (kFld (K := K) rfl (pv 0)) pa_nil)) pa_nil)))))))), ?_⟩
  unfold minF at hp
  walk_at "rd"
  refine w_ma1G hp cM.cl (by rfl) MW (by decide) ?_
  walk_at "rd"
  refine ⟨p, dx, _, rfl, hp, ?_⟩
  walk_at "rd"
  refine w_strI hm ?_
  walk_at "rd"
  refine w_strI hs ?_
  walk_at "rd"
  exact ⟨by walk_at "sz", fun r hr => q r hr⟩
end
end Mn

namespace Mn
open PySem L2
section
variable {P : Program} {w : World} {K : PySem.W.Frag} {mg : Str → Option Value} {base : Heap}
theorem ok_AllMinder_way {C f : Addr} {fd : FuncData} (F : Fun K "way" "AllMinder.way" s_AllMinder_way f fd) : FnG P w K mg base 1 f fd ["self"] (spSay C "all") := by
  refine okG F sc_AllMinder_way (fun vs H Q E h => ?_) (fun cdv A outer s H vs Q E calm_ pn_ hr h => ?_)
  · obtain ⟨p, dx, fs, rfl, _⟩ := h
    rfl
  obtain ⟨p, dx, fs, rfl, hp, q⟩ := h
  refine ⟨_, (pss_one (ps_ret pe_str)), ?_⟩
  walk_at "rd"
  exact q
theorem ok_RestMinder_way {C f : Addr} {fd : FuncData} (F : Fun K "way" "RestMinder.way" s_RestMinder_way f fd) : FnG P w K mg base 1 f fd ["self"] (spSay C "rest") := by
  refine okG F sc_RestMinder_way (fun vs H Q E h => ?_) (fun cdv A outer s H vs Q E calm_ pn_ hr h => ?_)
  · obtain ⟨p, dx, fs, rfl, _⟩ := h
    rfl
  obtain ⟨p, dx, fs, rfl, hp, q⟩ := h
  refine ⟨_, (pss_one (ps_ret pe_str)), ?_⟩
  walk_at "rd"
  exact q
end
end Mn

namespace Mn
open PySem L2
section
variable {P : Program} {w : World} {K : PySem.W.Frag} {mg : Str → Option Value} {base : Heap}
theorem ClsF.sub {C : Addr} {fs gs : List Str} (c : ClsF K C fs) (h : ∀ f ∈ gs, f ∈ fs) : ClsF K C gs := ⟨c.cl, fun f hf => c.no f (h f hf)⟩
/-! ### what leaves bear -/
def leafF (n k : Str) (g s : Int) : List (Str × V) := [("name", .str n), ("keep", .str k), ("grace", .int g), ("slow", .int s)]
def manyF (n k : Str) (g s m : Int) : List (Str × V) := [("name", .str n), ("keep", .str k), ("grace", .int g), ("slow", .int s), ("many", .int m)]
abbrev leafN : List Str := ["name", "keep", "grace", "slow"]
abbrev manyN : List Str := ["name", "keep", "grace", "slow", "many"]
/-- the shape of a kind: 0 Leaf, 1 Steady, 2 Faller, 3 Minder -/
def fieldsOf (kind : Int) (n k : Str) (g s m : Int) : List (Str × V) := if kind = 0 then leafF n k g s else if kind = 3 then minF n k g s else manyF n k g s m
def workOf (kind m : Int) : List Str := if kind = 0 then ["idle"] else [if kind = 1 then "steady" else "falls", toString m]
def wordsOf (kind : Int) (k : Str) (g s m : Int) : List Str := if kind = 3 then ["minder", k, "one", toString g, toString s] else (["leaf", k, toString g, toString s] : List Str) ++ workOf kind m
def again (k x : Str) : Bool := decide (k = "always") || (decide (k = "fallen") && (decide (x = "fallen") || decide (x = "gave up")))
def endOf (kind m st : Int) : Str := if kind = 0 then "" else if st = m then (if kind = 1 then "done" else "fallen") else ""
def spLeaf (K : PySem.W.Frag) : Sp := fun vs H Q _ => ∃ (p C dx : Addr) (n k : Str) (g s : Int), vs = [.ref p, .str n, .str k, .int g, .int s] ∧ H p = some (.ins C dx []) ∧ ClsF K C leafN ∧ Q .non (upd H p (.ins C dx (leafF n k g s)))
theorem ok_Leaf_init {f : Addr} {fd : FuncData} (F : FunS K "__init__" "Leaf.__init__" s_Leaf_init [.int 0, .int 0] f fd) (CS : CMtG P w K mg base "Shape" "__init__" 1 ["self", "name", "keep"] [] (spShape (K := K))) :
    FnG P w K mg base 2 f fd ["self", "name", "keep", "grace", "slow"] (spLeaf K) := by
  refine okD F sc_Leaf_init (fun vs H Q E h => ?_) (fun cdv A outer s H vs Q E calm_ pn_ hr h => ?_)
  · obtain ⟨p, C, dx, n, k, g, sl, rfl, _⟩ := h
    rfl
  obtain ⟨p, C, dx, n, k, g, sl, rfl, hp, cL, q⟩ := h
  refine ⟨_, (pss_cons (ps_expr (pe_cmaG (P := P) (w := w) (K := K) (mg := mg) (base := base) ⟨rfl, rfl, rfl, rfl, rfl⟩ hr rfl (pa_cons (pv 0) (pa_cons (pv 1) (pa_cons (pv 2) pa_nil)))))
    (pss_cons (kSFld (K := K) rfl (pv 0) (pv 3))
    (pss_one (kSFld (K := K) rfl (pv 0) (pv 4))))), ?_⟩
  walk_at "rd"
  refine w_cmaG CS (by decide) ?_
  walk_at "rd"
  refine ⟨p, C, dx, n, k, [], rfl, hp, cL.cl, cL.no _ (by decide), cL.no _ (by decide), ?_⟩
  walk_at "rd"
  rw [upd_upd, upd_upd]
  exact q
def spMany (K : PySem.W.Frag) (C : Addr) : Sp := fun vs H Q _ => ∃ (p dx : Addr) (n k : Str) (m g s : Int), vs = [.ref p, .str n, .str k, .int m, .int g, .int s] ∧ H p = some (.ins C dx []) ∧ Q .non (upd H p (.ins C dx (manyF n k g s m)))
theorem ok_Steady_init {C f : Addr} {fd : FuncData} (F : FunS K "__init__" "Steady.__init__" s_Steady_init [.int 0, .int 0] f fd) (cM : ClsF K C manyN) (CS : CMtG P w K mg base "Leaf" "__init__" 2 ["self", "name", "keep", "grace", "slow"] [] (spLeaf K)) :
    FnG P w K mg base 3 f fd ["self", "name", "keep", "many", "grace", "slow"] (spMany K C) := by
  refine okD F sc_Steady_init (fun vs H Q E h => ?_) (fun cdv A outer s H vs Q E calm_ pn_ hr h => ?_)
  · obtain ⟨p, dx, n, k, m, g, sl, rfl, _⟩ := h
    rfl
  obtain ⟨p, dx, n, k, m, g, sl, rfl, hp, q⟩ := h
  refine ⟨_, (pss_cons (ps_expr (pe_cmaG (P := P) (w := w) (K := K) (mg := mg) (base := base) ⟨rfl, rfl, rfl, rfl, rfl⟩ hr rfl (pa_cons (pv 0) (pa_cons (pv 1) (pa_cons (pv 2) (pa_cons (pv 4) (pa_cons (pv 5) pa_nil)))))))
    (pss_one (kSFld (K := K) rfl (pv 0) (pv 3)))), ?_⟩
  walk_at "rd"
  refine w_cmaG CS (by decide) ?_
  walk_at "rd"
  refine ⟨p, C, dx, n, k, g, sl, rfl, hp, cM.sub (by decide), ?_⟩
  walk_at "rd"
  rw [upd_upd]
  exact q
theorem ok_Faller_init {C f : Addr} {fd : FuncData} (F : FunS K "__init__" "Faller.__init__" s_Faller_init [.int 0, .int 0] f fd) (cM : ClsF K C manyN) (CS : CMtG P w K mg base "Leaf" "__init__" 2 ["self", "name", "keep", "grace", "slow"] [] (spLeaf K)) :
    FnG P w K mg base 3 f fd ["self", "name", "keep", "many", "grace", "slow"] (spMany K C) := by
  refine okD F sc_Faller_init (fun vs H Q E h => ?_) (fun cdv A outer s H vs Q E calm_ pn_ hr h => ?_)
  · obtain ⟨p, dx, n, k, m, g, sl, rfl, _⟩ := h
    rfl
  obtain ⟨p, dx, n, k, m, g, sl, rfl, hp, q⟩ := h
  refine ⟨_, (pss_cons (ps_expr (pe_cmaG (P := P) (w := w) (K := K) (mg := mg) (base := base) ⟨rfl, rfl, rfl, rfl, rfl⟩ hr rfl (pa_cons (pv 0) (pa_cons (pv 1) (pa_cons (pv 2) (pa_cons (pv 4) (pa_cons (pv 5) pa_nil)))))))
    (pss_one (kSFld (K := K) rfl (pv 0) (pv 3)))), ?_⟩
  walk_at "rd"
  refine w_cmaG CS (by decide) ?_
  walk_at "rd"
  refine ⟨p, C, dx, n, k, g, sl, rfl, hp, cM.sub (by decide), ?_⟩
  walk_at "rd"
  rw [upd_upd]
  exact q
theorem ok_Leaf_leaf {C f : Addr} {fd : FuncData} (F : Fun K "leaf" "Leaf.leaf" s_Leaf_leaf f fd) : FnG P w K mg base 1 f fd ["self"] (spTruth C true) := by
  refine okG F sc_Leaf_leaf (fun vs H Q E h => ?_) (fun cdv A outer s H vs Q E calm_ pn_ hr h => ?_)
  · obtain ⟨p, dx, fs, rfl, _⟩ := h
    rfl
  obtain ⟨p, dx, fs, rfl, hp, q⟩ := h
  refine ⟨_, (pss_one (ps_ret pe_bl)), ?_⟩
  walk_at "rd"
  exact q
end
end Mn

namespace Mn
open PySem L2
section
variable {P : Program} {w : World} {K : PySem.W.Frag} {mg : Str → Option Value} {base : Heap}
/-! ### their words -/
def spWork (C : Addr) (kind : Int) : Sp := fun vs H Q _ => ∃ (p dx : Addr) (n k : Str) (g s m : Int), vs = [.ref p] ∧ H p = some (.ins C dx (fieldsOf kind n k g s m)) ∧ Smol m ∧ ∀ r, H r = none → Q (.ref r) (upd H r (.lst ((workOf kind m).map V.str)))
theorem ok_Leaf_work {C f : Addr} {fd : FuncData} (F : Fun K "work" "Leaf.work" s_Leaf_work f fd) : FnG P w K mg base 1 f fd ["self"] (spWork C 0) := by
  refine okG F sc_Leaf_work (fun vs H Q E h => ?_) (fun cdv A outer s H vs Q E calm_ pn_ hr h => ?_)
  · obtain ⟨p, dx, n, k, g, sl, m, rfl, _⟩ := h
    rfl
  obtain ⟨p, dx, n, k, g, sl, m, rfl, hp, hm, q⟩ := h
  refine ⟨_, (pss_one (ps_ret (pe_lst (pa_cons pe_str pa_nil)))), ?_⟩
  walk_at "rd"
  exact ⟨by walk_at "sz", fun r hr => q r hr⟩
theorem ok_Steady_work {C f : Addr} {fd : FuncData} (F : Fun K "work" "Steady.work" s_Steady_work f fd) (T : Bt mg) (cM : ClsF K C manyN) : FnG P w K mg base 1 f fd ["self"] (spWork C 1) := by
  refine okG F sc_Steady_work (fun vs H Q E h => ?_) (fun cdv A outer s H vs Q E calm_ pn_ hr h => ?_)
  · obtain ⟨p, dx, n, k, g, sl, m, rfl, _⟩ := h
    rfl
  obtain ⟨p, dx, n, k, g, sl, m, rfl, hp, hm, q⟩ := h
  refine ⟨_, (pss_one (ps_ret (pe_lst (pa_cons pe_str (pa_cons (pe_callTy call_strI (by rfl) T.str (by decide +kernel) (pa_cons (kFld (K := K) rfl (pv 0)) pa_nil)) pa_nil))))), ?_⟩
  walk_at "rd"
  refine w_strI hm ?_
  walk_at "rd"
  exact ⟨by walk_at "sz", fun r hr => q r hr⟩
theorem ok_Faller_work {C f : Addr} {fd : FuncData} (F : Fun K "work" "Faller.work" s_Faller_work f fd) (T : Bt mg) (cM : ClsF K C manyN) : FnG P w K mg base 1 f fd ["self"] (spWork C 2) := by
  refine okG F sc_Faller_work (fun vs H Q E h => ?_) (fun cdv A outer s H vs Q E calm_ pn_ hr h => ?_)
  · obtain ⟨p, dx, n, k, g, sl, m, rfl, _⟩ := h
    rfl
  obtain ⟨p, dx, n, k, g, sl, m, rfl, hp, hm, q⟩ := h
  refine ⟨_, (pss_one (ps_ret (pe_lst (pa_cons pe_str (pa_cons (pe_callTy call_strI (by rfl) T.str (by decide +kernel) (pa_cons (kFld (K := K) rfl (pv 0)) pa_nil)) pa_nil))))), ?_⟩
  walk_at "rd"
  refine w_strI hm ?_
  walk_at "rd"
  exact ⟨by walk_at "sz", fun r hr => q r hr⟩
def spWords (C : Addr) (kind : Int) : Sp := fun vs H Q _ => ∃ (p dx : Addr) (n k : Str) (g s m : Int), vs = [.ref p] ∧ H p = some (.ins C dx (fieldsOf kind n k g s m)) ∧ Smol g ∧ Smol s ∧ Smol m ∧
  ∀ r H', H r = none → Same H H' → H' r = some (.lst ((wordsOf kind k g s m).map V.str)) → Q (.ref r) H'
theorem leafLook {kind : Int} (h : ¬ kind = 3) (n k : Str) (g s m : Int) : (fieldsOf kind n k g s m).lookup ("keep" : Str) = some (.str k) ∧ (fieldsOf kind n k g s m).lookup ("grace" : Str) = some (.int g) ∧ (fieldsOf kind n k g s m).lookup ("slow" : Str) = some (.int s) ∧ (fieldsOf kind n k g s m).lookup ("work" : Str) = none := by
  unfold fieldsOf
  rw [if_neg h]
  split
  · exact ⟨rfl, rfl, rfl, rfl⟩
  · exact ⟨rfl, rfl, rfl, rfl⟩
theorem ok_Leaf_words {C f : Addr} {fd : FuncData} {kind : Int} (F : Fun K "words" "Leaf.words" s_Leaf_words f fd) (T : Bt mg) (cM : ClsF K C leafN) (hk : ¬ kind = 3) (MW : MthG P w K mg base C "work" 1 ["self"] [] (spWork C kind)) : FnG P w K mg base 2 f fd ["self"] (spWords C kind) := by
  refine okG F sc_Leaf_words (fun vs H Q E h => ?_) (fun cdv A outer s H vs Q E calm_ pn_ hr h => ?_)
  · obtain ⟨p, dx, n, k, g, sl, m, rfl, _⟩ := h
    rfl
  obtain ⟨p, dx, n, k, g, sl, m, rfl, hp, hg, hs, hm, q⟩ := h
  obtain ⟨l1, l2, l3, l4⟩ := leafLook hk n k g sl m
  refine ⟨_, (pss_one (ps_ret (pe_op op_cat (pe_lst (pa_cons pe_str (pa_cons (kFld (K := K) rfl (pv 0)) (pa_cons (pe_callTy call_strI (by rfl) T.str (by decide +kernel) (pa_cons (kFld (K := K) rfl (pv 0)) pa_nil)) (pa_cons (pe_callTy call_strI (by rfl) T.str (by decide +kernel) (pa_cons (kFld (K := K) rfl (pv 0)) pa_nil)) pa_nil))))) (pe_ma0G (P := P) (w := w) (K := K) (mg := mg) (base := base) ⟨rfl, rfl, rfl, rfl, rfl⟩ hr (pv 0))))), ?_⟩
  walk_at "rd"
  refine w_fld1 hp cM.cl (cM.no _ (by decide)) l1 ?_
  walk_at "rd"
  refine w_fld1 hp cM.cl (cM.no _ (by decide)) l2 ?_
  walk_at "rd"
  refine w_strI hg ?_
  walk_at "rd"
  refine w_fld1 hp cM.cl (cM.no _ (by decide)) l3 ?_
  walk_at "rd"
  refine w_strI hs ?_
  walk_at "rd"
  refine ⟨by walk_at "sz", fun a ha => ?_⟩
  walk_at "rd"
  have s1 : Same H (upd H a (.lst [V.str "leaf", .str k, .str (Str.ofString (toString g)), .str (Str.ofString (toString sl))])) := same_upd (Same.refl _) ha
  have e1 : upd H a (.lst [V.str "leaf", .str k, .str (Str.ofString (toString g)), .str (Str.ofString (toString sl))]) a = _ := upd_same
  generalize upd H a (.lst [V.str "leaf", .str k, .str (Str.ofString (toString g)), .str (Str.ofString (toString sl))]) = H1 at s1 e1
  refine w_ma1G (s1 _ _ hp) cM.cl l4 MW (by decide) ?_
  walk_at "rd"
  refine ⟨p, dx, n, k, g, sl, m, rfl, s1 _ _ hp, hm, fun b hb => ?_⟩
  walk_at "rd"
  have e2 : upd H1 b (.lst ((workOf kind m).map V.str)) a = _ := (upd_ne (ne_of_none e1 hb)).trans e1
  have s2 := same_upd (o := .lst ((workOf kind m).map V.str)) s1 hb
  have lw : (workOf kind m).length ≤ 2 := by
    unfold workOf
    split
    · exact Nat.le_succ 1
    · exact Nat.le_refl 2
  refine w_cat e2 upd_same (by have := sizeLine_eq; rw [List.length_map]; simp only [List.length_cons, List.length_nil]; omega) fun r hr' => ?_
  walk_at "rd"
  refine q r _ (s2.free hr') (same_upd s2 hr') ?_
  rw [upd_same, wordsOf, if_neg hk, List.map_append]
  rfl
theorem ok_Minder_words4 {C f : Addr} {fd : FuncData} (F : Fun K "words" "Minder.words" s_Minder_words f fd) (T : Bt mg) (cM : ClsF K C minN) (MW : MthG P w K mg base C "way" 1 ["self"] [] (spSay C "one")) :
    FnG P w K mg base 2 f fd ["self"] (spWords C 3) := by
  refine okG F sc_Minder_words (fun vs H Q E h => ?_) (fun cdv A outer s H vs Q E calm_ pn_ hr h => ?_)
  · obtain ⟨p, dx, n, k, g, sl, m, rfl, _⟩ := h
    rfl
  obtain ⟨p, dx, n, k, g, sl, m, rfl, hp, hg, hs, hm, q⟩ := h
  refine ⟨_, (pss_one (ps_ret (pe_lst (pa_cons pe_str (pa_cons (kFld (K := K) rfl (pv 0)) (pa_cons (pe_ma0G (P := P) (w := w) (K := K) (mg := mg) (base := base) ⟨rfl, rfl, rfl, rfl, rfl⟩ hr (pv 0)) (pa_cons (pe_callTy call_strI (by rfl) T.str (by decide +kernel) (pa_cons (kFld (K := K) rfl (pv 0)) pa_nil)) (pa_cons (pe_callTy call_strI (by rfl) T.str (by decide +kernel) (pa_cons (kFld (K := K) rfl (pv 0)) pa_nil)) pa_nil)))))))), ?_⟩
  walk_at "rd"
  refine w_ma1G hp cM.cl (by rfl) MW (by decide) ?_
  walk_at "rd"
  refine ⟨p, dx, _, rfl, hp, ?_⟩
  walk_at "rd"
  refine w_strI hg ?_
  walk_at "rd"
  refine w_strI hs ?_
  walk_at "rd"
  refine ⟨by walk_at "sz", fun r hr => q r _ hr (same_upd (Same.refl _) hr) ?_⟩
  rw [upd_same]
  rfl
end
end Mn

namespace Mn
open PySem PySem.Spec PyProof.Rows L2 TL
/-! ### shapes of all kinds: 0 Leaf, 1 Steady, 2 Faller, 3 Minder, 4 AllMinder, 5 RestMinder -/
structure Shp where
  kind : Nat
  name : Str
  keep : Str
  a : Int
  b : Int
  m : Int
deriving Inhabited
def fldS (s : Shp) : List (Str × V) := if s.kind < 3 then fieldsOf s.kind s.name s.keep s.a s.b s.m else minF s.name s.keep s.a s.b
def attrS (k : Nat) : List Str := if k = 0 then leafN else if k < 3 then manyN else minN
def wayS (k : Nat) : Str := if k = 3 then "one" else if k = 4 then "all" else "rest"
def shW (s : Shp) : List Str := if s.kind < 3 then wordsOf s.kind s.keep s.a s.b s.m else minWords s.keep (wayS s.kind) s.a s.b
abbrev keeps3 : List Str := ["always", "fallen", "never"]
structure OkS (s : Shp) : Prop where
  kd : s.kind < 6
  kp : s.keep ∈ keeps3
  nm : fitL (tl s.name) = true
  a0 : 0 ≤ s.a ∧ s.a ≤ 1000000
  b0 : 0 ≤ s.b ∧ s.b ≤ 1000000
  m0 : 0 ≤ s.m ∧ s.m ≤ 1000000
  mz : s.kind ≠ 1 → s.kind ≠ 2 → s.m = 0
  b1 : 3 ≤ s.kind → 1 ≤ s.b
theorem attr_name (k : Nat) : ("name" : Str) ∈ attrS k := by
  unfold attrS
  split
  · decide
  · split <;> decide
theorem fld_name (s : Shp) : (fldS s).lookup ("name" : Str) = some (.str s.name) := by
  unfold fldS fieldsOf
  split
  · split
    · rfl
    · split <;> rfl
  · rfl
theorem fld_leaf (s : Shp) : (fldS s).lookup ("leaf" : Str) = none := by
  unfold fldS fieldsOf
  split
  · split
    · rfl
    · split <;> rfl
  · rfl
theorem fld_words (s : Shp) : (fldS s).lookup ("words" : Str) = none := by
  unfold fldS fieldsOf
  split
  · split
    · rfl
    · split <;> rfl
  · rfl
section
variable {P : Program} {w : World} {K : PySem.W.Frag} {mg : Str → Option Value} {base : Heap}
/-- the six classes, by kind -/
structure KdC (K : PySem.W.Frag) (cls : Nat → Addr) : Prop where
  cf : ∀ k, k < 6 → ClsF K (cls k) (attrS k)
structure KdL (P : Program) (w : World) (K : PySem.W.Frag) (mg : Str → Option Value) (base : Heap) (cls : Nat → Addr) : Prop where
  leaf : ∀ k, k < 6 → MthG P w K mg base (cls k) "leaf" 1 ["self"] [] (spTruth (cls k) (decide (k < 3)))
theorem smol_mil {i : Int} (h : 0 ≤ i ∧ i ≤ 1000000) : Smol i := smol_of (by omega)
theorem MthG.imp {C : Addr} {m : Str} {k : Nat} {ps : List Str} {dvs : List V} {sp sp' : Sp} (M : MthG P w K mg base C m k ps dvs sp) (h : ∀ vs H Q E, sp' vs H Q E → sp vs H Q E) : MthG P w K mg base C m k ps dvs sp' := by
  obtain ⟨f, fd, ds, F, r⟩ := M.ex
  exact ⟨f, fd, ds, F.imp h, r⟩
end
end Mn

namespace Mn
open PySem PySem.Spec PyProof.Rows L2 TL
section
variable {P : Program} {w : World} {K : PySem.W.Frag} {mg : Str → Option Value} {base : Heap}
def spWd (C : Addr) (k : Nat) : Sp := fun vs H Q _ => ∃ (p dx : Addr) (s : Shp), vs = [.ref p] ∧ H p = some (.ins C dx (fldS s)) ∧ s.kind = k ∧ OkS s ∧ ∀ r H', H r = none → Same H H' → H' r = some (.lst ((shW s).map V.str)) → Q (.ref r) H'
structure KdW (P : Program) (w : World) (K : PySem.W.Frag) (mg : Str → Option Value) (base : Heap) (cls : Nat → Addr) : Prop where
  words : ∀ k, k < 6 → MthG P w K mg base (cls k) "words" 2 ["self"] [] (spWd (cls k) k)
theorem wd_leaf {C : Addr} {k : Nat} (hk : k < 3) {vs : List V} {H : Hp} {Q : VK} {E : XK} (h : spWd C k vs H Q E) : spWords C (k : Int) vs H Q E := by
  obtain ⟨p, dx, s, rfl, hp, rfl, ok, q⟩ := h
  unfold fldS at hp
  rw [if_pos hk] at hp
  refine ⟨p, dx, _, _, _, _, _, rfl, hp, smol_mil ok.a0, smol_mil ok.b0, smol_mil ok.m0, fun r H' h1 h2 h3 => q r H' h1 h2 ?_⟩
  unfold shW
  rw [if_pos hk]
  exact h3
theorem wd_min {C : Addr} {k : Nat} (hk : ¬ k < 3) {vs : List V} {H : Hp} {Q : VK} {E : XK} (h : spWd C k vs H Q E) : spMinWords C (wayS k) vs H Q E := by
  obtain ⟨p, dx, s, rfl, hp, rfl, ok, q⟩ := h
  unfold fldS at hp
  rw [if_neg hk] at hp
  refine ⟨p, dx, _, _, _, _, rfl, hp, smol_mil ok.a0, smol_mil ok.b0, fun r h1 => q r _ h1 (same_new h1 _) ?_⟩
  unfold shW
  rw [if_neg hk, upd_same]
end
end Mn

namespace Mn
open PySem PySem.Spec PyProof.Rows L2 TL
/-! ### trees -/
structure TreeD where
  shs : List Shp
  eld : List Int
  dps : List Nat
def TreeD.n (D : TreeD) : Nat := D.shs.length
def TreeD.e (D : TreeD) (i : Nat) : Int := D.eld.getD i (-1)
def TreeD.sh (D : TreeD) (i : Nat) : Shp := D.shs.getD i default
def TreeD.dp (D : TreeD) (i : Nat) : Nat := D.dps.getD i 0
def yngOf (eld : List Int) (i : Nat) : List Nat := (List.range eld.length).filter fun j => decide (eld.getD j (-1) = (i : Int))
def kvsOf (shs : List Shp) : List (Key × V) := shs.zipIdx.map fun p => (Sum.inr p.1.name, V.int (p.2 : Nat))
def TreeD.add (D : TreeD) (s : Shp) (e : Int) : TreeD := ⟨D.shs ++ [s], D.eld ++ [e], D.dps ++ [if e < 0 then 0 else D.dp e.toNat + 1]⟩
def TreeD.nil : TreeD := ⟨[], [], []⟩
structure TreeD.WF (D : TreeD) : Prop where
  le : D.eld.length = D.n
  ld : D.dps.length = D.n
  el : ∀ i, i < D.n → (D.e i = -1 ∧ i = 0) ∨ (0 ≤ D.e i ∧ D.e i < i)
  dp : ∀ i, i < D.n → D.dp i = if D.e i < 0 then 0 else D.dp (D.e i).toNat + 1
  nm : (D.shs.map Shp.name).Nodup
  sz : D.n ≤ 64
  ok : ∀ s ∈ D.shs, OkS s
  mi : ∀ i, i < D.n → 0 ≤ D.e i → 3 ≤ (D.sh (D.e i).toNat).kind
  d8 : ∀ i, i < D.n → D.dp i ≤ 8
  top : 0 < D.n → 3 ≤ (D.sh 0).kind
theorem yng_lt {eld : List Int} {i j : Nat} (h : j ∈ yngOf eld i) : j < eld.length ∧ eld.getD j (-1) = (i : Int) := by
  unfold yngOf at h
  rw [List.mem_filter, List.mem_range, decide_eq_true_eq] at h
  exact h
theorem yng_add (eld : List Int) (e : Int) (i : Nat) : yngOf (eld ++ [e]) i = yngOf eld i ++ (if e = (i : Int) then [eld.length] else []) := by
  unfold yngOf
  rw [List.length_append, List.length_singleton, List.range_succ, List.filter_append]
  congr 1
  · refine List.filter_congr fun j hj => ?_
    rw [List.mem_range] at hj
    refine decide_eq_decide.mpr ?_
    rw [List.getD_eq_getElem?_getD, List.getD_eq_getElem?_getD, List.getElem?_append_left hj]
  · simp [List.getD, List.filter_cons]
theorem kvs_add (shs : List Shp) (s : Shp) : kvsOf (shs ++ [s]) = kvsOf shs ++ [(Sum.inr s.name, V.int (shs.length : Nat))] := by
  unfold kvsOf
  rw [List.zipIdx_append, List.map_append]
  simp
theorem kvs_len (shs : List Shp) : (kvsOf shs).length = shs.length := by
  unfold kvsOf
  rw [List.length_map, List.length_zipIdx]
theorem kvs_none {shs : List Shp} {x : Str} (h : x ∉ shs.map Shp.name) : valV (kvsOf shs) (Sum.inr x) = none := by
  unfold valV kvsOf
  rw [Option.map_eq_none_iff, List.find?_eq_none]
  intro p hp
  obtain ⟨q, hq, rfl⟩ := List.mem_map.mp hp
  rw [decide_eq_true_eq]
  intro e
  have e := Sum.inr.inj e
  refine h ?_
  rw [← e]
  exact List.mem_map_of_mem (List.mem_zipIdx hq |>.2.2 ▸ List.getElem_mem _)
theorem kvs_at_aux : ∀ (shs : List Shp) (n i : Nat) (s : Shp), (shs.map Shp.name).Nodup → shs[i]? = some s → valV ((shs.zipIdx n).map fun p => ((Sum.inr p.1.name, V.int (p.2 : Nat)) : Key × V)) (Sum.inr s.name) = some (.int ((n + i : Nat) : Int))
  | [], _, _, _, _, h => by cases h
  | a :: r, n, 0, s, _, h => by
    obtain rfl := Option.some.inj h
    unfold valV
    rw [List.zipIdx_cons, List.map_cons, List.find?_cons_of_pos (by simp)]
    rfl
  | a :: r, n, i + 1, s, nd, h => by
    have h : r[i]? = some s := h
    rw [List.map_cons, List.nodup_cons] at nd
    have ne : a.name ≠ s.name := fun e => nd.1 (by rw [e]; exact List.mem_map_of_mem (List.mem_of_getElem? h))
    have := kvs_at_aux r (n + 1) i s nd.2 h
    unfold valV at this ⊢
    rw [List.zipIdx_cons, List.map_cons, List.find?_cons_of_neg (by simpa using ne)]
    rw [this, show n + 1 + i = n + (i + 1) by omega]
theorem kvs_at {shs : List Shp} (nd : (shs.map Shp.name).Nodup) {i : Nat} {s : Shp} (h : shs[i]? = some s) : valV (kvsOf shs) (Sum.inr s.name) = some (.int (i : Nat)) := by
  have := kvs_at_aux shs 0 i s nd h
  rw [Nat.zero_add] at this
  exact this
theorem kvs_put {shs : List Shp} {s : Shp} (h : s.name ∉ shs.map Shp.name) : putK (kvsOf shs) (Sum.inr s.name) (V.int (shs.length : Nat)) = kvsOf (shs ++ [s]) := by
  rw [kvs_add]
  unfold putK
  rw [if_neg ?_]
  intro z
  rw [List.any_eq_true] at z
  obtain ⟨p, hp, e⟩ := z
  have := kvs_none h
  unfold valV at this
  rw [Option.map_eq_none_iff, List.find?_eq_none] at this
  exact this p hp e
/-- a tree's addresses -/
structure TA where
  t : Addr
  dx : Addr
  sh : Addr
  el : Addr
  yg : Addr
  kn : Addr
  ys : List Addr
  ps : List Addr
def TA.foot (A : TA) : List Addr := A.t :: A.sh :: A.el :: A.yg :: A.kn :: A.ys
abbrev treeN : List Str := ["shapes", "elders", "young", "known"]
def treeF (A : TA) : List (Str × V) := [("shapes", .ref A.sh), ("elders", .ref A.el), ("young", .ref A.yg), ("known", .ref A.kn)]
def ShAt (cls : Nat → Addr) (H : Hp) (p : Addr) (s : Shp) : Prop := ∃ dx, H p = some (.ins (cls s.kind) dx (fldS s))
structure TR (CT : Addr) (cls : Nat → Addr) (A : TA) (D : TreeD) (H : Hp) : Prop where
  ht : H A.t = some (.ins CT A.dx (treeF A))
  hsh : H A.sh = some (.lst (A.ps.map V.ref))
  lps : A.ps.length = D.n
  hps : ∀ i p, A.ps[i]? = some p → ShAt cls H p (D.sh i)
  hel : H A.el = some (.lst (D.eld.map V.int))
  hyg : H A.yg = some (.lst (A.ys.map V.ref))
  lys : A.ys.length = D.n
  hys : ∀ i y, A.ys[i]? = some y → H y = some (.lst ((yngOf D.eld i).map fun j : Nat => V.int j))
  hkn : H A.kn = some (.dK (kvsOf D.shs))
structure TRm (CT : Addr) (cls : Nat → Addr) (A : TA) (D : TreeD) (H : Hp) : Prop extends TR CT cls A D H where
  nd : (A.sh :: A.el :: A.yg :: A.ys).Nodup
/-- what is outside keeps -/
def Out (F : List Addr) (H H' : Hp) : Prop := ∀ b u, b ∉ F → H b = some u → H' b = some u
def New (F F' : List Addr) (H : Hp) : Prop := ∀ b, b ∈ F' → b ∈ F ∨ H b = none
theorem updN {H : Hp} {p a : Addr} {o : HO} (h : upd H p o a = none) : H a = none := by
  by_cases e : a = p
  · subst e
    rw [upd_same] at h
    cases h
  · rw [upd_ne e] at h
    exact h
section
variable {P : Program} {w : World} {K : PySem.W.Frag} {mg : Str → Option Value} {base : Heap}
def spTInit (CT : Addr) (cls : Nat → Addr) : Sp := fun vs H Q _ => ∃ (p dx : Addr), vs = [.ref p] ∧ H p = some (.ins CT dx []) ∧ ∀ A H', A.t = p → TRm CT cls A .nil H' → Out [p] H H' → New [p] A.foot H → Q .non H'
theorem ok_Tree_init {CT : Addr} {cls : Nat → Addr} {f : Addr} {fd : FuncData} (F : Fun K "__init__" "Tree.__init__" s_Tree_init f fd) (cT : ClsF K CT treeN) : FnG P w K mg base 1 f fd ["self"] (spTInit CT cls) := by
  refine okG F sc_Tree_init (fun vs H Q E h => ?_) (fun cdv A outer s H vs Q E calm_ pn_ hr h => ?_)
  · obtain ⟨p, dx, rfl, _⟩ := h
    rfl
  obtain ⟨p, dx, rfl, hp, q⟩ := h
  refine ⟨_, (pss_cons (kSFld (K := K) rfl (pv 0) (pe_lst pa_nil))
    (pss_cons (kSFld (K := K) rfl (pv 0) (pe_lst pa_nil))
    (pss_cons (kSFld (K := K) rfl (pv 0) (pe_lst pa_nil))
    (pss_one (kSFld (K := K) rfl (pv 0) pe_dnewK))))), ?_⟩
  walk_at "rd"
  refine ⟨Nat.zero_le _, fun sh hsh => ?_⟩
  walk_at "rd"
  refine ⟨Nat.zero_le _, fun el hel => ?_⟩
  walk_at "rd"
  refine ⟨Nat.zero_le _, fun yg hyg => ?_⟩
  walk_at "rd"
  refine w_dnew fun kn hkn => ?_
  walk_at "rd"
  have q1 : sh ≠ p := (neN hsh hp).symm
  have q2 : el ≠ p := (neN (updN (updN hel)) hp).symm
  have q3 : yg ≠ p := (neN (updN (updN (updN (updN hyg)))) hp).symm
  have n1 : sh ≠ el := by walk_at "ne"
  have n2 : sh ≠ yg := by walk_at "ne"
  have n3 : el ≠ yg := by walk_at "ne"
  have n4 : sh ≠ kn := by walk_at "ne"
  have n5 : el ≠ kn := by walk_at "ne"
  have n6 : yg ≠ kn := by walk_at "ne"
  have f1 : H el = none := updN (updN hel)
  have f2 : H yg = none := updN (updN (updN (updN hyg)))
  have f3 : H kn = none := updN (updN (updN (updN (updN (updN hkn)))))
  refine q ⟨p, dx, sh, el, yg, kn, [], []⟩ _ rfl ⟨⟨?_, ?_, rfl, (fun i y h => by cases h), ?_, ?_, rfl, (fun i y h => by cases h), ?_⟩, ?_⟩ (fun b u hb hu => ?_) (fun b hb => ?_)
  · walk_at "hp"
  · dsimp only [TreeD.nil, List.map]
    walk_at "hp"
  · dsimp only [TreeD.nil, List.map]
    walk_at "hp"
  · dsimp only [TreeD.nil, List.map]
    walk_at "hp"
  · walk_at "hp"
  · simp [n1, n2, n3]
  · have hb : b ≠ p := fun e => hb (by rw [e]; exact List.mem_cons_self)
    walk_at "hp"
  · simp only [TA.foot, List.mem_cons, List.not_mem_nil, or_false] at hb
    rcases hb with rfl | rfl | rfl | rfl | rfl
    · exact .inl List.mem_cons_self
    · exact .inr hsh
    · exact .inr f1
    · exact .inr f2
    · exact .inr f3
def spAdd (CT : Addr) (cls : Nat → Addr) : Sp := fun vs H Q _ => ∃ (A : TA) (D : TreeD) (p : Addr) (s : Shp) (e : Int), vs = [.ref A.t, .ref p, .int e] ∧ TRm CT cls A D H ∧ D.WF ∧ ShAt cls H p s ∧ s.kind < 6 ∧ s.name ∉ D.shs.map Shp.name ∧ (e = -1 ∨ (0 ≤ e ∧ e < D.n)) ∧
  ∀ A' H', A'.t = A.t → TRm CT cls A' (D.add s e) H' → Out A.foot H H' → New A.foot A'.foot H → Q (.int (D.n : Int)) H'
theorem ok_add {CT : Addr} {cls : Nat → Addr} {f : Addr} {fd : FuncData} (F : Fun K "add" "Tree.add" s_Tree_add f fd) (T : Bt mg) (cT : ClsF K CT treeN) (kc : KdC K cls) : FnG P w K mg base 1 f fd ["self", "shape", "elder"] (spAdd CT cls) := by
  refine okG F sc_Tree_add (fun vs H Q E h => ?_) (fun cdv A outer s H vs Q E calm_ pn_ hr h => ?_)
  · obtain ⟨A, D, p, s, e, rfl, _⟩ := h
    rfl
  obtain ⟨A, D, p, s, e, rfl, R, W, ⟨dxp, hp⟩, hk, hn, he, q⟩ := h
  have hu := hu_ofG hr
  have ht := R.ht
  have hsh := R.hsh
  have hel := R.hel
  have hyg := R.hyg
  have hkn := R.hkn
  have nd := R.nd
  have cp := kc.cf s.kind hk
  unfold treeF at ht
  have hsz := W.sz
  have lps := R.lps
  have lys := R.lys
  have le := W.le
  have n_t_sh : A.t ≠ A.sh := ne_of ht hsh (by intro z; cases z)
  have n_t_el : A.t ≠ A.el := ne_of ht hel (by intro z; cases z)
  have n_t_yg : A.t ≠ A.yg := ne_of ht hyg (by intro z; cases z)
  have n_t_kn : A.t ≠ A.kn := ne_of ht hkn (by intro z; cases z)
  have n_p_sh : p ≠ A.sh := ne_of hp hsh (by intro z; cases z)
  have n_p_el : p ≠ A.el := ne_of hp hel (by intro z; cases z)
  have n_p_yg : p ≠ A.yg := ne_of hp hyg (by intro z; cases z)
  have n_p_kn : p ≠ A.kn := ne_of hp hkn (by intro z; cases z)
  have n_sh_kn : A.sh ≠ A.kn := ne_of hsh hkn (by intro z; cases z)
  have n_el_kn : A.el ≠ A.kn := ne_of hel hkn (by intro z; cases z)
  have n_yg_kn : A.yg ≠ A.kn := ne_of hyg hkn (by intro z; cases z)
  simp only [List.nodup_cons, List.mem_cons, not_or] at nd
  obtain ⟨⟨n_sh_el, n_sh_yg, n_sh_ys⟩, ⟨n_el_yg, n_el_ys⟩, n_yg_ys, n_ys⟩ := nd
  refine ⟨_, (pss_cons (ps_set (i := 3) sc_Tree_add.nd rfl (Or.inl rfl) (pe_callB (kLenL (K := K) rfl) (by rfl) T.len (by decide +kernel) (pa_cons (kFld (K := K) rfl (pv 0)) pa_nil)))
    (pss_cons (ps_expr (kBm (K := K) rfl PySem.F.plainAttrs_list PySem.F.slot_list_append PySem.F.type_list_append mt_append (kFld (K := K) rfl (pv 0)) (pa_cons (pv 1) pa_nil)))
    (pss_cons (ps_expr (kBm (K := K) rfl PySem.F.plainAttrs_list PySem.F.slot_list_append PySem.F.type_list_append mt_append (kFld (K := K) rfl (pv 0)) (pa_cons (pv 2) pa_nil)))
    (pss_cons (ps_expr (kBm (K := K) rfl PySem.F.plainAttrs_list PySem.F.slot_list_append PySem.F.type_list_append mt_append (kFld (K := K) rfl (pv 0)) (pa_cons (pe_lst pa_nil) pa_nil)))
    (pss_cons (ps_dput hu (kFld (K := K) rfl (pv 0)) (kFld (K := K) rfl (pv 1)) (pv 3) rfl)
    (C8.pss_cut (ps_if (pt_cmpR op_ge (pv 2) pe_int (nomark _)) (pss_one (ps_expr (kBm (K := K) rfl PySem.F.plainAttrs_list PySem.F.slot_list_append PySem.F.type_list_append mt_append (pe_ix (kIxL (K := K) rfl) (kFld (K := K) rfl (pv 0)) (pv 2) (fun _ _ => rfl)) (pa_cons (pv 3) pa_nil)))) pss_nil)
    (pss_one (ps_ret (pv 3))))))))), ?_⟩
  walk_at "rd"
  refine ⟨Nat.zero_le _, fun y hy => ?_⟩
  have fy : H y = none := updN (updN hy)
  have n_t_y : A.t ≠ y := by walk_at "ne"
  have n_p_y : p ≠ y := by walk_at "ne"
  have n_sh_y : A.sh ≠ y := by walk_at "ne"
  have n_el_y : A.el ≠ y := by walk_at "ne"
  have n_yg_y : A.yg ≠ y := by walk_at "ne"
  have n_kn_y : A.kn ≠ y := by walk_at "ne"
  have n_ys_y : ∀ z ∈ A.ys, z ≠ y := fun z hz => by
    obtain ⟨i, hi, e⟩ := List.getElem_of_mem hz
    exact neN fy (R.hys i z (by rw [List.getElem?_eq_getElem hi, e]))
  walk_at "rd"
  refine w_fld1 (by walk_at "hp") cp.cl (cp.no _ (attr_name _)) (fld_name s) ?_
  refine w_dput1 (k := Sum.inr s.name) (by walk_at "hp") rfl (by rw [kvs_len]; show D.n < _; have := PySem.sizeLine_eq; omega) ?_
  have el0 : (A.ps.map V.ref).length = D.shs.length := by rw [List.length_map, lps]; rfl
  rw [el0, kvs_put hn]
  have nsz : ∀ z o, H z = some o → o ≠ .lst (A.ps.map V.ref) → o ≠ .lst (D.eld.map V.int) → o ≠ .lst (A.ys.map V.ref) → (∀ kv, o ≠ .dK kv) → upd (upd (upd (upd (upd H A.sh (.lst (A.ps.map V.ref ++ [V.ref p]))) A.el (.lst (D.eld.map V.int ++ [V.int e]))) y (.lst [])) A.yg (.lst (A.ys.map V.ref ++ [V.ref y]))) A.kn (.dK (kvsOf (D.shs ++ [s]))) z = some o := fun z o hz o1 o2 o3 o4 => by
    have a1 : z ≠ A.sh := ne_of hz hsh o1
    have a2 : z ≠ A.el := ne_of hz hel o2
    have a3 : z ≠ A.yg := ne_of hz hyg o3
    have a4 : z ≠ A.kn := ne_of hz hkn (o4 _)
    have a5 : z ≠ y := neN fy hz
    walk_at "hp"
  have h1 := nsz _ _ ht (by intro z; cases z) (by intro z; cases z) (by intro z; cases z) (by intro kv z; cases z)
  have h8 : ∀ q s', ShAt cls H q s' → _ := fun q s' h => show ShAt cls _ q s' from ⟨h.choose, nsz _ _ h.choose_spec (by intro z; cases z) (by intro z; cases z) (by intro z; cases z) (by intro kv z; cases z)⟩
  have h10 : Out A.foot H (upd (upd (upd (upd (upd H A.sh (.lst (A.ps.map V.ref ++ [V.ref p]))) A.el (.lst (D.eld.map V.int ++ [V.int e]))) y (.lst [])) A.yg (.lst (A.ys.map V.ref ++ [V.ref y]))) A.kn (.dK (kvsOf (D.shs ++ [s])))) := fun b u hb hu => by
    simp only [TA.foot, List.mem_cons, not_or] at hb
    obtain ⟨_, b1, b2, b3, b4, _⟩ := hb
    have b5 : b ≠ y := neN fy hu
    walk_at "hp"
  have h6 : ∀ i z, A.ys[i]? = some z → upd (upd (upd (upd (upd H A.sh (.lst (A.ps.map V.ref ++ [V.ref p]))) A.el (.lst (D.eld.map V.int ++ [V.int e]))) y (.lst [])) A.yg (.lst (A.ys.map V.ref ++ [V.ref y]))) A.kn (.dK (kvsOf (D.shs ++ [s]))) z = some (.lst ((yngOf D.eld i).map fun j : Nat => V.int j)) := fun i z hz => by
    have mz := List.mem_of_getElem? hz
    have hz := R.hys i z hz
    have a1 : z ≠ A.sh := fun e => n_sh_ys (e ▸ mz)
    have a2 : z ≠ A.el := fun e => n_el_ys (e ▸ mz)
    have a3 : z ≠ A.yg := fun e => n_yg_ys (e ▸ mz)
    have a4 : z ≠ A.kn := ne_of hz hkn (by intro z; cases z)
    have a5 : z ≠ y := neN fy hz
    walk_at "hp"
  have h2 : upd (upd (upd (upd (upd H A.sh (.lst (A.ps.map V.ref ++ [V.ref p]))) A.el (.lst (D.eld.map V.int ++ [V.int e]))) y (.lst [])) A.yg (.lst (A.ys.map V.ref ++ [V.ref y]))) A.kn (.dK (kvsOf (D.shs ++ [s]))) A.sh = some (.lst (A.ps.map V.ref ++ [V.ref p])) := by walk_at "hp"
  have h3 : upd (upd (upd (upd (upd H A.sh (.lst (A.ps.map V.ref ++ [V.ref p]))) A.el (.lst (D.eld.map V.int ++ [V.int e]))) y (.lst [])) A.yg (.lst (A.ys.map V.ref ++ [V.ref y]))) A.kn (.dK (kvsOf (D.shs ++ [s]))) A.el = some (.lst (D.eld.map V.int ++ [V.int e])) := by walk_at "hp"
  have h4 : upd (upd (upd (upd (upd H A.sh (.lst (A.ps.map V.ref ++ [V.ref p]))) A.el (.lst (D.eld.map V.int ++ [V.int e]))) y (.lst [])) A.yg (.lst (A.ys.map V.ref ++ [V.ref y]))) A.kn (.dK (kvsOf (D.shs ++ [s]))) A.yg = some (.lst (A.ys.map V.ref ++ [V.ref y])) := by walk_at "hp"
  have h7 : upd (upd (upd (upd (upd H A.sh (.lst (A.ps.map V.ref ++ [V.ref p]))) A.el (.lst (D.eld.map V.int ++ [V.int e]))) y (.lst [])) A.yg (.lst (A.ys.map V.ref ++ [V.ref y]))) A.kn (.dK (kvsOf (D.shs ++ [s]))) y = some (.lst []) := by walk_at "hp"
  have h5 : upd (upd (upd (upd (upd H A.sh (.lst (A.ps.map V.ref ++ [V.ref p]))) A.el (.lst (D.eld.map V.int ++ [V.int e]))) y (.lst [])) A.yg (.lst (A.ys.map V.ref ++ [V.ref y]))) A.kn (.dK (kvsOf (D.shs ++ [s]))) A.kn = some (.dK (kvsOf (D.shs ++ [s]))) := by walk_at "hp"
  generalize upd (upd (upd (upd (upd H A.sh (.lst (A.ps.map V.ref ++ [V.ref p]))) A.el (.lst (D.eld.map V.int ++ [V.int e]))) y (.lst [])) A.yg (.lst (A.ys.map V.ref ++ [V.ref y]))) A.kn (.dK (kvsOf (D.shs ++ [s]))) = Hm at h1 h2 h3 h4 h5 h6 h7 h8 h10 ⊢
  -- behind the branch
  have fin : ∀ H', (∀ b u, b ∉ A.ys → Hm b = some u → H' b = some u) → (∀ i z, A.ys[i]? = some z → H' z = some (.lst ((yngOf (D.eld ++ [e]) i).map fun j : Nat => V.int j))) → Q (.int (D.n : Int)) H' := fun H' hk hy' => by
    have ly : y ∉ A.ys := fun m => n_ys_y y m rfl
    have nq : ∀ q s', ShAt cls H q s' → q ∉ A.ys := fun q s' h m => by
      obtain ⟨i, hi, e⟩ := List.getElem_of_mem m
      have := R.hys i q (by rw [List.getElem?_eq_getElem hi, e])
      rw [h.choose_spec] at this
      cases this
    have nt : A.t ∉ A.ys := fun m => by
      obtain ⟨i, hi, e⟩ := List.getElem_of_mem m
      have := R.hys i _ (by rw [List.getElem?_eq_getElem hi, e])
      rw [ht] at this
      cases this
    have nkn : A.kn ∉ A.ys := fun m => by
      obtain ⟨i, hi, e⟩ := List.getElem_of_mem m
      have := R.hys i _ (by rw [List.getElem?_eq_getElem hi, e])
      rw [hkn] at this
      cases this
    refine q ⟨A.t, A.dx, A.sh, A.el, A.yg, A.kn, A.ys ++ [y], A.ps ++ [p]⟩ H' rfl ⟨⟨hk _ _ nt h1, ?_, ?_, fun i q' hq => ?_, ?_, ?_, ?_, fun i z hz => ?_, hk _ _ nkn h5⟩, ?_⟩ (fun b u hb hu => ?_) (fun b hb => ?_)
    · rw [List.map_append]
      exact hk _ _ n_sh_ys h2
    · show (A.ps ++ [p]).length = (D.shs ++ [s]).length
      rw [List.length_append, List.length_append, lps]
      rfl
    · have hq : (A.ps ++ [p])[i]? = some q' := hq
      show ShAt cls H' q' ((D.shs ++ [s]).getD i default)
      by_cases hi : i < A.ps.length
      · rw [List.getElem?_append_left hi] at hq
        have a := h8 _ _ (R.hps i q' hq)
        rw [List.getD_eq_getElem?_getD, List.getElem?_append_left (by rw [lps] at hi; exact hi), ← List.getD_eq_getElem?_getD]
        exact ⟨a.choose, hk _ _ (nq _ _ (R.hps i q' hq)) a.choose_spec⟩
      · have hi2 : i = A.ps.length := by
          have := (List.getElem?_eq_some_iff.mp hq).choose
          rw [List.length_append, List.length_singleton] at this
          omega
        subst hi2
        rw [List.getElem?_append_right (Nat.le_refl _), Nat.sub_self] at hq
        obtain rfl : p = q' := Option.some.inj hq
        have a := h8 p s ⟨_, hp⟩
        have e2 : (D.shs ++ [s]).getD A.ps.length default = s := by
          rw [List.getD_eq_getElem?_getD, List.getElem?_append_right (by rw [lps]; exact Nat.le_refl _), show A.ps.length - D.shs.length = 0 by rw [lps]; exact Nat.sub_self _]
          rfl
        rw [e2]
        exact ⟨a.choose, hk _ _ (nq _ _ ⟨_, hp⟩) a.choose_spec⟩
    · show H' A.el = some (.lst ((D.eld ++ [e]).map V.int))
      rw [List.map_append]
      exact hk _ _ n_el_ys h3
    · rw [List.map_append]
      exact hk _ _ n_yg_ys h4
    · show (A.ys ++ [y]).length = (D.shs ++ [s]).length
      rw [List.length_append, List.length_append, lys]
      rfl
    · have hz : (A.ys ++ [y])[i]? = some z := hz
      by_cases hi : i < A.ys.length
      · rw [List.getElem?_append_left hi] at hz
        exact hy' i z hz
      · have hi2 : i = A.ys.length := by
          have := (List.getElem?_eq_some_iff.mp hz).choose
          rw [List.length_append, List.length_singleton] at this
          omega
        subst hi2
        rw [List.getElem?_append_right (Nat.le_refl _), Nat.sub_self] at hz
        obtain rfl : y = z := Option.some.inj hz
        have e3 : yngOf (D.eld ++ [e]) A.ys.length = [] := by
          rw [yng_add, if_neg (by rw [lys]; omega), List.append_nil, List.eq_nil_iff_forall_not_mem]
          intro j hj
          obtain ⟨a1, a2⟩ := yng_lt hj
          have := W.el j (by omega)
          unfold TreeD.e at this
          rw [a2, lys] at this
          omega
        show H' y = some (.lst ((yngOf (D.eld ++ [e]) A.ys.length).map fun j : Nat => V.int j))
        rw [e3]
        exact hk _ _ ly h7
    · have n_y_sh := n_sh_y.symm
      have n_y_el := n_el_y.symm
      simp only [List.nodup_cons, List.mem_cons, not_or, List.mem_append, List.not_mem_nil, or_false, List.nodup_append]
      refine ⟨⟨n_sh_el, n_sh_yg, n_sh_ys, n_sh_y⟩, ⟨n_el_yg, n_el_ys, n_el_y⟩, ⟨n_yg_ys, n_yg_y⟩, n_ys, by simp, fun a ha b hb => ?_⟩
      subst hb
      exact n_ys_y a ha
    · have m : b ∉ A.ys := fun m => hb (by simp only [TA.foot, List.mem_cons]; exact .inr (.inr (.inr (.inr (.inr m)))))
      exact hk b u m (h10 b u hb hu)
    · simp only [TA.foot, List.mem_cons, List.mem_append, List.not_mem_nil, or_false] at hb ⊢
      rcases hb with h | h | h | h | h | h | h
      · exact .inl (.inl h)
      · exact .inl (.inr (.inl h))
      · exact .inl (.inr (.inr (.inl h)))
      · exact .inl (.inr (.inr (.inr (.inl h))))
      · exact .inl (.inr (.inr (.inr (.inr (.inl h)))))
      · exact .inl (.inr (.inr (.inr (.inr (.inr h)))))
      · exact .inr (h ▸ fy)
  refine w_cut (fun σ H' => ∃ n : Nat, σ = [some (.ref A.t), some (.ref p), some (.int e), some (.int (n : Int))] ∧ n = D.n ∧ (∀ b u, b ∉ A.ys → Hm b = some u → H' b = some u) ∧ (∀ i z, A.ys[i]? = some z → H' z = some (.lst ((yngOf (D.eld ++ [e]) i).map fun j : Nat => V.int j)))) ?_ (fun σ H' hm => ?_)
  · walk_at "rd"
    walk_at "if"
    all_goals rename_i c
    all_goals walk_at "rd"
    · have he : 0 ≤ e ∧ e < D.n := by omega
      obtain ⟨i, rfl⟩ : ∃ i : Nat, e = (i : Int) := ⟨e.toNat, by omega⟩
      have hi : i < A.ys.length := by omega
      have hz : A.ys[i]? = some A.ys[i] := List.getElem?_eq_getElem hi
      generalize A.ys[i] = z at hz
      have mz := List.mem_of_getElem? hz
      refine w_ixL (v := .ref z) (SqL.of h4) (at_nat (i := i) rfl (by rw [List.getElem?_append_left (by rw [List.length_map]; exact hi), List.getElem?_map, hz]; rfl)) ?_
      refine w_tyL (SqL.of (h6 i z hz)) ?_
      walk_at "rd"
      have hyl : ((yngOf D.eld i).map fun j : Nat => V.int j).length < PySem.sizeLine := by
        have a1 : (yngOf D.eld i).length ≤ D.eld.length := by
          unfold yngOf
          exact Nat.le_trans (List.length_filter_le _ _) (by rw [List.length_range]; exact Nat.le_refl _)
        have := PySem.sizeLine_eq
        rw [List.length_map]
        omega
      refine w_app (h6 i z hz) hyl ?_
      walk_at "rd"
      refine ⟨_, rfl, rfl, fun b u hb hu => ?_, fun k z' hk' => ?_⟩
      · have : b ≠ z := fun e => hb (e ▸ mz)
        walk_at "hp"
      · rw [yng_add]
        by_cases e : z' = z
        · subst e
          have : k = i := by
            have hi2 : k < A.ys.length := (List.getElem?_eq_some_iff.mp hk').choose
            exact (List.getElem?_inj hi2 n_ys).mp (hk'.trans hz.symm)
          subst this
          rw [upd_same, if_pos rfl, List.map_append, le]
          rfl
        · have : ¬ ((i : Int) = (k : Int)) := fun h => by
            have h : i = k := by omega
            subst h
            exact e (Option.some.inj (hk'.symm.trans hz))
          rw [upd_ne e, if_neg this, List.append_nil]
          exact h6 k z' hk'
    · refine ⟨_, rfl, rfl, fun b u hb hu => hu, fun k z hk' => ?_⟩
      rw [yng_add, if_neg (by omega), List.append_nil]
      exact h6 k z hk'
  · obtain ⟨n, rfl, rfl, hk', hy'⟩ := hm
    walk_at "rd"
    exact fin _ hk' hy'
end
end Mn

namespace Mn
open PySem PySem.Spec PyProof.Rows L2 TL
/-! ### what is read of a tree -/
theorem ShAt.same {cls : Nat → Addr} {H H' : Hp} {p : Addr} {s : Shp} (e : Same H H') (h : ShAt cls H p s) : ShAt cls H' p s := ⟨h.choose, e _ _ h.choose_spec⟩
theorem TR.same {CT : Addr} {cls : Nat → Addr} {A : TA} {D : TreeD} {H H' : Hp} (e : Same H H') (R : TR CT cls A D H) : TR CT cls A D H' :=
  ⟨e _ _ R.ht, e _ _ R.hsh, R.lps, fun i p h => (R.hps i p h).same e, e _ _ R.hel, e _ _ R.hyg, R.lys, fun i y h => e _ _ (R.hys i y h), e _ _ R.hkn⟩
theorem TRm.same {CT : Addr} {cls : Nat → Addr} {A : TA} {D : TreeD} {H H' : Hp} (e : Same H H') (R : TRm CT cls A D H) : TRm CT cls A D H' := { R.toTR.same e with nd := R.nd }
/-- the minder above a row that stands so deep: -1 the top's, -2 none -/
def climb (D : TreeD) (deep : Int) : Nat → Int → Int
  | 0, j => j
  | f + 1, j => if 0 ≤ j ∧ deep ≤ (D.dp j.toNat : Int) then climb D deep f (D.e j.toNat) else j
def elderM (D : TreeD) (deep : Int) : Int :=
  if deep = 0 then (if D.n = 0 then -1 else -2) else if D.n = 0 then -2 else
  if climb D deep (D.n + 1) ((D.n : Int) - 1) < 0 then -2 else
  if (D.dp (climb D deep (D.n + 1) ((D.n : Int) - 1)).toNat : Int) ≠ deep - 1 ∨ (D.sh (climb D deep (D.n + 1) ((D.n : Int) - 1)).toNat).kind < 3 then -2 else climb D deep (D.n + 1) ((D.n : Int) - 1)
theorem TreeD.WF.e_lt {D : TreeD} (W : D.WF) {i : Nat} (h : i < D.n) : -1 ≤ D.e i ∧ D.e i < i := by
  have := W.el i h
  omega
theorem climb_more {D : TreeD} (W : D.WF) (deep : Int) : ∀ (f : Nat) (j : Int), -1 ≤ j → j < D.n → j < (f : Int) → ∀ g, f ≤ g → climb D deep g j = climb D deep f j
  | 0, j, h0, hn, hf, g, hg => by
    have : j = -1 := by omega
    subst this
    cases g with
    | zero => rfl
    | succ g =>
      show climb D deep (g + 1) (-1) = -1
      unfold climb
      exact if_neg (fun z => absurd z.1 (by decide))
  | f + 1, j, h0, hn, hf, g, hg => by
    cases g with
    | zero => omega
    | succ g =>
      rw [climb, climb]
      split
      · rename_i c
        have := W.e_lt (i := j.toNat) (by omega)
        exact climb_more W deep f _ (by omega) (by omega) (by omega) g (by omega)
      · rfl
section
variable {P : Program} {w : World} {K : PySem.W.Frag} {mg : Str → Option Value} {base : Heap}
def spDepth (CT : Addr) (cls : Nat → Addr) : Sp := fun vs H Q _ => ∃ (A : TA) (D : TreeD) (i : Nat), vs = [.ref A.t, .int (i : Int)] ∧ TR CT cls A D H ∧ D.WF ∧ i < D.n ∧ Q (.int (D.dp i : Int)) H
theorem atE {D : TreeD} {i : Nat} (W : D.WF) (h : i < D.n) : (D.eld.map V.int)[i]? = some (.int (D.e i)) := by
  rw [List.getElem?_map, List.getElem?_eq_getElem (by rw [W.le]; exact h)]
  unfold TreeD.e
  rw [List.getD_eq_getElem?_getD, List.getElem?_eq_getElem (by rw [W.le]; exact h)]
  rfl
theorem ok_depth {CT : Addr} {cls : Nat → Addr} {f : Addr} {fd : FuncData} (F : Fun K "depth" "Tree.depth" s_Tree_depth f fd) (cT : ClsF K CT treeN) : FnG P w K mg base 1 f fd ["self", "at"] (spDepth CT cls) := by
  refine okG F sc_Tree_depth (fun vs H Q E h => ?_) (fun cdv A outer s H vs Q E calm_ pn_ hr h => ?_)
  · obtain ⟨A, D, i, rfl, _⟩ := h
    rfl
  obtain ⟨A, D, i, rfl, R, W, hi, q⟩ := h
  have ht := R.ht
  unfold treeF at ht
  have hel := R.hel
  refine ⟨_, (pss_cons (ps_set (i := 2) sc_Tree_depth.nd rfl (Or.inl rfl) pe_int)
    (pss_cons (ps_while PassesOwn.never (pt_cmpR op_ge (pe_ix (kIxL (K := K) rfl) (kFld (K := K) rfl (pv 0)) (pv 1) (fun _ _ => rfl)) pe_int (nomark _)) (pss_cons (ps_set (i := 1) sc_Tree_depth.nd rfl (Or.inl rfl) (pe_ix (kIxL (K := K) rfl) (kFld (K := K) rfl (pv 0)) (pv 1) (fun _ _ => rfl)))
    (pss_one (ps_aug (i := 2) sc_Tree_depth.nd rfl (Or.inl rfl) pe_int ip_add))))
    (pss_one (ps_ret (pv 2))))), ?_⟩
  walk_at "rd"
  refine ⟨fun m σ H' => ∃ j st : Nat, σ = [some (.ref A.t), some (.int (j : Int)), some (.int (st : Int))] ∧ H = H' ∧ j < D.n ∧ st + D.dp j = D.dp i ∧ m = j, ⟨_, i, 0, rfl, rfl, hi, Nat.zero_add _, rfl⟩, fun m σ H' hm => ?_⟩
  obtain ⟨j, st, rfl, rfl, hj, hs, rfl⟩ := hm
  have el := W.el m hj
  have dp := W.dp m hj
  walk_at "rd"
  refine w_ixL (SqL.of hel) (at_nat (i := m) rfl (atE W hj)) ?_
  walk_at "rd"
  walk_at "if"
  · rename_i c
    rw [if_neg (by omega)] at dp
    refine ⟨fun σ H' => ∃ m' : Nat, m' < m ∧ ∃ j st : Nat, σ = [some (.ref A.t), some (.int (j : Int)), some (.int (st : Int))] ∧ H = H' ∧ j < D.n ∧ st + D.dp j = D.dp i ∧ m' = j, fun σ' H' h => h, ?_⟩
    walk_at "rd"
    refine w_ixL (SqL.of hel) (at_nat (i := m) rfl (atE W hj)) ?_
    walk_at "rd"
    refine ⟨(D.e m).toNat, by omega, (D.e m).toNat, st + 1, ?_, rfl, by omega, by omega, rfl⟩
    rw [show (((D.e m).toNat : Nat) : Int) = D.e m by omega]
    rfl
  · rename_i c
    rw [if_pos (by omega)] at dp
    walk_at "rd"
    rw [dp, Nat.add_zero] at hs
    rw [hs]
    exact q
def spElder (CT : Addr) (cls : Nat → Addr) : Sp := fun vs H Q _ => ∃ (A : TA) (D : TreeD) (deep : Int), vs = [.ref A.t, .int deep] ∧ TR CT cls A D H ∧ D.WF ∧ 0 ≤ deep ∧ ∀ H', Same H H' → Q (.int (elderM D deep)) H'
theorem ok_elder {CT : Addr} {cls : Nat → Addr} {f : Addr} {fd : FuncData} (F : Fun K "elder_at" "elder_at" s_elder_at f fd) (T : Bt mg) (cT : ClsF K CT treeN) (kc : KdC K cls) (kl : KdL P w K mg base cls) (MD : MthG P w K mg base CT "depth" 1 ["self", "at"] [] (spDepth CT cls)) :
    FnG P w K mg base 2 f fd ["tree", "deep"] (spElder CT cls) := by
  refine okG F sc_elder_at (fun vs H Q E h => ?_) (fun cdv A outer s H vs Q E calm_ pn_ hr h => ?_)
  · obtain ⟨A, D, deep, rfl, _⟩ := h
    rfl
  obtain ⟨A, D, deep, rfl, R, W, hd, q⟩ := h
  have ht := R.ht
  unfold treeF at ht
  have hel := R.hel
  have hsh := R.hsh
  have lps := R.lps
  have hsz := W.sz
  refine ⟨_, (pss_cons (ps_if (pt_cmpR op_eq (pv 1) pe_int (nomark _)) (pss_cons (ps_if (pt_cmpR (op_eqE hr.units) (kFld (K := K) rfl (pv 0)) (pe_lst pa_nil) (nomark _)) (pss_one (ps_ret (pe_un un_neg pe_int))) pss_nil)
    (pss_one (ps_ret (pe_un un_neg pe_int)))) pss_nil)
    (pss_cons (ps_if (pt_cmpR (op_eqE hr.units) (kFld (K := K) rfl (pv 0)) (pe_lst pa_nil) (nomark _)) (pss_one (ps_ret (pe_un un_neg pe_int))) pss_nil)
    (pss_cons (ps_set (i := 2) sc_elder_at.nd rfl (Or.inl rfl) (pe_op op_sub (pe_callB (kLenL (K := K) rfl) (by rfl) T.len (by decide +kernel) (pa_cons (kFld (K := K) rfl (pv 0)) pa_nil)) pe_int))
    (C8.pss_cut (ps_while PassesOwn.never (PW.pt (pw_and (pt_cmpR op_ge (pv 2) pe_int (nomark _)) (pw_and1 (pt_cmpR op_ge (pe_maG (P := P) (w := w) (K := K) (mg := mg) (base := base) ⟨rfl, rfl, rfl, rfl, rfl⟩ hr (pv 0) (pa_cons (pv 2) pa_nil)) (pv 1) (nomark _))))) (pss_one (ps_set (i := 2) sc_elder_at.nd rfl (Or.inl rfl) (pe_ix (kIxL (K := K) rfl) (kFld (K := K) rfl (pv 0)) (pv 2) (fun _ _ => rfl)))))
    (pss_cons (ps_if (PW.pt (pw_or (pt_cmpR op_lt (pv 2) pe_int (nomark _)) (pw_or (pt_cmpR op_ne (pe_maG (P := P) (w := w) (K := K) (mg := mg) (base := base) ⟨rfl, rfl, rfl, rfl, rfl⟩ hr (pv 0) (pa_cons (pv 2) pa_nil)) (pe_op op_sub (pv 1) pe_int) (nomark _)) (pw_or1 (pt_val (pe_ma0G (P := P) (w := w) (K := K) (mg := mg) (base := base) ⟨rfl, rfl, rfl, rfl, rfl⟩ hr (pe_ix (kIxL (K := K) rfl) (kFld (K := K) rfl (pv 0)) (pv 2) (fun _ _ => rfl)))))))) (pss_one (ps_ret (pe_un un_neg pe_int))) pss_nil)
    (pss_one (ps_ret (pv 2)))))))), ?_⟩
  have em : (A.ps.map V.ref).isEmpty = decide (D.n = 0) := by
    rw [← lps]
    cases A.ps <;> rfl
  have fin : ∀ v H', v = elderM D deep → Same H H' → Q (.int v) H' := fun v H' e s => by rw [e]; exact q H' s
  walk_at "rd"
  walk_at "if"
  · rename_i c
    have c := V.int.inj c
    subst c
    walk_at "rd"
    refine ⟨Nat.zero_le _, fun b hb => ?_⟩
    have s1 := same_new hb (.lst [])
    walk_at "rd"
    rw [em]
    walk_at "if"
    all_goals rename_i c2
    all_goals walk_at "rd"
    · refine fin _ _ ?_ s1
      unfold elderM
      rw [if_pos rfl, if_pos c2]
    · refine fin _ _ ?_ s1
      unfold elderM
      rw [if_pos rfl, if_neg c2]
  rename_i c
  have c : ¬ deep = 0 := fun e => c (congrArg V.int e)
  walk_at "rd"
  refine ⟨Nat.zero_le _, fun b hb => ?_⟩
  have s1 := same_new hb (.lst [])
  walk_at "rd"
  rw [em]
  have R := R.same s1
  have ht := s1 _ _ ht
  have hel := s1 _ _ hel
  have hsh := s1 _ _ hsh
  generalize upd H b (.lst []) = H1 at s1 R ht hel hsh ⊢
  walk_at "if"
  · rename_i c2
    walk_at "rd"
    refine fin _ _ ?_ s1
    unfold elderM
    rw [if_neg c, if_pos c2]
  rename_i c2
  walk_at "rd"
  rw [List.length_map, lps]
  obtain ⟨n, en⟩ : ∃ n, D.n = n + 1 := ⟨D.n - 1, by omega⟩
  refine w_cut (fun σ H' => ∃ j : Int, σ = [some (.ref A.t), some (.int deep), some (.int j)] ∧ H1 = H' ∧ -1 ≤ j ∧ j < D.n ∧ j = climb D deep (D.n + 1) ((D.n : Int) - 1)) ?_ (fun σ H' hm => ?_)
  · refine ⟨fun m σ H' => ∃ j : Int, σ = [some (.ref A.t), some (.int deep), some (.int j)] ∧ H1 = H' ∧ -1 ≤ j ∧ j < D.n ∧ climb D deep (D.n + 1) j = climb D deep (D.n + 1) ((D.n : Int) - 1) ∧ m = (j + 1).toNat, ⟨_, _, rfl, rfl, by omega, by omega, rfl, rfl⟩, fun m σ H' hm => ?_⟩
    obtain ⟨j, rfl, rfl, j0, jn, ej, rfl⟩ := hm
    walk_at "rd"
    by_cases cj : 0 ≤ j
    · rw [decide_eq_true cj]
      obtain ⟨k, rfl⟩ : ∃ k : Nat, j = (k : Int) := ⟨j.toNat, by omega⟩
      have hk : k < D.n := by omega
      walk_at "rd"
      refine w_ma1G ht cT.cl rfl MD (by decide) ?_
      walk_at "rd"
      refine ⟨A, D, k, rfl, R, W, hk, ?_⟩
      walk_at "rd"
      walk_at "if"
      · rename_i c3
        refine ⟨fun σ H' => ∃ m' : Nat, m' < ((k : Int) + 1).toNat ∧ ∃ j : Int, σ = [some (.ref A.t), some (.int deep), some (.int j)] ∧ H1 = H' ∧ -1 ≤ j ∧ j < D.n ∧ climb D deep (D.n + 1) j = climb D deep (D.n + 1) ((D.n : Int) - 1) ∧ m' = (j + 1).toNat, fun σ' H' h => h, ?_⟩
        walk_at "rd"
        refine w_ixL (SqL.of hel) (at_nat (i := k) rfl (atE W hk)) ?_
        walk_at "rd"
        have := W.e_lt hk
        refine ⟨(D.e k + 1).toNat, by omega, D.e k, rfl, rfl, by omega, by omega, ?_, rfl⟩
        rw [← ej]
        have e2 := climb_more W deep D.n (D.e k) (by omega) (by omega) (by omega) (D.n + 1) (by omega)
        rw [e2]
        show _ = climb D deep (D.n + 1) (k : Int)
        rw [climb, if_pos ⟨by omega, by rw [Int.toNat_natCast]; exact c3⟩, Int.toNat_natCast]
      · rename_i c3
        walk_at "rd"
        refine ⟨k, rfl, rfl, by omega, by omega, ?_⟩
        rw [← ej, climb, if_neg (by rw [Int.toNat_natCast]; exact fun z => c3 z.2)]
    · rw [decide_eq_false cj]
      walk_at "rd"
      refine ⟨j, rfl, rfl, by omega, by omega, ?_⟩
      rw [← ej, climb, if_neg (fun z => cj z.1)]
  obtain ⟨j, rfl, rfl, j0, jn, ej⟩ := hm
  have un : elderM D deep = if j < 0 then -2 else if (D.dp j.toNat : Int) ≠ deep - 1 ∨ (D.sh j.toNat).kind < 3 then -2 else j := by
    rw [ej]
    unfold elderM
    rw [if_neg c, if_neg c2]
  walk_at "rd"
  by_cases cj : j < 0
  · rw [decide_eq_true cj]
    walk_at "rd"
    refine fin _ _ ?_ s1
    rw [un, if_pos cj]
  rw [decide_eq_false cj]
  rw [if_neg cj] at un
  obtain ⟨k, rfl⟩ : ∃ k : Nat, j = (k : Int) := ⟨j.toNat, by omega⟩
  rw [Int.toNat_natCast] at un
  have hk : k < D.n := by omega
  walk_at "rd"
  refine w_ma1G ht cT.cl rfl MD (by decide) ?_
  walk_at "rd"
  refine ⟨A, D, k, rfl, R, W, hk, ?_⟩
  walk_at "rd"
  by_cases cd : (D.dp k : Int) = deep - 1
  case neg =>
    rw [decide_eq_false (fun z => cd (V.int.inj z)), Bool.not_false]
    walk_at "rd"
    refine fin _ _ ?_ s1
    rw [un, if_pos (.inl cd)]
  rw [decide_eq_true (congrArg V.int cd), Bool.not_true]
  walk_at "rd"
  have hp : A.ps[k]? = some A.ps[k] := List.getElem?_eq_getElem (by omega)
  generalize A.ps[k] = p at hp
  have hs := R.hps k p hp
  obtain ⟨dx, hs⟩ := hs
  have ok : OkS (D.sh k) := W.ok _ (by unfold TreeD.sh; rw [List.getD_eq_getElem?_getD, List.getElem?_eq_getElem hk]; exact List.getElem_mem hk)
  refine w_ixL (v := .ref p) (SqL.of hsh) (at_nat (i := k) rfl (by rw [List.getElem?_map, hp]; rfl)) ?_
  refine w_ma1G hs (kc.cf _ ok.kd).cl (fld_leaf _) (kl.leaf _ ok.kd) (by decide) ?_
  walk_at "rd"
  refine ⟨p, dx, _, rfl, hs, ?_⟩
  walk_at "rd"
  walk_at "if"
  all_goals rename_i c3
  all_goals walk_at "rd"
  · refine fin _ _ ?_ s1
    rw [un, if_pos (.inr c3)]
  · refine fin _ _ ?_ s1
    rw [un, if_neg (fun z => z.elim (fun z => z cd) c3)]
end
end Mn

namespace Mn
open PySem PySem.Spec PyProof.Rows L2 TL
/-! ### what a row's words tell -/
def numM (x : Str) : Option Int := match numOf x with
  | some v => if v ≤ 1000000 then some v else none
  | none => none
def wAt (ws : List Str) (i : Nat) : Str := ws.getD i ""
/-- none: NoNumber; some none: None -/
def leafR (ws : List Str) : Option (Option Shp) :=
  match numM (wAt ws 2) with
  | none => none
  | some g => match numM (wAt ws 3) with
    | none => none
    | some s =>
      if wAt ws 4 = "idle" ∧ ws.length = 6 then some (some ⟨0, wAt ws 5, wAt ws 1, g, s, 0⟩)
      else if ws.length = 7 ∧ (wAt ws 4 = "steady" ∨ wAt ws 4 = "falls") then
        match numM (wAt ws 5) with
        | none => none
        | some m => some (some ⟨if wAt ws 4 = "steady" then 1 else 2, wAt ws 6, wAt ws 1, g, s, m⟩)
      else some none
def minderR (ws : List Str) : Option (Option Shp) :=
  match numM (wAt ws 3) with
  | none => none
  | some m => match numM (wAt ws 4) with
    | none => none
    | some s =>
      if s = 0 then some none
      else if wAt ws 2 = "one" then some (some ⟨3, wAt ws 5, wAt ws 1, m, s, 0⟩)
      else if wAt ws 2 = "all" then some (some ⟨4, wAt ws 5, wAt ws 1, m, s, 0⟩)
      else if wAt ws 2 = "rest" then some (some ⟨5, wAt ws 5, wAt ws 1, m, s, 0⟩)
      else some none
def shapeM (ws : List Str) : Option Shp :=
  if ws.length < 6 ∨ wAt ws 1 ∉ keeps3 ∨ fitL (tl (wAt ws (ws.length - 1))) = false then none
  else if wAt ws 0 = "leaf" then (leafR ws).join
  else if wAt ws 0 = "minder" ∧ ws.length = 6 then (minderR ws).join
  else none
def ShV (cls : Nat → Addr) (r : Option Shp) (v : V) (H : Hp) : Prop := match r with
  | none => v = .non
  | some s => ∃ p, v = .ref p ∧ ShAt cls H p s
section
variable {P : Program} {w : World} {K : PySem.W.Frag} {mg : Str → Option Value} {base : Heap}
def spBy (K : PySem.W.Frag) (cls : Nat → Addr) (CN : Addr) (R : List Str → Option (Option Shp)) : Sp := fun vs H Q E => ∃ (a : Addr) (ws : List Str), vs = [.ref a] ∧ SqL K H a (ws.map V.str) ∧ 6 ≤ ws.length ∧ (∀ x ∈ ws, x.length ≤ 640) ∧ (R ws = none → False) ∧
  ∀ r v H', R ws = some r → Same H H' → ShV cls r v H' → Q v H'
theorem wAt_at {ws : List Str} {i : Nat} (h : i < ws.length) : (ws.map V.str)[i]? = some (.str (wAt ws i)) := by
  unfold wAt
  rw [List.getElem?_map, List.getD_eq_getElem?_getD, List.getElem?_eq_getElem h]
  rfl
theorem wAt_mem {ws : List Str} {i : Nat} (h : i < ws.length) : wAt ws i ∈ ws := by
  unfold wAt
  rw [List.getD_eq_getElem?_getD, List.getElem?_eq_getElem h]
  exact List.getElem_mem h
theorem num_yes {x : Str} {v : Int} (h : numOf x = some v) (l : v ≤ 1000000) : numM x = some v := by
  unfold numM
  rw [h]
  exact if_pos l
theorem num_no {x : Str} (h : ∀ v, numOf x = some v → ¬ v ≤ 1000000) : numM x = none := by
  unfold numM
  cases e : numOf x with
  | none => rfl
  | some v => exact if_neg (h v e)
theorem ok_leaf_by {cls : Nat → Addr} {CN f : Addr} {fd : FuncData} (F : Fun K "leaf_by" "leaf_by" s_leaf_by f fd) (T : Bt mg) (kc : KdC K cls) (CM : CalG P w K mg base "number_in" 1 ["text", "most"] [.int 1000000] (spNum CN))
    (L0 : MakG P w K mg base "Leaf" (cls 0) 2 ["self", "name", "keep", "grace", "slow"] [] (spLeaf K)) (L1 : MakG P w K mg base "Steady" (cls 1) 3 ["self", "name", "keep", "many", "grace", "slow"] [] (spMany K (cls 1)))
    (L2 : MakG P w K mg base "Faller" (cls 2) 3 ["self", "name", "keep", "many", "grace", "slow"] [] (spMany K (cls 2))) : FnG P w K mg base 5 f fd ["words"] (spBy K cls CN leafR) := by
  refine okG F sc_leaf_by (fun vs H Q E h => ?_) (fun cdv A outer s H vs Q E calm_ pn_ hr h => ?_)
  · obtain ⟨a, ws, rfl, _⟩ := h
    rfl
  obtain ⟨a, ws, rfl, hS, l6, hl, qe, q⟩ := h
  have lm := List.length_map (as := ws) V.str
  refine ⟨_, (pss_cons (ps_set (i := 1) sc_leaf_by.nd rfl (Or.inl rfl) (pe_caG (P := P) (w := w) (K := K) (mg := mg) (base := base) ⟨rfl, rfl, rfl, rfl, rfl⟩ hr rfl (pa_cons (pe_ix (kIxL (K := K) rfl) (pv 0) pe_int (fun _ _ => rfl)) pa_nil)))
    (pss_cons (ps_set (i := 2) sc_leaf_by.nd rfl (Or.inl rfl) (pe_caG (P := P) (w := w) (K := K) (mg := mg) (base := base) ⟨rfl, rfl, rfl, rfl, rfl⟩ hr rfl (pa_cons (pe_ix (kIxL (K := K) rfl) (pv 0) pe_int (fun _ _ => rfl)) pa_nil)))
    (C8.pss_cut (ps_if (PW.pt (pw_and (pt_cmpR op_eq (pe_ix (kIxL (K := K) rfl) (pv 0) pe_int (fun _ _ => rfl)) pe_str (nomark _)) (pw_and1 (pt_cmpR op_eq (pe_callB (kLenL (K := K) rfl) (by rfl) T.len (by decide +kernel) (pa_cons (pv 0) pa_nil)) pe_int (nomark _))))) (pss_one (ps_ret (pe_mkaG (P := P) (w := w) (K := K) (mg := mg) (base := base) ⟨rfl, rfl, rfl, rfl, rfl⟩ hr rfl (pa_cons (pe_ix (kIxL (K := K) rfl) (pv 0) pe_int (fun _ _ => rfl)) (pa_cons (pe_ix (kIxL (K := K) rfl) (pv 0) pe_int (fun _ _ => rfl)) (pa_cons (pv 1) (pa_cons (pv 2) pa_nil))))))) pss_nil)
    (C8.pss_cut (ps_if (PW.pt (pw_and (pt_cmpR op_eq (pe_callB (kLenL (K := K) rfl) (by rfl) T.len (by decide +kernel) (pa_cons (pv 0) pa_nil)) pe_int (nomark _)) (pw_and1 (pt_cmpR op_eq (pe_ix (kIxL (K := K) rfl) (pv 0) pe_int (fun _ _ => rfl)) pe_str (nomark _))))) (pss_one (ps_ret (pe_mkaG (P := P) (w := w) (K := K) (mg := mg) (base := base) ⟨rfl, rfl, rfl, rfl, rfl⟩ hr rfl (pa_cons (pe_ix (kIxL (K := K) rfl) (pv 0) pe_int (fun _ _ => rfl)) (pa_cons (pe_ix (kIxL (K := K) rfl) (pv 0) pe_int (fun _ _ => rfl)) (pa_cons (pe_caG (P := P) (w := w) (K := K) (mg := mg) (base := base) ⟨rfl, rfl, rfl, rfl, rfl⟩ hr rfl (pa_cons (pe_ix (kIxL (K := K) rfl) (pv 0) pe_int (fun _ _ => rfl)) pa_nil)) (pa_cons (pv 1) (pa_cons (pv 2) pa_nil)))))))) pss_nil)
    (C8.pss_cut (ps_if (PW.pt (pw_and (pt_cmpR op_eq (pe_callB (kLenL (K := K) rfl) (by rfl) T.len (by decide +kernel) (pa_cons (pv 0) pa_nil)) pe_int (nomark _)) (pw_and1 (pt_cmpR op_eq (pe_ix (kIxL (K := K) rfl) (pv 0) pe_int (fun _ _ => rfl)) pe_str (nomark _))))) (pss_one (ps_ret (pe_mkaG (P := P) (w := w) (K := K) (mg := mg) (base := base) ⟨rfl, rfl, rfl, rfl, rfl⟩ hr rfl (pa_cons (pe_ix (kIxL (K := K) rfl) (pv 0) pe_int (fun _ _ => rfl)) (pa_cons (pe_ix (kIxL (K := K) rfl) (pv 0) pe_int (fun _ _ => rfl)) (pa_cons (pe_caG (P := P) (w := w) (K := K) (mg := mg) (base := base) ⟨rfl, rfl, rfl, rfl, rfl⟩ hr rfl (pa_cons (pe_ix (kIxL (K := K) rfl) (pv 0) pe_int (fun _ _ => rfl)) pa_nil)) (pa_cons (pv 1) (pa_cons (pv 2) pa_nil)))))))) pss_nil)
    (pss_one (ps_ret pe_non))))))), ?_⟩
  have c0 := kc.cf 0 (by decide)
  walk_at "rd"
  refine w_caG CM (by decide) ?_
  walk_at "rd"
  refine w_ixL hS (at_nat (i := 2) rfl (wAt_at (by omega))) ?_
  walk_at "rd"
  refine ⟨_, _, rfl, hl _ (wAt_mem (by omega)), fun g hg lg => ?_, fun no => ?_⟩
  case refine_2 =>
    refine qe ?_
    unfold leafR
    rw [num_no no]
  have hg := num_yes hg lg
  show gName 1 (V.int g) _ _ _
  walk_at "rd"
  refine w_caG CM (by decide) ?_
  walk_at "rd"
  refine w_ixL hS (at_nat (i := 3) rfl (wAt_at (by omega))) ?_
  walk_at "rd"
  refine ⟨_, _, rfl, hl _ (wAt_mem (by omega)), fun sl hs ls => ?_, fun no => ?_⟩
  case refine_2 =>
    refine qe ?_
    unfold leafR
    rw [hg, num_no no]
  have hs := num_yes hs ls
  show gName 2 (V.int sl) _ _ _
  walk_at "rd"
  have un : leafR ws = if wAt ws 4 = "idle" ∧ ws.length = 6 then some (some ⟨0, wAt ws 5, wAt ws 1, g, sl, 0⟩)
      else if ws.length = 7 ∧ (wAt ws 4 = "steady" ∨ wAt ws 4 = "falls") then
        match numM (wAt ws 5) with
        | none => none
        | some m => some (some ⟨if wAt ws 4 = "steady" then 1 else 2, wAt ws 6, wAt ws 1, g, sl, m⟩)
      else some none := by
    unfold leafR
    rw [hg, hs]
  refine w_cut (fun σ H' => σ = [some (.ref a), some (.int g), some (.int sl)] ∧ H = H' ∧ ¬ (wAt ws 4 = "idle" ∧ ws.length = 6)) ?_ (fun σ H' hm => ?_)
  · walk_at "rd"
    refine w_ixL hS (at_nat (i := 4) rfl (wAt_at (by omega))) ?_
    walk_at "rd"
    by_cases h4 : wAt ws 4 = "idle"
    case neg =>
      rw [decide_eq_false (fun z => h4 (V.str.inj z))]
      walk_at "rd"
      exact ⟨rfl, rfl, fun z => h4 z.1⟩
    rw [decide_eq_true (congrArg V.str h4)]
    walk_at "rd"
    rw [lm]
    by_cases h6 : ws.length = 6
    case neg =>
      rw [decide_eq_false (fun z => h6 (by have := V.int.inj z; omega))]
      walk_at "rd"
      exact ⟨rfl, rfl, fun z => h6 z.2⟩
    rw [decide_eq_true (show V.int (ws.length : Int) = V.int 6 by rw [h6]; rfl)]
    walk_at "rd"
    refine w_mkaG L0 (by decide) ?_
    walk_at "rd"
    refine w_ixL hS (at_nat (i := 5) rfl (wAt_at (by omega))) ?_
    walk_at "rd"
    refine w_ixL hS (at_nat (i := 1) rfl (wAt_at (by omega))) ?_
    walk_at "rd"
    refine fun x dx hx hdx ne => ⟨x, _, dx, _, _, _, _, rfl, upd_same, c0, rfl, ?_⟩
    refine q (some ⟨0, wAt ws 5, wAt ws 1, g, sl, 0⟩) _ _ (un.trans (if_pos ⟨h4, h6⟩)) (same_mut (same_mut (same_new hdx _) hx) hx) ⟨x, rfl, dx, ?_⟩
    rw [upd_same]
    rfl
  obtain ⟨rfl, rfl, n1⟩ := hm
  refine w_cut (fun σ H' => σ = [some (.ref a), some (.int g), some (.int sl)] ∧ H = H' ∧ ¬ (ws.length = 7 ∧ wAt ws 4 = "steady")) ?_ (fun σ H' hm => ?_)
  · walk_at "rd"
    rw [lm]
    by_cases h7 : ws.length = 7
    case neg =>
      rw [decide_eq_false (fun z => h7 (by have := V.int.inj z; omega))]
      walk_at "rd"
      exact ⟨rfl, rfl, fun z => h7 z.1⟩
    rw [decide_eq_true (show V.int (ws.length : Int) = V.int 7 by rw [h7]; rfl)]
    walk_at "rd"
    refine w_ixL hS (at_nat (i := 4) rfl (wAt_at (by omega))) ?_
    walk_at "rd"
    by_cases h4 : wAt ws 4 = "steady"
    case neg =>
      rw [decide_eq_false (fun z => h4 (V.str.inj z))]
      walk_at "rd"
      exact ⟨rfl, rfl, fun z => h4 z.2⟩
    rw [decide_eq_true (congrArg V.str h4)]
    walk_at "rd"
    refine w_mkaG L1 (by decide) ?_
    walk_at "rd"
    refine w_ixL hS (at_nat (i := 6) rfl (wAt_at (by omega))) ?_
    walk_at "rd"
    refine w_ixL hS (at_nat (i := 1) rfl (wAt_at (by omega))) ?_
    walk_at "rd"
    refine w_caG CM (by decide) ?_
    walk_at "rd"
    refine w_ixL hS (at_nat (i := 5) rfl (wAt_at (by omega))) ?_
    walk_at "rd"
    refine ⟨_, _, rfl, hl _ (wAt_mem (by omega)), fun m hm lm => ?_, fun no => ?_⟩
    case refine_2 =>
      refine qe ?_
      rw [un, if_neg (fun z => by omega), if_pos ⟨h7, .inl h4⟩, num_no no]
    have hm := num_yes hm lm
    walk_at "rd"
    refine fun x dx hx hdx ne => ⟨x, dx, _, _, _, _, _, rfl, upd_same, rfl, ?_⟩
    refine q (some ⟨1, wAt ws 6, wAt ws 1, g, sl, m⟩) _ _ ?_ (same_mut (same_mut (same_new hdx _) hx) hx) ⟨x, rfl, dx, ?_⟩
    · rw [un, if_neg (fun z => by omega), if_pos ⟨h7, .inl h4⟩, hm, if_pos h4]
    · rw [upd_same]
      rfl
  obtain ⟨rfl, rfl, n2⟩ := hm
  refine w_cut (fun σ H' => σ = [some (.ref a), some (.int g), some (.int sl)] ∧ H = H' ∧ ¬ (ws.length = 7 ∧ wAt ws 4 = "falls")) ?_ (fun σ H' hm => ?_)
  · walk_at "rd"
    rw [lm]
    by_cases h7 : ws.length = 7
    case neg =>
      rw [decide_eq_false (fun z => h7 (by have := V.int.inj z; omega))]
      walk_at "rd"
      exact ⟨rfl, rfl, fun z => h7 z.1⟩
    rw [decide_eq_true (show V.int (ws.length : Int) = V.int 7 by rw [h7]; rfl)]
    walk_at "rd"
    refine w_ixL hS (at_nat (i := 4) rfl (wAt_at (by omega))) ?_
    walk_at "rd"
    by_cases h4 : wAt ws 4 = "falls"
    case neg =>
      rw [decide_eq_false (fun z => h4 (V.str.inj z))]
      walk_at "rd"
      exact ⟨rfl, rfl, fun z => h4 z.2⟩
    rw [decide_eq_true (congrArg V.str h4)]
    walk_at "rd"
    refine w_mkaG L2 (by decide) ?_
    walk_at "rd"
    refine w_ixL hS (at_nat (i := 6) rfl (wAt_at (by omega))) ?_
    walk_at "rd"
    refine w_ixL hS (at_nat (i := 1) rfl (wAt_at (by omega))) ?_
    walk_at "rd"
    refine w_caG CM (by decide) ?_
    walk_at "rd"
    refine w_ixL hS (at_nat (i := 5) rfl (wAt_at (by omega))) ?_
    walk_at "rd"
    refine ⟨_, _, rfl, hl _ (wAt_mem (by omega)), fun m hm lm => ?_, fun no => ?_⟩
    case refine_2 =>
      refine qe ?_
      rw [un, if_neg (fun z => by omega), if_pos ⟨h7, .inr h4⟩, num_no no]
    have hm := num_yes hm lm
    walk_at "rd"
    refine fun x dx hx hdx ne => ⟨x, dx, _, _, _, _, _, rfl, upd_same, rfl, ?_⟩
    refine q (some ⟨2, wAt ws 6, wAt ws 1, g, sl, m⟩) _ _ ?_ (same_mut (same_mut (same_new hdx _) hx) hx) ⟨x, rfl, dx, ?_⟩
    · rw [un, if_neg (fun z => by omega), if_pos ⟨h7, .inr h4⟩, hm, if_neg (fun z => by rw [z] at h4; exact absurd (congrArg tl h4) (by decide))]
    · rw [upd_same]
      rfl
  obtain ⟨rfl, rfl, n3⟩ := hm
  walk_at "rd"
  refine q none .non _ ?_ (Same.refl _) rfl
  rw [un, if_neg n1, if_neg]
  rintro ⟨h7, h4 | h4⟩
  · exact n2 ⟨h7, h4⟩
  · exact n3 ⟨h7, h4⟩
theorem ok_minder_by {cls : Nat → Addr} {CN f : Addr} {fd : FuncData} (F : Fun K "minder_by" "minder_by" s_minder_by f fd) (T : Bt mg) (kc : KdC K cls) (CM : CalG P w K mg base "number_in" 1 ["text", "most"] [.int 1000000] (spNum CN))
    (L3 : MakG P w K mg base "Minder" (cls 3) 2 ["self", "name", "keep", "most", "span"] [] (spMinder K (cls 3))) (L4 : MakG P w K mg base "AllMinder" (cls 4) 2 ["self", "name", "keep", "most", "span"] [] (spMinder K (cls 4)))
    (L5 : MakG P w K mg base "RestMinder" (cls 5) 2 ["self", "name", "keep", "most", "span"] [] (spMinder K (cls 5))) : FnG P w K mg base 5 f fd ["words"] (spBy K cls CN minderR) := by
  refine okG F sc_minder_by (fun vs H Q E h => ?_) (fun cdv A outer s H vs Q E calm_ pn_ hr h => ?_)
  · obtain ⟨a, ws, rfl, _⟩ := h
    rfl
  obtain ⟨a, ws, rfl, hS, l6, hl, qe, q⟩ := h
  refine ⟨_, (pss_cons (ps_set (i := 1) sc_minder_by.nd rfl (Or.inl rfl) (pe_caG (P := P) (w := w) (K := K) (mg := mg) (base := base) ⟨rfl, rfl, rfl, rfl, rfl⟩ hr rfl (pa_cons (pe_ix (kIxL (K := K) rfl) (pv 0) pe_int (fun _ _ => rfl)) pa_nil)))
    (pss_cons (ps_set (i := 2) sc_minder_by.nd rfl (Or.inl rfl) (pe_caG (P := P) (w := w) (K := K) (mg := mg) (base := base) ⟨rfl, rfl, rfl, rfl, rfl⟩ hr rfl (pa_cons (pe_ix (kIxL (K := K) rfl) (pv 0) pe_int (fun _ _ => rfl)) pa_nil)))
    (pss_cons (ps_if (pt_cmpR op_eq (pv 2) pe_int (nomark _)) (pss_one (ps_ret pe_non)) pss_nil)
    (pss_cons (ps_if (pt_cmpR op_eq (pe_ix (kIxL (K := K) rfl) (pv 0) pe_int (fun _ _ => rfl)) pe_str (nomark _)) (pss_one (ps_ret (pe_mkaG (P := P) (w := w) (K := K) (mg := mg) (base := base) ⟨rfl, rfl, rfl, rfl, rfl⟩ hr rfl (pa_cons (pe_ix (kIxL (K := K) rfl) (pv 0) pe_int (fun _ _ => rfl)) (pa_cons (pe_ix (kIxL (K := K) rfl) (pv 0) pe_int (fun _ _ => rfl)) (pa_cons (pv 1) (pa_cons (pv 2) pa_nil))))))) pss_nil)
    (pss_cons (ps_if (pt_cmpR op_eq (pe_ix (kIxL (K := K) rfl) (pv 0) pe_int (fun _ _ => rfl)) pe_str (nomark _)) (pss_one (ps_ret (pe_mkaG (P := P) (w := w) (K := K) (mg := mg) (base := base) ⟨rfl, rfl, rfl, rfl, rfl⟩ hr rfl (pa_cons (pe_ix (kIxL (K := K) rfl) (pv 0) pe_int (fun _ _ => rfl)) (pa_cons (pe_ix (kIxL (K := K) rfl) (pv 0) pe_int (fun _ _ => rfl)) (pa_cons (pv 1) (pa_cons (pv 2) pa_nil))))))) pss_nil)
    (pss_cons (ps_if (pt_cmpR op_eq (pe_ix (kIxL (K := K) rfl) (pv 0) pe_int (fun _ _ => rfl)) pe_str (nomark _)) (pss_one (ps_ret (pe_mkaG (P := P) (w := w) (K := K) (mg := mg) (base := base) ⟨rfl, rfl, rfl, rfl, rfl⟩ hr rfl (pa_cons (pe_ix (kIxL (K := K) rfl) (pv 0) pe_int (fun _ _ => rfl)) (pa_cons (pe_ix (kIxL (K := K) rfl) (pv 0) pe_int (fun _ _ => rfl)) (pa_cons (pv 1) (pa_cons (pv 2) pa_nil))))))) pss_nil)
    (pss_one (ps_ret pe_non)))))))), ?_⟩
  walk_at "rd"
  refine w_caG CM (by decide) ?_
  walk_at "rd"
  refine w_ixL hS (at_nat (i := 3) rfl (wAt_at (by omega))) ?_
  walk_at "rd"
  refine ⟨_, _, rfl, hl _ (wAt_mem (by omega)), fun m hm lm => ?_, fun no => ?_⟩
  case refine_2 =>
    refine qe ?_
    unfold minderR
    rw [num_no no]
  have hm := num_yes hm lm
  show gName 1 (V.int m) _ _ _
  walk_at "rd"
  refine w_caG CM (by decide) ?_
  walk_at "rd"
  refine w_ixL hS (at_nat (i := 4) rfl (wAt_at (by omega))) ?_
  walk_at "rd"
  refine ⟨_, _, rfl, hl _ (wAt_mem (by omega)), fun sp hs ls => ?_, fun no => ?_⟩
  case refine_2 =>
    refine qe ?_
    unfold minderR
    rw [hm, num_no no]
  have hs := num_yes hs ls
  show gName 2 (V.int sp) _ _ _
  walk_at "rd"
  have un : minderR ws = if sp = 0 then some none
      else if wAt ws 2 = "one" then some (some ⟨3, wAt ws 5, wAt ws 1, m, sp, 0⟩)
      else if wAt ws 2 = "all" then some (some ⟨4, wAt ws 5, wAt ws 1, m, sp, 0⟩)
      else if wAt ws 2 = "rest" then some (some ⟨5, wAt ws 5, wAt ws 1, m, sp, 0⟩)
      else some none := by
    unfold minderR
    rw [hm, hs]
  walk_at "if"
  · rename_i c
    have c := V.int.inj c
    walk_at "rd"
    exact q none .non _ (un.trans (if_pos c)) (Same.refl _) rfl
  rename_i c0
  have c0 : ¬ sp = 0 := fun e => c0 (congrArg V.int e)
  walk_at "rd"
  refine w_ixL hS (at_nat (i := 2) rfl (wAt_at (by omega))) ?_
  walk_at "rd"
  walk_at "if"
  · rename_i c
    have c := V.str.inj c
    walk_at "rd"
    refine w_mkaG L3 (by decide) ?_
    walk_at "rd"
    refine w_ixL hS (at_nat (i := 5) rfl (wAt_at (by omega))) ?_
    walk_at "rd"
    refine w_ixL hS (at_nat (i := 1) rfl (wAt_at (by omega))) ?_
    walk_at "rd"
    refine fun x dx hx hdx ne => ⟨x, dx, _, _, _, _, rfl, upd_same, rfl, ?_⟩
    refine q (some ⟨3, wAt ws 5, wAt ws 1, m, sp, 0⟩) _ _ ?_ (same_mut (same_mut (same_new hdx _) hx) hx) ⟨x, rfl, dx, ?_⟩
    · rw [un, if_neg c0, if_pos c]
    · rw [upd_same]
      rfl
  rename_i c3
  have c3 : ¬ wAt ws 2 = "one" := fun e => c3 (congrArg V.str e)
  walk_at "rd"
  refine w_ixL hS (at_nat (i := 2) rfl (wAt_at (by omega))) ?_
  walk_at "rd"
  walk_at "if"
  · rename_i c
    have c := V.str.inj c
    walk_at "rd"
    refine w_mkaG L4 (by decide) ?_
    walk_at "rd"
    refine w_ixL hS (at_nat (i := 5) rfl (wAt_at (by omega))) ?_
    walk_at "rd"
    refine w_ixL hS (at_nat (i := 1) rfl (wAt_at (by omega))) ?_
    walk_at "rd"
    refine fun x dx hx hdx ne => ⟨x, dx, _, _, _, _, rfl, upd_same, rfl, ?_⟩
    refine q (some ⟨4, wAt ws 5, wAt ws 1, m, sp, 0⟩) _ _ ?_ (same_mut (same_mut (same_new hdx _) hx) hx) ⟨x, rfl, dx, ?_⟩
    · rw [un, if_neg c0, if_neg c3, if_pos c]
    · rw [upd_same]
      rfl
  rename_i c4
  have c4 : ¬ wAt ws 2 = "all" := fun e => c4 (congrArg V.str e)
  walk_at "rd"
  refine w_ixL hS (at_nat (i := 2) rfl (wAt_at (by omega))) ?_
  walk_at "rd"
  walk_at "if"
  · rename_i c
    have c := V.str.inj c
    walk_at "rd"
    refine w_mkaG L5 (by decide) ?_
    walk_at "rd"
    refine w_ixL hS (at_nat (i := 5) rfl (wAt_at (by omega))) ?_
    walk_at "rd"
    refine w_ixL hS (at_nat (i := 1) rfl (wAt_at (by omega))) ?_
    walk_at "rd"
    refine fun x dx hx hdx ne => ⟨x, dx, _, _, _, _, rfl, upd_same, rfl, ?_⟩
    refine q (some ⟨5, wAt ws 5, wAt ws 1, m, sp, 0⟩) _ _ ?_ (same_mut (same_mut (same_new hdx _) hx) hx) ⟨x, rfl, dx, ?_⟩
    · rw [un, if_neg c0, if_neg c3, if_neg c4, if_pos c]
    · rw [upd_same]
      rfl
  rename_i c5
  have c5 : ¬ wAt ws 2 = "rest" := fun e => c5 (congrArg V.str e)
  walk_at "rd"
  refine q none .non _ ?_ (Same.refl _) rfl
  rw [un, if_neg c0, if_neg c3, if_neg c4, if_neg c5]
def spShapeBy (K : PySem.W.Frag) (cls : Nat → Addr) : Sp := fun vs H Q _ => ∃ (a : Addr) (ws : List Str), vs = [.ref a] ∧ SqL K H a (ws.map V.str) ∧ (∀ x ∈ ws, x.length ≤ 640) ∧ shapeM ws ≠ none ∧ ∀ v H', Same H H' → ShV cls (shapeM ws) v H' → Q v H'
theorem in_keeps {wd : Str} : inV (.str wd) (keeps3.map V.str) = decide (wd ∈ keeps3) := by
  rw [Bool.eq_iff_iff, decide_eq_true_eq]
  unfold inV
  rw [List.any_map, List.any_eq_true]
  constructor
  · rintro ⟨y, hy, e⟩
    have e : decide (y = wd) = true := e
    rw [← of_decide_eq_true e]
    exact hy
  · exact fun h => ⟨wd, h, decide_eq_true rfl⟩
theorem ok_shape_by {cls : Nat → Addr} {CN f t : Addr} {fd : FuncData} (F : Fun K "shape_by" "shape_by" s_shape_by f fd) (T : Bt mg) (hg : mg "KEEPS" = some (.ref t)) (sK : ∀ H : Hp, SqT K H t (keeps3.map V.str))
    (CF : CalG P w K mg base "fit_name" 1 ["text"] [] spFit) (CL : CalG P w K mg base "leaf_by" 5 ["words"] [] (spBy K cls CN leafR)) (CD : CalG P w K mg base "minder_by" 5 ["words"] [] (spBy K cls CN minderR)) :
    FnG P w K mg base 6 f fd ["words"] (spShapeBy K cls) := by
  refine okG F sc_shape_by (fun vs H Q E h => ?_) (fun cdv A outer s H vs Q E calm_ pn_ hr h => ?_)
  · obtain ⟨a, ws, rfl, _⟩ := h
    rfl
  obtain ⟨a, ws, rfl, hS, hl, hns, q⟩ := h
  have lm := List.length_map (as := ws) V.str
  refine ⟨_, (C8.pss_cut (ps_if (PW.pt (pw_or (pt_cmpR op_lt (pe_callB (kLenL (K := K) rfl) (by rfl) T.len (by decide +kernel) (pa_cons (pv 0) pa_nil)) pe_int (nomark _)) (pw_or (pt_cmpR (kNotIn (K := K) rfl) (pe_ix (kIxL (K := K) rfl) (pv 0) pe_int (fun _ _ => rfl)) (pe_gv (mg := mg) rfl rfl) rfl) (pw_or1 (pt_not (pt_val (pe_caG (P := P) (w := w) (K := K) (mg := mg) (base := base) ⟨rfl, rfl, rfl, rfl, rfl⟩ hr rfl (pa_cons (pe_ix (kIxL (K := K) rfl) (pv 0) (pe_un un_neg pe_int) (fun _ _ => rfl)) pa_nil)))))))) (pss_one (ps_ret pe_non)) pss_nil)
    (pss_cons (ps_try_thru (pss_one (ps_if (pt_cmpR op_eq (pe_ix (kIxL (K := K) rfl) (pv 0) pe_int (fun _ _ => rfl)) pe_str (nomark _)) (pss_one (ps_set (i := 1) sc_shape_by.nd rfl (Or.inl rfl) (pe_caG (P := P) (w := w) (K := K) (mg := mg) (base := base) ⟨rfl, rfl, rfl, rfl, rfl⟩ hr rfl (pa_cons (pv 0) pa_nil)))) (pss_one (ps_if (PW.pt (pw_and (pt_cmpR op_eq (pe_ix (kIxL (K := K) rfl) (pv 0) pe_int (fun _ _ => rfl)) pe_str (nomark _)) (pw_and1 (pt_cmpR op_eq (pe_callB (kLenL (K := K) rfl) (by rfl) T.len (by decide +kernel) (pa_cons (pv 0) pa_nil)) pe_int (nomark _))))) (pss_one (ps_set (i := 1) sc_shape_by.nd rfl (Or.inl rfl) (pe_caG (P := P) (w := w) (K := K) (mg := mg) (base := base) ⟨rfl, rfl, rfl, rfl, rfl⟩ hr rfl (pa_cons (pv 0) pa_nil)))) (pss_one (ps_set (i := 1) sc_shape_by.nd rfl (Or.inl rfl) pe_non)))))) pss_nil)
    (pss_one (ps_ret (pv 1))))), ?_⟩
  have none_ : shapeM ws = none → Q .non H := fun e => q _ _ (Same.refl _) (by rw [e]; rfl)
  walk_at "rd"
  refine w_cut (fun σ H' => σ = [some (.ref a), none] ∧ H = H' ∧ 6 ≤ ws.length ∧ wAt ws 1 ∈ keeps3 ∧ fitL (tl (wAt ws (ws.length - 1))) = true) ?_ (fun σ H' hm => ?_)
  · walk_at "rd"
    rw [lm]
    by_cases c6 : ws.length < 6
    · rw [decide_eq_true (show (ws.length : Int) < 6 by omega)]
      walk_at "rd"
      exact none_ (if_pos (.inl c6))
    rw [decide_eq_false (show ¬ (ws.length : Int) < 6 by omega)]
    walk_at "rd"
    refine w_ixL hS (at_nat (i := 1) rfl (wAt_at (by omega))) ?_
    walk_at "rd"
    refine w_gv (v := .ref t) hg rfl ?_
    walk_at "rd"
    refine w_ninT (sK _) rfl rfl ?_
    rw [in_keeps]
    walk_at "rd"
    by_cases ck : wAt ws 1 ∈ keeps3
    case neg =>
      rw [decide_eq_false ck, Bool.not_false]
      walk_at "rd"
      exact none_ (if_pos (.inr (.inl ck)))
    rw [decide_eq_true ck, Bool.not_true]
    walk_at "rd"
    refine w_caG CF (by decide) ?_
    walk_at "rd"
    have hlast : atI (ws.map V.str) (-1) = some (.str (wAt ws (ws.length - 1))) := by
      have hne : ws ≠ [] := fun e => by rw [e] at c6; exact c6 (by decide)
      have e1 : wAt ws (ws.length - 1) = ws.getLast hne := by
        unfold wAt
        rw [List.getD_eq_getElem?_getD, List.getLast_eq_getElem, List.getElem?_eq_getElem (by omega)]
        rfl
      rw [e1]
      have e2 := congrArg (List.map V.str) (List.dropLast_concat_getLast hne).symm
      rw [e2, List.map_append]
      exact atI_last _ _
    refine w_ixL hS hlast ?_
    walk_at "rd"
    refine ⟨_, rfl, by have := hl _ (wAt_mem (ws := ws) (i := ws.length - 1) (by omega)); omega, ?_⟩
    walk_at "rd"
    by_cases cf : fitL (tl (wAt ws (ws.length - 1))) = true
    case neg =>
      rw [Bool.eq_false_iff.mpr cf, Bool.not_false]
      walk_at "rd"
      exact none_ (if_pos (.inr (.inr (Bool.eq_false_iff.mpr cf))))
    rw [cf, Bool.not_true]
    walk_at "rd"
    exact ⟨rfl, rfl, by omega, ck, rfl⟩
  obtain ⟨rfl, rfl, h6, hk, hf⟩ := hm
  have un : shapeM ws = if wAt ws 0 = "leaf" then (leafR ws).join else if wAt ws 0 = "minder" ∧ ws.length = 6 then (minderR ws).join else none := by
    unfold shapeM
    rw [if_neg]
    rintro (z | z | z)
    · omega
    · exact z hk
    · rw [hf] at z
      cases z
  walk_at "rd"
  refine w_thru ?_
  walk_at "rd"
  refine w_ixL hS (at_nat (i := 0) rfl (wAt_at (by omega))) ?_
  walk_at "rd"
  walk_at "if"
  · rename_i c
    have c := V.str.inj c
    rw [if_pos c] at un
    walk_at "rd"
    refine w_caG CL (by decide) ?_
    walk_at "rd"
    refine ⟨a, ws, rfl, hS, h6, hl, fun no => ?_, fun r v H' hr' s1 hv => ?_⟩
    · exact hns (by rw [un, no]; rfl)
    · walk_at "rd"
      exact q v _ s1 (by rw [un, hr']; exact hv)
  rename_i c
  have c : ¬ wAt ws 0 = "leaf" := fun e => c (congrArg V.str e)
  rw [if_neg c] at un
  walk_at "rd"
  refine w_ixL hS (at_nat (i := 0) rfl (wAt_at (by omega))) ?_
  walk_at "rd"
  have other : ¬ (wAt ws 0 = "minder" ∧ ws.length = 6) → Q .non H := fun h => none_ (by rw [un, if_neg h])
  by_cases cm : wAt ws 0 = "minder"
  case neg =>
    rw [decide_eq_false (fun z => cm (V.str.inj z))]
    walk_at "rd"
    exact other fun z => cm z.1
  rw [decide_eq_true (congrArg V.str cm)]
  walk_at "rd"
  rw [lm]
  by_cases c6 : ws.length = 6
  case neg =>
    rw [decide_eq_false (fun z => c6 (by have := V.int.inj z; omega))]
    walk_at "rd"
    exact other fun z => c6 z.2
  rw [decide_eq_true (show V.int (ws.length : Int) = V.int 6 by rw [c6]; rfl)]
  rw [if_pos ⟨cm, c6⟩] at un
  walk_at "rd"
  refine w_caG CD (by decide) ?_
  walk_at "rd"
  refine ⟨a, ws, rfl, hS, h6, hl, fun no => ?_, fun r v H' hr' s1 hv => ?_⟩
  · exact hns (by rw [un, no]; rfl)
  · walk_at "rd"
    exact q v _ s1 (by rw [un, hr']; exact hv)
end
end Mn

namespace Mn
open PySem PySem.Spec PyProof.Rows L2 TL
/-! ### a text split at one sign -/
def splitL (s : Nat) : List Nat → List (List Nat)
  | [] => [[]]
  | c :: r => if c = s then [] :: splitL s r else match splitL s r with
    | [] => [[c]]
    | p :: ps => (c :: p) :: ps
theorem splitL_ne (s : Nat) : ∀ l, splitL s l ≠ []
  | [] => by simp [splitL]
  | c :: r => by
    unfold splitL
    split
    · simp
    · split <;> simp
theorem splitL_hit (s : Nat) (r : List Nat) : splitL s (s :: r) = [] :: splitL s r := by
  rw [splitL, if_pos rfl]
theorem splitL_miss {s c : Nat} (h : c ≠ s) (r : List Nat) : ∃ p ps, splitL s r = p :: ps ∧ splitL s (c :: r) = (c :: p) :: ps := by
  cases e : splitL s r with
  | nil => exact absurd e (splitL_ne s r)
  | cons p ps => exact ⟨p, ps, rfl, by rw [splitL, if_neg h, e]⟩
theorem splitL_free {s : Nat} : ∀ {l : List Nat}, s ∉ l → splitL s l = [l]
  | [], _ => rfl
  | c :: r, h => by
    obtain ⟨p, ps, e1, e2⟩ := splitL_miss (s := s) (c := c) (fun e => h (e ▸ List.mem_cons_self)) r
    rw [splitL_free (fun m => h (List.mem_cons_of_mem _ m))] at e1
    injection e1 with a b
    rw [e2, ← a, ← b]
theorem splitL_app (s : Nat) : ∀ (a b : List Nat), splitL s (a ++ s :: b) = splitL s a ++ splitL s b
  | [], b => splitL_hit s b
  | c :: r, b => by
    by_cases h : c = s
    · subst h
      rw [List.cons_append, splitL_hit, splitL_hit, splitL_app c r b]
      rfl
    · obtain ⟨p, ps, e1, e2⟩ := splitL_miss h r
      obtain ⟨q, qs, e3, e4⟩ := splitL_miss h (r ++ s :: b)
      rw [splitL_app s r b, e1] at e3
      injection e3 with a1 a2
      rw [List.cons_append, e4, e2, ← a1, ← a2]
      rfl
theorem splitL_len (s : Nat) : ∀ (l p : List Nat), p ∈ splitL s l → p.length ≤ l.length
  | [], p, h => by
    rw [splitL, List.mem_singleton] at h
    rw [h]
    exact Nat.le_refl _
  | c :: r, p, h => by
    by_cases e : c = s
    · subst e
      rw [splitL_hit] at h
      rcases List.mem_cons.mp h with h | h
      · rw [h]; exact Nat.zero_le _
      · exact Nat.le_succ_of_le (splitL_len c r p h)
    · obtain ⟨q, qs, e1, e2⟩ := splitL_miss e r
      rw [e2] at h
      rcases List.mem_cons.mp h with h | h
      · rw [h]
        exact Nat.succ_le_succ (splitL_len s r q (by rw [e1]; exact List.mem_cons_self))
      · exact Nat.le_succ_of_le (splitL_len s r p (by rw [e1]; exact List.mem_cons_of_mem _ h))
theorem splitL_free_of (s : Nat) : ∀ (l p : List Nat), p ∈ splitL s l → s ∉ p
  | [], p, h => by
    rw [splitL, List.mem_singleton] at h
    rw [h]
    exact List.not_mem_nil
  | c :: r, p, h => by
    by_cases e : c = s
    · subst e
      rw [splitL_hit] at h
      rcases List.mem_cons.mp h with h | h
      · rw [h]; exact List.not_mem_nil
      · exact splitL_free_of c r p h
    · obtain ⟨q, qs, e1, e2⟩ := splitL_miss e r
      rw [e2] at h
      rcases List.mem_cons.mp h with h | h
      · rw [h]
        intro m
        rcases List.mem_cons.mp m with m | m
        · exact e m.symm
        · exact splitL_free_of s r q (by rw [e1]; exact List.mem_cons_self) m
      · exact splitL_free_of s r p (by rw [e1]; exact List.mem_cons_of_mem _ h)
theorem spl_is (s : Nat) : ∀ (l acc p : List Nat) (ps : List (List Nat)), splitL s l = p :: ps → spl [s] 0 acc l = (acc ++ p) :: ps
  | [], acc, p, ps, h => by
    rw [splitL] at h
    injection h with a b
    rw [spl_nil, ← a, ← b, List.append_nil]
  | c :: r, acc, p, ps, h => by
    by_cases e : c = s
    · subst e
      rw [splitL_hit] at h
      injection h with a b
      rw [spl_hit (by simp [pre])]
      cases e2 : splitL c r with
      | nil => exact absurd e2 (splitL_ne c r)
      | cons q qs =>
        have := spl_is c r [] q qs e2
        rw [List.nil_append] at this
        rw [show ([c] : List Nat).length - 1 = 0 from rfl, this, ← a, ← b, e2, List.append_nil]
    · obtain ⟨q, qs, e1, e2⟩ := splitL_miss e r
      rw [e2] at h
      injection h with a b
      rw [spl_miss (pre_of_head [] r e), spl_is s r (acc ++ [c]) q qs e1, ← a, ← b]
      simp
theorem split_is {x y : Str} {s : Nat} (ey : tl y = [s]) (hs : s < 256) : (Txt.split x y).map tl = splitL s (tl x) := by
  rw [split_spl x y (by rw [ey]; simp) (kind_ok (by
    have : y = ⟨#[s]⟩ := ext_tl ey
    rw [this]
    simpa using hs)), ey]
  cases e : splitL s (tl x) with
  | nil => exact absurd e (splitL_ne s _)
  | cons p ps =>
    rw [spl_is s (tl x) [] p ps e, List.nil_append]
/-- the words between blanks -/
def wordsL (l : List Nat) : List (List Nat) := (splitL 32 l).filter fun p => decide (p ≠ [])
theorem wordsL_app (a b : List Nat) : wordsL (a ++ 32 :: b) = wordsL a ++ wordsL b := by
  unfold wordsL
  rw [splitL_app, List.filter_append]
theorem wordsL_nil : wordsL [] = [] := rfl
theorem wordsL_word {a : List Nat} (h : 32 ∉ a) (h0 : a ≠ []) : wordsL a = [a] := by
  unfold wordsL
  rw [splitL_free h, List.filter_cons_of_pos (by simpa using h0)]
  rfl
theorem wordsL_blanks : ∀ (n : Nat) (l : List Nat), wordsL (List.replicate n 32 ++ l) = wordsL l
  | 0, l => rfl
  | n + 1, l => by
    rw [List.replicate_succ, List.cons_append]
    have := wordsL_app [] (List.replicate n 32 ++ l)
    rw [List.nil_append, wordsL_nil, List.nil_append] at this
    rw [this, wordsL_blanks n l]
theorem wordsL_only (n : Nat) : wordsL (List.replicate n 32) = [] := by
  have := wordsL_blanks n []
  rw [List.append_nil] at this
  exact this
theorem wordsL_tail (l : List Nat) : ∀ n : Nat, wordsL (l ++ List.replicate n 32) = wordsL l
  | 0 => by rw [List.replicate_zero, List.append_nil]
  | n + 1 => by rw [List.replicate_succ, wordsL_app, wordsL_only, List.append_nil]
/-- words with so many blanks between -/
theorem wordsL_join (g : Nat) : ∀ ws : List (List Nat), (∀ p ∈ ws, 32 ∉ p ∧ p ≠ []) → wordsL (joinL (List.replicate (g + 1) 32) ws) = ws
  | [], _ => rfl
  | [p], h => wordsL_word (h p List.mem_cons_self).1 (h p List.mem_cons_self).2
  | p :: q :: r, h => by
    have ih := wordsL_join g (q :: r) fun z hz => h z (List.mem_cons_of_mem _ hz)
    show wordsL (p ++ (List.replicate (g + 1) 32 ++ joinL (List.replicate (g + 1) 32) (q :: r))) = _
    rw [List.replicate_succ, List.cons_append, wordsL_app, wordsL_blanks, wordsL_word (h p List.mem_cons_self).1 (h p List.mem_cons_self).2]
    rw [← List.replicate_succ, ih]
    rfl
end Mn

namespace Mn
open PySem PySem.Spec PyProof.Rows L2 TL
/-! ### a tree's text, row by row -/
def wordsM (row : Str) : List Str := (Txt.split row " ").filter fun x => decide (x ≠ "")
def blanksM (row : Str) : Nat := row.length - (Txt.lstripChars row " ").length
inductive RS where
  | skip
  | bad
  | many
  | add (s : Shp) (e : Int)
def rowM (D : TreeD) (row : Str) : RS :=
  if wordsM row = [] ∨ Txt.startswith (wAt (wordsM row) 0) "#" = true then .skip else
  match shapeM (wordsM row) with
  | none => .bad
  | some s =>
    if 0 < blanksM row % 2 ∨ 8 < blanksM row / 2 ∨ elderM D ((blanksM row / 2 : Nat) : Int) = -2 ∨ s.name ∈ D.shs.map Shp.name then .bad
    else if elderM D ((blanksM row / 2 : Nat) : Int) = -1 ∧ s.kind < 3 then .bad
    else if D.n = 64 then .many
    else .add s (elderM D ((blanksM row / 2 : Nat) : Int))
inductive RR where
  | ok (D : TreeD)
  | bad (k : Nat)
  | many
  | top
def readGo : List Str → TreeD → Nat → RR
  | [], D, _ => if D.n = 0 then .top else .ok D
  | r :: rs, D, k => match rowM D r with
    | .skip => readGo rs D (k + 1)
    | .bad => .bad (k + 1)
    | .many => .many
    | .add s e => readGo rs (D.add s e) (k + 1)
def rowsM (x : Str) : List Str := Txt.split x "\n"
def readM (x : Str) : RR := readGo (rowsM x) .nil 0
/-! what is read is well formed -/
theorem numOf_nn {x : Str} {v : Int} (h : numOf x = some v) : 0 ≤ v := by
  unfold numOf at h
  split at h
  · rw [← Option.some.inj h]
    omega
  · cases h
theorem numM_ok {x : Str} {v : Int} (h : numM x = some v) : 0 ≤ v ∧ v ≤ 1000000 := by
  unfold numM at h
  cases e : numOf x with
  | none => rw [e] at h; cases h
  | some u =>
    rw [e] at h
    dsimp only at h
    split at h
    · obtain rfl := Option.some.inj h
      exact ⟨numOf_nn e, by assumption⟩
    · cases h
theorem okS_mk {k : Nat} {nm kp : Str} {a b m : Int} (h1 : k < 6) (h2 : kp ∈ keeps3) (h3 : fitL (tl nm) = true) (h4 : 0 ≤ a ∧ a ≤ 1000000) (h5 : 0 ≤ b ∧ b ≤ 1000000) (h6 : 0 ≤ m ∧ m ≤ 1000000) (h7 : k ≠ 1 → k ≠ 2 → m = 0) (h8 : 3 ≤ k → 1 ≤ b) : OkS ⟨k, nm, kp, a, b, m⟩ := ⟨h1, h2, h3, h4, h5, h6, h7, h8⟩
theorem shape_ok {ws : List Str} {s : Shp} (h : shapeM ws = some s) : OkS s := by
  unfold shapeM at h
  split at h
  · cases h
  rename_i c
  simp only [not_or, Bool.not_eq_false, Decidable.not_not] at c
  obtain ⟨c1, c2, c3⟩ := c
  split at h
  · unfold leafR at h
    cases e1 : numM (wAt ws 2) with
    | none => rw [e1] at h; cases h
    | some g =>
      cases e2 : numM (wAt ws 3) with
      | none => rw [e1, e2] at h; cases h
      | some sl =>
        rw [e1, e2] at h
        dsimp only at h
        split at h
        · rename_i d
          obtain rfl := Option.some.inj h
          rw [d.2] at c3
          exact okS_mk (by decide) c2 c3 (numM_ok e1) (numM_ok e2) ⟨by decide, by decide⟩ (fun _ _ => rfl) (fun z => absurd z (by decide))
        · split at h
          · rename_i d
            cases e3 : numM (wAt ws 5) with
            | none => rw [e3] at h; cases h
            | some m =>
              rw [e3] at h
              obtain rfl := Option.some.inj h
              rw [d.1] at c3
              refine ⟨?_, c2, c3, numM_ok e1, numM_ok e2, numM_ok e3, fun z1 z2 => ?_, fun z => ?_⟩
              · dsimp only; split <;> decide
              · dsimp only at z1 z2; split at z1 <;> simp_all
              · dsimp only at z; split at z <;> exact absurd z (by decide)
          · cases h
  · split at h
    · rename_i d
      rw [d.2] at c3
      unfold minderR at h
      cases e1 : numM (wAt ws 3) with
      | none => rw [e1] at h; cases h
      | some m =>
        cases e2 : numM (wAt ws 4) with
        | none => rw [e1, e2] at h; cases h
        | some sp =>
          rw [e1, e2] at h
          dsimp only at h
          have b := numM_ok e2
          split at h
          · cases h
          · rename_i d0
            have b1 : 1 ≤ sp := by omega
            split at h
            · obtain rfl := Option.some.inj h
              exact okS_mk (by decide) c2 c3 (numM_ok e1) b ⟨by decide, by decide⟩ (fun _ _ => rfl) (fun _ => b1)
            · split at h
              · obtain rfl := Option.some.inj h
                exact okS_mk (by decide) c2 c3 (numM_ok e1) b ⟨by decide, by decide⟩ (fun _ _ => rfl) (fun _ => b1)
              · split at h
                · obtain rfl := Option.some.inj h
                  exact okS_mk (by decide) c2 c3 (numM_ok e1) b ⟨by decide, by decide⟩ (fun _ _ => rfl) (fun _ => b1)
                · cases h
    · cases h
theorem elder_cases (D : TreeD) (d : Nat) (W : D.WF) : (elderM D (d : Int) = -1 ∧ D.n = 0 ∧ d = 0) ∨ elderM D (d : Int) = -2 ∨ ∃ j : Nat, elderM D (d : Int) = (j : Int) ∧ j < D.n ∧ D.dp j + 1 = d ∧ 3 ≤ (D.sh j).kind := by
  unfold elderM
  by_cases h0 : (d : Int) = 0
  · rw [if_pos h0]
    by_cases hn : D.n = 0
    · rw [if_pos hn]
      exact .inl ⟨rfl, hn, by omega⟩
    · rw [if_neg hn]
      exact .inr (.inl rfl)
  · rw [if_neg h0]
    by_cases hn : D.n = 0
    · rw [if_pos hn]
      exact .inr (.inl rfl)
    rw [if_neg hn]
    have key : ∀ (f : Nat) (j : Int), -1 ≤ j → j < D.n → -1 ≤ climb D (d : Int) f j ∧ climb D (d : Int) f j < D.n := fun f => by
      induction f with
      | zero => exact fun j h1 h2 => ⟨h1, h2⟩
      | succ f ih =>
        intro j h1 h2
        unfold climb
        split
        · rename_i c
          have := W.e_lt (i := j.toNat) (by omega)
          exact ih _ (by omega) (by omega)
        · exact ⟨h1, h2⟩
    have k2 := key (D.n + 1) ((D.n : Int) - 1) (by omega) (by omega)
    generalize climb D (d : Int) (D.n + 1) ((D.n : Int) - 1) = j at k2
    by_cases hj : j < 0
    · rw [if_pos hj]
      exact .inr (.inl rfl)
    rw [if_neg hj]
    by_cases c : (D.dp j.toNat : Int) ≠ d - 1 ∨ (D.sh j.toNat).kind < 3
    · rw [if_pos c]
      exact .inr (.inl rfl)
    · rw [if_neg c]
      rw [not_or, Decidable.not_not] at c
      exact .inr (.inr ⟨j.toNat, by omega, by omega, by omega, by omega⟩)
theorem getD_snoc_lt {α : Type} (l : List α) (a d : α) {i : Nat} (h : i < l.length) : (l ++ [a]).getD i d = l.getD i d := by
  rw [List.getD_eq_getElem?_getD, List.getD_eq_getElem?_getD, List.getElem?_append_left h]
theorem getD_snoc_eq {α : Type} (l : List α) (a d : α) : (l ++ [a]).getD l.length d = a := by
  rw [List.getD_eq_getElem?_getD, List.getElem?_append_right (Nat.le_refl _), Nat.sub_self]
  rfl
theorem WF_nil : TreeD.nil.WF := by
  refine ⟨rfl, rfl, fun i h => absurd h (Nat.not_lt_zero i), fun i h => absurd h (Nat.not_lt_zero i), List.nodup_nil, Nat.zero_le _, fun s h => absurd h List.not_mem_nil, fun i h => absurd h (Nat.not_lt_zero i), fun i h => absurd h (Nat.not_lt_zero i), fun h => absurd h (Nat.lt_irrefl 0)⟩
theorem WF_add {D : TreeD} (W : D.WF) {s : Shp} {d : Nat} (ok : OkS s) (hn : s.name ∉ D.shs.map Shp.name) (h64 : D.n ≠ 64) (h8 : d ≤ 8) {e : Int} (he : (e = -1 ∧ D.n = 0 ∧ d = 0 ∧ 3 ≤ s.kind) ∨ ∃ j : Nat, e = (j : Int) ∧ j < D.n ∧ D.dp j + 1 = d ∧ 3 ≤ (D.sh j).kind) : (D.add s e).WF := by
  have le := W.le
  have ld := W.ld
  have sz := W.sz
  have n' : (D.add s e).n = D.n + 1 := by show (D.shs ++ [s]).length = _; rw [List.length_append]; rfl
  have e_lt : ∀ i, i < D.n → (D.add s e).e i = D.e i := fun i h => getD_snoc_lt _ _ _ (by rw [le]; exact h)
  have e_eq : (D.add s e).e D.n = e := by have := getD_snoc_eq D.eld e (-1); rw [le] at this; exact this
  have d_lt : ∀ i, i < D.n → (D.add s e).dp i = D.dp i := fun i h => getD_snoc_lt _ _ _ (by rw [ld]; exact h)
  have d_eq : (D.add s e).dp D.n = d := by
    have h1 := getD_snoc_eq D.dps (if e < 0 then 0 else D.dp e.toNat + 1) 0
    rw [ld] at h1
    refine h1.trans ?_
    rcases he with ⟨rfl, _, rfl, _⟩ | ⟨j, rfl, _, hd, _⟩
    · rfl
    · rw [if_neg (by omega), Int.toNat_natCast, hd]
  have s_lt : ∀ i, i < D.n → (D.add s e).sh i = D.sh i := fun i h => getD_snoc_lt _ _ _ h
  have s_eq : (D.add s e).sh D.n = s := getD_snoc_eq D.shs s default
  refine ⟨?_, ?_, fun i h => ?_, fun i h => ?_, ?_, ?_, fun t ht => ?_, fun i h h0 => ?_, fun i h => ?_, fun h => ?_⟩
  · rw [n']; show (D.eld ++ [e]).length = _; rw [List.length_append, le]; rfl
  · rw [n']; show (D.dps ++ [_]).length = _; rw [List.length_append, ld]; rfl
  · by_cases hi : i < D.n
    · rw [e_lt i hi]; exact W.el i hi
    · have : i = D.n := by omega
      subst this
      rw [e_eq]
      rcases he with ⟨rfl, h1, _⟩ | ⟨j, rfl, h1, _⟩
      · exact .inl ⟨rfl, h1⟩
      · exact .inr ⟨by omega, by omega⟩
  · by_cases hi : i < D.n
    · have := W.el i hi
      rw [e_lt i hi, d_lt i hi, W.dp i hi]
      split
      · rfl
      · rw [d_lt _ (by omega)]
    · have : i = D.n := by omega
      subst this
      rw [e_eq, d_eq]
      rcases he with ⟨rfl, _, rfl, _⟩ | ⟨j, rfl, h1, hd, _⟩
      · rfl
      · rw [if_neg (by omega), Int.toNat_natCast, d_lt j h1, hd]
  · show ((D.shs ++ [s]).map Shp.name).Nodup
    rw [List.map_append, List.nodup_append]
    refine ⟨W.nm, by simp, fun a ha b hb => ?_⟩
    simp only [List.map_cons, List.map_nil, List.mem_cons, List.not_mem_nil, or_false] at hb
    subst hb
    exact fun e => hn (e ▸ ha)
  · omega
  · have ht : t ∈ D.shs ++ [s] := ht
    rcases List.mem_append.mp ht with ht | ht
    · exact W.ok t ht
    · rw [List.mem_singleton] at ht
      exact ht ▸ ok
  · by_cases hi : i < D.n
    · have := W.el i hi
      rw [e_lt i hi] at h0 ⊢
      rw [s_lt _ (by omega)]
      exact W.mi i hi h0
    · have : i = D.n := by omega
      subst this
      rw [e_eq] at h0 ⊢
      rcases he with ⟨rfl, _⟩ | ⟨j, rfl, h1, _, hk⟩
      · exact absurd h0 (by decide)
      · rw [Int.toNat_natCast, s_lt j h1]
        exact hk
  · by_cases hi : i < D.n
    · rw [d_lt i hi]; exact W.d8 i hi
    · have : i = D.n := by omega
      subst this
      rw [d_eq]
      exact h8
  · by_cases hi : 0 < D.n
    · rw [s_lt 0 hi]; exact W.top hi
    · have : D.n = 0 := by omega
      rw [show (D.add s e).sh 0 = s by rw [← this]; exact s_eq]
      rcases he with ⟨_, _, _, hk⟩ | ⟨j, _, h1, _⟩
      · exact hk
      · omega
theorem row_add {D : TreeD} (W : D.WF) {row : Str} {s : Shp} {e : Int} (h : rowM D row = .add s e) : (D.add s e).WF ∧ shapeM (wordsM row) = some s ∧ e = elderM D ((blanksM row / 2 : Nat) : Int) ∧ s.name ∉ D.shs.map Shp.name ∧ (e = -1 ∨ (0 ≤ e ∧ e < D.n)) ∧ D.n ≠ 64 := by
  unfold rowM at h
  split at h
  · cases h
  cases hs : shapeM (wordsM row) with
  | none => rw [hs] at h; cases h
  | some s' =>
    rw [hs] at h
    dsimp only at h
    split at h
    · cases h
    rename_i c1
    split at h
    · cases h
    rename_i c2
    split at h
    · cases h
    rename_i c3
    injection h with h1 h2
    subst h1 h2
    simp only [not_or] at c1
    obtain ⟨d1, d2, d3, d4⟩ := c1
    have hc := elder_cases D (blanksM row / 2) W
    refine ⟨WF_add W (shape_ok hs) d4 c3 (d := blanksM row / 2) (by omega) ?_, rfl, rfl, d4, ?_, c3⟩
    · rcases hc with ⟨h1, h2, h3⟩ | h1 | h1
      · exact .inl ⟨h1, h2, h3, by omega⟩
      · exact absurd h1 d3
      · exact .inr h1
    · rcases hc with ⟨h1, h2, h3⟩ | h1 | ⟨j, h1, h2, _⟩
      · exact .inl h1
      · exact absurd h1 d3
      · exact .inr ⟨by omega, by omega⟩
section
variable {P : Program} {w : World} {K : PySem.W.Frag} {mg : Str → Option Value} {base : Heap}
theorem readGo_step {rows : List Str} {D : TreeD} {k : Nat} {row : Str} (h : rows[k]? = some row) : readGo (rows.drop k) D k = match rowM D row with
    | .skip => readGo (rows.drop (k + 1)) D (k + 1)
    | .bad => .bad (k + 1)
    | .many => .many
    | .add s e => readGo (rows.drop (k + 1)) (D.add s e) (k + 1) := by
  have hk := (List.getElem?_eq_some_iff.mp h).choose
  rw [List.drop_eq_getElem_cons hk, (List.getElem?_eq_some_iff.mp h).choose_spec]
  rfl
theorem TR.some_ {CT : Addr} {cls : Nat → Addr} {A : TA} {D : TreeD} {H : Hp} (R : TR CT cls A D H) : ∀ b ∈ A.foot, ∃ o, H b = some o := fun b hb => by
  simp only [TA.foot, List.mem_cons] at hb
  rcases hb with rfl | rfl | rfl | rfl | rfl | h
  · exact ⟨_, R.ht⟩
  · exact ⟨_, R.hsh⟩
  · exact ⟨_, R.hel⟩
  · exact ⟨_, R.hyg⟩
  · exact ⟨_, R.hkn⟩
  · obtain ⟨i, hi, e⟩ := List.getElem_of_mem h
    exact ⟨_, R.hys i b (by rw [List.getElem?_eq_getElem hi, e])⟩
def spRead (CT : Addr) (cls : Nat → Addr) : Sp := fun vs H Q _ => ∃ (x : Str) (Df : TreeD), vs = [.str x] ∧ x.length ≤ 100000 ∧ (∀ r ∈ rowsM x, r.length ≤ 640) ∧ readM x = .ok Df ∧ ∀ A H', Same H H' → TRm CT cls A Df H' → Df.WF → Df.n ≠ 0 → (∀ b ∈ A.foot, H b = none) → Q (.ref A.t) H'
theorem wordsM_tl (row : Str) : (wordsM row).map tl = wordsL (tl row) := by
  unfold wordsM wordsL
  rw [← split_is (x := row) (y := " ") (s := 32) rfl (by decide), List.filter_map]
  congr 1
  refine List.filter_congr fun x _ => ?_
  refine decide_eq_decide.mpr ?_
  exact not_congr eq_nil_tl
theorem wordsM_len {row : Str} (h : row.length ≤ 640) : ∀ x ∈ wordsM row, x.length ≤ 640 := by
  intro x hx
  have hx := (List.mem_filter.mp hx).1
  have e := split_is (x := row) (y := " ") (s := 32) rfl (by decide)
  have := splitL_len 32 (tl row) (tl x) (by rw [← e]; exact List.mem_map_of_mem hx)
  rw [← len_tl, ← len_tl] at this
  omega
/-- the comprehension's words -/
def keepW : V → Option V := fun v => match v with
  | .str z => if z = "" then none else some (.str z)
  | _ => none
theorem keepW_map : ∀ l : List Str, (l.map V.str).filterMap keepW = (l.filter fun x => decide (x ≠ ("" : Str))).map V.str
  | [] => rfl
  | a :: r => by
    by_cases h : a = ""
    · have e : keepW (.str a) = none := if_pos h
      rw [List.map_cons, List.filterMap_cons_none e, keepW_map r, List.filter_cons_of_neg (by simpa using h)]
    · have e : keepW (.str a) = some (.str a) := if_neg h
      rw [List.map_cons, List.filterMap_cons_some e, keepW_map r, List.filter_cons_of_pos (by simpa using h)]
      rfl
/-- what stands ahead of row i -/
def RInv (CT : Addr) (cls : Nat → Addr) (x : Str) (r : Addr) (H : Hp) (Df : TreeD) (i : Nat) (σ : L2.St) (H' : Hp) : Prop := ∃ (v3 v4 v5 v6 v7 v8 v9 v10 : Option V) (A' : TA) (D : TreeD), σ = [some (.str x), some (.ref A'.t), some (.ref r), v3, v4, v5, v6, v7, v8, v9, v10] ∧ Same H H' ∧ TRm CT cls A' D H' ∧ D.WF ∧ H' r = some (.lst ((rowsM x).map V.str)) ∧ r ∉ A'.foot ∧ (∀ b ∈ A'.foot, H b = none) ∧ readGo ((rowsM x).drop i) D i = .ok Df
theorem ok_read {CT : Addr} {cls : Nat → Addr} {f : Addr} {fd : FuncData} {tk1 tk2 : Tok} (F : Fun K "read" "read" s_read f fd) (T : Bt mg) (cT : ClsF K CT treeN) (kc : KdC K cls) (kl : KdL P w K mg base cls) (gB : mg "BOUND" = some (.int 64 tk1)) (gD : mg "DEEPEST" = some (.int 8 tk2))
    (MT : MakG P w K mg base "Tree" CT 1 ["self"] [] (spTInit CT cls)) (MA : MthG P w K mg base CT "add" 1 ["self", "shape", "elder"] [] (spAdd CT cls)) (CS : CalG P w K mg base "shape_by" 6 ["words"] [] (spShapeBy K cls)) (CE : CalG P w K mg base "elder_at" 2 ["tree", "deep"] [] (spElder CT cls)) :
    FnG P w K mg base 7 f fd ["text"] (spRead CT cls) := by
  refine okG F sc_read (fun vs H Q E h => ?_) (fun cdv A outer s H vs Q E calm_ pn_ hr h => ?_)
  · obtain ⟨x, Df, rfl, _⟩ := h
    rfl
  obtain ⟨x, Df, rfl, hl, hrow, hM, q⟩ := h
  have hu := hu_ofG hr
  have hz := PySem.sizeLine_eq
  refine ⟨_, (pss_cons (ps_set (i := 1) sc_read.nd rfl (Or.inl rfl) (pe_mka0G (P := P) (w := w) (K := K) (mg := mg) (base := base) ⟨rfl, rfl, rfl, rfl, rfl⟩ hr rfl))
    (pss_cons (ps_set (i := 2) sc_read.nd rfl (Or.inl rfl) (pe_split (pv 0) pe_str))
    (pss_cons (ps_forG PassesOwn.never hr.gc (pi_range1G rfl T.range (pa_cons (pe_callB (kLenL (K := K) rfl) (by rfl) T.len (by decide +kernel) (pa_cons (pv 2) pa_nil)) pa_nil)) (pg_name (i := 3) sc_read.nd rfl (Or.inl rfl)) (pss_cons (ps_set (i := 4) sc_read.nd rfl (Or.inl rfl) (pe_split (pe_ix (kIxL (K := K) rfl) (pv 2) (pv 3) (fun _ _ => rfl)) pe_str))
    (pss_cons (ps_setLcG (i := 4) (own := [("word", 10)]) (g := gName 10) hr.gc sc_read.nd rfl rfl (sw_true rfl rfl rfl (by decide +kernel)) (kPiLG (K := K) rfl (pv 4)) (blkOk_by (own := [("word", 10)]) (N := ["text", "tree", "rows", "k", "words", "blanks", "shape", "elder", "deep", "odd", "word"]) (sc := defScope s_read) (by decide +kernel)) (fun _ _ _ _ _ => pg_name (i := 10) sc_read.nd rfl (Or.inl rfl)) (fun _ _ _ _ _ => pts_one (by exact (pt_cmpR op_ne (pv 10) pe_str (nomark _)))) (fun _ _ _ _ _ => by exact (pv 10)))
    (pss_cons (ps_if (PW.pt (pw_or (pt_cmpR (op_eqE hr.units) (pv 4) (pe_lst pa_nil) (nomark _)) (pw_or1 (pt_val (pe_m1 PySem.F.slot_str_startswith PySem.F.type_str_startswith mt_startswith (pe_ix (kIxL (K := K) rfl) (pv 4) pe_int (fun _ _ => rfl)) pe_str))))) (pss_one ps_continue) pss_nil)
    (pss_cons (ps_set (i := 5) sc_read.nd rfl (Or.inl rfl) (pe_op op_sub (pe_callB call_lenS (by rfl) T.len (by decide +kernel) (pa_cons (pe_ix (kIxL (K := K) rfl) (pv 2) (pv 3) (fun _ _ => rfl)) pa_nil)) (pe_callB call_lenS (by rfl) T.len (by decide +kernel) (pa_cons (kBm (K := K) rfl PySem.F.plainAttrs_str PySem.F.slot_str_lstrip PySem.F.type_str_lstrip mt_lstripChars (pe_ix (kIxL (K := K) rfl) (pv 2) (pv 3) (fun _ _ => rfl)) (pa_cons pe_str pa_nil)) pa_nil))))
    (pss_cons (ps_asg (pe_callB call_divmodI (by rfl) T.divmod (by decide +kernel) (pa_cons (pv 5) (pa_cons pe_int pa_nil))) (kTupG (K := K) rfl hr.gc (pgs_cons (pg_name (i := 8) sc_read.nd rfl (Or.inl rfl)) (pgs_cons (pg_name (i := 9) sc_read.nd rfl (Or.inl rfl)) pgs_nil))))
    (pss_cons (ps_set (i := 6) sc_read.nd rfl (Or.inl rfl) (pe_caG (P := P) (w := w) (K := K) (mg := mg) (base := base) ⟨rfl, rfl, rfl, rfl, rfl⟩ hr rfl (pa_cons (pv 4) pa_nil)))
    (pss_cons (ps_set (i := 7) sc_read.nd rfl (Or.inl rfl) (pe_caG (P := P) (w := w) (K := K) (mg := mg) (base := base) ⟨rfl, rfl, rfl, rfl, rfl⟩ hr rfl (pa_cons (pv 1) (pa_cons (pv 8) pa_nil))))
    (pss_cons (ps_if (PW.pt (pw_or (pt_cmpR op_gt (pv 9) pe_int (nomark _)) (pw_or (pt_cmpR op_gt (pv 8) (pe_gv (mg := mg) rfl rfl) (nomark _)) (pw_or (pt_cmpR op_isNn (pv 6) pe_non (nomark _)) (pw_or (pt_cmpR op_eq (pv 7) (pe_un un_neg pe_int) (nomark _)) (pw_or1 (pt_cmp (pc_din hu (kFld (K := K) rfl (pv 6)) (kFld (K := K) rfl (pv 1)))))))))) (pss_one ps_never) pss_nil)
    (C8.pss_cut (ps_if (PW.pt (pw_and (pt_cmpR op_eq (pv 7) (pe_un un_neg pe_int) (nomark _)) (pw_and1 (pt_val (pe_ma0G (P := P) (w := w) (K := K) (mg := mg) (base := base) ⟨rfl, rfl, rfl, rfl, rfl⟩ hr (pv 6)))))) (pss_one ps_never) pss_nil)
    (pss_cons (ps_if (pt_cmpR op_eq (pe_callB (kLenL (K := K) rfl) (by rfl) T.len (by decide +kernel) (pa_cons (kFld (K := K) rfl (pv 1)) pa_nil)) (pe_gv (mg := mg) rfl rfl) (nomark _)) (pss_one ps_never) pss_nil)
    (pss_one (ps_expr (pe_maG (P := P) (w := w) (K := K) (mg := mg) (base := base) ⟨rfl, rfl, rfl, rfl, rfl⟩ hr (pv 1) (pa_cons (pv 6) (pa_cons (pv 7) pa_nil))))))))))))))))
    (pss_cons (ps_if (pt_cmpR (op_eqE hr.units) (kFld (K := K) rfl (pv 1)) (pe_lst pa_nil) (nomark _)) (pss_one ps_never) pss_nil)
    (pss_one (ps_ret (pv 1))))))), ?_⟩
  walk_at "rd"
  refine w_mkaG MT (by decide) ?_
  walk_at "rd"
  refine fun t dx ht hdx ne => ⟨t, dx, rfl, upd_same, fun A H1 et R o1 n1 => ?_⟩
  subst et
  refine ⟨rfl, ?_⟩
  have fresh : ∀ b ∈ A.foot, H b = none := fun b hb => by
    rcases n1 b hb with h | h
    · rw [List.mem_singleton] at h
      rw [h]
      exact ht
    · exact updN (updN h)
  have s1 : Same H H1 := fun b u hu => by
    have e1 : b ≠ A.t := neN ht hu
    have e2 : b ≠ dx := neN hdx hu
    refine o1 b u (by simpa using e1) ?_
    walk_at "hp"
  clear o1 n1 ne hdx ht
  walk_at "rd"
  refine ⟨x, _, rfl, rfl, rfl, by omega, fun r hr2 => ?_⟩
  have el : (rowsM x).length ≤ 100002 := Nat.le_trans (split_le x "\n") (by omega)
  have s2 := same_upd (o := .lst ((rowsM x).map V.str)) s1 hr2
  have R0 := R
  have R := R.same (same_new hr2 (.lst ((rowsM x).map V.str)))
  have hrows : upd H1 r (.lst ((rowsM x).map V.str)) r = some (.lst ((rowsM x).map V.str)) := upd_same
  have rf : r ∉ A.foot := fun hm => (R0.some_ r hm).elim fun o ho => absurd ho (by rw [hr2]; exact fun z => by cases z)
  show gName 2 (V.ref r) _ (upd H1 r (.lst ((rowsM x).map V.str))) _
  generalize upd H1 r (.lst ((rowsM x).map V.str)) = H2 at s2 R hrows ⊢
  walk_at "rd"
  rw [List.length_map]
  refine w_forR (RInv CT cls x r H Df)
    (by omega) (by omega) ⟨_, _, _, _, _, _, _, _, A, .nil, rfl, s2, R, WF_nil, hrows, rf, fresh, hM⟩ (fun i σ H3 hi hm => ?_) (fun σ H3 hm => ?_)
  · obtain ⟨v3, v4, v5, v6, v7, v8, v9, v10, A', D, rfl, s3, R3, W, hr3, rf3, fr3, hgo⟩ := hm
    have hi : i < (rowsM x).length := by omega
    obtain ⟨row, hrw⟩ : ∃ row, (rowsM x)[i]? = some row := ⟨_, List.getElem?_eq_getElem hi⟩
    have lrow := hrow row (List.mem_of_getElem? hrw)
    have hix : ((rowsM x).map V.str)[i]? = some (.str row) := by rw [List.getElem?_map, hrw]; rfl
    have hstep := (readGo_step (D := D) hrw).symm.trans hgo
    walk_at "rd"
    refine w_ixL (SqL.of hr3) (at_nat (i := i) (by omega) hix) ?_
    walk_at "rd"
    refine ⟨row, _, rfl, rfl, rfl, by omega, fun p hp => ?_⟩
    have s4 := same_new hp (.lst ((Txt.split row " ").map V.str))
    have hp4 : upd H3 p (.lst ((Txt.split row " ").map V.str)) p = some (.lst ((Txt.split row " ").map V.str)) := upd_same
    show gName 4 (V.ref p) _ (upd H3 p (.lst ((Txt.split row " ").map V.str))) _
    have lsp : (Txt.split row " ").length ≤ 642 := Nat.le_trans (split_le row " ") (by omega)
    have R4 := R3.same s4
    have hr4 := s4 _ _ hr3
    have s34 := s3.trans s4
    generalize upd H3 p (.lst ((Txt.split row " ").map V.str)) = H4 at s4 hp4 R4 hr4 s34 ⊢
    walk_at "rd"
    refine w_lcL (xs := (Txt.split row " ").map V.str) (LcF H4 ((Txt.split row " ").map V.str) keepW) (SqL.of hp4) (fun C h => lcF_0 h) (fun C i H' _ _ p => p.1.seq (SqL.of hp4)) (fun C j v H' hC hx p => ?_) (fun C H5 hC p => ?_)
    · rw [List.getElem?_map] at hx
      obtain ⟨z, hz', rfl⟩ := Option.map_eq_some_iff.mp hx
      walk_at "rd"
      walk_at "if"
      all_goals rename_i c
      all_goals walk_at "rd"
      · refine lcF_yes p hC (by rw [List.getElem?_map, hz']; rfl) (show keepW (.str z) = some (.str z) from if_neg fun e => c (congrArg V.str e)) (by rw [List.length_map]; omega)
      · refine lcF_no p (by rw [List.getElem?_map, hz']; rfl) (show keepW (.str z) = none from if_pos (V.str.inj c))
    have hC5 := p.2
    rw [List.take_length, keepW_map] at hC5
    have hC5 : H5 C = some (.lst ((wordsM row).map V.str)) := hC5
    have s5 := p.1
    have lws := wordsM_len lrow
    have R5 := R4.same s5
    have hr5 := s5 _ _ hr4
    have s35 := s34.trans s5
    clear p hp4 hr4 R4 s34
    walk_at "rd"
    have hbad : rowM D row = .bad → False := fun e => by
      rw [e] at hstep
      cases hstep
    have hmany : rowM D row = .many → False := fun e => by
      rw [e] at hstep
      cases hstep
    have skip : ∀ H', Same H5 H' → rowM D row = .skip → ∀ v3 v4 v5 v6 v7 v8 v9 v10 : Option V, RInv CT cls x r H Df (i + 1) [some (V.str x), some (.ref A'.t), some (.ref r), v3, v4, v5, v6, v7, v8, v9, v10] H' := fun H' s' e v3 v4 v5 v6 v7 v8 v9 v10 => by
      rw [e] at hstep
      exact ⟨_, _, _, _, _, _, _, _, A', D, rfl, s35.trans s', R5.same s', W, s' _ _ hr5, rf3, fr3, hstep⟩
    refine ⟨Nat.zero_le _, fun b hb => ?_⟩
    have s6 := same_new hb (.lst [])
    walk_at "rd"
    have em : ((wordsM row).map V.str).isEmpty = decide (wordsM row = []) := by cases wordsM row <;> rfl
    rw [em]
    by_cases c1 : wordsM row = []
    · rw [decide_eq_true c1]
      walk_at "rd"
      exact skip _ s6 (if_pos (.inl c1)) _ _ _ _ _ _ _ _
    rw [decide_eq_false c1]
    have R6 := R5.same s6
    have hr6 := s6 _ _ hr5
    have hC6 := s6 _ _ hC5
    generalize upd H5 b (.lst []) = H6 at s6 R6 hr6 hC6 ⊢
    walk_at "rd"
    have lpos : 0 < (wordsM row).length := List.length_pos_iff.mpr c1
    refine w_ixL (SqL.of hC6) (at_nat (i := 0) rfl (wAt_at lpos)) ?_
    walk_at "rd"
    refine ⟨_, _, rfl, rfl, ?_⟩
    walk_at "rd"
    walk_at "if"
    · rename_i c2
      walk_at "rd"
      exact skip _ s6 (if_pos (.inr c2)) _ _ _ _ _ _ _ _
    rename_i c2
    have un : rowM D row = match shapeM (wordsM row) with
      | none => .bad
      | some s =>
        if 0 < blanksM row % 2 ∨ 8 < blanksM row / 2 ∨ elderM D ((blanksM row / 2 : Nat) : Int) = -2 ∨ s.name ∈ D.shs.map Shp.name then .bad
        else if elderM D ((blanksM row / 2 : Nat) : Int) = -1 ∧ s.kind < 3 then .bad
        else if D.n = 64 then .many
        else .add s (elderM D ((blanksM row / 2 : Nat) : Int)) := by
      unfold rowM
      rw [if_neg]
      rintro (z | z)
      · exact c1 z
      · rw [z] at c2; cases c2
    walk_at "rd"
    refine w_ixL (SqL.of hr6) (at_nat (i := i) (by omega) hix) ?_
    walk_at "rd"
    refine w_ixL (SqL.of hr6) (at_nat (i := i) (by omega) hix) ?_
    walk_at "rd"
    refine ⟨row, _, rfl, rfl, by omega, ?_⟩
    have lst : (Txt.lstripChars row " ").length ≤ row.length := len_stripBy _ _ _ _
    walk_at "rd"
    have eb : (row.length : Int) - ((Txt.lstripChars row " ").length : Int) = (blanksM row : Int) := by unfold blanksM; omega
    rw [eb]
    refine w_divmod ⟨by decide, by decide⟩ fun q2 hq2 => ?_
    have ed : (blanksM row : Int) / 2 = ((blanksM row / 2 : Nat) : Int) := by omega
    have eo : (blanksM row : Int) % 2 = ((blanksM row % 2 : Nat) : Int) := by omega
    rw [ed, eo]
    have s7 := same_upd (o := .tup [V.int ((blanksM row / 2 : Nat) : Int), V.int ((blanksM row % 2 : Nat) : Int)]) s6 hq2
    walk_at "rd"
    have s67 := same_new hq2 (.tup [V.int ((blanksM row / 2 : Nat) : Int), V.int ((blanksM row % 2 : Nat) : Int)])
    have R7 := R6.same s67
    have hr7 := s67 _ _ hr6
    have hC7 := s67 _ _ hC6
    generalize upd H6 q2 (.tup [V.int ((blanksM row / 2 : Nat) : Int), V.int ((blanksM row % 2 : Nat) : Int)]) = H7 at s7 R7 hr7 hC7 ⊢
    clear s67 hr6 hC6 R6 s6 hb hq2
    refine w_caG CS (by decide) ?_
    walk_at "rd"
    refine ⟨C, wordsM row, rfl, SqL.of hC7, lws, fun z => hbad (by rw [un, z]), fun v H8 s8 hv => ?_⟩
    have R8 := R7.same s8
    have hr8 := s8 _ _ hr7
    have s58 := s7.trans s8
    clear R7 hr7 hC7
    walk_at "rd"
    refine w_caG CE (by decide) ?_
    walk_at "rd"
    refine ⟨A', D, _, rfl, R8.toTR, W, by omega, fun H9 s9 => ?_⟩
    have R9 := R8.same s9
    have hr9 := s9 _ _ hr8
    have s59 := s58.trans s9
    have hv : ShV cls (shapeM (wordsM row)) v H9 := by
      unfold ShV at hv ⊢
      split
      · rename_i e; rw [e] at hv; exact hv
      · rename_i s' e
        rw [e] at hv
        obtain ⟨p, hp, sp⟩ := hv
        exact ⟨p, hp, sp.same s9⟩
    clear R8 hr8 s58 s8 s9 s7
    have hel := elder_cases D (blanksM row / 2) W
    walk_at "rd"
    by_cases c3 : 0 < blanksM row % 2
    · rw [decide_eq_true (show (0 : Int) < ((blanksM row % 2 : Nat) : Int) by omega)]
      walk_at "rd"
      refine (hbad ?_).elim
      rw [un]
      split
      · rfl
      · exact if_pos (.inl c3)
    rw [decide_eq_false (show ¬ (0 : Int) < ((blanksM row % 2 : Nat) : Int) by omega)]
    walk_at "rd"
    refine w_gv (v := .int 8) gD ⟨_, rfl⟩ ?_
    walk_at "rd"
    by_cases c4 : 8 < blanksM row / 2
    · rw [decide_eq_true (show (8 : Int) < ((blanksM row / 2 : Nat) : Int) by omega)]
      walk_at "rd"
      refine (hbad ?_).elim
      rw [un]
      split
      · rfl
      · exact if_pos (.inr (.inl c4))
    rw [decide_eq_false (show ¬ (8 : Int) < ((blanksM row / 2 : Nat) : Int) by omega)]
    walk_at "rd"
    cases hs : shapeM (wordsM row) with
    | none => exact (hbad (by rw [un, hs])).elim
    | some sh =>
      rw [hs] at hv
      rw [hs] at un
      dsimp only at un
      obtain ⟨p, rfl, sp⟩ := hv
      rw [decide_eq_false (show ¬ V.ref p = V.non from fun z => by cases z)]
      walk_at "rd"
      by_cases c5 : elderM D ((blanksM row / 2 : Nat) : Int) = -2
      · rw [decide_eq_true (show V.int (elderM D ((blanksM row / 2 : Nat) : Int)) = V.int (-2) by rw [c5])]
        walk_at "rd"
        exact (hbad (un.trans (if_pos (.inr (.inr (.inl c5)))))).elim
      rw [decide_eq_false (show ¬ V.int (elderM D ((blanksM row / 2 : Nat) : Int)) = V.int (-2) from fun z => c5 (V.int.inj z))]
      walk_at "rd"
      have ok := shape_ok hs
      have cp := kc.cf sh.kind ok.kd
      obtain ⟨dxp, hp⟩ := sp
      refine w_fld1 hp cp.cl (cp.no _ (attr_name _)) (fld_name sh) ?_
      have ht9 := R9.ht
      unfold treeF at ht9
      walk_at "rd"
      refine w_dget1 (k := Sum.inr sh.name) R9.hkn rfl ?_
      walk_at "rd"
      by_cases c6 : sh.name ∈ D.shs.map Shp.name
      · refine (hbad (un.trans (if_pos (.inr (.inr (.inr c6)))))).elim
      rw [kvs_none c6]
      walk_at "rd"
      rw [Option.isSome_none]
      walk_at "rd"
      generalize he : elderM D ((blanksM row / 2 : Nat) : Int) = e at un c5 hel
      refine w_cut (fun σ H' => σ = [some (.str x), some (.ref A'.t), some (.ref r), some (.int (0 + (i : Int))), some (.ref C), some (.int (blanksM row : Int)), some (.ref p), some (.int e), some (.int ((blanksM row / 2 : Nat) : Int)), some (.int ((blanksM row % 2 : Nat) : Int)), v10] ∧ H9 = H' ∧ ¬ (e = -1 ∧ sh.kind < 3)) ?_ (fun σ H' hm => ?_)
      · walk_at "rd"
        by_cases c7 : e = -1
        case neg =>
          rw [decide_eq_false (show ¬ V.int e = V.int (-1) from fun z => c7 (V.int.inj z))]
          walk_at "rd"
          exact ⟨rfl, rfl, fun z => c7 z.1⟩
        rw [decide_eq_true (show V.int e = V.int (-1) by rw [c7])]
        walk_at "rd"
        refine w_ma1G hp cp.cl (fld_leaf _) (kl.leaf _ ok.kd) (by decide) ?_
        walk_at "rd"
        refine ⟨p, dxp, _, rfl, hp, ?_⟩
        walk_at "rd"
        walk_at "if"
        all_goals rename_i c8
        all_goals walk_at "rd"
        · refine (hbad (un.trans ?_)).elim
          rw [if_neg, if_pos ⟨c7, c8⟩]
          rintro (z | z | z | z)
          · exact c3 z
          · exact c4 z
          · exact c5 z
          · exact c6 z
        · exact ⟨rfl, rfl, fun z => c8 z.2⟩
      obtain ⟨rfl, rfl, c7⟩ := hm
      have hsh9 := R9.hsh
      walk_at "rd"
      rw [List.length_map, R9.lps]
      refine w_gv (v := .int 64) gB ⟨_, rfl⟩ ?_
      walk_at "rd"
      have un2 : rowM D row = if D.n = 64 then .many else .add sh e := by
        rw [un, if_neg, if_neg c7]
        rintro (z | z | z | z)
        · exact c3 z
        · exact c4 z
        · exact c5 z
        · exact c6 z
      by_cases c8 : D.n = 64
      · exact (hmany (un2.trans (if_pos c8))).elim
      rw [decide_eq_false (show ¬ V.int (D.n : Int) = V.int 64 from fun z => c8 (by have := V.int.inj z; omega))]
      walk_at "rd"
      rw [if_neg c8] at un2
      have hadd := row_add W un2
      refine w_ma1G ht9 cT.cl rfl MA (by decide) ?_
      walk_at "rd"
      refine ⟨A', D, p, sh, e, rfl, R9, W, ⟨dxp, hp⟩, ok.kd, c6, hadd.2.2.2.2.1, fun A2 H2' et2 R2 o2 n2 => ?_⟩
      rw [un2] at hstep
      walk_at "rd"
      refine ⟨_, _, _, _, _, _, _, _, A2, D.add sh e, by rw [et2], fun b u hb => ?_, R2, hadd.1, ?_, ?_, ?_, hstep⟩
      · refine o2 b u (fun hm => ?_) (s59 b u (s5 b u (s4 b u (s3 b u hb))))
        rw [fr3 b hm] at hb
        cases hb
      · exact o2 _ _ rf3 hr9
      · intro hm
        rcases n2 r hm with z | z
        · exact rf3 z
        · rw [hr9] at z
          cases z
      · intro b hb
        rcases n2 b hb with z | z
        · exact fr3 b z
        · cases hb2 : H b with
          | none => rfl
          | some u =>
            have := s59 b u (s5 b u (s4 b u (s3 b u hb2)))
            rw [z] at this
            cases this
  · obtain ⟨v3, v4, v5, v6, v7, v8, v9, v10, A', D, rfl, s3, R3, W, hr3, rf3, fr3, hgo⟩ := hm
    have ht3 := R3.ht
    unfold treeF at ht3
    have hsh3 := R3.hsh
    walk_at "rd"
    refine ⟨Nat.zero_le _, fun b hb => ?_⟩
    have s4 := same_new hb (.lst [])
    walk_at "rd"
    have en : ((rowsM x).length : Int).toNat = (rowsM x).length := Int.toNat_natCast _
    rw [en, List.drop_length] at hgo
    have hgo : (if D.n = 0 then RR.top else .ok D) = .ok Df := hgo
    by_cases c : D.n = 0
    · rw [if_pos c] at hgo
      cases hgo
    rw [if_neg c] at hgo
    injection hgo with hgo
    subst hgo
    have em : (A'.ps.map V.ref).isEmpty = false := by
      have := R3.lps
      cases e : A'.ps with
      | nil => rw [e] at this; exact absurd this.symm c
      | cons => rfl
    rw [em]
    walk_at "rd"
    exact q A' _ (s3.trans s4) (R3.same s4) W c fr3
end
end Mn

namespace Mn
open PySem PySem.Spec PyProof.Rows L2 TL
/-! ### trees as the laws make them: their text is read as they are -/
def TreeD.takeN (D : TreeD) (i : Nat) : TreeD := ⟨D.shs.take i, D.eld.take i, D.dps.take i⟩
structure Good (D : TreeD) : Prop where
  wf : D.WF
  pos : 0 < D.n
  eld : ∀ i, i < D.n → elderM (D.takeN i) (D.dp i : Int) = D.e i
theorem Good.takeN_n {D : TreeD} {i : Nat} (h : i ≤ D.n) : (D.takeN i).n = i := by
  show (D.shs.take i).length = i
  rw [List.length_take]
  exact Nat.min_eq_left h
theorem getD_take {α : Type} (l : List α) (d : α) {i k : Nat} (h : k < i) : (l.take i).getD k d = l.getD k d := by
  rw [List.getD_eq_getElem?_getD, List.getD_eq_getElem?_getD, List.getElem?_take_of_lt h]
theorem take_snoc {α : Type} (l : List α) (d : α) {i : Nat} (h : i < l.length) : l.take (i + 1) = l.take i ++ [l.getD i d] := by
  rw [List.take_add_one, List.getD_eq_getElem?_getD, List.getElem?_eq_getElem h]
  rfl
theorem Good.add {D : TreeD} (g : Good D) {i : Nat} (h : i < D.n) : (D.takeN i).add (D.sh i) (D.e i) = D.takeN (i + 1) := by
  have W := g.wf
  have e1 : D.shs.take (i + 1) = D.shs.take i ++ [D.sh i] := take_snoc _ _ h
  have e2 : D.eld.take (i + 1) = D.eld.take i ++ [D.e i] := take_snoc _ _ (by rw [W.le]; exact h)
  have e3 : D.dps.take (i + 1) = D.dps.take i ++ [D.dp i] := take_snoc _ _ (by rw [W.ld]; exact h)
  have e4 : D.dp i = if D.e i < 0 then 0 else (D.takeN i).dp (D.e i).toNat + 1 := by
    have el := W.el i h
    rw [W.dp i h]
    split
    · rfl
    · rw [show (D.takeN i).dp (D.e i).toNat = D.dp (D.e i).toNat from getD_take _ _ (by omega)]
  unfold TreeD.add
  rw [← e4]
  show (⟨D.shs.take i ++ [D.sh i], D.eld.take i ++ [D.e i], D.dps.take i ++ [D.dp i]⟩ : TreeD) = ⟨_, _, _⟩
  rw [← e1, ← e2, ← e3]
/-! words of a row, read back -/
theorem keep_free : ∀ k ∈ keeps3, (32 ∉ tl k ∧ 10 ∉ tl k) ∧ k ≠ "" := by decide +kernel
theorem num_free {i : Int} (h : 0 ≤ i) : (32 ∉ tl (Str.ofString (toString i)) ∧ 10 ∉ tl (Str.ofString (toString i))) ∧ Str.ofString (toString i) ≠ "" := by
  obtain ⟨n, rfl⟩ : ∃ n : Nat, i = (n : Int) := ⟨i.toNat, by omega⟩
  refine ⟨?_, fun e => ?_⟩
  · rw [tl_num]
    exact ⟨numL_free (.inl (by decide)), numL_free (.inl (by decide))⟩
  · have := congrArg tl e
    rw [tl_num] at this
    exact numL_ne n this
theorem numM_str {i : Int} (h : 0 ≤ i ∧ i ≤ 1000000) : numM (Str.ofString (toString i)) = some i := by
  obtain ⟨n, rfl⟩ : ∃ n : Nat, i = (n : Int) := ⟨i.toNat, by omega⟩
  exact num_yes (numOf_str n) h.2
theorem fit_ne {x : Str} (h : fitL (tl x) = true) : (32 ∉ tl x ∧ 10 ∉ tl x) ∧ x ≠ "" := by
  refine ⟨⟨fun m => ?_, fun m => ?_⟩, fun e => ?_⟩
  · unfold fitL at h
    rw [Bool.and_eq_true, List.all_eq_true] at h
    have := h.2 32 m
    revert this
    decide
  · unfold fitL at h
    rw [Bool.and_eq_true, List.all_eq_true] at h
    have := h.2 10 m
    revert this
    decide
  · rw [e] at h
    revert h
    decide
theorem kind6 {k : Nat} (h : k < 6) : k = 0 ∨ k = 1 ∨ k = 2 ∨ k = 3 ∨ k = 4 ∨ k = 5 := by omega
theorem shW_0 (nm kp : Str) (a b m : Int) : shW ⟨0, nm, kp, a, b, m⟩ = (["leaf", kp, toString a, toString b, "idle"] : List Str) := rfl
theorem shW_1 (nm kp : Str) (a b m : Int) : shW ⟨1, nm, kp, a, b, m⟩ = (["leaf", kp, toString a, toString b, "steady", toString m] : List Str) := rfl
theorem shW_2 (nm kp : Str) (a b m : Int) : shW ⟨2, nm, kp, a, b, m⟩ = (["leaf", kp, toString a, toString b, "falls", toString m] : List Str) := rfl
theorem shW_3 (nm kp : Str) (a b m : Int) : shW ⟨3, nm, kp, a, b, m⟩ = (["minder", kp, "one", toString a, toString b] : List Str) := rfl
theorem shW_4 (nm kp : Str) (a b m : Int) : shW ⟨4, nm, kp, a, b, m⟩ = (["minder", kp, "all", toString a, toString b] : List Str) := rfl
theorem shW_5 (nm kp : Str) (a b m : Int) : shW ⟨5, nm, kp, a, b, m⟩ = (["minder", kp, "rest", toString a, toString b] : List Str) := rfl
theorem shW_free {s : Shp} (ok : OkS s) : ∀ x ∈ shW s ++ [s.name], (32 ∉ tl x ∧ 10 ∉ tl x) ∧ x ≠ "" := by
  obtain ⟨k, nm, kp, a, b, m⟩ := s
  have f1 := keep_free kp ok.kp
  have f2 := num_free ok.a0.1
  have f3 := num_free ok.b0.1
  have f4 := num_free ok.m0.1
  have f5 := fit_ne ok.nm
  have lits : ∀ x ∈ (["leaf", "idle", "steady", "falls", "minder", "one", "all", "rest"] : List Str), (32 ∉ tl x ∧ 10 ∉ tl x) ∧ x ≠ "" := by decide +kernel
  have g := ok.kd
  dsimp only at f2 f3 f4 f5 g
  intro x hx
  rcases kind6 g with rfl | rfl | rfl | rfl | rfl | rfl
  · rw [shW_0] at hx
    simp only [List.cons_append, List.nil_append, List.mem_cons, List.not_mem_nil, or_false] at hx
    rcases hx with rfl | rfl | rfl | rfl | rfl | rfl
    · exact lits _ (by decide)
    · exact f1
    · exact f2
    · exact f3
    · exact lits _ (by decide)
    · exact f5
  · rw [shW_1] at hx
    simp only [List.cons_append, List.nil_append, List.mem_cons, List.not_mem_nil, or_false] at hx
    rcases hx with rfl | rfl | rfl | rfl | rfl | rfl | rfl
    · exact lits _ (by decide)
    · exact f1
    · exact f2
    · exact f3
    · exact lits _ (by decide)
    · exact f4
    · exact f5
  · rw [shW_2] at hx
    simp only [List.cons_append, List.nil_append, List.mem_cons, List.not_mem_nil, or_false] at hx
    rcases hx with rfl | rfl | rfl | rfl | rfl | rfl | rfl
    · exact lits _ (by decide)
    · exact f1
    · exact f2
    · exact f3
    · exact lits _ (by decide)
    · exact f4
    · exact f5
  · rw [shW_3] at hx
    simp only [List.cons_append, List.nil_append, List.mem_cons, List.not_mem_nil, or_false] at hx
    rcases hx with rfl | rfl | rfl | rfl | rfl | rfl
    · exact lits _ (by decide)
    · exact f1
    · exact lits _ (by decide)
    · exact f2
    · exact f3
    · exact f5
  · rw [shW_4] at hx
    simp only [List.cons_append, List.nil_append, List.mem_cons, List.not_mem_nil, or_false] at hx
    rcases hx with rfl | rfl | rfl | rfl | rfl | rfl
    · exact lits _ (by decide)
    · exact f1
    · exact lits _ (by decide)
    · exact f2
    · exact f3
    · exact f5
  · rw [shW_5] at hx
    simp only [List.cons_append, List.nil_append, List.mem_cons, List.not_mem_nil, or_false] at hx
    rcases hx with rfl | rfl | rfl | rfl | rfl | rfl
    · exact lits _ (by decide)
    · exact f1
    · exact lits _ (by decide)
    · exact f2
    · exact f3
    · exact f5
theorem lit_ne {a b : Str} (h : tl a ≠ tl b) : a ≠ b := fun e => h (congrArg tl e)
section
variable {ws : List Str} {g sl m : Int}
theorem shapeM_in (l : 6 ≤ ws.length) (hk : wAt ws 1 ∈ keeps3) (hf : fitL (tl (wAt ws (ws.length - 1))) = true) : shapeM ws = if wAt ws 0 = "leaf" then (leafR ws).join else if wAt ws 0 = "minder" ∧ ws.length = 6 then (minderR ws).join else none := by
  unfold shapeM
  rw [if_neg]
  rintro (z | z | z)
  · omega
  · exact z hk
  · rw [hf] at z
    cases z
theorem leafR_in (hg : numM (wAt ws 2) = some g) (hs : numM (wAt ws 3) = some sl) : leafR ws = if wAt ws 4 = "idle" ∧ ws.length = 6 then some (some ⟨0, wAt ws 5, wAt ws 1, g, sl, 0⟩)
      else if ws.length = 7 ∧ (wAt ws 4 = "steady" ∨ wAt ws 4 = "falls") then
        match numM (wAt ws 5) with
        | none => none
        | some m => some (some ⟨if wAt ws 4 = "steady" then 1 else 2, wAt ws 6, wAt ws 1, g, sl, m⟩)
      else some none := by
  unfold leafR
  rw [hg, hs] <;> rfl
theorem minderR_in (hm : numM (wAt ws 3) = some m) (hs : numM (wAt ws 4) = some sl) : minderR ws = if sl = 0 then some none
      else if wAt ws 2 = "one" then some (some ⟨3, wAt ws 5, wAt ws 1, m, sl, 0⟩)
      else if wAt ws 2 = "all" then some (some ⟨4, wAt ws 5, wAt ws 1, m, sl, 0⟩)
      else if wAt ws 2 = "rest" then some (some ⟨5, wAt ws 5, wAt ws 1, m, sl, 0⟩)
      else some none := by
  unfold minderR
  rw [hm, hs]
end
theorem shapeM_back {s : Shp} (ok : OkS s) : shapeM (shW s ++ [s.name]) = some s := by
  obtain ⟨k, nm, kp, a, b, m⟩ := s
  have g := ok.kd
  have na := numM_str ok.a0
  have nb := numM_str ok.b0
  have nm' := numM_str ok.m0
  have hk := ok.kp
  have hf := ok.nm
  have mz := ok.mz
  have b1 := ok.b1
  dsimp only at g na nb nm' hk hf mz b1 ⊢
  have l2 : ("minder" : Str) ≠ "leaf" := by decide
  have l4 : ("falls" : Str) ≠ "steady" := by decide
  have l5 : ("all" : Str) ≠ "one" := by decide
  have l6 : ("rest" : Str) ≠ "one" := by decide
  have l7 : ("rest" : Str) ≠ "all" := by decide
  rcases kind6 g with rfl | rfl | rfl | rfl | rfl | rfl
  · obtain rfl := mz (by decide) (by decide)
    rw [shW_0]
    obtain ⟨ws, e⟩ : ∃ ws, (["leaf", kp, toString a, toString b, "idle"] : List Str) ++ [nm] = ws := ⟨_, rfl⟩
    have h0 : wAt ws 0 = "leaf" := by rw [← e]; rfl
    have h1 : wAt ws 1 = kp := by rw [← e]; rfl
    have h2 : wAt ws 2 = Str.ofString (toString a) := by rw [← e]; rfl
    have h3 : wAt ws 3 = Str.ofString (toString b) := by rw [← e]; rfl
    have h4 : wAt ws 4 = "idle" := by rw [← e]; rfl
    have h5 : wAt ws 5 = nm := by rw [← e]; rfl
    have hl : ws.length = 6 := by rw [← e]; rfl
    have hx : wAt ws (ws.length - 1) = nm := by rw [hl]; exact h5
    rw [e, shapeM_in (by omega) (by rw [h1]; exact hk) (by rw [hx]; exact hf), if_pos h0, leafR_in (by rw [h2]; exact na) (by rw [h3]; exact nb), if_pos ⟨h4, hl⟩, h5, h1]
    rfl
  · rw [shW_1]
    obtain ⟨ws, e⟩ : ∃ ws, (["leaf", kp, toString a, toString b, "steady", toString m] : List Str) ++ [nm] = ws := ⟨_, rfl⟩
    have h0 : wAt ws 0 = "leaf" := by rw [← e]; rfl
    have h1 : wAt ws 1 = kp := by rw [← e]; rfl
    have h2 : wAt ws 2 = Str.ofString (toString a) := by rw [← e]; rfl
    have h3 : wAt ws 3 = Str.ofString (toString b) := by rw [← e]; rfl
    have h4 : wAt ws 4 = "steady" := by rw [← e]; rfl
    have h5 : wAt ws 5 = Str.ofString (toString m) := by rw [← e]; rfl
    have h6 : wAt ws 6 = nm := by rw [← e]; rfl
    have hl : ws.length = 7 := by rw [← e]; rfl
    have hx : wAt ws (ws.length - 1) = nm := by rw [hl]; exact h6
    rw [e, shapeM_in (by omega) (by rw [h1]; exact hk) (by rw [hx]; exact hf), if_pos h0, leafR_in (by rw [h2]; exact na) (by rw [h3]; exact nb), if_neg (fun z => by omega), if_pos ⟨hl, .inl h4⟩, h5, nm', if_pos h4, h6, h1]
    rfl
  · rw [shW_2]
    obtain ⟨ws, e⟩ : ∃ ws, (["leaf", kp, toString a, toString b, "falls", toString m] : List Str) ++ [nm] = ws := ⟨_, rfl⟩
    have h0 : wAt ws 0 = "leaf" := by rw [← e]; rfl
    have h1 : wAt ws 1 = kp := by rw [← e]; rfl
    have h2 : wAt ws 2 = Str.ofString (toString a) := by rw [← e]; rfl
    have h3 : wAt ws 3 = Str.ofString (toString b) := by rw [← e]; rfl
    have h4 : wAt ws 4 = "falls" := by rw [← e]; rfl
    have h5 : wAt ws 5 = Str.ofString (toString m) := by rw [← e]; rfl
    have h6 : wAt ws 6 = nm := by rw [← e]; rfl
    have hl : ws.length = 7 := by rw [← e]; rfl
    have hx : wAt ws (ws.length - 1) = nm := by rw [hl]; exact h6
    rw [e, shapeM_in (by omega) (by rw [h1]; exact hk) (by rw [hx]; exact hf), if_pos h0, leafR_in (by rw [h2]; exact na) (by rw [h3]; exact nb), if_neg (fun z => by omega), if_pos ⟨hl, .inr h4⟩, h5, nm', if_neg (by rw [h4]; exact l4), h6, h1]
    rfl
  · obtain rfl := mz (by decide) (by decide)
    have := b1 (by decide)
    rw [shW_3]
    obtain ⟨ws, e⟩ : ∃ ws, (["minder", kp, "one", toString a, toString b] : List Str) ++ [nm] = ws := ⟨_, rfl⟩
    have h0 : wAt ws 0 = "minder" := by rw [← e]; rfl
    have h1 : wAt ws 1 = kp := by rw [← e]; rfl
    have h2 : wAt ws 2 = "one" := by rw [← e]; rfl
    have h3 : wAt ws 3 = Str.ofString (toString a) := by rw [← e]; rfl
    have h4 : wAt ws 4 = Str.ofString (toString b) := by rw [← e]; rfl
    have h5 : wAt ws 5 = nm := by rw [← e]; rfl
    have hl : ws.length = 6 := by rw [← e]; rfl
    have hx : wAt ws (ws.length - 1) = nm := by rw [hl]; exact h5
    rw [e, shapeM_in (by omega) (by rw [h1]; exact hk) (by rw [hx]; exact hf), if_neg (by rw [h0]; exact l2), if_pos ⟨h0, hl⟩, minderR_in (by rw [h3]; exact na) (by rw [h4]; exact nb), if_neg (by omega), if_pos h2, h5, h1]
    rfl
  · obtain rfl := mz (by decide) (by decide)
    have := b1 (by decide)
    rw [shW_4]
    obtain ⟨ws, e⟩ : ∃ ws, (["minder", kp, "all", toString a, toString b] : List Str) ++ [nm] = ws := ⟨_, rfl⟩
    have h0 : wAt ws 0 = "minder" := by rw [← e]; rfl
    have h1 : wAt ws 1 = kp := by rw [← e]; rfl
    have h2 : wAt ws 2 = "all" := by rw [← e]; rfl
    have h3 : wAt ws 3 = Str.ofString (toString a) := by rw [← e]; rfl
    have h4 : wAt ws 4 = Str.ofString (toString b) := by rw [← e]; rfl
    have h5 : wAt ws 5 = nm := by rw [← e]; rfl
    have hl : ws.length = 6 := by rw [← e]; rfl
    have hx : wAt ws (ws.length - 1) = nm := by rw [hl]; exact h5
    rw [e, shapeM_in (by omega) (by rw [h1]; exact hk) (by rw [hx]; exact hf), if_neg (by rw [h0]; exact l2), if_pos ⟨h0, hl⟩, minderR_in (by rw [h3]; exact na) (by rw [h4]; exact nb), if_neg (by omega), if_neg (by rw [h2]; exact l5), if_pos h2, h5, h1]
    rfl
  · obtain rfl := mz (by decide) (by decide)
    have := b1 (by decide)
    rw [shW_5]
    obtain ⟨ws, e⟩ : ∃ ws, (["minder", kp, "rest", toString a, toString b] : List Str) ++ [nm] = ws := ⟨_, rfl⟩
    have h0 : wAt ws 0 = "minder" := by rw [← e]; rfl
    have h1 : wAt ws 1 = kp := by rw [← e]; rfl
    have h2 : wAt ws 2 = "rest" := by rw [← e]; rfl
    have h3 : wAt ws 3 = Str.ofString (toString a) := by rw [← e]; rfl
    have h4 : wAt ws 4 = Str.ofString (toString b) := by rw [← e]; rfl
    have h5 : wAt ws 5 = nm := by rw [← e]; rfl
    have hl : ws.length = 6 := by rw [← e]; rfl
    have hx : wAt ws (ws.length - 1) = nm := by rw [hl]; exact h5
    rw [e, shapeM_in (by omega) (by rw [h1]; exact hk) (by rw [hx]; exact hf), if_neg (by rw [h0]; exact l2), if_pos ⟨h0, hl⟩, minderR_in (by rw [h3]; exact na) (by rw [h4]; exact nb), if_neg (by omega), if_neg (by rw [h2]; exact l6), if_neg (by rw [h2]; exact l7), if_pos h2, h5, h1]
    rfl
end Mn

namespace Mn
open PySem PySem.Spec PyProof.Rows L2 TL
/-! ### rows of a good tree's text -/
def mkS (l : List Nat) : Str := ⟨l.toArray⟩
theorem tl_mkS (l : List Nat) : tl (mkS l) = l := rfl
theorem mkS_tl (x : Str) : mkS (tl x) = x := mk_tl x
theorem tl_lstrip1 (x : Str) (c : Nat) : tl (Txt.lstripChars x ⟨#[c]⟩) = (tl x).dropWhile (fun d => decide (d = c)) := by
  have h0 : ∀ d, (⟨#[c]⟩ : Str).cps.contains d = decide (d = c) := fun d => by
    show (Array.contains #[c] d) = _
    rw [Bool.eq_iff_iff]
    simp [Array.contains_eq_mem]
  have e : (⟨#[c]⟩ : Str).cps.contains = fun d => decide (d = c) := funext h0
  unfold Txt.lstripChars
  rw [stripBy_eq, tl_strSub, e]
  unfold stripLo stripHi
  rw [if_pos rfl, if_neg (by decide), len_tl x, List.take_of_length_le (by rw [List.length_drop]; exact Nat.le_refl _)]
  have : ∀ l : List Nat, l.drop (l.takeWhile (fun d => decide (d = c))).length = l.dropWhile (fun d => decide (d = c)) := fun l => by
    induction l with
    | nil => rfl
    | cons a r ih =>
      by_cases h : a = c
      · rw [List.takeWhile_cons_of_pos (by simpa using h), List.dropWhile_cons_of_pos (by simpa using h)]
        exact ih
      · rw [List.takeWhile_cons_of_neg (by simpa using h), List.dropWhile_cons_of_neg (by simpa using h)]
        rfl
  exact this _
theorem drop_blanks (c : Nat) {l : List Nat} (h : ∀ d r, l = d :: r → d ≠ c) : ∀ n : Nat, (List.replicate n c ++ l).dropWhile (fun d => decide (d = c)) = l
  | 0 => by
    cases l with
    | nil => rfl
    | cons d r => rw [List.replicate_zero, List.nil_append, List.dropWhile_cons_of_neg (by simpa using h d r rfl)]
  | n + 1 => by
    rw [List.replicate_succ, List.cons_append, List.dropWhile_cons_of_pos (by simp)]
    exact drop_blanks c h n
theorem blanks_is {row : Str} {n : Nat} {l : List Nat} (e : tl row = List.replicate n 32 ++ l) (h : ∀ d r, l = d :: r → d ≠ 32) : blanksM row = n := by
  have e2 := tl_lstrip1 row 32
  rw [e, drop_blanks 32 h] at e2
  unfold blanksM
  have e3 : (Txt.lstripChars row " ").length = l.length := by
    rw [len_tl]
    exact congrArg List.length e2
  rw [e3, len_tl, e, List.length_append, List.length_replicate]
  omega
theorem joinL_head {S : List Nat} {w : List Nat} {ws : List (List Nat)} (h : w ≠ []) : ∃ c r r', w = c :: r ∧ joinL S (w :: ws) = c :: r' := by
  obtain ⟨c, r, rfl⟩ := List.exists_cons_of_ne_nil h
  cases ws with
  | nil => exact ⟨c, r, r, rfl, rfl⟩
  | cons q qs => exact ⟨c, r, _, rfl, rfl⟩
def SkipL (p : List Nat) : Prop := (∃ n, p = List.replicate n 32) ∨ ∃ n r, p = List.replicate n 32 ++ 35 :: r
theorem wordsM_of {row : Str} {ws : List Str} (h : wordsL (tl row) = ws.map tl) : wordsM row = ws := map_tl_inj ((wordsM_tl row).trans h)
theorem row_skip {p : List Nat} (h : SkipL p) (D : TreeD) : rowM D (mkS p) = .skip := by
  rcases h with ⟨n, rfl⟩ | ⟨n, r, rfl⟩
  · refine if_pos (.inl (wordsM_of (ws := []) ?_))
    rw [tl_mkS, wordsL_only]
    rfl
  · refine if_pos (.inr ?_)
    have e : wordsL (tl (mkS (List.replicate n 32 ++ 35 :: r))) = wordsL (35 :: r) := by rw [tl_mkS, wordsL_blanks]
    obtain ⟨q, qs, e1, e2⟩ := splitL_miss (s := 32) (c := 35) (by decide) r
    have e3 : wordsL (35 :: r) = (35 :: q) :: qs.filter fun p => decide (p ≠ []) := by
      unfold wordsL
      rw [e2, List.filter_cons_of_pos (by simp)]
    have e4 : (wordsM (mkS (List.replicate n 32 ++ 35 :: r))).map tl = (35 :: q) :: qs.filter fun p => decide (p ≠ []) := by rw [wordsM_tl, e, e3]
    cases h : wordsM (mkS (List.replicate n 32 ++ 35 :: r)) with
    | nil => rw [h] at e4; cases e4
    | cons a as =>
      rw [h] at e4
      injection e4 with e5 _
      show Txt.startswith a "#" = true
      have := starts_one a 35
      rw [e5] at this
      exact this.trans (decide_eq_true rfl)
def RowL (D : TreeD) (i : Nat) (l : List Nat) : Prop := ∃ gp tr : Nat, l = List.replicate (2 * D.dp i) 32 ++ (joinL (List.replicate (gp + 1) 32) ((shW (D.sh i) ++ [(D.sh i).name]).map tl) ++ List.replicate tr 32)
theorem shW_ne (s : Shp) : shW s ++ [s.name] ≠ [] := by simp
theorem sh_mem {D : TreeD} {i : Nat} (h : i < D.n) : D.sh i ∈ D.shs := by
  unfold TreeD.sh
  rw [List.getD_eq_getElem?_getD, List.getElem?_eq_getElem h]
  exact List.getElem_mem h
theorem name_new {D : TreeD} (W : D.WF) {i : Nat} (h : i < D.n) : (D.sh i).name ∉ (D.takeN i).shs.map Shp.name := by
  intro hm
  have nd := W.nm
  have e : D.shs.map Shp.name = (D.shs.take i).map Shp.name ++ (D.shs.drop i).map Shp.name := by rw [← List.map_append, List.take_append_drop]
  rw [e, List.nodup_append] at nd
  refine nd.2.2 _ hm (D.sh i).name ?_ rfl
  refine List.mem_map_of_mem ?_
  have e2 : D.shs.drop i = D.sh i :: D.shs.drop (i + 1) := by
    rw [List.drop_eq_getElem_cons h]
    unfold TreeD.sh
    rw [List.getD_eq_getElem?_getD, List.getElem?_eq_getElem h]
    rfl
  rw [e2]
  exact List.mem_cons_self
theorem row_good {D : TreeD} (g : Good D) {i : Nat} (hi : i < D.n) {l : List Nat} (h : RowL D i l) : rowM (D.takeN i) (mkS l) = .add (D.sh i) (D.e i) := by
  obtain ⟨gp, tr, h⟩ := h
  have W := g.wf
  have ok := W.ok _ (sh_mem hi)
  have fr := shW_free ok
  have fr' : ∀ p ∈ (shW (D.sh i) ++ [(D.sh i).name]).map tl, 32 ∉ p ∧ p ≠ [] := fun p hp => by
    obtain ⟨x, hx, rfl⟩ := List.mem_map.mp hp
    exact ⟨(fr x hx).1.1, fun e => (fr x hx).2 (eq_nil_tl.mpr e)⟩
  have hw : wordsM (mkS l) = shW (D.sh i) ++ [(D.sh i).name] := by
    refine wordsM_of ?_
    rw [tl_mkS, h, wordsL_blanks, wordsL_tail, wordsL_join gp _ fr']
  have hb : blanksM (mkS l) = 2 * D.dp i := by
    refine blanks_is (by rw [tl_mkS, h]) fun d r e => ?_
    cases e2 : (shW (D.sh i) ++ [(D.sh i).name]).map tl with
    | nil => simp at e2
    | cons w ws =>
      rw [e2] at fr' e
      have fw := fr' w List.mem_cons_self
      obtain ⟨c, r1, r2, e3, e4⟩ := joinL_head (S := List.replicate (gp + 1) 32) (ws := ws) fw.2
      rw [e4, List.cons_append] at e
      injection e with e5 _
      rw [← e5]
      exact fun z => fw.1 (by rw [e3, z]; exact List.mem_cons_self)
  have hn : (D.takeN i).n = i := Good.takeN_n (by omega)
  have ed : (2 * D.dp i) / 2 = D.dp i := by omega
  have eo : (2 * D.dp i) % 2 = 0 := by omega
  have he := g.eld i hi
  have hc := elder_cases (D.takeN i) (D.dp i)
  have d8 := W.d8 i hi
  have sz := W.sz
  unfold rowM
  rw [hw, hb, ed, eo, he, shapeM_back ok, if_neg ?_]
  · dsimp only
    rw [if_neg ?_, if_neg ?_, if_neg (by rw [hn]; omega)]
    · rintro ⟨z1, z2⟩
      have := W.el i hi
      have e0 : i = 0 := by omega
      subst e0
      have := W.top hi
      omega
    · rintro (z | z | z | z)
      · omega
      · omega
      · have := W.el i hi
        omega
      · exact name_new W hi z
  · rintro (z | z)
    · exact shW_ne _ z
    · have hd : wAt (shW (D.sh i) ++ [(D.sh i).name]) 0 = "leaf" ∨ wAt (shW (D.sh i) ++ [(D.sh i).name]) 0 = "minder" := by
        have hk := ok.kd
        generalize D.sh i = s at hk ⊢
        obtain ⟨k, nm, kp, a, b, m⟩ := s
        dsimp only at hk
        rcases kind6 hk with e | e | e | e | e | e <;> subst e
        · exact .inl rfl
        · exact .inl rfl
        · exact .inl rfl
        · exact .inr rfl
        · exact .inr rfl
        · exact .inr rfl
      rcases hd with e | e
      · rw [e] at z
        revert z
        decide +kernel
      · rw [e] at z
        revert z
        decide +kernel
def GoodRow (D : TreeD) (i : Nat) (l : List Nat) : Prop := ∃ pre post row, splitL 10 l = pre ++ row :: post ∧ (∀ p ∈ pre, SkipL p) ∧ (∀ p ∈ post, SkipL p) ∧ RowL D i row
theorem rows_is (x : Str) : rowsM x = (splitL 10 (tl x)).map mkS := by
  refine map_tl_inj ?_
  rw [List.map_map]
  have e := split_is (x := x) (y := "\n") (s := 10) rfl (by decide)
  refine e.trans ?_
  exact (List.map_id _).symm
theorem go_skips (D : TreeD) : ∀ (ps : List (List Nat)) (rs : List Str) (k : Nat), (∀ p ∈ ps, SkipL p) → readGo (ps.map mkS ++ rs) D k = readGo rs D (k + ps.length)
  | [], rs, k, _ => rfl
  | p :: ps, rs, k, h => by
    rw [List.map_cons, List.cons_append]
    show (match rowM D (mkS p) with
      | .skip => readGo (ps.map mkS ++ rs) D (k + 1)
      | .bad => .bad (k + 1)
      | .many => .many
      | .add s e => readGo (ps.map mkS ++ rs) (D.add s e) (k + 1)) = _
    rw [row_skip (h p List.mem_cons_self)]
    dsimp only
    rw [go_skips D ps rs (k + 1) fun q hq => h q (List.mem_cons_of_mem _ hq), List.length_cons, Nat.add_assoc, Nat.add_comm 1]
theorem splitL_join (s : Nat) : ∀ (ps : List (List Nat)), ps ≠ [] → splitL s (joinL [s] ps) = ps.flatMap (splitL s)
  | [p], _ => by simp [joinL]
  | p :: q :: r, _ => by
    show splitL s (p ++ ([s] ++ joinL [s] (q :: r))) = _
    rw [List.singleton_append, splitL_app, splitL_join s (q :: r) (by simp)]
    rfl
theorem go_good {D : TreeD} (g : Good D) (R : Nat → List Nat) : ∀ (m i k : Nat), i + m = D.n → (∀ j, i ≤ j → j < D.n → GoodRow D j (R j)) → readGo ((((List.range' i m).map R).flatMap (splitL 10)).map mkS) (D.takeN i) k = .ok D
  | 0, i, k, h, _ => by
    have hi : i = D.n := by omega
    subst hi
    have e : D.takeN D.n = D := by
      have W := g.wf
      unfold TreeD.takeN
      rw [List.take_of_length_le (show D.shs.length ≤ D.n from Nat.le_refl _), List.take_of_length_le (by rw [W.le]; exact Nat.le_refl _), List.take_of_length_le (by rw [W.ld]; exact Nat.le_refl _)]
    rw [e]
    show (if D.n = 0 then RR.top else .ok D) = _
    have := g.pos
    rw [if_neg (by omega)]
  | m + 1, i, k, h, hR => by
    obtain ⟨pre, post, row, e, h1, h2, h3⟩ := hR i (Nat.le_refl i) (by omega)
    rw [List.range'_succ, List.map_cons, List.flatMap_cons, e, List.append_assoc, List.cons_append, List.map_append, List.map_cons, go_skips _ _ _ _ h1]
    show (match rowM (D.takeN i) (mkS row) with
      | .skip => _
      | .bad => _
      | .many => _
      | .add s e => readGo _ ((D.takeN i).add s e) _) = _
    rw [row_good g (by omega) h3]
    dsimp only
    rw [g.add (by omega), List.map_append, go_skips _ _ _ _ h2]
    exact go_good g R m (i + 1) _ (by omega) fun j a b => hR j (by omega) b
theorem read_good {D : TreeD} (g : Good D) {x : Str} (R : Nat → List Nat) (hx : tl x = joinL [10] ((List.range D.n).map R)) (hR : ∀ i, i < D.n → GoodRow D i (R i)) : readM x = .ok D := by
  unfold readM
  have hne : (List.range D.n).map R ≠ [] := by
    have := g.pos
    intro e
    have := congrArg List.length e
    simp at this
    omega
  rw [rows_is, hx, splitL_join 10 _ hne, List.range_eq_range']
  exact go_good g R D.n 0 0 (by omega) fun j _ hj => hR j hj
theorem rows_len {D : TreeD} (g : Good D) {x : Str} (R : Nat → List Nat) (hx : tl x = joinL [10] ((List.range D.n).map R)) {m : Nat} (hR : ∀ i, i < D.n → (R i).length ≤ m) : ∀ r ∈ rowsM x, r.length ≤ m := by
  intro r hr
  have hne : (List.range D.n).map R ≠ [] := by
    have := g.pos
    intro e
    have := congrArg List.length e
    simp at this
    omega
  rw [rows_is, hx, splitL_join 10 _ hne] at hr
  obtain ⟨p, hp, rfl⟩ := List.mem_map.mp hr
  obtain ⟨q, hq, hp⟩ := List.mem_flatMap.mp hp
  obtain ⟨i, hi, rfl⟩ := List.mem_map.mp hq
  rw [len_tl, tl_mkS]
  exact Nat.le_trans (splitL_len 10 _ _ hp) (hR i (List.mem_range.mp hi))
end Mn

namespace Mn
open PySem PySem.Spec PyProof.Rows L2 TL
/-! ### the path of minders, row by row -/
structure PathOK (D : TreeD) (p : List Nat) : Prop where
  ne : 0 < p.length
  le : p.length ≤ 8
  at_ : ∀ i a : Nat, p[i]? = some a → a < D.n ∧ D.dp a = i ∧ 3 ≤ (D.sh a).kind
  up : ∀ i a b : Nat, p[i]? = some a → p[i + 1]? = some b → D.e b = (a : Int)
  last : ∀ a : Nat, p[p.length - 1]? = some a → a + 1 = D.n ∨ (D.e (D.n - 1) = (a : Int) ∧ D.dp (D.n - 1) = p.length)
theorem climb_path {D : TreeD} {p : List Nat} (P : PathOK D p) {j : Nat} (hj : 1 ≤ j) : ∀ (i f : Nat) (a : Nat), p[i]? = some a → j ≤ i + 1 → i < j + f → ∃ b, p[j - 1]? = some b ∧ climb D (j : Int) (f + 1) (a : Int) = (b : Int)
  | i, f, a, ha, h1, h2 => by
    obtain ⟨hn, hd, hk⟩ := P.at_ i a ha
    by_cases h : i + 1 = j
    · refine ⟨a, by rw [← h]; exact ha, ?_⟩
      rw [climb, if_neg]
      rintro ⟨_, z⟩
      rw [Int.toNat_natCast, hd] at z
      omega
    · obtain ⟨i', rfl⟩ : ∃ i', i = i' + 1 := ⟨i - 1, by omega⟩
      obtain ⟨f', rfl⟩ : ∃ f', f = f' + 1 := ⟨f - 1, by omega⟩
      have hl := (List.getElem?_eq_some_iff.mp ha).choose
      have hb : p[i']? = some p[i'] := List.getElem?_eq_getElem (by omega)
      have e := P.up i' _ a hb ha
      obtain ⟨b, h3, h4⟩ := climb_path P hj i' f' _ hb (by omega) (by omega)
      refine ⟨b, h3, ?_⟩
      rw [climb, if_pos ⟨by omega, by rw [Int.toNat_natCast, hd]; omega⟩, Int.toNat_natCast, e]
      exact h4
theorem elder_path {D : TreeD} {p : List Nat} (W : D.WF) (P : PathOK D p) {j : Nat} (hj : 1 ≤ j) (hp : j ≤ p.length) {b : Nat} (hb : p[j - 1]? = some b) : elderM D (j : Int) = (b : Int) := by
  have ne := P.ne
  have hl : p[p.length - 1]? = some p[p.length - 1] := List.getElem?_eq_getElem (by omega)
  have n0 : D.n ≠ 0 := by
    have := (P.at_ _ _ hl).1
    omega
  have n64 := W.sz
  have l8 := P.le
  have dpn : p.length ≤ D.n := by
    -- depths on the path are told by places of the tree: each is another row
    have : ∀ i a : Nat, p[i]? = some a → i ≤ a := fun i => by
      induction i with
      | zero => exact fun a _ => Nat.zero_le _
      | succ i ih =>
        intro a ha
        have hl := (List.getElem?_eq_some_iff.mp ha).choose
        have hb : p[i]? = some p[i] := List.getElem?_eq_getElem (by omega)
        have := ih _ hb
        have e := P.up i _ a hb ha
        have := W.e_lt (P.at_ _ _ ha).1
        omega
    have := this _ _ hl
    have := (P.at_ _ _ hl).1
    omega
  have key : climb D (j : Int) (D.n + 1) ((D.n : Int) - 1) = (b : Int) := by
    rcases P.last _ hl with h | ⟨h1, h2⟩
    · obtain ⟨b', h3, h4⟩ := climb_path P hj (p.length - 1) D.n _ hl (by omega) (by omega)
      rw [hb] at h3
      obtain rfl := Option.some.inj h3
      rw [show (D.n : Int) - 1 = ((p[p.length - 1] : Nat) : Int) by omega]
      exact h4
    · obtain ⟨m, em⟩ : ∃ m, D.n = m + 1 := ⟨D.n - 1, by omega⟩
      obtain ⟨b', h3, h4⟩ := climb_path P hj (p.length - 1) m _ hl (by omega) (by omega)
      rw [hb] at h3
      obtain rfl := Option.some.inj h3
      have e1 : ((D.n : Int) - 1).toNat = D.n - 1 := by omega
      rw [climb, if_pos ⟨by omega, by rw [e1, h2]; omega⟩, e1, h1, em]
      exact h4
  obtain ⟨hn, hd, hk⟩ := P.at_ _ _ hb
  unfold elderM
  rw [if_neg (by omega), if_neg n0, key, if_neg (by omega), Int.toNat_natCast, if_neg]
  rintro (z | z)
  · rw [hd] at z
    omega
  · omega
theorem add_n (D : TreeD) (s : Shp) (e : Int) : (D.add s e).n = D.n + 1 := by
  show (D.shs ++ [s]).length = _
  rw [List.length_append]
  rfl
theorem add_e_lt {D : TreeD} (W : D.WF) {s : Shp} {e : Int} {i : Nat} (h : i < D.n) : (D.add s e).e i = D.e i := getD_snoc_lt _ _ _ (by rw [W.le]; exact h)
theorem add_e_eq {D : TreeD} (W : D.WF) {s : Shp} {e : Int} : (D.add s e).e D.n = e := by
  have := getD_snoc_eq D.eld e (-1)
  rw [W.le] at this
  exact this
theorem add_dp_lt {D : TreeD} (W : D.WF) {s : Shp} {e : Int} {i : Nat} (h : i < D.n) : (D.add s e).dp i = D.dp i := getD_snoc_lt _ _ _ (by rw [W.ld]; exact h)
theorem add_dp_eq {D : TreeD} (W : D.WF) {s : Shp} {e : Int} : (D.add s e).dp D.n = if e < 0 then 0 else D.dp e.toNat + 1 := by
  have := getD_snoc_eq D.dps (if e < 0 then 0 else D.dp e.toNat + 1) 0
  rw [W.ld] at this
  exact this
theorem add_sh_lt {D : TreeD} {s : Shp} {e : Int} {i : Nat} (h : i < D.n) : (D.add s e).sh i = D.sh i := getD_snoc_lt _ _ _ h
theorem add_sh_eq {D : TreeD} {s : Shp} {e : Int} : (D.add s e).sh D.n = s := getD_snoc_eq D.shs s default
theorem add_takeN {D : TreeD} (W : D.WF) {s : Shp} {e : Int} {i : Nat} (h : i ≤ D.n) : (D.add s e).takeN i = D.takeN i := by
  show (⟨(D.shs ++ [s]).take i, (D.eld ++ [e]).take i, (D.dps ++ [_]).take i⟩ : TreeD) = ⟨_, _, _⟩
  rw [List.take_append_of_le_length h, List.take_append_of_le_length (by rw [W.le]; exact h), List.take_append_of_le_length (by rw [W.ld]; exact h)]
theorem takeN_all {D : TreeD} (W : D.WF) : D.takeN D.n = D := by
  unfold TreeD.takeN
  rw [List.take_of_length_le (show D.shs.length ≤ D.n from Nat.le_refl _), List.take_of_length_le (by rw [W.le]; exact Nat.le_refl _), List.take_of_length_le (by rw [W.ld]; exact Nat.le_refl _)]
/-- the top -/
theorem good_top {s : Shp} (ok : OkS s) (hk : 3 ≤ s.kind) : Good (TreeD.nil.add s (-1)) ∧ PathOK (TreeD.nil.add s (-1)) [0] := by
  have W : (TreeD.nil.add s (-1)).WF := WF_add WF_nil ok (d := 0) List.not_mem_nil (by decide) (by decide) (.inl ⟨rfl, rfl, rfl, hk⟩)
  refine ⟨⟨W, Nat.zero_lt_one, fun i hi => ?_⟩, ⟨by decide, by decide, fun i a h => ?_, fun i a b h1 h2 => ?_, fun a h => ?_⟩⟩
  · have : i = 0 := by have : i < 1 := hi; omega
    subst this
    rfl
  · have hi := (List.getElem?_eq_some_iff.mp h).choose
    have : i = 0 := by have : i < 1 := hi; omega
    subst this
    obtain rfl := Option.some.inj h
    exact ⟨Nat.zero_lt_one, rfl, hk⟩
  · have hi := (List.getElem?_eq_some_iff.mp h2).choose
    have : i + 1 < 1 := hi
    omega
  · obtain rfl := Option.some.inj h
    exact .inl rfl
/-- one more row -/
theorem good_row {D : TreeD} {p : List Nat} (g : Good D) (P : PathOK D p) {j b : Nat} (hj : 1 ≤ j) (hp : j ≤ p.length) (hb : p[j - 1]? = some b) {s : Shp} (ok : OkS s) (hn : s.name ∉ D.shs.map Shp.name) (h64 : D.n < 64) :
    Good (D.add s (b : Int)) ∧ (j < 8 → 3 ≤ s.kind → PathOK (D.add s (b : Int)) (p.take j ++ [D.n])) ∧ PathOK (D.add s (b : Int)) (p.take j) := by
  have W := g.wf
  obtain ⟨hbn, hbd, hbk⟩ := P.at_ _ _ hb
  have l8 := P.le
  have W' : (D.add s (b : Int)).WF := WF_add W ok hn (by omega) (d := j) (by omega) (.inr ⟨b, rfl, hbn, by omega, hbk⟩)
  have dn : (D.add s (b : Int)).dp D.n = j := by
    rw [add_dp_eq W, if_neg (by omega), Int.toNat_natCast, hbd]
    omega
  have lt : (p.take j).length = j := by rw [List.length_take]; omega
  have at1 : ∀ i a : Nat, (p.take j)[i]? = some a → a < (D.add s (b : Int)).n ∧ (D.add s (b : Int)).dp a = i ∧ 3 ≤ ((D.add s (b : Int)).sh a).kind := fun i a h => by
    have hi := (List.getElem?_eq_some_iff.mp h).choose
    rw [List.getElem?_take_of_lt (by omega)] at h
    obtain ⟨h1, h2, h3⟩ := P.at_ i a h
    exact ⟨by rw [add_n]; omega, by rw [add_dp_lt W h1, h2], by rw [add_sh_lt h1]; exact h3⟩
  have up1 : ∀ i a c : Nat, (p.take j)[i]? = some a → (p.take j)[i + 1]? = some c → (D.add s (b : Int)).e c = (a : Int) := fun i a c h1 h2 => by
    have hi := (List.getElem?_eq_some_iff.mp h2).choose
    rw [List.getElem?_take_of_lt (by omega)] at h1 h2
    rw [add_e_lt W (P.at_ _ _ h2).1]
    exact P.up i a c h1 h2
  have lastb : (p.take j)[j - 1]? = some b := by rw [List.getElem?_take_of_lt (by omega)]; exact hb
  refine ⟨⟨W', by rw [add_n]; omega, fun i hi => ?_⟩, fun h8 hk => ⟨by simp, by simp; omega, fun i a h => ?_, fun i a c h1 h2 => ?_, fun a h => ?_⟩, ⟨by omega, by omega, at1, up1, fun a h => ?_⟩⟩
  · rw [add_n] at hi
    rw [add_takeN W (by omega)]
    by_cases e : i < D.n
    · rw [add_dp_lt W e, add_e_lt W e]
      exact g.eld i e
    · have : i = D.n := by omega
      subst this
      rw [dn, add_e_eq W, takeN_all W]
      exact elder_path W P hj hp hb
  · have hi := (List.getElem?_eq_some_iff.mp h).choose
    rw [List.length_append, lt, List.length_singleton] at hi
    by_cases e : i < j
    · rw [List.getElem?_append_left (by omega)] at h
      exact at1 i a h
    · have : i = j := by omega
      subst this
      rw [List.getElem?_append_right (by omega), lt, Nat.sub_self] at h
      obtain rfl := Option.some.inj h
      exact ⟨by rw [add_n]; omega, dn, by rw [add_sh_eq]; exact hk⟩
  · have hi := (List.getElem?_eq_some_iff.mp h2).choose
    rw [List.length_append, lt, List.length_singleton] at hi
    by_cases e : i + 1 < j
    · rw [List.getElem?_append_left (by omega)] at h1 h2
      exact up1 i a c h1 h2
    · have : i + 1 = j := by omega
      rw [List.getElem?_append_right (by omega), lt, this, Nat.sub_self] at h2
      obtain rfl := Option.some.inj h2
      rw [List.getElem?_append_left (by omega)] at h1
      have e2 : i = j - 1 := by omega
      rw [e2, lastb] at h1
      obtain rfl := Option.some.inj h1
      exact add_e_eq W
  · rw [List.length_append, lt, List.length_singleton, Nat.add_sub_cancel, List.getElem?_append_right (by omega), lt, Nat.sub_self] at h
    obtain rfl := Option.some.inj h
    exact .inl (add_n D s _).symm
  · rw [lt, lastb] at h
    obtain rfl := Option.some.inj h
    refine .inr ⟨?_, ?_⟩
    · rw [add_n, Nat.add_sub_cancel]
      exact add_e_eq W
    · rw [add_n, Nat.add_sub_cancel, lt]
      exact dn
/-! names -/
def sg (i : Nat) : Nat := (tl signs36).getD i 0
theorem sg_at : ∀ i, i < 36 → (tl signs36)[i]? = some (sg i) ∧ alnum (sg i) = true := by decide +kernel
theorem sg_inj : ∀ i, i < 36 → ∀ j, j < 36 → sg i = sg j → i = j := by decide +kernel
def nameL (k : Nat) (mark : Int) : List Nat :=
  if mark % 11 = 5 ∧ k < 36 then [sg k] else
  List.replicate (mark % 7).toNat 113 ++ ([sg (k % 36), sg (((k / 36 : Nat) + mark) % 36).toNat] ++ List.replicate (mark / 7 % 5).toNat 113)
theorem nameL_fit (k : Nat) (mark : Int) : fitL (nameL k mark) = true := by
  unfold nameL fitL
  split
  · rename_i c
    rw [List.all_cons, (sg_at k c.2).2]
    rfl
  · have a1 := (sg_at (k % 36) (Nat.mod_lt _ (by decide))).2
    have a2 := (sg_at ((((k / 36 : Nat) : Int) + mark) % 36).toNat (by omega)).2
    rw [List.all_append, List.all_append, List.all_replicate, List.all_replicate, List.all_cons, List.all_cons, a1, a2, List.length_append, List.length_append, List.length_replicate, List.length_replicate]
    simp only [List.length_cons, List.length_nil, List.all_nil, Bool.and_true]
    rw [decide_eq_true (by omega), decide_eq_true (by omega)]
    have : alnum 113 = true := by decide
    rw [this]
    simp
theorem nameL_inj {k k' : Nat} {mark : Int} (h : k < 64) (h' : k' < 64) (e : nameL k mark = nameL k' mark) : k = k' := by
  unfold nameL at e
  split at e
  · rename_i c
    split at e
    · rename_i c'
      exact sg_inj k c.2 k' c'.2 (List.cons.inj e).1
    · have := congrArg List.length e
      simp at this
      omega
  · rename_i c
    split at e
    · have := congrArg List.length e
      simp at this
      omega
    · have e := List.append_cancel_left e
      have e := List.append_cancel_right e
      obtain ⟨e1, e2⟩ := List.cons.inj e
      have e2 := (List.cons.inj e2).1
      have h1 := sg_inj _ (Nat.mod_lt k (by decide)) _ (Nat.mod_lt k' (by decide)) e1
      have h2 := sg_inj _ (by omega) _ (by omega) e2
      omega
end Mn

namespace Mn
open PySem PySem.Spec PyProof.Rows L2 TL
/-! ### a tree's text, written -/
def rowTextL (D : TreeD) (i : Nat) : List Nat := List.replicate (2 * D.dp i) 32 ++ joinL [32] ((shW (D.sh i) ++ [(D.sh i).name]).map tl)
def writtenL (D : TreeD) : List Nat := joinL [10] ((List.range D.n).map (rowTextL D))
theorem num_len {i : Int} (h : 0 ≤ i ∧ i ≤ 1000000) : (Str.ofString (toString i)).length ≤ 7 := by
  obtain ⟨n, rfl⟩ : ∃ n : Nat, i = (n : Int) := ⟨i.toNat, by omega⟩
  rw [len_tl, tl_num]
  exact numL_len (by decide) (show n < 10 ^ 7 by omega)
theorem shW_len {s : Shp} (ok : OkS s) : (∀ x ∈ shW s ++ [s.name], x.length ≤ 12) ∧ (shW s ++ [s.name]).length ≤ 7 := by
  obtain ⟨k, nm, kp, a, b, m⟩ := s
  have f1 : kp.length ≤ 6 := (by decide +kernel : ∀ k ∈ keeps3, k.length ≤ 6) kp ok.kp
  have f2 := num_len ok.a0
  have f3 := num_len ok.b0
  have f4 := num_len ok.m0
  have f5 : nm.length ≤ 12 := by rw [len_tl]; exact (by have := ok.nm; unfold fitL at this; rw [Bool.and_eq_true, Bool.and_eq_true, decide_eq_true_eq, decide_eq_true_eq] at this; exact this.1.2)
  have lits : ∀ x ∈ (["leaf", "idle", "steady", "falls", "minder", "one", "all", "rest"] : List Str), x.length ≤ 12 := by decide +kernel
  have g := ok.kd
  dsimp only at f2 f3 f4 g
  rcases kind6 g with rfl | rfl | rfl | rfl | rfl | rfl
  · rw [shW_0]
    refine ⟨fun x hx => ?_, by show 6 ≤ 7; decide⟩
    simp only [List.cons_append, List.nil_append, List.mem_cons, List.not_mem_nil, or_false] at hx
    rcases hx with rfl | rfl | rfl | rfl | rfl | rfl
    · exact lits _ (by decide)
    · omega
    · omega
    · omega
    · exact lits _ (by decide)
    · exact f5
  · rw [shW_1]
    refine ⟨fun x hx => ?_, by show 7 ≤ 7; decide⟩
    simp only [List.cons_append, List.nil_append, List.mem_cons, List.not_mem_nil, or_false] at hx
    rcases hx with rfl | rfl | rfl | rfl | rfl | rfl | rfl
    · exact lits _ (by decide)
    · omega
    · omega
    · omega
    · exact lits _ (by decide)
    · omega
    · exact f5
  · rw [shW_2]
    refine ⟨fun x hx => ?_, by show 7 ≤ 7; decide⟩
    simp only [List.cons_append, List.nil_append, List.mem_cons, List.not_mem_nil, or_false] at hx
    rcases hx with rfl | rfl | rfl | rfl | rfl | rfl | rfl
    · exact lits _ (by decide)
    · omega
    · omega
    · omega
    · exact lits _ (by decide)
    · omega
    · exact f5
  · rw [shW_3]
    refine ⟨fun x hx => ?_, by show 6 ≤ 7; decide⟩
    simp only [List.cons_append, List.nil_append, List.mem_cons, List.not_mem_nil, or_false] at hx
    rcases hx with rfl | rfl | rfl | rfl | rfl | rfl
    · exact lits _ (by decide)
    · omega
    · exact lits _ (by decide)
    · omega
    · omega
    · exact f5
  · rw [shW_4]
    refine ⟨fun x hx => ?_, by show 6 ≤ 7; decide⟩
    simp only [List.cons_append, List.nil_append, List.mem_cons, List.not_mem_nil, or_false] at hx
    rcases hx with rfl | rfl | rfl | rfl | rfl | rfl
    · exact lits _ (by decide)
    · omega
    · exact lits _ (by decide)
    · omega
    · omega
    · exact f5
  · rw [shW_5]
    refine ⟨fun x hx => ?_, by show 6 ≤ 7; decide⟩
    simp only [List.cons_append, List.nil_append, List.mem_cons, List.not_mem_nil, or_false] at hx
    rcases hx with rfl | rfl | rfl | rfl | rfl | rfl
    · exact lits _ (by decide)
    · omega
    · exact lits _ (by decide)
    · omega
    · omega
    · exact f5
theorem sum_le {m : Nat} : ∀ ws : List Str, (∀ x ∈ ws, x.length ≤ m) → (ws.map fun x => x.length).sum ≤ ws.length * m
  | [], _ => Nat.zero_le _
  | a :: r, h => by
    have := sum_le r fun x hx => h x (List.mem_cons_of_mem _ hx)
    have h1 := h a List.mem_cons_self
    rw [List.map_cons, List.sum_cons, List.length_cons, Nat.succ_mul]
    omega
theorem joinL_len (S : List Nat) {m : Nat} : ∀ ws : List (List Nat), (∀ p ∈ ws, p.length ≤ m) → (joinL S ws).length ≤ ws.length * (m + S.length)
  | [], _ => Nat.zero_le _
  | [p], h => by
    have := h p List.mem_cons_self
    show p.length ≤ 1 * _
    omega
  | p :: q :: r, h => by
    have := joinL_len S (q :: r) fun x hx => h x (List.mem_cons_of_mem _ hx)
    have h1 := h p List.mem_cons_self
    show (p ++ (S ++ joinL S (q :: r))).length ≤ _
    rw [List.length_append, List.length_append, List.length_cons, Nat.succ_mul]
    omega
theorem tl_joinT (y : Str) (ws : List Str) : tl (Txt.join y ws) = joinL (tl y) (ws.map tl) := by rw [join_eq, tl_join]
theorem mem_joinL (S : List Nat) {c : Nat} : ∀ ws : List (List Nat), c ∈ joinL S ws → c ∈ S ∨ ∃ p ∈ ws, c ∈ p
  | [], h => absurd h List.not_mem_nil
  | [p], h => .inr ⟨p, List.mem_cons_self, h⟩
  | p :: q :: r, h => by
    have h : c ∈ p ++ (S ++ joinL S (q :: r)) := h
    rcases List.mem_append.mp h with h | h
    · exact .inr ⟨p, List.mem_cons_self, h⟩
    rcases List.mem_append.mp h with h | h
    · exact .inl h
    rcases mem_joinL S (q :: r) h with h | ⟨x, hx, h⟩
    · exact .inl h
    · exact .inr ⟨x, List.mem_cons_of_mem _ hx, h⟩
theorem row_free {D : TreeD} (W : D.WF) {i : Nat} (hi : i < D.n) : 10 ∉ rowTextL D i := by
  intro h
  unfold rowTextL at h
  rcases List.mem_append.mp h with h | h
  · have := (List.mem_replicate.mp h).2
    omega
  rcases mem_joinL _ _ h with h | ⟨p, hp, h⟩
  · have := List.mem_singleton.mp h
    omega
  · obtain ⟨x, hx, rfl⟩ := List.mem_map.mp hp
    exact (shW_free (W.ok _ (sh_mem hi)) x hx).1.2 h
theorem good_plain {D : TreeD} (W : D.WF) {i : Nat} (hi : i < D.n) : GoodRow D i (rowTextL D i) :=
  ⟨[], [], rowTextL D i, by rw [splitL_free (row_free W hi)]; rfl, fun p hp => absurd hp List.not_mem_nil, fun p hp => absurd hp List.not_mem_nil, 0, 0, by
    rw [List.replicate_zero, List.append_nil]
    rfl⟩
theorem rowText_len {D : TreeD} (W : D.WF) {i : Nat} (hi : i < D.n) : (rowTextL D i).length ≤ 107 := by
  have ok := W.ok _ (sh_mem hi)
  have d8 := W.d8 i hi
  unfold rowTextL
  rw [List.length_append, List.length_replicate]
  have := joinL_len (m := 12) [32] ((shW (D.sh i) ++ [(D.sh i).name]).map tl) fun p hp => by
    obtain ⟨x, hx, rfl⟩ := List.mem_map.mp hp
    rw [← len_tl]
    exact (shW_len ok).1 x hx
  have h2 : ((shW (D.sh i) ++ [(D.sh i).name]).map tl).length * (12 + [32].length) ≤ 7 * 13 := by
    rw [List.length_map]
    exact Nat.mul_le_mul (shW_len ok).2 (Nat.le_refl _)
  omega
/-- a text of the rows as they are told is read as the tree -/
theorem read_written {D : TreeD} (g : Good D) {x : Str} (hx : tl x = writtenL D) : readM x = .ok D ∧ (∀ r ∈ rowsM x, r.length ≤ 640) ∧ x.length ≤ 100000 := by
  have W := g.wf
  refine ⟨read_good g _ hx fun i hi => good_plain W hi, rows_len g _ hx fun i hi => Nat.le_trans (rowText_len W hi) (by decide), ?_⟩
  rw [len_tl, hx]
  have := joinL_len (m := 107) [10] ((List.range D.n).map (rowTextL D)) fun p hp => by
    obtain ⟨i, hi, rfl⟩ := List.mem_map.mp hp
    exact rowText_len W (List.mem_range.mp hi)
  have sz := W.sz
  have h2 : ((List.range D.n).map (rowTextL D)).length * (107 + [10].length) ≤ 64 * 108 := by
    rw [List.length_map, List.length_range]
    exact Nat.mul_le_mul sz (Nat.le_refl _)
  unfold writtenL
  omega
end Mn

namespace Mn
open PySem PySem.Spec PyProof.Rows L2 TL
section
variable {P : Program} {w : World} {K : PySem.W.Frag} {mg : Str → Option Value} {base : Heap}
def spWritten (CT : Addr) (cls : Nat → Addr) : Sp := fun vs H Q _ => ∃ (A : TA) (D : TreeD), vs = [.ref A.t] ∧ TR CT cls A D H ∧ D.WF ∧ ∀ y H', Same H H' → tl y = writtenL D → Q (.str y) H'
theorem ok_written {CT : Addr} {cls : Nat → Addr} {f : Addr} {fd : FuncData} (F : Fun K "written" "written" s_written f fd) (T : Bt mg) (cT : ClsF K CT treeN) (kc : KdC K cls) (kw : KdW P w K mg base cls) (MD : MthG P w K mg base CT "depth" 1 ["self", "at"] [] (spDepth CT cls)) :
    FnG P w K mg base 3 f fd ["tree"] (spWritten CT cls) := by
  refine okG F sc_written (fun vs H Q E h => ?_) (fun cdv A outer s H vs Q E calm_ pn_ hr h => ?_)
  · obtain ⟨A, D, rfl, _⟩ := h
    rfl
  obtain ⟨A, D, rfl, R, W, q⟩ := h
  have hsl := PySem.sizeLine_eq
  have ht := R.ht
  unfold treeF at ht
  have hsh := R.hsh
  have lps := R.lps
  have sz := W.sz
  refine ⟨_, (pss_cons (ps_set (i := 1) sc_written.nd rfl (Or.inl rfl) (pe_lst pa_nil))
    (pss_cons (ps_forG PassesOwn.never hr.gc (pi_range1G rfl T.range (pa_cons (pe_callB (kLenL (K := K) rfl) (by rfl) T.len (by decide +kernel) (pa_cons (kFld (K := K) rfl (pv 0)) pa_nil)) pa_nil)) (pg_name (i := 2) sc_written.nd rfl (Or.inl rfl)) (pss_cons (ps_set (i := 3) sc_written.nd rfl (Or.inl rfl) (pe_ix (kIxL (K := K) rfl) (kFld (K := K) rfl (pv 0)) (pv 2) (fun _ _ => rfl)))
    (pss_one (ps_expr (kBm (K := K) rfl PySem.F.plainAttrs_list PySem.F.slot_list_append PySem.F.type_list_append mt_append (pv 1) (pa_cons (pe_op op_addS (pe_op op_mul_str pe_str (pe_maG (P := P) (w := w) (K := K) (mg := mg) (base := base) ⟨rfl, rfl, rfl, rfl, rfl⟩ hr (pv 0) (pa_cons (pv 2) pa_nil))) (pe_join pe_str (pe_op op_cat (pe_ma0G (P := P) (w := w) (K := K) (mg := mg) (base := base) ⟨rfl, rfl, rfl, rfl, rfl⟩ hr (pv 3)) (pe_lst (pa_cons (kFld (K := K) rfl (pv 3)) pa_nil))))) pa_nil))))))
    (pss_one (ps_ret (pe_join pe_str (pv 1)))))), ?_⟩
  walk_at "rd"
  refine ⟨by walk_at "sz", fun r hr1 => ?_⟩
  have s1 := same_new hr1 (.lst [])
  have ht1 := s1 _ _ ht
  have hsh1 := s1 _ _ hsh
  walk_at "rd"
  rw [List.length_map, lps]
  refine w_forR (fun i σ H' => ∃ (v2 v3 : Option V) (ys : List Str), σ = [some (.ref A.t), some (.ref r), v2, v3] ∧ Same H H' ∧ H' r = some (.lst (ys.map V.str)) ∧ ys.map tl = (List.range i).map (rowTextL D)) (by omega) (by omega) ⟨_, _, [], rfl, s1, upd_same, rfl⟩ (fun i σ H' hi hm => ?_) (fun σ H' hm => ?_)
  · obtain ⟨v2, v3, ys, rfl, s2, er, ey⟩ := hm
    have hi : i < D.n := by omega
    have ly : ys.length = i := by have := congrArg List.length ey; rw [List.length_map, List.length_map, List.length_range] at this; exact this
    have R2 := R.same s2
    have ht2 := s2 _ _ ht
    have hsh2 := s2 _ _ hsh
    have hp : A.ps[i]? = some A.ps[i] := List.getElem?_eq_getElem (by omega)
    generalize A.ps[i] = p at hp
    obtain ⟨dx, hs⟩ := R2.hps i p hp
    have ok := W.ok _ (sh_mem hi)
    have cp := kc.cf _ ok.kd
    walk_at "rd"
    refine w_ixL (v := .ref p) (SqL.of hsh2) (at_nat (i := i) (by omega) (by rw [List.getElem?_map, hp]; rfl)) ?_
    walk_at "rd"
    refine w_ma1G ht2 cT.cl rfl MD (by decide) ?_
    walk_at "rd"
    refine ⟨A, D, i, by rw [Int.zero_add]; rfl, R2, W, hi, ?_⟩
    have d8 := W.d8 i hi
    refine w_mulS (by decide) (by omega) ?_
    have t1 : tl (Txt.mul ("  " : Str) ((D.dp i : Nat) : Int)) = List.replicate (2 * D.dp i) 32 := tl_mul2 32 (D.dp i)
    generalize Txt.mul ("  " : Str) ((D.dp i : Nat) : Int) = y1 at t1
    have l1 : y1.length ≤ 16 := by rw [len_tl, t1, List.length_replicate]; omega
    walk_at "rd"
    refine w_ma1G hs cp.cl (fld_words _) (kw.words _ ok.kd) (by decide) ?_
    walk_at "rd"
    refine ⟨p, dx, D.sh i, rfl, hs, rfl, ok, fun b H3 hb s3 eb => ?_⟩
    have hs3 := s3 _ _ hs
    walk_at "rd"
    refine w_fld1 hs3 cp.cl (cp.no _ (attr_name _)) (fld_name _) ?_
    walk_at "rd"
    refine ⟨by walk_at "sz", fun c hc => ?_⟩
    have sl := shW_len ok
    rw [List.length_append, List.length_singleton] at sl
    refine w_cat ((upd_ne (ne_of_none eb hc)).trans eb) upd_same (by rw [List.length_map]; show _ + 1 ≤ _; omega) fun d hd => ?_
    have ed : upd (upd H3 c (.lst [V.str (D.sh i).name])) d (.lst ((shW (D.sh i)).map V.str ++ [V.str (D.sh i).name])) d = some (.lst ((shW (D.sh i) ++ [(D.sh i).name]).map V.str)) := by rw [upd_same, List.map_append]; rfl
    have s4 : Same H' (upd (upd H3 c (.lst [V.str (D.sh i).name])) d (.lst ((shW (D.sh i)).map V.str ++ [V.str (D.sh i).name]))) := same_upd (same_upd s3 hc) hd
    have sw := sum_le _ (shW_len ok).1
    refine ⟨_, d, shW (D.sh i) ++ [(D.sh i).name], rfl, rfl, .inl (SqL.of ed), ?_, ?_⟩
    · rw [List.length_append, List.length_singleton] at sw ⊢
      show _ + _ * 1 ≤ _
      omega
    have t2 := tl_joinT " " (shW (D.sh i) ++ [(D.sh i).name])
    have l2 : (Txt.join " " (shW (D.sh i) ++ [(D.sh i).name])).length ≤ 7 * 13 := by
      rw [len_tl, t2]
      refine Nat.le_trans (joinL_len (m := 12) _ _ fun p hp => ?_) ?_
      · obtain ⟨x, hx, rfl⟩ := List.mem_map.mp hp
        rw [← len_tl]
        exact (shW_len ok).1 x hx
      · rw [List.length_map]
        exact Nat.mul_le_mul (shW_len ok).2 (Nat.le_refl _)
    generalize Txt.join " " (shW (D.sh i) ++ [(D.sh i).name]) = y2 at t2 l2
    refine w_addS (by omega) ?_
    walk_at "rd"
    refine ⟨_, _, ys ++ [y1 ++ y2], rfl, same_mut (s2.trans s4) hr1, ?_, ?_⟩
    · rw [upd_same, List.map_append]
      rfl
    · rw [List.map_append, ey, List.range_succ, List.map_append, List.map_cons, tl_append, t1, t2]
      rfl
  · obtain ⟨v2, v3, ys, rfl, s2, er, ey⟩ := hm
    rw [Int.toNat_natCast] at ey
    have ly : ys.length = D.n := by have := congrArg List.length ey; rw [List.length_map, List.length_map, List.length_range] at this; exact this
    have hlen : ∀ x ∈ ys, x.length ≤ 107 := fun x hx => by
      have hm : tl x ∈ (List.range D.n).map (rowTextL D) := by rw [← ey]; exact List.mem_map_of_mem hx
      obtain ⟨i, hi, e⟩ := List.mem_map.mp hm
      have hi := List.mem_range.mp hi
      have ok := W.ok _ (sh_mem hi)
      have d8 := W.d8 i hi
      rw [len_tl, ← e]
      unfold rowTextL
      rw [List.length_append, List.length_replicate]
      have := joinL_len (m := 12) [32] ((shW (D.sh i) ++ [(D.sh i).name]).map tl) fun p hp => by
        obtain ⟨x, hx, rfl⟩ := List.mem_map.mp hp
        rw [← len_tl]
        exact (shW_len ok).1 x hx
      have h2 : ((shW (D.sh i) ++ [(D.sh i).name]).map tl).length * (12 + [32].length) ≤ 7 * 13 := by
        rw [List.length_map]
        exact Nat.mul_le_mul (shW_len ok).2 (Nat.le_refl _)
      omega
    have sw := sum_le ys hlen
    walk_at "rd"
    refine ⟨_, r, ys, rfl, rfl, .inl (SqL.of er), ?_, ?_⟩
    · show _ + _ * 1 ≤ _
      omega
    walk_at "rd"
    refine q _ _ s2 ?_
    rw [tl_joinT, ey]
    rfl
end
end Mn

namespace Mn
open PySem L2
section
variable {P : Program} {w : World} {K : PySem.W.Frag} {mg : Str → Option Value} {base : Heap}
def cellAt (ns : List Int) (k : Nat) : Int := ns.getD k 0
def spCell (K : PySem.W.Frag) : Sp := fun vs H Q _ => ∃ (a : Addr) (ns : List Int) (k : Nat), vs = [.ref a, .int (k : Int)] ∧ SqL K H a (ns.map V.int) ∧ ns.length ≤ 1000 ∧ Q (.int (cellAt ns k)) H
theorem ok_cell {f : Addr} {fd : FuncData} (F : Fun K "_law_cell_at" "_law_cell_at" s_law_cell_at f fd) (T : Bt mg) : FnOk P w K mg base CX0 1 f fd ["_law_script", "_law_k"] (spCell K) := by
  refine F.ok sc_law_cell_at (fun vs H Q E h => ?_) (fun cdv A outer s H vs Q E hr h => ?_)
  · obtain ⟨a, ns, k, rfl, _⟩ := h
    rfl
  obtain ⟨a, ns, k, rfl, hS, h1, q⟩ := h
  unfold cellAt at q
  refine ⟨_, (pss_cons (ps_if (pt_cmpR op_lt (pv 1) (pe_callB (kLenL (K := K) rfl) (by rfl) T.len (by decide +kernel) (pa_cons (pv 0) pa_nil)) (nomark _)) (pss_one (ps_ret (pe_ix (kIxL (K := K) rfl) (pv 0) (pv 1) (fun _ _ => rfl)))) pss_nil)
    (pss_one (ps_ret pe_int))), ?_⟩
  walk_at "rd"
  walk_at "if"
  all_goals rename_i c
  all_goals rw [List.length_map] at c
  all_goals walk_at "rd"
  · have e := at_ints (ns := ns) (k := (k : Int)) (by omega) c
    rw [Int.toNat_natCast] at e
    exact w_ixL hS e q
  · have e : ns.getD k 0 = 0 := by simp [List.getD, List.getElem?_eq_none (show ns.length ≤ k by omega)]
    rw [e] at q
    exact q
end
end Mn

namespace Mn
open PySem PySem.Spec PyProof.Rows L2 TL
section
variable {P : Program} {w : World} {K : PySem.W.Frag} {mg : Str → Option Value} {base : Heap}
def spNm : Sp := fun vs H Q _ => ∃ (k : Nat) (mark : Int), vs = [.int (k : Int), .int mark] ∧ ∀ y, tl y = nameL k mark → Q (.str y) H
theorem ok_nm {f : Addr} {fd : FuncData} (F : Fun K "_law_name" "_law_name" s_law_name f fd) : FnOk P w K mg base CX0 1 f fd ["_law_k", "_law_mark"] spNm := by
  refine F.ok sc_law_name (fun vs H Q E h => ?_) (fun cdv A outer s H vs Q E hr h => ?_)
  · obtain ⟨k, mark, rfl, _⟩ := h
    rfl
  obtain ⟨k, mark, rfl, q⟩ := h
  have hz := PySem.sizeLine_eq
  refine ⟨_, (pss_cons (ps_set (i := 2) sc_law_name.nd rfl (Or.inl rfl) pe_str)
    (C8.pss_cut (ps_if (PW.pt (pw_and (pt_cmpR op_eq (pe_op op_mod (pv 1) pe_int) pe_int (nomark _)) (pw_and1 (pt_cmpR op_lt (pv 0) pe_int (nomark _))))) (pss_one (ps_ret (pe_ix ix_str (pv 2) (pv 0) (fun _ _ => rfl)))) pss_nil)
    (pss_cons (ps_set (i := 3) sc_law_name.nd rfl (Or.inl rfl) (pe_op op_addS (pe_ix ix_str (pv 2) (pe_op op_mod (pv 0) pe_int) (fun _ _ => rfl)) (pe_ix ix_str (pv 2) (pe_op op_mod (pe_op op_add (pe_op op_fdiv (pv 0) pe_int) (pv 1)) pe_int) (fun _ _ => rfl))))
    (pss_one (ps_ret (pe_op op_addS (pe_op op_addS (pe_op op_mul_str pe_str (pe_op op_mod (pv 1) pe_int)) (pv 3)) (pe_op op_mul_str pe_str (pe_op op_mod (pe_op op_fdiv (pv 1) pe_int) pe_int)))))))), ?_⟩
  have l36 : signs36.length = 36 := by decide +kernel
  walk_at "rd"
  refine w_cut (fun σ H' => σ = [some (.int (k : Int)), some (.int mark), some (.str signs36), none] ∧ H = H' ∧ ¬ (mark % 11 = 5 ∧ k < 36)) ?_ (fun σ H' hm => ?_)
  · walk_at "rd"
    by_cases c1 : mark % 11 = 5
    case neg =>
      rw [decide_eq_false (fun z => c1 (V.int.inj z))]
      walk_at "rd"
      exact ⟨rfl, rfl, fun z => c1 z.1⟩
    rw [decide_eq_true (congrArg V.int c1)]
    walk_at "rd"
    by_cases c2 : k < 36
    case neg =>
      rw [decide_eq_false (show ¬ (k : Int) < 36 by omega)]
      walk_at "rd"
      exact ⟨rfl, rfl, fun z => c2 z.2⟩
    rw [decide_eq_true (show (k : Int) < 36 by omega)]
    walk_at "rd"
    refine w_ixS (c := sg k) (by decide) (atI_nat (sg_at k c2).1) ?_
    refine q _ ?_
    unfold nameL
    rw [if_pos ⟨c1, c2⟩]
  obtain ⟨rfl, rfl, c⟩ := hm
  walk_at "rd"
  have e1 : (k : Int) % 36 = ((k % 36 : Nat) : Int) := by omega
  rw [e1]
  refine w_ixS (c := sg (k % 36)) (by decide) (atI_nat (sg_at _ (Nat.mod_lt _ (by decide))).1) ?_
  walk_at "rd"
  have e2 : ((k : Int) / 36 + mark) % 36 = (((((k / 36 : Nat) : Int) + mark) % 36).toNat : Int) := by omega
  rw [e2]
  refine w_ixS (c := sg ((((k / 36 : Nat) : Int) + mark) % 36).toNat) (by decide) (atI_nat (sg_at _ (by omega)).1) ?_
  refine w_addS (by show 1 + 1 ≤ _; omega) ?_
  generalize hx2 : (⟨#[sg (k % 36)]⟩ : Str) ++ (⟨#[sg ((((k / 36 : Nat) : Int) + mark) % 36).toNat]⟩ : Str) = two
  have t2 : tl two = [sg (k % 36), sg ((((k / 36 : Nat) : Int) + mark) % 36).toNat] := by rw [← hx2, tl_append]; rfl
  have l2 : two.length = 2 := by rw [len_tl, t2]; rfl
  walk_at "rd"
  have e3 : mark % 7 = ((mark % 7).toNat : Int) := by omega
  have e4 : mark / 7 % 5 = ((mark / 7 % 5).toNat : Int) := by omega
  rw [e3]
  refine w_mulS (by decide) (by omega) ?_
  have t3 : tl (Txt.mul ("q" : Str) ((mark % 7).toNat : Int)) = List.replicate (mark % 7).toNat 113 := tl_mul1 113 (mark % 7).toNat
  generalize Txt.mul ("q" : Str) ((mark % 7).toNat : Int) = y1 at t3
  walk_at "rd"
  have ly1 : y1.length ≤ 6 := by rw [len_tl, t3, List.length_replicate]; omega
  refine w_addS (by omega) ?_
  have t5 : tl (y1 ++ two) = tl y1 ++ tl two := tl_append _ _
  have l5 : (y1 ++ two).length ≤ 8 := by rw [len_tl, t5, List.length_append, ← len_tl, ← len_tl]; omega
  generalize y1 ++ two = y2 at t5 l5
  walk_at "rd"
  rw [e4]
  refine w_mulS (by decide) (by omega) ?_
  have t4 : tl (Txt.mul ("q" : Str) ((mark / 7 % 5).toNat : Int)) = List.replicate (mark / 7 % 5).toNat 113 := tl_mul1 113 (mark / 7 % 5).toNat
  generalize Txt.mul ("q" : Str) ((mark / 7 % 5).toNat : Int) = y3 at t4
  have l3 : y3.length ≤ 4 := by rw [len_tl, t4, List.length_replicate]; omega
  refine w_addS (by omega) ?_
  walk_at "rd"
  refine q _ ?_
  rw [tl_append, t5, t3, t2, t4, List.append_assoc]
  unfold nameL
  rw [if_neg c]
def spMinW : Sp := fun vs H Q _ => ∃ cell other : Int, vs = [.int cell, .int other] ∧ ∃ nm : Str, fitL (tl nm) = true ∧ ∀ s r H', s.name = nm → OkS s → 3 ≤ s.kind → H r = none → Same H H' → H' r = some (.lst ((shW s).map V.str)) → Q (.ref r) H'
def spLfW : Sp := fun vs H Q _ => ∃ cell other : Int, vs = [.int cell, .int other] ∧ ∃ nm : Str, fitL (tl nm) = true ∧ ∀ s r H', s.name = nm → OkS s → s.kind < 3 → H r = none → Same H H' → H' r = some (.lst ((shW s).map V.str)) → Q (.ref r) H'
abbrev keep4 : List Str := ["always", "fallen", "always", "never"]
abbrev way3 : List Str := ["one", "all", "rest"]
abbrev work4 : List Str := ["falls", "idle", "steady", "falls"]
theorem keep4_at (i : Int) (h0 : 0 ≤ i) (h4 : i < 4) : ∃ k, atI (keep4.map V.str) i = some (.str k) ∧ k ∈ keeps3 := by
  have : i = 0 ∨ i = 1 ∨ i = 2 ∨ i = 3 := by omega
  rcases this with rfl | rfl | rfl | rfl
  · exact ⟨"always", rfl, by decide⟩
  · exact ⟨"fallen", rfl, by decide⟩
  · exact ⟨"always", rfl, by decide⟩
  · exact ⟨"never", rfl, by decide⟩
theorem way3_at (i : Int) (h0 : 0 ≤ i) (h4 : i < 3) : ∃ k, atI (way3.map V.str) i = some (.str (wayS k)) ∧ 3 ≤ k ∧ k < 6 := by
  have : i = 0 ∨ i = 1 ∨ i = 2 := by omega
  rcases this with rfl | rfl | rfl
  · exact ⟨3, rfl, by decide, by decide⟩
  · exact ⟨4, rfl, by decide, by decide⟩
  · exact ⟨5, rfl, by decide, by decide⟩
def workS (k : Nat) : Str := if k = 0 then "idle" else if k = 1 then "steady" else "falls"
theorem work4_at (i : Int) (h0 : 0 ≤ i) (h4 : i < 4) : ∃ k, atI (work4.map V.str) i = some (.str (workS k)) ∧ k < 3 := by
  have : i = 0 ∨ i = 1 ∨ i = 2 ∨ i = 3 := by omega
  rcases this with rfl | rfl | rfl | rfl
  · exact ⟨2, rfl, by decide⟩
  · exact ⟨0, rfl, by decide⟩
  · exact ⟨1, rfl, by decide⟩
  · exact ⟨2, rfl, by decide⟩
theorem most8_at (i : Int) (h0 : 0 ≤ i) (h4 : i < 8) : ∃ n : Int, atI ([.int 9, .int 2, .int 30, .int 1, .int 3, .int 0, .int 9, .int 2] : List V) i = some (.int n) ∧ 0 ≤ n ∧ n ≤ 1000000 := by
  have : i = 0 ∨ i = 1 ∨ i = 2 ∨ i = 3 ∨ i = 4 ∨ i = 5 ∨ i = 6 ∨ i = 7 := by omega
  rcases this with rfl | rfl | rfl | rfl | rfl | rfl | rfl | rfl <;> exact ⟨_, rfl, by decide, by decide⟩
theorem shW_min {k : Nat} (h : 3 ≤ k) (nm kp : Str) (a b : Int) : shW ⟨k, nm, kp, a, b, 0⟩ = minWords kp (wayS k) a b := by
  unfold shW
  rw [if_neg (by show ¬ k < 3; omega)]
theorem ok_minw {f : Addr} {fd : FuncData} (F : Fun K "_law_minder_words" "_law_minder_words" s_law_minder_words f fd) (T : Bt mg) : FnOk P w K mg base CX0 1 f fd ["_law_cell", "_law_other"] spMinW := by
  refine F.ok sc_law_minder_words (fun vs H Q E h => ?_) (fun cdv A outer s H vs Q E hr h => ?_)
  · obtain ⟨cell, other, rfl, _⟩ := h
    rfl
  obtain ⟨cell, other, rfl, nm, hnm, q⟩ := h
  refine ⟨_, (pss_cons (ps_set (i := 2) sc_law_minder_words.nd rfl (Or.inl rfl) (pe_ix (kIxL (K := K) rfl) (pe_lst (pa_cons pe_str (pa_cons pe_str (pa_cons pe_str (pa_cons pe_str pa_nil))))) (pe_op op_mod (pe_op op_fdiv (pv 0) pe_int) pe_int) (fun _ _ => rfl)))
    (pss_cons (ps_set (i := 3) sc_law_minder_words.nd rfl (Or.inl rfl) (pe_ix (kIxL (K := K) rfl) (pe_lst (pa_cons pe_str (pa_cons pe_str (pa_cons pe_str pa_nil)))) (pe_op op_mod (pe_op op_fdiv (pv 0) pe_int) pe_int) (fun _ _ => rfl)))
    (pss_cons (ps_if (pt_cmpR op_eq (pe_op op_mod (pv 1) pe_int) pe_int (nomark _)) (pss_one (ps_ret (pe_lst (pa_cons pe_str (pa_cons (pv 2) (pa_cons (pv 3) (pa_cons (pe_callTy call_strI (by rfl) T.str (by decide +kernel) (pa_cons (pe_op op_mod (pv 1) pe_int) pa_nil)) (pa_cons (pe_callTy call_strI (by rfl) T.str (by decide +kernel) (pa_cons (pe_op op_add pe_int (pe_op op_mod (pe_op op_fdiv (pv 1) pe_int) pe_int)) pa_nil)) pa_nil)))))))) pss_nil)
    (pss_cons (ps_set (i := 4) sc_law_minder_words.nd rfl (Or.inl rfl) (pe_ix (kIxL (K := K) rfl) (pe_lst (pa_cons pe_int (pa_cons pe_int (pa_cons pe_int (pa_cons pe_int (pa_cons pe_int (pa_cons pe_int (pa_cons pe_int (pa_cons pe_int pa_nil))))))))) (pe_op op_mod (pv 1) pe_int) (fun _ _ => rfl)))
    (pss_one (ps_ret (pe_lst (pa_cons pe_str (pa_cons (pv 2) (pa_cons (pv 3) (pa_cons (pe_callTy call_strI (by rfl) T.str (by decide +kernel) (pa_cons (pv 4) pa_nil)) (pa_cons (pe_callTy call_strI (by rfl) T.str (by decide +kernel) (pa_cons (pe_op op_add pe_int (pe_op op_mod (pe_op op_fdiv (pv 1) pe_int) pe_int)) pa_nil)) pa_nil)))))))))))), ?_⟩
  walk_at "rd"
  refine ⟨by walk_at "sz", fun r1 h1 => ?_⟩
  walk_at "rd"
  obtain ⟨kp, ek, hk⟩ := keep4_at (cell / 5 % 4) (by omega) (by omega)
  refine w_ixL (SqL.of upd_same) ek ?_
  walk_at "rd"
  refine ⟨by walk_at "sz", fun r2 h2 => ?_⟩
  walk_at "rd"
  obtain ⟨k, ew, hw⟩ := way3_at (cell / 20 % 3) (by omega) (by omega)
  refine w_ixL (SqL.of upd_same) ew ?_
  walk_at "rd"
  have s2 := same_upd (o := .lst [V.str "one", V.str "all", V.str "rest"]) (same_new h1 (.lst [V.str "always", V.str "fallen", V.str "always", V.str "never"])) h2
  generalize upd (upd H r1 (.lst [V.str "always", V.str "fallen", V.str "always", V.str "never"])) r2 (.lst [V.str "one", V.str "all", V.str "rest"]) = H2 at s2 ⊢
  have fin : ∀ (a b : Int) r H', (0 ≤ a ∧ a ≤ 1000000) → (1 ≤ b ∧ b ≤ 1000000) → H' r = none → Same H H' → Q (.ref r) (upd H' r (.lst ((minWords kp (wayS k) a b).map V.str))) := fun a b r H' ha hb hr' hs => by
    refine q ⟨k, nm, kp, a, b, 0⟩ r _ rfl (okS_mk hw.2 hk hnm ha ⟨by omega, hb.2⟩ ⟨by decide, by decide⟩ (fun _ _ => rfl) (fun _ => hb.1)) hw.1 (hs.free hr') (same_upd hs hr') ?_
    rw [upd_same, shW_min hw.1]
  walk_at "if"
  · walk_at "rd"
    refine w_strI (smol_of (by omega)) ?_
    walk_at "rd"
    refine w_strI (smol_of (by omega)) ?_
    walk_at "rd"
    exact ⟨by walk_at "sz", fun r hr' => fin _ _ r H2 (by omega) (by omega) hr' s2⟩
  · walk_at "rd"
    refine ⟨by walk_at "sz", fun r3 h3 => ?_⟩
    walk_at "rd"
    obtain ⟨mo, em, hm⟩ := most8_at (other % 8) (by omega) (by omega)
    refine w_ixL (SqL.of upd_same) em ?_
    walk_at "rd"
    refine w_strI (smol_of (by omega)) ?_
    walk_at "rd"
    refine w_strI (smol_of (by omega)) ?_
    walk_at "rd"
    exact ⟨by walk_at "sz", fun r hr' => fin _ _ r _ hm (by omega) hr' (same_upd s2 h3)⟩
theorem shW_leaf {k : Nat} (h : k < 3) (nm kp : Str) (a b m : Int) : shW ⟨k, nm, kp, a, b, m⟩ = (["leaf", kp, toString a, toString b, workS k] : List Str) ++ (if k = 0 then ([] : List Str) else ([toString m] : List Str)) := by
  have : k = 0 ∨ k = 1 ∨ k = 2 := by omega
  rcases this with rfl | rfl | rfl <;> rfl
theorem ok_lfw {f : Addr} {fd : FuncData} (F : Fun K "_law_leaf_words" "_law_leaf_words" s_law_leaf_words f fd) (T : Bt mg) : FnOk P w K mg base CX0 1 f fd ["_law_cell", "_law_other"] spLfW := by
  refine F.ok sc_law_leaf_words (fun vs H Q E h => ?_) (fun cdv A outer s H vs Q E hr h => ?_)
  · obtain ⟨cell, other, rfl, _⟩ := h
    rfl
  obtain ⟨cell, other, rfl, nm, hnm, q⟩ := h
  refine ⟨_, (pss_cons (ps_set (i := 2) sc_law_leaf_words.nd rfl (Or.inl rfl) (pe_ix (kIxL (K := K) rfl) (pe_lst (pa_cons pe_str (pa_cons pe_str (pa_cons pe_str (pa_cons pe_str pa_nil))))) (pe_op op_mod (pe_op op_fdiv (pv 0) pe_int) pe_int) (fun _ _ => rfl)))
    (pss_cons (ps_set (i := 3) sc_law_leaf_words.nd rfl (Or.inl rfl) (pe_ix (kIxL (K := K) rfl) (pe_lst (pa_cons pe_str (pa_cons pe_str (pa_cons pe_str (pa_cons pe_str pa_nil))))) (pe_op op_mod (pe_op op_fdiv (pv 0) pe_int) pe_int) (fun _ _ => rfl)))
    (pss_cons (ps_set (i := 4) sc_law_leaf_words.nd rfl (Or.inl rfl) (pe_lst (pa_cons (pe_op op_mod (pv 1) pe_int) (pa_cons (pe_op op_mod (pe_op op_fdiv (pv 1) pe_int) pe_int) (pa_cons (pe_op op_mod (pe_op op_fdiv (pv 1) pe_int) pe_int) pa_nil)))))
    (C8.pss_cut (ps_if (pt_cmpR op_eq (pe_op op_mod (pv 1) pe_int) pe_int (nomark _)) (pss_one (ps_set (i := 4) sc_law_leaf_words.nd rfl (Or.inl rfl) (pe_lst (pa_cons (pe_op op_mod (pv 1) pe_int) (pa_cons (pe_op op_mod (pe_op op_fdiv (pv 1) pe_int) pe_int) (pa_cons (pe_op op_mod (pe_op op_fdiv (pv 1) pe_int) pe_int) pa_nil)))))) pss_nil)
    (pss_cons (ps_set (i := 5) sc_law_leaf_words.nd rfl (Or.inl rfl) (pe_lst (pa_cons pe_str (pa_cons (pv 2) (pa_cons (pe_callTy call_strI (by rfl) T.str (by decide +kernel) (pa_cons (pe_ix (kIxL (K := K) rfl) (pv 4) pe_int (fun _ _ => rfl)) pa_nil)) (pa_cons (pe_callTy call_strI (by rfl) T.str (by decide +kernel) (pa_cons (pe_ix (kIxL (K := K) rfl) (pv 4) pe_int (fun _ _ => rfl)) pa_nil)) (pa_cons (pv 3) pa_nil)))))))
    (C8.pss_cut (ps_if (pt_cmpR op_ne (pv 3) pe_str (nomark _)) (pss_one (ps_expr (kBm (K := K) rfl PySem.F.plainAttrs_list PySem.F.slot_list_append PySem.F.type_list_append mt_append (pv 5) (pa_cons (pe_callTy call_strI (by rfl) T.str (by decide +kernel) (pa_cons (pe_ix (kIxL (K := K) rfl) (pv 4) pe_int (fun _ _ => rfl)) pa_nil)) pa_nil)))) pss_nil)
    (pss_one (ps_ret (pv 5))))))))), ?_⟩
  walk_at "rd"
  refine ⟨by walk_at "sz", fun r1 h1 => ?_⟩
  walk_at "rd"
  obtain ⟨kp, ek, hk⟩ := keep4_at (cell / 5 % 4) (by omega) (by omega)
  refine w_ixL (SqL.of upd_same) ek ?_
  walk_at "rd"
  refine ⟨by walk_at "sz", fun r2 h2 => ?_⟩
  walk_at "rd"
  obtain ⟨k, ew, hw⟩ := work4_at (cell / 20 % 4) (by omega) (by omega)
  refine w_ixL (SqL.of upd_same) ew ?_
  walk_at "rd"
  have s2 := same_upd (o := .lst [V.str "falls", V.str "idle", V.str "steady", V.str "falls"]) (same_new h1 (.lst [V.str "always", V.str "fallen", V.str "always", V.str "never"])) h2
  generalize upd (upd H r1 (.lst [V.str "always", V.str "fallen", V.str "always", V.str "never"])) r2 (.lst [V.str "falls", V.str "idle", V.str "steady", V.str "falls"]) = H2 at s2 ⊢
  refine ⟨by walk_at "sz", fun r3 h3 => ?_⟩
  walk_at "rd"
  have s3 := same_upd (o := .lst [V.int (other % 4), V.int (other / 4 % 4), V.int (other / 16 % 5)]) s2 h3
  have e3 : upd H2 r3 (.lst [V.int (other % 4), V.int (other / 4 % 4), V.int (other / 16 % 5)]) r3 = some (.lst [V.int (other % 4), V.int (other / 4 % 4), V.int (other / 16 % 5)]) := upd_same
  generalize upd H2 r3 (.lst [V.int (other % 4), V.int (other / 4 % 4), V.int (other / 16 % 5)]) = H3 at s3 e3 ⊢
  refine w_cut (fun σ H' => ∃ (r : Addr) (a b m : Int), σ = [some (.int cell), some (.int other), some (.str kp), some (.str (workS k)), some (.ref r), none] ∧ Same H H' ∧ H' r = some (.lst [.int a, .int b, .int m]) ∧ (0 ≤ a ∧ a ≤ 1000000) ∧ (0 ≤ b ∧ b ≤ 1000000) ∧ (0 ≤ m ∧ m ≤ 1000000)) ?_ (fun σ H' hm => ?_)
  · walk_at "rd"
    walk_at "if"
    all_goals walk_at "rd"
    · refine ⟨by walk_at "sz", fun r4 h4 => ?_⟩
      walk_at "rd"
      exact ⟨r4, _, _, _, rfl, same_upd s3 h4, upd_same, by omega, by omega, by omega⟩
    · exact ⟨r3, _, _, _, rfl, s3, e3, by omega, by omega, by omega⟩
  obtain ⟨r, a, b, m, rfl, s4, e4, ha, hb, hm⟩ := hm
  walk_at "rd"
  refine w_ixL (SqL.of e4) (at_nat (i := 0) rfl rfl) ?_
  walk_at "rd"
  refine w_strI (smol_of (by omega)) ?_
  walk_at "rd"
  refine w_ixL (SqL.of e4) (at_nat (i := 1) rfl rfl) ?_
  walk_at "rd"
  refine w_strI (smol_of (by omega)) ?_
  walk_at "rd"
  refine ⟨by walk_at "sz", fun l hl => ?_⟩
  walk_at "rd"
  have s5 := same_upd (o := .lst [V.str "leaf", .str kp, .str (Str.ofString (toString a)), .str (Str.ofString (toString b)), .str (workS k)]) s4 hl
  have e5 : upd H' l (.lst [V.str "leaf", .str kp, .str (Str.ofString (toString a)), .str (Str.ofString (toString b)), .str (workS k)]) r = _ := (upd_ne (ne_of_none e4 hl)).trans e4
  refine w_cut (fun σ H'' => σ = [some (.int cell), some (.int other), some (.str kp), some (.str (workS k)), some (.ref r), some (.ref l)] ∧ Same H H'' ∧ H'' l = some (.lst ((shW ⟨k, nm, kp, a, b, if k = 0 then 0 else m⟩).map V.str))) ?_ (fun σ H'' hm' => ?_)
  · walk_at "rd"
    have hk0 : (V.str (workS k) = V.str "idle") ↔ k = 0 := by
      constructor
      · intro z
        have z := V.str.inj z
        unfold workS at z
        by_cases h0 : k = 0
        · exact h0
        · rw [if_neg h0] at z
          split at z
          · exact absurd (congrArg tl z) (by decide)
          · exact absurd (congrArg tl z) (by decide)
      · intro z
        rw [z]
        rfl
    by_cases h0 : k = 0
    · rw [decide_eq_true (hk0.mpr h0), Bool.not_true]
      walk_at "rd"
      refine ⟨rfl, s5, ?_⟩
      rw [upd_same, shW_leaf hw, if_pos h0]
      rfl
    · rw [decide_eq_false (fun z => h0 (hk0.mp z)), Bool.not_false]
      walk_at "rd"
      refine w_ixL (SqL.of e5) (at_nat (i := 2) rfl rfl) ?_
      walk_at "rd"
      refine w_strI (smol_of (by omega)) ?_
      walk_at "rd"
      refine ⟨rfl, same_mut s5 (s4.free hl), ?_⟩
      rw [upd_same, shW_leaf hw, if_neg h0, if_neg h0]
      rfl
  obtain ⟨rfl, s6, e6⟩ := hm'
  walk_at "rd"
  refine q _ l _ rfl (okS_mk (by omega) hk hnm ha hb (by split <;> omega) (fun z1 z2 => if_pos (by omega)) (fun z => by omega)) hw (s4.free hl) s6 e6
/-- the law's own lists of a tree -/
def LT (D : TreeD) (t : Addr) (H : Hp) : Prop := ∃ (a b c d : Addr) (ws : List Addr), H t = some (.tup [.ref a, .ref b, .ref c, .ref d]) ∧ H a = some (.lst (D.dps.map fun n : Nat => V.int n)) ∧ H b = some (.lst (D.eld.map V.int)) ∧ H c = some (.lst (ws.map V.ref)) ∧ ws.length = D.n ∧
  (∀ i w, ws[i]? = some w → H w = some (.lst ((shW (D.sh i)).map V.str))) ∧ H d = some (.lst (D.shs.map fun s => V.str s.name))
theorem LT.same {D : TreeD} {t : Addr} {H H' : Hp} (e : Same H H') (h : LT D t H) : LT D t H' := by
  obtain ⟨a, b, c, d, ws, h1, h2, h3, h4, h5, h6, h7⟩ := h
  exact ⟨a, b, c, d, ws, e _ _ h1, e _ _ h2, e _ _ h3, e _ _ h4, h5, fun i w hw => e _ _ (h6 i w hw), e _ _ h7⟩
def named (mark : Int) (D : TreeD) : Prop := ∀ i, i < D.n → (D.sh i).name = mkS (nameL i mark)
def spTree (K : PySem.W.Frag) : Sp := fun vs H Q _ => ∃ (a : Addr) (ns : List Int) (first count : Nat) (mark : Int), vs = [.ref a, .int (first : Int), .int (count : Int), .int mark] ∧ SqL K H a (ns.map V.int) ∧ ns.length ≤ 1000 ∧ 1 ≤ count ∧ count ≤ 64 ∧ ∀ D t H', Good D → named mark D → (∃ p, PathOK D p) → D.n = count → Same H H' → LT D t H' → Q (.ref t) H'
/-- what stands ahead of row i + 1 -/
def TInv (H : Hp) (a : Addr) (first count : Nat) (mark : Int) (i : Nat) (σ : L2.St) (H' : Hp) : Prop := ∃ (D : TreeD) (p : List Nat) (x y z q : Addr) (ws : List Addr) (v8 v9 v10 : Option V), σ = [some (.ref a), some (.int (first : Int)), some (.int (count : Int)), some (.int mark), some (.ref x), some (.ref y), some (.ref z), some (.ref q), v8, v9, v10, none] ∧
  Same H H' ∧ (H x = none ∧ H y = none ∧ H z = none) ∧ (x ≠ y ∧ x ≠ z ∧ y ≠ z) ∧ (q ≠ x ∧ q ≠ y ∧ q ≠ z) ∧ (∀ w ∈ ws, w ≠ x ∧ w ≠ y ∧ w ≠ z) ∧ H' x = some (.lst (D.dps.map fun n : Nat => V.int n)) ∧ H' y = some (.lst (D.eld.map V.int)) ∧ H' z = some (.lst (ws.map V.ref)) ∧ H' q = some (.lst (p.map fun n : Nat => V.int n)) ∧
  ws.length = D.n ∧ (∀ i w, ws[i]? = some w → H' w = some (.lst ((shW (D.sh i)).map V.str))) ∧ Good D ∧ PathOK D p ∧ D.n = i + 1 ∧ named mark D
theorem ok_tree {f : Addr} {fd : FuncData} (F : Fun K "_law_tree" "_law_tree" s_law_tree f fd) (T : Bt mg) (C0 : Cal P w K mg base CX0 "_law_cell_at" 1 ["_law_script", "_law_k"] [] (spCell K)) (CN : Cal P w K mg base CX0 "_law_name" 1 ["_law_k", "_law_mark"] [] spNm)
    (CM : Cal P w K mg base CX0 "_law_minder_words" 1 ["_law_cell", "_law_other"] [] spMinW) (CL : Cal P w K mg base CX0 "_law_leaf_words" 1 ["_law_cell", "_law_other"] [] spLfW) : FnOk P w K mg base CX0 2 f fd ["_law_script", "_law_first", "_law_count", "_law_mark"] (spTree K) := by
  refine F.ok sc_law_tree (fun vs H Q E h => ?_) (fun cdv A outer s H vs Q E hr h => ?_)
  · obtain ⟨a, ns, first, count, mark, rfl, _⟩ := h
    rfl
  obtain ⟨a, ns, first, count, mark, rfl, hS, hl, c1, c64, q⟩ := h
  have hsz := PySem.sizeLine_eq
  refine ⟨_, (pss_cons (ps_set (i := 4) sc_law_tree.nd rfl (Or.inl rfl) (pe_lst (pa_cons pe_int pa_nil)))
    (pss_cons (ps_set (i := 5) sc_law_tree.nd rfl (Or.inl rfl) (pe_lst (pa_cons (pe_un un_neg pe_int) pa_nil)))
    (pss_cons (ps_set (i := 6) sc_law_tree.nd rfl (Or.inl rfl) (pe_lst (pa_cons (pe_ca (P := P) (w := w) (K := K) (mg := mg) (base := base) ⟨rfl, rfl, rfl, rfl, rfl⟩ hr rfl (pa_cons (pe_ca (P := P) (w := w) (K := K) (mg := mg) (base := base) ⟨rfl, rfl, rfl, rfl, rfl⟩ hr rfl (pa_cons (pv 0) (pa_cons (pv 1) pa_nil))) (pa_cons (pe_ca (P := P) (w := w) (K := K) (mg := mg) (base := base) ⟨rfl, rfl, rfl, rfl, rfl⟩ hr rfl (pa_cons (pv 0) (pa_cons (pe_op op_add (pv 1) pe_int) pa_nil))) pa_nil))) pa_nil)))
    (C8.pss_cut (ps_if (pt_cmpR op_lt (pe_op op_mod (pe_op op_fdiv (pv 3) pe_int) pe_int) pe_int (nomark _)) (pss_one (ps_asg pe_str (pg_sub (pe_ix (kIxL (K := K) rfl) (pv 6) pe_int (fun _ _ => rfl)) pe_int set_list))) pss_nil)
    (pss_cons (ps_set (i := 7) sc_law_tree.nd rfl (Or.inl rfl) (pe_lst (pa_cons pe_int pa_nil)))
    (pss_cons (ps_for PassesOwn.never rfl (pi_range2 rfl T.range (pa_cons pe_int (pa_cons (pv 2) pa_nil))) (pg_name (i := 8) sc_law_tree.nd rfl (Or.inl rfl)) (pss_cons (ps_set (i := 9) sc_law_tree.nd rfl (Or.inl rfl) (pe_op op_add (pe_ca (P := P) (w := w) (K := K) (mg := mg) (base := base) ⟨rfl, rfl, rfl, rfl, rfl⟩ hr rfl (pa_cons (pv 0) (pa_cons (pe_op op_add (pv 1) (pv 8)) pa_nil))) (pe_op op_mul pe_int (pv 8))))
    (pss_cons (ps_set (i := 10) sc_law_tree.nd rfl (Or.inl rfl) (pe_op op_add (pe_ca (P := P) (w := w) (K := K) (mg := mg) (base := base) ⟨rfl, rfl, rfl, rfl, rfl⟩ hr rfl (pa_cons (pv 0) (pa_cons (pe_op op_add (pe_op op_add (pv 1) (pv 8)) pe_int) pa_nil))) (pv 8)))
    (C8.pss_cut (ps_if (pt_cmpR op_lt (pe_op op_mod (pv 3) pe_int) pe_int (nomark _)) (pss_one (ps_set (i := 7) sc_law_tree.nd rfl (Or.inl rfl) (pe_slice (kSlL (K := K) rfl) (pv 7) po_none (po_some (pe_op op_add pe_int (pe_op op_mod (pe_op op_fdiv (pv 9) pe_int) (pe_callB (kLenL (K := K) rfl) (by rfl) T.len (by decide +kernel) (pa_cons (pv 7) pa_nil)))))))) pss_nil)
    (pss_cons (ps_expr (kBm (K := K) rfl PySem.F.plainAttrs_list PySem.F.slot_list_append PySem.F.type_list_append mt_append (pv 4) (pa_cons (pe_callB (kLenL (K := K) rfl) (by rfl) T.len (by decide +kernel) (pa_cons (pv 7) pa_nil)) pa_nil)))
    (pss_cons (ps_expr (kBm (K := K) rfl PySem.F.plainAttrs_list PySem.F.slot_list_append PySem.F.type_list_append mt_append (pv 5) (pa_cons (pe_ix (kIxL (K := K) rfl) (pv 7) (pe_un un_neg pe_int) (fun _ _ => rfl)) pa_nil)))
    (pss_one (ps_if (PW.pt (pw_or (pt_cmpR op_lt (pe_op op_mod (pv 9) pe_int) pe_int (nomark _)) (pw_or1 (PW.pt (pw_and (pt_cmpR op_eq (pe_op op_mod (pv 3) pe_int) pe_int (nomark _)) (pw_and1 (pt_cmpR op_lt (pe_callB (kLenL (K := K) rfl) (by rfl) T.len (by decide +kernel) (pa_cons (pv 7) pa_nil)) pe_int (nomark _)))))))) (pss_cons (ps_expr (kBm (K := K) rfl PySem.F.plainAttrs_list PySem.F.slot_list_append PySem.F.type_list_append mt_append (pv 6) (pa_cons (pe_ca (P := P) (w := w) (K := K) (mg := mg) (base := base) ⟨rfl, rfl, rfl, rfl, rfl⟩ hr rfl (pa_cons (pv 9) (pa_cons (pv 10) pa_nil))) pa_nil)))
    (pss_one (ps_if (pt_cmpR op_lt (pe_callB (kLenL (K := K) rfl) (by rfl) T.len (by decide +kernel) (pa_cons (pv 7) pa_nil)) pe_int (nomark _)) (pss_one (ps_set (i := 7) sc_law_tree.nd rfl (Or.inl rfl) (pe_op op_cat (pv 7) (pe_lst (pa_cons (pv 8) pa_nil))))) pss_nil))) (pss_one (ps_expr (kBm (K := K) rfl PySem.F.plainAttrs_list PySem.F.slot_list_append PySem.F.type_list_append mt_append (pv 6) (pa_cons (pe_ca (P := P) (w := w) (K := K) (mg := mg) (base := base) ⟨rfl, rfl, rfl, rfl, rfl⟩ hr rfl (pa_cons (pv 9) (pa_cons (pv 10) pa_nil))) pa_nil))))))))))))
    (pss_cons (ps_setLc (i := 11) (own := [("_law_k", 8)]) (g := gName 8) (by rfl) sc_law_tree.nd rfl rfl (sw_true rfl rfl rfl (by decide +kernel)) (pi_range1 rfl T.range (pa_cons (pv 2) pa_nil)) (blkOk_by (own := [("_law_k", 8)]) (N := ["_law_script", "_law_first", "_law_count", "_law_mark", "_law_depths", "_law_elders", "_law_words", "_law_path", "_law_k", "_law_cell", "_law_other", "_law_names"]) (sc := defScope s_law_tree) (by decide +kernel)) (fun _ _ _ _ _ => pg_name (i := 8) sc_law_tree.nd rfl (Or.inl rfl)) (fun _ _ _ _ _ => pts_nil) (fun _ _ _ _ _ => by exact (pe_ca (P := P) (w := w) (K := K) (mg := mg) (base := base) ⟨rfl, rfl, rfl, rfl, rfl⟩ hr rfl (pa_cons (pv 8) (pa_cons (pv 3) pa_nil)))))
    (pss_one (ps_ret (pe_tup (pa_cons (pv 4) (pa_cons (pv 5) (pa_cons (pv 6) (pa_cons (pv 11) pa_nil)))))))))))))), ?_⟩
  walk_at "rd"
  refine ⟨by walk_at "sz", fun x hx => ?_⟩
  walk_at "rd"
  refine ⟨by walk_at "sz", fun y hy => ?_⟩
  walk_at "rd"
  have s1 := same_new hx (.lst [V.int 0])
  have s2 := same_upd (o := .lst [V.int (-1)]) s1 hy
  have nxy : x ≠ y := ne_of_none upd_same hy
  have ex : upd (upd H x (.lst [V.int 0])) y (.lst [V.int (-1)]) x = some (.lst [V.int 0]) := by rw [upd_ne nxy, upd_same]
  have ey : upd (upd H x (.lst [V.int 0])) y (.lst [V.int (-1)]) y = some (.lst [V.int (-1)]) := upd_same
  have fy := updN hy
  generalize upd (upd H x (.lst [V.int 0])) y (.lst [V.int (-1)]) = H2 at s2 ex ey ⊢
  refine w_ca CM (by decide) ?_
  walk_at "rd"
  refine w_ca C0 (by decide) ?_
  walk_at "rd"
  refine ⟨a, ns, first, rfl, s2.seq hS, hl, ?_⟩
  walk_at "rd"
  refine w_ca C0 (by decide) ?_
  walk_at "rd"
  refine ⟨a, ns, first + 1, by rw [Int.natCast_add]; rfl, s2.seq hS, hl, ?_⟩
  walk_at "rd"
  refine ⟨_, _, rfl, mkS (nameL 0 mark), nameL_fit 0 mark, fun s0 r0 H3 en ok hk hr0 s3 e3 => ?_⟩
  walk_at "rd"
  refine ⟨by walk_at "sz", fun z hz => ?_⟩
  walk_at "rd"
  have s4 := s2.trans s3
  have ex := s3 _ _ ex
  have ey := s3 _ _ ey
  have nxz : x ≠ z := ne_of_none ex hz
  have nyz : y ≠ z := ne_of_none ey hz
  have nrx : r0 ≠ x := (neN hr0 (show H2 x = some _ from by assumption)).symm
  have nry : r0 ≠ y := (neN hr0 (show H2 y = some _ from by assumption)).symm
  have nrz : r0 ≠ z := ne_of_none e3 hz
  have fz : H z = none := s4.free hz
  have fr0 : H r0 = none := s2.free hr0
  have s5 := same_upd (o := .lst [V.ref r0]) s4 hz
  have ex : upd H3 z (.lst [V.ref r0]) x = _ := (upd_ne nxz).trans ex
  have ey : upd H3 z (.lst [V.ref r0]) y = _ := (upd_ne nyz).trans ey
  have ez : upd H3 z (.lst [V.ref r0]) z = some (.lst [V.ref r0]) := upd_same
  have e3 : upd H3 z (.lst [V.ref r0]) r0 = _ := (upd_ne nrz).trans e3
  generalize upd H3 z (.lst [V.ref r0]) = H4 at s5 ex ey ez e3 ⊢
  refine w_cut (fun σ H' => ∃ s1 : Shp, σ = [some (.ref a), some (.int (first : Int)), some (.int (count : Int)), some (.int mark), some (.ref x), some (.ref y), some (.ref z), none, none, none, none, none] ∧ s1.name = mkS (nameL 0 mark) ∧ OkS s1 ∧ 3 ≤ s1.kind ∧ Same H H' ∧ H' x = some (.lst [V.int 0]) ∧ H' y = some (.lst [V.int (-1)]) ∧ H' z = some (.lst [V.ref r0]) ∧ H' r0 = some (.lst ((shW s1).map V.str))) ?_ (fun σ H' hm => ?_)
  · walk_at "rd"
    walk_at "if"
    all_goals walk_at "rd"
    · refine w_ixL (SqL.of ez) (at_nat (i := 0) rfl rfl) ?_
      walk_at "rd"
      have es : shW s0 = minWords s0.keep (wayS s0.kind) s0.a s0.b := by
        unfold shW
        rw [if_neg (by omega)]
      refine w_setL (k := 3) e3 (ixN_of rfl (by rw [es]; show 3 < 5; decide)) ?_
      walk_at "rd"
      refine ⟨{ s0 with a := 100 }, rfl, en, okS_mk ok.kd ok.kp ok.nm ⟨by decide, by decide⟩ ok.b0 ok.m0 ok.mz ok.b1, hk, same_mut s5 fr0, (upd_ne nrx.symm).trans ex, (upd_ne nry.symm).trans ey, (upd_ne nrz.symm).trans ez, ?_⟩
      rw [upd_same, es]
      unfold shW
      rw [if_neg (by dsimp only; omega)]
      rfl
    · exact ⟨s0, rfl, en, ok, hk, s5, ex, ey, ez, e3⟩
  obtain ⟨s1, rfl, en, ok, hk, s5, ex, ey, ez, e3⟩ := hm
  walk_at "rd"
  refine ⟨by walk_at "sz", fun q0 hq => ?_⟩
  walk_at "rd"
  have gp := good_top ok hk
  have nqx : q0 ≠ x := (neN hq ex).symm
  have nqy : q0 ≠ y := (neN hq ey).symm
  have nqz : q0 ≠ z := (neN hq ez).symm
  have nqr : q0 ≠ r0 := (neN hq e3).symm
  have e00 : (TreeD.nil.add s1 (-1)).dps = [0] := by
    show [] ++ [if (-1 : Int) < 0 then 0 else _] = _
    rw [if_pos (by decide)]
    rfl
  refine w_forR2 (lo := 1) (hi := (count : Int)) (TInv H a first count mark) (by omega) ⟨TreeD.nil.add s1 (-1), [0], x, y, z, q0, [r0], _, _, _, rfl, same_upd s5 hq, ⟨hx, fy, fz⟩, ⟨nxy, nxz, nyz⟩, ⟨nqx, nqy, nqz⟩, fun w hw => ?_, by rw [e00]; exact (upd_ne nqx.symm).trans ex, (upd_ne nqy.symm).trans ey, (upd_ne nqz.symm).trans ez, upd_same, rfl, fun i w hw => ?_, gp.1, gp.2, rfl, fun i hi => ?_⟩ (fun i σ H5 hi hm => ?_) (fun σ H5 hm => ?_)
  · rw [List.mem_singleton] at hw
    rw [hw]
    exact ⟨nrx, nry, nrz⟩
  · have hi := (List.getElem?_eq_some_iff.mp hw).choose
    have : i = 0 := by have : i < 1 := hi; omega
    subst this
    obtain rfl := Option.some.inj hw
    exact (upd_ne nqr.symm).trans e3
  · have : i = 0 := by have : i < 1 := hi; omega
    subst this
    exact en
  · obtain ⟨D, p, x, y, z, q0, ws, v8, v9, v10, rfl, s6, ⟨hx, hy, hz⟩, ⟨nxy, nxz, nyz⟩, ⟨nqx, nqy, nqz⟩, nw, ex, ey, ez, eq, lw, ew, g, P, en, nm⟩ := hm
    have hS6 := s6.seq hS
    have hp8 := P.le
    have hp1 := P.ne
    walk_at "rd"
    refine w_ca C0 (by decide) ?_
    walk_at "rd"
    refine ⟨a, ns, first + (1 + i), by rw [Int.natCast_add, Int.natCast_add]; rfl, hS6, hl, ?_⟩
    walk_at "rd"
    refine ⟨_, _, rfl, rfl, .inl ⟨by decide, by decide⟩, ?_⟩
    walk_at "rd"
    refine w_ca C0 (by decide) ?_
    walk_at "rd"
    refine ⟨a, ns, first + (1 + i) + 1, by rw [Int.natCast_add, Int.natCast_add, Int.natCast_add]; rfl, hS6, hl, ?_⟩
    walk_at "rd"
    generalize cellAt ns (first + (1 + i)) + 3 * (1 + (i : Int)) = cell
    generalize cellAt ns (first + (1 + i) + 1) + (1 + (i : Int)) = other
    refine w_cut (fun σ H' => ∃ (q1 : Addr) (j : Nat), σ = [some (.ref a), some (.int (first : Int)), some (.int (count : Int)), some (.int mark), some (.ref x), some (.ref y), some (.ref z), some (.ref q1), some (.int (1 + (i : Int))), some (.int cell), some (.int other), none] ∧ 1 ≤ j ∧ j ≤ p.length ∧ Same H5 H' ∧ (q1 ≠ x ∧ q1 ≠ y ∧ q1 ≠ z) ∧ H' q1 = some (.lst ((p.take j).map fun n : Nat => V.int n))) ?_ (fun σ H6 hm => ?_)
    · walk_at "rd"
      walk_at "if"
      all_goals walk_at "rd"
      · rw [List.length_map]
        refine w_I (show (0 : Int) < (p.length : Int) by omega) ?_
        walk_at "rd"
        have b0 := Int.emod_nonneg (cell / 80) (show (p.length : Int) ≠ 0 by omega)
        have b1 := Int.emod_lt_of_pos (cell / 80) (show (0 : Int) < (p.length : Int) by omega)
        obtain ⟨j, ej⟩ : ∃ j : Nat, 1 + cell / 80 % (p.length : Int) = (j : Int) := ⟨(1 + cell / 80 % (p.length : Int)).toNat, by omega⟩
        rw [ej]
        refine w_slL (SqL.of eq) fun q1 hq1 => ?_
        walk_at "rd"
        refine ⟨q1, j, rfl, by omega, by omega, same_new hq1 _, ⟨(neN hq1 ex).symm, (neN hq1 ey).symm, (neN hq1 ez).symm⟩, ?_⟩
        rw [upd_same, cutV_to, List.map_take]
      · refine ⟨q0, p.length, rfl, hp1, Nat.le_refl _, Same.refl _, ⟨nqx, nqy, nqz⟩, ?_⟩
        rw [List.take_length]
        exact eq
    obtain ⟨q1, j, rfl, j1, jp, s7, ⟨mqx, mqy, mqz⟩, eq1⟩ := hm
    have ex := s7 _ _ ex
    have ey := s7 _ _ ey
    have ez := s7 _ _ ez
    have ew : ∀ i w, ws[i]? = some w → H6 w = some (.lst ((shW (D.sh i)).map V.str)) := fun i w hw => s7 _ _ (ew i w hw)
    have lt : (p.take j).length = j := by rw [List.length_take]; omega
    have hb : p[j - 1]? = some p[j - 1] := List.getElem?_eq_getElem (by omega)
    generalize p[j - 1] = b at hb
    have hbt : (p.take j)[j - 1]? = some b := by rw [List.getElem?_take_of_lt (by omega)]; exact hb
    have sz := g.wf.sz
    have ld := g.wf.ld
    have le := g.wf.le
    walk_at "rd"
    rw [List.length_map, lt]
    refine w_ixL (SqL.of ((upd_ne mqx).trans eq1)) (at_last (v := .int (b : Int)) (by rw [List.length_map]; omega) (by rw [List.length_map, List.getElem?_map, lt, hbt]; rfl)) ?_
    have ey' : upd H6 x (.lst ((D.dps.map fun n : Nat => V.int n) ++ [.int (j : Int)])) y = _ := (upd_ne nxy.symm).trans ey
    refine w_nil ?_
    refine w_app ey' (by rw [List.length_map]; omega) ?_
    walk_at "rd"
    have s8 : Same H (upd (upd H6 x (.lst ((D.dps.map fun n : Nat => V.int n) ++ [.int (j : Int)]))) y (.lst (D.eld.map V.int ++ [.int (b : Int)]))) := same_mut (same_mut (s6.trans s7) hx) hy
    have fx : upd (upd H6 x (.lst ((D.dps.map fun n : Nat => V.int n) ++ [.int (j : Int)]))) y (.lst (D.eld.map V.int ++ [.int (b : Int)])) x = some (.lst ((D.dps.map fun n : Nat => V.int n) ++ [.int (j : Int)])) := (upd_ne nxy).trans upd_same
    have fy : upd (upd H6 x (.lst ((D.dps.map fun n : Nat => V.int n) ++ [.int (j : Int)]))) y (.lst (D.eld.map V.int ++ [.int (b : Int)])) y = some (.lst (D.eld.map V.int ++ [.int (b : Int)])) := upd_same
    have fo : ∀ c o, c ≠ x → c ≠ y → H6 c = some o → upd (upd H6 x (.lst ((D.dps.map fun n : Nat => V.int n) ++ [.int (j : Int)]))) y (.lst (D.eld.map V.int ++ [.int (b : Int)])) c = some o := fun c o h1 h2 h3 => by rw [upd_ne h2, upd_ne h1]; exact h3
    have fz := fo z _ nxz.symm nyz.symm ez
    have fq := fo q1 _ mqx mqy eq1
    have fw : ∀ i w, ws[i]? = some w → _ := fun i w hw => fo w _ (nw w (List.mem_of_getElem? hw)).1 (nw w (List.mem_of_getElem? hw)).2.1 (ew i w hw)
    generalize upd (upd H6 x (.lst ((D.dps.map fun n : Nat => V.int n) ++ [.int (j : Int)]))) y (.lst (D.eld.map V.int ++ [.int (b : Int)])) = H7 at s8 fx fy fz fq fw ⊢
    -- the row's shape s: what stands behind
    have new : ∀ s : Shp, s.name = mkS (nameL (i + 1) mark) → s.name ∉ D.shs.map Shp.name := fun s hs hm => by
      obtain ⟨t, ht, e⟩ := List.mem_map.mp hm
      obtain ⟨k, hk, e2⟩ := List.getElem_of_mem ht
      have e3 := nm k hk
      have e4 : D.sh k = t := by
        unfold TreeD.sh
        rw [List.getD_eq_getElem?_getD, List.getElem?_eq_getElem hk, e2]
        rfl
      rw [e4, e, hs] at e3
      have := nameL_inj (by omega) (by have : k < D.n := hk; omega) (congrArg tl e3)
      have : k < D.n := hk
      omega
    have fin : ∀ (s : Shp) (r : Addr) (H8 : Hp) (p' : List Nat) (q2 : Addr), s.name = mkS (nameL (i + 1) mark) → OkS s → H7 r = none → Same H H8 → (q2 ≠ x ∧ q2 ≠ y ∧ q2 ≠ z) → H8 x = some (.lst ((D.dps.map fun n : Nat => V.int n) ++ [.int (j : Int)])) → H8 y = some (.lst (D.eld.map V.int ++ [.int (b : Int)])) →
        H8 z = some (.lst ((ws ++ [r]).map V.ref)) → H8 q2 = some (.lst (p'.map fun n : Nat => V.int n)) → (∀ i w, ws[i]? = some w → H8 w = some (.lst ((shW (D.sh i)).map V.str))) → H8 r = some (.lst ((shW s).map V.str)) → PathOK (D.add s (b : Int)) p' →
        TInv H a first count mark (i + 1) [some (.ref a), some (.int (first : Int)), some (.int (count : Int)), some (.int mark), some (.ref x), some (.ref y), some (.ref z), some (.ref q2), some (.int (1 + (i : Int))), some (.int cell), some (.int other), none] H8 := fun s r H8 p' q2 hn ok hr8 s9 nq2 gx gy gz gq gw gr P' => by
      have hd := (P.at_ _ _ hb)
      have gr' := good_row g P j1 jp hb ok (new s hn) (by omega)
      have ed : (D.add s (b : Int)).dps = D.dps ++ [j] := by
        show D.dps ++ [if (b : Int) < 0 then 0 else D.dp ((b : Int)).toNat + 1] = _
        rw [if_neg (by omega), Int.toNat_natCast, hd.2.1, show j - 1 + 1 = j by omega]
      refine ⟨D.add s (b : Int), p', x, y, z, q2, ws ++ [r], _, _, _, rfl, s9, ⟨hx, hy, hz⟩, ⟨nxy, nxz, nyz⟩, nq2, fun w hw => ?_, ?_, ?_, gz, gq, ?_, fun k w hw => ?_, gr'.1, P', ?_, fun k hk => ?_⟩
      · rcases List.mem_append.mp hw with hw | hw
        · exact nw w hw
        · rw [List.mem_singleton] at hw
          rw [hw]
          exact ⟨(neN hr8 fx).symm, (neN hr8 fy).symm, (neN hr8 fz).symm⟩
      · rw [ed, List.map_append]
        exact gx
      · show H8 y = some (.lst ((D.eld ++ [(b : Int)]).map V.int))
        rw [List.map_append]
        exact gy
      · rw [List.length_append, lw, add_n]
        rfl
      · by_cases hk : k < ws.length
        · rw [List.getElem?_append_left hk] at hw
          rw [add_sh_lt (by omega)]
          exact gw k w hw
        · have hk2 : k = ws.length := by
            have := (List.getElem?_eq_some_iff.mp hw).choose
            rw [List.length_append, List.length_singleton] at this
            omega
          rw [List.getElem?_append_right (by omega), hk2, Nat.sub_self] at hw
          obtain rfl := Option.some.inj hw
          rw [hk2, lw, add_sh_eq]
          exact gr
      · rw [add_n]
        omega
      · rw [add_n] at hk
        by_cases h : k < D.n
        · rw [add_sh_lt h]
          exact nm k h
        · have : k = D.n := by omega
          rw [this, add_sh_eq, en]
          exact hn
    -- a minder | a leaf
    by_cases c5 : cell % 5 < 2
    · rw [decide_eq_true c5]
      walk_at "rd"
      refine w_ca CM (by decide) ?_
      walk_at "rd"
      refine ⟨_, _, rfl, mkS (nameL (i + 1) mark), nameL_fit (i + 1) mark, fun s r H8 hn ok hk hr8 s9 er => ?_⟩
      refine w_nil ?_
      refine w_app (s9 _ _ fz) (by rw [List.length_map]; omega) ?_
      have nrx : r ≠ x := (neN hr8 fx).symm
      have nry : r ≠ y := (neN hr8 fy).symm
      have nrz : r ≠ z := (neN hr8 fz).symm
      have gq := (upd_ne (o := .lst (ws.map V.ref ++ [.ref r])) mqz).trans (s9 _ _ fq)
      have s10 := same_mut (o := .lst (ws.map V.ref ++ [.ref r])) (s8.trans s9) hz
      have gx := (upd_ne (o := .lst (ws.map V.ref ++ [.ref r])) nxz).trans (s9 _ _ fx)
      have gy := (upd_ne (o := .lst (ws.map V.ref ++ [.ref r])) nyz).trans (s9 _ _ fy)
      have gz : upd H8 z (.lst (ws.map V.ref ++ [.ref r])) z = some (.lst ((ws ++ [r]).map V.ref)) := by rw [upd_same, List.map_append]; rfl
      have gw : ∀ i w, ws[i]? = some w → upd H8 z (.lst (ws.map V.ref ++ [.ref r])) w = some (.lst ((shW (D.sh i)).map V.str)) := fun i w hw => (upd_ne (nw w (List.mem_of_getElem? hw)).2.2).trans (s9 _ _ (fw i w hw))
      have gr := (upd_ne (o := .lst (ws.map V.ref ++ [.ref r])) nrz).trans er
      generalize upd H8 z (.lst (ws.map V.ref ++ [.ref r])) = H9 at gq s10 gx gy gz gw gr ⊢
      have gro := good_row g P j1 jp hb ok (new s hn) (by omega)
      walk_at "rd"
      rw [List.length_map, lt]
      by_cases h8 : j < 8
      · rw [decide_eq_true (show (j : Int) < 8 by omega)]
        walk_at "rd"
        refine ⟨by walk_at "sz", fun r9 h9 => ?_⟩
        have gq2 := (upd_ne (o := .lst [V.int (1 + (i : Int))]) (ne_of_none gq h9)).trans gq
        refine w_cat gq2 upd_same (by rw [List.length_map, lt]; show j + 1 ≤ _; omega) fun r10 h10 => ?_
        walk_at "rd"
        have ko : ∀ c o, H9 c = some o → upd (upd H9 r9 (.lst [V.int (1 + (i : Int))])) r10 (.lst (((p.take j).map fun n : Nat => V.int n) ++ [V.int (1 + (i : Int))])) c = some o := fun c o hc => by
          have h1 := (upd_ne (o := .lst [V.int (1 + (i : Int))]) (ne_of_none hc h9)).trans hc
          exact (upd_ne (ne_of_none h1 h10)).trans h1
        refine fin s r _ (p.take j ++ [D.n]) r10 hn ok hr8 (same_upd (same_upd s10 h9) h10) ⟨(neN (updN h10) gx).symm, (neN (updN h10) gy).symm, (neN (updN h10) gz).symm⟩ (ko _ _ gx) (ko _ _ gy) (ko _ _ gz) ?_ (fun i w hw => ko _ _ (gw i w hw)) (ko _ _ gr) (gro.2.1 h8 hk)
        rw [upd_same, List.map_append, en]
        show some (HO.lst (_ ++ [V.int (1 + (i : Int))])) = some (HO.lst (_ ++ [V.int ((i + 1 : Nat) : Int)]))
        rw [show (1 + (i : Int)) = ((i + 1 : Nat) : Int) by omega]
      · rw [decide_eq_false (show ¬ (j : Int) < 8 by omega)]
        walk_at "rd"
        exact fin s r _ (p.take j) q1 hn ok hr8 s10 ⟨mqx, mqy, mqz⟩ gx gy gz gq gw gr gro.2.2

    rw [decide_eq_false c5]
    walk_at "rd"
    by_cases c6 : mark % 5 = 4
    case neg =>
      rw [decide_eq_false (fun z => c6 (V.int.inj z))]
      walk_at "rd"
      refine w_ca CL (by decide) ?_
      walk_at "rd"
      refine ⟨_, _, rfl, mkS (nameL (i + 1) mark), nameL_fit (i + 1) mark, fun s r H8 hn ok hk hr8 s9 er => ?_⟩
      refine w_nil ?_
      refine w_app (s9 _ _ fz) (by rw [List.length_map]; omega) ?_
      have nrz : r ≠ z := (neN hr8 fz).symm
      have gro := good_row g P j1 jp hb ok (new s hn) (by omega)
      walk_at "rd"
      refine fin s r _ (p.take j) q1 hn ok hr8 (same_mut (s8.trans s9) hz) ⟨mqx, mqy, mqz⟩ ((upd_ne nxz).trans (s9 _ _ fx)) ((upd_ne nyz).trans (s9 _ _ fy)) ?_ ((upd_ne mqz).trans (s9 _ _ fq)) (fun i w hw => (upd_ne (nw w (List.mem_of_getElem? hw)).2.2).trans (s9 _ _ (fw i w hw))) ((upd_ne nrz).trans er) gro.2.2
      rw [upd_same, List.map_append]
      rfl

    rw [decide_eq_true (congrArg V.int c6)]
    walk_at "rd"
    rw [List.length_map, lt]
    by_cases c7 : j < 8
    · rw [decide_eq_true (show (j : Int) < 8 by omega)]
      walk_at "rd"
      refine w_ca CM (by decide) ?_
      walk_at "rd"
      refine ⟨_, _, rfl, mkS (nameL (i + 1) mark), nameL_fit (i + 1) mark, fun s r H8 hn ok hk hr8 s9 er => ?_⟩
      refine w_nil ?_
      refine w_app (s9 _ _ fz) (by rw [List.length_map]; omega) ?_
      have nrx : r ≠ x := (neN hr8 fx).symm
      have nry : r ≠ y := (neN hr8 fy).symm
      have nrz : r ≠ z := (neN hr8 fz).symm
      have gq := (upd_ne (o := .lst (ws.map V.ref ++ [.ref r])) mqz).trans (s9 _ _ fq)
      have s10 := same_mut (o := .lst (ws.map V.ref ++ [.ref r])) (s8.trans s9) hz
      have gx := (upd_ne (o := .lst (ws.map V.ref ++ [.ref r])) nxz).trans (s9 _ _ fx)
      have gy := (upd_ne (o := .lst (ws.map V.ref ++ [.ref r])) nyz).trans (s9 _ _ fy)
      have gz : upd H8 z (.lst (ws.map V.ref ++ [.ref r])) z = some (.lst ((ws ++ [r]).map V.ref)) := by rw [upd_same, List.map_append]; rfl
      have gw : ∀ i w, ws[i]? = some w → upd H8 z (.lst (ws.map V.ref ++ [.ref r])) w = some (.lst ((shW (D.sh i)).map V.str)) := fun i w hw => (upd_ne (nw w (List.mem_of_getElem? hw)).2.2).trans (s9 _ _ (fw i w hw))
      have gr := (upd_ne (o := .lst (ws.map V.ref ++ [.ref r])) nrz).trans er
      generalize upd H8 z (.lst (ws.map V.ref ++ [.ref r])) = H9 at gq s10 gx gy gz gw gr ⊢
      have gro := good_row g P j1 jp hb ok (new s hn) (by omega)
      walk_at "rd"
      rw [List.length_map, lt]
      by_cases h8 : j < 8
      · rw [decide_eq_true (show (j : Int) < 8 by omega)]
        walk_at "rd"
        refine ⟨by walk_at "sz", fun r9 h9 => ?_⟩
        have gq2 := (upd_ne (o := .lst [V.int (1 + (i : Int))]) (ne_of_none gq h9)).trans gq
        refine w_cat gq2 upd_same (by rw [List.length_map, lt]; show j + 1 ≤ _; omega) fun r10 h10 => ?_
        walk_at "rd"
        have ko : ∀ c o, H9 c = some o → upd (upd H9 r9 (.lst [V.int (1 + (i : Int))])) r10 (.lst (((p.take j).map fun n : Nat => V.int n) ++ [V.int (1 + (i : Int))])) c = some o := fun c o hc => by
          have h1 := (upd_ne (o := .lst [V.int (1 + (i : Int))]) (ne_of_none hc h9)).trans hc
          exact (upd_ne (ne_of_none h1 h10)).trans h1
        refine fin s r _ (p.take j ++ [D.n]) r10 hn ok hr8 (same_upd (same_upd s10 h9) h10) ⟨(neN (updN h10) gx).symm, (neN (updN h10) gy).symm, (neN (updN h10) gz).symm⟩ (ko _ _ gx) (ko _ _ gy) (ko _ _ gz) ?_ (fun i w hw => ko _ _ (gw i w hw)) (ko _ _ gr) (gro.2.1 h8 hk)
        rw [upd_same, List.map_append, en]
        show some (HO.lst (_ ++ [V.int (1 + (i : Int))])) = some (HO.lst (_ ++ [V.int ((i + 1 : Nat) : Int)]))
        rw [show (1 + (i : Int)) = ((i + 1 : Nat) : Int) by omega]
      · rw [decide_eq_false (show ¬ (j : Int) < 8 by omega)]
        walk_at "rd"
        exact fin s r _ (p.take j) q1 hn ok hr8 s10 ⟨mqx, mqy, mqz⟩ gx gy gz gq gw gr gro.2.2

    rw [decide_eq_false (show ¬ (j : Int) < 8 by omega)]
    walk_at "rd"
    refine w_ca CL (by decide) ?_
    walk_at "rd"
    refine ⟨_, _, rfl, mkS (nameL (i + 1) mark), nameL_fit (i + 1) mark, fun s r H8 hn ok hk hr8 s9 er => ?_⟩
    refine w_nil ?_
    refine w_app (s9 _ _ fz) (by rw [List.length_map]; omega) ?_
    have nrz : r ≠ z := (neN hr8 fz).symm
    have gro := good_row g P j1 jp hb ok (new s hn) (by omega)
    walk_at "rd"
    refine fin s r _ (p.take j) q1 hn ok hr8 (same_mut (s8.trans s9) hz) ⟨mqx, mqy, mqz⟩ ((upd_ne nxz).trans (s9 _ _ fx)) ((upd_ne nyz).trans (s9 _ _ fy)) ?_ ((upd_ne mqz).trans (s9 _ _ fq)) (fun i w hw => (upd_ne (nw w (List.mem_of_getElem? hw)).2.2).trans (s9 _ _ (fw i w hw))) ((upd_ne nrz).trans er) gro.2.2
    rw [upd_same, List.map_append]
    rfl
  · obtain ⟨D, p, x, y, z, q0, ws, v8, v9, v10, rfl, s6, ⟨hx, hy, hz⟩, ⟨nxy, nxz, nyz⟩, ⟨nqx, nqy, nqz⟩, nw, ex, ey, ez, eq, lw, ew, g, P, en, nm⟩ := hm
    have hn : D.n = count := by omega
    walk_at "rd"
    refine w_lcR (fun C i H' => Same H5 H' ∧ H' C = some (.lst ((List.range i).map fun k => V.str (mkS (nameL k mark))))) (by omega) (by omega) (fun C hC => ⟨same_new hC _, upd_same⟩) (fun C i H' hC hi hm => ?_) (fun C H' hC hm => ?_)
    · obtain ⟨t1, t2⟩ := hm
      walk_at "rd"
      refine w_ca CN (by decide) ?_
      walk_at "rd"
      refine ⟨i, mark, by rw [Int.zero_add]; rfl, fun yy ey => ⟨_, t2, by rw [List.length_map, List.length_range]; omega, same_mut t1 hC, ?_⟩⟩
      rw [upd_same, List.range_succ, List.map_append]
      have : yy = mkS (nameL i mark) := ext_tl ey
      rw [this]
      rfl
    · obtain ⟨t1, t2⟩ := hm
      walk_at "rd"
      refine ⟨by walk_at "sz", fun t ht => ?_⟩
      walk_at "rd"
      refine q D t _ g nm ⟨_, P⟩ hn (same_upd (s6.trans t1) ht) ⟨x, y, z, C, ws, upd_same, ?_, ?_, ?_, lw, fun i w hw => ?_, ?_⟩
      · exact (upd_ne (ne_of_none (t1 _ _ ex) ht)).trans (t1 _ _ ex)
      · exact (upd_ne (ne_of_none (t1 _ _ ey) ht)).trans (t1 _ _ ey)
      · exact (upd_ne (ne_of_none (t1 _ _ ez) ht)).trans (t1 _ _ ez)
      · exact (upd_ne (ne_of_none (t1 _ _ (ew i w hw)) ht)).trans (t1 _ _ (ew i w hw))
      · refine (upd_ne (ne_of_none t2 ht)).trans ?_
        rw [t2, Int.toNat_natCast, ← hn]
        congr 2
        refine List.ext_getElem (by rw [List.length_map, List.length_map, List.length_range]; rfl) fun k h1 h2 => ?_
        rw [List.getElem_map, List.getElem_map, List.getElem_range]
        have hk : k < D.n := by rw [List.length_map, List.length_range] at h1; exact h1
        have := nm k hk
        unfold TreeD.sh at this
        rw [List.getD_eq_getElem?_getD, List.getElem?_eq_getElem hk] at this
        rw [← this]
        rfl
end
end Mn

namespace Mn
open PySem PySem.Spec PyProof.Rows L2 TL L2H
theorem rgS {k : Nat} {A : Around} {a : Addr} {oe : Obj} {q : Addr × Obj} {pn : List (Addr × Obj)} (r : Room k A) (hot : Hot2 (A.mark (some (.ref a))) (a, oe) q) : RG k (A.mark (some (.ref a))) false ((a, oe) :: q :: pn) :=
  ⟨roomH_mark r, .inr ⟨_, q, hot, List.mem_cons_self, List.mem_cons_of_mem _ List.mem_cons_self⟩⟩
theorem calmK {P : Program} {w : World} {K : PySem.W.Frag} {mg : Str → Option Value} {base : Heap} {k : Nat} {f : Addr} {fd : FuncData} {ps : List Str} {sp : Sp} (F : FnOk P w K mg base (CXK P w) k f fd ps sp) : FnOk P w K mg base CX0 k f fd ps (fun vs H Q _ => sp vs H Q E0) :=
  ⟨fun vs H Q E h => F.len _ _ _ _ h, fun A outer s H args us vs Q E hr e0 hb hv h => codeAny_mono (F.run A outer s H args us vs Q E0 hr e0 hb hv h) fun z s' hs => by
    cases z with
    | error e =>
      obtain ⟨a, B, H', cls, d, q, h⟩ := hs
      exact h.2.2.2.2.2.2.2.2.elim
    | ok fl => cases fl <;> exact hs⟩
/-! ### what a row's text is, with a remark ahead or blanks behind -/
theorem goodRow_pre {D : TreeD} {i : Nat} {l r : List Nat} (g : GoodRow D i l) (s : SkipL r) (f : 10 ∉ r) : GoodRow D i (r ++ 10 :: l) := by
  obtain ⟨pre, post, row, e, h1, h2, h3⟩ := g
  refine ⟨r :: pre, post, row, by rw [splitL_app, splitL_free f, e]; rfl, fun p hp => ?_, h2, h3⟩
  rcases List.mem_cons.mp hp with rfl | hp
  · exact s
  · exact h1 p hp
theorem goodRow_post {D : TreeD} {i : Nat} {l r : List Nat} (g : GoodRow D i l) (s : SkipL r) (f : 10 ∉ r) : GoodRow D i (l ++ 10 :: r) := by
  obtain ⟨pre, post, row, e, h1, h2, h3⟩ := g
  refine ⟨pre, post ++ [r], row, by rw [splitL_app, splitL_free f, e]; simp, h1, fun p hp => ?_, h3⟩
  rcases List.mem_append.mp hp with hp | hp
  · exact h2 p hp
  · rw [List.mem_singleton.mp hp]
    exact s
theorem rowL_free {D : TreeD} (W : D.WF) {i : Nat} (hi : i < D.n) {l : List Nat} (h : RowL D i l) : 10 ∉ l := by
  obtain ⟨gp, tr, rfl⟩ := h
  intro h
  rcases List.mem_append.mp h with h | h
  · have := (List.mem_replicate.mp h).2
    omega
  rcases List.mem_append.mp h with h | h
  · rcases mem_joinL _ _ h with h | ⟨p, hp, h⟩
    · have := (List.mem_replicate.mp h).2
      omega
    · obtain ⟨x, hx, rfl⟩ := List.mem_map.mp hp
      exact (shW_free (W.ok _ (sh_mem hi)) x hx).1.2 h
  · have := (List.mem_replicate.mp h).2
    omega
theorem goodRow_of {D : TreeD} (W : D.WF) {i : Nat} (hi : i < D.n) {l : List Nat} (h : RowL D i l) : GoodRow D i l :=
  ⟨[], [], l, splitL_free (rowL_free W hi h), fun p hp => (List.not_mem_nil hp).elim, fun p hp => (List.not_mem_nil hp).elim, h⟩
theorem name_free {D : TreeD} (W : D.WF) {i : Nat} (hi : i < D.n) : 10 ∉ tl (D.sh i).name := (shW_free (W.ok _ (sh_mem hi)) _ (List.mem_append_right _ List.mem_cons_self)).1.2
theorem noneName (k : Nat) (mark : Int) (x : List Nat) : nameL k mark ≠ [110, 111, 110, 101] ++ x := by
  intro e
  unfold nameL at e
  split at e
  · injection e with _ e
    cases e
  · by_cases h : (mark % 7).toNat = 0
    · rw [h] at e
      simp only [List.replicate_zero, List.nil_append, List.cons_append] at e
      injection e with _ e
      injection e with _ e
      cases e2 : (mark / 7 % 5).toNat with
      | zero => rw [e2] at e; cases e
      | succ n =>
        rw [e2, List.replicate_succ] at e
        injection e with e _
        exact absurd e (by decide)
    · obtain ⟨m, hm⟩ := Nat.exists_eq_succ_of_ne_zero h
      rw [hm, List.replicate_succ, List.cons_append, List.cons_append] at e
      injection e with e _
      exact absurd e (by decide)
section
variable {P : Program} {w : World} {K : PySem.W.Frag} {mg : Str → Option Value} {base : Heap} {CT : Addr} {cls : Nat → Addr}
/-- find: the place of a name; else NoName (its class at CN) -/
def spFindK (CT : Addr) (cls : Nat → Addr) (CN : Addr) : Sp := fun vs H Q E => ∃ (A : TA) (D : TreeD) (x : Str), vs = [.ref A.t, .str x] ∧ TR CT cls A D H ∧ D.WF ∧ (∀ i, i < D.n → (D.sh i).name = x → Q (.int (i : Int)) H) ∧ (x ∉ D.shs.map Shp.name → E (.ref CN) none H)
theorem ok_findK {CN f : Addr} {fd : FuncData} (F : Fun K "find" "Tree.find" s_Tree_find f fd) (T : Bt mg) (cT : ClsF K CT treeN) (e_NoName : ErrK K mg "NoName" CN) (eK : PySem.W.exmOne K (.type "KeyError") (.type "KeyError") = some true) : FnOk P w K mg base (CXK P w) 1 f fd ["self", "name"] (spFindK CT cls CN) := by
  refine okN F sc_Tree_find (fun vs H Q E h => ?_) (fun cdv A outer s H vs Q E hr h => ?_)
  · obtain ⟨A, D, x, rfl, _⟩ := h
    rfl
  obtain ⟨A', D, x, rfl, R, W, q, qe⟩ := h
  have hu := hu_of hr
  have ht := R.ht
  unfold treeF at ht
  refine ⟨_, pss_one (ps_try_elseR (c := .type "KeyError") rfl rfl ⟨rfl, by decide, Or.inr ⟨T.KeyError, by decide +kernel, by decide⟩⟩ (fun hd => passesAt_of rfl hd) (takesK_of rfl rfl rfl rfl) (pss_one (ps_ret (pv 2)))
    (fun W pn xe tk => pss_one (ps_set (i := 2) sc_Tree_find.nd rfl (Or.inl rfl) (pe_dgetN rfl hu tk (kFld (K := K) rfl (pv 0)) (pv 1) (fun _ _ => rfl))))
    (fun a oe cls d pn hot tkS => pss_one (ps_raiseK hot List.mem_cons_self tkS (L2N.pmk_own PySem.F.excBase_ValueError e_NoName.xf e_NoName.g e_NoName.k (raises_own e_NoName.b e_NoName.t) rfl)))), ?_⟩
  walk_at "rd"
  refine w_dgetX ?_
  walk_at "rd"
  by_cases hx : x ∈ D.shs.map Shp.name
  · obtain ⟨s, hs, rfl⟩ := List.mem_map.mp hx
    obtain ⟨i, hi, e⟩ := List.getElem_of_mem hs
    have e' : D.shs[i]? = some s := by rw [List.getElem?_eq_getElem hi, e]
    have es : D.sh i = s := by
      unfold TreeD.sh
      rw [List.getD_eq_getElem?_getD, e']
      rfl
    refine ⟨_, some (.int (i : Int)), rfl, by rw [← kvs_at W.nm e']; exact DGet.k (k := Sum.inr s.name) R.hkn, fun v hv => ?_, fun z => by cases z⟩
    obtain rfl := Option.some.inj hv
    walk_at "rd"
    exact q i hi (by rw [es])
  · refine ⟨_, none, rfl, by rw [← kvs_none hx]; exact DGet.k (k := Sum.inr x) R.hkn, (fun v hv => by cases hv), fun _ d => ⟨eK, fun a ha => ?_⟩⟩
    exact qe hx
def spNames (CT : Addr) (cls : Nat → Addr) : Sp := fun vs H Q _ => ∃ (A : TA) (D : TreeD), vs = [.ref A.t] ∧ TR CT cls A D H ∧ D.WF ∧ ∀ r, H r = none → Q (.ref r) (upd H r (.lst (D.shs.map fun s => V.str s.name)))
theorem ok_names {f : Addr} {fd : FuncData} (F : Fun K "names" "Tree.names" s_Tree_names f fd) (cT : ClsF K CT treeN) (kc : KdC K cls) : FnOk P w K mg base CX0 1 f fd ["self"] (spNames CT cls) := by
  refine F.ok sc_Tree_names (fun vs H Q E h => ?_) (fun cdv A outer s H vs Q E hr h => ?_)
  · obtain ⟨A, D, rfl, _⟩ := h
    rfl
  obtain ⟨A', D, rfl, R, W, q⟩ := h
  have ht := R.ht
  unfold treeF at ht
  have hsl := PySem.sizeLine_eq
  have sz := W.sz
  have lps := R.lps
  refine ⟨_, (pss_one (ps_ret (pe_lc (own := [("shape", 1)]) (g := gName 1) (by rfl) sc_Tree_names.nd (kPiL (K := K) rfl (kFld (K := K) rfl (pv 0))) (blkOk_by (own := [("shape", 1)]) (N := ["self", "shape"]) (sc := defScope s_Tree_names) (by decide +kernel)) (fun _ _ _ _ _ => pg_name (i := 1) sc_Tree_names.nd rfl (Or.inl rfl)) (fun _ _ _ _ _ => pts_nil) (fun _ _ _ _ _ => by exact (kFld (K := K) rfl (pv 1)))))), ?_⟩
  walk_at "rd"
  refine w_lcL (xs := A'.ps.map V.ref) (fun C i H' => H' = upd H C (.lst ((D.shs.take i).map fun s => V.str s.name))) (SqL.of R.hsh) (fun C hC => by rw [List.take_zero]; rfl) (fun C i H' hC _ e => by subst e; exact SqL.of ((upd_ne (ne_of_none R.hsh hC)).trans R.hsh)) (fun C i v H' hC hx e => ?_) (fun C H' hC e => ?_)
  · subst e
    obtain ⟨p, hp, rfl⟩ := by
      rw [List.getElem?_map] at hx
      exact Option.map_eq_some_iff.mp hx
    have hi : i < D.n := by rw [← lps]; exact (List.getElem?_eq_some_iff.mp hp).choose
    obtain ⟨dx, hs⟩ := R.hps i p hp
    have ok := W.ok _ (sh_mem hi)
    have cp := kc.cf _ ok.kd
    walk_at "rd"
    refine w_fld1 ((upd_ne (ne_of_none hs hC)).trans hs) cp.cl (cp.no _ (attr_name _)) (fld_name _) ?_
    refine ⟨_, upd_same, by rw [List.length_map, List.length_take]; have : D.shs.length = D.n := rfl; omega, ?_⟩
    rw [upd_upd]
    congr 2
    have e1 : D.shs[i]? = some (D.sh i) := by
      unfold TreeD.sh
      rw [List.getD_eq_getElem?_getD, List.getElem?_eq_getElem (show i < D.shs.length from hi)]
      rfl
    rw [List.take_succ, e1, List.map_append]
    rfl
  · subst e
    have e2 : D.shs.take (A'.ps.map V.ref).length = D.shs := by rw [List.length_map, lps]; exact List.take_length
    rw [e2]
    exact q C hC
/-- _law_texts of two lists that hold the same texts -/
def spTexts (K : PySem.W.Frag) : Sp := fun vs H Q _ => ∃ (a b : Addr) (ys : List Str), vs = [.ref a, .ref b] ∧ H a = some (.lst (ys.map V.str)) ∧ SqL K H b (ys.map V.str) ∧ ys.length ≤ 1000 ∧ Q (.bl true) H
theorem ok_texts {f : Addr} {fd : FuncData} (F : Fun K "_law_texts" "_law_texts" s_law_texts f fd) (T : Bt mg) : FnOk P w K mg base CX0 1 f fd ["_law_found", "_law_due"] (spTexts K) := by
  refine F.ok sc_law_texts (fun vs H Q E h => ?_) (fun cdv A outer s H vs Q E hr h => ?_)
  · obtain ⟨a, b, ys, rfl, _⟩ := h
    rfl
  obtain ⟨a, b, ys, rfl, hA, hb, hl, q⟩ := h
  have ha : SqL K H a (ys.map V.str) := SqL.of hA
  have lm := List.length_map (as := ys) V.str
  refine ⟨_, (pss_cons (ps_if (PW.pt (pw_or (pt_not (pt_val (pe_callB (kIsi (K := K) rfl) (by rfl) T.isinstance (by decide +kernel) (pa_cons (pv 0) (pa_cons (pe_bltn (v := .ty "list") (u := .type "list") rfl T.list (by decide +kernel) rfl) pa_nil))))) (pw_or1 (pt_cmpR op_ne (pe_callB (kLenL (K := K) rfl) (by rfl) T.len (by decide +kernel) (pa_cons (pv 0) pa_nil)) (pe_callB (kLenL (K := K) rfl) (by rfl) T.len (by decide +kernel) (pa_cons (pv 1) pa_nil)) (nomark _))))) (pss_one (ps_ret pe_bl)) pss_nil)
    (pss_cons (ps_for PassesOwn.never rfl (pi_range1 rfl T.range (pa_cons (pe_callB (kLenL (K := K) rfl) (by rfl) T.len (by decide +kernel) (pa_cons (pv 1) pa_nil)) pa_nil)) (pg_name (i := 2) sc_law_texts.nd rfl (Or.inl rfl)) (pss_one (ps_if (PW.pt (pw_or (pt_not (pt_val (pe_callB (kIsi (K := K) rfl) (by rfl) T.isinstance (by decide +kernel) (pa_cons (pe_ix (kIxL (K := K) rfl) (pv 0) (pv 2) (fun _ _ => rfl)) (pa_cons (pe_bltn (v := .ty "str") (u := .type "str") rfl T.str (by decide +kernel) rfl) pa_nil))))) (pw_or1 (pt_cmpR op_ne (pe_ix (kIxL (K := K) rfl) (pv 0) (pv 2) (fun _ _ => rfl)) (pe_ix (kIxL (K := K) rfl) (pv 1) (pv 2) (fun _ _ => rfl)) (nomark _))))) (pss_one (ps_ret pe_bl)) pss_nil)))
    (pss_one (ps_ret pe_bl)))), ?_⟩
  walk_at "rd"
  refine w_isi (TyX.base (TyOf.lst hA)) kit_ll ?_
  walk_at "rd"
  rw [Bool.not_true]
  walk_at "rd"
  rw [decide_eq_true rfl, Bool.not_true]
  walk_at "rd"
  rw [lm]
  refine w_forR (fun i σ H' => H' = H ∧ ∃ v2 : Option V, σ = [some (.ref a), some (.ref b), v2]) (by omega) (by omega) ⟨rfl, _, rfl⟩ (fun i σ H' hi hm => ?_) (fun σ H' hm => ?_)
  · obtain ⟨rfl, v2, rfl⟩ := hm
    have hi : i < ys.length := by omega
    have hx : (ys.map V.str)[i]? = some (.str ys[i]) := by rw [List.getElem?_map, List.getElem?_eq_getElem hi]; rfl
    walk_at "rd"
    refine w_ixL ha (at_nat (i := i) (by omega) hx) ?_
    walk_at "rd"
    refine w_isi (TyX.base (TyOf.str _)) kit_ss ?_
    walk_at "rd"
    rw [Bool.not_true]
    walk_at "rd"
    refine w_ixL ha (at_nat (i := i) (by omega) hx) ?_
    walk_at "rd"
    refine w_ixL hb (at_nat (i := i) (by omega) hx) ?_
    walk_at "rd"
    rw [decide_eq_true rfl, Bool.not_true]
    walk_at "rd"
    exact ⟨rfl, _, rfl⟩
  · obtain ⟨rfl, v2, rfl⟩ := hm
    walk_at "rd"
    exact q
def spRow : Sp := fun vs H Q _ => ∃ (D : TreeD) (i : Nat) (p : Addr) (cell : Int), vs = [.int (D.dp i : Int), .ref p, .str (D.sh i).name, .int cell] ∧ D.WF ∧ i < D.n ∧ H p = some (.lst ((shW (D.sh i)).map V.str)) ∧ ∀ y H', Same H H' → GoodRow D i (tl y) → y.length ≤ 200 → Q (.str y) H'
theorem ok_row {f : Addr} {fd : FuncData} (F : Fun K "_law_row" "_law_row" s_law_row f fd) (T : Bt mg) : FnOk P w K mg base CX0 1 f fd ["_law_depth", "_law_words", "_law_name_here", "_law_cell"] spRow := by
  refine F.ok sc_law_row (fun vs H Q E h => ?_) (fun cdv A outer s H vs Q E hr h => ?_)
  · obtain ⟨D, i, p, cell, rfl, _⟩ := h
    rfl
  obtain ⟨D, i, p, cell, rfl, W, hi, hp, q⟩ := h
  have hz := PySem.sizeLine_eq
  have ok := W.ok _ (sh_mem hi)
  have d8 := W.d8 i hi
  have sl := shW_len ok
  have ln : (D.sh i).name.length ≤ 12 := sl.1 _ (List.mem_append_right _ List.mem_cons_self)
  have l7 := sl.2
  rw [List.length_append, List.length_singleton] at l7
  refine ⟨_, (pss_cons (ps_set (i := 4) sc_law_row.nd rfl (Or.inl rfl) (pe_op op_mul_str pe_str (pe_op op_add pe_int (pe_op op_mod (pv 3) pe_int))))
    (pss_cons (ps_set (i := 5) sc_law_row.nd rfl (Or.inl rfl) (pe_op op_addS (pe_op op_addS (pe_op op_mul_str pe_str (pv 0)) (pe_join (pv 4) (pe_op op_cat (pv 1) (pe_lst (pa_cons (pv 2) pa_nil))))) (pe_op op_mul_str pe_str (pe_op op_mod (pe_op op_fdiv (pv 3) pe_int) pe_int))))
    (C8.pss_cut (ps_if (pt_cmpR op_eq (pe_op op_mod (pv 3) pe_int) pe_int (nomark _)) (pss_one (ps_set (i := 5) sc_law_row.nd rfl (Or.inl rfl) (pe_op op_addS (pe_op op_addS (pe_op op_addS pe_str (pv 2)) pe_str) (pv 5)))) pss_nil)
    (C8.pss_cut (ps_if (pt_cmpR op_eq (pe_op op_mod (pv 3) pe_int) pe_int (nomark _)) (pss_one (ps_set (i := 5) sc_law_row.nd rfl (Or.inl rfl) (pe_op op_addS (pe_op op_addS (pv 5) pe_str) (pe_op op_mul_str pe_str (pe_op op_mod (pv 3) pe_int))))) pss_nil)
    (pss_one (ps_ret (pv 5))))))), ?_⟩
  walk_at "rd"
  obtain ⟨g, eg, hg⟩ : ∃ g : Nat, (1 : Int) + cell % 3 = ((g + 1 : Nat) : Int) ∧ g ≤ 2 := ⟨(cell % 3).toNat, by omega, by omega⟩
  rw [eg]
  refine w_mulS (by decide) (by omega) ?_
  have tg : tl (Txt.mul (" " : Str) ((g + 1 : Nat) : Int)) = List.replicate (g + 1) 32 := tl_mul1 32 (g + 1)
  generalize Txt.mul (" " : Str) ((g + 1 : Nat) : Int) = gap at tg
  have lgap : gap.length ≤ 3 := by rw [len_tl, tg, List.length_replicate]; omega
  walk_at "rd"
  refine w_mulS (by decide) (by omega) ?_
  have t1 : tl (Txt.mul ("  " : Str) ((D.dp i : Nat) : Int)) = List.replicate (2 * D.dp i) 32 := tl_mul2 32 (D.dp i)
  generalize Txt.mul ("  " : Str) ((D.dp i : Nat) : Int) = y1 at t1
  have l1 : y1.length ≤ 16 := by rw [len_tl, t1, List.length_replicate]; omega
  walk_at "rd"
  refine ⟨by walk_at "sz", fun e he => ?_⟩
  have s1 := same_new he (.lst [V.str (D.sh i).name])
  refine w_cat (s1 _ _ hp) upd_same (by rw [List.length_map]; show _ + 1 ≤ _; omega) fun c hc => ?_
  have s2 := same_upd (o := .lst ((shW (D.sh i)).map V.str ++ [V.str (D.sh i).name])) s1 hc
  have ec : upd (upd H e (.lst [V.str (D.sh i).name])) c (.lst ((shW (D.sh i)).map V.str ++ [V.str (D.sh i).name])) c = some (.lst ((shW (D.sh i) ++ [(D.sh i).name]).map V.str)) := by rw [upd_same, List.map_append]; rfl
  generalize upd (upd H e (.lst [V.str (D.sh i).name])) c (.lst ((shW (D.sh i)).map V.str ++ [V.str (D.sh i).name])) = H2 at s2 ec
  have sw := sum_le _ sl.1
  walk_at "rd"
  refine ⟨gap, c, shW (D.sh i) ++ [(D.sh i).name], rfl, rfl, .inl (SqL.of ec), ?_, ?_⟩
  · have h1 : (shW (D.sh i) ++ [(D.sh i).name]).length * 12 ≤ 7 * 12 := Nat.mul_le_mul sl.2 (Nat.le_refl _)
    have h2 : (shW (D.sh i) ++ [(D.sh i).name]).length * gap.length ≤ 7 * 3 := Nat.mul_le_mul sl.2 lgap
    omega
  have t2 := tl_joinT gap (shW (D.sh i) ++ [(D.sh i).name])
  have l2 : (Txt.join gap (shW (D.sh i) ++ [(D.sh i).name])).length ≤ 7 * 15 := by
    rw [len_tl, t2]
    refine Nat.le_trans (joinL_len (m := 12) _ _ fun p hp => ?_) ?_
    · obtain ⟨x, hx, rfl⟩ := List.mem_map.mp hp
      rw [← len_tl]
      exact sl.1 x hx
    · rw [List.length_map]
      exact Nat.mul_le_mul sl.2 (by rw [← len_tl]; omega)
  generalize Txt.join gap (shW (D.sh i) ++ [(D.sh i).name]) = y2 at t2 l2
  refine w_addS (by omega) ?_
  walk_at "rd"
  obtain ⟨tr, etr, htr⟩ : ∃ t : Nat, cell / 3 % 3 = (t : Int) ∧ t ≤ 2 := ⟨(cell / 3 % 3).toNat, by omega, by omega⟩
  rw [etr]
  refine w_mulS (by decide) (by omega) ?_
  have t3 : tl (Txt.mul (" " : Str) (tr : Int)) = List.replicate tr 32 := tl_mul1 32 tr
  generalize Txt.mul (" " : Str) (tr : Int) = y3 at t3
  have l3 : y3.length ≤ 2 := by rw [len_tl, t3, List.length_replicate]; omega
  have l12 : (y1 ++ y2).length = y1.length + y2.length := by rw [len_tl, tl_append, List.length_append, ← len_tl, ← len_tl]
  refine w_addS (by omega) ?_
  have e0 : tl (y1 ++ y2 ++ y3) = List.replicate (2 * D.dp i) 32 ++ (joinL (List.replicate (g + 1) 32) ((shW (D.sh i) ++ [(D.sh i).name]).map tl) ++ List.replicate tr 32) := by rw [tl_append, tl_append, t1, t2, t3, tg, List.append_assoc]
  have l0 : (y1 ++ y2 ++ y3).length ≤ 130 := by
    rw [len_tl, tl_append, List.length_append, ← len_tl, ← len_tl]
    omega
  have g0 : GoodRow D i (tl (y1 ++ y2 ++ y3)) := goodRow_of W hi ⟨g, tr, e0⟩
  generalize y1 ++ y2 ++ y3 = y at e0 l0 g0
  clear e0 t1 t2 t3 l12 l2 l1 l3
  refine w_cut (fun σ H' => H' = H2 ∧ ∃ y : Str, σ = [some (.int (D.dp i : Int)), some (.ref p), some (.str (D.sh i).name), some (.int cell), some (.str gap), some (.str y)] ∧ GoodRow D i (tl y) ∧ y.length ≤ 160) ?_ (fun σ H' hm => ?_)
  · walk_at "rd"
    walk_at "if"
    all_goals walk_at "rd"
    · have a1 : (("   # " : Str) ++ (D.sh i).name).length = 5 + (D.sh i).name.length := by rw [len_tl, tl_append, List.length_append, ← len_tl]; rfl
      have a2 : (("   # " : Str) ++ (D.sh i).name ++ ("\n" : Str)).length = 6 + (D.sh i).name.length := by rw [len_tl, tl_append, List.length_append, ← len_tl, a1]; show _ + 1 = _; omega
      refine w_addS (by show 5 + _ ≤ _; omega) ?_
      walk_at "rd"
      refine w_addS (by rw [a1]; show _ + 1 ≤ _; omega) ?_
      walk_at "rd"
      refine ⟨rfl, _, rfl, ?_, ?_⟩
      · have e : tl (("   # " : Str) ++ (D.sh i).name ++ ("\n" : Str) ++ y) = (List.replicate 3 32 ++ 35 :: (32 :: tl (D.sh i).name)) ++ 10 :: tl y := by
          rw [tl_append, tl_append, tl_append]
          show ([32, 32, 32, 35, 32] ++ tl (D.sh i).name ++ [10]) ++ tl y = _
          simp
        rw [e]
        refine goodRow_pre g0 (.inr ⟨3, _, rfl⟩) fun h => ?_
        simp only [List.mem_append, List.mem_replicate, List.mem_cons] at h
        rcases h with h | h | h | h
        · omega
        · omega
        · omega
        · exact name_free W hi h
      · rw [len_tl, tl_append, List.length_append, ← len_tl, ← len_tl, a2]
        omega
    · exact ⟨rfl, y, rfl, g0, by omega⟩
  obtain ⟨rfl, y, rfl, g1, l1⟩ := hm
  refine w_cut (fun σ H2 => H2 = H' ∧ ∃ y : Str, σ = [some (.int (D.dp i : Int)), some (.ref p), some (.str (D.sh i).name), some (.int cell), some (.str gap), some (.str y)] ∧ GoodRow D i (tl y) ∧ y.length ≤ 200) ?_ (fun σ H2 hm => ?_)
  · walk_at "rd"
    walk_at "if"
    all_goals walk_at "rd"
    · have a1 : (y ++ ("\n" : Str)).length = y.length + 1 := by rw [len_tl, tl_append, List.length_append, ← len_tl]; rfl
      refine w_addS (by show _ + 1 ≤ _; omega) ?_
      walk_at "rd"
      obtain ⟨n, en, hn⟩ : ∃ t : Nat, cell % 5 = (t : Int) ∧ t ≤ 4 := ⟨(cell % 5).toNat, by omega, by omega⟩
      rw [en]
      refine w_mulS (by decide) (by omega) ?_
      have t3 : tl (Txt.mul (" " : Str) (n : Int)) = List.replicate n 32 := tl_mul1 32 n
      generalize Txt.mul (" " : Str) (n : Int) = y3 at t3
      have l3 : y3.length ≤ 4 := by rw [len_tl, t3, List.length_replicate]; omega
      refine w_addS (by rw [a1]; omega) ?_
      walk_at "rd"
      refine ⟨rfl, _, rfl, ?_, ?_⟩
      · have e : tl (y ++ ("\n" : Str) ++ y3) = tl y ++ 10 :: List.replicate n 32 := by
          rw [tl_append, tl_append, t3]
          show (tl y ++ [10]) ++ _ = _
          simp
        rw [e]
        refine goodRow_post g1 (.inl ⟨n, rfl⟩) fun h => ?_
        have := (List.mem_replicate.mp h).2
        omega
      · rw [len_tl, tl_append, List.length_append, ← len_tl, ← len_tl, a1]
        omega
    · exact ⟨rfl, y, rfl, g1, by omega⟩
  obtain ⟨rfl, y, rfl, g2, l2⟩ := hm
  walk_at "rd"
  exact q y _ s2 g2 l2
end
end Mn

namespace Mn
open PySem PySem.Spec PyProof.Rows L2 TL L2H
theorem kJoin {X : Cx} {K : PySem.W.Frag} {o e : Expr} {to te : TE} {apos pos : Pos} (hK : X.K = K) (ho : PE X o to) (he : PE X e te) (hs : starEach [e] X.env = [(false, eval e X.env)] := by rfl) (hbase : attributeBase o "join" X.env (eval o X.env) = eval o X.env := by rfl) (hline : (apos.endLine == pos.line) = true := by rfl) :
    PE X (.Call (.Attribute o "join" apos) [e] [] pos) (tM1 (fun x xs H Q => ∃ a p, ∃ ys : List Str, x = .str a ∧ xs = [.ref p] ∧ (SqL K H p (ys.map V.str) ∨ SqT K H p (ys.map V.str)) ∧ (ys.map (·.length)).sum + ys.length * a.length ≤ 16777216 ∧ Q (.str (Txt.join a ys)) H) to te) := by
  subst hK
  exact pe_join ho he hs hbase hline
theorem w_catS {xs ys zs : List V} {H0 H : Hp} {p b : Addr} {R : VK} (s : Same H0 H) (e : H p = some (.lst xs)) (nb : H b = none) (ez : xs ++ ys = zs) (l : xs.length + ys.length ≤ sizeLine) (q : ∀ c H', Same H H' → H' c = some (.lst zs) → R (.ref c) H') : rCat (.ref p) (.ref b) (upd H b (.lst ys)) R := by
  have s1 := same_new nb (.lst ys)
  refine w_cat (s1 _ _ e) upd_same l fun c nc => ?_
  subst ez
  exact q c _ (same_upd s1 nc) upd_same
theorem sh_inj {D : TreeD} (W : D.WF) {i j : Nat} (hi : i < D.n) (hj : j < D.n) (e : (D.sh i).name = (D.sh j).name) : i = j := by
  have at_ : ∀ i, i < D.n → D.shs[i]? = some (D.sh i) := fun i hi => by
    unfold TreeD.sh
    rw [List.getD_eq_getElem?_getD, List.getElem?_eq_getElem (show i < D.shs.length from hi)]
    rfl
  have h1 := kvs_at W.nm (at_ i hi)
  have h2 := kvs_at W.nm (at_ j hj)
  rw [e, h2] at h1
  have := V.int.inj (Option.some.inj h1)
  omega
theorem dps_at {D : TreeD} (W : D.WF) {i : Nat} (hi : i < D.n) : (D.dps.map fun n : Nat => V.int n)[i]? = some (.int (D.dp i : Int)) := by
  have hi2 : i < D.dps.length := by rw [W.ld]; exact hi
  unfold TreeD.dp
  rw [List.getElem?_map, List.getD_eq_getElem?_getD, List.getElem?_eq_getElem hi2]
  rfl
theorem names_at {D : TreeD} {i : Nat} (hi : i < D.n) : (D.shs.map fun s => V.str s.name)[i]? = some (.str (D.sh i).name) := by
  have hi2 : i < D.shs.length := hi
  unfold TreeD.sh
  rw [List.getElem?_map, List.getD_eq_getElem?_getD, List.getElem?_eq_getElem hi2]
  rfl
theorem names_list (D : TreeD) : (D.shs.map fun s => V.str s.name) = (D.shs.map Shp.name).map V.str := by rw [List.map_map]; rfl
/-- texts that are told row by row -/
theorem rowsOf {D : TreeD} (g : Good D) {ys : List Str} (ln : ys.length = D.n) (h : ∀ j, j < D.n → GoodRow D j (tl (ys.getD j "")) ∧ (ys.getD j "").length ≤ 200) {x : Str} (hx : tl x = joinL [10] (ys.map tl)) : readM x = .ok D ∧ (∀ r ∈ rowsM x, r.length ≤ 640) ∧ x.length ≤ 100000 := by
  have e : ys.map tl = (List.range D.n).map fun j => tl (ys.getD j "") := by
    refine List.ext_getElem (by simp [ln]) fun k h1 h2 => ?_
    rw [List.length_map] at h1
    rw [List.getElem_map, List.getElem_map, List.getElem_range, List.getD_eq_getElem?_getD, List.getElem?_eq_getElem h1]
    rfl
  have sz := g.wf.sz
  rw [e] at hx
  refine ⟨read_good g _ hx fun i hi => (h i hi).1, rows_len g _ hx fun i hi => ?_, ?_⟩
  · have := (h i hi).2
    rw [len_tl] at this
    omega
  · rw [len_tl, hx]
    have := joinL_len (m := 200) [10] ((List.range D.n).map fun j => tl (ys.getD j "")) fun p hp => by
      obtain ⟨i, hi, rfl⟩ := List.mem_map.mp hp
      have := (h i (List.mem_range.mp hi)).2
      rw [len_tl] at this
      exact this
    have h2 : ((List.range D.n).map fun j => tl (ys.getD j "")).length * (200 + [10].length) ≤ 64 * 201 := by
      rw [List.length_map, List.length_range]
      exact Nat.mul_le_mul sz (Nat.le_refl _)
    omega
theorem getD_app {ys : List Str} {y : Str} (j : Nat) : (ys ++ [y]).getD j "" = if j = ys.length then y else ys.getD j "" := by
  rw [List.getD_eq_getElem?_getD, List.getD_eq_getElem?_getD]
  by_cases h : j < ys.length
  · rw [List.getElem?_append_left h, if_neg (by omega)]
  · rw [List.getElem?_append_right (by omega)]
    by_cases e : j = ys.length
    · subst e
      rw [if_pos rfl, Nat.sub_self]
      rfl
    · rw [if_neg e, List.getElem?_eq_none (by simp; omega), List.getElem?_eq_none (by omega)]
section
variable {P : Program} {w : World} {K : PySem.W.Frag} {mg : Str → Option Value} {base : Heap} {CT CN : Addr} {cls : Nat → Addr}
def spLaw (K : PySem.W.Frag) : Sp := fun vs H Q _ => ∃ (a : Addr) (ns : List Int), vs = [.ref a] ∧ SqL K H a (ns.map V.int) ∧ ns.length ≤ 63 ∧ ∀ H', Q (.bl true) H'
theorem ok_law {f : Addr} {fd : FuncData} (F : Fun K "law" "law" s_law f fd) (T : Bt mg) (cT : ClsF K CT treeN) (e_NoName : ErrK K mg "NoName" CN) (eN : PySem.W.exmOne K (.ref CN) (.ref CN) = some true)
    (CC : Cal P w K mg base CX0 "_law_cell_at" 1 ["_law_script", "_law_k"] [] (spCell K)) (CTr : Cal P w K mg base CX0 "_law_tree" 2 ["_law_script", "_law_first", "_law_count", "_law_mark"] [] (spTree K))
    (CRw : Cal P w K mg base CX0 "_law_row" 1 ["_law_depth", "_law_words", "_law_name_here", "_law_cell"] [] spRow) (CTx : Cal P w K mg base CX0 "_law_texts" 1 ["_law_found", "_law_due"] [] (spTexts K))
    (CR : CalG P w K mg base "read" 7 ["text"] [] (spRead CT cls)) (CW : CalG P w K mg base "written" 3 ["tree"] [] (spWritten CT cls)) (MN : Mth P w K mg base CX0 CT "names" 1 ["self"] [] (spNames CT cls))
    (MF : Mth P w K mg base (CXK P w) CT "find" 1 ["self", "name"] [] (spFindK CT cls CN)) : FnOk P w K mg base CX0 9 f fd ["_law_script"] (spLaw K) := by
  have MF0 : Mth P w K mg base CX0 CT "find" 1 ["self", "name"] [] (fun vs H Q _ => spFindK CT cls CN vs H Q E0) := by
    obtain ⟨f, fd, ds, F, r⟩ := MF.ex
    exact ⟨f, fd, ds, calmK F, r⟩
  refine F.ok sc_law (fun vs H Q E h => ?_) (fun cdv A0 outer s0 H vs Q E hr h => ?_)
  · obtain ⟨a0, ns, rfl, _⟩ := h
    rfl
  obtain ⟨a0, ns, rfl, hS, hl, q⟩ := h
  have zl := PySem.sizeLine_eq
  refine ⟨_, (pss_cons (ps_set (i := 1) sc_law.nd rfl (Or.inl rfl) (pe_op op_add pe_int (pe_op op_mod (pe_ca (P := P) (w := w) (K := K) (mg := mg) (base := base) ⟨rfl, rfl, rfl, rfl, rfl⟩ hr rfl (pa_cons (pv 0) (pa_cons pe_int pa_nil))) pe_int)))
    (C8.pss_cut (ps_if (pt_cmpR op_eq (pe_op op_mod (pe_op op_fdiv (pe_ca (P := P) (w := w) (K := K) (mg := mg) (base := base) ⟨rfl, rfl, rfl, rfl, rfl⟩ hr rfl (pa_cons (pv 0) (pa_cons pe_int pa_nil))) pe_int) pe_int) pe_int (nomark _)) (pss_one (ps_set (i := 1) sc_law.nd rfl (Or.inl rfl) (pe_op op_add pe_int (pv 1)))) pss_nil)
    (pss_cons (ps_set (i := 2) sc_law.nd rfl (Or.inl rfl) (pe_ca (P := P) (w := w) (K := K) (mg := mg) (base := base) ⟨rfl, rfl, rfl, rfl, rfl⟩ hr rfl (pa_cons (pv 0) (pa_cons pe_int pa_nil))))
    (pss_cons (ps_asg (pe_ca (P := P) (w := w) (K := K) (mg := mg) (base := base) ⟨rfl, rfl, rfl, rfl, rfl⟩ hr rfl (pa_cons (pv 0) (pa_cons pe_int (pa_cons (pv 1) (pa_cons (pv 2) pa_nil))))) (kTup (K := K) rfl rfl (pgs_cons (pg_name (i := 3) sc_law.nd rfl (Or.inl rfl)) (pgs_cons (pg_name (i := 4) sc_law.nd rfl (Or.inl rfl)) (pgs_cons (pg_name (i := 5) sc_law.nd rfl (Or.inl rfl)) (pgs_cons (pg_name (i := 6) sc_law.nd rfl (Or.inl rfl)) pgs_nil))))))
    (pss_cons (ps_set (i := 7) sc_law.nd rfl (Or.inl rfl) (pe_lst pa_nil))
    (pss_cons (ps_set (i := 8) sc_law.nd rfl (Or.inl rfl) (pe_lst pa_nil))
    (pss_cons (ps_for PassesOwn.never rfl (pi_range1 rfl T.range (pa_cons (pv 1) pa_nil)) (pg_name (i := 9) sc_law.nd rfl (Or.inl rfl)) (pss_cons (ps_expr (kBm (K := K) rfl PySem.F.plainAttrs_list PySem.F.slot_list_append PySem.F.type_list_append mt_append (pv 7) (pa_cons (pe_ca (P := P) (w := w) (K := K) (mg := mg) (base := base) ⟨rfl, rfl, rfl, rfl, rfl⟩ hr rfl (pa_cons (pe_ix (kIxL (K := K) rfl) (pv 3) (pv 9) (fun _ _ => rfl)) (pa_cons (pe_ix (kIxL (K := K) rfl) (pv 5) (pv 9) (fun _ _ => rfl)) (pa_cons (pe_ix (kIxL (K := K) rfl) (pv 6) (pv 9) (fun _ _ => rfl)) (pa_cons (pe_op op_fdiv (pe_ca (P := P) (w := w) (K := K) (mg := mg) (base := base) ⟨rfl, rfl, rfl, rfl, rfl⟩ hr rfl (pa_cons (pv 0) (pa_cons (pe_op op_add pe_int (pv 9)) pa_nil))) pe_int) pa_nil))))) pa_nil)))
    (pss_one (ps_expr (kBm (K := K) rfl PySem.F.plainAttrs_list PySem.F.slot_list_append PySem.F.type_list_append mt_append (pv 8) (pa_cons (pe_op op_addS (pe_op op_mul_str pe_str (pe_ix (kIxL (K := K) rfl) (pv 3) (pv 9) (fun _ _ => rfl))) (pe_join pe_str (pe_op op_cat (pe_ix (kIxL (K := K) rfl) (pv 5) (pv 9) (fun _ _ => rfl)) (pe_lst (pa_cons (pe_ix (kIxL (K := K) rfl) (pv 6) (pv 9) (fun _ _ => rfl)) pa_nil))))) pa_nil))))))
    (pss_cons (ps_try_thru (pss_one (ps_set (i := 10) sc_law.nd rfl (Or.inl rfl) (pe_ca (P := P) (w := w) (K := K) (mg := mg) (base := base) ⟨rfl, rfl, rfl, rfl, rfl⟩ hr rfl (pa_cons (pe_join pe_str (pv 7)) pa_nil)))) pss_nil)
    (pss_cons (ps_if (pt_not (pt_val (pe_ca (P := P) (w := w) (K := K) (mg := mg) (base := base) ⟨rfl, rfl, rfl, rfl, rfl⟩ hr rfl (pa_cons (pe_ma0 (P := P) (w := w) (K := K) (mg := mg) (base := base) ⟨rfl, rfl, rfl, rfl, rfl⟩ hr (pv 10)) (pa_cons (pv 6) pa_nil))))) (pss_one (ps_ret pe_bl)) pss_nil)
    (pss_cons (ps_expr (kBm (K := K) rfl PySem.F.plainAttrs_list PySem.F.slot_list_append PySem.F.type_list_append mt_append (pe_ma0 (P := P) (w := w) (K := K) (mg := mg) (base := base) ⟨rfl, rfl, rfl, rfl, rfl⟩ hr (pv 10)) (pa_cons pe_str pa_nil)))
    (pss_cons (ps_set (i := 11) sc_law.nd rfl (Or.inl rfl) (pe_op op_mod (pe_ca (P := P) (w := w) (K := K) (mg := mg) (base := base) ⟨rfl, rfl, rfl, rfl, rfl⟩ hr rfl (pa_cons (pv 0) (pa_cons pe_int pa_nil))) (pv 1)))
    (pss_cons (ps_set (i := 12) sc_law.nd rfl (Or.inl rfl) (pe_ma (P := P) (w := w) (K := K) (mg := mg) (base := base) ⟨rfl, rfl, rfl, rfl, rfl⟩ hr (pv 10) (pa_cons (pe_ix (kIxL (K := K) rfl) (pv 6) (pv 11) (fun _ _ => rfl)) pa_nil)))
    (pss_cons (ps_if (PW.pt (pw_or (pt_not (pt_val (pe_callB (kIsi (K := K) rfl) (by rfl) T.isinstance (by decide +kernel) (pa_cons (pv 12) (pa_cons (pe_bltn (v := .ty "int") (u := .type "int") rfl T.int (by decide +kernel) rfl) pa_nil))))) (pw_or (pt_val (pe_callB (kIsi (K := K) rfl) (by rfl) T.isinstance (by decide +kernel) (pa_cons (pv 12) (pa_cons (pe_bltn (v := .ty "bool") (u := .type "bool") rfl T.bool (by decide +kernel) rfl) pa_nil)))) (pw_or (pt_cmpR op_ne (pv 12) (pv 11) (nomark _)) (pw_or1 (pt_not (pt_val (pe_ca (P := P) (w := w) (K := K) (mg := mg) (base := base) ⟨rfl, rfl, rfl, rfl, rfl⟩ hr rfl (pa_cons (pe_ma0 (P := P) (w := w) (K := K) (mg := mg) (base := base) ⟨rfl, rfl, rfl, rfl, rfl⟩ hr (pv 10)) (pa_cons (pv 6) pa_nil)))))))))) (pss_one (ps_ret pe_bl)) pss_nil)
    (pss_cons (ps_try_onlyK rfl rfl ⟨rfl, by decide, Or.inl e_NoName.g⟩ (fun W pn xe tk => by exact (pss_cons (ps_expr (pe_maK (P := P) (w := w) (K := K) (mg := mg) (base := base) ⟨rfl, rfl, rfl, rfl, rfl⟩ hr tk (pv 10) (pa_cons (pe_op op_addS (pe_op op_addS pe_str (pe_slice sl_str (pe_ix (kIxL (K := K) rfl) (pv 6) (pv 11) (fun _ _ => rfl)) po_none (po_some pe_int))) pe_str) pa_nil)))
    (pss_one (ps_ret pe_bl)))) (fun a oe q cls d pn hot => by exact (pss_one (ps_set (i := 13) sc_law.nd rfl (Or.inl rfl) (pe_caG (P := P) (w := w) (K := K) (mg := mg) (base := base) ⟨rfl, rfl, rfl, rfl, rfl⟩ (rgS hr hot) rfl (pa_cons (pe_caG (P := P) (w := w) (K := K) (mg := mg) (base := base) ⟨rfl, rfl, rfl, rfl, rfl⟩ (rgS hr hot) rfl (pa_cons (kJoin (K := K) rfl pe_str (pv 8)) pa_nil)) pa_nil))))))
    (pss_cons (ps_set (i := 14) sc_law.nd rfl (Or.inl rfl) (pe_ca (P := P) (w := w) (K := K) (mg := mg) (base := base) ⟨rfl, rfl, rfl, rfl, rfl⟩ hr rfl (pa_cons (pv 10) pa_nil)))
    (pss_cons (ps_if (PW.pt (pw_or (pt_not (pt_val (pe_callB (kIsi (K := K) rfl) (by rfl) T.isinstance (by decide +kernel) (pa_cons (pv 14) (pa_cons (pe_bltn (v := .ty "str") (u := .type "str") rfl T.str (by decide +kernel) rfl) pa_nil))))) (pw_or1 (pt_cmpR op_ne (pv 14) (pe_join pe_str (pv 8)) (nomark _))))) (pss_one (ps_ret pe_bl)) pss_nil)
    (pss_one (ps_ret (pe_and (pe_callB (kIsi (K := K) rfl) (by rfl) T.isinstance (by decide +kernel) (pa_cons (pv 13) (pa_cons (pe_bltn (v := .ty "str") (u := .type "str") rfl T.str (by decide +kernel) rfl) pa_nil))) (pe_one (pe_cmpR op_eq (pv 13) (pv 14) (nomark _)))))))))))))))))))))), ?_⟩
  walk_at "rd"
  refine w_ca CC (by decide) ?_
  walk_at "rd"
  refine ⟨a0, ns, 0, rfl, hS, by omega, ?_⟩
  walk_at "rd"
  obtain ⟨c14, ec, hc1, hc14⟩ : ∃ n : Nat, (1 : Int) + cellAt ns 0 % 14 = (n : Int) ∧ 1 ≤ n ∧ n ≤ 14 := ⟨((1 : Int) + cellAt ns 0 % 14).toNat, by omega, by omega, by omega⟩
  rw [ec]
  refine w_cut (fun σ H2 => ∃ cnt : Nat, H2 = H ∧ 1 ≤ cnt ∧ cnt ≤ 64 ∧ σ = [some (.ref a0), some (.int (cnt : Int)), none, none, none, none, none, none, none, none, none, none, none, none, none]) ?_ (fun σ H2 hm => ?_)
  · walk_at "rd"
    refine w_ca CC (by decide) ?_
    walk_at "rd"
    refine ⟨a0, ns, 0, rfl, hS, by omega, ?_⟩
    walk_at "rd"
    walk_at "if"
    all_goals rename_i c
    · walk_at "rd"
      refine ⟨50 + c14, rfl, by omega, by omega, ?_⟩
      rw [show (50 : Int) + (c14 : Int) = ((50 + c14 : Nat) : Int) by omega]
    · walk_at "rd"
      exact ⟨c14, rfl, hc1, by omega, rfl⟩
  obtain ⟨cnt, rfl, h1, h64, rfl⟩ := hm
  walk_at "rd"
  refine w_ca CC (by decide) ?_
  walk_at "rd"
  refine ⟨a0, ns, 1, rfl, hS, by omega, ?_⟩
  walk_at "rd"
  generalize cellAt ns 1 = mark
  refine w_ca CTr (by decide) ?_
  walk_at "rd"
  refine ⟨a0, ns, 2, cnt, mark, rfl, hS, by omega, h1, h64, fun D t4 H1 G nm ⟨pp, PO⟩ hn s1 LT1 => ?_⟩
  have W := G.wf
  have pos := G.pos
  have sz := W.sz
  obtain ⟨x, y, z, v, ws, ht, ha, hb, hc, lw, hw, hd⟩ := LT1
  subst hn
  walk_at "rd"
  refine ⟨Nat.zero_le _, fun rr hrr => ?_⟩
  have s2 := same_new hrr (.lst [])
  have frr : H2 rr = none := s1.free hrr
  have err : upd H1 rr (.lst []) rr = some (.lst []) := upd_same
  walk_at "rd"
  refine ⟨Nat.zero_le _, fun rp hrp => ?_⟩
  have s3 := same_upd (o := .lst []) s2 hrp
  have frp : H1 rp = none := updN hrp
  have nrp : rr ≠ rp := ne_of_none err hrp
  have err : upd (upd H1 rr (.lst [])) rp (.lst []) rr = some (.lst []) := (upd_ne nrp).trans err
  have erp : upd (upd H1 rr (.lst [])) rp (.lst []) rp = some (.lst []) := upd_same
  generalize upd (upd H1 rr (.lst [])) rp (.lst []) = H3 at s3 err erp
  clear s2 hrp
  have lwn := names_list D
  walk_at "rd"
  refine w_forR (fun i σ H' => ∃ (v9 : Option V) (ys zs : List Str), Same H1 H' ∧ H' rr = some (.lst (ys.map V.str)) ∧ H' rp = some (.lst (zs.map V.str)) ∧ ys.length = i ∧ (∀ j, j < i → GoodRow D j (tl (ys.getD j "")) ∧ (ys.getD j "").length ≤ 200) ∧ zs.map tl = (List.range i).map (rowTextL D) ∧
    σ = [some (.ref a0), some (.int (D.n : Int)), some (.int mark), some (.ref x), some (.ref y), some (.ref z), some (.ref v), some (.ref rr), some (.ref rp), v9, none, none, none, none, none]) (by omega) (by omega) ⟨_, [], [], s3, err, erp, rfl, fun j hj => absurd hj (Nat.not_lt_zero j), rfl, rfl⟩ (fun i σ H' hi hm => ?_) (fun σ H' hm => ?_)
  · obtain ⟨v9, ys, zs, t1, er, ep, ly, gy, ez, rfl⟩ := hm
    have hi : i < D.n := by omega
    have lz : zs.length = i := by have := congrArg List.length ez; rw [List.length_map, List.length_map, List.length_range] at this; exact this
    have ok := W.ok _ (sh_mem hi)
    have d8 := W.d8 i hi
    have hp : ws[i]? = some ws[i] := List.getElem?_eq_getElem (by omega)
    generalize ws[i] = p at hp
    have hpw := t1 _ _ (hw i p hp)
    have hx' := t1 _ _ ha
    have hz' := t1 _ _ hc
    have hv' := t1 _ _ hd
    have hS' := (s1.trans t1).seq hS
    rw [Int.zero_add]
    walk_at "rd"
    refine w_ca CRw (by decide) ?_
    walk_at "rd"
    refine w_ixL (v := .int (D.dp i : Int)) (SqL.of hx') (at_nat (i := i) rfl (dps_at W hi)) ?_
    walk_at "rd"
    refine w_ixL (v := .ref p) (SqL.of hz') (at_nat (i := i) rfl (by rw [List.getElem?_map, hp]; rfl)) ?_
    walk_at "rd"
    refine w_ixL (v := .str (D.sh i).name) (SqL.of hv') (at_nat (i := i) rfl (names_at hi)) ?_
    walk_at "rd"
    refine w_ca CC (by decide) ?_
    walk_at "rd"
    rw [show (3 : Int) + (i : Int) = ((3 + i : Nat) : Int) by omega]
    refine ⟨a0, ns, 3 + i, rfl, hS', by omega, ?_⟩
    walk_at "rd"
    refine ⟨D, i, p, _, rfl, W, hi, hpw, fun yy H4 s4 gy2 ly2 => ?_⟩
    walk_at "rd"
    have m4 := same_mut (o := .lst (ys.map V.str ++ [V.str yy])) (t1.trans s4) hrr
    have er4 : upd H4 rr (.lst (ys.map V.str ++ [V.str yy])) rr = some (.lst ((ys ++ [yy]).map V.str)) := by rw [upd_same, List.map_append]; rfl
    have ep4 : upd H4 rr (.lst (ys.map V.str ++ [V.str yy])) rp = some (.lst (zs.map V.str)) := (upd_ne nrp.symm).trans (s4 _ _ ep)
    generalize upd H4 rr (.lst (ys.map V.str ++ [V.str yy])) = H5 at m4 er4 ep4
    have hpw := m4 _ _ (hw i p hp)
    have hx' := m4 _ _ ha
    have hz' := m4 _ _ hc
    have hv' := m4 _ _ hd
    clear er ep s4
    walk_at "rd"
    refine w_ixL (v := .int (D.dp i : Int)) (SqL.of hx') (at_nat (i := i) rfl (dps_at W hi)) ?_
    refine w_mulS (by decide) (by omega) ?_
    have tt1 : tl (Txt.mul ("  " : Str) ((D.dp i : Nat) : Int)) = List.replicate (2 * D.dp i) 32 := tl_mul2 32 (D.dp i)
    generalize Txt.mul ("  " : Str) ((D.dp i : Nat) : Int) = y1 at tt1
    have l1 : y1.length ≤ 16 := by rw [len_tl, tt1, List.length_replicate]; omega
    walk_at "rd"
    refine w_ixL (v := .ref p) (SqL.of hz') (at_nat (i := i) rfl (by rw [List.getElem?_map, hp]; rfl)) ?_
    walk_at "rd"
    refine w_ixL (v := .str (D.sh i).name) (SqL.of hv') (at_nat (i := i) rfl (names_at hi)) ?_
    walk_at "rd"
    refine ⟨by walk_at "sz", fun e he => ?_⟩
    have sl := shW_len ok
    rw [List.length_append, List.length_singleton] at sl
    refine w_catS (zs := (shW (D.sh i) ++ [(D.sh i).name]).map V.str) (Same.refl _) hpw he (by rw [show ([V.str (D.sh i).name] : List V) = ([(D.sh i).name] : List Str).map V.str from rfl, ← List.map_append]) (by rw [List.length_map]; show _ + 1 ≤ _; omega) fun g4 H6 s6 ed => ?_
    have sw := sum_le _ (shW_len ok).1
    walk_at "rd"
    refine ⟨_, g4, shW (D.sh i) ++ [(D.sh i).name], rfl, rfl, .inl (SqL.of ed), ?_, ?_⟩
    · rw [List.length_append, List.length_singleton] at sw ⊢
      show _ + _ * 1 ≤ _
      omega
    have t2 := tl_joinT " " (shW (D.sh i) ++ [(D.sh i).name])
    have l2 : (Txt.join " " (shW (D.sh i) ++ [(D.sh i).name])).length ≤ 7 * 13 := by
      rw [len_tl, t2]
      refine Nat.le_trans (joinL_len (m := 12) _ _ fun p hp => ?_) ?_
      · obtain ⟨x, hx, rfl⟩ := List.mem_map.mp hp
        rw [← len_tl]
        exact (shW_len ok).1 x hx
      · rw [List.length_map]
        exact Nat.mul_le_mul (shW_len ok).2 (Nat.le_refl _)
    generalize Txt.join " " (shW (D.sh i) ++ [(D.sh i).name]) = y2 at t2 l2
    refine w_addS (by omega) ?_
    walk_at "rd"
    have e9 : tl (y1 ++ y2) = rowTextL D i := by
      rw [tl_append, tt1, t2]
      rfl
    refine ⟨_, ys ++ [yy], zs ++ [y1 ++ y2], same_mut (m4.trans s6) frp, (upd_ne nrp).trans (s6 _ _ er4), by rw [upd_same, List.map_append]; rfl, by rw [List.length_append, ly]; rfl, fun j hj => ?_, by rw [List.map_append, ez, List.range_succ, List.map_append]; show _ ++ [tl (y1 ++ y2)] = _ ++ [rowTextL D i]; rw [e9], rfl⟩
    rw [getD_app]
    by_cases ej : j = ys.length
    · rw [if_pos ej, show j = i by omega]
      exact ⟨gy2, ly2⟩
    · rw [if_neg ej]
      exact gy j (by omega)
  obtain ⟨v9, ys, zs, t1, er, ep, ly, gy, ez, rfl⟩ := hm
  rw [Int.toNat_natCast] at ly gy ez
  have lz : zs.length = D.n := by have := congrArg List.length ez; rw [List.length_map, List.length_map, List.length_range] at this; exact this
  have sumY := sum_le (m := 200) ys fun y hy => by
    obtain ⟨j, hj, rfl⟩ := List.getElem_of_mem hy
    have := (gy j (by omega)).2
    rw [List.getD_eq_getElem?_getD, List.getElem?_eq_getElem hj] at this
    exact this
  have sumZ := sum_le (m := 107) zs fun y hy => by
    have : tl y ∈ zs.map tl := List.mem_map_of_mem hy
    rw [ez] at this
    obtain ⟨j, hj, e⟩ := List.mem_map.mp this
    rw [len_tl, ← e]
    exact rowText_len W (List.mem_range.mp hj)
  have hv := t1 _ _ hd
  have hS3 := (s1.trans t1).seq hS
  have lnn : (D.shs.map Shp.name).length = D.n := List.length_map ..
  clear hrr err erp s3 ha hb hc hw ht frr frp
  generalize H' = H4 at *
  walk_at "rd"
  refine w_thru ?_
  walk_at "rd"
  refine w_ca CR.cal (by decide) ?_
  walk_at "rd"
  refine ⟨"\n", rr, ys, rfl, rfl, .inl (SqL.of er), by show _ + _ * 1 ≤ _; omega, ?_⟩
  obtain ⟨r1, r2, r3⟩ := rowsOf G ly gy (tl_joinT "\n" ys)
  refine ⟨_, D, rfl, r3, r2, r1, fun A' H5 s5 R5 _ _ _ => ?_⟩
  have R5 := R5.toTR
  have ht5 := R5.ht
  unfold treeF at ht5
  have hv := s5 _ _ hv
  have ep := s5 _ _ ep
  have hS3 := s5.seq hS3
  clear er s5 t1 s1
  walk_at "rd"
  -- its names
  refine w_ca CTx (by decide) ?_
  walk_at "rd"
  refine w_ma1 ht5 cT.cl rfl MN (by decide) ?_
  walk_at "rd"
  refine ⟨A', D, rfl, R5, W, fun n1 hn1 => ?_⟩
  have s6 := same_new hn1 (.lst (D.shs.map fun s => V.str s.name))
  walk_at "rd"
  refine ⟨n1, v, D.shs.map Shp.name, rfl, by rw [upd_same, names_list], by rw [← names_list]; exact SqL.of (s6 _ _ hv), by omega, ?_⟩
  have R6 := R5.same s6
  have ht6 := s6 _ _ ht5
  have hv6 := s6 _ _ hv
  have ep6 := s6 _ _ ep
  have hS6 := s6.seq hS3
  clear hv ep hS3 R5 ht5
  generalize upd H5 n1 (.lst (D.shs.map fun s => V.str s.name)) = H6 at *
  walk_at "rd"
  rw [Bool.not_true]
  walk_at "rd"
  -- a list that is written at
  refine w_ma1 ht6 cT.cl rfl MN (by decide) ?_
  walk_at "rd"
  refine ⟨A', D, rfl, R6, W, fun n2 hn2 => ?_⟩
  have s7 : ∀ o1 o2, Same H6 (upd (upd H6 n2 o1) n2 o2) := fun o1 o2 => same_mut (same_new hn2 o1) hn2
  walk_at "rd"
  refine w_app upd_same (by rw [List.length_map]; have : D.shs.length = D.n := rfl; omega) ?_
  have s7 := s7 (.lst (D.shs.map fun s => V.str s.name)) (.lst ((D.shs.map fun s => V.str s.name) ++ [V.str "qq"]))
  have R7 := R6.same s7
  have ht7 := s7 _ _ ht6
  have hv7 := s7 _ _ hv6
  have ep7 := s7 _ _ ep6
  have hS7 := s7.seq hS6
  clear hv6 ep6 hS6 R6 ht6 s6 hn1
  generalize upd (upd H6 n2 (.lst (D.shs.map fun s => V.str s.name))) n2 (.lst ((D.shs.map fun s => V.str s.name) ++ [V.str "qq"])) = H7 at *
  walk_at "rd"
  refine w_ca CC (by decide) ?_
  walk_at "rd"
  refine ⟨a0, ns, 2, rfl, hS7, by omega, ?_⟩
  walk_at "rd"
  have hm0 := Int.emod_nonneg (cellAt ns 2) (show (D.n : Int) ≠ 0 by omega)
  have hm1 := Int.emod_lt_of_pos (cellAt ns 2) (show (0 : Int) < D.n by omega)
  refine w_I (show (0 : Int) < (D.n : Int) by omega) ?_
  obtain ⟨at_, ea⟩ : ∃ k : Nat, cellAt ns 2 % (D.n : Int) = (k : Int) := ⟨(cellAt ns 2 % (D.n : Int)).toNat, by omega⟩
  rw [ea] at hm1 ⊢
  have hat : at_ < D.n := by omega
  clear ea hm0 hm1
  walk_at "rd"
  -- the place of a name
  refine w_ma1 ht7 cT.cl rfl MF0 (by decide) ?_
  walk_at "rd"
  refine w_ixL (v := .str (D.sh at_).name) (SqL.of hv7) (at_nat (i := at_) rfl (names_at hat)) ?_
  walk_at "rd"
  refine ⟨A', D, _, rfl, R7, W, fun i hi e => ?_, fun h => (h (List.mem_map_of_mem (sh_mem hat))).elim⟩
  obtain rfl := sh_inj W hi hat e
  walk_at "rd"
  refine w_isi (TyX.base (TyOf.int _)) kit_ii ?_
  walk_at "rd"
  rw [Bool.not_true]
  walk_at "rd"
  refine w_isi (TyX.base (TyOf.int _)) kit_ib ?_
  walk_at "rd"
  rw [decide_eq_true rfl, Bool.not_true]
  walk_at "rd"
  refine w_ca CTx (by decide) ?_
  walk_at "rd"
  refine w_ma1 ht7 cT.cl rfl MN (by decide) ?_
  walk_at "rd"
  refine ⟨A', D, rfl, R7, W, fun n3 hn3 => ?_⟩
  have s8 := same_new hn3 (.lst (D.shs.map fun s => V.str s.name))
  walk_at "rd"
  refine ⟨n3, v, D.shs.map Shp.name, rfl, by rw [upd_same, names_list], by rw [← names_list]; exact SqL.of (s8 _ _ hv7), by omega, ?_⟩
  have R8 := R7.same s8
  have ht8 := s8 _ _ ht7
  have hv8 := s8 _ _ hv7
  have ep8 := s8 _ _ ep7
  clear hv7 ep7 hS7 R7 ht7 s7 hn2
  generalize upd H7 n3 (.lst (D.shs.map fun s => V.str s.name)) = H8 at *
  walk_at "rd"
  rw [Bool.not_true]
  walk_at "rd"
  -- a name that is not there
  refine w_maK ?_
  walk_at "rd"
  refine ⟨_, _, _, _, _, _, _, _, rfl, ht8, cT.cl, rfl, MF, by decide, ?_⟩
  walk_at "rd"
  refine w_ixL (v := .str (D.sh i).name) (SqL.of hv8) (at_nat (i := i) rfl (names_at hat)) ?_
  have ok := W.ok _ (sh_mem hat)
  have ln : (D.sh i).name.length ≤ 12 := (shW_len ok).1 _ (List.mem_append_right _ List.mem_cons_self)
  walk_at "rd"
  refine w_slS (by omega) ?_
  have tc : tl (cutS (D.sh i).name none (some 2)) = (tl (D.sh i).name).take 2 := tl_cut_to (D.sh i).name 2
  generalize cutS (D.sh i).name none (some 2) = cut at tc
  have lc : cut.length ≤ 2 := by rw [len_tl, tc, List.length_take]; omega
  refine w_addS (by show 4 + _ ≤ _; omega) ?_
  walk_at "rd"
  have ln4 : (("none" : Str) ++ cut).length ≤ 6 := by rw [len_tl, tl_append, List.length_append, ← len_tl, ← len_tl]; show 4 + _ ≤ _; omega
  refine w_addS (by show _ + 1 ≤ _; omega) ?_
  walk_at "rd"
  have nn : (("none" : Str) ++ cut ++ ("0" : Str)) ∉ D.shs.map Shp.name := fun h => by
    obtain ⟨s, hs, e⟩ := List.mem_map.mp h
    obtain ⟨k, hk, e2⟩ := List.getElem_of_mem hs
    have e3 : D.sh k = s := by
      unfold TreeD.sh
      rw [List.getD_eq_getElem?_getD, List.getElem?_eq_getElem hk, e2]
      rfl
    have e4 := nm k hk
    rw [e3, e] at e4
    have e5 := congrArg tl e4
    rw [tl_mkS, tl_append, tl_append] at e5
    refine noneName k mark (tl cut ++ tl ("0" : Str)) ?_
    rw [← e5, List.append_assoc]
    rfl
  refine ⟨A', D, _, rfl, R8, W, fun k hk e => (nn (e ▸ List.mem_map_of_mem (sh_mem hk))).elim, fun _ => ⟨eN, fun a ha => ?_⟩⟩
  walk_at "rd"
  refine w_caG CW (by decide) ?_
  walk_at "rd"
  refine w_caG CR (by decide) ?_
  walk_at "rd"
  refine ⟨"\n", rp, zs, rfl, rfl, .inl (SqL.of ep8), by show _ + _ * 1 ≤ _; omega, ?_⟩
  have ew : tl (Txt.join "\n" zs) = writtenL D := by rw [tl_joinT, ez]; rfl
  obtain ⟨r1, r2, r3⟩ := read_written G ew
  refine ⟨_, D, rfl, r3, r2, r1, fun A2 H9 s9 R9 _ _ _ => ?_⟩
  walk_at "rd"
  refine ⟨A2, D, rfl, R9.toTR, W, fun y9 H10 s10 e10 => ?_⟩
  walk_at "rd"
  have s90 := s9.trans s10
  have R10 := R8.same s90
  have ep10 := s90 _ _ ep8
  refine w_ca CW.cal (by decide) ?_
  walk_at "rd"
  refine ⟨A', D, rfl, R10, W, fun y11 H11 s11 e11 => ?_⟩
  walk_at "rd"
  refine w_isi (TyX.base (TyOf.str _)) kit_ss ?_
  walk_at "rd"
  rw [Bool.not_true]
  walk_at "rd"
  refine ⟨"\n", rp, zs, rfl, rfl, .inl (SqL.of (s11 _ _ ep10)), by show _ + _ * 1 ≤ _; omega, ?_⟩
  rw [show y11 = Txt.join "\n" zs from ext_tl (e11.trans ew.symm)]
  walk_at "rd"
  rw [decide_eq_true rfl, Bool.not_true]
  walk_at "rd"
  refine w_isi (TyX.base (TyOf.str _)) kit_ss ?_
  walk_at "rd"
  rw [show y9 = Txt.join "\n" zs from ext_tl (e10.trans ew.symm), decide_eq_true rfl]
  exact q _
end
end Mn

namespace Mn
open PySem PySem.Spec PyProof.Rows L2 TL
/-- the classes of the six kinds -/
def clsH (a b c d e f : Addr) (k : Nat) : Addr := if k = 0 then a else if k = 1 then b else if k = 2 then c else if k = 3 then d else if k = 4 then e else f
section
variable {P : Program} {w : World} {K : PySem.W.Frag} {mg : Str → Option Value} {base : Heap} {a b c d e f : Addr}
theorem kdC_of (c0 : ClsF K a leafN) (c1 : ClsF K b manyN) (c2 : ClsF K c manyN) (c3 : ClsF K d minN) (c4 : ClsF K e minN) (c5 : ClsF K f minN) : KdC K (clsH a b c d e f) := ⟨fun k hk => by
  rcases kind6 hk with rfl | rfl | rfl | rfl | rfl | rfl
  · exact c0
  · exact c1
  · exact c2
  · exact c3
  · exact c4
  · exact c5⟩
theorem kdL_of (m0 : MthG P w K mg base a "leaf" 1 ["self"] [] (spTruth a true)) (m1 : MthG P w K mg base b "leaf" 1 ["self"] [] (spTruth b true)) (m2 : MthG P w K mg base c "leaf" 1 ["self"] [] (spTruth c true)) (m3 : MthG P w K mg base d "leaf" 1 ["self"] [] (spTruth d false)) (m4 : MthG P w K mg base e "leaf" 1 ["self"] [] (spTruth e false))
    (m5 : MthG P w K mg base f "leaf" 1 ["self"] [] (spTruth f false)) : KdL P w K mg base (clsH a b c d e f) := ⟨fun k hk => by
  rcases kind6 hk with rfl | rfl | rfl | rfl | rfl | rfl
  · exact m0
  · exact m1
  · exact m2
  · exact m3
  · exact m4
  · exact m5⟩
end
theorem ClsF.sub6 {K : PySem.W.Frag} {C : Addr} {fs gs : List Str} (c : ClsF K C fs) (h : ∀ g ∈ gs, g ∈ fs) : ClsF K C gs := ⟨c.cl, fun g hg => c.no g (h g hg)⟩
section
variable {P : Program} {w : World} {K : PySem.W.Frag} {mg : Str → Option Value} {base : Heap} {a b c d e f : Addr}
theorem kdW_of (m0 : MthG P w K mg base a "words" 2 ["self"] [] (spWords a 0)) (m1 : MthG P w K mg base b "words" 2 ["self"] [] (spWords b 1)) (m2 : MthG P w K mg base c "words" 2 ["self"] [] (spWords c 2)) (m3 : MthG P w K mg base d "words" 2 ["self"] [] (spMinWords d "one")) (m4 : MthG P w K mg base e "words" 2 ["self"] [] (spMinWords e "all"))
    (m5 : MthG P w K mg base f "words" 2 ["self"] [] (spMinWords f "rest")) : KdW P w K mg base (clsH a b c d e f) := ⟨fun k hk => by
  have lf : ∀ {C : Addr} {k : Nat}, k < 3 → MthG P w K mg base C "words" 2 ["self"] [] (spWords C (k : Int)) → MthG P w K mg base C "words" 2 ["self"] [] (spWd C k) := fun hk M => by
    obtain ⟨f, fd, ds, F, r⟩ := M.ex
    exact ⟨⟨f, fd, ds, F.imp fun vs H Q E h => wd_leaf hk h, r⟩⟩
  have mn : ∀ {C : Addr} {k : Nat}, ¬ k < 3 → MthG P w K mg base C "words" 2 ["self"] [] (spMinWords C (wayS k)) → MthG P w K mg base C "words" 2 ["self"] [] (spWd C k) := fun hk M => by
    obtain ⟨f, fd, ds, F, r⟩ := M.ex
    exact ⟨⟨f, fd, ds, F.imp fun vs H Q E h => wd_min hk h, r⟩⟩
  rcases kind6 hk with rfl | rfl | rfl | rfl | rfl | rfl
  · exact lf (k := 0) (by decide) m0
  · exact lf (k := 1) (by decide) m1
  · exact lf (k := 2) (by decide) m2
  · exact mn (k := 3) (by decide) m3
  · exact mn (k := 4) (by decide) m4
  · exact mn (k := 5) (by decide) m5⟩
end
end Mn

namespace Mn
open PySem PySem.Spec PyProof.Rows L2
theorem all_mk {l : PySem.W.OpenLaw} {w : World} {K : PySem.W.Frag} {h : Heap} {mg : Str → Option Value} {fa c_Shape c_Leaf c_Steady c_Faller c_Minder c_AllMinder c_RestMinder c_Tree t_KEEPS f_fit_name f_number_in f_Shape_init f_Shape_leaf f_Leaf_init f_Leaf_leaf f_Leaf_work f_Leaf_words f_Steady_init f_Steady_work f_Faller_init f_Faller_work f_Minder_init f_Minder_way f_Minder_words f_AllMinder_way f_RestMinder_way f_Tree_init f_Tree_add f_Tree_find f_Tree_names f_Tree_depth f_leaf_by f_minder_by f_shape_by f_elder_at f_read f_written f_law_cell_at f_law_name f_law_minder_words f_law_leaf_words f_law_tree f_law_texts f_law_row f_law c_NoName c_NoNumber : Addr} (X : K.In h) (G : h.Ns mainGlobals mg) (hfa : mg "law" = some (.ref fa))
    {fd_fit_name fd_number_in fd_Shape_init fd_Shape_leaf fd_Leaf_init fd_Leaf_leaf fd_Leaf_work fd_Leaf_words fd_Steady_init fd_Steady_work fd_Faller_init fd_Faller_work fd_Minder_init fd_Minder_way fd_Minder_words fd_AllMinder_way fd_RestMinder_way fd_Tree_init fd_Tree_add fd_Tree_find fd_Tree_names fd_Tree_depth fd_leaf_by fd_minder_by fd_shape_by fd_elder_at fd_read fd_written fd_law_cell_at fd_law_name fd_law_minder_words fd_law_leaf_words fd_law_tree fd_law_texts fd_law_row fd_law : FuncData} {tk_SIGNS tk_BOUND tk_DEEPEST : Nat}
    (D_fit_name : FunD K "fit_name" "fit_name" (defArgs s_fit_name) (defBody s_fit_name) (defScope s_fit_name) [] [] f_fit_name fd_fit_name)
    (D_number_in : FunD K "number_in" "number_in" (defArgs s_number_in) (defBody s_number_in) (defScope s_number_in) [.int 1000000] [] f_number_in fd_number_in)
    (D_Shape_init : FunD K "__init__" "Shape.__init__" (defArgs s_Shape_init) (defBody s_Shape_init) (defScope s_Shape_init) [] [] f_Shape_init fd_Shape_init)
    (D_Shape_leaf : FunD K "leaf" "Shape.leaf" (defArgs s_Shape_leaf) (defBody s_Shape_leaf) (defScope s_Shape_leaf) [] [] f_Shape_leaf fd_Shape_leaf)
    (D_Leaf_init : FunD K "__init__" "Leaf.__init__" (defArgs s_Leaf_init) (defBody s_Leaf_init) (defScope s_Leaf_init) [.int 0, .int 0] [] f_Leaf_init fd_Leaf_init)
    (D_Leaf_leaf : FunD K "leaf" "Leaf.leaf" (defArgs s_Leaf_leaf) (defBody s_Leaf_leaf) (defScope s_Leaf_leaf) [] [] f_Leaf_leaf fd_Leaf_leaf)
    (D_Leaf_work : FunD K "work" "Leaf.work" (defArgs s_Leaf_work) (defBody s_Leaf_work) (defScope s_Leaf_work) [] [] f_Leaf_work fd_Leaf_work)
    (D_Leaf_words : FunD K "words" "Leaf.words" (defArgs s_Leaf_words) (defBody s_Leaf_words) (defScope s_Leaf_words) [] [] f_Leaf_words fd_Leaf_words)
    (D_Steady_init : FunD K "__init__" "Steady.__init__" (defArgs s_Steady_init) (defBody s_Steady_init) (defScope s_Steady_init) [.int 0, .int 0] [] f_Steady_init fd_Steady_init)
    (D_Steady_work : FunD K "work" "Steady.work" (defArgs s_Steady_work) (defBody s_Steady_work) (defScope s_Steady_work) [] [] f_Steady_work fd_Steady_work)
    (D_Faller_init : FunD K "__init__" "Faller.__init__" (defArgs s_Faller_init) (defBody s_Faller_init) (defScope s_Faller_init) [.int 0, .int 0] [] f_Faller_init fd_Faller_init)
    (D_Faller_work : FunD K "work" "Faller.work" (defArgs s_Faller_work) (defBody s_Faller_work) (defScope s_Faller_work) [] [] f_Faller_work fd_Faller_work)
    (D_Minder_init : FunD K "__init__" "Minder.__init__" (defArgs s_Minder_init) (defBody s_Minder_init) (defScope s_Minder_init) [.int 1, .int 1] [] f_Minder_init fd_Minder_init)
    (D_Minder_way : FunD K "way" "Minder.way" (defArgs s_Minder_way) (defBody s_Minder_way) (defScope s_Minder_way) [] [] f_Minder_way fd_Minder_way)
    (D_Minder_words : FunD K "words" "Minder.words" (defArgs s_Minder_words) (defBody s_Minder_words) (defScope s_Minder_words) [] [] f_Minder_words fd_Minder_words)
    (D_AllMinder_way : FunD K "way" "AllMinder.way" (defArgs s_AllMinder_way) (defBody s_AllMinder_way) (defScope s_AllMinder_way) [] [] f_AllMinder_way fd_AllMinder_way)
    (D_RestMinder_way : FunD K "way" "RestMinder.way" (defArgs s_RestMinder_way) (defBody s_RestMinder_way) (defScope s_RestMinder_way) [] [] f_RestMinder_way fd_RestMinder_way)
    (D_Tree_init : FunD K "__init__" "Tree.__init__" (defArgs s_Tree_init) (defBody s_Tree_init) (defScope s_Tree_init) [] [] f_Tree_init fd_Tree_init)
    (D_Tree_add : FunD K "add" "Tree.add" (defArgs s_Tree_add) (defBody s_Tree_add) (defScope s_Tree_add) [] [] f_Tree_add fd_Tree_add)
    (D_Tree_find : FunD K "find" "Tree.find" (defArgs s_Tree_find) (defBody s_Tree_find) (defScope s_Tree_find) [] [] f_Tree_find fd_Tree_find)
    (D_Tree_names : FunD K "names" "Tree.names" (defArgs s_Tree_names) (defBody s_Tree_names) (defScope s_Tree_names) [] [] f_Tree_names fd_Tree_names)
    (D_Tree_depth : FunD K "depth" "Tree.depth" (defArgs s_Tree_depth) (defBody s_Tree_depth) (defScope s_Tree_depth) [] [] f_Tree_depth fd_Tree_depth)
    (D_leaf_by : FunD K "leaf_by" "leaf_by" (defArgs s_leaf_by) (defBody s_leaf_by) (defScope s_leaf_by) [] [] f_leaf_by fd_leaf_by)
    (D_minder_by : FunD K "minder_by" "minder_by" (defArgs s_minder_by) (defBody s_minder_by) (defScope s_minder_by) [] [] f_minder_by fd_minder_by)
    (D_shape_by : FunD K "shape_by" "shape_by" (defArgs s_shape_by) (defBody s_shape_by) (defScope s_shape_by) [] [] f_shape_by fd_shape_by)
    (D_elder_at : FunD K "elder_at" "elder_at" (defArgs s_elder_at) (defBody s_elder_at) (defScope s_elder_at) [] [] f_elder_at fd_elder_at)
    (D_read : FunD K "read" "read" (defArgs s_read) (defBody s_read) (defScope s_read) [] [] f_read fd_read)
    (D_written : FunD K "written" "written" (defArgs s_written) (defBody s_written) (defScope s_written) [] [] f_written fd_written)
    (D_law_cell_at : FunD K "_law_cell_at" "_law_cell_at" (defArgs s_law_cell_at) (defBody s_law_cell_at) (defScope s_law_cell_at) [] [] f_law_cell_at fd_law_cell_at)
    (D_law_name : FunD K "_law_name" "_law_name" (defArgs s_law_name) (defBody s_law_name) (defScope s_law_name) [] [] f_law_name fd_law_name)
    (D_law_minder_words : FunD K "_law_minder_words" "_law_minder_words" (defArgs s_law_minder_words) (defBody s_law_minder_words) (defScope s_law_minder_words) [] [] f_law_minder_words fd_law_minder_words)
    (D_law_leaf_words : FunD K "_law_leaf_words" "_law_leaf_words" (defArgs s_law_leaf_words) (defBody s_law_leaf_words) (defScope s_law_leaf_words) [] [] f_law_leaf_words fd_law_leaf_words)
    (D_law_tree : FunD K "_law_tree" "_law_tree" (defArgs s_law_tree) (defBody s_law_tree) (defScope s_law_tree) [] [] f_law_tree fd_law_tree)
    (D_law_texts : FunD K "_law_texts" "_law_texts" (defArgs s_law_texts) (defBody s_law_texts) (defScope s_law_texts) [] [] f_law_texts fd_law_texts)
    (D_law_row : FunD K "_law_row" "_law_row" (defArgs s_law_row) (defBody s_law_row) (defScope s_law_row) [] [] f_law_row fd_law_row)
    (D_law : FunD K "law" "law" (defArgs s_law) (defBody s_law) (defScope s_law) [] [] f_law fd_law)
    (z_len : PySem.W.nsIn K mainGlobals "len" = some none)
    (z_int : PySem.W.nsIn K mainGlobals "int" = some none)
    (z_bool : PySem.W.nsIn K mainGlobals "bool" = some none)
    (z_list : PySem.W.nsIn K mainGlobals "list" = some none)
    (z_str : PySem.W.nsIn K mainGlobals "str" = some none)
    (z_divmod : PySem.W.nsIn K mainGlobals "divmod" = some none)
    (z_range : PySem.W.nsIn K mainGlobals "range" = some none)
    (z_isinstance : PySem.W.nsIn K mainGlobals "isinstance" = some none)
    (z_ValueError : PySem.W.nsIn K mainGlobals "ValueError" = some none)
    (z_KeyError : PySem.W.nsIn K mainGlobals "KeyError" = some none)
    (a_Shape : PySem.W.nsIn K mainGlobals "Shape" = some (some (.ref c_Shape)))
    (pg_Shape : PySem.W.plainGet K c_Shape Str.empty = true)
    (hd_Shape : PySem.W.hasDictIn K c_Shape = true)
    (po_Shape : PySem.W.plainOver K c_Shape = true)
    (sa_Shape : PySem.W.findIn K (.ref c_Shape) "__setattr__" = some (some (.builtin "object.__setattr__")))
    (a_Leaf : PySem.W.nsIn K mainGlobals "Leaf" = some (some (.ref c_Leaf)))
    (pg_Leaf : PySem.W.plainGet K c_Leaf Str.empty = true)
    (hd_Leaf : PySem.W.hasDictIn K c_Leaf = true)
    (po_Leaf : PySem.W.plainOver K c_Leaf = true)
    (sa_Leaf : PySem.W.findIn K (.ref c_Leaf) "__setattr__" = some (some (.builtin "object.__setattr__")))
    (n_Leaf_name : PySem.W.findIn K (.ref c_Leaf) "name" = some none)
    (n_Leaf_keep : PySem.W.findIn K (.ref c_Leaf) "keep" = some none)
    (n_Leaf_grace : PySem.W.findIn K (.ref c_Leaf) "grace" = some none)
    (n_Leaf_slow : PySem.W.findIn K (.ref c_Leaf) "slow" = some none)
    (mk_Leaf : PySem.W.makesIn K c_Leaf = true)
    (kc_Leaf : PySem.W.keepIn K (.ref c_Leaf) = true)
    (a_Steady : PySem.W.nsIn K mainGlobals "Steady" = some (some (.ref c_Steady)))
    (pg_Steady : PySem.W.plainGet K c_Steady Str.empty = true)
    (hd_Steady : PySem.W.hasDictIn K c_Steady = true)
    (po_Steady : PySem.W.plainOver K c_Steady = true)
    (sa_Steady : PySem.W.findIn K (.ref c_Steady) "__setattr__" = some (some (.builtin "object.__setattr__")))
    (n_Steady_name : PySem.W.findIn K (.ref c_Steady) "name" = some none)
    (n_Steady_keep : PySem.W.findIn K (.ref c_Steady) "keep" = some none)
    (n_Steady_grace : PySem.W.findIn K (.ref c_Steady) "grace" = some none)
    (n_Steady_slow : PySem.W.findIn K (.ref c_Steady) "slow" = some none)
    (n_Steady_many : PySem.W.findIn K (.ref c_Steady) "many" = some none)
    (mk_Steady : PySem.W.makesIn K c_Steady = true)
    (kc_Steady : PySem.W.keepIn K (.ref c_Steady) = true)
    (a_Faller : PySem.W.nsIn K mainGlobals "Faller" = some (some (.ref c_Faller)))
    (pg_Faller : PySem.W.plainGet K c_Faller Str.empty = true)
    (hd_Faller : PySem.W.hasDictIn K c_Faller = true)
    (po_Faller : PySem.W.plainOver K c_Faller = true)
    (sa_Faller : PySem.W.findIn K (.ref c_Faller) "__setattr__" = some (some (.builtin "object.__setattr__")))
    (n_Faller_name : PySem.W.findIn K (.ref c_Faller) "name" = some none)
    (n_Faller_keep : PySem.W.findIn K (.ref c_Faller) "keep" = some none)
    (n_Faller_grace : PySem.W.findIn K (.ref c_Faller) "grace" = some none)
    (n_Faller_slow : PySem.W.findIn K (.ref c_Faller) "slow" = some none)
    (n_Faller_many : PySem.W.findIn K (.ref c_Faller) "many" = some none)
    (mk_Faller : PySem.W.makesIn K c_Faller = true)
    (kc_Faller : PySem.W.keepIn K (.ref c_Faller) = true)
    (a_Minder : PySem.W.nsIn K mainGlobals "Minder" = some (some (.ref c_Minder)))
    (pg_Minder : PySem.W.plainGet K c_Minder Str.empty = true)
    (hd_Minder : PySem.W.hasDictIn K c_Minder = true)
    (po_Minder : PySem.W.plainOver K c_Minder = true)
    (sa_Minder : PySem.W.findIn K (.ref c_Minder) "__setattr__" = some (some (.builtin "object.__setattr__")))
    (n_Minder_name : PySem.W.findIn K (.ref c_Minder) "name" = some none)
    (n_Minder_keep : PySem.W.findIn K (.ref c_Minder) "keep" = some none)
    (n_Minder_most : PySem.W.findIn K (.ref c_Minder) "most" = some none)
    (n_Minder_span : PySem.W.findIn K (.ref c_Minder) "span" = some none)
    (mk_Minder : PySem.W.makesIn K c_Minder = true)
    (kc_Minder : PySem.W.keepIn K (.ref c_Minder) = true)
    (a_AllMinder : PySem.W.nsIn K mainGlobals "AllMinder" = some (some (.ref c_AllMinder)))
    (pg_AllMinder : PySem.W.plainGet K c_AllMinder Str.empty = true)
    (hd_AllMinder : PySem.W.hasDictIn K c_AllMinder = true)
    (po_AllMinder : PySem.W.plainOver K c_AllMinder = true)
    (sa_AllMinder : PySem.W.findIn K (.ref c_AllMinder) "__setattr__" = some (some (.builtin "object.__setattr__")))
    (n_AllMinder_name : PySem.W.findIn K (.ref c_AllMinder) "name" = some none)
    (n_AllMinder_keep : PySem.W.findIn K (.ref c_AllMinder) "keep" = some none)
    (n_AllMinder_most : PySem.W.findIn K (.ref c_AllMinder) "most" = some none)
    (n_AllMinder_span : PySem.W.findIn K (.ref c_AllMinder) "span" = some none)
    (mk_AllMinder : PySem.W.makesIn K c_AllMinder = true)
    (kc_AllMinder : PySem.W.keepIn K (.ref c_AllMinder) = true)
    (a_RestMinder : PySem.W.nsIn K mainGlobals "RestMinder" = some (some (.ref c_RestMinder)))
    (pg_RestMinder : PySem.W.plainGet K c_RestMinder Str.empty = true)
    (hd_RestMinder : PySem.W.hasDictIn K c_RestMinder = true)
    (po_RestMinder : PySem.W.plainOver K c_RestMinder = true)
    (sa_RestMinder : PySem.W.findIn K (.ref c_RestMinder) "__setattr__" = some (some (.builtin "object.__setattr__")))
    (n_RestMinder_name : PySem.W.findIn K (.ref c_RestMinder) "name" = some none)
    (n_RestMinder_keep : PySem.W.findIn K (.ref c_RestMinder) "keep" = some none)
    (n_RestMinder_most : PySem.W.findIn K (.ref c_RestMinder) "most" = some none)
    (n_RestMinder_span : PySem.W.findIn K (.ref c_RestMinder) "span" = some none)
    (mk_RestMinder : PySem.W.makesIn K c_RestMinder = true)
    (kc_RestMinder : PySem.W.keepIn K (.ref c_RestMinder) = true)
    (a_Tree : PySem.W.nsIn K mainGlobals "Tree" = some (some (.ref c_Tree)))
    (pg_Tree : PySem.W.plainGet K c_Tree Str.empty = true)
    (hd_Tree : PySem.W.hasDictIn K c_Tree = true)
    (po_Tree : PySem.W.plainOver K c_Tree = true)
    (sa_Tree : PySem.W.findIn K (.ref c_Tree) "__setattr__" = some (some (.builtin "object.__setattr__")))
    (n_Tree_shapes : PySem.W.findIn K (.ref c_Tree) "shapes" = some none)
    (n_Tree_elders : PySem.W.findIn K (.ref c_Tree) "elders" = some none)
    (n_Tree_young : PySem.W.findIn K (.ref c_Tree) "young" = some none)
    (n_Tree_known : PySem.W.findIn K (.ref c_Tree) "known" = some none)
    (mk_Tree : PySem.W.makesIn K c_Tree = true)
    (kc_Tree : PySem.W.keepIn K (.ref c_Tree) = true)
    (mg_SIGNS : mg "SIGNS" = some (.str "abcdefghijklmnopqrstuvwxyz0123456789" tk_SIGNS))
    (mg_BOUND : mg "BOUND" = some (.int 64 tk_BOUND))
    (mg_DEEPEST : mg "DEEPEST" = some (.int 8 tk_DEEPEST))
    (a_KEEPS : PySem.W.nsIn K mainGlobals "KEEPS" = some (some (.ref t_KEEPS)))
    (sq_KEEPS : ∀ H : Hp, SqT K H t_KEEPS [.str "always", .str "fallen", .str "never"])
    (a_fit_name : PySem.W.nsIn K mainGlobals "fit_name" = some (some (.ref f_fit_name)))
    (a_number_in : PySem.W.nsIn K mainGlobals "number_in" = some (some (.ref f_number_in)))
    (a_Shape___init__ : PySem.W.findIn K (.ref c_Shape) "__init__" = some (some (.ref f_Shape_init)))
    (i_Shape_init : PySem.W.isFn K (.ref f_Shape_init) = true)
    (a_Shape_leaf : PySem.W.findIn K (.ref c_Shape) "leaf" = some (some (.ref f_Shape_leaf)))
    (i_Shape_leaf : PySem.W.isFn K (.ref f_Shape_leaf) = true)
    (a_Leaf___init__ : PySem.W.findIn K (.ref c_Leaf) "__init__" = some (some (.ref f_Leaf_init)))
    (i_Leaf_init : PySem.W.isFn K (.ref f_Leaf_init) = true)
    (a_Leaf_leaf : PySem.W.findIn K (.ref c_Leaf) "leaf" = some (some (.ref f_Leaf_leaf)))
    (i_Leaf_leaf : PySem.W.isFn K (.ref f_Leaf_leaf) = true)
    (a_Leaf_work : PySem.W.findIn K (.ref c_Leaf) "work" = some (some (.ref f_Leaf_work)))
    (i_Leaf_work : PySem.W.isFn K (.ref f_Leaf_work) = true)
    (a_Leaf_words : PySem.W.findIn K (.ref c_Leaf) "words" = some (some (.ref f_Leaf_words)))
    (i_Leaf_words : PySem.W.isFn K (.ref f_Leaf_words) = true)
    (a_Steady___init__ : PySem.W.findIn K (.ref c_Steady) "__init__" = some (some (.ref f_Steady_init)))
    (i_Steady_init : PySem.W.isFn K (.ref f_Steady_init) = true)
    (a_Steady_work : PySem.W.findIn K (.ref c_Steady) "work" = some (some (.ref f_Steady_work)))
    (i_Steady_work : PySem.W.isFn K (.ref f_Steady_work) = true)
    (a_Faller___init__ : PySem.W.findIn K (.ref c_Faller) "__init__" = some (some (.ref f_Faller_init)))
    (i_Faller_init : PySem.W.isFn K (.ref f_Faller_init) = true)
    (a_Faller_work : PySem.W.findIn K (.ref c_Faller) "work" = some (some (.ref f_Faller_work)))
    (i_Faller_work : PySem.W.isFn K (.ref f_Faller_work) = true)
    (a_Minder___init__ : PySem.W.findIn K (.ref c_Minder) "__init__" = some (some (.ref f_Minder_init)))
    (i_Minder_init : PySem.W.isFn K (.ref f_Minder_init) = true)
    (a_Minder_way : PySem.W.findIn K (.ref c_Minder) "way" = some (some (.ref f_Minder_way)))
    (i_Minder_way : PySem.W.isFn K (.ref f_Minder_way) = true)
    (a_Minder_words : PySem.W.findIn K (.ref c_Minder) "words" = some (some (.ref f_Minder_words)))
    (i_Minder_words : PySem.W.isFn K (.ref f_Minder_words) = true)
    (a_AllMinder_way : PySem.W.findIn K (.ref c_AllMinder) "way" = some (some (.ref f_AllMinder_way)))
    (i_AllMinder_way : PySem.W.isFn K (.ref f_AllMinder_way) = true)
    (a_RestMinder_way : PySem.W.findIn K (.ref c_RestMinder) "way" = some (some (.ref f_RestMinder_way)))
    (i_RestMinder_way : PySem.W.isFn K (.ref f_RestMinder_way) = true)
    (a_Tree___init__ : PySem.W.findIn K (.ref c_Tree) "__init__" = some (some (.ref f_Tree_init)))
    (i_Tree_init : PySem.W.isFn K (.ref f_Tree_init) = true)
    (a_Tree_add : PySem.W.findIn K (.ref c_Tree) "add" = some (some (.ref f_Tree_add)))
    (i_Tree_add : PySem.W.isFn K (.ref f_Tree_add) = true)
    (a_Tree_find : PySem.W.findIn K (.ref c_Tree) "find" = some (some (.ref f_Tree_find)))
    (i_Tree_find : PySem.W.isFn K (.ref f_Tree_find) = true)
    (a_Tree_names : PySem.W.findIn K (.ref c_Tree) "names" = some (some (.ref f_Tree_names)))
    (i_Tree_names : PySem.W.isFn K (.ref f_Tree_names) = true)
    (a_Tree_depth : PySem.W.findIn K (.ref c_Tree) "depth" = some (some (.ref f_Tree_depth)))
    (i_Tree_depth : PySem.W.isFn K (.ref f_Tree_depth) = true)
    (a_leaf_by : PySem.W.nsIn K mainGlobals "leaf_by" = some (some (.ref f_leaf_by)))
    (a_minder_by : PySem.W.nsIn K mainGlobals "minder_by" = some (some (.ref f_minder_by)))
    (a_shape_by : PySem.W.nsIn K mainGlobals "shape_by" = some (some (.ref f_shape_by)))
    (a_elder_at : PySem.W.nsIn K mainGlobals "elder_at" = some (some (.ref f_elder_at)))
    (a_read : PySem.W.nsIn K mainGlobals "read" = some (some (.ref f_read)))
    (a_written : PySem.W.nsIn K mainGlobals "written" = some (some (.ref f_written)))
    (a_law_cell_at : PySem.W.nsIn K mainGlobals "_law_cell_at" = some (some (.ref f_law_cell_at)))
    (a_law_name : PySem.W.nsIn K mainGlobals "_law_name" = some (some (.ref f_law_name)))
    (a_law_minder_words : PySem.W.nsIn K mainGlobals "_law_minder_words" = some (some (.ref f_law_minder_words)))
    (a_law_leaf_words : PySem.W.nsIn K mainGlobals "_law_leaf_words" = some (some (.ref f_law_leaf_words)))
    (a_law_tree : PySem.W.nsIn K mainGlobals "_law_tree" = some (some (.ref f_law_tree)))
    (a_law_texts : PySem.W.nsIn K mainGlobals "_law_texts" = some (some (.ref f_law_texts)))
    (a_law_row : PySem.W.nsIn K mainGlobals "_law_row" = some (some (.ref f_law_row)))
    (a_law : PySem.W.nsIn K mainGlobals "law" = some (some (.ref f_law)))
    (rd_Shape : PySem.W.readsIn K c_Shape (.type "type") = true)
    (ga_Shape : PySem.W.specialIn K (.ref c_Shape) "__getattribute__" = some (some (.builtin "type.__getattribute__")))
    (fc_Shape___init__ : PySem.W.findCls K (.ref c_Shape) (.type "type") "__init__" = some (.val (.ref f_Shape_init)))
    (rd_Leaf : PySem.W.readsIn K c_Leaf (.type "type") = true)
    (ga_Leaf : PySem.W.specialIn K (.ref c_Leaf) "__getattribute__" = some (some (.builtin "type.__getattribute__")))
    (fc_Leaf___init__ : PySem.W.findCls K (.ref c_Leaf) (.type "type") "__init__" = some (.val (.ref f_Leaf_init)))
    (a_AllMinder___init__ : PySem.W.findIn K (.ref c_AllMinder) "__init__" = some (some (.ref f_Minder_init)))
    (a_RestMinder___init__ : PySem.W.findIn K (.ref c_RestMinder) "__init__" = some (some (.ref f_Minder_init)))
    (a_Steady_leaf : PySem.W.findIn K (.ref c_Steady) "leaf" = some (some (.ref f_Leaf_leaf)))
    (a_Faller_leaf : PySem.W.findIn K (.ref c_Faller) "leaf" = some (some (.ref f_Leaf_leaf)))
    (a_Minder_leaf : PySem.W.findIn K (.ref c_Minder) "leaf" = some (some (.ref f_Shape_leaf)))
    (a_AllMinder_leaf : PySem.W.findIn K (.ref c_AllMinder) "leaf" = some (some (.ref f_Shape_leaf)))
    (a_RestMinder_leaf : PySem.W.findIn K (.ref c_RestMinder) "leaf" = some (some (.ref f_Shape_leaf)))
    (a_Steady_words : PySem.W.findIn K (.ref c_Steady) "words" = some (some (.ref f_Leaf_words)))
    (a_Faller_words : PySem.W.findIn K (.ref c_Faller) "words" = some (some (.ref f_Leaf_words)))
    (a_AllMinder_words : PySem.W.findIn K (.ref c_AllMinder) "words" = some (some (.ref f_Minder_words)))
    (a_RestMinder_words : PySem.W.findIn K (.ref c_RestMinder) "words" = some (some (.ref f_Minder_words)))
    (a_NoName : PySem.W.nsIn K mainGlobals "NoName" = some (some (.ref c_NoName)))
    (xf_NoName : PySem.W.excIn K c_NoName [.type "ValueError", .type "Exception", .type "BaseException", .type "object"] "ValueError.__new__" = true)
    (kc_NoName : PySem.W.keepIn K (.ref c_NoName) = true)
    (eb_NoName : PySem.W.subIn K (.ref c_NoName) (.type "BaseException") = some true)
    (et_NoName : PySem.W.typeIn K (.ref c_NoName) = some (.type "type"))
    (a_NoNumber : PySem.W.nsIn K mainGlobals "NoNumber" = some (some (.ref c_NoNumber)))
    (xf_NoNumber : PySem.W.excIn K c_NoNumber [.type "ValueError", .type "Exception", .type "BaseException", .type "object"] "ValueError.__new__" = true)
    (kc_NoNumber : PySem.W.keepIn K (.ref c_NoNumber) = true)
    (eb_NoNumber : PySem.W.subIn K (.ref c_NoNumber) (.type "BaseException") = some true)
    (et_NoNumber : PySem.W.typeIn K (.ref c_NoNumber) = some (.type "type"))
    (xm_NoName_NoName : PySem.W.exmOne K (.ref c_NoName) (.ref c_NoName) = some true) :
    ∃ fd : FuncData, (∀ (s : Shared) (v : Value), BindsTo s fd ⟨[v], []⟩ [("_law_script", v)]) ∧ ∀ base : Heap, K.In base → base.Ns mainGlobals mg → FnOk l.prog w K mg base CX0 9 fa fd ["_law_script"] (spLaw K) := by
  have e := hfa.symm.trans (PySem.W.mg_of X G a_law)
  cases e
  have T : Bt mg := ⟨PySem.W.mg_none_of X G z_len, PySem.W.mg_none_of X G z_int, PySem.W.mg_none_of X G z_bool, PySem.W.mg_none_of X G z_list, PySem.W.mg_none_of X G z_str, PySem.W.mg_none_of X G z_divmod, PySem.W.mg_none_of X G z_range, PySem.W.mg_none_of X G z_isinstance, PySem.W.mg_none_of X G z_ValueError, PySem.W.mg_none_of X G z_KeyError⟩
  have mg_Shape := PySem.W.mg_of X G a_Shape
  have cf_Shape : ClsF K c_Shape [] := ⟨⟨pg_Shape, hd_Shape, po_Shape, sa_Shape⟩, clsF_nil⟩
  have mg_Leaf := PySem.W.mg_of X G a_Leaf
  have cf_Leaf : ClsF K c_Leaf ["name", "keep", "grace", "slow"] := ⟨⟨pg_Leaf, hd_Leaf, po_Leaf, sa_Leaf⟩, (clsF_cons n_Leaf_name <| (clsF_cons n_Leaf_keep <| (clsF_cons n_Leaf_grace <| (clsF_cons n_Leaf_slow <| clsF_nil))))⟩
  have mg_Steady := PySem.W.mg_of X G a_Steady
  have cf_Steady : ClsF K c_Steady ["name", "keep", "grace", "slow", "many"] := ⟨⟨pg_Steady, hd_Steady, po_Steady, sa_Steady⟩, (clsF_cons n_Steady_name <| (clsF_cons n_Steady_keep <| (clsF_cons n_Steady_grace <| (clsF_cons n_Steady_slow <| (clsF_cons n_Steady_many <| clsF_nil)))))⟩
  have mg_Faller := PySem.W.mg_of X G a_Faller
  have cf_Faller : ClsF K c_Faller ["name", "keep", "grace", "slow", "many"] := ⟨⟨pg_Faller, hd_Faller, po_Faller, sa_Faller⟩, (clsF_cons n_Faller_name <| (clsF_cons n_Faller_keep <| (clsF_cons n_Faller_grace <| (clsF_cons n_Faller_slow <| (clsF_cons n_Faller_many <| clsF_nil)))))⟩
  have mg_Minder := PySem.W.mg_of X G a_Minder
  have cf_Minder : ClsF K c_Minder ["name", "keep", "most", "span"] := ⟨⟨pg_Minder, hd_Minder, po_Minder, sa_Minder⟩, (clsF_cons n_Minder_name <| (clsF_cons n_Minder_keep <| (clsF_cons n_Minder_most <| (clsF_cons n_Minder_span <| clsF_nil))))⟩
  have mg_AllMinder := PySem.W.mg_of X G a_AllMinder
  have cf_AllMinder : ClsF K c_AllMinder ["name", "keep", "most", "span"] := ⟨⟨pg_AllMinder, hd_AllMinder, po_AllMinder, sa_AllMinder⟩, (clsF_cons n_AllMinder_name <| (clsF_cons n_AllMinder_keep <| (clsF_cons n_AllMinder_most <| (clsF_cons n_AllMinder_span <| clsF_nil))))⟩
  have mg_RestMinder := PySem.W.mg_of X G a_RestMinder
  have cf_RestMinder : ClsF K c_RestMinder ["name", "keep", "most", "span"] := ⟨⟨pg_RestMinder, hd_RestMinder, po_RestMinder, sa_RestMinder⟩, (clsF_cons n_RestMinder_name <| (clsF_cons n_RestMinder_keep <| (clsF_cons n_RestMinder_most <| (clsF_cons n_RestMinder_span <| clsF_nil))))⟩
  have mg_Tree := PySem.W.mg_of X G a_Tree
  have cf_Tree : ClsF K c_Tree ["shapes", "elders", "young", "known"] := ⟨⟨pg_Tree, hd_Tree, po_Tree, sa_Tree⟩, (clsF_cons n_Tree_shapes <| (clsF_cons n_Tree_elders <| (clsF_cons n_Tree_young <| (clsF_cons n_Tree_known <| clsF_nil))))⟩
  have mg_KEEPS := PySem.W.mg_of X G a_KEEPS
  have k_fit_name := D_fit_name.kp
  have F_fit_name := fun_of (st := s_fit_name) D_fit_name
  have b_fit_name := F_fit_name.binds (ps := ["text"]) fun _ _ _ _ _ _ us hl => match us, hl with | [_], _ => rfl
  have k_number_in := D_number_in.kp
  have F_number_in : FunS K "number_in" "number_in" s_number_in [.int 1000000] f_number_in _ := D_number_in
  have k_Shape_init := D_Shape_init.kp
  have F_Shape_init := fun_of (st := s_Shape_init) D_Shape_init
  have b_Shape_init := F_Shape_init.binds (ps := ["self", "name", "keep"]) fun _ _ _ _ _ _ us hl => match us, hl with | [_, _, _], _ => rfl
  have k_Shape_leaf := D_Shape_leaf.kp
  have F_Shape_leaf := fun_of (st := s_Shape_leaf) D_Shape_leaf
  have b_Shape_leaf := F_Shape_leaf.binds (ps := ["self"]) fun _ _ _ _ _ _ us hl => match us, hl with | [_], _ => rfl
  have k_Leaf_init := D_Leaf_init.kp
  have F_Leaf_init : FunS K "__init__" "Leaf.__init__" s_Leaf_init [.int 0, .int 0] f_Leaf_init _ := D_Leaf_init
  have k_Leaf_leaf := D_Leaf_leaf.kp
  have F_Leaf_leaf := fun_of (st := s_Leaf_leaf) D_Leaf_leaf
  have b_Leaf_leaf := F_Leaf_leaf.binds (ps := ["self"]) fun _ _ _ _ _ _ us hl => match us, hl with | [_], _ => rfl
  have k_Leaf_work := D_Leaf_work.kp
  have F_Leaf_work := fun_of (st := s_Leaf_work) D_Leaf_work
  have b_Leaf_work := F_Leaf_work.binds (ps := ["self"]) fun _ _ _ _ _ _ us hl => match us, hl with | [_], _ => rfl
  have k_Leaf_words := D_Leaf_words.kp
  have F_Leaf_words := fun_of (st := s_Leaf_words) D_Leaf_words
  have b_Leaf_words := F_Leaf_words.binds (ps := ["self"]) fun _ _ _ _ _ _ us hl => match us, hl with | [_], _ => rfl
  have k_Steady_init := D_Steady_init.kp
  have F_Steady_init : FunS K "__init__" "Steady.__init__" s_Steady_init [.int 0, .int 0] f_Steady_init _ := D_Steady_init
  have k_Steady_work := D_Steady_work.kp
  have F_Steady_work := fun_of (st := s_Steady_work) D_Steady_work
  have b_Steady_work := F_Steady_work.binds (ps := ["self"]) fun _ _ _ _ _ _ us hl => match us, hl with | [_], _ => rfl
  have k_Faller_init := D_Faller_init.kp
  have F_Faller_init : FunS K "__init__" "Faller.__init__" s_Faller_init [.int 0, .int 0] f_Faller_init _ := D_Faller_init
  have k_Faller_work := D_Faller_work.kp
  have F_Faller_work := fun_of (st := s_Faller_work) D_Faller_work
  have b_Faller_work := F_Faller_work.binds (ps := ["self"]) fun _ _ _ _ _ _ us hl => match us, hl with | [_], _ => rfl
  have k_Minder_init := D_Minder_init.kp
  have F_Minder_init : FunS K "__init__" "Minder.__init__" s_Minder_init [.int 1, .int 1] f_Minder_init _ := D_Minder_init
  have k_Minder_way := D_Minder_way.kp
  have F_Minder_way := fun_of (st := s_Minder_way) D_Minder_way
  have b_Minder_way := F_Minder_way.binds (ps := ["self"]) fun _ _ _ _ _ _ us hl => match us, hl with | [_], _ => rfl
  have k_Minder_words := D_Minder_words.kp
  have F_Minder_words := fun_of (st := s_Minder_words) D_Minder_words
  have b_Minder_words := F_Minder_words.binds (ps := ["self"]) fun _ _ _ _ _ _ us hl => match us, hl with | [_], _ => rfl
  have k_AllMinder_way := D_AllMinder_way.kp
  have F_AllMinder_way := fun_of (st := s_AllMinder_way) D_AllMinder_way
  have b_AllMinder_way := F_AllMinder_way.binds (ps := ["self"]) fun _ _ _ _ _ _ us hl => match us, hl with | [_], _ => rfl
  have k_RestMinder_way := D_RestMinder_way.kp
  have F_RestMinder_way := fun_of (st := s_RestMinder_way) D_RestMinder_way
  have b_RestMinder_way := F_RestMinder_way.binds (ps := ["self"]) fun _ _ _ _ _ _ us hl => match us, hl with | [_], _ => rfl
  have k_Tree_init := D_Tree_init.kp
  have F_Tree_init := fun_of (st := s_Tree_init) D_Tree_init
  have b_Tree_init := F_Tree_init.binds (ps := ["self"]) fun _ _ _ _ _ _ us hl => match us, hl with | [_], _ => rfl
  have k_Tree_add := D_Tree_add.kp
  have F_Tree_add := fun_of (st := s_Tree_add) D_Tree_add
  have b_Tree_add := F_Tree_add.binds (ps := ["self", "shape", "elder"]) fun _ _ _ _ _ _ us hl => match us, hl with | [_, _, _], _ => rfl
  have k_Tree_find := D_Tree_find.kp
  have F_Tree_find := fun_of (st := s_Tree_find) D_Tree_find
  have b_Tree_find := F_Tree_find.binds (ps := ["self", "name"]) fun _ _ _ _ _ _ us hl => match us, hl with | [_, _], _ => rfl
  have k_Tree_names := D_Tree_names.kp
  have F_Tree_names := fun_of (st := s_Tree_names) D_Tree_names
  have b_Tree_names := F_Tree_names.binds (ps := ["self"]) fun _ _ _ _ _ _ us hl => match us, hl with | [_], _ => rfl
  have k_Tree_depth := D_Tree_depth.kp
  have F_Tree_depth := fun_of (st := s_Tree_depth) D_Tree_depth
  have b_Tree_depth := F_Tree_depth.binds (ps := ["self", "at"]) fun _ _ _ _ _ _ us hl => match us, hl with | [_, _], _ => rfl
  have k_leaf_by := D_leaf_by.kp
  have F_leaf_by := fun_of (st := s_leaf_by) D_leaf_by
  have b_leaf_by := F_leaf_by.binds (ps := ["words"]) fun _ _ _ _ _ _ us hl => match us, hl with | [_], _ => rfl
  have k_minder_by := D_minder_by.kp
  have F_minder_by := fun_of (st := s_minder_by) D_minder_by
  have b_minder_by := F_minder_by.binds (ps := ["words"]) fun _ _ _ _ _ _ us hl => match us, hl with | [_], _ => rfl
  have k_shape_by := D_shape_by.kp
  have F_shape_by := fun_of (st := s_shape_by) D_shape_by
  have b_shape_by := F_shape_by.binds (ps := ["words"]) fun _ _ _ _ _ _ us hl => match us, hl with | [_], _ => rfl
  have k_elder_at := D_elder_at.kp
  have F_elder_at := fun_of (st := s_elder_at) D_elder_at
  have b_elder_at := F_elder_at.binds (ps := ["tree", "deep"]) fun _ _ _ _ _ _ us hl => match us, hl with | [_, _], _ => rfl
  have k_read := D_read.kp
  have F_read := fun_of (st := s_read) D_read
  have b_read := F_read.binds (ps := ["text"]) fun _ _ _ _ _ _ us hl => match us, hl with | [_], _ => rfl
  have k_written := D_written.kp
  have F_written := fun_of (st := s_written) D_written
  have b_written := F_written.binds (ps := ["tree"]) fun _ _ _ _ _ _ us hl => match us, hl with | [_], _ => rfl
  have k_law_cell_at := D_law_cell_at.kp
  have F_law_cell_at := fun_of (st := s_law_cell_at) D_law_cell_at
  have b_law_cell_at := F_law_cell_at.binds (ps := ["_law_script", "_law_k"]) fun _ _ _ _ _ _ us hl => match us, hl with | [_, _], _ => rfl
  have k_law_name := D_law_name.kp
  have F_law_name := fun_of (st := s_law_name) D_law_name
  have b_law_name := F_law_name.binds (ps := ["_law_k", "_law_mark"]) fun _ _ _ _ _ _ us hl => match us, hl with | [_, _], _ => rfl
  have k_law_minder_words := D_law_minder_words.kp
  have F_law_minder_words := fun_of (st := s_law_minder_words) D_law_minder_words
  have b_law_minder_words := F_law_minder_words.binds (ps := ["_law_cell", "_law_other"]) fun _ _ _ _ _ _ us hl => match us, hl with | [_, _], _ => rfl
  have k_law_leaf_words := D_law_leaf_words.kp
  have F_law_leaf_words := fun_of (st := s_law_leaf_words) D_law_leaf_words
  have b_law_leaf_words := F_law_leaf_words.binds (ps := ["_law_cell", "_law_other"]) fun _ _ _ _ _ _ us hl => match us, hl with | [_, _], _ => rfl
  have k_law_tree := D_law_tree.kp
  have F_law_tree := fun_of (st := s_law_tree) D_law_tree
  have b_law_tree := F_law_tree.binds (ps := ["_law_script", "_law_first", "_law_count", "_law_mark"]) fun _ _ _ _ _ _ us hl => match us, hl with | [_, _, _, _], _ => rfl
  have k_law_texts := D_law_texts.kp
  have F_law_texts := fun_of (st := s_law_texts) D_law_texts
  have b_law_texts := F_law_texts.binds (ps := ["_law_found", "_law_due"]) fun _ _ _ _ _ _ us hl => match us, hl with | [_, _], _ => rfl
  have k_law_row := D_law_row.kp
  have F_law_row := fun_of (st := s_law_row) D_law_row
  have b_law_row := F_law_row.binds (ps := ["_law_depth", "_law_words", "_law_name_here", "_law_cell"]) fun _ _ _ _ _ _ us hl => match us, hl with | [_, _, _, _], _ => rfl
  have k_law := D_law.kp
  have F_law := fun_of (st := s_law) D_law
  have b_law := F_law.binds (ps := ["_law_script"]) fun _ _ _ _ _ _ us hl => match us, hl with | [_], _ => rfl
  have mg_NoName := PySem.W.mg_of X G a_NoName
  have e_NoName : ErrK K mg "NoName" c_NoName := ⟨xf_NoName, mg_NoName, kc_NoName, eb_NoName, et_NoName⟩
  have mg_NoNumber := PySem.W.mg_of X G a_NoNumber
  have e_NoNumber : ErrK K mg "NoNumber" c_NoNumber := ⟨xf_NoNumber, mg_NoNumber, kc_NoNumber, eb_NoNumber, et_NoNumber⟩
  refine ⟨fd_law, fun s v => FunD.bindsA (ps := ["_law_script"]) D_law (fun _ _ _ _ _ _ us hl => match us, hl with | [_], _ => rfl) s [v] rfl, fun base _ _ => ?_⟩
  have S_Shape___init__ : CMtG l.prog w K mg base "Shape" "__init__" 1 ["self", "name", "keep"] [] (spShape (K := K)) := ⟨⟨_, _, _, _, [], mg_Shape, ⟨rd_Shape, ga_Shape⟩, fc_Shape___init__, (ok_Shape_init F_Shape_init), k_Shape_init, b_Shape_init, .nil⟩⟩
  obtain ⟨dt_Leaf___init__, ht_Leaf___init__, hu_Leaf___init__⟩ := F_Leaf_init.binds1 (ps := ["self", "name", "keep", "grace", "slow"]) 5 2 (List.cons_ne_nil _ _) rfl fun _ _ _ _ _ _ _ us its hu hi => match us, hu, its, hi with | [_, _, _, _, _], _, [_, _], _ => ⟨_, rfl, rfl⟩
  have S_Leaf___init__ : CMtG l.prog w K mg base "Leaf" "__init__" 2 ["self", "name", "keep", "grace", "slow"] [] (spLeaf K) := ⟨⟨_, _, _, _, dt_Leaf___init__, mg_Leaf, ⟨rd_Leaf, ga_Leaf⟩, fc_Leaf___init__, (ok_Leaf_init F_Leaf_init S_Shape___init__), k_Leaf_init, hu_Leaf___init__, ht_Leaf___init__⟩⟩
  obtain ⟨ds_Leaf_4, hd_Leaf_4, hb_Leaf_4⟩ := F_Leaf_init.binds1 (ps := ["self", "name", "keep", "grace", "slow"]) 5 2 (List.cons_ne_nil _ _) rfl fun _ _ _ _ _ _ _ us its hu hi => match us, hu, its, hi with | [_, _, _, _, _], _, [_, _], _ => ⟨_, rfl, rfl⟩
  have K_Leaf_4 : MakG l.prog w K mg base "Leaf" c_Leaf 2 ["self", "name", "keep", "grace", "slow"] [] (spLeaf K) := ⟨⟨_, _, ds_Leaf_4, (ok_Leaf_init F_Leaf_init S_Shape___init__), mg_Leaf, ⟨mk_Leaf, a_Leaf___init__, i_Leaf_init, kc_Leaf⟩, hb_Leaf_4, hd_Leaf_4⟩⟩
  obtain ⟨ds_Steady_5, hd_Steady_5, hb_Steady_5⟩ := F_Steady_init.binds1 (ps := ["self", "name", "keep", "many", "grace", "slow"]) 6 2 (List.cons_ne_nil _ _) rfl fun _ _ _ _ _ _ _ us its hu hi => match us, hu, its, hi with | [_, _, _, _, _, _], _, [_, _], _ => ⟨_, rfl, rfl⟩
  have K_Steady_5 : MakG l.prog w K mg base "Steady" c_Steady 3 ["self", "name", "keep", "many", "grace", "slow"] [] (spMany K c_Steady) := ⟨⟨_, _, ds_Steady_5, (ok_Steady_init F_Steady_init cf_Steady S_Leaf___init__), mg_Steady, ⟨mk_Steady, a_Steady___init__, i_Steady_init, kc_Steady⟩, hb_Steady_5, hd_Steady_5⟩⟩
  obtain ⟨ds_Faller_5, hd_Faller_5, hb_Faller_5⟩ := F_Faller_init.binds1 (ps := ["self", "name", "keep", "many", "grace", "slow"]) 6 2 (List.cons_ne_nil _ _) rfl fun _ _ _ _ _ _ _ us its hu hi => match us, hu, its, hi with | [_, _, _, _, _, _], _, [_, _], _ => ⟨_, rfl, rfl⟩
  have K_Faller_5 : MakG l.prog w K mg base "Faller" c_Faller 3 ["self", "name", "keep", "many", "grace", "slow"] [] (spMany K c_Faller) := ⟨⟨_, _, ds_Faller_5, (ok_Faller_init F_Faller_init cf_Faller S_Leaf___init__), mg_Faller, ⟨mk_Faller, a_Faller___init__, i_Faller_init, kc_Faller⟩, hb_Faller_5, hd_Faller_5⟩⟩
  obtain ⟨ds_Minder_4, hd_Minder_4, hb_Minder_4⟩ := F_Minder_init.binds1 (ps := ["self", "name", "keep", "most", "span"]) 5 2 (List.cons_ne_nil _ _) rfl fun _ _ _ _ _ _ _ us its hu hi => match us, hu, its, hi with | [_, _, _, _, _], _, [_, _], _ => ⟨_, rfl, rfl⟩
  have K_Minder_4 : MakG l.prog w K mg base "Minder" c_Minder 2 ["self", "name", "keep", "most", "span"] [] (spMinder K c_Minder) := ⟨⟨_, _, ds_Minder_4, (ok_Minder_init F_Minder_init cf_Minder S_Shape___init__), mg_Minder, ⟨mk_Minder, a_Minder___init__, i_Minder_init, kc_Minder⟩, hb_Minder_4, hd_Minder_4⟩⟩
  obtain ⟨ds_AllMinder_4, hd_AllMinder_4, hb_AllMinder_4⟩ := F_Minder_init.binds1 (ps := ["self", "name", "keep", "most", "span"]) 5 2 (List.cons_ne_nil _ _) rfl fun _ _ _ _ _ _ _ us its hu hi => match us, hu, its, hi with | [_, _, _, _, _], _, [_, _], _ => ⟨_, rfl, rfl⟩
  have K_AllMinder_4 : MakG l.prog w K mg base "AllMinder" c_AllMinder 2 ["self", "name", "keep", "most", "span"] [] (spMinder K c_AllMinder) := ⟨⟨_, _, ds_AllMinder_4, (ok_Minder_init F_Minder_init cf_AllMinder S_Shape___init__), mg_AllMinder, ⟨mk_AllMinder, a_AllMinder___init__, i_Minder_init, kc_AllMinder⟩, hb_AllMinder_4, hd_AllMinder_4⟩⟩
  obtain ⟨ds_RestMinder_4, hd_RestMinder_4, hb_RestMinder_4⟩ := F_Minder_init.binds1 (ps := ["self", "name", "keep", "most", "span"]) 5 2 (List.cons_ne_nil _ _) rfl fun _ _ _ _ _ _ _ us its hu hi => match us, hu, its, hi with | [_, _, _, _, _], _, [_, _], _ => ⟨_, rfl, rfl⟩
  have K_RestMinder_4 : MakG l.prog w K mg base "RestMinder" c_RestMinder 2 ["self", "name", "keep", "most", "span"] [] (spMinder K c_RestMinder) := ⟨⟨_, _, ds_RestMinder_4, (ok_Minder_init F_Minder_init cf_RestMinder S_Shape___init__), mg_RestMinder, ⟨mk_RestMinder, a_RestMinder___init__, i_Minder_init, kc_RestMinder⟩, hb_RestMinder_4, hd_RestMinder_4⟩⟩
  have M_Leaf_leaf : MthG l.prog w K mg base c_Leaf "leaf" 1 ["self"] [] (spTruth c_Leaf true) := ⟨⟨_, _, [], (ok_Leaf_leaf F_Leaf_leaf), ⟨a_Leaf_leaf, i_Leaf_leaf, k_Leaf_leaf⟩, b_Leaf_leaf, .nil⟩⟩
  have M_Steady_leaf : MthG l.prog w K mg base c_Steady "leaf" 1 ["self"] [] (spTruth c_Steady true) := ⟨⟨_, _, [], (ok_Leaf_leaf F_Leaf_leaf), ⟨a_Steady_leaf, i_Leaf_leaf, k_Leaf_leaf⟩, b_Leaf_leaf, .nil⟩⟩
  have M_Faller_leaf : MthG l.prog w K mg base c_Faller "leaf" 1 ["self"] [] (spTruth c_Faller true) := ⟨⟨_, _, [], (ok_Leaf_leaf F_Leaf_leaf), ⟨a_Faller_leaf, i_Leaf_leaf, k_Leaf_leaf⟩, b_Leaf_leaf, .nil⟩⟩
  have M_Minder_leaf : MthG l.prog w K mg base c_Minder "leaf" 1 ["self"] [] (spTruth c_Minder false) := ⟨⟨_, _, [], (ok_Shape_leaf F_Shape_leaf), ⟨a_Minder_leaf, i_Shape_leaf, k_Shape_leaf⟩, b_Shape_leaf, .nil⟩⟩
  have M_AllMinder_leaf : MthG l.prog w K mg base c_AllMinder "leaf" 1 ["self"] [] (spTruth c_AllMinder false) := ⟨⟨_, _, [], (ok_Shape_leaf F_Shape_leaf), ⟨a_AllMinder_leaf, i_Shape_leaf, k_Shape_leaf⟩, b_Shape_leaf, .nil⟩⟩
  have M_RestMinder_leaf : MthG l.prog w K mg base c_RestMinder "leaf" 1 ["self"] [] (spTruth c_RestMinder false) := ⟨⟨_, _, [], (ok_Shape_leaf F_Shape_leaf), ⟨a_RestMinder_leaf, i_Shape_leaf, k_Shape_leaf⟩, b_Shape_leaf, .nil⟩⟩
  have M_Leaf_work : MthG l.prog w K mg base c_Leaf "work" 1 ["self"] [] (spWork c_Leaf 0) := ⟨⟨_, _, [], (ok_Leaf_work F_Leaf_work), ⟨a_Leaf_work, i_Leaf_work, k_Leaf_work⟩, b_Leaf_work, .nil⟩⟩
  have M_Steady_work : MthG l.prog w K mg base c_Steady "work" 1 ["self"] [] (spWork c_Steady 1) := ⟨⟨_, _, [], (ok_Steady_work F_Steady_work T cf_Steady), ⟨a_Steady_work, i_Steady_work, k_Steady_work⟩, b_Steady_work, .nil⟩⟩
  have M_Faller_work : MthG l.prog w K mg base c_Faller "work" 1 ["self"] [] (spWork c_Faller 2) := ⟨⟨_, _, [], (ok_Faller_work F_Faller_work T cf_Faller), ⟨a_Faller_work, i_Faller_work, k_Faller_work⟩, b_Faller_work, .nil⟩⟩
  have M_Leaf_words : MthG l.prog w K mg base c_Leaf "words" 2 ["self"] [] (spWords c_Leaf 0) := ⟨⟨_, _, [], (ok_Leaf_words F_Leaf_words T cf_Leaf (by decide) M_Leaf_work), ⟨a_Leaf_words, i_Leaf_words, k_Leaf_words⟩, b_Leaf_words, .nil⟩⟩
  have M_Steady_words : MthG l.prog w K mg base c_Steady "words" 2 ["self"] [] (spWords c_Steady 1) := ⟨⟨_, _, [], (ok_Leaf_words F_Leaf_words T (cf_Steady.sub (by decide)) (by decide) M_Steady_work), ⟨a_Steady_words, i_Leaf_words, k_Leaf_words⟩, b_Leaf_words, .nil⟩⟩
  have M_Faller_words : MthG l.prog w K mg base c_Faller "words" 2 ["self"] [] (spWords c_Faller 2) := ⟨⟨_, _, [], (ok_Leaf_words F_Leaf_words T (cf_Faller.sub (by decide)) (by decide) M_Faller_work), ⟨a_Faller_words, i_Leaf_words, k_Leaf_words⟩, b_Leaf_words, .nil⟩⟩
  have M_Minder_way : MthG l.prog w K mg base c_Minder "way" 1 ["self"] [] (spSay c_Minder "one") := ⟨⟨_, _, [], (ok_Minder_way F_Minder_way), ⟨a_Minder_way, i_Minder_way, k_Minder_way⟩, b_Minder_way, .nil⟩⟩
  have M_AllMinder_way : MthG l.prog w K mg base c_AllMinder "way" 1 ["self"] [] (spSay c_AllMinder "all") := ⟨⟨_, _, [], (ok_AllMinder_way F_AllMinder_way), ⟨a_AllMinder_way, i_AllMinder_way, k_AllMinder_way⟩, b_AllMinder_way, .nil⟩⟩
  have M_RestMinder_way : MthG l.prog w K mg base c_RestMinder "way" 1 ["self"] [] (spSay c_RestMinder "rest") := ⟨⟨_, _, [], (ok_RestMinder_way F_RestMinder_way), ⟨a_RestMinder_way, i_RestMinder_way, k_RestMinder_way⟩, b_RestMinder_way, .nil⟩⟩
  have M_Minder_words : MthG l.prog w K mg base c_Minder "words" 2 ["self"] [] (spMinWords c_Minder "one") := ⟨⟨_, _, [], (ok_Minder_words F_Minder_words T cf_Minder M_Minder_way), ⟨a_Minder_words, i_Minder_words, k_Minder_words⟩, b_Minder_words, .nil⟩⟩
  have M_AllMinder_words : MthG l.prog w K mg base c_AllMinder "words" 2 ["self"] [] (spMinWords c_AllMinder "all") := ⟨⟨_, _, [], (ok_Minder_words F_Minder_words T cf_AllMinder M_AllMinder_way), ⟨a_AllMinder_words, i_Minder_words, k_Minder_words⟩, b_Minder_words, .nil⟩⟩
  have M_RestMinder_words : MthG l.prog w K mg base c_RestMinder "words" 2 ["self"] [] (spMinWords c_RestMinder "rest") := ⟨⟨_, _, [], (ok_Minder_words F_Minder_words T cf_RestMinder M_RestMinder_way), ⟨a_RestMinder_words, i_Minder_words, k_Minder_words⟩, b_Minder_words, .nil⟩⟩
  have KC : KdC K (clsH c_Leaf c_Steady c_Faller c_Minder c_AllMinder c_RestMinder) := kdC_of cf_Leaf cf_Steady cf_Faller cf_Minder cf_AllMinder cf_RestMinder
  have KL : KdL l.prog w K mg base (clsH c_Leaf c_Steady c_Faller c_Minder c_AllMinder c_RestMinder) := kdL_of M_Leaf_leaf M_Steady_leaf M_Faller_leaf M_Minder_leaf M_AllMinder_leaf M_RestMinder_leaf
  have KW : KdW l.prog w K mg base (clsH c_Leaf c_Steady c_Faller c_Minder c_AllMinder c_RestMinder) := kdW_of M_Leaf_words M_Steady_words M_Faller_words M_Minder_words M_AllMinder_words M_RestMinder_words
  obtain ⟨dc_number_in_1, hc_number_in_1, bc_number_in_1⟩ := F_number_in.binds1 (ps := ["text", "most"]) 1 0 (List.cons_ne_nil _ _) rfl fun _ _ _ _ _ _ _ us its hu hi => match us, hu, its, hi with | [_], _, [_], _ => ⟨_, rfl, rfl⟩
  have C_number_in_1 : CalG l.prog w K mg base "number_in" 1 ["text", "most"] [.int 1000000] (spNum c_NoNumber) := ⟨⟨_, _, dc_number_in_1, (ok_number F_number_in T e_NoNumber), PySem.W.mg_of X G a_number_in, k_number_in, bc_number_in_1, hc_number_in_1⟩⟩
  have C_fit_name : CalG l.prog w K mg base "fit_name" 1 ["text"] [] spFit := ⟨⟨_, _, [], (ok_fit F_fit_name T mg_SIGNS), PySem.W.mg_of X G a_fit_name, k_fit_name, b_fit_name, .nil⟩⟩
  have C_leaf_by : CalG l.prog w K mg base "leaf_by" 5 ["words"] [] (spBy K (clsH c_Leaf c_Steady c_Faller c_Minder c_AllMinder c_RestMinder) c_NoNumber leafR) := ⟨⟨_, _, [], (ok_leaf_by F_leaf_by T KC C_number_in_1 K_Leaf_4 K_Steady_5 K_Faller_5), PySem.W.mg_of X G a_leaf_by, k_leaf_by, b_leaf_by, .nil⟩⟩
  have C_minder_by : CalG l.prog w K mg base "minder_by" 5 ["words"] [] (spBy K (clsH c_Leaf c_Steady c_Faller c_Minder c_AllMinder c_RestMinder) c_NoNumber minderR) := ⟨⟨_, _, [], (ok_minder_by F_minder_by T KC C_number_in_1 K_Minder_4 K_AllMinder_4 K_RestMinder_4), PySem.W.mg_of X G a_minder_by, k_minder_by, b_minder_by, .nil⟩⟩
  have C_shape_by : CalG l.prog w K mg base "shape_by" 6 ["words"] [] (spShapeBy K (clsH c_Leaf c_Steady c_Faller c_Minder c_AllMinder c_RestMinder)) := ⟨⟨_, _, [], (ok_shape_by F_shape_by T mg_KEEPS sq_KEEPS C_fit_name C_leaf_by C_minder_by), PySem.W.mg_of X G a_shape_by, k_shape_by, b_shape_by, .nil⟩⟩
  have M_Tree_depth : MthG l.prog w K mg base c_Tree "depth" 1 ["self", "at"] [] (spDepth c_Tree (clsH c_Leaf c_Steady c_Faller c_Minder c_AllMinder c_RestMinder)) := ⟨⟨_, _, [], (ok_depth F_Tree_depth cf_Tree), ⟨a_Tree_depth, i_Tree_depth, k_Tree_depth⟩, b_Tree_depth, .nil⟩⟩
  have C_elder_at : CalG l.prog w K mg base "elder_at" 2 ["tree", "deep"] [] (spElder c_Tree (clsH c_Leaf c_Steady c_Faller c_Minder c_AllMinder c_RestMinder)) := ⟨⟨_, _, [], (ok_elder F_elder_at T cf_Tree KC KL M_Tree_depth), PySem.W.mg_of X G a_elder_at, k_elder_at, b_elder_at, .nil⟩⟩
  have K_Tree_0 : MakG l.prog w K mg base "Tree" c_Tree 1 ["self"] [] (spTInit c_Tree (clsH c_Leaf c_Steady c_Faller c_Minder c_AllMinder c_RestMinder)) := ⟨⟨_, _, [], (ok_Tree_init F_Tree_init cf_Tree), mg_Tree, ⟨mk_Tree, a_Tree___init__, i_Tree_init, kc_Tree⟩, b_Tree_init, .nil⟩⟩
  have M_Tree_add : MthG l.prog w K mg base c_Tree "add" 1 ["self", "shape", "elder"] [] (spAdd c_Tree (clsH c_Leaf c_Steady c_Faller c_Minder c_AllMinder c_RestMinder)) := ⟨⟨_, _, [], (ok_add F_Tree_add T cf_Tree KC), ⟨a_Tree_add, i_Tree_add, k_Tree_add⟩, b_Tree_add, .nil⟩⟩
  have C_written : CalG l.prog w K mg base "written" 3 ["tree"] [] (spWritten c_Tree (clsH c_Leaf c_Steady c_Faller c_Minder c_AllMinder c_RestMinder)) := ⟨⟨_, _, [], (ok_written F_written T cf_Tree KC KW M_Tree_depth), PySem.W.mg_of X G a_written, k_written, b_written, .nil⟩⟩
  have C_law_cell_at : Cal l.prog w K mg base CX0 "_law_cell_at" 1 ["_law_script", "_law_k"] [] (spCell K) := ⟨⟨_, _, [], (ok_cell F_law_cell_at T), PySem.W.mg_of X G a_law_cell_at, k_law_cell_at, b_law_cell_at, .nil⟩⟩
  have C_law_name : Cal l.prog w K mg base CX0 "_law_name" 1 ["_law_k", "_law_mark"] [] spNm := ⟨⟨_, _, [], (ok_nm F_law_name), PySem.W.mg_of X G a_law_name, k_law_name, b_law_name, .nil⟩⟩
  have C_law_minder_words : Cal l.prog w K mg base CX0 "_law_minder_words" 1 ["_law_cell", "_law_other"] [] spMinW := ⟨⟨_, _, [], (ok_minw F_law_minder_words T), PySem.W.mg_of X G a_law_minder_words, k_law_minder_words, b_law_minder_words, .nil⟩⟩
  have C_law_leaf_words : Cal l.prog w K mg base CX0 "_law_leaf_words" 1 ["_law_cell", "_law_other"] [] spLfW := ⟨⟨_, _, [], (ok_lfw F_law_leaf_words T), PySem.W.mg_of X G a_law_leaf_words, k_law_leaf_words, b_law_leaf_words, .nil⟩⟩
  have C_law_tree : Cal l.prog w K mg base CX0 "_law_tree" 2 ["_law_script", "_law_first", "_law_count", "_law_mark"] [] (spTree K) := ⟨⟨_, _, [], (ok_tree F_law_tree T C_law_cell_at C_law_name C_law_minder_words C_law_leaf_words), PySem.W.mg_of X G a_law_tree, k_law_tree, b_law_tree, .nil⟩⟩
  have C_read : CalG l.prog w K mg base "read" 7 ["text"] [] (spRead c_Tree (clsH c_Leaf c_Steady c_Faller c_Minder c_AllMinder c_RestMinder)) := ⟨⟨_, _, [], (ok_read F_read T cf_Tree KC KL mg_BOUND mg_DEEPEST K_Tree_0 M_Tree_add C_shape_by C_elder_at), PySem.W.mg_of X G a_read, k_read, b_read, .nil⟩⟩
  have MF : Mth l.prog w K mg base (CXK l.prog w) c_Tree "find" 1 ["self", "name"] [] (spFindK c_Tree (clsH c_Leaf c_Steady c_Faller c_Minder c_AllMinder c_RestMinder) c_NoName) := ⟨⟨_, _, [], (ok_findK F_Tree_find T cf_Tree e_NoName rfl), ⟨a_Tree_find, i_Tree_find, k_Tree_find⟩, b_Tree_find, .nil⟩⟩
  have M_Tree_names : Mth l.prog w K mg base CX0 c_Tree "names" 1 ["self"] [] (spNames c_Tree (clsH c_Leaf c_Steady c_Faller c_Minder c_AllMinder c_RestMinder)) := ⟨⟨_, _, [], (ok_names F_Tree_names cf_Tree KC), ⟨a_Tree_names, i_Tree_names, k_Tree_names⟩, b_Tree_names, .nil⟩⟩
  have C_law_texts : Cal l.prog w K mg base CX0 "_law_texts" 1 ["_law_found", "_law_due"] [] (spTexts K) := ⟨⟨_, _, [], (ok_texts F_law_texts T), PySem.W.mg_of X G a_law_texts, k_law_texts, b_law_texts, .nil⟩⟩
  have C_law_row : Cal l.prog w K mg base CX0 "_law_row" 1 ["_law_depth", "_law_words", "_law_name_here", "_law_cell"] [] spRow := ⟨⟨_, _, [], (ok_row F_law_row T), PySem.W.mg_of X G a_law_row, k_law_row, b_law_row, .nil⟩⟩
  exact (ok_law F_law T cf_Tree e_NoName xm_NoName_NoName C_law_cell_at C_law_tree C_law_row C_law_texts C_read C_written M_Tree_names MF)
theorem facts_mk {l : PySem.W.OpenLaw} {w : World} {K : PySem.W.Frag} {h : Heap} {mg : Str → Option Value} {fa : Addr} (KX : K.In h) (G : h.Ns mainGlobals mg) (hfa : mg "law" = some (.ref fa)) (c : obsM fnL exL K = valM fnL exL) :
    ∃ fd : FuncData, (∀ (s : Shared) (v : Value), BindsTo s fd ⟨[v], []⟩ [("_law_script", v)]) ∧ ∀ base : Heap, K.In base → base.Ns mainGlobals mg → FnOk l.prog w K mg base CX0 9 fa fd ["_law_script"] (spLaw K) := by
  have cd := saysM_d c
  obtain ⟨fd_fit_name, D_fit_name⟩ := cd.def_ 0 (d := d_fit_name) rfl
  obtain ⟨fd_number_in, D_number_in⟩ := cd.def_ 1 (d := d_number_in) rfl
  obtain ⟨fd_Shape_init, D_Shape_init⟩ := cd.def_ 2 (d := d_Shape_init) rfl
  obtain ⟨fd_Shape_leaf, D_Shape_leaf⟩ := cd.def_ 3 (d := d_Shape_leaf) rfl
  obtain ⟨fd_Leaf_init, D_Leaf_init⟩ := cd.def_ 4 (d := d_Leaf_init) rfl
  obtain ⟨fd_Leaf_leaf, D_Leaf_leaf⟩ := cd.def_ 5 (d := d_Leaf_leaf) rfl
  obtain ⟨fd_Leaf_work, D_Leaf_work⟩ := cd.def_ 6 (d := d_Leaf_work) rfl
  obtain ⟨fd_Leaf_words, D_Leaf_words⟩ := cd.def_ 7 (d := d_Leaf_words) rfl
  obtain ⟨fd_Steady_init, D_Steady_init⟩ := cd.def_ 8 (d := d_Steady_init) rfl
  obtain ⟨fd_Steady_work, D_Steady_work⟩ := cd.def_ 9 (d := d_Steady_work) rfl
  obtain ⟨fd_Faller_init, D_Faller_init⟩ := cd.def_ 10 (d := d_Faller_init) rfl
  obtain ⟨fd_Faller_work, D_Faller_work⟩ := cd.def_ 11 (d := d_Faller_work) rfl
  obtain ⟨fd_Minder_init, D_Minder_init⟩ := cd.def_ 12 (d := d_Minder_init) rfl
  obtain ⟨fd_Minder_way, D_Minder_way⟩ := cd.def_ 13 (d := d_Minder_way) rfl
  obtain ⟨fd_Minder_words, D_Minder_words⟩ := cd.def_ 14 (d := d_Minder_words) rfl
  obtain ⟨fd_AllMinder_way, D_AllMinder_way⟩ := cd.def_ 15 (d := d_AllMinder_way) rfl
  obtain ⟨fd_RestMinder_way, D_RestMinder_way⟩ := cd.def_ 16 (d := d_RestMinder_way) rfl
  obtain ⟨fd_Tree_init, D_Tree_init⟩ := cd.def_ 17 (d := d_Tree_init) rfl
  obtain ⟨fd_Tree_add, D_Tree_add⟩ := cd.def_ 18 (d := d_Tree_add) rfl
  obtain ⟨fd_Tree_find, D_Tree_find⟩ := cd.def_ 19 (d := d_Tree_find) rfl
  obtain ⟨fd_Tree_names, D_Tree_names⟩ := cd.def_ 20 (d := d_Tree_names) rfl
  obtain ⟨fd_Tree_depth, D_Tree_depth⟩ := cd.def_ 21 (d := d_Tree_depth) rfl
  obtain ⟨fd_leaf_by, D_leaf_by⟩ := cd.def_ 22 (d := d_leaf_by) rfl
  obtain ⟨fd_minder_by, D_minder_by⟩ := cd.def_ 23 (d := d_minder_by) rfl
  obtain ⟨fd_shape_by, D_shape_by⟩ := cd.def_ 24 (d := d_shape_by) rfl
  obtain ⟨fd_elder_at, D_elder_at⟩ := cd.def_ 25 (d := d_elder_at) rfl
  obtain ⟨fd_read, D_read⟩ := cd.def_ 26 (d := d_read) rfl
  obtain ⟨fd_written, D_written⟩ := cd.def_ 27 (d := d_written) rfl
  obtain ⟨fd_law_cell_at, D_law_cell_at⟩ := cd.def_ 28 (d := d_law_cell_at) rfl
  obtain ⟨fd_law_name, D_law_name⟩ := cd.def_ 29 (d := d_law_name) rfl
  obtain ⟨fd_law_minder_words, D_law_minder_words⟩ := cd.def_ 30 (d := d_law_minder_words) rfl
  obtain ⟨fd_law_leaf_words, D_law_leaf_words⟩ := cd.def_ 31 (d := d_law_leaf_words) rfl
  obtain ⟨fd_law_tree, D_law_tree⟩ := cd.def_ 32 (d := d_law_tree) rfl
  obtain ⟨fd_law_texts, D_law_texts⟩ := cd.def_ 33 (d := d_law_texts) rfl
  obtain ⟨fd_law_row, D_law_row⟩ := cd.def_ 34 (d := d_law_row) rfl
  obtain ⟨fd_law, D_law⟩ := cd.def_ 35 (d := d_law) rfl
  obtain ⟨tk_SIGNS, mg_SIGNS⟩ := He.str_ok KX G (saysM_x c 94 (f := x94) rfl)
  obtain ⟨tk_BOUND, mg_BOUND⟩ := He.int_ok KX G (saysM_x c 95 (f := x95) rfl)
  obtain ⟨tk_DEEPEST, mg_DEEPEST⟩ := He.int_ok KX G (saysM_x c 96 (f := x96) rfl)
  exact all_mk (c_Shape := (He.ga K "Shape")) (c_Leaf := (He.ga K "Leaf")) (c_Steady := (He.ga K "Steady")) (c_Faller := (He.ga K "Faller")) (c_Minder := (He.ga K "Minder")) (c_AllMinder := (He.ga K "AllMinder")) (c_RestMinder := (He.ga K "RestMinder")) (c_Tree := (He.ga K "Tree")) (t_KEEPS := (He.ga K "KEEPS")) (f_fit_name := (He.fAd K ("fit_name", none))) (f_number_in := (He.fAd K ("number_in", none))) (f_Shape_init := (He.fAd K ("Shape", some "__init__"))) (f_Shape_leaf := (He.fAd K ("Shape", some "leaf"))) (f_Leaf_init := (He.fAd K ("Leaf", some "__init__"))) (f_Leaf_leaf := (He.fAd K ("Leaf", some "leaf"))) (f_Leaf_work := (He.fAd K ("Leaf", some "work"))) (f_Leaf_words := (He.fAd K ("Leaf", some "words"))) (f_Steady_init := (He.fAd K ("Steady", some "__init__"))) (f_Steady_work := (He.fAd K ("Steady", some "work"))) (f_Faller_init := (He.fAd K ("Faller", some "__init__"))) (f_Faller_work := (He.fAd K ("Faller", some "work"))) (f_Minder_init := (He.fAd K ("Minder", some "__init__"))) (f_Minder_way := (He.fAd K ("Minder", some "way"))) (f_Minder_words := (He.fAd K ("Minder", some "words"))) (f_AllMinder_way := (He.fAd K ("AllMinder", some "way"))) (f_RestMinder_way := (He.fAd K ("RestMinder", some "way"))) (f_Tree_init := (He.fAd K ("Tree", some "__init__"))) (f_Tree_add := (He.fAd K ("Tree", some "add"))) (f_Tree_find := (He.fAd K ("Tree", some "find"))) (f_Tree_names := (He.fAd K ("Tree", some "names"))) (f_Tree_depth := (He.fAd K ("Tree", some "depth"))) (f_leaf_by := (He.fAd K ("leaf_by", none))) (f_minder_by := (He.fAd K ("minder_by", none))) (f_shape_by := (He.fAd K ("shape_by", none))) (f_elder_at := (He.fAd K ("elder_at", none))) (f_read := (He.fAd K ("read", none))) (f_written := (He.fAd K ("written", none))) (f_law_cell_at := (He.fAd K ("_law_cell_at", none))) (f_law_name := (He.fAd K ("_law_name", none))) (f_law_minder_words := (He.fAd K ("_law_minder_words", none))) (f_law_leaf_words := (He.fAd K ("_law_leaf_words", none))) (f_law_tree := (He.fAd K ("_law_tree", none))) (f_law_texts := (He.fAd K ("_law_texts", none))) (f_law_row := (He.fAd K ("_law_row", none))) (f_law := (He.fAd K ("law", none))) (c_NoName := (He.ga K "NoName")) (c_NoNumber := (He.ga K "NoNumber")) KX G hfa (D_fit_name := D_fit_name) (D_number_in := D_number_in) (D_Shape_init := D_Shape_init) (D_Shape_leaf := D_Shape_leaf) (D_Leaf_init := D_Leaf_init) (D_Leaf_leaf := D_Leaf_leaf) (D_Leaf_work := D_Leaf_work) (D_Leaf_words := D_Leaf_words) (D_Steady_init := D_Steady_init) (D_Steady_work := D_Steady_work) (D_Faller_init := D_Faller_init) (D_Faller_work := D_Faller_work) (D_Minder_init := D_Minder_init) (D_Minder_way := D_Minder_way) (D_Minder_words := D_Minder_words) (D_AllMinder_way := D_AllMinder_way) (D_RestMinder_way := D_RestMinder_way) (D_Tree_init := D_Tree_init) (D_Tree_add := D_Tree_add) (D_Tree_find := D_Tree_find) (D_Tree_names := D_Tree_names) (D_Tree_depth := D_Tree_depth) (D_leaf_by := D_leaf_by) (D_minder_by := D_minder_by) (D_shape_by := D_shape_by) (D_elder_at := D_elder_at) (D_read := D_read) (D_written := D_written) (D_law_cell_at := D_law_cell_at) (D_law_name := D_law_name) (D_law_minder_words := D_law_minder_words) (D_law_leaf_words := D_law_leaf_words) (D_law_tree := D_law_tree) (D_law_texts := D_law_texts) (D_law_row := D_law_row) (D_law := D_law)
    (z_len := of_decide_eq_true (saysM_x c 0 (f := x0) rfl))
    (z_int := of_decide_eq_true (saysM_x c 1 (f := x1) rfl))
    (z_bool := of_decide_eq_true (saysM_x c 2 (f := x2) rfl))
    (z_list := of_decide_eq_true (saysM_x c 3 (f := x3) rfl))
    (z_str := of_decide_eq_true (saysM_x c 4 (f := x4) rfl))
    (z_divmod := of_decide_eq_true (saysM_x c 5 (f := x5) rfl))
    (z_range := of_decide_eq_true (saysM_x c 6 (f := x6) rfl))
    (z_isinstance := of_decide_eq_true (saysM_x c 7 (f := x7) rfl))
    (z_ValueError := of_decide_eq_true (saysM_x c 8 (f := x8) rfl))
    (z_KeyError := of_decide_eq_true (saysM_x c 9 (f := x9) rfl))
    (a_Shape := of_decide_eq_true (saysM_x c 10 (f := x10) rfl))
    (pg_Shape := of_decide_eq_true (saysM_x c 11 (f := x11) rfl))
    (hd_Shape := of_decide_eq_true (saysM_x c 12 (f := x12) rfl))
    (po_Shape := of_decide_eq_true (saysM_x c 13 (f := x13) rfl))
    (sa_Shape := of_decide_eq_true (saysM_x c 14 (f := x14) rfl))
    (a_Leaf := of_decide_eq_true (saysM_x c 15 (f := x15) rfl))
    (pg_Leaf := of_decide_eq_true (saysM_x c 16 (f := x16) rfl))
    (hd_Leaf := of_decide_eq_true (saysM_x c 17 (f := x17) rfl))
    (po_Leaf := of_decide_eq_true (saysM_x c 18 (f := x18) rfl))
    (sa_Leaf := of_decide_eq_true (saysM_x c 19 (f := x19) rfl))
    (n_Leaf_name := of_decide_eq_true (saysM_x c 20 (f := x20) rfl))
    (n_Leaf_keep := of_decide_eq_true (saysM_x c 21 (f := x21) rfl))
    (n_Leaf_grace := of_decide_eq_true (saysM_x c 22 (f := x22) rfl))
    (n_Leaf_slow := of_decide_eq_true (saysM_x c 23 (f := x23) rfl))
    (mk_Leaf := of_decide_eq_true (saysM_x c 24 (f := x24) rfl))
    (kc_Leaf := of_decide_eq_true (saysM_x c 25 (f := x25) rfl))
    (a_Steady := of_decide_eq_true (saysM_x c 26 (f := x26) rfl))
    (pg_Steady := of_decide_eq_true (saysM_x c 27 (f := x27) rfl))
    (hd_Steady := of_decide_eq_true (saysM_x c 28 (f := x28) rfl))
    (po_Steady := of_decide_eq_true (saysM_x c 29 (f := x29) rfl))
    (sa_Steady := of_decide_eq_true (saysM_x c 30 (f := x30) rfl))
    (n_Steady_name := of_decide_eq_true (saysM_x c 31 (f := x31) rfl))
    (n_Steady_keep := of_decide_eq_true (saysM_x c 32 (f := x32) rfl))
    (n_Steady_grace := of_decide_eq_true (saysM_x c 33 (f := x33) rfl))
    (n_Steady_slow := of_decide_eq_true (saysM_x c 34 (f := x34) rfl))
    (n_Steady_many := of_decide_eq_true (saysM_x c 35 (f := x35) rfl))
    (mk_Steady := of_decide_eq_true (saysM_x c 36 (f := x36) rfl))
    (kc_Steady := of_decide_eq_true (saysM_x c 37 (f := x37) rfl))
    (a_Faller := of_decide_eq_true (saysM_x c 38 (f := x38) rfl))
    (pg_Faller := of_decide_eq_true (saysM_x c 39 (f := x39) rfl))
    (hd_Faller := of_decide_eq_true (saysM_x c 40 (f := x40) rfl))
    (po_Faller := of_decide_eq_true (saysM_x c 41 (f := x41) rfl))
    (sa_Faller := of_decide_eq_true (saysM_x c 42 (f := x42) rfl))
    (n_Faller_name := of_decide_eq_true (saysM_x c 43 (f := x43) rfl))
    (n_Faller_keep := of_decide_eq_true (saysM_x c 44 (f := x44) rfl))
    (n_Faller_grace := of_decide_eq_true (saysM_x c 45 (f := x45) rfl))
    (n_Faller_slow := of_decide_eq_true (saysM_x c 46 (f := x46) rfl))
    (n_Faller_many := of_decide_eq_true (saysM_x c 47 (f := x47) rfl))
    (mk_Faller := of_decide_eq_true (saysM_x c 48 (f := x48) rfl))
    (kc_Faller := of_decide_eq_true (saysM_x c 49 (f := x49) rfl))
    (a_Minder := of_decide_eq_true (saysM_x c 50 (f := x50) rfl))
    (pg_Minder := of_decide_eq_true (saysM_x c 51 (f := x51) rfl))
    (hd_Minder := of_decide_eq_true (saysM_x c 52 (f := x52) rfl))
    (po_Minder := of_decide_eq_true (saysM_x c 53 (f := x53) rfl))
    (sa_Minder := of_decide_eq_true (saysM_x c 54 (f := x54) rfl))
    (n_Minder_name := of_decide_eq_true (saysM_x c 55 (f := x55) rfl))
    (n_Minder_keep := of_decide_eq_true (saysM_x c 56 (f := x56) rfl))
    (n_Minder_most := of_decide_eq_true (saysM_x c 57 (f := x57) rfl))
    (n_Minder_span := of_decide_eq_true (saysM_x c 58 (f := x58) rfl))
    (mk_Minder := of_decide_eq_true (saysM_x c 59 (f := x59) rfl))
    (kc_Minder := of_decide_eq_true (saysM_x c 60 (f := x60) rfl))
    (a_AllMinder := of_decide_eq_true (saysM_x c 61 (f := x61) rfl))
    (pg_AllMinder := of_decide_eq_true (saysM_x c 62 (f := x62) rfl))
    (hd_AllMinder := of_decide_eq_true (saysM_x c 63 (f := x63) rfl))
    (po_AllMinder := of_decide_eq_true (saysM_x c 64 (f := x64) rfl))
    (sa_AllMinder := of_decide_eq_true (saysM_x c 65 (f := x65) rfl))
    (n_AllMinder_name := of_decide_eq_true (saysM_x c 66 (f := x66) rfl))
    (n_AllMinder_keep := of_decide_eq_true (saysM_x c 67 (f := x67) rfl))
    (n_AllMinder_most := of_decide_eq_true (saysM_x c 68 (f := x68) rfl))
    (n_AllMinder_span := of_decide_eq_true (saysM_x c 69 (f := x69) rfl))
    (mk_AllMinder := of_decide_eq_true (saysM_x c 70 (f := x70) rfl))
    (kc_AllMinder := of_decide_eq_true (saysM_x c 71 (f := x71) rfl))
    (a_RestMinder := of_decide_eq_true (saysM_x c 72 (f := x72) rfl))
    (pg_RestMinder := of_decide_eq_true (saysM_x c 73 (f := x73) rfl))
    (hd_RestMinder := of_decide_eq_true (saysM_x c 74 (f := x74) rfl))
    (po_RestMinder := of_decide_eq_true (saysM_x c 75 (f := x75) rfl))
    (sa_RestMinder := of_decide_eq_true (saysM_x c 76 (f := x76) rfl))
    (n_RestMinder_name := of_decide_eq_true (saysM_x c 77 (f := x77) rfl))
    (n_RestMinder_keep := of_decide_eq_true (saysM_x c 78 (f := x78) rfl))
    (n_RestMinder_most := of_decide_eq_true (saysM_x c 79 (f := x79) rfl))
    (n_RestMinder_span := of_decide_eq_true (saysM_x c 80 (f := x80) rfl))
    (mk_RestMinder := of_decide_eq_true (saysM_x c 81 (f := x81) rfl))
    (kc_RestMinder := of_decide_eq_true (saysM_x c 82 (f := x82) rfl))
    (a_Tree := of_decide_eq_true (saysM_x c 83 (f := x83) rfl))
    (pg_Tree := of_decide_eq_true (saysM_x c 84 (f := x84) rfl))
    (hd_Tree := of_decide_eq_true (saysM_x c 85 (f := x85) rfl))
    (po_Tree := of_decide_eq_true (saysM_x c 86 (f := x86) rfl))
    (sa_Tree := of_decide_eq_true (saysM_x c 87 (f := x87) rfl))
    (n_Tree_shapes := of_decide_eq_true (saysM_x c 88 (f := x88) rfl))
    (n_Tree_elders := of_decide_eq_true (saysM_x c 89 (f := x89) rfl))
    (n_Tree_young := of_decide_eq_true (saysM_x c 90 (f := x90) rfl))
    (n_Tree_known := of_decide_eq_true (saysM_x c 91 (f := x91) rfl))
    (mk_Tree := of_decide_eq_true (saysM_x c 92 (f := x92) rfl))
    (kc_Tree := of_decide_eq_true (saysM_x c 93 (f := x93) rfl))
    (mg_SIGNS := mg_SIGNS)
    (mg_BOUND := mg_BOUND)
    (mg_DEEPEST := mg_DEEPEST)
    (a_KEEPS := of_decide_eq_true (saysM_x c 97 (f := x97) rfl))
    (sq_KEEPS := fun H => He.tupB_ok (saysM_x c 98 (f := x98) rfl) H)
    (a_fit_name := of_decide_eq_true (saysM_x c 99 (f := x99) rfl))
    (a_number_in := of_decide_eq_true (saysM_x c 100 (f := x100) rfl))
    (a_Shape___init__ := of_decide_eq_true (saysM_x c 101 (f := x101) rfl))
    (i_Shape_init := of_decide_eq_true (saysM_x c 102 (f := x102) rfl))
    (a_Shape_leaf := of_decide_eq_true (saysM_x c 103 (f := x103) rfl))
    (i_Shape_leaf := of_decide_eq_true (saysM_x c 104 (f := x104) rfl))
    (a_Leaf___init__ := of_decide_eq_true (saysM_x c 105 (f := x105) rfl))
    (i_Leaf_init := of_decide_eq_true (saysM_x c 106 (f := x106) rfl))
    (a_Leaf_leaf := of_decide_eq_true (saysM_x c 107 (f := x107) rfl))
    (i_Leaf_leaf := of_decide_eq_true (saysM_x c 108 (f := x108) rfl))
    (a_Leaf_work := of_decide_eq_true (saysM_x c 109 (f := x109) rfl))
    (i_Leaf_work := of_decide_eq_true (saysM_x c 110 (f := x110) rfl))
    (a_Leaf_words := of_decide_eq_true (saysM_x c 111 (f := x111) rfl))
    (i_Leaf_words := of_decide_eq_true (saysM_x c 112 (f := x112) rfl))
    (a_Steady___init__ := of_decide_eq_true (saysM_x c 113 (f := x113) rfl))
    (i_Steady_init := of_decide_eq_true (saysM_x c 114 (f := x114) rfl))
    (a_Steady_work := of_decide_eq_true (saysM_x c 115 (f := x115) rfl))
    (i_Steady_work := of_decide_eq_true (saysM_x c 116 (f := x116) rfl))
    (a_Faller___init__ := of_decide_eq_true (saysM_x c 117 (f := x117) rfl))
    (i_Faller_init := of_decide_eq_true (saysM_x c 118 (f := x118) rfl))
    (a_Faller_work := of_decide_eq_true (saysM_x c 119 (f := x119) rfl))
    (i_Faller_work := of_decide_eq_true (saysM_x c 120 (f := x120) rfl))
    (a_Minder___init__ := of_decide_eq_true (saysM_x c 121 (f := x121) rfl))
    (i_Minder_init := of_decide_eq_true (saysM_x c 122 (f := x122) rfl))
    (a_Minder_way := of_decide_eq_true (saysM_x c 123 (f := x123) rfl))
    (i_Minder_way := of_decide_eq_true (saysM_x c 124 (f := x124) rfl))
    (a_Minder_words := of_decide_eq_true (saysM_x c 125 (f := x125) rfl))
    (i_Minder_words := of_decide_eq_true (saysM_x c 126 (f := x126) rfl))
    (a_AllMinder_way := of_decide_eq_true (saysM_x c 127 (f := x127) rfl))
    (i_AllMinder_way := of_decide_eq_true (saysM_x c 128 (f := x128) rfl))
    (a_RestMinder_way := of_decide_eq_true (saysM_x c 129 (f := x129) rfl))
    (i_RestMinder_way := of_decide_eq_true (saysM_x c 130 (f := x130) rfl))
    (a_Tree___init__ := of_decide_eq_true (saysM_x c 131 (f := x131) rfl))
    (i_Tree_init := of_decide_eq_true (saysM_x c 132 (f := x132) rfl))
    (a_Tree_add := of_decide_eq_true (saysM_x c 133 (f := x133) rfl))
    (i_Tree_add := of_decide_eq_true (saysM_x c 134 (f := x134) rfl))
    (a_Tree_find := of_decide_eq_true (saysM_x c 135 (f := x135) rfl))
    (i_Tree_find := of_decide_eq_true (saysM_x c 136 (f := x136) rfl))
    (a_Tree_names := of_decide_eq_true (saysM_x c 137 (f := x137) rfl))
    (i_Tree_names := of_decide_eq_true (saysM_x c 138 (f := x138) rfl))
    (a_Tree_depth := of_decide_eq_true (saysM_x c 139 (f := x139) rfl))
    (i_Tree_depth := of_decide_eq_true (saysM_x c 140 (f := x140) rfl))
    (a_leaf_by := of_decide_eq_true (saysM_x c 141 (f := x141) rfl))
    (a_minder_by := of_decide_eq_true (saysM_x c 142 (f := x142) rfl))
    (a_shape_by := of_decide_eq_true (saysM_x c 143 (f := x143) rfl))
    (a_elder_at := of_decide_eq_true (saysM_x c 144 (f := x144) rfl))
    (a_read := of_decide_eq_true (saysM_x c 145 (f := x145) rfl))
    (a_written := of_decide_eq_true (saysM_x c 146 (f := x146) rfl))
    (a_law_cell_at := of_decide_eq_true (saysM_x c 147 (f := x147) rfl))
    (a_law_name := of_decide_eq_true (saysM_x c 148 (f := x148) rfl))
    (a_law_minder_words := of_decide_eq_true (saysM_x c 149 (f := x149) rfl))
    (a_law_leaf_words := of_decide_eq_true (saysM_x c 150 (f := x150) rfl))
    (a_law_tree := of_decide_eq_true (saysM_x c 151 (f := x151) rfl))
    (a_law_texts := of_decide_eq_true (saysM_x c 152 (f := x152) rfl))
    (a_law_row := of_decide_eq_true (saysM_x c 153 (f := x153) rfl))
    (a_law := of_decide_eq_true (saysM_x c 154 (f := x154) rfl))
    (rd_Shape := of_decide_eq_true (saysM_x c 155 (f := x155) rfl))
    (ga_Shape := of_decide_eq_true (saysM_x c 156 (f := x156) rfl))
    (fc_Shape___init__ := fcB_ok (saysM_x c 157 (f := x157) rfl))
    (rd_Leaf := of_decide_eq_true (saysM_x c 158 (f := x158) rfl))
    (ga_Leaf := of_decide_eq_true (saysM_x c 159 (f := x159) rfl))
    (fc_Leaf___init__ := fcB_ok (saysM_x c 160 (f := x160) rfl))
    (a_AllMinder___init__ := of_decide_eq_true (saysM_x c 161 (f := x161) rfl))
    (a_RestMinder___init__ := of_decide_eq_true (saysM_x c 162 (f := x162) rfl))
    (a_Steady_leaf := of_decide_eq_true (saysM_x c 163 (f := x163) rfl))
    (a_Faller_leaf := of_decide_eq_true (saysM_x c 164 (f := x164) rfl))
    (a_Minder_leaf := of_decide_eq_true (saysM_x c 165 (f := x165) rfl))
    (a_AllMinder_leaf := of_decide_eq_true (saysM_x c 166 (f := x166) rfl))
    (a_RestMinder_leaf := of_decide_eq_true (saysM_x c 167 (f := x167) rfl))
    (a_Steady_words := of_decide_eq_true (saysM_x c 168 (f := x168) rfl))
    (a_Faller_words := of_decide_eq_true (saysM_x c 169 (f := x169) rfl))
    (a_AllMinder_words := of_decide_eq_true (saysM_x c 170 (f := x170) rfl))
    (a_RestMinder_words := of_decide_eq_true (saysM_x c 171 (f := x171) rfl))
    (a_NoName := of_decide_eq_true (saysM_x c 172 (f := x172) rfl))
    (xf_NoName := of_decide_eq_true (saysM_x c 173 (f := x173) rfl))
    (kc_NoName := of_decide_eq_true (saysM_x c 174 (f := x174) rfl))
    (eb_NoName := of_decide_eq_true (saysM_x c 175 (f := x175) rfl))
    (et_NoName := of_decide_eq_true (saysM_x c 176 (f := x176) rfl))
    (a_NoNumber := of_decide_eq_true (saysM_x c 177 (f := x177) rfl))
    (xf_NoNumber := of_decide_eq_true (saysM_x c 178 (f := x178) rfl))
    (kc_NoNumber := of_decide_eq_true (saysM_x c 179 (f := x179) rfl))
    (eb_NoNumber := of_decide_eq_true (saysM_x c 180 (f := x180) rfl))
    (et_NoNumber := of_decide_eq_true (saysM_x c 181 (f := x181) rfl))
    (xm_NoName_NoName := of_decide_eq_true (saysM_x c 182 (f := x182) rfl))
end Mn
open PySem PySem.W PySem.Calls PyProof.Rows
set_option maxRecDepth 100000 in
set_option maxHeartbeats 0 in
theorem PySem.Challenge.cw_minders_k05_trees_read_and_written_holds : PySem.Challenge.rw_minders_k05_trees_read_and_written.Holds := by
  w_on; o_law
  refine HandSHeadRun.head_any (r := OpenLaw.row PySem.Challenge.rw_minders_k05_trees_read_and_written) (q := view (OpenLaw.row PySem.Challenge.rw_minders_k05_trees_read_and_written).prog [40]) (H := Mn.hkM) (ob := Mn.obM) (M := 9000) (loose := Mn.loose) (d := HandSHeadRun.topDef (OpenLaw.row PySem.Challenge.rw_minders_k05_trees_read_and_written).prog 40) (kwd := []) Mn.obM_eq
    (by kernel_rfl) (fun s => by kernel_rfl) Mn.runM (by kernel_rfl) (by kernel_rfl) (by kernel_rfl) (by rfl) (by first | assumption | decide +kernel) (by decide +kernel) ⟨rfl, rfl, rfl, rfl, rfl, by decide +kernel⟩ ?hw ?hc
  case hw => w_witness2
  case hc =>
    refine L2.walk_ofE (l := PySem.Challenge.rw_minders_k05_trees_read_and_written) (n := 63) (k := 9) (x := "_law_script") (CX := L2.CX0) rfl (by decide) (by kernel_rfl) ⟨rfl, by decide, by decide⟩ ?F (fun _ _ _ _ z => z)
    intro w mg fa h Y G hmg0
    obtain ⟨K, KX, c⟩ := Y
    have hmg : mg ("law" : PySem.Str) = some (.ref fa) := by
      have e : (HandSHeadRun.topDef (OpenLaw.row PySem.Challenge.rw_minders_k05_trees_read_and_written).prog 40).name = ("law" : PySem.Str) := by kernel_rfl
      rw [← e]
      exact hmg0
    obtain ⟨fd, hb, hF⟩ := Mn.facts_mk (l := PySem.Challenge.rw_minders_k05_trees_read_and_written) (w := w) KX G hmg c
    exact ⟨K, fd, Mn.spLaw K, KX, hb, fun H a ns hl _ hS => ⟨a, ns, rfl, hS, hl, fun _ => rfl⟩, hF⟩
#print axioms PySem.Challenge.cw_minders_k05_trees_read_and_written_holds
