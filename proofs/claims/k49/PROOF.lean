import PyProof.Rows.All
import Wide.All
import OpenK.AllK
import Wide.FinOn
import KE.KStateDown
import Lean
import HandS.ForMost
import HandS.ForExc
import HandS.Defaults
import HandS.IsInst
import HandS.Flow
import HandS.Style
import HandS.Conv
import HandS.Strs
import HandS.SetKeys
import HandS.DictComp
import HandS.Wide
import HandS.FStr
import HandS.Property
import HandS.ClsMeth
import HandS.ExcInit
import HandS.ExcSuper
import HandS.ExcField
import HandS.TryMany
import HandS.SuiteRaise
import HandS.RaiseFrom
import HandS.HotCalls
import HandS.MakeKw
import HandS.SortInts
import HandS.SortKw
import HandS.TupAny
import HandS.TupLe
import HandS.TupMul
import HandS.Zip
import HandS.Deep
import HandS.DeepEq
import HandS.OwnEq
import HandS.Star
import HandS.MethStar
import HandS.Head0
import HandS.Head1
import HandS.Head2
import HandS.HeadEnd
import HandS.HeadHook1
import HandS.HeadHook2
import HandS.HeadHook3
import HandS.HeadNt
import HandS.Evl
import HandS.Steps
import HandS.RaiseOp
import HandS.Remove
import HandS.SetFor
import HandS.DictTup
import HandS.Walk
import HandS.RaiseMore
import HandS.Small
import HandS.CallLocal
import HandS.Lambda
import HandS.ListEq
import HandS.DictEq
import HandS.SortOrd
import HandS.SortRule
import HandS.ListItems
import HandS.NoneIn
import KE.GoesMore
import KE.KExcSuper
import HandS.Hot
import HandS.ExcIs
import HandS.CallSlots
import HandS.HeadHook4
import HandS.HeadWalk
import HandS.TupLen
import KE.LtData
import KE.KeyNested
import KE.KDictKeyed
import HandS.Zip
import HandS.Set
import HandS.SetFor
import KE.KDictWalk
import KE.KDictCopyH
import KE.KDictList
import HandS.TupLe
import KE.KDictDisplayH
import KE.DataMinMax
import KE.SortData
import KE.SortCalls
import KE.SortKeyed
import PySem.Challenge.RW_termstill_k49_fillings_of_unsure_occasio
set_option Elab.async false
set_option linter.all false
set_option maxRecDepth 100000
set_option maxHeartbeats 4000000
/-! Part 0: a Hook with a further test of one's own, and short words for the head. -/
namespace Tm
open PySem PySem.Spec PyProof.Rows L2
/-- the j-th default of the def at f, an object -/
def emptyDfl (f : PySem.W.Frag → Addr) (j : Nat) (K : PySem.W.Frag) : Addr :=
  match K.lookup (f K) with
  | some ⟨_, _, .func fd, _⟩ =>
    match fd.defaults with
    | .ref T =>
      match K.lookup T with
      | some ⟨_, _, .seq its _, _⟩ =>
        match its.toList[j]? with
        | some (.ref a) => a
        | _ => 0
      | _ => 0
    | _ => 0
  | _ => 0
/-- what stands at a is a tuple of these -/
def tupAtB (K : PySem.W.Frag) (a : Addr) (vs : List V) : Bool :=
  match K.lookup a with
  | some ⟨.type c, _, .seq its _, _⟩ => decide (c = "tuple") && (decide (its.size ≤ sizeLine) && He.relAll vs its.toList)
  | _ => false
theorem tupAtB_ok {K : PySem.W.Frag} {a : Addr} {vs : List V} (h : tupAtB K a vs = true) (H : Hp) : SqT K H a vs := by
  unfold tupAtB at h
  cases q : K.lookup a with
  | none => rw [q] at h; cases h
  | some o =>
    obtain ⟨oc, od, dt, osl⟩ := o
    rw [q] at h
    cases oc with
    | type c =>
      cases dt with
      | seq its n =>
        have h' := h
        simp only [Bool.and_eq_true, decide_eq_true_eq] at h'
        obtain ⟨h1, h3, h4⟩ := h'
        exact .inr ⟨_, its, n, q, congrArg Value.type h1, rfl, h3, He.relAll_ok h4⟩
      | _ => cases h
    | _ => cases dt <;> cases h
abbrev Al := (Bool × (Bool × List He.FnW)) × List (Option (List (Option (Str × Int))))
def obsM (fa : List He.Fa) (ex : PySem.W.Frag → Bool) (fn : List He5.DefA) (ts : List He.Tab) (K : PySem.W.Frag) : Al :=
  ((ex K, He5.obsA fa fn K), ts.map fun t => He.dicW K (t.1 K))
def valM (fn : List He5.DefA) (ts : List He.Tab) (w : World) : Al := ((true, He5.valA fn), ts.map fun t => some (He.keysIn w.params t.2))
def SaysM (fa : List He.Fa) (ex : PySem.W.Frag → Bool) (fn : List He5.DefA) (ts : List He.Tab) (w : World) (K : PySem.W.Frag) : Prop :=
  obsM fa ex fn ts K = valM fn ts w
section
variable {fa : List He.Fa} {ext : PySem.W.Frag → Bool} {fn : List He5.DefA} {ts : List He.Tab} {w : World} {K : PySem.W.Frag}
theorem SaysM.ex (c : SaysM fa ext fn ts w K) : ext K = true := congrArg (fun z : Al => z.1.1) c
theorem SaysM.a (c : SaysM fa ext fn ts w K) : He5.SaysA fa fn K := congrArg (fun z : Al => z.1.2) c
end
end Tm

/-! NLam: what is known of lambdas: their objects, their tables of code objects -/
namespace Tm
open PySem PySem.Spec PyProof.Rows L2
/-- the defs of the top that make a lambda each, and the lambdas' parameters, bodies and scopes (a law that has none: none) -/
def lamDefs : List Str := []
def lamX : List (Arguments × Expr × Scope) := []
/-- the name of the k-th lambda -/
def lamQ (k : Nat) : Str := lamDefs.getD k "" ++ ".<locals>.<lambda>"
/-- the code object of the k-th def that makes a lambda, and its table -/
def codC (K : PySem.W.Frag) (k : Nat) : Addr := He.codeOf K (lamDefs.getD k "", none)
def tabP (K : PySem.W.Frag) (k : Nat) : Addr := He.tabOf K (codC K k)
/-- the k-th lambda's object, its code object at c -/
def lamO (k : Nat) (a c : Addr) : HO := .ext fun h => ∃ p b s, lamX[k]? = some (p, b, s) ∧ ∃ pm ctv, h.get? a = some (PySem.W.kla_obj "<lambda>" (lamQ k) p b s [] pm c ctv)
end Tm

/-! Part 0b: tests that a head asks. -/
namespace Tm
open PySem PySem.Spec PyProof.Rows L2
def ownB (K : PySem.W.Frag) (C : Addr) : Bool :=
  He.eqO (PySem.W.findIn K (.ref C) "__class__") (some (some (.builtin "object.__class__"))) &&
  (He.eqO (PySem.W.specialIn K (.builtin "object.__class__") "__get__") (some (some (.builtin "getset_descriptor.__get__"))) &&
  (decide (PySem.W.takesIn K (.builtin "object.__class__") = some true) && (decide (PySem.W.mroIn K C (.type "object") = some true) &&
  (["int", "bool", "str", "list", "tuple"].all fun n => decide (PySem.W.kitOne K (.ref C) (.type n) = some false)))))
/-- of the built-in types none is below the own class D -/
def bltB (K : PySem.W.Frag) (D : Addr) : Bool := ["int", "bool", "str", "NoneType", "list", "tuple"].all fun n => decide (PySem.W.kitOne K (.type n) (.ref D) = some false)
def subB (K : PySem.W.Frag) (C D : Addr) (b : Bool) : Bool := decide (PySem.W.kitOne K (.ref C) (.ref D) = some b)
end Tm

/-! Part 0c: the law's own run where nothing is under way. -/
namespace Tm
open PySem PySem.Spec PyProof.Rows L2
section
variable {CX : CXT} {P : Program} {w : World} {K : PySem.W.Frag} {mg : Str → Option Value} {base : Heap} {k : Nat} {f : Addr} {x qual : Str} {params : Arguments} {body : List Stmt} {scope : Scope} {dvs : List V} {kws : List (Str × V)} {fd : FuncData} {N ps : List Str}
end
end Tm

namespace Tm
open PySem PySem.Spec PyProof.Rows L2
def top (i : Nat) : Stmt := PySem.Challenge.pw_termstill_k49_fillings_of_unsure_occasio.main.body.getD i (.Pass ⟨0, 0, 0, 0⟩)
abbrev s_is_integer : Stmt := top 12
abbrev s_is_number : Stmt := top 13
abbrev s_is_length : Stmt := top 14
abbrev s_is_name : Stmt := top 15
abbrev s_is_sequence : Stmt := top 16
abbrev s_is_occasion : Stmt := top 19
abbrev s_need_occasions : Stmt := top 20
abbrev s_Story___init__ : Stmt := inClass (top 22) 0
abbrev s_is_unsure : Stmt := top 24
abbrev s_Unsure___init__ : Stmt := inClass (top 25) 0
abbrev s_choices : Stmt := top 26
abbrev s_filled : Stmt := top 27
abbrev s_fillings : Stmt := top 28
abbrev s__law_deal : Stmt := top 30
abbrev s__law_draw : Stmt := top 31
abbrev s__law_pick : Stmt := top 32
abbrev s__law_mixed : Stmt := top 33
abbrev s__law_names : Stmt := top 34
abbrev s__law_kind : Stmt := top 35
abbrev s__law_rule : Stmt := top 36
abbrev s__law_unsure : Stmt := top 37
abbrev s__law_choices : Stmt := top 38
abbrev s__law_filled : Stmt := top 39
abbrev s_law : Stmt := top 40
def d_is_integer : He5.DefA := ⟨fun K => He.ga K "is_integer", "is_integer", "is_integer", defArgs s_is_integer, defBody s_is_integer, defScope s_is_integer, [], []⟩
def d_is_number : He5.DefA := ⟨fun K => He.ga K "is_number", "is_number", "is_number", defArgs s_is_number, defBody s_is_number, defScope s_is_number, [], []⟩
def d_is_length : He5.DefA := ⟨fun K => He.ga K "is_length", "is_length", "is_length", defArgs s_is_length, defBody s_is_length, defScope s_is_length, [], []⟩
def d_is_name : He5.DefA := ⟨fun K => He.ga K "is_name", "is_name", "is_name", defArgs s_is_name, defBody s_is_name, defScope s_is_name, [], []⟩
def d_is_sequence : He5.DefA := ⟨fun K => He.ga K "is_sequence", "is_sequence", "is_sequence", defArgs s_is_sequence, defBody s_is_sequence, defScope s_is_sequence, [], []⟩
def d_is_occasion : He5.DefA := ⟨fun K => He.ga K "is_occasion", "is_occasion", "is_occasion", defArgs s_is_occasion, defBody s_is_occasion, defScope s_is_occasion, [], []⟩
def d_need_occasions : He5.DefA := ⟨fun K => He.ga K "need_occasions", "need_occasions", "need_occasions", defArgs s_need_occasions, defBody s_need_occasions, defScope s_need_occasions, [], []⟩
def d_Story___init__ : He5.DefA := ⟨fun K => He.ma K (He.ga K "Story") "__init__", "__init__", "Story.__init__", defArgs s_Story___init__, defBody s_Story___init__, defScope s_Story___init__, [.adr (emptyDfl (fun K => He.ma K (He.ga K "Story") "__init__") 0)], []⟩
def d_is_unsure : He5.DefA := ⟨fun K => He.ga K "is_unsure", "is_unsure", "is_unsure", defArgs s_is_unsure, defBody s_is_unsure, defScope s_is_unsure, [], []⟩
def d_Unsure___init__ : He5.DefA := ⟨fun K => He.ma K (He.ga K "Unsure") "__init__", "__init__", "Unsure.__init__", defArgs s_Unsure___init__, defBody s_Unsure___init__, defScope s_Unsure___init__, [], []⟩
def d_choices : He5.DefA := ⟨fun K => He.ga K "choices", "choices", "choices", defArgs s_choices, defBody s_choices, defScope s_choices, [], []⟩
def d_filled : He5.DefA := ⟨fun K => He.ga K "filled", "filled", "filled", defArgs s_filled, defBody s_filled, defScope s_filled, [], []⟩
def d_fillings : He5.DefA := ⟨fun K => He.ga K "fillings", "fillings", "fillings", defArgs s_fillings, defBody s_fillings, defScope s_fillings, [], []⟩
def d__law_deal : He5.DefA := ⟨fun K => He.ga K "_law_deal", "_law_deal", "_law_deal", defArgs s__law_deal, defBody s__law_deal, defScope s__law_deal, [], []⟩
def d__law_draw : He5.DefA := ⟨fun K => He.ga K "_law_draw", "_law_draw", "_law_draw", defArgs s__law_draw, defBody s__law_draw, defScope s__law_draw, [], []⟩
def d__law_pick : He5.DefA := ⟨fun K => He.ga K "_law_pick", "_law_pick", "_law_pick", defArgs s__law_pick, defBody s__law_pick, defScope s__law_pick, [], []⟩
def d__law_mixed : He5.DefA := ⟨fun K => He.ga K "_law_mixed", "_law_mixed", "_law_mixed", defArgs s__law_mixed, defBody s__law_mixed, defScope s__law_mixed, [], []⟩
def d__law_names : He5.DefA := ⟨fun K => He.ga K "_law_names", "_law_names", "_law_names", defArgs s__law_names, defBody s__law_names, defScope s__law_names, [], []⟩
def d__law_kind : He5.DefA := ⟨fun K => He.ga K "_law_kind", "_law_kind", "_law_kind", defArgs s__law_kind, defBody s__law_kind, defScope s__law_kind, [], []⟩
def d__law_rule : He5.DefA := ⟨fun K => He.ga K "_law_rule", "_law_rule", "_law_rule", defArgs s__law_rule, defBody s__law_rule, defScope s__law_rule, [], []⟩
def d__law_unsure : He5.DefA := ⟨fun K => He.ga K "_law_unsure", "_law_unsure", "_law_unsure", defArgs s__law_unsure, defBody s__law_unsure, defScope s__law_unsure, [], []⟩
def d__law_choices : He5.DefA := ⟨fun K => He.ga K "_law_choices", "_law_choices", "_law_choices", defArgs s__law_choices, defBody s__law_choices, defScope s__law_choices, [], []⟩
def d__law_filled : He5.DefA := ⟨fun K => He.ga K "_law_filled", "_law_filled", "_law_filled", defArgs s__law_filled, defBody s__law_filled, defScope s__law_filled, [], []⟩
def d_law : He5.DefA := ⟨fun K => He.ga K "law", "law", "law", defArgs s_law, defBody s_law, defScope s_law, [], []⟩
def fn : List He5.DefA := [d_is_integer, d_is_number, d_is_length, d_is_name, d_is_sequence, d_is_occasion, d_need_occasions, d_Story___init__, d_is_unsure, d_Unsure___init__, d_choices, d_filled, d_fillings, d__law_deal, d__law_draw, d__law_pick, d__law_mixed, d__law_names, d__law_kind, d__law_rule, d__law_unsure, d__law_choices, d__law_filled, d_law]
def fa : List He.Fa := ([.glo "law", .free "isinstance", .free "int", .free "bool", .glo "is_integer", .free "all", .glo "BARRED", .free "str", .int "MOST_LETTERS" 4, .str "LETTERS" "abcdefghijklmnopqrstuvwxyz", .free "len", .free "list", .free "tuple", .glo "is_number", .glo "is_name", .glo "is_length", .free "enumerate", .glo "is_sequence", .glo "InvalidStory", .glo "is_occasion"] : List He.Fa) ++ ([.glo "need_occasions", .glo "InvalidUnsure", .glo "is_unsure", .free "range", .free "sorted", .glo "Story", .glo "choices", .glo "filled", .free "abs", .glo "_law_draw", .glo "_law_mixed", .glo "_law_pick", .glo "_law_names", .glo "_law_kind", .free "min", .free "set", .free "zip", .glo "_law_deal", .glo "_law_rule", .glo "_law_unsure"] : List He.Fa) ++ ([.glo "_law_choices", .glo "fillings", .glo "Unsure", .glo "_law_filled", .cls "Story", .mkr "Story", .noat "Story" "occasions", .meth "Story" "__init__", .cls "Unsure", .mkr "Unsure", .noat "Unsure" "occasions", .meth "Unsure" "__init__"] : List He.Fa)
def exs : List (PySem.W.Frag → Bool) := [fun K => tupAtB K (emptyDfl (fun K => He.ma K (He.ga K "Story") "__init__") 0 K) [], fun K => tupAtB K (He.ga K "BARRED") [.str "any", .str "none", .str "anew", .str "lift", .str "term"], fun K => ownB K (He.ga K "Story"), fun K => ownB K (He.ga K "Unsure"), fun K => bltB K (He.ga K "Story"), fun K => subB K (He.ga K "Story") (He.ga K "Story") true, fun K => subB K (He.ga K "Unsure") (He.ga K "Story") false]
def ex (K : PySem.W.Frag) : Bool := exs.all fun t => t K
def tabs : List He.Tab := []
end Tm

/-! Part 0c: the head's fragment found level by level, each object once (a Nat as the set of those seen), its addresses written out: the head's run needs a third of the memory. -/
namespace Tm
open PySem PySem.Spec PyProof.Rows L2
/-- of these the new ones, in their order -/
def newA : List Addr → Nat → List Addr → Nat × List Addr
  | [], m, acc => (m, acc.reverse)
  | a :: r, m, acc => HandSHeadRun.frNat a fun a => match Nat.beq (Nat.land (Nat.shiftRight m a) 1) 1 with
    | true => newA r m acc
    | false => HandSHeadRun.frNat (Nat.lor m (Nat.shiftLeft 1 a)) fun m => newA r m (a :: acc)
def levA (g : Addr → Option Obj) : Nat → List Addr → Nat → List Addr
  | 0, fr, _ => fr
  | n + 1, fr, m => match newA (fr.flatMap fun a => match g a with
      | some o => He.refsD o
      | none => []) m [] with
    | (m, new) => fr ++ levA g n new m
/-- what the module's names reach in n steps, and the statics -/
def asW (g : Addr → Option Obj) (n : Nat) : List Addr := levA g n [mainGlobals] (Nat.shiftLeft 1 mainGlobals) ++ [cStatics]
def frK {α : Type} : PySem.W.Frag → (PySem.W.Frag → α) → α
  | [], k => k []
  | (a, o) :: r, k => HandSHeadRun.frNat a fun a => frK r fun r => k ((a, o) :: r)
theorem frK_eq {α : Type} : ∀ (K : PySem.W.Frag) (k : PySem.W.Frag → α), frK K k = k K
  | [], k => rfl
  | (a, o) :: r, k => by
    show (HandSHeadRun.frNat a fun a => frK r fun r => k ((a, o) :: r)) = _
    rw [HandSHeadRun.frNat_eq, frK_eq]
def hookW (n : Nat) (fa : List He.Fa) (ex : PySem.W.Frag → Bool) (fn : List He5.DefA) (ts : List He.Tab) : PySem.W.Hook where
  α := Al
  obs := fun s => obsM fa ex fn ts (He.frG s.heap.get? (asW s.heap.get? n))
  val := fun w => valM fn ts w
  says := fun w h => ∃ K : PySem.W.Frag, K.In h ∧ SaysM fa ex fn ts w K
  of := fun _ _ e => ⟨_, He.frG_in, e⟩
  keeps := fun _ _ _ ⟨K, hK, c⟩ k => ⟨K, hK.keeps k, c⟩
def obW (n : Nat) (fa : List He.Fa) (ex : PySem.W.Frag → Bool) (fn : List He5.DefA) (ts : List He.Tab) (s : PySem.W.SharedT) : Al :=
  frK (He.frG (HandSHeadRun.getT s) (asW (HandSHeadRun.getT s) n)) (obsM fa ex fn ts)
theorem obW_eq {n : Nat} {fa : List He.Fa} {ex : PySem.W.Frag → Bool} {fn : List He5.DefA} {ts : List He.Tab} (s : PySem.W.SharedT) :
    obW n fa ex fn ts s = (hookW n fa ex fn ts).obs s.abs := by
  have e : HandSHeadRun.getT s = s.abs.heap.get? := funext (HandSHeadRun.getT_eq s)
  unfold obW
  rw [frK_eq, e]
  rfl
end Tm
namespace Tm
open PySem PySem.W PySem.Calls PyProof.Rows
abbrev R : PySem.W.OpenRow := PySem.W.OpenLaw.row PySem.Challenge.rw_termstill_k49_fillings_of_unsure_occasio
def nms : List Str := (["_wall", "__name__", "TermError", "InvalidStory", "InvalidUnsure", "InvalidText", "BARRED", "LETTERS", "SIGNS", "MOST_LETTERS", "MOST_SIGNS", "is_integer", "is_number", "is_length", "is_name", "is_sequence", "number_in", "is_occasion", "need_occasions", "occasion_in"] : List Str) ++ (["Story", "is_unsure", "Unsure", "choices", "filled", "fillings", "_law_deal", "_law_draw", "_law_pick", "_law_mixed", "_law_names", "_law_kind", "_law_rule", "_law_unsure", "_law_choices", "_law_filled"] : List Str)
theorem run_false (w : World) : HandSHeadRun.RunEq R (PySem.W.view R.prog [40]) (hookW 7 fa ex fn tabs) (obW 7 fa ex fn tabs) 12000 nms (w.withFollow "special-get-raises" false) := by
  intro os
  kernel_rfl
theorem run_true (w : World) : HandSHeadRun.RunEq R (PySem.W.view R.prog [40]) (hookW 7 fa ex fn tabs) (obW 7 fa ex fn tabs) 12000 nms (w.withFollow "special-get-raises" true) := by
  intro os
  kernel_rfl
theorem run (w : World) : HandSHeadRun.RunEq R (PySem.W.view R.prog [40]) (hookW 7 fa ex fn tabs) (obW 7 fa ex fn tabs) 12000 nms w :=
  PySem.W.byRow2 "special-get-raises" (P := fun w => HandSHeadRun.RunEq R (PySem.W.view R.prog [40]) (hookW 7 fa ex fn tabs) (obW 7 fa ex fn tabs) 12000 nms w) run_false run_true w
set_option maxRecDepth 100000 in
set_option maxHeartbeats 0 in
/-- the head: what is left is what the law's def keeps -/
theorem holds_if (F : ∀ (w : World) (mg : PySem.Str → Option Value) (fa : Addr) (h : Heap), (Hook.says (Tm.hookW 7 Tm.fa Tm.ex Tm.fn Tm.tabs)) w h → h.Ns mainGlobals mg → mg ("law" : PySem.Str) = some (.ref fa) → ∃ (K : PySem.W.Frag) (fd : FuncData) (sp : L2.Sp), K.In h ∧ (∀ (s : Shared) (u : Value), BindsTo s fd ⟨[u], []⟩ [(("_law_script" : PySem.Str), u)]) ∧ (∀ (H : L2.Hp) (a : Addr) (ns : List Int), ns.length ≤ 63 → L2.Only H → L2.SqL K H a (ns.map L2.V.int) → sp [.ref a] H (fun v _ => v = .bl true) fun _ _ _ => False) ∧ ∀ base : Heap, K.In base → base.Ns mainGlobals mg → L2.FnOk (PySem.Challenge.rw_termstill_k49_fillings_of_unsure_occasio).prog w K mg base L2.CX0 30 fa fd [("_law_script" : PySem.Str)] sp) : PySem.Challenge.rw_termstill_k49_fillings_of_unsure_occasio.Holds := by
  w_on; o_law
  refine HandSHeadRun.head_any (r := Tm.R) (q := view Tm.R.prog [40]) (H := Tm.hookW 7 Tm.fa Tm.ex Tm.fn Tm.tabs) (ob := Tm.obW 7 Tm.fa Tm.ex Tm.fn Tm.tabs) (M := 12000) (loose := Tm.nms) (d := HandSHeadRun.topDef Tm.R.prog 40) (kwd := []) Tm.obW_eq
    (by kernel_rfl) (fun s => by kernel_rfl) Tm.run (by kernel_rfl) (by kernel_rfl) (by kernel_rfl) (by rfl) (by first | assumption | decide +kernel) (by decide +kernel) ⟨rfl, rfl, rfl, rfl, rfl, by decide +kernel⟩ ?hw ?hc
  case hw => w_witness2
  case hc =>
    refine L2.walk_ofE (l := PySem.Challenge.rw_termstill_k49_fillings_of_unsure_occasio) (n := 63) (k := 30) (x := "_law_script") (CX := L2.CX0) rfl (by decide) (by kernel_rfl) ⟨rfl, by decide, by decide⟩ ?F (fun _ _ _ _ z => z)
    intro w mg fa h Y G hm0
    have e : (HandSHeadRun.topDef Tm.R.prog 40).name = ("law" : PySem.Str) := by kernel_rfl
    have hm : mg ("law" : PySem.Str) = some (.ref fa) := by
      rw [← e]
      exact hm0
    exact F w mg fa h Y G hm
end Tm

/-! Part 1: a def and how it is called, as one fact; short rules. -/
namespace Tm
open PySem PySem.Spec PyProof.Rows L2
theorem bt_len : bootBuiltins "len" = some (.builtin "len") := by decide +kernel
theorem bt_abs : bootBuiltins "abs" = some (.builtin "abs") := by decide +kernel
theorem bt_all : bootBuiltins "all" = some (.builtin "all") := by decide +kernel
theorem bt_min : bootBuiltins "min" = some (.builtin "min") := by decide +kernel
theorem bt_sorted : bootBuiltins "sorted" = some (.builtin "sorted") := by decide +kernel
theorem bt_isinstance : bootBuiltins "isinstance" = some (.builtin "isinstance") := by decide +kernel
theorem bt_int : bootBuiltins "int" = some (.type "int") := by decide +kernel
theorem bt_bool : bootBuiltins "bool" = some (.type "bool") := by decide +kernel
theorem bt_str : bootBuiltins "str" = some (.type "str") := by decide +kernel
theorem bt_list : bootBuiltins "list" = some (.type "list") := by decide +kernel
theorem bt_tuple : bootBuiltins "tuple" = some (.type "tuple") := by decide +kernel
/-- the def at f keeps sp; called with the last parameters left to the defaults dvs -/
structure Dn (P : Program) (w : World) (K : PySem.W.Frag) (mg : Str → Option Value) (base : Heap) (CX : CXT) (k : Nat) (f : Addr) (dvs : List V) (sp : Sp) : Prop where
  ex : ∃ (fd : FuncData) (ps : List Str) (ds : List Value), FnOk P w K mg base CX k f fd ps sp ∧ PySem.W.keepIn K (.ref f) = true ∧ Vals dvs ds ∧ Binds K fd ps ds
section
variable {P : Program} {w : World} {K : PySem.W.Frag} {mg : Str → Option Value} {base : Heap} {CX : CXT} {k : Nat} {f : Addr} {sp : Sp} {dvs : List V}
theorem Dn.imp {sp' : Sp} (D : Dn P w K mg base CX k f dvs sp) (h : ∀ vs H Q E, sp' vs H Q E → sp vs H Q E) : Dn P w K mg base CX k f dvs sp' := by
  obtain ⟨fd, ps, ds, F, a, b, c⟩ := D.ex
  exact ⟨fd, ps, ds, F.imp h, a, b, c⟩
theorem Dn.mono {j : Nat} (D : Dn P w K mg base CX j f dvs sp) (h : j ≤ k) : Dn P w K mg base CX k f dvs sp := by
  obtain ⟨fd, ps, ds, F, a, b, c⟩ := D.ex
  exact ⟨fd, ps, ds, F.mono h, a, b, c⟩
/-- a def without defaults -/
theorem dn_of {x qual : Str} {params : Arguments} {body : List Stmt} {scope : Scope} {ps : List Str} (F : ∃ fd, FunD K x qual params body scope [] [] f fd)
    (h : ∀ fd, FunD K x qual params body scope [] [] f fd → FnOk P w K mg base CX k f fd ps sp)
    (hb : ∀ (kV doc pm : Value) (an : Option Addr) (cdv ct : Value) (us : List Value), us.length = ps.length → bindArgs (PySem.W.fnOf x qual params body scope .none kV doc pm an cdv ct) ⟨us, []⟩ = pure (ps.zip us)) :
    Dn P w K mg base CX k f [] sp := by
  obtain ⟨fd, F⟩ := F
  exact ⟨fd, ps, [], h fd F, F.kp, .nil, F.bindsN hb⟩
/-- a def with defaults: n arguments are written, the defaults behind the first j fill up -/
theorem dn_dfl {x qual : Str} {params : Arguments} {body : List Stmt} {scope : Scope} {ps : List Str} {all : List V} (n j : Nat) (F : ∃ fd, FunD K x qual params body scope all [] f fd) (hd : all ≠ []) (hn : n + (all.length - j) = ps.length)
    (h : ∀ fd, FunD K x qual params body scope all [] f fd → FnOk P w K mg base CX k f fd ps sp)
    (hb : ∀ (T : Addr) (kV doc pm : Value) (an : Option Addr) (cdv ct : Value) (us its : List Value), us.length = n → its.length = all.length →
      ∃ g, bindArgs (PySem.W.fnOf x qual params body scope (.ref T) kV doc pm an cdv ct) ⟨us, []⟩ = seqItems? (.ref T) >>= g ∧ g (some its.toArray) = pure (ps.zip (us ++ its.drop j))) :
    Dn P w K mg base CX k f (all.drop j) sp := by
  obtain ⟨fd, F⟩ := F
  obtain ⟨ds, r, b⟩ := F.binds1 n j hd hn hb
  exact ⟨fd, ps, ds, h fd F, F.kp, r, b⟩
end
section
variable {X : Cx} {CX : CXT} {k : Nat} {f C : Addr} {sp : Sp} {dvs : List V} {E : XK} {x m : Str} {p pos apos : Pos} {e o : Expr} {es : List Expr} {ta : TE} {t : TA}
/-- module's constants and built-in types as values -/
theorem pe_gi {i : Int} (hm : ∃ u, X.mg x = some (.int i u)) (hg : Gl X x := by rfl) (hd : (x == ("__debug__" : Str)) = false := by decide) : PE X (.Name x pos) (tC (.int i)) := by
  obtain ⟨u, e⟩ := hm
  exact pe_glob hg e ⟨_, rfl⟩ hd
theorem pe_gs {z : Str} (hm : ∃ u, X.mg x = some (.str z u)) (hg : Gl X x := by rfl) (hd : (x == ("__debug__" : Str)) = false := by decide) : PE X (.Name x pos) (tC (.str z)) := by
  obtain ⟨u, e⟩ := hm
  exact pe_glob hg e ⟨_, rfl⟩ hd
theorem pe_gr {a : Addr} (hm : X.mg x = some (.ref a)) (hg : Gl X x := by rfl) (hd : (x == ("__debug__" : Str)) = false := by decide) : PE X (.Name x pos) (tC (.ref a)) := pe_glob hg hm rfl hd
theorem pe_ty {n : String} (hm : X.mg x = none) (hv : bootBuiltins x = some (.type n)) (hg : Gl X x := by rfl) (hn : x ≠ "__name__" := by decide) (hd : (x == ("__debug__" : Str)) = false := by decide) : PE X (.Name x pos) (tC (.ty n)) :=
  pe_bltn hg hm hv rfl hn hd
end
end Tm

/-! Part 2: the types of values, heaps that grow, comprehensions that make a new list. -/
namespace Tm
open PySem PySem.Spec PyProof.Rows L2
/-- what isinstance says of a type and one of five built-in ones -/
def kb (t : Value) (n : String) : Bool := decide (t = .type n) || (decide (t = .type "bool") && decide (n = "int"))
structure Typ (K : PySem.W.Frag) (H : Hp) (x : V) (t : Value) : Prop where
  ty : TyX K H x t
  kit : ∀ n, n = "int" ∨ n = "bool" ∨ n = "str" ∨ n = "list" ∨ n = "tuple" → PySem.W.kitOne K t (.type n) = some (kb t n)
section
variable {K : PySem.W.Frag} {H : Hp}
theorem kit_b {s : String} (h1 : kitB s "int" = some (kb (.type s) "int")) (h2 : kitB s "bool" = some (kb (.type s) "bool")) (h3 : kitB s "str" = some (kb (.type s) "str")) (h4 : kitB s "list" = some (kb (.type s) "list"))
    (h5 : kitB s "tuple" = some (kb (.type s) "tuple")) : ∀ n, n = "int" ∨ n = "bool" ∨ n = "str" ∨ n = "list" ∨ n = "tuple" → PySem.W.kitOne K (.type s) (.type n) = some (kb (.type s) n) := by
  rintro n (rfl | rfl | rfl | rfl | rfl)
  · exact kit_ty h1
  · exact kit_ty h2
  · exact kit_ty h3
  · exact kit_ty h4
  · exact kit_ty h5
theorem kits_int : ∀ n, n = "int" ∨ n = "bool" ∨ n = "str" ∨ n = "list" ∨ n = "tuple" → PySem.W.kitOne K (.type "int") (.type n) = some (kb (.type "int") n) :=
  kit_b (by decide +kernel) (by decide +kernel) (by decide +kernel) (by decide +kernel) (by decide +kernel)
theorem kits_bool : ∀ n, n = "int" ∨ n = "bool" ∨ n = "str" ∨ n = "list" ∨ n = "tuple" → PySem.W.kitOne K (.type "bool") (.type n) = some (kb (.type "bool") n) :=
  kit_b (by decide +kernel) (by decide +kernel) (by decide +kernel) (by decide +kernel) (by decide +kernel)
theorem kits_str : ∀ n, n = "int" ∨ n = "bool" ∨ n = "str" ∨ n = "list" ∨ n = "tuple" → PySem.W.kitOne K (.type "str") (.type n) = some (kb (.type "str") n) :=
  kit_b (by decide +kernel) (by decide +kernel) (by decide +kernel) (by decide +kernel) (by decide +kernel)
theorem kits_list : ∀ n, n = "int" ∨ n = "bool" ∨ n = "str" ∨ n = "list" ∨ n = "tuple" → PySem.W.kitOne K (.type "list") (.type n) = some (kb (.type "list") n) :=
  kit_b (by decide +kernel) (by decide +kernel) (by decide +kernel) (by decide +kernel) (by decide +kernel)
theorem kits_tuple : ∀ n, n = "int" ∨ n = "bool" ∨ n = "str" ∨ n = "list" ∨ n = "tuple" → PySem.W.kitOne K (.type "tuple") (.type n) = some (kb (.type "tuple") n) :=
  kit_b (by decide +kernel) (by decide +kernel) (by decide +kernel) (by decide +kernel) (by decide +kernel)
theorem kits_none : ∀ n, n = "int" ∨ n = "bool" ∨ n = "str" ∨ n = "list" ∨ n = "tuple" → PySem.W.kitOne K (.type "NoneType") (.type n) = some (kb (.type "NoneType") n) :=
  kit_b (by decide +kernel) (by decide +kernel) (by decide +kernel) (by decide +kernel) (by decide +kernel)
theorem typ_int (i : Int) : Typ K H (.int i) (.type "int") := ⟨.base (.int i), kits_int⟩
theorem typ_bl (b : Bool) : Typ K H (.bl b) (.type "bool") := ⟨.base (.bl b), kits_bool⟩
theorem typ_str (z : Str) : Typ K H (.str z) (.type "str") := ⟨.base (.str z), kits_str⟩
theorem typ_non : Typ K H .non (.type "NoneType") := ⟨.base .non, kits_none⟩
theorem typ_lst {a : Addr} {xs : List V} (h : H a = some (.lst xs)) : Typ K H (.ref a) (.type "list") := ⟨.base (.lst h), kits_list⟩
theorem typ_sqT {a : Addr} {xs : List V} (h : SqT K H a xs) : Typ K H (.ref a) (.type "tuple") := by
  rcases h with (h | ⟨o, h⟩) | ⟨o, its, n, e, c, _⟩
  · exact ⟨.base (.tup h), kits_tuple⟩
  · exact ⟨.fTuple h, kits_tuple⟩
  · exact ⟨.kTuple e c, kits_tuple⟩
theorem typ_sqL {a : Addr} {xs : List V} (h : SqL K H a xs) : Typ K H (.ref a) (.type "list") := by
  rcases h with (h | ⟨o, h⟩) | ⟨o, its, n, e, c, _⟩
  · exact ⟨.base (.lst h), kits_list⟩
  · exact ⟨.base (.frz h), kits_list⟩
  · exact ⟨.kList e c, kits_list⟩
theorem int_aux {x : V} {t : Value} (q : TyX K H x t) (e : t = .type "int") : ∃ i, x = .int i := by
  cases q with
  | base b => cases b <;> first | exact ⟨_, rfl⟩ | exact absurd e (by decide) | exact nomatch e
  | _ => exact absurd e (by decide)
theorem Typ.isInt {x : V} (h : Typ K H x (.type "int")) : ∃ i, x = .int i := int_aux h.ty rfl
end
/-! ### heaps -/
theorem same_new {H : Hp} {p : Addr} {o : HO} (h : H p = none) : Same H (upd H p o) := fun a u e => by
  rw [upd_ne (ne_of_none e h)]
  exact e
theorem same_sqT {K : PySem.W.Frag} {H H' : Hp} {a : Addr} {xs : List V} (e : Same H H') (h : SqT K H a xs) : SqT K H' a xs := by
  rcases h with (h | ⟨o, h⟩) | h
  · exact .inl (.inl (e _ _ h))
  · exact .inl (.inr ⟨o, e _ _ h⟩)
  · exact .inr h
/-- all but what stands at D -/
def Off (D : Addr) (H H' : Hp) : Prop := ∀ b o, b ≠ D → H b = some o → H' b = some o
theorem Off.same {D : Addr} {H H' : Hp} (h : H D = none) (o : Off D H H') : Same H H' := fun b u e => o b u (ne_of_none e h) e
section
variable {K : PySem.W.Frag} {a D : Addr} {xs : List V} {g : TG} {tt : TT} {te : TE} {vs : List Nat} {σ : L2.St} {H : Hp} {Qd : Hp → Prop}
/-- the ints of a range -/
def rgV (lo : Int) (n : Nat) : List V := (List.range n).map fun (i : Nat) => V.int (lo + (i : Int))
end
end Tm

/-! Part 3: len(set(xs)) of ints, whether they are unlike. -/
namespace Tm
open PySem PySem.Spec PyProof.Rows L2
theorem nodup_le {α : Type} [DecidableEq α] : ∀ {l ns : List α}, l.Nodup → (∀ x ∈ l, x ∈ ns) → l.length ≤ ns.length
  | [], _, _, _ => Nat.zero_le _
  | x :: l, ns, h, hs => by
    obtain ⟨h1, h2⟩ := List.nodup_cons.mp h
    have hx : x ∈ ns := hs x (List.mem_cons_self ..)
    have ih : l.length ≤ (ns.erase x).length := nodup_le h2 fun y hy => by
      have ne : y ≠ x := fun e => h1 (e ▸ hy)
      exact (List.mem_erase_of_ne ne).mpr (hs y (List.mem_cons_of_mem _ hy))
    rw [List.length_erase_of_mem hx] at ih
    have := List.length_pos_of_mem hx
    simp only [List.length_cons]
    omega
/-- a list of the members of ns without a double one has its length just if ns has none -/
theorem nodup_iff {α : Type} [DecidableEq α] : ∀ {ns l : List α}, l.Nodup → (∀ x, x ∈ l ↔ x ∈ ns) → (l.length = ns.length ↔ ns.Nodup)
  | ns, l, h, hm => by
    constructor
    · intro e
      induction ns generalizing l with
      | nil => exact List.nodup_nil
      | cons y ns ih =>
        refine List.nodup_cons.mpr ?_
        have hy : y ∈ l := (hm y).mpr (List.mem_cons_self ..)
        have hn : y ∉ ns := by
          intro hyn
          have : l.length ≤ ns.length := nodup_le h fun x hx => by
            rcases List.mem_cons.mp ((hm x).mp hx) with rfl | z
            · exact hyn
            · exact z
          simp only [List.length_cons] at e
          omega
        refine ⟨hn, ih (l := l.erase y) (h.erase y) (fun x => ?_) ?_⟩
        · rw [h.mem_erase_iff, hm x, List.mem_cons]
          constructor
          · rintro ⟨ne, rfl | z⟩
            · exact absurd rfl ne
            · exact z
          · intro z
            exact ⟨fun e => hn (e ▸ z), Or.inr z⟩
        · rw [List.length_erase_of_mem hy, e]
          simp
    · intro hn
      exact Nat.le_antisymm (nodup_le h fun x hx => (hm x).mp hx) (nodup_le hn fun x hx => (hm x).mpr hx)
end Tm

/-! Part 4: walks over a list or a tuple; any values and their items. -/
namespace Tm
open PySem PySem.Spec PyProof.Rows L2
theorem Typ.mono {K : PySem.W.Frag} {H H' : Hp} {x : V} {t : Value} (T : Typ K H x t) (h : Same H H') : Typ K H' x t := by
  refine ⟨?_, T.kit⟩
  have q := T.ty
  cases q with
  | base b =>
    cases b with
    | non => exact .base .non
    | bl y => exact .base (.bl y)
    | int i => exact .base (.int i)
    | str y => exact .base (.str y)
    | flt y => exact .base (.flt y)
    | lst e => exact .base (.lst (h _ _ e))
    | frz e => exact .base (.frz (h _ _ e))
    | tup e => exact .base (.tup (h _ _ e))
    | dK e => exact .base (.dK (h _ _ e))
    | dT e => exact .base (.dT (h _ _ e))
    | ins e cl ha hn htk hm => exact .base (.ins (h _ _ e) cl ha hn htk hm)
  | byt y => exact .byt y
  | set e => exact .set (h _ _ e)
  | kList e c => exact .kList e c
  | kTuple e c => exact .kTuple e c
  | kDict e c => exact .kDict e c
  | fTuple e => exact .fTuple (h _ _ e)
  | fDict e => exact .fDict (h _ _ e)
/-- a list or a tuple of these -/
def Sq (K : PySem.W.Frag) (H : Hp) (a : Addr) (xs : List V) : Prop := SqL K H a xs ∨ SqT K H a xs
theorem Sq.mono {K : PySem.W.Frag} {H H' : Hp} {a : Addr} {xs : List V} (h : Sq K H a xs) (s : Same H H') : Sq K H' a xs := by
  rcases h with h | h
  · exact .inl (s.seq h)
  · exact .inr (same_sqT s h)
theorem isSeq_of {K : PySem.W.Frag} {H : Hp} {a : Addr} {xs : List V} (h : Sq K H a xs) : ∃ t, Typ K H (.ref a) t ∧ (t = .type "list" ∨ t = .type "tuple") := by
  rcases h with h | h
  · exact ⟨_, typ_sqL h, .inl rfl⟩
  · exact ⟨_, typ_sqT h, .inr rfl⟩
/-- any value: its type, and its items if it is a list or a tuple -/
inductive AnyV (K : PySem.W.Frag) (H : Hp) : V → Option (List V) → Prop where
  | no {x : V} {t : Value} (T : Typ K H x t) (h1 : t ≠ .type "list") (h2 : t ≠ .type "tuple") : AnyV K H x none
  | seq {a : Addr} {xs : List V} (h : Sq K H a xs) (hn : xs.length ≤ 1000) (hx : ∀ y ∈ xs, ∃ t, Typ K H y t) : AnyV K H (.ref a) (some xs)
theorem AnyV.mono {K : PySem.W.Frag} {H H' : Hp} {x : V} {os : Option (List V)} (A : AnyV K H x os) (s : Same H H') : AnyV K H' x os := by
  cases A with
  | no T h1 h2 => exact .no (T.mono s) h1 h2
  | seq h hn hx =>
    exact .seq (h.mono s) hn fun y hy => by
      obtain ⟨t, T⟩ := hx y hy
      exact ⟨t, T.mono s⟩
theorem AnyV.typ {K : PySem.W.Frag} {H : Hp} {x : V} {os : Option (List V)} (A : AnyV K H x os) : ∃ t, Typ K H x t ∧ ((t = .type "list" ∨ t = .type "tuple") ↔ os.isSome = true) := by
  cases A with
  | no T h1 h2 => exact ⟨_, T, fun z => z.elim (fun z => absurd z h1) fun z => absurd z h2, fun z => by cases z⟩
  | seq h hn hx =>
    obtain ⟨t, T, z⟩ := isSeq_of h
    exact ⟨t, T, fun _ => rfl, fun _ => z⟩
end Tm
namespace Tm
open PySem PySem.Spec PyProof.Rows L2
end Tm

/-! Part 5: own classes as types; kinds and rules as data, and how they stand in the heap. -/
namespace Tm
open PySem PySem.Spec PyProof.Rows L2
/-! ### own classes in isinstance -/
structure OwnC (K : PySem.W.Frag) (C : Addr) : Prop where
  ha : PySem.W.findIn K (.ref C) "__class__" = some (some (.builtin "object.__class__"))
  hn : PySem.W.specialIn K (.builtin "object.__class__") "__get__" = some (some (.builtin "getset_descriptor.__get__"))
  htk : PySem.W.takesIn K (.builtin "object.__class__") = some true
  hm : PySem.W.mroIn K C (.type "object") = some true
  no : ∀ n, n = "int" ∨ n = "bool" ∨ n = "str" ∨ n = "list" ∨ n = "tuple" → PySem.W.kitOne K (.ref C) (.type n) = some false
theorem ownB_ok {K : PySem.W.Frag} {C : Addr} (h : ownB K C = true) : OwnC K C := by
  unfold ownB at h
  simp only [Bool.and_eq_true, decide_eq_true_eq, List.all_cons, List.all_nil, Bool.and_true] at h
  obtain ⟨h1, h2, h3, h4, k1, k2, k3, k4, k5⟩ := h
  refine ⟨He.eqO_ok h1, He.eqO_ok h2, h3, h4, ?_⟩
  rintro n (rfl | rfl | rfl | rfl | rfl) <;> assumption
theorem typ_ins {K : PySem.W.Frag} {H : Hp} {a C dx : Addr} {fs : List (Str × V)} (o : OwnC K C) (cl : Cls K C) (h : H a = some (.ins C dx fs)) : Typ K H (.ref a) (.ref C) := by
  refine ⟨.base (.ins h cl o.ha o.hn o.htk o.hm), fun n hn => ?_⟩
  rw [o.no n hn]
  have z : kb (.ref C) n = false := by simp [kb]
  rw [z]
theorem subB_ok {K : PySem.W.Frag} {C D : Addr} {b : Bool} (h : subB K C D b = true) : PySem.W.kitOne K (.ref C) (.ref D) = some b := of_decide_eq_true h
/-! ### data -/
inductive Fm where
  | still | anew | lift
  deriving DecidableEq
/-- a kind: its form, its name, the number (days, left, by), the top (of a lift), how often -/
structure Kd where
  fm : Fm
  name : Str
  a : Int
  b : Int
  times : Option Int
  deriving DecidableEq
/-- a rule -/
structure Rl where
  length : Int
  rests : List Int
  cap : Option Int
  kinds : List Kd
def tv : Option Int → V
  | none => .non
  | some n => .int n
def Kd.cls (K : PySem.W.Frag) (k : Kd) : Addr := match k.fm with
  | .still => He.ga K "Still"
  | .anew => He.ga K "Anew"
  | .lift => He.ga K "Lift"
def Kd.flds (k : Kd) : List (Str × V) := match k.fm with
  | .still => [("name", .str k.name), ("days", .int k.a), ("times", tv k.times)]
  | .anew => [("name", .str k.name), ("left", .int k.a), ("times", tv k.times)]
  | .lift => [("name", .str k.name), ("by", .int k.a), ("top", .int k.b), ("times", tv k.times)]
def KindAt (K : PySem.W.Frag) (H : Hp) (p : Addr) (k : Kd) : Prop := ∃ dx, H p = some (.ins (k.cls K) dx k.flds)
theorem KindAt.mono {K : PySem.W.Frag} {H H' : Hp} {p : Addr} {k : Kd} (h : KindAt K H p k) (s : Same H H') : KindAt K H' p k := by
  obtain ⟨dx, e⟩ := h
  exact ⟨dx, s _ _ e⟩
theorem Paired.imp {α β : Type} {F G : α → β → Prop} (f : ∀ a b, F a b → G a b) : ∀ {l : List α} {m : List β}, Paired F l m → Paired G l m
  | _, _, .nil => .nil
  | _, _, .cons h t => .cons (f _ _ h) (Paired.imp f t)
structure RuleAt (K : PySem.W.Frag) (H : Hp) (p : Addr) (R : Rl) : Prop where
  ex : ∃ (dx tr tk tn : Addr) (ps : List Addr), H p = some (.ins (He.ga K "Rule") dx [("length", .int R.length), ("rests", .ref tr), ("cap", tv R.cap), ("kinds", .ref tk), ("names", .ref tn)]) ∧
    SqT K H tr (R.rests.map V.int) ∧ SqT K H tk (ps.map V.ref) ∧ SqT K H tn (R.kinds.map fun k => V.str k.name) ∧ Paired (KindAt K H) ps R.kinds
theorem RuleAt.mono {K : PySem.W.Frag} {H H' : Hp} {p : Addr} {R : Rl} (h : RuleAt K H p R) (s : Same H H') : RuleAt K H' p R := by
  obtain ⟨dx, tr, tk, tn, ps, h1, h2, h3, h4, h5⟩ := h.ex
  exact ⟨dx, tr, tk, tn, ps, s _ _ h1, same_sqT s h2, same_sqT s h3, same_sqT s h4, Paired.imp (fun _ _ z => z.mono s) h5⟩
/-! ### a dict comprehension over a list or a tuple -/
section
variable {K : PySem.W.Frag} {a D : Addr} {xs : List V} {g : TG} {te tu tl : TE} {vs : List Nat} {σ : L2.St} {H : Hp} {Q : VK} {ps : List (Key × V)}
end
end Tm

/-! Part K: rules whose readings speak of the written part, the written part given by name. -/
namespace Tm
open PySem PySem.Spec PyProof.Rows L2
section
variable {X : Cx} (K : PySem.W.Frag)
theorem k_fld {e : Expr} {f : Str} {pos : Pos} {ta : TE} (he : PE X e ta) (hb : attributeBase e f X.env (eval e X.env) = eval e X.env) (hK : X.K = K := by rfl) : PE X (.Attribute e f pos) (tFld K ta f) := by
  subst hK; exact pe_fld he hb
theorem k_isi (hK : X.K = K := by rfl) : CallR X (.builtin "isinstance") (rIsi K) := by subst hK; exact call_isi
theorem k_isiT (hK : X.K = K := by rfl) : CallR X (.builtin "isinstance") (rIsiT K) := by subst hK; exact call_isiT
def rLn (K : PySem.W.Frag) : List V → Hp → VK → Prop := fun xs H Q => ∃ x n, xs = [x] ∧ LenV K x H n ∧ Q (.int n) H
theorem k_len (hK : X.K = K := by rfl) : CallR X (.builtin "len") (rLn K) := by subst hK; exact call_len
def rList (K : PySem.W.Frag) : List V → Hp → VK → Prop := fun xs H Q => ∃ p ys, xs = [.ref p] ∧ (SqL K H p ys ∨ SqT K H p ys) ∧ ∀ l, H l = none → Q (.ref l) (upd H l (.lst ys))
theorem k_list (hK : X.K = K := by rfl) : CallR X (.type "list") (rList K) := by subst hK; exact call_list_of
def rTuple (K : PySem.W.Frag) : List V → Hp → VK → Prop := fun xs H Q => ∃ p ys, xs = [.ref p] ∧ ((SqL K H p ys ∧ ∀ l, H l = none → Q (.ref l) (upd H l (.tup ys))) ∨ (SqT K H p ys ∧ Q (.ref p) H))
theorem k_tuple (hK : X.K = K := by rfl) : CallR X (.type "tuple") (rTuple K) := by subst hK; exact call_tuple_of
theorem k_all (hc : X.calm = true := by rfl) (hK : X.K = K := by rfl) : CallR X (.builtin "all") (rAll K) := by subst hK; exact cr_all hc
theorem k_sorted (hK : X.K = K := by rfl) : CallR X (.builtin "sorted") (rSortedI K) := by subst hK; exact cr_sortedI
theorem k_ix (hK : X.K = K := by rfl) : IxR X (rIx K) := by subst hK; exact ix_seq
theorem k_bm0 {T : String} {name : Str} {id : String} {o : Expr} {to : TE} {r : V → List V → Hp → VK → Prop} {apos cpos : Pos} (pa : PlainAttrs T) (slot : Slot T name id) (hty : typeOf (.builtin id) = pure (.type "method_descriptor")) (hm : MtR X id r) (ho : PE X o to)
    (hbase : attributeBase o name X.env (eval o X.env) = eval o X.env := by rfl) (hline : (apos.endLine == cpos.line) = true := by rfl) (hK : X.K = K := by rfl) : PE X (.Call (.Attribute o name apos) [] [] cpos) (tBM0 K T r to) := by
  subst hK; exact pe_bm0 pa slot hty hm ho hbase hline
theorem k_bm {T : String} {name : Str} {id : String} {o e : Expr} {es : List Expr} {to : TE} {t : TA} {r : V → List V → Hp → VK → Prop} {apos cpos : Pos} (pa : PlainAttrs T) (slot : Slot T name id) (hty : typeOf (.builtin id) = pure (.type "method_descriptor")) (hm : MtR X id r)
    (ho : PE X o to) (ha : PA X (e :: es) t) (hbase : attributeBase o name X.env (eval o X.env) = eval o X.env := by rfl)
    (hfew : ((backTo cpos (starEach (e :: es) X.env)).all (fun x => !x.1) && (backToKw cpos (keywordEach [] X.env)).all (fun x => x.1.isSome)
      && decide ((e :: es).length + ([] : List Keyword).length + (if ([] : List Keyword).isEmpty then 0 else 1) < 30)) = true := by rfl)
    (hline : (apos.endLine == cpos.line) = true := by rfl) (hs : starEach (e :: es) X.env = (false, eval e X.env) :: starEach es X.env := by rfl) (hplain : (backTo cpos (starEach es X.env)).any (·.1) = false := by rfl)
    (hK : X.K = K := by rfl) : PE X (.Call (.Attribute o name apos) (e :: es) [] cpos) (tBM K T r to t) := by
  subst hK; exact pe_bm pa slot hty hm ho ha hbase hfew hline hs hplain
theorem k_star {e : Expr} {es : List Expr} {p : Pos} {te : TE} {t : TA} (he : PE X e te) (hr : PA X es t) (hs : starEach (.Starred e p :: es) X.env = (true, eval e X.env) :: starEach es X.env := by rfl) (hK : X.K = K := by rfl) :
    PA X (.Starred e p :: es) (StX.tStar K te t) := by
  subst hK; exact StX.pa_star he hr hs
end
end Tm

/-! Mathematics: the first working day. -/
namespace Tm
/-- how many days a day is put off, at most n -/
def gapN (rs : List Int) (d : Int) : Nat → Nat
  | 0 => 0
  | n + 1 => if d % 7 ∈ rs then 1 + gapN rs (d + 1) n else 0
def gap (rs : List Int) (d : Int) : Nat := gapN rs d 7
def workD (rs : List Int) (d : Int) : Int := d + (gap rs d : Int)
theorem work_ge (rs : List Int) (d : Int) : d ≤ workD rs d := by
  unfold workD
  omega
end Tm

/-! Part 6: a list beside an empty one; the stream of draws. -/
namespace Tm
open PySem PySem.Spec PyProof.Rows L2
section
variable {K : PySem.W.Frag}
end
/-! ### the stream: a list of great numbers and a mixed one -/
def DealG (H : Hp) (d g : Addr) (gs : List Int) : Prop := ∃ m : Int, H d = some (.lst [.ref g, .int m]) ∧ H g = some (.lst (gs.map V.int)) ∧ gs.length ≤ 60 ∧ (∀ x ∈ gs, 0 ≤ x) ∧ 0 ≤ m
def Deal (H : Hp) (d g : Addr) : Prop := ∃ gs, DealG H d g gs
/-- what is apart from the stream -/
def Apart (d g b : Addr) : Prop := b ≠ d ∧ b ≠ g
/-- all but the stream stays -/
def But (d g : Addr) (H H' : Hp) : Prop := ∀ b o, Apart d g b → H b = some o → H' b = some o
theorem But.refl {d g : Addr} (H : Hp) : But d g H H := fun _ _ _ h => h
theorem But.trans {d g : Addr} {H H1 H2 : Hp} (a : But d g H H1) (b : But d g H1 H2) : But d g H H2 := fun c o n h => b c o n (a c o n h)
theorem But.same {d g : Addr} {H H1 : Hp} (s : Same H H1) : But d g H H1 := fun _ _ _ h => s _ _ h
theorem Deal.same {d g : Addr} {H H1 : Hp} (h : Deal H d g) (s : Same H H1) : Deal H1 d g := by
  obtain ⟨gs, m, h1, h2, h3⟩ := h
  exact ⟨gs, m, s _ _ h1, s _ _ h2, h3⟩
theorem DealG.ne {d g : Addr} {H : Hp} {gs : List Int} (h : DealG H d g gs) : d ≠ g := by
  obtain ⟨m, h1, h2, _⟩ := h
  refine ne_of h1 h2 ?_
  intro z
  injection z with z
  cases gs with
  | nil => cases z
  | cons a l => cases z
theorem Deal.new {d g p : Addr} {H : Hp} (h : Deal H d g) (hp : H p = none) : Apart d g p := by
  obtain ⟨gs, m, h1, h2, _⟩ := h
  exact ⟨(ne_of_none h1 hp).symm, (ne_of_none h2 hp).symm⟩
theorem Deal.apart {d g p : Addr} {H : Hp} {o : HO} (h : Deal H d g) (hp : H p = some o) (ho : ∀ xs, o ≠ .lst xs) : Apart d g p := by
  obtain ⟨gs, m, h1, h2, _⟩ := h
  exact ⟨ne_of hp h1 (ho _), ne_of hp h2 (ho _)⟩
/-- another object of ours changes -/
theorem Deal.put {d g p : Addr} {H : Hp} {o : HO} (h : Deal H d g) (a : Apart d g p) : Deal (upd H p o) d g := by
  obtain ⟨gs, m, h1, h2, h3⟩ := h
  exact ⟨gs, m, by rw [upd_ne a.1.symm]; exact h1, by rw [upd_ne a.2.symm]; exact h2, h3⟩
theorem sqT_but {K : PySem.W.Frag} {d g a : Addr} {H H' : Hp} {xs : List V} (D : Deal H d g) (b : But d g H H') (h : SqT K H a xs) : SqT K H' a xs := by
  rcases h with (h | ⟨o, h⟩) | h
  · exact .inl (.inl (b _ _ (D.apart h fun _ z => by cases z) h))
  · exact .inl (.inr ⟨o, b _ _ (D.apart h fun _ z => by cases z) h⟩)
  · exact .inr h
theorem KindAt.but {K : PySem.W.Frag} {d g p : Addr} {H H' : Hp} {k : Kd} (D : Deal H d g) (b : But d g H H') (h : KindAt K H p k) : KindAt K H' p k := by
  obtain ⟨dx, e⟩ := h
  exact ⟨dx, b _ _ (D.apart e fun _ z => by cases z) e⟩
theorem RuleAt.but {K : PySem.W.Frag} {d g p : Addr} {H H' : Hp} {R : Rl} (D : Deal H d g) (b : But d g H H') (h : RuleAt K H p R) : RuleAt K H' p R := by
  obtain ⟨dx, tr, tk, tn, ps, h1, h2, h3, h4, h5⟩ := h.ex
  exact ⟨dx, tr, tk, tn, ps, b _ _ (D.apart h1 fun _ z => by cases z) h1, sqT_but D b h2, sqT_but D b h3, sqT_but D b h4, Paired.imp (fun _ _ z => z.but D b) h5⟩
end Tm

/-! Part 8: own __len__, __str__, __eq__ by the built-in functions and operators. -/
namespace Tm
open PySem PySem.Spec PyProof.Rows L2
section
variable {X : Cx} {CX : CXT} {k : Nat} {f : Addr} {sp : Sp} {E : XK} {pins : List (Addr × Obj)} {σ : L2.St} {H : Hp} {s : Shared} {Q : VK}
end
/-! ### what the head tests -/
theorem Dn.raw {P : Program} {w : World} {K : PySem.W.Frag} {mg : Str → Option Value} {base : Heap} {CX : CXT} {k : Nat} {f : Addr} {sp : Sp} (D : Dn P w K mg base CX k f [] sp) : FnR P w K mg base CX k f sp := by
  obtain ⟨fd, ps, ds, F, kp, r, b⟩ := D.ex
  refine FnR.imp (F.raw b r) fun vs H Q E h => ?_
  show sp (vs ++ []) H Q E
  rw [List.append_nil]
  exact h
/-! ### a dict of the top with text keys -/
section
variable {X : Cx} {d : Addr}
end
end Tm

/-! Part 7: texts: a walk over signs, names, numbers told by words. -/
namespace Tm
open PySem PySem.Spec PyProof.Rows L2
/-! ### names -/
def letterB (c : Nat) : Bool := decide (97 ≤ c) && decide (c ≤ 122)
theorem letters_tl : TL.tl ("abcdefghijklmnopqrstuvwxyz" : Str) = (List.range 26).map (97 + ·) := by decide +kernel
theorem letter_mem (c : Nat) : decide (c ∈ TL.tl ("abcdefghijklmnopqrstuvwxyz" : Str)) = letterB c := by
  rw [letters_tl]
  unfold letterB
  rw [← Bool.decide_and]
  congr 1
  rw [List.mem_map, eq_iff_iff]
  constructor
  · rintro ⟨a, ha, rfl⟩
    have := List.mem_range.mp ha
    omega
  · intro h
    exact ⟨c - 97, List.mem_range.mpr (by omega), by omega⟩
def barred : List Str := ["any", "none", "anew", "lift", "term"]
def nameB (z : Str) : Bool := !decide (z ∈ barred) && (decide (1 ≤ z.length) && (decide (z.length ≤ 4) && (TL.tl z).all letterB))
theorem nameB_len {z : Str} (h : nameB z = true) : z.length ≤ 4 := by
  simp only [nameB, Bool.and_eq_true, decide_eq_true_eq] at h
  exact h.2.2.1
theorem eqV_str (a b : Str) : eqV (.str a) (.str b) = decide (a = b) := by
  by_cases h : a = b
  · subst h
    simp [eqV]
  · rw [decide_eq_false h]
    show (a == b) = false
    exact beq_eq_false_iff_ne.mpr h
theorem inV_str (z : Str) : ∀ ns : List Str, inV (.str z) (ns.map V.str) = decide (z ∈ ns)
  | [] => rfl
  | n :: ns => by
    have ih := inV_str z ns
    unfold inV at ih ⊢
    rw [List.map_cons, List.any_cons, ih, eqV_str]
    by_cases h : n = z
    · simp [h]
    · have h' : ¬ z = n := fun e => h e.symm
      simp [h, h']
/-! ### numbers told by words -/
end Tm
namespace Tm
open PySem PySem.Spec PyProof.Rows L2
/-! ### the texts of kinds -/
structure KdOk (k : Kd) : Prop where
  nm : nameB k.name = true
  a0 : 1 ≤ k.a
  a1 : k.a < 10 ^ 19
  bl : k.fm = .lift → 1 ≤ k.b
  b1 : k.b < 10 ^ 19
  bn : k.fm ≠ .lift → k.b = 0
  t0 : ∀ c, k.times = some c → 1 ≤ c ∧ c < 10 ^ 19
def Fm.word : Fm → Str
  | .still => "still"
  | .anew => "anew"
  | .lift => "lift"
theorem len_app (x y : Str) : (x ++ y).length = x.length + y.length := by
  rw [TL.len_tl, TL.tl_append, List.length_append, TL.len_tl, TL.len_tl]
end Tm
namespace Tm
open PySem PySem.Spec PyProof.Rows L2
/-! ### texts that are cut -/
/-! ### what the text of a kind tells -/
def Fm.size : Fm → Nat
  | .lift => 5
  | _ => 4
end Tm

/-! Part 9: drawn kinds. -/
namespace Tm
open PySem PySem.Spec PyProof.Rows L2
def namesA : List Str := ["talk", "owe", "plea", "a", "b", "zz", "x", "suit", "rest", "cap"]
theorem namesA_ok : ∀ n ∈ namesA, nameB n = true := by decide +kernel
/-- a kind as the laws tell it -/
def told5 (k : Kd) : List V := [.str k.fm.word, .str k.name, .int k.a, .int k.b, tv k.times]
/-- a drawn kind -/
structure KdIn (z : Str) (most : Int) (k : Kd) : Prop where
  nm : k.name = z
  a0 : 1 ≤ k.a
  a1 : k.a ≤ most
  b0 : k.fm = .lift → 1 ≤ k.b
  b1 : k.b ≤ most
  bn : k.fm ≠ .lift → k.b = 0
  t0 : ∀ c, k.times = some c → 1 ≤ c ∧ c ≤ 3
theorem KdIn.ok {z : Str} {most : Int} {k : Kd} (h : KdIn z most k) (hz : nameB z = true) (hm : most ≤ 10 ^ 18) : KdOk k := by
  refine ⟨by rw [h.nm]; exact hz, h.a0, ?_, h.b0, ?_, h.bn, fun c hc => ⟨(h.t0 c hc).1, ?_⟩⟩
  · have := h.a1
    omega
  · have := h.b1
    omega
  · have := (h.t0 c hc).2
    omega
end Tm

/-! Part 10: rules as texts. -/
namespace Tm
open PySem PySem.Spec PyProof.Rows L2
structure RlOk (R : Rl) : Prop where
  l0 : 1 ≤ R.length
  l1 : R.length < 10 ^ 19
  rl : R.rests.length ≤ 6
  rb : ∀ i ∈ R.rests, 0 ≤ i ∧ i < 7
  rn : R.rests.Nodup
  rs : R.rests.Pairwise (· ≤ ·)
  c0 : ∀ c, R.cap = some c → 1 ≤ c ∧ c < 10 ^ 19
  kl : R.kinds.length ≤ 100
  kn : (R.kinds.map (·.name)).Nodup
  kk : ∀ k ∈ R.kinds, KdOk k
/-- what a head tells, as far as it can be read -/
structure HdOk (n : Int) (ns : List Int) (cap : Option Int) : Prop where
  l0 : 1 ≤ n
  l1 : n < 10 ^ 19
  rl : ns.length ≤ 6
  rb : ∀ i ∈ ns, 0 ≤ i ∧ i < 7
  c0 : ∀ c, cap = some c → 1 ≤ c ∧ c < 10 ^ 19
theorem RlOk.hd {R : Rl} (h : RlOk R) : HdOk R.length R.rests R.cap := ⟨h.l0, h.l1, h.rl, h.rb, h.c0⟩
/-! ### texts as the program writes them -/
end Tm
namespace Tm
open PySem PySem.Spec PyProof.Rows L2
end Tm
namespace Tm
open PySem PySem.Spec PyProof.Rows L2
end Tm

/-! X0: an own exception class whose __init__ says super().__init__() and keeps its argument: how it is made. -/
namespace PySem
namespace TmX
open PySem.W PySem.Calls PyProof.Rows PySem.HandSPX Builtin Builtin.ObjectAttr
/-- the facts of a built-in exception class B whose making stands at the class O above it -/
structure XFacts (B O newId initId : String) (bmB : List Value) : Prop where
  ends : newId.endsWith ".__new__" = true
  owner : newId.dropRight 8 = O
  entry : entryFor table newId = some Builtin.«BaseException.__new__»
  quiet : newId.startsWith "lifetime." = false
  split : splitId newId = some (O, "__new__")
  kind : builtinKind newId = some .builtinFn
  row : Manifest.signature? newId = some ⟨.any, O, O, .cls, [⟨"args", .varPos, false⟩, ⟨"kwargs", .varKw, false⟩]⟩
  hasO : bmB.contains (.type O) = true
  noAttr : bmB.contains (.type "AttributeError") = false
  noName : bmB.contains (.type "NameError") = false
  canon : Manifest.canonical newId = Manifest.canonical "BaseException.__new__"
  starO : (O != "*") = true
  plainI : plainId initId = true
  entryI : entryFor table initId = some Builtin.«BaseException.__init__»
  kindI : builtinKind initId = some .slot
  rowI : Manifest.signature? initId = some ⟨.positional, "*", B, .self, [⟨"args", .varPos, false⟩]⟩
  starB : (B != "*") = true
theorem XFacts.of {B newId initId : String} {bmB : List Value} (F : ExcBaseFacts B newId initId bmB) : XFacts B B newId initId bmB where
  ends := F.ends
  owner := F.owner
  entry := F.entry
  quiet := F.quiet
  split := F.newSplit
  kind := F.newKind
  row := F.newRow
  hasO := F.hasB
  noAttr := F.noAttr
  noName := F.noName
  canon := F.canon
  starO := F.noStar
  plainI := F.init.plain
  entryI := F.initEntry
  kindI := F.initKind
  rowI := F.initRow
  starB := F.noStar
/-- an own class whose making stands at O -/
structure OwnC (h : Heap) (C : Addr) (newId : String) (bmB : List Value) : Prop where
  ex : ∃ (nm q : Str) (N : Addr) (bs bm : List Value) (hdct : Bool) (sn : List Str) (sub : List Value) (ab : Bool) (col : Option Bool) (dd : Option Addr) (k0 k1 k2 k3 k5 : Option Value),
    h.get? C = some (excClassObj nm q C N bs bm hdct sn sub ab col dd k0 k1 k2 k3 k5 newId) ∧ ∀ y : String, bm.contains (.type y) = bmB.contains (.type y)
section
variable {prog : Program} {w : World} {A : Around} {E : Value → Shared → Prop} {R : Result → Shared → Prop} {h : Heap} {g : Array GenState} {d : Drawn} {t : Nat} {os : OsState} {B O newId initId : String} {bmB : List Value} {C : Addr} {M : Model}
theorem OwnC.keeps {h' : Heap} (c : OwnC h C newId bmB) (k : ∀ b o, h.get? b = some o → h'.get? b = some o) : OwnC h' C newId bmB := by
  obtain ⟨nm, q, N, bs, bm, hdct, sn, sub, ab, col, dd, k0, k1, k2, k3, k5, hC, hT⟩ := c.ex
  exact ⟨nm, q, N, bs, bm, hdct, sn, sub, ab, col, dd, k0, k1, k2, k3, k5, k _ _ hC, hT⟩
end
section
variable {prog : Program} {w : World} {A : Around} {E : Value → Shared → Prop} {h : Heap} {g : Array GenState} {d : Drawn} {t : Nat} {os : OsState} {K : Frag}
end
section
variable {prog : Program} {w : World} {A : Around} {R : Result → Shared → Prop} {s : Shared} {K : Frag} {mg mb : Str → Option Value} {C fI : Addr} {f : Str} {file : Str} {B O newId initId : String} {bmB : List Value}
end
end TmX
end PySem
namespace PySem
namespace TmX
open PySem.W PySem.Calls PyProof.Rows PySem.HandSPX
end TmX
end PySem

/-! X1: own exceptions made and raised, calls that may raise at the caller's slots, what a suite asks of the error it holds. -/
namespace L2
open PySem PySem.Spec PyProof.Rows
/-! the class KeyError above own errors: it is made by the class above it -/
section
variable {X : Cx} {C fI : Addr} {f : Str} {file : Str} {B newId initId : String} {bmB : List Value}
end
end L2
namespace PySem.W
open PySem PySem.Spec PySem.Calls PyProof.Rows
section
variable {prog : Program} {w : World} {A : Around} {E : Value → Shared → Prop} {s : Shared} {K : Frag} {x D : Addr} {ox : Obj} {od : Option Obj}
end
end PySem.W
namespace L2
open PySem PySem.Spec PyProof.Rows
end L2
namespace Tm
open PySem PySem.Spec PyProof.Rows L2
/-- what may leave a callee is wished for at the caller's slots -/
abbrev PassA (CX : CXT) (X : Cx) (W : WX) : Prop := ∀ σ, PassesAt CX X σ fun cls d H' => W cls d σ H'
theorem pA0 {X : Cx} {W : WX} : PassA CX0 X W := fun _ _ _ _ _ _ _ h => h.elim
section
variable {X : Cx} {CX : CXT} {k : Nat} {f C : Addr} {sp : Sp} {dvs : List V} {W : WX} {x m : Str} {p pos apos : Pos} {e o : Expr} {es : List Expr} {ta : TE} {t : TA}
theorem pe_cA (D : Dn X.prog X.w X.K X.mg X.base CX k f dvs sp) (hr : Room k X.A) (hm : X.mg x = some (.ref f)) (hx : PassA CX X W) (ha : PA X (e :: es) t) (hg : Gl X x := by rfl) (hdb : (x == ("__debug__" : Str)) = false := by decide)
    (he : starEach (e :: es) X.env = (false, eval e X.env) :: starEach es X.env := by rfl) (hpl : (backTo pos (starEach es X.env)).any (·.1) = false := by rfl) : PE X (.Call (.Name x p) (e :: es) [] pos) fun σ H Q => tCall sp dvs (fun cls d H' => W cls d σ H') t σ H Q := by
  obtain ⟨fd, ps, ds, F, kp, r, b⟩ := D.ex
  exact pe_callSD (E := fun σ cls d H' => W cls d σ H') F hr hg hm kp b r hx ha hdb he hpl
theorem runMk {fd : FuncData} {ps : List Str} {ds : List Value} {pins : List (Addr × Obj)} {σ : L2.St} {H : Hp} {s : Shared} {Q : VK} {E : XK} {us : List Value} {vs : List V} (M : Mk X.K C f) (G : FnOk X.prog X.w X.K X.mg X.base CX k f fd ps sp) (hr : Room (k + 1) X.A) (b : Binds X.K fd ps ds) (d : Vals dvs ds) (hx : PassesAt CX X σ E) (I : Inv X pins σ H s) (r : Vals vs us)
    (h : ∀ x dx, H x = none → H dx = none → dx ≠ x → sp (.ref x :: (vs ++ dvs)) (upd (upd H dx (.own x)) x (.ins C dx [])) (fun v H2 => v = .non ∧ Q (.ref x) H2) E) : wpAny (model X.prog X.w) X.A (call (.ref C) us) (EP X pins σ Q) X.xe s := by
  have q := h (s.heap.objs.size + 1) s.heap.objs.size (I.hok.fresh (Nat.le_succ _)) (I.hok.fresh (Nat.le_refl _)) (Nat.ne_of_lt (Nat.lt_succ_self _))
  have J := Inv.made (C := C) I
  have rr : Vals (V.ref (s.heap.objs.size + 1) :: (vs ++ dvs)) (Value.ref (s.heap.objs.size + 1) :: (us ++ ds)) := .cons rfl (r.append d)
  have ll : (Value.ref (s.heap.objs.size + 1) :: us ++ ds).length = ps.length := by
    have z := rr.length
    rw [G.len _ _ _ _ q] at z
    exact z.symm
  refine wpAny_call (make_map (f := f) I.kIn M.makes M.init (beq_iff_eq.mp M.fn) (codeAny_mono (G.run _ X.stack _ _ ⟨Value.ref (s.heap.objs.size + 1) :: us, []⟩ (Value.ref (s.heap.objs.size + 1) :: (us ++ ds)) _ _ E (hr.make C us []) (J.env0.make C us []) (b _ (Value.ref (s.heap.objs.size + 1) :: us) J.kIn ll) rr q) fun z s' w => ?_))
  cases z with
  | error e => exact hx pins _ _ e s' J w
  | ok y => cases y with
    | ret u =>
      obtain ⟨v, H', I3, rv, ev, q3⟩ := J.after w
      subst ev
      exact ⟨rv, ⟨V.ref (s.heap.objs.size + 1), H', I3, rfl, q3⟩⟩
    | _ => exact False.elim w
theorem pe_mkA (M : Mk X.K C f) (D : Dn X.prog X.w X.K X.mg X.base CX k f dvs sp) (hr : Room (k + 1) X.A) (hm : X.mg x = some (.ref C)) (hx : PassA CX X W) (ha : PA X (e :: es) t) (hg : Gl X x := by rfl)
    (hdb : (x == ("__debug__" : Str)) = false := by decide) (he : starEach (e :: es) X.env = (false, eval e X.env) :: starEach es X.env := by rfl) (hpl : (backTo pos (starEach es X.env)).any (·.1) = false := by rfl) :
    PE X (.Call (.Name x p) (e :: es) [] pos) fun σ H Q => tMake C sp dvs (fun cls d H' => W cls d σ H') t σ H Q := by
  obtain ⟨fd, ps, ds, F, kp, r, b⟩ := D.ex
  refine ⟨fun pins s σ H Q I h => wpAny_Call_Name_kw (ld_glob I hg hm (PySem.W.callWith_K (h₀ := X.base) I.ok.mod.kin M.kp (thn (ha.run pos pins s σ H _ I h) fun us s1 z => ?_) he hpl) hdb)⟩
  obtain ⟨vs, H1, I1, rv, q⟩ := z
  exact ⟨I1.kIn, runMk M F hr b r (hx σ) I1 rv q⟩
end
end Tm

/-! Part 11: data that can be compared; comprehensions by an invariant. -/
namespace Tm
open PySem PySem.Spec PyProof.Rows L2
/-- data of a depth that can be laid -/
def DOk (n : Nat) (d : PyData) : Prop := d.canLay0 = true ∧ d.depth ≤ n
theorem dok_all : ∀ {ds : List PyData} {n : Nat}, (∀ d ∈ ds, DOk n d) → PyData.canLayAll0 ds = true ∧ PyData.depthAll ds ≤ n
  | [], n, _ => ⟨rfl, Nat.zero_le _⟩
  | d :: ds, n, h => by
    obtain ⟨h1, h2⟩ := h d (List.mem_cons_self ..)
    obtain ⟨h3, h4⟩ := dok_all fun x hx => h x (List.mem_cons_of_mem _ hx)
    refine ⟨?_, ?_⟩
    · simp only [PyData.canLayAll0, h1, h3, Bool.and_self]
    · simp only [PyData.depthAll]
      omega
theorem dok_lst {ds : List PyData} {n : Nat} (h : ∀ d ∈ ds, DOk n d) : DOk (n + 1) (.list ds) := by
  obtain ⟨a, b⟩ := dok_all h
  exact ⟨by simp only [PyData.canLay0, a], by simp only [PyData.depth]; omega⟩
theorem dok_tup {ds : List PyData} {n : Nat} (h : ∀ d ∈ ds, DOk n d) : DOk (n + 1) (.tuple ds) := by
  obtain ⟨a, b⟩ := dok_all h
  exact ⟨by simp only [PyData.canLay0, a], by simp only [PyData.depth]; omega⟩
theorem DOk.up {m n : Nat} {d : PyData} (h : DOk m d) (hm : m ≤ n) : DOk n d := ⟨h.1, Nat.le_trans h.2 hm⟩
theorem dok_int (i : Int) : DOk 0 (.int i) := ⟨by simp [PyData.canLay0], by simp [PyData.depth]⟩
theorem dok_non : DOk 0 .none := ⟨by simp [PyData.canLay0], by simp [PyData.depth]⟩
theorem dok_str {z : Str} (h : PyData.strOk z = true) : DOk 0 (.str z) := ⟨by simp [PyData.canLay0, h], by simp [PyData.depth]⟩
theorem shaped_of {n : Nat} {d : PyData} (h : DOk n d) (hn : n ≤ 64) : SeqAt.shaped d = true := by
  unfold SeqAt.shaped
  rw [h.1, decide_eq_true (Nat.le_trans h.2 hn)]
  rfl
theorem name_strOk {z : Str} (h : nameB z = true) : PyData.strOk z = true := by
  simp only [nameB, Bool.and_eq_true, decide_eq_true_eq] at h
  unfold PyData.strOk
  rw [← Array.all_toList, List.all_eq_true]
  intro c hc
  have := List.all_eq_true.mp h.2.2.2 c hc
  simp only [letterB, Bool.and_eq_true, decide_eq_true_eq] at this
  exact decide_eq_true (by omega)
end Tm

/-! Part 12: drawn rules as the laws tell them. -/
namespace Tm
open PySem PySem.Spec PyProof.Rows L2
/-- a told rule: its length, rests, cap, kinds -/
structure ToldAt (K : PySem.W.Frag) (d g : Addr) (H : Hp) (p : Addr) (n : Int) (ns : List Int) (cap : Option Int) (ks : List Kd) : Prop where
  ex : ∃ (lr ls : Addr) (ps : List Addr), H p = some (.tup [.int n, .ref lr, tv cap, .ref ls]) ∧ H lr = some (.lst (ns.map V.int)) ∧ H ls = some (.lst (ps.map V.ref)) ∧ Apart d g lr ∧ Apart d g ls ∧ Paired (fun q k => H q = some (.tup (told5 k))) ps ks
theorem ToldAt.mono {K : PySem.W.Frag} {d g : Addr} {H H' : Hp} {p : Addr} {n : Int} {ns : List Int} {cap : Option Int} {ks : List Kd} (h : ToldAt K d g H p n ns cap ks) (s : Same H H') : ToldAt K d g H' p n ns cap ks := by
  obtain ⟨lr, ls, ps, h1, h2, h3, h4, h5, h6⟩ := h.ex
  exact ⟨lr, ls, ps, s _ _ h1, s _ _ h2, s _ _ h3, h4, h5, Paired.imp (fun _ _ z => s _ _ z) h6⟩
theorem ToldAt.but {K : PySem.W.Frag} {d g : Addr} {H H' : Hp} {p : Addr} {n : Int} {ns : List Int} {cap : Option Int} {ks : List Kd} (h : ToldAt K d g H p n ns cap ks) (D : Deal H d g) (b : But d g H H') : ToldAt K d g H' p n ns cap ks := by
  obtain ⟨lr, ls, ps, h1, h2, h3, h4, h5, h6⟩ := h.ex
  exact ⟨lr, ls, ps, b _ _ (D.apart h1 fun _ z => by cases z) h1, b _ _ h4 h2, b _ _ h5 h3, h4, h5, Paired.imp (fun _ _ z => b _ _ (D.apart z fun _ q => by cases q) z) h6⟩
/-- what is drawn -/
structure RlIn (many : Nat) (most n : Int) (ns : List Int) (cap : Option Int) (ks : List Kd) : Prop where
  l0 : 1 ≤ n
  l1 : n ≤ most
  rl : ns.length ≤ 4
  rb : ∀ i ∈ ns, 0 ≤ i ∧ i < 7
  rn : ns.Nodup
  rs : ns.Pairwise (· ≤ ·)
  c0 : ∀ c, cap = some c → 1 ≤ c ∧ c ≤ 3 * most
  cf : ∀ c k, cap = some c → k ∈ ks → k.times = none → c ≤ n + 200
  kl : ks.length ≤ many
  kn : (ks.map (·.name)).Nodup
  ka : ∀ k ∈ ks, k.name ∈ namesA
  kk : ∀ k ∈ ks, KdIn k.name most k
theorem RlIn.kok {many : Nat} {most n : Int} {ns : List Int} {cap : Option Int} {ks : List Kd} (h : RlIn many most n ns cap ks) (hm : most ≤ 10 ^ 18) : ∀ k ∈ ks, KdOk k := fun k hk => (h.kk k hk).ok (namesA_ok _ (h.ka k hk)) hm
theorem RlIn.hd {many : Nat} {most n : Int} {ns : List Int} {cap : Option Int} {ks : List Kd} (h : RlIn many most n ns cap ks) (hm : most ≤ 10 ^ 18) : HdOk n ns cap :=
  ⟨h.l0, by have := h.l1; omega, by have := h.rl; omega, h.rb, fun c hc => by have := h.c0 c hc; omega⟩
theorem RlIn.ok {many : Nat} {most n : Int} {ns : List Int} {cap : Option Int} {ks : List Kd} (h : RlIn many most n ns cap ks) (hm : most ≤ 10 ^ 18) (hk : many ≤ 100) : RlOk ⟨n, ns, cap, ks⟩ :=
  ⟨h.l0, (h.hd hm).l1, (h.hd hm).rl, h.rb, h.rn, h.rs, (h.hd hm).c0, Nat.le_trans h.kl hk, h.kn, h.kok hm⟩
end Tm

/-! N0: values as trees; what changes stands in cells; how both stand in the heap. -/
namespace Tm
open PySem PySem.Spec PyProof.Rows L2
inductive T where
  | non
  | bl (b : Bool)
  | int (i : Int)
  | str (x : Str)
  | tup (l : List T)
  | lst (l : List T)
  | dK (ks : List Key) (l : List T)
  | dT (ks : List (List Key)) (l : List T)
  | obj (C : Str) (ns : List Str) (l : List T)
  | cls (C : Str)
  | scr (ns : List Int)
  | ref (n : Nat)
  | fn (x : Str)
  | lam (k : Nat)
  | dN (ks : List T) (hs : List Int) (l : List T)
  | lk (t : T)
  | wt (l : List T)
  | exc (a d : Nat) (C : Str) (ns : List Str) (l : List T)
  deriving Inhabited
/-- what a value avoids (where cells stand), and where the n-th cell stands -/
structure ASet where
  p : Addr → Prop
  ad : Nat → Option Addr
instance : CoeFun ASet fun _ => Addr → Prop := ⟨ASet.p⟩
/-- bounds ahead of which cells refer to none behind; objects that are hidden for a while -/
structure Bx where
  b : List Nat
  h : List Addr
def mset (bs : Bx) (m : List Addr) : ASet := ⟨fun a => a ∈ m ∨ a ∈ bs.h, fun n => m[n]?⟩
/-- a list that stays: at hand, locked, or written -/
def ScrAt (K : PySem.W.Frag) (A : ASet) (H : Hp) (a : Addr) (xs : List V) : Prop := (¬ A a ∧ H a = some (.lst xs)) ∨ (∃ o, H a = some (.frz o (.lst xs))) ∨ ∀ H', SqL K H' a xs
/-- a dict, at hand or locked -/
def DkAt (H : Hp) (a : Addr) (kvs : List (Key × V)) : Prop := H a = some (.dK kvs) ∨ ∃ o, H a = some (.frz o (.dK kvs))
def DtAt (H : Hp) (a : Addr) (kvs : List (List Key × V)) : Prop := H a = some (.dT kvs) ∨ ∃ o, H a = some (.frz o (.dT kvs))
mutual
inductive Rep (K : PySem.W.Frag) (A : ASet) (H : Hp) : V → T → Prop where
  | non : Rep K A H .non .non
  | bl (b : Bool) : Rep K A H (.bl b) (.bl b)
  | int (i : Int) : Rep K A H (.int i) (.int i)
  | str (x : Str) : Rep K A H (.str x) (.str x)
  | tup {a : Addr} {xs : List V} {l : List T} (h : H a = some (.tup xs)) (r : Reps K A H xs l) : Rep K A H (.ref a) (.tup l)
  | wt {a : Addr} {xs : List V} {l : List T} (h : ∀ H', SqT K H' a xs) (r : Reps K A H xs l) : Rep K A H (.ref a) (.wt l)
  | lst {a : Addr} {xs : List V} {l : List T} (na : ¬ A a) (h : H a = some (.lst xs)) (r : Reps K A H xs l) : Rep K A H (.ref a) (.lst l)
  | dK {a : Addr} {kvs : List (Key × V)} {l : List T} (na : ¬ A a) (h : DkAt H a kvs) (r : Reps K A H (kvs.map (·.2)) l) : Rep K A H (.ref a) (.dK (kvs.map (·.1)) l)
  | dT {a : Addr} {kvs : List (List Key × V)} {l : List T} (na : ¬ A a) (h : DtAt H a kvs) (r : Reps K A H (kvs.map (·.2)) l) : Rep K A H (.ref a) (.dT (kvs.map (·.1)) l)
  | obj {a dx : Addr} {C : Str} {fs : List (Str × V)} {l : List T} (na : ¬ A a) (h : H a = some (.ins (He.ga K C) dx fs)) (r : Reps K A H (fs.map (·.2)) l) : Rep K A H (.ref a) (.obj C (fs.map (·.1)) l)
  | cls (C : Str) : Rep K A H (.ref (He.ga K C)) (.cls C)
  | scr {a : Addr} {ns : List Int} (h : ScrAt K A H a (ns.map V.int)) : Rep K A H (.ref a) (.scr ns)
  | ref {a : Addr} {n : Nat} (h : A.ad n = some a) : Rep K A H (.ref a) (.ref n)
  | fn (x : Str) : Rep K A H (.ref (He.ga K x)) (.fn x)
  | lam {a c : Addr} {k : Nat} (na : ¬ A a) (nc : ¬ A c) (h : H a = some (lamO k a c)) (hc : H c = some (LamX.CodeO c (lamQ k))) : Rep K A H (.ref a) (.lam (2 * k))
  | tb {a : Addr} {k : Nat} {ps : Array Value} (na : ¬ A a) (h : H a = some (.tbl ps)) : Rep K A H (.ref a) (.lam (2 * k + 1))
  | dN {a : Addr} {φ : Heap → Prop} {ks l : List T} {hs : List Int} (na : ¬ A a) (h : H a = some (.ext φ)) : Rep K A H (.ref a) (.dN ks hs l)
  | exc {a d : Addr} {C : Str} {fs : List (Str × V)} {l : List T} (na : ¬ A d) (h : H d = some (.xd fs)) (r : Reps K A H (fs.map (·.2)) l) : Rep K A H (.ref a) (.exc a d C (fs.map (·.1)) l)
inductive Reps (K : PySem.W.Frag) (A : ASet) (H : Hp) : List V → List T → Prop where
  | nil : Reps K A H [] []
  | cons {x : V} {t : T} {xs : List V} {l : List T} (h : Rep K A H x t) (r : Reps K A H xs l) : Reps K A H (x :: xs) (t :: l)
end
/-- from H to H' all stays but what A holds; what stays is not in B -/
structure Lk (A : ASet) (H : Hp) (B : ASet) (H' : Hp) : Prop where
  ad : ∀ n a, A.ad n = some a → B.ad n = some a
  all : ∀ b o, ¬ A b → H b = some o → H' b = some o ∧ ¬ B b
  tup : ∀ b xs, H b = some (.tup xs) → H' b = some (.tup xs)
  frz : ∀ b o u, H b = some (.frz o u) → H' b = some (.frz o u)
theorem Lk.of_same {A : ASet} {H H' : Hp} (s : Same H H') : Lk A H A H' := ⟨fun _ _ h => h, fun b o n e => ⟨s b o e, n⟩, fun b xs e => s b _ e, fun b o u e => s b _ e⟩
theorem Lk.refl {A : ASet} {H : Hp} : Lk A H A H := Lk.of_same (L2.Same.refl _)
theorem Lk.trans {A B C : ASet} {H H1 H2 : Hp} (a : Lk A H B H1) (b : Lk B H1 C H2) : Lk A H C H2 :=
  ⟨fun n x h => b.ad n x (a.ad n x h), fun c o n e => by
    obtain ⟨e1, n1⟩ := a.all c o n e
    exact b.all c o n1 e1, fun c xs e => b.tup c xs (a.tup c xs e), fun c o u e => b.frz c o u (a.frz c o u e)⟩
section
variable {K : PySem.W.Frag} {A B : ASet} {H H' : Hp}
theorem dkAt_lk {a : Addr} {kvs : List (Key × V)} (L : Lk A H B H') (na : ¬ A a) (h : DkAt H a kvs) : DkAt H' a kvs ∧ ¬ B a := by
  rcases h with h | ⟨o, h⟩
  · exact ⟨.inl (L.all _ _ na h).1, (L.all _ _ na h).2⟩
  · exact ⟨.inr ⟨o, L.frz _ _ _ h⟩, (L.all _ _ na h).2⟩
theorem dtAt_lk {a : Addr} {kvs : List (List Key × V)} (L : Lk A H B H') (na : ¬ A a) (h : DtAt H a kvs) : DtAt H' a kvs ∧ ¬ B a := by
  rcases h with h | ⟨o, h⟩
  · exact ⟨.inl (L.all _ _ na h).1, (L.all _ _ na h).2⟩
  · exact ⟨.inr ⟨o, L.frz _ _ _ h⟩, (L.all _ _ na h).2⟩
theorem scr_lk {a : Addr} {xs : List V} (L : Lk A H B H') (h : ScrAt K A H a xs) : ScrAt K B H' a xs := by
  rcases h with ⟨na, h⟩ | ⟨o, h⟩ | h
  · exact .inl ⟨(L.all _ _ na h).2, (L.all _ _ na h).1⟩
  · exact .inr (.inl ⟨o, L.frz _ _ _ h⟩)
  · exact .inr (.inr h)
theorem ScrAt.sq {a : Addr} {xs : List V} (h : ScrAt K A H a xs) : SqL K H a xs := by
  rcases h with ⟨na, h⟩ | ⟨o, h⟩ | h
  · exact .inl (.inl h)
  · exact .inl (.inr ⟨o, h⟩)
  · exact h H
mutual
theorem Rep.lk (L : Lk A H B H') : ∀ {v : V} {t : T}, Rep K A H v t → Rep K B H' v t
  | _, _, .non => .non
  | _, _, .bl b => .bl b
  | _, _, .int i => .int i
  | _, _, .str x => .str x
  | _, _, .tup h r => .tup (L.tup _ _ h) (Reps.lk L r)
  | _, _, .wt h r => .wt h (Reps.lk L r)
  | _, _, .lst na h r => .lst (L.all _ _ na h).2 (L.all _ _ na h).1 (Reps.lk L r)
  | _, _, .dK na h r => .dK (dkAt_lk L na h).2 (dkAt_lk L na h).1 (Reps.lk L r)
  | _, _, .dT na h r => .dT (dtAt_lk L na h).2 (dtAt_lk L na h).1 (Reps.lk L r)
  | _, _, .obj na h r => .obj (L.all _ _ na h).2 (L.all _ _ na h).1 (Reps.lk L r)
  | _, _, .cls C => .cls C
  | _, _, .scr h => .scr (scr_lk L h)
  | _, _, .ref h => .ref (L.ad _ _ h)
  | _, _, .fn x => .fn x
  | _, _, .exc na h r => .exc (L.all _ _ na h).2 (L.all _ _ na h).1 (Reps.lk L r)
  | _, _, .lam na nc h hc => .lam (L.all _ _ na h).2 (L.all _ _ nc hc).2 (L.all _ _ na h).1 (L.all _ _ nc hc).1
  | _, _, .tb na h => .tb (L.all _ _ na h).2 (L.all _ _ na h).1
  | _, _, .dN na h => .dN (L.all _ _ na h).2 (L.all _ _ na h).1
theorem Reps.lk (L : Lk A H B H') : ∀ {xs : List V} {l : List T}, Reps K A H xs l → Reps K B H' xs l
  | _, _, .nil => .nil
  | _, _, .cons h r => .cons (Rep.lk L h) (Reps.lk L r)
end
theorem Rep.same (s : Same H H') {v : V} {t : T} (r : Rep K A H v t) : Rep K A H' v t := r.lk (Lk.of_same s)
theorem Reps.same (s : Same H H') {xs : List V} {l : List T} (r : Reps K A H xs l) : Reps K A H' xs l := r.lk (Lk.of_same s)
theorem Reps.length : ∀ {xs : List V} {l : List T}, Reps K A H xs l → xs.length = l.length
  | _, _, .nil => rfl
  | _, _, .cons _ r => by rw [List.length_cons, List.length_cons, Reps.length r]
theorem Reps.append : ∀ {xs ys : List V} {l m : List T}, Reps K A H xs l → Reps K A H ys m → Reps K A H (xs ++ ys) (l ++ m)
  | _, _, _, _, .nil, s => s
  | _, _, _, _, .cons h r, s => .cons h (Reps.append r s)
theorem Reps.get : ∀ {xs : List V} {l : List T} {i : Nat} {t : T}, Reps K A H xs l → l[i]? = some t → ∃ x, xs[i]? = some x ∧ Rep K A H x t
  | _, _, _, _, .nil, e => by simp at e
  | _, _, 0, _, .cons h _, e => by
    simp at e
    subst e
    exact ⟨_, rfl, h⟩
  | _, _, i + 1, t, .cons _ r, e => by
    obtain ⟨x, h1, h2⟩ := Reps.get (i := i) r (by simpa using e)
    exact ⟨x, by simpa using h1, h2⟩
theorem Reps.take : ∀ {xs : List V} {l : List T} (n : Nat), Reps K A H xs l → Reps K A H (xs.take n) (l.take n)
  | _, _, 0, _ => .nil
  | _, _, _ + 1, .nil => .nil
  | _, _, n + 1, .cons h r => .cons h (Reps.take n r)
theorem Reps.drop : ∀ {xs : List V} {l : List T} (n : Nat), Reps K A H xs l → Reps K A H (xs.drop n) (l.drop n)
  | _, _, 0, r => r
  | _, _, _ + 1, .nil => .nil
  | _, _, n + 1, .cons _ r => Reps.drop n r
theorem Reps.set {x : V} {t : T} (q : Rep K A H x t) : ∀ {xs : List V} {l : List T} (i : Nat), Reps K A H xs l → Reps K A H (xs.set i x) (l.set i t)
  | _, _, _, .nil => .nil
  | _, _, 0, .cons _ r => .cons q r
  | _, _, i + 1, .cons h r => .cons h (Reps.set q i r)
theorem Reps.erase : ∀ {xs : List V} {l : List T} (i : Nat), Reps K A H xs l → Reps K A H (xs.eraseIdx i) (l.eraseIdx i)
  | _, _, _, .nil => .nil
  | _, _, 0, .cons _ r => r
  | _, _, i + 1, .cons h r => .cons h (Reps.erase i r)
theorem Reps.ints (ns : List Int) : Reps K A H (ns.map V.int) (ns.map T.int) := by
  induction ns with
  | nil => exact .nil
  | cons n ns ih => exact .cons (.int n) ih
theorem Reps.of_ints : ∀ {xs : List V} {ns : List Int}, Reps K A H xs (ns.map T.int) → xs = ns.map V.int
  | [], [], _ => rfl
  | [], _ :: _, r => nomatch r
  | _ :: _, [], r => nomatch r
  | x :: xs, n :: ns, r => by
    cases r with
    | cons h r =>
      cases h
      rw [Reps.of_ints r]
      rfl
end
/-! ### refs below a number -/
mutual
def okR (n : Nat) : T → Bool
  | .tup l => okRs n l
  | .wt l => okRs n l
  | .lst l => okRs n l
  | .dK _ l => okRs n l
  | .dT _ l => okRs n l
  | .obj _ _ l => okRs n l
  | .exc _ _ _ _ l => okRs n l
  | .ref k => decide (k < n)
  | .lk t => okR n t
  | _ => true
def okRs (n : Nat) : List T → Bool
  | [] => true
  | t :: l => okR n t && okRs n l
end
mutual
theorem okR_mono {n k : Nat} (h : n ≤ k) : ∀ {t : T}, okR n t = true → okR k t = true
  | .tup l, e => by unfold okR at e ⊢; exact okRs_mono h e
  | .wt l, e => by unfold okR at e ⊢; exact okRs_mono h e
  | .lst l, e => by unfold okR at e ⊢; exact okRs_mono h e
  | .dK _ l, e => by unfold okR at e ⊢; exact okRs_mono h e
  | .dT _ l, e => by unfold okR at e ⊢; exact okRs_mono h e
  | .obj _ _ l, e => by unfold okR at e ⊢; exact okRs_mono h e
  | .exc _ _ _ _ l, e => by unfold okR at e ⊢; exact okRs_mono h e
  | .ref k, e => by unfold okR at e ⊢; simp at e ⊢; omega
  | .lam _, e => by unfold okR; rfl
  | .dN .., e => by unfold okR; rfl
  | .lk t, e => by unfold okR at e ⊢; exact okR_mono h e
  | .non, e => by unfold okR; rfl
  | .bl _, e => by unfold okR; rfl
  | .int _, e => by unfold okR; rfl
  | .str _, e => by unfold okR; rfl
  | .cls _, e => by unfold okR; rfl
  | .scr _, e => by unfold okR; rfl
  | .fn _, e => by unfold okR; rfl
theorem okRs_mono {n k : Nat} (h : n ≤ k) : ∀ {l : List T}, okRs n l = true → okRs k l = true
  | [], e => rfl
  | t :: l, e => by
    unfold okRs at e ⊢
    rw [Bool.and_eq_true] at e ⊢
    exact ⟨okR_mono h e.1, okRs_mono h e.2⟩
end
section
variable {K : PySem.W.Frag} {H : Hp} {m : List Addr} {bs : Bx}
mutual
/-- what stands with all cells stands with the first ones alone, if it refers to these alone -/
theorem Rep.cut {n : Nat} : ∀ {v : V} {t : T}, Rep K (mset bs m) H v t → okR n t = true → Rep K (mset bs (m.take n)) H v t
  | _, _, .non, _ => .non
  | _, _, .bl b, _ => .bl b
  | _, _, .int i, _ => .int i
  | _, _, .str x, _ => .str x
  | _, _, .tup h r, e => .tup h (Reps.cut r (by unfold okR at e; exact e))
  | _, _, .wt h r, e => .wt h (Reps.cut r (by unfold okR at e; exact e))
  | _, _, .lst na h r, e => .lst (fun z => na (z.imp List.mem_of_mem_take id)) h (Reps.cut r (by unfold okR at e; exact e))
  | _, _, .dK na h r, e => .dK (fun z => na (z.imp List.mem_of_mem_take id)) h (Reps.cut r (by unfold okR at e; exact e))
  | _, _, .dT na h r, e => .dT (fun z => na (z.imp List.mem_of_mem_take id)) h (Reps.cut r (by unfold okR at e; exact e))
  | _, _, .obj na h r, e => .obj (fun z => na (z.imp List.mem_of_mem_take id)) h (Reps.cut r (by unfold okR at e; exact e))
  | _, _, .cls C, _ => .cls C
  | _, _, .scr h, _ => .scr (h.imp (fun z => ⟨fun q => z.1 (q.imp List.mem_of_mem_take id), z.2⟩) id)
  | _, _, .ref (n := k) h, e => .ref (by
      unfold okR at e
      simp at e
      show (m.take n)[k]? = _
      rw [List.getElem?_take_of_lt e]
      exact h)
  | _, _, .fn x, _ => .fn x
  | _, _, .exc na h r, e => .exc (fun z => na (z.imp List.mem_of_mem_take id)) h (Reps.cut r (by unfold okR at e; exact e))
  | _, _, .lam na nc h hc, _ => .lam (fun z => na (z.imp List.mem_of_mem_take id)) (fun z => nc (z.imp List.mem_of_mem_take id)) h hc
  | _, _, .tb na h, _ => .tb (fun z => na (z.imp List.mem_of_mem_take id)) h
  | _, _, .dN na h, _ => .dN (fun z => na (z.imp List.mem_of_mem_take id)) h
theorem Reps.cut {n : Nat} : ∀ {xs : List V} {l : List T}, Reps K (mset bs m) H xs l → okRs n l = true → Reps K (mset bs (m.take n)) H xs l
  | _, _, .nil, _ => .nil
  | _, _, .cons h r, e => by
    unfold okRs at e
    rw [Bool.and_eq_true] at e
    exact .cons (Rep.cut h e.1) (Reps.cut r e.2)
end
mutual
/-- what stands refers to cells that are there -/
theorem Rep.okr : ∀ {v : V} {t : T}, Rep K (mset bs m) H v t → okR m.length t = true
  | _, _, .non => by unfold okR; rfl
  | _, _, .bl b => by unfold okR; rfl
  | _, _, .int i => by unfold okR; rfl
  | _, _, .str x => by unfold okR; rfl
  | _, _, .tup h r => by unfold okR; exact Reps.okr r
  | _, _, .wt h r => by unfold okR; exact Reps.okr r
  | _, _, .lst na h r => by unfold okR; exact Reps.okr r
  | _, _, .dK na h r => by unfold okR; exact Reps.okr r
  | _, _, .dT na h r => by unfold okR; exact Reps.okr r
  | _, _, .obj na h r => by unfold okR; exact Reps.okr r
  | _, _, .cls C => by unfold okR; rfl
  | _, _, .scr h => by unfold okR; rfl
  | _, _, .ref (n := k) h => by
    unfold okR
    have h : m[k]? = some _ := h
    simpa using (List.getElem?_eq_some_iff.mp h).1
  | _, _, .fn x => by unfold okR; rfl
  | _, _, .exc na h r => by unfold okR; exact Reps.okr r
  | _, _, .lam .. => by unfold okR; rfl
  | _, _, .tb .. => by unfold okR; rfl
  | _, _, .dN .. => by unfold okR; rfl
theorem Reps.okr : ∀ {xs : List V} {l : List T}, Reps K (mset bs m) H xs l → okRs m.length l = true
  | _, _, .nil => rfl
  | _, _, .cons h r => by
    unfold okRs
    rw [Rep.okr h, Reps.okr r]
    rfl
end
end
/-! ### cells -/
abbrev St := List T
/-- a table of code objects: each one that it tells is the k-th lambda's, and no cell -/
def TabK (A : ASet) (H : Hp) (a : Addr) (k : Nat) : Prop := ∃ ps : Array Value, H a = some (.tbl ps) ∧ TriplesOk ps.toList ∧ ∀ (pos : Pos) (cv : Value), codeAmong pos ps.toList = some cv → ∃ c, cv = .ref c ∧ H c = some (LamX.CodeO c (lamQ k)) ∧ ¬ A c
theorem TabK.lk {A B : ASet} {H H' : Hp} {a : Addr} {k : Nat} (t : TabK A H a k) (L : Lk A H B H') (o : ∀ o, H a = some o → H' a = some o) : TabK B H' a k := by
  obtain ⟨ps, h1, h2, h3⟩ := t
  refine ⟨ps, o _ h1, h2, fun pos cv hc => ?_⟩
  obtain ⟨c, e1, e2, e3⟩ := h3 pos cv hc
  exact ⟨c, e1, (L.all _ _ e3 e2).1, (L.all _ _ e3 e2).2⟩
theorem TabK.sub {A B : ASet} {H : Hp} {a : Addr} {k : Nat} (t : TabK A H a k) (s : ∀ c, B c → A c) : TabK B H a k := by
  obtain ⟨ps, h1, h2, h3⟩ := t
  refine ⟨ps, h1, h2, fun pos cv hc => ?_⟩
  obtain ⟨c, e1, e2, e3⟩ := h3 pos cv hc
  exact ⟨c, e1, e2, fun z => e3 (s c z)⟩
/-- a dict by its raw entries -/
def RawD (a : Addr) (es : Array DictEntry) : Heap → Prop := fun h => ∃ o ep, h.get? a = some o ∧ o.ExactDict ∧ o.data = .dict es ep ∧ (a == sysModules) = false
inductive CellAt (K : PySem.W.Frag) (A : ASet) (H : Hp) : Addr → T → Prop where
  | lst {a : Addr} {xs : List V} {l : List T} (h : H a = some (.lst xs)) (r : Reps K A H xs l) : CellAt K A H a (.lst l)
  | dK {a : Addr} {kvs : List (Key × V)} {l : List T} (h : H a = some (.dK kvs)) (r : Reps K A H (kvs.map (·.2)) l) : CellAt K A H a (.dK (kvs.map (·.1)) l)
  | dT {a : Addr} {kvs : List (List Key × V)} {l : List T} (h : H a = some (.dT kvs)) (r : Reps K A H (kvs.map (·.2)) l) : CellAt K A H a (.dT (kvs.map (·.1)) l)
  | obj {a dx : Addr} {C : Str} {fs : List (Str × V)} {l : List T} (h : H a = some (.ins (He.ga K C) dx fs)) (r : Reps K A H (fs.map (·.2)) l) : CellAt K A H a (.obj C (fs.map (·.1)) l)
  | lkK {a : Addr} {o : Obj} {kvs : List (Key × V)} {l : List T} (h : H a = some (.frz o (.dK kvs))) (r : Reps K A H (kvs.map (·.2)) l) : CellAt K A H a (.lk (.dK (kvs.map (·.1)) l))
  | lkT {a : Addr} {o : Obj} {kvs : List (List Key × V)} {l : List T} (h : H a = some (.frz o (.dT kvs))) (r : Reps K A H (kvs.map (·.2)) l) : CellAt K A H a (.lk (.dT (kvs.map (·.1)) l))
  | tb {a : Addr} {k : Nat} (t : TabK A H a k) (e : a = tabP K k) : CellAt K A H a (.lam (2 * k + 1))
  /-- a dict with nested keys: the keys, their hashes, the values (all plain) -/
  | dN {a : Addr} {es : Array DictEntry} {bs : List Addr} {ks : List T} {vs : List V} {l : List T} (h : H a = some (.ext (RawD a es))) (hk : es.toList.map (·.key) = bs.map Value.ref) (rk : Reps K A H (bs.map V.ref) ks) (pk : okRs 0 ks = true) (hv : Vals vs (es.toList.map (·.val))) (rv : Reps K A H vs l) (pl : okRs 0 l = true) : CellAt K A H a (.dN ks (es.toList.map (·.hash)) l)
/-- the cells S stand at m; those ahead of a bound refer to none behind it -/
structure Cs (K : PySem.W.Frag) (bs : Bx) (m : List Addr) (S : St) (H : Hp) : Prop where
  len : m.length = S.length
  nd : m.Nodup
  bl : ∀ b ∈ bs.b, b ≤ m.length
  hid : ∀ a ∈ bs.h, a ∉ m ∧ ∃ o, H a = some o
  cell : ∀ (n : Nat) (c : T) (a : Addr), S[n]? = some c → m[n]? = some a → CellAt K (mset bs m) H a c
  old : ∀ b ∈ bs.b, ∀ (k : Nat) (c : T), k < b → S[k]? = some c → okR b c = true
/-- from (m, H) to (m', H'): cells from fl on may change, new cells are new objects -/
structure Kp (fl : Nat) (m : List Addr) (H : Hp) (m' : List Addr) (H' : Hp) : Prop where
  pre : ∃ e, m' = m ++ e ∧ ∀ a ∈ e, H a = none
  all : ∀ b o, b ∉ m.drop fl → H b = some o → H' b = some o
  tup : ∀ b xs, H b = some (.tup xs) → H' b = some (.tup xs)
  frz : ∀ b o u, H b = some (.frz o u) → H' b = some (.frz o u)
  dom : ∀ b o, H b = some o → ∃ o', H' b = some o'
section
variable {K : PySem.W.Frag} {fl : Nat} {bs : Bx} {m m1 m2 : List Addr} {H H1 H2 : Hp} {S S1 : St}
theorem Kp.of_same (s : Same H H1) : Kp fl m H m H1 := ⟨⟨[], by simp, by simp⟩, fun b o _ e => s b o e, fun b xs e => s b _ e, fun b o u e => s b _ e, fun b o e => ⟨o, s b o e⟩⟩
theorem Kp.refl : Kp fl m H m H := Kp.of_same (L2.Same.refl _)
theorem Kp.trans (a : Kp fl m H m1 H1) (b : Kp fl m1 H1 m2 H2) : Kp fl m H m2 H2 := by
  obtain ⟨⟨e1, rfl, n1⟩, a2, a3, a4, a5⟩ := a
  obtain ⟨⟨e2, rfl, n2⟩, b2, b3, b4, b5⟩ := b
  refine ⟨⟨e1 ++ e2, by simp, fun x hx => ?_⟩, fun x o hx e => b2 x o (fun z => ?_) (a2 x o hx e), fun x xs e => b3 _ _ (a3 _ _ e), fun x o u e => b4 _ _ _ (a4 _ _ _ e), fun x o e => by
    obtain ⟨o1, e1⟩ := a5 x o e
    exact b5 x o1 e1⟩
  · rcases List.mem_append.mp hx with h | h
    · exact n1 x h
    · cases e : H x with
      | none => rfl
      | some o =>
        obtain ⟨o1, z⟩ := a5 x o e
        rw [n2 x h] at z
        cases z
  · rw [List.drop_append] at z
    rcases List.mem_append.mp z with z | z
    · exact hx z
    · have := n1 x (List.mem_of_mem_drop z)
      rw [this] at e
      cases e
theorem Kp.lkx {bs' : Bx} (k : Kp fl m H m1 H1) (hb : ∀ a ∈ bs'.h, a ∈ bs.h ∨ H a = none) : Lk (mset bs m) H (mset bs' m1) H1 := by
  obtain ⟨⟨e, rfl, ne⟩, h2, h3, h4, _⟩ := k
  refine ⟨fun n a h => ?_, fun b o nb eb => ⟨h2 b o (fun z => nb (.inl (List.mem_of_mem_drop z))) eb, fun z => ?_⟩, h3, h4⟩
  · have h : m[n]? = some a := h
    show (m ++ e)[n]? = some a
    rw [List.getElem?_append_left (List.getElem?_eq_some_iff.mp h).1]
    exact h
  · rcases z with z | z
    · rcases List.mem_append.mp z with z | z
      · exact nb (.inl z)
      · rw [ne b z] at eb
        cases eb
    · rcases hb b z with q | q
      · exact nb (.inr q)
      · rw [q] at eb
        cases eb
theorem Kp.lk (k : Kp fl m H m1 H1) : Lk (mset bs m) H (mset bs m1) H1 := k.lkx fun _ h => .inl h
end
end Tm

/-! N1: runs over trees and cells, readings by mirrors, expressions. -/
namespace Tm
open PySem PySem.Spec PyProof.Rows L2
/-- a frame's lines: cells from fl on may be written; cells from n0 on are the frame's own -/
structure Cf where
  fl : Nat
  n0 : Nat
abbrev Ro := List (Option T)
inductive Rs (α : Type) where
  | ok (a : α) (S : St)
  | ex (x : T) (S : St)
  | st
abbrev Ev (α : Type) := Cf → Ro → St → Rs α
def Ev.bind {α β : Type} (f : Ev α) (g : α → Ev β) : Ev β := fun c ρ S => match f c ρ S with
  | .ok a S1 => g a c ρ S1
  | .ex x S1 => .ex x S1
  | .st => .st
def Ev.lift {α : Type} (o : Option α) : Ev α := fun _ _ S => match o with
  | some a => .ok a S
  | none => .st
/-- a raised exception: its class and what it keeps -/
def XAt (K : PySem.W.Frag) (A : ASet) (H : Hp) (x : T) (cls : Value) (d : Option Addr) : Prop := ∃ c ns l, x = .obj c ns l ∧
  cls = .ref (He.ga K c) ∧ ((d = none ∧ ns = [] ∧ l = []) ∨ ∃ dd fs, d = some dd ∧ H dd = some (.xd fs) ∧ ¬ A dd ∧ fs.map (·.1) = ns ∧ Reps K A H (fs.map (·.2)) l)
structure FAt (K : PySem.W.Frag) (c : Cf) (bs : Bx) (m : List Addr) (S : St) (σ : L2.St) (H : Hp) (ρ : Ro) : Prop where
  cs : Cs K bs m S H
  bn : ∀ b ∈ bs.b, b ≤ c.n0
  len : σ.length = ρ.length
  sl : ∀ (i : Nat) (t : T), ρ[i]? = some (some t) → ∃ v, σ[i]? = some (some v) ∧ Rep K (mset bs m) H v t
def RsOk {α ν : Type} (K : PySem.W.Frag) (W : WX) (bs : Bx) (fl : Nat) (m : List Addr) (σ : L2.St) (H : Hp) (RP : List Addr → Hp → ν → α → Prop) (Q : ν → Hp → Prop) : Rs α → Prop
  | .ok a S' => ∀ v m' H', Cs K bs m' S' H' → Kp fl m H m' H' → RP m' H' v a → Q v H'
  | .ex x S' => ∀ cls d m' H', Cs K bs m' S' H' → Kp fl m H m' H' → XAt K (mset bs m') H' x cls d → W cls d σ H'
  | .st => False
section
variable {α β ν μ : Type} {K : PySem.W.Frag} {W : WX} {c : Cf} {bs : Bx} {fl : Nat} {m m1 : List Addr} {S S1 : St} {H H1 : Hp} {σ : L2.St} {RP : List Addr → Hp → ν → α → Prop} {RQ : List Addr → Hp → μ → β → Prop} {Q : ν → Hp → Prop} {Q' : μ → Hp → Prop} {ρ : Ro}
theorem FAt.kp (F : FAt K c bs m S σ H ρ) (cs : Cs K bs m1 S1 H1) (k : Kp fl m H m1 H1) : FAt K c bs m1 S1 σ H1 ρ :=
  ⟨cs, F.bn, F.len, fun i t h => by
    obtain ⟨v, e, r⟩ := F.sl i t h
    exact ⟨v, e, r.lk k.lk⟩⟩
theorem Cs.same (h : Cs K bs m S H) (s : Same H H1) : Cs K bs m S H1 := ⟨h.len, h.nd, h.bl, fun a ha => ⟨(h.hid a ha).1, by obtain ⟨o, e⟩ := (h.hid a ha).2; exact ⟨o, s _ _ e⟩⟩, fun n c a hc ha => by
  have := h.cell n c a hc ha
  cases this with
  | lst h r => exact .lst (s _ _ h) (r.same s)
  | dK h r => exact .dK (s _ _ h) (r.same s)
  | dT h r => exact .dT (s _ _ h) (r.same s)
  | obj h r => exact .obj (s _ _ h) (r.same s)
  | lkK h r => exact .lkK (s _ _ h) (r.same s)
  | lkT h r => exact .lkT (s _ _ h) (r.same s)
  | dN h hk rk pk hv rv pl => exact .dN (s _ _ h) hk (rk.same s) pk hv (rv.same s) pl
  | tb t e => exact .tb (t.lk (Lk.of_same s) fun o e => s _ _ e) e, h.old⟩
theorem FAt.same (F : FAt K c bs m S σ H ρ) (s : Same H H1) : FAt K c bs m S σ H1 ρ := F.kp (F.cs.same s) (Kp.of_same (fl := 0) s)
theorem Cs.dom (h : Cs K bs m S H) : ∀ a ∈ m, ∃ o, H a = some o := fun a ha => by
  obtain ⟨n, hn, e⟩ := List.mem_iff_getElem.mp ha
  have e1 : m[n]? = some a := by rw [List.getElem?_eq_getElem hn, e]
  have hn' : n < S.length := h.len ▸ hn
  have := h.cell n _ a (List.getElem?_eq_getElem hn') e1
  generalize S[n] = c at this
  cases this with
  | lst h r => exact ⟨_, h⟩
  | dK h r => exact ⟨_, h⟩
  | dT h r => exact ⟨_, h⟩
  | obj h r => exact ⟨_, h⟩
  | lkK h r => exact ⟨_, h⟩
  | lkT h r => exact ⟨_, h⟩
  | tb t e => exact ⟨_, t.choose_spec.1⟩
  | dN h hk rk pk hv rv pl => exact ⟨_, h⟩
theorem RsOk.step {r : Rs α} (k : Kp fl m H m1 H1) (h : RsOk K W bs fl m σ H RP Q r) : RsOk K W bs fl m1 σ H1 RP Q r := by
  cases r with
  | ok a S' => exact fun v m' H' cs k' R => h v m' H' cs (k.trans k') R
  | ex x S' => exact fun cls d m' H' cs k' R => h cls d m' H' cs (k.trans k') R
  | st => exact h
theorem RsOk.bindE {f : Ev α} {g : α → Ev β} (F : FAt K c bs m S σ H ρ) (h : RsOk K W bs fl m σ H RQ Q' (Ev.bind f g c ρ S))
    (k : ∀ a v m1 H1 S1, f c ρ S = .ok a S1 → FAt K c bs m1 S1 σ H1 ρ → Kp fl m H m1 H1 → RP m1 H1 v a → RsOk K W bs fl m1 σ H1 RQ Q' (g a c ρ S1) → Q v H1) : RsOk K W bs fl m σ H RP Q (f c ρ S) := by
  unfold Ev.bind at h
  cases e : f c ρ S with
  | ok a S' =>
    rw [e] at h
    exact fun v m' H' cs k' R => k a v m' H' S' e (F.kp cs k') k' R (RsOk.step k' h)
  | ex x S' =>
    rw [e] at h
    exact h
  | st =>
    rw [e] at h
    exact h
theorem RsOk.bind {f : Ev α} {g : α → Ev β} (F : FAt K c bs m S σ H ρ) (h : RsOk K W bs fl m σ H RQ Q' (Ev.bind f g c ρ S))
    (k : ∀ a v m1 H1 S1, FAt K c bs m1 S1 σ H1 ρ → Kp fl m H m1 H1 → RP m1 H1 v a → RsOk K W bs fl m1 σ H1 RQ Q' (g a c ρ S1) → Q v H1) : RsOk K W bs fl m σ H RP Q (f c ρ S) := by
  unfold Ev.bind at h
  cases e : f c ρ S with
  | ok a S' =>
    rw [e] at h
    exact fun v m' H' cs k' R => k a v m' H' S' (F.kp cs k') k' R (RsOk.step k' h)
  | ex x S' =>
    rw [e] at h
    exact h
  | st =>
    rw [e] at h
    exact h
end
/-- the readings -/
def RpT (K : PySem.W.Frag) (bs : Bx) : List Addr → Hp → V → T → Prop := fun m H v t => Rep K (mset bs m) H v t
def RpA (K : PySem.W.Frag) (bs : Bx) : List Addr → Hp → List V → List T → Prop := fun m H v t => Reps K (mset bs m) H v t
def RpE {α : Type} : List Addr → Hp → α → α → Prop := fun _ _ v t => v = t
def tX (K : PySem.W.Frag) (W : WX) (f : Ev T) : TE := fun σ H Q => ∃ c bs m S ρ, FAt K c bs m S σ H ρ ∧ RsOk K W bs c.fl m σ H (RpT K bs) Q (f c ρ S)
def tXA (K : PySem.W.Frag) (W : WX) (f : Ev (List T)) : TA := fun σ H Q => ∃ c bs m S ρ, FAt K c bs m S σ H ρ ∧ RsOk K W bs c.fl m σ H (RpA K bs) Q (f c ρ S)
def tXT (K : PySem.W.Frag) (W : WX) (f : Ev Bool) : TT := fun σ H Q => ∃ c bs m S ρ, FAt K c bs m S σ H ρ ∧ RsOk K W bs c.fl m σ H RpE Q (f c ρ S)
theorem PE.imp {X : Cx} {e : Expr} {t t' : TE} (h : PE X e t) (i : ∀ σ H Q, t' σ H Q → t σ H Q) : PE X e t' := ⟨fun pins s σ H Q I hw => h.run pins s σ H Q I (i _ _ _ hw)⟩
theorem PT.imp {X : Cx} {e : Expr} {t t' : TT} (h : PT X e t) (i : ∀ σ H Q, t' σ H Q → t σ H Q) : PT X e t' := ⟨fun pins s σ H Q I hw => h.run pins s σ H Q I (i _ _ _ hw)⟩
theorem PW.imp {X : Cx} {e : Expr} {t t' : TT} (h : PW X e t) (i : ∀ σ H Q, t' σ H Q → t σ H Q) : PW X e t' := ⟨fun wh pins s σ H Q I hw => h.run wh pins s σ H Q I (i _ _ _ hw)⟩
theorem PA.imp {X : Cx} {e : List Expr} {t t' : TA} (h : PA X e t) (i : ∀ σ H Q, t' σ H Q → t σ H Q) : PA X e t' := ⟨fun pos pins s σ H Q I hw => h.run pos pins s σ H Q I (i _ _ _ hw)⟩
theorem PS.imp {X : Cx} {e : Stmt} {t t' : TS} (h : PS X e t) (i : ∀ D σ H, t' D σ H → t D σ H) : PS X e t' := ⟨fun pins s σ H D I hw => h.run pins s σ H D I (i _ _ _ hw)⟩
theorem PSs.imp {X : Cx} {e : List Stmt} {t t' : TS} (h : PSs X e t) (i : ∀ D σ H, t' D σ H → t D σ H) : PSs X e t' := ⟨fun pins s σ H D I hw => h.run pins s σ H D I (i _ _ _ hw)⟩
/-! ### the combinators -/
def unlk : T → T
  | .lk t => t
  | t => t
def vw (S : St) : T → T
  | .ref n => unlk ((S[n]?).getD .non)
  | t => t
def scaT : T → Bool
  | .non => true
  | .bl _ => true
  | .int _ => true
  | .str _ => true
  | _ => false
/-- a plain answer, or a scalar of the cells' contents -/
def orV (o : Option T) (o' : Option T) (S : St) : Rs T := match o with
  | some z => .ok z S
  | none => match o' with
    | some z => if scaT z = true then .ok z S else .st
    | none => .st
def mVar (i : Nat) : Ev T := fun _ ρ S => match ρ[i]? with
  | some (some t) => .ok t S
  | _ => .st
def mC (t : T) : Ev T := fun _ _ S => .ok t S
def mOp (f : T → T → Option T) (a b : Ev T) : Ev T := a.bind fun x => b.bind fun y _ _ S => orV (f x y) (f (vw S x) (vw S y)) S
def mUn (f : T → Option T) (a : Ev T) : Ev T := a.bind fun x _ _ S => orV (f x) (f (vw S x)) S
def mNil : Ev (List T) := fun _ _ S => .ok [] S
def mCons (a : Ev T) (r : Ev (List T)) : Ev (List T) := a.bind fun x => r.bind fun xs _ _ S => .ok (x :: xs) S
def mB (f : List T → Option T) (a : Ev (List T)) : Ev T := a.bind fun xs _ _ S => orV (f xs) (f (xs.map (vw S))) S
def mTst (a : Ev T) : Ev Bool := a.bind fun x => match x with
  | .bl b => fun _ _ S => .ok b S
  | _ => fun _ _ _ => .st
def mNotT (a : Ev Bool) : Ev Bool := a.bind fun b _ _ S => .ok (!b) S
def mAndT (a b : Ev Bool) : Ev Bool := a.bind fun x => if x = true then b else fun _ _ S => .ok false S
def mOrT (a b : Ev Bool) : Ev Bool := a.bind fun x => if x = true then fun _ _ S => .ok true S else b
def mIf (c : Ev Bool) (a b : Ev T) : Ev T := c.bind fun x => if x = true then a else b
def mChain (f g : T → T → Option T) (a b c : Ev T) : Ev T := a.bind fun x => b.bind fun y => match f x y with
  | some (.bl true) => c.bind fun z => Ev.lift (g y z)
  | some (.bl false) => fun _ _ S => .ok (.bl false) S
  | _ => fun _ _ _ => .st
def mAnd (a b : Ev T) : Ev T := a.bind fun x => match x with
  | .bl true => b
  | .bl false => fun _ _ S => .ok (.bl false) S
  | _ => fun _ _ _ => .st
def mOr (a b : Ev T) : Ev T := a.bind fun x => match x with
  | .bl true => fun _ _ S => .ok (.bl true) S
  | .bl false => b
  | _ => fun _ _ _ => .st
def mNot (a : Ev T) : Ev T := a.bind fun x => match x with
  | .bl b => fun _ _ S => .ok (.bl (!b)) S
  | _ => fun _ _ _ => .st
/-! ### what an operation does to trees -/
def Dom (A : ASet) (H : Hp) : Prop := ∀ a, A a → ∃ o, H a = some o
theorem Dom.same {A : ASet} {H H' : Hp} (d : Dom A H) (s : Same H H') : Dom A H' := fun a h => by
  obtain ⟨o, e⟩ := d a h
  exact ⟨o, s _ _ e⟩
theorem Dom.new {A : ASet} {H : Hp} (d : Dom A H) {p : Addr} (h : H p = none) : ¬ A p := fun z => by
  obtain ⟨o, e⟩ := d p z
  rw [h] at e
  cases e
def OpT (K : PySem.W.Frag) (r : R2) (f : T → T → Option T) : Prop := ∀ A H x y tx ty tz Q, Dom A H → Rep K A H x tx → Rep K A H y ty → f tx ty = some tz → (∀ v H', Same H H' → Rep K A H' v tz → Q v H') → r x y H Q
def UnT (K : PySem.W.Frag) (r : V → Hp → VK → Prop) (f : T → Option T) : Prop := ∀ A H x tx tz Q, Dom A H → Rep K A H x tx → f tx = some tz → (∀ v H', Same H H' → Rep K A H' v tz → Q v H') → r x H Q
def CallT (K : PySem.W.Frag) (r : List V → Hp → VK → Prop) (f : List T → Option T) : Prop := ∀ A H xs ts tz Q, Dom A H → Reps K A H xs ts → f ts = some tz → (∀ v H', Same H H' → Rep K A H' v tz → Q v H') → r xs H Q
theorem OpT.or1 {K : PySem.W.Frag} {r r' : R2} {f : T → T → Option T} (h : OpT K r f) : OpT K (fun x y H Q => r x y H Q ∨ r' x y H Q) f := fun A H x y tx ty tz Q d rx ry e k => .inl (h A H x y tx ty tz Q d rx ry e k)
/-- avoiding nothing -/
def ASet.fr (A : ASet) : ASet := ⟨fun _ => False, A.ad⟩
section
variable {K : PySem.W.Frag} {A : ASet} {H : Hp} {bs : Bx} {m : List Addr} {S : St}
theorem Lk.free : Lk A H A.fr H := ⟨fun _ _ h => h, fun _ _ _ e => ⟨e, id⟩, fun _ _ e => e, fun _ _ _ e => e⟩
theorem dom_fr : Dom A.fr H := fun _ h => h.elim
theorem CellAt.rep {a : Addr} {c : T} (h : CellAt K A H a c) : Rep K A.fr H (.ref a) (unlk c) := by
  cases h with
  | lst h r => exact .lst id h (r.lk Lk.free)
  | dK h r => exact .dK id (.inl h) (r.lk Lk.free)
  | dT h r => exact .dT id (.inl h) (r.lk Lk.free)
  | obj h r => exact .obj id h (r.lk Lk.free)
  | lkK h r => exact .dK id (.inr ⟨_, h⟩) (r.lk Lk.free)
  | lkT h r => exact .dT id (.inr ⟨_, h⟩) (r.lk Lk.free)
  | tb t e => exact .tb id t.choose_spec.1
  | dN h hk rk pk hv rv pl => exact .dN id h
theorem Cs.vw (cs : Cs K bs m S H) {v : V} {t : T} (r : Rep K (mset bs m) H v t) : Rep K (mset bs m).fr H v (vw S t) := by
  cases r with
  | ref h =>
    rename_i a n
    have h : m[n]? = some a := h
    have hn : n < S.length := cs.len ▸ (List.getElem?_eq_some_iff.mp h).1
    have e : S[n]? = some S[n] := List.getElem?_eq_getElem hn
    show Rep K (mset bs m).fr H (.ref a) (unlk ((S[n]?).getD .non))
    rw [e]
    exact (cs.cell n _ a e h).rep
  | non => exact .non
  | bl b => exact .bl b
  | int i => exact .int i
  | str x => exact .str x
  | tup h r => exact Rep.lk Lk.free (.tup h r)
  | wt h r => exact Rep.lk Lk.free (.wt h r)
  | lst na h r => exact Rep.lk Lk.free (.lst na h r)
  | dK na h r => exact Rep.lk Lk.free (.dK na h r)
  | dT na h r => exact Rep.lk Lk.free (.dT na h r)
  | obj na h r => exact Rep.lk Lk.free (.obj na h r)
  | exc na h r => exact Rep.lk Lk.free (.exc na h r)
  | cls C => exact .cls C
  | scr h => exact Rep.lk Lk.free (.scr h)
  | fn x => exact .fn x
  | lam na nc h hc => exact Rep.lk Lk.free (.lam na nc h hc)
  | tb na h => exact Rep.lk Lk.free (.tb na h)
  | dN na h => exact Rep.lk Lk.free (.dN na h)
theorem Cs.vws (cs : Cs K bs m S H) : ∀ {vs : List V} {l : List T}, Reps K (mset bs m) H vs l → Reps K (mset bs m).fr H vs (l.map (Tm.vw S))
  | _, _, .nil => .nil
  | _, _, .cons h r => .cons (cs.vw h) (Cs.vws cs r)
theorem Rep.sca {A B : ASet} {v : V} {t : T} (r : Rep K A H v t) (h : scaT t = true) : Rep K B H v t := by
  cases r with
  | non => exact .non
  | bl b => exact .bl b
  | int i => exact .int i
  | str x => exact .str x
  | _ => cases h
end
section
variable {X : Cx} {K : PySem.W.Frag} {W : WX} {a b c e : Expr} {es : List Expr} {fa fb fc : Ev T} {pos p : Pos}
theorem Cs.domA {bs : Bx} {m : List Addr} {S : St} {H : Hp} (h : Cs K bs m S H) : Dom (mset bs m) H := fun a z => z.elim (h.dom a) fun z => (h.hid a z).2
/-- an answer by a tree, or by what stands in cells -/
theorem orV_ok {cf : Cf} {bs : Bx} {fl : Nat} {m : List Addr} {S : St} {σ : L2.St} {H : Hp} {ρ : Ro} {Q : VK} {o o' : Option T} (F : FAt K cf bs m S σ H ρ) (h : RsOk K W bs fl m σ H (RpT K bs) Q (orV o o' S)) :
    (∃ z, o = some z ∧ ∀ v H', Same H H' → Rep K (mset bs m) H' v z → Q v H') ∨ (∃ z, o' = some z ∧ ∀ v H', Same H H' → Rep K (mset bs m).fr H' v z → Q v H') := by
  unfold orV at h
  cases o with
  | some z => exact .inl ⟨z, rfl, fun v H' s r => h v m H' (F.cs.same s) (Kp.of_same s) r⟩
  | none =>
    cases o' with
    | none => exact h.elim
    | some z =>
      dsimp only at h
      split at h
      · rename_i hz
        exact .inr ⟨z, rfl, fun v H' s r => h v m H' (F.cs.same s) (Kp.of_same s) (r.sca hz)⟩
      · exact h.elim
theorem m_var (i : Nat) {x : Str} (hN : X.N[i]? = some x := by rfl) (hv : Vis X.env.scope x := by first | exact Or.inl rfl | exact Or.inr (Or.inl rfl) | exact Or.inr (Or.inr rfl)) (hd : (x == ("__debug__" : Str)) = false := by decide)
    (hcd : (x == ("__classdict__" : Str)) = false := by decide) : PE X (.Name x pos) (tX K W (mVar i)) := by
  refine PE.imp (pe_var hN hv hd hcd) fun σ H Q h => ?_
  obtain ⟨cf, bs, m, S, ρ, F, h⟩ := h
  unfold mVar at h
  split at h
  · rename_i t e
    obtain ⟨v, hv, r⟩ := F.sl _ _ e
    exact ⟨v, hv, h v m H F.cs Kp.refl r⟩
  · exact h.elim
theorem m_const {t : T} {v : V} (h : PE X e (tC v)) (r : ∀ A H, Rep K A H v t) : PE X e (tX K W (mC t)) := by
  refine PE.imp h fun σ H Q h => ?_
  obtain ⟨cf, bs, m, S, ρ, F, h⟩ := h
  exact h v m H F.cs Kp.refl (r _ _)
theorem m_int {i : Int} {j} : PE X (.Constant (.int i) j pos) (tX K W (mC (.int i))) := m_const pe_int fun _ _ => .int i
theorem m_str {i : Str} {j} : PE X (.Constant (.str i) j pos) (tX K W (mC (.str i))) := m_const pe_str fun _ _ => .str i
theorem m_bl {i : Bool} {j} : PE X (.Constant (.bool i) j pos) (tX K W (mC (.bl i))) := m_const pe_bl fun _ _ => .bl i
theorem m_non {j} : PE X (.Constant .none j pos) (tX K W (mC .non)) := m_const pe_non fun _ _ => .non
theorem m_gi {x : Str} {i : Int} (hm : ∃ u, X.mg x = some (.int i u)) (hg : Gl X x := by rfl) (hd : (x == ("__debug__" : Str)) = false := by decide) : PE X (.Name x pos) (tX K W (mC (.int i))) := m_const (pe_gi hm hg hd) fun _ _ => .int i
theorem m_gs {x : Str} {i : Str} (hm : ∃ u, X.mg x = some (.str i u)) (hg : Gl X x := by rfl) (hd : (x == ("__debug__" : Str)) = false := by decide) : PE X (.Name x pos) (tX K W (mC (.str i))) := m_const (pe_gs hm hg hd) fun _ _ => .str i
theorem op_read {r : R2} {f : T → T → Option T} {σ : L2.St} {H : Hp} {Q : VK} (ht : OpT K r f) (h : tX K W (mOp f fa fb) σ H Q) : tOp r (tX K W fa) (tX K W fb) σ H Q := by
  obtain ⟨cf, bs, m, S, ρ, F, h⟩ := h
  refine ⟨cf, bs, m, S, ρ, F, RsOk.bind F h fun x vx m1 H1 S1 F1 k1 R1 h1 => ⟨cf, bs, m1, S1, ρ, F1, RsOk.bind F1 h1 fun y vy m2 H2 S2 F2 k2 R2 h2 => ?_⟩⟩
  have R1 : Rep K (mset bs m2) H2 vx x := Rep.lk k2.lk R1
  rcases orV_ok F2 h2 with ⟨z, e, k⟩ | ⟨z, e, k⟩
  · exact ht _ H2 vx vy x y z Q F2.cs.domA R1 R2 e k
  · exact ht _ H2 vx vy _ _ z Q dom_fr (F2.cs.vw R1) (F2.cs.vw R2) e k
theorem m_op {op : Operator} {r : R2} {f : T → T → Option T} (ho : OpR X (binaryOp op) r) (ht : OpT K r f) (ha : PE X a (tX K W fa)) (hb : PE X b (tX K W fb)) : PE X (.BinOp a op b pos) (tX K W (mOp f fa fb)) :=
  PE.imp (pe_op ho ha hb) fun _ _ _ h => op_read ht h
theorem m_cmp {op : CmpOp} {r : R2} {f : T → T → Option T} (ho : OpR X (compareOp op) r) (ht : OpT K r f) (ha : PE X a (tX K W fa)) (hb : PE X b (tX K W fb)) (hm : behindInMarks op b = false) : PE X (.Compare a [op] [b] pos) (tX K W (mOp f fa fb)) :=
  PE.imp (pe_cmpR ho ha hb hm) fun _ _ _ h => op_read ht h
theorem tst_read {f : Ev T} {σ : L2.St} {H : Hp} {Q : Bool → Hp → Prop} (h : tXT K W (mTst f) σ H Q) : tX K W f σ H fun x H1 => ∃ c, x = .bl c ∧ Q c H1 := by
  obtain ⟨cf, bs, m, S, ρ, F, h⟩ := h
  refine ⟨cf, bs, m, S, ρ, F, RsOk.bind F h fun x vx m1 H1 S1 F1 k1 R1 h1 => ?_⟩
  unfold RpT at R1
  cases R1 with
  | bl b => exact ⟨b, rfl, h1 b m1 H1 F1.cs Kp.refl rfl⟩
  | _ => exact h1.elim
theorem m_tst (ha : PE X e (tX K W fa)) (he : ∀ whole, isTrue e X.env whole = (do let v ← whole; standAt e.pos; holding [v] (truthy v)) := by intro _; rfl) : PT X e (tXT K W (mTst fa)) :=
  PT.imp (pt_val ha he) fun _ _ _ h => tst_read h
theorem m_tcmp {op : CmpOp} {r : R2} {f : T → T → Option T} (ho : OpR X (compareOp op) r) (ht : OpT K r f) (ha : PE X a (tX K W fa)) (hb : PE X b (tX K W fb)) (hm : behindInMarks op b = false) : PT X (.Compare a [op] [b] pos) (tXT K W (mTst (mOp f fa fb))) :=
  PT.imp (pt_cmpR ho ha hb hm) fun σ H Q h => by
    have := tst_read h
    exact op_read (Q := fun x H1 => ∃ k, x = .bl k ∧ Q k H1) ht this
section
variable {ta tb : Ev Bool}
theorem m_tnot (ha : PT X a (tXT K W ta)) : PT X (.UnaryOp .Not a pos) (tXT K W (mNotT ta)) := PT.imp (pt_not ha) fun σ H Q h => by
  obtain ⟨cf, bs, m, S, ρ, F, h⟩ := h
  exact ⟨cf, bs, m, S, ρ, F, RsOk.bind F h fun x vx m1 H1 S1 F1 k1 R1 h1 => by cases R1; exact h1 _ m1 H1 F1.cs Kp.refl rfl⟩
theorem m_pand1 (ha : PT X a (tXT K W ta)) : PW X (.BoolOp .And [a] pos) (tXT K W ta) := pw_and1 ha
theorem m_por1 (ha : PT X a (tXT K W ta)) : PW X (.BoolOp .Or [a] pos) (tXT K W ta) := pw_or1 ha
theorem m_pand {rest : List Expr} (ha : PT X a (tXT K W ta)) (hb : PW X (.BoolOp .And (b :: rest) pos) (tXT K W tb)) : PW X (.BoolOp .And (a :: b :: rest) pos) (tXT K W (mAndT ta tb)) := PW.imp (pw_and ha hb) fun σ H Q h => by
  obtain ⟨cf, bs, m, S, ρ, F, h⟩ := h
  refine ⟨cf, bs, m, S, ρ, F, RsOk.bind F h fun x vx m1 H1 S1 F1 k1 R1 h1 => ?_⟩
  cases R1
  cases x with
  | true => exact iteT ⟨cf, bs, m1, S1, ρ, F1, h1⟩
  | false => exact iteF (h1 _ m1 H1 F1.cs Kp.refl rfl)
theorem m_por {rest : List Expr} (ha : PT X a (tXT K W ta)) (hb : PW X (.BoolOp .Or (b :: rest) pos) (tXT K W tb)) : PW X (.BoolOp .Or (a :: b :: rest) pos) (tXT K W (mOrT ta tb)) := PW.imp (pw_or ha hb) fun σ H Q h => by
  obtain ⟨cf, bs, m, S, ρ, F, h⟩ := h
  refine ⟨cf, bs, m, S, ρ, F, RsOk.bind F h fun x vx m1 H1 S1 F1 k1 R1 h1 => ?_⟩
  cases R1
  cases x with
  | true => exact iteT (h1 _ m1 H1 F1.cs Kp.refl rfl)
  | false => exact iteF ⟨cf, bs, m1, S1, ρ, F1, h1⟩
theorem m_ifE {c : Expr} (hc : PT X c (tXT K W ta)) (ha : PE X a (tX K W fa)) (hb : PE X b (tX K W fb)) : PE X (.IfExp c a b pos) (tX K W (mIf ta fa fb)) := PE.imp (pe_ifExp hc ha hb) fun σ H Q h => by
  obtain ⟨cf, bs, m, S, ρ, F, h⟩ := h
  refine ⟨cf, bs, m, S, ρ, F, RsOk.bind F h fun x vx m1 H1 S1 F1 k1 R1 h1 => ?_⟩
  cases R1
  cases x with
  | true => exact iteT ⟨cf, bs, m1, S1, ρ, F1, h1⟩
  | false => exact iteF ⟨cf, bs, m1, S1, ρ, F1, h1⟩
end
theorem m_one {o : BoolOp} (ha : PE X a (tX K W fa)) : PE X (.BoolOp o [a] pos) (tX K W fa) := pe_one ha
theorem m_and {rest : List Expr} (ha : PE X a (tX K W fa)) (hb : PE X (.BoolOp .And (b :: rest) pos) (tX K W fb)) : PE X (.BoolOp .And (a :: b :: rest) pos) (tX K W (mAnd fa fb)) := PE.imp (pe_and ha hb) fun σ H Q h => by
  obtain ⟨cf, bs, m, S, ρ, F, h⟩ := h
  refine ⟨cf, bs, m, S, ρ, F, RsOk.bind F h fun x vx m1 H1 S1 F1 k1 R1 h1 => ?_⟩
  unfold RpT at R1
  cases R1 with
  | bl c =>
    cases c with
    | true => exact ⟨true, rfl, iteT ⟨cf, bs, m1, S1, ρ, F1, h1⟩⟩
    | false => exact ⟨false, rfl, iteF (h1 _ m1 H1 F1.cs Kp.refl (.bl _))⟩
  | _ => exact h1.elim
theorem m_not (ha : PE X a (tX K W fa)) : PE X (.UnaryOp .Not a pos) (tX K W (mNot fa)) := PE.imp (pe_not ha) fun σ H Q h => by
  obtain ⟨cf, bs, m, S, ρ, F, h⟩ := h
  refine ⟨cf, bs, m, S, ρ, F, RsOk.bind F h fun x vx m1 H1 S1 F1 k1 R1 h1 => ?_⟩
  unfold RpT at R1
  cases R1 with
  | bl c => exact ⟨c, rfl, h1 _ m1 H1 F1.cs Kp.refl (.bl _)⟩
  | _ => exact h1.elim
theorem un_read {r : V → Hp → VK → Prop} {f : T → Option T} {σ : L2.St} {H : Hp} {Q : VK} (ht : UnT K r f) (h : tX K W (mUn f fa) σ H Q) : tX K W fa σ H fun x H1 => r x H1 Q := by
  obtain ⟨cf, bs, m, S, ρ, F, h⟩ := h
  refine ⟨cf, bs, m, S, ρ, F, RsOk.bind F h fun x vx m1 H1 S1 F1 k1 R1 h1 => ?_⟩
  rcases orV_ok F1 h1 with ⟨z, e, k⟩ | ⟨z, e, k⟩
  · exact ht _ H1 vx x z Q F1.cs.domA R1 e k
  · exact ht _ H1 vx _ z Q dom_fr (F1.cs.vw R1) e k
theorem m_un {op : UnaryOp} {r : V → Hp → VK → Prop} {f : T → Option T} (ho : UnR X (unaryOp op) r) (ht : UnT K r f) (ha : PE X a (tX K W fa)) : PE X (.UnaryOp op a pos) (tX K W (mUn f fa)) := PE.imp (pe_un ho ha) fun σ H Q h => un_read ht h
/-! chains of two -/
theorem chain_read {r r' : R2} {f g : T → T → Option T} {σ : L2.St} {H : Hp} {Q : VK} (ht : OpT K r f) (ht' : OpT K r' g) (h : tX K W (mChain f g fa fb fc) σ H Q) : tChain r r' (tX K W fa) (tX K W fb) (tX K W fc) σ H Q := by
  obtain ⟨cf, bs, m, S, ρ, F, h⟩ := h
  refine ⟨cf, bs, m, S, ρ, F, RsOk.bind F h fun x vx m1 H1 S1 F1 k1 R1 h1 => ⟨cf, bs, m1, S1, ρ, F1, RsOk.bind F1 h1 fun y vy m2 H2 S2 F2 k2 R2 h2 => ?_⟩⟩
  have R1' : Rep K (mset bs m2) H2 vx x := Rep.lk k2.lk R1
  have key : ∀ k, f x y = some (.bl k) → _ := fun k e => ht _ H2 vx vy x y _ (fun z H3 => ∃ k, z = .bl k ∧ (if k = true then tX K W fc σ H3 fun w' H4 => r' vy w' H4 Q else Q (.bl false) H3)) F2.cs.domA R1' R2 e
  cases e : f x y with
  | none =>
    simp only [e] at h2
    exact h2.elim
  | some tz =>
  cases tz with
  | bl k =>
   cases k with
   | true =>
    simp only [e] at h2
    refine key true e fun v H' s r1 => ?_
    cases r1
    have F3 := F2.same s
    refine ⟨true, rfl, iteT ⟨cf, bs, m2, S2, ρ, F3, RsOk.bind F3 (RsOk.step (Kp.of_same s) h2) fun z vz m3 H3 S3 F3 k3 R3 h3 => ?_⟩⟩
    unfold Ev.lift at h3
    cases e' : g y z with
    | none => rw [e'] at h3; exact h3.elim
    | some t =>
      rw [e'] at h3
      exact ht' _ H3 vy vz y z t Q F3.cs.domA (Rep.lk k3.lk (Rep.same s R2)) R3 e' fun v H' s r' => h3 v m3 H' (F3.cs.same s) (Kp.of_same s) r'
   | false =>
    simp only [e] at h2
    refine key false e fun v H' s r1 => ?_
    cases r1
    exact ⟨false, rfl, iteF (h2 _ m2 H' (F2.cs.same s) (Kp.of_same s) (.bl _))⟩
  | _ =>
    simp only [e] at h2
    exact h2.elim
theorem m_tchain {op op' : CmpOp} {r r' : R2} {f g : T → T → Option T} (ho : OpR X (compareOp op) r) (ho' : OpR X (compareOp op') r') (ht : OpT K r f) (ht' : OpT K r' g) (ha : PE X a (tX K W fa)) (hb : PE X b (tX K W fb)) (hc : PE X c (tX K W fc))
    (hm : lastMarks [op, op'] [b, c] = false := by with_unfolding_all rfl) : PT X (.Compare a [op, op'] [b, c] pos) (tXT K W (mTst (mChain f g fa fb fc))) :=
  PT.imp (pt_chain ho ho' ha hb hc hm) fun σ H Q h => by
    have := tst_read h
    exact chain_read (Q := fun x H1 => ∃ k, x = .bl k ∧ Q k H1) ht ht' this
/-! ### arguments -/
variable {fr : Ev (List T)}
theorem m_nil : PA X [] (tXA K W mNil) := PA.imp pa_nil fun σ H Q h => by
  obtain ⟨cf, bs, m, S, ρ, F, h⟩ := h
  exact h [] m H F.cs Kp.refl .nil
theorem m_cons (ha : PE X e (tX K W fa)) (hr : PA X es (tXA K W fr)) (hs : starEach (e :: es) X.env = (false, eval e X.env) :: starEach es X.env := by rfl) : PA X (e :: es) (tXA K W (mCons fa fr)) := PA.imp (pa_cons ha hr hs) fun σ H Q h => by
  obtain ⟨cf, bs, m, S, ρ, F, h⟩ := h
  refine ⟨cf, bs, m, S, ρ, F, RsOk.bind F h fun x vx m1 H1 S1 F1 k1 R1 h1 => ⟨cf, bs, m1, S1, ρ, F1, RsOk.bind F1 h1 fun y vy m2 H2 S2 F2 k2 R2 h2 => ?_⟩⟩
  exact h2 _ m2 H2 F2.cs Kp.refl (.cons (Rep.lk k2.lk R1) R2)
theorem call_read {r : List V → Hp → VK → Prop} {f : List T → Option T} {σ : L2.St} {H : Hp} {Q : VK} (ht : CallT K r f) (h : tX K W (mB f fr) σ H Q) : tXA K W fr σ H fun vs H1 => r vs H1 Q := by
  obtain ⟨cf, bs, m, S, ρ, F, h⟩ := h
  refine ⟨cf, bs, m, S, ρ, F, RsOk.bind F h fun x vx m1 H1 S1 F1 k1 R1 h1 => ?_⟩
  rcases orV_ok F1 h1 with ⟨z, e, k⟩ | ⟨z, e, k⟩
  · exact ht _ H1 vx x z Q F1.cs.domA R1 e k
  · exact ht _ H1 vx _ z Q dom_fr (F1.cs.vws R1) e k
theorem m_callB {id : String} {x : Str} {np : Pos} {r : List V → Hp → VK → Prop} {f : List T → Option T} (hc : CallR X (.builtin id) r) (ht : CallT K r f) (hm : X.mg x = none) (hv : bootBuiltins x = some (.builtin id)) (ha : PA X (e :: es) (tXA K W fr)) (hg : Gl X x := by rfl) (hn : x ≠ "__name__" := by decide) (hdb : (x == ("__debug__" : Str)) = false := by decide)
    (he : starEach (e :: es) X.env = (false, eval e X.env) :: starEach es X.env := by rfl) (hpl : (backTo pos (starEach es X.env)).any (·.1) = false := by rfl) : PE X (.Call (.Name x np) (e :: es) [] pos) (tX K W (mB f fr)) :=
  PE.imp (pe_callB hc hg hm hv ha hn hdb he hpl) fun _ _ _ h => call_read ht h
theorem m_callTy {id : String} {x : Str} {np : Pos} {r : List V → Hp → VK → Prop} {f : List T → Option T} (hc : CallR X (.type id) r) (ht : CallT K r f) (hm : X.mg x = none) (hv : bootBuiltins x = some (.type id)) (ha : PA X (e :: es) (tXA K W fr)) (hg : Gl X x := by rfl) (hn : x ≠ "__name__" := by decide) (hdb : (x == ("__debug__" : Str)) = false := by decide)
    (he : starEach (e :: es) X.env = (false, eval e X.env) :: starEach es X.env := by rfl) (hpl : (backTo pos (starEach es X.env)).any (·.1) = false := by rfl) : PE X (.Call (.Name x np) (e :: es) [] pos) (tX K W (mB f fr)) :=
  PE.imp (pe_callTy hc hg hm hv ha hn hdb he hpl) fun _ _ _ h => call_read ht h
/-! ### new tuples and lists -/
theorem big_le {n : Nat} (h : n ≤ 1000000) : n ≤ sizeLine := Nat.le_trans h (by rw [sizeLine_eq]; decide)
def mTup (fr : Ev (List T)) : Ev T := fr.bind fun xs _ _ S => if xs.length ≤ 1000000 then .ok (.tup xs) S else .st
def mLst (fr : Ev (List T)) : Ev T := fr.bind fun xs _ _ S => if xs.length ≤ 1000000 then .ok (.lst xs) S else .st
theorem m_tup {x1} (h : PA X es (tXA K W fr)) : PE X (.Tuple es x1 pos) (tX K W (mTup fr)) := PE.imp (pe_tup h) fun σ H Q h => by
  obtain ⟨cf, bs, m, S, ρ, F, h⟩ := h
  refine ⟨cf, bs, m, S, ρ, F, RsOk.bind F h fun xs vs m1 H1 S1 F1 k1 R1 h1 => ?_⟩
  have R1 : Reps K (mset bs m1) H1 vs xs := R1
  split at h1
  · rename_i hl
    refine ⟨big_le (by rw [R1.length]; exact hl), fun p hp => ?_⟩
    have s := same_new (o := .tup vs) hp
    exact h1 _ m1 _ (F1.cs.same s) (Kp.of_same s) (.tup upd_same (R1.same s))
  · exact h1.elim
theorem m_lst (h : PA X es (tXA K W fr)) : PE X (.List es pos) (tX K W (mLst fr)) := PE.imp (pe_lst h) fun σ H Q h => by
  obtain ⟨cf, bs, m, S, ρ, F, h⟩ := h
  refine ⟨cf, bs, m, S, ρ, F, RsOk.bind F h fun xs vs m1 H1 S1 F1 k1 R1 h1 => ?_⟩
  have R1 : Reps K (mset bs m1) H1 vs xs := R1
  split at h1
  · rename_i hl
    refine ⟨big_le (by rw [R1.length]; exact hl), fun p hp => ?_⟩
    have s := same_new (o := .lst vs) hp
    exact h1 _ m1 _ (F1.cs.same s) (Kp.of_same s) (.lst (F1.cs.domA.new hp) upd_same (R1.same s))
  · exact h1.elim
/-! ### fields -/
def nix (ns : List Str) (f : Str) : Nat := ns.findIdx (· == f)
theorem lookup_nix : ∀ {fs : List (Str × V)} {f : Str} {v : V}, f ∈ fs.map (·.1) → (fs.map (·.2))[nix (fs.map (·.1)) f]? = some v → fs.lookup f = some v
  | [], f, v, h, _ => nomatch h
  | (n, u) :: fs, f, v, h, e => by
    rw [List.lookup_cons]
    by_cases q : f = n
    · subst q
      simp [nix, List.findIdx_cons] at e
      simp [e]
    · have q' : ¬ n = f := fun z => q z.symm
      have h1 : f ∈ fs.map (·.1) := by
        simp only [List.map_cons, List.mem_cons] at h
        exact h.resolve_left q
      have e2 : (n == f) = false := beq_eq_false_iff_ne.mpr q'
      have e3 : (f == n) = false := beq_eq_false_iff_ne.mpr q
      rw [e3]
      refine lookup_nix h1 ?_
      simpa [nix, List.findIdx_cons, e2] using e
/-- of which classes a field may be read -/
def m_fldC (K : PySem.W.Frag) (Cs : List Str) (f : Str) : Prop := ∀ C ∈ Cs, Cls K (He.ga K C) ∧ NoAttr K (He.ga K C) f
def fFldC (Cs : List Str) (f : Str) (t : T) : Option T := match t with
  | .obj C ns l => if C ∈ Cs ∧ f ∈ ns then l[nix ns f]? else none
  | _ => none
/-- a field of a tree or a cell -/
def mFld (Cs : List Str) (f : Str) (fa : Ev T) : Ev T := fa.bind fun x _ _ S => match fFldC Cs f (vw S x) with
  | some z => .ok z S
  | none => .st
/-- an instance, in a tree or a cell -/
theorem ins_at {bs : Bx} {m : List Addr} {S : St} {H : Hp} (cs : Cs K bs m S H) {v : V} {t : T} (r : Rep K (mset bs m) H v t) {C : Str} {ns : List Str} {l : List T} (e : vw S t = .obj C ns l) :
    ∃ a dx fs, v = .ref a ∧ H a = some (.ins (He.ga K C) dx fs) ∧ fs.map (·.1) = ns ∧ Reps K (mset bs m) H (fs.map (·.2)) l := by
  cases r with
  | obj na h r =>
    cases e
    exact ⟨_, _, _, rfl, h, rfl, r⟩
  | ref h =>
    rename_i a n
    have h : m[n]? = some a := h
    have hn : n < S.length := cs.len ▸ (List.getElem?_eq_some_iff.mp h).1
    have es : S[n]? = some S[n] := List.getElem?_eq_getElem hn
    have e : unlk ((S[n]?).getD .non) = .obj C ns l := e
    rw [es] at e
    have e : unlk S[n] = .obj C ns l := e
    have := cs.cell n _ a es h
    generalize S[n] = cc at this e
    cases this with
    | obj h r => cases e; exact ⟨_, _, _, rfl, h, rfl, r⟩
    | _ => cases e
  | _ => cases e
theorem m_fld {f : Str} {Cs : List Str} (hC : m_fldC K Cs f) (he : PE X e (tX K W fa)) (hb : attributeBase e f X.env (eval e X.env) = eval e X.env := by rfl) (hK : X.K = K := by rfl) : PE X (.Attribute e f pos) (tX K W (mFld Cs f fa)) := PE.imp (k_fld K he hb hK) fun σ H Q h => by
  obtain ⟨cf, bs, m, S, ρ, F, h⟩ := h
  refine ⟨cf, bs, m, S, ρ, F, RsOk.bind F h fun x vx m1 H1 S1 F1 k1 R1 h1 => ?_⟩
  cases e : fFldC Cs f (vw S1 x) with
  | none => rw [e] at h1; exact h1.elim
  | some z =>
    rw [e] at h1
    unfold fFldC at e
    split at e
    · rename_i C ns l et
      split at e
      · rename_i hc
        obtain ⟨a, dx, fs, rfl, ha, rfl, rs⟩ := ins_at F1.cs R1 et
        obtain ⟨v, ev, rv⟩ := rs.get e
        obtain ⟨c1, c2⟩ := hC _ hc.1
        exact ⟨_, _, _, _, v, rfl, ha, c1, c2, lookup_nix hc.2 ev, h1 v m1 H1 F1.cs Kp.refl rv⟩
      · cases e
    · cases e
end
end Tm

/-! N2: statements. -/
namespace Tm
open PySem PySem.Spec PyProof.Rows L2
inductive Ou where
  | nx (ρ : Ro) (S : St)
  | rt (t : T) (S : St)
  | br (ρ : Ro) (S : St)
  | ct (ρ : Ro) (S : St)
  | ex (x : T) (ρ : Ro) (S : St)
  | st
abbrev Sv := Cf → Ro → St → Ou
def OuOk (K : PySem.W.Frag) (W : WX) (cf : Cf) (bs : Bx) (m : List Addr) (H : Hp) (D : Ends) : Ou → Prop
  | .nx ρ' S' => ∀ σ' m' H', FAt K cf bs m' S' σ' H' ρ' → Kp cf.fl m H m' H' → D.nx σ' H'
  | .br ρ' S' => ∀ σ' m' H', FAt K cf bs m' S' σ' H' ρ' → Kp cf.fl m H m' H' → D.bk σ' H'
  | .ct ρ' S' => ∀ σ' m' H', FAt K cf bs m' S' σ' H' ρ' → Kp cf.fl m H m' H' → D.ct σ' H'
  | .rt t S' => ∀ v m' H', Cs K bs m' S' H' → Kp cf.fl m H m' H' → Rep K (mset bs m') H' v t → D.rt v H'
  | .ex x ρ' S' => ∀ cls d σ' m' H', FAt K cf bs m' S' σ' H' ρ' → Kp cf.fl m H m' H' → XAt K (mset bs m') H' x cls d → W cls d σ' H'
  | .st => False
def tXS (K : PySem.W.Frag) (W : WX) (g : Sv) : TS := fun D σ H => ∃ c bs m S ρ, FAt K c bs m S σ H ρ ∧ OuOk K W c bs m H D (g c ρ S)
/-- an expression's end, then k -/
def ouE {α : Type} (r : Rs α) (ρ : Ro) (k : α → St → Ou) : Ou := match r with
  | .ok a S => k a S
  | .ex x S => .ex x ρ S
  | .st => .st
section
variable {K : PySem.W.Frag} {W : WX} {cf : Cf} {bs : Bx} {m m1 : List Addr} {S S1 : St} {H H1 : Hp} {D : Ends} {σ : L2.St} {ρ ρ1 : Ro}
theorem OuOk.step {o : Ou} (k : Kp cf.fl m H m1 H1) (h : OuOk K W cf bs m H D o) : OuOk K W cf bs m1 H1 D o := by
  cases o with
  | nx ρ' S' => exact fun σ' m' H' F' k' => h σ' m' H' F' (k.trans k')
  | br ρ' S' => exact fun σ' m' H' F' k' => h σ' m' H' F' (k.trans k')
  | ct ρ' S' => exact fun σ' m' H' F' k' => h σ' m' H' F' (k.trans k')
  | rt t S' => exact fun v m' H' cs k' r => h v m' H' cs (k.trans k') r
  | ex x ρ' S' => exact fun cls d σ' m' H' F' k' r => h cls d σ' m' H' F' (k.trans k') r
  | st => exact h
/-- an expression, then k -/
theorem OuOk.ofE {α ν : Type} {RP : List Addr → Hp → ν → α → Prop} {Q : ν → Hp → Prop} (F : FAt K cf bs m S σ H ρ) {r : Rs α} {k : α → St → Ou} (h : OuOk K W cf bs m H D (ouE r ρ k))
    (hk : ∀ a v m1 H1 S1, r = .ok a S1 → FAt K cf bs m1 S1 σ H1 ρ → Kp cf.fl m H m1 H1 → RP m1 H1 v a → OuOk K W cf bs m1 H1 D (k a S1) → Q v H1) : RsOk K W bs cf.fl m σ H RP Q r := by
  cases r with
  | ok a S' => exact fun v m' H' cs k' R => hk a v m' H' S' rfl (F.kp cs k') k' R (OuOk.step k' h)
  | ex x S' => exact fun cls d m' H' cs k' R => h cls d σ m' H' (F.kp cs k') k' R
  | st => exact h
end
/-! ### the combinators -/
def sNext : Sv := fun _ ρ S => .nx ρ S
def sSeq (g h : Sv) : Sv := fun c ρ S => match g c ρ S with
  | .nx ρ1 S1 => h c ρ1 S1
  | o => o
/-- targets: what a value does to the slots and cells -/
abbrev Tg := T → Cf → Ro → St → Option (Ro × St)
def gNm (i : Nat) : Tg := fun t _ ρ S => if i < ρ.length then some (ρ.set i (some t), S) else none
def gTup0 : List Tg → List T → Cf → Ro → St → Option (Ro × St)
  | [], [], _, ρ, S => some (ρ, S)
  | g :: gs, t :: l, c, ρ, S => match g t c ρ S with
    | some (ρ1, S1) => gTup0 gs l c ρ1 S1
    | none => none
  | _, _, _, _, _ => none
def gTup (gs : List Tg) : Tg := fun t c ρ S => match t with
  | .tup l => gTup0 gs l c ρ S
  | .lst l => gTup0 gs l c ρ S
  | .wt l => gTup0 gs l c ρ S
  | _ => none
def sAsg (f : Ev T) (g : Tg) : Sv := fun c ρ S => ouE (f c ρ S) ρ fun t S => match g t c ρ S with
  | some (ρ1, S1) => .nx ρ1 S1
  | none => .st
def sRet (f : Ev T) : Sv := fun c ρ S => ouE (f c ρ S) ρ fun t S => .rt t S
def sExpr (f : Ev T) : Sv := fun c ρ S => ouE (f c ρ S) ρ fun _ S => .nx ρ S
def sIf (t : Ev Bool) (g h : Sv) : Sv := fun c ρ S => ouE (t c ρ S) ρ fun b S => if b = true then g c ρ S else h c ρ S
def forL (g : Tg) (b : Sv) : List T → Sv
  | [], _, ρ, S => .nx ρ S
  | x :: l, c, ρ, S => match g x c ρ S with
    | some (ρ1, S1) => match b c ρ1 S1 with
      | .nx ρ2 S2 => forL g b l c ρ2 S2
      | .ct ρ2 S2 => forL g b l c ρ2 S2
      | .br ρ2 S2 => .nx ρ2 S2
      | o => o
    | none => .st
def whL (t : Ev Bool) (b : Sv) : Nat → Sv
  | 0, _, _, _ => .st
  | n + 1, c, ρ, S => match t c ρ S with
    | .ok true S1 => match b c ρ S1 with
      | .nx ρ2 S2 => whL t b n c ρ2 S2
      | .ct ρ2 S2 => whL t b n c ρ2 S2
      | .br ρ2 S2 => .nx ρ2 S2
      | o => o
    | .ok false S1 => .nx ρ S1
    | .ex x S1 => .ex x ρ S1
    | .st => .st
/-- as long as it lasts, at most this often -/
def whLine : Nat := 1000000000000
def sWhile (t : Ev Bool) (b : Sv) : Sv := whL t b whLine
theorem whL_mono {t : Ev Bool} {b : Sv} : ∀ {n : Nat} {c : Cf} {ρ : Ro} {S : St}, whL t b n c ρ S ≠ .st → whL t b (n + 1) c ρ S = whL t b n c ρ S
  | 0, c, ρ, S, h => absurd rfl h
  | n + 1, c, ρ, S, h => by
    unfold whL at h ⊢
    cases e : t c ρ S with
    | ok x S1 =>
      cases x with
      | true =>
        simp only [e] at h ⊢
        cases e2 : b c ρ S1 with
        | nx ρ2 S2 => simp only [e2] at h ⊢; exact whL_mono h
        | ct ρ2 S2 => simp only [e2] at h ⊢; exact whL_mono h
        | br ρ2 S2 => simp only [e2] at h ⊢
        | rt t S2 => simp only [e2] at h ⊢
        | ex x ρ2 S2 => simp only [e2] at h ⊢
        | st => simp only [e2] at h ⊢
      | false => simp only [e] at h ⊢
    | ex x S1 => simp only [e] at h ⊢
    | st => simp only [e] at h ⊢
theorem whL_le {t : Ev Bool} {b : Sv} {n k : Nat} {c : Cf} {ρ : Ro} {S : St} (h : whL t b n c ρ S ≠ .st) (hk : n ≤ k) : whL t b k c ρ S = whL t b n c ρ S := by
  obtain ⟨j, rfl⟩ := Nat.exists_eq_add_of_le hk
  induction j with
  | zero => rfl
  | succ j ih =>
    have e := ih (Nat.le_add_right _ _)
    rw [← e]
    show whL t b (n + j + 1) c ρ S = _
    exact whL_mono (by rw [e]; exact h)
/-! ### the rules -/
section
variable {X : Cx} {K : PySem.W.Frag} {W : WX} {e : Expr} {st : Stmt} {rest body : List Stmt} {f : Ev T} {g h : Sv} {pos : Pos}
theorem s_nil : PSs X [] (tXS K W sNext) := PSs.imp pss_nil fun D σ H h => by
  obtain ⟨cf, bs, m, S, ρ, F, h⟩ := h
  exact h σ m H F Kp.refl
theorem s_cons (h1 : PS X st (tXS K W g)) (h2 : PSs X rest (tXS K W h)) : PSs X (st :: rest) (tXS K W (sSeq g h)) := PSs.imp (pss_cons h1 h2) fun D σ H q => by
  obtain ⟨cf, bs, m, S, ρ, F, q⟩ := q
  refine ⟨cf, bs, m, S, ρ, F, ?_⟩
  unfold sSeq at q
  cases e : g cf ρ S with
  | nx ρ1 S1 =>
    rw [e] at q
    exact fun σ' m' H' F' k' => ⟨cf, bs, m', S1, ρ1, F', OuOk.step k' q⟩
  | br ρ1 S1 => rw [e] at q; exact q
  | ct ρ1 S1 => rw [e] at q; exact q
  | rt t S1 => rw [e] at q; exact q
  | ex x ρ1 S1 => rw [e] at q; exact q
  | st => rw [e] at q; exact q
theorem s_one (h1 : PS X st (tXS K W g)) : PSs X [st] (tXS K W g) := pss_one h1
theorem s_ret (he : PE X e (tX K W f)) : PS X (.Return (some e) pos) (tXS K W (sRet f)) := PS.imp (ps_ret he) fun D σ H h => by
  obtain ⟨cf, bs, m, S, ρ, F, h⟩ := h
  exact ⟨cf, bs, m, S, ρ, F, OuOk.ofE F h fun t v m1 H1 S1 _ F1 k1 R1 h1 => h1 v m1 H1 F1.cs Kp.refl R1⟩
theorem s_expr (he : PE X e (tX K W f)) (hs : swapsWith e none pos.line X.env = pure false := by rfl) : PS X (.Expr e pos) (tXS K W (sExpr f)) := PS.imp (ps_expr he hs) fun D σ H h => by
  obtain ⟨cf, bs, m, S, ρ, F, h⟩ := h
  exact ⟨cf, bs, m, S, ρ, F, OuOk.ofE F h fun t v m1 H1 S1 _ F1 k1 R1 h1 => h1 σ m1 H1 F1 Kp.refl⟩
theorem s_never {st : Stmt} : PS X st (tXS K W fun _ _ _ => .st) := ⟨fun _ _ _ _ _ _ ⟨_, _, _, _, _, _, h⟩ => h.elim⟩
theorem s_if {c : Expr} {a b : List Stmt} {tc : Ev Bool} (hc : PT X c (tXT K W tc)) (ha : PSs X a (tXS K W g)) (hb : PSs X b (tXS K W h)) : PS X (.If c a b pos) (tXS K W (sIf tc g h)) := PS.imp (ps_if hc ha hb) fun D σ H q => by
  obtain ⟨cf, bs, m, S, ρ, F, q⟩ := q
  refine ⟨cf, bs, m, S, ρ, F, OuOk.ofE F q fun t v m1 H1 S1 _ F1 k1 R1 h1 => ?_⟩
  cases R1
  cases t with
  | true => exact iteT ⟨cf, bs, m1, S1, ρ, F1, h1⟩
  | false => exact iteF ⟨cf, bs, m1, S1, ρ, F1, h1⟩
/-! targets -/
def Oth (vs : List Nat) (σ σ' : L2.St) : Prop := σ'.length = σ.length ∧ ∀ j : Nat, j ∉ vs → σ'[j]? = σ[j]?
theorem Oth.trans {vs ws : List Nat} {σ σ1 σ2 : L2.St} (a : Oth vs σ σ1) (b : Oth ws σ1 σ2) : Oth (vs ++ ws) σ σ2 := ⟨b.1.trans a.1, fun j h => by
  rw [List.mem_append] at h
  rw [b.2 j fun z => h (.inr z), a.2 j fun z => h (.inl z)]⟩
def tXG (K : PySem.W.Frag) (vs : List Nat) (g : Tg) : TG := fun v σ H Q => ∃ c bs m S ρ t, FAt K c bs m S σ H ρ ∧ Rep K (mset bs m) H v t ∧ ∃ ρ' S', g t c ρ S = some (ρ', S') ∧ ∀ σ' H', FAt K c bs m S' σ' H' ρ' → Kp c.fl m H m H' → Oth vs σ σ' → Q σ' H'
def tXGs (K : PySem.W.Frag) (vs : List Nat) (gs : List Tg) : TGs := fun xs σ H Q => ∃ c bs m S ρ l, FAt K c bs m S σ H ρ ∧ Reps K (mset bs m) H xs l ∧ ∃ ρ' S', gTup0 gs l c ρ S = some (ρ', S') ∧ ∀ σ' H', FAt K c bs m S' σ' H' ρ' → Kp c.fl m H m H' → Oth vs σ σ' → Q σ' H'
theorem PG.imp {X : Cx} {e : Expr} {t t' : TG} (h : PG X e t) (i : ∀ v σ H Q, t' v σ H Q → t v σ H Q) : PG X e t' := ⟨fun pins s σ H v u Q I r hw => h.run pins s σ H v u Q I r (i _ _ _ _ hw)⟩
theorem PG.or {X : Cx} {e : Expr} {t t' : TG} (h : PG X e t) (h' : PG X e t') : PG X e (fun v σ H Q => t v σ H Q ∨ t' v σ H Q) := ⟨fun pins s σ H v u Q I r hw => hw.elim (h.run pins s σ H v u Q I r) (h'.run pins s σ H v u Q I r)⟩
theorem PGs.imp {X : Cx} {e : List Expr} {t t' : TGs} (h : PGs X e t) (i : ∀ v σ H Q, t' v σ H Q → t v σ H Q) : PGs X e t' := ⟨fun pins s σ H v u Q I r hw => h.run pins s σ H v u Q I r (i _ _ _ _ hw)⟩
theorem FAt.set {cf : Cf} {bs : Bx} {m : List Addr} {S : St} {σ : L2.St} {H : Hp} {ρ : Ro} (F : FAt K cf bs m S σ H ρ) {i : Nat} {v : V} {t : T} (r : Rep K (mset bs m) H v t) : FAt K cf bs m S (σ.set i (some v)) H (ρ.set i (some t)) := by
  refine ⟨F.cs, F.bn, by rw [List.length_set, List.length_set]; exact F.len, fun j u h => ?_⟩
  by_cases q : j = i
  · subst q
    have hl : j < ρ.length := by
      have := (List.getElem?_eq_some_iff.mp h).1
      rwa [List.length_set] at this
    rw [List.getElem?_set_self hl] at h
    cases h
    exact ⟨v, by rw [List.getElem?_set_self (by rw [F.len]; exact hl)], r⟩
  · rw [List.getElem?_set_ne (fun z => q z.symm)] at h ⊢
    exact F.sl j u h
theorem g_name (i : Nat) {x : Str} (hN : X.N.Nodup) (hi : X.N[i]? = some x := by rfl) (hx : Loc X.env.scope x := by first | exact Or.inl rfl | exact Or.inr rfl) (hf : X.fn x = true ∨ X.env.scope.names.lookup x = some .local := by first | exact .inl rfl | exact .inr rfl | assumption) : PG X (.Name x pos) (tXG K [i] (gNm i)) := PG.imp (pg_name hN hi hx hf) fun v σ H Q h => by
  obtain ⟨cf, bs, m, S, ρ, t, F, r, ρ', S', e, k⟩ := h
  unfold gNm at e
  split at e
  · cases e
    exact k _ H (F.set r) Kp.refl ⟨List.length_set .., fun j hj => List.getElem?_set_ne fun z => hj (by simp [z])⟩
  · cases e
theorem gs_nil : PGs X [] (tXGs K [] []) := PGs.imp pgs_nil fun v σ H Q h => by
  obtain ⟨cf, bs, m, S, ρ, l, F, r, ρ', S', e, k⟩ := h
  cases l with
  | nil =>
    cases r
    cases e
    exact ⟨rfl, k _ H F Kp.refl ⟨rfl, fun _ _ => rfl⟩⟩
  | cons t l => cases e
theorem gs_cons {es : List Expr} {g : Tg} {gs : List Tg} {vs ws : List Nat} (h1 : PG X e (tXG K vs g)) (h2 : PGs X es (tXGs K ws gs)) (hs : (assignEach (e :: es) X.env).map (·.2) = assign e X.env :: (assignEach es X.env).map (·.2) := by rfl) : PGs X (e :: es) (tXGs K (vs ++ ws) (g :: gs)) := PGs.imp (pgs_cons h1 h2 hs) fun v σ H Q h => by
  obtain ⟨cf, bs, m, S, ρ, l, F, r, ρ', S', e, k⟩ := h
  cases l with
  | nil => cases e
  | cons t l =>
    unfold gTup0 at e
    cases e1 : g t cf ρ S with
    | none => rw [e1] at e; cases e
    | some q =>
      obtain ⟨ρ1, S1⟩ := q
      rw [e1] at e
      cases r with
      | cons r rs =>
        exact ⟨_, _, rfl, cf, bs, m, S, ρ, t, F, r, ρ1, S1, e1, fun σ' H' F' k' o' => ⟨cf, bs, m, S1, ρ1, l, F', Reps.lk k'.lk rs, ρ', S', e, fun σ2 H2 F2 k2 o2 => k _ H2 F2 (k'.trans k2) (o'.trans o2)⟩⟩
theorem gTup0_len : ∀ {gs : List Tg} {l : List T} {c : Cf} {ρ : Ro} {S : St} {q : Ro × St}, gTup0 gs l c ρ S = some q → l.length = gs.length
  | [], [], _, _, _, _, _ => rfl
  | [], _ :: _, _, _, _, _, e => by cases e
  | _ :: _, [], _, _, _, _, e => by cases e
  | g :: gs, t :: l, c, ρ, S, q, e => by
    unfold gTup0 at e
    cases e1 : g t c ρ S with
    | none => rw [e1] at e; cases e
    | some q1 =>
      rw [e1] at e
      rw [List.length_cons, List.length_cons, gTup0_len e]
theorem g_tup {es : List Expr} {kk : Nat} {gs : List Tg} {vs : List Nat} (hc : X.calm = true) (h : PGs X es (tXGs K vs gs))
    (hn : (assignEach es X.env).length = gs.length := by rfl) (hst : (assignEach es X.env).findIdx? (·.1) = none := by rfl) (hK : X.K = K := by rfl) : PG X (.Tuple es kk pos) (tXG K vs (gTup gs)) := by
  subst hK
  refine PG.imp (PG.or (pg_tup hc h hn hst) (pg_lst hc h hn hst)) fun v σ H Q h => ?_
  obtain ⟨cf, bs, m, S, ρ, t, F, r, ρ', S', e, k⟩ := h
  unfold gTup at e
  split at e
  · rename_i l
    cases r with
    | tup hq rs => exact .inl ⟨_, _, rfl, .inl (.inl hq), by rw [rs.length]; exact gTup0_len e, cf, bs, m, S, ρ, l, F, rs, ρ', S', e, k⟩
  · rename_i l
    cases r with
    | lst na hq rs => exact .inr ⟨_, _, rfl, .inl (.inl hq), by rw [rs.length]; exact gTup0_len e, cf, bs, m, S, ρ, l, F, rs, ρ', S', e, k⟩
  · rename_i l
    cases r with
    | wt hq rs => exact .inl ⟨_, _, rfl, hq _, by rw [rs.length]; exact gTup0_len e, cf, bs, m, S, ρ, l, F, rs, ρ', S', e, k⟩
  · cases e
theorem s_asg {tg : Expr} {g : Tg} {vs : List Nat} (he : PE X e (tX K W f)) (hg : PG X tg (tXG K vs g)) (hs : swapsWithSole [tg] e pos.line X.env = pure false := by rfl) (hw : swappedStores [tg] e X.env = pure none := by rfl)
    (h1 : (assignEach [tg] X.env).map (·.2) = [assign tg X.env] := by rfl) : PS X (.Assign [tg] e pos) (tXS K W (sAsg f g)) := PS.imp (ps_asg he hg hs hw h1) fun D σ H h => by
  obtain ⟨cf, bs, m, S, ρ, F, h⟩ := h
  refine ⟨cf, bs, m, S, ρ, F, OuOk.ofE F h fun t v m1 H1 S1 _ F1 k1 R1 h1 => ?_⟩
  cases e : g t cf ρ S1 with
  | none => rw [e] at h1; exact h1.elim
  | some q =>
    obtain ⟨ρ1, S2⟩ := q
    rw [e] at h1
    exact ⟨cf, bs, m1, S1, ρ, t, F1, R1, ρ1, S2, e, fun σ' H' F' k' _ => h1 σ' m1 H' F' k'⟩
/-- name = value -/
theorem s_set (i : Nat) {x : Str} {pos' : Pos} (hN : X.N.Nodup) (he : PE X e (tX K W f)) (hi : X.N[i]? = some x := by rfl) (hx : Loc X.env.scope x := by first | exact Or.inl rfl | exact Or.inr rfl) (hs : swapsWith e (some (.Name x pos')) pos.line X.env = pure false := by rfl) (hf : X.fn x = true ∨ X.env.scope.names.lookup x = some .local := by first | exact .inl rfl | exact .inr rfl | assumption) :
    PS X (.Assign [.Name x pos'] e pos) (tXS K W (sAsg f (gNm i))) := PS.imp (ps_set hN hi hx he hs hf) fun D σ H h => by
  obtain ⟨cf, bs, m, S, ρ, F, h⟩ := h
  refine ⟨cf, bs, m, S, ρ, F, OuOk.ofE F h fun t v m1 H1 S1 _ F1 k1 R1 h1 => ?_⟩
  unfold gNm at h1
  by_cases q : i < ρ.length
  · rw [if_pos q] at h1
    exact h1 _ m1 H1 (F1.set R1) Kp.refl
  · rw [if_neg q] at h1
    exact h1.elim
end
end Tm

/-! N3: loops. -/
namespace Tm
open PySem PySem.Spec PyProof.Rows L2
/-- what is walked: known things, or a cell as it is then -/
inductive Src where
  | fix (l : List T)
  | cell (n : Nat)
  | en (n : Nat)
def srcAt : Src → St → Nat → Option (Option T)
  | .fix l, _, i => some l[i]?
  | .cell n, S, i => match S[n]? with
    | some (.lst l) => some l[i]?
    | _ => none
  | .en n, S, i => match S[n]? with
    | some (.lst l) => some (l[i]?.map fun x => T.tup [.int (i : Nat), x])
    | _ => none
def RpI (K : PySem.W.Frag) (bs : Bx) : List Addr → Hp → It → Src → Prop := fun m H J src => ∀ (bs' : Bx) m2 S2 H2, Lk (mset bs m) H (mset bs' m2) H2 → Cs K bs' m2 S2 H2 → ∀ i,
  (∀ t, srcAt src S2 i = some (some t) → J.go i H2 ∧ ∀ x H3, J.yld i H2 x H3 → Same H2 H3 ∧ Rep K (mset bs' m2) H3 x t) ∧ (srcAt src S2 i = some none → J.stop i H2)
def tXI (K : PySem.W.Frag) (W : WX) (f : Ev Src) : TI := fun σ H R => ∃ c bs m S ρ, FAt K c bs m S σ H ρ ∧ RsOk K W bs c.fl m σ H (RpI K bs) R (f c ρ S)
def mSeqOf (a : Ev T) : Ev Src := a.bind fun x _ _ S => match x with
  | .lst l => .ok (.fix l) S
  | .tup l => .ok (.fix l) S
  | .wt l => .ok (.fix l) S
  | .scr ns => .ok (.fix (ns.map T.int)) S
  | .ref n => match S[n]? with
    | some (.lst _) => .ok (.cell n) S
    | _ => .st
  | _ => .st
section
variable {K : PySem.W.Frag} {bs : Bx} {m : List Addr} {H1 : Hp}
theorem it_list {a : Addr} {l : List T} (r : Rep K (mset bs m) H1 (.ref a) (.lst l)) : RpI K bs m H1 (Itl K a) (.fix l) := fun bs' m2 S2 H2 k cs i => by
  have r2 := r.lk k
  cases r2 with
  | lst na h rs =>
    refine ⟨fun t ht => ?_, fun hi => ?_⟩
    · obtain ⟨x, hx, rx⟩ := rs.get (Option.some.inj ht)
      refine ⟨⟨_, x, .inl (.inl h), hx⟩, fun y H3 ⟨e, k⟩ => ?_⟩
      subst e
      have := k _ (.inl (.inl h))
      rw [hx] at this
      cases this
      exact ⟨L2.Same.refl _, rx⟩
    · have hi := List.getElem?_eq_none_iff.mp (Option.some.inj hi)
      exact ⟨_, .inl (.inl h), by rw [rs.length]; exact hi⟩
theorem it_tup {a : Addr} {l : List T} (r : Rep K (mset bs m) H1 (.ref a) (.tup l) ∨ Rep K (mset bs m) H1 (.ref a) (.wt l)) : RpI K bs m H1 (Itt K a) (.fix l) := fun bs' m2 S2 H2 k cs i => by
  obtain ⟨xs, h, rs⟩ : ∃ xs, SqT K H2 a xs ∧ Reps K (mset bs' m2) H2 xs l := by
    rcases r with r | r
    · have r2 := r.lk k
      cases r2 with
      | tup h rs => exact ⟨_, .inl (.inl h), rs⟩
    · have r2 := r.lk k
      cases r2 with
      | wt h rs => exact ⟨_, h _, rs⟩
  · refine ⟨fun t ht => ?_, fun hi => ?_⟩
    · obtain ⟨x, hx, rx⟩ := rs.get (Option.some.inj ht)
      refine ⟨⟨_, x, h, hx⟩, fun y H3 ⟨e, k⟩ => ?_⟩
      subst e
      have := k _ h
      rw [hx] at this
      cases this
      exact ⟨L2.Same.refl _, rx⟩
    · have hi := List.getElem?_eq_none_iff.mp (Option.some.inj hi)
      exact ⟨_, h, by rw [rs.length]; exact hi⟩
theorem it_scr {a : Addr} {ns : List Int} (r : Rep K (mset bs m) H1 (.ref a) (.scr ns)) : RpI K bs m H1 (Itl K a) (.fix (ns.map T.int)) := fun bs' m2 S2 H2 k cs i => by
  have r2 := r.lk k
  cases r2 with
  | scr h =>
    have rs : Reps K (mset bs' m2) H2 (ns.map V.int) (ns.map T.int) := Reps.ints ns
    have hq := h.sq
    refine ⟨fun t ht => ?_, fun hi => ?_⟩
    · obtain ⟨x, hx, rx⟩ := rs.get (Option.some.inj ht)
      refine ⟨⟨_, x, hq, hx⟩, fun y H3 ⟨e, k⟩ => ?_⟩
      subst e
      have := k _ hq
      rw [hx] at this
      cases this
      exact ⟨L2.Same.refl _, rx⟩
    · have hi := List.getElem?_eq_none_iff.mp (Option.some.inj hi)
      exact ⟨_, hq, by rw [rs.length]; exact hi⟩
theorem it_cell {a : Addr} {n : Nat} (r : Rep K (mset bs m) H1 (.ref a) (.ref n)) : RpI K bs m H1 (Itl K a) (.cell n) := fun bs' m2 S2 H2 k cs i => by
  have r2 := r.lk k
  cases r2 with
  | ref h =>
    have h : m2[n]? = some a := h
    have key : ∀ o, srcAt (.cell n) S2 i = some o → ∃ xs l, H2 a = some (.lst xs) ∧ Reps K (mset bs' m2) H2 xs l ∧ o = l[i]? := fun o e => by
      have e : (match S2[n]? with | some (.lst l) => some l[i]? | _ => none) = some o := e
      cases es : S2[n]? with
      | none => rw [es] at e; cases e
      | some cc =>
        rw [es] at e
        have := cs.cell n cc a es h
        cases this with
        | lst hh rs => exact ⟨_, _, hh, rs, (Option.some.inj e).symm⟩
        | _ => cases e
    refine ⟨fun t ht => ?_, fun hi => ?_⟩
    · obtain ⟨xs, l, hh, rs, e⟩ := key _ ht
      obtain ⟨x, hx, rx⟩ := rs.get e.symm
      refine ⟨⟨_, x, .inl (.inl hh), hx⟩, fun y H3 ⟨e, k⟩ => ?_⟩
      subst e
      have := k _ (.inl (.inl hh))
      rw [hx] at this
      cases this
      exact ⟨L2.Same.refl _, rx⟩
    · obtain ⟨xs, l, hh, rs, e⟩ := key _ hi
      have hi := List.getElem?_eq_none_iff.mp e.symm
      exact ⟨_, .inl (.inl hh), by rw [rs.length]; exact hi⟩
def rgT (lo : Int) (n : Nat) : List T := (List.range n).map fun (i : Nat) => T.int (lo + (i : Int))
theorem rgT_get {lo : Int} {n i : Nat} {t : T} (h : (rgT lo n)[i]? = some t) : i < n ∧ t = .int (lo + (i : Int)) := by
  unfold rgT at h
  rw [List.getElem?_map] at h
  obtain ⟨j, hj, e⟩ := Option.map_eq_some_iff.mp h
  obtain ⟨h1, h2⟩ := List.getElem?_eq_some_iff.mp hj
  rw [List.getElem_range] at h2
  subst h2
  rw [List.length_range] at h1
  exact ⟨h1, e.symm⟩
theorem it_rng {lo : Int} {n : Nat} : RpI K bs m H1 (Itr lo n) (.fix (rgT lo n)) := fun bs' m2 S2 H2 k cs i => by
  refine ⟨fun t ht => ?_, fun hi => ?_⟩
  · obtain ⟨h1, rfl⟩ := rgT_get (Option.some.inj ht)
    refine ⟨h1, fun y H3 ⟨e, q⟩ => ?_⟩
    subst e q
    exact ⟨L2.Same.refl _, .int _⟩
  · have hi := List.getElem?_eq_none_iff.mp (Option.some.inj hi)
    exact show n ≤ i by simpa [rgT] using hi
end
section
variable {X : Cx} {K : PySem.W.Frag} {W : WX} {e tg : Expr} {fa : Ev T} {fr : Ev (List T)}
theorem PI.imp {t t' : TI} (h : PI X tg e t) (i : ∀ σ H R, t' σ H R → t σ H R) : PI X tg e t' := ⟨fun pins s σ H Q I hw => h.run pins s σ H Q I (i _ _ _ hw)⟩
def iSeq2 (K : PySem.W.Frag) (tl : TE) : TI := fun σ H R => tl σ H fun x H1 => ∃ (a : Addr) (xs : List V), x = .ref a ∧ ((SqL K H1 a xs ∧ R (Itl K a) H1) ∨ (SqT K H1 a xs ∧ R (Itt K a) H1))
theorem pi_seq2 {l : Expr} {tl : TE} (hl : PE X l tl) : PI X tg l (iSeq2 X.K tl) := by
  constructor
  intro pins s σ H R I h
  refine thn (hl.run pins s σ H _ I h) ?_
  rintro v s1 ⟨x, H1, I1, r1, a, xs, e, hq⟩
  subst e
  cases r1
  have fp : ∀ b ∈ [s1.heap.objs.size], FpOk X pins H1 b := fun b hb => by
    rw [List.mem_singleton] at hb
    rw [hb]
    exact I1.fpOk (Nat.le_refl _) (I1.hok.fresh (Nat.le_refl _))
  rcases hq with ⟨hq, qL⟩ | ⟨hq, qT⟩
  · obtain ⟨its, rv, p, hz⟩ := I1.list hq
    exact wpAny_pyIter_list p.isList ⟨_, [s1.heap.objs.size], _, _, H1, rfl, I1.kept (t' := s1.toks) fun b o z => Heap.get?_push_of_some _ z, turn_list a _, ⟨_, Heap.get?_push_size _ rfl, rfl, rfl⟩, fp, qL⟩
  · obtain ⟨its, rv, p, hz⟩ := I1.tuple hq
    exact wpAny_pyIter_tuple (show s1.heap.IsTuple a its.toArray from p) ⟨_, [s1.heap.objs.size], _, _, H1, rfl, I1.kept (t' := s1.toks) fun b o z => Heap.get?_push_of_some _ z, turn_tuple a _, ⟨_, Heap.get?_push_size _ rfl, rfl, rfl⟩, fp, qT⟩
theorem i_seq (he : PE X e (tX K W fa)) (hK : X.K = K := by rfl) : PI X tg e (tXI K W (mSeqOf fa)) := by
  subst hK
  refine PI.imp (pi_seq2 he) fun σ H R h => ?_
  obtain ⟨cf, bs, m, S, ρ, F, h⟩ := h
  refine ⟨cf, bs, m, S, ρ, F, RsOk.bind F h fun x vx m1 H1 S1 F1 k1 R1 h1 => ?_⟩
  unfold RpT at R1
  cases R1 with
  | lst na hh rs => exact ⟨_, _, rfl, .inl ⟨.inl (.inl hh), h1 _ m1 H1 F1.cs Kp.refl (it_list (.lst na hh rs))⟩⟩
  | tup hh rs => exact ⟨_, _, rfl, .inr ⟨.inl (.inl hh), h1 _ m1 H1 F1.cs Kp.refl (it_tup (.inl (.tup hh rs)))⟩⟩
  | wt hh rs => exact ⟨_, _, rfl, .inr ⟨hh _, h1 _ m1 H1 F1.cs Kp.refl (it_tup (.inr (.wt hh rs)))⟩⟩
  | scr hh => exact ⟨_, _, rfl, .inl ⟨hh.sq, h1 _ m1 H1 F1.cs Kp.refl (it_scr (.scr hh))⟩⟩
  | @ref a n hh =>
    have hm : m1[n]? = some a := hh
    dsimp only at h1
    cases es : S1[n]? with
    | none => rw [es] at h1; exact h1.elim
    | some cc =>
      rw [es] at h1
      have := F1.cs.cell n cc a es hm
      cases this with
      | lst h r => exact ⟨_, _, rfl, .inl ⟨.inl (.inl h), h1 _ m1 H1 F1.cs Kp.refl (it_cell (.ref hh))⟩⟩
      | _ => exact h1.elim
  | _ => exact h1.elim
def fRng1 : List T → Option (List T)
  | [.int j] => if -(2 ^ 62) ≤ j ∧ j < 2 ^ 62 then some (rgT 0 j.toNat) else none
  | _ => none
def fRng2 : List T → Option (List T)
  | [.int i, .int j] => if -(2 ^ 62) ≤ i ∧ i < 2 ^ 62 ∧ -(2 ^ 62) ≤ j ∧ j < 2 ^ 62 then some (rgT i (j - i).toNat) else none
  | _ => none
def mL (f : List T → Option (List T)) (a : Ev (List T)) : Ev Src := a.bind fun xs _ _ S => match f xs with
  | some l => .ok (.fix l) S
  | none => .st
theorem i_range1 {a : Expr} {p pos : Pos} (hm : X.mg "range" = none) (ha : PA X [a] (tXA K W fr)) (hg : Gl X "range" := by rfl) (hs : starEach [a] X.env = [(false, eval a X.env)] := by rfl) : PI X tg (.Call (.Name "range" p) [a] [] pos) (tXI K W (mL fRng1 fr)) := PI.imp (pi_range1 hg hm ha hs) fun σ H R h => by
  obtain ⟨cf, bs, m, S, ρ, F, h⟩ := h
  refine ⟨cf, bs, m, S, ρ, F, RsOk.bind F h fun x vx m1 H1 S1 F1 k1 R1 h1 => ?_⟩
  unfold RpA at R1
  cases e : fRng1 x with
  | none => rw [e] at h1; exact h1.elim
  | some l =>
    rw [e] at h1
    unfold fRng1 at e
    split at e
    · split at e
      · rename_i hj
        cases e
        cases R1 with
        | cons r rr =>
          cases rr
          cases r
          exact ⟨_, rfl, hj.1, hj.2, h1 _ m1 H1 F1.cs Kp.refl it_rng⟩
      · cases e
    · cases e
theorem i_range2 {a b : Expr} {p pos : Pos} (hm : X.mg "range" = none) (ha : PA X [a, b] (tXA K W fr)) (hg : Gl X "range" := by rfl) (hs : starEach [a, b] X.env = [(false, eval a X.env), (false, eval b X.env)] := by rfl) (hs2 : starEach [b] X.env = [(false, eval b X.env)] := by rfl) : PI X tg (.Call (.Name "range" p) [a, b] [] pos) (tXI K W (mL fRng2 fr)) := PI.imp (pi_range2 hg hm ha hs hs2) fun σ H R h => by
  obtain ⟨cf, bs, m, S, ρ, F, h⟩ := h
  refine ⟨cf, bs, m, S, ρ, F, RsOk.bind F h fun x vx m1 H1 S1 F1 k1 R1 h1 => ?_⟩
  unfold RpA at R1
  cases e : fRng2 x with
  | none => rw [e] at h1; exact h1.elim
  | some l =>
    rw [e] at h1
    unfold fRng2 at e
    split at e
    · split at e
      · rename_i hj
        cases e
        cases R1 with
        | cons r rr =>
          cases rr with
          | cons r2 rr =>
            cases rr
            cases r
            cases r2
            exact ⟨_, _, rfl, ⟨hj.1, hj.2.1, hj.2.2.1, hj.2.2.2⟩, h1 _ m1 H1 F1.cs Kp.refl it_rng⟩
      · cases e
    · cases e
/-! ### for, while -/
def forC (g : Tg) (b : Sv) (n : Nat) : Nat → Nat → Sv
  | 0, _, _, _, _ => .st
  | k + 1, i, c, ρ, S => match S[n]? with
    | some (.lst l) => match l[i]? with
      | none => .nx ρ S
      | some x => match g x c ρ S with
        | some (ρ1, S1) => match b c ρ1 S1 with
          | .nx ρ2 S2 => forC g b n k (i + 1) c ρ2 S2
          | .ct ρ2 S2 => forC g b n k (i + 1) c ρ2 S2
          | .br ρ2 S2 => .nx ρ2 S2
          | o => o
        | none => .st
    | _ => .st
def forE (g : Tg) (b : Sv) (n : Nat) : Nat → Nat → Sv
  | 0, _, _, _, _ => .st
  | k + 1, i, c, ρ, S => match S[n]? with
    | some (.lst l) => match l[i]? with
      | none => .nx ρ S
      | some x => match g (T.tup [.int (i : Nat), x]) c ρ S with
        | some (ρ1, S1) => match b c ρ1 S1 with
          | .nx ρ2 S2 => forE g b n k (i + 1) c ρ2 S2
          | .ct ρ2 S2 => forE g b n k (i + 1) c ρ2 S2
          | .br ρ2 S2 => .nx ρ2 S2
          | o => o
        | none => .st
    | _ => .st
def forS (g : Tg) (b : Sv) : Src → Sv
  | .fix l => forL g b l
  | .cell n => forC g b n whLine 0
  | .en n => forE g b n whLine 0
def sForI (fi : Ev Src) (g : Tg) (b : Sv) : Sv := fun c ρ S => ouE (fi c ρ S) ρ fun src S => forS g b src c ρ S
/-- one turn -/
theorem turn_ok {cf : Cf} {bs : Bx} {m m' : List Addr} {S' : St} {σ' : L2.St} {H1 H3 : Hp} {ρ' : Ro} {D : Ends} {g : Tg} {vs : List Nat} {b : Sv} {v : V} {t : T} {rest : Ro → St → Ou} {I : L2.St → Hp → Prop} (F3 : FAt K cf bs m' S' σ' H3 ρ') (k3 : Kp cf.fl m H1 m' H3) (r3 : Rep K (mset bs m') H3 v t)
    (o : OuOk K W cf bs m H1 D (match g t cf ρ' S' with | some (ρ1, S1) => (match b cf ρ1 S1 with | .nx ρ2 S2 => rest ρ2 S2 | .ct ρ2 S2 => rest ρ2 S2 | .br ρ2 S2 => .nx ρ2 S2 | o => o) | none => .st))
    (hI : ∀ σ5 m5 H5 ρ5 S5, FAt K cf bs m5 S5 σ5 H5 ρ5 → Kp cf.fl m H1 m5 H5 → OuOk K W cf bs m H1 D (rest ρ5 S5) → I σ5 H5) :
    tXG K vs g v σ' H3 fun σ4 H4 => tXS K W b { nx := I, rt := D.rt, bk := D.nx, ct := I } σ4 H4 := by
  cases e2 : g t cf ρ' S' with
  | none => rw [e2] at o; exact o.elim
  | some q =>
    obtain ⟨ρ2, S2⟩ := q
    rw [e2] at o
    dsimp only at o
    refine ⟨cf, bs, m', S', ρ', t, F3, r3, ρ2, S2, e2, fun σ4 H4 F4 k4 _ => ⟨cf, bs, m', S2, ρ2, F4, ?_⟩⟩
    have k34 := k3.trans k4
    cases e5 : b cf ρ2 S2 with
    | nx ρ5 S5 =>
      rw [e5] at o
      exact fun σ5 m5 H5 F5 k5 => hI σ5 m5 H5 ρ5 S5 F5 (k34.trans k5) o
    | ct ρ5 S5 =>
      rw [e5] at o
      exact fun σ5 m5 H5 F5 k5 => hI σ5 m5 H5 ρ5 S5 F5 (k34.trans k5) o
    | br ρ5 S5 =>
      rw [e5] at o
      exact fun σ5 m5 H5 F5 k5 => o σ5 m5 H5 F5 (k34.trans k5)
    | rt t5 S5 =>
      rw [e5] at o
      exact fun v m5 H5 cs k5 r => o v m5 H5 cs (k34.trans k5) r
    | ex x5 ρ5 S5 =>
      rw [e5] at o
      exact fun cls d σ5 m5 H5 F5 k5 r => o cls d σ5 m5 H5 F5 (k34.trans k5) r
    | st =>
      rw [e5] at o
      exact o.elim
theorem s_for {iter : Expr} {body : List Stmt} {fi : Ev Src} {g : Tg} {b : Sv} {vs : List Nat} {pos : Pos} (hp : PassesOwn (model X.prog X.w) X.A X.env X.xe) (hc : X.calm = true) (hi : PI X tg iter (tXI K W fi)) (hg : PG X tg (tXG K vs g)) (hb : PSs X body (tXS K W b))
    (hs : ∀ x, foldedSetIterable iter X.env x = pure x := by intro _; rfl) : PS X (.For tg iter body [] pos) (tXS K W (sForI fi g b)) := PS.imp (ps_for hp hc hi hg hb hs) fun D σ H h => by
  obtain ⟨cf, bs, m, S, ρ, F, h⟩ := h
  refine ⟨cf, bs, m, S, ρ, F, OuOk.ofE F h fun src J m1 H1 S1 _ F1 k1 R1 h1 => ?_⟩
  cases src with
  | fix l =>
    refine ⟨fun i k σ' H' => k = l.length - i ∧ i ≤ l.length ∧ ∃ m' S' ρ', FAt K cf bs m' S' σ' H' ρ' ∧ Kp cf.fl m1 H1 m' H' ∧ OuOk K W cf bs m1 H1 D (forL g b (l.drop i) cf ρ' S'), ⟨_, rfl, Nat.zero_le _, m1, S1, ρ, F1, Kp.refl, h1⟩, ?_⟩
    rintro i k σ' H' ⟨rfl, hi, m', S', ρ', F', k', o⟩
    obtain ⟨w1, w2⟩ := R1 bs m' S' H' k'.lk F'.cs i
    by_cases hlt : i < l.length
    · have ei : l[i]? = some l[i] := List.getElem?_eq_getElem hlt
      obtain ⟨hgo, hy⟩ := w1 _ (congrArg some ei)
      rw [List.drop_eq_getElem_cons hlt] at o
      refine .inr ⟨hgo, fun σ2 H2 => ∃ m2 S2 ρ2, FAt K cf bs m2 S2 σ2 H2 ρ2 ∧ Kp cf.fl m1 H1 m2 H2 ∧ OuOk K W cf bs m1 H1 D (forL g b (l.drop (i + 1)) cf ρ2 S2), fun σ2 H2 ⟨m2, S2, ρ2, q⟩ => ⟨_, by omega, rfl, hlt, m2, S2, ρ2, q⟩, fun x H3 yl => ?_⟩
      obtain ⟨s3, r3⟩ := hy x H3 yl
      unfold forL at o
      exact turn_ok (rest := fun ρ2 S2 => forL g b (l.drop (i + 1)) cf ρ2 S2) (F'.same s3) (k'.trans (Kp.of_same s3)) r3 o fun σ5 m5 H5 ρ5 S5 F5 k5 o5 => ⟨m5, S5, ρ5, F5, k5, o5⟩
    · have e : i = l.length := by omega
      subst e
      rw [List.drop_length] at o
      exact .inl ⟨w2 (congrArg some (List.getElem?_eq_none (Nat.le_refl _))), o σ' m' H' F' k'⟩
  | cell n =>
    refine ⟨fun i k σ' H' => ∃ m' S' ρ', FAt K cf bs m' S' σ' H' ρ' ∧ Kp cf.fl m1 H1 m' H' ∧ OuOk K W cf bs m1 H1 D (forC g b n k i cf ρ' S'), ⟨_, m1, S1, ρ, F1, Kp.refl, h1⟩, ?_⟩
    rintro i k σ' H' ⟨m', S', ρ', F', k', o⟩
    obtain ⟨w1, w2⟩ := R1 bs m' S' H' k'.lk F'.cs i
    cases k with
    | zero => exact o.elim
    | succ k =>
      unfold forC at o
      have w1 : ∀ t, (match S'[n]? with | some (.lst l) => some l[i]? | _ => none) = some (some t) → _ := w1
      have w2 : (match S'[n]? with | some (.lst l) => some l[i]? | _ => none) = some none → _ := w2
      cases es : S'[n]? with
      | none => rw [es] at o; exact o.elim
      | some cc =>
        rw [es] at o w1 w2
        cases cc with
        | lst l =>
          dsimp only at o w1 w2
          cases el : l[i]? with
          | none =>
            rw [el] at o
            exact .inl ⟨w2 (congrArg some el), o σ' m' H' F' k'⟩
          | some t =>
            rw [el] at o
            dsimp only at o
            obtain ⟨hgo, hy⟩ := w1 _ (congrArg some el)
            refine .inr ⟨hgo, fun σ2 H2 => ∃ m2 S2 ρ2, FAt K cf bs m2 S2 σ2 H2 ρ2 ∧ Kp cf.fl m1 H1 m2 H2 ∧ OuOk K W cf bs m1 H1 D (forC g b n k (i + 1) cf ρ2 S2), fun σ2 H2 ⟨m2, S2, ρ2, q⟩ => ⟨k, by omega, m2, S2, ρ2, q⟩, fun x H3 yl => ?_⟩
            obtain ⟨s3, r3⟩ := hy x H3 yl
            exact turn_ok (rest := fun ρ2 S2 => forC g b n k (i + 1) cf ρ2 S2) (F'.same s3) (k'.trans (Kp.of_same s3)) r3 o fun σ5 m5 H5 ρ5 S5 F5 k5 o5 => ⟨m5, S5, ρ5, F5, k5, o5⟩
        | _ => exact o.elim
  | en n =>
    refine ⟨fun i k σ' H' => ∃ m' S' ρ', FAt K cf bs m' S' σ' H' ρ' ∧ Kp cf.fl m1 H1 m' H' ∧ OuOk K W cf bs m1 H1 D (forE g b n k i cf ρ' S'), ⟨_, m1, S1, ρ, F1, Kp.refl, h1⟩, ?_⟩
    rintro i k σ' H' ⟨m', S', ρ', F', k', o⟩
    obtain ⟨w1, w2⟩ := R1 bs m' S' H' k'.lk F'.cs i
    cases k with
    | zero => exact o.elim
    | succ k =>
      unfold forE at o
      have w1 : ∀ t, (match S'[n]? with | some (.lst l) => some (l[i]?.map fun x => T.tup [.int (i : Nat), x]) | _ => none) = some (some t) → _ := w1
      have w2 : (match S'[n]? with | some (.lst l) => some (l[i]?.map fun x => T.tup [.int (i : Nat), x]) | _ => none) = some none → _ := w2
      cases es : S'[n]? with
      | none => rw [es] at o; exact o.elim
      | some cc =>
        rw [es] at o w1 w2
        cases cc with
        | lst l =>
          dsimp only at o w1 w2
          cases el : l[i]? with
          | none =>
            rw [el] at o
            exact .inl ⟨w2 (by rw [el]; rfl), o σ' m' H' F' k'⟩
          | some t =>
            rw [el] at o
            dsimp only at o
            obtain ⟨hgo, hy⟩ := w1 _ (by rw [el]; rfl)
            refine .inr ⟨hgo, fun σ2 H2 => ∃ m2 S2 ρ2, FAt K cf bs m2 S2 σ2 H2 ρ2 ∧ Kp cf.fl m1 H1 m2 H2 ∧ OuOk K W cf bs m1 H1 D (forE g b n k (i + 1) cf ρ2 S2), fun σ2 H2 ⟨m2, S2, ρ2, q⟩ => ⟨k, by omega, m2, S2, ρ2, q⟩, fun x H3 yl => ?_⟩
            obtain ⟨s3, r3⟩ := hy x H3 yl
            exact turn_ok (rest := fun ρ2 S2 => forE g b n k (i + 1) cf ρ2 S2) (F'.same s3) (k'.trans (Kp.of_same s3)) r3 o fun σ5 m5 H5 ρ5 S5 F5 k5 o5 => ⟨m5, S5, ρ5, F5, k5, o5⟩
        | _ => exact o.elim
theorem s_while {c : Expr} {body : List Stmt} {tc : Ev Bool} {b : Sv} {pos : Pos} (hp : PassesOwn (model X.prog X.w) X.A X.env X.xe) (hc : PT X c (tXT K W tc)) (hb : PSs X body (tXS K W b)) : PS X (.While c body [] pos) (tXS K W (sWhile tc b)) := PS.imp (ps_while hp hc hb) fun D σ H h => by
  obtain ⟨cf, bs, m, S, ρ, F, h⟩ := h
  unfold sWhile at h
  refine ⟨fun k σ' H' => ∃ m' S' ρ', FAt K cf bs m' S' σ' H' ρ' ∧ Kp cf.fl m H m' H' ∧ OuOk K W cf bs m H D (whL tc b k cf ρ' S'), ⟨_, m, S, ρ, F, Kp.refl, h⟩, ?_⟩
  rintro k σ' H' ⟨m', S', ρ', F', k', o⟩
  cases k with
  | zero => exact o.elim
  | succ k =>
    unfold whL at o
    refine ⟨cf, bs, m', S', ρ', F', ?_⟩
    cases e : tc cf ρ' S' with
    | ok x S1 =>
      rw [e] at o
      intro v m1 H1 cs1 k1 R1
      cases R1
      have F1 := F'.kp cs1 k1
      have k2 := k'.trans k1
      cases x with
      | true =>
        refine iteT ⟨fun σ2 H2 => ∃ m2 S2 ρ2, FAt K cf bs m2 S2 σ2 H2 ρ2 ∧ Kp cf.fl m H m2 H2 ∧ OuOk K W cf bs m H D (whL tc b k cf ρ2 S2), fun σ2 H2 q => ⟨k, Nat.lt_succ_self _, q⟩, cf, bs, m1, S1, ρ', F1, ?_⟩
        dsimp only at o
        cases e5 : b cf ρ' S1 with
        | nx ρ5 S5 =>
          rw [e5] at o
          exact fun σ5 m5 H5 F5 k5 => ⟨m5, S5, ρ5, F5, k2.trans k5, o⟩
        | ct ρ5 S5 =>
          rw [e5] at o
          exact fun σ5 m5 H5 F5 k5 => ⟨m5, S5, ρ5, F5, k2.trans k5, o⟩
        | br ρ5 S5 =>
          rw [e5] at o
          exact fun σ5 m5 H5 F5 k5 => o σ5 m5 H5 F5 (k2.trans k5)
        | rt t S5 =>
          rw [e5] at o
          exact fun v m5 H5 cs k5 r => o v m5 H5 cs (k2.trans k5) r
        | ex x5 ρ5 S5 =>
          rw [e5] at o
          exact fun cls d σ5 m5 H5 F5 k5 r => o cls d σ5 m5 H5 F5 (k2.trans k5) r
        | st =>
          rw [e5] at o
          exact o.elim
      | false => exact iteF (o σ' m1 H1 F1 k2)
    | ex x S1 =>
      rw [e] at o
      exact fun cls d m1 H1 cs k1 R => o cls d σ' m1 H1 (F'.kp cs k1) (k'.trans k1) R
    | st =>
      rw [e] at o
      exact o.elim
end
end Tm

/-! N4: defs, calls, makers, methods, fields stored. -/
namespace Tm
open PySem PySem.Spec PyProof.Rows L2
abbrev Fn := Cf → List T → St → Rs T
/-- the promise of a def by its mirror -/
def spF (K : PySem.W.Frag) (Fm : Fn) : Sp := fun vs H Q E => ∃ c bs m S as, Cs K bs m S H ∧ (∀ b ∈ bs.b, b ≤ c.n0) ∧ Reps K (mset bs m) H vs as ∧ RsOk K (fun cls d _ H' => E cls d H') bs c.fl m [] H (RpT K bs) Q (Fm c as S)
/-! local cells' contents as values -/
mutual
def fzT (fs : List T → Option (List T)) (n : Nat) (S : St) : T → Option T
  | .ref k => if k < n then some (.ref k) else match S[k]? with
    | some (.lst l) => (fs l).map T.lst
    | some (.dK ks l) => (fs l).map (T.dK ks)
    | some (.dT ks l) => (fs l).map (T.dT ks)
    | some (.obj C ns l) => (fs l).map (T.obj C ns)
    | _ => none
  | .tup l => (fzTs fs n S l).map T.tup
  | .wt l => (fzTs fs n S l).map T.wt
  | .lst l => (fzTs fs n S l).map T.lst
  | .dK ks l => (fzTs fs n S l).map (T.dK ks)
  | .dT ks l => (fzTs fs n S l).map (T.dT ks)
  | .obj C ns l => (fzTs fs n S l).map (T.obj C ns)
  | .lk _ => none
  | .exc .. => none
  | t => some t
def fzTs (fs : List T → Option (List T)) (n : Nat) (S : St) : List T → Option (List T)
  | [] => some []
  | t :: l => match fzT fs n S t, fzTs fs n S l with
    | some t', some l' => some (t' :: l')
    | _, _ => none
end
def fzL : Nat → Nat → St → List T → Option (List T)
  | 0, n, _, l => if okRs n l = true then some l else none
  | d + 1, n, S, l => fzTs (fzL d n S) n S l
def fzs (n : Nat) (S : St) (l : List T) : Option (List T) := fzL 3 n S l
def fz (n : Nat) (S : St) (t : T) : Option T := if okR n t = true then some t else fzT (fzL 2 n S) n S t
def start0 (n : Nat) (as : List T) : Ro := as.map some ++ List.replicate (n - as.length) none
/-- a def that may write to older cells -/
def runS (k n : Nat) (g : Sv) : Fn := fun c as S => if as.length = k then
    match g ⟨c.fl, S.length⟩ (start0 n as) S with
    | .nx _ S' => .ok .non (S'.take S.length)
    | .rt t S' => match fz S.length S' t with
      | some r => .ok r (S'.take S.length)
      | none => .st
    | .ex x _ S' => if okR S.length x = true then .ex x (S'.take S.length) else .st
    | _ => .st
  else .st
/-- what a def leaves that ran with no cells -/
def finP (o : Ou) (S : St) : Rs T := match o with
  | .nx _ _ => .ok .non S
  | .rt t S' => match fz 0 S' t with
    | some r => .ok r S
    | none => .st
  | .ex x _ _ => if okR 0 x = true then .ex x S else .st
  | _ => .st
mutual
/-- nothing in it can change -/
def purT : T → Bool
  | .non => true
  | .bl _ => true
  | .int _ => true
  | .str _ => true
  | .cls _ => true
  | .fn _ => true
  | .tup l => purTs l
  | .wt l => purTs l
  | _ => false
def purTs : List T → Bool
  | [] => true
  | t :: l => purT t && purTs l
end
def finQ (o : Ou) : Option T := match o with
  | .nx _ _ => some .non
  | .rt t S' => match fz 0 S' t with
    | some r => if purT r = true then some r else none
    | none => none
  | _ => none
/-- a def that writes to cells of its own alone; with no cells in its arguments, or a plain answer, it runs with no cells -/
def runP (k n : Nat) (g : Sv) : Fn := fun c as S => if as.length = k then
    if okRs 0 as = true then finP (g ⟨0, 0⟩ (start0 n as) []) S else
    match (fzs 0 S as).bind fun as' => finQ (g ⟨0, 0⟩ (start0 n as') []) with
    | some r => .ok r S
    | none => match g ⟨S.length, S.length⟩ (start0 n as) S with
    | .nx _ _ => .ok .non S
    | .rt t S' => match fz S.length S' t with
      | some r => .ok r S
      | none => .st
    | .ex x _ _ => if okR S.length x = true then .ex x S else .st
    | _ => .st
  else .st
/-- a def whose new cells are the caller's -/
def runO (k n : Nat) (g : Sv) : Fn := fun c as S => if as.length = k then
    match g c (start0 n as) S with
    | .nx _ S' => .ok .non S'
    | .rt t S' => .ok t S'
    | .ex x _ S' => .ex x S'
    | _ => .st
  else .st
section
variable {K : PySem.W.Frag} {bs : Bx} {m m' : List Addr} {S S' : St} {H H' : Hp}
theorem CellAt.cut {n : Nat} {a : Addr} {c : T} (h : CellAt K (mset bs m) H a c) (e : okR n c = true) : CellAt K (mset bs (m.take n)) H a c := by
  cases h with
  | lst h r => exact .lst h (r.cut (by unfold okR at e; exact e))
  | dK h r => exact .dK h (r.cut (by unfold okR at e; exact e))
  | dT h r => exact .dT h (r.cut (by unfold okR at e; exact e))
  | obj h r => exact .obj h (r.cut (by unfold okR at e; exact e))
  | lkK h r => exact .lkK h (r.cut (by unfold okR okR at e; exact e))
  | lkT h r => exact .lkT h (r.cut (by unfold okR okR at e; exact e))
  | tb t q => exact .tb (t.sub fun c z => z.imp List.mem_of_mem_take id) q
  | dN h hk rk pk hv rv pl => exact .dN h hk (rk.cut (okRs_mono (Nat.zero_le _) pk)) pk hv (rv.cut (okRs_mono (Nat.zero_le _) pl)) pl
theorem new_na {n k : Nat} {a : Addr} (cs : Cs K bs m S H) (hm : m[k]? = some a) (q : ¬ k < n) : ¬ (a ∈ m.take n ∨ a ∈ bs.h) := fun z => z.elim (fun z => by
    obtain ⟨j, hj, ej⟩ := List.mem_iff_getElem.mp z
    rw [List.length_take] at hj
    rw [List.getElem_take] at ej
    have e1 : m[j]? = some a := by rw [List.getElem?_eq_getElem (by omega), ej]
    have : j = k := (List.getElem?_inj (List.getElem?_eq_some_iff.mp e1).1 cs.nd).mp (e1.trans hm.symm)
    omega) fun z => (cs.hid a z).1 (List.mem_of_getElem? hm)
def FsOk (K : PySem.W.Frag) (bs : Bx) (m : List Addr) (H : Hp) (n : Nat) (fs : List T → Option (List T)) : Prop := ∀ vs l l', Reps K (mset bs m) H vs l → fs l = some l' → Reps K (mset bs (m.take n)) H vs l'
mutual
theorem fzT_ok {n : Nat} {fs : List T → Option (List T)} (hf : FsOk K bs m H n fs) (cs : Cs K bs m S H) : ∀ {v : V} {t r : T}, Rep K (mset bs m) H v t → fzT fs n S t = some r → Rep K (mset bs (m.take n)) H v r
  | _, _, _, .non, e => by unfold fzT at e; cases e; exact .non
  | _, _, _, .bl b, e => by unfold fzT at e; cases e; exact .bl b
  | _, _, _, .int i, e => by unfold fzT at e; cases e; exact .int i
  | _, _, _, .str x, e => by unfold fzT at e; cases e; exact .str x
  | _, _, _, .cls C, e => by unfold fzT at e; cases e; exact .cls C
  | _, _, _, .fn x, e => by unfold fzT at e; cases e; exact .fn x
  | _, _, _, .exc .., e => by unfold fzT at e; cases e
  | _, _, _, .lam na nc h hc, e => by unfold fzT at e; cases e; exact .lam (fun z => na (z.imp List.mem_of_mem_take id)) (fun z => nc (z.imp List.mem_of_mem_take id)) h hc
  | _, _, _, .tb na h, e => by unfold fzT at e; cases e; exact .tb (fun z => na (z.imp List.mem_of_mem_take id)) h
  | _, _, _, .dN na h, e => by unfold fzT at e; cases e; exact .dN (fun z => na (z.imp List.mem_of_mem_take id)) h
  | _, _, _, .scr h, e => by
    unfold fzT at e
    cases e
    exact Rep.cut (.scr h) (by unfold okR; rfl)
  | _, _, _, .tup h rs, e => by
    unfold fzT at e
    obtain ⟨l', e1, rfl⟩ := Option.map_eq_some_iff.mp e
    exact .tup h (fzTs_ok hf cs rs e1)
  | _, _, _, .wt h rs, e => by
    unfold fzT at e
    obtain ⟨l', e1, rfl⟩ := Option.map_eq_some_iff.mp e
    exact .wt h (fzTs_ok hf cs rs e1)
  | _, _, _, .lst na h rs, e => by
    unfold fzT at e
    obtain ⟨l', e1, rfl⟩ := Option.map_eq_some_iff.mp e
    exact .lst (fun z => na (z.imp List.mem_of_mem_take id)) h (fzTs_ok hf cs rs e1)
  | _, _, _, .dK na h rs, e => by
    unfold fzT at e
    obtain ⟨l', e1, rfl⟩ := Option.map_eq_some_iff.mp e
    exact .dK (fun z => na (z.imp List.mem_of_mem_take id)) h (fzTs_ok hf cs rs e1)
  | _, _, _, .dT na h rs, e => by
    unfold fzT at e
    obtain ⟨l', e1, rfl⟩ := Option.map_eq_some_iff.mp e
    exact .dT (fun z => na (z.imp List.mem_of_mem_take id)) h (fzTs_ok hf cs rs e1)
  | _, _, _, .obj na h rs, e => by
    unfold fzT at e
    obtain ⟨l', e1, rfl⟩ := Option.map_eq_some_iff.mp e
    exact .obj (fun z => na (z.imp List.mem_of_mem_take id)) h (fzTs_ok hf cs rs e1)
  | _, _, r, .ref (a := a) (n := k) h, e => by
    unfold fzT at e
    by_cases q : k < n
    · rw [if_pos q] at e
      cases e
      exact Rep.cut (.ref h) (by unfold okR; simpa using q)
    · rw [if_neg q] at e
      have hm : m[k]? = some a := h
      have nh := new_na cs hm q
      cases es : S[k]? with
      | none => rw [es] at e; cases e
      | some cc =>
        rw [es] at e
        have cl := cs.cell k cc a es hm
        cases cl with
        | lst h r =>
          obtain ⟨l', e1, rfl⟩ := Option.map_eq_some_iff.mp e
          exact .lst nh h (hf _ _ _ r e1)
        | dK h r =>
          obtain ⟨l', e1, rfl⟩ := Option.map_eq_some_iff.mp e
          exact .dK nh (.inl h) (hf _ _ _ r e1)
        | dT h r =>
          obtain ⟨l', e1, rfl⟩ := Option.map_eq_some_iff.mp e
          exact .dT nh (.inl h) (hf _ _ _ r e1)
        | obj h r =>
          obtain ⟨l', e1, rfl⟩ := Option.map_eq_some_iff.mp e
          exact .obj nh h (hf _ _ _ r e1)
        | lkK h r => cases e
        | lkT h r => cases e
        | tb t q => cases e
        | dN h hk rk pk hv rv pl => cases e
theorem fzTs_ok {n : Nat} {fs : List T → Option (List T)} (hf : FsOk K bs m H n fs) (cs : Cs K bs m S H) : ∀ {vs : List V} {l l' : List T}, Reps K (mset bs m) H vs l → fzTs fs n S l = some l' → Reps K (mset bs (m.take n)) H vs l'
  | _, _, _, .nil, e => by unfold fzTs at e; cases e; exact .nil
  | _, _, _, .cons (t := t) (l := l) h r, e => by
    unfold fzTs at e
    cases e1 : fzT fs n S t with
    | none => rw [e1] at e; cases e
    | some t' =>
      cases e2 : fzTs fs n S l with
      | none => rw [e1, e2] at e; cases e
      | some l' =>
        rw [e1, e2] at e
        cases e
        exact .cons (fzT_ok hf cs h e1) (fzTs_ok hf cs r e2)
end
theorem fzL_ok {n : Nat} (cs : Cs K bs m S H) : ∀ d : Nat, FsOk K bs m H n (fzL d n S)
  | 0 => fun vs l l' r e => by
    unfold fzL at e
    split at e
    · rename_i q
      cases e
      exact r.cut q
    · cases e
  | d + 1 => fun vs l l' r e => by
    unfold fzL at e
    exact fzTs_ok (fzL_ok cs d) cs r e
theorem fzs_ok {n : Nat} (cs : Cs K bs m S H) {vs : List V} {l l' : List T} (r : Reps K (mset bs m) H vs l) (e : fzs n S l = some l') : Reps K (mset bs (m.take n)) H vs l' := fzL_ok cs 3 vs l l' r e
theorem fz_ok {n : Nat} (cs : Cs K bs m S H) {v : V} {t r : T} (h : Rep K (mset bs m) H v t) (e : fz n S t = some r) : Rep K (mset bs (m.take n)) H v r := by
  unfold fz at e
  split at e
  · rename_i q
    cases e
    exact h.cut q
  · exact fzT_ok (fzL_ok cs 2) cs h e
theorem fz_id {n : Nat} {t : T} (h : okR n t = true) : fz n S t = some t := if_pos h
theorem XAt.cut {n : Nat} {x : T} {cls : Value} {d : Option Addr} (h : XAt K (mset bs m) H x cls d) (e : okR n x = true) : XAt K (mset bs (m.take n)) H x cls d := by
  obtain ⟨c, ns, l, rfl, h1, h2⟩ := h
  refine ⟨c, ns, l, rfl, h1, h2.imp id ?_⟩
  rintro ⟨dd, fs, e1, e2, e3, e4, r⟩
  exact ⟨dd, fs, e1, e2, fun z => e3 (z.imp List.mem_of_mem_take id), e4, r.cut (by unfold okR at e; exact e)⟩
mutual
theorem Rep.to {A B : ASet} (hb : ∀ a, B.p a → A.p a) : ∀ {v : V} {t : T}, Rep K A H v t → okR 0 t = true → Rep K B H v t
  | _, _, .non, _ => .non
  | _, _, .bl b, _ => .bl b
  | _, _, .int i, _ => .int i
  | _, _, .str x, _ => .str x
  | _, _, .tup h r, e => .tup h (Reps.to hb r (by unfold okR at e; exact e))
  | _, _, .wt h r, e => .wt h (Reps.to hb r (by unfold okR at e; exact e))
  | _, _, .lst na h r, e => .lst (fun z => na (hb _ z)) h (Reps.to hb r (by unfold okR at e; exact e))
  | _, _, .dK na h r, e => .dK (fun z => na (hb _ z)) h (Reps.to hb r (by unfold okR at e; exact e))
  | _, _, .dT na h r, e => .dT (fun z => na (hb _ z)) h (Reps.to hb r (by unfold okR at e; exact e))
  | _, _, .obj na h r, e => .obj (fun z => na (hb _ z)) h (Reps.to hb r (by unfold okR at e; exact e))
  | _, _, .cls C, _ => .cls C
  | _, _, .scr h, _ => .scr (h.imp (fun z => ⟨fun q => z.1 (hb _ q), z.2⟩) id)
  | _, _, .ref (n := k) h, e => by
    unfold okR at e
    simp at e
  | _, _, .fn x, _ => .fn x
  | _, _, .exc na h r, e => .exc (fun z => na (hb _ z)) h (Reps.to hb r (by unfold okR at e; exact e))
  | _, _, .lam na nc h hc, _ => .lam (fun z => na (hb _ z)) (fun z => nc (hb _ z)) h hc
  | _, _, .tb na h, _ => .tb (fun z => na (hb _ z)) h
  | _, _, .dN na h, _ => .dN (fun z => na (hb _ z)) h
theorem Reps.to {A B : ASet} (hb : ∀ a, B.p a → A.p a) : ∀ {xs : List V} {l : List T}, Reps K A H xs l → okRs 0 l = true → Reps K B H xs l
  | _, _, .nil, _ => .nil
  | _, _, .cons h r, e => by
    unfold okRs at e
    rw [Bool.and_eq_true] at e
    exact .cons (Rep.to hb h e.1) (Reps.to hb r e.2)
end
mutual
theorem Rep.pur {A B : ASet} : ∀ {v : V} {t : T}, Rep K A H v t → purT t = true → Rep K B H v t
  | _, _, .non, _ => .non
  | _, _, .bl b, _ => .bl b
  | _, _, .int i, _ => .int i
  | _, _, .str x, _ => .str x
  | _, _, .tup h r, e => .tup h (Reps.pur r (by unfold purT at e; exact e))
  | _, _, .wt h r, e => .wt h (Reps.pur r (by unfold purT at e; exact e))
  | _, _, .lst _ _ _, e => by unfold purT at e; cases e
  | _, _, .dK _ _ _, e => by unfold purT at e; cases e
  | _, _, .dT _ _ _, e => by unfold purT at e; cases e
  | _, _, .obj _ _ _, e => by unfold purT at e; cases e
  | _, _, .cls C, _ => .cls C
  | _, _, .scr _, e => by unfold purT at e; cases e
  | _, _, .ref _, e => by unfold purT at e; cases e
  | _, _, .fn x, _ => .fn x
  | _, _, .exc .., e => by unfold purT at e; cases e
  | _, _, .lam .., e => by unfold purT at e; cases e
  | _, _, .tb .., e => by unfold purT at e; cases e
  | _, _, .dN .., e => by unfold purT at e; cases e
theorem Reps.pur {A B : ASet} : ∀ {xs : List V} {l : List T}, Reps K A H xs l → purTs l = true → Reps K B H xs l
  | _, _, .nil, _ => .nil
  | _, _, .cons h r, e => by
    unfold purTs at e
    rw [Bool.and_eq_true] at e
    exact .cons (Rep.pur h e.1) (Reps.pur r e.2)
end
theorem XAt.to {A B : ASet} (hb : ∀ a, B.p a → A.p a) {x : T} {cls : Value} {d : Option Addr} (h : XAt K A H x cls d) (e : okR 0 x = true) : XAt K B H x cls d := by
  obtain ⟨c, ns, l, rfl, h1, h2⟩ := h
  refine ⟨c, ns, l, rfl, h1, h2.imp id ?_⟩
  rintro ⟨dd, fs, e1, e2, e3, e4, r⟩
  exact ⟨dd, fs, e1, e2, fun z => e3 (hb _ z), e4, r.to hb (by unfold okR at e; exact e)⟩
/-- the older cells behind a call -/
theorem Cs.back {fl : Nat} (cs : Cs K bs m S H) (cs' : Cs K (⟨S.length :: bs.b, bs.h⟩ : Bx) m' S' H') (k : Kp fl m H m' H') : m'.take S.length = m ∧ Cs K bs m (S'.take S.length) H' ∧ Kp fl m H m H' := by
  obtain ⟨⟨e, rfl, ne⟩, h2, h3, h4, h5⟩ := k
  have em : (m ++ e).take S.length = m := by rw [← cs.len, List.take_left]
  have hl : m.length + e.length = S'.length := by rw [← cs'.len, List.length_append]
  refine ⟨em, ⟨?_, cs.nd, cs.bl, fun a ha => ⟨(cs.hid a ha).1, (cs'.hid a ha).2⟩, fun n c a hc ha => ?_, fun b hb k c hk hc => ?_⟩, ⟨⟨[], by simp, by simp⟩, h2, h3, h4, h5⟩⟩
  · rw [List.length_take, ← cs.len]
    omega
  · have hn : n < S.length := by
      have := (List.getElem?_eq_some_iff.mp ha).1
      rw [cs.len] at this
      exact this
    rw [List.getElem?_take_of_lt hn] at hc
    have := cs'.cell n c a hc (by rw [List.getElem?_append_left (List.getElem?_eq_some_iff.mp ha).1]; exact ha)
    have := this.cut (n := S.length) (cs'.old S.length (List.mem_cons_self ..) n c hn hc)
    rwa [em] at this
  · have hk' : k < S.length := by
      have := cs.bl b hb
      rw [cs.len] at this
      omega
    rw [List.getElem?_take_of_lt hk'] at hc
    exact cs'.old b (List.mem_cons_of_mem _ hb) k c hk hc
theorem kp_same (k : Kp m.length m H m' H') : Same H H' := fun b o e => k.all b o (by rw [List.drop_length]; simp) e
theorem start_at {N : List Str} {vs : List V} {as : List T} {cf : Cf} (cs : Cs K bs m S H) (bn : ∀ b ∈ bs.b, b ≤ cf.n0) (r : Reps K (mset bs m) H vs as) (hk : vs.length ≤ N.length) : FAt K cf bs m S (L2.start N vs) H (start0 N.length as) := by
  refine ⟨cs, bn, by unfold L2.start start0; simp [r.length], fun i t h => ?_⟩
  unfold start0 at h
  by_cases hi : i < as.length
  · rw [List.getElem?_append_left (by simpa using hi), List.getElem?_map] at h
    obtain ⟨u, hu, e⟩ := Option.map_eq_some_iff.mp h
    cases e
    obtain ⟨v, hv, rv⟩ := r.get hu
    refine ⟨v, ?_, rv⟩
    unfold L2.start
    rw [List.getElem?_append_left (by rw [List.length_map]; exact (List.getElem?_eq_some_iff.mp hv).1), List.getElem?_map, hv]
    rfl
  · rw [List.getElem?_append_right (by simp; omega)] at h
    obtain ⟨_, e⟩ := List.getElem?_eq_some_iff.mp h
    rw [List.getElem_replicate] at e
    cases e
end
section
variable {X : Cx} {K : PySem.W.Frag} {W : WX} {N : List Str} {k : Nat} {body : List Stmt} {g : Sv} {vs : List V} {H : Hp} {Q : VK} {E : XK}
theorem body_okS (hp : PSs X body (tXS K W g)) (hN : k ≤ N.length) (hW : ∀ cls d σ H', E cls d H' → W cls d σ H') (h : spF K (runS k N.length g) vs H Q E) :
    ∃ t, PSs X body t ∧ t { nx := fun _ H' => Q .non H', rt := Q } (L2.start N vs) H := by
  refine ⟨_, hp, ?_⟩
  obtain ⟨c, bs, m, S, as, cs, bn, r, h⟩ := h
  unfold runS at h
  by_cases hk : as.length = k
  · rw [if_pos hk] at h
    have cs0 : Cs K (⟨S.length :: bs.b, bs.h⟩ : Bx) m S H := ⟨cs.len, cs.nd, fun b hb => (List.mem_cons.mp hb).elim (fun z => by rw [z, cs.len]; exact Nat.le_refl _) (cs.bl b), cs.hid, cs.cell, fun b hb j t hj ht => by
      rcases List.mem_cons.mp hb with rfl | hb
      · have ha : m[j]? = some (m[j]'(by rw [cs.len]; exact hj)) := List.getElem?_eq_getElem (by rw [cs.len]; exact hj)
        have := cs.cell j t _ ht ha
        rw [← cs.len]
        cases this with
        | lst h r => unfold okR; exact r.okr
        | dK h r => unfold okR; exact r.okr
        | dT h r => unfold okR; exact r.okr
        | obj h r => unfold okR; exact r.okr
        | lkK h r => unfold okR okR; exact r.okr
        | lkT h r => unfold okR okR; exact r.okr
        | tb t q => unfold okR; rfl
        | dN h hk rk pk hv rv pl => unfold okR; rfl
      · exact cs.old b hb j t hj ht⟩
    have F0 : FAt K ⟨c.fl, S.length⟩ (⟨S.length :: bs.b, bs.h⟩ : Bx) m S (L2.start N vs) H (start0 N.length as) := start_at cs0 (fun b hb => (List.mem_cons.mp hb).elim (fun z => by rw [z]; exact Nat.le_refl _) (fun z => by rw [← cs.len]; exact cs.bl b z)) r (by rw [r.length]; omega)
    refine ⟨_, _, m, S, _, F0, ?_⟩
    cases e : g ⟨c.fl, S.length⟩ (start0 N.length as) S with
    | nx ρ' S' =>
      rw [e] at h
      intro σ' m' H' F' k'
      obtain ⟨e1, cs1, k1⟩ := Cs.back cs F'.cs k'
      exact h .non m H' cs1 k1 .non
    | rt t S' =>
      rw [e] at h
      intro v m' H' cs' k' r'
      obtain ⟨e1, cs1, k1⟩ := Cs.back cs cs' k'
      dsimp only at h
      cases ef : fz S.length S' t with
      | none => rw [ef] at h; exact h.elim
      | some t' =>
        rw [ef] at h
        have := fz_ok cs' r' ef
        rw [e1] at this
        exact h v m H' cs1 k1 this
    | ex x ρ' S' =>
      rw [e] at h
      intro cls d σ' m' H' F' k' x'
      obtain ⟨e1, cs1, k1⟩ := Cs.back cs F'.cs k'
      dsimp only at h
      split at h
      · rename_i q
        have := x'.cut q
        rw [e1] at this
        exact hW _ _ _ _ (h cls d m H' cs1 k1 this)
      · exact h.elim
    | br ρ' S' => rw [e] at h; exact h.elim
    | ct ρ' S' => rw [e] at h; exact h.elim
    | st => rw [e] at h; exact h.elim
  · rw [if_neg hk] at h
    exact h.elim
theorem body_okP0 {c : Cf} {bs : Bx} {m : List Addr} {S : St} {as : List T} (cs : Cs K bs m S H) (bn : ∀ b ∈ bs.b, b ≤ c.n0) (r : Reps K (mset bs m) H vs as) (hk : as.length = k) (hN : k ≤ N.length) (hW : ∀ cls d σ H', E cls d H' → W cls d σ H')
    (h : RsOk K (fun cls d _ H' => E cls d H') bs c.fl m [] H (RpT K bs) Q (match g ⟨S.length, S.length⟩ (start0 N.length as) S with
    | .nx _ _ => .ok .non S
    | .rt t S' => match fz S.length S' t with
      | some r => .ok r S
      | none => .st
    | .ex x _ _ => if okR S.length x = true then .ex x S else .st
    | _ => .st)) : tXS K W g { nx := fun _ H' => Q .non H', rt := Q } (L2.start N vs) H := by
  have F0 : FAt K ⟨S.length, S.length⟩ bs m S (L2.start N vs) H (start0 N.length as) := start_at cs (fun b hb => by rw [← cs.len]; exact cs.bl b hb) r (by rw [r.length]; omega)
  refine ⟨_, _, m, S, _, F0, ?_⟩
  have em : ∀ {m' H'}, Kp S.length m H m' H' → m'.take S.length = m ∧ Same H H' := fun {m' H'} k => by
    rw [← cs.len] at k
    refine ⟨?_, kp_same k⟩
    obtain ⟨⟨e, rfl, _⟩, _⟩ := k
    rw [← cs.len, List.take_left]
  cases e : g ⟨S.length, S.length⟩ (start0 N.length as) S with
  | nx ρ' S' =>
    rw [e] at h
    intro σ' m' H' F' k'
    obtain ⟨e1, s1⟩ := em k'
    exact h .non m H' (cs.same s1) (Kp.of_same s1) .non
  | rt t S' =>
    rw [e] at h
    intro v m' H' cs' k' r'
    obtain ⟨e1, s1⟩ := em k'
    dsimp only at h
    cases ef : fz S.length S' t with
    | none => rw [ef] at h; exact h.elim
    | some t' =>
      rw [ef] at h
      have := fz_ok cs' r' ef
      rw [e1] at this
      exact h v m H' (cs.same s1) (Kp.of_same s1) this
  | ex x ρ' S' =>
    rw [e] at h
    intro cls d σ' m' H' F' k' x'
    obtain ⟨e1, s1⟩ := em k'
    dsimp only at h
    split at h
    · rename_i q
      have := x'.cut q
      rw [e1] at this
      exact hW _ _ _ _ (h cls d m H' (cs.same s1) (Kp.of_same s1) this)
    · exact h.elim
  | br ρ' S' => rw [e] at h; exact h.elim
  | ct ρ' S' => rw [e] at h; exact h.elim
  | st => rw [e] at h; exact h.elim
theorem body_tP (hN : k ≤ N.length) (hW : ∀ cls d σ H', E cls d H' → W cls d σ H') (h : spF K (runP k N.length g) vs H Q E) :
    tXS K W g { nx := fun _ H' => Q .non H', rt := Q } (L2.start N vs) H := by
  obtain ⟨c, bs, m, S, as, cs, bn, r, h⟩ := h
  unfold runP at h
  by_cases hk : as.length = k
  · rw [if_pos hk] at h
    by_cases h0 : okRs 0 as = true
    · rw [if_pos h0] at h
      have to : ∀ a, (mset (⟨[], m ++ bs.h⟩ : Bx) []).p a → (mset bs m).p a := fun a z => z.elim (fun z => (nomatch z)) fun z => List.mem_append.mp z
      have fro : ∀ a, (mset bs m).p a → (mset (⟨[], m ++ bs.h⟩ : Bx) []).p a := fun a z => .inr (List.mem_append.mpr z)
      have cs0 : Cs K (⟨[], m ++ bs.h⟩ : Bx) [] [] H := ⟨rfl, List.nodup_nil, fun _ z => (nomatch z), fun a ha => ⟨fun z => (nomatch z), (List.mem_append.mp ha).elim (cs.dom a) fun z => (cs.hid a z).2⟩, fun n c a e => by simp at e, fun _ z => (nomatch z)⟩
      have F0 : FAt K ⟨0, 0⟩ (⟨[], m ++ bs.h⟩ : Bx) [] [] (L2.start N vs) H (start0 N.length as) := start_at cs0 (fun _ z => (nomatch z)) (r.to to h0) (by rw [r.length]; omega)
      refine ⟨_, _, [], [], _, F0, ?_⟩
      have em : ∀ {m' H'}, Kp 0 [] H m' H' → Same H H' := fun {m' H'} k => kp_same (m := []) k
      cases e : g ⟨0, 0⟩ (start0 N.length as) [] with
      | nx ρ' S' =>
        rw [e] at h
        intro σ' m' H' F' k'
        exact h .non m H' (cs.same (em k')) (Kp.of_same (em k')) .non
      | rt t S' =>
        rw [e] at h
        intro v m' H' cs' k' r'
        unfold finP at h
        dsimp only at h
        cases ef : fz 0 S' t with
        | none => rw [ef] at h; exact h.elim
        | some t' =>
          rw [ef] at h
          have q := fz_ok cs' r' ef
          have q0 : okR 0 t' = true := q.okr
          exact h v m H' (cs.same (em k')) (Kp.of_same (em k')) (q.to fro q0)
      | ex x ρ' S' =>
        rw [e] at h
        intro cls d σ' m' H' F' k' x'
        unfold finP at h
        dsimp only at h
        split at h
        · rename_i q
          exact hW _ _ _ _ (h cls d m H' (cs.same (em k')) (Kp.of_same (em k')) ((x'.cut q).to fro q))
        · exact h.elim
      | br ρ' S' => rw [e] at h; exact h.elim
      | ct ρ' S' => rw [e] at h; exact h.elim
      | st => rw [e] at h; exact h.elim
    · rw [if_neg h0] at h
      cases eq : (fzs 0 S as).bind fun as' => finQ (g ⟨0, 0⟩ (start0 N.length as') []) with
      | none =>
        rw [eq] at h
        exact body_okP0 cs bn r hk hN hW h
      | some r' =>
        rw [eq] at h
        obtain ⟨as', ea, eq⟩ := Option.bind_eq_some_iff.mp eq
        have ra := fzs_ok cs r ea
        have cs0 : Cs K (⟨[], bs.h⟩ : Bx) [] [] H := ⟨rfl, List.nodup_nil, fun _ z => (nomatch z), fun a ha => ⟨fun z => (nomatch z), (cs.hid a ha).2⟩, fun n c a e => by simp at e, fun _ z => (nomatch z)⟩
        have F0 : FAt K ⟨0, 0⟩ (⟨[], bs.h⟩ : Bx) [] [] (L2.start N vs) H (start0 N.length as') := start_at cs0 (fun _ z => (nomatch z)) ra (by rw [r.length]; omega)
        refine ⟨_, _, [], [], _, F0, ?_⟩
        have em : ∀ {m' H'}, Kp 0 [] H m' H' → Same H H' := fun {m' H'} k => kp_same (m := []) k
        cases e : g ⟨0, 0⟩ (start0 N.length as') [] with
        | nx ρ' S' =>
          rw [e] at eq
          cases eq
          intro σ' m' H' F' k'
          exact h .non m H' (cs.same (em k')) (Kp.of_same (em k')) .non
        | rt t S' =>
          rw [e] at eq
          intro v m' H' cs' k' r2
          unfold finQ at eq
          dsimp only at eq
          cases ef : fz 0 S' t with
          | none => rw [ef] at eq; cases eq
          | some t' =>
            rw [ef] at eq
            dsimp only at eq
            split at eq
            · rename_i hp
              cases eq
              exact h v m H' (cs.same (em k')) (Kp.of_same (em k')) ((fz_ok cs' r2 ef).pur hp)
            · cases eq
        | ex x ρ' S' => rw [e] at eq; cases eq
        | br ρ' S' => rw [e] at eq; cases eq
        | ct ρ' S' => rw [e] at eq; cases eq
        | st => rw [e] at eq; cases eq
  · rw [if_neg hk] at h
    exact h.elim
theorem body_okP (hp : PSs X body (tXS K W g)) (hN : k ≤ N.length) (hW : ∀ cls d σ H', E cls d H' → W cls d σ H') (h : spF K (runP k N.length g) vs H Q E) :
    ∃ t, PSs X body t ∧ t { nx := fun _ H' => Q .non H', rt := Q } (L2.start N vs) H := ⟨_, hp, body_tP hN hW h⟩
theorem body_okO (hp : PSs X body (tXS K W g)) (hN : k ≤ N.length) (hW : ∀ cls d σ H', E cls d H' → W cls d σ H') (h : spF K (runO k N.length g) vs H Q E) :
    ∃ t, PSs X body t ∧ t { nx := fun _ H' => Q .non H', rt := Q } (L2.start N vs) H := by
  refine ⟨_, hp, ?_⟩
  obtain ⟨c, bs, m, S, as, cs, bn, r, h⟩ := h
  unfold runO at h
  by_cases hk : as.length = k
  · rw [if_pos hk] at h
    have F0 : FAt K c bs m S (L2.start N vs) H (start0 N.length as) := start_at cs bn r (by rw [r.length]; omega)
    refine ⟨c, bs, m, S, _, F0, ?_⟩
    cases e : g c (start0 N.length as) S with
    | nx ρ' S' =>
      rw [e] at h
      exact fun σ' m' H' F' k' => h .non m' H' F'.cs k' .non
    | rt t S' =>
      rw [e] at h
      exact fun v m' H' cs' k' r' => h v m' H' cs' k' r'
    | ex x ρ' S' =>
      rw [e] at h
      exact fun cls d σ' m' H' F' k' x' => hW _ _ _ _ (h cls d m' H' F'.cs k' x')
    | br ρ' S' => rw [e] at h; exact h.elim
    | ct ρ' S' => rw [e] at h; exact h.elim
    | st => rw [e] at h; exact h.elim
  · rw [if_neg hk] at h
    exact h.elim
/-- what takes so many arguments alone -/
def takesN (k : Nat) (Fm : Fn) : Prop := ∀ c as S, as.length ≠ k → Fm c as S = .st
theorem takes_S {k n : Nat} {g : Sv} : takesN k (runS k n g) := fun c as S h => if_neg h
theorem takes_P {k n : Nat} {g : Sv} : takesN k (runP k n g) := fun c as S h => if_neg h
theorem takes_O {k n : Nat} {g : Sv} : takesN k (runO k n g) := fun c as S h => if_neg h
theorem spF_len {k : Nat} {Fm : Fn} (t : takesN k Fm) (h : spF K Fm vs H Q E) : vs.length = k := by
  obtain ⟨c, bs, m, S, as, cs, bn, r, h⟩ := h
  by_cases hk : as.length = k
  · rw [r.length]
    exact hk
  · rw [t c as S hk] at h
    exact h.elim
end
/-! ### calls -/
section
variable {X : Cx} {K : PySem.W.Frag} {W : WX} {CX : CXT} {k : Nat} {f C : Addr} {Fm : Fn} {dvs : List V} {ds : List T} {E : XK} {x m : Str} {p pos apos : Pos} {e o : Expr} {es : List Expr} {fa : Ev T} {fr : Ev (List T)}
def callF (Fm : Fn) (ts : List T) : Ev T := fun c _ S => Fm c ts S
def mCall (Fm : Fn) (ds : List T) (fr : Ev (List T)) : Ev T := fr.bind fun ts c _ S => Fm c (ts ++ ds) S
theorem RsOk.sp {cf : Cf} {bs : Bx} {m : List Addr} {S : St} {σ : L2.St} {H : Hp} {ρ : Ro} {Q : VK} {vs : List V} {ts : List T} (F : FAt K cf bs m S σ H ρ) (r : Reps K (mset bs m) H vs ts) (h : RsOk K W bs cf.fl m σ H (RpT K bs) Q (Fm cf ts S)) : spF K Fm vs H Q fun cls d H' => W cls d σ H' :=
  ⟨cf, bs, m, S, ts, F.cs, F.bn, r, by
    cases e : Fm cf ts S with
    | ok t S' => rw [e] at h; exact h
    | ex x S' => rw [e] at h; exact h
    | st => rw [e] at h; exact h⟩
theorem m_call (D : Dn X.prog X.w X.K X.mg X.base CX k f dvs (spF K Fm)) (hr : Room k X.A) (hm : X.mg x = some (.ref f)) (hx : PassA CX X W) (hd : ∀ A H, Reps K A H dvs ds) (ha : PA X (e :: es) (tXA K W fr)) (hg : Gl X x := by rfl) (hdb : (x == ("__debug__" : Str)) = false := by decide)
    (he : starEach (e :: es) X.env = (false, eval e X.env) :: starEach es X.env := by rfl) (hpl : (backTo pos (starEach es X.env)).any (·.1) = false := by rfl) : PE X (.Call (.Name x p) (e :: es) [] pos) (tX K W (mCall Fm ds fr)) := by
  refine ⟨fun pins s σ H Q I hw => ?_⟩
  refine (pe_cA D hr hm hx ha hg hdb he hpl).run pins s σ H Q I ?_
  obtain ⟨cf, bs, m, S, ρ, F, h⟩ := hw
  exact ⟨cf, bs, m, S, ρ, F, RsOk.bind F h fun ts vs m1 H1 S1 F1 k1 R1 h1 => RsOk.sp F1 (Reps.append R1 (hd _ _)) h1⟩
/-- a method of a value of the class C -/
def mMeth (C m : Str) (Fm : Fn) (ds : List T) (fa : Ev T) (fr : Ev (List T)) : Ev T := fa.bind fun x c ρ S => match vw S x with
  | .obj C' ns _ => if C' = C ∧ m ∉ ns then (fr.bind fun ts c _ S => Fm c (x :: (ts ++ ds)) S) c ρ S else .st
  | _ => .st
end
end Tm

/-! N5: new cells, makers, what is stored in cells. -/
namespace Tm
open PySem PySem.Spec PyProof.Rows L2
section
variable {K : PySem.W.Frag} {bs : Bx} {fl : Nat} {m : List Addr} {S : St} {H H1 : Hp}
theorem kp_new {x : Addr} (hx : H x = none) (s : Same H H1) : Kp fl m H (m ++ [x]) H1 := ⟨⟨[x], rfl, fun a ha => by rw [List.mem_singleton] at ha; rw [ha]; exact hx⟩, fun b o _ e => s b o e, fun b xs e => s b _ e, fun b o u e => s b _ e, fun b o e => ⟨o, s b o e⟩⟩
theorem CellAt.lk {A B : ASet} {a : Addr} {c : T} (h : CellAt K A H a c) (L : Lk A H B H1) (s : ∀ o, H a = some o → H1 a = some o) : CellAt K B H1 a c := by
  cases h with
  | lst h r => exact .lst (s _ h) (r.lk L)
  | dK h r => exact .dK (s _ h) (r.lk L)
  | dT h r => exact .dT (s _ h) (r.lk L)
  | obj h r => exact .obj (s _ h) (r.lk L)
  | lkK h r => exact .lkK (s _ h) (r.lk L)
  | lkT h r => exact .lkT (s _ h) (r.lk L)
  | tb t q => exact .tb (t.lk L s) q
  | dN h hk rk pk hv rv pl => exact .dN (s _ h) hk (rk.lk L) pk hv (rv.lk L) pl
/-- a new cell -/
theorem Cs.new (cs : Cs K bs m S H) {x : Addr} {c : T} (hx : H x = none) (s : Same H H1) (hc : CellAt K (mset bs (m ++ [x])) H1 x c) : Cs K bs (m ++ [x]) (S ++ [c]) H1 := by
  have nx : x ∉ m := fun z => by
    obtain ⟨o, e⟩ := cs.dom x z
    rw [hx] at e
    cases e
  have hd : ∀ a ∈ bs.h, a ∉ m ++ [x] ∧ ∃ o, H1 a = some o := fun a ha => by
    obtain ⟨o, e⟩ := (cs.hid a ha).2
    refine ⟨fun z => ?_, o, s _ _ e⟩
    rcases List.mem_append.mp z with z | z
    · exact (cs.hid a ha).1 z
    · rw [List.mem_singleton] at z
      rw [z, hx] at e
      cases e
  refine ⟨by simp [cs.len], ?_, fun b hb => by have := cs.bl b hb; simp; omega, hd, fun n c' a hn ha => ?_, fun b hb k c' hk hc' => ?_⟩
  · rw [List.nodup_append]
    exact ⟨cs.nd, by simp, fun a ha b hb e => by rw [List.mem_singleton] at hb; subst hb; subst e; exact nx ha⟩
  · by_cases q : n < S.length
    · rw [List.getElem?_append_left q] at hn
      rw [List.getElem?_append_left (by rw [cs.len]; exact q)] at ha
      exact (cs.cell n c' a hn ha).lk (kp_new (fl := 0) hx s).lk fun o e => s _ _ e
    · rw [List.getElem?_append_right (by omega)] at hn
      rw [List.getElem?_append_right (by rw [cs.len]; omega), cs.len] at ha
      have : n - S.length = 0 := by
        have := (List.getElem?_eq_some_iff.mp hn).1
        simp at this
        omega
      rw [this] at hn ha
      simp at hn ha
      subst hn ha
      exact hc
  · have := cs.bl b hb
    rw [List.getElem?_append_left (by rw [← cs.len]; omega)] at hc'
    exact cs.old b hb k c' hk hc'
/-- a cell is written -/
theorem Cs.put (cs : Cs K bs m S H) {n : Nat} {a : Addr} {o o' : HO} (ha : m[n]? = some a) (h0 : H a = some o) (nt : ∀ xs, o ≠ .tup xs) (nf : ∀ x y, o ≠ .frz x y) :
    Lk (mset bs m) H (mset bs m) (upd H a o') ∧ (fl ≤ n → Kp fl m H m (upd H a o')) ∧ ∀ c', CellAt K (mset bs m) (upd H a o') a c' → (∀ b ∈ bs.b, n < b → okR b c' = true) → Cs K bs m (S.set n c') (upd H a o') := by
  have am : a ∈ m := List.mem_of_getElem? ha
  have tp : ∀ b xs, H b = some (.tup xs) → upd H a o' b = some (.tup xs) := fun b xs e => by
    rw [upd_ne (fun z => by rw [z, h0] at e; exact nt _ (Option.some.inj e))]
    exact e
  have fz : ∀ b x y, H b = some (.frz x y) → upd H a o' b = some (.frz x y) := fun b x y e => by
    rw [upd_ne (fun z => by rw [z, h0] at e; exact nf _ _ (Option.some.inj e))]
    exact e
  have L : Lk (mset bs m) H (mset bs m) (upd H a o') := ⟨fun _ _ h => h, fun b q nb e => ⟨by rw [upd_ne (fun z => nb (.inl (by rw [z]; exact am)))]; exact e, nb⟩, tp, fz⟩
  refine ⟨L, fun hfl => ⟨⟨[], by simp, by simp⟩, fun b q nb e => ?_, tp, fz, fun b q e => ?_⟩, fun c' hc hb => ⟨by rw [List.length_set]; exact cs.len, cs.nd, cs.bl, fun x hx => ⟨(cs.hid x hx).1, by
      obtain ⟨q, e⟩ := (cs.hid x hx).2
      exact ⟨q, by rw [upd_ne (fun z => (cs.hid x hx).1 (by rw [z]; exact am))]; exact e⟩⟩, fun j c2 a2 hj ha2 => ?_, fun b hbb k c2 hk hc2 => ?_⟩⟩
  · rw [upd_ne (fun z => nb ?_)]
    · exact e
    · rw [z]
      refine List.mem_of_getElem? (i := n - fl) ?_
      rw [List.getElem?_drop]
      have : fl + (n - fl) = n := by omega
      rw [this]
      exact ha
  · by_cases q2 : b = a
    · exact ⟨o', by rw [q2]; exact upd_same⟩
    · exact ⟨q, by rw [upd_ne q2]; exact e⟩
  · by_cases q : j = n
    · subst q
      have hl : j < S.length := by
        have := (List.getElem?_eq_some_iff.mp hj).1
        rwa [List.length_set] at this
      rw [List.getElem?_set_self hl] at hj
      cases hj
      rw [ha] at ha2
      cases ha2
      exact hc
    · rw [List.getElem?_set_ne (fun z => q z.symm)] at hj
      refine (cs.cell j c2 a2 hj ha2).lk L fun o2 e2 => ?_
      rw [upd_ne]
      · exact e2
      · intro z
        subst z
        exact q ((List.getElem?_inj (List.getElem?_eq_some_iff.mp ha2).1 cs.nd).mp (ha2.trans ha.symm))
  · by_cases q : k = n
    · subst q
      have hl : k < S.length := by
        have := (List.getElem?_eq_some_iff.mp hc2).1
        rwa [List.length_set] at this
      rw [List.getElem?_set_self hl] at hc2
      cases hc2
      exact hb b hbb hk
    · rw [List.getElem?_set_ne (fun z => q z.symm)] at hc2
      exact cs.old b hbb k c2 hk hc2
/-- whether a value may be written to a cell -/
def wrOk (c : Cf) (n : Nat) (t : T) : Bool := decide (c.fl ≤ n) && (decide (c.n0 ≤ n) || okR 0 t)
theorem wrOk_fl {c : Cf} {n : Nat} {t : T} (h : wrOk c n t = true) : c.fl ≤ n := by
  unfold wrOk at h
  simp at h
  exact h.1
theorem wrOk_b {c : Cf} {n : Nat} {t : T} (h : wrOk c n t = true) (bn : ∀ b ∈ bs.b, b ≤ c.n0) : ∀ b ∈ bs.b, n < b → okR b t = true := fun b hb hn => by
  unfold wrOk at h
  simp at h
  rcases h.2 with q | q
  · have := bn b hb
    omega
  · exact okR_mono (Nat.zero_le _) q
end
/-! ### lists and dicts as cells -/
section
variable {X : Cx} {K : PySem.W.Frag} {W : WX} {CX : CXT} {k : Nat} {f : Addr} {Fm : Fn} {dvs : List V} {ds : List T} {x m Cn : Str} {p pos apos : Pos} {e o : Expr} {es : List Expr} {fa : Ev T} {fr : Ev (List T)}
/-- [..] as a cell -/
def mLstC (fr : Ev (List T)) : Ev T := fr.bind fun xs _ _ S => if xs.length ≤ 1000000 then .ok (.ref S.length) (S ++ [.lst xs]) else .st
theorem new_ok {cf : Cf} {bs : Bx} {fl : Nat} {m : List Addr} {S : St} {σ : L2.St} {H H1 : Hp} {ρ : Ro} {Q : VK} {x : Addr} {c : T} (F : FAt K cf bs m S σ H ρ) (hx : H x = none) (s : Same H H1) (hc : CellAt K (mset bs (m ++ [x])) H1 x c) (h : RsOk K W bs fl m σ H (RpT K bs) Q (.ok (.ref S.length) (S ++ [c]))) : Q (.ref x) H1 :=
  h _ (m ++ [x]) H1 (F.cs.new hx s hc) (kp_new hx s) (.ref (by
    show (m ++ [x])[S.length]? = some x
    rw [List.getElem?_append_right (by rw [F.cs.len]; exact Nat.le_refl _), F.cs.len]
    simp))
theorem reps_new {bs : Bx} {m : List Addr} {S : St} {H H1 : Hp} {x : Addr} {vs : List V} {l : List T} (hx : H x = none) (s : Same H H1) (r : Reps K (mset bs m) H vs l) : Reps K (mset bs (m ++ [x])) H1 vs l := r.lk (kp_new (fl := 0) hx s).lk
theorem m_lstC (h : PA X es (tXA K W fr)) : PE X (.List es pos) (tX K W (mLstC fr)) := PE.imp (pe_lst h) fun σ H Q h => by
  obtain ⟨cf, bs, m, S, ρ, F, h⟩ := h
  refine ⟨cf, bs, m, S, ρ, F, RsOk.bind F h fun xs vs m1 H1 S1 F1 k1 R1 h1 => ?_⟩
  have R1 : Reps K (mset bs m1) H1 vs xs := R1
  split at h1
  · rename_i hl
    refine ⟨big_le (by rw [R1.length]; exact hl), fun p hp => ?_⟩
    have s := same_new (o := .lst vs) hp
    exact new_ok F1 hp s (.lst upd_same (reps_new (bs := bs) (S := S1) hp s R1)) h1
  · exact h1.elim
/-- {} as a cell, its keys texts and ints, or tuples -/
def mDicK : Ev T := fun _ _ S => .ok (.ref S.length) (S ++ [.dK [] []])
def mDicT : Ev T := fun _ _ S => .ok (.ref S.length) (S ++ [.dT [] []])
/-! ### makers -/
/-- an instance that may change -/
def mNew (Cn : Str) (Fm : Fn) (ds : List T) (fr : Ev (List T)) : Ev T := fr.bind fun ts c _ S => match Fm ⟨c.fl, S.length⟩ (.ref S.length :: (ts ++ ds)) (S ++ [.obj Cn [] []]) with
  | .ok .non S' => .ok (.ref S.length) S'
  | .ex x S' => .ex x S'
  | _ => .st
/-- an instance that stays -/
def mMk (Cn : Str) (Fm : Fn) (ds : List T) (fr : Ev (List T)) : Ev T := fr.bind fun ts _ _ S => match Fm ⟨S.length, S.length⟩ (.ref S.length :: (ts ++ ds)) (S ++ [.obj Cn [] []]) with
  | .ok .non S' => match S'[S.length]? with
    | some (.obj C' ns l) => if okRs S.length l = true then .ok (.obj C' ns l) S else .st
    | _ => .st
  | .ex x _ => if okR S.length x = true then .ex x S else .st
  | _ => .st
section
variable {cf : Cf} {bs : Bx} {m : List Addr} {S : St} {σ : L2.St} {H : Hp} {ρ : Ro} {Q : VK} {vs : List V} {ts : List T}
theorem make_at (F : FAt K cf bs m S σ H ρ) (r : Reps K (mset bs m) H vs ts) (x dx : Addr) (hx : H x = none) (hdx : H dx = none) (ne : dx ≠ x) :
    Same H (upd (upd H dx (.own x)) x (.ins (He.ga K Cn) dx [])) ∧ Cs K bs (m ++ [x]) (S ++ [.obj Cn [] []]) (upd (upd H dx (.own x)) x (.ins (He.ga K Cn) dx [])) ∧ Reps K (mset bs (m ++ [x])) (upd (upd H dx (.own x)) x (.ins (He.ga K Cn) dx [])) (.ref x :: vs) (.ref S.length :: ts) := by
  have s1 : Same H (upd H dx (.own x)) := same_new hdx
  have hx1 : upd H dx (.own x) x = none := by rw [upd_ne (fun z => ne z.symm)]; exact hx
  have s : Same H (upd (upd H dx (.own x)) x (.ins (He.ga K Cn) dx [])) := s1.trans (same_new hx1)
  refine ⟨s, F.cs.new hx s (.obj (fs := []) upd_same .nil), .cons (.ref ?_) (reps_new (bs := bs) (S := S) hx s r)⟩
  show (m ++ [x])[S.length]? = some x
  rw [List.getElem?_append_right (by rw [F.cs.len]; exact Nat.le_refl _), F.cs.len]
  simp
theorem mMk_ok (F : FAt K cf bs m S σ H ρ) (r : Reps K (mset bs m) H vs ts) (h : RsOk K W bs cf.fl m σ H (RpT K bs) Q (match Fm ⟨S.length, S.length⟩ (.ref S.length :: ts) (S ++ [.obj Cn [] []]) with
    | .ok .non S' => (match S'[S.length]? with | some (.obj C' ns l) => if okRs S.length l = true then .ok (.obj C' ns l) S else .st | _ => .st)
    | .ex x _ => if okR S.length x = true then .ex x S else .st | _ => .st)) (x dx : Addr) (hx : H x = none) (hdx : H dx = none) (ne : dx ≠ x) :
    spF K Fm (.ref x :: vs) (upd (upd H dx (.own x)) x (.ins (He.ga K Cn) dx [])) (fun v H2 => v = .non ∧ Q (.ref x) H2) fun cls d H' => W cls d σ H' := by
  obtain ⟨s, cs1, r1⟩ := make_at (Cn := Cn) F r x dx hx hdx ne
  have nx : x ∉ m := fun z => by
    obtain ⟨o, e⟩ := F.cs.dom x z
    rw [hx] at e
    cases e
  have same : ∀ {m' H'}, Kp S.length (m ++ [x]) (upd (upd H dx (.own x)) x (.ins (He.ga K Cn) dx [])) m' H' → Same H H' ∧ m'.take S.length = m ∧ m'[S.length]? = some x := fun {m' H'} k => by
    refine ⟨fun b o e => k.all b o (fun z => ?_) (s b o e), ?_⟩
    · rw [← F.cs.len, List.drop_left] at z
      rw [List.mem_singleton] at z
      rw [z, hx] at e
      cases e
    · obtain ⟨⟨e', rfl, _⟩, _⟩ := k
      refine ⟨by rw [← F.cs.len, List.append_assoc, List.take_left], ?_⟩
      rw [List.getElem?_append_left (by simp [F.cs.len]), List.getElem?_append_right (by rw [F.cs.len]; exact Nat.le_refl _), F.cs.len]
      simp
  refine ⟨⟨S.length, S.length⟩, bs, _, _, _, cs1, fun b hb => by have := F.cs.bl b hb; rw [F.cs.len] at this; exact this, r1, ?_⟩
  cases e : Fm ⟨S.length, S.length⟩ (.ref S.length :: ts) (S ++ [.obj Cn [] []]) with
  | ok t S' =>
    rw [e] at h
    intro v m' H' cs' k' R
    unfold RpT at R
    obtain ⟨sm, e1, e2⟩ := same k'
    cases t with
    | non =>
      cases R
      refine ⟨rfl, ?_⟩
      dsimp only at h
      cases es : S'[S.length]? with
      | none => rw [es] at h; exact h.elim
      | some cc =>
        rw [es] at h
        have cl := cs'.cell _ cc x es e2
        cases cl with
        | obj hh rs =>
          dsimp only at h
          split at h
          · rename_i q
            have rr := rs.cut q
            rw [e1] at rr
            exact h _ m H' (F.cs.same sm) (Kp.of_same sm) (.obj (fun z => z.elim nx fun z => by
              obtain ⟨q, eq⟩ := (F.cs.hid x z).2
              rw [hx] at eq
              cases eq) hh rr)
          · exact h.elim
        | _ => exact h.elim
    | _ => exact h.elim
  | ex y S' =>
    rw [e] at h
    intro cls d m' H' cs' k' R
    obtain ⟨sm, e1, e2⟩ := same k'
    dsimp only at h
    split at h
    · rename_i q
      have := R.cut q
      rw [e1] at this
      exact h cls d m H' (F.cs.same sm) (Kp.of_same sm) this
    · exact h.elim
  | st => rw [e] at h; exact h.elim
end
theorem m_mk (M : Mk X.K (He.ga K Cn) f) (D : Dn X.prog X.w X.K X.mg X.base CX k f dvs (spF K Fm)) (hr : Room (k + 1) X.A) (hm : X.mg x = some (.ref (He.ga K Cn))) (hx : PassA CX X W) (hd : ∀ A H, Reps K A H dvs ds) (ha : PA X (e :: es) (tXA K W fr)) (hg : Gl X x := by rfl)
    (hdb : (x == ("__debug__" : Str)) = false := by decide) (he : starEach (e :: es) X.env = (false, eval e X.env) :: starEach es X.env := by rfl) (hpl : (backTo pos (starEach es X.env)).any (·.1) = false := by rfl) :
    PE X (.Call (.Name x p) (e :: es) [] pos) (tX K W (mMk Cn Fm ds fr)) := by
  refine ⟨fun pins s σ H Q I hw => ?_⟩
  refine (pe_mkA M D hr hm hx ha hg hdb he hpl).run pins s σ H Q I ?_
  obtain ⟨cf, bs, m, S, ρ, F, h⟩ := hw
  exact ⟨cf, bs, m, S, ρ, F, RsOk.bind F h fun ts vs m1 H1 S1 F1 k1 R1 h1 => fun x dx hx hdx ne => mMk_ok F1 (Reps.append R1 (hd _ _)) h1 x dx hx hdx ne⟩
/-! ### fields stored -/
def putN (f : Str) (t : T) : List Str → List T → List Str × List T
  | n :: ns, x :: l => if n = f then (n :: ns, t :: l) else ((putN f t ns l).1.cons n, (putN f t ns l).2.cons x)
  | _, _ => ([f], [t])
theorem putF_rep {A : ASet} {H : Hp} {f : Str} {y : V} {t : T} (r : Rep K A H y t) : ∀ {fs : List (Str × V)} {l : List T}, Reps K A H (fs.map (·.2)) l → (putF f y fs).map (·.1) = (putN f t (fs.map (·.1)) l).1 ∧ Reps K A H ((putF f y fs).map (·.2)) (putN f t (fs.map (·.1)) l).2
  | [], l, rs => by
    cases rs
    exact ⟨rfl, .cons r .nil⟩
  | (n, x) :: fs, l, rs => by
    cases rs with
    | cons r1 rs =>
      obtain ⟨h1, h2⟩ := putF_rep (f := f) r rs
      unfold putF
      simp only [List.map_cons]
      unfold putN
      split
      · exact ⟨rfl, .cons r rs⟩
      · simp only [List.map_cons]
        exact ⟨by rw [h1], .cons r1 h2⟩
theorem putN_ok {b : Nat} {f : Str} {t : T} (h : okR b t = true) : ∀ {ns : List Str} {l : List T}, okRs b l = true → okRs b (putN f t ns l).2 = true
  | n :: ns, x :: l, e => by
    unfold okRs at e
    rw [Bool.and_eq_true] at e
    unfold putN
    split
    · unfold okRs
      rw [h, e.2]
      rfl
    · show okRs b (x :: (putN f t ns l).2) = true
      unfold okRs
      rw [e.1, putN_ok h e.2]
      rfl
  | [], l, e => by
    unfold putN
    show okRs b [t] = true
    unfold okRs
    rw [h]
    rfl
  | _ :: _, [], e => by
    unfold putN
    show okRs b [t] = true
    unfold okRs
    rw [h]
    rfl
/-- a field of the cell is set -/
def fldPut (Cs : List Str) (f : Str) (c : Cf) (x t : T) (S : St) : Option St := match x with
  | .ref n => match S[n]? with
    | some (.obj C ns l) => if C ∈ Cs ∧ ns.length < 1000 ∧ wrOk c n t = true then some (S.set n (.obj C (putN f t ns l).1 (putN f t ns l).2)) else none
    | _ => none
  | _ => none
theorem fldPut_ok {cf : Cf} {bs : Bx} {m : List Addr} {S S' : St} {σ : L2.St} {H : Hp} {ρ : Ro} {Cs : List Str} {f : Str} {x t : T} {vx v : V} (F : FAt K cf bs m S σ H ρ) (hC : m_fldC K Cs f) (rx : Rep K (mset bs m) H vx x) (rt : Rep K (mset bs m) H v t) (e : fldPut Cs f cf x t S = some S') :
    ∃ a C dx fs, vx = .ref a ∧ H a = some (.ins C dx fs) ∧ Cls K C ∧ NoAttr K C f ∧ fs.length < 1000 ∧ FAt K cf bs m S' σ (upd H a (.ins C dx (putF f v fs))) ρ ∧ Kp cf.fl m H m (upd H a (.ins C dx (putF f v fs))) := by
  unfold fldPut at e
  split at e
  · rename_i n
    cases rx with
    | @ref a _ hn =>
      have hn : m[n]? = some a := hn
      cases es : S[n]? with
      | none => rw [es] at e; cases e
      | some cc =>
        rw [es] at e
        have cl := F.cs.cell n cc a es hn
        cases cl with
        | @obj dx C fs l hh rs =>
          dsimp only at e
          split at e
          · rename_i q
            cases e
            obtain ⟨c1, c2⟩ := hC _ q.1
            obtain ⟨q1, q2⟩ := putF_rep (f := f) rt rs
            obtain ⟨L, k, p⟩ := Tm.Cs.put (fl := cf.fl) (o' := .ins (He.ga K C) dx (putF f v fs)) F.cs hn hh (fun _ z => by cases z) (fun _ _ z => by cases z)
            have kk := k (wrOk_fl q.2.2)
            refine ⟨a, _, dx, fs, rfl, hh, c1, c2, by simpa using q.2.1, F.kp (p _ ?_ fun b hb hlt => ?_) kk, kk⟩
            · rw [← q1]
              exact .obj upd_same (q2.lk L)
            · unfold okR
              refine putN_ok (wrOk_b q.2.2 F.bn b hb hlt) ?_
              have := F.cs.old b hb n _ hlt es
              unfold okR at this
              exact this
          · cases e
        | _ => cases e
  · cases e
def sFldC (Cs : List Str) (f : Str) (fo fv : Ev T) : Sv := fun c ρ S => ouE (fv c ρ S) ρ fun t S => ouE (fo c ρ S) ρ fun x S => match fldPut Cs f c x t S with
  | some S' => .nx ρ S'
  | none => .st
theorem s_fld {f : Str} {Cs : List Str} {pos' : Pos} {fv : Ev T} (hC : m_fldC K Cs f) (ho : PE X o (tX K W fa)) (hv : PE X e (tX K W fv)) (hs : swapsWith e (some (.Attribute o f pos')) pos.line X.env = pure false := by rfl) (hK : X.K = K := by rfl) : PS X (.Assign [.Attribute o f pos'] e pos) (tXS K W (sFldC Cs f fa fv)) := by
  subst hK
  refine PS.imp (ps_fld ho hv hs) fun D σ H h => ?_
  obtain ⟨cf, bs, m, S, ρ, F, h⟩ := h
  refine ⟨cf, bs, m, S, ρ, F, OuOk.ofE F h fun t v m1 H1 S1 _ F1 k1 R1 h1 => ⟨cf, bs, m1, S1, ρ, F1, OuOk.ofE F1 h1 fun x vx m2 H2 S2 _ F2 k2 R2 h2 => ?_⟩⟩
  cases e : fldPut Cs f cf x t S2 with
  | none => rw [e] at h2; exact h2.elim
  | some S' =>
    rw [e] at h2
    obtain ⟨a, C, dx, fs, rfl, hh, c1, c2, hl, F3, k3⟩ := fldPut_ok F2 hC R2 (Rep.lk k2.lk R1) e
    exact ⟨a, C, dx, fs, rfl, hh, c1, c2, hl, h2 σ m2 _ F3 k3⟩
def gFld (Cs : List Str) (f : Str) (i : Nat) : Tg := fun t c ρ S => match ρ[i]? with
  | some (some x) => match fldPut Cs f c x t S with
    | some S' => some (ρ, S')
    | none => none
  | _ => none
end
end Tm

/-! N6: operations on trees. -/
namespace Tm
open PySem PySem.Spec PyProof.Rows L2
/-! ### lists of plain trees -/
def toI : List T → Option (List Int)
  | [] => some []
  | .int i :: l => (toI l).map (i :: ·)
  | _ => none
def toS : List T → Option (List Str)
  | [] => some []
  | .str i :: l => (toS l).map (i :: ·)
  | _ => none
def toB : List T → Option (List Bool)
  | [] => some []
  | .bl i :: l => (toB l).map (i :: ·)
  | _ => none
theorem toI_eq : ∀ {l : List T} {ns : List Int}, toI l = some ns → l = ns.map T.int
  | [], ns, h => by cases h; rfl
  | .int i :: l, ns, h => by
    obtain ⟨m, hm, rfl⟩ := Option.map_eq_some_iff.mp h
    rw [toI_eq hm]
    rfl
theorem toB_eq : ∀ {l : List T} {ns : List Bool}, toB l = some ns → l = ns.map T.bl
  | [], ns, h => by cases h; rfl
  | .bl i :: l, ns, h => by
    obtain ⟨m, hm, rfl⟩ := Option.map_eq_some_iff.mp h
    rw [toB_eq hm]
    rfl
theorem toI_map (ns : List Int) : toI (ns.map T.int) = some ns := by
  induction ns with
  | nil => rfl
  | cons n ns ih => simp [toI, ih]
theorem toB_map (ns : List Bool) : toB (ns.map T.bl) = some ns := by
  induction ns with
  | nil => rfl
  | cons n ns ih => simp [toB, ih]
/-- plain values of trees -/
def flatT : T → Option V
  | .non => some .non
  | .bl b => some (.bl b)
  | .int i => some (.int i)
  | .str x => some (.str x)
  | _ => none
def flatTs : List T → Option (List V)
  | [] => some []
  | t :: l => match flatT t, flatTs l with
    | some v, some vs => some (v :: vs)
    | _, _ => none
section
variable {K : PySem.W.Frag} {A : ASet} {H : Hp}
theorem Rep.flat {v w : V} {t : T} (r : Rep K A H v t) (h : flatT t = some w) : v = w ∧ flatV w = true := by
  cases r <;> cases h <;> exact ⟨rfl, rfl⟩
theorem Reps.flat : ∀ {xs ws : List V} {l : List T}, Reps K A H xs l → flatTs l = some ws → xs = ws ∧ ws.all flatV = true
  | _, _, _, .nil, h => by cases h; exact ⟨rfl, rfl⟩
  | _, ws, _, .cons (x := x) (t := t) (xs := xs) (l := l) r rs, h => by
    unfold flatTs at h
    cases e1 : flatT t with
    | none => rw [e1] at h; cases h
    | some v =>
      cases e2 : flatTs l with
      | none => rw [e1, e2] at h; cases h
      | some vs =>
        rw [e1, e2] at h
        cases h
        obtain ⟨h1, h2⟩ := r.flat e1
        obtain ⟨h3, h4⟩ := Reps.flat rs e2
        subst h1 h3
        exact ⟨rfl, by simp [h2, h4]⟩
theorem Reps.of_bools : ∀ {xs : List V} {ns : List Bool}, Reps K A H xs (ns.map T.bl) → xs = ns.map V.bl
  | [], [], _ => rfl
  | [], _ :: _, r => nomatch r
  | _ :: _, [], r => nomatch r
  | x :: xs, n :: ns, r => by
    cases r with
    | cons h r =>
      cases h
      rw [Reps.of_bools r]
      rfl
end
/-! ### data that can be compared -/
mutual
def toD : T → Option PyData
  | .non => some .none
  | .bl b => some (.bool b)
  | .int i => some (.int i)
  | .str x => some (.str x)
  | .tup l => (toDs l).map .tuple
  | .wt l => (toDs l).map .tuple
  | .lst l => (toDs l).map .list
  | _ => none
def toDs : List T → Option (List PyData)
  | [] => some []
  | t :: l => match toD t, toDs l with
    | some d, some ds => some (d :: ds)
    | _, _ => none
end
section
variable {K : PySem.W.Frag} {A : ASet} {H : Hp}
mutual
theorem Rep.dp : ∀ {v : V} {t : T} {d : PyData}, Rep K A H v t → toD t = some d → Dp K H v d
  | _, _, _, .non, h => by simp [toD] at h; subst h; exact .non
  | _, _, _, .bl b, h => by simp [toD] at h; subst h; exact .bl b
  | _, _, _, .int i, h => by simp [toD] at h; subst h; exact .int i
  | _, _, _, .str x, h => by simp [toD] at h; subst h; exact .str x
  | _, _, _, .tup hh r, h => by
    simp only [toD] at h
    obtain ⟨ds, e, rfl⟩ := Option.map_eq_some_iff.mp h
    exact .tup (.inl (.inl hh)) (Reps.dp r e)
  | _, _, _, .wt hh r, h => by
    simp only [toD] at h
    obtain ⟨ds, e, rfl⟩ := Option.map_eq_some_iff.mp h
    exact .tup (hh _) (Reps.dp r e)
  | _, _, _, .lst na hh r, h => by
    simp only [toD] at h
    obtain ⟨ds, e, rfl⟩ := Option.map_eq_some_iff.mp h
    exact .lst (.inl (.inl hh)) (Reps.dp r e)
  | _, _, _, .dK .., h => by simp [toD] at h
  | _, _, _, .dT .., h => by simp [toD] at h
  | _, _, _, .obj .., h => by simp [toD] at h
  | _, _, _, .cls .., h => by simp [toD] at h
  | _, _, _, .scr .., h => by simp [toD] at h
  | _, _, _, .ref .., h => by simp [toD] at h
  | _, _, _, .fn .., h => by simp [toD] at h
  | _, _, _, .exc .., h => by simp [toD] at h
theorem Reps.dp : ∀ {xs : List V} {l : List T} {ds : List PyData}, Reps K A H xs l → toDs l = some ds → DpAll K H xs ds
  | _, _, _, .nil, h => by simp [toDs] at h; subst h; exact .nil
  | _, _, _, .cons (t := t) (l := l) r rs, h => by
    unfold toDs at h
    cases e1 : toD t with
    | none => rw [e1] at h; cases h
    | some v =>
      cases e2 : toDs l with
      | none => rw [e1, e2] at h; cases h
      | some vs =>
        rw [e1, e2] at h
        cases h
        exact .cons (Rep.dp r e1) (Reps.dp rs e2)
end
end
/-! ### ints and texts -/
def oI (g : Int → Int → Int) : T → T → Option T
  | .int i, .int j => some (.int (g i j))
  | _, _ => none
def oIB (g : Int → Int → Bool) : T → T → Option T
  | .int i, .int j => some (.bl (g i j))
  | _, _ => none
def oIc (c : Int → Int → Bool) (g : Int → Int → Int) : T → T → Option T
  | .int i, .int j => if c i j = true then some (.int (g i j)) else none
  | _, _ => none
theorem oI_ok {K : PySem.W.Frag} {g : Int → Int → Int} : OpT K (rI0 fun i j => .int (g i j)) (oI g) := fun A H x y tx ty tz Q d rx ry e k => by
  unfold oI at e
  split at e
  · cases e
    cases rx
    cases ry
    exact ⟨_, _, rfl, rfl, k _ _ (L2.Same.refl _) (.int _)⟩
  · cases e
theorem oIB_ok {K : PySem.W.Frag} {g : Int → Int → Bool} : OpT K (rI0 fun i j => .bl (g i j)) (oIB g) := fun A H x y tx ty tz Q d rx ry e k => by
  unfold oIB at e
  split at e
  · cases e
    cases rx
    cases ry
    exact ⟨_, _, rfl, rfl, k _ _ (L2.Same.refl _) (.bl _)⟩
  · cases e
theorem oIc_ok {K : PySem.W.Frag} {C : Int → Int → Prop} {c : Int → Int → Bool} {g : Int → Int → Int} (hc : ∀ i j, c i j = true → C i j) : OpT K (rI C fun i j => .int (g i j)) (oIc c g) := fun A H x y tx ty tz Q d rx ry e k => by
  unfold oIc at e
  split at e
  · split at e
    · rename_i h
      cases e
      cases rx
      cases ry
      exact ⟨_, _, rfl, rfl, hc _ _ h, k _ _ (L2.Same.refl _) (.int _)⟩
    · cases e
  · cases e
theorem OpT.or {K : PySem.W.Frag} {r r' : R2} {f g : T → T → Option T} (h : OpT K r f) (h' : OpT K r' g) : OpT K (fun x y H Q => r x y H Q ∨ r' x y H Q) (fun a b => (f a b).or (g a b)) := fun A H x y tx ty tz Q d rx ry e k => by
  dsimp only at e
  cases e1 : f tx ty with
  | some u =>
    rw [e1] at e
    cases e
    exact .inl (h A H x y tx ty _ Q d rx ry e1 k)
  | none =>
    rw [e1] at e
    exact .inr (h' A H x y tx ty tz Q d rx ry e k)
def oAddS : T → T → Option T
  | .str i, .str j => if i.length + j.length ≤ 1000000 then some (.str (i ++ j)) else none
  | _, _ => none
def oCatL : T → T → Option T
  | .lst l, .lst m => if l.length + m.length ≤ 1000000 then some (.lst (l ++ m)) else none
  | .tup l, .tup m => if l.length + m.length ≤ 1000000 then some (.tup (l ++ m)) else none
  | _, _ => none
section
variable {X : Cx} {K : PySem.W.Frag}
theorem oAddS_ok : OpT K (fun x y H Q => ∃ i j, x = .str i ∧ y = .str j ∧ i.length + j.length ≤ sizeLine ∧ Q (.str (i ++ j)) H) oAddS := fun A H x y tx ty tz Q d rx ry e k => by
  unfold oAddS at e
  split at e
  · split at e
    · rename_i h
      cases e
      cases rx
      cases ry
      exact ⟨_, _, rfl, rfl, big_le h, k _ _ (L2.Same.refl _) (.str _)⟩
    · cases e
  · cases e
theorem oCatL_ok : OpT K (fun x y H Q => rCat x y H Q ∨ rCatA K x y H Q) oCatL := fun A H x y tx ty tz Q d rx ry e k => by
  unfold oCatL at e
  split at e
  · split at e
    · rename_i h
      cases e
      cases rx with
      | lst na hx rsx =>
        cases ry with
        | lst nb hy rsy =>
          refine .inl ⟨_, _, _, _, rfl, rfl, hx, hy, big_le (by rw [rsx.length, rsy.length]; exact h), fun p hp => ?_⟩
          exact k _ _ (same_new hp) (.lst (d.new hp) upd_same ((rsx.append rsy).same (same_new hp)))
    · cases e
  · split at e
    · rename_i h
      cases e
      cases rx with
      | tup hx rsx =>
        cases ry with
        | tup hy rsy =>
          refine .inr ⟨_, _, _, _, rfl, rfl, .inl (.inl hx), .inl (.inl hy), big_le (by rw [rsx.length, rsy.length]; exact h), fun q => ?_, fun _ q => ?_, fun _ _ p hp => ?_⟩
          · subst q
            cases rsx
            exact k _ _ (L2.Same.refl _) (.tup hy rsy)
          · subst q
            cases rsy
            rw [List.append_nil] at k
            exact k _ _ (L2.Same.refl _) (.tup hx rsx)
          · exact k _ _ (same_new hp) (.tup upd_same ((rsx.append rsy).same (same_new hp)))
    · cases e
  · cases e
def oAdd : T → T → Option T := fun a b => (oI (· + ·) a b).or ((oAddS a b).or (oCatL a b))
theorem q_add (hK : X.K = K := by rfl) : OpR X (binaryOp .Add) (fun x y H Q => rI0 (fun i j => .int (i + j)) x y H Q ∨ (∃ i j, x = .str i ∧ y = .str j ∧ i.length + j.length ≤ sizeLine ∧ Q (.str (i ++ j)) H) ∨ (rCat x y H Q ∨ rCatA K x y H Q)) := by subst hK; exact OpR.or op_add (OpR.or op_add_str (OpR.or op_cat op_catA))
theorem oAdd_ok : OpT K (fun x y H Q => rI0 (fun i j => .int (i + j)) x y H Q ∨ (∃ i j, x = .str i ∧ y = .str j ∧ i.length + j.length ≤ sizeLine ∧ Q (.str (i ++ j)) H) ∨ (rCat x y H Q ∨ rCatA K x y H Q)) oAdd := OpT.or oI_ok (OpT.or oAddS_ok oCatL_ok)
def cMul (i j : Int) : Bool := decide (-(2 ^ 64) < i ∧ i < 2 ^ 64) || decide (-(2 ^ 64) < j ∧ j < 2 ^ 64)
def oSub : T → T → Option T := oI (· - ·)
def oMod : T → T → Option T := oIc (fun _ j => decide (0 < j)) (· % ·)
theorem oMod_ok : OpT K (rI (fun _ j => 0 < j) fun i j => .int (i % j)) oMod := oIc_ok fun _ _ h => of_decide_eq_true h
def oLt : T → T → Option T := oIB fun i j => decide (i < j)
def oLe : T → T → Option T := oIB fun i j => decide (i ≤ j)
def oGt : T → T → Option T := oIB fun i j => decide (j < i)
def oGe : T → T → Option T := oIB fun i j => decide (j ≤ i)
/-! ### == -/
/-- scalars -/
def sclT : T → T → Option Bool
  | .non, .non => some true
  | .non, .int _ => some false
  | .int _, .non => some false
  | .non, .bl _ => some false
  | .bl _, .non => some false
  | .non, .str _ => some false
  | .str _, .non => some false
  | .int i, .int j => some (decide (i = j))
  | .bl i, .bl j => some (decide (i = j))
  | .str i, .str j => some (decide (i = j))
  | _, _ => none
def oEqS : T → T → Option T := fun a b => (sclT a b).map T.bl
def oNeS : T → T → Option T := fun a b => (sclT a b).map fun c => T.bl (!c)
theorem sclT_ok {A : ASet} {H : Hp} {x y : V} {tx ty : T} {b : Bool} (rx : Rep K A H x tx) (ry : Rep K A H y ty) (e : sclT tx ty = some b) : scal x y = true ∧ decide (x = y) = b := by
  unfold sclT at e
  split at e <;> cases e <;> cases rx <;> cases ry <;> refine ⟨rfl, ?_⟩ <;> simp
theorem oEqS_ok : OpT K rEq oEqS := fun A H x y tx ty tz Q d rx ry e k => by
  obtain ⟨b, hb, rfl⟩ := Option.map_eq_some_iff.mp e
  obtain ⟨h1, h2⟩ := sclT_ok rx ry hb
  exact ⟨h1, by rw [h2]; exact k _ _ (L2.Same.refl _) (.bl _)⟩
theorem oNeS_ok : OpT K rNe oNeS := fun A H x y tx ty tz Q d rx ry e k => by
  obtain ⟨b, hb, rfl⟩ := Option.map_eq_some_iff.mp e
  obtain ⟨h1, h2⟩ := sclT_ok rx ry hb
  exact ⟨h1, by rw [h2]; exact k _ _ (L2.Same.refl _) (.bl _)⟩
/-- data -/
def eqD (a b : T) : Option Bool := match toD a, toD b with
  | some d, some e => if SeqAt.shaped d = true ∧ SeqAt.shaped e = true then some (PyData.eqv d e) else none
  | _, _ => none
def oEqD : T → T → Option T := fun a b => (eqD a b).map T.bl
def oNeD : T → T → Option T := fun a b => (eqD a b).map fun c => T.bl (!c)
theorem eqD_ok {A : ASet} {H : Hp} {x y : V} {tx ty : T} {b : Bool} (rx : Rep K A H x tx) (ry : Rep K A H y ty) (e : eqD tx ty = some b) : ∃ d e, Dp K H x d ∧ Dp K H y e ∧ SeqAt.shaped d = true ∧ SeqAt.shaped e = true ∧ PyData.eqv d e = b := by
  unfold eqD at e
  cases e1 : toD tx with
  | none => rw [e1] at e; cases e
  | some d =>
    cases e2 : toD ty with
    | none => rw [e1, e2] at e; cases e
    | some d' =>
      rw [e1, e2] at e
      dsimp only at e
      split at e
      · rename_i h
        exact ⟨d, d', rx.dp e1, ry.dp e2, h.1, h.2, Option.some.inj e⟩
      · cases e
theorem oEqD_ok : OpT K (rEqD K) oEqD := fun A H x y tx ty tz Q d rx ry e k => by
  obtain ⟨b, hb, rfl⟩ := Option.map_eq_some_iff.mp e
  obtain ⟨d1, d2, h1, h2, h3, h4, h5⟩ := eqD_ok rx ry hb
  exact ⟨d1, d2, h1, h2, h3, h4, by rw [h5]; exact k _ _ (L2.Same.refl _) (.bl _)⟩
theorem oNeD_ok : OpT K (rNeD K) oNeD := fun A H x y tx ty tz Q d rx ry e k => by
  obtain ⟨b, hb, rfl⟩ := Option.map_eq_some_iff.mp e
  obtain ⟨d1, d2, h1, h2, h3, h4, h5⟩ := eqD_ok rx ry hb
  exact ⟨d1, d2, h1, h2, h3, h4, by rw [h5]; exact k _ _ (L2.Same.refl _) (.bl _)⟩
def oEq : T → T → Option T := fun a b => (oEqS a b).or (oEqD a b)
def oNe : T → T → Option T := fun a b => (oNeS a b).or (oNeD a b)
theorem q_eq (hu : X.A.units + 64 < cLine) (hK : X.K = K := by rfl) : OpR X (compareOp .Eq) (fun x y H Q => rEq x y H Q ∨ rEqD K x y H Q) := by subst hK; exact OpR.or op_eq (op_eqD hu)
theorem q_ne (hu : X.A.units + 64 < cLine) (hK : X.K = K := by rfl) : OpR X (compareOp .NotEq) (fun x y H Q => rNe x y H Q ∨ rNeD K x y H Q) := by subst hK; exact OpR.or op_ne (op_neD hu)
theorem oEq_ok : OpT K (fun x y H Q => rEq x y H Q ∨ rEqD K x y H Q) oEq := OpT.or oEqS_ok oEqD_ok
theorem oNe_ok : OpT K (fun x y H Q => rNe x y H Q ∨ rNeD K x y H Q) oNe := OpT.or oNeS_ok oNeD_ok
/-! ### is None -/
def isNonT : T → Bool
  | .non => true
  | _ => false
def oIsN : T → T → Option T
  | a, .non => some (.bl (isNonT a))
  | _, _ => none
def oNotN : T → T → Option T
  | a, .non => some (.bl (!isNonT a))
  | _, _ => none
theorem isNon_ok {A : ASet} {H : Hp} {x : V} {tx : T} (rx : Rep K A H x tx) : decide (x = .non) = isNonT tx := by
  cases rx <;> rfl
theorem oIsN_ok : OpT K (fun x y H Q => y = .non ∧ Q (.bl (decide (x = .non))) H) oIsN := fun A H x y tx ty tz Q d rx ry e k => by
  unfold oIsN at e
  split at e
  · cases e
    cases ry
    exact ⟨rfl, by rw [isNon_ok rx]; exact k _ _ (L2.Same.refl _) (.bl _)⟩
  · cases e
theorem oNotN_ok : OpT K (fun x y H Q => y = .non ∧ Q (.bl (!decide (x = .non))) H) oNotN := fun A H x y tx ty tz Q d rx ry e k => by
  unfold oNotN at e
  split at e
  · cases e
    cases ry
    exact ⟨rfl, by rw [isNon_ok rx]; exact k _ _ (L2.Same.refl _) (.bl _)⟩
  · cases e
/-! ### in -/
def seqT : T → Option (List T)
  | .lst l => some l
  | .tup l => some l
  | .wt l => some l
  | .scr ns => some (ns.map T.int)
  | _ => none
theorem Rep.sq {A : ASet} {H : Hp} {y : V} {t : T} {l : List T} (r : Rep K A H y t) (e : seqT t = some l) : ∃ p xs, y = .ref p ∧ (SqL K H p xs ∨ SqT K H p xs) ∧ Reps K A H xs l := by
  cases r <;> cases e
  · rename_i h r
    exact ⟨_, _, rfl, .inr (.inl (.inl h)), r⟩
  · rename_i h r
    exact ⟨_, _, rfl, .inr (h _), r⟩
  · rename_i h r
    exact ⟨_, _, rfl, .inl (.inl (.inl h)), r⟩
  · rename_i h
    exact ⟨_, _, rfl, .inl h.sq, Reps.ints _⟩
def inT (a b : T) : Option Bool := match flatT a, (seqT b).bind flatTs with
  | some v, some ws => some (inV v ws)
  | _, _ => none
def oInF : T → T → Option T := fun a b => (inT a b).map T.bl
theorem inT_ok {A : ASet} {H : Hp} {x y : V} {tx ty : T} {b : Bool} (rx : Rep K A H x tx) (ry : Rep K A H y ty) (e : inT tx ty = some b) : ∃ p xs, y = .ref p ∧ (SqL K H p xs ∨ SqT K H p xs) ∧ flatV x = true ∧ xs.all flatV = true ∧ inV x xs = b := by
  unfold inT at e
  cases e1 : flatT tx with
  | none => rw [e1] at e; cases e
  | some v =>
    cases e2 : seqT ty with
    | none => rw [e1, e2] at e; cases e
    | some l =>
      cases e3 : flatTs l with
      | none => rw [e1, e2, Option.bind_some, e3] at e; cases e
      | some ws =>
        rw [e1, e2, Option.bind_some, e3] at e
        obtain ⟨p, xs, h1, h2, h3⟩ := ry.sq e2
        obtain ⟨q1, q2⟩ := rx.flat e1
        obtain ⟨q3, q4⟩ := h3.flat e3
        subst q1 q3
        exact ⟨p, xs, h1, h2, q2, q4, Option.some.inj e⟩
theorem oInF_ok : OpT K (rIn K false) oInF := fun A H x y tx ty tz Q d rx ry e k => by
  obtain ⟨b, hb, rfl⟩ := Option.map_eq_some_iff.mp e
  obtain ⟨p, xs, h1, h2, h3, h4, h5⟩ := inT_ok rx ry hb
  exact ⟨p, xs, h1, h2, h3, h4, by rw [h5]; exact k _ _ (L2.Same.refl _) (.bl _)⟩
/-- a sign in a text -/
def oInC : T → T → Option T
  | .str a, .str z => match a.cps.toList with
    | [c] => some (.bl (decide (c ∈ z.cps.toList)))
    | _ => none
  | _, _ => none
theorem oInC_ok : OpT K (fun x y H Q => ∃ (c : Nat) (z : Str), x = .str ⟨#[c]⟩ ∧ y = .str z ∧ Q (.bl (decide (c ∈ z.cps.toList))) H) oInC := fun A H x y tx ty tz Q d rx ry e k => by
  unfold oInC at e
  split at e
  · rename_i a z
    split at e
    · rename_i c hc
      cases e
      cases rx
      cases ry
      have ea : a = ⟨#[c]⟩ := by
        obtain ⟨cps⟩ := a
        have : cps = #[c] := by
          apply Array.ext'
          exact hc
        rw [this]
      exact ⟨c, z, by rw [ea], rfl, k _ _ (L2.Same.refl _) (.bl _)⟩
    · cases e
  · cases e
def oIn : T → T → Option T := fun a b => (oInF a b).or (oInC a b)
theorem q_in (hK : X.K = K := by rfl) : OpR X (compareOp .In) (fun x y H Q => rIn K false x y H Q ∨ ∃ (c : Nat) (z : Str), x = .str ⟨#[c]⟩ ∧ y = .str z ∧ Q (.bl (decide (c ∈ z.cps.toList))) H) := by subst hK; exact OpR.or op_in_seq op_in_sign
theorem oIn_ok : OpT K (fun x y H Q => rIn K false x y H Q ∨ ∃ (c : Nat) (z : Str), x = .str ⟨#[c]⟩ ∧ y = .str z ∧ Q (.bl (decide (c ∈ z.cps.toList))) H) oIn := OpT.or oInF_ok oInC_ok
/-! ### o[i] -/
def oIx : T → T → Option T
  | .str z, .int i => if z.length ≤ 1000000 then (atI z.cps.toList i).map fun c => T.str ⟨#[c]⟩ else none
  | .lst l, .int i => atI l i
  | .tup l, .int i => atI l i
  | .wt l, .int i => atI l i
  | .scr ns, .int i => atI (ns.map T.int) i
  | _, _ => none
theorem Reps.atI {A : ASet} {H : Hp} {xs : List V} {l : List T} {i : Int} {t : T} (r : Reps K A H xs l) (h : L2.atI l i = some t) : ∃ x, L2.atI xs i = some x ∧ Rep K A H x t := by
  unfold L2.atI at h ⊢
  rw [r.length]
  cases e : ixN l.length i with
  | none => rw [e] at h; cases h
  | some j =>
    rw [e] at h
    exact r.get h
/-! ### builtins -/
def bLen : List T → Option T
  | [.str z] => if z.length ≤ 1000000 then some (.int z.length) else none
  | [.lst l] => some (.int l.length)
  | [.tup l] => some (.int l.length)
  | [.wt l] => some (.int l.length)
  | [.scr ns] => some (.int ns.length)
  | _ => none
theorem bLen_ok : CallT K (rLn K) bLen := fun A H xs ts tz Q d rs e k => by
  unfold bLen at e
  split at e
  · split at e
    · rename_i h
      cases e
      cases rs with
      | cons r rs =>
        cases rs
        cases r
        exact ⟨_, _, rfl, ⟨big_le h, rfl⟩, k _ _ (L2.Same.refl _) (.int _)⟩
    · cases e
  · cases e
    cases rs with
    | cons r rs =>
      cases rs
      cases r with
      | lst na h r => exact ⟨_, _, rfl, .inl ⟨_, .inl (.inl h), rfl⟩, by rw [r.length]; exact k _ _ (L2.Same.refl _) (.int _)⟩
  · cases e
    cases rs with
    | cons r rs =>
      cases rs
      cases r with
      | tup h r => exact ⟨_, _, rfl, .inr ⟨_, .inl (.inl h), rfl⟩, by rw [r.length]; exact k _ _ (L2.Same.refl _) (.int _)⟩
  · cases e
    cases rs with
    | cons r rs =>
      cases rs
      cases r with
      | wt h r => exact ⟨_, _, rfl, .inr ⟨_, h _, rfl⟩, by rw [r.length]; exact k _ _ (L2.Same.refl _) (.int _)⟩
  · cases e
    cases rs with
    | cons r rs =>
      cases rs
      cases r with
      | scr h => exact ⟨_, _, rfl, .inl ⟨_, h.sq, rfl⟩, by rw [List.length_map]; exact k _ _ (L2.Same.refl _) (.int _)⟩
  · cases e
def bInt : List T → Option T
  | [.int i] => some (.int i)
  | [.bl b] => some (.int (if b then 1 else 0))
  | [.str a] => match PySem.intText? a with
    | some n => if a.length ≤ 640 then some (.int n) else none
    | none => none
  | _ => none
def rIntA : List V → Hp → VK → Prop := fun xs H Q => ((∃ i, xs = [.int i] ∧ Q (.int i) H) ∨ ∃ k, xs = [.bl k] ∧ Q (.int (if k then 1 else 0)) H) ∨ ∃ a n, xs = [.str a] ∧ PySem.intText? a = some n ∧ a.length ≤ 640 ∧ Q (.int n) H
theorem q_int : CallR X (.type "int") rIntA := CallR.or call_int1 call_int_str
theorem bInt_ok : CallT K rIntA bInt := fun A H xs ts tz Q d rs e k => by
  unfold bInt at e
  split at e
  · cases e
    cases rs with
    | cons r rs =>
      cases rs
      cases r
      exact .inl (.inl ⟨_, rfl, k _ _ (L2.Same.refl _) (.int _)⟩)
  · cases e
    cases rs with
    | cons r rs =>
      cases rs
      cases r
      exact .inl (.inr ⟨_, rfl, k _ _ (L2.Same.refl _) (.int _)⟩)
  · split at e
    · rename_i n hn
      split at e
      · rename_i hl
        cases e
        cases rs with
        | cons r rs =>
          cases rs
          cases r
          exact .inr ⟨_, n, rfl, hn, hl, k _ _ (L2.Same.refl _) (.int _)⟩
      · cases e
    · cases e
  · cases e
def bI2 (g : Int → Int → Int) : List T → Option T
  | [.int i, .int j] => some (.int (g i j))
  | _ => none
theorem bI2_ok {g : Int → Int → Int} : CallT K (fun xs H Q => ∃ i j, xs = [.int i, .int j] ∧ Q (.int (g i j)) H) (bI2 g) := fun A H xs ts tz Q d rs e k => by
  unfold bI2 at e
  split at e
  · cases e
    cases rs with
    | cons r rs =>
      cases rs with
      | cons r2 rs =>
        cases rs
        cases r
        cases r2
        exact ⟨_, _, rfl, k _ _ (L2.Same.refl _) (.int _)⟩
  · cases e
def bMax : List T → Option T := bI2 fun i j => if j > i then j else i
def bMin : List T → Option T := bI2 fun i j => if j < i then j else i
def bAbs : List T → Option T
  | [.int i] => some (.int (if i < 0 then -i else i))
  | _ => none
theorem bAbs_ok : CallT K (fun xs H Q => ∃ i, xs = [.int i] ∧ Q (.int (if i < 0 then -i else i)) H) bAbs := fun A H xs ts tz Q d rs e k => by
  unfold bAbs at e
  split at e
  · cases e
    cases rs with
    | cons r rs =>
      cases rs
      cases r
      exact ⟨_, rfl, k _ _ (L2.Same.refl _) (.int _)⟩
  · cases e
def bAll : List T → Option T
  | [.lst l] => (toB l).map fun bs => T.bl (bs.all id)
  | _ => none
theorem bAll_ok : CallT K (rAll K) bAll := fun A H xs ts tz Q d rs e k => by
  unfold bAll at e
  split at e
  · obtain ⟨bs, hb, rfl⟩ := Option.map_eq_some_iff.mp e
    cases rs with
    | cons r rs =>
      cases rs
      cases r with
      | lst na h r =>
        rw [toB_eq hb] at r
        have := r.of_bools
        subst this
        exact ⟨_, bs, rfl, .inl (.inl h), k _ _ (L2.Same.refl _) (.bl _)⟩
  · cases e
/-- sorted ints -/
def insI (a : Int) : List Int → List Int
  | [] => [a]
  | b :: l => if a ≤ b then a :: b :: l else b :: insI a l
def srtI : List Int → List Int
  | [] => []
  | a :: l => insI a (srtI l)
theorem insI_perm (a : Int) : ∀ l : List Int, (insI a l).Perm (a :: l)
  | [] => .refl _
  | b :: l => by
    unfold insI
    split
    · exact .refl _
    · exact ((insI_perm a l).cons b).trans (.swap a b l)
theorem insI_sorted {a : Int} : ∀ {l : List Int}, l.Pairwise (· ≤ ·) → (insI a l).Pairwise (· ≤ ·)
  | [], _ => List.pairwise_singleton _ _
  | b :: l, h => by
    obtain ⟨h1, h2⟩ := List.pairwise_cons.mp h
    unfold insI
    split
    · rename_i q
      exact List.pairwise_cons.mpr ⟨fun x hx => (List.mem_cons.mp hx).elim (fun z => z ▸ q) fun z => Int.le_trans q (h1 x z), h⟩
    · rename_i q
      exact List.pairwise_cons.mpr ⟨fun x hx => (List.mem_cons.mp ((insI_perm a l).mem_iff.mp hx)).elim (fun z => by rw [z]; omega) fun z => h1 x z, insI_sorted h2⟩
theorem srtI_perm : ∀ l : List Int, (srtI l).Perm l
  | [] => .refl _
  | a :: l => (insI_perm a _).trans ((srtI_perm l).cons a)
theorem srtI_sorted : ∀ l : List Int, (srtI l).Pairwise (· ≤ ·)
  | [] => .nil
  | a :: l => insI_sorted (srtI_sorted l)
theorem perm_sorted_eq {l m : List Int} (hp : l.Perm m) (hl : l.Pairwise (· ≤ ·)) (hm : m.Pairwise (· ≤ ·)) : l = m := hp.eq_of_pairwise (fun a b _ _ h1 h2 => Int.le_antisymm h1 h2) hl hm
theorem srtI_eq {ns m : List Int} (hp : m.Perm ns) (hm : m.Pairwise (· ≤ ·)) : m = srtI ns := perm_sorted_eq (hp.trans (srtI_perm ns).symm) hm (srtI_sorted ns)
def bSrtI : List T → Option T
  | [.lst l] => (toI l).map fun ns => T.lst ((srtI ns).map T.int)
  | _ => none
theorem bSrtI_ok : CallT K (rSortedI K) bSrtI := fun A H xs ts tz Q d rs e k => by
  unfold bSrtI at e
  split at e
  · obtain ⟨bs, hb, rfl⟩ := Option.map_eq_some_iff.mp e
    cases rs with
    | cons r rs =>
      cases rs
      cases r with
      | lst na h r =>
        rw [toI_eq hb] at r
        have := r.of_ints
        subst this
        refine ⟨_, bs, rfl, .inl (.inl h), fun ns' p h1 h2 hp => ?_⟩
        rw [srtI_eq h1 h2]
        exact k _ _ (same_new hp) (.lst (d.new hp) upd_same (Reps.ints _))
  · cases e
end
end Tm

/-! N7: comprehensions. -/
namespace Tm
open PySem PySem.Spec PyProof.Rows L2
def wipeS : List Nat → Ro → Ro
  | [], ρ => ρ
  | v :: vs, ρ => (wipeS vs ρ).set v none
/-- the turns of a comprehension -/
def lcL (g : Tg) (tt : Ev Bool) (te : Ev T) : List T → List T → Cf → Ro → St → Rs (List T)
  | [], acc, _, _, S => .ok acc S
  | x :: l, acc, c, ρ, S => match g x c ρ S with
    | some (ρ1, S1) => match tt c ρ1 S1 with
      | .ok true S2 => match te c ρ1 S2 with
        | .ok y S3 => if acc.length < 1000000 then lcL g tt te l (acc ++ [y]) c ρ S3 else .st
        | _ => .st
      | .ok false S2 => lcL g tt te l acc c ρ S2
      | _ => .st
    | none => .st
def lcC (g : Tg) (tt : Ev Bool) (te : Ev T) (n : Nat) : Nat → Nat → List T → Cf → Ro → St → Rs (List T)
  | 0, _, _, _, _, _ => .st
  | k + 1, i, acc, c, ρ, S => match S[n]? with
    | some (.lst l) => match l[i]? with
      | none => .ok acc S
      | some x => match g x c ρ S with
        | some (ρ1, S1) => match tt c ρ1 S1 with
          | .ok true S2 => match te c ρ1 S2 with
            | .ok y S3 => if acc.length < 1000000 then lcC g tt te n k (i + 1) (acc ++ [y]) c ρ S3 else .st
            | _ => .st
          | .ok false S2 => lcC g tt te n k (i + 1) acc c ρ S2
          | _ => .st
        | none => .st
    | _ => .st
def lcS (g : Tg) (tt : Ev Bool) (te : Ev T) : Src → List T → Cf → Ro → St → Rs (List T)
  | .fix l => lcL g tt te l
  | .cell n => lcC g tt te n whLine 0
  | .en _ => fun _ _ _ _ => .st
def mLc (vs : List Nat) (fi : Ev Src) (g : Tg) (tt : Ev Bool) (te : Ev T) : Ev T := fi.bind fun src c ρ S => match lcS g tt te src [] c (wipeS vs ρ) S with
  | .ok acc S' => .ok (.lst acc) S'
  | _ => .st
def mYes : Ev Bool := fun _ _ S => .ok true S
/-- two clauses -/
def lcL2 (vs1 : List Nat) (g : Tg) (tt : Ev Bool) (fi1 : Ev Src) (g1 : Tg) (tt1 : Ev Bool) (te : Ev T) : List T → List T → Cf → Ro → St → Rs (List T)
  | [], acc, _, _, S => .ok acc S
  | x :: l, acc, c, ρ, S => match g x c ρ S with
    | some (ρ1, S1) => match tt c ρ1 S1 with
      | .ok true S2 => match fi1 c ρ1 S2 with
        | .ok src S3 => match lcS g1 tt1 te src acc c (wipeS vs1 ρ1) S3 with
          | .ok acc' S4 => lcL2 vs1 g tt fi1 g1 tt1 te l acc' c ρ S4
          | _ => .st
        | _ => .st
      | .ok false S2 => lcL2 vs1 g tt fi1 g1 tt1 te l acc c ρ S2
      | _ => .st
    | none => .st
def mLc2 (vs vs1 : List Nat) (fi : Ev Src) (g : Tg) (tt : Ev Bool) (fi1 : Ev Src) (g1 : Tg) (tt1 : Ev Bool) (te : Ev T) : Ev T := fi.bind fun src c ρ S => match src with
  | .fix l => match lcL2 vs1 g tt fi1 g1 tt1 te l [] c (wipeS vs ρ) S with
    | .ok acc S' => .ok (.lst acc) S'
    | _ => .st
  | _ => .st
theorem wipe_out {σ : L2.St} {j : Nat} : ∀ {vs : List Nat}, j ∉ vs → (L2.wipe σ vs)[j]? = σ[j]?
  | [], _ => rfl
  | v :: vs, h => by
    unfold L2.wipe
    rw [List.getElem?_set_ne (fun z => h (by rw [z]; exact List.mem_cons_self ..))]
    exact wipe_out fun z => h (List.mem_cons_of_mem _ z)
theorem wipe_in {σ : L2.St} {j : Nat} : ∀ {vs : List Nat}, j ∈ vs → j < σ.length → (L2.wipe σ vs)[j]? = some none
  | [], h, _ => nomatch h
  | v :: vs, h, hl => by
    unfold L2.wipe
    by_cases q : v = j
    · subst q
      rw [List.getElem?_set_self (by rw [wipe_length]; exact hl)]
    · rw [List.getElem?_set_ne q]
      exact wipe_in ((List.mem_cons.mp h).resolve_left fun z => q z.symm) hl
theorem wipe_wipe (σ : L2.St) (vs : List Nat) : L2.wipe (L2.wipe σ vs) vs = L2.wipe σ vs := by
  apply List.ext_getElem?
  intro j
  by_cases hj : j ∈ vs
  · by_cases hl : j < σ.length
    · rw [wipe_in hj (by rw [wipe_length]; exact hl), wipe_in hj hl]
    · rw [List.getElem?_eq_none (by rw [wipe_length, wipe_length]; omega), List.getElem?_eq_none (by rw [wipe_length]; omega)]
  · rw [wipe_out hj]
theorem wipe_oth {σ σ' : L2.St} {vs : List Nat} (o : Oth vs σ σ') : L2.wipe σ' vs = L2.wipe σ vs := by
  apply List.ext_getElem?
  intro j
  by_cases hj : j ∈ vs
  · by_cases hl : j < σ.length
    · rw [wipe_in hj (by rw [o.1]; exact hl), wipe_in hj hl]
    · rw [List.getElem?_eq_none (by rw [wipe_length, o.1]; omega), List.getElem?_eq_none (by rw [wipe_length]; omega)]
  · rw [wipe_out hj, wipe_out hj]
    exact o.2 j hj
section
variable {K : PySem.W.Frag} {c : Cf} {bs : Bx} {m : List Addr} {S : St} {σ : L2.St} {H H' : Hp} {ρ : Ro}
theorem FAt.unset (F : FAt K c bs m S σ H ρ) (i : Nat) : FAt K c bs m S (σ.set i none) H (ρ.set i none) := by
  refine ⟨F.cs, F.bn, by rw [List.length_set, List.length_set]; exact F.len, fun j u h => ?_⟩
  by_cases q : j = i
  · subst q
    have hl : j < ρ.length := by
      have := (List.getElem?_eq_some_iff.mp h).1
      rwa [List.length_set] at this
    rw [List.getElem?_set_self hl] at h
    cases h
  · rw [List.getElem?_set_ne (fun z => q z.symm)] at h ⊢
    exact F.sl j u h
theorem FAt.wipe (F : FAt K c bs m S σ H ρ) : ∀ vs : List Nat, FAt K c bs m S (L2.wipe σ vs) H (wipeS vs ρ)
  | [] => F
  | v :: vs => (FAt.wipe F vs).unset v
/-- an object is hidden -/
def Bx.hide (bs : Bx) (D : Addr) : Bx := ⟨bs.b, D :: bs.h⟩
theorem lk_hide {D : Addr} (hD : H D = none) (s : Same H H') : Lk (mset bs m) H (mset (bs.hide D) m) H' := ⟨fun _ _ h => h, fun b o nb e => ⟨s _ _ e, fun z => by
  rcases z with z | z
  · exact nb (.inl z)
  · rcases List.mem_cons.mp z with z | z
    · rw [z, hD] at e
      cases e
    · exact nb (.inr z)⟩, fun b xs e => s _ _ e, fun b o u e => s _ _ e⟩
theorem Cs.hide {D : Addr} (cs : Cs K bs m S H) (hD : H D = none) (s : Same H H') {o : HO} (hd : H' D = some o) : Cs K (bs.hide D) m S H' := by
  have nD : D ∉ m := fun z => by
    obtain ⟨o, e⟩ := cs.dom D z
    rw [hD] at e
    cases e
  refine ⟨cs.len, cs.nd, cs.bl, fun a ha => ?_, fun n t a hn ha => (cs.cell n t a hn ha).lk (lk_hide hD s) fun o e => s _ _ e, cs.old⟩
  rcases List.mem_cons.mp ha with rfl | ha
  · exact ⟨nD, o, hd⟩
  · obtain ⟨h1, o, h2⟩ := cs.hid a ha
    exact ⟨h1, o, s _ _ h2⟩
theorem lk_show {D : Addr} : Lk (mset (bs.hide D) m) H (mset bs m) H := ⟨fun _ _ h => h, fun b o nb e => ⟨e, fun z => nb (z.imp id (List.mem_cons_of_mem _))⟩, fun _ _ e => e, fun _ _ _ e => e⟩
theorem Cs.show {D : Addr} (cs : Cs K (bs.hide D) m S H) : Cs K bs m S H := ⟨cs.len, cs.nd, cs.bl, fun a ha => cs.hid a (List.mem_cons_of_mem _ ha), fun n t a hn ha => (cs.cell n t a hn ha).lk lk_show fun o e => e, cs.old⟩
theorem lk_wr {D : Addr} {o o' : HO} (hd : H D = some o) (nt : ∀ xs, o ≠ .tup xs) (nf : ∀ a b, o ≠ .frz a b) : Lk (mset (bs.hide D) m) H (mset (bs.hide D) m) (upd H D o') := ⟨fun _ _ h => h, fun b q nb e => ⟨by rw [upd_ne (fun z => nb (.inr (by rw [z]; exact List.mem_cons_self ..)))]; exact e, nb⟩, fun b xs e => by
    rw [upd_ne (fun z => by rw [z, hd] at e; exact nt _ (Option.some.inj e))]
    exact e, fun b x y e => by
    rw [upd_ne (fun z => by rw [z, hd] at e; exact nf _ _ (Option.some.inj e))]
    exact e⟩
theorem Cs.wr {D : Addr} {o o' : HO} (cs : Cs K (bs.hide D) m S H) (hd : H D = some o) (nt : ∀ xs, o ≠ .tup xs) (nf : ∀ a b, o ≠ .frz a b) : Cs K (bs.hide D) m S (upd H D o') := by
  refine ⟨cs.len, cs.nd, cs.bl, fun a ha => ⟨(cs.hid a ha).1, ?_⟩, fun n t a hn ha => (cs.cell n t a hn ha).lk (lk_wr hd nt nf) fun o2 e => ?_, cs.old⟩
  · by_cases q : a = D
    · exact ⟨o', by rw [q]; exact upd_same⟩
    · obtain ⟨o2, e⟩ := (cs.hid a ha).2
      exact ⟨o2, by rw [upd_ne q]; exact e⟩
  · rw [upd_ne]
    · exact e
    · intro z
      exact (cs.hid D (List.mem_cons_self ..)).1 (by rw [← z]; exact List.mem_of_getElem? ha)
/-- a hidden object is written: what lies between -/
theorem kp_wr {fl : Nat} {m1 : List Addr} {H1 : Hp} {D : Addr} {o o' : HO} (k : Kp fl m1 H1 m H) (h1 : H1 D = none) (hd : H D = some o) (nt : ∀ xs, o ≠ .tup xs) (nf : ∀ a b, o ≠ .frz a b) : Kp fl m1 H1 m (upd H D o') := by
  have ne : ∀ {b q}, H1 b = some q → b ≠ D := fun e z => by
    rw [z, h1] at e
    cases e
  refine ⟨k.pre, fun b q nb e => ?_, fun b xs e => ?_, fun b x y e => ?_, fun b q e => ?_⟩
  · rw [upd_ne (ne e)]
    exact k.all b q nb e
  · rw [upd_ne (ne e)]
    exact k.tup b xs e
  · rw [upd_ne (ne e)]
    exact k.frz b x y e
  · rw [upd_ne (ne e)]
    exact k.dom b q e
end
section
variable {X : Cx} {K : PySem.W.Frag} {W : WX} {fi : Ev Src} {g : Tg} {tt : Ev Bool} {te : Ev T} {vs : List Nat}
/-- one turn of a comprehension -/
theorem lcn_turn {cf : Cf} {bs : Bx} {m1 m' : List Addr} {S' : St} {σ : L2.St} {H1 H3 : Hp} {ρw : Ro} {D : Addr} {xs : List V} {acc : List T} {x : V} {t : T} {rest : List T → St → Rs (List T)} {accE : List T} {SE : St} {Nx : Hp → Prop}
    (F3 : FAt K cf (bs.hide D) m' S' (L2.wipe σ vs) H3 ρw) (k3 : Kp cf.fl m1 H1 m' H3) (hD : H1 D = none) (hx3 : H3 D = some (.lst xs)) (rs3 : Reps K (mset (bs.hide D) m') H3 xs acc) (r3 : Rep K (mset (bs.hide D) m') H3 x t)
    (e : (match g t cf ρw S' with | some (ρ1, S1) => (match tt cf ρ1 S1 with | .ok true S2 => (match te cf ρ1 S2 with | .ok y S3 => if acc.length < 1000000 then rest (acc ++ [y]) S3 else .st | _ => .st) | .ok false S2 => rest acc S2 | _ => .st) | none => .st) = .ok accE SE)
    (hN : ∀ m2 S2 H2 xs2 acc2, Lk (mset (bs.hide D) m') H3 (mset (bs.hide D) m2) H2 → FAt K cf (bs.hide D) m2 S2 (L2.wipe σ vs) H2 ρw → Kp cf.fl m1 H1 m2 H2 → H2 D = some (.lst xs2) → Reps K (mset (bs.hide D) m2) H2 xs2 acc2 → rest acc2 S2 = .ok accE SE → Nx H2) :
    tXG K vs g x (L2.wipe σ vs) H3 fun σ2 H2 => L2.wipe σ2 vs = L2.wipe σ vs ∧ tXT K W tt σ2 H2 fun b H3 => if b = true then tX K W te σ2 H3 fun y H4 => ∃ acc, H4 D = some (.lst acc) ∧ acc.length < sizeLine ∧ Nx (upd H4 D (.lst (acc ++ [y]))) else Nx H3 := by
  have nD : ∀ {m2 S2 H2}, Cs K (bs.hide D) m2 S2 H2 → D ∉ m2 := fun cs => (cs.hid D (List.mem_cons_self ..)).1
  cases e4 : g t cf ρw S' with
  | none => rw [e4] at e; cases e
  | some q =>
    obtain ⟨ρ4, S4⟩ := q
    rw [e4] at e
    dsimp only at e
    refine ⟨cf, bs.hide D, m', S', ρw, t, F3, r3, ρ4, S4, e4, fun σ4 H4 F4 k4 o4 => ⟨by rw [wipe_oth o4]; exact wipe_wipe σ vs, cf, bs.hide D, m', S4, ρ4, F4, ?_⟩⟩
    have hx4 : H4 D = some (.lst xs) := k4.all _ _ (fun z => nD F3.cs (List.mem_of_mem_drop z)) hx3
    have rs4 := rs3.lk k4.lk
    have k14 := k3.trans k4
    cases e5 : tt cf ρ4 S4 with
    | ex y S5 => rw [e5] at e; cases e
    | st => rw [e5] at e; cases e
    | ok b S5 =>
      rw [e5] at e
      intro v m5 H5 cs5 k5 R5
      cases R5
      have F5 := F4.kp cs5 k5
      have hx5 : H5 D = some (.lst xs) := k5.all _ _ (fun z => nD F4.cs (List.mem_of_mem_drop z)) hx4
      have rs5 := rs4.lk k5.lk
      have k15 := k14.trans k5
      have FW : ∀ {m2 S2 H2}, Cs K (bs.hide D) m2 S2 H2 → Kp cf.fl m' H3 m2 H2 → FAt K cf (bs.hide D) m2 S2 (L2.wipe σ vs) H2 ρw := fun cs k => F3.kp cs k
      cases b with
      | true =>
        dsimp only at e
        refine iteT ⟨cf, bs.hide D, m5, S5, ρ4, F5, ?_⟩
        cases e6 : te cf ρ4 S5 with
        | ex y S6 => rw [e6] at e; cases e
        | st => rw [e6] at e; cases e
        | ok y S6 =>
          rw [e6] at e
          dsimp only at e
          intro w m6 H6 cs6 k6 R6
          split at e
          · rename_i hlen
            have hx6 : H6 D = some (.lst xs) := k6.all _ _ (fun z => nD F5.cs (List.mem_of_mem_drop z)) hx5
            have rs6 := rs5.lk k6.lk
            have k16 := k15.trans k6
            have nt : ∀ ys, HO.lst xs ≠ .tup ys := fun _ z => by cases z
            have nf : ∀ a b, HO.lst xs ≠ .frz a b := fun _ _ z => by cases z
            have cs7 := cs6.wr (o' := .lst (xs ++ [w])) hx6 nt nf
            have L7 := lk_wr (bs := bs) (m := m6) (o' := .lst (xs ++ [w])) hx6 nt nf
            have F7 : FAt K cf (bs.hide D) m6 S6 (L2.wipe σ vs) (upd H6 D (.lst (xs ++ [w]))) ρw := by
              have F6 := FW cs6 ((k4.trans k5).trans k6)
              exact ⟨cs7, F6.bn, F6.len, fun i u h => by
                obtain ⟨v, ev, r⟩ := F6.sl i u h
                exact ⟨v, ev, r.lk L7⟩⟩
            refine ⟨xs, hx6, Nat.lt_of_lt_of_le (by rw [rs6.length]; exact hlen) (big_le (Nat.le_refl _)), hN m6 S6 _ (xs ++ [w]) (acc ++ [y]) ((((k4.trans k5).trans k6).lk).trans L7) F7 (kp_wr k16 hD hx6 nt nf) upd_same ?_ e⟩
            exact (rs6.append (.cons R6 .nil)).lk L7
          · cases e
      | false => exact iteF (hN m5 S5 H5 xs acc (k4.trans k5).lk (FW cs5 (k4.trans k5)) k15 hx5 rs5 e)
/-- all turns -/
theorem lc_all {cf : Cf} {bs : Bx} {m1 m0 : List Addr} {S0 : St} {σ : L2.St} {H1 H0 HI : Hp} {A0 : ASet} {ρw : Ro} {D : Addr} {xs0 : List V} {acc0 accE : List T} {SE : St} {J : It} {src : Src} {Q : Hp → Prop} (hD : H1 D = none)
    (R : ∀ m2 S2 H2, Lk A0 HI (mset (bs.hide D) m2) H2 → Cs K (bs.hide D) m2 S2 H2 → ∀ i, (∀ t, srcAt src S2 i = some (some t) → J.go i H2 ∧ ∀ x H3, J.yld i H2 x H3 → Same H2 H3 ∧ Rep K (mset (bs.hide D) m2) H3 x t) ∧ (srcAt src S2 i = some none → J.stop i H2))
    (F0 : FAt K cf (bs.hide D) m0 S0 (L2.wipe σ vs) H0 ρw) (k0 : Kp cf.fl m1 H1 m0 H0) (L0 : Lk A0 HI (mset (bs.hide D) m0) H0) (hx0 : H0 D = some (.lst xs0)) (rs0 : Reps K (mset (bs.hide D) m0) H0 xs0 acc0) (e : lcS g tt te src acc0 cf ρw S0 = .ok accE SE)
    (hQ : ∀ m2 H2 xs2, FAt K cf (bs.hide D) m2 SE (L2.wipe σ vs) H2 ρw → Kp cf.fl m1 H1 m2 H2 → Lk A0 HI (mset (bs.hide D) m2) H2 → H2 D = some (.lst xs2) → Reps K (mset (bs.hide D) m2) H2 xs2 accE → Q H2) :
    ∃ W' : Nat → Nat → Hp → Prop, (∃ k, W' 0 k H0) ∧ ∀ i k H, W' i k H → (J.stop i H ∧ Q H) ∨ (J.go i H ∧ ∃ Nx : Hp → Prop, (∀ H', Nx H' → ∃ k', k' < k ∧ W' (i + 1) k' H') ∧ ∀ x H', J.yld i H x H' → tXG K vs g x (L2.wipe σ vs) H' fun σ2 H2 => L2.wipe σ2 vs = L2.wipe σ vs ∧ tXT K W tt σ2 H2 fun b H3 => if b = true then tX K W te σ2 H3 fun y H4 => ∃ acc, H4 D = some (.lst acc) ∧ acc.length < sizeLine ∧ Nx (upd H4 D (.lst (acc ++ [y]))) else Nx H3) := by
  cases src with
  | fix l =>
    refine ⟨fun i k H' => k = l.length - i ∧ i ≤ l.length ∧ ∃ m' S' xs acc, FAt K cf (bs.hide D) m' S' (L2.wipe σ vs) H' ρw ∧ Kp cf.fl m1 H1 m' H' ∧ Lk A0 HI (mset (bs.hide D) m') H' ∧ H' D = some (.lst xs) ∧ Reps K (mset (bs.hide D) m') H' xs acc ∧ lcL g tt te (l.drop i) acc cf ρw S' = .ok accE SE,
      ⟨_, rfl, Nat.zero_le _, m0, S0, xs0, acc0, F0, k0, L0, hx0, rs0, e⟩, ?_⟩
    rintro i k H' ⟨rfl, hi, m', S', xs, acc, F', k', L', hx', rs', e'⟩
    obtain ⟨w1, w2⟩ := R m' S' H' L' F'.cs i
    by_cases hlt : i < l.length
    · have ei : l[i]? = some l[i] := List.getElem?_eq_getElem hlt
      obtain ⟨hgo, hy⟩ := w1 _ (congrArg some ei)
      rw [List.drop_eq_getElem_cons hlt] at e'
      refine .inr ⟨hgo, fun H2 => ∃ m' S' xs acc, FAt K cf (bs.hide D) m' S' (L2.wipe σ vs) H2 ρw ∧ Kp cf.fl m1 H1 m' H2 ∧ Lk A0 HI (mset (bs.hide D) m') H2 ∧ H2 D = some (.lst xs) ∧ Reps K (mset (bs.hide D) m') H2 xs acc ∧ lcL g tt te (l.drop (i + 1)) acc cf ρw S' = .ok accE SE, fun H2 q => ⟨_, by omega, rfl, hlt, q⟩, fun x H3 yl => ?_⟩
      obtain ⟨s3, r3⟩ := hy x H3 yl
      unfold lcL at e'
      exact lcn_turn (rest := fun a S => lcL g tt te (l.drop (i + 1)) a cf ρw S) (F'.same s3) (k'.trans (Kp.of_same s3)) hD (s3 _ _ hx') (rs'.same s3) r3 e' fun m2 S2 H2 xs2 acc2 L2 F2 k2 hx2 rs2 e2 => ⟨m2, S2, xs2, acc2, F2, k2, (L'.trans (Lk.of_same s3)).trans L2, hx2, rs2, e2⟩
    · have hi' : i = l.length := by omega
      subst hi'
      rw [List.drop_length] at e'
      unfold lcL at e'
      cases e'
      exact .inl ⟨w2 (congrArg some (List.getElem?_eq_none (Nat.le_refl _))), hQ m' H' xs F' k' L' hx' rs'⟩
  | cell n =>
    refine ⟨fun i k H' => ∃ m' S' xs acc, FAt K cf (bs.hide D) m' S' (L2.wipe σ vs) H' ρw ∧ Kp cf.fl m1 H1 m' H' ∧ Lk A0 HI (mset (bs.hide D) m') H' ∧ H' D = some (.lst xs) ∧ Reps K (mset (bs.hide D) m') H' xs acc ∧ lcC g tt te n k i acc cf ρw S' = .ok accE SE,
      ⟨_, m0, S0, xs0, acc0, F0, k0, L0, hx0, rs0, e⟩, ?_⟩
    rintro i k H' ⟨m', S', xs, acc, F', k', L', hx', rs', e'⟩
    obtain ⟨w1, w2⟩ := R m' S' H' L' F'.cs i
    cases k with
    | zero => cases e'
    | succ k =>
      unfold lcC at e'
      have w1 : ∀ t, (match S'[n]? with | some (.lst l) => some l[i]? | _ => none) = some (some t) → _ := w1
      have w2 : (match S'[n]? with | some (.lst l) => some l[i]? | _ => none) = some none → _ := w2
      cases es : S'[n]? with
      | none => rw [es] at e'; cases e'
      | some cc =>
        rw [es] at e' w1 w2
        cases cc with
        | lst l =>
          dsimp only at e' w1 w2
          cases el : l[i]? with
          | none =>
            have stp := w2 (congrArg some el)
            rw [el] at e'
            cases e'
            exact .inl ⟨stp, hQ m' H' xs F' k' L' hx' rs'⟩
          | some t =>
            rw [el] at e'
            dsimp only at e'
            obtain ⟨hgo, hy⟩ := w1 _ (congrArg some el)
            refine .inr ⟨hgo, fun H2 => ∃ m' S' xs acc, FAt K cf (bs.hide D) m' S' (L2.wipe σ vs) H2 ρw ∧ Kp cf.fl m1 H1 m' H2 ∧ Lk A0 HI (mset (bs.hide D) m') H2 ∧ H2 D = some (.lst xs) ∧ Reps K (mset (bs.hide D) m') H2 xs acc ∧ lcC g tt te n k (i + 1) acc cf ρw S' = .ok accE SE, fun H2 q => ⟨k, by omega, q⟩, fun x H3 yl => ?_⟩
            obtain ⟨s3, r3⟩ := hy x H3 yl
            exact lcn_turn (rest := fun a S => lcC g tt te n k (i + 1) a cf ρw S) (F'.same s3) (k'.trans (Kp.of_same s3)) hD (s3 _ _ hx') (rs'.same s3) r3 e' fun m2 S2 H2 xs2 acc2 L2 F2 k2 hx2 rs2 e2 => ⟨m2, S2, xs2, acc2, F2, k2, (L'.trans (Lk.of_same s3)).trans L2, hx2, rs2, e2⟩
        | _ => cases e'
  | en n => cases e
theorem hide_at {cf : Cf} {bs : Bx} {m : List Addr} {S : St} {σ : L2.St} {H : Hp} {ρ : Ro} {D : Addr} {o : HO} (F : FAt K cf bs m S σ H ρ) (hD : H D = none) : FAt K cf (bs.hide D) m S σ (upd H D o) ρ := by
  have s := same_new (o := o) hD
  exact ⟨F.cs.hide hD s upd_same, F.bn, F.len, fun i t h => by
    obtain ⟨v, e, r⟩ := F.sl i t h
    exact ⟨v, e, r.lk (lk_hide hD s)⟩⟩
theorem lc_read {σ : L2.St} {H : Hp} {Q : VK} (h : tX K W (mLc vs fi g tt te) σ H Q) : tLc (tXI K W fi) (tXG K vs g) (tXT K W tt) (tX K W te) vs σ H Q := by
  obtain ⟨cf, bs, m, S, ρ, F, h⟩ := h
  refine ⟨cf, bs, m, S, ρ, F, RsOk.bind F h fun src J m1 H1 S1 F1 k1 R1 h1 => ?_⟩
  intro D hD
  cases el : lcS g tt te src [] cf (wipeS vs ρ) S1 with
  | ex y S' => rw [el] at h1; exact h1.elim
  | st => rw [el] at h1; exact h1.elim
  | ok accE SE =>
    rw [el] at h1
    have sD : Same H1 (upd H1 D (.lst [])) := same_new hD
    exact lc_all (bs := bs) (A0 := mset bs m1) (HI := H1) hD (fun m2 S2 H2 L cs i => R1 (bs.hide D) m2 S2 H2 L cs i) ((hide_at F1 hD).wipe vs) (Kp.of_same sD) (lk_hide hD sD) upd_same .nil el fun m2 H2 xs2 F2 k2 L2 hx2 rs2 =>
      h1 _ m2 H2 F2.cs.show k2 (.lst (fun z => z.elim (F2.cs.hid D (List.mem_cons_self ..)).1 fun z => by
        obtain ⟨o, e⟩ := (F1.cs.hid D z).2
        rw [hD] at e
        cases e) hx2 (rs2.lk lk_show))
theorem PTs.imp {ifs : List Expr} {t t' : TT} (h : PTs X ifs t) (i : ∀ σ H Q, t' σ H Q → t σ H Q) : PTs X ifs t' := ⟨fun pins s σ H Q I hw => h.run pins s σ H Q I (i _ _ _ hw)⟩
theorem ts_nil : PTs X [] (tXT K W mYes) := PTs.imp pts_nil fun σ H Q h => by
  obtain ⟨cf, bs, m, S, ρ, F, h⟩ := h
  exact h true m H F.cs Kp.refl rfl
theorem ts_one {c : Expr} (h : PT X c (tXT K W tt)) : PTs X [c] (tXT K W tt) := pts_one h
theorem m_lc {elt tg iter : Expr} {ifs : List Expr} {scope : Scope} {own : List (Str × Nat)} {pos : Pos} (hc : X.calm = true) (hN : X.N.Nodup) (hi : PI X tg iter (tXI K W fi)) (ok : BlkOk X.N X.env.scope scope own)
    (hg : ∀ (s : Shared) (H : Hp) (C : Addr) (cl : List (Str × Addr)) (fp : List Addr), PG (X.blk s H scope (compEnvC scope cl C X.env) fp) tg (tXG K (own.map (·.2)) g)) (ht : ∀ (s : Shared) (H : Hp) (C : Addr) (cl : List (Str × Addr)) (fp : List Addr), PTs (X.blk s H scope (compEnvC scope cl C X.env) fp) ifs (tXT K W tt))
    (he : ∀ (s : Shared) (H : Hp) (C : Addr) (cl : List (Str × Addr)) (fp : List Addr), PE (X.blk s H scope (compEnvC scope cl C X.env) fp) elt (tX K W te)) (hs : ∀ x, foldedSetIterable iter X.env x = pure x := by intro _; rfl) :
    PE X (.ListComp elt [⟨tg, iter, ifs, 0⟩] scope pos) (tX K W (mLc (own.map (·.2)) fi g tt te)) :=
  PE.imp (pe_lc hc hN hi ok hg ht he hs) fun σ H Q h => lc_read h
theorem s_setLc (i : Nat) {y : Str} {py : Pos} {elt tg iter : Expr} {ifs : List Expr} {scope : Scope} {own : List (Str × Nat)} {pos spos : Pos} (hc : X.calm = true) (hN : X.N.Nodup)
    (hsw : swapsWith (.ListComp elt [⟨tg, iter, ifs, 0⟩] scope pos) (some (.Name y py)) spos.line X.env = pure true) (hi : PI X tg iter (tXI K W fi)) (ok : BlkOk X.N X.env.scope scope own)
    (hg : ∀ (s : Shared) (H : Hp) (C : Addr) (cl : List (Str × Addr)) (fp : List Addr), PG (X.blk s H scope (compEnvC scope cl C X.env) fp) tg (tXG K (own.map (·.2)) g)) (ht : ∀ (s : Shared) (H : Hp) (C : Addr) (cl : List (Str × Addr)) (fp : List Addr), PTs (X.blk s H scope (compEnvC scope cl C X.env) fp) ifs (tXT K W tt))
    (he : ∀ (s : Shared) (H : Hp) (C : Addr) (cl : List (Str × Addr)) (fp : List Addr), PE (X.blk s H scope (compEnvC scope cl C X.env) fp) elt (tX K W te)) (hy : X.N[i]? = some y := by rfl) (hyl : X.env.scope.names.lookup y = some .local := by rfl) (hs : ∀ x, foldedSetIterable iter X.env x = pure x := by intro _; rfl) :
    PS X (.Assign [.Name y py] (.ListComp elt [⟨tg, iter, ifs, 0⟩] scope pos) spos) (tXS K W (sAsg (mLc (own.map (·.2)) fi g tt te) (gNm i))) := PS.imp (ps_setLc hc hN hy hyl hsw hi ok hg ht he hs) fun D σ H h => by
  obtain ⟨cf, bs, m, S, ρ, F, h⟩ := h
  refine lc_read ⟨cf, bs, m, S, ρ, F, OuOk.ofE F h fun t v m1 H1 S1 _ F1 k1 R1 h1 => ?_⟩
  unfold gNm at h1
  by_cases q : i < ρ.length
  · rw [if_pos q] at h1
    exact h1 _ m1 H1 (F1.set R1) Kp.refl
  · rw [if_neg q] at h1
    exact h1.elim
end
end Tm

/-! N8: texts, slices, subscripts, isinstance, stars, pairs, numbers. -/
namespace Tm
open PySem PySem.Spec PyProof.Rows L2
section
variable {X : Cx} {K : PySem.W.Frag} {W : WX} {e o : Expr} {fa fb : Ev T} {pos apos p2 : Pos}
/-- a receiver that is a text is asked ahead of the argument -/
def mTxt (f : T → T → Option T) (fa fb : Ev T) : Ev T := fa.bind fun x => match x with
  | .str a => fb.bind fun y _ _ S => orV (f (.str a) y) (f (.str a) (vw S y)) S
  | _ => fun _ _ _ => .st
/-- the parts of an f-string -/
inductive MJ (X : Cx) (K : PySem.W.Frag) (W : WX) : List Expr → List (Ev T) → Prop where
  | nil : MJ X K W [] []
  | cons {e : Expr} {f : Ev T} {es : List Expr} {fs : List (Ev T)} (h : PE X e (tX K W f)) (r : MJ X K W es fs) : MJ X K W (e :: es) (f :: fs)
theorem MJ.pj : ∀ {es : List Expr} {fs : List (Ev T)}, MJ X K W es fs → PJ X es (fs.map (tX K W))
  | _, _, .nil => .nil
  | _, _, .cons h r => .cons h (MJ.pj r)

def mJs : List (Ev T) → Str → Ev T
  | [], acc => fun _ _ S => .ok (.str acc) S
  | f :: fs, acc => f.bind fun x => match x with
    | .str y => if (acc ++ y).length ≤ 1000000 then mJs fs (acc ++ y) else fun _ _ _ => .st
    | _ => fun _ _ _ => .st
/-! ### slices -/
def mPart (fa : Ev T) : Ev (Option Int) := fa.bind fun x => match x with
  | .int i => fun _ _ S => .ok (some i) S
  | _ => fun _ _ _ => .st
def mNoPart : Ev (Option Int) := fun _ _ S => .ok none S
def tXO (K : PySem.W.Frag) (W : WX) (f : Ev (Option Int)) : TO := fun σ H Q => ∃ c bs m S ρ, FAt K c bs m S σ H ρ ∧ RsOk K W bs c.fl m σ H RpE Q (f c ρ S)
theorem PO.imp {e : Option Expr} {t t' : TO} (h : PO X e t) (i : ∀ σ H Q, t' σ H Q → t σ H Q) : PO X e t' := ⟨fun pins s σ H Q I hw => h.run pins s σ H Q I (i _ _ _ hw)⟩
theorem o_none : PO X none (tXO K W mNoPart) := PO.imp po_none fun σ H Q h => by
  obtain ⟨cf, bs, m, S, ρ, F, h⟩ := h
  exact h none m H F.cs Kp.refl rfl
theorem o_some (he : PE X e (tX K W fa)) : PO X (some e) (tXO K W (mPart fa)) := PO.imp (po_some he) fun σ H Q h => by
  obtain ⟨cf, bs, m, S, ρ, F, h⟩ := h
  refine ⟨cf, bs, m, S, ρ, F, RsOk.bind F h fun x vx m1 H1 S1 F1 k1 R1 h1 => ?_⟩
  unfold RpT at R1
  cases R1 with
  | int i => exact ⟨i, rfl, h1 _ m1 H1 F1.cs Kp.refl rfl⟩
  | _ => exact h1.elim
def cutT (xs : List T) (lo hi : Option Int) : List T := (xs.drop (HT.sIx xs.length 0 lo)).take (HT.sIx xs.length xs.length hi - HT.sIx xs.length 0 lo)

def oSl (lo hi : Option Int) : T → Option T
  | .lst l => some (.lst (cutT l lo hi))
  | .tup l => some (.tup (cutT l lo hi))
  | .wt [] => some (.wt [])
  | .scr ns => some (.lst (cutT (ns.map T.int) lo hi))
  | .str z => if z.length ≤ 1000000 then some (.str (cutS z lo hi)) else none
  | _ => none
def mSl (fa : Ev T) (fl fu : Ev (Option Int)) : Ev T := fa.bind fun x => fl.bind fun lo => fu.bind fun hi _ _ S => match oSl lo hi (vw S x) with
  | some z => .ok z S
  | none => .st
def rSlB (K : PySem.W.Frag) : V → Option Int → Option Int → Hp → VK → Prop := fun x lo hi H Q => rSlL K x lo hi H Q ∨ (rSlA K x lo hi H Q ∨ rSlS x lo hi H Q)
theorem q_sl (hK : X.K = K := by rfl) : SlR X (rSlB K) := by subst hK; exact SlR.or sl_list (SlR.or sl_tupA sl_str)
theorem cut_rep {A : ASet} {H : Hp} {xs : List V} {l : List T} {lo hi : Option Int} (r : Reps K A H xs l) : Reps K A H (cutV xs lo hi) (cutT l lo hi) := by
  unfold cutV cutT
  rw [r.length]
  exact (r.drop _).take _

/-- a list, in a tree or a cell -/
theorem lst_at {bs : Bx} {m : List Addr} {S : St} {H : Hp} (cs : Cs K bs m S H) {v : V} {t : T} (r : Rep K (mset bs m) H v t) {l : List T} (e : vw S t = .lst l) : ∃ a xs, v = .ref a ∧ H a = some (.lst xs) ∧ Reps K (mset bs m) H xs l := by
  cases r with
  | lst na h r =>
    cases e
    exact ⟨_, _, rfl, h, r⟩
  | ref h =>
    rename_i a n
    have h : m[n]? = some a := h
    have hn : n < S.length := cs.len ▸ (List.getElem?_eq_some_iff.mp h).1
    have es : S[n]? = some S[n] := List.getElem?_eq_getElem hn
    have e : unlk ((S[n]?).getD .non) = .lst l := e
    rw [es] at e
    have e : unlk S[n] = .lst l := e
    have := cs.cell n _ a es h
    generalize S[n] = cc at this e
    cases this with
    | lst h r => cases e; exact ⟨_, _, rfl, h, r⟩
    | _ => cases e
  | _ => cases e
theorem tup_at {bs : Bx} {m : List Addr} {S : St} {H : Hp} (cs : Cs K bs m S H) {v : V} {t : T} (r : Rep K (mset bs m) H v t) {l : List T} (e : vw S t = .tup l) : ∃ a xs, v = .ref a ∧ H a = some (.tup xs) ∧ Reps K (mset bs m) H xs l := by
  cases r with
  | tup h r =>
    cases e
    exact ⟨_, _, rfl, h, r⟩
  | ref h =>
    rename_i a n
    have h : m[n]? = some a := h
    have hn : n < S.length := cs.len ▸ (List.getElem?_eq_some_iff.mp h).1
    have es : S[n]? = some S[n] := List.getElem?_eq_getElem hn
    have e : unlk ((S[n]?).getD .non) = .tup l := e
    rw [es] at e
    have e : unlk S[n] = .tup l := e
    have := cs.cell n _ a es h
    generalize S[n] = cc at this e
    cases this <;> cases e
  | _ => cases e
theorem wt_at {bs : Bx} {m : List Addr} {S : St} {H : Hp} (cs : Cs K bs m S H) {v : V} {t : T} (r : Rep K (mset bs m) H v t) {l : List T} (e : vw S t = .wt l) : ∃ a xs, v = .ref a ∧ (∀ H', SqT K H' a xs) ∧ Reps K (mset bs m) H xs l := by
  cases r with
  | wt h r =>
    cases e
    exact ⟨_, _, rfl, h, r⟩
  | ref h =>
    rename_i a n
    have h : m[n]? = some a := h
    have hn : n < S.length := cs.len ▸ (List.getElem?_eq_some_iff.mp h).1
    have es : S[n]? = some S[n] := List.getElem?_eq_getElem hn
    have e : unlk ((S[n]?).getD .non) = .wt l := e
    rw [es] at e
    have e : unlk S[n] = .wt l := e
    have := cs.cell n _ a es h
    generalize S[n] = cc at this e
    cases this <;> cases e
  | _ => cases e
theorem scr_at {bs : Bx} {m : List Addr} {S : St} {H : Hp} (cs : Cs K bs m S H) {v : V} {t : T} (r : Rep K (mset bs m) H v t) {ns : List Int} (e : vw S t = .scr ns) : ∃ a, v = .ref a ∧ ScrAt K (mset bs m) H a (ns.map V.int) := by
  cases r with
  | scr h =>
    cases e
    exact ⟨_, rfl, h⟩
  | ref h =>
    rename_i a n
    have h : m[n]? = some a := h
    have hn : n < S.length := cs.len ▸ (List.getElem?_eq_some_iff.mp h).1
    have es : S[n]? = some S[n] := List.getElem?_eq_getElem hn
    have e : unlk ((S[n]?).getD .non) = .scr ns := e
    rw [es] at e
    have e : unlk S[n] = .scr ns := e
    have := cs.cell n _ a es h
    generalize S[n] = cc at this e
    cases this <;> cases e
  | _ => cases e
theorem str_at {bs : Bx} {m : List Addr} {S : St} {H : Hp} (cs : Cs K bs m S H) {v : V} {t : T} (r : Rep K (mset bs m) H v t) {z : Str} (e : vw S t = .str z) : v = .str z := by
  cases r with
  | str x =>
    cases e
    rfl
  | ref h =>
    rename_i a n
    have h : m[n]? = some a := h
    have hn : n < S.length := cs.len ▸ (List.getElem?_eq_some_iff.mp h).1
    have es : S[n]? = some S[n] := List.getElem?_eq_getElem hn
    have e : unlk ((S[n]?).getD .non) = .str z := e
    rw [es] at e
    have e : unlk S[n] = .str z := e
    have := cs.cell n _ a es h
    generalize S[n] = cc at this e
    cases this <;> cases e
  | _ => cases e
theorem nA_new {bs : Bx} {m : List Addr} {S : St} {H : Hp} (cs : Cs K bs m S H) {p : Addr} (h : H p = none) : ¬ mset bs m p := cs.domA.new h
theorem m_sl {lo hi : Option Expr} {fl fu : Ev (Option Int)} (he : PE X e (tX K W fa)) (hl : PO X lo (tXO K W fl)) (hu : PO X hi (tXO K W fu)) (hK : X.K = K := by rfl) : PE X (.Subscript e (.Slice lo hi none p2) pos) (tX K W (mSl fa fl fu)) := PE.imp (pe_slice (q_sl hK) he hl hu) fun σ H Q h => by
  obtain ⟨cf, bs, m, S, ρ, F, h⟩ := h
  refine ⟨cf, bs, m, S, ρ, F, RsOk.bind F h fun x vx m1 H1 S1 F1 k1 R1 h1 => ⟨cf, bs, m1, S1, ρ, F1, RsOk.bind F1 h1 fun o1 v1 m2 H2 S2 F2 k2 R2 h2 => ⟨cf, bs, m2, S2, ρ, F2, RsOk.bind F2 h2 fun o2 v2 m3 H3 S3 F3 k3 R3 h3 => ?_⟩⟩⟩
  cases R2
  cases R3
  have R : Rep K (mset bs m3) H3 vx x := Rep.lk k3.lk (Rep.lk k2.lk R1)
  cases e : oSl o1 o2 (vw S3 x) with
  | none => rw [e] at h3; exact h3.elim
  | some z =>
    rw [e] at h3
    unfold oSl at e
    split at e
    · rename_i l ev
      cases e
      obtain ⟨a, xs, rfl, hh, rs⟩ := lst_at F3.cs R ev
      exact .inl ⟨_, _, rfl, .inl (.inl hh), fun p hp => h3 _ m3 _ (F3.cs.same (same_new hp)) (Kp.of_same (same_new hp)) (.lst (nA_new F3.cs hp) upd_same ((cut_rep rs).same (same_new hp)))⟩
    · rename_i l ev
      cases e
      obtain ⟨a, xs, rfl, hh, rs⟩ := tup_at F3.cs R ev
      refine .inr (.inl ⟨_, _, rfl, .inl (.inl hh), fun q => ?_, fun q p hp => h3 _ m3 _ (F3.cs.same (same_new hp)) (Kp.of_same (same_new hp)) (.tup upd_same ((cut_rep rs).same (same_new hp)))⟩)
      have e1 : cutT l o1 o2 = l := by
        unfold cutT
        rw [← rs.length, q.1, q.2]
        simp [rs.length]
      rw [e1] at h3
      exact h3 _ m3 H3 F3.cs Kp.refl (.tup hh rs)
    · rename_i ev
      cases e
      obtain ⟨a, xs, rfl, hh, rs⟩ := wt_at F3.cs R ev
      cases rs
      refine .inr (.inl ⟨_, _, rfl, hh _, fun q => h3 _ m3 H3 F3.cs Kp.refl (.wt hh .nil), fun q => absurd ?_ q⟩)
      cases o1 <;> cases o2 <;> simp [HT.sIx] <;> omega
    · rename_i ns ev
      cases e
      obtain ⟨a, rfl, hh⟩ := scr_at F3.cs R ev
      exact .inl ⟨_, _, rfl, hh.sq, fun p hp => h3 _ m3 _ (F3.cs.same (same_new hp)) (Kp.of_same (same_new hp)) (.lst (nA_new F3.cs hp) upd_same ((cut_rep (Reps.ints ns)).same (same_new hp)))⟩
    · rename_i z' ev
      split at e
      · rename_i hz
        cases e
        obtain rfl := str_at F3.cs R ev
        exact .inr (.inr ⟨_, rfl, big_le hz, h3 _ m3 H3 F3.cs Kp.refl (.str _)⟩)
      · cases e
    · cases e
/-! ### subscripts -/
def mIx (fa fb : Ev T) : Ev T := fa.bind fun x => fb.bind fun y _ _ S => match oIx (vw S x) y with
  | some z => .ok z S
  | none => .st
theorem m_ix {b : Expr} (ha : PE X e (tX K W fa)) (hb : PE X b (tX K W fb)) (hs : PlainIx b) (hK : X.K = K := by rfl) : PE X (.Subscript e b pos) (tX K W (mIx fa fb)) := PE.imp (pe_ix (k_ix K hK) ha hb hs) fun σ H Q h => by
  obtain ⟨cf, bs, m, S, ρ, F, h⟩ := h
  refine ⟨cf, bs, m, S, ρ, F, RsOk.bind F h fun x vx m1 H1 S1 F1 k1 R1 h1 => ⟨cf, bs, m1, S1, ρ, F1, RsOk.bind F1 h1 fun y vy m2 H2 S2 F2 k2 R2 h2 => ?_⟩⟩
  have R : Rep K (mset bs m2) H2 vx x := Rep.lk k2.lk R1
  unfold RpT at R2
  cases e : oIx (vw S2 x) y with
  | none => rw [e] at h2; exact h2.elim
  | some z =>
    rw [e] at h2
    unfold oIx at e
    split at e
    · rename_i z' i ev
      split at e
      · rename_i hl
        obtain ⟨c, hc, rfl⟩ := Option.map_eq_some_iff.mp e
        obtain rfl := str_at F2.cs R ev
        cases R2
        exact .inr (.inr ⟨_, _, c, rfl, rfl, big_le hl, hc, h2 _ m2 H2 F2.cs Kp.refl (.str _)⟩)
      · cases e
    · rename_i l i ev
      obtain ⟨a, xs, rfl, hh, rs⟩ := lst_at F2.cs R ev
      cases R2
      obtain ⟨v, hv, rv⟩ := rs.atI e
      exact .inl ⟨_, _, _, v, rfl, rfl, .inl (.inl hh), hv, h2 _ m2 H2 F2.cs Kp.refl rv⟩
    · rename_i l i ev
      obtain ⟨a, xs, rfl, hh, rs⟩ := tup_at F2.cs R ev
      cases R2
      obtain ⟨v, hv, rv⟩ := rs.atI e
      exact .inr (.inl ⟨_, _, _, v, rfl, rfl, .inl (.inl hh), hv, h2 _ m2 H2 F2.cs Kp.refl rv⟩)
    · rename_i l i ev
      obtain ⟨a, xs, rfl, hh, rs⟩ := wt_at F2.cs R ev
      cases R2
      obtain ⟨v, hv, rv⟩ := rs.atI e
      exact .inr (.inl ⟨_, _, _, v, rfl, rfl, hh _, hv, h2 _ m2 H2 F2.cs Kp.refl rv⟩)
    · rename_i ns i ev
      obtain ⟨a, rfl, hh⟩ := scr_at F2.cs R ev
      cases R2
      obtain ⟨v, hv, rv⟩ := (Reps.ints ns : Reps K (mset bs m2) H2 _ _).atI e
      exact .inl ⟨_, _, _, v, rfl, rfl, hh.sq, hv, h2 _ m2 H2 F2.cs Kp.refl rv⟩
    · cases e
/-! ### list(x), tuple(x) -/
def mListOf (fa : Ev T) : Ev T := fa.bind fun x _ _ S => match seqT (vw S x) with
  | some l => .ok (.lst l) S
  | none => .st
/-- .. as a cell -/
def mListC (fa : Ev T) : Ev T := fa.bind fun x _ _ S => match seqT (vw S x) with
  | some l => .ok (.ref S.length) (S ++ [.lst l])
  | none => .st
def mTupOf (fa : Ev T) : Ev T := fa.bind fun x _ _ S => match vw S x with
  | .lst l => .ok (.tup l) S
  | .tup l => .ok (.tup l) S
  | .wt l => .ok (.wt l) S
  | _ => .st
theorem seq_at {bs : Bx} {m : List Addr} {S : St} {H : Hp} (cs : Cs K bs m S H) {v : V} {t : T} (r : Rep K (mset bs m) H v t) {l : List T} (e : seqT (vw S t) = some l) : ∃ a xs, v = .ref a ∧ (SqL K H a xs ∨ SqT K H a xs) ∧ Reps K (mset bs m) H xs l := by
  unfold seqT at e
  split at e
  · rename_i l' ev
    cases e
    obtain ⟨a, xs, rfl, hh, rs⟩ := lst_at cs r ev
    exact ⟨a, xs, rfl, .inl (.inl (.inl hh)), rs⟩
  · rename_i l' ev
    cases e
    obtain ⟨a, xs, rfl, hh, rs⟩ := tup_at cs r ev
    exact ⟨a, xs, rfl, .inr (.inl (.inl hh)), rs⟩
  · rename_i l' ev
    cases e
    obtain ⟨a, xs, rfl, hh, rs⟩ := wt_at cs r ev
    exact ⟨a, xs, rfl, .inr (hh _), rs⟩
  · rename_i ns ev
    cases e
    obtain ⟨a, rfl, hh⟩ := scr_at cs r ev
    exact ⟨a, _, rfl, .inl hh.sq, Reps.ints ns⟩
  · cases e
variable {x : Str} {np : Pos}
theorem m_listC (hm : X.mg "list" = none) (he : PE X e (tX K W fa)) (hg : Gl X "list" := by rfl) (hs : starEach [e] X.env = (false, eval e X.env) :: starEach [] X.env := by rfl) (hpl : (backTo pos (starEach [] X.env)).any (·.1) = false := by rfl) (hK : X.K = K := by rfl) :
    PE X (.Call (.Name "list" np) [e] [] pos) (tX K W (mListC fa)) := PE.imp (pe_callTy (k_list K hK) hg hm bt_list (pa_cons he pa_nil hs) (by decide) (by decide) hs hpl) fun σ H Q h => by
  obtain ⟨cf, bs, m, S, ρ, F, h⟩ := h
  refine ⟨cf, bs, m, S, ρ, F, RsOk.bind F h fun x vx m1 H1 S1 F1 k1 R1 h1 => ?_⟩
  cases e : seqT (vw S1 x) with
  | none => rw [e] at h1; exact h1.elim
  | some l =>
    rw [e] at h1
    obtain ⟨a, xs, rfl, hh, rs⟩ := seq_at F1.cs R1 e
    exact ⟨_, _, rfl, hh, fun p hp => new_ok F1 hp (same_new hp) (.lst upd_same (reps_new (bs := bs) (S := S1) hp (same_new hp) rs)) h1⟩
theorem m_tuple (hm : X.mg "tuple" = none) (he : PE X e (tX K W fa)) (hg : Gl X "tuple" := by rfl) (hs : starEach [e] X.env = (false, eval e X.env) :: starEach [] X.env := by rfl) (hpl : (backTo pos (starEach [] X.env)).any (·.1) = false := by rfl) (hK : X.K = K := by rfl) :
    PE X (.Call (.Name "tuple" np) [e] [] pos) (tX K W (mTupOf fa)) := PE.imp (pe_callTy (k_tuple K hK) hg hm bt_tuple (pa_cons he pa_nil hs) (by decide) (by decide) hs hpl) fun σ H Q h => by
  obtain ⟨cf, bs, m, S, ρ, F, h⟩ := h
  refine ⟨cf, bs, m, S, ρ, F, RsOk.bind F h fun x vx m1 H1 S1 F1 k1 R1 h1 => ?_⟩
  cases ev : vw S1 x with
  | lst l =>
    rw [ev] at h1
    obtain ⟨a, xs, rfl, hh, rs⟩ := lst_at F1.cs R1 ev
    exact ⟨_, _, rfl, .inl ⟨.inl (.inl hh), fun p hp => h1 _ m1 _ (F1.cs.same (same_new hp)) (Kp.of_same (same_new hp)) (.tup upd_same (rs.same (same_new hp)))⟩⟩
  | tup l =>
    rw [ev] at h1
    obtain ⟨a, xs, rfl, hh, rs⟩ := tup_at F1.cs R1 ev
    exact ⟨_, _, rfl, .inr ⟨.inl (.inl hh), h1 _ m1 H1 F1.cs Kp.refl (.tup hh rs)⟩⟩
  | wt l =>
    rw [ev] at h1
    obtain ⟨a, xs, rfl, hh, rs⟩ := wt_at F1.cs R1 ev
    exact ⟨_, _, rfl, .inr ⟨hh _, h1 _ m1 H1 F1.cs Kp.refl (.wt hh rs)⟩⟩
  | _ => rw [ev] at h1; exact h1.elim
/-! ### isinstance -/
/-- what is known of the classes of the top -/
structure ClsOk (K : PySem.W.Frag) (C : Str) : Prop where
  own : OwnC K (He.ga K C)
  cl : Cls K (He.ga K C)
def tyT : T → Option (Sum String Str)
  | .non => some (.inl "NoneType")
  | .bl _ => some (.inl "bool")
  | .int _ => some (.inl "int")
  | .str _ => some (.inl "str")
  | .lst _ => some (.inl "list")
  | .tup _ => some (.inl "tuple")
  | .wt _ => some (.inl "tuple")
  | .obj C _ _ => some (.inr C)
  | _ => none
theorem Rep.typ {A : ASet} {H : Hp} {v : V} {t : T} (r : Rep K A H v t) (hC : ∀ C ns l, t = .obj C ns l → ClsOk K C) {k : Sum String Str} (e : tyT t = some k) : Typ K H v (match k with | .inl n => .type n | .inr C => .ref (He.ga K C)) := by
  cases r <;> cases e
  · exact typ_non
  · exact typ_bl _
  · exact typ_int _
  · exact typ_str _
  · rename_i h r
    exact typ_sqT (.inl (.inl h))
  · rename_i h r
    exact typ_sqT (h _)
  · rename_i h r
    exact typ_lst h
  · rename_i h r
    obtain ⟨o, c⟩ := hC _ _ _ rfl
    exact typ_ins o c h
/-- isinstance(x, n) of a builtin type -/
def fIsB (Cs : List Str) (n : String) (t : T) : Option T := match tyT t with
  | some (.inl m) => some (.bl (kb (.type m) n))
  | some (.inr C) => if C ∈ Cs then some (.bl false) else none
  | none => none
def fIsBs (Cs : List Str) (ns : List String) (t : T) : Option T := match tyT t with
  | some (.inl m) => some (.bl (ns.any fun n => kb (.type m) n))
  | some (.inr C) => if C ∈ Cs then some (.bl false) else none
  | none => none

theorem m_isB {x : Str} {np np2 : Pos} {Cs : List Str} {n : String} (hC : ∀ C ∈ Cs, ClsOk K C) (hn : n = "int" ∨ n = "bool" ∨ n = "str" ∨ n = "list" ∨ n = "tuple") (hm : X.mg "isinstance" = none) (hx : X.mg x = none) (hv : bootBuiltins x = some (.type n)) (he : PE X e (tX K W fa)) (hg : Gl X "isinstance" := by rfl) (hg2 : Gl X x := by rfl) (hxn : x ≠ "__name__" := by decide) (hxd : (x == ("__debug__" : Str)) = false := by decide)
    (hs : starEach [e, .Name x np2] X.env = (false, eval e X.env) :: starEach [.Name x np2] X.env := by rfl) (hs2 : starEach [.Name x np2] X.env = (false, eval (.Name x np2) X.env) :: starEach [] X.env := by rfl) (hpl : (backTo pos (starEach [.Name x np2] X.env)).any (·.1) = false := by rfl) (hK : X.K = K := by rfl) :
    PE X (.Call (.Name "isinstance" np) [e, .Name x np2] [] pos) (tX K W (mUn (fIsB Cs n) fa)) := PE.imp (pe_callB (k_isi K hK) hg hm bt_isinstance (pa_cons he (pa_cons (pe_ty hx hv hg2 hxn hxd) pa_nil hs2) hs) (by decide) (by decide) hs hpl) fun σ H Q h => by
  refine un_read (r := fun vx H1 Q => rIsi K [vx, .ty n] H1 Q) (fun A H x tx tz Q d rx e k => ?_) h
  unfold fIsB at e
  cases et : tyT tx with
  | none => rw [et] at e; cases e
  | some q =>
    rw [et] at e
    cases q with
    | inl m =>
      cases e
      have T := rx.typ (fun C ns l z => by subst z; cases et) et
      exact ⟨x, _, _, _, _, rfl, .ty n, T.ty, T.kit n hn, k _ H (L2.Same.refl _) (.bl _)⟩
    | inr C =>
      dsimp only at e
      split at e
      · rename_i hc
        cases e
        have T := rx.typ (fun C' ns l z => by subst z; cases et; exact hC _ hc) et
        have kt := T.kit n hn
        have e0 : kb (.ref (He.ga K C)) n = false := by simp [kb]
        dsimp only at kt
        rw [e0] at kt
        exact ⟨x, _, _, _, _, rfl, .ty n, T.ty, kt, k _ H (L2.Same.refl _) (.bl _)⟩
      · cases e
/-- isinstance(x, D) of a class of the top: the table of the classes below it -/
def fIsC (tb : List (Str × Bool)) (t : T) : Option T := match tyT t with
  | some (.inl _) => some (.bl false)
  | some (.inr C) => (tb.lookup C).map T.bl
  | none => none
theorem lookup_mem {α : Type} : ∀ {tb : List (Str × α)} {C : Str} {b : α}, tb.lookup C = some b → (C, b) ∈ tb
  | [], C, b, h => by cases h
  | (D, c) :: tb, C, b, h => by
    rw [List.lookup_cons] at h
    split at h
    · rename_i q
      cases h
      rw [beq_iff_eq.mp q]
      exact List.mem_cons_self ..
    · exact List.mem_cons_of_mem _ (lookup_mem h)

theorem m_isC {x : Str} {np np2 : Pos} {D : Str} {tb : List (Str × Bool)} (hC : ∀ q ∈ tb, ClsOk K q.1 ∧ subB K (He.ga K q.1) (He.ga K D) q.2 = true) (hb : bltB K (He.ga K D) = true) (hm : X.mg "isinstance" = none) (hx : X.mg x = some (.ref (He.ga K D))) (he : PE X e (tX K W fa)) (hg : Gl X "isinstance" := by rfl) (hg2 : Gl X x := by rfl) (hxd : (x == ("__debug__" : Str)) = false := by decide)
    (hs : starEach [e, .Name x np2] X.env = (false, eval e X.env) :: starEach [.Name x np2] X.env := by rfl) (hs2 : starEach [.Name x np2] X.env = (false, eval (.Name x np2) X.env) :: starEach [] X.env := by rfl) (hpl : (backTo pos (starEach [.Name x np2] X.env)).any (·.1) = false := by rfl) (hK : X.K = K := by rfl) :
    PE X (.Call (.Name "isinstance" np) [e, .Name x np2] [] pos) (tX K W (mUn (fIsC tb) fa)) := PE.imp (pe_callB (k_isi K hK) hg hm bt_isinstance (pa_cons he (pa_cons (pe_gr hx hg2 hxd) pa_nil hs2) hs) (by decide) (by decide) hs hpl) fun σ H Q h => by
  refine un_read (r := fun vx H1 Q => rIsi K [vx, .ref (He.ga K D)] H1 Q) (fun A H x tx tz Q d rx e k => ?_) h
  unfold fIsC at e
  cases et : tyT tx with
  | none => rw [et] at e; cases e
  | some q =>
    rw [et] at e
    cases q with
    | inl m =>
      cases e
      have T := rx.typ (fun C ns l z => by subst z; cases et) et
      have hm : m ∈ ["int", "bool", "str", "NoneType", "list", "tuple"] := by
        cases tx <;> cases et <;> simp
      exact ⟨x, _, _, _, _, rfl, .own _, T.ty, of_decide_eq_true (List.all_eq_true.mp hb m hm), k _ H (L2.Same.refl _) (.bl _)⟩
    | inr C =>
      dsimp only at e
      obtain ⟨b, hlb, rfl⟩ := Option.map_eq_some_iff.mp e
      obtain ⟨c1, c2⟩ := hC _ (lookup_mem hlb)
      have T := rx.typ (fun C' ns l z => by subst z; cases et; exact c1) et
      exact ⟨x, _, _, _, _, rfl, .own _, T.ty, subB_ok c2, k _ H (L2.Same.refl _) (.bl _)⟩
/-! isinstance(x, (list, tuple)) -/
theorem m_isLT {np np1 np2 tp : Pos} {x1 : Nat} {Cs : List Str} (hC : ∀ C ∈ Cs, ClsOk K C) (hm : X.mg "isinstance" = none) (hl : X.mg "list" = none) (ht : X.mg "tuple" = none) (he : PE X e (tX K W fa)) (hg : Gl X "isinstance" := by rfl) (hg1 : Gl X "list" := by rfl) (hg2 : Gl X "tuple" := by rfl)
    (hs : starEach [e, .Tuple [.Name "list" np1, .Name "tuple" np2] x1 tp] X.env = (false, eval e X.env) :: starEach [.Tuple [.Name "list" np1, .Name "tuple" np2] x1 tp] X.env := by rfl)
    (hs2 : starEach [.Tuple [.Name "list" np1, .Name "tuple" np2] x1 tp] X.env = (false, eval (.Tuple [.Name "list" np1, .Name "tuple" np2] x1 tp) X.env) :: starEach [] X.env := by rfl)
    (hs3 : starEach [.Name "list" np1, .Name "tuple" np2] X.env = (false, eval (.Name "list" np1) X.env) :: starEach [.Name "tuple" np2] X.env := by rfl) (hs4 : starEach [.Name "tuple" np2] X.env = (false, eval (.Name "tuple" np2) X.env) :: starEach [] X.env := by rfl)
    (hpl : (backTo pos (starEach [.Tuple [.Name "list" np1, .Name "tuple" np2] x1 tp] X.env)).any (·.1) = false := by rfl) (hK : X.K = K := by rfl) :
    PE X (.Call (.Name "isinstance" np) [e, .Tuple [.Name "list" np1, .Name "tuple" np2] x1 tp] [] pos) (tX K W (mUn (fIsBs Cs ["list", "tuple"]) fa)) :=
  PE.imp (pe_callB (k_isiT K hK) hg hm bt_isinstance (pa_cons he (pa_cons (pe_tup (pa_cons (pe_ty hl bt_list hg1 (by decide) (by decide)) (pa_cons (pe_ty ht bt_tuple hg2 (by decide) (by decide)) pa_nil hs4) hs3)) pa_nil hs2) hs) (by decide) (by decide) hs hpl) fun σ H Q h => by
  refine un_read (r := fun vx H1 Q => 2 ≤ sizeLine ∧ ∀ p, H1 p = none → rIsiT K [vx, V.ref p] (upd H1 p (.tup [V.ty "list", V.ty "tuple"])) Q) (fun A H vx tx tz Q d rx e k => ?_) h
  refine ⟨by decide, fun p hp => ?_⟩
  have s := same_new (o := .tup [V.ty "list", V.ty "tuple"]) hp
  unfold fIsBs at e
  have key : ∀ (u : Value) (b : Bool), Typ K H vx u → (kb u "list" || kb u "tuple") = b → tz = .bl b → rIsiT K [vx, V.ref p] (upd H p (.tup [V.ty "list", V.ty "tuple"])) Q := fun u b T hb et => by
    subst et
    have T' := T.mono s
    refine ⟨vx, p, _, u, [.type "list", .type "tuple"], b, rfl, upd_same, .cons (.ty _) (.cons (.ty _) .nil), T'.ty, ?_, k _ _ s (.bl _)⟩
    have k1 := T'.kit "list" (.inr (.inr (.inr (.inl rfl))))
    have k2 := T'.kit "tuple" (.inr (.inr (.inr (.inr rfl))))
    unfold PySem.W.kitAny
    rw [k1]
    cases q : kb u "list" with
    | true =>
      rw [q] at hb
      rw [← hb]
      rfl
    | false =>
      rw [q] at hb
      show PySem.W.kitAny K u [.type "tuple"] = some b
      unfold PySem.W.kitAny
      rw [k2]
      rw [Bool.false_or] at hb
      rw [hb]
      cases b <;> rfl
  cases et : tyT tx with
  | none => rw [et] at e; cases e
  | some q =>
    rw [et] at e
    cases q with
    | inl m =>
      cases e
      exact key _ _ (rx.typ (fun C ns l z => by subst z; cases et) et) (by simp) rfl
    | inr C =>
      dsimp only at e
      split at e
      · rename_i hc
        cases e
        exact key _ _ (rx.typ (fun C' ns l z => by subst z; cases et; exact hC _ hc) et) (by simp [kb]) rfl
      · cases e
/-! a op= b -/
def sAug (i : Nat) (f : T → T → Option T) (fa : Ev T) : Sv := sAsg (mOp f (mVar i) fa) (gNm i)
/-! a text's signs -/
def mSeqOfS (a : Ev T) : Ev Src := a.bind fun x => match x with
  | .str z => fun _ _ S => .ok (.fix (z.cps.toList.map fun c => T.str ⟨#[c]⟩)) S
  | _ => fun _ _ _ => .st
theorem i_str {tg : Expr} (he : PE X e (tX K W fa)) : PI X tg e (tXI K W (mSeqOfS fa)) := PI.imp (pi_str he) fun σ H R h => by
  obtain ⟨cf, bs, m, S, ρ, F, h⟩ := h
  refine ⟨cf, bs, m, S, ρ, F, RsOk.bind F h fun x vx m1 H1 S1 F1 k1 R1 h1 => ?_⟩
  unfold RpT at R1
  cases R1 with
  | str z =>
    refine ⟨z, rfl, h1 _ m1 H1 F1.cs Kp.refl fun bs' m2 S2 H2 L cs i => ⟨fun t ht => ?_, fun hi => ?_⟩⟩
    · have ht := Option.some.inj ht
      rw [List.getElem?_map] at ht
      obtain ⟨c, hc, rfl⟩ := Option.map_eq_some_iff.mp ht
      rw [Array.getElem?_toList] at hc
      refine ⟨(Array.getElem?_eq_some_iff.mp hc).1, fun y H3 ⟨e, c', hc', ey⟩ => ?_⟩
      rw [hc] at hc'
      cases hc'
      subst e ey
      exact ⟨L2.Same.refl _, .str _⟩
    · have hi := List.getElem?_eq_none_iff.mp (Option.some.inj hi)
      show z.cps.size ≤ i
      simpa using hi
  | _ => exact h1.elim
/-! f(*xs, ..), [*xs, ..] -/
def mStar (fa : Ev T) (fr : Ev (List T)) : Ev (List T) := fa.bind fun x c ρ S => match seqT x with
  | some l => (fr.bind fun m _ _ S => .ok (l ++ m) S) c ρ S
  | none => .st
theorem m_star {es : List Expr} {p : Pos} {fr : Ev (List T)} (he : PE X e (tX K W fa)) (hr : PA X es (tXA K W fr)) (hs : starEach (.Starred e p :: es) X.env = (true, eval e X.env) :: starEach es X.env := by rfl) (hK : X.K = K := by rfl) : PA X (.Starred e p :: es) (tXA K W (mStar fa fr)) := PA.imp (k_star K he hr hs hK) fun σ H Q h => by
  obtain ⟨cf, bs, m, S, ρ, F, h⟩ := h
  refine ⟨cf, bs, m, S, ρ, F, RsOk.bind F h fun x vx m1 H1 S1 F1 k1 R1 h1 => ?_⟩
  unfold RpT at R1
  cases e1 : seqT x with
  | none => simp only [e1] at h1; exact h1.elim
  | some l =>
    simp only [e1] at h1
    obtain ⟨p, xs, rfl, h2, h3⟩ := R1.sq e1
    refine ⟨p, xs, rfl, h2.symm, cf, bs, m1, S1, ρ, F1, RsOk.bind F1 h1 fun y vy m2 H2 S2 F2 k2 R2 h4 => ?_⟩
    exact h4 _ m2 H2 F2.cs Kp.refl (Reps.append (h3.lk k2.lk) R2)
/-! a, b = x, y -/
def sPar2 (i j : Nat) (fr : Ev (List T)) : Sv := fun c ρ S => ouE (fr c ρ S) ρ fun l S => match l with
  | [a, b] => .nx ((ρ.set i (some a)).set j (some b)) S
  | _ => .st
theorem s_par2 (i j : Nat) {x y : Str} {a b : Expr} {fr : Ev (List T)} {px py pt : Pos} {kt k2 pt2} (hN : X.N.Nodup) (ha : PA X [a, b] (tXA K W fr)) (hc : X.calm = true := by rfl) (hi : X.N[i]? = some x := by rfl) (hj : X.N[j]? = some y := by rfl) (hij : i ≠ j := by decide)
    (hx : X.env.scope.names.lookup x = some .local := by rfl) (hy : X.env.scope.names.lookup y = some .local := by rfl) (hz : swappedStores [.Tuple [.Name x px, .Name y py] kt pt] (.Tuple [a, b] k2 pt2) X.env = pure (some [x, y]) := by rfl) (hs : swapsWithSole [.Tuple [.Name x px, .Name y py] kt pt] (.Tuple [a, b] k2 pt2) pos.line X.env = pure false := by rfl) :
    PS X (.Assign [.Tuple [.Name x px, .Name y py] kt pt] (.Tuple [a, b] k2 pt2) pos) (tXS K W (sPar2 i j fr)) := PS.imp (ps_par hc hN hi hj hij hx hy ha hz hs) fun D σ H h => by
  obtain ⟨cf, bs, m, S, ρ, F, h⟩ := h
  refine ⟨cf, bs, m, S, ρ, F, OuOk.ofE F h fun l vs m1 H1 S1 _ F1 k1 R1 h1 => ?_⟩
  unfold RpA at R1
  split at h1
  · cases R1 with
    | cons ra rr =>
      cases rr with
      | cons rb rr =>
        cases rr
        exact ⟨_, _, rfl, h1 _ m1 H1 ((F1.set ra).set rb) Kp.refl⟩
  · exact h1.elim
def sPar3 (i j l : Nat) (fr : Ev (List T)) : Sv := fun c ρ S => ouE (fr c ρ S) ρ fun q S => match q with
  | [a, b, d] => .nx (((ρ.set i (some a)).set j (some b)).set l (some d)) S
  | _ => .st
theorem s_par3 (i j l : Nat) {x y z : Str} {a b c : Expr} {fr : Ev (List T)} {px py pz pt : Pos} {kt k2 pt2} (hN : X.N.Nodup) (ha : PA X [a, b, c] (tXA K W fr)) (hc : X.calm = true := by rfl) (hi : X.N[i]? = some x := by rfl) (hj : X.N[j]? = some y := by rfl) (hl : X.N[l]? = some z := by rfl) (hij : i ≠ j := by decide) (hil : i ≠ l := by decide) (hjl : j ≠ l := by decide)
    (hx : X.env.scope.names.lookup x = some .local := by rfl) (hy : X.env.scope.names.lookup y = some .local := by rfl) (hz : X.env.scope.names.lookup z = some .local := by rfl) (hw : swappedStores [.Tuple [.Name x px, .Name y py, .Name z pz] kt pt] (.Tuple [a, b, c] k2 pt2) X.env = pure (some [x, y, z]) := by rfl)
    (hs : swapsWithSole [.Tuple [.Name x px, .Name y py, .Name z pz] kt pt] (.Tuple [a, b, c] k2 pt2) pos.line X.env = pure false := by rfl) :
    PS X (.Assign [.Tuple [.Name x px, .Name y py, .Name z pz] kt pt] (.Tuple [a, b, c] k2 pt2) pos) (tXS K W (sPar3 i j l fr)) := PS.imp (ps_par3 hc hN hi hj hl hij hil hjl hx hy hz ha hw hs) fun D σ H h => by
  obtain ⟨cf, bs, m, S, ρ, F, h⟩ := h
  refine ⟨cf, bs, m, S, ρ, F, OuOk.ofE F h fun l vs m1 H1 S1 _ F1 k1 R1 h1 => ?_⟩
  unfold RpA at R1
  split at h1
  · cases R1 with
    | cons ra rr =>
      cases rr with
      | cons rb rr =>
        cases rr with
        | cons rc rr =>
          cases rr
          exact ⟨_, _, _, rfl, h1 _ m1 H1 (((F1.set ra).set rb).set rc) Kp.refl⟩
  · exact h1.elim
/-! more numbers -/
def uNeg : T → Option T
  | .int i => some (.int (-i))
  | _ => none
theorem uNeg_ok : UnT K (rU fun i => .int (-i)) uNeg := fun A H x tx tz Q d rx e k => by
  unfold uNeg at e
  split at e
  · cases e
    cases rx
    exact ⟨_, rfl, k _ _ (L2.Same.refl _) (.int _)⟩
  · cases e
def oMul : T → T → Option T := oIc cMul (· * ·)
theorem oMul_ok : OpT K (rI CMul fun i j => .int (i * j)) oMul := oIc_ok fun i j h => by
  unfold cMul at h
  rw [Bool.or_eq_true, decide_eq_true_eq, decide_eq_true_eq] at h
  exact h
def oPow : T → T → Option T := oIc (fun i j => decide (0 ≤ j) && (decide (j ≤ 1000000) && decide (i.natAbs < 2 ^ 64))) fun i j => i ^ j.toNat
theorem oPow_ok : OpT K (rI CPow fun i j => .int (i ^ j.toNat)) oPow := oIc_ok fun i j h => by
  simp only [Bool.and_eq_true, decide_eq_true_eq] at h
  exact h
def oFdiv : T → T → Option T := oIc (fun _ j => decide (0 < j) && decide (j < 2 ^ 200)) (· / ·)
theorem oFdiv_ok : OpT K (rI CDivW fun i j => .int (i / j)) oFdiv := oIc_ok fun i j h => by
  simp only [Bool.and_eq_true, decide_eq_true_eq] at h
  exact wide_div (b := 200) h.1 (by have := h.2; omega) (by decide) (by decide)
/-! list(range(n)) -/
def fListRg : T → Option T
  | .int j => if 0 ≤ j ∧ j ≤ 1000000 then some (.lst (rgT 0 j.toNat)) else none
  | _ => none
theorem reps_rg {A : ASet} {H : Hp} (n : Nat) : Reps K A H ((List.range n).map fun i : Nat => V.int (0 + (i : Int))) (rgT 0 n) := by
  have key : ∀ (l : List Nat), Reps K A H (l.map fun i : Nat => V.int (0 + (i : Int))) (l.map fun i : Nat => T.int (0 + (i : Int))) := fun l => by
    induction l with
    | nil => exact .nil
    | cons a l ih => exact .cons (.int _) ih
  exact key (List.range n)

theorem m_listRg {a : Expr} {p p1 pos1 : Pos} (hl : X.mg "list" = none) (hm : X.mg "range" = none) (he : PE X a (tX K W fa)) (hc : X.calm = true := by rfl) (hg : Gl X "list" := by rfl) (hg2 : Gl X "range" := by rfl) (na : starEach [a] X.env = (false, eval a X.env) :: starEach [] X.env := by rfl)
    (nb : starEach [.Call (.Name "range" p1) [a] [] pos1] X.env = (false, eval (.Call (.Name "range" p1) [a] [] pos1) X.env) :: starEach [] X.env := by rfl) : PE X (.Call (.Name "list" p) [.Call (.Name "range" p1) [a] [] pos1] [] pos) (tX K W (mUn fListRg fa)) := by
  refine PE.imp (pe_listRg hc hg hl (prg_1 hg2 hm he na) nb) fun σ H Q h => ?_
  refine un_read (r := fun v H1 Q => ∃ n, v = V.int n ∧ RgOk 0 n ∧ ∀ q, H1 q = none → Q (.ref q) (upd H1 q (.lst (L2.rgV 0 n)))) (fun A H x tx tz Q d rx e k => ?_) h
  unfold fListRg at e
  split at e
  · split at e
    · rename_i hj
      cases e
      cases rx
      refine ⟨_, rfl, RgOk.of_le (Int.le_refl _) (by omega) (by decide) hj.1, fun q hq => k _ _ (same_new hq) (.lst (d.new hq) upd_same ?_)⟩
      unfold L2.rgV
      rw [Int.sub_zero]
      exact reps_rg _
    · cases e
  · cases e
end
end Tm

/-! N9: own special methods, class methods, dicts of the top, try that passes. -/
namespace Tm
open PySem PySem.Spec PyProof.Rows L2
section
variable {X : Cx} {K : PySem.W.Frag} {W : WX} {e o : Expr} {es : List Expr} {fa fb : Ev T} {fr : Ev (List T)} {pos p apos np : Pos} {Fm : Fn}
theorem mset_nil {a : Addr} : ¬ (mset ⟨[], []⟩ []) a := fun z => z.elim (fun z => nomatch z) (fun z => nomatch z)
mutual
/-- what refers to no cell stands without them -/
theorem Rep.bare {A : ASet} {H : Hp} : ∀ {v : V} {t : T}, Rep K A H v t → okR 0 t = true → Rep K (mset ⟨[], []⟩ []) H v t
  | _, _, .non, _ => .non
  | _, _, .bl b, _ => .bl b
  | _, _, .int i, _ => .int i
  | _, _, .str x, _ => .str x
  | _, _, .tup h r, e => .tup h (Reps.bare r (by unfold okR at e; exact e))
  | _, _, .wt h r, e => .wt h (Reps.bare r (by unfold okR at e; exact e))
  | _, _, .lst na h r, e => .lst (fun z => z.elim (fun z => nomatch z) fun z => nomatch z) h (Reps.bare r (by unfold okR at e; exact e))
  | _, _, .dK na h r, e => .dK (fun z => z.elim (fun z => nomatch z) fun z => nomatch z) h (Reps.bare r (by unfold okR at e; exact e))
  | _, _, .dT na h r, e => .dT (fun z => z.elim (fun z => nomatch z) fun z => nomatch z) h (Reps.bare r (by unfold okR at e; exact e))
  | _, _, .obj na h r, e => .obj (fun z => z.elim (fun z => nomatch z) fun z => nomatch z) h (Reps.bare r (by unfold okR at e; exact e))
  | _, _, .cls C, _ => .cls C
  | _, _, .scr h, _ => .scr (h.imp (fun z => ⟨(fun q => q.elim (fun y => nomatch y) (fun y => nomatch y)), z.2⟩) id)
  | _, _, .ref h, e => by unfold okR at e; simp at e
  | _, _, .fn x, _ => .fn x
  | _, _, .exc na h r, e => .exc (fun z => z.elim (fun z => nomatch z) fun z => nomatch z) h (Reps.bare r (by unfold okR at e; exact e))
  | _, _, .lam na nc h hc, _ => .lam mset_nil mset_nil h hc
  | _, _, .tb na h, _ => .tb mset_nil h
  | _, _, .dN na h, _ => .dN mset_nil h
theorem Reps.bare {A : ASet} {H : Hp} : ∀ {vs : List V} {l : List T}, Reps K A H vs l → okRs 0 l = true → Reps K (mset ⟨[], []⟩ []) H vs l
  | _, _, .nil, _ => .nil
  | _, _, .cons h r, e => by
    unfold okRs at e
    rw [Bool.and_eq_true] at e
    exact .cons (Rep.bare h e.1) (Reps.bare r e.2)
end
theorem cs_bare {H : Hp} : Cs K ⟨[], []⟩ [] [] H := ⟨rfl, List.nodup_nil, (fun _ h => nomatch h), (fun _ h => nomatch h), (fun n c a h _ => by simp at h), fun _ h => nomatch h⟩
/-! ### try whose body does not raise -/
/-! ### str, len of own objects -/
/-! ### == and != of own objects -/
/-! ### class methods; a class that a slot holds -/
def mCm (C : Str) (Fm : Fn) (fr : Ev (List T)) : Ev T := fr.bind fun ts c _ S => Fm c (.cls C :: ts) S
def mMkL (i : Nat) (Cn : Str) (Fm : Fn) (ds : List T) (fr : Ev (List T)) : Ev T := fun c ρ S => match ρ[i]? with
  | some (some (.cls C)) => if C = Cn then mMk Cn Fm ds fr c ρ S else .st
  | _ => .st
/-! ### a dict of the top, text keys, plain values -/
/-! ### D[x], D a dict of the top -/
end
end Tm

/-! N10: methods of lists in cells; dicts. -/
namespace Tm
open PySem PySem.Spec PyProof.Rows L2
/-! ### methods that change a list -/
def mLm (f : List T → List T → Option (T × List T)) (fo : Ev T) (fr : Ev (List T)) : Ev T := fo.bind fun x c ρ S => match x with
  | .ref n => match S[n]? with
    | some (.lst _) => (fr.bind fun ts c _ S => match S[n]? with
      | some (.lst l) => match f l ts with
        | some (res, l') => if wrOk c n (.lst ts) = true then .ok res (S.set n (.lst l')) else .st
        | none => .st
      | _ => .st) c ρ S
    | _ => .st
  | _ => .st
def LmT (K : PySem.W.Frag) (r : V → List V → Hp → VK → Prop) (f : List T → List T → Option (T × List T)) : Prop := ∀ A H a xs l vs ts res l' Q, H a = some (.lst xs) → Reps K A H xs l → Reps K A H vs ts → f l ts = some (res, l') → (∀ w ys, Rep K A H w res → Reps K A H ys l' → Q w (upd H a (.lst ys))) → r (.ref a) vs H Q
def LmB (f : List T → List T → Option (T × List T)) : Prop := ∀ b l ts res l', f l ts = some (res, l') → okRs b l = true → okRs b ts = true → okRs b l' = true
theorem okRs_app {b : Nat} : ∀ {l m : List T}, okRs b l = true → okRs b m = true → okRs b (l ++ m) = true
  | [], m, _, h => h
  | t :: l, m, h1, h2 => by
    unfold okRs at h1
    rw [Bool.and_eq_true] at h1
    show okRs b (t :: (l ++ m)) = true
    unfold okRs
    rw [h1.1, okRs_app h1.2 h2]
    rfl
theorem okRs_erase {b : Nat} : ∀ {l : List T} (k : Nat), okRs b l = true → okRs b (l.eraseIdx k) = true
  | [], _, h => by simp [okRs]
  | t :: l, 0, h => by
    unfold okRs at h
    rw [Bool.and_eq_true] at h
    exact h.2
  | t :: l, k + 1, h => by
    unfold okRs at h
    rw [Bool.and_eq_true] at h
    show okRs b (t :: l.eraseIdx k) = true
    unfold okRs
    rw [h.1, okRs_erase k h.2]
    rfl
theorem okRs_set {b : Nat} {u : T} (hu : okR b u = true) : ∀ {l : List T} (k : Nat), okRs b l = true → okRs b (l.set k u) = true
  | [], _, h => by simp [okRs]
  | t :: l, 0, h => by
    unfold okRs at h
    rw [Bool.and_eq_true] at h
    show okRs b (u :: l) = true
    unfold okRs
    rw [hu, h.2]
    rfl
  | t :: l, k + 1, h => by
    unfold okRs at h
    rw [Bool.and_eq_true] at h
    show okRs b (t :: l.set k u) = true
    unfold okRs
    rw [h.1, okRs_set hu k h.2]
    rfl
section
variable {X : Cx} {K : PySem.W.Frag} {W : WX} {e o : Expr} {es : List Expr} {fa fb fo : Ev T} {fr : Ev (List T)} {pos apos cpos : Pos} {r : V → List V → Hp → VK → Prop} {f : List T → List T → Option (T × List T)}
/-- a cell is written with a value that may be -/
theorem put_at {cf : Cf} {bs : Bx} {m : List Addr} {S : St} {σ : L2.St} {H : Hp} {ρ : Ro} {n : Nat} {a : Addr} {o o' : HO} {c' u : T} (F : FAt K cf bs m S σ H ρ) (hn : m[n]? = some a) (h0 : H a = some o) (nt : ∀ xs, o ≠ .tup xs) (nf : ∀ x y, o ≠ .frz x y) (hw : wrOk cf n u = true) (hc : Lk (mset bs m) H (mset bs m) (upd H a o') → CellAt K (mset bs m) (upd H a o') a c') (hb : ∀ b ∈ bs.b, n < b → okR b u = true → okR b c' = true) :
    Cs K bs m (S.set n c') (upd H a o') ∧ Kp cf.fl m H m (upd H a o') ∧ Lk (mset bs m) H (mset bs m) (upd H a o') := by
  obtain ⟨L, k, p⟩ := Cs.put (fl := cf.fl) (o' := o') F.cs hn h0 nt nf
  exact ⟨p _ (hc L) fun b h1 h2 => hb b h1 h2 (wrOk_b hw F.bn b h1 h2), k (wrOk_fl hw), L⟩
theorem lm_read {σ : L2.St} {H : Hp} {Q : VK} (ht : LmT K r f) (hB : LmB f) (h : tX K W (mLm f fo fr) σ H Q) : tBM K "list" r (tX K W fo) (tXA K W fr) σ H Q := by
  obtain ⟨cf, bs, m, S, ρ, F, h⟩ := h
  refine ⟨cf, bs, m, S, ρ, F, RsOk.bind F h fun x vx m1 H1 S1 F1 k1 R1 h1 => ?_⟩
  unfold RpT at R1
  cases R1 with
  | @ref a n hn =>
    have hn : m1[n]? = some a := hn
    dsimp only at h1
    cases es : S1[n]? with
    | none => rw [es] at h1; exact h1.elim
    | some cc =>
      rw [es] at h1
      have cl := F1.cs.cell n cc a es hn
      cases cl with
      | lst hh rs =>
        refine ⟨.inl ⟨rfl, _, .inl (.inl hh)⟩, cf, bs, m1, S1, ρ, F1, RsOk.bind F1 h1 fun ts vs m2 H2 S2 F2 k2 R2 h2 => ?_⟩
        have hn2 : m2[n]? = some a := by
          obtain ⟨⟨e, rfl, _⟩, _⟩ := k2
          rw [List.getElem?_append_left (List.getElem?_eq_some_iff.mp hn).1]
          exact hn
        cases es2 : S2[n]? with
        | none => rw [es2] at h2; exact h2.elim
        | some cc2 =>
          rw [es2] at h2
          have cl2 := F2.cs.cell n cc2 a es2 hn2
          cases cl2 with
          | @lst xs l hh2 rs2 =>
            dsimp only at h2
            cases ef : f l ts with
            | none => rw [ef] at h2; exact h2.elim
            | some q =>
              obtain ⟨res, l'⟩ := q
              rw [ef] at h2
              dsimp only at h2
              split at h2
              · rename_i hw
                refine ht _ H2 a _ _ vs ts res l' Q hh2 rs2 R2 ef fun w ys rw' rys => ?_
                obtain ⟨cs3, k3, L3⟩ := put_at (o' := .lst ys) (c' := .lst l') F2 hn2 hh2 (fun _ z => by cases z) (fun _ _ z => by cases z) hw (fun L => .lst upd_same (rys.lk L)) fun b hb hlt ok => by
                  have o1 := F2.cs.old b hb n _ hlt es2
                  unfold okR at o1 ok ⊢
                  exact hB b _ _ _ _ ef o1 ok
                exact h2 w m2 _ cs3 k3 (rw'.lk L3)
              · exact h2.elim
          | _ => exact h2.elim
      | _ => exact h1.elim
  | _ => exact h1.elim
def lApp : List T → List T → Option (T × List T)
  | l, [t] => if l.length < 1000000 then some (.non, l ++ [t]) else none
  | _, _ => none
theorem lApp_ok : LmT K rAppend lApp := fun A H a xs l vs ts res l' Q hh rs rv e k => by
  unfold lApp at e
  split at e
  · split at e
    · rename_i hl
      cases e
      cases rv with
      | cons r1 rr =>
        cases rr
        exact ⟨a, xs, _, rfl, rfl, hh, Nat.lt_of_lt_of_le (by rw [rs.length]; exact hl) (big_le (Nat.le_refl _)), k .non _ .non (rs.append (.cons r1 .nil))⟩
    · cases e
  · cases e
theorem lApp_b : LmB lApp := fun b l ts res l' e h1 h2 => by
  unfold lApp at e
  split at e
  · split at e
    · cases e
      exact okRs_app h1 h2
    · cases e
  · cases e
def lPopAt : List T → List T → Option (T × List T)
  | l, [.int j] => if -(2 ^ 63) ≤ j ∧ j < 2 ^ 63 then match seqIndex? j l.length with
    | some k => match l[k]? with
      | some u => some (u, l.eraseIdx k)
      | none => none
    | none => none else none
  | _, _ => none
theorem lPopAt_ok : LmT K rPopAt lPopAt := fun A H a xs l vs ts res l' Q hh rs rv e k => by
  unfold lPopAt at e
  split at e
  · split at e
    · rename_i hj
      cases e3 : seqIndex? _ l.length with
      | none => rw [e3] at e; cases e
      | some kk =>
        rw [e3] at e
        dsimp only at e
        cases e4 : l[kk]? with
        | none => rw [e4] at e; cases e
        | some u =>
          rw [e4] at e
          cases e
          obtain ⟨w, hw, rw'⟩ := rs.get e4
          cases rv with
          | cons r1 rr =>
            cases rr
            cases r1
            exact ⟨a, xs, _, kk, w, rfl, rfl, hh, hj.1, hj.2, by rw [rs.length]; exact e3, hw, k w _ rw' (rs.erase kk)⟩
    · cases e
  · cases e
theorem lPopAt_b : LmB lPopAt := fun b l ts res l' e h1 h2 => by
  unfold lPopAt at e
  split at e
  · split at e
    · split at e
      · split at e
        · cases e
          exact okRs_erase _ h1
        · cases e
      · cases e
    · cases e
  · cases e
def lPop : List T → List T → Option (T × List T)
  | l, [] => match l[l.length - 1]? with
    | some u => some (u, l.dropLast)
    | none => none
  | _, _ => none
theorem dropLast_erase {α : Type} : ∀ (l : List α), l.dropLast = l.eraseIdx (l.length - 1)
  | [] => rfl
  | [a] => rfl
  | a :: b :: l => by
    have := dropLast_erase (b :: l)
    simp only [List.dropLast_cons₂, List.length_cons, Nat.add_sub_cancel, List.eraseIdx_cons_succ] at this ⊢
    rw [this]
theorem lPop_ok : LmT K rPop lPop := fun A H a xs l vs ts res l' Q hh rs rv e k => by
  unfold lPop at e
  split at e
  · cases e4 : l[l.length - 1]? with
    | none => rw [e4] at e; cases e
    | some u =>
      rw [e4] at e
      cases e
      obtain ⟨w, hw, rw'⟩ := rs.get e4
      cases rv
      refine ⟨a, xs, w, rfl, rfl, hh, by rw [rs.length]; exact hw, k w _ rw' ?_⟩
      rw [dropLast_erase, dropLast_erase, rs.length]
      exact rs.erase _
  · cases e
theorem lPop_b : LmB lPop := fun b l ts res l' e h1 h2 => by
  unfold lPop at e
  split at e
  · split at e
    · cases e
      rw [dropLast_erase]
      exact okRs_erase _ h1
    · cases e
  · cases e
theorem m_app (ho : PE X o (tX K W fo)) (ha : PA X (e :: es) (tXA K W fr)) (hbase : attributeBase o "append" X.env (eval o X.env) = eval o X.env := by rfl)
    (hfew : ((backTo cpos (starEach (e :: es) X.env)).all (fun x => !x.1) && (backToKw cpos (keywordEach [] X.env)).all (fun x => x.1.isSome) && decide ((e :: es).length + ([] : List Keyword).length + (if ([] : List Keyword).isEmpty then 0 else 1) < 30)) = true := by rfl)
    (hline : (apos.endLine == cpos.line) = true := by rfl) (hs : starEach (e :: es) X.env = (false, eval e X.env) :: starEach es X.env := by rfl) (hplain : (backTo cpos (starEach es X.env)).any (·.1) = false := by rfl) (hK : X.K = K := by rfl) :
    PE X (.Call (.Attribute o "append" apos) (e :: es) [] cpos) (tX K W (mLm lApp fo fr)) :=
  PE.imp (k_bm K PySem.F.plainAttrs_list PySem.F.slot_list_append PySem.F.type_list_append mt_append ho ha hbase hfew hline hs hplain hK) fun σ H Q h => lm_read lApp_ok lApp_b h
theorem m_popAt (ho : PE X o (tX K W fo)) (ha : PA X (e :: es) (tXA K W fr)) (hbase : attributeBase o "pop" X.env (eval o X.env) = eval o X.env := by rfl)
    (hfew : ((backTo cpos (starEach (e :: es) X.env)).all (fun x => !x.1) && (backToKw cpos (keywordEach [] X.env)).all (fun x => x.1.isSome) && decide ((e :: es).length + ([] : List Keyword).length + (if ([] : List Keyword).isEmpty then 0 else 1) < 30)) = true := by rfl)
    (hline : (apos.endLine == cpos.line) = true := by rfl) (hs : starEach (e :: es) X.env = (false, eval e X.env) :: starEach es X.env := by rfl) (hplain : (backTo cpos (starEach es X.env)).any (·.1) = false := by rfl) (hK : X.K = K := by rfl) :
    PE X (.Call (.Attribute o "pop" apos) (e :: es) [] cpos) (tX K W (mLm lPopAt fo fr)) :=
  PE.imp (k_bm K PySem.F.plainAttrs_list PySem.F.slot_list_pop PySem.F.type_list_pop mt_popAt ho ha hbase hfew hline hs hplain hK) fun σ H Q h => lm_read lPopAt_ok lPopAt_b h
theorem m_pop (ho : PE X o (tX K W fo)) (hbase : attributeBase o "pop" X.env (eval o X.env) = eval o X.env := by rfl) (hline : (apos.endLine == cpos.line) = true := by rfl) (hK : X.K = K := by rfl) :
    PE X (.Call (.Attribute o "pop" apos) [] [] cpos) (tX K W (mLm lPop fo mNil)) :=
  PE.imp (k_bm0 K PySem.F.plainAttrs_list PySem.F.slot_list_pop PySem.F.type_list_pop mt_pop ho hbase hline hK) fun σ H Q h => by
    obtain ⟨cf, bs, m, S, ρ, F, h⟩ := lm_read (fr := mNil) lPop_ok lPop_b h
    refine ⟨cf, bs, m, S, ρ, F, ?_⟩
    cases e2 : fo cf ρ S with
    | ok a S' =>
      rw [e2] at h
      intro v m' H' cs k' R
      obtain ⟨h1, cf', bs', m2, S2, ρ2, F2, h3⟩ := h v m' H' cs k' R
      exact ⟨h1, h3 [] m2 H' F2.cs Kp.refl .nil⟩
    | ex x S' => rw [e2] at h; exact h
    | st => rw [e2] at h; exact h
/-! ### dicts -/
def keyT : T → Option Key
  | .int i => some (.inl i)
  | .str x => some (.inr x)
  | _ => none
def keysT : List T → Option (List Key)
  | [] => some []
  | t :: l => match keyT t, keysT l with
    | some k, some ks => some (k :: ks)
    | _, _ => none
def putKT {κ : Type} [DecidableEq κ] (kvs : List (κ × T)) (k : κ) (v : T) : List (κ × T) := if kvs.any (fun kv => decide (kv.1 = k)) then kvs.map fun kv => if kv.1 = k then (kv.1, v) else kv else kvs ++ [(k, v)]
def dGet {κ : Type} [DecidableEq κ] : List κ → List T → κ → Option T
  | k0 :: ks, t :: l, k => if k0 = k then some t else dGet ks l k
  | _, _, _ => none
/-- the pairs of a dict -/
def KvR {κ : Type} (K : PySem.W.Frag) (A : ASet) (H : Hp) (kvs : List (κ × V)) (m : List (κ × T)) : Prop := kvs.map (·.1) = m.map (·.1) ∧ Reps K A H (kvs.map (·.2)) (m.map (·.2))
section
variable {κ : Type} [DecidableEq κ] {A B : ASet} {H H' : Hp}
theorem Rep.key {v : V} {t : T} {k : Key} (r : Rep K A H v t) (e : keyT t = some k) : v = kV k := by
  cases r <;> cases e <;> rfl
theorem Reps.keys : ∀ {vs : List V} {l : List T} {ks : List Key}, Reps K A H vs l → keysT l = some ks → vs = ks.map kV
  | _, _, _, .nil, e => by cases e; rfl
  | _, _, _, .cons (t := t) (l := l) h r, e => by
    unfold keysT at e
    cases e1 : keyT t with
    | none => rw [e1] at e; cases e
    | some k =>
      cases e2 : keysT l with
      | none => rw [e1, e2] at e; cases e
      | some ks =>
        rw [e1, e2] at e
        cases e
        rw [h.key e1, Reps.keys r e2]
        rfl
theorem KvR.of {kvs : List (κ × V)} {l : List T} (r : Reps K A H (kvs.map (·.2)) l) : KvR K A H kvs ((kvs.map (·.1)).zip l) := by
  have hl : (kvs.map (·.1)).length = l.length := by rw [← r.length]; simp
  refine ⟨?_, ?_⟩
  · rw [List.map_fst_zip (by omega)]
  · rw [List.map_snd_zip (by omega)]
    exact r
theorem KvR.put {kvs : List (κ × V)} {m : List (κ × T)} {k : κ} {v : V} {t : T} (r : KvR K A H kvs m) (rv : Rep K A H v t) : KvR K A H (putK kvs k v) (putKT m k t) := by
  obtain ⟨h1, h2⟩ := r
  have ea : (kvs.any fun kv => decide (kv.1 = k)) = m.any fun kv => decide (kv.1 = k) := by
    have e1 : (kvs.any fun kv => decide (kv.1 = k)) = (kvs.map (·.1)).any fun x => decide (x = k) := by rw [List.any_map]; rfl
    have e2 : (m.any fun kv => decide (kv.1 = k)) = (m.map (·.1)).any fun x => decide (x = k) := by rw [List.any_map]; rfl
    rw [e1, e2, h1]
  unfold putK putKT
  rw [ea]
  split
  · have key : ∀ {kvs : List (κ × V)} {m : List (κ × T)}, kvs.map (·.1) = m.map (·.1) → Reps K A H (kvs.map (·.2)) (m.map (·.2)) → KvR K A H (kvs.map fun kv => if kv.1 = k then (kv.1, v) else kv) (m.map fun kv => if kv.1 = k then (kv.1, t) else kv) := by
      intro kvs
      induction kvs with
      | nil =>
        intro m e r
        cases m with
        | nil => exact ⟨rfl, .nil⟩
        | cons q m => cases e
      | cons p kvs ih =>
        intro m e r
        cases m with
        | nil => cases e
        | cons q m =>
          simp only [List.map_cons, List.cons.injEq] at e r
          cases r with
          | cons r1 rr =>
            obtain ⟨i1, i2⟩ := ih e.2 rr
            by_cases hk : p.1 = k
            · have hk2 : q.1 = k := by rw [← e.1]; exact hk
              refine ⟨?_, ?_⟩
              · simp only [List.map_cons, if_pos hk, if_pos hk2, i1, e.1]
              · simp only [List.map_cons, if_pos hk, if_pos hk2]
                exact .cons rv i2
            · have hk2 : ¬ q.1 = k := by rw [← e.1]; exact hk
              refine ⟨?_, ?_⟩
              · simp only [List.map_cons, if_neg hk, if_neg hk2, i1, e.1]
              · simp only [List.map_cons, if_neg hk, if_neg hk2]
                exact .cons r1 i2
    exact key h1 h2
  · refine ⟨by simp [h1], ?_⟩
    rw [List.map_append, List.map_append]
    exact h2.append (.cons rv .nil)
theorem dGet_ok : ∀ {kvs : List (κ × V)} {l : List T} {k : κ}, Reps K A H (kvs.map (·.2)) l → (∀ t, dGet (kvs.map (·.1)) l k = some t → ∃ v, valV kvs k = some v ∧ Rep K A H v t) ∧ (dGet (kvs.map (·.1)) l k = none → valV kvs k = none)
  | [], l, k, r => by
    cases r
    exact ⟨fun t e => (by cases e), fun _ => rfl⟩
  | (k0, v0) :: kvs, l, k, r => by
    cases r with
    | @cons _ t0 _ l h r =>
      obtain ⟨i1, i2⟩ := dGet_ok (k := k) r
      by_cases q : k0 = k
      · have e1 : dGet (((k0, v0) :: kvs).map (·.1)) (t0 :: l) k = some t0 := if_pos q
        have e2 : valV ((k0, v0) :: kvs) k = some v0 := valV_pos q
        rw [e1, e2]
        exact ⟨fun t e => (by cases e; exact ⟨_, rfl, h⟩), fun e => (by cases e)⟩
      · have e1 : dGet (((k0, v0) :: kvs).map (·.1)) (t0 :: l) k = dGet (kvs.map (·.1)) l k := if_neg q
        have e2 : valV ((k0, v0) :: kvs) k = valV kvs k := valV_neg q
        rw [e1, e2]
        exact ⟨i1, i2⟩
end
/-- what a dict holds at a key: nothing to be said, or there or not -/
def dictGet : T → T → Option (Option T)
  | .dK ks l, y => match keyT y with
    | some k => some (dGet ks l k)
    | none => none
  | .dT ks l, .tup ys => match keysT ys with
    | some k => some (dGet ks l k)
    | none => none
  | _, _ => none
/-- a dict, in a tree or a cell -/
theorem dK_at {bs : Bx} {m : List Addr} {S : St} {H : Hp} (cs : Cs K bs m S H) {v : V} {t : T} (r : Rep K (mset bs m) H v t) {ks : List Key} {l : List T} (e : vw S t = .dK ks l) : ∃ a kvs, v = .ref a ∧ DkAt H a kvs ∧ kvs.map (·.1) = ks ∧ Reps K (mset bs m) H (kvs.map (·.2)) l := by
  cases r with
  | dK na h r =>
    cases e
    exact ⟨_, _, rfl, h, rfl, r⟩
  | ref h =>
    rename_i a n
    have h : m[n]? = some a := h
    have hn : n < S.length := cs.len ▸ (List.getElem?_eq_some_iff.mp h).1
    have es : S[n]? = some S[n] := List.getElem?_eq_getElem hn
    have e : unlk ((S[n]?).getD .non) = .dK ks l := e
    rw [es] at e
    have e : unlk S[n] = .dK ks l := e
    have := cs.cell n _ a es h
    generalize S[n] = cc at this e
    cases this with
    | dK h r => cases e; exact ⟨_, _, rfl, .inl h, rfl, r⟩
    | lkK h r => cases e; exact ⟨_, _, rfl, .inr ⟨_, h⟩, rfl, r⟩
    | _ => cases e
  | _ => cases e
theorem dT_at {bs : Bx} {m : List Addr} {S : St} {H : Hp} (cs : Cs K bs m S H) {v : V} {t : T} (r : Rep K (mset bs m) H v t) {ks : List (List Key)} {l : List T} (e : vw S t = .dT ks l) : ∃ a kvs, v = .ref a ∧ DtAt H a kvs ∧ kvs.map (·.1) = ks ∧ Reps K (mset bs m) H (kvs.map (·.2)) l := by
  cases r with
  | dT na h r =>
    cases e
    exact ⟨_, _, rfl, h, rfl, r⟩
  | ref h =>
    rename_i a n
    have h : m[n]? = some a := h
    have hn : n < S.length := cs.len ▸ (List.getElem?_eq_some_iff.mp h).1
    have es : S[n]? = some S[n] := List.getElem?_eq_getElem hn
    have e : unlk ((S[n]?).getD .non) = .dT ks l := e
    rw [es] at e
    have e : unlk S[n] = .dT ks l := e
    have := cs.cell n _ a es h
    generalize S[n] = cc at this e
    cases this with
    | dT h r => cases e; exact ⟨_, _, rfl, .inl h, rfl, r⟩
    | lkT h r => cases e; exact ⟨_, _, rfl, .inr ⟨_, h⟩, rfl, r⟩
    | _ => cases e
  | _ => cases e
theorem dictGet_ok {bs : Bx} {m : List Addr} {S : St} {H : Hp} (cs : Cs K bs m S H) {v vy : V} {t y : T} {g : Option T} (r : Rep K (mset bs m) H v t) (ry : Rep K (mset bs m) H vy y) (e : dictGet (vw S t) y = some g) : ∃ a, v = .ref a ∧ ∃ ov, DGet H a vy ov ∧ IsD H a ∧ (∀ z, g = some z → ∃ w, ov = some w ∧ Rep K (mset bs m) H w z) ∧ (g = none → ov = none) := by
  cases ev : vw S t with
  | dK ks l =>
    rw [ev] at e
    obtain ⟨a, kvs, rfl, hh, rfl, rs⟩ := dK_at cs r ev
    have e : (match keyT y with | some k => some (dGet (kvs.map (·.1)) l k) | none => none) = some g := e
    cases ek : keyT y with
    | none => rw [ek] at e; cases e
    | some k =>
      rw [ek] at e
      cases e
      obtain ⟨i1, i2⟩ := dGet_ok (k := k) rs
      obtain rfl := ry.key ek
      exact ⟨a, rfl, _, .inl ⟨kvs, k, hh, rfl, rfl⟩, .inl ⟨kvs, hh⟩, i1, i2⟩
  | dT ks l =>
    rw [ev] at e
    obtain ⟨a, kvs, rfl, hh, rfl, rs⟩ := dT_at cs r ev
    cases ry with
    | @tup b _ ys ht rt =>
      have e : (match keysT ys with | some k => some (dGet (kvs.map (·.1)) l k) | none => none) = some g := e
      cases ek : keysT ys with
      | none => rw [ek] at e; cases e
      | some k =>
        rw [ek] at e
        cases e
        obtain ⟨i1, i2⟩ := dGet_ok (k := k) rs
        have := rt.keys ek
        subst this
        exact ⟨a, rfl, _, .inr ⟨kvs, k, _, hh, rfl, ht, rfl⟩, .inr ⟨kvs, hh⟩, i1, i2⟩
    | _ => cases e
  | _ => rw [ev] at e; cases e
/-- x[y]: by lists, tuples, texts, or dicts -/
def mIxA (fa fb : Ev T) : Ev T := fa.bind fun x => fb.bind fun y _ _ S => match dictGet (vw S x) y with
  | some (some z) => .ok z S
  | _ => match oIx (vw S x) y with
    | some z => .ok z S
    | none => .st
theorem PE.or {t t' : TE} (h : PE X e t) (h' : PE X e t') : PE X e (fun σ H Q => t σ H Q ∨ t' σ H Q) := ⟨fun pins s σ H Q I hw => hw.elim (h.run pins s σ H Q I) (h'.run pins s σ H Q I)⟩
theorem PT.or {t t' : TT} (h : PT X e t) (h' : PT X e t') : PT X e (fun σ H Q => t σ H Q ∨ t' σ H Q) := ⟨fun pins s σ H Q I hw => hw.elim (h.run pins s σ H Q I) (h'.run pins s σ H Q I)⟩
theorem m_ixA {b : Expr} (hu : X.A.units + 1 < cLine) (ha : PE X e (tX K W fa)) (hb : PE X b (tX K W fb)) (hs : PlainIx b) (hn : NoSl b := by exact fun _ _ => rfl) (hK : X.K = K := by rfl) : PE X (.Subscript e b pos) (tX K W (mIxA fa fb)) := PE.imp (PE.or (pe_dget hu ha hb hn) (m_ix ha hb hs hK)) fun σ H Q h => by
  obtain ⟨cf, bs, m, S, ρ, F, h⟩ := h
  have key : (∃ x S1 y S2 z, fa cf ρ S = .ok x S1 ∧ fb cf ρ S1 = .ok y S2 ∧ dictGet (vw S2 x) y = some (some z)) ∨ mIxA fa fb cf ρ S = mIx fa fb cf ρ S := by
    unfold mIxA mIx Ev.bind
    cases e1 : fa cf ρ S with
    | ok x S1 =>
      dsimp only
      cases e2 : fb cf ρ S1 with
      | ok y S2 =>
        dsimp only
        cases e3 : dictGet (vw S2 x) y with
        | none => exact .inr rfl
        | some g =>
          cases g with
          | none => exact .inr rfl
          | some z => exact .inl ⟨x, S1, y, S2, z, rfl, e2, e3⟩
      | ex _ _ => exact .inr rfl
      | st => exact .inr rfl
    | ex _ _ => exact .inr rfl
    | st => exact .inr rfl
  rcases key with ⟨x, S1, y, S2, z, e1, e2, e3⟩ | q
  · refine .inl ⟨cf, bs, m, S, ρ, F, RsOk.bindE F h fun x' vx m1 H1 S1' q1 F1 k1 R1 h1 => ⟨cf, bs, m1, S1', ρ, F1, RsOk.bindE F1 h1 fun y' vy m2 H2 S2' q2 F2 k2 R2 h2 => ?_⟩⟩
    rw [e1] at q1
    cases q1
    rw [e2] at q2
    cases q2
    rw [e3] at h2
    have R : Rep K (mset bs m2) H2 vx x := Rep.lk k2.lk R1
    obtain ⟨a, rfl, ov, g1, _, g2, _⟩ := dictGet_ok F2.cs R R2 e3
    obtain ⟨w, rfl, rw'⟩ := g2 z rfl
    exact ⟨a, w, rfl, g1, h2 w m2 H2 F2.cs Kp.refl rw'⟩
  · rw [q] at h
    exact .inr ⟨cf, bs, m, S, ρ, F, h⟩
/-! ### in -/
def mInA (neg : Bool) (f : T → T → Option T) (fa fb : Ev T) : Ev T := fa.bind fun x => fb.bind fun y _ _ S => match dictGet (vw S y) x with
  | some g => .ok (.bl (if neg then !g.isSome else g.isSome)) S
  | none => orV (f x y) (f (vw S x) (vw S y)) S
theorem inA_cases {neg : Bool} {f : T → T → Option T} {cf : Cf} {ρ : Ro} {S : St} : (∃ x S1 y S2 g, fa cf ρ S = .ok x S1 ∧ fb cf ρ S1 = .ok y S2 ∧ dictGet (vw S2 y) x = some g) ∨ mInA neg f fa fb cf ρ S = mOp f fa fb cf ρ S := by
  unfold mInA mOp Ev.bind
  cases e1 : fa cf ρ S with
  | ok x S1 =>
    dsimp only
    cases e2 : fb cf ρ S1 with
    | ok y S2 =>
      dsimp only
      cases e3 : dictGet (vw S2 y) x with
      | none => exact .inr rfl
      | some g => exact .inl ⟨x, S1, y, S2, g, rfl, e2, e3⟩
    | ex _ _ => exact .inr rfl
    | st => exact .inr rfl
  | ex _ _ => exact .inr rfl
  | st => exact .inr rfl
theorem inA_read {neg : Bool} {f : T → T → Option T} {σ : L2.St} {H : Hp} {Q : VK} {cf : Cf} {bs : Bx} {m : List Addr} {S : St} {ρ : Ro} (F : FAt K cf bs m S σ H ρ) (h : RsOk K W bs cf.fl m σ H (RpT K bs) Q (mInA neg f fa fb cf ρ S)) (q : ∃ x S1 y S2 g, fa cf ρ S = .ok x S1 ∧ fb cf ρ S1 = .ok y S2 ∧ dictGet (vw S2 y) x = some g) :
    tX K W fa σ H fun y H1 => tX K W fb σ H1 fun x H2 => ∃ a o, x = .ref a ∧ DGet H2 a y o ∧ Q (.bl (if neg then !o.isSome else o.isSome)) H2 := by
  obtain ⟨x, S1, y, S2, g, e1, e2, e3⟩ := q
  refine ⟨cf, bs, m, S, ρ, F, RsOk.bindE F h fun x' vx m1 H1 S1' q1 F1 k1 R1 h1 => ⟨cf, bs, m1, S1', ρ, F1, RsOk.bindE F1 h1 fun y' vy m2 H2 S2' q2 F2 k2 R2 h2 => ?_⟩⟩
  rw [e1] at q1
  cases q1
  rw [e2] at q2
  cases q2
  rw [e3] at h2
  have R : Rep K (mset bs m2) H2 vx x := Rep.lk k2.lk R1
  obtain ⟨a, rfl, ov, g1, _, g2, g3⟩ := dictGet_ok F2.cs R2 R e3
  have es : ov.isSome = g.isSome := by
    cases g with
    | none =>
      rw [g3 rfl]
      rfl
    | some z =>
      obtain ⟨w, rfl, _⟩ := g2 z rfl
      rfl
  refine ⟨a, ov, rfl, g1, ?_⟩
  rw [es]
  exact h2 _ m2 H2 F2.cs Kp.refl (.bl _)
theorem m_inA {b : Expr} {r : R2} {f : T → T → Option T} (hu : X.A.units + 1 < cLine) (ho : OpR X (compareOp .In) r) (ht : OpT K r f) (ha : PE X e (tX K W fa)) (hb : PE X b (tX K W fb)) (hm : behindInMarks .In b = false := by rfl) : PE X (.Compare e [.In] [b] pos) (tX K W (mInA false f fa fb)) :=
  PE.imp (PE.or (pe_cmp (pc_din hu ha hb) hm) (m_cmp ho ht ha hb hm)) fun σ H Q h => by
    obtain ⟨cf, bs, m, S, ρ, F, h⟩ := h
    rcases inA_cases (fa := fa) (fb := fb) (neg := false) (f := f) (cf := cf) (ρ := ρ) (S := S) with q | q
    · exact .inl (inA_read F h q)
    · rw [q] at h
      exact .inr ⟨cf, bs, m, S, ρ, F, h⟩
theorem m_tinA {b : Expr} {r : R2} {f : T → T → Option T} (hu : X.A.units + 1 < cLine) (ho : OpR X (compareOp .In) r) (ht : OpT K r f) (ha : PE X e (tX K W fa)) (hb : PE X b (tX K W fb)) (hm : behindInMarks .In b = false := by rfl) : PT X (.Compare e [.In] [b] pos) (tXT K W (mTst (mInA false f fa fb))) :=
  PT.imp (PT.or (pt_cmp (pc_din hu ha hb) hm) (pt_cmpR ho ha hb hm)) fun σ H Q h => by
    have h := tst_read h
    obtain ⟨cf, bs, m, S, ρ, F, h⟩ := h
    rcases inA_cases (fa := fa) (fb := fb) (neg := false) (f := f) (cf := cf) (ρ := ρ) (S := S) with q | q
    · exact .inl (inA_read F h q)
    · rw [q] at h
      exact .inr (op_read (Q := fun x H1 => ∃ k, x = .bl k ∧ Q k H1) ht ⟨cf, bs, m, S, ρ, F, h⟩)
/-! ### d.get(k, x) -/
def isD : T → Bool
  | .dK _ _ => true
  | .dT _ _ => true
  | _ => false
def mGet2 (fo fa fb : Ev T) : Ev T := fo.bind fun x c ρ S => if isD (vw S x) = true then (fa.bind fun y => fb.bind fun z _ _ S => match dictGet (vw S x) y with
  | some g => .ok (g.getD z) S
  | none => .st) c ρ S else .st
/-! ### x[i] = v -/
theorem PSet.or {t t' : TSet} (h : PSet X t) (h' : PSet X t') : PSet X (fun o i v H Q => t o i v H Q ∨ t' o i v H Q) := fun pins s σ H o i v ov iv u Q I ro ri rv hh => hh.elim (h pins s σ H o i v ov iv u Q I ro ri rv) (h' pins s σ H o i v ov iv u Q I ro ri rv)
def itmPut (c : Cf) (x y t : T) (S : St) : Option St := match x with
  | .ref n => if wrOk c n t = true then match S[n]? with
    | some (.lst l) => match y with
      | .int i => match ixN l.length i with
        | some j => some (S.set n (.lst (l.set j t)))
        | none => none
      | _ => none
    | some (.dK ks l) => match keyT y with
      | some k => if ks.length < 1000000 then some (S.set n (.dK ((putKT (ks.zip l) k t).map (·.1)) ((putKT (ks.zip l) k t).map (·.2)))) else none
      | none => none
    | some (.dT ks l) => match y with
      | .tup ys => match keysT ys with
        | some k => if ks.length < 1000000 then some (S.set n (.dT ((putKT (ks.zip l) k t).map (·.1)) ((putKT (ks.zip l) k t).map (·.2)))) else none
        | none => none
      | _ => none
    | _ => none else none
  | _ => none
theorem okRs_put {κ : Type} [DecidableEq κ] {b : Nat} {k : κ} {t : T} (ht : okR b t = true) {m : List (κ × T)} (h : okRs b (m.map (·.2)) = true) : okRs b ((putKT m k t).map (·.2)) = true := by
  unfold putKT
  split
  · induction m with
    | nil => exact h
    | cons p m ih =>
      simp only [List.map_cons] at h ⊢
      unfold okRs at h ⊢
      rw [Bool.and_eq_true] at h ⊢
      refine ⟨?_, ?_⟩
      · split
        · exact ht
        · exact h.1
      · rename_i q
        clear q ih
        have key : ∀ m : List (κ × T), okRs b (m.map (·.2)) = true → okRs b ((m.map fun kv => if kv.1 = k then (kv.1, t) else kv).map (·.2)) = true := by
          intro m
          induction m with
          | nil => exact fun h => h
          | cons p m ih =>
            intro h
            simp only [List.map_cons] at h ⊢
            unfold okRs at h ⊢
            rw [Bool.and_eq_true] at h ⊢
            refine ⟨?_, ih h.2⟩
            split
            · exact ht
            · exact h.1
        exact key m h.2
  · rw [List.map_append]
    exact okRs_app h (by show okRs b [t] = true; unfold okRs; rw [ht]; rfl)
theorem itmPut_ok {cf : Cf} {bs : Bx} {m : List Addr} {S S' : St} {σ : L2.St} {H : Hp} {ρ : Ro} {x y t : T} {vx vy v : V} {Q : Hp → Prop} (F : FAt K cf bs m S σ H ρ) (rx : Rep K (mset bs m) H vx x) (ry : Rep K (mset bs m) H vy y) (rt : Rep K (mset bs m) H v t) (e : itmPut cf x y t S = some S')
    (k : ∀ H', FAt K cf bs m S' σ H' ρ → Kp cf.fl m H m H' → Q H') : rSetL vx vy v H Q ∨ rSetD vx vy v H Q := by
  unfold itmPut at e
  split at e
  · rename_i n
    split at e
    · rename_i hw
      cases rx with
      | @ref a _ hn =>
        have hn : m[n]? = some a := hn
        cases es : S[n]? with
        | none => rw [es] at e; cases e
        | some cc =>
          rw [es] at e
          have cl := F.cs.cell n cc a es hn
          cases cl with
          | @lst xs l hh rs =>
            dsimp only at e
            split at e
            · rename_i i
              cases ry
              cases ej : ixN l.length i with
              | none => rw [ej] at e; cases e
              | some j =>
                rw [ej] at e
                cases e
                obtain ⟨cs3, k3, L3⟩ := put_at (o' := .lst (xs.set j v)) (c' := .lst (l.set j t)) F hn hh (fun _ z => by cases z) (fun _ _ z => by cases z) hw (fun L => .lst upd_same ((rs.set rt j).lk L)) fun b hb hlt ok => by
                  have o1 := F.cs.old b hb n _ hlt es
                  unfold okR at o1 ⊢
                  exact okRs_set ok j o1
                exact .inl ⟨a, xs, i, j, rfl, rfl, hh, by rw [rs.length]; exact ej, k _ (F.kp cs3 k3) k3⟩
            · cases e
          | @dK kvs l hh rs =>
            dsimp only at e
            cases ek : keyT y with
            | none => rw [ek] at e; cases e
            | some kk =>
              rw [ek] at e
              dsimp only at e
              split at e
              · rename_i hl
                cases e
                have kv := (KvR.of rs).put (k := kk) rt
                obtain ⟨cs3, k3, L3⟩ := put_at (o' := .dK (putK kvs kk v)) (c' := .dK ((putKT ((kvs.map (·.1)).zip l) kk t).map (·.1)) ((putKT ((kvs.map (·.1)).zip l) kk t).map (·.2))) F hn hh (fun _ z => by cases z) (fun _ _ z => by cases z) hw (fun L => by rw [← kv.1]; exact .dK upd_same (kv.2.lk L)) fun b hb hlt ok => by
                  have o1 := F.cs.old b hb n _ hlt es
                  unfold okR at o1 ⊢
                  refine okRs_put ok ?_
                  rw [List.map_snd_zip (by rw [← rs.length]; simp)]
                  exact o1
                obtain rfl := ry.key ek
                exact .inr ⟨a, _, rfl, .inl ⟨kvs, kk, hh, rfl, Nat.lt_of_lt_of_le (by simpa using hl) (big_le (Nat.le_refl _)), rfl⟩, k _ (F.kp cs3 k3) k3⟩
              · cases e
          | @dT kvs l hh rs =>
            dsimp only at e
            split at e
            · rename_i ys
              cases ek : keysT ys with
              | none => rw [ek] at e; cases e
              | some kk =>
                rw [ek] at e
                dsimp only at e
                split at e
                · rename_i hl
                  cases e
                  have kv := (KvR.of rs).put (k := kk) rt
                  obtain ⟨cs3, k3, L3⟩ := put_at (o' := .dT (putK kvs kk v)) (c' := .dT ((putKT ((kvs.map (·.1)).zip l) kk t).map (·.1)) ((putKT ((kvs.map (·.1)).zip l) kk t).map (·.2))) F hn hh (fun _ z => by cases z) (fun _ _ z => by cases z) hw (fun L => by rw [← kv.1]; exact .dT upd_same (kv.2.lk L)) fun b hb hlt ok => by
                    have o1 := F.cs.old b hb n _ hlt es
                    unfold okR at o1 ⊢
                    refine okRs_put ok ?_
                    rw [List.map_snd_zip (by rw [← rs.length]; simp)]
                    exact o1
                  cases ry with
                  | @tup b _ _ ht rt2 =>
                    have := rt2.keys ek
                    subst this
                    exact .inr ⟨a, _, rfl, .inr ⟨kvs, kk, b, hh, rfl, ht, Nat.lt_of_lt_of_le (by simpa using hl) (big_le (Nat.le_refl _)), rfl⟩, k _ (F.kp cs3 k3) k3⟩
                · cases e
            · cases e
          | _ => cases e
    · cases e
  · cases e
def sItm (fo fi fv : Ev T) : Sv := fun c ρ S => ouE (fv c ρ S) ρ fun t S => ouE (fo c ρ S) ρ fun x S => ouE (fi c ρ S) ρ fun y S => match itmPut c x y t S with
  | some S' => .nx ρ S'
  | none => .st
theorem s_itm {i v : Expr} {fi fv : Ev T} {pos' : Pos} (hu : X.A.units + 1 < cLine) (ho : PE X o (tX K W fo)) (hi : PE X i (tX K W fi)) (hv : PE X v (tX K W fv))
    (ha : ∀ v, assign (.Subscript o i pos') X.env v = (do
      let ov ← holding [v] (eval o X.env)
      let iv ← holding [v, ov] (eval i X.env)
      standAt pos'
      holding [v, ov, iv] (setItem ov iv v)
      release [v, ov, iv] []) := by intro _; rfl)
    (hs : swapsWithSole [.Subscript o i pos'] v pos.line X.env = pure false := by rfl) (hw : swappedStores [.Subscript o i pos'] v X.env = pure none := by rfl) (h1 : (assignEach [.Subscript o i pos'] X.env).map (·.2) = [assign (.Subscript o i pos') X.env] := by rfl) :
    PS X (.Assign [.Subscript o i pos'] v pos) (tXS K W (sItm fo fi fv)) := PS.imp (ps_asg hv (pg_sub ho hi (PSet.or set_list (set_dict hu)) ha) hs hw h1) fun D σ H h => by
  obtain ⟨cf, bs, m, S, ρ, F, h⟩ := h
  refine ⟨cf, bs, m, S, ρ, F, OuOk.ofE F h fun t v m1 H1 S1 _ F1 k1 R1 h1 => ⟨cf, bs, m1, S1, ρ, F1, OuOk.ofE F1 h1 fun x vx m2 H2 S2 _ F2 k2 R2 h2 => ⟨cf, bs, m2, S2, ρ, F2, OuOk.ofE F2 h2 fun y vy m3 H3 S3 _ F3 k3 R3 h3 => ?_⟩⟩⟩
  cases e : itmPut cf x y t S3 with
  | none => rw [e] at h3; exact h3.elim
  | some S' =>
    rw [e] at h3
    exact itmPut_ok F3 (Rep.lk k3.lk R2) R3 (Rep.lk k3.lk (Rep.lk k2.lk R1)) e fun H' F' k' => h3 σ m3 H' F' k'
end
end Tm

/-! N11: enumerate, dict comprehensions, sizes. -/
namespace Tm
open PySem PySem.Spec PyProof.Rows L2
open Sem (wp)
def enT (j : Nat) : List T → List T
  | [] => []
  | t :: l => .tup [.int (j : Int), t] :: enT (j + 1) l
theorem enT_get : ∀ {l : List T} {j i : Nat} {t : T}, (enT j l)[i]? = some t → ∃ u, l[i]? = some u ∧ t = .tup [.int ((j + i : Nat) : Int), u]
  | [], j, i, t, h => by simp [enT] at h
  | u :: l, j, 0, t, h => by
    simp [enT] at h
    exact ⟨u, rfl, h.symm⟩
  | u :: l, j, i + 1, t, h => by
    simp only [enT, List.getElem?_cons_succ] at h
    obtain ⟨v, h1, h2⟩ := enT_get h
    refine ⟨v, by simpa using h1, ?_⟩
    rw [h2, Nat.add_assoc, Nat.add_comm 1 i]
theorem enT_length : ∀ (l : List T) (j : Nat), (enT j l).length = l.length
  | [], j => rfl
  | t :: l, j => by simp [enT, enT_length l (j + 1)]
/-- the tuple at a, each item in a new pair -/
def Itp (K : PySem.W.Frag) (a : Addr) : It where
  go := fun i H => ∃ (xs : List V) (x : V), SqT K H a xs ∧ xs[i]? = some x
  yld := fun i H v H' => ∃ q x, v = .ref q ∧ H q = none ∧ H' = upd H q (.tup [.int (i : Nat), x]) ∧ ∀ xs, SqT K H a xs → xs[i]? = some x
  stop := fun i H => ∃ xs : List V, SqT K H a xs ∧ xs.length ≤ i
set_option maxHeartbeats 1000000 in
theorem meets_enumT (ta : Addr) (us : Array Value) : Meets (Builtin.«enumerate.__new__» ⟨[.type "enumerate", .ref ta], []⟩) (fun _ R s0 => s0.heap.IsTuple ta us ∧
      R (.ok (.ret (.ref (s0.heap.push { cls := .type "tuple_iterator", data := .fields #[.ref ta, .int 0 0] }).objs.size)))
        { s0 with heap := (s0.heap.push { cls := .type "tuple_iterator", data := .fields #[.ref ta, .int 0 0] }).push { cls := .type "enumerate", data := .fields #[.none, .bool false, .ref s0.heap.objs.size, rawInt 0, .none, .none] } }) :=
  .of_wp fun P0 w0 A0 R0 s0 hh => by
    obtain ⟨hp, g0, d0, tk0, os0⟩ := s0
    obtain ⟨h1, h2⟩ := hh
    have hsub := sub_enumerate
    have itr : ∀ {A' : Around} {E : Value → Shared → Prop} {Q : Value → Shared → Prop}, Q (.ref hp.objs.size) ⟨hp.push { cls := .type "tuple_iterator", data := .fields #[.ref ta, .int 0 0] }, g0, d0, tk0, os0⟩ → wpAny (model P0 w0) A' (pyIter (.ref ta)) Q E ⟨hp, g0, d0, tk0, os0⟩ := fun z => wpAny_pyIter_tuple h1 z
    wp_walk using itr
    refine wpAny_stack_any fun st0 => wpAny_pure ?_
    split
    · rename_i cc _ _ _ _ _
      cases (cc == Value.type "enumerate")
      · wp_walk using itr
        exact ⟨_, rfl, h2⟩
      · wp_walk using itr
        exact ⟨_, rfl, h2⟩
    · wp_walk using itr
      exact ⟨_, rfl, h2⟩
section
variable {P0 : Program} {w0 : World} {A0 : Around} {E0' : Value → Shared → Prop} {s0 : Shared}
theorem call_enumT {ta : Addr} {us : Array Value} {Q : Value → Shared → Prop} (hT : s0.heap.IsTuple ta us)
    (k : ∀ hp, IsEnum hp (s0.heap.objs.size + 1) s0.heap.objs.size 0 .none → hp.IsTupleIter s0.heap.objs.size ta 0 → (∀ b o, s0.heap.get? b = some o → hp.get? b = some o) → Q (.ref (s0.heap.objs.size + 1)) { s0 with heap := hp }) :
    wpAny (model P0 w0) A0 (call (.type "enumerate") [.ref ta]) Q E0' s0 := by
  refine callType_new F.called_enumerate (by decide) (F.typeCall_enumerate_1 _) (F.newCall_enumerate_1 _) (fun z => F.args_object_init_2 z _) F.entry_enumerate_new (meets_enumT ta us) ⟨hT, ?_⟩
  obtain ⟨ot, eot⟩ : ∃ ot : Obj, ot = { cls := .type "tuple_iterator", data := .fields #[.ref ta, .int 0 0] } := ⟨_, rfl⟩
  rw [← eot]
  have fr : ot.isFreed = false := by rw [eot]; rfl
  have sz : (s0.heap.push ot).objs.size = s0.heap.objs.size + 1 := Heap.size_push ..
  show _ ∧ _
  rw [sz]
  have ie : IsEnum ((s0.heap.push ot).push { cls := .type "enumerate", data := .fields #[.none, .bool false, .ref s0.heap.objs.size, rawInt 0, .none, .none] }) (s0.heap.objs.size + 1) s0.heap.objs.size 0 .none := by
    have z := Heap.get?_push_size (s0.heap.push ot) (o := { cls := .type "enumerate", data := .fields #[.none, .bool false, .ref s0.heap.objs.size, rawInt 0, .none, .none] }) rfl
    rw [sz] at z
    exact z
  exact ⟨⟨_, ie, rfl⟩, k _ ie ⟨ot, Heap.get?_push_of_some _ (Heap.get?_push_size _ fr), by rw [eot], by rw [eot]; rfl⟩ fun b o z => Heap.get?_push_of_some _ (Heap.get?_push_of_some _ z)⟩
end
theorem turn_enumT {P0 : Program} {w0 : World} {K : PySem.W.Frag} {elts : List Expr} {kk : Nat} {tp : Pos} (a en it : Addr) :
    Turn P0 w0 K (.Tuple elts kk tp) (Itp K a) [en, it] en (fun i hp => (∃ old, IsEnum hp en it ((i : Nat) : Int) old) ∧ hp.IsTupleIter it a i ∧ en ≠ it ∧ a ≠ it ∧ a ≠ en) where
  mem := List.mem_cons_self ..
  obj := fun i hp st b hb => by
    obtain ⟨⟨old, h1⟩, ⟨o, h2, h3, h4⟩, _⟩ := st
    rcases List.mem_cons.mp hb with z | z
    · subst z
      exact ⟨_, h1, fun v q => nomatch q⟩
    · rw [List.mem_singleton] at z
      subst z
      exact ⟨o, h2, fun v q => by rw [h4] at q; cases q⟩
  keep := fun i hp hp' st k => by
    obtain ⟨⟨old, h1⟩, h2, h3⟩ := st
    exact ⟨⟨old, k en (by simp) _ h1⟩, h2.at (fun o q => k it (by simp) o q), h3⟩
  item := by
    intro X e1 e2 e3 hc i pins s σ H E I hf st hgo
    subst e1 e2 e3
    obtain ⟨⟨old, h1⟩, h2, ne, na, nb⟩ := st
    obtain ⟨xs, x, hq, hx⟩ := hgo
    obtain ⟨its, rv, pt, hz⟩ := I.tuple hq
    obtain ⟨u, hu, ru⟩ := rv.get hx
    have len : en < s.heap.objs.size := Heap.lt_size h1
    have lit : it < s.heap.objs.size := by
      obtain ⟨_, z, _⟩ := h2
      exact Heap.lt_size z
    have tp : s.heap.IsTuple a its.toArray := pt
    have hi : i < its.toArray.size := by
      have := (List.getElem?_eq_some_iff.mp hu).1
      simpa using this
    have D := Draws.tuple (prog := X.prog) (w := X.w) (A := X.A.in1) (show X.A.in1.handled = none from I.ok.hd hc) it a na its.toArray
    refine wpAny_pyNext_enum_itemD D h1 ⟨h2, tp⟩ hi ne (by simp [ne, Ne.symm nb]) fun y hp tk hy ho hst hT hsz hk => ?_
    have ey : y = u := by
      have hu' : its.toArray[i]? = some u := by simpa using hu
      rw [hu'] at hy
      exact (Option.some.inj hy).symm
    subst ey
    refine ⟨_, rfl, wpAny_letOwnedTupleGo_enum (s := { s with heap := hp, toks := tk + 1 }) ho fun hp2 he2 sb => ?_⟩
    have hT2 : hp2.get? s.heap.objs.size = some { cls := .type "tuple", data := .seq #[.int i tk, y] } := (sb.2 _ (Nat.ne_of_gt len)).trans hT
    have new : ObjOk X.prog X.w (upd H s.heap.objs.size (.tup [.int (i : Nat), x])) hp2 s.heap.objs.size (.tup [.int (i : Nat), x]) := by
      refine ⟨by show 2 ≤ sizeLine; decide, [.int i tk, y], .cons ⟨_, rfl⟩ (.cons ru .nil), ?_⟩
      exact ⟨_, hT2, rfl, _, rfl⟩
    have I1 : Inv X pins σ (upd H s.heap.objs.size (.tup [.int (i : Nat), x])) { s with heap := hp2, toks := tk + 1 } :=
      I.turnedNew (ch := [en, it]) (fun b ob hb z => (sb.2 b (fun q => hb (by rw [q]; simp))).trans (hk b ob (fun q => hb (by rw [q]; simp)) (fun q => hb (by rw [q]; simp)) z)) hf (Nat.le_refl _) new
    refine ⟨.ref s.heap.objs.size, _, I1, rfl, ⟨_, x, rfl, I.hok.fresh (Nat.le_refl _), rfl, fun ys hy => ?_⟩, ⟨⟨y, ?_⟩, hst.1.at (fun o z => (sb.2 it (Ne.symm ne)).trans z), ne, na, nb⟩, fun b hb => ?_⟩
    · rw [I.tuple_inj hy hq]
      exact hx
    · rw [show ((i + 1 : Nat) : Int) = (i : Int) + 1 by omega]
      exact he2
    · have lb : b < s.heap.objs.size := by
        rcases List.mem_cons.mp hb with z | z
        · rw [z]; exact len
        · rw [List.mem_singleton.mp z]; exact lit
      rw [upd_ne (Nat.ne_of_lt lb)]
      exact (hf b hb).1
  done := by
    intro X e1 e2 e3 hc i pins s σ H E I hf st hgo
    subst e1 e2 e3
    obtain ⟨⟨old, h1⟩, h2, ne, na, nb⟩ := st
    obtain ⟨xs, hq, hx⟩ := hgo
    obtain ⟨its, rv, pt, hz⟩ := I.tuple hq
    obtain ⟨f0, f1, f2, f3, f4, f5⟩ := hf it (by simp)
    have tp : s.heap.IsTuple a its.toArray := pt
    have hl := rv.length
    have hno : its.toArray[i]? = none := by simp; omega
    have D : Draws X.prog X.w X.A.in1 it [it, a] i (fun _ _ => True) (fun j hp => hp.IsTupleIter it a j ∧ hp.IsTuple a its.toArray ∧ j = i) :=
      { live := fun _ _ q => by
          obtain ⟨⟨o, ho, _⟩, _⟩ := q
          exact ⟨o, ho⟩
        frame := fun _ _ _ q k => ⟨q.1.at (fun o z => k it (by simp) o z), q.2.1.at (fun o z => k a (by simp) o z), q.2.2⟩
        item := fun j s1 Q1 E1 hj q _ => absurd q.2.2 (Nat.ne_of_lt hj)
        done := fun s1 Q1 E1 q kE => wpAny_nextOf_tuple_end (show X.A.in1.handled = none from I.ok.hd hc) q.1 q.2.1 hno kE }
    exact wpAny_pyNext_enum_endD D h1 ⟨h2, tp, rfl⟩ fun hp eb => ⟨rfl, I.turned (t' := s.toks) (fun b o hb z => eb b o hb z) f0 f1 f3 f4 f5⟩
  self := fun A i s Q E st h => by
    obtain ⟨⟨_, h1⟩, _⟩ := st
    exact wpAny_pyIter_enum h1 h
section
variable {X : Cx} {K : PySem.W.Frag} {W : WX} {e : Expr} {fa : Ev T} {elts : List Expr} {kk : Nat} {tp p pos : Pos}
def iEn2 (K : PySem.W.Frag) (ta : TA) : TI := fun σ H R => ta σ H fun vs H1 => ∃ a xs, vs = [.ref a] ∧ ((SqL K H1 a xs ∧ R (Ite K a) H1) ∨ (SqT K H1 a xs ∧ R (Itp K a) H1))
theorem pi_en2 {ta : TA} (hg : Gl X "enumerate") (hm : X.mg "enumerate" = none) (ha : PA X [e] ta) (hs : starEach [e] X.env = [(false, eval e X.env)]) : PI X (.Tuple elts kk tp) (.Call (.Name "enumerate" p) [e] [] pos) (iEn2 X.K ta) := by
  refine ⟨fun pins s σ H R I h => ?_⟩
  refine Call_ (ld_blt I hg hm boot_enumerate (PyProof.Rows.callWith_type1 (thn (ha.run pos pins s σ H _ I h) fun us s1 q => ?_) hs rfl))
  obtain ⟨vs, H1, I1, r1, a, xs, rfl, q1⟩ := q
  cases r1 with
  | cons r rr =>
    cases rr
    cases r
    have fp : ∀ b ∈ [s1.heap.objs.size + 1, s1.heap.objs.size], FpOk X pins H1 b := fun b hb => by
      have hle : s1.heap.objs.size ≤ b := by
        simp only [List.mem_cons, List.not_mem_nil, or_false] at hb
        omega
      exact I1.fpOk hle (I1.hok.fresh hle)
    rcases q1 with ⟨hq, q⟩ | ⟨hq, q⟩
    · obtain ⟨its, rv, pl, hz⟩ := I1.list hq
      refine call_enumerate_list pl.isList fun hp h1 h2 h3 h4 => wpAny_pyIter_enum h1 ?_
      have I2 : Inv X pins σ H1 { s1 with heap := hp } := I1.kept (t' := s1.toks) h4
      exact ⟨_, [s1.heap.objs.size + 1, s1.heap.objs.size], _, _, H1, rfl, I2, turn_enum a (s1.heap.objs.size + 1) s1.heap.objs.size, ⟨⟨.none, h1⟩, h2, Nat.succ_ne_self _⟩, fp, q⟩
    · obtain ⟨its, rv, pt, hz⟩ := I1.tuple hq
      have tpl : s1.heap.IsTuple a its.toArray := pt
      have la : a < s1.heap.objs.size := by
        obtain ⟨o, ho, _⟩ := tpl
        exact Heap.lt_size ho
      refine call_enumT tpl fun hp h1 h2 h4 => wpAny_pyIter_enum h1 ?_
      have I2 : Inv X pins σ H1 { s1 with heap := hp } := I1.kept (t' := s1.toks) h4
      exact ⟨_, [s1.heap.objs.size + 1, s1.heap.objs.size], _, _, H1, rfl, I2, turn_enumT a (s1.heap.objs.size + 1) s1.heap.objs.size, ⟨⟨.none, h1⟩, h2, Nat.succ_ne_self _, Nat.ne_of_lt la, Nat.ne_of_lt (Nat.lt_succ_of_lt la)⟩, fp, q⟩

def mEnum (fa : Ev T) : Ev Src := fa.bind fun x _ _ S => match seqT x with
  | some l => .ok (.fix (enT 0 l)) S
  | none => match x with
    | .ref n => match S[n]? with
      | some (.lst _) => .ok (.en n) S
      | _ => .st
    | _ => .st
theorem i_enum (hm : X.mg "enumerate" = none) (ha : PE X e (tX K W fa)) (hg : Gl X "enumerate" := by rfl) (hs : starEach [e] X.env = [(false, eval e X.env)] := by rfl) (hs2 : starEach [e] X.env = (false, eval e X.env) :: starEach [] X.env := by rfl) (hK : X.K = K := by rfl) : PI X (.Tuple elts kk tp) (.Call (.Name "enumerate" p) [e] [] pos) (tXI K W (mEnum fa)) := by
  subst hK
  refine PI.imp (pi_en2 hg hm (pa_cons ha pa_nil hs2) hs) fun σ H R h => ?_
  obtain ⟨cf, bs, m, S, ρ, F, h⟩ := h
  refine ⟨cf, bs, m, S, ρ, F, RsOk.bind F h fun x vx m1 H1 S1 F1 k1 R1 h1 => ?_⟩
  have pair : ∀ (C : ASet) (H2 H3 : Hp) (y : V) (i : Nat) (u : T) (q : Addr) (z : V), Rep X.K C H2 z u → y = .ref q → H2 q = none → H3 = upd H2 q (.tup [.int (i : Nat), z]) → Same H2 H3 ∧ Rep X.K C H3 y (.tup [.int ((0 + i : Nat) : Int), u]) := by
    intro C H2 H3 y i u q z rz e1 e2 e3
    subst e1 e3
    have s := same_new (o := .tup [.int (i : Nat), z]) e2
    rw [Nat.zero_add]
    exact ⟨s, .tup upd_same (.cons (.int _) (.cons (rz.same s) .nil))⟩
  unfold RpT at R1
  have tups : ∀ {a : Addr} {l : List T}, (∀ bs' m2 S2 H2, Lk (mset bs m1) H1 (mset bs' m2) H2 → Cs X.K bs' m2 S2 H2 → ∃ xs, SqT X.K H2 a xs ∧ Reps X.K (mset bs' m2) H2 xs l) → RpI X.K bs m1 H1 (Itp X.K a) (.fix (enT 0 l)) := fun {a l} hq bs' m2 S2 H2 L cs i => by
    obtain ⟨xs, hh2, rs2⟩ := hq bs' m2 S2 H2 L cs
    refine ⟨fun t ht => ?_, fun hi => ?_⟩
    · obtain ⟨u, hu, rfl⟩ := enT_get (Option.some.inj ht)
      obtain ⟨z, hz, rz⟩ := rs2.get hu
      refine ⟨⟨_, z, hh2, hz⟩, fun y H3 q => ?_⟩
      obtain ⟨q, z', e1, e2, e3, e4⟩ := q
      have := e4 _ hh2
      rw [hz] at this
      cases this
      exact pair _ H2 H3 y i u q z rz e1 e2 e3
    · have hi := List.getElem?_eq_none_iff.mp (Option.some.inj hi)
      exact ⟨_, hh2, by rw [enT_length] at hi; rw [rs2.length]; exact hi⟩
  cases R1 with
  | lst na hh rs =>
    have rl : Rep X.K (mset bs m1) H1 (.ref _) (.lst _) := .lst na hh rs
    refine ⟨_, _, rfl, .inl ⟨.inl (.inl hh), h1 _ m1 H1 F1.cs Kp.refl fun bs' m2 S2 H2 L cs i => ?_⟩⟩
    have r2 := rl.lk L
    cases r2 with
    | lst na2 hh2 rs2 =>
      refine ⟨fun t ht => ?_, fun hi => ?_⟩
      · obtain ⟨u, hu, rfl⟩ := enT_get (Option.some.inj ht)
        obtain ⟨z, hz, rz⟩ := rs2.get hu
        refine ⟨⟨_, z, .inl (.inl hh2), hz⟩, fun y H3 q => ?_⟩
        obtain ⟨q, z', e1, e2, e3, e4⟩ := q
        have := e4 _ (.inl (.inl hh2))
        rw [hz] at this
        cases this
        exact pair _ H2 H3 y i u q z rz e1 e2 e3
      · have hi := List.getElem?_eq_none_iff.mp (Option.some.inj hi)
        exact ⟨_, .inl (.inl hh2), by rw [enT_length] at hi; rw [rs2.length]; exact hi⟩
  | tup hh rs =>
    refine ⟨_, _, rfl, .inr ⟨.inl (.inl hh), h1 _ m1 H1 F1.cs Kp.refl (tups fun bs' m2 S2 H2 L cs => ?_)⟩⟩
    exact ⟨_, .inl (.inl (L.tup _ _ hh)), rs.lk L⟩
  | wt hh rs =>
    refine ⟨_, _, rfl, .inr ⟨hh _, h1 _ m1 H1 F1.cs Kp.refl (tups fun bs' m2 S2 H2 L cs => ?_)⟩⟩
    exact ⟨_, hh _, rs.lk L⟩
  | @scr a ns hh =>
    refine ⟨_, _, rfl, .inl ⟨hh.sq, h1 _ m1 H1 F1.cs Kp.refl fun bs' m2 S2 H2 L cs i => ?_⟩⟩
    have hh2 := (scr_lk L hh).sq
    have rs2 : Reps X.K (mset bs' m2) H2 (ns.map V.int) (ns.map T.int) := Reps.ints ns
    refine ⟨fun t ht => ?_, fun hi => ?_⟩
    · obtain ⟨u, hu, rfl⟩ := enT_get (Option.some.inj ht)
      obtain ⟨z, hz, rz⟩ := rs2.get hu
      refine ⟨⟨_, z, hh2, hz⟩, fun y H3 q => ?_⟩
      obtain ⟨q, z', e1, e2, e3, e4⟩ := q
      have := e4 _ hh2
      rw [hz] at this
      cases this
      exact pair _ H2 H3 y i u q z rz e1 e2 e3
    · have hi := List.getElem?_eq_none_iff.mp (Option.some.inj hi)
      exact ⟨_, hh2, by rw [enT_length] at hi; rw [rs2.length]; exact hi⟩
  | @ref a n hh =>
    have rr : Rep X.K (mset bs m1) H1 (.ref a) (.ref n) := .ref hh
    have hm : m1[n]? = some a := hh
    dsimp only [seqT] at h1
    cases es : S1[n]? with
    | none => rw [es] at h1; exact h1.elim
    | some cc =>
      rw [es] at h1
      have cl := F1.cs.cell n cc a es hm
      cases cl with
      | lst h r =>
        refine ⟨_, _, rfl, .inl ⟨.inl (.inl h), h1 _ m1 H1 F1.cs Kp.refl fun bs' m2 S2 H2 L cs i => ?_⟩⟩
        have r2 := rr.lk L
        cases r2 with
        | ref h =>
          have h : m2[n]? = some a := h
          have key : ∀ o, srcAt (.en n) S2 i = some o → ∃ xs l, H2 a = some (.lst xs) ∧ Reps X.K (mset bs' m2) H2 xs l ∧ o = l[i]?.map fun x => T.tup [.int (i : Nat), x] := fun o e => by
            have e : (match S2[n]? with | some (.lst l) => some (l[i]?.map fun x => T.tup [.int (i : Nat), x]) | _ => none) = some o := e
            cases es : S2[n]? with
            | none => rw [es] at e; cases e
            | some cc =>
              rw [es] at e
              have := cs.cell n cc a es h
              cases this with
              | lst hh rs => exact ⟨_, _, hh, rs, (Option.some.inj e).symm⟩
              | _ => cases e
          refine ⟨fun t ht => ?_, fun hi => ?_⟩
          · obtain ⟨xs, l, hh, rs, e⟩ := key _ ht
            obtain ⟨u, hu, e2⟩ := Option.map_eq_some_iff.mp e.symm
            subst e2
            obtain ⟨z, hz, rz⟩ := rs.get hu
            refine ⟨⟨_, z, .inl (.inl hh), hz⟩, fun y H3 q => ?_⟩
            obtain ⟨q, z', e1, e2, e3, e4⟩ := q
            have := e4 _ (.inl (.inl hh))
            rw [hz] at this
            cases this
            have p := pair _ H2 H3 y i u q z rz e1 e2 e3
            rw [Nat.zero_add] at p
            exact p
          · obtain ⟨xs, l, hh, rs, e⟩ := key _ hi
            have hi := List.getElem?_eq_none_iff.mp (Option.map_eq_none_iff.mp e.symm)
            exact ⟨_, .inl (.inl hh), by rw [rs.length]; exact hi⟩
      | _ => exact h1.elim
  | _ => exact h1.elim
end
/-! ### dict comprehensions over known things -/
section
variable {X : Cx} {K : PySem.W.Frag} {W : WX} {fi : Ev Src} {g : Tg} {tt : Ev Bool} {te tu : Ev T} {vs : List Nat}
end
section
variable {X : Cx} {K : PySem.W.Frag} {W : WX} {e : Expr} {fa : Ev T} {pos : Pos}
/-- len of a dict -/
def bLenD : List T → Option T
  | [.dK ks _] => some (.int ks.length)
  | _ => none
def rLenR : List V → Hp → VK → Prop := fun xs H Q => ∃ (a : Addr) (kvs : List (Key × V)), xs = [V.ref a] ∧ Rd H a (.dK kvs) ∧ Q (.int kvs.length) H
theorem call_lenR : CallR X (.builtin "len") rLenR := by
  intro pins s σ H xs us Q I r h
  obtain ⟨a, kvs, rfl, hr, q⟩ := h
  cases r with
  | cons ru rr =>
    cases rr
    cases ru
    exact d_len I hr fun t s' I' => ⟨.int kvs.length, H, I', ⟨t, rfl⟩, q⟩
theorem bLenD_ok : CallT K rLenR bLenD := fun A H xs ts tz Q d rs e k => by
  unfold bLenD at e
  split at e
  · cases e
    cases rs with
    | cons r rs =>
      cases rs
      cases r with
      | dK na h r =>
        refine ⟨_, _, rfl, h, ?_⟩
        rw [List.length_map] at k
        exact k _ _ (L2.Same.refl _) (.int _)
  · cases e
theorem CallT.or {r r' : List V → Hp → VK → Prop} {f g : List T → Option T} (h : CallT K r f) (h' : CallT K r' g) : CallT K (fun x H Q => r x H Q ∨ r' x H Q) (fun a => (f a).or (g a)) := fun A H xs ts tz Q d rs e k => by
  dsimp only at e
  cases e1 : f ts with
  | some u =>
    rw [e1] at e
    cases e
    exact .inl (h A H xs ts _ Q d rs e1 k)
  | none =>
    rw [e1] at e
    exact .inr (h' A H xs ts tz Q d rs e k)
def bLenA : List T → Option T := fun ts => (bLen ts).or (bLenD ts)
theorem q_lenA (hK : X.K = K := by rfl) : CallR X (.builtin "len") (fun xs H Q => rLn K xs H Q ∨ rLenR xs H Q) := CallR.or (k_len K hK) call_lenR
theorem bLenA_ok : CallT K (fun xs H Q => rLn K xs H Q ∨ rLenR xs H Q) bLenA := CallT.or bLen_ok bLenD_ok
end
end Tm

/-! N12: names of the top, bools that are, properties, the law's start. -/
namespace Tm
open PySem PySem.Spec PyProof.Rows L2
theorem hu1 {a c : Nat} (h : a + 64 < c) : a + 1 < c := by omega
section
variable {X : Cx} {K : PySem.W.Frag} {W : WX} {e o : Expr} {fa fb : Ev T} {pos apos np : Pos}
end
section
variable {K : PySem.W.Frag}
def spLaw (K : PySem.W.Frag) : Sp := fun vs H Q _ => ∃ (a : Addr) (ns : List Int), vs = [.ref a] ∧ SqL K H a (ns.map V.int) ∧ ns.length ≤ 63 ∧ ∀ H', Q (.bl true) H'
theorem law_at {N : List Str} {H : Hp} {a : Addr} {ns : List Int} (h : SqL K H a (ns.map V.int)) (hN : 1 ≤ N.length) : FAt K ⟨0, 0⟩ ⟨[], []⟩ [] [] (L2.start N [.ref a]) H (start0 N.length [.scr ns]) := by
  refine start_at cs_bare (fun _ h => nomatch h) (.cons (.scr ?_) .nil) hN
  rcases h with (h | ⟨o, h⟩) | h
  · exact .inl ⟨(fun z => z.elim (fun y => nomatch y) (fun y => nomatch y)), h⟩
  · exact .inr (.inl ⟨o, h⟩)
  · exact .inr (.inr fun H' => .inr h)
theorem law_body {X : Cx} {W : WX} {N : List Str} {body : List Stmt} {g : Sv} {vs : List V} {H : Hp} {Q : VK} {E : XK} (hp : PSs X body (tXS K W g)) (hN : 1 ≤ N.length) (hb : ∀ ns : List Int, ns.length ≤ 63 → ∃ S', g ⟨0, 0⟩ (start0 N.length [.scr ns]) [] = .rt (.bl true) S') (h : spLaw K vs H Q E) :
    ∃ t, PSs X body t ∧ t { nx := fun _ H' => Q .non H', rt := Q } (L2.start N vs) H := by
  obtain ⟨a, ns, rfl, hS, hl, k⟩ := h
  obtain ⟨S', e⟩ := hb ns hl
  refine ⟨_, hp, ⟨0, 0⟩, ⟨[], []⟩, [], [], _, law_at hS hN, ?_⟩
  rw [e]
  intro v m' H' cs k' r
  cases r
  exact k H'
end
end Tm

/-! N13: how mirrors are run by equations. -/
namespace Tm
open PySem PySem.Spec PyProof.Rows L2
def Rs.bd {α β : Type} (r : Rs α) (k : α → St → Rs β) : Rs β := match r with
  | .ok a S => k a S
  | .ex x S => .ex x S
  | .st => .st
def Ou.sq (o : Ou) (k : Ro → St → Ou) : Ou := match o with
  | .nx ρ S => k ρ S
  | o => o
/-- a def's end -/
def endS (S : St) (o : Ou) : Rs T := match o with
  | .nx _ S' => .ok .non (S'.take S.length)
  | .rt t S' => match fz S.length S' t with
    | some r => .ok r (S'.take S.length)
    | none => .st
  | .ex x _ S' => if okR S.length x = true then .ex x (S'.take S.length) else .st
  | _ => .st
def endO (o : Ou) : Rs T := match o with
  | .nx _ S' => .ok .non S'
  | .rt t S' => .ok t S'
  | .ex x _ S' => .ex x S'
  | _ => .st
section
variable {α β : Type} {c : Cf} {ρ : Ro} {S S' : St} {f g : Ev T} {x y : T}
theorem ap_runS {k n : Nat} {g : Sv} {as : List T} (h : as.length = k) : runS k n g c as S = endS S (g ⟨c.fl, S.length⟩ (start0 n as) S) := by unfold runS; rw [if_pos h]; rfl
theorem ap_runP {k n : Nat} {g : Sv} {as : List T} (h : as.length = k) (h0 : okRs 0 as = true) : runP k n g c as S = finP (g ⟨0, 0⟩ (start0 n as) []) S := by unfold runP; rw [if_pos h, if_pos h0]
theorem finP_nx {S0 : St} : finP (.nx ρ S0) S = .ok .non S := rfl
theorem finP_rt {S0 : St} {t : T} (h : okR 0 t = true) : finP (.rt t S0) S = .ok t S := by show (match fz 0 S0 t with | some r => Rs.ok r S | none => .st) = _; rw [fz_id h]
theorem ap_runO {k n : Nat} {g : Sv} {as : List T} (h : as.length = k) : runO k n g c as S = endO (g c (start0 n as) S) := by unfold runO; rw [if_pos h]; rfl
theorem endS_nx : endS S (.nx ρ S') = .ok .non (S'.take S.length) := rfl
theorem endS_rt {t : T} (h : okR S.length t = true) : endS S (.rt t S') = .ok t (S'.take S.length) := by show (match fz S.length S' t with | some r => Rs.ok r (S'.take S.length) | none => .st) = _; rw [fz_id h]
theorem endO_nx : endO (.nx ρ S') = .ok .non S' := rfl
theorem endO_rt {t : T} : endO (.rt t S') = .ok t S' := rfl
theorem ap_bind {f : Ev α} {g : α → Ev β} : Ev.bind f g c ρ S = (f c ρ S).bd fun a S1 => g a c ρ S1 := by unfold Ev.bind Rs.bd; cases f c ρ S <;> rfl
theorem bd_ok {a : α} {k : α → St → Rs β} : Rs.bd (.ok a S) k = k a S := rfl
theorem ouE_ok {a : α} {k : α → St → Ou} : ouE (.ok a S) ρ k = k a S := rfl
theorem sq_nx {k : Ro → St → Ou} : Ou.sq (.nx ρ S) k = k ρ S := rfl
theorem sq_rt {k : Ro → St → Ou} {t : T} : Ou.sq (.rt t S) k = .rt t S := rfl
theorem ap_sSeq {g h : Sv} : sSeq g h c ρ S = Ou.sq (g c ρ S) (h c) := by unfold sSeq Ou.sq; cases g c ρ S <;> rfl
theorem ap_sNext : sNext c ρ S = .nx ρ S := rfl
theorem ap_gNm {i : Nat} {t : T} : gNm i t c ρ S = if i < ρ.length then some (ρ.set i (some t), S) else none := rfl
theorem ap_mC {t : T} : mC t c ρ S = .ok t S := rfl
theorem orV_some {z : T} {o' : Option T} : orV (some z) o' S = .ok z S := rfl
theorem ap_mNil : mNil c ρ S = .ok [] S := rfl
theorem ap_mCons {r : Ev (List T)} : mCons f r c ρ S = (f c ρ S).bd fun x S1 => (r c ρ S1).bd fun xs S2 => .ok (x :: xs) S2 := by unfold mCons; simp only [ap_bind]
theorem ap_mTst : mTst f c ρ S = (f c ρ S).bd fun x S1 => match x with | .bl b => .ok b S1 | _ => .st := by
  unfold mTst
  rw [ap_bind]
  congr 1
  funext x S1
  cases x <;> rfl
theorem ap_mNotT {t : Ev Bool} : mNotT t c ρ S = (t c ρ S).bd fun b S1 => .ok (!b) S1 := by unfold mNotT; simp only [ap_bind]
theorem ap_mAndT {t u : Ev Bool} : mAndT t u c ρ S = (t c ρ S).bd fun b S1 => if b = true then u c ρ S1 else .ok false S1 := by
  unfold mAndT
  rw [ap_bind]
  congr 1
  funext b S1
  cases b <;> rfl
theorem ap_mOrT {t u : Ev Bool} : mOrT t u c ρ S = (t c ρ S).bd fun b S1 => if b = true then .ok true S1 else u c ρ S1 := by
  unfold mOrT
  rw [ap_bind]
  congr 1
  funext b S1
  cases b <;> rfl
theorem ap_mIf {t : Ev Bool} : mIf t f g c ρ S = (t c ρ S).bd fun b S1 => if b = true then f c ρ S1 else g c ρ S1 := by
  unfold mIf
  rw [ap_bind]
  congr 1
  funext b S1
  cases b <;> rfl
theorem ap_mTup {r : Ev (List T)} : mTup r c ρ S = (r c ρ S).bd fun xs S1 => if xs.length ≤ 1000000 then .ok (.tup xs) S1 else .st := by unfold mTup; simp only [ap_bind]
theorem ap_mLst {r : Ev (List T)} : mLst r c ρ S = (r c ρ S).bd fun xs S1 => if xs.length ≤ 1000000 then .ok (.lst xs) S1 else .st := by unfold mLst; simp only [ap_bind]
theorem ap_mLstC {r : Ev (List T)} : mLstC r c ρ S = (r c ρ S).bd fun xs S1 => if xs.length ≤ 1000000 then .ok (.ref S1.length) (S1 ++ [.lst xs]) else .st := by unfold mLstC; simp only [ap_bind]
theorem ap_mCall {F : Fn} {ds : List T} {r : Ev (List T)} : mCall F ds r c ρ S = (r c ρ S).bd fun ts S1 => F c (ts ++ ds) S1 := by unfold mCall; simp only [ap_bind]
theorem ap_callF {F : Fn} {ds : List T} : callF F ds c ρ S = F c ds S := rfl
/-- x[y], seen -/
def ixR (x y : T) (S : St) : Rs T := match dictGet (vw S x) y with
  | some (some z) => .ok z S
  | _ => match oIx (vw S x) y with
    | some z => .ok z S
    | none => .st
theorem ap_mIxA : mIxA f g c ρ S = (f c ρ S).bd fun x S1 => (g c ρ S1).bd fun y S2 => ixR x y S2 := by unfold mIxA; simp only [ap_bind] <;> rfl
theorem ixR_of {z : T} (h : dictGet (vw S x) y = none) (h2 : oIx (vw S x) y = some z) : ixR x y S = .ok z S := by unfold ixR; rw [h, h2]
theorem ap_mListC : mListC f c ρ S = (f c ρ S).bd fun x S1 => match seqT (vw S1 x) with | some l => .ok (.ref S1.length) (S1 ++ [.lst l]) | none => .st := by unfold mListC; simp only [ap_bind] <;> rfl
theorem ap_sPar2 {i j : Nat} {r : Ev (List T)} : sPar2 i j r c ρ S = ouE (r c ρ S) ρ fun l S => match l with | [a, b] => .nx ((ρ.set i (some a)).set j (some b)) S | _ => .st := rfl
theorem ap_mL {o : List T → Option (List T)} {r : Ev (List T)} : mL o r c ρ S = (r c ρ S).bd fun xs S1 => match o xs with | some l => .ok (.fix l) S1 | none => .st := by unfold mL; simp only [ap_bind] <;> rfl
theorem ap_mSeqOf : mSeqOf f c ρ S = (f c ρ S).bd fun x S1 => match x with | .lst l => .ok (.fix l) S1 | .tup l => .ok (.fix l) S1 | .wt l => .ok (.fix l) S1 | .scr ns => .ok (.fix (ns.map T.int)) S1 | .ref n => (match S1[n]? with | some (.lst _) => .ok (.cell n) S1 | _ => .st) | _ => .st := by unfold mSeqOf; simp only [ap_bind] <;> rfl
/-- a list's method at the cell n, its arguments known -/
def lmR (h : List T → List T → Option (T × List T)) (c : Cf) (n : Nat) (ts : List T) (S : St) : Rs T := match S[n]? with
  | some (.lst l) => match h l ts with
    | some (res, l') => if wrOk c n (.lst ts) = true then .ok res (S.set n (.lst l')) else .st
    | none => .st
  | _ => .st
theorem ap_mLm {h : List T → List T → Option (T × List T)} {r : Ev (List T)} : mLm h f r c ρ S = (f c ρ S).bd fun x S1 => match x with | .ref n => (match S1[n]? with | some (.lst _) => (r c ρ S1).bd fun ts S2 => lmR h c n ts S2 | _ => .st) | _ => .st := by
  unfold mLm
  rw [ap_bind]
  congr 1
end
theorem forL_inv {g : Tg} {b : Sv} {c : Cf} (I : Ro → St → Prop) : ∀ (l : List T) {ρ : Ro} {S : St}, I ρ S → (∀ x ∈ l, ∀ ρ S, I ρ S → ∃ ρ1 S1 ρ2 S2, g x c ρ S = some (ρ1, S1) ∧ b c ρ1 S1 = .nx ρ2 S2 ∧ I ρ2 S2) → ∃ ρ' S', forL g b l c ρ S = .nx ρ' S' ∧ I ρ' S'
  | [], ρ, S, h, _ => ⟨ρ, S, rfl, h⟩
  | x :: l, ρ, S, h, k => by
    obtain ⟨ρ1, S1, ρ2, S2, e1, e2, h2⟩ := k x (List.mem_cons_self ..) ρ S h
    obtain ⟨ρ', S', e3, h3⟩ := forL_inv I l h2 fun y hy => k y (List.mem_cons_of_mem _ hy)
    refine ⟨ρ', S', ?_, h3⟩
    unfold forL
    rw [e1]
    dsimp only
    rw [e2]
    exact e3
/-! values of operations -/
theorem v_add (i j : Int) : oAdd (.int i) (.int j) = some (.int (i + j)) := rfl
theorem v_sub (i j : Int) : oSub (.int i) (.int j) = some (.int (i - j)) := rfl
theorem v_gt (i j : Int) : oGt (.int i) (.int j) = some (.bl (decide (j < i))) := rfl
theorem v_lt (i j : Int) : oLt (.int i) (.int j) = some (.bl (decide (i < j))) := rfl
theorem v_ge (i j : Int) : oGe (.int i) (.int j) = some (.bl (decide (j ≤ i))) := rfl
theorem v_le (i j : Int) : oLe (.int i) (.int j) = some (.bl (decide (i ≤ j))) := rfl
theorem v_int (i : Int) : bInt [.int i] = some (.int i) := rfl
theorem v_mod {i j : Int} (h : 0 < j) : oMod (.int i) (.int j) = some (.int (i % j)) := by
  show (if decide (0 < j) = true then some (T.int (i % j)) else none) = _
  rw [decide_eq_true h]
  rfl
theorem v_fdiv {i j : Int} (h : 0 < j) (h2 : j < 2 ^ 200) : oFdiv (.int i) (.int j) = some (.int (i / j)) := by
  show (if (decide (0 < j) && decide (j < 2 ^ 200)) = true then some (T.int (i / j)) else none) = _
  rw [decide_eq_true h, decide_eq_true h2]
  rfl
theorem v_mulL {i j : Int} (h : -(2 ^ 64) < i) (h2 : i < 2 ^ 64) : oMul (.int i) (.int j) = some (.int (i * j)) := by
  show (if cMul i j = true then some (T.int (i * j)) else none) = _
  unfold cMul
  rw [decide_eq_true ⟨h, h2⟩]
  rfl
theorem v_mulR {i j : Int} (h : -(2 ^ 64) < j) (h2 : j < 2 ^ 64) : oMul (.int i) (.int j) = some (.int (i * j)) := by
  show (if cMul i j = true then some (T.int (i * j)) else none) = _
  unfold cMul
  rw [decide_eq_true (p := -(2 ^ 64) < j ∧ j < 2 ^ 64) ⟨h, h2⟩, Bool.or_true]
  rfl
end Tm

/-! N14: how mirrors are run, what comes next by its name. -/
namespace Tm
open PySem PySem.Spec PyProof.Rows L2
section
variable {α β : Type} {c : Cf} {ρ : Ro} {S S' : St} {f g h : Ev T} {x y z : T} {t u : Ev Bool} {r : Ev (List T)}
theorem bd_ext {r : Rs α} {k k' : α → St → Rs β} (h : ∀ x S, k x S = k' x S) : r.bd k = r.bd k' := by rw [show k = k' from funext fun x => funext fun S => h x S]
theorem bd_ex {x : T} {k : α → St → Rs β} : Rs.bd (.ex x S : Rs α) k = .ex x S := rfl
theorem ouE_ex {x : T} {k : α → St → Ou} : ouE (.ex x S : Rs α) ρ k = .ex x ρ S := rfl
theorem sq_ex {k : Ro → St → Ou} {t : T} : Ou.sq (.ex t ρ S) k = .ex t ρ S := rfl
theorem sq_br {k : Ro → St → Ou} : Ou.sq (.br ρ S) k = .br ρ S := rfl
theorem sq_ct {k : Ro → St → Ou} : Ou.sq (.ct ρ S) k = .ct ρ S := rfl
def optR (o : Option T) (S : St) : Rs T := match o with
  | some z => .ok z S
  | none => .st
theorem optR_some : optR (some z) S = .ok z S := rfl
/-! operations -/
def kOp2 (o : T → T → Option T) (x y : T) (S : St) : Rs T := orV (o x y) (o (vw S x) (vw S y)) S
def kOp (o : T → T → Option T) (g : Ev T) (c : Cf) (ρ : Ro) (x : T) (S : St) : Rs T := (g c ρ S).bd (kOp2 o x)
theorem e_op {o : T → T → Option T} : mOp o f g c ρ S = (f c ρ S).bd (kOp o g c ρ) := by unfold mOp; simp only [ap_bind] <;> rfl
theorem e_op1 {o : T → T → Option T} : kOp o g c ρ x S = (g c ρ S).bd (kOp2 o x) := rfl
theorem e_op2 {o : T → T → Option T} : kOp2 o x y S = orV (o x y) (o (vw S x) (vw S y)) S := rfl
def kUn (o : T → Option T) (x : T) (S : St) : Rs T := orV (o x) (o (vw S x)) S
theorem e_un {o : T → Option T} : mUn o f c ρ S = (f c ρ S).bd (kUn o) := by unfold mUn; simp only [ap_bind] <;> rfl
theorem e_un1 {o : T → Option T} : kUn o x S = orV (o x) (o (vw S x)) S := rfl
def kCons2 (x : T) (xs : List T) (S : St) : Rs (List T) := .ok (x :: xs) S
def kCons (r : Ev (List T)) (c : Cf) (ρ : Ro) (x : T) (S : St) : Rs (List T) := (r c ρ S).bd (kCons2 x)
theorem e_cons : mCons f r c ρ S = (f c ρ S).bd (kCons r c ρ) := by unfold mCons; simp only [ap_bind] <;> rfl
theorem e_cons1 : kCons r c ρ x S = (r c ρ S).bd (kCons2 x) := rfl
theorem e_cons2 {xs : List T} : kCons2 x xs S = .ok (x :: xs) S := rfl
def kB (o : List T → Option T) (xs : List T) (S : St) : Rs T := orV (o xs) (o (xs.map (vw S))) S
theorem e_b {o : List T → Option T} : mB o r c ρ S = (r c ρ S).bd (kB o) := by unfold mB; simp only [ap_bind] <;> rfl
theorem e_b1 {o : List T → Option T} {xs : List T} : kB o xs S = orV (o xs) (o (xs.map (vw S))) S := rfl
/-! tests -/
def kTst (x : T) (S : St) : Rs Bool := match x with | .bl b => .ok b S | _ => .st
theorem e_tst : mTst f c ρ S = (f c ρ S).bd kTst := by rw [ap_mTst]; rfl
theorem e_tst1 {b : Bool} : kTst (.bl b) S = .ok b S := rfl
def kNotT (b : Bool) (S : St) : Rs Bool := .ok (!b) S
theorem e_notT : mNotT t c ρ S = (t c ρ S).bd kNotT := by rw [ap_mNotT]; rfl
theorem e_notT1 {b : Bool} : kNotT b S = .ok (!b) S := rfl
def kAndT (u : Ev Bool) (c : Cf) (ρ : Ro) (b : Bool) (S : St) : Rs Bool := if b = true then u c ρ S else .ok false S
theorem e_andT : mAndT t u c ρ S = (t c ρ S).bd (kAndT u c ρ) := by rw [ap_mAndT]; rfl
theorem e_andTt : kAndT u c ρ true S = u c ρ S := rfl
theorem e_andTf : kAndT u c ρ false S = .ok false S := rfl
def kOrT (u : Ev Bool) (c : Cf) (ρ : Ro) (b : Bool) (S : St) : Rs Bool := if b = true then .ok true S else u c ρ S
theorem e_orT : mOrT t u c ρ S = (t c ρ S).bd (kOrT u c ρ) := by rw [ap_mOrT]; rfl
theorem e_orTt : kOrT u c ρ true S = .ok true S := rfl
theorem e_orTf : kOrT u c ρ false S = u c ρ S := rfl
def kIfE (f g : Ev T) (c : Cf) (ρ : Ro) (b : Bool) (S : St) : Rs T := if b = true then f c ρ S else g c ρ S
theorem e_ifE : mIf t f g c ρ S = (t c ρ S).bd (kIfE f g c ρ) := by rw [ap_mIf]; rfl
theorem e_ifEt : kIfE f g c ρ true S = f c ρ S := rfl
theorem e_ifEf : kIfE f g c ρ false S = g c ρ S := rfl
def kAnd (g : Ev T) (c : Cf) (ρ : Ro) (x : T) (S : St) : Rs T := match x with | .bl true => g c ρ S | .bl false => .ok (.bl false) S | _ => .st
theorem e_and : mAnd f g c ρ S = (f c ρ S).bd (kAnd g c ρ) := by
  unfold mAnd
  rw [ap_bind]
  refine bd_ext fun x S1 => ?_
  unfold kAnd
  cases x <;> first | rfl | (rename_i b; cases b <;> rfl)
theorem e_andt : kAnd g c ρ (.bl true) S = g c ρ S := rfl
theorem e_andf : kAnd g c ρ (.bl false) S = .ok (.bl false) S := rfl
def kOr (g : Ev T) (c : Cf) (ρ : Ro) (x : T) (S : St) : Rs T := match x with | .bl true => .ok (.bl true) S | .bl false => g c ρ S | _ => .st
theorem e_or : mOr f g c ρ S = (f c ρ S).bd (kOr g c ρ) := by
  unfold mOr
  rw [ap_bind]
  refine bd_ext fun x S1 => ?_
  unfold kOr
  cases x <;> first | rfl | (rename_i b; cases b <;> rfl)
theorem e_ort : kOr g c ρ (.bl true) S = .ok (.bl true) S := rfl
theorem e_orf : kOr g c ρ (.bl false) S = g c ρ S := rfl
def kNot (x : T) (S : St) : Rs T := match x with | .bl b => .ok (.bl (!b)) S | _ => .st
theorem e_not : mNot f c ρ S = (f c ρ S).bd kNot := by
  unfold mNot
  rw [ap_bind]
  refine bd_ext fun x S1 => ?_
  unfold kNot
  cases x <;> rfl
theorem e_not1 {b : Bool} : kNot (.bl b) S = .ok (.bl (!b)) S := rfl
def kCh3 (o' : T → T → Option T) (y z : T) (S : St) : Rs T := optR (o' y z) S
def chR (o' : T → T → Option T) (o : Option T) (y : T) (h : Ev T) (c : Cf) (ρ : Ro) (S : St) : Rs T := match o with
  | some (.bl true) => (h c ρ S).bd (kCh3 o' y)
  | some (.bl false) => .ok (.bl false) S
  | _ => .st
def kCh2 (o o' : T → T → Option T) (h : Ev T) (c : Cf) (ρ : Ro) (x y : T) (S : St) : Rs T := chR o' (o x y) y h c ρ S
def kCh (o o' : T → T → Option T) (g h : Ev T) (c : Cf) (ρ : Ro) (x : T) (S : St) : Rs T := (g c ρ S).bd (kCh2 o o' h c ρ x)
theorem e_ch {o o' : T → T → Option T} : mChain o o' f g h c ρ S = (f c ρ S).bd (kCh o o' g h c ρ) := by
  unfold mChain
  rw [ap_bind]
  refine bd_ext fun x S1 => ?_
  rw [ap_bind]
  unfold kCh
  refine bd_ext fun y S2 => ?_
  unfold kCh2 chR
  generalize o x y = q
  cases q with
  | none => rfl
  | some q =>
    cases q <;> first | rfl | skip
    rename_i b
    cases b
    · rfl
    · show Ev.bind _ _ c ρ S2 = (h c ρ S2).bd (kCh3 o' y)
      rw [ap_bind]
      refine bd_ext fun z S3 => ?_
      unfold kCh3 optR Ev.lift
      cases o' y z <;> rfl
theorem e_ch1 {o o' : T → T → Option T} : kCh o o' g h c ρ x S = (g c ρ S).bd (kCh2 o o' h c ρ x) := rfl
theorem e_ch2 {o o' : T → T → Option T} : kCh2 o o' h c ρ x y S = chR o' (o x y) y h c ρ S := rfl
theorem e_cht {o' : T → T → Option T} : chR o' (some (.bl true)) y h c ρ S = (h c ρ S).bd (kCh3 o' y) := rfl
theorem e_chf {o' : T → T → Option T} : chR o' (some (.bl false)) y h c ρ S = .ok (.bl false) S := rfl
theorem e_ch3 {o' : T → T → Option T} : kCh3 o' y z S = optR (o' y z) S := rfl
/-! tuples, lists, calls -/
def kTup (xs : List T) (S : St) : Rs T := if xs.length ≤ 1000000 then .ok (.tup xs) S else .st
theorem e_tup : mTup r c ρ S = (r c ρ S).bd kTup := by rw [ap_mTup]; rfl
theorem e_tup1 {xs : List T} (h : xs.length ≤ 1000000) : kTup xs S = .ok (.tup xs) S := if_pos h
def kLst (xs : List T) (S : St) : Rs T := if xs.length ≤ 1000000 then .ok (.lst xs) S else .st
theorem e_lst : mLst r c ρ S = (r c ρ S).bd kLst := by rw [ap_mLst]; rfl
theorem e_lst1 {xs : List T} (h : xs.length ≤ 1000000) : kLst xs S = .ok (.lst xs) S := if_pos h
def kLstC (xs : List T) (S : St) : Rs T := if xs.length ≤ 1000000 then .ok (.ref S.length) (S ++ [.lst xs]) else .st
theorem e_lstC : mLstC r c ρ S = (r c ρ S).bd kLstC := by rw [ap_mLstC]; rfl
theorem e_lstC1 {xs : List T} (h : xs.length ≤ 1000000) : kLstC xs S = .ok (.ref S.length) (S ++ [.lst xs]) := if_pos h
theorem e_dicK : mDicK c ρ S = .ok (.ref S.length) (S ++ [.dK [] []]) := rfl
theorem e_dicT : mDicT c ρ S = .ok (.ref S.length) (S ++ [.dT [] []]) := rfl
def kCall (F : Fn) (ds : List T) (c : Cf) (ts : List T) (S : St) : Rs T := F c (ts ++ ds) S
theorem e_call {F : Fn} {ds : List T} : mCall F ds r c ρ S = (r c ρ S).bd (kCall F ds c) := by rw [ap_mCall]; rfl
theorem e_call1 {F : Fn} {ds ts : List T} : kCall F ds c ts S = F c (ts ++ ds) S := rfl
def kCm (C : Str) (F : Fn) (c : Cf) (ts : List T) (S : St) : Rs T := F c (.cls C :: ts) S
theorem e_cm {C : Str} {F : Fn} : mCm C F r c ρ S = (r c ρ S).bd (kCm C F c) := by unfold mCm; simp only [ap_bind] <;> rfl
theorem e_cm1 {C : Str} {F : Fn} {ts : List T} : kCm C F c ts S = F c (.cls C :: ts) S := rfl
def kIx2 (x y : T) (S : St) : Rs T := ixR x y S
def kIx (g : Ev T) (c : Cf) (ρ : Ro) (x : T) (S : St) : Rs T := (g c ρ S).bd (kIx2 x)
theorem e_ix : mIxA f g c ρ S = (f c ρ S).bd (kIx g c ρ) := by rw [ap_mIxA]; rfl
theorem e_ix1 : kIx g c ρ x S = (g c ρ S).bd (kIx2 x) := rfl
theorem e_ix2 : kIx2 x y S = ixR x y S := rfl
def kFld (Cs : List Str) (n : Str) (x : T) (S : St) : Rs T := optR (fFldC Cs n (vw S x)) S
theorem e_fld {Cs : List Str} {n : Str} : mFld Cs n f c ρ S = (f c ρ S).bd (kFld Cs n) := by unfold mFld; simp only [ap_bind] <;> rfl
theorem e_fld1 {Cs : List Str} {n : Str} : kFld Cs n x S = optR (fFldC Cs n (vw S x)) S := rfl
def kMeth2 (Fm : Fn) (ds : List T) (x : T) (c : Cf) (ts : List T) (S : St) : Rs T := Fm c (x :: (ts ++ ds)) S
def methR (C m : Str) (Fm : Fn) (ds : List T) (fr : Ev (List T)) (c : Cf) (ρ : Ro) (x : T) (S : St) (o : T) : Rs T := match o with
  | .obj C' ns _ => if C' = C ∧ m ∉ ns then (fr c ρ S).bd (kMeth2 Fm ds x c) else .st
  | _ => .st
def kMeth (C m : Str) (Fm : Fn) (ds : List T) (fr : Ev (List T)) (c : Cf) (ρ : Ro) (x : T) (S : St) : Rs T := methR C m Fm ds fr c ρ x S (vw S x)
theorem e_meth {C m : Str} {Fm : Fn} {ds : List T} : mMeth C m Fm ds f r c ρ S = (f c ρ S).bd (kMeth C m Fm ds r c ρ) := by
  unfold mMeth
  rw [ap_bind]
  refine bd_ext fun x S1 => ?_
  unfold kMeth methR
  generalize vw S1 x = o
  cases o <;> rfl
theorem e_meth1 {C m : Str} {Fm : Fn} {ds : List T} : kMeth C m Fm ds r c ρ x S = methR C m Fm ds r c ρ x S (vw S x) := rfl
theorem e_methO {C m : Str} {Fm : Fn} {ds l : List T} {ns : List Str} (h : m ∉ ns) : methR C m Fm ds r c ρ x S (.obj C ns l) = (r c ρ S).bd (kMeth2 Fm ds x c) := if_pos ⟨rfl, h⟩
theorem e_meth2 {Fm : Fn} {ds ts : List T} : kMeth2 Fm ds x c ts S = Fm c (x :: (ts ++ ds)) S := rfl
def mkR (S : St) (r : Rs T) : Rs T := match r with
  | .ok .non S' => match S'[S.length]? with
    | some (.obj C' ns l) => if okRs S.length l = true then .ok (.obj C' ns l) S else .st
    | _ => .st
  | .ex x _ => if okR S.length x = true then .ex x S else .st
  | _ => .st
def kMk (Cn : Str) (Fm : Fn) (ds : List T) (ts : List T) (S : St) : Rs T := mkR S (Fm ⟨S.length, S.length⟩ (.ref S.length :: (ts ++ ds)) (S ++ [.obj Cn [] []]))
theorem e_mk {Cn : Str} {Fm : Fn} {ds : List T} : mMk Cn Fm ds r c ρ S = (r c ρ S).bd (kMk Cn Fm ds) := by unfold mMk; simp only [ap_bind] <;> rfl
theorem e_mk1 {Cn : Str} {Fm : Fn} {ds ts : List T} : kMk Cn Fm ds ts S = mkR S (Fm ⟨S.length, S.length⟩ (.ref S.length :: (ts ++ ds)) (S ++ [.obj Cn [] []])) := rfl
theorem mkR_ok {C' : Str} {ns : List Str} {l : List T} (h : S'[S.length]? = some (.obj C' ns l)) (ok : okRs S.length l = true) : mkR S (.ok .non S') = .ok (.obj C' ns l) S := by
  unfold mkR
  dsimp only
  rw [h]
  dsimp only
  rw [if_pos ok]
theorem e_mkL {i : Nat} {Cn : Str} {Fm : Fn} {ds : List T} (h : ρ[i]? = some (some (.cls Cn))) : mMkL i Cn Fm ds r c ρ S = (r c ρ S).bd (kMk Cn Fm ds) := by
  unfold mMkL
  rw [h]
  dsimp only
  rw [if_pos rfl, e_mk]
def newR (S : St) (r : Rs T) : Rs T := match r with
  | .ok .non S' => .ok (.ref S.length) S'
  | .ex x S' => .ex x S'
  | _ => .st
def kNew (Cn : Str) (Fm : Fn) (ds : List T) (c : Cf) (ts : List T) (S : St) : Rs T := newR S (Fm ⟨c.fl, S.length⟩ (.ref S.length :: (ts ++ ds)) (S ++ [.obj Cn [] []]))
theorem e_new {Cn : Str} {Fm : Fn} {ds : List T} : mNew Cn Fm ds r c ρ S = (r c ρ S).bd (kNew Cn Fm ds c) := by unfold mNew; simp only [ap_bind] <;> rfl
theorem newR_ok : newR S (.ok .non S') = .ok (.ref S.length) S' := rfl
def kTxt2 (o : T → T → Option T) (a : Str) (y : T) (S : St) : Rs T := orV (o (.str a) y) (o (.str a) (vw S y)) S
def kTxt (o : T → T → Option T) (g : Ev T) (c : Cf) (ρ : Ro) (x : T) (S : St) : Rs T := match x with | .str a => (g c ρ S).bd (kTxt2 o a) | _ => .st
theorem e_txt {o : T → T → Option T} : mTxt o f g c ρ S = (f c ρ S).bd (kTxt o g c ρ) := by
  unfold mTxt
  rw [ap_bind]
  refine bd_ext fun x S1 => ?_
  unfold kTxt
  cases x <;> first | rfl | (dsimp only; rw [ap_bind]; rfl)
theorem e_txt1 {o : T → T → Option T} {a : Str} : kTxt o g c ρ (.str a) S = (g c ρ S).bd (kTxt2 o a) := rfl
theorem e_txt2 {o : T → T → Option T} {a : Str} : kTxt2 o a y S = orV (o (.str a) y) (o (.str a) (vw S y)) S := rfl
def kSl3 (x : T) (lo hi : Option Int) (S : St) : Rs T := optR (oSl lo hi (vw S x)) S
def kSl2 (fu : Ev (Option Int)) (c : Cf) (ρ : Ro) (x : T) (lo : Option Int) (S : St) : Rs T := (fu c ρ S).bd (kSl3 x lo)
def kSl (fl fu : Ev (Option Int)) (c : Cf) (ρ : Ro) (x : T) (S : St) : Rs T := (fl c ρ S).bd (kSl2 fu c ρ x)
theorem e_sl {fl fu : Ev (Option Int)} : mSl f fl fu c ρ S = (f c ρ S).bd (kSl fl fu c ρ) := by unfold mSl; simp only [ap_bind] <;> rfl
theorem e_sl1 {fl fu : Ev (Option Int)} : kSl fl fu c ρ x S = (fl c ρ S).bd (kSl2 fu c ρ x) := rfl
theorem e_sl2 {fu : Ev (Option Int)} {lo : Option Int} : kSl2 fu c ρ x lo S = (fu c ρ S).bd (kSl3 x lo) := rfl
theorem e_sl3 {lo hi : Option Int} : kSl3 x lo hi S = optR (oSl lo hi (vw S x)) S := rfl
def kPart (x : T) (S : St) : Rs (Option Int) := match x with | .int i => .ok (some i) S | _ => .st
theorem e_part : mPart f c ρ S = (f c ρ S).bd kPart := by
  unfold mPart
  rw [ap_bind]
  refine bd_ext fun x S1 => ?_
  cases x <;> rfl
theorem e_part1 {i : Int} : kPart (.int i) S = .ok (some i) S := rfl
theorem e_noPart : mNoPart c ρ S = .ok none S := rfl
def kListOf (x : T) (S : St) : Rs T := optR ((seqT (vw S x)).map T.lst) S
theorem e_listOf : mListOf f c ρ S = (f c ρ S).bd kListOf := by
  unfold mListOf
  rw [ap_bind]
  refine bd_ext fun x S1 => ?_
  unfold kListOf optR
  cases seqT (vw S1 x) <;> rfl
theorem e_listOf1 : kListOf x S = optR ((seqT (vw S x)).map T.lst) S := rfl
def listC (o : Option (List T)) (S : St) : Rs T := match o with | some l => .ok (.ref S.length) (S ++ [.lst l]) | none => .st
def kListC (x : T) (S : St) : Rs T := listC (seqT (vw S x)) S
theorem e_listC : mListC f c ρ S = (f c ρ S).bd kListC := by rw [ap_mListC]; rfl
theorem e_listC1 : kListC x S = listC (seqT (vw S x)) S := rfl
theorem e_listC2 {l : List T} : listC (some l) S = .ok (.ref S.length) (S ++ [.lst l]) := rfl
def tupOf : T → Option T
  | .lst l => some (.tup l)
  | .tup l => some (.tup l)
  | .wt l => some (.wt l)
  | _ => none
theorem tupOf_l {l : List T} : tupOf (.lst l) = some (.tup l) := rfl
theorem tupOf_t {l : List T} : tupOf (.tup l) = some (.tup l) := rfl
def kTupOf (x : T) (S : St) : Rs T := optR (tupOf (vw S x)) S
theorem e_tupOf : mTupOf f c ρ S = (f c ρ S).bd kTupOf := by
  unfold mTupOf
  rw [ap_bind]
  refine bd_ext fun x S1 => ?_
  unfold kTupOf optR
  cases vw S1 x <;> rfl
theorem e_tupOf1 : kTupOf x S = optR (tupOf (vw S x)) S := rfl
def inR (q : Option (Option T)) (neg : Bool) (o : T → T → Option T) (x y : T) (S : St) : Rs T := match q with
  | some q => .ok (.bl (if neg then !q.isSome else q.isSome)) S
  | none => orV (o x y) (o (vw S x) (vw S y)) S
def kIn2 (neg : Bool) (o : T → T → Option T) (x y : T) (S : St) : Rs T := inR (dictGet (vw S y) x) neg o x y S
def kIn (neg : Bool) (o : T → T → Option T) (g : Ev T) (c : Cf) (ρ : Ro) (x : T) (S : St) : Rs T := (g c ρ S).bd (kIn2 neg o x)
theorem e_in {neg : Bool} {o : T → T → Option T} : mInA neg o f g c ρ S = (f c ρ S).bd (kIn neg o g c ρ) := by unfold mInA; simp only [ap_bind] <;> rfl
theorem e_in1 {neg : Bool} {o : T → T → Option T} : kIn neg o g c ρ x S = (g c ρ S).bd (kIn2 neg o x) := rfl
theorem e_in2 {neg : Bool} {o : T → T → Option T} : kIn2 neg o x y S = inR (dictGet (vw S y) x) neg o x y S := rfl
theorem e_inN {neg : Bool} {o : T → T → Option T} : inR none neg o x y S = orV (o x y) (o (vw S x) (vw S y)) S := rfl
theorem e_inF {o : T → T → Option T} {q : Option T} : inR (some q) false o x y S = .ok (.bl q.isSome) S := rfl
theorem e_inT {o : T → T → Option T} {q : Option T} : inR (some q) true o x y S = .ok (.bl (!q.isSome)) S := rfl
def getE (q : Option (Option T)) (z : T) (S : St) : Rs T := match q with | some q => .ok (q.getD z) S | none => .st
theorem e_getE {q : Option T} : getE (some q) z S = .ok (q.getD z) S := rfl
def kGet3 (x y z : T) (S : St) : Rs T := getE (dictGet (vw S x) y) z S
def kGet2 (h : Ev T) (c : Cf) (ρ : Ro) (x y : T) (S : St) : Rs T := (h c ρ S).bd (kGet3 x y)
def getR (b : Bool) (g h : Ev T) (c : Cf) (ρ : Ro) (x : T) (S : St) : Rs T := if b = true then (g c ρ S).bd (kGet2 h c ρ x) else .st
def kGet (g h : Ev T) (c : Cf) (ρ : Ro) (x : T) (S : St) : Rs T := getR (isD (vw S x)) g h c ρ x S
theorem e_get : mGet2 f g h c ρ S = (f c ρ S).bd (kGet g h c ρ) := by
  unfold mGet2
  rw [ap_bind]
  refine bd_ext fun x S1 => ?_
  unfold kGet getR
  cases isD (vw S1 x)
  · rfl
  · rw [if_pos rfl, if_pos rfl]
    simp only [ap_bind]
    rfl
theorem e_get1 : kGet g h c ρ x S = getR (isD (vw S x)) g h c ρ x S := rfl
theorem e_getR : getR true g h c ρ x S = (g c ρ S).bd (kGet2 h c ρ x) := rfl
theorem e_get2 : kGet2 h c ρ x y S = (h c ρ S).bd (kGet3 x y) := rfl
theorem e_get3 : kGet3 x y z S = getE (dictGet (vw S x) y) z S := rfl
def kLm2 (q : List T → List T → Option (T × List T)) (c : Cf) (n : Nat) (ts : List T) (S : St) : Rs T := lmR q c n ts S
def lmG (o : Option T) (q : List T → List T → Option (T × List T)) (r : Ev (List T)) (c : Cf) (ρ : Ro) (n : Nat) (S : St) : Rs T := match o with
  | some (.lst _) => (r c ρ S).bd (kLm2 q c n)
  | _ => .st
def kLm (q : List T → List T → Option (T × List T)) (r : Ev (List T)) (c : Cf) (ρ : Ro) (x : T) (S : St) : Rs T := match x with | .ref n => lmG S[n]? q r c ρ n S | _ => .st
theorem e_lm {q : List T → List T → Option (T × List T)} : mLm q f r c ρ S = (f c ρ S).bd (kLm q r c ρ) := by
  rw [ap_mLm]
  refine bd_ext fun x S1 => ?_
  unfold kLm lmG
  cases x <;> first | rfl | skip
theorem e_lm1 {q : List T → List T → Option (T × List T)} {n : Nat} : kLm q r c ρ (.ref n) S = lmG S[n]? q r c ρ n S := rfl
theorem e_lmG {q : List T → List T → Option (T × List T)} {n : Nat} {l : List T} : lmG (some (.lst l)) q r c ρ n S = (r c ρ S).bd (kLm2 q c n) := rfl
theorem e_lm2 {q : List T → List T → Option (T × List T)} {n : Nat} {ts : List T} : kLm2 q c n ts S = lmR q c n ts S := rfl
def kStar2 (l m : List T) (S : St) : Rs (List T) := .ok (l ++ m) S
def starR (o : Option (List T)) (r : Ev (List T)) (c : Cf) (ρ : Ro) (S : St) : Rs (List T) := match o with | some l => (r c ρ S).bd (kStar2 l) | none => .st
def kStar (r : Ev (List T)) (c : Cf) (ρ : Ro) (x : T) (S : St) : Rs (List T) := starR (seqT x) r c ρ S
theorem e_star : mStar f r c ρ S = (f c ρ S).bd (kStar r c ρ) := by
  unfold mStar
  rw [ap_bind]
  refine bd_ext fun x S1 => ?_
  unfold kStar starR
  cases seqT x <;> first | rfl | (dsimp only; rw [ap_bind]; rfl)
theorem e_star1 : kStar r c ρ x S = starR (seqT x) r c ρ S := rfl
theorem e_starR {l : List T} : starR (some l) r c ρ S = (r c ρ S).bd (kStar2 l) := rfl
theorem e_star2 {l m : List T} : kStar2 l m S = .ok (l ++ m) S := rfl
/-! what is walked -/
def seqC (o : Option T) (n : Nat) (S : St) : Rs Src := match o with | some (.lst _) => .ok (.cell n) S | _ => .st
def kSeq (x : T) (S : St) : Rs Src := match x with
  | .lst l => .ok (.fix l) S
  | .tup l => .ok (.fix l) S
  | .wt l => .ok (.fix l) S
  | .scr ns => .ok (.fix (ns.map T.int)) S
  | .ref n => seqC S[n]? n S
  | _ => .st
theorem e_seq : mSeqOf f c ρ S = (f c ρ S).bd kSeq := by rw [ap_mSeqOf]; rfl
theorem e_seqL {l : List T} : kSeq (.lst l) S = .ok (.fix l) S := rfl
theorem e_seqT {l : List T} : kSeq (.tup l) S = .ok (.fix l) S := rfl
theorem e_seqW {l : List T} : kSeq (.wt l) S = .ok (.fix l) S := rfl
theorem e_seqN {ns : List Int} : kSeq (.scr ns) S = .ok (.fix (ns.map T.int)) S := rfl
theorem e_seqR {n : Nat} : kSeq (.ref n) S = seqC S[n]? n S := rfl
theorem e_seqC {n : Nat} {l : List T} : seqC (some (.lst l)) n S = .ok (.cell n) S := rfl
def kSeqS (x : T) (S : St) : Rs Src := match x with | .str z => .ok (.fix (z.cps.toList.map fun c => T.str ⟨#[c]⟩)) S | _ => .st
theorem e_seqS : mSeqOfS f c ρ S = (f c ρ S).bd kSeqS := by
  unfold mSeqOfS
  rw [ap_bind]
  refine bd_ext fun x S1 => ?_
  cases x <;> rfl
theorem e_seqS1 {z : Str} : kSeqS (.str z) S = .ok (.fix (z.cps.toList.map fun c => T.str ⟨#[c]⟩)) S := rfl
def fixR (o : Option (List T)) (S : St) : Rs Src := match o with | some l => .ok (.fix l) S | none => .st
theorem e_fixR {l : List T} : fixR (some l) S = .ok (.fix l) S := rfl
def enC (o : Option T) (n : Nat) (S : St) : Rs Src := match o with | some (.lst _) => .ok (.en n) S | _ => .st
def enR (o : Option (List T)) (x : T) (S : St) : Rs Src := match o with
  | some l => .ok (.fix (enT 0 l)) S
  | none => match x with
    | .ref n => enC S[n]? n S
    | _ => .st
def kEnum (x : T) (S : St) : Rs Src := enR (seqT x) x S
theorem e_enum : mEnum f c ρ S = (f c ρ S).bd kEnum := by
  unfold mEnum
  rw [ap_bind]
  refine bd_ext fun x S1 => ?_
  unfold kEnum enR
  cases seqT x with
  | some l => rfl
  | none => cases x <;> rfl
theorem e_enum1 : kEnum x S = enR (seqT x) x S := rfl
theorem e_enR {l : List T} : enR (some l) x S = .ok (.fix (enT 0 l)) S := rfl
theorem e_enRr {n : Nat} : enR none (.ref n) S = enC S[n]? n S := rfl
theorem e_enC {n : Nat} {l : List T} : enC (some (.lst l)) n S = .ok (.en n) S := rfl
theorem seqT_ref {n : Nat} : seqT (.ref n) = none := rfl
def kL (o : List T → Option (List T)) (xs : List T) (S : St) : Rs Src := fixR (o xs) S
theorem e_L {o : List T → Option (List T)} : mL o r c ρ S = (r c ρ S).bd (kL o) := by rw [ap_mL]; rfl
theorem e_L1 {o : List T → Option (List T)} {xs : List T} : kL o xs S = fixR (o xs) S := rfl
def lcE (r : Rs (List T)) : Rs T := match r with
  | .ok acc S' => .ok (.lst acc) S'
  | _ => .st
def kLc (vs : List Nat) (t : Tg) (tt : Ev Bool) (f : Ev T) (c : Cf) (ρ : Ro) (src : Src) (S : St) : Rs T := lcE (lcS t tt f src [] c (wipeS vs ρ) S)
theorem e_lc {vs : List Nat} {fi : Ev Src} {t : Tg} {tt : Ev Bool} : mLc vs fi t tt f c ρ S = (fi c ρ S).bd (kLc vs t tt f c ρ) := by unfold mLc; simp only [ap_bind] <;> rfl
theorem e_lc1 {vs : List Nat} {t : Tg} {tt : Ev Bool} {src : Src} : kLc vs t tt f c ρ src S = lcE (lcS t tt f src [] c (wipeS vs ρ) S) := rfl
theorem lcE_ok {l : List T} : lcE (.ok l S) = .ok (.lst l) S := rfl
theorem lcS_fix {t : Tg} {tt : Ev Bool} {l acc : List T} : lcS t tt f (.fix l) acc c ρ S = lcL t tt f l acc c ρ S := rfl
theorem lcL_nil {t : Tg} {tt : Ev Bool} {acc : List T} : lcL t tt f [] acc c ρ S = .ok acc S := rfl
theorem e_yes : mYes c ρ S = .ok true S := rfl
def kJs (fs : List (Ev T)) (acc : Str) (c : Cf) (ρ : Ro) (x : T) (S : St) : Rs T := match x with | .str y => (if (acc ++ y).length ≤ 1000000 then mJs fs (acc ++ y) c ρ S else .st) | _ => .st
theorem e_js0 {acc : Str} : mJs [] acc c ρ S = .ok (.str acc) S := rfl
theorem e_js {fs : List (Ev T)} {acc : Str} : mJs (f :: fs) acc c ρ S = (f c ρ S).bd (kJs fs acc c ρ) := by
  show Ev.bind _ _ c ρ S = _
  rw [ap_bind]
  refine bd_ext fun x S1 => ?_
  cases x <;> first | rfl | skip
  unfold kJs
  dsimp only
  split <;> rfl
theorem e_js1 {fs : List (Ev T)} {acc y : Str} (h : acc.length + y.length ≤ 1000000) : kJs fs acc c ρ (.str y) S = mJs fs (acc ++ y) c ρ S := if_pos (by rw [len_app]; exact h)
/-! statements -/
def asgR (o : Option (Ro × St)) : Ou := match o with | some (ρ1, S1) => .nx ρ1 S1 | none => .st
theorem asgR_ok : asgR (some (ρ, S)) = .nx ρ S := rfl
def kAsg (q : Tg) (c : Cf) (ρ : Ro) (x : T) (S : St) : Ou := asgR (q x c ρ S)
theorem e_asg {q : Tg} : sAsg f q c ρ S = ouE (f c ρ S) ρ (kAsg q c ρ) := rfl
theorem e_asg1 {q : Tg} : kAsg q c ρ x S = asgR (q x c ρ S) := rfl
def kRet (x : T) (S : St) : Ou := .rt x S
theorem e_ret : sRet f c ρ S = ouE (f c ρ S) ρ kRet := rfl
theorem e_ret1 : kRet x S = .rt x S := rfl
def kExpr (ρ : Ro) (_ : T) (S : St) : Ou := .nx ρ S
theorem e_expr : sExpr f c ρ S = ouE (f c ρ S) ρ (kExpr ρ) := rfl
theorem e_expr1 : kExpr ρ x S = .nx ρ S := rfl
def kIf (p q : Sv) (c : Cf) (ρ : Ro) (b : Bool) (S : St) : Ou := if b = true then p c ρ S else q c ρ S
theorem e_if {p q : Sv} : sIf t p q c ρ S = ouE (t c ρ S) ρ (kIf p q c ρ) := rfl
theorem e_ift {p q : Sv} : kIf p q c ρ true S = p c ρ S := rfl
theorem e_iff {p q : Sv} : kIf p q c ρ false S = q c ρ S := rfl
def kFor (q : Tg) (b : Sv) (c : Cf) (ρ : Ro) (src : Src) (S : St) : Ou := forS q b src c ρ S
theorem e_for {fi : Ev Src} {q : Tg} {b : Sv} : sForI fi q b c ρ S = ouE (fi c ρ S) ρ (kFor q b c ρ) := rfl
theorem e_for1 {q : Tg} {b : Sv} {l : List T} : kFor q b c ρ (.fix l) S = forL q b l c ρ S := rfl
theorem e_forE {q : Tg} {b : Sv} {n : Nat} : kFor q b c ρ (.en n) S = forE q b n whLine 0 c ρ S := rfl
theorem e_forC {q : Tg} {b : Sv} {n : Nat} : kFor q b c ρ (.cell n) S = forC q b n whLine 0 c ρ S := rfl
def putR (o : Option St) (ρ : Ro) : Ou := match o with | some S' => .nx ρ S' | none => .st
theorem putR_ok : putR (some S) ρ = .nx ρ S := rfl
def kItm3 (c : Cf) (ρ : Ro) (z x y : T) (S : St) : Ou := putR (itmPut c x y z S) ρ
def kItm2 (fi : Ev T) (c : Cf) (ρ : Ro) (z x : T) (S : St) : Ou := ouE (fi c ρ S) ρ (kItm3 c ρ z x)
def kItm (fo fi : Ev T) (c : Cf) (ρ : Ro) (z : T) (S : St) : Ou := ouE (fo c ρ S) ρ (kItm2 fi c ρ z)
theorem e_itm {fo fi fv : Ev T} : sItm fo fi fv c ρ S = ouE (fv c ρ S) ρ (kItm fo fi c ρ) := rfl
theorem e_itm1 {fo fi : Ev T} : kItm fo fi c ρ z S = ouE (fo c ρ S) ρ (kItm2 fi c ρ z) := rfl
theorem e_itm2 {fi : Ev T} : kItm2 fi c ρ z x S = ouE (fi c ρ S) ρ (kItm3 c ρ z x) := rfl
theorem e_itm3 : kItm3 c ρ z x y S = putR (itmPut c x y z S) ρ := rfl
def kFldC2 (Cs : List Str) (n : Str) (c : Cf) (ρ : Ro) (z x : T) (S : St) : Ou := putR (fldPut Cs n c x z S) ρ
def kFldC (Cs : List Str) (n : Str) (fo : Ev T) (c : Cf) (ρ : Ro) (z : T) (S : St) : Ou := ouE (fo c ρ S) ρ (kFldC2 Cs n c ρ z)
theorem e_fldC {Cs : List Str} {n : Str} : sFldC Cs n f g c ρ S = ouE (g c ρ S) ρ (kFldC Cs n f c ρ) := rfl
theorem e_fldC1 {Cs : List Str} {n : Str} : kFldC Cs n f c ρ z S = ouE (f c ρ S) ρ (kFldC2 Cs n c ρ z) := rfl
theorem e_fldC2 {Cs : List Str} {n : Str} : kFldC2 Cs n c ρ z x S = putR (fldPut Cs n c x z S) ρ := rfl
def kPar2 (i j : Nat) (ρ : Ro) (q : List T) (S : St) : Ou := match q with | [a, b] => .nx ((ρ.set i (some a)).set j (some b)) S | _ => .st
theorem e_par2 {i j : Nat} : sPar2 i j r c ρ S = ouE (r c ρ S) ρ (kPar2 i j ρ) := rfl
theorem e_par21 {i j : Nat} : kPar2 i j ρ [x, y] S = .nx ((ρ.set i (some x)).set j (some y)) S := rfl
def kPar3 (i j l : Nat) (ρ : Ro) (q : List T) (S : St) : Ou := match q with | [a, b, d] => .nx (((ρ.set i (some a)).set j (some b)).set l (some d)) S | _ => .st
theorem e_par3 {i j l : Nat} : sPar3 i j l r c ρ S = ouE (r c ρ S) ρ (kPar3 i j l ρ) := rfl
theorem e_par31 {i j l : Nat} : kPar3 i j l ρ [x, y, z] S = .nx (((ρ.set i (some x)).set j (some y)).set l (some z)) S := rfl
theorem e_aug {i : Nat} {o : T → T → Option T} : sAug i o f c ρ S = sAsg (mOp o (mVar i) f) (gNm i) c ρ S := rfl
/-! targets -/
theorem e_gTup {gs : List Tg} {l : List T} : gTup gs (.tup l) c ρ S = gTup0 gs l c ρ S := rfl
theorem e_gTupL {gs : List Tg} {l : List T} : gTup gs (.lst l) c ρ S = gTup0 gs l c ρ S := rfl
theorem e_gT0 : gTup0 [] [] c ρ S = some (ρ, S) := rfl
def gtR (o : Option (Ro × St)) (gs : List Tg) (l : List T) (c : Cf) : Option (Ro × St) := match o with | some (ρ1, S1) => gTup0 gs l c ρ1 S1 | none => none
theorem e_gT1 {q : Tg} {gs : List Tg} {l : List T} : gTup0 (q :: gs) (x :: l) c ρ S = gtR (q x c ρ S) gs l c := rfl
theorem e_gtR {gs : List Tg} {l : List T} : gtR (some (ρ, S)) gs l c = gTup0 gs l c ρ S := rfl
def gfR (o : Option St) (ρ : Ro) : Option (Ro × St) := match o with | some S' => some (ρ, S') | none => none
def gfV (o : Option (Option T)) (Cs : List Str) (n : Str) (x : T) (c : Cf) (ρ : Ro) (S : St) : Option (Ro × St) := match o with | some (some y) => gfR (fldPut Cs n c y x S) ρ | _ => none
theorem e_gFld {Cs : List Str} {n : Str} {i : Nat} : gFld Cs n i x c ρ S = gfV ρ[i]? Cs n x c ρ S := rfl
theorem e_gfV {Cs : List Str} {n : Str} : gfV (some (some y)) Cs n x c ρ S = gfR (fldPut Cs n c y x S) ρ := rfl
theorem e_gfR : gfR (some S) ρ = some (ρ, S) := rfl
def varR (o : Option (Option T)) (S : St) : Rs T := match o with | some (some t) => .ok t S | _ => .st
theorem e_var {i : Nat} : mVar i c ρ S = varR ρ[i]? S := rfl
theorem e_var1 : varR (some (some x)) S = .ok x S := rfl
/-! loops -/
def forK (q : Tg) (b : Sv) (l : List T) (c : Cf) (o : Ou) : Ou := match o with
  | .nx ρ2 S2 => forL q b l c ρ2 S2
  | .ct ρ2 S2 => forL q b l c ρ2 S2
  | .br ρ2 S2 => .nx ρ2 S2
  | o => o
def forG (q : Tg) (b : Sv) (l : List T) (c : Cf) (o : Option (Ro × St)) : Ou := match o with
  | some (ρ1, S1) => forK q b l c (b c ρ1 S1)
  | none => .st
theorem e_forN {q : Tg} {b : Sv} : forL q b [] c ρ S = .nx ρ S := rfl
theorem e_forS {q : Tg} {b : Sv} {l : List T} : forL q b (x :: l) c ρ S = forG q b l c (q x c ρ S) := by
  unfold forG forK
  show (match q x c ρ S with | some (ρ1, S1) => _ | none => _) = _
  cases q x c ρ S with
  | none => rfl
  | some p => cases b c p.1 p.2 <;> rfl
theorem e_forG {q : Tg} {b : Sv} {l : List T} : forG q b l c (some (ρ, S)) = forK q b l c (b c ρ S) := rfl
theorem e_forKn {q : Tg} {b : Sv} {l : List T} : forK q b l c (.nx ρ S) = forL q b l c ρ S := rfl
theorem e_forKc {q : Tg} {b : Sv} {l : List T} : forK q b l c (.ct ρ S) = forL q b l c ρ S := rfl
theorem e_forKb {q : Tg} {b : Sv} {l : List T} : forK q b l c (.br ρ S) = .nx ρ S := rfl
theorem e_forKr {q : Tg} {b : Sv} {l : List T} : forK q b l c (.rt x S) = .rt x S := rfl
end
theorem okR_non {n : Nat} : okR n .non = true := by unfold okR; rfl
theorem okR_bl {n : Nat} {b : Bool} : okR n (.bl b) = true := by unfold okR; rfl
theorem okR_int {n : Nat} {i : Int} : okR n (.int i) = true := by unfold okR; rfl
theorem okR_str {n : Nat} {x : Str} : okR n (.str x) = true := by unfold okR; rfl
theorem okR_cls {n : Nat} {x : Str} : okR n (.cls x) = true := by unfold okR; rfl
theorem okR_fn {n : Nat} {x : Str} : okR n (.fn x) = true := by unfold okR; rfl
theorem okR_scr {n : Nat} {x : List Int} : okR n (.scr x) = true := by unfold okR; rfl
theorem okR_tup {n : Nat} {l : List T} : okR n (.tup l) = okRs n l := by unfold okR; rfl
theorem okR_wt {n : Nat} {l : List T} : okR n (.wt l) = okRs n l := by unfold okR; rfl
theorem okR_lst {n : Nat} {l : List T} : okR n (.lst l) = okRs n l := by unfold okR; rfl
theorem okR_obj {n : Nat} {C : Str} {ns : List Str} {l : List T} : okR n (.obj C ns l) = okRs n l := by unfold okR; rfl
theorem okR_dK {n : Nat} {ks : List Key} {l : List T} : okR n (.dK ks l) = okRs n l := by unfold okR; rfl
theorem okR_dT {n : Nat} {ks : List (List Key)} {l : List T} : okR n (.dT ks l) = okRs n l := by unfold okR; rfl
theorem okR_ref {n k : Nat} : okR n (.ref k) = decide (k < n) := by unfold okR; rfl
theorem okRs_nil {n : Nat} : okRs n [] = true := rfl
theorem okRs_cons {n : Nat} {x : T} {l : List T} : okRs n (x :: l) = (okR n x && okRs n l) := rfl
/-! comprehensions, turn by turn -/
section
variable {c : Cf} {ρ ρ1 : Ro} {S : St} {f : Ev T} {x y : T} {t : Tg} {tt : Ev Bool} {l acc : List T}
def lcA (t : Tg) (tt : Ev Bool) (f : Ev T) (l acc : List T) (c : Cf) (ρ : Ro) (r : Rs T) : Rs (List T) := match r with
  | .ok y S3 => if acc.length < 1000000 then lcL t tt f l (acc ++ [y]) c ρ S3 else .st
  | _ => .st
def lcB (t : Tg) (tt : Ev Bool) (f : Ev T) (l acc : List T) (c : Cf) (ρ ρ1 : Ro) (r : Rs Bool) : Rs (List T) := match r with
  | .ok true S2 => lcA t tt f l acc c ρ (f c ρ1 S2)
  | .ok false S2 => lcL t tt f l acc c ρ S2
  | _ => .st
def lcG (t : Tg) (tt : Ev Bool) (f : Ev T) (l acc : List T) (c : Cf) (ρ : Ro) (o : Option (Ro × St)) : Rs (List T) := match o with
  | some (ρ1, S1) => lcB t tt f l acc c ρ ρ1 (tt c ρ1 S1)
  | none => .st
theorem e_lcS : lcL t tt f (x :: l) acc c ρ S = lcG t tt f l acc c ρ (t x c ρ S) := by
  unfold lcG lcB lcA
  show (match t x c ρ S with | some (ρ1, S1) => _ | none => _) = _
  cases t x c ρ S with
  | none => rfl
  | some p =>
    dsimp only
    all_goals
      generalize tt c p.1 p.2 = r
      rcases r with ⟨b, S2⟩ | ⟨y, S2⟩ | _
      · cases b
        · rfl
        · dsimp only
          all_goals (cases f c p.1 S2 <;> rfl)
      · rfl
      · rfl
theorem e_lcG : lcG t tt f l acc c ρ (some (ρ1, S)) = lcB t tt f l acc c ρ ρ1 (tt c ρ1 S) := rfl
theorem e_lcBt : lcB t tt f l acc c ρ ρ1 (.ok true S) = lcA t tt f l acc c ρ (f c ρ1 S) := rfl
theorem e_lcBf : lcB t tt f l acc c ρ ρ1 (.ok false S) = lcL t tt f l acc c ρ S := rfl
theorem e_lcA (h : acc.length < 1000000) : lcA t tt f l acc c ρ (.ok y S) = lcL t tt f l (acc ++ [y]) c ρ S := if_pos h
end
/-- a comprehension that maps -/
theorem lcL_map {g : Tg} {te : Ev T} {c : Cf} {ρ : Ro} {S : St} (h : T → T) : ∀ (l acc : List T), acc.length + l.length ≤ 1000000 → (∀ x ∈ l, ∃ ρ1, g x c ρ S = some (ρ1, S) ∧ te c ρ1 S = .ok (h x) S) → lcL g mYes te l acc c ρ S = .ok (acc ++ l.map h) S
  | [], acc, _, _ => by simp [lcL]
  | x :: l, acc, hl, k => by
    obtain ⟨ρ1, e1, e2⟩ := k x (List.mem_cons_self ..)
    have hl' : acc.length + l.length + 1 ≤ 1000000 := by simpa [Nat.add_assoc] using hl
    unfold lcL
    rw [e1]
    dsimp only
    rw [e_yes]
    dsimp only
    rw [e2]
    dsimp only
    rw [if_pos (by omega), lcL_map h l (acc ++ [h x]) (by simp; omega) fun y hy => k y (List.mem_cons_of_mem _ hy)]
    simp
/-- a comprehension that maps and tests -/
theorem lcL_filt {α : Type} {g : Tg} {tt : Ev Bool} {te : Ev T} {c : Cf} {ρ : Ro} {S : St} (f : α → T) (b : α → Bool) (h : α → T) : ∀ (l : List α) (acc : List T), acc.length + l.length ≤ 1000000 → (∀ x ∈ l, ∃ ρ1, g (f x) c ρ S = some (ρ1, S) ∧ tt c ρ1 S = .ok (b x) S ∧ (b x = true → te c ρ1 S = .ok (h x) S)) → lcL g tt te (l.map f) acc c ρ S = .ok (acc ++ (l.filter b).map h) S
  | [], acc, _, _ => by simp [lcL]
  | x :: l, acc, hl, k => by
    obtain ⟨ρ1, e1, e2, e3⟩ := k x (List.mem_cons_self ..)
    have hl' : acc.length + l.length + 1 ≤ 1000000 := by simpa [Nat.add_assoc] using hl
    have ih := fun acc ha => lcL_filt (c := c) (ρ := ρ) (S := S) (g := g) (tt := tt) (te := te) f b h l acc ha fun y hy => k y (List.mem_cons_of_mem _ hy)
    rw [List.map_cons]
    unfold lcL
    rw [e1]
    dsimp only
    rw [e2]
    cases hb : b x with
    | true =>
      dsimp only
      rw [e3 hb]
      dsimp only
      rw [if_pos (by omega), ih (acc ++ [h x]) (by simp; omega), List.filter_cons_of_pos hb]
      simp
    | false =>
      dsimp only
      rw [ih acc (by omega), List.filter_cons_of_neg (by simp [hb])]
end Tm

/-! N15: operations on values whose cells are looked through. -/
namespace Tm
open PySem PySem.Spec PyProof.Rows L2
def opF3 (o : Option T) (S : St) : Rs T := match o with
  | some z => if scaT z = true then .ok z S else .st
  | none => .st
def opF2 (f : T → T → Option T) (o o' : Option T) (S : St) : Rs T := match o, o' with
  | some x, some y => opF3 (f x y) S
  | _, _ => .st
def opF (f : T → T → Option T) (x y : T) (S : St) : Rs T := opF2 f (fz 0 S x) (fz 0 S y) S
def mOpF (f : T → T → Option T) (a b : Ev T) : Ev T := a.bind fun x => b.bind fun y _ _ S => opF f x y S
section
variable {X : Cx} {K : PySem.W.Frag} {W : WX} {a b : Expr} {fa fb : Ev T} {pos : Pos}
end
section
variable {c : Cf} {ρ : Ro} {S : St} {f g : Ev T} {x y z x' y' : T}
def kOpF2 (o : T → T → Option T) (x y : T) (S : St) : Rs T := opF o x y S
def kOpF (o : T → T → Option T) (g : Ev T) (c : Cf) (ρ : Ro) (x : T) (S : St) : Rs T := (g c ρ S).bd (kOpF2 o x)
theorem e_opF {o : T → T → Option T} : mOpF o f g c ρ S = (f c ρ S).bd (kOpF o g c ρ) := by unfold mOpF; simp only [ap_bind] <;> rfl
theorem e_opF1 {o : T → T → Option T} : kOpF o g c ρ x S = (g c ρ S).bd (kOpF2 o x) := rfl
theorem e_opF2 {o : T → T → Option T} : kOpF2 o x y S = opF o x y S := rfl
end
end Tm

/-! N16: ranges in steps. -/
namespace Tm
open PySem PySem.Spec PyProof.Rows L2
end Tm

/-! N17: repr, where nothing is under way. -/
namespace Tm
open PySem PySem.Spec PyProof.Rows L2
/-! ### repr of data -/
end Tm

/-! N18: own exceptions raised, caught, asked. -/
namespace Tm
open PySem PySem.Spec PyProof.Rows L2
/-- raise C(e), the field f keeping e -/
def sRaise (C f : Str) (fr : Ev (List T)) : Sv := fun c ρ S => ouE (fr c ρ S) ρ fun xs S => match xs with
  | [x] => .ex (.obj C [f] [x]) ρ S
  | _ => .st
section
variable {X : Cx} {K : PySem.W.Frag} {W : WX} {D : Ends} {σ : L2.St} {H : Hp} {fI : Addr} {C f : Str} {file : Str} {B newId initId : String} {bmB : List Value}
/-! ### try: .. except D as n: .. -/
def unS (i : Nat) : Ou → Ou
  | .nx ρ S => .nx (ρ.set i none) S
  | .br ρ S => .br (ρ.set i none) S
  | .ct ρ S => .ct (ρ.set i none) S
  | .rt t S => .rt t S
  | _ => .st
def hndR (i : Nat) (h : Nat → Nat → Str → Sv) (C : Str) (ns : List Str) (l : List T) (c : Cf) (ρ : Ro) (S : St) (a d : Nat) : Ou := unS i (h a d C c (ρ.set i (some (.exc a d C ns l))) S)
open Classical in
/-- the suite, at any places of the error -/
noncomputable def hnd (i : Nat) (h : Nat → Nat → Str → Sv) (C : Str) (ns : List Str) (l : List T) (c : Cf) (ρ : Ro) (S : St) : Ou := if ∀ a d, hndR i h C ns l c ρ S a d = hndR i h C ns l c ρ S 0 0 then hndR i h C ns l c ρ S 0 0 else .st
/-- up: what the clause doesn't name goes on -/
noncomputable def kTry (up : Bool) (i : Nat) (tb : List (Str × Bool)) (h : Nat → Nat → Str → Sv) (c : Cf) (o : Ou) : Ou := match o with
  | .ex x ρ1 S1 => match x with
    | .obj C ns (t :: l) => match tb.lookup C with
      | some true => hnd i h C ns (t :: l) c ρ1 S1
      | some false => if up = true then .ex x ρ1 S1 else .st
      | none => .st
    | _ => .st
  | o => o
noncomputable def sTryAs (up : Bool) (i : Nat) (tb : List (Str × Bool)) (h : Nat → Nat → Str → Sv) (b : Sv) : Sv := fun c ρ S => kTry up i tb h c (b c ρ S)
theorem PSs.ex {α : Type} {body : List Stmt} {t : α → TS} (h : ∀ y, PSs X body (t y)) : PSs X body fun D σ H => ∃ y, t y D σ H := ⟨fun pins s σ H D I hw => by
  obtain ⟨y, hw⟩ := hw
  exact (h y).run pins s σ H D I hw⟩
/-! ### what a suite asks of the error that it holds, in slot i -/
end
end Tm
namespace Tm
open PySem PySem.Spec PyProof.Rows L2
/-! ### a def that may raise, called where it does not -/
/-! ### equations -/
section
variable {c : Cf} {ρ : Ro} {S S' : St} {x : T} {i : Nat} {tb : List (Str × Bool)} {h : Nat → Nat → Str → Sv} {up : Bool}
def kRaise (C f : Str) (ρ : Ro) (xs : List T) (S : St) : Ou := match xs with
  | [x] => .ex (.obj C [f] [x]) ρ S
  | _ => .st
theorem e_raise {C f : Str} {fr : Ev (List T)} : sRaise C f fr c ρ S = ouE (fr c ρ S) ρ (kRaise C f ρ) := rfl
theorem e_raise1 {C f : Str} : kRaise C f ρ [x] S = .ex (.obj C [f] [x]) ρ S := rfl
theorem e_try {b : Sv} : sTryAs up i tb h b c ρ S = kTry up i tb h c (b c ρ S) := rfl
theorem e_tryN : kTry up i tb h c (.nx ρ S) = .nx ρ S := rfl
theorem e_tryR : kTry up i tb h c (.rt x S) = .rt x S := rfl
theorem endS_ex (h : okR S.length x = true) : endS S (.ex x ρ S') = .ex x (S'.take S.length) := if_pos h
theorem finP_ex {S0 : St} (h : okR 0 x = true) : finP (.ex x ρ S0) S = .ex x S := if_pos h
theorem mkR_ex (h : okR S.length x = true) : mkR S (.ex x S') = .ex x S := if_pos h
theorem endO_ex : endO (.ex x ρ S') = .ex x S' := rfl
end
end Tm
namespace Tm
open PySem PySem.Spec PyProof.Rows L2
end Tm

/-! N19: zip. -/
namespace Tm
open PySem PySem.Spec PyProof.Rows L2
def zpT : List T → List T → List T
  | t :: l, u :: m => .tup [t, u] :: zpT l m
  | _, _ => []
theorem zpT_get : ∀ {l m : List T} {i : Nat} {t : T}, (zpT l m)[i]? = some t → ∃ a b, l[i]? = some a ∧ m[i]? = some b ∧ t = .tup [a, b]
  | [], m, i, t, h => by simp [zpT] at h
  | a :: l, [], i, t, h => by simp [zpT] at h
  | a :: l, b :: m, 0, t, h => by
    simp [zpT] at h
    exact ⟨a, b, rfl, rfl, h.symm⟩
  | a :: l, b :: m, i + 1, t, h => by
    simp only [zpT, List.getElem?_cons_succ] at h
    obtain ⟨x, y, h1, h2, h3⟩ := zpT_get h
    exact ⟨x, y, by simpa using h1, by simpa using h2, h3⟩
theorem zpT_none : ∀ {l m : List T} {i : Nat}, (zpT l m)[i]? = none → l.length ≤ i ∨ m.length ≤ i
  | [], m, i, h => .inl (Nat.zero_le _)
  | a :: l, [], i, h => .inr (Nat.zero_le _)
  | a :: l, b :: m, 0, h => by simp [zpT] at h
  | a :: l, b :: m, i + 1, h => by
    simp only [zpT, List.getElem?_cons_succ] at h
    rcases zpT_none h with q | q
    · exact .inl (by simpa using q)
    · exact .inr (by simpa using q)
end Tm
/-! ### xs[::-1] -/
namespace Tm
open PySem PySem.Spec PyProof.Rows L2
def mRev (fa : Ev T) : Ev T := fa.bind fun x _ _ S => match vw S x with
  | .lst l => .ok (.lst l.reverse) S
  | _ => .st
def mRevC (fa : Ev T) : Ev T := fa.bind fun x _ _ S => match vw S x with
  | .lst l => .ok (.ref S.length) (S ++ [.lst l.reverse])
  | _ => .st
theorem Reps.reverse {K : PySem.W.Frag} {A : ASet} {H : Hp} : ∀ {xs : List V} {l : List T}, Reps K A H xs l → Reps K A H xs.reverse l.reverse
  | _, _, .nil => .nil
  | _, _, .cons h r => by
    rw [List.reverse_cons, List.reverse_cons]
    exact (Reps.reverse r).append (.cons h .nil)
section
variable {X : Cx} {K : PySem.W.Frag} {W : WX} {e : Expr} {fa : Ev T} {k : Nat} {p1 p2 p3 pos : Pos}
theorem m_revC (he : PE X e (tX K W fa)) (hK : X.K = K := by rfl) : PE X (.Subscript e (.Slice none none (some (.UnaryOp .USub (.Constant (.int 1) k p1) p2)) p3) pos) (tX K W (mRevC fa)) := by
  subst hK
  refine PE.imp (pe_revL he) fun σ H Q h => ?_
  obtain ⟨cf, bs, m, S, ρ, F, h⟩ := h
  refine ⟨cf, bs, m, S, ρ, F, RsOk.bind F h fun x vx m1 H1 S1 F1 k1 R1 h1 => ?_⟩
  split at h1
  · rename_i l ev
    obtain ⟨a, xs, rfl, hh, rs⟩ := lst_at F1.cs R1 ev
    refine ⟨a, xs, rfl, .inl (.inl hh), fun p hp => ?_⟩
    have s := same_new (o := .lst xs.reverse) hp
    exact new_ok F1 hp s (.lst upd_same (reps_new (bs := bs) (S := S1) hp s (Reps.reverse rs))) h1
  · exact h1.elim
end
section
variable {c : Cf} {ρ : Ro} {S : St} {f : Ev T} {x : T}
def kRev (x : T) (S : St) : Rs T := match vw S x with
  | .lst l => .ok (.lst l.reverse) S
  | _ => .st
theorem e_rev : mRev f c ρ S = (f c ρ S).bd kRev := by unfold mRev; simp only [ap_bind] <;> rfl
theorem e_rev1 {l : List T} : kRev (.lst l) S = .ok (.lst l.reverse) S := rfl
def kRevC (x : T) (S : St) : Rs T := match vw S x with
  | .lst l => .ok (.ref S.length) (S ++ [.lst l.reverse])
  | _ => .st
theorem e_revC : mRevC f c ρ S = (f c ρ S).bd kRevC := by unfold mRevC; simp only [ap_bind] <;> rfl
theorem e_revC1 {l : List T} : kRevC (.lst l) S = .ok (.ref S.length) (S ++ [.lst l.reverse]) := rfl
end
end Tm

/-! N20: displays of dicts, keys texts and numbers. -/
namespace Tm
open PySem PySem.Spec PyProof.Rows L2
section
variable {X : Cx} {K : PySem.W.Frag} {W : WX} {pos : Pos}
end
section
variable {c : Cf} {ρ : Ro} {S : St}
end
end Tm

/-! N21: a sum of lists, kept as a cell. -/
namespace Tm
open PySem PySem.Spec PyProof.Rows L2
def mAddC (fa fb : Ev T) : Ev T := fa.bind fun x => fb.bind fun y _ _ S => match vw S x, vw S y with
  | .lst l, .lst m => if l.length + m.length ≤ 1000000 then .ok (.ref S.length) (S ++ [.lst (l ++ m)]) else .st
  | _, _ => .st
section
variable {X : Cx} {K : PySem.W.Frag} {W : WX} {a b : Expr} {fa fb : Ev T} {pos : Pos}
end
section
variable {c : Cf} {ρ : Ro} {S : St} {f g : Ev T} {x y : T}
def kAddC2 (x y : T) (S : St) : Rs T := match vw S x, vw S y with
  | .lst l, .lst m => if l.length + m.length ≤ 1000000 then .ok (.ref S.length) (S ++ [.lst (l ++ m)]) else .st
  | _, _ => .st
def kAddC (g : Ev T) (c : Cf) (ρ : Ro) (x : T) (S : St) : Rs T := (g c ρ S).bd (kAddC2 x)
theorem e_addC : mAddC f g c ρ S = (f c ρ S).bd (kAddC g c ρ) := by unfold mAddC; simp only [ap_bind] <;> rfl
theorem e_addC1 : kAddC g c ρ x S = (g c ρ S).bd (kAddC2 x) := rfl
theorem e_addC2 {l m : List T} (h1 : vw S x = .lst l) (h2 : vw S y = .lst m) (h : l.length + m.length ≤ 1000000) : kAddC2 x y S = .ok (.ref S.length) (S ++ [.lst (l ++ m)]) := by
  unfold kAddC2
  rw [h1, h2]
  exact if_pos h
end
end Tm

/-! N22: `x in (a, b, ..)`, where x has its own __eq__ and a, b, .. are None, texts, tuples. -/
namespace Tm
open PySem PySem.Spec PyProof.Rows L2
section
open PySem.SeqAt PySem.MeetsSeq PySem.MeetsSeq2 PySem.MeetsSeq3 PySem.SeqRoads2 GQ
open PySem.AutoSeq1 (wpAny_loadPart')
variable {prog : Program} {w : World} {A : Around} {R : Result → Shared → Prop}
end
section
open PySem.SeqAt GQ
variable {prog : Program} {w : World} {A : Around} {E : Value → Shared → Prop} {s : Shared}
end
/-! == of None, a text, a tuple and an instance -/
section
open PySem.SeqAt PySem.MeetsSeq PySem.MeetsSeq2 PySem.MeetsSeq3 PySem.SeqRoads2
open PySem.AutoSeq1 (wpAny_loadPart')
end
section
open PySem.SeqAt GQ PySem.MeetsSeq PySem.MeetsSeq2 PySem.MeetsSeq3 PySem.SeqRoads2
open PySem.AutoSeq1 (wpAny_loadPart')
variable {prog : Program} {w : World} {A : Around} {E : Value → Shared → Prop} {s : Shared}
end
/-! the rule -/
section
open PySem.SeqAt GQ
variable {X : Cx} {CX : CXT} {k : Nat} {f : Addr} {sp : Sp} {E : XK} {pins : List (Addr × Obj)} {σ : L2.St} {H : Hp} {s : Shared} {Q : VK}
end
/-! the mirror -/
/-! z == x, where x has its own __eq__ -/
end Tm

/-! N23: `!=` of tuples and of lists of own objects that are equal by their own __eq__. -/
namespace Tm
open PySem PySem.Spec PyProof.Rows L2
section
open PySem.SeqAt PySem.MeetsSeq PySem.MeetsSeq2 PySem.MeetsSeq3 PySem.SeqRoads2 GQ
open PySem.AutoSeq1 (wpAny_loadPart')
variable {prog : Program} {w : World} {A : Around} {R : Result → Shared → Prop}
end
section
open PySem.SeqAt GQ
variable {prog : Program} {w : World} {A : Around} {E : Value → Shared → Prop} {s : Shared}
end
/-! own objects, item by item -/
section
variable {X : Cx} {K : PySem.W.Frag} {tb : List (Str × Fn × List Str)}
end
/-! the mirror -/
end Tm

/-! N24: calls that pass arguments by their names. -/
namespace Tm
open PySem PySem.Spec PyProof.Rows L2
section
variable {P : Program} {w : World} {K : PySem.W.Frag} {mg : Str → Option Value} {base : Heap} {CX : CXT} {k : Nat} {f : Addr} {sp : Sp}
end
/-! keywords' values as arguments -/
section
variable {X : Cx} {K : PySem.W.Frag} {W : WX} {CX : CXT} {k : Nat} {f C : Addr} {dvs : List V} {ds : List T} {idx : List Nat} {ks : List Str} {x m : Str} {p pos apos kpos : Pos} {e o : Expr} {kws : List Keyword} {nm : Option Str} {fa : Ev T} {fk : Ev (List T)} {Fm : Fn} {Cn : Str} {nk : Nat}
end
end Tm

/-! N25: a + b and a += b, where the class of a has its own __add__. -/
namespace PySem.W
open PySem PySem.Spec PySem.Calls PyProof.Rows
section
variable {M : Model} {h : Heap} {K : Frag}
end
section
variable {prog : Program} {w : World} {A : Around} {E : Value → Shared → Prop} {s : Shared} {K : Frag} {x C D f : Addr} {ox : Obj} {od : Option Obj} {b : Value} {Q : Value → Shared → Prop}
end
end PySem.W
namespace Tm
open PySem PySem.Spec PyProof.Rows L2
section
variable {X : Cx} {K : PySem.W.Frag} {W : WX} {CX : CXT} {k : Nat} {f : Addr} {Fm : Fn} {Cn : Str} {Ds : List Str} {a b e : Expr} {pos : Pos} {fa fb : Ev T}
end
/-! equations -/
section
variable {c : Cf} {ρ : Ro} {S : St} {C : Str} {Ds : List Str} {Fm : Fn} {fa fb : Ev T} {x y : T} {i : Nat}
end
/-! != of data or of equal rows of own things -/
end Tm

/-! N26: how often a text stands in a list. -/
namespace L2
open PySem PySem.Spec PyProof.Rows
end L2
namespace Tm
open PySem PySem.Spec PyProof.Rows L2
def cntR (x y : T) (S : St) : Rs T := match vw S x with
  | .lst l => match y, toS l with
    | .str z, some ns => .ok (.int (ns.count z : Nat)) S
    | _, _ => .st
  | _ => .st
def kCnt2 (x : T) (y : T) (S : St) : Rs T := cntR x y S
def kCnt (fb : Ev T) (c : Cf) (ρ : Ro) (x : T) (S : St) : Rs T := match vw S x with
  | .lst _ => (fb c ρ S).bd (kCnt2 x)
  | _ => .st
def mCnt (fa fb : Ev T) : Ev T := fa.bind fun x c ρ S => match vw S x with
  | .lst _ => (fb.bind fun y _ _ S => cntR x y S) c ρ S
  | _ => .st
section
variable {X : Cx} {K : PySem.W.Frag} {W : WX} {o e : Expr} {fa fb : Ev T} {apos cpos : Pos}
end
section
variable {c : Cf} {ρ : Ro} {S : St} {fa fb : Ev T} {x y : T}
theorem e_cnt : mCnt fa fb c ρ S = (fa c ρ S).bd (kCnt fb c ρ) := by
  unfold mCnt
  simp only [ap_bind]
  congr 1
theorem e_cnt1 {l : List T} (h : vw S x = .lst l) : kCnt fb c ρ x S = (fb c ρ S).bd (kCnt2 x) := by
  unfold kCnt
  rw [h]
theorem e_cnt2 {l : List T} {ns : List Str} {z : Str} (h : vw S x = .lst l) (h2 : toS l = some ns) : kCnt2 x (.str z) S = .ok (.int (ns.count z : Nat)) S := by
  unfold kCnt2 cntR
  rw [h]
  dsimp only
  rw [h2]
end
end Tm

/-! N27: a property of an own class, read. -/
namespace Tm
open PySem PySem.Spec PyProof.Rows L2
section
variable {X : Cx} {K : PySem.W.Frag} {W : WX} {k : Nat} {Fm : Fn} {fa : Ev T} {o : Expr} {m : Str} {pos : Pos}
end
end Tm

/-! N28: defs that are called where no repr is under way (repr in a helper). -/
namespace Tm
open PySem PySem.Spec PyProof.Rows L2
section
variable {CX : CXT} {P : Program} {w : World} {K : PySem.W.Frag} {mg : Str → Option Value} {base : Heap} {k : Nat} {f : Addr} {x qual : Str} {params : Arguments} {body : List Stmt} {scope : Scope} {dvs : List V} {kws : List (Str × V)} {fd : FuncData} {N ps : List Str} {sp : Sp}
end
section
variable {X : Cx} {K : PySem.W.Frag} {W : WX} {CX : CXT} {k : Nat} {f : Addr} {Fm : Fn} {dvs : List V} {ds : List T} {x : Str} {p pos : Pos} {e : Expr} {es : List Expr} {fr : Ev (List T)} {sp : Sp} {t : TA}
end
end Tm

/-! N29: a tuple so many times, none and once too. -/
namespace L2
open PySem PySem.Spec PyProof.Rows
end L2
namespace Tm
open PySem PySem.Spec PyProof.Rows L2
theorem Reps.rep {K : PySem.W.Frag} {A : ASet} {H : Hp} {xs : List V} {l : List T} (r : Reps K A H xs l) : ∀ n : Nat, Reps K A H (List.replicate n xs).flatten (List.replicate n l).flatten
  | 0 => .nil
  | n + 1 => by
    rw [List.replicate_succ, List.replicate_succ, List.flatten_cons, List.flatten_cons]
    exact r.append (Reps.rep r n)
end Tm

/-! N30: x in range(a, b); dict of pairs. -/
namespace L2
open PySem PySem.Spec PyProof.Rows
end L2
namespace L2
open PySem PySem.Spec PyProof.Rows
end L2
namespace Tm
open PySem PySem.Spec PyProof.Rows L2
section
variable {X : Cx} {K : PySem.W.Frag} {W : WX} {e a b : Expr} {fa : Ev T} {fr : Ev (List T)} {np p pos : Pos}
end
section
variable {c : Cf} {ρ : Ro} {S : St} {f : Ev T} {fr : Ev (List T)} {x : T} {l : List T}
end
/-! ### dict of pairs -/
section
variable {K : PySem.W.Frag}
end
end Tm

/-! N31: a try with two clauses that name their error; x in, xs.index(x), of data; parts of a text as a list that changes. -/
namespace L2
open PySem PySem.Spec PyProof.Rows
section
variable {X : Cx} {n : Str} {i : Nat} {body : List Stmt} {pos : Pos} {tb : WX → TS} {Wout : WX}
end
end L2
namespace Tm
open PySem PySem.Spec PyProof.Rows L2
/-! ### two clauses -/
section
variable {X : Cx} {K : PySem.W.Frag} {W : WX}
end
section
variable {c : Cf} {ρ : Ro} {S : St} {x : T} {i : Nat} {tb1 tb2 : List (Str × Bool)} {h1 h2 : Nat → Nat → Str → Sv}
end
/-! ### in, index, of data -/
section
variable {X : Cx} {K : PySem.W.Frag} {W : WX} {o e : Expr} {fa fb : Ev T} {apos cpos : Pos}
end
section
variable {c : Cf} {ρ : Ro} {S : St} {fa fb : Ev T} {x y : T}
end
/-! ### the parts of a text, as a list that changes -/
section
variable {X : Cx} {K : PySem.W.Frag} {W : WX} {e o : Expr} {fa fb : Ev T} {pos apos : Pos}
end
section
variable {c : Cf} {ρ : Ro} {S : St} {f g : Ev T} {x y : T}
end
end Tm

/-! N32: errors whose context is none (hot): raised, caught; in their suites properties are read. -/
namespace L2
open PySem PySem.Spec PyProof.Rows
section
variable {X : Cx} {C fI : Addr} {f : Str} {file : Str} {B newId initId : String} {bmB : List Value}
end
end L2
namespace Tm
open PySem PySem.Spec PyProof.Rows L2
section
variable {X : Cx} {K : PySem.W.Frag} {W : WX} {D : Ends} {σ : L2.St} {H : Hp} {fI : Addr} {C f : Str} {file : Str} {B newId initId : String} {bmB : List Value}
end
section
variable {X : Cx} {K : PySem.W.Frag} {W : WX}
end
/-! ### defs called in a suite -/
section
variable {P : Program} {w : World} {K : PySem.W.Frag} {mg : Str → Option Value} {base : Heap} {x qual : Str} {params : Arguments} {body : List Stmt} {scope : Scope} {dvs : List V} {kws : List (Str × V)} {f : Addr} {fd : FuncData} {k : Nat} {sp : Sp}
end
section
variable {X : Cx} {k : Nat} {C p g a dx : Addr} {fs : List (Str × V)} {f : Str} {fd : FuncData} {ps : List Str} {sp : Sp} {E : XK} {e : Expr} {pos : Pos} {ta : TE}
end
section
variable {X : Cx} {K : PySem.W.Frag} {W : WX} {k : Nat} {Fm : Fn} {fa : Ev T} {o : Expr} {m : Str} {pos : Pos}
end
end Tm

/-! N33: repr of bools and None. -/
namespace Tm
open PySem PySem.Spec PyProof.Rows L2
end Tm

/-! N34: an except clause whose suite raises; raise X(..) from the held error. -/
namespace L2
open PySem PySem.Spec PyProof.Rows HotX
section
variable {X : Cx} {pins : List (Addr × Obj)} {σ : L2.St} {H : Hp} {s : Shared} {i : Nat} {n : Str}
end
section
variable {X : Cx} {x n : Str} {c : Value} {i : Nat} {body suite : List Stmt} {b₀ : Stmt} {np pos pos' : Pos} {tb : WX → TS} {ts : Addr → Value → Option Addr → TS} {Wout : WX}
end
/-! ### raise X(..) from n -/
end L2
namespace Tm
open PySem PySem.Spec PyProof.Rows L2
section
variable {X : Cx} {K : PySem.W.Frag} {W : WX} {fI fI2 : Addr} {C f f2 : Str} {file : Str} {B newId initId B2 newId2 initId2 : String} {bmB bmB2 : List Value}
end
/-! ### try: .. except D as n: a suite that may raise -/
open Classical in
section
variable {X : Cx} {K : PySem.W.Frag} {W : WX}
/-! ### equations -/
end
end Tm

/-! N35: errors whose context is None or an error without one; a clause that catches them and raises on. -/
namespace L2K
open PySem PySem.Spec PyProof.Rows L2 HotX
/-- the context of an error: None, or an error of the ground whose context is None -/
def Ctx1 (B : Heap) (H : Hp) (o : Obj) : Prop := ∀ vs : Array Value, o.data = .fields vs → vs[2]? = some .none ∨ ∃ e0 o0 v0, vs[2]? = some (.ref e0) ∧ B.get? e0 = some o0 ∧ o0.data = .fields v0 ∧ v0[2]? = some .none ∧ H e0 = none
theorem Ctx1.steady {B : Heap} {H : Hp} : PXN.Steady1 (Ctx1 B H) := fun o v h => by
  obtain ⟨c, d, dt, sl⟩ := o
  cases dt with
  | fields vs0 =>
    intro vs e
    have e2 : vs0.setIfInBounds 1 v = vs := Data.fields.inj e
    rw [← e2, show (vs0.setIfInBounds 1 v)[2]? = vs0[2]? from by first | exact Array.getElem?_setIfInBounds_ne (by decide) | simp [Array.getElem?_setIfInBounds]]
    exact h vs0 rfl
  | _ =>
    intro vs e
    first
    | exact Data.noConfusion e
    | cases e
def Zk (B : Heap) (H : Hp) (cls : Value) (d : Option Addr) : Obj → Prop := fun o => o.cls = cls ∧ o.dict = d ∧ Ctx1 B H o
theorem Zk.steady {B : Heap} {H : Hp} {cls : Value} {d : Option Addr} : PXN.Steady1 (Zk B H cls d) := fun o v h => ⟨PXN.steady_cls o v h.1, PXN.steady_dict o v h.2.1, Ctx1.steady o v h.2.2⟩
theorem Zk.ofN {B : Heap} {H : Hp} {cls : Value} {d : Option Addr} {o : Obj} (h : L2N.Zn cls d o) : Zk B H cls d o := ⟨h.1, h.2.1, fun vs e => .inl (h.2.2 vs e)⟩
theorem sky_imp {B h : Heap} {l : List Env} {a L : Addr} {Z Z' : Obj → Prop} (z : ∀ o, Z o → Z' o) (x : Sky B l a Z L h) : Sky B l a Z' L h := by
  rcases x with ⟨hB, hn, hl, oe, vs, he, hz, hd, h1⟩ | fl | hh
  · exact .inl ⟨hB, hn, hl, oe, vs, he, z _ hz, hd, h1⟩
  · exact .inr (.inl (L2H.flyingZ_imp z fl))
  · exact .inr (.inr ⟨hh.1, hh.2.1, hh.2.2.1, L2H.tracedZ_imp z hh.2.2.2⟩)
/-- such an error in the air of X -/
def XE (X : Cx) (W : WX) (u : Value) (s' : Shared) : Prop :=
  ∃ (a : Addr) (B : Heap) (sI : Shared) (pins : List (Addr × Obj)) (σ : L2.St) (H : Hp) (cls : Value) (d : Option Addr),
    u = .ref a ∧ Inv X pins σ H sI ∧ (∀ b o, sI.heap.get? b = some o → b ∉ frs X.stack → B.get? b = some o) ∧ sI.heap.UpToSlots s'.heap ∧
      Sky B X.stack a (Zk B H cls d) X.env.locals s'.heap ∧ H a = none ∧ s'.os = sI.os ∧ AllBare s'.gens ∧ W cls d σ H
def Takes (X : Cx) (W : WX) : Prop := ∀ u s', XE X W u s' → X.xe u s'
/-- behind a call that let such an error out -/
def CX (P : Program) (w : World) (outer : List Env) (H : Hp) (s : Shared) (E : XK) (u : Value) (s' : Shared) : Prop :=
  ∃ (a : Addr) (B : Heap) (H' : Hp) (cls : Value) (d : Option Addr), u = .ref a ∧ HandSPX.FlyingZ B outer a (Zk B H' cls d) s'.heap ∧ HOk P w H' B ∧ UB (frs outer) H H' s.heap B s'.heap ∧ H' a = none ∧ s'.os = s.os ∧ AllBare s'.gens ∧ E cls d H'
section
variable {X : Cx} {pins : List (Addr × Obj)} {σ : L2.St} {H : Hp} {sI s s' : Shared} {B : Heap} {W : WX} {E : XK}
theorem XE.ofN {u : Value} (x : L2N.XE X W u s') : XE X W u s' := by
  obtain ⟨a, B, sI, pins, σ, H, cls, d, e, I, nb, up, sky, r⟩ := x
  exact ⟨a, B, sI, pins, σ, H, cls, d, e, I, nb, up, sky_imp (fun _ z => Zk.ofN z) sky, r⟩
theorem takesN (tk : Takes X W) : L2N.Takes X W := fun u s' x => tk u s' (XE.ofN x)
theorem XE.new {a : Addr} {oe : Obj} {vs : Array Value} {cls : Value} {d : Option Addr} (I : Inv X pins σ H sI) (k : ∀ b o, sI.heap.get? b = some o → s'.heap.get? b = some o) (hne : sI.heap.get? a = none) (he : s'.heap.get? a = some oe)
    (hz : Zk (PySem.W.hideAll sI.heap (frs X.stack)) H cls d oe) (hd : oe.data = .fields vs) (h1 : vs[1]? = some .none) (na : H a = none) (os : s'.os = sI.os) (ag : AllBare s'.gens) (w : W cls d σ H) : XE X W (.ref a) s' := by
  refine ⟨a, PySem.W.hideAll sI.heap (frs X.stack), sI, pins, σ, H, cls, d, rfl, I, fun b o e hb => PySem.W.hideAll_get _ e hb, Heap.UpToSlots.of_keeps k,
    .inl ⟨fun b o e => k b o (PySem.W.of_hideAll _ e), ?_, ?_, oe, vs, he, hz, hd, h1⟩, na, os, ag, w⟩
  · cases q : (PySem.W.hideAll sI.heap (frs X.stack)).get? a with
    | none => rfl
    | some o =>
      have z := PySem.W.of_hideAll _ q
      rw [hne] at z; cases z
  · exact Heap.FunFrames.of_keeps (fun b o e _ => ⟨o, k b o e, rfl⟩) (funFrames_none I.stack fun b hb => PySem.W.hideAll_none _ hb)
theorem XE.leave (hs : X.stack = X.env :: X.outer) (hf : X.env.frame = some X.env.locals) (hex : X.ex = []) {E₁ : Value → Shared → Prop} (hW : ∀ cls d σ H, W cls d σ H → E cls d H) {u : Value} (x : XE X W u s') :
    wpAny (model X.prog X.w) X.A (leaving X.env u) (fun _ s'' => CX X.prog X.w X.outer X.H_0 X.s_0 E u s'') E₁ s' := by
  obtain ⟨a, B, sI, pins, σ, H, cls, d, rfl, I, nb, up, sky, na, os, ag, w⟩ := x
  have hfr : X.A.frames = some (X.env :: X.outer) := by rw [I.ok.frames, hs]
  have nst : ∀ b o, X.s_0.heap.get? b = some o → b ∉ X.fs → b ∉ frs X.stack := fun b o e hb hm => by
    rcases List.mem_cons.mp (I.stkSub b hm) with z | z
    · have h1 := Heap.lt_size e
      have h2 := I.ok.above
      rw [z] at h1
      exact absurd (Nat.lt_of_lt_of_le h1 h2) (Nat.lt_irrefl _)
    · exact hb z
  have hex' : ∀ b, b ∉ X.ex := fun b hb => by rw [hex] at hb; cases hb
  have hokB := I.inGround nb
  have fin : ∀ h', HandSPX.FlyingZ B X.outer a (Zk B H cls d) h' → s'.heap.UpToSlots h' → CX X.prog X.w X.outer X.H_0 X.s_0 E (.ref a) { s' with heap := h' } := fun h' fl up' => by
    refine ⟨a, B, H, cls, d, rfl, fl, hokB, ⟨fun b o e n hb => nb b o (I.base.keep b o e n hb (hex' b)) (nst b o e hb), fun b o e hb => ?_, fun b o e n => I.base.free b o e n (hex' b), fun b o e hb => ?_, I.base.tups, I.base.frzs, I.base.tbls⟩,
      na, os.trans I.os, ag, hW _ _ _ _ w⟩
    · obtain ⟨_, o₀, e₀, hnf⟩ := I.ok.funs.mem hb
      rw [e] at e₀; cases e₀
      obtain ⟨sl, e1⟩ := I.base.slot b o e (I.ok.frf b hb) hb (hex' b)
      obtain ⟨sl2, e2⟩ := up b _ e1 hnf
      obtain ⟨sl3, e3⟩ := up' b _ e2 hnf
      exact ⟨sl3, e3⟩
    · obtain ⟨o', e1⟩ := I.base.there b o e (hex' b)
      exact ⟨o', nb b o' e1 (nst b o e hb)⟩
  rw [hs] at sky
  rcases sky with ⟨hB, hn, hl, oe, vs, he, hz, hd, h1⟩ | fl | hd
  · exact PXN.leaving_firstZ Zk.steady hfr hl hf he hB hn hd h1 hz fin
  · exact PXN.leaves_onZ Zk.steady hfr hf fl fin
  · exact HandSPX.leaves_heldZ hf hd fin
theorem Sky.land {M : Model} {A : Around} {E₁ : Value → Shared → Prop} {env : Env} {outer : List Env} {L a : Addr} {Z : Obj → Prop} {Q : Unit → Shared → Prop} (hZ : PXN.Steady1 Z) (hfr : A.frames = some (env :: outer)) (hf : env.frame = some L)
    (x : Sky B (env :: outer) a Z L s.heap) (hQ : ∀ h', HandSPX.FlyingZ B (env :: outer) a Z h' → s.heap.UpToSlots h' → Q () { s with heap := h' }) :
    wpAny M A (noteFrame (.ref a) env) (fun _ s₂ => wpAny M A (setFlight (.ref a) none) Q E₁ s₂) E₁ s := L2N.Sky.land hZ hfr hf x hQ
end
section
variable {X : Cx} {pins : List (Addr × Obj)} {σ : L2.St} {H : Hp} {s : Shared} {i : Nat} {n : Str}
end
section
variable {X : Cx} {x n : Str} {c : Value} {i : Nat} {body suite : List Stmt} {b₀ : Stmt} {np pos pos' : Pos} {tb : WX → TS} {ts : Addr → Value → Option Addr → TS} {Wout : WX}
end
/-! ### an error with a context is handled -/
section
variable {prog : Program} {w : World} {A : Around} {E : Value → Shared → Prop} {s : Shared}
end
section
variable {X : Cx} {x n : Str} {c : Value} {i : Nat} {body suite : List Stmt} {b₀ : Stmt} {np pos pos' : Pos} {tb : WX → TS} {ts : Addr → Value → Option Addr → TS} {Wout : WX}
end
end L2K
namespace Tm
open PySem PySem.Spec PyProof.Rows L2
section
variable {X : Cx} {K : PySem.W.Frag} {W : WX} {fI fI2 : Addr} {C f f2 : Str} {file : Str} {B newId initId B2 newId2 initId2 : String} {bmB bmB2 : List Value}
end
section
variable {X : Cx} {K : PySem.W.Frag} {W : WX}
end
end Tm

namespace Tm
open PySem PySem.Spec PyProof.Rows L2
structure Env (K : PySem.W.Frag) (mg : Str → Option Value) (w : World) : Prop where
  g_law : mg "law" = some (.ref (He.ga K "law"))
  g_isinstance : mg "isinstance" = none
  g_int : mg "int" = none
  g_bool : mg "bool" = none
  g_is_integer : mg "is_integer" = some (.ref (He.ga K "is_integer"))
  g_all : mg "all" = none
  g_BARRED : mg "BARRED" = some (.ref (He.ga K "BARRED"))
  g_str : mg "str" = none
  g_MOST_LETTERS : ∃ t, mg "MOST_LETTERS" = some (.int 4 t)
  g_LETTERS : ∃ t, mg "LETTERS" = some (.str "abcdefghijklmnopqrstuvwxyz" t)
  g_len : mg "len" = none
  g_list : mg "list" = none
  g_tuple : mg "tuple" = none
  g_is_number : mg "is_number" = some (.ref (He.ga K "is_number"))
  g_is_name : mg "is_name" = some (.ref (He.ga K "is_name"))
  g_is_length : mg "is_length" = some (.ref (He.ga K "is_length"))
  g_enumerate : mg "enumerate" = none
  g_is_sequence : mg "is_sequence" = some (.ref (He.ga K "is_sequence"))
  g_InvalidStory : mg "InvalidStory" = some (.ref (He.ga K "InvalidStory"))
  g_is_occasion : mg "is_occasion" = some (.ref (He.ga K "is_occasion"))
  g_need_occasions : mg "need_occasions" = some (.ref (He.ga K "need_occasions"))
  g_InvalidUnsure : mg "InvalidUnsure" = some (.ref (He.ga K "InvalidUnsure"))
  g_is_unsure : mg "is_unsure" = some (.ref (He.ga K "is_unsure"))
  g_range : mg "range" = none
  g_sorted : mg "sorted" = none
  g_Story : mg "Story" = some (.ref (He.ga K "Story"))
  g_choices : mg "choices" = some (.ref (He.ga K "choices"))
  g_filled : mg "filled" = some (.ref (He.ga K "filled"))
  g_abs : mg "abs" = none
  g__law_draw : mg "_law_draw" = some (.ref (He.ga K "_law_draw"))
  g__law_mixed : mg "_law_mixed" = some (.ref (He.ga K "_law_mixed"))
  g__law_pick : mg "_law_pick" = some (.ref (He.ga K "_law_pick"))
  g__law_names : mg "_law_names" = some (.ref (He.ga K "_law_names"))
  g__law_kind : mg "_law_kind" = some (.ref (He.ga K "_law_kind"))
  g_min : mg "min" = none
  g_set : mg "set" = none
  g_zip : mg "zip" = none
  g__law_deal : mg "_law_deal" = some (.ref (He.ga K "_law_deal"))
  g__law_rule : mg "_law_rule" = some (.ref (He.ga K "_law_rule"))
  g__law_unsure : mg "_law_unsure" = some (.ref (He.ga K "_law_unsure"))
  g__law_choices : mg "_law_choices" = some (.ref (He.ga K "_law_choices"))
  g_fillings : mg "fillings" = some (.ref (He.ga K "fillings"))
  g_Unsure : mg "Unsure" = some (.ref (He.ga K "Unsure"))
  g__law_filled : mg "_law_filled" = some (.ref (He.ga K "_law_filled"))
  cl_Story : Cls K (He.ga K "Story")
  mk_Story : Mk K (He.ga K "Story") (He.ma K (He.ga K "Story") "__init__")
  na_Story_occasions : NoAttr K (He.ga K "Story") "occasions"
  m_Story___init__ : Meth K (He.ga K "Story") "__init__" (He.ma K (He.ga K "Story") "__init__")
  cl_Unsure : Cls K (He.ga K "Unsure")
  mk_Unsure : Mk K (He.ga K "Unsure") (He.ma K (He.ga K "Unsure") "__init__")
  na_Unsure_occasions : NoAttr K (He.ga K "Unsure") "occasions"
  m_Unsure___init__ : Meth K (He.ga K "Unsure") "__init__" (He.ma K (He.ga K "Unsure") "__init__")
  e_Story___init___0 : (tupAtB K (emptyDfl (fun K => He.ma K (He.ga K "Story") "__init__") 0 K) []) = true
  e_BARRED : (tupAtB K (He.ga K "BARRED") [.str "any", .str "none", .str "anew", .str "lift", .str "term"]) = true
  o_Story : (ownB K (He.ga K "Story")) = true
  o_Unsure : (ownB K (He.ga K "Unsure")) = true
  b_Story : (bltB K (He.ga K "Story")) = true
  s_Story_Story : (subB K (He.ga K "Story") (He.ga K "Story") true) = true
  s_Unsure_Story : (subB K (He.ga K "Unsure") (He.ga K "Story") false) = true
  f_is_integer : ∃ fd, FunD K "is_integer" "is_integer" (defArgs s_is_integer) (defBody s_is_integer) (defScope s_is_integer) [] [] (He.ga K "is_integer") fd
  f_is_number : ∃ fd, FunD K "is_number" "is_number" (defArgs s_is_number) (defBody s_is_number) (defScope s_is_number) [] [] (He.ga K "is_number") fd
  f_is_length : ∃ fd, FunD K "is_length" "is_length" (defArgs s_is_length) (defBody s_is_length) (defScope s_is_length) [] [] (He.ga K "is_length") fd
  f_is_name : ∃ fd, FunD K "is_name" "is_name" (defArgs s_is_name) (defBody s_is_name) (defScope s_is_name) [] [] (He.ga K "is_name") fd
  f_is_sequence : ∃ fd, FunD K "is_sequence" "is_sequence" (defArgs s_is_sequence) (defBody s_is_sequence) (defScope s_is_sequence) [] [] (He.ga K "is_sequence") fd
  f_is_occasion : ∃ fd, FunD K "is_occasion" "is_occasion" (defArgs s_is_occasion) (defBody s_is_occasion) (defScope s_is_occasion) [] [] (He.ga K "is_occasion") fd
  f_need_occasions : ∃ fd, FunD K "need_occasions" "need_occasions" (defArgs s_need_occasions) (defBody s_need_occasions) (defScope s_need_occasions) [] [] (He.ga K "need_occasions") fd
  f_Story___init__ : ∃ fd, FunD K "__init__" "Story.__init__" (defArgs s_Story___init__) (defBody s_Story___init__) (defScope s_Story___init__) [.ref (emptyDfl (fun K => He.ma K (He.ga K "Story") "__init__") 0 K)] [] (He.ma K (He.ga K "Story") "__init__") fd
  f_is_unsure : ∃ fd, FunD K "is_unsure" "is_unsure" (defArgs s_is_unsure) (defBody s_is_unsure) (defScope s_is_unsure) [] [] (He.ga K "is_unsure") fd
  f_Unsure___init__ : ∃ fd, FunD K "__init__" "Unsure.__init__" (defArgs s_Unsure___init__) (defBody s_Unsure___init__) (defScope s_Unsure___init__) [] [] (He.ma K (He.ga K "Unsure") "__init__") fd
  f_choices : ∃ fd, FunD K "choices" "choices" (defArgs s_choices) (defBody s_choices) (defScope s_choices) [] [] (He.ga K "choices") fd
  f_filled : ∃ fd, FunD K "filled" "filled" (defArgs s_filled) (defBody s_filled) (defScope s_filled) [] [] (He.ga K "filled") fd
  f_fillings : ∃ fd, FunD K "fillings" "fillings" (defArgs s_fillings) (defBody s_fillings) (defScope s_fillings) [] [] (He.ga K "fillings") fd
  f__law_deal : ∃ fd, FunD K "_law_deal" "_law_deal" (defArgs s__law_deal) (defBody s__law_deal) (defScope s__law_deal) [] [] (He.ga K "_law_deal") fd
  f__law_draw : ∃ fd, FunD K "_law_draw" "_law_draw" (defArgs s__law_draw) (defBody s__law_draw) (defScope s__law_draw) [] [] (He.ga K "_law_draw") fd
  f__law_pick : ∃ fd, FunD K "_law_pick" "_law_pick" (defArgs s__law_pick) (defBody s__law_pick) (defScope s__law_pick) [] [] (He.ga K "_law_pick") fd
  f__law_mixed : ∃ fd, FunD K "_law_mixed" "_law_mixed" (defArgs s__law_mixed) (defBody s__law_mixed) (defScope s__law_mixed) [] [] (He.ga K "_law_mixed") fd
  f__law_names : ∃ fd, FunD K "_law_names" "_law_names" (defArgs s__law_names) (defBody s__law_names) (defScope s__law_names) [] [] (He.ga K "_law_names") fd
  f__law_kind : ∃ fd, FunD K "_law_kind" "_law_kind" (defArgs s__law_kind) (defBody s__law_kind) (defScope s__law_kind) [] [] (He.ga K "_law_kind") fd
  f__law_rule : ∃ fd, FunD K "_law_rule" "_law_rule" (defArgs s__law_rule) (defBody s__law_rule) (defScope s__law_rule) [] [] (He.ga K "_law_rule") fd
  f__law_unsure : ∃ fd, FunD K "_law_unsure" "_law_unsure" (defArgs s__law_unsure) (defBody s__law_unsure) (defScope s__law_unsure) [] [] (He.ga K "_law_unsure") fd
  f__law_choices : ∃ fd, FunD K "_law_choices" "_law_choices" (defArgs s__law_choices) (defBody s__law_choices) (defScope s__law_choices) [] [] (He.ga K "_law_choices") fd
  f__law_filled : ∃ fd, FunD K "_law_filled" "_law_filled" (defArgs s__law_filled) (defBody s__law_filled) (defScope s__law_filled) [] [] (He.ga K "_law_filled") fd
  f_law : ∃ fd, FunD K "law" "law" (defArgs s_law) (defBody s_law) (defScope s_law) [] [] (He.ga K "law") fd
theorem env_of {K : PySem.W.Frag} {h : Heap} {mg : Str → Option Value} {w : World} (X : K.In h) (G : h.Ns mainGlobals mg) (c : SaysM fa ex fn tabs w K) : Env K mg w where
  g_law := He.glo_ok X G (c.a.fact 0 (f := .glo "law") rfl)
  g_isinstance := He.free_ok X G (c.a.fact 1 (f := .free "isinstance") rfl)
  g_int := He.free_ok X G (c.a.fact 2 (f := .free "int") rfl)
  g_bool := He.free_ok X G (c.a.fact 3 (f := .free "bool") rfl)
  g_is_integer := He.glo_ok X G (c.a.fact 4 (f := .glo "is_integer") rfl)
  g_all := He.free_ok X G (c.a.fact 5 (f := .free "all") rfl)
  g_BARRED := He.glo_ok X G (c.a.fact 6 (f := .glo "BARRED") rfl)
  g_str := He.free_ok X G (c.a.fact 7 (f := .free "str") rfl)
  g_MOST_LETTERS := He.int_ok X G (c.a.fact 8 (f := .int "MOST_LETTERS" 4) rfl)
  g_LETTERS := He.str_ok X G (c.a.fact 9 (f := .str "LETTERS" "abcdefghijklmnopqrstuvwxyz") rfl)
  g_len := He.free_ok X G (c.a.fact 10 (f := .free "len") rfl)
  g_list := He.free_ok X G (c.a.fact 11 (f := .free "list") rfl)
  g_tuple := He.free_ok X G (c.a.fact 12 (f := .free "tuple") rfl)
  g_is_number := He.glo_ok X G (c.a.fact 13 (f := .glo "is_number") rfl)
  g_is_name := He.glo_ok X G (c.a.fact 14 (f := .glo "is_name") rfl)
  g_is_length := He.glo_ok X G (c.a.fact 15 (f := .glo "is_length") rfl)
  g_enumerate := He.free_ok X G (c.a.fact 16 (f := .free "enumerate") rfl)
  g_is_sequence := He.glo_ok X G (c.a.fact 17 (f := .glo "is_sequence") rfl)
  g_InvalidStory := He.glo_ok X G (c.a.fact 18 (f := .glo "InvalidStory") rfl)
  g_is_occasion := He.glo_ok X G (c.a.fact 19 (f := .glo "is_occasion") rfl)
  g_need_occasions := He.glo_ok X G (c.a.fact 20 (f := .glo "need_occasions") rfl)
  g_InvalidUnsure := He.glo_ok X G (c.a.fact 21 (f := .glo "InvalidUnsure") rfl)
  g_is_unsure := He.glo_ok X G (c.a.fact 22 (f := .glo "is_unsure") rfl)
  g_range := He.free_ok X G (c.a.fact 23 (f := .free "range") rfl)
  g_sorted := He.free_ok X G (c.a.fact 24 (f := .free "sorted") rfl)
  g_Story := He.glo_ok X G (c.a.fact 25 (f := .glo "Story") rfl)
  g_choices := He.glo_ok X G (c.a.fact 26 (f := .glo "choices") rfl)
  g_filled := He.glo_ok X G (c.a.fact 27 (f := .glo "filled") rfl)
  g_abs := He.free_ok X G (c.a.fact 28 (f := .free "abs") rfl)
  g__law_draw := He.glo_ok X G (c.a.fact 29 (f := .glo "_law_draw") rfl)
  g__law_mixed := He.glo_ok X G (c.a.fact 30 (f := .glo "_law_mixed") rfl)
  g__law_pick := He.glo_ok X G (c.a.fact 31 (f := .glo "_law_pick") rfl)
  g__law_names := He.glo_ok X G (c.a.fact 32 (f := .glo "_law_names") rfl)
  g__law_kind := He.glo_ok X G (c.a.fact 33 (f := .glo "_law_kind") rfl)
  g_min := He.free_ok X G (c.a.fact 34 (f := .free "min") rfl)
  g_set := He.free_ok X G (c.a.fact 35 (f := .free "set") rfl)
  g_zip := He.free_ok X G (c.a.fact 36 (f := .free "zip") rfl)
  g__law_deal := He.glo_ok X G (c.a.fact 37 (f := .glo "_law_deal") rfl)
  g__law_rule := He.glo_ok X G (c.a.fact 38 (f := .glo "_law_rule") rfl)
  g__law_unsure := He.glo_ok X G (c.a.fact 39 (f := .glo "_law_unsure") rfl)
  g__law_choices := He.glo_ok X G (c.a.fact 40 (f := .glo "_law_choices") rfl)
  g_fillings := He.glo_ok X G (c.a.fact 41 (f := .glo "fillings") rfl)
  g_Unsure := He.glo_ok X G (c.a.fact 42 (f := .glo "Unsure") rfl)
  g__law_filled := He.glo_ok X G (c.a.fact 43 (f := .glo "_law_filled") rfl)
  cl_Story := He.cls_ok (c.a.fact 44 (f := .cls "Story") rfl)
  mk_Story := He.mkr_ok (c.a.fact 45 (f := .mkr "Story") rfl)
  na_Story_occasions := He.noat_ok (c.a.fact 46 (f := .noat "Story" "occasions") rfl)
  m_Story___init__ := He.meth_ok (c.a.fact 47 (f := .meth "Story" "__init__") rfl)
  cl_Unsure := He.cls_ok (c.a.fact 48 (f := .cls "Unsure") rfl)
  mk_Unsure := He.mkr_ok (c.a.fact 49 (f := .mkr "Unsure") rfl)
  na_Unsure_occasions := He.noat_ok (c.a.fact 50 (f := .noat "Unsure" "occasions") rfl)
  m_Unsure___init__ := He.meth_ok (c.a.fact 51 (f := .meth "Unsure" "__init__") rfl)
  e_Story___init___0 := List.all_eq_true.mp c.ex (fun K => tupAtB K (emptyDfl (fun K => He.ma K (He.ga K "Story") "__init__") 0 K) []) (List.mem_of_getElem? (i := 0) rfl)
  e_BARRED := List.all_eq_true.mp c.ex (fun K => tupAtB K (He.ga K "BARRED") [.str "any", .str "none", .str "anew", .str "lift", .str "term"]) (List.mem_of_getElem? (i := 1) rfl)
  o_Story := List.all_eq_true.mp c.ex (fun K => ownB K (He.ga K "Story")) (List.mem_of_getElem? (i := 2) rfl)
  o_Unsure := List.all_eq_true.mp c.ex (fun K => ownB K (He.ga K "Unsure")) (List.mem_of_getElem? (i := 3) rfl)
  b_Story := List.all_eq_true.mp c.ex (fun K => bltB K (He.ga K "Story")) (List.mem_of_getElem? (i := 4) rfl)
  s_Story_Story := List.all_eq_true.mp c.ex (fun K => subB K (He.ga K "Story") (He.ga K "Story") true) (List.mem_of_getElem? (i := 5) rfl)
  s_Unsure_Story := List.all_eq_true.mp c.ex (fun K => subB K (He.ga K "Unsure") (He.ga K "Story") false) (List.mem_of_getElem? (i := 6) rfl)
  f_is_integer := c.a.def_ 0 (d := d_is_integer) rfl
  f_is_number := c.a.def_ 1 (d := d_is_number) rfl
  f_is_length := c.a.def_ 2 (d := d_is_length) rfl
  f_is_name := c.a.def_ 3 (d := d_is_name) rfl
  f_is_sequence := c.a.def_ 4 (d := d_is_sequence) rfl
  f_is_occasion := c.a.def_ 5 (d := d_is_occasion) rfl
  f_need_occasions := c.a.def_ 6 (d := d_need_occasions) rfl
  f_Story___init__ := c.a.def_ 7 (d := d_Story___init__) rfl
  f_is_unsure := c.a.def_ 8 (d := d_is_unsure) rfl
  f_Unsure___init__ := c.a.def_ 9 (d := d_Unsure___init__) rfl
  f_choices := c.a.def_ 10 (d := d_choices) rfl
  f_filled := c.a.def_ 11 (d := d_filled) rfl
  f_fillings := c.a.def_ 12 (d := d_fillings) rfl
  f__law_deal := c.a.def_ 13 (d := d__law_deal) rfl
  f__law_draw := c.a.def_ 14 (d := d__law_draw) rfl
  f__law_pick := c.a.def_ 15 (d := d__law_pick) rfl
  f__law_mixed := c.a.def_ 16 (d := d__law_mixed) rfl
  f__law_names := c.a.def_ 17 (d := d__law_names) rfl
  f__law_kind := c.a.def_ 18 (d := d__law_kind) rfl
  f__law_rule := c.a.def_ 19 (d := d__law_rule) rfl
  f__law_unsure := c.a.def_ 20 (d := d__law_unsure) rfl
  f__law_choices := c.a.def_ 21 (d := d__law_choices) rfl
  f__law_filled := c.a.def_ 22 (d := d__law_filled) rfl
  f_law := c.a.def_ 23 (d := d_law) rfl
end Tm

/-! N40: dicts with tuple keys: equality, copies, walks of pairs, values, keys. -/
namespace PySem.W
open PySem PySem.Calls PyProof.Rows PyProof.V PySem.Spec
section
variable {prog : Program} {w : World} {K : Type} [DecidableEq K] {knd : HeapKind prog w K} {A : Around} {E : Value → Shared → Prop} {s : Shared}
end
end PySem.W
namespace L2
open PySem PySem.Spec PyProof.Rows
section
variable {X : Cx} {pins : List (Addr × Obj)} {σ : St} {H : Hp} {s : Shared} {d : Addr} {o : Obj}
end
section
variable {P : Program} {w : World} {K : PySem.W.Frag} {tg : Expr} {d : Addr} {o : Obj} {es : Array DictEntry} {ep : Nat}
end
/-- what is walked of a dict -/
inductive DW where
  | items
  | vals
  | keys
section
variable {X : Cx} {tg e : Expr} {td : TE} {apos cpos : Pos}
/-- what was locked in a statement may be open behind it -/
def UnlP (H0 : Hp) (φ : Hp → Prop) (H' : Hp) : Prop := φ H' ∨ ∃ d od u, H' d = some (.frz od u) ∧ (∀ o' u', H0 d ≠ some (.frz o' u')) ∧ φ (upd H' d u)
end
end L2

/-! N41: dicts with tuple keys, over trees and cells: walks. -/
namespace Tm
open PySem PySem.Spec PyProof.Rows L2
/-- the dict at d is locked, or open again; all else stays -/
structure LkD (d : Addr) (kvs : List (List Key × V)) (H H2 : Hp) : Prop where
  ne : ∀ b, b ≠ d → H2 b = H b
  h1 : DtAt H d kvs
  h2 : DtAt H2 d kvs
section
variable {K : PySem.W.Frag} {A : ASet} {d : Addr} {kvs : List (List Key × V)} {H H2 : Hp}
theorem LkD.dom (L : LkD d kvs H H2) {a : Addr} (h : ∃ o, H a = some o) : ∃ o, H2 a = some o := by
  by_cases e : a = d
  · subst e
    rcases L.h2 with q | ⟨o, q⟩ <;> exact ⟨_, q⟩
  · obtain ⟨o, h⟩ := h
    exact ⟨o, (L.ne a e).trans h⟩
end
section
variable {K : PySem.W.Frag} {W : WX} {cf : Cf} {bs : Bx} {fl : Nat} {m m1 m' : List Addr} {S S1 S' : St} {H H1 H2 H' : Hp} {σ σ' : L2.St} {ρ ρ' : Ro} {d : Addr} {kvs : List (List Key × V)} {n : Nat}
end
/-! ### what is walked -/
def kyT : Key → T
  | .inl i => .int i
  | .inr x => .str x
def ksT (k : List Key) : T := .tup (k.map kyT)
def dwL : DW → List (List Key) → List T → List T
  | .items, ks, l => (ks.zip l).map fun p => .tup [ksT p.1, p.2]
  | .vals, _, l => l
  | .keys, ks, _ => ks.map ksT
section
variable {K : PySem.W.Frag} {bs : Bx} {m : List Addr} {H : Hp}
end
/-! ### for .. in d, d.values(), d.items() -/
def unlS (n : Nat) (S : St) : Option St := match S[n]? with
  | some (.lk t) => some (S.set n t)
  | _ => none
def unlO (n : Nat) : Ou → Ou
  | .nx ρ S => match unlS n S with
    | some S' => .nx ρ S'
    | none => .st
  | .br ρ S => match unlS n S with
    | some S' => .br ρ S'
    | none => .st
  | .ct ρ S => match unlS n S with
    | some S' => .ct ρ S'
    | none => .st
  | .rt t S => match unlS n S with
    | some S' => .rt t S'
    | none => .st
  | .ex _ _ _ => .st
  | .st => .st
def noX : Ou → Ou
  | .ex _ _ _ => .st
  | o => o
def sForD (w : DW) (fd : Ev T) (g : Tg) (b : Sv) : Sv := fun c ρ S => ouE (fd c ρ S) ρ fun x S => match x with
  | .dT ks l => noX (forL g b (dwL w ks l) c ρ S)
  | .ref n => match S[n]? with
    | some (.dT ks l) => unlO n (forL g b (dwL w ks l) c ρ (S.set n (.lk (.dT ks l))))
    | some (.lk (.dT ks l)) => forL g b (dwL w ks l) c ρ S
    | _ => .st
  | _ => .st
section
variable {X : Cx} {K : PySem.W.Frag} {W : WX} {e tg : Expr} {fd : Ev T} {cf : Cf} {bs : Bx} {fl : Nat} {m m1 m' : List Addr} {S S1 S' : St} {H H1 H2 H' : Hp} {σ σ' : L2.St} {ρ ρ' : Ro} {d : Addr} {kvs : List (List Key × V)} {n : Nat} {D : Ends}
def unlD (H0 : Hp) (D : Ends) : Ends := ⟨fun σ' => UnlP H0 (D.nx σ'), fun v => UnlP H0 (D.rt v), fun σ' => UnlP H0 (D.bk σ'), fun σ' => UnlP H0 (D.ct σ')⟩
theorem OuOk.open {H0 : Hp} {o : Ou} (h : OuOk K W cf bs m H D o) : OuOk K W cf bs m H (unlD H0 D) o := by
  cases o with
  | nx ρ' S' => exact fun σ' m' H' F' k' => .inl (h σ' m' H' F' k')
  | br ρ' S' => exact fun σ' m' H' F' k' => .inl (h σ' m' H' F' k')
  | ct ρ' S' => exact fun σ' m' H' F' k' => .inl (h σ' m' H' F' k')
  | rt t S' => exact fun v m' H' cs k' r => .inl (h v m' H' cs k' r)
  | ex x ρ' S' => exact h
  | st => exact h
variable {body : List Stmt} {g : Tg} {b : Sv} {vs : List Nat} {pos apos cpos : Pos}
end
end Tm

/-! N42: dicts with tuple keys: comprehensions, copies, ==, displays; pairs of numbers: <, >, max. -/
namespace L2
open PySem PySem.Spec PyProof.Rows
/-! ### copies -/
def okK (n : Nat) (k : List Key) : Bool := k.length == n && k.all fun x => match x with
  | .inl i => decide (0 ≤ i ∧ i ≤ 3)
  | .inr _ => false
/-- keys of one length, at most four numbers from 0 to 3: no two hash alike -/
def okKs (ks : List (List Key)) : Bool := decide ks.Nodup && decide ((ks.headD []).length ≤ 4) && ks.all (okK (ks.headD []).length)
section
variable {X : Cx}
/-! ### == -/
/-! ### a display of one pair -/
/-! ### pairs of numbers -/
end
end L2

/-! N43: dicts with tuple keys, over trees and cells: comprehensions, copies, ==, displays; pairs of numbers. -/
namespace Tm
open PySem PySem.Spec PyProof.Rows L2
/-! ### comprehensions -/
def mLcD (vs : List Nat) (w : DW) (fd : Ev T) (g : Tg) (tt : Ev Bool) (te : Ev T) : Ev T := fd.bind fun x c ρ S => match x with
  | .dT ks l => match lcL g tt te (dwL w ks l) [] c (wipeS vs ρ) S with
    | .ok acc S' => .ok (.lst acc) S'
    | _ => .st
  | .ref n => match S[n]? with
    | some (.dT ks l) => match lcL g tt te (dwL w ks l) [] c (wipeS vs ρ) (S.set n (.lk (.dT ks l))) with
      | .ok acc S' => match unlS n S' with
        | some S2 => .ok (.lst acc) S2
        | none => .st
      | _ => .st
    | some (.lk (.dT ks l)) => match lcL g tt te (dwL w ks l) [] c (wipeS vs ρ) S with
      | .ok acc S' => .ok (.lst acc) S'
      | _ => .st
    | _ => .st
  | _ => .st
section
variable {X : Cx} {K : PySem.W.Frag} {W : WX} {fd : Ev T} {g : Tg} {tt : Ev Bool} {te : Ev T} {vs : List Nat}
variable {elt tg e : Expr} {ifs : List Expr} {scope : Scope} {own : List (Str × Nat)} {pos apos cpos : Pos}
end
/-! ### dict(d) -/
/-- a new cell -/
def mDcpC (fa : Ev T) : Ev T := fa.bind fun x _ _ S => match vw S x with
  | .dT ks l => if okKs ks = true then .ok (.ref S.length) (S ++ [.dT ks l]) else .st
  | _ => .st
section
variable {X : Cx} {K : PySem.W.Frag} {W : WX} {e a b kx vx : Expr} {fa fk fv : Ev T} {pos np : Pos}
/-! ### == -/
/-! ### a display of one pair -/
def mDispT (fk fv : Ev T) : Ev T := fun c ρ S => match fk c ρ S with
  | .ok x S1 => match fv c ρ S1 with
    | .ok y S2 => match x with
      | .tup ys => match keysT ys with
        | some k => .ok (.dT [k] [y]) S2
        | none => .st
      | _ => .st
    | _ => .st
  | _ => .st
/-! ### pairs of numbers -/
def pairT : T → Option (Int × Int)
  | .tup [.int a, .int b] => some (a, b)
  | _ => none
theorem pairT_of {t : T} {p : Int × Int} (h : pairT t = some p) : t = .tup [.int p.1, .int p.2] := by
  unfold pairT at h
  split at h
  · cases h; rfl
  · cases h
theorem Rep.pair {A : ASet} {H : Hp} {v : V} {t : T} {p : Int × Int} (r : Rep K A H v t) (h : pairT t = some p) : ∃ b, v = .ref b ∧ SqT K H b [.int p.1, .int p.2] := by
  rw [pairT_of h] at r
  cases r with
  | tup hh rs =>
    cases rs with
    | cons r1 rs =>
      cases rs with
      | cons r2 rs =>
        cases rs
        cases r1
        cases r2
        exact ⟨_, rfl, .inl (.inl hh)⟩
end
end Tm

/-! N44: dicts with tuple keys: equations by value. -/
namespace Tm
open PySem PySem.Spec PyProof.Rows L2
section
variable {c : Cf} {ρ : Ro} {S S' : St} {x y : T} {f g te : Ev T} {tt : Ev Bool} {vs : List Nat}
def kForD (w : DW) (q : Tg) (b : Sv) (c : Cf) (ρ : Ro) (x : T) (S : St) : Ou := match x with
  | .dT ks l => noX (forL q b (dwL w ks l) c ρ S)
  | .ref n => match S[n]? with
    | some (.dT ks l) => unlO n (forL q b (dwL w ks l) c ρ (S.set n (.lk (.dT ks l))))
    | some (.lk (.dT ks l)) => forL q b (dwL w ks l) c ρ S
    | _ => .st
  | _ => .st
theorem e_forD {w : DW} {q : Tg} {b : Sv} : sForD w f q b c ρ S = ouE (f c ρ S) ρ (kForD w q b c ρ) := rfl
theorem e_forDt {w : DW} {q : Tg} {b : Sv} {ks : List (List Key)} {l : List T} : kForD w q b c ρ (.dT ks l) S = noX (forL q b (dwL w ks l) c ρ S) := rfl
theorem e_noXn : noX (.nx ρ S) = .nx ρ S := rfl
theorem e_noXr {t : T} : noX (.rt t S) = .rt t S := rfl
def kDcp (x : T) (S : St) : Rs T := match vw S x with
  | .dT ks l => if okKs ks = true then .ok (.ref S.length) (S ++ [.dT ks l]) else .st
  | _ => .st
theorem e_dcpC : mDcpC f c ρ S = (f c ρ S).bd kDcp := by unfold mDcpC; simp only [ap_bind] <;> rfl
def kDt2 (x : T) (r : Rs T) : Rs T := match r with
  | .ok y S2 => match x with
    | .tup ys => match keysT ys with
      | some k => .ok (.dT [k] [y]) S2
      | none => .st
    | _ => .st
  | _ => .st
def kDt (g : Ev T) (c : Cf) (ρ : Ro) (r : Rs T) : Rs T := match r with
  | .ok x S1 => kDt2 x (g c ρ S1)
  | _ => .st
theorem e_dispT : mDispT f g c ρ S = kDt g c ρ (f c ρ S) := by
  unfold mDispT kDt kDt2
  cases f c ρ S <;> rfl
theorem e_dispT1 : kDt g c ρ (.ok x S) = kDt2 x (g c ρ S) := rfl
theorem e_dispT2 {ys : List T} {k : List Key} (h : keysT ys = some k) : kDt2 (.tup ys) (.ok y S) = .ok (.dT [k] [y]) S := by
  unfold kDt2
  dsimp only
  rw [h]
def lcDR (r : Rs (List T)) : Rs T := match r with
  | .ok acc S' => .ok (.lst acc) S'
  | _ => .st
def lcDU (n : Nat) (r : Rs (List T)) : Rs T := match r with
  | .ok acc S' => match unlS n S' with
    | some S2 => .ok (.lst acc) S2
    | none => .st
  | _ => .st
def kLcD (vs : List Nat) (w : DW) (q : Tg) (tt : Ev Bool) (te : Ev T) (c : Cf) (ρ : Ro) (x : T) (S : St) : Rs T := match x with
  | .dT ks l => lcDR (lcL q tt te (dwL w ks l) [] c (wipeS vs ρ) S)
  | .ref n => match S[n]? with
    | some (.dT ks l) => lcDU n (lcL q tt te (dwL w ks l) [] c (wipeS vs ρ) (S.set n (.lk (.dT ks l))))
    | some (.lk (.dT ks l)) => lcDR (lcL q tt te (dwL w ks l) [] c (wipeS vs ρ) S)
    | _ => .st
  | _ => .st
theorem e_lcD {w : DW} {q : Tg} : mLcD vs w f q tt te c ρ S = (f c ρ S).bd (kLcD vs w q tt te c ρ) := by
  unfold mLcD
  rw [ap_bind]
  refine bd_ext fun x S1 => ?_
  unfold kLcD lcDR lcDU
  rfl
theorem e_lcDt {w : DW} {q : Tg} {ks : List (List Key)} {l : List T} : kLcD vs w q tt te c ρ (.dT ks l) S = lcDR (lcL q tt te (dwL w ks l) [] c (wipeS vs ρ) S) := rfl
theorem e_lcDR {acc : List T} : lcDR (.ok acc S) = .ok (.lst acc) S := rfl
end
end Tm

/-! N46: sorted(list of texts). -/
namespace Tm
open PySem PySem.Spec PyProof.Rows L2
def leS (a b : Str) : Prop := ltCps b.cps.toList a.cps.toList = false
instance (a b : Str) : Decidable (leS a b) := inferInstanceAs (Decidable (_ = _))
end Tm

namespace Tm
open PySem PySem.Spec PyProof.Rows L2
noncomputable section
/-! N48: list comprehensions of two clauses -/
section
variable {X : Cx} {K : PySem.W.Frag} {W : WX} {fi fi1 : Ev Src} {g g1 : Tg} {tt tt1 : Ev Bool} {te : Ev T} {vs vs1 : List Nat}
theorem lc2_turn {cf : Cf} {bs : Bx} {m1 m' : List Addr} {S' : St} {σ : L2.St} {H1 H3 : Hp} {ρw : Ro} {D : Addr} {xs : List V} {acc : List T} {x : V} {t : T} {rest : List T → St → Rs (List T)} {accE : List T} {SE : St} {Nx : Hp → Prop}
    (F3 : FAt K cf (bs.hide D) m' S' (L2.wipe σ vs) H3 ρw) (k3 : Kp cf.fl m1 H1 m' H3) (hD : H1 D = none) (hx3 : H3 D = some (.lst xs)) (rs3 : Reps K (mset (bs.hide D) m') H3 xs acc) (r3 : Rep K (mset (bs.hide D) m') H3 x t)
    (e : (match g t cf ρw S' with | some (ρ1, S1) => (match tt cf ρ1 S1 with | .ok true S2 => (match fi1 cf ρ1 S2 with | .ok src S3 => (match lcS g1 tt1 te src acc cf (wipeS vs1 ρ1) S3 with | .ok acc' S4 => rest acc' S4 | _ => .st) | _ => .st) | .ok false S2 => rest acc S2 | _ => .st) | none => .st) = .ok accE SE)
    (hN : ∀ m2 S2 H2 xs2 acc2, Lk (mset (bs.hide D) m') H3 (mset (bs.hide D) m2) H2 → FAt K cf (bs.hide D) m2 S2 (L2.wipe σ vs) H2 ρw → Kp cf.fl m1 H1 m2 H2 → H2 D = some (.lst xs2) → Reps K (mset (bs.hide D) m2) H2 xs2 acc2 → rest acc2 S2 = .ok accE SE → Nx H2) :
    tXG K vs g x (L2.wipe σ vs) H3 fun σ2 H2 => L2.wipe σ2 vs = L2.wipe σ vs ∧ tXT K W tt σ2 H2 fun b H3 => if b = true then tXI K W fi1 σ2 H3 fun J1 H4 => ∃ W1 : Nat → Nat → Hp → Prop, (∃ m, W1 0 m H4) ∧ ∀ j k H, W1 j k H →
      (J1.stop j H ∧ Nx H) ∨ (J1.go j H ∧ ∃ Nx1 : Hp → Prop, (∀ H', Nx1 H' → ∃ k', k' < k ∧ W1 (j + 1) k' H') ∧ ∀ x H', J1.yld j H x H' → tXG K vs1 g1 x (L2.wipe σ2 vs1) H' fun σ3 H5 => L2.wipe σ3 vs1 = L2.wipe σ2 vs1 ∧ tXT K W tt1 σ3 H5 fun b H6 =>
        if b = true then tX K W te σ3 H6 fun y H7 => ∃ acc, H7 D = some (.lst acc) ∧ acc.length < sizeLine ∧ Nx1 (upd H7 D (.lst (acc ++ [y]))) else Nx1 H6)
      else Nx H3 := by
  have nD : ∀ {m2 S2 H2}, Cs K (bs.hide D) m2 S2 H2 → D ∉ m2 := fun cs => (cs.hid D (List.mem_cons_self ..)).1
  cases e4 : g t cf ρw S' with
  | none => rw [e4] at e; cases e
  | some q =>
    obtain ⟨ρ4, S4⟩ := q
    rw [e4] at e
    dsimp only at e
    refine ⟨cf, bs.hide D, m', S', ρw, t, F3, r3, ρ4, S4, e4, fun σ4 H4 F4 k4 o4 => ⟨by rw [wipe_oth o4]; exact wipe_wipe σ vs, cf, bs.hide D, m', S4, ρ4, F4, ?_⟩⟩
    have hx4 : H4 D = some (.lst xs) := k4.all _ _ (fun z => nD F3.cs (List.mem_of_mem_drop z)) hx3
    have rs4 := rs3.lk k4.lk
    have k14 := k3.trans k4
    cases e5 : tt cf ρ4 S4 with
    | ex y S5 => rw [e5] at e; cases e
    | st => rw [e5] at e; cases e
    | ok b S5 =>
      rw [e5] at e
      intro v m5 H5 cs5 k5 R5
      cases R5
      have F5 := F4.kp cs5 k5
      have hx5 : H5 D = some (.lst xs) := k5.all _ _ (fun z => nD F4.cs (List.mem_of_mem_drop z)) hx4
      have rs5 := rs4.lk k5.lk
      have k15 := k14.trans k5
      cases b with
      | true =>
        dsimp only at e
        refine iteT ⟨cf, bs.hide D, m5, S5, ρ4, F5, ?_⟩
        cases e6 : fi1 cf ρ4 S5 with
        | ex y S6 => rw [e6] at e; cases e
        | st => rw [e6] at e; cases e
        | ok src S6 =>
          rw [e6] at e
          dsimp only at e
          intro J m6 H6 cs6 k6 R6
          have F6 := F5.kp cs6 k6
          have hx6 : H6 D = some (.lst xs) := k6.all _ _ (fun z => nD F5.cs (List.mem_of_mem_drop z)) hx5
          have rs6 := rs5.lk k6.lk
          have k16 := k15.trans k6
          cases e7 : lcS g1 tt1 te src acc cf (wipeS vs1 ρ4) S6 with
          | ex y S7 => rw [e7] at e; cases e
          | st => rw [e7] at e; cases e
          | ok acc' S7 =>
            rw [e7] at e
            dsimp only at e
            refine lc_all (vs := vs1) (σ := σ4) (bs := bs) (m1 := m1) (H1 := H1) (A0 := mset (bs.hide D) m6) (HI := H6) hD (fun m2 S2 H2 L cs i => R6 (bs.hide D) m2 S2 H2 L cs i) (F6.wipe vs1) k16 Lk.refl hx6 rs6 e7 fun m2 H2 xs2 F2 k2 L2' hx2 rs2 => ?_
            have LL := (((k4.trans k5).trans k6).lk).trans L2'
            exact hN m2 S7 H2 xs2 acc' LL ⟨F2.cs, F2.bn, F3.len, fun i u h => by
              obtain ⟨v, ev, r⟩ := F3.sl i u h
              exact ⟨v, ev, r.lk LL⟩⟩ k2 hx2 rs2 e
      | false => exact iteF (hN m5 S5 H5 xs acc (k4.trans k5).lk (F3.kp cs5 (k4.trans k5)) k15 hx5 rs5 e)
theorem lc2_read {σ : L2.St} {H : Hp} {Q : VK} (h : tX K W (mLc2 vs vs1 fi g tt fi1 g1 tt1 te) σ H Q) : tLc2 (tXI K W fi) (tXG K vs g) (tXT K W tt) (tXI K W fi1) (tXG K vs1 g1) (tXT K W tt1) (tX K W te) vs vs1 σ H Q := by
  obtain ⟨cf, bs, m, S, ρ, F, h⟩ := h
  refine ⟨cf, bs, m, S, ρ, F, RsOk.bind F h fun src J m1 H1 S1 F1 k1 R1 h1 => ?_⟩
  intro D hD
  cases src with
  | cell n => exact h1.elim
  | en n => exact h1.elim
  | fix l =>
    dsimp only at h1
    cases el : lcL2 vs1 g tt fi1 g1 tt1 te l [] cf (wipeS vs ρ) S1 with
    | ex y S' => rw [el] at h1; exact h1.elim
    | st => rw [el] at h1; exact h1.elim
    | ok accE SE =>
      rw [el] at h1
      have sD : Same H1 (upd H1 D (.lst [])) := same_new hD
      have F0 := (hide_at (o := .lst []) F1 hD).wipe vs
      refine ⟨fun i k H' => k = l.length - i ∧ i ≤ l.length ∧ ∃ m' S' xs acc, FAt K cf (bs.hide D) m' S' (L2.wipe σ vs) H' (wipeS vs ρ) ∧ Kp cf.fl m1 H1 m' H' ∧ Lk (mset bs m1) H1 (mset (bs.hide D) m') H' ∧ H' D = some (.lst xs) ∧ Reps K (mset (bs.hide D) m') H' xs acc ∧ lcL2 vs1 g tt fi1 g1 tt1 te (l.drop i) acc cf (wipeS vs ρ) S' = .ok accE SE,
        ⟨_, rfl, Nat.zero_le _, m1, S1, [], [], F0, Kp.of_same sD, lk_hide hD sD, upd_same, .nil, el⟩, ?_⟩
      rintro i k H' ⟨rfl, hi, m', S', xs, acc, F', k', L', hx', rs', e'⟩
      obtain ⟨w1, w2⟩ := R1 (bs.hide D) m' S' H' L' F'.cs i
      by_cases hlt : i < l.length
      · have ei : l[i]? = some l[i] := List.getElem?_eq_getElem hlt
        obtain ⟨hgo, hy⟩ := w1 _ (congrArg some ei)
        rw [List.drop_eq_getElem_cons hlt] at e'
        refine .inr ⟨hgo, fun H2 => ∃ m' S' xs acc, FAt K cf (bs.hide D) m' S' (L2.wipe σ vs) H2 (wipeS vs ρ) ∧ Kp cf.fl m1 H1 m' H2 ∧ Lk (mset bs m1) H1 (mset (bs.hide D) m') H2 ∧ H2 D = some (.lst xs) ∧ Reps K (mset (bs.hide D) m') H2 xs acc ∧ lcL2 vs1 g tt fi1 g1 tt1 te (l.drop (i + 1)) acc cf (wipeS vs ρ) S' = .ok accE SE, fun H2 q => ⟨_, by omega, rfl, hlt, q⟩, fun x H3 yl => ?_⟩
        obtain ⟨s3, r3⟩ := hy x H3 yl
        unfold lcL2 at e'
        exact lc2_turn (rest := fun a S => lcL2 vs1 g tt fi1 g1 tt1 te (l.drop (i + 1)) a cf (wipeS vs ρ) S) (F'.same s3) (k'.trans (Kp.of_same s3)) hD (s3 _ _ hx') (rs'.same s3) r3 e' fun m2 S2 H2 xs2 acc2 L2 F2 k2 hx2 rs2 e2 => ⟨m2, S2, xs2, acc2, F2, k2, (L'.trans (Lk.of_same s3)).trans L2, hx2, rs2, e2⟩
      · have hi' : i = l.length := by omega
        subst hi'
        rw [List.drop_length] at e'
        unfold lcL2 at e'
        cases e'
        exact .inl ⟨w2 (congrArg some (List.getElem?_eq_none (Nat.le_refl _))), h1 _ m' H' F'.cs.show k' (.lst (fun z => z.elim (F'.cs.hid D (List.mem_cons_self ..)).1 fun z => by
          obtain ⟨o, e⟩ := (F1.cs.hid D z).2
          rw [hD] at e
          cases e) hx' (rs'.lk lk_show))⟩
theorem g_more {tg : Expr} {vs' : List Nat} (h : PG X tg (tXG K vs g)) (hv : ∀ i ∈ vs, i ∈ vs') : PG X tg (tXG K vs' g) := PG.imp h fun v σ H Q h => by
  obtain ⟨cf, bs, m, S, ρ, t, F, r, ρ', S', e, k⟩ := h
  exact ⟨cf, bs, m, S, ρ, t, F, r, ρ', S', e, fun σ4 H4 F4 k4 o4 => k σ4 H4 F4 k4 ⟨o4.1, fun j hj => o4.2 j fun z => hj (hv j z)⟩⟩
theorem s_setLc2 (i : Nat) {y : Str} {py : Pos} {elt tg iter tg1 iter1 : Expr} {ifs ifs1 : List Expr} {scope : Scope} {own : List (Str × Nat)} {vs1 : List Nat} {pos spos : Pos} (hc : X.calm = true) (hN : X.N.Nodup)
    (hsw : swapsWith (.ListComp elt [⟨tg, iter, ifs, 0⟩, ⟨tg1, iter1, ifs1, 0⟩] scope pos) (some (.Name y py)) spos.line X.env = pure true) (hi : PI X tg iter (tXI K W fi)) (ok : BlkOk X.N X.env.scope scope own) (hv : ∀ i ∈ vs1, i ∈ own.map (·.2))
    (hg : ∀ (s : Shared) (H : Hp) (C : Addr) (cl : List (Str × Addr)) (fp : List Addr), PG (X.blk s H scope (compEnvC scope cl C X.env) fp) tg (tXG K (own.map (·.2)) g)) (ht : ∀ (s : Shared) (H : Hp) (C : Addr) (cl : List (Str × Addr)) (fp : List Addr), PTs (X.blk s H scope (compEnvC scope cl C X.env) fp) ifs (tXT K W tt))
    (hi1 : ∀ (s : Shared) (H : Hp) (C : Addr) (cl : List (Str × Addr)) (fp : List Addr), PI (X.blk s H scope (compEnvC scope cl C X.env) fp) tg1 iter1 (tXI K W fi1))
    (hg1 : ∀ (s : Shared) (H : Hp) (C : Addr) (cl : List (Str × Addr)) (fp : List Addr), PG (X.blk s H scope (compEnvC scope cl C X.env) fp) tg1 (tXG K vs1 g1)) (ht1 : ∀ (s : Shared) (H : Hp) (C : Addr) (cl : List (Str × Addr)) (fp : List Addr), PTs (X.blk s H scope (compEnvC scope cl C X.env) fp) ifs1 (tXT K W tt1))
    (he : ∀ (s : Shared) (H : Hp) (C : Addr) (cl : List (Str × Addr)) (fp : List Addr), PE (X.blk s H scope (compEnvC scope cl C X.env) fp) elt (tX K W te)) (hy : X.N[i]? = some y := by rfl) (hyl : X.env.scope.names.lookup y = some .local := by rfl) (hs : ∀ x, foldedSetIterable iter X.env x = pure x := by intro _; rfl) (hs1 : ∀ env x, foldedSetIterable iter1 env x = pure x := by intro _ _; rfl) :
    PS X (.Assign [.Name y py] (.ListComp elt [⟨tg, iter, ifs, 0⟩, ⟨tg1, iter1, ifs1, 0⟩] scope pos) spos) (tXS K W (sAsg (mLc2 (own.map (·.2)) vs1 fi g tt fi1 g1 tt1 te) (gNm i))) := PS.imp (ps_setLc2 hc hN hy hyl hsw hi ok hv hg ht hi1 hg1 ht1 he hs hs1) fun D σ H h => by
  obtain ⟨cf, bs, m, S, ρ, F, h⟩ := h
  refine lc2_read ⟨cf, bs, m, S, ρ, F, OuOk.ofE F h fun t v m1 H1 S1 _ F1 k1 R1 h1 => ?_⟩
  unfold gNm at h1
  by_cases q : i < ρ.length
  · rw [if_pos q] at h1
    exact h1 _ m1 H1 (F1.set R1) Kp.refl
  · rw [if_neg q] at h1
    exact h1.elim
/-! equations -/
variable {c : Cf} {ρ : Ro} {S : St} {f : Ev T} {acc : List T} {x : T} {l : List T}
def kLc2 (vs vs1 : List Nat) (g : Tg) (tt : Ev Bool) (fi1 : Ev Src) (g1 : Tg) (tt1 : Ev Bool) (te : Ev T) (c : Cf) (ρ : Ro) (src : Src) (S : St) : Rs T := match src with
  | .fix l => lcE (lcL2 vs1 g tt fi1 g1 tt1 te l [] c (wipeS vs ρ) S)
  | _ => .st
theorem e_lc2 : mLc2 vs vs1 fi g tt fi1 g1 tt1 te c ρ S = (fi c ρ S).bd (kLc2 vs vs1 g tt fi1 g1 tt1 te c ρ) := by
  unfold mLc2
  simp only [ap_bind]
  cases fi c ρ S with
  | ok src S1 => cases src <;> rfl
  | ex _ _ => rfl
  | st => rfl
theorem e_lc21 : kLc2 vs vs1 g tt fi1 g1 tt1 te c ρ (.fix l) S = lcE (lcL2 vs1 g tt fi1 g1 tt1 te l [] c (wipeS vs ρ) S) := rfl
end
end
end Tm

/-! N49: dict comprehensions whose keys are tuples -/
namespace L2
open PySem PySem.Spec PyProof.Rows
section
variable {X : Cx}
end
end L2
namespace Tm
open PySem PySem.Spec PyProof.Rows L2
noncomputable section
/-! ### dict comprehensions over known things -/
section
variable {X : Cx} {K : PySem.W.Frag} {W : WX} {fi : Ev Src} {g : Tg} {tt : Ev Bool} {te tu : Ev T} {vs : List Nat}
end
/-! equations -/
section
variable {c : Cf} {ρ : Ro} {S : St} {fi : Ev Src} {g : Tg} {tt : Ev Bool} {te tu : Ev T} {acc : List (List Key × T)} {x : T} {l : List T} {vs : List Nat}
end
end
end Tm

/-! N50: sorted of data -/
namespace L2
open PySem PySem.Spec PyProof.Rows
/-- as the kit's Sortable, or at most one thing, a tuple -/
def SrtOK (ds : List PyData) : Prop := PySem.W.Sortable ds ∨ (ds.length ≤ 1 ∧ ∀ d ∈ ds, ∃ xs, d = .tuple xs)
theorem sortsAt_ok {prog : Program} {w : World} {A : Around} {s : Shared} {vs : List Value} {ds : List PyData} (e : PySem.W.EachIs (fun v d => ∃ as, Reads s.heap v d as) vs ds) (hal : PySem.W.AllAlike ds) (hk : SrtOK ds) (hu : ∀ d, d ∈ ds → A.units + d.depth < cLine) : PySem.W.SortsAt prog w A s (PySem.W.dataKind s.heap ds) vs := by
  rcases hk with hk | ⟨h1, ht⟩
  · exact .data e hal hk hu
  · have el := e.length
    refine ⟨fun v hv => ?_, tuples' false, ?_, fun h2 => absurd h2 (by omega)⟩
    · obtain ⟨d, hd, as, r⟩ := e.left v hv
      exact ⟨_, PySem.W.dataKind_some hal hd r⟩
    · intro E x y a b Q ha hb hq
      obtain ⟨d, as, hd, ra, rfl⟩ := PySem.W.dataKind_inv ha
      obtain ⟨d', as', hd', rb, rfl⟩ := PySem.W.dataKind_inv hb
      have hdd := hal d hd d' hd'
      have room : A.units + min d.depth d'.depth < cLine := Nat.lt_of_le_of_lt (Nat.add_le_add_left (Nat.min_le_left _ _) _) (hu d hd)
      obtain ⟨l1, rfl⟩ := ht d hd
      obtain ⟨l2, rfl⟩ := ht d' hd'
      have hq' : Q (PySem.W.dataLt (.tuple l1) (.tuple l2)) s := hq
      rw [PySem.W.dataLt_tuple] at hq'
      cases ra with
      | @tuple l o xs n _ _ g1 g2 g3 g4 =>
        cases rb with
        | @tuple l' o' xs' n' _ _ k1 k2 k3 k4 =>
          have n1 : xs.size = l1.length := by simpa using SeqAt.ReadsAll.length _ _ _ g4
          have n2 : xs'.size = l2.length := by simpa using SeqAt.ReadsAll.length _ _ _ k4
          exact PySem.W.kat_lt g1 g3 k1 k3 (PySem.W.katLex_alike l1 l2 0 _ _ _ _ g4 k4 (by simpa [PySem.W.alike] using hdd) (by have q := SeqAt.room_in room; omega) (fun hb => by cases hb) (by rw [n1, n2]) hq')
theorem bound_mapD {β : Type} {enc : β → PyData} {bs : List β} {P : PyData → Prop} (hu : ∀ b, b ∈ bs → P (enc b)) : ∀ d, d ∈ bs.map enc → P d := by
  intro d hd
  obtain ⟨b, hb, rfl⟩ := List.mem_map.mp hd
  exact hu b hb
/-- sorted(xs) and xs.sort(), of data -/
theorem sorted_dataO {β : Type} {R : Value → β → Prop} {enc : β → PyData} {prog : Program} {w : World} {A : Around} {E : Value → Shared → Prop} {s : Shared} {vs : List Value} {bs : List β} {l : Addr} {Q : Value → Shared → Prop} (hl : s.heap.IsList l vs.toArray) (e : PySem.W.EachIs R vs bs) (er : PySem.W.EachIs (fun v b => ∃ as, Reads s.heap v (enc b) as) vs bs) (hal : PySem.W.AllAlike (bs.map enc)) (hk : SrtOK (bs.map enc)) (hL : bs.length ≤ sizeLine)
    (hu : ∀ b, b ∈ bs → A.units + 2 + (enc b).depth < cLine) (h : ∀ out, out.length = bs.length → PySem.W.EachIs R out (bs.mergeSort (PySem.W.dataLe false enc)) → Q (.ref (s.heap.objs.size + 1)) { s with heap := sortedAll s.heap vs (List.toArray out) }) :
    wpAny (model prog w) A (call (.builtin "sorted") [.ref l]) Q E s := by
  have er2 : PySem.W.EachIs (fun v b => ∃ as, Reads (PySem.W.sortingHeap (PySem.W.copyHeap s.heap vs) (s.heap.objs.size + 1) vs) v (enc b) as) vs bs := er.mono fun _ _ ⟨as, r⟩ => ⟨as, PyProof.Rows.Reads.keeps (fun _ _ => PySem.W.sorting_copy_old) r⟩
  refine PySem.W.sorted_vals hl (sortsAt_ok (s := { s with heap := PySem.W.sortingHeap (PySem.W.copyHeap s.heap vs) (s.heap.objs.size + 1) vs }) (PySem.W.each_map (R := fun v d => ∃ as, Reads (PySem.W.sortingHeap (PySem.W.copyHeap s.heap vs) (s.heap.objs.size + 1) vs) v d as) enc er2) hal hk (bound_mapD hu)) (by rw [e.length]; exact hL) ?_
  exact h _ (by rw [PySem.W.sortVals_length false rfl]; exact e.length) (PySem.W.sortVals_data false e er2 hal)
theorem list_sort_dataO {β : Type} {R : Value → β → Prop} {enc : β → PyData} {prog : Program} {w : World} {A : Around} {E : Value → Shared → Prop} {s : Shared} {vs : List Value} {bs : List β} {a : Addr} {n : Nat} {Q : Value → Shared → Prop} (ho : s.heap.get? a = some (seqObj "list" vs.toArray n)) (e : PySem.W.EachIs R vs bs) (er : PySem.W.EachIs (fun v b => ∃ as, Reads s.heap v (enc b) as ∧ a ∉ as) vs bs) (hal : PySem.W.AllAlike (bs.map enc)) (hk : SrtOK (bs.map enc)) (hL : bs.length ≤ sizeLine)
    (hu : ∀ b, b ∈ bs → A.units + 1 + (enc b).depth < cLine) (h : ∀ out, out.length = bs.length → PySem.W.EachIs R out (bs.mergeSort (PySem.W.dataLe false enc)) → Q .none { s with heap := sortedHeap s.heap a vs (List.toArray out) }) :
    wpAny (model prog w) A (call (.builtin "list.sort") [.ref a]) Q E s := by
  have er2 : PySem.W.EachIs (fun v b => ∃ as, Reads (PySem.W.sortingHeap s.heap a vs) v (enc b) as) vs bs := PySem.W.each_keepBut (h' := PySem.W.sortingHeap s.heap a vs) (fun _ _ hb q => PySem.W.sortingHeap_old hb q) (fun o q => by rw [ho] at q; rw [← Option.some.inj q]) hal er
  refine PySem.wpAny_call_entry PyProof.Rows.slot_list_sort ⟨_, ho, rfl⟩ PyProof.Rows.entry_list_sort (PySem.W.list_sort_vals (κ := PySem.W.dataKind (PySem.W.sortingHeap s.heap a vs) (bs.map enc)) ho (sortsAt_ok (s := { s with heap := PySem.W.sortingHeap s.heap a vs }) (PySem.W.each_map (R := fun v d => ∃ as, Reads (PySem.W.sortingHeap s.heap a vs) v d as) enc er2) hal hk (bound_mapD hu)) (by rw [e.length]; exact hL) ⟨.none, rfl, ?_⟩) (PyProof.Rows.args_list_sort _)
  exact h _ (by rw [PySem.W.sortVals_length false rfl]; exact e.length) (PySem.W.sortVals_data false e er2 hal)
def rSortD (K : PySem.W.Frag) : List V → Hp → VK → Prop := fun vs H Q => ∃ (a : Addr) (xs : List V) (ds : List PyData), vs = [V.ref a] ∧ SqL K H a xs ∧ DpAll K H xs ds ∧ PySem.W.AllAlike ds ∧ SrtOK ds ∧ (∀ d ∈ ds, d.depth < 60) ∧
  ∀ p ys (bs : List (V × PyData)), H p = none → bs.Perm (xs.zip ds) → bs.Pairwise (fun a b => PySem.W.dataLt b.2 a.2 = false) → ys = bs.map (·.1) → Q (.ref p) (upd H p (.lst ys))
theorem DpAll.len {K : PySem.W.Frag} {H : Hp} : ∀ {xs : List V} {ds : List PyData}, DpAll K H xs ds → xs.length = ds.length
  | _, _, .nil => rfl
  | _, _, .cons _ h => by rw [List.length_cons, List.length_cons, h.len]
theorem each_zip : ∀ {xs : List V} {us : List Value} {ds : List PyData}, Vals xs us → xs.length = ds.length → PySem.W.EachIs (fun (u : Value) (b : V × PyData) => RelV b.1 u) us (xs.zip ds)
  | [], _, ds, h, _ => by cases h; exact .nil
  | x :: xs, _, [], _, hl => by simp at hl
  | x :: xs, _, d :: ds, h, hl => by
    cases h with
    | cons r rs => exact .cons r (each_zip rs (by simpa using hl))
theorem vals_each : ∀ {out : List Value} {bs : List (V × PyData)}, PySem.W.EachIs (fun (u : Value) (b : V × PyData) => RelV b.1 u) out bs → Vals (bs.map (·.1)) out
  | _, _, .nil => .nil
  | _, _, .cons h t => .cons h (vals_each t)
section
variable {X : Cx}
theorem cr_sortD (hu : X.A.units + 64 < cLine) : CallR X (.builtin "sorted") (rSortD X.K) := by
  intro pins s σ H vs us Q I r h
  obtain ⟨a, xs, ds, rfl, hs, dp, hal, hk, hd, q⟩ := h
  obtain ⟨its, rv, hl, hz⟩ := I.list hs
  rw [Vals.ref1 r]
  have hlen := dp.len
  have em : (xs.zip ds).map Prod.snd = ds := List.map_snd_zip (by omega)
  have e1 := each_zip rv hlen
  obtain ⟨as, ra⟩ := Dp.readsAll I ds xs its dp rv
  rw [← em] at ra
  have e2 := PySem.W.readsAll_each Prod.snd ra
  have zl : (xs.zip ds).length = xs.length := by rw [List.length_zip]; omega
  refine sorted_dataO (enc := Prod.snd) hl.isList e1 e2 (by rw [em]; exact hal) (by rw [em]; exact hk) (by rw [zl]; exact hz) (fun b hb => ?_) fun out h1 h2 => ?_
  · have hm : b.2 ∈ ds := by rw [← em]; exact List.mem_map_of_mem hb
    have := hd _ hm
    omega
  · obtain ⟨ep, he'⟩ := PyProof.Rows.sortedAll_at s.heap its out.toArray
    have tl := PySem.W.sortLe_total (listOrd itemOrd) false fun b : V × PyData => PySem.W.keyToks b.2
    have pm := List.mergeSort_perm (xs.zip ds) (PySem.W.dataLe false Prod.snd)
    have hlen2 : (((xs.zip ds).mergeSort (PySem.W.dataLe false Prod.snd)).map (·.1)).length ≤ sizeLine := by
      rw [List.length_map, pm.length_eq, zl]
      exact hz
    refine ⟨.ref _, upd H (s.heap.objs.size + 1) (.lst (((xs.zip ds).mergeSort (PySem.W.dataLe false Prod.snd)).map (·.1))), I.laid (t' := s.toks) (fun _ _ => PyProof.Rows.sortedAll_old) (Nat.le_succ _) ⟨hlen2, out, ep, vals_each h2, he'⟩, rfl, q _ _ _ (I.hok.fresh (Nat.le_succ _)) pm ?_ rfl⟩
    have pw := List.pairwise_mergeSort (le := PySem.W.dataLe false Prod.snd) tl.trans (fun a b => by rw [Bool.or_eq_true]; exact tl.total a b) (xs.zip ds)
    refine pw.imp fun {x y} hxy => ?_
    rw [PySem.W.dataLe_eq] at hxy
    simpa using hxy
end
end L2
namespace Tm
open PySem PySem.Spec PyProof.Rows L2
noncomputable section
mutual
def plT : T → Option PyData
  | .int i => some (.int i)
  | .str x => some (.str x)
  | .tup l => (plTs l).map .tuple
  | _ => none
def plTs : List T → Option (List PyData)
  | [] => some []
  | t :: l => match plT t, plTs l with
    | some d, some ds => some (d :: ds)
    | _, _ => none
end
mutual
def ofD : PyData → T
  | .int i => .int i
  | .str x => .str x
  | .tuple xs => .tup (ofDs xs)
  | _ => .non
def ofDs : List PyData → List T
  | [] => []
  | d :: ds => ofD d :: ofDs ds
end
mutual
def isPl : PyData → Bool
  | .int _ => true
  | .str _ => true
  | .tuple xs => isPls xs
  | _ => false
def isPls : List PyData → Bool
  | [] => true
  | d :: ds => isPl d && isPls ds
end
mutual
theorem plT_of : ∀ {t : T} {d : PyData}, plT t = some d → toD t = some d ∧ t = ofD d ∧ isPl d = true
  | .int i, d, h => by simp [plT] at h; subst h; exact ⟨by simp [toD], by simp [ofD], by simp [isPl]⟩
  | .tup l, d, h => by
    simp only [plT] at h
    obtain ⟨ds, e, rfl⟩ := Option.map_eq_some_iff.mp h
    obtain ⟨h1, h2, h3⟩ := plTs_of e
    exact ⟨by simp [toD, h1], by simp [ofD, h2], by simp [isPl, h3]⟩
  | .non, _, h => by simp [plT] at h
  | .bl _, _, h => by simp [plT] at h
  | .str x, d, h => by simp [plT] at h; subst h; exact ⟨by simp [toD], by simp [ofD], by simp [isPl]⟩
  | .lst _, _, h => by simp [plT] at h
  | .dK .., _, h => by simp [plT] at h
  | .dT .., _, h => by simp [plT] at h
  | .obj .., _, h => by simp [plT] at h
  | .cls .., _, h => by simp [plT] at h
  | .scr .., _, h => by simp [plT] at h
  | .ref .., _, h => by simp [plT] at h
  | .fn .., _, h => by simp [plT] at h
  | .lam .., _, h => by simp [plT] at h
  | .dN .., _, h => by simp [plT] at h
  | .lk .., _, h => by simp [plT] at h
  | .wt .., _, h => by simp [plT] at h
  | .exc .., _, h => by simp [plT] at h
theorem plTs_of : ∀ {l : List T} {ds : List PyData}, plTs l = some ds → toDs l = some ds ∧ l = ofDs ds ∧ isPls ds = true
  | [], ds, h => by simp [plTs] at h; subst h; exact ⟨by simp [toDs], by simp [ofDs], by simp [isPls]⟩
  | t :: l, ds, h => by
    unfold plTs at h
    cases e1 : plT t with
    | none => rw [e1] at h; cases h
    | some d =>
      cases e2 : plTs l with
      | none => rw [e1, e2] at h; cases h
      | some ds' =>
        rw [e1, e2] at h
        cases h
        obtain ⟨a1, a2, a3⟩ := plT_of e1
        obtain ⟨b1, b2, b3⟩ := plTs_of e2
        exact ⟨by simp [toDs, a1, b1], by rw [ofDs, ← a2, ← b2], by simp [isPls, a3, b3]⟩
end
mutual
theorem eqv_pl : ∀ {x y : PyData}, PyData.eqv x y = true → isPl x = true → isPl y = true → x = y
  | .int i, y, h, _, h2 => by
    cases y with
    | int j => simp [PyData.eqv] at h; rw [h]
    | str z => simp [PyData.eqv] at h
    | tuple ys => simp [PyData.eqv] at h
    | _ => simp [isPl] at h2
  | .tuple xs, y, h, h1, h2 => by
    cases y with
    | int j => simp [PyData.eqv] at h
    | str z => simp [PyData.eqv] at h
    | tuple ys =>
      simp only [PyData.eqv] at h
      simp only [isPl] at h1 h2
      rw [eqvs_pl h h1 h2]
    | _ => simp [isPl] at h2
  | .none, _, _, h1, _ => by simp [isPl] at h1
  | .bool _, _, _, h1, _ => by simp [isPl] at h1
  | .str z, y, h, _, h2 => by
    cases y with
    | int j => simp [PyData.eqv] at h
    | str z' => simp [PyData.eqv] at h; rw [h]
    | tuple ys => simp [PyData.eqv] at h
    | _ => simp [isPl] at h2
  | .list _, _, _, h1, _ => by simp [isPl] at h1
  | .dict _, _, _, h1, _ => by simp [isPl] at h1
theorem eqvs_pl : ∀ {xs ys : List PyData}, PyData.eqvAll xs ys = true → isPls xs = true → isPls ys = true → xs = ys
  | [], [], _, _, _ => rfl
  | [], _ :: _, h, _, _ => by simp [PyData.eqvAll] at h
  | _ :: _, [], h, _, _ => by simp [PyData.eqvAll] at h
  | x :: xs, y :: ys, h, h1, h2 => by
    simp only [PyData.eqvAll, Bool.and_eq_true] at h
    simp only [isPls, Bool.and_eq_true] at h1 h2
    rw [eqv_pl h.1 h1.1 h2.1, eqvs_pl h.2 h1.2 h2.2]
end
def leD (a b : PyData) : Prop := PySem.W.dataLt b a = false
instance (a b : PyData) : Decidable (leD a b) := inferInstanceAs (Decidable (_ = _))
theorem leD_trans {a b c : PyData} (h : leD a b) (h' : leD b c) : leD a c := by
  have := (PySem.W.sortLe_total (listOrd itemOrd) false PySem.W.keyToks).trans a b c (by show (!_) = true; exact (by simpa [leD, PySem.W.dataLt] using h)) (by show (!_) = true; exact (by simpa [leD, PySem.W.dataLt] using h'))
  have : (!PySem.W.dataLt c a) = true := this
  unfold leD
  simpa using this
theorem leD_total {a b : PyData} (h : ¬ leD a b) : leD b a := by
  rcases (PySem.W.sortLe_total (listOrd itemOrd) false PySem.W.keyToks).total a b with q | q
  · have : (!PySem.W.dataLt b a) = true := q
    exact absurd (by unfold leD; simpa using this) h
  · have : (!PySem.W.dataLt a b) = true := q
    unfold leD
    simpa using this
theorem leD_anti {a b : PyData} (h : leD a b) (h' : leD b a) (al : PySem.W.alike a b = true) (pa : isPl a = true) (pb : isPl b = true) : a = b := by
  refine eqv_pl ?_ pa pb
  cases e : PyData.eqv a b with
  | true => rfl
  | false =>
    exfalso
    have tk : PySem.W.keyToks a = PySem.W.keyToks b := by
      have t := (listOrd itemOrd).total (PySem.W.keyToks a) (PySem.W.keyToks b)
      have h1 : (listOrd itemOrd).blt (PySem.W.keyToks b) (PySem.W.keyToks a) = false := h
      have h2 : (listOrd itemOrd).blt (PySem.W.keyToks a) (PySem.W.keyToks b) = false := h'
      exact t h2 h1
    have := (PySem.W.toks_eqv a b al).2 e [Sum.inl 0] [Sum.inl 1]
    rw [tk, PySem.W.lex_pre] at this
    have k : PyProof.Rows.lexLt itemOrd (PySem.W.keyToks b) (PySem.W.keyToks b) = false := (listOrd itemOrd).irrefl _
    rw [k] at this
    exact absurd this (by decide)
def insD (a : PyData) : List PyData → List PyData
  | [] => [a]
  | b :: l => if leD a b then a :: b :: l else b :: insD a l
def srtD : List PyData → List PyData
  | [] => []
  | a :: l => insD a (srtD l)
theorem insD_perm (a : PyData) : ∀ l : List PyData, (insD a l).Perm (a :: l)
  | [] => .refl _
  | b :: l => by
    unfold insD
    split
    · exact .refl _
    · exact ((insD_perm a l).cons b).trans (.swap a b l)
theorem insD_sorted {a : PyData} : ∀ {l : List PyData}, l.Pairwise leD → (insD a l).Pairwise leD
  | [], _ => List.pairwise_singleton _ _
  | b :: l, h => by
    obtain ⟨h1, h2⟩ := List.pairwise_cons.mp h
    unfold insD
    split
    · rename_i q
      exact List.pairwise_cons.mpr ⟨fun x hx => (List.mem_cons.mp hx).elim (fun z => z ▸ q) fun z => leD_trans q (h1 x z), h⟩
    · rename_i q
      exact List.pairwise_cons.mpr ⟨fun x hx => (List.mem_cons.mp ((insD_perm a l).mem_iff.mp hx)).elim (fun z => by rw [z]; exact leD_total q) fun z => h1 x z, insD_sorted h2⟩
theorem srtD_perm : ∀ l : List PyData, (srtD l).Perm l
  | [] => .refl _
  | a :: l => (insD_perm a _).trans ((srtD_perm l).cons a)
theorem srtD_sorted : ∀ l : List PyData, (srtD l).Pairwise leD
  | [] => .nil
  | a :: l => insD_sorted (srtD_sorted l)
def tupC : PyData → Bool
  | .tuple (_ :: _) => true
  | _ => false
def tupA : PyData → Bool
  | .tuple _ => true
  | _ => false
def okSD (ds : List PyData) : Bool := (ds.all tupC || (ds.all tupA && decide (ds.length ≤ 1))) && (ds.all fun d => ds.all fun d' => PySem.W.alike d d') && ds.all fun d => decide (d.depth < 60)
theorem srtD_uniq {ds m : List PyData} (pl : isPls ds = true) (ok : okSD ds = true) (hp : m.Perm ds) (hs : m.Pairwise leD) : m = srtD ds := by
  unfold okSD at ok
  simp only [Bool.and_eq_true, List.all_eq_true] at ok
  have pl' : ∀ {l : List PyData}, isPls l = true → ∀ d ∈ l, isPl d = true := fun {l} => by
    induction l with
    | nil => intro _ d hd; cases hd
    | cons x l ih =>
      intro h d hd
      simp only [isPls, Bool.and_eq_true] at h
      rcases List.mem_cons.mp hd with rfl | hd
      · exact h.1
      · exact ih h.2 d hd
  exact (hp.trans (srtD_perm ds).symm).eq_of_pairwise (fun a b ha hb h1 h2 => leD_anti h1 h2 (ok.1.2 a (hp.mem_iff.mp ha) b ((srtD_perm ds).mem_iff.mp hb)) (pl' pl a (hp.mem_iff.mp ha)) (pl' pl b ((srtD_perm ds).mem_iff.mp hb))) hs (srtD_sorted ds)
def bSrtD : List T → Option T
  | [.lst l] => match plTs l with
    | some ds => if okSD ds = true then some (.lst (ofDs (srtD ds))) else none
    | none => none
  | _ => none
theorem ofDs_map : ∀ l : List PyData, ofDs l = l.map ofD
  | [] => rfl
  | d :: l => by rw [ofDs, ofDs_map l]; rfl
theorem reps_zip {K : PySem.W.Frag} {A : ASet} {H : Hp} : ∀ {xs : List V} {ds : List PyData}, Reps K A H xs (ofDs ds) → ∀ b ∈ xs.zip ds, Rep K A H b.1 (ofD b.2)
  | [], _, _, b, hb => by simp at hb
  | _ :: _, [], _, b, hb => by simp at hb
  | x :: xs, d :: ds, r, b, hb => by
    rw [ofDs] at r
    cases r with
    | cons h r =>
      rcases List.mem_cons.mp hb with rfl | hb
      · exact h
      · exact reps_zip r b hb
theorem reps_bs {K : PySem.W.Frag} {A : ASet} {H : Hp} : ∀ {bs : List (V × PyData)}, (∀ b ∈ bs, Rep K A H b.1 (ofD b.2)) → Reps K A H (bs.map (·.1)) (ofDs (bs.map (·.2)))
  | [], _ => by rw [List.map_nil, List.map_nil, ofDs]; exact .nil
  | b :: bs, h => by
    rw [List.map_cons, List.map_cons, ofDs]
    exact .cons (h b (List.mem_cons_self ..)) (reps_bs fun c hc => h c (List.mem_cons_of_mem _ hc))
theorem sorted_rep {K : PySem.W.Frag} {A : ASet} {H : Hp} {xs : List V} {ds : List PyData} {bs : List (V × PyData)} (r : Reps K A H xs (ofDs ds)) (hl : xs.length = ds.length) (pl : isPls ds = true) (ok : okSD ds = true) (hp : bs.Perm (xs.zip ds)) (hs : bs.Pairwise (fun a b => PySem.W.dataLt b.2 a.2 = false)) : Reps K A H (bs.map (·.1)) (ofDs (srtD ds)) := by
  have em : (xs.zip ds).map (·.2) = ds := List.map_snd_zip (by omega)
  have e : bs.map (·.2) = srtD ds := srtD_uniq pl ok (by rw [← em]; exact hp.map _) (List.pairwise_map.mpr (hs.imp fun h => h))
  rw [← e]
  exact reps_bs fun b hb => reps_zip r b (hp.mem_iff.mp hb)
theorem okSD_all {ds : List PyData} (ok : okSD ds = true) : PySem.W.AllAlike ds ∧ SrtOK ds ∧ ∀ d ∈ ds, d.depth < 60 := by
  unfold okSD at ok
  simp only [Bool.and_eq_true, Bool.or_eq_true, List.all_eq_true, decide_eq_true_eq] at ok
  refine ⟨fun d hd d' hd' => ok.1.2 d hd d' hd', ?_, ok.2⟩
  rcases ok.1.1 with h | ⟨h, h1⟩
  · refine .inl (.inl fun d hd => ?_)
    have := h d hd
    cases d with
    | tuple xs =>
      cases xs with
      | nil => cases this
      | cons x r => exact ⟨x, r, rfl⟩
    | _ => cases this
  · refine .inr ⟨h1, fun d hd => ?_⟩
    have := h d hd
    cases d with
    | tuple xs => exact ⟨xs, rfl⟩
    | _ => cases this
theorem bSrtD_ok {K : PySem.W.Frag} : CallT K (rSortD K) bSrtD := fun A H xs ts tz Q d rs e k => by
  unfold bSrtD at e
  split at e
  · cases rs with
    | cons r rs =>
      cases rs
      cases r with
      | lst na h r =>
        split at e
        · rename_i l ds hds
          split at e
          · rename_i ok
            cases e
            obtain ⟨h1, h2, h3⟩ := plTs_of hds
            have dp := Reps.dp r h1
            obtain ⟨o1, o2, o3⟩ := okSD_all ok
            refine ⟨_, _, ds, rfl, .inl (.inl h), dp, o1, o2, o3, fun p ys bs hp pm pw ey => ?_⟩
            subst ey
            rw [h2] at r
            exact k _ _ (same_new hp) (.lst (d.new hp) upd_same ((sorted_rep r dp.len h3 ok pm pw).same (same_new hp)))
          · cases e
        · cases e
  · cases e
theorem q_sortD {X : Cx} {K : PySem.W.Frag} (hu : X.A.units + 64 < cLine) (hK : X.K = K := by rfl) : CallR X (.builtin "sorted") (rSortD K) := by subst hK; exact cr_sortD hu
end
end Tm

/-! N53: xs.extend(ys), xs a cell -/
namespace Tm
open PySem PySem.Spec PyProof.Rows L2
noncomputable section
section
variable {X : Cx} {K : PySem.W.Frag} {W : WX} {o e : Expr} {es : List Expr} {fo : Ev T} {fr : Ev (List T)} {apos cpos : Pos}
def lExt : List T → List T → Option (T × List T)
  | l, [.lst zs] => if l.length + zs.length ≤ 1000000 then some (.non, l ++ zs) else none
  | _, _ => none
theorem lExt_ok : LmT K rExtend lExt := fun A H a xs l vs ts res l' Q hh rs rv e k => by
  unfold lExt at e
  split at e
  · split at e
    · rename_i hl
      cases e
      cases rv with
      | cons r1 rr =>
        cases rr
        cases r1 with
        | lst na h r => exact ⟨a, _, xs, _, rfl, rfl, hh, h, by rw [rs.length, r.length]; exact big_le hl, k .non _ .non (rs.append r)⟩
    · cases e
  · cases e
theorem lExt_b : LmB lExt := fun b l ts res l' e h1 h2 => by
  unfold lExt at e
  split at e
  · split at e
    · cases e
      rw [okRs_cons, okR_lst, Bool.and_eq_true] at h2
      exact okRs_app h1 h2.1
    · cases e
  · cases e
theorem m_ext (ho : PE X o (tX K W fo)) (ha : PA X (e :: es) (tXA K W fr)) (hbase : attributeBase o "extend" X.env (eval o X.env) = eval o X.env := by rfl)
    (hfew : ((backTo cpos (starEach (e :: es) X.env)).all (fun x => !x.1) && (backToKw cpos (keywordEach [] X.env)).all (fun x => x.1.isSome) && decide ((e :: es).length + ([] : List Keyword).length + (if ([] : List Keyword).isEmpty then 0 else 1) < 30)) = true := by rfl)
    (hline : (apos.endLine == cpos.line) = true := by rfl) (hs : starEach (e :: es) X.env = (false, eval e X.env) :: starEach es X.env := by rfl) (hplain : (backTo cpos (starEach es X.env)).any (·.1) = false := by rfl) (hK : X.K = K := by rfl) :
    PE X (.Call (.Attribute o "extend" apos) (e :: es) [] cpos) (tX K W (mLm lExt fo fr)) :=
  PE.imp (k_bm K PySem.F.plainAttrs_list PySem.F.slot_list_extend PySem.F.type_list_extend mt_extend ho ha hbase hfew hline hs hplain hK) fun σ H Q h => lm_read lExt_ok lExt_b h
end
end
end Tm

/-! N57: sorted of a list of texts, of any length -/
namespace Tm
open PySem PySem.Spec PyProof.Rows L2
noncomputable section
end
end Tm

/-! N67: sorted(set(xs)) of a list of ints or of texts -/
namespace L2
open PySem PySem.Spec PyProof.Rows PySem.Calls
/-- the set of keys at a, told by their list -/
def SetG (P : Program) (w : World) (h : Heap) (a : Addr) (l : List Key) : Prop :=
  ∃ o es ep t, h.get? a = some o ∧ o.ExactSet ∧ o.data = .set es ep t ∧ ElemsOf (mixKind P w) es.toList ∧ l.Nodup ∧ (∀ k, k ∈ l ↔ ∃ e ∈ es.toList, (mixKind P w).is k e.2 = true) ∧
    es.size < scanBound ∧ t.fits es.size = true ∧ es.size = l.length ∧ Ris t.place.toList ∧ (w.params.followText "set-order" = true ∨ t.led = true)
open Classical in
noncomputable def insG (l : List Key) (k : Key) : List Key := if k ∈ l then l else k :: l
section
variable {P : Program} {w : World} {A : Around} {E : Value → Shared → Prop} {s : Shared} {a : Addr} {l : List Key}
theorem SetG.at {h h' : Heap} (R : SetG P w h a l) (k : ∀ o, h.get? a = some o → h'.get? a = some o) : SetG P w h' a l := by
  obtain ⟨o, es, ep, t, ho, r⟩ := R
  exact ⟨o, es, ep, t, k o ho, r⟩
theorem setG_tail {g : Bool → Sem Unit} (hg : ∀ (b : Bool) (s₁ : Shared) (Q' : Unit → Shared → Prop), Q' () s₁ → wpAny (model P w) A (g b) Q' E s₁)
    {o : Obj} {es : Array (Int × Value)} {ep : Nat} {t : SetTable} (ho : s.heap.get? a = some o) (hex : o.ExactSet) (hd : o.data = .set es ep t)
    {es1 : Array (Int × Value)} {t2 : SetTable} (g1 : ElemsOf (mixKind P w) es1.toList) (nd1 : l.Nodup) (m1 : ∀ k, k ∈ l ↔ ∃ e ∈ es1.toList, (mixKind P w).is k e.2 = true) (hs1 : es1.size = l.length)
    (hb1 : es1.size < scanBound) (hf2 : t2.fits es1.size = true) (hr : Ris t2.place.toList) (hl : w.params.followText "set-order" = true ∨ t2.led = true) {wasDummy : Bool} {R : Option Bool → Shared → Prop}
    (hR : ∀ h', Heap.SameBut a s.heap h' → SetG P w h' a l → R (some true) { s with heap := h' }) :
    wpAny (model P w) A (do
        storeSet a es1 t2
        if (!wasDummy && t2.tooFull) = true then do
            g (relayAll t2 es1 (SetTable.grown es1.size)).2.2
            storeSet a (relayAll t2 es1 (SetTable.grown es1.size)).1 (relayAll t2 es1 (SetTable.grown es1.size)).2.1
            pure (some true)
          else pure (some true)) R E s := by
  refine wpAny_bind (wpAny_storeSet_of ho hd ?_ (fits_of_scanBound hb1))
  have ho1 := store_at (es' := es1) (t' := t2) ho hd
  have sb1 := Heap.SameBut.update s.heap a (Obj.putSet es1 t2)
  split
  · have pm := relayAll_perm t2 es1 (SetTable.grown es1.size)
    have hf3 := relayAll_fits t2 es1 (SetTable.grown es1.size)
    have hr3 := relayAll_ris t2 es1 (SetTable.grown es1.size)
    have hl3 := relayAll_led t2 es1 (SetTable.grown es1.size)
    generalize relayAll t2 es1 (SetTable.grown es1.size) = Z at pm hf3 hr3 hl3 ⊢
    obtain ⟨es2, t3, gave⟩ := Z
    dsimp only at pm hf3 hr3 hl3 ⊢
    have hsz : es2.size = es1.size := by rw [← Array.length_toList, pm.length_eq, Array.length_toList]
    have hb2 : es2.size < scanBound := by rw [hsz]; exact hb1
    refine wpAny_bind (hg _ _ _ ?_)
    refine wpAny_bind (wpAny_storeSet_of ho1 rfl ?_ (fits_of_scanBound hb2))
    have ho2 := store_at (es' := es2) (t' := t3) ho1 rfl
    refine wpAny_pure (hR _ (sb1.trans (Heap.SameBut.update _ a _)) ?_)
    exact ⟨_, es2, _, t3, ho2, hex, rfl, g1.perm pm, nd1, fun k => (m1 k).trans ⟨fun ⟨e, he, q⟩ => ⟨e, pm.mem_iff.mpr he, q⟩, fun ⟨e, he, q⟩ => ⟨e, pm.mem_iff.mp he, q⟩⟩, hb2, hf3, hsz.trans hs1, hr3,
      hl.imp id fun z => by rw [hl3]; exact z⟩
  · exact wpAny_pure (hR _ sb1 ⟨_, es1, _, t2, ho1, hex, rfl, g1, nd1, m1, hb1, hf2, hs1, hr, hl⟩)
theorem setG_add {k : Key} {x : Value} {Q : Bool → Shared → Prop} (R : SetG P w s.heap a l) (hkey : (mixKind P w).is k x = true) (hsc : x.scannable = true) (room : l.length + 1 < scanBound)
    (hQ : ∀ b h', Heap.SameBut a s.heap h' → SetG P w h' a (insG l k) → Q b { s with heap := h' }) :
    wpAny (model P w) A (setAddHashed a x ((mixKind P w).hash k)) Q E s := by
  obtain ⟨o, es, ep, t, ho, hex, hd, hel, nd, hm, hb, hf, hn, hr, hl⟩ := R
  unfold setAddHashed setAddHashedIn
  refine wpAny_holding (wpAny_bind (wpAny_setState_of ho hd hf ?_))
  dsimp only
  rw [byScan_of hsc hb hel]
  simp only [↓reduceIte]
  unfold setAddByScan
  refine wpAny_bind ?_
  refine wpAny_bind (wpAny_rule ?_)
  refine wpAny_bind (wpAny_setScan_of hkey ho hd hf hel ?_)
  cases hfi : List.findIdx? (fun e => (mixKind P w).is k e.2) es.toList with
  | some j =>
    dsimp only
    obtain ⟨hj, pj, _⟩ := List.findIdx?_eq_some_iff_getElem.mp hfi
    have hk : k ∈ l := (hm k).2 ⟨es.toList[j], List.getElem_mem hj, pj⟩
    refine wpAny_pure (wpAny_pure ?_)
    refine hQ _ s.heap (Heap.SameBut.refl a s.heap) ?_
    unfold insG
    rw [if_pos hk]
    exact ⟨o, es, ep, t, ho, hex, hd, hel, nd, hm, hb, hf, hn, hr, hl⟩
  | none =>
    dsimp only
    have hnk : k ∉ l := fun z => by
      obtain ⟨e, he, q⟩ := (hm k).1 z
      have c := List.findIdx?_eq_none_iff.mp hfi e he
      rw [q] at c
      cases c
    have hgw : ∀ (b : Bool) {s₁ : Shared} {Q' : Unit → Shared → Prop}, Q' () s₁ → wpAny (model P w) A (match b with | true => rule "set.scan.the-table-gave-way" | false => pure ()) Q' E s₁ :=
      fun b s₁ Q' q => by cases b <;> first | exact wpAny_pure q | exact wpAny_rule q
    have pm := layNew_perm t es ((mixKind P w).hash k) x
    have hf1 := layNew_fits t es ((mixKind P w).hash k) x
    have hr1 := layNew_ris t es ((mixKind P w).hash k) x hr
    have hl1 := layNew_led t es ((mixKind P w).hash k) x
    generalize layNew t es ((mixKind P w).hash k) x = Z at pm hf1 hr1 hl1 ⊢
    obtain ⟨es1, t1, wasDummy, gave⟩ := Z
    dsimp only at pm hf1 hr1 hl1 ⊢
    rw [Array.toList_push] at pm
    have g1 : ElemsOf (mixKind P w) es1.toList := (hel.push hkey hsc).perm pm
    have nd1 : (k :: l).Nodup := List.nodup_cons.mpr ⟨hnk, nd⟩
    have m1 : ∀ i, i ∈ k :: l ↔ ∃ e ∈ es1.toList, (mixKind P w).is i e.2 = true := fun i => by
      constructor
      · intro q
        rcases List.mem_cons.mp q with rfl | q
        · exact ⟨_, pm.mem_iff.mpr (List.mem_append_right _ (List.mem_singleton.mpr rfl)), hkey⟩
        · obtain ⟨e, he, z⟩ := (hm i).1 q
          exact ⟨e, pm.mem_iff.mpr (List.mem_append_left _ he), z⟩
      · rintro ⟨e, he, z⟩
        rcases List.mem_append.mp (pm.mem_iff.mp he) with he | he
        · exact List.mem_cons_of_mem _ ((hm i).2 ⟨e, he, z⟩)
        · rw [List.mem_singleton.mp he] at z
          rw [(mixKind P w).inj x i k z hkey]
          exact List.mem_cons_self ..
    have hsz : es1.size = (k :: l).length := by
      rw [← Array.length_toList, pm.length_eq, List.length_append, Array.length_toList, hn]
      rfl
    have hb1 : es1.size < scanBound := by rw [hsz]; exact room
    have hled : w.params.followText "set-order" = true ∨ t1.led = true := hl.imp id fun z => by rw [hl1]; exact z
    have fin : ∀ b h', Heap.SameBut a s.heap h' → SetG P w h' a (k :: l) → Q b { s with heap := h' } := fun b h' sb r => hQ b h' sb (by
      unfold insG
      rw [if_neg hnk]
      exact r)
    refine wpAny_bind (hgw _ ?_)
    split
    · refine wpAny_bind ?_
      rw [hashByValue_scannable 8 hsc]
      refine wpAny_pure ?_
      refine setG_tail (l := k :: l) ?_ ho hex hd g1 nd1 m1 hsz hb1 ?_ ?_ ?_ ?_
      · intro b s₁ Q' q; cases b <;> first | exact wpAny_pure q | exact wpAny_rule q
      · first | (split <;> first | exact hf1 | exact SetTable.fits_plain_off hf1) | exact hf1
      · first | (split <;> exact hr1) | exact hr1
      · first | (split <;> exact hled) | exact hled
      · intro h' sb r; dsimp only; exact wpAny_pure (fin _ h' sb r)
    · refine wpAny_bind (wpAny_pure ?_)
      simp only [↓reduceIte]
      refine setG_tail (l := k :: l) ?_ ho hex hd g1 nd1 m1 hsz hb1 hf1 hr1 hled ?_
      · intro b s₁ Q' q; cases b <;> first | exact wpAny_pure q | exact wpAny_rule q
      · intro h' sb r; dsimp only; exact wpAny_pure (fin _ h' sb r)
theorem insG_len (l : List Key) (k : Key) : (insG l k).length ≤ l.length + 1 := by
  unfold insG
  split
  · exact Nat.le_succ _
  · exact Nat.le_refl _
theorem fold_lenG : ∀ (ks l : List Key), (ks.foldl insG l).length ≤ l.length + ks.length
  | [], l => Nat.le_refl _
  | k :: ks, l => by
    rw [List.foldl_cons, List.length_cons]
    have := fold_lenG ks (insG l k)
    have := insG_len l k
    omega
theorem fold_memG (x : Key) : ∀ (ks l : List Key), x ∈ ks.foldl insG l ↔ x ∈ ks ∨ x ∈ l
  | [], l => by simp
  | k :: ks, l => by
    rw [List.foldl_cons, fold_memG x ks, List.mem_cons]
    unfold insG
    split
    · rename_i h
      constructor
      · rintro (q | q)
        · exact .inl (.inr q)
        · exact .inr q
      · rintro ((rfl | q) | q)
        · exact .inr h
        · exact .inl q
        · exact .inr q
    · rw [List.mem_cons]
      constructor
      · rintro (q | (q | q))
        · exact .inl (.inr q)
        · exact .inl (.inl q)
        · exact .inr q
      · rintro ((q | q) | q)
        · exact .inr (.inl q)
        · exact .inl q
        · exact .inr (.inr q)
theorem setG_loop {I : Addr} {fp wr : List Addr} {G : Array GenState → Array GenState → Prop} {n : Nat} {Pv : Nat → Value → Prop} {St : Nat → Shared → Prop} {R : Result → Shared → Prop}
    (W : WalksS P w A.in1 I fp wr G n Pv St) (S : Addr) (hSf : S ∉ fp) (ks : List Key) (hn : n = ks.length) (hb : ks.length + 1 < scanBound) (hval : ∀ i v, Pv i v → ∃ k, ks[i]? = some k ∧ (mixKind P w).is k v = true ∧ v.scannable = true) :
    ∀ (k i : Nat) (s : Shared), n - i = k → i ≤ n → St i s → SetG P w s.heap S ((ks.take i).foldl insG []) →
      (∀ s', Moved (S :: wr) G s s' → SetG P w s'.heap S (ks.foldl insG []) → R (.ok (.ret .none)) s') →
      codeAny (model P w) A (.builtin "set.update.loop" ⟨[.ref S, .ref I], []⟩) R s := by
  have hSw : S ∉ wr := fun h => hSf (W.sub _ h)
  have hsub : ∀ b ∈ wr, b ∈ S :: wr := fun b hb => List.mem_cons_of_mem _ hb
  intro k
  induction k with
  | zero =>
    intro i s hk' hi hst hS hR
    have hin : i = n := by omega
    subst hin
    refine codeAny_builtin F.entry_set_update_loop ?_
    rw [Around.under_plainId F.plain_set_update_loop _]
    show wpAny _ A.in1 (pyNext (.ref I) >>= _) _ _ s
    refine wpAny_bind (W.done s _ _ hst fun s' hm => ?_)
    show wpAny _ A.in1 (ret Value.none) _ _ s'
    have e : ks.take i = ks := List.take_of_length_le (by omega)
    rw [e] at hS
    exact wpAny_pure (hR s' (hm.mono hsub) (hS.at fun o e => hm.heap S o hSw e))
  | succ k ih =>
    intro i s hk' hi hst hS hR
    have hlt : i < n := by omega
    refine codeAny_builtin F.entry_set_update_loop ?_
    rw [Around.under_plainId F.plain_set_update_loop _]
    show wpAny _ A.in1 (pyNext (.ref I) >>= _) _ _ s
    refine wpAny_bind (W.item i s _ _ hlt hst fun v s' hP hst' hm => ?_)
    obtain ⟨z, hz, his, hsc⟩ := hval i v hP
    have hS' : SetG P w s'.heap S ((ks.take i).foldl insG []) := hS.at fun o e => hm.heap S o hSw e
    show wpAny _ A.in1 (holding [v] (setAdd S v) >>= _) _ _ s'
    refine wpAny_bind (wpAny_holding ?_)
    unfold setAdd
    refine wpAny_holding ?_
    refine wpAny_bind ((mixKind P w).pyHash (k := z) his ?_)
    have hlen : ((ks.take i).foldl insG []).length + 1 < scanBound := by
      have h1 := fold_lenG (ks.take i) []
      have h2 : (ks.take i).length ≤ ks.length := by rw [List.length_take]; exact Nat.min_le_right _ _
      rw [List.length_nil] at h1
      omega
    refine setG_add (s := { s' with toks := s'.toks + 1 }) hS' his hsc hlen fun b h' hsb hS2 => ?_
    have hS3 : SetG P w h' S ((ks.take (i + 1)).foldl insG []) := by
      rw [List.take_add_one, hz]
      show SetG P w h' S ((ks.take i ++ [z]).foldl insG [])
      rw [List.foldl_append]
      exact hS2
    refine wpAny_pure ⟨plainId_quiet F.plain_set_update_loop _, ih (i + 1) _ (by omega) hlt (W.frame _ s' _ _ hst' (Nat.le_succ _) fun b hb o e => ?_) hS3 fun s'' hm'' hS'' => ?_⟩
    · rw [hsb.2 b (fun h : b = S => hSf (by rw [← h]; exact hb))]; exact e
    · refine hR s'' (Moved.trans W.gtrans ((hm.mono hsub).then_heap (Nat.le_succ _) fun b o hb e => ?_) hm'') hS''
      rw [hsb.2 b (fun h : b = S => hb (by rw [h]; exact List.mem_cons_self))]; exact e
theorem setG_new {h : Heap} (ho : h.get? a = some { cls := .type "set", dict := none, data := .set #[] 0 (.fresh 0 0 (!w.params.followText "set-order")) }) : SetG P w h a [] :=
  ⟨_, #[], 0, _, ho, ⟨rfl, rfl, rfl⟩, rfl, (fun e he => by simp at he), List.nodup_nil, (fun k => by simp), (by decide), (by rfl), rfl, List.Pairwise.nil, by
    show _ ∨ (!w.params.followText "set-order") = true
    cases w.params.followText "set-order"
    · exact .inr rfl
    · exact .inl rfl⟩
set_option maxHeartbeats 3200000 in
theorem call_setG {b : Addr} {items : Array Value} (ks : List Key) {Q : Value → Shared → Prop} (hh : A.handled = none) (hl : s.heap.IsList b items) (hsz : items.size = ks.length) (hit : ∀ (i : Nat) (v : Value), items[i]? = some v → ∃ k, ks[i]? = some k ∧ (mixKind P w).is k v = true ∧ v.scannable = true) (hb : ks.length + 1 < scanBound)
    (h : ∀ (h' : Heap) (tk : Nat), SetG P w h' s.heap.objs.size (ks.foldl insG []) → (∀ b o, s.heap.get? b = some o → h'.get? b = some o) → Q (.ref s.heap.objs.size) { s with heap := h', toks := tk }) :
    wpAny (model P w) A (call (.type "set") [.ref b]) Q E s := by
  obtain ⟨c, tl, hmro⟩ := F.called_set.mro
  have hmade := F.called_set.made
  have hsub := F.called_set.sub
  refine wpAny_call (codeAny_of_tree ?_)
  show wpAny _ _ (callAny (.type "set") _) _ _ _
  refine wpAny_pure ⟨Code.quiet_builtin _ (by decide +kernel), codeAny_builtin F.entry_type_call ?_⟩
  rw [Around.under_plain (weight_type_call_type "set" [.ref b] []) rfl]
  have h1 := F.called_set.notType
  have h2 := F.called_set.canCreate
  have hct := F.typeCall_set_1 (.ref b)
  repeat (any_goals (first | assumption | wp_step))

  refine codeAny_mono (code_set_led1 (.ref b) (E := E) (Q₁ := fun obj s₁ => obj = .ref s.heap.objs.size ∧ s₁ = { s with heap := s.heap.push { cls := .type "set", dict := none, data := .set #[] 0 (.fresh 0 0 (!w.params.followText "set-order")) } }) ⟨rfl, rfl⟩) fun r s₁ hr => ?_
  cases r with
  | error e => exact hr
  | ok fl =>
    cases fl with
    | ret obj =>
      obtain ⟨rfl, rfl⟩ := hr
      have hS : (s.heap.push { cls := .type "set", dict := none, data := .set #[] 0 (.fresh 0 0 (!w.params.followText "set-order")) }).get? s.heap.objs.size = some { cls := .type "set", dict := none, data := .set #[] 0 (.fresh 0 0 (!w.params.followText "set-order")) } := Heap.get?_push_size _ rfl
      have hT : Shared.TypeIs { s with heap := s.heap.push { cls := .type "set", dict := none, data := .set #[] 0 (.fresh 0 0 (!w.params.followText "set-order")) } } (.ref s.heap.objs.size) "set" := ⟨_, hS, rfl⟩
      have hli := F.called_set.init.lookup
      have hbi := F.called_set.init.bind (.ref s.heap.objs.size)
      repeat (any_goals (first | assumption | wp_step))

      refine codeAny_mono (codeAny_call_builtin (R := wants (fun r s₂ => r = .none ∧ ∃ h' tk, s₂ = { s with heap := h', toks := tk } ∧ SetG P w h' s.heap.objs.size (ks.foldl insG []) ∧
          (∀ b o, s.heap.get? b = some o → h'.get? b = some o)) E) F.called_set.init.plain F.entry_set_init (check_set_init_1 hT ?_)) fun r₂ s₂ hr₂ => ?_
      · obtain ⟨ol, hol, hcl, nl, hdl⟩ := hl
        obtain ⟨ocls, odict, odata, oslots⟩ := ol
        simp only at hcl hdl
        subst hcl; subst hdl
        have hol' : (s.heap.push { cls := .type "set", dict := none, data := .set #[] 0 (.fresh 0 0 (!w.params.followText "set-order")) }).get? b = some { cls := .type "list", dict := odict, data := .seq items nl, slots := oslots } := Heap.get?_push_of_some _ hol
        have hsls := F.sub_list_set
        have hslf := F.sub_list_frozenset
        have hne : (Value.type "list" == Value.type "dict") = false := by decide
        have hl1 : (s.heap.push { cls := .type "set", dict := none, data := .set #[] 0 (.fresh 0 0 (!w.params.followText "set-order")) }).IsList b items := ⟨_, hol', rfl, nl, rfl⟩
        unfold Builtin.«set.__init__» noKeywords Builtin.Frozenset.updateFrom
        generalize hPI : pyIter = PI
        wp_walk
        subst hPI

        refine wpAny_pyIter_list hl1 ?_
        refine wpAny_bind (wpAny_runValue ?_)
        have hlS : b < s.heap.objs.size := Heap.lt_size hol
        have hh3 : A.in1.in1.in1.handled = none := by simp [hh]
        have hneI : b ≠ (s.heap.push { cls := .type "set", dict := none, data := .set #[] 0 (.fresh 0 0 (!w.params.followText "set-order")) }).objs.size := by
          rw [Heap.size_push]; exact Nat.ne_of_lt (Nat.lt_succ_of_lt hlS)
        have hSf : s.heap.objs.size ∉ [(s.heap.push { cls := .type "set", dict := none, data := .set #[] 0 (.fresh 0 0 (!w.params.followText "set-order")) }).objs.size, b] := by
          rw [Heap.size_push]; simp only [List.mem_cons, List.mem_singleton, List.not_mem_nil, or_false, not_or]
          exact ⟨Nat.ne_of_lt (Nat.lt_succ_self _), Nat.ne_of_gt hlS⟩
        refine setG_loop ((Walks.list hh3 _ b hneI items).toS) s.heap.objs.size
          hSf ks hsz hb hit (items.size - 0) 0 _ (by omega) (Nat.zero_le _)
          ⟨⟨_, Heap.get?_push_size _ rfl, rfl, rfl⟩, (hl1.push _)⟩ ?hS0 ?hR
        case hS0 =>
          have hget : ((s.heap.push { cls := .type "set", dict := none, data := .set #[] 0 (.fresh 0 0 (!w.params.followText "set-order")) }).push { cls := .type "list_iterator", data := .fields #[.ref b, .int 0 0] }).get? s.heap.objs.size
              = some { cls := .type "set", dict := none, data := .set #[] 0 (.fresh 0 0 (!w.params.followText "set-order")) } := Heap.get?_push_of_some _ hS
          exact setG_new hget
        case hR =>
          intro s' hm hS'
          obtain ⟨h', g2, d', tk', os'⟩ := s'
          have eg : g2 = s.gens := hm.gens
          have ed : d' = s.drawn := hm.drawn
          have eo : os' = s.os := hm.os
          subst eg; subst ed; subst eo
          show wpAny _ _ _ _ _ _
          refine wpAny_pure ?_
          show wpAny _ _ (ret Value.none) _ _ _
          refine wpAny_pure ⟨rfl, h', tk', rfl, hS', fun b o e => ?_⟩
          have hb0 : b < s.heap.objs.size := Heap.lt_size e
          have hb1 : b ≠ s.heap.objs.size := Nat.ne_of_lt hb0
          have hb2 : b ≠ (s.heap.push { cls := .type "set", dict := none, data := .set #[] 0 (.fresh 0 0 (!w.params.followText "set-order")) }).objs.size := by
            rw [Heap.size_push]; exact Nat.ne_of_lt (Nat.lt_succ_of_lt hb0)
          exact hm.heap b o (by simp only [List.mem_cons, List.mem_singleton, List.not_mem_nil, or_false, not_or]; exact ⟨hb1, hb2⟩) (Heap.get?_push_of_some _ (Heap.get?_push_of_some _ e))

      · cases r₂ with
        | error e => exact hr₂
        | ok fl₂ =>
          cases fl₂ with
          | ret r =>
            obtain ⟨rfl, h', tk, rfl, hS', hk'⟩ := hr₂
            repeat (any_goals (first | assumption | wp_step))
            exact h _ _ hS' hk'
          | _ => exact hr₂.elim
    | _ => exact hr.elim
/-- the data of a key -/
def kD : Key → PyData
  | .inl i => .int i
  | .inr x => .str x
theorem perm_of_sub : ∀ {l l' : List Key}, l.Nodup → (∀ k ∈ l, k ∈ l') → l'.length = l.length → l.Perm l'
  | [], l', _, _, h => by
    rw [List.length_nil] at h
    rw [List.length_eq_zero_iff.mp h]
  | k :: l, l', nd, hm, h => by
    rw [List.nodup_cons] at nd
    obtain ⟨l1, l2, rfl⟩ := List.append_of_mem (hm k (List.mem_cons_self ..))
    have pe : (l1 ++ k :: l2).Perm (k :: (l1 ++ l2)) := List.perm_middle
    refine List.Perm.trans (List.Perm.cons k (perm_of_sub (l' := l1 ++ l2) nd.2 (fun x hx => ?_) ?_)) pe.symm
    · have hx' := hm x (List.mem_cons_of_mem _ hx)
      rcases List.mem_cons.mp (pe.mem_iff.mp hx') with e | e
      · exact absurd (e ▸ hx) nd.1
      · exact e
    · have := pe.length_eq
      rw [List.length_cons] at this h
      omega
/-- the members of a set, as they are gathered -/
theorem gathered {es : Array (Int × Value)} {l : List Key} (hel : ElemsOf (mixKind P w) es.toList) (nd : l.Nodup) (hm : ∀ k, k ∈ l ↔ ∃ e ∈ es.toList, (mixKind P w).is k e.2 = true) (hn : es.size = l.length) {out : List Value} (hp : out.Perm (es.toList.map (·.2))) :
    ∃ l' : List Key, l'.Perm l ∧ PySem.W.EachIs (fun v k => keyIs k v = true) out l' := by
  have hv : ∀ v ∈ out, ∃ k, keyIs k v = true := fun v hv => by
    obtain ⟨e, he, rfl⟩ := List.mem_map.mp (hp.mem_iff.mp hv)
    obtain ⟨⟨k, hk, _⟩, _⟩ := hel e he
    exact ⟨k, hk⟩
  have mk : ∀ out : List Value, (∀ v ∈ out, ∃ k, keyIs k v = true) → ∃ l' : List Key, PySem.W.EachIs (fun v k => keyIs k v = true) out l' := by
    intro out
    induction out with
    | nil => exact fun _ => ⟨[], .nil⟩
    | cons v out ih =>
      intro h
      obtain ⟨k, hk⟩ := h v (List.mem_cons_self ..)
      obtain ⟨l', e⟩ := ih fun x hx => h x (List.mem_cons_of_mem _ hx)
      exact ⟨k :: l', .cons hk e⟩
  obtain ⟨l', e⟩ := mk out hv
  have hlen : l'.length = l.length := by
    rw [← e.length, hp.length_eq, List.length_map, Array.length_toList, hn]
  have mem1 : ∀ k, k ∈ l → k ∈ l' := fun k hk => by
    obtain ⟨x, hx, q⟩ := (hm k).1 hk
    have hx2 : x.2 ∈ out := hp.mem_iff.mpr (List.mem_map_of_mem hx)
    have go : ∀ (o : List Value) (m : List Key), PySem.W.EachIs (fun v k => keyIs k v = true) o m → x.2 ∈ o → k ∈ m := by
      intro o m h
      induction h with
      | nil => exact fun z => nomatch z
      | cons h1 _ ih =>
        intro z
        rcases List.mem_cons.mp z with z | z
        · rw [← z] at h1
          rw [(mixKind P w).inj x.2 k _ q h1]
          exact List.mem_cons_self ..
        · exact List.mem_cons_of_mem _ (ih z)
    exact go _ _ e hx2
  refine ⟨l', ?_, e⟩
  exact (perm_of_sub nd mem1 hlen).symm
theorem sorted_setG (hh : A.handled = none) {Q : Value → Shared → Prop} (R : SetG P w s.heap a l) (hal : PySem.W.AllAlike (l.map kD)) (hu : A.units + 10 < cLine)
    (hQ : ∀ (s' : Shared) (p : Addr) (out : List Value) (c : Nat) (l' : List Key), l'.Perm l → PySem.W.EachIs (fun v k => keyIs k v = true) out (l'.mergeSort (PySem.W.dataLe false kD)) → (∀ b o, s.heap.get? b = some o → s'.heap.get? b = some o) → s.heap.objs.size ≤ p → s'.gens = s.gens → s'.os = s.os → s'.heap.get? p = some { cls := .type "list", dict := none, data := .seq out.toArray c, slots := #[] } → Q (.ref p) s') :
    wpAny (model P w) A (call (.builtin "sorted") [.ref a]) Q E s := by
  obtain ⟨o, es, ep, t, ho, hex, hd, hel, nd, hm, hb, hf, hn, hr, hl⟩ := R
  refine call_function_entry kind_sorted plain_sorted entry_sorted (args_sorted1 _) ?_
  unfold Builtin.«sorted»
  refine wpAny_bind (m := checkCount "sorted" 1 1 _) (wpAny_pure ?_)
  refine wpAny_bind (collect_set hh ⟨o, ho, hex.1, hd⟩ hf hb hr hl fun s1 out k1 hz1 g1 o1 pm => ?_)
  obtain ⟨l', pl, ei⟩ := gathered hel nd hm hn pm
  have hL : out.length ≤ sizeLine := by
    rw [pm.length_eq, List.length_map, Array.length_toList]
    have : scanBound ≤ sizeLine := by rw [sizeLine_eq]; decide
    omega
  refine wpAny_bind (wpAny_newList ?_ hL)
  have hat : (s1.heap.push (seqObj "list" out.toArray 0)).get? s1.heap.objs.size = some (seqObj "list" out.toArray 0) := Heap.get?_push_size _ rfl
  refine wpAny_bind (wpAny_holding (wpAny_call_entry slot_list_sort ⟨_, hat, rfl⟩ entry_list_sort ?body (args_list_sort _)))
  case body =>
    have hal2 : PySem.W.AllAlike (l'.map kD) := fun d hd d' hd' => hal d ((pl.map kD).mem_iff.mp hd) d' ((pl.map kD).mem_iff.mp hd')
    have rd : ∀ h : Heap, PySem.W.EachIs (fun v k => ∃ as, Reads h v (kD k) as) out l' := fun h => ei.mono fun v k q => by
      rcases keyIs_shape q with ⟨i, t, rfl, rfl⟩ | ⟨x, t, rfl, rfl⟩
      · exact ⟨[], .int _ _⟩
      · exact ⟨[], .str _ _⟩
    have S := sortsAt_ok (prog := P) (w := w) (A := A.in1.in1) (s := { s1 with heap := PySem.W.sortingHeap (s1.heap.push (seqObj "list" out.toArray 0)) s1.heap.objs.size out }) (vs := out) (ds := l'.map kD)
      (PySem.W.each_map (R := fun v d => ∃ as, Reads (PySem.W.sortingHeap (s1.heap.push (seqObj "list" out.toArray 0)) s1.heap.objs.size out) v d as) kD (rd _)) hal2 (.inl (.inr fun d hd => by
        obtain ⟨k, _, rfl⟩ := List.mem_map.mp hd
        cases k with
        | inl i => exact ⟨(fun z => nomatch z), fun xs z => nomatch z⟩
        | inr x => exact ⟨(fun z => nomatch z), fun xs z => nomatch z⟩)) (fun d hd => by
        obtain ⟨k, _, rfl⟩ := List.mem_map.mp hd
        have : (kD k).depth = 0 := by cases k <;> simp [kD, PyData.depth]
        rw [this]
        show A.units + 1 + 1 + 0 < cLine
        omega)
    refine PySem.W.list_sort_vals (s := { s1 with heap := s1.heap.push (seqObj "list" out.toArray 0) }) hat S hL ?_
    refine ⟨_, rfl, wpAny_pure ⟨_, rfl, ?_⟩⟩
    have sd := PySem.W.sortVals_data (enc := kD) (R := fun v k => keyIs k v = true) false ei (rd (PySem.W.sortingHeap (s1.heap.push (seqObj "list" out.toArray 0)) s1.heap.objs.size out)) hal2
    obtain ⟨c, hc⟩ := sortedHeap_at (n := 0) (out := (PySem.W.sortVals (PySem.W.dataKind (PySem.W.sortingHeap (s1.heap.push (seqObj "list" out.toArray 0)) s1.heap.objs.size out) (l'.map kD)) false out out).toArray) hat
    refine hQ _ _ _ c l' pl sd (fun b o e => ?_) hz1 g1 o1 hc
    have e1 := k1 b o e
    have hlt := Heap.lt_size e1
    show (sortedHeap _ _ _ _).get? b = some o
    rw [sortedHeap_old (Nat.ne_of_lt hlt) (by rw [size_push']; exact Nat.lt_succ_of_lt hlt)]
    exact Heap.get?_push_of_some _ e1
end
end L2

/-! N68: sorted(set(xs)) of a list of ints or of texts: the rules -/
namespace L2
open PySem PySem.Spec PyProof.Rows PySem.Calls
def rSetSort (K : PySem.W.Frag) : List V → Hp → VK → Prop := fun vs H Q => ∃ (a : Addr) (ks : List Key), vs = [V.ref a] ∧ SqL K H a (ks.map kV) ∧ ks.length + 1 < scanBound ∧ PySem.W.AllAlike (ks.map kD) ∧
  ∀ (p : Addr) (ks2 : List Key), H p = none → ks2.Nodup → (∀ k, k ∈ ks2 ↔ k ∈ ks) → (ks2.map kD).Pairwise (fun a b => PySem.W.dataLt b a = false) → Q (.ref p) (upd H p (.lst (ks2.map kV)))
theorem fold_ndG : ∀ (ks l : List Key), l.Nodup → (ks.foldl insG l).Nodup
  | [], _, h => h
  | k :: ks, l, h => by
    rw [List.foldl_cons]
    refine fold_ndG ks _ ?_
    unfold insG
    split
    · exact h
    · rename_i q
      exact List.nodup_cons.mpr ⟨q, h⟩
theorem vals_keys : ∀ {out : List Value} {l : List Key}, PySem.W.EachIs (fun v k => keyIs k v = true) out l → Vals (l.map kV) out
  | _, _, .nil => .nil
  | _, _, .cons h t => .cons (keyIs_rel h) (vals_keys t)
theorem vals_keyAt {w : World} {P : Program} : ∀ {ks : List Key} {its : List Value}, Vals (ks.map kV) its → ∀ (i : Nat) (v : Value), its[i]? = some v → ∃ k, ks[i]? = some k ∧ (mixKind P w).is k v = true ∧ v.scannable = true
  | [], _, .nil, i, v, h => by simp at h
  | k :: ks, _, .cons r t, 0, v, h => by
    cases h
    refine ⟨k, rfl, ?_⟩
    cases k with
    | inl i =>
      obtain ⟨t, rfl⟩ := r
      exact ⟨by show keyIs (.inl i) (.int i t) = true; simp [keyIs, Value.isInt], rfl⟩
    | inr x =>
      obtain ⟨t, rfl⟩ := r
      exact ⟨by show keyIs (.inr x) (.str x t) = true; simp [keyIs, Value.isStrOf], rfl⟩
  | k :: ks, _, .cons r t, i + 1, v, h => vals_keyAt t i v (by simpa using h)
section
variable {X : Cx} {e : Expr} {ta : TA} {p p2 pos pos2 : Pos}
theorem pe_sortSet (hc : X.calm = true) (hu : X.A.units + 64 < cLine) (hg : Gl X "sorted") (hm : X.mg "sorted" = none) (hgs : Gl X "set") (hms : X.mg "set" = none) (ha : PA X [e] ta)
    (na : starEach [.Call (.Name "set" p2) [e] [] pos2] X.env = (false, eval (.Call (.Name "set" p2) [e] [] pos2) X.env) :: starEach [] X.env := by rfl)
    (hs : starEach [e] X.env = (false, eval e X.env) :: starEach [] X.env := by rfl) (hpl : (backTo pos2 (starEach [] X.env)).any (·.1) = false := by rfl) (hpl0 : (backTo pos (starEach [] X.env)).any (·.1) = false := by rfl) :
    PE X (.Call (.Name "sorted" p) [.Call (.Name "set" p2) [e] [] pos2] [] pos) (fun σ H Q => ta σ H fun vs H1 => rSetSort X.K vs H1 Q) := by
  refine ⟨fun pins s σ H Q I h => ?_⟩
  have bs : bootBuiltins "set" = some (.type "set") := by decide +kernel
  refine wpAny_Call_Name_kw (ld_blt I hg hm PyProof.Rows.boot_sorted ?_ (by decide) (by decide))
  refine PyProof.Rows.callWith_builtin1 (args_cons ?_ na) na hpl0
  refine Call_ (ld_blt I hgs hms bs (PyProof.Rows.callWith_type1 (thn (ha.run pos2 pins s σ H _ I h) fun us s1 ⟨vs, H1, I1, r1, q1⟩ => ?_) hs hpl))
  obtain ⟨a, ks, ex, hq, hb, hal, q⟩ := q1
  subst ex
  rw [Vals.ref1 r1]
  obtain ⟨its, rv, p1, hz1⟩ := I1.list hq
  have hl := rv.length
  rw [List.length_map] at hl
  refine call_setG ks (I1.ok.hd hc) p1.isList (by rw [List.size_toArray, hl]) (fun i v e => vals_keyAt rv i v (by simpa using e)) hb fun h' tk hS k => ?_
  refine args_nil ?_
  have hal2 : PySem.W.AllAlike ((ks.foldl insG []).map kD) := fun d hd d' hd' => by
    obtain ⟨k1, m1, rfl⟩ := List.mem_map.mp hd
    obtain ⟨k2, m2, rfl⟩ := List.mem_map.mp hd'
    have n1 := (fold_memG k1 ks []).mp m1
    have n2 := (fold_memG k2 ks []).mp m2
    rw [or_iff_left List.not_mem_nil] at n1 n2
    exact hal _ (List.mem_map_of_mem n1) _ (List.mem_map_of_mem n2)
  refine sorted_setG (s := { s1 with heap := h', toks := tk }) (I1.ok.hd hc) hS hal2 (by omega) fun s' p out c l' pm ei kk hp hgn hos hat => ?_
  have kall : ∀ b u, s1.heap.get? b = some u → s'.heap.get? b = some u := fun b u e => kk b u (k b u e)
  have hsz : s1.heap.objs.size ≤ p := by
    refine Nat.le_trans ?_ hp
    obtain ⟨o, _, _, _, ho, _⟩ := hS
    exact Nat.le_of_lt (Heap.lt_size ho)
  have tl := PySem.W.sortLe_total (listOrd itemOrd) false fun b : Key => PySem.W.keyToks (kD b)
  have pm2 := List.mergeSort_perm l' (PySem.W.dataLe false kD)
  have pa := pm2.trans pm
  have nd : (l'.mergeSort (PySem.W.dataLe false kD)).Nodup := pa.nodup_iff.mpr (fold_ndG ks [] List.nodup_nil)
  have mm : ∀ x, x ∈ l'.mergeSort (PySem.W.dataLe false kD) ↔ x ∈ ks := fun x => by
    rw [pa.mem_iff, fold_memG x ks []]
    exact or_iff_left List.not_mem_nil
  have pw := List.pairwise_mergeSort (le := PySem.W.dataLe false kD) tl.trans (fun a b => by rw [Bool.or_eq_true]; exact tl.total a b) l'
  have pw2 : ((l'.mergeSort (PySem.W.dataLe false kD)).map kD).Pairwise (fun a b => PySem.W.dataLt b a = false) := by
    rw [List.pairwise_map]
    refine pw.imp fun {x y} hxy => ?_
    rw [PySem.W.dataLe_eq] at hxy
    simpa using hxy
  have vk := vals_keys ei
  have hlen : ((l'.mergeSort (PySem.W.dataLe false kD)).map kV).length ≤ sizeLine := by
    have h1 := fold_lenG ks []
    have h2 : scanBound ≤ sizeLine := by rw [sizeLine_eq]; decide
    rw [List.length_map, pa.length_eq]
    rw [List.length_nil] at h1
    omega
  have hn : H1 p = none := I1.hok.fresh hsz
  have J : Inv X pins σ (upd H1 p (.lst ((l'.mergeSort (PySem.W.dataLe false kD)).map kV))) { s1 with heap := s'.heap, gens := s'.gens, drawn := s'.drawn, toks := s'.toks } :=
    I1.call (ch := []) (Un.laid kall hsz hn) (I1.hok.laid kall hsz ⟨hlen, out, c, vk, hat⟩) (by rw [hgn]; exact I1.bare) (fun _ z => nomatch z)
  have es : s' = { s1 with heap := s'.heap, gens := s'.gens, drawn := s'.drawn, toks := s'.toks } := by
    cases s'
    cases s1
    cases hos
    rfl
  rw [es]
  exact ⟨.ref p, _, J, rfl, q p _ hn nd mm pw2⟩
end
end L2
namespace Tm
open PySem PySem.Spec PyProof.Rows L2
noncomputable section
/-- each once -/
def ddl {α : Type} [DecidableEq α] : List α → List α
  | [] => []
  | a :: l => if a ∈ ddl l then ddl l else a :: ddl l
theorem ddl_mem {α : Type} [DecidableEq α] {x : α} : ∀ {l : List α}, x ∈ ddl l ↔ x ∈ l
  | [] => Iff.rfl
  | a :: l => by
    unfold ddl
    split
    · rename_i h
      rw [ddl_mem, List.mem_cons]
      exact ⟨.inr, fun q => q.elim (fun e => by rw [e]; exact ddl_mem.mp h) id⟩
    · rw [List.mem_cons, List.mem_cons, ddl_mem]
theorem ddl_nd {α : Type} [DecidableEq α] : ∀ (l : List α), (ddl l).Nodup
  | [] => List.nodup_nil
  | a :: l => by
    unfold ddl
    split
    · exact ddl_nd l
    · rename_i h
      exact List.nodup_cons.mpr ⟨h, ddl_nd l⟩
def bSetI : List T → Option T
  | [.lst l] => if l.length ≤ 1000 then (toI l).map fun ns => T.lst ((srtI (ddl ns)).map T.int) else none
  | _ => none
def kI (i : Int) : Key := .inl i
theorem keys_back {α : Type} {f : α → Key} {ns : List α} : ∀ {l : List Key}, (∀ k ∈ l, k ∈ ns.map f) → ∃ m : List α, l = m.map f
  | [], _ => ⟨[], rfl⟩
  | k :: l, h => by
    obtain ⟨m, rfl⟩ := keys_back fun x hx => h x (List.mem_cons_of_mem _ hx)
    obtain ⟨a, _, rfl⟩ := List.mem_map.mp (h k (List.mem_cons_self ..))
    exact ⟨a :: m, rfl⟩
theorem set_same {α : Type} [DecidableEq α] {f : α → Key} (hf : ∀ a b, f a = f b → a = b) {ns m : List α} (nd : (m.map f).Nodup) (hm : ∀ k, k ∈ m.map f ↔ k ∈ ns.map f) : m.Perm (ddl ns) := by
  have n1 : m.Nodup := (List.pairwise_map.mp nd).imp fun h e => h (congrArg f e)
  have mem : ∀ {l : List α} {a : α}, f a ∈ l.map f ↔ a ∈ l := fun {l a} => ⟨fun q => by
    obtain ⟨b, hb, e⟩ := List.mem_map.mp q
    rw [← hf _ _ e]
    exact hb, fun q => List.mem_map_of_mem q⟩
  exact (List.perm_ext_iff_of_nodup n1 (ddl_nd ns)).mpr fun a => by rw [ddl_mem, ← mem (l := m), ← mem (l := ns)]; exact hm (f a)
section
variable {X : Cx} {K : PySem.W.Frag} {W : WX} {e : Expr} {fr : Ev (List T)} {p p2 pos pos2 : Pos}
theorem bSetI_ok : CallT K (rSetSort K) bSetI := fun A H xs ts tz Q d rs e k => by
  unfold bSetI at e
  split at e
  · split at e
    · rename_i hl
      obtain ⟨ns, hb, rfl⟩ := Option.map_eq_some_iff.mp e
      have el := toI_eq hb
      subst el
      rw [List.length_map] at hl
      cases rs with
      | cons r rs =>
        cases rs
        cases r with
        | lst na h r =>
          have := r.of_ints
          subst this
          refine ⟨_, ns.map kI, rfl, .inl (.inl (by rw [List.map_map]; exact h)), by rw [List.length_map]; exact Nat.lt_of_le_of_lt (Nat.succ_le_succ hl) (by decide), ?_, fun p ks2 hp nd mm pw => ?_⟩
          · intro d hd d' hd'
            rw [List.map_map] at hd hd'
            obtain ⟨z, _, rfl⟩ := List.mem_map.mp hd
            obtain ⟨z', _, rfl⟩ := List.mem_map.mp hd'
            simp [PySem.W.alike, kI, kD]
          · obtain ⟨m, rfl⟩ := keys_back (f := kI) (ns := ns) fun x hx => (mm x).mp hx
            have pm := set_same (f := kI) (fun a b e => Sum.inl.inj e) nd mm
            have so : m.Pairwise (· ≤ ·) := by
              rw [List.map_map, List.pairwise_map] at pw
              refine pw.imp fun {a b} h => ?_
              have h : PySem.W.dataLt (.int b) (.int a) = false := h
              rw [PySem.W.dataLt_int] at h
              have := of_decide_eq_false h
              omega
            rw [srtI_eq pm so]
            refine k _ _ (same_new hp) (.lst (d.new hp) upd_same ?_)
            rw [List.map_map]
            exact Reps.ints _
    · cases e
  · cases e
theorem m_sortSet {f : List T → Option T} (hu : X.A.units + 64 < cLine) (ht : CallT K (rSetSort K) f) (hm : X.mg "sorted" = none) (hms : X.mg "set" = none) (ha : PA X [e] (tXA K W fr)) (hc : X.calm = true := by rfl) (hg : Gl X "sorted" := by rfl) (hgs : Gl X "set" := by rfl)
    (na : starEach [.Call (.Name "set" p2) [e] [] pos2] X.env = (false, eval (.Call (.Name "set" p2) [e] [] pos2) X.env) :: starEach [] X.env := by rfl)
    (hs : starEach [e] X.env = (false, eval e X.env) :: starEach [] X.env := by rfl) (hpl : (backTo pos2 (starEach [] X.env)).any (·.1) = false := by rfl) (hpl0 : (backTo pos (starEach [] X.env)).any (·.1) = false := by rfl) (hK : X.K = K := by rfl) :
    PE X (.Call (.Name "sorted" p) [.Call (.Name "set" p2) [e] [] pos2] [] pos) (tX K W (mB f fr)) := by
  subst hK
  exact PE.imp (pe_sortSet hc hu hg hm hgs hms ha na hs hpl hpl0) fun σ H Q h => call_read ht h
end
end
end Tm

/-! N69: the greatest and the least of a list of ints -/
namespace Tm
open PySem PySem.Spec PyProof.Rows L2
noncomputable section
section
variable {K : PySem.W.Frag}
end
end
end Tm

/-! N71: list(d.values()) of a dict with tuple keys -/
namespace L2
open PySem PySem.Spec PyProof.Rows PySem.Calls PySem.W
section
variable {X : Cx} {e : Expr} {td : TE} {p apos cpos pos : Pos}
end
end L2
namespace Tm
open PySem PySem.Spec PyProof.Rows L2
noncomputable section
section
variable {X : Cx} {K : PySem.W.Frag} {W : WX} {e : Expr} {fa : Ev T} {p apos cpos pos : Pos}
end
end
end Tm

/-! N72: zip of lists and tuples, one of each too -/
namespace L2
open PySem PySem.Spec PyProof.Rows PySem.Calls
/-- an iterator over a list (false) or a tuple (true) -/
def ItB (b : Bool) (h : Heap) (it l : Addr) (k : Nat) : Prop := match b with
  | false => h.IsListIter it l k
  | true => h.IsTupleIter it l k
def SqB (b : Bool) (h : Heap) (l : Addr) (xs : Array Value) : Prop := match b with
  | false => h.IsList l xs
  | true => h.IsTuple l xs
theorem ItB.ext {b : Bool} {h h' : Heap} {it l c : Addr} {k : Nat} (x : ItB b h it l k) (hs : Heap.ExtBut c h h') (hn : it ≠ c) : ItB b h' it l k := by
  cases b
  · exact Heap.IsListIter.extBut x hs hn
  · exact Heap.IsTupleIter.extBut x hs hn
theorem ItB.at {b : Bool} {h h' : Heap} {it l : Addr} {k : Nat} (x : ItB b h it l k) (e : ∀ o, h.get? it = some o → h'.get? it = some o) : ItB b h' it l k := by
  cases b
  · exact Heap.IsListIter.at x e
  · exact Heap.IsTupleIter.at x e
theorem SqB.ext {b : Bool} {h h' : Heap} {l c : Addr} {xs : Array Value} (x : SqB b h l xs) (hs : Heap.ExtBut c h h') (hn : l ≠ c) : SqB b h' l xs := by
  cases b
  · exact Heap.IsList.extBut x hs hn
  · exact Heap.IsTuple.extBut x hs hn
theorem ItB.obj {b : Bool} {h : Heap} {it l : Addr} {k : Nat} (x : ItB b h it l k) : ∃ o, h.get? it = some o ∧ o.data = .fields #[.ref l, .int k 0] := by
  cases b
  · obtain ⟨o, e, _, d⟩ := x
    exact ⟨o, e, d⟩
  · obtain ⟨o, e, _, d⟩ := x
    exact ⟨o, e, d⟩
section
variable {prog : Program} {w : World} {A : Around} {E : Value → Shared → Prop} {s : Shared}
theorem itB_item {b : Bool} {it l : Addr} {i : Nat} {items : Array Value} {x : Value} {Q : Value → Shared → Prop} (hit : ItB b s.heap it l i) (hl : SqB b s.heap l items) (hx : items[i]? = some x)
    (hQ : ∀ h', ItB b h' it l (i + 1) → Heap.SameBut it s.heap h' → Q x { s with heap := h' }) : wpAny (model prog w) A (Builtin.SmallTypes.nextOf (.ref it)) Q E s := by
  cases b
  · exact wpAny_nextOf_list_item hit hl hx hQ
  · exact RZ.nextOf_tuple_item hit hl hx hQ
theorem itB_end {b : Bool} {it l : Addr} {i : Nat} {items : Array Value} {Q : Value → Shared → Prop} (hh : A.handled = none) (hit : ItB b s.heap it l i) (hl : SqB b s.heap l items) (hx : items[i]? = none)
    (hE : ∀ h' e, Heap.ExtBut it s.heap h' → (∃ o, h'.get? e = some o ∧ o.cls = .type "StopIteration") → E (.ref e) { s with heap := h' }) : wpAny (model prog w) A (Builtin.SmallTypes.nextOf (.ref it)) Q E s := by
  cases b
  · exact wpAny_nextOf_list_end hh hit hl hx hE
  · exact RZ.nextOf_tuple_end hh hit hl hx hE
theorem zipM_item {b1 b2 : Bool} {z TI TO i1 i2 l1 l2 : Addr} {k1 k2 : Nat} {xs ys : Array Value} {x y a b : Value} {Q : Value → Shared → Prop} (D : ZipApart z TI TO i1 i2 l1 l2)
    (hz : IsZip s.heap z TI TO .none) (hTI : IsPair s.heap TI (.ref i1) (.ref i2)) (hTO : IsPair s.heap TO a b)
    (h1 : ItB b1 s.heap i1 l1 k1) (h2 : ItB b2 s.heap i2 l2 k2) (hl1 : SqB b1 s.heap l1 xs) (hl2 : SqB b2 s.heap l2 ys) (hx : xs[k1]? = some x) (hy : ys[k2]? = some y)
    (hQ : ∀ h', IsZip h' z TI TO (rawInt s.heap.objs.size) → IsPair h' TO x y → ItB b1 h' i1 l1 (k1 + 1) → ItB b2 h' i2 l2 (k2 + 1) → IsPair h' s.heap.objs.size x y → h'.objs.size = s.heap.objs.size + 1 →
      (∀ c o, c ≠ z → c ≠ TO → c ≠ i1 → c ≠ i2 → s.heap.get? c = some o → h'.get? c = some o) → Q (.ref s.heap.objs.size) { s with heap := h' }) :
    wpAny (model prog w) A (Builtin.«zip.__next__» ⟨[.ref z], []⟩) (fun fin s' => ∃ v, fin = .done (.ret v) ∧ Q v s') E s := by
  show wpAny _ _ (field (.ref z) 2 >>= _) _ _ _
  refine wpAny_bind (wpAny_field hz rfl (x := .bool false) rfl ?_)
  show wpAny _ _ (field (.ref z) 3 >>= _) _ _ _
  refine wpAny_bind (wpAny_field hz rfl (x := .ref TI) rfl ?_)
  refine wpAny_bind (wpAny_seqItems hTI rfl ?_)
  show wpAny _ _ (Builtin.SmallTypes.ownedTupleIsFree (.ref z) >>= _) _ _ _
  refine wpAny_bind ?_
  unfold Builtin.SmallTypes.ownedTupleIsFree
  refine wpAny_bind (wpAny_field hz rfl (x := .none) rfl (wpAny_pure ?_))
  simp only [if_true]
  refine wpAny_bind (wpAny_rule ?_)
  refine wpAny_bind (wpAny_field hz rfl (x := .ref TO) rfl ?_)
  refine wpAny_bind (wpAny_setField_rec hz (by simp) fun g1 hz1 hs1 => ?_)
  replace hz1 : IsZip g1 z TI TO .ellipsis := hz1
  refine wpAny_bind ?_
  simp only [List.zipIdx_cons, List.zipIdx_nil, List.forIn_cons, List.forIn_nil]
  refine wpAny_bind (wpAny_bind (wpAny_onRaise ?_))
  show wpAny _ _ (Builtin.SmallTypes.nextOf (.ref i1) >>= _) _ _ _
  refine wpAny_bind (itB_item (h1.ext hs1.extBut D.i1z) (hl1.ext hs1.extBut D.l1z) hx fun g2 p2 hs2 => wpAny_pure ?_)
  have hT2 : IsPair g2 TO a b := hs2.extBut _ _ D.TOi1 (hs1.extBut _ _ D.TOz hTO)
  refine wpAny_bind (wpAny_seqItems hT2 rfl ?_)
  refine wpAny_bind (wpAny_updateSeq_pair hT2 fun g3 hT3 hs3 => ?_)
  replace hT3 : IsPair g3 TO x b := hT3
  refine wpAny_bind (wpAny_letGo (wpAny_pure ?_))
  refine wpAny_bind (wpAny_bind (wpAny_onRaise ?_))
  show wpAny _ _ (Builtin.SmallTypes.nextOf (.ref i2) >>= _) _ _ _
  refine wpAny_bind (itB_item (((h2.ext hs1.extBut D.i2z).ext hs2.extBut D.i12.symm).ext hs3.extBut D.TOi2.symm) (((hl2.ext hs1.extBut D.l2z).ext hs2.extBut D.l2i1).ext hs3.extBut D.l2TO) hy fun g4 p4 hs4 => wpAny_pure ?_)
  have hT4 : IsPair g4 TO x b := hs4.extBut _ _ D.TOi2 hT3
  refine wpAny_bind (wpAny_seqItems hT4 rfl ?_)
  refine wpAny_bind (wpAny_updateSeq_pair hT4 fun g5 hT5 hs5 => ?_)
  replace hT5 : IsPair g5 TO x y := hT5
  refine wpAny_bind (wpAny_letGo (wpAny_pure (wpAny_pure ?_)))
  refine wpAny_bind (wpAny_seqItems hT5 rfl ?_)
  refine wpAny_bind (wpAny_newTuple ?_)
  have hsz : g5.objs.size = s.heap.objs.size := by rw [hs5.1, hs4.1, hs3.1, hs2.1, hs1.1]
  have hz5 : IsZip g5 z TI TO .ellipsis := hs5.extBut _ _ D.TOz.symm (hs4.extBut _ _ D.i2z.symm (hs3.extBut _ _ D.TOz.symm (hs2.extBut _ _ D.i1z.symm hz1)))
  have hk5 : ∀ c o, c ≠ z → c ≠ TO → c ≠ i1 → c ≠ i2 → s.heap.get? c = some o → g5.get? c = some o := fun c o c1 c2 c3 c4 e =>
    hs5.extBut _ _ c2 (hs4.extBut _ _ c4 (hs3.extBut _ _ c2 (hs2.extBut _ _ c3 (hs1.extBut _ _ c1 e))))
  have q1 : ItB b1 g5 i1 l1 (k1 + 1) := ((p2.ext hs3.extBut D.TOi1.symm).ext hs4.extBut D.i12).ext hs5.extBut D.TOi1.symm
  have q2 : ItB b2 g5 i2 l2 (k2 + 1) := p4.ext hs5.extBut D.TOi2.symm
  have hzlt : z < g5.objs.size := Heap.lt_size hz5
  show wpAny _ _ (Builtin.SmallTypes.ownedTupleHandOut (.ref z) (.ref g5.objs.size) >>= _) _ _ _
  refine wpAny_bind ?_
  unfold Builtin.SmallTypes.ownedTupleHandOut
  have hz6 : IsZip (g5.push { cls := .type "tuple", data := .seq #[x, y] }) z TI TO .ellipsis := Heap.get?_push_of_some _ hz5
  refine wpAny_bind (wpAny_setField_rec hz6 (by simp) fun g7 hz7 hs7 => ?_)
  replace hz7 : IsZip g7 z TI TO (rawInt g5.objs.size) := hz7
  refine wpAny_setField_rec hz7 (by simp) fun g8 hz8 hs8 => ?_
  replace hz8 : IsZip g8 z TI TO (rawInt g5.objs.size) := hz8
  have up : ∀ c o, c ≠ z → g5.get? c = some o → g8.get? c = some o := fun c o c1 e => hs8.extBut _ _ c1 (hs7.extBut _ _ c1 (Heap.get?_push_of_some _ e))
  have hT8 : IsPair g8 g5.objs.size x y := hs8.extBut _ _ (Nat.ne_of_gt hzlt) (hs7.extBut _ _ (Nat.ne_of_gt hzlt) (Heap.get?_push_size _ rfl))
  have hn8 : g8.objs.size = g5.objs.size + 1 := by rw [hs8.1, hs7.1, Heap.size_push]
  rw [hsz] at hz8 hT8 hn8
  refine wpAny_pure ⟨_, rfl, ?_⟩
  show Q (.ref g5.objs.size) _
  rw [hsz]
  exact hQ g8 hz8 (up _ _ D.TOz hT5) (q1.at fun o e => up _ o D.i1z e) (q2.at fun o e => up _ o D.i2z e) hT8 hn8 fun c o c1 c2 c3 c4 e => up c o c1 (hk5 c o c1 c2 c3 c4 e)
theorem zipM_end {b1 b2 : Bool} {z TI TO i1 i2 l1 l2 : Addr} {k1 k2 : Nat} {xs ys : Array Value} {a b : Value} {Q : Fin → Shared → Prop} (hh : A.handled = none) (D : ZipApart z TI TO i1 i2 l1 l2)
    (hz : IsZip s.heap z TI TO .none) (hTI : IsPair s.heap TI (.ref i1) (.ref i2)) (hTO : IsPair s.heap TO a b)
    (h1 : ItB b1 s.heap i1 l1 k1) (h2 : ItB b2 s.heap i2 l2 k2) (hl1 : SqB b1 s.heap l1 xs) (hl2 : SqB b2 s.heap l2 ys) (hend : xs[k1]? = none ∨ ys[k2]? = none)
    (hE : ∀ h' e, (∀ c o, c ≠ z → c ≠ TO → c ≠ i1 → c ≠ i2 → s.heap.get? c = some o → h'.get? c = some o) → (∃ o, h'.get? e = some o ∧ o.cls = .type "StopIteration") → E (.ref e) { s with heap := h' }) :
    wpAny (model prog w) A (Builtin.«zip.__next__» ⟨[.ref z], []⟩) Q E s := by
  show wpAny _ _ (field (.ref z) 2 >>= _) _ _ _
  refine wpAny_bind (wpAny_field hz rfl (x := .bool false) rfl ?_)
  show wpAny _ _ (field (.ref z) 3 >>= _) _ _ _
  refine wpAny_bind (wpAny_field hz rfl (x := .ref TI) rfl ?_)
  refine wpAny_bind (wpAny_seqItems hTI rfl ?_)
  show wpAny _ _ (Builtin.SmallTypes.ownedTupleIsFree (.ref z) >>= _) _ _ _
  refine wpAny_bind ?_
  unfold Builtin.SmallTypes.ownedTupleIsFree
  refine wpAny_bind (wpAny_field hz rfl (x := .none) rfl (wpAny_pure ?_))
  simp only [if_true]
  refine wpAny_bind (wpAny_rule ?_)
  refine wpAny_bind (wpAny_field hz rfl (x := .ref TO) rfl ?_)
  refine wpAny_bind (wpAny_setField_rec hz (by simp) fun g1 hz1 hs1 => ?_)
  replace hz1 : IsZip g1 z TI TO .ellipsis := hz1
  refine wpAny_bind ?_
  simp only [List.zipIdx_cons, List.zipIdx_nil, List.forIn_cons, List.forIn_nil]
  refine wpAny_bind (wpAny_bind (wpAny_onRaise ?_))
  show wpAny _ _ (Builtin.SmallTypes.nextOf (.ref i1) >>= _) _ _ _
  cases hx : xs[k1]? with
  | none =>
    refine wpAny_bind (itB_end hh (h1.ext hs1.extBut D.i1z) (hl1.ext hs1.extBut D.l1z) hx fun g2 e hs2 he => ?_)
    obtain ⟨oe, hoe, hce⟩ := he
    have hz2 : IsZip g2 z TI TO .ellipsis := hs2 _ _ D.i1z.symm hz1
    have hez : e ≠ z := fun x => by subst x; rw [hz2] at hoe; cases hoe; simp at hce
    refine wpAny_setField_rec hz2 (by simp) fun g3 _ hs3 => hE g3 e (fun c o c1 _ c3 _ x => hs3.extBut _ _ c1 (hs2 _ _ c3 (hs1.extBut _ _ c1 x))) ⟨oe, hs3.extBut _ _ hez hoe, hce⟩
  | some x =>
    have hy : ys[k2]? = none := by rcases hend with h | h; rw [hx] at h; cases h; exact h
    refine wpAny_bind (itB_item (h1.ext hs1.extBut D.i1z) (hl1.ext hs1.extBut D.l1z) hx fun g2 p2 hs2 => wpAny_pure ?_)
    have hT2 : IsPair g2 TO a b := hs2.extBut _ _ D.TOi1 (hs1.extBut _ _ D.TOz hTO)
    refine wpAny_bind (wpAny_seqItems hT2 rfl ?_)
    refine wpAny_bind (wpAny_updateSeq_pair hT2 fun g3 hT3 hs3 => ?_)
    refine wpAny_bind (wpAny_letGo (wpAny_pure ?_))
    refine wpAny_bind (wpAny_bind (wpAny_onRaise ?_))
    show wpAny _ _ (Builtin.SmallTypes.nextOf (.ref i2) >>= _) _ _ _
    refine wpAny_bind (itB_end hh (((h2.ext hs1.extBut D.i2z).ext hs2.extBut D.i12.symm).ext hs3.extBut D.TOi2.symm) (((hl2.ext hs1.extBut D.l2z).ext hs2.extBut D.l2i1).ext hs3.extBut D.l2TO) hy fun g4 e hs4 he => ?_)
    obtain ⟨oe, hoe, hce⟩ := he
    have hz4 : IsZip g4 z TI TO .ellipsis := hs4 _ _ D.i2z.symm (hs3.extBut _ _ D.TOz.symm (hs2.extBut _ _ D.i1z.symm hz1))
    have hez : e ≠ z := fun x => by subst x; rw [hz4] at hoe; cases hoe; simp at hce
    refine wpAny_setField_rec hz4 (by simp) fun g5 _ hs5 => hE g5 e (fun c o c1 c2 c3 c4 x => hs5.extBut _ _ c1 (hs4 _ _ c4 (hs3.extBut _ _ c2 (hs2.extBut _ _ c3 (hs1.extBut _ _ c1 x))))) ⟨oe, hs5.extBut _ _ hez hoe, hce⟩
theorem nxtM_item {b1 b2 : Bool} {z TI TO i1 i2 l1 l2 : Addr} {k1 k2 : Nat} {xs ys : Array Value} {x y a b : Value} {Q : Option Value → Shared → Prop} (D : ZipApart z TI TO i1 i2 l1 l2)
    (hz : IsZip s.heap z TI TO .none) (hTI : IsPair s.heap TI (.ref i1) (.ref i2)) (hTO : IsPair s.heap TO a b)
    (h1 : ItB b1 s.heap i1 l1 k1) (h2 : ItB b2 s.heap i2 l2 k2) (hl1 : SqB b1 s.heap l1 xs) (hl2 : SqB b2 s.heap l2 ys) (hx : xs[k1]? = some x) (hy : ys[k2]? = some y)
    (hQ : ∀ h', IsZip h' z TI TO (rawInt s.heap.objs.size) → IsPair h' TO x y → ItB b1 h' i1 l1 (k1 + 1) → ItB b2 h' i2 l2 (k2 + 1) → IsPair h' s.heap.objs.size x y → h'.objs.size = s.heap.objs.size + 1 →
      (∀ c o, c ≠ z → c ≠ TO → c ≠ i1 → c ≠ i2 → s.heap.get? c = some o → h'.get? c = some o) → Q (some (.ref s.heap.objs.size)) { s with heap := h' }) :
    wpAny (model prog w) A (pyNext (.ref z)) Q E s := by
  have hT : s.TypeIs (.ref z) "zip" := ⟨_, hz, rfl⟩
  unfold pyNext
  exact wpAny_bind (wpAny_attempt (wpAny_callSpecial?_slot (name := Str.ofString "__next__") hT F.slot_zip_next
    (wpAny_call_entry F.slot_zip_next hT F.entry_zip_next
      (zipM_item D hz hTI hTO h1 h2 hl1 hl2 hx hy fun h' a1 a2 a3 a4 a5 a6 a7 => wpAny_pure (hQ h' a1 a2 a3 a4 a5 a6 a7)) (F.args_zip_next_1 _))))
theorem nxtM_end {b1 b2 : Bool} {z TI TO i1 i2 l1 l2 : Addr} {k1 k2 : Nat} {xs ys : Array Value} {a b : Value} {Q : Option Value → Shared → Prop} (hh : A.handled = none) (D : ZipApart z TI TO i1 i2 l1 l2)
    (hz : IsZip s.heap z TI TO .none) (hTI : IsPair s.heap TI (.ref i1) (.ref i2)) (hTO : IsPair s.heap TO a b)
    (h1 : ItB b1 s.heap i1 l1 k1) (h2 : ItB b2 s.heap i2 l2 k2) (hl1 : SqB b1 s.heap l1 xs) (hl2 : SqB b2 s.heap l2 ys) (hend : xs[k1]? = none ∨ ys[k2]? = none)
    (hQ : ∀ h', (∀ c o, c ≠ z → c ≠ TO → c ≠ i1 → c ≠ i2 → s.heap.get? c = some o → h'.get? c = some o) → Q none { s with heap := h' }) : wpAny (model prog w) A (pyNext (.ref z)) Q E s := by
  have hT : s.TypeIs (.ref z) "zip" := ⟨_, hz, rfl⟩
  unfold pyNext
  refine wpAny_bind (wpAny_attempt (wpAny_callSpecial?_slot (name := Str.ofString "__next__") hT F.slot_zip_next
    (wpAny_call_entry F.slot_zip_next hT F.entry_zip_next (zipM_end hh D hz hTI hTO h1 h2 hl1 hl2 hend fun h' e hk he => ?_) (F.args_zip_next_1 _))))
  obtain ⟨o, ho, hc⟩ := he
  refine wpAny_bind (wpAny_isInstance (T := "StopIteration") (b := true) ⟨o, ho, hc⟩ isSubtype_stop ?_)
  exact wpAny_pure (hQ _ hk)
end
abbrev itC (b : Bool) (l : Addr) : Obj := match b with
  | false => { cls := .type "list_iterator", data := .fields #[.ref l, .int 0 0] }
  | true => { cls := .type "tuple_iterator", data := .fields #[.ref l, .int 0 0] }
abbrev zmH1 (b1 : Bool) (h : Heap) (l1 : Addr) : Heap := h.push (itC b1 l1)
abbrev zmH2 (b1 b2 : Bool) (h : Heap) (l1 l2 : Addr) : Heap := (zmH1 b1 h l1).push (itC b2 l2)
abbrev zmH3 (b1 b2 : Bool) (h : Heap) (l1 l2 : Addr) : Heap := (zmH2 b1 b2 h l1 l2).push { cls := .type "tuple", data := .seq #[.ref h.objs.size, .ref (zmH1 b1 h l1).objs.size] }
abbrev zmH4 (b1 b2 : Bool) (h : Heap) (l1 l2 : Addr) : Heap := (zmH3 b1 b2 h l1 l2).push { cls := .type "tuple", data := .seq #[.none, .none] }
abbrev zmH5 (b1 b2 : Bool) (h : Heap) (l1 l2 : Addr) : Heap := (zmH4 b1 b2 h l1 l2).push { cls := .type "zip", data := .fields #[.none, .bool false, .bool false, .ref (zmH2 b1 b2 h l1 l2).objs.size, .ref (zmH3 b1 b2 h l1 l2).objs.size] }
theorem meets_zipM (b1 b2 : Bool) (l1 l2 : Addr) (xs ys : Array Value) :
    Meets (Builtin.«zip.__new__» ⟨[.type "zip", .ref l1, .ref l2], []⟩) (fun _ R s => SqB b1 s.heap l1 xs ∧ SqB b2 s.heap l2 ys ∧
      R (.ok (.ret (.ref (zmH4 b1 b2 s.heap l1 l2).objs.size))) { s with heap := zmH5 b1 b2 s.heap l1 l2 }) :=
  .of_wp fun prog w A R s h => by
    obtain ⟨hp, g, d, tk, os⟩ := s; obtain ⟨hl1, hl2, h⟩ := h
    have hsub := sub_zip
    cases b1
    · have hL1 : Heap.IsList (Shared.heap ⟨hp, g, d, tk, os⟩) l1 xs := hl1
      cases b2
      · have hL2 : Heap.IsList (Shared.heap ⟨hp.push { cls := .type "list_iterator", data := .fields #[.ref l1, .int 0 0] }, g, d, tk, os⟩) l2 ys := Heap.IsList.push hl2 _
        wp_walk using wpAny_pyIter_list hL1, wpAny_pyIter_list hL2
        exact ⟨_, rfl, h⟩
      · have hL2 : Heap.IsTuple (Shared.heap ⟨hp.push { cls := .type "list_iterator", data := .fields #[.ref l1, .int 0 0] }, g, d, tk, os⟩) l2 ys := Heap.IsTuple.push hl2 _
        wp_walk using wpAny_pyIter_list hL1, wpAny_pyIter_tuple hL2
        exact ⟨_, rfl, h⟩
    · have hL1 : Heap.IsTuple (Shared.heap ⟨hp, g, d, tk, os⟩) l1 xs := hl1
      cases b2
      · have hL2 : Heap.IsList (Shared.heap ⟨hp.push { cls := .type "tuple_iterator", data := .fields #[.ref l1, .int 0 0] }, g, d, tk, os⟩) l2 ys := Heap.IsList.push hl2 _
        wp_walk using wpAny_pyIter_tuple hL1, wpAny_pyIter_list hL2
        exact ⟨_, rfl, h⟩
      · have hL2 : Heap.IsTuple (Shared.heap ⟨hp.push { cls := .type "tuple_iterator", data := .fields #[.ref l1, .int 0 0] }, g, d, tk, os⟩) l2 ys := Heap.IsTuple.push hl2 _
        wp_walk using wpAny_pyIter_tuple hL1, wpAny_pyIter_tuple hL2
        exact ⟨_, rfl, h⟩
theorem itB_new {b : Bool} {h : Heap} {it l : Addr} (e : h.get? it = some (itC b l)) : ItB b h it l 0 := by
  cases b
  · exact ⟨_, e, rfl, rfl⟩
  · exact ⟨_, e, rfl, rfl⟩
section
variable {prog : Program} {w : World} {A : Around} {E : Value → Shared → Prop} {s : Shared}
theorem call_zipM {b1 b2 : Bool} {l1 l2 : Addr} {xs ys : Array Value} {Q : Value → Shared → Prop} (hl1 : SqB b1 s.heap l1 xs) (hl2 : SqB b2 s.heap l2 ys)
    (h : ∀ h', IsZip h' (s.heap.objs.size + 4) (s.heap.objs.size + 2) (s.heap.objs.size + 3) .none → IsPair h' (s.heap.objs.size + 2) (.ref s.heap.objs.size) (.ref (s.heap.objs.size + 1)) →
      IsPair h' (s.heap.objs.size + 3) .none .none → ItB b1 h' s.heap.objs.size l1 0 → ItB b2 h' (s.heap.objs.size + 1) l2 0 → h'.objs.size = s.heap.objs.size + 5 →
      (∀ c o, s.heap.get? c = some o → h'.get? c = some o) → Q (.ref (s.heap.objs.size + 4)) { s with heap := h' }) :
    wpAny (model prog w) A (call (.type "zip") [.ref l1, .ref l2]) Q E s := by
  refine callType_new F.called_zip (by decide) (F.typeCall_zip_2 _ _) (F.newCall_zip_2 _ _) (fun obj => F.args_object_init_3 obj _ _) F.entry_zip_new
    (meets_zipM b1 b2 l1 l2 xs ys) ⟨hl1, hl2, ?_⟩
  have z1 : (zmH1 b1 s.heap l1).objs.size = s.heap.objs.size + 1 := Heap.size_push ..
  have z2 : (zmH2 b1 b2 s.heap l1 l2).objs.size = s.heap.objs.size + 2 := by rw [Heap.size_push, z1]
  have z3 : (zmH3 b1 b2 s.heap l1 l2).objs.size = s.heap.objs.size + 3 := by rw [Heap.size_push, z2]
  have z4 : (zmH4 b1 b2 s.heap l1 l2).objs.size = s.heap.objs.size + 4 := by rw [Heap.size_push, z3]
  have z5 : (zmH5 b1 b2 s.heap l1 l2).objs.size = s.heap.objs.size + 5 := by rw [Heap.size_push, z4]
  have fr1 : (itC b1 l1).isFreed = false := by cases b1 <;> rfl
  have fr2 : (itC b2 l2).isFreed = false := by cases b2 <;> rfl
  have g5 : (zmH5 b1 b2 s.heap l1 l2).get? (zmH4 b1 b2 s.heap l1 l2).objs.size = some _ := Heap.get?_push_size _ rfl
  have g4 : (zmH5 b1 b2 s.heap l1 l2).get? (zmH3 b1 b2 s.heap l1 l2).objs.size = some _ := Heap.get?_push_of_some _ (Heap.get?_push_size _ rfl)
  have g3 : (zmH5 b1 b2 s.heap l1 l2).get? (zmH2 b1 b2 s.heap l1 l2).objs.size = some _ := Heap.get?_push_of_some _ (Heap.get?_push_of_some _ (Heap.get?_push_size _ rfl))
  have g2 : (zmH5 b1 b2 s.heap l1 l2).get? (zmH1 b1 s.heap l1).objs.size = some (itC b2 l2) := Heap.get?_push_of_some _ (Heap.get?_push_of_some _ (Heap.get?_push_of_some _ (Heap.get?_push_size _ fr2)))
  have g1 : (zmH5 b1 b2 s.heap l1 l2).get? s.heap.objs.size = some (itC b1 l1) := Heap.get?_push_of_some _ (Heap.get?_push_of_some _ (Heap.get?_push_of_some _ (Heap.get?_push_of_some _ (Heap.get?_push_size _ fr1))))
  show _ ∧ _
  rw [z2, z3, z4] at g5
  rw [z1, z2] at g3
  rw [z3] at g4
  rw [z1] at g2
  rw [z4]
  exact ⟨⟨_, g5, rfl⟩, h _ g5 g3 g4 (itB_new g1) (itB_new g2) z5 fun c o x =>
    Heap.get?_push_of_some _ (Heap.get?_push_of_some _ (Heap.get?_push_of_some _ (Heap.get?_push_of_some _ (Heap.get?_push_of_some _ x))))⟩
end
/-- the sequence at a: a list (false) or a tuple (true) -/
def SqM (b : Bool) (K : PySem.W.Frag) (H : Hp) (a : Addr) (xs : List V) : Prop := match b with
  | false => SqL K H a xs
  | true => SqT K H a xs
section
variable {X : Cx} {pins : List (Addr × Obj)} {σ : L2.St} {H : Hp} {s : Shared}
theorem SqM.at {b : Bool} {a : Addr} {xs : List V} (I : Inv X pins σ H s) (q : SqM b X.K H a xs) : ∃ its, Vals xs its ∧ SqB b s.heap a its.toArray ∧ a < s.heap.objs.size := by
  cases b
  · obtain ⟨its, rv, p, _⟩ := I.list q
    exact ⟨its, rv, p.isList, p.lt⟩
  · obtain ⟨its, rv, p, _⟩ := I.tuple q
    obtain ⟨o, ho, _⟩ := id p
    exact ⟨its, rv, p, Heap.lt_size ho⟩
theorem SqM.inj {b : Bool} {a : Addr} {xs ys : List V} (I : Inv X pins σ H s) (q : SqM b X.K H a xs) (q' : SqM b X.K H a ys) : xs = ys := by
  cases b
  · exact I.list_inj q q'
  · exact I.tuple_inj q q'
end
def ItzM (b1 b2 : Bool) (K : PySem.W.Frag) (a b : Addr) : It :=
  ⟨fun i H => ∃ (xs ys : List V) (x y : V), SqM b1 K H a xs ∧ SqM b2 K H b ys ∧ xs[i]? = some x ∧ ys[i]? = some y,
    fun i H v H' => ∃ T x y, v = .ref T ∧ H T = none ∧ H' = upd H T (.tup [x, y]) ∧ (∀ xs, SqM b1 K H a xs → xs[i]? = some x) ∧ ∀ ys, SqM b2 K H b ys → ys[i]? = some y,
    fun i H => ∃ xs ys : List V, SqM b1 K H a xs ∧ SqM b2 K H b ys ∧ (xs.length ≤ i ∨ ys.length ≤ i)⟩
theorem turn_zipM {P : Program} {w : World} {K : PySem.W.Frag} {elts : List Expr} {kk : Nat} {tpos : Pos} {b1 b2 : Bool} {a b z TI TO i1 i2 : Addr} (D : ZipApart z TI TO i1 i2 a b) :
    Turn P w K (.Tuple elts kk tpos) (ItzM b1 b2 K a b) [z, TI, TO, i1, i2] z (fun i h => IsZip h z TI TO .none ∧ IsPair h TI (.ref i1) (.ref i2) ∧ (∃ x y, IsPair h TO x y) ∧ ItB b1 h i1 a i ∧ ItB b2 h i2 b i) where
  mem := by simp
  obj := fun i h st c hc => by
    obtain ⟨hz, hTI, ⟨x, y, hTO⟩, p1, p2⟩ := st
    obtain ⟨o1, e1, d1⟩ := p1.obj
    obtain ⟨o2, e2, d2⟩ := p2.obj
    have e' : c = z ∨ c = TI ∨ c = TO ∨ c = i1 ∨ c = i2 := by simpa using hc
    rcases e' with q | q | q | q | q
    · rw [q]; exact ⟨_, hz, fun v q => nomatch q⟩
    · rw [q]; exact ⟨_, hTI, fun v q => nomatch q⟩
    · rw [q]; exact ⟨_, hTO, fun v q => nomatch q⟩
    · rw [q]; exact ⟨o1, e1, fun v q => by rw [d1] at q; cases q⟩
    · rw [q]; exact ⟨o2, e2, fun v q => by rw [d2] at q; cases q⟩
  keep := fun i h h' st k => by
    obtain ⟨hz, hTI, ⟨x, y, hTO⟩, h1, h2⟩ := st
    exact ⟨k z (by simp) _ hz, k TI (by simp) _ hTI, ⟨x, y, k TO (by simp) _ hTO⟩, h1.at fun o q => k i1 (by simp) o q, h2.at fun o q => k i2 (by simp) o q⟩
  item := by
    intro X hP hw hK hc i pins s σ H E I hf st hg
    subst hP hw hK
    obtain ⟨hz, hTI, ⟨x0, y0, hTO⟩, h1, h2⟩ := st
    obtain ⟨xs, ys, x, y, hqx, hqy, hx, hy⟩ := hg
    obtain ⟨its, rv, p, _⟩ := SqM.at I hqx
    obtain ⟨its2, rv2, p2, _⟩ := SqM.at I hqy
    obtain ⟨u, hu, ru⟩ := rv.get hx
    obtain ⟨u2, hu2, ru2⟩ := rv2.get hy
    have hzl : z < s.heap.objs.size := Heap.lt_size hz
    refine nxtM_item D hz hTI hTO h1 h2 p p2 (x := u) (y := u2) (by simpa using hu) (by simpa using hu2) fun h' z' TO' h1' h2' hT hsz hk => ?_
    refine ⟨_, rfl, wpAny_letOwnedTupleGo_zip (s := { s with heap := h' }) z' fun h'' z'' sb => ?_⟩
    have hT2 : h''.get? s.heap.objs.size = some { cls := .type "tuple", data := .seq #[u, u2] } := (sb.2 _ (Nat.ne_of_gt hzl)).trans hT
    have new : ObjOk X.prog X.w (upd H s.heap.objs.size (.tup [x, y])) h'' s.heap.objs.size (.tup [x, y]) :=
      ⟨by show 2 ≤ sizeLine; decide, [u, u2], .cons ru (.cons ru2 .nil), ⟨_, hT2, rfl, _, rfl⟩⟩
    have I1 : Inv X pins σ (upd H s.heap.objs.size (.tup [x, y])) { s with heap := h'' } :=
      I.turnedNew (t' := s.toks) (ch := [z, TI, TO, i1, i2]) (fun c o hb q => (sb.2 c (fun q' => hb (by simp [q']))).trans (hk c o (fun q' => hb (by simp [q'])) (fun q' => hb (by simp [q'])) (fun q' => hb (by simp [q'])) (fun q' => hb (by simp [q'])) q)) hf (Nat.le_refl _) new
    refine ⟨.ref s.heap.objs.size, _, I1, rfl, ⟨_, x, y, rfl, I.hok.fresh (Nat.le_refl _), rfl, fun l hl => by rw [SqM.inj I hl hqx]; exact hx, fun l hl => by rw [SqM.inj I hl hqy]; exact hy⟩, ⟨z'', ?_, ⟨u, u2, ?_⟩, ?_, ?_⟩, fun c hcm => ?_⟩
    · exact (sb.2 _ D.TIz).trans (hk _ _ D.TIz D.TITO D.TIi1 D.TIi2 hTI)
    · exact (sb.2 _ D.TOz).trans TO'
    · exact h1'.at fun o q => (sb.2 _ D.i1z).trans q
    · exact h2'.at fun o q => (sb.2 _ D.i2z).trans q
    · have hlt : c < s.heap.objs.size := by
        have e' : c = z ∨ c = TI ∨ c = TO ∨ c = i1 ∨ c = i2 := by simpa using hcm
        obtain ⟨o1, e1, _⟩ := h1.obj
        obtain ⟨o2, e2, _⟩ := h2.obj
        rcases e' with q | q | q | q | q
        · rw [q]; exact hzl
        · rw [q]; exact Heap.lt_size hTI
        · rw [q]; exact Heap.lt_size hTO
        · rw [q]; exact Heap.lt_size e1
        · rw [q]; exact Heap.lt_size e2
      rw [upd_ne (Nat.ne_of_lt hlt)]
      exact (hf c hcm).1
  done := by
    intro X hP hw hK hc i pins s σ H E I hf st hg
    subst hP hw hK
    obtain ⟨hz, hTI, ⟨x0, y0, hTO⟩, h1, h2⟩ := st
    obtain ⟨xs, ys, hqx, hqy, hend⟩ := hg
    obtain ⟨its, rv, p, _⟩ := SqM.at I hqx
    obtain ⟨its2, rv2, p2, _⟩ := SqM.at I hqy
    have l1 := rv.length
    have l2 := rv2.length
    have he : its.toArray[i]? = none ∨ its2.toArray[i]? = none := by
      rcases hend with q | q
      · exact .inl (by simp; omega)
      · exact .inr (by simp; omega)
    exact nxtM_end (I.ok.hd hc) D hz hTI hTO h1 h2 p p2 he fun h' hk => ⟨rfl, I.turnedL (t' := s.toks) (ch := [z, TI, TO, i1, i2]) (fun c o hb q =>
      hk c o (fun q' => hb (by simp [q'])) (fun q' => hb (by simp [q'])) (fun q' => hb (by simp [q'])) (fun q' => hb (by simp [q'])) q) hf⟩
  self := fun A i s Q E st h => wpAny_pyIter_zip st.1 h
def iZipM (K : PySem.W.Frag) (ta : TA) : TI := fun σ H R => ta σ H fun vs H1 => ∃ (b1 b2 : Bool) (a b : Addr) (xs ys : List V), vs = [.ref a, .ref b] ∧ SqM b1 K H1 a xs ∧ SqM b2 K H1 b ys ∧ R (ItzM b1 b2 K a b) H1
theorem pi_zipM {X : Cx} {e e2 : Expr} {ta : TA} {p pos tpos : Pos} {elts : List Expr} {kk : Nat} (hg : Gl X "zip") (hm : X.mg "zip" = none) (ha : PA X [e, e2] ta)
    (hs : starEach [e, e2] X.env = (false, eval e X.env) :: starEach [e2] X.env := by rfl) (hpl : (backTo pos (starEach [e2] X.env)).any (·.1) = false := by rfl) :
    PI X (.Tuple elts kk tpos) (.Call (.Name "zip" p) [e, e2] [] pos) (iZipM X.K ta) := by
  refine ⟨fun pins s σ H R I h => ?_⟩
  refine Call_ (ld_blt I hg hm PyProof.Rows.boot_zip (PyProof.Rows.callWith_type1 (thn (ha.run pos pins s σ H _ I h) fun us s1 ⟨vs, H1, I1, r1, q1⟩ => ?_) hs hpl))
  obtain ⟨b1, b2, a, b, xs, ys, ex, hqx, hqy, q⟩ := q1
  subst ex
  cases r1 with
  | cons r rr =>
    cases rr with
    | cons r' rr =>
      cases rr
      cases r
      cases r'
      obtain ⟨its, rv, p1, la⟩ := SqM.at I1 hqx
      obtain ⟨its2, rv2, p2, lb⟩ := SqM.at I1 hqy
      refine call_zipM p1 p2 fun h' hz hTI hTO h1 h2 hsz hk => wpAny_pyIter_zip hz ?_
      have I2 : Inv X pins σ H1 { s1 with heap := h' } := I1.kept (t' := s1.toks) hk
      refine ⟨s1.heap.objs.size + 4, [s1.heap.objs.size + 4, s1.heap.objs.size + 2, s1.heap.objs.size + 3, s1.heap.objs.size, s1.heap.objs.size + 1], _, _, H1, rfl, I2, turn_zipM (PySem.W.ktu_apart s1.heap.objs.size a b la lb), ⟨hz, hTI, ⟨_, _, hTO⟩, h1, h2⟩, fun c hcm => ?_, q⟩
      have e' : c = s1.heap.objs.size + 4 ∨ c = s1.heap.objs.size + 2 ∨ c = s1.heap.objs.size + 3 ∨ c = s1.heap.objs.size ∨ c = s1.heap.objs.size + 1 := by simpa using hcm
      have hle : s1.heap.objs.size ≤ c := by
        rcases e' with z | z | z | z | z
        · rw [z]; exact Nat.le_add_right _ _
        · rw [z]; exact Nat.le_add_right _ _
        · rw [z]; exact Nat.le_add_right _ _
        · rw [z]; exact Nat.le_refl _
        · rw [z]; exact Nat.le_add_right _ _
      exact I1.fpOk hle (I1.hok.fresh hle)
end L2
namespace Tm
open PySem PySem.Spec PyProof.Rows L2
def fZipM : List T → Option (List T)
  | [.lst l, .lst m] => some (zpT l m)
  | [.lst l, .tup m] => some (zpT l m)
  | [.tup l, .lst m] => some (zpT l m)
  | [.tup l, .tup m] => some (zpT l m)
  | _ => none
/-- a list or a tuple as it stands -/
theorem seq_rep {K : PySem.W.Frag} {A : ASet} {H : Hp} {v : V} {t : T} (r : Rep K A H v t) {l : List T} (e : t = .lst l ∨ t = .tup l) : ∃ (b : Bool) (a : Addr) (xs : List V), v = .ref a ∧ ∀ A2 H2, Rep K A2 H2 v t → ∃ ys, SqM b K H2 a ys ∧ Reps K A2 H2 ys l := by
  rcases e with rfl | rfl
  · cases r with
    | lst na h rs =>
      refine ⟨false, _, [], rfl, fun A2 H2 r2 => ?_⟩
      cases r2 with
      | lst na2 h2 rs2 => exact ⟨_, .inl (.inl h2), rs2⟩
  · cases r with
    | tup h rs =>
      refine ⟨true, _, [], rfl, fun A2 H2 r2 => ?_⟩
      cases r2 with
      | tup h2 rs2 => exact ⟨_, .inl (.inl h2), rs2⟩
theorem zipM_of {x : List T} {l : List T} (h : fZipM x = some l) : ∃ a b l1 l2, x = [a, b] ∧ (a = .lst l1 ∨ a = .tup l1) ∧ (b = .lst l2 ∨ b = .tup l2) ∧ l = zpT l1 l2 := by
  unfold fZipM at h
  split at h
  · cases h; exact ⟨_, _, _, _, rfl, .inl rfl, .inl rfl, rfl⟩
  · cases h; exact ⟨_, _, _, _, rfl, .inl rfl, .inr rfl, rfl⟩
  · cases h; exact ⟨_, _, _, _, rfl, .inr rfl, .inl rfl, rfl⟩
  · cases h; exact ⟨_, _, _, _, rfl, .inr rfl, .inr rfl, rfl⟩
  · cases h
theorem i_zipM {X : Cx} {K : PySem.W.Frag} {W : WX} {e e2 : Expr} {fr : Ev (List T)} {p pos tpos : Pos} {elts : List Expr} {kk : Nat} (hm : X.mg "zip" = none) (ha : PA X [e, e2] (tXA K W fr)) (hg : Gl X "zip" := by rfl)
    (hs : starEach [e, e2] X.env = (false, eval e X.env) :: starEach [e2] X.env := by rfl) (hpl : (backTo pos (starEach [e2] X.env)).any (·.1) = false := by rfl) (hK : X.K = K := by rfl) : PI X (.Tuple elts kk tpos) (.Call (.Name "zip" p) [e, e2] [] pos) (tXI K W (mL fZipM fr)) := by
  subst hK
  refine PI.imp (pi_zipM hg hm ha hs hpl) fun σ H R h => ?_
  obtain ⟨cf, bs, m, S, ρ, F, h⟩ := h
  refine ⟨cf, bs, m, S, ρ, F, RsOk.bind F h fun x vx m1 H1 S1 F1 k1 R1 h1 => ?_⟩
  unfold RpA at R1
  cases ez : fZipM x with
  | none => rw [ez] at h1; exact h1.elim
  | some l =>
    rw [ez] at h1
    obtain ⟨ta, tb, l1, l2, rfl, ea, eb, rfl⟩ := zipM_of ez
    cases R1 with
    | cons r rr =>
      cases rr with
      | cons r' rr =>
        cases rr
        obtain ⟨b1, a1, _, rfl, f1⟩ := seq_rep r ea
        obtain ⟨b2, a2, _, rfl, f2⟩ := seq_rep r' eb
        obtain ⟨xs, qx, _⟩ := f1 _ _ r
        obtain ⟨ys, qy, _⟩ := f2 _ _ r'
        refine ⟨b1, b2, _, _, xs, ys, rfl, qx, qy, h1 _ m1 H1 F1.cs Kp.refl fun bs' m2 S2 H2 L cs i => ?_⟩
        obtain ⟨xs2, g1, w1⟩ := f1 _ _ (r.lk L)
        obtain ⟨ys2, g2, w2⟩ := f2 _ _ (r'.lk L)
        refine ⟨fun t ht => ?_, fun hi => ?_⟩
        · obtain ⟨x, y, ex, ey, rfl⟩ := zpT_get (Option.some.inj ht)
          obtain ⟨vx, hvx, rx⟩ := w1.get ex
          obtain ⟨vy, hvy, ry⟩ := w2.get ey
          refine ⟨⟨xs2, ys2, vx, vy, g1, g2, hvx, hvy⟩, fun z H3 q => ?_⟩
          obtain ⟨q, u, v, rfl, hq, rfl, k1, k2⟩ := q
          have e1 := k1 _ g1
          have e2 := k2 _ g2
          rw [hvx] at e1
          rw [hvy] at e2
          cases e1
          cases e2
          have s := same_new (o := .tup [vx, vy]) hq
          exact ⟨s, .tup upd_same (.cons (rx.same s) (.cons (ry.same s) .nil))⟩
        · have hi := zpT_none (Option.some.inj hi)
          exact ⟨xs2, ys2, g1, g2, by rw [w1.length, w2.length]; exact hi⟩
end Tm

/-! N74: dicts whose keys are nested tuples: {}, setdefault -/
namespace Tm
open PySem PySem.Spec PyProof.Rows L2
noncomputable section
mutual
/-- the key that a tree is -/
def toNK : T → Option NestedKey
  | .int i => some (.num i)
  | .str x => some (.text x)
  | .non => some .none
  | .tup l => (toNKs l).map .tup
  | _ => none
def toNKs : List T → Option (List NestedKey)
  | [] => some []
  | t :: l => match toNK t, toNKs l with
    | some k, some ks => some (k :: ks)
    | _, _ => none
end
theorem toNKs_len : ∀ {l : List T} {ks : List NestedKey}, toNKs l = some ks → ks.length = l.length
  | [], ks, h => by unfold toNKs at h; cases h; rfl
  | t :: l, ks, h => by
    unfold toNKs at h
    cases e1 : toNK t with
    | none => rw [e1] at h; cases h
    | some k =>
      cases e2 : toNKs l with
      | none => rw [e1, e2] at h; cases h
      | some ks' =>
        rw [e1, e2] at h
        cases h
        rw [List.length_cons, List.length_cons, toNKs_len e2]
section
variable {X : Cx} {pins : List (Addr × Obj)} {σ : L2.St} {H : Hp} {s : Shared} {A : ASet}
mutual
theorem rep_nk (I : Inv X pins σ H s) : ∀ {v : V} {t : T} {k : NestedKey} {u : Value}, Rep X.K A H v t → toNK t = some k → RelV v u → NestedIs s.heap k u
  | _, .int i, k, u, r, e, rv => by
    cases r
    unfold toNK at e
    cases e
    obtain ⟨t, rfl⟩ := rv
    exact .int _ _
  | _, .str x, k, u, r, e, rv => by
    cases r
    unfold toNK at e
    cases e
    obtain ⟨t, rfl⟩ := rv
    exact .text _ _
  | _, .non, k, u, r, e, rv => by
    cases r
    unfold toNK at e
    cases e
    cases rv
    exact .none
  | _, .tup l, k, u, r, e, rv => by
    unfold toNK at e
    obtain ⟨ks, hk, rfl⟩ := Option.map_eq_some_iff.mp e
    cases r with
    | tup h rs =>
      cases rv
      obtain ⟨its, va, p, _⟩ := I.tuple (.inl (.inl h))
      obtain ⟨o, ho, hc, n, hd⟩ := (show s.heap.IsTuple _ its.toArray from p)
      exact .tup ho hc hd (reps_nk I rs hk va)
  | _, .bl _, k, u, r, e, rv => by unfold toNK at e; cases e
  | _, .lst _, k, u, r, e, rv => by unfold toNK at e; cases e
  | _, .dK .., k, u, r, e, rv => by unfold toNK at e; cases e
  | _, .dT .., k, u, r, e, rv => by unfold toNK at e; cases e
  | _, .obj .., k, u, r, e, rv => by unfold toNK at e; cases e
  | _, .cls _, k, u, r, e, rv => by unfold toNK at e; cases e
  | _, .scr _, k, u, r, e, rv => by unfold toNK at e; cases e
  | _, .ref _, k, u, r, e, rv => by unfold toNK at e; cases e
  | _, .fn _, k, u, r, e, rv => by unfold toNK at e; cases e
  | _, .lam _, k, u, r, e, rv => by unfold toNK at e; cases e
  | _, .dN .., k, u, r, e, rv => by unfold toNK at e; cases e
  | _, .lk _, k, u, r, e, rv => by unfold toNK at e; cases e
  | _, .wt _, k, u, r, e, rv => by unfold toNK at e; cases e
  | _, .exc .., k, u, r, e, rv => by unfold toNK at e; cases e
theorem reps_nk (I : Inv X pins σ H s) : ∀ {vs : List V} {l : List T} {ks : List NestedKey} {us : List Value}, Reps X.K A H vs l → toNKs l = some ks → Vals vs us → NestedAll s.heap ks us
  | _, [], ks, us, r, e, va => by
    cases r
    unfold toNKs at e
    cases e
    cases va
    exact .nil
  | _, t :: l, ks, us, r, e, va => by
    unfold toNKs at e
    cases e1 : toNK t with
    | none => rw [e1] at e; cases e
    | some k =>
      cases e2 : toNKs l with
      | none => rw [e1, e2] at e; cases e
      | some ks' =>
        rw [e1, e2] at e
        cases e
        cases r with
        | cons h rs =>
          cases va with
          | cons r1 rr => exact .cons (rep_nk I h e1 r1) (reps_nk I rs e2 rr)
end
end
/-! ### entries -/
abbrev NX := NestedKey × Addr × Value
theorem xs_of {P : Program} {w : World} : ∀ {es : List DictEntry} {nks : List NestedKey} {bs : List Addr}, es.map (·.key) = bs.map Value.ref → es.map (·.hash) = nks.map (fun k => k.hash w) → ∃ xs : List NX, es = xs.map (entryOfKey (nestedKind P w)) ∧ xs.map (·.1) = nks ∧ xs.map (·.2.1) = bs ∧ xs.map (·.2.2) = es.map (·.val)
  | [], nks, bs, h1, h2 => by
    have b0 : bs = [] := by
      cases bs with
      | nil => rfl
      | cons b bs => cases h1
    have n0 : nks = [] := by
      cases nks with
      | nil => rfl
      | cons b bs => cases h2
    subst b0 n0
    exact ⟨[], rfl, rfl, rfl, rfl⟩
  | e :: es, nks, bs, h1, h2 => by
    cases bs with
    | nil => cases h1
    | cons b bs =>
      cases nks with
      | nil => cases h2
      | cons k nks =>
        rw [List.map_cons, List.map_cons] at h1 h2
        obtain ⟨a1, a2⟩ := List.cons.inj h1
        obtain ⟨c1, c2⟩ := List.cons.inj h2
        obtain ⟨xs, e1, e2, e3, e4⟩ := xs_of (P := P) a2 c2
        refine ⟨(k, b, e.val) :: xs, ?_, by rw [List.map_cons, e2], by rw [List.map_cons, e3], by rw [List.map_cons, List.map_cons, e4]⟩
        rw [List.map_cons, ← e1]
        refine congrArg (· :: es) ?_
        obtain ⟨eh, ek, ev⟩ := e
        dsimp only at a1 c1
        subst a1 c1
        rfl
theorem keys_in {h : Heap} : ∀ {xs : List NX}, NestedAll h (xs.map (·.1)) ((xs.map (·.2.1)).map Value.ref) → ∀ x ∈ xs, NestedIs h x.1 (.ref x.2.1)
  | [], _, x, hx => nomatch hx
  | y :: xs, n, x, hx => by
    rw [List.map_cons, List.map_cons, List.map_cons] at n
    cases n with
    | cons h1 h2 =>
      rcases List.mem_cons.mp hx with rfl | hx
      · exact h1
      · exact keys_in h2 x hx
theorem vals_ref : ∀ (bs : List Addr), Vals (bs.map V.ref) (bs.map Value.ref)
  | [] => .nil
  | b :: bs => .cons rfl (vals_ref bs)
/-- a dict's entries as they stand -/
theorem dict_of {X : Cx} {pins : List (Addr × Obj)} {σ : L2.St} {H : Hp} {s : Shared} {A : ASet} {a : Addr} {es : Array DictEntry} {bs : List Addr} {ks : List T} {nks : List NestedKey} (I : Inv X pins σ H s) (h : H a = some (.ext (RawD a es))) (hk : es.toList.map (·.key) = bs.map Value.ref) (rk : Reps X.K A H (bs.map V.ref) ks)
    (hn : toNKs ks = some nks) (hh : es.toList.map (·.hash) = nks.map (fun k => k.hash X.w)) (nd : nks.Nodup) (dp : ∀ k ∈ nks, k.depth ≤ 8) :
    ∃ xs : List NX, es = (xs.map (entryOfKey (nestedKind X.prog X.w))).toArray ∧ xs.map (·.1) = nks ∧ xs.map (·.2.1) = bs ∧ xs.map (·.2.2) = es.toList.map (·.val) ∧ s.heap.DictOfH (nestedKind X.prog X.w) a xs ∧ (a == sysModules) = false := by
  obtain ⟨xs, e1, e2, e3, e4⟩ := xs_of (P := X.prog) hk hh
  have ok := I.hok a _ h
  obtain ⟨⟨o, ep, ho, hx, hd, lo⟩, _, _⟩ := (show ObjOk X.prog X.w H s.heap a (.ext (RawD a es)) from ok)
  have na : NestedAll s.heap nks (bs.map Value.ref) := reps_nk I rk hn (vals_ref bs)
  rw [← e2, ← e3] at na
  refine ⟨xs, by rw [← e1, Array.toArray_toList], e2, e3, e4, ⟨o, es, ep, ho, hx, hd, e1, fun x hx => ⟨keys_in na x hx, dp _ (by rw [← e2]; exact List.mem_map_of_mem hx)⟩, by rw [e2]; exact nd⟩, lo⟩
theorem raw_of {P : Program} {w : World} {h : Heap} {a : Addr} {xs : List NX} (m : h.DictOfH (nestedKind P w) a xs) (lo : (a == sysModules) = false) : RawD a ((xs.map (entryOfKey (nestedKind P w))).toArray) h := by
  obtain ⟨o, es, ep, ho, hx, hd, he, _, _⟩ := m
  have : es = (xs.map (entryOfKey (nestedKind P w))).toArray := by rw [← he, Array.toArray_toList]
  subst this
  exact ⟨o, ep, ho, hx, hd, lo⟩
theorem raw_ok {P : Program} {w : World} {H : Hp} {h : Heap} {a : Addr} {es : Array DictEntry} (r : RawD a es h) : ObjOk P w H h a (.ext (RawD a es)) := by
  have r0 := r
  obtain ⟨o, ep, ho, hx, hd, lo⟩ := r
  refine ⟨r0, ⟨o, ho⟩, fun h1 h2 q k => ?_⟩
  obtain ⟨o1, ep1, g1, g2, g3, g4⟩ := q
  exact ⟨o1, ep1, k _ g1, g2, g3, g4⟩
/-! ### {} -/
def mDicN : Ev T := fun _ _ S => .ok (.ref S.length) (S ++ [.dN [] [] []])
section
variable {X : Cx} {K : PySem.W.Frag} {W : WX} {pos : Pos}
theorem pe_dnewN : PE X (.Dict [] [] pos) (fun σ H Q => ∀ p, H p = none → Q (.ref p) (upd H p (.ext (RawD p #[])))) := ⟨fun pins s σ H Q I h => by
  refine wpAny_Dict_empty ?_
  have z := dt_empty (P := X.prog) (w := X.w) (H := H) s.heap I.big
  obtain ⟨_, lo, _⟩ := z
  refine ⟨.ref s.heap.objs.size, _, I.laid (a := s.heap.objs.size) (o := .ext (RawD s.heap.objs.size #[])) (t' := s.toks) (fun _ _ q => Heap.get?_push_of_some _ q) (Nat.le_refl _) (raw_ok ?_), rfl, h _ (I.hok.fresh (Nat.le_refl _))⟩
  exact ⟨_, 0, Heap.get?_push_size _ rfl, ⟨rfl, rfl, rfl⟩, rfl, lo⟩⟩
theorem m_dicN : PE X (.Dict [] [] pos) (tX K W mDicN) := PE.imp pe_dnewN fun σ H Q h => by
  obtain ⟨cf, bs, m, S, ρ, F, h⟩ := h
  intro p hp
  exact new_ok F hp (same_new hp) (.dN (es := #[]) (bs := []) (vs := []) upd_same rfl .nil rfl .nil .nil rfl) h
end
/-! ### setdefault -/
def isTupN : NestedKey → Bool
  | .tup _ => true
  | _ => false
/-- the keys as they are, hashed as they must be, and one more key -/
def ndOk (w : World) (nks : List NestedKey) (hs : List Int) (k : NestedKey) : Bool := decide (hs = nks.map (fun k => k.hash w)) && (decide nks.Nodup && (nks.all (fun k => decide (k.depth ≤ 8)) && (decide (k.depth ≤ 8) && isTupN k)))
theorem ndOk_iff {w : World} {nks : List NestedKey} {hs : List Int} {k : NestedKey} : ndOk w nks hs k = true ↔ hs = nks.map (fun k => k.hash w) ∧ nks.Nodup ∧ (∀ k ∈ nks, k.depth ≤ 8) ∧ k.depth ≤ 8 ∧ isTupN k = true := by
  unfold ndOk
  simp only [Bool.and_eq_true, decide_eq_true_eq, List.all_eq_true]
theorem atKey_none {K : Type} [DecidableEq K] {xs : List (K × Addr × Value)} {l : List T} {k : K} (hl : xs.length = l.length) (h : dGet (xs.map (·.1)) l k = none) : atKey xs k = none := by
  induction xs generalizing l with
  | nil => rfl
  | cons x xs ih =>
    cases l with
    | nil => cases hl
    | cons t l =>
      unfold dGet at h
      rw [List.map_cons] at h
      dsimp only at h
      by_cases q : x.1 = k
      · rw [if_pos q] at h
        cases h
      · rw [if_neg q] at h
        have := ih (by simpa using hl) h
        unfold atKey at this ⊢
        rw [List.find?_cons_of_neg (by simpa using q)]
        exact this
theorem atKey_some {K : Type} [DecidableEq K] {H : Hp} {F : PySem.W.Frag} {A : ASet} {xs : List (K × Addr × Value)} {vs : List V} {l : List T} {k : K} {t : T} (va : Vals vs (xs.map (·.2.2))) (r : Reps F A H vs l) (h : dGet (xs.map (·.1)) l k = some t) : ∃ p v, atKey xs k = some p ∧ RelV v p.2 ∧ Rep F A H v t := by
  induction xs generalizing l vs with
  | nil =>
    cases l <;> (unfold dGet at h; cases h)
  | cons x xs ih =>
    rw [List.map_cons] at va
    cases va with
    | cons r1 rr =>
      cases r with
      | @cons _ t0 _ l h1 rs =>
        rw [List.map_cons] at h
        unfold dGet at h
        by_cases q : x.1 = k
        · rw [if_pos q] at h
          cases h
          refine ⟨x.2, _, ?_, r1, h1⟩
          unfold atKey
          rw [List.find?_cons_of_pos (by simpa using q)]
          rfl
        · rw [if_neg q] at h
          obtain ⟨p, v, e1, e2, e3⟩ := ih rr rs h
          refine ⟨p, v, ?_, e2, e3⟩
          unfold atKey at e1 ⊢
          rw [List.find?_cons_of_neg (by simpa using q)]
          exact e1
section
variable {X : Cx} {K : PySem.W.Frag} {W : WX} {o a b : Expr} {fo fa fb : Ev T} {apos cpos : Pos} {w : World}
end
/-! ### defs whose mirror depends on the world, but not their answers -/
def wld0 : World := { draws := fun _ _ => 0, params := { strHash := fun _ => 0, shareClass := fun _ => 0, mergeTok := id, idOf := fun a => a, idOfShared := fun _ _ => 8, followText := fun _ => false, idOfImm := fun _ => 16 } }
open Classical in
def hideW (G : World → Fn) : Fn := fun c as S => if h : ∃ r, ∀ w, G w c as S = r then h.choose else .st
theorem hideW_ok {G : World → Fn} {c : Cf} {as : List T} {S : St} {r : Rs T} (h : ∀ w, G w c as S = r) : hideW G c as S = r := by
  have q : ∃ r, ∀ w, G w c as S = r := ⟨r, h⟩
  unfold hideW
  rw [dif_pos q, ← q.choose_spec wld0, h]
theorem hideW_is (G : World → Fn) (w : World) (c : Cf) (as : List T) (S : St) : hideW G c as S = G w c as S ∨ hideW G c as S = .st := by
  unfold hideW
  split
  · rename_i h
    exact .inl (h.choose_spec w).symm
  · exact .inr rfl
theorem hideW_sp {K : PySem.W.Frag} {G : World → Fn} (w : World) {vs : List V} {H : Hp} {Q : VK} {E : XK} (h : spF K (hideW G) vs H Q E) : spF K (G w) vs H Q E := by
  obtain ⟨c, bs, m, S, as, cs, bn, r, h⟩ := h
  refine ⟨c, bs, m, S, as, cs, bn, r, ?_⟩
  rcases hideW_is G w c as S with q | q
  · rw [q] at h
    exact h
  · rw [q] at h
    exact h.elim
theorem takes_hide {k : Nat} {G : World → Fn} (h : ∀ w, takesN k (G w)) : takesN k (hideW G) := fun c as S hk => by
  rcases hideW_is G wld0 c as S with q | q
  · rw [q]
    exact h _ c as S hk
  · exact q
end
end Tm

/-! N75: dicts whose keys are nested tuples: d[k] = v, d[k], sorted(d) -/
namespace L2
open PySem PySem.Spec PyProof.Rows PySem.Calls
mutual
theorem reads_pl {h : Heap} : ∀ {d : PyData} {u : Value} {as : List Addr}, Tm.isPl d = true → Reads h u d as → as = []
  | .int _, _, _, _, r => by cases r; rfl
  | .str _, _, _, _, r => by cases r; rfl
  | .tuple xs, _, _, p, r => by
    unfold Tm.isPl at p
    cases r with
    | tuple h1 h2 h3 h4 => exact readsAll_pl p h4
  | .none, _, _, p, _ => by unfold Tm.isPl at p; cases p
  | .bool _, _, _, p, _ => by unfold Tm.isPl at p; cases p
  | .list _, _, _, p, _ => by unfold Tm.isPl at p; cases p
  | .dict _, _, _, p, _ => by unfold Tm.isPl at p; cases p
theorem readsAll_pl {h : Heap} : ∀ {ds : List PyData} {us : List Value} {as : List Addr}, Tm.isPls ds = true → ReadsAll h us ds as → as = []
  | [], _, _, _, r => by cases r; rfl
  | d :: ds, _, _, p, r => by
    unfold Tm.isPls at p
    rw [Bool.and_eq_true] at p
    cases r with
    | cons r1 r2 =>
      rw [reads_pl p.1 r1, readsAll_pl p.2 r2]
      rfl
end
section
variable {X : Cx}
/-- sorted(a dict), by its raw keys -/
def rSortN (K : PySem.W.Frag) : List V → Hp → VK → Prop := fun vs H Q => ∃ (d : Addr) (es : Array DictEntry) (bs : List Addr) (ds : List PyData), vs = [V.ref d] ∧ H d = some (.ext (Tm.RawD d es)) ∧ es.toList.map (·.key) = bs.map Value.ref ∧ es.size ≤ sizeLine ∧ DpAll K H (bs.map V.ref) ds ∧ Tm.isPls ds = true ∧ PySem.W.AllAlike ds ∧ SrtOK ds ∧ (∀ x ∈ ds, x.depth < 60) ∧
  ∀ p ys (zs : List (V × PyData)), H p = none → zs.Perm ((bs.map V.ref).zip ds) → zs.Pairwise (fun a b => PySem.W.dataLt b.2 a.2 = false) → ys = zs.map (·.1) → Q (.ref p) (upd H p (.lst ys))
theorem isPls_mem : ∀ {ds : List PyData}, Tm.isPls ds = true → ∀ d ∈ ds, Tm.isPl d = true
  | d :: ds, h, x, hx => by
    unfold Tm.isPls at h
    rw [Bool.and_eq_true] at h
    rcases List.mem_cons.mp hx with rfl | hx
    · exact h.1
    · exact isPls_mem h.2 x hx
theorem cr_sortN (hu : X.A.units + 64 < cLine) (hc : X.calm = true) : CallR X (.builtin "sorted") (rSortN X.K) := by
  intro pins s σ H vs us Q I r h
  obtain ⟨d, es, bs, ds, rfl, ha, hk0, hz0, dp, pl, hal, hk, hd, q⟩ := h
  obtain rfl := Vals.ref1 r
  obtain ⟨⟨o, ep, ho, hx, hdat, lo⟩, _, _⟩ := (show ObjOk X.prog X.w H s.heap d (.ext (Tm.RawD d es)) from I.hok d _ ha)
  have src := KdlSrc.rawDict (prog := X.prog) (w := X.w) (d := d) (es := es) (ep := ep) lo
  refine (call_function_entry kind_sorted plain_sorted entry_sorted (args_sorted1 _) ?_)
  unfold Builtin.«sorted»
  refine (wpAny_bind (m := checkCount "sorted" 1 1 _) (wpAny_pure ?_))
  refine wpAny_bind (PySem.W.kdu_collect (A := X.A.in1) src (I.ok.hd hc) ⟨o, ho, hx, hdat⟩ hz0 fun h' tk acc hke hacc => ?_)
  have lb : bs.length = es.size := by
    have := congrArg List.length hk0
    rw [List.length_map, List.length_map, Array.length_toList] at this
    exact this.symm
  have la : acc.toList.length = bs.length := by rw [Array.length_toList, hacc.1, lb]
  have eacc : acc.toList = bs.map Value.ref := by
    refine List.ext_getElem (by rw [la, List.length_map]) fun j h1 h2 => ?_
    obtain ⟨hi, ev⟩ := hacc.2 j acc.toList[j] (by rw [← Array.getElem?_toList]; exact List.getElem?_eq_getElem h1)
    rw [ev]
    have := congrArg (fun l => l[j]?) hk0
    rw [List.getElem?_map, Array.getElem?_toList, Array.getElem?_eq_getElem hi, List.getElem?_eq_getElem h2] at this
    exact Option.some.inj this
  refine wpAny_bind (wpAny_newList ?_ (by rw [la, lb]; exact hz0))
  have I1 : Inv X pins σ H { s with heap := h', toks := tk } := I.kept hke
  have rv : Vals (bs.map V.ref) acc.toList := by rw [eacc]; exact vals_refs bs
  have hlen : (bs.map V.ref).length = ds.length := dp.len
  generalize hzs : bs.map V.ref = zs at rv dp hlen q
  have lz : zs.length = bs.length := by rw [← hzs, List.length_map]
  have em : (zs.zip ds).map Prod.snd = ds := List.map_snd_zip (by omega)
  have e1 := each_zip rv hlen
  obtain ⟨as, ra⟩ := Dp.readsAll I1 ds zs acc.toList dp rv
  rw [← em] at ra
  have e2 := PySem.W.readsAll_each Prod.snd ra
  have zl : (zs.zip ds).length = zs.length := by rw [List.length_zip]; omega
  have hob : (h'.push { cls := .type "list", data := .seq acc.toList.toArray }).get? h'.objs.size = some (seqObj "list" acc.toList.toArray 0) := Heap.get?_push_size _ rfl
  have e3 : PySem.W.EachIs (fun (v : Value) (b : V × PyData) => ∃ as, Reads (h'.push { cls := .type "list", data := .seq acc.toList.toArray }) v b.2 as ∧ h'.objs.size ∉ as) acc.toList (zs.zip ds) := (PySem.W.each_mem e2).mono fun v b ⟨⟨as, r⟩, hb⟩ => by
    have hm : b.2 ∈ ds := by rw [← em]; exact List.mem_map_of_mem hb
    have r' := PyProof.Rows.Reads.keeps (h' := h'.push { cls := .type "list", data := .seq acc.toList.toArray }) (fun b o q => Heap.get?_push_of_some _ q) r
    refine ⟨as, r', ?_⟩
    rw [reads_pl (isPls_mem pl _ hm) r]
    exact fun h => nomatch h
  refine wpAny_bind (wpAny_holding (wpAny_mono (list_sort_dataO (A := X.A.in1) (n := 0) (enc := Prod.snd) (Q := fun _ s' => EP X pins σ Q (.ref h'.objs.size) s') hob e1 e3 (by rw [em]; exact hal) (by rw [em]; exact hk) (by omega) (fun b hb => ?_) fun out h1 h2 => ?_) (fun _ s' x => ?_) fun _ _ e => e))
  · have hm : b.2 ∈ ds := by rw [← em]; exact List.mem_map_of_mem hb
    have := hd _ hm
    show X.A.units + 1 + 1 + b.2.depth < cLine
    omega
  · obtain ⟨c, he'⟩ := PyProof.Rows.sortedHeap_at (out := out.toArray) hob
    have tl := PySem.W.sortLe_total (listOrd itemOrd) false fun b : V × PyData => PySem.W.keyToks b.2
    have pm := List.mergeSort_perm (zs.zip ds) (PySem.W.dataLe false Prod.snd)
    have hlen2 : (((zs.zip ds).mergeSort (PySem.W.dataLe false Prod.snd)).map (·.1)).length ≤ sizeLine := by
      rw [List.length_map, pm.length_eq, zl]
      omega
    refine ⟨.ref _, upd H h'.objs.size (.lst (((zs.zip ds).mergeSort (PySem.W.dataLe false Prod.snd)).map (·.1))), I1.laid (t' := tk) (fun b u hb => ?_) (Nat.le_refl _) ⟨hlen2, out, c, vals_each h2, he'⟩, rfl, q _ _ _ (I1.hok.fresh (Nat.le_refl _)) pm ?_ rfl⟩
    · have hlt : b < h'.objs.size := Heap.lt_size hb
      have hne : b ≠ h'.objs.size := Nat.ne_of_lt hlt
      rw [PyProof.Rows.sortedHeap_old hne (Nat.lt_of_lt_of_le hlt (by rw [size_push']; exact Nat.le_succ _))]
      exact Heap.get?_push_of_some _ hb
    · have pw := List.pairwise_mergeSort (le := PySem.W.dataLe false Prod.snd) tl.trans (fun a b => by rw [Bool.or_eq_true]; exact tl.total a b) (zs.zip ds)
      refine pw.imp fun {x y} hxy => ?_
      rw [PySem.W.dataLe_eq] at hxy
      simpa using hxy
  · exact wpAny_pure ⟨_, rfl, x⟩
end
end L2
namespace Tm
open PySem PySem.Spec PyProof.Rows L2
noncomputable section
/-! ### sorted -/
def mSrtN (fo : Ev T) : Ev T := fo.bind fun x _ _ S => match x with
  | .ref n => match S[n]? with
    | some (.dN ks _ _) => match plTs ks with
      | some ds => if okSD ds = true ∧ ks.length ≤ 1000000 then .ok (.lst (ofDs (srtD ds))) S else .st
      | none => .st
    | _ => .st
  | _ => .st
section
variable {X : Cx} {K : PySem.W.Frag} {W : WX} {o i v : Expr} {fo fi fv fb : Ev T} {p pos pos' : Pos} {w : World}
theorem m_srtN (hu : X.A.units + 64 < cLine) (hm : X.mg "sorted" = none) (ho : PE X o (tX K W fo)) (hc : X.calm = true := by rfl) (hg : Gl X "sorted" := by rfl) (hK : X.K = K := by rfl)
    (hs : starEach [o] X.env = (false, eval o X.env) :: starEach [] X.env := by rfl) (hpl : (backTo pos (starEach [] X.env)).any (·.1) = false := by rfl) : PE X (.Call (.Name "sorted" p) [o] [] pos) (tX K W (mSrtN fo)) := by
  subst hK
  refine PE.imp (pe_callB (cr_sortN hu hc) hg hm PyProof.Rows.boot_sorted (pa_cons ho pa_nil hs) (by decide) (by decide) hs hpl) fun σ H Q h => ?_
  obtain ⟨cf, bs, m, S, ρ, F, h⟩ := h
  refine ⟨cf, bs, m, S, ρ, F, RsOk.bind F h fun x vx m1 H1 S1 F1 k1 R1 h1 => ?_⟩
  split at h1
  · rename_i n
    cases R1 with
    | @ref d _ hn =>
      have hn : m1[n]? = some d := hn
      split at h1
      · rename_i ks hs0 l es
        have cl := F1.cs.cell n _ d es hn
        generalize hcc : T.dN ks hs0 l = cc at cl
        cases cl with
        | @dN ea ba ka va la h0 hk0 rk0 pk0 hv0 rv0 pl0 =>
          cases hcc
          split at h1
          · rename_i ds hds
            split at h1
            · rename_i hok
              obtain ⟨ok, ln⟩ := hok
              obtain ⟨g1, g2, g3⟩ := plTs_of hds
              obtain ⟨o1, o2, o3⟩ := okSD_all ok
              have dp : DpAll X.K H1 (ba.map V.ref) ds := Reps.dp rk0 g1
              have lb : ea.size = ba.length := by
                have := congrArg List.length hk0
                rw [List.length_map, List.length_map, Array.length_toList] at this
                exact this
              have lk : ba.length = ks.length := by
                have := rk0.length
                rw [List.length_map] at this
                exact this
              refine ⟨d, ea, ba, ds, rfl, h0, hk0, by rw [lb, lk]; exact big_le ln, dp, g3, o1, o2, o3, fun p ys zs hp pm pw ey => ?_⟩
              subst ey
              have rr : Reps X.K (mset bs m1) H1 (zs.map (·.1)) (ofDs (srtD ds)) := by
                rw [g2] at rk0
                exact sorted_rep rk0 dp.len g3 ok pm pw
              exact h1 _ m1 _ (F1.cs.same (same_new hp)) (Kp.of_same (same_new hp)) (.lst (nA_new F1.cs hp) upd_same (rr.same (same_new hp)))
            · exact h1.elim
          · exact h1.elim
        | _ => cases hcc
      · exact h1.elim
  · exact h1.elim
/-! ### d[k] -/
def ixnR (w : World) (x y : T) (S : St) : Rs T := match x with
  | .ref n => match S[n]? with
    | some (.dN ks hs l) => match toNKs ks, toNK y with
      | some nks, some k => if ndOk w nks hs k = true ∧ ks.length < 1000000 then (match dGet nks l k with
        | some t => .ok t S
        | none => .st) else .st
      | _, _ => .st
    | _ => .st
  | _ => .st
def mIxN (w : World) (fo fi : Ev T) : Ev T := fo.bind fun x => fi.bind fun y _ _ S => ixnR w x y S
def tNGet (X : Cx) (td ty : TE) : TE := fun σ H Q => td σ H fun x H1 => ty σ H1 fun y H2 => ∃ (d ad : Addr) (k : NestedKey), x = V.ref d ∧ y = V.ref ad ∧
  ∀ pins σ' s, Inv X pins σ' H2 s → ∃ xs : List NX, s.heap.DictOfH (nestedKind X.prog X.w) d xs ∧ (nestedKind X.prog X.w).is s.heap k ad ∧ ∃ p v, atKey xs k = some p ∧ RelV v p.2 ∧ Q v H2
theorem pe_nget {td ty : TE} (hu : X.A.units + 64 < cLine) (ho : PE X o td) (hi : PE X i ty) (hs : NoSl i) : PE X (.Subscript o i pos) (tNGet X td ty) := by
  refine ⟨fun pins s σ H Q I h => ?_⟩
  refine subD_of PySem.F.slot_dict_getitem.lookup hs (thn (ho.run pins s σ H _ I h) fun u s1 ⟨x, H1, I1, rx, q1⟩ => thn (hi.run pins s1 σ H1 _ I1 q1) fun iv s2 ⟨y, H2, I2, ry, d, ad, k, ex, ey, q2⟩ => ?_)
  subst ex ey
  obtain rfl : u = Value.ref d := rx
  obtain rfl : iv = Value.ref ad := ry
  obtain ⟨xs, hm, hk, p, v, hp, rv, qv⟩ := q2 pins σ s2 I2
  exact ⟨hm.typeIs, wpAny_getItem_heap (knd := nestedKind X.prog X.w) (by show X.A.in1.units + 8 < cLine; have : X.A.in1.units = X.A.units + 1 := rfl; omega) hk hm hp ⟨v, H2, I2.tok _, rv, qv⟩⟩
theorem m_ixN (hu : X.A.units + 64 < cLine) (ho : PE X o (tX K W fo)) (hi : PE X i (tX K W fi)) (hs : NoSl i := by exact fun _ _ => rfl) (hw : X.w = w := by rfl) (hK : X.K = K := by rfl) : PE X (.Subscript o i pos) (tX K W (mIxN w fo fi)) := by
  subst hw hK
  refine PE.imp (pe_nget hu ho hi hs) fun σ H Q h => ?_
  obtain ⟨cf, bs, m, S, ρ, F, h⟩ := h
  refine ⟨cf, bs, m, S, ρ, F, RsOk.bind F h fun x vx m1 H1 S1 F1 k1 R1 h1 => ⟨cf, bs, m1, S1, ρ, F1, RsOk.bind F1 h1 fun y vy m2 H2 S2 F2 k2 R2 h2 => ?_⟩⟩
  have R1' := Rep.lk k2.lk R1
  unfold ixnR at h2
  split at h2
  · rename_i n
    cases R1' with
    | @ref d _ hn =>
      have hn : m2[n]? = some d := hn
      split at h2
      · rename_i ks hs0 l es
        have cl := F2.cs.cell n _ d es hn
        generalize hcc : T.dN ks hs0 l = cc at cl
        cases cl with
        | @dN ea ba ka va la h0 hk0 rk0 pk0 hv0 rv0 pl0 =>
          cases hcc
          split at h2
          · rename_i nks k hnk hky
            split at h2
            · rename_i hc
              obtain ⟨nd, ln⟩ := hc
              obtain ⟨q1, q2, q3, q4, q5⟩ := ndOk_iff.mp nd
              have R2' : Rep X.K (mset bs m2) H2 vy y := R2
              have isT : ∃ ad, vy = V.ref ad := by
                cases k with
                | tup kk =>
                  cases R2' <;> first | exact ⟨_, rfl⟩ | (unfold toNK at hky; cases hky)
                | _ => cases q5
              obtain ⟨ad, rfl⟩ := isT
              refine ⟨d, ad, k, rfl, rfl, fun pins σ' s I => ?_⟩
              obtain ⟨xs, e1, e2, e3, e4, hm5, lo⟩ := dict_of I h0 hk0 rk0 hnk q1 q2 q3
              refine ⟨xs, hm5, ⟨rep_nk I R2' hky (show RelV (V.ref ad) (Value.ref ad) from rfl), q4⟩, ?_⟩
              cases hg : dGet nks l k with
              | none => rw [hg] at h2; exact h2.elim
              | some t =>
                rw [hg] at h2
                rw [← e2] at hg
                obtain ⟨p', v, g1, g2, g3⟩ := atKey_some (by rw [e4]; exact hv0) rv0 hg
                exact ⟨p', v, g1, g2, h2 _ m2 H2 F2.cs Kp.refl g3⟩
            · exact h2.elim
          · exact h2.elim
        | _ => cases hcc
      · exact h2.elim
  · exact h2.elim
/-! ### d[k] = v -/
def replN : List NestedKey → List T → NestedKey → T → List T
  | k0 :: ks, t :: l, k, z => (if k0 = k then z else t) :: replN ks l k z
  | _, _, _, _ => []
def ndPut (w : World) (nks : List NestedKey) (ks : List T) (hs : List Int) (l : List T) (k : NestedKey) (y z : T) : T := if (dGet nks l k).isSome = true then .dN ks hs (replN nks l k z) else .dN (ks ++ [y]) (hs ++ [k.hash w]) (l ++ [z])
def setnR (w : World) (c : Cf) (x y z : T) (S : St) : Option St := match x with
  | .ref n => match S[n]? with
    | some (.dN ks hs l) => match toNKs ks, toNK y with
      | some nks, some k => if ndOk w nks hs k = true ∧ okR 0 y = true ∧ okR 0 z = true ∧ ks.length < 1000000 ∧ wrOk c n z = true then some (S.set n (ndPut w nks ks hs l k y z)) else none
      | _, _ => none
    | _ => none
  | _ => none
def rSetN (X : Cx) : TSet := fun o i v H Q => ∃ (d ad : Addr) (k : NestedKey) (es : Array DictEntry), o = V.ref d ∧ i = V.ref ad ∧ H d = some (.ext (RawD d es)) ∧
  ∀ pins σ s, Inv X pins σ H s → ∃ xs : List NX, s.heap.DictOfH (nestedKind X.prog X.w) d xs ∧ (nestedKind X.prog X.w).is s.heap k ad ∧ xs.length ≤ sizeLine ∧ (d == sysModules) = false ∧ ∀ u, RelV v u → Q (upd H d (.ext (RawD d ((storedH xs k ad u).map (entryOfKey (nestedKind X.prog X.w))).toArray)))
theorem set_nd (hu : X.A.units + 64 < cLine) : PSet X (rSetN X) := by
  intro pins s σ H o i v ov iv u Q I ro ri rv h
  obtain ⟨d, ad, k, es, eo, ei, hd, q⟩ := h
  subst eo ei
  obtain rfl : ov = Value.ref d := ro
  obtain rfl : iv = Value.ref ad := ri
  obtain ⟨xs, hm, hk, hz, lo, qq⟩ := q pins σ s I
  refine wpAny_setItem_heap (hsz := hz) (knd := nestedKind X.prog X.w) (by show X.A.in1.units + 8 < cLine; have : X.A.in1.units = X.A.units + 1 := rfl; omega) hk hm fun h' hm' hs => ?_
  refine ⟨_, I.write (x := d) (e := d) (h' := h') (o := .ext (RawD d ((storedH xs k ad u).map (entryOfKey (nestedKind X.prog X.w))).toArray)) (by rw [hd]; trivial) (.inl rfl) (fun b z hb q => (hs.2 b hb).trans q) ?_ (raw_ok (raw_of hm' lo)), qq u rv⟩
  obtain ⟨o4, _, _, ho4, _⟩ := hm'
  exact ⟨o4, ho4⟩
theorem put_vals {P : Program} {F : PySem.W.Frag} {A : ASet} {H : Hp} {k : NestedKey} {u : Value} {z : T} {vz : V} (ru : RelV vz u) (rz : Rep F A H vz z) : ∀ {xs : List NX} {vs : List V} {l : List T}, Vals vs (xs.map (·.2.2)) → Reps F A H vs l → ∃ vs', Vals vs' ((xs.map (putAt k u)).map (·.2.2)) ∧ Reps F A H vs' (replN (xs.map (·.1)) l k z)
  | [], _, _, va, r => by
    cases va
    cases r
    exact ⟨[], .nil, .nil⟩
  | x :: xs, _, _, va, r => by
    rw [List.map_cons] at va
    cases va with
    | @cons v _ _ _ r1 rr =>
      cases r with
      | @cons _ t _ l h1 rs =>
        obtain ⟨vs', a1, a2⟩ := put_vals (P := P) (k := k) ru rz rr rs
        rw [List.map_cons, List.map_cons, List.map_cons]
        unfold replN putAt
        by_cases q : x.1 = k
        · rw [if_pos q, if_pos q]
          exact ⟨vz :: vs', .cons ru a1, .cons rz a2⟩
        · rw [if_neg q, if_neg q]
          exact ⟨v :: vs', .cons r1 a1, .cons h1 a2⟩
theorem repl_ok {k : NestedKey} {z : T} (oz : okR 0 z = true) : ∀ (nks : List NestedKey) {l : List T}, okRs 0 l = true → okRs 0 (replN nks l k z) = true
  | [], l, _ => by unfold replN; rfl
  | k0 :: nks, [], _ => by unfold replN; rfl
  | k0 :: nks, t0 :: l, h => by
    unfold okRs at h
    rw [Bool.and_eq_true] at h
    unfold replN okRs
    rw [Bool.and_eq_true]
    refine ⟨?_, repl_ok oz nks h.2⟩
    split
    · exact oz
    · exact h.1
theorem putAt_fst (k : NestedKey) (u : Value) : ∀ xs : List NX, (xs.map (putAt k u)).map (·.1) = xs.map (·.1) ∧ (xs.map (putAt k u)).map (·.2.1) = xs.map (·.2.1)
  | [] => ⟨rfl, rfl⟩
  | x :: xs => by
    obtain ⟨a, b⟩ := putAt_fst k u xs
    rw [List.map_cons, List.map_cons, List.map_cons, List.map_cons, List.map_cons, a, b]
    unfold putAt
    split <;> exact ⟨rfl, rfl⟩
theorem ents {P : Program} {w : World} : ∀ xs : List NX, (xs.map (entryOfKey (nestedKind P w))).map (·.key) = (xs.map (·.2.1)).map Value.ref ∧ (xs.map (entryOfKey (nestedKind P w))).map (·.hash) = (xs.map (·.1)).map (fun k => k.hash w) ∧ (xs.map (entryOfKey (nestedKind P w))).map (·.val) = xs.map (·.2.2)
  | [] => ⟨rfl, rfl, rfl⟩
  | x :: xs => by
    obtain ⟨a, b, c⟩ := ents (P := P) (w := w) xs
    simp only [List.map_cons, a, b, c]
    exact ⟨rfl, rfl, rfl⟩
def sItmN (w : World) (fo fi fv : Ev T) : Sv := fun c ρ S => ouE (fv c ρ S) ρ fun t S => ouE (fo c ρ S) ρ fun x S => ouE (fi c ρ S) ρ fun y S => match setnR w c x y t S with
  | some S' => .nx ρ S'
  | none => .st
theorem s_itmN (hu : X.A.units + 64 < cLine) (ho : PE X o (tX K W fo)) (hi : PE X i (tX K W fi)) (hv : PE X v (tX K W fv))
    (ha : ∀ v, assign (.Subscript o i pos') X.env v = (do
      let ov ← holding [v] (eval o X.env)
      let iv ← holding [v, ov] (eval i X.env)
      standAt pos'
      holding [v, ov, iv] (setItem ov iv v)
      release [v, ov, iv] []) := by intro _; rfl)
    (hs : swapsWithSole [.Subscript o i pos'] v pos.line X.env = pure false := by rfl) (hww : swappedStores [.Subscript o i pos'] v X.env = pure none := by rfl) (h1 : (assignEach [.Subscript o i pos'] X.env).map (·.2) = [assign (.Subscript o i pos') X.env] := by rfl) (hw : X.w = w := by rfl) (hK : X.K = K := by rfl) :
    PS X (.Assign [.Subscript o i pos'] v pos) (tXS K W (sItmN w fo fi fv)) := by
  subst hw hK
  refine PS.imp (ps_asg hv (pg_sub ho hi (set_nd hu) ha) hs hww h1) fun D σ H h => ?_
  obtain ⟨cf, bs, m, S, ρ, F, h⟩ := h
  refine ⟨cf, bs, m, S, ρ, F, OuOk.ofE F h fun t vt m1 H1 S1 _ F1 k1 R1 h1 => ⟨cf, bs, m1, S1, ρ, F1, OuOk.ofE F1 h1 fun x vx m2 H2 S2 _ F2 k2 R2 h2 => ⟨cf, bs, m2, S2, ρ, F2, OuOk.ofE F2 h2 fun y vy m3 H3 S3 _ F3 k3 R3 h3 => ?_⟩⟩⟩
  have Rx := Rep.lk k3.lk R2
  have Rt := Rep.lk k3.lk (Rep.lk k2.lk R1)
  unfold setnR at h3
  split at h3
  · rename_i S' hS'
    split at hS'
    · rename_i n _
      cases Rx with
      | @ref d _ hn =>
        have hn : m3[n]? = some d := hn
        split at hS'
        · rename_i ks hs0 l es
          have cl := F3.cs.cell n _ d es hn
          generalize hcc : T.dN ks hs0 l = cc at cl
          cases cl with
          | @dN ea ba ka va la h0 hk0 rk0 pk0 hv0 rv0 pl0 =>
            cases hcc
            split at hS'
            · rename_i nks k hnk hky
              split at hS'
              · rename_i hc
                cases hS'
                obtain ⟨nd, oy, oz, ln, wr⟩ := hc
                obtain ⟨q1, q2, q3, q4, q5⟩ := ndOk_iff.mp nd
                have Ry : Rep X.K (mset bs m3) H3 vy y := R3
                have isT : ∃ ad, vy = V.ref ad := by
                  cases k with
                  | tup kk =>
                    cases Ry <;> first | exact ⟨_, rfl⟩ | (unfold toNK at hky; cases hky)
                  | _ => cases q5
                obtain ⟨ad, rfl⟩ := isT
                refine ⟨d, ad, k, ea, rfl, rfl, h0, fun pins σ' s I => ?_⟩
                obtain ⟨xs, e1, e2, e3, e4, hm5, lo⟩ := dict_of I h0 hk0 rk0 hnk q1 q2 q3
                have lx : xs.length = ks.length := by rw [← toNKs_len hnk, ← e2, List.length_map]
                have ll : xs.length = l.length := by
                  have a1 := hv0.length
                  have a2 := rv0.length
                  rw [← e4, List.length_map] at a1
                  omega
                refine ⟨xs, hm5, ⟨rep_nk I Ry hky (show RelV (V.ref ad) (Value.ref ad) from rfl), q4⟩, by rw [lx]; exact big_le (Nat.le_of_lt ln), lo, fun u ru => ?_⟩
                have Rt' : Rep X.K (mset bs m3) H3 vt t := Rt
                have eh : ea.toList.map (·.hash) = (xs.map (·.1)).map (fun k => k.hash X.w) := by rw [q1, e2]
                cases hg : dGet nks l k with
                | some t0 =>
                  have hg' := hg
                  rw [← e2] at hg'
                  obtain ⟨p', v', g1, _, _⟩ := atKey_some (by rw [e4]; exact hv0) rv0 hg'
                  rw [storedH_old g1]
                  obtain ⟨c1, c2⟩ := putAt_fst k u xs
                  obtain ⟨d1, d2, d3⟩ := ents (P := X.prog) (w := X.w) (xs.map (putAt k u))
                  rw [c2, e3] at d1
                  rw [c1, ← eh] at d2
                  have ep : ndPut X.w nks ks (ea.toList.map (·.hash)) l k y t = .dN ks (ea.toList.map (·.hash)) (replN nks l k t) := by
                    unfold ndPut
                    rw [hg]
                    rfl
                  rw [ep] at h3
                  generalize hE : ((xs.map (putAt k u)).map (entryOfKey (nestedKind X.prog X.w))).toArray = E5 at ⊢
                  have eE : (xs.map (putAt k u)).map (entryOfKey (nestedKind X.prog X.w)) = E5.toList := by rw [← hE]
                  rw [eE] at d1 d2 d3
                  obtain ⟨cs3, k4, L3⟩ := put_at (o' := .ext (RawD d E5)) (c' := .dN ks (ea.toList.map (·.hash)) (replN nks l k t)) F3 hn h0 (fun _ z => by cases z) (fun _ _ z => by cases z) wr (fun L => by
                    obtain ⟨vs', a1, a2⟩ := put_vals (P := X.prog) (k := k) ru (Rt'.lk L) (by rw [e4]; exact hv0) (rv0.lk L)
                    rw [← d3] at a1
                    rw [e2] at a2
                    have pl' : okRs 0 (replN nks l k t) = true := repl_ok oz nks pl0
                    have := CellAt.dN (K := X.K) (A := mset bs m3) (H := upd H3 d (.ext (RawD d E5))) (a := d) (es := E5) (bs := ba) (ks := ks) (vs := vs') (l := replN nks l k t) upd_same d1 (rk0.lk L) pk0 a1 a2 pl'
                    rw [d2] at this
                    exact this) fun b hb hlt ok => by unfold okR; rfl
                  exact h3 σ m3 _ (F3.kp cs3 k4) k4
                | none =>
                  have hg' := hg
                  rw [← e2] at hg'
                  rw [storedH_new (atKey_none ll hg')]
                  have ep : ndPut X.w nks ks (ea.toList.map (·.hash)) l k y t = .dN (ks ++ [y]) (ea.toList.map (·.hash) ++ [k.hash X.w]) (l ++ [t]) := by
                    unfold ndPut
                    rw [hg]
                    rfl
                  rw [ep] at h3
                  have es5 : ((xs ++ [(k, ad, u)]).map (entryOfKey (nestedKind X.prog X.w))).toArray.toList = ea.toList ++ [⟨k.hash X.w, .ref ad, u⟩] := by
                    rw [List.map_append, e1]
                    rfl
                  generalize ((xs ++ [(k, ad, u)]).map (entryOfKey (nestedKind X.prog X.w))).toArray = E5 at es5 ⊢
                  obtain ⟨cs3, k4, L3⟩ := put_at (o' := .ext (RawD d E5)) (c' := .dN (ks ++ [y]) (ea.toList.map (·.hash) ++ [k.hash X.w]) (l ++ [t])) F3 hn h0 (fun _ z => by cases z) (fun _ _ z => by cases z) wr (fun L => by
                    have := CellAt.dN (K := X.K) (A := mset bs m3) (H := upd H3 d (.ext (RawD d E5))) (a := d) (es := E5) (bs := ba ++ [ad]) (ks := ks ++ [y]) (vs := va ++ [vt]) (l := l ++ [t]) upd_same (by rw [es5, List.map_append, hk0, List.map_append]; rfl) (by rw [List.map_append]; exact (rk0.lk L).append (.cons (Ry.lk L) .nil)) (okRs_app pk0 (by unfold okRs; rw [oy]; rfl)) (by rw [es5, List.map_append]; exact hv0.append (.cons ru .nil)) ((rv0.lk L).append (.cons (Rt'.lk L) .nil)) (okRs_app pl0 (by unfold okRs; rw [oz]; rfl))
                    rw [es5, List.map_append] at this
                    exact this) fun b hb hlt ok => by unfold okR; rfl
                  exact h3 σ m3 _ (F3.kp cs3 k4) k4
              · cases hS'
            · cases hS'
          | _ => cases hcc
        · cases hS'
    · cases hS'
  · exact h3.elim
end
end
end Tm

/-! N77: < of data; dicts whose keys are nested tuples: k in d, len(d) -/
namespace Tm
open PySem PySem.Spec PyProof.Rows L2
noncomputable section
section
variable {X : Cx} {K : PySem.W.Frag}
def rLtD (K : PySem.W.Frag) : R2 := fun x y H Q => ∃ d e, Dp K H x d ∧ Dp K H y e ∧ PySem.W.alike d e = true ∧ d ≠ .none ∧ d.depth < 60 ∧ Q (.bl (PySem.W.dataLt d e)) H
theorem q_ltD (hu : X.A.units + 64 < cLine) (hK : X.K = K := by rfl) : OpR X (compareOp .Lt) (rLtD K) := by
  subst hK
  intro pins s σ H x y v u Q I rx ry h
  obtain ⟨d, e, dx, dy, al, nn, dep, q⟩ := h
  obtain ⟨as, ra⟩ := Dp.reads I d x v dx rx
  obtain ⟨bs, rb⟩ := Dp.reads I e y u dy ry
  show wpAny (model X.prog X.w) X.A (richCompare .Lt v u) (EP X pins σ Q) X.xe s
  exact PySem.W.rcLt_alike d e X.A s v u as bs ra rb al nn (by have := Nat.min_le_left d.depth e.depth; omega) _ _ _ _ ⟨.bl _, H, I, rfl, q⟩
def oLtD : T → T → Option T := fun a b => match plT a, plT b with
  | some d, some e => if PySem.W.alike d e = true ∧ d.depth < 60 then some (.bl (PySem.W.dataLt d e)) else none
  | _, _ => none
theorem pl_ne {d : PyData} (h : isPl d = true) : d ≠ .none := fun e => by
  subst e
  unfold isPl at h
  cases h
theorem oLtD_ok : OpT K (rLtD K) oLtD := fun A H x y tx ty tz Q dm rx ry e k => by
  unfold oLtD at e
  split at e
  · rename_i d e' h1 h2
    split at e
    · rename_i hc
      cases e
      obtain ⟨g1, g2, g3⟩ := plT_of h1
      obtain ⟨g4, g5, g6⟩ := plT_of h2
      exact ⟨d, e', rx.dp g1, ry.dp g4, hc.1, pl_ne g3, hc.2, k _ _ (L2.Same.refl _) (.bl _)⟩
    · cases e
  · cases e
end
/-! ### k in d -/
def innR (w : World) (neg : Bool) (x y : T) (S : St) : Rs T := match y with
  | .ref n => match S[n]? with
    | some (.dN ks hs l) => match toNKs ks, toNK x with
      | some nks, some k => if ndOk w nks hs k = true ∧ ks.length < 1000000 then .ok (.bl ((dGet nks l k).isSome != neg)) S else .st
      | _, _ => .st
    | _ => .st
  | _ => .st
def mInN (w : World) (neg : Bool) (fx fd : Ev T) : Ev T := fx.bind fun x => fd.bind fun y _ _ S => innR w neg x y S
def tInN (X : Cx) (neg : Bool) (ty td : TE) : TE := fun σ H Q => ty σ H fun y H1 => td σ H1 fun x H2 => ∃ (d ad : Addr) (k : NestedKey), x = V.ref d ∧ y = V.ref ad ∧
  ∀ pins σ' s, Inv X pins σ' H2 s → ∃ xs : List NX, s.heap.DictOfH (nestedKind X.prog X.w) d xs ∧ (nestedKind X.prog X.w).is s.heap k ad ∧ (d == sysModules) = false ∧ Q (.bl ((atKey xs k).isSome != neg)) H2
section
variable {X : Cx} {K : PySem.W.Frag} {W : WX} {i o : Expr} {fi fo : Ev T} {ty td : TE} {pos : Pos} {w : World}
theorem pc_notInN (hu : X.A.units + 64 < cLine) (hi : PE X i ty) (ho : PE X o td) : PC X .NotIn i o (tInN X true ty td) := by
  refine ⟨fun pins s σ H Q I h => ?_⟩
  refine thn (hi.run pins s σ H _ I h) fun iv s1 ⟨y, H1, I1, ry, q1⟩ => thn (ho.run pins s1 σ H1 _ I1 q1) fun u s2 ⟨x, H2, I2, rx, d, ad, k, ex, ey, q2⟩ => ?_
  subst ex ey
  obtain rfl : u = Value.ref d := rx
  obtain rfl : iv = Value.ref ad := ry
  obtain ⟨xs, hm, hk, lo, q⟩ := q2 pins σ s2 I2
  have : ((atKey xs k).isSome != true) = (!(atKey xs k).isSome) := by cases (atKey xs k).isSome <;> rfl
  rw [this] at q
  show wpAny _ _ (do return Value.bool (!(← contains (.ref d) (.ref ad)))) _ _ s2
  exact wpAny_bind (wpAny_contains_heap (knd := nestedKind X.prog X.w) (by show X.A.in1.units + 8 < cLine; have : X.A.in1.units = X.A.units + 1 := rfl; omega) hk lo hm (wpAny_pure ⟨.bl (!(atKey xs k).isSome), H2, I2.tok _, rfl, q⟩))
theorem tInN_of {neg : Bool} {σ : L2.St} {H : Hp} {Q : VK} (hw : X.w = w) (h : tX X.K W (mInN w neg fi fo) σ H Q) : tInN X neg (tX X.K W fi) (tX X.K W fo) σ H Q := by
  subst hw
  obtain ⟨cf, bs, m, S, ρ, F, h⟩ := h
  refine ⟨cf, bs, m, S, ρ, F, RsOk.bind F h fun y vy m1 H1 S1 F1 k1 R1 h1 => ⟨cf, bs, m1, S1, ρ, F1, RsOk.bind F1 h1 fun x vx m2 H2 S2 F2 k2 R2 h2 => ?_⟩⟩
  have R1' := Rep.lk k2.lk R1
  unfold innR at h2
  split at h2
  · rename_i n
    cases R2 with
    | @ref d _ hn =>
      have hn : m2[n]? = some d := hn
      split at h2
      · rename_i ks hs0 l es
        have cl := F2.cs.cell n _ d es hn
        generalize hcc : T.dN ks hs0 l = cc at cl
        cases cl with
        | @dN ea ba ka va la h0 hk0 rk0 pk0 hv0 rv0 pl0 =>
          cases hcc
          split at h2
          · rename_i nks k hnk hky
            split at h2
            · rename_i hc
              obtain ⟨nd, ln⟩ := hc
              obtain ⟨q1, q2, q3, q4, q5⟩ := ndOk_iff.mp nd
              have R1'' : Rep X.K (mset bs m2) H2 vy y := R1'
              have isT : ∃ ad, vy = V.ref ad := by
                cases k with
                | tup kk =>
                  cases R1'' <;> first | exact ⟨_, rfl⟩ | (unfold toNK at hky; cases hky)
                | _ => cases q5
              obtain ⟨ad, rfl⟩ := isT
              refine ⟨d, ad, k, rfl, rfl, fun pins σ' s I => ?_⟩
              obtain ⟨xs, e1, e2, e3, e4, hm5, lo⟩ := dict_of I h0 hk0 rk0 hnk q1 q2 q3
              have ll : xs.length = l.length := by
                have a1 := hv0.length
                have a2 := rv0.length
                rw [← e4, List.length_map] at a1
                omega
              refine ⟨xs, hm5, ⟨rep_nk I R1'' hky (show RelV (V.ref ad) (Value.ref ad) from rfl), q4⟩, lo, ?_⟩
              have es' : (atKey xs k).isSome = (dGet nks l k).isSome := by
                cases hg : dGet nks l k with
                | none =>
                  rw [← e2] at hg
                  rw [atKey_none ll hg]
                  rfl
                | some t =>
                  rw [← e2] at hg
                  obtain ⟨p', v, g1, g2, g3⟩ := atKey_some (by rw [e4]; exact hv0) rv0 hg
                  rw [g1]
                  rfl
              rw [es']
              exact h2 _ m2 H2 F2.cs Kp.refl (.bl _)
            · exact h2.elim
          · exact h2.elim
        | _ => cases hcc
      · exact h2.elim
  · exact h2.elim
theorem m_tnotInN (hu : X.A.units + 64 < cLine) (hi : PE X i (tX K W fi)) (ho : PE X o (tX K W fo)) (hm : behindInMarks .NotIn o = false := by rfl) (hw : X.w = w := by rfl) (hK : X.K = K := by rfl) : PT X (.Compare i [.NotIn] [o] pos) (tXT K W (mTst (mInN w true fi fo))) := by
  subst hK
  exact PT.imp (pt_cmp (pc_notInN hu hi ho) hm) fun σ H Q h => tInN_of hw (tst_read h)
end
/-! ### len(d) -/
def mLenN (fo : Ev T) : Ev T := fo.bind fun x _ _ S => match x with
  | .ref n => match S[n]? with
    | some (.dN ks _ _) => if ks.length < 1000000 then .ok (.int ks.length) S else .st
    | _ => .st
  | _ => .st
end
end Tm
namespace L2
open PySem PySem.Spec PyProof.Rows
theorem call_len_rawF {prog : Program} {w : World} {A : Around} {E : Value → Shared → Prop} {s : Shared} {d : Addr} {es : Array DictEntry} {ep : Nat} {Q : Value → Shared → Prop} (hd : (d == sysModules) = false) (hm : s.heap.DictRaw d es ep) (hfit : (es.size : Int) < 2 ^ 63)
    (h : Q (.int es.size (s.toks + 1)) { s with toks := s.toks + 1 + 1 }) : wpAny (model prog w) A (call (.builtin "len") [.ref d]) Q E s := by
  refine Calls.call_function_entry kind_len plain_len entry_len (args_len1 _) ?_
  unfold Builtin.«len»
  refine wpAny_bind (m := oneArg "len" _) (wpAny_pure ?_)
  refine wpAny_bind (m := callSpecial? (.ref d) (Str.ofString "__len__")) (wpAny_callSpecial?_slot (name := Str.ofString "__len__") hm.typeIs F.slot_dict_len (call_len_raw hd hm ?_))
  show wpAny _ _ _ _ _ { s with toks := s.toks + 1 }
  refine wpAny_bind (wpAny_holding (wpAny_pure ?_))
  refine wpAny_bind (wpAny_letGo ?_)
  show wpAny _ _ (if ((es.size : Nat) : Int) < 0 then _ else _) _ _ _
  rw [if_neg (by omega)]
  show wpAny _ _ (if ((es.size : Nat) : Int) ≥ 2 ^ 63 then _ else _) _ _ _
  rw [if_neg (by omega)]
  exact wpAny_bind (wpAny_mkInt (wpAny_pure ⟨_, rfl, h⟩))
def rLenN : List V → Hp → VK → Prop := fun xs H Q => ∃ (d : Addr) (es : Array DictEntry), xs = [V.ref d] ∧ H d = some (.ext (Tm.RawD d es)) ∧ (es.size : Int) < 2 ^ 63 ∧ Q (.int ((es.size : Nat) : Int)) H
theorem cr_lenN {X : Cx} : CallR X (.builtin "len") rLenN := by
  intro pins s σ H xs us Q I r h
  obtain ⟨d, es, rfl, ha, hz, q⟩ := h
  obtain rfl := Vals.ref1 r
  obtain ⟨⟨o, ep, ho, hx, hdat, lo⟩, _, _⟩ := (show ObjOk X.prog X.w H s.heap d (.ext (Tm.RawD d es)) from I.hok d _ ha)
  exact call_len_rawF lo ⟨o, ho, hx, hdat⟩ hz ⟨.int ((es.size : Nat) : Int), H, I.tok _, ⟨_, rfl⟩, q⟩
end L2
namespace Tm
open PySem PySem.Spec PyProof.Rows L2
noncomputable section
section
variable {X : Cx} {K : PySem.W.Frag} {W : WX} {o : Expr} {fo : Ev T} {p pos : Pos}
theorem m_lenN (hm : X.mg "len" = none) (ho : PE X o (tX K W fo)) (hg : Gl X "len" := by rfl) (hK : X.K = K := by rfl)
    (hs : starEach [o] X.env = (false, eval o X.env) :: starEach [] X.env := by rfl) (hpl : (backTo pos (starEach [] X.env)).any (·.1) = false := by rfl) : PE X (.Call (.Name "len" p) [o] [] pos) (tX K W (mLenN fo)) := by
  subst hK
  refine PE.imp (pe_callB cr_lenN hg hm (by decide) (pa_cons ho pa_nil hs) (by decide) (by decide) hs hpl) fun σ H Q h => ?_
  obtain ⟨cf, bs, m, S, ρ, F, h⟩ := h
  refine ⟨cf, bs, m, S, ρ, F, RsOk.bind F h fun x vx m1 H1 S1 F1 k1 R1 h1 => ?_⟩
  split at h1
  · rename_i n
    cases R1 with
    | @ref d _ hn =>
      have hn : m1[n]? = some d := hn
      split at h1
      · rename_i ks hs0 l es
        have cl := F1.cs.cell n _ d es hn
        generalize hcc : T.dN ks hs0 l = cc at cl
        cases cl with
        | @dN ea ba ka va la h0 hk0 rk0 pk0 hv0 rv0 pl0 =>
          cases hcc
          split at h1
          · rename_i ln
            have lb : ea.size = ba.length := by
              have := congrArg List.length hk0
              rw [List.length_map, List.length_map, Array.length_toList] at this
              exact this
            have lk : ba.length = ks.length := by
              have := rk0.length
              rw [List.length_map] at this
              exact this
            refine ⟨d, ea, rfl, h0, by omega, ?_⟩
            rw [lb, lk]
            exact h1 _ m1 H1 F1.cs Kp.refl (.int _)
          · exact h1.elim
        | _ => cases hcc
      · exact h1.elim
  · exact h1.elim
end
end
end Tm

namespace Tm
open PySem PySem.Spec PyProof.Rows L2
noncomputable section
section
variable {w : World} {K : PySem.W.Frag} {mg : Str → Option Value}
def Cs_all : List Str := ["Story", "Unsure"]
theorem clsOk (E : Env K mg w) : ∀ C ∈ Cs_all, ClsOk K C := by
  intro C hC
  simp only [Cs_all, List.mem_cons, List.not_mem_nil, or_false] at hC
  rcases hC with rfl | rfl
  · exact ⟨ownB_ok E.o_Story, E.cl_Story⟩
  · exact ⟨ownB_ok E.o_Unsure, E.cl_Unsure⟩
theorem fc_occasions (E : Env K mg w) : m_fldC K ["Story", "Unsure"] "occasions" := by
  intro C hC
  simp only [List.mem_cons, List.not_mem_nil, or_false] at hC
  rcases hC with rfl | rfl
  · exact ⟨E.cl_Story, E.na_Story_occasions⟩
  · exact ⟨E.cl_Unsure, E.na_Unsure_occasions⟩
def tb_Story : List (Str × Bool) := [("Story", true), ("Unsure", false)]
theorem is_Story (E : Env K mg w) : ∀ q ∈ tb_Story, ClsOk K q.1 ∧ subB K (He.ga K q.1) (He.ga K "Story") q.2 = true := by
  intro q hq
  simp only [tb_Story, List.mem_cons, List.not_mem_nil, or_false] at hq
  rcases hq with rfl | rfl
  · exact ⟨⟨ownB_ok E.o_Story, E.cl_Story⟩, E.s_Story_Story⟩
  · exact ⟨⟨ownB_ok E.o_Unsure, E.cl_Unsure⟩, E.s_Unsure_Story⟩
def T_BARRED : T := .wt [.str "any", .str "none", .str "anew", .str "lift", .str "term"]
theorem m_G_BARRED {X : Cx} {W : WX} {pos : Pos} (E : Env K X.mg w) (hg : Gl X "BARRED" := by rfl) : PE X (.Name "BARRED" pos) (tX K W (mC T_BARRED)) := m_const (pe_gr E.g_BARRED hg (by decide)) fun A H => .wt (fun H => tupAtB_ok E.e_BARRED H) (.cons (.str _) (.cons (.str _) (.cons (.str _) (.cons (.str _) (.cons (.str _) .nil)))))
end
end

end Tm

namespace Tm
open PySem PySem.Spec PyProof.Rows L2
noncomputable section
def b_is_integer : Sv := (sRet (mAnd (mUn (fIsB Cs_all "int") (mVar 0)) (mNot (mUn (fIsB Cs_all "bool") (mVar 0)))))
def F_is_integer : Fn := runP 1 1 b_is_integer
section
variable {P : Program} {w : World} {K : PySem.W.Frag} {mg : Str → Option Value} {base : Heap}
theorem sc_is_integer : FnScope ["value"] ["value"] (defScope s_is_integer) := ⟨rfl, rfl, rfl, by decide +kernel, rfl, by decide +kernel, by decide +kernel⟩
theorem fn_is_integer (E : Env K mg w) {fd : FuncData} {dvs : List V} (F : FunD K "is_integer" "is_integer" (defArgs s_is_integer) (defBody s_is_integer) (defScope s_is_integer) dvs [] (He.ga K "is_integer") fd) : FnOk P w K mg base CX0 1 (He.ga K "is_integer") fd ["value"] (spF K F_is_integer) := by
  refine F.ok sc_is_integer (fun vs H Q E h => spF_len takes_P h) (fun cdv A outer s H vs Q X hr h => ?_)
  have hu := hr.units
  exact body_okP (k := 1) (W := fun cls d _ H' => X cls d H') (g := b_is_integer) (PSs.nox (s_one (s_ret (m_and (m_isB (clsOk E) (.inl rfl) E.g_isinstance E.g_int bt_int (m_var 0)) (m_one (m_not (m_isB (clsOk E) (.inr (.inl rfl)) E.g_isinstance E.g_bool bt_bool (m_var 0)))))))) (by decide) (fun _ _ _ _ z => z) h
theorem ok_is_integer (E : Env K mg w) : Dn P w K mg base CX0 1 (He.ga K "is_integer") [] (spF K F_is_integer) :=
  dn_of (ps := ["value"]) E.f_is_integer (fun fd F => fn_is_integer E F) (fun _ _ _ _ _ _ us hl => match us, hl with | [_], _ => rfl)
end
def b_is_number : Sv := (sRet (mAnd (mCall F_is_integer [] (mCons (mVar 0) mNil)) (mOp oGe (mVar 0) (mC (.int 0)))))
def F_is_number : Fn := runP 1 1 b_is_number
section
variable {P : Program} {w : World} {K : PySem.W.Frag} {mg : Str → Option Value} {base : Heap}
theorem sc_is_number : FnScope ["value"] ["value"] (defScope s_is_number) := ⟨rfl, rfl, rfl, by decide +kernel, rfl, by decide +kernel, by decide +kernel⟩
theorem fn_is_number (E : Env K mg w) {fd : FuncData} {dvs : List V} (F : FunD K "is_number" "is_number" (defArgs s_is_number) (defBody s_is_number) (defScope s_is_number) dvs [] (He.ga K "is_number") fd) : FnOk P w K mg base CX0 2 (He.ga K "is_number") fd ["value"] (spF K F_is_number) := by
  refine F.ok sc_is_number (fun vs H Q E h => spF_len takes_P h) (fun cdv A outer s H vs Q X hr h => ?_)
  have hu := hr.units
  exact body_okP (k := 1) (W := fun cls d _ H' => X cls d H') (g := b_is_number) (PSs.nox (s_one (s_ret (m_and (m_call (ok_is_integer (K := K) E) (hr.mono (by decide)) E.g_is_integer pA0 (fun _ _ => .nil) (m_cons (m_var 0) m_nil)) (m_one (m_cmp op_ge oIB_ok (m_var 0) m_int (nomark _))))))) (by decide) (fun _ _ _ _ z => z) h
theorem ok_is_number (E : Env K mg w) : Dn P w K mg base CX0 2 (He.ga K "is_number") [] (spF K F_is_number) :=
  dn_of (ps := ["value"]) E.f_is_number (fun fd F => fn_is_number E F) (fun _ _ _ _ _ _ us hl => match us, hl with | [_], _ => rfl)
end
def b_is_length : Sv := (sRet (mAnd (mCall F_is_integer [] (mCons (mVar 0) mNil)) (mOp oGe (mVar 0) (mC (.int 1)))))
def F_is_length : Fn := runP 1 1 b_is_length
section
variable {P : Program} {w : World} {K : PySem.W.Frag} {mg : Str → Option Value} {base : Heap}
theorem sc_is_length : FnScope ["value"] ["value"] (defScope s_is_length) := ⟨rfl, rfl, rfl, by decide +kernel, rfl, by decide +kernel, by decide +kernel⟩
theorem fn_is_length (E : Env K mg w) {fd : FuncData} {dvs : List V} (F : FunD K "is_length" "is_length" (defArgs s_is_length) (defBody s_is_length) (defScope s_is_length) dvs [] (He.ga K "is_length") fd) : FnOk P w K mg base CX0 2 (He.ga K "is_length") fd ["value"] (spF K F_is_length) := by
  refine F.ok sc_is_length (fun vs H Q E h => spF_len takes_P h) (fun cdv A outer s H vs Q X hr h => ?_)
  have hu := hr.units
  exact body_okP (k := 1) (W := fun cls d _ H' => X cls d H') (g := b_is_length) (PSs.nox (s_one (s_ret (m_and (m_call (ok_is_integer (K := K) E) (hr.mono (by decide)) E.g_is_integer pA0 (fun _ _ => .nil) (m_cons (m_var 0) m_nil)) (m_one (m_cmp op_ge oIB_ok (m_var 0) m_int (nomark _))))))) (by decide) (fun _ _ _ _ z => z) h
theorem ok_is_length (E : Env K mg w) : Dn P w K mg base CX0 2 (He.ga K "is_length") [] (spF K F_is_length) :=
  dn_of (ps := ["value"]) E.f_is_length (fun fd F => fn_is_length E F) (fun _ _ _ _ _ _ us hl => match us, hl with | [_], _ => rfl)
end
def b_is_name : Sv := (sSeq (sIf (mOrT (mNotT (mTst (mUn (fIsB Cs_all "str") (mVar 0)))) (mOrT (mTst (mInA false oIn (mVar 0) (mC T_BARRED))) (mNotT (mTst (mChain oLe oLe (mC (.int 1)) (mB bLenA (mCons (mVar 0) mNil)) (mC (.int 4))))))) (sRet (mC (.bl false))) sNext)
    (sRet (mB bAll (mCons (mLc [1] (mSeqOfS (mVar 0)) (gNm 1) mYes (mInA false oIn (mVar 1) (mC (.str "abcdefghijklmnopqrstuvwxyz")))) mNil))))
def F_is_name : Fn := runP 1 2 b_is_name
section
variable {P : Program} {w : World} {K : PySem.W.Frag} {mg : Str → Option Value} {base : Heap}
theorem sc_is_name : FnScope ["value", "letter"] ["value"] (defScope s_is_name) := ⟨rfl, rfl, rfl, by decide +kernel, rfl, by decide +kernel, by decide +kernel⟩
theorem fn_is_name (E : Env K mg w) {fd : FuncData} {dvs : List V} (F : FunD K "is_name" "is_name" (defArgs s_is_name) (defBody s_is_name) (defScope s_is_name) dvs [] (He.ga K "is_name") fd) : FnOk P w K mg base CX0 1 (He.ga K "is_name") fd ["value"] (spF K F_is_name) := by
  refine F.ok sc_is_name (fun vs H Q E h => spF_len takes_P h) (fun cdv A outer s H vs Q X hr h => ?_)
  have hu := hr.units
  exact body_okP (k := 1) (W := fun cls d _ H' => X cls d H') (g := b_is_name) (PSs.nox (s_cons (s_if (PW.pt (m_por (m_tnot (m_tst (m_isB (clsOk E) (.inr (.inr (.inl rfl))) E.g_isinstance E.g_str bt_str (m_var 0)))) (m_por (m_tinA (hu1 hu) q_in oIn_ok (m_var 0) (m_G_BARRED E)) (m_por1 (m_tnot (m_tchain op_le op_le oIB_ok oIB_ok m_int (m_callB (q_lenA (K := K)) bLenA_ok E.g_len bt_len (m_cons (m_var 0) m_nil)) (m_gi E.g_MOST_LETTERS))))))) (s_one (s_ret m_bl)) s_nil)
      (s_one (s_ret (m_callB (k_all K) bAll_ok E.g_all bt_all (m_cons (m_lc (own := [("letter", 1)]) (by rfl) sc_is_name.nd (i_str (m_var 0)) (blkOk_by (own := [("letter", 1)]) (N := ["value", "letter"]) (sc := defScope s_is_name) (by decide +kernel)) (fun _ _ _ _ _ => (g_name 1 sc_is_name.nd)) (fun _ _ _ _ _ => ts_nil) (fun _ _ _ _ _ => (m_inA (hu1 hu) q_in oIn_ok (m_var 1) (m_gs E.g_LETTERS)))) m_nil)))))) (by decide) (fun _ _ _ _ z => z) h
theorem ok_is_name (E : Env K mg w) : Dn P w K mg base CX0 1 (He.ga K "is_name") [] (spF K F_is_name) :=
  dn_of (ps := ["value"]) E.f_is_name (fun fd F => fn_is_name E F) (fun _ _ _ _ _ _ us hl => match us, hl with | [_], _ => rfl)
end
def b_is_sequence : Sv := (sRet (mUn (fIsBs Cs_all ["list", "tuple"]) (mVar 0)))
def F_is_sequence : Fn := runP 1 1 b_is_sequence
section
variable {P : Program} {w : World} {K : PySem.W.Frag} {mg : Str → Option Value} {base : Heap}
theorem sc_is_sequence : FnScope ["value"] ["value"] (defScope s_is_sequence) := ⟨rfl, rfl, rfl, by decide +kernel, rfl, by decide +kernel, by decide +kernel⟩
theorem fn_is_sequence (E : Env K mg w) {fd : FuncData} {dvs : List V} (F : FunD K "is_sequence" "is_sequence" (defArgs s_is_sequence) (defBody s_is_sequence) (defScope s_is_sequence) dvs [] (He.ga K "is_sequence") fd) : FnOk P w K mg base CX0 1 (He.ga K "is_sequence") fd ["value"] (spF K F_is_sequence) := by
  refine F.ok sc_is_sequence (fun vs H Q E h => spF_len takes_P h) (fun cdv A outer s H vs Q X hr h => ?_)
  have hu := hr.units
  exact body_okP (k := 1) (W := fun cls d _ H' => X cls d H') (g := b_is_sequence) (PSs.nox (s_one (s_ret (m_isLT (clsOk E) E.g_isinstance E.g_list E.g_tuple (m_var 0))))) (by decide) (fun _ _ _ _ z => z) h
theorem ok_is_sequence (E : Env K mg w) : Dn P w K mg base CX0 1 (He.ga K "is_sequence") [] (spF K F_is_sequence) :=
  dn_of (ps := ["value"]) E.f_is_sequence (fun fd F => fn_is_sequence E F) (fun _ _ _ _ _ _ us hl => match us, hl with | [_], _ => rfl)
end
end

end Tm

namespace Tm
open PySem PySem.Spec PyProof.Rows L2
noncomputable section
def b_is_occasion : Sv := (sSeq (sIf (mOrT (mNotT (mTst (mUn (fIsB Cs_all "tuple") (mVar 0)))) (mTst (mOp oNe (mB bLenA (mCons (mVar 0) mNil)) (mC (.int 3))))) (sRet (mC (.bl false))) sNext)
    (sRet (mAnd (mCall F_is_number [] (mCons (mIxA (mVar 0) (mC (.int 0))) mNil)) (mAnd (mCall F_is_name [] (mCons (mIxA (mVar 0) (mC (.int 1))) mNil)) (mCall F_is_length [] (mCons (mIxA (mVar 0) (mC (.int 2))) mNil))))))
def F_is_occasion : Fn := runP 1 1 b_is_occasion
section
variable {P : Program} {w : World} {K : PySem.W.Frag} {mg : Str → Option Value} {base : Heap}
theorem sc_is_occasion : FnScope ["value"] ["value"] (defScope s_is_occasion) := ⟨rfl, rfl, rfl, by decide +kernel, rfl, by decide +kernel, by decide +kernel⟩
theorem fn_is_occasion (E : Env K mg w) {fd : FuncData} {dvs : List V} (F : FunD K "is_occasion" "is_occasion" (defArgs s_is_occasion) (defBody s_is_occasion) (defScope s_is_occasion) dvs [] (He.ga K "is_occasion") fd) : FnOk P w K mg base CX0 3 (He.ga K "is_occasion") fd ["value"] (spF K F_is_occasion) := by
  refine F.ok sc_is_occasion (fun vs H Q E h => spF_len takes_P h) (fun cdv A outer s H vs Q X hr h => ?_)
  have hu := hr.units
  exact body_okP (k := 1) (W := fun cls d _ H' => X cls d H') (g := b_is_occasion) (PSs.nox (s_cons (s_if (PW.pt (m_por (m_tnot (m_tst (m_isB (clsOk E) (.inr (.inr (.inr (.inr rfl)))) E.g_isinstance E.g_tuple bt_tuple (m_var 0)))) (m_por1 (m_tcmp (q_ne hu) oNe_ok (m_callB (q_lenA (K := K)) bLenA_ok E.g_len bt_len (m_cons (m_var 0) m_nil)) m_int (nomark _))))) (s_one (s_ret m_bl)) s_nil)
      (s_one (s_ret (m_and (m_call (ok_is_number (K := K) E) (hr.mono (by decide)) E.g_is_number pA0 (fun _ _ => .nil) (m_cons (m_ixA (hu1 hu) (m_var 0) m_int (fun _ _ => rfl)) m_nil)) (m_and (m_call (ok_is_name (K := K) E) (hr.mono (by decide)) E.g_is_name pA0 (fun _ _ => .nil) (m_cons (m_ixA (hu1 hu) (m_var 0) m_int (fun _ _ => rfl)) m_nil)) (m_one (m_call (ok_is_length (K := K) E) (hr.mono (by decide)) E.g_is_length pA0 (fun _ _ => .nil) (m_cons (m_ixA (hu1 hu) (m_var 0) m_int (fun _ _ => rfl)) m_nil))))))))) (by decide) (fun _ _ _ _ z => z) h
theorem ok_is_occasion (E : Env K mg w) : Dn P w K mg base CX0 3 (He.ga K "is_occasion") [] (spF K F_is_occasion) :=
  dn_of (ps := ["value"]) E.f_is_occasion (fun fd F => fn_is_occasion E F) (fun _ _ _ _ _ _ us hl => match us, hl with | [_], _ => rfl)
end
def L_need_occasions_1 : Sv := (sSeq (sIf (mOrT (mNotT (mTst (mCall F_is_occasion [] (mCons (mVar 3) mNil)))) (mTst (mOp oLt (mIxA (mVar 3) (mC (.int 0))) (mVar 1)))) (fun _ _ _ => .st) sNext)
    (sAsg (mIxA (mVar 3) (mC (.int 0))) (gNm 1)))
def b_need_occasions : Sv := (sSeq (sIf (mNotT (mTst (mCall F_is_sequence [] (mCons (mVar 0) mNil)))) (fun _ _ _ => .st) sNext)
    (sSeq (sAsg (mC (.int 0)) (gNm 1))
    (sSeq (sForI (mEnum (mVar 0)) (gTup [(gNm 2), (gNm 3)])
    L_need_occasions_1)
    (sRet (mTupOf (mVar 0))))))
def F_need_occasions : Fn := runP 1 4 b_need_occasions
section
variable {P : Program} {w : World} {K : PySem.W.Frag} {mg : Str → Option Value} {base : Heap}
theorem sc_need_occasions : FnScope ["occasions", "day", "at", "value"] ["occasions"] (defScope s_need_occasions) := ⟨rfl, rfl, rfl, by decide +kernel, rfl, by decide +kernel, by decide +kernel⟩
theorem fn_need_occasions (E : Env K mg w) {fd : FuncData} {dvs : List V} (F : FunD K "need_occasions" "need_occasions" (defArgs s_need_occasions) (defBody s_need_occasions) (defScope s_need_occasions) dvs [] (He.ga K "need_occasions") fd) : FnOk P w K mg base CX0 4 (He.ga K "need_occasions") fd ["occasions"] (spF K F_need_occasions) := by
  refine F.ok sc_need_occasions (fun vs H Q E h => spF_len takes_P h) (fun cdv A outer s H vs Q X hr h => ?_)
  have hu := hr.units
  exact body_okP (k := 1) (W := fun cls d _ H' => X cls d H') (g := b_need_occasions) (PSs.nox (s_cons (s_if (m_tnot (m_tst (m_call (ok_is_sequence (K := K) E) (hr.mono (by decide)) E.g_is_sequence pA0 (fun _ _ => .nil) (m_cons (m_var 0) m_nil)))) (s_one s_never) s_nil)
      (s_cons (s_set 1 sc_need_occasions.nd m_int)
      (s_cons (s_for PassesOwn.never rfl (i_enum E.g_enumerate (m_var 0)) (g_tup (by rfl) (gs_cons (g_name 2 sc_need_occasions.nd) (gs_cons (g_name 3 sc_need_occasions.nd) gs_nil)))
      (s_cons (s_if (PW.pt (m_por (m_tnot (m_tst (m_call (ok_is_occasion (K := K) E) (hr.mono (by decide)) E.g_is_occasion pA0 (fun _ _ => .nil) (m_cons (m_var 3) m_nil)))) (m_por1 (m_tcmp op_lt oIB_ok (m_ixA (hu1 hu) (m_var 3) m_int (fun _ _ => rfl)) (m_var 1) (nomark _))))) (s_one s_never) s_nil)
      (s_one (s_set 1 sc_need_occasions.nd (m_ixA (hu1 hu) (m_var 3) m_int (fun _ _ => rfl))))))
      (s_one (s_ret (m_tuple E.g_tuple (m_var 0)))))))) (by decide) (fun _ _ _ _ z => z) h
theorem ok_need_occasions (E : Env K mg w) : Dn P w K mg base CX0 4 (He.ga K "need_occasions") [] (spF K F_need_occasions) :=
  dn_of (ps := ["occasions"]) E.f_need_occasions (fun fd F => fn_need_occasions E F) (fun _ _ _ _ _ _ us hl => match us, hl with | [_], _ => rfl)
end
def b_Story___init__ : Sv := (sFldC ["Story", "Unsure"] "occasions" (mVar 0) (mCall F_need_occasions [] (mCons (mVar 1) mNil)))
def F_Story___init__ : Fn := runO 2 2 b_Story___init__
section
variable {P : Program} {w : World} {K : PySem.W.Frag} {mg : Str → Option Value} {base : Heap}
theorem sc_Story___init__ : FnScope ["self", "occasions"] ["self", "occasions"] (defScope s_Story___init__) := ⟨rfl, rfl, rfl, by decide +kernel, rfl, by decide +kernel, by decide +kernel⟩
theorem fn_Story___init__ (E : Env K mg w) {fd : FuncData} {dvs : List V} (F : FunD K "__init__" "Story.__init__" (defArgs s_Story___init__) (defBody s_Story___init__) (defScope s_Story___init__) dvs [] (He.ma K (He.ga K "Story") "__init__") fd) : FnOk P w K mg base CX0 5 (He.ma K (He.ga K "Story") "__init__") fd ["self", "occasions"] (spF K F_Story___init__) := by
  refine F.ok sc_Story___init__ (fun vs H Q E h => spF_len takes_O h) (fun cdv A outer s H vs Q X hr h => ?_)
  have hu := hr.units
  exact body_okO (k := 2) (W := fun cls d _ H' => X cls d H') (g := b_Story___init__) (PSs.nox (s_one (s_fld (fc_occasions E) (m_var 0) (m_call (ok_need_occasions (K := K) E) (hr.mono (by decide)) E.g_need_occasions pA0 (fun _ _ => .nil) (m_cons (m_var 1) m_nil))))) (by decide) (fun _ _ _ _ z => z) h
theorem ok_Story___init__ (E : Env K mg w) : Dn P w K mg base CX0 5 (He.ma K (He.ga K "Story") "__init__") [] (spF K F_Story___init__) :=
  dn_dfl (ps := ["self", "occasions"]) 2 1 E.f_Story___init__ (by simp) rfl (fun fd F => fn_Story___init__ E F) (fun _ _ _ _ _ _ _ us its h1 h2 => match us, its, h1, h2 with | [_, _], [_], _, _ => ⟨_, rfl, rfl⟩)
end
end

end Tm

namespace Tm
open PySem PySem.Spec PyProof.Rows L2
noncomputable section
def b_is_unsure : Sv := (sSeq (sIf (mOrT (mNotT (mTst (mUn (fIsB Cs_all "tuple") (mVar 0)))) (mTst (mOp oNe (mB bLenA (mCons (mVar 0) mNil)) (mC (.int 4))))) (sRet (mC (.bl false))) sNext)
    (sSeq (sAsg (mVar 0) (gTup [(gNm 1), (gNm 2), (gNm 3), (gNm 4)]))
    (sSeq (sIf (mOrT (mNotT (mTst (mCall F_is_number [] (mCons (mVar 1) mNil)))) (mOrT (mNotT (mTst (mCall F_is_number [] (mCons (mVar 2) mNil)))) (mTst (mOp oGt (mVar 1) (mVar 2))))) (sRet (mC (.bl false))) sNext)
    (sRet (mAnd (mCall F_is_name [] (mCons (mVar 3) mNil)) (mCall F_is_length [] (mCons (mVar 4) mNil)))))))
def F_is_unsure : Fn := runP 1 5 b_is_unsure
section
variable {P : Program} {w : World} {K : PySem.W.Frag} {mg : Str → Option Value} {base : Heap}
theorem sc_is_unsure : FnScope ["value", "first", "last", "name", "days"] ["value"] (defScope s_is_unsure) := ⟨rfl, rfl, rfl, by decide +kernel, rfl, by decide +kernel, by decide +kernel⟩
theorem fn_is_unsure (E : Env K mg w) {fd : FuncData} {dvs : List V} (F : FunD K "is_unsure" "is_unsure" (defArgs s_is_unsure) (defBody s_is_unsure) (defScope s_is_unsure) dvs [] (He.ga K "is_unsure") fd) : FnOk P w K mg base CX0 3 (He.ga K "is_unsure") fd ["value"] (spF K F_is_unsure) := by
  refine F.ok sc_is_unsure (fun vs H Q E h => spF_len takes_P h) (fun cdv A outer s H vs Q X hr h => ?_)
  have hu := hr.units
  exact body_okP (k := 1) (W := fun cls d _ H' => X cls d H') (g := b_is_unsure) (PSs.nox (s_cons (s_if (PW.pt (m_por (m_tnot (m_tst (m_isB (clsOk E) (.inr (.inr (.inr (.inr rfl)))) E.g_isinstance E.g_tuple bt_tuple (m_var 0)))) (m_por1 (m_tcmp (q_ne hu) oNe_ok (m_callB (q_lenA (K := K)) bLenA_ok E.g_len bt_len (m_cons (m_var 0) m_nil)) m_int (nomark _))))) (s_one (s_ret m_bl)) s_nil)
      (s_cons (s_asg (m_var 0) (g_tup (by rfl) (gs_cons (g_name 1 sc_is_unsure.nd) (gs_cons (g_name 2 sc_is_unsure.nd) (gs_cons (g_name 3 sc_is_unsure.nd) (gs_cons (g_name 4 sc_is_unsure.nd) gs_nil))))))
      (s_cons (s_if (PW.pt (m_por (m_tnot (m_tst (m_call (ok_is_number (K := K) E) (hr.mono (by decide)) E.g_is_number pA0 (fun _ _ => .nil) (m_cons (m_var 1) m_nil)))) (m_por (m_tnot (m_tst (m_call (ok_is_number (K := K) E) (hr.mono (by decide)) E.g_is_number pA0 (fun _ _ => .nil) (m_cons (m_var 2) m_nil)))) (m_por1 (m_tcmp op_gt oIB_ok (m_var 1) (m_var 2) (nomark _)))))) (s_one (s_ret m_bl)) s_nil)
      (s_one (s_ret (m_and (m_call (ok_is_name (K := K) E) (hr.mono (by decide)) E.g_is_name pA0 (fun _ _ => .nil) (m_cons (m_var 3) m_nil)) (m_one (m_call (ok_is_length (K := K) E) (hr.mono (by decide)) E.g_is_length pA0 (fun _ _ => .nil) (m_cons (m_var 4) m_nil)))))))))) (by decide) (fun _ _ _ _ z => z) h
theorem ok_is_unsure (E : Env K mg w) : Dn P w K mg base CX0 3 (He.ga K "is_unsure") [] (spF K F_is_unsure) :=
  dn_of (ps := ["value"]) E.f_is_unsure (fun fd F => fn_is_unsure E F) (fun _ _ _ _ _ _ us hl => match us, hl with | [_], _ => rfl)
end
def L_Unsure___init___1 : Sv := (sIf (mNotT (mTst (mCall F_is_unsure [] (mCons (mVar 3) mNil)))) (fun _ _ _ => .st) sNext)
def b_Unsure___init__ : Sv := (sSeq (sIf (mNotT (mTst (mCall F_is_sequence [] (mCons (mVar 1) mNil)))) (fun _ _ _ => .st) sNext)
    (sSeq (sForI (mEnum (mVar 1)) (gTup [(gNm 2), (gNm 3)])
    L_Unsure___init___1)
    (sFldC ["Story", "Unsure"] "occasions" (mVar 0) (mTupOf (mVar 1)))))
def F_Unsure___init__ : Fn := runO 2 4 b_Unsure___init__
section
variable {P : Program} {w : World} {K : PySem.W.Frag} {mg : Str → Option Value} {base : Heap}
theorem sc_Unsure___init__ : FnScope ["self", "occasions", "at", "one"] ["self", "occasions"] (defScope s_Unsure___init__) := ⟨rfl, rfl, rfl, by decide +kernel, rfl, by decide +kernel, by decide +kernel⟩
theorem fn_Unsure___init__ (E : Env K mg w) {fd : FuncData} {dvs : List V} (F : FunD K "__init__" "Unsure.__init__" (defArgs s_Unsure___init__) (defBody s_Unsure___init__) (defScope s_Unsure___init__) dvs [] (He.ma K (He.ga K "Unsure") "__init__") fd) : FnOk P w K mg base CX0 4 (He.ma K (He.ga K "Unsure") "__init__") fd ["self", "occasions"] (spF K F_Unsure___init__) := by
  refine F.ok sc_Unsure___init__ (fun vs H Q E h => spF_len takes_O h) (fun cdv A outer s H vs Q X hr h => ?_)
  have hu := hr.units
  exact body_okO (k := 2) (W := fun cls d _ H' => X cls d H') (g := b_Unsure___init__) (PSs.nox (s_cons (s_if (m_tnot (m_tst (m_call (ok_is_sequence (K := K) E) (hr.mono (by decide)) E.g_is_sequence pA0 (fun _ _ => .nil) (m_cons (m_var 1) m_nil)))) (s_one s_never) s_nil)
      (s_cons (s_for PassesOwn.never rfl (i_enum E.g_enumerate (m_var 1)) (g_tup (by rfl) (gs_cons (g_name 2 sc_Unsure___init__.nd) (gs_cons (g_name 3 sc_Unsure___init__.nd) gs_nil)))
      (s_one (s_if (m_tnot (m_tst (m_call (ok_is_unsure (K := K) E) (hr.mono (by decide)) E.g_is_unsure pA0 (fun _ _ => .nil) (m_cons (m_var 3) m_nil)))) (s_one s_never) s_nil)))
      (s_one (s_fld (fc_occasions E) (m_var 0) (m_tuple E.g_tuple (m_var 1))))))) (by decide) (fun _ _ _ _ z => z) h
theorem ok_Unsure___init__ (E : Env K mg w) : Dn P w K mg base CX0 4 (He.ma K (He.ga K "Unsure") "__init__") [] (spF K F_Unsure___init__) :=
  dn_of (ps := ["self", "occasions"]) E.f_Unsure___init__ (fun fd F => fn_Unsure___init__ E F) (fun _ _ _ _ _ _ us hl => match us, hl with | [_, _], _ => rfl)
end
def L_choices_1 : Sv := (sAsg (mLc2 [6, 7] [7] (mSeqOf (mVar 1)) (gNm 6) mYes (mL fRng2 (mCons (mVar 2) (mCons (mOp oAdd (mVar 3) (mC (.int 1))) mNil))) (gNm 7) mYes (mTup (mStar (mVar 6) (mCons (mVar 7) mNil)))) (gNm 1))
def b_choices : Sv := (sSeq (sAsg (mLst (mCons (mTup mNil) mNil)) (gNm 1))
    (sSeq (sForI (mSeqOf (mFld ["Story", "Unsure"] "occasions" (mVar 0))) (gTup [(gNm 2), (gNm 3), (gNm 4), (gNm 5)])
    L_choices_1)
    (sRet (mVar 1))))
def F_choices : Fn := runP 1 8 b_choices
section
variable {P : Program} {w : World} {K : PySem.W.Frag} {mg : Str → Option Value} {base : Heap}
theorem sc_choices : FnScope ["unsure", "found", "first", "last", "name", "days", "some", "day"] ["unsure"] (defScope s_choices) := ⟨rfl, rfl, rfl, by decide +kernel, rfl, by decide +kernel, by decide +kernel⟩
theorem fn_choices (E : Env K mg w) {fd : FuncData} {dvs : List V} (F : FunD K "choices" "choices" (defArgs s_choices) (defBody s_choices) (defScope s_choices) dvs [] (He.ga K "choices") fd) : FnOk P w K mg base CX0 1 (He.ga K "choices") fd ["unsure"] (spF K F_choices) := by
  refine F.ok sc_choices (fun vs H Q E h => spF_len takes_P h) (fun cdv A outer s H vs Q X hr h => ?_)
  have hu := hr.units
  exact body_okP (k := 1) (W := fun cls d _ H' => X cls d H') (g := b_choices) (PSs.nox (s_cons (s_set 1 sc_choices.nd (m_lst (m_cons (m_tup m_nil) m_nil)))
      (s_cons (s_for PassesOwn.never rfl (i_seq (m_fld (fc_occasions E) (m_var 0))) (g_tup (by rfl) (gs_cons (g_name 2 sc_choices.nd) (gs_cons (g_name 3 sc_choices.nd) (gs_cons (g_name 4 sc_choices.nd) (gs_cons (g_name 5 sc_choices.nd) gs_nil)))))
      (s_one (s_setLc2 1 (own := [("some", 6), ("day", 7)]) (vs1 := [7]) (by rfl) sc_choices.nd (sw_true rfl rfl rfl (by decide +kernel)) (i_seq (m_var 1)) (blkOk_by (own := [("some", 6), ("day", 7)]) (N := ["unsure", "found", "first", "last", "name", "days", "some", "day"]) (sc := defScope s_choices) (by decide +kernel)) (by decide) (fun _ _ _ _ _ => (g_more (g_name 6 sc_choices.nd) (by decide))) (fun _ _ _ _ _ => ts_nil) (fun _ _ _ _ _ => (i_range2 E.g_range (m_cons (m_var 2) (m_cons (m_op q_add oAdd_ok (m_var 3) m_int) m_nil)))) (fun _ _ _ _ _ => (g_name 7 sc_choices.nd)) (fun _ _ _ _ _ => ts_nil) (fun _ _ _ _ _ => (m_tup (m_star (m_var 6) (m_cons (m_var 7) m_nil)))))))
      (s_one (s_ret (m_var 1)))))) (by decide) (fun _ _ _ _ z => z) h
theorem ok_choices (E : Env K mg w) : Dn P w K mg base CX0 1 (He.ga K "choices") [] (spF K F_choices) :=
  dn_of (ps := ["unsure"]) E.f_choices (fun fd F => fn_choices E F) (fun _ _ _ _ _ _ us hl => match us, hl with | [_], _ => rfl)
end
def b_filled : Sv := (sSeq (sAsg (mB bSrtD (mCons (mLc [3, 4] (mEnum (mVar 1)) (gTup [(gNm 3), (gNm 4)]) mYes (mTup (mCons (mVar 4) (mCons (mVar 3) mNil)))) mNil)) (gNm 2))
    (sRet (mMk "Story" F_Story___init__ [] (mCons (mLc [4, 3] (mSeqOf (mVar 2)) (gTup [(gNm 4), (gNm 3)]) mYes (mTup (mCons (mVar 4) (mCons (mIxA (mIxA (mFld ["Story", "Unsure"] "occasions" (mVar 0)) (mVar 3)) (mC (.int 2))) (mCons (mIxA (mIxA (mFld ["Story", "Unsure"] "occasions" (mVar 0)) (mVar 3)) (mC (.int 3))) mNil))))) mNil))))
def F_filled : Fn := runP 2 5 b_filled
section
variable {P : Program} {w : World} {K : PySem.W.Frag} {mg : Str → Option Value} {base : Heap}
theorem sc_filled : FnScope ["unsure", "days_chosen", "order", "at", "day"] ["unsure", "days_chosen"] (defScope s_filled) := ⟨rfl, rfl, rfl, by decide +kernel, rfl, by decide +kernel, by decide +kernel⟩
theorem fn_filled (E : Env K mg w) {fd : FuncData} {dvs : List V} (F : FunD K "filled" "filled" (defArgs s_filled) (defBody s_filled) (defScope s_filled) dvs [] (He.ga K "filled") fd) : FnOk P w K mg base CX0 7 (He.ga K "filled") fd ["unsure", "days_chosen"] (spF K F_filled) := by
  refine F.ok sc_filled (fun vs H Q E h => spF_len takes_P h) (fun cdv A outer s H vs Q X hr h => ?_)
  have hu := hr.units
  exact body_okP (k := 2) (W := fun cls d _ H' => X cls d H') (g := b_filled) (PSs.nox (s_cons (s_set 2 sc_filled.nd (m_callB (q_sortD hu) bSrtD_ok E.g_sorted bt_sorted (m_cons (m_lc (own := [("at", 3), ("day", 4)]) (by rfl) sc_filled.nd (i_enum E.g_enumerate (m_var 1)) (blkOk_by (own := [("at", 3), ("day", 4)]) (N := ["unsure", "days_chosen", "order", "at", "day"]) (sc := defScope s_filled) (by decide +kernel)) (fun _ _ _ _ _ => (g_tup (by rfl) (gs_cons (g_name 3 sc_filled.nd) (gs_cons (g_name 4 sc_filled.nd) gs_nil)))) (fun _ _ _ _ _ => ts_nil) (fun _ _ _ _ _ => (m_tup (m_cons (m_var 4) (m_cons (m_var 3) m_nil))))) m_nil)))
      (s_one (s_ret (m_mk E.mk_Story (ok_Story___init__ (K := K) E) (hr.mono (by decide)) E.g_Story pA0 (fun _ _ => .nil) (m_cons (m_lc (own := [("day", 4), ("at", 3)]) (by rfl) sc_filled.nd (i_seq (m_var 2)) (blkOk_by (own := [("day", 4), ("at", 3)]) (N := ["unsure", "days_chosen", "order", "at", "day"]) (sc := defScope s_filled) (by decide +kernel)) (fun _ _ _ _ _ => (g_tup (by rfl) (gs_cons (g_name 4 sc_filled.nd) (gs_cons (g_name 3 sc_filled.nd) gs_nil)))) (fun _ _ _ _ _ => ts_nil) (fun _ _ _ _ _ => (m_tup (m_cons (m_var 4) (m_cons (m_ixA (hu1 hu) (m_ixA (hu1 hu) (m_fld (fc_occasions E) (m_var 0)) (m_var 3) (fun _ _ => rfl)) m_int (fun _ _ => rfl)) (m_cons (m_ixA (hu1 hu) (m_ixA (hu1 hu) (m_fld (fc_occasions E) (m_var 0)) (m_var 3) (fun _ _ => rfl)) m_int (fun _ _ => rfl)) m_nil)))))) m_nil)))))) (by decide) (fun _ _ _ _ z => z) h
theorem ok_filled (E : Env K mg w) : Dn P w K mg base CX0 7 (He.ga K "filled") [] (spF K F_filled) :=
  dn_of (ps := ["unsure", "days_chosen"]) E.f_filled (fun fd F => fn_filled E F) (fun _ _ _ _ _ _ us hl => match us, hl with | [_, _], _ => rfl)
end
noncomputable def L_fillings_1 (w : World) : Sv := (sSeq (sAsg (mCall F_filled [] (mCons (mVar 0) (mCons (mVar 2) mNil))) (gNm 3))
    (sItmN w (mVar 1) (mFld ["Story", "Unsure"] "occasions" (mVar 3)) (mVar 3)))
noncomputable def b_fillings (w : World) : Sv := (sSeq (sAsg mDicN (gNm 1))
    (sSeq (sForI (mSeqOf (mCall F_choices [] (mCons (mVar 0) mNil))) (gNm 2)
    (L_fillings_1 w))
    (sRet (mTupOf (mLc [4] (mSeqOf (mSrtN (mVar 1))) (gNm 4) mYes (mIxN w (mVar 1) (mVar 4)))))))
noncomputable def G_fillings (w : World) : Fn := runP 1 5 (b_fillings w)
noncomputable def F_fillings : Fn := hideW G_fillings
section
variable {P : Program} {w : World} {K : PySem.W.Frag} {mg : Str → Option Value} {base : Heap}
theorem sc_fillings : FnScope ["unsure", "known", "some", "story", "occasions"] ["unsure"] (defScope s_fillings) := ⟨rfl, rfl, rfl, by decide +kernel, rfl, by decide +kernel, by decide +kernel⟩
theorem fn_fillings (E : Env K mg w) {fd : FuncData} {dvs : List V} (F : FunD K "fillings" "fillings" (defArgs s_fillings) (defBody s_fillings) (defScope s_fillings) dvs [] (He.ga K "fillings") fd) : FnOk P w K mg base CX0 8 (He.ga K "fillings") fd ["unsure"] (spF K F_fillings) := by
  refine F.ok sc_fillings (fun vs H Q E h => spF_len (takes_hide fun _ => takes_P) h) (fun cdv A outer s H vs Q X hr h => ?_)
  have hu := hr.units
  replace h := hideW_sp w h
  exact body_okP (k := 1) (W := fun cls d _ H' => X cls d H') (g := b_fillings w) (PSs.nox (s_cons (s_set 1 sc_fillings.nd m_dicN)
      (s_cons (s_for PassesOwn.never rfl (i_seq (m_call (ok_choices (K := K) E) (hr.mono (by decide)) E.g_choices pA0 (fun _ _ => .nil) (m_cons (m_var 0) m_nil))) (g_name 2 sc_fillings.nd)
      (s_cons (s_set 3 sc_fillings.nd (m_call (ok_filled (K := K) E) (hr.mono (by decide)) E.g_filled pA0 (fun _ _ => .nil) (m_cons (m_var 0) (m_cons (m_var 2) m_nil))))
      (s_one (s_itmN hu (m_var 1) (m_fld (fc_occasions E) (m_var 3)) (m_var 3)))))
      (s_one (s_ret (m_tuple E.g_tuple (m_lc (own := [("occasions", 4)]) (by rfl) sc_fillings.nd (i_seq (m_srtN hu E.g_sorted (m_var 1))) (blkOk_by (own := [("occasions", 4)]) (N := ["unsure", "known", "some", "story", "occasions"]) (sc := defScope s_fillings) (by decide +kernel)) (fun _ _ _ _ _ => (g_name 4 sc_fillings.nd)) (fun _ _ _ _ _ => ts_nil) (fun _ _ _ _ _ => (m_ixN hu (m_var 1) (m_var 4)))))))))) (by decide) (fun _ _ _ _ z => z) h
theorem ok_fillings (E : Env K mg w) : Dn P w K mg base CX0 8 (He.ga K "fillings") [] (spF K F_fillings) :=
  dn_of (ps := ["unsure"]) E.f_fillings (fun fd F => fn_fillings E F) (fun _ _ _ _ _ _ us hl => match us, hl with | [_], _ => rfl)
end
end

end Tm

namespace Tm
open PySem PySem.Spec PyProof.Rows L2
noncomputable section
def L__law_deal_1 : Sv := (sAsg (mOp oMod (mB bInt (mCons (mOp oAdd (mOp oMul (mVar 3) (mC (.int 16807))) (mOp oMod (mB bInt (mCons (mVar 1) mNil)) (mC (.int 2147483629)))) mNil)) (mC (.int 2147483647))) (gNm 3))
def b__law_deal : Sv := (sSeq (sPar2 2 3 (mCons (mLc [1] (mSeqOf (mSl (mVar 0) mNoPart (mPart (mC (.int 60))))) (gNm 1) mYes (mB bAbs (mCons (mVar 1) mNil))) (mCons (mC (.int 32452867)) mNil)))
    (sSeq (sForI (mSeqOf (mVar 2)) (gNm 1)
    L__law_deal_1)
    (sRet (mLstC (mCons (mRevC (mLc [1] (mSeqOf (mVar 2)) (gNm 1) (mTst (mOp oGe (mVar 1) (mOp oPow (mC (.int 10)) (mC (.int 18))))) (mVar 1))) (mCons (mVar 3) mNil))))))
def F__law_deal : Fn := runO 1 4 b__law_deal
section
variable {P : Program} {w : World} {K : PySem.W.Frag} {mg : Str → Option Value} {base : Heap}
theorem sc__law_deal : FnScope ["_law_script", "_law_cell", "_law_cells", "_law_mixed_here"] ["_law_script"] (defScope s__law_deal) := ⟨rfl, rfl, rfl, by decide +kernel, rfl, by decide +kernel, by decide +kernel⟩
theorem fn__law_deal (E : Env K mg w) {fd : FuncData} {dvs : List V} (F : FunD K "_law_deal" "_law_deal" (defArgs s__law_deal) (defBody s__law_deal) (defScope s__law_deal) dvs [] (He.ga K "_law_deal") fd) : FnOk P w K mg base CX0 1 (He.ga K "_law_deal") fd ["_law_script"] (spF K F__law_deal) := by
  refine F.ok sc__law_deal (fun vs H Q E h => spF_len takes_O h) (fun cdv A outer s H vs Q X hr h => ?_)
  have hu := hr.units
  exact body_okO (k := 1) (W := fun cls d _ H' => X cls d H') (g := b__law_deal) (PSs.nox (s_cons (s_par2 2 3 sc__law_deal.nd (m_cons (m_lc (own := [("_law_cell", 1)]) (by rfl) sc__law_deal.nd (i_seq (m_sl (m_var 0) o_none (o_some m_int))) (blkOk_by (own := [("_law_cell", 1)]) (N := ["_law_script", "_law_cell", "_law_cells", "_law_mixed_here"]) (sc := defScope s__law_deal) (by decide +kernel)) (fun _ _ _ _ _ => (g_name 1 sc__law_deal.nd)) (fun _ _ _ _ _ => ts_nil) (fun _ _ _ _ _ => (m_callB call_abs bAbs_ok E.g_abs bt_abs (m_cons (m_var 1) m_nil)))) (m_cons m_int m_nil)))
      (s_cons (s_for PassesOwn.never rfl (i_seq (m_var 2)) (g_name 1 sc__law_deal.nd)
      (s_one (s_set 3 sc__law_deal.nd (m_op op_mod oMod_ok (m_callTy q_int bInt_ok E.g_int bt_int (m_cons (m_op q_add oAdd_ok (m_op op_mul oMul_ok (m_var 3) m_int) (m_op op_mod oMod_ok (m_callTy q_int bInt_ok E.g_int bt_int (m_cons (m_var 1) m_nil)) m_int)) m_nil)) m_int))))
      (s_one (s_ret (m_lstC (m_cons (m_revC (m_lc (own := [("_law_cell", 1)]) (by rfl) sc__law_deal.nd (i_seq (m_var 2)) (blkOk_by (own := [("_law_cell", 1)]) (N := ["_law_script", "_law_cell", "_law_cells", "_law_mixed_here"]) (sc := defScope s__law_deal) (by decide +kernel)) (fun _ _ _ _ _ => (g_name 1 sc__law_deal.nd)) (fun _ _ _ _ _ => (ts_one (m_tcmp op_ge oIB_ok (m_var 1) (m_op op_pow oPow_ok m_int m_int) (nomark _)))) (fun _ _ _ _ _ => (m_var 1)))) (m_cons (m_var 3) m_nil)))))))) (by decide) (fun _ _ _ _ z => z) h
theorem ok__law_deal (E : Env K mg w) : Dn P w K mg base CX0 1 (He.ga K "_law_deal") [] (spF K F__law_deal) :=
  dn_of (ps := ["_law_script"]) E.f__law_deal (fun fd F => fn__law_deal E F) (fun _ _ _ _ _ _ us hl => match us, hl with | [_], _ => rfl)
end
def L__law_draw_1 : Sv := (sExpr (mLm lPop (mIxA (mVar 0) (mC (.int 0))) mNil))
def b__law_draw : Sv := (sSeq (sWhile (mAndT (mTst (mOp oNe (mIxA (mVar 0) (mC (.int 0))) (mLst mNil))) (mTst (mOp oEq (mIxA (mIxA (mVar 0) (mC (.int 0))) (mUn uNeg (mC (.int 1)))) (mC (.int 0)))))
    L__law_draw_1)
    (sSeq (sIf (mTst (mOp oNe (mIxA (mVar 0) (mC (.int 0))) (mLst mNil))) (sSeq (sAsg (mLm lPop (mIxA (mVar 0) (mC (.int 0))) mNil) (gNm 2))
    (sSeq (sExpr (mLm lApp (mIxA (mVar 0) (mC (.int 0))) (mCons (mOp oFdiv (mVar 2) (mVar 1)) mNil)))
    (sRet (mOp oMod (mB bInt (mCons (mVar 2) mNil)) (mVar 1))))) sNext)
    (sSeq (sItm (mVar 0) (mC (.int 1)) (mOp oMod (mB bInt (mCons (mOp oAdd (mOp oMul (mIxA (mVar 0) (mC (.int 1))) (mC (.int 48271))) (mC (.int 31))) mNil)) (mC (.int 2147483647))))
    (sRet (mOp oMod (mB bInt (mCons (mOp oFdiv (mIxA (mVar 0) (mC (.int 1))) (mC (.int 8))) mNil)) (mVar 1))))))
def F__law_draw : Fn := runS 2 3 b__law_draw
section
variable {P : Program} {w : World} {K : PySem.W.Frag} {mg : Str → Option Value} {base : Heap}
theorem sc__law_draw : FnScope ["_law_deal_here", "_law_many", "_law_rest"] ["_law_deal_here", "_law_many"] (defScope s__law_draw) := ⟨rfl, rfl, rfl, by decide +kernel, rfl, by decide +kernel, by decide +kernel⟩
theorem fn__law_draw (E : Env K mg w) {fd : FuncData} {dvs : List V} (F : FunD K "_law_draw" "_law_draw" (defArgs s__law_draw) (defBody s__law_draw) (defScope s__law_draw) dvs [] (He.ga K "_law_draw") fd) : FnOk P w K mg base CX0 1 (He.ga K "_law_draw") fd ["_law_deal_here", "_law_many"] (spF K F__law_draw) := by
  refine F.ok sc__law_draw (fun vs H Q E h => spF_len takes_S h) (fun cdv A outer s H vs Q X hr h => ?_)
  have hu := hr.units
  exact body_okS (k := 2) (W := fun cls d _ H' => X cls d H') (g := b__law_draw) (PSs.nox (s_cons (s_while PassesOwn.never (PW.pt (m_pand (m_tcmp (q_ne hu) oNe_ok (m_ixA (hu1 hu) (m_var 0) m_int (fun _ _ => rfl)) (m_lst m_nil) (nomark _)) (m_pand1 (m_tcmp (q_eq hu) oEq_ok (m_ixA (hu1 hu) (m_ixA (hu1 hu) (m_var 0) m_int (fun _ _ => rfl)) (m_un un_neg uNeg_ok m_int) (fun _ _ => rfl)) m_int (nomark _)))))
      (s_one (s_expr (m_pop (m_ixA (hu1 hu) (m_var 0) m_int (fun _ _ => rfl))))))
      (s_cons (s_if (m_tcmp (q_ne hu) oNe_ok (m_ixA (hu1 hu) (m_var 0) m_int (fun _ _ => rfl)) (m_lst m_nil) (nomark _)) (s_cons (s_set 2 sc__law_draw.nd (m_pop (m_ixA (hu1 hu) (m_var 0) m_int (fun _ _ => rfl))))
      (s_cons (s_expr (m_app (m_ixA (hu1 hu) (m_var 0) m_int (fun _ _ => rfl)) (m_cons (m_op op_fdivW oFdiv_ok (m_var 2) (m_var 1)) m_nil)))
      (s_one (s_ret (m_op op_mod oMod_ok (m_callTy q_int bInt_ok E.g_int bt_int (m_cons (m_var 2) m_nil)) (m_var 1)))))) s_nil)
      (s_cons (s_itm (hu1 hu) (m_var 0) m_int (m_op op_mod oMod_ok (m_callTy q_int bInt_ok E.g_int bt_int (m_cons (m_op q_add oAdd_ok (m_op op_mul oMul_ok (m_ixA (hu1 hu) (m_var 0) m_int (fun _ _ => rfl)) m_int) m_int) m_nil)) m_int))
      (s_one (s_ret (m_op op_mod oMod_ok (m_callTy q_int bInt_ok E.g_int bt_int (m_cons (m_op op_fdivW oFdiv_ok (m_ixA (hu1 hu) (m_var 0) m_int (fun _ _ => rfl)) m_int) m_nil)) (m_var 1)))))))) (by decide) (fun _ _ _ _ z => z) h
theorem ok__law_draw (E : Env K mg w) : Dn P w K mg base CX0 1 (He.ga K "_law_draw") [] (spF K F__law_draw) :=
  dn_of (ps := ["_law_deal_here", "_law_many"]) E.f__law_draw (fun fd F => fn__law_draw E F) (fun _ _ _ _ _ _ us hl => match us, hl with | [_, _], _ => rfl)
end
def b__law_pick : Sv := (sRet (mIxA (mVar 1) (mCall F__law_draw [] (mCons (mVar 0) (mCons (mB bLenA (mCons (mVar 1) mNil)) mNil)))))
def F__law_pick : Fn := runS 2 2 b__law_pick
section
variable {P : Program} {w : World} {K : PySem.W.Frag} {mg : Str → Option Value} {base : Heap}
theorem sc__law_pick : FnScope ["_law_deal_here", "_law_some"] ["_law_deal_here", "_law_some"] (defScope s__law_pick) := ⟨rfl, rfl, rfl, by decide +kernel, rfl, by decide +kernel, by decide +kernel⟩
theorem fn__law_pick (E : Env K mg w) {fd : FuncData} {dvs : List V} (F : FunD K "_law_pick" "_law_pick" (defArgs s__law_pick) (defBody s__law_pick) (defScope s__law_pick) dvs [] (He.ga K "_law_pick") fd) : FnOk P w K mg base CX0 2 (He.ga K "_law_pick") fd ["_law_deal_here", "_law_some"] (spF K F__law_pick) := by
  refine F.ok sc__law_pick (fun vs H Q E h => spF_len takes_S h) (fun cdv A outer s H vs Q X hr h => ?_)
  have hu := hr.units
  exact body_okS (k := 2) (W := fun cls d _ H' => X cls d H') (g := b__law_pick) (PSs.nox (s_one (s_ret (m_ixA (hu1 hu) (m_var 1) (m_call (ok__law_draw (K := K) E) (hr.mono (by decide)) E.g__law_draw pA0 (fun _ _ => .nil) (m_cons (m_var 0) (m_cons (m_callB (q_lenA (K := K)) bLenA_ok E.g_len bt_len (m_cons (m_var 1) m_nil)) m_nil))) (fun _ _ => rfl))))) (by decide) (fun _ _ _ _ z => z) h
theorem ok__law_pick (E : Env K mg w) : Dn P w K mg base CX0 2 (He.ga K "_law_pick") [] (spF K F__law_pick) :=
  dn_of (ps := ["_law_deal_here", "_law_some"]) E.f__law_pick (fun fd F => fn__law_pick E F) (fun _ _ _ _ _ _ us hl => match us, hl with | [_, _], _ => rfl)
end
def L__law_mixed_1 : Sv := (sExpr (mLm lApp (mVar 3) (mCons (mLm lPopAt (mVar 2) (mCons (mCall F__law_draw [] (mCons (mVar 0) (mCons (mB bLenA (mCons (mVar 2) mNil)) mNil))) mNil)) mNil)))
def b__law_mixed : Sv := (sSeq (sPar2 2 3 (mCons (mListC (mVar 1)) (mCons (mLstC mNil) mNil)))
    (sSeq (sWhile (mTst (mOp oNe (mVar 2) (mLst mNil)))
    L__law_mixed_1)
    (sRet (mVar 3))))
def F__law_mixed : Fn := runS 2 4 b__law_mixed
section
variable {P : Program} {w : World} {K : PySem.W.Frag} {mg : Str → Option Value} {base : Heap}
theorem sc__law_mixed : FnScope ["_law_deal_here", "_law_some", "_law_others", "_law_found"] ["_law_deal_here", "_law_some"] (defScope s__law_mixed) := ⟨rfl, rfl, rfl, by decide +kernel, rfl, by decide +kernel, by decide +kernel⟩
theorem fn__law_mixed (E : Env K mg w) {fd : FuncData} {dvs : List V} (F : FunD K "_law_mixed" "_law_mixed" (defArgs s__law_mixed) (defBody s__law_mixed) (defScope s__law_mixed) dvs [] (He.ga K "_law_mixed") fd) : FnOk P w K mg base CX0 2 (He.ga K "_law_mixed") fd ["_law_deal_here", "_law_some"] (spF K F__law_mixed) := by
  refine F.ok sc__law_mixed (fun vs H Q E h => spF_len takes_S h) (fun cdv A outer s H vs Q X hr h => ?_)
  have hu := hr.units
  exact body_okS (k := 2) (W := fun cls d _ H' => X cls d H') (g := b__law_mixed) (PSs.nox (s_cons (s_par2 2 3 sc__law_mixed.nd (m_cons (m_listC E.g_list (m_var 1)) (m_cons (m_lstC m_nil) m_nil)))
      (s_cons (s_while PassesOwn.never (m_tcmp (q_ne hu) oNe_ok (m_var 2) (m_lst m_nil) (nomark _))
      (s_one (s_expr (m_app (m_var 3) (m_cons (m_popAt (m_var 2) (m_cons (m_call (ok__law_draw (K := K) E) (hr.mono (by decide)) E.g__law_draw pA0 (fun _ _ => .nil) (m_cons (m_var 0) (m_cons (m_callB (q_lenA (K := K)) bLenA_ok E.g_len bt_len (m_cons (m_var 2) m_nil)) m_nil))) m_nil)) m_nil)))))
      (s_one (s_ret (m_var 3)))))) (by decide) (fun _ _ _ _ z => z) h
theorem ok__law_mixed (E : Env K mg w) : Dn P w K mg base CX0 2 (He.ga K "_law_mixed") [] (spF K F__law_mixed) :=
  dn_of (ps := ["_law_deal_here", "_law_some"]) E.f__law_mixed (fun fd F => fn__law_mixed E F) (fun _ _ _ _ _ _ us hl => match us, hl with | [_, _], _ => rfl)
end
def b__law_names : Sv := (sRet (mSl (mCall F__law_mixed [] (mCons (mVar 0) (mCons (mLst (mCons (mC (.str "talk")) (mCons (mC (.str "owe")) (mCons (mC (.str "plea")) (mCons (mC (.str "a")) (mCons (mC (.str "b")) (mCons (mC (.str "zz")) (mCons (mC (.str "x")) (mCons (mC (.str "suit")) (mCons (mC (.str "rest")) (mCons (mC (.str "cap")) mNil))))))))))) mNil))) mNoPart (mPart (mVar 1))))
def F__law_names : Fn := runS 2 2 b__law_names
section
variable {P : Program} {w : World} {K : PySem.W.Frag} {mg : Str → Option Value} {base : Heap}
theorem sc__law_names : FnScope ["_law_deal_here", "_law_many"] ["_law_deal_here", "_law_many"] (defScope s__law_names) := ⟨rfl, rfl, rfl, by decide +kernel, rfl, by decide +kernel, by decide +kernel⟩
theorem fn__law_names (E : Env K mg w) {fd : FuncData} {dvs : List V} (F : FunD K "_law_names" "_law_names" (defArgs s__law_names) (defBody s__law_names) (defScope s__law_names) dvs [] (He.ga K "_law_names") fd) : FnOk P w K mg base CX0 3 (He.ga K "_law_names") fd ["_law_deal_here", "_law_many"] (spF K F__law_names) := by
  refine F.ok sc__law_names (fun vs H Q E h => spF_len takes_S h) (fun cdv A outer s H vs Q X hr h => ?_)
  have hu := hr.units
  exact body_okS (k := 2) (W := fun cls d _ H' => X cls d H') (g := b__law_names) (PSs.nox (s_one (s_ret (m_sl (m_call (ok__law_mixed (K := K) E) (hr.mono (by decide)) E.g__law_mixed pA0 (fun _ _ => .nil) (m_cons (m_var 0) (m_cons (m_lst (m_cons m_str (m_cons m_str (m_cons m_str (m_cons m_str (m_cons m_str (m_cons m_str (m_cons m_str (m_cons m_str (m_cons m_str (m_cons m_str m_nil))))))))))) m_nil))) o_none (o_some (m_var 1)))))) (by decide) (fun _ _ _ _ z => z) h
theorem ok__law_names (E : Env K mg w) : Dn P w K mg base CX0 3 (He.ga K "_law_names") [] (spF K F__law_names) :=
  dn_of (ps := ["_law_deal_here", "_law_many"]) E.f__law_names (fun fd F => fn__law_names E F) (fun _ _ _ _ _ _ us hl => match us, hl with | [_, _], _ => rfl)
end
def b__law_kind : Sv := (sSeq (sPar2 3 4 (mCons (mCall F__law_pick [] (mCons (mVar 0) (mCons (mLst (mCons (mC (.str "still")) (mCons (mC (.str "anew")) (mCons (mC (.str "lift")) mNil)))) mNil))) (mCons (mCall F__law_pick [] (mCons (mVar 0) (mCons (mLst (mCons (mC (.int 1)) (mCons (mC (.int 1)) (mCons (mC (.int 2)) (mCons (mC (.int 3)) (mCons (mC .non) mNil)))))) mNil))) mNil)))
    (sRet (mTup (mCons (mVar 3) (mCons (mVar 1) (mCons (mOp oAdd (mC (.int 1)) (mCall F__law_draw [] (mCons (mVar 0) (mCons (mVar 2) mNil)))) (mCons (mIf (mTst (mOp oEq (mVar 3) (mC (.str "lift")))) (mOp oAdd (mC (.int 1)) (mCall F__law_draw [] (mCons (mVar 0) (mCons (mVar 2) mNil)))) (mC (.int 0))) (mCons (mVar 4) mNil))))))))
def F__law_kind : Fn := runS 3 5 b__law_kind
section
variable {P : Program} {w : World} {K : PySem.W.Frag} {mg : Str → Option Value} {base : Heap}
theorem sc__law_kind : FnScope ["_law_deal_here", "_law_word", "_law_most", "_law_form", "_law_many"] ["_law_deal_here", "_law_word", "_law_most"] (defScope s__law_kind) := ⟨rfl, rfl, rfl, by decide +kernel, rfl, by decide +kernel, by decide +kernel⟩
theorem fn__law_kind (E : Env K mg w) {fd : FuncData} {dvs : List V} (F : FunD K "_law_kind" "_law_kind" (defArgs s__law_kind) (defBody s__law_kind) (defScope s__law_kind) dvs [] (He.ga K "_law_kind") fd) : FnOk P w K mg base CX0 3 (He.ga K "_law_kind") fd ["_law_deal_here", "_law_word", "_law_most"] (spF K F__law_kind) := by
  refine F.ok sc__law_kind (fun vs H Q E h => spF_len takes_S h) (fun cdv A outer s H vs Q X hr h => ?_)
  have hu := hr.units
  exact body_okS (k := 3) (W := fun cls d _ H' => X cls d H') (g := b__law_kind) (PSs.nox (s_cons (s_par2 3 4 sc__law_kind.nd (m_cons (m_call (ok__law_pick (K := K) E) (hr.mono (by decide)) E.g__law_pick pA0 (fun _ _ => .nil) (m_cons (m_var 0) (m_cons (m_lst (m_cons m_str (m_cons m_str (m_cons m_str m_nil)))) m_nil))) (m_cons (m_call (ok__law_pick (K := K) E) (hr.mono (by decide)) E.g__law_pick pA0 (fun _ _ => .nil) (m_cons (m_var 0) (m_cons (m_lst (m_cons m_int (m_cons m_int (m_cons m_int (m_cons m_int (m_cons m_non m_nil)))))) m_nil))) m_nil)))
      (s_one (s_ret (m_tup (m_cons (m_var 3) (m_cons (m_var 1) (m_cons (m_op q_add oAdd_ok m_int (m_call (ok__law_draw (K := K) E) (hr.mono (by decide)) E.g__law_draw pA0 (fun _ _ => .nil) (m_cons (m_var 0) (m_cons (m_var 2) m_nil)))) (m_cons (m_ifE (m_tcmp (q_eq hu) oEq_ok (m_var 3) m_str (nomark _)) (m_op q_add oAdd_ok m_int (m_call (ok__law_draw (K := K) E) (hr.mono (by decide)) E.g__law_draw pA0 (fun _ _ => .nil) (m_cons (m_var 0) (m_cons (m_var 2) m_nil)))) m_int) (m_cons (m_var 4) m_nil)))))))))) (by decide) (fun _ _ _ _ z => z) h
theorem ok__law_kind (E : Env K mg w) : Dn P w K mg base CX0 3 (He.ga K "_law_kind") [] (spF K F__law_kind) :=
  dn_of (ps := ["_law_deal_here", "_law_word", "_law_most"]) E.f__law_kind (fun fd F => fn__law_kind E F) (fun _ _ _ _ _ _ us hl => match us, hl with | [_, _, _], _ => rfl)
end
def b__law_rule : Sv := (sSeq (sAsg (mB bSrtI (mCons (mLc [9] (mSeqOf (mSl (mCall F__law_mixed [] (mCons (mVar 0) (mCons (mUn fListRg (mC (.int 7))) mNil))) mNoPart (mPart (mCall F__law_pick [] (mCons (mVar 0) (mCons (mLst (mCons (mC (.int 0)) (mCons (mC (.int 0)) (mCons (mC (.int 1)) (mCons (mC (.int 2)) (mCons (mC (.int 2)) (mCons (mC (.int 4)) mNil))))))) mNil)))))) (gNm 9) mYes (mB bInt (mCons (mVar 9) mNil))) mNil)) (gNm 3))
    (sSeq (sAsg (mCall F__law_pick [] (mCons (mVar 0) (mCons (mLst (mCons (mC .non) (mCons (mC .non) (mCons (mC .non) (mCons (mOp oAdd (mC (.int 1)) (mCall F__law_draw [] (mCons (mVar 0) (mCons (mOp oMul (mC (.int 3)) (mVar 2)) mNil)))) mNil))))) mNil))) (gNm 4))
    (sSeq (sPar2 6 7 (mCons (mCall F__law_names [] (mCons (mVar 0) (mCons (mCall F__law_draw [] (mCons (mVar 0) (mCons (mOp oAdd (mVar 1) (mC (.int 1))) mNil))) mNil))) (mCons (mOp oAdd (mC (.int 1)) (mCall F__law_draw [] (mCons (mVar 0) (mCons (mVar 2) mNil)))) mNil)))
    (sSeq (sAsg (mLc [8] (mSeqOf (mVar 6)) (gNm 8) mYes (mCall F__law_kind [] (mCons (mVar 0) (mCons (mVar 8) (mCons (mVar 2) mNil))))) (gNm 5))
    (sSeq (sIf (mAndT (mTst (mOp oNotN (mVar 4) (mC .non))) (mTst (mOp oNe (mLc [9] (mSeqOf (mVar 5)) (gNm 9) (mTst (mOp oIsN (mIxA (mVar 9) (mC (.int 4))) (mC .non))) (mVar 9)) (mLst mNil)))) (sAsg (mB bMin (mCons (mB bInt (mCons (mVar 4) mNil)) (mCons (mOp oAdd (mVar 7) (mC (.int 200))) mNil))) (gNm 4)) sNext)
    (sRet (mTup (mCons (mVar 7) (mCons (mVar 3) (mCons (mVar 4) (mCons (mVar 5) mNil)))))))))))
def F__law_rule : Fn := runS 3 10 b__law_rule
section
variable {P : Program} {w : World} {K : PySem.W.Frag} {mg : Str → Option Value} {base : Heap}
theorem sc__law_rule : FnScope ["_law_deal_here", "_law_many", "_law_most", "_law_rests_here", "_law_high", "_law_some", "_law_words", "_law_size", "_law_word", "_law_one"] ["_law_deal_here", "_law_many", "_law_most"] (defScope s__law_rule) := ⟨rfl, rfl, rfl, by decide +kernel, rfl, by decide +kernel, by decide +kernel⟩
theorem fn__law_rule (E : Env K mg w) {fd : FuncData} {dvs : List V} (F : FunD K "_law_rule" "_law_rule" (defArgs s__law_rule) (defBody s__law_rule) (defScope s__law_rule) dvs [] (He.ga K "_law_rule") fd) : FnOk P w K mg base CX0 4 (He.ga K "_law_rule") fd ["_law_deal_here", "_law_many", "_law_most"] (spF K F__law_rule) := by
  refine F.ok sc__law_rule (fun vs H Q E h => spF_len takes_S h) (fun cdv A outer s H vs Q X hr h => ?_)
  have hu := hr.units
  exact body_okS (k := 3) (W := fun cls d _ H' => X cls d H') (g := b__law_rule) (PSs.nox (s_cons (s_set 3 sc__law_rule.nd (m_callB (k_sorted K) bSrtI_ok E.g_sorted bt_sorted (m_cons (m_lc (own := [("_law_one", 9)]) (by rfl) sc__law_rule.nd (i_seq (m_sl (m_call (ok__law_mixed (K := K) E) (hr.mono (by decide)) E.g__law_mixed pA0 (fun _ _ => .nil) (m_cons (m_var 0) (m_cons (m_listRg E.g_list E.g_range m_int) m_nil))) o_none (o_some (m_call (ok__law_pick (K := K) E) (hr.mono (by decide)) E.g__law_pick pA0 (fun _ _ => .nil) (m_cons (m_var 0) (m_cons (m_lst (m_cons m_int (m_cons m_int (m_cons m_int (m_cons m_int (m_cons m_int (m_cons m_int m_nil))))))) m_nil)))))) (blkOk_by (own := [("_law_one", 9)]) (N := ["_law_deal_here", "_law_many", "_law_most", "_law_rests_here", "_law_high", "_law_some", "_law_words", "_law_size", "_law_word", "_law_one"]) (sc := defScope s__law_rule) (by decide +kernel)) (fun _ _ _ _ _ => (g_name 9 sc__law_rule.nd)) (fun _ _ _ _ _ => ts_nil) (fun _ _ _ _ _ => (m_callTy q_int bInt_ok E.g_int bt_int (m_cons (m_var 9) m_nil)))) m_nil)))
      (s_cons (s_set 4 sc__law_rule.nd (m_call (ok__law_pick (K := K) E) (hr.mono (by decide)) E.g__law_pick pA0 (fun _ _ => .nil) (m_cons (m_var 0) (m_cons (m_lst (m_cons m_non (m_cons m_non (m_cons m_non (m_cons (m_op q_add oAdd_ok m_int (m_call (ok__law_draw (K := K) E) (hr.mono (by decide)) E.g__law_draw pA0 (fun _ _ => .nil) (m_cons (m_var 0) (m_cons (m_op op_mul oMul_ok m_int (m_var 2)) m_nil)))) m_nil))))) m_nil))))
      (s_cons (s_par2 6 7 sc__law_rule.nd (m_cons (m_call (ok__law_names (K := K) E) (hr.mono (by decide)) E.g__law_names pA0 (fun _ _ => .nil) (m_cons (m_var 0) (m_cons (m_call (ok__law_draw (K := K) E) (hr.mono (by decide)) E.g__law_draw pA0 (fun _ _ => .nil) (m_cons (m_var 0) (m_cons (m_op q_add oAdd_ok (m_var 1) m_int) m_nil))) m_nil))) (m_cons (m_op q_add oAdd_ok m_int (m_call (ok__law_draw (K := K) E) (hr.mono (by decide)) E.g__law_draw pA0 (fun _ _ => .nil) (m_cons (m_var 0) (m_cons (m_var 2) m_nil)))) m_nil)))
      (s_cons (s_setLc 5 (own := [("_law_word", 8)]) (by rfl) sc__law_rule.nd (sw_true rfl rfl rfl (by decide +kernel)) (i_seq (m_var 6)) (blkOk_by (own := [("_law_word", 8)]) (N := ["_law_deal_here", "_law_many", "_law_most", "_law_rests_here", "_law_high", "_law_some", "_law_words", "_law_size", "_law_word", "_law_one"]) (sc := defScope s__law_rule) (by decide +kernel)) (fun _ _ _ _ _ => (g_name 8 sc__law_rule.nd)) (fun _ _ _ _ _ => ts_nil) (fun _ _ _ _ _ => (m_call (ok__law_kind (K := K) E) (hr.mono (by decide)) E.g__law_kind pA0 (fun _ _ => .nil) (m_cons (m_var 0) (m_cons (m_var 8) (m_cons (m_var 2) m_nil))))))
      (s_cons (s_if (PW.pt (m_pand (m_tcmp op_notN oNotN_ok (m_var 4) m_non (nomark _)) (m_pand1 (m_tcmp (q_ne hu) oNe_ok (m_lc (own := [("_law_one", 9)]) (by rfl) sc__law_rule.nd (i_seq (m_var 5)) (blkOk_by (own := [("_law_one", 9)]) (N := ["_law_deal_here", "_law_many", "_law_most", "_law_rests_here", "_law_high", "_law_some", "_law_words", "_law_size", "_law_word", "_law_one"]) (sc := defScope s__law_rule) (by decide +kernel)) (fun _ _ _ _ _ => (g_name 9 sc__law_rule.nd)) (fun _ _ _ _ _ => (ts_one (m_tcmp op_isN oIsN_ok (m_ixA (hu1 hu) (m_var 9) m_int (fun _ _ => rfl)) m_non (nomark _)))) (fun _ _ _ _ _ => (m_var 9))) (m_lst m_nil) (nomark _))))) (s_one (s_set 4 sc__law_rule.nd (m_callB (call_min2 rfl) bI2_ok E.g_min bt_min (m_cons (m_callTy q_int bInt_ok E.g_int bt_int (m_cons (m_var 4) m_nil)) (m_cons (m_op q_add oAdd_ok (m_var 7) m_int) m_nil))))) s_nil)
      (s_one (s_ret (m_tup (m_cons (m_var 7) (m_cons (m_var 3) (m_cons (m_var 4) (m_cons (m_var 5) m_nil))))))))))))) (by decide) (fun _ _ _ _ z => z) h
theorem ok__law_rule (E : Env K mg w) : Dn P w K mg base CX0 4 (He.ga K "_law_rule") [] (spF K F__law_rule) :=
  dn_of (ps := ["_law_deal_here", "_law_many", "_law_most"]) E.f__law_rule (fun fd F => fn__law_rule E F) (fun _ _ _ _ _ _ us hl => match us, hl with | [_, _, _], _ => rfl)
end
end

end Tm

namespace Tm
open PySem PySem.Spec PyProof.Rows L2
noncomputable section
def L__law_choices_1 : Sv := (sExpr (mLm lExt (mVar 6) (mCons (mLc [8] (mL fRng2 (mCons (mVar 2) (mCons (mOp oAdd (mVar 3) (mC (.int 1))) mNil))) (gNm 8) mYes (mOp oAdd (mVar 7) (mTup (mCons (mVar 8) mNil)))) mNil)))
def L__law_choices_2 : Sv := (sSeq (sAsg (mLstC mNil) (gNm 6))
    (sSeq (sForI (mSeqOf (mVar 1)) (gNm 7)
    L__law_choices_1)
    (sAsg (mVar 6) (gNm 1))))
def b__law_choices : Sv := (sSeq (sAsg (mLst (mCons (mTup mNil) mNil)) (gNm 1))
    (sSeq (sForI (mSeqOf (mVar 0)) (gTup [(gNm 2), (gNm 3), (gNm 4), (gNm 5)])
    L__law_choices_2)
    (sRet (mVar 1))))
def F__law_choices : Fn := runP 1 9 b__law_choices
section
variable {P : Program} {w : World} {K : PySem.W.Frag} {mg : Str → Option Value} {base : Heap}
theorem sc__law_choices : FnScope ["_law_some", "_law_found", "_law_low", "_law_high", "_law_word", "_law_many", "_law_longer", "_law_choice", "_law_today"] ["_law_some"] (defScope s__law_choices) := ⟨rfl, rfl, rfl, by decide +kernel, rfl, by decide +kernel, by decide +kernel⟩
theorem fn__law_choices (E : Env K mg w) {fd : FuncData} {dvs : List V} (F : FunD K "_law_choices" "_law_choices" (defArgs s__law_choices) (defBody s__law_choices) (defScope s__law_choices) dvs [] (He.ga K "_law_choices") fd) : FnOk P w K mg base CX0 1 (He.ga K "_law_choices") fd ["_law_some"] (spF K F__law_choices) := by
  refine F.ok sc__law_choices (fun vs H Q E h => spF_len takes_P h) (fun cdv A outer s H vs Q X hr h => ?_)
  have hu := hr.units
  exact body_okP (k := 1) (W := fun cls d _ H' => X cls d H') (g := b__law_choices) (PSs.nox (s_cons (s_set 1 sc__law_choices.nd (m_lst (m_cons (m_tup m_nil) m_nil)))
      (s_cons (s_for PassesOwn.never rfl (i_seq (m_var 0)) (g_tup (by rfl) (gs_cons (g_name 2 sc__law_choices.nd) (gs_cons (g_name 3 sc__law_choices.nd) (gs_cons (g_name 4 sc__law_choices.nd) (gs_cons (g_name 5 sc__law_choices.nd) gs_nil)))))
      (s_cons (s_set 6 sc__law_choices.nd (m_lstC m_nil))
      (s_cons (s_for PassesOwn.never rfl (i_seq (m_var 1)) (g_name 7 sc__law_choices.nd)
      (s_one (s_expr (m_ext (m_var 6) (m_cons (m_lc (own := [("_law_today", 8)]) (by rfl) sc__law_choices.nd (i_range2 E.g_range (m_cons (m_var 2) (m_cons (m_op q_add oAdd_ok (m_var 3) m_int) m_nil))) (blkOk_by (own := [("_law_today", 8)]) (N := ["_law_some", "_law_found", "_law_low", "_law_high", "_law_word", "_law_many", "_law_longer", "_law_choice", "_law_today"]) (sc := defScope s__law_choices) (by decide +kernel)) (fun _ _ _ _ _ => (g_name 8 sc__law_choices.nd)) (fun _ _ _ _ _ => ts_nil) (fun _ _ _ _ _ => (m_op q_add oAdd_ok (m_var 7) (m_tup (m_cons (m_var 8) m_nil))))) m_nil)))))
      (s_one (s_set 1 sc__law_choices.nd (m_var 6))))))
      (s_one (s_ret (m_var 1)))))) (by decide) (fun _ _ _ _ z => z) h
theorem ok__law_choices (E : Env K mg w) : Dn P w K mg base CX0 1 (He.ga K "_law_choices") [] (spF K F__law_choices) :=
  dn_of (ps := ["_law_some"]) E.f__law_choices (fun fd F => fn__law_choices E F) (fun _ _ _ _ _ _ us hl => match us, hl with | [_], _ => rfl)
end
def L__law_filled_1 : Sv := (sExpr (mLm lExt (mVar 2) (mCons (mIf (mTst (mOp oEq (mVar 4) (mVar 3))) (mLst (mCons (mTup (mCons (mVar 3) (mCons (mVar 7) (mCons (mVar 8) mNil)))) mNil)) (mLst mNil)) mNil)))
def L__law_filled_2 : Sv := (sForI (mL fZipM (mCons (mVar 0) (mCons (mVar 1) mNil))) (gTup [(gTup [(gNm 5), (gNm 6), (gNm 7), (gNm 8)]), (gNm 4)])
    L__law_filled_1)
def b__law_filled : Sv := (sSeq (sAsg (mLstC mNil) (gNm 2))
    (sSeq (sForI (mSeqOf (mB bSetI (mCons (mLc [4] (mSeqOf (mVar 1)) (gNm 4) mYes (mB bInt (mCons (mVar 4) mNil))) mNil))) (gNm 3)
    L__law_filled_2)
    (sRet (mTupOf (mVar 2)))))
def F__law_filled : Fn := runP 2 9 b__law_filled
section
variable {P : Program} {w : World} {K : PySem.W.Frag} {mg : Str → Option Value} {base : Heap}
theorem sc__law_filled : FnScope ["_law_some", "_law_choice", "_law_found", "_law_today", "_law_one", "_law_low", "_law_high", "_law_word", "_law_many"] ["_law_some", "_law_choice"] (defScope s__law_filled) := ⟨rfl, rfl, rfl, by decide +kernel, rfl, by decide +kernel, by decide +kernel⟩
theorem fn__law_filled (E : Env K mg w) {fd : FuncData} {dvs : List V} (F : FunD K "_law_filled" "_law_filled" (defArgs s__law_filled) (defBody s__law_filled) (defScope s__law_filled) dvs [] (He.ga K "_law_filled") fd) : FnOk P w K mg base CX0 1 (He.ga K "_law_filled") fd ["_law_some", "_law_choice"] (spF K F__law_filled) := by
  refine F.ok sc__law_filled (fun vs H Q E h => spF_len takes_P h) (fun cdv A outer s H vs Q X hr h => ?_)
  have hu := hr.units
  exact body_okP (k := 2) (W := fun cls d _ H' => X cls d H') (g := b__law_filled) (PSs.nox (s_cons (s_set 2 sc__law_filled.nd (m_lstC m_nil))
      (s_cons (s_for PassesOwn.never rfl (i_seq (m_sortSet hu bSetI_ok E.g_sorted E.g_set (m_cons (m_lc (own := [("_law_one", 4)]) (by rfl) sc__law_filled.nd (i_seq (m_var 1)) (blkOk_by (own := [("_law_one", 4)]) (N := ["_law_some", "_law_choice", "_law_found", "_law_today", "_law_one", "_law_low", "_law_high", "_law_word", "_law_many"]) (sc := defScope s__law_filled) (by decide +kernel)) (fun _ _ _ _ _ => (g_name 4 sc__law_filled.nd)) (fun _ _ _ _ _ => ts_nil) (fun _ _ _ _ _ => (m_callTy q_int bInt_ok E.g_int bt_int (m_cons (m_var 4) m_nil)))) m_nil))) (g_name 3 sc__law_filled.nd)
      (s_one (s_for PassesOwn.never rfl (i_zipM E.g_zip (m_cons (m_var 0) (m_cons (m_var 1) m_nil))) (g_tup (by rfl) (gs_cons (g_tup (by rfl) (gs_cons (g_name 5 sc__law_filled.nd) (gs_cons (g_name 6 sc__law_filled.nd) (gs_cons (g_name 7 sc__law_filled.nd) (gs_cons (g_name 8 sc__law_filled.nd) gs_nil))))) (gs_cons (g_name 4 sc__law_filled.nd) gs_nil)))
      (s_one (s_expr (m_ext (m_var 2) (m_cons (m_ifE (m_tcmp (q_eq hu) oEq_ok (m_var 4) (m_var 3) (nomark _)) (m_lst (m_cons (m_tup (m_cons (m_var 3) (m_cons (m_var 7) (m_cons (m_var 8) m_nil)))) m_nil)) (m_lst m_nil)) m_nil)))))))
      (s_one (s_ret (m_tuple E.g_tuple (m_var 2))))))) (by decide) (fun _ _ _ _ z => z) h
theorem ok__law_filled (E : Env K mg w) : Dn P w K mg base CX0 1 (He.ga K "_law_filled") [] (spF K F__law_filled) :=
  dn_of (ps := ["_law_some", "_law_choice"]) E.f__law_filled (fun fd F => fn__law_filled E F) (fun _ _ _ _ _ _ us hl => match us, hl with | [_, _], _ => rfl)
end
def L__law_unsure_1 : Sv := (sSeq (sPar2 8 9 (mCons (mOp oAdd (mC (.int 1)) (mCall F__law_draw [] (mCons (mVar 0) (mCons (mC (.int 4)) mNil)))) (mCons (mCall F__law_draw [] (mCons (mVar 0) (mCons (mVar 3) mNil))) mNil)))
    (sSeq (sAsg (mIf (mTst (mOp oLt (mOp oMul (mVar 8) (mVar 7)) (mC (.int 65)))) (mVar 8) (mC (.int 1))) (gNm 8))
    (sSeq (sAsg (mOp oMul (mVar 7) (mVar 8)) (gNm 7))
    (sExpr (mLm lApp (mVar 6) (mCons (mTup (mCons (mVar 9) (mCons (mOp oSub (mOp oAdd (mVar 9) (mVar 8)) (mC (.int 1))) (mCons (mCall F__law_pick [] (mCons (mVar 0) (mCons (mVar 5) mNil))) (mCons (mOp oAdd (mC (.int 1)) (mCall F__law_draw [] (mCons (mVar 0) (mCons (mC (.int 5)) mNil)))) mNil))))) mNil))))))
def b__law_unsure : Sv := (sSeq (sPar3 5 6 7 (mCons (mOp oAdd (mLc [10] (mSeqOf (mIxA (mVar 1) (mC (.int 3)))) (gNm 10) mYes (mIxA (mVar 10) (mC (.int 1)))) (mLst (mCons (mC (.str "qq")) mNil))) (mCons (mLstC mNil) (mCons (mC (.int 1)) mNil))))
    (sSeq (sForI (mL fRng1 (mCons (mCall F__law_draw [] (mCons (mVar 0) (mCons (mOp oAdd (mVar 2) (mC (.int 1))) mNil))) mNil)) (gNm 4)
    L__law_unsure_1)
    (sRet (mVar 6))))
def F__law_unsure : Fn := runS 4 11 b__law_unsure
section
variable {P : Program} {w : World} {K : PySem.W.Frag} {mg : Str → Option Value} {base : Heap}
theorem sc__law_unsure : FnScope ["_law_deal_here", "_law_told", "_law_many", "_law_most", "_law_k", "_law_words", "_law_found", "_law_sizes", "_law_wide", "_law_low", "_law_one"] ["_law_deal_here", "_law_told", "_law_many", "_law_most"] (defScope s__law_unsure) := ⟨rfl, rfl, rfl, by decide +kernel, rfl, by decide +kernel, by decide +kernel⟩
theorem fn__law_unsure (E : Env K mg w) {fd : FuncData} {dvs : List V} (F : FunD K "_law_unsure" "_law_unsure" (defArgs s__law_unsure) (defBody s__law_unsure) (defScope s__law_unsure) dvs [] (He.ga K "_law_unsure") fd) : FnOk P w K mg base CX0 3 (He.ga K "_law_unsure") fd ["_law_deal_here", "_law_told", "_law_many", "_law_most"] (spF K F__law_unsure) := by
  refine F.ok sc__law_unsure (fun vs H Q E h => spF_len takes_S h) (fun cdv A outer s H vs Q X hr h => ?_)
  have hu := hr.units
  exact body_okS (k := 4) (W := fun cls d _ H' => X cls d H') (g := b__law_unsure) (PSs.nox (s_cons (s_par3 5 6 7 sc__law_unsure.nd (m_cons (m_op q_add oAdd_ok (m_lc (own := [("_law_one", 10)]) (by rfl) sc__law_unsure.nd (i_seq (m_ixA (hu1 hu) (m_var 1) m_int (fun _ _ => rfl))) (blkOk_by (own := [("_law_one", 10)]) (N := ["_law_deal_here", "_law_told", "_law_many", "_law_most", "_law_k", "_law_words", "_law_found", "_law_sizes", "_law_wide", "_law_low", "_law_one"]) (sc := defScope s__law_unsure) (by decide +kernel)) (fun _ _ _ _ _ => (g_name 10 sc__law_unsure.nd)) (fun _ _ _ _ _ => ts_nil) (fun _ _ _ _ _ => (m_ixA (hu1 hu) (m_var 10) m_int (fun _ _ => rfl)))) (m_lst (m_cons m_str m_nil))) (m_cons (m_lstC m_nil) (m_cons m_int m_nil))))
      (s_cons (s_for PassesOwn.never rfl (i_range1 E.g_range (m_cons (m_call (ok__law_draw (K := K) E) (hr.mono (by decide)) E.g__law_draw pA0 (fun _ _ => .nil) (m_cons (m_var 0) (m_cons (m_op q_add oAdd_ok (m_var 2) m_int) m_nil))) m_nil)) (g_name 4 sc__law_unsure.nd)
      (s_cons (s_par2 8 9 sc__law_unsure.nd (m_cons (m_op q_add oAdd_ok m_int (m_call (ok__law_draw (K := K) E) (hr.mono (by decide)) E.g__law_draw pA0 (fun _ _ => .nil) (m_cons (m_var 0) (m_cons m_int m_nil)))) (m_cons (m_call (ok__law_draw (K := K) E) (hr.mono (by decide)) E.g__law_draw pA0 (fun _ _ => .nil) (m_cons (m_var 0) (m_cons (m_var 3) m_nil))) m_nil)))
      (s_cons (s_set 8 sc__law_unsure.nd (m_ifE (m_tcmp op_lt oIB_ok (m_op op_mul oMul_ok (m_var 8) (m_var 7)) m_int (nomark _)) (m_var 8) m_int))
      (s_cons (s_set 7 sc__law_unsure.nd (m_op op_mul oMul_ok (m_var 7) (m_var 8)))
      (s_one (s_expr (m_app (m_var 6) (m_cons (m_tup (m_cons (m_var 9) (m_cons (m_op op_sub oI_ok (m_op q_add oAdd_ok (m_var 9) (m_var 8)) m_int) (m_cons (m_call (ok__law_pick (K := K) E) (hr.mono (by decide)) E.g__law_pick pA0 (fun _ _ => .nil) (m_cons (m_var 0) (m_cons (m_var 5) m_nil))) (m_cons (m_op q_add oAdd_ok m_int (m_call (ok__law_draw (K := K) E) (hr.mono (by decide)) E.g__law_draw pA0 (fun _ _ => .nil) (m_cons (m_var 0) (m_cons m_int m_nil)))) m_nil))))) m_nil))))))))
      (s_one (s_ret (m_var 6)))))) (by decide) (fun _ _ _ _ z => z) h
theorem ok__law_unsure (E : Env K mg w) : Dn P w K mg base CX0 3 (He.ga K "_law_unsure") [] (spF K F__law_unsure) :=
  dn_of (ps := ["_law_deal_here", "_law_told", "_law_many", "_law_most"]) E.f__law_unsure (fun fd F => fn__law_unsure E F) (fun _ _ _ _ _ _ us hl => match us, hl with | [_, _, _, _], _ => rfl)
end
end

end Tm

namespace Tm
open PySem PySem.Spec PyProof.Rows L2
noncomputable section
noncomputable def L_law_1 (w : World) : Sv := (sItmN w (mVar 10) (mCall F__law_filled [] (mCons (mVar 5) (mCons (mVar 6) mNil))) (mC (.bl true)))
noncomputable def L_law_2_10 (w : World) : Sv := (sIf (mTst (mOp oNe (mLc [3] (mSeqOf (mCall F_fillings [] (mCons (mMk "Unsure" F_Unsure___init__ [] (mCons (mFld ["Story", "Unsure"] "occasions" (mVar 9)) mNil)) mNil))) (gNm 3) mYes (mFld ["Story", "Unsure"] "occasions" (mVar 3))) (mVar 8))) (sRet (mC (.bl false))) sNext)
noncomputable def L_law_2_9 (w : World) : Sv := (sSeq (sIf (mTst (mOp oNe (mLc [12] (mL fRng2 (mCons (mC (.int 1)) (mCons (mB bLenA (mCons (mVar 8) mNil)) mNil))) (gNm 12) (mNotT (mTst (mOp oLtD (mIxA (mVar 8) (mOp oSub (mVar 12) (mC (.int 1)))) (mIxA (mVar 8) (mVar 12))))) (mVar 12)) (mLst mNil))) (sRet (mC (.bl false))) sNext) (L_law_2_10 w))
noncomputable def L_law_2_8 (w : World) : Sv := (sSeq (sIf (mOrT (mTst (mOp oNe (mB bLenA (mCons (mVar 8) mNil)) (mLenN (mVar 10)))) (mTst (mOp oNe (mLc [3] (mSeqOf (mVar 8)) (gNm 3) (mTst (mInN w true (mVar 3) (mVar 10))) (mVar 3)) (mLst mNil)))) (sRet (mC (.bl false))) sNext) (L_law_2_9 w))
noncomputable def L_law_2_7 (w : World) : Sv := (sSeq (sAsg (mLc [3] (mSeqOf (mVar 7)) (gNm 3) mYes (mFld ["Story", "Unsure"] "occasions" (mVar 3))) (gNm 8)) (L_law_2_8 w))
noncomputable def L_law_2_6 (w : World) : Sv := (sSeq (sIf (mOrT (mNotT (mTst (mUn (fIsB Cs_all "tuple") (mVar 7)))) (mTst (mOp oNe (mLc [3] (mSeqOf (mVar 7)) (gNm 3) (mNotT (mTst (mUn (fIsC tb_Story) (mVar 3)))) (mVar 3)) (mLst mNil)))) (sRet (mC (.bl false))) sNext) (L_law_2_7 w))
noncomputable def L_law_2_5 (w : World) : Sv := (sSeq (sAsg (mCall F_fillings [] (mCons (mVar 9) mNil)) (gNm 7)) (L_law_2_6 w))
noncomputable def L_law_2_4 (w : World) : Sv := (sSeq (sForI (mSeqOf (mCall F__law_choices [] (mCons (mVar 5) mNil))) (gNm 6)
    (L_law_1 w)) (L_law_2_5 w))
noncomputable def L_law_2_3 (w : World) : Sv := (sSeq (sAsg (mTup (mCons (mMk "Unsure" F_Unsure___init__ [] (mCons (mVar 5) mNil)) (mCons mDicN mNil))) (gTup [(gNm 9), (gNm 10)])) (L_law_2_4 w))
noncomputable def L_law_2_2 (w : World) : Sv := (sSeq (sIf (mAndT (mTst (mOp oEq (mCall F__law_draw [] (mCons (mVar 1) (mCons (mC (.int 3)) mNil))) (mC (.int 0)))) (mTst (mOp oLt (mB bLenA (mCons (mCall F__law_choices [] (mCons (mOp oAdd (mVar 5) (mSl (mVar 5) mNoPart (mPart (mC (.int 1))))) mNil)) mNil)) (mC (.int 201))))) (sAsg (mOp oAdd (mVar 5) (mSl (mVar 5) mNoPart (mPart (mC (.int 1))))) (gNm 5)) sNext) (L_law_2_3 w))
noncomputable def L_law_2_1 (w : World) : Sv := (sSeq (sAsg (mCall F__law_unsure [] (mCons (mVar 1) (mCons (mVar 4) (mCons (mC (.int 4)) (mCons (mC (.int 12)) mNil))))) (gNm 5)) (L_law_2_2 w))
noncomputable def L_law_2 (w : World) : Sv := (sSeq (sAsg (mCall F__law_rule [] (mCons (mVar 1) (mCons (mC (.int 2)) (mCons (mC (.int 9)) mNil)))) (gNm 4)) (L_law_2_1 w))
noncomputable def b_law_3 (w : World) : Sv := (sRet (mAnd (mOp oEq (mVar 3) (mLst (mCons (mTup (mCons (mTup (mCons (mC (.int 1)) (mCons (mC (.str "a")) (mCons (mC (.int 1)) mNil)))) (mCons (mTup (mCons (mC (.int 2)) (mCons (mC (.str "a")) (mCons (mC (.int 1)) mNil)))) mNil))) (mCons (mTup (mCons (mTup (mCons (mC (.int 2)) (mCons (mC (.str "a")) (mCons (mC (.int 1)) mNil)))) (mCons (mTup (mCons (mC (.int 2)) (mCons (mC (.str "a")) (mCons (mC (.int 1)) mNil)))) mNil))) mNil)))) (mOp oEq (mB bLenA (mCons (mCall F_fillings [] (mCons (mMk "Unsure" F_Unsure___init__ [] (mCons (mTup mNil) mNil)) mNil)) mNil)) (mC (.int 1)))))
noncomputable def b_law_2 (w : World) : Sv := (sSeq (sAsg (mLc [11] (mSeqOf (mCall F_fillings [] (mCons (mMk "Unsure" F_Unsure___init__ [] (mCons (mLst (mCons (mTup (mCons (mC (.int 1)) (mCons (mC (.int 2)) (mCons (mC (.str "a")) (mCons (mC (.int 1)) mNil))))) (mCons (mTup (mCons (mC (.int 2)) (mCons (mC (.int 2)) (mCons (mC (.str "a")) (mCons (mC (.int 1)) mNil))))) mNil))) mNil)) mNil))) (gNm 11) mYes (mFld ["Story", "Unsure"] "occasions" (mVar 11))) (gNm 3)) (b_law_3 w))
noncomputable def b_law_1 (w : World) : Sv := (sSeq (sForI (mL fRng1 (mCons (mC (.int 6)) mNil)) (gNm 2)
    (L_law_2 w)) (b_law_2 w))
noncomputable def b_law (w : World) : Sv := (sSeq (sAsg (mCall F__law_deal [] (mCons (mVar 0) mNil)) (gNm 1)) (b_law_1 w))
section
variable {P : Program} {w : World} {K : PySem.W.Frag} {mg : Str → Option Value} {base : Heap}
theorem sc_law : FnScope ["_law_script", "_law_deal_here", "_law_turn", "_law_one", "_law_told", "_law_some", "_law_choice", "_law_found", "_law_texts", "_law_made", "_law_known", "_law_story", "_law_spot"] ["_law_script"] (defScope s_law) := ⟨rfl, rfl, rfl, by decide +kernel, rfl, by decide +kernel, by decide +kernel⟩
theorem ok_law_of (hb : ∀ ns : List Int, ns.length ≤ 63 → ∃ S', (b_law w) ⟨0, 0⟩ (start0 13 [.scr ns]) [] = .rt (.bl true) S') (E : Env K mg w) {fd : FuncData} (F : FunD K "law" "law" (defArgs s_law) (defBody s_law) (defScope s_law) [] [] (He.ga K "law") fd) : FnOk P w K mg base CX0 30 (He.ga K "law") fd ["_law_script"] (spLaw K) := by
  refine F.ok sc_law (fun vs H Q E h => ?_) (fun cdv A outer s H vs Q X hr h => ?_)
  · obtain ⟨a, ns, rfl, _⟩ := h
    rfl
  · have hu := hr.units
    exact law_body (W := fun cls d _ H' => X cls d H') (g := (b_law w)) (PSs.nox (s_cons (s_set 1 sc_law.nd (m_call (ok__law_deal (K := K) E) (hr.mono (by decide)) E.g__law_deal pA0 (fun _ _ => .nil) (m_cons (m_var 0) m_nil)))
      (s_cons (s_for PassesOwn.never rfl (i_range1 E.g_range (m_cons m_int m_nil)) (g_name 2 sc_law.nd)
      (s_cons (s_set 4 sc_law.nd (m_call (ok__law_rule (K := K) E) (hr.mono (by decide)) E.g__law_rule pA0 (fun _ _ => .nil) (m_cons (m_var 1) (m_cons m_int (m_cons m_int m_nil)))))
      (s_cons (s_set 5 sc_law.nd (m_call (ok__law_unsure (K := K) E) (hr.mono (by decide)) E.g__law_unsure pA0 (fun _ _ => .nil) (m_cons (m_var 1) (m_cons (m_var 4) (m_cons m_int (m_cons m_int m_nil))))))
      (s_cons (s_if (PW.pt (m_pand (m_tcmp (q_eq hu) oEq_ok (m_call (ok__law_draw (K := K) E) (hr.mono (by decide)) E.g__law_draw pA0 (fun _ _ => .nil) (m_cons (m_var 1) (m_cons m_int m_nil))) m_int (nomark _)) (m_pand1 (m_tcmp op_lt oIB_ok (m_callB (q_lenA (K := K)) bLenA_ok E.g_len bt_len (m_cons (m_call (ok__law_choices (K := K) E) (hr.mono (by decide)) E.g__law_choices pA0 (fun _ _ => .nil) (m_cons (m_op q_add oAdd_ok (m_var 5) (m_sl (m_var 5) o_none (o_some m_int))) m_nil)) m_nil)) m_int (nomark _))))) (s_one (s_set 5 sc_law.nd (m_op q_add oAdd_ok (m_var 5) (m_sl (m_var 5) o_none (o_some m_int))))) s_nil)
      (s_cons (s_asg (m_tup (m_cons (m_mk E.mk_Unsure (ok_Unsure___init__ (K := K) E) (hr.mono (by decide)) E.g_Unsure pA0 (fun _ _ => .nil) (m_cons (m_var 5) m_nil)) (m_cons m_dicN m_nil))) (g_tup (by rfl) (gs_cons (g_name 9 sc_law.nd) (gs_cons (g_name 10 sc_law.nd) gs_nil))))
      (s_cons (s_for PassesOwn.never rfl (i_seq (m_call (ok__law_choices (K := K) E) (hr.mono (by decide)) E.g__law_choices pA0 (fun _ _ => .nil) (m_cons (m_var 5) m_nil))) (g_name 6 sc_law.nd)
      (s_one (s_itmN hu (m_var 10) (m_call (ok__law_filled (K := K) E) (hr.mono (by decide)) E.g__law_filled pA0 (fun _ _ => .nil) (m_cons (m_var 5) (m_cons (m_var 6) m_nil))) m_bl)))
      (s_cons (s_set 7 sc_law.nd (m_call (ok_fillings (K := K) E) (hr.mono (by decide)) E.g_fillings pA0 (fun _ _ => .nil) (m_cons (m_var 9) m_nil)))
      (s_cons (s_if (PW.pt (m_por (m_tnot (m_tst (m_isB (clsOk E) (.inr (.inr (.inr (.inr rfl)))) E.g_isinstance E.g_tuple bt_tuple (m_var 7)))) (m_por1 (m_tcmp (q_ne hu) oNe_ok (m_lc (own := [("_law_one", 3)]) (by rfl) sc_law.nd (i_seq (m_var 7)) (blkOk_by (own := [("_law_one", 3)]) (N := ["_law_script", "_law_deal_here", "_law_turn", "_law_one", "_law_told", "_law_some", "_law_choice", "_law_found", "_law_texts", "_law_made", "_law_known", "_law_story", "_law_spot"]) (sc := defScope s_law) (by decide +kernel)) (fun _ _ _ _ _ => (g_name 3 sc_law.nd)) (fun _ _ _ _ _ => (ts_one (m_tnot (m_tst (m_isC (is_Story E) E.b_Story E.g_isinstance E.g_Story (m_var 3)))))) (fun _ _ _ _ _ => (m_var 3))) (m_lst m_nil) (nomark _))))) (s_one (s_ret m_bl)) s_nil)
      (s_cons (s_set 8 sc_law.nd (m_lc (own := [("_law_one", 3)]) (by rfl) sc_law.nd (i_seq (m_var 7)) (blkOk_by (own := [("_law_one", 3)]) (N := ["_law_script", "_law_deal_here", "_law_turn", "_law_one", "_law_told", "_law_some", "_law_choice", "_law_found", "_law_texts", "_law_made", "_law_known", "_law_story", "_law_spot"]) (sc := defScope s_law) (by decide +kernel)) (fun _ _ _ _ _ => (g_name 3 sc_law.nd)) (fun _ _ _ _ _ => ts_nil) (fun _ _ _ _ _ => (m_fld (fc_occasions E) (m_var 3)))))
      (s_cons (s_if (PW.pt (m_por (m_tcmp (q_ne hu) oNe_ok (m_callB (q_lenA (K := K)) bLenA_ok E.g_len bt_len (m_cons (m_var 8) m_nil)) (m_lenN E.g_len (m_var 10)) (nomark _)) (m_por1 (m_tcmp (q_ne hu) oNe_ok (m_lc (own := [("_law_one", 3)]) (by rfl) sc_law.nd (i_seq (m_var 8)) (blkOk_by (own := [("_law_one", 3)]) (N := ["_law_script", "_law_deal_here", "_law_turn", "_law_one", "_law_told", "_law_some", "_law_choice", "_law_found", "_law_texts", "_law_made", "_law_known", "_law_story", "_law_spot"]) (sc := defScope s_law) (by decide +kernel)) (fun _ _ _ _ _ => (g_name 3 sc_law.nd)) (fun _ _ _ _ _ => (ts_one (m_tnotInN hu (m_var 3) (m_var 10)))) (fun _ _ _ _ _ => (m_var 3))) (m_lst m_nil) (nomark _))))) (s_one (s_ret m_bl)) s_nil)
      (s_cons (s_if (m_tcmp (q_ne hu) oNe_ok (m_lc (own := [("_law_spot", 12)]) (by rfl) sc_law.nd (i_range2 E.g_range (m_cons m_int (m_cons (m_callB (q_lenA (K := K)) bLenA_ok E.g_len bt_len (m_cons (m_var 8) m_nil)) m_nil))) (blkOk_by (own := [("_law_spot", 12)]) (N := ["_law_script", "_law_deal_here", "_law_turn", "_law_one", "_law_told", "_law_some", "_law_choice", "_law_found", "_law_texts", "_law_made", "_law_known", "_law_story", "_law_spot"]) (sc := defScope s_law) (by decide +kernel)) (fun _ _ _ _ _ => (g_name 12 sc_law.nd)) (fun _ _ _ _ _ => (ts_one (m_tnot (m_tcmp (q_ltD hu) oLtD_ok (m_ixA (hu1 hu) (m_var 8) (m_op op_sub oI_ok (m_var 12) m_int) (fun _ _ => rfl)) (m_ixA (hu1 hu) (m_var 8) (m_var 12) (fun _ _ => rfl)) (nomark _))))) (fun _ _ _ _ _ => (m_var 12))) (m_lst m_nil) (nomark _)) (s_one (s_ret m_bl)) s_nil)
      (s_one (s_if (m_tcmp (q_ne hu) oNe_ok (m_lc (own := [("_law_one", 3)]) (by rfl) sc_law.nd (i_seq (m_call (ok_fillings (K := K) E) (hr.mono (by decide)) E.g_fillings pA0 (fun _ _ => .nil) (m_cons (m_mk E.mk_Unsure (ok_Unsure___init__ (K := K) E) (hr.mono (by decide)) E.g_Unsure pA0 (fun _ _ => .nil) (m_cons (m_fld (fc_occasions E) (m_var 9)) m_nil)) m_nil))) (blkOk_by (own := [("_law_one", 3)]) (N := ["_law_script", "_law_deal_here", "_law_turn", "_law_one", "_law_told", "_law_some", "_law_choice", "_law_found", "_law_texts", "_law_made", "_law_known", "_law_story", "_law_spot"]) (sc := defScope s_law) (by decide +kernel)) (fun _ _ _ _ _ => (g_name 3 sc_law.nd)) (fun _ _ _ _ _ => ts_nil) (fun _ _ _ _ _ => (m_fld (fc_occasions E) (m_var 3)))) (m_var 8) (nomark _)) (s_one (s_ret m_bl)) s_nil)))))))))))))
      (s_cons (s_setLc 3 (own := [("_law_story", 11)]) (by rfl) sc_law.nd (sw_true rfl rfl rfl (by decide +kernel)) (i_seq (m_call (ok_fillings (K := K) E) (hr.mono (by decide)) E.g_fillings pA0 (fun _ _ => .nil) (m_cons (m_mk E.mk_Unsure (ok_Unsure___init__ (K := K) E) (hr.mono (by decide)) E.g_Unsure pA0 (fun _ _ => .nil) (m_cons (m_lst (m_cons (m_tup (m_cons m_int (m_cons m_int (m_cons m_str (m_cons m_int m_nil))))) (m_cons (m_tup (m_cons m_int (m_cons m_int (m_cons m_str (m_cons m_int m_nil))))) m_nil))) m_nil)) m_nil))) (blkOk_by (own := [("_law_story", 11)]) (N := ["_law_script", "_law_deal_here", "_law_turn", "_law_one", "_law_told", "_law_some", "_law_choice", "_law_found", "_law_texts", "_law_made", "_law_known", "_law_story", "_law_spot"]) (sc := defScope s_law) (by decide +kernel)) (fun _ _ _ _ _ => (g_name 11 sc_law.nd)) (fun _ _ _ _ _ => ts_nil) (fun _ _ _ _ _ => (m_fld (fc_occasions E) (m_var 11))))
      (s_one (s_ret (m_and (m_cmp (q_eq hu) oEq_ok (m_var 3) (m_lst (m_cons (m_tup (m_cons (m_tup (m_cons m_int (m_cons m_str (m_cons m_int m_nil)))) (m_cons (m_tup (m_cons m_int (m_cons m_str (m_cons m_int m_nil)))) m_nil))) (m_cons (m_tup (m_cons (m_tup (m_cons m_int (m_cons m_str (m_cons m_int m_nil)))) (m_cons (m_tup (m_cons m_int (m_cons m_str (m_cons m_int m_nil)))) m_nil))) m_nil))) (nomark _)) (m_one (m_cmp (q_eq hu) oEq_ok (m_callB (q_lenA (K := K)) bLenA_ok E.g_len bt_len (m_cons (m_call (ok_fillings (K := K) E) (hr.mono (by decide)) E.g_fillings pA0 (fun _ _ => .nil) (m_cons (m_mk E.mk_Unsure (ok_Unsure___init__ (K := K) E) (hr.mono (by decide)) E.g_Unsure pA0 (fun _ _ => .nil) (m_cons (m_tup m_nil) m_nil)) m_nil)) m_nil)) m_int (nomark _)))))))))) (by decide) hb h
end
end

end Tm

namespace Tm
open PySem PySem.Spec PyProof.Rows L2
noncomputable section

theorem atI_nat {α : Type} {l : List α} {i : Int} {x : α} (h : 0 ≤ i) (e : l[i.toNat]? = some x) : atI l i = some x := by
  have hl := (List.getElem?_eq_some_iff.mp e).1
  unfold atI ixN
  rw [if_pos h, if_pos (by omega)]
  exact e
theorem okRs_mem {n : Nat} : ∀ {l : List T}, okRs n l = true → ∀ x ∈ l, okR n x = true
  | t :: l, h, x, hx => by
    unfold okRs at h
    rw [Bool.and_eq_true] at h
    rcases List.mem_cons.mp hx with rfl | hx
    · exact h.1
    · exact okRs_mem h.2 x hx
theorem okRs_all {n : Nat} : ∀ {l : List T}, (∀ x ∈ l, okR n x = true) → okRs n l = true
  | [], _ => rfl
  | t :: l, h => by
    unfold okRs
    rw [Bool.and_eq_true]
    exact ⟨h t (List.mem_cons_self ..), okRs_all fun x hx => h x (List.mem_cons_of_mem _ hx)⟩
theorem v_neg (i : Int) : uNeg (.int i) = some (.int (-i)) := rfl
theorem v_eqI (i j : Int) : oEq (.int i) (.int j) = some (.bl (decide (i = j))) := rfl
theorem v_neI (i j : Int) : oNe (.int i) (.int j) = some (.bl (!decide (i = j))) := rfl
theorem v_isN_int (i : Int) : oIsN (.int i) .non = some (.bl false) := rfl
theorem v_isN_non : oIsN .non .non = some (.bl true) := rfl
theorem v_isN_str (i : Str) : oIsN (.str i) .non = some (.bl false) := rfl
theorem v_isN_tup (l : List T) : oIsN (.tup l) .non = some (.bl false) := rfl
theorem v_isN_lst (l : List T) : oIsN (.lst l) .non = some (.bl false) := rfl
theorem v_isN_obj (C : Str) (ns : List Str) (l : List T) : oIsN (.obj C ns l) .non = some (.bl false) := rfl
theorem v_notN_int (i : Int) : oNotN (.int i) .non = some (.bl true) := rfl
theorem v_notN_non : oNotN .non .non = some (.bl false) := rfl
theorem v_notN_str (i : Str) : oNotN (.str i) .non = some (.bl true) := rfl
theorem v_notN_tup (l : List T) : oNotN (.tup l) .non = some (.bl true) := rfl
theorem v_notN_lst (l : List T) : oNotN (.lst l) .non = some (.bl true) := rfl
theorem v_notN_obj (C : Str) (ns : List Str) (l : List T) : oNotN (.obj C ns l) .non = some (.bl true) := rfl
theorem v_addS {a b : Str} (h : a.length + b.length ≤ 1000000) : oAdd (.str a) (.str b) = some (.str (a ++ b)) := by
  show (if a.length + b.length ≤ 1000000 then some (T.str (a ++ b)) else none).or _ = _
  rw [if_pos h]
  rfl
theorem v_addL {a b : List T} (h : a.length + b.length ≤ 1000000) : oAdd (.lst a) (.lst b) = some (.lst (a ++ b)) := by
  show (if a.length + b.length ≤ 1000000 then some (T.lst (a ++ b)) else none) = _
  rw [if_pos h]
theorem orV_bl {S : St} (b : Bool) : orV none (some (.bl b)) S = .ok (.bl b) S := rfl
theorem vw_tup {S : St} (l : List T) : vw S (.tup l) = .tup l := rfl
theorem vw_int {S : St} (i : Int) : vw S (.int i) = .int i := rfl
theorem vw_str {S : St} (i : Str) : vw S (.str i) = .str i := rfl
theorem vw_non {S : St} : vw S .non = .non := rfl
theorem vw_bl {S : St} (b : Bool) : vw S (.bl b) = .bl b := rfl
theorem vw_obj {S : St} (C : Str) (ns : List Str) (l : List T) : vw S (.obj C ns l) = .obj C ns l := rfl
theorem seqT_tup (l : List T) : seqT (.tup l) = some l := rfl
theorem seqT_wt (l : List T) : seqT (.wt l) = some l := rfl
theorem v_lenS (ns : List Int) : bLenA [.scr ns] = some (.int ns.length) := rfl
theorem v_lenL (l : List T) : bLenA [.lst l] = some (.int l.length) := rfl
theorem v_lenT (l : List T) : bLenA [.tup l] = some (.int l.length) := rfl
theorem v_lenR (n : Nat) : bLenA [.ref n] = none := rfl
theorem v_abs (i : Int) : bAbs [.int i] = some (.int (if i < 0 then -i else i)) := rfl
theorem v_max (i j : Int) : bMax [.int i, .int j] = some (.int (max i j)) := by
  show some (T.int (if j > i then j else i)) = _
  congr 2
  omega
theorem v_min (i j : Int) : bMin [.int i, .int j] = some (.int (min i j)) := by
  show some (T.int (if j < i then j else i)) = _
  congr 2
  omega
theorem v_rng {j : Int} (h0 : 0 ≤ j) (h : j < 2 ^ 62) : fRng1 [.int j] = some (rgT 0 j.toNat) := by
  have b : -(2 ^ 62) ≤ j ∧ j < 2 ^ 62 := ⟨by omega, h⟩
  simp only [fRng1, b, and_self, if_true]
theorem rgT_length (lo : Int) (n : Nat) : (rgT lo n).length = n := by unfold rgT; simp
theorem ix_lst {S : St} {l : List T} {i : Int} {x : T} (h : 0 ≤ i) (e : l[i.toNat]? = some x) : ixR (.lst l) (.int i) S = .ok x S := ixR_of rfl (atI_nat h e)
theorem ix_any {S : St} {x z : T} {l : List T} {i : Nat} (h : seqT x = some l) (e : l[i]? = some z) : ixR x (.int (i : Nat)) S = .ok z S := by
  cases x <;> first | cases h | skip
  · exact ixR_of rfl (atI_nat (by omega) (by simpa using e))
  · exact ixR_of rfl (atI_nat (by omega) (by simpa using e))
  · exact ixR_of rfl (atI_nat (by omega) (by simpa using e))
  · exact ixR_of rfl (atI_nat (by omega) (by simpa using e))
theorem ix_l0 {S : St} {a0 : T} {l : List T} : ixR (.lst (a0 :: l)) (.int 0) S = .ok a0 S := ix_any (i := 0) rfl rfl
theorem ix_l1 {S : St} {a0 a1 : T} {l : List T} : ixR (.lst (a0 :: a1 :: l)) (.int 1) S = .ok a1 S := ix_any (i := 1) rfl rfl
theorem ix_l2 {S : St} {a0 a1 a2 : T} {l : List T} : ixR (.lst (a0 :: a1 :: a2 :: l)) (.int 2) S = .ok a2 S := ix_any (i := 2) rfl rfl
theorem ix_l3 {S : St} {a0 a1 a2 a3 : T} {l : List T} : ixR (.lst (a0 :: a1 :: a2 :: a3 :: l)) (.int 3) S = .ok a3 S := ix_any (i := 3) rfl rfl
theorem ix_l4 {S : St} {a0 a1 a2 a3 a4 : T} {l : List T} : ixR (.lst (a0 :: a1 :: a2 :: a3 :: a4 :: l)) (.int 4) S = .ok a4 S := ix_any (i := 4) rfl rfl
theorem ix_t0 {S : St} {a0 : T} {l : List T} : ixR (.tup (a0 :: l)) (.int 0) S = .ok a0 S := ix_any (i := 0) rfl rfl
theorem ix_t1 {S : St} {a0 a1 : T} {l : List T} : ixR (.tup (a0 :: a1 :: l)) (.int 1) S = .ok a1 S := ix_any (i := 1) rfl rfl
theorem ix_t2 {S : St} {a0 a1 a2 : T} {l : List T} : ixR (.tup (a0 :: a1 :: a2 :: l)) (.int 2) S = .ok a2 S := ix_any (i := 2) rfl rfl
theorem ix_t3 {S : St} {a0 a1 a2 a3 : T} {l : List T} : ixR (.tup (a0 :: a1 :: a2 :: a3 :: l)) (.int 3) S = .ok a3 S := ix_any (i := 3) rfl rfl
theorem ix_t4 {S : St} {a0 a1 a2 a3 a4 : T} {l : List T} : ixR (.tup (a0 :: a1 :: a2 :: a3 :: a4 :: l)) (.int 4) S = .ok a4 S := ix_any (i := 4) rfl rfl
theorem ix_w0 {S : St} {a0 : T} {l : List T} : ixR (.wt (a0 :: l)) (.int 0) S = .ok a0 S := ix_any (i := 0) rfl rfl
theorem ix_w1 {S : St} {a0 a1 : T} {l : List T} : ixR (.wt (a0 :: a1 :: l)) (.int 1) S = .ok a1 S := ix_any (i := 1) rfl rfl
theorem ix_w2 {S : St} {a0 a1 a2 : T} {l : List T} : ixR (.wt (a0 :: a1 :: a2 :: l)) (.int 2) S = .ok a2 S := ix_any (i := 2) rfl rfl
theorem ix_w3 {S : St} {a0 a1 a2 a3 : T} {l : List T} : ixR (.wt (a0 :: a1 :: a2 :: a3 :: l)) (.int 3) S = .ok a3 S := ix_any (i := 3) rfl rfl
theorem ix_w4 {S : St} {a0 a1 a2 a3 a4 : T} {l : List T} : ixR (.wt (a0 :: a1 :: a2 :: a3 :: a4 :: l)) (.int 4) S = .ok a4 S := ix_any (i := 4) rfl rfl
theorem vw_ref {S : St} {n : Nat} {l : List T} (h : S[n]? = some (.lst l)) : vw S (.ref n) = .lst l := by show unlk ((S[n]?).getD .non) = _; rw [h]; rfl
theorem sq_nat {j n : Nat} (h : j < n) : seqIndex? ((j : Nat) : Int) n = some j := by
  have h0 : ¬ ((j : Nat) : Int) < 0 := by omega
  have : (decide (0 ≤ ((j : Nat) : Int)) && decide (((j : Nat) : Int) < (n : Int))) = true := by simp; omega
  simp only [seqIndex?, h0, if_false, this, if_true, Int.toNat_natCast]
theorem lPopAt_nat {l : List T} {j : Nat} {x : T} (e : l[j]? = some x) (hj : j < 1000000) : lPopAt l [.int (j : Nat)] = some (x, l.eraseIdx j) := by
  have hl := (List.getElem?_eq_some_iff.mp e).1
  have b : -(2 ^ 63) ≤ ((j : Nat) : Int) ∧ ((j : Nat) : Int) < 2 ^ 63 := ⟨by omega, by omega⟩
  simp only [lPopAt, b, and_self, if_true, sq_nat hl, e]
theorem lmR_of {hh : List T → List T → Option (T × List T)} {c : Cf} {n : Nat} {S : St} {l ts l' : List T} {res : T} (h : S[n]? = some (.lst l)) (e : hh l ts = some (res, l')) (w : wrOk c n (.lst ts) = true) : lmR hh c n ts S = .ok res (S.set n (.lst l')) := by
  unfold lmR
  rw [h]
  dsimp only
  rw [e]
  dsimp only
  rw [if_pos w]
theorem wr_int {c : Cf} {n : Nat} {i : Int} (hf : c.fl ≤ n) : wrOk c n (.lst [.int i]) = true := by
  unfold wrOk
  simp only [hf, okR, okRs, decide_true, Bool.and_true, Bool.or_true]
theorem wr_own {c : Cf} {n : Nat} {t : T} (hf : c.fl ≤ n) (hn : c.n0 ≤ n) : wrOk c n t = true := by
  unfold wrOk
  simp only [hf, hn, decide_true, Bool.true_or, Bool.and_true]
theorem lm_popAt {c : Cf} {n : Nat} {S : St} {l : List T} {j : Nat} {x : T} (h : S[n]? = some (.lst l)) (e : l[j]? = some x) (hj : j < 1000000) (hf : c.fl ≤ n) : lmR lPopAt c n [.int (j : Nat)] S = .ok x (S.set n (.lst (l.eraseIdx j))) := lmR_of h (lPopAt_nat e hj) (wr_int hf)
theorem lApp_one {l : List T} {x : T} (hl : l.length < 1000000) : lApp l [x] = some (.non, l ++ [x]) := by
  simp only [lApp, hl, if_true]
theorem lm_app {c : Cf} {n : Nat} {S : St} {l : List T} {x : T} (h : S[n]? = some (.lst l)) (hl : l.length < 1000000) (hf : c.fl ≤ n) (hn : c.n0 ≤ n) : lmR lApp c n [x] S = .ok .non (S.set n (.lst (l ++ [x]))) := lmR_of h (lApp_one hl) (wr_own hf hn)
theorem vw_lst {S : St} (l : List T) : vw S (.lst l) = .lst l := rfl
theorem seqT_lst (l : List T) : seqT (.lst l) = some l := rfl
theorem orV_int {S : St} (i : Int) : orV none (some (.int i)) S = .ok (.int i) S := rfl
/-! cells behind older ones -/
theorem app_g0 {S l : St} : (S ++ l)[S.length]? = l[0]? := by rw [List.getElem?_append_right (Nat.le_refl _), Nat.sub_self]
theorem app_gn {S l : St} {j : Nat} : (S ++ l)[S.length + j]? = l[j]? := by rw [List.getElem?_append_right (Nat.le_add_right ..), Nat.add_sub_cancel_left]
theorem app_s0 {S l : St} {x : T} : (S ++ l).set S.length x = S ++ l.set 0 x := by rw [List.set_append_right (h := Nat.le_refl _), Nat.sub_self]
theorem app_sn {S l : St} {j : Nat} {x : T} : (S ++ l).set (S.length + j) x = S ++ l.set j x := by rw [List.set_append_right (h := Nat.le_add_right ..), Nat.add_sub_cancel_left]
mutual
/-- no locked cell in it -/
def nlk : T → Bool
  | .tup l => nlks l
  | .wt l => nlks l
  | .lst l => nlks l
  | .dK _ l => nlks l
  | .dT _ l => nlks l
  | .obj _ _ l => nlks l
  | .lk _ => false
  | .exc .. => false
  | .dN .. => false
  | _ => true
def nlks : List T → Bool
  | [] => true
  | t :: l => nlk t && nlks l
end
mutual
theorem fzT_id {fs : List T → Option (List T)} {n : Nat} {S : St} : ∀ {t : T}, okR n t = true → nlk t = true → fzT fs n S t = some t
  | .tup l, h, g => by unfold okR at h; unfold nlk at g; unfold fzT; rw [fzTs_id h g]; rfl
  | .wt l, h, g => by unfold okR at h; unfold nlk at g; unfold fzT; rw [fzTs_id h g]; rfl
  | .lst l, h, g => by unfold okR at h; unfold nlk at g; unfold fzT; rw [fzTs_id h g]; rfl
  | .dK _ l, h, g => by unfold okR at h; unfold nlk at g; unfold fzT; rw [fzTs_id h g]; rfl
  | .dT _ l, h, g => by unfold okR at h; unfold nlk at g; unfold fzT; rw [fzTs_id h g]; rfl
  | .obj _ _ l, h, g => by unfold okR at h; unfold nlk at g; unfold fzT; rw [fzTs_id h g]; rfl
  | .ref k, h, _ => by unfold okR at h; unfold fzT; exact if_pos (by simpa using h)
  | .lam _, _, _ => by unfold fzT; rfl
  | .lk _, _, g => by unfold nlk at g; cases g
  | .exc .., _, g => by unfold nlk at g; cases g
  | .dN .., _, g => by unfold nlk at g; cases g
  | .non, _, _ => by unfold fzT; rfl
  | .bl _, _, _ => by unfold fzT; rfl
  | .int _, _, _ => by unfold fzT; rfl
  | .str _, _, _ => by unfold fzT; rfl
  | .cls _, _, _ => by unfold fzT; rfl
  | .scr _, _, _ => by unfold fzT; rfl
  | .fn _, _, _ => by unfold fzT; rfl
theorem fzTs_id {fs : List T → Option (List T)} {n : Nat} {S : St} : ∀ {l : List T}, okRs n l = true → nlks l = true → fzTs fs n S l = some l
  | [], _, _ => by unfold fzTs; rfl
  | t :: l, h, g => by
    unfold okRs at h
    unfold nlks at g
    rw [Bool.and_eq_true] at h g
    unfold fzTs
    rw [fzT_id h.1 g.1, fzTs_id h.2 g.2]
end
theorem nlks_mem : ∀ {l : List T}, nlks l = true → ∀ x ∈ l, nlk x = true
  | t :: l, h, x, hx => by
    unfold nlks at h
    rw [Bool.and_eq_true] at h
    rcases List.mem_cons.mp hx with rfl | hx
    · exact h.1
    · exact nlks_mem h.2 x hx
theorem nlks_all : ∀ {l : List T}, (∀ x ∈ l, nlk x = true) → nlks l = true
  | [], _ => rfl
  | t :: l, h => by
    unfold nlks
    rw [Bool.and_eq_true]
    exact ⟨h t (List.mem_cons_self ..), nlks_all fun x hx => h x (List.mem_cons_of_mem _ hx)⟩
theorem fz_lst {n k : Nat} {S : St} {l : List T} (hk : n ≤ k) (h : S[k]? = some (.lst l)) (ok : okRs n l = true) (nl : nlks l = true) : fz n S (.ref k) = some (.lst l) := by
  have e : okR n (.ref k) = false := by unfold okR; simpa using hk
  unfold fz
  rw [if_neg (by rw [e]; decide)]
  unfold fzT
  rw [if_neg (by omega), h]
  show ((fzL 2 n S l).map T.lst) = _
  unfold fzL
  rw [fzTs_id ok nl]
  rfl
theorem endS_lst {S S' : St} {k : Nat} {l : List T} (hk : S.length ≤ k) (h : S'[k]? = some (.lst l)) (ok : okRs S.length l = true) (nl : nlks l = true) : endS S (.rt (.ref k) S') = .ok (.lst l) (S'.take S.length) := by
  show (match fz S.length S' (.ref k) with | some r => Rs.ok r (S'.take S.length) | none => .st) = _
  rw [fz_lst hk h ok nl]
theorem finP_lst {S S' : St} {k : Nat} {l : List T} (h : S'[k]? = some (.lst l)) (ok : okRs 0 l = true) (nl : nlks l = true) : finP (.rt (.ref k) S') S = .ok (.lst l) S := by
  show (match fz 0 S' (.ref k) with | some r => Rs.ok r S | none => .st) = _
  rw [fz_lst (Nat.zero_le _) h ok nl]
/-! a box of draws in the cell b -/
structure Box where
  g : Int
  n : Int
  g0 : 0 ≤ g
  n1 : 1 ≤ n
  n2 : n ≤ 2147483629
def Box.t (B : Box) : T := .lst [.int B.g, .int B.n]
def bx (S : St) (b : Nat) (B : Box) : St := S.set b B.t
section
variable {S l : St} {b i k : Nat} {B B' : Box} {x : T}
theorem bx_len : (bx S b B).length = S.length := List.length_set
end
def Box.raw (B : Box) : Int := (B.n * 40014 + 47) % 2147483563
def Box.n' (B : Box) : Int := (B.raw * 40692 + 3581) % 2147483629 + 1
def Box.val (B : Box) (m : Int) : Int := if 0 < B.g then B.g % m else ((B.raw * 2147483647 + B.n') / 8191) % m
/-- a thing at a place -/
def pick (l : List T) (i : Int) : T := l.getD i.toNat .non
theorem pick_get {l : List T} {i : Int} (h0 : 0 ≤ i) (h : i < l.length) : l[i.toNat]? = some (pick l i) := by
  have : i.toNat < l.length := by omega
  unfold pick
  rw [List.getD_eq_getElem?_getD, List.getElem?_eq_getElem this]
  rfl
theorem pick_mem {l : List T} {i : Int} (h0 : 0 ≤ i) (h : i < l.length) : pick l i ∈ l := List.mem_of_getElem? (pick_get h0 h)

end

end Tm

namespace Tm
open PySem PySem.Spec PyProof.Rows L2
noncomputable section

/-! further words for running -/
/-- an end that goes on, by what holds then -/
def Nx (I : Ro → St → Prop) (o : Ou) : Prop := ∃ ρ S, o = .nx ρ S ∧ I ρ S
theorem Nx.mk {I : Ro → St → Prop} {ρ : Ro} {S : St} (h : I ρ S) : Nx I (.nx ρ S) := ⟨ρ, S, rfl, h⟩
/-- a loop by an invariant, then what comes next -/
theorem for_then {g : Tg} {b : Sv} {c : Cf} {k : Ro → St → Ou} {P : Ou → Prop} (I : Ro → St → Prop) {l : List T} {ρ : Ro} {S : St} (h : I ρ S) (hk : ∀ x ∈ l, ∀ ρ S, I ρ S → ∃ ρ1 S1, g x c ρ S = some (ρ1, S1) ∧ Nx I (b c ρ1 S1)) (hP : ∀ ρ S, I ρ S → P (k ρ S)) : P (Ou.sq (forL g b l c ρ S) k) := by
  obtain ⟨ρ', S', e, h'⟩ := forL_inv I l h fun x hx ρ S hi => by
    obtain ⟨ρ1, S1, e1, ρ2, S2, e2, h2⟩ := hk x hx ρ S hi
    exact ⟨ρ1, S1, ρ2, S2, e1, e2, h2⟩
  rw [e]
  exact hP ρ' S' h'
/-! calls: not by unfolding, so that the kernel does not unfold the callee -/
section
variable {c : Cf} {ρ : Ro} {S : St} {x : T}
theorem e_callX {F : Fn} {ds ts : List T} : kCall F ds c ts S = F c (ts ++ ds) S := Eq.trans rfl (Eq.refl _)
theorem e_cmX {C : Str} {F : Fn} {ts : List T} : kCm C F c ts S = F c (.cls C :: ts) S := Eq.trans rfl (Eq.refl _)
theorem e_methX {Fm : Fn} {ds ts : List T} : kMeth2 Fm ds x c ts S = Fm c (x :: (ts ++ ds)) S := Eq.trans rfl (Eq.refl _)
theorem ap_callX {F : Fn} {ds : List T} : callF F ds c ρ S = F c ds S := Eq.trans rfl (Eq.refl _)
end
/-! cells in a row -/
end

end Tm

namespace Tm
open PySem PySem.Spec PyProof.Rows L2
local macro_rules | `(tactic| walk_at "nm") => `(tactic| simp (disch := first | assumption | (simp only [okR_non, okR_bl, okR_int, okR_str, okR_cls, okR_fn, okR_scr, okR_tup, okR_wt, okR_lst, okR_obj, okR_dK, okR_dT, okR_ref, okRs_nil, okRs_cons, Bool.and_true, Bool.true_and, Bool.and_self]; done) | (simp only [okR_non, okR_bl, okR_int, okR_str, okR_cls, okR_fn, okR_scr, okR_tup, okR_wt, okR_lst, okR_obj, okR_dK, okR_dT, okR_ref, okRs_nil, okRs_cons, Bool.and_true, Bool.true_and, Bool.and_self]; assumption) | (simp only [okR_tup, okR_lst, okR_obj, okRs_cons, okRs_nil, okR_int, okR_str, okR_non, okR_bl, okR_ref, Bool.and_true, Bool.true_and, Bool.and_self, *]; done) | decide | with_unfolding_all rfl | omega | (simp only [List.length_cons, List.length_nil, List.length_append, List.length_map, List.length_set, bx_len, Nat.reduceAdd, Nat.reduceLeDiff, Nat.reduceLT]; done) | (simp only [List.length_cons, List.length_nil, List.length_append, List.length_map, List.length_set, bx_len]; omega)) only [ap_runS, ap_runP, ap_runO, endS_nx, endO_nx, endS_rt, endO_rt, finP_nx, finP_rt, start0, bd_ok, ouE_ok, sq_nx, sq_rt, ap_sSeq, ap_sNext, ap_mC, orV_some, ap_mNil, ap_callF, bd_ex, ouE_ex, sq_ex, sq_br, sq_ct, optR_some, e_op, e_op1, e_op2, e_opF, e_opF1, e_opF2, e_un, e_un1, e_cons, e_cons1, e_cons2, e_b, e_b1, e_tst, e_tst1, e_notT, e_notT1, e_andT, e_andTt, e_andTf, e_orT, e_orTt, e_orTf, e_ifE, e_ifEt, e_ifEf, e_and, e_andt, e_andf, e_or, e_ort, e_orf, e_not, e_not1, e_ch, e_ch1, e_ch2, e_cht, e_chf, e_ch3, e_tup, e_tup1, e_lst, e_lst1, e_lstC, e_lstC1, e_dicK, e_dicT, e_forD, e_forDt, e_noXn, e_noXr, e_dcpC, e_dispT, e_dispT1, e_dispT2, e_lcD, e_lcDt, e_lcDR, e_call, e_call1, e_cm, e_cm1, e_ix, e_ix1, e_ix2, e_fld, e_fld1, e_meth, e_meth1, e_methO, e_meth2, e_mk, e_mkL, e_new, newR_ok, e_txt, e_txt1, e_txt2, e_sl, e_sl1, e_sl2, e_sl3, e_part, e_part1, e_noPart, e_listOf, e_listOf1, e_listC, e_listC1, e_listC2, tupOf_l, tupOf_t, e_tupOf, e_tupOf1, e_in, e_in1, e_in2, e_inN, e_inF, e_inT, e_getE, e_get, e_get1, e_getR, e_get2, e_get3, e_lm, e_lm1, e_lmG, e_lm2, e_star, e_star1, e_starR, e_star2, e_seq, e_seqL, e_seqT, e_seqW, e_seqN, e_seqR, e_seqC, e_seqS, e_seqS1, e_fixR, e_enum, e_enum1, e_enR, e_L, e_L1, e_lc, e_lc1, lcE_ok, lcS_fix, lcL_nil, e_yes, e_js0, e_js, e_js1, asgR_ok, e_asg, e_asg1, e_ret, e_ret1, e_expr, e_expr1, e_if, e_ift, e_iff, e_for, e_for1, e_forC, e_forE, e_enRr, e_enC, seqT_ref, putR_ok, e_itm, e_itm1, e_itm2, e_itm3, e_fldC, e_fldC1, e_fldC2, e_par2, e_par21, e_par3, e_par31, e_aug, e_cnt, e_cnt1, e_cnt2, e_addC, e_addC1, e_addC2, e_rev, e_rev1, e_revC, e_revC1, e_raise, e_raise1, endS_ex, endO_ex, finP_ex, mkR_ex, e_try, e_tryN, e_tryR, e_gTup, e_gTupL, e_gT0, e_gT1, e_gtR, e_gFld, e_gfV, e_gfR, ap_gNm, e_var, e_var1, e_forG, e_forKn, e_forKc, e_forKb, e_forKr, v_add, v_sub, v_neg, ix_l0, ix_l1, ix_l2, ix_l3, ix_l4, ix_t0, ix_t1, ix_t2, ix_t3, ix_t4, ix_w0, ix_w1, ix_w2, ix_w3, ix_w4, v_gt, v_lt, v_ge, v_le, v_int, v_max, v_min, v_mod, v_fdiv, v_lenS, v_lenL, v_lenT, v_lenR, v_eqI, v_neI, v_isN_int, v_isN_non, v_isN_str, v_isN_tup, v_isN_lst, v_isN_obj, v_notN_int, v_notN_non, v_notN_str, v_notN_tup, v_notN_lst, v_notN_obj, v_addS, v_addL, orV_int, orV_bl, vw_lst, vw_tup, vw_int, vw_str, vw_non, vw_obj, vw_bl, seqT_lst, seqT_tup, seqT_wt, v_abs, okR_non, okR_bl, okR_int, okR_str, okR_cls, okR_fn, okR_scr, okR_tup, okR_wt, okR_lst, okR_obj, okR_dK, okR_dT, okR_ref, okRs_nil, okRs_cons, List.length_append, List.append_assoc, List.map_cons, List.map_nil, List.length_cons, List.length_nil, List.cons_append, List.nil_append, List.append_nil, List.replicate_succ, List.replicate_zero, List.getElem?_cons_zero, List.getElem?_cons_succ, List.set_cons_zero, List.set_cons_succ, Nat.reduceAdd, Nat.reduceSub, Nat.reduceLT, Nat.reduceLeDiff, Int.cast_ofNat_Int, eq_self, Int.reduceEq, Int.reduceLT, Int.reduceLE, Int.reduceAdd, Int.reduceSub, Int.reduceMul, if_true, if_false, reduceIte, Bool.true_eq_false, Bool.false_eq_true, Bool.not_true, Bool.not_false, Bool.and_self, decide_true, decide_false, Option.getD_some, Option.getD_none, Option.map_some, Option.isSome_some, Option.isSome_none, List.length_set, List.take_of_length_le, Nat.le_refl, *])
local macro_rules | `(tactic| walk_at "nl") => `(tactic| simp (disch := first | assumption | (simp only [okR_non, okR_bl, okR_int, okR_str, okR_cls, okR_fn, okR_scr, okR_tup, okR_wt, okR_lst, okR_obj, okR_dK, okR_dT, okR_ref, okRs_nil, okRs_cons, Bool.and_true, Bool.true_and, Bool.and_self]; done) | (simp only [okR_non, okR_bl, okR_int, okR_str, okR_cls, okR_fn, okR_scr, okR_tup, okR_wt, okR_lst, okR_obj, okR_dK, okR_dT, okR_ref, okRs_nil, okRs_cons, Bool.and_true, Bool.true_and, Bool.and_self]; assumption) | (simp only [okR_tup, okR_lst, okR_obj, okRs_cons, okRs_nil, okR_int, okR_str, okR_non, okR_bl, okR_ref, Bool.and_true, Bool.true_and, Bool.and_self, *]; done) | decide | with_unfolding_all rfl | omega | (simp only [List.length_cons, List.length_nil, List.length_append, List.length_map, List.length_set, bx_len, Nat.reduceAdd, Nat.reduceLeDiff, Nat.reduceLT]; done) | (simp only [List.length_cons, List.length_nil, List.length_append, List.length_map, List.length_set, bx_len]; omega)) only [e_forS, e_forN, e_lcS, e_lcG, e_lcBt, e_lcBf, e_lcA, enT, ap_runS, ap_runP, ap_runO, endS_nx, endO_nx, endS_rt, endO_rt, finP_nx, finP_rt, start0, bd_ok, ouE_ok, sq_nx, sq_rt, ap_sSeq, ap_sNext, ap_mC, orV_some, ap_mNil, ap_callF, bd_ex, ouE_ex, sq_ex, sq_br, sq_ct, optR_some, e_op, e_op1, e_op2, e_opF, e_opF1, e_opF2, e_un, e_un1, e_cons, e_cons1, e_cons2, e_b, e_b1, e_tst, e_tst1, e_notT, e_notT1, e_andT, e_andTt, e_andTf, e_orT, e_orTt, e_orTf, e_ifE, e_ifEt, e_ifEf, e_and, e_andt, e_andf, e_or, e_ort, e_orf, e_not, e_not1, e_ch, e_ch1, e_ch2, e_cht, e_chf, e_ch3, e_tup, e_tup1, e_lst, e_lst1, e_lstC, e_lstC1, e_dicK, e_dicT, e_forD, e_forDt, e_noXn, e_noXr, e_dcpC, e_dispT, e_dispT1, e_dispT2, e_lcD, e_lcDt, e_lcDR, e_call, e_call1, e_cm, e_cm1, e_ix, e_ix1, e_ix2, e_fld, e_fld1, e_meth, e_meth1, e_methO, e_meth2, e_mk, e_mkL, e_new, newR_ok, e_txt, e_txt1, e_txt2, e_sl, e_sl1, e_sl2, e_sl3, e_part, e_part1, e_noPart, e_listOf, e_listOf1, e_listC, e_listC1, e_listC2, tupOf_l, tupOf_t, e_tupOf, e_tupOf1, e_in, e_in1, e_in2, e_inN, e_inF, e_inT, e_getE, e_get, e_get1, e_getR, e_get2, e_get3, e_lm, e_lm1, e_lmG, e_lm2, e_star, e_star1, e_starR, e_star2, e_seq, e_seqL, e_seqT, e_seqW, e_seqN, e_seqR, e_seqC, e_seqS, e_seqS1, e_fixR, e_enum, e_enum1, e_enR, e_L, e_L1, e_lc, e_lc1, lcE_ok, lcS_fix, lcL_nil, e_yes, e_js0, e_js, e_js1, asgR_ok, e_asg, e_asg1, e_ret, e_ret1, e_expr, e_expr1, e_if, e_ift, e_iff, e_for, e_for1, e_forC, e_forE, e_enRr, e_enC, seqT_ref, putR_ok, e_itm, e_itm1, e_itm2, e_itm3, e_fldC, e_fldC1, e_fldC2, e_par2, e_par21, e_par3, e_par31, e_aug, e_cnt, e_cnt1, e_cnt2, e_addC, e_addC1, e_addC2, e_rev, e_rev1, e_revC, e_revC1, e_raise, e_raise1, endS_ex, endO_ex, finP_ex, mkR_ex, e_try, e_tryN, e_tryR, e_gTup, e_gTupL, e_gT0, e_gT1, e_gtR, e_gFld, e_gfV, e_gfR, ap_gNm, e_var, e_var1, e_forG, e_forKn, e_forKc, e_forKb, e_forKr, v_add, v_sub, v_neg, ix_l0, ix_l1, ix_l2, ix_l3, ix_l4, ix_t0, ix_t1, ix_t2, ix_t3, ix_t4, ix_w0, ix_w1, ix_w2, ix_w3, ix_w4, v_gt, v_lt, v_ge, v_le, v_int, v_max, v_min, v_mod, v_fdiv, v_lenS, v_lenL, v_lenT, v_lenR, v_eqI, v_neI, v_isN_int, v_isN_non, v_isN_str, v_isN_tup, v_isN_lst, v_isN_obj, v_notN_int, v_notN_non, v_notN_str, v_notN_tup, v_notN_lst, v_notN_obj, v_addS, v_addL, orV_int, orV_bl, vw_lst, vw_tup, vw_int, vw_str, vw_non, vw_obj, vw_bl, seqT_lst, seqT_tup, seqT_wt, v_abs, okR_non, okR_bl, okR_int, okR_str, okR_cls, okR_fn, okR_scr, okR_tup, okR_wt, okR_lst, okR_obj, okR_dK, okR_dT, okR_ref, okRs_nil, okRs_cons, List.length_append, List.append_assoc, List.map_cons, List.map_nil, List.length_cons, List.length_nil, List.cons_append, List.nil_append, List.append_nil, List.replicate_succ, List.replicate_zero, List.getElem?_cons_zero, List.getElem?_cons_succ, List.set_cons_zero, List.set_cons_succ, Nat.reduceAdd, Nat.reduceSub, Nat.reduceLT, Nat.reduceLeDiff, Int.cast_ofNat_Int, eq_self, Int.reduceEq, Int.reduceLT, Int.reduceLE, Int.reduceAdd, Int.reduceSub, Int.reduceMul, if_true, if_false, reduceIte, Bool.true_eq_false, Bool.false_eq_true, Bool.not_true, Bool.not_false, Bool.and_self, decide_true, decide_false, Option.getD_some, Option.getD_none, Option.map_some, Option.isSome_some, Option.isSome_none, List.length_set, List.take_of_length_le, Nat.le_refl, *])
local macro_rules | `(tactic| dsimp! only [$ls,*]) => `(tactic| simp -implicitDefEqProofs (disch := first | assumption | (simp only [okR_non, okR_bl, okR_int, okR_str, okR_cls, okR_fn, okR_scr, okR_tup, okR_wt, okR_lst, okR_obj, okR_dK, okR_dT, okR_ref, okRs_nil, okRs_cons, Bool.and_true, Bool.true_and, Bool.and_self]; done) | (simp only [okR_non, okR_bl, okR_int, okR_str, okR_cls, okR_fn, okR_scr, okR_tup, okR_wt, okR_lst, okR_obj, okR_dK, okR_dT, okR_ref, okRs_nil, okRs_cons, Bool.and_true, Bool.true_and, Bool.and_self]; assumption) | (simp only [okR_tup, okR_lst, okR_obj, okRs_cons, okRs_nil, okR_int, okR_str, okR_non, okR_bl, okR_ref, Bool.and_true, Bool.true_and, Bool.and_self, *]; done) | decide | with_unfolding_all rfl | omega | (simp only [List.length_cons, List.length_nil, List.length_append, List.length_map, List.length_set, bx_len, Nat.reduceAdd, Nat.reduceLeDiff, Nat.reduceLT]; done) | (simp only [List.length_cons, List.length_nil, List.length_append, List.length_map, List.length_set, bx_len]; omega)) only [ap_runS, ap_runP, ap_runO, endS_nx, endO_nx, endS_rt, endO_rt, finP_nx, finP_rt, start0, bd_ok, ouE_ok, sq_nx, sq_rt, ap_sSeq, ap_sNext, ap_mC, orV_some, ap_mNil, ap_callX, bd_ex, ouE_ex, sq_ex, sq_br, sq_ct, optR_some, e_op, e_op1, e_op2, e_opF, e_opF1, e_opF2, e_un, e_un1, e_cons, e_cons1, e_cons2, e_b, e_b1, e_tst, e_tst1, e_notT, e_notT1, e_andT, e_andTt, e_andTf, e_orT, e_orTt, e_orTf, e_ifE, e_ifEt, e_ifEf, e_and, e_andt, e_andf, e_or, e_ort, e_orf, e_not, e_not1, e_ch, e_ch1, e_ch2, e_cht, e_chf, e_ch3, e_tup, e_tup1, e_lst, e_lst1, e_lstC, e_lstC1, e_dicK, e_dicT, e_forD, e_forDt, e_noXn, e_noXr, e_dcpC, e_dispT, e_dispT1, e_dispT2, e_lcD, e_lcDt, e_lcDR, e_call, e_callX, e_cm, e_cmX, e_ix, e_ix1, e_ix2, e_fld, e_fld1, e_meth, e_meth1, e_methO, e_methX, e_mk, e_mkL, e_new, newR_ok, e_txt, e_txt1, e_txt2, e_sl, e_sl1, e_sl2, e_sl3, e_part, e_part1, e_noPart, e_listOf, e_listOf1, e_listC, e_listC1, e_listC2, tupOf_l, tupOf_t, e_tupOf, e_tupOf1, e_in, e_in1, e_in2, e_inN, e_inF, e_inT, e_getE, e_get, e_get1, e_getR, e_get2, e_get3, e_lm, e_lm1, e_lmG, e_lm2, e_star, e_star1, e_starR, e_star2, e_seq, e_seqL, e_seqT, e_seqW, e_seqN, e_seqR, e_seqC, e_seqS, e_seqS1, e_fixR, e_enum, e_enum1, e_enR, e_L, e_L1, e_lc, e_lc1, lcE_ok, lcS_fix, lcL_nil, e_yes, e_js0, e_js, e_js1, asgR_ok, e_asg, e_asg1, e_ret, e_ret1, e_expr, e_expr1, e_if, e_ift, e_iff, e_for, e_for1, e_forC, e_forE, e_enRr, e_enC, seqT_ref, putR_ok, e_itm, e_itm1, e_itm2, e_itm3, e_fldC, e_fldC1, e_fldC2, e_par2, e_par21, e_par3, e_par31, e_aug, e_cnt, e_cnt1, e_cnt2, e_addC, e_addC1, e_addC2, e_rev, e_rev1, e_revC, e_revC1, e_raise, e_raise1, endS_ex, endO_ex, finP_ex, mkR_ex, e_try, e_tryN, e_tryR, e_gTup, e_gTupL, e_gT0, e_gT1, e_gtR, e_gFld, e_gfV, e_gfR, ap_gNm, e_var, e_var1, e_forG, e_forKn, e_forKc, e_forKb, e_forKr, v_add, v_sub, v_neg, ix_l0, ix_l1, ix_l2, ix_l3, ix_l4, ix_t0, ix_t1, ix_t2, ix_t3, ix_t4, ix_w0, ix_w1, ix_w2, ix_w3, ix_w4, v_gt, v_lt, v_ge, v_le, v_int, v_max, v_min, v_mod, v_fdiv, v_lenS, v_lenL, v_lenT, v_lenR, v_eqI, v_neI, v_isN_int, v_isN_non, v_isN_str, v_isN_tup, v_isN_lst, v_isN_obj, v_notN_int, v_notN_non, v_notN_str, v_notN_tup, v_notN_lst, v_notN_obj, v_addS, v_addL, orV_int, orV_bl, vw_lst, vw_tup, vw_int, vw_str, vw_non, vw_obj, vw_bl, seqT_lst, seqT_tup, seqT_wt, v_abs, okR_non, okR_bl, okR_int, okR_str, okR_cls, okR_fn, okR_scr, okR_tup, okR_wt, okR_lst, okR_obj, okR_dK, okR_dT, okR_ref, okRs_nil, okRs_cons, List.length_append, List.append_assoc, List.map_cons, List.map_nil, List.length_cons, List.length_nil, List.cons_append, List.nil_append, List.append_nil, List.replicate_succ, List.replicate_zero, List.getElem?_cons_zero, List.getElem?_cons_succ, List.set_cons_zero, List.set_cons_succ, Nat.reduceAdd, Nat.reduceSub, Nat.reduceLT, Nat.reduceLeDiff, Int.cast_ofNat_Int, eq_self, Int.reduceEq, Int.reduceLT, Int.reduceLE, Int.reduceAdd, Int.reduceSub, Int.reduceMul, if_true, if_false, reduceIte, Bool.true_eq_false, Bool.false_eq_true, Bool.not_true, Bool.not_false, Bool.and_self, decide_true, decide_false, Option.getD_some, Option.getD_none, Option.map_some, Option.isSome_some, Option.isSome_none, List.length_set, List.take_of_length_le, Nat.le_refl, $ls,*])

noncomputable section

/-! what a claim's course is, in plain words -/
abbrev Oc := Int × Str × Int
def tvT : Option Int → T
  | none => .non
  | some n => .int n
def occT (o : Oc) : T := .tup [.int o.1, .str o.2.1, .int o.2.2]
def storyT (s : List Oc) : T := .obj "Story" ["occasions"] [.tup (s.map occT)]
def capP (R : Rl) (e : Int) : Int := match R.cap with
  | none => e
  | some c => min e (c - 1)
def endU (R : Rl) (today left going : Int) : Int := workD R.rests (today + going + max 1 left - 1)
def lastP (R : Rl) (today left going : Int) : Int := capP R (endU R today left going)
/-- a course: today, what is left, how long it stands, how often each name counted, which ones counted -/
structure Co where
  today : Int
  rest : Int
  going : Int
  used : List (Str × Int)
  heard : List Int
def Co.fin (R : Rl) (C : Co) : Int := lastP R C.today C.rest C.going
def Co.new (R : Rl) : Co := ⟨0, R.length, 0, [], []⟩
/-! ### used -/
/-! ### days that go by -/
theorem endU_ge {R : Rl} {t l g : Int} (hg : 0 ≤ g) : t ≤ endU R t l g := by
  have := work_ge R.rests (t + g + max 1 l - 1)
  unfold endU
  omega
/-- a course that stands well -/
structure CoOk (R : Rl) (C : Co) : Prop where
  r : 0 ≤ C.rest
  g : 0 ≤ C.going
  t : C.today ≤ C.fin R
theorem CoOk.new {R : Rl} (h1 : 1 ≤ R.length) (h2 : ∀ c, R.cap = some c → 1 ≤ c) : CoOk R (Co.new R) := by
  refine ⟨by show 0 ≤ R.length; omega, by show (0 : Int) ≤ 0; omega, ?_⟩
  show 0 ≤ capP R (endU R 0 R.length 0)
  have := endU_ge (R := R) (t := 0) (l := R.length) (g := 0) (by omega)
  unfold capP
  split
  · exact this
  · rename_i c hc
    have := h2 c hc
    omega

end


noncomputable section

section
variable {c : Cf} {S : St}
theorem isNum_eq (i : Int) : F_is_number c [.int i] S = .ok (.bl (decide (0 ≤ i))) S := by rfl
theorem isLen_eq (i : Int) : F_is_length c [.int i] S = .ok (.bl (decide (1 ≤ i))) S := by rfl
theorem isSeq_l {l : List T} (h : okRs 0 l = true) : F_is_sequence c [.lst l] S = .ok (.bl true) S := by
  have e : fIsBs Cs_all ["list", "tuple"] (.lst l) = some (.bl true) := rfl
  unfold F_is_sequence b_is_sequence
  walk_at "nm"
theorem isSeq_t {l : List T} (h : okRs 0 l = true) : F_is_sequence c [.tup l] S = .ok (.bl true) S := by
  have e : fIsBs Cs_all ["list", "tuple"] (.tup l) = some (.bl true) := rfl
  unfold F_is_sequence b_is_sequence
  walk_at "nm"
theorem in_barred (z : Str) : oIn (.str z) T_BARRED = some (.bl (decide (z ∈ barred))) := by
  have e : inT (.str z) T_BARRED = some (inV (.str z) (barred.map V.str)) := rfl
  unfold oIn oInF
  rw [e, inV_str]
  rfl
theorem signs_in (k : Nat) (s : Str) : oIn (.str ⟨#[k]⟩) (.str s) = some (.bl (decide (k ∈ TL.tl s))) := by rfl
theorem v_lenStr {z : Str} (h : z.length ≤ 1000000) : bLenA [.str z] = some (.int z.length) := by
  show (if z.length ≤ 1000000 then some (T.int z.length) else none).or _ = _
  rw [if_pos h]
  rfl
theorem v_all {α : Type} (l : List α) (f : α → Bool) : bAll [.lst (l.map fun x => T.bl (f x))] = some (.bl (l.all f)) := by
  have e : (l.map fun x => T.bl (f x)) = (l.map f).map T.bl := by rw [List.map_map]; rfl
  show (toB (l.map fun x => T.bl (f x))).map _ = _
  rw [e, toB_map, Option.map_some, List.all_map]
  rfl
/-- signs of a text, each asked -/
theorem lc_signs {z : Str} (hz : z.length ≤ 1000000) (s : Str) (f : Nat → Bool) (hf : ∀ k, decide (k ∈ TL.tl s) = f k) (o : Option T) : lcL (gNm 1) mYes (mInA false oIn (mVar 1) (mC (.str s))) (z.cps.toList.map fun c => T.str ⟨#[c]⟩) [] ⟨0, 0⟩ [some (.str z), o] [] = .ok ((TL.tl z).map fun k => T.bl (f k)) [] := by
  rw [lcL_map (fun t => match t with | .str a => .bl (f (a.cps.toList.headD 0)) | _ => .non) _ [] (by rw [List.length_map, List.length_nil, Nat.zero_add]; exact hz) (fun x hx => ?_)]
  · rw [List.map_map]
    rfl
  · obtain ⟨k, hk, rfl⟩ := List.mem_map.mp hx
    refine ⟨_, rfl, ?_⟩
    have e := signs_in k s
    rw [hf] at e
    have d : dictGet (.str s) (.str ⟨#[k]⟩) = none := rfl
    walk_at "nm"
    rfl
theorem isName_eq (z : Str) (hz : z.length ≤ 1000000) : F_is_name c [.str z] S = .ok (.bl (nameB z)) S := by
  have lc := lc_signs hz "abcdefghijklmnopqrstuvwxyz" letterB letter_mem none
  have e1 : fIsB Cs_all "str" (.str z) = some (.bl true) := rfl
  have e2 : vw [] T_BARRED = T_BARRED := rfl
  have e3 : dictGet T_BARRED (.str z) = none := rfl
  have e4 := in_barred z
  have e5 := v_lenStr hz
  have e6 := v_all (TL.tl z) letterB
  have w : wipeS [1] [some (.str z), none] = [some (.str z), none] := rfl
  unfold F_is_name b_is_name
  by_cases hb : z ∈ barred
  · have e : nameB z = false := by simp [nameB, hb]
    have d : decide (z ∈ barred) = true := decide_eq_true hb
    clear lc e6
    walk_at "nm"
  · have d : decide (z ∈ barred) = false := decide_eq_false hb
    by_cases h1 : 1 ≤ z.length
    · have d1 : decide ((1 : Int) ≤ (z.length : Int)) = true := decide_eq_true (by omega)
      by_cases h2 : z.length ≤ 4
      · have d2 : decide ((z.length : Int) ≤ 4) = true := decide_eq_true (by omega)
        have e : nameB z = (TL.tl z).all letterB := by simp [nameB, hb, h1, h2]
        rw [e]
        clear e hb
        walk_at "nm"
      · have d2 : decide ((z.length : Int) ≤ 4) = false := decide_eq_false (by omega)
        have e : nameB z = false := by simp [nameB, h2]
        clear lc e6
        walk_at "nm"
    · have d1 : decide ((1 : Int) ≤ (z.length : Int)) = false := decide_eq_false (by omega)
      have e : nameB z = false := by simp [nameB, h1]
      clear lc e6
      walk_at "nm"
end

end


noncomputable section

section
variable {c : Cf} {S : St}
theorem nameB_le {z : Str} (h : nameB z = true) : z.length ≤ 1000000 := Nat.le_trans (nameB_len h) (by decide)
end

end


noncomputable section

section
variable {c : Cf} {S : St}
end

end


noncomputable section

section
variable {c : Cf} {S : St}
/-! a pure def that is given a cell -/
/-! walks over a cell that stays -/
/-! dict comprehensions -/
end

end


noncomputable section

section
variable {c : Cf} {S : St}
/-! ### stories -/
structure OcOk (o : Oc) : Prop where
  d : 0 ≤ o.1
  n : nameB o.2.1 = true
  m : 1 ≤ o.2.2
/-- days that never fall -/
def Asc : Int → List Oc → Prop
  | _, [] => True
  | d, o :: l => d ≤ o.1 ∧ Asc o.1 l
theorem okR_occ {n : Nat} {o : Oc} : okR n (occT o) = true := by
  unfold occT
  simp only [okR_tup, okRs_cons, okRs_nil, okR_int, okR_str, Bool.and_self]
theorem okRs_occs {n : Nat} (s : List Oc) : okRs n (s.map occT) = true := okRs_all fun x hx => by
  obtain ⟨i, _, rfl⟩ := List.mem_map.mp hx
  exact okR_occ
theorem okR_story {n : Nat} {s : List Oc} : okR n (storyT s) = true := by
  have o1 := okRs_occs (n := n) s
  unfold storyT
  simp only [okR_obj, okRs_cons, okRs_nil, okR_tup, o1, Bool.and_self]
theorem isOcc_eq {o : Oc} (ok : OcOk o) : F_is_occasion c [occT o] S = .ok (.bl true) S := by
  have e1 : ∀ c S, F_is_number c [.int o.1] S = .ok (.bl true) S := fun c S => by rw [isNum_eq, decide_eq_true ok.d]
  have e2 : ∀ c S, F_is_name c [.str o.2.1] S = .ok (.bl true) S := fun c S => by rw [isName_eq _ (nameB_le ok.n), ok.n]
  have e3 : ∀ c S, F_is_length c [.int o.2.2] S = .ok (.bl true) S := fun c S => by rw [isLen_eq, decide_eq_true ok.m]
  have e4 : fIsB Cs_all "tuple" (.tup [.int o.1, .str o.2.1, .int o.2.2]) = some (.bl true) := rfl
  unfold occT F_is_occasion b_is_occasion
  generalize F_is_number = Fa at *
  generalize F_is_name = Fb at *
  generalize F_is_length = Fc at *
  walk_at "nm"
theorem need_for (a0 : Option T) : ∀ (s : List Oc) (i : Nat) (d : Int) (o2 o3 : Option T), (∀ o ∈ s, OcOk o) → Asc d s → ∃ d' o2' o3', forL (gTup [(gNm 2), (gNm 3)]) L_need_occasions_1 (enT i (s.map occT)) ⟨0, 0⟩ [a0, some (.int d), o2, o3] [] = .nx [a0, some (.int d'), o2', o3'] []
  | [], i, d, o2, o3, _, _ => ⟨d, o2, o3, rfl⟩
  | o :: s, i, d, o2, o3, ok, as => by
    obtain ⟨d', o2', o3', h⟩ := need_for a0 s (i + 1) o.1 (some (.int i)) (some (occT o)) (fun x hx => ok x (List.mem_cons_of_mem _ hx)) as.2
    refine ⟨d', o2', o3', ?_⟩
    have e1 : ∀ c S, F_is_occasion c [occT o] S = .ok (.bl true) S := fun c S => isOcc_eq (ok o (List.mem_cons_self ..))
    have e2 : ∀ S, ixR (occT o) (.int 0) S = .ok (.int o.1) S := fun S => ix_t0
    have e3 : decide (o.1 < d) = false := decide_eq_false (by have := as.1; omega)
    have o1 : okR 0 (occT o) = true := okR_occ
    rw [List.map_cons]
    show forL _ _ (T.tup [.int i, occT o] :: enT (i + 1) (s.map occT)) _ _ _ = _
    rw [e_forS]
    have e : gTup [gNm 2, gNm 3] (T.tup [.int i, occT o]) ⟨0, 0⟩ [a0, some (.int d), o2, o3] [] = some ([a0, some (.int d), some (.int i), some (occT o)], []) := by rfl
    have b : L_need_occasions_1 ⟨0, 0⟩ [a0, some (.int d), some (.int i), some (occT o)] [] = .nx [a0, some (.int o.1), some (.int i), some (occT o)] [] := by
      clear h e ok as
      generalize occT o = t at *
      unfold L_need_occasions_1
      generalize F_is_occasion = Fa at *
      walk_at "nm"
    rw [e, e_forG, b, e_forKn]
    exact h
theorem needL_eq {s : List Oc} (ok : ∀ o ∈ s, OcOk o) (as : Asc 0 s) : F_need_occasions c [.lst (s.map occT)] S = .ok (.tup (s.map occT)) S := by
  have o1 := okRs_occs (n := 0) s
  have e1 : ∀ c S, F_is_sequence c [.lst (s.map occT)] S = .ok (.bl true) S := fun c S => isSeq_l o1
  obtain ⟨d, o2, o3, h⟩ := need_for (some (.lst (s.map occT))) s 0 0 none none ok as
  generalize s.map occT = l at *
  clear ok as
  unfold F_need_occasions b_need_occasions
  generalize F_is_sequence = Fa at *
  generalize L_need_occasions_1 = Lb at *
  walk_at "nm"
/-- a story that is made of something -/
theorem mk_story {s : List Oc} {x : T} (e : ∀ c o, F_need_occasions c [x] (S ++ [o]) = .ok (.tup (s.map occT)) (S ++ [o])) : kMk "Story" F_Story___init__ [] [x] S = .ok (storyT s) S := by
  have e := e ⟨S.length, S.length⟩ (.obj "Story" [] [])
  have p : fldPut ["Story", "Unsure"] "occasions" ⟨S.length, S.length⟩ (.ref S.length) (.tup (s.map occT)) (S ++ [.obj "Story" [] []]) = some (S ++ [storyT s]) := by
    have w : wrOk ⟨S.length, S.length⟩ S.length (.tup (s.map occT)) = true := wr_own (Nat.le_refl _) (Nat.le_refl _)
    unfold fldPut
    dsimp only
    rw [app_g0]
    show (if ("Story" : Str) ∈ (["Story", "Unsure"] : List Str) ∧ ([] : List Str).length < 1000 ∧ wrOk ⟨S.length, S.length⟩ S.length (.tup (s.map occT)) = true then some ((S ++ [T.obj "Story" [] []]).set S.length (.obj "Story" (putN "occasions" (.tup (s.map occT)) [] []).1 (putN "occasions" (.tup (s.map occT)) [] []).2)) else none) = _
    rw [if_pos ⟨List.mem_cons_self .., by decide, w⟩, app_s0]
    rfl
  have q : mkR S (.ok .non (S ++ [storyT s])) = .ok (storyT s) S := mkR_ok (by rw [app_g0]; rfl) (by
    have o1 := okRs_occs (n := S.length) s
    simp only [okRs_cons, okRs_nil, okR_tup, o1, Bool.and_self])
  rw [e_mk1]
  generalize storyT s = st at *
  generalize s.map occT = l at *
  unfold F_Story___init__ b_Story___init__
  generalize F_need_occasions = Fa at *
  generalize S ++ [T.obj "Story" [] []] = S1 at *
  generalize S ++ [st] = S2 at *
  walk_at "nm"
end

end


noncomputable section

section
def DT (t : T) : Prop := ∃ d, toD t = some d ∧ DOk 60 d
theorem DT.all : ∀ {l : List T}, (∀ t ∈ l, DT t) → ∃ ds, toDs l = some ds ∧ (∀ d ∈ ds, DOk 60 d) ∧ ds.length = l.length
  | [], _ => ⟨[], rfl, (fun _ h => by cases h), rfl⟩
  | t :: l, h => by
    obtain ⟨d, e, hd⟩ := h t (List.mem_cons_self ..)
    obtain ⟨ds, e2, hds, hl⟩ := DT.all fun x hx => h x (List.mem_cons_of_mem _ hx)
    refine ⟨d :: ds, ?_, ?_, by simp [hl]⟩
    · unfold toDs
      rw [e, e2]
    · intro x hx
      rcases List.mem_cons.mp hx with rfl | hx
      · exact hd
      · exact hds x hx
theorem eqD_nil {l : List T} (h : ∀ t ∈ l, DT t) : eqD (.lst l) (.lst []) = some l.isEmpty := by
  obtain ⟨ds, e, hd, hl⟩ := DT.all h
  unfold eqD
  have a1 : toD (.lst l) = some (.list ds) := by
    unfold toD
    rw [e]
    rfl
  have a2 : toD (.lst []) = some (.list []) := rfl
  rw [a1, a2]
  dsimp only
  rw [if_pos ⟨shaped_of (dok_lst hd) (by decide), by decide +kernel⟩]
  cases ds with
  | nil =>
    cases l with
    | nil => rfl
    | cons t l => simp at hl
  | cons d ds =>
    cases l with
    | nil => simp at hl
    | cons t l =>
      show some (PyData.eqvAll (d :: ds) []) = _
      simp [PyData.eqvAll]
theorem ne_nil {l : List T} (h : ∀ t ∈ l, DT t) : oNe (.lst l) (.lst []) = some (.bl (!l.isEmpty)) := by
  have e2 := eqD_nil h
  unfold oNe oNeD
  rw [e2]
  rfl
theorem DT.int (i : Int) : DT (.int i) := ⟨_, rfl, (dok_int i).up (by decide)⟩
theorem DT.str {z : Str} (h : PyData.strOk z = true) : DT (.str z) := ⟨_, rfl, (dok_str h).up (by decide)⟩
theorem DT.non : DT .non := ⟨_, rfl, dok_non.up (by decide)⟩
theorem eqD_refl {t : T} {d : PyData} {n : Nat} (e : toD t = some d) (h : DOk n d) (hn : n ≤ 64) : eqD t t = some true := by
  have hs := shaped_of h hn
  unfold eqD
  rw [e]
  dsimp only
  rw [if_pos ⟨hs, hs⟩, SeqAt.eqv_refl _ h.1]
end

end


noncomputable section

/-- a source of draws: the great cells (the last one first), the blend; it stands in the cells 0 and 1 -/
structure Dl where
  l : List Int
  r : Int
  len : l.length ≤ 1000
def dlS (D : Dl) (R : St) : St := .lst (D.l.map T.int) :: .lst [.ref 0, .int D.r] :: R
section
variable {c : Cf} {D D' : Dl} {R R' : St} {x : T} {i : Int} {n0 : Nat}
theorem dl_len : (dlS D R).length = R.length + 2 := rfl
theorem dl_r {k : Nat} : (dlS D R)[k + 2]? = R[k]? := rfl
theorem dl_app {l : St} : dlS D R ++ l = dlS D (R ++ l) := rfl
theorem dl_take {k : Nat} : (dlS D R).take (k + 2) = dlS D (R.take k) := rfl
theorem dl_takeA {l : St} : (dlS D (R ++ l)).take (R.length + 2) = dlS D R := by
  rw [dl_take, List.take_left]
theorem dl_set {k : Nat} : (dlS D R).set (k + 2) x = dlS D (R.set k x) := rfl
theorem vw_dl0 : vw (dlS D R) (.ref 0) = .lst (D.l.map T.int) := rfl
theorem ix_dl0 : ixR (.ref 1) (.int 0) (dlS D R) = .ok (.ref 0) (dlS D R) := ixR_of rfl rfl
theorem ix_dl1 : ixR (.ref 1) (.int 1) (dlS D R) = .ok (.int D.r) (dlS D R) := ixR_of rfl rfl
theorem put_dl1 {D' : Dl} (h : D'.l = D.l) : itmPut ⟨0, n0⟩ (.ref 1) (.int 1) (.int D'.r) (dlS D R) = some (dlS D' R) := by
  have w : wrOk ⟨0, n0⟩ 1 (.int D'.r) = true := by unfold wrOk; simp [okR]
  show (if wrOk ⟨0, n0⟩ 1 (.int D'.r) = true then _ else none) = _
  rw [if_pos w]
  show some _ = some _
  unfold dlS
  rw [h]
  rfl
theorem ne_dl : oNe (.ref 0) (.lst []) = none ∧ oNe (.lst (D.l.map T.int)) (.lst []) = some (.bl (!(D.l.map T.int).isEmpty)) := ⟨rfl, ne_nil fun t ht => by
  obtain ⟨i, _, rfl⟩ := List.mem_map.mp ht
  exact DT.int i⟩
theorem lPop_int {l : List Int} {i : Int} : lPop ((l ++ [i]).map T.int) [] = some (.int i, l.map T.int) := by
  rw [List.map_append, List.map_cons, List.map_nil]
  unfold lPop
  simp
theorem pop_dl {l : List Int} {r : Int} {hl : (l ++ [i]).length ≤ 1000} {hl' : l.length ≤ 1000} : lmR lPop ⟨0, n0⟩ 0 [] (dlS ⟨l ++ [i], r, hl⟩ R) = .ok (.int i) (dlS ⟨l, r, hl'⟩ R) :=
  (lmR_of (n := 0) (S := dlS ⟨l ++ [i], r, hl⟩ R) rfl lPop_int (by unfold wrOk; simp [okR, okRs])).trans rfl
theorem app_dl {l : List Int} {r : Int} {hl : l.length ≤ 1000} {hl' : (l ++ [i]).length ≤ 1000} : lmR lApp ⟨0, n0⟩ 0 [.int i] (dlS ⟨l, r, hl⟩ R) = .ok .non (dlS ⟨l ++ [i], r, hl'⟩ R) := by
  refine (lmR_of (n := 0) (S := dlS ⟨l, r, hl⟩ R) rfl (lApp_one (by rw [List.length_map]; exact Nat.lt_of_le_of_lt hl (by decide))) (by unfold wrOk; simp [okR, okRs])).trans ?_
  show Rs.ok T.non (.lst (l.map T.int ++ [.int i]) :: _) = Rs.ok T.non (.lst ((l ++ [i]).map T.int) :: _)
  rw [List.map_append]
  rfl
theorem last_dl {l : List Int} {r : Int} {hl : (l ++ [i]).length ≤ 1000} : ixR (.ref 0) (.int (-1)) (dlS ⟨l ++ [i], r, hl⟩ R) = .ok (.int i) (dlS ⟨l ++ [i], r, hl⟩ R) := by
  refine ixR_of rfl ?_
  show atI ((l ++ [i]).map T.int) (-1) = _
  have e : (-1 + ((l.length : Int) + 1)).toNat = l.length := by omega
  have e2 : (1 : Int) ≤ (l.length : Int) + 1 := by omega
  unfold atI ixN
  rw [List.map_append, List.map_cons, List.map_nil]
  simp [e, e2]
end
section
theorem strip_eq {m : T} {o : Option T} {R : St} {n0 : Nat} {r : Int} : ∀ (n : Nat) (l : List Int) (hl : l.length ≤ 1000), l.length < n → ∃ l', ∃ hl' : l'.length ≤ 1000, l'.length ≤ l.length ∧ whL (mAndT (mTst (mOp oNe (mIxA (mVar 0) (mC (.int 0))) (mLst mNil))) (mTst (mOp oEq (mIxA (mIxA (mVar 0) (mC (.int 0))) (mUn uNeg (mC (.int 1)))) (mC (.int 0))))) L__law_draw_1 n ⟨0, n0⟩ [some (.ref 1), some m, o] (dlS ⟨l, r, hl⟩ R) = .nx [some (.ref 1), some m, o] (dlS ⟨l', r, hl'⟩ R)
  | 0, l, hl, h => absurd h (Nat.not_lt_zero _)
  | n + 1, l, hl, h => by
    have i0 := ix_dl0 (D := ⟨l, r, hl⟩) (R := R)
    obtain ⟨q1, q2⟩ := ne_dl (D := ⟨l, r, hl⟩)
    have v0 := vw_dl0 (D := ⟨l, r, hl⟩) (R := R)
    dsimp only at q1 q2 v0
    rcases List.eq_nil_or_concat l with rfl | ⟨ns, x, rfl⟩
    · refine ⟨[], hl, Nat.le_refl _, ?_⟩
      have t : (mAndT (mTst (mOp oNe (mIxA (mVar 0) (mC (.int 0))) (mLst mNil))) (mTst (mOp oEq (mIxA (mIxA (mVar 0) (mC (.int 0))) (mUn uNeg (mC (.int 1)))) (mC (.int 0))))) ⟨0, n0⟩ [some (.ref 1), some m, o] (dlS ⟨[], r, hl⟩ R) = .ok false (dlS ⟨[], r, hl⟩ R) := by
        have q2 : oNe (.lst []) (.lst []) = some (.bl false) := q2
        generalize dlS ⟨[], r, hl⟩ R = S at *
        walk_at "nm"
      unfold whL
      rw [t]
    · have hc : ns.concat x = ns ++ [x] := List.concat_eq_append
      rw [hc] at h
      simp only [hc] at i0 q1 q2 v0 ⊢
      have hl2 : (ns ++ [x]).length ≤ 1000 := hc ▸ hl
      have hn : ns.length ≤ 1000 := by rw [List.length_append] at hl2; omega
      have i1 := last_dl (i := x) (l := ns) (r := r) (hl := hl2) (R := R)
      have q3 : (!((ns ++ [x]).map T.int).isEmpty) = true := by simp
      rw [q3] at q2
      have q4 := v_eqI x 0
      by_cases hx : x = 0
      · have t : (mAndT (mTst (mOp oNe (mIxA (mVar 0) (mC (.int 0))) (mLst mNil))) (mTst (mOp oEq (mIxA (mIxA (mVar 0) (mC (.int 0))) (mUn uNeg (mC (.int 1)))) (mC (.int 0))))) ⟨0, n0⟩ [some (.ref 1), some m, o] (dlS ⟨ns ++ [x], r, hl2⟩ R) = .ok true (dlS ⟨ns ++ [x], r, hl2⟩ R) := by
          rw [decide_eq_true hx] at q4
          generalize dlS ⟨ns ++ [x], r, hl2⟩ R = S at *
          clear hx
          walk_at "nm"
        have b : L__law_draw_1 ⟨0, n0⟩ [some (.ref 1), some m, o] (dlS ⟨ns ++ [x], r, hl2⟩ R) = .nx [some (.ref 1), some m, o] (dlS ⟨ns, r, hn⟩ R) := by
          have p := pop_dl (n0 := n0) (i := x) (l := ns) (r := r) (hl := hl2) (hl' := hn) (R := R)
          have g0 : (dlS ⟨ns ++ [x], r, hl2⟩ R)[0]? = some (.lst ((ns ++ [x]).map T.int)) := rfl
          generalize dlS ⟨ns ++ [x], r, hl2⟩ R = S at *
          generalize dlS ⟨ns, r, hn⟩ R = S' at *
          unfold L__law_draw_1
          generalize lPop = P at *
          clear hx q4
          walk_at "nm"
        obtain ⟨l', hl', hle, e⟩ := strip_eq (m := m) (o := o) (R := R) (n0 := n0) (r := r) n ns hn (by rw [List.length_append] at h; simp at h; omega)
        refine ⟨l', hl', by rw [List.length_append]; omega, ?_⟩
        unfold whL
        rw [t]
        dsimp only
        rw [b]
        exact e
      · have t : (mAndT (mTst (mOp oNe (mIxA (mVar 0) (mC (.int 0))) (mLst mNil))) (mTst (mOp oEq (mIxA (mIxA (mVar 0) (mC (.int 0))) (mUn uNeg (mC (.int 1)))) (mC (.int 0))))) ⟨0, n0⟩ [some (.ref 1), some m, o] (dlS ⟨ns ++ [x], r, hl2⟩ R) = .ok false (dlS ⟨ns ++ [x], r, hl2⟩ R) := by
          rw [decide_eq_false hx] at q4
          generalize dlS ⟨ns ++ [x], r, hl2⟩ R = S at *
          clear hx
          walk_at "nm"
        refine ⟨ns ++ [x], hl2, Nat.le_refl _, ?_⟩
        unfold whL
        rw [t]
/-- a draw: a number below m, the source goes on -/
theorem drawA_eq {D : Dl} {R : St} {n0 : Nat} {m : Int} (hm : 0 < m) (hm2 : m < 2 ^ 200) : ∃ v D', 0 ≤ v ∧ v < m ∧ F__law_draw ⟨0, n0⟩ [.ref 1, .int m] (dlS D R) = .ok (.int v) (dlS D' R) := by
  obtain ⟨l, r, hl⟩ := D
  obtain ⟨l', hl', hle, ew⟩ := strip_eq (m := .int m) (o := none) (R := R) (n0 := R.length + 2) (r := r) (l.length + 1) l hl (by omega)
  have ew2 : sWhile (mAndT (mTst (mOp oNe (mIxA (mVar 0) (mC (.int 0))) (mLst mNil))) (mTst (mOp oEq (mIxA (mIxA (mVar 0) (mC (.int 0))) (mUn uNeg (mC (.int 1)))) (mC (.int 0))))) L__law_draw_1 ⟨0, R.length + 2⟩ [some (.ref 1), some (.int m), none] (dlS ⟨l, r, hl⟩ R) = .nx [some (.ref 1), some (.int m), none] (dlS ⟨l', r, hl'⟩ R) := by
    unfold sWhile
    rw [whL_le (n := l.length + 1) (by rw [ew]; intro z; cases z) (by unfold whLine; omega)]
    exact ew
  clear ew
  have i0 := ix_dl0 (D := ⟨l', r, hl'⟩) (R := R)
  obtain ⟨q1, q2⟩ := ne_dl (D := ⟨l', r, hl'⟩)
  have v0 := vw_dl0 (D := ⟨l', r, hl'⟩) (R := R)
  dsimp only at q1 q2 v0
  have ln : (dlS ⟨l, r, hl⟩ R).length = R.length + 2 := rfl
  have tk : ∀ D : Dl, (dlS D R).take (R.length + 2) = dlS D R := fun D => by rw [dl_take, List.take_length]
  rcases List.eq_nil_or_concat l' with rfl | ⟨ns, x, rfl⟩
  · have q2 : oNe (.lst []) (.lst []) = some (.bl false) := q2
    have m1 : oMul (.int r) (.int 48271) = some (.int (r * 48271)) := v_mulR (by decide) (by decide)
    have f1 : ∀ x : Int, oFdiv (.int x) (.int 8) = some (.int (x / 8)) := fun x => v_fdiv (by decide) (by decide)
    have p1 := put_dl1 (n0 := R.length + 2) (R := R) (D := ⟨[], r, hl'⟩) (D' := ⟨[], (r * 48271 + 31) % 2147483647, hl'⟩) rfl
    have j1 := ix_dl1 (D := ⟨[], r, hl'⟩) (R := R)
    have j2 := ix_dl1 (D := ⟨[], (r * 48271 + 31) % 2147483647, hl'⟩) (R := R)
    have md := v_mod (i := (r * 48271 + 31) % 2147483647 / 8) (j := m) hm
    dsimp only at p1 j1 j2
    refine ⟨(r * 48271 + 31) % 2147483647 / 8 % m, ⟨[], (r * 48271 + 31) % 2147483647, hl'⟩, Int.emod_nonneg _ (by omega), Int.emod_lt_of_pos _ hm, ?_⟩
    have t1 := tk ⟨[], (r * 48271 + 31) % 2147483647, hl'⟩
    clear tk
    unfold F__law_draw b__law_draw
    generalize dlS ⟨l, r, hl⟩ R = S0 at *
    generalize dlS ⟨[], r, hl'⟩ R = S at *
    generalize hD : dlS ⟨[], (r * 48271 + 31) % 2147483647, hl'⟩ R = S' at *
    generalize R.length + 2 = k at *
    clear hD hm hm2 hle
    generalize sWhile _ _ = W at *
    walk_at "nm"
  · have hc : ns.concat x = ns ++ [x] := List.concat_eq_append
    simp only [hc] at i0 q1 q2 v0 ew2
    have hl2 : (ns ++ [x]).length ≤ 1000 := hc ▸ hl'
    have hn : ns.length ≤ 1000 := by rw [List.length_append] at hl2; omega
    have q3 : (!((ns ++ [x]).map T.int).isEmpty) = true := by simp
    rw [q3] at q2
    have hl3 : (ns ++ [x / m]).length ≤ 1000 := by rw [List.length_append] at hl2 ⊢; exact hl2
    have p := pop_dl (n0 := R.length + 2) (i := x) (l := ns) (r := r) (hl := hl2) (hl' := hn) (R := R)
    have a := app_dl (n0 := R.length + 2) (i := x / m) (l := ns) (r := r) (hl := hn) (hl' := hl3) (R := R)
    have j1 := ix_dl0 (D := ⟨ns, r, hn⟩) (R := R)
    have v1 := vw_dl0 (D := ⟨ns, r, hn⟩) (R := R)
    dsimp only at v1
    have g0 : (dlS ⟨ns ++ [x], r, hl2⟩ R)[0]? = some (.lst ((ns ++ [x]).map T.int)) := rfl
    have g1 : (dlS ⟨ns, r, hn⟩ R)[0]? = some (.lst (ns.map T.int)) := rfl
    have f1 : oFdiv (.int x) (.int m) = some (.int (x / m)) := v_fdiv hm (by omega)
    have md := v_mod (i := x) (j := m) hm
    refine ⟨x % m, ⟨ns ++ [x / m], r, hl3⟩, Int.emod_nonneg _ (by omega), Int.emod_lt_of_pos _ hm, ?_⟩
    have t1 := tk ⟨ns ++ [x / m], r, hl3⟩
    clear tk
    unfold F__law_draw b__law_draw
    generalize dlS ⟨l, r, hl⟩ R = S0 at *
    generalize dlS ⟨ns ++ [x], r, hl2⟩ R = S at *
    generalize dlS ⟨ns, r, hn⟩ R = S1 at *
    generalize dlS ⟨ns ++ [x / m], r, hl3⟩ R = S2 at *
    generalize R.length + 2 = k at *
    clear hm hm2 hle
    generalize sWhile _ _ = W at *
    generalize lPop = P at *
    generalize lApp = P2 at *
    walk_at "nm"
end

end


noncomputable section

section
theorem pickA_eq {D : Dl} {R : St} {n0 : Nat} {l : List T} (h0 : 0 < l.length) (h1 : l.length < 1000000) (hr : okRs (R.length + 2) l = true) : ∃ x D', x ∈ l ∧ F__law_pick ⟨0, n0⟩ [.ref 1, .lst l] (dlS D R) = .ok x (dlS D' R) := by
  obtain ⟨v, D', v0, v1, e⟩ := drawA_eq (D := D) (R := R) (n0 := R.length + 2) (m := l.length) (by omega) (by omega)
  have ix : ixR (.lst l) (.int v) (dlS D' R) = .ok (pick l v) (dlS D' R) := ix_lst v0 (pick_get v0 v1)
  have ok := okRs_mem hr _ (pick_mem v0 v1)
  have ln : (dlS D R).length = R.length + 2 := rfl
  have tk : (dlS D' R).take (R.length + 2) = dlS D' R := by rw [dl_take, List.take_length]
  refine ⟨pick l v, D', pick_mem v0 v1, ?_⟩
  unfold F__law_pick b__law_pick
  clear h0 h1 hr v0 v1
  generalize pick l v = x at *
  generalize dlS D R = S at *
  generalize dlS D' R = S' at *
  generalize R.length + 2 = k at *
  generalize F__law_draw = C at *
  walk_at "nm"
theorem eraseA_perm : ∀ (l : List T) (j : Nat) (h : j < l.length), (l[j] :: l.eraseIdx j).Perm l
  | x :: l, 0, _ => .refl _
  | x :: l, j + 1, h => (List.Perm.swap x (l[j]'(Nat.lt_of_succ_lt_succ h)) (l.eraseIdx j)).trans ((eraseA_perm l j (Nat.lt_of_succ_lt_succ h)).cons x)
theorem mixA_loop {l0 : List T} {R : St} (hR : R.length + 3 ≠ 0) (h1 : l0.length < 1000000) (hd : ∀ t ∈ l0, DT t) : ∀ (n : Nat) (left found : List T) (D : Dl), left.length < n → (left ++ found).Perm l0 → ∃ found' D', found'.Perm l0 ∧ whL (mTst (mOp oNe (mVar 2) (mLst mNil))) L__law_mixed_1 n ⟨0, R.length + 2⟩ [some (.ref 1), some (.lst l0), some (.ref (R.length + 2)), some (.ref (R.length + 3))] (dlS D (R ++ [.lst left, .lst found])) = .nx [some (.ref 1), some (.lst l0), some (.ref (R.length + 2)), some (.ref (R.length + 3))] (dlS D' (R ++ [.lst [], .lst found']))
  | 0, left, found, D, h, _ => absurd h (Nat.not_lt_zero _)
  | n + 1, left, found, D, h, hp => by
    have g1 : ∀ D' : Dl, ∀ a b : T, (dlS D' (R ++ [a, b]))[R.length + 2]? = some a := fun D' a b => by rw [dl_r, app_g0]; rfl
    have g2 : ∀ D' : Dl, ∀ a b : T, (dlS D' (R ++ [a, b]))[R.length + 3]? = some b := fun D' a b => by rw [show R.length + 3 = (R.length + 1) + 2 by omega, dl_r, app_gn]; rfl
    have vl : ∀ D' : Dl, ∀ l : List T, ∀ b : T, vw (dlS D' (R ++ [.lst l, b])) (.ref (R.length + 2)) = .lst l := fun D' l b => vw_ref (g1 D' _ _)
    have hdl : ∀ t ∈ left, DT t := fun t ht => hd t (hp.mem_iff.mp (List.mem_append_left _ ht))
    have nn := ne_nil hdl
    have q1 : oNe (.ref (R.length + 2)) (.lst []) = none := rfl
    have v0 := vl D left (.lst found)
    cases left with
    | nil =>
      refine ⟨found, D, by simpa using hp, ?_⟩
      have t : mTst (mOp oNe (mVar 2) (mLst mNil)) ⟨0, R.length + 2⟩ [some (.ref 1), some (.lst l0), some (.ref (R.length + 2)), some (.ref (R.length + 3))] (dlS D (R ++ [.lst [], .lst found])) = .ok false (dlS D (R ++ [.lst [], .lst found])) := by
        replace nn : oNe (.lst []) (.lst []) = some (.bl false) := nn
        clear g1 g2 vl hdl hp hd h
        generalize dlS D (R ++ [.lst [], .lst found]) = S at *
        generalize R.length + 2 = k at *
        generalize R.length + 3 = k' at *
        walk_at "nm"
      unfold whL
      rw [t]
    | cons y ys =>
      have t : mTst (mOp oNe (mVar 2) (mLst mNil)) ⟨0, R.length + 2⟩ [some (.ref 1), some (.lst l0), some (.ref (R.length + 2)), some (.ref (R.length + 3))] (dlS D (R ++ [.lst (y :: ys), .lst found])) = .ok true (dlS D (R ++ [.lst (y :: ys), .lst found])) := by
        replace nn : oNe (.lst (y :: ys)) (.lst []) = some (.bl true) := nn
        clear g1 g2 vl hdl hp hd h
        generalize dlS D (R ++ [.lst (y :: ys), .lst found]) = S at *
        generalize R.length + 2 = k at *
        generalize R.length + 3 = k' at *
        walk_at "nm"
      have hpl := hp.length_eq
      rw [List.length_append] at hpl
      generalize hlf : y :: ys = left at *
      have hpos : 0 < left.length := by rw [← hlf]; simp
      clear hlf
      obtain ⟨v, D', v0', v1, e⟩ := drawA_eq (D := D) (R := R ++ [.lst left, .lst found]) (n0 := R.length + 2) (m := left.length) (by omega) (by omega)
      obtain ⟨j, rfl⟩ := Int.eq_ofNat_of_zero_le v0'
      have hj : j < left.length := by omega
      have el := g1 D (.lst left) (.lst found)
      have el2 := g1 D' (.lst left) (.lst found)
      have ef := g2 D (.lst left) (.lst found)
      have p1 := lm_popAt (c := ⟨0, R.length + 2⟩) el2 (List.getElem?_eq_getElem hj) (by omega) (Nat.zero_le _)
      have e2 : (dlS D' (R ++ [.lst left, .lst found])).set (R.length + 2) (.lst (left.eraseIdx j)) = dlS D' (R ++ [.lst (left.eraseIdx j), .lst found]) := by rw [dl_set, app_s0]; rfl
      rw [e2] at p1
      have ef2 := g2 D' (.lst (left.eraseIdx j)) (.lst found)
      have p2 := lm_app (x := left[j]) (c := ⟨0, R.length + 2⟩) ef2 (by omega) (Nat.zero_le _) (by show R.length + 2 ≤ R.length + 3; omega)
      have e3 : (dlS D' (R ++ [.lst (left.eraseIdx j), .lst found])).set (R.length + 3) (.lst (found ++ [left[j]])) = dlS D' (R ++ [.lst (left.eraseIdx j), .lst (found ++ [left[j]])]) := by rw [show R.length + 3 = (R.length + 1) + 2 by omega, dl_set, app_sn]; rfl
      rw [e3] at p2
      have hp2 : (left.eraseIdx j ++ (found ++ [left[j]])).Perm l0 := by
        refine List.Perm.trans ?_ hp
        have a1 : (left[j] :: left.eraseIdx j).Perm left := eraseA_perm left j hj
        have a2 : (left.eraseIdx j ++ (found ++ [left[j]])).Perm (left[j] :: (left.eraseIdx j ++ found)) := by
          rw [← List.append_assoc]
          exact List.perm_append_singleton ..
        exact a2.trans (a1.append_right found)
      have b : L__law_mixed_1 ⟨0, R.length + 2⟩ [some (.ref 1), some (.lst l0), some (.ref (R.length + 2)), some (.ref (R.length + 3))] (dlS D (R ++ [.lst left, .lst found])) = .nx [some (.ref 1), some (.lst l0), some (.ref (R.length + 2)), some (.ref (R.length + 3))] (dlS D' (R ++ [.lst (left.eraseIdx j), .lst (found ++ [left[j]])])) := by
        clear hd hp hp2 hpl hdl nn q1 t vl g1 g2 e2 e3 v0' v1 hpos hR
        generalize left[j] = z at *
        generalize left.eraseIdx j = le at *
        generalize dlS D (R ++ [.lst left, .lst found]) = S at *
        generalize dlS D' (R ++ [.lst left, .lst found]) = S1 at *
        generalize dlS D' (R ++ [.lst le, .lst found]) = S2 at *
        generalize dlS D' (R ++ [.lst le, .lst (found ++ [z])]) = S3 at *
        generalize R.length + 2 = k at *
        generalize R.length + 3 = k' at *
        unfold L__law_mixed_1
        generalize lPopAt = P at *
        generalize lApp = P2 at *
        generalize F__law_draw = C at *
        walk_at "nm"
      obtain ⟨found', D2, hp3, e4⟩ := mixA_loop hR h1 hd n (left.eraseIdx j) (found ++ [left[j]]) D' (by rw [List.length_eraseIdx, if_pos hj]; omega) hp2
      refine ⟨found', D2, hp3, ?_⟩
      unfold whL
      rw [t]
      dsimp only
      rw [b]
      exact e4
theorem mixedA_eq {D : Dl} {R : St} {n0 : Nat} {l : List T} (h1 : l.length < 1000000) (hr : okRs (R.length + 2) l = true) (hn : nlks l = true) (hd : ∀ t ∈ l, DT t) : ∃ l' D', l'.Perm l ∧ F__law_mixed ⟨0, n0⟩ [.ref 1, .lst l] (dlS D R) = .ok (.lst l') (dlS D' R) := by
  obtain ⟨found, D', hp, e⟩ := mixA_loop (R := R) (by omega) h1 hd (l.length + 1) l [] D (by omega) (by simp)
  refine ⟨found, D', hp, ?_⟩
  have e2 : sWhile (mTst (mOp oNe (mVar 2) (mLst mNil))) L__law_mixed_1 ⟨0, R.length + 2⟩ [some (.ref 1), some (.lst l), some (.ref (R.length + 2)), some (.ref (R.length + 3))] (dlS D (R ++ [.lst l, .lst []])) = .nx [some (.ref 1), some (.lst l), some (.ref (R.length + 2)), some (.ref (R.length + 3))] (dlS D' (R ++ [.lst [], .lst found])) := by
    unfold sWhile
    rw [whL_le (n := l.length + 1) (by rw [e]; intro z; cases z) (by unfold whLine; omega)]
    exact e
  have hA : sPar2 2 3 (mCons (mListC (mVar 1)) (mCons (mLstC mNil) mNil)) ⟨0, R.length + 2⟩ [some (.ref 1), some (.lst l), none, none] (dlS D R) = .nx [some (.ref 1), some (.lst l), some (.ref (R.length + 2)), some (.ref (R.length + 3))] (dlS D (R ++ [.lst l, .lst []])) := by
    have a2 : mListC (mVar 1) ⟨0, R.length + 2⟩ [some (.ref 1), some (.lst l), none, none] (dlS D R) = .ok (.ref (R.length + 2)) (dlS D (R ++ [.lst l])) := rfl
    have a1 : mLstC mNil ⟨0, R.length + 2⟩ [some (.ref 1), some (.lst l), none, none] (dlS D (R ++ [.lst l])) = .ok (.ref (R.length + 3)) (dlS D (R ++ [.lst l, .lst []])) := by
      rw [ap_mLstC, ap_mNil, bd_ok, if_pos (by simp), dl_len, dl_app, List.append_assoc, List.length_append]
      rfl
    rw [ap_sPar2, ap_mCons, a2, bd_ok, ap_mCons, a1, bd_ok]
    rfl
  have hC : sRet (mVar 3) ⟨0, R.length + 2⟩ [some (.ref 1), some (.lst l), some (.ref (R.length + 2)), some (.ref (R.length + 3))] (dlS D' (R ++ [.lst [], .lst found])) = .rt (.ref (R.length + 3)) (dlS D' (R ++ [.lst [], .lst found])) := rfl
  have st : start0 4 [.ref 1, .lst l] = [some (.ref 1), some (.lst l), none, none] := rfl
  have ok : okRs (dlS D R).length found = true := okRs_all fun x hx => okRs_mem hr x (hp.mem_iff.mp hx)
  have nl : nlks found = true := nlks_all fun x hx => nlks_mem hn x (hp.mem_iff.mp hx)
  have ef : (dlS D' (R ++ [.lst [], .lst found]))[R.length + 3]? = some (.lst found) := by rw [show R.length + 3 = (R.length + 1) + 2 by omega, dl_r, app_gn]; rfl
  have hln : (dlS D R).length = R.length + 2 := rfl
  unfold F__law_mixed
  rw [ap_runS (by rfl), st, hln]
  unfold b__law_mixed
  rw [ap_sSeq, hA, sq_nx, ap_sSeq, e2, sq_nx, hC, endS_lst (by rw [hln]; omega) ef ok nl, hln, dl_takeA]
end

end


noncomputable section

section
def tenNames : List Str := ["talk", "owe", "plea", "a", "b", "zz", "x", "suit", "rest", "cap"]
theorem ten_ok : ∀ z ∈ tenNames, nameB z = true := by decide +kernel
theorem ten_nodup : tenNames.Nodup := by decide +kernel
theorem perm_strs : ∀ {l' : List T} {l : List Str}, l'.Perm (l.map T.str) → ∃ zs : List Str, l' = zs.map T.str ∧ zs.Perm l := fun {l' l} h => by
  have hall : ∀ t ∈ l', ∃ z, t = T.str z := fun t ht => by
    obtain ⟨z, _, rfl⟩ := List.mem_map.mp (h.mem_iff.mp ht)
    exact ⟨z, rfl⟩
  have : ∃ zs : List Str, l' = zs.map T.str := by
    clear h
    induction l' with
    | nil => exact ⟨[], rfl⟩
    | cons t l' ih =>
      obtain ⟨z, rfl⟩ := hall t (List.mem_cons_self ..)
      obtain ⟨zs, rfl⟩ := ih fun x hx => hall x (List.mem_cons_of_mem _ hx)
      exact ⟨z :: zs, rfl⟩
  obtain ⟨zs, rfl⟩ := this
  refine ⟨zs, rfl, ?_⟩
  have k := h.map fun t => match t with
    | T.str z => z
    | _ => ""
  rw [List.map_map, List.map_map] at k
  have e : ∀ l : List Str, l.map ((fun t => match t with
    | T.str z => z
    | _ => ("" : Str)) ∘ T.str) = l := fun l => by
    induction l with
    | nil => rfl
    | cons a l ih => rw [List.map_cons, ih]; rfl
  rw [e, e] at k
  exact k
theorem namesA_eq {D : Dl} {R : St} {n0 : Nat} {many : Nat} (hm : many ≤ 10) : ∃ (zs : List Str) (D' : Dl), zs.length = many ∧ (∀ z ∈ zs, nameB z = true) ∧ zs.Nodup ∧ (∀ z ∈ zs, z ∈ tenNames) ∧ F__law_names ⟨0, n0⟩ [.ref 1, .int many] (dlS D R) = .ok (.lst (zs.map T.str)) (dlS D' R) := by
  obtain ⟨l', D', hp, e⟩ := mixedA_eq (D := D) (R := R) (n0 := R.length + 2) (l := tenNames.map T.str) (by decide) (okRs_all fun t ht => by
    obtain ⟨z, _, rfl⟩ := List.mem_map.mp ht
    exact okR_str) (nlks_all fun t ht => by
    obtain ⟨z, _, rfl⟩ := List.mem_map.mp ht
    unfold nlk
    rfl) fun t ht => by
    obtain ⟨z, hz, rfl⟩ := List.mem_map.mp ht
    exact DT.str (name_strOk (ten_ok z hz))
  obtain ⟨zs, rfl, hz⟩ := perm_strs hp
  have hlen : zs.length = 10 := hz.length_eq
  refine ⟨zs.take many, D', by rw [List.length_take]; omega, fun z h => ten_ok z (hz.mem_iff.mp (List.mem_of_mem_take h)), (hz.nodup_iff.mpr ten_nodup).sublist (List.take_sublist ..), fun z h => hz.mem_iff.mp (List.mem_of_mem_take h), ?_⟩
  have sl : oSl none (some (many : Int)) (.lst (zs.map T.str)) = some (.lst ((zs.take many).map T.str)) := by
    show some (T.lst (cutT _ _ _)) = _
    unfold cutT
    have e0 : ∀ n, HT.sIx n 0 none = 0 := fun _ => rfl
    have e1 : HT.sIx (zs.map T.str).length (zs.map T.str).length (some (many : Int)) = many := by
      show (if (many : Int) < 0 then ((many : Int) + ((zs.map T.str).length : Int)).toNat else min (many : Int).toNat (zs.map T.str).length) = _
      rw [if_neg (by omega), List.length_map, hlen]
      omega
    rw [e0, e1, List.drop_zero, Nat.sub_zero, List.map_take]
  have ok : okRs (R.length + 2) ((zs.take many).map T.str) = true := okRs_all fun t ht => by
    obtain ⟨z, _, rfl⟩ := List.mem_map.mp ht
    exact okR_str
  have ln : (dlS D R).length = R.length + 2 := rfl
  have tk : (dlS D' R).take (R.length + 2) = dlS D' R := by rw [dl_take, List.take_length]
  have e : F__law_mixed ⟨0, R.length + 2⟩ [.ref 1, .lst [.str "talk", .str "owe", .str "plea", .str "a", .str "b", .str "zz", .str "x", .str "suit", .str "rest", .str "cap"]] (dlS D R) = .ok (.lst (zs.map T.str)) (dlS D' R) := e
  clear hp hz hlen hm
  unfold F__law_names b__law_names
  generalize (zs.take many).map T.str = l1 at *
  generalize zs.map T.str = l2 at *
  generalize dlS D R = S at *
  generalize dlS D' R = S' at *
  generalize R.length + 2 = k at *
  generalize F__law_mixed = C at *
  walk_at "nm"
/-- a told kind: form, name, number, top, times -/
def toldA (k : Kd) : T := .tup [.str k.fm.word, .str k.name, .int k.a, .int k.b, tvT k.times]
def formsT : List T := [.str "still", .str "anew", .str "lift"]
def timesT : List T := [.int 1, .int 1, .int 2, .int 3, .non]
theorem kindA_eq {D : Dl} {R : St} {n0 : Nat} {z : Str} {most : Int} (hz : nameB z = true) (h1 : 1 ≤ most) (h2 : most ≤ 10 ^ 18) : ∃ (k : Kd) (D' : Dl), KdOk k ∧ k.name = z ∧ k.a ≤ most ∧ k.b ≤ most ∧ (∀ n, k.times = some n → n ≤ 3) ∧ F__law_kind ⟨0, n0⟩ [.ref 1, .str z, .int most] (dlS D R) = .ok (toldA k) (dlS D' R) := by
  have ln : ∀ D, (dlS D R).length = R.length + 2 := fun _ => rfl
  have tk : ∀ D, (dlS D R).take (R.length + 2) = dlS D R := fun D => by rw [dl_take, List.take_length]
  obtain ⟨x, D1, hx, e1⟩ := pickA_eq (D := D) (R := R) (n0 := R.length + 2) (l := formsT) (by decide) (by decide) (by simp only [formsT, okRs_cons, okRs_nil, okR_str, Bool.and_self])
  obtain ⟨y, D2, hy, e2⟩ := pickA_eq (D := D1) (R := R) (n0 := R.length + 2) (l := timesT) (by decide) (by decide) (by simp only [timesT, okRs_cons, okRs_nil, okR_int, okR_non, Bool.and_self])
  obtain ⟨v, D3, v0, v1, e3⟩ := drawA_eq (D := D2) (R := R) (n0 := R.length + 2) (m := most) (by omega) (by omega)
  obtain ⟨u, D4, u0, u1, e4⟩ := drawA_eq (D := D3) (R := R) (n0 := R.length + 2) (m := most) (by omega) (by omega)
  have ht : ∃ tm : Option Int, y = tvT tm ∧ ∀ n, tm = some n → 1 ≤ n ∧ n ≤ 3 := by
    simp only [timesT, List.mem_cons, List.not_mem_nil, or_false] at hy
    rcases hy with rfl | rfl | rfl | rfl | rfl
    · exact ⟨some 1, rfl, fun n h => by cases h; decide⟩
    · exact ⟨some 1, rfl, fun n h => by cases h; decide⟩
    · exact ⟨some 2, rfl, fun n h => by cases h; decide⟩
    · exact ⟨some 3, rfl, fun n h => by cases h; decide⟩
    · exact ⟨none, rfl, fun n h => nomatch h⟩
  obtain ⟨tm, rfl, htm⟩ := ht
  have hf : ∃ fm : Fm, x = .str fm.word := by
    simp only [formsT, List.mem_cons, List.not_mem_nil, or_false] at hx
    rcases hx with rfl | rfl | rfl
    · exact ⟨.still, rfl⟩
    · exact ⟨.anew, rfl⟩
    · exact ⟨.lift, rfl⟩
  obtain ⟨fm, rfl⟩ := hf
  have o3 : ∀ n, okR n (tvT tm) = true := fun n => by cases tm <;> (unfold tvT okR; rfl)
  unfold formsT at e1
  unfold timesT at e2
  have q : oEq (.str fm.word) (.str "lift") = some (.bl (decide (fm = .lift))) := by cases fm <;> rfl
  by_cases hl : fm = .lift
  · refine ⟨⟨fm, z, 1 + v, 1 + u, tm⟩, D4, ⟨hz, by dsimp only; omega, by dsimp only; omega, fun _ => by dsimp only; omega, by dsimp only; omega, fun h => absurd hl h, fun n h => by have := htm n h; omega⟩, rfl, by dsimp only; omega, by dsimp only; omega, fun n h => (htm n h).2, ?_⟩
    show _ = Rs.ok (T.tup [.str fm.word, .str z, .int (1 + v), .int (1 + u), tvT tm]) (dlS D4 R)
    rw [decide_eq_true hl] at q
    have t4 := tk D4
    have l0 := ln D
    have o3 := o3 (R.length + 2)
    clear hx hy htm hl hz h1 h2 v0 v1 u0 u1 tk ln
    unfold F__law_kind b__law_kind
    generalize tvT tm = t at *
    generalize fm.word = w at *
    generalize dlS D R = S at *
    generalize dlS D1 R = S1 at *
    generalize dlS D2 R = S2 at *
    generalize dlS D3 R = S3 at *
    generalize dlS D4 R = S4 at *
    generalize R.length + 2 = k at *
    generalize F__law_draw = C at *
    generalize F__law_pick = C2 at *
    walk_at "nm"
  · refine ⟨⟨fm, z, 1 + v, 0, tm⟩, D3, ⟨hz, by dsimp only; omega, by dsimp only; omega, fun h => absurd h hl, by dsimp only; omega, fun _ => rfl, fun n h => by have := htm n h; omega⟩, rfl, by dsimp only; omega, by dsimp only; omega, fun n h => (htm n h).2, ?_⟩
    show _ = Rs.ok (T.tup [.str fm.word, .str z, .int (1 + v), .int 0, tvT tm]) (dlS D3 R)
    rw [decide_eq_false hl] at q
    have t4 := tk D3
    have l0 := ln D
    have o3 := o3 (R.length + 2)
    clear hx hy htm hl hz h1 h2 v0 v1 u0 u1 tk ln e4
    unfold F__law_kind b__law_kind
    generalize tvT tm = t at *
    generalize fm.word = w at *
    generalize dlS D R = S at *
    generalize dlS D1 R = S1 at *
    generalize dlS D2 R = S2 at *
    generalize dlS D3 R = S3 at *
    generalize R.length + 2 = k at *
    generalize F__law_draw = C at *
    generalize F__law_pick = C2 at *
    walk_at "nm"
theorem cut_len {l : List T} {n : Int} (h : 0 ≤ n) : ∃ m, cutT l none (some n) = l.take m := by
  refine ⟨min n.toNat l.length, ?_⟩
  unfold cutT
  have e0 : HT.sIx l.length 0 none = 0 := rfl
  have e1 : HT.sIx l.length l.length (some n) = min n.toNat l.length := by
    show (if n < 0 then (n + (l.length : Int)).toNat else min n.toNat l.length) = _
    rw [if_neg (by omega)]
  rw [e0, e1, List.drop_zero, Nat.sub_zero]
theorem dealA_eq {c : Cf} {ns : List Int} (h : ns.length ≤ 63) : ∃ D : Dl, F__law_deal c [.scr ns] [] = .ok (.ref 1) (dlS D []) := by
  obtain ⟨m, hm⟩ := cut_len (l := ns.map T.int) (n := 60) (by decide)
  rw [← List.map_take] at hm
  have hl : (ns.take m).length ≤ 63 := by rw [List.length_take]; omega
  have sl : oSl none (some 60) (.scr ns) = some (.lst ((ns.take m).map T.int)) := by
    show some (T.lst (cutT _ _ _)) = _
    rw [hm]
  generalize hms : ns.take m = ms at *
  have lc1 : lcL (gNm 1) mYes (mB bAbs (mCons (mVar 1) mNil)) (ms.map T.int) [] c [some (.scr ns), none, none, none] [] = .ok (ms.map fun i => T.int (if i < 0 then -i else i)) [] := by
    have := lcL_filt (c := c) (ρ := [some (.scr ns), none, none, none]) (S := []) (g := gNm 1) (tt := mYes) (te := mB bAbs (mCons (mVar 1) mNil)) T.int (fun _ => true) (fun i => T.int (if i < 0 then -i else i)) ms [] (by simp; omega) fun x hx => ⟨_, rfl, rfl, fun _ => by rfl⟩
    rw [List.filter_eq_self.mpr (fun _ _ => rfl)] at this
    exact this
  have e2 : (ms.map fun i => T.int (if i < 0 then -i else i)) = (ms.map fun i => if i < 0 then -i else i).map T.int := by rw [List.map_map]; rfl
  rw [e2] at lc1
  generalize hqs : (ms.map fun i : Int => if i < 0 then -i else i) = qs at *
  have hq : qs.length ≤ 63 := by rw [← hqs, List.length_map]; exact hl
  have loop : ∀ (l : List Int) (o : Option T) (r : Int), ∃ (o' : Option T) (r' : Int), forL (gNm 1) L__law_deal_1 (l.map T.int) c [some (.scr ns), o, some (.lst (qs.map T.int)), some (.int r)] [] = .nx [some (.scr ns), o', some (.lst (qs.map T.int)), some (.int r')] [] := by
    intro l
    induction l with
    | nil => exact fun o r => ⟨o, r, rfl⟩
    | cons i l ih =>
      intro o r
      obtain ⟨o', r', e⟩ := ih (some (.int i)) ((r * 16807 + i % 2147483629) % 2147483647)
      refine ⟨o', r', ?_⟩
      have m1 : oMul (.int r) (.int 16807) = some (.int (r * 16807)) := v_mulR (by decide) (by decide)
      have b : L__law_deal_1 c [some (.scr ns), some (.int i), some (.lst (qs.map T.int)), some (.int r)] [] = .nx [some (.scr ns), some (.int i), some (.lst (qs.map T.int)), some (.int ((r * 16807 + i % 2147483629) % 2147483647))] [] := by
        clear ih e lc1 e2 hm hq
        generalize qs.map T.int = ql at *
        unfold L__law_deal_1
        walk_at "nm"
      rw [List.map_cons, e_forS]
      show forG _ _ _ _ (some ([some (.scr ns), some (.int i), some (.lst (qs.map T.int)), some (.int r)], [])) = _
      rw [e_forG, b, e_forKn]
      exact e
  obtain ⟨o', r', ef⟩ := loop qs none 32452867
  have pw : oPow (.int 10) (.int 18) = some (.int 1000000000000000000) := by kernel_rfl
  have lc2 : lcL (gNm 1) (mTst (mOp oGe (mVar 1) (mOp oPow (mC (.int 10)) (mC (.int 18))))) (mVar 1) (qs.map T.int) [] c [some (.scr ns), none, some (.lst (qs.map T.int)), some (.int r')] [] = .ok ((qs.filter fun i => decide (1000000000000000000 ≤ i)).map T.int) [] := by
    refine (lcL_filt (c := c) (ρ := [some (.scr ns), none, some (.lst (qs.map T.int)), some (.int r')]) (S := []) (g := gNm 1) (tt := mTst (mOp oGe (mVar 1) (mOp oPow (mC (.int 10)) (mC (.int 18))))) (te := mVar 1) T.int (fun i => decide (1000000000000000000 ≤ i)) T.int qs [] (by simp; omega) fun x hx => ⟨_, rfl, ?_, fun _ => by rfl⟩).trans (by rw [List.nil_append])
    clear ef loop lc1 e2 hm hq hx
    generalize qs.map T.int = ql at *
    walk_at "nm"
  have hf : (qs.filter fun i => decide (1000000000000000000 ≤ i)).length ≤ 63 := Nat.le_trans (List.length_filter_le ..) hq
  generalize qs.filter (fun i => decide (1000000000000000000 ≤ i)) = fs at *
  refine ⟨⟨fs.reverse, r', by rw [List.length_reverse]; omega⟩, ?_⟩
  show _ = Rs.ok (T.ref 1) [T.lst (fs.reverse.map T.int), .lst [.ref 0, .int r']]
  rw [List.map_reverse]
  have vs : vw [] (.scr ns) = .scr ns := rfl
  have w1 : wipeS [1] [some (.scr ns), none, none, none] = [some (.scr ns), none, none, none] := rfl
  have w2 : wipeS [1] [some (.scr ns), o', some (.lst (qs.map T.int)), some (.int r')] = [some (.scr ns), none, some (.lst (qs.map T.int)), some (.int r')] := rfl
  clear loop e2 hm hq hl hms hqs
  generalize qs.map T.int = ql at *
  generalize ms.map T.int = ml at *
  generalize fs.map T.int = fl at *
  clear hf
  unfold F__law_deal b__law_deal
  walk_at "nm"
end

end


noncomputable section

/-! a drawn rule of family A -/
theorem perm_ints : ∀ {l' : List T} {l : List Int}, l'.Perm (l.map T.int) → ∃ zs : List Int, l' = zs.map T.int ∧ zs.Perm l := fun {l' l} h => by
  have hall : ∀ t ∈ l', ∃ z, t = T.int z := fun t ht => by
    obtain ⟨z, _, rfl⟩ := List.mem_map.mp (h.mem_iff.mp ht)
    exact ⟨z, rfl⟩
  have : ∃ zs : List Int, l' = zs.map T.int := by
    clear h
    induction l' with
    | nil => exact ⟨[], rfl⟩
    | cons t l' ih =>
      obtain ⟨z, rfl⟩ := hall t (List.mem_cons_self ..)
      obtain ⟨zs, rfl⟩ := ih fun x hx => hall x (List.mem_cons_of_mem _ hx)
      exact ⟨z :: zs, rfl⟩
  obtain ⟨zs, rfl⟩ := this
  refine ⟨zs, rfl, ?_⟩
  have k := h.map fun t => match t with
    | T.int z => z
    | _ => 0
  rw [List.map_map, List.map_map] at k
  have e : ∀ l : List Int, l.map ((fun t => match t with
    | T.int z => z
    | _ => (0 : Int)) ∘ T.int) = l := fun l => by
    induction l with
    | nil => rfl
    | cons a l ih => rw [List.map_cons, ih]; rfl
  rw [e, e] at k
  exact k
/-- a told rule: length, rests, cap, kinds -/
structure RuA where
  size : Int
  rests : List Int
  high : T
  ks : List Kd
def RuA.t (r : RuA) : T := .tup [.int r.size, .lst (r.rests.map T.int), r.high, .lst (r.ks.map toldA)]
structure RuOk (r : RuA) (many : Nat) (most : Int) : Prop where
  s0 : 1 ≤ r.size
  s1 : r.size ≤ most
  rl : r.rests.length ≤ 4
  rb : ∀ i ∈ r.rests, 0 ≤ i ∧ i < 7
  rn : r.rests.Nodup
  rs : r.rests.Pairwise (· ≤ ·)
  hi : r.high = .non ∨ ∃ i, r.high = .int i ∧ 1 ≤ i ∧ i ≤ 3 * most
  hs : ∀ i, r.high = .int i → (∃ k ∈ r.ks, k.times = none) → i ≤ r.size + 200
  kk : ∀ k ∈ r.ks, KdOk k ∧ k.a ≤ most ∧ k.b ≤ most ∧ (∀ n, k.times = some n → n ≤ 3)
  kn : (r.ks.map (·.name)).Nodup
  kl : r.ks.length ≤ many
  kt : ∀ k ∈ r.ks, k.name ∈ tenNames
section
variable {c : Cf} {D D' : Dl} {R : St} {n0 : Nat}
theorem okR_toldA {n : Nat} {k : Kd} : okR n (toldA k) = true := by
  have o : okR n (tvT k.times) = true := by cases k.times <;> (unfold tvT okR; rfl)
  unfold toldA
  simp only [okR_tup, okRs_cons, okRs_nil, okR_str, okR_int, o, Bool.and_self]
theorem kinds_lc {most : Int} (h1 : 1 ≤ most) (h2 : most ≤ 10 ^ 18) {a1 a3 a4 a6 a7 : Option T} : ∀ (zs : List Str) (acc : List Kd) (D : Dl), acc.length + zs.length ≤ 1000 → (∀ z ∈ zs, nameB z = true) → ∃ (ks : List Kd) (D' : Dl), (∀ k ∈ ks, KdOk k ∧ k.a ≤ most ∧ k.b ≤ most ∧ (∀ n, k.times = some n → n ≤ 3)) ∧ ks.map (·.name) = zs ∧
    lcL (gNm 8) mYes (mCall F__law_kind [] (mCons (mVar 0) (mCons (mVar 8) (mCons (mVar 2) mNil)))) (zs.map T.str) (acc.map toldA) ⟨0, R.length + 2⟩ [some (.ref 1), a1, some (.int most), a3, a4, none, a6, a7, none, none] (dlS D R) = .ok ((acc ++ ks).map toldA) (dlS D' R)
  | [], acc, D, _, _ => ⟨[], D, (fun _ h => nomatch h), rfl, by rw [List.append_nil]; rfl⟩
  | z :: zs, acc, D, hl, hz => by
    obtain ⟨k, D1, ok, kn, ka, kb, kt, e⟩ := kindA_eq (D := D) (R := R) (n0 := R.length + 2) (z := z) (hz z (List.mem_cons_self ..)) h1 h2
    rw [List.length_cons] at hl
    obtain ⟨ks, D2, hk, hn, e2⟩ := kinds_lc h1 h2 (a1 := a1) (a3 := a3) (a4 := a4) (a6 := a6) (a7 := a7) zs (acc ++ [k]) D1 (by rw [List.length_append]; simp; omega) fun y hy => hz y (List.mem_cons_of_mem _ hy)
    refine ⟨k :: ks, D2, fun x hx => ?_, by rw [List.map_cons, hn, kn], ?_⟩
    · rcases List.mem_cons.mp hx with rfl | hx
      · exact ⟨ok, ka, kb, kt⟩
      · exact hk x hx
    have al : (acc.map toldA).length < 1000000 := by rw [List.length_map]; omega
    have g : gNm 8 (.str z) ⟨0, R.length + 2⟩ [some (.ref 1), a1, some (.int most), a3, a4, none, a6, a7, none, none] (dlS D R) = some ([some (.ref 1), a1, some (.int most), a3, a4, none, a6, a7, some (.str z), none], dlS D R) := rfl
    have b : mCall F__law_kind [] (mCons (mVar 0) (mCons (mVar 8) (mCons (mVar 2) mNil))) ⟨0, R.length + 2⟩ [some (.ref 1), a1, some (.int most), a3, a4, none, a6, a7, some (.str z), none] (dlS D R) = .ok (toldA k) (dlS D1 R) := by
      clear e2 hl hz al g
      generalize toldA k = tk at *
      generalize dlS D R = S at *
      generalize dlS D1 R = S1 at *
      generalize R.length + 2 = n at *
      generalize F__law_kind = Fa at *
      walk_at "nm"
    rw [List.map_cons, e_lcS, g, e_lcG, e_yes, e_lcBt, b, e_lcA al]
    rw [List.map_append, List.append_assoc] at e2
    rw [List.map_append, List.map_cons] at *
    simpa [List.map_append] using e2
def pickR : List T := [.int 0, .int 0, .int 1, .int 2, .int 2, .int 4]
theorem pickR_mem : ∀ x ∈ pickR, ∃ v : Int, x = .int v ∧ 0 ≤ v ∧ v ≤ 4 := by
  intro x hx
  simp only [pickR, List.mem_cons, List.not_mem_nil, or_false] at hx
  rcases hx with rfl | rfl | rfl | rfl | rfl | rfl <;> exact ⟨_, rfl, by decide, by decide⟩
theorem cut_lenN {l : List T} {v : Int} (h : 0 ≤ v) : cutT l none (some v) = l.take v.toNat := by
  obtain ⟨n, rfl⟩ := Int.eq_ofNat_of_zero_le h
  unfold cutT
  have e0 : HT.sIx l.length 0 none = 0 := rfl
  rw [e0, HT.sIx_nat, List.drop_zero, Nat.sub_zero, Int.toNat_natCast]
  by_cases h : n ≤ l.length
  · rw [Nat.min_eq_left h]
  · rw [Nat.min_eq_right (by omega), List.take_length, List.take_of_length_le (by omega)]
theorem DT_toldA {k : Kd} (h : nameB k.name = true) : DT (toldA k) := by
  have hw : PyData.strOk k.fm.word = true := by cases k.fm <;> decide +kernel
  have hn := name_strOk h
  have key : ∀ y : T, (y = .non ∨ ∃ i, y = .int i) → DT (.tup [.str k.fm.word, .str k.name, .int k.a, .int k.b, y]) := fun y hy => by
    rcases hy with rfl | ⟨j, rfl⟩ <;>
    · refine ⟨_, rfl, (dok_tup (n := 0) fun d hd => ?_).up (by decide)⟩
      simp only [List.mem_cons, List.not_mem_nil, or_false] at hd
      rcases hd with rfl | rfl | rfl | rfl | rfl <;> first | exact dok_str hw | exact dok_str hn | exact dok_int _ | exact dok_non
  unfold toldA
  refine key _ ?_
  cases k.times with
  | none => exact .inl rfl
  | some n => exact .inr ⟨n, rfl⟩
theorem ruleA_eq {many : Nat} {most : Int} (hm : many ≤ 9) (m1 : 1 ≤ most) (m2 : most ≤ 10 ^ 17) : ∃ (r : RuA) (D' : Dl), RuOk r many most ∧ F__law_rule ⟨0, n0⟩ [.ref 1, .int many, .int most] (dlS D R) = .ok r.t (dlS D' R) := by
  have r7 : rgT 0 7 = ([0, 1, 2, 3, 4, 5, 6] : List Int).map T.int := rfl
  obtain ⟨l', D1, hp, e1⟩ := mixedA_eq (D := D) (R := R) (n0 := R.length + 2) (l := rgT 0 7) (by decide) (okRs_all fun t ht => by
    obtain ⟨i, _, rfl⟩ := List.mem_map.mp ht
    exact okR_int) (nlks_all fun t ht => by
    obtain ⟨i, _, rfl⟩ := List.mem_map.mp ht
    unfold nlk
    rfl) (fun t ht => by
    obtain ⟨i, _, rfl⟩ := List.mem_map.mp ht
    exact DT.int _)
  rw [r7] at hp
  obtain ⟨ns, rfl, hn⟩ := perm_ints hp
  clear hp
  obtain ⟨x1, D2, hx1, e2⟩ := pickA_eq (D := D1) (R := R) (n0 := R.length + 2) (l := pickR) (by decide) (by decide) (by simp only [pickR, okRs_cons, okRs_nil, okR_int, Bool.and_self])
  obtain ⟨v, rfl, v0, v4⟩ := pickR_mem x1 hx1
  obtain ⟨h, D3, h0, h1, e3⟩ := drawA_eq (D := D2) (R := R) (n0 := R.length + 2) (m := 3 * most) (by omega) (by omega)
  obtain ⟨x2, D4, hx2, e4⟩ := pickA_eq (D := D3) (R := R) (n0 := R.length + 2) (l := [.non, .non, .non, .int (1 + h)]) (by simp) (by simp) (by simp only [okRs_cons, okRs_nil, okR_int, okR_non, Bool.and_self])
  obtain ⟨w, D5, w0, w1, e5⟩ := drawA_eq (D := D4) (R := R) (n0 := R.length + 2) (m := (many : Int) + 1) (by omega) (by omega)
  obtain ⟨w, rfl⟩ := Int.eq_ofNat_of_zero_le w0
  obtain ⟨zs, D6, zl, zn, zd, zt, e6⟩ := namesA_eq (D := D5) (R := R) (n0 := R.length + 2) (many := w) (by omega)
  obtain ⟨sz, D7, s0, s1, e7⟩ := drawA_eq (D := D6) (R := R) (n0 := R.length + 2) (m := most) (by omega) (by omega)
  have sl : oSl none (some v) (.lst (ns.map T.int)) = some (.lst ((ns.take v.toNat).map T.int)) := by
    show some (T.lst (cutT _ _ _)) = _
    rw [cut_lenN v0, List.map_take]
  have l1 : ∀ a b c d e f g h i S, lcL (gNm 9) mYes (mB bInt (mCons (mVar 9) mNil)) ((ns.take v.toNat).map T.int) [] ⟨0, R.length + 2⟩ [a, b, c, d, e, f, g, h, i, none] S = .ok ((ns.take v.toNat).map T.int) S := fun a b c d e f g h i S => by
    have := lcL_filt (c := ⟨0, R.length + 2⟩) (ρ := [a, b, c, d, e, f, g, h, i, none]) (S := S) (g := gNm 9) (tt := mYes) (te := mB bInt (mCons (mVar 9) mNil)) T.int (fun _ => true) T.int (ns.take v.toNat) [] (by rw [List.length_nil, List.length_take, hn.length_eq]; simp; omega) fun i hi => ⟨_, rfl, rfl, fun _ => rfl⟩
    rwa [List.nil_append, List.filter_eq_self.mpr (fun _ _ => rfl)] at this
  have sr : bSrtI [.lst ((ns.take v.toNat).map T.int)] = some (.lst ((srtI (ns.take v.toNat)).map T.int)) := by
    show (toI _).map _ = _
    rw [toI_map]
    rfl
  have w9 : ∀ a b c d e f g h i, wipeS [9] [a, b, c, d, e, f, g, h, i, none] = [a, b, c, d, e, f, g, h, i, none] := fun _ _ _ _ _ _ _ _ _ => rfl
  have w8 : ∀ a b c d e f g h i, wipeS [8] [a, b, c, d, e, f, g, h, none, i] = [a, b, c, d, e, f, g, h, none, i] := fun _ _ _ _ _ _ _ _ _ => rfl
  have ru := (srtI_perm (ns.take v.toNat))
  have rmem : ∀ i ∈ srtI (ns.take v.toNat), 0 ≤ i ∧ i < 7 := fun i hi => by
    have := hn.mem_iff.mp (List.mem_of_mem_take (ru.mem_iff.mp hi))
    simp only [List.mem_cons, List.not_mem_nil, or_false] at this
    omega
  have rnd : (srtI (ns.take v.toNat)).Nodup := ru.nodup_iff.mpr ((hn.nodup_iff.mpr (by decide)).sublist (List.take_sublist ..))
  have rln : (srtI (ns.take v.toNat)).length ≤ 4 := by rw [ru.length_eq, List.length_take]; omega
  have rso := srtI_sorted (ns.take v.toNat)
  obtain ⟨ks, D8, hk, hkn, e8⟩ := kinds_lc (R := R) m1 (by omega) (a1 := some (.int many)) (a3 := some (.lst ((srtI (ns.take v.toNat)).map T.int))) (a4 := some x2) (a6 := some (.lst (zs.map T.str))) (a7 := some (.int (1 + sz))) zs [] D7 (by rw [zl]; simp; omega) zn
  rw [List.map_nil, List.nil_append] at e8
  have kl : ks.length = w := by rw [← zl, ← hkn, List.length_map]
  have fl : ∀ a b c d e f g h i S, lcL (gNm 9) (mTst (mOp oIsN (mIxA (mVar 9) (mC (.int 4))) (mC .non))) (mVar 9) (ks.map toldA) [] ⟨0, R.length + 2⟩ [a, b, c, d, e, f, g, h, i, none] S = .ok ((ks.filter fun k => isNonT (tvT k.times)).map toldA) S := fun a b c d e f g h i S => by
    have := lcL_filt (c := ⟨0, R.length + 2⟩) (ρ := [a, b, c, d, e, f, g, h, i, none]) (S := S) (g := gNm 9) (tt := mTst (mOp oIsN (mIxA (mVar 9) (mC (.int 4))) (mC .non))) (te := mVar 9) toldA (fun k => isNonT (tvT k.times)) toldA ks [] (by rw [List.length_nil, kl]; omega) fun k hk => by
      refine ⟨_, rfl, ?_, fun _ => rfl⟩
      have i4 : ∀ S, ixR (toldA k) (.int 4) S = .ok (tvT k.times) S := fun S => ix_t4
      have nn : oIsN (tvT k.times) .non = some (.bl (isNonT (tvT k.times))) := rfl
      clear e1 e2 e3 e4 e5 e6 e7 e8 l1 sl sr w9 w8
      generalize isNonT (tvT k.times) = q at *
      generalize tvT k.times = tv at *
      generalize toldA k = z at *
      walk_at "nm"
    rwa [List.nil_append] at this
  have nz : oNe (.lst ((ks.filter fun k => isNonT (tvT k.times)).map toldA)) (.lst []) = some (.bl (!((ks.filter fun k => isNonT (tvT k.times)).map toldA).isEmpty)) := ne_nil fun t ht => by
    obtain ⟨k, hk', rfl⟩ := List.mem_map.mp ht
    exact DT_toldA (hk k (List.mem_filter.mp hk').1).1.nm
  have ml : oMul (.int 3) (.int most) = some (.int (3 * most)) := v_mulL (by decide) (by decide)
  have lr : fListRg (.int 7) = some (.lst (rgT 0 7)) := rfl
  have ln : (dlS D R).length = R.length + 2 := rfl
  have tk : (dlS D8 R).take (R.length + 2) = dlS D8 R := by rw [dl_take, List.take_length]
  have or1 : okRs (R.length + 2) ((srtI (ns.take v.toNat)).map T.int) = true := okRs_all fun t ht => by
    obtain ⟨i, _, rfl⟩ := List.mem_map.mp ht
    exact okR_int
  have or2 : okRs (R.length + 2) (ks.map toldA) = true := okRs_all fun t ht => by
    obtain ⟨k, _, rfl⟩ := List.mem_map.mp ht
    exact okR_toldA
  have knd : (ks.map (·.name)).Nodup := by rw [hkn]; exact zd
  have ktn : ∀ k ∈ ks, k.name ∈ tenNames := fun k q => zt _ (by rw [← hkn]; exact List.mem_map_of_mem q)
  unfold pickR at e2
  have hx : x2 = .non ∨ x2 = .int (1 + h) := by
    simp only [List.mem_cons, List.not_mem_nil, or_false] at hx2
    rcases hx2 with z | z | z | z
    · exact .inl z
    · exact .inl z
    · exact .inl z
    · exact .inr z
  have ex : ∀ hh : T, okR (R.length + 2) hh = true → (∀ L : Sv, True) → True := fun _ _ _ => trivial
  clear ex r7
  rcases hx with rfl | rfl
  · refine ⟨⟨1 + sz, srtI (ns.take v.toNat), .non, ks⟩, D8, ⟨by show 1 ≤ 1 + sz; omega, by show 1 + sz ≤ most; omega, rln, rmem, rnd, rso, .inl rfl, (fun i z => by cases z), hk, knd, by show ks.length ≤ many; omega, ktn⟩, ?_⟩
    have no : oNotN .non .non = some (.bl false) := rfl
    show _ = Rs.ok (T.tup [.int (1 + sz), .lst ((srtI (ns.take v.toNat)).map T.int), .non, .lst (ks.map toldA)]) _
    generalize (srtI (ns.take v.toNat)).map T.int = L1 at *
    generalize (ns.take v.toNat).map T.int = L2 at *
    generalize ns.map T.int = L3 at *
    generalize ks.map toldA = L4 at *
    generalize zs.map T.str = L5 at *
    generalize rgT 0 7 = rg at *
    generalize dlS D R = S0 at *
    generalize dlS D1 R = S1 at *
    generalize dlS D2 R = S2 at *
    generalize dlS D3 R = S3 at *
    generalize dlS D4 R = S4 at *
    generalize dlS D5 R = S5 at *
    generalize dlS D6 R = S6 at *
    generalize dlS D7 R = S7 at *
    generalize dlS D8 R = S8 at *
    generalize R.length + 2 = k at *
    generalize (many : Int) = mn at *
    generalize (w : Int) = wi at *
    clear hx1 hx2 v0 v4 h0 h1 w0 w1 zl zn zd zt s0 s1 ru rmem rnd rln rso hk hkn kl fl nz knd ktn hm m1 m2 hn
    unfold F__law_rule b__law_rule
    generalize F__law_mixed = Fa at *
    generalize F__law_pick = Fb at *
    generalize F__law_draw = Fc at *
    generalize F__law_names = Fd at *
    generalize F__law_kind = Fe at *
    walk_at "nm"
  · have no : oNotN (.int (1 + h)) .non = some (.bl true) := rfl
    cases hf : ((ks.filter fun k => isNonT (tvT k.times)).map toldA).isEmpty with
    | true =>
      rw [hf] at nz
      refine ⟨⟨1 + sz, srtI (ns.take v.toNat), .int (1 + h), ks⟩, D8, ⟨by show 1 ≤ 1 + sz; omega, by show 1 + sz ≤ most; omega, rln, rmem, rnd, rso, .inr ⟨_, rfl, by omega, by omega⟩, (fun i z q => by
        exfalso
        obtain ⟨k, hk1, hk2⟩ := q
        rw [List.isEmpty_iff, List.map_eq_nil_iff, List.filter_eq_nil_iff] at hf
        exact hf k hk1 (by rw [hk2]; rfl)), hk, knd, by show ks.length ≤ many; omega, ktn⟩, ?_⟩
      show _ = Rs.ok (T.tup [.int (1 + sz), .lst ((srtI (ns.take v.toNat)).map T.int), .int (1 + h), .lst (ks.map toldA)]) _
      generalize (ks.filter fun k => isNonT (tvT k.times)).map toldA = LF at *
      clear hf
      generalize (srtI (ns.take v.toNat)).map T.int = L1 at *
      generalize (ns.take v.toNat).map T.int = L2 at *
      generalize ns.map T.int = L3 at *
      generalize ks.map toldA = L4 at *
      generalize zs.map T.str = L5 at *
      generalize rgT 0 7 = rg at *
      generalize dlS D R = S0 at *
      generalize dlS D1 R = S1 at *
      generalize dlS D2 R = S2 at *
      generalize dlS D3 R = S3 at *
      generalize dlS D4 R = S4 at *
      generalize dlS D5 R = S5 at *
      generalize dlS D6 R = S6 at *
      generalize dlS D7 R = S7 at *
      generalize dlS D8 R = S8 at *
      generalize R.length + 2 = k at *
      generalize (many : Int) = mn at *
      generalize (w : Int) = wi at *
      clear hx1 hx2 v0 v4 h0 h1 w0 w1 zl zn zd zt s0 s1 ru rmem rnd rln rso hk hkn kl knd ktn hm m1 m2 hn
      unfold F__law_rule b__law_rule
      generalize F__law_mixed = Fa at *
      generalize F__law_pick = Fb at *
      generalize F__law_draw = Fc at *
      generalize F__law_names = Fd at *
      generalize F__law_kind = Fe at *
      walk_at "nm"
    | false =>
      rw [hf] at nz
      have mi := v_min (1 + h) (1 + sz + 200)
      refine ⟨⟨1 + sz, srtI (ns.take v.toNat), .int (min (1 + h) (1 + sz + 200)), ks⟩, D8, ⟨by show 1 ≤ 1 + sz; omega, by show 1 + sz ≤ most; omega, rln, rmem, rnd, rso, .inr ⟨_, rfl, by omega, by omega⟩, (fun i z _ => by
        have := T.int.inj z
        show i ≤ 1 + sz + 200
        omega), hk, knd, by show ks.length ≤ many; omega, ktn⟩, ?_⟩
      show _ = Rs.ok (T.tup [.int (1 + sz), .lst ((srtI (ns.take v.toNat)).map T.int), .int (min (1 + h) (1 + sz + 200)), .lst (ks.map toldA)]) _
      generalize min (1 + h) (1 + sz + 200) = mh at *
      generalize (ks.filter fun k => isNonT (tvT k.times)).map toldA = LF at *
      clear hf
      generalize (srtI (ns.take v.toNat)).map T.int = L1 at *
      generalize (ns.take v.toNat).map T.int = L2 at *
      generalize ns.map T.int = L3 at *
      generalize ks.map toldA = L4 at *
      generalize zs.map T.str = L5 at *
      generalize rgT 0 7 = rg at *
      generalize dlS D R = S0 at *
      generalize dlS D1 R = S1 at *
      generalize dlS D2 R = S2 at *
      generalize dlS D3 R = S3 at *
      generalize dlS D4 R = S4 at *
      generalize dlS D5 R = S5 at *
      generalize dlS D6 R = S6 at *
      generalize dlS D7 R = S7 at *
      generalize dlS D8 R = S8 at *
      generalize R.length + 2 = k at *
      generalize (many : Int) = mn at *
      generalize (w : Int) = wi at *
      clear hx1 hx2 v0 v4 h0 h1 w0 w1 zl zn zd zt s0 s1 ru rmem rnd rln rso hk hkn kl knd ktn hm m1 m2 hn
      unfold F__law_rule b__law_rule
      generalize F__law_mixed = Fa at *
      generalize F__law_pick = Fb at *
      generalize F__law_draw = Fc at *
      generalize F__law_names = Fd at *
      generalize F__law_kind = Fe at *
      walk_at "nm"
end

end


noncomputable section

section
variable {c : Cf} {S : St}
end


end


noncomputable section

theorem nlks_ints (u : List Int) : nlks (u.map T.int) = true := nlks_all fun x hx => by
  obtain ⟨i, _, rfl⟩ := List.mem_map.mp hx
  rfl

end


noncomputable section

/-! drawn unsure occasions -/
structure UnO where
  f : Int
  w : Int
  z : Str
  d : Int
def UnO.t (u : UnO) : T := .tup [.int u.f, .int (u.f + u.w - 1), .str u.z, .int u.d]
structure UnOk (zs : List Str) (most : Int) (u : UnO) : Prop where
  f0 : 0 ≤ u.f
  f1 : u.f < most
  w0 : 1 ≤ u.w
  w1 : u.w ≤ 4
  z : u.z ∈ zs
  d0 : 1 ≤ u.d
  d1 : u.d ≤ 5
def wd (us : List UnO) : Int := us.foldl (fun s u => s * u.w) 1
theorem wd_app {us : List UnO} {u : UnO} : wd (us ++ [u]) = wd us * u.w := by
  unfold wd
  rw [List.foldl_append]
  rfl
theorem okR_un {n : Nat} {u : UnO} : okR n u.t = true := by
  unfold UnO.t
  simp only [okR_tup, okRs_cons, okRs_nil, okR_int, okR_str, Bool.and_self]
theorem okRs_un {n : Nat} (us : List UnO) : okRs n (us.map UnO.t) = true := okRs_all fun x hx => by
  obtain ⟨k, _, rfl⟩ := List.mem_map.mp hx
  exact okR_un
theorem nlks_un (us : List UnO) : nlks (us.map UnO.t) = true := nlks_all fun x hx => by
  obtain ⟨k, _, rfl⟩ := List.mem_map.mp hx
  rfl
section
variable {c : Cf} {D D' : Dl} {R : St} {n0 : Nat}
theorem un_body {zs : List Str} {most : Int} (m1 : 1 ≤ most) (m2 : most ≤ 10 ^ 17) (z0 : 0 < zs.length) (z1 : zs.length ≤ 1000) {x1 x2 x4 x8 x9 x10 : Option T} (us : List UnO) (D : Dl) (hl : us.length < 1000) (w0 : 1 ≤ wd us) (w1 : wd us ≤ 64) : ∃ (u : UnO) (D' : Dl) (y8 y9 : Option T), UnOk zs most u ∧ 1 ≤ wd (us ++ [u]) ∧ wd (us ++ [u]) ≤ 64 ∧ L__law_unsure_1 ⟨0, R.length + 2⟩ [some (.ref 1), x1, x2, some (.int most), x4, some (.lst (zs.map T.str)), some (.ref (R.length + 2)), some (.int (wd us)), x8, x9, x10] (dlS D (R ++ [.lst (us.map UnO.t)])) = .nx [some (.ref 1), x1, x2, some (.int most), x4, some (.lst (zs.map T.str)), some (.ref (R.length + 2)), some (.int (wd (us ++ [u]))), y8, y9, x10] (dlS D' (R ++ [.lst ((us ++ [u]).map UnO.t)])) := by
  obtain ⟨a, D1, a0, a1, e1⟩ := drawA_eq (D := D) (R := R ++ [.lst (us.map UnO.t)]) (n0 := R.length + 2) (m := 4) (by decide) (by decide)
  obtain ⟨lo, D2, l0, l1, e2⟩ := drawA_eq (D := D1) (R := R ++ [.lst (us.map UnO.t)]) (n0 := R.length + 2) (m := most) (by omega) (by omega)
  obtain ⟨x, D3, hx, e3⟩ := pickA_eq (D := D2) (R := R ++ [.lst (us.map UnO.t)]) (n0 := R.length + 2) (l := zs.map T.str) (by rw [List.length_map]; exact z0) (by rw [List.length_map]; omega) (okRs_all fun t ht => by
    obtain ⟨i, _, rfl⟩ := List.mem_map.mp ht
    exact okR_str)
  obtain ⟨z, hz, rfl⟩ := List.mem_map.mp hx
  obtain ⟨d, D4, d0, d1, e4⟩ := drawA_eq (D := D3) (R := R ++ [.lst (us.map UnO.t)]) (n0 := R.length + 2) (m := 5) (by decide) (by decide)
  have key : ∃ w : Int, 1 ≤ w ∧ w ≤ 4 ∧ wd us * w ≤ 64 ∧ ∃ q : Bool, oLt (.int ((1 + a) * wd us)) (.int 65) = some (.bl q) ∧ (if q = true then 1 + a else 1) = w := by
    by_cases h : (1 + a) * wd us < 65
    · refine ⟨1 + a, by omega, by omega, by rw [Int.mul_comm]; omega, true, ?_, rfl⟩
      rw [v_lt, decide_eq_true h]
    · refine ⟨1, by omega, by omega, by omega, false, ?_, rfl⟩
      rw [v_lt, decide_eq_false h]
  obtain ⟨w, ww0, ww1, hw, q, eq, ew⟩ := key
  have el : (dlS D4 (R ++ [.lst (us.map UnO.t)]))[R.length + 2]? = some (.lst (us.map UnO.t)) := by rw [dl_r, app_g0]; rfl
  have el2 : (dlS D2 (R ++ [.lst (us.map UnO.t)]))[R.length + 2]? = some (.lst (us.map UnO.t)) := by rw [dl_r, app_g0]; rfl
  have pa := lm_app (x := UnO.t (UnO.mk lo w z (1 + d))) (c := ⟨0, R.length + 2⟩) el (by rw [List.length_map]; omega) (Nat.zero_le _) (Nat.le_refl _)
  have es : (dlS D4 (R ++ [.lst (us.map UnO.t)])).set (R.length + 2) (.lst (us.map UnO.t ++ [UnO.t (UnO.mk lo w z (1 + d))])) = dlS D4 (R ++ [.lst ((us ++ [UnO.mk lo w z (1 + d)]).map UnO.t)]) := by
    rw [dl_set, app_s0, List.map_append]
    rfl
  rw [es] at pa
  have wa := wd_app (us := us) (u := UnO.mk lo w z (1 + d))
  have wp : 1 ≤ wd us * w := by
    have := Int.mul_le_mul w0 ww0 (by decide) (by omega)
    simpa using this
  refine ⟨UnO.mk lo w z (1 + d), D4, some (.int w), some (.int lo), ⟨l0, l1, ww0, ww1, hz, by show 1 ≤ 1 + d; omega, by show 1 + d ≤ 5; omega⟩, by rw [wa]; exact wp, by rw [wa]; exact hw, ?_⟩
  rw [wa]
  show _ = Ou.nx [some (.ref 1), x1, x2, some (.int most), x4, some (.lst (zs.map T.str)), some (.ref (R.length + 2)), some (.int (wd us * w)), some (.int w), some (.int lo), x10] _
  have mu1 : oMul (.int (1 + a)) (.int (wd us)) = some (.int ((1 + a) * wd us)) := v_mulR (by omega) (by omega)
  have mu2 : oMul (.int (wd us)) (.int w) = some (.int (wd us * w)) := v_mulR (by omega) (by omega)
  replace pa : lmR lApp ⟨0, R.length + 2⟩ (R.length + 2) [T.tup [.int lo, .int (lo + w - 1), .str z, .int (1 + d)]] (dlS D4 (R ++ [.lst (us.map UnO.t)])) = .ok .non (dlS D4 (R ++ [.lst ((us ++ [UnO.mk lo w z (1 + d)]).map UnO.t)])) := pa
  clear es wa wp hw ww0 ww1 d0 d1 l0 l1 a0 a1 m1 m2 z0 z1 hl w0 w1 hx hz
  generalize wd us = W at *
  generalize zs.map T.str = zl at *
  generalize dlS D (R ++ [.lst (us.map UnO.t)]) = S at *
  generalize dlS D1 (R ++ [.lst (us.map UnO.t)]) = S1 at *
  generalize dlS D2 (R ++ [.lst (us.map UnO.t)]) = S2 at *
  generalize dlS D3 (R ++ [.lst (us.map UnO.t)]) = S3 at *
  generalize dlS D4 (R ++ [.lst (us.map UnO.t)]) = S4 at *
  generalize dlS D4 (R ++ [.lst ((us ++ [UnO.mk lo w z (1 + d)]).map UnO.t)]) = S5 at *
  generalize us.map UnO.t = ul at *
  generalize W * w = Ww at *
  generalize R.length + 2 = k at *
  unfold L__law_unsure_1
  generalize lApp = P at *
  generalize F__law_draw = Ca at *
  generalize F__law_pick = Cb at *
  cases q with
  | true =>
    rw [if_pos rfl] at ew
    subst ew
    walk_at "nm"
  | false =>
    rw [if_neg (by decide)] at ew
    subst ew
    walk_at "nm"
theorem un_loop {zs : List Str} {most : Int} (m1 : 1 ≤ most) (m2 : most ≤ 10 ^ 17) (z0 : 0 < zs.length) (z1 : zs.length ≤ 1000) {x1 x2 x10 : Option T} : ∀ (l : List T) (us : List UnO) (D : Dl) (x4 x8 x9 : Option T), us.length + l.length ≤ 1000 → (∀ u ∈ us, UnOk zs most u) → 1 ≤ wd us → wd us ≤ 64 → ∃ (us' : List UnO) (D' : Dl) (y4 y8 y9 : Option T), (∀ u ∈ us', UnOk zs most u) ∧ us'.length = us.length + l.length ∧ 1 ≤ wd us' ∧ wd us' ≤ 64 ∧ forL (gNm 4) L__law_unsure_1 l ⟨0, R.length + 2⟩ [some (.ref 1), x1, x2, some (.int most), x4, some (.lst (zs.map T.str)), some (.ref (R.length + 2)), some (.int (wd us)), x8, x9, x10] (dlS D (R ++ [.lst (us.map UnO.t)])) = .nx [some (.ref 1), x1, x2, some (.int most), y4, some (.lst (zs.map T.str)), some (.ref (R.length + 2)), some (.int (wd us')), y8, y9, x10] (dlS D' (R ++ [.lst (us'.map UnO.t)]))
  | [], us, D, x4, x8, x9, _, h, w0, w1 => ⟨us, D, x4, x8, x9, h, rfl, w0, w1, rfl⟩
  | y :: l, us, D, x4, x8, x9, hl, h, w0, w1 => by
    rw [List.length_cons] at hl
    obtain ⟨u, D1, y8, y9, hu, v0, v1, e⟩ := un_body (R := R) m1 m2 z0 z1 (x1 := x1) (x2 := x2) (x4 := some y) (x8 := x8) (x9 := x9) (x10 := x10) us D (by omega) w0 w1
    obtain ⟨us', D2, y4, z8, z9, h', hl', w0', w1', e'⟩ := un_loop m1 m2 z0 z1 (x1 := x1) (x2 := x2) (x10 := x10) l (us ++ [u]) D1 (some y) y8 y9 (by rw [List.length_append]; simp; omega) (fun x hx => by
      rcases List.mem_append.mp hx with hx | hx
      · exact h x hx
      · rw [List.mem_singleton.mp hx]
        exact hu) v0 v1
    refine ⟨us', D2, y4, z8, z9, h', by rw [hl', List.length_append, List.length_cons]; simp; omega, w0', w1', ?_⟩
    have g : gNm 4 y ⟨0, R.length + 2⟩ [some (.ref 1), x1, x2, some (.int most), x4, some (.lst (zs.map T.str)), some (.ref (R.length + 2)), some (.int (wd us)), x8, x9, x10] (dlS D (R ++ [.lst (us.map UnO.t)])) = some ([some (.ref 1), x1, x2, some (.int most), some y, some (.lst (zs.map T.str)), some (.ref (R.length + 2)), some (.int (wd us)), x8, x9, x10], dlS D (R ++ [.lst (us.map UnO.t)])) := rfl
    rw [e_forS, g, e_forG, e, e_forKn]
    exact e'
def wordsU (r : RuA) : List Str := r.ks.map (·.name) ++ [("qq" : Str)]
theorem names_lc {ks : List Kd} (hl : ks.length ≤ 1000) {a b c1 d e f g h i j : Option T} {S : St} {n : Nat} : lcL (gNm 10) mYes (mIxA (mVar 10) (mC (.int 1))) (ks.map toldA) [] ⟨0, n⟩ [a, b, c1, d, e, f, g, h, i, j, none] S = .ok ((ks.map (·.name)).map T.str) S := by
  have := lcL_filt (c := ⟨0, n⟩) (ρ := [a, b, c1, d, e, f, g, h, i, j, none]) (S := S) (g := gNm 10) (tt := mYes) (te := mIxA (mVar 10) (mC (.int 1))) toldA (fun _ => true) (fun k : Kd => T.str k.name) ks [] (by rw [List.length_nil]; omega) fun k hk => ⟨_, rfl, rfl, fun _ => by rfl⟩
  rw [List.nil_append, List.filter_eq_self.mpr (fun _ _ => rfl)] at this
  rw [List.map_map]
  exact this
theorem unsA_eq {r : RuA} {m : Nat} {mo most : Int} {many : Nat} (ok : RuOk r m mo) (hm : m ≤ 9) (h9 : many ≤ 100) (m1 : 1 ≤ most) (m2 : most ≤ 10 ^ 17) : ∃ (us : List UnO) (D' : Dl), (∀ u ∈ us, UnOk (wordsU r) most u) ∧ us.length ≤ many ∧ wd us ≤ 64 ∧ F__law_unsure ⟨0, n0⟩ [.ref 1, r.t, .int many, .int most] (dlS D R) = .ok (.lst (us.map UnO.t)) (dlS D' R) := by
  obtain ⟨v, D1, v0, v1, e1⟩ := drawA_eq (D := D) (R := R ++ [.lst []]) (n0 := R.length + 2) (m := (many : Int) + 1) (by omega) (by omega)
  have kl := ok.kl
  have lw : (wordsU r).length = r.ks.length + 1 := by simp [wordsU]
  have lr := rgT_length 0 v.toNat
  obtain ⟨us, D2, y4, y8, y9, hu, hl, w0, w1, e2⟩ := un_loop (R := R) (zs := wordsU r) m1 m2 (by omega) (by omega) (x1 := some r.t) (x2 := some (.int many)) (x10 := none) (rgT 0 v.toNat) [] D1 none none none (by rw [lr]; simp; omega) (fun _ h => nomatch h) (by decide) (by decide)
  refine ⟨us, D2, hu, by rw [hl, lr]; simp; omega, w1, ?_⟩
  have lc := names_lc (ks := r.ks) (by omega) (a := some (.ref 1)) (b := some r.t) (c1 := some (.int many)) (d := some (.int most)) (e := none) (f := none) (g := none) (h := none) (i := none) (j := none) (S := dlS D R) (n := R.length + 2)
  have w10 : wipeS [10] [some (.ref 1), some r.t, some (.int many), some (.int most), none, none, none, none, none, none, none] = [some (.ref 1), some r.t, some (.int many), some (.int most), none, none, none, none, none, none, none] := rfl
  have ad : oAdd (.lst ((r.ks.map (·.name)).map T.str)) (.lst [.str "qq"]) = some (.lst ((wordsU r).map T.str)) := by
    rw [v_addL (by simp; omega)]
    unfold wordsU
    rw [List.map_append]
    rfl
  have i3 : ∀ S, ixR r.t (.int 3) S = .ok (.lst (r.ks.map toldA)) S := fun S => ix_t3
  have rg : fRng1 [.int v] = some (rgT 0 v.toNat) := v_rng v0 (by omega)
  have lc1 : mLstC mNil ⟨0, R.length + 2⟩ [some (.ref 1), some r.t, some (.int many), some (.int most), none, none, none, none, none, none, none] (dlS D R) = .ok (.ref (R.length + 2)) (dlS D (R ++ [.lst []])) := by
    rw [ap_mLstC, ap_mNil, bd_ok, if_pos (by simp), dl_len, dl_app]
  have ot : okR 0 r.t = true := by
    have : okRs 0 (r.ks.map toldA) = true := okRs_all fun x hx => by
      obtain ⟨k, _, rfl⟩ := List.mem_map.mp hx
      exact okR_toldA
    have hi : okR 0 r.high = true := by
      rcases ok.hi with h | ⟨i, h, _⟩ <;> rw [h] <;> rfl
    have ir : okRs 0 (r.rests.map T.int) = true := okRs_all fun x hx => by
      obtain ⟨i, _, rfl⟩ := List.mem_map.mp hx
      exact okR_int
    unfold RuA.t
    simp only [okR_tup, okRs_cons, okRs_nil, okR_int, okR_lst, this, hi, ir, Bool.and_self]
  have ef : (dlS D2 (R ++ [.lst (us.map UnO.t)]))[R.length + 2]? = some (.lst (us.map UnO.t)) := by rw [dl_r, app_g0]; rfl
  have hln : (dlS D R).length = R.length + 2 := rfl
  have en := endS_lst (S := dlS D R) (S' := dlS D2 (R ++ [.lst (us.map UnO.t)])) (k := R.length + 2) (l := us.map UnO.t) (by rw [hln]; exact Nat.le_refl _) ef (okRs_un us) (nlks_un us)
  rw [hln, dl_takeA] at en
  have st : start0 11 [.ref 1, r.t, .int many, .int most] = [some (.ref 1), some r.t, some (.int many), some (.int most), none, none, none, none, none, none, none] := rfl
  have w1' : wd [] = 1 := rfl
  rw [w1'] at e2
  rw [List.map_nil] at e2
  unfold F__law_unsure
  rw [ap_runS (by rfl), st, hln]
  clear hu hl w0 w1 lr ef w1' lw kl ok
  generalize r.t = rt at *
  generalize (wordsU r).map T.str = zl at *
  generalize (r.ks.map (·.name)).map T.str = nl at *
  generalize r.ks.map toldA = kl at *
  generalize us.map UnO.t = ul at *
  generalize rgT 0 v.toNat = rl at *
  generalize dlS D R = S at *
  generalize dlS D (R ++ [.lst []]) = S1 at *
  generalize dlS D1 (R ++ [.lst []]) = S2 at *
  generalize dlS D2 (R ++ [.lst ul]) = S3 at *
  generalize dlS D2 R = S4 at *
  generalize R.length + 2 = k at *
  generalize (many : Int) = mn at *
  unfold b__law_unsure
  generalize L__law_unsure_1 = Lb at *
  generalize F__law_draw = Ca at *
  generalize mLstC mNil = ML at *
  walk_at "nm"
end

end


noncomputable section

/-! unsure occasions: the choices of days, and what they fill: plain -/
def dysP (u : UnO) : List Int := (List.range u.w.toNat).map fun (i : Nat) => u.f + (i : Int)
theorem dysP_T (u : UnO) : rgT u.f u.w.toNat = (dysP u).map T.int := by
  unfold rgT dysP
  rw [List.map_map]
  rfl
theorem dysP_mem {u : UnO} {d : Int} : d ∈ dysP u ↔ u.f ≤ d ∧ d < u.f + u.w := by
  unfold dysP
  rw [List.mem_map]
  constructor
  · rintro ⟨i, hi, rfl⟩
    rw [List.mem_range] at hi
    omega
  · intro h
    exact ⟨(d - u.f).toNat, by rw [List.mem_range]; omega, by omega⟩
theorem dysP_len (u : UnO) : (dysP u).length = u.w.toNat := by unfold dysP; rw [List.length_map, List.length_range]
def chsU (l : List (List Int)) (u : UnO) : List (List Int) := l.flatMap fun s => (dysP u).map fun d => s ++ [d]
/-- all choices, ascending -/
def chU : List UnO → List (List Int)
  | [] => [[]]
  | u :: us => (dysP u).flatMap fun d => (chU us).map (d :: ·)
theorem fold_chU : ∀ (us : List UnO) (l : List (List Int)), us.foldl chsU l = l.flatMap fun s => (chU us).map (s ++ ·)
  | [], l => by
    have : (fun s : List Int => (chU []).map (s ++ ·)) = fun s => [s] := funext fun s => by
      show [s ++ []] = [s]
      rw [List.append_nil]
    rw [this]
    show l = _
    simp
  | u :: us, l => by
    rw [List.foldl_cons, fold_chU us]
    unfold chsU
    rw [List.flatMap_assoc]
    congr 1
    funext s
    show ((dysP u).map fun d => s ++ [d]).flatMap _ = ((dysP u).flatMap fun d => (chU us).map (d :: ·)).map _
    rw [List.flatMap_map, List.map_flatMap]
    congr 1
    funext d
    rw [List.map_map]
    refine List.map_congr_left fun r _ => ?_
    show s ++ [d] ++ r = s ++ d :: r
    rw [List.append_assoc]
    rfl
theorem chsU_all (us : List UnO) : us.foldl chsU [[]] = chU us := by
  rw [fold_chU]
  simp
/-- a choice of days -/
def ChOf : List UnO → List Int → Prop
  | [], [] => True
  | u :: us, d :: s => d ∈ dysP u ∧ ChOf us s
  | _, _ => False
theorem mem_chU : ∀ {us : List UnO} {s : List Int}, s ∈ chU us ↔ ChOf us s
  | [], [] => by simp [chU, ChOf]
  | [], d :: s => by simp [chU, ChOf]
  | u :: us, [] => by simp [chU, ChOf]
  | u :: us, d :: s => by
    unfold chU ChOf
    rw [List.mem_flatMap]
    constructor
    · rintro ⟨d', hd, h⟩
      obtain ⟨r, hr, e⟩ := List.mem_map.mp h
      cases e
      exact ⟨hd, mem_chU.mp hr⟩
    · rintro ⟨hd, h⟩
      exact ⟨d, hd, List.mem_map.mpr ⟨s, mem_chU.mpr h, rfl⟩⟩
theorem ChOf.len : ∀ {us : List UnO} {s : List Int}, ChOf us s → s.length = us.length
  | [], [], _ => rfl
  | _ :: _, _ :: _, h => by rw [List.length_cons, List.length_cons, h.2.len]
  | [], _ :: _, h => h.elim
  | _ :: _, [], h => h.elim
theorem ChOf.day : ∀ {us : List UnO} {s : List Int}, ChOf us s → ∀ d ∈ s, ∃ u ∈ us, d ∈ dysP u
  | [], [], _, d, hd => nomatch hd
  | u :: us, x :: s, h, d, hd => by
    rcases List.mem_cons.mp hd with rfl | hd
    · exact ⟨u, List.mem_cons_self .., h.1⟩
    · obtain ⟨v, hv, hd⟩ := h.2.day d hd
      exact ⟨v, List.mem_cons_of_mem _ hv, hd⟩
  | [], _ :: _, h, _, _ => h.elim
  | _ :: _, [], h, _, _ => h.elim
theorem chU_len : ∀ {us : List UnO}, (∀ u ∈ us, 1 ≤ u.w) → ((chU us).length : Int) = us.foldr (fun u s => u.w * s) 1
  | [], _ => rfl
  | u :: us, h => by
    have h1 := h u (List.mem_cons_self ..)
    rw [List.foldr_cons, ← chU_len (us := us) fun v hv => h v (List.mem_cons_of_mem _ hv)]
    rw [show chU (u :: us) = (dysP u).flatMap fun d => (chU us).map (d :: ·) from rfl, List.length_flatMap]
    have : ((dysP u).map fun d => ((chU us).map (d :: ·)).length) = List.replicate (dysP u).length (chU us).length := by
      refine List.eq_replicate_iff.mpr ⟨List.length_map _, fun b hb => ?_⟩
      obtain ⟨d, _, rfl⟩ := List.mem_map.mp hb
      exact List.length_map _
    rw [this, List.sum_replicate_nat, dysP_len, Int.natCast_mul, Int.toNat_of_nonneg (by omega)]
theorem fold_mul : ∀ (us : List UnO) (a : Int), us.foldl (fun s u => s * u.w) a = a * us.foldr (fun u s => u.w * s) 1
  | [], a => (Int.mul_one a).symm
  | u :: us, a => by rw [List.foldl_cons, List.foldr_cons, fold_mul us, Int.mul_assoc]
theorem chU_wd {us : List UnO} (h : ∀ u ∈ us, 1 ≤ u.w) : ((chU us).length : Int) = wd us := by
  rw [chU_len h]
  unfold wd
  rw [fold_mul, Int.one_mul]
theorem fold_len : ∀ (us : List UnO) (l : List (List Int)), (∀ u ∈ us, 1 ≤ u.w) → l.length ≤ (us.foldl chsU l).length
  | [], l, _ => Nat.le_refl _
  | u :: us, l, h => by
    have h1 := h u (List.mem_cons_self ..)
    refine Nat.le_trans ?_ (fold_len us (chsU l u) fun v hv => h v (List.mem_cons_of_mem _ hv))
    unfold chsU
    rw [List.length_flatMap]
    have : (l.map fun s => ((dysP u).map fun d => s ++ [d]).length) = List.replicate l.length (dysP u).length := by
      refine List.eq_replicate_iff.mpr ⟨List.length_map _, fun b hb => ?_⟩
      obtain ⟨d, _, rfl⟩ := List.mem_map.mp hb
      exact List.length_map _
    rw [this, List.sum_replicate_nat, dysP_len]
    exact Nat.le_mul_of_pos_right _ (by omega)
/-! what a choice fills -/
def prI : Nat → List Int → List (Int × Nat)
  | _, [] => []
  | i, d :: s => (d, i) :: prI (i + 1) s
theorem prI_len : ∀ (s : List Int) (i : Nat), (prI i s).length = s.length
  | [], _ => rfl
  | d :: s, i => by unfold prI; rw [List.length_cons, List.length_cons, prI_len s]
theorem prI_mem : ∀ {s : List Int} {i : Nat} {p : Int × Nat}, p ∈ prI i s → p.1 ∈ s ∧ i ≤ p.2 ∧ p.2 < i + s.length
  | [], i, p, h => nomatch h
  | d :: s, i, p, h => by
    unfold prI at h
    rw [List.length_cons]
    rcases List.mem_cons.mp h with rfl | h
    · exact ⟨List.mem_cons_self .., Nat.le_refl _, by show i < _; omega⟩
    · obtain ⟨h1, h2, h3⟩ := prI_mem h
      exact ⟨List.mem_cons_of_mem _ h1, by omega, by omega⟩
theorem prI_asc : ∀ (s : List Int) (i : Nat), (prI i s).Pairwise fun a b => a.2 < b.2
  | [], _ => .nil
  | d :: s, i => by
    unfold prI
    exact List.pairwise_cons.mpr ⟨fun b hb => by have := (prI_mem hb).2.1; show i < b.2; omega, prI_asc s (i + 1)⟩
def srtPr (s : List Int) : List (Int × Nat) := (srtI (ddl s)).flatMap fun t => (prI 0 s).filter fun p => decide (p.1 = t)
theorem srtDays (s : List Int) : (srtI (ddl s)).Pairwise (· < ·) := by
  have nd : (srtI (ddl s)).Nodup := (srtI_perm _).nodup_iff.mpr (ddl_nd s)
  have so := srtI_sorted (ddl s)
  generalize srtI (ddl s) = l at nd so
  induction l with
  | nil => exact .nil
  | cons a l ih =>
    obtain ⟨h1, h2⟩ := List.pairwise_cons.mp so
    obtain ⟨n1, n2⟩ := List.nodup_cons.mp nd
    refine List.pairwise_cons.mpr ⟨fun b hb => ?_, ih n2 h2⟩
    have := h1 b hb
    have : a ≠ b := fun e => n1 (e ▸ hb)
    omega
theorem srtPr_asc (s : List Int) : (srtPr s).Pairwise fun a b => a.1 < b.1 ∨ (a.1 = b.1 ∧ a.2 < b.2) := by
  unfold srtPr
  rw [List.pairwise_flatMap]
  refine ⟨fun t _ => ?_, (srtDays s).imp fun {a b} h => ?_⟩
  · have := (prI_asc s 0).sublist (List.filter_sublist (p := fun p : Int × Nat => decide (p.1 = t)))
    refine (List.Pairwise.and_mem.mp this).imp fun {a b} h => ?_
    have ha := of_decide_eq_true (List.mem_filter.mp h.1).2
    have hb := of_decide_eq_true (List.mem_filter.mp h.2.1).2
    exact .inr ⟨ha.trans hb.symm, h.2.2⟩
  · intro x hx y hy
    have ha := of_decide_eq_true (List.mem_filter.mp hx).2
    have hb := of_decide_eq_true (List.mem_filter.mp hy).2
    exact .inl (by omega)
theorem flat_perm {α : Type} {f : α → Int} : ∀ (ts : List Int) (l : List α), ts.Nodup → (∀ a ∈ l, f a ∈ ts) → (ts.flatMap fun t => l.filter fun a => decide (f a = t)).Perm l
  | ts, [], _, _ => by
    have : (ts.flatMap fun t => ([] : List α).filter fun a => decide (f a = t)) = [] := by
      refine List.flatMap_eq_nil_iff.mpr fun _ _ => rfl
    rw [this]
  | ts, a :: l, nd, h => by
    have ih := flat_perm ts l nd fun b hb => h b (List.mem_cons_of_mem _ hb)
    refine List.Perm.trans ?_ (ih.cons a)
    have hm := h a (List.mem_cons_self ..)
    clear ih h
    induction ts with
    | nil => cases hm
    | cons t ts ih =>
      obtain ⟨n1, n2⟩ := List.nodup_cons.mp nd
      rw [List.flatMap_cons, List.flatMap_cons]
      by_cases q : f a = t
      · subst q
        rw [List.filter_cons_of_pos (by simp), List.cons_append]
        refine List.Perm.cons a (List.Perm.append_left _ ?_)
        rw [show (ts.flatMap fun t => (a :: l).filter fun a => decide (f a = t)) = ts.flatMap fun t => l.filter fun a => decide (f a = t) from by
          unfold List.flatMap
          refine congrArg List.flatten (List.map_congr_left fun t' ht => ?_)
          exact List.filter_cons_of_neg (by
            have : f a ≠ t' := fun e => n1 (e ▸ ht)
            simpa using this)]
      · rw [List.filter_cons_of_neg (by simpa using q)]
        have := ih n2 ((List.mem_cons.mp hm).resolve_left q)
        exact (this.append_left _).trans List.perm_middle
theorem srtPr_perm (s : List Int) : (srtPr s).Perm (prI 0 s) := flat_perm (f := fun p : Int × Nat => p.1) _ _ ((srtI_perm _).nodup_iff.mpr (ddl_nd s)) fun p hp => by
  rw [(srtI_perm _).mem_iff, ddl_mem]
  exact (prI_mem hp).1
def prD (p : Int × Nat) : PyData := .tuple [.int p.1, .int (p.2 : Int)]
theorem alike_prD (a b : Int × Nat) : PySem.W.alike (prD a) (prD b) = true := by
  unfold prD
  simp [PySem.W.alike, PySem.W.alikeAll]
theorem depth_prD (a : Int × Nat) : (prD a).depth = 1 := by
  unfold prD
  rw [PyData.depth, PyData.depthAll, PyData.depthAll, PyData.depthAll, PyData.depth, PyData.depth]
  rfl
theorem isPls_prD : ∀ l : List (Int × Nat), isPls (l.map prD) = true
  | [] => by simp [isPls]
  | a :: l => by
    rw [List.map_cons]
    unfold isPls
    rw [isPls_prD l, Bool.and_true]
    unfold prD
    simp [isPl, isPls]
theorem okSD_prD (l : List (Int × Nat)) : okSD (l.map prD) = true := by
  unfold okSD
  simp only [Bool.and_eq_true, Bool.or_eq_true, List.all_eq_true, decide_eq_true_eq]
  refine ⟨⟨.inl fun d hd => ?_, fun d hd d' hd' => ?_⟩, fun d hd => ?_⟩
  · obtain ⟨c, _, rfl⟩ := List.mem_map.mp hd
    rfl
  · obtain ⟨c, hc, rfl⟩ := List.mem_map.mp hd
    obtain ⟨c', hc', rfl⟩ := List.mem_map.mp hd'
    exact alike_prD _ _
  · obtain ⟨c, _, rfl⟩ := List.mem_map.mp hd
    rw [depth_prD]
    decide
theorem leD_prD {a b : Int × Nat} (h : a.1 < b.1 ∨ (a.1 = b.1 ∧ a.2 < b.2)) : leD (prD a) (prD b) := by
  unfold leD prD
  rw [PySem.W.dataLt_pair (by simp [PySem.W.alike]) (by simp [PySem.W.alike])]
  rcases h with h | ⟨h, h'⟩
  · have e : PyData.eqv (.int b.1) (.int a.1) = false := by
      simp only [PyData.eqv]
      exact decide_eq_false (by omega)
    rw [e, if_neg (by decide), PySem.W.dataLt_int]
    exact decide_eq_false (by omega)
  · have e : PyData.eqv (.int b.1) (.int a.1) = true := by
      simp only [PyData.eqv]
      exact decide_eq_true (by omega)
    rw [e, if_pos rfl, PySem.W.dataLt_int]
    split
    · rfl
    · exact decide_eq_false (by omega)
theorem srtPr_D (s : List Int) : srtD ((prI 0 s).map prD) = (srtPr s).map prD := (srtD_uniq (isPls_prD _) (okSD_prD _) ((srtPr_perm s).map prD) (List.pairwise_map.mpr ((srtPr_asc s).imp fun h => leD_prD h))).symm
def ocA (us : List UnO) (p : Int × Nat) : Oc := match us[p.2]? with
  | some u => (p.1, u.z, u.d)
  | none => (p.1, "", 1)
/-- the occasions of a choice, by their days -/
def rowU (us : List UnO) (s : List Int) : List Oc := (srtPr s).map (ocA us)
theorem rowU_len (us : List UnO) (s : List Int) : (rowU us s).length = s.length := by
  unfold rowU
  rw [List.length_map, (srtPr_perm s).length_eq, prI_len]
theorem ocA_fst (us : List UnO) (p : Int × Nat) : (ocA us p).1 = p.1 := by
  unfold ocA
  split <;> rfl
theorem rowU_day {us : List UnO} {s : List Int} : ∀ o ∈ rowU us s, o.1 ∈ s := fun o ho => by
  obtain ⟨p, hp, rfl⟩ := List.mem_map.mp ho
  rw [ocA_fst]
  exact (prI_mem ((srtPr_perm s).mem_iff.mp hp)).1
theorem rowU_ok {us : List UnO} {s : List Int} (hu : ∀ u ∈ us, nameB u.z = true ∧ 1 ≤ u.d) (hl : s.length = us.length) (h0 : ∀ d ∈ s, 0 ≤ d) : ∀ o ∈ rowU us s, OcOk o := fun o ho => by
  have h1 := h0 _ (rowU_day o ho)
  obtain ⟨p, hp, rfl⟩ := List.mem_map.mp ho
  have h2 := (prI_mem ((srtPr_perm s).mem_iff.mp hp)).2.2
  rw [Nat.zero_add, hl] at h2
  have hm := hu _ (List.getElem_mem h2)
  have e : ocA us p = (p.1, us[p.2].z, us[p.2].d) := by
    unfold ocA
    rw [List.getElem?_eq_getElem h2]
  rw [e] at h1 ⊢
  exact ⟨h1, hm.1, hm.2⟩
theorem asc_of : ∀ {l : List Oc} {t : Int}, l.Pairwise (fun a b => a.1 ≤ b.1) → (∀ o ∈ l, t ≤ o.1) → Asc t l
  | [], _, _, _ => trivial
  | o :: l, t, p, h => by
    obtain ⟨p1, p2⟩ := List.pairwise_cons.mp p
    exact ⟨h o (List.mem_cons_self ..), asc_of p2 p1⟩
theorem rowU_asc {us : List UnO} {s : List Int} (h0 : ∀ d ∈ s, 0 ≤ d) : Asc 0 (rowU us s) := by
  refine asc_of ?_ fun o ho => h0 _ (rowU_day o ho)
  unfold rowU
  rw [List.pairwise_map]
  refine (srtPr_asc s).imp fun {a b} h => ?_
  rw [ocA_fst, ocA_fst]
  omega
/-- the same, as a law tells it -/
def rowL (us : List UnO) (s : List Int) : List Oc := (srtI (ddl s)).flatMap fun t => ((us.zip s).filter fun p => decide (p.2 = t)).map fun p => (t, p.1.z, p.1.d)
theorem row_pre (t : Int) : ∀ (us : List UnO) (s : List Int) (pre : List UnO), s.length = us.length → ((prI pre.length s).filter fun p => decide (p.1 = t)).map (ocA (pre ++ us)) = ((us.zip s).filter fun p => decide (p.2 = t)).map fun p => (t, p.1.z, p.1.d)
  | [], [], pre, _ => rfl
  | [], _ :: _, _, h => by simp at h
  | _ :: _, [], _, h => by simp at h
  | u :: us, d :: s, pre, h => by
    have ih := row_pre t us s (pre ++ [u]) (by simpa using h)
    rw [List.length_append, List.length_singleton, List.append_assoc] at ih
    unfold prI
    rw [List.zip_cons_cons]
    by_cases q : d = t
    · subst q
      rw [List.filter_cons_of_pos (by simp), List.filter_cons_of_pos (by simp), List.map_cons, List.map_cons]
      refine congr (congrArg List.cons ?_) ih
      unfold ocA
      dsimp only
      rw [List.getElem?_append_right (Nat.le_refl _), Nat.sub_self]
      rfl
    · rw [List.filter_cons_of_neg (by simpa using q), List.filter_cons_of_neg (by simpa using q)]
      exact ih
theorem rowL_eq {us : List UnO} {s : List Int} (hl : s.length = us.length) : rowL us s = rowU us s := by
  unfold rowL rowU srtPr
  rw [List.map_flatMap]
  unfold List.flatMap
  exact congrArg List.flatten (List.map_congr_left fun t _ => (row_pre t us s [] hl).symm)
end


noncomputable section

/-! unsure occasions: made, their choices, what these fill -/
def chT (s : List Int) : T := .tup (s.map T.int)
theorem okR_chT {n : Nat} (s : List Int) : okR n (chT s) = true := by
  unfold chT
  rw [okR_tup]
  exact okRs_all fun x hx => by
    obtain ⟨i, _, rfl⟩ := List.mem_map.mp hx
    exact okR_int
theorem okRs_chT {n : Nat} (l : List (List Int)) : okRs n (l.map chT) = true := okRs_all fun x hx => by
  obtain ⟨s, _, rfl⟩ := List.mem_map.mp hx
  exact okR_chT s
theorem nlks_chT (l : List (List Int)) : nlks (l.map chT) = true := nlks_all fun x hx => by
  obtain ⟨s, _, rfl⟩ := List.mem_map.mp hx
  unfold chT nlk
  exact nlks_ints s
def unsT (us : List UnO) : T := .obj "Unsure" ["occasions"] [.tup (us.map UnO.t)]
theorem okR_unsT {n : Nat} (us : List UnO) : okR n (unsT us) = true := by
  have o1 := okRs_un (n := n) us
  unfold unsT
  simp only [okR_obj, okRs_cons, okRs_nil, okR_tup, o1, Bool.and_self]
structure UnC (u : UnO) : Prop where
  f0 : 0 ≤ u.f
  f1 : u.f ≤ 10 ^ 17
  w0 : 1 ≤ u.w
  w1 : u.w ≤ 1000
  z : nameB u.z = true
  d : 1 ≤ u.d
theorem rgU {u : UnO} (h : UnC u) : fRng2 [.int u.f, .int (u.f + u.w - 1 + 1)] = some ((dysP u).map T.int) := by
  have f0 := h.f0
  have f1 := h.f1
  have w0 := h.w0
  have w1 := h.w1
  have b : -(2 ^ 62) ≤ u.f ∧ u.f < 2 ^ 62 ∧ -(2 ^ 62) ≤ (u.f + u.w - 1 + 1) ∧ (u.f + u.w - 1 + 1) < 2 ^ 62 := ⟨by omega, by omega, by omega, by omega⟩
  have e : rgT u.f (u.f + u.w - 1 + 1 - u.f).toNat = (dysP u).map T.int := by rw [show u.f + u.w - 1 + 1 - u.f = u.w by omega, dysP_T]
  simp only [fRng2, b, and_self, if_true, e]
theorem dysP_le {u : UnO} (h : UnC u) : (dysP u).length ≤ 1000 := by
  rw [dysP_len]
  have := h.w1
  omega
theorem lcL2_leU {α : Type} {g g1 : Tg} {tt tt1 : Ev Bool} {fi1 : Ev Src} {te : Ev T} {vs1 : List Nat} {c : Cf} {ρ : Ro} {S : St} (F : α → T) (G : α → List T) : ∀ (l : List α) (acc : List T), acc.length + (l.flatMap G).length ≤ 1000000 → (∀ a ∈ l, ∀ acc : List T, acc.length + (G a).length ≤ 1000000 → ∃ ρ1 src, g (F a) c ρ S = some (ρ1, S) ∧ tt c ρ1 S = .ok true S ∧ fi1 c ρ1 S = .ok src S ∧ lcS g1 tt1 te src acc c (wipeS vs1 ρ1) S = .ok (acc ++ G a) S) → lcL2 vs1 g tt fi1 g1 tt1 te (l.map F) acc c ρ S = .ok (acc ++ l.flatMap G) S
  | [], acc, _, _ => by rw [List.flatMap_nil, List.append_nil]; rfl
  | a :: l, acc, hl, h => by
    rw [List.flatMap_cons, List.length_append] at hl
    obtain ⟨ρ1, src, h1, h2, h3, h4⟩ := h a (List.mem_cons_self ..) acc (by omega)
    rw [List.map_cons]
    unfold lcL2
    rw [h1]
    dsimp only
    rw [h2]
    dsimp only
    rw [h3]
    dsimp only
    rw [h4]
    dsimp only
    rw [lcL2_leU F G l (acc ++ G a) (by rw [List.length_append]; omega) fun b hb => h b (List.mem_cons_of_mem _ hb), List.flatMap_cons, List.append_assoc]
theorem kL_ofU {o : List T → Option (List T)} {r : Ev (List T)} {c : Cf} {ρ : Ro} {S : St} {l : List T} {ts : List T} (h1 : r c ρ S = .ok ts S) (h2 : o ts = some l) : mL o r c ρ S = .ok (.fix l) S := by
  rw [e_L, h1]
  show kL o ts S = _
  rw [e_L1, h2]
  rfl
section
variable {c : Cf} {S : St}
theorem isUn_eq {u : UnO} (h : UnC u) : F_is_unsure c [u.t] S = .ok (.bl true) S := by
  have f0 := h.f0
  have w0 := h.w0
  have e1 : ∀ c S, F_is_number c [.int u.f] S = .ok (.bl true) S := fun c S => by rw [isNum_eq, decide_eq_true f0]
  have e1b : ∀ c S, F_is_number c [.int (u.f + u.w - 1)] S = .ok (.bl true) S := fun c S => by rw [isNum_eq, decide_eq_true (by omega)]
  have e2 : ∀ c S, F_is_name c [.str u.z] S = .ok (.bl true) S := fun c S => by rw [isName_eq _ (nameB_le h.z), h.z]
  have e3 : ∀ c S, F_is_length c [.int u.d] S = .ok (.bl true) S := fun c S => by rw [isLen_eq, decide_eq_true h.d]
  have e4 : fIsB Cs_all "tuple" (.tup [.int u.f, .int (u.f + u.w - 1), .str u.z, .int u.d]) = some (.bl true) := rfl
  have e5 : bLenA [.tup [.int u.f, .int (u.f + u.w - 1), .str u.z, .int u.d]] = some (.int 4) := rfl
  have e6 : oNe (.int 4) (.int 4) = some (.bl false) := rfl
  have e7 : oGt (.int u.f) (.int (u.f + u.w - 1)) = some (.bl false) := by rw [v_gt, decide_eq_false (by omega)]
  unfold UnO.t
  clear f0 w0 h
  generalize u.f + u.w - 1 = l at *
  generalize u.f = f at *
  generalize u.z = z at *
  generalize u.d = d at *
  unfold F_is_unsure b_is_unsure
  generalize F_is_number = Fa at *
  generalize F_is_name = Fb at *
  generalize F_is_length = Fc at *
  walk_at "nm"
theorem uns_for (a0 a1 : Option T) (c : Cf) (S : St) : ∀ (us : List UnO) (i : Nat) (o2 o3 : Option T), (∀ u ∈ us, UnC u) → ∃ o2' o3', forL (gTup [(gNm 2), (gNm 3)]) L_Unsure___init___1 (enT i (us.map UnO.t)) c [a0, a1, o2, o3] S = .nx [a0, a1, o2', o3'] S
  | [], i, o2, o3, _ => ⟨o2, o3, rfl⟩
  | u :: us, i, o2, o3, ok => by
    obtain ⟨o2', o3', h⟩ := uns_for a0 a1 c S us (i + 1) (some (.int i)) (some u.t) (fun x hx => ok x (List.mem_cons_of_mem _ hx))
    refine ⟨o2', o3', ?_⟩
    have e1 : ∀ c S, F_is_unsure c [u.t] S = .ok (.bl true) S := fun c S => isUn_eq (ok u (List.mem_cons_self ..))
    rw [List.map_cons]
    show forL _ _ (T.tup [.int i, u.t] :: enT (i + 1) (us.map UnO.t)) _ _ _ = _
    rw [e_forS]
    have e : gTup [gNm 2, gNm 3] (T.tup [.int i, u.t]) c [a0, a1, o2, o3] S = some ([a0, a1, some (.int i), some u.t], S) := by rfl
    have b : L_Unsure___init___1 c [a0, a1, some (.int i), some u.t] S = .nx [a0, a1, some (.int i), some u.t] S := by
      clear h e ok
      generalize u.t = t at *
      unfold L_Unsure___init___1
      generalize F_is_unsure = Fa at *
      walk_at "nm"
    rw [e, e_forG, b, e_forKn]
    exact h
/-- unsure occasions made of a list -/
theorem mk_uns {us : List UnO} (ok : ∀ u ∈ us, UnC u) : kMk "Unsure" F_Unsure___init__ [] [.lst (us.map UnO.t)] S = .ok (unsT us) S := by
  have o1 := okRs_un (n := 0) us
  have e1 : ∀ c S, F_is_sequence c [.lst (us.map UnO.t)] S = .ok (.bl true) S := fun c S => isSeq_l o1
  have w : wrOk ⟨S.length, S.length⟩ S.length (.tup (us.map UnO.t)) = true := wr_own (Nat.le_refl _) (Nat.le_refl _)
  have p : fldPut ["Story", "Unsure"] "occasions" ⟨S.length, S.length⟩ (.ref S.length) (.tup (us.map UnO.t)) (S ++ [.obj "Unsure" [] []]) = some (S ++ [unsT us]) := by
    unfold fldPut
    dsimp only
    rw [app_g0]
    show (if ("Unsure" : Str) ∈ (["Story", "Unsure"] : List Str) ∧ ([] : List Str).length < 1000 ∧ wrOk ⟨S.length, S.length⟩ S.length (.tup (us.map UnO.t)) = true then some ((S ++ [T.obj "Unsure" [] []]).set S.length (.obj "Unsure" (putN "occasions" (.tup (us.map UnO.t)) [] []).1 (putN "occasions" (.tup (us.map UnO.t)) [] []).2)) else none) = _
    rw [if_pos ⟨List.mem_cons_of_mem _ (List.mem_cons_self ..), by decide, w⟩, app_s0]
    rfl
  have q : mkR S (.ok .non (S ++ [unsT us])) = .ok (unsT us) S := mkR_ok (by rw [app_g0]; rfl) (by
    have o1 := okRs_un (n := S.length) us
    simp only [okRs_cons, okRs_nil, okR_tup, o1, Bool.and_self])
  obtain ⟨o2, o3, h⟩ := uns_for (some (.ref S.length)) (some (.lst (us.map UnO.t))) ⟨S.length, S.length⟩ (S ++ [.obj "Unsure" [] []]) us 0 none none ok
  rw [e_mk1]
  clear w ok o1
  generalize unsT us = st at *
  generalize us.map UnO.t = l at *
  unfold F_Unsure___init__ b_Unsure___init__
  generalize L_Unsure___init___1 = Lb at *
  generalize F_is_sequence = Fa at *
  generalize S ++ [T.obj "Unsure" [] []] = S1 at *
  generalize S ++ [st] = S2 at *
  walk_at "nm"
/-! the choices -/
def chE : Ev T := mTup (mStar (mVar 6) (mCons (mVar 7) mNil))
def chF : Ev Src := mL fRng2 (mCons (mVar 2) (mCons (mOp oAdd (mVar 3) (mC (.int 1))) mNil))
theorem ch_one {s : List Int} (hs : s.length ≤ 1000) (d : Int) (x0 x1 x2 x3 x4 x5 : Option T) : chE c [x0, x1, x2, x3, x4, x5, some (chT s), some (.int d)] S = .ok (chT (s ++ [d])) S := by
  have sq : seqT (chT s) = some (s.map T.int) := rfl
  have e : chT (s ++ [d]) = .tup (s.map T.int ++ [.int d]) := by unfold chT; rw [List.map_append]; rfl
  have ln : (s.map T.int ++ [T.int d]).length ≤ 1000000 := by rw [List.length_append, List.length_map, List.length_singleton]; omega
  rw [e]
  generalize chT s = ta at *
  generalize s.map T.int = la at *
  clear hs
  have kt : kTup (la ++ [T.int d]) S = .ok (.tup (la ++ [T.int d])) S := if_pos ln
  clear ln
  unfold chE
  walk_at "nm"
theorem ch_in {s : List Int} (hs : s.length ≤ 1000) (ds : List Int) (acc : List T) (ha : acc.length + ds.length ≤ 1000000) (x0 x1 x2 x3 x4 x5 : Option T) : lcL (gNm 7) mYes chE (ds.map T.int) acc c [x0, x1, x2, x3, x4, x5, some (chT s), none] S = .ok (acc ++ ds.map fun d => chT (s ++ [d])) S := by
  have := lcL_filt (c := c) (ρ := [x0, x1, x2, x3, x4, x5, some (chT s), none]) (S := S) (g := gNm 7) (tt := mYes) (te := chE) T.int (fun _ => true) (fun d => chT (s ++ [d])) ds acc ha fun d _ => ⟨_, rfl, rfl, fun _ => ch_one hs d x0 x1 x2 x3 x4 x5⟩
  have ft : ds.filter (fun _ => true) = ds := List.filter_eq_self.mpr fun _ _ => rfl
  rw [ft] at this
  exact this
theorem ch_src {u : UnO} (h : UnC u) (x0 x1 x4 x5 x6 x7 : Option T) : chF c [x0, x1, some (.int u.f), some (.int (u.f + u.w - 1)), x4, x5, x6, x7] S = .ok (.fix ((dysP u).map T.int)) S :=
  kL_ofU (o := fRng2) (r := mCons (mVar 2) (mCons (mOp oAdd (mVar 3) (mC (.int 1))) mNil)) (ts := [.int u.f, .int (u.f + u.w - 1 + 1)]) rfl (rgU h)
theorem chsU_T (l : List (List Int)) (u : UnO) : (chsU l u).map chT = l.flatMap fun s => (dysP u).map fun d => chT (s ++ [d]) := by
  unfold chsU
  rw [List.map_flatMap]
  congr 1
  funext s
  rw [List.map_map]
  rfl
theorem ch_turn {u : UnO} (h : UnC u) {l : List (List Int)} (hl : (chsU l u).length ≤ 100000) (h1 : ∀ s ∈ l, s.length ≤ 1000) (x0 x4 x5 x6 x7 : Option T) : L_choices_1 c [x0, some (.lst (l.map chT)), some (.int u.f), some (.int (u.f + u.w - 1)), x4, x5, x6, x7] S = .nx [x0, some (.lst ((chsU l u).map chT)), some (.int u.f), some (.int (u.f + u.w - 1)), x4, x5, x6, x7] S := by
  have lc : lcL2 [7] (gNm 6) mYes chF (gNm 7) mYes chE (l.map chT) [] c [x0, some (.lst (l.map chT)), some (.int u.f), some (.int (u.f + u.w - 1)), x4, x5, none, none] S = .ok ((chsU l u).map chT) S := by
    rw [chsU_T]
    refine lcL2_leU chT (fun s => (dysP u).map fun d => chT (s ++ [d])) l [] ?_ fun s hs acc ha => ?_
    · rw [← chsU_T, List.length_map, List.length_nil]
      omega
    · rw [List.length_map] at ha
      exact ⟨[x0, some (.lst (l.map chT)), some (.int u.f), some (.int (u.f + u.w - 1)), x4, x5, some (chT s), none], .fix ((dysP u).map T.int), rfl, rfl, ch_src h _ _ _ _ _ _, ch_in (h1 s hs) (dysP u) acc ha _ _ _ _ _ _⟩
  have w : wipeS [6, 7] [x0, some (.lst (l.map chT)), some (.int u.f), some (.int (u.f + u.w - 1)), x4, x5, x6, x7] = [x0, some (.lst (l.map chT)), some (.int u.f), some (.int (u.f + u.w - 1)), x4, x5, none, none] := rfl
  have el := @e_lc2
  have el1 := @e_lc21
  have hb : L_choices_1 = sAsg (mLc2 [6, 7] [7] (mSeqOf (mVar 1)) (gNm 6) mYes chF (gNm 7) mYes chE) (gNm 1) := rfl
  rw [hb]
  clear hb h hl h1
  generalize chF = cf at *
  generalize chE = ce at *
  generalize (chsU l u).map chT = Z at *
  generalize l.map chT = L at *
  generalize u.f + u.w - 1 = hi at *
  generalize u.f = lo at *
  walk_at "nm"
theorem ch_for : ∀ (us : List UnO) (l : List (List Int)) (x0 x2 x3 x4 x5 x6 x7 : Option T), (∀ u ∈ us, UnC u) → (us.foldl chsU l).length ≤ 100000 → (∀ s ∈ l, s.length + us.length ≤ 1000) → ∃ y2 y3 y4 y5, forL (gTup [gNm 2, gNm 3, gNm 4, gNm 5]) L_choices_1 (us.map UnO.t) c [x0, some (.lst (l.map chT)), x2, x3, x4, x5, x6, x7] S = .nx [x0, some (.lst ((us.foldl chsU l).map chT)), y2, y3, y4, y5, x6, x7] S
  | [], l, x0, x2, x3, x4, x5, x6, x7, _, _, _ => ⟨x2, x3, x4, x5, rfl⟩
  | u :: us, l, x0, x2, x3, x4, x5, x6, x7, hu, hl, h1 => by
    have fl := fold_len us (chsU l u) fun v hv => (hu v (List.mem_cons_of_mem _ hv)).w0
    have hl' : (us.foldl chsU (chsU l u)).length ≤ 100000 := hl
    obtain ⟨y2, y3, y4, y5, e⟩ := ch_for us (chsU l u) x0 (some (.int u.f)) (some (.int (u.f + u.w - 1))) (some (.str u.z)) (some (.int u.d)) x6 x7 (fun v hv => hu v (List.mem_cons_of_mem _ hv)) hl' (fun s hs => by
      unfold chsU at hs
      obtain ⟨r, hr, hm⟩ := List.mem_flatMap.mp hs
      obtain ⟨d, _, rfl⟩ := List.mem_map.mp hm
      have := h1 r hr
      rw [List.length_cons] at this
      rw [List.length_append, List.length_singleton]
      omega)
    have t := ch_turn (c := c) (S := S) (hu u (List.mem_cons_self ..)) (l := l) (by omega) (fun s hs => by have := h1 s hs; omega) x0 (some (.str u.z)) (some (.int u.d)) x6 x7
    refine ⟨y2, y3, y4, y5, ?_⟩
    have g : gTup [gNm 2, gNm 3, gNm 4, gNm 5] (UnO.t u) c [x0, some (.lst (l.map chT)), x2, x3, x4, x5, x6, x7] S = some ([x0, some (.lst (l.map chT)), some (.int u.f), some (.int (u.f + u.w - 1)), some (.str u.z), some (.int u.d), x6, x7], S) := rfl
    rw [List.map_cons, e_forS, g, e_forG, t, e_forKn]
    exact e
theorem choices_eq {us : List UnO} (hu : ∀ u ∈ us, UnC u) (hw : wd us ≤ 100000) (hl : us.length ≤ 1000) (c : Cf) (S : St) : F_choices c [unsT us] S = .ok (.lst ((chU us).map chT)) S := by
  have wl := chU_wd (us := us) fun u h => (hu u h).w0
  have f1 : fFldC ["Story", "Unsure"] "occasions" (unsT us) = some (.tup (us.map UnO.t)) := rfl
  have vu : ∀ S, vw S (unsT us) = unsT us := fun S => rfl
  have o1 := okR_unsT (n := 0) us
  have o2 : okRs 0 ((chU us).map chT) = true := okRs_chT _
  obtain ⟨y2, y3, y4, y5, e⟩ := ch_for (c := ⟨0, 0⟩) (S := []) us [[]] (some (unsT us)) none none none none none none hu (by rw [chsU_all]; omega) (fun s hs => by rw [List.mem_singleton] at hs; subst hs; show 0 + us.length ≤ 1000; omega)
  rw [chsU_all] at e
  have e0 : ([[]] : List (List Int)).map chT = [.tup []] := rfl
  rw [e0] at e
  have kt : kTup [] [] = .ok (.tup []) [] := rfl
  clear wl hu hw hl e0
  generalize (chU us).map chT = L at *
  generalize us.map UnO.t = ul at *
  generalize unsT us = ut at *
  unfold F_choices b_choices
  generalize L_choices_1 = Lb at *
  walk_at "nm"
/-! what a choice fills -/
def daT (p : Int × Nat) : T := .tup [.int p.1, .int (p.2 : Int)]
theorem ofDs_pr (l : List (Int × Nat)) : ofDs (l.map prD) = l.map daT := by
  rw [ofDs_map, List.map_map]
  refine List.map_congr_left fun p _ => ?_
  show ofD (prD p) = daT p
  unfold prD daT
  simp [ofD, ofDs]
theorem plTs_pr : ∀ l : List (Int × Nat), plTs (l.map daT) = some (l.map prD)
  | [] => by simp [plTs]
  | p :: l => by
    have e : plT (daT p) = some (prD p) := by unfold daT prD; simp [plT, plTs]
    rw [List.map_cons, List.map_cons]
    unfold plTs
    rw [e, plTs_pr l]
theorem srt_pr (s : List Int) : bSrtD [.lst ((prI 0 s).map daT)] = some (.lst ((srtPr s).map daT)) := by
  unfold bSrtD
  dsimp only
  rw [plTs_pr]
  dsimp only
  rw [if_pos (okSD_prD _), srtPr_D, ofDs_pr]
theorem lc_pr (x0 x1 x2 : Option T) : ∀ (s : List Int) (i : Nat) (acc : List T), acc.length + s.length ≤ 1000000 → lcL (gTup [(gNm 3), (gNm 4)]) mYes (mTup (mCons (mVar 4) (mCons (mVar 3) mNil))) (enT i (s.map T.int)) acc c [x0, x1, x2, none, none] S = .ok (acc ++ (prI i s).map daT) S
  | [], i, acc, _ => by
    rw [show (prI i []).map daT = [] from rfl, List.append_nil]
    rfl
  | d :: s, i, acc, hl => by
    rw [List.length_cons] at hl
    have ih := lc_pr x0 x1 x2 s (i + 1) (acc ++ [daT (d, i)]) (by rw [List.length_append, List.length_singleton]; omega)
    have e : (mTup (mCons (mVar 4) (mCons (mVar 3) mNil))) c [x0, x1, x2, some (.int (i : Int)), some (.int d)] S = .ok (daT (d, i)) S := by
      unfold daT
      clear ih
      walk_at "nm"
    have st : lcL (gTup [(gNm 3), (gNm 4)]) mYes (mTup (mCons (mVar 4) (mCons (mVar 3) mNil))) (enT i ((d :: s).map T.int)) acc c [x0, x1, x2, none, none] S = lcL (gTup [(gNm 3), (gNm 4)]) mYes (mTup (mCons (mVar 4) (mCons (mVar 3) mNil))) (enT (i + 1) (s.map T.int)) (acc ++ [daT (d, i)]) c [x0, x1, x2, none, none] S := by
      rw [List.map_cons]
      show lcL _ _ _ (T.tup [.int (i : Int), .int d] :: enT (i + 1) (s.map T.int)) _ _ _ _ = _
      have g : gTup [(gNm 3), (gNm 4)] (T.tup [.int (i : Int), .int d]) c [x0, x1, x2, none, none] S = some ([x0, x1, x2, some (.int (i : Int)), some (.int d)], S) := rfl
      rw [e_lcS, g, e_lcG, show ∀ ρ, mYes c ρ S = .ok true S from fun _ => rfl, e_lcBt, e, e_lcA (by omega)]
    rw [st, ih]
    show Rs.ok (acc ++ [daT (d, i)] ++ (prI (i + 1) s).map daT) S = .ok (acc ++ (daT (d, i) :: (prI (i + 1) s).map daT)) S
    rw [List.append_assoc]
    rfl
theorem oc_one {us : List UnO} {p : Int × Nat} (hp : p.2 < us.length) (x2 : Option T) (s : List Int) : (mTup (mCons (mVar 4) (mCons (mIxA (mIxA (mFld ["Story", "Unsure"] "occasions" (mVar 0)) (mVar 3)) (mC (.int 2))) (mCons (mIxA (mIxA (mFld ["Story", "Unsure"] "occasions" (mVar 0)) (mVar 3)) (mC (.int 3))) mNil)))) c [some (unsT us), some (chT s), x2, some (.int (p.2 : Int)), some (.int p.1)] S = .ok (occT (ocA us p)) S := by
  have f1 : fFldC ["Story", "Unsure"] "occasions" (unsT us) = some (.tup (us.map UnO.t)) := rfl
  have vu : ∀ S, vw S (unsT us) = unsT us := fun S => rfl
  have e : ocA us p = (p.1, us[p.2].z, us[p.2].d) := by
    unfold ocA
    rw [List.getElem?_eq_getElem hp]
  have i1 : ∀ S, ixR (.tup (us.map UnO.t)) (.int (p.2 : Int)) S = .ok (us[p.2].t) S := fun S => by
    have := atI_nat (l := us.map UnO.t) (i := (p.2 : Int)) (x := us[p.2].t) (by omega) (by rw [List.getElem?_map, Int.toNat_natCast, List.getElem?_eq_getElem hp]; rfl)
    show optR (atI (us.map UnO.t) (p.2 : Int)) S = _
    rw [this]
    rfl
  have i2 : ∀ S, ixR (us[p.2].t) (.int 2) S = .ok (.str us[p.2].z) S := fun S => ix_t2
  have i3 : ∀ S, ixR (us[p.2].t) (.int 3) S = .ok (.int us[p.2].d) S := fun S => ix_t3
  rw [e]
  show _ = Rs.ok (T.tup [.int p.1, .str us[p.2].z, .int us[p.2].d]) S
  generalize us[p.2].z = z at *
  generalize us[p.2].d = d at *
  generalize us[p.2].t = ut at *
  generalize us.map UnO.t = ul at *
  generalize unsT us = st at *
  generalize chT s = ct at *
  generalize (p.2 : Int) = k at *
  clear e hp
  walk_at "nm"
theorem filled_eq {us : List UnO} {s : List Int} (hu : ∀ u ∈ us, UnC u) (hs : ChOf us s) (hl : us.length ≤ 1000) (c : Cf) (S : St) : F_filled c [unsT us, chT s] S = .ok (storyT (rowU us s)) S := by
  have sl := hs.len
  have h0 : ∀ d ∈ s, 0 ≤ d := fun d hd => by
    obtain ⟨u, h1, h2⟩ := hs.day d hd
    have := (hu u h1).f0
    have := (dysP_mem.mp h2).1
    omega
  have oc := rowU_ok (us := us) (s := s) (fun u h => ⟨(hu u h).z, (hu u h).d⟩) sl h0
  have as := rowU_asc (us := us) h0
  have mk : ∀ S, kMk "Story" F_Story___init__ [] [.lst ((rowU us s).map occT)] S = .ok (storyT (rowU us s)) S := fun S => mk_story fun _ _ => needL_eq oc as
  have o1 := okR_unsT (n := 0) us
  have o2 := okR_chT (n := 0) s
  have o3 : okR 0 (storyT (rowU us s)) = true := okR_story
  have lc1 := lc_pr (c := ⟨0, 0⟩) (S := []) (some (unsT us)) (some (chT s)) none s 0 [] (by rw [List.length_nil]; omega)
  rw [List.nil_append] at lc1
  have sp := srt_pr s
  have lc2 : lcL (gTup [(gNm 4), (gNm 3)]) mYes (mTup (mCons (mVar 4) (mCons (mIxA (mIxA (mFld ["Story", "Unsure"] "occasions" (mVar 0)) (mVar 3)) (mC (.int 2))) (mCons (mIxA (mIxA (mFld ["Story", "Unsure"] "occasions" (mVar 0)) (mVar 3)) (mC (.int 3))) mNil)))) ((srtPr s).map daT) [] ⟨0, 0⟩ [some (unsT us), some (chT s), some (.lst ((srtPr s).map daT)), none, none] [] = .ok ((rowU us s).map occT) [] := by
    have := lcL_filt (c := ⟨0, 0⟩) (ρ := [some (unsT us), some (chT s), some (.lst ((srtPr s).map daT)), none, none]) (S := []) (g := gTup [(gNm 4), (gNm 3)]) (tt := mYes) (te := mTup (mCons (mVar 4) (mCons (mIxA (mIxA (mFld ["Story", "Unsure"] "occasions" (mVar 0)) (mVar 3)) (mC (.int 2))) (mCons (mIxA (mIxA (mFld ["Story", "Unsure"] "occasions" (mVar 0)) (mVar 3)) (mC (.int 3))) mNil)))) daT (fun _ => true) (fun p => occT (ocA us p)) (srtPr s) [] (by rw [(srtPr_perm s).length_eq, prI_len, List.length_nil]; omega) fun p hp => ⟨_, rfl, rfl, fun _ => oc_one (by
      have := (prI_mem ((srtPr_perm s).mem_iff.mp hp)).2.2
      omega) _ s⟩
    rw [List.filter_eq_self.mpr fun _ _ => rfl, List.nil_append] at this
    rw [this]
    unfold rowU
    rw [List.map_map]
    rfl
  have w1 : wipeS [3, 4] [some (unsT us), some (chT s), none, none, none] = [some (unsT us), some (chT s), none, none, none] := rfl
  have w2 : wipeS [4, 3] [some (unsT us), some (chT s), some (.lst ((srtPr s).map daT)), none, none] = [some (unsT us), some (chT s), some (.lst ((srtPr s).map daT)), none, none] := rfl
  have en : ∀ S, enR (seqT (chT s)) (chT s) S = .ok (.fix (enT 0 (s.map T.int))) S := fun S => rfl
  clear hu hs hl sl h0 oc as
  generalize storyT (rowU us s) = st at *
  generalize (rowU us s).map occT = rl at *
  generalize (srtPr s).map daT = pl at *
  generalize (prI 0 s).map daT = ql at *
  generalize enT 0 (s.map T.int) = el at *
  generalize unsT us = ut at *
  generalize chT s = ct at *
  generalize hE2 : (mTup (mCons (mVar 4) (mCons (mIxA (mIxA (mFld ["Story", "Unsure"] "occasions" (mVar 0)) (mVar 3)) (mC (.int 2))) (mCons (mIxA (mIxA (mFld ["Story", "Unsure"] "occasions" (mVar 0)) (mVar 3)) (mC (.int 3))) mNil)))) = E2 at *
  generalize hE1 : (mTup (mCons (mVar 4) (mCons (mVar 3) mNil))) = E1 at *
  unfold F_filled b_filled
  rw [hE1, hE2]
  generalize F_Story___init__ = Fa at *
  generalize bSrtD = bs at *
  clear hE1 hE2
  walk_at "nm"
end

end


noncomputable section

/-! unsure occasions: ends by choice, lapses, what is sure -/
section
variable {c : Cf} {S : St} {R : Rl} {us : List UnO}
theorem setI_eq {ns : List Int} (h : ns.length ≤ 1000) : bSetI [.lst (ns.map T.int)] = some (.lst ((srtI (ddl ns)).map T.int)) := by
  unfold bSetI
  dsimp only
  rw [if_pos (by rw [List.length_map]; exact h), toI_map]
  rfl
/-! whether a claim lives -/
end

end


noncomputable section

/-! unsure occasions: a law's own choices, and what they fill -/
section
variable {c : Cf}
theorem forC_nxU {g : Tg} {f : Sv} {c : Cf} {q : Nat} {L : List T} (I : Nat → Ro → St → Prop) (hq : ∀ i ρ S, I i ρ S → S[q]? = some (.lst L)) (hk : ∀ i x ρ S, L[i]? = some x → I i ρ S → ∃ ρ1, g x c ρ S = some (ρ1, S) ∧ ∃ ρ2 S2, f c ρ1 S = .nx ρ2 S2 ∧ I (i + 1) ρ2 S2) : ∀ (k i : Nat) (ρ : Ro) (S : St), I i ρ S → i ≤ L.length → L.length < k + i → ∃ ρ' S', forC g f q k i c ρ S = .nx ρ' S' ∧ I L.length ρ' S'
  | 0, i, ρ, S, h, hi, hl => by omega
  | k + 1, i, ρ, S, h, hi, hl => by
    unfold forC
    rw [hq i ρ S h]
    dsimp only
    cases e : L[i]? with
    | none =>
      have : i = L.length := by have := List.getElem?_eq_none_iff.mp e; omega
      subst this
      exact ⟨ρ, S, rfl, h⟩
    | some x =>
      obtain ⟨ρ1, e1, ρ2, S2, e2, h2⟩ := hk i x ρ S e h
      dsimp only
      rw [e1]
      dsimp only
      rw [e2]
      exact forC_nxU I hq hk k (i + 1) ρ2 S2 h2 (List.getElem?_eq_some_iff.mp e).1 (by omega)
theorem forL_nxU {g : Tg} {f : Sv} {c : Cf} {L : List T} (I : Nat → Ro → St → Prop) (hk : ∀ i x ρ S, L[i]? = some x → I i ρ S → ∃ ρ1, g x c ρ S = some (ρ1, S) ∧ ∃ ρ2 S2, f c ρ1 S = .nx ρ2 S2 ∧ I (i + 1) ρ2 S2) : ∀ (l : List T) (i : Nat) (ρ : Ro) (S : St), L.drop i = l → i ≤ L.length → I i ρ S → ∃ ρ' S', forL g f l c ρ S = .nx ρ' S' ∧ I L.length ρ' S'
  | [], i, ρ, S, hd, hi, h => by
    have : i = L.length := by have := List.drop_eq_nil_iff.mp hd; omega
    subst this
    exact ⟨ρ, S, rfl, h⟩
  | x :: l, i, ρ, S, hd, hi, h => by
    have ei : L[i]? = some x := by
      have := congrArg List.head? hd
      rw [List.head?_drop] at this
      exact this
    obtain ⟨ρ1, e1, ρ2, S2, e2, h2⟩ := hk i x ρ S ei h
    obtain ⟨ρ3, S3, e3, h3⟩ := forL_nxU I hk l (i + 1) ρ2 S2 (by rw [← List.drop_drop, hd]; rfl) (List.getElem?_eq_some_iff.mp ei).1 h2
    refine ⟨ρ3, S3, ?_, h3⟩
    rw [e_forS, e1, e_forG, e2, e_forKn]
    exact e3
def lxE : Ev T := mOp oAdd (mVar 7) (mTup (mCons (mVar 8) mNil))
theorem v_addTU {a b : List T} (h : a.length + b.length ≤ 1000000) : oAdd (.tup a) (.tup b) = some (.tup (a ++ b)) := by
  unfold oAdd
  first | (dsimp only; rw [if_pos h]) | (show (if a.length + b.length ≤ 1000000 then some (T.tup (a ++ b)) else none) = _; rw [if_pos h]) | (simp [h])
theorem lx_one {s : List Int} (hs : s.length ≤ 1000) (d : Int) (x0 x1 x2 x3 x4 x5 x6 : Option T) (S : St) : lxE ⟨0, 0⟩ [x0, x1, x2, x3, x4, x5, x6, some (chT s), some (.int d)] S = .ok (chT (s ++ [d])) S := by
  have q : chT (s ++ [d]) = .tup (s.map T.int ++ [.int d]) := by unfold chT; rw [List.map_append]; rfl
  have ad : oAdd (chT s) (.tup [.int d]) = some (.tup (s.map T.int ++ [.int d])) := v_addTU (by rw [List.length_map, List.length_singleton]; omega)
  rw [q]
  generalize s.map T.int = al at *
  generalize chT s = ct at *
  clear hs q
  unfold lxE
  walk_at "nm"
theorem lx_in {s : List Int} (hs : s.length ≤ 1000) (ds : List Int) (hl : ds.length ≤ 1000000) (x0 x1 x2 x3 x4 x5 x6 : Option T) (S : St) : lcL (gNm 8) mYes lxE (ds.map T.int) [] ⟨0, 0⟩ [x0, x1, x2, x3, x4, x5, x6, some (chT s), none] S = .ok (ds.map fun d => chT (s ++ [d])) S := by
  have := lcL_filt (c := ⟨0, 0⟩) (ρ := [x0, x1, x2, x3, x4, x5, x6, some (chT s), none]) (S := S) (g := gNm 8) (tt := mYes) (te := lxE) T.int (fun _ => true) (fun d => chT (s ++ [d])) ds [] (by rw [List.length_nil]; omega) fun d _ => ⟨_, rfl, rfl, fun _ => lx_one hs d x0 x1 x2 x3 x4 x5 x6 S⟩
  rw [List.filter_eq_self.mpr fun _ _ => rfl, List.nil_append] at this
  exact this
theorem lx_src {u : UnO} (h : UnC u) (x0 x1 x4 x5 x6 x7 x8 : Option T) (S : St) : chF ⟨0, 0⟩ [x0, x1, some (.int u.f), some (.int (u.f + u.w - 1)), x4, x5, x6, x7, x8] S = .ok (.fix ((dysP u).map T.int)) S :=
  kL_ofU (o := fRng2) (r := mCons (mVar 2) (mCons (mOp oAdd (mVar 3) (mC (.int 1))) mNil)) (ts := [.int u.f, .int (u.f + u.w - 1 + 1)]) rfl (rgU h)
/-- one choice made longer -/
theorem lx_turn {u : UnO} (h : UnC u) {s : List Int} (hs : s.length ≤ 1000) {n : Nat} {L : List T} {S : St} (hn : S[n]? = some (.lst L)) (hl : L.length ≤ 100000) (x0 x1 x4 x5 x8 : Option T) : L__law_choices_1 ⟨0, 0⟩ [x0, x1, some (.int u.f), some (.int (u.f + u.w - 1)), x4, x5, some (.ref n), some (chT s), x8] S = .nx [x0, x1, some (.int u.f), some (.int (u.f + u.w - 1)), x4, x5, some (.ref n), some (chT s), x8] (S.set n (.lst (L ++ (dysP u).map fun d => chT (s ++ [d])))) := by
  have dl := dysP_le h
  have src := lx_src h x0 x1 x4 x5 (some (.ref n)) (some (chT s)) none S
  have lc := lx_in hs (dysP u) (by omega) x0 x1 (some (.int u.f)) (some (.int (u.f + u.w - 1))) x4 x5 (some (.ref n)) S
  have src' := lx_src h x0 x1 x4 x5 (some (.ref n)) (some (chT s)) x8 S
  have le : lExt L [.lst ((dysP u).map fun d => chT (s ++ [d]))] = some (.non, L ++ (dysP u).map fun d => chT (s ++ [d])) := if_pos (by rw [List.length_map]; omega)
  have wr : wrOk ⟨0, 0⟩ n (.lst [.lst ((dysP u).map fun d => chT (s ++ [d]))]) = true := by
    have : okRs 0 ((dysP u).map fun d => chT (s ++ [d])) = true := okRs_all fun x hx => by
      obtain ⟨y, _, rfl⟩ := List.mem_map.mp hx
      exact okR_chT _
    unfold wrOk
    simp only [okR_lst, okRs_cons, okRs_nil, this, Bool.and_self, Bool.or_true, Nat.zero_le, decide_true]
  have lm := lmR_of (hh := lExt) (c := ⟨0, 0⟩) (n := n) (S := S) hn le wr
  have w : wipeS [8] [x0, x1, some (.int u.f), some (.int (u.f + u.w - 1)), x4, x5, some (.ref n), some (chT s), x8] = [x0, x1, some (.int u.f), some (.int (u.f + u.w - 1)), x4, x5, some (.ref n), some (chT s), none] := rfl
  have hb : L__law_choices_1 = sExpr (mLm lExt (mVar 6) (mCons (mLc [8] chF (gNm 8) mYes lxE) mNil)) := rfl
  rw [hb]
  clear hb
  generalize chF = sr at *
  generalize lxE = ce at *
  generalize S.set n _ = S' at *
  generalize ((dysP u).map fun d => chT (s ++ [d])) = Z at *
  generalize (dysP u).map T.int = RG at *
  generalize chT s = ct at *
  generalize u.f + u.w - 1 = hi at *
  generalize u.f = lo at *
  clear h hs hl le wr dl
  walk_at "nm"
/-- where the choices found so far stand -/
def ChAt (S : St) (x : T) (acc : List (List Int)) : Prop := x = .lst (acc.map chT) ∨ ∃ q, q < S.length ∧ x = .ref q ∧ S[q]? = some (.lst (acc.map chT))
theorem chsU_take (acc : List (List Int)) (u : UnO) {i : Nat} {s : List Int} (h : acc[i]? = some s) : chsU (acc.take (i + 1)) u = chsU (acc.take i) u ++ (dysP u).map fun d => s ++ [d] := by
  unfold chsU
  rw [List.take_succ, h, List.flatMap_append]
  show _ ++ ((dysP u).map (fun d => s ++ [d]) ++ []) = _
  rw [List.append_nil]
theorem chsU_len (l : List (List Int)) (u : UnO) : (chsU l u).length = l.length * (dysP u).length := by
  unfold chsU
  rw [List.length_flatMap]
  have : (l.map fun s => ((dysP u).map fun d => s ++ [d]).length) = List.replicate l.length (dysP u).length := by
    refine List.eq_replicate_iff.mpr ⟨List.length_map _, fun b hb => ?_⟩
    obtain ⟨d, _, rfl⟩ := List.mem_map.mp hb
    exact List.length_map _
  rw [this, List.sum_replicate_nat]
/-- one unsure occasion -/
theorem lx_un {u : UnO} (h : UnC u) {S : St} {x : T} {acc : List (List Int)} (f : ChAt S x acc) (hl : (chsU acc u).length ≤ 1000) (hL : ∀ s ∈ acc, s.length ≤ 1000) (x0 x2 x3 x4 x5 x6 x7 x8 : Option T) : ∃ ρ S' x' y2 y3 y4 y5 y6 y7, (∃ ρ1, gTup [gNm 2, gNm 3, gNm 4, gNm 5] u.t ⟨0, 0⟩ [x0, some x, x2, x3, x4, x5, x6, x7, x8] S = some (ρ1, S) ∧ L__law_choices_2 ⟨0, 0⟩ ρ1 S = .nx ρ S') ∧ ρ = [x0, some x', y2, y3, y4, y5, y6, y7, x8] ∧ ChAt S' x' (chsU acc u) := by
  let I : Nat → Ro → St → Prop := fun i ρ S' => ∃ y7, ρ = [x0, some x, some (.int u.f), some (.int (u.f + u.w - 1)), some (.str u.z), some (.int u.d), some (.ref S.length), y7, x8] ∧ S' = S ++ [.lst ((chsU (acc.take i) u).map chT)]
  have d1 : 1 ≤ (dysP u).length := by rw [dysP_len]; have := h.w0; omega
  have al0 : acc.length ≤ 1000 := by
    rw [chsU_len] at hl
    exact Nat.le_trans (Nat.le_mul_of_pos_right _ d1) hl
  have gl : ∀ i, (chsU (acc.take i) u).length ≤ 100000 := fun i => by
    rw [chsU_len] at hl ⊢
    have h1 : (acc.take i).length ≤ acc.length := List.length_take_le' ..
    have := Nat.mul_le_mul_right (dysP u).length h1
    omega
  have turn : ∀ i y ρ S', (acc.map chT)[i]? = some y → I i ρ S' → ∃ ρ1, gNm 7 y ⟨0, 0⟩ ρ S' = some (ρ1, S') ∧ ∃ ρ2 S2, L__law_choices_1 ⟨0, 0⟩ ρ1 S' = .nx ρ2 S2 ∧ I (i + 1) ρ2 S2 := by
    rintro i y ρ S' hy ⟨y7, rfl, rfl⟩
    rw [List.getElem?_map] at hy
    obtain ⟨a, ha, rfl⟩ := Option.map_eq_some_iff.mp hy
    refine ⟨_, rfl, _, _, lx_turn (n := S.length) (L := (chsU (acc.take i) u).map chT) h (hL a (List.mem_of_getElem? ha)) (by rw [List.getElem?_append_right (Nat.le_refl _), Nat.sub_self]; rfl) (by rw [List.length_map]; exact gl i) _ _ _ _ _, some (chT a), rfl, ?_⟩
    rw [List.set_append_right _ _ (Nat.le_refl _), Nat.sub_self, chsU_take acc _ ha, List.map_append, List.map_map]
    rfl
  have start : I 0 [x0, some x, some (.int u.f), some (.int (u.f + u.w - 1)), some (.str u.z), some (.int u.d), some (.ref S.length), x7, x8] (S ++ [.lst []]) := ⟨x7, rfl, rfl⟩
  have al : (acc.map chT).length = acc.length := List.length_map ..
  have fin : ∃ src, kSeq x (S ++ [.lst []]) = .ok src (S ++ [.lst []]) ∧ ∃ y7, kFor (gNm 7) L__law_choices_1 ⟨0, 0⟩ [x0, some x, some (.int u.f), some (.int (u.f + u.w - 1)), some (.str u.z), some (.int u.d), some (.ref S.length), x7, x8] src (S ++ [.lst []]) = .nx [x0, some x, some (.int u.f), some (.int (u.f + u.w - 1)), some (.str u.z), some (.int u.d), some (.ref S.length), y7, x8] (S ++ [.lst ((chsU acc u).map chT)]) := by
    have tk : acc.take (acc.map chT).length = acc := by rw [al, List.take_length]
    rcases f with rfl | ⟨n, hn, rfl, hS⟩
    · refine ⟨_, e_seqL, ?_⟩
      rw [e_for1]
      obtain ⟨ρ', S', e, y7, rfl, rfl⟩ := forL_nxU I turn (acc.map chT) 0 _ _ rfl (Nat.zero_le _) start
      rw [tk] at e
      exact ⟨y7, e⟩
    · have hS2 : ∀ t : T, (S ++ [t])[n]? = some (.lst (acc.map chT)) := fun t => by rw [List.getElem?_append_left hn]; exact hS
      refine ⟨.cell n, by rw [e_seqR, hS2]; rfl, ?_⟩
      rw [e_forC]
      obtain ⟨ρ', S', e, y7, rfl, rfl⟩ := forC_nxU (g := gNm 7) (f := L__law_choices_1) (c := ⟨0, 0⟩) (q := n) (L := acc.map chT) I (fun i ρ S' ⟨_, _, e⟩ => by rw [e]; exact hS2 _) turn whLine 0 _ _ start (Nat.zero_le _) (by rw [al]; unfold whLine; omega)
      rw [tk] at e
      exact ⟨y7, e⟩
  obtain ⟨src, e1, y7, e2⟩ := fin
  refine ⟨[x0, some (.ref S.length), some (.int u.f), some (.int (u.f + u.w - 1)), some (.str u.z), some (.int u.d), some (.ref S.length), y7, x8], S ++ [.lst ((chsU acc u).map chT)], .ref S.length, _, _, _, _, _, _, ⟨[x0, some x, some (.int u.f), some (.int (u.f + u.w - 1)), some (.str u.z), some (.int u.d), x6, x7, x8], rfl, ?_⟩, rfl, .inr ⟨S.length, by simp, rfl, by rw [List.getElem?_append_right (Nat.le_refl _), Nat.sub_self]; rfl⟩⟩
  clear turn start f gl hl hL al al0 d1 h
  unfold L__law_choices_2
  generalize L__law_choices_1 = Lb at *
  generalize S ++ [.lst ((chsU acc u).map chT)] = S' at *
  generalize u.f + u.w - 1 = hi at *
  generalize u.f = lo at *
  generalize u.z = uz at *
  generalize u.d = ud at *
  walk_at "nm"
theorem lx_all : ∀ (us : List UnO) (S : St) (x : T) (acc : List (List Int)) (x0 x2 x3 x4 x5 x6 x7 x8 : Option T), (∀ u ∈ us, UnC u) → ChAt S x acc → (us.foldl chsU acc).length ≤ 1000 → (∀ s ∈ acc, s.length + us.length ≤ 1000) →
    ∃ S' x' y2 y3 y4 y5 y6 y7, forL (gTup [gNm 2, gNm 3, gNm 4, gNm 5]) L__law_choices_2 (us.map UnO.t) ⟨0, 0⟩ [x0, some x, x2, x3, x4, x5, x6, x7, x8] S = .nx [x0, some x', y2, y3, y4, y5, y6, y7, x8] S' ∧ ChAt S' x' (us.foldl chsU acc)
  | [], S, x, acc, x0, x2, x3, x4, x5, x6, x7, x8, _, f, _, _ => ⟨S, x, x2, x3, x4, x5, x6, x7, rfl, f⟩
  | u :: us, S, x, acc, x0, x2, x3, x4, x5, x6, x7, x8, hu, f, hl, hL => by
    have fl := fold_len us (chsU acc u) fun v hv => (hu v (List.mem_cons_of_mem _ hv)).w0
    have hl' : (us.foldl chsU (chsU acc u)).length ≤ 1000 := hl
    obtain ⟨ρ, S', x', y2, y3, y4, y5, y6, y7, ⟨ρ1, e1, e2⟩, rfl, f'⟩ := lx_un (hu u (List.mem_cons_self ..)) f (by omega) (fun a ha => by have := hL a ha; omega) x0 x2 x3 x4 x5 x6 x7 x8
    obtain ⟨S2, x2', z2, z3, z4, z5, z6, z7, e, f2⟩ := lx_all us S' x' (chsU acc u) x0 y2 y3 y4 y5 y6 y7 x8 (fun z hz => hu z (List.mem_cons_of_mem _ hz)) f' hl' (fun a ha => by
      unfold chsU at ha
      obtain ⟨b, hb, hm⟩ := List.mem_flatMap.mp ha
      obtain ⟨j, _, e2⟩ := List.mem_map.mp hm
      have := hL b hb
      rw [← e2, List.length_append, List.length_singleton]
      rw [List.length_cons] at this
      omega)
    refine ⟨S2, x2', z2, z3, z4, z5, z6, z7, ?_, f2⟩
    rw [List.map_cons, e_forS, e1, e_forG, e2, e_forKn]
    exact e
theorem lawChoices_eq {us : List UnO} (hu : ∀ u ∈ us, UnC u) (hw : wd us ≤ 1000) (hl : us.length ≤ 1000) (c : Cf) (S : St) : F__law_choices c [.lst (us.map UnO.t)] S = .ok (.lst ((chU us).map chT)) S := by
  have wl := chU_wd (us := us) fun u h => (hu u h).w0
  obtain ⟨S', x', y2, y3, y4, y5, y6, y7, e, f⟩ := lx_all us [] (.lst [.tup []]) [[]] (some (.lst (us.map UnO.t))) none none none none none none none hu (.inl rfl) (by rw [chsU_all]; omega) (fun s hs => by rw [List.mem_singleton] at hs; subst hs; show 0 + us.length ≤ 1000; omega)
  rw [chsU_all] at f
  have o1 : okRs 0 (us.map UnO.t) = true := okRs_un us
  have ok := okRs_chT (n := 0) (chU us)
  have nk := nlks_chT (chU us)
  have fp : finP (.rt x' S') S = .ok (.lst ((chU us).map chT)) S := by
    rcases f with rfl | ⟨n, _, rfl, hn⟩
    · exact finP_rt (by rw [okR_lst]; exact ok)
    · exact finP_lst hn ok nk
  have kt : kTup [] [] = .ok (.tup []) [] := rfl
  clear f ok nk wl hu hw hl
  generalize (chU us).map chT = L at *
  generalize us.map UnO.t = ul at *
  have rp : runP 1 9 b__law_choices c [.lst ul] S = finP (b__law_choices ⟨0, 0⟩ (start0 9 [.lst ul]) []) S := ap_runP rfl (by simp only [okRs_cons, okRs_nil, okR_lst, o1, Bool.and_self])
  unfold F__law_choices
  rw [rp]
  clear rp
  have st : start0 9 [T.lst ul] = [some (.lst ul), none, none, none, none, none, none, none, none] := rfl
  rw [st]
  have body : b__law_choices ⟨0, 0⟩ [some (.lst ul), none, none, none, none, none, none, none, none] [] = .rt x' S' := by
    clear fp
    unfold b__law_choices
    generalize L__law_choices_2 = Lb at *
    walk_at "nm"
  rw [body]
  exact fp
/-! what a choice fills -/
theorem lf_turn (t d : Int) (u : UnO) {L : List Oc} (hl : L.length ≤ 100000) (x0 x1 x5 x6 : Option T) : L__law_filled_1 ⟨0, 0⟩ [x0, x1, some (.ref 0), some (.int t), some (.int d), x5, x6, some (.str u.z), some (.int u.d)] [.lst (L.map occT)] = .nx [x0, x1, some (.ref 0), some (.int t), some (.int d), x5, x6, some (.str u.z), some (.int u.d)] [.lst ((L ++ if d = t then [(t, u.z, u.d)] else []).map occT)] := by
  by_cases q : d = t
  · have eq : oEq (.int d) (.int t) = some (.bl true) := by rw [v_eqI, decide_eq_true q]
    rw [if_pos q, List.map_append]
    have le : lExt (L.map occT) [.lst [T.tup [.int t, .str u.z, .int u.d]]] = some (.non, L.map occT ++ [(t, u.z, u.d)].map occT) := if_pos (by rw [List.length_map]; show L.length + 1 ≤ 1000000; omega)
    have lm := lmR_of (hh := lExt) (c := ⟨0, 0⟩) (n := 0) (S := [.lst (L.map occT)]) rfl le (by rfl)
    have es : [T.lst (L.map occT)].set 0 (.lst (L.map occT ++ [(t, u.z, u.d)].map occT)) = [.lst (L.map occT ++ [(t, u.z, u.d)].map occT)] := rfl
    rw [es] at lm
    clear q le es hl
    generalize L.map occT ++ [(t, u.z, u.d)].map occT = Z at *
    generalize L.map occT = L0 at *
    generalize u.z = uz at *
    generalize u.d = ud at *
    unfold L__law_filled_1
    generalize lExt = lx at *
    walk_at "nm"
  · have eq : oEq (.int d) (.int t) = some (.bl false) := by rw [v_eqI, decide_eq_false q]
    rw [if_neg q, List.append_nil]
    have le : lExt (L.map occT) [.lst []] = some (.non, L.map occT ++ []) := if_pos (by rw [List.length_map]; show L.length + 0 ≤ 1000000; omega)
    rw [List.append_nil] at le
    have lm := lmR_of (hh := lExt) (c := ⟨0, 0⟩) (n := 0) (S := [.lst (L.map occT)]) rfl le (by rfl)
    have es : [T.lst (L.map occT)].set 0 (.lst (L.map occT)) = [.lst (L.map occT)] := rfl
    rw [es] at lm
    clear q le es hl
    generalize L.map occT = L0 at *
    generalize u.z = uz at *
    generalize u.d = ud at *
    unfold L__law_filled_1
    generalize lExt = lx at *
    walk_at "nm"
def rowT (t : Int) (us : List UnO) (s : List Int) : List Oc := ((us.zip s).filter fun p => decide (p.2 = t)).map fun p => (t, p.1.z, p.1.d)
theorem rowT_len (t : Int) (us : List UnO) (s : List Int) : (rowT t us s).length ≤ us.length := by
  unfold rowT
  rw [List.length_map]
  refine Nat.le_trans (List.length_filter_le ..) ?_
  rw [List.length_zip]
  omega
theorem lf_in (t : Int) : ∀ (us : List UnO) (s : List Int) (L : List Oc) (x0 x1 x4 x5 x6 x7 x8 : Option T), L.length + us.length ≤ 100000 → ∃ y4 y5 y6 y7 y8, forL (gTup [gTup [gNm 5, gNm 6, gNm 7, gNm 8], gNm 4]) L__law_filled_1 (zpT (us.map UnO.t) (s.map T.int)) ⟨0, 0⟩ [x0, x1, some (.ref 0), some (.int t), x4, x5, x6, x7, x8] [.lst (L.map occT)] = .nx [x0, x1, some (.ref 0), some (.int t), y4, y5, y6, y7, y8] [.lst ((L ++ rowT t us s).map occT)]
  | [], s, L, x0, x1, x4, x5, x6, x7, x8, _ => ⟨x4, x5, x6, x7, x8, by
    show _ = Ou.nx _ [T.lst ((L ++ []).map occT)]
    rw [List.append_nil]
    rfl⟩
  | u :: us, [], L, x0, x1, x4, x5, x6, x7, x8, _ => ⟨x4, x5, x6, x7, x8, by
    show _ = Ou.nx _ [T.lst ((L ++ []).map occT)]
    rw [List.append_nil]
    rfl⟩
  | u :: us, d :: s, L, x0, x1, x4, x5, x6, x7, x8, hl => by
    rw [List.length_cons] at hl
    obtain ⟨y4, y5, y6, y7, y8, e⟩ := lf_in t us s (L ++ if d = t then [(t, u.z, u.d)] else []) x0 x1 (some (.int d)) (some (.int u.f)) (some (.int (u.f + u.w - 1))) (some (.str u.z)) (some (.int u.d)) (by
      rw [List.length_append]
      split
      · show L.length + 1 + us.length ≤ 100000; omega
      · show L.length + 0 + us.length ≤ 100000; omega)
    have b := lf_turn t d u (L := L) (by omega) x0 x1 (some (.int u.f)) (some (.int (u.f + u.w - 1)))
    refine ⟨y4, y5, y6, y7, y8, ?_⟩
    have g : gTup [gTup [gNm 5, gNm 6, gNm 7, gNm 8], gNm 4] (T.tup [u.t, .int d]) ⟨0, 0⟩ [x0, x1, some (.ref 0), some (.int t), x4, x5, x6, x7, x8] [.lst (L.map occT)] = some ([x0, x1, some (.ref 0), some (.int t), some (.int d), some (.int u.f), some (.int (u.f + u.w - 1)), some (.str u.z), some (.int u.d)], [.lst (L.map occT)]) := rfl
    have er : L ++ rowT t (u :: us) (d :: s) = (L ++ if d = t then [(t, u.z, u.d)] else []) ++ rowT t us s := by
      unfold rowT
      rw [List.zip_cons_cons]
      by_cases q : d = t
      · rw [if_pos q, List.filter_cons_of_pos (by simpa using q), List.map_cons, List.append_assoc]
        rfl
      · rw [if_neg q, List.filter_cons_of_neg (by simpa using q), List.append_nil]
    rw [er, List.map_cons, List.map_cons]
    show forL _ _ (T.tup [u.t, .int d] :: zpT (us.map UnO.t) (s.map T.int)) _ _ _ = _
    rw [e_forS, g, e_forG, b, e_forKn]
    exact e
theorem lf_days (us : List UnO) (s : List Int) : ∀ (ts : List Int) (L : List Oc) (x3 x4 x5 x6 x7 x8 : Option T), L.length + ts.length * us.length + us.length ≤ 100000 → ∃ y3 y4 y5 y6 y7 y8, forL (gNm 3) L__law_filled_2 (ts.map T.int) ⟨0, 0⟩ [some (.lst (us.map UnO.t)), some (chT s), some (.ref 0), x3, x4, x5, x6, x7, x8] [.lst (L.map occT)] = .nx [some (.lst (us.map UnO.t)), some (chT s), some (.ref 0), y3, y4, y5, y6, y7, y8] [.lst ((L ++ ts.flatMap fun t => rowT t us s).map occT)]
  | [], L, x3, x4, x5, x6, x7, x8, _ => ⟨x3, x4, x5, x6, x7, x8, by
    show _ = Ou.nx _ [T.lst ((L ++ []).map occT)]
    rw [List.append_nil]
    rfl⟩
  | t :: ts, L, x3, x4, x5, x6, x7, x8, hl => by
    rw [List.length_cons, Nat.succ_mul] at hl
    have rl := rowT_len t us s
    obtain ⟨z4, z5, z6, z7, z8, e1⟩ := lf_in t us s L (some (.lst (us.map UnO.t))) (some (chT s)) x4 x5 x6 x7 x8 (by omega)
    obtain ⟨y3, y4, y5, y6, y7, y8, e⟩ := lf_days us s ts (L ++ rowT t us s) (some (.int t)) z4 z5 z6 z7 z8 (by rw [List.length_append]; omega)
    refine ⟨y3, y4, y5, y6, y7, y8, ?_⟩
    have zp : fZipM [.lst (us.map UnO.t), chT s] = some (zpT (us.map UnO.t) (s.map T.int)) := rfl
    have b : L__law_filled_2 ⟨0, 0⟩ [some (.lst (us.map UnO.t)), some (chT s), some (.ref 0), some (.int t), x4, x5, x6, x7, x8] [.lst (L.map occT)] = .nx [some (.lst (us.map UnO.t)), some (chT s), some (.ref 0), some (.int t), z4, z5, z6, z7, z8] [.lst ((L ++ rowT t us s).map occT)] := by
      clear e hl rl
      generalize zpT (us.map UnO.t) (s.map T.int) = ZP at *
      generalize us.map UnO.t = ul at *
      generalize chT s = ct at *
      generalize (L ++ rowT t us s).map occT = L2 at *
      generalize L.map occT = L1 at *
      unfold L__law_filled_2
      generalize L__law_filled_1 = Lb at *
      generalize fZipM = fz at *
      walk_at "nm"
    rw [List.map_cons, e_forS]
    show forG _ _ _ _ (some ([some (.lst (us.map UnO.t)), some (chT s), some (.ref 0), some (.int t), x4, x5, x6, x7, x8], [T.lst (L.map occT)])) = _
    rw [e_forG, b, e_forKn, List.flatMap_cons, ← List.append_assoc]
    exact e
theorem ddl_leU : ∀ l : List Int, (ddl l).length ≤ l.length
  | [] => Nat.le_refl _
  | a :: l => by
    have := ddl_leU l
    unfold ddl
    split <;> rw [List.length_cons]
    · omega
    · rw [List.length_cons]; omega
theorem lawFilled_eq {us : List UnO} {s : List Int} (hs : s.length = us.length) (hl : us.length ≤ 100) (c : Cf) (S : St) : F__law_filled c [.lst (us.map UnO.t), chT s] S = .ok (.tup ((rowU us s).map occT)) S := by
  have dl := ddl_leU s
  have sl : (srtI (ddl s)).length ≤ 100 := by rw [(srtI_perm _).length_eq]; omega
  obtain ⟨y3, y4, y5, y6, y7, y8, e⟩ := lf_days us s (srtI (ddl s)) [] none none none none none none (by
    have := Nat.mul_le_mul sl hl
    rw [List.length_nil]
    omega)
  have er : ([] : List Oc) ++ ((srtI (ddl s)).flatMap fun t => rowT t us s) = rowU us s := (List.nil_append _).trans (rowL_eq hs)
  rw [er] at e
  have si := setI_eq (ns := s) (by omega)
  have o1 : okRs 0 (us.map UnO.t) = true := okRs_un us
  have o2 := okR_chT (n := 0) s
  have o3 : okRs 0 ((rowU us s).map occT) = true := okRs_occs _
  have lc : lcL (gNm 4) mYes (mB bInt (mCons (mVar 4) mNil)) (s.map T.int) [] ⟨0, 0⟩ [some (.lst (us.map UnO.t)), some (chT s), some (.ref 0), none, none, none, none, none, none] [.lst []] = .ok (s.map T.int) [.lst []] := by
    have := lcL_filt (c := ⟨0, 0⟩) (ρ := [some (.lst (us.map UnO.t)), some (chT s), some (.ref 0), none, none, none, none, none, none]) (S := [.lst []]) (g := gNm 4) (tt := mYes) (te := mB bInt (mCons (mVar 4) mNil)) T.int (fun _ => true) T.int s [] (by rw [List.length_nil]; omega) fun d _ => ⟨_, rfl, rfl, fun _ => by rfl⟩
    rw [List.filter_eq_self.mpr fun _ _ => rfl, List.nil_append] at this
    exact this
  have w : wipeS [4] [some (.lst (us.map UnO.t)), some (chT s), some (.ref 0), none, none, none, none, none, none] = [some (.lst (us.map UnO.t)), some (chT s), some (.ref 0), none, none, none, none, none, none] := rfl
  have sq : ∀ S, kSeq (chT s) S = .ok (.fix (s.map T.int)) S := fun S => rfl
  have e0 : ([] : List Oc).map occT = [] := rfl
  rw [e0] at e
  clear dl sl hs hl er e0
  generalize (rowU us s).map occT = RL at *
  generalize (srtI (ddl s)).map T.int = TL at *
  generalize us.map UnO.t = ul at *
  generalize s.map T.int = il at *
  generalize chT s = ct at *
  have body : b__law_filled ⟨0, 0⟩ [some (.lst ul), some ct, none, none, none, none, none, none, none] [] = .rt (.tup RL) [.lst RL] := by
    have v0 : vw [T.lst RL] (.ref 0) = .lst RL := rfl
    unfold b__law_filled
    generalize L__law_filled_2 = Lb at *
    generalize hE : (mB bInt (mCons (mVar 4) mNil)) = E at *
    clear hE
    generalize bSetI = bs at *
    walk_at "nm"
  have rp : runP 2 9 b__law_filled c [.lst ul, ct] S = finP (b__law_filled ⟨0, 0⟩ (start0 9 [.lst ul, ct]) []) S := ap_runP rfl (by simp only [okRs_cons, okRs_nil, okR_lst, o1, o2, Bool.and_self])
  have st : start0 9 [T.lst ul, ct] = [some (.lst ul), some ct, none, none, none, none, none, none, none] := rfl
  unfold F__law_filled
  rw [rp, st, body]
  exact finP_rt (by rw [okR_tup]; exact o3)
end

end


noncomputable section

/-! unsure occasions that are drawn: their ends -/
section
variable {R : Rl} {us : List UnO} {S : St}
theorem uns_C {r : RuA} {n : Nat} {mo most : Int} (ok : RuOk r n mo) (m1 : most ≤ 10 ^ 17) {u : UnO} (h : UnOk (wordsU r) most u) : UnC u := by
  refine ⟨h.f0, by have := h.f1; omega, h.w0, by have := h.w1; omega, ?_, h.d0⟩
  rcases List.mem_append.mp h.z with q | q
  · obtain ⟨k, hk, e⟩ := List.mem_map.mp q
    rw [← e]
    exact (ok.kk k hk).1.nm
  · rw [List.mem_singleton.mp q]
    decide +kernel
theorem row_good (hu : ∀ u ∈ us, UnC u) {s : List Int} (hs : ChOf us s) : Asc 0 (rowU us s) ∧ ∀ o ∈ rowU us s, OcOk o := by
  have h0 : ∀ d ∈ s, 0 ≤ d := fun d hd => by
    obtain ⟨u, h1, h2⟩ := hs.day d hd
    have := (hu u h1).f0
    have := (dysP_mem.mp h2).1
    omega
  exact ⟨rowU_asc h0, rowU_ok (fun u h => ⟨(hu u h).z, (hu u h).d⟩) hs.len h0⟩
theorem v_rng2U {i j : Int} (h0 : 0 ≤ i) (h1 : i < 2 ^ 62) (h2 : 0 ≤ j) (h3 : j < 2 ^ 62) : fRng2 [.int i, .int j] = some (rgT i (j - i).toNat) := by
  have b : -(2 ^ 62) ≤ i ∧ i < 2 ^ 62 ∧ -(2 ^ 62) ≤ j ∧ j < 2 ^ 62 := ⟨by omega, h1, by omega, h3⟩
  simp only [fRng2, b, and_self, if_true]
end

end


noncomputable section

/-! fillings of unsure stories: plain -/
def ocN (o : Oc) : NestedKey := .tup [.num o.1, .text o.2.1, .num o.2.2]
def rowN (r : List Oc) : NestedKey := .tup (r.map ocN)
def rowK (r : List Oc) : T := .tup (r.map occT)
theorem toNK_oc (o : Oc) : toNK (occT o) = some (ocN o) := by
  unfold occT ocN
  unfold toNK toNKs toNKs toNKs toNKs
  unfold toNK
  rfl
theorem toNKs_occ : ∀ r : List Oc, toNKs (r.map occT) = some (r.map ocN)
  | [] => by unfold List.map toNKs; rfl
  | o :: r => by
    rw [List.map_cons, List.map_cons]
    unfold toNKs
    rw [toNKs_occ r, toNK_oc]
theorem toNK_row (r : List Oc) : toNK (rowK r) = some (rowN r) := by
  unfold rowK rowN toNK
  rw [toNKs_occ]
  rfl
theorem toNKs_rows : ∀ rows : List (List Oc), toNKs (rows.map rowK) = some (rows.map rowN)
  | [] => by unfold List.map toNKs; rfl
  | r :: rows => by
    rw [List.map_cons, List.map_cons]
    unfold toNKs
    rw [toNKs_rows rows, toNK_row]
theorem ocN_inj {a b : Oc} (h : ocN a = ocN b) : a = b := by
  obtain ⟨a1, a2, a3⟩ := a
  obtain ⟨b1, b2, b3⟩ := b
  unfold ocN at h
  obtain ⟨h1, h2⟩ := List.cons.inj (NestedKey.tup.inj h)
  obtain ⟨h3, h4⟩ := List.cons.inj h2
  obtain ⟨h5, _⟩ := List.cons.inj h4
  have e1 := NestedKey.num.inj h1
  have e2 := NestedKey.text.inj h3
  have e3 := NestedKey.num.inj h5
  dsimp only at e1 e2 e3
  subst e1 e2 e3
  rfl
theorem ocs_inj : ∀ {a b : List Oc}, a.map ocN = b.map ocN → a = b
  | [], [], _ => rfl
  | [], _ :: _, h => by cases h
  | _ :: _, [], h => by cases h
  | x :: a, y :: b, h => by
    rw [List.map_cons, List.map_cons] at h
    obtain ⟨h1, h2⟩ := List.cons.inj h
    rw [ocN_inj h1, ocs_inj h2]
theorem rowN_inj {a b : List Oc} (h : rowN a = rowN b) : a = b := by
  unfold rowN at h
  exact ocs_inj (NestedKey.tup.inj h)
theorem depth_ocs : ∀ r : List Oc, NestedKey.depthAll (r.map ocN) ≤ 5
  | [] => by rw [List.map_nil]; unfold NestedKey.depthAll; decide
  | o :: r => by
    have := depth_ocs r
    rw [List.map_cons]
    simp only [ocN, NestedKey.depth, NestedKey.depthAll]
    omega
theorem depth_row (r : List Oc) : (rowN r).depth ≤ 8 := by
  have a := depth_ocs r
  simp only [rowN, NestedKey.depth]
  omega
theorem okR_row {n : Nat} (r : List Oc) : okR n (rowK r) = true := by
  unfold rowK
  rw [okR_tup]
  exact okRs_occs r
/-- the stories that are known, by their occasions -/
def knF (w : World) (rows : List (List Oc)) : T := .dN (rows.map rowK) (rows.map fun r => (rowN r).hash w) (rows.map storyT)
theorem dget_rows : ∀ (rows : List (List Oc)) (r : List Oc), dGet (rows.map rowN) (rows.map storyT) (rowN r) = if r ∈ rows then some (storyT r) else none
  | [], r => by rw [if_neg List.not_mem_nil]; unfold List.map dGet; rfl
  | x :: rows, r => by
    rw [List.map_cons, List.map_cons]
    unfold dGet
    by_cases h : x = r
    · subst h
      rw [if_pos rfl, if_pos (List.mem_cons_self ..)]
    · rw [if_neg fun z => h (rowN_inj z), dget_rows rows r]
      by_cases h2 : r ∈ rows
      · rw [if_pos h2, if_pos (List.mem_cons_of_mem _ h2)]
      · rw [if_neg h2, if_neg fun z => (List.mem_cons.mp z).elim (fun z => h z.symm) h2]
theorem repl_rows : ∀ (rows : List (List Oc)) (r : List Oc), replN (rows.map rowN) (rows.map storyT) (rowN r) (storyT r) = rows.map storyT
  | [], r => by unfold List.map replN; rfl
  | x :: rows, r => by
    rw [List.map_cons, List.map_cons]
    unfold replN
    rw [repl_rows rows r]
    by_cases h : rowN x = rowN r
    · rw [if_pos h, rowN_inj h]
    · rw [if_neg h]
theorem ndOk_rows (w : World) {rows : List (List Oc)} (nd : rows.Nodup) (r : List Oc) : ndOk w (rows.map rowN) (rows.map fun r => (rowN r).hash w) (rowN r) = true := ndOk_iff.mpr ⟨by rw [List.map_map]; rfl, by
  rw [List.Nodup, List.pairwise_map]
  exact nd.imp fun h z => h (rowN_inj z), fun x hx => by
  obtain ⟨p, _, rfl⟩ := List.mem_map.mp hx
  exact depth_row _, depth_row _, rfl⟩
def adR (rows : List (List Oc)) (r : List Oc) : List (List Oc) := if r ∈ rows then rows else rows ++ [r]
theorem adR_nd {rows : List (List Oc)} (nd : rows.Nodup) (r : List Oc) : (adR rows r).Nodup := by
  unfold adR
  split
  · exact nd
  · rename_i h
    rw [List.nodup_append]
    exact ⟨nd, List.nodup_cons.mpr ⟨List.not_mem_nil, List.nodup_nil⟩, fun a ha b hb e => by
      rw [List.mem_singleton.mp hb] at e
      exact h (e ▸ ha)⟩
theorem adR_len (rows : List (List Oc)) (r : List Oc) : (adR rows r).length ≤ rows.length + 1 := by
  unfold adR
  split
  · omega
  · rw [List.length_append, List.length_singleton]
    omega
theorem mem_adR {rows : List (List Oc)} {r x : List Oc} : x ∈ adR rows r ↔ x ∈ rows ∨ x = r := by
  unfold adR
  split
  · rename_i h
    exact ⟨.inl, fun z => z.elim id fun e => e ▸ h⟩
  · rw [List.mem_append, List.mem_singleton]
theorem fold_nd : ∀ (l rows : List (List Oc)), rows.Nodup → (l.foldl adR rows).Nodup
  | [], _, h => h
  | r :: l, _, h => fold_nd l _ (adR_nd h r)
theorem mem_fold {x : List Oc} : ∀ (l rows : List (List Oc)), x ∈ l.foldl adR rows ↔ x ∈ rows ∨ x ∈ l
  | [], _ => by simp
  | r :: l, rows => by
    rw [List.foldl_cons, mem_fold l, mem_adR, List.mem_cons, or_assoc]
theorem fold_lenR : ∀ (l rows : List (List Oc)), (l.foldl adR rows).length ≤ rows.length + l.length
  | [], _ => Nat.le_refl _
  | r :: l, rows => by
    have a := fold_lenR l (adR rows r)
    have b := adR_len rows r
    rw [List.foldl_cons, List.length_cons]
    omega
theorem setn_rows (w : World) {rows : List (List Oc)} (nd : rows.Nodup) (hl : rows.length < 1000000) (r : List Oc) : setnR w ⟨0, 0⟩ (.ref 0) (rowK r) (storyT r) [knF w rows] = some [knF w (adR rows r)] := by
  unfold setnR
  show (match toNKs (rows.map rowK), toNK (rowK r) with
    | some nks, some k => if ndOk w nks (rows.map fun r => (rowN r).hash w) k = true ∧ okR 0 (rowK r) = true ∧ okR 0 (storyT r) = true ∧ (rows.map rowK).length < 1000000 ∧ wrOk ⟨0, 0⟩ 0 (storyT r) = true then some ([knF w rows].set 0 (ndPut w nks (rows.map rowK) (rows.map fun r => (rowN r).hash w) (rows.map storyT) k (rowK r) (storyT r))) else none
    | _, _ => none) = _
  rw [toNKs_rows, toNK_row]
  dsimp only
  rw [if_pos ⟨ndOk_rows w nd r, okR_row r, okR_story, by rw [List.length_map]; exact hl, wr_own (Nat.le_refl _) (Nat.le_refl _)⟩]
  unfold ndPut
  rw [dget_rows, repl_rows]
  unfold adR
  split
  · rfl
  · show some [T.dN _ _ _] = _
    unfold knF
    rw [List.map_append, List.map_append, List.map_append]
    rfl
theorem ixn_rows (w : World) {rows : List (List Oc)} (nd : rows.Nodup) (hl : rows.length < 1000000) {r : List Oc} (h : r ∈ rows) : ixnR w (.ref 0) (rowK r) [knF w rows] = .ok (storyT r) [knF w rows] := by
  unfold ixnR
  show (match toNKs (rows.map rowK), toNK (rowK r) with
    | some nks, some k => if ndOk w nks (rows.map fun r => (rowN r).hash w) k = true ∧ (rows.map rowK).length < 1000000 then (match dGet nks (rows.map storyT) k with
        | some t => Rs.ok t [knF w rows]
        | none => .st) else .st
    | _, _ => .st) = _
  rw [toNKs_rows, toNK_row]
  dsimp only
  rw [if_pos ⟨ndOk_rows w nd r, by rw [List.length_map]; exact hl⟩, dget_rows, if_pos h]
/-! sorted by their occasions -/
def ocD (o : Oc) : PyData := .tuple [.int o.1, .str o.2.1, .int o.2.2]
def rowD (r : List Oc) : PyData := .tuple (r.map ocD)
theorem plTs_ocs : ∀ r : List Oc, plTs (r.map occT) = some (r.map ocD)
  | [] => by unfold List.map plTs; rfl
  | o :: r => by
    rw [List.map_cons, List.map_cons]
    unfold plTs
    rw [plTs_ocs r]
    have : plT (occT o) = some (ocD o) := by
      unfold occT ocD
      simp [plT, plTs]
    rw [this]
theorem plT_row (r : List Oc) : plT (rowK r) = some (rowD r) := by
  unfold rowK rowD plT
  rw [plTs_ocs]
  rfl
theorem plTs_rows : ∀ rows : List (List Oc), plTs (rows.map rowK) = some (rows.map rowD)
  | [] => by unfold List.map plTs; rfl
  | r :: rows => by
    rw [List.map_cons, List.map_cons]
    unfold plTs
    rw [plTs_rows rows, plT_row]
theorem ofDs_ocs : ∀ r : List Oc, ofDs (r.map ocD) = r.map occT
  | [] => by unfold List.map ofDs; rfl
  | o :: r => by
    rw [List.map_cons, List.map_cons]
    unfold ofDs
    rw [ofDs_ocs r]
    have : ofD (ocD o) = occT o := by
      unfold occT ocD
      simp [ofD, ofDs]
    rw [this]
theorem ofD_row (r : List Oc) : ofD (rowD r) = rowK r := by
  unfold rowD rowK ofD
  rw [ofDs_ocs]
def backO : PyData → Oc
  | .tuple [.int d, .str z, .int n] => (d, z, n)
  | _ => (0, "", 0)
def backR : PyData → List Oc
  | .tuple l => l.map backO
  | _ => []
theorem back_row (r : List Oc) : backR (rowD r) = r := by
  unfold rowD backR
  dsimp only
  rw [List.map_map]
  have : (backO ∘ ocD) = id := funext fun o => rfl
  rw [this, List.map_id]
def srtR (rows : List (List Oc)) : List (List Oc) := (srtD (rows.map rowD)).map backR
theorem srtR_perm (rows : List (List Oc)) : (srtR rows).Perm rows := by
  have := (srtD_perm (rows.map rowD)).map backR
  rw [List.map_map] at this
  have e : (backR ∘ rowD) = id := funext fun r => back_row r
  rw [e, List.map_id] at this
  exact this
theorem srtR_D (rows : List (List Oc)) : srtD (rows.map rowD) = (srtR rows).map rowD := by
  unfold srtR
  rw [List.map_map]
  refine (List.map_id _).symm.trans (List.map_congr_left fun d hd => ?_)
  obtain ⟨r, _, rfl⟩ := List.mem_map.mp ((srtD_perm _).mem_iff.mp hd)
  show rowD r = rowD (backR (rowD r))
  rw [back_row]
theorem alike_ocs : ∀ a b : List Oc, PySem.W.alikeAll (a.map ocD) (b.map ocD) = true
  | [], b => by simp [PySem.W.alikeAll]
  | a :: l, [] => by simp [PySem.W.alikeAll]
  | a :: l, b :: m => by
    have h := alike_ocs l m
    rw [List.map_cons, List.map_cons]
    unfold PySem.W.alikeAll
    rw [h, Bool.and_true]
    unfold ocD
    simp [PySem.W.alikeAll, PySem.W.alike]
theorem alike_row (a b : List Oc) : PySem.W.alike (rowD a) (rowD b) = true := by
  have := alike_ocs a b
  unfold rowD
  simpa [PySem.W.alike] using this
theorem depth_ocD : ∀ r : List Oc, PyData.depthAll (r.map ocD) ≤ 5
  | [] => by rw [List.map_nil, PyData.depthAll]; decide
  | o :: r => by
    have := depth_ocD r
    rw [List.map_cons, PyData.depthAll]
    unfold ocD at this ⊢
    rw [PyData.depth, PyData.depthAll, PyData.depthAll, PyData.depthAll, PyData.depthAll, PyData.depth, PyData.depth, PyData.depth]
    omega
theorem depth_rowD (r : List Oc) : (rowD r).depth < 60 := by
  have := depth_ocD r
  unfold rowD
  rw [PyData.depth]
  omega
theorem okSD_rows {rows : List (List Oc)} {n : Nat} (nd : rows.Nodup) (hl : ∀ r ∈ rows, r.length = n) : okSD (rows.map rowD) = true := by
  unfold okSD
  simp only [Bool.and_eq_true, Bool.or_eq_true, List.all_eq_true, decide_eq_true_eq]
  refine ⟨⟨?_, fun d hd d' hd' => ?_⟩, fun d hd => ?_⟩
  · by_cases h0 : n = 0
    · refine .inr ⟨fun d hd => ?_, ?_⟩
      · obtain ⟨c, _, rfl⟩ := List.mem_map.mp hd
        rfl
      · rw [List.length_map]
        match rows, nd, hl with
        | [], _, _ => exact Nat.zero_le _
        | [_], _, _ => exact Nat.le_refl _
        | a :: b :: l, nd, hl =>
          have ea : a = [] := List.length_eq_zero_iff.mp ((hl a (List.mem_cons_self ..)).trans h0)
          have eb : b = [] := List.length_eq_zero_iff.mp ((hl b (List.mem_cons_of_mem _ (List.mem_cons_self ..))).trans h0)
          exact absurd (List.mem_cons_self ..) (by
            rw [ea, eb] at nd
            exact (List.nodup_cons.mp nd).1)
    · refine .inl fun d hd => ?_
      obtain ⟨c, hc, rfl⟩ := List.mem_map.mp hd
      have := hl c hc
      cases c with
      | nil => exact absurd this.symm h0
      | cons a l => rfl
  · obtain ⟨c, hc, rfl⟩ := List.mem_map.mp hd
    obtain ⟨c', hc', rfl⟩ := List.mem_map.mp hd'
    exact alike_row _ _
  · obtain ⟨c, _, rfl⟩ := List.mem_map.mp hd
    exact depth_rowD c
/-- all fillings, ascending -/
def fillU (us : List UnO) : List (List Oc) := srtR (((chU us).map (rowU us)).foldl adR [])
theorem mem_fillU {us : List UnO} {r : List Oc} : r ∈ fillU us ↔ ∃ s, ChOf us s ∧ rowU us s = r := by
  unfold fillU
  rw [(srtR_perm _).mem_iff, mem_fold, List.mem_map]
  constructor
  · rintro (h | ⟨s, hs, e⟩)
    · cases h
    · exact ⟨s, mem_chU.mp hs, e⟩
  · rintro ⟨s, hs, e⟩
    exact .inr ⟨s, mem_chU.mpr hs, e⟩
theorem fillU_nd (us : List UnO) : (fillU us).Nodup := (srtR_perm _).nodup_iff.mpr (fold_nd _ _ List.nodup_nil)
theorem fillU_len (us : List UnO) : (fillU us).length ≤ (chU us).length := by
  unfold fillU
  rw [(srtR_perm _).length_eq]
  have := fold_lenR ((chU us).map (rowU us)) []
  rw [List.length_map, List.length_nil] at this
  omega
section
variable {us : List UnO}
theorem fill_turn (w : World) (hu : ∀ u ∈ us, UnC u) (hl : us.length ≤ 1000) {s : List Int} (hs : ChOf us s) {rows : List (List Oc)} (nd : rows.Nodup) (hn : rows.length < 1000000) (x3 : Option T) : L_fillings_1 w ⟨0, 0⟩ [some (unsT us), some (.ref 0), some (chT s), x3, none] [knF w rows] = .nx [some (unsT us), some (.ref 0), some (chT s), some (storyT (rowU us s)), none] [knF w (adR rows (rowU us s))] := by
  have fe := fun c S => filled_eq hu hs hl c S
  have st := setn_rows w nd hn (rowU us s)
  have f1 : fFldC ["Story", "Unsure"] "occasions" (storyT (rowU us s)) = some (rowK (rowU us s)) := rfl
  have vs : ∀ S, vw S (storyT (rowU us s)) = storyT (rowU us s) := fun S => rfl
  have it : ∀ (fo fi fv : Ev T) ρ S, sItmN w fo fi fv ⟨0, 0⟩ ρ S = ouE (fv ⟨0, 0⟩ ρ S) ρ fun t S => ouE (fo ⟨0, 0⟩ ρ S) ρ fun x S => ouE (fi ⟨0, 0⟩ ρ S) ρ fun y S => match setnR w ⟨0, 0⟩ x y t S with
    | some S' => .nx ρ S'
    | none => .st := fun _ _ _ _ _ => rfl
  have os : ∀ (t : T) S ρ (k : T → St → Ou), ouE (.ok t S) ρ k = k t S := fun _ _ _ _ => rfl
  clear hu hs hl nd hn
  generalize knF w (adR rows (rowU us s)) = K1 at *
  generalize knF w rows = K0 at *
  generalize rowK (rowU us s) = rk at *
  generalize storyT (rowU us s) = sto at *
  generalize unsT us = ut at *
  generalize chT s = ct at *
  unfold L_fillings_1
  generalize F_filled = Fa at *
  generalize setnR = sn at *
  walk_at "nm"
theorem fill_loop (w : World) (hu : ∀ u ∈ us, UnC u) (hl : us.length ≤ 1000) : ∀ (l : List (List Int)) (rows : List (List Oc)) (x2 x3 : Option T), (∀ s ∈ l, ChOf us s) → rows.Nodup → rows.length + l.length ≤ 100000 → ∃ y2 y3, forL (gNm 2) (L_fillings_1 w) (l.map chT) ⟨0, 0⟩ [some (unsT us), some (.ref 0), x2, x3, none] [knF w rows] = .nx [some (unsT us), some (.ref 0), y2, y3, none] [knF w ((l.map (rowU us)).foldl adR rows)]
  | [], rows, x2, x3, _, _, _ => ⟨x2, x3, rfl⟩
  | s :: l, rows, x2, x3, hs, nd, hn => by
    rw [List.length_cons] at hn
    have t := fill_turn w hu hl (hs s (List.mem_cons_self ..)) nd (by omega) x3
    have al := adR_len rows (rowU us s)
    obtain ⟨y2, y3, e⟩ := fill_loop w hu hl l (adR rows (rowU us s)) (some (chT s)) (some (storyT (rowU us s))) (fun r hr => hs r (List.mem_cons_of_mem _ hr)) (adR_nd nd _) (by omega)
    have g : ∀ S, gNm 2 (chT s) ⟨0, 0⟩ [some (unsT us), some (.ref 0), x2, x3, none] S = some ([some (unsT us), some (.ref 0), some (chT s), x3, none], S) := fun _ => rfl
    refine ⟨y2, y3, ?_⟩
    rw [List.map_cons, List.map_cons, List.foldl_cons, e_forS, g, e_forG, t, e_forKn]
    exact e
theorem fillings_eq (hu : ∀ u ∈ us, UnC u) (hw : wd us ≤ 1000) (hl : us.length ≤ 1000) (c : Cf) (S : St) : F_fillings c [unsT us] S = .ok (.tup ((fillU us).map storyT)) S := by
  have wl := chU_wd (us := us) fun u h => (hu u h).w0
  refine hideW_ok fun w => ?_
  have o1 := okR_unsT (n := 0) us
  have ce := fun c S => choices_eq hu (show wd us ≤ 100000 by omega) hl c S
  obtain ⟨y2, y3, lp⟩ := fill_loop w hu hl (chU us) [] none none (fun s hs => mem_chU.mp hs) List.nodup_nil (by rw [List.length_nil]; omega)
  have nd : (((chU us).map (rowU us)).foldl adR []).Nodup := fold_nd _ _ List.nodup_nil
  have ln : (((chU us).map (rowU us)).foldl adR []).length ≤ 1000 := by
    have := fold_lenR ((chU us).map (rowU us)) []
    rw [List.length_map, List.length_nil] at this
    omega
  have le : ∀ r ∈ ((chU us).map (rowU us)).foldl adR [], r.length = us.length := fun r hr => by
    rcases (mem_fold _ _).mp hr with h | h
    · cases h
    · obtain ⟨s, hs, rfl⟩ := List.mem_map.mp h
      rw [rowU_len, (mem_chU.mp hs).len]
  have k0 : knF w [] = .dN [] [] [] := rfl
  rw [k0] at lp
  unfold fillU
  generalize ((chU us).map (rowU us)).foldl adR [] = rows at *
  have sr : mSrtN (mVar 1) ⟨0, 0⟩ [some (unsT us), some (.ref 0), y2, y3, none] [knF w rows] = .ok (.lst ((srtR rows).map rowK)) [knF w rows] := by
    show (match plTs (rows.map rowK) with
      | some ds => if okSD ds = true ∧ (rows.map rowK).length ≤ 1000000 then Rs.ok (T.lst (ofDs (srtD ds))) [knF w rows] else .st
      | none => .st) = _
    rw [plTs_rows]
    dsimp only
    rw [if_pos ⟨okSD_rows nd le, by rw [List.length_map]; omega⟩, srtR_D, ofDs_map, List.map_map]
    congr 2
    exact List.map_congr_left fun r _ => ofD_row r
  have lc : lcL (gNm 4) mYes (mIxN w (mVar 1) (mVar 4)) ((srtR rows).map rowK) [] ⟨0, 0⟩ [some (unsT us), some (.ref 0), y2, y3, none] [knF w rows] = .ok ((srtR rows).map storyT) [knF w rows] := by
    have pm := srtR_perm rows
    have := lcL_filt (c := ⟨0, 0⟩) (ρ := [some (unsT us), some (.ref 0), y2, y3, none]) (S := [knF w rows]) (g := gNm 4) (tt := mYes) (te := mIxN w (mVar 1) (mVar 4)) rowK (fun _ => true) storyT (srtR rows) [] (by rw [pm.length_eq, List.length_nil]; omega) fun r hr => ⟨[some (unsT us), some (.ref 0), y2, y3, some (rowK r)], rfl, rfl, fun _ => ixn_rows w nd (by omega) (pm.mem_iff.mp hr)⟩
    rw [List.filter_eq_self.mpr fun _ _ => rfl, List.nil_append] at this
    exact this
  have w4 : wipeS [4] [some (unsT us), some (.ref 0), y2, y3, none] = [some (unsT us), some (.ref 0), y2, y3, none] := rfl
  have oo : okRs 0 ((srtR rows).map storyT) = true := okRs_all fun x hx => by
    obtain ⟨r, _, rfl⟩ := List.mem_map.mp hx
    exact okR_story
  have ll : ((srtR rows).map storyT).length ≤ 1000000 := by rw [List.length_map, (srtR_perm rows).length_eq]; omega
  have rp : G_fillings w c [unsT us] S = finP (b_fillings w ⟨0, 0⟩ (start0 5 [unsT us]) []) S := ap_runP rfl (by simp only [okRs_cons, okRs_nil, o1, Bool.and_self])
  rw [rp]
  have st : start0 5 [unsT us] = [some (unsT us), none, none, none, none] := rfl
  rw [st]
  have dq : ∀ ρ S, mDicN ⟨0, 0⟩ ρ S = .ok (.ref S.length) (S ++ [.dN [] [] []]) := fun _ _ => rfl
  clear rp st k0 wl hu hw hl nd le ln
  unfold b_fillings
  generalize hI : mIxN w (mVar 1) (mVar 4) = ix at *
  generalize hS : mSrtN (mVar 1) = so at *
  generalize (srtR rows).map rowK = RK at *
  generalize (srtR rows).map storyT = RS at *
  generalize (chU us).map chT = CL at *
  generalize knF w rows = KK at *
  generalize unsT us = ut at *
  clear hI hS
  generalize L_fillings_1 w = Lb at *
  generalize F_choices = Fc at *
  generalize mDicN = MD at *
  walk_at "nm"
end

end


noncomputable section

/-! fillings of unsure occasions: this law's own -/
/-- the rows that are known -/
def knL (w : World) (rows : List (List Oc)) : T := .dN (rows.map rowK) (rows.map fun r => (rowN r).hash w) (rows.map fun _ => T.bl true)
theorem dget_knL : ∀ (rows : List (List Oc)) (r : List Oc), dGet (rows.map rowN) (rows.map fun _ => T.bl true) (rowN r) = if r ∈ rows then some (.bl true) else none
  | [], r => by rw [if_neg List.not_mem_nil]; unfold List.map dGet; rfl
  | x :: rows, r => by
    rw [List.map_cons, List.map_cons]
    unfold dGet
    by_cases h : x = r
    · subst h
      rw [if_pos rfl, if_pos (List.mem_cons_self ..)]
    · rw [if_neg fun z => h (rowN_inj z), dget_knL rows r]
      by_cases h2 : r ∈ rows
      · rw [if_pos h2, if_pos (List.mem_cons_of_mem _ h2)]
      · rw [if_neg h2, if_neg fun z => (List.mem_cons.mp z).elim (fun z => h z.symm) h2]
theorem repl_knL : ∀ (rows : List (List Oc)) (r : List Oc), replN (rows.map rowN) (rows.map fun _ => T.bl true) (rowN r) (.bl true) = rows.map fun _ => T.bl true
  | [], r => by unfold List.map replN; rfl
  | x :: rows, r => by
    rw [List.map_cons, List.map_cons]
    unfold replN
    rw [repl_knL rows r]
    split <;> rfl
theorem setn_knL (w : World) {n : Nat} {S : St} {rows : List (List Oc)} (hn : S[n]? = some (knL w rows)) (nd : rows.Nodup) (hl : rows.length < 1000000) (r : List Oc) : setnR w ⟨0, 0⟩ (.ref n) (rowK r) (.bl true) S = some (S.set n (knL w (adR rows r))) := by
  unfold setnR
  dsimp only
  rw [hn]
  show (match toNKs (rows.map rowK), toNK (rowK r) with
    | some nks, some k => if ndOk w nks (rows.map fun r => (rowN r).hash w) k = true ∧ okR 0 (rowK r) = true ∧ okR 0 (T.bl true) = true ∧ (rows.map rowK).length < 1000000 ∧ wrOk ⟨0, 0⟩ n (T.bl true) = true then some (S.set n (ndPut w nks (rows.map rowK) (rows.map fun r => (rowN r).hash w) (rows.map fun _ => T.bl true) k (rowK r) (.bl true))) else none
    | _, _ => none) = _
  rw [toNKs_rows, toNK_row]
  dsimp only
  have wr : wrOk ⟨0, 0⟩ n (T.bl true) = true := by
    unfold wrOk
    simp only [okR_bl, Bool.or_true, Nat.zero_le, decide_true, Bool.and_self]
  rw [if_pos ⟨ndOk_rows w nd r, okR_row r, okR_bl, by rw [List.length_map]; exact hl, wr⟩]
  unfold ndPut
  rw [dget_knL, repl_knL]
  unfold adR
  split
  · rfl
  · show some (S.set n (T.dN _ _ _)) = _
    unfold knL
    rw [List.map_append, List.map_append, List.map_append]
    rfl
theorem in_knL (w : World) {n : Nat} {S : St} {rows : List (List Oc)} (hn : S[n]? = some (knL w rows)) (nd : rows.Nodup) (hl : rows.length < 1000000) {r : List Oc} (h : r ∈ rows) : innR w true (rowK r) (.ref n) S = .ok (.bl false) S := by
  unfold innR
  dsimp only
  rw [hn]
  show (match toNKs (rows.map rowK), toNK (rowK r) with
    | some nks, some k => if ndOk w nks (rows.map fun r => (rowN r).hash w) k = true ∧ (rows.map rowK).length < 1000000 then Rs.ok (T.bl ((dGet nks (rows.map fun _ => T.bl true) k).isSome != true)) S else .st
    | _, _ => .st) = _
  rw [toNKs_rows, toNK_row]
  dsimp only
  rw [if_pos ⟨ndOk_rows w nd r, by rw [List.length_map]; exact hl⟩, dget_knL, if_pos h]
  rfl
theorem len_knL (w : World) {n : Nat} {S : St} {rows : List (List Oc)} (hn : S[n]? = some (knL w rows)) (hl : rows.length < 1000000) {i : Nat} {c : Cf} {ρ : Ro} (hi : ρ[i]? = some (some (.ref n))) : mLenN (mVar i) c ρ S = .ok (.int (rows.length : Int)) S := by
  unfold mLenN
  rw [ap_bind]
  have e : mVar i c ρ S = .ok (.ref n) S := by
    unfold mVar
    rw [hi]
  rw [e]
  show (match S[n]? with
    | some (.dN ks _ _) => if ks.length < 1000000 then Rs.ok (T.int ks.length) S else .st
    | _ => .st) = _
  rw [hn]
  show (if (rows.map rowK).length < 1000000 then Rs.ok (T.int ((rows.map rowK).length : Nat)) S else .st) = _
  rw [List.length_map, if_pos hl]
/-- the rows of all choices -/
def rowsU (us : List UnO) : List (List Oc) := ((chU us).map (rowU us)).foldl adR []
theorem rowsU_nd (us : List UnO) : (rowsU us).Nodup := fold_nd _ _ List.nodup_nil
theorem fill_rows (us : List UnO) : (fillU us).Perm (rowsU us) := srtR_perm _
theorem rowsU_len (us : List UnO) : (rowsU us).length ≤ (chU us).length := by
  have := fold_lenR ((chU us).map (rowU us)) []
  rw [List.length_map, List.length_nil] at this
  unfold rowsU
  omega
theorem isPl_row (r : List Oc) : isPl (rowD r) = true := by
  have e : ∀ l : List Oc, isPls (l.map ocD) = true := fun l => by
    induction l with
    | nil => unfold List.map isPls; rfl
    | cons o l ih =>
      rw [List.map_cons]
      unfold isPls
      rw [ih, Bool.and_true]
      unfold ocD
      simp [isPl, isPls]
  unfold rowD isPl
  exact e r
theorem fill_lt {us : List UnO} {i : Nat} (h : i + 1 < (fillU us).length) : oLtD (rowK (fillU us)[i]) (rowK (fillU us)[i + 1]) = some (.bl true) := by
  have so : (fillU us).Pairwise fun a b => leD (rowD a) (rowD b) := by
    have := srtD_sorted ((rowsU us).map rowD)
    rw [srtR_D] at this
    exact List.pairwise_map.mp this
  have le := (List.pairwise_iff_getElem.mp so) i (i + 1) (by omega) h (by omega)
  have ne := (List.pairwise_iff_getElem.mp (fillU_nd us)) i (i + 1) (by omega) h (by omega)
  have lt : PySem.W.dataLt (rowD (fillU us)[i]) (rowD (fillU us)[i + 1]) = true := by
    cases e : PySem.W.dataLt (rowD (fillU us)[i]) (rowD (fillU us)[i + 1]) with
    | true => rfl
    | false =>
      have := leD_anti le e (alike_row _ _) (isPl_row _) (isPl_row _)
      have := congrArg backR this
      rw [back_row, back_row] at this
      exact absurd this ne
  unfold oLtD
  rw [plT_row, plT_row]
  dsimp only
  rw [if_pos ⟨alike_row _ _, depth_rowD _⟩, lt]
theorem dok_row49 {r : List Oc} (h : ∀ o ∈ r, OcOk o) : DOk 2 (rowD r) := dok_tup (n := 1) fun d hd => by
  obtain ⟨o, ho, rfl⟩ := List.mem_map.mp hd
  refine dok_tup (n := 0) fun d hd => ?_
  simp only [List.mem_cons, List.not_mem_nil, or_false] at hd
  rcases hd with rfl | rfl | rfl
  · exact dok_int _
  · exact dok_str (name_strOk (h o ho).n)
  · exact dok_int _
theorem toDs_ocs49 : ∀ (s : List Oc), toDs (s.map occT) = some (s.map ocD)
  | [] => rfl
  | o :: s => by
    rw [List.map_cons]
    unfold toDs
    rw [toDs_ocs49 s]
    rfl
theorem toDs_rows : ∀ l : List (List Oc), toDs (l.map rowK) = some (l.map rowD)
  | [] => by unfold List.map toDs; rfl
  | r :: l => by
    rw [List.map_cons]
    unfold toDs
    have e : toD (rowK r) = some (rowD r) := by
      unfold rowK toD
      rw [toDs_ocs49]
      rfl
    rw [toDs_rows l, e]
    rfl
theorem ne_rows {l : List (List Oc)} (h : ∀ r ∈ l, ∀ o ∈ r, OcOk o) : oNe (.lst (l.map rowK)) (.lst (l.map rowK)) = some (.bl false) := by
  have e : eqD (.lst (l.map rowK)) (.lst (l.map rowK)) = some true := eqD_refl (n := 3) (d := .list (l.map rowD)) (by
    unfold toD
    rw [toDs_rows]
    rfl) (dok_lst (n := 2) fun d hd => by
    obtain ⟨r, hr, rfl⟩ := List.mem_map.mp hd
    exact dok_row49 (h r hr)) (by decide)
  unfold oNe oNeD
  rw [e]
  rfl
section
variable {us : List UnO} {S : St}
/-- unsure occasions made of a tuple -/
theorem mk_unsT (ok : ∀ u ∈ us, UnC u) : kMk "Unsure" F_Unsure___init__ [] [.tup (us.map UnO.t)] S = .ok (unsT us) S := by
  have o1 := okRs_un (n := 0) us
  have e1 : ∀ c S, F_is_sequence c [.tup (us.map UnO.t)] S = .ok (.bl true) S := fun c S => isSeq_t o1
  have w : wrOk ⟨S.length, S.length⟩ S.length (.tup (us.map UnO.t)) = true := wr_own (Nat.le_refl _) (Nat.le_refl _)
  have p : fldPut ["Story", "Unsure"] "occasions" ⟨S.length, S.length⟩ (.ref S.length) (.tup (us.map UnO.t)) (S ++ [.obj "Unsure" [] []]) = some (S ++ [unsT us]) := by
    unfold fldPut
    dsimp only
    rw [app_g0]
    show (if ("Unsure" : Str) ∈ (["Story", "Unsure"] : List Str) ∧ ([] : List Str).length < 1000 ∧ wrOk ⟨S.length, S.length⟩ S.length (.tup (us.map UnO.t)) = true then some ((S ++ [T.obj "Unsure" [] []]).set S.length (.obj "Unsure" (putN "occasions" (.tup (us.map UnO.t)) [] []).1 (putN "occasions" (.tup (us.map UnO.t)) [] []).2)) else none) = _
    rw [if_pos ⟨List.mem_cons_of_mem _ (List.mem_cons_self ..), by decide, w⟩, app_s0]
    rfl
  have q : mkR S (.ok .non (S ++ [unsT us])) = .ok (unsT us) S := mkR_ok (by rw [app_g0]; rfl) (by
    have o1 := okRs_un (n := S.length) us
    simp only [okRs_cons, okRs_nil, okR_tup, o1, Bool.and_self])
  obtain ⟨o2, o3, h⟩ := uns_for (some (.ref S.length)) (some (.tup (us.map UnO.t))) ⟨S.length, S.length⟩ (S ++ [.obj "Unsure" [] []]) us 0 none none ok
  rw [e_mk1]
  clear w ok o1
  generalize unsT us = st at *
  generalize us.map UnO.t = l at *
  unfold F_Unsure___init__ b_Unsure___init__
  generalize L_Unsure___init___1 = Lb at *
  generalize F_is_sequence = Fa at *
  generalize S ++ [T.obj "Unsure" [] []] = S1 at *
  generalize S ++ [st] = S2 at *
  walk_at "nm"
end

end


noncomputable section

/-! fillings of unsure occasions: the law -/
section
variable {us : List UnO} {S : St} {D : Dl}
structure Go49 (us : List UnO) : Prop where
  uc : ∀ u ∈ us, UnC u
  ul : us.length ≤ 8
  uw : wd us ≤ 300
theorem Go49.ok (g : Go49 us) {r : List Oc} (h : r ∈ fillU us) : ∀ o ∈ r, OcOk o := by
  obtain ⟨s, hs, rfl⟩ := mem_fillU.mp h
  exact (row_good g.uc hs).2
theorem Go49.cl (g : Go49 us) : (chU us).length ≤ 300 := by
  have := chU_wd (us := us) fun u h => (g.uc u h).w0
  have := g.uw
  omega
theorem Go49.fl (g : Go49 us) : (fillU us).length ≤ 300 := Nat.le_trans (fillU_len us) g.cl
theorem kn_turn (w : World) (g : Go49 us) {s : List Int} (hs : ChOf us s) {rows : List (List Oc)} (nd : rows.Nodup) (hl : rows.length < 1000) (ns : List Int) (x2 x3 x4 x7 x8 x11 x12 : Option T) : L_law_1 w ⟨0, 0⟩ [some (.scr ns), some (.ref 1), x2, x3, x4, some (.lst (us.map UnO.t)), some (chT s), x7, x8, some (unsT us), some (.ref (S.length + 2)), x11, x12] (dlS D (S ++ [knL w rows])) = .nx [some (.scr ns), some (.ref 1), x2, x3, x4, some (.lst (us.map UnO.t)), some (chT s), x7, x8, some (unsT us), some (.ref (S.length + 2)), x11, x12] (dlS D (S ++ [knL w (adR rows (rowU us s))])) := by
  have fe : ∀ c S, F__law_filled c [.lst (us.map UnO.t), chT s] S = .ok (rowK (rowU us s)) S := fun c S => lawFilled_eq hs.len (by have := g.ul; omega) c S
  have hn : (dlS D (S ++ [knL w rows]))[S.length + 2]? = some (knL w rows) := by rw [dl_r, app_g0]; rfl
  have st := setn_knL w hn nd (by omega) (rowU us s)
  have es : (dlS D (S ++ [knL w rows])).set (S.length + 2) (knL w (adR rows (rowU us s))) = dlS D (S ++ [knL w (adR rows (rowU us s))]) := by rw [dl_set, app_s0]; rfl
  rw [es] at st
  have it : ∀ (fo fi fv : Ev T) ρ S, sItmN w fo fi fv ⟨0, 0⟩ ρ S = ouE (fv ⟨0, 0⟩ ρ S) ρ fun t S => ouE (fo ⟨0, 0⟩ ρ S) ρ fun x S => ouE (fi ⟨0, 0⟩ ρ S) ρ fun y S => match setnR w ⟨0, 0⟩ x y t S with
    | some S' => .nx ρ S'
    | none => .st := fun _ _ _ _ _ => rfl
  clear es hn hs nd hl g
  generalize dlS D (S ++ [knL w (adR rows (rowU us s))]) = S2 at *
  generalize dlS D (S ++ [knL w rows]) = S1 at *
  generalize rowK (rowU us s) = rk at *
  generalize us.map UnO.t = ul at *
  generalize unsT us = ut at *
  generalize chT s = ct at *
  generalize S.length + 2 = n at *
  unfold L_law_1
  generalize F__law_filled = Fa at *
  generalize setnR = sn at *
  walk_at "nm"
theorem kn_loop (w : World) (g : Go49 us) (ns : List Int) (x2 x3 x4 x7 x8 x11 x12 : Option T) : ∀ (l : List (List Int)) (rows : List (List Oc)) (x6 : Option T), (∀ s ∈ l, ChOf us s) → rows.Nodup → rows.length + l.length ≤ 900 → ∃ y6, forL (gNm 6) (L_law_1 w) (l.map chT) ⟨0, 0⟩ [some (.scr ns), some (.ref 1), x2, x3, x4, some (.lst (us.map UnO.t)), x6, x7, x8, some (unsT us), some (.ref (S.length + 2)), x11, x12] (dlS D (S ++ [knL w rows])) = .nx [some (.scr ns), some (.ref 1), x2, x3, x4, some (.lst (us.map UnO.t)), y6, x7, x8, some (unsT us), some (.ref (S.length + 2)), x11, x12] (dlS D (S ++ [knL w ((l.map (rowU us)).foldl adR rows)]))
  | [], rows, x6, _, _, _ => ⟨x6, rfl⟩
  | s :: l, rows, x6, hs, nd, hn => by
    rw [List.length_cons] at hn
    have t := kn_turn (D := D) (S := S) w g (hs s (List.mem_cons_self ..)) nd (by omega) ns x2 x3 x4 x7 x8 x11 x12
    have al := adR_len rows (rowU us s)
    obtain ⟨y6, e⟩ := kn_loop w g ns x2 x3 x4 x7 x8 x11 x12 l (adR rows (rowU us s)) (some (chT s)) (fun r hr => hs r (List.mem_cons_of_mem _ hr)) (adR_nd nd _) (by omega)
    refine ⟨y6, ?_⟩
    rw [List.map_cons, List.map_cons, List.foldl_cons, e_forS]
    show forG _ _ _ _ (some ([some (.scr ns), some (.ref 1), x2, x3, x4, some (.lst (us.map UnO.t)), some (chT s), x7, x8, some (unsT us), some (.ref (S.length + 2)), x11, x12], dlS D (S ++ [knL w rows]))) = _
    rw [e_forG, t, e_forKn]
    exact e
def Tn49 (ns : List Int) : Ro → St → Prop := fun ρ S' => ∃ (x2 x3 x4 x5 x6 x7 x8 x9 x10 x11 x12 : Option T) (D : Dl) (S : St), ρ = [some (.scr ns), some (.ref 1), x2, x3, x4, x5, x6, x7, x8, x9, x10, x11, x12] ∧ S' = dlS D S
theorem tail49 (w : World) (g : Go49 us) (ns : List Int) (x2 x3 x4 x6 x7 x8 x9 x10 x11 x12 : Option T) : Nx (Tn49 ns) (L_law_2_3 w ⟨0, 0⟩ [some (.scr ns), some (.ref 1), x2, x3, x4, some (.lst (us.map UnO.t)), x6, x7, x8, x9, x10, x11, x12] (dlS D S)) := by
  have cl := g.cl
  have fl := g.fl
  have ul := g.ul
  have uw := g.uw
  have mu : ∀ S, kMk "Unsure" F_Unsure___init__ [] [.lst (us.map UnO.t)] S = .ok (unsT us) S := fun S => mk_uns g.uc
  have mt : ∀ S, kMk "Unsure" F_Unsure___init__ [] [.tup (us.map UnO.t)] S = .ok (unsT us) S := fun S => mk_unsT g.uc
  have ce := fun c S => lawChoices_eq g.uc (show wd us ≤ 1000 by omega) (show us.length ≤ 1000 by omega) c S
  have fe := fun c S => fillings_eq g.uc (show wd us ≤ 1000 by omega) (show us.length ≤ 1000 by omega) c S
  obtain ⟨y6, lp⟩ := kn_loop (S := S) (D := D) w g ns x2 x3 x4 x7 x8 x11 x12 (chU us) [] x6 (fun s h => mem_chU.mp h) List.nodup_nil (by rw [List.length_nil]; omega)
  have s0 : S ++ [knL w []] = S ++ [T.dN [] [] []] := rfl
  rw [s0] at lp
  replace lp : forL (gNm 6) (L_law_1 w) ((chU us).map chT) ⟨0, 0⟩ [some (.scr ns), some (.ref 1), x2, x3, x4, some (.lst (us.map UnO.t)), x6, x7, x8, some (unsT us), some (.ref (S.length + 2)), x11, x12] (dlS D (S ++ [T.dN [] [] []])) = .nx [some (.scr ns), some (.ref 1), x2, x3, x4, some (.lst (us.map UnO.t)), y6, x7, x8, some (unsT us), some (.ref (S.length + 2)), x11, x12] (dlS D (S ++ [knL w (rowsU us)])) := lp
  have rl : (rowsU us).length ≤ 300 := Nat.le_trans (rowsU_len us) cl
  have hn : (dlS D (S ++ [knL w (rowsU us)]))[S.length + 2]? = some (knL w (rowsU us)) := by rw [dl_r, app_g0]; rfl
  have dq : ∀ ρ S, mDicN ⟨0, 0⟩ ρ S = .ok (.ref S.length) (S ++ [.dN [] [] []]) := fun _ _ => rfl
  have ln0 : (dlS D S).length = S.length + 2 := dl_len
  have ap : dlS D S ++ [T.dN [] [] []] = dlS D (S ++ [.dN [] [] []]) := dl_app
  have kt2 : ∀ x y S, kTup [x, y] S = .ok (.tup [x, y]) S := fun _ _ _ => rfl
  have sqC : ∀ S, kSeq (.lst ((chU us).map chT)) S = .ok (.fix ((chU us).map chT)) S := fun _ => rfl
  have sqF : ∀ S, kSeq (.tup ((fillU us).map storyT)) S = .ok (.fix ((fillU us).map storyT)) S := fun _ => rfl
  have sqR : ∀ S, kSeq (.lst ((fillU us).map rowK)) S = .ok (.fix ((fillU us).map rowK)) S := fun _ => rfl
  have isT : fIsB Cs_all "tuple" (.tup ((fillU us).map storyT)) = some (.bl true) := rfl
  have lcI : ∀ (x6 x7 x8 : Option T) S', lcL (gNm 3) (mNotT (mTst (mUn (fIsC tb_Story) (mVar 3)))) (mVar 3) ((fillU us).map storyT) [] ⟨0, 0⟩ [some (.scr ns), some (.ref 1), x2, none, x4, some (.lst (us.map UnO.t)), x6, x7, x8, some (unsT us), some (.ref (S.length + 2)), x11, x12] S' = .ok [] S' := fun x6 x7 x8 S' => by
    have := lcL_filt (c := ⟨0, 0⟩) (ρ := [some (.scr ns), some (.ref 1), x2, none, x4, some (.lst (us.map UnO.t)), x6, x7, x8, some (unsT us), some (.ref (S.length + 2)), x11, x12]) (S := S') (g := gNm 3) (tt := mNotT (mTst (mUn (fIsC tb_Story) (mVar 3)))) (te := mVar 3) storyT (fun _ => false) storyT (fillU us) [] (by rw [List.length_nil]; omega) fun r hr => by
      refine ⟨[some (.scr ns), some (.ref 1), x2, some (storyT r), x4, some (.lst (us.map UnO.t)), x6, x7, x8, some (unsT us), some (.ref (S.length + 2)), x11, x12], rfl, ?_, fun h => nomatch h⟩
      have i1 : fIsC tb_Story (storyT r) = some (.bl true) := by rfl
      clear hr lp g
      generalize storyT r = sr at *
      generalize us.map UnO.t = ul at *
      generalize unsT us = ut at *
      generalize fIsC tb_Story = fi at *
      walk_at "nm"
    have f0 : (fillU us).filter (fun _ => false) = [] := List.filter_eq_nil_iff.mpr fun _ _ h => nomatch h
    rw [f0, List.nil_append, List.map_nil] at this
    exact this
  have lcO : ∀ (x6 x7 x8 : Option T) S', lcL (gNm 3) mYes (mFld ["Story", "Unsure"] "occasions" (mVar 3)) ((fillU us).map storyT) [] ⟨0, 0⟩ [some (.scr ns), some (.ref 1), x2, none, x4, some (.lst (us.map UnO.t)), x6, x7, x8, some (unsT us), some (.ref (S.length + 2)), x11, x12] S' = .ok ((fillU us).map rowK) S' := fun x6 x7 x8 S' => by
    have := lcL_filt (c := ⟨0, 0⟩) (ρ := [some (.scr ns), some (.ref 1), x2, none, x4, some (.lst (us.map UnO.t)), x6, x7, x8, some (unsT us), some (.ref (S.length + 2)), x11, x12]) (S := S') (g := gNm 3) (tt := mYes) (te := mFld ["Story", "Unsure"] "occasions" (mVar 3)) storyT (fun _ => true) rowK (fillU us) [] (by rw [List.length_nil]; omega) fun r _ => ⟨[some (.scr ns), some (.ref 1), x2, some (storyT r), x4, some (.lst (us.map UnO.t)), x6, x7, x8, some (unsT us), some (.ref (S.length + 2)), x11, x12], rfl, rfl, fun _ => rfl⟩
    rw [List.filter_eq_self.mpr fun _ _ => rfl, List.nil_append] at this
    exact this
  have lcK : ∀ (x6 x7 x8 : Option T), lcL (gNm 3) (mTst (mInN w true (mVar 3) (mVar 10))) (mVar 3) ((fillU us).map rowK) [] ⟨0, 0⟩ [some (.scr ns), some (.ref 1), x2, none, x4, some (.lst (us.map UnO.t)), x6, x7, x8, some (unsT us), some (.ref (S.length + 2)), x11, x12] (dlS D (S ++ [knL w (rowsU us)])) = .ok [] (dlS D (S ++ [knL w (rowsU us)])) := fun x6 x7 x8 => by
    have := lcL_filt (c := ⟨0, 0⟩) (ρ := [some (.scr ns), some (.ref 1), x2, none, x4, some (.lst (us.map UnO.t)), x6, x7, x8, some (unsT us), some (.ref (S.length + 2)), x11, x12]) (S := dlS D (S ++ [knL w (rowsU us)])) (g := gNm 3) (tt := mTst (mInN w true (mVar 3) (mVar 10))) (te := mVar 3) rowK (fun _ => false) rowK (fillU us) [] (by rw [List.length_nil]; omega) fun r hr => by
      refine ⟨[some (.scr ns), some (.ref 1), x2, some (rowK r), x4, some (.lst (us.map UnO.t)), x6, x7, x8, some (unsT us), some (.ref (S.length + 2)), x11, x12], rfl, ?_, fun h => nomatch h⟩
      have q := in_knL w hn (rowsU_nd us) (by omega) ((fill_rows us).mem_iff.mp hr)
      show mTst (mInN w true (mVar 3) (mVar 10)) ⟨0, 0⟩ [some (.scr ns), some (.ref 1), x2, some (rowK r), x4, some (.lst (us.map UnO.t)), x6, x7, x8, some (unsT us), some (.ref (S.length + 2)), x11, x12] _ = _
      have e : mInN w true (mVar 3) (mVar 10) ⟨0, 0⟩ [some (.scr ns), some (.ref 1), x2, some (rowK r), x4, some (.lst (us.map UnO.t)), x6, x7, x8, some (unsT us), some (.ref (S.length + 2)), x11, x12] (dlS D (S ++ [knL w (rowsU us)])) = innR w true (rowK r) (.ref (S.length + 2)) (dlS D (S ++ [knL w (rowsU us)])) := rfl
      rw [e_tst, e, q]
      rfl
    have f0 : (fillU us).filter (fun _ => false) = [] := List.filter_eq_nil_iff.mpr fun _ _ h => nomatch h
    rw [f0, List.nil_append, List.map_nil] at this
    exact this
  have lenK : ∀ (x6 x7 x8 : Option T), mLenN (mVar 10) ⟨0, 0⟩ [some (.scr ns), some (.ref 1), x2, x3, x4, some (.lst (us.map UnO.t)), x6, x7, x8, some (unsT us), some (.ref (S.length + 2)), x11, x12] (dlS D (S ++ [knL w (rowsU us)])) = .ok (.int ((rowsU us).length : Int)) (dlS D (S ++ [knL w (rowsU us)])) := fun x6 x7 x8 => len_knL w hn (by omega) rfl
  have lenT : bLenA [.lst ((fillU us).map rowK)] = some (.int ((rowsU us).length : Int)) := by rw [v_lenL, List.length_map, (fill_rows us).length_eq]
  have neL : oNe (.int ((rowsU us).length : Int)) (.int ((rowsU us).length : Int)) = some (.bl false) := by rw [v_neI]; simp
  have rg : fRng2 [.int 1, .int ((rowsU us).length : Int)] = some (rgT 1 ((rowsU us).length - 1)) := by
    have e : (((rowsU us).length : Int) - 1).toNat = (rowsU us).length - 1 := by omega
    rw [v_rng2U (i := 1) (j := ((rowsU us).length : Int)) (by decide) (by decide) (by omega) (by omega), e]
  have lcS : ∀ (x6 x7 x3 : Option T) S', lcL (gNm 12) (mNotT (mTst (mOp oLtD (mIxA (mVar 8) (mOp oSub (mVar 12) (mC (.int 1)))) (mIxA (mVar 8) (mVar 12))))) (mVar 12) (rgT 1 ((rowsU us).length - 1)) [] ⟨0, 0⟩ [some (.scr ns), some (.ref 1), x2, x3, x4, some (.lst (us.map UnO.t)), x6, x7, some (.lst ((fillU us).map rowK)), some (unsT us), some (.ref (S.length + 2)), x11, none] S' = .ok [] S' := fun x6 x7 x3 S' => by
    have ef : (fillU us).length = (rowsU us).length := (fill_rows us).length_eq
    have := lcL_filt (c := ⟨0, 0⟩) (ρ := [some (.scr ns), some (.ref 1), x2, x3, x4, some (.lst (us.map UnO.t)), x6, x7, some (.lst ((fillU us).map rowK)), some (unsT us), some (.ref (S.length + 2)), x11, none]) (S := S') (g := gNm 12) (tt := mNotT (mTst (mOp oLtD (mIxA (mVar 8) (mOp oSub (mVar 12) (mC (.int 1)))) (mIxA (mVar 8) (mVar 12))))) (te := mVar 12) (fun (i : Nat) => T.int (1 + (i : Int))) (fun _ => false) (fun (i : Nat) => T.int (1 + (i : Int))) (List.range ((rowsU us).length - 1)) [] (by rw [List.length_nil, List.length_range]; omega) fun i hi => by
      have hi := List.mem_range.mp hi
      refine ⟨[some (.scr ns), some (.ref 1), x2, x3, x4, some (.lst (us.map UnO.t)), x6, x7, some (.lst ((fillU us).map rowK)), some (unsT us), some (.ref (S.length + 2)), x11, some (.int (1 + (i : Int)))], rfl, ?_, fun h => nomatch h⟩
      have lt := fill_lt (us := us) (i := i) (by omega)
      have s1 : oSub (.int (1 + (i : Int))) (.int 1) = some (.int (i : Int)) := by
        rw [v_sub, show 1 + (i : Int) - 1 = (i : Int) by omega]
      have i0 : ∀ S, ixR (.lst ((fillU us).map rowK)) (.int (i : Int)) S = .ok (rowK (fillU us)[i]) S := fun S => by
        have := atI_nat (l := (fillU us).map rowK) (i := (i : Int)) (x := rowK (fillU us)[i]) (by omega) (by rw [List.getElem?_map, Int.toNat_natCast, List.getElem?_eq_getElem (by omega)]; rfl)
        show optR (atI ((fillU us).map rowK) (i : Int)) S = _
        rw [this]
        rfl
      have i1 : ∀ S, ixR (.lst ((fillU us).map rowK)) (.int (1 + (i : Int))) S = .ok (rowK (fillU us)[i + 1]) S := fun S => by
        have := atI_nat (l := (fillU us).map rowK) (i := 1 + (i : Int)) (x := rowK (fillU us)[i + 1]) (by omega) (by rw [List.getElem?_map, show (1 + (i : Int)).toNat = i + 1 by omega, List.getElem?_eq_getElem (by omega)]; rfl)
        show optR (atI ((fillU us).map rowK) (1 + (i : Int))) S = _
        rw [this]
        rfl
      clear lp g
      generalize rowK (fillU us)[i] = r0 at *
      generalize rowK (fillU us)[i + 1] = r1 at *
      generalize (fillU us).map rowK = RK at *
      generalize us.map UnO.t = ul at *
      generalize unsT us = ut at *
      generalize 1 + (i : Int) = i1 at *
      generalize (i : Int) = i0 at *
      generalize oLtD = od at *
      generalize oSub = os at *
      walk_at "nm"
    have f0 : (List.range ((rowsU us).length - 1)).filter (fun _ => false) = [] := List.filter_eq_nil_iff.mpr fun _ _ h => nomatch h
    rw [f0, List.nil_append, List.map_nil] at this
    exact this
  have ne0 : oNe (.lst []) (.lst []) = some (.bl false) := rfl
  have neR := ne_rows (l := fillU us) fun r hr => g.ok hr
  have f1 : fFldC ["Story", "Unsure"] "occasions" (unsT us) = some (.tup (us.map UnO.t)) := rfl
  have vu : ∀ S, vw S (unsT us) = unsT us := fun S => rfl
  have w3 : ∀ y0 y1 y2 y3 y4 y5 y6 y7 y8 y9 y10 y11 y12 : Option T, wipeS [3] [y0, y1, y2, y3, y4, y5, y6, y7, y8, y9, y10, y11, y12] = [y0, y1, y2, none, y4, y5, y6, y7, y8, y9, y10, y11, y12] := fun _ _ _ _ _ _ _ _ _ _ _ _ _ => rfl
  have w12 : ∀ y0 y1 y2 y3 y4 y5 y6 y7 y8 y9 y10 y11 y12 : Option T, wipeS [12] [y0, y1, y2, y3, y4, y5, y6, y7, y8, y9, y10, y11, y12] = [y0, y1, y2, y3, y4, y5, y6, y7, y8, y9, y10, y11, none] := fun _ _ _ _ _ _ _ _ _ _ _ _ _ => rfl
  have lp' : ∀ x9 x10 : Option T, True := fun _ _ => trivial
  show (fun u => Nx (Tn49 ns) u) _
  unfold L_law_2_3
  dsimp! only [mu, dq, ln0, ap, kt2]
  unfold L_law_2_4
  dsimp! only [ce, sqC, lp]
  unfold L_law_2_5
  dsimp! only [fe]
  unfold L_law_2_6
  generalize mNotT (mTst (mUn (fIsC tb_Story) (mVar 3))) = tI at *
  dsimp! only [isT, sqF, w3, lcI, ne0]
  unfold L_law_2_7
  dsimp! only [sqF, w3, lcO]
  unfold L_law_2_8
  generalize mTst (mInN w true (mVar 3) (mVar 10)) = tK at *
  dsimp! only [lenT, lenK, neL, sqR, w3, lcK, ne0]
  unfold L_law_2_9
  generalize mNotT (mTst (mOp oLtD (mIxA (mVar 8) (mOp oSub (mVar 12) (mC (.int 1)))) (mIxA (mVar 8) (mVar 12)))) = tS at *
  dsimp! only [lenT, rg, w12, lcS, ne0]
  unfold L_law_2_10
  dsimp! only [f1, vu, mt, fe, sqF, w3, lcO, neR]
  exact ⟨_, _, rfl, _, _, _, _, _, _, _, _, _, _, _, D, _, rfl, rfl⟩
theorem cut_1 (us : List UnO) : cutT (us.map UnO.t) none (some 1) = (us.take 1).map UnO.t := by
  unfold cutT
  have e0 : HT.sIx (us.map UnO.t).length 0 none = 0 := rfl
  have e1 : HT.sIx (us.map UnO.t).length (us.map UnO.t).length (some 1) = min 1 (us.map UnO.t).length := HT.sIx_nat _ _ 1
  rw [e0, e1]
  show List.take (min 1 (us.map UnO.t).length - 0) (us.map UnO.t) = _
  rw [Nat.sub_zero, ← List.map_take]
  cases us with
  | nil => rfl
  | cons u us => simp
theorem two49 (hu : ∀ u ∈ us, UnC u) (h4 : ∀ u ∈ us, u.w ≤ 4) (hl : us.length ≤ 4) (hw : wd us ≤ 64) : Go49 us ∧ Go49 (us ++ us.take 1) := by
  refine ⟨⟨hu, by omega, by omega⟩, fun u h => ?_, ?_, ?_⟩
  · rcases List.mem_append.mp h with h | h
    · exact hu u h
    · exact hu u (List.mem_of_mem_take h)
  · rw [List.length_append, List.length_take]
    omega
  · cases us with
    | nil => decide
    | cons u us =>
      have w0 := (hu u (List.mem_cons_self ..)).w0
      have w4 := h4 u (List.mem_cons_self ..)
      have e : (u :: us) ++ (u :: us).take 1 = (u :: us) ++ [u] := by simp
      rw [e, wd_app]
      have h1 := Int.mul_le_mul hw w4 (by omega) (by decide)
      omega
theorem turn49 (w : World) (ns : List Int) (x2 x3 x4 x5 x6 x7 x8 x9 x10 x11 x12 : Option T) : Nx (Tn49 ns) (L_law_2 w ⟨0, 0⟩ [some (.scr ns), some (.ref 1), x2, x3, x4, x5, x6, x7, x8, x9, x10, x11, x12] (dlS D S)) := by
  obtain ⟨r, D1, rok, e1⟩ := ruleA_eq (D := D) (R := S) (n0 := 0) (many := 2) (most := 9) (by decide) (by decide) (by decide)
  replace e1 : F__law_rule ⟨0, 0⟩ [.ref 1, .int 2, .int 9] (dlS D S) = .ok r.t (dlS D1 S) := e1
  obtain ⟨us, D2, uo, ul, uw, e2⟩ := unsA_eq (D := D1) (R := S) (n0 := 0) (many := 4) (most := 12) rok (by decide) (by decide) (by decide) (by decide)
  replace e2 : F__law_unsure ⟨0, 0⟩ [.ref 1, r.t, .int 4, .int 12] (dlS D1 S) = .ok (.lst (us.map UnO.t)) (dlS D2 S) := e2
  obtain ⟨p, D3, p0, p1, e3⟩ := drawA_eq (D := D2) (R := S) (n0 := 0) (m := 3) (by decide) (by decide)
  obtain ⟨g1, g2⟩ := two49 (us := us) (fun u h => uns_C rok (by decide) (uo u h)) (fun u h => (uo u h).w1) ul uw
  have sl : oSl none (some 1) (.lst (us.map UnO.t)) = some (.lst ((us.take 1).map UnO.t)) := by
    show some (T.lst (cutT (us.map UnO.t) none (some 1))) = _
    rw [cut_1]
  have ad : oAdd (.lst (us.map UnO.t)) (.lst ((us.take 1).map UnO.t)) = some (.lst ((us ++ us.take 1).map UnO.t)) := by
    rw [v_addL (by rw [List.length_map, List.length_map, List.length_take]; omega), List.map_append]
  have g2l := g2.ul
  have g2w := g2.uw
  have ce := fun c S => lawChoices_eq g2.uc (show wd (us ++ us.take 1) ≤ 1000 by omega) (show (us ++ us.take 1).length ≤ 1000 by omega) c S
  have ln : bLenA [.lst ((chU (us ++ us.take 1)).map chT)] = some (.int ((chU (us ++ us.take 1)).length : Int)) := by rw [v_lenL, List.length_map]
  have q1 : oEq (.int p) (.int 0) = some (.bl (decide (p = 0))) := v_eqI _ _
  have q2 : oLt (.int ((chU (us ++ us.take 1)).length : Int)) (.int 201) = some (.bl (decide (((chU (us ++ us.take 1)).length : Int) < 201))) := v_lt _ _
  show (fun u => Nx (Tn49 ns) u) _
  unfold L_law_2
  dsimp! only [e1]
  unfold L_law_2_1
  dsimp! only [e2]
  unfold L_law_2_2
  by_cases h1 : p = 0
  · rw [decide_eq_true h1] at q1
    by_cases h2 : ((chU (us ++ us.take 1)).length : Int) < 201
    · rw [decide_eq_true h2] at q2
      dsimp! only [e3, q1, sl, ad, ce, ln, q2]
      exact tail49 w g2 ns x2 x3 _ x6 x7 x8 x9 x10 x11 x12
    · rw [decide_eq_false h2] at q2
      dsimp! only [e3, q1, sl, ad, ce, ln, q2]
      exact tail49 w g1 ns x2 x3 _ x6 x7 x8 x9 x10 x11 x12
  · rw [decide_eq_false h1] at q1
    dsimp! only [e3, q1]
    exact tail49 w g1 ns x2 x3 _ x6 x7 x8 x9 x10 x11 x12
def u49 : List UnO := [⟨1, 2, "a", 1⟩, ⟨2, 1, "a", 1⟩]
theorem f49 : fillU u49 = ([[((1 : Int), ("a" : Str), (1 : Int)), (2, "a", 1)], [(2, "a", 1), (2, "a", 1)]] : List (List Oc)) := by decide +kernel
theorem f49n : fillU [] = ([[]] : List (List Oc)) := by decide +kernel
theorem g49 : Go49 u49 := ⟨fun u hu => by
  simp only [u49, List.mem_cons, List.not_mem_nil, or_false] at hu
  rcases hu with rfl | rfl <;> exact ⟨by decide, by decide, by decide, by decide, by decide +kernel, by decide⟩, by decide, by decide⟩
theorem end49 (w : World) (ns : List Int) (x2 x3 x4 x5 x6 x7 x8 x9 x10 x11 x12 : Option T) : ∃ S', b_law_2 w ⟨0, 0⟩ [some (.scr ns), some (.ref 1), x2, x3, x4, x5, x6, x7, x8, x9, x10, x11, x12] (dlS D S) = .rt (.bl true) S' := by
  have mu : ∀ S, kMk "Unsure" F_Unsure___init__ [] [.lst [.tup [.int 1, .int 2, .str "a", .int 1], .tup [.int 2, .int 2, .str "a", .int 1]]] S = .ok (unsT u49) S := fun S => mk_uns (S := S) g49.uc
  have c0 : ∀ u ∈ ([] : List UnO), UnC u := fun _ h => nomatch h
  have mt : ∀ S, kMk "Unsure" F_Unsure___init__ [] [.tup []] S = .ok (unsT []) S := fun S => mk_unsT (S := S) c0
  have fe : ∀ c S, F_fillings c [unsT u49] S = .ok (.tup [storyT [(1, "a", 1), (2, "a", 1)], storyT [(2, "a", 1), (2, "a", 1)]]) S := fun c S => by
    rw [fillings_eq g49.uc (by decide) (by decide) c S, f49]
    rfl
  have fn : ∀ c S, F_fillings c [unsT []] S = .ok (.tup [storyT []]) S := fun c S => by
    rw [fillings_eq c0 (by decide) (by decide) c S, f49n]
    rfl
  have sq : ∀ S, kSeq (.tup [storyT [(1, "a", 1), (2, "a", 1)], storyT [(2, "a", 1), (2, "a", 1)]]) S = .ok (.fix [storyT [(1, "a", 1), (2, "a", 1)], storyT [(2, "a", 1), (2, "a", 1)]]) S := fun _ => rfl
  have lc : ∀ S', lcL (gNm 11) mYes (mFld ["Story", "Unsure"] "occasions" (mVar 11)) [storyT [(1, "a", 1), (2, "a", 1)], storyT [(2, "a", 1), (2, "a", 1)]] [] ⟨0, 0⟩ [some (.scr ns), some (.ref 1), x2, x3, x4, x5, x6, x7, x8, x9, x10, none, x12] S' = .ok [rowK [(1, "a", 1), (2, "a", 1)], rowK [(2, "a", 1), (2, "a", 1)]] S' := fun S' => by
    have := lcL_filt (c := ⟨0, 0⟩) (ρ := [some (.scr ns), some (.ref 1), x2, x3, x4, x5, x6, x7, x8, x9, x10, none, x12]) (S := S') (g := gNm 11) (tt := mYes) (te := mFld ["Story", "Unsure"] "occasions" (mVar 11)) storyT (fun _ => true) rowK [[(1, "a", 1), (2, "a", 1)], [(2, "a", 1), (2, "a", 1)]] [] (by decide) fun r _ => ⟨[some (.scr ns), some (.ref 1), x2, x3, x4, x5, x6, x7, x8, x9, x10, some (storyT r), x12], rfl, rfl, fun _ => rfl⟩
    exact this
  have w11 : wipeS [11] [some (.scr ns), some (.ref 1), x2, x3, x4, x5, x6, x7, x8, x9, x10, x11, x12] = [some (.scr ns), some (.ref 1), x2, x3, x4, x5, x6, x7, x8, x9, x10, none, x12] := rfl
  have kt2 : ∀ x y S, kTup [x, y] S = .ok (.tup [x, y]) S := fun _ _ _ => rfl
  have kt3 : ∀ x y z S, kTup [x, y, z] S = .ok (.tup [x, y, z]) S := fun _ _ _ _ => rfl
  have kt4 : ∀ x y z u S, kTup [x, y, z, u] S = .ok (.tup [x, y, z, u]) S := fun _ _ _ _ _ => rfl
  have kt0 : ∀ S, kTup [] S = .ok (.tup []) S := fun _ => rfl
  have eqR : oEq (.lst [rowK [(1, "a", 1), (2, "a", 1)], rowK [(2, "a", 1), (2, "a", 1)]]) (.lst [.tup [.tup [.int 1, .str "a", .int 1], .tup [.int 2, .str "a", .int 1]], .tup [.tup [.int 2, .str "a", .int 1], .tup [.int 2, .str "a", .int 1]]]) = some (.bl true) := by kernel_rfl
  have l1 : bLenA [.tup [storyT []]] = some (.int 1) := rfl
  have e11 : oEq (.int 1) (.int 1) = some (.bl true) := rfl
  refine ⟨dlS D S, ?_⟩
  unfold b_law_2 b_law_3
  dsimp! only [kt4, mu, fe, sq, w11, lc, kt3, kt2, eqR, kt0, mt, fn, l1, e11]
theorem law_all49 (w : World) (ns : List Int) (hn : ns.length ≤ 63) : ∃ S', b_law w ⟨0, 0⟩ (start0 13 [.scr ns]) [] = .rt (.bl true) S' := by
  obtain ⟨D, e1⟩ := dealA_eq (c := ⟨0, 0⟩) hn
  show (fun o => ∃ S', o = Ou.rt (.bl true) S') _
  generalize hP : (fun o => ∃ S', o = Ou.rt (.bl true) S') = P
  have st : start0 13 [.scr ns] = [some (.scr ns), none, none, none, none, none, none, none, none, none, none, none, none] := rfl
  have rg : fRng1 [.int 6] = some (rgT 0 6) := rfl
  unfold b_law
  dsimp! only [st, e1]
  unfold b_law_1
  dsimp! only [rg]
  refine for_then (Tn49 ns) ⟨_, _, _, _, _, _, _, _, _, _, _, D, [], rfl, rfl⟩ ?_ ?_
  · rintro y hy ρ S' ⟨x2, x3, x4, x5, x6, x7, x8, x9, x10, x11, x12, D, S, rfl, rfl⟩
    exact ⟨_, _, rfl, turn49 w ns (some y) x3 x4 x5 x6 x7 x8 x9 x10 x11 x12⟩
  · rintro ρ S' ⟨x2, x3, x4, x5, x6, x7, x8, x9, x10, x11, x12, D, S, rfl, rfl⟩
    subst hP
    exact end49 w ns x2 x3 x4 x5 x6 x7 x8 x9 x10 x11 x12
end
section
variable {P : Program} {w : World} {K : PySem.W.Frag} {mg : Str → Option Value} {base : Heap}
theorem ok_law (E : Env K mg w) {fd : FuncData} (F : FunD K "law" "law" (defArgs s_law) (defBody s_law) (defScope s_law) [] [] (He.ga K "law") fd) : FnOk P w K mg base CX0 30 (He.ga K "law") fd ["_law_script"] (spLaw K) := ok_law_of (law_all49 w) E F
end

end


end Tm

open PySem PySem.W PySem.Calls PyProof.Rows
theorem PySem.Challenge.cw_termstill_k49_fillings_of_unsure_occasio_holds : PySem.Challenge.rw_termstill_k49_fillings_of_unsure_occasio.Holds := by
  refine Tm.holds_if fun w mg fa h Y G hm => ?_
  obtain ⟨K, KX, c⟩ := Y
  have E := Tm.env_of KX G c
  have e : fa = He.ga K "law" := by
    have z := hm.symm.trans E.g_law
    cases z
    rfl
  subst e
  obtain ⟨fd, F⟩ := E.f_law
  exact ⟨K, fd, Tm.spLaw K, KX, fun s v => L2.FunD.bindsA (ps := ["_law_script"]) F (fun _ _ _ _ _ _ us hl => match us, hl with | [_], _ => rfl) s [v] rfl, fun H a ns hl _ hS => ⟨a, ns, rfl, hS, hl, fun _ => rfl⟩, fun base _ _ => Tm.ok_law E F⟩
#print axioms PySem.Challenge.cw_termstill_k49_fillings_of_unsure_occasio_holds
