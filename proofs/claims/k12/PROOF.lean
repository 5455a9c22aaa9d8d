import PyProof.Rows.All
import Wide.All
import OpenK.AllK
import Wide.FinOn
import KE.KStateDown
import Lean
import HandS.ForMost
import HandS.ForExc
import HandS.Defaults
import HandS.IsInst
import HandS.Flow
import HandS.Style
import HandS.Conv
import HandS.Strs
import HandS.SetKeys
import HandS.DictComp
import HandS.Wide
import HandS.FStr
import HandS.Property
import HandS.ClsMeth
import HandS.ExcInit
import HandS.ExcSuper
import HandS.ExcField
import HandS.TryMany
import HandS.SuiteRaise
import HandS.RaiseFrom
import HandS.HotCalls
import HandS.MakeKw
import HandS.SortInts
import HandS.SortKw
import HandS.TupAny
import HandS.TupLe
import HandS.TupMul
import HandS.Zip
import HandS.Deep
import HandS.DeepEq
import HandS.OwnEq
import HandS.Star
import HandS.MethStar
import HandS.Head0
import HandS.Head1
import HandS.Head2
import HandS.HeadEnd
import HandS.HeadHook1
import HandS.HeadHook2
import HandS.HeadHook3
import HandS.HeadNt
import HandS.Evl
import HandS.Steps
import HandS.RaiseOp
import HandS.Remove
import HandS.SetFor
import HandS.DictTup
import HandS.Walk
import HandS.RaiseMore
import HandS.Small
import HandS.CallLocal
import HandS.Lambda
import HandS.ListEq
import HandS.DictEq
import HandS.SortOrd
import HandS.SortRule
import HandS.ListItems
import HandS.NoneIn
import KE.GoesMore
import KE.KExcSuper
import HandS.Hot
import HandS.ExcIs
import HandS.CallSlots
import PySem.Challenge.RW_termstill_k12_kinds_and_rules_by_names
set_option Elab.async false
set_option linter.all false
set_option maxRecDepth 100000
set_option maxHeartbeats 4000000
/-! Part 0: a Hook with a further test of one's own, and short words for the head. -/
namespace Tm
open PySem PySem.Spec PyProof.Rows L2
/-- the j-th default of the def at f, an object -/
def emptyDfl (f : PySem.W.Frag → Addr) (j : Nat) (K : PySem.W.Frag) : Addr :=
  match K.lookup (f K) with
  | some ⟨_, _, .func fd, _⟩ =>
    match fd.defaults with
    | .ref T =>
      match K.lookup T with
      | some ⟨_, _, .seq its _, _⟩ =>
        match its.toList[j]? with
        | some (.ref a) => a
        | _ => 0
      | _ => 0
    | _ => 0
  | _ => 0
/-- what stands at a is a tuple of these -/
def tupAtB (K : PySem.W.Frag) (a : Addr) (vs : List V) : Bool :=
  match K.lookup a with
  | some ⟨.type c, _, .seq its _, _⟩ => decide (c = "tuple") && (decide (its.size ≤ sizeLine) && He.relAll vs its.toList)
  | _ => false
theorem tupAtB_ok {K : PySem.W.Frag} {a : Addr} {vs : List V} (h : tupAtB K a vs = true) (H : Hp) : SqT K H a vs := by
  unfold tupAtB at h
  cases q : K.lookup a with
  | none => rw [q] at h; cases h
  | some o =>
    obtain ⟨oc, od, dt, osl⟩ := o
    rw [q] at h
    cases oc with
    | type c =>
      cases dt with
      | seq its n =>
        have h' := h
        simp only [Bool.and_eq_true, decide_eq_true_eq] at h'
        obtain ⟨h1, h3, h4⟩ := h'
        exact .inr ⟨_, its, n, q, congrArg Value.type h1, rfl, h3, He.relAll_ok h4⟩
      | _ => cases h
    | _ => cases dt <;> cases h
abbrev Al := (Bool × (Bool × List He.FnW)) × List (Option (List (Option (Str × Int))))
def obsM (fa : List He.Fa) (ex : PySem.W.Frag → Bool) (fn : List He5.DefA) (ts : List He.Tab) (K : PySem.W.Frag) : Al :=
  ((ex K, He5.obsA fa fn K), ts.map fun t => He.dicW K (t.1 K))
def valM (fn : List He5.DefA) (ts : List He.Tab) (w : World) : Al := ((true, He5.valA fn), ts.map fun t => some (He.keysIn w.params t.2))
def SaysM (fa : List He.Fa) (ex : PySem.W.Frag → Bool) (fn : List He5.DefA) (ts : List He.Tab) (w : World) (K : PySem.W.Frag) : Prop :=
  obsM fa ex fn ts K = valM fn ts w
section
variable {fa : List He.Fa} {ext : PySem.W.Frag → Bool} {fn : List He5.DefA} {ts : List He.Tab} {w : World} {K : PySem.W.Frag}
theorem SaysM.ex (c : SaysM fa ext fn ts w K) : ext K = true := congrArg (fun z : Al => z.1.1) c
theorem SaysM.a (c : SaysM fa ext fn ts w K) : He5.SaysA fa fn K := congrArg (fun z : Al => z.1.2) c
theorem SaysM.tab (c : SaysM fa ext fn ts w K) (i : Nat) {t : He.Tab} (h : ts[i]? = some t := by rfl) : ∃ es n, KDict K w (t.1 K) es n := by
  have e : ts.map (fun t => He.dicW K (t.1 K)) = ts.map fun t => some (He.keysIn w.params t.2) := congrArg (fun z : Al => z.2) c
  have e2 : (ts.map fun t => He.dicW K (t.1 K))[i]? = (ts.map fun t => some (He.keysIn w.params t.2))[i]? := by rw [e]
  rw [List.getElem?_map, List.getElem?_map, h] at e2
  exact He.dicW_ok (Option.some.inj e2)
end
def hookM (n : Nat) (fa : List He.Fa) (ex : PySem.W.Frag → Bool) (fn : List He5.DefA) (ts : List He.Tab) : PySem.W.Hook where
  α := Al
  obs := fun s => obsM fa ex fn ts (He.frG s.heap.get? (He5.asA s.heap.get? n))
  val := fun w => valM fn ts w
  says := fun w h => ∃ K : PySem.W.Frag, K.In h ∧ SaysM fa ex fn ts w K
  of := fun _ _ e => ⟨_, He.frG_in, e⟩
  keeps := fun _ _ _ ⟨K, hK, c⟩ k => ⟨K, hK.keeps k, c⟩
def obM (n : Nat) (fa : List He.Fa) (ex : PySem.W.Frag → Bool) (fn : List He5.DefA) (ts : List He.Tab) (s : PySem.W.SharedT) : Al :=
  obsM fa ex fn ts (He.frG (HandSHeadRun.getT s) (He5.asA (HandSHeadRun.getT s) n))
theorem obM_eq {n : Nat} {fa : List He.Fa} {ex : PySem.W.Frag → Bool} {fn : List He5.DefA} {ts : List He.Tab} (s : PySem.W.SharedT) :
    obM n fa ex fn ts s = (hookM n fa ex fn ts).obs s.abs := by
  have e : HandSHeadRun.getT s = s.abs.heap.get? := funext (HandSHeadRun.getT_eq s)
  unfold obM
  rw [e]
  rfl
end Tm

/-! Part 0b: tests that a head asks. -/
namespace Tm
open PySem PySem.Spec PyProof.Rows L2
def ownB (K : PySem.W.Frag) (C : Addr) : Bool :=
  He.eqO (PySem.W.findIn K (.ref C) "__class__") (some (some (.builtin "object.__class__"))) &&
  (He.eqO (PySem.W.specialIn K (.builtin "object.__class__") "__get__") (some (some (.builtin "getset_descriptor.__get__"))) &&
  (decide (PySem.W.takesIn K (.builtin "object.__class__") = some true) && (decide (PySem.W.mroIn K C (.type "object") = some true) &&
  (["int", "bool", "str", "list", "tuple"].all fun n => decide (PySem.W.kitOne K (.ref C) (.type n) = some false)))))
/-- of the built-in types none is below the own class D -/
def bltB (K : PySem.W.Frag) (D : Addr) : Bool := ["int", "bool", "str", "NoneType", "list", "tuple"].all fun n => decide (PySem.W.kitOne K (.type n) (.ref D) = some false)
def subB (K : PySem.W.Frag) (C D : Addr) (b : Bool) : Bool := decide (PySem.W.kitOne K (.ref C) (.ref D) = some b)
def spmB (K : PySem.W.Frag) (C : Addr) (m : Str) (f : Addr) : Bool := He.eqO (PySem.W.findIn K (.ref C) m) (some (some (.ref f))) && PySem.W.isFn K (.ref f)
def neB (K : PySem.W.Frag) (C : Addr) : Bool := He.eqO (PySem.W.findIn K (.ref C) "__ne__") (some (some (.builtin "object.__ne__"))) && decide (PySem.W.mroIn K C (.type "object") = some true)
def nfB (K : PySem.W.Frag) (C : Addr) : Bool := ["int", "bool", "str", "NoneType", "list", "tuple"].all fun n => PySem.W.notFirst K C (.type n)
def nmB (K : PySem.W.Frag) (C : Addr) : Bool := ["NoneType", "str", "tuple"].all fun n => decide (PySem.W.mroIn K C (.type n) = some false)
theorem nmB_ok {K : PySem.W.Frag} {C : Addr} {n : String} (h : nmB K C = true) (hn : n ∈ ["NoneType", "str", "tuple"]) : PySem.W.mroIn K C (.type n) = some false := of_decide_eq_true (List.all_eq_true.mp h n hn)
def cmB (K : PySem.W.Frag) (C : Addr) (m : Str) : Bool := He5.wrapB K C "classmethod" "classmethod.__get__" m && (PySem.W.fnIn K (He5.wf K C "classmethod" m) && (PySem.W.readsIn K C (.type "type") && He.eqO (PySem.W.specialIn K (.ref C) "__getattribute__") (some (some (.builtin "type.__getattribute__")))))
def keysB (K : PySem.W.Frag) (a : Addr) (ks : List Str) : Bool := match K.lookup a with
  | some ⟨_, _, .dict es _, _⟩ => decide (es.toList.map (fun e => match e.key with | .str x _ => some x | _ => none) = ks.map some)
  | _ => false
end Tm

/-! Part 0c: the law's own run where nothing is under way. -/
namespace Tm
open PySem PySem.Spec PyProof.Rows L2
section
variable {CX : CXT} {P : Program} {w : World} {K : PySem.W.Frag} {mg : Str → Option Value} {base : Heap} {k : Nat} {f : Addr} {x qual : Str} {params : Arguments} {body : List Stmt} {scope : Scope} {dvs : List V} {kws : List (Str × V)} {fd : FuncData} {N ps : List Str}
/-- a def's call from one place, by its body there -/
theorem run_here (F : FunD K x qual params body scope dvs kws f fd) (Sc : FnScope N ps scope) {A : Around} {out : List Env} {s0 : Shared} {H : Hp} {as : Args} {us : List Value} {vs : List V} {Q : VK} {E : XK} (hr : Room (k + 1) A) (en : Env0 P w K mg base A out s0 H) (hb : BindsTo s0 fd as (ps.zip us)) (rv : Vals vs us) (ln : vs.length = ps.length)
    (bd : ∀ cdv : Value, ∃ t, PSs (cxOf CX P w K mg base N qual scope f cdv A out s0 H E) body t ∧ t { nx := fun _ H' => Q .non H', rt := Q } (start N vs) H) : codeAny (model P w) A (.call (.ref f) as) (CR CX out P w H s0 Q E) s0 := by
  obtain ⟨oc, od, dV, kV, doc, pm, an, cdv, ct, osl, rfl, lk, hcd, _, _⟩ := F.ex
  have inK : K.In s0.heap := en.mod.kin.keeps fun z o e => (en.bs z o e).1
  have noL : s0.heap.NoLimit := en.mod.nolimit.keeps fun z o e => (en.bs z o e).1
  have kinds : ∀ y ∈ ps.zip us, scope.names.lookup y.1 = some .local ∨ (scope.names.lookup y.1 = some .cell ∧ ((cellsFrom (s0.heap.objs.size + 1) scope.names []).lookup y.1).isSome = true) := fun ⟨n, v⟩ hy => by
    rcases Sc.par n (List.of_mem_zip hy).1 with z | z
    · exact .inl z
    · exact .inr ⟨z, PySem.W.cellsFrom_some _ _ _ (.inl z)⟩
  refine codeAny_call_function hr.depth (inK _ _ lk) rfl Sc.co Sc.gen rfl (PySem.W.codeRec_of inK hcd) (hb _ _ _ _ ?_)
  refine wpAny_newFunctionEnv_cells Sc.kind kinds fun ev he s1 xx => ?_
  subst he
  refine ⟨noL.keeps xx.toInCall.keep, codeAny_func ?_⟩
  obtain ⟨t, ht, hq⟩ := bd cdv
  have I := inv_start (E := E) (CX := CX) Sc hr.hd en ln rv xx
  have done : ∀ {σ' : L2.St} {H' : Hp} {v : V} {u : Value} {s' : Shared}, Inv (cxOf CX P w K mg base N qual scope f cdv A out s0 H E) [] σ' H' s' → RelV v u → Q v H' → CE out P w H s0 Q u s' :=
    fun {σ' H' v u s'} J r1 q => ⟨v, H', J.os, J.bare, J.base, J.hok, r1, q⟩
  refine wpAny_mono (ht.run [] s1 (start N vs) H _ I hq) (fun fl s' hs => ?_) fun e s' hs => hs
  match fl, hs with
  | .ret u, ⟨v, σ', H', J, r1, q⟩ => exact done J r1 q
  | .next, ⟨σ', H', J, q⟩ => exact done (v := V.non) (u := Value.none) J rfl q
  | .brk, ⟨_, _, _, q⟩ => exact q.elim
  | .cont, ⟨_, _, _, q⟩ => exact q.elim
end
/-- what a law's call needs, where the claim calls it -/
def LawRuns (P : Program) (w : World) (K : PySem.W.Frag) (mg : Str → Option Value) (fa : Addr) : Prop :=
  ∀ (base : Heap) (s : Shared) (H : Hp) (a : Addr) (ns : List Int), ns.length ≤ 63 → SqL K H a (ns.map V.int) → Env0 P w K mg base callerA [] s H →
    codeAny (model P w) callerA (.call (.ref fa) ⟨[.ref a], []⟩) (CR CX0 [] P w H s (fun v _ => v = .bl true) fun _ _ _ => False) s
theorem call_here {P : Program} {w : World} {K : PySem.W.Frag} {mg mb : Str → Option Value} {fa a : Addr} {s1 : Shared} {vs : List Value} {ns : List Int} (inK : K.In s1.heap) (nsM : s1.heap.Ns mainGlobals mg) (nsB : s1.heap.Ns builtinsNs mb) (bB : ∀ y : Str, y ≠ "__name__" → mb y = bootBuiltins y) (noL : s1.heap.NoLimit) (noG : s1.gens = #[])
    (at1 : s1.heap.get? a = some { cls := .type "list", data := .seq vs.toArray }) (ia : IntsAre vs ns) (ln : ns.length ≤ 63) (F : LawRuns P w K mg fa) :
    codeAny (model P w) callerA (.call (.ref fa) ⟨[.ref a], []⟩) (fun r s2 => r = .ok (.ret (.bool true)) ∧ OldK s1.heap s2.heap ∧ s2.os = s1.os ∧ AllBare s2.gens) s1 := by
  have vi := vals_ints ia
  have ll := ia.length
  have ls : ns.length ≤ sizeLine := Nat.le_trans ln (by decide)
  -- from an abstract heap that tracks the script or nothing
  have mid : ∀ H : Hp, Only H → SqL K H a (ns.map V.int) → HOk P w H s1.heap → (∀ z, H z ≠ none → z = a) → (H a ≠ none → K.lookup a = none) →
      codeAny (model P w) callerA (.call (.ref fa) ⟨[.ref a], []⟩) (fun r s2 => r = .ok (.ret (.bool true)) ∧ OldK s1.heap s2.heap ∧ s2.os = s1.os ∧ AllBare s2.gens) s1 := by
    intro H only sq hk1 onlyA notK
    have under : ∀ {z : Addr} {o : Obj}, s1.heap.get? z = some o → H z = none → (hidT s1.heap H).get? z = some o := fun e n => hidT_get e n
    have noDict : ∀ {z : Addr} {o : Obj} {es : Array DictEntry} {ep : Nat}, s1.heap.get? z = some o → o.data = .dict es ep → H z = none := fun {z o es ep} e d => by
      cases q : H z with
      | none => rfl
      | some u =>
        have ez : z = a := onlyA z (by rw [q]; simp)
        subst ez
        rw [at1] at e
        cases e
        have d2 : Data.seq vs.toArray _ = Data.dict es ep := d
        cases d2
    have nsU : ∀ {z : Addr} {m : Str → Option Value}, s1.heap.Ns z m → (hidT s1.heap H).Ns z m := fun {z m} ⟨o, es, ep, e, d, r⟩ => ⟨o, es, ep, under e (noDict e d), d, r⟩
    have inU : K.In (hidT s1.heap H) := fun z o e => under (inK z o e) (by
      cases q : H z with
      | none => rfl
      | some u =>
        have ez : z = a := onlyA z (by rw [q]; simp)
        subst ez
        rw [notK (by rw [q]; simp)] at e
        cases e)
    have md : Mod K mg (hidT s1.heap H) := ⟨inU, nsU nsM, ⟨mb, nsU nsB, bB⟩, let ⟨mc, g1, g2⟩ := noL; ⟨mc, nsU g1, g2⟩⟩
    have en : Env0 P w K mg (hidT s1.heap H) callerA [] s1 H := ⟨rfl, md, fun z o e => of_hidT e, Nat.le_of_eq (hidT_size _ _), trivial, fun z hz => absurd (show z ∈ ([] : List Addr) from hz) (by simp), hk1, .of_eq noG⟩
    refine codeAny_mono (F _ s1 H a ns ln sq en) fun r s2 hh => ?_
    match r, hh with
    | .error e, hh => exact hh.elim
    | .ok .next, hh => exact hh.elim
    | .ok .brk, hh => exact hh.elim
    | .ok .cont, hh => exact hh.elim
    | .ok (.ret u), ⟨v, H2, os2, bare2, un2, hk2, r2, q2⟩ =>
      have q3 : v = .bl true := q2
      subst q3
      obtain rfl : u = Value.bool true := r2
      refine ⟨rfl, OldK.of_keep fun z o e => ?_, os2, bare2⟩
      cases q : H z with
      | none => exact un2.keep z o e q (by intro y; exact absurd (show z ∈ ([] : List Addr) from y) (by simp)) (by simp)
      | some u =>
        rcases only z with y | ⟨oz, xs, y⟩
        · rw [q] at y
          cases y
        · have y2 := un2.frzs z oz _ y
          obtain ⟨e1, _⟩ := hk1 z _ y
          obtain ⟨e2, _⟩ := hk2 z _ y2
          rw [e] at e1
          cases e1
          exact e2
  cases hka : K.lookup a with
  | some o =>
    have e := inK a o hka
    rw [at1] at e
    cases e
    exact mid (fun _ => none) (fun _ => .inl rfl) (.inr ⟨_, vs.toArray, _, hka, rfl, rfl, rfl, by rw [List.size_toArray, ll]; exact ls, by simpa using vi⟩) (fun z u y => by
      have y2 : (none : Option HO) = some u := y
      cases y2) (fun z y => absurd rfl y) fun y => absurd rfl y
  | none =>
    refine mid (fun z => if z = a then some (.frz { cls := .type "list", data := .seq vs.toArray } (.lst (ns.map V.int))) else none) (fun z => ?_) (.inl (.inr ⟨{ cls := .type "list", data := .seq vs.toArray }, if_pos rfl⟩)) (fun z u y => ?_) (fun z y => ?_) fun _ => hka
    · by_cases hz : z = a
      · exact .inr ⟨_, _, if_pos hz⟩
      · exact .inl (if_neg hz)
    · by_cases hz : z = a
      · have y2 := (if_pos hz).symm.trans y
        cases y2
        subst hz
        exact ⟨at1, by rw [List.length_map]; exact ls, vs, _, vi, at1⟩
      · have y2 := (if_neg hz).symm.trans y
        cases y2
    · by_cases hz : z = a
      · exact hz
      · exact absurd (if_neg hz) y
/-- the law's end by this -/
theorem walk_here {l : PySem.W.OpenLaw} {q : Program} {loose : List Str} {XP : (Str → Option Value) → Heap → Prop} {YP : World → Heap → Prop} {d : DefRec} (hn : l.most = some 63) (hdf : d.params.defaults = [])
    (F : ∀ (w : World) (mg : Str → Option Value) (fa : Addr) (h : Heap), YP w h → h.Ns mainGlobals mg → mg d.name = some (.ref fa) → ∃ K : PySem.W.Frag, K.In h ∧ LawRuns l.prog w K mg fa) :
    PySem.W.WalkO q loose XP YP l.row.toRowW d [] (fun f vs => PySem.call f vs) := by
  refine Att.attach_call hn hdf fun w s₀ s₁ mg mb fa o pm cd doc a vs ns G Y ho hd hcd hmg at1 ia ln noG => ?_
  obtain ⟨K, inK, hF⟩ := F w mg fa _ Y G.T.g hmg
  exact call_here inK G.T.g G.T.b G.T.builtins G.T.nolimit noG at1 ia ln hF
end Tm

namespace Tm
open PySem PySem.Spec PyProof.Rows L2
def top (i : Nat) : Stmt := PySem.Challenge.pw_termstill_k12_kinds_and_rules_by_names.main.body.getD i (.Pass ⟨0, 0, 0, 0⟩)
abbrev s_is_integer : Stmt := top 13
abbrev s_is_length : Stmt := top 14
abbrev s_is_name : Stmt := top 15
abbrev s_is_sequence : Stmt := top 16
abbrev s_number_in : Stmt := top 17
abbrev s_Kind_read : Stmt := inClass (top 19) 0
abbrev s_Kind___eq__ : Stmt := inClass (top 19) 1
abbrev s_need : Stmt := top 20
abbrev s_is_many : Stmt := top 21
abbrev s_many_text : Stmt := top 22
abbrev s_Still___init__ : Stmt := inClass (top 23) 0
abbrev s_Still___str__ : Stmt := inClass (top 23) 1
abbrev s_Anew___init__ : Stmt := inClass (top 24) 0
abbrev s_Anew___str__ : Stmt := inClass (top 24) 1
abbrev s_Lift___init__ : Stmt := inClass (top 25) 0
abbrev s_Lift___str__ : Stmt := inClass (top 25) 1
abbrev s_told_by : Stmt := top 27
abbrev s_made_of : Stmt := top 28
abbrev s_are_rests : Stmt := top 32
abbrev s_are_kinds : Stmt := top 33
abbrev s_head_in : Stmt := top 34
abbrev s_Rule___init__ : Stmt := inClass (top 35) 0
abbrev s_Rule_read : Stmt := inClass (top 35) 1
abbrev s_Rule_kind : Stmt := inClass (top 35) 2
abbrev s_Rule_only : Stmt := inClass (top 35) 4
abbrev s_Rule___eq__ : Stmt := inClass (top 35) 8
abbrev s_Rule___str__ : Stmt := inClass (top 35) 9
abbrev s__law_number : Stmt := top 37
abbrev s_law : Stmt := top 38
def d_is_integer : He5.DefA := ⟨fun K => He.ga K "is_integer", "is_integer", "is_integer", defArgs s_is_integer, defBody s_is_integer, defScope s_is_integer, [], []⟩
def d_is_length : He5.DefA := ⟨fun K => He.ga K "is_length", "is_length", "is_length", defArgs s_is_length, defBody s_is_length, defScope s_is_length, [], []⟩
def d_is_name : He5.DefA := ⟨fun K => He.ga K "is_name", "is_name", "is_name", defArgs s_is_name, defBody s_is_name, defScope s_is_name, [], []⟩
def d_is_sequence : He5.DefA := ⟨fun K => He.ga K "is_sequence", "is_sequence", "is_sequence", defArgs s_is_sequence, defBody s_is_sequence, defScope s_is_sequence, [], []⟩
def d_number_in : He5.DefA := ⟨fun K => He.ga K "number_in", "number_in", "number_in", defArgs s_number_in, defBody s_number_in, defScope s_number_in, [], []⟩
def d_Kind_read : He5.DefA := ⟨fun K => He5.wf K (He.ga K "Kind") "classmethod" "read", "read", "Kind.read", defArgs s_Kind_read, defBody s_Kind_read, defScope s_Kind_read, [], []⟩
def d_Kind___eq__ : He5.DefA := ⟨fun K => He.ma K (He.ga K "Kind") "__eq__", "__eq__", "Kind.__eq__", defArgs s_Kind___eq__, defBody s_Kind___eq__, defScope s_Kind___eq__, [], []⟩
def d_need : He5.DefA := ⟨fun K => He.ga K "need", "need", "need", defArgs s_need, defBody s_need, defScope s_need, [], []⟩
def d_is_many : He5.DefA := ⟨fun K => He.ga K "is_many", "is_many", "is_many", defArgs s_is_many, defBody s_is_many, defScope s_is_many, [], []⟩
def d_many_text : He5.DefA := ⟨fun K => He.ga K "many_text", "many_text", "many_text", defArgs s_many_text, defBody s_many_text, defScope s_many_text, [], []⟩
def d_Still___init__ : He5.DefA := ⟨fun K => He.ma K (He.ga K "Still") "__init__", "__init__", "Still.__init__", defArgs s_Still___init__, defBody s_Still___init__, defScope s_Still___init__, [.non], []⟩
def d_Still___str__ : He5.DefA := ⟨fun K => He.ma K (He.ga K "Still") "__str__", "__str__", "Still.__str__", defArgs s_Still___str__, defBody s_Still___str__, defScope s_Still___str__, [], []⟩
def d_Anew___init__ : He5.DefA := ⟨fun K => He.ma K (He.ga K "Anew") "__init__", "__init__", "Anew.__init__", defArgs s_Anew___init__, defBody s_Anew___init__, defScope s_Anew___init__, [.non], []⟩
def d_Anew___str__ : He5.DefA := ⟨fun K => He.ma K (He.ga K "Anew") "__str__", "__str__", "Anew.__str__", defArgs s_Anew___str__, defBody s_Anew___str__, defScope s_Anew___str__, [], []⟩
def d_Lift___init__ : He5.DefA := ⟨fun K => He.ma K (He.ga K "Lift") "__init__", "__init__", "Lift.__init__", defArgs s_Lift___init__, defBody s_Lift___init__, defScope s_Lift___init__, [.non], []⟩
def d_Lift___str__ : He5.DefA := ⟨fun K => He.ma K (He.ga K "Lift") "__str__", "__str__", "Lift.__str__", defArgs s_Lift___str__, defBody s_Lift___str__, defScope s_Lift___str__, [], []⟩
def d_told_by : He5.DefA := ⟨fun K => He.ga K "told_by", "told_by", "told_by", defArgs s_told_by, defBody s_told_by, defScope s_told_by, [], []⟩
def d_made_of : He5.DefA := ⟨fun K => He.ga K "made_of", "made_of", "made_of", defArgs s_made_of, defBody s_made_of, defScope s_made_of, [], []⟩
def d_are_rests : He5.DefA := ⟨fun K => He.ga K "are_rests", "are_rests", "are_rests", defArgs s_are_rests, defBody s_are_rests, defScope s_are_rests, [], []⟩
def d_are_kinds : He5.DefA := ⟨fun K => He.ga K "are_kinds", "are_kinds", "are_kinds", defArgs s_are_kinds, defBody s_are_kinds, defScope s_are_kinds, [], []⟩
def d_head_in : He5.DefA := ⟨fun K => He.ga K "head_in", "head_in", "head_in", defArgs s_head_in, defBody s_head_in, defScope s_head_in, [], []⟩
def d_Rule___init__ : He5.DefA := ⟨fun K => He.ma K (He.ga K "Rule") "__init__", "__init__", "Rule.__init__", defArgs s_Rule___init__, defBody s_Rule___init__, defScope s_Rule___init__, [.adr (emptyDfl (fun K => He.ma K (He.ga K "Rule") "__init__") 0), .non, .adr (emptyDfl (fun K => He.ma K (He.ga K "Rule") "__init__") 2)], []⟩
def d_Rule_read : He5.DefA := ⟨fun K => He5.wf K (He.ga K "Rule") "classmethod" "read", "read", "Rule.read", defArgs s_Rule_read, defBody s_Rule_read, defScope s_Rule_read, [], []⟩
def d_Rule_kind : He5.DefA := ⟨fun K => He.ma K (He.ga K "Rule") "kind", "kind", "Rule.kind", defArgs s_Rule_kind, defBody s_Rule_kind, defScope s_Rule_kind, [], []⟩
def d_Rule_only : He5.DefA := ⟨fun K => He.ma K (He.ga K "Rule") "only", "only", "Rule.only", defArgs s_Rule_only, defBody s_Rule_only, defScope s_Rule_only, [], []⟩
def d_Rule___eq__ : He5.DefA := ⟨fun K => He.ma K (He.ga K "Rule") "__eq__", "__eq__", "Rule.__eq__", defArgs s_Rule___eq__, defBody s_Rule___eq__, defScope s_Rule___eq__, [], []⟩
def d_Rule___str__ : He5.DefA := ⟨fun K => He.ma K (He.ga K "Rule") "__str__", "__str__", "Rule.__str__", defArgs s_Rule___str__, defBody s_Rule___str__, defScope s_Rule___str__, [], []⟩
def d__law_number : He5.DefA := ⟨fun K => He.ga K "_law_number", "_law_number", "_law_number", defArgs s__law_number, defBody s__law_number, defScope s__law_number, [], []⟩
def d_law : He5.DefA := ⟨fun K => He.ga K "law", "law", "law", defArgs s_law, defBody s_law, defScope s_law, [], []⟩
def fn : List He5.DefA := [d_is_integer, d_is_length, d_is_name, d_is_sequence, d_number_in, d_Kind_read, d_Kind___eq__, d_need, d_is_many, d_many_text, d_Still___init__, d_Still___str__, d_Anew___init__, d_Anew___str__, d_Lift___init__, d_Lift___str__, d_told_by, d_made_of, d_are_rests, d_are_kinds, d_head_in, d_Rule___init__, d_Rule_read, d_Rule_kind, d_Rule_only, d_Rule___eq__, d_Rule___str__, d__law_number, d_law]
def fa : List He.Fa := ([.glo "law", .free "isinstance", .free "int", .free "bool", .glo "is_integer", .free "all", .glo "BARRED", .free "str", .int "MOST_LETTERS" 4, .str "LETTERS" "abcdefghijklmnopqrstuvwxyz", .free "len", .free "list", .free "tuple", .int "MOST_SIGNS" 19, .str "SIGNS" "0123456789", .free "classmethod", .glo "told_by", .glo "InvalidKind", .glo "InvalidText", .glo "made_of"] : List He.Fa) ++ ([.glo "Kind", .glo "is_length", .glo "need", .glo "is_name", .glo "is_many", .glo "many_text", .glo "FORMS", .glo "number_in", .glo "Lift", .glo "Still", .glo "Anew", .int "MOST_RESTS" 6, .glo "is_sequence", .free "set", .int "WEEK" 7, .glo "InvalidRule", .glo "are_rests", .glo "are_kinds", .free "sorted", .glo "head_in"] : List He.Fa) ++ ([.free "enumerate", .glo "NoKind", .glo "Rule", .free "abs", .free "range", .glo "_law_number", .cls "Kind", .meth "Kind" "__eq__", .cls "Still", .mkr "Still", .noat "Still" "name", .noat "Still" "days", .noat "Still" "times", .meth "Still" "__init__", .meth "Still" "__str__", .cls "Anew", .mkr "Anew", .noat "Anew" "name", .noat "Anew" "left", .noat "Anew" "times"] : List He.Fa) ++ ([.meth "Anew" "__init__", .meth "Anew" "__str__", .cls "Lift", .mkr "Lift", .noat "Lift" "name", .noat "Lift" "by", .noat "Lift" "top", .noat "Lift" "times", .meth "Lift" "__init__", .meth "Lift" "__str__", .cls "Rule", .mkr "Rule", .noat "Rule" "length", .noat "Rule" "rests", .noat "Rule" "cap", .noat "Rule" "kinds", .noat "Rule" "names", .meth "Rule" "__init__", .meth "Rule" "kind", .meth "Rule" "only"] : List He.Fa) ++ ([.meth "Rule" "__eq__", .meth "Rule" "__str__"] : List He.Fa)
def exs : List (PySem.W.Frag → Bool) := [fun K => tupAtB K (emptyDfl (fun K => He.ma K (He.ga K "Rule") "__init__") 0 K) [], fun K => tupAtB K (emptyDfl (fun K => He.ma K (He.ga K "Rule") "__init__") 2 K) [], fun K => tupAtB K (He.ga K "BARRED") [.str "any", .str "none", .str "anew", .str "lift", .str "term"], fun K => ownB K (He.ga K "Kind"), fun K => ownB K (He.ga K "Still"), fun K => ownB K (He.ga K "Anew"), fun K => ownB K (He.ga K "Lift"), fun K => ownB K (He.ga K "Rule"), fun K => bltB K (He.ga K "Kind"), fun K => subB K (He.ga K "Kind") (He.ga K "Kind") true, fun K => subB K (He.ga K "Still") (He.ga K "Kind") true, fun K => subB K (He.ga K "Anew") (He.ga K "Kind") true, fun K => subB K (He.ga K "Lift") (He.ga K "Kind") true, fun K => subB K (He.ga K "Rule") (He.ga K "Kind") false, fun K => bltB K (He.ga K "Rule"), fun K => subB K (He.ga K "Kind") (He.ga K "Rule") false, fun K => subB K (He.ga K "Still") (He.ga K "Rule") false, fun K => subB K (He.ga K "Anew") (He.ga K "Rule") false, fun K => subB K (He.ga K "Lift") (He.ga K "Rule") false, fun K => subB K (He.ga K "Rule") (He.ga K "Rule") true, fun K => He.valsB K (He.ga K "FORMS") [("still", .int 4), ("anew", .int 4), ("lift", .int 5)], fun K => spmB K (He.ga K "Kind") "__eq__" (He.ma K (He.ga K "Kind") "__eq__"), fun K => neB K (He.ga K "Kind"), fun K => nfB K (He.ga K "Kind"), fun K => PySem.W.notFirst K (He.ga K "Kind") (.ref (He.ga K "Kind")), fun K => PySem.W.notFirst K (He.ga K "Kind") (.ref (He.ga K "Rule")), fun K => spmB K (He.ga K "Still") "__eq__" (He.ma K (He.ga K "Kind") "__eq__"), fun K => neB K (He.ga K "Still"), fun K => nfB K (He.ga K "Still"), fun K => PySem.W.notFirst K (He.ga K "Still") (.ref (He.ga K "Kind")), fun K => PySem.W.notFirst K (He.ga K "Still") (.ref (He.ga K "Still")), fun K => PySem.W.notFirst K (He.ga K "Still") (.ref (He.ga K "Anew")), fun K => PySem.W.notFirst K (He.ga K "Still") (.ref (He.ga K "Lift")), fun K => PySem.W.notFirst K (He.ga K "Still") (.ref (He.ga K "Rule")), fun K => spmB K (He.ga K "Anew") "__eq__" (He.ma K (He.ga K "Kind") "__eq__"), fun K => neB K (He.ga K "Anew"), fun K => nfB K (He.ga K "Anew"), fun K => PySem.W.notFirst K (He.ga K "Anew") (.ref (He.ga K "Kind")), fun K => PySem.W.notFirst K (He.ga K "Anew") (.ref (He.ga K "Still")), fun K => PySem.W.notFirst K (He.ga K "Anew") (.ref (He.ga K "Anew")), fun K => PySem.W.notFirst K (He.ga K "Anew") (.ref (He.ga K "Lift")), fun K => PySem.W.notFirst K (He.ga K "Anew") (.ref (He.ga K "Rule")), fun K => spmB K (He.ga K "Lift") "__eq__" (He.ma K (He.ga K "Kind") "__eq__"), fun K => neB K (He.ga K "Lift"), fun K => nfB K (He.ga K "Lift"), fun K => PySem.W.notFirst K (He.ga K "Lift") (.ref (He.ga K "Kind")), fun K => PySem.W.notFirst K (He.ga K "Lift") (.ref (He.ga K "Still")), fun K => PySem.W.notFirst K (He.ga K "Lift") (.ref (He.ga K "Anew")), fun K => PySem.W.notFirst K (He.ga K "Lift") (.ref (He.ga K "Lift")), fun K => PySem.W.notFirst K (He.ga K "Lift") (.ref (He.ga K "Rule")), fun K => spmB K (He.ga K "Rule") "__eq__" (He.ma K (He.ga K "Rule") "__eq__"), fun K => neB K (He.ga K "Rule"), fun K => nfB K (He.ga K "Rule"), fun K => PySem.W.notFirst K (He.ga K "Rule") (.ref (He.ga K "Kind")), fun K => PySem.W.notFirst K (He.ga K "Rule") (.ref (He.ga K "Still")), fun K => PySem.W.notFirst K (He.ga K "Rule") (.ref (He.ga K "Anew")), fun K => PySem.W.notFirst K (He.ga K "Rule") (.ref (He.ga K "Lift")), fun K => PySem.W.notFirst K (He.ga K "Rule") (.ref (He.ga K "Rule")), fun K => cmB K (He.ga K "Kind") "read", fun K => cmB K (He.ga K "Rule") "read", fun K => keysB K (He.ga K "FORMS") ["still", "anew", "lift"]]
def ex (K : PySem.W.Frag) : Bool := exs.all fun t => t K
def tabs : List He.Tab := [(fun K => He.ga K "FORMS", ["still", "anew", "lift"])]
end Tm

/-! Part 0c: the head's fragment found level by level, each object once (a Nat as the set of those seen), its addresses written out: the head's run needs a third of the memory. -/
namespace Tm
open PySem PySem.Spec PyProof.Rows L2
/-- of these the new ones, in their order -/
def newA : List Addr → Nat → List Addr → Nat × List Addr
  | [], m, acc => (m, acc.reverse)
  | a :: r, m, acc => HandSHeadRun.frNat a fun a => match Nat.beq (Nat.land (Nat.shiftRight m a) 1) 1 with
    | true => newA r m acc
    | false => HandSHeadRun.frNat (Nat.lor m (Nat.shiftLeft 1 a)) fun m => newA r m (a :: acc)
def levA (g : Addr → Option Obj) : Nat → List Addr → Nat → List Addr
  | 0, fr, _ => fr
  | n + 1, fr, m => match newA (fr.flatMap fun a => match g a with
      | some o => He.refsD o
      | none => []) m [] with
    | (m, new) => fr ++ levA g n new m
/-- what the module's names reach in n steps, and the statics -/
def asW (g : Addr → Option Obj) (n : Nat) : List Addr := levA g n [mainGlobals] (Nat.shiftLeft 1 mainGlobals) ++ [cStatics]
def frK {α : Type} : PySem.W.Frag → (PySem.W.Frag → α) → α
  | [], k => k []
  | (a, o) :: r, k => HandSHeadRun.frNat a fun a => frK r fun r => k ((a, o) :: r)
theorem frK_eq {α : Type} : ∀ (K : PySem.W.Frag) (k : PySem.W.Frag → α), frK K k = k K
  | [], k => rfl
  | (a, o) :: r, k => by
    show (HandSHeadRun.frNat a fun a => frK r fun r => k ((a, o) :: r)) = _
    rw [HandSHeadRun.frNat_eq, frK_eq]
def hookW (n : Nat) (fa : List He.Fa) (ex : PySem.W.Frag → Bool) (fn : List He5.DefA) (ts : List He.Tab) : PySem.W.Hook where
  α := Al
  obs := fun s => obsM fa ex fn ts (He.frG s.heap.get? (asW s.heap.get? n))
  val := fun w => valM fn ts w
  says := fun w h => ∃ K : PySem.W.Frag, K.In h ∧ SaysM fa ex fn ts w K
  of := fun _ _ e => ⟨_, He.frG_in, e⟩
  keeps := fun _ _ _ ⟨K, hK, c⟩ k => ⟨K, hK.keeps k, c⟩
def obW (n : Nat) (fa : List He.Fa) (ex : PySem.W.Frag → Bool) (fn : List He5.DefA) (ts : List He.Tab) (s : PySem.W.SharedT) : Al :=
  frK (He.frG (HandSHeadRun.getT s) (asW (HandSHeadRun.getT s) n)) (obsM fa ex fn ts)
theorem obW_eq {n : Nat} {fa : List He.Fa} {ex : PySem.W.Frag → Bool} {fn : List He5.DefA} {ts : List He.Tab} (s : PySem.W.SharedT) :
    obW n fa ex fn ts s = (hookW n fa ex fn ts).obs s.abs := by
  have e : HandSHeadRun.getT s = s.abs.heap.get? := funext (HandSHeadRun.getT_eq s)
  unfold obW
  rw [frK_eq, e]
  rfl
end Tm
namespace Tm
open PySem PySem.W PySem.Calls PyProof.Rows
abbrev R : PySem.W.OpenRow := PySem.W.OpenLaw.row PySem.Challenge.rw_termstill_k12_kinds_and_rules_by_names
def nms : List Str := (["_wall", "__name__", "TermError", "InvalidKind", "InvalidRule", "InvalidText", "NoKind", "BARRED", "LETTERS", "SIGNS", "MOST_LETTERS", "MOST_SIGNS", "is_integer", "is_length", "is_name", "is_sequence", "number_in", "Kind", "need", "is_many"] : List Str) ++ (["many_text", "Still", "Anew", "Lift", "FORMS", "told_by", "made_of", "WEEK", "MOST_RESTS", "are_rests", "are_kinds", "head_in", "Rule", "_law_number"] : List Str)
theorem run_false (w : World) : HandSHeadRun.RunEq R (PySem.W.view R.prog [38]) (hookW 7 fa ex fn tabs) (obW 7 fa ex fn tabs) 6000 nms (w.withFollow "special-get-raises" false) := by
  intro os
  kernel_rfl
theorem run_true (w : World) : HandSHeadRun.RunEq R (PySem.W.view R.prog [38]) (hookW 7 fa ex fn tabs) (obW 7 fa ex fn tabs) 6000 nms (w.withFollow "special-get-raises" true) := by
  intro os
  kernel_rfl
theorem run (w : World) : HandSHeadRun.RunEq R (PySem.W.view R.prog [38]) (hookW 7 fa ex fn tabs) (obW 7 fa ex fn tabs) 6000 nms w :=
  PySem.W.byRow2 "special-get-raises" (P := fun w => HandSHeadRun.RunEq R (PySem.W.view R.prog [38]) (hookW 7 fa ex fn tabs) (obW 7 fa ex fn tabs) 6000 nms w) run_false run_true w
set_option maxRecDepth 100000 in
set_option maxHeartbeats 0 in
/-- the head: what is left is what the law's def keeps -/
theorem holds_if (F : ∀ (w : World) (mg : PySem.Str → Option Value) (fa : Addr) (h : Heap), (Hook.says (Tm.hookW 7 Tm.fa Tm.ex Tm.fn Tm.tabs)) w h → h.Ns mainGlobals mg → mg ("law" : PySem.Str) = some (.ref fa) → ∃ (K : PySem.W.Frag) (fd : FuncData) (sp : L2.Sp), K.In h ∧ (∀ (s : Shared) (u : Value), BindsTo s fd ⟨[u], []⟩ [(("_law_script" : PySem.Str), u)]) ∧ (∀ (H : L2.Hp) (a : Addr) (ns : List Int), ns.length ≤ 63 → L2.Only H → L2.SqL K H a (ns.map L2.V.int) → sp [.ref a] H (fun v _ => v = .bl true) fun _ _ _ => False) ∧ ∀ base : Heap, K.In base → base.Ns mainGlobals mg → L2.FnOk (PySem.Challenge.rw_termstill_k12_kinds_and_rules_by_names).prog w K mg base L2.CX0 30 fa fd [("_law_script" : PySem.Str)] sp) : PySem.Challenge.rw_termstill_k12_kinds_and_rules_by_names.Holds := by
  w_on; o_law
  refine HandSHeadRun.head_any (r := Tm.R) (q := view Tm.R.prog [38]) (H := Tm.hookW 7 Tm.fa Tm.ex Tm.fn Tm.tabs) (ob := Tm.obW 7 Tm.fa Tm.ex Tm.fn Tm.tabs) (M := 6000) (loose := Tm.nms) (d := HandSHeadRun.topDef Tm.R.prog 38) (kwd := []) Tm.obW_eq
    (by kernel_rfl) (fun s => by kernel_rfl) Tm.run (by kernel_rfl) (by kernel_rfl) (by kernel_rfl) (by rfl) (by first | assumption | decide +kernel) (by decide +kernel) ⟨rfl, rfl, rfl, rfl, rfl, by decide +kernel⟩ ?hw ?hc
  case hw => w_witness2
  case hc =>
    refine L2.walk_ofE (l := PySem.Challenge.rw_termstill_k12_kinds_and_rules_by_names) (n := 63) (k := 30) (x := "_law_script") (CX := L2.CX0) rfl (by decide) (by kernel_rfl) ⟨rfl, by decide, by decide⟩ ?F (fun _ _ _ _ z => z)
    intro w mg fa h Y G hm0
    have e : (HandSHeadRun.topDef Tm.R.prog 38).name = ("law" : PySem.Str) := by kernel_rfl
    have hm : mg ("law" : PySem.Str) = some (.ref fa) := by
      rw [← e]
      exact hm0
    exact F w mg fa h Y G hm
end Tm

/-! Part 1: a def and how it is called, as one fact; short rules. -/
namespace Tm
open PySem PySem.Spec PyProof.Rows L2
theorem bt_len : bootBuiltins "len" = some (.builtin "len") := by decide +kernel
theorem bt_abs : bootBuiltins "abs" = some (.builtin "abs") := by decide +kernel
theorem bt_all : bootBuiltins "all" = some (.builtin "all") := by decide +kernel
theorem bt_any : bootBuiltins "any" = some (.builtin "any") := by decide +kernel
theorem bt_max : bootBuiltins "max" = some (.builtin "max") := by decide +kernel
theorem bt_min : bootBuiltins "min" = some (.builtin "min") := by decide +kernel
theorem bt_sum : bootBuiltins "sum" = some (.builtin "sum") := by decide +kernel
theorem bt_sorted : bootBuiltins "sorted" = some (.builtin "sorted") := by decide +kernel
theorem bt_repr : bootBuiltins "repr" = some (.builtin "repr") := by decide +kernel
theorem bt_isinstance : bootBuiltins "isinstance" = some (.builtin "isinstance") := by decide +kernel
theorem bt_int : bootBuiltins "int" = some (.type "int") := by decide +kernel
theorem bt_bool : bootBuiltins "bool" = some (.type "bool") := by decide +kernel
theorem bt_str : bootBuiltins "str" = some (.type "str") := by decide +kernel
theorem bt_list : bootBuiltins "list" = some (.type "list") := by decide +kernel
theorem bt_tuple : bootBuiltins "tuple" = some (.type "tuple") := by decide +kernel
theorem bt_dict : bootBuiltins "dict" = some (.type "dict") := by decide +kernel
theorem bt_set : bootBuiltins "set" = some (.type "set") := by decide +kernel
theorem bt_range : bootBuiltins "range" = some (.type "range") := by decide +kernel
theorem bt_enumerate : bootBuiltins "enumerate" = some (.type "enumerate") := by decide +kernel
theorem bt_ValueError : bootBuiltins "ValueError" = some (.type "ValueError") := by decide +kernel
theorem bt_TypeError : bootBuiltins "TypeError" = some (.type "TypeError") := by decide +kernel
theorem bt_KeyError : bootBuiltins "KeyError" = some (.type "KeyError") := by decide +kernel
/-- the def at f keeps sp; called with the last parameters left to the defaults dvs -/
structure Dn (P : Program) (w : World) (K : PySem.W.Frag) (mg : Str → Option Value) (base : Heap) (CX : CXT) (k : Nat) (f : Addr) (dvs : List V) (sp : Sp) : Prop where
  ex : ∃ (fd : FuncData) (ps : List Str) (ds : List Value), FnOk P w K mg base CX k f fd ps sp ∧ PySem.W.keepIn K (.ref f) = true ∧ Vals dvs ds ∧ Binds K fd ps ds
section
variable {P : Program} {w : World} {K : PySem.W.Frag} {mg : Str → Option Value} {base : Heap} {CX : CXT} {k : Nat} {f : Addr} {sp : Sp} {dvs : List V}
theorem Dn.imp {sp' : Sp} (D : Dn P w K mg base CX k f dvs sp) (h : ∀ vs H Q E, sp' vs H Q E → sp vs H Q E) : Dn P w K mg base CX k f dvs sp' := by
  obtain ⟨fd, ps, ds, F, a, b, c⟩ := D.ex
  exact ⟨fd, ps, ds, F.imp h, a, b, c⟩
theorem Dn.mono {j : Nat} (D : Dn P w K mg base CX j f dvs sp) (h : j ≤ k) : Dn P w K mg base CX k f dvs sp := by
  obtain ⟨fd, ps, ds, F, a, b, c⟩ := D.ex
  exact ⟨fd, ps, ds, F.mono h, a, b, c⟩
/-- a def without defaults -/
theorem dn_of {x qual : Str} {params : Arguments} {body : List Stmt} {scope : Scope} {ps : List Str} (F : ∃ fd, FunD K x qual params body scope [] [] f fd)
    (h : ∀ fd, FunD K x qual params body scope [] [] f fd → FnOk P w K mg base CX k f fd ps sp)
    (hb : ∀ (kV doc pm : Value) (an : Option Addr) (cdv ct : Value) (us : List Value), us.length = ps.length → bindArgs (PySem.W.fnOf x qual params body scope .none kV doc pm an cdv ct) ⟨us, []⟩ = pure (ps.zip us)) :
    Dn P w K mg base CX k f [] sp := by
  obtain ⟨fd, F⟩ := F
  exact ⟨fd, ps, [], h fd F, F.kp, .nil, F.bindsN hb⟩
/-- a def with defaults: n arguments are written, the defaults behind the first j fill up -/
theorem dn_dfl {x qual : Str} {params : Arguments} {body : List Stmt} {scope : Scope} {ps : List Str} {all : List V} (n j : Nat) (F : ∃ fd, FunD K x qual params body scope all [] f fd) (hd : all ≠ []) (hn : n + (all.length - j) = ps.length)
    (h : ∀ fd, FunD K x qual params body scope all [] f fd → FnOk P w K mg base CX k f fd ps sp)
    (hb : ∀ (T : Addr) (kV doc pm : Value) (an : Option Addr) (cdv ct : Value) (us its : List Value), us.length = n → its.length = all.length →
      ∃ g, bindArgs (PySem.W.fnOf x qual params body scope (.ref T) kV doc pm an cdv ct) ⟨us, []⟩ = seqItems? (.ref T) >>= g ∧ g (some its.toArray) = pure (ps.zip (us ++ its.drop j))) :
    Dn P w K mg base CX k f (all.drop j) sp := by
  obtain ⟨fd, F⟩ := F
  obtain ⟨ds, r, b⟩ := F.binds1 n j hd hn hb
  exact ⟨fd, ps, ds, h fd F, F.kp, r, b⟩
/-- a def with defaults, every argument written -/
theorem dn_full {x qual : Str} {params : Arguments} {body : List Stmt} {scope : Scope} {ps : List Str} {all : List V} (F : ∃ fd, FunD K x qual params body scope all [] f fd)
    (h : ∀ fd, FunD K x qual params body scope all [] f fd → FnOk P w K mg base CX k f fd ps sp)
    (hb : ∀ (dV kV doc pm : Value) (an : Option Addr) (cdv ct : Value) (us : List Value), us.length = ps.length → bindArgs (PySem.W.fnOf x qual params body scope dV kV doc pm an cdv ct) ⟨us, []⟩ = pure (ps.zip us)) :
    Dn P w K mg base CX k f [] sp := by
  obtain ⟨fd, F⟩ := F
  refine ⟨fd, ps, [], h fd F, F.kp, .nil, ?_⟩
  obtain ⟨oc, od, dV, kV, doc, pm, an, cdv, ct, osl, rfl, _⟩ := F.ex
  exact .all (hb dV kV doc pm an cdv ct)
end
section
variable {X : Cx} {CX : CXT} {k : Nat} {f C : Addr} {sp : Sp} {dvs : List V} {E : XK} {x m : Str} {p pos apos : Pos} {e o : Expr} {es : List Expr} {ta : TE} {t : TA}
theorem pe_c (D : Dn X.prog X.w X.K X.mg X.base CX k f dvs sp) (hr : Room k X.A) (hm : X.mg x = some (.ref f)) (hx : Passes CX X E) (ha : PA X (e :: es) t) (hg : Gl X x := by rfl) (hdb : (x == ("__debug__" : Str)) = false := by decide)
    (he : starEach (e :: es) X.env = (false, eval e X.env) :: starEach es X.env := by rfl) (hpl : (backTo pos (starEach es X.env)).any (·.1) = false := by rfl) : PE X (.Call (.Name x p) (e :: es) [] pos) (tCall sp dvs E t) := by
  obtain ⟨fd, ps, ds, F, kp, r, b⟩ := D.ex
  exact pe_call F hr hg hm kp b r hx ha hdb he hpl
theorem pe_c0 (D : Dn X.prog X.w X.K X.mg X.base CX k f dvs sp) (hr : Room k X.A) (hm : X.mg x = some (.ref f)) (hx : Passes CX X E) (hg : Gl X x := by rfl) (hdb : (x == ("__debug__" : Str)) = false := by decide) :
    PE X (.Call (.Name x p) [] [] pos) (tCall sp dvs E tNil) := by
  obtain ⟨fd, ps, ds, F, kp, r, b⟩ := D.ex
  exact pe_call0 F hr hg hm kp b r hx hdb
theorem pe_m {pl : Sem Bool} (he : PE X o ta) (c : Cls X.K C) (hm : Meth X.K C m f) (D : Dn X.prog X.w X.K X.mg X.base CX k f dvs sp) (hr : Room k X.A) (hx : Passes CX X E) (ha : PA X (e :: es) t)
    (hst : starEach (e :: es) X.env = (false, eval e X.env) :: starEach es X.env := by rfl) (hpl : (backTo pos (starEach es X.env)).any (·.1) = false := by rfl)
    (ht : eval (.Call (.Attribute o m apos) (e :: es) [] pos) X.env = (do
      let v ← eval o X.env
      standAt apos.atName
      let (g, first) ← holding [v] (getMethod v m pl)
      callWith pos g first (backTo pos (starEach (e :: es) X.env)) (backToKw pos (keywordEach [] X.env))) := by rfl) :
    PE X (.Call (.Attribute o m apos) (e :: es) [] pos) (tMeth C m sp dvs E ta t) := by
  obtain ⟨fd, ps, ds, F, kp, r, b⟩ := D.ex
  exact pe_meth he c hm F hr b r hx ha hst hpl ht
theorem pe_m0 {pl : Sem Bool} (he : PE X o ta) (c : Cls X.K C) (hm : Meth X.K C m f) (D : Dn X.prog X.w X.K X.mg X.base CX k f dvs sp) (hr : Room k X.A) (hx : Passes CX X E)
    (ht : eval (.Call (.Attribute o m apos) [] [] pos) X.env = (do
      let v ← eval o X.env
      standAt apos.atName
      let (g, first) ← holding [v] (getMethod v m pl)
      callWith pos g first (backTo pos (starEach [] X.env)) (backToKw pos (keywordEach [] X.env))) := by rfl) :
    PE X (.Call (.Attribute o m apos) [] [] pos) (tMeth C m sp dvs E ta tNil) := by
  obtain ⟨fd, ps, ds, F, kp, r, b⟩ := D.ex
  exact pe_meth0 he c hm F hr b r hx ht
theorem pe_mk (M : Mk X.K C f) (D : Dn X.prog X.w X.K X.mg X.base CX k f dvs sp) (hr : Room (k + 1) X.A) (hm : X.mg x = some (.ref C)) (hx : Passes CX X E) (ha : PA X (e :: es) t) (hg : Gl X x := by rfl)
    (hdb : (x == ("__debug__" : Str)) = false := by decide) (he : starEach (e :: es) X.env = (false, eval e X.env) :: starEach es X.env := by rfl) (hpl : (backTo pos (starEach es X.env)).any (·.1) = false := by rfl) :
    PE X (.Call (.Name x p) (e :: es) [] pos) (tMake C sp dvs E t) := by
  obtain ⟨fd, ps, ds, F, kp, r, b⟩ := D.ex
  exact pe_make M F hr hg hm b r hx ha hdb he hpl
theorem pe_mk0 (M : Mk X.K C f) (D : Dn X.prog X.w X.K X.mg X.base CX k f dvs sp) (hr : Room (k + 1) X.A) (hm : X.mg x = some (.ref C)) (hx : Passes CX X E) (hg : Gl X x := by rfl)
    (hdb : (x == ("__debug__" : Str)) = false := by decide) : PE X (.Call (.Name x p) [] [] pos) (tMake C sp dvs E tNil) := by
  obtain ⟨fd, ps, ds, F, kp, r, b⟩ := D.ex
  exact pe_make0 M F hr hg hm b r hx hdb
/-- module's constants and built-in types as values -/
theorem pe_gi {i : Int} (hm : ∃ u, X.mg x = some (.int i u)) (hg : Gl X x := by rfl) (hd : (x == ("__debug__" : Str)) = false := by decide) : PE X (.Name x pos) (tC (.int i)) := by
  obtain ⟨u, e⟩ := hm
  exact pe_glob hg e ⟨_, rfl⟩ hd
theorem pe_gs {z : Str} (hm : ∃ u, X.mg x = some (.str z u)) (hg : Gl X x := by rfl) (hd : (x == ("__debug__" : Str)) = false := by decide) : PE X (.Name x pos) (tC (.str z)) := by
  obtain ⟨u, e⟩ := hm
  exact pe_glob hg e ⟨_, rfl⟩ hd
theorem pe_gr {a : Addr} (hm : X.mg x = some (.ref a)) (hg : Gl X x := by rfl) (hd : (x == ("__debug__" : Str)) = false := by decide) : PE X (.Name x pos) (tC (.ref a)) := pe_glob hg hm rfl hd
theorem pe_ty {n : String} (hm : X.mg x = none) (hv : bootBuiltins x = some (.type n)) (hg : Gl X x := by rfl) (hn : x ≠ "__name__" := by decide) (hd : (x == ("__debug__" : Str)) = false := by decide) : PE X (.Name x pos) (tC (.ty n)) :=
  pe_bltn hg hm hv rfl hn hd
end
end Tm

/-! Part 2: the types of values, heaps that grow, comprehensions that make a new list. -/
namespace Tm
open PySem PySem.Spec PyProof.Rows L2
/-- what isinstance says of a type and one of five built-in ones -/
def kb (t : Value) (n : String) : Bool := decide (t = .type n) || (decide (t = .type "bool") && decide (n = "int"))
structure Typ (K : PySem.W.Frag) (H : Hp) (x : V) (t : Value) : Prop where
  ty : TyX K H x t
  kit : ∀ n, n = "int" ∨ n = "bool" ∨ n = "str" ∨ n = "list" ∨ n = "tuple" → PySem.W.kitOne K t (.type n) = some (kb t n)
section
variable {K : PySem.W.Frag} {H : Hp}
theorem kit_b {s : String} (h1 : kitB s "int" = some (kb (.type s) "int")) (h2 : kitB s "bool" = some (kb (.type s) "bool")) (h3 : kitB s "str" = some (kb (.type s) "str")) (h4 : kitB s "list" = some (kb (.type s) "list"))
    (h5 : kitB s "tuple" = some (kb (.type s) "tuple")) : ∀ n, n = "int" ∨ n = "bool" ∨ n = "str" ∨ n = "list" ∨ n = "tuple" → PySem.W.kitOne K (.type s) (.type n) = some (kb (.type s) n) := by
  rintro n (rfl | rfl | rfl | rfl | rfl)
  · exact kit_ty h1
  · exact kit_ty h2
  · exact kit_ty h3
  · exact kit_ty h4
  · exact kit_ty h5
theorem kits_int : ∀ n, n = "int" ∨ n = "bool" ∨ n = "str" ∨ n = "list" ∨ n = "tuple" → PySem.W.kitOne K (.type "int") (.type n) = some (kb (.type "int") n) :=
  kit_b (by decide +kernel) (by decide +kernel) (by decide +kernel) (by decide +kernel) (by decide +kernel)
theorem kits_bool : ∀ n, n = "int" ∨ n = "bool" ∨ n = "str" ∨ n = "list" ∨ n = "tuple" → PySem.W.kitOne K (.type "bool") (.type n) = some (kb (.type "bool") n) :=
  kit_b (by decide +kernel) (by decide +kernel) (by decide +kernel) (by decide +kernel) (by decide +kernel)
theorem kits_str : ∀ n, n = "int" ∨ n = "bool" ∨ n = "str" ∨ n = "list" ∨ n = "tuple" → PySem.W.kitOne K (.type "str") (.type n) = some (kb (.type "str") n) :=
  kit_b (by decide +kernel) (by decide +kernel) (by decide +kernel) (by decide +kernel) (by decide +kernel)
theorem kits_list : ∀ n, n = "int" ∨ n = "bool" ∨ n = "str" ∨ n = "list" ∨ n = "tuple" → PySem.W.kitOne K (.type "list") (.type n) = some (kb (.type "list") n) :=
  kit_b (by decide +kernel) (by decide +kernel) (by decide +kernel) (by decide +kernel) (by decide +kernel)
theorem kits_tuple : ∀ n, n = "int" ∨ n = "bool" ∨ n = "str" ∨ n = "list" ∨ n = "tuple" → PySem.W.kitOne K (.type "tuple") (.type n) = some (kb (.type "tuple") n) :=
  kit_b (by decide +kernel) (by decide +kernel) (by decide +kernel) (by decide +kernel) (by decide +kernel)
theorem kits_none : ∀ n, n = "int" ∨ n = "bool" ∨ n = "str" ∨ n = "list" ∨ n = "tuple" → PySem.W.kitOne K (.type "NoneType") (.type n) = some (kb (.type "NoneType") n) :=
  kit_b (by decide +kernel) (by decide +kernel) (by decide +kernel) (by decide +kernel) (by decide +kernel)
theorem typ_int (i : Int) : Typ K H (.int i) (.type "int") := ⟨.base (.int i), kits_int⟩
theorem typ_bl (b : Bool) : Typ K H (.bl b) (.type "bool") := ⟨.base (.bl b), kits_bool⟩
theorem typ_str (z : Str) : Typ K H (.str z) (.type "str") := ⟨.base (.str z), kits_str⟩
theorem typ_non : Typ K H .non (.type "NoneType") := ⟨.base .non, kits_none⟩
theorem typ_lst {a : Addr} {xs : List V} (h : H a = some (.lst xs)) : Typ K H (.ref a) (.type "list") := ⟨.base (.lst h), kits_list⟩
theorem typ_tup {a : Addr} {xs : List V} (h : H a = some (.tup xs)) : Typ K H (.ref a) (.type "tuple") := ⟨.base (.tup h), kits_tuple⟩
theorem typ_sqT {a : Addr} {xs : List V} (h : SqT K H a xs) : Typ K H (.ref a) (.type "tuple") := by
  rcases h with (h | ⟨o, h⟩) | ⟨o, its, n, e, c, _⟩
  · exact ⟨.base (.tup h), kits_tuple⟩
  · exact ⟨.fTuple h, kits_tuple⟩
  · exact ⟨.kTuple e c, kits_tuple⟩
theorem typ_sqL {a : Addr} {xs : List V} (h : SqL K H a xs) : Typ K H (.ref a) (.type "list") := by
  rcases h with (h | ⟨o, h⟩) | ⟨o, its, n, e, c, _⟩
  · exact ⟨.base (.lst h), kits_list⟩
  · exact ⟨.base (.frz h), kits_list⟩
  · exact ⟨.kList e c, kits_list⟩
theorem int_aux {x : V} {t : Value} (q : TyX K H x t) (e : t = .type "int") : ∃ i, x = .int i := by
  cases q with
  | base b => cases b <;> first | exact ⟨_, rfl⟩ | exact absurd e (by decide) | exact nomatch e
  | _ => exact absurd e (by decide)
theorem str_aux {x : V} {t : Value} (q : TyX K H x t) (e : t = .type "str") : ∃ i, x = .str i := by
  cases q with
  | base b => cases b <;> first | exact ⟨_, rfl⟩ | exact absurd e (by decide) | exact nomatch e
  | _ => exact absurd e (by decide)
theorem Typ.isInt {x : V} (h : Typ K H x (.type "int")) : ∃ i, x = .int i := int_aux h.ty rfl
theorem Typ.isStr {x : V} (h : Typ K H x (.type "str")) : ∃ z, x = .str z := str_aux h.ty rfl
theorem Typ.int_t {i : Int} {t : Value} (h : Typ K H (.int i) t) : t = .type "int" := by
  have q := h.ty
  cases q with
  | base b => cases b; rfl
theorem Typ.str_t {z : Str} {t : Value} (h : Typ K H (.str z) t) : t = .type "str" := by
  have q := h.ty
  cases q with
  | base b => cases b; rfl
theorem Typ.non_t {t : Value} (h : Typ K H .non t) : t = .type "NoneType" := by
  have q := h.ty
  cases q with
  | base b => cases b; rfl
theorem Typ.bl_t {b : Bool} {t : Value} (h : Typ K H (.bl b) t) : t = .type "bool" := by
  have q := h.ty
  cases q with
  | base b => cases b; rfl
end
/-! ### heaps -/
theorem same_new {H : Hp} {p : Addr} {o : HO} (h : H p = none) : Same H (upd H p o) := fun a u e => by
  rw [upd_ne (ne_of_none e h)]
  exact e
theorem same_sqT {K : PySem.W.Frag} {H H' : Hp} {a : Addr} {xs : List V} (e : Same H H') (h : SqT K H a xs) : SqT K H' a xs := by
  rcases h with (h | ⟨o, h⟩) | h
  · exact .inl (.inl (e _ _ h))
  · exact .inl (.inr ⟨o, e _ _ h⟩)
  · exact .inr h
/-- all but what stands at D -/
def Off (D : Addr) (H H' : Hp) : Prop := ∀ b o, b ≠ D → H b = some o → H' b = some o
theorem Off.same {D : Addr} {H H' : Hp} (h : H D = none) (o : Off D H H') : Same H H' := fun b u e => o b u (ne_of_none e h) e
section
variable {K : PySem.W.Frag} {a D : Addr} {xs : List V} {g : TG} {tt : TT} {te : TE} {vs : List Nat} {σ : L2.St} {H : Hp} {Qd : Hp → Prop}
/-- one turn of a comprehension: the item is taken just if b, it becomes f; nothing old changes -/
abbrev LcTurn (g : TG) (tt : TT) (te : TE) (vs : List Nat) (σ : L2.St) (H : Hp) (x : V) (b : Bool) (f : V) : Prop :=
  ∀ H1, Same H H1 → ∀ (R : V → Hp → Prop) (S : Hp → Prop), (b = true → ∀ H2, Same H1 H2 → R f H2) → (b = false → ∀ H2, Same H1 H2 → S H2) →
    g x (wipe σ vs) H1 fun σ2 H2 => wipe σ2 vs = wipe σ vs ∧ tt σ2 H2 fun c H3 => if c = true then te σ2 H3 R else S H3
theorem take_step (b : V → Bool) (f : V → V) (l : List V) {i : Nat} {x : V} (h : l[i]? = some x) :
    ((l.take (i + 1)).filter b).map f = ((l.take i).filter b).map f ++ (if b x then [f x] else []) := by
  rw [List.take_add_one, h, List.filter_append, List.map_append]
  cases e : b x <;> simp [e]
theorem take_len (b : V → Bool) (f : V → V) (l : List V) (i : Nat) : (((l.take i).filter b).map f).length ≤ l.length := by
  rw [List.length_map]
  exact Nat.le_trans (List.length_filter_le _ _) (by rw [List.length_take]; omega)
/-- what stands between two turns -/
def LcInv (b : V → Bool) (f : V → V) (H : Hp) (D : Addr) (l : List V) (i : Nat) (H' : Hp) : Prop := Same H H' ∧ H' D = some (.lst (((l.take i).filter b).map f))
theorem lc_start (b : V → Bool) (f : V → V) (l : List V) (hD : H D = none) : LcInv b f H D l 0 (upd H D (.lst [])) := ⟨same_new hD, by rw [upd_same]; simp⟩
theorem lc_turn {b : V → Bool} {f : V → V} {l : List V} {i : Nat} {x : V} {H' : Hp} (hD : H D = none) (hn : l.length < sizeLine) (hx : l[i]? = some x) (p : LcInv b f H D l i H') (ht : LcTurn g tt te vs σ H x (b x) (f x)) :
    g x (wipe σ vs) H' fun σ2 H2 => wipe σ2 vs = wipe σ vs ∧ tt σ2 H2 fun c H3 => if c = true then te σ2 H3 fun y H4 => ∃ acc, H4 D = some (.lst acc) ∧ acc.length < sizeLine ∧ LcInv b f H D l (i + 1) (upd H4 D (.lst (acc ++ [y]))) else LcInv b f H D l (i + 1) H3 := by
  obtain ⟨p1, p2⟩ := p
  refine ht H' p1 _ _ (fun hb H2 s2 => ?_) (fun hb H2 s2 => ?_)
  · refine ⟨_, s2 _ _ p2, Nat.lt_of_le_of_lt (take_len b f l i) hn, fun c o e => ?_, ?_⟩
    · rw [upd_ne (ne_of_none e hD)]
      exact s2 _ _ (p1 _ _ e)
    · rw [upd_same, take_step b f l hx, hb]
      rfl
  · refine ⟨p1.trans s2, ?_⟩
    rw [take_step b f l hx, hb]
    simpa using s2 _ _ p2
theorem lc_L (b : V → Bool) (f : V → V) (hS : SqL K H a xs) (hn : xs.length < sizeLine) (hD : H D = none) (ht : ∀ x ∈ xs, LcTurn g tt te vs σ H x (b x) (f x))
    (hd : ∀ H', Same H H' → H' D = some (.lst ((xs.filter b).map f)) → Qd H') :
    ∃ W : Nat → Nat → Hp → Prop, (∃ m, W 0 m (upd H D (.lst []))) ∧ ∀ i m H', W i m H' →
      ((Itl K a).stop i H' ∧ Qd H') ∨ ((Itl K a).go i H' ∧ ∃ Nx : Hp → Prop, (∀ H2, Nx H2 → ∃ m', m' < m ∧ W (i + 1) m' H2) ∧ ∀ x H2, (Itl K a).yld i H' x H2 → g x (wipe σ vs) H2 fun σ2 H3 => wipe σ2 vs = wipe σ vs ∧ tt σ2 H3 fun c H4 =>
        if c = true then te σ2 H4 fun y H5 => ∃ acc, H5 D = some (.lst acc) ∧ acc.length < sizeLine ∧ Nx (upd H5 D (.lst (acc ++ [y]))) else Nx H4) :=
  lc_list (LcInv b f H D xs) (lc_start b f xs hD) (fun i H' _ p => p.1.seq hS) (fun i x H' hx p => lc_turn hD hn hx p (ht x (List.mem_of_getElem? hx))) fun H' p => hd H' p.1 (by have := p.2; rwa [List.take_length] at this)
theorem lc_T (b : V → Bool) (f : V → V) (hS : SqT K H a xs) (hn : xs.length < sizeLine) (hD : H D = none) (ht : ∀ x ∈ xs, LcTurn g tt te vs σ H x (b x) (f x))
    (hd : ∀ H', Same H H' → H' D = some (.lst ((xs.filter b).map f)) → Qd H') :
    ∃ W : Nat → Nat → Hp → Prop, (∃ m, W 0 m (upd H D (.lst []))) ∧ ∀ i m H', W i m H' →
      ((Itt K a).stop i H' ∧ Qd H') ∨ ((Itt K a).go i H' ∧ ∃ Nx : Hp → Prop, (∀ H2, Nx H2 → ∃ m', m' < m ∧ W (i + 1) m' H2) ∧ ∀ x H2, (Itt K a).yld i H' x H2 → g x (wipe σ vs) H2 fun σ2 H3 => wipe σ2 vs = wipe σ vs ∧ tt σ2 H3 fun c H4 =>
        if c = true then te σ2 H4 fun y H5 => ∃ acc, H5 D = some (.lst acc) ∧ acc.length < sizeLine ∧ Nx (upd H5 D (.lst (acc ++ [y]))) else Nx H4) :=
  lc_tup (LcInv b f H D xs) (lc_start b f xs hD) (fun i H' _ p => same_sqT p.1 hS) (fun i x H' hx p => lc_turn hD hn hx p (ht x (List.mem_of_getElem? hx))) fun H' p => hd H' p.1 (by have := p.2; rwa [List.take_length] at this)
/-- the ints of a range -/
def rgV (lo : Int) (n : Nat) : List V := (List.range n).map fun (i : Nat) => V.int (lo + (i : Int))
theorem rgV_len (lo : Int) (n : Nat) : (rgV lo n).length = n := by simp [rgV]
theorem rgV_at {lo : Int} {n i : Nat} (h : i < n) : (rgV lo n)[i]? = some (.int (lo + (i : Int))) := by simp [rgV, h]
theorem lc_R {lo : Int} {n : Nat} (b : V → Bool) (f : V → V) (hn : n < sizeLine) (hD : H D = none) (ht : ∀ i, i < n → LcTurn g tt te vs σ H (.int (lo + (i : Int))) (b (.int (lo + (i : Int)))) (f (.int (lo + (i : Int)))))
    (hd : ∀ H', Same H H' → H' D = some (.lst (((rgV lo n).filter b).map f)) → Qd H') :
    ∃ W : Nat → Nat → Hp → Prop, (∃ m, W 0 m (upd H D (.lst []))) ∧ ∀ i m H', W i m H' →
      ((Itr lo n).stop i H' ∧ Qd H') ∨ ((Itr lo n).go i H' ∧ ∃ Nx : Hp → Prop, (∀ H2, Nx H2 → ∃ m', m' < m ∧ W (i + 1) m' H2) ∧ ∀ x H2, (Itr lo n).yld i H' x H2 → g x (wipe σ vs) H2 fun σ2 H3 => wipe σ2 vs = wipe σ vs ∧ tt σ2 H3 fun c H4 =>
        if c = true then te σ2 H4 fun y H5 => ∃ acc, H5 D = some (.lst acc) ∧ acc.length < sizeLine ∧ Nx (upd H5 D (.lst (acc ++ [y]))) else Nx H4) :=
  lc_range (LcInv b f H D (rgV lo n)) (lc_start b f _ hD) (fun i H' hi p => lc_turn hD (by rw [rgV_len]; exact hn) (rgV_at hi) p (ht i hi)) fun H' p => hd H' p.1 (by have := p.2; rwa [List.take_of_length_le (by rw [rgV_len]; exact Nat.le_refl _)] at this)
end
end Tm

/-! Part 3: len(set(xs)) of ints, whether they are unlike. -/
namespace Tm
open PySem PySem.Spec PyProof.Rows L2
theorem nodup_le {α : Type} [DecidableEq α] : ∀ {l ns : List α}, l.Nodup → (∀ x ∈ l, x ∈ ns) → l.length ≤ ns.length
  | [], _, _, _ => Nat.zero_le _
  | x :: l, ns, h, hs => by
    obtain ⟨h1, h2⟩ := List.nodup_cons.mp h
    have hx : x ∈ ns := hs x (List.mem_cons_self ..)
    have ih : l.length ≤ (ns.erase x).length := nodup_le h2 fun y hy => by
      have ne : y ≠ x := fun e => h1 (e ▸ hy)
      exact (List.mem_erase_of_ne ne).mpr (hs y (List.mem_cons_of_mem _ hy))
    rw [List.length_erase_of_mem hx] at ih
    have := List.length_pos_of_mem hx
    simp only [List.length_cons]
    omega
/-- a list of the members of ns without a double one has its length just if ns has none -/
theorem nodup_iff {α : Type} [DecidableEq α] : ∀ {ns l : List α}, l.Nodup → (∀ x, x ∈ l ↔ x ∈ ns) → (l.length = ns.length ↔ ns.Nodup)
  | ns, l, h, hm => by
    constructor
    · intro e
      induction ns generalizing l with
      | nil => exact List.nodup_nil
      | cons y ns ih =>
        refine List.nodup_cons.mpr ?_
        have hy : y ∈ l := (hm y).mpr (List.mem_cons_self ..)
        have hn : y ∉ ns := by
          intro hyn
          have : l.length ≤ ns.length := nodup_le h fun x hx => by
            rcases List.mem_cons.mp ((hm x).mp hx) with rfl | z
            · exact hyn
            · exact z
          simp only [List.length_cons] at e
          omega
        refine ⟨hn, ih (l := l.erase y) (h.erase y) (fun x => ?_) ?_⟩
        · rw [h.mem_erase_iff, hm x, List.mem_cons]
          constructor
          · rintro ⟨ne, rfl | z⟩
            · exact absurd rfl ne
            · exact z
          · intro z
            exact ⟨fun e => hn (e ▸ z), Or.inr z⟩
        · rw [List.length_erase_of_mem hy, e]
          simp
    · intro hn
      exact Nat.le_antisymm (nodup_le h fun x hx => (hm x).mp hx) (nodup_le hn fun x hx => (hm x).mpr hx)
theorem firstMet_nd (val : Nat → Int) : ∀ i, (PyProof.Rows.firstMet val i).Nodup
  | 0 => List.nodup_nil
  | i + 1 => by
    have ih := firstMet_nd val i
    rw [PyProof.Rows.firstMet_succ]
    unfold PyProof.Rows.step_dedup
    split
    · exact ih
    · rename_i hc
      refine List.nodup_append.mpr ⟨ih, by simp, fun a ha b hb => ?_⟩
      rw [List.mem_singleton] at hb
      subst hb
      intro e
      apply hc
      rw [List.any_eq_true]
      exact ⟨a, ha, by simp [e]⟩
theorem firstMet_mem (ns : List Int) (k : Int) : k ∈ PyProof.Rows.firstMet (fun i => ns.getD i 0) ns.length ↔ k ∈ ns := by
  have e : ((List.range ns.length).map fun i => ns.getD i 0) = ns := by
    apply List.ext_getElem
    · simp
    · intro i h1 h2
      simp [List.getD_eq_getElem?_getD, h2]
  have h := PyProof.Rows.firstMet_any (fun i => ns.getD i 0) ns.length k
  rw [e] at h
  constructor
  · intro hk
    have : (PyProof.Rows.firstMet (fun i => ns.getD i 0) ns.length).any (· == k) = true := List.any_eq_true.mpr ⟨k, hk, by simp⟩
    rw [h] at this
    obtain ⟨y, hy, ey⟩ := List.any_eq_true.mp this
    rw [← eq_of_beq ey]
    exact hy
  · intro hk
    have : ns.any (· == k) = true := List.any_eq_true.mpr ⟨k, hk, by simp⟩
    rw [← h] at this
    obtain ⟨y, hy, ey⟩ := List.any_eq_true.mp this
    rw [← eq_of_beq ey]
    exact hy
def tLenSet (K : PySem.W.Frag) (ta : TE) : TE := fun σ H Q => ta σ H fun x H1 => ∃ (l : Addr) (ns : List Int), x = .ref l ∧ (SqL K H1 l (ns.map V.int) ∨ SqT K H1 l (ns.map V.int)) ∧ ns.length ≤ 1000 ∧ ∀ m : Nat, (m = ns.length ↔ ns.Nodup) → Q (.int m) H1
theorem pe_lenSet0 {X : Cx} {a : Expr} {ta : TE} {p p2 q pos : Pos} (hm : X.mg "len" = none) (hm2 : X.mg "set" = none) (ha : PE X a ta) (hg : Gl X "len" := by rfl) (hg2 : Gl X "set" := by rfl) (hc : X.calm = true := by rfl)
    (na : starEach [a] X.env = (false, eval a X.env) :: starEach [] X.env := by rfl) : PE X (.Call (.Name "len" p) [.Call (.Name "set" p2) [a] [] q] [] pos) (tLenSet X.K ta) := by
  refine ⟨fun pins s σ H Q I h => ?_⟩
  refine Call_ (ld_blt I hg hm bt_len ?_)
  refine callWith_builtin1 (args_cons ?_ rfl) rfl rfl
  refine Call_ (ld_blt I hg2 hm2 bt_set ?_)
  refine callWith_type1 (args_cons (thn (ha.run pins s σ H _ I h) fun v s1 ⟨x, H1, I1, r1, q1⟩ => args_nil ?_) na) na rfl
  obtain ⟨l, ns, rfl, hq, hl, q1⟩ := q1
  cases r1
  have sb : ns.length + 1 < scanBound := by
    unfold scanBound
    omega
  rcases hq with hq | hq
  · obtain ⟨its, r, pl, hz⟩ := I1.list hq
    have hlen : its.toArray.size = ns.length := by rw [List.size_toArray, ← r.length, List.length_map]
    refine call_set_list (I1.ok.hd hc) pl.isList (by simpa using RZ.intsAre_vals r) (by rw [hlen]; exact sb) fun h' tk hS hk => ?_
    refine args_nil ?_
    rw [hlen] at hS
    obtain ⟨o, es, ep, t, ho, hex, hd, _, _, _, hf, hn⟩ := hS
    have I2 : Inv X pins σ H1 { s1 with heap := h', toks := tk } := I1.kept fun b o e => hk b o (Heap.lt_size e) e
    have hle := PyProof.Rows.firstMet_length_le (fun i => ns.getD i 0) ns.length
    exact call_len_set ho hex hd hf (by rw [hn]; omega) ⟨.int _, H1, I2.tok _, ⟨_, rfl⟩, q1 _ (by rw [hn]; exact nodup_iff (firstMet_nd _ _) (firstMet_mem ns))⟩
  · obtain ⟨its, r, tp, hz⟩ := I1.tuple hq
    refine call_set_tupI ns (I1.ok.hd hc) tp (by simpa using RZ.intsAre_vals r) sb fun h' tk c hS hcn hk => ?_
    refine args_nil ?_
    obtain ⟨o, es, ep, t, ho, hex, hd, _, hnd, hmem, _, hf, hn, _⟩ := hS
    have I2 : Inv X pins σ H1 { s1 with heap := h', toks := tk } := I1.kept fun b o e => hk b o e
    refine call_len_set ho hex hd hf (by rw [hn]; omega) ⟨.int _, H1, I2.tok _, ⟨_, rfl⟩, q1 _ ?_⟩
    have z := nodup_iff (ns := ns) hnd fun k => by
      rw [← hmem k]
      simp
    rw [List.length_map, Array.length_toList] at z
    exact z
theorem pe_lenSet {X : Cx} (K : PySem.W.Frag) {a : Expr} {ta : TE} {p p2 q pos : Pos} (hm : X.mg "len" = none) (hm2 : X.mg "set" = none) (ha : PE X a ta) (hg : Gl X "len" := by rfl) (hg2 : Gl X "set" := by rfl) (hc : X.calm = true := by rfl)
    (na : starEach [a] X.env = (false, eval a X.env) :: starEach [] X.env := by rfl) (hK : X.K = K := by rfl) : PE X (.Call (.Name "len" p) [.Call (.Name "set" p2) [a] [] q] [] pos) (tLenSet K ta) := by
  subst hK
  exact pe_lenSet0 hm hm2 ha hg hg2 hc na
end Tm

/-! Part 4: walks over a list or a tuple; any values and their items. -/
namespace Tm
open PySem PySem.Spec PyProof.Rows L2
theorem Typ.mono {K : PySem.W.Frag} {H H' : Hp} {x : V} {t : Value} (T : Typ K H x t) (h : Same H H') : Typ K H' x t := by
  refine ⟨?_, T.kit⟩
  have q := T.ty
  cases q with
  | base b =>
    cases b with
    | non => exact .base .non
    | bl y => exact .base (.bl y)
    | int i => exact .base (.int i)
    | str y => exact .base (.str y)
    | flt y => exact .base (.flt y)
    | lst e => exact .base (.lst (h _ _ e))
    | frz e => exact .base (.frz (h _ _ e))
    | tup e => exact .base (.tup (h _ _ e))
    | dK e => exact .base (.dK (h _ _ e))
    | dT e => exact .base (.dT (h _ _ e))
    | ins e cl ha hn htk hm => exact .base (.ins (h _ _ e) cl ha hn htk hm)
  | byt y => exact .byt y
  | set e => exact .set (h _ _ e)
  | kList e c => exact .kList e c
  | kTuple e c => exact .kTuple e c
  | kDict e c => exact .kDict e c
  | fTuple e => exact .fTuple (h _ _ e)
  | fDict e => exact .fDict (h _ _ e)
/-- two ways that go on alike -/
theorem cut_if {c A B R : Prop} [Decidable c] (h1 : c → R → A) (h2 : ¬ c → R → B) (r : R) : if c then A else B := by
  by_cases h : c
  · rw [if_pos h]
    exact h1 h r
  · rw [if_neg h]
    exact h2 h r
/-- a list or a tuple of these -/
def Sq (K : PySem.W.Frag) (H : Hp) (a : Addr) (xs : List V) : Prop := SqL K H a xs ∨ SqT K H a xs
theorem Sq.mono {K : PySem.W.Frag} {H H' : Hp} {a : Addr} {xs : List V} (h : Sq K H a xs) (s : Same H H') : Sq K H' a xs := by
  rcases h with h | h
  · exact .inl (s.seq h)
  · exact .inr (same_sqT s h)
theorem isSeq_of {K : PySem.W.Frag} {H : Hp} {a : Addr} {xs : List V} (h : Sq K H a xs) : ∃ t, Typ K H (.ref a) t ∧ (t = .type "list" ∨ t = .type "tuple") := by
  rcases h with h | h
  · exact ⟨_, typ_sqL h, .inl rfl⟩
  · exact ⟨_, typ_sqT h, .inr rfl⟩
def iSeq (K : PySem.W.Frag) (tl : TE) : TI := fun σ H R => tl σ H fun x H1 => ∃ (a : Addr) (xs : List V), x = .ref a ∧ Sq K H1 a xs ∧ (SqL K H1 a xs → R (Itl K a) H1) ∧ (SqT K H1 a xs → R (Itt K a) H1)
theorem pi_seq {X : Cx} {tg l : Expr} {tl : TE} (hl : PE X l tl) : PI X tg l (iSeq X.K tl) := by
  constructor
  intro pins s σ H R I h
  refine thn (hl.run pins s σ H _ I h) ?_
  rintro v s1 ⟨x, H1, I1, r1, a, xs, e, hq, qL, qT⟩
  subst e
  cases r1
  have fp : ∀ b ∈ [s1.heap.objs.size], FpOk X pins H1 b := fun b hb => by
    rw [List.mem_singleton] at hb
    rw [hb]
    exact I1.fpOk (Nat.le_refl _) (I1.hok.fresh (Nat.le_refl _))
  rcases hq with hq | hq
  · obtain ⟨its, rv, p, hz⟩ := I1.list hq
    exact wpAny_pyIter_list p.isList ⟨_, [s1.heap.objs.size], _, _, H1, rfl, I1.kept (t' := s1.toks) fun b o z => Heap.get?_push_of_some _ z, turn_list a _, ⟨_, Heap.get?_push_size _ rfl, rfl, rfl⟩, fp, qL hq⟩
  · obtain ⟨its, rv, p, hz⟩ := I1.tuple hq
    exact wpAny_pyIter_tuple (show s1.heap.IsTuple a its.toArray from p) ⟨_, [s1.heap.objs.size], _, _, H1, rfl, I1.kept (t' := s1.toks) fun b o z => Heap.get?_push_of_some _ z, turn_tuple a _, ⟨_, Heap.get?_push_size _ rfl, rfl, rfl⟩, fp, qT hq⟩
/-- a comprehension behind its iterable: that is a list or a tuple at x -/
def lcRun (g : TG) (tt : TT) (te : TE) (vs : List Nat) (σ : L2.St) (Q : VK) (J : It) (H1 : Hp) : Prop := ∀ D, H1 D = none → ∃ W : Nat → Nat → Hp → Prop, (∃ m, W 0 m (upd H1 D (.lst []))) ∧ ∀ i m H, W i m H →
  (J.stop i H ∧ Q (.ref D) H) ∨ (J.go i H ∧ ∃ Nx : Hp → Prop, (∀ H', Nx H' → ∃ m', m' < m ∧ W (i + 1) m' H') ∧ ∀ x H', J.yld i H x H' → g x (wipe σ vs) H' fun σ2 H2 => wipe σ2 vs = wipe σ vs ∧ tt σ2 H2 fun b H3 =>
    if b = true then te σ2 H3 fun y H4 => ∃ acc, H4 D = some (.lst acc) ∧ acc.length < sizeLine ∧ Nx (upd H4 D (.lst (acc ++ [y]))) else Nx H3)
def lcBody (K : PySem.W.Frag) (g : TG) (tt : TT) (te : TE) (vs : List Nat) (σ : L2.St) (Q : VK) : VK := fun x H1 => ∃ (a : Addr) (xs : List V), x = .ref a ∧ Sq K H1 a xs ∧ (SqL K H1 a xs → lcRun g tt te vs σ Q (Itl K a) H1) ∧ (SqT K H1 a xs → lcRun g tt te vs σ Q (Itt K a) H1)
theorem tLc_eq {K : PySem.W.Frag} {tl : TE} {g : TG} {tt : TT} {te : TE} {vs : List Nat} {σ : L2.St} {H : Hp} {Q : VK} : tLc (iSeq K tl) g tt te vs σ H Q = tl σ H (lcBody K g tt te vs σ Q) := rfl
theorem lcb_S {K : PySem.W.Frag} {a : Addr} {xs : List V} {g : TG} {tt : TT} {te : TE} {vs : List Nat} {σ : L2.St} {H : Hp} {Q : VK} (b : V → Bool) (f : V → V)
    (hS : Sq K H a xs) (hn : xs.length < sizeLine) (ht : ∀ x ∈ xs, LcTurn g tt te vs σ H x (b x) (f x))
    (hd : ∀ D H', H D = none → Same H H' → H' D = some (.lst ((xs.filter b).map f)) → Q (.ref D) H') : lcBody K g tt te vs σ Q (.ref a) H := by
  refine ⟨a, xs, rfl, hS, fun h D hD => ?_, fun h D hD => ?_⟩
  · exact lc_L b f h hn hD ht fun H' s e => hd D H' hD s e
  · exact lc_T b f h hn hD ht fun H' s e => hd D H' hD s e
/-- a comprehension over a list or a tuple, nothing old changes: its whole reading -/
theorem lc_S {K : PySem.W.Frag} {a : Addr} {xs : List V} {g : TG} {tt : TT} {te tl : TE} {vs : List Nat} {σ : L2.St} {H : Hp} {Q : VK} (b : V → Bool) (f : V → V)
    (hl : ∀ R : VK, R (.ref a) H → tl σ H R) (hS : Sq K H a xs) (hn : xs.length < sizeLine) (ht : ∀ x ∈ xs, LcTurn g tt te vs σ H x (b x) (f x))
    (hd : ∀ D H', H D = none → Same H H' → H' D = some (.lst ((xs.filter b).map f)) → Q (.ref D) H') : tLc (iSeq K tl) g tt te vs σ H Q := by
  refine hl _ ⟨a, xs, rfl, hS, fun h D hD => ?_, fun h D hD => ?_⟩
  · exact lc_L b f h hn hD ht fun H' s e => hd D H' hD s e
  · exact lc_T b f h hn hD ht fun H' s e => hd D H' hD s e
/-- .. without a test -/
theorem lc_M {K : PySem.W.Frag} {a : Addr} {xs : List V} {g : TG} {te tl : TE} {vs : List Nat} {σ : L2.St} {H : Hp} {Q : VK} (f : V → V)
    (hl : ∀ R : VK, R (.ref a) H → tl σ H R) (hS : Sq K H a xs) (hn : xs.length < sizeLine)
    (ht : ∀ x ∈ xs, ∀ H1, Same H H1 → ∀ R : V → Hp → Prop, (∀ H2, Same H1 H2 → R (f x) H2) → g x (wipe σ vs) H1 fun σ2 H2 => wipe σ2 vs = wipe σ vs ∧ te σ2 H2 R)
    (hd : ∀ D H', H D = none → Same H H' → H' D = some (.lst (xs.map f)) → Q (.ref D) H') (hg : ∀ x τ H1 R R', (∀ τ' H', R τ' H' → R' τ' H') → g x τ H1 R → g x τ H1 R') : tLc (iSeq K tl) g tYes te vs σ H Q := by
  refine lc_S (fun _ => true) f hl hS hn (fun x hx H1 s1 R S hR hS => ?_) fun D H' hD s e => hd D H' hD s (by rw [e, List.filter_eq_self.mpr fun _ _ => rfl])
  exact hg _ _ _ _ _ (fun τ' H' z => ⟨z.1, z.2⟩) (ht x hx H1 s1 R (hR rfl))
/-- .. the items told one by one -/
def LpInv (H : Hp) (D : Addr) (ys : List V) (i : Nat) (H' : Hp) : Prop := Same H H' ∧ H' D = some (.lst (ys.take i))
theorem lcb_P {K : PySem.W.Frag} {a : Addr} {xs ys : List V} {g : TG} {te : TE} {vs : List Nat} {σ : L2.St} {H : Hp} {Q : VK}
    (hS : Sq K H a xs) (hn : xs.length < sizeLine) (hy : ys.length = xs.length)
    (ht : ∀ (i : Nat) (x y : V), xs[i]? = some x → ys[i]? = some y → ∀ H1, Same H H1 → ∀ R : V → Hp → Prop, (∀ H2, Same H1 H2 → R y H2) → g x (wipe σ vs) H1 fun σ2 H2 => wipe σ2 vs = wipe σ vs ∧ te σ2 H2 R)
    (hd : ∀ D H', H D = none → Same H H' → H' D = some (.lst ys) → Q (.ref D) H') (hg : ∀ x τ H1 R R', (∀ τ' H', R τ' H' → R' τ' H') → g x τ H1 R → g x τ H1 R') : lcBody K g tYes te vs σ Q (.ref a) H := by
  have start : ∀ D, H D = none → LpInv H D ys 0 (upd H D (.lst [])) := fun D hD => ⟨same_new hD, by rw [upd_same]; rfl⟩
  have turn : ∀ D, H D = none → ∀ i x H', xs[i]? = some x → LpInv H D ys i H' → g x (wipe σ vs) H' fun σ2 H2 => wipe σ2 vs = wipe σ vs ∧ tYes σ2 H2 fun b H3 =>
      if b = true then te σ2 H3 fun y H4 => ∃ acc, H4 D = some (.lst acc) ∧ acc.length < sizeLine ∧ LpInv H D ys (i + 1) (upd H4 D (.lst (acc ++ [y]))) else LpInv H D ys (i + 1) H3 := by
    intro D hD i x H' hx ⟨p1, p2⟩
    have hi : i < ys.length := by
      rw [hy]
      exact (List.getElem?_eq_some_iff.mp hx).1
    have ey : ys[i]? = some ys[i] := List.getElem?_eq_getElem hi
    refine hg _ _ _ _ _ (fun τ' H' z => ⟨z.1, z.2⟩) (ht i x _ hx ey H' p1 (fun y H4 => ∃ acc, H4 D = some (.lst acc) ∧ acc.length < sizeLine ∧ LpInv H D ys (i + 1) (upd H4 D (.lst (acc ++ [y])))) fun H5 s5 => ?_)
    refine ⟨_, s5 _ _ p2, ?_, fun c o e => ?_, ?_⟩
    · rw [List.length_take]
      exact Nat.lt_of_le_of_lt (Nat.min_le_right _ _) (by rw [hy]; exact hn)
    · rw [upd_ne (ne_of_none e hD)]
      exact s5 _ _ (p1 _ _ e)
    · rw [upd_same, List.take_add_one, ey]
      rfl
  have whole : ∀ D H', LpInv H D ys xs.length H' → H' D = some (.lst ys) := fun D H' p => by
    have := p.2
    rwa [← hy, List.take_length] at this
  refine ⟨a, xs, rfl, hS, fun h D hD => ?_, fun h D hD => ?_⟩
  · exact lc_list (LpInv H D ys) (start D hD) (fun i H' _ p => p.1.seq h) (fun i x H' hx p => turn D hD i x H' hx p) fun H' p => hd D H' hD p.1 (whole D H' p)
  · exact lc_tup (LpInv H D ys) (start D hD) (fun i H' _ p => same_sqT p.1 h) (fun i x H' hx p => turn D hD i x H' hx p) fun H' p => hd D H' hD p.1 (whole D H' p)
theorem lc_P {K : PySem.W.Frag} {a : Addr} {xs ys : List V} {g : TG} {te tl : TE} {vs : List Nat} {σ : L2.St} {H : Hp} {Q : VK}
    (hl : ∀ R : VK, R (.ref a) H → tl σ H R) (hS : Sq K H a xs) (hn : xs.length < sizeLine) (hy : ys.length = xs.length)
    (ht : ∀ (i : Nat) (x y : V), xs[i]? = some x → ys[i]? = some y → ∀ H1, Same H H1 → ∀ R : V → Hp → Prop, (∀ H2, Same H1 H2 → R y H2) → g x (wipe σ vs) H1 fun σ2 H2 => wipe σ2 vs = wipe σ vs ∧ te σ2 H2 R)
    (hd : ∀ D H', H D = none → Same H H' → H' D = some (.lst ys) → Q (.ref D) H') (hg : ∀ x τ H1 R R', (∀ τ' H', R τ' H' → R' τ' H') → g x τ H1 R → g x τ H1 R') : tLc (iSeq K tl) g tYes te vs σ H Q :=
  hl _ (lcb_P hS hn hy ht hd hg)
theorem tLcR_eq {ta : TA} {g : TG} {tt : TT} {te : TE} {vs : List Nat} {σ : L2.St} {H : Hp} {Q : VK} : tLc (iRng2 ta) g tt te vs σ H Q = ta σ H fun ws H1 => ∃ i j : Int, ws = [.int i, .int j] ∧ (-(2 ^ 62) ≤ i ∧ i < 2 ^ 62 ∧ -(2 ^ 62) ≤ j ∧ j < 2 ^ 62) ∧ lcRun g tt te vs σ Q (Itr i (j - i).toNat) H1 := rfl
theorem tLcR1_eq {ta : TA} {g : TG} {tt : TT} {te : TE} {vs : List Nat} {σ : L2.St} {H : Hp} {Q : VK} : tLc (iRng1 ta) g tt te vs σ H Q = ta σ H fun ws H1 => ∃ j : Int, ws = [.int j] ∧ -(2 ^ 62) ≤ j ∧ j < 2 ^ 62 ∧ lcRun g tt te vs σ Q (Itr 0 j.toNat) H1 := rfl
theorem lcr_R {lo : Int} {n : Nat} {g : TG} {tt : TT} {te : TE} {vs : List Nat} {σ : L2.St} {H : Hp} {Q : VK} (b : V → Bool) (f : V → V) (hn : n < sizeLine) (ht : ∀ i : Nat, i < n → LcTurn g tt te vs σ H (.int (lo + (i : Int))) (b (.int (lo + (i : Int)))) (f (.int (lo + (i : Int)))))
    (hd : ∀ D H', H D = none → Same H H' → H' D = some (.lst (((rgV lo n).filter b).map f)) → Q (.ref D) H') : lcRun g tt te vs σ Q (Itr lo n) H :=
  fun D hD => lc_R b f hn hD ht fun H' s e => hd D H' hD s e
/-- a for over a list or a tuple, behind its iterable -/
def frRun (g : TG) (tb : TS) (D : Ends) (σ : L2.St) (J : It) (H1 : Hp) : Prop := ∃ W : Nat → Nat → L2.St → Hp → Prop, (∃ m, W 0 m σ H1) ∧ ∀ i m σ H, W i m σ H →
  (J.stop i H ∧ D.nx σ H) ∨ (J.go i H ∧ ∃ N : L2.St → Hp → Prop, (∀ σ' H', N σ' H' → ∃ m', m' < m ∧ W (i + 1) m' σ' H') ∧ ∀ x H', J.yld i H x H' → g x σ H' fun σ2 H2 => tb { D with nx := N, ct := N, bk := D.nx } σ2 H2)
def frBody (K : PySem.W.Frag) (g : TG) (tb : TS) (D : Ends) (σ : L2.St) : VK := fun x H1 => ∃ (a : Addr) (xs : List V), x = .ref a ∧ Sq K H1 a xs ∧ (SqL K H1 a xs → frRun g tb D σ (Itl K a) H1) ∧ (SqT K H1 a xs → frRun g tb D σ (Itt K a) H1)
theorem tFor_eq {K : PySem.W.Frag} {tl : TE} {g : TG} {tb : TS} {D : Ends} {σ : L2.St} {H : Hp} : tFor (iSeq K tl) g tb D σ H = tl σ H (frBody K g tb D σ) := rfl
/-- what is walked stays -/
def Stays (K : PySem.W.Frag) (a : Addr) (xs : List V) (H H' : Hp) : Prop := (SqL K H a xs → SqL K H' a xs) ∧ (SqT K H a xs → SqT K H' a xs)
theorem stays_same {K : PySem.W.Frag} {a : Addr} {xs : List V} {H H' : Hp} (s : Same H H') : Stays K a xs H H' := ⟨fun h => s.seq h, fun h => same_sqT s h⟩
theorem frb {K : PySem.W.Frag} {a : Addr} {xs : List V} {g : TG} {tb : TS} {D : Ends} {σ : L2.St} {H : Hp} (hS : Sq K H a xs) (Pv : Nat → L2.St → Hp → Prop) (h0 : Pv 0 σ H) (hl : ∀ i σ H', i ≤ xs.length → Pv i σ H' → Stays K a xs H H')
    (hs : ∀ i x σ H', xs[i]? = some x → Pv i σ H' → g x σ H' fun σ2 H2 => tb { D with nx := Pv (i + 1), ct := Pv (i + 1), bk := D.nx } σ2 H2) (hd : ∀ σ H', Pv xs.length σ H' → D.nx σ H') : frBody K g tb D σ (.ref a) H := by
  refine ⟨a, xs, rfl, hS, fun h => ?_, fun h => ?_⟩
  · exact for_list (K := K) (a := a) (xs := xs) Pv h0 (fun i σ H' hi p => (hl i σ H' hi p).1 h) hs hd
  · exact for_tup (K := K) (a := a) (xs := xs) Pv h0 (fun i σ H' hi p => (hl i σ H' hi p).2 h) hs hd
/-- any value: its type, and its items if it is a list or a tuple -/
inductive AnyV (K : PySem.W.Frag) (H : Hp) : V → Option (List V) → Prop where
  | no {x : V} {t : Value} (T : Typ K H x t) (h1 : t ≠ .type "list") (h2 : t ≠ .type "tuple") : AnyV K H x none
  | seq {a : Addr} {xs : List V} (h : Sq K H a xs) (hn : xs.length ≤ 1000) (hx : ∀ y ∈ xs, ∃ t, Typ K H y t) : AnyV K H (.ref a) (some xs)
theorem AnyV.mono {K : PySem.W.Frag} {H H' : Hp} {x : V} {os : Option (List V)} (A : AnyV K H x os) (s : Same H H') : AnyV K H' x os := by
  cases A with
  | no T h1 h2 => exact .no (T.mono s) h1 h2
  | seq h hn hx =>
    exact .seq (h.mono s) hn fun y hy => by
      obtain ⟨t, T⟩ := hx y hy
      exact ⟨t, T.mono s⟩
theorem AnyV.typ {K : PySem.W.Frag} {H : Hp} {x : V} {os : Option (List V)} (A : AnyV K H x os) : ∃ t, Typ K H x t ∧ ((t = .type "list" ∨ t = .type "tuple") ↔ os.isSome = true) := by
  cases A with
  | no T h1 h2 => exact ⟨_, T, fun z => z.elim (fun z => absurd z h1) fun z => absurd z h2, fun z => by cases z⟩
  | seq h hn hx =>
    obtain ⟨t, T, z⟩ := isSeq_of h
    exact ⟨t, T, fun _ => rfl, fun _ => z⟩
end Tm
namespace Tm
open PySem PySem.Spec PyProof.Rows L2
/-- a reading's rest, named -/
theorem via {P : VK → Prop} {Q : VK} (h : VK → Prop) (key : ∀ Q', h Q' → P Q') (a : h Q) : P Q := key Q a
end Tm

/-! Part 5: own classes as types; kinds and rules as data, and how they stand in the heap. -/
namespace Tm
open PySem PySem.Spec PyProof.Rows L2
/-! ### own classes in isinstance -/
structure OwnC (K : PySem.W.Frag) (C : Addr) : Prop where
  ha : PySem.W.findIn K (.ref C) "__class__" = some (some (.builtin "object.__class__"))
  hn : PySem.W.specialIn K (.builtin "object.__class__") "__get__" = some (some (.builtin "getset_descriptor.__get__"))
  htk : PySem.W.takesIn K (.builtin "object.__class__") = some true
  hm : PySem.W.mroIn K C (.type "object") = some true
  no : ∀ n, n = "int" ∨ n = "bool" ∨ n = "str" ∨ n = "list" ∨ n = "tuple" → PySem.W.kitOne K (.ref C) (.type n) = some false
theorem ownB_ok {K : PySem.W.Frag} {C : Addr} (h : ownB K C = true) : OwnC K C := by
  unfold ownB at h
  simp only [Bool.and_eq_true, decide_eq_true_eq, List.all_cons, List.all_nil, Bool.and_true] at h
  obtain ⟨h1, h2, h3, h4, k1, k2, k3, k4, k5⟩ := h
  refine ⟨He.eqO_ok h1, He.eqO_ok h2, h3, h4, ?_⟩
  rintro n (rfl | rfl | rfl | rfl | rfl) <;> assumption
theorem typ_ins {K : PySem.W.Frag} {H : Hp} {a C dx : Addr} {fs : List (Str × V)} (o : OwnC K C) (cl : Cls K C) (h : H a = some (.ins C dx fs)) : Typ K H (.ref a) (.ref C) := by
  refine ⟨.base (.ins h cl o.ha o.hn o.htk o.hm), fun n hn => ?_⟩
  rw [o.no n hn]
  have z : kb (.ref C) n = false := by simp [kb]
  rw [z]
theorem subB_ok {K : PySem.W.Frag} {C D : Addr} {b : Bool} (h : subB K C D b = true) : PySem.W.kitOne K (.ref C) (.ref D) = some b := of_decide_eq_true h
/-! ### data -/
inductive Fm where
  | still | anew | lift
  deriving DecidableEq
/-- a kind: its form, its name, the number (days, left, by), the top (of a lift), how often -/
structure Kd where
  fm : Fm
  name : Str
  a : Int
  b : Int
  times : Option Int
  deriving DecidableEq
/-- a rule -/
structure Rl where
  length : Int
  rests : List Int
  cap : Option Int
  kinds : List Kd
def tv : Option Int → V
  | none => .non
  | some n => .int n
def Kd.cls (K : PySem.W.Frag) (k : Kd) : Addr := match k.fm with
  | .still => He.ga K "Still"
  | .anew => He.ga K "Anew"
  | .lift => He.ga K "Lift"
def Kd.flds (k : Kd) : List (Str × V) := match k.fm with
  | .still => [("name", .str k.name), ("days", .int k.a), ("times", tv k.times)]
  | .anew => [("name", .str k.name), ("left", .int k.a), ("times", tv k.times)]
  | .lift => [("name", .str k.name), ("by", .int k.a), ("top", .int k.b), ("times", tv k.times)]
def KindAt (K : PySem.W.Frag) (H : Hp) (p : Addr) (k : Kd) : Prop := ∃ dx, H p = some (.ins (k.cls K) dx k.flds)
theorem KindAt.mono {K : PySem.W.Frag} {H H' : Hp} {p : Addr} {k : Kd} (h : KindAt K H p k) (s : Same H H') : KindAt K H' p k := by
  obtain ⟨dx, e⟩ := h
  exact ⟨dx, s _ _ e⟩
theorem Paired.imp {α β : Type} {F G : α → β → Prop} (f : ∀ a b, F a b → G a b) : ∀ {l : List α} {m : List β}, Paired F l m → Paired G l m
  | _, _, .nil => .nil
  | _, _, .cons h t => .cons (f _ _ h) (Paired.imp f t)
structure RuleAt (K : PySem.W.Frag) (H : Hp) (p : Addr) (R : Rl) : Prop where
  ex : ∃ (dx tr tk tn : Addr) (ps : List Addr), H p = some (.ins (He.ga K "Rule") dx [("length", .int R.length), ("rests", .ref tr), ("cap", tv R.cap), ("kinds", .ref tk), ("names", .ref tn)]) ∧
    SqT K H tr (R.rests.map V.int) ∧ SqT K H tk (ps.map V.ref) ∧ SqT K H tn (R.kinds.map fun k => V.str k.name) ∧ Paired (KindAt K H) ps R.kinds
theorem RuleAt.mono {K : PySem.W.Frag} {H H' : Hp} {p : Addr} {R : Rl} (h : RuleAt K H p R) (s : Same H H') : RuleAt K H' p R := by
  obtain ⟨dx, tr, tk, tn, ps, h1, h2, h3, h4, h5⟩ := h.ex
  exact ⟨dx, tr, tk, tn, ps, s _ _ h1, same_sqT s h2, same_sqT s h3, same_sqT s h4, Paired.imp (fun _ _ z => z.mono s) h5⟩
/-! ### a dict comprehension over a list or a tuple -/
theorem putK_keys (kvs : List (Key × V)) (k : Key) (v : V) (h : (kvs.map (·.1)).Nodup) : ((putK kvs k v).map (·.1)).Nodup ∧ ∀ x, x ∈ (putK kvs k v).map (·.1) ↔ x = k ∨ x ∈ kvs.map (·.1) := by
  unfold putK
  split
  · rename_i hc
    have e : (kvs.map fun kv => if kv.1 = k then (kv.1, v) else kv).map (·.1) = kvs.map (·.1) := by
      rw [List.map_map]
      apply List.map_congr_left
      intro q _
      simp only [Function.comp]
      split <;> rfl
    rw [e]
    refine ⟨h, fun x => ⟨fun z => .inr z, fun z => z.elim (fun z => ?_) id⟩⟩
    rw [List.any_eq_true] at hc
    obtain ⟨q, hq, eq⟩ := hc
    rw [z, ← of_decide_eq_true eq]
    exact List.mem_map_of_mem hq
  · rename_i hc
    rw [List.map_append]
    have hk : k ∉ kvs.map (·.1) := fun z => by
      apply hc
      obtain ⟨q, hq, eq⟩ := List.mem_map.mp z
      exact List.any_eq_true.mpr ⟨q, hq, decide_eq_true eq⟩
    refine ⟨List.nodup_append.mpr ⟨h, by simp, fun a ha b hb => ?_⟩, fun x => ?_⟩
    · simp only [List.map_cons, List.map_nil, List.mem_singleton] at hb
      subst hb
      exact fun e => hk (e ▸ ha)
    · simp only [List.map_cons, List.map_nil, List.mem_append, List.mem_singleton]
      exact ⟨fun z => z.elim .inr .inl, fun z => z.elim .inr .inl⟩
theorem mergeK_keys : ∀ (ps : List (Key × V)) (acc : List (Key × V)), (acc.map (·.1)).Nodup →
    ((mergeK acc ps).map (·.1)).Nodup ∧ ∀ x, x ∈ (mergeK acc ps).map (·.1) ↔ x ∈ acc.map (·.1) ∨ x ∈ ps.map (·.1)
  | [], acc, h => ⟨h, fun x => by simp [mergeK]⟩
  | y :: ps, acc, h => by
    obtain ⟨h1, h2⟩ := putK_keys acc y.1 y.2 h
    obtain ⟨h3, h4⟩ := mergeK_keys ps _ h1
    refine ⟨h3, fun x => ?_⟩
    show x ∈ (mergeK (putK acc y.1 y.2) ps).map (·.1) ↔ _
    rw [h4 x, h2 x, List.map_cons, List.mem_cons]
    constructor
    · rintro ((z | z) | z)
      · exact .inr (.inl z)
      · exact .inl z
      · exact .inr (.inr z)
    · rintro (z | z | z)
      · exact .inl (.inr z)
      · exact .inl (.inl z)
      · exact .inr z
theorem mergeK_len (ps : List (Key × V)) : (mergeK [] ps).length = ps.length ↔ (ps.map (·.1)).Nodup := by
  obtain ⟨h1, h2⟩ := mergeK_keys ps [] List.nodup_nil
  have z := nodup_iff (ns := ps.map (·.1)) h1 fun x => by
    rw [h2 x]
    simp
  rw [List.length_map, List.length_map] at z
  exact z
theorem putK_le (kvs : List (Key × V)) (k : Key) (v : V) : (putK kvs k v).length ≤ kvs.length + 1 := by
  unfold putK
  split <;> simp
theorem mergeK_le : ∀ (ps : List (Key × V)) (acc : List (Key × V)), (mergeK acc ps).length ≤ acc.length + ps.length
  | [], acc => by simp [mergeK]
  | y :: ps, acc => by
    have h1 := mergeK_le ps (putK acc y.1 y.2)
    have h2 := putK_le acc y.1 y.2
    show (mergeK (putK acc y.1 y.2) ps).length ≤ _
    simp only [List.length_cons]
    omega
section
variable {K : PySem.W.Frag} {a D : Addr} {xs : List V} {g : TG} {te tu tl : TE} {vs : List Nat} {σ : L2.St} {H : Hp} {Q : VK} {ps : List (Key × V)}
def DcInv (H : Hp) (D : Addr) (ps : List (Key × V)) (i : Nat) (H' : Hp) : Prop := Same H H' ∧ H' D = some (.dK (mergeK [] (ps.take i)))
theorem dc_P (hl : ∀ R : VK, R (.ref a) H → tl σ H R) (hS : Sq K H a xs) (hn : xs.length < sizeLine) (hp : ps.length = xs.length)
    (ht : ∀ (i : Nat) (x : V) (q : Key × V), xs[i]? = some x → ps[i]? = some q → ∀ H1, Same H H1 → ∀ R : V → V → Hp → Prop, (∀ H2, Same H1 H2 → R (kV q.1) q.2 H2) →
      g x (wipe σ vs) H1 fun σ2 H2 => wipe σ2 vs = wipe σ vs ∧ te σ2 H2 fun y H3 => tu σ2 H3 fun z H4 => R y z H4)
    (hd : ∀ D H', H D = none → Same H H' → H' D = some (.dK (mergeK [] ps)) → Q (.ref D) H') (hg : ∀ x τ H1 R R', (∀ τ' H', R τ' H' → R' τ' H') → g x τ H1 R → g x τ H1 R') : tDc (iSeq K tl) g tYes te tu vs σ H Q := by
  have start : ∀ D, H D = none → DcInv H D ps 0 (upd H D (.dK [])) := fun D hD => ⟨same_new hD, by rw [upd_same]; rfl⟩
  have turn : ∀ D, H D = none → ∀ i x H', xs[i]? = some x → DcInv H D ps i H' → g x (wipe σ vs) H' fun σ2 H2 => wipe σ2 vs = wipe σ vs ∧ tYes σ2 H2 fun b H3 =>
      if b = true then te σ2 H3 fun y H4 => tu σ2 H4 fun z H5 => ∃ kvs k, y = kV k ∧ H5 D = some (.dK kvs) ∧ kvs.length < sizeLine ∧ DcInv H D ps (i + 1) (upd H5 D (.dK (putK kvs k z))) else DcInv H D ps (i + 1) H3 := by
    intro D hD i x H' hx ⟨p1, p2⟩
    have hi : i < ps.length := by
      rw [hp]
      exact (List.getElem?_eq_some_iff.mp hx).1
    have ey : ps[i]? = some ps[i] := List.getElem?_eq_getElem hi
    refine hg _ _ _ _ _ (fun τ' H' z => ⟨z.1, z.2⟩) (ht i x _ hx ey H' p1 (fun y z H5 => ∃ kvs k, y = kV k ∧ H5 D = some (.dK kvs) ∧ kvs.length < sizeLine ∧ DcInv H D ps (i + 1) (upd H5 D (.dK (putK kvs k z)))) fun H5 s5 => ?_)
    refine ⟨_, ps[i].1, rfl, s5 _ _ p2, ?_, fun c o e => ?_, ?_⟩
    · have := mergeK_le (ps.take i) []
      have e : (ps.take i).length ≤ xs.length := by
        rw [List.length_take, hp]
        exact Nat.min_le_right _ _
      simp only [List.length_nil, Nat.zero_add] at this
      exact Nat.lt_of_le_of_lt (Nat.le_trans this e) hn
    · rw [upd_ne (ne_of_none e hD)]
      exact s5 _ _ (p1 _ _ e)
    · rw [upd_same, List.take_add_one, ey]
      unfold mergeK
      rw [List.foldl_append]
      rfl
  have whole : ∀ D H', DcInv H D ps xs.length H' → H' D = some (.dK (mergeK [] ps)) := fun D H' p => by
    have := p.2
    rwa [← hp, List.take_length] at this
  refine hl _ ⟨a, xs, rfl, hS, fun h D hD => ?_, fun h D hD => ?_⟩
  · refine ⟨fun i m H' => m = xs.length - i ∧ i ≤ xs.length ∧ DcInv H D ps i H', ⟨xs.length, by simp, Nat.zero_le _, start D hD⟩, ?_⟩
    rintro i m H' ⟨rfl, hi, p⟩
    have q : SqL K H' a xs := p.1.seq h
    by_cases hlt : i < xs.length
    · refine .inr ⟨⟨xs, xs[i], q, by simp [hlt]⟩, DcInv H D ps (i + 1), fun H2 p' => ⟨xs.length - (i + 1), by omega, rfl, hlt, p'⟩, fun x H2 y => ?_⟩
      obtain ⟨e, y⟩ := y
      subst e
      exact turn D hD i x _ (y xs q) p
    · have e : i = xs.length := by omega
      subst e
      exact .inl ⟨⟨xs, q, Nat.le_refl _⟩, hd D H' hD p.1 (whole D H' p)⟩
  · exact dc_tup (DcInv H D ps) (start D hD) (fun i H' _ p => same_sqT p.1 h) (fun i x H' hx p => turn D hD i x H' hx p) fun H' p => hd D H' hD p.1 (whole D H' p)
end
theorem paired_at {α β : Type} {F : α → β → Prop} : ∀ {l : List α} {m : List β}, Paired F l m → ∀ x ∈ l, ∃ y ∈ m, F x y
  | _, _, .nil, x, h => nomatch h
  | _, _, .cons q t, x, h => by
    rcases List.mem_cons.mp h with rfl | h
    · exact ⟨_, List.mem_cons_self .., q⟩
    · obtain ⟨y, hy, f⟩ := paired_at t x h
      exact ⟨y, List.mem_cons_of_mem _ hy, f⟩
theorem paired_ix {α β : Type} {F : α → β → Prop} : ∀ {l : List α} {m : List β}, Paired F l m → ∀ {i : Nat} {x : α} {y : β}, l[i]? = some x → m[i]? = some y → F x y
  | _, _, .nil, i, x, y, h, _ => by simp at h
  | _, _, .cons q t, 0, x, y, h, h' => by
    simp at h h'
    subst h h'
    exact q
  | _, _, .cons q t, i + 1, x, y, h, h' => paired_ix t (i := i) (by simpa using h) (by simpa using h')
theorem paired_len {α β : Type} {F : α → β → Prop} : ∀ {l : List α} {m : List β}, Paired F l m → l.length = m.length
  | _, _, .nil => rfl
  | _, _, .cons _ t => by
    rw [List.length_cons, List.length_cons, paired_len t]
end Tm

/-! Part K: rules whose readings speak of the written part, the written part given by name. -/
namespace Tm
open PySem PySem.Spec PyProof.Rows L2
section
variable {X : Cx} (K : PySem.W.Frag)
theorem k_fld {e : Expr} {f : Str} {pos : Pos} {ta : TE} (he : PE X e ta) (hb : attributeBase e f X.env (eval e X.env) = eval e X.env) (hK : X.K = K := by rfl) : PE X (.Attribute e f pos) (tFld K ta f) := by
  subst hK; exact pe_fld he hb
theorem k_isi (hK : X.K = K := by rfl) : CallR X (.builtin "isinstance") (rIsi K) := by subst hK; exact call_isi
theorem k_isiT (hK : X.K = K := by rfl) : CallR X (.builtin "isinstance") (rIsiT K) := by subst hK; exact call_isiT
def rLn (K : PySem.W.Frag) : List V → Hp → VK → Prop := fun xs H Q => ∃ x n, xs = [x] ∧ LenV K x H n ∧ Q (.int n) H
theorem k_len (hK : X.K = K := by rfl) : CallR X (.builtin "len") (rLn K) := by subst hK; exact call_len
def rLenQ (K : PySem.W.Frag) : List V → Hp → VK → Prop := fun xs H Q => ∃ p ys, xs = [.ref p] ∧ Sq K H p ys ∧ Q (.int ys.length) H
theorem k_lenQ (hK : X.K = K := by rfl) : CallR X (.builtin "len") (rLenQ K) := by subst hK; exact call_len_seq
def rList (K : PySem.W.Frag) : List V → Hp → VK → Prop := fun xs H Q => ∃ p ys, xs = [.ref p] ∧ (SqL K H p ys ∨ SqT K H p ys) ∧ ∀ l, H l = none → Q (.ref l) (upd H l (.lst ys))
theorem k_list (hK : X.K = K := by rfl) : CallR X (.type "list") (rList K) := by subst hK; exact call_list_of
def rTuple (K : PySem.W.Frag) : List V → Hp → VK → Prop := fun xs H Q => ∃ p ys, xs = [.ref p] ∧ ((SqL K H p ys ∧ ∀ l, H l = none → Q (.ref l) (upd H l (.tup ys))) ∨ (SqT K H p ys ∧ Q (.ref p) H))
theorem k_tuple (hK : X.K = K := by rfl) : CallR X (.type "tuple") (rTuple K) := by subst hK; exact call_tuple_of
theorem k_all (hc : X.calm = true := by rfl) (hK : X.K = K := by rfl) : CallR X (.builtin "all") (rAll K) := by subst hK; exact cr_all hc
theorem k_any (hc : X.calm = true := by rfl) (hK : X.K = K := by rfl) : CallR X (.builtin "any") (rAny K) := by subst hK; exact cr_any hc
theorem k_sum (hc : X.calm = true := by rfl) (hK : X.K = K := by rfl) : CallR X (.builtin "sum") (rSum K) := by subst hK; exact cr_sum hc
theorem k_max (hc : X.calm = true := by rfl) (hK : X.K = K := by rfl) : CallR X (.builtin "max") (rMax K) := by subst hK; exact cr_max hc
theorem k_min (hc : X.calm = true := by rfl) (hK : X.K = K := by rfl) : CallR X (.builtin "min") (rMin K) := by subst hK; exact cr_min hc
theorem k_sorted (hK : X.K = K := by rfl) : CallR X (.builtin "sorted") (rSortedI K) := by subst hK; exact cr_sortedI
theorem k_sortedS (hK : X.K = K := by rfl) : CallR X (.builtin "sorted") (rSortedS K) := by subst hK; exact cr_sortedS
theorem k_ixL (hK : X.K = K := by rfl) : IxR X (rIxL K) := by subst hK; exact ix_list
theorem k_ixT (hK : X.K = K := by rfl) : IxR X (rIxT K) := by subst hK; exact ix_tup
theorem k_ix (hK : X.K = K := by rfl) : IxR X (rIx K) := by subst hK; exact ix_seq
theorem k_slL (hK : X.K = K := by rfl) : SlR X (rSlL K) := by subst hK; exact sl_list
theorem k_slT (hK : X.K = K := by rfl) : SlR X (rSlT K) := by subst hK; exact sl_tup
theorem k_in (hK : X.K = K := by rfl) : OpR X (compareOp .In) (rIn K false) := by subst hK; exact op_in_seq
theorem k_notin (hK : X.K = K := by rfl) : OpR X (compareOp .NotIn) (rIn K true) := by subst hK; exact op_notIn_seq
theorem k_eqD (hu : X.A.units + 64 < cLine) (hK : X.K = K := by rfl) : OpR X (compareOp .Eq) (rEqD K) := by subst hK; exact op_eqD hu
theorem k_neD (hu : X.A.units + 64 < cLine) (hK : X.K = K := by rfl) : OpR X (compareOp .NotEq) (rNeD K) := by subst hK; exact op_neD hu
theorem k_piL {tg l : Expr} {tl : TE} (hl : PE X l tl) (hK : X.K = K := by rfl) : PI X tg l (iList K tl) := by subst hK; exact pi_list hl
theorem k_piT {tg l : Expr} {tl : TE} (hl : PE X l tl) (hK : X.K = K := by rfl) : PI X tg l (iTup K tl) := by subst hK; exact pi_tup hl
theorem k_piQ {tg l : Expr} {tl : TE} (hl : PE X l tl) (hK : X.K = K := by rfl) : PI X tg l (iSeq K tl) := by subst hK; exact pi_seq hl
theorem k_bm0 {T : String} {name : Str} {id : String} {o : Expr} {to : TE} {r : V → List V → Hp → VK → Prop} {apos cpos : Pos} (pa : PlainAttrs T) (slot : Slot T name id) (hty : typeOf (.builtin id) = pure (.type "method_descriptor")) (hm : MtR X id r) (ho : PE X o to)
    (hbase : attributeBase o name X.env (eval o X.env) = eval o X.env := by rfl) (hline : (apos.endLine == cpos.line) = true := by rfl) (hK : X.K = K := by rfl) : PE X (.Call (.Attribute o name apos) [] [] cpos) (tBM0 K T r to) := by
  subst hK; exact pe_bm0 pa slot hty hm ho hbase hline
theorem k_bm {T : String} {name : Str} {id : String} {o e : Expr} {es : List Expr} {to : TE} {t : TA} {r : V → List V → Hp → VK → Prop} {apos cpos : Pos} (pa : PlainAttrs T) (slot : Slot T name id) (hty : typeOf (.builtin id) = pure (.type "method_descriptor")) (hm : MtR X id r)
    (ho : PE X o to) (ha : PA X (e :: es) t) (hbase : attributeBase o name X.env (eval o X.env) = eval o X.env := by rfl)
    (hfew : ((backTo cpos (starEach (e :: es) X.env)).all (fun x => !x.1) && (backToKw cpos (keywordEach [] X.env)).all (fun x => x.1.isSome)
      && decide ((e :: es).length + ([] : List Keyword).length + (if ([] : List Keyword).isEmpty then 0 else 1) < 30)) = true := by rfl)
    (hline : (apos.endLine == cpos.line) = true := by rfl) (hs : starEach (e :: es) X.env = (false, eval e X.env) :: starEach es X.env := by rfl) (hplain : (backTo cpos (starEach es X.env)).any (·.1) = false := by rfl)
    (hK : X.K = K := by rfl) : PE X (.Call (.Attribute o name apos) (e :: es) [] cpos) (tBM K T r to t) := by
  subst hK; exact pe_bm pa slot hty hm ho ha hbase hfew hline hs hplain
theorem k_star {e : Expr} {es : List Expr} {p : Pos} {te : TE} {t : TA} (he : PE X e te) (hr : PA X es t) (hs : starEach (.Starred e p :: es) X.env = (true, eval e X.env) :: starEach es X.env := by rfl) (hK : X.K = K := by rfl) :
    PA X (.Starred e p :: es) (StX.tStar K te t) := by
  subst hK; exact StX.pa_star he hr hs
def tTruth (K : PySem.W.Frag) (ta : TE) : TT := fun σ H Q => ta σ H fun x H' => ∃ k, TruV K x H' k ∧ Q k H'
theorem k_truth {a : Expr} {ta : TE} (ha : PE X a ta) (he : ∀ whole, isTrue a X.env whole = (do let v ← whole; standAt a.pos; holding [v] (truthy v)) := by intro _; rfl) (hK : X.K = K := by rfl) : PT X a (tTruth K ta) := by
  subst hK; exact pt_truth ha he
theorem k_enum {e : Expr} {ta : TA} {p pos tpos : Pos} {elts : List Expr} {kk : Nat} (hm : X.mg "enumerate" = none) (ha : PA X [e] ta) (hg : Gl X "enumerate" := by rfl) (hs : starEach [e] X.env = [(false, eval e X.env)] := by rfl) (hK : X.K = K := by rfl) :
    PI X (.Tuple elts kk tpos) (.Call (.Name "enumerate" p) [e] [] pos) (iEnum K ta) := by
  subst hK; exact pi_enum hg hm ha hs
def rJoin (K : PySem.W.Frag) : V → List V → Hp → VK → Prop := fun x xs H Q => ∃ a p, ∃ ys : List Str, x = .str a ∧ xs = [.ref p] ∧ (SqL K H p (ys.map V.str) ∨ SqT K H p (ys.map V.str)) ∧ (ys.map (·.length)).sum + ys.length * a.length ≤ 16777216 ∧ Q (.str (Txt.join a ys)) H
theorem k_join {o e : Expr} {to te : TE} {apos pos : Pos} (ho : PE X o to) (he : PE X e te) (hs : starEach [e] X.env = [(false, eval e X.env)] := by rfl) (hbase : attributeBase o "join" X.env (eval o X.env) = eval o X.env := by rfl)
    (hline : (apos.endLine == pos.line) = true := by rfl) (hK : X.K = K := by rfl) : PE X (.Call (.Attribute o "join" apos) [e] [] pos) (tM1 (rJoin K) to te) := by
  subst hK; exact pe_join ho he hs hbase hline
end
end Tm

/-! Mathematics: the first working day. -/
namespace Tm
/-- how many days a day is put off, at most n -/
def gapN (rs : List Int) (d : Int) : Nat → Nat
  | 0 => 0
  | n + 1 => if d % 7 ∈ rs then 1 + gapN rs (d + 1) n else 0
def gap (rs : List Int) (d : Int) : Nat := gapN rs d 7
def workD (rs : List Int) (d : Int) : Int := d + (gap rs d : Int)
theorem gapN_le (rs : List Int) : ∀ (n : Nat) (d : Int), gapN rs d n ≤ n
  | 0, _ => Nat.le_refl _
  | n + 1, d => by
    unfold gapN
    split
    · have := gapN_le rs n (d + 1)
      omega
    · omega
theorem gapN_in (rs : List Int) : ∀ (n : Nat) (d : Int) (j : Nat), j < gapN rs d n → (d + (j : Int)) % 7 ∈ rs
  | 0, d, j, h => by
    unfold gapN at h
    omega
  | n + 1, d, j, h => by
    unfold gapN at h
    split at h
    · rename_i hm
      cases j with
      | zero => simpa using hm
      | succ j =>
        have := gapN_in rs n (d + 1) j (by omega)
        have e : d + ((j + 1 : Nat) : Int) = d + 1 + (j : Int) := by omega
        rw [e]
        exact this
    · omega
theorem gapN_at (rs : List Int) : ∀ (n : Nat) (d : Int), gapN rs d n < n → (d + (gapN rs d n : Int)) % 7 ∉ rs
  | 0, d, h => by omega
  | n + 1, d, h => by
    unfold gapN at h ⊢
    split
    · rename_i hm
      rw [if_pos hm] at h
      have := gapN_at rs n (d + 1) (by omega)
      have e : d + ((1 + gapN rs (d + 1) n : Nat) : Int) = d + 1 + (gapN rs (d + 1) n : Int) := by omega
      rw [e]
      exact this
    · rename_i hm
      simpa using hm
theorem week_nodup (d : Int) : ((List.range 7).map fun (j : Nat) => (d + (j : Int)) % 7).Nodup := by
  unfold List.Nodup
  rw [List.pairwise_map]
  refine List.Pairwise.imp_of_mem ?_ (List.nodup_range (n := 7))
  intro a b ha hb hne
  simp only [List.mem_range] at ha hb
  omega
theorem gap_lt {rs : List Int} (h : rs.length ≤ 6) (d : Int) : gap rs d < 7 := by
  rcases Nat.lt_or_ge (gap rs d) 7 with z | z
  · exact z
  · exfalso
    have e : gapN rs d 7 = 7 := Nat.le_antisymm (gapN_le rs 7 d) z
    have : ((List.range 7).map fun (j : Nat) => (d + (j : Int)) % 7).length ≤ rs.length := nodup_le (week_nodup d) fun x hx => by
      obtain ⟨j, hj, rfl⟩ := List.mem_map.mp hx
      exact gapN_in rs 7 d j (by rw [e]; exact List.mem_range.mp hj)
    simp only [List.length_map, List.length_range] at this
    omega
theorem gap_in {rs : List Int} {d : Int} {j : Nat} (h : j < gap rs d) : (d + (j : Int)) % 7 ∈ rs := gapN_in rs 7 d j h
theorem gap_at {rs : List Int} (h : rs.length ≤ 6) (d : Int) : (d + (gap rs d : Int)) % 7 ∉ rs := gapN_at rs 7 d (gap_lt h d)
/-- the first working day is told by two facts -/
theorem gap_uniq {rs : List Int} (h : rs.length ≤ 6) {d : Int} {m : Nat} (h1 : ∀ j : Nat, j < m → (d + (j : Int)) % 7 ∈ rs) (h2 : (d + (m : Int)) % 7 ∉ rs) : m = gap rs d := by
  rcases Nat.lt_trichotomy m (gap rs d) with z | z | z
  · exact absurd (gap_in z) h2
  · exact z
  · exact absurd (h1 _ z) (gap_at h d)
theorem work_ge (rs : List Int) (d : Int) : d ≤ workD rs d := by
  unfold workD
  omega
theorem work_week {rs : List Int} (h : rs.length ≤ 6) (d : Int) (m : Int) : workD rs (d + 7 * m) = workD rs d + 7 * m := by
  have e : gap rs d = gap rs (d + 7 * m) := gap_uniq h (fun j hj => by
    have := gap_in hj
    have e : (d + 7 * m + (j : Int)) % 7 = (d + (j : Int)) % 7 := by omega
    rw [e]
    exact this) (by
    have := gap_at h d
    have e : (d + 7 * m + (gap rs d : Int)) % 7 = (d + (gap rs d : Int)) % 7 := by omega
    rw [e]
    exact this)
  unfold workD
  rw [← e]
  omega
theorem work_self {rs : List Int} {d : Int} (h : d % 7 ∉ rs) : workD rs d = d := by
  unfold workD gap gapN
  rw [if_neg h]
  simp
theorem work_idem {rs : List Int} (h : rs.length ≤ 6) (d : Int) : workD rs (workD rs d) = workD rs d := work_self (gap_at h d)
end Tm

/-! Part 6: a list beside an empty one; the stream of draws. -/
namespace Tm
open PySem PySem.Spec PyProof.Rows L2
/-- a plain value that can be compared -/
def layV : V → Bool
  | .non => true
  | .bl _ => true
  | .int _ => true
  | .str z => PyData.strOk z
  | _ => false
def datV : V → PyData
  | .bl b => .bool b
  | .int i => .int i
  | .str z => .str z
  | _ => .none
theorem dp_flat {K : PySem.W.Frag} {H : Hp} : ∀ {x : V}, layV x = true → Dp K H x (datV x)
  | .non, _ => .non
  | .bl b, _ => .bl b
  | .int i, _ => .int i
  | .str z, _ => .str z
theorem dpAll_flat {K : PySem.W.Frag} {H : Hp} : ∀ {xs : List V}, xs.all layV = true → DpAll K H xs (xs.map datV)
  | [], _ => .nil
  | x :: xs, h => by
    rw [List.all_cons, Bool.and_eq_true] at h
    exact .cons (dp_flat h.1) (dpAll_flat h.2)
theorem lay_flat : ∀ {xs : List V}, xs.all layV = true → PyData.canLayAll0 (xs.map datV) = true ∧ PyData.depthAll (xs.map datV) = 0
  | [], _ => ⟨rfl, rfl⟩
  | x :: xs, h => by
    rw [List.all_cons, Bool.and_eq_true] at h
    obtain ⟨h1, h2⟩ := lay_flat h.2
    have z : PyData.canLay0 (datV x) = true ∧ PyData.depth (datV x) = 0 := by
      cases x with
      | non => exact ⟨by simp [datV, PyData.canLay0], by simp [datV, PyData.depth]⟩
      | bl b => exact ⟨by simp [datV, PyData.canLay0], by simp [datV, PyData.depth]⟩
      | int i => exact ⟨by simp [datV, PyData.canLay0], by simp [datV, PyData.depth]⟩
      | str z => exact ⟨by simp only [datV, PyData.canLay0]; exact h.1, by simp [datV, PyData.depth]⟩
      | _ => exact absurd h.1 Bool.false_ne_true
    constructor
    · rw [List.map_cons]
      simp only [PyData.canLayAll0, z.1, h1, Bool.and_self]
    · rw [List.map_cons]
      simp only [PyData.depthAll, z.2, h2, Nat.max_self]
theorem shaped_flat {xs : List V} (h : xs.all layV = true) : SeqAt.shaped (.list (xs.map datV)) = true := by
  obtain ⟨h1, h2⟩ := lay_flat h
  unfold SeqAt.shaped
  simp only [PyData.canLay0, PyData.depth, h1, h2]
  decide
theorem eqv_nil (ds : List PyData) : PyData.eqv (.list ds) (.list []) = ds.isEmpty := by
  cases ds <;> simp [PyData.eqv, PyData.eqvAll]
/-- xs != [], the items plain -/
def rNeNil (K : PySem.W.Frag) : R2 := fun x y H Q => ∃ p q xs, x = .ref p ∧ y = .ref q ∧ SqL K H p xs ∧ xs.all layV = true ∧ H q = some (.lst []) ∧ Q (.bl (!xs.isEmpty)) H
theorem op_neNil {X : Cx} (K : PySem.W.Frag) (hu : X.A.units + 64 < cLine) (hK : X.K = K := by rfl) : OpR X (compareOp .NotEq) (rNeNil K) := by
  subst hK
  intro pins s σ H x y v u Q I rx ry h
  obtain ⟨p, q, xs, rfl, rfl, hp, hl, hq, k⟩ := h
  refine op_neD hu pins s σ H _ _ v u Q I rx ry ⟨_, _, .lst hp (dpAll_flat hl), .lst (.inl (.inl hq)) .nil, shaped_flat hl, by decide +kernel, ?_⟩
  rw [eqv_nil]
  cases xs <;> exact k
theorem lay_ints (ns : List Int) : (ns.map V.int).all layV = true := by
  rw [List.all_eq_true]
  intro y hy
  obtain ⟨i, _, rfl⟩ := List.mem_map.mp hy
  rfl
theorem k_rev {X : Cx} (K : PySem.W.Frag) {e : Expr} {te : TE} {k : Nat} {p1 p2 p3 pos : Pos} (he : PE X e te) (hK : X.K = K := by rfl) : PE X (.Subscript e (.Slice none none (some (.UnaryOp .USub (.Constant (.int 1) k p1) p2)) p3) pos) (tRevL K te) := by
  subst hK
  exact pe_revL he
theorem nil_or_snoc {α : Type} (l : List α) : l = [] ∨ ∃ L b, l = L ++ [b] := by
  rcases List.eq_nil_or_concat l with h | ⟨L, b, h⟩
  · exact .inl h
  · exact .inr ⟨L, b, by rw [h, List.concat_eq_append]⟩
section
variable {K : PySem.W.Frag}
/-- what stands at x may change, nothing else -/
theorem off_upd {H H' : Hp} {x : Addr} {o : HO} (h : Off x H H') : Off x H (upd H' x o) := fun b u hb e => by
  rw [upd_ne hb]
  exact h b u hb e
theorem off_same {H H1 H2 : Hp} {x : Addr} (h : Off x H H1) (s : Same H1 H2) : Off x H H2 := fun b u hb e => s _ _ (h b u hb e)
theorem off_trans {H H1 H2 : Hp} {x : Addr} (h : Off x H H1) (s : Off x H1 H2) : Off x H H2 := fun b u hb e => s b u hb (h b u hb e)
theorem sq_off {H H' : Hp} {a x : Addr} {xs : List V} {C dx : Addr} {fs : List (Str × V)} (hx : H x = some (.ins C dx fs)) (h : Sq K H a xs) (o : Off x H H') : Sq K H' a xs := by
  have ne : ∀ u, H a = some u → (∀ ys, u ≠ .ins C dx ys) → H' a = some u := fun u e hu => o a u (fun z => by subst z; rw [hx] at e; cases e; exact hu fs rfl) e
  rcases h with ((h | ⟨ob, h⟩) | h) | ((h | ⟨ob, h⟩) | h)
  · exact .inl (.inl (.inl (ne _ h fun _ z => by cases z)))
  · exact .inl (.inl (.inr ⟨ob, ne _ h fun _ z => by cases z⟩))
  · exact .inl (.inr h)
  · exact .inr (.inl (.inl (ne _ h fun _ z => by cases z)))
  · exact .inr (.inl (.inr ⟨ob, ne _ h fun _ z => by cases z⟩))
  · exact .inr (.inr h)
end
/-! ### the stream: a list of great numbers and a mixed one -/
def DealG (H : Hp) (d g : Addr) (gs : List Int) : Prop := ∃ m : Int, H d = some (.lst [.ref g, .int m]) ∧ H g = some (.lst (gs.map V.int)) ∧ gs.length ≤ 60 ∧ (∀ x ∈ gs, 0 ≤ x) ∧ 0 ≤ m
def Deal (H : Hp) (d g : Addr) : Prop := ∃ gs, DealG H d g gs
/-- what is apart from the stream -/
def Apart (d g b : Addr) : Prop := b ≠ d ∧ b ≠ g
/-- all but the stream stays -/
def But (d g : Addr) (H H' : Hp) : Prop := ∀ b o, Apart d g b → H b = some o → H' b = some o
theorem But.refl {d g : Addr} (H : Hp) : But d g H H := fun _ _ _ h => h
theorem But.trans {d g : Addr} {H H1 H2 : Hp} (a : But d g H H1) (b : But d g H1 H2) : But d g H H2 := fun c o n h => b c o n (a c o n h)
theorem But.same {d g : Addr} {H H1 : Hp} (s : Same H H1) : But d g H H1 := fun _ _ _ h => s _ _ h
theorem Deal.same {d g : Addr} {H H1 : Hp} (h : Deal H d g) (s : Same H H1) : Deal H1 d g := by
  obtain ⟨gs, m, h1, h2, h3⟩ := h
  exact ⟨gs, m, s _ _ h1, s _ _ h2, h3⟩
theorem DealG.ne {d g : Addr} {H : Hp} {gs : List Int} (h : DealG H d g gs) : d ≠ g := by
  obtain ⟨m, h1, h2, _⟩ := h
  refine ne_of h1 h2 ?_
  intro z
  injection z with z
  cases gs with
  | nil => cases z
  | cons a l => cases z
theorem Deal.new {d g p : Addr} {H : Hp} (h : Deal H d g) (hp : H p = none) : Apart d g p := by
  obtain ⟨gs, m, h1, h2, _⟩ := h
  exact ⟨(ne_of_none h1 hp).symm, (ne_of_none h2 hp).symm⟩
theorem Deal.apart {d g p : Addr} {H : Hp} {o : HO} (h : Deal H d g) (hp : H p = some o) (ho : ∀ xs, o ≠ .lst xs) : Apart d g p := by
  obtain ⟨gs, m, h1, h2, _⟩ := h
  exact ⟨ne_of hp h1 (ho _), ne_of hp h2 (ho _)⟩
/-- another object of ours changes -/
theorem Deal.put {d g p : Addr} {H : Hp} {o : HO} (h : Deal H d g) (a : Apart d g p) : Deal (upd H p o) d g := by
  obtain ⟨gs, m, h1, h2, h3⟩ := h
  exact ⟨gs, m, by rw [upd_ne a.1.symm]; exact h1, by rw [upd_ne a.2.symm]; exact h2, h3⟩
theorem but_new {d g p : Addr} {H H' : Hp} {o : HO} (b : But d g H H') (hp : H p = none) : But d g H (L2.upd H' p o) := fun c u n e => by
  rw [upd_ne (ne_of_none e hp)]
  exact b c u n e
theorem sqT_but {K : PySem.W.Frag} {d g a : Addr} {H H' : Hp} {xs : List V} (D : Deal H d g) (b : But d g H H') (h : SqT K H a xs) : SqT K H' a xs := by
  rcases h with (h | ⟨o, h⟩) | h
  · exact .inl (.inl (b _ _ (D.apart h fun _ z => by cases z) h))
  · exact .inl (.inr ⟨o, b _ _ (D.apart h fun _ z => by cases z) h⟩)
  · exact .inr h
theorem KindAt.but {K : PySem.W.Frag} {d g p : Addr} {H H' : Hp} {k : Kd} (D : Deal H d g) (b : But d g H H') (h : KindAt K H p k) : KindAt K H' p k := by
  obtain ⟨dx, e⟩ := h
  exact ⟨dx, b _ _ (D.apart e fun _ z => by cases z) e⟩
theorem RuleAt.but {K : PySem.W.Frag} {d g p : Addr} {H H' : Hp} {R : Rl} (D : Deal H d g) (b : But d g H H') (h : RuleAt K H p R) : RuleAt K H' p R := by
  obtain ⟨dx, tr, tk, tn, ps, h1, h2, h3, h4, h5⟩ := h.ex
  exact ⟨dx, tr, tk, tn, ps, b _ _ (D.apart h1 fun _ z => by cases z) h1, sqT_but D b h2, sqT_but D b h3, sqT_but D b h4, Paired.imp (fun _ _ z => z.but D b) h5⟩
end Tm

/-! Part 8: own __len__, __str__, __eq__ by the built-in functions and operators. -/
namespace Tm
open PySem PySem.Spec PyProof.Rows L2
section
variable {X : Cx} {CX : CXT} {k : Nat} {f : Addr} {sp : Sp} {E : XK} {pins : List (Addr × Obj)} {σ : L2.St} {H : Hp} {s : Shared} {Q : VK}
/-- a def called from within the machine, around A' -/
theorem own_call {A' : Around} {us : List Value} {vs : List V} (hfr : A'.frames = X.A.frames) (D : Dn X.prog X.w X.K X.mg X.base CX k f [] sp) (hr : Room k A') (hx : Passes CX X E) (I : Inv X pins σ H s) (r : Vals vs us) (h : sp vs H Q E) :
    wpAny (model X.prog X.w) A' (call (.ref f) us) (EP X pins σ Q) X.xe s := by
  obtain ⟨fd, ps, ds, F, kp, rd, b⟩ := D.ex
  cases rd
  have e0 : Env0 X.prog X.w X.K X.mg X.base A' X.stack s H := by
    have e := I.env0
    exact ⟨by rw [hfr]; exact e.frames, e.mod, e.bs, e.bsz, e.funs, e.frf, e.hok, e.bare⟩
  have hl := F.len _ _ _ _ h
  have hb : BindsTo s fd ⟨us, []⟩ (ps.zip us) := by
    have := b s us I.kIn (by rw [List.append_nil, ← r.length]; exact hl)
    rwa [List.append_nil] at this
  refine wpAny_call (codeAny_mono (F.run A' X.stack s H ⟨us, []⟩ us vs Q E hr e0 hb r h) fun res s' hq => ?_)
  cases res with
  | error e => exact hx pins σ H s e s' I hq
  | ok fl =>
    cases fl with
    | ret u => exact I.after hq
    | next => exact False.elim hq
    | brk => exact False.elim hq
    | cont => exact False.elim hq
/-- an own special method of a class -/
structure Spm (K : PySem.W.Frag) (C : Addr) (m : Str) (f : Addr) : Prop where
  at_ : PySem.W.findIn K (.ref C) m = some (some (.ref f))
  fn : PySem.W.isFn K (.ref f) = true
theorem spm_of {K : PySem.W.Frag} {C f : Addr} {m : Str} (h : Meth K C m f) : Spm K C m f := ⟨h.at_, h.fn⟩
def rLenOwn (C : Addr) (sp : Sp) (E : XK) : List V → Hp → VK → Prop := fun xs H Q => ∃ a dx fs, xs = [.ref a] ∧ H a = some (.ins C dx fs) ∧ sp [.ref a] H (fun v H' => ∃ n : Int, v = .int n ∧ 0 ≤ n ∧ n < 2 ^ 63 ∧ Q (.int n) H') E
theorem call_lenOwn {C : Addr} (m : Spm X.K C "__len__" f) (D : Dn X.prog X.w X.K X.mg X.base CX k f [] sp) (hr : Room (k + 1) X.A) (hx : Passes CX X E) : CallR X (.builtin "len") (rLenOwn C sp E) := by
  intro pins s σ H xs us Q I r h
  obtain ⟨a, dx, fs, rfl, ha, q⟩ := h
  cases r with
  | cons r1 rr =>
    cases rr
    cases r1
    obtain ⟨mA, J, _⟩ := ins_get I.hok ha
    obtain ⟨od, J, _⟩ := J.look
    obtain ⟨mm, hF⟩ := I.fr
    refine PySem.W.len_K hF I.ok.mod.kin J m.at_ m.fn (wpAny_mono (own_call (A' := X.A.in1) rfl D hr.in1 hx I (vs := [.ref a]) (.cons (show RelV (.ref a) (Value.ref a) from rfl) .nil) q) (fun u s' z => ?_) fun _ _ y => y)
    obtain ⟨v, H', I', rv, n, rfl, n0, n1, q'⟩ := z
    obtain ⟨t, rfl⟩ := rv
    exact ⟨⟨n0, n1⟩, .int n, H', I'.tok _, ⟨_, rfl⟩, q'⟩
def rStrOwn (C : Addr) (sp : Sp) (E : XK) : List V → Hp → VK → Prop := fun xs H Q => ∃ a dx fs, xs = [.ref a] ∧ H a = some (.ins C dx fs) ∧ sp [.ref a] H (fun v H' => ∃ z : Str, v = .str z ∧ Q (.str z) H') E
theorem call_strOwn {C : Addr} (m : Spm X.K C "__str__" f) (D : Dn X.prog X.w X.K X.mg X.base CX k f [] sp) (hr : Room (k + 2) X.A) (hx : Passes CX X E) : CallR X (.type "str") (rStrOwn C sp E) := by
  intro pins s σ H xs us Q I r h
  obtain ⟨a, dx, fs, rfl, ha, q⟩ := h
  cases r with
  | cons r1 rr =>
    cases rr
    cases r1
    obtain ⟨mA, J, _⟩ := ins_get I.hok ha
    obtain ⟨od, J, _⟩ := J.look
    refine PySem.W.kso_call hr.in1.in1.units0 I.kIn J m.at_ m.fn (wpAny_mono (own_call (A' := X.A.in1.in1) rfl D hr.in1.in1 hx I (vs := [.ref a]) (.cons (show RelV (.ref a) (Value.ref a) from rfl) .nil) q) (fun u s' z => ?_) fun _ _ y => y)
    obtain ⟨v, H', I', rv, z, rfl, q'⟩ := z
    obtain ⟨t, rfl⟩ := rv
    exact ⟨.str z, H', I', ⟨_, rfl⟩, q'⟩
/-- x == y by x's own __eq__ that tells a bool; y of the type t, which does not come first -/
def rEqOwn (K : PySem.W.Frag) (C : Addr) (sp : Sp) (E : XK) (neg : Bool) : R2 := fun x y H Q => ∃ a dx fs t, x = .ref a ∧ H a = some (.ins C dx fs) ∧ TyX K H y t ∧ PySem.W.notFirst K C t = true ∧
  sp [x, y] H (fun v H' => ∃ b : Bool, v = .bl b ∧ Q (.bl (if neg then !b else b)) H') E
theorem looks_ty {x : V} {u t : Value} (I : Inv X pins σ H s) (rx : RelV x u) (ty : TyX X.K H x t) : PySem.W.Looks (model X.prog X.w) s.heap (typeOf u) t := by
  obtain ⟨P, Z, p, _⟩ := kit_of I rx ty
  exact Z.ty _ _ I.kIn p
theorem op_eqOwn {C : Addr} (K : PySem.W.Frag) (m : Spm X.K C "__eq__" f) (D : Dn X.prog X.w X.K X.mg X.base CX k f [] sp) (hr : Room k X.A) (hx : Passes CX X E) (hK : X.K = K := by rfl) : OpR X (compareOp .Eq) (rEqOwn K C sp E false) := by
  subst hK
  intro pins s σ H x y v u Q I rx ry h
  obtain ⟨a, dx, fs, t, rfl, ha, ty, nf, q⟩ := h
  cases rx
  obtain ⟨mA, J, _⟩ := ins_get I.hok ha
  obtain ⟨od, J, _⟩ := J.look
  obtain ⟨mm, hF⟩ := I.fr
  show wpAny (model X.prog X.w) X.A (richCompare .Eq (.ref a) u) (EP X pins σ Q) X.xe s
  refine PySem.W.cmp_K (op := .Eq) hr.units0 hF I.ok.mod.kin J (looks_ty I ry ty) nf m.at_ m.fn (wpAny_mono (own_call (A' := X.A) rfl D hr hx I (vs := [.ref a, y]) (.cons (show RelV (.ref a) (Value.ref a) from rfl) (.cons ry .nil)) q) (fun w' s' z => ?_) fun _ _ e => e)
  obtain ⟨v', H', I', rv, b, rfl, q'⟩ := z
  cases rv
  exact ⟨.bl b, H', I', rfl, q'⟩
/-- object.__ne__ of an instance with its own __eq__ -/
theorem ne_entry {A : Around} {K : PySem.W.Frag} {x C : Addr} {ox : Obj} {od : Option Obj} {b : Value} {P : Fin → Shared → Prop} {E : Value → Shared → Prop} {P0 : Program} {w : World} (hu : A.units < cLine) (hK : K.In s.heap) (I : PySem.W.InstAt s.heap x ox C od) (m : Spm K C "__eq__" f)
    (hc : wpAny (model P0 w) A (call (.ref f) [.ref x, b]) (fun v s' => ∃ c, v = .bool c ∧ P (.done (.ret (.bool (!c)))) s') E s) : wpAny (model P0 w) A (Builtin.«object.__ne__» ⟨[.ref x, b], []⟩) P E s := by
  unfold Builtin.«object.__ne__»
  repeat (first
    | with_reducible refine wpAny_cRoomFor hu ?_
    | (refine wpAny_bind (m := callSpecialIfBound? (.ref x) (Str.ofString "__eq__") [b]) (PySem.W.ifBound_K hK I m.at_ m.fn (wpAny_mono hc (fun r s' hr => by
          obtain ⟨c, rfl, hq⟩ := hr
          repeat (first | exact hq | exact wpAny_pure hq | exact wpAny_truthy_bool hq | (refine wpAny_bind (m := truthy (.bool _)) (wpAny_truthy_bool ?_)) | wp_step)) fun _ _ e => e)))
    | wp_step)
/-- what a class that has its own __eq__ says of __ne__ -/
structure NeC (K : PySem.W.Frag) (C : Addr) : Prop where
  ne : PySem.W.findIn K (.ref C) "__ne__" = some (some (.builtin "object.__ne__"))
  ob : PySem.W.mroIn K C (.type "object") = some true
theorem ne_try {A : Around} {K : PySem.W.Frag} {x C : Addr} {ox : Obj} {od : Option Obj} {b : Value} {P : Option Value → Shared → Prop} {E : Value → Shared → Prop} {P0 : Program} {w : World} (hu : A.units + 1 < cLine) (hK : K.In s.heap) (I : PySem.W.InstAt s.heap x ox C od) (m : Spm K C "__eq__" f)
    (N : NeC K C) (hc : wpAny (model P0 w) A.in1 (call (.ref f) [.ref x, b]) (fun v s' => ∃ c, v = .bool c ∧ P (some (.bool (!c))) s') E s) : wpAny (model P0 w) A (tryCompare (.ref x) "__ne__" b) P E s := by
  have S := PySem.F.cmp_object.ne
  have sub : PySem.W.Looks (model P0 w) s.heap (isInstance (.ref x) (.type "object")) true := I.type.andThen (PySem.W.looks_mroIn hK N.ob)
  have callNe : ∀ {P' : Value → Shared → Prop}, wpAny (model P0 w) A.in1 (call (.ref f) [.ref x, b]) (fun v s' => ∃ c, v = .bool c ∧ P' (.bool (!c)) s') E s → wpAny (model P0 w) A (call (.builtin "object.__ne__") [.ref x, b]) P' E s := fun {P'} h =>
    wpAny_call (codeAny_call_builtin S.plain PySem.F.cmpEntry_ne (PySem.W.check_slot PySem.F.cmpKind_ne PySem.F.cmpSplit_ne sub (PySem.F.cmpArgs_ne _ _) (ne_entry (A := A.in1) hu hK I m (wpAny_mono h (fun v s' z => by
      obtain ⟨c, rfl, q⟩ := z
      exact ⟨c, rfl, q⟩) fun _ _ e => e))))
  simp only [tryCompare, callSpecialIfBound?, bindSpecialIfBound?]
  refine wpAny_bind (wpAny_holding (wpAny_bind (wpAny_bind (wpAny_bind (I.type.here ((PySem.W.looks_findIn hK N.ne).here ?_))))))
  simp only [S.bind]
  refine wpAny_bind (wpAny_askSetting (wpAny_ite ?_))
  have fin : wpAny (model P0 w) A (call (.builtin "object.__ne__") ([.ref x] ++ [b]) >>= fun v => pure (some v)) (fun r s' => ∃ c, r = some (.bool c) ∧ P (some (.bool c)) s') E s :=
    wpAny_bind (callNe (wpAny_mono hc (fun v s' z => by
      obtain ⟨c, rfl, q⟩ := z
      exact ⟨c, rfl, wpAny_pure ⟨!c, rfl, q⟩⟩) fun _ _ e => e))
  split
  · refine wpAny_bind (wpAny_pure (wpAny_pure (wpAny_mono fin (fun r s' z => ?_) fun _ _ e => e)))
    obtain ⟨c, rfl, q⟩ := z
    exact wpAny_pure q
  · refine wpAny_tryCatch (wpAny_bind (wpAny_pure (wpAny_pure (wpAny_mono fin (fun r s' z => ?_) fun _ _ e => e))))
    obtain ⟨c, rfl, q⟩ := z
    exact wpAny_pure q
theorem op_neOwn {C : Addr} (K : PySem.W.Frag) (m : Spm X.K C "__eq__" f) (N : NeC X.K C) (D : Dn X.prog X.w X.K X.mg X.base CX k f [] sp) (hr : Room (k + 1) X.A) (hx : Passes CX X E) (hK : X.K = K := by rfl) : OpR X (compareOp .NotEq) (rEqOwn K C sp E true) := by
  subst hK
  intro pins s σ H x y v u Q I rx ry h
  obtain ⟨a, dx, fs, t, rfl, ha, ty, nf, q⟩ := h
  cases rx
  obtain ⟨mA, J, _⟩ := ins_get I.hok ha
  obtain ⟨od, J, _⟩ := J.look
  have hb := looks_ty I ry ty
  have one : wpAny (model X.prog X.w) X.A (tryCompare (.ref a) "__ne__" u) (fun r s' => ∃ v, r = some v ∧ EP X pins σ Q v s') X.xe s := by
    refine ne_try (by have := hr.un; omega) I.kIn J m N (wpAny_mono (own_call (A' := X.A.in1) rfl D hr.in1 hx I (vs := [.ref a, y]) (.cons (show RelV (.ref a) (Value.ref a) from rfl) (.cons ry .nil)) q) (fun w' s' z => ?_) fun _ _ e => e)
    obtain ⟨v', H', I', rv, b, rfl, q'⟩ := z
    cases rv
    exact ⟨b, rfl, _, rfl, .bl (!b), H', I', rfl, q'⟩
  show wpAny (model X.prog X.w) X.A (richCompare .NotEq (.ref a) u) (EP X pins σ Q) X.xe s
  unfold richCompare
  simp only [oneThing_ref, cmpInfo_NotEq]
  refine wpAny_holding (wpAny_bind (wpAny_cRoomFor hr.units0 ?_))
  refine wpAny_bind (J.type.here (wpAny_bind (hb.here ?_)))
  split
  · rename_i qn
    have e : PySem.W.subIn X.K t (.ref C) = some false := by
      rcases Bool.or_eq_true_iff.mp nf with e | e
      · rw [beq_iff_eq.mp e] at qn
        simp at qn
      · exact beq_iff_eq.mp e
    refine wpAny_bind ((PySem.W.looks_subIn I.kIn e).here ?_)
    simp only [Bool.false_eq_true, if_false]
    refine wpAny_bind (wpAny_mono one (fun r s' z => ?_) fun _ _ e => e)
    obtain ⟨v, rfl, hq⟩ := z
    exact wpAny_pure hq
  · refine wpAny_bind (wpAny_pure ?_)
    simp only [Bool.false_eq_true, if_false]
    refine wpAny_bind (wpAny_mono one (fun r s' z => ?_) fun _ _ e => e)
    obtain ⟨v, rfl, hq⟩ := z
    exact wpAny_pure hq
end
/-! ### what the head tests -/
theorem spmB_ok {K : PySem.W.Frag} {C f : Addr} {m : Str} (h : spmB K C m f = true) : Spm K C m f := by
  obtain ⟨a, b⟩ := He.ba h
  exact ⟨He.eqO_ok a, b⟩
theorem neB_ok {K : PySem.W.Frag} {C : Addr} (h : neB K C = true) : NeC K C := by
  obtain ⟨a, b⟩ := He.ba h
  exact ⟨He.eqO_ok a, of_decide_eq_true b⟩
theorem nfB_ok {K : PySem.W.Frag} {C : Addr} {n : String} (h : nfB K C = true) (hn : n ∈ ["int", "bool", "str", "NoneType", "list", "tuple"]) : PySem.W.notFirst K C (.type n) = true := List.all_eq_true.mp h n hn
theorem cmB_met {K : PySem.W.Frag} {C : Addr} {m : Str} (h : cmB K C m = true) : ClX.CMet K C (.type "type") m (He.ma K C m) (He5.wf K C "classmethod" m) := by
  obtain ⟨a, b⟩ := He.ba h
  exact He5.cmet_of a (He.ba b).1
theorem cmB_read {K : PySem.W.Frag} {C : Addr} {m : Str} (h : cmB K C m = true) : ClX.CRead K C (.type "type") := by
  obtain ⟨a, b⟩ := He.ba h
  obtain ⟨b, c⟩ := He.ba b
  obtain ⟨c, d⟩ := He.ba c
  exact ⟨c, He.eqO_ok d⟩
theorem Dn.raw {P : Program} {w : World} {K : PySem.W.Frag} {mg : Str → Option Value} {base : Heap} {CX : CXT} {k : Nat} {f : Addr} {sp : Sp} (D : Dn P w K mg base CX k f [] sp) : FnR P w K mg base CX k f sp := by
  obtain ⟨fd, ps, ds, F, kp, r, b⟩ := D.ex
  refine FnR.imp (F.raw b r) fun vs H Q E h => ?_
  show sp (vs ++ []) H Q E
  rw [List.append_nil]
  exact h
theorem pe_cm {X : Cx} {CX : CXT} {k : Nat} {C : Addr} {sp : Sp} {E : XK} {m : Str} {pos apos : Pos} {e o : Expr} {es : List Expr} {ta : TE} {t : TA} {pl : Sem Bool} (he : PE X o ta) (cm : cmB X.K C m = true) (D : Dn X.prog X.w X.K X.mg X.base CX k (He5.wf X.K C "classmethod" m) [] sp) (hr : Room k X.A) (hx : Passes CX X E) (ha : PA X (e :: es) t)
    (hst : starEach (e :: es) X.env = (false, eval e X.env) :: starEach es X.env := by rfl) (hpl : (backTo pos (starEach es X.env)).any (·.1) = false := by rfl)
    (ht : eval (.Call (.Attribute o m apos) (e :: es) [] pos) X.env = (do
      let ov ← eval o X.env
      standAt apos.atName
      let (f, first) ← holding [ov] (getMethod ov m pl)
      callWith pos f first (backTo pos (starEach (e :: es) X.env)) (backToKw pos (keywordEach [] X.env))) := by rfl) :
    PE X (.Call (.Attribute o m apos) (e :: es) [] pos) (ClX.tCMeth C sp E ta t) :=
  ClX.pe_cmeth he (cmB_read cm) (cmB_met cm) D.raw hr hx ha hst hpl ht
/-! ### a dict of the top with text keys -/
theorem keys_find : ∀ {l : List DictEntry} {ks : List Str} {z : Str}, l.map (fun e => match e.key with | .str x _ => some x | _ => none) = ks.map some → z ∉ ks →
    l.find? (·.key.isStr z) = none ∧ l.any (·.refKey) = false
  | [], _, _, _, _ => ⟨rfl, rfl⟩
  | e :: l, [], z, h, _ => by cases h
  | e :: l, k :: ks, z, h, hz => by
    rw [List.map_cons, List.map_cons] at h
    obtain ⟨h1, h2⟩ := List.cons_eq_cons.mp h
    obtain ⟨i1, i2⟩ := keys_find h2 fun q => hz (List.mem_cons_of_mem _ q)
    have hk : ¬ z = k := fun q => hz (by rw [q]; exact List.mem_cons_self ..)
    cases ek : e.key with
    | str x t =>
      rw [ek] at h1
      have hx : x = k := Option.some.inj h1
      have a1 : e.key.isStr z = false := by
        rw [ek, hx]
        simp only [Value.isStr]
        first
          | exact beq_eq_false_iff_ne.mpr fun q => hk q.symm
          | exact beq_eq_false_iff_ne.mpr hk
          | exact decide_eq_false fun q => hk q.symm
      refine ⟨?_, ?_⟩
      · rw [List.find?_cons, a1]
        exact i1
      · rw [List.any_cons, i2, Bool.or_false]
        unfold DictEntry.refKey
        rw [ek]
    | _ =>
      rw [ek] at h1
      cases h1
theorem keysB_none {K : PySem.W.Frag} {a : Addr} {ks : List Str} (h : keysB K a ks = true) {z : Str} (hz : z ∉ ks) : PySem.W.nsIn K a z = some none := by
  unfold keysB at h
  unfold PySem.W.nsIn
  cases q : K.lookup a with
  | none =>
    rw [q] at h
    cases h
  | some o =>
    obtain ⟨oc, od, dt, osl⟩ := o
    rw [q] at h
    cases dt with
    | dict es n =>
      obtain ⟨i1, i2⟩ := keys_find (of_decide_eq_true h) hz
      simp only [i1, i2]
      rfl
    | _ => cases h

section
variable {X : Cx} {d : Addr}
def rInKd (K : PySem.W.Frag) (d : Addr) : R2 := fun x y H Q => ∃ (z : Str) (r : Option Value), x = .str z ∧ y = .ref d ∧ PySem.W.nsIn K d z = some r ∧ Q (.bl r.isSome) H
def rNotInKd (K : PySem.W.Frag) (d : Addr) : R2 := fun x y H Q => ∃ (z : Str) (r : Option Value), x = .str z ∧ y = .ref d ∧ PySem.W.nsIn K d z = some r ∧ Q (.bl (!r.isSome)) H
def rItemKd (K : PySem.W.Frag) (d : Addr) : R2 := fun x y H Q => ∃ (z : Str) (u0 : Value) (v0 : V), x = .ref d ∧ y = .str z ∧ PySem.W.nsIn K d z = some (some u0) ∧ RelV v0 u0 ∧ Q v0 H
theorem op_inKd (K : PySem.W.Frag) (D : ∃ es n, KDict X.K X.w d es n) (hK : X.K = K := by rfl) : OpR X (compareOp .In) (rInKd K d) := by
  subst hK
  obtain ⟨es, n, D⟩ := D
  exact op_in_kd D
theorem op_notInKd (K : PySem.W.Frag) (D : ∃ es n, KDict X.K X.w d es n) (hK : X.K = K := by rfl) : OpR X (compareOp .NotIn) (rNotInKd K d) := by
  subst hK
  obtain ⟨es, n, D⟩ := D
  exact op_notIn_kd D
end
end Tm

/-! Part 7: texts: a walk over signs, names, numbers told by words. -/
namespace Tm
open PySem PySem.Spec PyProof.Rows L2
theorem tLcS_eq {tl : TE} {g : TG} {tt : TT} {te : TE} {vs : List Nat} {σ : L2.St} {H : Hp} {Q : VK} : tLc (iStr tl) g tt te vs σ H Q = tl σ H fun v H1 => ∃ x, v = .str x ∧ lcRun g tt te vs σ Q (Its x) H1 := rfl
theorem lcs_M {z : Str} {g : TG} {te : TE} {vs : List Nat} {σ : L2.St} {H : Hp} {Q : VK} (f : Nat → V) (hn : z.length < sizeLine)
    (ht : ∀ c ∈ TL.tl z, ∀ H1, Same H H1 → ∀ R : V → Hp → Prop, (∀ H2, Same H1 H2 → R (f c) H2) → g (.str ⟨#[c]⟩) (wipe σ vs) H1 fun σ2 H2 => wipe σ2 vs = wipe σ vs ∧ te σ2 H2 R)
    (hd : ∀ D H', H D = none → Same H H' → H' D = some (.lst ((TL.tl z).map f)) → Q (.ref D) H') (hg : ∀ x τ H1 R R', (∀ τ' H', R τ' H' → R' τ' H') → g x τ H1 R → g x τ H1 R') : lcRun g tYes te vs σ Q (Its z) H := by
  intro D hD
  have sz : z.cps.size = (TL.tl z).length := by simp
  refine ⟨fun i m H' => m = (TL.tl z).length - i ∧ i ≤ (TL.tl z).length ∧ LpInv H D ((TL.tl z).map f) i H', ⟨_, rfl, Nat.zero_le _, same_new hD, by rw [upd_same]; rfl⟩, ?_⟩
  rintro i m H' ⟨rfl, hi, p1, p2⟩
  by_cases hlt : i < (TL.tl z).length
  · refine .inr ⟨(by show i < z.cps.size; omega), LpInv H D ((TL.tl z).map f) (i + 1), fun H2 p => ⟨_, by omega, rfl, hlt, p⟩, ?_⟩
    rintro x H2 ⟨rfl, c, hc, rfl⟩
    have hc' : (TL.tl z)[i]? = some c := by
      rw [Array.getElem?_toList]
      exact hc
    refine hg _ _ _ _ _ (fun τ' H' z => ⟨z.1, z.2⟩) (ht c (List.mem_of_getElem? hc') H2 p1 (fun y H4 => ∃ acc, H4 D = some (.lst acc) ∧ acc.length < sizeLine ∧ LpInv H D ((TL.tl z).map f) (i + 1) (upd H4 D (.lst (acc ++ [y])))) fun H5 s5 => ?_)
    refine ⟨_, s5 _ _ p2, ?_, fun b o e => ?_, ?_⟩
    · rw [List.length_take, List.length_map]
      rw [TL.len_tl] at hn
      omega
    · rw [upd_ne (ne_of_none e hD)]
      exact s5 _ _ (p1 _ _ e)
    · rw [upd_same, List.take_add_one, List.getElem?_map, hc']
      rfl
  · have e : i = (TL.tl z).length := by omega
    subst e
    refine .inl ⟨(by show z.cps.size ≤ _; omega), hd D H' hD p1 ?_⟩
    have q := p2
    rwa [List.take_of_length_le (by rw [List.length_map]; exact Nat.le_refl _)] at q
/-! ### names -/
def letterB (c : Nat) : Bool := decide (97 ≤ c) && decide (c ≤ 122)
def digitB (c : Nat) : Bool := decide (48 ≤ c) && decide (c ≤ 57)
theorem letters_tl : TL.tl ("abcdefghijklmnopqrstuvwxyz" : Str) = (List.range 26).map (97 + ·) := by decide +kernel
theorem signs_tl : TL.tl ("0123456789" : Str) = (List.range 10).map (48 + ·) := by decide +kernel
theorem letter_mem (c : Nat) : decide (c ∈ TL.tl ("abcdefghijklmnopqrstuvwxyz" : Str)) = letterB c := by
  rw [letters_tl]
  unfold letterB
  rw [← Bool.decide_and]
  congr 1
  rw [List.mem_map, eq_iff_iff]
  constructor
  · rintro ⟨a, ha, rfl⟩
    have := List.mem_range.mp ha
    omega
  · intro h
    exact ⟨c - 97, List.mem_range.mpr (by omega), by omega⟩
theorem sign_mem (c : Nat) : decide (c ∈ TL.tl ("0123456789" : Str)) = digitB c := by
  rw [signs_tl]
  unfold digitB
  rw [← Bool.decide_and]
  congr 1
  rw [List.mem_map, eq_iff_iff]
  constructor
  · rintro ⟨a, ha, rfl⟩
    have := List.mem_range.mp ha
    omega
  · intro h
    exact ⟨c - 48, List.mem_range.mpr (by omega), by omega⟩
def barred : List Str := ["any", "none", "anew", "lift", "term"]
def nameB (z : Str) : Bool := !decide (z ∈ barred) && (decide (1 ≤ z.length) && (decide (z.length ≤ 4) && (TL.tl z).all letterB))
theorem nameB_len {z : Str} (h : nameB z = true) : z.length ≤ 4 := by
  simp only [nameB, Bool.and_eq_true, decide_eq_true_eq] at h
  exact h.2.2.1
def nameV : V → Bool
  | .str z => nameB z
  | _ => false
theorem eqV_str (a b : Str) : eqV (.str a) (.str b) = decide (a = b) := by
  by_cases h : a = b
  · subst h
    simp [eqV]
  · rw [decide_eq_false h]
    show (a == b) = false
    exact beq_eq_false_iff_ne.mpr h
theorem inV_str (z : Str) : ∀ ns : List Str, inV (.str z) (ns.map V.str) = decide (z ∈ ns)
  | [] => rfl
  | n :: ns => by
    have ih := inV_str z ns
    unfold inV at ih ⊢
    rw [List.map_cons, List.any_cons, ih, eqV_str]
    by_cases h : n = z
    · simp [h]
    · have h' : ¬ z = n := fun e => h e.symm
      simp [h, h']
theorem lay_strs (ys : List Str) (h : ∀ y ∈ ys, PyData.strOk y = true) : (ys.map V.str).all layV = true := by
  rw [List.all_eq_true]
  intro y hy
  obtain ⟨i, hi, rfl⟩ := List.mem_map.mp hy
  exact h i hi
/-! ### numbers told by words -/
def numIn (z : Str) : Option Int :=
  if (decide (1 ≤ z.length) && decide (z.length ≤ 19)) = true then
    if (TL.tl z).all digitB = true then
      if (decide ((TL.tl z).head? = some 48) && decide (1 < z.length)) = true then none else some ((NumText.digitsVal (TL.tl z) : Nat) : Int)
    else none
  else none
theorem digits_all {l : List Nat} (h : l.all digitB = true) : NumText.AllDigits l := fun c hc => by
  have := List.all_eq_true.mp h c hc
  simp only [digitB, Bool.and_eq_true, decide_eq_true_eq] at this
  omega
theorem all_digits {l : List Nat} (h : NumText.AllDigits l) : l.all digitB = true := by
  rw [List.all_eq_true]
  intro c hc
  have := h c hc
  simp only [digitB, Bool.and_eq_true, decide_eq_true_eq]
  omega
/-- a number as a text -/
def numS (n : Int) : Str := Str.ofString (toString n)
theorem numL_head : ∀ n : Nat, 0 < n → (TL.numL n).head? ≠ some 48 := by
  intro n
  induction n using Nat.strongRecOn with
  | _ n ih =>
    intro hn
    by_cases h : n < 10
    · rw [TL.numL_lt h]
      simp
      omega
    · rw [TL.numL_step (by omega)]
      have z := ih (n / 10) (by omega) (by omega)
      cases e : TL.numL (n / 10) with
      | nil => exact absurd e (TL.numL_ne _)
      | cons a l =>
        rw [e] at z
        simpa using z
theorem tl_numS {n : Int} (h : 0 ≤ n) : TL.tl (numS n) = TL.numL n.toNat := by
  obtain ⟨m, rfl⟩ : ∃ m : Nat, n = (m : Int) := ⟨n.toNat, by omega⟩
  exact TL.tl_num m
theorem numS_len {n : Int} (h0 : 0 ≤ n) (h1 : n < 10 ^ 19) : (numS n).length ≤ 19 := by
  rw [TL.len_tl, tl_numS h0]
  exact TL.numL_len (by decide) (by omega)
theorem numIn_numS {n : Int} (h0 : 0 ≤ n) (h1 : n < 10 ^ 19) : numIn (numS n) = some n := by
  obtain ⟨m, rfl⟩ : ∃ m : Nat, n = (m : Int) := ⟨n.toNat, by omega⟩
  have hl := numS_len h0 h1
  have hp : 1 ≤ (numS (m : Int)).length := by
    rw [TL.len_tl, tl_numS h0]
    have := TL.numL_ne m
    cases e : TL.numL (m : Int).toNat with
    | nil => exact absurd e (TL.numL_ne _)
    | cons a l => simp
  unfold numIn
  rw [if_pos (by simp [hl, hp])]
  rw [if_pos (by rw [tl_numS h0]; exact all_digits (TL.numL_digits _))]
  rw [if_neg, tl_numS h0, TL.numL_val, Int.toNat_natCast]
  intro z
  rw [Bool.and_eq_true, decide_eq_true_eq, decide_eq_true_eq, tl_numS h0, Int.toNat_natCast] at z
  by_cases hm : 0 < m
  · exact numL_head m hm z.1
  · have e : m = 0 := by omega
    subst e
    have := z.2
    rw [TL.len_tl, tl_numS (by decide), Int.toNat_natCast, TL.numL_lt (by decide)] at this
    simp at this
theorem numS_inj {m n : Int} (hm : 0 ≤ m) (hn : 0 ≤ n) (h : numS m = numS n) : m = n := by
  have e := congrArg TL.tl h
  rw [tl_numS hm, tl_numS hn] at e
  have := TL.numL_inj e
  omega
theorem numS_free {n : Int} {s : Nat} (h0 : 0 ≤ n) (h : s < 48 ∨ 57 < s) : s ∉ TL.tl (numS n) := by
  rw [tl_numS h0]
  exact TL.numL_free h
/-- how often, as a text -/
def manyS : Option Int → Str
  | none => "any"
  | some n => numS n
/-- a text of a cap -/
def capS : Option Int → Str
  | none => "none"
  | some n => numS n
end Tm
namespace Tm
open PySem PySem.Spec PyProof.Rows L2
/-! ### the texts of kinds -/
structure KdOk (k : Kd) : Prop where
  nm : nameB k.name = true
  a0 : 1 ≤ k.a
  a1 : k.a < 10 ^ 19
  bl : k.fm = .lift → 1 ≤ k.b
  b1 : k.b < 10 ^ 19
  bn : k.fm ≠ .lift → k.b = 0
  t0 : ∀ c, k.times = some c → 1 ≤ c ∧ c < 10 ^ 19
def Fm.word : Fm → Str
  | .still => "still"
  | .anew => "anew"
  | .lift => "lift"
def kindWs (k : Kd) : List Str := [k.fm.word, k.name, numS k.a] ++ (if k.fm = .lift then [numS k.b] else []) ++ [manyS k.times]
def kindS (k : Kd) : Str := Txt.join " " (kindWs k)
theorem len_app (x y : Str) : (x ++ y).length = x.length + y.length := by
  rw [TL.len_tl, TL.tl_append, List.length_append, TL.len_tl, TL.len_tl]
theorem sp_tl : TL.tl (" " : Str) = [32] := by decide +kernel
theorem manyS_len {o : Option Int} (h : ∀ n, o = some n → 1 ≤ n ∧ n < 10 ^ 19) : (manyS o).length ≤ 19 := by
  cases o with
  | none => decide +kernel
  | some n => exact numS_len (by have := (h n rfl).1; omega) (h n rfl).2
/-- texts one behind the other -/
theorem joins_eq {x y : Str} (h : TL.tl x = TL.tl y) : x = y := TL.ext_tl h
theorem joinL_cons (S p q : List Nat) (r : List (List Nat)) : TL.joinL S (p :: q :: r) = p ++ (S ++ TL.joinL S (q :: r)) := rfl
theorem tl_kindS (k : Kd) : TL.tl (kindS k) = TL.joinL [32] ((kindWs k).map TL.tl) := by
  unfold kindS
  rw [TL.join_eq, TL.tl_join, sp_tl]
end Tm
namespace Tm
open PySem PySem.Spec PyProof.Rows L2
/-! ### texts that are cut -/
theorem spl_le {S : List Nat} : ∀ {l : List Nat} {k : Nat} {acc p : List Nat}, p ∈ TL.spl S k acc l → p.length ≤ acc.length + l.length
  | [], k, acc, p, h => by
    rw [TL.spl_nil, List.mem_singleton] at h
    rw [h]
    exact Nat.le_add_right _ _
  | c :: r, 0, acc, p, h => by
    by_cases hp : TL.pre S (c :: r) = true
    · rw [TL.spl_hit hp] at h
      rcases List.mem_cons.mp h with h | h
      · rw [h]
        exact Nat.le_add_right _ _
      · have := spl_le h
        simp only [List.length_nil, List.length_cons] at this ⊢
        omega
    · rw [TL.spl_miss (by simpa using hp)] at h
      have := spl_le h
      simp only [List.length_append, List.length_cons, List.length_nil] at this ⊢
      omega
  | c :: r, k + 1, acc, p, h => by
    have := spl_le (show p ∈ TL.spl S k acc r from h)
    simp only [List.length_cons]
    omega
theorem spl_ne {S : List Nat} : ∀ {l : List Nat} {k : Nat} {acc : List Nat}, TL.spl S k acc l ≠ []
  | [], k, acc => by
    rw [TL.spl_nil]
    simp
  | c :: r, 0, acc => by
    by_cases hp : TL.pre S (c :: r) = true
    · rw [TL.spl_hit hp]
      simp
    · rw [TL.spl_miss (by simpa using hp)]
      exact spl_ne
  | c :: r, k + 1, acc => spl_ne (l := r) (k := k)
theorem split_ne {x y : Str} (hy : TL.tl y ≠ []) (hk : y.cps.all (· < 256) = true) : Txt.split x y ≠ [] := fun z => by
  have e := TL.split_spl x y hy (TL.kind_ok hk)
  rw [z] at e
  exact spl_ne e.symm
theorem split_le {x y p : Str} (hy : TL.tl y ≠ []) (hk : y.cps.all (· < 256) = true) (hp : p ∈ Txt.split x y) : p.length ≤ x.length := by
  have e := TL.split_spl x y hy (TL.kind_ok hk)
  have m : TL.tl p ∈ TL.spl (TL.tl y) 0 [] (TL.tl x) := by
    rw [← e]
    exact List.mem_map_of_mem hp
  have := spl_le m
  simp only [List.length_nil, Nat.zero_add] at this
  rw [TL.len_tl, TL.len_tl]
  exact this
theorem sp_ne : TL.tl (" " : Str) ≠ [] := by decide +kernel
theorem sp_lo : (" " : Str).cps.all (· < 256) = true := by decide +kernel
/-! ### what the text of a kind tells -/
def timesIn (t : Str) : Option (Option Int) := if t = "any" then some none else (numIn t).map some
def formIn (f : Str) : Option Fm := if f = "still" then some .still else if f = "anew" then some .anew else if f = "lift" then some .lift else none
def Fm.size : Fm → Nat
  | .lift => 5
  | _ => 4
/-- the words as a kind: its form, name, numbers, times -/
def toldN (fm : Fm) (n : Str) : List (Option Int) → Option (Option Int) → Option Kd
  | [some a], some tm => some ⟨fm, n, a, 0, tm⟩
  | [some a, some b], some tm => some ⟨fm, n, a, b, tm⟩
  | _, _ => none
def toldM (fm : Fm) (n : Str) (ms : List Str) (t : Str) : Option Kd := if nameB n = true then toldN fm n (ms.map numIn) (timesIn t) else none
def toldK (ws : List Str) : Option Kd :=
  match formIn (ws.headD Str.empty) with
  | none => none
  | some fm => if ws.length = fm.size then toldM fm (ws.getD 1 Str.empty) (ws.drop 2).dropLast (ws.getLastD Str.empty) else none
def toldV (k : Kd) : List V := [.str k.fm.word, .str k.name, .int k.a] ++ (if k.fm = .lift then [.int k.b] else []) ++ [tv k.times]
theorem formIn_word {f : Str} {fm : Fm} (h : formIn f = some fm) : f = fm.word := by
  unfold formIn at h
  by_cases h1 : f = "still"
  · rw [if_pos h1] at h
    cases h
    exact h1
  rw [if_neg h1] at h
  by_cases h2 : f = "anew"
  · rw [if_pos h2] at h
    cases h
    exact h2
  rw [if_neg h2] at h
  by_cases h3 : f = "lift"
  · rw [if_pos h3] at h
    cases h
    exact h3
  rw [if_neg h3] at h
  cases h
theorem formIn_none {f : Str} (h : formIn f = none) : f ∉ (["still", "anew", "lift"] : List Str) := fun m => by
  rcases List.mem_cons.mp m with m | m
  · rw [m] at h
    exact absurd h (by decide +kernel)
  rcases List.mem_cons.mp m with m | m
  · rw [m] at h
    exact absurd h (by decide +kernel)
  rcases List.mem_cons.mp m with m | m
  · rw [m] at h
    exact absurd h (by decide +kernel)
  cases m
theorem inV_non : ∀ os : List (Option Int), inV .non (os.map tv) = os.any (fun o => decide (o = none))
  | [] => rfl
  | o :: os => by
    have ih := inV_non os
    unfold inV at ih ⊢
    rw [List.map_cons, List.any_cons, List.any_cons, ih]
    congr 1
    cases o <;> rfl
theorem flat_tvs (os : List (Option Int)) : (os.map tv).all flatV = true := by
  rw [List.all_eq_true]
  intro y hy
  obtain ⟨o, _, rfl⟩ := List.mem_map.mp hy
  cases o <;> rfl
/-- a kind's text, read -/
theorem word_free (f : Fm) : 32 ∉ TL.tl f.word := by
  cases f <;> decide +kernel
theorem name_free {z : Str} {s : Nat} (h : nameB z = true) (hs : s < 97 ∨ 122 < s) : s ∉ TL.tl z := fun m => by
  simp only [nameB, Bool.and_eq_true, decide_eq_true_eq] at h
  have := List.all_eq_true.mp h.2.2.2 s m
  simp only [letterB, Bool.and_eq_true, decide_eq_true_eq] at this
  omega
theorem many_free {o : Option Int} {s : Nat} (h : ∀ c, o = some c → 1 ≤ c ∧ c < 10 ^ 19) (hs : s < 48) : s ∉ TL.tl (manyS o) := by
  cases o with
  | none =>
    intro m
    have e : TL.tl (manyS none) = [97, 110, 121] := by decide +kernel
    rw [e] at m
    simp only [List.mem_cons, List.not_mem_nil, or_false] at m
    omega
  | some c => exact numS_free (by have := h c rfl; omega) (.inl hs)
theorem ws_free {k : Kd} (ok : KdOk k) {s : Nat} (hs : s < 48) : ∀ p ∈ kindWs k, s ∉ TL.tl p := by
  have hw : s ∉ TL.tl k.fm.word := by
    cases k.fm
    · have e : TL.tl Fm.still.word = [115, 116, 105, 108, 108] := by decide +kernel
      rw [e]
      simp only [List.mem_cons, List.not_mem_nil, or_false]
      omega
    · have e : TL.tl Fm.anew.word = [97, 110, 101, 119] := by decide +kernel
      rw [e]
      simp only [List.mem_cons, List.not_mem_nil, or_false]
      omega
    · have e : TL.tl Fm.lift.word = [108, 105, 102, 116] := by decide +kernel
      rw [e]
      simp only [List.mem_cons, List.not_mem_nil, or_false]
      omega
  intro p hp
  unfold kindWs at hp
  simp only [List.mem_append, List.mem_cons, List.not_mem_nil, or_false] at hp
  rcases hp with ((rfl | rfl | rfl) | hp) | rfl
  · exact hw
  · exact name_free ok.nm (.inl (by omega))
  · exact numS_free (by have := ok.a0; omega) (.inl hs)
  · by_cases hl : k.fm = .lift
    · rw [if_pos hl] at hp
      rw [List.mem_singleton.mp hp]
      exact numS_free (by have := ok.bl hl; omega) (.inl hs)
    · rw [if_neg hl] at hp
      cases hp
  · exact many_free ok.t0 hs
theorem split_kind {k : Kd} (ok : KdOk k) : Txt.split (kindS k) " " = kindWs k :=
  TL.split_join (s := 32) (S := []) sp_tl sp_lo (by unfold kindWs; simp) (ws_free ok (by decide))
theorem any_num {n : Int} (h : 0 ≤ n) : numS n ≠ ("any" : Str) := fun z => by
  have e := congrArg TL.tl z
  have q : (97 : Nat) ∈ TL.tl (numS n) := by
    rw [e]
    decide +kernel
  exact numS_free h (.inr (by decide)) q
theorem timesIn_many {o : Option Int} (h : ∀ c, o = some c → 1 ≤ c ∧ c < 10 ^ 19) : timesIn (manyS o) = some o := by
  cases o with
  | none => rfl
  | some c =>
    have hc := h c rfl
    unfold timesIn
    rw [show manyS (some c) = numS c from rfl, if_neg (any_num (by omega)), numIn_numS (by omega) hc.2]
    rfl
theorem formIn_of (f : Fm) : formIn f.word = some f := by cases f <;> decide +kernel
theorem toldK_ws {k : Kd} (ok : KdOk k) : toldK (kindWs k) = some k := by
  obtain ⟨fm, nm, a, b, tm⟩ := k
  have ha := numIn_numS (Int.le_trans (by decide) ok.a0) ok.a1
  have ht := timesIn_many ok.t0
  have hn := ok.nm
  have hb := ok.bn
  have hbl := ok.bl
  have hb1 := ok.b1
  dsimp only at ha ht hn hb hbl hb1
  cases fm with
  | still =>
    have e : b = 0 := hb (by decide)
    subst e
    simp [toldK, kindWs, formIn_of, Fm.size, toldM, toldN, hn, ha, ht]
  | anew =>
    have e : b = 0 := hb (by decide)
    subst e
    simp [toldK, kindWs, formIn_of, Fm.size, toldM, toldN, hn, ha, ht]
  | lift =>
    have hbb := numIn_numS (by have := hbl rfl; omega) hb1
    simp [toldK, kindWs, formIn_of, Fm.size, toldM, toldN, hn, ha, ht, hbb]
theorem told_kind {k : Kd} (ok : KdOk k) : toldK (Txt.split (kindS k) " ") = some k := by
  rw [split_kind ok, toldK_ws ok]
theorem kindS_inj {k j : Kd} (ok : KdOk k) (oj : KdOk j) (h : kindS k = kindS j) : k = j := by
  have a := told_kind ok
  rw [h, told_kind oj] at a
  exact (Option.some.inj a).symm
end Tm

/-! Part 9: drawn kinds. -/
namespace Tm
open PySem PySem.Spec PyProof.Rows L2
def namesA : List Str := ["talk", "owe", "plea", "a", "b", "zz", "x", "suit", "rest", "cap"]
theorem namesA_ok : ∀ n ∈ namesA, nameB n = true := by decide +kernel
theorem namesA_nodup : namesA.Nodup := by decide +kernel
theorem namesA_lay : (namesA.map V.str).all layV = true := by decide +kernel
/-- a kind as the laws tell it -/
def told5 (k : Kd) : List V := [.str k.fm.word, .str k.name, .int k.a, .int k.b, tv k.times]
/-- a drawn kind -/
structure KdIn (z : Str) (most : Int) (k : Kd) : Prop where
  nm : k.name = z
  a0 : 1 ≤ k.a
  a1 : k.a ≤ most
  b0 : k.fm = .lift → 1 ≤ k.b
  b1 : k.b ≤ most
  bn : k.fm ≠ .lift → k.b = 0
  t0 : ∀ c, k.times = some c → 1 ≤ c ∧ c ≤ 3
theorem KdIn.ok {z : Str} {most : Int} {k : Kd} (h : KdIn z most k) (hz : nameB z = true) (hm : most ≤ 10 ^ 18) : KdOk k := by
  refine ⟨by rw [h.nm]; exact hz, h.a0, ?_, h.b0, ?_, h.bn, fun c hc => ⟨(h.t0 c hc).1, ?_⟩⟩
  · have := h.a1
    omega
  · have := h.b1
    omega
  · have := (h.t0 c hc).2
    omega
theorem fm_ne {f g : Fm} (h : f ≠ g) : ¬ V.str f.word = V.str g.word := fun z => h (by
  have e := V.str.inj z
  have a := formIn_of f
  rw [e, formIn_of g] at a
  exact (Option.some.inj a).symm)
theorem none_of {H H' : Hp} {q : Addr} (s : Same H H') (h : H' q = none) : H q = none := by
  cases e : H q with
  | none => rfl
  | some o =>
    rw [s _ _ e] at h
    cases h
theorem joinL_len (S : List Nat) : ∀ ps : List (List Nat), (TL.joinL S ps).length ≤ (ps.map List.length).sum + ps.length * S.length
  | [] => Nat.zero_le _
  | [p] => by simp [TL.joinL]
  | p :: q :: r => by
    have ih := joinL_len S (q :: r)
    rw [joinL_cons]
    simp only [List.length_append, List.map_cons, List.sum_cons, List.length_cons, Nat.add_mul, Nat.one_mul] at ih ⊢
    omega
theorem join_len (y : Str) (ws : List Str) : (Txt.join y ws).length ≤ (ws.map (·.length)).sum + ws.length * y.length := by
  rw [TL.len_tl, TL.join_eq, TL.tl_join]
  have := joinL_len (TL.tl y) (ws.map TL.tl)
  rw [List.length_map, List.map_map] at this
  have e : List.length ∘ TL.tl = fun w : Str => w.length := funext fun w => (TL.len_tl w).symm
  rw [e, ← TL.len_tl] at this
  exact this
theorem kindWs_sum {k : Kd} (ok : KdOk k) : ((kindWs k).map (·.length)).sum + (kindWs k).length * (" " : Str).length ≤ 100 := by
  have h1 : k.fm.word.length ≤ 5 := by cases k.fm <;> decide +kernel
  have h2 := nameB_len ok.nm
  have h3 := numS_len (n := k.a) (by have := ok.a0; omega) ok.a1
  have h4 := manyS_len ok.t0
  have h5 : (" " : Str).length = 1 := by decide +kernel
  rw [h5]
  unfold kindWs
  by_cases hf : k.fm = .lift
  · have h6 := numS_len (n := k.b) (by have := ok.bl hf; omega) ok.b1
    rw [if_pos hf]
    simp
    omega
  · rw [if_neg hf]
    simp
    omega
theorem kindS_len {k : Kd} (ok : KdOk k) : (kindS k).length ≤ 100 := Nat.le_trans (join_len _ _) (kindWs_sum ok)
theorem strs_perm {ys : List V} {ns : List Str} (h : ys.Perm (ns.map V.str)) : ∃ ms : List Str, ys = ms.map V.str ∧ ms.Perm ns := by
  have z : ∀ y ∈ ys, ∃ i, y = V.str i := fun y hy => by
    obtain ⟨i, _, e⟩ := List.mem_map.mp (h.mem_iff.mp hy)
    exact ⟨i, e.symm⟩
  have : ∃ ms : List Str, ys = ms.map V.str := by
    clear h
    induction ys with
    | nil => exact ⟨[], rfl⟩
    | cons y ys ih =>
      obtain ⟨i, rfl⟩ := z y (List.mem_cons_self ..)
      obtain ⟨ms, e⟩ := ih fun y hy => z y (List.mem_cons_of_mem _ hy)
      exact ⟨i :: ms, by rw [e]; rfl⟩
  obtain ⟨ms, e⟩ := this
  refine ⟨ms, e, ?_⟩
  rw [e] at h
  have f : ∀ l : List Str, (l.map V.str).map (fun v => match v with | .str i => i | _ => Str.empty) = l := fun l => by
    rw [List.map_map]
    simp [Function.comp_def]
  have q := h.map (fun v => match v with | .str i => i | _ => Str.empty)
  rwa [f, f] at q
theorem cutV_take (xs : List V) (v : Int) (h : 0 ≤ v) : cutV xs none (some v) = xs.take v.toNat := by
  obtain ⟨n, rfl⟩ : ∃ n : Nat, v = (n : Int) := ⟨v.toNat, by omega⟩
  unfold cutV
  rw [HT.sIx_nat]
  show (xs.drop 0).take (min n xs.length - 0) = _
  rw [List.drop_zero, Nat.sub_zero, Int.toNat_natCast, List.take_eq_take_iff]
  omega
end Tm

/-! Part 10: rules as texts. -/
namespace Tm
open PySem PySem.Spec PyProof.Rows L2
structure RlOk (R : Rl) : Prop where
  l0 : 1 ≤ R.length
  l1 : R.length < 10 ^ 19
  rl : R.rests.length ≤ 6
  rb : ∀ i ∈ R.rests, 0 ≤ i ∧ i < 7
  rn : R.rests.Nodup
  rs : R.rests.Pairwise (· ≤ ·)
  c0 : ∀ c, R.cap = some c → 1 ≤ c ∧ c < 10 ^ 19
  kl : R.kinds.length ≤ 100
  kn : (R.kinds.map (·.name)).Nodup
  kk : ∀ k ∈ R.kinds, KdOk k
def restWs (ns : List Int) : List Str := if ns = [] then ["none"] else ns.map numS
def headWs (n : Int) (ns : List Int) (cap : Option Int) : List Str := ([("term" : Str), numS n, ("rests" : Str)] : List Str) ++ (restWs ns ++ ([("cap" : Str), capS cap] : List Str))
def headS (n : Int) (ns : List Int) (cap : Option Int) : Str := Txt.join " " (headWs n ns cap)
/-- the text of a rule; its rests in any order -/
def textS (n : Int) (ns : List Int) (cap : Option Int) (ks : List Kd) : Str := Txt.join "\n" (headS n ns cap :: ks.map kindS)
def ruleS (R : Rl) : Str := textS R.length R.rests R.cap R.kinds
theorem nl_tl : TL.tl ("\n" : Str) = [10] := by decide +kernel
theorem nl_ne : TL.tl ("\n" : Str) ≠ [] := by decide +kernel
theorem nl_lo : ("\n" : Str).cps.all (· < 256) = true := by decide +kernel
theorem capS_len {o : Option Int} (h : ∀ n, o = some n → 1 ≤ n ∧ n < 10 ^ 19) : (capS o).length ≤ 19 := by
  cases o with
  | none => decide +kernel
  | some n => exact numS_len (by have := (h n rfl).1; omega) (h n rfl).2
theorem cap_free {o : Option Int} {s : Nat} (h : ∀ c, o = some c → 1 ≤ c ∧ c < 10 ^ 19) (hs : s < 48) : s ∉ TL.tl (capS o) := by
  cases o with
  | none =>
    intro m
    have e : TL.tl (capS none) = [110, 111, 110, 101] := by decide +kernel
    rw [e] at m
    simp only [List.mem_cons, List.not_mem_nil, or_false] at m
    omega
  | some c => exact numS_free (by have := h c rfl; omega) (.inl hs)
/-- what a head tells, as far as it can be read -/
structure HdOk (n : Int) (ns : List Int) (cap : Option Int) : Prop where
  l0 : 1 ≤ n
  l1 : n < 10 ^ 19
  rl : ns.length ≤ 6
  rb : ∀ i ∈ ns, 0 ≤ i ∧ i < 7
  c0 : ∀ c, cap = some c → 1 ≤ c ∧ c < 10 ^ 19
theorem RlOk.hd {R : Rl} (h : RlOk R) : HdOk R.length R.rests R.cap := ⟨h.l0, h.l1, h.rl, h.rb, h.c0⟩
theorem restWs_mem {ns : List Int} {p : Str} (h : p ∈ restWs ns) : p = "none" ∨ ∃ i ∈ ns, p = numS i := by
  unfold restWs at h
  split at h
  · exact .inl (List.mem_singleton.mp h)
  · obtain ⟨i, hi, e⟩ := List.mem_map.mp h
    exact .inr ⟨i, hi, e.symm⟩
theorem none_free {s : Nat} (hs : s < 48) : s ∉ TL.tl ("none" : Str) := cap_free (o := none) (fun _ z => by cases z) hs
theorem headWs_mem {n : Int} {ns : List Int} {cap : Option Int} {p : Str} (h : p ∈ headWs n ns cap) : p = "term" ∨ p = numS n ∨ p = "rests" ∨ p ∈ restWs ns ∨ p = "cap" ∨ p = capS cap := by
  unfold headWs at h
  simp only [List.mem_append, List.mem_cons, List.not_mem_nil, or_false] at h
  rcases h with (h | h | h) | h | h | h
  · exact .inl h
  · exact .inr (.inl h)
  · exact .inr (.inr (.inl h))
  · exact .inr (.inr (.inr (.inl h)))
  · exact .inr (.inr (.inr (.inr (.inl h))))
  · exact .inr (.inr (.inr (.inr (.inr h))))
theorem lit_free {z : Str} (h : (TL.tl z).all letterB = true) {s : Nat} (hs : s < 48) : s ∉ TL.tl z := fun m => by
  have := List.all_eq_true.mp h s m
  simp only [letterB, Bool.and_eq_true, decide_eq_true_eq] at this
  omega
theorem headWs_free {n : Int} {ns : List Int} {cap : Option Int} (ok : HdOk n ns cap) {s : Nat} (hs : s < 48) : ∀ p ∈ headWs n ns cap, s ∉ TL.tl p := fun p hp => by
  rcases headWs_mem hp with rfl | rfl | rfl | h | rfl | rfl
  · exact lit_free (by decide +kernel) hs
  · exact numS_free (by have := ok.l0; omega) (.inl hs)
  · exact lit_free (by decide +kernel) hs
  · rcases restWs_mem h with rfl | ⟨i, hi, rfl⟩
    · exact lit_free (by decide +kernel) hs
    · exact numS_free (ok.rb i hi).1 (.inl hs)
  · exact lit_free (by decide +kernel) hs
  · exact cap_free ok.c0 hs
theorem split_head {n : Int} {ns : List Int} {cap : Option Int} (ok : HdOk n ns cap) : Txt.split (headS n ns cap) " " = headWs n ns cap :=
  TL.split_join (s := 32) (S := []) sp_tl sp_lo (by unfold headWs; simp) (headWs_free ok (by decide))
theorem headWs_le {n : Int} {ns : List Int} {cap : Option Int} (ok : HdOk n ns cap) : ∀ p ∈ headWs n ns cap, p.length ≤ 19 := fun p hp => by
  rcases headWs_mem hp with rfl | rfl | rfl | h | rfl | rfl
  · decide +kernel
  · exact numS_len (by have := ok.l0; omega) ok.l1
  · decide +kernel
  · rcases restWs_mem h with rfl | ⟨i, hi, rfl⟩
    · decide +kernel
    · exact numS_len (ok.rb i hi).1 (by have := ok.rb i hi; omega)
  · decide +kernel
  · exact capS_len ok.c0
theorem restWs_len {ns : List Int} (h : ns.length ≤ 6) : 1 ≤ (restWs ns).length ∧ (restWs ns).length ≤ 6 := by
  unfold restWs
  split
  · decide
  · rename_i hn
    rw [List.length_map]
    have := List.length_pos_iff.mpr hn
    omega
theorem sum_le {ws : List Str} {m : Nat} (h : ∀ p ∈ ws, p.length ≤ m) : (ws.map (·.length)).sum ≤ ws.length * m := by
  induction ws with
  | nil => simp
  | cons a l ih =>
    have h1 := h a (List.mem_cons_self ..)
    have h2 := ih fun p hp => h p (List.mem_cons_of_mem _ hp)
    rw [List.map_cons, List.sum_cons, List.length_cons, Nat.add_mul, Nat.one_mul]
    omega
theorem headWs_sum {n : Int} {ns : List Int} {cap : Option Int} (ok : HdOk n ns cap) : ((headWs n ns cap).map (·.length)).sum + (headWs n ns cap).length * (" " : Str).length ≤ 300 := by
  have h1 := sum_le (headWs_le ok)
  have h2 : (headWs n ns cap).length ≤ 11 := by
    unfold headWs
    have := (restWs_len ok.rl).2
    simp only [List.length_append, List.length_cons, List.length_nil]
    omega
  have h3 : (" " : Str).length = 1 := by decide +kernel
  rw [h3]
  omega
theorem headS_len {n : Int} {ns : List Int} {cap : Option Int} (ok : HdOk n ns cap) : (headS n ns cap).length ≤ 300 := Nat.le_trans (join_len _ _) (headWs_sum ok)
theorem joinL_free {S : List Nat} {s : Nat} (hS : s ∉ S) : ∀ {ps : List (List Nat)}, (∀ p ∈ ps, s ∉ p) → s ∉ TL.joinL S ps
  | [], _ => by simp [TL.joinL]
  | [p], h => h p (List.mem_singleton.mpr rfl)
  | p :: q :: r, h => by
    rw [joinL_cons]
    intro m
    rcases List.mem_append.mp m with m | m
    · exact h p (List.mem_cons_self ..) m
    · rcases List.mem_append.mp m with m | m
      · exact hS m
      · exact joinL_free hS (fun z hz => h z (List.mem_cons_of_mem _ hz)) m
theorem join_free {y : Str} {s : Nat} (hy : s ∉ TL.tl y) {ws : List Str} (h : ∀ p ∈ ws, s ∉ TL.tl p) : s ∉ TL.tl (Txt.join y ws) := by
  rw [TL.join_eq, TL.tl_join]
  refine joinL_free hy fun p hp => ?_
  obtain ⟨q, hq, rfl⟩ := List.mem_map.mp hp
  exact h q hq
theorem kindS_free {k : Kd} (ok : KdOk k) : 10 ∉ TL.tl (kindS k) := join_free (by decide +kernel) (ws_free ok (by decide))
theorem headS_free {n : Int} {ns : List Int} {cap : Option Int} (ok : HdOk n ns cap) : 10 ∉ TL.tl (headS n ns cap) := join_free (by decide +kernel) (headWs_free ok (by decide))
theorem split_text {n : Int} {ns : List Int} {cap : Option Int} {ks : List Kd} (ok : HdOk n ns cap) (kk : ∀ k ∈ ks, KdOk k) : Txt.split (textS n ns cap ks) "\n" = headS n ns cap :: ks.map kindS := by
  refine TL.split_join (s := 10) (S := []) nl_tl nl_lo (by simp) fun p hp => ?_
  rcases List.mem_cons.mp hp with rfl | hp
  · exact headS_free ok
  · obtain ⟨k, hk, rfl⟩ := List.mem_map.mp hp
    exact kindS_free (kk k hk)
theorem lines_sum {n : Int} {ns : List Int} {cap : Option Int} {ks : List Kd} (ok : HdOk n ns cap) (kk : ∀ k ∈ ks, KdOk k) (kl : ks.length ≤ 100) : ((headS n ns cap :: ks.map kindS).map (·.length)).sum + (headS n ns cap :: ks.map kindS).length * ("\n" : Str).length ≤ 20000 := by
  have h1 := sum_le (m := 100) (ws := ks.map kindS) fun p hp => by
    obtain ⟨k, hk, rfl⟩ := List.mem_map.mp hp
    exact kindS_len (kk k hk)
  have h2 := headS_len ok
  have h3 : ("\n" : Str).length = 1 := by decide +kernel
  rw [h3, List.map_cons, List.sum_cons, List.length_cons]
  rw [List.length_map] at h1 ⊢
  omega
theorem textS_len {n : Int} {ns : List Int} {cap : Option Int} {ks : List Kd} (ok : HdOk n ns cap) (kk : ∀ k ∈ ks, KdOk k) (kl : ks.length ≤ 100) : (textS n ns cap ks).length ≤ 20000 := Nat.le_trans (join_len _ _) (lines_sum ok kk kl)
/-! ### texts as the program writes them -/
theorem joinL_app (S : List Nat) : ∀ (ps qs : List (List Nat)), ps ≠ [] → qs ≠ [] → TL.joinL S (ps ++ qs) = TL.joinL S ps ++ (S ++ TL.joinL S qs)
  | [], _, h, _ => absurd rfl h
  | [p], q :: r, _, _ => rfl
  | [p], [], _, h => absurd rfl h
  | p :: p' :: r, qs, _, h => by
    rw [List.cons_append, List.cons_append, joinL_cons, joinL_cons, ← List.cons_append, joinL_app S (p' :: r) qs (by simp) h]
    simp only [List.append_assoc]
def restS (ns : List Int) : Str := if ns = [] then "none" else Txt.join " " (ns.map numS)
theorem tl_restS (ns : List Int) : TL.tl (restS ns) = TL.joinL [32] ((restWs ns).map TL.tl) := by
  unfold restS restWs
  split
  · rfl
  · rw [TL.join_eq, TL.tl_join, sp_tl]
theorem restWs_ne (ns : List Int) : restWs ns ≠ [] := by
  unfold restWs
  split
  · simp
  · rename_i h
    simpa using h
theorem tl_headS (n : Int) (ns : List Int) (cap : Option Int) : TL.tl (headS n ns cap) = TL.tl ("term " : Str) ++ (TL.tl (numS n) ++ (TL.tl (" rests " : Str) ++ (TL.tl (restS ns) ++ (TL.tl (" cap " : Str) ++ TL.tl (capS cap))))) := by
  have h1 : TL.tl ("term " : Str) = TL.tl ("term" : Str) ++ [32] := by decide +kernel
  have h2 : TL.tl (" rests " : Str) = [32] ++ (TL.tl ("rests" : Str) ++ [32]) := by decide +kernel
  have h3 : TL.tl (" cap " : Str) = [32] ++ (TL.tl ("cap" : Str) ++ [32]) := by decide +kernel
  unfold headS headWs
  rw [TL.join_eq, TL.tl_join, sp_tl, List.map_append, joinL_app _ _ _ (by simp) (by simp), List.map_append, joinL_app _ _ _ (by simpa using restWs_ne ns) (by simp), tl_restS, h1, h2, h3]
  simp only [List.map_cons, List.map_nil, joinL_cons, TL.joinL, List.append_assoc, List.cons_append, List.nil_append]
end Tm
namespace Tm
open PySem PySem.Spec PyProof.Rows L2
theorem eqv_strs : ∀ ys zs : List Str, PyData.eqvAll (ys.map PyData.str) (zs.map PyData.str) = decide (ys = zs)
  | [], [] => by simp [PyData.eqvAll]
  | [], z :: zs => by simp [PyData.eqvAll]
  | y :: ys, [] => by simp [PyData.eqvAll]
  | y :: ys, z :: zs => by
    have ih := eqv_strs ys zs
    simp only [List.map_cons, PyData.eqvAll, PyData.eqv, ih]
    by_cases h1 : y = z
    · by_cases h2 : ys = zs
      · simp [h1, h2]
      · simp [h1, h2]
    · have h3 : (y == z) = false := beq_eq_false_iff_ne.mpr h1
      simp [h1, h3]
/-- two lists of texts -/
def rEqStrs (K : PySem.W.Frag) : R2 := fun x y H Q => ∃ (p q : Addr) (ys zs : List Str), x = .ref p ∧ y = .ref q ∧ SqL K H p (ys.map V.str) ∧ SqL K H q (zs.map V.str) ∧ (ys.map V.str).all layV = true ∧ (zs.map V.str).all layV = true ∧ Q (.bl (decide (ys = zs))) H
theorem datV_strs (ys : List Str) : (ys.map V.str).map datV = ys.map PyData.str := by
  rw [List.map_map]
  rfl
theorem op_eqStrs {X : Cx} (K : PySem.W.Frag) (hu : X.A.units + 64 < cLine) (hK : X.K = K := by rfl) : OpR X (compareOp .Eq) (rEqStrs K) := by
  subst hK
  intro pins s σ H x y v u Q I rx ry h
  obtain ⟨p, q, ys, zs, rfl, rfl, hp, hq, hy, hz, k⟩ := h
  refine op_eqD hu pins s σ H _ _ v u Q I rx ry ⟨_, _, .lst hp (dpAll_flat hy), .lst hq (dpAll_flat hz), shaped_flat hy, shaped_flat hz, ?_⟩
  have e : PyData.eqv (.list ((ys.map V.str).map datV)) (.list ((zs.map V.str).map datV)) = decide (ys = zs) := by
    rw [datV_strs, datV_strs, PyData.eqv]
    exact eqv_strs ys zs
  rw [e]
  exact k
/-- a class that a local name holds is called -/
def tMakeL (i : Nat) (C : Addr) (sp : Sp) (dvs : List V) (E : XK) (t : TA) : TE := fun σ H Q => σ[i]? = some (some (.ref C)) ∧ tMake C sp dvs E t σ H Q
theorem pe_mkL {X : Cx} {CX : CXT} {k i : Nat} {f C : Addr} {sp : Sp} {dvs : List V} {E : XK} {x : Str} {p pos : Pos} {e : Expr} {es : List Expr} {t : TA} (M : Mk X.K C f) (D : Dn X.prog X.w X.K X.mg X.base CX k f dvs sp) (hr : Room (k + 1) X.A) (hN : X.N[i]? = some x) (hv : Vis X.env.scope x) (hx : Passes CX X E) (ha : PA X (e :: es) t)
    (hdb : (x == ("__debug__" : Str)) = false := by decide) (hcd : (x == ("__classdict__" : Str)) = false := by decide)
    (he : starEach (e :: es) X.env = (false, eval e X.env) :: starEach es X.env := by rfl) (hpl : (backTo pos (starEach es X.env)).any (·.1) = false := by rfl) : PE X (.Call (.Name x p) (e :: es) [] pos) (tMakeL i C sp dvs E t) := by
  obtain ⟨fd, ps, ds, F, kp, r, b⟩ := D.ex
  refine ⟨fun pins s σ H Q I h => ?_⟩
  obtain ⟨hs, ht⟩ := h
  refine wpAny_Call_Name_kw (thn ((pe_var (pos := p) hN hv hdb hcd).run pins s σ H (fun v H1 => v = .ref C ∧ H1 = H) I ⟨.ref C, hs, rfl, rfl⟩) fun u s1 ⟨v, H1, I1, r1, q1⟩ => ?_)
  obtain ⟨rfl, rfl⟩ := q1
  cases r1
  refine PySem.W.callWith_K (h₀ := X.base) I.ok.mod.kin M.kp (thn (ha.run pos pins s1 σ _ _ I1 ht) fun us s2 ⟨vs, H2, I2, rv, q⟩ => ⟨I2.kIn, ?_⟩) he hpl
  exact run_make M F hr b r hx I2 rv q
end Tm
namespace Tm
open PySem PySem.Spec PyProof.Rows L2
theorem paired_snoc {α β : Type} {F : α → β → Prop} {x : α} {y : β} : ∀ {l : List α} {m : List β}, Paired F l m → F x y → Paired F (l ++ [x]) (m ++ [y])
  | _, _, .nil, h => .cons h .nil
  | _, _, .cons q t, h => .cons q (paired_snoc t h)
end Tm

/-! X0: an own exception class whose __init__ says super().__init__() and keeps its argument: how it is made. -/
namespace PySem
namespace TmX
open PySem.W PySem.Calls PyProof.Rows PySem.HandSPX Builtin Builtin.ObjectAttr
def xA (f : Str) (p1 p2 : Pos) : Arguments := { posonlyargs := [], args := [{ arg := "self", annotation := none, pos := p1 }, { arg := f, annotation := none, pos := p2 }], vararg := none, kwonlyargs := [], kw_defaults := [], kwarg := none, defaults := [] }
def xB (f : Str) (p0 p1 p2 p3 p4 q1 q2 q3 q4 : Pos) : List Stmt := [.Expr (.Call (.Attribute (.Call (.Name "super" p0) [] [] p1) "__init__" p2) [] [] p3) p4, .Assign [.Attribute (.Name "self" q1) f q2] (.Name f q3) q4]
def xS (f : Str) : Scope := { kind := .function, names := [(PySem.Str.ofString "self", .local), (f, .local), (PySem.Str.ofString "__class__", .free), (PySem.Str.ofString "super", .globalImplicit)], isGenerator := false, isCoroutine := false, more := [] }
/-- a field's name that is no other name of such an __init__ -/
def goodF (f : Str) : Bool := f != "self" && (f != "__class__" && (f != "super" && f != "__debug__"))
/-- what the written part says of the class at C, its __init__ at fI; B the built-in class above it -/
structure XTxt (file : Str) (K : Frag) (C fI : Addr) (f : Str) (B newId initId : String) (bmB : List Value) : Prop where
  good : goodF f = true
  ex : excInitIn K C bmB newId = true
  hd : ∃ cd, clsIn K C = some cd ∧ cd.hasDict = true ∧ ∃ bm, cd.mro = .ref C :: bm ∧ excTail bmB bm = true
  sa : findIn K (.ref C) "__setattr__" = some (some (.builtin "object.__setattr__"))
  ga : findIn K (.ref C) "__getattribute__" = some (some (.builtin "BaseException.__getattribute__"))
  gg : findIn K (.ref C) "__getattr__" = some none
  noN : findIn K (.ref C) f = some none
  iC : findIn K (.ref C) "__init__" = some (some (.ref fI))
  tC : typeIn K (.ref fI) = some (.type "function")
  kC : keepIn K (.ref C) = true
  exC : subIn K (.ref C) (.type "BaseException") = some true
  tyC : typeIn K (.ref C) = some (.type "type")
  hdC : hasDictIn K C = true
  sup : ks_superIn K C C "__init__" = some (some (.builtin initId))
  sB : subIn K (.ref C) (.type B) = some true
  mr : mroIn K C (.ref C) = some true
  op : nsIn K cStatics "thirdparty.any" = some none
  fn : ∃ (oc : Value) (od : Option Addr) (nm qual : Str) (kV doc pm : Value) (an : Option Addr) (ct : Value) (cc cda : Addr) (osl : Array (Option Value)) (p1 p2 p0 r1 r2 r3 r4 q1 q2 q3 q4 : Pos) (ccl cl : Value) (cdd cld : Option Addr) (vs : Array Value) (ccs csl : Array (Option Value)) (tf : Tok),
    K.lookup fI = some ⟨oc, od, .func (ksFn nm qual (xA f p1 p2) (xB f p0 r1 r2 r3 r4 q1 q2 q3 q4) (xS f) .none kV doc pm an (.ref cda) ct cc), osl⟩ ∧ codeIn K (.ref cda) qual = true ∧
    (r2.endLine == r3.line) = true ∧ K.lookup cda = some ⟨ccl, cdd, .fields vs, ccs⟩ ∧ vs[2]? = some (.str file tf) ∧ K.lookup cc = some ⟨cl, cld, .cell (some (.ref C)), csl⟩
/-- what __init__ leaves of a fresh exception at x -/
structure XEnd (h h' : Heap) (x C dx t1 : Addr) (f : Str) (v : Value) : Prop where
  keep : ∀ b o, b ≠ x → h.get? b = some o → h'.get? b = some o
  obj : h'.get? x = some { cls := .ref C, dict := some dx, data := .fields #[.ref t1, .none, .none, .none, .bool false, .none] }
  dbig : h.objs.size ≤ dx
  dne : dx ≠ x
  ns : h'.Ns1 dx (fun y => if y = f then some v else none)
section
variable {prog : Program} {w : World} {A : Around} {E : Value → Shared → Prop} {h : Heap} {g : Array GenState} {d : Drawn} {t : Nat} {os : OsState} {K : Frag}
/-- the bound built-in __init__, called without arguments -/
theorem call_wrap {B newId initId : String} {bmB : List Value} (FB : ExcBaseFacts B newId initId bmB) {u e t0 C : Addr} {Q : Value → Shared → Prop} (X : K.In h) (q : excInitIn K C bmB newId = true) (he : h.get? e = some (excO C t0)) (hu : h.get? u = some (kxs_mw initId e))
    (hq : ∀ h' t1, (∀ b o, b ≠ e → h.get? b = some o → h'.get? b = some o) → h'.get? e = some (excO C t1) → Q .none ⟨h', g, d, t, os⟩) :
    wpAny (model prog w) A (call (.ref u) []) Q E ⟨h, g, d, t, os⟩ := by
  obtain ⟨nm, N', qn, bs, bm, hdct, sn, sub, ab, col, dd, k0, k1, k2, k3, k5, hC, hT⟩ := excInit_of X q
  refine wpAny_call (codeAny_of_tree ?_)
  show wpAny _ A.in1 (callAny (.ref u) ⟨[], []⟩) _ _ _
  simp only [callAny]
  refine wpAny_bind (wpAny_load hu ?_)
  simp only [kxs_mw, show (Value.type "method-wrapper" == Value.type "method" || Value.type "method-wrapper" == Value.type "builtin_function_or_method" || Value.type "method-wrapper" == Value.type "method-wrapper") = true by decide, if_true]
  refine KFB.if_so (by decide) ?_
  refine wpAny_bind (check_bound_init FB.toExcCallFacts hC he rfl ?_)
  refine wpAny_bind (wpAny_pure (wpAny_pure ?_))
  refine ⟨plainId_quiet FB.init.plain _, codeAny_builtin FB.initEntry ?_⟩
  rw [Around.under_plainId FB.init.plain _]
  wp_walk
  refine hq _ h.objs.size (fun b o hb ho => ?_) ?_
  · rw [Heap.get?_update_other _ _ (Ne.symm hb)]
    exact Heap.get?_push_of_some _ ho
  · rw [Heap.get?_update_self _ (Heap.get?_push_of_some _ he) rfl]
    rfl
/-- self.f = v, the first one, over any built-in base -/
theorem osa_first {B : String} {bmB : List Value} (SF : StoreFacts B bmB "object.__setattr__" "object") {R : Result → Shared → Prop} {name : Str} {tk : Tok} {v : Value} {x C : Addr} {fv : Array Value} {cd : ClassData} {bm : List Value}
    (X : K.In h) (hx : h.get? x = some { cls := .ref C, data := .fields fv }) (hcd : clsIn K C = some cd) (ho : cd.mro = .ref C :: bm) (ht : excTail bmB bm = true) (hh : cd.hasDict = true) (ha : findIn K (.ref C) name = some none)
    (hq : ∀ h' tk' dx, (∀ b o, b ≠ x → h.get? b = some o → h'.get? b = some o) → h.objs.size ≤ dx → dx ≠ x → h'.get? x = some { cls := .ref C, dict := some dx, data := .fields fv } →
      h'.Ns1 dx (fun y => if y = name then some v else none) → R (.ok (.ret .none)) ⟨h', g, d, tk', os⟩) :
    codeAny (model prog w) A (.call (.builtin "object.__setattr__") ⟨[.ref x, .str name tk, v], []⟩) R ⟨h, g, d, t, os⟩ := by
  have I : InstAt h x { cls := .ref C, data := .fields fv } C none := ⟨hx, rfl, rfl, trivial⟩
  have SO := F.store_object
  have ne : cd.mro.isEmpty = false := by rw [ho]; rfl
  have hxs : x ≠ h.objs.size := Nat.ne_of_lt (Heap.lt_size hx)
  have sub : Looks (model prog w) h (isInstance (.ref x) (.type "object")) true := I.type.andThen (looks_mroIn X (by
    unfold mroIn
    rw [hcd, Option.bind_some, if_neg (by rw [ne]; decide), ho, List.contains_cons, excTail_contains "object" _ ht, SF.hasOwner, Bool.or_true]))
  refine codeAny_call_builtin SO.slot.plain SO.entry (@check_slot (model prog w) _ _ ⟨h, g, d, t, os⟩ "object.__setattr__" "object" "__setattr__" (.ref x) [.str name tk, v] [] _ SO.kind SO.split sub (SO.args (.ref x) (.str name tk) v) ?_)
  have a1 : Looks (model prog w) h (mroOf (.ref C)) cd.mro := (looks_clsIn X hcd).andThen .now
  have a2 : Looks (model prog w) h (storeTaker? none) none := .now
  have a3 : Looks (model prog w) h (classData C) cd := looks_clsIn X hcd
  rw [osa_eq, refuse_eq]
  refine wpAny_bind (wpAny_bind (I.type.at (wpAny_bind (a1.at ?_))))
  rw [ho, refuseLoop_ref, excTail_pass _ (SF.passes _) _ ht]
  refine wpAny_pure (wpAny_bind (I.type.at (wpAny_bind ((looks_findIn X ha).at (wpAny_bind (a2.at ?_))))))
  show wpAny _ _ (storeInOwnDict (.ref x) (.ref C) (.str name tk) name v false) _ _ _
  clear ho ne sub a1
  obtain ⟨nm, bs, mro, ns, qn, hd, sn, sb, ab, col, del⟩ := cd
  dsimp only at hh
  subst hh
  unfold storeInOwnDict ownDictForStores
  repeat (first | with_reducible refine store_in_new ?_ ?_ | with_reducible refine wpAny_loadPart_at hx ?_ | with_reducible refine a3.at ?_ | wp_step)
  · exact ⟨_, #[], _, (Heap.get?_update_ne _ _ _ _ hxs.symm).trans (Heap.get?_push_at rfl rfl), rfl, fun e he => absurd he (by simp), fun _ => rfl⟩
  · intro h' tk' hn' hs
    have hx₁ : (h.push { cls := .type "dict", data := .dict #[] }).get? x = some { cls := .ref C, data := .fields fv } := Heap.get?_push_of_some _ hx
    refine hq h' tk' h.objs.size (fun b o hb ho => ?_) (Nat.le_refl _) hxs.symm ?_ hn'
    · exact (hs.2 b (Nat.ne_of_lt (Heap.lt_size ho))).trans ((Heap.get?_update_ne _ _ _ _ hb).trans (Heap.get?_push_of_some _ ho))
    · exact (hs.2 x hxs).trans (Heap.get?_update_self _ hx₁ rfl)
end
section
variable {prog : Program} {w : World} {A : Around} {R : Result → Shared → Prop} {s : Shared} {K : Frag} {mg mb : Str → Option Value} {C fI : Addr} {f : Str} {file : Str} {B newId initId : String} {bmB : List Value}
theorem xS_lookups (h : goodF f = true) : (xS f).names.lookup ("self" : Str) = some .local ∧ (xS f).names.lookup f = some .local ∧ (xS f).names.lookup ("super" : Str) = some .globalImplicit ∧ (xS f).names.lookup ("__class__" : Str) = some .free := by
  unfold goodF at h
  simp only [Bool.and_eq_true, bne_iff_ne, ne_eq] at h
  obtain ⟨h1, h2, h3, h4⟩ := h
  have e1 : (f == ("self" : Str)) = false := by simpa using h1
  have e2 : (("super" : Str) == f) = false := by simpa using fun z : ("super" : Str) = f => h3 z.symm
  have e3 : (("__class__" : Str) == f) = false := by simpa using fun z : ("__class__" : Str) = f => h2 z.symm
  refine ⟨rfl, ?_, ?_, ?_⟩
  · show (match f == ("self" : Str) with | true => some NameKind.local | false => List.lookup f _) = _
    rw [e1]
    simp [List.lookup]
  · show (match ("super" : Str) == f with | true => some NameKind.local | false => List.lookup ("super" : Str) _) = _
    rw [e2]
    rfl
  · show (match ("__class__" : Str) == f with | true => some NameKind.local | false => List.lookup ("__class__" : Str) _) = _
    rw [e3]
    rfl
/-- the call's binding, for one field -/
def BindsX (f : Str) : Prop := ∀ (nm qual : Str) (p1 p2 : Pos) (body : List Stmt) (kV doc pm : Value) (an : Option Addr) (cdv ct : Value) (cc x : Addr) (v : Value), bindArgs (ksFn nm qual (xA f p1 p2) body (xS f) .none kV doc pm an cdv ct cc) ⟨[.ref x, v], []⟩ = pure [(("self" : Str), Value.ref x), (f, v)]
/-- super().__init__(); self.f = f -/
theorem sup_init (T : XTxt file K C fI f B newId initId bmB) (hbd : BindsX f) (KF : KxsFacts B initId) (FB : ExcBaseFacts B newId initId bmB) (SF : StoreFacts B bmB "object.__setattr__" "object") (hfile : ((prog.main.file : Str) == file) = true) (htop : (prog.main.scope.names.lookup ("super" : Str)).isSome = false)
    {x t0 : Addr} {v : Value} (X : K.In s.heap) (hlim : s.heap.NoLimit) (hg : s.heap.Ns mainGlobals mg) (hmg : mg "super" = none) (hb : s.heap.Ns builtinsNs mb) (hmb : mb "super" = some (.type "super")) (hx : s.heap.get? x = some (excO C t0)) (hnx : K.lookup x = none) (hroom : A.depth < recursionLimit)
    (hq : ∀ h' tk dx t1, XEnd s.heap h' x C dx t1 f v → R (.ok (.ret .none)) { s with heap := h', toks := tk }) :
    codeAny (model prog w) A (.call (.ref fI) ⟨[.ref x, v], []⟩) R s := by
  obtain ⟨oc, od, nm, qual, kV, doc, pm, an, ct, cc, cda, osl, p1, p2, p0, r1, r2, r3, r4, q1, q2, q3, q4, ccl, cl, cdd, cld, vs, ccs, csl, tf, ho, hcd, hline, hco, hvs, hcc⟩ := T.fn
  obtain ⟨cd, hcl, hdict, bm, hmro, htail⟩ := T.hd
  obtain ⟨n1, n2, n3, n4⟩ := xS_lookups T.good
  have gd := T.good
  unfold goodF at gd
  simp only [Bool.and_eq_true, bne_iff_ne, ne_eq] at gd
  obtain ⟨g1, g2, g3, g4⟩ := gd
  have bself : ([(("self" : Str), Value.ref x), (f, v)] : List (Str × Value)).reverse.lookup ("self" : Str) = some (.ref x) := by
    have e1 : (("self" : Str) == f) = false := by simpa using fun z : ("self" : Str) = f => g1 z.symm
    show List.lookup ("self" : Str) [(f, v), (("self" : Str), Value.ref x)] = _
    rw [List.lookup_cons, e1]
    rfl
  have bf : ([(("self" : Str), Value.ref x), (f, v)] : List (Str × Value)).reverse.lookup f = some v := by
    show List.lookup f [(f, v), (("self" : Str), Value.ref x)] = _
    simp [List.lookup]
  have hxL : s.heap.objs.size ≠ x := Nat.ne_of_gt (Heap.lt_size hx)
  refine ks_codeAny_call_defAt (fd := ksFn nm qual (xA f p1 p2) (xB f p0 r1 r2 r3 r4 q1 q2 q3 q4) (xS f) .none kV doc pm an (.ref cda) ct cc) (body := xB f p0 r1 r2 r3 r4 q1 q2 q3 q4) (binds := [(("self" : Str), .ref x), (f, v)]) hroom (X _ _ ho) rfl hlim (codeRec_of X hcd) rfl ?_ ?_ ?_ (fun h₁ hns k₁ => ?_)
  · exact BindsTo.of_eq (hbd ..)
  · intro y hy
    simp only [xS, List.mem_cons, List.not_mem_nil, or_false] at hy
    rcases hy with rfl | rfl | rfl | rfl <;> (intro z; cases z)
  · intro y hy
    simp only [List.mem_cons, List.not_mem_nil, or_false] at hy
    rcases hy with rfl | rfl
    · exact n1
    · exact n2
  · obtain ⟨hp, g, d, tk, os⟩ := s
    have X₁ : K.In h₁ := X.keeps k₁
    have hx₁ := k₁ _ _ hx
    have L1 := hns.lt
    have env_eq : callEnv (ksFn nm qual (xA f p1 p2) (xB f p0 r1 r2 r3 r4 q1 q2 q3 q4) (xS f) .none kV doc pm an (.ref cda) ct cc) hp.objs.size fI = ksEnv qual (xS f) hp.objs.size fI (.ref cda) cc := rfl
    rw [env_eq]
    have he : ∀ pl : Sem Bool, pl = (do return (← importBound (.Call (.Name "super" p0) [] [] r1) (ksEnv qual (xS f) hp.objs.size fI (.ref cda) cc)).getD true) → eval (.Call (.Attribute (.Call (.Name "super" p0) [] [] r1) "__init__" r2) [] [] r3) (ksEnv qual (xS f) hp.objs.size fI (.ref cda) cc) = (do
        let ov ← attributeBase (.Call (.Name "super" p0) [] [] r1) "__init__" (ksEnv qual (xS f) hp.objs.size fI (.ref cda) cc) (eval (.Call (.Name "super" p0) [] [] r1) (ksEnv qual (xS f) hp.objs.size fI (.ref cda) cc))
        standAt r2.atName
        let (g0, first) ← holding [ov] (getMethod ov "__init__" pl)
        callWith r3 g0 first (backTo r3 (starEach [] (ksEnv qual (xS f) hp.objs.size fI (.ref cda) cc))) []) := fun pl hpl => by
      subst hpl
      have hpos : methodCallPos true (.Call (.Name "super" p0) [] [] r1) (ksEnv qual (xS f) hp.objs.size fI (.ref cda) cc) r2 r3 = pure r3 := by unfold methodCallPos; simp [hline]
      have e1 : ∀ ov : Value, methodCall (.Call (.Name "super" p0) [] [] r1) "__init__" r2 r3 (ksEnv qual (xS f) hp.objs.size fI (.ref cda) cc) ov (([] : List Expr).length + ([] : List Keyword).length) (backTo r3 (starEach [] (ksEnv qual (xS f) hp.objs.size fI (.ref cda) cc))) (backToKw r3 (keywordEach [] (ksEnv qual (xS f) hp.objs.size fI (.ref cda) cc))) =
          (holding [ov] (calleeOf true (.Call (.Name "super" p0) [] [] r1) (ksEnv qual (xS f) hp.objs.size fI (.ref cda) cc) ov "__init__") >>= fun q => methodCallPos true (.Call (.Name "super" p0) [] [] r1) (ksEnv qual (xS f) hp.objs.size fI (.ref cda) cc) r2 r3 >>= fun ps => callWith ps q.1 q.2 [] []) := fun ov => rfl
      rw [arm_eval_Call]
      simp only [e1, hpos, pure_bind]
      rfl
    refine ks_wpAt_execs_cons (ks_wpAt_Expr_any (ks_wpAt_MethodCall (he := he _ rfl) ?_))
    refine ks_wpAt_super_base (env := ksEnv qual (xS f) hp.objs.size fI (.ref cda) cc) n3 n4 rfl rfl (k₁ _ _ (X _ _ ho)) rfl rfl rfl (X₁ _ _ hco) rfl hvs hfile htop ?_
    refine ks_loadName_global rfl n3 (loadGlobal_builtin (env := ksEnv qual (xS f) hp.objs.size fI (.ref cda) cc) (hg.keeps k₁) hmg (hb.keeps k₁) hmb ⟨rfl, ?_⟩)
    refine wpAny_loadName_free rfl n4 rfl ⟨_, X₁ _ _ hcc, rfl⟩ ?_
    refine wpAny_loadName_local rfl n1 hns bself ?_
    obtain ⟨oC, hC1, hC2⟩ : ∃ oC, h₁.get? C = some oC ∧ oC.data = .cls cd := by
      unfold clsIn at hcl
      split at hcl
      · rename_i c' d' cd' sl' ho'
        cases hcl
        exact ⟨_, X₁ _ _ ho', rfl⟩
      · cases hcl
    refine ks_wpAny_isType_cls hC1 hC2 ⟨rfl, ?_⟩
    have hxc : x ≠ C := fun z => by
      rw [z] at hnx
      unfold clsIn at hcl
      rw [hnx] at hcl
      cases hcl
    refine ks_wpAny_call_super hC1 hC2 hx₁ rfl (fun c e => by cases e) (looks_mroIn X₁ T.mr) (fun h₂ hso k₂ => ?_)
    have X₂ : K.In h₂ := X₁.keeps k₂
    have I₂ : InstAt h₂ x (excO C t0) C none := ⟨k₂ _ _ hx₁, rfl, rfl, trivial⟩
    have hsup := T.sup
    unfold ks_superIn at hsup
    rw [hcl, Option.bind_some] at hsup
    refine kxs_getMethod KF hso (looks_opaque X₂ T.op) (l₀ := cd.mro) ((looks_clsIn X₂ hcl).andThen .now) rfl X₂ hsup (I₂.type.andThen (looks_subIn X₂ T.sB)) hxc rfl ?_
    have k₃ : ∀ b o, h₂.get? b = some o → (h₂.push (kxs_mw initId x)).get? b = some o := fun b o e => Heap.get?_push_of_some _ e
    refine kxs_callWith (i := initId) (x := x) rfl (evalArgs_empty ⟨Heap.get?_push_at rfl rfl, ?_⟩)
    refine call_wrap FB (X₂.keeps k₃) T.ex (k₃ _ _ (k₂ _ _ hx₁)) (Heap.get?_push_at rfl rfl) fun h₄ t4 k₄ hx₄ => ?_
    have kx : ∀ b o, b ≠ x → h₁.get? b = some o → h₄.get? b = some o := fun b o hb e => k₄ b o hb (k₃ _ _ (k₂ _ _ e))
    have X₄ : K.In h₄ := fun b o e => kx b o (fun z => by rw [z, hnx] at e; cases e) (X₁ b o e)
    have hns₄ := hns.at (h' := h₄) fun o e => kx _ o hxL e
    have L4 := hns₄.lt
    show wpAt _ _ _ (execs [.Assign [.Attribute (.Name "self" q1) f q2] (.Name f q3) q4] _) _ _ _
    refine wpAt_of_wpAny (wpAny_execs_cons (plainObj_wpAny_Assign_Attribute ?_))
    refine wpAny_Name (wpAny_loadName_local rfl n2 hns₄ bf ?_) (by simpa using g4)
    refine wpAny_Name (wpAny_loadName_local rfl n1 hns₄ bself ?_) rfl
    refine set_plain X₄ (ox := excO C t4) (od := none) ⟨hx₄, rfl, rfl, trivial⟩ T.sa ?_
    refine osa_first SF X₄ hx₄ hcl hmro htail hdict T.noN (fun h₅ tk₅ dx k₅ dn dne hx₅ hn₅ => ?_)
    show wpAny _ _ (execs _ _) _ _ _
    exact wpAny_execs_nil (hq h₅ tk₅ dx t4 ⟨fun b o hb e => k₅ b o hb (kx b o hb (k₁ b o e)), hx₅, Nat.le_of_lt (Nat.lt_of_lt_of_le L4 dn), dne, hn₅⟩)
/-- a made exception -/
structure XMade (h h' : Heap) (e C d : Addr) (f : Str) (v : Value) : Prop where
  keep : ∀ b o, h.get? b = some o → h'.get? b = some o
  new : h.objs.size ≤ e
  obj : ∃ oe vs, h'.get? e = some oe ∧ oe.cls = .ref C ∧ oe.dict = some d ∧ oe.data = .fields vs ∧ vs[1]? = some .none ∧ vs.size = 6
  dbig : h.objs.size ≤ d
  dne : d ≠ e
  ns : h'.Ns1 d (fun y => if y = f then some v else none)
/-- C(v) -/
theorem x_made (T : XTxt file K C fI f B newId initId bmB) (hbd : BindsX f) (KF : KxsFacts B initId) (FB : ExcBaseFacts B newId initId bmB) (SF : StoreFacts B bmB "object.__setattr__" "object") (hfile : ((prog.main.file : Str) == file) = true) (htop : (prog.main.scope.names.lookup ("super" : Str)).isSome = false)
    {v : Value} (X : K.In s.heap) (hlim : s.heap.NoLimit) (hg : s.heap.Ns mainGlobals mg) (hmg : mg "super" = none) (hb : s.heap.Ns builtinsNs mb) (hmb : mb "super" = some (.type "super")) (hroom : A.depth + 1 < recursionLimit)
    (hq : ∀ h' tk e d, XMade s.heap h' e C d f v → R (.ok (.ret (.ref e))) { s with heap := h', toks := tk }) :
    codeAny (model prog w) A (.call (.ref C) ⟨[v], []⟩) R s := by
  obtain ⟨nm, N', qn, bs, bm, hdct, sn, sub, ab, col, dd, k0, k1, k2, k3, k5, hC, hT⟩ := excInit_of X T.ex
  obtain ⟨hp, g, dr, tk, os⟩ := s
  have k : ∀ b o, hp.get? b = some o → ((hp.push (kdv_tup [v])).push (excO C hp.objs.size)).get? b = some o := fun b o e => Heap.get?_push_of_some _ (Heap.get?_push_of_some _ e)
  have here : ((hp.push (kdv_tup [v])).push (excO C hp.objs.size)).get? (hp.objs.size + 1) = some (excO C hp.objs.size) := by heap_get
  have hnx : K.lookup (hp.objs.size + 1) = none := by
    cases e : K.lookup (hp.objs.size + 1) with
    | none => rfl
    | some o =>
      have z : hp.get? (hp.objs.size + 1) = some o := X _ _ e
      exact absurd (Nat.lt_of_succ_lt (Heap.lt_size z)) (Nat.lt_irrefl _)
  refine call_own FB hT hC (looks_findIn X T.iC) (fun self => bind_fn X self T.tC) (by rw [sizeLine_eq]; exact (by decide : 1 ≤ 16777216)) ?_
  refine sup_init (s := ⟨(hp.push (kdv_tup [v])).push (excO C hp.objs.size), g, dr, tk, os⟩) T hbd KF FB SF hfile htop (X.keeps k) (hlim.keeps k) (hg.keeps k) hmg (hb.keeps k) hmb here hnx ?_ fun h' tk' dx t1 D => ?_
  · show A.depth + 1 < recursionLimit
    exact hroom
  · have old : ∀ b o, hp.get? b = some o → h'.get? b = some o := fun b o e => D.keep b o (Nat.ne_of_lt (Nat.lt_succ_of_lt (Heap.lt_size e))) (k b o e)
    have z : hp.objs.size + 1 + 1 ≤ dx := by
      have q := D.dbig
      simpa only [Heap.size_push] using q
    exact ⟨rfl, hq h' tk' (hp.objs.size + 1) dx ⟨old, Nat.le_succ _, ⟨_, _, D.obj, rfl, rfl, rfl, rfl, rfl⟩, Nat.le_trans (Nat.le_trans (Nat.le_succ _) (Nat.le_succ _)) z, D.dne, D.ns⟩⟩
end
end TmX
end PySem
namespace PySem
namespace TmX
open PySem.W PySem.Calls PyProof.Rows PySem.HandSPX
/-- such an __init__, as it stands -/
def fnB (file : Str) (K : Frag) (C fI : Addr) (f : Str) : Bool := match K.lookup fI with
  | some ⟨_, _, .func ⟨_, qual, ⟨[], [⟨a1, none, _⟩, ⟨a2, none, _⟩], none, [], [], none, []⟩, .stmts [.Expr (.Call (.Attribute (.Call (.Name s1 _) [] [] _) s2 r2) [] [] r3) _, .Assign [.Attribute (.Name s3 _) s4 _] (.Name s5 _) _], ⟨.function, [(m1, .local), (m2, .local), (m3, .free), (m4, .globalImplicit)], false, false, []⟩, gl, [(cn, cc)], .none, _, _, _, _, .ref cda, _, bl⟩, _⟩ =>
    (a1 == "self" && a2 == f && s1 == "super" && s2 == "__init__" && s3 == "self" && s4 == f && s5 == f && m1 == "self" && m2 == f && m3 == "__class__" && m4 == "super" && cn == "__class__" && decide (gl = mainGlobals) && decide (bl = builtinsNs) && codeIn K (.ref cda) qual && (r2.endLine == r3.line)) &&
    (match K.lookup cda with
      | some ⟨_, _, .fields vs, _⟩ => (match (vs[2]? : Option Value) with
        | some (Value.str fl _) => fl == file
        | _ => false)
      | _ => false) &&
    (match K.lookup cc with
      | some ⟨_, _, .cell (some (.ref D)), _⟩ => decide (D = C)
      | _ => false)
  | _ => false
def hdB (K : Frag) (C : Addr) (bmB : List Value) : Bool := match clsIn K C with
  | some cd => cd.hasDict && (match cd.mro with
    | .ref C' :: bm => decide (C' = C) && excTail bmB bm
    | _ => false)
  | none => false
def xtB (file : Str) (K : Frag) (C fI : Addr) (f : Str) (B newId initId : String) (bmB : List Value) : Bool :=
  goodF f && excInitIn K C bmB newId && hdB K C bmB && decide (findIn K (.ref C) "__setattr__" = some (some (.builtin "object.__setattr__"))) && decide (findIn K (.ref C) "__getattribute__" = some (some (.builtin "BaseException.__getattribute__"))) && decide (findIn K (.ref C) "__getattr__" = some none) && decide (findIn K (.ref C) f = some none) &&
  decide (findIn K (.ref C) "__init__" = some (some (.ref fI))) && decide (typeIn K (.ref fI) = some (.type "function")) && keepIn K (.ref C) && decide (subIn K (.ref C) (.type "BaseException") = some true) && decide (typeIn K (.ref C) = some (.type "type")) && hasDictIn K C && decide (ks_superIn K C C "__init__" = some (some (.builtin initId))) &&
  decide (subIn K (.ref C) (.type B) = some true) && decide (mroIn K C (.ref C) = some true) && decide (nsIn K cStatics "thirdparty.any" = some none) && fnB file K C fI f
theorem xtB_ok {file : Str} {K : Frag} {C fI : Addr} {f : Str} {B newId initId : String} {bmB : List Value} (h : xtB file K C fI f B newId initId bmB = true) : XTxt file K C fI f B newId initId bmB := by
  unfold xtB at h
  simp only [Bool.and_eq_true, decide_eq_true_eq] at h
  obtain ⟨⟨⟨⟨⟨⟨⟨⟨⟨⟨⟨⟨⟨⟨⟨⟨⟨h1, h2⟩, h3⟩, h4⟩, h5⟩, h6⟩, h7⟩, h8⟩, h9⟩, h10⟩, h11⟩, h12⟩, h13⟩, h14⟩, h15⟩, h16⟩, h17⟩, h18⟩ := h
  refine ⟨h1, h2, ?_, h4, h5, h6, h7, h8, h9, h10, h11, h12, h13, h14, h15, h16, h17, ?_⟩
  · unfold hdB at h3
    split at h3
    · rename_i cd e
      rw [Bool.and_eq_true] at h3
      obtain ⟨a, b⟩ := h3
      split at b
      · rename_i C' bm em
        rw [Bool.and_eq_true, decide_eq_true_eq] at b
        obtain ⟨rfl, b⟩ := b
        exact ⟨cd, e, a, bm, em, b⟩
      · cases b
    · cases h3
  · unfold fnB at h18
    split at h18
    · rename_i e
      simp only [Bool.and_eq_true, beq_iff_eq, decide_eq_true_eq] at h18
      obtain ⟨⟨⟨⟨⟨⟨⟨⟨⟨⟨⟨⟨⟨⟨⟨⟨⟨rfl, rfl⟩, rfl⟩, rfl⟩, rfl⟩, rfl⟩, rfl⟩, rfl⟩, rfl⟩, rfl⟩, rfl⟩, rfl⟩, rfl⟩, rfl⟩, q1⟩, q2⟩, q3⟩, q4⟩ := h18
      split at q3
      · rename_i e3
        split at q3
        · rename_i e5
          split at q4
          · rename_i e4
            rw [beq_iff_eq] at q3
            rw [decide_eq_true_eq] at q4
            subst q3 q4
            exact ⟨_, _, _, _, _, _, _, _, _, _, _, _, _, _, _, _, _, _, _, _, _, _, _, _, _, _, _, _, _, _, _, e, q1, by rw [beq_iff_eq]; exact q2, e3, e5, e4⟩
          · cases q4
        · cases q3
      · cases q3
    · cases h18
end TmX
end PySem

/-! X1: own exceptions made and raised, calls that may raise at the caller's slots, what a suite asks of the error it holds. -/
namespace L2
open PySem PySem.Spec PyProof.Rows
/-- C(e): the field f keeps the argument -/
def tMkX (C : Addr) (f : Str) (ta : TA) : St → Hp → XK → Prop := fun σ H Q => ta σ H fun vs H1 => ∃ v, vs = [v] ∧ ∀ d, H1 d = none → Q (.ref C) (some d) (upd H1 d (.xd [(f, v)]))
theorem relO_one {f : Str} {v : V} {u : Value} (r : RelV v u) (g : Str) : RelO (List.lookup g [(f, v)]) (if g = f then some u else none) := by
  by_cases h : g = f
  · subst h
    rw [if_pos rfl, show List.lookup g [(g, v)] = some v by simp [List.lookup]]
    exact r
  · rw [if_neg h, show List.lookup g [(f, v)] = none by simp [List.lookup, show (g == f) = false by simpa using h]]
    trivial
/-- the built-in class above an own exception -/
structure XBase (B newId initId : String) (bmB : List Value) : Prop where
  kf : PySem.W.KxsFacts B initId
  fb : ExcBaseFacts B newId initId bmB
  sf : StoreFacts B bmB "object.__setattr__" "object"
theorem xb_ValueError : XBase "ValueError" "ValueError.__new__" "ValueError.__init__" [.type "ValueError", .type "Exception", .type "BaseException", .type "object"] := ⟨PySem.W.kxs_ValueError, F.excBase_ValueError, F.store_ValueError⟩
section
variable {X : Cx} {C fI : Addr} {f : Str} {file : Str} {B newId initId : String} {bmB : List Value}
theorem pmk_x {a : Expr} {ta : TA} {x : Str} {p pos : Pos} {k : Nat} (T : PySem.TmX.XTxt file X.K C fI f B newId initId bmB) (hbd : PySem.TmX.BindsX f) (XB : XBase B newId initId bmB) (hfile : ((X.prog.main.file : Str) == file) = true) (htop : (X.prog.main.scope.names.lookup ("super" : Str)).isSome = false)
    (hsup : X.mg "super" = none) (hr : Room k X.A) (hk : 2 ≤ k) (hm : X.mg x = some (.ref C)) (ha : PA X [a] ta) (hg : Gl X x := by rfl) (hdb : (x == ("__debug__" : Str)) = false := by decide)
    (he : starEach (a :: []) X.env = (false, eval a X.env) :: starEach [] X.env := by rfl) (hpl : (backTo pos (starEach [] X.env)).any (·.1) = false := by rfl) :
    PMk X (.Call (.Name x p) [a] [] pos) (tMkX C f ta) := by
  intro pins s σ H Q I h
  refine wpAny_Call_Name_kw (ld_glob I hg hm ?_ hdb)
  refine PySem.W.callWith_K (h₀ := X.base) I.ok.mod.kin T.kC (thn (ha.run pos pins s σ H _ I h) fun us s1 hh => ?_) he hpl
  obtain ⟨vs, H1, I1, r1, v, ev, q1⟩ := hh
  subst ev
  refine ⟨I1.kIn, ?_⟩
  cases r1 with
  | @cons _ u0 _ ur rv rr =>
    cases rr
    obtain ⟨mb, hb1, hb2⟩ := I1.mod.blt
    obtain ⟨hp, g, dr, tk, os⟩ := s1
    show wpAny _ _ (call (.ref C) [u0]) _ _ _
    refine wpAny_call (PySem.TmX.x_made (s := ⟨hp, g, dr, tk, os⟩) (mg := X.mg) (mb := mb) T hbd XB.kf XB.fb XB.sf hfile htop I1.kIn (I1.mod.nolimit.keeps I1.bk) (I1.mod.glob.keeps I1.bk) hsup (hb1.keeps I1.bk) ((hb2 "super" (by decide)).trans (by decide +kernel)) ?_ fun h' tk' e d M => ?_)
    · have := hr.dp
      omega
    · show MkP X pins σ Q (.ref e) ⟨h', g, dr, tk', os⟩
      obtain ⟨oe, fv, hoe, hc, hd, hdat, h1, _⟩ := M.obj
      have hns := M.ns
      obtain ⟨G', g1, g2⟩ := restrict h' fun b => decide (b ≠ e)
      have gk : ∀ b, b ≠ e → G'.get? b = h'.get? b := fun b hb => g1 b (decide_eq_true hb)
      have ge : G'.get? e = none := g2 e (by simp)
      have old : ∀ b o, hp.get? b = some o → G'.get? b = some o := fun b o q => (gk b (Nat.ne_of_lt (Nat.lt_of_lt_of_le (Heap.lt_size q) M.new))).trans (M.keep b o q)
      have ob : ObjOk X.prog X.w (upd H1 d (.xd [(f, v)])) G' d (.xd [(f, v)]) := ⟨_, hns.at (fun o q => (gk d M.dne).trans q), fun g => relO_one rv g⟩
      have J : Inv X pins σ (upd H1 d (.xd [(f, v)])) ⟨G', g, dr, tk', os⟩ := I1.laid (t' := tk') old M.dbig ob
      refine ⟨e, oe, fv, ⟨G', g, dr, tk', os⟩, _, .ref C, some d, rfl, J, fun b o q => ?_, ge, hoe, ⟨hc, hd⟩, hdat, h1, ?_, rfl, I1.bare, raises_own T.exC T.tyC, q1 d (I1.hok.fresh M.dbig)⟩
      · by_cases hb : b = e
        · have q' : G'.get? b = some o := q
          rw [hb, ge] at q'
          cases q'
        · exact (gk b hb).symm.trans q
      · rw [upd_ne (Ne.symm M.dne)]
        exact I1.hok.fresh M.new
end
end L2
namespace PySem.W
open PySem PySem.Spec PySem.Calls PyProof.Rows
section
variable {prog : Program} {w : World} {A : Around} {E : Value → Shared → Prop} {s : Shared} {K : Frag} {x D : Addr} {ox : Obj} {od : Option Obj}
/-- a slot of the class that takes stores goes ahead of the own dict -/
theorem find_first {C : Addr} {name : Str} {a g : Value} (hc : (clsIn K C).isSome = true) (ha : findIn K (.ref C) name = some (some a)) (hg : specialIn K a "__get__" = some (some g)) (ht : takesIn K a = some true) : findObj K C od name = some (.bind g a) := by
  obtain ⟨cd, e⟩ := Option.isSome_iff_exists.mp hc
  unfold findObj
  simp [e, ha, hg, ht]
/-- e.__class__ of an own error, whatever its dict -/
theorem cls_of_err {Q : Option Value → Shared → Prop} (G : L2.ExcC K D) (X : K.In s.heap) (I : InstAt s.heap x ox D od) (h : Q (some (.ref D)) { s with toks := s.toks + 1 }) : wpAny (model prog w) A (getAttr? (.ref x) "__class__") Q E s := by
  have hf : findObj K D od "__class__" = some (.bind (.builtin "getset_descriptor.__get__") (.builtin "object.__class__")) := find_first (by obtain ⟨cd, hc, _⟩ := any_some G.hd; rw [hc]; rfl) G.ha G.hn G.ht
  obtain ⟨hp, g, d, t, os⟩ := s
  have a0 := I.type (M := model prog w)
  have a1 := looks_findIn (M := model prog w) X G.hg
  have a2 := looks_findIn (M := model prog w) X G.hk
  have a3 := looks_find (M := model prog w) X I hf
  have sb : Looks (model prog w) hp (isInstance (.ref x) (.type "BaseException")) true := a0.andThen (looks_subIn X G.hs)
  have n0 : (false && onTheHeap (Value.builtin "BaseException.__getattribute__")) = false := rfl
  have n2 : (Value.builtin "BaseException.__getattribute__" == Value.builtin "object.__getattribute__") = false := by decide +kernel
  have n1 : (onTheHeap (Value.ref D) && Value.builtin "BaseException.__getattribute__" == Value.builtin "object.__getattribute__") = false := by rw [n2]; rfl
  unfold getAttr? getAttrBy? getAttrBy
  refine wpAny_bind (wpAny_mkText (wpAny_bind (wpAny_attempt (wpAny_holding (wpAny_bind (a0.at (wpAny_bind (a1.at ?_))))))))
  show wpAny _ _ (if (onTheHeap (Value.ref D) && Value.builtin "BaseException.__getattribute__" == Value.builtin "object.__getattribute__") = true then _ else _) _ _ _
  rw [n1, if_neg Bool.false_ne_true]
  unfold getAttrByItsOwn hookBefore
  refine wpAny_bind ?_
  rw [if_pos (show onTheHeap (Value.ref D) = true from rfl)]
  refine a2.at (wpAny_bind (wpAny_attempt (wpAny_holding ?_)))
  unfold callGetattribute
  rw [n0, if_neg Bool.false_ne_true]
  unfold boundAndCalled
  rw [PySem.F.excAttr_ValueError.ga.bind (.ref x)]
  refine wpAny_bind (wpAny_pure ?_)
  show wpAny _ _ (call (.builtin "BaseException.__getattribute__") [.ref x, .str "__class__" t]) _ _ _
  refine wpAny_call (codeAny_call_builtin PySem.F.excAttr_ValueError.ga.plain PySem.F.entry_bexc_ga (@check_slot (model prog w) _ _ ⟨hp, g, d, t + 1, os⟩ "BaseException.__getattribute__" "BaseException" "__getattribute__" (.ref x) [.str "__class__" t] [] _ (by decide +kernel) (by decide +kernel) sb (PySem.F.args_bexc_ga (.ref x) (.str "__class__" t)) ?_))
  unfold Builtin.«object.__getattribute__»
  refine wpAny_bind (wpAny_of_eq (a := ((Value.ref x : Value), [Value.str "__class__" t])) (by first | rfl | (simp only [slotArgs]; rfl)) (wpAny_bind (wpAny_pure (wpAny_bind (a0.at (wpAny_bind (a3.at ?_)))))))
  show wpAny _ _ (holding [Value.builtin "object.__class__"] (call (.builtin "getset_descriptor.__get__") [.builtin "object.__class__", .ref x, .ref D]) >>= ret) _ _ _
  refine wpAny_bind (wpAny_holding (wpAny_call (class_get (s := ⟨hp, g, d, t + 1, os⟩) X I G.hm (wpAny_pure ?_))))
  show wpAny _ _ (handedOut (.ref D)) _ _ _
  rw [handedOut_of (v := .ref D) rfl]
  first
    | exact wpAny_pure (wpAny_pure h)
    | exact wpAny_pure h
    | exact wpAny_pure (wpAny_bind (wpAny_pure (wpAny_pure h)))
theorem kit_err (G : L2.ExcC K D) : KitX K (.ref x) (.ref D) (fun h => ∃ od, InstAt h x ox D od) where
  ty := fun _ _ _ ⟨_, I⟩ => I.type
  it := fun _ _ X _ => by
    obtain ⟨cd, hc, _⟩ := any_some G.hd
    unfold clsIn at hc
    split at hc
    · rename_i c' d' cd' sl' ho
      intro A' Q' E' s' k q
      unfold isType loadHead
      exact wpAny_bind (wpAny_loadPart (k _ _ (X _ _ ho)) (wpAny_pure q))
    · cases hc
  ne := fun h tp dd its n sl X htp => by
    obtain ⟨cd, hc, _⟩ := any_some G.hd
    refine Bool.eq_false_iff.mpr fun q => ?_
    have e : D = tp := Value.ref.inj (beq_iff_eq.mp q)
    subst e
    unfold clsIn at hc
    split at hc
    · rename_i c' d' cd' sl' ho
      have z := (X _ _ ho).symm.trans htp
      cases z
    · cases hc
  ca := fun X ⟨_, I⟩ k => cls_of_err G X I k
end
end PySem.W
namespace L2
open PySem PySem.Spec PyProof.Rows
def excB (K : PySem.W.Frag) (D : Addr) : Bool := decide (PySem.W.findIn K (.ref D) "__getattribute__" = some (some (.builtin "BaseException.__getattribute__"))) && (decide (PySem.W.findIn K (.ref D) "__getattr__" = some none) && (decide (PySem.W.subIn K (.ref D) (.type "BaseException") = some true) && (PySem.W.hasDictIn K D && (decide (PySem.W.findIn K (.ref D) "__class__" = some (some (.builtin "object.__class__"))) &&
  (decide (PySem.W.specialIn K (.builtin "object.__class__") "__get__" = some (some (.builtin "getset_descriptor.__get__"))) && (decide (PySem.W.takesIn K (.builtin "object.__class__") = some true) && decide (PySem.W.mroIn K D (.type "object") = some true)))))))
theorem excB_ok {K : PySem.W.Frag} {D : Addr} (h : excB K D = true) : ExcC K D := by
  unfold excB at h
  simp only [Bool.and_eq_true, decide_eq_true_eq] at h
  exact ⟨h.1, h.2.1, h.2.2.1, h.2.2.2.1, h.2.2.2.2.1, h.2.2.2.2.2.1, h.2.2.2.2.2.2.1, h.2.2.2.2.2.2.2⟩
/-- isinstance of the error that a suite holds, its dict told -/
theorem call_isErr {X : Cx} {a D : Addr} {oe : Obj} {d : Option Addr} {pn : List (Addr × Obj)} (G : ExcC X.K D) (hz : Zc (.ref D) d oe) (hf : ∃ vs, oe.data = .fields vs) (hd : ∃ dd, d = some dd) : CallR (X.suite a ((a, oe) :: pn)) (.builtin "isinstance") fun xs H Q => rIsE X.K D a xs H Q ∧ ∃ (dd : Addr) (fs : List (Str × V)), d = some dd ∧ H dd = some (.xd fs) := by
  intro pins s σ H xs us Q I r h
  obtain ⟨⟨c, cv, b, rfl, hcv, e, q⟩, dd, fs, ed, hdd⟩ := h
  cases r with
  | cons rx rr =>
    cases rr with
    | cons rt rr =>
      cases rr
      cases rx
      have ec := hcv _ rt
      subst ec ed
      obtain ⟨hget, _⟩ := I.pin (a, oe) (List.mem_append.mpr (.inl List.mem_cons_self))
      obtain ⟨vs, hv⟩ := hf
      have hx : ObjOk X.prog X.w H s.heap dd (.xd fs) := I.hok dd _ hdd
      obtain ⟨mA, hns, hr⟩ := hx
      obtain ⟨od, ho, hl⟩ := lookIn_ns hns
      have J : PySem.W.InstAt s.heap a oe D (some od) := ⟨hget, hz.1, by unfold PySem.W.notCls; rw [hv] <;> rfl, by rw [hz.2]; exact ho⟩
      exact PySem.W.kia_one (PySem.W.kit_err G) I.kIn ⟨_, J⟩ e (fun z => nomatch z) fun tk => ⟨.bl b, H, I.kept (t' := tk) fun _ _ z => z, rfl, q⟩
end L2
namespace Tm
open PySem PySem.Spec PyProof.Rows L2
/-- what may leave a callee is wished for at the caller's slots -/
abbrev PassA (CX : CXT) (X : Cx) (W : WX) : Prop := ∀ σ, PassesAt CX X σ fun cls d H' => W cls d σ H'
theorem pA0 {X : Cx} {W : WX} : PassA CX0 X W := fun _ _ _ _ _ _ _ h => h.elim
theorem pAX {X : Cx} {W : WX} (tk : Takes X W) : PassA (L2.CX X.prog X.w) X W := fun σ => passAt tk σ
section
variable {X : Cx} {CX : CXT} {k : Nat} {f C : Addr} {sp : Sp} {dvs : List V} {W : WX} {x m : Str} {p pos apos : Pos} {e o : Expr} {es : List Expr} {ta : TE} {t : TA}
theorem runD {fd : FuncData} {ps : List Str} {ds : List Value} {pins : List (Addr × Obj)} {σ : L2.St} {H : Hp} {s : Shared} {Q : VK} {E : XK} {us : List Value} {vs : List V} (G : FnOk X.prog X.w X.K X.mg X.base CX k f fd ps sp) (hr : Room k X.A) (b : Binds X.K fd ps ds) (d : Vals dvs ds) (hx : PassesAt CX X σ E) (I : Inv X pins σ H s) (r : Vals vs us)
    (h : sp (vs ++ dvs) H Q E) : wpAny (model X.prog X.w) X.A (call (.ref f) us) (EP X pins σ Q) X.xe s :=
  run_fnSD (E := fun _ => E) G hr b d hx I r h
theorem pe_cA (D : Dn X.prog X.w X.K X.mg X.base CX k f dvs sp) (hr : Room k X.A) (hm : X.mg x = some (.ref f)) (hx : PassA CX X W) (ha : PA X (e :: es) t) (hg : Gl X x := by rfl) (hdb : (x == ("__debug__" : Str)) = false := by decide)
    (he : starEach (e :: es) X.env = (false, eval e X.env) :: starEach es X.env := by rfl) (hpl : (backTo pos (starEach es X.env)).any (·.1) = false := by rfl) : PE X (.Call (.Name x p) (e :: es) [] pos) fun σ H Q => tCall sp dvs (fun cls d H' => W cls d σ H') t σ H Q := by
  obtain ⟨fd, ps, ds, F, kp, r, b⟩ := D.ex
  exact pe_callSD (E := fun σ cls d H' => W cls d σ H') F hr hg hm kp b r hx ha hdb he hpl
theorem pe_c0A (D : Dn X.prog X.w X.K X.mg X.base CX k f dvs sp) (hr : Room k X.A) (hm : X.mg x = some (.ref f)) (hx : PassA CX X W) (hg : Gl X x := by rfl) (hdb : (x == ("__debug__" : Str)) = false := by decide) :
    PE X (.Call (.Name x p) [] [] pos) fun σ H Q => tCall sp dvs (fun cls d H' => W cls d σ H') tNil σ H Q := by
  obtain ⟨fd, ps, ds, F, kp, r, b⟩ := D.ex
  refine ⟨fun pins s σ H Q I h => wpAny_Call_Name_kw (ld_glob I hg hm ?_ hdb)⟩
  exact PySem.W.callWith_K0 I.kIn kp (runD (us := []) F hr b r (hx σ) I .nil h)
/-- a method's call, as it runs -/
abbrev MCall (X : Cx) (o : Expr) (m : Str) (apos pos : Pos) (es : List Expr) (pl : Sem Bool) : Prop :=
  eval (.Call (.Attribute o m apos) es [] pos) X.env = eval o X.env >>= fun v => standAt apos.atName >>= fun _ => holding [v] (getMethod v m pl) >>= fun q => callWith pos q.1 q.2 (backTo pos (starEach es X.env)) (backToKw pos (keywordEach [] X.env))
theorem pe_mA {pl : Sem Bool} (he : PE X o ta) (c : Cls X.K C) (hm : Meth X.K C m f) (D : Dn X.prog X.w X.K X.mg X.base CX k f dvs sp) (hr : Room k X.A) (hx : PassA CX X W) (ha : PA X (e :: es) t)
    (hst : starEach (e :: es) X.env = (false, eval e X.env) :: starEach es X.env := by rfl) (hpl : (backTo pos (starEach es X.env)).any (·.1) = false := by rfl) (ht : MCall X o m apos pos (e :: es) pl := by rfl) :
    PE X (.Call (.Attribute o m apos) (e :: es) [] pos) fun σ H Q => tMeth C m sp dvs (fun cls d H' => W cls d σ H') ta t σ H Q := by
  obtain ⟨fd, ps, ds, F, kp, rd, b⟩ := D.ex
  refine ⟨fun pins s σ H Q I h => PySem.W.methodCall_KW (pl := pl) (thn (he.run pins s σ H _ I h) fun u s1 z => ?_) ht⟩
  obtain ⟨x, H1, I1, rx, a, dx, fs, rfl, ea, l, q⟩ := z
  obtain rfl : u = Value.ref a := rx
  refine getmeth_ok I1 ea c hm l (PySem.W.callWith_K (first := [.ref a]) (h₀ := X.base) I.ok.mod.kin hm.kp (thn (ha.run pos pins s1 σ H1 _ I1 q) fun us s2 z => ?_) hst hpl)
  obtain ⟨vs, H2, I2, r, q2⟩ := z
  exact ⟨I2.kIn, runD (us := .ref a :: us) (vs := .ref a :: vs) F hr b rd (hx σ) I2 (.cons rfl r) q2⟩
theorem pe_m0A {pl : Sem Bool} (he : PE X o ta) (c : Cls X.K C) (hm : Meth X.K C m f) (D : Dn X.prog X.w X.K X.mg X.base CX k f dvs sp) (hr : Room k X.A) (hx : PassA CX X W) (ht : MCall X o m apos pos [] pl := by rfl) :
    PE X (.Call (.Attribute o m apos) [] [] pos) fun σ H Q => tMeth C m sp dvs (fun cls d H' => W cls d σ H') ta tNil σ H Q := by
  obtain ⟨fd, ps, ds, F, kp, rd, b⟩ := D.ex
  refine ⟨fun pins s σ H Q I h => PySem.W.methodCall_KW (pl := pl) (thn (he.run pins s σ H _ I h) fun u s1 z => ?_) ht⟩
  obtain ⟨x, H1, I1, rx, a, dx, fs, rfl, ea, l, q⟩ := z
  obtain rfl : u = Value.ref a := rx
  exact getmeth_ok I1 ea c hm l (PySem.W.callWith_K0 (first := [.ref a]) I1.kIn hm.kp (runD (us := [.ref a]) (vs := [.ref a]) F hr b rd (hx σ) I1 (.cons rfl .nil) q))
theorem runMk {fd : FuncData} {ps : List Str} {ds : List Value} {pins : List (Addr × Obj)} {σ : L2.St} {H : Hp} {s : Shared} {Q : VK} {E : XK} {us : List Value} {vs : List V} (M : Mk X.K C f) (G : FnOk X.prog X.w X.K X.mg X.base CX k f fd ps sp) (hr : Room (k + 1) X.A) (b : Binds X.K fd ps ds) (d : Vals dvs ds) (hx : PassesAt CX X σ E) (I : Inv X pins σ H s) (r : Vals vs us)
    (h : ∀ x dx, H x = none → H dx = none → dx ≠ x → sp (.ref x :: (vs ++ dvs)) (upd (upd H dx (.own x)) x (.ins C dx [])) (fun v H2 => v = .non ∧ Q (.ref x) H2) E) : wpAny (model X.prog X.w) X.A (call (.ref C) us) (EP X pins σ Q) X.xe s := by
  have q := h (s.heap.objs.size + 1) s.heap.objs.size (I.hok.fresh (Nat.le_succ _)) (I.hok.fresh (Nat.le_refl _)) (Nat.ne_of_lt (Nat.lt_succ_self _))
  have J := Inv.made (C := C) I
  have rr : Vals (V.ref (s.heap.objs.size + 1) :: (vs ++ dvs)) (Value.ref (s.heap.objs.size + 1) :: (us ++ ds)) := .cons rfl (r.append d)
  have ll : (Value.ref (s.heap.objs.size + 1) :: us ++ ds).length = ps.length := by
    have z := rr.length
    rw [G.len _ _ _ _ q] at z
    exact z.symm
  refine wpAny_call (make_map (f := f) I.kIn M.makes M.init (beq_iff_eq.mp M.fn) (codeAny_mono (G.run _ X.stack _ _ ⟨Value.ref (s.heap.objs.size + 1) :: us, []⟩ (Value.ref (s.heap.objs.size + 1) :: (us ++ ds)) _ _ E (hr.make C us []) (J.env0.make C us []) (b _ (Value.ref (s.heap.objs.size + 1) :: us) J.kIn ll) rr q) fun z s' w => ?_))
  cases z with
  | error e => exact hx pins _ _ e s' J w
  | ok y => cases y with
    | ret u =>
      obtain ⟨v, H', I3, rv, ev, q3⟩ := J.after w
      subst ev
      exact ⟨rv, ⟨V.ref (s.heap.objs.size + 1), H', I3, rfl, q3⟩⟩
    | _ => exact False.elim w
theorem pe_mkA (M : Mk X.K C f) (D : Dn X.prog X.w X.K X.mg X.base CX k f dvs sp) (hr : Room (k + 1) X.A) (hm : X.mg x = some (.ref C)) (hx : PassA CX X W) (ha : PA X (e :: es) t) (hg : Gl X x := by rfl)
    (hdb : (x == ("__debug__" : Str)) = false := by decide) (he : starEach (e :: es) X.env = (false, eval e X.env) :: starEach es X.env := by rfl) (hpl : (backTo pos (starEach es X.env)).any (·.1) = false := by rfl) :
    PE X (.Call (.Name x p) (e :: es) [] pos) fun σ H Q => tMake C sp dvs (fun cls d H' => W cls d σ H') t σ H Q := by
  obtain ⟨fd, ps, ds, F, kp, r, b⟩ := D.ex
  refine ⟨fun pins s σ H Q I h => wpAny_Call_Name_kw (ld_glob I hg hm (PySem.W.callWith_K (h₀ := X.base) I.ok.mod.kin M.kp (thn (ha.run pos pins s σ H _ I h) fun us s1 z => ?_) he hpl) hdb)⟩
  obtain ⟨vs, H1, I1, rv, q⟩ := z
  exact ⟨I1.kIn, runMk M F hr b r (hx σ) I1 rv q⟩
theorem pe_mk0A (M : Mk X.K C f) (D : Dn X.prog X.w X.K X.mg X.base CX k f dvs sp) (hr : Room (k + 1) X.A) (hm : X.mg x = some (.ref C)) (hx : PassA CX X W) (hg : Gl X x := by rfl) (hdb : (x == ("__debug__" : Str)) = false := by decide) :
    PE X (.Call (.Name x p) [] [] pos) fun σ H Q => tMake C sp dvs (fun cls d H' => W cls d σ H') tNil σ H Q := by
  obtain ⟨fd, ps, ds, F, kp, r, b⟩ := D.ex
  exact ⟨fun pins s σ H Q I h => wpAny_Call_Name_kw (ld_glob I hg hm (PySem.W.callWith_K0 I.kIn M.kp (runMk (us := []) M F hr b r (hx σ) I .nil h)) hdb)⟩
theorem pe_cmA {pl : Sem Bool} (he : PE X o ta) (cm : cmB X.K C m = true) (D : Dn X.prog X.w X.K X.mg X.base CX k (He5.wf X.K C "classmethod" m) [] sp) (hr : Room k X.A) (hx : PassA CX X W) (ha : PA X (e :: es) t)
    (hst : starEach (e :: es) X.env = (false, eval e X.env) :: starEach es X.env := by rfl) (hpl : (backTo pos (starEach es X.env)).any (·.1) = false := by rfl) (ht : MCall X o m apos pos (e :: es) pl := by rfl) :
    PE X (.Call (.Attribute o m apos) (e :: es) [] pos) fun σ H Q => ClX.tCMeth C sp (fun cls d H' => W cls d σ H') ta t σ H Q := by
  refine ⟨fun pins s σ H Q I h => PySem.W.methodCall_KW (pl := pl) (thn (he.run pins s σ H _ I h) fun u s1 z => ?_) ht⟩
  obtain ⟨x, H1, I1, rx, rfl, q⟩ := z
  obtain rfl : u = Value.ref C := rx
  refine ClX.getmethcm_ok I1 (cmB_read cm) (cmB_met cm) fun s2 I2 => ClX.callwith_cm I2 (ClX.base_none I1 (Nat.le_refl _)) (cmB_met cm).fi (thn (ha.run pos _ s2 σ H1 _ I2 q) fun us s3 z => ?_) hst hpl
  obtain ⟨vs, H2, I3, rv, q2⟩ := z
  refine ⟨⟨ClX.pin_at I3, I3.kIn⟩, ?_⟩
  have z : wpAny (model X.prog X.w) X.A (call (.ref s1.heap.objs.size) us) (EP X ((s1.heap.objs.size, PySem.W.methodObj (.ref (He5.wf X.K C "classmethod" m)) (.ref C)) :: pins) σ Q) X.xe s3 :=
    wpAny_call (PySem.W.method_call (ClX.pin_at I3) (codeAny_mono (D.raw X.A X.stack s3 H2 (.ref C :: us) (.ref C :: vs) Q _ hr I3.env0 (.cons rfl rv) q2) fun z s' w => by
      cases z with
      | error e => exact hx σ _ H2 s3 e s' I3 w
      | ok y => cases y with
        | ret u => exact I3.after w
        | _ => exact False.elim w))
  exact thn z fun _ _ y => ClX.unpinE y
theorem pe_mkLA {i : Nat} (M : Mk X.K C f) (D : Dn X.prog X.w X.K X.mg X.base CX k f dvs sp) (hr : Room (k + 1) X.A) (hN : X.N[i]? = some x) (hv : Vis X.env.scope x) (hx : PassA CX X W) (ha : PA X (e :: es) t) (hdb : (x == ("__debug__" : Str)) = false := by decide) (hcd : (x == ("__classdict__" : Str)) = false := by decide)
    (he : starEach (e :: es) X.env = (false, eval e X.env) :: starEach es X.env := by rfl) (hpl : (backTo pos (starEach es X.env)).any (·.1) = false := by rfl) : PE X (.Call (.Name x p) (e :: es) [] pos) fun σ H Q => tMakeL i C sp dvs (fun cls d H' => W cls d σ H') t σ H Q := by
  obtain ⟨fd, ps, ds, F, kp, r, b⟩ := D.ex
  refine ⟨fun pins s σ H Q I h => ?_⟩
  obtain ⟨hs, ht⟩ := h
  refine wpAny_Call_Name_kw (thn ((pe_var (pos := p) hN hv hdb hcd).run pins s σ H (fun v H1 => v = .ref C ∧ H1 = H) I ⟨.ref C, hs, rfl, rfl⟩) fun u s1 ⟨v, H1, I1, r1, q1⟩ => ?_)
  obtain ⟨rfl, rfl⟩ := q1
  cases r1
  refine PySem.W.callWith_K (h₀ := X.base) I.ok.mod.kin M.kp (thn (ha.run pos pins s1 σ _ _ I1 ht) fun us s2 z => ?_) he hpl
  obtain ⟨vs, H2, I2, rv, q⟩ := z
  exact ⟨I2.kIn, runMk M F hr b r (hx σ) I2 rv q⟩
end
end Tm

/-! Part 11: data that can be compared; comprehensions by an invariant. -/
namespace Tm
open PySem PySem.Spec PyProof.Rows L2
theorem lcb_I {K : PySem.W.Frag} {a : Addr} {xs : List V} {g : TG} {tt : TT} {te : TE} {vs : List Nat} {σ : L2.St} {H : Hp} {Q : VK} (hS : Sq K H a xs) (Pv : Nat → Addr → Hp → Prop)
    (h0 : ∀ D, H D = none → Pv 0 D (upd H D (.lst []))) (hl : ∀ i D H', H D = none → Pv i D H' → Stays K a xs H H')
    (hs : ∀ i x D H', H D = none → xs[i]? = some x → Pv i D H' → g x (wipe σ vs) H' fun σ2 H2 => wipe σ2 vs = wipe σ vs ∧ tt σ2 H2 fun b H3 =>
      if b = true then te σ2 H3 fun y H4 => ∃ acc, H4 D = some (.lst acc) ∧ acc.length < sizeLine ∧ Pv (i + 1) D (upd H4 D (.lst (acc ++ [y]))) else Pv (i + 1) D H3)
    (hd : ∀ D H', H D = none → Pv xs.length D H' → Q (.ref D) H') : lcBody K g tt te vs σ Q (.ref a) H := by
  refine ⟨a, xs, rfl, hS, fun h D hD => ?_, fun h D hD => ?_⟩
  · exact lc_list (fun i H' => Pv i D H') (h0 D hD) (fun i H' _ p => (hl i D H' hD p).1 h) (fun i x H' hx p => hs i x D H' hD hx p) fun H' p => hd D H' hD p
  · exact lc_tup (fun i H' => Pv i D H') (h0 D hD) (fun i H' _ p => (hl i D H' hD p).2 h) (fun i x H' hx p => hs i x D H' hD hx p) fun H' p => hd D H' hD p
/-- data of a depth that can be laid -/
def DOk (n : Nat) (d : PyData) : Prop := d.canLay0 = true ∧ d.depth ≤ n
theorem dok_all : ∀ {ds : List PyData} {n : Nat}, (∀ d ∈ ds, DOk n d) → PyData.canLayAll0 ds = true ∧ PyData.depthAll ds ≤ n
  | [], n, _ => ⟨rfl, Nat.zero_le _⟩
  | d :: ds, n, h => by
    obtain ⟨h1, h2⟩ := h d (List.mem_cons_self ..)
    obtain ⟨h3, h4⟩ := dok_all fun x hx => h x (List.mem_cons_of_mem _ hx)
    refine ⟨?_, ?_⟩
    · simp only [PyData.canLayAll0, h1, h3, Bool.and_self]
    · simp only [PyData.depthAll]
      omega
theorem dok_lst {ds : List PyData} {n : Nat} (h : ∀ d ∈ ds, DOk n d) : DOk (n + 1) (.list ds) := by
  obtain ⟨a, b⟩ := dok_all h
  exact ⟨by simp only [PyData.canLay0, a], by simp only [PyData.depth]; omega⟩
theorem dok_tup {ds : List PyData} {n : Nat} (h : ∀ d ∈ ds, DOk n d) : DOk (n + 1) (.tuple ds) := by
  obtain ⟨a, b⟩ := dok_all h
  exact ⟨by simp only [PyData.canLay0, a], by simp only [PyData.depth]; omega⟩
theorem DOk.up {m n : Nat} {d : PyData} (h : DOk m d) (hm : m ≤ n) : DOk n d := ⟨h.1, Nat.le_trans h.2 hm⟩
theorem dok_int (i : Int) : DOk 0 (.int i) := ⟨by simp [PyData.canLay0], by simp [PyData.depth]⟩
theorem dok_non : DOk 0 .none := ⟨by simp [PyData.canLay0], by simp [PyData.depth]⟩
theorem dok_bl (b : Bool) : DOk 0 (.bool b) := ⟨by simp [PyData.canLay0], by simp [PyData.depth]⟩
theorem dok_str {z : Str} (h : PyData.strOk z = true) : DOk 0 (.str z) := ⟨by simp [PyData.canLay0, h], by simp [PyData.depth]⟩
theorem shaped_of {n : Nat} {d : PyData} (h : DOk n d) (hn : n ≤ 64) : SeqAt.shaped d = true := by
  unfold SeqAt.shaped
  rw [h.1, decide_eq_true (Nat.le_trans h.2 hn)]
  rfl
/-- xs != [], the items data -/
def rNeNilD (K : PySem.W.Frag) : R2 := fun x y H Q => ∃ (p q : Addr) (xs : List V) (ds : List PyData), x = .ref p ∧ y = .ref q ∧ SqL K H p xs ∧ DpAll K H xs ds ∧ (∀ d ∈ ds, DOk 60 d) ∧ H q = some (.lst []) ∧ Q (.bl (!xs.isEmpty)) H
theorem dpAll_len {K : PySem.W.Frag} {H : Hp} : ∀ {xs : List V} {ds : List PyData}, DpAll K H xs ds → xs.isEmpty = ds.isEmpty
  | _, _, .nil => rfl
  | _, _, .cons _ _ => rfl
theorem op_neNilD {X : Cx} (K : PySem.W.Frag) (hu : X.A.units + 64 < cLine) (hK : X.K = K := by rfl) : OpR X (compareOp .NotEq) (rNeNilD K) := by
  subst hK
  intro pins s σ H x y v u Q I rx ry h
  obtain ⟨p, q, xs, ds, rfl, rfl, hp, hd, ho, hq, k⟩ := h
  refine op_neD hu pins s σ H _ _ v u Q I rx ry ⟨_, _, .lst hp hd, .lst (.inl (.inl hq)) .nil, shaped_of (dok_lst ho) (by decide), by decide +kernel, ?_⟩
  rw [eqv_nil, ← dpAll_len hd]
  exact k
theorem name_strOk {z : Str} (h : nameB z = true) : PyData.strOk z = true := by
  simp only [nameB, Bool.and_eq_true, decide_eq_true_eq] at h
  unfold PyData.strOk
  rw [← Array.all_toList, List.all_eq_true]
  intro c hc
  have := List.all_eq_true.mp h.2.2.2 c hc
  simp only [letterB, Bool.and_eq_true, decide_eq_true_eq] at this
  exact decide_eq_true (by omega)
/-- a told kind as data -/
def dat5 (k : Kd) : PyData := .tuple [.str k.fm.word, .str k.name, .int k.a, .int k.b, match k.times with | none => .none | some c => .int c]
theorem dp_tv {K : PySem.W.Frag} {H : Hp} (o : Option Int) : Dp K H (tv o) (match o with | none => .none | some c => .int c) := by
  cases o with
  | none => exact .non
  | some c => exact .int c
theorem dp_told5 {K : PySem.W.Frag} {H : Hp} {p : Addr} {k : Kd} (h : SqT K H p (told5 k)) : Dp K H (.ref p) (dat5 k) :=
  .tup h (.cons (.str _) (.cons (.str _) (.cons (.int _) (.cons (.int _) (.cons (dp_tv _) .nil)))))
theorem dok_dat5 {k : Kd} (h : nameB k.name = true) : DOk 1 (dat5 k) := by
  refine dok_tup fun d hd => ?_
  simp only [List.mem_cons, List.not_mem_nil, or_false] at hd
  rcases hd with rfl | rfl | rfl | rfl | rfl
  · exact dok_str (by cases k.fm <;> decide +kernel)
  · exact dok_str (name_strOk h)
  · exact dok_int _
  · exact dok_int _
  · cases k.times with
    | none => exact dok_non
    | some c => exact dok_int c
end Tm

/-! Part 12: drawn rules as the laws tell them. -/
namespace Tm
open PySem PySem.Spec PyProof.Rows L2
/-- a told rule: its length, rests, cap, kinds -/
structure ToldAt (K : PySem.W.Frag) (d g : Addr) (H : Hp) (p : Addr) (n : Int) (ns : List Int) (cap : Option Int) (ks : List Kd) : Prop where
  ex : ∃ (lr ls : Addr) (ps : List Addr), H p = some (.tup [.int n, .ref lr, tv cap, .ref ls]) ∧ H lr = some (.lst (ns.map V.int)) ∧ H ls = some (.lst (ps.map V.ref)) ∧ Apart d g lr ∧ Apart d g ls ∧ Paired (fun q k => H q = some (.tup (told5 k))) ps ks
theorem ToldAt.mono {K : PySem.W.Frag} {d g : Addr} {H H' : Hp} {p : Addr} {n : Int} {ns : List Int} {cap : Option Int} {ks : List Kd} (h : ToldAt K d g H p n ns cap ks) (s : Same H H') : ToldAt K d g H' p n ns cap ks := by
  obtain ⟨lr, ls, ps, h1, h2, h3, h4, h5, h6⟩ := h.ex
  exact ⟨lr, ls, ps, s _ _ h1, s _ _ h2, s _ _ h3, h4, h5, Paired.imp (fun _ _ z => s _ _ z) h6⟩
theorem ToldAt.but {K : PySem.W.Frag} {d g : Addr} {H H' : Hp} {p : Addr} {n : Int} {ns : List Int} {cap : Option Int} {ks : List Kd} (h : ToldAt K d g H p n ns cap ks) (D : Deal H d g) (b : But d g H H') : ToldAt K d g H' p n ns cap ks := by
  obtain ⟨lr, ls, ps, h1, h2, h3, h4, h5, h6⟩ := h.ex
  exact ⟨lr, ls, ps, b _ _ (D.apart h1 fun _ z => by cases z) h1, b _ _ h4 h2, b _ _ h5 h3, h4, h5, Paired.imp (fun _ _ z => b _ _ (D.apart z fun _ q => by cases q) z) h6⟩
/-- what is drawn -/
structure RlIn (many : Nat) (most n : Int) (ns : List Int) (cap : Option Int) (ks : List Kd) : Prop where
  l0 : 1 ≤ n
  l1 : n ≤ most
  rl : ns.length ≤ 4
  rb : ∀ i ∈ ns, 0 ≤ i ∧ i < 7
  rn : ns.Nodup
  rs : ns.Pairwise (· ≤ ·)
  c0 : ∀ c, cap = some c → 1 ≤ c ∧ c ≤ 3 * most
  cf : ∀ c k, cap = some c → k ∈ ks → k.times = none → c ≤ n + 200
  kl : ks.length ≤ many
  kn : (ks.map (·.name)).Nodup
  ka : ∀ k ∈ ks, k.name ∈ namesA
  kk : ∀ k ∈ ks, KdIn k.name most k
theorem RlIn.kok {many : Nat} {most n : Int} {ns : List Int} {cap : Option Int} {ks : List Kd} (h : RlIn many most n ns cap ks) (hm : most ≤ 10 ^ 18) : ∀ k ∈ ks, KdOk k := fun k hk => (h.kk k hk).ok (namesA_ok _ (h.ka k hk)) hm
theorem RlIn.hd {many : Nat} {most n : Int} {ns : List Int} {cap : Option Int} {ks : List Kd} (h : RlIn many most n ns cap ks) (hm : most ≤ 10 ^ 18) : HdOk n ns cap :=
  ⟨h.l0, by have := h.l1; omega, by have := h.rl; omega, h.rb, fun c hc => by have := h.c0 c hc; omega⟩
theorem RlIn.ok {many : Nat} {most n : Int} {ns : List Int} {cap : Option Int} {ks : List Kd} (h : RlIn many most n ns cap ks) (hm : most ≤ 10 ^ 18) (hk : many ≤ 100) : RlOk ⟨n, ns, cap, ks⟩ :=
  ⟨h.l0, (h.hd hm).l1, (h.hd hm).rl, h.rb, h.rn, h.rs, (h.hd hm).c0, Nat.le_trans h.kl hk, h.kn, h.kok hm⟩
end Tm

/-! N0: values as trees; what changes stands in cells; how both stand in the heap. -/
namespace Tm
open PySem PySem.Spec PyProof.Rows L2
inductive T where
  | non
  | bl (b : Bool)
  | int (i : Int)
  | str (x : Str)
  | tup (l : List T)
  | lst (l : List T)
  | dK (ks : List Key) (l : List T)
  | dT (ks : List (List Key)) (l : List T)
  | obj (C : Str) (ns : List Str) (l : List T)
  | cls (C : Str)
  | scr (ns : List Int)
  | ref (n : Nat)
  | fn (x : Str)
  | lam (k : Nat)
  | lk (t : T)
  | wt (l : List T)
  | exc (a d : Nat) (C : Str) (ns : List Str) (l : List T)
  deriving Inhabited
/-- what a value avoids (where cells stand), and where the n-th cell stands -/
structure ASet where
  p : Addr → Prop
  ad : Nat → Option Addr
instance : CoeFun ASet fun _ => Addr → Prop := ⟨ASet.p⟩
/-- bounds ahead of which cells refer to none behind; objects that are hidden for a while -/
structure Bx where
  b : List Nat
  h : List Addr
def mset (bs : Bx) (m : List Addr) : ASet := ⟨fun a => a ∈ m ∨ a ∈ bs.h, fun n => m[n]?⟩
/-- a list that stays: at hand, locked, or written -/
def ScrAt (K : PySem.W.Frag) (A : ASet) (H : Hp) (a : Addr) (xs : List V) : Prop := (¬ A a ∧ H a = some (.lst xs)) ∨ (∃ o, H a = some (.frz o (.lst xs))) ∨ ∀ H', SqL K H' a xs
/-- a dict, at hand or locked -/
def DkAt (H : Hp) (a : Addr) (kvs : List (Key × V)) : Prop := H a = some (.dK kvs) ∨ ∃ o, H a = some (.frz o (.dK kvs))
def DtAt (H : Hp) (a : Addr) (kvs : List (List Key × V)) : Prop := H a = some (.dT kvs) ∨ ∃ o, H a = some (.frz o (.dT kvs))
mutual
inductive Rep (K : PySem.W.Frag) (A : ASet) (H : Hp) : V → T → Prop where
  | non : Rep K A H .non .non
  | bl (b : Bool) : Rep K A H (.bl b) (.bl b)
  | int (i : Int) : Rep K A H (.int i) (.int i)
  | str (x : Str) : Rep K A H (.str x) (.str x)
  | tup {a : Addr} {xs : List V} {l : List T} (h : H a = some (.tup xs)) (r : Reps K A H xs l) : Rep K A H (.ref a) (.tup l)
  | wt {a : Addr} {xs : List V} {l : List T} (h : ∀ H', SqT K H' a xs) (r : Reps K A H xs l) : Rep K A H (.ref a) (.wt l)
  | lst {a : Addr} {xs : List V} {l : List T} (na : ¬ A a) (h : H a = some (.lst xs)) (r : Reps K A H xs l) : Rep K A H (.ref a) (.lst l)
  | dK {a : Addr} {kvs : List (Key × V)} {l : List T} (na : ¬ A a) (h : DkAt H a kvs) (r : Reps K A H (kvs.map (·.2)) l) : Rep K A H (.ref a) (.dK (kvs.map (·.1)) l)
  | dT {a : Addr} {kvs : List (List Key × V)} {l : List T} (na : ¬ A a) (h : DtAt H a kvs) (r : Reps K A H (kvs.map (·.2)) l) : Rep K A H (.ref a) (.dT (kvs.map (·.1)) l)
  | obj {a dx : Addr} {C : Str} {fs : List (Str × V)} {l : List T} (na : ¬ A a) (h : H a = some (.ins (He.ga K C) dx fs)) (r : Reps K A H (fs.map (·.2)) l) : Rep K A H (.ref a) (.obj C (fs.map (·.1)) l)
  | cls (C : Str) : Rep K A H (.ref (He.ga K C)) (.cls C)
  | scr {a : Addr} {ns : List Int} (h : ScrAt K A H a (ns.map V.int)) : Rep K A H (.ref a) (.scr ns)
  | ref {a : Addr} {n : Nat} (h : A.ad n = some a) : Rep K A H (.ref a) (.ref n)
  | fn (x : Str) : Rep K A H (.ref (He.ga K x)) (.fn x)
  | exc {a d : Addr} {C : Str} {fs : List (Str × V)} {l : List T} (na : ¬ A d) (h : H d = some (.xd fs)) (r : Reps K A H (fs.map (·.2)) l) : Rep K A H (.ref a) (.exc a d C (fs.map (·.1)) l)
inductive Reps (K : PySem.W.Frag) (A : ASet) (H : Hp) : List V → List T → Prop where
  | nil : Reps K A H [] []
  | cons {x : V} {t : T} {xs : List V} {l : List T} (h : Rep K A H x t) (r : Reps K A H xs l) : Reps K A H (x :: xs) (t :: l)
end
/-- from H to H' all stays but what A holds; what stays is not in B -/
structure Lk (A : ASet) (H : Hp) (B : ASet) (H' : Hp) : Prop where
  ad : ∀ n a, A.ad n = some a → B.ad n = some a
  all : ∀ b o, ¬ A b → H b = some o → H' b = some o ∧ ¬ B b
  tup : ∀ b xs, H b = some (.tup xs) → H' b = some (.tup xs)
  frz : ∀ b o u, H b = some (.frz o u) → H' b = some (.frz o u)
theorem Lk.of_same {A : ASet} {H H' : Hp} (s : Same H H') : Lk A H A H' := ⟨fun _ _ h => h, fun b o n e => ⟨s b o e, n⟩, fun b xs e => s b _ e, fun b o u e => s b _ e⟩
theorem Lk.refl {A : ASet} {H : Hp} : Lk A H A H := Lk.of_same (L2.Same.refl _)
theorem Lk.trans {A B C : ASet} {H H1 H2 : Hp} (a : Lk A H B H1) (b : Lk B H1 C H2) : Lk A H C H2 :=
  ⟨fun n x h => b.ad n x (a.ad n x h), fun c o n e => by
    obtain ⟨e1, n1⟩ := a.all c o n e
    exact b.all c o n1 e1, fun c xs e => b.tup c xs (a.tup c xs e), fun c o u e => b.frz c o u (a.frz c o u e)⟩
section
variable {K : PySem.W.Frag} {A B : ASet} {H H' : Hp}
theorem sqT_lk {a : Addr} {xs : List V} (L : Lk A H B H') (h : SqT K H a xs) : SqT K H' a xs := by
  rcases h with (h | ⟨o, h⟩) | h
  · exact .inl (.inl (L.tup _ _ h))
  · exact .inl (.inr ⟨o, L.frz _ _ _ h⟩)
  · exact .inr h
theorem dkAt_lk {a : Addr} {kvs : List (Key × V)} (L : Lk A H B H') (na : ¬ A a) (h : DkAt H a kvs) : DkAt H' a kvs ∧ ¬ B a := by
  rcases h with h | ⟨o, h⟩
  · exact ⟨.inl (L.all _ _ na h).1, (L.all _ _ na h).2⟩
  · exact ⟨.inr ⟨o, L.frz _ _ _ h⟩, (L.all _ _ na h).2⟩
theorem dtAt_lk {a : Addr} {kvs : List (List Key × V)} (L : Lk A H B H') (na : ¬ A a) (h : DtAt H a kvs) : DtAt H' a kvs ∧ ¬ B a := by
  rcases h with h | ⟨o, h⟩
  · exact ⟨.inl (L.all _ _ na h).1, (L.all _ _ na h).2⟩
  · exact ⟨.inr ⟨o, L.frz _ _ _ h⟩, (L.all _ _ na h).2⟩
theorem scr_lk {a : Addr} {xs : List V} (L : Lk A H B H') (h : ScrAt K A H a xs) : ScrAt K B H' a xs := by
  rcases h with ⟨na, h⟩ | ⟨o, h⟩ | h
  · exact .inl ⟨(L.all _ _ na h).2, (L.all _ _ na h).1⟩
  · exact .inr (.inl ⟨o, L.frz _ _ _ h⟩)
  · exact .inr (.inr h)
theorem ScrAt.sq {a : Addr} {xs : List V} (h : ScrAt K A H a xs) : SqL K H a xs := by
  rcases h with ⟨na, h⟩ | ⟨o, h⟩ | h
  · exact .inl (.inl h)
  · exact .inl (.inr ⟨o, h⟩)
  · exact h H
mutual
theorem Rep.lk (L : Lk A H B H') : ∀ {v : V} {t : T}, Rep K A H v t → Rep K B H' v t
  | _, _, .non => .non
  | _, _, .bl b => .bl b
  | _, _, .int i => .int i
  | _, _, .str x => .str x
  | _, _, .tup h r => .tup (L.tup _ _ h) (Reps.lk L r)
  | _, _, .wt h r => .wt h (Reps.lk L r)
  | _, _, .lst na h r => .lst (L.all _ _ na h).2 (L.all _ _ na h).1 (Reps.lk L r)
  | _, _, .dK na h r => .dK (dkAt_lk L na h).2 (dkAt_lk L na h).1 (Reps.lk L r)
  | _, _, .dT na h r => .dT (dtAt_lk L na h).2 (dtAt_lk L na h).1 (Reps.lk L r)
  | _, _, .obj na h r => .obj (L.all _ _ na h).2 (L.all _ _ na h).1 (Reps.lk L r)
  | _, _, .cls C => .cls C
  | _, _, .scr h => .scr (scr_lk L h)
  | _, _, .ref h => .ref (L.ad _ _ h)
  | _, _, .fn x => .fn x
  | _, _, .exc na h r => .exc (L.all _ _ na h).2 (L.all _ _ na h).1 (Reps.lk L r)
theorem Reps.lk (L : Lk A H B H') : ∀ {xs : List V} {l : List T}, Reps K A H xs l → Reps K B H' xs l
  | _, _, .nil => .nil
  | _, _, .cons h r => .cons (Rep.lk L h) (Reps.lk L r)
end
theorem Rep.same (s : Same H H') {v : V} {t : T} (r : Rep K A H v t) : Rep K A H' v t := r.lk (Lk.of_same s)
theorem Reps.same (s : Same H H') {xs : List V} {l : List T} (r : Reps K A H xs l) : Reps K A H' xs l := r.lk (Lk.of_same s)
theorem Reps.length : ∀ {xs : List V} {l : List T}, Reps K A H xs l → xs.length = l.length
  | _, _, .nil => rfl
  | _, _, .cons _ r => by rw [List.length_cons, List.length_cons, Reps.length r]
theorem Reps.append : ∀ {xs ys : List V} {l m : List T}, Reps K A H xs l → Reps K A H ys m → Reps K A H (xs ++ ys) (l ++ m)
  | _, _, _, _, .nil, s => s
  | _, _, _, _, .cons h r, s => .cons h (Reps.append r s)
theorem Reps.get : ∀ {xs : List V} {l : List T} {i : Nat} {t : T}, Reps K A H xs l → l[i]? = some t → ∃ x, xs[i]? = some x ∧ Rep K A H x t
  | _, _, _, _, .nil, e => by simp at e
  | _, _, 0, _, .cons h _, e => by
    simp at e
    subst e
    exact ⟨_, rfl, h⟩
  | _, _, i + 1, t, .cons _ r, e => by
    obtain ⟨x, h1, h2⟩ := Reps.get (i := i) r (by simpa using e)
    exact ⟨x, by simpa using h1, h2⟩
theorem Reps.getV : ∀ {xs : List V} {l : List T} {i : Nat} {x : V}, Reps K A H xs l → xs[i]? = some x → ∃ t, l[i]? = some t ∧ Rep K A H x t
  | _, _, _, _, .nil, e => by simp at e
  | _, _, 0, _, .cons h _, e => by
    simp at e
    subst e
    exact ⟨_, rfl, h⟩
  | _, _, i + 1, t, .cons _ r, e => by
    obtain ⟨x, h1, h2⟩ := Reps.getV (i := i) r (by simpa using e)
    exact ⟨x, by simpa using h1, h2⟩
theorem Reps.take : ∀ {xs : List V} {l : List T} (n : Nat), Reps K A H xs l → Reps K A H (xs.take n) (l.take n)
  | _, _, 0, _ => .nil
  | _, _, _ + 1, .nil => .nil
  | _, _, n + 1, .cons h r => .cons h (Reps.take n r)
theorem Reps.drop : ∀ {xs : List V} {l : List T} (n : Nat), Reps K A H xs l → Reps K A H (xs.drop n) (l.drop n)
  | _, _, 0, r => r
  | _, _, _ + 1, .nil => .nil
  | _, _, n + 1, .cons _ r => Reps.drop n r
theorem Reps.set {x : V} {t : T} (q : Rep K A H x t) : ∀ {xs : List V} {l : List T} (i : Nat), Reps K A H xs l → Reps K A H (xs.set i x) (l.set i t)
  | _, _, _, .nil => .nil
  | _, _, 0, .cons _ r => .cons q r
  | _, _, i + 1, .cons h r => .cons h (Reps.set q i r)
theorem Reps.erase : ∀ {xs : List V} {l : List T} (i : Nat), Reps K A H xs l → Reps K A H (xs.eraseIdx i) (l.eraseIdx i)
  | _, _, _, .nil => .nil
  | _, _, 0, .cons _ r => r
  | _, _, i + 1, .cons h r => .cons h (Reps.erase i r)
theorem Reps.nil_of {l : List T} (r : Reps K A H [] l) : l = [] := by cases r; rfl
theorem Reps.ints (ns : List Int) : Reps K A H (ns.map V.int) (ns.map T.int) := by
  induction ns with
  | nil => exact .nil
  | cons n ns ih => exact .cons (.int n) ih
theorem Reps.strs (ns : List Str) : Reps K A H (ns.map V.str) (ns.map T.str) := by
  induction ns with
  | nil => exact .nil
  | cons n ns ih => exact .cons (.str n) ih
theorem Reps.of_ints : ∀ {xs : List V} {ns : List Int}, Reps K A H xs (ns.map T.int) → xs = ns.map V.int
  | [], [], _ => rfl
  | [], _ :: _, r => nomatch r
  | _ :: _, [], r => nomatch r
  | x :: xs, n :: ns, r => by
    cases r with
    | cons h r =>
      cases h
      rw [Reps.of_ints r]
      rfl
theorem Reps.of_strs : ∀ {xs : List V} {ns : List Str}, Reps K A H xs (ns.map T.str) → xs = ns.map V.str
  | [], [], _ => rfl
  | [], _ :: _, r => nomatch r
  | _ :: _, [], r => nomatch r
  | x :: xs, n :: ns, r => by
    cases r with
    | cons h r =>
      cases h
      rw [Reps.of_strs r]
      rfl
end
/-! ### refs below a number -/
mutual
def okR (n : Nat) : T → Bool
  | .tup l => okRs n l
  | .wt l => okRs n l
  | .lst l => okRs n l
  | .dK _ l => okRs n l
  | .dT _ l => okRs n l
  | .obj _ _ l => okRs n l
  | .exc _ _ _ _ l => okRs n l
  | .ref k => decide (k < n)
  | .lam _ => false
  | .lk t => okR n t
  | _ => true
def okRs (n : Nat) : List T → Bool
  | [] => true
  | t :: l => okR n t && okRs n l
end
mutual
theorem okR_mono {n k : Nat} (h : n ≤ k) : ∀ {t : T}, okR n t = true → okR k t = true
  | .tup l, e => by unfold okR at e ⊢; exact okRs_mono h e
  | .wt l, e => by unfold okR at e ⊢; exact okRs_mono h e
  | .lst l, e => by unfold okR at e ⊢; exact okRs_mono h e
  | .dK _ l, e => by unfold okR at e ⊢; exact okRs_mono h e
  | .dT _ l, e => by unfold okR at e ⊢; exact okRs_mono h e
  | .obj _ _ l, e => by unfold okR at e ⊢; exact okRs_mono h e
  | .exc _ _ _ _ l, e => by unfold okR at e ⊢; exact okRs_mono h e
  | .ref k, e => by unfold okR at e ⊢; simp at e ⊢; omega
  | .lam _, e => by unfold okR at e; cases e
  | .lk t, e => by unfold okR at e ⊢; exact okR_mono h e
  | .non, e => by unfold okR; rfl
  | .bl _, e => by unfold okR; rfl
  | .int _, e => by unfold okR; rfl
  | .str _, e => by unfold okR; rfl
  | .cls _, e => by unfold okR; rfl
  | .scr _, e => by unfold okR; rfl
  | .fn _, e => by unfold okR; rfl
theorem okRs_mono {n k : Nat} (h : n ≤ k) : ∀ {l : List T}, okRs n l = true → okRs k l = true
  | [], e => rfl
  | t :: l, e => by
    unfold okRs at e ⊢
    rw [Bool.and_eq_true] at e ⊢
    exact ⟨okR_mono h e.1, okRs_mono h e.2⟩
end
section
variable {K : PySem.W.Frag} {H : Hp} {m : List Addr} {bs : Bx}
mutual
/-- what stands with all cells stands with the first ones alone, if it refers to these alone -/
theorem Rep.cut {n : Nat} : ∀ {v : V} {t : T}, Rep K (mset bs m) H v t → okR n t = true → Rep K (mset bs (m.take n)) H v t
  | _, _, .non, _ => .non
  | _, _, .bl b, _ => .bl b
  | _, _, .int i, _ => .int i
  | _, _, .str x, _ => .str x
  | _, _, .tup h r, e => .tup h (Reps.cut r (by unfold okR at e; exact e))
  | _, _, .wt h r, e => .wt h (Reps.cut r (by unfold okR at e; exact e))
  | _, _, .lst na h r, e => .lst (fun z => na (z.imp List.mem_of_mem_take id)) h (Reps.cut r (by unfold okR at e; exact e))
  | _, _, .dK na h r, e => .dK (fun z => na (z.imp List.mem_of_mem_take id)) h (Reps.cut r (by unfold okR at e; exact e))
  | _, _, .dT na h r, e => .dT (fun z => na (z.imp List.mem_of_mem_take id)) h (Reps.cut r (by unfold okR at e; exact e))
  | _, _, .obj na h r, e => .obj (fun z => na (z.imp List.mem_of_mem_take id)) h (Reps.cut r (by unfold okR at e; exact e))
  | _, _, .cls C, _ => .cls C
  | _, _, .scr h, _ => .scr (h.imp (fun z => ⟨fun q => z.1 (q.imp List.mem_of_mem_take id), z.2⟩) id)
  | _, _, .ref (n := k) h, e => .ref (by
      unfold okR at e
      simp at e
      show (m.take n)[k]? = _
      rw [List.getElem?_take_of_lt e]
      exact h)
  | _, _, .fn x, _ => .fn x
  | _, _, .exc na h r, e => .exc (fun z => na (z.imp List.mem_of_mem_take id)) h (Reps.cut r (by unfold okR at e; exact e))
theorem Reps.cut {n : Nat} : ∀ {xs : List V} {l : List T}, Reps K (mset bs m) H xs l → okRs n l = true → Reps K (mset bs (m.take n)) H xs l
  | _, _, .nil, _ => .nil
  | _, _, .cons h r, e => by
    unfold okRs at e
    rw [Bool.and_eq_true] at e
    exact .cons (Rep.cut h e.1) (Reps.cut r e.2)
end
mutual
/-- what stands refers to cells that are there -/
theorem Rep.okr : ∀ {v : V} {t : T}, Rep K (mset bs m) H v t → okR m.length t = true
  | _, _, .non => by unfold okR; rfl
  | _, _, .bl b => by unfold okR; rfl
  | _, _, .int i => by unfold okR; rfl
  | _, _, .str x => by unfold okR; rfl
  | _, _, .tup h r => by unfold okR; exact Reps.okr r
  | _, _, .wt h r => by unfold okR; exact Reps.okr r
  | _, _, .lst na h r => by unfold okR; exact Reps.okr r
  | _, _, .dK na h r => by unfold okR; exact Reps.okr r
  | _, _, .dT na h r => by unfold okR; exact Reps.okr r
  | _, _, .obj na h r => by unfold okR; exact Reps.okr r
  | _, _, .cls C => by unfold okR; rfl
  | _, _, .scr h => by unfold okR; rfl
  | _, _, .ref (n := k) h => by
    unfold okR
    have h : m[k]? = some _ := h
    simpa using (List.getElem?_eq_some_iff.mp h).1
  | _, _, .fn x => by unfold okR; rfl
  | _, _, .exc na h r => by unfold okR; exact Reps.okr r
theorem Reps.okr : ∀ {xs : List V} {l : List T}, Reps K (mset bs m) H xs l → okRs m.length l = true
  | _, _, .nil => rfl
  | _, _, .cons h r => by
    unfold okRs
    rw [Rep.okr h, Reps.okr r]
    rfl
end
end
/-! ### cells -/
abbrev St := List T
inductive CellAt (K : PySem.W.Frag) (A : ASet) (H : Hp) : Addr → T → Prop where
  | lst {a : Addr} {xs : List V} {l : List T} (h : H a = some (.lst xs)) (r : Reps K A H xs l) : CellAt K A H a (.lst l)
  | dK {a : Addr} {kvs : List (Key × V)} {l : List T} (h : H a = some (.dK kvs)) (r : Reps K A H (kvs.map (·.2)) l) : CellAt K A H a (.dK (kvs.map (·.1)) l)
  | dT {a : Addr} {kvs : List (List Key × V)} {l : List T} (h : H a = some (.dT kvs)) (r : Reps K A H (kvs.map (·.2)) l) : CellAt K A H a (.dT (kvs.map (·.1)) l)
  | obj {a dx : Addr} {C : Str} {fs : List (Str × V)} {l : List T} (h : H a = some (.ins (He.ga K C) dx fs)) (r : Reps K A H (fs.map (·.2)) l) : CellAt K A H a (.obj C (fs.map (·.1)) l)
  | lkK {a : Addr} {o : Obj} {kvs : List (Key × V)} {l : List T} (h : H a = some (.frz o (.dK kvs))) (r : Reps K A H (kvs.map (·.2)) l) : CellAt K A H a (.lk (.dK (kvs.map (·.1)) l))
  | lkT {a : Addr} {o : Obj} {kvs : List (List Key × V)} {l : List T} (h : H a = some (.frz o (.dT kvs))) (r : Reps K A H (kvs.map (·.2)) l) : CellAt K A H a (.lk (.dT (kvs.map (·.1)) l))
/-- the cells S stand at m; those ahead of a bound refer to none behind it -/
structure Cs (K : PySem.W.Frag) (bs : Bx) (m : List Addr) (S : St) (H : Hp) : Prop where
  len : m.length = S.length
  nd : m.Nodup
  bl : ∀ b ∈ bs.b, b ≤ m.length
  hid : ∀ a ∈ bs.h, a ∉ m ∧ ∃ o, H a = some o
  cell : ∀ (n : Nat) (c : T) (a : Addr), S[n]? = some c → m[n]? = some a → CellAt K (mset bs m) H a c
  old : ∀ b ∈ bs.b, ∀ (k : Nat) (c : T), k < b → S[k]? = some c → okR b c = true
/-- from (m, H) to (m', H'): cells from fl on may change, new cells are new objects -/
structure Kp (fl : Nat) (m : List Addr) (H : Hp) (m' : List Addr) (H' : Hp) : Prop where
  pre : ∃ e, m' = m ++ e ∧ ∀ a ∈ e, H a = none
  all : ∀ b o, b ∉ m.drop fl → H b = some o → H' b = some o
  tup : ∀ b xs, H b = some (.tup xs) → H' b = some (.tup xs)
  frz : ∀ b o u, H b = some (.frz o u) → H' b = some (.frz o u)
  dom : ∀ b o, H b = some o → ∃ o', H' b = some o'
section
variable {K : PySem.W.Frag} {fl : Nat} {bs : Bx} {m m1 m2 : List Addr} {H H1 H2 : Hp} {S S1 : St}
theorem Kp.of_same (s : Same H H1) : Kp fl m H m H1 := ⟨⟨[], by simp, by simp⟩, fun b o _ e => s b o e, fun b xs e => s b _ e, fun b o u e => s b _ e, fun b o e => ⟨o, s b o e⟩⟩
theorem Kp.refl : Kp fl m H m H := Kp.of_same (L2.Same.refl _)
theorem Kp.trans (a : Kp fl m H m1 H1) (b : Kp fl m1 H1 m2 H2) : Kp fl m H m2 H2 := by
  obtain ⟨⟨e1, rfl, n1⟩, a2, a3, a4, a5⟩ := a
  obtain ⟨⟨e2, rfl, n2⟩, b2, b3, b4, b5⟩ := b
  refine ⟨⟨e1 ++ e2, by simp, fun x hx => ?_⟩, fun x o hx e => b2 x o (fun z => ?_) (a2 x o hx e), fun x xs e => b3 _ _ (a3 _ _ e), fun x o u e => b4 _ _ _ (a4 _ _ _ e), fun x o e => by
    obtain ⟨o1, e1⟩ := a5 x o e
    exact b5 x o1 e1⟩
  · rcases List.mem_append.mp hx with h | h
    · exact n1 x h
    · cases e : H x with
      | none => rfl
      | some o =>
        obtain ⟨o1, z⟩ := a5 x o e
        rw [n2 x h] at z
        cases z
  · rw [List.drop_append] at z
    rcases List.mem_append.mp z with z | z
    · exact hx z
    · have := n1 x (List.mem_of_mem_drop z)
      rw [this] at e
      cases e
theorem Kp.lkx {bs' : Bx} (k : Kp fl m H m1 H1) (hb : ∀ a ∈ bs'.h, a ∈ bs.h ∨ H a = none) : Lk (mset bs m) H (mset bs' m1) H1 := by
  obtain ⟨⟨e, rfl, ne⟩, h2, h3, h4, _⟩ := k
  refine ⟨fun n a h => ?_, fun b o nb eb => ⟨h2 b o (fun z => nb (.inl (List.mem_of_mem_drop z))) eb, fun z => ?_⟩, h3, h4⟩
  · have h : m[n]? = some a := h
    show (m ++ e)[n]? = some a
    rw [List.getElem?_append_left (List.getElem?_eq_some_iff.mp h).1]
    exact h
  · rcases z with z | z
    · rcases List.mem_append.mp z with z | z
      · exact nb (.inl z)
      · rw [ne b z] at eb
        cases eb
    · rcases hb b z with q | q
      · exact nb (.inr q)
      · rw [q] at eb
        cases eb
theorem Kp.lk (k : Kp fl m H m1 H1) : Lk (mset bs m) H (mset bs m1) H1 := k.lkx fun _ h => .inl h
end
end Tm

/-! N1: runs over trees and cells, readings by mirrors, expressions. -/
namespace Tm
open PySem PySem.Spec PyProof.Rows L2
/-- a frame's lines: cells from fl on may be written; cells from n0 on are the frame's own -/
structure Cf where
  fl : Nat
  n0 : Nat
abbrev Ro := List (Option T)
inductive Rs (α : Type) where
  | ok (a : α) (S : St)
  | ex (x : T) (S : St)
  | st
abbrev Ev (α : Type) := Cf → Ro → St → Rs α
def Ev.bind {α β : Type} (f : Ev α) (g : α → Ev β) : Ev β := fun c ρ S => match f c ρ S with
  | .ok a S1 => g a c ρ S1
  | .ex x S1 => .ex x S1
  | .st => .st
def Ev.lift {α : Type} (o : Option α) : Ev α := fun _ _ S => match o with
  | some a => .ok a S
  | none => .st
/-- a raised exception: its class and what it keeps -/
def XAt (K : PySem.W.Frag) (A : ASet) (H : Hp) (x : T) (cls : Value) (d : Option Addr) : Prop := ∃ c ns l, x = .obj c ns l ∧
  cls = .ref (He.ga K c) ∧ ((d = none ∧ ns = [] ∧ l = []) ∨ ∃ dd fs, d = some dd ∧ H dd = some (.xd fs) ∧ ¬ A dd ∧ fs.map (·.1) = ns ∧ Reps K A H (fs.map (·.2)) l)
structure FAt (K : PySem.W.Frag) (c : Cf) (bs : Bx) (m : List Addr) (S : St) (σ : L2.St) (H : Hp) (ρ : Ro) : Prop where
  cs : Cs K bs m S H
  bn : ∀ b ∈ bs.b, b ≤ c.n0
  len : σ.length = ρ.length
  sl : ∀ (i : Nat) (t : T), ρ[i]? = some (some t) → ∃ v, σ[i]? = some (some v) ∧ Rep K (mset bs m) H v t
def RsOk {α ν : Type} (K : PySem.W.Frag) (W : WX) (bs : Bx) (fl : Nat) (m : List Addr) (σ : L2.St) (H : Hp) (RP : List Addr → Hp → ν → α → Prop) (Q : ν → Hp → Prop) : Rs α → Prop
  | .ok a S' => ∀ v m' H', Cs K bs m' S' H' → Kp fl m H m' H' → RP m' H' v a → Q v H'
  | .ex x S' => ∀ cls d m' H', Cs K bs m' S' H' → Kp fl m H m' H' → XAt K (mset bs m') H' x cls d → W cls d σ H'
  | .st => False
section
variable {α β ν μ : Type} {K : PySem.W.Frag} {W : WX} {c : Cf} {bs : Bx} {fl : Nat} {m m1 : List Addr} {S S1 : St} {H H1 : Hp} {σ : L2.St} {RP : List Addr → Hp → ν → α → Prop} {RQ : List Addr → Hp → μ → β → Prop} {Q : ν → Hp → Prop} {Q' : μ → Hp → Prop} {ρ : Ro}
theorem FAt.kp (F : FAt K c bs m S σ H ρ) (cs : Cs K bs m1 S1 H1) (k : Kp fl m H m1 H1) : FAt K c bs m1 S1 σ H1 ρ :=
  ⟨cs, F.bn, F.len, fun i t h => by
    obtain ⟨v, e, r⟩ := F.sl i t h
    exact ⟨v, e, r.lk k.lk⟩⟩
theorem Cs.same (h : Cs K bs m S H) (s : Same H H1) : Cs K bs m S H1 := ⟨h.len, h.nd, h.bl, fun a ha => ⟨(h.hid a ha).1, by obtain ⟨o, e⟩ := (h.hid a ha).2; exact ⟨o, s _ _ e⟩⟩, fun n c a hc ha => by
  have := h.cell n c a hc ha
  cases this with
  | lst h r => exact .lst (s _ _ h) (r.same s)
  | dK h r => exact .dK (s _ _ h) (r.same s)
  | dT h r => exact .dT (s _ _ h) (r.same s)
  | obj h r => exact .obj (s _ _ h) (r.same s)
  | lkK h r => exact .lkK (s _ _ h) (r.same s)
  | lkT h r => exact .lkT (s _ _ h) (r.same s), h.old⟩
theorem FAt.same (F : FAt K c bs m S σ H ρ) (s : Same H H1) : FAt K c bs m S σ H1 ρ := F.kp (F.cs.same s) (Kp.of_same (fl := 0) s)
theorem Cs.dom (h : Cs K bs m S H) : ∀ a ∈ m, ∃ o, H a = some o := fun a ha => by
  obtain ⟨n, hn, e⟩ := List.mem_iff_getElem.mp ha
  have e1 : m[n]? = some a := by rw [List.getElem?_eq_getElem hn, e]
  have hn' : n < S.length := h.len ▸ hn
  have := h.cell n _ a (List.getElem?_eq_getElem hn') e1
  generalize S[n] = c at this
  cases this with
  | lst h r => exact ⟨_, h⟩
  | dK h r => exact ⟨_, h⟩
  | dT h r => exact ⟨_, h⟩
  | obj h r => exact ⟨_, h⟩
  | lkK h r => exact ⟨_, h⟩
  | lkT h r => exact ⟨_, h⟩
theorem RsOk.step {r : Rs α} (k : Kp fl m H m1 H1) (h : RsOk K W bs fl m σ H RP Q r) : RsOk K W bs fl m1 σ H1 RP Q r := by
  cases r with
  | ok a S' => exact fun v m' H' cs k' R => h v m' H' cs (k.trans k') R
  | ex x S' => exact fun cls d m' H' cs k' R => h cls d m' H' cs (k.trans k') R
  | st => exact h
theorem RsOk.bindE {f : Ev α} {g : α → Ev β} (F : FAt K c bs m S σ H ρ) (h : RsOk K W bs fl m σ H RQ Q' (Ev.bind f g c ρ S))
    (k : ∀ a v m1 H1 S1, f c ρ S = .ok a S1 → FAt K c bs m1 S1 σ H1 ρ → Kp fl m H m1 H1 → RP m1 H1 v a → RsOk K W bs fl m1 σ H1 RQ Q' (g a c ρ S1) → Q v H1) : RsOk K W bs fl m σ H RP Q (f c ρ S) := by
  unfold Ev.bind at h
  cases e : f c ρ S with
  | ok a S' =>
    rw [e] at h
    exact fun v m' H' cs k' R => k a v m' H' S' e (F.kp cs k') k' R (RsOk.step k' h)
  | ex x S' =>
    rw [e] at h
    exact h
  | st =>
    rw [e] at h
    exact h
theorem RsOk.bind {f : Ev α} {g : α → Ev β} (F : FAt K c bs m S σ H ρ) (h : RsOk K W bs fl m σ H RQ Q' (Ev.bind f g c ρ S))
    (k : ∀ a v m1 H1 S1, FAt K c bs m1 S1 σ H1 ρ → Kp fl m H m1 H1 → RP m1 H1 v a → RsOk K W bs fl m1 σ H1 RQ Q' (g a c ρ S1) → Q v H1) : RsOk K W bs fl m σ H RP Q (f c ρ S) := by
  unfold Ev.bind at h
  cases e : f c ρ S with
  | ok a S' =>
    rw [e] at h
    exact fun v m' H' cs k' R => k a v m' H' S' (F.kp cs k') k' R (RsOk.step k' h)
  | ex x S' =>
    rw [e] at h
    exact h
  | st =>
    rw [e] at h
    exact h
end
/-- the readings -/
def RpT (K : PySem.W.Frag) (bs : Bx) : List Addr → Hp → V → T → Prop := fun m H v t => Rep K (mset bs m) H v t
def RpA (K : PySem.W.Frag) (bs : Bx) : List Addr → Hp → List V → List T → Prop := fun m H v t => Reps K (mset bs m) H v t
def RpE {α : Type} : List Addr → Hp → α → α → Prop := fun _ _ v t => v = t
def tX (K : PySem.W.Frag) (W : WX) (f : Ev T) : TE := fun σ H Q => ∃ c bs m S ρ, FAt K c bs m S σ H ρ ∧ RsOk K W bs c.fl m σ H (RpT K bs) Q (f c ρ S)
def tXA (K : PySem.W.Frag) (W : WX) (f : Ev (List T)) : TA := fun σ H Q => ∃ c bs m S ρ, FAt K c bs m S σ H ρ ∧ RsOk K W bs c.fl m σ H (RpA K bs) Q (f c ρ S)
def tXT (K : PySem.W.Frag) (W : WX) (f : Ev Bool) : TT := fun σ H Q => ∃ c bs m S ρ, FAt K c bs m S σ H ρ ∧ RsOk K W bs c.fl m σ H RpE Q (f c ρ S)
theorem PE.imp {X : Cx} {e : Expr} {t t' : TE} (h : PE X e t) (i : ∀ σ H Q, t' σ H Q → t σ H Q) : PE X e t' := ⟨fun pins s σ H Q I hw => h.run pins s σ H Q I (i _ _ _ hw)⟩
theorem PT.imp {X : Cx} {e : Expr} {t t' : TT} (h : PT X e t) (i : ∀ σ H Q, t' σ H Q → t σ H Q) : PT X e t' := ⟨fun pins s σ H Q I hw => h.run pins s σ H Q I (i _ _ _ hw)⟩
theorem PW.imp {X : Cx} {e : Expr} {t t' : TT} (h : PW X e t) (i : ∀ σ H Q, t' σ H Q → t σ H Q) : PW X e t' := ⟨fun wh pins s σ H Q I hw => h.run wh pins s σ H Q I (i _ _ _ hw)⟩
theorem PA.imp {X : Cx} {e : List Expr} {t t' : TA} (h : PA X e t) (i : ∀ σ H Q, t' σ H Q → t σ H Q) : PA X e t' := ⟨fun pos pins s σ H Q I hw => h.run pos pins s σ H Q I (i _ _ _ hw)⟩
theorem PS.imp {X : Cx} {e : Stmt} {t t' : TS} (h : PS X e t) (i : ∀ D σ H, t' D σ H → t D σ H) : PS X e t' := ⟨fun pins s σ H D I hw => h.run pins s σ H D I (i _ _ _ hw)⟩
theorem PSs.imp {X : Cx} {e : List Stmt} {t t' : TS} (h : PSs X e t) (i : ∀ D σ H, t' D σ H → t D σ H) : PSs X e t' := ⟨fun pins s σ H D I hw => h.run pins s σ H D I (i _ _ _ hw)⟩
/-! ### the combinators -/
def unlk : T → T
  | .lk t => t
  | t => t
def vw (S : St) : T → T
  | .ref n => unlk ((S[n]?).getD .non)
  | t => t
def scaT : T → Bool
  | .non => true
  | .bl _ => true
  | .int _ => true
  | .str _ => true
  | _ => false
/-- a plain answer, or a scalar of the cells' contents -/
def orV (o : Option T) (o' : Option T) (S : St) : Rs T := match o with
  | some z => .ok z S
  | none => match o' with
    | some z => if scaT z = true then .ok z S else .st
    | none => .st
def mVar (i : Nat) : Ev T := fun _ ρ S => match ρ[i]? with
  | some (some t) => .ok t S
  | _ => .st
def mC (t : T) : Ev T := fun _ _ S => .ok t S
def mOp (f : T → T → Option T) (a b : Ev T) : Ev T := a.bind fun x => b.bind fun y _ _ S => orV (f x y) (f (vw S x) (vw S y)) S
def mUn (f : T → Option T) (a : Ev T) : Ev T := a.bind fun x _ _ S => orV (f x) (f (vw S x)) S
def mNil : Ev (List T) := fun _ _ S => .ok [] S
def mCons (a : Ev T) (r : Ev (List T)) : Ev (List T) := a.bind fun x => r.bind fun xs _ _ S => .ok (x :: xs) S
def mB (f : List T → Option T) (a : Ev (List T)) : Ev T := a.bind fun xs _ _ S => orV (f xs) (f (xs.map (vw S))) S
def mTst (a : Ev T) : Ev Bool := a.bind fun x => match x with
  | .bl b => fun _ _ S => .ok b S
  | _ => fun _ _ _ => .st
def mNotT (a : Ev Bool) : Ev Bool := a.bind fun b _ _ S => .ok (!b) S
def mAndT (a b : Ev Bool) : Ev Bool := a.bind fun x => if x = true then b else fun _ _ S => .ok false S
def mOrT (a b : Ev Bool) : Ev Bool := a.bind fun x => if x = true then fun _ _ S => .ok true S else b
def mIf (c : Ev Bool) (a b : Ev T) : Ev T := c.bind fun x => if x = true then a else b
def mChain (f g : T → T → Option T) (a b c : Ev T) : Ev T := a.bind fun x => b.bind fun y => match f x y with
  | some (.bl true) => c.bind fun z => Ev.lift (g y z)
  | some (.bl false) => fun _ _ S => .ok (.bl false) S
  | _ => fun _ _ _ => .st
def mAnd (a b : Ev T) : Ev T := a.bind fun x => match x with
  | .bl true => b
  | .bl false => fun _ _ S => .ok (.bl false) S
  | _ => fun _ _ _ => .st
def mOr (a b : Ev T) : Ev T := a.bind fun x => match x with
  | .bl true => fun _ _ S => .ok (.bl true) S
  | .bl false => b
  | _ => fun _ _ _ => .st
def mNot (a : Ev T) : Ev T := a.bind fun x => match x with
  | .bl b => fun _ _ S => .ok (.bl (!b)) S
  | _ => fun _ _ _ => .st
def fTup (xs : List T) : Option T := if xs.length ≤ 1000000 then some (.tup xs) else none
def fLst (xs : List T) : Option T := if xs.length ≤ 1000000 then some (.lst xs) else none
/-! ### what an operation does to trees -/
def Dom (A : ASet) (H : Hp) : Prop := ∀ a, A a → ∃ o, H a = some o
theorem Dom.same {A : ASet} {H H' : Hp} (d : Dom A H) (s : Same H H') : Dom A H' := fun a h => by
  obtain ⟨o, e⟩ := d a h
  exact ⟨o, s _ _ e⟩
theorem Dom.new {A : ASet} {H : Hp} (d : Dom A H) {p : Addr} (h : H p = none) : ¬ A p := fun z => by
  obtain ⟨o, e⟩ := d p z
  rw [h] at e
  cases e
def OpT (K : PySem.W.Frag) (r : R2) (f : T → T → Option T) : Prop := ∀ A H x y tx ty tz Q, Dom A H → Rep K A H x tx → Rep K A H y ty → f tx ty = some tz → (∀ v H', Same H H' → Rep K A H' v tz → Q v H') → r x y H Q
def UnT (K : PySem.W.Frag) (r : V → Hp → VK → Prop) (f : T → Option T) : Prop := ∀ A H x tx tz Q, Dom A H → Rep K A H x tx → f tx = some tz → (∀ v H', Same H H' → Rep K A H' v tz → Q v H') → r x H Q
def CallT (K : PySem.W.Frag) (r : List V → Hp → VK → Prop) (f : List T → Option T) : Prop := ∀ A H xs ts tz Q, Dom A H → Reps K A H xs ts → f ts = some tz → (∀ v H', Same H H' → Rep K A H' v tz → Q v H') → r xs H Q
def MtT (K : PySem.W.Frag) (r : V → List V → Hp → VK → Prop) (f : T → List T → Option T) : Prop := ∀ A H x xs tx ts tz Q, Dom A H → Rep K A H x tx → Reps K A H xs ts → f tx ts = some tz → (∀ v H', Same H H' → Rep K A H' v tz → Q v H') → r x xs H Q
theorem OpT.or1 {K : PySem.W.Frag} {r r' : R2} {f : T → T → Option T} (h : OpT K r f) : OpT K (fun x y H Q => r x y H Q ∨ r' x y H Q) f := fun A H x y tx ty tz Q d rx ry e k => .inl (h A H x y tx ty tz Q d rx ry e k)
/-- avoiding nothing -/
def ASet.fr (A : ASet) : ASet := ⟨fun _ => False, A.ad⟩
section
variable {K : PySem.W.Frag} {A : ASet} {H : Hp} {bs : Bx} {m : List Addr} {S : St}
theorem Lk.free : Lk A H A.fr H := ⟨fun _ _ h => h, fun _ _ _ e => ⟨e, id⟩, fun _ _ e => e, fun _ _ _ e => e⟩
theorem dom_fr : Dom A.fr H := fun _ h => h.elim
theorem CellAt.rep {a : Addr} {c : T} (h : CellAt K A H a c) : Rep K A.fr H (.ref a) (unlk c) := by
  cases h with
  | lst h r => exact .lst id h (r.lk Lk.free)
  | dK h r => exact .dK id (.inl h) (r.lk Lk.free)
  | dT h r => exact .dT id (.inl h) (r.lk Lk.free)
  | obj h r => exact .obj id h (r.lk Lk.free)
  | lkK h r => exact .dK id (.inr ⟨_, h⟩) (r.lk Lk.free)
  | lkT h r => exact .dT id (.inr ⟨_, h⟩) (r.lk Lk.free)
theorem Cs.vw (cs : Cs K bs m S H) {v : V} {t : T} (r : Rep K (mset bs m) H v t) : Rep K (mset bs m).fr H v (vw S t) := by
  cases r with
  | ref h =>
    rename_i a n
    have h : m[n]? = some a := h
    have hn : n < S.length := cs.len ▸ (List.getElem?_eq_some_iff.mp h).1
    have e : S[n]? = some S[n] := List.getElem?_eq_getElem hn
    show Rep K (mset bs m).fr H (.ref a) (unlk ((S[n]?).getD .non))
    rw [e]
    exact (cs.cell n _ a e h).rep
  | non => exact .non
  | bl b => exact .bl b
  | int i => exact .int i
  | str x => exact .str x
  | tup h r => exact Rep.lk Lk.free (.tup h r)
  | wt h r => exact Rep.lk Lk.free (.wt h r)
  | lst na h r => exact Rep.lk Lk.free (.lst na h r)
  | dK na h r => exact Rep.lk Lk.free (.dK na h r)
  | dT na h r => exact Rep.lk Lk.free (.dT na h r)
  | obj na h r => exact Rep.lk Lk.free (.obj na h r)
  | exc na h r => exact Rep.lk Lk.free (.exc na h r)
  | cls C => exact .cls C
  | scr h => exact Rep.lk Lk.free (.scr h)
  | fn x => exact .fn x
theorem Cs.vws (cs : Cs K bs m S H) : ∀ {vs : List V} {l : List T}, Reps K (mset bs m) H vs l → Reps K (mset bs m).fr H vs (l.map (Tm.vw S))
  | _, _, .nil => .nil
  | _, _, .cons h r => .cons (cs.vw h) (Cs.vws cs r)
theorem Rep.sca {A B : ASet} {v : V} {t : T} (r : Rep K A H v t) (h : scaT t = true) : Rep K B H v t := by
  cases r with
  | non => exact .non
  | bl b => exact .bl b
  | int i => exact .int i
  | str x => exact .str x
  | _ => cases h
end
section
variable {X : Cx} {K : PySem.W.Frag} {W : WX} {a b c e : Expr} {es : List Expr} {fa fb fc : Ev T} {pos p : Pos}
theorem Cs.domA {bs : Bx} {m : List Addr} {S : St} {H : Hp} (h : Cs K bs m S H) : Dom (mset bs m) H := fun a z => z.elim (h.dom a) fun z => (h.hid a z).2
/-- an answer by a tree, or by what stands in cells -/
theorem orV_ok {cf : Cf} {bs : Bx} {fl : Nat} {m : List Addr} {S : St} {σ : L2.St} {H : Hp} {ρ : Ro} {Q : VK} {o o' : Option T} (F : FAt K cf bs m S σ H ρ) (h : RsOk K W bs fl m σ H (RpT K bs) Q (orV o o' S)) :
    (∃ z, o = some z ∧ ∀ v H', Same H H' → Rep K (mset bs m) H' v z → Q v H') ∨ (∃ z, o' = some z ∧ ∀ v H', Same H H' → Rep K (mset bs m).fr H' v z → Q v H') := by
  unfold orV at h
  cases o with
  | some z => exact .inl ⟨z, rfl, fun v H' s r => h v m H' (F.cs.same s) (Kp.of_same s) r⟩
  | none =>
    cases o' with
    | none => exact h.elim
    | some z =>
      dsimp only at h
      split at h
      · rename_i hz
        exact .inr ⟨z, rfl, fun v H' s r => h v m H' (F.cs.same s) (Kp.of_same s) (r.sca hz)⟩
      · exact h.elim
theorem m_var (i : Nat) {x : Str} (hN : X.N[i]? = some x := by rfl) (hv : Vis X.env.scope x := by first | exact Or.inl rfl | exact Or.inr (Or.inl rfl) | exact Or.inr (Or.inr rfl)) (hd : (x == ("__debug__" : Str)) = false := by decide)
    (hcd : (x == ("__classdict__" : Str)) = false := by decide) : PE X (.Name x pos) (tX K W (mVar i)) := by
  refine PE.imp (pe_var hN hv hd hcd) fun σ H Q h => ?_
  obtain ⟨cf, bs, m, S, ρ, F, h⟩ := h
  unfold mVar at h
  split at h
  · rename_i t e
    obtain ⟨v, hv, r⟩ := F.sl _ _ e
    exact ⟨v, hv, h v m H F.cs Kp.refl r⟩
  · exact h.elim
theorem m_const {t : T} {v : V} (h : PE X e (tC v)) (r : ∀ A H, Rep K A H v t) : PE X e (tX K W (mC t)) := by
  refine PE.imp h fun σ H Q h => ?_
  obtain ⟨cf, bs, m, S, ρ, F, h⟩ := h
  exact h v m H F.cs Kp.refl (r _ _)
theorem m_int {i : Int} {j} : PE X (.Constant (.int i) j pos) (tX K W (mC (.int i))) := m_const pe_int fun _ _ => .int i
theorem m_str {i : Str} {j} : PE X (.Constant (.str i) j pos) (tX K W (mC (.str i))) := m_const pe_str fun _ _ => .str i
theorem m_bl {i : Bool} {j} : PE X (.Constant (.bool i) j pos) (tX K W (mC (.bl i))) := m_const pe_bl fun _ _ => .bl i
theorem m_non {j} : PE X (.Constant .none j pos) (tX K W (mC .non)) := m_const pe_non fun _ _ => .non
theorem m_gi {x : Str} {i : Int} (hm : ∃ u, X.mg x = some (.int i u)) (hg : Gl X x := by rfl) (hd : (x == ("__debug__" : Str)) = false := by decide) : PE X (.Name x pos) (tX K W (mC (.int i))) := m_const (pe_gi hm hg hd) fun _ _ => .int i
theorem m_gs {x : Str} {i : Str} (hm : ∃ u, X.mg x = some (.str i u)) (hg : Gl X x := by rfl) (hd : (x == ("__debug__" : Str)) = false := by decide) : PE X (.Name x pos) (tX K W (mC (.str i))) := m_const (pe_gs hm hg hd) fun _ _ => .str i
theorem op_read {r : R2} {f : T → T → Option T} {σ : L2.St} {H : Hp} {Q : VK} (ht : OpT K r f) (h : tX K W (mOp f fa fb) σ H Q) : tOp r (tX K W fa) (tX K W fb) σ H Q := by
  obtain ⟨cf, bs, m, S, ρ, F, h⟩ := h
  refine ⟨cf, bs, m, S, ρ, F, RsOk.bind F h fun x vx m1 H1 S1 F1 k1 R1 h1 => ⟨cf, bs, m1, S1, ρ, F1, RsOk.bind F1 h1 fun y vy m2 H2 S2 F2 k2 R2 h2 => ?_⟩⟩
  have R1 : Rep K (mset bs m2) H2 vx x := Rep.lk k2.lk R1
  rcases orV_ok F2 h2 with ⟨z, e, k⟩ | ⟨z, e, k⟩
  · exact ht _ H2 vx vy x y z Q F2.cs.domA R1 R2 e k
  · exact ht _ H2 vx vy _ _ z Q dom_fr (F2.cs.vw R1) (F2.cs.vw R2) e k
theorem m_op {op : Operator} {r : R2} {f : T → T → Option T} (ho : OpR X (binaryOp op) r) (ht : OpT K r f) (ha : PE X a (tX K W fa)) (hb : PE X b (tX K W fb)) : PE X (.BinOp a op b pos) (tX K W (mOp f fa fb)) :=
  PE.imp (pe_op ho ha hb) fun _ _ _ h => op_read ht h
theorem m_cmp {op : CmpOp} {r : R2} {f : T → T → Option T} (ho : OpR X (compareOp op) r) (ht : OpT K r f) (ha : PE X a (tX K W fa)) (hb : PE X b (tX K W fb)) (hm : behindInMarks op b = false) : PE X (.Compare a [op] [b] pos) (tX K W (mOp f fa fb)) :=
  PE.imp (pe_cmpR ho ha hb hm) fun _ _ _ h => op_read ht h
theorem tst_read {f : Ev T} {σ : L2.St} {H : Hp} {Q : Bool → Hp → Prop} (h : tXT K W (mTst f) σ H Q) : tX K W f σ H fun x H1 => ∃ c, x = .bl c ∧ Q c H1 := by
  obtain ⟨cf, bs, m, S, ρ, F, h⟩ := h
  refine ⟨cf, bs, m, S, ρ, F, RsOk.bind F h fun x vx m1 H1 S1 F1 k1 R1 h1 => ?_⟩
  unfold RpT at R1
  cases R1 with
  | bl b => exact ⟨b, rfl, h1 b m1 H1 F1.cs Kp.refl rfl⟩
  | _ => exact h1.elim
theorem m_tst (ha : PE X e (tX K W fa)) (he : ∀ whole, isTrue e X.env whole = (do let v ← whole; standAt e.pos; holding [v] (truthy v)) := by intro _; rfl) : PT X e (tXT K W (mTst fa)) :=
  PT.imp (pt_val ha he) fun _ _ _ h => tst_read h
theorem m_tcmp {op : CmpOp} {r : R2} {f : T → T → Option T} (ho : OpR X (compareOp op) r) (ht : OpT K r f) (ha : PE X a (tX K W fa)) (hb : PE X b (tX K W fb)) (hm : behindInMarks op b = false) : PT X (.Compare a [op] [b] pos) (tXT K W (mTst (mOp f fa fb))) :=
  PT.imp (pt_cmpR ho ha hb hm) fun σ H Q h => by
    have := tst_read h
    exact op_read (Q := fun x H1 => ∃ k, x = .bl k ∧ Q k H1) ht this
section
variable {ta tb : Ev Bool}
theorem m_tnot (ha : PT X a (tXT K W ta)) : PT X (.UnaryOp .Not a pos) (tXT K W (mNotT ta)) := PT.imp (pt_not ha) fun σ H Q h => by
  obtain ⟨cf, bs, m, S, ρ, F, h⟩ := h
  exact ⟨cf, bs, m, S, ρ, F, RsOk.bind F h fun x vx m1 H1 S1 F1 k1 R1 h1 => by cases R1; exact h1 _ m1 H1 F1.cs Kp.refl rfl⟩
theorem m_pand1 (ha : PT X a (tXT K W ta)) : PW X (.BoolOp .And [a] pos) (tXT K W ta) := pw_and1 ha
theorem m_por1 (ha : PT X a (tXT K W ta)) : PW X (.BoolOp .Or [a] pos) (tXT K W ta) := pw_or1 ha
theorem m_pand {rest : List Expr} (ha : PT X a (tXT K W ta)) (hb : PW X (.BoolOp .And (b :: rest) pos) (tXT K W tb)) : PW X (.BoolOp .And (a :: b :: rest) pos) (tXT K W (mAndT ta tb)) := PW.imp (pw_and ha hb) fun σ H Q h => by
  obtain ⟨cf, bs, m, S, ρ, F, h⟩ := h
  refine ⟨cf, bs, m, S, ρ, F, RsOk.bind F h fun x vx m1 H1 S1 F1 k1 R1 h1 => ?_⟩
  cases R1
  cases x with
  | true => exact iteT ⟨cf, bs, m1, S1, ρ, F1, h1⟩
  | false => exact iteF (h1 _ m1 H1 F1.cs Kp.refl rfl)
theorem m_por {rest : List Expr} (ha : PT X a (tXT K W ta)) (hb : PW X (.BoolOp .Or (b :: rest) pos) (tXT K W tb)) : PW X (.BoolOp .Or (a :: b :: rest) pos) (tXT K W (mOrT ta tb)) := PW.imp (pw_or ha hb) fun σ H Q h => by
  obtain ⟨cf, bs, m, S, ρ, F, h⟩ := h
  refine ⟨cf, bs, m, S, ρ, F, RsOk.bind F h fun x vx m1 H1 S1 F1 k1 R1 h1 => ?_⟩
  cases R1
  cases x with
  | true => exact iteT (h1 _ m1 H1 F1.cs Kp.refl rfl)
  | false => exact iteF ⟨cf, bs, m1, S1, ρ, F1, h1⟩
theorem m_ifE {c : Expr} (hc : PT X c (tXT K W ta)) (ha : PE X a (tX K W fa)) (hb : PE X b (tX K W fb)) : PE X (.IfExp c a b pos) (tX K W (mIf ta fa fb)) := PE.imp (pe_ifExp hc ha hb) fun σ H Q h => by
  obtain ⟨cf, bs, m, S, ρ, F, h⟩ := h
  refine ⟨cf, bs, m, S, ρ, F, RsOk.bind F h fun x vx m1 H1 S1 F1 k1 R1 h1 => ?_⟩
  cases R1
  cases x with
  | true => exact iteT ⟨cf, bs, m1, S1, ρ, F1, h1⟩
  | false => exact iteF ⟨cf, bs, m1, S1, ρ, F1, h1⟩
end
theorem m_one {o : BoolOp} (ha : PE X a (tX K W fa)) : PE X (.BoolOp o [a] pos) (tX K W fa) := pe_one ha
theorem m_and {rest : List Expr} (ha : PE X a (tX K W fa)) (hb : PE X (.BoolOp .And (b :: rest) pos) (tX K W fb)) : PE X (.BoolOp .And (a :: b :: rest) pos) (tX K W (mAnd fa fb)) := PE.imp (pe_and ha hb) fun σ H Q h => by
  obtain ⟨cf, bs, m, S, ρ, F, h⟩ := h
  refine ⟨cf, bs, m, S, ρ, F, RsOk.bind F h fun x vx m1 H1 S1 F1 k1 R1 h1 => ?_⟩
  unfold RpT at R1
  cases R1 with
  | bl c =>
    cases c with
    | true => exact ⟨true, rfl, iteT ⟨cf, bs, m1, S1, ρ, F1, h1⟩⟩
    | false => exact ⟨false, rfl, iteF (h1 _ m1 H1 F1.cs Kp.refl (.bl _))⟩
  | _ => exact h1.elim
theorem m_or {rest : List Expr} (ha : PE X a (tX K W fa)) (hb : PE X (.BoolOp .Or (b :: rest) pos) (tX K W fb)) : PE X (.BoolOp .Or (a :: b :: rest) pos) (tX K W (mOr fa fb)) := PE.imp (pe_or ha hb) fun σ H Q h => by
  obtain ⟨cf, bs, m, S, ρ, F, h⟩ := h
  refine ⟨cf, bs, m, S, ρ, F, RsOk.bind F h fun x vx m1 H1 S1 F1 k1 R1 h1 => ?_⟩
  unfold RpT at R1
  cases R1 with
  | bl c =>
    cases c with
    | true => exact ⟨true, rfl, iteT (h1 _ m1 H1 F1.cs Kp.refl (.bl _))⟩
    | false => exact ⟨false, rfl, iteF ⟨cf, bs, m1, S1, ρ, F1, h1⟩⟩
  | _ => exact h1.elim
theorem m_not (ha : PE X a (tX K W fa)) : PE X (.UnaryOp .Not a pos) (tX K W (mNot fa)) := PE.imp (pe_not ha) fun σ H Q h => by
  obtain ⟨cf, bs, m, S, ρ, F, h⟩ := h
  refine ⟨cf, bs, m, S, ρ, F, RsOk.bind F h fun x vx m1 H1 S1 F1 k1 R1 h1 => ?_⟩
  unfold RpT at R1
  cases R1 with
  | bl c => exact ⟨c, rfl, h1 _ m1 H1 F1.cs Kp.refl (.bl _)⟩
  | _ => exact h1.elim
theorem un_read {r : V → Hp → VK → Prop} {f : T → Option T} {σ : L2.St} {H : Hp} {Q : VK} (ht : UnT K r f) (h : tX K W (mUn f fa) σ H Q) : tX K W fa σ H fun x H1 => r x H1 Q := by
  obtain ⟨cf, bs, m, S, ρ, F, h⟩ := h
  refine ⟨cf, bs, m, S, ρ, F, RsOk.bind F h fun x vx m1 H1 S1 F1 k1 R1 h1 => ?_⟩
  rcases orV_ok F1 h1 with ⟨z, e, k⟩ | ⟨z, e, k⟩
  · exact ht _ H1 vx x z Q F1.cs.domA R1 e k
  · exact ht _ H1 vx _ z Q dom_fr (F1.cs.vw R1) e k
theorem m_un {op : UnaryOp} {r : V → Hp → VK → Prop} {f : T → Option T} (ho : UnR X (unaryOp op) r) (ht : UnT K r f) (ha : PE X a (tX K W fa)) : PE X (.UnaryOp op a pos) (tX K W (mUn f fa)) := PE.imp (pe_un ho ha) fun σ H Q h => un_read ht h
/-! chains of two -/
theorem chain_read {r r' : R2} {f g : T → T → Option T} {σ : L2.St} {H : Hp} {Q : VK} (ht : OpT K r f) (ht' : OpT K r' g) (h : tX K W (mChain f g fa fb fc) σ H Q) : tChain r r' (tX K W fa) (tX K W fb) (tX K W fc) σ H Q := by
  obtain ⟨cf, bs, m, S, ρ, F, h⟩ := h
  refine ⟨cf, bs, m, S, ρ, F, RsOk.bind F h fun x vx m1 H1 S1 F1 k1 R1 h1 => ⟨cf, bs, m1, S1, ρ, F1, RsOk.bind F1 h1 fun y vy m2 H2 S2 F2 k2 R2 h2 => ?_⟩⟩
  have R1' : Rep K (mset bs m2) H2 vx x := Rep.lk k2.lk R1
  have key : ∀ k, f x y = some (.bl k) → _ := fun k e => ht _ H2 vx vy x y _ (fun z H3 => ∃ k, z = .bl k ∧ (if k = true then tX K W fc σ H3 fun w' H4 => r' vy w' H4 Q else Q (.bl false) H3)) F2.cs.domA R1' R2 e
  cases e : f x y with
  | none =>
    simp only [e] at h2
    exact h2.elim
  | some tz =>
  cases tz with
  | bl k =>
   cases k with
   | true =>
    simp only [e] at h2
    refine key true e fun v H' s r1 => ?_
    cases r1
    have F3 := F2.same s
    refine ⟨true, rfl, iteT ⟨cf, bs, m2, S2, ρ, F3, RsOk.bind F3 (RsOk.step (Kp.of_same s) h2) fun z vz m3 H3 S3 F3 k3 R3 h3 => ?_⟩⟩
    unfold Ev.lift at h3
    cases e' : g y z with
    | none => rw [e'] at h3; exact h3.elim
    | some t =>
      rw [e'] at h3
      exact ht' _ H3 vy vz y z t Q F3.cs.domA (Rep.lk k3.lk (Rep.same s R2)) R3 e' fun v H' s r' => h3 v m3 H' (F3.cs.same s) (Kp.of_same s) r'
   | false =>
    simp only [e] at h2
    refine key false e fun v H' s r1 => ?_
    cases r1
    exact ⟨false, rfl, iteF (h2 _ m2 H' (F2.cs.same s) (Kp.of_same s) (.bl _))⟩
  | _ =>
    simp only [e] at h2
    exact h2.elim
theorem m_chain {op op' : CmpOp} {r r' : R2} {f g : T → T → Option T} (ho : OpR X (compareOp op) r) (ho' : OpR X (compareOp op') r') (ht : OpT K r f) (ht' : OpT K r' g) (ha : PE X a (tX K W fa)) (hb : PE X b (tX K W fb)) (hc : PE X c (tX K W fc))
    (hm : lastMarks [op, op'] [b, c] = false := by with_unfolding_all rfl) : PE X (.Compare a [op, op'] [b, c] pos) (tX K W (mChain f g fa fb fc)) :=
  PE.imp (pe_chain ho ho' ha hb hc hm) fun _ _ _ h => chain_read ht ht' h
theorem m_tchain {op op' : CmpOp} {r r' : R2} {f g : T → T → Option T} (ho : OpR X (compareOp op) r) (ho' : OpR X (compareOp op') r') (ht : OpT K r f) (ht' : OpT K r' g) (ha : PE X a (tX K W fa)) (hb : PE X b (tX K W fb)) (hc : PE X c (tX K W fc))
    (hm : lastMarks [op, op'] [b, c] = false := by with_unfolding_all rfl) : PT X (.Compare a [op, op'] [b, c] pos) (tXT K W (mTst (mChain f g fa fb fc))) :=
  PT.imp (pt_chain ho ho' ha hb hc hm) fun σ H Q h => by
    have := tst_read h
    exact chain_read (Q := fun x H1 => ∃ k, x = .bl k ∧ Q k H1) ht ht' this
/-! ### arguments -/
variable {fr : Ev (List T)}
theorem m_nil : PA X [] (tXA K W mNil) := PA.imp pa_nil fun σ H Q h => by
  obtain ⟨cf, bs, m, S, ρ, F, h⟩ := h
  exact h [] m H F.cs Kp.refl .nil
theorem m_cons (ha : PE X e (tX K W fa)) (hr : PA X es (tXA K W fr)) (hs : starEach (e :: es) X.env = (false, eval e X.env) :: starEach es X.env := by rfl) : PA X (e :: es) (tXA K W (mCons fa fr)) := PA.imp (pa_cons ha hr hs) fun σ H Q h => by
  obtain ⟨cf, bs, m, S, ρ, F, h⟩ := h
  refine ⟨cf, bs, m, S, ρ, F, RsOk.bind F h fun x vx m1 H1 S1 F1 k1 R1 h1 => ⟨cf, bs, m1, S1, ρ, F1, RsOk.bind F1 h1 fun y vy m2 H2 S2 F2 k2 R2 h2 => ?_⟩⟩
  exact h2 _ m2 H2 F2.cs Kp.refl (.cons (Rep.lk k2.lk R1) R2)
theorem call_read {r : List V → Hp → VK → Prop} {f : List T → Option T} {σ : L2.St} {H : Hp} {Q : VK} (ht : CallT K r f) (h : tX K W (mB f fr) σ H Q) : tXA K W fr σ H fun vs H1 => r vs H1 Q := by
  obtain ⟨cf, bs, m, S, ρ, F, h⟩ := h
  refine ⟨cf, bs, m, S, ρ, F, RsOk.bind F h fun x vx m1 H1 S1 F1 k1 R1 h1 => ?_⟩
  rcases orV_ok F1 h1 with ⟨z, e, k⟩ | ⟨z, e, k⟩
  · exact ht _ H1 vx x z Q F1.cs.domA R1 e k
  · exact ht _ H1 vx _ z Q dom_fr (F1.cs.vws R1) e k
theorem m_callB {id : String} {x : Str} {np : Pos} {r : List V → Hp → VK → Prop} {f : List T → Option T} (hc : CallR X (.builtin id) r) (ht : CallT K r f) (hm : X.mg x = none) (hv : bootBuiltins x = some (.builtin id)) (ha : PA X (e :: es) (tXA K W fr)) (hg : Gl X x := by rfl) (hn : x ≠ "__name__" := by decide) (hdb : (x == ("__debug__" : Str)) = false := by decide)
    (he : starEach (e :: es) X.env = (false, eval e X.env) :: starEach es X.env := by rfl) (hpl : (backTo pos (starEach es X.env)).any (·.1) = false := by rfl) : PE X (.Call (.Name x np) (e :: es) [] pos) (tX K W (mB f fr)) :=
  PE.imp (pe_callB hc hg hm hv ha hn hdb he hpl) fun _ _ _ h => call_read ht h
theorem m_callTy {id : String} {x : Str} {np : Pos} {r : List V → Hp → VK → Prop} {f : List T → Option T} (hc : CallR X (.type id) r) (ht : CallT K r f) (hm : X.mg x = none) (hv : bootBuiltins x = some (.type id)) (ha : PA X (e :: es) (tXA K W fr)) (hg : Gl X x := by rfl) (hn : x ≠ "__name__" := by decide) (hdb : (x == ("__debug__" : Str)) = false := by decide)
    (he : starEach (e :: es) X.env = (false, eval e X.env) :: starEach es X.env := by rfl) (hpl : (backTo pos (starEach es X.env)).any (·.1) = false := by rfl) : PE X (.Call (.Name x np) (e :: es) [] pos) (tX K W (mB f fr)) :=
  PE.imp (pe_callTy hc hg hm hv ha hn hdb he hpl) fun _ _ _ h => call_read ht h
/-! ### new tuples and lists -/
theorem big_le {n : Nat} (h : n ≤ 1000000) : n ≤ sizeLine := Nat.le_trans h (by rw [sizeLine_eq]; decide)
def mTup (fr : Ev (List T)) : Ev T := fr.bind fun xs _ _ S => if xs.length ≤ 1000000 then .ok (.tup xs) S else .st
def mLst (fr : Ev (List T)) : Ev T := fr.bind fun xs _ _ S => if xs.length ≤ 1000000 then .ok (.lst xs) S else .st
theorem m_tup {x1} (h : PA X es (tXA K W fr)) : PE X (.Tuple es x1 pos) (tX K W (mTup fr)) := PE.imp (pe_tup h) fun σ H Q h => by
  obtain ⟨cf, bs, m, S, ρ, F, h⟩ := h
  refine ⟨cf, bs, m, S, ρ, F, RsOk.bind F h fun xs vs m1 H1 S1 F1 k1 R1 h1 => ?_⟩
  have R1 : Reps K (mset bs m1) H1 vs xs := R1
  split at h1
  · rename_i hl
    refine ⟨big_le (by rw [R1.length]; exact hl), fun p hp => ?_⟩
    have s := same_new (o := .tup vs) hp
    exact h1 _ m1 _ (F1.cs.same s) (Kp.of_same s) (.tup upd_same (R1.same s))
  · exact h1.elim
theorem m_lst (h : PA X es (tXA K W fr)) : PE X (.List es pos) (tX K W (mLst fr)) := PE.imp (pe_lst h) fun σ H Q h => by
  obtain ⟨cf, bs, m, S, ρ, F, h⟩ := h
  refine ⟨cf, bs, m, S, ρ, F, RsOk.bind F h fun xs vs m1 H1 S1 F1 k1 R1 h1 => ?_⟩
  have R1 : Reps K (mset bs m1) H1 vs xs := R1
  split at h1
  · rename_i hl
    refine ⟨big_le (by rw [R1.length]; exact hl), fun p hp => ?_⟩
    have s := same_new (o := .lst vs) hp
    exact h1 _ m1 _ (F1.cs.same s) (Kp.of_same s) (.lst (F1.cs.domA.new hp) upd_same (R1.same s))
  · exact h1.elim
/-! ### fields -/
def nix (ns : List Str) (f : Str) : Nat := ns.findIdx (· == f)
theorem lookup_nix : ∀ {fs : List (Str × V)} {f : Str} {v : V}, f ∈ fs.map (·.1) → (fs.map (·.2))[nix (fs.map (·.1)) f]? = some v → fs.lookup f = some v
  | [], f, v, h, _ => nomatch h
  | (n, u) :: fs, f, v, h, e => by
    rw [List.lookup_cons]
    by_cases q : f = n
    · subst q
      simp [nix, List.findIdx_cons] at e
      simp [e]
    · have q' : ¬ n = f := fun z => q z.symm
      have h1 : f ∈ fs.map (·.1) := by
        simp only [List.map_cons, List.mem_cons] at h
        exact h.resolve_left q
      have e2 : (n == f) = false := beq_eq_false_iff_ne.mpr q'
      have e3 : (f == n) = false := beq_eq_false_iff_ne.mpr q
      rw [e3]
      refine lookup_nix h1 ?_
      simpa [nix, List.findIdx_cons, e2] using e
/-- of which classes a field may be read -/
def m_fldC (K : PySem.W.Frag) (Cs : List Str) (f : Str) : Prop := ∀ C ∈ Cs, Cls K (He.ga K C) ∧ NoAttr K (He.ga K C) f
def fFldC (Cs : List Str) (f : Str) (t : T) : Option T := match t with
  | .obj C ns l => if C ∈ Cs ∧ f ∈ ns then l[nix ns f]? else none
  | _ => none
/-- a field of a tree or a cell -/
def mFld (Cs : List Str) (f : Str) (fa : Ev T) : Ev T := fa.bind fun x _ _ S => match fFldC Cs f (vw S x) with
  | some z => .ok z S
  | none => .st
/-- an instance, in a tree or a cell -/
theorem ins_at {bs : Bx} {m : List Addr} {S : St} {H : Hp} (cs : Cs K bs m S H) {v : V} {t : T} (r : Rep K (mset bs m) H v t) {C : Str} {ns : List Str} {l : List T} (e : vw S t = .obj C ns l) :
    ∃ a dx fs, v = .ref a ∧ H a = some (.ins (He.ga K C) dx fs) ∧ fs.map (·.1) = ns ∧ Reps K (mset bs m) H (fs.map (·.2)) l := by
  cases r with
  | obj na h r =>
    cases e
    exact ⟨_, _, _, rfl, h, rfl, r⟩
  | ref h =>
    rename_i a n
    have h : m[n]? = some a := h
    have hn : n < S.length := cs.len ▸ (List.getElem?_eq_some_iff.mp h).1
    have es : S[n]? = some S[n] := List.getElem?_eq_getElem hn
    have e : unlk ((S[n]?).getD .non) = .obj C ns l := e
    rw [es] at e
    have e : unlk S[n] = .obj C ns l := e
    have := cs.cell n _ a es h
    generalize S[n] = cc at this e
    cases this with
    | obj h r => cases e; exact ⟨_, _, _, rfl, h, rfl, r⟩
    | _ => cases e
  | _ => cases e
theorem m_fld {f : Str} {Cs : List Str} (hC : m_fldC K Cs f) (he : PE X e (tX K W fa)) (hb : attributeBase e f X.env (eval e X.env) = eval e X.env := by rfl) (hK : X.K = K := by rfl) : PE X (.Attribute e f pos) (tX K W (mFld Cs f fa)) := PE.imp (k_fld K he hb hK) fun σ H Q h => by
  obtain ⟨cf, bs, m, S, ρ, F, h⟩ := h
  refine ⟨cf, bs, m, S, ρ, F, RsOk.bind F h fun x vx m1 H1 S1 F1 k1 R1 h1 => ?_⟩
  cases e : fFldC Cs f (vw S1 x) with
  | none => rw [e] at h1; exact h1.elim
  | some z =>
    rw [e] at h1
    unfold fFldC at e
    split at e
    · rename_i C ns l et
      split at e
      · rename_i hc
        obtain ⟨a, dx, fs, rfl, ha, rfl, rs⟩ := ins_at F1.cs R1 et
        obtain ⟨v, ev, rv⟩ := rs.get e
        obtain ⟨c1, c2⟩ := hC _ hc.1
        exact ⟨_, _, _, _, v, rfl, ha, c1, c2, lookup_nix hc.2 ev, h1 v m1 H1 F1.cs Kp.refl rv⟩
      · cases e
    · cases e
end
end Tm

/-! N2: statements. -/
namespace Tm
open PySem PySem.Spec PyProof.Rows L2
inductive Ou where
  | nx (ρ : Ro) (S : St)
  | rt (t : T) (S : St)
  | br (ρ : Ro) (S : St)
  | ct (ρ : Ro) (S : St)
  | ex (x : T) (ρ : Ro) (S : St)
  | st
abbrev Sv := Cf → Ro → St → Ou
def OuOk (K : PySem.W.Frag) (W : WX) (cf : Cf) (bs : Bx) (m : List Addr) (H : Hp) (D : Ends) : Ou → Prop
  | .nx ρ' S' => ∀ σ' m' H', FAt K cf bs m' S' σ' H' ρ' → Kp cf.fl m H m' H' → D.nx σ' H'
  | .br ρ' S' => ∀ σ' m' H', FAt K cf bs m' S' σ' H' ρ' → Kp cf.fl m H m' H' → D.bk σ' H'
  | .ct ρ' S' => ∀ σ' m' H', FAt K cf bs m' S' σ' H' ρ' → Kp cf.fl m H m' H' → D.ct σ' H'
  | .rt t S' => ∀ v m' H', Cs K bs m' S' H' → Kp cf.fl m H m' H' → Rep K (mset bs m') H' v t → D.rt v H'
  | .ex x ρ' S' => ∀ cls d σ' m' H', FAt K cf bs m' S' σ' H' ρ' → Kp cf.fl m H m' H' → XAt K (mset bs m') H' x cls d → W cls d σ' H'
  | .st => False
def tXS (K : PySem.W.Frag) (W : WX) (g : Sv) : TS := fun D σ H => ∃ c bs m S ρ, FAt K c bs m S σ H ρ ∧ OuOk K W c bs m H D (g c ρ S)
/-- an expression's end, then k -/
def ouE {α : Type} (r : Rs α) (ρ : Ro) (k : α → St → Ou) : Ou := match r with
  | .ok a S => k a S
  | .ex x S => .ex x ρ S
  | .st => .st
section
variable {K : PySem.W.Frag} {W : WX} {cf : Cf} {bs : Bx} {m m1 : List Addr} {S S1 : St} {H H1 : Hp} {D : Ends} {σ : L2.St} {ρ ρ1 : Ro}
theorem OuOk.step {o : Ou} (k : Kp cf.fl m H m1 H1) (h : OuOk K W cf bs m H D o) : OuOk K W cf bs m1 H1 D o := by
  cases o with
  | nx ρ' S' => exact fun σ' m' H' F' k' => h σ' m' H' F' (k.trans k')
  | br ρ' S' => exact fun σ' m' H' F' k' => h σ' m' H' F' (k.trans k')
  | ct ρ' S' => exact fun σ' m' H' F' k' => h σ' m' H' F' (k.trans k')
  | rt t S' => exact fun v m' H' cs k' r => h v m' H' cs (k.trans k') r
  | ex x ρ' S' => exact fun cls d σ' m' H' F' k' r => h cls d σ' m' H' F' (k.trans k') r
  | st => exact h
/-- an expression, then k -/
theorem OuOk.ofE {α ν : Type} {RP : List Addr → Hp → ν → α → Prop} {Q : ν → Hp → Prop} (F : FAt K cf bs m S σ H ρ) {r : Rs α} {k : α → St → Ou} (h : OuOk K W cf bs m H D (ouE r ρ k))
    (hk : ∀ a v m1 H1 S1, r = .ok a S1 → FAt K cf bs m1 S1 σ H1 ρ → Kp cf.fl m H m1 H1 → RP m1 H1 v a → OuOk K W cf bs m1 H1 D (k a S1) → Q v H1) : RsOk K W bs cf.fl m σ H RP Q r := by
  cases r with
  | ok a S' => exact fun v m' H' cs k' R => hk a v m' H' S' rfl (F.kp cs k') k' R (OuOk.step k' h)
  | ex x S' => exact fun cls d m' H' cs k' R => h cls d σ m' H' (F.kp cs k') k' R
  | st => exact h
end
/-! ### the combinators -/
def sNext : Sv := fun _ ρ S => .nx ρ S
def sSeq (g h : Sv) : Sv := fun c ρ S => match g c ρ S with
  | .nx ρ1 S1 => h c ρ1 S1
  | o => o
def setS (i : Nat) (t : T) (ρ : Ro) : Ro := ρ.set i (some t)
/-- targets: what a value does to the slots and cells -/
abbrev Tg := T → Cf → Ro → St → Option (Ro × St)
def gNm (i : Nat) : Tg := fun t _ ρ S => if i < ρ.length then some (ρ.set i (some t), S) else none
def gTup0 : List Tg → List T → Cf → Ro → St → Option (Ro × St)
  | [], [], _, ρ, S => some (ρ, S)
  | g :: gs, t :: l, c, ρ, S => match g t c ρ S with
    | some (ρ1, S1) => gTup0 gs l c ρ1 S1
    | none => none
  | _, _, _, _, _ => none
def gTup (gs : List Tg) : Tg := fun t c ρ S => match t with
  | .tup l => gTup0 gs l c ρ S
  | .lst l => gTup0 gs l c ρ S
  | .wt l => gTup0 gs l c ρ S
  | _ => none
def sAsg (f : Ev T) (g : Tg) : Sv := fun c ρ S => ouE (f c ρ S) ρ fun t S => match g t c ρ S with
  | some (ρ1, S1) => .nx ρ1 S1
  | none => .st
def sRet (f : Ev T) : Sv := fun c ρ S => ouE (f c ρ S) ρ fun t S => .rt t S
def sExpr (f : Ev T) : Sv := fun c ρ S => ouE (f c ρ S) ρ fun _ S => .nx ρ S
def sIf (t : Ev Bool) (g h : Sv) : Sv := fun c ρ S => ouE (t c ρ S) ρ fun b S => if b = true then g c ρ S else h c ρ S
def forL (g : Tg) (b : Sv) : List T → Sv
  | [], _, ρ, S => .nx ρ S
  | x :: l, c, ρ, S => match g x c ρ S with
    | some (ρ1, S1) => match b c ρ1 S1 with
      | .nx ρ2 S2 => forL g b l c ρ2 S2
      | .ct ρ2 S2 => forL g b l c ρ2 S2
      | .br ρ2 S2 => .nx ρ2 S2
      | o => o
    | none => .st
def sFor (fi : Ev (List T)) (g : Tg) (b : Sv) : Sv := fun c ρ S => ouE (fi c ρ S) ρ fun l S => forL g b l c ρ S
def whL (t : Ev Bool) (b : Sv) : Nat → Sv
  | 0, _, _, _ => .st
  | n + 1, c, ρ, S => match t c ρ S with
    | .ok true S1 => match b c ρ S1 with
      | .nx ρ2 S2 => whL t b n c ρ2 S2
      | .ct ρ2 S2 => whL t b n c ρ2 S2
      | .br ρ2 S2 => .nx ρ2 S2
      | o => o
    | .ok false S1 => .nx ρ S1
    | .ex x S1 => .ex x ρ S1
    | .st => .st
/-- as long as it lasts, at most this often -/
def whLine : Nat := 1000000000000
def sWhile (t : Ev Bool) (b : Sv) : Sv := whL t b whLine
theorem whL_mono {t : Ev Bool} {b : Sv} : ∀ {n : Nat} {c : Cf} {ρ : Ro} {S : St}, whL t b n c ρ S ≠ .st → whL t b (n + 1) c ρ S = whL t b n c ρ S
  | 0, c, ρ, S, h => absurd rfl h
  | n + 1, c, ρ, S, h => by
    unfold whL at h ⊢
    cases e : t c ρ S with
    | ok x S1 =>
      cases x with
      | true =>
        simp only [e] at h ⊢
        cases e2 : b c ρ S1 with
        | nx ρ2 S2 => simp only [e2] at h ⊢; exact whL_mono h
        | ct ρ2 S2 => simp only [e2] at h ⊢; exact whL_mono h
        | br ρ2 S2 => simp only [e2] at h ⊢
        | rt t S2 => simp only [e2] at h ⊢
        | ex x ρ2 S2 => simp only [e2] at h ⊢
        | st => simp only [e2] at h ⊢
      | false => simp only [e] at h ⊢
    | ex x S1 => simp only [e] at h ⊢
    | st => simp only [e] at h ⊢
theorem whL_le {t : Ev Bool} {b : Sv} {n k : Nat} {c : Cf} {ρ : Ro} {S : St} (h : whL t b n c ρ S ≠ .st) (hk : n ≤ k) : whL t b k c ρ S = whL t b n c ρ S := by
  obtain ⟨j, rfl⟩ := Nat.exists_eq_add_of_le hk
  induction j with
  | zero => rfl
  | succ j ih =>
    have e := ih (Nat.le_add_right _ _)
    rw [← e]
    show whL t b (n + j + 1) c ρ S = _
    exact whL_mono (by rw [e]; exact h)
/-! ### the rules -/
section
variable {X : Cx} {K : PySem.W.Frag} {W : WX} {e : Expr} {st : Stmt} {rest body : List Stmt} {f : Ev T} {g h : Sv} {pos : Pos}
theorem s_nil : PSs X [] (tXS K W sNext) := PSs.imp pss_nil fun D σ H h => by
  obtain ⟨cf, bs, m, S, ρ, F, h⟩ := h
  exact h σ m H F Kp.refl
theorem s_cons (h1 : PS X st (tXS K W g)) (h2 : PSs X rest (tXS K W h)) : PSs X (st :: rest) (tXS K W (sSeq g h)) := PSs.imp (pss_cons h1 h2) fun D σ H q => by
  obtain ⟨cf, bs, m, S, ρ, F, q⟩ := q
  refine ⟨cf, bs, m, S, ρ, F, ?_⟩
  unfold sSeq at q
  cases e : g cf ρ S with
  | nx ρ1 S1 =>
    rw [e] at q
    exact fun σ' m' H' F' k' => ⟨cf, bs, m', S1, ρ1, F', OuOk.step k' q⟩
  | br ρ1 S1 => rw [e] at q; exact q
  | ct ρ1 S1 => rw [e] at q; exact q
  | rt t S1 => rw [e] at q; exact q
  | ex x ρ1 S1 => rw [e] at q; exact q
  | st => rw [e] at q; exact q
theorem s_one (h1 : PS X st (tXS K W g)) : PSs X [st] (tXS K W g) := pss_one h1
theorem s_pass : PS X (.Pass pos) (tXS K W sNext) := PS.imp ps_pass fun D σ H h => by
  obtain ⟨cf, bs, m, S, ρ, F, h⟩ := h
  exact h σ m H F Kp.refl
theorem s_break : PS X (.Break pos) (tXS K W fun _ ρ S => .br ρ S) := PS.imp ps_break fun D σ H h => by
  obtain ⟨cf, bs, m, S, ρ, F, h⟩ := h
  exact h σ m H F Kp.refl
theorem s_continue : PS X (.Continue pos) (tXS K W fun _ ρ S => .ct ρ S) := PS.imp ps_continue fun D σ H h => by
  obtain ⟨cf, bs, m, S, ρ, F, h⟩ := h
  exact h σ m H F Kp.refl
theorem s_ret (he : PE X e (tX K W f)) : PS X (.Return (some e) pos) (tXS K W (sRet f)) := PS.imp (ps_ret he) fun D σ H h => by
  obtain ⟨cf, bs, m, S, ρ, F, h⟩ := h
  exact ⟨cf, bs, m, S, ρ, F, OuOk.ofE F h fun t v m1 H1 S1 _ F1 k1 R1 h1 => h1 v m1 H1 F1.cs Kp.refl R1⟩
theorem s_retN : PS X (.Return none pos) (tXS K W fun _ _ S => .rt .non S) := PS.imp ps_retN fun D σ H h => by
  obtain ⟨cf, bs, m, S, ρ, F, h⟩ := h
  exact h .non m H F.cs Kp.refl .non
theorem s_expr (he : PE X e (tX K W f)) (hs : swapsWith e none pos.line X.env = pure false := by rfl) : PS X (.Expr e pos) (tXS K W (sExpr f)) := PS.imp (ps_expr he hs) fun D σ H h => by
  obtain ⟨cf, bs, m, S, ρ, F, h⟩ := h
  exact ⟨cf, bs, m, S, ρ, F, OuOk.ofE F h fun t v m1 H1 S1 _ F1 k1 R1 h1 => h1 σ m1 H1 F1 Kp.refl⟩
theorem s_doc {x j pos'} : PS X (.Expr (.Constant (.str x) j pos) pos') (tXS K W sNext) := PS.imp ps_doc fun D σ H h => by
  obtain ⟨cf, bs, m, S, ρ, F, h⟩ := h
  exact h σ m H F Kp.refl
theorem s_never {st : Stmt} : PS X st (tXS K W fun _ _ _ => .st) := ⟨fun _ _ _ _ _ _ ⟨_, _, _, _, _, _, h⟩ => h.elim⟩
theorem s_if {c : Expr} {a b : List Stmt} {tc : Ev Bool} (hc : PT X c (tXT K W tc)) (ha : PSs X a (tXS K W g)) (hb : PSs X b (tXS K W h)) : PS X (.If c a b pos) (tXS K W (sIf tc g h)) := PS.imp (ps_if hc ha hb) fun D σ H q => by
  obtain ⟨cf, bs, m, S, ρ, F, q⟩ := q
  refine ⟨cf, bs, m, S, ρ, F, OuOk.ofE F q fun t v m1 H1 S1 _ F1 k1 R1 h1 => ?_⟩
  cases R1
  cases t with
  | true => exact iteT ⟨cf, bs, m1, S1, ρ, F1, h1⟩
  | false => exact iteF ⟨cf, bs, m1, S1, ρ, F1, h1⟩
/-! targets -/
def Oth (vs : List Nat) (σ σ' : L2.St) : Prop := σ'.length = σ.length ∧ ∀ j : Nat, j ∉ vs → σ'[j]? = σ[j]?
theorem Oth.trans {vs ws : List Nat} {σ σ1 σ2 : L2.St} (a : Oth vs σ σ1) (b : Oth ws σ1 σ2) : Oth (vs ++ ws) σ σ2 := ⟨b.1.trans a.1, fun j h => by
  rw [List.mem_append] at h
  rw [b.2 j fun z => h (.inr z), a.2 j fun z => h (.inl z)]⟩
def tXG (K : PySem.W.Frag) (vs : List Nat) (g : Tg) : TG := fun v σ H Q => ∃ c bs m S ρ t, FAt K c bs m S σ H ρ ∧ Rep K (mset bs m) H v t ∧ ∃ ρ' S', g t c ρ S = some (ρ', S') ∧ ∀ σ' H', FAt K c bs m S' σ' H' ρ' → Kp c.fl m H m H' → Oth vs σ σ' → Q σ' H'
def tXGs (K : PySem.W.Frag) (vs : List Nat) (gs : List Tg) : TGs := fun xs σ H Q => ∃ c bs m S ρ l, FAt K c bs m S σ H ρ ∧ Reps K (mset bs m) H xs l ∧ ∃ ρ' S', gTup0 gs l c ρ S = some (ρ', S') ∧ ∀ σ' H', FAt K c bs m S' σ' H' ρ' → Kp c.fl m H m H' → Oth vs σ σ' → Q σ' H'
theorem PG.imp {X : Cx} {e : Expr} {t t' : TG} (h : PG X e t) (i : ∀ v σ H Q, t' v σ H Q → t v σ H Q) : PG X e t' := ⟨fun pins s σ H v u Q I r hw => h.run pins s σ H v u Q I r (i _ _ _ _ hw)⟩
theorem PG.or {X : Cx} {e : Expr} {t t' : TG} (h : PG X e t) (h' : PG X e t') : PG X e (fun v σ H Q => t v σ H Q ∨ t' v σ H Q) := ⟨fun pins s σ H v u Q I r hw => hw.elim (h.run pins s σ H v u Q I r) (h'.run pins s σ H v u Q I r)⟩
theorem PGs.imp {X : Cx} {e : List Expr} {t t' : TGs} (h : PGs X e t) (i : ∀ v σ H Q, t' v σ H Q → t v σ H Q) : PGs X e t' := ⟨fun pins s σ H v u Q I r hw => h.run pins s σ H v u Q I r (i _ _ _ _ hw)⟩
theorem FAt.set {cf : Cf} {bs : Bx} {m : List Addr} {S : St} {σ : L2.St} {H : Hp} {ρ : Ro} (F : FAt K cf bs m S σ H ρ) {i : Nat} {v : V} {t : T} (r : Rep K (mset bs m) H v t) : FAt K cf bs m S (σ.set i (some v)) H (ρ.set i (some t)) := by
  refine ⟨F.cs, F.bn, by rw [List.length_set, List.length_set]; exact F.len, fun j u h => ?_⟩
  by_cases q : j = i
  · subst q
    have hl : j < ρ.length := by
      have := (List.getElem?_eq_some_iff.mp h).1
      rwa [List.length_set] at this
    rw [List.getElem?_set_self hl] at h
    cases h
    exact ⟨v, by rw [List.getElem?_set_self (by rw [F.len]; exact hl)], r⟩
  · rw [List.getElem?_set_ne (fun z => q z.symm)] at h ⊢
    exact F.sl j u h
theorem g_name (i : Nat) {x : Str} (hN : X.N.Nodup) (hi : X.N[i]? = some x := by rfl) (hx : Loc X.env.scope x := by first | exact Or.inl rfl | exact Or.inr rfl) (hf : X.fn x = true ∨ X.env.scope.names.lookup x = some .local := by first | exact .inl rfl | exact .inr rfl | assumption) : PG X (.Name x pos) (tXG K [i] (gNm i)) := PG.imp (pg_name hN hi hx hf) fun v σ H Q h => by
  obtain ⟨cf, bs, m, S, ρ, t, F, r, ρ', S', e, k⟩ := h
  unfold gNm at e
  split at e
  · cases e
    exact k _ H (F.set r) Kp.refl ⟨List.length_set .., fun j hj => List.getElem?_set_ne fun z => hj (by simp [z])⟩
  · cases e
theorem gs_nil : PGs X [] (tXGs K [] []) := PGs.imp pgs_nil fun v σ H Q h => by
  obtain ⟨cf, bs, m, S, ρ, l, F, r, ρ', S', e, k⟩ := h
  cases l with
  | nil =>
    cases r
    cases e
    exact ⟨rfl, k _ H F Kp.refl ⟨rfl, fun _ _ => rfl⟩⟩
  | cons t l => cases e
theorem gs_cons {es : List Expr} {g : Tg} {gs : List Tg} {vs ws : List Nat} (h1 : PG X e (tXG K vs g)) (h2 : PGs X es (tXGs K ws gs)) (hs : (assignEach (e :: es) X.env).map (·.2) = assign e X.env :: (assignEach es X.env).map (·.2) := by rfl) : PGs X (e :: es) (tXGs K (vs ++ ws) (g :: gs)) := PGs.imp (pgs_cons h1 h2 hs) fun v σ H Q h => by
  obtain ⟨cf, bs, m, S, ρ, l, F, r, ρ', S', e, k⟩ := h
  cases l with
  | nil => cases e
  | cons t l =>
    unfold gTup0 at e
    cases e1 : g t cf ρ S with
    | none => rw [e1] at e; cases e
    | some q =>
      obtain ⟨ρ1, S1⟩ := q
      rw [e1] at e
      cases r with
      | cons r rs =>
        exact ⟨_, _, rfl, cf, bs, m, S, ρ, t, F, r, ρ1, S1, e1, fun σ' H' F' k' o' => ⟨cf, bs, m, S1, ρ1, l, F', Reps.lk k'.lk rs, ρ', S', e, fun σ2 H2 F2 k2 o2 => k _ H2 F2 (k'.trans k2) (o'.trans o2)⟩⟩
theorem gTup0_len : ∀ {gs : List Tg} {l : List T} {c : Cf} {ρ : Ro} {S : St} {q : Ro × St}, gTup0 gs l c ρ S = some q → l.length = gs.length
  | [], [], _, _, _, _, _ => rfl
  | [], _ :: _, _, _, _, _, e => by cases e
  | _ :: _, [], _, _, _, _, e => by cases e
  | g :: gs, t :: l, c, ρ, S, q, e => by
    unfold gTup0 at e
    cases e1 : g t c ρ S with
    | none => rw [e1] at e; cases e
    | some q1 =>
      rw [e1] at e
      rw [List.length_cons, List.length_cons, gTup0_len e]
theorem g_tup {es : List Expr} {kk : Nat} {gs : List Tg} {vs : List Nat} (hc : X.calm = true) (h : PGs X es (tXGs K vs gs))
    (hn : (assignEach es X.env).length = gs.length := by rfl) (hst : (assignEach es X.env).findIdx? (·.1) = none := by rfl) (hK : X.K = K := by rfl) : PG X (.Tuple es kk pos) (tXG K vs (gTup gs)) := by
  subst hK
  refine PG.imp (PG.or (pg_tup hc h hn hst) (pg_lst hc h hn hst)) fun v σ H Q h => ?_
  obtain ⟨cf, bs, m, S, ρ, t, F, r, ρ', S', e, k⟩ := h
  unfold gTup at e
  split at e
  · rename_i l
    cases r with
    | tup hq rs => exact .inl ⟨_, _, rfl, .inl (.inl hq), by rw [rs.length]; exact gTup0_len e, cf, bs, m, S, ρ, l, F, rs, ρ', S', e, k⟩
  · rename_i l
    cases r with
    | lst na hq rs => exact .inr ⟨_, _, rfl, .inl (.inl hq), by rw [rs.length]; exact gTup0_len e, cf, bs, m, S, ρ, l, F, rs, ρ', S', e, k⟩
  · rename_i l
    cases r with
    | wt hq rs => exact .inl ⟨_, _, rfl, hq _, by rw [rs.length]; exact gTup0_len e, cf, bs, m, S, ρ, l, F, rs, ρ', S', e, k⟩
  · cases e
theorem s_asg {tg : Expr} {g : Tg} {vs : List Nat} (he : PE X e (tX K W f)) (hg : PG X tg (tXG K vs g)) (hs : swapsWithSole [tg] e pos.line X.env = pure false := by rfl) (hw : swappedStores [tg] e X.env = pure none := by rfl)
    (h1 : (assignEach [tg] X.env).map (·.2) = [assign tg X.env] := by rfl) : PS X (.Assign [tg] e pos) (tXS K W (sAsg f g)) := PS.imp (ps_asg he hg hs hw h1) fun D σ H h => by
  obtain ⟨cf, bs, m, S, ρ, F, h⟩ := h
  refine ⟨cf, bs, m, S, ρ, F, OuOk.ofE F h fun t v m1 H1 S1 _ F1 k1 R1 h1 => ?_⟩
  cases e : g t cf ρ S1 with
  | none => rw [e] at h1; exact h1.elim
  | some q =>
    obtain ⟨ρ1, S2⟩ := q
    rw [e] at h1
    exact ⟨cf, bs, m1, S1, ρ, t, F1, R1, ρ1, S2, e, fun σ' H' F' k' _ => h1 σ' m1 H' F' k'⟩
/-- name = value -/
theorem s_set (i : Nat) {x : Str} {pos' : Pos} (hN : X.N.Nodup) (he : PE X e (tX K W f)) (hi : X.N[i]? = some x := by rfl) (hx : Loc X.env.scope x := by first | exact Or.inl rfl | exact Or.inr rfl) (hs : swapsWith e (some (.Name x pos')) pos.line X.env = pure false := by rfl) (hf : X.fn x = true ∨ X.env.scope.names.lookup x = some .local := by first | exact .inl rfl | exact .inr rfl | assumption) :
    PS X (.Assign [.Name x pos'] e pos) (tXS K W (sAsg f (gNm i))) := PS.imp (ps_set hN hi hx he hs hf) fun D σ H h => by
  obtain ⟨cf, bs, m, S, ρ, F, h⟩ := h
  refine ⟨cf, bs, m, S, ρ, F, OuOk.ofE F h fun t v m1 H1 S1 _ F1 k1 R1 h1 => ?_⟩
  unfold gNm at h1
  by_cases q : i < ρ.length
  · rw [if_pos q] at h1
    exact h1 _ m1 H1 (F1.set R1) Kp.refl
  · rw [if_neg q] at h1
    exact h1.elim
end
end Tm

/-! N3: loops. -/
namespace Tm
open PySem PySem.Spec PyProof.Rows L2
/-- what is walked: known things, or a cell as it is then -/
inductive Src where
  | fix (l : List T)
  | cell (n : Nat)
  | en (n : Nat)
def srcAt : Src → St → Nat → Option (Option T)
  | .fix l, _, i => some l[i]?
  | .cell n, S, i => match S[n]? with
    | some (.lst l) => some l[i]?
    | _ => none
  | .en n, S, i => match S[n]? with
    | some (.lst l) => some (l[i]?.map fun x => T.tup [.int (i : Nat), x])
    | _ => none
def RpI (K : PySem.W.Frag) (bs : Bx) : List Addr → Hp → It → Src → Prop := fun m H J src => ∀ (bs' : Bx) m2 S2 H2, Lk (mset bs m) H (mset bs' m2) H2 → Cs K bs' m2 S2 H2 → ∀ i,
  (∀ t, srcAt src S2 i = some (some t) → J.go i H2 ∧ ∀ x H3, J.yld i H2 x H3 → Same H2 H3 ∧ Rep K (mset bs' m2) H3 x t) ∧ (srcAt src S2 i = some none → J.stop i H2)
def tXI (K : PySem.W.Frag) (W : WX) (f : Ev Src) : TI := fun σ H R => ∃ c bs m S ρ, FAt K c bs m S σ H ρ ∧ RsOk K W bs c.fl m σ H (RpI K bs) R (f c ρ S)
def mSeqOf (a : Ev T) : Ev Src := a.bind fun x _ _ S => match x with
  | .lst l => .ok (.fix l) S
  | .tup l => .ok (.fix l) S
  | .wt l => .ok (.fix l) S
  | .scr ns => .ok (.fix (ns.map T.int)) S
  | .ref n => match S[n]? with
    | some (.lst _) => .ok (.cell n) S
    | _ => .st
  | _ => .st
section
variable {K : PySem.W.Frag} {bs : Bx} {m : List Addr} {H1 : Hp}
theorem it_list {a : Addr} {l : List T} (r : Rep K (mset bs m) H1 (.ref a) (.lst l)) : RpI K bs m H1 (Itl K a) (.fix l) := fun bs' m2 S2 H2 k cs i => by
  have r2 := r.lk k
  cases r2 with
  | lst na h rs =>
    refine ⟨fun t ht => ?_, fun hi => ?_⟩
    · obtain ⟨x, hx, rx⟩ := rs.get (Option.some.inj ht)
      refine ⟨⟨_, x, .inl (.inl h), hx⟩, fun y H3 ⟨e, k⟩ => ?_⟩
      subst e
      have := k _ (.inl (.inl h))
      rw [hx] at this
      cases this
      exact ⟨L2.Same.refl _, rx⟩
    · have hi := List.getElem?_eq_none_iff.mp (Option.some.inj hi)
      exact ⟨_, .inl (.inl h), by rw [rs.length]; exact hi⟩
theorem it_tup {a : Addr} {l : List T} (r : Rep K (mset bs m) H1 (.ref a) (.tup l) ∨ Rep K (mset bs m) H1 (.ref a) (.wt l)) : RpI K bs m H1 (Itt K a) (.fix l) := fun bs' m2 S2 H2 k cs i => by
  obtain ⟨xs, h, rs⟩ : ∃ xs, SqT K H2 a xs ∧ Reps K (mset bs' m2) H2 xs l := by
    rcases r with r | r
    · have r2 := r.lk k
      cases r2 with
      | tup h rs => exact ⟨_, .inl (.inl h), rs⟩
    · have r2 := r.lk k
      cases r2 with
      | wt h rs => exact ⟨_, h _, rs⟩
  · refine ⟨fun t ht => ?_, fun hi => ?_⟩
    · obtain ⟨x, hx, rx⟩ := rs.get (Option.some.inj ht)
      refine ⟨⟨_, x, h, hx⟩, fun y H3 ⟨e, k⟩ => ?_⟩
      subst e
      have := k _ h
      rw [hx] at this
      cases this
      exact ⟨L2.Same.refl _, rx⟩
    · have hi := List.getElem?_eq_none_iff.mp (Option.some.inj hi)
      exact ⟨_, h, by rw [rs.length]; exact hi⟩
theorem it_scr {a : Addr} {ns : List Int} (r : Rep K (mset bs m) H1 (.ref a) (.scr ns)) : RpI K bs m H1 (Itl K a) (.fix (ns.map T.int)) := fun bs' m2 S2 H2 k cs i => by
  have r2 := r.lk k
  cases r2 with
  | scr h =>
    have rs : Reps K (mset bs' m2) H2 (ns.map V.int) (ns.map T.int) := Reps.ints ns
    have hq := h.sq
    refine ⟨fun t ht => ?_, fun hi => ?_⟩
    · obtain ⟨x, hx, rx⟩ := rs.get (Option.some.inj ht)
      refine ⟨⟨_, x, hq, hx⟩, fun y H3 ⟨e, k⟩ => ?_⟩
      subst e
      have := k _ hq
      rw [hx] at this
      cases this
      exact ⟨L2.Same.refl _, rx⟩
    · have hi := List.getElem?_eq_none_iff.mp (Option.some.inj hi)
      exact ⟨_, hq, by rw [rs.length]; exact hi⟩
theorem it_cell {a : Addr} {n : Nat} (r : Rep K (mset bs m) H1 (.ref a) (.ref n)) : RpI K bs m H1 (Itl K a) (.cell n) := fun bs' m2 S2 H2 k cs i => by
  have r2 := r.lk k
  cases r2 with
  | ref h =>
    have h : m2[n]? = some a := h
    have key : ∀ o, srcAt (.cell n) S2 i = some o → ∃ xs l, H2 a = some (.lst xs) ∧ Reps K (mset bs' m2) H2 xs l ∧ o = l[i]? := fun o e => by
      have e : (match S2[n]? with | some (.lst l) => some l[i]? | _ => none) = some o := e
      cases es : S2[n]? with
      | none => rw [es] at e; cases e
      | some cc =>
        rw [es] at e
        have := cs.cell n cc a es h
        cases this with
        | lst hh rs => exact ⟨_, _, hh, rs, (Option.some.inj e).symm⟩
        | _ => cases e
    refine ⟨fun t ht => ?_, fun hi => ?_⟩
    · obtain ⟨xs, l, hh, rs, e⟩ := key _ ht
      obtain ⟨x, hx, rx⟩ := rs.get e.symm
      refine ⟨⟨_, x, .inl (.inl hh), hx⟩, fun y H3 ⟨e, k⟩ => ?_⟩
      subst e
      have := k _ (.inl (.inl hh))
      rw [hx] at this
      cases this
      exact ⟨L2.Same.refl _, rx⟩
    · obtain ⟨xs, l, hh, rs, e⟩ := key _ hi
      have hi := List.getElem?_eq_none_iff.mp e.symm
      exact ⟨_, .inl (.inl hh), by rw [rs.length]; exact hi⟩
def rgT (lo : Int) (n : Nat) : List T := (List.range n).map fun (i : Nat) => T.int (lo + (i : Int))
theorem rgT_get {lo : Int} {n i : Nat} {t : T} (h : (rgT lo n)[i]? = some t) : i < n ∧ t = .int (lo + (i : Int)) := by
  unfold rgT at h
  rw [List.getElem?_map] at h
  obtain ⟨j, hj, e⟩ := Option.map_eq_some_iff.mp h
  obtain ⟨h1, h2⟩ := List.getElem?_eq_some_iff.mp hj
  rw [List.getElem_range] at h2
  subst h2
  rw [List.length_range] at h1
  exact ⟨h1, e.symm⟩
theorem it_rng {lo : Int} {n : Nat} : RpI K bs m H1 (Itr lo n) (.fix (rgT lo n)) := fun bs' m2 S2 H2 k cs i => by
  refine ⟨fun t ht => ?_, fun hi => ?_⟩
  · obtain ⟨h1, rfl⟩ := rgT_get (Option.some.inj ht)
    refine ⟨h1, fun y H3 ⟨e, q⟩ => ?_⟩
    subst e q
    exact ⟨L2.Same.refl _, .int _⟩
  · have hi := List.getElem?_eq_none_iff.mp (Option.some.inj hi)
    exact show n ≤ i by simpa [rgT] using hi
end
section
variable {X : Cx} {K : PySem.W.Frag} {W : WX} {e tg : Expr} {fa : Ev T} {fr : Ev (List T)}
theorem PI.imp {t t' : TI} (h : PI X tg e t) (i : ∀ σ H R, t' σ H R → t σ H R) : PI X tg e t' := ⟨fun pins s σ H Q I hw => h.run pins s σ H Q I (i _ _ _ hw)⟩
def iSeq2 (K : PySem.W.Frag) (tl : TE) : TI := fun σ H R => tl σ H fun x H1 => ∃ (a : Addr) (xs : List V), x = .ref a ∧ ((SqL K H1 a xs ∧ R (Itl K a) H1) ∨ (SqT K H1 a xs ∧ R (Itt K a) H1))
theorem pi_seq2 {l : Expr} {tl : TE} (hl : PE X l tl) : PI X tg l (iSeq2 X.K tl) := by
  constructor
  intro pins s σ H R I h
  refine thn (hl.run pins s σ H _ I h) ?_
  rintro v s1 ⟨x, H1, I1, r1, a, xs, e, hq⟩
  subst e
  cases r1
  have fp : ∀ b ∈ [s1.heap.objs.size], FpOk X pins H1 b := fun b hb => by
    rw [List.mem_singleton] at hb
    rw [hb]
    exact I1.fpOk (Nat.le_refl _) (I1.hok.fresh (Nat.le_refl _))
  rcases hq with ⟨hq, qL⟩ | ⟨hq, qT⟩
  · obtain ⟨its, rv, p, hz⟩ := I1.list hq
    exact wpAny_pyIter_list p.isList ⟨_, [s1.heap.objs.size], _, _, H1, rfl, I1.kept (t' := s1.toks) fun b o z => Heap.get?_push_of_some _ z, turn_list a _, ⟨_, Heap.get?_push_size _ rfl, rfl, rfl⟩, fp, qL⟩
  · obtain ⟨its, rv, p, hz⟩ := I1.tuple hq
    exact wpAny_pyIter_tuple (show s1.heap.IsTuple a its.toArray from p) ⟨_, [s1.heap.objs.size], _, _, H1, rfl, I1.kept (t' := s1.toks) fun b o z => Heap.get?_push_of_some _ z, turn_tuple a _, ⟨_, Heap.get?_push_size _ rfl, rfl, rfl⟩, fp, qT⟩
theorem i_seq (he : PE X e (tX K W fa)) (hK : X.K = K := by rfl) : PI X tg e (tXI K W (mSeqOf fa)) := by
  subst hK
  refine PI.imp (pi_seq2 he) fun σ H R h => ?_
  obtain ⟨cf, bs, m, S, ρ, F, h⟩ := h
  refine ⟨cf, bs, m, S, ρ, F, RsOk.bind F h fun x vx m1 H1 S1 F1 k1 R1 h1 => ?_⟩
  unfold RpT at R1
  cases R1 with
  | lst na hh rs => exact ⟨_, _, rfl, .inl ⟨.inl (.inl hh), h1 _ m1 H1 F1.cs Kp.refl (it_list (.lst na hh rs))⟩⟩
  | tup hh rs => exact ⟨_, _, rfl, .inr ⟨.inl (.inl hh), h1 _ m1 H1 F1.cs Kp.refl (it_tup (.inl (.tup hh rs)))⟩⟩
  | wt hh rs => exact ⟨_, _, rfl, .inr ⟨hh _, h1 _ m1 H1 F1.cs Kp.refl (it_tup (.inr (.wt hh rs)))⟩⟩
  | scr hh => exact ⟨_, _, rfl, .inl ⟨hh.sq, h1 _ m1 H1 F1.cs Kp.refl (it_scr (.scr hh))⟩⟩
  | @ref a n hh =>
    have hm : m1[n]? = some a := hh
    dsimp only at h1
    cases es : S1[n]? with
    | none => rw [es] at h1; exact h1.elim
    | some cc =>
      rw [es] at h1
      have := F1.cs.cell n cc a es hm
      cases this with
      | lst h r => exact ⟨_, _, rfl, .inl ⟨.inl (.inl h), h1 _ m1 H1 F1.cs Kp.refl (it_cell (.ref hh))⟩⟩
      | _ => exact h1.elim
  | _ => exact h1.elim
def fRng1 : List T → Option (List T)
  | [.int j] => if -(2 ^ 62) ≤ j ∧ j < 2 ^ 62 then some (rgT 0 j.toNat) else none
  | _ => none
def fRng2 : List T → Option (List T)
  | [.int i, .int j] => if -(2 ^ 62) ≤ i ∧ i < 2 ^ 62 ∧ -(2 ^ 62) ≤ j ∧ j < 2 ^ 62 then some (rgT i (j - i).toNat) else none
  | _ => none
def mL (f : List T → Option (List T)) (a : Ev (List T)) : Ev Src := a.bind fun xs _ _ S => match f xs with
  | some l => .ok (.fix l) S
  | none => .st
theorem i_range1 {a : Expr} {p pos : Pos} (hm : X.mg "range" = none) (ha : PA X [a] (tXA K W fr)) (hg : Gl X "range" := by rfl) (hs : starEach [a] X.env = [(false, eval a X.env)] := by rfl) : PI X tg (.Call (.Name "range" p) [a] [] pos) (tXI K W (mL fRng1 fr)) := PI.imp (pi_range1 hg hm ha hs) fun σ H R h => by
  obtain ⟨cf, bs, m, S, ρ, F, h⟩ := h
  refine ⟨cf, bs, m, S, ρ, F, RsOk.bind F h fun x vx m1 H1 S1 F1 k1 R1 h1 => ?_⟩
  unfold RpA at R1
  cases e : fRng1 x with
  | none => rw [e] at h1; exact h1.elim
  | some l =>
    rw [e] at h1
    unfold fRng1 at e
    split at e
    · split at e
      · rename_i hj
        cases e
        cases R1 with
        | cons r rr =>
          cases rr
          cases r
          exact ⟨_, rfl, hj.1, hj.2, h1 _ m1 H1 F1.cs Kp.refl it_rng⟩
      · cases e
    · cases e
theorem i_range2 {a b : Expr} {p pos : Pos} (hm : X.mg "range" = none) (ha : PA X [a, b] (tXA K W fr)) (hg : Gl X "range" := by rfl) (hs : starEach [a, b] X.env = [(false, eval a X.env), (false, eval b X.env)] := by rfl) (hs2 : starEach [b] X.env = [(false, eval b X.env)] := by rfl) : PI X tg (.Call (.Name "range" p) [a, b] [] pos) (tXI K W (mL fRng2 fr)) := PI.imp (pi_range2 hg hm ha hs hs2) fun σ H R h => by
  obtain ⟨cf, bs, m, S, ρ, F, h⟩ := h
  refine ⟨cf, bs, m, S, ρ, F, RsOk.bind F h fun x vx m1 H1 S1 F1 k1 R1 h1 => ?_⟩
  unfold RpA at R1
  cases e : fRng2 x with
  | none => rw [e] at h1; exact h1.elim
  | some l =>
    rw [e] at h1
    unfold fRng2 at e
    split at e
    · split at e
      · rename_i hj
        cases e
        cases R1 with
        | cons r rr =>
          cases rr with
          | cons r2 rr =>
            cases rr
            cases r
            cases r2
            exact ⟨_, _, rfl, ⟨hj.1, hj.2.1, hj.2.2.1, hj.2.2.2⟩, h1 _ m1 H1 F1.cs Kp.refl it_rng⟩
      · cases e
    · cases e
/-! ### for, while -/
def forC (g : Tg) (b : Sv) (n : Nat) : Nat → Nat → Sv
  | 0, _, _, _, _ => .st
  | k + 1, i, c, ρ, S => match S[n]? with
    | some (.lst l) => match l[i]? with
      | none => .nx ρ S
      | some x => match g x c ρ S with
        | some (ρ1, S1) => match b c ρ1 S1 with
          | .nx ρ2 S2 => forC g b n k (i + 1) c ρ2 S2
          | .ct ρ2 S2 => forC g b n k (i + 1) c ρ2 S2
          | .br ρ2 S2 => .nx ρ2 S2
          | o => o
        | none => .st
    | _ => .st
def forE (g : Tg) (b : Sv) (n : Nat) : Nat → Nat → Sv
  | 0, _, _, _, _ => .st
  | k + 1, i, c, ρ, S => match S[n]? with
    | some (.lst l) => match l[i]? with
      | none => .nx ρ S
      | some x => match g (T.tup [.int (i : Nat), x]) c ρ S with
        | some (ρ1, S1) => match b c ρ1 S1 with
          | .nx ρ2 S2 => forE g b n k (i + 1) c ρ2 S2
          | .ct ρ2 S2 => forE g b n k (i + 1) c ρ2 S2
          | .br ρ2 S2 => .nx ρ2 S2
          | o => o
        | none => .st
    | _ => .st
def forS (g : Tg) (b : Sv) : Src → Sv
  | .fix l => forL g b l
  | .cell n => forC g b n whLine 0
  | .en n => forE g b n whLine 0
def sForI (fi : Ev Src) (g : Tg) (b : Sv) : Sv := fun c ρ S => ouE (fi c ρ S) ρ fun src S => forS g b src c ρ S
/-- one turn -/
theorem turn_ok {cf : Cf} {bs : Bx} {m m' : List Addr} {S' : St} {σ' : L2.St} {H1 H3 : Hp} {ρ' : Ro} {D : Ends} {g : Tg} {vs : List Nat} {b : Sv} {v : V} {t : T} {rest : Ro → St → Ou} {I : L2.St → Hp → Prop} (F3 : FAt K cf bs m' S' σ' H3 ρ') (k3 : Kp cf.fl m H1 m' H3) (r3 : Rep K (mset bs m') H3 v t)
    (o : OuOk K W cf bs m H1 D (match g t cf ρ' S' with | some (ρ1, S1) => (match b cf ρ1 S1 with | .nx ρ2 S2 => rest ρ2 S2 | .ct ρ2 S2 => rest ρ2 S2 | .br ρ2 S2 => .nx ρ2 S2 | o => o) | none => .st))
    (hI : ∀ σ5 m5 H5 ρ5 S5, FAt K cf bs m5 S5 σ5 H5 ρ5 → Kp cf.fl m H1 m5 H5 → OuOk K W cf bs m H1 D (rest ρ5 S5) → I σ5 H5) :
    tXG K vs g v σ' H3 fun σ4 H4 => tXS K W b { nx := I, rt := D.rt, bk := D.nx, ct := I } σ4 H4 := by
  cases e2 : g t cf ρ' S' with
  | none => rw [e2] at o; exact o.elim
  | some q =>
    obtain ⟨ρ2, S2⟩ := q
    rw [e2] at o
    dsimp only at o
    refine ⟨cf, bs, m', S', ρ', t, F3, r3, ρ2, S2, e2, fun σ4 H4 F4 k4 _ => ⟨cf, bs, m', S2, ρ2, F4, ?_⟩⟩
    have k34 := k3.trans k4
    cases e5 : b cf ρ2 S2 with
    | nx ρ5 S5 =>
      rw [e5] at o
      exact fun σ5 m5 H5 F5 k5 => hI σ5 m5 H5 ρ5 S5 F5 (k34.trans k5) o
    | ct ρ5 S5 =>
      rw [e5] at o
      exact fun σ5 m5 H5 F5 k5 => hI σ5 m5 H5 ρ5 S5 F5 (k34.trans k5) o
    | br ρ5 S5 =>
      rw [e5] at o
      exact fun σ5 m5 H5 F5 k5 => o σ5 m5 H5 F5 (k34.trans k5)
    | rt t5 S5 =>
      rw [e5] at o
      exact fun v m5 H5 cs k5 r => o v m5 H5 cs (k34.trans k5) r
    | ex x5 ρ5 S5 =>
      rw [e5] at o
      exact fun cls d σ5 m5 H5 F5 k5 r => o cls d σ5 m5 H5 F5 (k34.trans k5) r
    | st =>
      rw [e5] at o
      exact o.elim
theorem s_for {iter : Expr} {body : List Stmt} {fi : Ev Src} {g : Tg} {b : Sv} {vs : List Nat} {pos : Pos} (hp : PassesOwn (model X.prog X.w) X.A X.env X.xe) (hc : X.calm = true) (hi : PI X tg iter (tXI K W fi)) (hg : PG X tg (tXG K vs g)) (hb : PSs X body (tXS K W b))
    (hs : ∀ x, foldedSetIterable iter X.env x = pure x := by intro _; rfl) : PS X (.For tg iter body [] pos) (tXS K W (sForI fi g b)) := PS.imp (ps_for hp hc hi hg hb hs) fun D σ H h => by
  obtain ⟨cf, bs, m, S, ρ, F, h⟩ := h
  refine ⟨cf, bs, m, S, ρ, F, OuOk.ofE F h fun src J m1 H1 S1 _ F1 k1 R1 h1 => ?_⟩
  cases src with
  | fix l =>
    refine ⟨fun i k σ' H' => k = l.length - i ∧ i ≤ l.length ∧ ∃ m' S' ρ', FAt K cf bs m' S' σ' H' ρ' ∧ Kp cf.fl m1 H1 m' H' ∧ OuOk K W cf bs m1 H1 D (forL g b (l.drop i) cf ρ' S'), ⟨_, rfl, Nat.zero_le _, m1, S1, ρ, F1, Kp.refl, h1⟩, ?_⟩
    rintro i k σ' H' ⟨rfl, hi, m', S', ρ', F', k', o⟩
    obtain ⟨w1, w2⟩ := R1 bs m' S' H' k'.lk F'.cs i
    by_cases hlt : i < l.length
    · have ei : l[i]? = some l[i] := List.getElem?_eq_getElem hlt
      obtain ⟨hgo, hy⟩ := w1 _ (congrArg some ei)
      rw [List.drop_eq_getElem_cons hlt] at o
      refine .inr ⟨hgo, fun σ2 H2 => ∃ m2 S2 ρ2, FAt K cf bs m2 S2 σ2 H2 ρ2 ∧ Kp cf.fl m1 H1 m2 H2 ∧ OuOk K W cf bs m1 H1 D (forL g b (l.drop (i + 1)) cf ρ2 S2), fun σ2 H2 ⟨m2, S2, ρ2, q⟩ => ⟨_, by omega, rfl, hlt, m2, S2, ρ2, q⟩, fun x H3 yl => ?_⟩
      obtain ⟨s3, r3⟩ := hy x H3 yl
      unfold forL at o
      exact turn_ok (rest := fun ρ2 S2 => forL g b (l.drop (i + 1)) cf ρ2 S2) (F'.same s3) (k'.trans (Kp.of_same s3)) r3 o fun σ5 m5 H5 ρ5 S5 F5 k5 o5 => ⟨m5, S5, ρ5, F5, k5, o5⟩
    · have e : i = l.length := by omega
      subst e
      rw [List.drop_length] at o
      exact .inl ⟨w2 (congrArg some (List.getElem?_eq_none (Nat.le_refl _))), o σ' m' H' F' k'⟩
  | cell n =>
    refine ⟨fun i k σ' H' => ∃ m' S' ρ', FAt K cf bs m' S' σ' H' ρ' ∧ Kp cf.fl m1 H1 m' H' ∧ OuOk K W cf bs m1 H1 D (forC g b n k i cf ρ' S'), ⟨_, m1, S1, ρ, F1, Kp.refl, h1⟩, ?_⟩
    rintro i k σ' H' ⟨m', S', ρ', F', k', o⟩
    obtain ⟨w1, w2⟩ := R1 bs m' S' H' k'.lk F'.cs i
    cases k with
    | zero => exact o.elim
    | succ k =>
      unfold forC at o
      have w1 : ∀ t, (match S'[n]? with | some (.lst l) => some l[i]? | _ => none) = some (some t) → _ := w1
      have w2 : (match S'[n]? with | some (.lst l) => some l[i]? | _ => none) = some none → _ := w2
      cases es : S'[n]? with
      | none => rw [es] at o; exact o.elim
      | some cc =>
        rw [es] at o w1 w2
        cases cc with
        | lst l =>
          dsimp only at o w1 w2
          cases el : l[i]? with
          | none =>
            rw [el] at o
            exact .inl ⟨w2 (congrArg some el), o σ' m' H' F' k'⟩
          | some t =>
            rw [el] at o
            dsimp only at o
            obtain ⟨hgo, hy⟩ := w1 _ (congrArg some el)
            refine .inr ⟨hgo, fun σ2 H2 => ∃ m2 S2 ρ2, FAt K cf bs m2 S2 σ2 H2 ρ2 ∧ Kp cf.fl m1 H1 m2 H2 ∧ OuOk K W cf bs m1 H1 D (forC g b n k (i + 1) cf ρ2 S2), fun σ2 H2 ⟨m2, S2, ρ2, q⟩ => ⟨k, by omega, m2, S2, ρ2, q⟩, fun x H3 yl => ?_⟩
            obtain ⟨s3, r3⟩ := hy x H3 yl
            exact turn_ok (rest := fun ρ2 S2 => forC g b n k (i + 1) cf ρ2 S2) (F'.same s3) (k'.trans (Kp.of_same s3)) r3 o fun σ5 m5 H5 ρ5 S5 F5 k5 o5 => ⟨m5, S5, ρ5, F5, k5, o5⟩
        | _ => exact o.elim
  | en n =>
    refine ⟨fun i k σ' H' => ∃ m' S' ρ', FAt K cf bs m' S' σ' H' ρ' ∧ Kp cf.fl m1 H1 m' H' ∧ OuOk K W cf bs m1 H1 D (forE g b n k i cf ρ' S'), ⟨_, m1, S1, ρ, F1, Kp.refl, h1⟩, ?_⟩
    rintro i k σ' H' ⟨m', S', ρ', F', k', o⟩
    obtain ⟨w1, w2⟩ := R1 bs m' S' H' k'.lk F'.cs i
    cases k with
    | zero => exact o.elim
    | succ k =>
      unfold forE at o
      have w1 : ∀ t, (match S'[n]? with | some (.lst l) => some (l[i]?.map fun x => T.tup [.int (i : Nat), x]) | _ => none) = some (some t) → _ := w1
      have w2 : (match S'[n]? with | some (.lst l) => some (l[i]?.map fun x => T.tup [.int (i : Nat), x]) | _ => none) = some none → _ := w2
      cases es : S'[n]? with
      | none => rw [es] at o; exact o.elim
      | some cc =>
        rw [es] at o w1 w2
        cases cc with
        | lst l =>
          dsimp only at o w1 w2
          cases el : l[i]? with
          | none =>
            rw [el] at o
            exact .inl ⟨w2 (by rw [el]; rfl), o σ' m' H' F' k'⟩
          | some t =>
            rw [el] at o
            dsimp only at o
            obtain ⟨hgo, hy⟩ := w1 _ (by rw [el]; rfl)
            refine .inr ⟨hgo, fun σ2 H2 => ∃ m2 S2 ρ2, FAt K cf bs m2 S2 σ2 H2 ρ2 ∧ Kp cf.fl m1 H1 m2 H2 ∧ OuOk K W cf bs m1 H1 D (forE g b n k (i + 1) cf ρ2 S2), fun σ2 H2 ⟨m2, S2, ρ2, q⟩ => ⟨k, by omega, m2, S2, ρ2, q⟩, fun x H3 yl => ?_⟩
            obtain ⟨s3, r3⟩ := hy x H3 yl
            exact turn_ok (rest := fun ρ2 S2 => forE g b n k (i + 1) cf ρ2 S2) (F'.same s3) (k'.trans (Kp.of_same s3)) r3 o fun σ5 m5 H5 ρ5 S5 F5 k5 o5 => ⟨m5, S5, ρ5, F5, k5, o5⟩
        | _ => exact o.elim
theorem s_while {c : Expr} {body : List Stmt} {tc : Ev Bool} {b : Sv} {pos : Pos} (hp : PassesOwn (model X.prog X.w) X.A X.env X.xe) (hc : PT X c (tXT K W tc)) (hb : PSs X body (tXS K W b)) : PS X (.While c body [] pos) (tXS K W (sWhile tc b)) := PS.imp (ps_while hp hc hb) fun D σ H h => by
  obtain ⟨cf, bs, m, S, ρ, F, h⟩ := h
  unfold sWhile at h
  refine ⟨fun k σ' H' => ∃ m' S' ρ', FAt K cf bs m' S' σ' H' ρ' ∧ Kp cf.fl m H m' H' ∧ OuOk K W cf bs m H D (whL tc b k cf ρ' S'), ⟨_, m, S, ρ, F, Kp.refl, h⟩, ?_⟩
  rintro k σ' H' ⟨m', S', ρ', F', k', o⟩
  cases k with
  | zero => exact o.elim
  | succ k =>
    unfold whL at o
    refine ⟨cf, bs, m', S', ρ', F', ?_⟩
    cases e : tc cf ρ' S' with
    | ok x S1 =>
      rw [e] at o
      intro v m1 H1 cs1 k1 R1
      cases R1
      have F1 := F'.kp cs1 k1
      have k2 := k'.trans k1
      cases x with
      | true =>
        refine iteT ⟨fun σ2 H2 => ∃ m2 S2 ρ2, FAt K cf bs m2 S2 σ2 H2 ρ2 ∧ Kp cf.fl m H m2 H2 ∧ OuOk K W cf bs m H D (whL tc b k cf ρ2 S2), fun σ2 H2 q => ⟨k, Nat.lt_succ_self _, q⟩, cf, bs, m1, S1, ρ', F1, ?_⟩
        dsimp only at o
        cases e5 : b cf ρ' S1 with
        | nx ρ5 S5 =>
          rw [e5] at o
          exact fun σ5 m5 H5 F5 k5 => ⟨m5, S5, ρ5, F5, k2.trans k5, o⟩
        | ct ρ5 S5 =>
          rw [e5] at o
          exact fun σ5 m5 H5 F5 k5 => ⟨m5, S5, ρ5, F5, k2.trans k5, o⟩
        | br ρ5 S5 =>
          rw [e5] at o
          exact fun σ5 m5 H5 F5 k5 => o σ5 m5 H5 F5 (k2.trans k5)
        | rt t S5 =>
          rw [e5] at o
          exact fun v m5 H5 cs k5 r => o v m5 H5 cs (k2.trans k5) r
        | ex x5 ρ5 S5 =>
          rw [e5] at o
          exact fun cls d σ5 m5 H5 F5 k5 r => o cls d σ5 m5 H5 F5 (k2.trans k5) r
        | st =>
          rw [e5] at o
          exact o.elim
      | false => exact iteF (o σ' m1 H1 F1 k2)
    | ex x S1 =>
      rw [e] at o
      exact fun cls d m1 H1 cs k1 R => o cls d σ' m1 H1 (F'.kp cs k1) (k'.trans k1) R
    | st =>
      rw [e] at o
      exact o.elim
end
end Tm

/-! N4: defs, calls, makers, methods, fields stored. -/
namespace Tm
open PySem PySem.Spec PyProof.Rows L2
abbrev Fn := Cf → List T → St → Rs T
/-- the promise of a def by its mirror -/
def spF (K : PySem.W.Frag) (Fm : Fn) : Sp := fun vs H Q E => ∃ c bs m S as, Cs K bs m S H ∧ (∀ b ∈ bs.b, b ≤ c.n0) ∧ Reps K (mset bs m) H vs as ∧ RsOk K (fun cls d _ H' => E cls d H') bs c.fl m [] H (RpT K bs) Q (Fm c as S)
/-! local cells' contents as values -/
mutual
def fzT (fs : List T → Option (List T)) (n : Nat) (S : St) : T → Option T
  | .ref k => if k < n then some (.ref k) else match S[k]? with
    | some (.lst l) => (fs l).map T.lst
    | some (.dK ks l) => (fs l).map (T.dK ks)
    | some (.dT ks l) => (fs l).map (T.dT ks)
    | some (.obj C ns l) => (fs l).map (T.obj C ns)
    | _ => none
  | .tup l => (fzTs fs n S l).map T.tup
  | .wt l => (fzTs fs n S l).map T.wt
  | .lst l => (fzTs fs n S l).map T.lst
  | .dK ks l => (fzTs fs n S l).map (T.dK ks)
  | .dT ks l => (fzTs fs n S l).map (T.dT ks)
  | .obj C ns l => (fzTs fs n S l).map (T.obj C ns)
  | .lam _ => none
  | .lk _ => none
  | .exc .. => none
  | t => some t
def fzTs (fs : List T → Option (List T)) (n : Nat) (S : St) : List T → Option (List T)
  | [] => some []
  | t :: l => match fzT fs n S t, fzTs fs n S l with
    | some t', some l' => some (t' :: l')
    | _, _ => none
end
def fzL : Nat → Nat → St → List T → Option (List T)
  | 0, n, _, l => if okRs n l = true then some l else none
  | d + 1, n, S, l => fzTs (fzL d n S) n S l
def fzs (n : Nat) (S : St) (l : List T) : Option (List T) := fzL 3 n S l
def fz (n : Nat) (S : St) (t : T) : Option T := if okR n t = true then some t else fzT (fzL 2 n S) n S t
def start0 (n : Nat) (as : List T) : Ro := as.map some ++ List.replicate (n - as.length) none
/-- a def that may write to older cells -/
def runS (k n : Nat) (g : Sv) : Fn := fun c as S => if as.length = k then
    match g ⟨c.fl, S.length⟩ (start0 n as) S with
    | .nx _ S' => .ok .non (S'.take S.length)
    | .rt t S' => match fz S.length S' t with
      | some r => .ok r (S'.take S.length)
      | none => .st
    | .ex x _ S' => if okR S.length x = true then .ex x (S'.take S.length) else .st
    | _ => .st
  else .st
/-- what a def leaves that ran with no cells -/
def finP (o : Ou) (S : St) : Rs T := match o with
  | .nx _ _ => .ok .non S
  | .rt t S' => match fz 0 S' t with
    | some r => .ok r S
    | none => .st
  | .ex x _ _ => if okR 0 x = true then .ex x S else .st
  | _ => .st
mutual
/-- nothing in it can change -/
def purT : T → Bool
  | .non => true
  | .bl _ => true
  | .int _ => true
  | .str _ => true
  | .cls _ => true
  | .fn _ => true
  | .tup l => purTs l
  | .wt l => purTs l
  | _ => false
def purTs : List T → Bool
  | [] => true
  | t :: l => purT t && purTs l
end
def finQ (o : Ou) : Option T := match o with
  | .nx _ _ => some .non
  | .rt t S' => match fz 0 S' t with
    | some r => if purT r = true then some r else none
    | none => none
  | _ => none
/-- a def that writes to cells of its own alone; with no cells in its arguments, or a plain answer, it runs with no cells -/
def runP (k n : Nat) (g : Sv) : Fn := fun c as S => if as.length = k then
    if okRs 0 as = true then finP (g ⟨0, 0⟩ (start0 n as) []) S else
    match (fzs 0 S as).bind fun as' => finQ (g ⟨0, 0⟩ (start0 n as') []) with
    | some r => .ok r S
    | none => match g ⟨S.length, S.length⟩ (start0 n as) S with
    | .nx _ _ => .ok .non S
    | .rt t S' => match fz S.length S' t with
      | some r => .ok r S
      | none => .st
    | .ex x _ _ => if okR S.length x = true then .ex x S else .st
    | _ => .st
  else .st
/-- a def whose new cells are the caller's -/
def runO (k n : Nat) (g : Sv) : Fn := fun c as S => if as.length = k then
    match g c (start0 n as) S with
    | .nx _ S' => .ok .non S'
    | .rt t S' => .ok t S'
    | .ex x _ S' => .ex x S'
    | _ => .st
  else .st
section
variable {K : PySem.W.Frag} {bs : Bx} {m m' : List Addr} {S S' : St} {H H' : Hp}
theorem CellAt.cut {n : Nat} {a : Addr} {c : T} (h : CellAt K (mset bs m) H a c) (e : okR n c = true) : CellAt K (mset bs (m.take n)) H a c := by
  cases h with
  | lst h r => exact .lst h (r.cut (by unfold okR at e; exact e))
  | dK h r => exact .dK h (r.cut (by unfold okR at e; exact e))
  | dT h r => exact .dT h (r.cut (by unfold okR at e; exact e))
  | obj h r => exact .obj h (r.cut (by unfold okR at e; exact e))
  | lkK h r => exact .lkK h (r.cut (by unfold okR okR at e; exact e))
  | lkT h r => exact .lkT h (r.cut (by unfold okR okR at e; exact e))
theorem new_na {n k : Nat} {a : Addr} (cs : Cs K bs m S H) (hm : m[k]? = some a) (q : ¬ k < n) : ¬ (a ∈ m.take n ∨ a ∈ bs.h) := fun z => z.elim (fun z => by
    obtain ⟨j, hj, ej⟩ := List.mem_iff_getElem.mp z
    rw [List.length_take] at hj
    rw [List.getElem_take] at ej
    have e1 : m[j]? = some a := by rw [List.getElem?_eq_getElem (by omega), ej]
    have : j = k := (List.getElem?_inj (List.getElem?_eq_some_iff.mp e1).1 cs.nd).mp (e1.trans hm.symm)
    omega) fun z => (cs.hid a z).1 (List.mem_of_getElem? hm)
def FsOk (K : PySem.W.Frag) (bs : Bx) (m : List Addr) (H : Hp) (n : Nat) (fs : List T → Option (List T)) : Prop := ∀ vs l l', Reps K (mset bs m) H vs l → fs l = some l' → Reps K (mset bs (m.take n)) H vs l'
mutual
theorem fzT_ok {n : Nat} {fs : List T → Option (List T)} (hf : FsOk K bs m H n fs) (cs : Cs K bs m S H) : ∀ {v : V} {t r : T}, Rep K (mset bs m) H v t → fzT fs n S t = some r → Rep K (mset bs (m.take n)) H v r
  | _, _, _, .non, e => by unfold fzT at e; cases e; exact .non
  | _, _, _, .bl b, e => by unfold fzT at e; cases e; exact .bl b
  | _, _, _, .int i, e => by unfold fzT at e; cases e; exact .int i
  | _, _, _, .str x, e => by unfold fzT at e; cases e; exact .str x
  | _, _, _, .cls C, e => by unfold fzT at e; cases e; exact .cls C
  | _, _, _, .fn x, e => by unfold fzT at e; cases e; exact .fn x
  | _, _, _, .exc .., e => by unfold fzT at e; cases e
  | _, _, _, .scr h, e => by
    unfold fzT at e
    cases e
    exact Rep.cut (.scr h) (by unfold okR; rfl)
  | _, _, _, .tup h rs, e => by
    unfold fzT at e
    obtain ⟨l', e1, rfl⟩ := Option.map_eq_some_iff.mp e
    exact .tup h (fzTs_ok hf cs rs e1)
  | _, _, _, .wt h rs, e => by
    unfold fzT at e
    obtain ⟨l', e1, rfl⟩ := Option.map_eq_some_iff.mp e
    exact .wt h (fzTs_ok hf cs rs e1)
  | _, _, _, .lst na h rs, e => by
    unfold fzT at e
    obtain ⟨l', e1, rfl⟩ := Option.map_eq_some_iff.mp e
    exact .lst (fun z => na (z.imp List.mem_of_mem_take id)) h (fzTs_ok hf cs rs e1)
  | _, _, _, .dK na h rs, e => by
    unfold fzT at e
    obtain ⟨l', e1, rfl⟩ := Option.map_eq_some_iff.mp e
    exact .dK (fun z => na (z.imp List.mem_of_mem_take id)) h (fzTs_ok hf cs rs e1)
  | _, _, _, .dT na h rs, e => by
    unfold fzT at e
    obtain ⟨l', e1, rfl⟩ := Option.map_eq_some_iff.mp e
    exact .dT (fun z => na (z.imp List.mem_of_mem_take id)) h (fzTs_ok hf cs rs e1)
  | _, _, _, .obj na h rs, e => by
    unfold fzT at e
    obtain ⟨l', e1, rfl⟩ := Option.map_eq_some_iff.mp e
    exact .obj (fun z => na (z.imp List.mem_of_mem_take id)) h (fzTs_ok hf cs rs e1)
  | _, _, r, .ref (a := a) (n := k) h, e => by
    unfold fzT at e
    by_cases q : k < n
    · rw [if_pos q] at e
      cases e
      exact Rep.cut (.ref h) (by unfold okR; simpa using q)
    · rw [if_neg q] at e
      have hm : m[k]? = some a := h
      have nh := new_na cs hm q
      cases es : S[k]? with
      | none => rw [es] at e; cases e
      | some cc =>
        rw [es] at e
        have cl := cs.cell k cc a es hm
        cases cl with
        | lst h r =>
          obtain ⟨l', e1, rfl⟩ := Option.map_eq_some_iff.mp e
          exact .lst nh h (hf _ _ _ r e1)
        | dK h r =>
          obtain ⟨l', e1, rfl⟩ := Option.map_eq_some_iff.mp e
          exact .dK nh (.inl h) (hf _ _ _ r e1)
        | dT h r =>
          obtain ⟨l', e1, rfl⟩ := Option.map_eq_some_iff.mp e
          exact .dT nh (.inl h) (hf _ _ _ r e1)
        | obj h r =>
          obtain ⟨l', e1, rfl⟩ := Option.map_eq_some_iff.mp e
          exact .obj nh h (hf _ _ _ r e1)
        | lkK h r => cases e
        | lkT h r => cases e
theorem fzTs_ok {n : Nat} {fs : List T → Option (List T)} (hf : FsOk K bs m H n fs) (cs : Cs K bs m S H) : ∀ {vs : List V} {l l' : List T}, Reps K (mset bs m) H vs l → fzTs fs n S l = some l' → Reps K (mset bs (m.take n)) H vs l'
  | _, _, _, .nil, e => by unfold fzTs at e; cases e; exact .nil
  | _, _, _, .cons (t := t) (l := l) h r, e => by
    unfold fzTs at e
    cases e1 : fzT fs n S t with
    | none => rw [e1] at e; cases e
    | some t' =>
      cases e2 : fzTs fs n S l with
      | none => rw [e1, e2] at e; cases e
      | some l' =>
        rw [e1, e2] at e
        cases e
        exact .cons (fzT_ok hf cs h e1) (fzTs_ok hf cs r e2)
end
theorem fzL_ok {n : Nat} (cs : Cs K bs m S H) : ∀ d : Nat, FsOk K bs m H n (fzL d n S)
  | 0 => fun vs l l' r e => by
    unfold fzL at e
    split at e
    · rename_i q
      cases e
      exact r.cut q
    · cases e
  | d + 1 => fun vs l l' r e => by
    unfold fzL at e
    exact fzTs_ok (fzL_ok cs d) cs r e
theorem fzs_ok {n : Nat} (cs : Cs K bs m S H) {vs : List V} {l l' : List T} (r : Reps K (mset bs m) H vs l) (e : fzs n S l = some l') : Reps K (mset bs (m.take n)) H vs l' := fzL_ok cs 3 vs l l' r e
theorem fz_ok {n : Nat} (cs : Cs K bs m S H) {v : V} {t r : T} (h : Rep K (mset bs m) H v t) (e : fz n S t = some r) : Rep K (mset bs (m.take n)) H v r := by
  unfold fz at e
  split at e
  · rename_i q
    cases e
    exact h.cut q
  · exact fzT_ok (fzL_ok cs 2) cs h e
theorem fz_id {n : Nat} {t : T} (h : okR n t = true) : fz n S t = some t := if_pos h
theorem XAt.cut {n : Nat} {x : T} {cls : Value} {d : Option Addr} (h : XAt K (mset bs m) H x cls d) (e : okR n x = true) : XAt K (mset bs (m.take n)) H x cls d := by
  obtain ⟨c, ns, l, rfl, h1, h2⟩ := h
  refine ⟨c, ns, l, rfl, h1, h2.imp id ?_⟩
  rintro ⟨dd, fs, e1, e2, e3, e4, r⟩
  exact ⟨dd, fs, e1, e2, fun z => e3 (z.imp List.mem_of_mem_take id), e4, r.cut (by unfold okR at e; exact e)⟩
mutual
theorem Rep.to {A B : ASet} (hb : ∀ a, B.p a → A.p a) : ∀ {v : V} {t : T}, Rep K A H v t → okR 0 t = true → Rep K B H v t
  | _, _, .non, _ => .non
  | _, _, .bl b, _ => .bl b
  | _, _, .int i, _ => .int i
  | _, _, .str x, _ => .str x
  | _, _, .tup h r, e => .tup h (Reps.to hb r (by unfold okR at e; exact e))
  | _, _, .wt h r, e => .wt h (Reps.to hb r (by unfold okR at e; exact e))
  | _, _, .lst na h r, e => .lst (fun z => na (hb _ z)) h (Reps.to hb r (by unfold okR at e; exact e))
  | _, _, .dK na h r, e => .dK (fun z => na (hb _ z)) h (Reps.to hb r (by unfold okR at e; exact e))
  | _, _, .dT na h r, e => .dT (fun z => na (hb _ z)) h (Reps.to hb r (by unfold okR at e; exact e))
  | _, _, .obj na h r, e => .obj (fun z => na (hb _ z)) h (Reps.to hb r (by unfold okR at e; exact e))
  | _, _, .cls C, _ => .cls C
  | _, _, .scr h, _ => .scr (h.imp (fun z => ⟨fun q => z.1 (hb _ q), z.2⟩) id)
  | _, _, .ref (n := k) h, e => by
    unfold okR at e
    simp at e
  | _, _, .fn x, _ => .fn x
  | _, _, .exc na h r, e => .exc (fun z => na (hb _ z)) h (Reps.to hb r (by unfold okR at e; exact e))
theorem Reps.to {A B : ASet} (hb : ∀ a, B.p a → A.p a) : ∀ {xs : List V} {l : List T}, Reps K A H xs l → okRs 0 l = true → Reps K B H xs l
  | _, _, .nil, _ => .nil
  | _, _, .cons h r, e => by
    unfold okRs at e
    rw [Bool.and_eq_true] at e
    exact .cons (Rep.to hb h e.1) (Reps.to hb r e.2)
end
mutual
theorem Rep.pur {A B : ASet} : ∀ {v : V} {t : T}, Rep K A H v t → purT t = true → Rep K B H v t
  | _, _, .non, _ => .non
  | _, _, .bl b, _ => .bl b
  | _, _, .int i, _ => .int i
  | _, _, .str x, _ => .str x
  | _, _, .tup h r, e => .tup h (Reps.pur r (by unfold purT at e; exact e))
  | _, _, .wt h r, e => .wt h (Reps.pur r (by unfold purT at e; exact e))
  | _, _, .lst _ _ _, e => by unfold purT at e; cases e
  | _, _, .dK _ _ _, e => by unfold purT at e; cases e
  | _, _, .dT _ _ _, e => by unfold purT at e; cases e
  | _, _, .obj _ _ _, e => by unfold purT at e; cases e
  | _, _, .cls C, _ => .cls C
  | _, _, .scr _, e => by unfold purT at e; cases e
  | _, _, .ref _, e => by unfold purT at e; cases e
  | _, _, .fn x, _ => .fn x
  | _, _, .exc .., e => by unfold purT at e; cases e
theorem Reps.pur {A B : ASet} : ∀ {xs : List V} {l : List T}, Reps K A H xs l → purTs l = true → Reps K B H xs l
  | _, _, .nil, _ => .nil
  | _, _, .cons h r, e => by
    unfold purTs at e
    rw [Bool.and_eq_true] at e
    exact .cons (Rep.pur h e.1) (Reps.pur r e.2)
end
theorem XAt.to {A B : ASet} (hb : ∀ a, B.p a → A.p a) {x : T} {cls : Value} {d : Option Addr} (h : XAt K A H x cls d) (e : okR 0 x = true) : XAt K B H x cls d := by
  obtain ⟨c, ns, l, rfl, h1, h2⟩ := h
  refine ⟨c, ns, l, rfl, h1, h2.imp id ?_⟩
  rintro ⟨dd, fs, e1, e2, e3, e4, r⟩
  exact ⟨dd, fs, e1, e2, fun z => e3 (hb _ z), e4, r.to hb (by unfold okR at e; exact e)⟩
/-- the older cells behind a call -/
theorem Cs.back {fl : Nat} (cs : Cs K bs m S H) (cs' : Cs K (⟨S.length :: bs.b, bs.h⟩ : Bx) m' S' H') (k : Kp fl m H m' H') : m'.take S.length = m ∧ Cs K bs m (S'.take S.length) H' ∧ Kp fl m H m H' := by
  obtain ⟨⟨e, rfl, ne⟩, h2, h3, h4, h5⟩ := k
  have em : (m ++ e).take S.length = m := by rw [← cs.len, List.take_left]
  have hl : m.length + e.length = S'.length := by rw [← cs'.len, List.length_append]
  refine ⟨em, ⟨?_, cs.nd, cs.bl, fun a ha => ⟨(cs.hid a ha).1, (cs'.hid a ha).2⟩, fun n c a hc ha => ?_, fun b hb k c hk hc => ?_⟩, ⟨⟨[], by simp, by simp⟩, h2, h3, h4, h5⟩⟩
  · rw [List.length_take, ← cs.len]
    omega
  · have hn : n < S.length := by
      have := (List.getElem?_eq_some_iff.mp ha).1
      rw [cs.len] at this
      exact this
    rw [List.getElem?_take_of_lt hn] at hc
    have := cs'.cell n c a hc (by rw [List.getElem?_append_left (List.getElem?_eq_some_iff.mp ha).1]; exact ha)
    have := this.cut (n := S.length) (cs'.old S.length (List.mem_cons_self ..) n c hn hc)
    rwa [em] at this
  · have hk' : k < S.length := by
      have := cs.bl b hb
      rw [cs.len] at this
      omega
    rw [List.getElem?_take_of_lt hk'] at hc
    exact cs'.old b (List.mem_cons_of_mem _ hb) k c hk hc
theorem kp_same (k : Kp m.length m H m' H') : Same H H' := fun b o e => k.all b o (by rw [List.drop_length]; simp) e
theorem start_at {N : List Str} {vs : List V} {as : List T} {cf : Cf} (cs : Cs K bs m S H) (bn : ∀ b ∈ bs.b, b ≤ cf.n0) (r : Reps K (mset bs m) H vs as) (hk : vs.length ≤ N.length) : FAt K cf bs m S (L2.start N vs) H (start0 N.length as) := by
  refine ⟨cs, bn, by unfold L2.start start0; simp [r.length], fun i t h => ?_⟩
  unfold start0 at h
  by_cases hi : i < as.length
  · rw [List.getElem?_append_left (by simpa using hi), List.getElem?_map] at h
    obtain ⟨u, hu, e⟩ := Option.map_eq_some_iff.mp h
    cases e
    obtain ⟨v, hv, rv⟩ := r.get hu
    refine ⟨v, ?_, rv⟩
    unfold L2.start
    rw [List.getElem?_append_left (by rw [List.length_map]; exact (List.getElem?_eq_some_iff.mp hv).1), List.getElem?_map, hv]
    rfl
  · rw [List.getElem?_append_right (by simp; omega)] at h
    obtain ⟨_, e⟩ := List.getElem?_eq_some_iff.mp h
    rw [List.getElem_replicate] at e
    cases e
end
section
variable {X : Cx} {K : PySem.W.Frag} {W : WX} {N : List Str} {k : Nat} {body : List Stmt} {g : Sv} {vs : List V} {H : Hp} {Q : VK} {E : XK}
theorem body_okS (hp : PSs X body (tXS K W g)) (hN : k ≤ N.length) (hW : ∀ cls d σ H', E cls d H' → W cls d σ H') (h : spF K (runS k N.length g) vs H Q E) :
    ∃ t, PSs X body t ∧ t { nx := fun _ H' => Q .non H', rt := Q } (L2.start N vs) H := by
  refine ⟨_, hp, ?_⟩
  obtain ⟨c, bs, m, S, as, cs, bn, r, h⟩ := h
  unfold runS at h
  by_cases hk : as.length = k
  · rw [if_pos hk] at h
    have cs0 : Cs K (⟨S.length :: bs.b, bs.h⟩ : Bx) m S H := ⟨cs.len, cs.nd, fun b hb => (List.mem_cons.mp hb).elim (fun z => by rw [z, cs.len]; exact Nat.le_refl _) (cs.bl b), cs.hid, cs.cell, fun b hb j t hj ht => by
      rcases List.mem_cons.mp hb with rfl | hb
      · have ha : m[j]? = some (m[j]'(by rw [cs.len]; exact hj)) := List.getElem?_eq_getElem (by rw [cs.len]; exact hj)
        have := cs.cell j t _ ht ha
        rw [← cs.len]
        cases this with
        | lst h r => unfold okR; exact r.okr
        | dK h r => unfold okR; exact r.okr
        | dT h r => unfold okR; exact r.okr
        | obj h r => unfold okR; exact r.okr
        | lkK h r => unfold okR okR; exact r.okr
        | lkT h r => unfold okR okR; exact r.okr
      · exact cs.old b hb j t hj ht⟩
    have F0 : FAt K ⟨c.fl, S.length⟩ (⟨S.length :: bs.b, bs.h⟩ : Bx) m S (L2.start N vs) H (start0 N.length as) := start_at cs0 (fun b hb => (List.mem_cons.mp hb).elim (fun z => by rw [z]; exact Nat.le_refl _) (fun z => by rw [← cs.len]; exact cs.bl b z)) r (by rw [r.length]; omega)
    refine ⟨_, _, m, S, _, F0, ?_⟩
    cases e : g ⟨c.fl, S.length⟩ (start0 N.length as) S with
    | nx ρ' S' =>
      rw [e] at h
      intro σ' m' H' F' k'
      obtain ⟨e1, cs1, k1⟩ := Cs.back cs F'.cs k'
      exact h .non m H' cs1 k1 .non
    | rt t S' =>
      rw [e] at h
      intro v m' H' cs' k' r'
      obtain ⟨e1, cs1, k1⟩ := Cs.back cs cs' k'
      dsimp only at h
      cases ef : fz S.length S' t with
      | none => rw [ef] at h; exact h.elim
      | some t' =>
        rw [ef] at h
        have := fz_ok cs' r' ef
        rw [e1] at this
        exact h v m H' cs1 k1 this
    | ex x ρ' S' =>
      rw [e] at h
      intro cls d σ' m' H' F' k' x'
      obtain ⟨e1, cs1, k1⟩ := Cs.back cs F'.cs k'
      dsimp only at h
      split at h
      · rename_i q
        have := x'.cut q
        rw [e1] at this
        exact hW _ _ _ _ (h cls d m H' cs1 k1 this)
      · exact h.elim
    | br ρ' S' => rw [e] at h; exact h.elim
    | ct ρ' S' => rw [e] at h; exact h.elim
    | st => rw [e] at h; exact h.elim
  · rw [if_neg hk] at h
    exact h.elim
theorem body_okP0 {c : Cf} {bs : Bx} {m : List Addr} {S : St} {as : List T} (cs : Cs K bs m S H) (bn : ∀ b ∈ bs.b, b ≤ c.n0) (r : Reps K (mset bs m) H vs as) (hk : as.length = k) (hN : k ≤ N.length) (hW : ∀ cls d σ H', E cls d H' → W cls d σ H')
    (h : RsOk K (fun cls d _ H' => E cls d H') bs c.fl m [] H (RpT K bs) Q (match g ⟨S.length, S.length⟩ (start0 N.length as) S with
    | .nx _ _ => .ok .non S
    | .rt t S' => match fz S.length S' t with
      | some r => .ok r S
      | none => .st
    | .ex x _ _ => if okR S.length x = true then .ex x S else .st
    | _ => .st)) : tXS K W g { nx := fun _ H' => Q .non H', rt := Q } (L2.start N vs) H := by
  have F0 : FAt K ⟨S.length, S.length⟩ bs m S (L2.start N vs) H (start0 N.length as) := start_at cs (fun b hb => by rw [← cs.len]; exact cs.bl b hb) r (by rw [r.length]; omega)
  refine ⟨_, _, m, S, _, F0, ?_⟩
  have em : ∀ {m' H'}, Kp S.length m H m' H' → m'.take S.length = m ∧ Same H H' := fun {m' H'} k => by
    rw [← cs.len] at k
    refine ⟨?_, kp_same k⟩
    obtain ⟨⟨e, rfl, _⟩, _⟩ := k
    rw [← cs.len, List.take_left]
  cases e : g ⟨S.length, S.length⟩ (start0 N.length as) S with
  | nx ρ' S' =>
    rw [e] at h
    intro σ' m' H' F' k'
    obtain ⟨e1, s1⟩ := em k'
    exact h .non m H' (cs.same s1) (Kp.of_same s1) .non
  | rt t S' =>
    rw [e] at h
    intro v m' H' cs' k' r'
    obtain ⟨e1, s1⟩ := em k'
    dsimp only at h
    cases ef : fz S.length S' t with
    | none => rw [ef] at h; exact h.elim
    | some t' =>
      rw [ef] at h
      have := fz_ok cs' r' ef
      rw [e1] at this
      exact h v m H' (cs.same s1) (Kp.of_same s1) this
  | ex x ρ' S' =>
    rw [e] at h
    intro cls d σ' m' H' F' k' x'
    obtain ⟨e1, s1⟩ := em k'
    dsimp only at h
    split at h
    · rename_i q
      have := x'.cut q
      rw [e1] at this
      exact hW _ _ _ _ (h cls d m H' (cs.same s1) (Kp.of_same s1) this)
    · exact h.elim
  | br ρ' S' => rw [e] at h; exact h.elim
  | ct ρ' S' => rw [e] at h; exact h.elim
  | st => rw [e] at h; exact h.elim
theorem body_okP (hp : PSs X body (tXS K W g)) (hN : k ≤ N.length) (hW : ∀ cls d σ H', E cls d H' → W cls d σ H') (h : spF K (runP k N.length g) vs H Q E) :
    ∃ t, PSs X body t ∧ t { nx := fun _ H' => Q .non H', rt := Q } (L2.start N vs) H := by
  refine ⟨_, hp, ?_⟩
  obtain ⟨c, bs, m, S, as, cs, bn, r, h⟩ := h
  unfold runP at h
  by_cases hk : as.length = k
  · rw [if_pos hk] at h
    by_cases h0 : okRs 0 as = true
    · rw [if_pos h0] at h
      have to : ∀ a, (mset (⟨[], m ++ bs.h⟩ : Bx) []).p a → (mset bs m).p a := fun a z => z.elim (fun z => (nomatch z)) fun z => List.mem_append.mp z
      have fro : ∀ a, (mset bs m).p a → (mset (⟨[], m ++ bs.h⟩ : Bx) []).p a := fun a z => .inr (List.mem_append.mpr z)
      have cs0 : Cs K (⟨[], m ++ bs.h⟩ : Bx) [] [] H := ⟨rfl, List.nodup_nil, fun _ z => (nomatch z), fun a ha => ⟨fun z => (nomatch z), (List.mem_append.mp ha).elim (cs.dom a) fun z => (cs.hid a z).2⟩, fun n c a e => by simp at e, fun _ z => (nomatch z)⟩
      have F0 : FAt K ⟨0, 0⟩ (⟨[], m ++ bs.h⟩ : Bx) [] [] (L2.start N vs) H (start0 N.length as) := start_at cs0 (fun _ z => (nomatch z)) (r.to to h0) (by rw [r.length]; omega)
      refine ⟨_, _, [], [], _, F0, ?_⟩
      have em : ∀ {m' H'}, Kp 0 [] H m' H' → Same H H' := fun {m' H'} k => kp_same (m := []) k
      cases e : g ⟨0, 0⟩ (start0 N.length as) [] with
      | nx ρ' S' =>
        rw [e] at h
        intro σ' m' H' F' k'
        exact h .non m H' (cs.same (em k')) (Kp.of_same (em k')) .non
      | rt t S' =>
        rw [e] at h
        intro v m' H' cs' k' r'
        unfold finP at h
        dsimp only at h
        cases ef : fz 0 S' t with
        | none => rw [ef] at h; exact h.elim
        | some t' =>
          rw [ef] at h
          have q := fz_ok cs' r' ef
          have q0 : okR 0 t' = true := q.okr
          exact h v m H' (cs.same (em k')) (Kp.of_same (em k')) (q.to fro q0)
      | ex x ρ' S' =>
        rw [e] at h
        intro cls d σ' m' H' F' k' x'
        unfold finP at h
        dsimp only at h
        split at h
        · rename_i q
          exact hW _ _ _ _ (h cls d m H' (cs.same (em k')) (Kp.of_same (em k')) ((x'.cut q).to fro q))
        · exact h.elim
      | br ρ' S' => rw [e] at h; exact h.elim
      | ct ρ' S' => rw [e] at h; exact h.elim
      | st => rw [e] at h; exact h.elim
    · rw [if_neg h0] at h
      cases eq : (fzs 0 S as).bind fun as' => finQ (g ⟨0, 0⟩ (start0 N.length as') []) with
      | none =>
        rw [eq] at h
        exact body_okP0 cs bn r hk hN hW h
      | some r' =>
        rw [eq] at h
        obtain ⟨as', ea, eq⟩ := Option.bind_eq_some_iff.mp eq
        have ra := fzs_ok cs r ea
        have cs0 : Cs K (⟨[], bs.h⟩ : Bx) [] [] H := ⟨rfl, List.nodup_nil, fun _ z => (nomatch z), fun a ha => ⟨fun z => (nomatch z), (cs.hid a ha).2⟩, fun n c a e => by simp at e, fun _ z => (nomatch z)⟩
        have F0 : FAt K ⟨0, 0⟩ (⟨[], bs.h⟩ : Bx) [] [] (L2.start N vs) H (start0 N.length as') := start_at cs0 (fun _ z => (nomatch z)) ra (by rw [r.length]; omega)
        refine ⟨_, _, [], [], _, F0, ?_⟩
        have em : ∀ {m' H'}, Kp 0 [] H m' H' → Same H H' := fun {m' H'} k => kp_same (m := []) k
        cases e : g ⟨0, 0⟩ (start0 N.length as') [] with
        | nx ρ' S' =>
          rw [e] at eq
          cases eq
          intro σ' m' H' F' k'
          exact h .non m H' (cs.same (em k')) (Kp.of_same (em k')) .non
        | rt t S' =>
          rw [e] at eq
          intro v m' H' cs' k' r2
          unfold finQ at eq
          dsimp only at eq
          cases ef : fz 0 S' t with
          | none => rw [ef] at eq; cases eq
          | some t' =>
            rw [ef] at eq
            dsimp only at eq
            split at eq
            · rename_i hp
              cases eq
              exact h v m H' (cs.same (em k')) (Kp.of_same (em k')) ((fz_ok cs' r2 ef).pur hp)
            · cases eq
        | ex x ρ' S' => rw [e] at eq; cases eq
        | br ρ' S' => rw [e] at eq; cases eq
        | ct ρ' S' => rw [e] at eq; cases eq
        | st => rw [e] at eq; cases eq
  · rw [if_neg hk] at h
    exact h.elim
theorem body_okO (hp : PSs X body (tXS K W g)) (hN : k ≤ N.length) (hW : ∀ cls d σ H', E cls d H' → W cls d σ H') (h : spF K (runO k N.length g) vs H Q E) :
    ∃ t, PSs X body t ∧ t { nx := fun _ H' => Q .non H', rt := Q } (L2.start N vs) H := by
  refine ⟨_, hp, ?_⟩
  obtain ⟨c, bs, m, S, as, cs, bn, r, h⟩ := h
  unfold runO at h
  by_cases hk : as.length = k
  · rw [if_pos hk] at h
    have F0 : FAt K c bs m S (L2.start N vs) H (start0 N.length as) := start_at cs bn r (by rw [r.length]; omega)
    refine ⟨c, bs, m, S, _, F0, ?_⟩
    cases e : g c (start0 N.length as) S with
    | nx ρ' S' =>
      rw [e] at h
      exact fun σ' m' H' F' k' => h .non m' H' F'.cs k' .non
    | rt t S' =>
      rw [e] at h
      exact fun v m' H' cs' k' r' => h v m' H' cs' k' r'
    | ex x ρ' S' =>
      rw [e] at h
      exact fun cls d σ' m' H' F' k' x' => hW _ _ _ _ (h cls d m' H' F'.cs k' x')
    | br ρ' S' => rw [e] at h; exact h.elim
    | ct ρ' S' => rw [e] at h; exact h.elim
    | st => rw [e] at h; exact h.elim
  · rw [if_neg hk] at h
    exact h.elim
/-- what takes so many arguments alone -/
def takesN (k : Nat) (Fm : Fn) : Prop := ∀ c as S, as.length ≠ k → Fm c as S = .st
theorem takes_S {k n : Nat} {g : Sv} : takesN k (runS k n g) := fun c as S h => if_neg h
theorem takes_P {k n : Nat} {g : Sv} : takesN k (runP k n g) := fun c as S h => if_neg h
theorem takes_O {k n : Nat} {g : Sv} : takesN k (runO k n g) := fun c as S h => if_neg h
theorem spF_len {k : Nat} {Fm : Fn} (t : takesN k Fm) (h : spF K Fm vs H Q E) : vs.length = k := by
  obtain ⟨c, bs, m, S, as, cs, bn, r, h⟩ := h
  by_cases hk : as.length = k
  · rw [r.length]
    exact hk
  · rw [t c as S hk] at h
    exact h.elim
end
/-! ### calls -/
section
variable {X : Cx} {K : PySem.W.Frag} {W : WX} {CX : CXT} {k : Nat} {f C : Addr} {Fm : Fn} {dvs : List V} {ds : List T} {E : XK} {x m : Str} {p pos apos : Pos} {e o : Expr} {es : List Expr} {fa : Ev T} {fr : Ev (List T)}
def callF (Fm : Fn) (ts : List T) : Ev T := fun c _ S => Fm c ts S
def mCall (Fm : Fn) (ds : List T) (fr : Ev (List T)) : Ev T := fr.bind fun ts c _ S => Fm c (ts ++ ds) S
theorem RsOk.sp {cf : Cf} {bs : Bx} {m : List Addr} {S : St} {σ : L2.St} {H : Hp} {ρ : Ro} {Q : VK} {vs : List V} {ts : List T} (F : FAt K cf bs m S σ H ρ) (r : Reps K (mset bs m) H vs ts) (h : RsOk K W bs cf.fl m σ H (RpT K bs) Q (Fm cf ts S)) : spF K Fm vs H Q fun cls d H' => W cls d σ H' :=
  ⟨cf, bs, m, S, ts, F.cs, F.bn, r, by
    cases e : Fm cf ts S with
    | ok t S' => rw [e] at h; exact h
    | ex x S' => rw [e] at h; exact h
    | st => rw [e] at h; exact h⟩
theorem m_call (D : Dn X.prog X.w X.K X.mg X.base CX k f dvs (spF K Fm)) (hr : Room k X.A) (hm : X.mg x = some (.ref f)) (hx : PassA CX X W) (hd : ∀ A H, Reps K A H dvs ds) (ha : PA X (e :: es) (tXA K W fr)) (hg : Gl X x := by rfl) (hdb : (x == ("__debug__" : Str)) = false := by decide)
    (he : starEach (e :: es) X.env = (false, eval e X.env) :: starEach es X.env := by rfl) (hpl : (backTo pos (starEach es X.env)).any (·.1) = false := by rfl) : PE X (.Call (.Name x p) (e :: es) [] pos) (tX K W (mCall Fm ds fr)) := by
  refine ⟨fun pins s σ H Q I hw => ?_⟩
  refine (pe_cA D hr hm hx ha hg hdb he hpl).run pins s σ H Q I ?_
  obtain ⟨cf, bs, m, S, ρ, F, h⟩ := hw
  exact ⟨cf, bs, m, S, ρ, F, RsOk.bind F h fun ts vs m1 H1 S1 F1 k1 R1 h1 => RsOk.sp F1 (Reps.append R1 (hd _ _)) h1⟩
theorem m_call0 (D : Dn X.prog X.w X.K X.mg X.base CX k f dvs (spF K Fm)) (hr : Room k X.A) (hm : X.mg x = some (.ref f)) (hx : PassA CX X W) (hd : ∀ A H, Reps K A H dvs ds) (hg : Gl X x := by rfl) (hdb : (x == ("__debug__" : Str)) = false := by decide) :
    PE X (.Call (.Name x p) [] [] pos) (tX K W (callF Fm ds)) := by
  refine ⟨fun pins s σ H Q I hw => ?_⟩
  refine (pe_c0A D hr hm hx hg hdb).run pins s σ H Q I ?_
  obtain ⟨cf, bs, m, S, ρ, F, h⟩ := hw
  exact RsOk.sp F (hd _ _) h
theorem lookup_no {fs : List (Str × V)} {m : Str} (h : m ∉ fs.map (·.1)) : fs.lookup m = none := by
  rw [List.lookup_eq_none_iff]
  intro q hq
  have : m ≠ q.1 := fun z => h (by rw [z]; exact List.mem_map_of_mem (f := (·.1)) hq)
  simpa using this
/-- a method of a value of the class C -/
def mMeth (C m : Str) (Fm : Fn) (ds : List T) (fa : Ev T) (fr : Ev (List T)) : Ev T := fa.bind fun x c ρ S => match vw S x with
  | .obj C' ns _ => if C' = C ∧ m ∉ ns then (fr.bind fun ts c _ S => Fm c (x :: (ts ++ ds)) S) c ρ S else .st
  | _ => .st
theorem meth_read {Cn : Str} {σ : L2.St} {H : Hp} {Q : VK} {tr : TA} (hC : C = He.ga K Cn) (hd : ∀ A H, Reps K A H dvs ds) (ht : tr = tXA K W fr) (h : tX K W (mMeth Cn m Fm ds fa fr) σ H Q) : tMeth C m (spF K Fm) dvs (fun cls d H' => W cls d σ H') (tX K W fa) tr σ H Q := by
  subst hC ht
  obtain ⟨cf, bs, m0, S, ρ, F, h⟩ := h
  refine ⟨cf, bs, m0, S, ρ, F, RsOk.bind F h fun x vx m1 H1 S1 F1 k1 R1 h1 => ?_⟩
  cases ev : vw S1 x with
  | obj C' ns l =>
    rw [ev] at h1
    dsimp only at h1
    split at h1
    · rename_i hc
      obtain ⟨a, dx, fs, rfl, ha, rfl, rs⟩ := ins_at F1.cs R1 ev
      obtain ⟨rfl, hn⟩ := hc
      refine ⟨a, dx, fs, rfl, ha, lookup_no hn, cf, bs, m1, S1, ρ, F1, RsOk.bind F1 h1 fun ts vs m2 H2 S2 F2 k2 R2 h2 => ?_⟩
      exact RsOk.sp F2 (.cons (Rep.lk k2.lk R1) (Reps.append R2 (hd _ _))) h2
    · exact h1.elim
  | _ => rw [ev] at h1; exact h1.elim
theorem m_meth {pl : Sem Bool} {Cn : Str} (he : PE X o (tX K W fa)) (c : Cls X.K (He.ga K Cn)) (hm : Meth X.K (He.ga K Cn) m f) (D : Dn X.prog X.w X.K X.mg X.base CX k f dvs (spF K Fm)) (hr : Room k X.A) (hx : PassA CX X W) (hd : ∀ A H, Reps K A H dvs ds) (ha : PA X (e :: es) (tXA K W fr))
    (hst : starEach (e :: es) X.env = (false, eval e X.env) :: starEach es X.env := by rfl) (hpl : (backTo pos (starEach es X.env)).any (·.1) = false := by rfl)
    (ht : MCall X o m apos pos (e :: es) pl := by rfl) : PE X (.Call (.Attribute o m apos) (e :: es) [] pos) (tX K W (mMeth Cn m Fm ds fa fr)) := by
  refine ⟨fun pins s σ H Q I hw => ?_⟩
  exact (pe_mA he c hm D hr hx ha hst hpl ht).run pins s σ H Q I (meth_read rfl hd rfl hw)
theorem m_meth0 {pl : Sem Bool} {Cn : Str} (he : PE X o (tX K W fa)) (c : Cls X.K (He.ga K Cn)) (hm : Meth X.K (He.ga K Cn) m f) (D : Dn X.prog X.w X.K X.mg X.base CX k f dvs (spF K Fm)) (hr : Room k X.A) (hx : PassA CX X W) (hd : ∀ A H, Reps K A H dvs ds)
    (ht : MCall X o m apos pos [] pl := by rfl) : PE X (.Call (.Attribute o m apos) [] [] pos) (tX K W (mMeth Cn m Fm ds fa mNil)) := by
  refine ⟨fun pins s σ H Q I hw => ?_⟩
  refine (pe_m0A he c hm D hr hx ht).run pins s σ H Q I ?_
  have := meth_read (C := He.ga K Cn) (dvs := dvs) (ds := ds) rfl hd rfl hw
  obtain ⟨cf, bs, m0, S, ρ, F, h⟩ := this
  refine ⟨cf, bs, m0, S, ρ, F, ?_⟩
  cases e2 : fa cf ρ S with
  | ok a S' =>
    rw [e2] at h
    intro v m' H' cs k' R
    obtain ⟨a, dx, fs, e3, h1, h2, cf', bs', m2, S2, ρ2, F2, h3⟩ := h v m' H' cs k' R
    exact ⟨a, dx, fs, e3, h1, h2, h3 [] m2 H' F2.cs Kp.refl .nil⟩
  | ex x S' => rw [e2] at h; exact h
  | st => rw [e2] at h; exact h
end
end Tm

/-! N5: new cells, makers, what is stored in cells. -/
namespace Tm
open PySem PySem.Spec PyProof.Rows L2
section
variable {K : PySem.W.Frag} {bs : Bx} {fl : Nat} {m : List Addr} {S : St} {H H1 : Hp}
theorem kp_new {x : Addr} (hx : H x = none) (s : Same H H1) : Kp fl m H (m ++ [x]) H1 := ⟨⟨[x], rfl, fun a ha => by rw [List.mem_singleton] at ha; rw [ha]; exact hx⟩, fun b o _ e => s b o e, fun b xs e => s b _ e, fun b o u e => s b _ e, fun b o e => ⟨o, s b o e⟩⟩
theorem CellAt.lk {A B : ASet} {a : Addr} {c : T} (h : CellAt K A H a c) (L : Lk A H B H1) (s : ∀ o, H a = some o → H1 a = some o) : CellAt K B H1 a c := by
  cases h with
  | lst h r => exact .lst (s _ h) (r.lk L)
  | dK h r => exact .dK (s _ h) (r.lk L)
  | dT h r => exact .dT (s _ h) (r.lk L)
  | obj h r => exact .obj (s _ h) (r.lk L)
  | lkK h r => exact .lkK (s _ h) (r.lk L)
  | lkT h r => exact .lkT (s _ h) (r.lk L)
/-- a new cell -/
theorem Cs.new (cs : Cs K bs m S H) {x : Addr} {c : T} (hx : H x = none) (s : Same H H1) (hc : CellAt K (mset bs (m ++ [x])) H1 x c) : Cs K bs (m ++ [x]) (S ++ [c]) H1 := by
  have nx : x ∉ m := fun z => by
    obtain ⟨o, e⟩ := cs.dom x z
    rw [hx] at e
    cases e
  have hd : ∀ a ∈ bs.h, a ∉ m ++ [x] ∧ ∃ o, H1 a = some o := fun a ha => by
    obtain ⟨o, e⟩ := (cs.hid a ha).2
    refine ⟨fun z => ?_, o, s _ _ e⟩
    rcases List.mem_append.mp z with z | z
    · exact (cs.hid a ha).1 z
    · rw [List.mem_singleton] at z
      rw [z, hx] at e
      cases e
  refine ⟨by simp [cs.len], ?_, fun b hb => by have := cs.bl b hb; simp; omega, hd, fun n c' a hn ha => ?_, fun b hb k c' hk hc' => ?_⟩
  · rw [List.nodup_append]
    exact ⟨cs.nd, by simp, fun a ha b hb e => by rw [List.mem_singleton] at hb; subst hb; subst e; exact nx ha⟩
  · by_cases q : n < S.length
    · rw [List.getElem?_append_left q] at hn
      rw [List.getElem?_append_left (by rw [cs.len]; exact q)] at ha
      exact (cs.cell n c' a hn ha).lk (kp_new (fl := 0) hx s).lk fun o e => s _ _ e
    · rw [List.getElem?_append_right (by omega)] at hn
      rw [List.getElem?_append_right (by rw [cs.len]; omega), cs.len] at ha
      have : n - S.length = 0 := by
        have := (List.getElem?_eq_some_iff.mp hn).1
        simp at this
        omega
      rw [this] at hn ha
      simp at hn ha
      subst hn ha
      exact hc
  · have := cs.bl b hb
    rw [List.getElem?_append_left (by rw [← cs.len]; omega)] at hc'
    exact cs.old b hb k c' hk hc'
/-- a cell is written -/
theorem Cs.put (cs : Cs K bs m S H) {n : Nat} {a : Addr} {o o' : HO} (ha : m[n]? = some a) (h0 : H a = some o) (nt : ∀ xs, o ≠ .tup xs) (nf : ∀ x y, o ≠ .frz x y) :
    Lk (mset bs m) H (mset bs m) (upd H a o') ∧ (fl ≤ n → Kp fl m H m (upd H a o')) ∧ ∀ c', CellAt K (mset bs m) (upd H a o') a c' → (∀ b ∈ bs.b, n < b → okR b c' = true) → Cs K bs m (S.set n c') (upd H a o') := by
  have am : a ∈ m := List.mem_of_getElem? ha
  have tp : ∀ b xs, H b = some (.tup xs) → upd H a o' b = some (.tup xs) := fun b xs e => by
    rw [upd_ne (fun z => by rw [z, h0] at e; exact nt _ (Option.some.inj e))]
    exact e
  have fz : ∀ b x y, H b = some (.frz x y) → upd H a o' b = some (.frz x y) := fun b x y e => by
    rw [upd_ne (fun z => by rw [z, h0] at e; exact nf _ _ (Option.some.inj e))]
    exact e
  have L : Lk (mset bs m) H (mset bs m) (upd H a o') := ⟨fun _ _ h => h, fun b q nb e => ⟨by rw [upd_ne (fun z => nb (.inl (by rw [z]; exact am)))]; exact e, nb⟩, tp, fz⟩
  refine ⟨L, fun hfl => ⟨⟨[], by simp, by simp⟩, fun b q nb e => ?_, tp, fz, fun b q e => ?_⟩, fun c' hc hb => ⟨by rw [List.length_set]; exact cs.len, cs.nd, cs.bl, fun x hx => ⟨(cs.hid x hx).1, by
      obtain ⟨q, e⟩ := (cs.hid x hx).2
      exact ⟨q, by rw [upd_ne (fun z => (cs.hid x hx).1 (by rw [z]; exact am))]; exact e⟩⟩, fun j c2 a2 hj ha2 => ?_, fun b hbb k c2 hk hc2 => ?_⟩⟩
  · rw [upd_ne (fun z => nb ?_)]
    · exact e
    · rw [z]
      refine List.mem_of_getElem? (i := n - fl) ?_
      rw [List.getElem?_drop]
      have : fl + (n - fl) = n := by omega
      rw [this]
      exact ha
  · by_cases q2 : b = a
    · exact ⟨o', by rw [q2]; exact upd_same⟩
    · exact ⟨q, by rw [upd_ne q2]; exact e⟩
  · by_cases q : j = n
    · subst q
      have hl : j < S.length := by
        have := (List.getElem?_eq_some_iff.mp hj).1
        rwa [List.length_set] at this
      rw [List.getElem?_set_self hl] at hj
      cases hj
      rw [ha] at ha2
      cases ha2
      exact hc
    · rw [List.getElem?_set_ne (fun z => q z.symm)] at hj
      refine (cs.cell j c2 a2 hj ha2).lk L fun o2 e2 => ?_
      rw [upd_ne]
      · exact e2
      · intro z
        subst z
        exact q ((List.getElem?_inj (List.getElem?_eq_some_iff.mp ha2).1 cs.nd).mp (ha2.trans ha.symm))
  · by_cases q : k = n
    · subst q
      have hl : k < S.length := by
        have := (List.getElem?_eq_some_iff.mp hc2).1
        rwa [List.length_set] at this
      rw [List.getElem?_set_self hl] at hc2
      cases hc2
      exact hb b hbb hk
    · rw [List.getElem?_set_ne (fun z => q z.symm)] at hc2
      exact cs.old b hbb k c2 hk hc2
/-- whether a value may be written to a cell -/
def wrOk (c : Cf) (n : Nat) (t : T) : Bool := decide (c.fl ≤ n) && (decide (c.n0 ≤ n) || okR 0 t)
theorem wrOk_fl {c : Cf} {n : Nat} {t : T} (h : wrOk c n t = true) : c.fl ≤ n := by
  unfold wrOk at h
  simp at h
  exact h.1
theorem wrOk_b {c : Cf} {n : Nat} {t : T} (h : wrOk c n t = true) (bn : ∀ b ∈ bs.b, b ≤ c.n0) : ∀ b ∈ bs.b, n < b → okR b t = true := fun b hb hn => by
  unfold wrOk at h
  simp at h
  rcases h.2 with q | q
  · have := bn b hb
    omega
  · exact okR_mono (Nat.zero_le _) q
end
/-! ### lists and dicts as cells -/
section
variable {X : Cx} {K : PySem.W.Frag} {W : WX} {CX : CXT} {k : Nat} {f : Addr} {Fm : Fn} {dvs : List V} {ds : List T} {x m Cn : Str} {p pos apos : Pos} {e o : Expr} {es : List Expr} {fa : Ev T} {fr : Ev (List T)}
/-- [..] as a cell -/
def mLstC (fr : Ev (List T)) : Ev T := fr.bind fun xs _ _ S => if xs.length ≤ 1000000 then .ok (.ref S.length) (S ++ [.lst xs]) else .st
theorem new_ok {cf : Cf} {bs : Bx} {fl : Nat} {m : List Addr} {S : St} {σ : L2.St} {H H1 : Hp} {ρ : Ro} {Q : VK} {x : Addr} {c : T} (F : FAt K cf bs m S σ H ρ) (hx : H x = none) (s : Same H H1) (hc : CellAt K (mset bs (m ++ [x])) H1 x c) (h : RsOk K W bs fl m σ H (RpT K bs) Q (.ok (.ref S.length) (S ++ [c]))) : Q (.ref x) H1 :=
  h _ (m ++ [x]) H1 (F.cs.new hx s hc) (kp_new hx s) (.ref (by
    show (m ++ [x])[S.length]? = some x
    rw [List.getElem?_append_right (by rw [F.cs.len]; exact Nat.le_refl _), F.cs.len]
    simp))
theorem reps_new {bs : Bx} {m : List Addr} {S : St} {H H1 : Hp} {x : Addr} {vs : List V} {l : List T} (hx : H x = none) (s : Same H H1) (r : Reps K (mset bs m) H vs l) : Reps K (mset bs (m ++ [x])) H1 vs l := r.lk (kp_new (fl := 0) hx s).lk
theorem m_lstC (h : PA X es (tXA K W fr)) : PE X (.List es pos) (tX K W (mLstC fr)) := PE.imp (pe_lst h) fun σ H Q h => by
  obtain ⟨cf, bs, m, S, ρ, F, h⟩ := h
  refine ⟨cf, bs, m, S, ρ, F, RsOk.bind F h fun xs vs m1 H1 S1 F1 k1 R1 h1 => ?_⟩
  have R1 : Reps K (mset bs m1) H1 vs xs := R1
  split at h1
  · rename_i hl
    refine ⟨big_le (by rw [R1.length]; exact hl), fun p hp => ?_⟩
    have s := same_new (o := .lst vs) hp
    exact new_ok F1 hp s (.lst upd_same (reps_new (bs := bs) (S := S1) hp s R1)) h1
  · exact h1.elim
/-- {} as a cell, its keys texts and ints, or tuples -/
def mDicK : Ev T := fun _ _ S => .ok (.ref S.length) (S ++ [.dK [] []])
def mDicT : Ev T := fun _ _ S => .ok (.ref S.length) (S ++ [.dT [] []])
theorem m_dicK (he : eval e X.env = eval (.Dict [] [] pos) X.env := by rfl) (hx : e = .Dict [] [] pos := by rfl) : PE X (.Dict [] [] pos) (tX K W mDicK) := PE.imp pe_dnewK fun σ H Q h => by
  obtain ⟨cf, bs, m, S, ρ, F, h⟩ := h
  intro p hp
  exact new_ok F hp (same_new hp) (.dK (kvs := []) upd_same .nil) h
theorem m_dicT : PE X (.Dict [] [] pos) (tX K W mDicT) := PE.imp pe_dnewT fun σ H Q h => by
  obtain ⟨cf, bs, m, S, ρ, F, h⟩ := h
  intro p hp
  exact new_ok F hp (same_new hp) (.dT (kvs := []) upd_same .nil) h
/-! ### makers -/
/-- an instance that may change -/
def mNew (Cn : Str) (Fm : Fn) (ds : List T) (fr : Ev (List T)) : Ev T := fr.bind fun ts c _ S => match Fm ⟨c.fl, S.length⟩ (.ref S.length :: (ts ++ ds)) (S ++ [.obj Cn [] []]) with
  | .ok .non S' => .ok (.ref S.length) S'
  | .ex x S' => .ex x S'
  | _ => .st
/-- an instance that stays -/
def mMk (Cn : Str) (Fm : Fn) (ds : List T) (fr : Ev (List T)) : Ev T := fr.bind fun ts _ _ S => match Fm ⟨S.length, S.length⟩ (.ref S.length :: (ts ++ ds)) (S ++ [.obj Cn [] []]) with
  | .ok .non S' => match S'[S.length]? with
    | some (.obj C' ns l) => if okRs S.length l = true then .ok (.obj C' ns l) S else .st
    | _ => .st
  | .ex x _ => if okR S.length x = true then .ex x S else .st
  | _ => .st
section
variable {cf : Cf} {bs : Bx} {m : List Addr} {S : St} {σ : L2.St} {H : Hp} {ρ : Ro} {Q : VK} {vs : List V} {ts : List T}
theorem make_at (F : FAt K cf bs m S σ H ρ) (r : Reps K (mset bs m) H vs ts) (x dx : Addr) (hx : H x = none) (hdx : H dx = none) (ne : dx ≠ x) :
    Same H (upd (upd H dx (.own x)) x (.ins (He.ga K Cn) dx [])) ∧ Cs K bs (m ++ [x]) (S ++ [.obj Cn [] []]) (upd (upd H dx (.own x)) x (.ins (He.ga K Cn) dx [])) ∧ Reps K (mset bs (m ++ [x])) (upd (upd H dx (.own x)) x (.ins (He.ga K Cn) dx [])) (.ref x :: vs) (.ref S.length :: ts) := by
  have s1 : Same H (upd H dx (.own x)) := same_new hdx
  have hx1 : upd H dx (.own x) x = none := by rw [upd_ne (fun z => ne z.symm)]; exact hx
  have s : Same H (upd (upd H dx (.own x)) x (.ins (He.ga K Cn) dx [])) := s1.trans (same_new hx1)
  refine ⟨s, F.cs.new hx s (.obj (fs := []) upd_same .nil), .cons (.ref ?_) (reps_new (bs := bs) (S := S) hx s r)⟩
  show (m ++ [x])[S.length]? = some x
  rw [List.getElem?_append_right (by rw [F.cs.len]; exact Nat.le_refl _), F.cs.len]
  simp
theorem mNew_ok (F : FAt K cf bs m S σ H ρ) (r : Reps K (mset bs m) H vs ts) (h : RsOk K W bs cf.fl m σ H (RpT K bs) Q (match Fm ⟨cf.fl, S.length⟩ (.ref S.length :: ts) (S ++ [.obj Cn [] []]) with | .ok .non S' => .ok (.ref S.length) S' | .ex x S' => .ex x S' | _ => .st)) (x dx : Addr) (hx : H x = none) (hdx : H dx = none) (ne : dx ≠ x) :
    spF K Fm (.ref x :: vs) (upd (upd H dx (.own x)) x (.ins (He.ga K Cn) dx [])) (fun v H2 => v = .non ∧ Q (.ref x) H2) fun cls d H' => W cls d σ H' := by
  obtain ⟨s, cs1, r1⟩ := make_at (Cn := Cn) F r x dx hx hdx ne
  have k0 : Kp cf.fl m H (m ++ [x]) _ := kp_new hx s
  refine ⟨⟨cf.fl, S.length⟩, bs, _, _, _, cs1, fun b hb => by have := F.cs.bl b hb; rw [F.cs.len] at this; exact this, r1, ?_⟩
  cases e : Fm ⟨cf.fl, S.length⟩ (.ref S.length :: ts) (S ++ [.obj Cn [] []]) with
  | ok t S' =>
    rw [e] at h
    intro v m' H' cs' k' R
    unfold RpT at R
    cases t with
    | non =>
      cases R
      refine ⟨rfl, h _ m' H' cs' (k0.trans k') (.ref ?_)⟩
      obtain ⟨⟨e', rfl, _⟩, _⟩ := k'
      show ((m ++ [x]) ++ e')[S.length]? = some x
      rw [List.getElem?_append_left (by simp [F.cs.len]), List.getElem?_append_right (by rw [F.cs.len]; exact Nat.le_refl _), F.cs.len]
      simp
    | _ => exact h.elim
  | ex y S' =>
    rw [e] at h
    exact fun cls d m' H' cs' k' R => h cls d m' H' cs' (k0.trans k') R
  | st => rw [e] at h; exact h.elim
theorem mMk_ok (F : FAt K cf bs m S σ H ρ) (r : Reps K (mset bs m) H vs ts) (h : RsOk K W bs cf.fl m σ H (RpT K bs) Q (match Fm ⟨S.length, S.length⟩ (.ref S.length :: ts) (S ++ [.obj Cn [] []]) with
    | .ok .non S' => (match S'[S.length]? with | some (.obj C' ns l) => if okRs S.length l = true then .ok (.obj C' ns l) S else .st | _ => .st)
    | .ex x _ => if okR S.length x = true then .ex x S else .st | _ => .st)) (x dx : Addr) (hx : H x = none) (hdx : H dx = none) (ne : dx ≠ x) :
    spF K Fm (.ref x :: vs) (upd (upd H dx (.own x)) x (.ins (He.ga K Cn) dx [])) (fun v H2 => v = .non ∧ Q (.ref x) H2) fun cls d H' => W cls d σ H' := by
  obtain ⟨s, cs1, r1⟩ := make_at (Cn := Cn) F r x dx hx hdx ne
  have nx : x ∉ m := fun z => by
    obtain ⟨o, e⟩ := F.cs.dom x z
    rw [hx] at e
    cases e
  have same : ∀ {m' H'}, Kp S.length (m ++ [x]) (upd (upd H dx (.own x)) x (.ins (He.ga K Cn) dx [])) m' H' → Same H H' ∧ m'.take S.length = m ∧ m'[S.length]? = some x := fun {m' H'} k => by
    refine ⟨fun b o e => k.all b o (fun z => ?_) (s b o e), ?_⟩
    · rw [← F.cs.len, List.drop_left] at z
      rw [List.mem_singleton] at z
      rw [z, hx] at e
      cases e
    · obtain ⟨⟨e', rfl, _⟩, _⟩ := k
      refine ⟨by rw [← F.cs.len, List.append_assoc, List.take_left], ?_⟩
      rw [List.getElem?_append_left (by simp [F.cs.len]), List.getElem?_append_right (by rw [F.cs.len]; exact Nat.le_refl _), F.cs.len]
      simp
  refine ⟨⟨S.length, S.length⟩, bs, _, _, _, cs1, fun b hb => by have := F.cs.bl b hb; rw [F.cs.len] at this; exact this, r1, ?_⟩
  cases e : Fm ⟨S.length, S.length⟩ (.ref S.length :: ts) (S ++ [.obj Cn [] []]) with
  | ok t S' =>
    rw [e] at h
    intro v m' H' cs' k' R
    unfold RpT at R
    obtain ⟨sm, e1, e2⟩ := same k'
    cases t with
    | non =>
      cases R
      refine ⟨rfl, ?_⟩
      dsimp only at h
      cases es : S'[S.length]? with
      | none => rw [es] at h; exact h.elim
      | some cc =>
        rw [es] at h
        have cl := cs'.cell _ cc x es e2
        cases cl with
        | obj hh rs =>
          dsimp only at h
          split at h
          · rename_i q
            have rr := rs.cut q
            rw [e1] at rr
            exact h _ m H' (F.cs.same sm) (Kp.of_same sm) (.obj (fun z => z.elim nx fun z => by
              obtain ⟨q, eq⟩ := (F.cs.hid x z).2
              rw [hx] at eq
              cases eq) hh rr)
          · exact h.elim
        | _ => exact h.elim
    | _ => exact h.elim
  | ex y S' =>
    rw [e] at h
    intro cls d m' H' cs' k' R
    obtain ⟨sm, e1, e2⟩ := same k'
    dsimp only at h
    split at h
    · rename_i q
      have := R.cut q
      rw [e1] at this
      exact h cls d m H' (F.cs.same sm) (Kp.of_same sm) this
    · exact h.elim
  | st => rw [e] at h; exact h.elim
end
theorem m_new (M : Mk X.K (He.ga K Cn) f) (D : Dn X.prog X.w X.K X.mg X.base CX k f dvs (spF K Fm)) (hr : Room (k + 1) X.A) (hm : X.mg x = some (.ref (He.ga K Cn))) (hx : PassA CX X W) (hd : ∀ A H, Reps K A H dvs ds) (ha : PA X (e :: es) (tXA K W fr)) (hg : Gl X x := by rfl)
    (hdb : (x == ("__debug__" : Str)) = false := by decide) (he : starEach (e :: es) X.env = (false, eval e X.env) :: starEach es X.env := by rfl) (hpl : (backTo pos (starEach es X.env)).any (·.1) = false := by rfl) :
    PE X (.Call (.Name x p) (e :: es) [] pos) (tX K W (mNew Cn Fm ds fr)) := by
  refine ⟨fun pins s σ H Q I hw => ?_⟩
  refine (pe_mkA M D hr hm hx ha hg hdb he hpl).run pins s σ H Q I ?_
  obtain ⟨cf, bs, m, S, ρ, F, h⟩ := hw
  exact ⟨cf, bs, m, S, ρ, F, RsOk.bind F h fun ts vs m1 H1 S1 F1 k1 R1 h1 => fun x dx hx hdx ne => mNew_ok F1 (Reps.append R1 (hd _ _)) h1 x dx hx hdx ne⟩
theorem m_mk (M : Mk X.K (He.ga K Cn) f) (D : Dn X.prog X.w X.K X.mg X.base CX k f dvs (spF K Fm)) (hr : Room (k + 1) X.A) (hm : X.mg x = some (.ref (He.ga K Cn))) (hx : PassA CX X W) (hd : ∀ A H, Reps K A H dvs ds) (ha : PA X (e :: es) (tXA K W fr)) (hg : Gl X x := by rfl)
    (hdb : (x == ("__debug__" : Str)) = false := by decide) (he : starEach (e :: es) X.env = (false, eval e X.env) :: starEach es X.env := by rfl) (hpl : (backTo pos (starEach es X.env)).any (·.1) = false := by rfl) :
    PE X (.Call (.Name x p) (e :: es) [] pos) (tX K W (mMk Cn Fm ds fr)) := by
  refine ⟨fun pins s σ H Q I hw => ?_⟩
  refine (pe_mkA M D hr hm hx ha hg hdb he hpl).run pins s σ H Q I ?_
  obtain ⟨cf, bs, m, S, ρ, F, h⟩ := hw
  exact ⟨cf, bs, m, S, ρ, F, RsOk.bind F h fun ts vs m1 H1 S1 F1 k1 R1 h1 => fun x dx hx hdx ne => mMk_ok F1 (Reps.append R1 (hd _ _)) h1 x dx hx hdx ne⟩
theorem m_new0 (M : Mk X.K (He.ga K Cn) f) (D : Dn X.prog X.w X.K X.mg X.base CX k f dvs (spF K Fm)) (hr : Room (k + 1) X.A) (hm : X.mg x = some (.ref (He.ga K Cn))) (hx : PassA CX X W) (hd : ∀ A H, Reps K A H dvs ds) (hg : Gl X x := by rfl)
    (hdb : (x == ("__debug__" : Str)) = false := by decide) : PE X (.Call (.Name x p) [] [] pos) (tX K W (mNew Cn Fm ds mNil)) := by
  refine ⟨fun pins s σ H Q I hw => ?_⟩
  refine (pe_mk0A M D hr hm hx hg hdb).run pins s σ H Q I ?_
  obtain ⟨cf, bs, m, S, ρ, F, h⟩ := hw
  exact fun x dx hx hdx ne => mNew_ok F (hd _ _) h x dx hx hdx ne
theorem m_mk0 (M : Mk X.K (He.ga K Cn) f) (D : Dn X.prog X.w X.K X.mg X.base CX k f dvs (spF K Fm)) (hr : Room (k + 1) X.A) (hm : X.mg x = some (.ref (He.ga K Cn))) (hx : PassA CX X W) (hd : ∀ A H, Reps K A H dvs ds) (hg : Gl X x := by rfl)
    (hdb : (x == ("__debug__" : Str)) = false := by decide) : PE X (.Call (.Name x p) [] [] pos) (tX K W (mMk Cn Fm ds mNil)) := by
  refine ⟨fun pins s σ H Q I hw => ?_⟩
  refine (pe_mk0A M D hr hm hx hg hdb).run pins s σ H Q I ?_
  obtain ⟨cf, bs, m, S, ρ, F, h⟩ := hw
  exact fun x dx hx hdx ne => mMk_ok F (hd _ _) h x dx hx hdx ne
/-! ### fields stored -/
def putN (f : Str) (t : T) : List Str → List T → List Str × List T
  | n :: ns, x :: l => if n = f then (n :: ns, t :: l) else ((putN f t ns l).1.cons n, (putN f t ns l).2.cons x)
  | _, _ => ([f], [t])
theorem putF_rep {A : ASet} {H : Hp} {f : Str} {y : V} {t : T} (r : Rep K A H y t) : ∀ {fs : List (Str × V)} {l : List T}, Reps K A H (fs.map (·.2)) l → (putF f y fs).map (·.1) = (putN f t (fs.map (·.1)) l).1 ∧ Reps K A H ((putF f y fs).map (·.2)) (putN f t (fs.map (·.1)) l).2
  | [], l, rs => by
    cases rs
    exact ⟨rfl, .cons r .nil⟩
  | (n, x) :: fs, l, rs => by
    cases rs with
    | cons r1 rs =>
      obtain ⟨h1, h2⟩ := putF_rep (f := f) r rs
      unfold putF
      simp only [List.map_cons]
      unfold putN
      split
      · exact ⟨rfl, .cons r rs⟩
      · simp only [List.map_cons]
        exact ⟨by rw [h1], .cons r1 h2⟩
theorem putN_ok {b : Nat} {f : Str} {t : T} (h : okR b t = true) : ∀ {ns : List Str} {l : List T}, okRs b l = true → okRs b (putN f t ns l).2 = true
  | n :: ns, x :: l, e => by
    unfold okRs at e
    rw [Bool.and_eq_true] at e
    unfold putN
    split
    · unfold okRs
      rw [h, e.2]
      rfl
    · show okRs b (x :: (putN f t ns l).2) = true
      unfold okRs
      rw [e.1, putN_ok h e.2]
      rfl
  | [], l, e => by
    unfold putN
    show okRs b [t] = true
    unfold okRs
    rw [h]
    rfl
  | _ :: _, [], e => by
    unfold putN
    show okRs b [t] = true
    unfold okRs
    rw [h]
    rfl
/-- a field of the cell is set -/
def fldPut (Cs : List Str) (f : Str) (c : Cf) (x t : T) (S : St) : Option St := match x with
  | .ref n => match S[n]? with
    | some (.obj C ns l) => if C ∈ Cs ∧ ns.length < 1000 ∧ wrOk c n t = true then some (S.set n (.obj C (putN f t ns l).1 (putN f t ns l).2)) else none
    | _ => none
  | _ => none
theorem fldPut_ok {cf : Cf} {bs : Bx} {m : List Addr} {S S' : St} {σ : L2.St} {H : Hp} {ρ : Ro} {Cs : List Str} {f : Str} {x t : T} {vx v : V} (F : FAt K cf bs m S σ H ρ) (hC : m_fldC K Cs f) (rx : Rep K (mset bs m) H vx x) (rt : Rep K (mset bs m) H v t) (e : fldPut Cs f cf x t S = some S') :
    ∃ a C dx fs, vx = .ref a ∧ H a = some (.ins C dx fs) ∧ Cls K C ∧ NoAttr K C f ∧ fs.length < 1000 ∧ FAt K cf bs m S' σ (upd H a (.ins C dx (putF f v fs))) ρ ∧ Kp cf.fl m H m (upd H a (.ins C dx (putF f v fs))) := by
  unfold fldPut at e
  split at e
  · rename_i n
    cases rx with
    | @ref a _ hn =>
      have hn : m[n]? = some a := hn
      cases es : S[n]? with
      | none => rw [es] at e; cases e
      | some cc =>
        rw [es] at e
        have cl := F.cs.cell n cc a es hn
        cases cl with
        | @obj dx C fs l hh rs =>
          dsimp only at e
          split at e
          · rename_i q
            cases e
            obtain ⟨c1, c2⟩ := hC _ q.1
            obtain ⟨q1, q2⟩ := putF_rep (f := f) rt rs
            obtain ⟨L, k, p⟩ := Tm.Cs.put (fl := cf.fl) (o' := .ins (He.ga K C) dx (putF f v fs)) F.cs hn hh (fun _ z => by cases z) (fun _ _ z => by cases z)
            have kk := k (wrOk_fl q.2.2)
            refine ⟨a, _, dx, fs, rfl, hh, c1, c2, by simpa using q.2.1, F.kp (p _ ?_ fun b hb hlt => ?_) kk, kk⟩
            · rw [← q1]
              exact .obj upd_same (q2.lk L)
            · unfold okR
              refine putN_ok (wrOk_b q.2.2 F.bn b hb hlt) ?_
              have := F.cs.old b hb n _ hlt es
              unfold okR at this
              exact this
          · cases e
        | _ => cases e
  · cases e
def sFldC (Cs : List Str) (f : Str) (fo fv : Ev T) : Sv := fun c ρ S => ouE (fv c ρ S) ρ fun t S => ouE (fo c ρ S) ρ fun x S => match fldPut Cs f c x t S with
  | some S' => .nx ρ S'
  | none => .st
theorem s_fld {f : Str} {Cs : List Str} {pos' : Pos} {fv : Ev T} (hC : m_fldC K Cs f) (ho : PE X o (tX K W fa)) (hv : PE X e (tX K W fv)) (hs : swapsWith e (some (.Attribute o f pos')) pos.line X.env = pure false := by rfl) (hK : X.K = K := by rfl) : PS X (.Assign [.Attribute o f pos'] e pos) (tXS K W (sFldC Cs f fa fv)) := by
  subst hK
  refine PS.imp (ps_fld ho hv hs) fun D σ H h => ?_
  obtain ⟨cf, bs, m, S, ρ, F, h⟩ := h
  refine ⟨cf, bs, m, S, ρ, F, OuOk.ofE F h fun t v m1 H1 S1 _ F1 k1 R1 h1 => ⟨cf, bs, m1, S1, ρ, F1, OuOk.ofE F1 h1 fun x vx m2 H2 S2 _ F2 k2 R2 h2 => ?_⟩⟩
  cases e : fldPut Cs f cf x t S2 with
  | none => rw [e] at h2; exact h2.elim
  | some S' =>
    rw [e] at h2
    obtain ⟨a, C, dx, fs, rfl, hh, c1, c2, hl, F3, k3⟩ := fldPut_ok F2 hC R2 (Rep.lk k2.lk R1) e
    exact ⟨a, C, dx, fs, rfl, hh, c1, c2, hl, h2 σ m2 _ F3 k3⟩
/-- a field as a target -/
def gFldT (K : PySem.W.Frag) (to : TE) (f : Str) : TG := fun v σ H Q => to σ H fun x H1 => ∃ a C dx fs, x = .ref a ∧ H1 a = some (.ins C dx fs) ∧ Cls K C ∧ NoAttr K C f ∧ fs.length < 1000 ∧ Q σ (upd H1 a (.ins C dx (putF f v fs)))
theorem pg_fld {f : Str} {to : TE} (ho : PE X o to) : PG X (.Attribute o f pos) (gFldT X.K to f) := by
  refine ⟨fun pins s σ H v u Q I r h => ?_⟩
  rw [arm_assign_Attribute]
  refine wpAny_bind (wpAny_holding (thn (ho.run pins s σ H _ I h) fun ov s1 ⟨x, H1, I1, r1, a, C, dx, fs, ex, ea, c, n, l, q⟩ => ?_))
  subst ex
  obtain rfl : ov = Value.ref a := r1
  refine wpAny_bind (wpAny_standAt (wpAny_bind (wpAny_holding (setattr_ok I1 ea c n l r fun s3 I3 => ?_))))
  exact wpAny_release ⟨σ, _, I3, q⟩
def gFld (Cs : List Str) (f : Str) (i : Nat) : Tg := fun t c ρ S => match ρ[i]? with
  | some (some x) => match fldPut Cs f c x t S with
    | some S' => some (ρ, S')
    | none => none
  | _ => none
theorem g_fld (i : Nat) {y f : Str} {Cs : List Str} {np : Pos} (hC : m_fldC K Cs f) (hN : X.N[i]? = some y := by rfl) (hvis : Vis X.env.scope y := by first | exact Or.inl rfl | exact Or.inr (Or.inl rfl) | exact Or.inr (Or.inr rfl)) (hd : (y == ("__debug__" : Str)) = false := by decide)
    (hcd : (y == ("__classdict__" : Str)) = false := by decide) (hK : X.K = K := by rfl) : PG X (.Attribute (.Name y np) f pos) (tXG K [] (gFld Cs f i)) := by
  subst hK
  refine PG.imp (pg_fld (pe_var hN hvis hd hcd)) fun v σ H Q h => ?_
  obtain ⟨cf, bs, m, S, ρ, t, F, r, ρ', S', e, k⟩ := h
  unfold gFld at e
  split at e
  · rename_i x ex
    cases e2 : fldPut Cs f cf x t S with
    | none => rw [e2] at e; cases e
    | some S2 =>
      rw [e2] at e
      cases e
      obtain ⟨vx, hv, rx⟩ := F.sl _ _ ex
      obtain ⟨a, C, dx, fs, rfl, hh, c1, c2, hl, F3, k3⟩ := fldPut_ok F hC rx r e2
      exact ⟨_, hv, a, C, dx, fs, rfl, hh, c1, c2, hl, k σ _ F3 k3 ⟨rfl, fun _ _ => rfl⟩⟩
  · cases e
end
end Tm

/-! N6: operations on trees. -/
namespace Tm
open PySem PySem.Spec PyProof.Rows L2
/-! ### lists of plain trees -/
def toI : List T → Option (List Int)
  | [] => some []
  | .int i :: l => (toI l).map (i :: ·)
  | _ => none
def toS : List T → Option (List Str)
  | [] => some []
  | .str i :: l => (toS l).map (i :: ·)
  | _ => none
def toB : List T → Option (List Bool)
  | [] => some []
  | .bl i :: l => (toB l).map (i :: ·)
  | _ => none
theorem toI_eq : ∀ {l : List T} {ns : List Int}, toI l = some ns → l = ns.map T.int
  | [], ns, h => by cases h; rfl
  | .int i :: l, ns, h => by
    obtain ⟨m, hm, rfl⟩ := Option.map_eq_some_iff.mp h
    rw [toI_eq hm]
    rfl
theorem toS_eq : ∀ {l : List T} {ns : List Str}, toS l = some ns → l = ns.map T.str
  | [], ns, h => by cases h; rfl
  | .str i :: l, ns, h => by
    obtain ⟨m, hm, rfl⟩ := Option.map_eq_some_iff.mp h
    rw [toS_eq hm]
    rfl
theorem toB_eq : ∀ {l : List T} {ns : List Bool}, toB l = some ns → l = ns.map T.bl
  | [], ns, h => by cases h; rfl
  | .bl i :: l, ns, h => by
    obtain ⟨m, hm, rfl⟩ := Option.map_eq_some_iff.mp h
    rw [toB_eq hm]
    rfl
theorem toI_map (ns : List Int) : toI (ns.map T.int) = some ns := by
  induction ns with
  | nil => rfl
  | cons n ns ih => simp [toI, ih]
theorem toS_map (ns : List Str) : toS (ns.map T.str) = some ns := by
  induction ns with
  | nil => rfl
  | cons n ns ih => simp [toS, ih]
theorem toB_map (ns : List Bool) : toB (ns.map T.bl) = some ns := by
  induction ns with
  | nil => rfl
  | cons n ns ih => simp [toB, ih]
/-- plain values of trees -/
def flatT : T → Option V
  | .non => some .non
  | .bl b => some (.bl b)
  | .int i => some (.int i)
  | .str x => some (.str x)
  | _ => none
def flatTs : List T → Option (List V)
  | [] => some []
  | t :: l => match flatT t, flatTs l with
    | some v, some vs => some (v :: vs)
    | _, _ => none
section
variable {K : PySem.W.Frag} {A : ASet} {H : Hp}
theorem Rep.flat {v w : V} {t : T} (r : Rep K A H v t) (h : flatT t = some w) : v = w ∧ flatV w = true := by
  cases r <;> cases h <;> exact ⟨rfl, rfl⟩
theorem Reps.flat : ∀ {xs ws : List V} {l : List T}, Reps K A H xs l → flatTs l = some ws → xs = ws ∧ ws.all flatV = true
  | _, _, _, .nil, h => by cases h; exact ⟨rfl, rfl⟩
  | _, ws, _, .cons (x := x) (t := t) (xs := xs) (l := l) r rs, h => by
    unfold flatTs at h
    cases e1 : flatT t with
    | none => rw [e1] at h; cases h
    | some v =>
      cases e2 : flatTs l with
      | none => rw [e1, e2] at h; cases h
      | some vs =>
        rw [e1, e2] at h
        cases h
        obtain ⟨h1, h2⟩ := r.flat e1
        obtain ⟨h3, h4⟩ := Reps.flat rs e2
        subst h1 h3
        exact ⟨rfl, by simp [h2, h4]⟩
theorem Reps.of_bools : ∀ {xs : List V} {ns : List Bool}, Reps K A H xs (ns.map T.bl) → xs = ns.map V.bl
  | [], [], _ => rfl
  | [], _ :: _, r => nomatch r
  | _ :: _, [], r => nomatch r
  | x :: xs, n :: ns, r => by
    cases r with
    | cons h r =>
      cases h
      rw [Reps.of_bools r]
      rfl
end
/-! ### data that can be compared -/
mutual
def toD : T → Option PyData
  | .non => some .none
  | .bl b => some (.bool b)
  | .int i => some (.int i)
  | .str x => some (.str x)
  | .tup l => (toDs l).map .tuple
  | .wt l => (toDs l).map .tuple
  | .lst l => (toDs l).map .list
  | _ => none
def toDs : List T → Option (List PyData)
  | [] => some []
  | t :: l => match toD t, toDs l with
    | some d, some ds => some (d :: ds)
    | _, _ => none
end
section
variable {K : PySem.W.Frag} {A : ASet} {H : Hp}
mutual
theorem Rep.dp : ∀ {v : V} {t : T} {d : PyData}, Rep K A H v t → toD t = some d → Dp K H v d
  | _, _, _, .non, h => by simp [toD] at h; subst h; exact .non
  | _, _, _, .bl b, h => by simp [toD] at h; subst h; exact .bl b
  | _, _, _, .int i, h => by simp [toD] at h; subst h; exact .int i
  | _, _, _, .str x, h => by simp [toD] at h; subst h; exact .str x
  | _, _, _, .tup hh r, h => by
    simp only [toD] at h
    obtain ⟨ds, e, rfl⟩ := Option.map_eq_some_iff.mp h
    exact .tup (.inl (.inl hh)) (Reps.dp r e)
  | _, _, _, .wt hh r, h => by
    simp only [toD] at h
    obtain ⟨ds, e, rfl⟩ := Option.map_eq_some_iff.mp h
    exact .tup (hh _) (Reps.dp r e)
  | _, _, _, .lst na hh r, h => by
    simp only [toD] at h
    obtain ⟨ds, e, rfl⟩ := Option.map_eq_some_iff.mp h
    exact .lst (.inl (.inl hh)) (Reps.dp r e)
  | _, _, _, .dK .., h => by simp [toD] at h
  | _, _, _, .dT .., h => by simp [toD] at h
  | _, _, _, .obj .., h => by simp [toD] at h
  | _, _, _, .cls .., h => by simp [toD] at h
  | _, _, _, .scr .., h => by simp [toD] at h
  | _, _, _, .ref .., h => by simp [toD] at h
  | _, _, _, .fn .., h => by simp [toD] at h
  | _, _, _, .exc .., h => by simp [toD] at h
theorem Reps.dp : ∀ {xs : List V} {l : List T} {ds : List PyData}, Reps K A H xs l → toDs l = some ds → DpAll K H xs ds
  | _, _, _, .nil, h => by simp [toDs] at h; subst h; exact .nil
  | _, _, _, .cons (t := t) (l := l) r rs, h => by
    unfold toDs at h
    cases e1 : toD t with
    | none => rw [e1] at h; cases h
    | some v =>
      cases e2 : toDs l with
      | none => rw [e1, e2] at h; cases h
      | some vs =>
        rw [e1, e2] at h
        cases h
        exact .cons (Rep.dp r e1) (Reps.dp rs e2)
end
end
/-! ### ints and texts -/
def oI (g : Int → Int → Int) : T → T → Option T
  | .int i, .int j => some (.int (g i j))
  | _, _ => none
def oIB (g : Int → Int → Bool) : T → T → Option T
  | .int i, .int j => some (.bl (g i j))
  | _, _ => none
def oIc (c : Int → Int → Bool) (g : Int → Int → Int) : T → T → Option T
  | .int i, .int j => if c i j = true then some (.int (g i j)) else none
  | _, _ => none
theorem oI_ok {K : PySem.W.Frag} {g : Int → Int → Int} : OpT K (rI0 fun i j => .int (g i j)) (oI g) := fun A H x y tx ty tz Q d rx ry e k => by
  unfold oI at e
  split at e
  · cases e
    cases rx
    cases ry
    exact ⟨_, _, rfl, rfl, k _ _ (L2.Same.refl _) (.int _)⟩
  · cases e
theorem oIB_ok {K : PySem.W.Frag} {g : Int → Int → Bool} : OpT K (rI0 fun i j => .bl (g i j)) (oIB g) := fun A H x y tx ty tz Q d rx ry e k => by
  unfold oIB at e
  split at e
  · cases e
    cases rx
    cases ry
    exact ⟨_, _, rfl, rfl, k _ _ (L2.Same.refl _) (.bl _)⟩
  · cases e
theorem oIc_ok {K : PySem.W.Frag} {C : Int → Int → Prop} {c : Int → Int → Bool} {g : Int → Int → Int} (hc : ∀ i j, c i j = true → C i j) : OpT K (rI C fun i j => .int (g i j)) (oIc c g) := fun A H x y tx ty tz Q d rx ry e k => by
  unfold oIc at e
  split at e
  · split at e
    · rename_i h
      cases e
      cases rx
      cases ry
      exact ⟨_, _, rfl, rfl, hc _ _ h, k _ _ (L2.Same.refl _) (.int _)⟩
    · cases e
  · cases e
theorem OpT.or {K : PySem.W.Frag} {r r' : R2} {f g : T → T → Option T} (h : OpT K r f) (h' : OpT K r' g) : OpT K (fun x y H Q => r x y H Q ∨ r' x y H Q) (fun a b => (f a b).or (g a b)) := fun A H x y tx ty tz Q d rx ry e k => by
  dsimp only at e
  cases e1 : f tx ty with
  | some u =>
    rw [e1] at e
    cases e
    exact .inl (h A H x y tx ty _ Q d rx ry e1 k)
  | none =>
    rw [e1] at e
    exact .inr (h' A H x y tx ty tz Q d rx ry e k)
def oAddS : T → T → Option T
  | .str i, .str j => if i.length + j.length ≤ 1000000 then some (.str (i ++ j)) else none
  | _, _ => none
def oCatL : T → T → Option T
  | .lst l, .lst m => if l.length + m.length ≤ 1000000 then some (.lst (l ++ m)) else none
  | .tup l, .tup m => if l.length + m.length ≤ 1000000 then some (.tup (l ++ m)) else none
  | _, _ => none
section
variable {X : Cx} {K : PySem.W.Frag}
theorem oAddS_ok : OpT K (fun x y H Q => ∃ i j, x = .str i ∧ y = .str j ∧ i.length + j.length ≤ sizeLine ∧ Q (.str (i ++ j)) H) oAddS := fun A H x y tx ty tz Q d rx ry e k => by
  unfold oAddS at e
  split at e
  · split at e
    · rename_i h
      cases e
      cases rx
      cases ry
      exact ⟨_, _, rfl, rfl, big_le h, k _ _ (L2.Same.refl _) (.str _)⟩
    · cases e
  · cases e
theorem oCatL_ok : OpT K (fun x y H Q => rCat x y H Q ∨ rCatA K x y H Q) oCatL := fun A H x y tx ty tz Q d rx ry e k => by
  unfold oCatL at e
  split at e
  · split at e
    · rename_i h
      cases e
      cases rx with
      | lst na hx rsx =>
        cases ry with
        | lst nb hy rsy =>
          refine .inl ⟨_, _, _, _, rfl, rfl, hx, hy, big_le (by rw [rsx.length, rsy.length]; exact h), fun p hp => ?_⟩
          exact k _ _ (same_new hp) (.lst (d.new hp) upd_same ((rsx.append rsy).same (same_new hp)))
    · cases e
  · split at e
    · rename_i h
      cases e
      cases rx with
      | tup hx rsx =>
        cases ry with
        | tup hy rsy =>
          refine .inr ⟨_, _, _, _, rfl, rfl, .inl (.inl hx), .inl (.inl hy), big_le (by rw [rsx.length, rsy.length]; exact h), fun q => ?_, fun _ q => ?_, fun _ _ p hp => ?_⟩
          · subst q
            cases rsx
            exact k _ _ (L2.Same.refl _) (.tup hy rsy)
          · subst q
            cases rsy
            rw [List.append_nil] at k
            exact k _ _ (L2.Same.refl _) (.tup hx rsx)
          · exact k _ _ (same_new hp) (.tup upd_same ((rsx.append rsy).same (same_new hp)))
    · cases e
  · cases e
def oAdd : T → T → Option T := fun a b => (oI (· + ·) a b).or ((oAddS a b).or (oCatL a b))
theorem q_add (hK : X.K = K := by rfl) : OpR X (binaryOp .Add) (fun x y H Q => rI0 (fun i j => .int (i + j)) x y H Q ∨ (∃ i j, x = .str i ∧ y = .str j ∧ i.length + j.length ≤ sizeLine ∧ Q (.str (i ++ j)) H) ∨ (rCat x y H Q ∨ rCatA K x y H Q)) := by subst hK; exact OpR.or op_add (OpR.or op_add_str (OpR.or op_cat op_catA))
theorem oAdd_ok : OpT K (fun x y H Q => rI0 (fun i j => .int (i + j)) x y H Q ∨ (∃ i j, x = .str i ∧ y = .str j ∧ i.length + j.length ≤ sizeLine ∧ Q (.str (i ++ j)) H) ∨ (rCat x y H Q ∨ rCatA K x y H Q)) oAdd := OpT.or oI_ok (OpT.or oAddS_ok oCatL_ok)
def cMul (i j : Int) : Bool := decide (-(2 ^ 64) < i ∧ i < 2 ^ 64) || decide (-(2 ^ 64) < j ∧ j < 2 ^ 64)
def oSub : T → T → Option T := oI (· - ·)
def oMod : T → T → Option T := oIc (fun _ j => decide (0 < j)) (· % ·)
theorem oMod_ok : OpT K (rI (fun _ j => 0 < j) fun i j => .int (i % j)) oMod := oIc_ok fun _ _ h => of_decide_eq_true h
def oLt : T → T → Option T := oIB fun i j => decide (i < j)
def oLe : T → T → Option T := oIB fun i j => decide (i ≤ j)
def oGt : T → T → Option T := oIB fun i j => decide (j < i)
def oGe : T → T → Option T := oIB fun i j => decide (j ≤ i)
/-! ### == -/
/-- scalars -/
def sclT : T → T → Option Bool
  | .non, .non => some true
  | .non, .int _ => some false
  | .int _, .non => some false
  | .non, .bl _ => some false
  | .bl _, .non => some false
  | .non, .str _ => some false
  | .str _, .non => some false
  | .int i, .int j => some (decide (i = j))
  | .bl i, .bl j => some (decide (i = j))
  | .str i, .str j => some (decide (i = j))
  | _, _ => none
def oEqS : T → T → Option T := fun a b => (sclT a b).map T.bl
def oNeS : T → T → Option T := fun a b => (sclT a b).map fun c => T.bl (!c)
theorem sclT_ok {A : ASet} {H : Hp} {x y : V} {tx ty : T} {b : Bool} (rx : Rep K A H x tx) (ry : Rep K A H y ty) (e : sclT tx ty = some b) : scal x y = true ∧ decide (x = y) = b := by
  unfold sclT at e
  split at e <;> cases e <;> cases rx <;> cases ry <;> refine ⟨rfl, ?_⟩ <;> simp
theorem oEqS_ok : OpT K rEq oEqS := fun A H x y tx ty tz Q d rx ry e k => by
  obtain ⟨b, hb, rfl⟩ := Option.map_eq_some_iff.mp e
  obtain ⟨h1, h2⟩ := sclT_ok rx ry hb
  exact ⟨h1, by rw [h2]; exact k _ _ (L2.Same.refl _) (.bl _)⟩
theorem oNeS_ok : OpT K rNe oNeS := fun A H x y tx ty tz Q d rx ry e k => by
  obtain ⟨b, hb, rfl⟩ := Option.map_eq_some_iff.mp e
  obtain ⟨h1, h2⟩ := sclT_ok rx ry hb
  exact ⟨h1, by rw [h2]; exact k _ _ (L2.Same.refl _) (.bl _)⟩
/-- data -/
def eqD (a b : T) : Option Bool := match toD a, toD b with
  | some d, some e => if SeqAt.shaped d = true ∧ SeqAt.shaped e = true then some (PyData.eqv d e) else none
  | _, _ => none
def oEqD : T → T → Option T := fun a b => (eqD a b).map T.bl
def oNeD : T → T → Option T := fun a b => (eqD a b).map fun c => T.bl (!c)
theorem eqD_ok {A : ASet} {H : Hp} {x y : V} {tx ty : T} {b : Bool} (rx : Rep K A H x tx) (ry : Rep K A H y ty) (e : eqD tx ty = some b) : ∃ d e, Dp K H x d ∧ Dp K H y e ∧ SeqAt.shaped d = true ∧ SeqAt.shaped e = true ∧ PyData.eqv d e = b := by
  unfold eqD at e
  cases e1 : toD tx with
  | none => rw [e1] at e; cases e
  | some d =>
    cases e2 : toD ty with
    | none => rw [e1, e2] at e; cases e
    | some d' =>
      rw [e1, e2] at e
      dsimp only at e
      split at e
      · rename_i h
        exact ⟨d, d', rx.dp e1, ry.dp e2, h.1, h.2, Option.some.inj e⟩
      · cases e
theorem oEqD_ok : OpT K (rEqD K) oEqD := fun A H x y tx ty tz Q d rx ry e k => by
  obtain ⟨b, hb, rfl⟩ := Option.map_eq_some_iff.mp e
  obtain ⟨d1, d2, h1, h2, h3, h4, h5⟩ := eqD_ok rx ry hb
  exact ⟨d1, d2, h1, h2, h3, h4, by rw [h5]; exact k _ _ (L2.Same.refl _) (.bl _)⟩
theorem oNeD_ok : OpT K (rNeD K) oNeD := fun A H x y tx ty tz Q d rx ry e k => by
  obtain ⟨b, hb, rfl⟩ := Option.map_eq_some_iff.mp e
  obtain ⟨d1, d2, h1, h2, h3, h4, h5⟩ := eqD_ok rx ry hb
  exact ⟨d1, d2, h1, h2, h3, h4, by rw [h5]; exact k _ _ (L2.Same.refl _) (.bl _)⟩
def oEq : T → T → Option T := fun a b => (oEqS a b).or (oEqD a b)
def oNe : T → T → Option T := fun a b => (oNeS a b).or (oNeD a b)
theorem q_eq (hu : X.A.units + 64 < cLine) (hK : X.K = K := by rfl) : OpR X (compareOp .Eq) (fun x y H Q => rEq x y H Q ∨ rEqD K x y H Q) := by subst hK; exact OpR.or op_eq (op_eqD hu)
theorem q_ne (hu : X.A.units + 64 < cLine) (hK : X.K = K := by rfl) : OpR X (compareOp .NotEq) (fun x y H Q => rNe x y H Q ∨ rNeD K x y H Q) := by subst hK; exact OpR.or op_ne (op_neD hu)
theorem oEq_ok : OpT K (fun x y H Q => rEq x y H Q ∨ rEqD K x y H Q) oEq := OpT.or oEqS_ok oEqD_ok
theorem oNe_ok : OpT K (fun x y H Q => rNe x y H Q ∨ rNeD K x y H Q) oNe := OpT.or oNeS_ok oNeD_ok
/-! ### is None -/
def isNonT : T → Bool
  | .non => true
  | _ => false
def oIsN : T → T → Option T
  | a, .non => some (.bl (isNonT a))
  | _, _ => none
def oNotN : T → T → Option T
  | a, .non => some (.bl (!isNonT a))
  | _, _ => none
theorem isNon_ok {A : ASet} {H : Hp} {x : V} {tx : T} (rx : Rep K A H x tx) : decide (x = .non) = isNonT tx := by
  cases rx <;> rfl
theorem oIsN_ok : OpT K (fun x y H Q => y = .non ∧ Q (.bl (decide (x = .non))) H) oIsN := fun A H x y tx ty tz Q d rx ry e k => by
  unfold oIsN at e
  split at e
  · cases e
    cases ry
    exact ⟨rfl, by rw [isNon_ok rx]; exact k _ _ (L2.Same.refl _) (.bl _)⟩
  · cases e
theorem oNotN_ok : OpT K (fun x y H Q => y = .non ∧ Q (.bl (!decide (x = .non))) H) oNotN := fun A H x y tx ty tz Q d rx ry e k => by
  unfold oNotN at e
  split at e
  · cases e
    cases ry
    exact ⟨rfl, by rw [isNon_ok rx]; exact k _ _ (L2.Same.refl _) (.bl _)⟩
  · cases e
/-! ### in -/
def seqT : T → Option (List T)
  | .lst l => some l
  | .tup l => some l
  | .wt l => some l
  | .scr ns => some (ns.map T.int)
  | _ => none
theorem Rep.sq {A : ASet} {H : Hp} {y : V} {t : T} {l : List T} (r : Rep K A H y t) (e : seqT t = some l) : ∃ p xs, y = .ref p ∧ (SqL K H p xs ∨ SqT K H p xs) ∧ Reps K A H xs l := by
  cases r <;> cases e
  · rename_i h r
    exact ⟨_, _, rfl, .inr (.inl (.inl h)), r⟩
  · rename_i h r
    exact ⟨_, _, rfl, .inr (h _), r⟩
  · rename_i h r
    exact ⟨_, _, rfl, .inl (.inl (.inl h)), r⟩
  · rename_i h
    exact ⟨_, _, rfl, .inl h.sq, Reps.ints _⟩
def inT (a b : T) : Option Bool := match flatT a, (seqT b).bind flatTs with
  | some v, some ws => some (inV v ws)
  | _, _ => none
def oInF : T → T → Option T := fun a b => (inT a b).map T.bl
def oNotInF : T → T → Option T := fun a b => (inT a b).map fun c => T.bl (!c)
theorem inT_ok {A : ASet} {H : Hp} {x y : V} {tx ty : T} {b : Bool} (rx : Rep K A H x tx) (ry : Rep K A H y ty) (e : inT tx ty = some b) : ∃ p xs, y = .ref p ∧ (SqL K H p xs ∨ SqT K H p xs) ∧ flatV x = true ∧ xs.all flatV = true ∧ inV x xs = b := by
  unfold inT at e
  cases e1 : flatT tx with
  | none => rw [e1] at e; cases e
  | some v =>
    cases e2 : seqT ty with
    | none => rw [e1, e2] at e; cases e
    | some l =>
      cases e3 : flatTs l with
      | none => rw [e1, e2, Option.bind_some, e3] at e; cases e
      | some ws =>
        rw [e1, e2, Option.bind_some, e3] at e
        obtain ⟨p, xs, h1, h2, h3⟩ := ry.sq e2
        obtain ⟨q1, q2⟩ := rx.flat e1
        obtain ⟨q3, q4⟩ := h3.flat e3
        subst q1 q3
        exact ⟨p, xs, h1, h2, q2, q4, Option.some.inj e⟩
theorem oInF_ok : OpT K (rIn K false) oInF := fun A H x y tx ty tz Q d rx ry e k => by
  obtain ⟨b, hb, rfl⟩ := Option.map_eq_some_iff.mp e
  obtain ⟨p, xs, h1, h2, h3, h4, h5⟩ := inT_ok rx ry hb
  exact ⟨p, xs, h1, h2, h3, h4, by rw [h5]; exact k _ _ (L2.Same.refl _) (.bl _)⟩
theorem oNotInF_ok : OpT K (rIn K true) oNotInF := fun A H x y tx ty tz Q d rx ry e k => by
  obtain ⟨b, hb, rfl⟩ := Option.map_eq_some_iff.mp e
  obtain ⟨p, xs, h1, h2, h3, h4, h5⟩ := inT_ok rx ry hb
  exact ⟨p, xs, h1, h2, h3, h4, by rw [h5]; exact k _ _ (L2.Same.refl _) (.bl _)⟩
/-- a sign in a text -/
def oInC : T → T → Option T
  | .str a, .str z => match a.cps.toList with
    | [c] => some (.bl (decide (c ∈ z.cps.toList)))
    | _ => none
  | _, _ => none
theorem oInC_ok : OpT K (fun x y H Q => ∃ (c : Nat) (z : Str), x = .str ⟨#[c]⟩ ∧ y = .str z ∧ Q (.bl (decide (c ∈ z.cps.toList))) H) oInC := fun A H x y tx ty tz Q d rx ry e k => by
  unfold oInC at e
  split at e
  · rename_i a z
    split at e
    · rename_i c hc
      cases e
      cases rx
      cases ry
      have ea : a = ⟨#[c]⟩ := by
        obtain ⟨cps⟩ := a
        have : cps = #[c] := by
          apply Array.ext'
          exact hc
        rw [this]
      exact ⟨c, z, by rw [ea], rfl, k _ _ (L2.Same.refl _) (.bl _)⟩
    · cases e
  · cases e
def oIn : T → T → Option T := fun a b => (oInF a b).or (oInC a b)
def oNotInC (a b : T) : Option T := match oInC a b with
  | some (.bl c) => some (.bl (!c))
  | _ => none
theorem oNotInC_ok : OpT K (fun x y H Q => ∃ (c : Nat) (z : Str), x = .str ⟨#[c]⟩ ∧ y = .str z ∧ Q (.bl (!decide (c ∈ z.cps.toList))) H) oNotInC := fun A H x y tx ty tz Q d rx ry e k => by
  unfold oNotInC at e
  split at e
  · rename_i b eb
    cases e
    unfold oInC at eb
    split at eb
    · rename_i a z
      split at eb
      · rename_i c hc
        cases eb
        cases rx
        cases ry
        have ea : a = ⟨#[c]⟩ := by
          obtain ⟨cps⟩ := a
          have : cps = #[c] := by
            apply Array.ext'
            exact hc
          rw [this]
        exact ⟨c, z, by rw [ea], rfl, k _ _ (L2.Same.refl _) (.bl _)⟩
      · cases eb
    · cases eb
  · cases e
def oNotIn : T → T → Option T := fun a b => (oNotInF a b).or (oNotInC a b)
theorem q_notin (hK : X.K = K := by rfl) : OpR X (compareOp .NotIn) (fun x y H Q => rIn K true x y H Q ∨ ∃ (c : Nat) (z : Str), x = .str ⟨#[c]⟩ ∧ y = .str z ∧ Q (.bl (!decide (c ∈ z.cps.toList))) H) := by subst hK; exact OpR.or op_notIn_seq op_notIn_sign
theorem oNotIn_ok : OpT K (fun x y H Q => rIn K true x y H Q ∨ ∃ (c : Nat) (z : Str), x = .str ⟨#[c]⟩ ∧ y = .str z ∧ Q (.bl (!decide (c ∈ z.cps.toList))) H) oNotIn := OpT.or oNotInF_ok oNotInC_ok
theorem q_in (hK : X.K = K := by rfl) : OpR X (compareOp .In) (fun x y H Q => rIn K false x y H Q ∨ ∃ (c : Nat) (z : Str), x = .str ⟨#[c]⟩ ∧ y = .str z ∧ Q (.bl (decide (c ∈ z.cps.toList))) H) := by subst hK; exact OpR.or op_in_seq op_in_sign
theorem oIn_ok : OpT K (fun x y H Q => rIn K false x y H Q ∨ ∃ (c : Nat) (z : Str), x = .str ⟨#[c]⟩ ∧ y = .str z ∧ Q (.bl (decide (c ∈ z.cps.toList))) H) oIn := OpT.or oInF_ok oInC_ok
/-! ### o[i] -/
def oIx : T → T → Option T
  | .str z, .int i => if z.length ≤ 1000000 then (atI z.cps.toList i).map fun c => T.str ⟨#[c]⟩ else none
  | .lst l, .int i => atI l i
  | .tup l, .int i => atI l i
  | .wt l, .int i => atI l i
  | .scr ns, .int i => atI (ns.map T.int) i
  | _, _ => none
theorem Reps.atI {A : ASet} {H : Hp} {xs : List V} {l : List T} {i : Int} {t : T} (r : Reps K A H xs l) (h : L2.atI l i = some t) : ∃ x, L2.atI xs i = some x ∧ Rep K A H x t := by
  unfold L2.atI at h ⊢
  rw [r.length]
  cases e : ixN l.length i with
  | none => rw [e] at h; cases h
  | some j =>
    rw [e] at h
    exact r.get h
theorem oIx_ok : OpT K (rIx K) oIx := fun A H x y tx ty tz Q d rx ry e k => by
  unfold oIx at e
  split at e
  · split at e
    · rename_i h
      obtain ⟨c, hc, rfl⟩ := Option.map_eq_some_iff.mp e
      cases rx
      cases ry
      exact .inr (.inr ⟨_, _, c, rfl, rfl, big_le h, hc, k _ _ (L2.Same.refl _) (.str _)⟩)
    · cases e
  · cases rx with
    | lst na h rs =>
      cases ry
      obtain ⟨v, hv, rv⟩ := rs.atI e
      exact .inl ⟨_, _, _, v, rfl, rfl, .inl (.inl h), hv, k _ _ (L2.Same.refl _) rv⟩
  · cases rx with
    | tup h rs =>
      cases ry
      obtain ⟨v, hv, rv⟩ := rs.atI e
      exact .inr (.inl ⟨_, _, _, v, rfl, rfl, .inl (.inl h), hv, k _ _ (L2.Same.refl _) rv⟩)
  · cases rx with
    | wt h rs =>
      cases ry
      obtain ⟨v, hv, rv⟩ := rs.atI e
      exact .inr (.inl ⟨_, _, _, v, rfl, rfl, h _, hv, k _ _ (L2.Same.refl _) rv⟩)
  · cases rx with
    | scr h =>
      cases ry
      obtain ⟨v, hv, rv⟩ := (Reps.ints _ : Reps K A H _ _).atI e
      exact .inl ⟨_, _, _, v, rfl, rfl, h.sq, hv, k _ _ (L2.Same.refl _) rv⟩
  · cases e
/-! ### builtins -/
def bLen : List T → Option T
  | [.str z] => if z.length ≤ 1000000 then some (.int z.length) else none
  | [.lst l] => some (.int l.length)
  | [.tup l] => some (.int l.length)
  | [.wt l] => some (.int l.length)
  | [.scr ns] => some (.int ns.length)
  | _ => none
theorem bLen_ok : CallT K (rLn K) bLen := fun A H xs ts tz Q d rs e k => by
  unfold bLen at e
  split at e
  · split at e
    · rename_i h
      cases e
      cases rs with
      | cons r rs =>
        cases rs
        cases r
        exact ⟨_, _, rfl, ⟨big_le h, rfl⟩, k _ _ (L2.Same.refl _) (.int _)⟩
    · cases e
  · cases e
    cases rs with
    | cons r rs =>
      cases rs
      cases r with
      | lst na h r => exact ⟨_, _, rfl, .inl ⟨_, .inl (.inl h), rfl⟩, by rw [r.length]; exact k _ _ (L2.Same.refl _) (.int _)⟩
  · cases e
    cases rs with
    | cons r rs =>
      cases rs
      cases r with
      | tup h r => exact ⟨_, _, rfl, .inr ⟨_, .inl (.inl h), rfl⟩, by rw [r.length]; exact k _ _ (L2.Same.refl _) (.int _)⟩
  · cases e
    cases rs with
    | cons r rs =>
      cases rs
      cases r with
      | wt h r => exact ⟨_, _, rfl, .inr ⟨_, h _, rfl⟩, by rw [r.length]; exact k _ _ (L2.Same.refl _) (.int _)⟩
  · cases e
    cases rs with
    | cons r rs =>
      cases rs
      cases r with
      | scr h => exact ⟨_, _, rfl, .inl ⟨_, h.sq, rfl⟩, by rw [List.length_map]; exact k _ _ (L2.Same.refl _) (.int _)⟩
  · cases e
def bInt : List T → Option T
  | [.int i] => some (.int i)
  | [.bl b] => some (.int (if b then 1 else 0))
  | [.str a] => match PySem.intText? a with
    | some n => if a.length ≤ 640 then some (.int n) else none
    | none => none
  | _ => none
def rIntA : List V → Hp → VK → Prop := fun xs H Q => ((∃ i, xs = [.int i] ∧ Q (.int i) H) ∨ ∃ k, xs = [.bl k] ∧ Q (.int (if k then 1 else 0)) H) ∨ ∃ a n, xs = [.str a] ∧ PySem.intText? a = some n ∧ a.length ≤ 640 ∧ Q (.int n) H
theorem q_int : CallR X (.type "int") rIntA := CallR.or call_int1 call_int_str
theorem bInt_ok : CallT K rIntA bInt := fun A H xs ts tz Q d rs e k => by
  unfold bInt at e
  split at e
  · cases e
    cases rs with
    | cons r rs =>
      cases rs
      cases r
      exact .inl (.inl ⟨_, rfl, k _ _ (L2.Same.refl _) (.int _)⟩)
  · cases e
    cases rs with
    | cons r rs =>
      cases rs
      cases r
      exact .inl (.inr ⟨_, rfl, k _ _ (L2.Same.refl _) (.int _)⟩)
  · split at e
    · rename_i n hn
      split at e
      · rename_i hl
        cases e
        cases rs with
        | cons r rs =>
          cases rs
          cases r
          exact .inr ⟨_, n, rfl, hn, hl, k _ _ (L2.Same.refl _) (.int _)⟩
      · cases e
    · cases e
  · cases e
def bI2 (g : Int → Int → Int) : List T → Option T
  | [.int i, .int j] => some (.int (g i j))
  | _ => none
theorem bI2_ok {g : Int → Int → Int} : CallT K (fun xs H Q => ∃ i j, xs = [.int i, .int j] ∧ Q (.int (g i j)) H) (bI2 g) := fun A H xs ts tz Q d rs e k => by
  unfold bI2 at e
  split at e
  · cases e
    cases rs with
    | cons r rs =>
      cases rs with
      | cons r2 rs =>
        cases rs
        cases r
        cases r2
        exact ⟨_, _, rfl, k _ _ (L2.Same.refl _) (.int _)⟩
  · cases e
def bMax : List T → Option T := bI2 fun i j => if j > i then j else i
def bMin : List T → Option T := bI2 fun i j => if j < i then j else i
def bAbs : List T → Option T
  | [.int i] => some (.int (if i < 0 then -i else i))
  | _ => none
theorem bAbs_ok : CallT K (fun xs H Q => ∃ i, xs = [.int i] ∧ Q (.int (if i < 0 then -i else i)) H) bAbs := fun A H xs ts tz Q d rs e k => by
  unfold bAbs at e
  split at e
  · cases e
    cases rs with
    | cons r rs =>
      cases rs
      cases r
      exact ⟨_, rfl, k _ _ (L2.Same.refl _) (.int _)⟩
  · cases e
def bStr : List T → Option T
  | [.int i] => if i.natAbs.log2 < 1920 then some (.str (toString i)) else none
  | [.str a] => some (.str a)
  | _ => none
def rStrA : List V → Hp → VK → Prop := fun xs H Q => (∃ i, xs = [.int i] ∧ i.natAbs.log2 < 1920 ∧ Q (.str (toString i)) H) ∨ ∃ a, xs = [.str a] ∧ Q (.str a) H
theorem bStr_ok : CallT K rStrA bStr := fun A H xs ts tz Q d rs e k => by
  unfold bStr at e
  split at e
  · split at e
    · rename_i h
      cases e
      cases rs with
      | cons r rs =>
        cases rs
        cases r
        exact .inl ⟨_, rfl, h, k _ _ (L2.Same.refl _) (.str _)⟩
    · cases e
  · cases e
    cases rs with
    | cons r rs =>
      cases rs
      cases r
      exact .inr ⟨_, rfl, k _ _ (L2.Same.refl _) (.str _)⟩
  · cases e
def bList : List T → Option T
  | [t] => (seqT t).map T.lst
  | _ => none
theorem bList_ok : CallT K (rList K) bList := fun A H xs ts tz Q d rs e k => by
  unfold bList at e
  split at e
  · obtain ⟨l, hl, rfl⟩ := Option.map_eq_some_iff.mp e
    cases rs with
    | cons r rs =>
      cases rs
      obtain ⟨p, xs, rfl, h2, h3⟩ := r.sq hl
      exact ⟨p, xs, rfl, h2, fun q hq => k _ _ (same_new hq) (.lst (d.new hq) upd_same (h3.same (same_new hq)))⟩
  · cases e
def bTuple : List T → Option T
  | [.lst l] => some (.tup l)
  | [.tup l] => some (.tup l)
  | _ => none
theorem bTuple_ok : CallT K (rTuple K) bTuple := fun A H xs ts tz Q d rs e k => by
  unfold bTuple at e
  split at e
  · cases e
    cases rs with
    | cons r rs =>
      cases rs
      cases r with
      | lst na h r => exact ⟨_, _, rfl, .inl ⟨.inl (.inl h), fun q hq => k _ _ (same_new hq) (.tup upd_same (r.same (same_new hq)))⟩⟩
  · cases e
    cases rs with
    | cons r rs =>
      cases rs
      cases r with
      | tup h r => exact ⟨_, _, rfl, .inr ⟨.inl (.inl h), k _ _ (L2.Same.refl _) (.tup h r)⟩⟩
  · cases e
def bAll : List T → Option T
  | [.lst l] => (toB l).map fun bs => T.bl (bs.all id)
  | _ => none
def bAny : List T → Option T
  | [.lst l] => (toB l).map fun bs => T.bl (bs.any id)
  | _ => none
def bSum : List T → Option T
  | [.lst l] => (toI l).map fun ns => T.int ns.sum
  | _ => none
theorem bAll_ok : CallT K (rAll K) bAll := fun A H xs ts tz Q d rs e k => by
  unfold bAll at e
  split at e
  · obtain ⟨bs, hb, rfl⟩ := Option.map_eq_some_iff.mp e
    cases rs with
    | cons r rs =>
      cases rs
      cases r with
      | lst na h r =>
        rw [toB_eq hb] at r
        have := r.of_bools
        subst this
        exact ⟨_, bs, rfl, .inl (.inl h), k _ _ (L2.Same.refl _) (.bl _)⟩
  · cases e
theorem bAny_ok : CallT K (rAny K) bAny := fun A H xs ts tz Q d rs e k => by
  unfold bAny at e
  split at e
  · obtain ⟨bs, hb, rfl⟩ := Option.map_eq_some_iff.mp e
    cases rs with
    | cons r rs =>
      cases rs
      cases r with
      | lst na h r =>
        rw [toB_eq hb] at r
        have := r.of_bools
        subst this
        exact ⟨_, bs, rfl, .inl (.inl h), k _ _ (L2.Same.refl _) (.bl _)⟩
  · cases e
theorem bSum_ok : CallT K (rSum K) bSum := fun A H xs ts tz Q d rs e k => by
  unfold bSum at e
  split at e
  · obtain ⟨bs, hb, rfl⟩ := Option.map_eq_some_iff.mp e
    cases rs with
    | cons r rs =>
      cases rs
      cases r with
      | lst na h r =>
        rw [toI_eq hb] at r
        have := r.of_ints
        subst this
        exact ⟨_, bs, rfl, .inl (.inl h), k _ _ (L2.Same.refl _) (.int _)⟩
  · cases e
/-- sorted ints -/
def insI (a : Int) : List Int → List Int
  | [] => [a]
  | b :: l => if a ≤ b then a :: b :: l else b :: insI a l
def srtI : List Int → List Int
  | [] => []
  | a :: l => insI a (srtI l)
theorem insI_perm (a : Int) : ∀ l : List Int, (insI a l).Perm (a :: l)
  | [] => .refl _
  | b :: l => by
    unfold insI
    split
    · exact .refl _
    · exact ((insI_perm a l).cons b).trans (.swap a b l)
theorem insI_sorted {a : Int} : ∀ {l : List Int}, l.Pairwise (· ≤ ·) → (insI a l).Pairwise (· ≤ ·)
  | [], _ => List.pairwise_singleton _ _
  | b :: l, h => by
    obtain ⟨h1, h2⟩ := List.pairwise_cons.mp h
    unfold insI
    split
    · rename_i q
      exact List.pairwise_cons.mpr ⟨fun x hx => (List.mem_cons.mp hx).elim (fun z => z ▸ q) fun z => Int.le_trans q (h1 x z), h⟩
    · rename_i q
      exact List.pairwise_cons.mpr ⟨fun x hx => (List.mem_cons.mp ((insI_perm a l).mem_iff.mp hx)).elim (fun z => by rw [z]; omega) fun z => h1 x z, insI_sorted h2⟩
theorem srtI_perm : ∀ l : List Int, (srtI l).Perm l
  | [] => .refl _
  | a :: l => (insI_perm a _).trans ((srtI_perm l).cons a)
theorem srtI_sorted : ∀ l : List Int, (srtI l).Pairwise (· ≤ ·)
  | [] => .nil
  | a :: l => insI_sorted (srtI_sorted l)
theorem perm_sorted_eq {l m : List Int} (hp : l.Perm m) (hl : l.Pairwise (· ≤ ·)) (hm : m.Pairwise (· ≤ ·)) : l = m := hp.eq_of_pairwise (fun a b _ _ h1 h2 => Int.le_antisymm h1 h2) hl hm
theorem srtI_eq {ns m : List Int} (hp : m.Perm ns) (hm : m.Pairwise (· ≤ ·)) : m = srtI ns := perm_sorted_eq (hp.trans (srtI_perm ns).symm) hm (srtI_sorted ns)
def bSrtI : List T → Option T
  | [.lst l] => (toI l).map fun ns => T.lst ((srtI ns).map T.int)
  | _ => none
theorem bSrtI_ok : CallT K (rSortedI K) bSrtI := fun A H xs ts tz Q d rs e k => by
  unfold bSrtI at e
  split at e
  · obtain ⟨bs, hb, rfl⟩ := Option.map_eq_some_iff.mp e
    cases rs with
    | cons r rs =>
      cases rs
      cases r with
      | lst na h r =>
        rw [toI_eq hb] at r
        have := r.of_ints
        subst this
        refine ⟨_, bs, rfl, .inl (.inl h), fun ns' p h1 h2 hp => ?_⟩
        rw [srtI_eq h1 h2]
        exact k _ _ (same_new hp) (.lst (d.new hp) upd_same (Reps.ints _))
  · cases e
end
end Tm

/-! N7: comprehensions. -/
namespace Tm
open PySem PySem.Spec PyProof.Rows L2
def wipeS : List Nat → Ro → Ro
  | [], ρ => ρ
  | v :: vs, ρ => (wipeS vs ρ).set v none
/-- the turns of a comprehension -/
def lcL (g : Tg) (tt : Ev Bool) (te : Ev T) : List T → List T → Cf → Ro → St → Rs (List T)
  | [], acc, _, _, S => .ok acc S
  | x :: l, acc, c, ρ, S => match g x c ρ S with
    | some (ρ1, S1) => match tt c ρ1 S1 with
      | .ok true S2 => match te c ρ1 S2 with
        | .ok y S3 => if acc.length < 1000000 then lcL g tt te l (acc ++ [y]) c ρ S3 else .st
        | _ => .st
      | .ok false S2 => lcL g tt te l acc c ρ S2
      | _ => .st
    | none => .st
def lcC (g : Tg) (tt : Ev Bool) (te : Ev T) (n : Nat) : Nat → Nat → List T → Cf → Ro → St → Rs (List T)
  | 0, _, _, _, _, _ => .st
  | k + 1, i, acc, c, ρ, S => match S[n]? with
    | some (.lst l) => match l[i]? with
      | none => .ok acc S
      | some x => match g x c ρ S with
        | some (ρ1, S1) => match tt c ρ1 S1 with
          | .ok true S2 => match te c ρ1 S2 with
            | .ok y S3 => if acc.length < 1000000 then lcC g tt te n k (i + 1) (acc ++ [y]) c ρ S3 else .st
            | _ => .st
          | .ok false S2 => lcC g tt te n k (i + 1) acc c ρ S2
          | _ => .st
        | none => .st
    | _ => .st
def lcS (g : Tg) (tt : Ev Bool) (te : Ev T) : Src → List T → Cf → Ro → St → Rs (List T)
  | .fix l => lcL g tt te l
  | .cell n => lcC g tt te n whLine 0
  | .en _ => fun _ _ _ _ => .st
def mLc (vs : List Nat) (fi : Ev Src) (g : Tg) (tt : Ev Bool) (te : Ev T) : Ev T := fi.bind fun src c ρ S => match lcS g tt te src [] c (wipeS vs ρ) S with
  | .ok acc S' => .ok (.lst acc) S'
  | _ => .st
def mYes : Ev Bool := fun _ _ S => .ok true S
/-- two clauses -/
def lcL2 (vs1 : List Nat) (g : Tg) (tt : Ev Bool) (fi1 : Ev Src) (g1 : Tg) (tt1 : Ev Bool) (te : Ev T) : List T → List T → Cf → Ro → St → Rs (List T)
  | [], acc, _, _, S => .ok acc S
  | x :: l, acc, c, ρ, S => match g x c ρ S with
    | some (ρ1, S1) => match tt c ρ1 S1 with
      | .ok true S2 => match fi1 c ρ1 S2 with
        | .ok src S3 => match lcS g1 tt1 te src acc c (wipeS vs1 ρ1) S3 with
          | .ok acc' S4 => lcL2 vs1 g tt fi1 g1 tt1 te l acc' c ρ S4
          | _ => .st
        | _ => .st
      | .ok false S2 => lcL2 vs1 g tt fi1 g1 tt1 te l acc c ρ S2
      | _ => .st
    | none => .st
def mLc2 (vs vs1 : List Nat) (fi : Ev Src) (g : Tg) (tt : Ev Bool) (fi1 : Ev Src) (g1 : Tg) (tt1 : Ev Bool) (te : Ev T) : Ev T := fi.bind fun src c ρ S => match src with
  | .fix l => match lcL2 vs1 g tt fi1 g1 tt1 te l [] c (wipeS vs ρ) S with
    | .ok acc S' => .ok (.lst acc) S'
    | _ => .st
  | _ => .st
theorem wipe_out {σ : L2.St} {j : Nat} : ∀ {vs : List Nat}, j ∉ vs → (L2.wipe σ vs)[j]? = σ[j]?
  | [], _ => rfl
  | v :: vs, h => by
    unfold L2.wipe
    rw [List.getElem?_set_ne (fun z => h (by rw [z]; exact List.mem_cons_self ..))]
    exact wipe_out fun z => h (List.mem_cons_of_mem _ z)
theorem wipe_in {σ : L2.St} {j : Nat} : ∀ {vs : List Nat}, j ∈ vs → j < σ.length → (L2.wipe σ vs)[j]? = some none
  | [], h, _ => nomatch h
  | v :: vs, h, hl => by
    unfold L2.wipe
    by_cases q : v = j
    · subst q
      rw [List.getElem?_set_self (by rw [wipe_length]; exact hl)]
    · rw [List.getElem?_set_ne q]
      exact wipe_in ((List.mem_cons.mp h).resolve_left fun z => q z.symm) hl
theorem wipe_wipe (σ : L2.St) (vs : List Nat) : L2.wipe (L2.wipe σ vs) vs = L2.wipe σ vs := by
  apply List.ext_getElem?
  intro j
  by_cases hj : j ∈ vs
  · by_cases hl : j < σ.length
    · rw [wipe_in hj (by rw [wipe_length]; exact hl), wipe_in hj hl]
    · rw [List.getElem?_eq_none (by rw [wipe_length, wipe_length]; omega), List.getElem?_eq_none (by rw [wipe_length]; omega)]
  · rw [wipe_out hj]
theorem wipe_oth {σ σ' : L2.St} {vs : List Nat} (o : Oth vs σ σ') : L2.wipe σ' vs = L2.wipe σ vs := by
  apply List.ext_getElem?
  intro j
  by_cases hj : j ∈ vs
  · by_cases hl : j < σ.length
    · rw [wipe_in hj (by rw [o.1]; exact hl), wipe_in hj hl]
    · rw [List.getElem?_eq_none (by rw [wipe_length, o.1]; omega), List.getElem?_eq_none (by rw [wipe_length]; omega)]
  · rw [wipe_out hj, wipe_out hj]
    exact o.2 j hj
section
variable {K : PySem.W.Frag} {c : Cf} {bs : Bx} {m : List Addr} {S : St} {σ : L2.St} {H H' : Hp} {ρ : Ro}
theorem FAt.unset (F : FAt K c bs m S σ H ρ) (i : Nat) : FAt K c bs m S (σ.set i none) H (ρ.set i none) := by
  refine ⟨F.cs, F.bn, by rw [List.length_set, List.length_set]; exact F.len, fun j u h => ?_⟩
  by_cases q : j = i
  · subst q
    have hl : j < ρ.length := by
      have := (List.getElem?_eq_some_iff.mp h).1
      rwa [List.length_set] at this
    rw [List.getElem?_set_self hl] at h
    cases h
  · rw [List.getElem?_set_ne (fun z => q z.symm)] at h ⊢
    exact F.sl j u h
theorem FAt.wipe (F : FAt K c bs m S σ H ρ) : ∀ vs : List Nat, FAt K c bs m S (L2.wipe σ vs) H (wipeS vs ρ)
  | [] => F
  | v :: vs => (FAt.wipe F vs).unset v
/-- an object is hidden -/
def Bx.hide (bs : Bx) (D : Addr) : Bx := ⟨bs.b, D :: bs.h⟩
theorem lk_hide {D : Addr} (hD : H D = none) (s : Same H H') : Lk (mset bs m) H (mset (bs.hide D) m) H' := ⟨fun _ _ h => h, fun b o nb e => ⟨s _ _ e, fun z => by
  rcases z with z | z
  · exact nb (.inl z)
  · rcases List.mem_cons.mp z with z | z
    · rw [z, hD] at e
      cases e
    · exact nb (.inr z)⟩, fun b xs e => s _ _ e, fun b o u e => s _ _ e⟩
theorem Cs.hide {D : Addr} (cs : Cs K bs m S H) (hD : H D = none) (s : Same H H') {o : HO} (hd : H' D = some o) : Cs K (bs.hide D) m S H' := by
  have nD : D ∉ m := fun z => by
    obtain ⟨o, e⟩ := cs.dom D z
    rw [hD] at e
    cases e
  refine ⟨cs.len, cs.nd, cs.bl, fun a ha => ?_, fun n t a hn ha => (cs.cell n t a hn ha).lk (lk_hide hD s) fun o e => s _ _ e, cs.old⟩
  rcases List.mem_cons.mp ha with rfl | ha
  · exact ⟨nD, o, hd⟩
  · obtain ⟨h1, o, h2⟩ := cs.hid a ha
    exact ⟨h1, o, s _ _ h2⟩
theorem lk_show {D : Addr} : Lk (mset (bs.hide D) m) H (mset bs m) H := ⟨fun _ _ h => h, fun b o nb e => ⟨e, fun z => nb (z.imp id (List.mem_cons_of_mem _))⟩, fun _ _ e => e, fun _ _ _ e => e⟩
theorem Cs.show {D : Addr} (cs : Cs K (bs.hide D) m S H) : Cs K bs m S H := ⟨cs.len, cs.nd, cs.bl, fun a ha => cs.hid a (List.mem_cons_of_mem _ ha), fun n t a hn ha => (cs.cell n t a hn ha).lk lk_show fun o e => e, cs.old⟩
theorem lk_wr {D : Addr} {o o' : HO} (hd : H D = some o) (nt : ∀ xs, o ≠ .tup xs) (nf : ∀ a b, o ≠ .frz a b) : Lk (mset (bs.hide D) m) H (mset (bs.hide D) m) (upd H D o') := ⟨fun _ _ h => h, fun b q nb e => ⟨by rw [upd_ne (fun z => nb (.inr (by rw [z]; exact List.mem_cons_self ..)))]; exact e, nb⟩, fun b xs e => by
    rw [upd_ne (fun z => by rw [z, hd] at e; exact nt _ (Option.some.inj e))]
    exact e, fun b x y e => by
    rw [upd_ne (fun z => by rw [z, hd] at e; exact nf _ _ (Option.some.inj e))]
    exact e⟩
theorem Cs.wr {D : Addr} {o o' : HO} (cs : Cs K (bs.hide D) m S H) (hd : H D = some o) (nt : ∀ xs, o ≠ .tup xs) (nf : ∀ a b, o ≠ .frz a b) : Cs K (bs.hide D) m S (upd H D o') := by
  refine ⟨cs.len, cs.nd, cs.bl, fun a ha => ⟨(cs.hid a ha).1, ?_⟩, fun n t a hn ha => (cs.cell n t a hn ha).lk (lk_wr hd nt nf) fun o2 e => ?_, cs.old⟩
  · by_cases q : a = D
    · exact ⟨o', by rw [q]; exact upd_same⟩
    · obtain ⟨o2, e⟩ := (cs.hid a ha).2
      exact ⟨o2, by rw [upd_ne q]; exact e⟩
  · rw [upd_ne]
    · exact e
    · intro z
      exact (cs.hid D (List.mem_cons_self ..)).1 (by rw [← z]; exact List.mem_of_getElem? ha)
/-- a hidden object is written: what lies between -/
theorem kp_wr {fl : Nat} {m1 : List Addr} {H1 : Hp} {D : Addr} {o o' : HO} (k : Kp fl m1 H1 m H) (h1 : H1 D = none) (hd : H D = some o) (nt : ∀ xs, o ≠ .tup xs) (nf : ∀ a b, o ≠ .frz a b) : Kp fl m1 H1 m (upd H D o') := by
  have ne : ∀ {b q}, H1 b = some q → b ≠ D := fun e z => by
    rw [z, h1] at e
    cases e
  refine ⟨k.pre, fun b q nb e => ?_, fun b xs e => ?_, fun b x y e => ?_, fun b q e => ?_⟩
  · rw [upd_ne (ne e)]
    exact k.all b q nb e
  · rw [upd_ne (ne e)]
    exact k.tup b xs e
  · rw [upd_ne (ne e)]
    exact k.frz b x y e
  · rw [upd_ne (ne e)]
    exact k.dom b q e
end
section
variable {X : Cx} {K : PySem.W.Frag} {W : WX} {fi : Ev Src} {g : Tg} {tt : Ev Bool} {te : Ev T} {vs : List Nat}
/-- one turn of a comprehension -/
theorem lcn_turn {cf : Cf} {bs : Bx} {m1 m' : List Addr} {S' : St} {σ : L2.St} {H1 H3 : Hp} {ρw : Ro} {D : Addr} {xs : List V} {acc : List T} {x : V} {t : T} {rest : List T → St → Rs (List T)} {accE : List T} {SE : St} {Nx : Hp → Prop}
    (F3 : FAt K cf (bs.hide D) m' S' (L2.wipe σ vs) H3 ρw) (k3 : Kp cf.fl m1 H1 m' H3) (hD : H1 D = none) (hx3 : H3 D = some (.lst xs)) (rs3 : Reps K (mset (bs.hide D) m') H3 xs acc) (r3 : Rep K (mset (bs.hide D) m') H3 x t)
    (e : (match g t cf ρw S' with | some (ρ1, S1) => (match tt cf ρ1 S1 with | .ok true S2 => (match te cf ρ1 S2 with | .ok y S3 => if acc.length < 1000000 then rest (acc ++ [y]) S3 else .st | _ => .st) | .ok false S2 => rest acc S2 | _ => .st) | none => .st) = .ok accE SE)
    (hN : ∀ m2 S2 H2 xs2 acc2, Lk (mset (bs.hide D) m') H3 (mset (bs.hide D) m2) H2 → FAt K cf (bs.hide D) m2 S2 (L2.wipe σ vs) H2 ρw → Kp cf.fl m1 H1 m2 H2 → H2 D = some (.lst xs2) → Reps K (mset (bs.hide D) m2) H2 xs2 acc2 → rest acc2 S2 = .ok accE SE → Nx H2) :
    tXG K vs g x (L2.wipe σ vs) H3 fun σ2 H2 => L2.wipe σ2 vs = L2.wipe σ vs ∧ tXT K W tt σ2 H2 fun b H3 => if b = true then tX K W te σ2 H3 fun y H4 => ∃ acc, H4 D = some (.lst acc) ∧ acc.length < sizeLine ∧ Nx (upd H4 D (.lst (acc ++ [y]))) else Nx H3 := by
  have nD : ∀ {m2 S2 H2}, Cs K (bs.hide D) m2 S2 H2 → D ∉ m2 := fun cs => (cs.hid D (List.mem_cons_self ..)).1
  cases e4 : g t cf ρw S' with
  | none => rw [e4] at e; cases e
  | some q =>
    obtain ⟨ρ4, S4⟩ := q
    rw [e4] at e
    dsimp only at e
    refine ⟨cf, bs.hide D, m', S', ρw, t, F3, r3, ρ4, S4, e4, fun σ4 H4 F4 k4 o4 => ⟨by rw [wipe_oth o4]; exact wipe_wipe σ vs, cf, bs.hide D, m', S4, ρ4, F4, ?_⟩⟩
    have hx4 : H4 D = some (.lst xs) := k4.all _ _ (fun z => nD F3.cs (List.mem_of_mem_drop z)) hx3
    have rs4 := rs3.lk k4.lk
    have k14 := k3.trans k4
    cases e5 : tt cf ρ4 S4 with
    | ex y S5 => rw [e5] at e; cases e
    | st => rw [e5] at e; cases e
    | ok b S5 =>
      rw [e5] at e
      intro v m5 H5 cs5 k5 R5
      cases R5
      have F5 := F4.kp cs5 k5
      have hx5 : H5 D = some (.lst xs) := k5.all _ _ (fun z => nD F4.cs (List.mem_of_mem_drop z)) hx4
      have rs5 := rs4.lk k5.lk
      have k15 := k14.trans k5
      have FW : ∀ {m2 S2 H2}, Cs K (bs.hide D) m2 S2 H2 → Kp cf.fl m' H3 m2 H2 → FAt K cf (bs.hide D) m2 S2 (L2.wipe σ vs) H2 ρw := fun cs k => F3.kp cs k
      cases b with
      | true =>
        dsimp only at e
        refine iteT ⟨cf, bs.hide D, m5, S5, ρ4, F5, ?_⟩
        cases e6 : te cf ρ4 S5 with
        | ex y S6 => rw [e6] at e; cases e
        | st => rw [e6] at e; cases e
        | ok y S6 =>
          rw [e6] at e
          dsimp only at e
          intro w m6 H6 cs6 k6 R6
          split at e
          · rename_i hlen
            have hx6 : H6 D = some (.lst xs) := k6.all _ _ (fun z => nD F5.cs (List.mem_of_mem_drop z)) hx5
            have rs6 := rs5.lk k6.lk
            have k16 := k15.trans k6
            have nt : ∀ ys, HO.lst xs ≠ .tup ys := fun _ z => by cases z
            have nf : ∀ a b, HO.lst xs ≠ .frz a b := fun _ _ z => by cases z
            have cs7 := cs6.wr (o' := .lst (xs ++ [w])) hx6 nt nf
            have L7 := lk_wr (bs := bs) (m := m6) (o' := .lst (xs ++ [w])) hx6 nt nf
            have F7 : FAt K cf (bs.hide D) m6 S6 (L2.wipe σ vs) (upd H6 D (.lst (xs ++ [w]))) ρw := by
              have F6 := FW cs6 ((k4.trans k5).trans k6)
              exact ⟨cs7, F6.bn, F6.len, fun i u h => by
                obtain ⟨v, ev, r⟩ := F6.sl i u h
                exact ⟨v, ev, r.lk L7⟩⟩
            refine ⟨xs, hx6, Nat.lt_of_lt_of_le (by rw [rs6.length]; exact hlen) (big_le (Nat.le_refl _)), hN m6 S6 _ (xs ++ [w]) (acc ++ [y]) ((((k4.trans k5).trans k6).lk).trans L7) F7 (kp_wr k16 hD hx6 nt nf) upd_same ?_ e⟩
            exact (rs6.append (.cons R6 .nil)).lk L7
          · cases e
      | false => exact iteF (hN m5 S5 H5 xs acc (k4.trans k5).lk (FW cs5 (k4.trans k5)) k15 hx5 rs5 e)
/-- all turns -/
theorem lc_all {cf : Cf} {bs : Bx} {m1 m0 : List Addr} {S0 : St} {σ : L2.St} {H1 H0 HI : Hp} {A0 : ASet} {ρw : Ro} {D : Addr} {xs0 : List V} {acc0 accE : List T} {SE : St} {J : It} {src : Src} {Q : Hp → Prop} (hD : H1 D = none)
    (R : ∀ m2 S2 H2, Lk A0 HI (mset (bs.hide D) m2) H2 → Cs K (bs.hide D) m2 S2 H2 → ∀ i, (∀ t, srcAt src S2 i = some (some t) → J.go i H2 ∧ ∀ x H3, J.yld i H2 x H3 → Same H2 H3 ∧ Rep K (mset (bs.hide D) m2) H3 x t) ∧ (srcAt src S2 i = some none → J.stop i H2))
    (F0 : FAt K cf (bs.hide D) m0 S0 (L2.wipe σ vs) H0 ρw) (k0 : Kp cf.fl m1 H1 m0 H0) (L0 : Lk A0 HI (mset (bs.hide D) m0) H0) (hx0 : H0 D = some (.lst xs0)) (rs0 : Reps K (mset (bs.hide D) m0) H0 xs0 acc0) (e : lcS g tt te src acc0 cf ρw S0 = .ok accE SE)
    (hQ : ∀ m2 H2 xs2, FAt K cf (bs.hide D) m2 SE (L2.wipe σ vs) H2 ρw → Kp cf.fl m1 H1 m2 H2 → Lk A0 HI (mset (bs.hide D) m2) H2 → H2 D = some (.lst xs2) → Reps K (mset (bs.hide D) m2) H2 xs2 accE → Q H2) :
    ∃ W' : Nat → Nat → Hp → Prop, (∃ k, W' 0 k H0) ∧ ∀ i k H, W' i k H → (J.stop i H ∧ Q H) ∨ (J.go i H ∧ ∃ Nx : Hp → Prop, (∀ H', Nx H' → ∃ k', k' < k ∧ W' (i + 1) k' H') ∧ ∀ x H', J.yld i H x H' → tXG K vs g x (L2.wipe σ vs) H' fun σ2 H2 => L2.wipe σ2 vs = L2.wipe σ vs ∧ tXT K W tt σ2 H2 fun b H3 => if b = true then tX K W te σ2 H3 fun y H4 => ∃ acc, H4 D = some (.lst acc) ∧ acc.length < sizeLine ∧ Nx (upd H4 D (.lst (acc ++ [y]))) else Nx H3) := by
  cases src with
  | fix l =>
    refine ⟨fun i k H' => k = l.length - i ∧ i ≤ l.length ∧ ∃ m' S' xs acc, FAt K cf (bs.hide D) m' S' (L2.wipe σ vs) H' ρw ∧ Kp cf.fl m1 H1 m' H' ∧ Lk A0 HI (mset (bs.hide D) m') H' ∧ H' D = some (.lst xs) ∧ Reps K (mset (bs.hide D) m') H' xs acc ∧ lcL g tt te (l.drop i) acc cf ρw S' = .ok accE SE,
      ⟨_, rfl, Nat.zero_le _, m0, S0, xs0, acc0, F0, k0, L0, hx0, rs0, e⟩, ?_⟩
    rintro i k H' ⟨rfl, hi, m', S', xs, acc, F', k', L', hx', rs', e'⟩
    obtain ⟨w1, w2⟩ := R m' S' H' L' F'.cs i
    by_cases hlt : i < l.length
    · have ei : l[i]? = some l[i] := List.getElem?_eq_getElem hlt
      obtain ⟨hgo, hy⟩ := w1 _ (congrArg some ei)
      rw [List.drop_eq_getElem_cons hlt] at e'
      refine .inr ⟨hgo, fun H2 => ∃ m' S' xs acc, FAt K cf (bs.hide D) m' S' (L2.wipe σ vs) H2 ρw ∧ Kp cf.fl m1 H1 m' H2 ∧ Lk A0 HI (mset (bs.hide D) m') H2 ∧ H2 D = some (.lst xs) ∧ Reps K (mset (bs.hide D) m') H2 xs acc ∧ lcL g tt te (l.drop (i + 1)) acc cf ρw S' = .ok accE SE, fun H2 q => ⟨_, by omega, rfl, hlt, q⟩, fun x H3 yl => ?_⟩
      obtain ⟨s3, r3⟩ := hy x H3 yl
      unfold lcL at e'
      exact lcn_turn (rest := fun a S => lcL g tt te (l.drop (i + 1)) a cf ρw S) (F'.same s3) (k'.trans (Kp.of_same s3)) hD (s3 _ _ hx') (rs'.same s3) r3 e' fun m2 S2 H2 xs2 acc2 L2 F2 k2 hx2 rs2 e2 => ⟨m2, S2, xs2, acc2, F2, k2, (L'.trans (Lk.of_same s3)).trans L2, hx2, rs2, e2⟩
    · have hi' : i = l.length := by omega
      subst hi'
      rw [List.drop_length] at e'
      unfold lcL at e'
      cases e'
      exact .inl ⟨w2 (congrArg some (List.getElem?_eq_none (Nat.le_refl _))), hQ m' H' xs F' k' L' hx' rs'⟩
  | cell n =>
    refine ⟨fun i k H' => ∃ m' S' xs acc, FAt K cf (bs.hide D) m' S' (L2.wipe σ vs) H' ρw ∧ Kp cf.fl m1 H1 m' H' ∧ Lk A0 HI (mset (bs.hide D) m') H' ∧ H' D = some (.lst xs) ∧ Reps K (mset (bs.hide D) m') H' xs acc ∧ lcC g tt te n k i acc cf ρw S' = .ok accE SE,
      ⟨_, m0, S0, xs0, acc0, F0, k0, L0, hx0, rs0, e⟩, ?_⟩
    rintro i k H' ⟨m', S', xs, acc, F', k', L', hx', rs', e'⟩
    obtain ⟨w1, w2⟩ := R m' S' H' L' F'.cs i
    cases k with
    | zero => cases e'
    | succ k =>
      unfold lcC at e'
      have w1 : ∀ t, (match S'[n]? with | some (.lst l) => some l[i]? | _ => none) = some (some t) → _ := w1
      have w2 : (match S'[n]? with | some (.lst l) => some l[i]? | _ => none) = some none → _ := w2
      cases es : S'[n]? with
      | none => rw [es] at e'; cases e'
      | some cc =>
        rw [es] at e' w1 w2
        cases cc with
        | lst l =>
          dsimp only at e' w1 w2
          cases el : l[i]? with
          | none =>
            have stp := w2 (congrArg some el)
            rw [el] at e'
            cases e'
            exact .inl ⟨stp, hQ m' H' xs F' k' L' hx' rs'⟩
          | some t =>
            rw [el] at e'
            dsimp only at e'
            obtain ⟨hgo, hy⟩ := w1 _ (congrArg some el)
            refine .inr ⟨hgo, fun H2 => ∃ m' S' xs acc, FAt K cf (bs.hide D) m' S' (L2.wipe σ vs) H2 ρw ∧ Kp cf.fl m1 H1 m' H2 ∧ Lk A0 HI (mset (bs.hide D) m') H2 ∧ H2 D = some (.lst xs) ∧ Reps K (mset (bs.hide D) m') H2 xs acc ∧ lcC g tt te n k (i + 1) acc cf ρw S' = .ok accE SE, fun H2 q => ⟨k, by omega, q⟩, fun x H3 yl => ?_⟩
            obtain ⟨s3, r3⟩ := hy x H3 yl
            exact lcn_turn (rest := fun a S => lcC g tt te n k (i + 1) a cf ρw S) (F'.same s3) (k'.trans (Kp.of_same s3)) hD (s3 _ _ hx') (rs'.same s3) r3 e' fun m2 S2 H2 xs2 acc2 L2 F2 k2 hx2 rs2 e2 => ⟨m2, S2, xs2, acc2, F2, k2, (L'.trans (Lk.of_same s3)).trans L2, hx2, rs2, e2⟩
        | _ => cases e'
  | en n => cases e
theorem hide_at {cf : Cf} {bs : Bx} {m : List Addr} {S : St} {σ : L2.St} {H : Hp} {ρ : Ro} {D : Addr} {o : HO} (F : FAt K cf bs m S σ H ρ) (hD : H D = none) : FAt K cf (bs.hide D) m S σ (upd H D o) ρ := by
  have s := same_new (o := o) hD
  exact ⟨F.cs.hide hD s upd_same, F.bn, F.len, fun i t h => by
    obtain ⟨v, e, r⟩ := F.sl i t h
    exact ⟨v, e, r.lk (lk_hide hD s)⟩⟩
theorem lc_read {σ : L2.St} {H : Hp} {Q : VK} (h : tX K W (mLc vs fi g tt te) σ H Q) : tLc (tXI K W fi) (tXG K vs g) (tXT K W tt) (tX K W te) vs σ H Q := by
  obtain ⟨cf, bs, m, S, ρ, F, h⟩ := h
  refine ⟨cf, bs, m, S, ρ, F, RsOk.bind F h fun src J m1 H1 S1 F1 k1 R1 h1 => ?_⟩
  intro D hD
  cases el : lcS g tt te src [] cf (wipeS vs ρ) S1 with
  | ex y S' => rw [el] at h1; exact h1.elim
  | st => rw [el] at h1; exact h1.elim
  | ok accE SE =>
    rw [el] at h1
    have sD : Same H1 (upd H1 D (.lst [])) := same_new hD
    exact lc_all (bs := bs) (A0 := mset bs m1) (HI := H1) hD (fun m2 S2 H2 L cs i => R1 (bs.hide D) m2 S2 H2 L cs i) ((hide_at F1 hD).wipe vs) (Kp.of_same sD) (lk_hide hD sD) upd_same .nil el fun m2 H2 xs2 F2 k2 L2 hx2 rs2 =>
      h1 _ m2 H2 F2.cs.show k2 (.lst (fun z => z.elim (F2.cs.hid D (List.mem_cons_self ..)).1 fun z => by
        obtain ⟨o, e⟩ := (F1.cs.hid D z).2
        rw [hD] at e
        cases e) hx2 (rs2.lk lk_show))
theorem PTs.imp {ifs : List Expr} {t t' : TT} (h : PTs X ifs t) (i : ∀ σ H Q, t' σ H Q → t σ H Q) : PTs X ifs t' := ⟨fun pins s σ H Q I hw => h.run pins s σ H Q I (i _ _ _ hw)⟩
theorem ts_nil : PTs X [] (tXT K W mYes) := PTs.imp pts_nil fun σ H Q h => by
  obtain ⟨cf, bs, m, S, ρ, F, h⟩ := h
  exact h true m H F.cs Kp.refl rfl
theorem ts_one {c : Expr} (h : PT X c (tXT K W tt)) : PTs X [c] (tXT K W tt) := pts_one h
theorem m_lc {elt tg iter : Expr} {ifs : List Expr} {scope : Scope} {own : List (Str × Nat)} {pos : Pos} (hc : X.calm = true) (hN : X.N.Nodup) (hi : PI X tg iter (tXI K W fi)) (ok : BlkOk X.N X.env.scope scope own)
    (hg : ∀ (s : Shared) (H : Hp) (C : Addr) (cl : List (Str × Addr)) (fp : List Addr), PG (X.blk s H scope (compEnvC scope cl C X.env) fp) tg (tXG K (own.map (·.2)) g)) (ht : ∀ (s : Shared) (H : Hp) (C : Addr) (cl : List (Str × Addr)) (fp : List Addr), PTs (X.blk s H scope (compEnvC scope cl C X.env) fp) ifs (tXT K W tt))
    (he : ∀ (s : Shared) (H : Hp) (C : Addr) (cl : List (Str × Addr)) (fp : List Addr), PE (X.blk s H scope (compEnvC scope cl C X.env) fp) elt (tX K W te)) (hs : ∀ x, foldedSetIterable iter X.env x = pure x := by intro _; rfl) :
    PE X (.ListComp elt [⟨tg, iter, ifs, 0⟩] scope pos) (tX K W (mLc (own.map (·.2)) fi g tt te)) :=
  PE.imp (pe_lc hc hN hi ok hg ht he hs) fun σ H Q h => lc_read h
theorem s_setLc (i : Nat) {y : Str} {py : Pos} {elt tg iter : Expr} {ifs : List Expr} {scope : Scope} {own : List (Str × Nat)} {pos spos : Pos} (hc : X.calm = true) (hN : X.N.Nodup)
    (hsw : swapsWith (.ListComp elt [⟨tg, iter, ifs, 0⟩] scope pos) (some (.Name y py)) spos.line X.env = pure true) (hi : PI X tg iter (tXI K W fi)) (ok : BlkOk X.N X.env.scope scope own)
    (hg : ∀ (s : Shared) (H : Hp) (C : Addr) (cl : List (Str × Addr)) (fp : List Addr), PG (X.blk s H scope (compEnvC scope cl C X.env) fp) tg (tXG K (own.map (·.2)) g)) (ht : ∀ (s : Shared) (H : Hp) (C : Addr) (cl : List (Str × Addr)) (fp : List Addr), PTs (X.blk s H scope (compEnvC scope cl C X.env) fp) ifs (tXT K W tt))
    (he : ∀ (s : Shared) (H : Hp) (C : Addr) (cl : List (Str × Addr)) (fp : List Addr), PE (X.blk s H scope (compEnvC scope cl C X.env) fp) elt (tX K W te)) (hy : X.N[i]? = some y := by rfl) (hyl : X.env.scope.names.lookup y = some .local := by rfl) (hs : ∀ x, foldedSetIterable iter X.env x = pure x := by intro _; rfl) :
    PS X (.Assign [.Name y py] (.ListComp elt [⟨tg, iter, ifs, 0⟩] scope pos) spos) (tXS K W (sAsg (mLc (own.map (·.2)) fi g tt te) (gNm i))) := PS.imp (ps_setLc hc hN hy hyl hsw hi ok hg ht he hs) fun D σ H h => by
  obtain ⟨cf, bs, m, S, ρ, F, h⟩ := h
  refine lc_read ⟨cf, bs, m, S, ρ, F, OuOk.ofE F h fun t v m1 H1 S1 _ F1 k1 R1 h1 => ?_⟩
  unfold gNm at h1
  by_cases q : i < ρ.length
  · rw [if_pos q] at h1
    exact h1 _ m1 H1 (F1.set R1) Kp.refl
  · rw [if_neg q] at h1
    exact h1.elim
end
end Tm

/-! N8: texts, slices, subscripts, isinstance, stars, pairs, numbers. -/
namespace Tm
open PySem PySem.Spec PyProof.Rows L2
section
variable {X : Cx} {K : PySem.W.Frag} {W : WX} {e o : Expr} {fa fb : Ev T} {pos apos p2 : Pos}
def oSplit : T → T → Option T
  | .str a, .str b => if b.length ≠ 0 ∧ a.length ≤ 1000000 then some (.lst ((Txt.split a b).map T.str)) else none
  | _, _ => none

/-- a receiver that is a text is asked ahead of the argument -/
def mTxt (f : T → T → Option T) (fa fb : Ev T) : Ev T := fa.bind fun x => match x with
  | .str a => fb.bind fun y _ _ S => orV (f (.str a) y) (f (.str a) (vw S y)) S
  | _ => fun _ _ _ => .st
theorem txt_read {r : V → List V → Hp → VK → Prop} {f : T → T → Option T} {σ : L2.St} {H : Hp} {Q : VK} (ht : OpT K (fun x y H Q => r x [y] H Q) f) (h : tX K W (mTxt f fa fb) σ H Q) : tM1 r (tX K W fa) (tX K W fb) σ H Q := by
  obtain ⟨cf, bs, m, S, ρ, F, h⟩ := h
  refine ⟨cf, bs, m, S, ρ, F, RsOk.bind F h fun x vx m1 H1 S1 F1 k1 R1 h1 => ?_⟩
  unfold RpT at R1
  cases R1 with
  | str a =>
    refine ⟨⟨a, rfl⟩, cf, bs, m1, S1, ρ, F1, RsOk.bind F1 h1 fun y vy m2 H2 S2 F2 k2 R2 h2 => ?_⟩
    rcases orV_ok F2 h2 with ⟨z, e, k⟩ | ⟨z, e, k⟩
    · exact ht _ H2 _ vy _ y z Q F2.cs.domA (.str a) R2 e k
    · exact ht _ H2 _ vy _ _ z Q dom_fr (.str a) (F2.cs.vw R2) e k
  | _ => exact h1.elim
theorem m_split (ho : PE X o (tX K W fa)) (he : PE X e (tX K W fb)) (hs : starEach [e] X.env = [(false, eval e X.env)] := by rfl) (hbase : attributeBase o "split" X.env (eval o X.env) = eval o X.env := by rfl) (hline : (apos.endLine == pos.line) = true := by rfl) :
    PE X (.Call (.Attribute o "split" apos) [e] [] pos) (tX K W (mTxt oSplit fa fb)) := PE.imp (pe_split ho he hs hbase hline) fun σ H Q h => txt_read (fun A H x y tx ty tz Q d rx ry e k => by
  unfold oSplit at e
  split at e
  · split at e
    · rename_i h
      cases e
      cases rx
      cases ry
      refine ⟨_, _, rfl, rfl, by simpa using h.1, Nat.le_trans (Nat.add_le_add_right h.2 2) (by rw [sizeLine_eq]; decide), fun p hp => ?_⟩
      exact k _ _ (same_new hp) (.lst (d.new hp) upd_same (Reps.strs _))
    · cases e
  · cases e) h
def oJoin : T → T → Option T
  | .str a, t => match (seqT t).bind toS with
    | some ys => if (ys.map (·.length)).sum + ys.length * a.length ≤ 16777216 then some (.str (Txt.join a ys)) else none
    | none => none
  | _, _ => none
theorem m_join (ho : PE X o (tX K W fa)) (he : PE X e (tX K W fb)) (hs : starEach [e] X.env = [(false, eval e X.env)] := by rfl) (hbase : attributeBase o "join" X.env (eval o X.env) = eval o X.env := by rfl) (hline : (apos.endLine == pos.line) = true := by rfl) (hK : X.K = K := by rfl) :
    PE X (.Call (.Attribute o "join" apos) [e] [] pos) (tX K W (mTxt oJoin fa fb)) := by
  subst hK
  refine PE.imp (pe_join ho he hs hbase hline) fun σ H Q h => txt_read (fun A H x y tx ty tz Q d rx ry e k => ?_) h
  cases rx with
  | str a =>
    unfold oJoin at e
    dsimp only at e
    cases e1 : seqT ty with
    | none => rw [e1] at e; cases e
    | some l =>
      obtain ⟨p, xs, rfl, h2, h3⟩ := ry.sq e1
      rw [e1, Option.bind_some] at e
      cases e2 : toS l with
      | none => rw [e2] at e; cases e
      | some ys =>
        rw [e2] at e
        dsimp only at e
        split at e
        · rename_i hl
          cases e
          rw [toS_eq e2] at h3
          have := h3.of_strs
          subst this
          exact ⟨a, p, ys, rfl, rfl, h2, hl, k _ _ (L2.Same.refl _) (.str _)⟩
        · cases e
  | _ => cases e

/-- f"{x}" -/
def uFmt : T → Option T
  | .str y => if y.length ≤ 1000000 then some (.str y) else none
  | .int i => if i.natAbs.log2 < 1920 then some (.str (toString i)) else none
  | _ => none
theorem m_fmt (he : PE X e (tX K W fa)) : PE X (.FormattedValue e (-1) none pos) (tX K W (mUn uFmt fa)) := PE.imp (pe_fmt he) fun σ H Q h => by
  refine un_read (r := fun vx H1 Q => (∃ y, vx = .str y ∧ y.length ≤ sizeLine ∧ Q (.str y) H1) ∨ (∃ i, vx = .int i ∧ i.natAbs.log2 < 1920 ∧ Q (.str (toString i)) H1)) (fun A H x tx tz Q d rx e k => ?_) h
  unfold uFmt at e
  split at e
  · split at e
    · rename_i hl
      cases e
      cases rx
      exact .inl ⟨_, rfl, big_le hl, k _ H (L2.Same.refl _) (.str _)⟩
    · cases e
  · split at e
    · rename_i hl
      cases e
      cases rx
      exact .inr ⟨_, rfl, hl, k _ H (L2.Same.refl _) (.str _)⟩
    · cases e
  · cases e
/-- the parts of an f-string -/
inductive MJ (X : Cx) (K : PySem.W.Frag) (W : WX) : List Expr → List (Ev T) → Prop where
  | nil : MJ X K W [] []
  | cons {e : Expr} {f : Ev T} {es : List Expr} {fs : List (Ev T)} (h : PE X e (tX K W f)) (r : MJ X K W es fs) : MJ X K W (e :: es) (f :: fs)
theorem MJ.pj : ∀ {es : List Expr} {fs : List (Ev T)}, MJ X K W es fs → PJ X es (fs.map (tX K W))
  | _, _, .nil => .nil
  | _, _, .cons h r => .cons h (MJ.pj r)

def mJs : List (Ev T) → Str → Ev T
  | [], acc => fun _ _ S => .ok (.str acc) S
  | f :: fs, acc => f.bind fun x => match x with
    | .str y => if (acc ++ y).length ≤ 1000000 then mJs fs (acc ++ y) else fun _ _ _ => .st
    | _ => fun _ _ _ => .st
theorem js_read {σ : L2.St} {Q : VK} : ∀ {fs : List (Ev T)} {acc : Str} {H : Hp}, tX K W (mJs fs acc) σ H Q → tJs (fs.map (tX K W)) acc σ H fun out H1 => Q (.str out) H1
  | [], acc, H, h => by
    obtain ⟨cf, bs, m, S, ρ, F, h⟩ := h
    exact h _ m H F.cs Kp.refl (.str _)
  | f :: fs, acc, H, h => by
    obtain ⟨cf, bs, m, S, ρ, F, h⟩ := h
    refine ⟨cf, bs, m, S, ρ, F, RsOk.bind F h fun x vx m1 H1 S1 F1 k1 R1 h1 => ?_⟩
    unfold RpT at R1
    cases R1 with
    | str y =>
      dsimp only at h1
      split at h1
      · rename_i hl
        exact ⟨y, rfl, big_le hl, js_read ⟨cf, bs, m1, S1, ρ, F1, h1⟩⟩
      · exact h1.elim
    | _ => exact h1.elim
theorem m_joined {v1 v2 : Expr} {rest : List Expr} {fs : List (Ev T)} (h : MJ X K W (v1 :: v2 :: rest) fs) : PE X (.JoinedStr (v1 :: v2 :: rest) pos) (tX K W (mJs fs Str.empty)) := PE.imp (pe_joined h.pj) fun σ H Q h => js_read h
/-! ### slices -/
def mPart (fa : Ev T) : Ev (Option Int) := fa.bind fun x => match x with
  | .int i => fun _ _ S => .ok (some i) S
  | _ => fun _ _ _ => .st
def mNoPart : Ev (Option Int) := fun _ _ S => .ok none S
def tXO (K : PySem.W.Frag) (W : WX) (f : Ev (Option Int)) : TO := fun σ H Q => ∃ c bs m S ρ, FAt K c bs m S σ H ρ ∧ RsOk K W bs c.fl m σ H RpE Q (f c ρ S)
theorem PO.imp {e : Option Expr} {t t' : TO} (h : PO X e t) (i : ∀ σ H Q, t' σ H Q → t σ H Q) : PO X e t' := ⟨fun pins s σ H Q I hw => h.run pins s σ H Q I (i _ _ _ hw)⟩
theorem o_none : PO X none (tXO K W mNoPart) := PO.imp po_none fun σ H Q h => by
  obtain ⟨cf, bs, m, S, ρ, F, h⟩ := h
  exact h none m H F.cs Kp.refl rfl
theorem o_some (he : PE X e (tX K W fa)) : PO X (some e) (tXO K W (mPart fa)) := PO.imp (po_some he) fun σ H Q h => by
  obtain ⟨cf, bs, m, S, ρ, F, h⟩ := h
  refine ⟨cf, bs, m, S, ρ, F, RsOk.bind F h fun x vx m1 H1 S1 F1 k1 R1 h1 => ?_⟩
  unfold RpT at R1
  cases R1 with
  | int i => exact ⟨i, rfl, h1 _ m1 H1 F1.cs Kp.refl rfl⟩
  | _ => exact h1.elim
def cutT (xs : List T) (lo hi : Option Int) : List T := (xs.drop (HT.sIx xs.length 0 lo)).take (HT.sIx xs.length xs.length hi - HT.sIx xs.length 0 lo)

def oSl (lo hi : Option Int) : T → Option T
  | .lst l => some (.lst (cutT l lo hi))
  | .tup l => some (.tup (cutT l lo hi))
  | .wt [] => some (.wt [])
  | .scr ns => some (.lst (cutT (ns.map T.int) lo hi))
  | .str z => if z.length ≤ 1000000 then some (.str (cutS z lo hi)) else none
  | _ => none
def mSl (fa : Ev T) (fl fu : Ev (Option Int)) : Ev T := fa.bind fun x => fl.bind fun lo => fu.bind fun hi _ _ S => match oSl lo hi (vw S x) with
  | some z => .ok z S
  | none => .st
def rSlB (K : PySem.W.Frag) : V → Option Int → Option Int → Hp → VK → Prop := fun x lo hi H Q => rSlL K x lo hi H Q ∨ (rSlA K x lo hi H Q ∨ rSlS x lo hi H Q)
theorem q_sl (hK : X.K = K := by rfl) : SlR X (rSlB K) := by subst hK; exact SlR.or sl_list (SlR.or sl_tupA sl_str)
theorem cut_rep {A : ASet} {H : Hp} {xs : List V} {l : List T} {lo hi : Option Int} (r : Reps K A H xs l) : Reps K A H (cutV xs lo hi) (cutT l lo hi) := by
  unfold cutV cutT
  rw [r.length]
  exact (r.drop _).take _

/-- a list, in a tree or a cell -/
theorem lst_at {bs : Bx} {m : List Addr} {S : St} {H : Hp} (cs : Cs K bs m S H) {v : V} {t : T} (r : Rep K (mset bs m) H v t) {l : List T} (e : vw S t = .lst l) : ∃ a xs, v = .ref a ∧ H a = some (.lst xs) ∧ Reps K (mset bs m) H xs l := by
  cases r with
  | lst na h r =>
    cases e
    exact ⟨_, _, rfl, h, r⟩
  | ref h =>
    rename_i a n
    have h : m[n]? = some a := h
    have hn : n < S.length := cs.len ▸ (List.getElem?_eq_some_iff.mp h).1
    have es : S[n]? = some S[n] := List.getElem?_eq_getElem hn
    have e : unlk ((S[n]?).getD .non) = .lst l := e
    rw [es] at e
    have e : unlk S[n] = .lst l := e
    have := cs.cell n _ a es h
    generalize S[n] = cc at this e
    cases this with
    | lst h r => cases e; exact ⟨_, _, rfl, h, r⟩
    | _ => cases e
  | _ => cases e
theorem tup_at {bs : Bx} {m : List Addr} {S : St} {H : Hp} (cs : Cs K bs m S H) {v : V} {t : T} (r : Rep K (mset bs m) H v t) {l : List T} (e : vw S t = .tup l) : ∃ a xs, v = .ref a ∧ H a = some (.tup xs) ∧ Reps K (mset bs m) H xs l := by
  cases r with
  | tup h r =>
    cases e
    exact ⟨_, _, rfl, h, r⟩
  | ref h =>
    rename_i a n
    have h : m[n]? = some a := h
    have hn : n < S.length := cs.len ▸ (List.getElem?_eq_some_iff.mp h).1
    have es : S[n]? = some S[n] := List.getElem?_eq_getElem hn
    have e : unlk ((S[n]?).getD .non) = .tup l := e
    rw [es] at e
    have e : unlk S[n] = .tup l := e
    have := cs.cell n _ a es h
    generalize S[n] = cc at this e
    cases this <;> cases e
  | _ => cases e
theorem wt_at {bs : Bx} {m : List Addr} {S : St} {H : Hp} (cs : Cs K bs m S H) {v : V} {t : T} (r : Rep K (mset bs m) H v t) {l : List T} (e : vw S t = .wt l) : ∃ a xs, v = .ref a ∧ (∀ H', SqT K H' a xs) ∧ Reps K (mset bs m) H xs l := by
  cases r with
  | wt h r =>
    cases e
    exact ⟨_, _, rfl, h, r⟩
  | ref h =>
    rename_i a n
    have h : m[n]? = some a := h
    have hn : n < S.length := cs.len ▸ (List.getElem?_eq_some_iff.mp h).1
    have es : S[n]? = some S[n] := List.getElem?_eq_getElem hn
    have e : unlk ((S[n]?).getD .non) = .wt l := e
    rw [es] at e
    have e : unlk S[n] = .wt l := e
    have := cs.cell n _ a es h
    generalize S[n] = cc at this e
    cases this <;> cases e
  | _ => cases e
theorem scr_at {bs : Bx} {m : List Addr} {S : St} {H : Hp} (cs : Cs K bs m S H) {v : V} {t : T} (r : Rep K (mset bs m) H v t) {ns : List Int} (e : vw S t = .scr ns) : ∃ a, v = .ref a ∧ ScrAt K (mset bs m) H a (ns.map V.int) := by
  cases r with
  | scr h =>
    cases e
    exact ⟨_, rfl, h⟩
  | ref h =>
    rename_i a n
    have h : m[n]? = some a := h
    have hn : n < S.length := cs.len ▸ (List.getElem?_eq_some_iff.mp h).1
    have es : S[n]? = some S[n] := List.getElem?_eq_getElem hn
    have e : unlk ((S[n]?).getD .non) = .scr ns := e
    rw [es] at e
    have e : unlk S[n] = .scr ns := e
    have := cs.cell n _ a es h
    generalize S[n] = cc at this e
    cases this <;> cases e
  | _ => cases e
theorem str_at {bs : Bx} {m : List Addr} {S : St} {H : Hp} (cs : Cs K bs m S H) {v : V} {t : T} (r : Rep K (mset bs m) H v t) {z : Str} (e : vw S t = .str z) : v = .str z := by
  cases r with
  | str x =>
    cases e
    rfl
  | ref h =>
    rename_i a n
    have h : m[n]? = some a := h
    have hn : n < S.length := cs.len ▸ (List.getElem?_eq_some_iff.mp h).1
    have es : S[n]? = some S[n] := List.getElem?_eq_getElem hn
    have e : unlk ((S[n]?).getD .non) = .str z := e
    rw [es] at e
    have e : unlk S[n] = .str z := e
    have := cs.cell n _ a es h
    generalize S[n] = cc at this e
    cases this <;> cases e
  | _ => cases e
theorem nA_new {bs : Bx} {m : List Addr} {S : St} {H : Hp} (cs : Cs K bs m S H) {p : Addr} (h : H p = none) : ¬ mset bs m p := cs.domA.new h
theorem m_sl {lo hi : Option Expr} {fl fu : Ev (Option Int)} (he : PE X e (tX K W fa)) (hl : PO X lo (tXO K W fl)) (hu : PO X hi (tXO K W fu)) (hK : X.K = K := by rfl) : PE X (.Subscript e (.Slice lo hi none p2) pos) (tX K W (mSl fa fl fu)) := PE.imp (pe_slice (q_sl hK) he hl hu) fun σ H Q h => by
  obtain ⟨cf, bs, m, S, ρ, F, h⟩ := h
  refine ⟨cf, bs, m, S, ρ, F, RsOk.bind F h fun x vx m1 H1 S1 F1 k1 R1 h1 => ⟨cf, bs, m1, S1, ρ, F1, RsOk.bind F1 h1 fun o1 v1 m2 H2 S2 F2 k2 R2 h2 => ⟨cf, bs, m2, S2, ρ, F2, RsOk.bind F2 h2 fun o2 v2 m3 H3 S3 F3 k3 R3 h3 => ?_⟩⟩⟩
  cases R2
  cases R3
  have R : Rep K (mset bs m3) H3 vx x := Rep.lk k3.lk (Rep.lk k2.lk R1)
  cases e : oSl o1 o2 (vw S3 x) with
  | none => rw [e] at h3; exact h3.elim
  | some z =>
    rw [e] at h3
    unfold oSl at e
    split at e
    · rename_i l ev
      cases e
      obtain ⟨a, xs, rfl, hh, rs⟩ := lst_at F3.cs R ev
      exact .inl ⟨_, _, rfl, .inl (.inl hh), fun p hp => h3 _ m3 _ (F3.cs.same (same_new hp)) (Kp.of_same (same_new hp)) (.lst (nA_new F3.cs hp) upd_same ((cut_rep rs).same (same_new hp)))⟩
    · rename_i l ev
      cases e
      obtain ⟨a, xs, rfl, hh, rs⟩ := tup_at F3.cs R ev
      refine .inr (.inl ⟨_, _, rfl, .inl (.inl hh), fun q => ?_, fun q p hp => h3 _ m3 _ (F3.cs.same (same_new hp)) (Kp.of_same (same_new hp)) (.tup upd_same ((cut_rep rs).same (same_new hp)))⟩)
      have e1 : cutT l o1 o2 = l := by
        unfold cutT
        rw [← rs.length, q.1, q.2]
        simp [rs.length]
      rw [e1] at h3
      exact h3 _ m3 H3 F3.cs Kp.refl (.tup hh rs)
    · rename_i ev
      cases e
      obtain ⟨a, xs, rfl, hh, rs⟩ := wt_at F3.cs R ev
      cases rs
      refine .inr (.inl ⟨_, _, rfl, hh _, fun q => h3 _ m3 H3 F3.cs Kp.refl (.wt hh .nil), fun q => absurd ?_ q⟩)
      cases o1 <;> cases o2 <;> simp [HT.sIx] <;> omega
    · rename_i ns ev
      cases e
      obtain ⟨a, rfl, hh⟩ := scr_at F3.cs R ev
      exact .inl ⟨_, _, rfl, hh.sq, fun p hp => h3 _ m3 _ (F3.cs.same (same_new hp)) (Kp.of_same (same_new hp)) (.lst (nA_new F3.cs hp) upd_same ((cut_rep (Reps.ints ns)).same (same_new hp)))⟩
    · rename_i z' ev
      split at e
      · rename_i hz
        cases e
        obtain rfl := str_at F3.cs R ev
        exact .inr (.inr ⟨_, rfl, big_le hz, h3 _ m3 H3 F3.cs Kp.refl (.str _)⟩)
      · cases e
    · cases e
/-! ### subscripts -/
def mIx (fa fb : Ev T) : Ev T := fa.bind fun x => fb.bind fun y _ _ S => match oIx (vw S x) y with
  | some z => .ok z S
  | none => .st
theorem m_ix {b : Expr} (ha : PE X e (tX K W fa)) (hb : PE X b (tX K W fb)) (hs : PlainIx b) (hK : X.K = K := by rfl) : PE X (.Subscript e b pos) (tX K W (mIx fa fb)) := PE.imp (pe_ix (k_ix K hK) ha hb hs) fun σ H Q h => by
  obtain ⟨cf, bs, m, S, ρ, F, h⟩ := h
  refine ⟨cf, bs, m, S, ρ, F, RsOk.bind F h fun x vx m1 H1 S1 F1 k1 R1 h1 => ⟨cf, bs, m1, S1, ρ, F1, RsOk.bind F1 h1 fun y vy m2 H2 S2 F2 k2 R2 h2 => ?_⟩⟩
  have R : Rep K (mset bs m2) H2 vx x := Rep.lk k2.lk R1
  unfold RpT at R2
  cases e : oIx (vw S2 x) y with
  | none => rw [e] at h2; exact h2.elim
  | some z =>
    rw [e] at h2
    unfold oIx at e
    split at e
    · rename_i z' i ev
      split at e
      · rename_i hl
        obtain ⟨c, hc, rfl⟩ := Option.map_eq_some_iff.mp e
        obtain rfl := str_at F2.cs R ev
        cases R2
        exact .inr (.inr ⟨_, _, c, rfl, rfl, big_le hl, hc, h2 _ m2 H2 F2.cs Kp.refl (.str _)⟩)
      · cases e
    · rename_i l i ev
      obtain ⟨a, xs, rfl, hh, rs⟩ := lst_at F2.cs R ev
      cases R2
      obtain ⟨v, hv, rv⟩ := rs.atI e
      exact .inl ⟨_, _, _, v, rfl, rfl, .inl (.inl hh), hv, h2 _ m2 H2 F2.cs Kp.refl rv⟩
    · rename_i l i ev
      obtain ⟨a, xs, rfl, hh, rs⟩ := tup_at F2.cs R ev
      cases R2
      obtain ⟨v, hv, rv⟩ := rs.atI e
      exact .inr (.inl ⟨_, _, _, v, rfl, rfl, .inl (.inl hh), hv, h2 _ m2 H2 F2.cs Kp.refl rv⟩)
    · rename_i l i ev
      obtain ⟨a, xs, rfl, hh, rs⟩ := wt_at F2.cs R ev
      cases R2
      obtain ⟨v, hv, rv⟩ := rs.atI e
      exact .inr (.inl ⟨_, _, _, v, rfl, rfl, hh _, hv, h2 _ m2 H2 F2.cs Kp.refl rv⟩)
    · rename_i ns i ev
      obtain ⟨a, rfl, hh⟩ := scr_at F2.cs R ev
      cases R2
      obtain ⟨v, hv, rv⟩ := (Reps.ints ns : Reps K (mset bs m2) H2 _ _).atI e
      exact .inl ⟨_, _, _, v, rfl, rfl, hh.sq, hv, h2 _ m2 H2 F2.cs Kp.refl rv⟩
    · cases e
/-! ### list(x), tuple(x) -/
def mListOf (fa : Ev T) : Ev T := fa.bind fun x _ _ S => match seqT (vw S x) with
  | some l => .ok (.lst l) S
  | none => .st
/-- .. as a cell -/
def mListC (fa : Ev T) : Ev T := fa.bind fun x _ _ S => match seqT (vw S x) with
  | some l => .ok (.ref S.length) (S ++ [.lst l])
  | none => .st
def mTupOf (fa : Ev T) : Ev T := fa.bind fun x _ _ S => match vw S x with
  | .lst l => .ok (.tup l) S
  | .tup l => .ok (.tup l) S
  | .wt l => .ok (.wt l) S
  | _ => .st
theorem seq_at {bs : Bx} {m : List Addr} {S : St} {H : Hp} (cs : Cs K bs m S H) {v : V} {t : T} (r : Rep K (mset bs m) H v t) {l : List T} (e : seqT (vw S t) = some l) : ∃ a xs, v = .ref a ∧ (SqL K H a xs ∨ SqT K H a xs) ∧ Reps K (mset bs m) H xs l := by
  unfold seqT at e
  split at e
  · rename_i l' ev
    cases e
    obtain ⟨a, xs, rfl, hh, rs⟩ := lst_at cs r ev
    exact ⟨a, xs, rfl, .inl (.inl (.inl hh)), rs⟩
  · rename_i l' ev
    cases e
    obtain ⟨a, xs, rfl, hh, rs⟩ := tup_at cs r ev
    exact ⟨a, xs, rfl, .inr (.inl (.inl hh)), rs⟩
  · rename_i l' ev
    cases e
    obtain ⟨a, xs, rfl, hh, rs⟩ := wt_at cs r ev
    exact ⟨a, xs, rfl, .inr (hh _), rs⟩
  · rename_i ns ev
    cases e
    obtain ⟨a, rfl, hh⟩ := scr_at cs r ev
    exact ⟨a, _, rfl, .inl hh.sq, Reps.ints ns⟩
  · cases e
variable {x : Str} {np : Pos}
theorem m_list (hm : X.mg "list" = none) (he : PE X e (tX K W fa)) (hg : Gl X "list" := by rfl) (hs : starEach [e] X.env = (false, eval e X.env) :: starEach [] X.env := by rfl) (hpl : (backTo pos (starEach [] X.env)).any (·.1) = false := by rfl) (hK : X.K = K := by rfl) :
    PE X (.Call (.Name "list" np) [e] [] pos) (tX K W (mListOf fa)) := PE.imp (pe_callTy (k_list K hK) hg hm bt_list (pa_cons he pa_nil hs) (by decide) (by decide) hs hpl) fun σ H Q h => by
  obtain ⟨cf, bs, m, S, ρ, F, h⟩ := h
  refine ⟨cf, bs, m, S, ρ, F, RsOk.bind F h fun x vx m1 H1 S1 F1 k1 R1 h1 => ?_⟩
  cases e : seqT (vw S1 x) with
  | none => rw [e] at h1; exact h1.elim
  | some l =>
    rw [e] at h1
    obtain ⟨a, xs, rfl, hh, rs⟩ := seq_at F1.cs R1 e
    exact ⟨_, _, rfl, hh, fun p hp => h1 _ m1 _ (F1.cs.same (same_new hp)) (Kp.of_same (same_new hp)) (.lst (nA_new F1.cs hp) upd_same (rs.same (same_new hp)))⟩
theorem m_listC (hm : X.mg "list" = none) (he : PE X e (tX K W fa)) (hg : Gl X "list" := by rfl) (hs : starEach [e] X.env = (false, eval e X.env) :: starEach [] X.env := by rfl) (hpl : (backTo pos (starEach [] X.env)).any (·.1) = false := by rfl) (hK : X.K = K := by rfl) :
    PE X (.Call (.Name "list" np) [e] [] pos) (tX K W (mListC fa)) := PE.imp (pe_callTy (k_list K hK) hg hm bt_list (pa_cons he pa_nil hs) (by decide) (by decide) hs hpl) fun σ H Q h => by
  obtain ⟨cf, bs, m, S, ρ, F, h⟩ := h
  refine ⟨cf, bs, m, S, ρ, F, RsOk.bind F h fun x vx m1 H1 S1 F1 k1 R1 h1 => ?_⟩
  cases e : seqT (vw S1 x) with
  | none => rw [e] at h1; exact h1.elim
  | some l =>
    rw [e] at h1
    obtain ⟨a, xs, rfl, hh, rs⟩ := seq_at F1.cs R1 e
    exact ⟨_, _, rfl, hh, fun p hp => new_ok F1 hp (same_new hp) (.lst upd_same (reps_new (bs := bs) (S := S1) hp (same_new hp) rs)) h1⟩
theorem m_tuple (hm : X.mg "tuple" = none) (he : PE X e (tX K W fa)) (hg : Gl X "tuple" := by rfl) (hs : starEach [e] X.env = (false, eval e X.env) :: starEach [] X.env := by rfl) (hpl : (backTo pos (starEach [] X.env)).any (·.1) = false := by rfl) (hK : X.K = K := by rfl) :
    PE X (.Call (.Name "tuple" np) [e] [] pos) (tX K W (mTupOf fa)) := PE.imp (pe_callTy (k_tuple K hK) hg hm bt_tuple (pa_cons he pa_nil hs) (by decide) (by decide) hs hpl) fun σ H Q h => by
  obtain ⟨cf, bs, m, S, ρ, F, h⟩ := h
  refine ⟨cf, bs, m, S, ρ, F, RsOk.bind F h fun x vx m1 H1 S1 F1 k1 R1 h1 => ?_⟩
  cases ev : vw S1 x with
  | lst l =>
    rw [ev] at h1
    obtain ⟨a, xs, rfl, hh, rs⟩ := lst_at F1.cs R1 ev
    exact ⟨_, _, rfl, .inl ⟨.inl (.inl hh), fun p hp => h1 _ m1 _ (F1.cs.same (same_new hp)) (Kp.of_same (same_new hp)) (.tup upd_same (rs.same (same_new hp)))⟩⟩
  | tup l =>
    rw [ev] at h1
    obtain ⟨a, xs, rfl, hh, rs⟩ := tup_at F1.cs R1 ev
    exact ⟨_, _, rfl, .inr ⟨.inl (.inl hh), h1 _ m1 H1 F1.cs Kp.refl (.tup hh rs)⟩⟩
  | wt l =>
    rw [ev] at h1
    obtain ⟨a, xs, rfl, hh, rs⟩ := wt_at F1.cs R1 ev
    exact ⟨_, _, rfl, .inr ⟨hh _, h1 _ m1 H1 F1.cs Kp.refl (.wt hh rs)⟩⟩
  | _ => rw [ev] at h1; exact h1.elim
/-! ### isinstance -/
/-- what is known of the classes of the top -/
structure ClsOk (K : PySem.W.Frag) (C : Str) : Prop where
  own : OwnC K (He.ga K C)
  cl : Cls K (He.ga K C)
def tyT : T → Option (Sum String Str)
  | .non => some (.inl "NoneType")
  | .bl _ => some (.inl "bool")
  | .int _ => some (.inl "int")
  | .str _ => some (.inl "str")
  | .lst _ => some (.inl "list")
  | .tup _ => some (.inl "tuple")
  | .wt _ => some (.inl "tuple")
  | .obj C _ _ => some (.inr C)
  | _ => none
theorem Rep.typ {A : ASet} {H : Hp} {v : V} {t : T} (r : Rep K A H v t) (hC : ∀ C ns l, t = .obj C ns l → ClsOk K C) {k : Sum String Str} (e : tyT t = some k) : Typ K H v (match k with | .inl n => .type n | .inr C => .ref (He.ga K C)) := by
  cases r <;> cases e
  · exact typ_non
  · exact typ_bl _
  · exact typ_int _
  · exact typ_str _
  · rename_i h r
    exact typ_sqT (.inl (.inl h))
  · rename_i h r
    exact typ_sqT (h _)
  · rename_i h r
    exact typ_lst h
  · rename_i h r
    obtain ⟨o, c⟩ := hC _ _ _ rfl
    exact typ_ins o c h
/-- isinstance(x, n) of a builtin type -/
def fIsB (Cs : List Str) (n : String) (t : T) : Option T := match tyT t with
  | some (.inl m) => some (.bl (kb (.type m) n))
  | some (.inr C) => if C ∈ Cs then some (.bl false) else none
  | none => none
def fIsBs (Cs : List Str) (ns : List String) (t : T) : Option T := match tyT t with
  | some (.inl m) => some (.bl (ns.any fun n => kb (.type m) n))
  | some (.inr C) => if C ∈ Cs then some (.bl false) else none
  | none => none

theorem m_isB {x : Str} {np np2 : Pos} {Cs : List Str} {n : String} (hC : ∀ C ∈ Cs, ClsOk K C) (hn : n = "int" ∨ n = "bool" ∨ n = "str" ∨ n = "list" ∨ n = "tuple") (hm : X.mg "isinstance" = none) (hx : X.mg x = none) (hv : bootBuiltins x = some (.type n)) (he : PE X e (tX K W fa)) (hg : Gl X "isinstance" := by rfl) (hg2 : Gl X x := by rfl) (hxn : x ≠ "__name__" := by decide) (hxd : (x == ("__debug__" : Str)) = false := by decide)
    (hs : starEach [e, .Name x np2] X.env = (false, eval e X.env) :: starEach [.Name x np2] X.env := by rfl) (hs2 : starEach [.Name x np2] X.env = (false, eval (.Name x np2) X.env) :: starEach [] X.env := by rfl) (hpl : (backTo pos (starEach [.Name x np2] X.env)).any (·.1) = false := by rfl) (hK : X.K = K := by rfl) :
    PE X (.Call (.Name "isinstance" np) [e, .Name x np2] [] pos) (tX K W (mUn (fIsB Cs n) fa)) := PE.imp (pe_callB (k_isi K hK) hg hm bt_isinstance (pa_cons he (pa_cons (pe_ty hx hv hg2 hxn hxd) pa_nil hs2) hs) (by decide) (by decide) hs hpl) fun σ H Q h => by
  refine un_read (r := fun vx H1 Q => rIsi K [vx, .ty n] H1 Q) (fun A H x tx tz Q d rx e k => ?_) h
  unfold fIsB at e
  cases et : tyT tx with
  | none => rw [et] at e; cases e
  | some q =>
    rw [et] at e
    cases q with
    | inl m =>
      cases e
      have T := rx.typ (fun C ns l z => by subst z; cases et) et
      exact ⟨x, _, _, _, _, rfl, .ty n, T.ty, T.kit n hn, k _ H (L2.Same.refl _) (.bl _)⟩
    | inr C =>
      dsimp only at e
      split at e
      · rename_i hc
        cases e
        have T := rx.typ (fun C' ns l z => by subst z; cases et; exact hC _ hc) et
        have kt := T.kit n hn
        have e0 : kb (.ref (He.ga K C)) n = false := by simp [kb]
        dsimp only at kt
        rw [e0] at kt
        exact ⟨x, _, _, _, _, rfl, .ty n, T.ty, kt, k _ H (L2.Same.refl _) (.bl _)⟩
      · cases e
/-- isinstance(x, D) of a class of the top: the table of the classes below it -/
def fIsC (tb : List (Str × Bool)) (t : T) : Option T := match tyT t with
  | some (.inl _) => some (.bl false)
  | some (.inr C) => (tb.lookup C).map T.bl
  | none => none
theorem lookup_mem {α : Type} : ∀ {tb : List (Str × α)} {C : Str} {b : α}, tb.lookup C = some b → (C, b) ∈ tb
  | [], C, b, h => by cases h
  | (D, c) :: tb, C, b, h => by
    rw [List.lookup_cons] at h
    split at h
    · rename_i q
      cases h
      rw [beq_iff_eq.mp q]
      exact List.mem_cons_self ..
    · exact List.mem_cons_of_mem _ (lookup_mem h)

theorem m_isC {x : Str} {np np2 : Pos} {D : Str} {tb : List (Str × Bool)} (hC : ∀ q ∈ tb, ClsOk K q.1 ∧ subB K (He.ga K q.1) (He.ga K D) q.2 = true) (hb : bltB K (He.ga K D) = true) (hm : X.mg "isinstance" = none) (hx : X.mg x = some (.ref (He.ga K D))) (he : PE X e (tX K W fa)) (hg : Gl X "isinstance" := by rfl) (hg2 : Gl X x := by rfl) (hxd : (x == ("__debug__" : Str)) = false := by decide)
    (hs : starEach [e, .Name x np2] X.env = (false, eval e X.env) :: starEach [.Name x np2] X.env := by rfl) (hs2 : starEach [.Name x np2] X.env = (false, eval (.Name x np2) X.env) :: starEach [] X.env := by rfl) (hpl : (backTo pos (starEach [.Name x np2] X.env)).any (·.1) = false := by rfl) (hK : X.K = K := by rfl) :
    PE X (.Call (.Name "isinstance" np) [e, .Name x np2] [] pos) (tX K W (mUn (fIsC tb) fa)) := PE.imp (pe_callB (k_isi K hK) hg hm bt_isinstance (pa_cons he (pa_cons (pe_gr hx hg2 hxd) pa_nil hs2) hs) (by decide) (by decide) hs hpl) fun σ H Q h => by
  refine un_read (r := fun vx H1 Q => rIsi K [vx, .ref (He.ga K D)] H1 Q) (fun A H x tx tz Q d rx e k => ?_) h
  unfold fIsC at e
  cases et : tyT tx with
  | none => rw [et] at e; cases e
  | some q =>
    rw [et] at e
    cases q with
    | inl m =>
      cases e
      have T := rx.typ (fun C ns l z => by subst z; cases et) et
      have hm : m ∈ ["int", "bool", "str", "NoneType", "list", "tuple"] := by
        cases tx <;> cases et <;> simp
      exact ⟨x, _, _, _, _, rfl, .own _, T.ty, of_decide_eq_true (List.all_eq_true.mp hb m hm), k _ H (L2.Same.refl _) (.bl _)⟩
    | inr C =>
      dsimp only at e
      obtain ⟨b, hlb, rfl⟩ := Option.map_eq_some_iff.mp e
      obtain ⟨c1, c2⟩ := hC _ (lookup_mem hlb)
      have T := rx.typ (fun C' ns l z => by subst z; cases et; exact c1) et
      exact ⟨x, _, _, _, _, rfl, .own _, T.ty, subB_ok c2, k _ H (L2.Same.refl _) (.bl _)⟩
/-! isinstance(x, (list, tuple)) -/
theorem m_isLT {np np1 np2 tp : Pos} {x1 : Nat} {Cs : List Str} (hC : ∀ C ∈ Cs, ClsOk K C) (hm : X.mg "isinstance" = none) (hl : X.mg "list" = none) (ht : X.mg "tuple" = none) (he : PE X e (tX K W fa)) (hg : Gl X "isinstance" := by rfl) (hg1 : Gl X "list" := by rfl) (hg2 : Gl X "tuple" := by rfl)
    (hs : starEach [e, .Tuple [.Name "list" np1, .Name "tuple" np2] x1 tp] X.env = (false, eval e X.env) :: starEach [.Tuple [.Name "list" np1, .Name "tuple" np2] x1 tp] X.env := by rfl)
    (hs2 : starEach [.Tuple [.Name "list" np1, .Name "tuple" np2] x1 tp] X.env = (false, eval (.Tuple [.Name "list" np1, .Name "tuple" np2] x1 tp) X.env) :: starEach [] X.env := by rfl)
    (hs3 : starEach [.Name "list" np1, .Name "tuple" np2] X.env = (false, eval (.Name "list" np1) X.env) :: starEach [.Name "tuple" np2] X.env := by rfl) (hs4 : starEach [.Name "tuple" np2] X.env = (false, eval (.Name "tuple" np2) X.env) :: starEach [] X.env := by rfl)
    (hpl : (backTo pos (starEach [.Tuple [.Name "list" np1, .Name "tuple" np2] x1 tp] X.env)).any (·.1) = false := by rfl) (hK : X.K = K := by rfl) :
    PE X (.Call (.Name "isinstance" np) [e, .Tuple [.Name "list" np1, .Name "tuple" np2] x1 tp] [] pos) (tX K W (mUn (fIsBs Cs ["list", "tuple"]) fa)) :=
  PE.imp (pe_callB (k_isiT K hK) hg hm bt_isinstance (pa_cons he (pa_cons (pe_tup (pa_cons (pe_ty hl bt_list hg1 (by decide) (by decide)) (pa_cons (pe_ty ht bt_tuple hg2 (by decide) (by decide)) pa_nil hs4) hs3)) pa_nil hs2) hs) (by decide) (by decide) hs hpl) fun σ H Q h => by
  refine un_read (r := fun vx H1 Q => 2 ≤ sizeLine ∧ ∀ p, H1 p = none → rIsiT K [vx, V.ref p] (upd H1 p (.tup [V.ty "list", V.ty "tuple"])) Q) (fun A H vx tx tz Q d rx e k => ?_) h
  refine ⟨by decide, fun p hp => ?_⟩
  have s := same_new (o := .tup [V.ty "list", V.ty "tuple"]) hp
  unfold fIsBs at e
  have key : ∀ (u : Value) (b : Bool), Typ K H vx u → (kb u "list" || kb u "tuple") = b → tz = .bl b → rIsiT K [vx, V.ref p] (upd H p (.tup [V.ty "list", V.ty "tuple"])) Q := fun u b T hb et => by
    subst et
    have T' := T.mono s
    refine ⟨vx, p, _, u, [.type "list", .type "tuple"], b, rfl, upd_same, .cons (.ty _) (.cons (.ty _) .nil), T'.ty, ?_, k _ _ s (.bl _)⟩
    have k1 := T'.kit "list" (.inr (.inr (.inr (.inl rfl))))
    have k2 := T'.kit "tuple" (.inr (.inr (.inr (.inr rfl))))
    unfold PySem.W.kitAny
    rw [k1]
    cases q : kb u "list" with
    | true =>
      rw [q] at hb
      rw [← hb]
      rfl
    | false =>
      rw [q] at hb
      show PySem.W.kitAny K u [.type "tuple"] = some b
      unfold PySem.W.kitAny
      rw [k2]
      rw [Bool.false_or] at hb
      rw [hb]
      cases b <;> rfl
  cases et : tyT tx with
  | none => rw [et] at e; cases e
  | some q =>
    rw [et] at e
    cases q with
    | inl m =>
      cases e
      exact key _ _ (rx.typ (fun C ns l z => by subst z; cases et) et) (by simp) rfl
    | inr C =>
      dsimp only at e
      split at e
      · rename_i hc
        cases e
        exact key _ _ (rx.typ (fun C' ns l z => by subst z; cases et; exact hC _ hc) et) (by simp [kb]) rfl
      · cases e
/-! a op= b -/
def sAug (i : Nat) (f : T → T → Option T) (fa : Ev T) : Sv := sAsg (mOp f (mVar i) fa) (gNm i)
theorem s_aug (i : Nat) {x : Str} {op : Operator} {g : Int → Int → Int} {pos' : Pos} (hN : X.N.Nodup) (he : PE X e (tX K W fa)) (ho : PIp X op (ipI g)) (hi : X.N[i]? = some x := by rfl) (hx : Loc X.env.scope x := by first | exact Or.inl rfl | exact Or.inr rfl) (hf : X.fn x = true ∨ X.env.scope.names.lookup x = some .local := by first | exact .inl rfl | exact .inr rfl | assumption) :
    PS X (.AugAssign (.Name x pos') op e pos) (tXS K W (sAug i (oI g) fa)) := PS.imp (ps_aug hN hi hx he ho hf) fun D σ H h => by
  obtain ⟨cf, bs, m, S, ρ, F, h⟩ := h
  have key : RsOk K W bs cf.fl m σ H (RpT K bs) (fun v H1 => D.nx (σ.set i (some v)) H1) (mOp (oI g) (mVar i) fa cf ρ S) := OuOk.ofE F h fun t v m1 H1 S1 _ F1 k1 R1 h1 => by
    unfold gNm at h1
    by_cases q : i < ρ.length
    · rw [if_pos q] at h1
      exact h1 _ m1 H1 (F1.set R1) Kp.refl
    · rw [if_neg q] at h1
      exact h1.elim
  unfold mOp at key
  have k2 := RsOk.bind (RP := fun m' H' v t => σ[i]? = some (some v) ∧ Rep K (mset bs m') H' v t) (Q := fun v H1 => σ[i]? = some (some v) ∧ tX K W fa σ H1 fun y H1 => ipI g v y H1 fun z H2 => D.nx (σ.set i (some z)) H2) F key fun x v m1 H1 S1 F1 k1 R1 h1 => ⟨R1.1, cf, bs, m1, S1, ρ, F1, RsOk.bind F1 h1 fun y vy m2 H2 S2 F2 k2 R2 h2 => by
    have go : ∀ {A : ASet} {tx ty z : T}, Rep K A H2 v tx → Rep K A H2 vy ty → oI g tx ty = some z → (∀ w H', Same H2 H' → Rep K A H' w z → D.nx (σ.set i (some w)) H') → ipI g v vy H2 fun z H2 => D.nx (σ.set i (some z)) H2 := fun rx ry e k => by
      unfold oI at e
      split at e
      · cases e
        cases rx
        cases ry
        exact ⟨_, _, rfl, rfl, k _ H2 (L2.Same.refl _) (.int _)⟩
      · cases e
    have R : Rep K (mset bs m2) H2 v x := Rep.lk k2.lk R1.2
    rcases orV_ok F2 h2 with ⟨z, e, k⟩ | ⟨z, e, k⟩
    · exact go R R2 e k
    · exact go (F2.cs.vw R) (F2.cs.vw R2) e k⟩
  unfold mVar at k2
  split at k2
  · rename_i t e
    obtain ⟨v, hv, r⟩ := F.sl _ _ e
    obtain ⟨h1, h2⟩ := k2 v m H F.cs Kp.refl ⟨hv, r⟩
    exact ⟨v, h1, h2⟩
  · exact k2.elim
/-! a text's signs -/
def mSeqOfS (a : Ev T) : Ev Src := a.bind fun x => match x with
  | .str z => fun _ _ S => .ok (.fix (z.cps.toList.map fun c => T.str ⟨#[c]⟩)) S
  | _ => fun _ _ _ => .st
theorem i_str {tg : Expr} (he : PE X e (tX K W fa)) : PI X tg e (tXI K W (mSeqOfS fa)) := PI.imp (pi_str he) fun σ H R h => by
  obtain ⟨cf, bs, m, S, ρ, F, h⟩ := h
  refine ⟨cf, bs, m, S, ρ, F, RsOk.bind F h fun x vx m1 H1 S1 F1 k1 R1 h1 => ?_⟩
  unfold RpT at R1
  cases R1 with
  | str z =>
    refine ⟨z, rfl, h1 _ m1 H1 F1.cs Kp.refl fun bs' m2 S2 H2 L cs i => ⟨fun t ht => ?_, fun hi => ?_⟩⟩
    · have ht := Option.some.inj ht
      rw [List.getElem?_map] at ht
      obtain ⟨c, hc, rfl⟩ := Option.map_eq_some_iff.mp ht
      rw [Array.getElem?_toList] at hc
      refine ⟨(Array.getElem?_eq_some_iff.mp hc).1, fun y H3 ⟨e, c', hc', ey⟩ => ?_⟩
      rw [hc] at hc'
      cases hc'
      subst e ey
      exact ⟨L2.Same.refl _, .str _⟩
    · have hi := List.getElem?_eq_none_iff.mp (Option.some.inj hi)
      show z.cps.size ≤ i
      simpa using hi
  | _ => exact h1.elim
/-! f(*xs, ..), [*xs, ..] -/
def mStar (fa : Ev T) (fr : Ev (List T)) : Ev (List T) := fa.bind fun x c ρ S => match seqT x with
  | some l => (fr.bind fun m _ _ S => .ok (l ++ m) S) c ρ S
  | none => .st
theorem m_star {es : List Expr} {p : Pos} {fr : Ev (List T)} (he : PE X e (tX K W fa)) (hr : PA X es (tXA K W fr)) (hs : starEach (.Starred e p :: es) X.env = (true, eval e X.env) :: starEach es X.env := by rfl) (hK : X.K = K := by rfl) : PA X (.Starred e p :: es) (tXA K W (mStar fa fr)) := PA.imp (k_star K he hr hs hK) fun σ H Q h => by
  obtain ⟨cf, bs, m, S, ρ, F, h⟩ := h
  refine ⟨cf, bs, m, S, ρ, F, RsOk.bind F h fun x vx m1 H1 S1 F1 k1 R1 h1 => ?_⟩
  unfold RpT at R1
  cases e1 : seqT x with
  | none => simp only [e1] at h1; exact h1.elim
  | some l =>
    simp only [e1] at h1
    obtain ⟨p, xs, rfl, h2, h3⟩ := R1.sq e1
    refine ⟨p, xs, rfl, h2.symm, cf, bs, m1, S1, ρ, F1, RsOk.bind F1 h1 fun y vy m2 H2 S2 F2 k2 R2 h4 => ?_⟩
    exact h4 _ m2 H2 F2.cs Kp.refl (Reps.append (h3.lk k2.lk) R2)
/-! a, b = x, y -/
def sPar2 (i j : Nat) (fr : Ev (List T)) : Sv := fun c ρ S => ouE (fr c ρ S) ρ fun l S => match l with
  | [a, b] => .nx ((ρ.set i (some a)).set j (some b)) S
  | _ => .st
theorem s_par2 (i j : Nat) {x y : Str} {a b : Expr} {fr : Ev (List T)} {px py pt : Pos} {kt k2 pt2} (hN : X.N.Nodup) (ha : PA X [a, b] (tXA K W fr)) (hc : X.calm = true := by rfl) (hi : X.N[i]? = some x := by rfl) (hj : X.N[j]? = some y := by rfl) (hij : i ≠ j := by decide)
    (hx : X.env.scope.names.lookup x = some .local := by rfl) (hy : X.env.scope.names.lookup y = some .local := by rfl) (hz : swappedStores [.Tuple [.Name x px, .Name y py] kt pt] (.Tuple [a, b] k2 pt2) X.env = pure (some [x, y]) := by rfl) (hs : swapsWithSole [.Tuple [.Name x px, .Name y py] kt pt] (.Tuple [a, b] k2 pt2) pos.line X.env = pure false := by rfl) :
    PS X (.Assign [.Tuple [.Name x px, .Name y py] kt pt] (.Tuple [a, b] k2 pt2) pos) (tXS K W (sPar2 i j fr)) := PS.imp (ps_par hc hN hi hj hij hx hy ha hz hs) fun D σ H h => by
  obtain ⟨cf, bs, m, S, ρ, F, h⟩ := h
  refine ⟨cf, bs, m, S, ρ, F, OuOk.ofE F h fun l vs m1 H1 S1 _ F1 k1 R1 h1 => ?_⟩
  unfold RpA at R1
  split at h1
  · cases R1 with
    | cons ra rr =>
      cases rr with
      | cons rb rr =>
        cases rr
        exact ⟨_, _, rfl, h1 _ m1 H1 ((F1.set ra).set rb) Kp.refl⟩
  · exact h1.elim
def sPar3 (i j l : Nat) (fr : Ev (List T)) : Sv := fun c ρ S => ouE (fr c ρ S) ρ fun q S => match q with
  | [a, b, d] => .nx (((ρ.set i (some a)).set j (some b)).set l (some d)) S
  | _ => .st
theorem s_par3 (i j l : Nat) {x y z : Str} {a b c : Expr} {fr : Ev (List T)} {px py pz pt : Pos} {kt k2 pt2} (hN : X.N.Nodup) (ha : PA X [a, b, c] (tXA K W fr)) (hc : X.calm = true := by rfl) (hi : X.N[i]? = some x := by rfl) (hj : X.N[j]? = some y := by rfl) (hl : X.N[l]? = some z := by rfl) (hij : i ≠ j := by decide) (hil : i ≠ l := by decide) (hjl : j ≠ l := by decide)
    (hx : X.env.scope.names.lookup x = some .local := by rfl) (hy : X.env.scope.names.lookup y = some .local := by rfl) (hz : X.env.scope.names.lookup z = some .local := by rfl) (hw : swappedStores [.Tuple [.Name x px, .Name y py, .Name z pz] kt pt] (.Tuple [a, b, c] k2 pt2) X.env = pure (some [x, y, z]) := by rfl)
    (hs : swapsWithSole [.Tuple [.Name x px, .Name y py, .Name z pz] kt pt] (.Tuple [a, b, c] k2 pt2) pos.line X.env = pure false := by rfl) :
    PS X (.Assign [.Tuple [.Name x px, .Name y py, .Name z pz] kt pt] (.Tuple [a, b, c] k2 pt2) pos) (tXS K W (sPar3 i j l fr)) := PS.imp (ps_par3 hc hN hi hj hl hij hil hjl hx hy hz ha hw hs) fun D σ H h => by
  obtain ⟨cf, bs, m, S, ρ, F, h⟩ := h
  refine ⟨cf, bs, m, S, ρ, F, OuOk.ofE F h fun l vs m1 H1 S1 _ F1 k1 R1 h1 => ?_⟩
  unfold RpA at R1
  split at h1
  · cases R1 with
    | cons ra rr =>
      cases rr with
      | cons rb rr =>
        cases rr with
        | cons rc rr =>
          cases rr
          exact ⟨_, _, _, rfl, h1 _ m1 H1 (((F1.set ra).set rb).set rc) Kp.refl⟩
  · exact h1.elim
/-! more numbers -/
def uNeg : T → Option T
  | .int i => some (.int (-i))
  | _ => none
theorem uNeg_ok : UnT K (rU fun i => .int (-i)) uNeg := fun A H x tx tz Q d rx e k => by
  unfold uNeg at e
  split at e
  · cases e
    cases rx
    exact ⟨_, rfl, k _ _ (L2.Same.refl _) (.int _)⟩
  · cases e
def oMul : T → T → Option T := oIc cMul (· * ·)
theorem oMul_ok : OpT K (rI CMul fun i j => .int (i * j)) oMul := oIc_ok fun i j h => by
  unfold cMul at h
  rw [Bool.or_eq_true, decide_eq_true_eq, decide_eq_true_eq] at h
  exact h
def oPow : T → T → Option T := oIc (fun i j => decide (0 ≤ j) && (decide (j ≤ 1000000) && decide (i.natAbs < 2 ^ 64))) fun i j => i ^ j.toNat
theorem oPow_ok : OpT K (rI CPow fun i j => .int (i ^ j.toNat)) oPow := oIc_ok fun i j h => by
  simp only [Bool.and_eq_true, decide_eq_true_eq] at h
  exact h
def oFdiv : T → T → Option T := oIc (fun _ j => decide (0 < j) && decide (j < 2 ^ 200)) (· / ·)
theorem oFdiv_ok : OpT K (rI CDivW fun i j => .int (i / j)) oFdiv := oIc_ok fun i j h => by
  simp only [Bool.and_eq_true, decide_eq_true_eq] at h
  exact wide_div (b := 200) h.1 (by have := h.2; omega) (by decide) (by decide)
theorem q_str : CallR X (.type "str") rStrA := CallR.or call_str_int SkE.call_str_str

/-! list(range(n)) -/
def fListRg : T → Option T
  | .int j => if 0 ≤ j ∧ j ≤ 1000000 then some (.lst (rgT 0 j.toNat)) else none
  | _ => none
theorem reps_rg {A : ASet} {H : Hp} (n : Nat) : Reps K A H ((List.range n).map fun i : Nat => V.int (0 + (i : Int))) (rgT 0 n) := by
  have key : ∀ (l : List Nat), Reps K A H (l.map fun i : Nat => V.int (0 + (i : Int))) (l.map fun i : Nat => T.int (0 + (i : Int))) := fun l => by
    induction l with
    | nil => exact .nil
    | cons a l ih => exact .cons (.int _) ih
  exact key (List.range n)

theorem m_listRg {a : Expr} {p p1 pos1 : Pos} (hl : X.mg "list" = none) (hm : X.mg "range" = none) (he : PE X a (tX K W fa)) (hc : X.calm = true := by rfl) (hg : Gl X "list" := by rfl) (hg2 : Gl X "range" := by rfl) (na : starEach [a] X.env = (false, eval a X.env) :: starEach [] X.env := by rfl)
    (nb : starEach [.Call (.Name "range" p1) [a] [] pos1] X.env = (false, eval (.Call (.Name "range" p1) [a] [] pos1) X.env) :: starEach [] X.env := by rfl) : PE X (.Call (.Name "list" p) [.Call (.Name "range" p1) [a] [] pos1] [] pos) (tX K W (mUn fListRg fa)) := by
  refine PE.imp (pe_listRg hc hg hl (prg_1 hg2 hm he na) nb) fun σ H Q h => ?_
  refine un_read (r := fun v H1 Q => ∃ n, v = V.int n ∧ RgOk 0 n ∧ ∀ q, H1 q = none → Q (.ref q) (upd H1 q (.lst (L2.rgV 0 n)))) (fun A H x tx tz Q d rx e k => ?_) h
  unfold fListRg at e
  split at e
  · split at e
    · rename_i hj
      cases e
      cases rx
      refine ⟨_, rfl, RgOk.of_le (Int.le_refl _) (by omega) (by decide) hj.1, fun q hq => k _ _ (same_new hq) (.lst (d.new hq) upd_same ?_)⟩
      unfold L2.rgV
      rw [Int.sub_zero]
      exact reps_rg _
    · cases e
  · cases e
end
end Tm

/-! N9: own special methods, class methods, dicts of the top, try that passes. -/
namespace Tm
open PySem PySem.Spec PyProof.Rows L2
section
variable {X : Cx} {K : PySem.W.Frag} {W : WX} {e o : Expr} {es : List Expr} {fa fb : Ev T} {fr : Ev (List T)} {pos p apos np : Pos} {Fm : Fn}
mutual
/-- what refers to no cell stands without them -/
theorem Rep.bare {A : ASet} {H : Hp} : ∀ {v : V} {t : T}, Rep K A H v t → okR 0 t = true → Rep K (mset ⟨[], []⟩ []) H v t
  | _, _, .non, _ => .non
  | _, _, .bl b, _ => .bl b
  | _, _, .int i, _ => .int i
  | _, _, .str x, _ => .str x
  | _, _, .tup h r, e => .tup h (Reps.bare r (by unfold okR at e; exact e))
  | _, _, .wt h r, e => .wt h (Reps.bare r (by unfold okR at e; exact e))
  | _, _, .lst na h r, e => .lst (fun z => z.elim (fun z => nomatch z) fun z => nomatch z) h (Reps.bare r (by unfold okR at e; exact e))
  | _, _, .dK na h r, e => .dK (fun z => z.elim (fun z => nomatch z) fun z => nomatch z) h (Reps.bare r (by unfold okR at e; exact e))
  | _, _, .dT na h r, e => .dT (fun z => z.elim (fun z => nomatch z) fun z => nomatch z) h (Reps.bare r (by unfold okR at e; exact e))
  | _, _, .obj na h r, e => .obj (fun z => z.elim (fun z => nomatch z) fun z => nomatch z) h (Reps.bare r (by unfold okR at e; exact e))
  | _, _, .cls C, _ => .cls C
  | _, _, .scr h, _ => .scr (h.imp (fun z => ⟨(fun q => q.elim (fun y => nomatch y) (fun y => nomatch y)), z.2⟩) id)
  | _, _, .ref h, e => by unfold okR at e; simp at e
  | _, _, .fn x, _ => .fn x
  | _, _, .exc na h r, e => .exc (fun z => z.elim (fun z => nomatch z) fun z => nomatch z) h (Reps.bare r (by unfold okR at e; exact e))
theorem Reps.bare {A : ASet} {H : Hp} : ∀ {vs : List V} {l : List T}, Reps K A H vs l → okRs 0 l = true → Reps K (mset ⟨[], []⟩ []) H vs l
  | _, _, .nil, _ => .nil
  | _, _, .cons h r, e => by
    unfold okRs at e
    rw [Bool.and_eq_true] at e
    exact .cons (Rep.bare h e.1) (Reps.bare r e.2)
end
theorem cs_bare {H : Hp} : Cs K ⟨[], []⟩ [] [] H := ⟨rfl, List.nodup_nil, (fun _ h => nomatch h), (fun _ h => nomatch h), (fun n c a h _ => by simp at h), fun _ h => nomatch h⟩
theorem spF_call {A B : ASet} {H : Hp} {vs : List V} {ts : List T} {t : T} {S' : St} {Q : VK} {E : XK} (r : Reps K A H vs ts) (ok : okRs 0 ts = true) (e : Fm ⟨0, 0⟩ ts [] = .ok t S') (sc : scaT t = true) (k : ∀ v H', Same H H' → Rep K B H' v t → Q v H') : spF K Fm vs H Q E := by
  refine ⟨⟨0, 0⟩, ⟨[], []⟩, [], [], ts, cs_bare, (fun _ h => nomatch h), r.bare ok, ?_⟩
  rw [e]
  intro v m' H' cs' k' r'
  exact k v H' (fun b o e => k'.all b o (fun z => nomatch z) e) (Rep.sca r' sc)
/-! ### try whose body does not raise -/
theorem s_try0 {body : List Stmt} {h0 : ExceptHandler} {hs : List ExceptHandler} {g : Sv} (hb : PSs X.nox body (tXS K W g)) : PS X (.Try body (h0 :: hs) [] [] pos) (tXS K W g) := ps_try_thru0 hb
/-! ### str, len of own objects -/
/-- what a special method gives, by the class -/
def spcT (tb : List (Str × Fn)) (ts : List T) : Option T := match ts with
  | .obj C ns l :: r => match tb.lookup C with
    | some Fm => if okRs 0 (T.obj C ns l :: r) = true then (match Fm ⟨0, 0⟩ (T.obj C ns l :: r) [] with
      | .ok t _ => some t
      | _ => none) else none
    | none => none
  | _ => none
structure SpcOk (X : Cx) (K : PySem.W.Frag) (m : Str) (d : Nat) (q : Str × Fn) : Prop where
  ex : ∃ f k, Spm X.K (He.ga K q.1) m f ∧ Dn X.prog X.w X.K X.mg X.base CX0 k f [] (spF K q.2) ∧ Room (k + d) X.A
def bStrO (tb : List (Str × Fn)) (ts : List T) : Option T := (bStr ts).or (match ts with
  | [t] => match spcT tb [t] with
    | some (.str z) => some (.str z)
    | _ => none
  | _ => none)
def rStrT (K : PySem.W.Frag) (tb : List (Str × Fn)) : List V → Hp → VK → Prop := fun xs H Q => rStrA xs H Q ∨ ∃ q ∈ tb, rStrOwn (He.ga K q.1) (spF K q.2) (fun _ _ _ => False) xs H Q
theorem q_strO {tb : List (Str × Fn)} (h : ∀ q ∈ tb, SpcOk X K "__str__" 2 q) : CallR X (.type "str") (rStrT K tb) := by
  intro pins s σ H xs us Q I r hh
  rcases hh with hh | ⟨q, hq, hh⟩
  · exact q_str pins s σ H xs us Q I r hh
  · obtain ⟨f, k, m, D, hr⟩ := (h q hq).ex
    exact call_strOwn m D hr pass0 pins s σ H xs us Q I r hh
theorem spcT_cases {tb : List (Str × Fn)} {ts : List T} {t : T} (e : spcT tb ts = some t) : ∃ C ns l r Fm S', ts = .obj C ns l :: r ∧ (C, Fm) ∈ tb ∧ okRs 0 ts = true ∧ Fm ⟨0, 0⟩ ts [] = .ok t S' := by
  unfold spcT at e
  split at e
  · rename_i C ns l r
    cases e1 : tb.lookup C with
    | none => rw [e1] at e; cases e
    | some Fm =>
      rw [e1] at e
      dsimp only at e
      split at e
      · rename_i q
        cases e2 : Fm ⟨0, 0⟩ (T.obj C ns l :: r) [] with
        | ok u S' =>
          rw [e2] at e
          cases e
          exact ⟨C, ns, l, r, Fm, S', rfl, lookup_mem e1, q, e2⟩
        | ex x S' => rw [e2] at e; cases e
        | st => rw [e2] at e; cases e
      · cases e
  · cases e
theorem bStrO_ok {tb : List (Str × Fn)} : CallT K (rStrT K tb) (bStrO tb) := fun A H xs ts tz Q d rs e k => by
  unfold bStrO at e
  cases e0 : bStr ts with
  | some u =>
    rw [e0] at e
    cases e
    exact .inl (bStr_ok A H xs ts _ Q d rs e0 k)
  | none =>
    rw [e0, Option.none_or] at e
    split at e
    · rename_i t0
      cases e1 : spcT tb [t0] with
      | none => rw [e1] at e; cases e
      | some u =>
        rw [e1] at e
        cases u with
        | str z =>
          cases e
          obtain ⟨C, ns, l, r, Fm, S', q, hm, ok, ef⟩ := spcT_cases e1
          cases q
          refine .inr ⟨(C, Fm), hm, ?_⟩
          cases rs with
          | cons r1 rr =>
            cases rr
            cases r1 with
            | obj na hh rs => exact ⟨_, _, _, rfl, hh, spF_call (ts := [_]) (B := A) (.cons (.obj na hh rs) .nil) ok ef rfl fun v H' s r' => by cases r'; exact ⟨_, rfl, k _ H' s (.str _)⟩⟩
        | _ => cases e
    · cases e
/-- len -/
def bLenO (tb : List (Str × Fn)) (ts : List T) : Option T := (bLen ts).or (match ts with
  | [t] => match spcT tb [t] with
    | some (.int n) => if 0 ≤ n ∧ n < 2 ^ 63 then some (.int n) else none
    | _ => none
  | _ => none)
def rLenT (K : PySem.W.Frag) (tb : List (Str × Fn)) : List V → Hp → VK → Prop := fun xs H Q => rLn K xs H Q ∨ ∃ q ∈ tb, rLenOwn (He.ga K q.1) (spF K q.2) (fun _ _ _ => False) xs H Q
theorem q_lenO {tb : List (Str × Fn)} (h : ∀ q ∈ tb, SpcOk X K "__len__" 1 q) (hK : X.K = K := by rfl) : CallR X (.builtin "len") (rLenT K tb) := by
  intro pins s σ H xs us Q I r hh
  rcases hh with hh | ⟨q, hq, hh⟩
  · exact k_len K hK pins s σ H xs us Q I r hh
  · obtain ⟨f, k, m, D, hr⟩ := (h q hq).ex
    exact call_lenOwn m D hr pass0 pins s σ H xs us Q I r hh
theorem bLenO_ok {tb : List (Str × Fn)} : CallT K (rLenT K tb) (bLenO tb) := fun A H xs ts tz Q d rs e k => by
  unfold bLenO at e
  cases e0 : bLen ts with
  | some u =>
    rw [e0] at e
    cases e
    exact .inl (bLen_ok A H xs ts _ Q d rs e0 k)
  | none =>
    rw [e0, Option.none_or] at e
    split at e
    · rename_i t0
      cases e1 : spcT tb [t0] with
      | none => rw [e1] at e; cases e
      | some u =>
        rw [e1] at e
        cases u with
        | int n =>
          dsimp only at e
          split at e
          · rename_i hn
            cases e
            obtain ⟨C, ns, l, r, Fm, S', q, hm, ok, ef⟩ := spcT_cases e1
            cases q
            refine .inr ⟨(C, Fm), hm, ?_⟩
            cases rs with
            | cons r1 rr =>
              cases rr
              cases r1 with
              | obj na hh rs => exact ⟨_, _, _, rfl, hh, spF_call (ts := [_]) (B := A) (.cons (.obj na hh rs) .nil) ok ef rfl fun v H' s r' => by cases r'; exact ⟨_, rfl, hn.1, hn.2, k _ H' s (.int _)⟩⟩
          · cases e
        | _ => cases e
    · cases e
/-! ### == and != of own objects -/
structure EqOk (X : Cx) (K : PySem.W.Frag) (d : Nat) (q : Str × Fn × List Str) : Prop where
  ex : ∃ f k, Spm X.K (He.ga K q.1) "__eq__" f ∧ Dn X.prog X.w X.K X.mg X.base CX0 k f [] (spF K q.2.1) ∧ Room (k + d) X.A
  ne : NeC X.K (He.ga K q.1)
  nb : nfB X.K (He.ga K q.1) = true
  no : ∀ D ∈ q.2.2, ClsOk K D ∧ PySem.W.notFirst X.K (He.ga K q.1) (.ref (He.ga K D)) = true
def tyOk (Ds : List Str) (b : T) : Bool := match tyT b with
  | some (.inl _) => true
  | some (.inr D) => decide (D ∈ Ds)
  | none => false
def eqT (tb : List (Str × Fn × List Str)) (a b : T) : Option Bool := match a with
  | .obj C ns l => match tb.lookup C with
    | some (Fm, Ds) => if tyOk Ds b = true ∧ okRs 0 [.obj C ns l, b] = true then
        (match Fm ⟨0, 0⟩ [.obj C ns l, b] [] with
        | .ok (.bl c) _ => some c
        | _ => none) else none
    | none => none
  | _ => none
def oEqT (tb : List (Str × Fn × List Str)) (neg : Bool) : T → T → Option T := fun a b => (eqT tb a b).map fun c => T.bl (if neg then !c else c)
def rEqT (K : PySem.W.Frag) (tb : List (Str × Fn × List Str)) (neg : Bool) : R2 := fun x y H Q => ∃ q ∈ tb, rEqOwn K (He.ga K q.1) (spF K q.2.1) (fun _ _ _ => False) neg x y H Q
theorem q_eqT {tb : List (Str × Fn × List Str)} (h : ∀ q ∈ tb, EqOk X K 1 q) (hK : X.K = K := by rfl) : OpR X (compareOp .Eq) (rEqT K tb false) := by
  intro pins s σ H x y v u Q I rx ry hh
  obtain ⟨q, hq, hh⟩ := hh
  obtain ⟨f, k, m, D, hr⟩ := (h q hq).ex
  exact op_eqOwn K m D (hr.mono (by omega)) pass0 hK pins s σ H x y v u Q I rx ry hh
theorem q_neT {tb : List (Str × Fn × List Str)} (h : ∀ q ∈ tb, EqOk X K 1 q) (hK : X.K = K := by rfl) : OpR X (compareOp .NotEq) (rEqT K tb true) := by
  intro pins s σ H x y v u Q I rx ry hh
  obtain ⟨q, hq, hh⟩ := hh
  obtain ⟨f, k, m, D, hr⟩ := (h q hq).ex
  exact op_neOwn K m (h q hq).ne D hr pass0 hK pins s σ H x y v u Q I rx ry hh
/-- what the table says of the classes alone -/
structure EqN (K : PySem.W.Frag) (q : Str × Fn × List Str) : Prop where
  nb : nfB K (He.ga K q.1) = true
  no : ∀ D ∈ q.2.2, ClsOk K D ∧ PySem.W.notFirst K (He.ga K q.1) (.ref (He.ga K D)) = true
theorem oEqT_ok {tb : List (Str × Fn × List Str)} {neg : Bool} (h : ∀ q ∈ tb, EqN K q) : OpT K (rEqT K tb neg) (oEqT tb neg) := fun A H x y tx ty tz Q d rx ry e k => by
  obtain ⟨b, hb, rfl⟩ := Option.map_eq_some_iff.mp e
  unfold eqT at hb
  split at hb
  · rename_i C ns l
    cases e1 : tb.lookup C with
    | none => rw [e1] at hb; cases hb
    | some q =>
      obtain ⟨Fm, Ds⟩ := q
      rw [e1] at hb
      dsimp only at hb
      split at hb
      · rename_i hty
        obtain ⟨hty, ok⟩ := hty
        have hm := lookup_mem e1
        have hk := h _ hm
        cases e2 : Fm ⟨0, 0⟩ [.obj C ns l, ty] [] with
        | ok u as =>
          rw [e2] at hb
          cases u with
          | bl c =>
            cases hb
            refine ⟨_, hm, ?_⟩
            cases rx with
            | obj na hh rs =>
              have run : spF K Fm [_, y] H (fun v H' => ∃ b : Bool, v = .bl b ∧ Q (.bl (if neg then !b else b)) H') (fun _ _ _ => False) := spF_call (ts := [_, _]) (B := A) (.cons (.obj na hh rs) (.cons ry .nil)) ok e2 rfl fun v H' s r' => by
                cases r'
                exact ⟨_, rfl, k _ H' s (.bl _)⟩
              unfold tyOk at hty
              cases et : tyT ty with
              | none => rw [et] at hty; cases hty
              | some kk =>
                rw [et] at hty
                cases kk with
                | inl n =>
                  have T := ry.typ (fun C ns l z => by subst z; cases et) et
                  have hn : n ∈ ["int", "bool", "str", "NoneType", "list", "tuple"] := by
                    cases ty <;> cases et <;> simp
                  have nf := nfB_ok hk.nb hn
                  exact ⟨_, _, _, _, rfl, hh, T.ty, nf, run⟩
                | inr D =>
                  have hD : D ∈ Ds := by simpa using hty
                  obtain ⟨c1, c2⟩ := hk.no D hD
                  have T := ry.typ (fun C' ns l z => by subst z; cases et; exact c1) et
                  exact ⟨_, _, _, _, rfl, hh, T.ty, c2, run⟩
          | _ => cases hb
        | ex x S' => rw [e2] at hb; cases hb
        | st => rw [e2] at hb; cases hb
      · cases hb
  · cases hb
/-! ### class methods; a class that a slot holds -/
def mCm (C : Str) (Fm : Fn) (fr : Ev (List T)) : Ev T := fr.bind fun ts c _ S => Fm c (.cls C :: ts) S
theorem m_cm {CX : CXT} {k : Nat} {C m : Str} {pl : Sem Bool} (hg : X.mg C = some (.ref (He.ga K C))) (cm : cmB X.K (He.ga K C) m = true) (D : Dn X.prog X.w X.K X.mg X.base CX k (He5.wf X.K (He.ga K C) "classmethod" m) [] (spF K Fm)) (hr : Room k X.A) (hx : PassA CX X W) (ha : PA X (e :: es) (tXA K W fr)) (hgl : Gl X C := by rfl) (hcd : (C == ("__debug__" : Str)) = false := by decide)
    (hst : starEach (e :: es) X.env = (false, eval e X.env) :: starEach es X.env := by rfl) (hpl : (backTo pos (starEach es X.env)).any (·.1) = false := by rfl)
    (ht : MCall X (.Name C np) m apos pos (e :: es) pl := by rfl) : PE X (.Call (.Attribute (.Name C np) m apos) (e :: es) [] pos) (tX K W (mCm C Fm fr)) := by
  refine ⟨fun pins s σ H Q I hw => ?_⟩
  refine (pe_cmA (pe_gr hg hgl hcd) cm D hr hx ha hst hpl ht).run pins s σ H Q I ?_
  obtain ⟨cf, bs, m, S, ρ, F, h⟩ := hw
  refine ⟨rfl, cf, bs, m, S, ρ, F, RsOk.bind F h fun ts vs m1 H1 S1 F1 k1 R1 h1 => ?_⟩
  exact RsOk.sp F1 (.cons (.cls C) R1) h1
def mMkL (i : Nat) (Cn : Str) (Fm : Fn) (ds : List T) (fr : Ev (List T)) : Ev T := fun c ρ S => match ρ[i]? with
  | some (some (.cls C)) => if C = Cn then mMk Cn Fm ds fr c ρ S else .st
  | _ => .st
theorem m_mkL {CX : CXT} {k : Nat} {f : Addr} {x Cn : Str} {dvs : List V} {ds : List T} (i : Nat) (M : Mk X.K (He.ga K Cn) f) (D : Dn X.prog X.w X.K X.mg X.base CX k f dvs (spF K Fm)) (hr : Room (k + 1) X.A) (hx : PassA CX X W) (hd : ∀ A H, Reps K A H dvs ds) (ha : PA X (e :: es) (tXA K W fr)) (hN : X.N[i]? = some x := by rfl) (hv : Vis X.env.scope x := by first | exact Or.inl rfl | exact Or.inr (Or.inl rfl) | exact Or.inr (Or.inr rfl))
    (hdb : (x == ("__debug__" : Str)) = false := by decide) (hcd : (x == ("__classdict__" : Str)) = false := by decide)
    (he : starEach (e :: es) X.env = (false, eval e X.env) :: starEach es X.env := by rfl) (hpl : (backTo pos (starEach es X.env)).any (·.1) = false := by rfl) : PE X (.Call (.Name x p) (e :: es) [] pos) (tX K W (mMkL i Cn Fm ds fr)) := by
  refine ⟨fun pins s σ H Q I hw => ?_⟩
  refine (pe_mkLA M D hr hN hv hx ha hdb hcd he hpl).run pins s σ H Q I ?_
  obtain ⟨cf, bs, m, S, ρ, F, h⟩ := hw
  unfold mMkL at h
  split at h
  · rename_i C e1
    split at h
    · rename_i hc
      subst hc
      obtain ⟨v, hv, r⟩ := F.sl _ _ e1
      cases r
      refine ⟨hv, cf, bs, m, S, ρ, F, RsOk.bind F h fun ts vs m1 H1 S1 F1 k1 R1 h1 => fun x dx hx hdx ne => mMk_ok F1 (Reps.append R1 (hd _ _)) h1 x dx hx hdx ne⟩
    · exact h.elim
  · exact h.elim
/-! ### a dict of the top, text keys, plain values -/
def uInKd (tb : List (Str × T)) (neg : Bool) : T → Option T
  | .str z => some (.bl (if neg then !(tb.lookup z).isSome else (tb.lookup z).isSome))
  | _ => none
def uIxKd (tb : List (Str × T)) : T → Option T
  | .str z => tb.lookup z
  | _ => none
/-- what is known of such a dict -/
structure KdOk' (X : Cx) (K : PySem.W.Frag) (d : Addr) (tb : List (Str × T)) : Prop where
  kd : ∃ es n, KDict X.K X.w d es n
  no : ∀ z, tb.lookup z = none → PySem.W.nsIn K d z = some none
  yes : ∀ z t, tb.lookup z = some t → ∃ u v, PySem.W.nsIn K d z = some (some u) ∧ RelV v u ∧ ∀ A H, Rep K A H v t
theorem uInKd_ok {d : Addr} {tb : List (Str × T)} (hd : KdOk' X K d tb) : UnT K (fun v H Q => rInKd K d v (.ref d) H Q) (uInKd tb false) := fun A H x tx tz Q dm rx e k => by
  cases rx with
  | str z =>
    cases e
    cases el : tb.lookup z with
    | none =>
      rw [el] at k
      exact ⟨z, none, rfl, rfl, hd.no z el, k _ H (L2.Same.refl _) (.bl _)⟩
    | some t =>
      rw [el] at k
      obtain ⟨u, v, h5, _⟩ := hd.yes z t el
      exact ⟨z, some u, rfl, rfl, h5, k _ H (L2.Same.refl _) (.bl _)⟩
  | _ => cases e
theorem uNotInKd_ok {d : Addr} {tb : List (Str × T)} (hd : KdOk' X K d tb) : UnT K (fun v H Q => rNotInKd K d v (.ref d) H Q) (uInKd tb true) := fun A H x tx tz Q dm rx e k => by
  cases rx with
  | str z =>
    cases e
    cases el : tb.lookup z with
    | none =>
      rw [el] at k
      exact ⟨z, none, rfl, rfl, hd.no z el, k _ H (L2.Same.refl _) (.bl _)⟩
    | some t =>
      rw [el] at k
      obtain ⟨u, v, h5, _⟩ := hd.yes z t el
      exact ⟨z, some u, rfl, rfl, h5, k _ H (L2.Same.refl _) (.bl _)⟩
  | _ => cases e
theorem uIxKd_ok {d : Addr} {tb : List (Str × T)} (hd : KdOk' X K d tb) : UnT K (fun v H Q => rItemKd K d (.ref d) v H Q) (uIxKd tb) := fun A H x tx tz Q dm rx e k => by
  cases rx with
  | str z =>
    obtain ⟨u, v, h5, h6, h7⟩ := hd.yes z tz e
    exact ⟨z, u, v, rfl, rfl, h5, h6, k _ H (L2.Same.refl _) (h7 _ _)⟩
  | _ => cases e
theorem m_inKd {x : Str} {d : Addr} {tb : List (Str × T)} (hd : KdOk' X K d tb) (hm : X.mg x = some (.ref d)) (ha : PE X e (tX K W fa)) (hg : Gl X x := by rfl) (hxd : (x == ("__debug__" : Str)) = false := by decide) (hb : behindInMarks .In (.Name x np) = false := by rfl) (hK : X.K = K := by rfl) : PE X (.Compare e [.In] [.Name x np] pos) (tX K W (mUn (uInKd tb false) fa)) := PE.imp (pe_cmpR (op_inKd K hd.kd hK) ha (pe_gr hm hg hxd) hb) fun σ H Q h => by
  exact un_read (uInKd_ok hd) h
theorem m_tnotInKd {x : Str} {d : Addr} {tb : List (Str × T)} (hd : KdOk' X K d tb) (hm : X.mg x = some (.ref d)) (ha : PE X e (tX K W fa)) (hg : Gl X x := by rfl) (hxd : (x == ("__debug__" : Str)) = false := by decide) (hb : behindInMarks .NotIn (.Name x np) = false := by rfl) (hK : X.K = K := by rfl) : PT X (.Compare e [.NotIn] [.Name x np] pos) (tXT K W (mTst (mUn (uInKd tb true) fa))) := PT.imp (pt_cmpR (op_notInKd K hd.kd hK) ha (pe_gr hm hg hxd) hb) fun σ H Q h => by
  have h := tst_read h
  exact un_read (r := fun v H Q' => rNotInKd K d v (.ref d) H Q') (uNotInKd_ok hd) h
/-! ### D[x], D a dict of the top -/
theorem m_ixKd {x : Str} {d : Addr} {tb : List (Str × T)} {np : Pos} (hd : KdOk' X K d tb) (hm : X.mg x = some (.ref d)) (ha : PE X e (tX K W fa)) (hs : PlainIx e) (hg : Gl X x := by rfl) (hxd : (x == ("__debug__" : Str)) = false := by decide) (hK : X.K = K := by rfl) : PE X (.Subscript (.Name x np) e pos) (tX K W (mUn (uIxKd tb) fa)) := PE.imp (pe_ix ix_kdict (pe_gr hm hg hxd) ha hs) fun σ H Q h => by
  subst hK
  refine un_read (r := fun vx H1 Q => rIxD X.K X.w (.ref d) vx H1 Q) (fun A H vx tx tz Q dm rx e k => ?_) h
  cases rx with
  | str z =>
    obtain ⟨u, v, h5, h6, h7⟩ := hd.yes z tz e
    obtain ⟨es, n, KD⟩ := hd.kd
    exact ⟨d, z, v, rfl, rfl, ⟨es, n, u, KD.at_, KD.lit, h5, h6⟩, k v H (L2.Same.refl _) (h7 _ _)⟩
  | _ => cases e
end
end Tm

/-! N10: methods of lists in cells; dicts. -/
namespace Tm
open PySem PySem.Spec PyProof.Rows L2
/-! ### methods that change a list -/
def mLm (f : List T → List T → Option (T × List T)) (fo : Ev T) (fr : Ev (List T)) : Ev T := fo.bind fun x c ρ S => match x with
  | .ref n => match S[n]? with
    | some (.lst _) => (fr.bind fun ts c _ S => match S[n]? with
      | some (.lst l) => match f l ts with
        | some (res, l') => if wrOk c n (.lst ts) = true then .ok res (S.set n (.lst l')) else .st
        | none => .st
      | _ => .st) c ρ S
    | _ => .st
  | _ => .st
def LmT (K : PySem.W.Frag) (r : V → List V → Hp → VK → Prop) (f : List T → List T → Option (T × List T)) : Prop := ∀ A H a xs l vs ts res l' Q, H a = some (.lst xs) → Reps K A H xs l → Reps K A H vs ts → f l ts = some (res, l') → (∀ w ys, Rep K A H w res → Reps K A H ys l' → Q w (upd H a (.lst ys))) → r (.ref a) vs H Q
def LmB (f : List T → List T → Option (T × List T)) : Prop := ∀ b l ts res l', f l ts = some (res, l') → okRs b l = true → okRs b ts = true → okRs b l' = true
theorem okRs_app {b : Nat} : ∀ {l m : List T}, okRs b l = true → okRs b m = true → okRs b (l ++ m) = true
  | [], m, _, h => h
  | t :: l, m, h1, h2 => by
    unfold okRs at h1
    rw [Bool.and_eq_true] at h1
    show okRs b (t :: (l ++ m)) = true
    unfold okRs
    rw [h1.1, okRs_app h1.2 h2]
    rfl
theorem okRs_erase {b : Nat} : ∀ {l : List T} (k : Nat), okRs b l = true → okRs b (l.eraseIdx k) = true
  | [], _, h => by simp [okRs]
  | t :: l, 0, h => by
    unfold okRs at h
    rw [Bool.and_eq_true] at h
    exact h.2
  | t :: l, k + 1, h => by
    unfold okRs at h
    rw [Bool.and_eq_true] at h
    show okRs b (t :: l.eraseIdx k) = true
    unfold okRs
    rw [h.1, okRs_erase k h.2]
    rfl
theorem okRs_set {b : Nat} {u : T} (hu : okR b u = true) : ∀ {l : List T} (k : Nat), okRs b l = true → okRs b (l.set k u) = true
  | [], _, h => by simp [okRs]
  | t :: l, 0, h => by
    unfold okRs at h
    rw [Bool.and_eq_true] at h
    show okRs b (u :: l) = true
    unfold okRs
    rw [hu, h.2]
    rfl
  | t :: l, k + 1, h => by
    unfold okRs at h
    rw [Bool.and_eq_true] at h
    show okRs b (t :: l.set k u) = true
    unfold okRs
    rw [h.1, okRs_set hu k h.2]
    rfl
section
variable {X : Cx} {K : PySem.W.Frag} {W : WX} {e o : Expr} {es : List Expr} {fa fb fo : Ev T} {fr : Ev (List T)} {pos apos cpos : Pos} {r : V → List V → Hp → VK → Prop} {f : List T → List T → Option (T × List T)}
/-- a cell is written with a value that may be -/
theorem put_at {cf : Cf} {bs : Bx} {m : List Addr} {S : St} {σ : L2.St} {H : Hp} {ρ : Ro} {n : Nat} {a : Addr} {o o' : HO} {c' u : T} (F : FAt K cf bs m S σ H ρ) (hn : m[n]? = some a) (h0 : H a = some o) (nt : ∀ xs, o ≠ .tup xs) (nf : ∀ x y, o ≠ .frz x y) (hw : wrOk cf n u = true) (hc : Lk (mset bs m) H (mset bs m) (upd H a o') → CellAt K (mset bs m) (upd H a o') a c') (hb : ∀ b ∈ bs.b, n < b → okR b u = true → okR b c' = true) :
    Cs K bs m (S.set n c') (upd H a o') ∧ Kp cf.fl m H m (upd H a o') ∧ Lk (mset bs m) H (mset bs m) (upd H a o') := by
  obtain ⟨L, k, p⟩ := Cs.put (fl := cf.fl) (o' := o') F.cs hn h0 nt nf
  exact ⟨p _ (hc L) fun b h1 h2 => hb b h1 h2 (wrOk_b hw F.bn b h1 h2), k (wrOk_fl hw), L⟩
theorem lm_read {σ : L2.St} {H : Hp} {Q : VK} (ht : LmT K r f) (hB : LmB f) (h : tX K W (mLm f fo fr) σ H Q) : tBM K "list" r (tX K W fo) (tXA K W fr) σ H Q := by
  obtain ⟨cf, bs, m, S, ρ, F, h⟩ := h
  refine ⟨cf, bs, m, S, ρ, F, RsOk.bind F h fun x vx m1 H1 S1 F1 k1 R1 h1 => ?_⟩
  unfold RpT at R1
  cases R1 with
  | @ref a n hn =>
    have hn : m1[n]? = some a := hn
    dsimp only at h1
    cases es : S1[n]? with
    | none => rw [es] at h1; exact h1.elim
    | some cc =>
      rw [es] at h1
      have cl := F1.cs.cell n cc a es hn
      cases cl with
      | lst hh rs =>
        refine ⟨.inl ⟨rfl, _, .inl (.inl hh)⟩, cf, bs, m1, S1, ρ, F1, RsOk.bind F1 h1 fun ts vs m2 H2 S2 F2 k2 R2 h2 => ?_⟩
        have hn2 : m2[n]? = some a := by
          obtain ⟨⟨e, rfl, _⟩, _⟩ := k2
          rw [List.getElem?_append_left (List.getElem?_eq_some_iff.mp hn).1]
          exact hn
        cases es2 : S2[n]? with
        | none => rw [es2] at h2; exact h2.elim
        | some cc2 =>
          rw [es2] at h2
          have cl2 := F2.cs.cell n cc2 a es2 hn2
          cases cl2 with
          | @lst xs l hh2 rs2 =>
            dsimp only at h2
            cases ef : f l ts with
            | none => rw [ef] at h2; exact h2.elim
            | some q =>
              obtain ⟨res, l'⟩ := q
              rw [ef] at h2
              dsimp only at h2
              split at h2
              · rename_i hw
                refine ht _ H2 a _ _ vs ts res l' Q hh2 rs2 R2 ef fun w ys rw' rys => ?_
                obtain ⟨cs3, k3, L3⟩ := put_at (o' := .lst ys) (c' := .lst l') F2 hn2 hh2 (fun _ z => by cases z) (fun _ _ z => by cases z) hw (fun L => .lst upd_same (rys.lk L)) fun b hb hlt ok => by
                  have o1 := F2.cs.old b hb n _ hlt es2
                  unfold okR at o1 ok ⊢
                  exact hB b _ _ _ _ ef o1 ok
                exact h2 w m2 _ cs3 k3 (rw'.lk L3)
              · exact h2.elim
          | _ => exact h2.elim
      | _ => exact h1.elim
  | _ => exact h1.elim
def lApp : List T → List T → Option (T × List T)
  | l, [t] => if l.length < 1000000 then some (.non, l ++ [t]) else none
  | _, _ => none
theorem lApp_ok : LmT K rAppend lApp := fun A H a xs l vs ts res l' Q hh rs rv e k => by
  unfold lApp at e
  split at e
  · split at e
    · rename_i hl
      cases e
      cases rv with
      | cons r1 rr =>
        cases rr
        exact ⟨a, xs, _, rfl, rfl, hh, Nat.lt_of_lt_of_le (by rw [rs.length]; exact hl) (big_le (Nat.le_refl _)), k .non _ .non (rs.append (.cons r1 .nil))⟩
    · cases e
  · cases e
theorem lApp_b : LmB lApp := fun b l ts res l' e h1 h2 => by
  unfold lApp at e
  split at e
  · split at e
    · cases e
      exact okRs_app h1 h2
    · cases e
  · cases e
def lPopAt : List T → List T → Option (T × List T)
  | l, [.int j] => if -(2 ^ 63) ≤ j ∧ j < 2 ^ 63 then match seqIndex? j l.length with
    | some k => match l[k]? with
      | some u => some (u, l.eraseIdx k)
      | none => none
    | none => none else none
  | _, _ => none
theorem lPopAt_ok : LmT K rPopAt lPopAt := fun A H a xs l vs ts res l' Q hh rs rv e k => by
  unfold lPopAt at e
  split at e
  · split at e
    · rename_i hj
      cases e3 : seqIndex? _ l.length with
      | none => rw [e3] at e; cases e
      | some kk =>
        rw [e3] at e
        dsimp only at e
        cases e4 : l[kk]? with
        | none => rw [e4] at e; cases e
        | some u =>
          rw [e4] at e
          cases e
          obtain ⟨w, hw, rw'⟩ := rs.get e4
          cases rv with
          | cons r1 rr =>
            cases rr
            cases r1
            exact ⟨a, xs, _, kk, w, rfl, rfl, hh, hj.1, hj.2, by rw [rs.length]; exact e3, hw, k w _ rw' (rs.erase kk)⟩
    · cases e
  · cases e
theorem lPopAt_b : LmB lPopAt := fun b l ts res l' e h1 h2 => by
  unfold lPopAt at e
  split at e
  · split at e
    · split at e
      · split at e
        · cases e
          exact okRs_erase _ h1
        · cases e
      · cases e
    · cases e
  · cases e
def lPop : List T → List T → Option (T × List T)
  | l, [] => match l[l.length - 1]? with
    | some u => some (u, l.dropLast)
    | none => none
  | _, _ => none
theorem dropLast_erase {α : Type} : ∀ (l : List α), l.dropLast = l.eraseIdx (l.length - 1)
  | [] => rfl
  | [a] => rfl
  | a :: b :: l => by
    have := dropLast_erase (b :: l)
    simp only [List.dropLast_cons₂, List.length_cons, Nat.add_sub_cancel, List.eraseIdx_cons_succ] at this ⊢
    rw [this]
theorem lPop_ok : LmT K rPop lPop := fun A H a xs l vs ts res l' Q hh rs rv e k => by
  unfold lPop at e
  split at e
  · cases e4 : l[l.length - 1]? with
    | none => rw [e4] at e; cases e
    | some u =>
      rw [e4] at e
      cases e
      obtain ⟨w, hw, rw'⟩ := rs.get e4
      cases rv
      refine ⟨a, xs, w, rfl, rfl, hh, by rw [rs.length]; exact hw, k w _ rw' ?_⟩
      rw [dropLast_erase, dropLast_erase, rs.length]
      exact rs.erase _
  · cases e
theorem lPop_b : LmB lPop := fun b l ts res l' e h1 h2 => by
  unfold lPop at e
  split at e
  · split at e
    · cases e
      rw [dropLast_erase]
      exact okRs_erase _ h1
    · cases e
  · cases e
theorem m_app (ho : PE X o (tX K W fo)) (ha : PA X (e :: es) (tXA K W fr)) (hbase : attributeBase o "append" X.env (eval o X.env) = eval o X.env := by rfl)
    (hfew : ((backTo cpos (starEach (e :: es) X.env)).all (fun x => !x.1) && (backToKw cpos (keywordEach [] X.env)).all (fun x => x.1.isSome) && decide ((e :: es).length + ([] : List Keyword).length + (if ([] : List Keyword).isEmpty then 0 else 1) < 30)) = true := by rfl)
    (hline : (apos.endLine == cpos.line) = true := by rfl) (hs : starEach (e :: es) X.env = (false, eval e X.env) :: starEach es X.env := by rfl) (hplain : (backTo cpos (starEach es X.env)).any (·.1) = false := by rfl) (hK : X.K = K := by rfl) :
    PE X (.Call (.Attribute o "append" apos) (e :: es) [] cpos) (tX K W (mLm lApp fo fr)) :=
  PE.imp (k_bm K PySem.F.plainAttrs_list PySem.F.slot_list_append PySem.F.type_list_append mt_append ho ha hbase hfew hline hs hplain hK) fun σ H Q h => lm_read lApp_ok lApp_b h
theorem m_popAt (ho : PE X o (tX K W fo)) (ha : PA X (e :: es) (tXA K W fr)) (hbase : attributeBase o "pop" X.env (eval o X.env) = eval o X.env := by rfl)
    (hfew : ((backTo cpos (starEach (e :: es) X.env)).all (fun x => !x.1) && (backToKw cpos (keywordEach [] X.env)).all (fun x => x.1.isSome) && decide ((e :: es).length + ([] : List Keyword).length + (if ([] : List Keyword).isEmpty then 0 else 1) < 30)) = true := by rfl)
    (hline : (apos.endLine == cpos.line) = true := by rfl) (hs : starEach (e :: es) X.env = (false, eval e X.env) :: starEach es X.env := by rfl) (hplain : (backTo cpos (starEach es X.env)).any (·.1) = false := by rfl) (hK : X.K = K := by rfl) :
    PE X (.Call (.Attribute o "pop" apos) (e :: es) [] cpos) (tX K W (mLm lPopAt fo fr)) :=
  PE.imp (k_bm K PySem.F.plainAttrs_list PySem.F.slot_list_pop PySem.F.type_list_pop mt_popAt ho ha hbase hfew hline hs hplain hK) fun σ H Q h => lm_read lPopAt_ok lPopAt_b h
theorem m_pop (ho : PE X o (tX K W fo)) (hbase : attributeBase o "pop" X.env (eval o X.env) = eval o X.env := by rfl) (hline : (apos.endLine == cpos.line) = true := by rfl) (hK : X.K = K := by rfl) :
    PE X (.Call (.Attribute o "pop" apos) [] [] cpos) (tX K W (mLm lPop fo mNil)) :=
  PE.imp (k_bm0 K PySem.F.plainAttrs_list PySem.F.slot_list_pop PySem.F.type_list_pop mt_pop ho hbase hline hK) fun σ H Q h => by
    obtain ⟨cf, bs, m, S, ρ, F, h⟩ := lm_read (fr := mNil) lPop_ok lPop_b h
    refine ⟨cf, bs, m, S, ρ, F, ?_⟩
    cases e2 : fo cf ρ S with
    | ok a S' =>
      rw [e2] at h
      intro v m' H' cs k' R
      obtain ⟨h1, cf', bs', m2, S2, ρ2, F2, h3⟩ := h v m' H' cs k' R
      exact ⟨h1, h3 [] m2 H' F2.cs Kp.refl .nil⟩
    | ex x S' => rw [e2] at h; exact h
    | st => rw [e2] at h; exact h
/-! ### dicts -/
def keyT : T → Option Key
  | .int i => some (.inl i)
  | .str x => some (.inr x)
  | _ => none
def keysT : List T → Option (List Key)
  | [] => some []
  | t :: l => match keyT t, keysT l with
    | some k, some ks => some (k :: ks)
    | _, _ => none
def putKT {κ : Type} [DecidableEq κ] (kvs : List (κ × T)) (k : κ) (v : T) : List (κ × T) := if kvs.any (fun kv => decide (kv.1 = k)) then kvs.map fun kv => if kv.1 = k then (kv.1, v) else kv else kvs ++ [(k, v)]
def dGet {κ : Type} [DecidableEq κ] : List κ → List T → κ → Option T
  | k0 :: ks, t :: l, k => if k0 = k then some t else dGet ks l k
  | _, _, _ => none
/-- the pairs of a dict -/
def KvR {κ : Type} (K : PySem.W.Frag) (A : ASet) (H : Hp) (kvs : List (κ × V)) (m : List (κ × T)) : Prop := kvs.map (·.1) = m.map (·.1) ∧ Reps K A H (kvs.map (·.2)) (m.map (·.2))
section
variable {κ : Type} [DecidableEq κ] {A B : ASet} {H H' : Hp}
theorem Rep.key {v : V} {t : T} {k : Key} (r : Rep K A H v t) (e : keyT t = some k) : v = kV k := by
  cases r <;> cases e <;> rfl
theorem Reps.keys : ∀ {vs : List V} {l : List T} {ks : List Key}, Reps K A H vs l → keysT l = some ks → vs = ks.map kV
  | _, _, _, .nil, e => by cases e; rfl
  | _, _, _, .cons (t := t) (l := l) h r, e => by
    unfold keysT at e
    cases e1 : keyT t with
    | none => rw [e1] at e; cases e
    | some k =>
      cases e2 : keysT l with
      | none => rw [e1, e2] at e; cases e
      | some ks =>
        rw [e1, e2] at e
        cases e
        rw [h.key e1, Reps.keys r e2]
        rfl
theorem KvR.of {kvs : List (κ × V)} {l : List T} (r : Reps K A H (kvs.map (·.2)) l) : KvR K A H kvs ((kvs.map (·.1)).zip l) := by
  have hl : (kvs.map (·.1)).length = l.length := by rw [← r.length]; simp
  refine ⟨?_, ?_⟩
  · rw [List.map_fst_zip (by omega)]
  · rw [List.map_snd_zip (by omega)]
    exact r
theorem KvR.put {kvs : List (κ × V)} {m : List (κ × T)} {k : κ} {v : V} {t : T} (r : KvR K A H kvs m) (rv : Rep K A H v t) : KvR K A H (putK kvs k v) (putKT m k t) := by
  obtain ⟨h1, h2⟩ := r
  have ea : (kvs.any fun kv => decide (kv.1 = k)) = m.any fun kv => decide (kv.1 = k) := by
    have e1 : (kvs.any fun kv => decide (kv.1 = k)) = (kvs.map (·.1)).any fun x => decide (x = k) := by rw [List.any_map]; rfl
    have e2 : (m.any fun kv => decide (kv.1 = k)) = (m.map (·.1)).any fun x => decide (x = k) := by rw [List.any_map]; rfl
    rw [e1, e2, h1]
  unfold putK putKT
  rw [ea]
  split
  · have key : ∀ {kvs : List (κ × V)} {m : List (κ × T)}, kvs.map (·.1) = m.map (·.1) → Reps K A H (kvs.map (·.2)) (m.map (·.2)) → KvR K A H (kvs.map fun kv => if kv.1 = k then (kv.1, v) else kv) (m.map fun kv => if kv.1 = k then (kv.1, t) else kv) := by
      intro kvs
      induction kvs with
      | nil =>
        intro m e r
        cases m with
        | nil => exact ⟨rfl, .nil⟩
        | cons q m => cases e
      | cons p kvs ih =>
        intro m e r
        cases m with
        | nil => cases e
        | cons q m =>
          simp only [List.map_cons, List.cons.injEq] at e r
          cases r with
          | cons r1 rr =>
            obtain ⟨i1, i2⟩ := ih e.2 rr
            by_cases hk : p.1 = k
            · have hk2 : q.1 = k := by rw [← e.1]; exact hk
              refine ⟨?_, ?_⟩
              · simp only [List.map_cons, if_pos hk, if_pos hk2, i1, e.1]
              · simp only [List.map_cons, if_pos hk, if_pos hk2]
                exact .cons rv i2
            · have hk2 : ¬ q.1 = k := by rw [← e.1]; exact hk
              refine ⟨?_, ?_⟩
              · simp only [List.map_cons, if_neg hk, if_neg hk2, i1, e.1]
              · simp only [List.map_cons, if_neg hk, if_neg hk2]
                exact .cons r1 i2
    exact key h1 h2
  · refine ⟨by simp [h1], ?_⟩
    rw [List.map_append, List.map_append]
    exact h2.append (.cons rv .nil)
theorem dGet_ok : ∀ {kvs : List (κ × V)} {l : List T} {k : κ}, Reps K A H (kvs.map (·.2)) l → (∀ t, dGet (kvs.map (·.1)) l k = some t → ∃ v, valV kvs k = some v ∧ Rep K A H v t) ∧ (dGet (kvs.map (·.1)) l k = none → valV kvs k = none)
  | [], l, k, r => by
    cases r
    exact ⟨fun t e => (by cases e), fun _ => rfl⟩
  | (k0, v0) :: kvs, l, k, r => by
    cases r with
    | @cons _ t0 _ l h r =>
      obtain ⟨i1, i2⟩ := dGet_ok (k := k) r
      by_cases q : k0 = k
      · have e1 : dGet (((k0, v0) :: kvs).map (·.1)) (t0 :: l) k = some t0 := if_pos q
        have e2 : valV ((k0, v0) :: kvs) k = some v0 := valV_pos q
        rw [e1, e2]
        exact ⟨fun t e => (by cases e; exact ⟨_, rfl, h⟩), fun e => (by cases e)⟩
      · have e1 : dGet (((k0, v0) :: kvs).map (·.1)) (t0 :: l) k = dGet (kvs.map (·.1)) l k := if_neg q
        have e2 : valV ((k0, v0) :: kvs) k = valV kvs k := valV_neg q
        rw [e1, e2]
        exact ⟨i1, i2⟩
end
/-- what a dict holds at a key: nothing to be said, or there or not -/
def dictGet : T → T → Option (Option T)
  | .dK ks l, y => match keyT y with
    | some k => some (dGet ks l k)
    | none => none
  | .dT ks l, .tup ys => match keysT ys with
    | some k => some (dGet ks l k)
    | none => none
  | _, _ => none
theorem rd_dk {H : Hp} {a : Addr} {kvs : List (Key × V)} (h : DkAt H a kvs) : Rd H a (.dK kvs) := h
theorem rd_dt {H : Hp} {a : Addr} {kvs : List (List Key × V)} (h : DtAt H a kvs) : Rd H a (.dT kvs) := h
/-- a dict, in a tree or a cell -/
theorem dK_at {bs : Bx} {m : List Addr} {S : St} {H : Hp} (cs : Cs K bs m S H) {v : V} {t : T} (r : Rep K (mset bs m) H v t) {ks : List Key} {l : List T} (e : vw S t = .dK ks l) : ∃ a kvs, v = .ref a ∧ DkAt H a kvs ∧ kvs.map (·.1) = ks ∧ Reps K (mset bs m) H (kvs.map (·.2)) l := by
  cases r with
  | dK na h r =>
    cases e
    exact ⟨_, _, rfl, h, rfl, r⟩
  | ref h =>
    rename_i a n
    have h : m[n]? = some a := h
    have hn : n < S.length := cs.len ▸ (List.getElem?_eq_some_iff.mp h).1
    have es : S[n]? = some S[n] := List.getElem?_eq_getElem hn
    have e : unlk ((S[n]?).getD .non) = .dK ks l := e
    rw [es] at e
    have e : unlk S[n] = .dK ks l := e
    have := cs.cell n _ a es h
    generalize S[n] = cc at this e
    cases this with
    | dK h r => cases e; exact ⟨_, _, rfl, .inl h, rfl, r⟩
    | lkK h r => cases e; exact ⟨_, _, rfl, .inr ⟨_, h⟩, rfl, r⟩
    | _ => cases e
  | _ => cases e
theorem dT_at {bs : Bx} {m : List Addr} {S : St} {H : Hp} (cs : Cs K bs m S H) {v : V} {t : T} (r : Rep K (mset bs m) H v t) {ks : List (List Key)} {l : List T} (e : vw S t = .dT ks l) : ∃ a kvs, v = .ref a ∧ DtAt H a kvs ∧ kvs.map (·.1) = ks ∧ Reps K (mset bs m) H (kvs.map (·.2)) l := by
  cases r with
  | dT na h r =>
    cases e
    exact ⟨_, _, rfl, h, rfl, r⟩
  | ref h =>
    rename_i a n
    have h : m[n]? = some a := h
    have hn : n < S.length := cs.len ▸ (List.getElem?_eq_some_iff.mp h).1
    have es : S[n]? = some S[n] := List.getElem?_eq_getElem hn
    have e : unlk ((S[n]?).getD .non) = .dT ks l := e
    rw [es] at e
    have e : unlk S[n] = .dT ks l := e
    have := cs.cell n _ a es h
    generalize S[n] = cc at this e
    cases this with
    | dT h r => cases e; exact ⟨_, _, rfl, .inl h, rfl, r⟩
    | lkT h r => cases e; exact ⟨_, _, rfl, .inr ⟨_, h⟩, rfl, r⟩
    | _ => cases e
  | _ => cases e
theorem dictGet_ok {bs : Bx} {m : List Addr} {S : St} {H : Hp} (cs : Cs K bs m S H) {v vy : V} {t y : T} {g : Option T} (r : Rep K (mset bs m) H v t) (ry : Rep K (mset bs m) H vy y) (e : dictGet (vw S t) y = some g) : ∃ a, v = .ref a ∧ ∃ ov, DGet H a vy ov ∧ IsD H a ∧ (∀ z, g = some z → ∃ w, ov = some w ∧ Rep K (mset bs m) H w z) ∧ (g = none → ov = none) := by
  cases ev : vw S t with
  | dK ks l =>
    rw [ev] at e
    obtain ⟨a, kvs, rfl, hh, rfl, rs⟩ := dK_at cs r ev
    have e : (match keyT y with | some k => some (dGet (kvs.map (·.1)) l k) | none => none) = some g := e
    cases ek : keyT y with
    | none => rw [ek] at e; cases e
    | some k =>
      rw [ek] at e
      cases e
      obtain ⟨i1, i2⟩ := dGet_ok (k := k) rs
      obtain rfl := ry.key ek
      exact ⟨a, rfl, _, .inl ⟨kvs, k, hh, rfl, rfl⟩, .inl ⟨kvs, hh⟩, i1, i2⟩
  | dT ks l =>
    rw [ev] at e
    obtain ⟨a, kvs, rfl, hh, rfl, rs⟩ := dT_at cs r ev
    cases ry with
    | @tup b _ ys ht rt =>
      have e : (match keysT ys with | some k => some (dGet (kvs.map (·.1)) l k) | none => none) = some g := e
      cases ek : keysT ys with
      | none => rw [ek] at e; cases e
      | some k =>
        rw [ek] at e
        cases e
        obtain ⟨i1, i2⟩ := dGet_ok (k := k) rs
        have := rt.keys ek
        subst this
        exact ⟨a, rfl, _, .inr ⟨kvs, k, _, hh, rfl, ht, rfl⟩, .inr ⟨kvs, hh⟩, i1, i2⟩
    | _ => cases e
  | _ => rw [ev] at e; cases e
/-- x[y]: by lists, tuples, texts, or dicts -/
def mIxA (fa fb : Ev T) : Ev T := fa.bind fun x => fb.bind fun y _ _ S => match dictGet (vw S x) y with
  | some (some z) => .ok z S
  | _ => match oIx (vw S x) y with
    | some z => .ok z S
    | none => .st
theorem PE.or {t t' : TE} (h : PE X e t) (h' : PE X e t') : PE X e (fun σ H Q => t σ H Q ∨ t' σ H Q) := ⟨fun pins s σ H Q I hw => hw.elim (h.run pins s σ H Q I) (h'.run pins s σ H Q I)⟩
theorem PT.or {t t' : TT} (h : PT X e t) (h' : PT X e t') : PT X e (fun σ H Q => t σ H Q ∨ t' σ H Q) := ⟨fun pins s σ H Q I hw => hw.elim (h.run pins s σ H Q I) (h'.run pins s σ H Q I)⟩
theorem m_ixA {b : Expr} (hu : X.A.units + 1 < cLine) (ha : PE X e (tX K W fa)) (hb : PE X b (tX K W fb)) (hs : PlainIx b) (hn : NoSl b := by exact fun _ _ => rfl) (hK : X.K = K := by rfl) : PE X (.Subscript e b pos) (tX K W (mIxA fa fb)) := PE.imp (PE.or (pe_dget hu ha hb hn) (m_ix ha hb hs hK)) fun σ H Q h => by
  obtain ⟨cf, bs, m, S, ρ, F, h⟩ := h
  have key : (∃ x S1 y S2 z, fa cf ρ S = .ok x S1 ∧ fb cf ρ S1 = .ok y S2 ∧ dictGet (vw S2 x) y = some (some z)) ∨ mIxA fa fb cf ρ S = mIx fa fb cf ρ S := by
    unfold mIxA mIx Ev.bind
    cases e1 : fa cf ρ S with
    | ok x S1 =>
      dsimp only
      cases e2 : fb cf ρ S1 with
      | ok y S2 =>
        dsimp only
        cases e3 : dictGet (vw S2 x) y with
        | none => exact .inr rfl
        | some g =>
          cases g with
          | none => exact .inr rfl
          | some z => exact .inl ⟨x, S1, y, S2, z, rfl, e2, e3⟩
      | ex _ _ => exact .inr rfl
      | st => exact .inr rfl
    | ex _ _ => exact .inr rfl
    | st => exact .inr rfl
  rcases key with ⟨x, S1, y, S2, z, e1, e2, e3⟩ | q
  · refine .inl ⟨cf, bs, m, S, ρ, F, RsOk.bindE F h fun x' vx m1 H1 S1' q1 F1 k1 R1 h1 => ⟨cf, bs, m1, S1', ρ, F1, RsOk.bindE F1 h1 fun y' vy m2 H2 S2' q2 F2 k2 R2 h2 => ?_⟩⟩
    rw [e1] at q1
    cases q1
    rw [e2] at q2
    cases q2
    rw [e3] at h2
    have R : Rep K (mset bs m2) H2 vx x := Rep.lk k2.lk R1
    obtain ⟨a, rfl, ov, g1, _, g2, _⟩ := dictGet_ok F2.cs R R2 e3
    obtain ⟨w, rfl, rw'⟩ := g2 z rfl
    exact ⟨a, w, rfl, g1, h2 w m2 H2 F2.cs Kp.refl rw'⟩
  · rw [q] at h
    exact .inr ⟨cf, bs, m, S, ρ, F, h⟩
/-! ### in -/
def mInA (neg : Bool) (f : T → T → Option T) (fa fb : Ev T) : Ev T := fa.bind fun x => fb.bind fun y _ _ S => match dictGet (vw S y) x with
  | some g => .ok (.bl (if neg then !g.isSome else g.isSome)) S
  | none => orV (f x y) (f (vw S x) (vw S y)) S
theorem inA_cases {neg : Bool} {f : T → T → Option T} {cf : Cf} {ρ : Ro} {S : St} : (∃ x S1 y S2 g, fa cf ρ S = .ok x S1 ∧ fb cf ρ S1 = .ok y S2 ∧ dictGet (vw S2 y) x = some g) ∨ mInA neg f fa fb cf ρ S = mOp f fa fb cf ρ S := by
  unfold mInA mOp Ev.bind
  cases e1 : fa cf ρ S with
  | ok x S1 =>
    dsimp only
    cases e2 : fb cf ρ S1 with
    | ok y S2 =>
      dsimp only
      cases e3 : dictGet (vw S2 y) x with
      | none => exact .inr rfl
      | some g => exact .inl ⟨x, S1, y, S2, g, rfl, e2, e3⟩
    | ex _ _ => exact .inr rfl
    | st => exact .inr rfl
  | ex _ _ => exact .inr rfl
  | st => exact .inr rfl
theorem inA_read {neg : Bool} {f : T → T → Option T} {σ : L2.St} {H : Hp} {Q : VK} {cf : Cf} {bs : Bx} {m : List Addr} {S : St} {ρ : Ro} (F : FAt K cf bs m S σ H ρ) (h : RsOk K W bs cf.fl m σ H (RpT K bs) Q (mInA neg f fa fb cf ρ S)) (q : ∃ x S1 y S2 g, fa cf ρ S = .ok x S1 ∧ fb cf ρ S1 = .ok y S2 ∧ dictGet (vw S2 y) x = some g) :
    tX K W fa σ H fun y H1 => tX K W fb σ H1 fun x H2 => ∃ a o, x = .ref a ∧ DGet H2 a y o ∧ Q (.bl (if neg then !o.isSome else o.isSome)) H2 := by
  obtain ⟨x, S1, y, S2, g, e1, e2, e3⟩ := q
  refine ⟨cf, bs, m, S, ρ, F, RsOk.bindE F h fun x' vx m1 H1 S1' q1 F1 k1 R1 h1 => ⟨cf, bs, m1, S1', ρ, F1, RsOk.bindE F1 h1 fun y' vy m2 H2 S2' q2 F2 k2 R2 h2 => ?_⟩⟩
  rw [e1] at q1
  cases q1
  rw [e2] at q2
  cases q2
  rw [e3] at h2
  have R : Rep K (mset bs m2) H2 vx x := Rep.lk k2.lk R1
  obtain ⟨a, rfl, ov, g1, _, g2, g3⟩ := dictGet_ok F2.cs R2 R e3
  have es : ov.isSome = g.isSome := by
    cases g with
    | none =>
      rw [g3 rfl]
      rfl
    | some z =>
      obtain ⟨w, rfl, _⟩ := g2 z rfl
      rfl
  refine ⟨a, ov, rfl, g1, ?_⟩
  rw [es]
  exact h2 _ m2 H2 F2.cs Kp.refl (.bl _)
theorem m_inA {b : Expr} {r : R2} {f : T → T → Option T} (hu : X.A.units + 1 < cLine) (ho : OpR X (compareOp .In) r) (ht : OpT K r f) (ha : PE X e (tX K W fa)) (hb : PE X b (tX K W fb)) (hm : behindInMarks .In b = false := by rfl) : PE X (.Compare e [.In] [b] pos) (tX K W (mInA false f fa fb)) :=
  PE.imp (PE.or (pe_cmp (pc_din hu ha hb) hm) (m_cmp ho ht ha hb hm)) fun σ H Q h => by
    obtain ⟨cf, bs, m, S, ρ, F, h⟩ := h
    rcases inA_cases (fa := fa) (fb := fb) (neg := false) (f := f) (cf := cf) (ρ := ρ) (S := S) with q | q
    · exact .inl (inA_read F h q)
    · rw [q] at h
      exact .inr ⟨cf, bs, m, S, ρ, F, h⟩
theorem m_notInA {b : Expr} {r : R2} {f : T → T → Option T} (hu : X.A.units + 1 < cLine) (ho : OpR X (compareOp .NotIn) r) (ht : OpT K r f) (ha : PE X e (tX K W fa)) (hb : PE X b (tX K W fb)) (hm : behindInMarks .NotIn b = false := by rfl) : PE X (.Compare e [.NotIn] [b] pos) (tX K W (mInA true f fa fb)) :=
  PE.imp (PE.or (pe_cmp (pc_dnotin hu ha hb) hm) (m_cmp ho ht ha hb hm)) fun σ H Q h => by
    obtain ⟨cf, bs, m, S, ρ, F, h⟩ := h
    rcases inA_cases (fa := fa) (fb := fb) (neg := true) (f := f) (cf := cf) (ρ := ρ) (S := S) with q | q
    · exact .inl (inA_read F h q)
    · rw [q] at h
      exact .inr ⟨cf, bs, m, S, ρ, F, h⟩
theorem m_tinA {b : Expr} {r : R2} {f : T → T → Option T} (hu : X.A.units + 1 < cLine) (ho : OpR X (compareOp .In) r) (ht : OpT K r f) (ha : PE X e (tX K W fa)) (hb : PE X b (tX K W fb)) (hm : behindInMarks .In b = false := by rfl) : PT X (.Compare e [.In] [b] pos) (tXT K W (mTst (mInA false f fa fb))) :=
  PT.imp (PT.or (pt_cmp (pc_din hu ha hb) hm) (pt_cmpR ho ha hb hm)) fun σ H Q h => by
    have h := tst_read h
    obtain ⟨cf, bs, m, S, ρ, F, h⟩ := h
    rcases inA_cases (fa := fa) (fb := fb) (neg := false) (f := f) (cf := cf) (ρ := ρ) (S := S) with q | q
    · exact .inl (inA_read F h q)
    · rw [q] at h
      exact .inr (op_read (Q := fun x H1 => ∃ k, x = .bl k ∧ Q k H1) ht ⟨cf, bs, m, S, ρ, F, h⟩)
theorem m_tnotInA {b : Expr} {r : R2} {f : T → T → Option T} (hu : X.A.units + 1 < cLine) (ho : OpR X (compareOp .NotIn) r) (ht : OpT K r f) (ha : PE X e (tX K W fa)) (hb : PE X b (tX K W fb)) (hm : behindInMarks .NotIn b = false := by rfl) : PT X (.Compare e [.NotIn] [b] pos) (tXT K W (mTst (mInA true f fa fb))) :=
  PT.imp (PT.or (pt_cmp (pc_dnotin hu ha hb) hm) (pt_cmpR ho ha hb hm)) fun σ H Q h => by
    have h := tst_read h
    obtain ⟨cf, bs, m, S, ρ, F, h⟩ := h
    rcases inA_cases (fa := fa) (fb := fb) (neg := true) (f := f) (cf := cf) (ρ := ρ) (S := S) with q | q
    · exact .inl (inA_read F h q)
    · rw [q] at h
      exact .inr (op_read (Q := fun x H1 => ∃ k, x = .bl k ∧ Q k H1) ht ⟨cf, bs, m, S, ρ, F, h⟩)
/-! ### d.get(k, x) -/
def isD : T → Bool
  | .dK _ _ => true
  | .dT _ _ => true
  | _ => false
def mGet2 (fo fa fb : Ev T) : Ev T := fo.bind fun x c ρ S => if isD (vw S x) = true then (fa.bind fun y => fb.bind fun z _ _ S => match dictGet (vw S x) y with
  | some g => .ok (g.getD z) S
  | none => .st) c ρ S else .st
theorem isD_ok {bs : Bx} {m : List Addr} {S : St} {H : Hp} (cs : Cs K bs m S H) {v : V} {t : T} (r : Rep K (mset bs m) H v t) (h : isD (vw S t) = true) : ∃ a, v = .ref a ∧ IsD H a := by
  cases ev : vw S t with
  | dK ks l =>
    obtain ⟨a, kvs, rfl, hh, _⟩ := dK_at cs r ev
    exact ⟨a, rfl, .inl ⟨kvs, hh⟩⟩
  | dT ks l =>
    obtain ⟨a, kvs, rfl, hh, _⟩ := dT_at cs r ev
    exact ⟨a, rfl, .inr ⟨kvs, hh⟩⟩
  | _ => rw [ev] at h; cases h
theorem m_get2 {a b : Expr} (hu : X.A.units + 1 < cLine) (ho : PE X o (tX K W fo)) (ha : PE X a (tX K W fa)) (hb : PE X b (tX K W fb)) (hm : M2 X o "get" apos a b cpos := by exact ⟨rfl, rfl, rfl, rfl⟩) : PE X (.Call (.Attribute o "get" apos) [a, b] [] cpos) (tX K W (mGet2 fo fa fb)) := PE.imp (pe_dget2 hu ho ha hb hm) fun σ H Q h => by
  obtain ⟨cf, bs, m, S, ρ, F, h⟩ := h
  refine ⟨cf, bs, m, S, ρ, F, RsOk.bind F h fun x vx m1 H1 S1 F1 k1 R1 h1 => ?_⟩
  split at h1
  · rename_i hd
    obtain ⟨ad, rfl, isd⟩ := isD_ok F1.cs R1 hd
    refine ⟨ad, rfl, isd, cf, bs, m1, S1, ρ, F1, RsOk.bind F1 h1 fun y vy m2 H2 S2 F2 k2 R2 h2 => ⟨cf, bs, m2, S2, ρ, F2, RsOk.bind F2 h2 fun z vz m3 H3 S3 F3 k3 R3 h3 => ?_⟩⟩
    have R : Rep K (mset bs m3) H3 (.ref ad) x := Rep.lk k3.lk (Rep.lk k2.lk R1)
    cases e : dictGet (vw S3 x) y with
    | none => rw [e] at h3; exact h3.elim
    | some g =>
      rw [e] at h3
      obtain ⟨a', ea, ov, g1, _, g2, g3⟩ := dictGet_ok F3.cs R (Rep.lk k3.lk R2) e
      cases ea
      refine ⟨ov, g1, ?_⟩
      cases g with
      | none =>
        rw [g3 rfl]
        exact h3 _ m3 H3 F3.cs Kp.refl R3
      | some u =>
        obtain ⟨w, rfl, rw'⟩ := g2 u rfl
        exact h3 _ m3 H3 F3.cs Kp.refl rw'
  · exact h1.elim
/-! ### x[i] = v -/
theorem PSet.or {t t' : TSet} (h : PSet X t) (h' : PSet X t') : PSet X (fun o i v H Q => t o i v H Q ∨ t' o i v H Q) := fun pins s σ H o i v ov iv u Q I ro ri rv hh => hh.elim (h pins s σ H o i v ov iv u Q I ro ri rv) (h' pins s σ H o i v ov iv u Q I ro ri rv)
def itmPut (c : Cf) (x y t : T) (S : St) : Option St := match x with
  | .ref n => if wrOk c n t = true then match S[n]? with
    | some (.lst l) => match y with
      | .int i => match ixN l.length i with
        | some j => some (S.set n (.lst (l.set j t)))
        | none => none
      | _ => none
    | some (.dK ks l) => match keyT y with
      | some k => if ks.length < 1000000 then some (S.set n (.dK ((putKT (ks.zip l) k t).map (·.1)) ((putKT (ks.zip l) k t).map (·.2)))) else none
      | none => none
    | some (.dT ks l) => match y with
      | .tup ys => match keysT ys with
        | some k => if ks.length < 1000000 then some (S.set n (.dT ((putKT (ks.zip l) k t).map (·.1)) ((putKT (ks.zip l) k t).map (·.2)))) else none
        | none => none
      | _ => none
    | _ => none else none
  | _ => none
theorem okRs_put {κ : Type} [DecidableEq κ] {b : Nat} {k : κ} {t : T} (ht : okR b t = true) {m : List (κ × T)} (h : okRs b (m.map (·.2)) = true) : okRs b ((putKT m k t).map (·.2)) = true := by
  unfold putKT
  split
  · induction m with
    | nil => exact h
    | cons p m ih =>
      simp only [List.map_cons] at h ⊢
      unfold okRs at h ⊢
      rw [Bool.and_eq_true] at h ⊢
      refine ⟨?_, ?_⟩
      · split
        · exact ht
        · exact h.1
      · rename_i q
        clear q ih
        have key : ∀ m : List (κ × T), okRs b (m.map (·.2)) = true → okRs b ((m.map fun kv => if kv.1 = k then (kv.1, t) else kv).map (·.2)) = true := by
          intro m
          induction m with
          | nil => exact fun h => h
          | cons p m ih =>
            intro h
            simp only [List.map_cons] at h ⊢
            unfold okRs at h ⊢
            rw [Bool.and_eq_true] at h ⊢
            refine ⟨?_, ih h.2⟩
            split
            · exact ht
            · exact h.1
        exact key m h.2
  · rw [List.map_append]
    exact okRs_app h (by show okRs b [t] = true; unfold okRs; rw [ht]; rfl)
theorem itmPut_ok {cf : Cf} {bs : Bx} {m : List Addr} {S S' : St} {σ : L2.St} {H : Hp} {ρ : Ro} {x y t : T} {vx vy v : V} {Q : Hp → Prop} (F : FAt K cf bs m S σ H ρ) (rx : Rep K (mset bs m) H vx x) (ry : Rep K (mset bs m) H vy y) (rt : Rep K (mset bs m) H v t) (e : itmPut cf x y t S = some S')
    (k : ∀ H', FAt K cf bs m S' σ H' ρ → Kp cf.fl m H m H' → Q H') : rSetL vx vy v H Q ∨ rSetD vx vy v H Q := by
  unfold itmPut at e
  split at e
  · rename_i n
    split at e
    · rename_i hw
      cases rx with
      | @ref a _ hn =>
        have hn : m[n]? = some a := hn
        cases es : S[n]? with
        | none => rw [es] at e; cases e
        | some cc =>
          rw [es] at e
          have cl := F.cs.cell n cc a es hn
          cases cl with
          | @lst xs l hh rs =>
            dsimp only at e
            split at e
            · rename_i i
              cases ry
              cases ej : ixN l.length i with
              | none => rw [ej] at e; cases e
              | some j =>
                rw [ej] at e
                cases e
                obtain ⟨cs3, k3, L3⟩ := put_at (o' := .lst (xs.set j v)) (c' := .lst (l.set j t)) F hn hh (fun _ z => by cases z) (fun _ _ z => by cases z) hw (fun L => .lst upd_same ((rs.set rt j).lk L)) fun b hb hlt ok => by
                  have o1 := F.cs.old b hb n _ hlt es
                  unfold okR at o1 ⊢
                  exact okRs_set ok j o1
                exact .inl ⟨a, xs, i, j, rfl, rfl, hh, by rw [rs.length]; exact ej, k _ (F.kp cs3 k3) k3⟩
            · cases e
          | @dK kvs l hh rs =>
            dsimp only at e
            cases ek : keyT y with
            | none => rw [ek] at e; cases e
            | some kk =>
              rw [ek] at e
              dsimp only at e
              split at e
              · rename_i hl
                cases e
                have kv := (KvR.of rs).put (k := kk) rt
                obtain ⟨cs3, k3, L3⟩ := put_at (o' := .dK (putK kvs kk v)) (c' := .dK ((putKT ((kvs.map (·.1)).zip l) kk t).map (·.1)) ((putKT ((kvs.map (·.1)).zip l) kk t).map (·.2))) F hn hh (fun _ z => by cases z) (fun _ _ z => by cases z) hw (fun L => by rw [← kv.1]; exact .dK upd_same (kv.2.lk L)) fun b hb hlt ok => by
                  have o1 := F.cs.old b hb n _ hlt es
                  unfold okR at o1 ⊢
                  refine okRs_put ok ?_
                  rw [List.map_snd_zip (by rw [← rs.length]; simp)]
                  exact o1
                obtain rfl := ry.key ek
                exact .inr ⟨a, _, rfl, .inl ⟨kvs, kk, hh, rfl, Nat.lt_of_lt_of_le (by simpa using hl) (big_le (Nat.le_refl _)), rfl⟩, k _ (F.kp cs3 k3) k3⟩
              · cases e
          | @dT kvs l hh rs =>
            dsimp only at e
            split at e
            · rename_i ys
              cases ek : keysT ys with
              | none => rw [ek] at e; cases e
              | some kk =>
                rw [ek] at e
                dsimp only at e
                split at e
                · rename_i hl
                  cases e
                  have kv := (KvR.of rs).put (k := kk) rt
                  obtain ⟨cs3, k3, L3⟩ := put_at (o' := .dT (putK kvs kk v)) (c' := .dT ((putKT ((kvs.map (·.1)).zip l) kk t).map (·.1)) ((putKT ((kvs.map (·.1)).zip l) kk t).map (·.2))) F hn hh (fun _ z => by cases z) (fun _ _ z => by cases z) hw (fun L => by rw [← kv.1]; exact .dT upd_same (kv.2.lk L)) fun b hb hlt ok => by
                    have o1 := F.cs.old b hb n _ hlt es
                    unfold okR at o1 ⊢
                    refine okRs_put ok ?_
                    rw [List.map_snd_zip (by rw [← rs.length]; simp)]
                    exact o1
                  cases ry with
                  | @tup b _ _ ht rt2 =>
                    have := rt2.keys ek
                    subst this
                    exact .inr ⟨a, _, rfl, .inr ⟨kvs, kk, b, hh, rfl, ht, Nat.lt_of_lt_of_le (by simpa using hl) (big_le (Nat.le_refl _)), rfl⟩, k _ (F.kp cs3 k3) k3⟩
                · cases e
            · cases e
          | _ => cases e
    · cases e
  · cases e
def sItm (fo fi fv : Ev T) : Sv := fun c ρ S => ouE (fv c ρ S) ρ fun t S => ouE (fo c ρ S) ρ fun x S => ouE (fi c ρ S) ρ fun y S => match itmPut c x y t S with
  | some S' => .nx ρ S'
  | none => .st
theorem s_itm {i v : Expr} {fi fv : Ev T} {pos' : Pos} (hu : X.A.units + 1 < cLine) (ho : PE X o (tX K W fo)) (hi : PE X i (tX K W fi)) (hv : PE X v (tX K W fv))
    (ha : ∀ v, assign (.Subscript o i pos') X.env v = (do
      let ov ← holding [v] (eval o X.env)
      let iv ← holding [v, ov] (eval i X.env)
      standAt pos'
      holding [v, ov, iv] (setItem ov iv v)
      release [v, ov, iv] []) := by intro _; rfl)
    (hs : swapsWithSole [.Subscript o i pos'] v pos.line X.env = pure false := by rfl) (hw : swappedStores [.Subscript o i pos'] v X.env = pure none := by rfl) (h1 : (assignEach [.Subscript o i pos'] X.env).map (·.2) = [assign (.Subscript o i pos') X.env] := by rfl) :
    PS X (.Assign [.Subscript o i pos'] v pos) (tXS K W (sItm fo fi fv)) := PS.imp (ps_asg hv (pg_sub ho hi (PSet.or set_list (set_dict hu)) ha) hs hw h1) fun D σ H h => by
  obtain ⟨cf, bs, m, S, ρ, F, h⟩ := h
  refine ⟨cf, bs, m, S, ρ, F, OuOk.ofE F h fun t v m1 H1 S1 _ F1 k1 R1 h1 => ⟨cf, bs, m1, S1, ρ, F1, OuOk.ofE F1 h1 fun x vx m2 H2 S2 _ F2 k2 R2 h2 => ⟨cf, bs, m2, S2, ρ, F2, OuOk.ofE F2 h2 fun y vy m3 H3 S3 _ F3 k3 R3 h3 => ?_⟩⟩⟩
  cases e : itmPut cf x y t S3 with
  | none => rw [e] at h3; exact h3.elim
  | some S' =>
    rw [e] at h3
    exact itmPut_ok F3 (Rep.lk k3.lk R2) R3 (Rep.lk k3.lk (Rep.lk k2.lk R1)) e fun H' F' k' => h3 σ m3 H' F' k'
end
end Tm

/-! N11: enumerate, dict comprehensions, sizes. -/
namespace Tm
open PySem PySem.Spec PyProof.Rows L2
open Sem (wp)
def enT (j : Nat) : List T → List T
  | [] => []
  | t :: l => .tup [.int (j : Int), t] :: enT (j + 1) l
theorem enT_get : ∀ {l : List T} {j i : Nat} {t : T}, (enT j l)[i]? = some t → ∃ u, l[i]? = some u ∧ t = .tup [.int ((j + i : Nat) : Int), u]
  | [], j, i, t, h => by simp [enT] at h
  | u :: l, j, 0, t, h => by
    simp [enT] at h
    exact ⟨u, rfl, h.symm⟩
  | u :: l, j, i + 1, t, h => by
    simp only [enT, List.getElem?_cons_succ] at h
    obtain ⟨v, h1, h2⟩ := enT_get h
    refine ⟨v, by simpa using h1, ?_⟩
    rw [h2, Nat.add_assoc, Nat.add_comm 1 i]
theorem enT_length : ∀ (l : List T) (j : Nat), (enT j l).length = l.length
  | [], j => rfl
  | t :: l, j => by simp [enT, enT_length l (j + 1)]
/-- the tuple at a, each item in a new pair -/
def Itp (K : PySem.W.Frag) (a : Addr) : It where
  go := fun i H => ∃ (xs : List V) (x : V), SqT K H a xs ∧ xs[i]? = some x
  yld := fun i H v H' => ∃ q x, v = .ref q ∧ H q = none ∧ H' = upd H q (.tup [.int (i : Nat), x]) ∧ ∀ xs, SqT K H a xs → xs[i]? = some x
  stop := fun i H => ∃ xs : List V, SqT K H a xs ∧ xs.length ≤ i
set_option maxHeartbeats 1000000 in
theorem meets_enumT (ta : Addr) (us : Array Value) : Meets (Builtin.«enumerate.__new__» ⟨[.type "enumerate", .ref ta], []⟩) (fun _ R s0 => s0.heap.IsTuple ta us ∧
      R (.ok (.ret (.ref (s0.heap.push { cls := .type "tuple_iterator", data := .fields #[.ref ta, .int 0 0] }).objs.size)))
        { s0 with heap := (s0.heap.push { cls := .type "tuple_iterator", data := .fields #[.ref ta, .int 0 0] }).push { cls := .type "enumerate", data := .fields #[.none, .bool false, .ref s0.heap.objs.size, rawInt 0, .none, .none] } }) :=
  .of_wp fun P0 w0 A0 R0 s0 hh => by
    obtain ⟨hp, g0, d0, tk0, os0⟩ := s0
    obtain ⟨h1, h2⟩ := hh
    have hsub := sub_enumerate
    have itr : ∀ {A' : Around} {E : Value → Shared → Prop} {Q : Value → Shared → Prop}, Q (.ref hp.objs.size) ⟨hp.push { cls := .type "tuple_iterator", data := .fields #[.ref ta, .int 0 0] }, g0, d0, tk0, os0⟩ → wpAny (model P0 w0) A' (pyIter (.ref ta)) Q E ⟨hp, g0, d0, tk0, os0⟩ := fun z => wpAny_pyIter_tuple h1 z
    wp_walk using itr
    refine wpAny_stack_any fun st0 => wpAny_pure ?_
    split
    · rename_i cc _ _ _ _ _
      cases (cc == Value.type "enumerate")
      · wp_walk using itr
        exact ⟨_, rfl, h2⟩
      · wp_walk using itr
        exact ⟨_, rfl, h2⟩
    · wp_walk using itr
      exact ⟨_, rfl, h2⟩
section
variable {P0 : Program} {w0 : World} {A0 : Around} {E0' : Value → Shared → Prop} {s0 : Shared}
theorem call_enumT {ta : Addr} {us : Array Value} {Q : Value → Shared → Prop} (hT : s0.heap.IsTuple ta us)
    (k : ∀ hp, IsEnum hp (s0.heap.objs.size + 1) s0.heap.objs.size 0 .none → hp.IsTupleIter s0.heap.objs.size ta 0 → (∀ b o, s0.heap.get? b = some o → hp.get? b = some o) → Q (.ref (s0.heap.objs.size + 1)) { s0 with heap := hp }) :
    wpAny (model P0 w0) A0 (call (.type "enumerate") [.ref ta]) Q E0' s0 := by
  refine callType_new F.called_enumerate (by decide) (F.typeCall_enumerate_1 _) (F.newCall_enumerate_1 _) (fun z => F.args_object_init_2 z _) F.entry_enumerate_new (meets_enumT ta us) ⟨hT, ?_⟩
  obtain ⟨ot, eot⟩ : ∃ ot : Obj, ot = { cls := .type "tuple_iterator", data := .fields #[.ref ta, .int 0 0] } := ⟨_, rfl⟩
  rw [← eot]
  have fr : ot.isFreed = false := by rw [eot]; rfl
  have sz : (s0.heap.push ot).objs.size = s0.heap.objs.size + 1 := Heap.size_push ..
  show _ ∧ _
  rw [sz]
  have ie : IsEnum ((s0.heap.push ot).push { cls := .type "enumerate", data := .fields #[.none, .bool false, .ref s0.heap.objs.size, rawInt 0, .none, .none] }) (s0.heap.objs.size + 1) s0.heap.objs.size 0 .none := by
    have z := Heap.get?_push_size (s0.heap.push ot) (o := { cls := .type "enumerate", data := .fields #[.none, .bool false, .ref s0.heap.objs.size, rawInt 0, .none, .none] }) rfl
    rw [sz] at z
    exact z
  exact ⟨⟨_, ie, rfl⟩, k _ ie ⟨ot, Heap.get?_push_of_some _ (Heap.get?_push_size _ fr), by rw [eot], by rw [eot]; rfl⟩ fun b o z => Heap.get?_push_of_some _ (Heap.get?_push_of_some _ z)⟩
end
theorem turn_enumT {P0 : Program} {w0 : World} {K : PySem.W.Frag} {elts : List Expr} {kk : Nat} {tp : Pos} (a en it : Addr) :
    Turn P0 w0 K (.Tuple elts kk tp) (Itp K a) [en, it] en (fun i hp => (∃ old, IsEnum hp en it ((i : Nat) : Int) old) ∧ hp.IsTupleIter it a i ∧ en ≠ it ∧ a ≠ it ∧ a ≠ en) where
  mem := List.mem_cons_self ..
  obj := fun i hp st b hb => by
    obtain ⟨⟨old, h1⟩, ⟨o, h2, h3, h4⟩, _⟩ := st
    rcases List.mem_cons.mp hb with z | z
    · subst z
      exact ⟨_, h1, fun v q => nomatch q⟩
    · rw [List.mem_singleton] at z
      subst z
      exact ⟨o, h2, fun v q => by rw [h4] at q; cases q⟩
  keep := fun i hp hp' st k => by
    obtain ⟨⟨old, h1⟩, h2, h3⟩ := st
    exact ⟨⟨old, k en (by simp) _ h1⟩, h2.at (fun o q => k it (by simp) o q), h3⟩
  item := by
    intro X e1 e2 e3 hc i pins s σ H E I hf st hgo
    subst e1 e2 e3
    obtain ⟨⟨old, h1⟩, h2, ne, na, nb⟩ := st
    obtain ⟨xs, x, hq, hx⟩ := hgo
    obtain ⟨its, rv, pt, hz⟩ := I.tuple hq
    obtain ⟨u, hu, ru⟩ := rv.get hx
    have len : en < s.heap.objs.size := Heap.lt_size h1
    have lit : it < s.heap.objs.size := by
      obtain ⟨_, z, _⟩ := h2
      exact Heap.lt_size z
    have tp : s.heap.IsTuple a its.toArray := pt
    have hi : i < its.toArray.size := by
      have := (List.getElem?_eq_some_iff.mp hu).1
      simpa using this
    have D := Draws.tuple (prog := X.prog) (w := X.w) (A := X.A.in1) (show X.A.in1.handled = none from I.ok.hd hc) it a na its.toArray
    refine wpAny_pyNext_enum_itemD D h1 ⟨h2, tp⟩ hi ne (by simp [ne, Ne.symm nb]) fun y hp tk hy ho hst hT hsz hk => ?_
    have ey : y = u := by
      have hu' : its.toArray[i]? = some u := by simpa using hu
      rw [hu'] at hy
      exact (Option.some.inj hy).symm
    subst ey
    refine ⟨_, rfl, wpAny_letOwnedTupleGo_enum (s := { s with heap := hp, toks := tk + 1 }) ho fun hp2 he2 sb => ?_⟩
    have hT2 : hp2.get? s.heap.objs.size = some { cls := .type "tuple", data := .seq #[.int i tk, y] } := (sb.2 _ (Nat.ne_of_gt len)).trans hT
    have new : ObjOk X.prog X.w (upd H s.heap.objs.size (.tup [.int (i : Nat), x])) hp2 s.heap.objs.size (.tup [.int (i : Nat), x]) := by
      refine ⟨by show 2 ≤ sizeLine; decide, [.int i tk, y], .cons ⟨_, rfl⟩ (.cons ru .nil), ?_⟩
      exact ⟨_, hT2, rfl, _, rfl⟩
    have I1 : Inv X pins σ (upd H s.heap.objs.size (.tup [.int (i : Nat), x])) { s with heap := hp2, toks := tk + 1 } :=
      I.turnedNew (ch := [en, it]) (fun b ob hb z => (sb.2 b (fun q => hb (by rw [q]; simp))).trans (hk b ob (fun q => hb (by rw [q]; simp)) (fun q => hb (by rw [q]; simp)) z)) hf (Nat.le_refl _) new
    refine ⟨.ref s.heap.objs.size, _, I1, rfl, ⟨_, x, rfl, I.hok.fresh (Nat.le_refl _), rfl, fun ys hy => ?_⟩, ⟨⟨y, ?_⟩, hst.1.at (fun o z => (sb.2 it (Ne.symm ne)).trans z), ne, na, nb⟩, fun b hb => ?_⟩
    · rw [I.tuple_inj hy hq]
      exact hx
    · rw [show ((i + 1 : Nat) : Int) = (i : Int) + 1 by omega]
      exact he2
    · have lb : b < s.heap.objs.size := by
        rcases List.mem_cons.mp hb with z | z
        · rw [z]; exact len
        · rw [List.mem_singleton.mp z]; exact lit
      rw [upd_ne (Nat.ne_of_lt lb)]
      exact (hf b hb).1
  done := by
    intro X e1 e2 e3 hc i pins s σ H E I hf st hgo
    subst e1 e2 e3
    obtain ⟨⟨old, h1⟩, h2, ne, na, nb⟩ := st
    obtain ⟨xs, hq, hx⟩ := hgo
    obtain ⟨its, rv, pt, hz⟩ := I.tuple hq
    obtain ⟨f0, f1, f2, f3, f4, f5⟩ := hf it (by simp)
    have tp : s.heap.IsTuple a its.toArray := pt
    have hl := rv.length
    have hno : its.toArray[i]? = none := by simp; omega
    have D : Draws X.prog X.w X.A.in1 it [it, a] i (fun _ _ => True) (fun j hp => hp.IsTupleIter it a j ∧ hp.IsTuple a its.toArray ∧ j = i) :=
      { live := fun _ _ q => by
          obtain ⟨⟨o, ho, _⟩, _⟩ := q
          exact ⟨o, ho⟩
        frame := fun _ _ _ q k => ⟨q.1.at (fun o z => k it (by simp) o z), q.2.1.at (fun o z => k a (by simp) o z), q.2.2⟩
        item := fun j s1 Q1 E1 hj q _ => absurd q.2.2 (Nat.ne_of_lt hj)
        done := fun s1 Q1 E1 q kE => wpAny_nextOf_tuple_end (show X.A.in1.handled = none from I.ok.hd hc) q.1 q.2.1 hno kE }
    exact wpAny_pyNext_enum_endD D h1 ⟨h2, tp, rfl⟩ fun hp eb => ⟨rfl, I.turned (t' := s.toks) (fun b o hb z => eb b o hb z) f0 f1 f3 f4 f5⟩
  self := fun A i s Q E st h => by
    obtain ⟨⟨_, h1⟩, _⟩ := st
    exact wpAny_pyIter_enum h1 h
section
variable {X : Cx} {K : PySem.W.Frag} {W : WX} {e : Expr} {fa : Ev T} {elts : List Expr} {kk : Nat} {tp p pos : Pos}
def iEn2 (K : PySem.W.Frag) (ta : TA) : TI := fun σ H R => ta σ H fun vs H1 => ∃ a xs, vs = [.ref a] ∧ ((SqL K H1 a xs ∧ R (Ite K a) H1) ∨ (SqT K H1 a xs ∧ R (Itp K a) H1))
theorem pi_en2 {ta : TA} (hg : Gl X "enumerate") (hm : X.mg "enumerate" = none) (ha : PA X [e] ta) (hs : starEach [e] X.env = [(false, eval e X.env)]) : PI X (.Tuple elts kk tp) (.Call (.Name "enumerate" p) [e] [] pos) (iEn2 X.K ta) := by
  refine ⟨fun pins s σ H R I h => ?_⟩
  refine Call_ (ld_blt I hg hm boot_enumerate (PyProof.Rows.callWith_type1 (thn (ha.run pos pins s σ H _ I h) fun us s1 q => ?_) hs rfl))
  obtain ⟨vs, H1, I1, r1, a, xs, rfl, q1⟩ := q
  cases r1 with
  | cons r rr =>
    cases rr
    cases r
    have fp : ∀ b ∈ [s1.heap.objs.size + 1, s1.heap.objs.size], FpOk X pins H1 b := fun b hb => by
      have hle : s1.heap.objs.size ≤ b := by
        simp only [List.mem_cons, List.not_mem_nil, or_false] at hb
        omega
      exact I1.fpOk hle (I1.hok.fresh hle)
    rcases q1 with ⟨hq, q⟩ | ⟨hq, q⟩
    · obtain ⟨its, rv, pl, hz⟩ := I1.list hq
      refine call_enumerate_list pl.isList fun hp h1 h2 h3 h4 => wpAny_pyIter_enum h1 ?_
      have I2 : Inv X pins σ H1 { s1 with heap := hp } := I1.kept (t' := s1.toks) h4
      exact ⟨_, [s1.heap.objs.size + 1, s1.heap.objs.size], _, _, H1, rfl, I2, turn_enum a (s1.heap.objs.size + 1) s1.heap.objs.size, ⟨⟨.none, h1⟩, h2, Nat.succ_ne_self _⟩, fp, q⟩
    · obtain ⟨its, rv, pt, hz⟩ := I1.tuple hq
      have tpl : s1.heap.IsTuple a its.toArray := pt
      have la : a < s1.heap.objs.size := by
        obtain ⟨o, ho, _⟩ := tpl
        exact Heap.lt_size ho
      refine call_enumT tpl fun hp h1 h2 h4 => wpAny_pyIter_enum h1 ?_
      have I2 : Inv X pins σ H1 { s1 with heap := hp } := I1.kept (t' := s1.toks) h4
      exact ⟨_, [s1.heap.objs.size + 1, s1.heap.objs.size], _, _, H1, rfl, I2, turn_enumT a (s1.heap.objs.size + 1) s1.heap.objs.size, ⟨⟨.none, h1⟩, h2, Nat.succ_ne_self _, Nat.ne_of_lt la, Nat.ne_of_lt (Nat.lt_succ_of_lt la)⟩, fp, q⟩

def mEnum (fa : Ev T) : Ev Src := fa.bind fun x _ _ S => match seqT x with
  | some l => .ok (.fix (enT 0 l)) S
  | none => match x with
    | .ref n => match S[n]? with
      | some (.lst _) => .ok (.en n) S
      | _ => .st
    | _ => .st
theorem i_enum (hm : X.mg "enumerate" = none) (ha : PE X e (tX K W fa)) (hg : Gl X "enumerate" := by rfl) (hs : starEach [e] X.env = [(false, eval e X.env)] := by rfl) (hs2 : starEach [e] X.env = (false, eval e X.env) :: starEach [] X.env := by rfl) (hK : X.K = K := by rfl) : PI X (.Tuple elts kk tp) (.Call (.Name "enumerate" p) [e] [] pos) (tXI K W (mEnum fa)) := by
  subst hK
  refine PI.imp (pi_en2 hg hm (pa_cons ha pa_nil hs2) hs) fun σ H R h => ?_
  obtain ⟨cf, bs, m, S, ρ, F, h⟩ := h
  refine ⟨cf, bs, m, S, ρ, F, RsOk.bind F h fun x vx m1 H1 S1 F1 k1 R1 h1 => ?_⟩
  have pair : ∀ (C : ASet) (H2 H3 : Hp) (y : V) (i : Nat) (u : T) (q : Addr) (z : V), Rep X.K C H2 z u → y = .ref q → H2 q = none → H3 = upd H2 q (.tup [.int (i : Nat), z]) → Same H2 H3 ∧ Rep X.K C H3 y (.tup [.int ((0 + i : Nat) : Int), u]) := by
    intro C H2 H3 y i u q z rz e1 e2 e3
    subst e1 e3
    have s := same_new (o := .tup [.int (i : Nat), z]) e2
    rw [Nat.zero_add]
    exact ⟨s, .tup upd_same (.cons (.int _) (.cons (rz.same s) .nil))⟩
  unfold RpT at R1
  have tups : ∀ {a : Addr} {l : List T}, (∀ bs' m2 S2 H2, Lk (mset bs m1) H1 (mset bs' m2) H2 → Cs X.K bs' m2 S2 H2 → ∃ xs, SqT X.K H2 a xs ∧ Reps X.K (mset bs' m2) H2 xs l) → RpI X.K bs m1 H1 (Itp X.K a) (.fix (enT 0 l)) := fun {a l} hq bs' m2 S2 H2 L cs i => by
    obtain ⟨xs, hh2, rs2⟩ := hq bs' m2 S2 H2 L cs
    refine ⟨fun t ht => ?_, fun hi => ?_⟩
    · obtain ⟨u, hu, rfl⟩ := enT_get (Option.some.inj ht)
      obtain ⟨z, hz, rz⟩ := rs2.get hu
      refine ⟨⟨_, z, hh2, hz⟩, fun y H3 q => ?_⟩
      obtain ⟨q, z', e1, e2, e3, e4⟩ := q
      have := e4 _ hh2
      rw [hz] at this
      cases this
      exact pair _ H2 H3 y i u q z rz e1 e2 e3
    · have hi := List.getElem?_eq_none_iff.mp (Option.some.inj hi)
      exact ⟨_, hh2, by rw [enT_length] at hi; rw [rs2.length]; exact hi⟩
  cases R1 with
  | lst na hh rs =>
    have rl : Rep X.K (mset bs m1) H1 (.ref _) (.lst _) := .lst na hh rs
    refine ⟨_, _, rfl, .inl ⟨.inl (.inl hh), h1 _ m1 H1 F1.cs Kp.refl fun bs' m2 S2 H2 L cs i => ?_⟩⟩
    have r2 := rl.lk L
    cases r2 with
    | lst na2 hh2 rs2 =>
      refine ⟨fun t ht => ?_, fun hi => ?_⟩
      · obtain ⟨u, hu, rfl⟩ := enT_get (Option.some.inj ht)
        obtain ⟨z, hz, rz⟩ := rs2.get hu
        refine ⟨⟨_, z, .inl (.inl hh2), hz⟩, fun y H3 q => ?_⟩
        obtain ⟨q, z', e1, e2, e3, e4⟩ := q
        have := e4 _ (.inl (.inl hh2))
        rw [hz] at this
        cases this
        exact pair _ H2 H3 y i u q z rz e1 e2 e3
      · have hi := List.getElem?_eq_none_iff.mp (Option.some.inj hi)
        exact ⟨_, .inl (.inl hh2), by rw [enT_length] at hi; rw [rs2.length]; exact hi⟩
  | tup hh rs =>
    refine ⟨_, _, rfl, .inr ⟨.inl (.inl hh), h1 _ m1 H1 F1.cs Kp.refl (tups fun bs' m2 S2 H2 L cs => ?_)⟩⟩
    exact ⟨_, .inl (.inl (L.tup _ _ hh)), rs.lk L⟩
  | wt hh rs =>
    refine ⟨_, _, rfl, .inr ⟨hh _, h1 _ m1 H1 F1.cs Kp.refl (tups fun bs' m2 S2 H2 L cs => ?_)⟩⟩
    exact ⟨_, hh _, rs.lk L⟩
  | @scr a ns hh =>
    refine ⟨_, _, rfl, .inl ⟨hh.sq, h1 _ m1 H1 F1.cs Kp.refl fun bs' m2 S2 H2 L cs i => ?_⟩⟩
    have hh2 := (scr_lk L hh).sq
    have rs2 : Reps X.K (mset bs' m2) H2 (ns.map V.int) (ns.map T.int) := Reps.ints ns
    refine ⟨fun t ht => ?_, fun hi => ?_⟩
    · obtain ⟨u, hu, rfl⟩ := enT_get (Option.some.inj ht)
      obtain ⟨z, hz, rz⟩ := rs2.get hu
      refine ⟨⟨_, z, hh2, hz⟩, fun y H3 q => ?_⟩
      obtain ⟨q, z', e1, e2, e3, e4⟩ := q
      have := e4 _ hh2
      rw [hz] at this
      cases this
      exact pair _ H2 H3 y i u q z rz e1 e2 e3
    · have hi := List.getElem?_eq_none_iff.mp (Option.some.inj hi)
      exact ⟨_, hh2, by rw [enT_length] at hi; rw [rs2.length]; exact hi⟩
  | @ref a n hh =>
    have rr : Rep X.K (mset bs m1) H1 (.ref a) (.ref n) := .ref hh
    have hm : m1[n]? = some a := hh
    dsimp only [seqT] at h1
    cases es : S1[n]? with
    | none => rw [es] at h1; exact h1.elim
    | some cc =>
      rw [es] at h1
      have cl := F1.cs.cell n cc a es hm
      cases cl with
      | lst h r =>
        refine ⟨_, _, rfl, .inl ⟨.inl (.inl h), h1 _ m1 H1 F1.cs Kp.refl fun bs' m2 S2 H2 L cs i => ?_⟩⟩
        have r2 := rr.lk L
        cases r2 with
        | ref h =>
          have h : m2[n]? = some a := h
          have key : ∀ o, srcAt (.en n) S2 i = some o → ∃ xs l, H2 a = some (.lst xs) ∧ Reps X.K (mset bs' m2) H2 xs l ∧ o = l[i]?.map fun x => T.tup [.int (i : Nat), x] := fun o e => by
            have e : (match S2[n]? with | some (.lst l) => some (l[i]?.map fun x => T.tup [.int (i : Nat), x]) | _ => none) = some o := e
            cases es : S2[n]? with
            | none => rw [es] at e; cases e
            | some cc =>
              rw [es] at e
              have := cs.cell n cc a es h
              cases this with
              | lst hh rs => exact ⟨_, _, hh, rs, (Option.some.inj e).symm⟩
              | _ => cases e
          refine ⟨fun t ht => ?_, fun hi => ?_⟩
          · obtain ⟨xs, l, hh, rs, e⟩ := key _ ht
            obtain ⟨u, hu, e2⟩ := Option.map_eq_some_iff.mp e.symm
            subst e2
            obtain ⟨z, hz, rz⟩ := rs.get hu
            refine ⟨⟨_, z, .inl (.inl hh), hz⟩, fun y H3 q => ?_⟩
            obtain ⟨q, z', e1, e2, e3, e4⟩ := q
            have := e4 _ (.inl (.inl hh))
            rw [hz] at this
            cases this
            have p := pair _ H2 H3 y i u q z rz e1 e2 e3
            rw [Nat.zero_add] at p
            exact p
          · obtain ⟨xs, l, hh, rs, e⟩ := key _ hi
            have hi := List.getElem?_eq_none_iff.mp (Option.map_eq_none_iff.mp e.symm)
            exact ⟨_, .inl (.inl hh), by rw [rs.length]; exact hi⟩
      | _ => exact h1.elim
  | _ => exact h1.elim
end
/-! ### dict comprehensions over known things -/
def dcL (g : Tg) (tt : Ev Bool) (te tu : Ev T) : List T → List (Key × T) → Cf → Ro → St → Rs (List (Key × T))
  | [], acc, _, _, S => .ok acc S
  | x :: l, acc, c, ρ, S => match g x c ρ S with
    | some (ρ1, S1) => match tt c ρ1 S1 with
      | .ok true S2 => match te c ρ1 S2 with
        | .ok y S3 => match tu c ρ1 S3 with
          | .ok z S4 => match keyT y with
            | some k => if acc.length < 1000000 then dcL g tt te tu l (putKT acc k z) c ρ S4 else .st
            | none => .st
          | _ => .st
        | _ => .st
      | .ok false S2 => dcL g tt te tu l acc c ρ S2
      | _ => .st
    | none => .st
def mDc (vs : List Nat) (fi : Ev Src) (g : Tg) (tt : Ev Bool) (te tu : Ev T) : Ev T := fi.bind fun src c ρ S => match src with
  | .fix l => match dcL g tt te tu l [] c (wipeS vs ρ) S with
    | .ok acc S' => .ok (.dK (acc.map (·.1)) (acc.map (·.2))) S'
    | _ => .st
  | _ => .st
section
variable {X : Cx} {K : PySem.W.Frag} {W : WX} {fi : Ev Src} {g : Tg} {tt : Ev Bool} {te tu : Ev T} {vs : List Nat}
theorem dc_read {σ : L2.St} {H : Hp} {Q : VK} (h : tX K W (mDc vs fi g tt te tu) σ H Q) : tDc (tXI K W fi) (tXG K vs g) (tXT K W tt) (tX K W te) (tX K W tu) vs σ H Q := by
  obtain ⟨cf, bs, m, S, ρ, F, h⟩ := h
  refine ⟨cf, bs, m, S, ρ, F, RsOk.bind F h fun src J m1 H1 S1 F1 k1 R1 h1 => ?_⟩
  intro D hD
  cases src with
  | cell n => exact h1.elim
  | en n => exact h1.elim
  | fix l =>
    dsimp only at h1
    cases el : dcL g tt te tu l [] cf (wipeS vs ρ) S1 with
    | ex y S' => rw [el] at h1; exact h1.elim
    | st => rw [el] at h1; exact h1.elim
    | ok accE SE =>
      rw [el] at h1
      have sD : Same H1 (upd H1 D (.dK [])) := same_new hD
      have nD : ∀ {m2 S2 H2}, Cs K (bs.hide D) m2 S2 H2 → D ∉ m2 := fun cs => (cs.hid D (List.mem_cons_self ..)).1
      refine ⟨fun i k H' => k = l.length - i ∧ i ≤ l.length ∧ ∃ m' S' xs acc, FAt K cf (bs.hide D) m' S' (L2.wipe σ vs) H' (wipeS vs ρ) ∧ Kp cf.fl m1 H1 m' H' ∧ Lk (mset bs m1) H1 (mset (bs.hide D) m') H' ∧ H' D = some (.dK xs) ∧ KvR K (mset (bs.hide D) m') H' xs acc ∧ dcL g tt te tu (l.drop i) acc cf (wipeS vs ρ) S' = .ok accE SE,
        ⟨_, rfl, Nat.zero_le _, m1, S1, [], [], (hide_at F1 hD).wipe vs, Kp.of_same sD, lk_hide hD sD, upd_same, ⟨rfl, .nil⟩, el⟩, ?_⟩
      rintro i k H' ⟨rfl, hi, m', S', xs, acc, F', k', L', hx', rs', e'⟩
      obtain ⟨w1, w2⟩ := R1 (bs.hide D) m' S' H' L' F'.cs i
      by_cases hlt : i < l.length
      · have ei : l[i]? = some l[i] := List.getElem?_eq_getElem hlt
        obtain ⟨hgo, hy⟩ := w1 _ (congrArg some ei)
        rw [List.drop_eq_getElem_cons hlt] at e'
        refine .inr ⟨hgo, fun H2 => ∃ m' S' xs acc, FAt K cf (bs.hide D) m' S' (L2.wipe σ vs) H2 (wipeS vs ρ) ∧ Kp cf.fl m1 H1 m' H2 ∧ Lk (mset bs m1) H1 (mset (bs.hide D) m') H2 ∧ H2 D = some (.dK xs) ∧ KvR K (mset (bs.hide D) m') H2 xs acc ∧ dcL g tt te tu (l.drop (i + 1)) acc cf (wipeS vs ρ) S' = .ok accE SE, fun H2 q => ⟨_, by omega, rfl, hlt, q⟩, fun x H3 yl => ?_⟩
        obtain ⟨s3, r3⟩ := hy x H3 yl
        have F3 := F'.same s3
        have k3 := k'.trans (Kp.of_same s3)
        have L3 : Lk (mset bs m1) H1 (mset (bs.hide D) m') H3 := L'.trans (Lk.of_same s3)
        have hx3 : H3 D = some (.dK xs) := s3 _ _ hx'
        have rs3 : KvR K (mset (bs.hide D) m') H3 xs acc := ⟨rs'.1, rs'.2.same s3⟩
        unfold dcL at e'
        cases e4 : g l[i] cf (wipeS vs ρ) S' with
        | none => rw [e4] at e'; cases e'
        | some q =>
          obtain ⟨ρ4, S4⟩ := q
          rw [e4] at e'
          dsimp only at e'
          refine ⟨cf, bs.hide D, m', S', wipeS vs ρ, l[i], F3, r3, ρ4, S4, e4, fun σ4 H4 F4 k4 o4 => ⟨by rw [wipe_oth o4]; exact wipe_wipe σ vs, cf, bs.hide D, m', S4, ρ4, F4, ?_⟩⟩
          have hx4 : H4 D = some (.dK xs) := k4.all _ _ (fun z => nD F3.cs (List.mem_of_mem_drop z)) hx3
          have rs4 : KvR K (mset (bs.hide D) m') H4 xs acc := ⟨rs3.1, rs3.2.lk k4.lk⟩
          cases e5 : tt cf ρ4 S4 with
          | ex y S5 => rw [e5] at e'; cases e'
          | st => rw [e5] at e'; cases e'
          | ok b S5 =>
            rw [e5] at e'
            intro v m5 H5 cs5 k5 R5
            cases R5
            have F5 := F4.kp cs5 k5
            have hx5 : H5 D = some (.dK xs) := k5.all _ _ (fun z => nD F4.cs (List.mem_of_mem_drop z)) hx4
            have rs5 : KvR K (mset (bs.hide D) m5) H5 xs acc := ⟨rs4.1, rs4.2.lk k5.lk⟩
            have k35 := k4.trans k5
            cases b with
            | true =>
              dsimp only at e'
              refine iteT ⟨cf, bs.hide D, m5, S5, ρ4, F5, ?_⟩
              cases e6 : te cf ρ4 S5 with
              | ex y S6 => rw [e6] at e'; cases e'
              | st => rw [e6] at e'; cases e'
              | ok y S6 =>
                rw [e6] at e'
                dsimp only at e'
                intro w m6 H6 cs6 k6 R6
                have F6 := F5.kp cs6 k6
                have hx6 : H6 D = some (.dK xs) := k6.all _ _ (fun z => nD F5.cs (List.mem_of_mem_drop z)) hx5
                have rs6 : KvR K (mset (bs.hide D) m6) H6 xs acc := ⟨rs5.1, rs5.2.lk k6.lk⟩
                have k36 := k35.trans k6
                refine ⟨cf, bs.hide D, m6, S6, ρ4, F6, ?_⟩
                cases e8 : tu cf ρ4 S6 with
                | ex y S7 => rw [e8] at e'; cases e'
                | st => rw [e8] at e'; cases e'
                | ok y2 S7 =>
                  rw [e8] at e'
                  dsimp only at e'
                  intro w2 m7 H7 cs7 k7 R7
                  have hx7 : H7 D = some (.dK xs) := k7.all _ _ (fun z => nD F6.cs (List.mem_of_mem_drop z)) hx6
                  have rs7 : KvR K (mset (bs.hide D) m7) H7 xs acc := ⟨rs6.1, rs6.2.lk k7.lk⟩
                  have k37 := k36.trans k7
                  cases ek : keyT y with
                  | none => rw [ek] at e'; cases e'
                  | some kk =>
                    rw [ek] at e'
                    dsimp only at e'
                    split at e'
                    · rename_i hlen
                      have nt : ∀ ys, HO.dK xs ≠ .tup ys := fun _ z => by cases z
                      have nf : ∀ a b, HO.dK xs ≠ .frz a b := fun _ _ z => by cases z
                      have L9 := lk_wr (bs := bs) (m := m7) (o' := .dK (putK xs kk w2)) hx7 nt nf
                      have cs9 := cs7.wr (o' := .dK (putK xs kk w2)) hx7 nt nf
                      have F9 : FAt K cf (bs.hide D) m7 S7 (L2.wipe σ vs) (upd H7 D (.dK (putK xs kk w2))) (wipeS vs ρ) := by
                        have F8 := F3.kp cs7 k37
                        exact ⟨cs9, F8.bn, F8.len, fun i u h => by
                          obtain ⟨v, ev, r⟩ := F8.sl i u h
                          exact ⟨v, ev, r.lk L9⟩⟩
                      have R7 : Rep K (mset (bs.hide D) m7) H7 w2 y2 := R7
                      have R6 : Rep K (mset (bs.hide D) m6) H6 w y := R6
                      have rl : xs.length = acc.length := by
                        have := congrArg List.length rs7.1
                        simpa using this
                      refine ⟨xs, kk, R6.key ek, hx7, Nat.lt_of_lt_of_le (by rw [rl]; exact hlen) (big_le (Nat.le_refl _)), m7, S7, putK xs kk w2, putKT acc kk y2, F9, kp_wr (k3.trans k37) hD hx7 nt nf, (L3.trans k37.lk).trans L9, upd_same, ?_, e'⟩
                      have := rs7.put (k := kk) R7
                      exact ⟨this.1, this.2.lk L9⟩
                    · cases e'
            | false => exact iteF ⟨m5, S5, xs, acc, F3.kp cs5 k35, k3.trans k35, L3.trans k35.lk, hx5, rs5, e'⟩
      · have hi' : i = l.length := by omega
        subst hi'
        have stp := w2 (congrArg some (List.getElem?_eq_none (Nat.le_refl _)))
        rw [List.drop_length] at e'
        unfold dcL at e'
        cases e'
        refine .inl ⟨stp, h1 _ m' H' F'.cs.show k' ?_⟩
        rw [← rs'.1]
        exact .dK (fun z => z.elim (nD F'.cs) fun z => by
          obtain ⟨o, e⟩ := (F1.cs.hid D z).2
          rw [hD] at e
          cases e) (.inl hx') (rs'.2.lk lk_show)
theorem m_dc {kx vx tg iter : Expr} {ifs : List Expr} {scope : Scope} {own : List (Str × Nat)} {pos : Pos} (hc : X.calm = true) (hN : X.N.Nodup) (hi : PI X tg iter (tXI K W fi)) (ok : BlkOk X.N X.env.scope scope own)
    (hg : ∀ (s : Shared) (H : Hp) (C : Addr) (cl : List (Str × Addr)) (fp : List Addr), PG (X.blk s H scope (compEnvC scope cl C X.env) fp) tg (tXG K (own.map (·.2)) g)) (ht : ∀ (s : Shared) (H : Hp) (C : Addr) (cl : List (Str × Addr)) (fp : List Addr), PTs (X.blk s H scope (compEnvC scope cl C X.env) fp) ifs (tXT K W tt))
    (hk : ∀ (s : Shared) (H : Hp) (C : Addr) (cl : List (Str × Addr)) (fp : List Addr), PE (X.blk s H scope (compEnvC scope cl C X.env) fp) kx (tX K W te))
    (he : ∀ (s : Shared) (H : Hp) (C : Addr) (cl : List (Str × Addr)) (fp : List Addr), PE (X.blk s H scope (compEnvC scope cl C X.env) fp) vx (tX K W tu)) (hs : ∀ x, foldedSetIterable iter X.env x = pure x := by intro _; rfl) :
    PE X (.DictComp kx vx [⟨tg, iter, ifs, 0⟩] scope pos) (tX K W (mDc (own.map (·.2)) fi g tt te tu)) :=
  PE.imp (pe_dc hc hN hi ok hg ht hk he hs) fun σ H Q h => dc_read h
end
section
variable {X : Cx} {K : PySem.W.Frag} {W : WX} {e : Expr} {fa : Ev T} {pos : Pos}
/-- len of a dict -/
def bLenD : List T → Option T
  | [.dK ks _] => some (.int ks.length)
  | _ => none
def rLenR : List V → Hp → VK → Prop := fun xs H Q => ∃ (a : Addr) (kvs : List (Key × V)), xs = [V.ref a] ∧ Rd H a (.dK kvs) ∧ Q (.int kvs.length) H
theorem call_lenR : CallR X (.builtin "len") rLenR := by
  intro pins s σ H xs us Q I r h
  obtain ⟨a, kvs, rfl, hr, q⟩ := h
  cases r with
  | cons ru rr =>
    cases rr
    cases ru
    exact d_len I hr fun t s' I' => ⟨.int kvs.length, H, I', ⟨t, rfl⟩, q⟩
theorem bLenD_ok : CallT K rLenR bLenD := fun A H xs ts tz Q d rs e k => by
  unfold bLenD at e
  split at e
  · cases e
    cases rs with
    | cons r rs =>
      cases rs
      cases r with
      | dK na h r =>
        refine ⟨_, _, rfl, h, ?_⟩
        rw [List.length_map] at k
        exact k _ _ (L2.Same.refl _) (.int _)
  · cases e
theorem CallT.or {r r' : List V → Hp → VK → Prop} {f g : List T → Option T} (h : CallT K r f) (h' : CallT K r' g) : CallT K (fun x H Q => r x H Q ∨ r' x H Q) (fun a => (f a).or (g a)) := fun A H xs ts tz Q d rs e k => by
  dsimp only at e
  cases e1 : f ts with
  | some u =>
    rw [e1] at e
    cases e
    exact .inl (h A H xs ts _ Q d rs e1 k)
  | none =>
    rw [e1] at e
    exact .inr (h' A H xs ts tz Q d rs e k)
def bLenA : List T → Option T := fun ts => (bLen ts).or (bLenD ts)
theorem q_lenA (hK : X.K = K := by rfl) : CallR X (.builtin "len") (fun xs H Q => rLn K xs H Q ∨ rLenR xs H Q) := CallR.or (k_len K hK) call_lenR
theorem bLenA_ok : CallT K (fun xs H Q => rLn K xs H Q ∨ rLenR xs H Q) bLenA := CallT.or bLen_ok bLenD_ok
/-- len(set(x)) == len(x), x ints -/
def uNd : T → Option T := fun t => match (seqT t).bind toI with
  | some ns => if ns.length ≤ 1000 then some (.bl (decide ns.Nodup)) else none
  | none => none

theorem m_setEq (i : Nat) {y : Str} {p1 p2 p3 q1 q2 q3 np np2 : Pos} (hm : X.mg "len" = none) (hm2 : X.mg "set" = none) (hN : X.N[i]? = some y := by rfl) (hvis : Vis X.env.scope y := by first | exact Or.inl rfl | exact Or.inr (Or.inl rfl) | exact Or.inr (Or.inr rfl)) (hyd : (y == ("__debug__" : Str)) = false := by decide)
    (hcd : (y == ("__classdict__" : Str)) = false := by decide) (hg : Gl X "len" := by rfl) (hg2 : Gl X "set" := by rfl) (hc : X.calm = true := by rfl) (na : starEach [.Name y np] X.env = (false, eval (.Name y np) X.env) :: starEach [] X.env := by rfl) (nb : starEach [.Name y np2] X.env = (false, eval (.Name y np2) X.env) :: starEach [] X.env := by rfl) (hK : X.K = K := by rfl) :
    PE X (.Compare (.Call (.Name "len" p1) [.Call (.Name "set" p2) [.Name y np] [] q2] [] q1) [.Eq] [.Call (.Name "len" p3) [.Name y np2] [] q3] pos) (tX K W (mUn uNd (mVar i))) :=
  PE.imp (pe_cmpR op_eq (pe_lenSet K hm hm2 (pe_var hN hvis hyd hcd) hg hg2 hc na hK) (pe_callB (k_len K hK) hg hm bt_len (pa_cons (pe_var hN hvis hyd hcd) pa_nil nb) (by decide) (by decide) nb rfl) (nomark _)) fun σ H Q h => by
  obtain ⟨cf, bs, m, S, ρ, F, h⟩ := h
  unfold mUn Ev.bind mVar at h
  cases ei : ρ[i]? with
  | none => rw [ei] at h; exact h.elim
  | some so =>
    rw [ei] at h
    cases so with
    | none => exact h.elim
    | some a =>
      dsimp only at h
      obtain ⟨v, hv, r⟩ := F.sl _ _ ei
      obtain ⟨A, t, z, r, e', k⟩ : ∃ A t z, Rep K A H v t ∧ uNd t = some z ∧ ∀ w H', Same H H' → Rep K A H' w z → Q w H' := by
        rcases orV_ok F h with ⟨z, e, k⟩ | ⟨z, e, k⟩
        · exact ⟨_, _, z, r, e, k⟩
        · exact ⟨_, _, z, F.cs.vw r, e, k⟩
      unfold uNd at e'
      cases e1 : seqT t with
      | none => rw [e1] at e'; cases e'
      | some l =>
        obtain ⟨p, xs, rfl, h2, rs⟩ := r.sq e1
        rw [e1, Option.bind_some] at e'
        cases e2 : toI l with
        | none => rw [e2] at e'; cases e'
        | some ns =>
          rw [e2] at e'
          dsimp only at e'
          split at e'
          · rename_i hl
            cases e'
            rw [toI_eq e2] at rs
            have := rs.of_ints
            subst this
            refine ⟨_, hv, p, ns, rfl, h2, hl, fun m hmn => ?_⟩
            refine ⟨_, hv, _, ns.length, rfl, ?_, rfl, ?_⟩
            · rcases h2 with h2 | h2
              · exact .inl ⟨_, h2, by rw [List.length_map]⟩
              · exact .inr ⟨_, h2, by rw [List.length_map]⟩
            · have : decide (V.int m = V.int ns.length) = decide ns.Nodup := by
                by_cases q : ns.Nodup
                · rw [decide_eq_true q, hmn.mpr q, decide_eq_true rfl]
                · rw [decide_eq_false q]
                  refine decide_eq_false fun z => q (hmn.mp ?_)
                  have := V.int.inj z
                  omega
              rw [this]
              exact k _ H (L2.Same.refl _) (.bl _)
          · cases e'
end
end Tm

/-! N12: names of the top, bools that are, properties, the law's start. -/
namespace Tm
open PySem PySem.Spec PyProof.Rows L2
theorem hu1 {a c : Nat} (h : a + 64 < c) : a + 1 < c := by omega
section
variable {X : Cx} {K : PySem.W.Frag} {W : WX} {e o : Expr} {fa fb : Ev T} {pos apos np : Pos}
theorem m_gcls {C : Str} (hm : X.mg C = some (.ref (He.ga K C))) (hg : Gl X C := by rfl) (hd : (C == ("__debug__" : Str)) = false := by decide) : PE X (.Name C pos) (tX K W (mC (.cls C))) := m_const (pe_gr hm hg hd) fun _ _ => .cls C
theorem m_gfn {x : Str} (hm : X.mg x = some (.ref (He.ga K x))) (hg : Gl X x := by rfl) (hd : (x == ("__debug__" : Str)) = false := by decide) : PE X (.Name x pos) (tX K W (mC (.fn x))) := m_const (pe_gr hm hg hd) fun _ _ => .fn x
def oIsB : T → T → Option T
  | .bl a, .bl b => some (.bl (decide (a = b)))
  | .non, .bl _ => some (.bl false)
  | _, _ => none
def oNotB : T → T → Option T
  | .bl a, .bl b => some (.bl (!decide (a = b)))
  | _, _ => none
end
section
variable {K : PySem.W.Frag}
def spLaw (K : PySem.W.Frag) : Sp := fun vs H Q _ => ∃ (a : Addr) (ns : List Int), vs = [.ref a] ∧ SqL K H a (ns.map V.int) ∧ ns.length ≤ 63 ∧ ∀ H', Q (.bl true) H'
theorem law_at {N : List Str} {H : Hp} {a : Addr} {ns : List Int} (h : SqL K H a (ns.map V.int)) (hN : 1 ≤ N.length) : FAt K ⟨0, 0⟩ ⟨[], []⟩ [] [] (L2.start N [.ref a]) H (start0 N.length [.scr ns]) := by
  refine start_at cs_bare (fun _ h => nomatch h) (.cons (.scr ?_) .nil) hN
  rcases h with (h | ⟨o, h⟩) | h
  · exact .inl ⟨(fun z => z.elim (fun y => nomatch y) (fun y => nomatch y)), h⟩
  · exact .inr (.inl ⟨o, h⟩)
  · exact .inr (.inr fun H' => .inr h)
theorem law_body {X : Cx} {W : WX} {N : List Str} {body : List Stmt} {g : Sv} {vs : List V} {H : Hp} {Q : VK} {E : XK} (hp : PSs X body (tXS K W g)) (hN : 1 ≤ N.length) (hb : ∀ ns : List Int, ns.length ≤ 63 → ∃ S', g ⟨0, 0⟩ (start0 N.length [.scr ns]) [] = .rt (.bl true) S') (h : spLaw K vs H Q E) :
    ∃ t, PSs X body t ∧ t { nx := fun _ H' => Q .non H', rt := Q } (L2.start N vs) H := by
  obtain ⟨a, ns, rfl, hS, hl, k⟩ := h
  obtain ⟨S', e⟩ := hb ns hl
  refine ⟨_, hp, ⟨0, 0⟩, ⟨[], []⟩, [], [], _, law_at hS hN, ?_⟩
  rw [e]
  intro v m' H' cs k' r
  cases r
  exact k H'
end
end Tm

/-! N13: how mirrors are run by equations. -/
namespace Tm
open PySem PySem.Spec PyProof.Rows L2
def Rs.bd {α β : Type} (r : Rs α) (k : α → St → Rs β) : Rs β := match r with
  | .ok a S => k a S
  | .ex x S => .ex x S
  | .st => .st
def Ou.sq (o : Ou) (k : Ro → St → Ou) : Ou := match o with
  | .nx ρ S => k ρ S
  | o => o
/-- a def's end -/
def endS (S : St) (o : Ou) : Rs T := match o with
  | .nx _ S' => .ok .non (S'.take S.length)
  | .rt t S' => match fz S.length S' t with
    | some r => .ok r (S'.take S.length)
    | none => .st
  | .ex x _ S' => if okR S.length x = true then .ex x (S'.take S.length) else .st
  | _ => .st
def endP (S : St) (o : Ou) : Rs T := match o with
  | .nx _ _ => .ok .non S
  | .rt t S' => match fz S.length S' t with
    | some r => .ok r S
    | none => .st
  | .ex x _ _ => if okR S.length x = true then .ex x S else .st
  | _ => .st
def endO (o : Ou) : Rs T := match o with
  | .nx _ S' => .ok .non S'
  | .rt t S' => .ok t S'
  | .ex x _ S' => .ex x S'
  | _ => .st
section
variable {α β : Type} {c : Cf} {ρ : Ro} {S S' : St} {f g : Ev T} {x y : T}
theorem ap_runS {k n : Nat} {g : Sv} {as : List T} (h : as.length = k) : runS k n g c as S = endS S (g ⟨c.fl, S.length⟩ (start0 n as) S) := by unfold runS; rw [if_pos h]; rfl
theorem ap_runP {k n : Nat} {g : Sv} {as : List T} (h : as.length = k) (h0 : okRs 0 as = true) : runP k n g c as S = finP (g ⟨0, 0⟩ (start0 n as) []) S := by unfold runP; rw [if_pos h, if_pos h0]
theorem ap_runQ {k n : Nat} {g : Sv} {as as' : List T} {r : T} (h : as.length = k) (h0 : okRs 0 as = false) (h1 : fzs 0 S as = some as') (h2 : finQ (g ⟨0, 0⟩ (start0 n as') []) = some r) : runP k n g c as S = .ok r S := by unfold runP; rw [if_pos h, if_neg (by rw [h0]; decide), h1]; show (match finQ _ with | some r => _ | none => _) = _; rw [h2]
theorem finP_nx {S0 : St} : finP (.nx ρ S0) S = .ok .non S := rfl
theorem finP_rt {S0 : St} {t : T} (h : okR 0 t = true) : finP (.rt t S0) S = .ok t S := by show (match fz 0 S0 t with | some r => Rs.ok r S | none => .st) = _; rw [fz_id h]
theorem ap_runO {k n : Nat} {g : Sv} {as : List T} (h : as.length = k) : runO k n g c as S = endO (g c (start0 n as) S) := by unfold runO; rw [if_pos h]; rfl
theorem endS_nx : endS S (.nx ρ S') = .ok .non (S'.take S.length) := rfl
theorem endS_rt {t : T} (h : okR S.length t = true) : endS S (.rt t S') = .ok t (S'.take S.length) := by show (match fz S.length S' t with | some r => Rs.ok r (S'.take S.length) | none => .st) = _; rw [fz_id h]
theorem endP_nx : endP S (.nx ρ S') = .ok .non S := rfl
theorem endP_rt {t : T} (h : okR S.length t = true) : endP S (.rt t S') = .ok t S := by show (match fz S.length S' t with | some r => Rs.ok r S | none => .st) = _; rw [fz_id h]
theorem endO_nx : endO (.nx ρ S') = .ok .non S' := rfl
theorem endO_rt {t : T} : endO (.rt t S') = .ok t S' := rfl
theorem ap_bind {f : Ev α} {g : α → Ev β} : Ev.bind f g c ρ S = (f c ρ S).bd fun a S1 => g a c ρ S1 := by unfold Ev.bind Rs.bd; cases f c ρ S <;> rfl
theorem bd_ok {a : α} {k : α → St → Rs β} : Rs.bd (.ok a S) k = k a S := rfl
theorem ouE_ok {a : α} {k : α → St → Ou} : ouE (.ok a S) ρ k = k a S := rfl
theorem sq_nx {k : Ro → St → Ou} : Ou.sq (.nx ρ S) k = k ρ S := rfl
theorem sq_rt {k : Ro → St → Ou} {t : T} : Ou.sq (.rt t S) k = .rt t S := rfl
theorem ap_sSeq {g h : Sv} : sSeq g h c ρ S = Ou.sq (g c ρ S) (h c) := by unfold sSeq Ou.sq; cases g c ρ S <;> rfl
theorem ap_sNext : sNext c ρ S = .nx ρ S := rfl
theorem ap_sAsg {f : Ev T} {g : Tg} : sAsg f g c ρ S = ouE (f c ρ S) ρ fun t S => match g t c ρ S with | some (ρ1, S1) => .nx ρ1 S1 | none => .st := rfl
theorem ap_sRet : sRet f c ρ S = ouE (f c ρ S) ρ fun t S => .rt t S := rfl
theorem ap_sExpr : sExpr f c ρ S = ouE (f c ρ S) ρ fun _ S => .nx ρ S := rfl
theorem ap_sIf {t : Ev Bool} {g h : Sv} : sIf t g h c ρ S = ouE (t c ρ S) ρ fun b S => if b = true then g c ρ S else h c ρ S := rfl
theorem ap_sFor {fi : Ev Src} {g : Tg} {b : Sv} : sForI fi g b c ρ S = ouE (fi c ρ S) ρ fun src S => forS g b src c ρ S := rfl
theorem forS_fix {g : Tg} {b : Sv} {l : List T} : forS g b (.fix l) c ρ S = forL g b l c ρ S := rfl
theorem ap_gNm {i : Nat} {t : T} : gNm i t c ρ S = if i < ρ.length then some (ρ.set i (some t), S) else none := rfl
theorem ap_mVar {i : Nat} : mVar i c ρ S = match ρ[i]? with | some (some t) => .ok t S | _ => .st := rfl
theorem ap_mC {t : T} : mC t c ρ S = .ok t S := rfl
theorem orV_some {z : T} {o' : Option T} : orV (some z) o' S = .ok z S := rfl
theorem orV_none {z : T} (h : scaT z = true) : orV none (some z) S = .ok z S := by unfold orV; simp [h]
theorem ap_mOp {o : T → T → Option T} : mOp o f g c ρ S = (f c ρ S).bd fun x S1 => (g c ρ S1).bd fun y S2 => orV (o x y) (o (vw S2 x) (vw S2 y)) S2 := by unfold mOp; simp only [ap_bind]
theorem ap_mUn {o : T → Option T} : mUn o f c ρ S = (f c ρ S).bd fun x S1 => orV (o x) (o (vw S1 x)) S1 := by unfold mUn; simp only [ap_bind]
theorem ap_mNil : mNil c ρ S = .ok [] S := rfl
theorem ap_mCons {r : Ev (List T)} : mCons f r c ρ S = (f c ρ S).bd fun x S1 => (r c ρ S1).bd fun xs S2 => .ok (x :: xs) S2 := by unfold mCons; simp only [ap_bind]
theorem ap_mB {o : List T → Option T} {r : Ev (List T)} : mB o r c ρ S = (r c ρ S).bd fun xs S1 => orV (o xs) (o (xs.map (vw S1))) S1 := by unfold mB; simp only [ap_bind]
theorem ap_mTst : mTst f c ρ S = (f c ρ S).bd fun x S1 => match x with | .bl b => .ok b S1 | _ => .st := by
  unfold mTst
  rw [ap_bind]
  congr 1
  funext x S1
  cases x <;> rfl
theorem ap_mNotT {t : Ev Bool} : mNotT t c ρ S = (t c ρ S).bd fun b S1 => .ok (!b) S1 := by unfold mNotT; simp only [ap_bind]
theorem ap_mAndT {t u : Ev Bool} : mAndT t u c ρ S = (t c ρ S).bd fun b S1 => if b = true then u c ρ S1 else .ok false S1 := by
  unfold mAndT
  rw [ap_bind]
  congr 1
  funext b S1
  cases b <;> rfl
theorem ap_mOrT {t u : Ev Bool} : mOrT t u c ρ S = (t c ρ S).bd fun b S1 => if b = true then .ok true S1 else u c ρ S1 := by
  unfold mOrT
  rw [ap_bind]
  congr 1
  funext b S1
  cases b <;> rfl
theorem ap_mIf {t : Ev Bool} : mIf t f g c ρ S = (t c ρ S).bd fun b S1 => if b = true then f c ρ S1 else g c ρ S1 := by
  unfold mIf
  rw [ap_bind]
  congr 1
  funext b S1
  cases b <;> rfl
theorem ap_mTup {r : Ev (List T)} : mTup r c ρ S = (r c ρ S).bd fun xs S1 => if xs.length ≤ 1000000 then .ok (.tup xs) S1 else .st := by unfold mTup; simp only [ap_bind]
theorem ap_mLst {r : Ev (List T)} : mLst r c ρ S = (r c ρ S).bd fun xs S1 => if xs.length ≤ 1000000 then .ok (.lst xs) S1 else .st := by unfold mLst; simp only [ap_bind]
theorem ap_mLstC {r : Ev (List T)} : mLstC r c ρ S = (r c ρ S).bd fun xs S1 => if xs.length ≤ 1000000 then .ok (.ref S1.length) (S1 ++ [.lst xs]) else .st := by unfold mLstC; simp only [ap_bind]
theorem ap_mCall {F : Fn} {ds : List T} {r : Ev (List T)} : mCall F ds r c ρ S = (r c ρ S).bd fun ts S1 => F c (ts ++ ds) S1 := by unfold mCall; simp only [ap_bind]
theorem ap_callF {F : Fn} {ds : List T} : callF F ds c ρ S = F c ds S := rfl
/-- x[y], seen -/
def ixR (x y : T) (S : St) : Rs T := match dictGet (vw S x) y with
  | some (some z) => .ok z S
  | _ => match oIx (vw S x) y with
    | some z => .ok z S
    | none => .st
theorem ap_mIxA : mIxA f g c ρ S = (f c ρ S).bd fun x S1 => (g c ρ S1).bd fun y S2 => ixR x y S2 := by unfold mIxA; simp only [ap_bind] <;> rfl
theorem ixR_of {z : T} (h : dictGet (vw S x) y = none) (h2 : oIx (vw S x) y = some z) : ixR x y S = .ok z S := by unfold ixR; rw [h, h2]
theorem ap_mListC : mListC f c ρ S = (f c ρ S).bd fun x S1 => match seqT (vw S1 x) with | some l => .ok (.ref S1.length) (S1 ++ [.lst l]) | none => .st := by unfold mListC; simp only [ap_bind] <;> rfl
theorem ap_sItm {fo fi fv : Ev T} : sItm fo fi fv c ρ S = ouE (fv c ρ S) ρ fun t S => ouE (fo c ρ S) ρ fun x S => ouE (fi c ρ S) ρ fun y S => match itmPut c x y t S with | some S' => .nx ρ S' | none => .st := rfl
theorem ap_sPar2 {i j : Nat} {r : Ev (List T)} : sPar2 i j r c ρ S = ouE (r c ρ S) ρ fun l S => match l with | [a, b] => .nx ((ρ.set i (some a)).set j (some b)) S | _ => .st := rfl
theorem ap_mL {o : List T → Option (List T)} {r : Ev (List T)} : mL o r c ρ S = (r c ρ S).bd fun xs S1 => match o xs with | some l => .ok (.fix l) S1 | none => .st := by unfold mL; simp only [ap_bind] <;> rfl
theorem ap_mSeqOf : mSeqOf f c ρ S = (f c ρ S).bd fun x S1 => match x with | .lst l => .ok (.fix l) S1 | .tup l => .ok (.fix l) S1 | .wt l => .ok (.fix l) S1 | .scr ns => .ok (.fix (ns.map T.int)) S1 | .ref n => (match S1[n]? with | some (.lst _) => .ok (.cell n) S1 | _ => .st) | _ => .st := by unfold mSeqOf; simp only [ap_bind] <;> rfl
/-- a list's method at the cell n, its arguments known -/
def lmR (h : List T → List T → Option (T × List T)) (c : Cf) (n : Nat) (ts : List T) (S : St) : Rs T := match S[n]? with
  | some (.lst l) => match h l ts with
    | some (res, l') => if wrOk c n (.lst ts) = true then .ok res (S.set n (.lst l')) else .st
    | none => .st
  | _ => .st
theorem ap_mLm {h : List T → List T → Option (T × List T)} {r : Ev (List T)} : mLm h f r c ρ S = (f c ρ S).bd fun x S1 => match x with | .ref n => (match S1[n]? with | some (.lst _) => (r c ρ S1).bd fun ts S2 => lmR h c n ts S2 | _ => .st) | _ => .st := by
  unfold mLm
  rw [ap_bind]
  congr 1
end
theorem forL_inv {g : Tg} {b : Sv} {c : Cf} (I : Ro → St → Prop) : ∀ (l : List T) {ρ : Ro} {S : St}, I ρ S → (∀ x ∈ l, ∀ ρ S, I ρ S → ∃ ρ1 S1 ρ2 S2, g x c ρ S = some (ρ1, S1) ∧ b c ρ1 S1 = .nx ρ2 S2 ∧ I ρ2 S2) → ∃ ρ' S', forL g b l c ρ S = .nx ρ' S' ∧ I ρ' S'
  | [], ρ, S, h, _ => ⟨ρ, S, rfl, h⟩
  | x :: l, ρ, S, h, k => by
    obtain ⟨ρ1, S1, ρ2, S2, e1, e2, h2⟩ := k x (List.mem_cons_self ..) ρ S h
    obtain ⟨ρ', S', e3, h3⟩ := forL_inv I l h2 fun y hy => k y (List.mem_cons_of_mem _ hy)
    refine ⟨ρ', S', ?_, h3⟩
    unfold forL
    rw [e1]
    dsimp only
    rw [e2]
    exact e3
/-! values of operations -/
theorem v_add (i j : Int) : oAdd (.int i) (.int j) = some (.int (i + j)) := rfl
theorem v_sub (i j : Int) : oSub (.int i) (.int j) = some (.int (i - j)) := rfl
theorem v_gt (i j : Int) : oGt (.int i) (.int j) = some (.bl (decide (j < i))) := rfl
theorem v_lt (i j : Int) : oLt (.int i) (.int j) = some (.bl (decide (i < j))) := rfl
theorem v_ge (i j : Int) : oGe (.int i) (.int j) = some (.bl (decide (j ≤ i))) := rfl
theorem v_le (i j : Int) : oLe (.int i) (.int j) = some (.bl (decide (i ≤ j))) := rfl
theorem v_int (i : Int) : bInt [.int i] = some (.int i) := rfl
theorem v_mod {i j : Int} (h : 0 < j) : oMod (.int i) (.int j) = some (.int (i % j)) := by
  show (if decide (0 < j) = true then some (T.int (i % j)) else none) = _
  rw [decide_eq_true h]
  rfl
theorem v_fdiv {i j : Int} (h : 0 < j) (h2 : j < 2 ^ 200) : oFdiv (.int i) (.int j) = some (.int (i / j)) := by
  show (if (decide (0 < j) && decide (j < 2 ^ 200)) = true then some (T.int (i / j)) else none) = _
  rw [decide_eq_true h, decide_eq_true h2]
  rfl
theorem v_mulL {i j : Int} (h : -(2 ^ 64) < i) (h2 : i < 2 ^ 64) : oMul (.int i) (.int j) = some (.int (i * j)) := by
  show (if cMul i j = true then some (T.int (i * j)) else none) = _
  unfold cMul
  rw [decide_eq_true ⟨h, h2⟩]
  rfl
theorem v_mulR {i j : Int} (h : -(2 ^ 64) < j) (h2 : j < 2 ^ 64) : oMul (.int i) (.int j) = some (.int (i * j)) := by
  show (if cMul i j = true then some (T.int (i * j)) else none) = _
  unfold cMul
  rw [decide_eq_true (p := -(2 ^ 64) < j ∧ j < 2 ^ 64) ⟨h, h2⟩, Bool.or_true]
  rfl
end Tm

/-! N14: how mirrors are run, what comes next by its name. -/
namespace Tm
open PySem PySem.Spec PyProof.Rows L2
section
variable {α β : Type} {c : Cf} {ρ : Ro} {S S' : St} {f g h : Ev T} {x y z : T} {t u : Ev Bool} {r : Ev (List T)}
theorem bd_ext {r : Rs α} {k k' : α → St → Rs β} (h : ∀ x S, k x S = k' x S) : r.bd k = r.bd k' := by rw [show k = k' from funext fun x => funext fun S => h x S]
theorem bd_ex {x : T} {k : α → St → Rs β} : Rs.bd (.ex x S : Rs α) k = .ex x S := rfl
theorem ouE_ex {x : T} {k : α → St → Ou} : ouE (.ex x S : Rs α) ρ k = .ex x ρ S := rfl
theorem sq_ex {k : Ro → St → Ou} {t : T} : Ou.sq (.ex t ρ S) k = .ex t ρ S := rfl
theorem sq_br {k : Ro → St → Ou} : Ou.sq (.br ρ S) k = .br ρ S := rfl
theorem sq_ct {k : Ro → St → Ou} : Ou.sq (.ct ρ S) k = .ct ρ S := rfl
def optR (o : Option T) (S : St) : Rs T := match o with
  | some z => .ok z S
  | none => .st
theorem optR_some : optR (some z) S = .ok z S := rfl
/-! operations -/
def kOp2 (o : T → T → Option T) (x y : T) (S : St) : Rs T := orV (o x y) (o (vw S x) (vw S y)) S
def kOp (o : T → T → Option T) (g : Ev T) (c : Cf) (ρ : Ro) (x : T) (S : St) : Rs T := (g c ρ S).bd (kOp2 o x)
theorem e_op {o : T → T → Option T} : mOp o f g c ρ S = (f c ρ S).bd (kOp o g c ρ) := by unfold mOp; simp only [ap_bind] <;> rfl
theorem e_op1 {o : T → T → Option T} : kOp o g c ρ x S = (g c ρ S).bd (kOp2 o x) := rfl
theorem e_op2 {o : T → T → Option T} : kOp2 o x y S = orV (o x y) (o (vw S x) (vw S y)) S := rfl
def kUn (o : T → Option T) (x : T) (S : St) : Rs T := orV (o x) (o (vw S x)) S
theorem e_un {o : T → Option T} : mUn o f c ρ S = (f c ρ S).bd (kUn o) := by unfold mUn; simp only [ap_bind] <;> rfl
theorem e_un1 {o : T → Option T} : kUn o x S = orV (o x) (o (vw S x)) S := rfl
def kCons2 (x : T) (xs : List T) (S : St) : Rs (List T) := .ok (x :: xs) S
def kCons (r : Ev (List T)) (c : Cf) (ρ : Ro) (x : T) (S : St) : Rs (List T) := (r c ρ S).bd (kCons2 x)
theorem e_cons : mCons f r c ρ S = (f c ρ S).bd (kCons r c ρ) := by unfold mCons; simp only [ap_bind] <;> rfl
theorem e_cons1 : kCons r c ρ x S = (r c ρ S).bd (kCons2 x) := rfl
theorem e_cons2 {xs : List T} : kCons2 x xs S = .ok (x :: xs) S := rfl
def kB (o : List T → Option T) (xs : List T) (S : St) : Rs T := orV (o xs) (o (xs.map (vw S))) S
theorem e_b {o : List T → Option T} : mB o r c ρ S = (r c ρ S).bd (kB o) := by unfold mB; simp only [ap_bind] <;> rfl
theorem e_b1 {o : List T → Option T} {xs : List T} : kB o xs S = orV (o xs) (o (xs.map (vw S))) S := rfl
/-! tests -/
def kTst (x : T) (S : St) : Rs Bool := match x with | .bl b => .ok b S | _ => .st
theorem e_tst : mTst f c ρ S = (f c ρ S).bd kTst := by rw [ap_mTst]; rfl
theorem e_tst1 {b : Bool} : kTst (.bl b) S = .ok b S := rfl
def kNotT (b : Bool) (S : St) : Rs Bool := .ok (!b) S
theorem e_notT : mNotT t c ρ S = (t c ρ S).bd kNotT := by rw [ap_mNotT]; rfl
theorem e_notT1 {b : Bool} : kNotT b S = .ok (!b) S := rfl
def kAndT (u : Ev Bool) (c : Cf) (ρ : Ro) (b : Bool) (S : St) : Rs Bool := if b = true then u c ρ S else .ok false S
theorem e_andT : mAndT t u c ρ S = (t c ρ S).bd (kAndT u c ρ) := by rw [ap_mAndT]; rfl
theorem e_andTt : kAndT u c ρ true S = u c ρ S := rfl
theorem e_andTf : kAndT u c ρ false S = .ok false S := rfl
def kOrT (u : Ev Bool) (c : Cf) (ρ : Ro) (b : Bool) (S : St) : Rs Bool := if b = true then .ok true S else u c ρ S
theorem e_orT : mOrT t u c ρ S = (t c ρ S).bd (kOrT u c ρ) := by rw [ap_mOrT]; rfl
theorem e_orTt : kOrT u c ρ true S = .ok true S := rfl
theorem e_orTf : kOrT u c ρ false S = u c ρ S := rfl
def kIfE (f g : Ev T) (c : Cf) (ρ : Ro) (b : Bool) (S : St) : Rs T := if b = true then f c ρ S else g c ρ S
theorem e_ifE : mIf t f g c ρ S = (t c ρ S).bd (kIfE f g c ρ) := by rw [ap_mIf]; rfl
theorem e_ifEt : kIfE f g c ρ true S = f c ρ S := rfl
theorem e_ifEf : kIfE f g c ρ false S = g c ρ S := rfl
def kAnd (g : Ev T) (c : Cf) (ρ : Ro) (x : T) (S : St) : Rs T := match x with | .bl true => g c ρ S | .bl false => .ok (.bl false) S | _ => .st
theorem e_and : mAnd f g c ρ S = (f c ρ S).bd (kAnd g c ρ) := by
  unfold mAnd
  rw [ap_bind]
  refine bd_ext fun x S1 => ?_
  unfold kAnd
  cases x <;> first | rfl | (rename_i b; cases b <;> rfl)
theorem e_andt : kAnd g c ρ (.bl true) S = g c ρ S := rfl
theorem e_andf : kAnd g c ρ (.bl false) S = .ok (.bl false) S := rfl
def kOr (g : Ev T) (c : Cf) (ρ : Ro) (x : T) (S : St) : Rs T := match x with | .bl true => .ok (.bl true) S | .bl false => g c ρ S | _ => .st
theorem e_or : mOr f g c ρ S = (f c ρ S).bd (kOr g c ρ) := by
  unfold mOr
  rw [ap_bind]
  refine bd_ext fun x S1 => ?_
  unfold kOr
  cases x <;> first | rfl | (rename_i b; cases b <;> rfl)
theorem e_ort : kOr g c ρ (.bl true) S = .ok (.bl true) S := rfl
theorem e_orf : kOr g c ρ (.bl false) S = g c ρ S := rfl
def kNot (x : T) (S : St) : Rs T := match x with | .bl b => .ok (.bl (!b)) S | _ => .st
theorem e_not : mNot f c ρ S = (f c ρ S).bd kNot := by
  unfold mNot
  rw [ap_bind]
  refine bd_ext fun x S1 => ?_
  unfold kNot
  cases x <;> rfl
theorem e_not1 {b : Bool} : kNot (.bl b) S = .ok (.bl (!b)) S := rfl
def kCh3 (o' : T → T → Option T) (y z : T) (S : St) : Rs T := optR (o' y z) S
def chR (o' : T → T → Option T) (o : Option T) (y : T) (h : Ev T) (c : Cf) (ρ : Ro) (S : St) : Rs T := match o with
  | some (.bl true) => (h c ρ S).bd (kCh3 o' y)
  | some (.bl false) => .ok (.bl false) S
  | _ => .st
def kCh2 (o o' : T → T → Option T) (h : Ev T) (c : Cf) (ρ : Ro) (x y : T) (S : St) : Rs T := chR o' (o x y) y h c ρ S
def kCh (o o' : T → T → Option T) (g h : Ev T) (c : Cf) (ρ : Ro) (x : T) (S : St) : Rs T := (g c ρ S).bd (kCh2 o o' h c ρ x)
theorem e_ch {o o' : T → T → Option T} : mChain o o' f g h c ρ S = (f c ρ S).bd (kCh o o' g h c ρ) := by
  unfold mChain
  rw [ap_bind]
  refine bd_ext fun x S1 => ?_
  rw [ap_bind]
  unfold kCh
  refine bd_ext fun y S2 => ?_
  unfold kCh2 chR
  generalize o x y = q
  cases q with
  | none => rfl
  | some q =>
    cases q <;> first | rfl | skip
    rename_i b
    cases b
    · rfl
    · show Ev.bind _ _ c ρ S2 = (h c ρ S2).bd (kCh3 o' y)
      rw [ap_bind]
      refine bd_ext fun z S3 => ?_
      unfold kCh3 optR Ev.lift
      cases o' y z <;> rfl
theorem e_ch1 {o o' : T → T → Option T} : kCh o o' g h c ρ x S = (g c ρ S).bd (kCh2 o o' h c ρ x) := rfl
theorem e_ch2 {o o' : T → T → Option T} : kCh2 o o' h c ρ x y S = chR o' (o x y) y h c ρ S := rfl
theorem e_cht {o' : T → T → Option T} : chR o' (some (.bl true)) y h c ρ S = (h c ρ S).bd (kCh3 o' y) := rfl
theorem e_chf {o' : T → T → Option T} : chR o' (some (.bl false)) y h c ρ S = .ok (.bl false) S := rfl
theorem e_ch3 {o' : T → T → Option T} : kCh3 o' y z S = optR (o' y z) S := rfl
/-! tuples, lists, calls -/
def kTup (xs : List T) (S : St) : Rs T := if xs.length ≤ 1000000 then .ok (.tup xs) S else .st
theorem e_tup : mTup r c ρ S = (r c ρ S).bd kTup := by rw [ap_mTup]; rfl
theorem e_tup1 {xs : List T} (h : xs.length ≤ 1000000) : kTup xs S = .ok (.tup xs) S := if_pos h
def kLst (xs : List T) (S : St) : Rs T := if xs.length ≤ 1000000 then .ok (.lst xs) S else .st
theorem e_lst : mLst r c ρ S = (r c ρ S).bd kLst := by rw [ap_mLst]; rfl
theorem e_lst1 {xs : List T} (h : xs.length ≤ 1000000) : kLst xs S = .ok (.lst xs) S := if_pos h
def kLstC (xs : List T) (S : St) : Rs T := if xs.length ≤ 1000000 then .ok (.ref S.length) (S ++ [.lst xs]) else .st
theorem e_lstC : mLstC r c ρ S = (r c ρ S).bd kLstC := by rw [ap_mLstC]; rfl
theorem e_lstC1 {xs : List T} (h : xs.length ≤ 1000000) : kLstC xs S = .ok (.ref S.length) (S ++ [.lst xs]) := if_pos h
theorem e_dicK : mDicK c ρ S = .ok (.ref S.length) (S ++ [.dK [] []]) := rfl
theorem e_dicT : mDicT c ρ S = .ok (.ref S.length) (S ++ [.dT [] []]) := rfl
def kCall (F : Fn) (ds : List T) (c : Cf) (ts : List T) (S : St) : Rs T := F c (ts ++ ds) S
theorem e_call {F : Fn} {ds : List T} : mCall F ds r c ρ S = (r c ρ S).bd (kCall F ds c) := by rw [ap_mCall]; rfl
theorem e_call1 {F : Fn} {ds ts : List T} : kCall F ds c ts S = F c (ts ++ ds) S := rfl
def kCm (C : Str) (F : Fn) (c : Cf) (ts : List T) (S : St) : Rs T := F c (.cls C :: ts) S
theorem e_cm {C : Str} {F : Fn} : mCm C F r c ρ S = (r c ρ S).bd (kCm C F c) := by unfold mCm; simp only [ap_bind] <;> rfl
theorem e_cm1 {C : Str} {F : Fn} {ts : List T} : kCm C F c ts S = F c (.cls C :: ts) S := rfl
def kIx2 (x y : T) (S : St) : Rs T := ixR x y S
def kIx (g : Ev T) (c : Cf) (ρ : Ro) (x : T) (S : St) : Rs T := (g c ρ S).bd (kIx2 x)
theorem e_ix : mIxA f g c ρ S = (f c ρ S).bd (kIx g c ρ) := by rw [ap_mIxA]; rfl
theorem e_ix1 : kIx g c ρ x S = (g c ρ S).bd (kIx2 x) := rfl
theorem e_ix2 : kIx2 x y S = ixR x y S := rfl
def kFld (Cs : List Str) (n : Str) (x : T) (S : St) : Rs T := optR (fFldC Cs n (vw S x)) S
theorem e_fld {Cs : List Str} {n : Str} : mFld Cs n f c ρ S = (f c ρ S).bd (kFld Cs n) := by unfold mFld; simp only [ap_bind] <;> rfl
theorem e_fld1 {Cs : List Str} {n : Str} : kFld Cs n x S = optR (fFldC Cs n (vw S x)) S := rfl
def kMeth2 (Fm : Fn) (ds : List T) (x : T) (c : Cf) (ts : List T) (S : St) : Rs T := Fm c (x :: (ts ++ ds)) S
def methR (C m : Str) (Fm : Fn) (ds : List T) (fr : Ev (List T)) (c : Cf) (ρ : Ro) (x : T) (S : St) (o : T) : Rs T := match o with
  | .obj C' ns _ => if C' = C ∧ m ∉ ns then (fr c ρ S).bd (kMeth2 Fm ds x c) else .st
  | _ => .st
def kMeth (C m : Str) (Fm : Fn) (ds : List T) (fr : Ev (List T)) (c : Cf) (ρ : Ro) (x : T) (S : St) : Rs T := methR C m Fm ds fr c ρ x S (vw S x)
theorem e_meth {C m : Str} {Fm : Fn} {ds : List T} : mMeth C m Fm ds f r c ρ S = (f c ρ S).bd (kMeth C m Fm ds r c ρ) := by
  unfold mMeth
  rw [ap_bind]
  refine bd_ext fun x S1 => ?_
  unfold kMeth methR
  generalize vw S1 x = o
  cases o <;> rfl
theorem e_meth1 {C m : Str} {Fm : Fn} {ds : List T} : kMeth C m Fm ds r c ρ x S = methR C m Fm ds r c ρ x S (vw S x) := rfl
theorem e_methO {C m : Str} {Fm : Fn} {ds l : List T} {ns : List Str} (h : m ∉ ns) : methR C m Fm ds r c ρ x S (.obj C ns l) = (r c ρ S).bd (kMeth2 Fm ds x c) := if_pos ⟨rfl, h⟩
theorem e_meth2 {Fm : Fn} {ds ts : List T} : kMeth2 Fm ds x c ts S = Fm c (x :: (ts ++ ds)) S := rfl
def mkR (S : St) (r : Rs T) : Rs T := match r with
  | .ok .non S' => match S'[S.length]? with
    | some (.obj C' ns l) => if okRs S.length l = true then .ok (.obj C' ns l) S else .st
    | _ => .st
  | .ex x _ => if okR S.length x = true then .ex x S else .st
  | _ => .st
def kMk (Cn : Str) (Fm : Fn) (ds : List T) (ts : List T) (S : St) : Rs T := mkR S (Fm ⟨S.length, S.length⟩ (.ref S.length :: (ts ++ ds)) (S ++ [.obj Cn [] []]))
theorem e_mk {Cn : Str} {Fm : Fn} {ds : List T} : mMk Cn Fm ds r c ρ S = (r c ρ S).bd (kMk Cn Fm ds) := by unfold mMk; simp only [ap_bind] <;> rfl
theorem e_mk1 {Cn : Str} {Fm : Fn} {ds ts : List T} : kMk Cn Fm ds ts S = mkR S (Fm ⟨S.length, S.length⟩ (.ref S.length :: (ts ++ ds)) (S ++ [.obj Cn [] []])) := rfl
theorem mkR_ok {C' : Str} {ns : List Str} {l : List T} (h : S'[S.length]? = some (.obj C' ns l)) (ok : okRs S.length l = true) : mkR S (.ok .non S') = .ok (.obj C' ns l) S := by
  unfold mkR
  dsimp only
  rw [h]
  dsimp only
  rw [if_pos ok]
theorem e_mkL {i : Nat} {Cn : Str} {Fm : Fn} {ds : List T} (h : ρ[i]? = some (some (.cls Cn))) : mMkL i Cn Fm ds r c ρ S = (r c ρ S).bd (kMk Cn Fm ds) := by
  unfold mMkL
  rw [h]
  dsimp only
  rw [if_pos rfl, e_mk]
def newR (S : St) (r : Rs T) : Rs T := match r with
  | .ok .non S' => .ok (.ref S.length) S'
  | .ex x S' => .ex x S'
  | _ => .st
def kNew (Cn : Str) (Fm : Fn) (ds : List T) (c : Cf) (ts : List T) (S : St) : Rs T := newR S (Fm ⟨c.fl, S.length⟩ (.ref S.length :: (ts ++ ds)) (S ++ [.obj Cn [] []]))
theorem e_new {Cn : Str} {Fm : Fn} {ds : List T} : mNew Cn Fm ds r c ρ S = (r c ρ S).bd (kNew Cn Fm ds c) := by unfold mNew; simp only [ap_bind] <;> rfl
theorem e_new1 {Cn : Str} {Fm : Fn} {ds ts : List T} : kNew Cn Fm ds c ts S = newR S (Fm ⟨c.fl, S.length⟩ (.ref S.length :: (ts ++ ds)) (S ++ [.obj Cn [] []])) := rfl
theorem newR_ok : newR S (.ok .non S') = .ok (.ref S.length) S' := rfl
def kTxt2 (o : T → T → Option T) (a : Str) (y : T) (S : St) : Rs T := orV (o (.str a) y) (o (.str a) (vw S y)) S
def kTxt (o : T → T → Option T) (g : Ev T) (c : Cf) (ρ : Ro) (x : T) (S : St) : Rs T := match x with | .str a => (g c ρ S).bd (kTxt2 o a) | _ => .st
theorem e_txt {o : T → T → Option T} : mTxt o f g c ρ S = (f c ρ S).bd (kTxt o g c ρ) := by
  unfold mTxt
  rw [ap_bind]
  refine bd_ext fun x S1 => ?_
  unfold kTxt
  cases x <;> first | rfl | (dsimp only; rw [ap_bind]; rfl)
theorem e_txt1 {o : T → T → Option T} {a : Str} : kTxt o g c ρ (.str a) S = (g c ρ S).bd (kTxt2 o a) := rfl
theorem e_txt2 {o : T → T → Option T} {a : Str} : kTxt2 o a y S = orV (o (.str a) y) (o (.str a) (vw S y)) S := rfl
def kSl3 (x : T) (lo hi : Option Int) (S : St) : Rs T := optR (oSl lo hi (vw S x)) S
def kSl2 (fu : Ev (Option Int)) (c : Cf) (ρ : Ro) (x : T) (lo : Option Int) (S : St) : Rs T := (fu c ρ S).bd (kSl3 x lo)
def kSl (fl fu : Ev (Option Int)) (c : Cf) (ρ : Ro) (x : T) (S : St) : Rs T := (fl c ρ S).bd (kSl2 fu c ρ x)
theorem e_sl {fl fu : Ev (Option Int)} : mSl f fl fu c ρ S = (f c ρ S).bd (kSl fl fu c ρ) := by unfold mSl; simp only [ap_bind] <;> rfl
theorem e_sl1 {fl fu : Ev (Option Int)} : kSl fl fu c ρ x S = (fl c ρ S).bd (kSl2 fu c ρ x) := rfl
theorem e_sl2 {fu : Ev (Option Int)} {lo : Option Int} : kSl2 fu c ρ x lo S = (fu c ρ S).bd (kSl3 x lo) := rfl
theorem e_sl3 {lo hi : Option Int} : kSl3 x lo hi S = optR (oSl lo hi (vw S x)) S := rfl
def kPart (x : T) (S : St) : Rs (Option Int) := match x with | .int i => .ok (some i) S | _ => .st
theorem e_part : mPart f c ρ S = (f c ρ S).bd kPart := by
  unfold mPart
  rw [ap_bind]
  refine bd_ext fun x S1 => ?_
  cases x <;> rfl
theorem e_part1 {i : Int} : kPart (.int i) S = .ok (some i) S := rfl
theorem e_noPart : mNoPart c ρ S = .ok none S := rfl
def kListOf (x : T) (S : St) : Rs T := optR ((seqT (vw S x)).map T.lst) S
theorem e_listOf : mListOf f c ρ S = (f c ρ S).bd kListOf := by
  unfold mListOf
  rw [ap_bind]
  refine bd_ext fun x S1 => ?_
  unfold kListOf optR
  cases seqT (vw S1 x) <;> rfl
theorem e_listOf1 : kListOf x S = optR ((seqT (vw S x)).map T.lst) S := rfl
def listC (o : Option (List T)) (S : St) : Rs T := match o with | some l => .ok (.ref S.length) (S ++ [.lst l]) | none => .st
def kListC (x : T) (S : St) : Rs T := listC (seqT (vw S x)) S
theorem e_listC : mListC f c ρ S = (f c ρ S).bd kListC := by rw [ap_mListC]; rfl
theorem e_listC1 : kListC x S = listC (seqT (vw S x)) S := rfl
theorem e_listC2 {l : List T} : listC (some l) S = .ok (.ref S.length) (S ++ [.lst l]) := rfl
def tupOf : T → Option T
  | .lst l => some (.tup l)
  | .tup l => some (.tup l)
  | .wt l => some (.wt l)
  | _ => none
theorem tupOf_l {l : List T} : tupOf (.lst l) = some (.tup l) := rfl
theorem tupOf_t {l : List T} : tupOf (.tup l) = some (.tup l) := rfl
def kTupOf (x : T) (S : St) : Rs T := optR (tupOf (vw S x)) S
theorem e_tupOf : mTupOf f c ρ S = (f c ρ S).bd kTupOf := by
  unfold mTupOf
  rw [ap_bind]
  refine bd_ext fun x S1 => ?_
  unfold kTupOf optR
  cases vw S1 x <;> rfl
theorem e_tupOf1 : kTupOf x S = optR (tupOf (vw S x)) S := rfl
def inR (q : Option (Option T)) (neg : Bool) (o : T → T → Option T) (x y : T) (S : St) : Rs T := match q with
  | some q => .ok (.bl (if neg then !q.isSome else q.isSome)) S
  | none => orV (o x y) (o (vw S x) (vw S y)) S
def kIn2 (neg : Bool) (o : T → T → Option T) (x y : T) (S : St) : Rs T := inR (dictGet (vw S y) x) neg o x y S
def kIn (neg : Bool) (o : T → T → Option T) (g : Ev T) (c : Cf) (ρ : Ro) (x : T) (S : St) : Rs T := (g c ρ S).bd (kIn2 neg o x)
theorem e_in {neg : Bool} {o : T → T → Option T} : mInA neg o f g c ρ S = (f c ρ S).bd (kIn neg o g c ρ) := by unfold mInA; simp only [ap_bind] <;> rfl
theorem e_in1 {neg : Bool} {o : T → T → Option T} : kIn neg o g c ρ x S = (g c ρ S).bd (kIn2 neg o x) := rfl
theorem e_in2 {neg : Bool} {o : T → T → Option T} : kIn2 neg o x y S = inR (dictGet (vw S y) x) neg o x y S := rfl
theorem e_inN {neg : Bool} {o : T → T → Option T} : inR none neg o x y S = orV (o x y) (o (vw S x) (vw S y)) S := rfl
theorem e_inF {o : T → T → Option T} {q : Option T} : inR (some q) false o x y S = .ok (.bl q.isSome) S := rfl
theorem e_inT {o : T → T → Option T} {q : Option T} : inR (some q) true o x y S = .ok (.bl (!q.isSome)) S := rfl
def getE (q : Option (Option T)) (z : T) (S : St) : Rs T := match q with | some q => .ok (q.getD z) S | none => .st
theorem e_getE {q : Option T} : getE (some q) z S = .ok (q.getD z) S := rfl
def kGet3 (x y z : T) (S : St) : Rs T := getE (dictGet (vw S x) y) z S
def kGet2 (h : Ev T) (c : Cf) (ρ : Ro) (x y : T) (S : St) : Rs T := (h c ρ S).bd (kGet3 x y)
def getR (b : Bool) (g h : Ev T) (c : Cf) (ρ : Ro) (x : T) (S : St) : Rs T := if b = true then (g c ρ S).bd (kGet2 h c ρ x) else .st
def kGet (g h : Ev T) (c : Cf) (ρ : Ro) (x : T) (S : St) : Rs T := getR (isD (vw S x)) g h c ρ x S
theorem e_get : mGet2 f g h c ρ S = (f c ρ S).bd (kGet g h c ρ) := by
  unfold mGet2
  rw [ap_bind]
  refine bd_ext fun x S1 => ?_
  unfold kGet getR
  cases isD (vw S1 x)
  · rfl
  · rw [if_pos rfl, if_pos rfl]
    simp only [ap_bind]
    rfl
theorem e_get1 : kGet g h c ρ x S = getR (isD (vw S x)) g h c ρ x S := rfl
theorem e_getR : getR true g h c ρ x S = (g c ρ S).bd (kGet2 h c ρ x) := rfl
theorem e_get2 : kGet2 h c ρ x y S = (h c ρ S).bd (kGet3 x y) := rfl
theorem e_get3 : kGet3 x y z S = getE (dictGet (vw S x) y) z S := rfl
def kLm2 (q : List T → List T → Option (T × List T)) (c : Cf) (n : Nat) (ts : List T) (S : St) : Rs T := lmR q c n ts S
def lmG (o : Option T) (q : List T → List T → Option (T × List T)) (r : Ev (List T)) (c : Cf) (ρ : Ro) (n : Nat) (S : St) : Rs T := match o with
  | some (.lst _) => (r c ρ S).bd (kLm2 q c n)
  | _ => .st
def kLm (q : List T → List T → Option (T × List T)) (r : Ev (List T)) (c : Cf) (ρ : Ro) (x : T) (S : St) : Rs T := match x with | .ref n => lmG S[n]? q r c ρ n S | _ => .st
theorem e_lm {q : List T → List T → Option (T × List T)} : mLm q f r c ρ S = (f c ρ S).bd (kLm q r c ρ) := by
  rw [ap_mLm]
  refine bd_ext fun x S1 => ?_
  unfold kLm lmG
  cases x <;> first | rfl | skip
theorem e_lm1 {q : List T → List T → Option (T × List T)} {n : Nat} : kLm q r c ρ (.ref n) S = lmG S[n]? q r c ρ n S := rfl
theorem e_lmG {q : List T → List T → Option (T × List T)} {n : Nat} {l : List T} : lmG (some (.lst l)) q r c ρ n S = (r c ρ S).bd (kLm2 q c n) := rfl
theorem e_lm2 {q : List T → List T → Option (T × List T)} {n : Nat} {ts : List T} : kLm2 q c n ts S = lmR q c n ts S := rfl
def kStar2 (l m : List T) (S : St) : Rs (List T) := .ok (l ++ m) S
def starR (o : Option (List T)) (r : Ev (List T)) (c : Cf) (ρ : Ro) (S : St) : Rs (List T) := match o with | some l => (r c ρ S).bd (kStar2 l) | none => .st
def kStar (r : Ev (List T)) (c : Cf) (ρ : Ro) (x : T) (S : St) : Rs (List T) := starR (seqT x) r c ρ S
theorem e_star : mStar f r c ρ S = (f c ρ S).bd (kStar r c ρ) := by
  unfold mStar
  rw [ap_bind]
  refine bd_ext fun x S1 => ?_
  unfold kStar starR
  cases seqT x <;> first | rfl | (dsimp only; rw [ap_bind]; rfl)
theorem e_star1 : kStar r c ρ x S = starR (seqT x) r c ρ S := rfl
theorem e_starR {l : List T} : starR (some l) r c ρ S = (r c ρ S).bd (kStar2 l) := rfl
theorem e_star2 {l m : List T} : kStar2 l m S = .ok (l ++ m) S := rfl
/-! what is walked -/
def seqC (o : Option T) (n : Nat) (S : St) : Rs Src := match o with | some (.lst _) => .ok (.cell n) S | _ => .st
def kSeq (x : T) (S : St) : Rs Src := match x with
  | .lst l => .ok (.fix l) S
  | .tup l => .ok (.fix l) S
  | .wt l => .ok (.fix l) S
  | .scr ns => .ok (.fix (ns.map T.int)) S
  | .ref n => seqC S[n]? n S
  | _ => .st
theorem e_seq : mSeqOf f c ρ S = (f c ρ S).bd kSeq := by rw [ap_mSeqOf]; rfl
theorem e_seqL {l : List T} : kSeq (.lst l) S = .ok (.fix l) S := rfl
theorem e_seqT {l : List T} : kSeq (.tup l) S = .ok (.fix l) S := rfl
theorem e_seqW {l : List T} : kSeq (.wt l) S = .ok (.fix l) S := rfl
theorem e_seqN {ns : List Int} : kSeq (.scr ns) S = .ok (.fix (ns.map T.int)) S := rfl
theorem e_seqR {n : Nat} : kSeq (.ref n) S = seqC S[n]? n S := rfl
theorem e_seqC {n : Nat} {l : List T} : seqC (some (.lst l)) n S = .ok (.cell n) S := rfl
def kSeqS (x : T) (S : St) : Rs Src := match x with | .str z => .ok (.fix (z.cps.toList.map fun c => T.str ⟨#[c]⟩)) S | _ => .st
theorem e_seqS : mSeqOfS f c ρ S = (f c ρ S).bd kSeqS := by
  unfold mSeqOfS
  rw [ap_bind]
  refine bd_ext fun x S1 => ?_
  cases x <;> rfl
theorem e_seqS1 {z : Str} : kSeqS (.str z) S = .ok (.fix (z.cps.toList.map fun c => T.str ⟨#[c]⟩)) S := rfl
def fixR (o : Option (List T)) (S : St) : Rs Src := match o with | some l => .ok (.fix l) S | none => .st
theorem e_fixR {l : List T} : fixR (some l) S = .ok (.fix l) S := rfl
def enC (o : Option T) (n : Nat) (S : St) : Rs Src := match o with | some (.lst _) => .ok (.en n) S | _ => .st
def enR (o : Option (List T)) (x : T) (S : St) : Rs Src := match o with
  | some l => .ok (.fix (enT 0 l)) S
  | none => match x with
    | .ref n => enC S[n]? n S
    | _ => .st
def kEnum (x : T) (S : St) : Rs Src := enR (seqT x) x S
theorem e_enum : mEnum f c ρ S = (f c ρ S).bd kEnum := by
  unfold mEnum
  rw [ap_bind]
  refine bd_ext fun x S1 => ?_
  unfold kEnum enR
  cases seqT x with
  | some l => rfl
  | none => cases x <;> rfl
theorem e_enum1 : kEnum x S = enR (seqT x) x S := rfl
theorem e_enR {l : List T} : enR (some l) x S = .ok (.fix (enT 0 l)) S := rfl
theorem e_enRr {n : Nat} : enR none (.ref n) S = enC S[n]? n S := rfl
theorem e_enC {n : Nat} {l : List T} : enC (some (.lst l)) n S = .ok (.en n) S := rfl
theorem seqT_ref {n : Nat} : seqT (.ref n) = none := rfl
def kL (o : List T → Option (List T)) (xs : List T) (S : St) : Rs Src := fixR (o xs) S
theorem e_L {o : List T → Option (List T)} : mL o r c ρ S = (r c ρ S).bd (kL o) := by rw [ap_mL]; rfl
theorem e_L1 {o : List T → Option (List T)} {xs : List T} : kL o xs S = fixR (o xs) S := rfl
def lcE (r : Rs (List T)) : Rs T := match r with
  | .ok acc S' => .ok (.lst acc) S'
  | _ => .st
def kLc (vs : List Nat) (t : Tg) (tt : Ev Bool) (f : Ev T) (c : Cf) (ρ : Ro) (src : Src) (S : St) : Rs T := lcE (lcS t tt f src [] c (wipeS vs ρ) S)
theorem e_lc {vs : List Nat} {fi : Ev Src} {t : Tg} {tt : Ev Bool} : mLc vs fi t tt f c ρ S = (fi c ρ S).bd (kLc vs t tt f c ρ) := by unfold mLc; simp only [ap_bind] <;> rfl
theorem e_lc1 {vs : List Nat} {t : Tg} {tt : Ev Bool} {src : Src} : kLc vs t tt f c ρ src S = lcE (lcS t tt f src [] c (wipeS vs ρ) S) := rfl
theorem lcE_ok {l : List T} : lcE (.ok l S) = .ok (.lst l) S := rfl
theorem lcS_fix {t : Tg} {tt : Ev Bool} {l acc : List T} : lcS t tt f (.fix l) acc c ρ S = lcL t tt f l acc c ρ S := rfl
theorem lcL_nil {t : Tg} {tt : Ev Bool} {acc : List T} : lcL t tt f [] acc c ρ S = .ok acc S := rfl
theorem e_yes : mYes c ρ S = .ok true S := rfl
def kJs (fs : List (Ev T)) (acc : Str) (c : Cf) (ρ : Ro) (x : T) (S : St) : Rs T := match x with | .str y => (if (acc ++ y).length ≤ 1000000 then mJs fs (acc ++ y) c ρ S else .st) | _ => .st
theorem e_js0 {acc : Str} : mJs [] acc c ρ S = .ok (.str acc) S := rfl
theorem e_js {fs : List (Ev T)} {acc : Str} : mJs (f :: fs) acc c ρ S = (f c ρ S).bd (kJs fs acc c ρ) := by
  show Ev.bind _ _ c ρ S = _
  rw [ap_bind]
  refine bd_ext fun x S1 => ?_
  cases x <;> first | rfl | skip
  unfold kJs
  dsimp only
  split <;> rfl
theorem e_js1 {fs : List (Ev T)} {acc y : Str} (h : acc.length + y.length ≤ 1000000) : kJs fs acc c ρ (.str y) S = mJs fs (acc ++ y) c ρ S := if_pos (by rw [len_app]; exact h)
/-! statements -/
def asgR (o : Option (Ro × St)) : Ou := match o with | some (ρ1, S1) => .nx ρ1 S1 | none => .st
theorem asgR_ok : asgR (some (ρ, S)) = .nx ρ S := rfl
def kAsg (q : Tg) (c : Cf) (ρ : Ro) (x : T) (S : St) : Ou := asgR (q x c ρ S)
theorem e_asg {q : Tg} : sAsg f q c ρ S = ouE (f c ρ S) ρ (kAsg q c ρ) := rfl
theorem e_asg1 {q : Tg} : kAsg q c ρ x S = asgR (q x c ρ S) := rfl
def kRet (x : T) (S : St) : Ou := .rt x S
theorem e_ret : sRet f c ρ S = ouE (f c ρ S) ρ kRet := rfl
theorem e_ret1 : kRet x S = .rt x S := rfl
def kExpr (ρ : Ro) (_ : T) (S : St) : Ou := .nx ρ S
theorem e_expr : sExpr f c ρ S = ouE (f c ρ S) ρ (kExpr ρ) := rfl
theorem e_expr1 : kExpr ρ x S = .nx ρ S := rfl
def kIf (p q : Sv) (c : Cf) (ρ : Ro) (b : Bool) (S : St) : Ou := if b = true then p c ρ S else q c ρ S
theorem e_if {p q : Sv} : sIf t p q c ρ S = ouE (t c ρ S) ρ (kIf p q c ρ) := rfl
theorem e_ift {p q : Sv} : kIf p q c ρ true S = p c ρ S := rfl
theorem e_iff {p q : Sv} : kIf p q c ρ false S = q c ρ S := rfl
def kFor (q : Tg) (b : Sv) (c : Cf) (ρ : Ro) (src : Src) (S : St) : Ou := forS q b src c ρ S
theorem e_for {fi : Ev Src} {q : Tg} {b : Sv} : sForI fi q b c ρ S = ouE (fi c ρ S) ρ (kFor q b c ρ) := rfl
theorem e_for1 {q : Tg} {b : Sv} {l : List T} : kFor q b c ρ (.fix l) S = forL q b l c ρ S := rfl
theorem e_forE {q : Tg} {b : Sv} {n : Nat} : kFor q b c ρ (.en n) S = forE q b n whLine 0 c ρ S := rfl
theorem e_forC {q : Tg} {b : Sv} {n : Nat} : kFor q b c ρ (.cell n) S = forC q b n whLine 0 c ρ S := rfl
def putR (o : Option St) (ρ : Ro) : Ou := match o with | some S' => .nx ρ S' | none => .st
theorem putR_ok : putR (some S) ρ = .nx ρ S := rfl
def kItm3 (c : Cf) (ρ : Ro) (z x y : T) (S : St) : Ou := putR (itmPut c x y z S) ρ
def kItm2 (fi : Ev T) (c : Cf) (ρ : Ro) (z x : T) (S : St) : Ou := ouE (fi c ρ S) ρ (kItm3 c ρ z x)
def kItm (fo fi : Ev T) (c : Cf) (ρ : Ro) (z : T) (S : St) : Ou := ouE (fo c ρ S) ρ (kItm2 fi c ρ z)
theorem e_itm {fo fi fv : Ev T} : sItm fo fi fv c ρ S = ouE (fv c ρ S) ρ (kItm fo fi c ρ) := rfl
theorem e_itm1 {fo fi : Ev T} : kItm fo fi c ρ z S = ouE (fo c ρ S) ρ (kItm2 fi c ρ z) := rfl
theorem e_itm2 {fi : Ev T} : kItm2 fi c ρ z x S = ouE (fi c ρ S) ρ (kItm3 c ρ z x) := rfl
theorem e_itm3 : kItm3 c ρ z x y S = putR (itmPut c x y z S) ρ := rfl
def kFldC2 (Cs : List Str) (n : Str) (c : Cf) (ρ : Ro) (z x : T) (S : St) : Ou := putR (fldPut Cs n c x z S) ρ
def kFldC (Cs : List Str) (n : Str) (fo : Ev T) (c : Cf) (ρ : Ro) (z : T) (S : St) : Ou := ouE (fo c ρ S) ρ (kFldC2 Cs n c ρ z)
theorem e_fldC {Cs : List Str} {n : Str} : sFldC Cs n f g c ρ S = ouE (g c ρ S) ρ (kFldC Cs n f c ρ) := rfl
theorem e_fldC1 {Cs : List Str} {n : Str} : kFldC Cs n f c ρ z S = ouE (f c ρ S) ρ (kFldC2 Cs n c ρ z) := rfl
theorem e_fldC2 {Cs : List Str} {n : Str} : kFldC2 Cs n c ρ z x S = putR (fldPut Cs n c x z S) ρ := rfl
def kPar2 (i j : Nat) (ρ : Ro) (q : List T) (S : St) : Ou := match q with | [a, b] => .nx ((ρ.set i (some a)).set j (some b)) S | _ => .st
theorem e_par2 {i j : Nat} : sPar2 i j r c ρ S = ouE (r c ρ S) ρ (kPar2 i j ρ) := rfl
theorem e_par21 {i j : Nat} : kPar2 i j ρ [x, y] S = .nx ((ρ.set i (some x)).set j (some y)) S := rfl
def kPar3 (i j l : Nat) (ρ : Ro) (q : List T) (S : St) : Ou := match q with | [a, b, d] => .nx (((ρ.set i (some a)).set j (some b)).set l (some d)) S | _ => .st
theorem e_par3 {i j l : Nat} : sPar3 i j l r c ρ S = ouE (r c ρ S) ρ (kPar3 i j l ρ) := rfl
theorem e_par31 {i j l : Nat} : kPar3 i j l ρ [x, y, z] S = .nx (((ρ.set i (some x)).set j (some y)).set l (some z)) S := rfl
theorem e_aug {i : Nat} {o : T → T → Option T} : sAug i o f c ρ S = sAsg (mOp o (mVar i) f) (gNm i) c ρ S := rfl
/-! targets -/
theorem e_gTup {gs : List Tg} {l : List T} : gTup gs (.tup l) c ρ S = gTup0 gs l c ρ S := rfl
theorem e_gTupL {gs : List Tg} {l : List T} : gTup gs (.lst l) c ρ S = gTup0 gs l c ρ S := rfl
theorem e_gT0 : gTup0 [] [] c ρ S = some (ρ, S) := rfl
def gtR (o : Option (Ro × St)) (gs : List Tg) (l : List T) (c : Cf) : Option (Ro × St) := match o with | some (ρ1, S1) => gTup0 gs l c ρ1 S1 | none => none
theorem e_gT1 {q : Tg} {gs : List Tg} {l : List T} : gTup0 (q :: gs) (x :: l) c ρ S = gtR (q x c ρ S) gs l c := rfl
theorem e_gtR {gs : List Tg} {l : List T} : gtR (some (ρ, S)) gs l c = gTup0 gs l c ρ S := rfl
def gfR (o : Option St) (ρ : Ro) : Option (Ro × St) := match o with | some S' => some (ρ, S') | none => none
def gfV (o : Option (Option T)) (Cs : List Str) (n : Str) (x : T) (c : Cf) (ρ : Ro) (S : St) : Option (Ro × St) := match o with | some (some y) => gfR (fldPut Cs n c y x S) ρ | _ => none
theorem e_gFld {Cs : List Str} {n : Str} {i : Nat} : gFld Cs n i x c ρ S = gfV ρ[i]? Cs n x c ρ S := rfl
theorem e_gfV {Cs : List Str} {n : Str} : gfV (some (some y)) Cs n x c ρ S = gfR (fldPut Cs n c y x S) ρ := rfl
theorem e_gfR : gfR (some S) ρ = some (ρ, S) := rfl
theorem e_gNm {i : Nat} (h : i < ρ.length) : gNm i x c ρ S = some (ρ.set i (some x), S) := if_pos h
def varR (o : Option (Option T)) (S : St) : Rs T := match o with | some (some t) => .ok t S | _ => .st
theorem e_var {i : Nat} : mVar i c ρ S = varR ρ[i]? S := rfl
theorem e_var1 : varR (some (some x)) S = .ok x S := rfl
/-! loops -/
def forK (q : Tg) (b : Sv) (l : List T) (c : Cf) (o : Ou) : Ou := match o with
  | .nx ρ2 S2 => forL q b l c ρ2 S2
  | .ct ρ2 S2 => forL q b l c ρ2 S2
  | .br ρ2 S2 => .nx ρ2 S2
  | o => o
def forG (q : Tg) (b : Sv) (l : List T) (c : Cf) (o : Option (Ro × St)) : Ou := match o with
  | some (ρ1, S1) => forK q b l c (b c ρ1 S1)
  | none => .st
theorem e_forN {q : Tg} {b : Sv} : forL q b [] c ρ S = .nx ρ S := rfl
theorem e_forS {q : Tg} {b : Sv} {l : List T} : forL q b (x :: l) c ρ S = forG q b l c (q x c ρ S) := by
  unfold forG forK
  show (match q x c ρ S with | some (ρ1, S1) => _ | none => _) = _
  cases q x c ρ S with
  | none => rfl
  | some p => cases b c p.1 p.2 <;> rfl
theorem e_forG {q : Tg} {b : Sv} {l : List T} : forG q b l c (some (ρ, S)) = forK q b l c (b c ρ S) := rfl
theorem e_forKn {q : Tg} {b : Sv} {l : List T} : forK q b l c (.nx ρ S) = forL q b l c ρ S := rfl
theorem e_forKc {q : Tg} {b : Sv} {l : List T} : forK q b l c (.ct ρ S) = forL q b l c ρ S := rfl
theorem e_forKb {q : Tg} {b : Sv} {l : List T} : forK q b l c (.br ρ S) = .nx ρ S := rfl
theorem e_forKr {q : Tg} {b : Sv} {l : List T} : forK q b l c (.rt x S) = .rt x S := rfl
end
theorem okR_non {n : Nat} : okR n .non = true := by unfold okR; rfl
theorem okR_bl {n : Nat} {b : Bool} : okR n (.bl b) = true := by unfold okR; rfl
theorem okR_int {n : Nat} {i : Int} : okR n (.int i) = true := by unfold okR; rfl
theorem okR_str {n : Nat} {x : Str} : okR n (.str x) = true := by unfold okR; rfl
theorem okR_cls {n : Nat} {x : Str} : okR n (.cls x) = true := by unfold okR; rfl
theorem okR_fn {n : Nat} {x : Str} : okR n (.fn x) = true := by unfold okR; rfl
theorem okR_scr {n : Nat} {x : List Int} : okR n (.scr x) = true := by unfold okR; rfl
theorem okR_tup {n : Nat} {l : List T} : okR n (.tup l) = okRs n l := by unfold okR; rfl
theorem okR_wt {n : Nat} {l : List T} : okR n (.wt l) = okRs n l := by unfold okR; rfl
theorem okR_lst {n : Nat} {l : List T} : okR n (.lst l) = okRs n l := by unfold okR; rfl
theorem okR_obj {n : Nat} {C : Str} {ns : List Str} {l : List T} : okR n (.obj C ns l) = okRs n l := by unfold okR; rfl
theorem okR_dK {n : Nat} {ks : List Key} {l : List T} : okR n (.dK ks l) = okRs n l := by unfold okR; rfl
theorem okR_dT {n : Nat} {ks : List (List Key)} {l : List T} : okR n (.dT ks l) = okRs n l := by unfold okR; rfl
theorem okR_ref {n k : Nat} : okR n (.ref k) = decide (k < n) := by unfold okR; rfl
theorem okRs_nil {n : Nat} : okRs n [] = true := rfl
theorem okRs_cons {n : Nat} {x : T} {l : List T} : okRs n (x :: l) = (okR n x && okRs n l) := rfl
/-! comprehensions, turn by turn -/
section
variable {c : Cf} {ρ ρ1 : Ro} {S : St} {f : Ev T} {x y : T} {t : Tg} {tt : Ev Bool} {l acc : List T}
def lcA (t : Tg) (tt : Ev Bool) (f : Ev T) (l acc : List T) (c : Cf) (ρ : Ro) (r : Rs T) : Rs (List T) := match r with
  | .ok y S3 => if acc.length < 1000000 then lcL t tt f l (acc ++ [y]) c ρ S3 else .st
  | _ => .st
def lcB (t : Tg) (tt : Ev Bool) (f : Ev T) (l acc : List T) (c : Cf) (ρ ρ1 : Ro) (r : Rs Bool) : Rs (List T) := match r with
  | .ok true S2 => lcA t tt f l acc c ρ (f c ρ1 S2)
  | .ok false S2 => lcL t tt f l acc c ρ S2
  | _ => .st
def lcG (t : Tg) (tt : Ev Bool) (f : Ev T) (l acc : List T) (c : Cf) (ρ : Ro) (o : Option (Ro × St)) : Rs (List T) := match o with
  | some (ρ1, S1) => lcB t tt f l acc c ρ ρ1 (tt c ρ1 S1)
  | none => .st
theorem e_lcS : lcL t tt f (x :: l) acc c ρ S = lcG t tt f l acc c ρ (t x c ρ S) := by
  unfold lcG lcB lcA
  show (match t x c ρ S with | some (ρ1, S1) => _ | none => _) = _
  cases t x c ρ S with
  | none => rfl
  | some p =>
    dsimp only
    all_goals
      generalize tt c p.1 p.2 = r
      rcases r with ⟨b, S2⟩ | ⟨y, S2⟩ | _
      · cases b
        · rfl
        · dsimp only
          all_goals (cases f c p.1 S2 <;> rfl)
      · rfl
      · rfl
theorem e_lcG : lcG t tt f l acc c ρ (some (ρ1, S)) = lcB t tt f l acc c ρ ρ1 (tt c ρ1 S) := rfl
theorem e_lcBt : lcB t tt f l acc c ρ ρ1 (.ok true S) = lcA t tt f l acc c ρ (f c ρ1 S) := rfl
theorem e_lcBf : lcB t tt f l acc c ρ ρ1 (.ok false S) = lcL t tt f l acc c ρ S := rfl
theorem e_lcA (h : acc.length < 1000000) : lcA t tt f l acc c ρ (.ok y S) = lcL t tt f l (acc ++ [y]) c ρ S := if_pos h
end
/-- a comprehension that maps -/
theorem lcL_map {g : Tg} {te : Ev T} {c : Cf} {ρ : Ro} {S : St} (h : T → T) : ∀ (l acc : List T), acc.length + l.length ≤ 1000000 → (∀ x ∈ l, ∃ ρ1, g x c ρ S = some (ρ1, S) ∧ te c ρ1 S = .ok (h x) S) → lcL g mYes te l acc c ρ S = .ok (acc ++ l.map h) S
  | [], acc, _, _ => by simp [lcL]
  | x :: l, acc, hl, k => by
    obtain ⟨ρ1, e1, e2⟩ := k x (List.mem_cons_self ..)
    have hl' : acc.length + l.length + 1 ≤ 1000000 := by simpa [Nat.add_assoc] using hl
    unfold lcL
    rw [e1]
    dsimp only
    rw [e_yes]
    dsimp only
    rw [e2]
    dsimp only
    rw [if_pos (by omega), lcL_map h l (acc ++ [h x]) (by simp; omega) fun y hy => k y (List.mem_cons_of_mem _ hy)]
    simp
/-- a comprehension that maps and tests -/
theorem lcL_filt {α : Type} {g : Tg} {tt : Ev Bool} {te : Ev T} {c : Cf} {ρ : Ro} {S : St} (f : α → T) (b : α → Bool) (h : α → T) : ∀ (l : List α) (acc : List T), acc.length + l.length ≤ 1000000 → (∀ x ∈ l, ∃ ρ1, g (f x) c ρ S = some (ρ1, S) ∧ tt c ρ1 S = .ok (b x) S ∧ (b x = true → te c ρ1 S = .ok (h x) S)) → lcL g tt te (l.map f) acc c ρ S = .ok (acc ++ (l.filter b).map h) S
  | [], acc, _, _ => by simp [lcL]
  | x :: l, acc, hl, k => by
    obtain ⟨ρ1, e1, e2, e3⟩ := k x (List.mem_cons_self ..)
    have hl' : acc.length + l.length + 1 ≤ 1000000 := by simpa [Nat.add_assoc] using hl
    have ih := fun acc ha => lcL_filt (c := c) (ρ := ρ) (S := S) (g := g) (tt := tt) (te := te) f b h l acc ha fun y hy => k y (List.mem_cons_of_mem _ hy)
    rw [List.map_cons]
    unfold lcL
    rw [e1]
    dsimp only
    rw [e2]
    cases hb : b x with
    | true =>
      dsimp only
      rw [e3 hb]
      dsimp only
      rw [if_pos (by omega), ih (acc ++ [h x]) (by simp; omega), List.filter_cons_of_pos hb]
      simp
    | false =>
      dsimp only
      rw [ih acc (by omega), List.filter_cons_of_neg (by simp [hb])]
end Tm

/-! N15: operations on values whose cells are looked through. -/
namespace Tm
open PySem PySem.Spec PyProof.Rows L2
def opF3 (o : Option T) (S : St) : Rs T := match o with
  | some z => if scaT z = true then .ok z S else .st
  | none => .st
def opF2 (f : T → T → Option T) (o o' : Option T) (S : St) : Rs T := match o, o' with
  | some x, some y => opF3 (f x y) S
  | _, _ => .st
def opF (f : T → T → Option T) (x y : T) (S : St) : Rs T := opF2 f (fz 0 S x) (fz 0 S y) S
def mOpF (f : T → T → Option T) (a b : Ev T) : Ev T := a.bind fun x => b.bind fun y _ _ S => opF f x y S
section
variable {X : Cx} {K : PySem.W.Frag} {W : WX} {a b : Expr} {fa fb : Ev T} {pos : Pos}
theorem opF_read {r : R2} {f : T → T → Option T} {σ : L2.St} {H : Hp} {Q : VK} (ht : OpT K r f) (h : tX K W (mOpF f fa fb) σ H Q) : tOp r (tX K W fa) (tX K W fb) σ H Q := by
  obtain ⟨cf, bs, m, S, ρ, F, h⟩ := h
  refine ⟨cf, bs, m, S, ρ, F, RsOk.bind F h fun x vx m1 H1 S1 F1 k1 R1 h1 => ⟨cf, bs, m1, S1, ρ, F1, RsOk.bind F1 h1 fun y vy m2 H2 S2 F2 k2 R2 h2 => ?_⟩⟩
  have R1 : Rep K (mset bs m2) H2 vx x := Rep.lk k2.lk R1
  unfold opF opF2 at h2
  split at h2
  · rename_i x' y' ex ey
    unfold opF3 at h2
    split at h2
    · rename_i z ez
      split at h2
      · rename_i hz
        have dm : Dom (mset bs (m2.take 0)) H2 := fun a (z : a ∈ m2.take 0 ∨ a ∈ bs.h) => F2.cs.domA a (show a ∈ m2 ∨ a ∈ bs.h from z.imp List.mem_of_mem_take id)
        exact ht _ H2 vx vy x' y' z Q dm (fz_ok F2.cs R1 ex) (fz_ok F2.cs R2 ey) ez fun v H' s r => h2 v m2 H' (F2.cs.same s) (Kp.of_same s) (r.sca hz)
      · exact h2.elim
    · exact h2.elim
  · exact h2.elim
theorem m_cmpF {op : CmpOp} {r : R2} {f : T → T → Option T} (ho : OpR X (compareOp op) r) (ht : OpT K r f) (ha : PE X a (tX K W fa)) (hb : PE X b (tX K W fb)) (hm : behindInMarks op b = false) : PE X (.Compare a [op] [b] pos) (tX K W (mOpF f fa fb)) :=
  PE.imp (pe_cmpR ho ha hb hm) fun _ _ _ h => opF_read ht h
theorem m_tcmpF {op : CmpOp} {r : R2} {f : T → T → Option T} (ho : OpR X (compareOp op) r) (ht : OpT K r f) (ha : PE X a (tX K W fa)) (hb : PE X b (tX K W fb)) (hm : behindInMarks op b = false) : PT X (.Compare a [op] [b] pos) (tXT K W (mTst (mOpF f fa fb))) :=
  PT.imp (pt_cmpR ho ha hb hm) fun σ H Q h => by
    have := tst_read h
    exact opF_read (Q := fun x H1 => ∃ k, x = .bl k ∧ Q k H1) ht this
end
section
variable {c : Cf} {ρ : Ro} {S : St} {f g : Ev T} {x y z x' y' : T}
def kOpF2 (o : T → T → Option T) (x y : T) (S : St) : Rs T := opF o x y S
def kOpF (o : T → T → Option T) (g : Ev T) (c : Cf) (ρ : Ro) (x : T) (S : St) : Rs T := (g c ρ S).bd (kOpF2 o x)
theorem e_opF {o : T → T → Option T} : mOpF o f g c ρ S = (f c ρ S).bd (kOpF o g c ρ) := by unfold mOpF; simp only [ap_bind] <;> rfl
theorem e_opF1 {o : T → T → Option T} : kOpF o g c ρ x S = (g c ρ S).bd (kOpF2 o x) := rfl
theorem e_opF2 {o : T → T → Option T} : kOpF2 o x y S = opF o x y S := rfl
theorem opF_of {o : T → T → Option T} (e1 : fz 0 S x = some x') (e2 : fz 0 S y = some y') (e : o x' y' = some z) (h : scaT z = true) : opF o x y S = .ok z S := by
  unfold opF opF2
  rw [e1, e2]
  dsimp only
  unfold opF3
  rw [e]
  dsimp only
  rw [if_pos h]
end
end Tm

/-! N16: ranges in steps. -/
namespace Tm
open PySem PySem.Spec PyProof.Rows L2
def rgC (lo c : Int) (n : Nat) : List T := (List.range n).map fun (i : Nat) => T.int (lo + (i : Int) * c)
theorem it_rngC {K : PySem.W.Frag} {bs : Bx} {m : List Addr} {H1 : Hp} {lo c : Int} {n : Nat} : RpI K bs m H1 (Itc lo c n) (.fix (rgC lo c n)) := fun bs' m2 S2 H2 k cs i => by
  refine ⟨fun t ht => ?_, fun hi => ?_⟩
  · have ht : (rgC lo c n)[i]? = some t := Option.some.inj ht
    unfold rgC at ht
    rw [List.getElem?_map] at ht
    obtain ⟨j, hj, e⟩ := Option.map_eq_some_iff.mp ht
    obtain ⟨h1, h2⟩ := List.getElem?_eq_some_iff.mp hj
    rw [List.getElem_range] at h2
    subst h2
    rw [List.length_range] at h1
    subst e
    refine ⟨h1, fun y H3 ⟨e, q⟩ => ?_⟩
    subst e q
    exact ⟨L2.Same.refl _, .int _⟩
  · have hi := List.getElem?_eq_none_iff.mp (Option.some.inj hi)
    exact show n ≤ i by simpa [rgC] using hi
theorem rangeSize_up {i j c : Int} (hc : 0 < c) : Builtin.Range.rangeSize i j c = if i < j then (j - i - 1) / c + 1 else 0 := by
  unfold Builtin.Range.rangeSize
  rw [if_pos hc]
theorem small_up {i j c : Int} (hc : 0 < c) (hc2 : c < 1000000) (h1 : -(2 ^ 60) < i) (h2 : i < 2 ^ 60) (h3 : -(2 ^ 60) < j) (h4 : j < 2 ^ 60) : Builtin.Range.small i j c = true := by
  have h5 : (if i < j then (j - i - 1) / c + 1 else 0) ≤ 2 ^ 62 ∧ 0 ≤ (if i < j then (j - i - 1) / c + 1 else 0) := by
    split
    · have a := Int.ediv_le_self c (show (0 : Int) ≤ j - i - 1 by omega)
      have b := Int.ediv_nonneg (show (0 : Int) ≤ j - i - 1 by omega) (show (0 : Int) ≤ c by omega)
      omega
    · omega
  unfold Builtin.Range.small
  rw [rangeSize_up hc]
  generalize (if i < j then (j - i - 1) / c + 1 else 0) = n at *
  simp only [Builtin.Range.rangeFitsLong, Bool.and_eq_true, Bool.or_eq_true, decide_eq_true_eq, beq_iff_eq, hc, if_true, gt_iff_lt]
  omega
def fRng3 : List T → Option (List T)
  | [.int i, .int j, .int c] => if 0 < c ∧ c < 1000000 ∧ -(2 ^ 60) < i ∧ i < 2 ^ 60 ∧ -(2 ^ 60) < j ∧ j < 2 ^ 60 then some (rgC i c (if i < j then (j - i - 1) / c + 1 else 0).toNat) else none
  | _ => none
theorem i_range3 {X : Cx} {K : PySem.W.Frag} {W : WX} {tg a b c : Expr} {fr : Ev (List T)} {p pos : Pos} (hm : X.mg "range" = none) (ha : PA X [a, b, c] (tXA K W fr)) (hg : Gl X "range" := by rfl) (hs : starEach [a, b, c] X.env = (false, eval a X.env) :: starEach [b, c] X.env := by rfl) (hpl : (backTo pos (starEach [b, c] X.env)).any (·.1) = false := by rfl) : PI X tg (.Call (.Name "range" p) [a, b, c] [] pos) (tXI K W (mL fRng3 fr)) := PI.imp (pi_range3 hg hm ha hs hpl) fun σ H R h => by
  obtain ⟨cf, bs, m, S, ρ, F, h⟩ := h
  refine ⟨cf, bs, m, S, ρ, F, RsOk.bind F h fun x vx m1 H1 S1 F1 k1 R1 h1 => ?_⟩
  unfold RpA at R1
  cases e : fRng3 x with
  | none => rw [e] at h1; exact h1.elim
  | some l =>
    rw [e] at h1
    unfold fRng3 at e
    split at e
    · split at e
      · rename_i hj
        cases e
        cases R1 with
        | cons r rr =>
          cases rr with
          | cons r2 rr =>
            cases rr with
            | cons r3 rr =>
              cases rr
              cases r
              cases r2
              cases r3
              exact ⟨_, _, _, _, rfl, ⟨by omega, by omega, small_up hj.1 hj.2.1 hj.2.2.1 hj.2.2.2.1 hj.2.2.2.2.1 hj.2.2.2.2.2, by
                rw [rangeSize_up hj.1]
                refine (Int.toNat_of_nonneg ?_).symm
                split
                · rename_i q
                  exact Int.add_nonneg (Int.ediv_nonneg (by omega) (Int.le_of_lt hj.1)) (by decide)
                · omega⟩, h1 _ m1 H1 F1.cs Kp.refl it_rngC⟩
      · cases e
    · cases e
end Tm

/-! N17: repr, where nothing is under way. -/
namespace Tm
open PySem PySem.Spec PyProof.Rows L2
/-! ### repr of data -/
def rRepR (K : PySem.W.Frag) (xs : List V) (H : Hp) (Q : VK) : Prop := ∃ x d, xs = [x] ∧ (∃ a : Addr, x = .ref a) ∧ Dp K H x d ∧ d.showable = true ∧ d.hasDict = false ∧ d.depth ≤ 60 ∧ d.shown.length ≤ sizeLine ∧ Q (.str d.shown) H
theorem call_reprR {X : Cx} (K : PySem.W.Frag) (hG : X.A.guards = some []) (hu : X.A.units + 64 < cLine) (hK : X.K = K := by rfl) : CallR X (.builtin "repr") (rRepR K) := by
  subst hK
  intro pins s σ H xs us Q I r h
  obtain ⟨x, d, rfl, ⟨a, rfl⟩, hd, h1, h2, h3, h4, q⟩ := h
  cases r with
  | cons r1 r2 =>
    cases r2
    cases r1
    obtain ⟨as, rd⟩ := Dp.reads I d _ _ hd rfl
    exact repr_of_reads' rd h1 (fun z => by rw [h2] at z; cases z) hG (by omega) (fun _ _ e => e) (fun h' u tk kp => ⟨.str _, H, I.kept (t' := tk) (fun b o e => kp b o e), ⟨_, rfl⟩, q⟩) h4
def refT : T → Bool
  | .tup _ => true
  | .wt _ => true
  | .lst _ => true
  | _ => false
def bRepR : List T → Option T
  | [t] => match toD t with
    | some d => if refT t = true ∧ d.showable = true ∧ d.hasDict = false ∧ d.depth ≤ 60 ∧ d.shown.length ≤ sizeLine then some (.str d.shown) else none
    | none => none
  | _ => none
theorem bRepR_ok {K : PySem.W.Frag} : CallT K (rRepR K) bRepR := fun A H xs ts tz Q d rs e k => by
  unfold bRepR at e
  split at e
  · rename_i t
    split at e
    · rename_i dd ed
      split at e
      · rename_i h
        cases e
        cases rs with
        | cons r r2 =>
          cases r2
          have dp := r.dp ed
          refine ⟨_, dd, rfl, ?_, dp, h.2.1, h.2.2.1, h.2.2.2.1, h.2.2.2.2, k _ _ (L2.Same.refl _) (.str _)⟩
          cases r <;> first | exact ⟨_, rfl⟩ | (have z := h.1; cases z)
      · cases e
    · cases e
  · cases e
def rRep (K : PySem.W.Frag) (xs : List V) (H : Hp) (Q : VK) : Prop := rRepR K xs H Q ∨ ∃ i, xs = [.int i] ∧ i.natAbs.log2 < 1920 ∧ Q (.str (toString i)) H
theorem call_repr {X : Cx} (K : PySem.W.Frag) (hG : X.A.guards = some []) (hu : X.A.units + 64 < cLine) (hK : X.K = K := by rfl) : CallR X (.builtin "repr") (rRep K) := CallR.or (call_reprR K hG hu hK) SkE.call_repr_int
def bRep : List T → Option T
  | [.int i] => if i.natAbs.log2 < 1920 then some (.str (toString i)) else none
  | ts => bRepR ts
theorem bRep_ok {K : PySem.W.Frag} : CallT K (rRep K) bRep := fun A H xs ts tz Q d rs e k => by
  unfold bRep at e
  split at e
  · rename_i i
    split at e
    · rename_i h
      cases e
      cases rs with
      | cons r r2 =>
        cases r2
        cases r
        exact .inr ⟨i, rfl, h, k _ _ (L2.Same.refl _) (.str _)⟩
    · cases e
  · exact .inl (bRepR_ok A H xs ts tz Q d rs e k)
theorem bRep_int {i : Int} (h : i.natAbs.log2 < 1920) : bRep [.int i] = some (.str (toString i)) := if_pos h
theorem bRep_ref {t : T} (h : refT t = true) : bRep [t] = bRepR [t] := by cases t <;> first | rfl | cases h
end Tm

/-! N18: own exceptions raised, caught, asked. -/
namespace Tm
open PySem PySem.Spec PyProof.Rows L2
/-- raise C(e), the field f keeping e -/
def sRaise (C f : Str) (fr : Ev (List T)) : Sv := fun c ρ S => ouE (fr c ρ S) ρ fun xs S => match xs with
  | [x] => .ex (.obj C [f] [x]) ρ S
  | _ => .st
section
variable {X : Cx} {K : PySem.W.Frag} {W : WX} {D : Ends} {σ : L2.St} {H : Hp} {fI : Addr} {C f : Str} {file : Str} {B newId initId : String} {bmB : List Value}
theorem s_raise {a : Expr} {fr : Ev (List T)} {p pos pos2 : Pos} {k : Nat} (hc : X.calm = true) (tk : Takes X W) (T : PySem.TmX.XTxt file X.K (He.ga X.K C) fI f B newId initId bmB) (hbd : PySem.TmX.BindsX f) (XB : XBase B newId initId bmB) (hfile : ((X.prog.main.file : Str) == file) = true) (htop : (X.prog.main.scope.names.lookup ("super" : Str)).isSome = false)
    (hsup : X.mg "super" = none) (hr : Room k X.A) (hk : 2 ≤ k) (hm : X.mg C = some (.ref (He.ga X.K C))) (ha : PA X [a] (tXA K W fr)) (hg : Gl X C := by rfl) (hdb : (C == ("__debug__" : Str)) = false := by decide)
    (he : starEach (a :: []) X.env = (false, eval a X.env) :: starEach [] X.env := by rfl) (hpl : (backTo pos (starEach [] X.env)).any (·.1) = false := by rfl) (hK : X.K = K := by rfl) :
    PS X (.Raise (some (.Call (.Name C p) [a] [] pos)) none pos2) (tXS K W (sRaise C f fr)) := by
  subst hK
  refine PS.imp (ps_raise hc tk (pmk_x T hbd XB hfile htop hsup hr hk hm ha hg hdb he hpl)) fun D σ H h => ?_
  obtain ⟨cf, bs, m, S, ρ, F, h⟩ := h
  refine ⟨cf, bs, m, S, ρ, F, OuOk.ofE F h fun xs vs m1 H1 S1 _ F1 k1 R1 h1 => ?_⟩
  have R1 : Reps X.K (mset bs m1) H1 vs xs := R1
  match xs, R1, h1 with
  | [x], R1, h1 =>
    cases R1 with
    | @cons v _ _ _ r rr =>
      cases rr
      refine ⟨v, rfl, fun d hd => ?_⟩
      have s := same_new (o := .xd [(f, v)]) hd
      exact h1 _ _ σ m1 _ (F1.same s) (Kp.of_same s) ⟨C, [f], [x], rfl, rfl, .inr ⟨d, [(f, v)], rfl, upd_same, F1.cs.domA.new hd, rfl, .cons (r.same s) .nil⟩⟩
/-! ### try: .. except D as n: .. -/
def unS (i : Nat) : Ou → Ou
  | .nx ρ S => .nx (ρ.set i none) S
  | .br ρ S => .br (ρ.set i none) S
  | .ct ρ S => .ct (ρ.set i none) S
  | .rt t S => .rt t S
  | _ => .st
def hndR (i : Nat) (h : Nat → Nat → Str → Sv) (C : Str) (ns : List Str) (l : List T) (c : Cf) (ρ : Ro) (S : St) (a d : Nat) : Ou := unS i (h a d C c (ρ.set i (some (.exc a d C ns l))) S)
open Classical in
/-- the suite, at any places of the error -/
noncomputable def hnd (i : Nat) (h : Nat → Nat → Str → Sv) (C : Str) (ns : List Str) (l : List T) (c : Cf) (ρ : Ro) (S : St) : Ou := if ∀ a d, hndR i h C ns l c ρ S a d = hndR i h C ns l c ρ S 0 0 then hndR i h C ns l c ρ S 0 0 else .st
theorem hnd_eq {i : Nat} {h : Nat → Nat → Str → Sv} {C : Str} {ns : List Str} {l : List T} {c : Cf} {ρ : Ro} {S : St} {o : Ou} (e : ∀ a d, hndR i h C ns l c ρ S a d = o) : hnd i h C ns l c ρ S = o := by
  unfold hnd
  rw [if_pos (fun a d => (e a d).trans (e 0 0).symm)]
  exact e 0 0
/-- up: what the clause doesn't name goes on -/
noncomputable def kTry (up : Bool) (i : Nat) (tb : List (Str × Bool)) (h : Nat → Nat → Str → Sv) (c : Cf) (o : Ou) : Ou := match o with
  | .ex x ρ1 S1 => match x with
    | .obj C ns (t :: l) => match tb.lookup C with
      | some true => hnd i h C ns (t :: l) c ρ1 S1
      | some false => if up = true then .ex x ρ1 S1 else .st
      | none => .st
    | _ => .st
  | o => o
noncomputable def sTryAs (up : Bool) (i : Nat) (tb : List (Str × Bool)) (h : Nat → Nat → Str → Sv) (b : Sv) : Sv := fun c ρ S => kTry up i tb h c (b c ρ S)
theorem PSs.ex {α : Type} {body : List Stmt} {t : α → TS} (h : ∀ y, PSs X body (t y)) : PSs X body fun D σ H => ∃ y, t y D σ H := ⟨fun pins s σ H D I hw => by
  obtain ⟨y, hw⟩ := hw
  exact (h y).run pins s σ H D I hw⟩
theorem PSs.when {body : List Stmt} {p : Prop} {t : TS} (h : p → PSs X body t) : PSs X body fun D σ H => p ∧ t D σ H := ⟨fun pins s σ H D I hw => (h hw.1).run pins s σ H D I hw.2⟩
theorem s_tryAs {up : Bool} {i : Nat} {x n Dn : Str} {tb : List (Str × Bool)} {h : Nat → Nat → Str → Sv} {b : Sv} {body suite : List Stmt} {b₀ : Stmt} {np pos pos' : Pos} (tk : up = true → Takes X W) (hN : X.N.Nodup) (hc : Names X x (.ref (He.ga K Dn)))
    (htb : ∀ q ∈ tb, PySem.W.exmOne K (.ref (He.ga K q.1)) (.ref (He.ga K Dn)) = some q.2)
    (hb : ∀ (W' : WX) (pn : List (Addr × Obj)) (xe : Value → Shared → Prop), Takes (X.tr pn xe) W' → PassesOwn (model X.prog X.w) X.A X.env xe → PSs (X.tr pn xe) body (tXS K W' b))
    (hsu : ∀ (a d : Addr) (C : Str) (oe : Obj) (pn : List (Addr × Obj)), (C, true) ∈ tb → Zc (.ref (He.ga K C)) (some d) oe → (∃ vs, oe.data = .fields vs) → PSs (X.suite a ((a, oe) :: pn)) (b₀ :: suite) (tXS K (fun _ _ _ _ => False) (h a d C)))
    (hi : X.N[i]? = some n := by rfl) (hln : X.env.kindOf n = some .local := by rfl) (hs : X.stack = X.env :: X.outer := by rfl) (hf : X.env.frame = some X.env.locals := by rfl) (hK : X.K = K := by rfl) :
    PS X (.Try body [.ExceptHandler (some (.Name x np)) (some n) (b₀ :: suite) pos'] [] [] pos) (tXS K W (sTryAs up i tb h b)) := by
  subst hK
  have tk' : Takes X fun cls d σ H => up = true ∧ W cls d σ H := by
    cases up with
    | true => exact (tk rfl).imp fun _ _ _ _ z => z.2
    | false =>
      intro u s' z
      obtain ⟨_, _, _, _, _, _, _, _, _, _, _, _, _, _, _, _, z⟩ := z
      exact Bool.noConfusion z.1
  refine PS.imp (ps_try_as (ts := fun a cls d D σ H => ∃ y : Str × Addr, ((y.1, true) ∈ tb ∧ cls = .ref (He.ga X.K y.1) ∧ d = some y.2) ∧ tXS X.K (fun _ _ _ _ => False) (h a y.2 y.1) D σ H) hs hf hN hi hln hc tk' hb fun a oe cls d pn hz hv => PSs.ex fun y => PSs.when fun q => ?_) fun D σ H hw => ?_
  · obtain ⟨q1, rfl, rfl⟩ := q
    exact hsu a y.2 y.1 oe pn q1 hz hv
  · obtain ⟨cf, bs, m, S, ρ, F, hw⟩ := hw
    refine ⟨cf, bs, m, S, ρ, F, ?_⟩
    unfold sTryAs kTry at hw
    cases e : b cf ρ S with
    | ex x ρ1 S1 =>
      rw [e] at hw
      intro cls d σ' m' H' F' k' xa
      obtain ⟨C, ns, l, rfl, rfl, xd⟩ := xa
      dsimp only at hw
      cases l with
      | nil => exact hw.elim
      | cons t l =>
        dsimp only at hw
        cases el : tb.lookup C with
        | none => rw [el] at hw; exact hw.elim
        | some bb =>
          rw [el] at hw
          have mem : (C, bb) ∈ tb := lookup_mem el
          refine ⟨bb, htb _ mem, fun hbb a ha => ?_, fun hbb => ?_⟩
          · subst hbb
            dsimp only at hw
            unfold hnd at hw
            split at hw
            · rename_i hall
              rcases xd with ⟨_, _, z⟩ | ⟨dd, fs, rfl, hdd, na, rfl, rs⟩
              · cases z
              · rw [← hall a dd] at hw
                have F2 : FAt X.K cf bs m' S1 (σ'.set i (some (.ref a))) H' (ρ1.set i (some (.exc a dd C (fs.map (·.1)) (t :: l)))) := F'.set (.exc na hdd rs)
                refine ⟨(C, dd), ⟨mem, rfl, rfl⟩, cf, bs, m', S1, _, F2, ?_⟩
                unfold hndR at hw
                cases eo : h a dd C cf (ρ1.set i (some (.exc a dd C (fs.map (·.1)) (t :: l)))) S1 with
                | nx ρ3 S3 => rw [eo] at hw; exact fun σ3 m3 H3 F3 k3 => hw _ m3 H3 (F3.unset i) (k'.trans k3)
                | br ρ3 S3 => rw [eo] at hw; exact fun σ3 m3 H3 F3 k3 => hw _ m3 H3 (F3.unset i) (k'.trans k3)
                | ct ρ3 S3 => rw [eo] at hw; exact fun σ3 m3 H3 F3 k3 => hw _ m3 H3 (F3.unset i) (k'.trans k3)
                | rt t3 S3 => rw [eo] at hw; exact fun v m3 H3 cs3 k3 r3 => hw v m3 H3 cs3 (k'.trans k3) r3
                | ex x3 ρ3 S3 => rw [eo] at hw; exact hw.elim
                | st => rw [eo] at hw; exact hw.elim
            · exact hw.elim
          · subst hbb
            dsimp only at hw
            split at hw
            · rename_i hup
              exact ⟨hup, hw _ d σ' m' H' F' k' ⟨C, ns, t :: l, rfl, rfl, xd⟩⟩
            · exact hw.elim
    | nx ρ1 S1 => rw [e] at hw; exact hw
    | br ρ1 S1 => rw [e] at hw; exact hw
    | ct ρ1 S1 => rw [e] at hw; exact hw
    | rt t S1 => rw [e] at hw; exact hw
    | st => rw [e] at hw; exact hw
/-! ### what a suite asks of the error that it holds, in slot i -/
def mXf (a d : Nat) (C : Str) (i : Nat) (f : Str) : Ev T := fun _ ρ S => match ρ[i]? with
  | some (some (.exc a' d' C' ns l)) => if a' = a ∧ d' = d ∧ C' = C ∧ f ∈ ns then match l[nix ns f]? with
    | some x => .ok x S
    | none => .st else .st
  | _ => .st
theorem m_xf {a d : Addr} {oe : Obj} {pn : List (Addr × Obj)} {pos : Pos} (i : Nat) {n : Str} (T : XfC X.K (He.ga X.K C)) (hno : PySem.W.findIn X.K (.ref (He.ga X.K C)) f = some none) (hz : Zc (.ref (He.ga K C)) (some d) oe) (hf : ∃ vs, oe.data = .fields vs)
    (hN : X.N[i]? = some n := by rfl) (hv : Vis X.env.scope n := by first | exact Or.inl rfl | exact Or.inr (Or.inl rfl) | exact Or.inr (Or.inr rfl)) (hd : (n == ("__debug__" : Str)) = false := by decide) (hcd : (n == ("__classdict__" : Str)) = false := by decide) (hb : attributeBase (.Name n pos) f X.env (eval (.Name n pos) X.env) = eval (.Name n pos) X.env := by rfl) (hK : X.K = K := by rfl) {pos2 : Pos} :
    PE (X.suite a ((a, oe) :: pn)) (.Attribute (.Name n pos) f pos2) (tX K W (mXf a d C i f)) := by
  subst hK
  refine PE.imp (pe_xf T hno hz hf (pe_var (X := X.suite a ((a, oe) :: pn)) (i := i) hN hv hd hcd) hb) fun σ H Q h => ?_
  obtain ⟨cf, bs, m, S, ρ, F, h⟩ := h
  unfold mXf at h
  split at h
  · rename_i a' d' C' ns l e
    split at h
    · rename_i q
      obtain ⟨rfl, rfl, rfl, hm⟩ := q
      split at h
      · rename_i x ex
        obtain ⟨v, ev, r⟩ := F.sl _ _ e
        cases r with
        | exc na hdd rs =>
          obtain ⟨y, ey, ry⟩ := rs.get ex
          exact ⟨_, ev, rfl, rfl, _, _, y, rfl, hdd, lookup_nix hm ey, h y m H F.cs Kp.refl ry⟩
      · exact h.elim
    · exact h.elim
  · exact h.elim
/-- isinstance(e, D): what the classes say -/
def mIsE (a d : Nat) (C : Str) (i : Nat) (b : Bool) : Ev T := fun _ ρ S => match ρ[i]? with
  | some (some (.exc a' d' C' _ _)) => if a' = a ∧ d' = d ∧ C' = C then .ok (.bl b) S else .st
  | _ => .st
theorem isE_read {a d : Addr} {oe : Obj} {i : Nat} {b : Bool} {c : V} {cv : Value} {tc : TE} (hc : ∀ σ H Q, Q c H → tc σ H Q) (hv : ∀ u, RelV c u → u = cv) (hk : PySem.W.kitOne X.K (.ref (He.ga X.K C)) cv = some b) {σ : L2.St} {H : Hp} {Q : VK} (h : tX X.K W (mIsE a d C i b) σ H Q) :
    tCons (tVar i) (tCons tc tNil) σ H fun vs H1 => rIsE X.K (He.ga X.K C) a vs H1 Q ∧ ∃ (dd : Addr) (fs : List (Str × V)), some d = some dd ∧ H1 dd = some (.xd fs) := by
  obtain ⟨cf, bs, m, S, ρ, F, h⟩ := h
  unfold mIsE at h
  split at h
  · rename_i a' d' C' ns l e
    split at h
    · rename_i q
      obtain ⟨rfl, rfl, rfl⟩ := q
      obtain ⟨v, ev, r⟩ := F.sl _ _ e
      cases r with
      | exc na hdd rs => exact ⟨_, ev, hc _ _ _ ⟨⟨c, cv, b, rfl, hv, hk, h (.bl b) m H F.cs Kp.refl (.bl b)⟩, _, _, rfl, hdd⟩⟩
    · exact h.elim
  · exact h.elim
theorem m_isE {a d : Addr} {oe : Obj} {pn : List (Addr × Obj)} {np p p2 pos : Pos} {n Dx : Str} (i : Nat) {b : Bool} (G : ExcC X.K (He.ga X.K C)) (hk : PySem.W.kitOne X.K (.ref (He.ga X.K C)) (.ref (He.ga X.K Dx)) = some b) (hz : Zc (.ref (He.ga K C)) (some d) oe) (hf : ∃ vs, oe.data = .fields vs) (hmi : X.mg "isinstance" = none) (hm : X.mg Dx = some (.ref (He.ga X.K Dx)))
    (hN : X.N[i]? = some n := by rfl) (hv : Vis X.env.scope n := by first | exact Or.inl rfl | exact Or.inr (Or.inl rfl) | exact Or.inr (Or.inr rfl)) (hg : Gl X Dx := by rfl) (hgi : Gl X "isinstance" := by rfl) (hd : (n == ("__debug__" : Str)) = false := by decide) (hcd : (n == ("__classdict__" : Str)) = false := by decide) (hdx : (Dx == ("__debug__" : Str)) = false := by decide)
    (hs : starEach [.Name n p, .Name Dx p2] X.env = (false, eval (.Name n p) X.env) :: starEach [.Name Dx p2] X.env := by rfl) (hs2 : starEach [.Name Dx p2] X.env = (false, eval (.Name Dx p2) X.env) :: starEach [] X.env := by rfl) (hpl : (backTo pos (starEach [.Name Dx p2] X.env)).any (·.1) = false := by rfl) (hK : X.K = K := by rfl) :
    PE (X.suite a ((a, oe) :: pn)) (.Call (.Name "isinstance" np) [.Name n p, .Name Dx p2] [] pos) (tX K W (mIsE a d C i b)) := by
  subst hK
  refine PE.imp (pe_callB (call_isErr G hz hf ⟨d, rfl⟩) hgi hmi bt_isinstance (pa_cons (pe_var (X := X.suite a ((a, oe) :: pn)) (i := i) hN hv hd hcd) (pa_cons (pe_gr (X := X.suite a ((a, oe) :: pn)) hm hg hdx) pa_nil hs2) hs) (by decide) (by decide) hs hpl) fun σ H Q h => ?_
  exact isE_read (oe := oe) (c := .ref (He.ga X.K Dx)) (cv := .ref (He.ga X.K Dx)) (tc := tC (.ref (He.ga X.K Dx))) (fun σ H Q q => q) (fun u r => r) hk h
theorem m_isEb {a d : Addr} {oe : Obj} {pn : List (Addr × Obj)} {np p p2 pos : Pos} {n : Str} {Dx : Str} {Db : String} (i : Nat) {b : Bool} (G : ExcC X.K (He.ga X.K C)) (hk : PySem.W.kitOne X.K (.ref (He.ga X.K C)) (.type Db) = some b) (hz : Zc (.ref (He.ga K C)) (some d) oe) (hf : ∃ vs, oe.data = .fields vs) (hmi : X.mg "isinstance" = none) (hm : X.mg Dx = none) (hbt : bootBuiltins Dx = some (.type Db))
    (hN : X.N[i]? = some n := by rfl) (hv : Vis X.env.scope n := by first | exact Or.inl rfl | exact Or.inr (Or.inl rfl) | exact Or.inr (Or.inr rfl)) (hg : Gl X Dx := by rfl) (hgi : Gl X "isinstance" := by rfl) (hd : (n == ("__debug__" : Str)) = false := by decide) (hcd : (n == ("__classdict__" : Str)) = false := by decide) (hdx : (Dx == ("__debug__" : Str)) = false := by decide) (hdn : Dx ≠ "__name__" := by decide)
    (hs : starEach [.Name n p, .Name Dx p2] X.env = (false, eval (.Name n p) X.env) :: starEach [.Name Dx p2] X.env := by rfl) (hs2 : starEach [.Name Dx p2] X.env = (false, eval (.Name Dx p2) X.env) :: starEach [] X.env := by rfl) (hpl : (backTo pos (starEach [.Name Dx p2] X.env)).any (·.1) = false := by rfl) (hK : X.K = K := by rfl) :
    PE (X.suite a ((a, oe) :: pn)) (.Call (.Name "isinstance" np) [.Name n p, .Name Dx p2] [] pos) (tX K W (mIsE a d C i b)) := by
  subst hK
  refine PE.imp (pe_callB (call_isErr G hz hf ⟨d, rfl⟩) hgi hmi bt_isinstance (pa_cons (pe_var (X := X.suite a ((a, oe) :: pn)) (i := i) hN hv hd hcd) (pa_cons (pe_ty (X := X.suite a ((a, oe) :: pn)) hm hbt hg hdn hdx) pa_nil hs2) hs) (by decide) (by decide) hs hpl) fun σ H Q h => ?_
  exact isE_read (oe := oe) (c := .ty Db) (cv := .type Db) (tc := tC (.ty Db)) (fun σ H Q q => q) (fun u r => r) hk h
end
end Tm
namespace Tm
open PySem PySem.Spec PyProof.Rows L2
theorem bx_word : PySem.TmX.BindsX "word" := by
  intro nm qual p1 p2 body kV doc pm an cdv ct cc x v
  first | rfl | with_unfolding_all rfl
theorem bx_at : PySem.TmX.BindsX "at" := by
  intro nm qual p1 p2 body kV doc pm an cdv ct cc x v
  first | rfl | with_unfolding_all rfl
theorem bx_name : PySem.TmX.BindsX "name" := by
  intro nm qual p1 p2 body kV doc pm an cdv ct cc x v
  first | rfl | with_unfolding_all rfl
/-! ### a def that may raise, called where it does not -/
def noEx (Fm : Fn) : Fn := fun c as S => match Fm c as S with
  | .ok t S' => .ok t S'
  | _ => .st
theorem noEx_ok {Fm : Fn} {c : Cf} {as : List T} {S S' : St} {t : T} (h : Fm c as S = .ok t S') : noEx Fm c as S = .ok t S' := by unfold noEx; rw [h]
theorem dn_noEx {P : Program} {w : World} {K : PySem.W.Frag} {mg : Str → Option Value} {base : Heap} {k : Nat} {f : Addr} {dvs : List V} {Fm : Fn} (D : Dn P w K mg base (L2.CX P w) k f dvs (spF K Fm)) : Dn P w K mg base CX0 k f dvs (spF K (noEx Fm)) := by
  obtain ⟨fd, ps, ds, F, kp, r, b⟩ := D.ex
  have key : ∀ vs H Q E, spF K (noEx Fm) vs H Q E → spF K Fm vs H Q fun _ _ _ => False := fun vs H Q E h => by
    obtain ⟨c, bs, m, S, as, cs, bn, rr, h⟩ := h
    refine ⟨c, bs, m, S, as, cs, bn, rr, ?_⟩
    unfold noEx at h
    cases e : Fm c as S with
    | ok t S' => rw [e] at h; exact h
    | ex x S' => rw [e] at h; exact h.elim
    | st => rw [e] at h; exact h.elim
  refine ⟨fd, ps, ds, ⟨fun vs H Q E h => F.len _ _ _ _ (key _ _ _ _ h), fun A outer s H args us vs Q E hr e0 hb hv h => codeAny_mono (F.run A outer s H args us vs Q _ hr e0 hb hv (key _ _ _ _ h)) fun z s' w => ?_⟩, kp, r, b⟩
  cases z with
  | error e =>
    obtain ⟨_, _, _, _, _, _, _, _, _, _, _, _, z⟩ := w
    exact z.elim
  | ok y => cases y <;> exact w
/-! ### equations -/
section
variable {c : Cf} {ρ : Ro} {S S' : St} {x : T} {i : Nat} {tb : List (Str × Bool)} {h : Nat → Nat → Str → Sv} {up : Bool}
def kRaise (C f : Str) (ρ : Ro) (xs : List T) (S : St) : Ou := match xs with
  | [x] => .ex (.obj C [f] [x]) ρ S
  | _ => .st
theorem e_raise {C f : Str} {fr : Ev (List T)} : sRaise C f fr c ρ S = ouE (fr c ρ S) ρ (kRaise C f ρ) := rfl
theorem e_raise1 {C f : Str} : kRaise C f ρ [x] S = .ex (.obj C [f] [x]) ρ S := rfl
theorem e_try {b : Sv} : sTryAs up i tb h b c ρ S = kTry up i tb h c (b c ρ S) := rfl
theorem e_tryN : kTry up i tb h c (.nx ρ S) = .nx ρ S := rfl
theorem e_tryR : kTry up i tb h c (.rt x S) = .rt x S := rfl
theorem e_tryX {C : Str} {ns : List Str} {t : T} {l : List T} {o : Ou} (e : tb.lookup C = some true) (k : ∀ a d, hndR i h C ns (t :: l) c ρ S a d = o) : kTry up i tb h c (.ex (.obj C ns (t :: l)) ρ S) = o := by
  unfold kTry
  dsimp only
  rw [e]
  exact hnd_eq k
theorem e_tryU {C : Str} {ns : List Str} {t : T} {l : List T} (e : tb.lookup C = some false) : kTry true i tb h c (.ex (.obj C ns (t :: l)) ρ S) = .ex (.obj C ns (t :: l)) ρ S := by
  unfold kTry
  dsimp only
  rw [e]
  rfl
theorem endS_ex (h : okR S.length x = true) : endS S (.ex x ρ S') = .ex x (S'.take S.length) := if_pos h
theorem endP_ex (h : okR S.length x = true) : endP S (.ex x ρ S') = .ex x S := if_pos h
theorem finP_ex {S0 : St} (h : okR 0 x = true) : finP (.ex x ρ S0) S = .ex x S := if_pos h
theorem mkR_ex (h : okR S.length x = true) : mkR S (.ex x S') = .ex x S := if_pos h
theorem endO_ex : endO (.ex x ρ S') = .ex x S' := rfl
theorem e_xf {a d : Nat} {C f : Str} {ns : List Str} {l : List T} (e : ρ[i]? = some (some (.exc a d C ns l))) (hf : f ∈ ns) {y : T} (hy : l[nix ns f]? = some y) : mXf a d C i f c ρ S = .ok y S := by
  unfold mXf
  rw [e]
  dsimp only
  rw [if_pos ⟨rfl, rfl, rfl, hf⟩, hy]
theorem e_isE {a d : Nat} {C : Str} {ns : List Str} {l : List T} {b : Bool} (e : ρ[i]? = some (some (.exc a d C ns l))) : mIsE a d C i b c ρ S = .ok (.bl b) S := by
  unfold mIsE
  rw [e]
  dsimp only
  rw [if_pos ⟨rfl, rfl, rfl⟩]
end
end Tm
namespace Tm
open PySem PySem.Spec PyProof.Rows L2
theorem spF_no {K : PySem.W.Frag} {vs : List V} {H : Hp} {Q : VK} {E : XK} (h : spF K (fun _ _ _ => .st) vs H Q E) : False := by
  obtain ⟨c, bs, m, S, as, cs, bn, rr, h⟩ := h
  exact h
end Tm

/-! N19: zip. -/
namespace Tm
open PySem PySem.Spec PyProof.Rows L2
def zpT : List T → List T → List T
  | t :: l, u :: m => .tup [t, u] :: zpT l m
  | _, _ => []
theorem zpT_get : ∀ {l m : List T} {i : Nat} {t : T}, (zpT l m)[i]? = some t → ∃ a b, l[i]? = some a ∧ m[i]? = some b ∧ t = .tup [a, b]
  | [], m, i, t, h => by simp [zpT] at h
  | a :: l, [], i, t, h => by simp [zpT] at h
  | a :: l, b :: m, 0, t, h => by
    simp [zpT] at h
    exact ⟨a, b, rfl, rfl, h.symm⟩
  | a :: l, b :: m, i + 1, t, h => by
    simp only [zpT, List.getElem?_cons_succ] at h
    obtain ⟨x, y, h1, h2, h3⟩ := zpT_get h
    exact ⟨x, y, by simpa using h1, by simpa using h2, h3⟩
theorem zpT_none : ∀ {l m : List T} {i : Nat}, (zpT l m)[i]? = none → l.length ≤ i ∨ m.length ≤ i
  | [], m, i, h => .inl (Nat.zero_le _)
  | a :: l, [], i, h => .inr (Nat.zero_le _)
  | a :: l, b :: m, 0, h => by simp [zpT] at h
  | a :: l, b :: m, i + 1, h => by
    simp only [zpT, List.getElem?_cons_succ] at h
    rcases zpT_none h with q | q
    · exact .inl (by simpa using q)
    · exact .inr (by simpa using q)
def fZip : List T → Option (List T)
  | [.lst l, .lst m] => some (zpT l m)
  | _ => none
theorem i_zip {X : Cx} {K : PySem.W.Frag} {W : WX} {e e2 : Expr} {fr : Ev (List T)} {p pos tpos : Pos} {elts : List Expr} {kk : Nat} (hm : X.mg "zip" = none) (ha : PA X [e, e2] (tXA K W fr)) (hg : Gl X "zip" := by rfl)
    (hs : starEach [e, e2] X.env = (false, eval e X.env) :: starEach [e2] X.env := by rfl) (hpl : (backTo pos (starEach [e2] X.env)).any (·.1) = false := by rfl) (hK : X.K = K := by rfl) : PI X (.Tuple elts kk tpos) (.Call (.Name "zip" p) [e, e2] [] pos) (tXI K W (mL fZip fr)) := by
  subst hK
  refine PI.imp (pi_zip hg hm ha hs hpl) fun σ H R h => ?_
  obtain ⟨cf, bs, m, S, ρ, F, h⟩ := h
  refine ⟨cf, bs, m, S, ρ, F, RsOk.bind F h fun x vx m1 H1 S1 F1 k1 R1 h1 => ?_⟩
  unfold RpA at R1
  cases ez : fZip x with
  | none => rw [ez] at h1; exact h1.elim
  | some l =>
    rw [ez] at h1
    unfold fZip at ez
    split at ez
    · rename_i l1 l2
      cases ez
      cases R1 with
      | cons r rr =>
        cases rr with
        | cons r' rr =>
          cases rr
          have q1 := r
          have q2 := r'
          cases r with
          | lst na hh rs =>
            cases r' with
            | lst na' hh' rs' =>
              refine ⟨_, _, _, _, rfl, .inl (.inl hh), .inl (.inl hh'), h1 _ m1 H1 F1.cs Kp.refl fun bs' m2 S2 H2 L cs i => ?_⟩
              have a1 := q1.lk L
              have a2 := q2.lk L
              cases a1 with
              | lst n1 g1 w1 =>
                cases a2 with
                | lst n2 g2 w2 =>
                  refine ⟨fun t ht => ?_, fun hi => ?_⟩
                  · obtain ⟨x, y, ex, ey, rfl⟩ := zpT_get (Option.some.inj ht)
                    obtain ⟨vx, hvx, rx⟩ := w1.get ex
                    obtain ⟨vy, hvy, ry⟩ := w2.get ey
                    refine ⟨⟨_, _, vx, vy, .inl (.inl g1), .inl (.inl g2), hvx, hvy⟩, fun z H3 q => ?_⟩
                    obtain ⟨q, u, v, rfl, hq, rfl, f1, f2⟩ := q
                    have e1 := f1 _ (.inl (.inl g1))
                    have e2 := f2 _ (.inl (.inl g2))
                    rw [hvx] at e1
                    rw [hvy] at e2
                    cases e1
                    cases e2
                    have s := same_new (o := .tup [vx, vy]) hq
                    exact ⟨s, .tup upd_same (.cons (rx.same s) (.cons (ry.same s) .nil))⟩
                  · have hi := zpT_none (Option.some.inj hi)
                    exact ⟨_, _, .inl (.inl g1), .inl (.inl g2), by rw [w1.length, w2.length]; exact hi⟩
    · cases ez
end Tm
/-! ### xs[::-1] -/
namespace Tm
open PySem PySem.Spec PyProof.Rows L2
def mRev (fa : Ev T) : Ev T := fa.bind fun x _ _ S => match vw S x with
  | .lst l => .ok (.lst l.reverse) S
  | _ => .st
def mRevC (fa : Ev T) : Ev T := fa.bind fun x _ _ S => match vw S x with
  | .lst l => .ok (.ref S.length) (S ++ [.lst l.reverse])
  | _ => .st
theorem Reps.reverse {K : PySem.W.Frag} {A : ASet} {H : Hp} : ∀ {xs : List V} {l : List T}, Reps K A H xs l → Reps K A H xs.reverse l.reverse
  | _, _, .nil => .nil
  | _, _, .cons h r => by
    rw [List.reverse_cons, List.reverse_cons]
    exact (Reps.reverse r).append (.cons h .nil)
section
variable {X : Cx} {K : PySem.W.Frag} {W : WX} {e : Expr} {fa : Ev T} {k : Nat} {p1 p2 p3 pos : Pos}
theorem m_rev (he : PE X e (tX K W fa)) (hK : X.K = K := by rfl) : PE X (.Subscript e (.Slice none none (some (.UnaryOp .USub (.Constant (.int 1) k p1) p2)) p3) pos) (tX K W (mRev fa)) := by
  subst hK
  refine PE.imp (pe_revL he) fun σ H Q h => ?_
  obtain ⟨cf, bs, m, S, ρ, F, h⟩ := h
  refine ⟨cf, bs, m, S, ρ, F, RsOk.bind F h fun x vx m1 H1 S1 F1 k1 R1 h1 => ?_⟩
  split at h1
  · rename_i l ev
    obtain ⟨a, xs, rfl, hh, rs⟩ := lst_at F1.cs R1 ev
    exact ⟨a, xs, rfl, .inl (.inl hh), fun p hp => h1 _ m1 _ (F1.cs.same (same_new hp)) (Kp.of_same (same_new hp)) (.lst (nA_new F1.cs hp) upd_same ((Reps.reverse rs).same (same_new hp)))⟩
  · exact h1.elim
theorem m_revC (he : PE X e (tX K W fa)) (hK : X.K = K := by rfl) : PE X (.Subscript e (.Slice none none (some (.UnaryOp .USub (.Constant (.int 1) k p1) p2)) p3) pos) (tX K W (mRevC fa)) := by
  subst hK
  refine PE.imp (pe_revL he) fun σ H Q h => ?_
  obtain ⟨cf, bs, m, S, ρ, F, h⟩ := h
  refine ⟨cf, bs, m, S, ρ, F, RsOk.bind F h fun x vx m1 H1 S1 F1 k1 R1 h1 => ?_⟩
  split at h1
  · rename_i l ev
    obtain ⟨a, xs, rfl, hh, rs⟩ := lst_at F1.cs R1 ev
    refine ⟨a, xs, rfl, .inl (.inl hh), fun p hp => ?_⟩
    have s := same_new (o := .lst xs.reverse) hp
    exact new_ok F1 hp s (.lst upd_same (reps_new (bs := bs) (S := S1) hp s (Reps.reverse rs))) h1
  · exact h1.elim
end
section
variable {c : Cf} {ρ : Ro} {S : St} {f : Ev T} {x : T}
def kRev (x : T) (S : St) : Rs T := match vw S x with
  | .lst l => .ok (.lst l.reverse) S
  | _ => .st
theorem e_rev : mRev f c ρ S = (f c ρ S).bd kRev := by unfold mRev; simp only [ap_bind] <;> rfl
theorem e_rev1 {l : List T} : kRev (.lst l) S = .ok (.lst l.reverse) S := rfl
def kRevC (x : T) (S : St) : Rs T := match vw S x with
  | .lst l => .ok (.ref S.length) (S ++ [.lst l.reverse])
  | _ => .st
theorem e_revC : mRevC f c ρ S = (f c ρ S).bd kRevC := by unfold mRevC; simp only [ap_bind] <;> rfl
theorem e_revC1 {l : List T} : kRevC (.lst l) S = .ok (.ref S.length) (S ++ [.lst l.reverse]) := rfl
end
end Tm

/-! N20: displays of dicts, keys texts and numbers. -/
namespace Tm
open PySem PySem.Spec PyProof.Rows L2
def mPrs : List (Ev T × Ev T) → Ev (List (Key × T))
  | [] => fun _ _ S => .ok [] S
  | (fk, fv) :: r => fk.bind fun x => fv.bind fun y => (mPrs r).bind fun ps _ _ S => match keyT x with
    | some k => .ok ((k, y) :: ps) S
    | none => .st
def mergeT (kvs more : List (Key × T)) : List (Key × T) := more.foldl (fun acc kv => putKT acc kv.1 kv.2) kvs
def mDisp (prs : List (Ev T × Ev T)) : Ev T := fun c ρ S => match mPrs prs c ρ S with
  | .ok ps S1 => if ps.length ≤ 15 then .ok (.dK ((mergeT [] ps).map (·.1)) ((mergeT [] ps).map (·.2))) S1 else .st
  | _ => .st
section
variable {X : Cx} {K : PySem.W.Frag} {W : WX} {pos : Pos}
theorem KvR.merge {A : ASet} {H : Hp} : ∀ {more : List (Key × V)} {m : List (Key × T)} {kvs : List (Key × V)} {l : List (Key × T)}, KvR K A H more m → KvR K A H kvs l → KvR K A H (mergeK kvs more) (mergeT l m)
  | [], [], _, _, _, r => r
  | [], p :: m, _, _, q, _ => nomatch q.1
  | p :: more, [], _, _, q, _ => nomatch q.1
  | (k, v) :: more, (k', t) :: m, kvs, l, q, r => by
    obtain ⟨q1, q2⟩ := q
    simp only [List.map_cons, List.cons.injEq] at q1
    obtain ⟨rfl, q1⟩ := q1
    cases q2 with
    | cons h q2 => exact KvR.merge (kvs := putK kvs k v) (l := putKT l k t) ⟨q1, q2⟩ (r.put h)
theorem prs_run {cf : Cf} {bs : Bx} {σ : L2.St} {ρ : Ro} {p : Addr} {Q : List (V × V) → Hp → Prop} : ∀ {prs : List (Ev T × Ev T)} {m1 : List Addr} {S1 : St} {H1 : Hp} {S2 : St} {kts : List (Key × T)}, FAt K cf (bs.hide p) m1 S1 σ H1 ρ → H1 p = some (.dK []) → mPrs prs cf ρ S1 = .ok kts S2 →
    (∀ m2 H2 kvs, FAt K cf (bs.hide p) m2 S2 σ H2 ρ → Kp cf.fl m1 H1 m2 H2 → H2 p = some (.dK []) → KvR K (mset (bs.hide p) m2) H2 kvs kts → Q (kvs.map fun kv => (kV kv.1, kv.2)) H2) → tPairs (prs.map fun q => (tX K W q.1, tX K W q.2)) σ H1 Q
  | [], m1, S1, H1, S2, kts, F, hp, e, k => by
    cases e
    exact k m1 H1 [] F Kp.refl hp ⟨rfl, .nil⟩
  | (fk, fv) :: prs, m1, S1, H1, S2, kts, F, hp, e, k => by
    have nD : ∀ {m' S' H'}, FAt K cf (bs.hide p) m' S' σ H' ρ → p ∉ m' := fun F => (F.cs.hid p (List.mem_cons_self ..)).1
    unfold mPrs at e
    simp only [ap_bind] at e
    cases e1 : fk cf ρ S1 with
    | ex _ _ => rw [e1] at e; cases e
    | st => rw [e1] at e; cases e
    | ok x Sx =>
      rw [e1] at e
      simp only [bd_ok] at e
      cases e2 : fv cf ρ Sx with
      | ex _ _ => rw [e2] at e; cases e
      | st => rw [e2] at e; cases e
      | ok y Sy =>
        rw [e2] at e
        simp only [bd_ok] at e
        cases e3 : mPrs prs cf ρ Sy with
        | ex _ _ => rw [e3] at e; cases e
        | st => rw [e3] at e; cases e
        | ok ps Sz =>
          rw [e3] at e
          simp only [bd_ok] at e
          cases ek : keyT x with
          | none => rw [ek] at e; cases e
          | some kk =>
            rw [ek] at e
            cases e
            refine ⟨cf, bs.hide p, m1, S1, ρ, F, ?_⟩
            show RsOk K W (bs.hide p) cf.fl m1 σ H1 (RpT K (bs.hide p)) _ (fk cf ρ S1)
            rw [e1]
            intro vx mx Hx csx kx rx
            have Fx := F.kp csx kx
            have hpx : Hx p = some (.dK []) := kx.all _ _ (fun z => nD F (List.mem_of_mem_drop z)) hp
            refine ⟨cf, bs.hide p, mx, Sx, ρ, Fx, ?_⟩
            show RsOk K W (bs.hide p) cf.fl mx σ Hx (RpT K (bs.hide p)) _ (fv cf ρ Sx)
            rw [e2]
            intro vy my Hy csy ky ry
            have Fy := Fx.kp csy ky
            have hpy : Hy p = some (.dK []) := ky.all _ _ (fun z => nD Fx (List.mem_of_mem_drop z)) hpx
            refine prs_run Fy hpy e3 fun m2 H2 kvs F2 k2 hp2 kv => ?_
            have rx : Rep K (mset (bs.hide p) mx) Hx vx x := rx
            have ry : Rep K (mset (bs.hide p) my) Hy vy y := ry
            have ex := rx.key ek
            subst ex
            exact k m2 H2 ((kk, vy) :: kvs) F2 ((kx.trans ky).trans k2) hp2 ⟨by rw [List.map_cons, List.map_cons, kv.1], .cons (ry.lk k2.lk) kv.2⟩
/-- the pairs' derivations -/
inductive MPs (X : Cx) (K : PySem.W.Frag) (W : WX) (pos : Pos) : List (Option Expr) → List Expr → List (Ev T × Ev T) → Prop where
  | nil : MPs X K W pos [] [] []
  | cons {k v : Expr} {ks : List (Option Expr)} {vs : List Expr} {fk fv : Ev T} {prs : List (Ev T × Ev T)} (hk : PE X k (tX K W fk)) (hv : PE X v (tX K W fv)) (r : MPs X K W pos ks vs prs) : MPs X K W pos (some k :: ks) (v :: vs) ((fk, fv) :: prs)
theorem MPs.pps : ∀ {ks : List (Option Expr)} {vs : List Expr} {prs : List (Ev T × Ev T)}, MPs X K W pos ks vs prs → PPs X pos ks vs (prs.map fun q => (tX K W q.1, tX K W q.2))
  | _, _, _, .nil => pps_nil
  | _, _, _, .cons hk hv r => pps_cons hk hv (MPs.pps r)
theorem m_disp {keys : List (Option Expr)} {values : List Expr} {prs : List (Ev T × Ev T)} (h : MPs X K W pos keys values prs) (hall : keys.all (·.isSome) = true := by rfl) (hl : keys.length = values.length := by rfl) (h0 : keys ≠ [] := by intro z; cases z) (h15 : keys.length ≤ 15 := by decide) : PE X (.Dict keys values pos) (tX K W (mDisp prs)) :=
  PE.imp (pe_disp h.pps hall hl h0 h15) fun σ H Q h => by
    obtain ⟨cf, bs, m, S, ρ, F, h⟩ := h
    intro p hp
    unfold mDisp at h
    cases e : mPrs prs cf ρ S with
    | ex _ _ => rw [e] at h; exact h.elim
    | st => rw [e] at h; exact h.elim
    | ok ps S1 =>
      rw [e] at h
      dsimp only at h
      split at h
      · rename_i hlen
        refine prs_run (hide_at F hp) upd_same e fun m2 H2 kvs F2 k2 hp2 kv => ⟨hp2, kvs, rfl, ?_, ?_⟩
        · have := congrArg List.length kv.1
          simp only [List.length_map] at this
          omega
        · have nt : ∀ ys, HO.dK [] ≠ .tup ys := fun _ z => by cases z
          have nf : ∀ a b, HO.dK [] ≠ .frz a b := fun _ _ z => by cases z
          have s := same_new (o := .dK []) hp
          have kk : Kp cf.fl m H m2 (upd H2 p (.dK (mergeK [] kvs))) := kp_wr ((Kp.of_same s).trans k2) hp hp2 nt nf
          have cs2 := F2.cs.wr (o' := .dK (mergeK [] kvs)) hp2 nt nf
          have L := lk_wr (bs := bs) (m := m2) (o' := .dK (mergeK [] kvs)) hp2 nt nf
          have km := KvR.merge (kvs := []) (l := []) kv ⟨rfl, .nil⟩
          refine h (.ref p) m2 _ cs2.show kk ?_
          show Rep K (mset bs m2) _ (.ref p) (.dK ((mergeT [] ps).map (·.1)) ((mergeT [] ps).map (·.2)))
          rw [← km.1]
          refine .dK (fun z => z.elim (F2.cs.hid p (List.mem_cons_self ..)).1 fun z => ?_) (.inl upd_same) ((km.2.lk L).lk lk_show)
          obtain ⟨o, e⟩ := (F.cs.hid p z).2
          rw [hp] at e
          cases e
      · exact h.elim
end
section
variable {c : Cf} {ρ : Ro} {S : St}
def kDisp (r : Rs (List (Key × T))) : Rs T := match r with
  | .ok ps S1 => if ps.length ≤ 15 then .ok (.dK ((mergeT [] ps).map (·.1)) ((mergeT [] ps).map (·.2))) S1 else .st
  | _ => .st
theorem e_disp {prs : List (Ev T × Ev T)} : mDisp prs c ρ S = kDisp (mPrs prs c ρ S) := by unfold mDisp kDisp; cases mPrs prs c ρ S <;> rfl
end
end Tm

/-! N21: a sum of lists, kept as a cell. -/
namespace Tm
open PySem PySem.Spec PyProof.Rows L2
def mAddC (fa fb : Ev T) : Ev T := fa.bind fun x => fb.bind fun y _ _ S => match vw S x, vw S y with
  | .lst l, .lst m => if l.length + m.length ≤ 1000000 then .ok (.ref S.length) (S ++ [.lst (l ++ m)]) else .st
  | _, _ => .st
section
variable {X : Cx} {K : PySem.W.Frag} {W : WX} {a b : Expr} {fa fb : Ev T} {pos : Pos}
theorem m_addC (ha : PE X a (tX K W fa)) (hb : PE X b (tX K W fb)) : PE X (.BinOp a .Add b pos) (tX K W (mAddC fa fb)) := by
  refine PE.imp (pe_op op_cat ha hb) fun σ H Q h => ?_
  obtain ⟨cf, bs, m, S, ρ, F, h⟩ := h
  refine ⟨cf, bs, m, S, ρ, F, RsOk.bind F h fun x vx m1 H1 S1 F1 k1 R1 h1 => ⟨cf, bs, m1, S1, ρ, F1, RsOk.bind F1 h1 fun y vy m2 H2 S2 F2 k2 R2 h2 => ?_⟩⟩
  have R1 : Rep K (mset bs m2) H2 vx x := Rep.lk k2.lk R1
  split at h2
  · rename_i l l' e1 e2
    split at h2
    · rename_i hs
      obtain ⟨p, xs, rfl, hx, rsx⟩ := lst_at F2.cs R1 e1
      obtain ⟨q, ys, rfl, hy, rsy⟩ := lst_at F2.cs R2 e2
      refine ⟨_, _, _, _, rfl, rfl, hx, hy, big_le (by rw [rsx.length, rsy.length]; exact hs), fun p hp => ?_⟩
      have s := same_new (o := .lst (xs ++ ys)) hp
      exact new_ok F2 hp s (.lst upd_same (reps_new (bs := bs) (S := S2) hp s (rsx.append rsy))) h2
    · exact h2.elim
  · exact h2.elim
end
section
variable {c : Cf} {ρ : Ro} {S : St} {f g : Ev T} {x y : T}
def kAddC2 (x y : T) (S : St) : Rs T := match vw S x, vw S y with
  | .lst l, .lst m => if l.length + m.length ≤ 1000000 then .ok (.ref S.length) (S ++ [.lst (l ++ m)]) else .st
  | _, _ => .st
def kAddC (g : Ev T) (c : Cf) (ρ : Ro) (x : T) (S : St) : Rs T := (g c ρ S).bd (kAddC2 x)
theorem e_addC : mAddC f g c ρ S = (f c ρ S).bd (kAddC g c ρ) := by unfold mAddC; simp only [ap_bind] <;> rfl
theorem e_addC1 : kAddC g c ρ x S = (g c ρ S).bd (kAddC2 x) := rfl
theorem e_addC2 {l m : List T} (h1 : vw S x = .lst l) (h2 : vw S y = .lst m) (h : l.length + m.length ≤ 1000000) : kAddC2 x y S = .ok (.ref S.length) (S ++ [.lst (l ++ m)]) := by
  unfold kAddC2
  rw [h1, h2]
  exact if_pos h
end
end Tm

/-! N22: `x in (a, b, ..)`, where x has its own __eq__ and a, b, .. are None, texts, tuples. -/
namespace Tm
open PySem PySem.Spec PyProof.Rows L2
section
open PySem.SeqAt PySem.MeetsSeq PySem.MeetsSeq2 PySem.MeetsSeq3 PySem.SeqRoads2 GQ
open PySem.AutoSeq1 (wpAny_loadPart')
variable {prog : Program} {w : World} {A : Around} {R : Result → Shared → Prop}
theorem tuple_inG (l : Addr) (row1 : Array Value) (n : Nat) (dd : Option Addr) (sl : Array (Option Value)) (x : Value) (I : Nat → Shared → Prop)
    (turn : ∀ i (h1 : i < row1.size) s, I i s → wpAny (model prog w) A.in1 (eqBool row1[i] x) (fun r s' => if r = true then R (.ok (.ret (.bool true))) s' else I (i + 1) s') (fun e s' => R (.error e) s') s)
    (last : ∀ s, I row1.size s → R (.ok (.ret (.bool false))) s) {s : Shared} (at1 : s.heap.get? l = some { cls := .type "tuple", dict := dd, data := .seq row1 n, slots := sl }) (h : I 0 s) :
    wpAny (model prog w) A.in1 (Builtin.«tuple.__contains__» ⟨[.ref l, x], []⟩) (FinOf prog w A R) (fun e s' => R (.error e) s') s := by
  have h0 := h
  obtain ⟨hp, g, d, tk, os⟩ := s
  wp_walk using wpAny_loadPart' at1, wpAny_forIn_array _ (fun rest b s' => b.1 = none ∧ ∃ i, rest = row1.toList.drop i ∧ i ≤ row1.size ∧ I i s') _
  case turn =>
    rintro y rest b s' ⟨hb', i, hz, hi, hI⟩
    have lw1 : i < row1.toList.length := by
      rcases Nat.lt_or_ge i row1.toList.length with h' | h'
      · exact h'
      · rw [List.drop_of_length_le h'] at hz; cases hz
    have h1 : i < row1.size := by simpa using lw1
    rw [List.drop_eq_getElem_cons lw1] at hz
    injection hz with hy rst
    have hy : y = row1[i] := by simpa using hy
    subst hy
    refine wpAny_bind (wpAny_mono (turn i h1 s' hI) (fun r s2 qq2 => ?_) fun _ _ x => x)
    cases r with
    | true =>
      rw [if_pos rfl] at qq2
      wp_walk
      exact qq2
    | false =>
      rw [if_neg (by decide)] at qq2
      wp_walk
      exact ⟨rfl, i + 1, rst, h1, qq2⟩
  case fin =>
    rintro ⟨b1, b2⟩ s' ⟨hb', i, hz, hi, hI⟩
    simp only at hb'
    subst hb'
    have ge0 : row1.size ≤ i := by
      rcases Nat.lt_or_ge i row1.toList.length with h' | h'
      · rw [List.drop_eq_getElem_cons h'] at hz; cases hz
      · simpa using h'
    have hi' : i = row1.size := by omega
    have res := last s' (hi' ▸ hI)
    wp_walk
    exact res
  case h =>
    exact ⟨rfl, 0, rfl, Nat.zero_le _, h0⟩
end
section
open PySem.SeqAt GQ
variable {prog : Program} {w : World} {A : Around} {E : Value → Shared → Prop} {s : Shared}
theorem in_tupleG {l : Addr} {row1 : Array Value} {x : Value} {Q : Value → Shared → Prop} (bothAt : s.heap.IsTuple l row1) (I : Nat → Shared → Prop)
    (turn : ∀ i (h1 : i < row1.size) s, I i s → wpAny (model prog w) A.in1 (eqBool row1[i] x) (fun r s' => if r = true then Q (.bool true) s' else I (i + 1) s') E s)
    (last : ∀ s, I row1.size s → Q (.bool false) s) (h : I 0 s) : wpAny (model prog w) A (compareOp .In x (.ref l)) Q E s := by
  obtain ⟨⟨cls, dd, data, sl⟩, ho, hc, n, hd⟩ := id bothAt
  simp only at hc hd
  subst hc hd
  show wpAny _ A (do return .bool (← contains (.ref l) x)) Q E s
  refine wpAny_bind (wpAny_contains_slot ⟨_, ho, rfl⟩ F.slot_tuple_contains (wpAny_mono (GQ.call_here F.slot_tuple_contains ⟨_, ho, rfl⟩ F.entry_tuple_contains (F.args_tuple_contains_2 _ _) (tuple_inG (R := wants (fun v s' => ∃ b, v = .bool b ∧ Q (.bool b) s') E) l row1 n dd sl x I (fun i h1 s hI => wpAny_mono (turn i h1 s hI) (fun r s' q => ?_) fun _ _ e => e) (fun s hI => ⟨false, rfl, last s hI⟩) ho h)) (fun v s' hv => ?_) fun _ _ e => e))
  · cases r with
    | true => exact ⟨true, rfl, q⟩
    | false => exact q
  · obtain ⟨b, rfl, hq⟩ := hv
    exact wpAny_truthy_bool (wpAny_pure hq)
/-- a built-in type's == that declines, then the own one -/
theorem rc_back {K : PySem.W.Frag} {u : Value} {T id : String} {x C f : Addr} {ox : Obj} {od : Option Obj} {Q : Value → Shared → Prop} (hu : A.units < cLine) (hK : K.In s.heap) (hT : s.TypeIs u T) (J : PySem.W.InstAt s.heap x ox C od) (hm : PySem.W.mroIn K C (.type T) = some false)
    (slot : Slot T (cmpInfo .Eq).2.1 id) (hc : ∀ Q' : Value → Shared → Prop, Q' .notImplemented s → wpAny (model prog w) A (call (.builtin id) [u, .ref x]) Q' E s) (m : Spm K C "__eq__" f)
    (h : wpAny (model prog w) A (call (.ref f) [.ref x, u]) (PySem.W.CmpBack Q) E s) : wpAny (model prog w) A (richCompare .Eq u (.ref x)) Q E s := by
  have two : wpAny (model prog w) A (tryCompare (.ref x) (cmpInfo .Eq).2.2 u) (fun r s' => ∃ v, r = some v ∧ Q v s') E s := by
    unfold tryCompare
    refine wpAny_bind (PySem.W.ifBound_K hK J m.at_ m.fn (wpAny_mono h (fun v s' hv => ?_) fun _ _ e => e))
    cases v <;> first | exact hv.elim | exact wpAny_pure ⟨_, rfl, hv⟩
  unfold richCompare
  simp only [hT.oneThing_none]
  refine wpAny_holding (wpAny_bind (wpAny_cRoomFor hu ?_))
  refine wpAny_bind (wpAny_typeOf hT (wpAny_bind (J.type.here ?_)))
  have hne : (Value.type T != Value.ref C) = true := rfl
  simp only [hne, if_true]
  refine wpAny_bind ((PySem.W.looks_mroIn hK hm).here ?_)
  simp only [Bool.false_eq_true, if_false, Bool.not_false, if_true]
  refine wpAny_bind (m := tryCompare u _ (.ref x)) (wpAny_tryCompare_declines hT slot (hc _ ⟨rfl, ?_⟩))
  refine wpAny_bind (m := tryCompare (.ref x) _ u) (wpAny_mono two (fun r s' z => ?_) fun _ _ e => e)
  obtain ⟨v, rfl, hq⟩ := z
  exact wpAny_pure hq
end
/-! == of None, a text, a tuple and an instance -/
section
open PySem.SeqAt PySem.MeetsSeq PySem.MeetsSeq2 PySem.MeetsSeq3 PySem.SeqRoads2
open PySem.AutoSeq1 (wpAny_loadPart')
theorem str_eq_ins (b : Str) (u : Tok) (l C dx : Addr) :
    Meets (Builtin.«str.__eq__» ⟨[.str b u, .ref l], []⟩) (fun _ R s => s.heap.get? l = some (PySem.W.instObj C dx) ∧ R (.ok (.ret .notImplemented)) s) :=
  .of_wp fun prog w A R s h => by obtain ⟨hp, g, d, tk, os⟩ := s; obtain ⟨hl, h⟩ := h; unfold PySem.W.instObj at hl; wp_walk using wpAny_loadPart' hl, wpAny_load hl; exact ⟨_, rfl, h⟩
end
section
open PySem.SeqAt GQ PySem.MeetsSeq PySem.MeetsSeq2 PySem.MeetsSeq3 PySem.SeqRoads2
open PySem.AutoSeq1 (wpAny_loadPart')
variable {prog : Program} {w : World} {A : Around} {E : Value → Shared → Prop} {s : Shared}
theorem tup_eq_ins {K : PySem.W.Frag} {l x C : Addr} {ox : Obj} {od : Option Obj} {items : Array Value} {Q : Value → Shared → Prop} (hK : K.In s.heap) (hl : s.heap.IsTuple l items) (J : PySem.W.InstAt s.heap x ox C od) (hm : PySem.W.mroIn K C (.type "tuple") = some false) (q : Q .notImplemented s) :
    wpAny (model prog w) A (call (.builtin "tuple.__eq__") [.ref l, .ref x]) Q E s := by
  obtain ⟨⟨cls, dd, data, sl⟩, ho, hc, n, hd⟩ := id hl
  simp only at hc hd
  subst hc hd
  have sub : PySem.W.Looks (model prog w) s.heap (isInstance (.ref x) (.type "tuple")) false := J.type.andThen (PySem.W.looks_mroIn hK hm)
  refine wpAny_call (codeAny_call_builtin F.slot_tuple_eq.plain F.entry_tuple_eq (F.slot_tuple_eq.check _ _ _ _ _ _ _ _ ⟨_, ho, rfl⟩ (F.args_tuple_eq_2 _ _) ?_))
  obtain ⟨hp, g, d, tk, os⟩ := s
  have sub' : ∀ {A : Around} {Q : Bool → Shared → Prop} {E : Value → Shared → Prop}, Q false ⟨hp, g, d, tk, os⟩ → wpAny (model prog w) A (isInstance (.ref x) (.type "tuple")) Q E ⟨hp, g, d, tk, os⟩ := fun h => sub.here h
  wp_walk using wpAny_loadPart' ho, sub'
  exact q
end
/-! the rule -/
inductive BackV (K : PySem.W.Frag) (H : Hp) : V → Prop where
  | non : BackV K H .non
  | str (z : Str) : BackV K H (.str z)
  | tup {q : Addr} {ys : List V} (h : SqT K H q ys) : BackV K H (.ref q)
def InL (K : PySem.W.Frag) (C a dx : Addr) (fs : List (Str × V)) (sp : Sp) (E : XK) (Q : VK) : List V → Hp → Prop
  | [], H => Q (.bl false) H
  | z :: xs, H => H a = some (.ins C dx fs) ∧ BackV K H z ∧ sp [.ref a, z] H (fun v H' => ∃ b : Bool, v = .bl b ∧ (if b = true then Q (.bl true) H' else InL K C a dx fs sp E Q xs H')) E
def rInOwn (K : PySem.W.Frag) (C : Addr) (sp : Sp) (E : XK) : R2 := fun x y H Q => ∃ a dx fs p xs, x = .ref a ∧ y = .ref p ∧ SqT K H p xs ∧ InL K C a dx fs sp E Q xs H
section
open PySem.SeqAt GQ
variable {X : Cx} {CX : CXT} {k : Nat} {f : Addr} {sp : Sp} {E : XK} {pins : List (Addr × Obj)} {σ : L2.St} {H : Hp} {s : Shared} {Q : VK}
theorem back_eq {C a dx : Addr} {fs : List (Str × V)} {z : V} {u : Value} {Q : Bool → Hp → Prop} (m : Spm X.K C "__eq__" f) (nm : nmB X.K C = true) (D : Dn X.prog X.w X.K X.mg X.base CX k f [] sp) (hr : Room k X.A.in1) (hx : Passes CX X E) (I : Inv X pins σ H s) (rz : RelV z u) (ha : H a = some (.ins C dx fs)) (hz : BackV X.K H z)
    (q : sp [.ref a, z] H (fun v H' => ∃ b : Bool, v = .bl b ∧ Q b H') E) : wpAny (model X.prog X.w) X.A.in1 (eqBool u (.ref a)) (fun r s' => ∃ H', Inv X pins σ H' s' ∧ Q r H') X.xe s := by
  obtain ⟨mA, J0, _⟩ := ins_get I.hok ha
  obtain ⟨od, J, _⟩ := J0.look
  have own : wpAny (model X.prog X.w) X.A.in1 (call (.ref f) [.ref a, u]) (PySem.W.CmpBack fun v s' => ∃ b : Bool, v = .bool b ∧ ∃ H', Inv X pins σ H' s' ∧ Q b H') X.xe s := by
    refine wpAny_mono (own_call (A' := X.A.in1) rfl D hr hx I (vs := [.ref a, z]) (.cons (show RelV (.ref a) (Value.ref a) from rfl) (.cons rz .nil)) q) (fun w' s' y => ?_) fun _ _ e => e
    obtain ⟨v', H', I', rv, b, rfl, q'⟩ := y
    cases rv
    exact ⟨b, rfl, H', I', q'⟩
  have fin : ∀ {u : Value}, (u == Value.ref a) = false → (∀ t y, u ≠ .float t y) → wpAny (model X.prog X.w) X.A.in1 (richCompare .Eq u (.ref a)) (fun v s' => ∃ b : Bool, v = .bool b ∧ ∃ H', Inv X pins σ H' s' ∧ Q b H') X.xe s → wpAny (model X.prog X.w) X.A.in1 (eqBool u (.ref a)) (fun r s' => ∃ H', Inv X pins σ H' s' ∧ Q r H') X.xe s := fun {u} h1 h2 h => by
    unfold eqBool
    refine wpAny_holding ?_
    rw [h1]
    simp only [Bool.false_eq_true, if_false]
    refine wpAny_bind (wpAny_mono h (fun v s' hv => ?_) fun _ _ x => x)
    obtain ⟨r, rfl, q⟩ := hv
    exact wpAny_truthy_bool q
  have hu := hr.units0
  cases hz with
  | non =>
    cases rz
    exact fin rfl (fun _ _ z => nomatch z) (rc_back hu I.kIn rfl J (nmB_ok nm (by simp)) F.slot_NoneType_eq (fun _ hq => call_gives F.slot_NoneType_eq rfl F.entry_NoneType_eq (F.args_NoneType_eq_2 _ _) (NoneType___eq___none_ref_0 a) hq) m own)
  | str z =>
    obtain ⟨t, rfl⟩ := rz
    exact fin rfl (fun _ _ z => nomatch z) (rc_back hu I.kIn (typeIs_str s z t) J (nmB_ok nm (by simp)) F.slot_str_eq (fun _ hq => call_meets F.slot_str_eq (typeIs_str s z t) F.entry_str_eq (F.args_str_eq_2 _ _) (str_eq_ins z t a C dx) ⟨J0.obj, hq⟩) m own)
  | tup hq =>
    rename_i q' ys
    cases rz
    obtain ⟨its, r, pl, hz⟩ := I.tuple hq
    obtain ⟨o, ho, hc, _⟩ := id (show s.heap.IsTuple q' its.toArray from pl)
    have ne : q' ≠ a := fun e => by
      subst e
      rw [J.at_] at ho
      cases ho
      cases hc
    exact fin (by simpa using ne) (fun _ _ z => nomatch z) (rc_back hu I.kIn ⟨o, ho, hc⟩ J (nmB_ok nm (by simp)) F.slot_tuple_eq (fun _ hq => tup_eq_ins I.kIn pl J (nmB_ok nm (by simp)) hq) m own)
theorem op_inOwn {C : Addr} (K : PySem.W.Frag) (m : Spm X.K C "__eq__" f) (nm : nmB X.K C = true) (D : Dn X.prog X.w X.K X.mg X.base CX k f [] sp) (hr : Room (k + 1) X.A) (hx : Passes CX X E) (hK : X.K = K := by rfl) : OpR X (compareOp .In) (rInOwn K C sp E) := by
  subst hK
  intro pins s σ H x y v u Q I rx ry h
  obtain ⟨a, dx, fs, p, xs, rfl, rfl, hq, il⟩ := h
  cases rx
  cases ry
  obtain ⟨its, r, pl, hz⟩ := I.tuple hq
  have ln : xs.length = its.length := r.length
  refine in_tupleG (row1 := its.toArray) (Q := fun v s' => EP X pins σ Q v s') pl (fun i s' => ∃ H', Inv X pins σ H' s' ∧ InL X.K C a dx fs sp E Q (xs.drop i) H') (fun i h1 s' hI => ?_) (fun s' hI => ?_) ⟨H, I, il⟩
  · obtain ⟨H', I', il⟩ := hI
    have hi : i < its.length := by simpa using h1
    have hi' : i < xs.length := by omega
    rw [List.drop_eq_getElem_cons hi'] at il
    obtain ⟨ha, hb, q⟩ := il
    obtain ⟨u, hu, rz⟩ := r.get (List.getElem?_eq_getElem hi')
    rw [List.getElem?_eq_getElem hi] at hu
    cases hu
    refine wpAny_mono (back_eq m nm D hr.in1 hx I' rz ha hb (Q := fun b H' => if b = true then Q (.bl true) H' else InL X.K C a dx fs sp E Q (xs.drop (i + 1)) H') q) (fun b s2 z => ?_) fun _ _ e => e
    obtain ⟨H2, I2, z⟩ := z
    cases b with
    | true =>
      rw [if_pos rfl] at z ⊢
      exact ⟨.bl true, H2, I2, rfl, z⟩
    | false =>
      rw [if_neg (by decide)] at z ⊢
      exact ⟨H2, I2, z⟩
  · obtain ⟨H', I', il⟩ := hI
    have e : (its.toArray).size = xs.length := by simp [ln]
    rw [e, List.drop_length] at il
    exact ⟨.bl false, H', I', rfl, il⟩
end
/-! the mirror -/
def revT : T → Bool
  | .non => true
  | .str _ => true
  | .tup _ => true
  | .wt _ => true
  | _ => false
def inEq (tb : List (Str × Fn × List Str)) (a : T) : List T → Option Bool
  | [] => some false
  | t :: l => if revT t = true then (match eqT tb a t with
    | some true => some true
    | some false => inEq tb a l
    | none => none) else none
def oInT (tb : List (Str × Fn × List Str)) : T → T → Option T := fun a b => match b with
  | .tup (t :: l) => (inEq tb a (t :: l)).map T.bl
  | _ => none
def rInT (K : PySem.W.Frag) (tb : List (Str × Fn × List Str)) : R2 := fun x y H Q => ∃ q ∈ tb, rInOwn K (He.ga K q.1) (spF K q.2.1) (fun _ _ _ => False) x y H Q
theorem q_inT {X : Cx} {K : PySem.W.Frag} {tb : List (Str × Fn × List Str)} (h : ∀ q ∈ tb, EqOk X K 1 q) (hn : ∀ q ∈ tb, nmB X.K (He.ga K q.1) = true) (hK : X.K = K := by rfl) : OpR X (compareOp .In) (rInT K tb) := by
  intro pins s σ H x y v u Q I rx ry hh
  obtain ⟨q, hq, hh⟩ := hh
  obtain ⟨f, k, m, D, hr⟩ := (h q hq).ex
  subst hK
  exact op_inOwn _ m (hn q hq) D hr pass0 rfl pins s σ H x y v u Q I rx ry hh
theorem eqT_cases {tb : List (Str × Fn × List Str)} {a t : T} {c : Bool} (h : eqT tb a t = some c) : ∃ C ns l Fm Ds S', a = .obj C ns l ∧ tb.lookup C = some (Fm, Ds) ∧ okRs 0 [.obj C ns l, t] = true ∧ Fm ⟨0, 0⟩ [.obj C ns l, t] [] = .ok (.bl c) S' := by
  unfold eqT at h
  split at h
  · rename_i C ns l
    cases e1 : tb.lookup C with
    | none => rw [e1] at h; cases h
    | some q =>
      obtain ⟨Fm, Ds⟩ := q
      rw [e1] at h
      dsimp only at h
      split at h
      · rename_i hty
        cases e2 : Fm ⟨0, 0⟩ [.obj C ns l, t] [] with
        | ok u as =>
          rw [e2] at h
          cases u with
          | bl c' =>
            cases h
            exact ⟨C, ns, l, Fm, Ds, as, rfl, e1, hty.2, e2⟩
          | _ => cases h
        | ex x S' => rw [e2] at h; cases h
        | st => rw [e2] at h; cases h
      · cases h
  · cases h
theorem inl_of {K : PySem.W.Frag} {tb : List (Str × Fn × List Str)} {A : ASet} {H : Hp} {a dx : Addr} {C : Str} {ns : List Str} {vs : List T} {fs : List (Str × V)} {Fm : Fn} {Ds : List Str} {Q : VK} {b : Bool} (e1 : tb.lookup C = some (Fm, Ds)) (ha : H a = some (.ins (He.ga K C) dx fs)) (ra : Rep K A H (.ref a) (.obj C ns vs)) (k : ∀ v H', Same H H' → Rep K A H' v (.bl b) → Q v H') :
    ∀ {l : List T} {xs : List V} {H1 : Hp}, Same H H1 → Reps K A H1 xs l → inEq tb (.obj C ns vs) l = some b → InL K (He.ga K C) a dx fs (spF K Fm) (fun _ _ _ => False) Q xs H1
  | [], _, H1, s, .nil, e => by
    cases e
    exact k _ H1 s (.bl _)
  | t :: l, _, H1, s, .cons (x := z) (xs := xs) r rs, e => by
    unfold inEq at e
    split at e
    · rename_i hv
      have run : ∀ c, eqT tb (.obj C ns vs) t = some c → (∀ H', Same H1 H' → (if c = true then Q (.bl true) H' else InL K (He.ga K C) a dx fs (spF K Fm) (fun _ _ _ => False) Q xs H')) → spF K Fm [.ref a, z] H1 (fun v H' => ∃ b : Bool, v = .bl b ∧ (if b = true then Q (.bl true) H' else InL K (He.ga K C) a dx fs (spF K Fm) (fun _ _ _ => False) Q xs H')) (fun _ _ _ => False) := fun c ec kk => by
        obtain ⟨C', ns', l', Fm', Ds', S', ea, el, ok, ef⟩ := eqT_cases ec
        cases ea
        rw [e1] at el
        cases el
        exact spF_call (ts := [_, _]) (B := A) (.cons (ra.same s) (.cons r .nil)) ok ef rfl fun v H' s' r' => by
          cases r'
          exact ⟨_, rfl, kk H' s'⟩
      have bk : BackV K H1 z := by
        cases r <;> first | exact .non | exact .str _ | (rename_i hh _; exact .tup (.inl (.inl hh))) | (rename_i hh _; exact .tup (hh _)) | cases hv
      refine ⟨s _ _ ha, bk, ?_⟩
      cases ec : eqT tb (.obj C ns vs) t with
      | none => rw [ec] at e; cases e
      | some c =>
        rw [ec] at e
        refine run c ec fun H' s' => ?_
        cases c with
        | true =>
          cases e
          rw [if_pos rfl]
          exact k _ H' (s.trans s') (.bl _)
        | false =>
          rw [if_neg (by decide)]
          exact inl_of e1 ha ra k (s.trans s') (rs.same s') e
    · cases e
theorem oInT_ok {K : PySem.W.Frag} {tb : List (Str × Fn × List Str)} : OpT K (rInT K tb) (oInT tb) := fun A H x y tx ty tz Q d rx ry e k => by
  unfold oInT at e
  split at e
  · rename_i t l
    obtain ⟨b, hb, rfl⟩ := Option.map_eq_some_iff.mp e
    have hc : ∃ c, eqT tb tx t = some c := by
      unfold inEq at hb
      split at hb
      · cases ec : eqT tb tx t with
        | none => rw [ec] at hb; cases hb
        | some c => exact ⟨c, rfl⟩
      · cases hb
    obtain ⟨c, ec⟩ := hc
    obtain ⟨C, ns, l', Fm, Ds, S', rfl, el, _, _⟩ := eqT_cases ec
    have hm := lookup_mem el
    refine ⟨_, hm, ?_⟩
    cases ry with
    | tup hh rs =>
      cases rx with
      | obj na h2 rs2 =>
        exact ⟨_, _, _, _, _, rfl, rfl, .inl (.inl hh), inl_of el h2 (.obj na h2 rs2) k (L2.Same.refl _) rs hb⟩
  · cases e
end Tm

/-! N23: `!=` of tuples and of lists of own objects that are equal by their own __eq__. -/
namespace Tm
open PySem PySem.Spec PyProof.Rows L2
section
open PySem.SeqAt PySem.MeetsSeq PySem.MeetsSeq2 PySem.MeetsSeq3 PySem.SeqRoads2 GQ
open PySem.AutoSeq1 (wpAny_loadPart')
variable {prog : Program} {w : World} {A : Around} {R : Result → Shared → Prop}
theorem ne_loopG (l b : Addr) (N : Nat) (I : Nat → Shared → Prop) (bothAt : ListI prog w A (fun e s' => R (.error e) s') l b N I)
    (last : ∀ s, I N s → R (.ok (.ret (.bool false))) s) (k : Nat) :
    ∀ i : Nat, N - i = k → i ≤ N → ∀ s, I i s →
      wpAny (model prog w) A.in1 (Builtin.«list.__eq__.loop» ⟨[.ref l, .ref b, rawInt i, rawInt 3], []⟩) (FinOf prog w A R) (fun e s' => R (.error e) s') s := by
  induction k with
  | zero =>
    intro i hk hi s h
    obtain ⟨row1, row2, n, n2, at1, at2, sz1, sz2, _⟩ := bothAt _ _ h
    have hi' : i = N := by omega
    have res : R (.ok (.ret (.bool false))) s := last s (hi' ▸ h)
    obtain ⟨hp, g, d, tk, os⟩ := s
    wp_walk using wpAny_loadPart' at1, wpAny_loadPart' at2
    have in1 : row1[((i : Nat) : Int).toNat]? = none := by simp; omega
    have in2 : row2[((i : Nat) : Int).toNat]? = none := by simp; omega
    rw [in1, in2]
    wp_walk using wpAny_loadPart' at1, wpAny_loadPart' at2
    show R (.ok (.ret (.bool (row1.size != row2.size)))) _
    rw [sz1, sz2]
    simpa using res
  | succ k ih =>
    intro i hk hi s h
    obtain ⟨row1, row2, n, n2, at1, at2, sz1, sz2, turn⟩ := bothAt _ _ h
    have lw1 : i < row1.size := by omega
    have lw2 : i < row2.size := by omega
    have ht := turn lw1 lw2
    obtain ⟨hp, g, d, tk, os⟩ := s
    wp_walk using wpAny_loadPart' at1, wpAny_loadPart' at2
    have in1 : row1[((i : Nat) : Int).toNat]? = some row1[i] := by simp [lw1]
    have in2 : row2[((i : Nat) : Int).toNat]? = some row2[i] := by simp [lw2]
    have hc : ((i : Int) + 1) = ((i + 1 : Nat) : Int) := by omega
    rw [in1, in2]
    refine wpAny_bind (wpAny_mono ht (fun r s2 h2 => ?_) fun _ _ x => x)
    obtain ⟨hr, h2⟩ := h2
    subst hr
    have more := ih (i + 1) (by omega) (by omega) s2 h2
    obtain ⟨hh2, gg2, dw2, tq2, oq2⟩ := s2
    wp_walk
    rw [hc]
    exact ⟨plainId_quiet plain_eq_loop _, codeAny_builtin entry_eq_loop (by
      rw [Around.under_plainId plain_eq_loop _]
      exact more)⟩
theorem list_neG (l b : Addr) (N : Nat) (I : Nat → Shared → Prop) (bothAt : ListI prog w A (fun e s' => R (.error e) s') l b N I)
    (last : ∀ s, I N s → R (.ok (.ret (.bool false))) s) {s : Shared} (h : I 0 s) :
    wpAny (model prog w) A.in1 (Builtin.«list.__ne__» ⟨[.ref l, .ref b], []⟩) (FinOf prog w A R) (fun e s' => R (.error e) s') s := by
  obtain ⟨row1, row2, n, n2, at1, at2, sz1, sz2, _⟩ := bothAt _ _ h
  have more := ne_loopG (A := A) (R := R) l b N I bothAt last _ 0 rfl (Nat.zero_le _) s h
  obtain ⟨hp, g, d, tk, os⟩ := s
  have f3 := AutoSeq1.sub_list_list
  have hne : ¬ (row1.size != row2.size) = true := by simp [sz1, sz2]
  wp_walk using wpAny_loadPart' at1, wpAny_loadPart' at2
  exact ⟨plainId_quiet plain_eq_loop _, codeAny_builtin entry_eq_loop (by
    rw [Around.under_plainId plain_eq_loop _]
    exact more)⟩
theorem tuple_neG (l b : Addr) (row1 row2 : Array Value) (n n2 : Nat) (dd da2 : Option Addr) (sl sb2 : Array (Option Value)) (szs : row1.size = row2.size) (I : Nat → Shared → Prop)
    (turn : ∀ i (h1 : i < row1.size) (h2 : i < row2.size) s, I i s → wpAny (model prog w) A.in1 (eqBool row1[i] row2[i]) (fun r s' => r = true ∧ I (i + 1) s') (fun e s' => R (.error e) s') s)
    (last : ∀ s, I row1.size s → R (.ok (.ret (.bool false))) s) {s : Shared} (at1 : s.heap.get? l = some { cls := .type "tuple", dict := dd, data := .seq row1 n, slots := sl }) (at2 : s.heap.get? b = some { cls := .type "tuple", dict := da2, data := .seq row2 n2, slots := sb2 }) (h : I 0 s) :
    wpAny (model prog w) A.in1 (Builtin.«tuple.__ne__» ⟨[.ref l, .ref b], []⟩) (FinOf prog w A R) (fun e s' => R (.error e) s') s := by
  have f2 := AutoSeq1.sub_tuple_tuple
  have zl : (row1.toList.zip row2.toList).length = row1.size := by simp [szs]
  have h0 := h
  obtain ⟨hp, g, d, tk, os⟩ := s
  wp_walk using wpAny_loadPart' at1, wpAny_loadPart' at2, wpAny_forIn_list _ (fun rest b s' => b.1 = none ∧ ∃ i, rest = (row1.toList.zip row2.toList).drop i ∧ i ≤ row1.size ∧ I i s') _
  case turn =>
    rintro ⟨y, x⟩ rest b s' ⟨hb', i, hz, hi, hI⟩
    have lw1 : i < (row1.toList.zip row2.toList).length := by
      rcases Nat.lt_or_ge i (row1.toList.zip row2.toList).length with h' | h'
      · exact h'
      · rw [List.drop_of_length_le h'] at hz; cases hz
    have h1 : i < row1.size := zl ▸ lw1
    have h2 : i < row2.size := szs ▸ h1
    rw [List.drop_eq_getElem_cons lw1] at hz
    injection hz with pq rst
    have hy : y = row1[i] := by have := congrArg Prod.fst pq; simpa using this
    have hx : x = row2[i] := by have := congrArg Prod.snd pq; simpa using this
    subst hy hx
    refine wpAny_bind (wpAny_mono (turn i h1 h2 s' hI) (fun r s2 qq2 => ?_) fun _ _ x => x)
    obtain ⟨hr, qq2⟩ := qq2
    subst hr
    wp_walk
    exact ⟨rfl, i + 1, rst, h1, qq2⟩
  case fin =>
    rintro ⟨b1, b2⟩ s' ⟨hb', i, hz, hi, hI⟩
    simp only at hb'
    subst hb'
    have ge0 : row1.size ≤ i := by
      rcases Nat.lt_or_ge i (row1.toList.zip row2.toList).length with h' | h'
      · rw [List.drop_eq_getElem_cons h'] at hz; cases hz
      · exact zl ▸ h'
    have hi' : i = row1.size := by omega
    have res : R (.ok (.ret (.bool false))) s' := last s' (hi' ▸ hI)
    wp_walk
    simpa [Builtin.Tuple.tupleCompareSizes, szs] using res
  case h =>
    exact ⟨rfl, 0, rfl, Nat.zero_le _, h0⟩
end
section
open PySem.SeqAt GQ
variable {prog : Program} {w : World} {A : Around} {E : Value → Shared → Prop} {s : Shared}
theorem rn_listG {l b : Addr} {N : Nat} {Q : Value → Shared → Prop} (hu : A.units < cLine) (I : Nat → Shared → Prop) (bothAt : ListI prog w A E l b N I)
    (last : ∀ s, I N s → Q (.bool false) s) (h : I 0 s) : wpAny (model prog w) A (richCompare .NotEq (.ref l) (.ref b)) Q E s := by
  obtain ⟨row1, row2, n, n2, at1, at2, _, _, _⟩ := bothAt _ _ h
  refine wpAny_richCompare_same_room (op := .NotEq) ⟨_, at1, rfl⟩ ⟨_, at2, rfl⟩ F.slot_list_ne (GQ.call_here F.slot_list_ne ⟨_, at1, rfl⟩ F.entry_list_ne (F.args_list_ne_2 _ _) ?_) hu
  exact list_neG (R := wants (fun v s' => v ≠ .notImplemented ∧ Q v s') E) l b N I bothAt (fun s' q => ⟨(fun x => nomatch x), last s' q⟩) h
theorem rn_tupG {l b : Addr} {row1 row2 : Array Value} {Q : Value → Shared → Prop} (szs : row1.size = row2.size) (hu : A.units < cLine) (I : Nat → Shared → Prop)
    (bothAt : s.heap.IsTuple l row1) (hb : s.heap.IsTuple b row2)
    (turn : ∀ i (h1 : i < row1.size) (h2 : i < row2.size) s, I i s → wpAny (model prog w) A.in1 (eqBool row1[i] row2[i]) (fun r s' => r = true ∧ I (i + 1) s') E s)
    (last : ∀ s, I row1.size s → Q (.bool false) s) (h : I 0 s) : wpAny (model prog w) A (richCompare .NotEq (.ref l) (.ref b)) Q E s := by
  obtain ⟨⟨cls, dd, data, sl⟩, ho, hc, n, hd⟩ := id bothAt
  obtain ⟨⟨cls2, da2, data2, sb2⟩, ho2, hc2, n2, hd2⟩ := id hb
  simp only at hc hd hc2 hd2
  subst hc hd hc2 hd2
  refine wpAny_richCompare_same_room (op := .NotEq) ⟨_, ho, rfl⟩ ⟨_, ho2, rfl⟩ F.slot_tuple_ne (GQ.call_here F.slot_tuple_ne ⟨_, ho, rfl⟩ F.entry_tuple_ne (F.args_tuple_ne_2 _ _) ?_) hu
  exact tuple_neG (R := wants (fun v s' => v ≠ .notImplemented ∧ Q v s') E) l b row1 row2 n n2 dd da2 sl sb2 szs I turn (fun s' q => ⟨(fun x => nomatch x), last s' q⟩) ho ho2 h
end
/-! own objects, item by item -/
/-- two objects whose own == says yes -/
def REq (K : PySem.W.Frag) (tb : List (Str × Fn × List Str)) (C0 : Str) : Addr → Addr → Hp → Prop := fun a b H => ∃ A ns l t Fm Ds S', Rep K A H (.ref a) (.obj C0 ns l) ∧ Rep K A H (.ref b) t ∧ (C0, Fm, Ds) ∈ tb ∧ okRs 0 [.obj C0 ns l, t] = true ∧ Fm ⟨0, 0⟩ [.obj C0 ns l, t] [] = .ok (.bl true) S'
def DTb (K : PySem.W.Frag) (tb : List (Str × Fn × List Str)) : Eqv := fun x y H => ∃ C0 Fm Ds, tb.lookup C0 = some (Fm, Ds) ∧ DIns (He.ga K C0) (fun a b H => ∃ A ns l t S', Rep K A H (.ref a) (.obj C0 ns l) ∧ Rep K A H (.ref b) t ∧ okRs 0 [.obj C0 ns l, t] = true ∧ Fm ⟨0, 0⟩ [.obj C0 ns l, t] [] = .ok (.bl true) S') x y H
theorem mon_tb {K : PySem.W.Frag} {tb : List (Str × Fn × List Str)} : Mon (DTb K tb) := fun x y H H' e d => by
  obtain ⟨C0, Fm, Ds, hm, a, b, dx, dy, fs, gs, hx, hy, h1, h2, A, ns, l, t, S', r1, r2, ok, ef⟩ := d
  exact ⟨C0, Fm, Ds, hm, a, b, dx, dy, fs, gs, hx, hy, e _ _ h1, e _ _ h2, A, ns, l, t, S', r1.same e, r2.same e, ok, ef⟩
section
variable {X : Cx} {K : PySem.W.Frag} {tb : List (Str × Fn × List Str)}
theorem tb_eq (h : ∀ q ∈ tb, EqOk X X.K 1 q) {pins : List (Addr × Obj)} {s : Shared} {σ : L2.St} {H : Hp} {x y : V} {u v : Value} (I : Inv X pins σ H s) (ru : RelV x u) (rv : RelV y v) (d : DTb X.K tb x y H) :
    wpAny (model X.prog X.w) X.A.in1 (eqBool u v) (fun r s' => r = true ∧ ∃ H', Inv X pins σ H' s' ∧ Ext H H') X.xe s := by
  obtain ⟨C0, Fm, Ds, hm, d⟩ := d
  obtain ⟨f, k, m, D, hr⟩ := (h _ (lookup_mem hm)).ex
  obtain ⟨fd, ps, ds, F, kp, rd, b⟩ := D.ex
  cases rd
  have F' := F.imp (sp' := spEq (fun a b H => ∃ A ns l t S', Rep X.K A H (.ref a) (.obj C0 ns l) ∧ Rep X.K A H (.ref b) t ∧ okRs 0 [.obj C0 ns l, t] = true ∧ Fm ⟨0, 0⟩ [.obj C0 ns l, t] [] = .ok (.bl true) S')) fun vs H Q E hq => by
    obtain ⟨a, b, rfl, ⟨A, ns, l, t, S', r1, r2, ok, ef⟩, hq⟩ := hq
    exact spF_call (ts := [_, _]) (B := A) (.cons r1 (.cons r2 .nil)) ok ef rfl fun v H' s' r' => by
      cases r'
      exact hq H' s'
  exact (eqG_ins (E := fun _ _ _ => False) F' m.at_ m.fn b pass0) X.A.in1 pins s σ H x y u v ⟨hr.in1, rfl⟩ I ru rv d
/-- item by item, either way -/
def rNeP (K : PySem.W.Frag) (tb : List (Str × Fn × List Str)) : R2 := fun x y H Q => (DTup K (DTb K tb) x y H ∨ DList (DTb K tb) x y H) ∧ ∀ H', Ext H H' → Q (.bl false) H'
theorem turnP (h : ∀ q ∈ tb, EqOk X X.K 1 q) {pins : List (Addr × Obj)} {σ : L2.St} {H : Hp} {xs ys : List V} {rowA rowB : List Value} (p : Prs (DTb X.K tb) xs ys H) (r : Vals xs rowA) (rb : Vals ys rowB)
    (i : Nat) (h1 : i < rowA.toArray.size) (h2 : i < rowB.toArray.size) (s' : Shared) (l : LoopI X pins σ H s') :
    wpAny (model X.prog X.w) X.A.in1 (eqBool rowA.toArray[i] rowB.toArray[i]) (fun r s2 => r = true ∧ LoopI X pins σ H s2) X.xe s' := by
  obtain ⟨H1, I1, ex1⟩ := l
  have g1 : rowA[i]? = some rowA.toArray[i] := by
    have lt1 : i < rowA.length := by simpa using h1
    rw [List.getElem?_eq_getElem lt1] <;> simp
  have g2 : rowB[i]? = some rowB.toArray[i] := by
    have lt2 : i < rowB.length := by simpa using h2
    rw [List.getElem?_eq_getElem lt2] <;> simp
  have ka : i < xs.length := by rw [r.length]; simpa using h1
  have kb : i < ys.length := by rw [rb.length]; simpa using h2
  obtain ⟨u, hu, ru⟩ := r.get (List.getElem?_eq_getElem ka)
  obtain ⟨v, hv, rv⟩ := rb.get (List.getElem?_eq_getElem kb)
  rw [g1] at hu
  rw [g2] at hv
  rw [Option.some.inj hu, Option.some.inj hv]
  refine wpAny_mono (tb_eq h I1 ru rv (mon_tb _ _ _ _ ex1 (p.2 i _ _ (List.getElem?_eq_getElem ka) (List.getElem?_eq_getElem kb)))) (fun r s2 q => ?_) fun _ _ x => x
  obtain ⟨hr, Hz, Iz, ex2⟩ := q
  exact ⟨hr, Hz, Iz, ex1.trans ex2⟩
theorem q_neP (hu : X.A.units < cLine) (h : ∀ q ∈ tb, EqOk X K 1 q) (hK : X.K = K := by rfl) : OpR X (compareOp .NotEq) (rNeP K tb) := by
  subst hK
  intro pins s σ H x y v u Q I rx ry hq
  obtain ⟨d, q⟩ := hq
  show wpAny (model X.prog X.w) X.A (richCompare .NotEq v u) (EP X pins σ Q) X.xe s
  rcases d with ⟨a, b, xs, ys, rfl, rfl, ha, hb, p⟩ | ⟨a, b, xs, ys, rfl, rfl, ha, hb, p⟩
  · cases rx
    cases ry
    obtain ⟨rowA, r, e, z⟩ := I.tuple ha
    obtain ⟨rowB, rb, ex2, zb⟩ := I.tuple hb
    have szs : rowA.toArray.size = rowB.toArray.size := by rw [List.size_toArray, List.size_toArray, ← r.length, ← rb.length]; exact p.1
    refine rn_tupG szs hu (fun _ s' => LoopI X pins σ H s') e ex2 (fun i h1 h2 s' q => turnP h p r rb i h1 h2 s' q) (fun s' l => ?_) ⟨H, I, Ext.rfl'⟩
    obtain ⟨H1, I1, ex1⟩ := l
    exact ⟨.bl false, H1, I1, rfl, q H1 ex1⟩
  · cases rx
    cases ry
    refine rn_listG (N := xs.length) hu (fun _ s' => LoopI X pins σ H s') (fun i s' q => ?_) (fun s' l => ?_) ⟨H, I, Ext.rfl'⟩
    · obtain ⟨H1, I1, ex1⟩ := id q
      obtain ⟨z, rowA, k, r, e⟩ := I1.hok a _ (ex1 _ _ ha)
      obtain ⟨zb, rowB, kb, rb, ex2⟩ := I1.hok b _ (ex1 _ _ hb)
      refine ⟨rowA.toArray, rowB.toArray, k, kb, e, ex2, by rw [List.size_toArray, ← r.length], by rw [List.size_toArray, ← rb.length, ← p.1], fun h1 h2 => ?_⟩
      exact turnP h p r rb i h1 h2 s' q
    · obtain ⟨H1, I1, ex1⟩ := l
      exact ⟨.bl false, H1, I1, rfl, q H1 ex1⟩
end
/-! the mirror -/
def itEq (tb : List (Str × Fn × List Str)) : T → T → Bool
  | .obj C ns l, .obj C' ns' l' => decide (C = C') && decide (eqT tb (.obj C ns l) (.obj C' ns' l') = some true)
  | _, _ => false
def itsEq (tb : List (Str × Fn × List Str)) : List T → List T → Bool
  | [], [] => true
  | x :: xs, y :: ys => itEq tb x y && itsEq tb xs ys
  | _, _ => false
def oNeP (tb : List (Str × Fn × List Str)) : T → T → Option T
  | .tup xs, .tup ys => if itsEq tb xs ys = true then some (.bl false) else none
  | .lst xs, .lst ys => if itsEq tb xs ys = true then some (.bl false) else none
  | _, _ => none
theorem itsEq_prs {K : PySem.W.Frag} {tb : List (Str × Fn × List Str)} {A : ASet} {H : Hp} : ∀ {l m : List T} {xs ys : List V}, Reps K A H xs l → Reps K A H ys m → itsEq tb l m = true → Prs (DTb K tb) xs ys H
  | [], [], _, _, .nil, .nil, _ => Prs.nil
  | x :: l, y :: m, _, _, .cons r rs, .cons r2 rs2, h => by
    unfold itsEq at h
    rw [Bool.and_eq_true] at h
    refine Prs.cons ?_ (itsEq_prs rs rs2 h.2)
    have h1 := h.1
    unfold itEq at h1
    split at h1
    · rename_i C ns l' C' ns' l2
      rw [Bool.and_eq_true] at h1
      obtain rfl := of_decide_eq_true h1.1
      obtain ⟨C2, ns2, l3, Fm, Ds, S', ea, el, ok, ef⟩ := eqT_cases (of_decide_eq_true h1.2)
      cases ea
      cases r with
      | obj na hh rs' =>
        cases r2 with
        | obj nb hh2 rs2' =>
          exact ⟨C, Fm, Ds, el, _, _, _, _, _, _, rfl, rfl, hh, hh2, A, _, _, _, _, .obj na hh rs', .obj nb hh2 rs2', ok, ef⟩
    · cases h1
theorem oNeP_ok {K : PySem.W.Frag} {tb : List (Str × Fn × List Str)} : OpT K (rNeP K tb) (oNeP tb) := fun A H x y tx ty tz Q d rx ry e k => by
  unfold oNeP at e
  split at e
  · split at e
    · rename_i h
      cases e
      cases rx with
      | tup hx rsx =>
        cases ry with
        | tup hy rsy =>
          exact ⟨.inl ⟨_, _, _, _, rfl, rfl, .inl (.inl hx), .inl (.inl hy), itsEq_prs rsx rsy h⟩, fun H' s => k _ H' s (.bl _)⟩
    · cases e
  · split at e
    · rename_i h
      cases e
      cases rx with
      | lst na hx rsx =>
        cases ry with
        | lst nb hy rsy =>
          exact ⟨.inr ⟨_, _, _, _, rfl, rfl, hx, hy, itsEq_prs rsx rsy h⟩, fun H' s => k _ H' s (.bl _)⟩
    · cases e
  · cases e
end Tm

/-! N24: calls that pass arguments by their names. -/
namespace Tm
open PySem PySem.Spec PyProof.Rows L2
/-- things at some places, in this order -/
def permL {α : Type} (idx : List Nat) (l : List α) : List α := idx.filterMap fun i => l[i]?
theorem perm_vals {xs : List V} {us : List Value} (r : Vals xs us) : ∀ idx : List Nat, Vals (permL idx xs) (permL idx us)
  | [] => .nil
  | i :: idx => by
    have ih := perm_vals r idx
    unfold permL at ih ⊢
    rw [List.filterMap_cons, List.filterMap_cons]
    cases hx : xs[i]? with
    | none =>
      have : us[i]? = none := by
        rw [List.getElem?_eq_none_iff] at hx ⊢
        rw [← r.length]
        exact hx
      rw [this]
      exact ih
    | some x =>
      obtain ⟨u, hu, ru⟩ := r.get hx
      rw [hu]
      exact .cons ru ih
theorem perm_reps {K : PySem.W.Frag} {A : ASet} {H : Hp} {xs : List V} {ts : List T} (r : Reps K A H xs ts) : ∀ idx : List Nat, Reps K A H (permL idx xs) (permL idx ts)
  | [] => .nil
  | i :: idx => by
    have ih := perm_reps r idx
    unfold permL at ih ⊢
    rw [List.filterMap_cons, List.filterMap_cons]
    cases ht : ts[i]? with
    | none =>
      have : xs[i]? = none := by
        rw [List.getElem?_eq_none_iff] at ht ⊢
        rw [r.length]
        exact ht
      rw [this]
      exact ih
    | some t =>
      obtain ⟨x, hx, rx⟩ := r.get ht
      rw [hx]
      exact .cons rx ih
/-- a def called with keywords: n values by place, ks by name -/
structure DnK (P : Program) (w : World) (K : PySem.W.Frag) (mg : Str → Option Value) (base : Heap) (CX : CXT) (k : Nat) (f : Addr) (n : Nat) (ks : List Str) (idx : List Nat) (dvs : List V) (sp : Sp) : Prop where
  ex : ∃ (fd : FuncData) (ps : List Str) (g : List Value → List Value → List Value), FnOk P w K mg base CX k f fd ps sp ∧ PySem.W.keepIn K (.ref f) = true ∧ KBn K fd ps n ks g (fun us zs => us ++ permL idx (dvs ++ zs))
section
variable {P : Program} {w : World} {K : PySem.W.Frag} {mg : Str → Option Value} {base : Heap} {CX : CXT} {k : Nat} {f : Addr} {sp : Sp}
theorem dnk_dfl {x qual : Str} {params : Arguments} {body : List Stmt} {scope : Scope} {ps : List Str} {all : List V} (n : Nat) (ks : List Str) (idx : List Nat) (F : ∃ fd, FunD K x qual params body scope all [] f fd) (hd : all ≠ [])
    (h : ∀ fd, FunD K x qual params body scope all [] f fd → FnOk P w K mg base CX k f fd ps sp)
    (hb : ∀ (T : Addr) (kV doc pm : Value) (an : Option Addr) (cdv ct : Value) (us its ws : List Value), us.length = n → its.length = all.length → ws.length = ks.length →
      ∃ g, bindArgs (PySem.W.fnOf x qual params body scope (.ref T) kV doc pm an cdv ct) ⟨us, ks.zip ws⟩ = seqItems? (.ref T) >>= g ∧ g (some its.toArray) = pure (ps.zip (us ++ permL idx (its ++ ws)))) :
    DnK P w K mg base CX k f n ks idx all sp := by
  obtain ⟨fd, F⟩ := F
  obtain ⟨its, kb⟩ := F.kbindsD n ks (fun us ds ws => us ++ permL idx (ds ++ ws)) hd (fun r1 r2 r3 => r1.append (perm_vals (r2.append r3) idx)) hb
  exact ⟨fd, ps, _, h fd F, F.kp, kb⟩
theorem dnk_of {x qual : Str} {params : Arguments} {body : List Stmt} {scope : Scope} {ps : List Str} (n : Nat) (ks : List Str) (idx : List Nat) (F : ∃ fd, FunD K x qual params body scope [] [] f fd)
    (h : ∀ fd, FunD K x qual params body scope [] [] f fd → FnOk P w K mg base CX k f fd ps sp)
    (hb : ∀ (kV doc pm : Value) (an : Option Addr) (cdv ct : Value) (us ws : List Value), us.length = n → ws.length = ks.length →
      bindArgs (PySem.W.fnOf x qual params body scope .none kV doc pm an cdv ct) ⟨us, ks.zip ws⟩ = pure (ps.zip (us ++ permL idx ws))) :
    DnK P w K mg base CX k f n ks idx [] sp := by
  obtain ⟨fd, F⟩ := F
  refine ⟨fd, ps, fun us ws => us ++ permL idx ws, h fd F, F.kp, ?_⟩
  obtain ⟨oc, od, dV, kV, doc, pm, an, cdv, ct, osl, rfl, lk, hcd, hD, hK⟩ := F.ex
  rcases hD with ⟨_, rfl⟩ | ⟨e, _⟩
  · exact ⟨fun s us ws X l1 l2 => .of_eq (hb kV doc pm an cdv ct us ws l1 l2), fun r1 r2 => r1.append (perm_vals r2 idx)⟩
  · exact absurd rfl e
end
/-! keywords' values as arguments -/
def mPerm (idx : List Nat) (ds : List T) (m : Nat) (fk : Ev (List T)) : Ev (List T) := fk.bind fun zs _ _ S => if zs.length = m then .ok (permL idx (ds ++ zs)) S else .st
section
variable {X : Cx} {K : PySem.W.Frag} {W : WX} {CX : CXT} {k : Nat} {f C : Addr} {dvs : List V} {ds : List T} {idx : List Nat} {ks : List Str} {x m : Str} {p pos apos kpos : Pos} {e o : Expr} {kws : List Keyword} {nm : Option Str} {fa : Ev T} {fk : Ev (List T)} {Fm : Fn} {Cn : Str} {nk : Nat}
theorem m_knil : PK X [] (tXA K W mNil) := ⟨fun _ _ _ _ H Q I h => wpAny_evalAll_nil ⟨[], H, I, .nil, by
  obtain ⟨cf, bs, m, S, ρ, F, h⟩ := h
  exact h [] m H F.cs Kp.refl .nil⟩⟩
theorem m_kcons (ha : PE X e (tX K W fa)) (hr : PK X kws (tXA K W fk)) : PK X (⟨nm, e, kpos⟩ :: kws) (tXA K W (mCons fa fk)) := by
  refine ⟨fun pos pins s σ H Q I h => (pk_cons ha hr).run pos pins s σ H Q I ?_⟩
  obtain ⟨cf, bs, m, S, ρ, F, h⟩ := h
  refine ⟨cf, bs, m, S, ρ, F, RsOk.bind F h fun x vx m1 H1 S1 F1 k1 R1 h1 => ⟨cf, bs, m1, S1, ρ, F1, RsOk.bind F1 h1 fun y vy m2 H2 S2 F2 k2 R2 h2 => ?_⟩⟩
  exact h2 _ m2 H2 F2.cs Kp.refl (.cons (Rep.lk k2.lk R1) R2)
theorem bind_perm {β : Type} {g : List T → Ev β} {n : Nat} : (mPerm idx ds n fk).bind g = fk.bind fun zs c ρ S => if zs.length = n then g (permL idx (ds ++ zs)) c ρ S else .st := by
  funext c ρ S
  unfold mPerm Ev.bind
  cases fk c ρ S with
  | ok zs S1 =>
    dsimp only
    by_cases h : zs.length = n
    · rw [if_pos h, if_pos h]
    · rw [if_neg h, if_neg h]
  | ex y S1 => rfl
  | st => rfl
theorem runMkK {fd : FuncData} {ps : List Str} {g : List Value → List Value → List Value} {gV : List V → List V → List V} {sp : Sp} {pins : List (Addr × Obj)} {σ : L2.St} {H : Hp} {s : Shared} {Q : VK} {E : XK} {ws : List Value} {zs : List V} (M : Mk X.K C f) (G : FnOk X.prog X.w X.K X.mg X.base CX k f fd ps sp) (hr : Room (k + 1) X.A) (hb : KBn X.K fd ps 1 ks g gV) (hx : PassesAt CX X σ E) (I : Inv X pins σ H s) (rz : Vals zs ws) (l2 : zs.length = ks.length)
    (h : ∀ x dx, H x = none → H dx = none → dx ≠ x → sp (gV [.ref x] zs) (upd (upd H dx (.own x)) x (.ins C dx [])) (fun v H2 => v = .non ∧ Q (.ref x) H2) E) : wpAny (model X.prog X.w) X.A (call (.ref C) [] (ks.zip ws)) (EP X pins σ Q) X.xe s := by
  have q := h (s.heap.objs.size + 1) s.heap.objs.size (I.hok.fresh (Nat.le_succ _)) (I.hok.fresh (Nat.le_refl _)) (Nat.ne_of_lt (Nat.lt_succ_self _))
  have J := Inv.made (C := C) I
  have r1 : Vals [V.ref (s.heap.objs.size + 1)] [Value.ref (s.heap.objs.size + 1)] := .cons rfl .nil
  have r2 := hb.rel r1 rz
  refine wpAny_call (make_map (f := f) I.kIn M.makes M.init (beq_iff_eq.mp M.fn) (codeAny_mono (G.run _ X.stack _ _ ⟨[Value.ref (s.heap.objs.size + 1)], ks.zip ws⟩ (g [Value.ref (s.heap.objs.size + 1)] ws) _ _ E (hr.make C [] (ks.zip ws)) (J.env0.make C [] (ks.zip ws)) (hb.to _ [Value.ref (s.heap.objs.size + 1)] ws J.kIn rfl (rz.length.symm.trans l2)) r2 q) fun z s' w => ?_))
  cases z with
  | error e => exact hx pins _ _ e s' J w
  | ok y => cases y with
    | ret u =>
      obtain ⟨v, H', I3, rv, ev, q3⟩ := J.after w
      subst ev
      exact ⟨rv, ⟨V.ref (s.heap.objs.size + 1), H', I3, rfl, q3⟩⟩
    | _ => exact False.elim w
theorem m_mkK (M : Mk X.K (He.ga K Cn) f) (D : DnK X.prog X.w X.K X.mg X.base CX k f 1 ks idx dvs (spF K Fm)) (hr : Room (k + 1) X.A) (hm : X.mg x = some (.ref (He.ga K Cn))) (hx : PassA CX X W) (hd : ∀ A H, Reps K A H dvs ds) (ha : PK X kws (tXA K W fk)) (hg : Gl X x := by rfl)
    (hn : ks.length = nk := by rfl) (hall : (backToKw pos (keywordEach kws X.env)).all (·.1.isSome) = true := by rfl) (hks : (backToKw pos (keywordEach kws X.env)).filterMap (·.1) = ks := by rfl)
    (hdb : (x == ("__debug__" : Str)) = false := by decide) (hpl : ((backTo pos (starEach [] X.env)).any (·.1) || (backToKw pos (keywordEach kws X.env)).any (·.1.isNone)) = false := by rfl) :
    PE X (.Call (.Name x p) [] kws pos) (tX K W (mMk Cn Fm [] (mPerm idx ds nk fk))) := by
  obtain ⟨fd, ps, g, F, kp, kb⟩ := D.ex
  subst hn
  refine ⟨fun pins s σ H Q I hw => ?_⟩
  have h : tXA K W fk σ H fun zs H2 => zs.length = ks.length ∧ ∀ x dx, H2 x = none → H2 dx = none → dx ≠ x → spF K Fm ([.ref x] ++ permL idx (dvs ++ zs)) (upd (upd H2 dx (.own x)) x (.ins (He.ga K Cn) dx [])) (fun v H3 => v = .non ∧ Q (.ref x) H3) (fun cls d H' => W cls d σ H') := by
    obtain ⟨cf, bs, m, S, ρ, F, h⟩ := hw
    unfold mMk at h
    rw [bind_perm] at h
    refine ⟨cf, bs, m, S, ρ, F, RsOk.bind F h fun ts vs m1 H1 S1 F1 k1 R1 h1 => ?_⟩
    split at h1
    · rename_i hl
      refine ⟨by rw [Reps.length R1]; exact hl, fun x dx hx hdx ne => ?_⟩
      rw [List.append_nil] at h1
      exact mMk_ok F1 (perm_reps (Reps.append (hd _ _) R1) idx) h1 x dx hx hdx ne
    · exact h1.elim
  refine wpAny_Call_Name_kw (ld_glob I hg hm ?_ hdb)
  refine PySem.W.callWith_KW0 (h₀ := X.base) I.ok.mod.kin M.kp hall (thn (ha.run pos pins s σ H _ I h) fun ws s2 z => ?_) hpl
  obtain ⟨zs, H2, I2, rz, l2, q2⟩ := z
  refine ⟨I2.kIn, ?_⟩
  rw [hks]
  exact runMkK M F hr kb (hx σ) I2 rz l2 q2
theorem runDK {fd : FuncData} {ps : List Str} {g : List Value → List Value → List Value} {gV : List V → List V → List V} {sp : Sp} {n : Nat} {pins : List (Addr × Obj)} {σ : L2.St} {H : Hp} {s : Shared} {Q : VK} {E : XK} {us ws : List Value} {vs zs : List V} (G : FnOk X.prog X.w X.K X.mg X.base CX k f fd ps sp) (hr : Room k X.A) (hb : KBn X.K fd ps n ks g gV) (hx : PassesAt CX X σ E) (I : Inv X pins σ H s) (r : Vals vs us) (l1 : vs.length = n) (rz : Vals zs ws) (l2 : zs.length = ks.length)
    (h : sp (gV vs zs) H Q E) : codeAny (model X.prog X.w) X.A (.call (.ref f) ⟨us, ks.zip ws⟩) (fun z s' => match z with | .error e => X.xe e s' | .ok (.ret u) => EP X pins σ Q u s' | .ok _ => False) s := by
  have r2 := hb.rel r rz
  refine codeAny_mono (G.run X.A X.stack s H ⟨us, ks.zip ws⟩ (g us ws) (gV vs zs) Q E hr I.env0 (hb.to s us ws I.kIn (r.length.symm.trans l1) (rz.length.symm.trans l2)) r2 h) fun z s' hq => ?_
  cases z with
  | error e => exact hx pins H s e s' I hq
  | ok fl =>
    cases fl with
    | ret u => exact I.after hq
    | next => exact False.elim hq
    | brk => exact False.elim hq
    | cont => exact False.elim hq
theorem wpK {pins : List (Addr × Obj)} {σ : L2.St} {s : Shared} {Q : VK} {us : List Value} {kw : List (Str × Value)} {f : Value} (h : codeAny (model X.prog X.w) X.A (.call f ⟨us, kw⟩) (fun z s' => match z with | .error e => X.xe e s' | .ok (.ret u) => EP X pins σ Q u s' | .ok _ => False) s) : wpAny (model X.prog X.w) X.A (call f us kw) (EP X pins σ Q) X.xe s :=
  wpAny_call (codeAny_mono h fun z s' q => by
    cases z with
    | error e => exact q
    | ok fl => cases fl <;> exact q)
/-- a method's call with keywords, as it runs -/
abbrev MCallK (X : Cx) (o : Expr) (m : Str) (apos pos : Pos) (kws : List Keyword) (pl : Sem Bool) : Prop :=
  eval (.Call (.Attribute o m apos) [] kws pos) X.env = eval o X.env >>= fun v => standAt apos.atName >>= fun _ => holding [v] (getMethod v m pl) >>= fun q => callWith pos q.1 q.2 (backTo pos (starEach [] X.env)) (backToKw pos (keywordEach kws X.env))
theorem m_methK {pl : Sem Bool} (he : PE X o (tX K W fa)) (c : Cls X.K (He.ga K Cn)) (hm : Meth X.K (He.ga K Cn) m f) (D : DnK X.prog X.w X.K X.mg X.base CX k f 1 ks idx dvs (spF K Fm)) (hr : Room k X.A) (hx : PassA CX X W) (hd : ∀ A H, Reps K A H dvs ds) (ha : PK X kws (tXA K W fk))
    (hn : ks.length = nk := by rfl) (hall : (backToKw pos (keywordEach kws X.env)).all (·.1.isSome) = true := by rfl) (hks : (backToKw pos (keywordEach kws X.env)).filterMap (·.1) = ks := by rfl)
    (hpl : ((backTo pos (starEach [] X.env)).any (·.1) || (backToKw pos (keywordEach kws X.env)).any (·.1.isNone)) = false := by rfl)
    (ht : MCallK X o m apos pos kws pl := by rfl) : PE X (.Call (.Attribute o m apos) [] kws pos) (tX K W (mMeth Cn m Fm [] fa (mPerm idx ds nk fk))) := by
  obtain ⟨fd, ps, g, F, kp, kb⟩ := D.ex
  subst hn
  refine ⟨fun pins s σ H Q I hw => ?_⟩
  have h : tX K W fa σ H fun x H1 => ∃ a dx fs, x = .ref a ∧ H1 a = some (.ins (He.ga K Cn) dx fs) ∧ fs.lookup m = none ∧ tXA K W fk σ H1 fun zs H2 => zs.length = ks.length ∧ spF K Fm ([x] ++ permL idx (dvs ++ zs)) H2 Q (fun cls d H' => W cls d σ H') := by
    obtain ⟨cf, bs, m0, S, ρ, F, h⟩ := hw
    refine ⟨cf, bs, m0, S, ρ, F, RsOk.bind F h fun x vx m1 H1 S1 F1 k1 R1 h1 => ?_⟩
    cases ev : vw S1 x with
    | obj C' ns l =>
      rw [ev] at h1
      dsimp only at h1
      split at h1
      · rename_i hc
        obtain ⟨a, dx, fs, rfl, ha, rfl, rs⟩ := ins_at F1.cs R1 ev
        obtain ⟨rfl, hn⟩ := hc
        rw [bind_perm] at h1
        refine ⟨a, dx, fs, rfl, ha, lookup_no hn, cf, bs, m1, S1, ρ, F1, RsOk.bind F1 h1 fun ts vs m2 H2 S2 F2 k2 R2 h2 => ?_⟩
        split at h2
        · rename_i hl
          rw [List.append_nil] at h2
          exact ⟨by rw [Reps.length R2]; exact hl, RsOk.sp F2 (.cons (Rep.lk k2.lk R1) (perm_reps (Reps.append (hd _ _) R2) idx)) h2⟩
        · exact h2.elim
      · exact h1.elim
    | _ => rw [ev] at h1; exact h1.elim
  refine PySem.W.methodCall_KW (pl := pl) (thn (he.run pins s σ H _ I h) fun u s1 z => ?_) ht
  obtain ⟨x, H1, I1, rx, a, dx, fs, rfl, ea, l, q⟩ := z
  obtain rfl : u = Value.ref a := rx
  refine getmeth_ok I1 ea c hm l (PySem.W.callWith_KW0 (first := [.ref a]) (h₀ := X.base) I.ok.mod.kin hm.kp hall (thn (ha.run pos pins s1 σ H1 _ I1 q) fun ws s2 z => ?_) hpl)
  obtain ⟨zs, H2, I2, rz, l2, q2⟩ := z
  refine ⟨I2.kIn, ?_⟩
  rw [hks]
  exact wpK (runDK (vs := [.ref a]) F hr kb (hx σ) I2 (.cons rfl .nil) rfl rz l2 q2)
theorem m_cmK {Cn m : Str} {np : Pos} {pl : Sem Bool} (hg : X.mg Cn = some (.ref (He.ga K Cn))) (cm : cmB X.K (He.ga K Cn) m = true) (D : DnK X.prog X.w X.K X.mg X.base CX k (He5.wf X.K (He.ga K Cn) "classmethod" m) 1 ks idx dvs (spF K Fm)) (hr : Room k X.A) (hx : PassA CX X W) (hd : ∀ A H, Reps K A H dvs ds) (ha : PK X kws (tXA K W fk)) (hgl : Gl X Cn := by rfl) (hcd : (Cn == ("__debug__" : Str)) = false := by decide)
    (hn : ks.length = nk := by rfl) (hall : (backToKw pos (keywordEach kws X.env)).all (·.1.isSome) = true := by rfl) (hks : (backToKw pos (keywordEach kws X.env)).filterMap (·.1) = ks := by rfl)
    (hpl : ((backTo pos (starEach [] X.env)).any (·.1) || (backToKw pos (keywordEach kws X.env)).any (·.1.isNone)) = false := by rfl)
    (ht : MCallK X (.Name Cn np) m apos pos kws pl := by rfl) : PE X (.Call (.Attribute (.Name Cn np) m apos) [] kws pos) (tX K W (mCm Cn Fm (mPerm idx ds nk fk))) := by
  obtain ⟨fd, ps, g, F, kp, kb⟩ := D.ex
  subst hn
  refine ⟨fun pins s σ H Q I hw => ?_⟩
  have h : tXA K W fk σ H fun zs H2 => zs.length = ks.length ∧ spF K Fm ([.ref (He.ga K Cn)] ++ permL idx (dvs ++ zs)) H2 Q (fun cls d H' => W cls d σ H') := by
    obtain ⟨cf, bs, m0, S, ρ, F, h⟩ := hw
    unfold mCm at h
    rw [bind_perm] at h
    refine ⟨cf, bs, m0, S, ρ, F, RsOk.bind F h fun ts vs m1 H1 S1 F1 k1 R1 h1 => ?_⟩
    split at h1
    · rename_i hl
      exact ⟨by rw [Reps.length R1]; exact hl, RsOk.sp F1 (.cons (.cls Cn) (perm_reps (Reps.append (hd _ _) R1) idx)) h1⟩
    · exact h1.elim
  refine PySem.W.methodCall_KW (pl := pl) (thn ((show PE X (.Name Cn np) _ from pe_gr hg hgl hcd).run pins s σ H (fun v H1 => v = .ref (He.ga K Cn) ∧ H1 = H) I ⟨rfl, rfl⟩) fun u s1 z => ?_) ht
  obtain ⟨x, H1, I1, rx, rfl, rfl⟩ := z
  obtain rfl : u = Value.ref (He.ga K Cn) := rx
  refine ClX.getmethcm_ok I1 (cmB_read cm) (cmB_met cm) fun s2 I2 => ?_
  have hq := ClX.pin_at I2
  refine PySem.W.callWith_of (P := PySem.W.MethP X.K s1.heap.objs.size (He5.wf X.K (He.ga K Cn) "classmethod" m) (.ref (He.ga K Cn))) hpl (PySem.W.keeps_M (cmB_met cm).fi) (PyProof.Rows.evalArgs_kw2_nil hall (thn (ha.run pos _ s2 σ _ _ I2 h) fun ws s3 z => ?_))
  obtain ⟨zs, H2, I3, rz, l2, q2⟩ := z
  refine ⟨⟨ClX.pin_at I3, I3.kIn⟩, ?_⟩
  dsimp only
  rw [hks]
  have z : wpAny (model X.prog X.w) X.A (call (.ref s1.heap.objs.size) [] (ks.zip ws)) (EP X ((s1.heap.objs.size, PySem.W.methodObj (.ref (He5.wf X.K (He.ga K Cn) "classmethod" m)) (.ref (He.ga K Cn))) :: pins) σ Q) X.xe s3 :=
    wpK (PySem.W.method_call (ClX.pin_at I3) (runDK (us := [.ref (He.ga K Cn)]) (vs := [.ref (He.ga K Cn)]) F hr kb (hx σ) I3 (.cons rfl .nil) rfl rz l2 q2))
  exact thn z fun _ _ y => ClX.unpinE y
end
end Tm

namespace Tm
open PySem PySem.Spec PyProof.Rows L2
structure Env (K : PySem.W.Frag) (mg : Str → Option Value) (w : World) : Prop where
  g_law : mg "law" = some (.ref (He.ga K "law"))
  g_isinstance : mg "isinstance" = none
  g_int : mg "int" = none
  g_bool : mg "bool" = none
  g_is_integer : mg "is_integer" = some (.ref (He.ga K "is_integer"))
  g_all : mg "all" = none
  g_BARRED : mg "BARRED" = some (.ref (He.ga K "BARRED"))
  g_str : mg "str" = none
  g_MOST_LETTERS : ∃ t, mg "MOST_LETTERS" = some (.int 4 t)
  g_LETTERS : ∃ t, mg "LETTERS" = some (.str "abcdefghijklmnopqrstuvwxyz" t)
  g_len : mg "len" = none
  g_list : mg "list" = none
  g_tuple : mg "tuple" = none
  g_MOST_SIGNS : ∃ t, mg "MOST_SIGNS" = some (.int 19 t)
  g_SIGNS : ∃ t, mg "SIGNS" = some (.str "0123456789" t)
  g_classmethod : mg "classmethod" = none
  g_told_by : mg "told_by" = some (.ref (He.ga K "told_by"))
  g_InvalidKind : mg "InvalidKind" = some (.ref (He.ga K "InvalidKind"))
  g_InvalidText : mg "InvalidText" = some (.ref (He.ga K "InvalidText"))
  g_made_of : mg "made_of" = some (.ref (He.ga K "made_of"))
  g_Kind : mg "Kind" = some (.ref (He.ga K "Kind"))
  g_is_length : mg "is_length" = some (.ref (He.ga K "is_length"))
  g_need : mg "need" = some (.ref (He.ga K "need"))
  g_is_name : mg "is_name" = some (.ref (He.ga K "is_name"))
  g_is_many : mg "is_many" = some (.ref (He.ga K "is_many"))
  g_many_text : mg "many_text" = some (.ref (He.ga K "many_text"))
  g_FORMS : mg "FORMS" = some (.ref (He.ga K "FORMS"))
  g_number_in : mg "number_in" = some (.ref (He.ga K "number_in"))
  g_Lift : mg "Lift" = some (.ref (He.ga K "Lift"))
  g_Still : mg "Still" = some (.ref (He.ga K "Still"))
  g_Anew : mg "Anew" = some (.ref (He.ga K "Anew"))
  g_MOST_RESTS : ∃ t, mg "MOST_RESTS" = some (.int 6 t)
  g_is_sequence : mg "is_sequence" = some (.ref (He.ga K "is_sequence"))
  g_set : mg "set" = none
  g_WEEK : ∃ t, mg "WEEK" = some (.int 7 t)
  g_InvalidRule : mg "InvalidRule" = some (.ref (He.ga K "InvalidRule"))
  g_are_rests : mg "are_rests" = some (.ref (He.ga K "are_rests"))
  g_are_kinds : mg "are_kinds" = some (.ref (He.ga K "are_kinds"))
  g_sorted : mg "sorted" = none
  g_head_in : mg "head_in" = some (.ref (He.ga K "head_in"))
  g_enumerate : mg "enumerate" = none
  g_NoKind : mg "NoKind" = some (.ref (He.ga K "NoKind"))
  g_Rule : mg "Rule" = some (.ref (He.ga K "Rule"))
  g_abs : mg "abs" = none
  g_range : mg "range" = none
  g__law_number : mg "_law_number" = some (.ref (He.ga K "_law_number"))
  cl_Kind : Cls K (He.ga K "Kind")
  m_Kind___eq__ : Meth K (He.ga K "Kind") "__eq__" (He.ma K (He.ga K "Kind") "__eq__")
  cl_Still : Cls K (He.ga K "Still")
  mk_Still : Mk K (He.ga K "Still") (He.ma K (He.ga K "Still") "__init__")
  na_Still_name : NoAttr K (He.ga K "Still") "name"
  na_Still_days : NoAttr K (He.ga K "Still") "days"
  na_Still_times : NoAttr K (He.ga K "Still") "times"
  m_Still___init__ : Meth K (He.ga K "Still") "__init__" (He.ma K (He.ga K "Still") "__init__")
  m_Still___str__ : Meth K (He.ga K "Still") "__str__" (He.ma K (He.ga K "Still") "__str__")
  cl_Anew : Cls K (He.ga K "Anew")
  mk_Anew : Mk K (He.ga K "Anew") (He.ma K (He.ga K "Anew") "__init__")
  na_Anew_name : NoAttr K (He.ga K "Anew") "name"
  na_Anew_left : NoAttr K (He.ga K "Anew") "left"
  na_Anew_times : NoAttr K (He.ga K "Anew") "times"
  m_Anew___init__ : Meth K (He.ga K "Anew") "__init__" (He.ma K (He.ga K "Anew") "__init__")
  m_Anew___str__ : Meth K (He.ga K "Anew") "__str__" (He.ma K (He.ga K "Anew") "__str__")
  cl_Lift : Cls K (He.ga K "Lift")
  mk_Lift : Mk K (He.ga K "Lift") (He.ma K (He.ga K "Lift") "__init__")
  na_Lift_name : NoAttr K (He.ga K "Lift") "name"
  na_Lift_by : NoAttr K (He.ga K "Lift") "by"
  na_Lift_top : NoAttr K (He.ga K "Lift") "top"
  na_Lift_times : NoAttr K (He.ga K "Lift") "times"
  m_Lift___init__ : Meth K (He.ga K "Lift") "__init__" (He.ma K (He.ga K "Lift") "__init__")
  m_Lift___str__ : Meth K (He.ga K "Lift") "__str__" (He.ma K (He.ga K "Lift") "__str__")
  cl_Rule : Cls K (He.ga K "Rule")
  mk_Rule : Mk K (He.ga K "Rule") (He.ma K (He.ga K "Rule") "__init__")
  na_Rule_length : NoAttr K (He.ga K "Rule") "length"
  na_Rule_rests : NoAttr K (He.ga K "Rule") "rests"
  na_Rule_cap : NoAttr K (He.ga K "Rule") "cap"
  na_Rule_kinds : NoAttr K (He.ga K "Rule") "kinds"
  na_Rule_names : NoAttr K (He.ga K "Rule") "names"
  m_Rule___init__ : Meth K (He.ga K "Rule") "__init__" (He.ma K (He.ga K "Rule") "__init__")
  m_Rule_kind : Meth K (He.ga K "Rule") "kind" (He.ma K (He.ga K "Rule") "kind")
  m_Rule_only : Meth K (He.ga K "Rule") "only" (He.ma K (He.ga K "Rule") "only")
  m_Rule___eq__ : Meth K (He.ga K "Rule") "__eq__" (He.ma K (He.ga K "Rule") "__eq__")
  m_Rule___str__ : Meth K (He.ga K "Rule") "__str__" (He.ma K (He.ga K "Rule") "__str__")
  e_Rule___init___0 : (tupAtB K (emptyDfl (fun K => He.ma K (He.ga K "Rule") "__init__") 0 K) []) = true
  e_Rule___init___2 : (tupAtB K (emptyDfl (fun K => He.ma K (He.ga K "Rule") "__init__") 2 K) []) = true
  e_BARRED : (tupAtB K (He.ga K "BARRED") [.str "any", .str "none", .str "anew", .str "lift", .str "term"]) = true
  o_Kind : (ownB K (He.ga K "Kind")) = true
  o_Still : (ownB K (He.ga K "Still")) = true
  o_Anew : (ownB K (He.ga K "Anew")) = true
  o_Lift : (ownB K (He.ga K "Lift")) = true
  o_Rule : (ownB K (He.ga K "Rule")) = true
  b_Kind : (bltB K (He.ga K "Kind")) = true
  s_Kind_Kind : (subB K (He.ga K "Kind") (He.ga K "Kind") true) = true
  s_Still_Kind : (subB K (He.ga K "Still") (He.ga K "Kind") true) = true
  s_Anew_Kind : (subB K (He.ga K "Anew") (He.ga K "Kind") true) = true
  s_Lift_Kind : (subB K (He.ga K "Lift") (He.ga K "Kind") true) = true
  s_Rule_Kind : (subB K (He.ga K "Rule") (He.ga K "Kind") false) = true
  b_Rule : (bltB K (He.ga K "Rule")) = true
  s_Kind_Rule : (subB K (He.ga K "Kind") (He.ga K "Rule") false) = true
  s_Still_Rule : (subB K (He.ga K "Still") (He.ga K "Rule") false) = true
  s_Anew_Rule : (subB K (He.ga K "Anew") (He.ga K "Rule") false) = true
  s_Lift_Rule : (subB K (He.ga K "Lift") (He.ga K "Rule") false) = true
  s_Rule_Rule : (subB K (He.ga K "Rule") (He.ga K "Rule") true) = true
  v_FORMS : (He.valsB K (He.ga K "FORMS") [("still", .int 4), ("anew", .int 4), ("lift", .int 5)]) = true
  q_Kind : (spmB K (He.ga K "Kind") "__eq__" (He.ma K (He.ga K "Kind") "__eq__")) = true
  n_Kind : (neB K (He.ga K "Kind")) = true
  nb_Kind : (nfB K (He.ga K "Kind")) = true
  nf_Kind_Kind : (PySem.W.notFirst K (He.ga K "Kind") (.ref (He.ga K "Kind"))) = true
  nf_Kind_Rule : (PySem.W.notFirst K (He.ga K "Kind") (.ref (He.ga K "Rule"))) = true
  q_Still : (spmB K (He.ga K "Still") "__eq__" (He.ma K (He.ga K "Kind") "__eq__")) = true
  n_Still : (neB K (He.ga K "Still")) = true
  nb_Still : (nfB K (He.ga K "Still")) = true
  nf_Still_Kind : (PySem.W.notFirst K (He.ga K "Still") (.ref (He.ga K "Kind"))) = true
  nf_Still_Still : (PySem.W.notFirst K (He.ga K "Still") (.ref (He.ga K "Still"))) = true
  nf_Still_Anew : (PySem.W.notFirst K (He.ga K "Still") (.ref (He.ga K "Anew"))) = true
  nf_Still_Lift : (PySem.W.notFirst K (He.ga K "Still") (.ref (He.ga K "Lift"))) = true
  nf_Still_Rule : (PySem.W.notFirst K (He.ga K "Still") (.ref (He.ga K "Rule"))) = true
  q_Anew : (spmB K (He.ga K "Anew") "__eq__" (He.ma K (He.ga K "Kind") "__eq__")) = true
  n_Anew : (neB K (He.ga K "Anew")) = true
  nb_Anew : (nfB K (He.ga K "Anew")) = true
  nf_Anew_Kind : (PySem.W.notFirst K (He.ga K "Anew") (.ref (He.ga K "Kind"))) = true
  nf_Anew_Still : (PySem.W.notFirst K (He.ga K "Anew") (.ref (He.ga K "Still"))) = true
  nf_Anew_Anew : (PySem.W.notFirst K (He.ga K "Anew") (.ref (He.ga K "Anew"))) = true
  nf_Anew_Lift : (PySem.W.notFirst K (He.ga K "Anew") (.ref (He.ga K "Lift"))) = true
  nf_Anew_Rule : (PySem.W.notFirst K (He.ga K "Anew") (.ref (He.ga K "Rule"))) = true
  q_Lift : (spmB K (He.ga K "Lift") "__eq__" (He.ma K (He.ga K "Kind") "__eq__")) = true
  n_Lift : (neB K (He.ga K "Lift")) = true
  nb_Lift : (nfB K (He.ga K "Lift")) = true
  nf_Lift_Kind : (PySem.W.notFirst K (He.ga K "Lift") (.ref (He.ga K "Kind"))) = true
  nf_Lift_Still : (PySem.W.notFirst K (He.ga K "Lift") (.ref (He.ga K "Still"))) = true
  nf_Lift_Anew : (PySem.W.notFirst K (He.ga K "Lift") (.ref (He.ga K "Anew"))) = true
  nf_Lift_Lift : (PySem.W.notFirst K (He.ga K "Lift") (.ref (He.ga K "Lift"))) = true
  nf_Lift_Rule : (PySem.W.notFirst K (He.ga K "Lift") (.ref (He.ga K "Rule"))) = true
  q_Rule : (spmB K (He.ga K "Rule") "__eq__" (He.ma K (He.ga K "Rule") "__eq__")) = true
  n_Rule : (neB K (He.ga K "Rule")) = true
  nb_Rule : (nfB K (He.ga K "Rule")) = true
  nf_Rule_Kind : (PySem.W.notFirst K (He.ga K "Rule") (.ref (He.ga K "Kind"))) = true
  nf_Rule_Still : (PySem.W.notFirst K (He.ga K "Rule") (.ref (He.ga K "Still"))) = true
  nf_Rule_Anew : (PySem.W.notFirst K (He.ga K "Rule") (.ref (He.ga K "Anew"))) = true
  nf_Rule_Lift : (PySem.W.notFirst K (He.ga K "Rule") (.ref (He.ga K "Lift"))) = true
  nf_Rule_Rule : (PySem.W.notFirst K (He.ga K "Rule") (.ref (He.ga K "Rule"))) = true
  c_Kind_read : (cmB K (He.ga K "Kind") "read") = true
  c_Rule_read : (cmB K (He.ga K "Rule") "read") = true
  x_FORMS : (keysB K (He.ga K "FORMS") ["still", "anew", "lift"]) = true
  t_FORMS : ∃ es n, KDict K w (He.ga K "FORMS") es n
  f_is_integer : ∃ fd, FunD K "is_integer" "is_integer" (defArgs s_is_integer) (defBody s_is_integer) (defScope s_is_integer) [] [] (He.ga K "is_integer") fd
  f_is_length : ∃ fd, FunD K "is_length" "is_length" (defArgs s_is_length) (defBody s_is_length) (defScope s_is_length) [] [] (He.ga K "is_length") fd
  f_is_name : ∃ fd, FunD K "is_name" "is_name" (defArgs s_is_name) (defBody s_is_name) (defScope s_is_name) [] [] (He.ga K "is_name") fd
  f_is_sequence : ∃ fd, FunD K "is_sequence" "is_sequence" (defArgs s_is_sequence) (defBody s_is_sequence) (defScope s_is_sequence) [] [] (He.ga K "is_sequence") fd
  f_number_in : ∃ fd, FunD K "number_in" "number_in" (defArgs s_number_in) (defBody s_number_in) (defScope s_number_in) [] [] (He.ga K "number_in") fd
  f_Kind_read : ∃ fd, FunD K "read" "Kind.read" (defArgs s_Kind_read) (defBody s_Kind_read) (defScope s_Kind_read) [] [] (He5.wf K (He.ga K "Kind") "classmethod" "read") fd
  f_Kind___eq__ : ∃ fd, FunD K "__eq__" "Kind.__eq__" (defArgs s_Kind___eq__) (defBody s_Kind___eq__) (defScope s_Kind___eq__) [] [] (He.ma K (He.ga K "Kind") "__eq__") fd
  f_need : ∃ fd, FunD K "need" "need" (defArgs s_need) (defBody s_need) (defScope s_need) [] [] (He.ga K "need") fd
  f_is_many : ∃ fd, FunD K "is_many" "is_many" (defArgs s_is_many) (defBody s_is_many) (defScope s_is_many) [] [] (He.ga K "is_many") fd
  f_many_text : ∃ fd, FunD K "many_text" "many_text" (defArgs s_many_text) (defBody s_many_text) (defScope s_many_text) [] [] (He.ga K "many_text") fd
  f_Still___init__ : ∃ fd, FunD K "__init__" "Still.__init__" (defArgs s_Still___init__) (defBody s_Still___init__) (defScope s_Still___init__) [.non] [] (He.ma K (He.ga K "Still") "__init__") fd
  f_Still___str__ : ∃ fd, FunD K "__str__" "Still.__str__" (defArgs s_Still___str__) (defBody s_Still___str__) (defScope s_Still___str__) [] [] (He.ma K (He.ga K "Still") "__str__") fd
  f_Anew___init__ : ∃ fd, FunD K "__init__" "Anew.__init__" (defArgs s_Anew___init__) (defBody s_Anew___init__) (defScope s_Anew___init__) [.non] [] (He.ma K (He.ga K "Anew") "__init__") fd
  f_Anew___str__ : ∃ fd, FunD K "__str__" "Anew.__str__" (defArgs s_Anew___str__) (defBody s_Anew___str__) (defScope s_Anew___str__) [] [] (He.ma K (He.ga K "Anew") "__str__") fd
  f_Lift___init__ : ∃ fd, FunD K "__init__" "Lift.__init__" (defArgs s_Lift___init__) (defBody s_Lift___init__) (defScope s_Lift___init__) [.non] [] (He.ma K (He.ga K "Lift") "__init__") fd
  f_Lift___str__ : ∃ fd, FunD K "__str__" "Lift.__str__" (defArgs s_Lift___str__) (defBody s_Lift___str__) (defScope s_Lift___str__) [] [] (He.ma K (He.ga K "Lift") "__str__") fd
  f_told_by : ∃ fd, FunD K "told_by" "told_by" (defArgs s_told_by) (defBody s_told_by) (defScope s_told_by) [] [] (He.ga K "told_by") fd
  f_made_of : ∃ fd, FunD K "made_of" "made_of" (defArgs s_made_of) (defBody s_made_of) (defScope s_made_of) [] [] (He.ga K "made_of") fd
  f_are_rests : ∃ fd, FunD K "are_rests" "are_rests" (defArgs s_are_rests) (defBody s_are_rests) (defScope s_are_rests) [] [] (He.ga K "are_rests") fd
  f_are_kinds : ∃ fd, FunD K "are_kinds" "are_kinds" (defArgs s_are_kinds) (defBody s_are_kinds) (defScope s_are_kinds) [] [] (He.ga K "are_kinds") fd
  f_head_in : ∃ fd, FunD K "head_in" "head_in" (defArgs s_head_in) (defBody s_head_in) (defScope s_head_in) [] [] (He.ga K "head_in") fd
  f_Rule___init__ : ∃ fd, FunD K "__init__" "Rule.__init__" (defArgs s_Rule___init__) (defBody s_Rule___init__) (defScope s_Rule___init__) [.ref (emptyDfl (fun K => He.ma K (He.ga K "Rule") "__init__") 0 K), .non, .ref (emptyDfl (fun K => He.ma K (He.ga K "Rule") "__init__") 2 K)] [] (He.ma K (He.ga K "Rule") "__init__") fd
  f_Rule_read : ∃ fd, FunD K "read" "Rule.read" (defArgs s_Rule_read) (defBody s_Rule_read) (defScope s_Rule_read) [] [] (He5.wf K (He.ga K "Rule") "classmethod" "read") fd
  f_Rule_kind : ∃ fd, FunD K "kind" "Rule.kind" (defArgs s_Rule_kind) (defBody s_Rule_kind) (defScope s_Rule_kind) [] [] (He.ma K (He.ga K "Rule") "kind") fd
  f_Rule_only : ∃ fd, FunD K "only" "Rule.only" (defArgs s_Rule_only) (defBody s_Rule_only) (defScope s_Rule_only) [] [] (He.ma K (He.ga K "Rule") "only") fd
  f_Rule___eq__ : ∃ fd, FunD K "__eq__" "Rule.__eq__" (defArgs s_Rule___eq__) (defBody s_Rule___eq__) (defScope s_Rule___eq__) [] [] (He.ma K (He.ga K "Rule") "__eq__") fd
  f_Rule___str__ : ∃ fd, FunD K "__str__" "Rule.__str__" (defArgs s_Rule___str__) (defBody s_Rule___str__) (defScope s_Rule___str__) [] [] (He.ma K (He.ga K "Rule") "__str__") fd
  f__law_number : ∃ fd, FunD K "_law_number" "_law_number" (defArgs s__law_number) (defBody s__law_number) (defScope s__law_number) [] [] (He.ga K "_law_number") fd
  f_law : ∃ fd, FunD K "law" "law" (defArgs s_law) (defBody s_law) (defScope s_law) [] [] (He.ga K "law") fd
theorem env_of {K : PySem.W.Frag} {h : Heap} {mg : Str → Option Value} {w : World} (X : K.In h) (G : h.Ns mainGlobals mg) (c : SaysM fa ex fn tabs w K) : Env K mg w where
  g_law := He.glo_ok X G (c.a.fact 0 (f := .glo "law") rfl)
  g_isinstance := He.free_ok X G (c.a.fact 1 (f := .free "isinstance") rfl)
  g_int := He.free_ok X G (c.a.fact 2 (f := .free "int") rfl)
  g_bool := He.free_ok X G (c.a.fact 3 (f := .free "bool") rfl)
  g_is_integer := He.glo_ok X G (c.a.fact 4 (f := .glo "is_integer") rfl)
  g_all := He.free_ok X G (c.a.fact 5 (f := .free "all") rfl)
  g_BARRED := He.glo_ok X G (c.a.fact 6 (f := .glo "BARRED") rfl)
  g_str := He.free_ok X G (c.a.fact 7 (f := .free "str") rfl)
  g_MOST_LETTERS := He.int_ok X G (c.a.fact 8 (f := .int "MOST_LETTERS" 4) rfl)
  g_LETTERS := He.str_ok X G (c.a.fact 9 (f := .str "LETTERS" "abcdefghijklmnopqrstuvwxyz") rfl)
  g_len := He.free_ok X G (c.a.fact 10 (f := .free "len") rfl)
  g_list := He.free_ok X G (c.a.fact 11 (f := .free "list") rfl)
  g_tuple := He.free_ok X G (c.a.fact 12 (f := .free "tuple") rfl)
  g_MOST_SIGNS := He.int_ok X G (c.a.fact 13 (f := .int "MOST_SIGNS" 19) rfl)
  g_SIGNS := He.str_ok X G (c.a.fact 14 (f := .str "SIGNS" "0123456789") rfl)
  g_classmethod := He.free_ok X G (c.a.fact 15 (f := .free "classmethod") rfl)
  g_told_by := He.glo_ok X G (c.a.fact 16 (f := .glo "told_by") rfl)
  g_InvalidKind := He.glo_ok X G (c.a.fact 17 (f := .glo "InvalidKind") rfl)
  g_InvalidText := He.glo_ok X G (c.a.fact 18 (f := .glo "InvalidText") rfl)
  g_made_of := He.glo_ok X G (c.a.fact 19 (f := .glo "made_of") rfl)
  g_Kind := He.glo_ok X G (c.a.fact 20 (f := .glo "Kind") rfl)
  g_is_length := He.glo_ok X G (c.a.fact 21 (f := .glo "is_length") rfl)
  g_need := He.glo_ok X G (c.a.fact 22 (f := .glo "need") rfl)
  g_is_name := He.glo_ok X G (c.a.fact 23 (f := .glo "is_name") rfl)
  g_is_many := He.glo_ok X G (c.a.fact 24 (f := .glo "is_many") rfl)
  g_many_text := He.glo_ok X G (c.a.fact 25 (f := .glo "many_text") rfl)
  g_FORMS := He.glo_ok X G (c.a.fact 26 (f := .glo "FORMS") rfl)
  g_number_in := He.glo_ok X G (c.a.fact 27 (f := .glo "number_in") rfl)
  g_Lift := He.glo_ok X G (c.a.fact 28 (f := .glo "Lift") rfl)
  g_Still := He.glo_ok X G (c.a.fact 29 (f := .glo "Still") rfl)
  g_Anew := He.glo_ok X G (c.a.fact 30 (f := .glo "Anew") rfl)
  g_MOST_RESTS := He.int_ok X G (c.a.fact 31 (f := .int "MOST_RESTS" 6) rfl)
  g_is_sequence := He.glo_ok X G (c.a.fact 32 (f := .glo "is_sequence") rfl)
  g_set := He.free_ok X G (c.a.fact 33 (f := .free "set") rfl)
  g_WEEK := He.int_ok X G (c.a.fact 34 (f := .int "WEEK" 7) rfl)
  g_InvalidRule := He.glo_ok X G (c.a.fact 35 (f := .glo "InvalidRule") rfl)
  g_are_rests := He.glo_ok X G (c.a.fact 36 (f := .glo "are_rests") rfl)
  g_are_kinds := He.glo_ok X G (c.a.fact 37 (f := .glo "are_kinds") rfl)
  g_sorted := He.free_ok X G (c.a.fact 38 (f := .free "sorted") rfl)
  g_head_in := He.glo_ok X G (c.a.fact 39 (f := .glo "head_in") rfl)
  g_enumerate := He.free_ok X G (c.a.fact 40 (f := .free "enumerate") rfl)
  g_NoKind := He.glo_ok X G (c.a.fact 41 (f := .glo "NoKind") rfl)
  g_Rule := He.glo_ok X G (c.a.fact 42 (f := .glo "Rule") rfl)
  g_abs := He.free_ok X G (c.a.fact 43 (f := .free "abs") rfl)
  g_range := He.free_ok X G (c.a.fact 44 (f := .free "range") rfl)
  g__law_number := He.glo_ok X G (c.a.fact 45 (f := .glo "_law_number") rfl)
  cl_Kind := He.cls_ok (c.a.fact 46 (f := .cls "Kind") rfl)
  m_Kind___eq__ := He.meth_ok (c.a.fact 47 (f := .meth "Kind" "__eq__") rfl)
  cl_Still := He.cls_ok (c.a.fact 48 (f := .cls "Still") rfl)
  mk_Still := He.mkr_ok (c.a.fact 49 (f := .mkr "Still") rfl)
  na_Still_name := He.noat_ok (c.a.fact 50 (f := .noat "Still" "name") rfl)
  na_Still_days := He.noat_ok (c.a.fact 51 (f := .noat "Still" "days") rfl)
  na_Still_times := He.noat_ok (c.a.fact 52 (f := .noat "Still" "times") rfl)
  m_Still___init__ := He.meth_ok (c.a.fact 53 (f := .meth "Still" "__init__") rfl)
  m_Still___str__ := He.meth_ok (c.a.fact 54 (f := .meth "Still" "__str__") rfl)
  cl_Anew := He.cls_ok (c.a.fact 55 (f := .cls "Anew") rfl)
  mk_Anew := He.mkr_ok (c.a.fact 56 (f := .mkr "Anew") rfl)
  na_Anew_name := He.noat_ok (c.a.fact 57 (f := .noat "Anew" "name") rfl)
  na_Anew_left := He.noat_ok (c.a.fact 58 (f := .noat "Anew" "left") rfl)
  na_Anew_times := He.noat_ok (c.a.fact 59 (f := .noat "Anew" "times") rfl)
  m_Anew___init__ := He.meth_ok (c.a.fact 60 (f := .meth "Anew" "__init__") rfl)
  m_Anew___str__ := He.meth_ok (c.a.fact 61 (f := .meth "Anew" "__str__") rfl)
  cl_Lift := He.cls_ok (c.a.fact 62 (f := .cls "Lift") rfl)
  mk_Lift := He.mkr_ok (c.a.fact 63 (f := .mkr "Lift") rfl)
  na_Lift_name := He.noat_ok (c.a.fact 64 (f := .noat "Lift" "name") rfl)
  na_Lift_by := He.noat_ok (c.a.fact 65 (f := .noat "Lift" "by") rfl)
  na_Lift_top := He.noat_ok (c.a.fact 66 (f := .noat "Lift" "top") rfl)
  na_Lift_times := He.noat_ok (c.a.fact 67 (f := .noat "Lift" "times") rfl)
  m_Lift___init__ := He.meth_ok (c.a.fact 68 (f := .meth "Lift" "__init__") rfl)
  m_Lift___str__ := He.meth_ok (c.a.fact 69 (f := .meth "Lift" "__str__") rfl)
  cl_Rule := He.cls_ok (c.a.fact 70 (f := .cls "Rule") rfl)
  mk_Rule := He.mkr_ok (c.a.fact 71 (f := .mkr "Rule") rfl)
  na_Rule_length := He.noat_ok (c.a.fact 72 (f := .noat "Rule" "length") rfl)
  na_Rule_rests := He.noat_ok (c.a.fact 73 (f := .noat "Rule" "rests") rfl)
  na_Rule_cap := He.noat_ok (c.a.fact 74 (f := .noat "Rule" "cap") rfl)
  na_Rule_kinds := He.noat_ok (c.a.fact 75 (f := .noat "Rule" "kinds") rfl)
  na_Rule_names := He.noat_ok (c.a.fact 76 (f := .noat "Rule" "names") rfl)
  m_Rule___init__ := He.meth_ok (c.a.fact 77 (f := .meth "Rule" "__init__") rfl)
  m_Rule_kind := He.meth_ok (c.a.fact 78 (f := .meth "Rule" "kind") rfl)
  m_Rule_only := He.meth_ok (c.a.fact 79 (f := .meth "Rule" "only") rfl)
  m_Rule___eq__ := He.meth_ok (c.a.fact 80 (f := .meth "Rule" "__eq__") rfl)
  m_Rule___str__ := He.meth_ok (c.a.fact 81 (f := .meth "Rule" "__str__") rfl)
  e_Rule___init___0 := List.all_eq_true.mp c.ex (fun K => tupAtB K (emptyDfl (fun K => He.ma K (He.ga K "Rule") "__init__") 0 K) []) (List.mem_of_getElem? (i := 0) rfl)
  e_Rule___init___2 := List.all_eq_true.mp c.ex (fun K => tupAtB K (emptyDfl (fun K => He.ma K (He.ga K "Rule") "__init__") 2 K) []) (List.mem_of_getElem? (i := 1) rfl)
  e_BARRED := List.all_eq_true.mp c.ex (fun K => tupAtB K (He.ga K "BARRED") [.str "any", .str "none", .str "anew", .str "lift", .str "term"]) (List.mem_of_getElem? (i := 2) rfl)
  o_Kind := List.all_eq_true.mp c.ex (fun K => ownB K (He.ga K "Kind")) (List.mem_of_getElem? (i := 3) rfl)
  o_Still := List.all_eq_true.mp c.ex (fun K => ownB K (He.ga K "Still")) (List.mem_of_getElem? (i := 4) rfl)
  o_Anew := List.all_eq_true.mp c.ex (fun K => ownB K (He.ga K "Anew")) (List.mem_of_getElem? (i := 5) rfl)
  o_Lift := List.all_eq_true.mp c.ex (fun K => ownB K (He.ga K "Lift")) (List.mem_of_getElem? (i := 6) rfl)
  o_Rule := List.all_eq_true.mp c.ex (fun K => ownB K (He.ga K "Rule")) (List.mem_of_getElem? (i := 7) rfl)
  b_Kind := List.all_eq_true.mp c.ex (fun K => bltB K (He.ga K "Kind")) (List.mem_of_getElem? (i := 8) rfl)
  s_Kind_Kind := List.all_eq_true.mp c.ex (fun K => subB K (He.ga K "Kind") (He.ga K "Kind") true) (List.mem_of_getElem? (i := 9) rfl)
  s_Still_Kind := List.all_eq_true.mp c.ex (fun K => subB K (He.ga K "Still") (He.ga K "Kind") true) (List.mem_of_getElem? (i := 10) rfl)
  s_Anew_Kind := List.all_eq_true.mp c.ex (fun K => subB K (He.ga K "Anew") (He.ga K "Kind") true) (List.mem_of_getElem? (i := 11) rfl)
  s_Lift_Kind := List.all_eq_true.mp c.ex (fun K => subB K (He.ga K "Lift") (He.ga K "Kind") true) (List.mem_of_getElem? (i := 12) rfl)
  s_Rule_Kind := List.all_eq_true.mp c.ex (fun K => subB K (He.ga K "Rule") (He.ga K "Kind") false) (List.mem_of_getElem? (i := 13) rfl)
  b_Rule := List.all_eq_true.mp c.ex (fun K => bltB K (He.ga K "Rule")) (List.mem_of_getElem? (i := 14) rfl)
  s_Kind_Rule := List.all_eq_true.mp c.ex (fun K => subB K (He.ga K "Kind") (He.ga K "Rule") false) (List.mem_of_getElem? (i := 15) rfl)
  s_Still_Rule := List.all_eq_true.mp c.ex (fun K => subB K (He.ga K "Still") (He.ga K "Rule") false) (List.mem_of_getElem? (i := 16) rfl)
  s_Anew_Rule := List.all_eq_true.mp c.ex (fun K => subB K (He.ga K "Anew") (He.ga K "Rule") false) (List.mem_of_getElem? (i := 17) rfl)
  s_Lift_Rule := List.all_eq_true.mp c.ex (fun K => subB K (He.ga K "Lift") (He.ga K "Rule") false) (List.mem_of_getElem? (i := 18) rfl)
  s_Rule_Rule := List.all_eq_true.mp c.ex (fun K => subB K (He.ga K "Rule") (He.ga K "Rule") true) (List.mem_of_getElem? (i := 19) rfl)
  v_FORMS := List.all_eq_true.mp c.ex (fun K => He.valsB K (He.ga K "FORMS") [("still", .int 4), ("anew", .int 4), ("lift", .int 5)]) (List.mem_of_getElem? (i := 20) rfl)
  q_Kind := List.all_eq_true.mp c.ex (fun K => spmB K (He.ga K "Kind") "__eq__" (He.ma K (He.ga K "Kind") "__eq__")) (List.mem_of_getElem? (i := 21) rfl)
  n_Kind := List.all_eq_true.mp c.ex (fun K => neB K (He.ga K "Kind")) (List.mem_of_getElem? (i := 22) rfl)
  nb_Kind := List.all_eq_true.mp c.ex (fun K => nfB K (He.ga K "Kind")) (List.mem_of_getElem? (i := 23) rfl)
  nf_Kind_Kind := List.all_eq_true.mp c.ex (fun K => PySem.W.notFirst K (He.ga K "Kind") (.ref (He.ga K "Kind"))) (List.mem_of_getElem? (i := 24) rfl)
  nf_Kind_Rule := List.all_eq_true.mp c.ex (fun K => PySem.W.notFirst K (He.ga K "Kind") (.ref (He.ga K "Rule"))) (List.mem_of_getElem? (i := 25) rfl)
  q_Still := List.all_eq_true.mp c.ex (fun K => spmB K (He.ga K "Still") "__eq__" (He.ma K (He.ga K "Kind") "__eq__")) (List.mem_of_getElem? (i := 26) rfl)
  n_Still := List.all_eq_true.mp c.ex (fun K => neB K (He.ga K "Still")) (List.mem_of_getElem? (i := 27) rfl)
  nb_Still := List.all_eq_true.mp c.ex (fun K => nfB K (He.ga K "Still")) (List.mem_of_getElem? (i := 28) rfl)
  nf_Still_Kind := List.all_eq_true.mp c.ex (fun K => PySem.W.notFirst K (He.ga K "Still") (.ref (He.ga K "Kind"))) (List.mem_of_getElem? (i := 29) rfl)
  nf_Still_Still := List.all_eq_true.mp c.ex (fun K => PySem.W.notFirst K (He.ga K "Still") (.ref (He.ga K "Still"))) (List.mem_of_getElem? (i := 30) rfl)
  nf_Still_Anew := List.all_eq_true.mp c.ex (fun K => PySem.W.notFirst K (He.ga K "Still") (.ref (He.ga K "Anew"))) (List.mem_of_getElem? (i := 31) rfl)
  nf_Still_Lift := List.all_eq_true.mp c.ex (fun K => PySem.W.notFirst K (He.ga K "Still") (.ref (He.ga K "Lift"))) (List.mem_of_getElem? (i := 32) rfl)
  nf_Still_Rule := List.all_eq_true.mp c.ex (fun K => PySem.W.notFirst K (He.ga K "Still") (.ref (He.ga K "Rule"))) (List.mem_of_getElem? (i := 33) rfl)
  q_Anew := List.all_eq_true.mp c.ex (fun K => spmB K (He.ga K "Anew") "__eq__" (He.ma K (He.ga K "Kind") "__eq__")) (List.mem_of_getElem? (i := 34) rfl)
  n_Anew := List.all_eq_true.mp c.ex (fun K => neB K (He.ga K "Anew")) (List.mem_of_getElem? (i := 35) rfl)
  nb_Anew := List.all_eq_true.mp c.ex (fun K => nfB K (He.ga K "Anew")) (List.mem_of_getElem? (i := 36) rfl)
  nf_Anew_Kind := List.all_eq_true.mp c.ex (fun K => PySem.W.notFirst K (He.ga K "Anew") (.ref (He.ga K "Kind"))) (List.mem_of_getElem? (i := 37) rfl)
  nf_Anew_Still := List.all_eq_true.mp c.ex (fun K => PySem.W.notFirst K (He.ga K "Anew") (.ref (He.ga K "Still"))) (List.mem_of_getElem? (i := 38) rfl)
  nf_Anew_Anew := List.all_eq_true.mp c.ex (fun K => PySem.W.notFirst K (He.ga K "Anew") (.ref (He.ga K "Anew"))) (List.mem_of_getElem? (i := 39) rfl)
  nf_Anew_Lift := List.all_eq_true.mp c.ex (fun K => PySem.W.notFirst K (He.ga K "Anew") (.ref (He.ga K "Lift"))) (List.mem_of_getElem? (i := 40) rfl)
  nf_Anew_Rule := List.all_eq_true.mp c.ex (fun K => PySem.W.notFirst K (He.ga K "Anew") (.ref (He.ga K "Rule"))) (List.mem_of_getElem? (i := 41) rfl)
  q_Lift := List.all_eq_true.mp c.ex (fun K => spmB K (He.ga K "Lift") "__eq__" (He.ma K (He.ga K "Kind") "__eq__")) (List.mem_of_getElem? (i := 42) rfl)
  n_Lift := List.all_eq_true.mp c.ex (fun K => neB K (He.ga K "Lift")) (List.mem_of_getElem? (i := 43) rfl)
  nb_Lift := List.all_eq_true.mp c.ex (fun K => nfB K (He.ga K "Lift")) (List.mem_of_getElem? (i := 44) rfl)
  nf_Lift_Kind := List.all_eq_true.mp c.ex (fun K => PySem.W.notFirst K (He.ga K "Lift") (.ref (He.ga K "Kind"))) (List.mem_of_getElem? (i := 45) rfl)
  nf_Lift_Still := List.all_eq_true.mp c.ex (fun K => PySem.W.notFirst K (He.ga K "Lift") (.ref (He.ga K "Still"))) (List.mem_of_getElem? (i := 46) rfl)
  nf_Lift_Anew := List.all_eq_true.mp c.ex (fun K => PySem.W.notFirst K (He.ga K "Lift") (.ref (He.ga K "Anew"))) (List.mem_of_getElem? (i := 47) rfl)
  nf_Lift_Lift := List.all_eq_true.mp c.ex (fun K => PySem.W.notFirst K (He.ga K "Lift") (.ref (He.ga K "Lift"))) (List.mem_of_getElem? (i := 48) rfl)
  nf_Lift_Rule := List.all_eq_true.mp c.ex (fun K => PySem.W.notFirst K (He.ga K "Lift") (.ref (He.ga K "Rule"))) (List.mem_of_getElem? (i := 49) rfl)
  q_Rule := List.all_eq_true.mp c.ex (fun K => spmB K (He.ga K "Rule") "__eq__" (He.ma K (He.ga K "Rule") "__eq__")) (List.mem_of_getElem? (i := 50) rfl)
  n_Rule := List.all_eq_true.mp c.ex (fun K => neB K (He.ga K "Rule")) (List.mem_of_getElem? (i := 51) rfl)
  nb_Rule := List.all_eq_true.mp c.ex (fun K => nfB K (He.ga K "Rule")) (List.mem_of_getElem? (i := 52) rfl)
  nf_Rule_Kind := List.all_eq_true.mp c.ex (fun K => PySem.W.notFirst K (He.ga K "Rule") (.ref (He.ga K "Kind"))) (List.mem_of_getElem? (i := 53) rfl)
  nf_Rule_Still := List.all_eq_true.mp c.ex (fun K => PySem.W.notFirst K (He.ga K "Rule") (.ref (He.ga K "Still"))) (List.mem_of_getElem? (i := 54) rfl)
  nf_Rule_Anew := List.all_eq_true.mp c.ex (fun K => PySem.W.notFirst K (He.ga K "Rule") (.ref (He.ga K "Anew"))) (List.mem_of_getElem? (i := 55) rfl)
  nf_Rule_Lift := List.all_eq_true.mp c.ex (fun K => PySem.W.notFirst K (He.ga K "Rule") (.ref (He.ga K "Lift"))) (List.mem_of_getElem? (i := 56) rfl)
  nf_Rule_Rule := List.all_eq_true.mp c.ex (fun K => PySem.W.notFirst K (He.ga K "Rule") (.ref (He.ga K "Rule"))) (List.mem_of_getElem? (i := 57) rfl)
  c_Kind_read := List.all_eq_true.mp c.ex (fun K => cmB K (He.ga K "Kind") "read") (List.mem_of_getElem? (i := 58) rfl)
  c_Rule_read := List.all_eq_true.mp c.ex (fun K => cmB K (He.ga K "Rule") "read") (List.mem_of_getElem? (i := 59) rfl)
  x_FORMS := List.all_eq_true.mp c.ex (fun K => keysB K (He.ga K "FORMS") ["still", "anew", "lift"]) (List.mem_of_getElem? (i := 60) rfl)
  t_FORMS := c.tab 0 (t := (fun K => He.ga K "FORMS", ["still", "anew", "lift"])) rfl
  f_is_integer := c.a.def_ 0 (d := d_is_integer) rfl
  f_is_length := c.a.def_ 1 (d := d_is_length) rfl
  f_is_name := c.a.def_ 2 (d := d_is_name) rfl
  f_is_sequence := c.a.def_ 3 (d := d_is_sequence) rfl
  f_number_in := c.a.def_ 4 (d := d_number_in) rfl
  f_Kind_read := c.a.def_ 5 (d := d_Kind_read) rfl
  f_Kind___eq__ := c.a.def_ 6 (d := d_Kind___eq__) rfl
  f_need := c.a.def_ 7 (d := d_need) rfl
  f_is_many := c.a.def_ 8 (d := d_is_many) rfl
  f_many_text := c.a.def_ 9 (d := d_many_text) rfl
  f_Still___init__ := c.a.def_ 10 (d := d_Still___init__) rfl
  f_Still___str__ := c.a.def_ 11 (d := d_Still___str__) rfl
  f_Anew___init__ := c.a.def_ 12 (d := d_Anew___init__) rfl
  f_Anew___str__ := c.a.def_ 13 (d := d_Anew___str__) rfl
  f_Lift___init__ := c.a.def_ 14 (d := d_Lift___init__) rfl
  f_Lift___str__ := c.a.def_ 15 (d := d_Lift___str__) rfl
  f_told_by := c.a.def_ 16 (d := d_told_by) rfl
  f_made_of := c.a.def_ 17 (d := d_made_of) rfl
  f_are_rests := c.a.def_ 18 (d := d_are_rests) rfl
  f_are_kinds := c.a.def_ 19 (d := d_are_kinds) rfl
  f_head_in := c.a.def_ 20 (d := d_head_in) rfl
  f_Rule___init__ := c.a.def_ 21 (d := d_Rule___init__) rfl
  f_Rule_read := c.a.def_ 22 (d := d_Rule_read) rfl
  f_Rule_kind := c.a.def_ 23 (d := d_Rule_kind) rfl
  f_Rule_only := c.a.def_ 24 (d := d_Rule_only) rfl
  f_Rule___eq__ := c.a.def_ 25 (d := d_Rule___eq__) rfl
  f_Rule___str__ := c.a.def_ 26 (d := d_Rule___str__) rfl
  f__law_number := c.a.def_ 27 (d := d__law_number) rfl
  f_law := c.a.def_ 28 (d := d_law) rfl
end Tm

namespace Tm
open PySem PySem.Spec PyProof.Rows L2
section
variable {w : World} {K : PySem.W.Frag} {mg : Str → Option Value}
def Cs_all : List Str := ["Kind", "Still", "Anew", "Lift", "Rule"]
theorem clsOk (E : Env K mg w) : ∀ C ∈ Cs_all, ClsOk K C := by
  intro C hC
  simp only [Cs_all, List.mem_cons, List.not_mem_nil, or_false] at hC
  rcases hC with rfl | rfl | rfl | rfl | rfl
  · exact ⟨ownB_ok E.o_Kind, E.cl_Kind⟩
  · exact ⟨ownB_ok E.o_Still, E.cl_Still⟩
  · exact ⟨ownB_ok E.o_Anew, E.cl_Anew⟩
  · exact ⟨ownB_ok E.o_Lift, E.cl_Lift⟩
  · exact ⟨ownB_ok E.o_Rule, E.cl_Rule⟩
theorem fc_rests (E : Env K mg w) : m_fldC K ["Rule"] "rests" := by
  intro C hC
  simp only [List.mem_cons, List.not_mem_nil, or_false] at hC
  rcases hC with rfl
  · exact ⟨E.cl_Rule, E.na_Rule_rests⟩
theorem fc_length (E : Env K mg w) : m_fldC K ["Rule"] "length" := by
  intro C hC
  simp only [List.mem_cons, List.not_mem_nil, or_false] at hC
  rcases hC with rfl
  · exact ⟨E.cl_Rule, E.na_Rule_length⟩
theorem fc_cap (E : Env K mg w) : m_fldC K ["Rule"] "cap" := by
  intro C hC
  simp only [List.mem_cons, List.not_mem_nil, or_false] at hC
  rcases hC with rfl
  · exact ⟨E.cl_Rule, E.na_Rule_cap⟩
theorem fc_kinds (E : Env K mg w) : m_fldC K ["Rule"] "kinds" := by
  intro C hC
  simp only [List.mem_cons, List.not_mem_nil, or_false] at hC
  rcases hC with rfl
  · exact ⟨E.cl_Rule, E.na_Rule_kinds⟩
theorem fc_names (E : Env K mg w) : m_fldC K ["Rule"] "names" := by
  intro C hC
  simp only [List.mem_cons, List.not_mem_nil, or_false] at hC
  rcases hC with rfl
  · exact ⟨E.cl_Rule, E.na_Rule_names⟩
theorem fc_name (E : Env K mg w) : m_fldC K ["Still", "Anew", "Lift"] "name" := by
  intro C hC
  simp only [List.mem_cons, List.not_mem_nil, or_false] at hC
  rcases hC with rfl | rfl | rfl
  · exact ⟨E.cl_Still, E.na_Still_name⟩
  · exact ⟨E.cl_Anew, E.na_Anew_name⟩
  · exact ⟨E.cl_Lift, E.na_Lift_name⟩
theorem fc_days (E : Env K mg w) : m_fldC K ["Still"] "days" := by
  intro C hC
  simp only [List.mem_cons, List.not_mem_nil, or_false] at hC
  rcases hC with rfl
  · exact ⟨E.cl_Still, E.na_Still_days⟩
theorem fc_left (E : Env K mg w) : m_fldC K ["Anew"] "left" := by
  intro C hC
  simp only [List.mem_cons, List.not_mem_nil, or_false] at hC
  rcases hC with rfl
  · exact ⟨E.cl_Anew, E.na_Anew_left⟩
theorem fc_by (E : Env K mg w) : m_fldC K ["Lift"] "by" := by
  intro C hC
  simp only [List.mem_cons, List.not_mem_nil, or_false] at hC
  rcases hC with rfl
  · exact ⟨E.cl_Lift, E.na_Lift_by⟩
theorem fc_top (E : Env K mg w) : m_fldC K ["Lift"] "top" := by
  intro C hC
  simp only [List.mem_cons, List.not_mem_nil, or_false] at hC
  rcases hC with rfl
  · exact ⟨E.cl_Lift, E.na_Lift_top⟩
theorem fc_times (E : Env K mg w) : m_fldC K ["Still", "Anew", "Lift"] "times" := by
  intro C hC
  simp only [List.mem_cons, List.not_mem_nil, or_false] at hC
  rcases hC with rfl | rfl | rfl
  · exact ⟨E.cl_Still, E.na_Still_times⟩
  · exact ⟨E.cl_Anew, E.na_Anew_times⟩
  · exact ⟨E.cl_Lift, E.na_Lift_times⟩
def tb_Kind : List (Str × Bool) := [("Kind", true), ("Still", true), ("Anew", true), ("Lift", true), ("Rule", false)]
theorem is_Kind (E : Env K mg w) : ∀ q ∈ tb_Kind, ClsOk K q.1 ∧ subB K (He.ga K q.1) (He.ga K "Kind") q.2 = true := by
  intro q hq
  simp only [tb_Kind, List.mem_cons, List.not_mem_nil, or_false] at hq
  rcases hq with rfl | rfl | rfl | rfl | rfl
  · exact ⟨⟨ownB_ok E.o_Kind, E.cl_Kind⟩, E.s_Kind_Kind⟩
  · exact ⟨⟨ownB_ok E.o_Still, E.cl_Still⟩, E.s_Still_Kind⟩
  · exact ⟨⟨ownB_ok E.o_Anew, E.cl_Anew⟩, E.s_Anew_Kind⟩
  · exact ⟨⟨ownB_ok E.o_Lift, E.cl_Lift⟩, E.s_Lift_Kind⟩
  · exact ⟨⟨ownB_ok E.o_Rule, E.cl_Rule⟩, E.s_Rule_Kind⟩
def tb_Rule : List (Str × Bool) := [("Kind", false), ("Still", false), ("Anew", false), ("Lift", false), ("Rule", true)]
theorem is_Rule (E : Env K mg w) : ∀ q ∈ tb_Rule, ClsOk K q.1 ∧ subB K (He.ga K q.1) (He.ga K "Rule") q.2 = true := by
  intro q hq
  simp only [tb_Rule, List.mem_cons, List.not_mem_nil, or_false] at hq
  rcases hq with rfl | rfl | rfl | rfl | rfl
  · exact ⟨⟨ownB_ok E.o_Kind, E.cl_Kind⟩, E.s_Kind_Rule⟩
  · exact ⟨⟨ownB_ok E.o_Still, E.cl_Still⟩, E.s_Still_Rule⟩
  · exact ⟨⟨ownB_ok E.o_Anew, E.cl_Anew⟩, E.s_Anew_Rule⟩
  · exact ⟨⟨ownB_ok E.o_Lift, E.cl_Lift⟩, E.s_Lift_Rule⟩
  · exact ⟨⟨ownB_ok E.o_Rule, E.cl_Rule⟩, E.s_Rule_Rule⟩
def T_BARRED : T := .wt [.str "any", .str "none", .str "anew", .str "lift", .str "term"]
theorem m_G_BARRED {X : Cx} {W : WX} {pos : Pos} (E : Env K X.mg w) (hg : Gl X "BARRED" := by rfl) : PE X (.Name "BARRED" pos) (tX K W (mC T_BARRED)) := m_const (pe_gr E.g_BARRED hg (by decide)) fun A H => .wt (fun H => tupAtB_ok E.e_BARRED H) (.cons (.str _) (.cons (.str _) (.cons (.str _) (.cons (.str _) (.cons (.str _) .nil)))))
end
end Tm

namespace Tm
open PySem PySem.Spec PyProof.Rows L2
def b_is_integer : Sv := (sRet (mAnd (mUn (fIsB Cs_all "int") (mVar 0)) (mNot (mUn (fIsB Cs_all "bool") (mVar 0)))))
def F_is_integer : Fn := runP 1 1 b_is_integer
section
variable {P : Program} {w : World} {K : PySem.W.Frag} {mg : Str → Option Value} {base : Heap}
theorem sc_is_integer : FnScope ["value"] ["value"] (defScope s_is_integer) := ⟨rfl, rfl, rfl, by decide +kernel, rfl, by decide +kernel, by decide +kernel⟩
theorem fn_is_integer (E : Env K mg w) {fd : FuncData} {dvs : List V} (F : FunD K "is_integer" "is_integer" (defArgs s_is_integer) (defBody s_is_integer) (defScope s_is_integer) dvs [] (He.ga K "is_integer") fd) : FnOk P w K mg base CX0 1 (He.ga K "is_integer") fd ["value"] (spF K F_is_integer) := by
  refine F.ok sc_is_integer (fun vs H Q E h => spF_len takes_P h) (fun cdv A outer s H vs Q X hr h => ?_)
  have hu := hr.units
  exact body_okP (k := 1) (W := fun cls d _ H' => X cls d H') (g := b_is_integer) (PSs.nox (s_one (s_ret (m_and (m_isB (clsOk E) (.inl rfl) E.g_isinstance E.g_int bt_int (m_var 0)) (m_one (m_not (m_isB (clsOk E) (.inr (.inl rfl)) E.g_isinstance E.g_bool bt_bool (m_var 0)))))))) (by decide) (fun _ _ _ _ z => z) h
theorem ok_is_integer (E : Env K mg w) : Dn P w K mg base CX0 1 (He.ga K "is_integer") [] (spF K F_is_integer) :=
  dn_of (ps := ["value"]) E.f_is_integer (fun fd F => fn_is_integer E F) (fun _ _ _ _ _ _ us hl => match us, hl with | [_], _ => rfl)
end
def b_is_length : Sv := (sRet (mAnd (mCall F_is_integer [] (mCons (mVar 0) mNil)) (mOp oGe (mVar 0) (mC (.int 1)))))
def F_is_length : Fn := runP 1 1 b_is_length
section
variable {P : Program} {w : World} {K : PySem.W.Frag} {mg : Str → Option Value} {base : Heap}
theorem sc_is_length : FnScope ["value"] ["value"] (defScope s_is_length) := ⟨rfl, rfl, rfl, by decide +kernel, rfl, by decide +kernel, by decide +kernel⟩
theorem fn_is_length (E : Env K mg w) {fd : FuncData} {dvs : List V} (F : FunD K "is_length" "is_length" (defArgs s_is_length) (defBody s_is_length) (defScope s_is_length) dvs [] (He.ga K "is_length") fd) : FnOk P w K mg base CX0 2 (He.ga K "is_length") fd ["value"] (spF K F_is_length) := by
  refine F.ok sc_is_length (fun vs H Q E h => spF_len takes_P h) (fun cdv A outer s H vs Q X hr h => ?_)
  have hu := hr.units
  exact body_okP (k := 1) (W := fun cls d _ H' => X cls d H') (g := b_is_length) (PSs.nox (s_one (s_ret (m_and (m_call (ok_is_integer (K := K) E) (hr.mono (by decide)) E.g_is_integer pA0 (fun _ _ => .nil) (m_cons (m_var 0) m_nil)) (m_one (m_cmp op_ge oIB_ok (m_var 0) m_int (nomark _))))))) (by decide) (fun _ _ _ _ z => z) h
theorem ok_is_length (E : Env K mg w) : Dn P w K mg base CX0 2 (He.ga K "is_length") [] (spF K F_is_length) :=
  dn_of (ps := ["value"]) E.f_is_length (fun fd F => fn_is_length E F) (fun _ _ _ _ _ _ us hl => match us, hl with | [_], _ => rfl)
end
def b_is_name : Sv := (sSeq (sIf (mOrT (mNotT (mTst (mUn (fIsB Cs_all "str") (mVar 0)))) (mOrT (mTst (mInA false oIn (mVar 0) (mC T_BARRED))) (mNotT (mTst (mChain oLe oLe (mC (.int 1)) (mB bLenA (mCons (mVar 0) mNil)) (mC (.int 4))))))) (sRet (mC (.bl false))) sNext)
    (sRet (mB bAll (mCons (mLc [1] (mSeqOfS (mVar 0)) (gNm 1) mYes (mInA false oIn (mVar 1) (mC (.str "abcdefghijklmnopqrstuvwxyz")))) mNil))))
def F_is_name : Fn := runP 1 2 b_is_name
section
variable {P : Program} {w : World} {K : PySem.W.Frag} {mg : Str → Option Value} {base : Heap}
theorem sc_is_name : FnScope ["value", "letter"] ["value"] (defScope s_is_name) := ⟨rfl, rfl, rfl, by decide +kernel, rfl, by decide +kernel, by decide +kernel⟩
theorem fn_is_name (E : Env K mg w) {fd : FuncData} {dvs : List V} (F : FunD K "is_name" "is_name" (defArgs s_is_name) (defBody s_is_name) (defScope s_is_name) dvs [] (He.ga K "is_name") fd) : FnOk P w K mg base CX0 1 (He.ga K "is_name") fd ["value"] (spF K F_is_name) := by
  refine F.ok sc_is_name (fun vs H Q E h => spF_len takes_P h) (fun cdv A outer s H vs Q X hr h => ?_)
  have hu := hr.units
  exact body_okP (k := 1) (W := fun cls d _ H' => X cls d H') (g := b_is_name) (PSs.nox (s_cons (s_if (PW.pt (m_por (m_tnot (m_tst (m_isB (clsOk E) (.inr (.inr (.inl rfl))) E.g_isinstance E.g_str bt_str (m_var 0)))) (m_por (m_tinA (hu1 hu) q_in oIn_ok (m_var 0) (m_G_BARRED E)) (m_por1 (m_tnot (m_tchain op_le op_le oIB_ok oIB_ok m_int (m_callB (q_lenA (K := K)) bLenA_ok E.g_len bt_len (m_cons (m_var 0) m_nil)) (m_gi E.g_MOST_LETTERS))))))) (s_one (s_ret m_bl)) s_nil)
      (s_one (s_ret (m_callB (k_all K) bAll_ok E.g_all bt_all (m_cons (m_lc (own := [("letter", 1)]) (by rfl) sc_is_name.nd (i_str (m_var 0)) (blkOk_by (own := [("letter", 1)]) (N := ["value", "letter"]) (sc := defScope s_is_name) (by decide +kernel)) (fun _ _ _ _ _ => (g_name 1 sc_is_name.nd)) (fun _ _ _ _ _ => ts_nil) (fun _ _ _ _ _ => (m_inA (hu1 hu) q_in oIn_ok (m_var 1) (m_gs E.g_LETTERS)))) m_nil)))))) (by decide) (fun _ _ _ _ z => z) h
theorem ok_is_name (E : Env K mg w) : Dn P w K mg base CX0 1 (He.ga K "is_name") [] (spF K F_is_name) :=
  dn_of (ps := ["value"]) E.f_is_name (fun fd F => fn_is_name E F) (fun _ _ _ _ _ _ us hl => match us, hl with | [_], _ => rfl)
end
def b_is_sequence : Sv := (sRet (mUn (fIsBs Cs_all ["list", "tuple"]) (mVar 0)))
def F_is_sequence : Fn := runP 1 1 b_is_sequence
section
variable {P : Program} {w : World} {K : PySem.W.Frag} {mg : Str → Option Value} {base : Heap}
theorem sc_is_sequence : FnScope ["value"] ["value"] (defScope s_is_sequence) := ⟨rfl, rfl, rfl, by decide +kernel, rfl, by decide +kernel, by decide +kernel⟩
theorem fn_is_sequence (E : Env K mg w) {fd : FuncData} {dvs : List V} (F : FunD K "is_sequence" "is_sequence" (defArgs s_is_sequence) (defBody s_is_sequence) (defScope s_is_sequence) dvs [] (He.ga K "is_sequence") fd) : FnOk P w K mg base CX0 1 (He.ga K "is_sequence") fd ["value"] (spF K F_is_sequence) := by
  refine F.ok sc_is_sequence (fun vs H Q E h => spF_len takes_P h) (fun cdv A outer s H vs Q X hr h => ?_)
  have hu := hr.units
  exact body_okP (k := 1) (W := fun cls d _ H' => X cls d H') (g := b_is_sequence) (PSs.nox (s_one (s_ret (m_isLT (clsOk E) E.g_isinstance E.g_list E.g_tuple (m_var 0))))) (by decide) (fun _ _ _ _ z => z) h
theorem ok_is_sequence (E : Env K mg w) : Dn P w K mg base CX0 1 (He.ga K "is_sequence") [] (spF K F_is_sequence) :=
  dn_of (ps := ["value"]) E.f_is_sequence (fun fd F => fn_is_sequence E F) (fun _ _ _ _ _ _ us hl => match us, hl with | [_], _ => rfl)
end
def b_number_in : Sv := (sSeq (sIf (mOrT (mNotT (mTst (mChain oLe oLe (mC (.int 1)) (mB bLenA (mCons (mVar 0) mNil)) (mC (.int 19))))) (mNotT (mTst (mB bAll (mCons (mLc [1] (mSeqOfS (mVar 0)) (gNm 1) mYes (mInA false oIn (mVar 1) (mC (.str "0123456789")))) mNil))))) (sRet (mC .non)) sNext)
    (sRet (mIf (mAndT (mTst (mOp oEq (mIxA (mVar 0) (mC (.int 0))) (mC (.str "0")))) (mTst (mOp oGt (mB bLenA (mCons (mVar 0) mNil)) (mC (.int 1))))) (mC .non) (mB bInt (mCons (mVar 0) mNil)))))
def F_number_in : Fn := runP 1 2 b_number_in
section
variable {P : Program} {w : World} {K : PySem.W.Frag} {mg : Str → Option Value} {base : Heap}
theorem sc_number_in : FnScope ["word", "sign"] ["word"] (defScope s_number_in) := ⟨rfl, rfl, rfl, by decide +kernel, rfl, by decide +kernel, by decide +kernel⟩
theorem fn_number_in (E : Env K mg w) {fd : FuncData} {dvs : List V} (F : FunD K "number_in" "number_in" (defArgs s_number_in) (defBody s_number_in) (defScope s_number_in) dvs [] (He.ga K "number_in") fd) : FnOk P w K mg base CX0 1 (He.ga K "number_in") fd ["word"] (spF K F_number_in) := by
  refine F.ok sc_number_in (fun vs H Q E h => spF_len takes_P h) (fun cdv A outer s H vs Q X hr h => ?_)
  have hu := hr.units
  exact body_okP (k := 1) (W := fun cls d _ H' => X cls d H') (g := b_number_in) (PSs.nox (s_cons (s_if (PW.pt (m_por (m_tnot (m_tchain op_le op_le oIB_ok oIB_ok m_int (m_callB (q_lenA (K := K)) bLenA_ok E.g_len bt_len (m_cons (m_var 0) m_nil)) (m_gi E.g_MOST_SIGNS))) (m_por1 (m_tnot (m_tst (m_callB (k_all K) bAll_ok E.g_all bt_all (m_cons (m_lc (own := [("sign", 1)]) (by rfl) sc_number_in.nd (i_str (m_var 0)) (blkOk_by (own := [("sign", 1)]) (N := ["word", "sign"]) (sc := defScope s_number_in) (by decide +kernel)) (fun _ _ _ _ _ => (g_name 1 sc_number_in.nd)) (fun _ _ _ _ _ => ts_nil) (fun _ _ _ _ _ => (m_inA (hu1 hu) q_in oIn_ok (m_var 1) (m_gs E.g_SIGNS)))) m_nil))))))) (s_one (s_ret m_non)) s_nil)
      (s_one (s_ret (m_ifE (PW.pt (m_pand (m_tcmp (q_eq hu) oEq_ok (m_ixA (hu1 hu) (m_var 0) m_int (fun _ _ => rfl)) m_str (nomark _)) (m_pand1 (m_tcmp op_gt oIB_ok (m_callB (q_lenA (K := K)) bLenA_ok E.g_len bt_len (m_cons (m_var 0) m_nil)) m_int (nomark _))))) m_non (m_callTy q_int bInt_ok E.g_int bt_int (m_cons (m_var 0) m_nil))))))) (by decide) (fun _ _ _ _ z => z) h
theorem ok_number_in (E : Env K mg w) : Dn P w K mg base CX0 1 (He.ga K "number_in") [] (spF K F_number_in) :=
  dn_of (ps := ["word"]) E.f_number_in (fun fd F => fn_number_in E F) (fun _ _ _ _ _ _ us hl => match us, hl with | [_], _ => rfl)
end
end Tm

namespace Tm
open PySem PySem.Spec PyProof.Rows L2
def TB_FORMS : List (Str × T) := [("still", .int 4), ("anew", .int 4), ("lift", .int 5)]
theorem kd_FORMS {K : PySem.W.Frag} {X : Cx} (E : Env K X.mg X.w) (hK : X.K = K := by rfl) : KdOk' X K (He.ga K "FORMS") TB_FORMS := by
  subst hK
  refine ⟨E.t_FORMS, fun z h => keysB_none E.x_FORMS fun hz => ?_, fun z t h => ?_⟩
  · simp only [List.mem_cons, List.not_mem_nil, or_false] at hz
    rcases hz with rfl | rfl | rfl <;> cases h
  · have hm := lookup_mem h
    simp only [TB_FORMS, List.mem_cons, List.not_mem_nil, or_false, Prod.mk.injEq] at hm
    rcases hm with ⟨rfl, rfl⟩ | ⟨rfl, rfl⟩ | ⟨rfl, rfl⟩
    · obtain ⟨u, h1, h2⟩ := He.valsB_ok E.v_FORMS (q := ("still", .int 4)) (by simp)
      exact ⟨u, _, h1, h2, fun _ _ => .int _⟩
    · obtain ⟨u, h1, h2⟩ := He.valsB_ok E.v_FORMS (q := ("anew", .int 4)) (by simp)
      exact ⟨u, _, h1, h2, fun _ _ => .int _⟩
    · obtain ⟨u, h1, h2⟩ := He.valsB_ok E.v_FORMS (q := ("lift", .int 5)) (by simp)
      exact ⟨u, _, h1, h2, fun _ _ => .int _⟩
def b_need : Sv := (sIf (mNotT (mTst (mVar 1))) (fun _ _ _ => .st) sNext)
def F_need : Fn := runP 2 2 b_need
section
variable {P : Program} {w : World} {K : PySem.W.Frag} {mg : Str → Option Value} {base : Heap}
theorem sc_need : FnScope ["word", "is_fit"] ["word", "is_fit"] (defScope s_need) := ⟨rfl, rfl, rfl, by decide +kernel, rfl, by decide +kernel, by decide +kernel⟩
theorem fn_need (E : Env K mg w) {fd : FuncData} {dvs : List V} (F : FunD K "need" "need" (defArgs s_need) (defBody s_need) (defScope s_need) dvs [] (He.ga K "need") fd) : FnOk P w K mg base CX0 1 (He.ga K "need") fd ["word", "is_fit"] (spF K F_need) := by
  refine F.ok sc_need (fun vs H Q E h => spF_len takes_P h) (fun cdv A outer s H vs Q X hr h => ?_)
  have hu := hr.units
  exact body_okP (k := 2) (W := fun cls d _ H' => X cls d H') (g := b_need) (PSs.nox (s_one (s_if (m_tnot (m_tst (m_var 1))) (s_one s_never) s_nil))) (by decide) (fun _ _ _ _ z => z) h
theorem ok_need (E : Env K mg w) : Dn P w K mg base CX0 1 (He.ga K "need") [] (spF K F_need) :=
  dn_of (ps := ["word", "is_fit"]) E.f_need (fun fd F => fn_need E F) (fun _ _ _ _ _ _ us hl => match us, hl with | [_, _], _ => rfl)
end
def b_is_many : Sv := (sRet (mOr (mOp oIsN (mVar 0) (mC .non)) (mCall F_is_length [] (mCons (mVar 0) mNil))))
def F_is_many : Fn := runP 1 1 b_is_many
section
variable {P : Program} {w : World} {K : PySem.W.Frag} {mg : Str → Option Value} {base : Heap}
theorem sc_is_many : FnScope ["value"] ["value"] (defScope s_is_many) := ⟨rfl, rfl, rfl, by decide +kernel, rfl, by decide +kernel, by decide +kernel⟩
theorem fn_is_many (E : Env K mg w) {fd : FuncData} {dvs : List V} (F : FunD K "is_many" "is_many" (defArgs s_is_many) (defBody s_is_many) (defScope s_is_many) dvs [] (He.ga K "is_many") fd) : FnOk P w K mg base CX0 3 (He.ga K "is_many") fd ["value"] (spF K F_is_many) := by
  refine F.ok sc_is_many (fun vs H Q E h => spF_len takes_P h) (fun cdv A outer s H vs Q X hr h => ?_)
  have hu := hr.units
  exact body_okP (k := 1) (W := fun cls d _ H' => X cls d H') (g := b_is_many) (PSs.nox (s_one (s_ret (m_or (m_cmp op_isN oIsN_ok (m_var 0) m_non (nomark _)) (m_one (m_call (ok_is_length (K := K) E) (hr.mono (by decide)) E.g_is_length pA0 (fun _ _ => .nil) (m_cons (m_var 0) m_nil))))))) (by decide) (fun _ _ _ _ z => z) h
theorem ok_is_many (E : Env K mg w) : Dn P w K mg base CX0 3 (He.ga K "is_many") [] (spF K F_is_many) :=
  dn_of (ps := ["value"]) E.f_is_many (fun fd F => fn_is_many E F) (fun _ _ _ _ _ _ us hl => match us, hl with | [_], _ => rfl)
end
def b_many_text : Sv := (sRet (mIf (mTst (mOp oIsN (mVar 0) (mC .non))) (mC (.str "any")) (mB bStr (mCons (mVar 0) mNil))))
def F_many_text : Fn := runP 1 1 b_many_text
section
variable {P : Program} {w : World} {K : PySem.W.Frag} {mg : Str → Option Value} {base : Heap}
theorem sc_many_text : FnScope ["times"] ["times"] (defScope s_many_text) := ⟨rfl, rfl, rfl, by decide +kernel, rfl, by decide +kernel, by decide +kernel⟩
theorem fn_many_text (E : Env K mg w) {fd : FuncData} {dvs : List V} (F : FunD K "many_text" "many_text" (defArgs s_many_text) (defBody s_many_text) (defScope s_many_text) dvs [] (He.ga K "many_text") fd) : FnOk P w K mg base CX0 1 (He.ga K "many_text") fd ["times"] (spF K F_many_text) := by
  refine F.ok sc_many_text (fun vs H Q E h => spF_len takes_P h) (fun cdv A outer s H vs Q X hr h => ?_)
  have hu := hr.units
  exact body_okP (k := 1) (W := fun cls d _ H' => X cls d H') (g := b_many_text) (PSs.nox (s_one (s_ret (m_ifE (m_tcmp op_isN oIsN_ok (m_var 0) m_non (nomark _)) m_str (m_callTy q_str bStr_ok E.g_str bt_str (m_cons (m_var 0) m_nil)))))) (by decide) (fun _ _ _ _ z => z) h
theorem ok_many_text (E : Env K mg w) : Dn P w K mg base CX0 1 (He.ga K "many_text") [] (spF K F_many_text) :=
  dn_of (ps := ["times"]) E.f_many_text (fun fd F => fn_many_text E F) (fun _ _ _ _ _ _ us hl => match us, hl with | [_], _ => rfl)
end
def b_Still___init__ : Sv := (sSeq (sExpr (mCall F_need [] (mCons (mC (.str "name")) (mCons (mCall F_is_name [] (mCons (mVar 1) mNil)) mNil))))
    (sSeq (sExpr (mCall F_need [] (mCons (mC (.str "days")) (mCons (mCall F_is_length [] (mCons (mVar 2) mNil)) mNil))))
    (sSeq (sExpr (mCall F_need [] (mCons (mC (.str "times")) (mCons (mCall F_is_many [] (mCons (mVar 3) mNil)) mNil))))
    (sSeq (sFldC ["Still", "Anew", "Lift"] "name" (mVar 0) (mVar 1))
    (sSeq (sFldC ["Still"] "days" (mVar 0) (mVar 2))
    (sFldC ["Still", "Anew", "Lift"] "times" (mVar 0) (mVar 3)))))))
def F_Still___init__ : Fn := runO 4 4 b_Still___init__
section
variable {P : Program} {w : World} {K : PySem.W.Frag} {mg : Str → Option Value} {base : Heap}
theorem sc_Still___init__ : FnScope ["self", "name", "days", "times"] ["self", "name", "days", "times"] (defScope s_Still___init__) := ⟨rfl, rfl, rfl, by decide +kernel, rfl, by decide +kernel, by decide +kernel⟩
theorem fn_Still___init__ (E : Env K mg w) {fd : FuncData} {dvs : List V} (F : FunD K "__init__" "Still.__init__" (defArgs s_Still___init__) (defBody s_Still___init__) (defScope s_Still___init__) dvs [] (He.ma K (He.ga K "Still") "__init__") fd) : FnOk P w K mg base CX0 4 (He.ma K (He.ga K "Still") "__init__") fd ["self", "name", "days", "times"] (spF K F_Still___init__) := by
  refine F.ok sc_Still___init__ (fun vs H Q E h => spF_len takes_O h) (fun cdv A outer s H vs Q X hr h => ?_)
  have hu := hr.units
  exact body_okO (k := 4) (W := fun cls d _ H' => X cls d H') (g := b_Still___init__) (PSs.nox (s_cons (s_expr (m_call (ok_need (K := K) E) (hr.mono (by decide)) E.g_need pA0 (fun _ _ => .nil) (m_cons m_str (m_cons (m_call (ok_is_name (K := K) E) (hr.mono (by decide)) E.g_is_name pA0 (fun _ _ => .nil) (m_cons (m_var 1) m_nil)) m_nil))))
      (s_cons (s_expr (m_call (ok_need (K := K) E) (hr.mono (by decide)) E.g_need pA0 (fun _ _ => .nil) (m_cons m_str (m_cons (m_call (ok_is_length (K := K) E) (hr.mono (by decide)) E.g_is_length pA0 (fun _ _ => .nil) (m_cons (m_var 2) m_nil)) m_nil))))
      (s_cons (s_expr (m_call (ok_need (K := K) E) (hr.mono (by decide)) E.g_need pA0 (fun _ _ => .nil) (m_cons m_str (m_cons (m_call (ok_is_many (K := K) E) (hr.mono (by decide)) E.g_is_many pA0 (fun _ _ => .nil) (m_cons (m_var 3) m_nil)) m_nil))))
      (s_cons (s_fld (fc_name E) (m_var 0) (m_var 1))
      (s_cons (s_fld (fc_days E) (m_var 0) (m_var 2))
      (s_one (s_fld (fc_times E) (m_var 0) (m_var 3))))))))) (by decide) (fun _ _ _ _ z => z) h
theorem ok_Still___init___0 (E : Env K mg w) : Dn P w K mg base CX0 4 (He.ma K (He.ga K "Still") "__init__") [.non] (spF K F_Still___init__) :=
  dn_dfl (ps := ["self", "name", "days", "times"]) 3 0 E.f_Still___init__ (by simp) rfl (fun fd F => fn_Still___init__ E F) (fun _ _ _ _ _ _ _ us its h1 h2 => match us, its, h1, h2 with | [_, _, _], [_], _, _ => ⟨_, rfl, rfl⟩)
def dt_Still___init___0 : List T := [.non]
theorem dr_Still___init___0 (E : Env K mg w) (A : ASet) (H : Hp) : Reps K A H [.non] dt_Still___init___0 := (.cons .non .nil)
theorem ok_Still___init__ (E : Env K mg w) : Dn P w K mg base CX0 4 (He.ma K (He.ga K "Still") "__init__") [] (spF K F_Still___init__) :=
  dn_dfl (ps := ["self", "name", "days", "times"]) 4 1 E.f_Still___init__ (by simp) rfl (fun fd F => fn_Still___init__ E F) (fun _ _ _ _ _ _ _ us its h1 h2 => match us, its, h1, h2 with | [_, _, _, _], [_], _, _ => ⟨_, rfl, rfl⟩)
end
def b_Anew___init__ : Sv := (sSeq (sExpr (mCall F_need [] (mCons (mC (.str "name")) (mCons (mCall F_is_name [] (mCons (mVar 1) mNil)) mNil))))
    (sSeq (sExpr (mCall F_need [] (mCons (mC (.str "left")) (mCons (mCall F_is_length [] (mCons (mVar 2) mNil)) mNil))))
    (sSeq (sExpr (mCall F_need [] (mCons (mC (.str "times")) (mCons (mCall F_is_many [] (mCons (mVar 3) mNil)) mNil))))
    (sSeq (sFldC ["Still", "Anew", "Lift"] "name" (mVar 0) (mVar 1))
    (sSeq (sFldC ["Anew"] "left" (mVar 0) (mVar 2))
    (sFldC ["Still", "Anew", "Lift"] "times" (mVar 0) (mVar 3)))))))
def F_Anew___init__ : Fn := runO 4 4 b_Anew___init__
section
variable {P : Program} {w : World} {K : PySem.W.Frag} {mg : Str → Option Value} {base : Heap}
theorem sc_Anew___init__ : FnScope ["self", "name", "left", "times"] ["self", "name", "left", "times"] (defScope s_Anew___init__) := ⟨rfl, rfl, rfl, by decide +kernel, rfl, by decide +kernel, by decide +kernel⟩
theorem fn_Anew___init__ (E : Env K mg w) {fd : FuncData} {dvs : List V} (F : FunD K "__init__" "Anew.__init__" (defArgs s_Anew___init__) (defBody s_Anew___init__) (defScope s_Anew___init__) dvs [] (He.ma K (He.ga K "Anew") "__init__") fd) : FnOk P w K mg base CX0 4 (He.ma K (He.ga K "Anew") "__init__") fd ["self", "name", "left", "times"] (spF K F_Anew___init__) := by
  refine F.ok sc_Anew___init__ (fun vs H Q E h => spF_len takes_O h) (fun cdv A outer s H vs Q X hr h => ?_)
  have hu := hr.units
  exact body_okO (k := 4) (W := fun cls d _ H' => X cls d H') (g := b_Anew___init__) (PSs.nox (s_cons (s_expr (m_call (ok_need (K := K) E) (hr.mono (by decide)) E.g_need pA0 (fun _ _ => .nil) (m_cons m_str (m_cons (m_call (ok_is_name (K := K) E) (hr.mono (by decide)) E.g_is_name pA0 (fun _ _ => .nil) (m_cons (m_var 1) m_nil)) m_nil))))
      (s_cons (s_expr (m_call (ok_need (K := K) E) (hr.mono (by decide)) E.g_need pA0 (fun _ _ => .nil) (m_cons m_str (m_cons (m_call (ok_is_length (K := K) E) (hr.mono (by decide)) E.g_is_length pA0 (fun _ _ => .nil) (m_cons (m_var 2) m_nil)) m_nil))))
      (s_cons (s_expr (m_call (ok_need (K := K) E) (hr.mono (by decide)) E.g_need pA0 (fun _ _ => .nil) (m_cons m_str (m_cons (m_call (ok_is_many (K := K) E) (hr.mono (by decide)) E.g_is_many pA0 (fun _ _ => .nil) (m_cons (m_var 3) m_nil)) m_nil))))
      (s_cons (s_fld (fc_name E) (m_var 0) (m_var 1))
      (s_cons (s_fld (fc_left E) (m_var 0) (m_var 2))
      (s_one (s_fld (fc_times E) (m_var 0) (m_var 3))))))))) (by decide) (fun _ _ _ _ z => z) h
theorem ok_Anew___init___0 (E : Env K mg w) : Dn P w K mg base CX0 4 (He.ma K (He.ga K "Anew") "__init__") [.non] (spF K F_Anew___init__) :=
  dn_dfl (ps := ["self", "name", "left", "times"]) 3 0 E.f_Anew___init__ (by simp) rfl (fun fd F => fn_Anew___init__ E F) (fun _ _ _ _ _ _ _ us its h1 h2 => match us, its, h1, h2 with | [_, _, _], [_], _, _ => ⟨_, rfl, rfl⟩)
def dt_Anew___init___0 : List T := [.non]
theorem dr_Anew___init___0 (E : Env K mg w) (A : ASet) (H : Hp) : Reps K A H [.non] dt_Anew___init___0 := (.cons .non .nil)
theorem ok_Anew___init__ (E : Env K mg w) : Dn P w K mg base CX0 4 (He.ma K (He.ga K "Anew") "__init__") [] (spF K F_Anew___init__) :=
  dn_dfl (ps := ["self", "name", "left", "times"]) 4 1 E.f_Anew___init__ (by simp) rfl (fun fd F => fn_Anew___init__ E F) (fun _ _ _ _ _ _ _ us its h1 h2 => match us, its, h1, h2 with | [_, _, _, _], [_], _, _ => ⟨_, rfl, rfl⟩)
end
def b_Lift___init__ : Sv := (sSeq (sExpr (mCall F_need [] (mCons (mC (.str "name")) (mCons (mCall F_is_name [] (mCons (mVar 1) mNil)) mNil))))
    (sSeq (sExpr (mCall F_need [] (mCons (mC (.str "by")) (mCons (mCall F_is_length [] (mCons (mVar 2) mNil)) mNil))))
    (sSeq (sExpr (mCall F_need [] (mCons (mC (.str "top")) (mCons (mCall F_is_length [] (mCons (mVar 3) mNil)) mNil))))
    (sSeq (sExpr (mCall F_need [] (mCons (mC (.str "times")) (mCons (mCall F_is_many [] (mCons (mVar 4) mNil)) mNil))))
    (sSeq (sFldC ["Still", "Anew", "Lift"] "name" (mVar 0) (mVar 1))
    (sSeq (sFldC ["Lift"] "by" (mVar 0) (mVar 2))
    (sSeq (sFldC ["Lift"] "top" (mVar 0) (mVar 3))
    (sFldC ["Still", "Anew", "Lift"] "times" (mVar 0) (mVar 4)))))))))
def F_Lift___init__ : Fn := runO 5 5 b_Lift___init__
section
variable {P : Program} {w : World} {K : PySem.W.Frag} {mg : Str → Option Value} {base : Heap}
theorem sc_Lift___init__ : FnScope ["self", "name", "by", "top", "times"] ["self", "name", "by", "top", "times"] (defScope s_Lift___init__) := ⟨rfl, rfl, rfl, by decide +kernel, rfl, by decide +kernel, by decide +kernel⟩
theorem fn_Lift___init__ (E : Env K mg w) {fd : FuncData} {dvs : List V} (F : FunD K "__init__" "Lift.__init__" (defArgs s_Lift___init__) (defBody s_Lift___init__) (defScope s_Lift___init__) dvs [] (He.ma K (He.ga K "Lift") "__init__") fd) : FnOk P w K mg base CX0 4 (He.ma K (He.ga K "Lift") "__init__") fd ["self", "name", "by", "top", "times"] (spF K F_Lift___init__) := by
  refine F.ok sc_Lift___init__ (fun vs H Q E h => spF_len takes_O h) (fun cdv A outer s H vs Q X hr h => ?_)
  have hu := hr.units
  exact body_okO (k := 5) (W := fun cls d _ H' => X cls d H') (g := b_Lift___init__) (PSs.nox (s_cons (s_expr (m_call (ok_need (K := K) E) (hr.mono (by decide)) E.g_need pA0 (fun _ _ => .nil) (m_cons m_str (m_cons (m_call (ok_is_name (K := K) E) (hr.mono (by decide)) E.g_is_name pA0 (fun _ _ => .nil) (m_cons (m_var 1) m_nil)) m_nil))))
      (s_cons (s_expr (m_call (ok_need (K := K) E) (hr.mono (by decide)) E.g_need pA0 (fun _ _ => .nil) (m_cons m_str (m_cons (m_call (ok_is_length (K := K) E) (hr.mono (by decide)) E.g_is_length pA0 (fun _ _ => .nil) (m_cons (m_var 2) m_nil)) m_nil))))
      (s_cons (s_expr (m_call (ok_need (K := K) E) (hr.mono (by decide)) E.g_need pA0 (fun _ _ => .nil) (m_cons m_str (m_cons (m_call (ok_is_length (K := K) E) (hr.mono (by decide)) E.g_is_length pA0 (fun _ _ => .nil) (m_cons (m_var 3) m_nil)) m_nil))))
      (s_cons (s_expr (m_call (ok_need (K := K) E) (hr.mono (by decide)) E.g_need pA0 (fun _ _ => .nil) (m_cons m_str (m_cons (m_call (ok_is_many (K := K) E) (hr.mono (by decide)) E.g_is_many pA0 (fun _ _ => .nil) (m_cons (m_var 4) m_nil)) m_nil))))
      (s_cons (s_fld (fc_name E) (m_var 0) (m_var 1))
      (s_cons (s_fld (fc_by E) (m_var 0) (m_var 2))
      (s_cons (s_fld (fc_top E) (m_var 0) (m_var 3))
      (s_one (s_fld (fc_times E) (m_var 0) (m_var 4))))))))))) (by decide) (fun _ _ _ _ z => z) h
theorem ok_Lift___init___0 (E : Env K mg w) : Dn P w K mg base CX0 4 (He.ma K (He.ga K "Lift") "__init__") [.non] (spF K F_Lift___init__) :=
  dn_dfl (ps := ["self", "name", "by", "top", "times"]) 4 0 E.f_Lift___init__ (by simp) rfl (fun fd F => fn_Lift___init__ E F) (fun _ _ _ _ _ _ _ us its h1 h2 => match us, its, h1, h2 with | [_, _, _, _], [_], _, _ => ⟨_, rfl, rfl⟩)
def dt_Lift___init___0 : List T := [.non]
theorem dr_Lift___init___0 (E : Env K mg w) (A : ASet) (H : Hp) : Reps K A H [.non] dt_Lift___init___0 := (.cons .non .nil)
theorem ok_Lift___init__ (E : Env K mg w) : Dn P w K mg base CX0 4 (He.ma K (He.ga K "Lift") "__init__") [] (spF K F_Lift___init__) :=
  dn_dfl (ps := ["self", "name", "by", "top", "times"]) 5 1 E.f_Lift___init__ (by simp) rfl (fun fd F => fn_Lift___init__ E F) (fun _ _ _ _ _ _ _ us its h1 h2 => match us, its, h1, h2 with | [_, _, _, _, _], [_], _, _ => ⟨_, rfl, rfl⟩)
end
def b_Still___str__ : Sv := (sRet (mJs [(mC (.str "still ")), (mUn uFmt (mFld ["Still", "Anew", "Lift"] "name" (mVar 0))), (mC (.str " ")), (mUn uFmt (mFld ["Still"] "days" (mVar 0))), (mC (.str " ")), (mUn uFmt (mCall F_many_text [] (mCons (mFld ["Still", "Anew", "Lift"] "times" (mVar 0)) mNil)))] Str.empty))
def F_Still___str__ : Fn := runP 1 1 b_Still___str__
section
variable {P : Program} {w : World} {K : PySem.W.Frag} {mg : Str → Option Value} {base : Heap}
theorem sc_Still___str__ : FnScope ["self"] ["self"] (defScope s_Still___str__) := ⟨rfl, rfl, rfl, by decide +kernel, rfl, by decide +kernel, by decide +kernel⟩
theorem fn_Still___str__ (E : Env K mg w) {fd : FuncData} {dvs : List V} (F : FunD K "__str__" "Still.__str__" (defArgs s_Still___str__) (defBody s_Still___str__) (defScope s_Still___str__) dvs [] (He.ma K (He.ga K "Still") "__str__") fd) : FnOk P w K mg base CX0 2 (He.ma K (He.ga K "Still") "__str__") fd ["self"] (spF K F_Still___str__) := by
  refine F.ok sc_Still___str__ (fun vs H Q E h => spF_len takes_P h) (fun cdv A outer s H vs Q X hr h => ?_)
  have hu := hr.units
  exact body_okP (k := 1) (W := fun cls d _ H' => X cls d H') (g := b_Still___str__) (PSs.nox (s_one (s_ret (m_joined (MJ.cons m_str (MJ.cons (m_fmt (m_fld (fc_name E) (m_var 0))) (MJ.cons m_str (MJ.cons (m_fmt (m_fld (fc_days E) (m_var 0))) (MJ.cons m_str (MJ.cons (m_fmt (m_call (ok_many_text (K := K) E) (hr.mono (by decide)) E.g_many_text pA0 (fun _ _ => .nil) (m_cons (m_fld (fc_times E) (m_var 0)) m_nil))) MJ.nil)))))))))) (by decide) (fun _ _ _ _ z => z) h
theorem ok_Still___str__ (E : Env K mg w) : Dn P w K mg base CX0 2 (He.ma K (He.ga K "Still") "__str__") [] (spF K F_Still___str__) :=
  dn_of (ps := ["self"]) E.f_Still___str__ (fun fd F => fn_Still___str__ E F) (fun _ _ _ _ _ _ us hl => match us, hl with | [_], _ => rfl)
end
def b_Anew___str__ : Sv := (sRet (mJs [(mC (.str "anew ")), (mUn uFmt (mFld ["Still", "Anew", "Lift"] "name" (mVar 0))), (mC (.str " ")), (mUn uFmt (mFld ["Anew"] "left" (mVar 0))), (mC (.str " ")), (mUn uFmt (mCall F_many_text [] (mCons (mFld ["Still", "Anew", "Lift"] "times" (mVar 0)) mNil)))] Str.empty))
def F_Anew___str__ : Fn := runP 1 1 b_Anew___str__
section
variable {P : Program} {w : World} {K : PySem.W.Frag} {mg : Str → Option Value} {base : Heap}
theorem sc_Anew___str__ : FnScope ["self"] ["self"] (defScope s_Anew___str__) := ⟨rfl, rfl, rfl, by decide +kernel, rfl, by decide +kernel, by decide +kernel⟩
theorem fn_Anew___str__ (E : Env K mg w) {fd : FuncData} {dvs : List V} (F : FunD K "__str__" "Anew.__str__" (defArgs s_Anew___str__) (defBody s_Anew___str__) (defScope s_Anew___str__) dvs [] (He.ma K (He.ga K "Anew") "__str__") fd) : FnOk P w K mg base CX0 2 (He.ma K (He.ga K "Anew") "__str__") fd ["self"] (spF K F_Anew___str__) := by
  refine F.ok sc_Anew___str__ (fun vs H Q E h => spF_len takes_P h) (fun cdv A outer s H vs Q X hr h => ?_)
  have hu := hr.units
  exact body_okP (k := 1) (W := fun cls d _ H' => X cls d H') (g := b_Anew___str__) (PSs.nox (s_one (s_ret (m_joined (MJ.cons m_str (MJ.cons (m_fmt (m_fld (fc_name E) (m_var 0))) (MJ.cons m_str (MJ.cons (m_fmt (m_fld (fc_left E) (m_var 0))) (MJ.cons m_str (MJ.cons (m_fmt (m_call (ok_many_text (K := K) E) (hr.mono (by decide)) E.g_many_text pA0 (fun _ _ => .nil) (m_cons (m_fld (fc_times E) (m_var 0)) m_nil))) MJ.nil)))))))))) (by decide) (fun _ _ _ _ z => z) h
theorem ok_Anew___str__ (E : Env K mg w) : Dn P w K mg base CX0 2 (He.ma K (He.ga K "Anew") "__str__") [] (spF K F_Anew___str__) :=
  dn_of (ps := ["self"]) E.f_Anew___str__ (fun fd F => fn_Anew___str__ E F) (fun _ _ _ _ _ _ us hl => match us, hl with | [_], _ => rfl)
end
def b_Lift___str__ : Sv := (sRet (mJs [(mC (.str "lift ")), (mUn uFmt (mFld ["Still", "Anew", "Lift"] "name" (mVar 0))), (mC (.str " ")), (mUn uFmt (mFld ["Lift"] "by" (mVar 0))), (mC (.str " ")), (mUn uFmt (mFld ["Lift"] "top" (mVar 0))), (mC (.str " ")), (mUn uFmt (mCall F_many_text [] (mCons (mFld ["Still", "Anew", "Lift"] "times" (mVar 0)) mNil)))] Str.empty))
def F_Lift___str__ : Fn := runP 1 1 b_Lift___str__
section
variable {P : Program} {w : World} {K : PySem.W.Frag} {mg : Str → Option Value} {base : Heap}
theorem sc_Lift___str__ : FnScope ["self"] ["self"] (defScope s_Lift___str__) := ⟨rfl, rfl, rfl, by decide +kernel, rfl, by decide +kernel, by decide +kernel⟩
theorem fn_Lift___str__ (E : Env K mg w) {fd : FuncData} {dvs : List V} (F : FunD K "__str__" "Lift.__str__" (defArgs s_Lift___str__) (defBody s_Lift___str__) (defScope s_Lift___str__) dvs [] (He.ma K (He.ga K "Lift") "__str__") fd) : FnOk P w K mg base CX0 2 (He.ma K (He.ga K "Lift") "__str__") fd ["self"] (spF K F_Lift___str__) := by
  refine F.ok sc_Lift___str__ (fun vs H Q E h => spF_len takes_P h) (fun cdv A outer s H vs Q X hr h => ?_)
  have hu := hr.units
  exact body_okP (k := 1) (W := fun cls d _ H' => X cls d H') (g := b_Lift___str__) (PSs.nox (s_one (s_ret (m_joined (MJ.cons m_str (MJ.cons (m_fmt (m_fld (fc_name E) (m_var 0))) (MJ.cons m_str (MJ.cons (m_fmt (m_fld (fc_by E) (m_var 0))) (MJ.cons m_str (MJ.cons (m_fmt (m_fld (fc_top E) (m_var 0))) (MJ.cons m_str (MJ.cons (m_fmt (m_call (ok_many_text (K := K) E) (hr.mono (by decide)) E.g_many_text pA0 (fun _ _ => .nil) (m_cons (m_fld (fc_times E) (m_var 0)) m_nil))) MJ.nil)))))))))))) (by decide) (fun _ _ _ _ z => z) h
theorem ok_Lift___str__ (E : Env K mg w) : Dn P w K mg base CX0 2 (He.ma K (He.ga K "Lift") "__str__") [] (spF K F_Lift___str__) :=
  dn_of (ps := ["self"]) E.f_Lift___str__ (fun fd F => fn_Lift___str__ E F) (fun _ _ _ _ _ _ us hl => match us, hl with | [_], _ => rfl)
end
end Tm

namespace Tm
open PySem PySem.Spec PyProof.Rows L2
def tbKS : List (Str × Fn) := [("Still", F_Still___str__), ("Anew", F_Anew___str__), ("Lift", F_Lift___str__)]
theorem tbKS_ok {K : PySem.W.Frag} {X : Cx} (E : Env K X.mg X.w) (hr : Room 4 X.A) (hK : X.K = K := by rfl) : ∀ q ∈ tbKS, SpcOk X K "__str__" 2 q := by
  subst hK
  intro q hq
  simp only [tbKS, List.mem_cons, List.not_mem_nil, or_false] at hq
  rcases hq with rfl | rfl | rfl
  · exact ⟨_, _, spm_of E.m_Still___str__, ok_Still___str__ E, hr.mono (by decide)⟩
  · exact ⟨_, _, spm_of E.m_Anew___str__, ok_Anew___str__ E, hr.mono (by decide)⟩
  · exact ⟨_, _, spm_of E.m_Lift___str__, ok_Lift___str__ E, hr.mono (by decide)⟩
def b_told_by : Sv := (sSeq (sAsg (mTxt oSplit (mVar 0) (mC (.str " "))) (gNm 1))
    (sSeq (sIf (mOrT (mTst (mUn (uInKd TB_FORMS true) (mIxA (mVar 1) (mC (.int 0))))) (mOrT (mTst (mOp oNe (mB bLenA (mCons (mVar 1) mNil)) (mUn (uIxKd TB_FORMS) (mIxA (mVar 1) (mC (.int 0)))))) (mNotT (mTst (mCall F_is_name [] (mCons (mIxA (mVar 1) (mC (.int 1))) mNil)))))) (sRet (mC .non)) sNext)
    (sSeq (sAsg (mLc [4] (mSeqOf (mSl (mVar 1) (mPart (mC (.int 2))) (mPart (mUn uNeg (mC (.int 1)))))) (gNm 4) mYes (mCall F_number_in [] (mCons (mVar 4) mNil))) (gNm 2))
    (sSeq (sAsg (mIf (mTst (mOp oEq (mIxA (mVar 1) (mUn uNeg (mC (.int 1)))) (mC (.str "any")))) (mC .non) (mCall F_number_in [] (mCons (mIxA (mVar 1) (mUn uNeg (mC (.int 1)))) mNil))) (gNm 3))
    (sSeq (sIf (mOrT (mTst (mInA false oIn (mC .non) (mVar 2))) (mAndT (mTst (mOp oIsN (mVar 3) (mC .non))) (mTst (mOp oNe (mIxA (mVar 1) (mUn uNeg (mC (.int 1)))) (mC (.str "any")))))) (sRet (mC .non)) sNext)
    (sRet (mTup (mCons (mIxA (mVar 1) (mC (.int 0))) (mCons (mIxA (mVar 1) (mC (.int 1))) (mStar (mVar 2) (mCons (mVar 3) mNil)))))))))))
def F_told_by : Fn := runP 1 5 b_told_by
section
variable {P : Program} {w : World} {K : PySem.W.Frag} {mg : Str → Option Value} {base : Heap}
theorem sc_told_by : FnScope ["text", "words", "numbers", "times", "word"] ["text"] (defScope s_told_by) := ⟨rfl, rfl, rfl, by decide +kernel, rfl, by decide +kernel, by decide +kernel⟩
theorem fn_told_by (E : Env K mg w) {fd : FuncData} {dvs : List V} (F : FunD K "told_by" "told_by" (defArgs s_told_by) (defBody s_told_by) (defScope s_told_by) dvs [] (He.ga K "told_by") fd) : FnOk P w K mg base CX0 2 (He.ga K "told_by") fd ["text"] (spF K F_told_by) := by
  refine F.ok sc_told_by (fun vs H Q E h => spF_len takes_P h) (fun cdv A outer s H vs Q X hr h => ?_)
  have hu := hr.units
  exact body_okP (k := 1) (W := fun cls d _ H' => X cls d H') (g := b_told_by) (PSs.nox (s_cons (s_set 1 sc_told_by.nd (m_split (m_var 0) m_str))
      (s_cons (s_if (PW.pt (m_por (m_tnotInKd (kd_FORMS E) E.g_FORMS (m_ixA (hu1 hu) (m_var 1) m_int (fun _ _ => rfl))) (m_por (m_tcmp (q_ne hu) oNe_ok (m_callB (q_lenA (K := K)) bLenA_ok E.g_len bt_len (m_cons (m_var 1) m_nil)) (m_ixKd (kd_FORMS E) E.g_FORMS (m_ixA (hu1 hu) (m_var 1) m_int (fun _ _ => rfl)) (fun _ _ => rfl)) (nomark _)) (m_por1 (m_tnot (m_tst (m_call (ok_is_name (K := K) E) (hr.mono (by decide)) E.g_is_name pA0 (fun _ _ => .nil) (m_cons (m_ixA (hu1 hu) (m_var 1) m_int (fun _ _ => rfl)) m_nil)))))))) (s_one (s_ret m_non)) s_nil)
      (s_cons (s_setLc 2 (own := [("word", 4)]) (by rfl) sc_told_by.nd (sw_true rfl rfl rfl (by decide +kernel)) (i_seq (m_sl (m_var 1) (o_some m_int) (o_some (m_un un_neg uNeg_ok m_int)))) (blkOk_by (own := [("word", 4)]) (N := ["text", "words", "numbers", "times", "word"]) (sc := defScope s_told_by) (by decide +kernel)) (fun _ _ _ _ _ => (g_name 4 sc_told_by.nd)) (fun _ _ _ _ _ => ts_nil) (fun _ _ _ _ _ => (m_call (ok_number_in (K := K) E) (hr.mono (by decide)) E.g_number_in pA0 (fun _ _ => .nil) (m_cons (m_var 4) m_nil))))
      (s_cons (s_set 3 sc_told_by.nd (m_ifE (m_tcmp (q_eq hu) oEq_ok (m_ixA (hu1 hu) (m_var 1) (m_un un_neg uNeg_ok m_int) (fun _ _ => rfl)) m_str (nomark _)) m_non (m_call (ok_number_in (K := K) E) (hr.mono (by decide)) E.g_number_in pA0 (fun _ _ => .nil) (m_cons (m_ixA (hu1 hu) (m_var 1) (m_un un_neg uNeg_ok m_int) (fun _ _ => rfl)) m_nil))))
      (s_cons (s_if (PW.pt (m_por (m_tinA (hu1 hu) q_in oIn_ok m_non (m_var 2)) (m_por1 (PW.pt (m_pand (m_tcmp op_isN oIsN_ok (m_var 3) m_non (nomark _)) (m_pand1 (m_tcmp (q_ne hu) oNe_ok (m_ixA (hu1 hu) (m_var 1) (m_un un_neg uNeg_ok m_int) (fun _ _ => rfl)) m_str (nomark _)))))))) (s_one (s_ret m_non)) s_nil)
      (s_one (s_ret (m_tup (m_cons (m_ixA (hu1 hu) (m_var 1) m_int (fun _ _ => rfl)) (m_cons (m_ixA (hu1 hu) (m_var 1) m_int (fun _ _ => rfl)) (m_star (m_var 2) (m_cons (m_var 3) m_nil))))))))))))) (by decide) (fun _ _ _ _ z => z) h
theorem ok_told_by (E : Env K mg w) : Dn P w K mg base CX0 2 (He.ga K "told_by") [] (spF K F_told_by) :=
  dn_of (ps := ["text"]) E.f_told_by (fun fd F => fn_told_by E F) (fun _ _ _ _ _ _ us hl => match us, hl with | [_], _ => rfl)
end
def b_made_of : Sv := (sSeq (sIf (mTst (mOp oEq (mIxA (mVar 0) (mC (.int 0))) (mC (.str "still")))) (sRet (mMk "Still" F_Still___init__ [] (mCons (mIxA (mVar 0) (mC (.int 1))) (mCons (mIxA (mVar 0) (mC (.int 2))) (mCons (mIxA (mVar 0) (mC (.int 3))) mNil))))) sNext)
    (sSeq (sIf (mTst (mOp oEq (mIxA (mVar 0) (mC (.int 0))) (mC (.str "anew")))) (sRet (mMk "Anew" F_Anew___init__ [] (mCons (mIxA (mVar 0) (mC (.int 1))) (mCons (mIxA (mVar 0) (mC (.int 2))) (mCons (mIxA (mVar 0) (mC (.int 3))) mNil))))) sNext)
    (sRet (mMk "Lift" F_Lift___init__ [] (mCons (mIxA (mVar 0) (mC (.int 1))) (mCons (mIxA (mVar 0) (mC (.int 2))) (mCons (mIxA (mVar 0) (mC (.int 3))) (mCons (mIxA (mVar 0) (mC (.int 4))) mNil))))))))
def F_made_of : Fn := runP 1 1 b_made_of
section
variable {P : Program} {w : World} {K : PySem.W.Frag} {mg : Str → Option Value} {base : Heap}
theorem sc_made_of : FnScope ["told"] ["told"] (defScope s_made_of) := ⟨rfl, rfl, rfl, by decide +kernel, rfl, by decide +kernel, by decide +kernel⟩
theorem fn_made_of (E : Env K mg w) {fd : FuncData} {dvs : List V} (F : FunD K "made_of" "made_of" (defArgs s_made_of) (defBody s_made_of) (defScope s_made_of) dvs [] (He.ga K "made_of") fd) : FnOk P w K mg base CX0 6 (He.ga K "made_of") fd ["told"] (spF K F_made_of) := by
  refine F.ok sc_made_of (fun vs H Q E h => spF_len takes_P h) (fun cdv A outer s H vs Q X hr h => ?_)
  have hu := hr.units
  exact body_okP (k := 1) (W := fun cls d _ H' => X cls d H') (g := b_made_of) (PSs.nox (s_cons (s_if (m_tcmp (q_eq hu) oEq_ok (m_ixA (hu1 hu) (m_var 0) m_int (fun _ _ => rfl)) m_str (nomark _)) (s_one (s_ret (m_mk E.mk_Still (ok_Still___init__ (K := K) E) (hr.mono (by decide)) E.g_Still pA0 (fun _ _ => .nil) (m_cons (m_ixA (hu1 hu) (m_var 0) m_int (fun _ _ => rfl)) (m_cons (m_ixA (hu1 hu) (m_var 0) m_int (fun _ _ => rfl)) (m_cons (m_ixA (hu1 hu) (m_var 0) m_int (fun _ _ => rfl)) m_nil)))))) s_nil)
      (s_cons (s_if (m_tcmp (q_eq hu) oEq_ok (m_ixA (hu1 hu) (m_var 0) m_int (fun _ _ => rfl)) m_str (nomark _)) (s_one (s_ret (m_mk E.mk_Anew (ok_Anew___init__ (K := K) E) (hr.mono (by decide)) E.g_Anew pA0 (fun _ _ => .nil) (m_cons (m_ixA (hu1 hu) (m_var 0) m_int (fun _ _ => rfl)) (m_cons (m_ixA (hu1 hu) (m_var 0) m_int (fun _ _ => rfl)) (m_cons (m_ixA (hu1 hu) (m_var 0) m_int (fun _ _ => rfl)) m_nil)))))) s_nil)
      (s_one (s_ret (m_mk E.mk_Lift (ok_Lift___init__ (K := K) E) (hr.mono (by decide)) E.g_Lift pA0 (fun _ _ => .nil) (m_cons (m_ixA (hu1 hu) (m_var 0) m_int (fun _ _ => rfl)) (m_cons (m_ixA (hu1 hu) (m_var 0) m_int (fun _ _ => rfl)) (m_cons (m_ixA (hu1 hu) (m_var 0) m_int (fun _ _ => rfl)) (m_cons (m_ixA (hu1 hu) (m_var 0) m_int (fun _ _ => rfl)) m_nil)))))))))) (by decide) (fun _ _ _ _ z => z) h
theorem ok_made_of (E : Env K mg w) : Dn P w K mg base CX0 6 (He.ga K "made_of") [] (spF K F_made_of) :=
  dn_of (ps := ["told"]) E.f_made_of (fun fd F => fn_made_of E F) (fun _ _ _ _ _ _ us hl => match us, hl with | [_], _ => rfl)
end
def b_Kind_read : Sv := (sSeq (sAsg (mCall F_told_by [] (mCons (mVar 1) mNil)) (gNm 2))
    (sSeq (sIf (mTst (mOp oIsN (mVar 2) (mC .non))) (fun _ _ _ => .st) sNext)
    (sRet (mCall F_made_of [] (mCons (mVar 2) mNil)))))
def F_Kind_read : Fn := runP 2 4 b_Kind_read
section
variable {P : Program} {w : World} {K : PySem.W.Frag} {mg : Str → Option Value} {base : Heap}
theorem sc_Kind_read : FnScope ["cls", "text", "told", "error"] ["cls", "text"] (defScope s_Kind_read) := ⟨rfl, rfl, rfl, by decide +kernel, rfl, by decide +kernel, by decide +kernel⟩
theorem fn_Kind_read (E : Env K mg w) {fd : FuncData} {dvs : List V} (F : FunD K "read" "Kind.read" (defArgs s_Kind_read) (defBody s_Kind_read) (defScope s_Kind_read) dvs [] (He5.wf K (He.ga K "Kind") "classmethod" "read") fd) : FnOk P w K mg base CX0 7 (He5.wf K (He.ga K "Kind") "classmethod" "read") fd ["cls", "text"] (spF K F_Kind_read) := by
  refine F.ok sc_Kind_read (fun vs H Q E h => spF_len takes_P h) (fun cdv A outer s H vs Q X hr h => ?_)
  have hu := hr.units
  exact body_okP (k := 2) (W := fun cls d _ H' => X cls d H') (g := b_Kind_read) (PSs.nox (s_cons (s_set 2 sc_Kind_read.nd (m_call (ok_told_by (K := K) E) (hr.mono (by decide)) E.g_told_by pA0 (fun _ _ => .nil) (m_cons (m_var 1) m_nil)))
      (s_cons (s_if (m_tcmp op_isN oIsN_ok (m_var 2) m_non (nomark _)) (s_one s_never) s_nil)
      (s_one (s_try0 (s_one (s_ret (m_call (ok_made_of (K := K) E) (hr.mono (by decide)) E.g_made_of pA0 (fun _ _ => .nil) (m_cons (m_var 2) m_nil))))))))) (by decide) (fun _ _ _ _ z => z) h
theorem ok_Kind_read (E : Env K mg w) : Dn P w K mg base CX0 7 (He5.wf K (He.ga K "Kind") "classmethod" "read") [] (spF K F_Kind_read) :=
  dn_of (ps := ["cls", "text"]) E.f_Kind_read (fun fd F => fn_Kind_read E F) (fun _ _ _ _ _ _ us hl => match us, hl with | [_, _], _ => rfl)
end
def b_Kind___eq__ : Sv := (sRet (mAnd (mUn (fIsC tb_Kind) (mVar 1)) (mOp oEq (mB (bStrO tbKS) (mCons (mVar 0) mNil)) (mB (bStrO tbKS) (mCons (mVar 1) mNil)))))
def F_Kind___eq__ : Fn := runP 2 2 b_Kind___eq__
section
variable {P : Program} {w : World} {K : PySem.W.Frag} {mg : Str → Option Value} {base : Heap}
theorem sc_Kind___eq__ : FnScope ["self", "other"] ["self", "other"] (defScope s_Kind___eq__) := ⟨rfl, rfl, rfl, by decide +kernel, rfl, by decide +kernel, by decide +kernel⟩
theorem fn_Kind___eq__ (E : Env K mg w) {fd : FuncData} {dvs : List V} (F : FunD K "__eq__" "Kind.__eq__" (defArgs s_Kind___eq__) (defBody s_Kind___eq__) (defScope s_Kind___eq__) dvs [] (He.ma K (He.ga K "Kind") "__eq__") fd) : FnOk P w K mg base CX0 5 (He.ma K (He.ga K "Kind") "__eq__") fd ["self", "other"] (spF K F_Kind___eq__) := by
  refine F.ok sc_Kind___eq__ (fun vs H Q E h => spF_len takes_P h) (fun cdv A outer s H vs Q X hr h => ?_)
  have hu := hr.units
  exact body_okP (k := 2) (W := fun cls d _ H' => X cls d H') (g := b_Kind___eq__) (PSs.nox (s_one (s_ret (m_and (m_isC (is_Kind E) E.b_Kind E.g_isinstance E.g_Kind (m_var 1)) (m_one (m_cmp (q_eq hu) oEq_ok (m_callTy (q_strO (tbKS_ok E (hr.mono (by decide)))) bStrO_ok E.g_str bt_str (m_cons (m_var 0) m_nil)) (m_callTy (q_strO (tbKS_ok E (hr.mono (by decide)))) bStrO_ok E.g_str bt_str (m_cons (m_var 1) m_nil)) (nomark _))))))) (by decide) (fun _ _ _ _ z => z) h
theorem ok_Kind___eq__ (E : Env K mg w) : Dn P w K mg base CX0 5 (He.ma K (He.ga K "Kind") "__eq__") [] (spF K F_Kind___eq__) :=
  dn_of (ps := ["self", "other"]) E.f_Kind___eq__ (fun fd F => fn_Kind___eq__ E F) (fun _ _ _ _ _ _ us hl => match us, hl with | [_, _], _ => rfl)
end
end Tm

namespace Tm
open PySem PySem.Spec PyProof.Rows L2
def b_are_rests : Sv := (sSeq (sIf (mOrT (mNotT (mTst (mCall F_is_sequence [] (mCons (mVar 0) mNil)))) (mTst (mOp oGt (mB bLenA (mCons (mVar 0) mNil)) (mC (.int 6))))) (sRet (mC (.bl false))) sNext)
    (sSeq (sIf (mNotT (mTst (mB bAll (mCons (mLc [1] (mSeqOf (mVar 0)) (gNm 1) mYes (mAnd (mCall F_is_integer [] (mCons (mVar 1) mNil)) (mChain oLe oLt (mC (.int 0)) (mVar 1) (mC (.int 7))))) mNil)))) (sRet (mC (.bl false))) sNext)
    (sRet (mUn uNd (mVar 0)))))
def F_are_rests : Fn := runP 1 2 b_are_rests
section
variable {P : Program} {w : World} {K : PySem.W.Frag} {mg : Str → Option Value} {base : Heap}
theorem sc_are_rests : FnScope ["value", "one"] ["value"] (defScope s_are_rests) := ⟨rfl, rfl, rfl, by decide +kernel, rfl, by decide +kernel, by decide +kernel⟩
theorem fn_are_rests (E : Env K mg w) {fd : FuncData} {dvs : List V} (F : FunD K "are_rests" "are_rests" (defArgs s_are_rests) (defBody s_are_rests) (defScope s_are_rests) dvs [] (He.ga K "are_rests") fd) : FnOk P w K mg base CX0 2 (He.ga K "are_rests") fd ["value"] (spF K F_are_rests) := by
  refine F.ok sc_are_rests (fun vs H Q E h => spF_len takes_P h) (fun cdv A outer s H vs Q X hr h => ?_)
  have hu := hr.units
  exact body_okP (k := 1) (W := fun cls d _ H' => X cls d H') (g := b_are_rests) (PSs.nox (s_cons (s_if (PW.pt (m_por (m_tnot (m_tst (m_call (ok_is_sequence (K := K) E) (hr.mono (by decide)) E.g_is_sequence pA0 (fun _ _ => .nil) (m_cons (m_var 0) m_nil)))) (m_por1 (m_tcmp op_gt oIB_ok (m_callB (q_lenA (K := K)) bLenA_ok E.g_len bt_len (m_cons (m_var 0) m_nil)) (m_gi E.g_MOST_RESTS) (nomark _))))) (s_one (s_ret m_bl)) s_nil)
      (s_cons (s_if (m_tnot (m_tst (m_callB (k_all K) bAll_ok E.g_all bt_all (m_cons (m_lc (own := [("one", 1)]) (by rfl) sc_are_rests.nd (i_seq (m_var 0)) (blkOk_by (own := [("one", 1)]) (N := ["value", "one"]) (sc := defScope s_are_rests) (by decide +kernel)) (fun _ _ _ _ _ => (g_name 1 sc_are_rests.nd)) (fun _ _ _ _ _ => ts_nil) (fun _ _ _ _ _ => (m_and (m_call (ok_is_integer (K := K) E) (hr.mono (by decide)) E.g_is_integer pA0 (fun _ _ => .nil) (m_cons (m_var 1) m_nil)) (m_one (m_chain op_le op_lt oIB_ok oIB_ok m_int (m_var 1) (m_gi E.g_WEEK)))))) m_nil)))) (s_one (s_ret m_bl)) s_nil)
      (s_one (s_ret (m_setEq 0 E.g_len E.g_set)))))) (by decide) (fun _ _ _ _ z => z) h
theorem ok_are_rests (E : Env K mg w) : Dn P w K mg base CX0 2 (He.ga K "are_rests") [] (spF K F_are_rests) :=
  dn_of (ps := ["value"]) E.f_are_rests (fun fd F => fn_are_rests E F) (fun _ _ _ _ _ _ us hl => match us, hl with | [_], _ => rfl)
end
def b_are_kinds : Sv := (sSeq (sIf (mOrT (mNotT (mTst (mCall F_is_sequence [] (mCons (mVar 0) mNil)))) (mNotT (mTst (mB bAll (mCons (mLc [1] (mSeqOf (mVar 0)) (gNm 1) mYes (mUn (fIsC tb_Kind) (mVar 1))) mNil))))) (sRet (mC (.bl false))) sNext)
    (sRet (mOp oEq (mB bLenA (mCons (mDc [1] (mSeqOf (mVar 0)) (gNm 1) mYes (mFld ["Still", "Anew", "Lift"] "name" (mVar 1)) (mC (.bl true))) mNil)) (mB bLenA (mCons (mVar 0) mNil)))))
def F_are_kinds : Fn := runP 1 2 b_are_kinds
section
variable {P : Program} {w : World} {K : PySem.W.Frag} {mg : Str → Option Value} {base : Heap}
theorem sc_are_kinds : FnScope ["value", "one"] ["value"] (defScope s_are_kinds) := ⟨rfl, rfl, rfl, by decide +kernel, rfl, by decide +kernel, by decide +kernel⟩
theorem fn_are_kinds (E : Env K mg w) {fd : FuncData} {dvs : List V} (F : FunD K "are_kinds" "are_kinds" (defArgs s_are_kinds) (defBody s_are_kinds) (defScope s_are_kinds) dvs [] (He.ga K "are_kinds") fd) : FnOk P w K mg base CX0 2 (He.ga K "are_kinds") fd ["value"] (spF K F_are_kinds) := by
  refine F.ok sc_are_kinds (fun vs H Q E h => spF_len takes_P h) (fun cdv A outer s H vs Q X hr h => ?_)
  have hu := hr.units
  exact body_okP (k := 1) (W := fun cls d _ H' => X cls d H') (g := b_are_kinds) (PSs.nox (s_cons (s_if (PW.pt (m_por (m_tnot (m_tst (m_call (ok_is_sequence (K := K) E) (hr.mono (by decide)) E.g_is_sequence pA0 (fun _ _ => .nil) (m_cons (m_var 0) m_nil)))) (m_por1 (m_tnot (m_tst (m_callB (k_all K) bAll_ok E.g_all bt_all (m_cons (m_lc (own := [("one", 1)]) (by rfl) sc_are_kinds.nd (i_seq (m_var 0)) (blkOk_by (own := [("one", 1)]) (N := ["value", "one"]) (sc := defScope s_are_kinds) (by decide +kernel)) (fun _ _ _ _ _ => (g_name 1 sc_are_kinds.nd)) (fun _ _ _ _ _ => ts_nil) (fun _ _ _ _ _ => (m_isC (is_Kind E) E.b_Kind E.g_isinstance E.g_Kind (m_var 1)))) m_nil))))))) (s_one (s_ret m_bl)) s_nil)
      (s_one (s_ret (m_cmp (q_eq hu) oEq_ok (m_callB (q_lenA (K := K)) bLenA_ok E.g_len bt_len (m_cons (m_dc (own := [("one", 1)]) (by rfl) sc_are_kinds.nd (i_seq (m_var 0)) (blkOk_by (own := [("one", 1)]) (N := ["value", "one"]) (sc := defScope s_are_kinds) (by decide +kernel)) (fun _ _ _ _ _ => (g_name 1 sc_are_kinds.nd)) (fun _ _ _ _ _ => ts_nil) (fun _ _ _ _ _ => (m_fld (fc_name E) (m_var 1))) (fun _ _ _ _ _ => m_bl)) m_nil)) (m_callB (q_lenA (K := K)) bLenA_ok E.g_len bt_len (m_cons (m_var 0) m_nil)) (nomark _)))))) (by decide) (fun _ _ _ _ z => z) h
theorem ok_are_kinds (E : Env K mg w) : Dn P w K mg base CX0 2 (He.ga K "are_kinds") [] (spF K F_are_kinds) :=
  dn_of (ps := ["value"]) E.f_are_kinds (fun fd F => fn_are_kinds E F) (fun _ _ _ _ _ _ us hl => match us, hl with | [_], _ => rfl)
end
def b_head_in : Sv := (sSeq (sAsg (mTxt oSplit (mVar 0) (mC (.str " "))) (gNm 1))
    (sSeq (sIf (mOrT (mTst (mOp oLt (mB bLenA (mCons (mVar 1) mNil)) (mC (.int 6)))) (mOrT (mTst (mOp oNe (mIxA (mVar 1) (mC (.int 0))) (mC (.str "term")))) (mOrT (mTst (mOp oNe (mIxA (mVar 1) (mC (.int 2))) (mC (.str "rests")))) (mTst (mOp oNe (mIxA (mVar 1) (mUn uNeg (mC (.int 2)))) (mC (.str "cap"))))))) (sRet (mC .non)) sNext)
    (sSeq (sPar2 3 4 (mCons (mCall F_number_in [] (mCons (mIxA (mVar 1) (mC (.int 1))) mNil)) (mCons (mSl (mVar 1) (mPart (mC (.int 3))) (mPart (mUn uNeg (mC (.int 2))))) mNil)))
    (sSeq (sAsg (mIf (mTst (mOp oEq (mIxA (mVar 1) (mUn uNeg (mC (.int 1)))) (mC (.str "none")))) (mC .non) (mCall F_number_in [] (mCons (mIxA (mVar 1) (mUn uNeg (mC (.int 1)))) mNil))) (gNm 2))
    (sSeq (sIf (mOrT (mTst (mOp oIsN (mVar 3) (mC .non))) (mAndT (mTst (mOp oIsN (mVar 2) (mC .non))) (mTst (mOp oNe (mIxA (mVar 1) (mUn uNeg (mC (.int 1)))) (mC (.str "none")))))) (sRet (mC .non)) sNext)
    (sSeq (sIf (mTst (mOp oEq (mVar 4) (mLst (mCons (mC (.str "none")) mNil)))) (sRet (mTup (mCons (mVar 3) (mCons (mLst mNil) (mCons (mVar 2) mNil))))) sNext)
    (sSeq (sIf (mNotT (mTst (mB bAll (mCons (mLc [5] (mSeqOf (mVar 4)) (gNm 5) mYes (mAnd (mOp oEq (mB bLenA (mCons (mVar 5) mNil)) (mC (.int 1))) (mInA false oIn (mVar 5) (mC (.str "0123456789"))))) mNil)))) (sRet (mC .non)) sNext)
    (sRet (mTup (mCons (mVar 3) (mCons (mLc [5] (mSeqOf (mVar 4)) (gNm 5) mYes (mB bInt (mCons (mVar 5) mNil))) (mCons (mVar 2) mNil))))))))))))
def F_head_in : Fn := runP 1 6 b_head_in
section
variable {P : Program} {w : World} {K : PySem.W.Frag} {mg : Str → Option Value} {base : Heap}
theorem sc_head_in : FnScope ["line", "words", "cap", "length", "rests", "word"] ["line"] (defScope s_head_in) := ⟨rfl, rfl, rfl, by decide +kernel, rfl, by decide +kernel, by decide +kernel⟩
theorem fn_head_in (E : Env K mg w) {fd : FuncData} {dvs : List V} (F : FunD K "head_in" "head_in" (defArgs s_head_in) (defBody s_head_in) (defScope s_head_in) dvs [] (He.ga K "head_in") fd) : FnOk P w K mg base CX0 2 (He.ga K "head_in") fd ["line"] (spF K F_head_in) := by
  refine F.ok sc_head_in (fun vs H Q E h => spF_len takes_P h) (fun cdv A outer s H vs Q X hr h => ?_)
  have hu := hr.units
  exact body_okP (k := 1) (W := fun cls d _ H' => X cls d H') (g := b_head_in) (PSs.nox (s_cons (s_set 1 sc_head_in.nd (m_split (m_var 0) m_str))
      (s_cons (s_if (PW.pt (m_por (m_tcmp op_lt oIB_ok (m_callB (q_lenA (K := K)) bLenA_ok E.g_len bt_len (m_cons (m_var 1) m_nil)) m_int (nomark _)) (m_por (m_tcmp (q_ne hu) oNe_ok (m_ixA (hu1 hu) (m_var 1) m_int (fun _ _ => rfl)) m_str (nomark _)) (m_por (m_tcmp (q_ne hu) oNe_ok (m_ixA (hu1 hu) (m_var 1) m_int (fun _ _ => rfl)) m_str (nomark _)) (m_por1 (m_tcmp (q_ne hu) oNe_ok (m_ixA (hu1 hu) (m_var 1) (m_un un_neg uNeg_ok m_int) (fun _ _ => rfl)) m_str (nomark _))))))) (s_one (s_ret m_non)) s_nil)
      (s_cons (s_par2 3 4 sc_head_in.nd (m_cons (m_call (ok_number_in (K := K) E) (hr.mono (by decide)) E.g_number_in pA0 (fun _ _ => .nil) (m_cons (m_ixA (hu1 hu) (m_var 1) m_int (fun _ _ => rfl)) m_nil)) (m_cons (m_sl (m_var 1) (o_some m_int) (o_some (m_un un_neg uNeg_ok m_int))) m_nil)))
      (s_cons (s_set 2 sc_head_in.nd (m_ifE (m_tcmp (q_eq hu) oEq_ok (m_ixA (hu1 hu) (m_var 1) (m_un un_neg uNeg_ok m_int) (fun _ _ => rfl)) m_str (nomark _)) m_non (m_call (ok_number_in (K := K) E) (hr.mono (by decide)) E.g_number_in pA0 (fun _ _ => .nil) (m_cons (m_ixA (hu1 hu) (m_var 1) (m_un un_neg uNeg_ok m_int) (fun _ _ => rfl)) m_nil))))
      (s_cons (s_if (PW.pt (m_por (m_tcmp op_isN oIsN_ok (m_var 3) m_non (nomark _)) (m_por1 (PW.pt (m_pand (m_tcmp op_isN oIsN_ok (m_var 2) m_non (nomark _)) (m_pand1 (m_tcmp (q_ne hu) oNe_ok (m_ixA (hu1 hu) (m_var 1) (m_un un_neg uNeg_ok m_int) (fun _ _ => rfl)) m_str (nomark _)))))))) (s_one (s_ret m_non)) s_nil)
      (s_cons (s_if (m_tcmp (q_eq hu) oEq_ok (m_var 4) (m_lst (m_cons m_str m_nil)) (nomark _)) (s_one (s_ret (m_tup (m_cons (m_var 3) (m_cons (m_lst m_nil) (m_cons (m_var 2) m_nil)))))) s_nil)
      (s_cons (s_if (m_tnot (m_tst (m_callB (k_all K) bAll_ok E.g_all bt_all (m_cons (m_lc (own := [("word", 5)]) (by rfl) sc_head_in.nd (i_seq (m_var 4)) (blkOk_by (own := [("word", 5)]) (N := ["line", "words", "cap", "length", "rests", "word"]) (sc := defScope s_head_in) (by decide +kernel)) (fun _ _ _ _ _ => (g_name 5 sc_head_in.nd)) (fun _ _ _ _ _ => ts_nil) (fun _ _ _ _ _ => (m_and (m_cmp (q_eq hu) oEq_ok (m_callB (q_lenA (K := K)) bLenA_ok E.g_len bt_len (m_cons (m_var 5) m_nil)) m_int (nomark _)) (m_one (m_inA (hu1 hu) q_in oIn_ok (m_var 5) (m_gs E.g_SIGNS)))))) m_nil)))) (s_one (s_ret m_non)) s_nil)
      (s_one (s_ret (m_tup (m_cons (m_var 3) (m_cons (m_lc (own := [("word", 5)]) (by rfl) sc_head_in.nd (i_seq (m_var 4)) (blkOk_by (own := [("word", 5)]) (N := ["line", "words", "cap", "length", "rests", "word"]) (sc := defScope s_head_in) (by decide +kernel)) (fun _ _ _ _ _ => (g_name 5 sc_head_in.nd)) (fun _ _ _ _ _ => ts_nil) (fun _ _ _ _ _ => (m_callTy q_int bInt_ok E.g_int bt_int (m_cons (m_var 5) m_nil)))) (m_cons (m_var 2) m_nil)))))))))))))) (by decide) (fun _ _ _ _ z => z) h
theorem ok_head_in (E : Env K mg w) : Dn P w K mg base CX0 2 (He.ga K "head_in") [] (spF K F_head_in) :=
  dn_of (ps := ["line"]) E.f_head_in (fun fd F => fn_head_in E F) (fun _ _ _ _ _ _ us hl => match us, hl with | [_], _ => rfl)
end
def b_Rule___init__ : Sv := (sSeq (sIf (mNotT (mTst (mCall F_is_length [] (mCons (mVar 1) mNil)))) (fun _ _ _ => .st) sNext)
    (sSeq (sIf (mNotT (mTst (mCall F_are_rests [] (mCons (mVar 2) mNil)))) (fun _ _ _ => .st) sNext)
    (sSeq (sIf (mAndT (mTst (mOp oNotN (mVar 3) (mC .non))) (mNotT (mTst (mCall F_is_length [] (mCons (mVar 3) mNil))))) (fun _ _ _ => .st) sNext)
    (sSeq (sIf (mNotT (mTst (mCall F_are_kinds [] (mCons (mVar 4) mNil)))) (fun _ _ _ => .st) sNext)
    (sSeq (sFldC ["Rule"] "length" (mVar 0) (mVar 1))
    (sSeq (sFldC ["Rule"] "rests" (mVar 0) (mTupOf (mB bSrtI (mCons (mLc [6] (mSeqOf (mVar 2)) (gNm 6) mYes (mB bInt (mCons (mVar 6) mNil))) mNil))))
    (sSeq (sFldC ["Rule"] "cap" (mVar 0) (mVar 3))
    (sSeq (sFldC ["Rule"] "kinds" (mVar 0) (mTupOf (mVar 4)))
    (sFldC ["Rule"] "names" (mVar 0) (mTupOf (mLc [5] (mSeqOf (mVar 4)) (gNm 5) mYes (mFld ["Still", "Anew", "Lift"] "name" (mVar 5)))))))))))))
def F_Rule___init__ : Fn := runO 5 7 b_Rule___init__
section
variable {P : Program} {w : World} {K : PySem.W.Frag} {mg : Str → Option Value} {base : Heap}
theorem sc_Rule___init__ : FnScope ["self", "length", "rests", "cap", "kinds", "kind", "one"] ["self", "length", "rests", "cap", "kinds"] (defScope s_Rule___init__) := ⟨rfl, rfl, rfl, by decide +kernel, rfl, by decide +kernel, by decide +kernel⟩
theorem fn_Rule___init__ (E : Env K mg w) {fd : FuncData} {dvs : List V} (F : FunD K "__init__" "Rule.__init__" (defArgs s_Rule___init__) (defBody s_Rule___init__) (defScope s_Rule___init__) dvs [] (He.ma K (He.ga K "Rule") "__init__") fd) : FnOk P w K mg base CX0 3 (He.ma K (He.ga K "Rule") "__init__") fd ["self", "length", "rests", "cap", "kinds"] (spF K F_Rule___init__) := by
  refine F.ok sc_Rule___init__ (fun vs H Q E h => spF_len takes_O h) (fun cdv A outer s H vs Q X hr h => ?_)
  have hu := hr.units
  exact body_okO (k := 5) (W := fun cls d _ H' => X cls d H') (g := b_Rule___init__) (PSs.nox (s_cons (s_if (m_tnot (m_tst (m_call (ok_is_length (K := K) E) (hr.mono (by decide)) E.g_is_length pA0 (fun _ _ => .nil) (m_cons (m_var 1) m_nil)))) (s_one s_never) s_nil)
      (s_cons (s_if (m_tnot (m_tst (m_call (ok_are_rests (K := K) E) (hr.mono (by decide)) E.g_are_rests pA0 (fun _ _ => .nil) (m_cons (m_var 2) m_nil)))) (s_one s_never) s_nil)
      (s_cons (s_if (PW.pt (m_pand (m_tcmp op_notN oNotN_ok (m_var 3) m_non (nomark _)) (m_pand1 (m_tnot (m_tst (m_call (ok_is_length (K := K) E) (hr.mono (by decide)) E.g_is_length pA0 (fun _ _ => .nil) (m_cons (m_var 3) m_nil))))))) (s_one s_never) s_nil)
      (s_cons (s_if (m_tnot (m_tst (m_call (ok_are_kinds (K := K) E) (hr.mono (by decide)) E.g_are_kinds pA0 (fun _ _ => .nil) (m_cons (m_var 4) m_nil)))) (s_one s_never) s_nil)
      (s_cons (s_fld (fc_length E) (m_var 0) (m_var 1))
      (s_cons (s_fld (fc_rests E) (m_var 0) (m_tuple E.g_tuple (m_callB (k_sorted K) bSrtI_ok E.g_sorted bt_sorted (m_cons (m_lc (own := [("one", 6)]) (by rfl) sc_Rule___init__.nd (i_seq (m_var 2)) (blkOk_by (own := [("one", 6)]) (N := ["self", "length", "rests", "cap", "kinds", "kind", "one"]) (sc := defScope s_Rule___init__) (by decide +kernel)) (fun _ _ _ _ _ => (g_name 6 sc_Rule___init__.nd)) (fun _ _ _ _ _ => ts_nil) (fun _ _ _ _ _ => (m_callTy q_int bInt_ok E.g_int bt_int (m_cons (m_var 6) m_nil)))) m_nil))))
      (s_cons (s_fld (fc_cap E) (m_var 0) (m_var 3))
      (s_cons (s_fld (fc_kinds E) (m_var 0) (m_tuple E.g_tuple (m_var 4)))
      (s_one (s_fld (fc_names E) (m_var 0) (m_tuple E.g_tuple (m_lc (own := [("kind", 5)]) (by rfl) sc_Rule___init__.nd (i_seq (m_var 4)) (blkOk_by (own := [("kind", 5)]) (N := ["self", "length", "rests", "cap", "kinds", "kind", "one"]) (sc := defScope s_Rule___init__) (by decide +kernel)) (fun _ _ _ _ _ => (g_name 5 sc_Rule___init__.nd)) (fun _ _ _ _ _ => ts_nil) (fun _ _ _ _ _ => (m_fld (fc_name E) (m_var 5)))))))))))))))) (by decide) (fun _ _ _ _ z => z) h
theorem ok_Rule___init___0 (E : Env K mg w) : Dn P w K mg base CX0 3 (He.ma K (He.ga K "Rule") "__init__") [.ref (emptyDfl (fun K => He.ma K (He.ga K "Rule") "__init__") 0 K), .non, .ref (emptyDfl (fun K => He.ma K (He.ga K "Rule") "__init__") 2 K)] (spF K F_Rule___init__) :=
  dn_dfl (ps := ["self", "length", "rests", "cap", "kinds"]) 2 0 E.f_Rule___init__ (by simp) rfl (fun fd F => fn_Rule___init__ E F) (fun _ _ _ _ _ _ _ us its h1 h2 => match us, its, h1, h2 with | [_, _], [_, _, _], _, _ => ⟨_, rfl, rfl⟩)
def dt_Rule___init___0 : List T := [.wt [], .non, .wt []]
theorem dr_Rule___init___0 (E : Env K mg w) (A : ASet) (H : Hp) : Reps K A H [.ref (emptyDfl (fun K => He.ma K (He.ga K "Rule") "__init__") 0 K), .non, .ref (emptyDfl (fun K => He.ma K (He.ga K "Rule") "__init__") 2 K)] dt_Rule___init___0 := (.cons (.wt (fun H => tupAtB_ok E.e_Rule___init___0 H) .nil) (.cons .non (.cons (.wt (fun H => tupAtB_ok E.e_Rule___init___2 H) .nil) .nil)))
theorem ok_Rule___init___1 (E : Env K mg w) : Dn P w K mg base CX0 3 (He.ma K (He.ga K "Rule") "__init__") [.non, .ref (emptyDfl (fun K => He.ma K (He.ga K "Rule") "__init__") 2 K)] (spF K F_Rule___init__) :=
  dn_dfl (ps := ["self", "length", "rests", "cap", "kinds"]) 3 1 E.f_Rule___init__ (by simp) rfl (fun fd F => fn_Rule___init__ E F) (fun _ _ _ _ _ _ _ us its h1 h2 => match us, its, h1, h2 with | [_, _, _], [_, _, _], _, _ => ⟨_, rfl, rfl⟩)
def dt_Rule___init___1 : List T := [.non, .wt []]
theorem dr_Rule___init___1 (E : Env K mg w) (A : ASet) (H : Hp) : Reps K A H [.non, .ref (emptyDfl (fun K => He.ma K (He.ga K "Rule") "__init__") 2 K)] dt_Rule___init___1 := (.cons .non (.cons (.wt (fun H => tupAtB_ok E.e_Rule___init___2 H) .nil) .nil))
theorem ok_Rule___init___2 (E : Env K mg w) : Dn P w K mg base CX0 3 (He.ma K (He.ga K "Rule") "__init__") [.ref (emptyDfl (fun K => He.ma K (He.ga K "Rule") "__init__") 2 K)] (spF K F_Rule___init__) :=
  dn_dfl (ps := ["self", "length", "rests", "cap", "kinds"]) 4 2 E.f_Rule___init__ (by simp) rfl (fun fd F => fn_Rule___init__ E F) (fun _ _ _ _ _ _ _ us its h1 h2 => match us, its, h1, h2 with | [_, _, _, _], [_, _, _], _, _ => ⟨_, rfl, rfl⟩)
def dt_Rule___init___2 : List T := [.wt []]
theorem dr_Rule___init___2 (E : Env K mg w) (A : ASet) (H : Hp) : Reps K A H [.ref (emptyDfl (fun K => He.ma K (He.ga K "Rule") "__init__") 2 K)] dt_Rule___init___2 := (.cons (.wt (fun H => tupAtB_ok E.e_Rule___init___2 H) .nil) .nil)
theorem ok_Rule___init__ (E : Env K mg w) : Dn P w K mg base CX0 3 (He.ma K (He.ga K "Rule") "__init__") [] (spF K F_Rule___init__) :=
  dn_dfl (ps := ["self", "length", "rests", "cap", "kinds"]) 5 3 E.f_Rule___init__ (by simp) rfl (fun fd F => fn_Rule___init__ E F) (fun _ _ _ _ _ _ _ us its h1 h2 => match us, its, h1, h2 with | [_, _, _, _, _], [_, _, _], _, _ => ⟨_, rfl, rfl⟩)
end
def b_Rule___str__ : Sv := (sSeq (sAsg (mIf (mTst (mOp oGt (mB bLenA (mCons (mFld ["Rule"] "rests" (mVar 0)) mNil)) (mC (.int 0)))) (mTxt oJoin (mC (.str " ")) (mLc [3] (mSeqOf (mFld ["Rule"] "rests" (mVar 0))) (gNm 3) mYes (mB bStr (mCons (mVar 3) mNil)))) (mC (.str "none"))) (gNm 1))
    (sSeq (sAsg (mIf (mTst (mOp oIsN (mFld ["Rule"] "cap" (mVar 0)) (mC .non))) (mC (.str "none")) (mB bStr (mCons (mFld ["Rule"] "cap" (mVar 0)) mNil))) (gNm 2))
    (sRet (mTxt oJoin (mC (.str "\n")) (mLst (mCons (mJs [(mC (.str "term ")), (mUn uFmt (mFld ["Rule"] "length" (mVar 0))), (mC (.str " rests ")), (mUn uFmt (mVar 1)), (mC (.str " cap ")), (mUn uFmt (mVar 2))] Str.empty) (mStar (mLc [4] (mSeqOf (mFld ["Rule"] "kinds" (mVar 0))) (gNm 4) mYes (mB (bStrO tbKS) (mCons (mVar 4) mNil))) mNil)))))))
def F_Rule___str__ : Fn := runP 1 5 b_Rule___str__
section
variable {P : Program} {w : World} {K : PySem.W.Frag} {mg : Str → Option Value} {base : Heap}
theorem sc_Rule___str__ : FnScope ["self", "rests", "cap", "one", "kind"] ["self"] (defScope s_Rule___str__) := ⟨rfl, rfl, rfl, by decide +kernel, rfl, by decide +kernel, by decide +kernel⟩
theorem fn_Rule___str__ (E : Env K mg w) {fd : FuncData} {dvs : List V} (F : FunD K "__str__" "Rule.__str__" (defArgs s_Rule___str__) (defBody s_Rule___str__) (defScope s_Rule___str__) dvs [] (He.ma K (He.ga K "Rule") "__str__") fd) : FnOk P w K mg base CX0 5 (He.ma K (He.ga K "Rule") "__str__") fd ["self"] (spF K F_Rule___str__) := by
  refine F.ok sc_Rule___str__ (fun vs H Q E h => spF_len takes_P h) (fun cdv A outer s H vs Q X hr h => ?_)
  have hu := hr.units
  exact body_okP (k := 1) (W := fun cls d _ H' => X cls d H') (g := b_Rule___str__) (PSs.nox (s_cons (s_set 1 sc_Rule___str__.nd (m_ifE (m_tcmp op_gt oIB_ok (m_callB (q_lenA (K := K)) bLenA_ok E.g_len bt_len (m_cons (m_fld (fc_rests E) (m_var 0)) m_nil)) m_int (nomark _)) (m_join m_str (m_lc (own := [("one", 3)]) (by rfl) sc_Rule___str__.nd (i_seq (m_fld (fc_rests E) (m_var 0))) (blkOk_by (own := [("one", 3)]) (N := ["self", "rests", "cap", "one", "kind"]) (sc := defScope s_Rule___str__) (by decide +kernel)) (fun _ _ _ _ _ => (g_name 3 sc_Rule___str__.nd)) (fun _ _ _ _ _ => ts_nil) (fun _ _ _ _ _ => (m_callTy q_str bStr_ok E.g_str bt_str (m_cons (m_var 3) m_nil))))) m_str))
      (s_cons (s_set 2 sc_Rule___str__.nd (m_ifE (m_tcmp op_isN oIsN_ok (m_fld (fc_cap E) (m_var 0)) m_non (nomark _)) m_str (m_callTy q_str bStr_ok E.g_str bt_str (m_cons (m_fld (fc_cap E) (m_var 0)) m_nil))))
      (s_one (s_ret (m_join m_str (m_lst (m_cons (m_joined (MJ.cons m_str (MJ.cons (m_fmt (m_fld (fc_length E) (m_var 0))) (MJ.cons m_str (MJ.cons (m_fmt (m_var 1)) (MJ.cons m_str (MJ.cons (m_fmt (m_var 2)) MJ.nil))))))) (m_star (m_lc (own := [("kind", 4)]) (by rfl) sc_Rule___str__.nd (i_seq (m_fld (fc_kinds E) (m_var 0))) (blkOk_by (own := [("kind", 4)]) (N := ["self", "rests", "cap", "one", "kind"]) (sc := defScope s_Rule___str__) (by decide +kernel)) (fun _ _ _ _ _ => (g_name 4 sc_Rule___str__.nd)) (fun _ _ _ _ _ => ts_nil) (fun _ _ _ _ _ => (m_callTy (q_strO (tbKS_ok E (hr.mono (by decide)))) bStrO_ok E.g_str bt_str (m_cons (m_var 4) m_nil)))) m_nil))))))))) (by decide) (fun _ _ _ _ z => z) h
theorem ok_Rule___str__ (E : Env K mg w) : Dn P w K mg base CX0 5 (He.ma K (He.ga K "Rule") "__str__") [] (spF K F_Rule___str__) :=
  dn_of (ps := ["self"]) E.f_Rule___str__ (fun fd F => fn_Rule___str__ E F) (fun _ _ _ _ _ _ us hl => match us, hl with | [_], _ => rfl)
end
end Tm

namespace Tm
open PySem PySem.Spec PyProof.Rows L2
def tbRS : List (Str × Fn) := [("Rule", F_Rule___str__)]
theorem tbRS_ok {K : PySem.W.Frag} {X : Cx} (E : Env K X.mg X.w) (hr : Room 7 X.A) (hK : X.K = K := by rfl) : ∀ q ∈ tbRS, SpcOk X K "__str__" 2 q := by
  subst hK
  intro q hq
  simp only [tbRS, List.mem_cons, List.not_mem_nil, or_false] at hq
  rcases hq with rfl
  · exact ⟨_, _, spm_of E.m_Rule___str__, ok_Rule___str__ E, hr.mono (by decide)⟩
def b_Rule___eq__ : Sv := (sRet (mAnd (mUn (fIsC tb_Rule) (mVar 1)) (mOp oEq (mB (bStrO tbRS) (mCons (mVar 0) mNil)) (mB (bStrO tbRS) (mCons (mVar 1) mNil)))))
def F_Rule___eq__ : Fn := runP 2 2 b_Rule___eq__
section
variable {P : Program} {w : World} {K : PySem.W.Frag} {mg : Str → Option Value} {base : Heap}
theorem sc_Rule___eq__ : FnScope ["self", "other"] ["self", "other"] (defScope s_Rule___eq__) := ⟨rfl, rfl, rfl, by decide +kernel, rfl, by decide +kernel, by decide +kernel⟩
theorem fn_Rule___eq__ (E : Env K mg w) {fd : FuncData} {dvs : List V} (F : FunD K "__eq__" "Rule.__eq__" (defArgs s_Rule___eq__) (defBody s_Rule___eq__) (defScope s_Rule___eq__) dvs [] (He.ma K (He.ga K "Rule") "__eq__") fd) : FnOk P w K mg base CX0 8 (He.ma K (He.ga K "Rule") "__eq__") fd ["self", "other"] (spF K F_Rule___eq__) := by
  refine F.ok sc_Rule___eq__ (fun vs H Q E h => spF_len takes_P h) (fun cdv A outer s H vs Q X hr h => ?_)
  have hu := hr.units
  exact body_okP (k := 2) (W := fun cls d _ H' => X cls d H') (g := b_Rule___eq__) (PSs.nox (s_one (s_ret (m_and (m_isC (is_Rule E) E.b_Rule E.g_isinstance E.g_Rule (m_var 1)) (m_one (m_cmp (q_eq hu) oEq_ok (m_callTy (q_strO (tbRS_ok E (hr.mono (by decide)))) bStrO_ok E.g_str bt_str (m_cons (m_var 0) m_nil)) (m_callTy (q_strO (tbRS_ok E (hr.mono (by decide)))) bStrO_ok E.g_str bt_str (m_cons (m_var 1) m_nil)) (nomark _))))))) (by decide) (fun _ _ _ _ z => z) h
theorem ok_Rule___eq__ (E : Env K mg w) : Dn P w K mg base CX0 8 (He.ma K (He.ga K "Rule") "__eq__") [] (spF K F_Rule___eq__) :=
  dn_of (ps := ["self", "other"]) E.f_Rule___eq__ (fun fd F => fn_Rule___eq__ E F) (fun _ _ _ _ _ _ us hl => match us, hl with | [_, _], _ => rfl)
end
def L_Rule_read_1 : Sv := (sExpr (mLm lApp (mVar 4) (mCons (mCm "Kind" F_Kind_read (mCons (mVar 6) mNil)) mNil)))
def b_Rule_read : Sv := (sSeq (sAsg (mTxt oSplit (mVar 1) (mC (.str "\n"))) (gNm 2))
    (sSeq (sAsg (mCall F_head_in [] (mCons (mIxA (mVar 2) (mC (.int 0))) mNil)) (gNm 3))
    (sSeq (sIf (mTst (mOp oIsN (mVar 3) (mC .non))) (fun _ _ _ => .st) sNext)
    (sSeq (sAsg (mLstC mNil) (gNm 4))
    (sSeq (sForI (mEnum (mSl (mVar 2) (mPart (mC (.int 1))) mNoPart)) (gTup [(gNm 5), (gNm 6)])
    L_Rule_read_1)
    (sRet (mMkL 0 "Rule" F_Rule___init__ [] (mCons (mIxA (mVar 3) (mC (.int 0))) (mCons (mIxA (mVar 3) (mC (.int 1))) (mCons (mIxA (mVar 3) (mC (.int 2))) (mCons (mVar 4) mNil)))))))))))
def F_Rule_read : Fn := runP 2 8 b_Rule_read
section
variable {P : Program} {w : World} {K : PySem.W.Frag} {mg : Str → Option Value} {base : Heap}
theorem sc_Rule_read : FnScope ["cls", "text", "lines", "head", "kinds", "at", "line", "error"] ["cls", "text"] (defScope s_Rule_read) := ⟨rfl, rfl, rfl, by decide +kernel, rfl, by decide +kernel, by decide +kernel⟩
theorem fn_Rule_read (E : Env K mg w) {fd : FuncData} {dvs : List V} (F : FunD K "read" "Rule.read" (defArgs s_Rule_read) (defBody s_Rule_read) (defScope s_Rule_read) dvs [] (He5.wf K (He.ga K "Rule") "classmethod" "read") fd) : FnOk P w K mg base CX0 8 (He5.wf K (He.ga K "Rule") "classmethod" "read") fd ["cls", "text"] (spF K F_Rule_read) := by
  refine F.ok sc_Rule_read (fun vs H Q E h => spF_len takes_P h) (fun cdv A outer s H vs Q X hr h => ?_)
  have hu := hr.units
  exact body_okP (k := 2) (W := fun cls d _ H' => X cls d H') (g := b_Rule_read) (PSs.nox (s_cons (s_set 2 sc_Rule_read.nd (m_split (m_var 1) m_str))
      (s_cons (s_set 3 sc_Rule_read.nd (m_call (ok_head_in (K := K) E) (hr.mono (by decide)) E.g_head_in pA0 (fun _ _ => .nil) (m_cons (m_ixA (hu1 hu) (m_var 2) m_int (fun _ _ => rfl)) m_nil)))
      (s_cons (s_if (m_tcmp op_isN oIsN_ok (m_var 3) m_non (nomark _)) (s_one s_never) s_nil)
      (s_cons (s_set 4 sc_Rule_read.nd (m_lstC m_nil))
      (s_cons (s_for PassesOwn.never rfl (i_enum E.g_enumerate (m_sl (m_var 2) (o_some m_int) o_none)) (g_tup (by rfl) (gs_cons (g_name 5 sc_Rule_read.nd) (gs_cons (g_name 6 sc_Rule_read.nd) gs_nil)))
      (s_one (s_try0 (s_one (s_expr (m_app (m_var 4) (m_cons (m_cm E.g_Kind E.c_Kind_read (ok_Kind_read (K := K) E) (hr.mono (by decide)) pA0 (m_cons (m_var 6) m_nil)) m_nil)))))))
      (s_one (s_ret (m_mkL 0 E.mk_Rule (ok_Rule___init__ (K := K) E) (hr.mono (by decide)) pA0 (fun _ _ => .nil) (m_cons (m_ixA (hu1 hu) (m_var 3) m_int (fun _ _ => rfl)) (m_cons (m_ixA (hu1 hu) (m_var 3) m_int (fun _ _ => rfl)) (m_cons (m_ixA (hu1 hu) (m_var 3) m_int (fun _ _ => rfl)) (m_cons (m_var 4) m_nil))))))))))))) (by decide) (fun _ _ _ _ z => z) h
theorem ok_Rule_read (E : Env K mg w) : Dn P w K mg base CX0 8 (He5.wf K (He.ga K "Rule") "classmethod" "read") [] (spF K F_Rule_read) :=
  dn_of (ps := ["cls", "text"]) E.f_Rule_read (fun fd F => fn_Rule_read E F) (fun _ _ _ _ _ _ us hl => match us, hl with | [_, _], _ => rfl)
end
end Tm

namespace Tm
open PySem PySem.Spec PyProof.Rows L2
def tbKE : List (Str × Fn × List Str) := [("Still", F_Kind___eq__, ["Still", "Anew", "Lift"]), ("Anew", F_Kind___eq__, ["Still", "Anew", "Lift"]), ("Lift", F_Kind___eq__, ["Still", "Anew", "Lift"])]
theorem tbKE_ok {K : PySem.W.Frag} {X : Cx} (E : Env K X.mg X.w) (hr : Room 6 X.A) (hK : X.K = K := by rfl) : ∀ q ∈ tbKE, EqOk X K 1 q := by
  subst hK
  intro q hq
  simp only [tbKE, List.mem_cons, List.not_mem_nil, or_false] at hq
  rcases hq with rfl | rfl | rfl
  · refine ⟨⟨_, _, spmB_ok E.q_Still, ok_Kind___eq__ E, hr.mono (by decide)⟩, neB_ok E.n_Still, E.nb_Still, fun D hD => ?_⟩
    simp only [List.mem_cons, List.not_mem_nil, or_false] at hD
    rcases hD with rfl | rfl | rfl
    · exact ⟨⟨ownB_ok E.o_Still, E.cl_Still⟩, E.nf_Still_Still⟩
    · exact ⟨⟨ownB_ok E.o_Anew, E.cl_Anew⟩, E.nf_Still_Anew⟩
    · exact ⟨⟨ownB_ok E.o_Lift, E.cl_Lift⟩, E.nf_Still_Lift⟩
  · refine ⟨⟨_, _, spmB_ok E.q_Anew, ok_Kind___eq__ E, hr.mono (by decide)⟩, neB_ok E.n_Anew, E.nb_Anew, fun D hD => ?_⟩
    simp only [List.mem_cons, List.not_mem_nil, or_false] at hD
    rcases hD with rfl | rfl | rfl
    · exact ⟨⟨ownB_ok E.o_Still, E.cl_Still⟩, E.nf_Anew_Still⟩
    · exact ⟨⟨ownB_ok E.o_Anew, E.cl_Anew⟩, E.nf_Anew_Anew⟩
    · exact ⟨⟨ownB_ok E.o_Lift, E.cl_Lift⟩, E.nf_Anew_Lift⟩
  · refine ⟨⟨_, _, spmB_ok E.q_Lift, ok_Kind___eq__ E, hr.mono (by decide)⟩, neB_ok E.n_Lift, E.nb_Lift, fun D hD => ?_⟩
    simp only [List.mem_cons, List.not_mem_nil, or_false] at hD
    rcases hD with rfl | rfl | rfl
    · exact ⟨⟨ownB_ok E.o_Still, E.cl_Still⟩, E.nf_Lift_Still⟩
    · exact ⟨⟨ownB_ok E.o_Anew, E.cl_Anew⟩, E.nf_Lift_Anew⟩
    · exact ⟨⟨ownB_ok E.o_Lift, E.cl_Lift⟩, E.nf_Lift_Lift⟩
theorem tbKE_n {K : PySem.W.Frag} {mg : Str → Option Value} {w : World} (E : Env K mg w) : ∀ q ∈ tbKE, EqN K q := by
  intro q hq
  simp only [tbKE, List.mem_cons, List.not_mem_nil, or_false] at hq
  rcases hq with rfl | rfl | rfl
  · refine ⟨E.nb_Still, fun D hD => ?_⟩
    simp only [List.mem_cons, List.not_mem_nil, or_false] at hD
    rcases hD with rfl | rfl | rfl
    · exact ⟨⟨ownB_ok E.o_Still, E.cl_Still⟩, E.nf_Still_Still⟩
    · exact ⟨⟨ownB_ok E.o_Anew, E.cl_Anew⟩, E.nf_Still_Anew⟩
    · exact ⟨⟨ownB_ok E.o_Lift, E.cl_Lift⟩, E.nf_Still_Lift⟩
  · refine ⟨E.nb_Anew, fun D hD => ?_⟩
    simp only [List.mem_cons, List.not_mem_nil, or_false] at hD
    rcases hD with rfl | rfl | rfl
    · exact ⟨⟨ownB_ok E.o_Still, E.cl_Still⟩, E.nf_Anew_Still⟩
    · exact ⟨⟨ownB_ok E.o_Anew, E.cl_Anew⟩, E.nf_Anew_Anew⟩
    · exact ⟨⟨ownB_ok E.o_Lift, E.cl_Lift⟩, E.nf_Anew_Lift⟩
  · refine ⟨E.nb_Lift, fun D hD => ?_⟩
    simp only [List.mem_cons, List.not_mem_nil, or_false] at hD
    rcases hD with rfl | rfl | rfl
    · exact ⟨⟨ownB_ok E.o_Still, E.cl_Still⟩, E.nf_Lift_Still⟩
    · exact ⟨⟨ownB_ok E.o_Anew, E.cl_Anew⟩, E.nf_Lift_Anew⟩
    · exact ⟨⟨ownB_ok E.o_Lift, E.cl_Lift⟩, E.nf_Lift_Lift⟩
def tbRE : List (Str × Fn × List Str) := [("Rule", F_Rule___eq__, ["Rule"])]
theorem tbRE_ok {K : PySem.W.Frag} {X : Cx} (E : Env K X.mg X.w) (hr : Room 9 X.A) (hK : X.K = K := by rfl) : ∀ q ∈ tbRE, EqOk X K 1 q := by
  subst hK
  intro q hq
  simp only [tbRE, List.mem_cons, List.not_mem_nil, or_false] at hq
  rcases hq with rfl
  · refine ⟨⟨_, _, spmB_ok E.q_Rule, ok_Rule___eq__ E, hr.mono (by decide)⟩, neB_ok E.n_Rule, E.nb_Rule, fun D hD => ?_⟩
    simp only [List.mem_cons, List.not_mem_nil, or_false] at hD
    rcases hD with rfl
    · exact ⟨⟨ownB_ok E.o_Rule, E.cl_Rule⟩, E.nf_Rule_Rule⟩
theorem tbRE_n {K : PySem.W.Frag} {mg : Str → Option Value} {w : World} (E : Env K mg w) : ∀ q ∈ tbRE, EqN K q := by
  intro q hq
  simp only [tbRE, List.mem_cons, List.not_mem_nil, or_false] at hq
  rcases hq with rfl
  · refine ⟨E.nb_Rule, fun D hD => ?_⟩
    simp only [List.mem_cons, List.not_mem_nil, or_false] at hD
    rcases hD with rfl
    · exact ⟨⟨ownB_ok E.o_Rule, E.cl_Rule⟩, E.nf_Rule_Rule⟩
end Tm

namespace Tm
open PySem PySem.Spec PyProof.Rows L2
def L_Rule_kind_1 : Sv := (sIf (mTst (mOp oEq (mFld ["Still", "Anew", "Lift"] "name" (mVar 2)) (mVar 1))) (sRet (mVar 2)) sNext)
def b_Rule_kind : Sv := (sSeq (sForI (mSeqOf (mFld ["Rule"] "kinds" (mVar 0))) (gNm 2)
    L_Rule_kind_1)
    (fun _ _ _ => .st))
def F_Rule_kind : Fn := runP 2 3 b_Rule_kind
section
variable {P : Program} {w : World} {K : PySem.W.Frag} {mg : Str → Option Value} {base : Heap}
theorem sc_Rule_kind : FnScope ["self", "name", "kind"] ["self", "name"] (defScope s_Rule_kind) := ⟨rfl, rfl, rfl, by decide +kernel, rfl, by decide +kernel, by decide +kernel⟩
theorem fn_Rule_kind (E : Env K mg w) {fd : FuncData} {dvs : List V} (F : FunD K "kind" "Rule.kind" (defArgs s_Rule_kind) (defBody s_Rule_kind) (defScope s_Rule_kind) dvs [] (He.ma K (He.ga K "Rule") "kind") fd) : FnOk P w K mg base CX0 1 (He.ma K (He.ga K "Rule") "kind") fd ["self", "name"] (spF K F_Rule_kind) := by
  refine F.ok sc_Rule_kind (fun vs H Q E h => spF_len takes_P h) (fun cdv A outer s H vs Q X hr h => ?_)
  have hu := hr.units
  exact body_okP (k := 2) (W := fun cls d _ H' => X cls d H') (g := b_Rule_kind) (PSs.nox (s_cons (s_for PassesOwn.never rfl (i_seq (m_fld (fc_kinds E) (m_var 0))) (g_name 2 sc_Rule_kind.nd)
      (s_one (s_if (m_tcmp (q_eq hu) oEq_ok (m_fld (fc_name E) (m_var 2)) (m_var 1) (nomark _)) (s_one (s_ret (m_var 2))) s_nil)))
      (s_one s_never))) (by decide) (fun _ _ _ _ z => z) h
theorem ok_Rule_kind (E : Env K mg w) : Dn P w K mg base CX0 1 (He.ma K (He.ga K "Rule") "kind") [] (spF K F_Rule_kind) :=
  dn_of (ps := ["self", "name"]) E.f_Rule_kind (fun fd F => fn_Rule_kind E F) (fun _ _ _ _ _ _ us hl => match us, hl with | [_, _], _ => rfl)
end
def L_Rule_only_1 : Sv := (sExpr (mMeth "Rule" "kind" F_Rule_kind [] (mVar 0) (mCons (mVar 2) mNil)))
def b_Rule_only : Sv := (sSeq (sForI (mSeqOf (mVar 1)) (gNm 2)
    L_Rule_only_1)
    (sRet (mMk "Rule" F_Rule___init__ [] (mCons (mFld ["Rule"] "length" (mVar 0)) (mCons (mFld ["Rule"] "rests" (mVar 0)) (mCons (mFld ["Rule"] "cap" (mVar 0)) (mCons (mLc [3] (mSeqOf (mFld ["Rule"] "kinds" (mVar 0))) (gNm 3) (mTst (mInA false oIn (mFld ["Still", "Anew", "Lift"] "name" (mVar 3)) (mVar 1))) (mVar 3)) mNil)))))))
def F_Rule_only : Fn := runP 2 4 b_Rule_only
section
variable {P : Program} {w : World} {K : PySem.W.Frag} {mg : Str → Option Value} {base : Heap}
theorem sc_Rule_only : FnScope ["self", "names", "name", "kind"] ["self", "names"] (defScope s_Rule_only) := ⟨rfl, rfl, rfl, by decide +kernel, rfl, by decide +kernel, by decide +kernel⟩
theorem fn_Rule_only (E : Env K mg w) {fd : FuncData} {dvs : List V} (F : FunD K "only" "Rule.only" (defArgs s_Rule_only) (defBody s_Rule_only) (defScope s_Rule_only) dvs [] (He.ma K (He.ga K "Rule") "only") fd) : FnOk P w K mg base CX0 5 (He.ma K (He.ga K "Rule") "only") fd ["self", "names"] (spF K F_Rule_only) := by
  refine F.ok sc_Rule_only (fun vs H Q E h => spF_len takes_P h) (fun cdv A outer s H vs Q X hr h => ?_)
  have hu := hr.units
  exact body_okP (k := 2) (W := fun cls d _ H' => X cls d H') (g := b_Rule_only) (PSs.nox (s_cons (s_for PassesOwn.never rfl (i_seq (m_var 1)) (g_name 2 sc_Rule_only.nd)
      (s_one (s_expr (m_meth (m_var 0) E.cl_Rule E.m_Rule_kind (ok_Rule_kind (K := K) E) (hr.mono (by decide)) pA0 (fun _ _ => .nil) (m_cons (m_var 2) m_nil)))))
      (s_one (s_ret (m_mk E.mk_Rule (ok_Rule___init__ (K := K) E) (hr.mono (by decide)) E.g_Rule pA0 (fun _ _ => .nil) (m_cons (m_fld (fc_length E) (m_var 0)) (m_cons (m_fld (fc_rests E) (m_var 0)) (m_cons (m_fld (fc_cap E) (m_var 0)) (m_cons (m_lc (own := [("kind", 3)]) (by rfl) sc_Rule_only.nd (i_seq (m_fld (fc_kinds E) (m_var 0))) (blkOk_by (own := [("kind", 3)]) (N := ["self", "names", "name", "kind"]) (sc := defScope s_Rule_only) (by decide +kernel)) (fun _ _ _ _ _ => (g_name 3 sc_Rule_only.nd)) (fun _ _ _ _ _ => (ts_one (m_tinA (hu1 hu) q_in oIn_ok (m_fld (fc_name E) (m_var 3)) (m_var 1)))) (fun _ _ _ _ _ => (m_var 3))) m_nil))))))))) (by decide) (fun _ _ _ _ z => z) h
theorem ok_Rule_only (E : Env K mg w) : Dn P w K mg base CX0 5 (He.ma K (He.ga K "Rule") "only") [] (spF K F_Rule_only) :=
  dn_of (ps := ["self", "names"]) E.f_Rule_only (fun fd F => fn_Rule_only E F) (fun _ _ _ _ _ _ us hl => match us, hl with | [_, _], _ => rfl)
end
end Tm

namespace Tm
open PySem PySem.Spec PyProof.Rows L2
def L__law_number_1 : Sv := (sAsg (mOp oMod (mB bInt (mCons (mOp oAdd (mOp oAdd (mOp oMul (mVar 2) (mC (.int 37))) (mOp oMod (mB bInt (mCons (mB bAbs (mCons (mVar 3) mNil)) mNil)) (mC (.int 1000003)))) (mVar 1)) mNil)) (mC (.int 1000003))) (gNm 2))
def b__law_number : Sv := (sSeq (sAsg (mOp oAdd (mC (.int 31)) (mVar 1)) (gNm 2))
    (sSeq (sForI (mSeqOf (mSl (mVar 0) mNoPart (mPart (mC (.int 50))))) (gNm 3)
    L__law_number_1)
    (sRet (mOp oAdd (mC (.int 1)) (mOp oMod (mB bInt (mCons (mOp oFdiv (mVar 2) (mC (.int 5))) mNil)) (mC (.int 9)))))))
def F__law_number : Fn := runP 2 4 b__law_number
section
variable {P : Program} {w : World} {K : PySem.W.Frag} {mg : Str → Option Value} {base : Heap}
theorem sc__law_number : FnScope ["_law_script", "_law_turn", "_law_zfound", "_law_zone"] ["_law_script", "_law_turn"] (defScope s__law_number) := ⟨rfl, rfl, rfl, by decide +kernel, rfl, by decide +kernel, by decide +kernel⟩
theorem fn__law_number (E : Env K mg w) {fd : FuncData} {dvs : List V} (F : FunD K "_law_number" "_law_number" (defArgs s__law_number) (defBody s__law_number) (defScope s__law_number) dvs [] (He.ga K "_law_number") fd) : FnOk P w K mg base CX0 1 (He.ga K "_law_number") fd ["_law_script", "_law_turn"] (spF K F__law_number) := by
  refine F.ok sc__law_number (fun vs H Q E h => spF_len takes_P h) (fun cdv A outer s H vs Q X hr h => ?_)
  have hu := hr.units
  exact body_okP (k := 2) (W := fun cls d _ H' => X cls d H') (g := b__law_number) (PSs.nox (s_cons (s_set 2 sc__law_number.nd (m_op q_add oAdd_ok m_int (m_var 1)))
      (s_cons (s_for PassesOwn.never rfl (i_seq (m_sl (m_var 0) o_none (o_some m_int))) (g_name 3 sc__law_number.nd)
      (s_one (s_set 2 sc__law_number.nd (m_op op_mod oMod_ok (m_callTy q_int bInt_ok E.g_int bt_int (m_cons (m_op q_add oAdd_ok (m_op q_add oAdd_ok (m_op op_mul oMul_ok (m_var 2) m_int) (m_op op_mod oMod_ok (m_callTy q_int bInt_ok E.g_int bt_int (m_cons (m_callB call_abs bAbs_ok E.g_abs bt_abs (m_cons (m_var 3) m_nil)) m_nil)) m_int)) (m_var 1)) m_nil)) m_int))))
      (s_one (s_ret (m_op q_add oAdd_ok m_int (m_op op_mod oMod_ok (m_callTy q_int bInt_ok E.g_int bt_int (m_cons (m_op op_fdivW oFdiv_ok (m_var 2) m_int) m_nil)) m_int))))))) (by decide) (fun _ _ _ _ z => z) h
theorem ok__law_number (E : Env K mg w) : Dn P w K mg base CX0 1 (He.ga K "_law_number") [] (spF K F__law_number) :=
  dn_of (ps := ["_law_script", "_law_turn"]) E.f__law_number (fun fd F => fn__law_number E F) (fun _ _ _ _ _ _ us hl => match us, hl with | [_, _], _ => rfl)
end
end Tm

namespace Tm
open PySem PySem.Spec PyProof.Rows L2
section
variable {w : World} {K : PySem.W.Frag} {mg : Str → Option Value} {base : Heap}
theorem okk_Still___init___name_days (E : Env K mg w) : DnK P w K mg base CX0 4 (He.ma K (He.ga K "Still") "__init__") 1 ["name", "days"] [1, 2, 0] [.non] (spF K F_Still___init__) :=
  dnk_dfl (ps := ["self", "name", "days", "times"]) 1 ["name", "days"] [1, 2, 0] E.f_Still___init__ (by simp) (fun fd F => fn_Still___init__ E F) (fun _ _ _ _ _ _ _ us its ws h1 h2 h3 => match us, its, ws, h1, h2, h3 with | [_], [_], [_, _], _, _, _ => ⟨_, rfl, rfl⟩)
theorem okk_Rule___init___length_cap (E : Env K mg w) : DnK P w K mg base CX0 3 (He.ma K (He.ga K "Rule") "__init__") 1 ["length", "cap"] [3, 0, 4, 2] [.ref (emptyDfl (fun K => He.ma K (He.ga K "Rule") "__init__") 0 K), .non, .ref (emptyDfl (fun K => He.ma K (He.ga K "Rule") "__init__") 2 K)] (spF K F_Rule___init__) :=
  dnk_dfl (ps := ["self", "length", "rests", "cap", "kinds"]) 1 ["length", "cap"] [3, 0, 4, 2] E.f_Rule___init__ (by simp) (fun fd F => fn_Rule___init__ E F) (fun _ _ _ _ _ _ _ us its ws h1 h2 h3 => match us, its, ws, h1, h2, h3 with | [_], [_, _, _], [_, _], _, _, _ => ⟨_, rfl, rfl⟩)
theorem okk_Rule_only_names (E : Env K mg w) : DnK P w K mg base CX0 5 (He.ma K (He.ga K "Rule") "only") 1 ["names"] [0] [] (spF K F_Rule_only) :=
  dnk_of (ps := ["self", "names"]) 1 ["names"] [0] E.f_Rule_only (fun fd F => fn_Rule_only E F) (fun _ _ _ _ _ _ us ws h1 h2 => match us, ws, h1, h2 with | [_], [_], _, _ => rfl)
theorem okk_Rule_kind_name (E : Env K mg w) : DnK P w K mg base CX0 1 (He.ma K (He.ga K "Rule") "kind") 1 ["name"] [0] [] (spF K F_Rule_kind) :=
  dnk_of (ps := ["self", "name"]) 1 ["name"] [0] E.f_Rule_kind (fun fd F => fn_Rule_kind E F) (fun _ _ _ _ _ _ us ws h1 h2 => match us, ws, h1, h2 with | [_], [_], _, _ => rfl)
theorem okk_Rule_read_text (E : Env K mg w) : DnK P w K mg base CX0 8 (He5.wf K (He.ga K "Rule") "classmethod" "read") 1 ["text"] [0] [] (spF K F_Rule_read) :=
  dnk_of (ps := ["cls", "text"]) 1 ["text"] [0] E.f_Rule_read (fun fd F => fn_Rule_read E F) (fun _ _ _ _ _ _ us ws h1 h2 => match us, ws, h1, h2 with | [_], [_], _, _ => rfl)
theorem okk_Rule___init___kinds_cap_rests_length (E : Env K mg w) : DnK P w K mg base CX0 3 (He.ma K (He.ga K "Rule") "__init__") 1 ["kinds", "cap", "rests", "length"] [6, 5, 4, 3] [.ref (emptyDfl (fun K => He.ma K (He.ga K "Rule") "__init__") 0 K), .non, .ref (emptyDfl (fun K => He.ma K (He.ga K "Rule") "__init__") 2 K)] (spF K F_Rule___init__) :=
  dnk_dfl (ps := ["self", "length", "rests", "cap", "kinds"]) 1 ["kinds", "cap", "rests", "length"] [6, 5, 4, 3] E.f_Rule___init__ (by simp) (fun fd F => fn_Rule___init__ E F) (fun _ _ _ _ _ _ _ us its ws h1 h2 h3 => match us, its, ws, h1, h2, h3 with | [_], [_, _, _], [_, _, _, _], _, _, _ => ⟨_, rfl, rfl⟩)
theorem okk_Lift___init___top_times_by_name (E : Env K mg w) : DnK P w K mg base CX0 4 (He.ma K (He.ga K "Lift") "__init__") 1 ["top", "times", "by", "name"] [4, 3, 1, 2] [.non] (spF K F_Lift___init__) :=
  dnk_dfl (ps := ["self", "name", "by", "top", "times"]) 1 ["top", "times", "by", "name"] [4, 3, 1, 2] E.f_Lift___init__ (by simp) (fun fd F => fn_Lift___init__ E F) (fun _ _ _ _ _ _ _ us its ws h1 h2 h3 => match us, its, ws, h1, h2, h3 with | [_], [_], [_, _, _, _], _, _, _ => ⟨_, rfl, rfl⟩)
theorem okk_Anew___init___left_name (E : Env K mg w) : DnK P w K mg base CX0 4 (He.ma K (He.ga K "Anew") "__init__") 1 ["left", "name"] [2, 1, 0] [.non] (spF K F_Anew___init__) :=
  dnk_dfl (ps := ["self", "name", "left", "times"]) 1 ["left", "name"] [2, 1, 0] E.f_Anew___init__ (by simp) (fun fd F => fn_Anew___init__ E F) (fun _ _ _ _ _ _ _ us its ws h1 h2 h3 => match us, its, ws, h1, h2, h3 with | [_], [_], [_, _], _, _, _ => ⟨_, rfl, rfl⟩)
theorem okk_Still___init___times_days_name (E : Env K mg w) : DnK P w K mg base CX0 4 (He.ma K (He.ga K "Still") "__init__") 1 ["times", "days", "name"] [3, 2, 1] [.non] (spF K F_Still___init__) :=
  dnk_dfl (ps := ["self", "name", "days", "times"]) 1 ["times", "days", "name"] [3, 2, 1] E.f_Still___init__ (by simp) (fun fd F => fn_Still___init__ E F) (fun _ _ _ _ _ _ _ us its ws h1 h2 h3 => match us, its, ws, h1, h2, h3 with | [_], [_], [_, _, _], _, _, _ => ⟨_, rfl, rfl⟩)
end
end Tm

namespace Tm
open PySem PySem.Spec PyProof.Rows L2
def L_law_1_7 : Sv := (sIf (mOrT (mTst (mOp oNe (mFld ["Rule"] "cap" (mMk "Rule" F_Rule___init__ [] (mPerm [3, 0, 4, 2] dt_Rule___init___0 2 (mCons (mVar 2) (mCons (mVar 2) mNil))))) (mVar 2))) (mTst (mOp oNotN (mFld ["Still", "Anew", "Lift"] "times" (mMk "Still" F_Still___init__ [] (mPerm [1, 2, 0] dt_Still___init___0 2 (mCons (mC (.str "a")) (mCons (mC (.int 1)) mNil))))) (mC .non)))) (sRet (mC (.bl false))) sNext)
def L_law_1_6 : Sv := (sSeq (sIf (mOrT (mTst (mOp (oEqT tbKE true) (mMeth "Rule" "kind" F_Rule_kind [] (mVar 4) (mPerm [0] [] 1 (mCons (mC (.str "x")) mNil))) (mVar 3))) (mTst (mOp (oEqT tbRE true) (mMeth "Rule" "only" F_Rule_only [] (mVar 4) (mPerm [0] [] 1 (mCons (mLst (mCons (mC (.str "x")) mNil)) mNil))) (mMk "Rule" F_Rule___init__ [] (mCons (mVar 2) (mCons (mLst (mCons (mC (.int 6)) mNil)) (mCons (mC .non) (mCons (mLst (mCons (mVar 3) mNil)) mNil)))))))) (sRet (mC (.bl false))) sNext) L_law_1_7)
def L_law_1_5 : Sv := (sSeq (sIf (mOrT (mTst (mOp (oEqT tbRE true) (mVar 4) (mMk "Rule" F_Rule___init__ [] (mCons (mVar 2) (mCons (mLst (mCons (mC (.int 6)) mNil)) (mCons (mC .non) (mCons (mLst (mCons (mVar 5) (mCons (mVar 3) mNil))) mNil))))))) (mTst (mOp (oEqT tbRE true) (mCm "Rule" F_Rule_read (mPerm [0] [] 1 (mCons (mB (bStrO tbRS) (mCons (mVar 4) mNil)) mNil))) (mVar 4)))) (sRet (mC (.bl false))) sNext) L_law_1_6)
def L_law_1_4 : Sv := (sSeq (sAsg (mMk "Rule" F_Rule___init__ [] (mPerm [6, 5, 4, 3] dt_Rule___init___0 4 (mCons (mLst (mCons (mVar 5) (mCons (mVar 3) mNil))) (mCons (mC .non) (mCons (mLst (mCons (mC (.int 6)) mNil)) (mCons (mVar 2) mNil)))))) (gNm 4)) L_law_1_5)
def L_law_1_3 : Sv := (sSeq (sIf (mTst (mOp (oNeP tbKE) (mTup (mCons (mVar 5) (mCons (mVar 6) (mCons (mVar 3) mNil)))) (mTup (mCons (mMk "Still" F_Still___init__ [] (mCons (mC (.str "a")) (mCons (mC (.int 3)) (mCons (mVar 2) mNil)))) (mCons (mMk "Anew" F_Anew___init__ dt_Anew___init___0 (mCons (mC (.str "b")) (mCons (mVar 2) mNil))) (mCons (mMk "Lift" F_Lift___init__ dt_Lift___init___0 (mCons (mC (.str "x")) (mCons (mVar 2) (mCons (mC (.int 9)) mNil)))) mNil)))))) (sRet (mC (.bl false))) sNext) L_law_1_4)
def L_law_1_2 : Sv := (sSeq (sAsg (mMk "Lift" F_Lift___init__ [] (mPerm [4, 3, 1, 2] dt_Lift___init___0 4 (mCons (mC (.int 9)) (mCons (mC .non) (mCons (mVar 2) (mCons (mC (.str "x")) mNil)))))) (gNm 3)) L_law_1_3)
def L_law_1_1 : Sv := (sSeq (sPar2 5 6 (mCons (mMk "Still" F_Still___init__ [] (mPerm [3, 2, 1] dt_Still___init___0 3 (mCons (mVar 2) (mCons (mC (.int 3)) (mCons (mC (.str "a")) mNil))))) (mCons (mMk "Anew" F_Anew___init__ [] (mPerm [2, 1, 0] dt_Anew___init___0 2 (mCons (mVar 2) (mCons (mC (.str "b")) mNil)))) mNil))) L_law_1_2)
def L_law_1 : Sv := (sSeq (sAsg (mCall F__law_number [] (mCons (mVar 0) (mCons (mVar 1) mNil))) (gNm 2)) L_law_1_1)
def b_law_1 : Sv := (sRet (mC (.bl true)))
def b_law : Sv := (sSeq (sForI (mL fRng1 (mCons (mC (.int 3)) mNil)) (gNm 1)
    L_law_1) b_law_1)
section
variable {P : Program} {w : World} {K : PySem.W.Frag} {mg : Str → Option Value} {base : Heap}
theorem sc_law : FnScope ["_law_script", "_law_zturn", "_law_zk", "_law_zlift", "_law_zrule", "_law_zstill", "_law_zanew"] ["_law_script"] (defScope s_law) := ⟨rfl, rfl, rfl, by decide +kernel, rfl, by decide +kernel, by decide +kernel⟩
theorem ok_law_of (hb : ∀ ns : List Int, ns.length ≤ 63 → ∃ S', b_law ⟨0, 0⟩ (start0 7 [.scr ns]) [] = .rt (.bl true) S') (E : Env K mg w) {fd : FuncData} (F : FunD K "law" "law" (defArgs s_law) (defBody s_law) (defScope s_law) [] [] (He.ga K "law") fd) : FnOk P w K mg base CX0 30 (He.ga K "law") fd ["_law_script"] (spLaw K) := by
  refine F.ok sc_law (fun vs H Q E h => ?_) (fun cdv A outer s H vs Q X hr h => ?_)
  · obtain ⟨a, ns, rfl, _⟩ := h
    rfl
  · have hu := hr.units
    exact law_body (W := fun cls d _ H' => X cls d H') (g := b_law) (PSs.nox (s_cons (s_for PassesOwn.never rfl (i_range1 E.g_range (m_cons m_int m_nil)) (g_name 1 sc_law.nd)
      (s_cons (s_set 2 sc_law.nd (m_call (ok__law_number (K := K) E) (hr.mono (by decide)) E.g__law_number pA0 (fun _ _ => .nil) (m_cons (m_var 0) (m_cons (m_var 1) m_nil))))
      (s_cons (s_par2 5 6 sc_law.nd (m_cons (m_mkK E.mk_Still (okk_Still___init___times_days_name (K := K) E) (hr.mono (by decide)) E.g_Still pA0 (dr_Still___init___0 E) (m_kcons (m_var 2) (m_kcons m_int (m_kcons m_str m_knil)))) (m_cons (m_mkK E.mk_Anew (okk_Anew___init___left_name (K := K) E) (hr.mono (by decide)) E.g_Anew pA0 (dr_Anew___init___0 E) (m_kcons (m_var 2) (m_kcons m_str m_knil))) m_nil)))
      (s_cons (s_set 3 sc_law.nd (m_mkK E.mk_Lift (okk_Lift___init___top_times_by_name (K := K) E) (hr.mono (by decide)) E.g_Lift pA0 (dr_Lift___init___0 E) (m_kcons m_int (m_kcons m_non (m_kcons (m_var 2) (m_kcons m_str m_knil))))))
      (s_cons (s_if (m_tcmp (q_neP hr.units0 (tbKE_ok E (hr.mono (by decide)))) oNeP_ok (m_tup (m_cons (m_var 5) (m_cons (m_var 6) (m_cons (m_var 3) m_nil)))) (m_tup (m_cons (m_mk E.mk_Still (ok_Still___init__ (K := K) E) (hr.mono (by decide)) E.g_Still pA0 (fun _ _ => .nil) (m_cons m_str (m_cons m_int (m_cons (m_var 2) m_nil)))) (m_cons (m_mk E.mk_Anew (ok_Anew___init___0 (K := K) E) (hr.mono (by decide)) E.g_Anew pA0 (dr_Anew___init___0 E) (m_cons m_str (m_cons (m_var 2) m_nil))) (m_cons (m_mk E.mk_Lift (ok_Lift___init___0 (K := K) E) (hr.mono (by decide)) E.g_Lift pA0 (dr_Lift___init___0 E) (m_cons m_str (m_cons (m_var 2) (m_cons m_int m_nil)))) m_nil)))) (nomark _)) (s_one (s_ret m_bl)) s_nil)
      (s_cons (s_set 4 sc_law.nd (m_mkK E.mk_Rule (okk_Rule___init___kinds_cap_rests_length (K := K) E) (hr.mono (by decide)) E.g_Rule pA0 (dr_Rule___init___0 E) (m_kcons (m_lst (m_cons (m_var 5) (m_cons (m_var 3) m_nil))) (m_kcons m_non (m_kcons (m_lst (m_cons m_int m_nil)) (m_kcons (m_var 2) m_knil))))))
      (s_cons (s_if (PW.pt (m_por (m_tcmp (q_neT (tbRE_ok E (hr.mono (by decide)))) (oEqT_ok (tbRE_n E)) (m_var 4) (m_mk E.mk_Rule (ok_Rule___init__ (K := K) E) (hr.mono (by decide)) E.g_Rule pA0 (fun _ _ => .nil) (m_cons (m_var 2) (m_cons (m_lst (m_cons m_int m_nil)) (m_cons m_non (m_cons (m_lst (m_cons (m_var 5) (m_cons (m_var 3) m_nil))) m_nil))))) (nomark _)) (m_por1 (m_tcmp (q_neT (tbRE_ok E (hr.mono (by decide)))) (oEqT_ok (tbRE_n E)) (m_cmK E.g_Rule E.c_Rule_read (okk_Rule_read_text (K := K) E) (hr.mono (by decide)) pA0 (fun _ _ => .nil) (m_kcons (m_callTy (q_strO (tbRS_ok E (hr.mono (by decide)))) bStrO_ok E.g_str bt_str (m_cons (m_var 4) m_nil)) m_knil)) (m_var 4) (nomark _))))) (s_one (s_ret m_bl)) s_nil)
      (s_cons (s_if (PW.pt (m_por (m_tcmp (q_neT (tbKE_ok E (hr.mono (by decide)))) (oEqT_ok (tbKE_n E)) (m_methK (m_var 4) E.cl_Rule E.m_Rule_kind (okk_Rule_kind_name (K := K) E) (hr.mono (by decide)) pA0 (fun _ _ => .nil) (m_kcons m_str m_knil)) (m_var 3) (nomark _)) (m_por1 (m_tcmp (q_neT (tbRE_ok E (hr.mono (by decide)))) (oEqT_ok (tbRE_n E)) (m_methK (m_var 4) E.cl_Rule E.m_Rule_only (okk_Rule_only_names (K := K) E) (hr.mono (by decide)) pA0 (fun _ _ => .nil) (m_kcons (m_lst (m_cons m_str m_nil)) m_knil)) (m_mk E.mk_Rule (ok_Rule___init__ (K := K) E) (hr.mono (by decide)) E.g_Rule pA0 (fun _ _ => .nil) (m_cons (m_var 2) (m_cons (m_lst (m_cons m_int m_nil)) (m_cons m_non (m_cons (m_lst (m_cons (m_var 3) m_nil)) m_nil))))) (nomark _))))) (s_one (s_ret m_bl)) s_nil)
      (s_one (s_if (PW.pt (m_por (m_tcmp (q_ne hu) oNe_ok (m_fld (fc_cap E) (m_mkK E.mk_Rule (okk_Rule___init___length_cap (K := K) E) (hr.mono (by decide)) E.g_Rule pA0 (dr_Rule___init___0 E) (m_kcons (m_var 2) (m_kcons (m_var 2) m_knil)))) (m_var 2) (nomark _)) (m_por1 (m_tcmp op_notN oNotN_ok (m_fld (fc_times E) (m_mkK E.mk_Still (okk_Still___init___name_days (K := K) E) (hr.mono (by decide)) E.g_Still pA0 (dr_Still___init___0 E) (m_kcons m_str (m_kcons m_int m_knil)))) m_non (nomark _))))) (s_one (s_ret m_bl)) s_nil))))))))))
      (s_one (s_ret m_bl)))) (by decide) hb h
end
end Tm

namespace Tm
open PySem PySem.Spec PyProof.Rows L2
theorem atI_nat {α : Type} {l : List α} {i : Int} {x : α} (h : 0 ≤ i) (e : l[i.toNat]? = some x) : atI l i = some x := by
  have hl := (List.getElem?_eq_some_iff.mp e).1
  unfold atI ixN
  rw [if_pos h, if_pos (by omega)]
  exact e
theorem okRs_mem {n : Nat} : ∀ {l : List T}, okRs n l = true → ∀ x ∈ l, okR n x = true
  | t :: l, h, x, hx => by
    unfold okRs at h
    rw [Bool.and_eq_true] at h
    rcases List.mem_cons.mp hx with rfl | hx
    · exact h.1
    · exact okRs_mem h.2 x hx
theorem okRs_all {n : Nat} : ∀ {l : List T}, (∀ x ∈ l, okR n x = true) → okRs n l = true
  | [], _ => rfl
  | t :: l, h => by
    unfold okRs
    rw [Bool.and_eq_true]
    exact ⟨h t (List.mem_cons_self ..), okRs_all fun x hx => h x (List.mem_cons_of_mem _ hx)⟩
/-- a loop, turn by turn, by how many are left -/
theorem forL_cnt {g : Tg} {b : Sv} {c : Cf} (I : Nat → Ro → St → Prop) : ∀ (l : List T) {ρ : Ro} {S : St}, I l.length ρ S → (∀ x k ρ S, I (k + 1) ρ S → ∃ ρ1 S1 ρ2 S2, g x c ρ S = some (ρ1, S1) ∧ b c ρ1 S1 = .nx ρ2 S2 ∧ I k ρ2 S2) → ∃ ρ' S', forL g b l c ρ S = .nx ρ' S' ∧ I 0 ρ' S'
  | [], ρ, S, h, _ => ⟨ρ, S, rfl, h⟩
  | x :: l, ρ, S, h, k => by
    obtain ⟨ρ1, S1, ρ2, S2, e1, e2, h2⟩ := k x l.length ρ S h
    obtain ⟨ρ', S', e3, h3⟩ := forL_cnt I l h2 k
    refine ⟨ρ', S', ?_, h3⟩
    unfold forL
    rw [e1]
    dsimp only
    rw [e2]
    exact e3
/-- a loop by what is done and what is left -/
theorem forL_lst {g : Tg} {b : Sv} {c : Cf} (I : List T → List T → Ro → St → Prop) : ∀ (l : List T) {done : List T} {ρ : Ro} {S : St}, I done l ρ S → (∀ x d r ρ S, I d (x :: r) ρ S → ∃ ρ1 S1 ρ2 S2, g x c ρ S = some (ρ1, S1) ∧ b c ρ1 S1 = .nx ρ2 S2 ∧ I (d ++ [x]) r ρ2 S2) → ∃ ρ' S', forL g b l c ρ S = .nx ρ' S' ∧ I (done ++ l) [] ρ' S'
  | [], done, ρ, S, h, _ => ⟨ρ, S, rfl, by simpa using h⟩
  | x :: l, done, ρ, S, h, k => by
    obtain ⟨ρ1, S1, ρ2, S2, e1, e2, h2⟩ := k x done l ρ S h
    obtain ⟨ρ', S', e3, h3⟩ := forL_lst I l h2 k
    refine ⟨ρ', S', ?_, by simpa using h3⟩
    unfold forL
    rw [e1]
    dsimp only
    rw [e2]
    exact e3
theorem v_neg (i : Int) : uNeg (.int i) = some (.int (-i)) := rfl
theorem v_eqI (i j : Int) : oEq (.int i) (.int j) = some (.bl (decide (i = j))) := rfl
theorem v_neI (i j : Int) : oNe (.int i) (.int j) = some (.bl (!decide (i = j))) := rfl
theorem v_isN_int (i : Int) : oIsN (.int i) .non = some (.bl false) := rfl
theorem v_isN_non : oIsN .non .non = some (.bl true) := rfl
theorem v_isN_str (i : Str) : oIsN (.str i) .non = some (.bl false) := rfl
theorem v_isN_tup (l : List T) : oIsN (.tup l) .non = some (.bl false) := rfl
theorem v_isN_lst (l : List T) : oIsN (.lst l) .non = some (.bl false) := rfl
theorem v_isN_obj (C : Str) (ns : List Str) (l : List T) : oIsN (.obj C ns l) .non = some (.bl false) := rfl
theorem v_notN_int (i : Int) : oNotN (.int i) .non = some (.bl true) := rfl
theorem v_notN_non : oNotN .non .non = some (.bl false) := rfl
theorem v_notN_str (i : Str) : oNotN (.str i) .non = some (.bl true) := rfl
theorem v_notN_tup (l : List T) : oNotN (.tup l) .non = some (.bl true) := rfl
theorem v_notN_lst (l : List T) : oNotN (.lst l) .non = some (.bl true) := rfl
theorem v_notN_obj (C : Str) (ns : List Str) (l : List T) : oNotN (.obj C ns l) .non = some (.bl true) := rfl
theorem v_addS {a b : Str} (h : a.length + b.length ≤ 1000000) : oAdd (.str a) (.str b) = some (.str (a ++ b)) := by
  show (if a.length + b.length ≤ 1000000 then some (T.str (a ++ b)) else none).or _ = _
  rw [if_pos h]
  rfl
theorem v_addL {a b : List T} (h : a.length + b.length ≤ 1000000) : oAdd (.lst a) (.lst b) = some (.lst (a ++ b)) := by
  show (if a.length + b.length ≤ 1000000 then some (T.lst (a ++ b)) else none) = _
  rw [if_pos h]
theorem orV_bl {S : St} (b : Bool) : orV none (some (.bl b)) S = .ok (.bl b) S := rfl
theorem vw_tup {S : St} (l : List T) : vw S (.tup l) = .tup l := rfl
theorem vw_int {S : St} (i : Int) : vw S (.int i) = .int i := rfl
theorem vw_str {S : St} (i : Str) : vw S (.str i) = .str i := rfl
theorem vw_non {S : St} : vw S .non = .non := rfl
theorem vw_bl {S : St} (b : Bool) : vw S (.bl b) = .bl b := rfl
theorem vw_obj {S : St} (C : Str) (ns : List Str) (l : List T) : vw S (.obj C ns l) = .obj C ns l := rfl
theorem seqT_tup (l : List T) : seqT (.tup l) = some l := rfl
theorem seqT_wt (l : List T) : seqT (.wt l) = some l := rfl
theorem v_lenS (ns : List Int) : bLenA [.scr ns] = some (.int ns.length) := rfl
theorem v_lenL (l : List T) : bLenA [.lst l] = some (.int l.length) := rfl
theorem v_lenT (l : List T) : bLenA [.tup l] = some (.int l.length) := rfl
theorem v_lenR (n : Nat) : bLenA [.ref n] = none := rfl
theorem v_abs (i : Int) : bAbs [.int i] = some (.int (if i < 0 then -i else i)) := rfl
theorem v_max (i j : Int) : bMax [.int i, .int j] = some (.int (max i j)) := by
  show some (T.int (if j > i then j else i)) = _
  congr 2
  omega
theorem v_min (i j : Int) : bMin [.int i, .int j] = some (.int (min i j)) := by
  show some (T.int (if j < i then j else i)) = _
  congr 2
  omega
theorem v_rng {j : Int} (h0 : 0 ≤ j) (h : j < 2 ^ 62) : fRng1 [.int j] = some (rgT 0 j.toNat) := by
  have b : -(2 ^ 62) ≤ j ∧ j < 2 ^ 62 := ⟨by omega, h⟩
  simp only [fRng1, b, and_self, if_true]
theorem rgT_length (lo : Int) (n : Nat) : (rgT lo n).length = n := by unfold rgT; simp
theorem rgT_mem {lo : Int} {n : Nat} {x : T} (h : x ∈ rgT lo n) : ∃ i : Nat, i < n ∧ x = .int (lo + (i : Int)) := by
  unfold rgT at h
  obtain ⟨i, hi, rfl⟩ := List.mem_map.mp h
  exact ⟨i, by simpa using hi, rfl⟩
theorem ix_lst {S : St} {l : List T} {i : Int} {x : T} (h : 0 ≤ i) (e : l[i.toNat]? = some x) : ixR (.lst l) (.int i) S = .ok x S := ixR_of rfl (atI_nat h e)
theorem ix_scr {S : St} {ns : List Int} {i x : Int} (h : 0 ≤ i) (e : ns[i.toNat]? = some x) : ixR (.scr ns) (.int i) S = .ok (.int x) S := ixR_of rfl (atI_nat h (by rw [List.getElem?_map, e]; rfl))
theorem ix_any {S : St} {x z : T} {l : List T} {i : Nat} (h : seqT x = some l) (e : l[i]? = some z) : ixR x (.int (i : Nat)) S = .ok z S := by
  cases x <;> first | cases h | skip
  · exact ixR_of rfl (atI_nat (by omega) (by simpa using e))
  · exact ixR_of rfl (atI_nat (by omega) (by simpa using e))
  · exact ixR_of rfl (atI_nat (by omega) (by simpa using e))
  · exact ixR_of rfl (atI_nat (by omega) (by simpa using e))
theorem ix_l0 {S : St} {a0 : T} {l : List T} : ixR (.lst (a0 :: l)) (.int 0) S = .ok a0 S := ix_any (i := 0) rfl rfl
theorem ix_l1 {S : St} {a0 a1 : T} {l : List T} : ixR (.lst (a0 :: a1 :: l)) (.int 1) S = .ok a1 S := ix_any (i := 1) rfl rfl
theorem ix_l2 {S : St} {a0 a1 a2 : T} {l : List T} : ixR (.lst (a0 :: a1 :: a2 :: l)) (.int 2) S = .ok a2 S := ix_any (i := 2) rfl rfl
theorem ix_l3 {S : St} {a0 a1 a2 a3 : T} {l : List T} : ixR (.lst (a0 :: a1 :: a2 :: a3 :: l)) (.int 3) S = .ok a3 S := ix_any (i := 3) rfl rfl
theorem ix_l4 {S : St} {a0 a1 a2 a3 a4 : T} {l : List T} : ixR (.lst (a0 :: a1 :: a2 :: a3 :: a4 :: l)) (.int 4) S = .ok a4 S := ix_any (i := 4) rfl rfl
theorem ix_t0 {S : St} {a0 : T} {l : List T} : ixR (.tup (a0 :: l)) (.int 0) S = .ok a0 S := ix_any (i := 0) rfl rfl
theorem ix_t1 {S : St} {a0 a1 : T} {l : List T} : ixR (.tup (a0 :: a1 :: l)) (.int 1) S = .ok a1 S := ix_any (i := 1) rfl rfl
theorem ix_t2 {S : St} {a0 a1 a2 : T} {l : List T} : ixR (.tup (a0 :: a1 :: a2 :: l)) (.int 2) S = .ok a2 S := ix_any (i := 2) rfl rfl
theorem ix_t3 {S : St} {a0 a1 a2 a3 : T} {l : List T} : ixR (.tup (a0 :: a1 :: a2 :: a3 :: l)) (.int 3) S = .ok a3 S := ix_any (i := 3) rfl rfl
theorem ix_t4 {S : St} {a0 a1 a2 a3 a4 : T} {l : List T} : ixR (.tup (a0 :: a1 :: a2 :: a3 :: a4 :: l)) (.int 4) S = .ok a4 S := ix_any (i := 4) rfl rfl
theorem ix_w0 {S : St} {a0 : T} {l : List T} : ixR (.wt (a0 :: l)) (.int 0) S = .ok a0 S := ix_any (i := 0) rfl rfl
theorem ix_w1 {S : St} {a0 a1 : T} {l : List T} : ixR (.wt (a0 :: a1 :: l)) (.int 1) S = .ok a1 S := ix_any (i := 1) rfl rfl
theorem ix_w2 {S : St} {a0 a1 a2 : T} {l : List T} : ixR (.wt (a0 :: a1 :: a2 :: l)) (.int 2) S = .ok a2 S := ix_any (i := 2) rfl rfl
theorem ix_w3 {S : St} {a0 a1 a2 a3 : T} {l : List T} : ixR (.wt (a0 :: a1 :: a2 :: a3 :: l)) (.int 3) S = .ok a3 S := ix_any (i := 3) rfl rfl
theorem ix_w4 {S : St} {a0 a1 a2 a3 a4 : T} {l : List T} : ixR (.wt (a0 :: a1 :: a2 :: a3 :: a4 :: l)) (.int 4) S = .ok a4 S := ix_any (i := 4) rfl rfl
theorem vw_ref {S : St} {n : Nat} {l : List T} (h : S[n]? = some (.lst l)) : vw S (.ref n) = .lst l := by show unlk ((S[n]?).getD .non) = _; rw [h]; rfl
theorem sq_nat {j n : Nat} (h : j < n) : seqIndex? ((j : Nat) : Int) n = some j := by
  have h0 : ¬ ((j : Nat) : Int) < 0 := by omega
  have : (decide (0 ≤ ((j : Nat) : Int)) && decide (((j : Nat) : Int) < (n : Int))) = true := by simp; omega
  simp only [seqIndex?, h0, if_false, this, if_true, Int.toNat_natCast]
theorem lPopAt_nat {l : List T} {j : Nat} {x : T} (e : l[j]? = some x) (hj : j < 1000000) : lPopAt l [.int (j : Nat)] = some (x, l.eraseIdx j) := by
  have hl := (List.getElem?_eq_some_iff.mp e).1
  have b : -(2 ^ 63) ≤ ((j : Nat) : Int) ∧ ((j : Nat) : Int) < 2 ^ 63 := ⟨by omega, by omega⟩
  simp only [lPopAt, b, and_self, if_true, sq_nat hl, e]
theorem lmR_of {hh : List T → List T → Option (T × List T)} {c : Cf} {n : Nat} {S : St} {l ts l' : List T} {res : T} (h : S[n]? = some (.lst l)) (e : hh l ts = some (res, l')) (w : wrOk c n (.lst ts) = true) : lmR hh c n ts S = .ok res (S.set n (.lst l')) := by
  unfold lmR
  rw [h]
  dsimp only
  rw [e]
  dsimp only
  rw [if_pos w]
theorem wr_int {c : Cf} {n : Nat} {i : Int} (hf : c.fl ≤ n) : wrOk c n (.lst [.int i]) = true := by
  unfold wrOk
  simp only [hf, okR, okRs, decide_true, Bool.and_true, Bool.or_true]
theorem wr_own {c : Cf} {n : Nat} {t : T} (hf : c.fl ≤ n) (hn : c.n0 ≤ n) : wrOk c n t = true := by
  unfold wrOk
  simp only [hf, hn, decide_true, Bool.true_or, Bool.and_true]
theorem lm_popAt {c : Cf} {n : Nat} {S : St} {l : List T} {j : Nat} {x : T} (h : S[n]? = some (.lst l)) (e : l[j]? = some x) (hj : j < 1000000) (hf : c.fl ≤ n) : lmR lPopAt c n [.int (j : Nat)] S = .ok x (S.set n (.lst (l.eraseIdx j))) := lmR_of h (lPopAt_nat e hj) (wr_int hf)
theorem lApp_one {l : List T} {x : T} (hl : l.length < 1000000) : lApp l [x] = some (.non, l ++ [x]) := by
  simp only [lApp, hl, if_true]
theorem lm_app {c : Cf} {n : Nat} {S : St} {l : List T} {x : T} (h : S[n]? = some (.lst l)) (hl : l.length < 1000000) (hf : c.fl ≤ n) (hn : c.n0 ≤ n) : lmR lApp c n [x] S = .ok .non (S.set n (.lst (l ++ [x]))) := lmR_of h (lApp_one hl) (wr_own hf hn)
theorem vw_lst {S : St} (l : List T) : vw S (.lst l) = .lst l := rfl
theorem seqT_lst (l : List T) : seqT (.lst l) = some l := rfl
theorem orV_int {S : St} (i : Int) : orV none (some (.int i)) S = .ok (.int i) S := rfl
theorem v_rngN {n : Nat} (h : n < 1000000) : fRng1 [.int (n : Nat)] = some (rgT 0 n) := by
  have b : -(2 ^ 62) ≤ ((n : Nat) : Int) ∧ ((n : Nat) : Int) < 2 ^ 62 := ⟨by omega, by omega⟩
  simp only [fRng1, b, and_self, if_true, Int.toNat_natCast]
/-! cells behind older ones -/
theorem app_g0 {S l : St} : (S ++ l)[S.length]? = l[0]? := by rw [List.getElem?_append_right (Nat.le_refl _), Nat.sub_self]
theorem app_gn {S l : St} {j : Nat} : (S ++ l)[S.length + j]? = l[j]? := by rw [List.getElem?_append_right (Nat.le_add_right ..), Nat.add_sub_cancel_left]
theorem app_s0 {S l : St} {x : T} : (S ++ l).set S.length x = S ++ l.set 0 x := by rw [List.set_append_right (h := Nat.le_refl _), Nat.sub_self]
theorem app_sn {S l : St} {j : Nat} {x : T} : (S ++ l).set (S.length + j) x = S ++ l.set j x := by rw [List.set_append_right (h := Nat.le_add_right ..), Nat.add_sub_cancel_left]
theorem app_take {S l : St} : (S ++ l).take S.length = S := by simp
mutual
/-- no locked cell in it -/
def nlk : T → Bool
  | .tup l => nlks l
  | .wt l => nlks l
  | .lst l => nlks l
  | .dK _ l => nlks l
  | .dT _ l => nlks l
  | .obj _ _ l => nlks l
  | .lk _ => false
  | .exc .. => false
  | _ => true
def nlks : List T → Bool
  | [] => true
  | t :: l => nlk t && nlks l
end
mutual
theorem fzT_id {fs : List T → Option (List T)} {n : Nat} {S : St} : ∀ {t : T}, okR n t = true → nlk t = true → fzT fs n S t = some t
  | .tup l, h, g => by unfold okR at h; unfold nlk at g; unfold fzT; rw [fzTs_id h g]; rfl
  | .wt l, h, g => by unfold okR at h; unfold nlk at g; unfold fzT; rw [fzTs_id h g]; rfl
  | .lst l, h, g => by unfold okR at h; unfold nlk at g; unfold fzT; rw [fzTs_id h g]; rfl
  | .dK _ l, h, g => by unfold okR at h; unfold nlk at g; unfold fzT; rw [fzTs_id h g]; rfl
  | .dT _ l, h, g => by unfold okR at h; unfold nlk at g; unfold fzT; rw [fzTs_id h g]; rfl
  | .obj _ _ l, h, g => by unfold okR at h; unfold nlk at g; unfold fzT; rw [fzTs_id h g]; rfl
  | .ref k, h, _ => by unfold okR at h; unfold fzT; exact if_pos (by simpa using h)
  | .lam _, h, _ => by unfold okR at h; cases h
  | .lk _, _, g => by unfold nlk at g; cases g
  | .exc .., _, g => by unfold nlk at g; cases g
  | .non, _, _ => by unfold fzT; rfl
  | .bl _, _, _ => by unfold fzT; rfl
  | .int _, _, _ => by unfold fzT; rfl
  | .str _, _, _ => by unfold fzT; rfl
  | .cls _, _, _ => by unfold fzT; rfl
  | .scr _, _, _ => by unfold fzT; rfl
  | .fn _, _, _ => by unfold fzT; rfl
theorem fzTs_id {fs : List T → Option (List T)} {n : Nat} {S : St} : ∀ {l : List T}, okRs n l = true → nlks l = true → fzTs fs n S l = some l
  | [], _, _ => by unfold fzTs; rfl
  | t :: l, h, g => by
    unfold okRs at h
    unfold nlks at g
    rw [Bool.and_eq_true] at h g
    unfold fzTs
    rw [fzT_id h.1 g.1, fzTs_id h.2 g.2]
end
theorem nlks_mem : ∀ {l : List T}, nlks l = true → ∀ x ∈ l, nlk x = true
  | t :: l, h, x, hx => by
    unfold nlks at h
    rw [Bool.and_eq_true] at h
    rcases List.mem_cons.mp hx with rfl | hx
    · exact h.1
    · exact nlks_mem h.2 x hx
theorem nlks_all : ∀ {l : List T}, (∀ x ∈ l, nlk x = true) → nlks l = true
  | [], _ => rfl
  | t :: l, h => by
    unfold nlks
    rw [Bool.and_eq_true]
    exact ⟨h t (List.mem_cons_self ..), nlks_all fun x hx => h x (List.mem_cons_of_mem _ hx)⟩
theorem fz_lst {n k : Nat} {S : St} {l : List T} (hk : n ≤ k) (h : S[k]? = some (.lst l)) (ok : okRs n l = true) (nl : nlks l = true) : fz n S (.ref k) = some (.lst l) := by
  have e : okR n (.ref k) = false := by unfold okR; simpa using hk
  unfold fz
  rw [if_neg (by rw [e]; decide)]
  unfold fzT
  rw [if_neg (by omega), h]
  show ((fzL 2 n S l).map T.lst) = _
  unfold fzL
  rw [fzTs_id ok nl]
  rfl
theorem endS_lst {S S' : St} {k : Nat} {l : List T} (hk : S.length ≤ k) (h : S'[k]? = some (.lst l)) (ok : okRs S.length l = true) (nl : nlks l = true) : endS S (.rt (.ref k) S') = .ok (.lst l) (S'.take S.length) := by
  show (match fz S.length S' (.ref k) with | some r => Rs.ok r (S'.take S.length) | none => .st) = _
  rw [fz_lst hk h ok nl]
theorem finP_lst {S S' : St} {k : Nat} {l : List T} (h : S'[k]? = some (.lst l)) (ok : okRs 0 l = true) (nl : nlks l = true) : finP (.rt (.ref k) S') S = .ok (.lst l) S := by
  show (match fz 0 S' (.ref k) with | some r => Rs.ok r S | none => .st) = _
  rw [fz_lst (Nat.zero_le _) h ok nl]
/-! a box of draws in the cell b -/
structure Box where
  g : Int
  n : Int
  g0 : 0 ≤ g
  n1 : 1 ≤ n
  n2 : n ≤ 2147483629
def Box.t (B : Box) : T := .lst [.int B.g, .int B.n]
def bx (S : St) (b : Nat) (B : Box) : St := S.set b B.t
section
variable {S l : St} {b i k : Nat} {B B' : Box} {x : T}
theorem bx_len : (bx S b B).length = S.length := List.length_set
theorem bx_bx : bx (bx S b B) b B' = bx S b B' := List.set_set ..
theorem bx_app (h : b < S.length) : bx S b B ++ l = bx (S ++ l) b B := (List.set_append_left b B.t h).symm
theorem bx_get (h : b < S.length) : (bx S b B)[b]? = some B.t := List.getElem?_set_self h
theorem bx_ne (h : i ≠ b) : (bx S b B)[i]? = S[i]? := List.getElem?_set_ne h.symm
theorem bx_set (h : i ≠ b) : (bx S b B).set i x = bx (S.set i x) b B := List.set_comm _ _ h.symm
theorem bx_take (h : b < k) : (bx S b B).take k = bx (S.take k) b B := List.take_set ..
theorem bx_self (h : S[b]? = some B.t) : bx S b B = S := by
  obtain ⟨q, e⟩ := List.getElem?_eq_some_iff.mp h
  unfold bx
  rw [← e]
  exact List.set_getElem_self q
end
def Box.raw (B : Box) : Int := (B.n * 40014 + 47) % 2147483563
def Box.n' (B : Box) : Int := (B.raw * 40692 + 3581) % 2147483629 + 1
def Box.val (B : Box) (m : Int) : Int := if 0 < B.g then B.g % m else ((B.raw * 2147483647 + B.n') / 8191) % m
theorem Box.n'_1 (B : Box) : 1 ≤ B.n' := by
  have := Int.emod_nonneg (B.raw * 40692 + 3581) (show (2147483629 : Int) ≠ 0 by decide)
  unfold Box.n'
  omega
theorem Box.n'_2 (B : Box) : B.n' ≤ 2147483629 := by
  have := Int.emod_lt_of_pos (B.raw * 40692 + 3581) (show (0 : Int) < 2147483629 by decide)
  unfold Box.n'
  omega
def Box.nxt (B : Box) (m : Int) : Box := if h : 0 < B.g ∧ 0 < m then ⟨B.g / m, B.n, Int.ediv_nonneg B.g0 (Int.le_of_lt h.2), B.n1, B.n2⟩ else ⟨B.g, B.n', B.g0, B.n'_1, B.n'_2⟩
theorem Box.val_ge (B : Box) {m : Int} (h : 0 < m) : 0 ≤ B.val m := by
  unfold Box.val
  split <;> exact Int.emod_nonneg _ (by omega)
theorem Box.val_lt (B : Box) {m : Int} (h : 0 < m) : B.val m < m := by
  unfold Box.val
  split <;> exact Int.emod_lt_of_pos _ h
/-- a thing at a place -/
def pick (l : List T) (i : Int) : T := l.getD i.toNat .non
theorem pick_get {l : List T} {i : Int} (h0 : 0 ≤ i) (h : i < l.length) : l[i.toNat]? = some (pick l i) := by
  have : i.toNat < l.length := by omega
  unfold pick
  rw [List.getD_eq_getElem?_getD, List.getElem?_eq_getElem this]
  rfl
theorem pick_mem {l : List T} {i : Int} (h0 : 0 ≤ i) (h : i < l.length) : pick l i ∈ l := List.mem_of_getElem? (pick_get h0 h)

end Tm

namespace Tm
open PySem PySem.Spec PyProof.Rows L2
/-! further words for running -/
/-- an end that goes on, by what holds then -/
def Nx (I : Ro → St → Prop) (o : Ou) : Prop := ∃ ρ S, o = .nx ρ S ∧ I ρ S
theorem Nx.mk {I : Ro → St → Prop} {ρ : Ro} {S : St} (h : I ρ S) : Nx I (.nx ρ S) := ⟨ρ, S, rfl, h⟩
/-- a loop by an invariant, then what comes next -/
theorem for_then {g : Tg} {b : Sv} {c : Cf} {k : Ro → St → Ou} {P : Ou → Prop} (I : Ro → St → Prop) {l : List T} {ρ : Ro} {S : St} (h : I ρ S) (hk : ∀ x ∈ l, ∀ ρ S, I ρ S → ∃ ρ1 S1, g x c ρ S = some (ρ1, S1) ∧ Nx I (b c ρ1 S1)) (hP : ∀ ρ S, I ρ S → P (k ρ S)) : P (Ou.sq (forL g b l c ρ S) k) := by
  obtain ⟨ρ', S', e, h'⟩ := forL_inv I l h fun x hx ρ S hi => by
    obtain ⟨ρ1, S1, e1, ρ2, S2, e2, h2⟩ := hk x hx ρ S hi
    exact ⟨ρ1, S1, ρ2, S2, e1, e2, h2⟩
  rw [e]
  exact hP ρ' S' h'
theorem for_last {g : Tg} {b : Sv} {c : Cf} {P : Ou → Prop} (I : Ro → St → Prop) {l : List T} {ρ : Ro} {S : St} (h : I ρ S) (hk : ∀ x ∈ l, ∀ ρ S, I ρ S → ∃ ρ1 S1, g x c ρ S = some (ρ1, S1) ∧ Nx I (b c ρ1 S1)) (hP : ∀ ρ S, I ρ S → P (.nx ρ S)) : P (forL g b l c ρ S) := by
  obtain ⟨ρ', S', e, h'⟩ := forL_inv I l h fun x hx ρ S hi => by
    obtain ⟨ρ1, S1, e1, ρ2, S2, e2, h2⟩ := hk x hx ρ S hi
    exact ⟨ρ1, S1, ρ2, S2, e1, e2, h2⟩
  rw [e]
  exact hP ρ' S' h'
/-! calls: not by unfolding, so that the kernel does not unfold the callee -/
section
variable {c : Cf} {ρ : Ro} {S : St} {x : T}
theorem e_callX {F : Fn} {ds ts : List T} : kCall F ds c ts S = F c (ts ++ ds) S := Eq.trans rfl (Eq.refl _)
theorem e_cmX {C : Str} {F : Fn} {ts : List T} : kCm C F c ts S = F c (.cls C :: ts) S := Eq.trans rfl (Eq.refl _)
theorem e_methX {Fm : Fn} {ds ts : List T} : kMeth2 Fm ds x c ts S = Fm c (x :: (ts ++ ds)) S := Eq.trans rfl (Eq.refl _)
theorem ap_callX {F : Fn} {ds : List T} : callF F ds c ρ S = F c ds S := Eq.trans rfl (Eq.refl _)
end
/-! cells in a row -/
def refsT : Nat → Nat → List T
  | _, 0 => []
  | n, k + 1 => .ref n :: refsT (n + 1) k
theorem refsT_len : ∀ {k n : Nat}, (refsT n k).length = k
  | 0, _ => rfl
  | k + 1, n => by
    show (refsT (n + 1) k).length + 1 = k + 1
    rw [refsT_len]
theorem refsT_get : ∀ {k n i : Nat}, i < k → (refsT n k)[i]? = some (.ref (n + i))
  | k + 1, n, 0, _ => rfl
  | k + 1, n, i + 1, h => by
    show (refsT (n + 1) k)[i]? = _
    rw [refsT_get (by omega), Nat.add_assoc, Nat.add_comm 1 i]
theorem fzTs_refs {d n : Nat} {S' : St} : ∀ (ls : List (List T)) (k0 : Nat), n ≤ k0 → (∀ (i : Nat) (l : List T), ls[i]? = some l → S'[k0 + i]? = some (.lst l) ∧ okRs n l = true ∧ nlks l = true) → fzTs (fzL (d + 1) n S') n S' (refsT k0 ls.length) = some (ls.map T.lst)
  | [], _, _, _ => rfl
  | l :: ls, k0, hk, h => by
    obtain ⟨h1, h2, h3⟩ := h 0 l rfl
    have ih := fzTs_refs (d := d) (n := n) (S' := S') ls (k0 + 1) (by omega) fun i l' hl => by
      have := h (i + 1) l' hl
      rw [show k0 + (i + 1) = k0 + 1 + i by omega] at this
      exact this
    rw [List.length_cons]
    show fzTs _ n S' (.ref k0 :: refsT (k0 + 1) ls.length) = _
    unfold fzTs
    have e : fzT (fzL (d + 1) n S') n S' (.ref k0) = some (.lst l) := by
      unfold fzT
      rw [if_neg (by omega)]
      rw [Nat.add_zero] at h1
      rw [h1]
      show ((fzL (d + 1) n S' l).map T.lst) = _
      unfold fzL
      rw [fzTs_id h2 h3]
      rfl
    rw [e, ih]
    rfl

end Tm

namespace Tm
open PySem PySem.Spec PyProof.Rows L2
local macro_rules | `(tactic| walk_at "nm") => `(tactic| simp (disch := first | assumption | (simp only [okR_non, okR_bl, okR_int, okR_str, okR_cls, okR_fn, okR_scr, okR_tup, okR_wt, okR_lst, okR_obj, okR_dK, okR_dT, okR_ref, okRs_nil, okRs_cons, Bool.and_true, Bool.true_and, Bool.and_self]; done) | (simp only [okR_non, okR_bl, okR_int, okR_str, okR_cls, okR_fn, okR_scr, okR_tup, okR_wt, okR_lst, okR_obj, okR_dK, okR_dT, okR_ref, okRs_nil, okRs_cons, Bool.and_true, Bool.true_and, Bool.and_self]; assumption) | (simp only [okR_tup, okR_lst, okR_obj, okRs_cons, okRs_nil, okR_int, okR_str, okR_non, okR_bl, okR_ref, Bool.and_true, Bool.true_and, Bool.and_self, *]; done) | decide | with_unfolding_all rfl | omega | (simp only [List.length_cons, List.length_nil, List.length_append, List.length_map, List.length_set, bx_len, Nat.reduceAdd, Nat.reduceLeDiff, Nat.reduceLT]; done) | (simp only [List.length_cons, List.length_nil, List.length_append, List.length_map, List.length_set, bx_len]; omega)) only [ap_runS, ap_runP, ap_runO, endS_nx, endO_nx, endS_rt, endO_rt, finP_nx, finP_rt, start0, bd_ok, ouE_ok, sq_nx, sq_rt, ap_sSeq, ap_sNext, ap_mC, orV_some, ap_mNil, ap_callF, bd_ex, ouE_ex, sq_ex, sq_br, sq_ct, optR_some, e_op, e_op1, e_op2, e_opF, e_opF1, e_opF2, e_un, e_un1, e_cons, e_cons1, e_cons2, e_b, e_b1, e_tst, e_tst1, e_notT, e_notT1, e_andT, e_andTt, e_andTf, e_orT, e_orTt, e_orTf, e_ifE, e_ifEt, e_ifEf, e_and, e_andt, e_andf, e_or, e_ort, e_orf, e_not, e_not1, e_ch, e_ch1, e_ch2, e_cht, e_chf, e_ch3, e_tup, e_tup1, e_lst, e_lst1, e_lstC, e_lstC1, e_dicK, e_dicT, e_call, e_call1, e_cm, e_cm1, e_ix, e_ix1, e_ix2, e_fld, e_fld1, e_meth, e_meth1, e_methO, e_meth2, e_mk, e_mkL, e_new, newR_ok, e_txt, e_txt1, e_txt2, e_sl, e_sl1, e_sl2, e_sl3, e_part, e_part1, e_noPart, e_listOf, e_listOf1, e_listC, e_listC1, e_listC2, tupOf_l, tupOf_t, e_tupOf, e_tupOf1, e_in, e_in1, e_in2, e_inN, e_inF, e_inT, e_getE, e_get, e_get1, e_getR, e_get2, e_get3, e_lm, e_lm1, e_lmG, e_lm2, e_star, e_star1, e_starR, e_star2, e_seq, e_seqL, e_seqT, e_seqW, e_seqN, e_seqR, e_seqC, e_seqS, e_seqS1, e_fixR, e_enum, e_enum1, e_enR, e_L, e_L1, e_lc, e_lc1, lcE_ok, lcS_fix, lcL_nil, e_yes, e_js0, e_js, e_js1, asgR_ok, e_asg, e_asg1, e_ret, e_ret1, e_expr, e_expr1, e_if, e_ift, e_iff, e_for, e_for1, e_forC, e_forE, e_enRr, e_enC, seqT_ref, putR_ok, e_itm, e_itm1, e_itm2, e_itm3, e_fldC, e_fldC1, e_fldC2, e_par2, e_par21, e_par3, e_par31, e_aug, e_addC, e_addC1, e_addC2, e_rev, e_rev1, e_revC, e_revC1, e_raise, e_raise1, endS_ex, endO_ex, finP_ex, mkR_ex, e_try, e_tryN, e_tryR, e_gTup, e_gTupL, e_gT0, e_gT1, e_gtR, e_gFld, e_gfV, e_gfR, ap_gNm, e_var, e_var1, e_forG, e_forKn, e_forKc, e_forKb, e_forKr, v_add, v_sub, v_neg, ix_l0, ix_l1, ix_l2, ix_l3, ix_l4, ix_t0, ix_t1, ix_t2, ix_t3, ix_t4, ix_w0, ix_w1, ix_w2, ix_w3, ix_w4, v_gt, v_lt, v_ge, v_le, v_int, v_max, v_min, v_mod, v_fdiv, v_lenS, v_lenL, v_lenT, v_lenR, v_eqI, v_neI, v_isN_int, v_isN_non, v_isN_str, v_isN_tup, v_isN_lst, v_isN_obj, v_notN_int, v_notN_non, v_notN_str, v_notN_tup, v_notN_lst, v_notN_obj, v_addS, v_addL, orV_int, orV_bl, vw_lst, vw_tup, vw_int, vw_str, vw_non, vw_obj, vw_bl, seqT_lst, seqT_tup, seqT_wt, v_abs, okR_non, okR_bl, okR_int, okR_str, okR_cls, okR_fn, okR_scr, okR_tup, okR_wt, okR_lst, okR_obj, okR_dK, okR_dT, okR_ref, okRs_nil, okRs_cons, List.length_append, List.append_assoc, List.map_cons, List.map_nil, List.length_cons, List.length_nil, List.cons_append, List.nil_append, List.append_nil, List.replicate_succ, List.replicate_zero, List.getElem?_cons_zero, List.getElem?_cons_succ, List.set_cons_zero, List.set_cons_succ, Nat.reduceAdd, Nat.reduceSub, Nat.reduceLT, Nat.reduceLeDiff, Int.cast_ofNat_Int, eq_self, Int.reduceEq, Int.reduceLT, Int.reduceLE, Int.reduceAdd, Int.reduceSub, Int.reduceMul, if_true, if_false, reduceIte, Bool.true_eq_false, Bool.false_eq_true, Bool.not_true, Bool.not_false, Bool.and_self, decide_true, decide_false, Option.getD_some, Option.getD_none, Option.map_some, Option.isSome_some, Option.isSome_none, List.length_set, List.take_of_length_le, Nat.le_refl, *])
local macro_rules | `(tactic| walk_at "nl") => `(tactic| simp (disch := first | assumption | (simp only [okR_non, okR_bl, okR_int, okR_str, okR_cls, okR_fn, okR_scr, okR_tup, okR_wt, okR_lst, okR_obj, okR_dK, okR_dT, okR_ref, okRs_nil, okRs_cons, Bool.and_true, Bool.true_and, Bool.and_self]; done) | (simp only [okR_non, okR_bl, okR_int, okR_str, okR_cls, okR_fn, okR_scr, okR_tup, okR_wt, okR_lst, okR_obj, okR_dK, okR_dT, okR_ref, okRs_nil, okRs_cons, Bool.and_true, Bool.true_and, Bool.and_self]; assumption) | (simp only [okR_tup, okR_lst, okR_obj, okRs_cons, okRs_nil, okR_int, okR_str, okR_non, okR_bl, okR_ref, Bool.and_true, Bool.true_and, Bool.and_self, *]; done) | decide | with_unfolding_all rfl | omega | (simp only [List.length_cons, List.length_nil, List.length_append, List.length_map, List.length_set, bx_len, Nat.reduceAdd, Nat.reduceLeDiff, Nat.reduceLT]; done) | (simp only [List.length_cons, List.length_nil, List.length_append, List.length_map, List.length_set, bx_len]; omega)) only [e_forS, e_forN, e_lcS, e_lcG, e_lcBt, e_lcBf, e_lcA, enT, ap_runS, ap_runP, ap_runO, endS_nx, endO_nx, endS_rt, endO_rt, finP_nx, finP_rt, start0, bd_ok, ouE_ok, sq_nx, sq_rt, ap_sSeq, ap_sNext, ap_mC, orV_some, ap_mNil, ap_callF, bd_ex, ouE_ex, sq_ex, sq_br, sq_ct, optR_some, e_op, e_op1, e_op2, e_opF, e_opF1, e_opF2, e_un, e_un1, e_cons, e_cons1, e_cons2, e_b, e_b1, e_tst, e_tst1, e_notT, e_notT1, e_andT, e_andTt, e_andTf, e_orT, e_orTt, e_orTf, e_ifE, e_ifEt, e_ifEf, e_and, e_andt, e_andf, e_or, e_ort, e_orf, e_not, e_not1, e_ch, e_ch1, e_ch2, e_cht, e_chf, e_ch3, e_tup, e_tup1, e_lst, e_lst1, e_lstC, e_lstC1, e_dicK, e_dicT, e_call, e_call1, e_cm, e_cm1, e_ix, e_ix1, e_ix2, e_fld, e_fld1, e_meth, e_meth1, e_methO, e_meth2, e_mk, e_mkL, e_new, newR_ok, e_txt, e_txt1, e_txt2, e_sl, e_sl1, e_sl2, e_sl3, e_part, e_part1, e_noPart, e_listOf, e_listOf1, e_listC, e_listC1, e_listC2, tupOf_l, tupOf_t, e_tupOf, e_tupOf1, e_in, e_in1, e_in2, e_inN, e_inF, e_inT, e_getE, e_get, e_get1, e_getR, e_get2, e_get3, e_lm, e_lm1, e_lmG, e_lm2, e_star, e_star1, e_starR, e_star2, e_seq, e_seqL, e_seqT, e_seqW, e_seqN, e_seqR, e_seqC, e_seqS, e_seqS1, e_fixR, e_enum, e_enum1, e_enR, e_L, e_L1, e_lc, e_lc1, lcE_ok, lcS_fix, lcL_nil, e_yes, e_js0, e_js, e_js1, asgR_ok, e_asg, e_asg1, e_ret, e_ret1, e_expr, e_expr1, e_if, e_ift, e_iff, e_for, e_for1, e_forC, e_forE, e_enRr, e_enC, seqT_ref, putR_ok, e_itm, e_itm1, e_itm2, e_itm3, e_fldC, e_fldC1, e_fldC2, e_par2, e_par21, e_par3, e_par31, e_aug, e_addC, e_addC1, e_addC2, e_rev, e_rev1, e_revC, e_revC1, e_raise, e_raise1, endS_ex, endO_ex, finP_ex, mkR_ex, e_try, e_tryN, e_tryR, e_gTup, e_gTupL, e_gT0, e_gT1, e_gtR, e_gFld, e_gfV, e_gfR, ap_gNm, e_var, e_var1, e_forG, e_forKn, e_forKc, e_forKb, e_forKr, v_add, v_sub, v_neg, ix_l0, ix_l1, ix_l2, ix_l3, ix_l4, ix_t0, ix_t1, ix_t2, ix_t3, ix_t4, ix_w0, ix_w1, ix_w2, ix_w3, ix_w4, v_gt, v_lt, v_ge, v_le, v_int, v_max, v_min, v_mod, v_fdiv, v_lenS, v_lenL, v_lenT, v_lenR, v_eqI, v_neI, v_isN_int, v_isN_non, v_isN_str, v_isN_tup, v_isN_lst, v_isN_obj, v_notN_int, v_notN_non, v_notN_str, v_notN_tup, v_notN_lst, v_notN_obj, v_addS, v_addL, orV_int, orV_bl, vw_lst, vw_tup, vw_int, vw_str, vw_non, vw_obj, vw_bl, seqT_lst, seqT_tup, seqT_wt, v_abs, okR_non, okR_bl, okR_int, okR_str, okR_cls, okR_fn, okR_scr, okR_tup, okR_wt, okR_lst, okR_obj, okR_dK, okR_dT, okR_ref, okRs_nil, okRs_cons, List.length_append, List.append_assoc, List.map_cons, List.map_nil, List.length_cons, List.length_nil, List.cons_append, List.nil_append, List.append_nil, List.replicate_succ, List.replicate_zero, List.getElem?_cons_zero, List.getElem?_cons_succ, List.set_cons_zero, List.set_cons_succ, Nat.reduceAdd, Nat.reduceSub, Nat.reduceLT, Nat.reduceLeDiff, Int.cast_ofNat_Int, eq_self, Int.reduceEq, Int.reduceLT, Int.reduceLE, Int.reduceAdd, Int.reduceSub, Int.reduceMul, if_true, if_false, reduceIte, Bool.true_eq_false, Bool.false_eq_true, Bool.not_true, Bool.not_false, Bool.and_self, decide_true, decide_false, Option.getD_some, Option.getD_none, Option.map_some, Option.isSome_some, Option.isSome_none, List.length_set, List.take_of_length_le, Nat.le_refl, *])
section
variable {c : Cf} {S : St}
theorem cut_len {l : List T} {n : Int} (h : 0 ≤ n) : ∃ m, cutT l none (some n) = l.take m := by
  refine ⟨min n.toNat l.length, ?_⟩
  unfold cutT
  have e0 : HT.sIx l.length 0 none = 0 := rfl
  have e1 : HT.sIx l.length l.length (some n) = min n.toNat l.length := by
    show (if n < 0 then (n + (l.length : Int)).toNat else min n.toNat l.length) = _
    rw [if_neg (by omega)]
  rw [e0, e1, List.drop_zero, Nat.sub_zero]
theorem number_eq (ns : List Int) (t : Int) : ∃ z : Int, 1 ≤ z ∧ z ≤ 9 ∧ ∀ c S, F__law_number c [.scr ns, .int t] S = .ok (.int z) S := by
  obtain ⟨m, hm⟩ := cut_len (l := ns.map T.int) (n := 50) (by decide)
  rw [← List.map_take] at hm
  have sl : oSl none (some 50) (.scr ns) = some (.lst ((ns.take m).map T.int)) := by
    show some (T.lst (cutT _ _ _)) = _
    rw [hm]
  generalize ns.take m = ms at *
  have loop : ∀ (l : List Int) (o : Option T) (r : Int), ∃ (o' : Option T) (r' : Int), forL (gNm 3) L__law_number_1 (l.map T.int) ⟨0, 0⟩ [some (.scr ns), some (.int t), some (.int r), o] [] = .nx [some (.scr ns), some (.int t), some (.int r'), o'] [] := by
    intro l
    induction l with
    | nil => exact fun o r => ⟨o, r, rfl⟩
    | cons i l ih =>
      intro o r
      obtain ⟨o', r', e⟩ := ih (some (.int i)) ((r * 37 + (if i < 0 then -i else i) % 1000003 + t) % 1000003)
      refine ⟨o', r', ?_⟩
      have m1 : oMul (.int r) (.int 37) = some (.int (r * 37)) := v_mulR (by decide) (by decide)
      have ab : bAbs [.int i] = some (.int (if i < 0 then -i else i)) := by rfl
      have b : L__law_number_1 ⟨0, 0⟩ [some (.scr ns), some (.int t), some (.int r), some (.int i)] [] = .nx [some (.scr ns), some (.int t), some (.int ((r * 37 + (if i < 0 then -i else i) % 1000003 + t) % 1000003)), some (.int i)] [] := by
        clear ih e sl hm
        generalize (if i < 0 then -i else i) = q at *
        unfold L__law_number_1
        walk_at "nm"
      rw [List.map_cons, e_forS]
      show forG _ _ _ _ (some ([some (.scr ns), some (.int t), some (.int r), some (.int i)], [])) = _
      rw [e_forG, b, e_forKn]
      exact e
  obtain ⟨o', r', ef⟩ := loop ms none (31 + t)
  have f1 : oFdiv (.int r') (.int 5) = some (.int (r' / 5)) := v_fdiv (by decide) (by decide)
  refine ⟨1 + r' / 5 % 9, by omega, by omega, fun c S => ?_⟩
  have vs : ∀ S, vw S (.scr ns) = .scr ns := fun _ => rfl
  have sq : ∀ S, kSeq (.lst (ms.map T.int)) S = .ok (.fix (ms.map T.int)) S := fun S => rfl
  clear loop hm
  generalize ms.map T.int = ml at *
  unfold F__law_number b__law_number
  generalize L__law_number_1 = Lb at *
  walk_at "nm"
def turnC (ρ : Ro) (S : St) : Option (Option T × Nat × St) := match L_law_1_1 ⟨0, 0⟩ ρ S with
  | .nx ρ2 S2 => some (ρ2.headD none, ρ2.length, S2)
  | _ => none
variable (a0 t x3 x4 x5 x6 : Option T)
theorem tc_1 : turnC [a0, t, some (.int 1), x3, x4, x5, x6] [] = some (a0, 7, []) := by kernel_rfl
theorem tc_2 : turnC [a0, t, some (.int 2), x3, x4, x5, x6] [] = some (a0, 7, []) := by kernel_rfl
theorem tc_3 : turnC [a0, t, some (.int 3), x3, x4, x5, x6] [] = some (a0, 7, []) := by kernel_rfl
theorem tc_4 : turnC [a0, t, some (.int 4), x3, x4, x5, x6] [] = some (a0, 7, []) := by kernel_rfl
theorem tc_5 : turnC [a0, t, some (.int 5), x3, x4, x5, x6] [] = some (a0, 7, []) := by kernel_rfl
theorem tc_6 : turnC [a0, t, some (.int 6), x3, x4, x5, x6] [] = some (a0, 7, []) := by kernel_rfl
theorem tc_7 : turnC [a0, t, some (.int 7), x3, x4, x5, x6] [] = some (a0, 7, []) := by kernel_rfl
theorem tc_8 : turnC [a0, t, some (.int 8), x3, x4, x5, x6] [] = some (a0, 7, []) := by kernel_rfl
theorem tc_9 : turnC [a0, t, some (.int 9), x3, x4, x5, x6] [] = some (a0, 7, []) := by kernel_rfl
theorem tc {z : Int} (h1 : 1 ≤ z) (h2 : z ≤ 9) : turnC [a0, t, some (.int z), x3, x4, x5, x6] [] = some (a0, 7, []) := by
  have : z = 1 ∨ z = 2 ∨ z = 3 ∨ z = 4 ∨ z = 5 ∨ z = 6 ∨ z = 7 ∨ z = 8 ∨ z = 9 := by omega
  rcases this with rfl | rfl | rfl | rfl | rfl | rfl | rfl | rfl | rfl
  · exact tc_1 ..
  · exact tc_2 ..
  · exact tc_3 ..
  · exact tc_4 ..
  · exact tc_5 ..
  · exact tc_6 ..
  · exact tc_7 ..
  · exact tc_8 ..
  · exact tc_9 ..
end

end Tm

namespace Tm
open PySem PySem.Spec PyProof.Rows L2
local macro_rules | `(tactic| walk_at "nm") => `(tactic| simp (disch := first | assumption | (simp only [okR_non, okR_bl, okR_int, okR_str, okR_cls, okR_fn, okR_scr, okR_tup, okR_wt, okR_lst, okR_obj, okR_dK, okR_dT, okR_ref, okRs_nil, okRs_cons, Bool.and_true, Bool.true_and, Bool.and_self]; done) | (simp only [okR_non, okR_bl, okR_int, okR_str, okR_cls, okR_fn, okR_scr, okR_tup, okR_wt, okR_lst, okR_obj, okR_dK, okR_dT, okR_ref, okRs_nil, okRs_cons, Bool.and_true, Bool.true_and, Bool.and_self]; assumption) | (simp only [okR_tup, okR_lst, okR_obj, okRs_cons, okRs_nil, okR_int, okR_str, okR_non, okR_bl, okR_ref, Bool.and_true, Bool.true_and, Bool.and_self, *]; done) | decide | with_unfolding_all rfl | omega | (simp only [List.length_cons, List.length_nil, List.length_append, List.length_map, List.length_set, bx_len, Nat.reduceAdd, Nat.reduceLeDiff, Nat.reduceLT]; done) | (simp only [List.length_cons, List.length_nil, List.length_append, List.length_map, List.length_set, bx_len]; omega)) only [ap_runS, ap_runP, ap_runO, endS_nx, endO_nx, endS_rt, endO_rt, finP_nx, finP_rt, start0, bd_ok, ouE_ok, sq_nx, sq_rt, ap_sSeq, ap_sNext, ap_mC, orV_some, ap_mNil, ap_callF, bd_ex, ouE_ex, sq_ex, sq_br, sq_ct, optR_some, e_op, e_op1, e_op2, e_opF, e_opF1, e_opF2, e_un, e_un1, e_cons, e_cons1, e_cons2, e_b, e_b1, e_tst, e_tst1, e_notT, e_notT1, e_andT, e_andTt, e_andTf, e_orT, e_orTt, e_orTf, e_ifE, e_ifEt, e_ifEf, e_and, e_andt, e_andf, e_or, e_ort, e_orf, e_not, e_not1, e_ch, e_ch1, e_ch2, e_cht, e_chf, e_ch3, e_tup, e_tup1, e_lst, e_lst1, e_lstC, e_lstC1, e_dicK, e_dicT, e_call, e_call1, e_cm, e_cm1, e_ix, e_ix1, e_ix2, e_fld, e_fld1, e_meth, e_meth1, e_methO, e_meth2, e_mk, e_mkL, e_new, newR_ok, e_txt, e_txt1, e_txt2, e_sl, e_sl1, e_sl2, e_sl3, e_part, e_part1, e_noPart, e_listOf, e_listOf1, e_listC, e_listC1, e_listC2, tupOf_l, tupOf_t, e_tupOf, e_tupOf1, e_in, e_in1, e_in2, e_inN, e_inF, e_inT, e_getE, e_get, e_get1, e_getR, e_get2, e_get3, e_lm, e_lm1, e_lmG, e_lm2, e_star, e_star1, e_starR, e_star2, e_seq, e_seqL, e_seqT, e_seqW, e_seqN, e_seqR, e_seqC, e_seqS, e_seqS1, e_fixR, e_enum, e_enum1, e_enR, e_L, e_L1, e_lc, e_lc1, lcE_ok, lcS_fix, lcL_nil, e_yes, e_js0, e_js, e_js1, asgR_ok, e_asg, e_asg1, e_ret, e_ret1, e_expr, e_expr1, e_if, e_ift, e_iff, e_for, e_for1, e_forC, e_forE, e_enRr, e_enC, seqT_ref, putR_ok, e_itm, e_itm1, e_itm2, e_itm3, e_fldC, e_fldC1, e_fldC2, e_par2, e_par21, e_par3, e_par31, e_aug, e_addC, e_addC1, e_addC2, e_rev, e_rev1, e_revC, e_revC1, e_raise, e_raise1, endS_ex, endO_ex, finP_ex, mkR_ex, e_try, e_tryN, e_tryR, e_gTup, e_gTupL, e_gT0, e_gT1, e_gtR, e_gFld, e_gfV, e_gfR, ap_gNm, e_var, e_var1, e_forG, e_forKn, e_forKc, e_forKb, e_forKr, v_add, v_sub, v_neg, ix_l0, ix_l1, ix_l2, ix_l3, ix_l4, ix_t0, ix_t1, ix_t2, ix_t3, ix_t4, ix_w0, ix_w1, ix_w2, ix_w3, ix_w4, v_gt, v_lt, v_ge, v_le, v_int, v_max, v_min, v_mod, v_fdiv, v_lenS, v_lenL, v_lenT, v_lenR, v_eqI, v_neI, v_isN_int, v_isN_non, v_isN_str, v_isN_tup, v_isN_lst, v_isN_obj, v_notN_int, v_notN_non, v_notN_str, v_notN_tup, v_notN_lst, v_notN_obj, v_addS, v_addL, orV_int, orV_bl, vw_lst, vw_tup, vw_int, vw_str, vw_non, vw_obj, vw_bl, seqT_lst, seqT_tup, seqT_wt, v_abs, okR_non, okR_bl, okR_int, okR_str, okR_cls, okR_fn, okR_scr, okR_tup, okR_wt, okR_lst, okR_obj, okR_dK, okR_dT, okR_ref, okRs_nil, okRs_cons, List.length_append, List.append_assoc, List.map_cons, List.map_nil, List.length_cons, List.length_nil, List.cons_append, List.nil_append, List.append_nil, List.replicate_succ, List.replicate_zero, List.getElem?_cons_zero, List.getElem?_cons_succ, List.set_cons_zero, List.set_cons_succ, Nat.reduceAdd, Nat.reduceSub, Nat.reduceLT, Nat.reduceLeDiff, Int.cast_ofNat_Int, eq_self, Int.reduceEq, Int.reduceLT, Int.reduceLE, Int.reduceAdd, Int.reduceSub, Int.reduceMul, if_true, if_false, reduceIte, Bool.true_eq_false, Bool.false_eq_true, Bool.not_true, Bool.not_false, Bool.and_self, decide_true, decide_false, Option.getD_some, Option.getD_none, Option.map_some, Option.isSome_some, Option.isSome_none, List.length_set, List.take_of_length_le, Nat.le_refl, *])
local macro_rules | `(tactic| walk_at "nl") => `(tactic| simp (disch := first | assumption | (simp only [okR_non, okR_bl, okR_int, okR_str, okR_cls, okR_fn, okR_scr, okR_tup, okR_wt, okR_lst, okR_obj, okR_dK, okR_dT, okR_ref, okRs_nil, okRs_cons, Bool.and_true, Bool.true_and, Bool.and_self]; done) | (simp only [okR_non, okR_bl, okR_int, okR_str, okR_cls, okR_fn, okR_scr, okR_tup, okR_wt, okR_lst, okR_obj, okR_dK, okR_dT, okR_ref, okRs_nil, okRs_cons, Bool.and_true, Bool.true_and, Bool.and_self]; assumption) | (simp only [okR_tup, okR_lst, okR_obj, okRs_cons, okRs_nil, okR_int, okR_str, okR_non, okR_bl, okR_ref, Bool.and_true, Bool.true_and, Bool.and_self, *]; done) | decide | with_unfolding_all rfl | omega | (simp only [List.length_cons, List.length_nil, List.length_append, List.length_map, List.length_set, bx_len, Nat.reduceAdd, Nat.reduceLeDiff, Nat.reduceLT]; done) | (simp only [List.length_cons, List.length_nil, List.length_append, List.length_map, List.length_set, bx_len]; omega)) only [e_forS, e_forN, e_lcS, e_lcG, e_lcBt, e_lcBf, e_lcA, enT, ap_runS, ap_runP, ap_runO, endS_nx, endO_nx, endS_rt, endO_rt, finP_nx, finP_rt, start0, bd_ok, ouE_ok, sq_nx, sq_rt, ap_sSeq, ap_sNext, ap_mC, orV_some, ap_mNil, ap_callF, bd_ex, ouE_ex, sq_ex, sq_br, sq_ct, optR_some, e_op, e_op1, e_op2, e_opF, e_opF1, e_opF2, e_un, e_un1, e_cons, e_cons1, e_cons2, e_b, e_b1, e_tst, e_tst1, e_notT, e_notT1, e_andT, e_andTt, e_andTf, e_orT, e_orTt, e_orTf, e_ifE, e_ifEt, e_ifEf, e_and, e_andt, e_andf, e_or, e_ort, e_orf, e_not, e_not1, e_ch, e_ch1, e_ch2, e_cht, e_chf, e_ch3, e_tup, e_tup1, e_lst, e_lst1, e_lstC, e_lstC1, e_dicK, e_dicT, e_call, e_call1, e_cm, e_cm1, e_ix, e_ix1, e_ix2, e_fld, e_fld1, e_meth, e_meth1, e_methO, e_meth2, e_mk, e_mkL, e_new, newR_ok, e_txt, e_txt1, e_txt2, e_sl, e_sl1, e_sl2, e_sl3, e_part, e_part1, e_noPart, e_listOf, e_listOf1, e_listC, e_listC1, e_listC2, tupOf_l, tupOf_t, e_tupOf, e_tupOf1, e_in, e_in1, e_in2, e_inN, e_inF, e_inT, e_getE, e_get, e_get1, e_getR, e_get2, e_get3, e_lm, e_lm1, e_lmG, e_lm2, e_star, e_star1, e_starR, e_star2, e_seq, e_seqL, e_seqT, e_seqW, e_seqN, e_seqR, e_seqC, e_seqS, e_seqS1, e_fixR, e_enum, e_enum1, e_enR, e_L, e_L1, e_lc, e_lc1, lcE_ok, lcS_fix, lcL_nil, e_yes, e_js0, e_js, e_js1, asgR_ok, e_asg, e_asg1, e_ret, e_ret1, e_expr, e_expr1, e_if, e_ift, e_iff, e_for, e_for1, e_forC, e_forE, e_enRr, e_enC, seqT_ref, putR_ok, e_itm, e_itm1, e_itm2, e_itm3, e_fldC, e_fldC1, e_fldC2, e_par2, e_par21, e_par3, e_par31, e_aug, e_addC, e_addC1, e_addC2, e_rev, e_rev1, e_revC, e_revC1, e_raise, e_raise1, endS_ex, endO_ex, finP_ex, mkR_ex, e_try, e_tryN, e_tryR, e_gTup, e_gTupL, e_gT0, e_gT1, e_gtR, e_gFld, e_gfV, e_gfR, ap_gNm, e_var, e_var1, e_forG, e_forKn, e_forKc, e_forKb, e_forKr, v_add, v_sub, v_neg, ix_l0, ix_l1, ix_l2, ix_l3, ix_l4, ix_t0, ix_t1, ix_t2, ix_t3, ix_t4, ix_w0, ix_w1, ix_w2, ix_w3, ix_w4, v_gt, v_lt, v_ge, v_le, v_int, v_max, v_min, v_mod, v_fdiv, v_lenS, v_lenL, v_lenT, v_lenR, v_eqI, v_neI, v_isN_int, v_isN_non, v_isN_str, v_isN_tup, v_isN_lst, v_isN_obj, v_notN_int, v_notN_non, v_notN_str, v_notN_tup, v_notN_lst, v_notN_obj, v_addS, v_addL, orV_int, orV_bl, vw_lst, vw_tup, vw_int, vw_str, vw_non, vw_obj, vw_bl, seqT_lst, seqT_tup, seqT_wt, v_abs, okR_non, okR_bl, okR_int, okR_str, okR_cls, okR_fn, okR_scr, okR_tup, okR_wt, okR_lst, okR_obj, okR_dK, okR_dT, okR_ref, okRs_nil, okRs_cons, List.length_append, List.append_assoc, List.map_cons, List.map_nil, List.length_cons, List.length_nil, List.cons_append, List.nil_append, List.append_nil, List.replicate_succ, List.replicate_zero, List.getElem?_cons_zero, List.getElem?_cons_succ, List.set_cons_zero, List.set_cons_succ, Nat.reduceAdd, Nat.reduceSub, Nat.reduceLT, Nat.reduceLeDiff, Int.cast_ofNat_Int, eq_self, Int.reduceEq, Int.reduceLT, Int.reduceLE, Int.reduceAdd, Int.reduceSub, Int.reduceMul, if_true, if_false, reduceIte, Bool.true_eq_false, Bool.false_eq_true, Bool.not_true, Bool.not_false, Bool.and_self, decide_true, decide_false, Option.getD_some, Option.getD_none, Option.map_some, Option.isSome_some, Option.isSome_none, List.length_set, List.take_of_length_le, Nat.le_refl, *])
section
variable {ns : List Int} {x1 x2 x3 x4 x5 x6 : Option T}
def Tn12 (ns : List Int) : Ro → St → Prop := fun ρ S => ∃ (x1 x2 x3 x4 x5 x6 : Option T), ρ = [some (.scr ns), x1, x2, x3, x4, x5, x6] ∧ S = []
theorem turn12 (t : Int) : Nx (Tn12 ns) (L_law_1 ⟨0, 0⟩ [some (.scr ns), some (.int t), x2, x3, x4, x5, x6] []) := by
  obtain ⟨z, h1, h2, e⟩ := number_eq ns t
  have q : L_law_1 ⟨0, 0⟩ [some (.scr ns), some (.int t), x2, x3, x4, x5, x6] [] = L_law_1_1 ⟨0, 0⟩ [some (.scr ns), some (.int t), some (.int z), x3, x4, x5, x6] [] := by
    unfold L_law_1
    generalize L_law_1_1 = N at *
    generalize F__law_number = Fa at *
    walk_at "nm"
  rw [q]
  have h := tc (some (.scr ns)) (some (.int t)) x3 x4 x5 x6 h1 h2
  unfold turnC at h
  generalize L_law_1_1 ⟨0, 0⟩ [some (.scr ns), some (.int t), some (.int z), x3, x4, x5, x6] [] = o at *
  split at h
  · rename_i ρ2 S2
    simp only [Option.some.injEq, Prod.mk.injEq] at h
    obtain ⟨ha, hl, rfl⟩ := h
    match ρ2, hl, ha with
    | [y0, y1, y2, y3, y4, y5, y6], _, ha =>
      have ha : y0 = some (.scr ns) := ha
      subst ha
      exact .mk ⟨_, _, _, _, _, _, rfl, rfl⟩
  · cases h
theorem law_all (ns : List Int) (_ : ns.length ≤ 63) : ∃ S', b_law ⟨0, 0⟩ (start0 7 [.scr ns]) [] = .rt (.bl true) S' := by
  have e : b_law ⟨0, 0⟩ (start0 7 [.scr ns]) [] = Ou.sq (forL (gNm 1) L_law_1 (rgT 0 3) ⟨0, 0⟩ [some (.scr ns), none, none, none, none, none, none] []) (b_law_1 ⟨0, 0⟩) := by rfl
  rw [e]
  refine for_then (P := fun o => ∃ S', o = Ou.rt (.bl true) S') (Tn12 ns) ⟨_, _, _, _, _, _, rfl, rfl⟩ (fun y hy ρ S hI => ?_) (fun ρ S hI => ?_)
  · obtain ⟨y1, y2, y3, y4, y5, y6, rfl, rfl⟩ := hI
    obtain ⟨i, hi, rfl⟩ := rgT_mem hy
    exact ⟨_, _, rfl, turn12 _⟩
  · obtain ⟨y1, y2, y3, y4, y5, y6, rfl, rfl⟩ := hI
    exact ⟨[], rfl⟩
end
section
variable {P : Program} {w : World} {K : PySem.W.Frag} {mg : Str → Option Value} {base : Heap}
theorem ok_law (E : Env K mg w) {fd : FuncData} (F : FunD K "law" "law" (defArgs s_law) (defBody s_law) (defScope s_law) [] [] (He.ga K "law") fd) : FnOk P w K mg base CX0 30 (He.ga K "law") fd ["_law_script"] (spLaw K) := ok_law_of law_all E F
end

end Tm

open PySem PySem.W PySem.Calls PyProof.Rows
theorem PySem.Challenge.cw_termstill_k12_kinds_and_rules_by_names_holds : PySem.Challenge.rw_termstill_k12_kinds_and_rules_by_names.Holds := by
  refine Tm.holds_if fun w mg fa h Y G hm => ?_
  obtain ⟨K, KX, c⟩ := Y
  have E := Tm.env_of KX G c
  have e : fa = He.ga K "law" := by
    have z := hm.symm.trans E.g_law
    cases z
    rfl
  subst e
  obtain ⟨fd, F⟩ := E.f_law
  exact ⟨K, fd, Tm.spLaw K, KX, fun s v => L2.FunD.bindsA (ps := ["_law_script"]) F (fun _ _ _ _ _ _ us hl => match us, hl with | [_], _ => rfl) s [v] rfl, fun H a ns hl _ hS => ⟨a, ns, rfl, hS, hl, fun _ => rfl⟩, fun base _ _ => Tm.ok_law E F⟩
#print axioms PySem.Challenge.cw_termstill_k12_kinds_and_rules_by_names_holds
