import PyProof.Rows.All
import Wide.All
import OpenK.AllK
import Wide.FinOn
import KE.KStateDown
import Lean
import HandS.ForMost
import HandS.ForExc
import HandS.Defaults
import HandS.IsInst
import HandS.Flow
import HandS.Style
import HandS.Conv
import HandS.Strs
import HandS.SetKeys
import HandS.DictComp
import HandS.Wide
import HandS.FStr
import HandS.Property
import HandS.ClsMeth
import HandS.ExcInit
import HandS.ExcSuper
import HandS.ExcField
import HandS.TryMany
import HandS.SuiteRaise
import HandS.RaiseFrom
import HandS.HotCalls
import HandS.MakeKw
import HandS.SortInts
import HandS.SortKw
import HandS.TupAny
import HandS.TupLe
import HandS.TupMul
import HandS.Zip
import HandS.Deep
import HandS.DeepEq
import HandS.OwnEq
import HandS.Star
import HandS.MethStar
import HandS.Head0
import HandS.Head1
import HandS.Head2
import HandS.HeadEnd
import HandS.HeadHook1
import HandS.HeadHook2
import HandS.HeadNt
import HandS.Evl
import HandS.Steps
import HandS.RaiseOp
import HandS.Remove
import HandS.SetFor
import HandS.DictTup
import PySem.Challenge.RW_termstill_k10_working_days
set_option Elab.async false
set_option linter.all false
set_option maxRecDepth 100000
set_option maxHeartbeats 4000000
/-! Part 0: a Hook with a further test of one's own, and short words for the head. -/
namespace Tm
open PySem PySem.Spec PyProof.Rows L2
/-- the j-th default of the def at f, an object -/
def emptyDfl (f : PySem.W.Frag → Addr) (j : Nat) (K : PySem.W.Frag) : Addr :=
  match K.lookup (f K) with
  | some ⟨_, _, .func fd, _⟩ =>
    match fd.defaults with
    | .ref T =>
      match K.lookup T with
      | some ⟨_, _, .seq its _, _⟩ =>
        match its.toList[j]? with
        | some (.ref a) => a
        | _ => 0
      | _ => 0
    | _ => 0
  | _ => 0
/-- what stands at a is a tuple of these -/
def tupAtB (K : PySem.W.Frag) (a : Addr) (vs : List V) : Bool :=
  match K.lookup a with
  | some ⟨.type c, _, .seq its _, _⟩ => decide (c = "tuple") && (decide (its.size ≤ sizeLine) && He.relAll vs its.toList)
  | _ => false
theorem tupAtB_ok {K : PySem.W.Frag} {a : Addr} {vs : List V} (h : tupAtB K a vs = true) (H : Hp) : SqT K H a vs := by
  unfold tupAtB at h
  cases q : K.lookup a with
  | none => rw [q] at h; cases h
  | some o =>
    obtain ⟨oc, od, dt, osl⟩ := o
    rw [q] at h
    cases oc with
    | type c =>
      cases dt with
      | seq its n =>
        have h' := h
        simp only [Bool.and_eq_true, decide_eq_true_eq] at h'
        obtain ⟨h1, h3, h4⟩ := h'
        exact .inr ⟨_, its, n, q, congrArg Value.type h1, rfl, h3, He.relAll_ok h4⟩
      | _ => cases h
    | _ => cases dt <;> cases h
abbrev Al := Bool × (Bool × List He.FnW)
def obsM (fa : List He.Fa) (ex : PySem.W.Frag → Bool) (fn : List He5.DefA) (K : PySem.W.Frag) : Al :=
  (ex K, He5.obsA fa fn K)
def SaysM (fa : List He.Fa) (ex : PySem.W.Frag → Bool) (fn : List He5.DefA) (K : PySem.W.Frag) : Prop :=
  obsM fa ex fn K = (true, He5.valA fn)
theorem SaysM.ex {fa ex fn K} (c : SaysM fa ex fn K) : ex K = true := congrArg (fun z : Al => z.1) c
theorem SaysM.a {fa ex fn K} (c : SaysM fa ex fn K) : He5.SaysA fa fn K := congrArg (fun z : Al => z.2) c
def hookM (n : Nat) (fa : List He.Fa) (ex : PySem.W.Frag → Bool) (fn : List He5.DefA) : PySem.W.Hook where
  α := Al
  obs := fun s => obsM fa ex fn (He.frG s.heap.get? (He5.asA s.heap.get? n))
  val := fun _ => (true, He5.valA fn)
  says := fun _ h => ∃ K : PySem.W.Frag, K.In h ∧ SaysM fa ex fn K
  of := fun _ _ e => ⟨_, He.frG_in, e⟩
  keeps := fun _ _ _ ⟨K, hK, c⟩ k => ⟨K, hK.keeps k, c⟩
def obM (n : Nat) (fa : List He.Fa) (ex : PySem.W.Frag → Bool) (fn : List He5.DefA) (s : PySem.W.SharedT) : Al :=
  obsM fa ex fn (He.frG (HandSHeadRun.getT s) (He5.asA (HandSHeadRun.getT s) n))
theorem obM_eq {n : Nat} {fa : List He.Fa} {ex : PySem.W.Frag → Bool} {fn : List He5.DefA} (s : PySem.W.SharedT) :
    obM n fa ex fn s = (hookM n fa ex fn).obs s.abs := by
  have e : HandSHeadRun.getT s = s.abs.heap.get? := funext (HandSHeadRun.getT_eq s)
  unfold obM
  rw [e]
  rfl
end Tm

/-! Part 1: a def and how it is called, as one fact; short rules. -/
namespace Tm
open PySem PySem.Spec PyProof.Rows L2
theorem bt_len : bootBuiltins "len" = some (.builtin "len") := by decide +kernel
theorem bt_abs : bootBuiltins "abs" = some (.builtin "abs") := by decide +kernel
theorem bt_all : bootBuiltins "all" = some (.builtin "all") := by decide +kernel
theorem bt_any : bootBuiltins "any" = some (.builtin "any") := by decide +kernel
theorem bt_max : bootBuiltins "max" = some (.builtin "max") := by decide +kernel
theorem bt_min : bootBuiltins "min" = some (.builtin "min") := by decide +kernel
theorem bt_sum : bootBuiltins "sum" = some (.builtin "sum") := by decide +kernel
theorem bt_sorted : bootBuiltins "sorted" = some (.builtin "sorted") := by decide +kernel
theorem bt_repr : bootBuiltins "repr" = some (.builtin "repr") := by decide +kernel
theorem bt_isinstance : bootBuiltins "isinstance" = some (.builtin "isinstance") := by decide +kernel
theorem bt_int : bootBuiltins "int" = some (.type "int") := by decide +kernel
theorem bt_bool : bootBuiltins "bool" = some (.type "bool") := by decide +kernel
theorem bt_str : bootBuiltins "str" = some (.type "str") := by decide +kernel
theorem bt_list : bootBuiltins "list" = some (.type "list") := by decide +kernel
theorem bt_tuple : bootBuiltins "tuple" = some (.type "tuple") := by decide +kernel
theorem bt_dict : bootBuiltins "dict" = some (.type "dict") := by decide +kernel
theorem bt_set : bootBuiltins "set" = some (.type "set") := by decide +kernel
theorem bt_range : bootBuiltins "range" = some (.type "range") := by decide +kernel
theorem bt_enumerate : bootBuiltins "enumerate" = some (.type "enumerate") := by decide +kernel
theorem bt_ValueError : bootBuiltins "ValueError" = some (.type "ValueError") := by decide +kernel
theorem bt_TypeError : bootBuiltins "TypeError" = some (.type "TypeError") := by decide +kernel
theorem bt_KeyError : bootBuiltins "KeyError" = some (.type "KeyError") := by decide +kernel
/-- the def at f keeps sp; called with the last parameters left to the defaults dvs -/
structure Dn (P : Program) (w : World) (K : PySem.W.Frag) (mg : Str → Option Value) (base : Heap) (CX : CXT) (k : Nat) (f : Addr) (dvs : List V) (sp : Sp) : Prop where
  ex : ∃ (fd : FuncData) (ps : List Str) (ds : List Value), FnOk P w K mg base CX k f fd ps sp ∧ PySem.W.keepIn K (.ref f) = true ∧ Vals dvs ds ∧ Binds K fd ps ds
section
variable {P : Program} {w : World} {K : PySem.W.Frag} {mg : Str → Option Value} {base : Heap} {CX : CXT} {k : Nat} {f : Addr} {sp : Sp} {dvs : List V}
theorem Dn.imp {sp' : Sp} (D : Dn P w K mg base CX k f dvs sp) (h : ∀ vs H Q E, sp' vs H Q E → sp vs H Q E) : Dn P w K mg base CX k f dvs sp' := by
  obtain ⟨fd, ps, ds, F, a, b, c⟩ := D.ex
  exact ⟨fd, ps, ds, F.imp h, a, b, c⟩
theorem Dn.mono {j : Nat} (D : Dn P w K mg base CX j f dvs sp) (h : j ≤ k) : Dn P w K mg base CX k f dvs sp := by
  obtain ⟨fd, ps, ds, F, a, b, c⟩ := D.ex
  exact ⟨fd, ps, ds, F.mono h, a, b, c⟩
/-- a def without defaults -/
theorem dn_of {x qual : Str} {params : Arguments} {body : List Stmt} {scope : Scope} {ps : List Str} (F : ∃ fd, FunD K x qual params body scope [] [] f fd)
    (h : ∀ fd, FunD K x qual params body scope [] [] f fd → FnOk P w K mg base CX k f fd ps sp)
    (hb : ∀ (kV doc pm : Value) (an : Option Addr) (cdv ct : Value) (us : List Value), us.length = ps.length → bindArgs (PySem.W.fnOf x qual params body scope .none kV doc pm an cdv ct) ⟨us, []⟩ = pure (ps.zip us)) :
    Dn P w K mg base CX k f [] sp := by
  obtain ⟨fd, F⟩ := F
  exact ⟨fd, ps, [], h fd F, F.kp, .nil, F.bindsN hb⟩
/-- a def with defaults: n arguments are written, the defaults behind the first j fill up -/
theorem dn_dfl {x qual : Str} {params : Arguments} {body : List Stmt} {scope : Scope} {ps : List Str} {all : List V} (n j : Nat) (F : ∃ fd, FunD K x qual params body scope all [] f fd) (hd : all ≠ []) (hn : n + (all.length - j) = ps.length)
    (h : ∀ fd, FunD K x qual params body scope all [] f fd → FnOk P w K mg base CX k f fd ps sp)
    (hb : ∀ (T : Addr) (kV doc pm : Value) (an : Option Addr) (cdv ct : Value) (us its : List Value), us.length = n → its.length = all.length →
      ∃ g, bindArgs (PySem.W.fnOf x qual params body scope (.ref T) kV doc pm an cdv ct) ⟨us, []⟩ = seqItems? (.ref T) >>= g ∧ g (some its.toArray) = pure (ps.zip (us ++ its.drop j))) :
    Dn P w K mg base CX k f (all.drop j) sp := by
  obtain ⟨fd, F⟩ := F
  obtain ⟨ds, r, b⟩ := F.binds1 n j hd hn hb
  exact ⟨fd, ps, ds, h fd F, F.kp, r, b⟩
/-- a def with defaults, every argument written -/
theorem dn_full {x qual : Str} {params : Arguments} {body : List Stmt} {scope : Scope} {ps : List Str} {all : List V} (F : ∃ fd, FunD K x qual params body scope all [] f fd)
    (h : ∀ fd, FunD K x qual params body scope all [] f fd → FnOk P w K mg base CX k f fd ps sp)
    (hb : ∀ (dV kV doc pm : Value) (an : Option Addr) (cdv ct : Value) (us : List Value), us.length = ps.length → bindArgs (PySem.W.fnOf x qual params body scope dV kV doc pm an cdv ct) ⟨us, []⟩ = pure (ps.zip us)) :
    Dn P w K mg base CX k f [] sp := by
  obtain ⟨fd, F⟩ := F
  refine ⟨fd, ps, [], h fd F, F.kp, .nil, ?_⟩
  obtain ⟨oc, od, dV, kV, doc, pm, an, cdv, ct, osl, rfl, _⟩ := F.ex
  exact .all (hb dV kV doc pm an cdv ct)
end
section
variable {X : Cx} {CX : CXT} {k : Nat} {f C : Addr} {sp : Sp} {dvs : List V} {E : XK} {x m : Str} {p pos apos : Pos} {e o : Expr} {es : List Expr} {ta : TE} {t : TA}
theorem pe_c (D : Dn X.prog X.w X.K X.mg X.base CX k f dvs sp) (hr : Room k X.A) (hm : X.mg x = some (.ref f)) (hx : Passes CX X E) (ha : PA X (e :: es) t) (hg : Gl X x := by rfl) (hdb : (x == ("__debug__" : Str)) = false := by decide)
    (he : starEach (e :: es) X.env = (false, eval e X.env) :: starEach es X.env := by rfl) (hpl : (backTo pos (starEach es X.env)).any (·.1) = false := by rfl) : PE X (.Call (.Name x p) (e :: es) [] pos) (tCall sp dvs E t) := by
  obtain ⟨fd, ps, ds, F, kp, r, b⟩ := D.ex
  exact pe_call F hr hg hm kp b r hx ha hdb he hpl
theorem pe_c0 (D : Dn X.prog X.w X.K X.mg X.base CX k f dvs sp) (hr : Room k X.A) (hm : X.mg x = some (.ref f)) (hx : Passes CX X E) (hg : Gl X x := by rfl) (hdb : (x == ("__debug__" : Str)) = false := by decide) :
    PE X (.Call (.Name x p) [] [] pos) (tCall sp dvs E tNil) := by
  obtain ⟨fd, ps, ds, F, kp, r, b⟩ := D.ex
  exact pe_call0 F hr hg hm kp b r hx hdb
theorem pe_m {pl : Sem Bool} (he : PE X o ta) (c : Cls X.K C) (hm : Meth X.K C m f) (D : Dn X.prog X.w X.K X.mg X.base CX k f dvs sp) (hr : Room k X.A) (hx : Passes CX X E) (ha : PA X (e :: es) t)
    (hst : starEach (e :: es) X.env = (false, eval e X.env) :: starEach es X.env := by rfl) (hpl : (backTo pos (starEach es X.env)).any (·.1) = false := by rfl)
    (ht : eval (.Call (.Attribute o m apos) (e :: es) [] pos) X.env = (do
      let v ← eval o X.env
      standAt apos.atName
      let (g, first) ← holding [v] (getMethod v m pl)
      callWith pos g first (backTo pos (starEach (e :: es) X.env)) (backToKw pos (keywordEach [] X.env))) := by rfl) :
    PE X (.Call (.Attribute o m apos) (e :: es) [] pos) (tMeth C m sp dvs E ta t) := by
  obtain ⟨fd, ps, ds, F, kp, r, b⟩ := D.ex
  exact pe_meth he c hm F hr b r hx ha hst hpl ht
theorem pe_m0 {pl : Sem Bool} (he : PE X o ta) (c : Cls X.K C) (hm : Meth X.K C m f) (D : Dn X.prog X.w X.K X.mg X.base CX k f dvs sp) (hr : Room k X.A) (hx : Passes CX X E)
    (ht : eval (.Call (.Attribute o m apos) [] [] pos) X.env = (do
      let v ← eval o X.env
      standAt apos.atName
      let (g, first) ← holding [v] (getMethod v m pl)
      callWith pos g first (backTo pos (starEach [] X.env)) (backToKw pos (keywordEach [] X.env))) := by rfl) :
    PE X (.Call (.Attribute o m apos) [] [] pos) (tMeth C m sp dvs E ta tNil) := by
  obtain ⟨fd, ps, ds, F, kp, r, b⟩ := D.ex
  exact pe_meth0 he c hm F hr b r hx ht
theorem pe_mk (M : Mk X.K C f) (D : Dn X.prog X.w X.K X.mg X.base CX k f dvs sp) (hr : Room (k + 1) X.A) (hm : X.mg x = some (.ref C)) (hx : Passes CX X E) (ha : PA X (e :: es) t) (hg : Gl X x := by rfl)
    (hdb : (x == ("__debug__" : Str)) = false := by decide) (he : starEach (e :: es) X.env = (false, eval e X.env) :: starEach es X.env := by rfl) (hpl : (backTo pos (starEach es X.env)).any (·.1) = false := by rfl) :
    PE X (.Call (.Name x p) (e :: es) [] pos) (tMake C sp dvs E t) := by
  obtain ⟨fd, ps, ds, F, kp, r, b⟩ := D.ex
  exact pe_make M F hr hg hm b r hx ha hdb he hpl
theorem pe_mk0 (M : Mk X.K C f) (D : Dn X.prog X.w X.K X.mg X.base CX k f dvs sp) (hr : Room (k + 1) X.A) (hm : X.mg x = some (.ref C)) (hx : Passes CX X E) (hg : Gl X x := by rfl)
    (hdb : (x == ("__debug__" : Str)) = false := by decide) : PE X (.Call (.Name x p) [] [] pos) (tMake C sp dvs E tNil) := by
  obtain ⟨fd, ps, ds, F, kp, r, b⟩ := D.ex
  exact pe_make0 M F hr hg hm b r hx hdb
/-- module's constants and built-in types as values -/
theorem pe_gi {i : Int} (hm : ∃ u, X.mg x = some (.int i u)) (hg : Gl X x := by rfl) (hd : (x == ("__debug__" : Str)) = false := by decide) : PE X (.Name x pos) (tC (.int i)) := by
  obtain ⟨u, e⟩ := hm
  exact pe_glob hg e ⟨_, rfl⟩ hd
theorem pe_gs {z : Str} (hm : ∃ u, X.mg x = some (.str z u)) (hg : Gl X x := by rfl) (hd : (x == ("__debug__" : Str)) = false := by decide) : PE X (.Name x pos) (tC (.str z)) := by
  obtain ⟨u, e⟩ := hm
  exact pe_glob hg e ⟨_, rfl⟩ hd
theorem pe_gr {a : Addr} (hm : X.mg x = some (.ref a)) (hg : Gl X x := by rfl) (hd : (x == ("__debug__" : Str)) = false := by decide) : PE X (.Name x pos) (tC (.ref a)) := pe_glob hg hm rfl hd
theorem pe_ty {n : String} (hm : X.mg x = none) (hv : bootBuiltins x = some (.type n)) (hg : Gl X x := by rfl) (hn : x ≠ "__name__" := by decide) (hd : (x == ("__debug__" : Str)) = false := by decide) : PE X (.Name x pos) (tC (.ty n)) :=
  pe_bltn hg hm hv rfl hn hd
end
end Tm

/-! Part 2: the types of values, heaps that grow, comprehensions that make a new list. -/
namespace Tm
open PySem PySem.Spec PyProof.Rows L2
/-- what isinstance says of a type and one of five built-in ones -/
def kb (t : Value) (n : String) : Bool := decide (t = .type n) || (decide (t = .type "bool") && decide (n = "int"))
structure Typ (K : PySem.W.Frag) (H : Hp) (x : V) (t : Value) : Prop where
  ty : TyX K H x t
  kit : ∀ n, n = "int" ∨ n = "bool" ∨ n = "str" ∨ n = "list" ∨ n = "tuple" → PySem.W.kitOne K t (.type n) = some (kb t n)
section
variable {K : PySem.W.Frag} {H : Hp}
theorem kit_b {s : String} (h1 : kitB s "int" = some (kb (.type s) "int")) (h2 : kitB s "bool" = some (kb (.type s) "bool")) (h3 : kitB s "str" = some (kb (.type s) "str")) (h4 : kitB s "list" = some (kb (.type s) "list"))
    (h5 : kitB s "tuple" = some (kb (.type s) "tuple")) : ∀ n, n = "int" ∨ n = "bool" ∨ n = "str" ∨ n = "list" ∨ n = "tuple" → PySem.W.kitOne K (.type s) (.type n) = some (kb (.type s) n) := by
  rintro n (rfl | rfl | rfl | rfl | rfl)
  · exact kit_ty h1
  · exact kit_ty h2
  · exact kit_ty h3
  · exact kit_ty h4
  · exact kit_ty h5
theorem kits_int : ∀ n, n = "int" ∨ n = "bool" ∨ n = "str" ∨ n = "list" ∨ n = "tuple" → PySem.W.kitOne K (.type "int") (.type n) = some (kb (.type "int") n) :=
  kit_b (by decide +kernel) (by decide +kernel) (by decide +kernel) (by decide +kernel) (by decide +kernel)
theorem kits_bool : ∀ n, n = "int" ∨ n = "bool" ∨ n = "str" ∨ n = "list" ∨ n = "tuple" → PySem.W.kitOne K (.type "bool") (.type n) = some (kb (.type "bool") n) :=
  kit_b (by decide +kernel) (by decide +kernel) (by decide +kernel) (by decide +kernel) (by decide +kernel)
theorem kits_str : ∀ n, n = "int" ∨ n = "bool" ∨ n = "str" ∨ n = "list" ∨ n = "tuple" → PySem.W.kitOne K (.type "str") (.type n) = some (kb (.type "str") n) :=
  kit_b (by decide +kernel) (by decide +kernel) (by decide +kernel) (by decide +kernel) (by decide +kernel)
theorem kits_list : ∀ n, n = "int" ∨ n = "bool" ∨ n = "str" ∨ n = "list" ∨ n = "tuple" → PySem.W.kitOne K (.type "list") (.type n) = some (kb (.type "list") n) :=
  kit_b (by decide +kernel) (by decide +kernel) (by decide +kernel) (by decide +kernel) (by decide +kernel)
theorem kits_tuple : ∀ n, n = "int" ∨ n = "bool" ∨ n = "str" ∨ n = "list" ∨ n = "tuple" → PySem.W.kitOne K (.type "tuple") (.type n) = some (kb (.type "tuple") n) :=
  kit_b (by decide +kernel) (by decide +kernel) (by decide +kernel) (by decide +kernel) (by decide +kernel)
theorem kits_none : ∀ n, n = "int" ∨ n = "bool" ∨ n = "str" ∨ n = "list" ∨ n = "tuple" → PySem.W.kitOne K (.type "NoneType") (.type n) = some (kb (.type "NoneType") n) :=
  kit_b (by decide +kernel) (by decide +kernel) (by decide +kernel) (by decide +kernel) (by decide +kernel)
theorem typ_int (i : Int) : Typ K H (.int i) (.type "int") := ⟨.base (.int i), kits_int⟩
theorem typ_bl (b : Bool) : Typ K H (.bl b) (.type "bool") := ⟨.base (.bl b), kits_bool⟩
theorem typ_str (z : Str) : Typ K H (.str z) (.type "str") := ⟨.base (.str z), kits_str⟩
theorem typ_non : Typ K H .non (.type "NoneType") := ⟨.base .non, kits_none⟩
theorem typ_lst {a : Addr} {xs : List V} (h : H a = some (.lst xs)) : Typ K H (.ref a) (.type "list") := ⟨.base (.lst h), kits_list⟩
theorem typ_tup {a : Addr} {xs : List V} (h : H a = some (.tup xs)) : Typ K H (.ref a) (.type "tuple") := ⟨.base (.tup h), kits_tuple⟩
theorem typ_sqT {a : Addr} {xs : List V} (h : SqT K H a xs) : Typ K H (.ref a) (.type "tuple") := by
  rcases h with (h | ⟨o, h⟩) | ⟨o, its, n, e, c, _⟩
  · exact ⟨.base (.tup h), kits_tuple⟩
  · exact ⟨.fTuple h, kits_tuple⟩
  · exact ⟨.kTuple e c, kits_tuple⟩
theorem typ_sqL {a : Addr} {xs : List V} (h : SqL K H a xs) : Typ K H (.ref a) (.type "list") := by
  rcases h with (h | ⟨o, h⟩) | ⟨o, its, n, e, c, _⟩
  · exact ⟨.base (.lst h), kits_list⟩
  · exact ⟨.base (.frz h), kits_list⟩
  · exact ⟨.kList e c, kits_list⟩
theorem int_aux {x : V} {t : Value} (q : TyX K H x t) (e : t = .type "int") : ∃ i, x = .int i := by
  cases q with
  | base b => cases b <;> first | exact ⟨_, rfl⟩ | exact absurd e (by decide) | exact nomatch e
  | _ => exact absurd e (by decide)
theorem str_aux {x : V} {t : Value} (q : TyX K H x t) (e : t = .type "str") : ∃ i, x = .str i := by
  cases q with
  | base b => cases b <;> first | exact ⟨_, rfl⟩ | exact absurd e (by decide) | exact nomatch e
  | _ => exact absurd e (by decide)
theorem Typ.isInt {x : V} (h : Typ K H x (.type "int")) : ∃ i, x = .int i := int_aux h.ty rfl
theorem Typ.isStr {x : V} (h : Typ K H x (.type "str")) : ∃ z, x = .str z := str_aux h.ty rfl
theorem Typ.int_t {i : Int} {t : Value} (h : Typ K H (.int i) t) : t = .type "int" := by
  have q := h.ty
  cases q with
  | base b => cases b; rfl
theorem Typ.str_t {z : Str} {t : Value} (h : Typ K H (.str z) t) : t = .type "str" := by
  have q := h.ty
  cases q with
  | base b => cases b; rfl
theorem Typ.non_t {t : Value} (h : Typ K H .non t) : t = .type "NoneType" := by
  have q := h.ty
  cases q with
  | base b => cases b; rfl
theorem Typ.bl_t {b : Bool} {t : Value} (h : Typ K H (.bl b) t) : t = .type "bool" := by
  have q := h.ty
  cases q with
  | base b => cases b; rfl
end
/-! ### heaps -/
theorem same_new {H : Hp} {p : Addr} {o : HO} (h : H p = none) : Same H (upd H p o) := fun a u e => by
  rw [upd_ne (ne_of_none e h)]
  exact e
theorem same_sqT {K : PySem.W.Frag} {H H' : Hp} {a : Addr} {xs : List V} (e : Same H H') (h : SqT K H a xs) : SqT K H' a xs := by
  rcases h with (h | ⟨o, h⟩) | h
  · exact .inl (.inl (e _ _ h))
  · exact .inl (.inr ⟨o, e _ _ h⟩)
  · exact .inr h
/-- all but what stands at D -/
def Off (D : Addr) (H H' : Hp) : Prop := ∀ b o, b ≠ D → H b = some o → H' b = some o
theorem Off.same {D : Addr} {H H' : Hp} (h : H D = none) (o : Off D H H') : Same H H' := fun b u e => o b u (ne_of_none e h) e
section
variable {K : PySem.W.Frag} {a D : Addr} {xs : List V} {g : TG} {tt : TT} {te : TE} {vs : List Nat} {σ : L2.St} {H : Hp} {Qd : Hp → Prop}
/-- one turn of a comprehension: the item is taken just if b, it becomes f; nothing old changes -/
abbrev LcTurn (g : TG) (tt : TT) (te : TE) (vs : List Nat) (σ : L2.St) (H : Hp) (x : V) (b : Bool) (f : V) : Prop :=
  ∀ H1, Same H H1 → ∀ (R : V → Hp → Prop) (S : Hp → Prop), (b = true → ∀ H2, Same H1 H2 → R f H2) → (b = false → ∀ H2, Same H1 H2 → S H2) →
    g x (wipe σ vs) H1 fun σ2 H2 => wipe σ2 vs = wipe σ vs ∧ tt σ2 H2 fun c H3 => if c = true then te σ2 H3 R else S H3
theorem take_step (b : V → Bool) (f : V → V) (l : List V) {i : Nat} {x : V} (h : l[i]? = some x) :
    ((l.take (i + 1)).filter b).map f = ((l.take i).filter b).map f ++ (if b x then [f x] else []) := by
  rw [List.take_add_one, h, List.filter_append, List.map_append]
  cases e : b x <;> simp [e]
theorem take_len (b : V → Bool) (f : V → V) (l : List V) (i : Nat) : (((l.take i).filter b).map f).length ≤ l.length := by
  rw [List.length_map]
  exact Nat.le_trans (List.length_filter_le _ _) (by rw [List.length_take]; omega)
/-- what stands between two turns -/
def LcInv (b : V → Bool) (f : V → V) (H : Hp) (D : Addr) (l : List V) (i : Nat) (H' : Hp) : Prop := Same H H' ∧ H' D = some (.lst (((l.take i).filter b).map f))
theorem lc_start (b : V → Bool) (f : V → V) (l : List V) (hD : H D = none) : LcInv b f H D l 0 (upd H D (.lst [])) := ⟨same_new hD, by rw [upd_same]; simp⟩
theorem lc_turn {b : V → Bool} {f : V → V} {l : List V} {i : Nat} {x : V} {H' : Hp} (hD : H D = none) (hn : l.length < sizeLine) (hx : l[i]? = some x) (p : LcInv b f H D l i H') (ht : LcTurn g tt te vs σ H x (b x) (f x)) :
    g x (wipe σ vs) H' fun σ2 H2 => wipe σ2 vs = wipe σ vs ∧ tt σ2 H2 fun c H3 => if c = true then te σ2 H3 fun y H4 => ∃ acc, H4 D = some (.lst acc) ∧ acc.length < sizeLine ∧ LcInv b f H D l (i + 1) (upd H4 D (.lst (acc ++ [y]))) else LcInv b f H D l (i + 1) H3 := by
  obtain ⟨p1, p2⟩ := p
  refine ht H' p1 _ _ (fun hb H2 s2 => ?_) (fun hb H2 s2 => ?_)
  · refine ⟨_, s2 _ _ p2, Nat.lt_of_le_of_lt (take_len b f l i) hn, fun c o e => ?_, ?_⟩
    · rw [upd_ne (ne_of_none e hD)]
      exact s2 _ _ (p1 _ _ e)
    · rw [upd_same, take_step b f l hx, hb]
      rfl
  · refine ⟨p1.trans s2, ?_⟩
    rw [take_step b f l hx, hb]
    simpa using s2 _ _ p2
theorem lc_L (b : V → Bool) (f : V → V) (hS : SqL K H a xs) (hn : xs.length < sizeLine) (hD : H D = none) (ht : ∀ x ∈ xs, LcTurn g tt te vs σ H x (b x) (f x))
    (hd : ∀ H', Same H H' → H' D = some (.lst ((xs.filter b).map f)) → Qd H') :
    ∃ W : Nat → Nat → Hp → Prop, (∃ m, W 0 m (upd H D (.lst []))) ∧ ∀ i m H', W i m H' →
      ((Itl K a).stop i H' ∧ Qd H') ∨ ((Itl K a).go i H' ∧ ∃ Nx : Hp → Prop, (∀ H2, Nx H2 → ∃ m', m' < m ∧ W (i + 1) m' H2) ∧ ∀ x H2, (Itl K a).yld i H' x H2 → g x (wipe σ vs) H2 fun σ2 H3 => wipe σ2 vs = wipe σ vs ∧ tt σ2 H3 fun c H4 =>
        if c = true then te σ2 H4 fun y H5 => ∃ acc, H5 D = some (.lst acc) ∧ acc.length < sizeLine ∧ Nx (upd H5 D (.lst (acc ++ [y]))) else Nx H4) :=
  lc_list (LcInv b f H D xs) (lc_start b f xs hD) (fun i H' _ p => p.1.seq hS) (fun i x H' hx p => lc_turn hD hn hx p (ht x (List.mem_of_getElem? hx))) fun H' p => hd H' p.1 (by have := p.2; rwa [List.take_length] at this)
theorem lc_T (b : V → Bool) (f : V → V) (hS : SqT K H a xs) (hn : xs.length < sizeLine) (hD : H D = none) (ht : ∀ x ∈ xs, LcTurn g tt te vs σ H x (b x) (f x))
    (hd : ∀ H', Same H H' → H' D = some (.lst ((xs.filter b).map f)) → Qd H') :
    ∃ W : Nat → Nat → Hp → Prop, (∃ m, W 0 m (upd H D (.lst []))) ∧ ∀ i m H', W i m H' →
      ((Itt K a).stop i H' ∧ Qd H') ∨ ((Itt K a).go i H' ∧ ∃ Nx : Hp → Prop, (∀ H2, Nx H2 → ∃ m', m' < m ∧ W (i + 1) m' H2) ∧ ∀ x H2, (Itt K a).yld i H' x H2 → g x (wipe σ vs) H2 fun σ2 H3 => wipe σ2 vs = wipe σ vs ∧ tt σ2 H3 fun c H4 =>
        if c = true then te σ2 H4 fun y H5 => ∃ acc, H5 D = some (.lst acc) ∧ acc.length < sizeLine ∧ Nx (upd H5 D (.lst (acc ++ [y]))) else Nx H4) :=
  lc_tup (LcInv b f H D xs) (lc_start b f xs hD) (fun i H' _ p => same_sqT p.1 hS) (fun i x H' hx p => lc_turn hD hn hx p (ht x (List.mem_of_getElem? hx))) fun H' p => hd H' p.1 (by have := p.2; rwa [List.take_length] at this)
/-- the ints of a range -/
def rgV (lo : Int) (n : Nat) : List V := (List.range n).map fun (i : Nat) => V.int (lo + (i : Int))
theorem rgV_len (lo : Int) (n : Nat) : (rgV lo n).length = n := by simp [rgV]
theorem rgV_at {lo : Int} {n i : Nat} (h : i < n) : (rgV lo n)[i]? = some (.int (lo + (i : Int))) := by simp [rgV, h]
theorem lc_R {lo : Int} {n : Nat} (b : V → Bool) (f : V → V) (hn : n < sizeLine) (hD : H D = none) (ht : ∀ i, i < n → LcTurn g tt te vs σ H (.int (lo + (i : Int))) (b (.int (lo + (i : Int)))) (f (.int (lo + (i : Int)))))
    (hd : ∀ H', Same H H' → H' D = some (.lst (((rgV lo n).filter b).map f)) → Qd H') :
    ∃ W : Nat → Nat → Hp → Prop, (∃ m, W 0 m (upd H D (.lst []))) ∧ ∀ i m H', W i m H' →
      ((Itr lo n).stop i H' ∧ Qd H') ∨ ((Itr lo n).go i H' ∧ ∃ Nx : Hp → Prop, (∀ H2, Nx H2 → ∃ m', m' < m ∧ W (i + 1) m' H2) ∧ ∀ x H2, (Itr lo n).yld i H' x H2 → g x (wipe σ vs) H2 fun σ2 H3 => wipe σ2 vs = wipe σ vs ∧ tt σ2 H3 fun c H4 =>
        if c = true then te σ2 H4 fun y H5 => ∃ acc, H5 D = some (.lst acc) ∧ acc.length < sizeLine ∧ Nx (upd H5 D (.lst (acc ++ [y]))) else Nx H4) :=
  lc_range (LcInv b f H D (rgV lo n)) (lc_start b f _ hD) (fun i H' hi p => lc_turn hD (by rw [rgV_len]; exact hn) (rgV_at hi) p (ht i hi)) fun H' p => hd H' p.1 (by have := p.2; rwa [List.take_of_length_le (by rw [rgV_len]; exact Nat.le_refl _)] at this)
end
end Tm

/-! Part 3: len(set(xs)) of ints, whether they are unlike. -/
namespace Tm
open PySem PySem.Spec PyProof.Rows L2
theorem nodup_le {α : Type} [DecidableEq α] : ∀ {l ns : List α}, l.Nodup → (∀ x ∈ l, x ∈ ns) → l.length ≤ ns.length
  | [], _, _, _ => Nat.zero_le _
  | x :: l, ns, h, hs => by
    obtain ⟨h1, h2⟩ := List.nodup_cons.mp h
    have hx : x ∈ ns := hs x (List.mem_cons_self ..)
    have ih : l.length ≤ (ns.erase x).length := nodup_le h2 fun y hy => by
      have ne : y ≠ x := fun e => h1 (e ▸ hy)
      exact (List.mem_erase_of_ne ne).mpr (hs y (List.mem_cons_of_mem _ hy))
    rw [List.length_erase_of_mem hx] at ih
    have := List.length_pos_of_mem hx
    simp only [List.length_cons]
    omega
/-- a list of the members of ns without a double one has its length just if ns has none -/
theorem nodup_iff {α : Type} [DecidableEq α] : ∀ {ns l : List α}, l.Nodup → (∀ x, x ∈ l ↔ x ∈ ns) → (l.length = ns.length ↔ ns.Nodup)
  | ns, l, h, hm => by
    constructor
    · intro e
      induction ns generalizing l with
      | nil => exact List.nodup_nil
      | cons y ns ih =>
        refine List.nodup_cons.mpr ?_
        have hy : y ∈ l := (hm y).mpr (List.mem_cons_self ..)
        have hn : y ∉ ns := by
          intro hyn
          have : l.length ≤ ns.length := nodup_le h fun x hx => by
            rcases List.mem_cons.mp ((hm x).mp hx) with rfl | z
            · exact hyn
            · exact z
          simp only [List.length_cons] at e
          omega
        refine ⟨hn, ih (l := l.erase y) (h.erase y) (fun x => ?_) ?_⟩
        · rw [h.mem_erase_iff, hm x, List.mem_cons]
          constructor
          · rintro ⟨ne, rfl | z⟩
            · exact absurd rfl ne
            · exact z
          · intro z
            exact ⟨fun e => hn (e ▸ z), Or.inr z⟩
        · rw [List.length_erase_of_mem hy, e]
          simp
    · intro hn
      exact Nat.le_antisymm (nodup_le h fun x hx => (hm x).mp hx) (nodup_le hn fun x hx => (hm x).mpr hx)
theorem firstMet_nd (val : Nat → Int) : ∀ i, (PyProof.Rows.firstMet val i).Nodup
  | 0 => List.nodup_nil
  | i + 1 => by
    have ih := firstMet_nd val i
    rw [PyProof.Rows.firstMet_succ]
    unfold PyProof.Rows.step_dedup
    split
    · exact ih
    · rename_i hc
      refine List.nodup_append.mpr ⟨ih, by simp, fun a ha b hb => ?_⟩
      rw [List.mem_singleton] at hb
      subst hb
      intro e
      apply hc
      rw [List.any_eq_true]
      exact ⟨a, ha, by simp [e]⟩
theorem firstMet_mem (ns : List Int) (k : Int) : k ∈ PyProof.Rows.firstMet (fun i => ns.getD i 0) ns.length ↔ k ∈ ns := by
  have e : ((List.range ns.length).map fun i => ns.getD i 0) = ns := by
    apply List.ext_getElem
    · simp
    · intro i h1 h2
      simp [List.getD_eq_getElem?_getD, h2]
  have h := PyProof.Rows.firstMet_any (fun i => ns.getD i 0) ns.length k
  rw [e] at h
  constructor
  · intro hk
    have : (PyProof.Rows.firstMet (fun i => ns.getD i 0) ns.length).any (· == k) = true := List.any_eq_true.mpr ⟨k, hk, by simp⟩
    rw [h] at this
    obtain ⟨y, hy, ey⟩ := List.any_eq_true.mp this
    rw [← eq_of_beq ey]
    exact hy
  · intro hk
    have : ns.any (· == k) = true := List.any_eq_true.mpr ⟨k, hk, by simp⟩
    rw [← h] at this
    obtain ⟨y, hy, ey⟩ := List.any_eq_true.mp this
    rw [← eq_of_beq ey]
    exact hy
def tLenSet (K : PySem.W.Frag) (ta : TE) : TE := fun σ H Q => ta σ H fun x H1 => ∃ (l : Addr) (ns : List Int), x = .ref l ∧ (SqL K H1 l (ns.map V.int) ∨ SqT K H1 l (ns.map V.int)) ∧ ns.length ≤ 1000 ∧ ∀ m : Nat, (m = ns.length ↔ ns.Nodup) → Q (.int m) H1
theorem pe_lenSet0 {X : Cx} {a : Expr} {ta : TE} {p p2 q pos : Pos} (hm : X.mg "len" = none) (hm2 : X.mg "set" = none) (ha : PE X a ta) (hg : Gl X "len" := by rfl) (hg2 : Gl X "set" := by rfl) (hc : X.calm = true := by rfl)
    (na : starEach [a] X.env = (false, eval a X.env) :: starEach [] X.env := by rfl) : PE X (.Call (.Name "len" p) [.Call (.Name "set" p2) [a] [] q] [] pos) (tLenSet X.K ta) := by
  refine ⟨fun pins s σ H Q I h => ?_⟩
  refine Call_ (ld_blt I hg hm bt_len ?_)
  refine callWith_builtin1 (args_cons ?_ rfl) rfl rfl
  refine Call_ (ld_blt I hg2 hm2 bt_set ?_)
  refine callWith_type1 (args_cons (thn (ha.run pins s σ H _ I h) fun v s1 ⟨x, H1, I1, r1, q1⟩ => args_nil ?_) na) na rfl
  obtain ⟨l, ns, rfl, hq, hl, q1⟩ := q1
  cases r1
  have sb : ns.length + 1 < scanBound := by
    unfold scanBound
    omega
  rcases hq with hq | hq
  · obtain ⟨its, r, pl, hz⟩ := I1.list hq
    have hlen : its.toArray.size = ns.length := by rw [List.size_toArray, ← r.length, List.length_map]
    refine call_set_list (I1.ok.hd hc) pl.isList (by simpa using RZ.intsAre_vals r) (by rw [hlen]; exact sb) fun h' tk hS hk => ?_
    refine args_nil ?_
    rw [hlen] at hS
    obtain ⟨o, es, ep, t, ho, hex, hd, _, _, _, hf, hn⟩ := hS
    have I2 : Inv X pins σ H1 { s1 with heap := h', toks := tk } := I1.kept fun b o e => hk b o (Heap.lt_size e) e
    have hle := PyProof.Rows.firstMet_length_le (fun i => ns.getD i 0) ns.length
    exact call_len_set ho hex hd hf (by rw [hn]; omega) ⟨.int _, H1, I2.tok _, ⟨_, rfl⟩, q1 _ (by rw [hn]; exact nodup_iff (firstMet_nd _ _) (firstMet_mem ns))⟩
  · obtain ⟨its, r, tp, hz⟩ := I1.tuple hq
    refine call_set_tupI ns (I1.ok.hd hc) tp (by simpa using RZ.intsAre_vals r) sb fun h' tk c hS hcn hk => ?_
    refine args_nil ?_
    obtain ⟨o, es, ep, t, ho, hex, hd, _, hnd, hmem, _, hf, hn, _⟩ := hS
    have I2 : Inv X pins σ H1 { s1 with heap := h', toks := tk } := I1.kept fun b o e => hk b o e
    refine call_len_set ho hex hd hf (by rw [hn]; omega) ⟨.int _, H1, I2.tok _, ⟨_, rfl⟩, q1 _ ?_⟩
    have z := nodup_iff (ns := ns) hnd fun k => by
      rw [← hmem k]
      simp
    rw [List.length_map, Array.length_toList] at z
    exact z
theorem pe_lenSet {X : Cx} (K : PySem.W.Frag) {a : Expr} {ta : TE} {p p2 q pos : Pos} (hm : X.mg "len" = none) (hm2 : X.mg "set" = none) (ha : PE X a ta) (hg : Gl X "len" := by rfl) (hg2 : Gl X "set" := by rfl) (hc : X.calm = true := by rfl)
    (na : starEach [a] X.env = (false, eval a X.env) :: starEach [] X.env := by rfl) (hK : X.K = K := by rfl) : PE X (.Call (.Name "len" p) [.Call (.Name "set" p2) [a] [] q] [] pos) (tLenSet K ta) := by
  subst hK
  exact pe_lenSet0 hm hm2 ha hg hg2 hc na
end Tm

/-! Part 4: walks over a list or a tuple; any values and their items. -/
namespace Tm
open PySem PySem.Spec PyProof.Rows L2
theorem Typ.mono {K : PySem.W.Frag} {H H' : Hp} {x : V} {t : Value} (T : Typ K H x t) (h : Same H H') : Typ K H' x t := by
  refine ⟨?_, T.kit⟩
  have q := T.ty
  cases q with
  | base b =>
    cases b with
    | non => exact .base .non
    | bl y => exact .base (.bl y)
    | int i => exact .base (.int i)
    | str y => exact .base (.str y)
    | flt y => exact .base (.flt y)
    | lst e => exact .base (.lst (h _ _ e))
    | frz e => exact .base (.frz (h _ _ e))
    | tup e => exact .base (.tup (h _ _ e))
    | dK e => exact .base (.dK (h _ _ e))
    | dT e => exact .base (.dT (h _ _ e))
    | ins e cl ha hn htk hm => exact .base (.ins (h _ _ e) cl ha hn htk hm)
  | byt y => exact .byt y
  | set e => exact .set (h _ _ e)
  | kList e c => exact .kList e c
  | kTuple e c => exact .kTuple e c
  | kDict e c => exact .kDict e c
  | fTuple e => exact .fTuple (h _ _ e)
  | fDict e => exact .fDict (h _ _ e)
/-- two ways that go on alike -/
theorem cut_if {c A B R : Prop} [Decidable c] (h1 : c → R → A) (h2 : ¬ c → R → B) (r : R) : if c then A else B := by
  by_cases h : c
  · rw [if_pos h]
    exact h1 h r
  · rw [if_neg h]
    exact h2 h r
/-- a list or a tuple of these -/
def Sq (K : PySem.W.Frag) (H : Hp) (a : Addr) (xs : List V) : Prop := SqL K H a xs ∨ SqT K H a xs
theorem Sq.mono {K : PySem.W.Frag} {H H' : Hp} {a : Addr} {xs : List V} (h : Sq K H a xs) (s : Same H H') : Sq K H' a xs := by
  rcases h with h | h
  · exact .inl (s.seq h)
  · exact .inr (same_sqT s h)
theorem isSeq_of {K : PySem.W.Frag} {H : Hp} {a : Addr} {xs : List V} (h : Sq K H a xs) : ∃ t, Typ K H (.ref a) t ∧ (t = .type "list" ∨ t = .type "tuple") := by
  rcases h with h | h
  · exact ⟨_, typ_sqL h, .inl rfl⟩
  · exact ⟨_, typ_sqT h, .inr rfl⟩
def iSeq (K : PySem.W.Frag) (tl : TE) : TI := fun σ H R => tl σ H fun x H1 => ∃ (a : Addr) (xs : List V), x = .ref a ∧ Sq K H1 a xs ∧ (SqL K H1 a xs → R (Itl K a) H1) ∧ (SqT K H1 a xs → R (Itt K a) H1)
theorem pi_seq {X : Cx} {tg l : Expr} {tl : TE} (hl : PE X l tl) : PI X tg l (iSeq X.K tl) := by
  constructor
  intro pins s σ H R I h
  refine thn (hl.run pins s σ H _ I h) ?_
  rintro v s1 ⟨x, H1, I1, r1, a, xs, e, hq, qL, qT⟩
  subst e
  cases r1
  have fp : ∀ b ∈ [s1.heap.objs.size], FpOk X pins H1 b := fun b hb => by
    rw [List.mem_singleton] at hb
    rw [hb]
    exact I1.fpOk (Nat.le_refl _) (I1.hok.fresh (Nat.le_refl _))
  rcases hq with hq | hq
  · obtain ⟨its, rv, p, hz⟩ := I1.list hq
    exact wpAny_pyIter_list p.isList ⟨_, [s1.heap.objs.size], _, _, H1, rfl, I1.kept (t' := s1.toks) fun b o z => Heap.get?_push_of_some _ z, turn_list a _, ⟨_, Heap.get?_push_size _ rfl, rfl, rfl⟩, fp, qL hq⟩
  · obtain ⟨its, rv, p, hz⟩ := I1.tuple hq
    exact wpAny_pyIter_tuple (show s1.heap.IsTuple a its.toArray from p) ⟨_, [s1.heap.objs.size], _, _, H1, rfl, I1.kept (t' := s1.toks) fun b o z => Heap.get?_push_of_some _ z, turn_tuple a _, ⟨_, Heap.get?_push_size _ rfl, rfl, rfl⟩, fp, qT hq⟩
/-- a comprehension behind its iterable: that is a list or a tuple at x -/
def lcRun (g : TG) (tt : TT) (te : TE) (vs : List Nat) (σ : L2.St) (Q : VK) (J : It) (H1 : Hp) : Prop := ∀ D, H1 D = none → ∃ W : Nat → Nat → Hp → Prop, (∃ m, W 0 m (upd H1 D (.lst []))) ∧ ∀ i m H, W i m H →
  (J.stop i H ∧ Q (.ref D) H) ∨ (J.go i H ∧ ∃ Nx : Hp → Prop, (∀ H', Nx H' → ∃ m', m' < m ∧ W (i + 1) m' H') ∧ ∀ x H', J.yld i H x H' → g x (wipe σ vs) H' fun σ2 H2 => wipe σ2 vs = wipe σ vs ∧ tt σ2 H2 fun b H3 =>
    if b = true then te σ2 H3 fun y H4 => ∃ acc, H4 D = some (.lst acc) ∧ acc.length < sizeLine ∧ Nx (upd H4 D (.lst (acc ++ [y]))) else Nx H3)
def lcBody (K : PySem.W.Frag) (g : TG) (tt : TT) (te : TE) (vs : List Nat) (σ : L2.St) (Q : VK) : VK := fun x H1 => ∃ (a : Addr) (xs : List V), x = .ref a ∧ Sq K H1 a xs ∧ (SqL K H1 a xs → lcRun g tt te vs σ Q (Itl K a) H1) ∧ (SqT K H1 a xs → lcRun g tt te vs σ Q (Itt K a) H1)
theorem tLc_eq {K : PySem.W.Frag} {tl : TE} {g : TG} {tt : TT} {te : TE} {vs : List Nat} {σ : L2.St} {H : Hp} {Q : VK} : tLc (iSeq K tl) g tt te vs σ H Q = tl σ H (lcBody K g tt te vs σ Q) := rfl
theorem lcb_S {K : PySem.W.Frag} {a : Addr} {xs : List V} {g : TG} {tt : TT} {te : TE} {vs : List Nat} {σ : L2.St} {H : Hp} {Q : VK} (b : V → Bool) (f : V → V)
    (hS : Sq K H a xs) (hn : xs.length < sizeLine) (ht : ∀ x ∈ xs, LcTurn g tt te vs σ H x (b x) (f x))
    (hd : ∀ D H', H D = none → Same H H' → H' D = some (.lst ((xs.filter b).map f)) → Q (.ref D) H') : lcBody K g tt te vs σ Q (.ref a) H := by
  refine ⟨a, xs, rfl, hS, fun h D hD => ?_, fun h D hD => ?_⟩
  · exact lc_L b f h hn hD ht fun H' s e => hd D H' hD s e
  · exact lc_T b f h hn hD ht fun H' s e => hd D H' hD s e
/-- a comprehension over a list or a tuple, nothing old changes: its whole reading -/
theorem lc_S {K : PySem.W.Frag} {a : Addr} {xs : List V} {g : TG} {tt : TT} {te tl : TE} {vs : List Nat} {σ : L2.St} {H : Hp} {Q : VK} (b : V → Bool) (f : V → V)
    (hl : ∀ R : VK, R (.ref a) H → tl σ H R) (hS : Sq K H a xs) (hn : xs.length < sizeLine) (ht : ∀ x ∈ xs, LcTurn g tt te vs σ H x (b x) (f x))
    (hd : ∀ D H', H D = none → Same H H' → H' D = some (.lst ((xs.filter b).map f)) → Q (.ref D) H') : tLc (iSeq K tl) g tt te vs σ H Q := by
  refine hl _ ⟨a, xs, rfl, hS, fun h D hD => ?_, fun h D hD => ?_⟩
  · exact lc_L b f h hn hD ht fun H' s e => hd D H' hD s e
  · exact lc_T b f h hn hD ht fun H' s e => hd D H' hD s e
/-- .. without a test -/
theorem lc_M {K : PySem.W.Frag} {a : Addr} {xs : List V} {g : TG} {te tl : TE} {vs : List Nat} {σ : L2.St} {H : Hp} {Q : VK} (f : V → V)
    (hl : ∀ R : VK, R (.ref a) H → tl σ H R) (hS : Sq K H a xs) (hn : xs.length < sizeLine)
    (ht : ∀ x ∈ xs, ∀ H1, Same H H1 → ∀ R : V → Hp → Prop, (∀ H2, Same H1 H2 → R (f x) H2) → g x (wipe σ vs) H1 fun σ2 H2 => wipe σ2 vs = wipe σ vs ∧ te σ2 H2 R)
    (hd : ∀ D H', H D = none → Same H H' → H' D = some (.lst (xs.map f)) → Q (.ref D) H') (hg : ∀ x τ H1 R R', (∀ τ' H', R τ' H' → R' τ' H') → g x τ H1 R → g x τ H1 R') : tLc (iSeq K tl) g tYes te vs σ H Q := by
  refine lc_S (fun _ => true) f hl hS hn (fun x hx H1 s1 R S hR hS => ?_) fun D H' hD s e => hd D H' hD s (by rw [e, List.filter_eq_self.mpr fun _ _ => rfl])
  exact hg _ _ _ _ _ (fun τ' H' z => ⟨z.1, z.2⟩) (ht x hx H1 s1 R (hR rfl))
/-- .. the items told one by one -/
def LpInv (H : Hp) (D : Addr) (ys : List V) (i : Nat) (H' : Hp) : Prop := Same H H' ∧ H' D = some (.lst (ys.take i))
theorem lcb_P {K : PySem.W.Frag} {a : Addr} {xs ys : List V} {g : TG} {te : TE} {vs : List Nat} {σ : L2.St} {H : Hp} {Q : VK}
    (hS : Sq K H a xs) (hn : xs.length < sizeLine) (hy : ys.length = xs.length)
    (ht : ∀ (i : Nat) (x y : V), xs[i]? = some x → ys[i]? = some y → ∀ H1, Same H H1 → ∀ R : V → Hp → Prop, (∀ H2, Same H1 H2 → R y H2) → g x (wipe σ vs) H1 fun σ2 H2 => wipe σ2 vs = wipe σ vs ∧ te σ2 H2 R)
    (hd : ∀ D H', H D = none → Same H H' → H' D = some (.lst ys) → Q (.ref D) H') (hg : ∀ x τ H1 R R', (∀ τ' H', R τ' H' → R' τ' H') → g x τ H1 R → g x τ H1 R') : lcBody K g tYes te vs σ Q (.ref a) H := by
  have start : ∀ D, H D = none → LpInv H D ys 0 (upd H D (.lst [])) := fun D hD => ⟨same_new hD, by rw [upd_same]; rfl⟩
  have turn : ∀ D, H D = none → ∀ i x H', xs[i]? = some x → LpInv H D ys i H' → g x (wipe σ vs) H' fun σ2 H2 => wipe σ2 vs = wipe σ vs ∧ tYes σ2 H2 fun b H3 =>
      if b = true then te σ2 H3 fun y H4 => ∃ acc, H4 D = some (.lst acc) ∧ acc.length < sizeLine ∧ LpInv H D ys (i + 1) (upd H4 D (.lst (acc ++ [y]))) else LpInv H D ys (i + 1) H3 := by
    intro D hD i x H' hx ⟨p1, p2⟩
    have hi : i < ys.length := by
      rw [hy]
      exact (List.getElem?_eq_some_iff.mp hx).1
    have ey : ys[i]? = some ys[i] := List.getElem?_eq_getElem hi
    refine hg _ _ _ _ _ (fun τ' H' z => ⟨z.1, z.2⟩) (ht i x _ hx ey H' p1 (fun y H4 => ∃ acc, H4 D = some (.lst acc) ∧ acc.length < sizeLine ∧ LpInv H D ys (i + 1) (upd H4 D (.lst (acc ++ [y])))) fun H5 s5 => ?_)
    refine ⟨_, s5 _ _ p2, ?_, fun c o e => ?_, ?_⟩
    · rw [List.length_take]
      exact Nat.lt_of_le_of_lt (Nat.min_le_right _ _) (by rw [hy]; exact hn)
    · rw [upd_ne (ne_of_none e hD)]
      exact s5 _ _ (p1 _ _ e)
    · rw [upd_same, List.take_add_one, ey]
      rfl
  have whole : ∀ D H', LpInv H D ys xs.length H' → H' D = some (.lst ys) := fun D H' p => by
    have := p.2
    rwa [← hy, List.take_length] at this
  refine ⟨a, xs, rfl, hS, fun h D hD => ?_, fun h D hD => ?_⟩
  · exact lc_list (LpInv H D ys) (start D hD) (fun i H' _ p => p.1.seq h) (fun i x H' hx p => turn D hD i x H' hx p) fun H' p => hd D H' hD p.1 (whole D H' p)
  · exact lc_tup (LpInv H D ys) (start D hD) (fun i H' _ p => same_sqT p.1 h) (fun i x H' hx p => turn D hD i x H' hx p) fun H' p => hd D H' hD p.1 (whole D H' p)
theorem lc_P {K : PySem.W.Frag} {a : Addr} {xs ys : List V} {g : TG} {te tl : TE} {vs : List Nat} {σ : L2.St} {H : Hp} {Q : VK}
    (hl : ∀ R : VK, R (.ref a) H → tl σ H R) (hS : Sq K H a xs) (hn : xs.length < sizeLine) (hy : ys.length = xs.length)
    (ht : ∀ (i : Nat) (x y : V), xs[i]? = some x → ys[i]? = some y → ∀ H1, Same H H1 → ∀ R : V → Hp → Prop, (∀ H2, Same H1 H2 → R y H2) → g x (wipe σ vs) H1 fun σ2 H2 => wipe σ2 vs = wipe σ vs ∧ te σ2 H2 R)
    (hd : ∀ D H', H D = none → Same H H' → H' D = some (.lst ys) → Q (.ref D) H') (hg : ∀ x τ H1 R R', (∀ τ' H', R τ' H' → R' τ' H') → g x τ H1 R → g x τ H1 R') : tLc (iSeq K tl) g tYes te vs σ H Q :=
  hl _ (lcb_P hS hn hy ht hd hg)
theorem tLcR_eq {ta : TA} {g : TG} {tt : TT} {te : TE} {vs : List Nat} {σ : L2.St} {H : Hp} {Q : VK} : tLc (iRng2 ta) g tt te vs σ H Q = ta σ H fun ws H1 => ∃ i j : Int, ws = [.int i, .int j] ∧ (-(2 ^ 62) ≤ i ∧ i < 2 ^ 62 ∧ -(2 ^ 62) ≤ j ∧ j < 2 ^ 62) ∧ lcRun g tt te vs σ Q (Itr i (j - i).toNat) H1 := rfl
theorem tLcR1_eq {ta : TA} {g : TG} {tt : TT} {te : TE} {vs : List Nat} {σ : L2.St} {H : Hp} {Q : VK} : tLc (iRng1 ta) g tt te vs σ H Q = ta σ H fun ws H1 => ∃ j : Int, ws = [.int j] ∧ -(2 ^ 62) ≤ j ∧ j < 2 ^ 62 ∧ lcRun g tt te vs σ Q (Itr 0 j.toNat) H1 := rfl
theorem lcr_R {lo : Int} {n : Nat} {g : TG} {tt : TT} {te : TE} {vs : List Nat} {σ : L2.St} {H : Hp} {Q : VK} (b : V → Bool) (f : V → V) (hn : n < sizeLine) (ht : ∀ i : Nat, i < n → LcTurn g tt te vs σ H (.int (lo + (i : Int))) (b (.int (lo + (i : Int)))) (f (.int (lo + (i : Int)))))
    (hd : ∀ D H', H D = none → Same H H' → H' D = some (.lst (((rgV lo n).filter b).map f)) → Q (.ref D) H') : lcRun g tt te vs σ Q (Itr lo n) H :=
  fun D hD => lc_R b f hn hD ht fun H' s e => hd D H' hD s e
/-- a for over a list or a tuple, behind its iterable -/
def frRun (g : TG) (tb : TS) (D : Ends) (σ : L2.St) (J : It) (H1 : Hp) : Prop := ∃ W : Nat → Nat → L2.St → Hp → Prop, (∃ m, W 0 m σ H1) ∧ ∀ i m σ H, W i m σ H →
  (J.stop i H ∧ D.nx σ H) ∨ (J.go i H ∧ ∃ N : L2.St → Hp → Prop, (∀ σ' H', N σ' H' → ∃ m', m' < m ∧ W (i + 1) m' σ' H') ∧ ∀ x H', J.yld i H x H' → g x σ H' fun σ2 H2 => tb { D with nx := N, ct := N, bk := D.nx } σ2 H2)
def frBody (K : PySem.W.Frag) (g : TG) (tb : TS) (D : Ends) (σ : L2.St) : VK := fun x H1 => ∃ (a : Addr) (xs : List V), x = .ref a ∧ Sq K H1 a xs ∧ (SqL K H1 a xs → frRun g tb D σ (Itl K a) H1) ∧ (SqT K H1 a xs → frRun g tb D σ (Itt K a) H1)
theorem tFor_eq {K : PySem.W.Frag} {tl : TE} {g : TG} {tb : TS} {D : Ends} {σ : L2.St} {H : Hp} : tFor (iSeq K tl) g tb D σ H = tl σ H (frBody K g tb D σ) := rfl
/-- what is walked stays -/
def Stays (K : PySem.W.Frag) (a : Addr) (xs : List V) (H H' : Hp) : Prop := (SqL K H a xs → SqL K H' a xs) ∧ (SqT K H a xs → SqT K H' a xs)
theorem stays_same {K : PySem.W.Frag} {a : Addr} {xs : List V} {H H' : Hp} (s : Same H H') : Stays K a xs H H' := ⟨fun h => s.seq h, fun h => same_sqT s h⟩
theorem frb {K : PySem.W.Frag} {a : Addr} {xs : List V} {g : TG} {tb : TS} {D : Ends} {σ : L2.St} {H : Hp} (hS : Sq K H a xs) (Pv : Nat → L2.St → Hp → Prop) (h0 : Pv 0 σ H) (hl : ∀ i σ H', i ≤ xs.length → Pv i σ H' → Stays K a xs H H')
    (hs : ∀ i x σ H', xs[i]? = some x → Pv i σ H' → g x σ H' fun σ2 H2 => tb { D with nx := Pv (i + 1), ct := Pv (i + 1), bk := D.nx } σ2 H2) (hd : ∀ σ H', Pv xs.length σ H' → D.nx σ H') : frBody K g tb D σ (.ref a) H := by
  refine ⟨a, xs, rfl, hS, fun h => ?_, fun h => ?_⟩
  · exact for_list (K := K) (a := a) (xs := xs) Pv h0 (fun i σ H' hi p => (hl i σ H' hi p).1 h) hs hd
  · exact for_tup (K := K) (a := a) (xs := xs) Pv h0 (fun i σ H' hi p => (hl i σ H' hi p).2 h) hs hd
/-- any value: its type, and its items if it is a list or a tuple -/
inductive AnyV (K : PySem.W.Frag) (H : Hp) : V → Option (List V) → Prop where
  | no {x : V} {t : Value} (T : Typ K H x t) (h1 : t ≠ .type "list") (h2 : t ≠ .type "tuple") : AnyV K H x none
  | seq {a : Addr} {xs : List V} (h : Sq K H a xs) (hn : xs.length ≤ 1000) (hx : ∀ y ∈ xs, ∃ t, Typ K H y t) : AnyV K H (.ref a) (some xs)
theorem AnyV.mono {K : PySem.W.Frag} {H H' : Hp} {x : V} {os : Option (List V)} (A : AnyV K H x os) (s : Same H H') : AnyV K H' x os := by
  cases A with
  | no T h1 h2 => exact .no (T.mono s) h1 h2
  | seq h hn hx =>
    exact .seq (h.mono s) hn fun y hy => by
      obtain ⟨t, T⟩ := hx y hy
      exact ⟨t, T.mono s⟩
theorem AnyV.typ {K : PySem.W.Frag} {H : Hp} {x : V} {os : Option (List V)} (A : AnyV K H x os) : ∃ t, Typ K H x t ∧ ((t = .type "list" ∨ t = .type "tuple") ↔ os.isSome = true) := by
  cases A with
  | no T h1 h2 => exact ⟨_, T, fun z => z.elim (fun z => absurd z h1) fun z => absurd z h2, fun z => by cases z⟩
  | seq h hn hx =>
    obtain ⟨t, T, z⟩ := isSeq_of h
    exact ⟨t, T, fun _ => rfl, fun _ => z⟩
end Tm

/-! Part 5: own classes as types; kinds and rules as data, and how they stand in the heap. -/
namespace Tm
open PySem PySem.Spec PyProof.Rows L2
/-! ### own classes in isinstance -/
def ownB (K : PySem.W.Frag) (C : Addr) : Bool :=
  He.eqO (PySem.W.findIn K (.ref C) "__class__") (some (some (.builtin "object.__class__"))) &&
  (He.eqO (PySem.W.specialIn K (.builtin "object.__class__") "__get__") (some (some (.builtin "getset_descriptor.__get__"))) &&
  (decide (PySem.W.takesIn K (.builtin "object.__class__") = some true) && (decide (PySem.W.mroIn K C (.type "object") = some true) &&
  (["int", "bool", "str", "list", "tuple"].all fun n => decide (PySem.W.kitOne K (.ref C) (.type n) = some false)))))
structure OwnC (K : PySem.W.Frag) (C : Addr) : Prop where
  ha : PySem.W.findIn K (.ref C) "__class__" = some (some (.builtin "object.__class__"))
  hn : PySem.W.specialIn K (.builtin "object.__class__") "__get__" = some (some (.builtin "getset_descriptor.__get__"))
  htk : PySem.W.takesIn K (.builtin "object.__class__") = some true
  hm : PySem.W.mroIn K C (.type "object") = some true
  no : ∀ n, n = "int" ∨ n = "bool" ∨ n = "str" ∨ n = "list" ∨ n = "tuple" → PySem.W.kitOne K (.ref C) (.type n) = some false
theorem ownB_ok {K : PySem.W.Frag} {C : Addr} (h : ownB K C = true) : OwnC K C := by
  unfold ownB at h
  simp only [Bool.and_eq_true, decide_eq_true_eq, List.all_cons, List.all_nil, Bool.and_true] at h
  obtain ⟨h1, h2, h3, h4, k1, k2, k3, k4, k5⟩ := h
  refine ⟨He.eqO_ok h1, He.eqO_ok h2, h3, h4, ?_⟩
  rintro n (rfl | rfl | rfl | rfl | rfl) <;> assumption
theorem typ_ins {K : PySem.W.Frag} {H : Hp} {a C dx : Addr} {fs : List (Str × V)} (o : OwnC K C) (cl : Cls K C) (h : H a = some (.ins C dx fs)) : Typ K H (.ref a) (.ref C) := by
  refine ⟨.base (.ins h cl o.ha o.hn o.htk o.hm), fun n hn => ?_⟩
  rw [o.no n hn]
  have z : kb (.ref C) n = false := by simp [kb]
  rw [z]
/-- of the built-in types none is below the own class D -/
def bltB (K : PySem.W.Frag) (D : Addr) : Bool := ["int", "bool", "str", "NoneType", "list", "tuple"].all fun n => decide (PySem.W.kitOne K (.type n) (.ref D) = some false)
def subB (K : PySem.W.Frag) (C D : Addr) (b : Bool) : Bool := decide (PySem.W.kitOne K (.ref C) (.ref D) = some b)
theorem subB_ok {K : PySem.W.Frag} {C D : Addr} {b : Bool} (h : subB K C D b = true) : PySem.W.kitOne K (.ref C) (.ref D) = some b := of_decide_eq_true h
/-! ### data -/
inductive Fm where
  | still | anew | lift
  deriving DecidableEq
/-- a kind: its form, its name, the number (days, left, by), the top (of a lift), how often -/
structure Kd where
  fm : Fm
  name : Str
  a : Int
  b : Int
  times : Option Int
  deriving DecidableEq
/-- a rule -/
structure Rl where
  length : Int
  rests : List Int
  cap : Option Int
  kinds : List Kd
def tv : Option Int → V
  | none => .non
  | some n => .int n
def Kd.cls (K : PySem.W.Frag) (k : Kd) : Addr := match k.fm with
  | .still => He.ga K "Still"
  | .anew => He.ga K "Anew"
  | .lift => He.ga K "Lift"
def Kd.flds (k : Kd) : List (Str × V) := match k.fm with
  | .still => [("name", .str k.name), ("days", .int k.a), ("times", tv k.times)]
  | .anew => [("name", .str k.name), ("left", .int k.a), ("times", tv k.times)]
  | .lift => [("name", .str k.name), ("by", .int k.a), ("top", .int k.b), ("times", tv k.times)]
def KindAt (K : PySem.W.Frag) (H : Hp) (p : Addr) (k : Kd) : Prop := ∃ dx, H p = some (.ins (k.cls K) dx k.flds)
theorem KindAt.mono {K : PySem.W.Frag} {H H' : Hp} {p : Addr} {k : Kd} (h : KindAt K H p k) (s : Same H H') : KindAt K H' p k := by
  obtain ⟨dx, e⟩ := h
  exact ⟨dx, s _ _ e⟩
theorem Paired.imp {α β : Type} {F G : α → β → Prop} (f : ∀ a b, F a b → G a b) : ∀ {l : List α} {m : List β}, Paired F l m → Paired G l m
  | _, _, .nil => .nil
  | _, _, .cons h t => .cons (f _ _ h) (Paired.imp f t)
structure RuleAt (K : PySem.W.Frag) (H : Hp) (p : Addr) (R : Rl) : Prop where
  ex : ∃ (dx tr tk tn : Addr) (ps : List Addr), H p = some (.ins (He.ga K "Rule") dx [("length", .int R.length), ("rests", .ref tr), ("cap", tv R.cap), ("kinds", .ref tk), ("names", .ref tn)]) ∧
    SqT K H tr (R.rests.map V.int) ∧ SqT K H tk (ps.map V.ref) ∧ SqT K H tn (R.kinds.map fun k => V.str k.name) ∧ Paired (KindAt K H) ps R.kinds
theorem RuleAt.mono {K : PySem.W.Frag} {H H' : Hp} {p : Addr} {R : Rl} (h : RuleAt K H p R) (s : Same H H') : RuleAt K H' p R := by
  obtain ⟨dx, tr, tk, tn, ps, h1, h2, h3, h4, h5⟩ := h.ex
  exact ⟨dx, tr, tk, tn, ps, s _ _ h1, same_sqT s h2, same_sqT s h3, same_sqT s h4, Paired.imp (fun _ _ z => z.mono s) h5⟩
/-! ### a dict comprehension over a list or a tuple -/
theorem putK_keys (kvs : List (Key × V)) (k : Key) (v : V) (h : (kvs.map (·.1)).Nodup) : ((putK kvs k v).map (·.1)).Nodup ∧ ∀ x, x ∈ (putK kvs k v).map (·.1) ↔ x = k ∨ x ∈ kvs.map (·.1) := by
  unfold putK
  split
  · rename_i hc
    have e : (kvs.map fun kv => if kv.1 = k then (kv.1, v) else kv).map (·.1) = kvs.map (·.1) := by
      rw [List.map_map]
      apply List.map_congr_left
      intro q _
      simp only [Function.comp]
      split <;> rfl
    rw [e]
    refine ⟨h, fun x => ⟨fun z => .inr z, fun z => z.elim (fun z => ?_) id⟩⟩
    rw [List.any_eq_true] at hc
    obtain ⟨q, hq, eq⟩ := hc
    rw [z, ← of_decide_eq_true eq]
    exact List.mem_map_of_mem hq
  · rename_i hc
    rw [List.map_append]
    have hk : k ∉ kvs.map (·.1) := fun z => by
      apply hc
      obtain ⟨q, hq, eq⟩ := List.mem_map.mp z
      exact List.any_eq_true.mpr ⟨q, hq, decide_eq_true eq⟩
    refine ⟨List.nodup_append.mpr ⟨h, by simp, fun a ha b hb => ?_⟩, fun x => ?_⟩
    · simp only [List.map_cons, List.map_nil, List.mem_singleton] at hb
      subst hb
      exact fun e => hk (e ▸ ha)
    · simp only [List.map_cons, List.map_nil, List.mem_append, List.mem_singleton]
      exact ⟨fun z => z.elim .inr .inl, fun z => z.elim .inr .inl⟩
theorem mergeK_keys : ∀ (ps : List (Key × V)) (acc : List (Key × V)), (acc.map (·.1)).Nodup →
    ((mergeK acc ps).map (·.1)).Nodup ∧ ∀ x, x ∈ (mergeK acc ps).map (·.1) ↔ x ∈ acc.map (·.1) ∨ x ∈ ps.map (·.1)
  | [], acc, h => ⟨h, fun x => by simp [mergeK]⟩
  | y :: ps, acc, h => by
    obtain ⟨h1, h2⟩ := putK_keys acc y.1 y.2 h
    obtain ⟨h3, h4⟩ := mergeK_keys ps _ h1
    refine ⟨h3, fun x => ?_⟩
    show x ∈ (mergeK (putK acc y.1 y.2) ps).map (·.1) ↔ _
    rw [h4 x, h2 x, List.map_cons, List.mem_cons]
    constructor
    · rintro ((z | z) | z)
      · exact .inr (.inl z)
      · exact .inl z
      · exact .inr (.inr z)
    · rintro (z | z | z)
      · exact .inl (.inr z)
      · exact .inl (.inl z)
      · exact .inr z
theorem mergeK_len (ps : List (Key × V)) : (mergeK [] ps).length = ps.length ↔ (ps.map (·.1)).Nodup := by
  obtain ⟨h1, h2⟩ := mergeK_keys ps [] List.nodup_nil
  have z := nodup_iff (ns := ps.map (·.1)) h1 fun x => by
    rw [h2 x]
    simp
  rw [List.length_map, List.length_map] at z
  exact z
theorem putK_le (kvs : List (Key × V)) (k : Key) (v : V) : (putK kvs k v).length ≤ kvs.length + 1 := by
  unfold putK
  split <;> simp
theorem mergeK_le : ∀ (ps : List (Key × V)) (acc : List (Key × V)), (mergeK acc ps).length ≤ acc.length + ps.length
  | [], acc => by simp [mergeK]
  | y :: ps, acc => by
    have h1 := mergeK_le ps (putK acc y.1 y.2)
    have h2 := putK_le acc y.1 y.2
    show (mergeK (putK acc y.1 y.2) ps).length ≤ _
    simp only [List.length_cons]
    omega
section
variable {K : PySem.W.Frag} {a D : Addr} {xs : List V} {g : TG} {te tu tl : TE} {vs : List Nat} {σ : L2.St} {H : Hp} {Q : VK} {ps : List (Key × V)}
def DcInv (H : Hp) (D : Addr) (ps : List (Key × V)) (i : Nat) (H' : Hp) : Prop := Same H H' ∧ H' D = some (.dK (mergeK [] (ps.take i)))
theorem dc_P (hl : ∀ R : VK, R (.ref a) H → tl σ H R) (hS : Sq K H a xs) (hn : xs.length < sizeLine) (hp : ps.length = xs.length)
    (ht : ∀ (i : Nat) (x : V) (q : Key × V), xs[i]? = some x → ps[i]? = some q → ∀ H1, Same H H1 → ∀ R : V → V → Hp → Prop, (∀ H2, Same H1 H2 → R (kV q.1) q.2 H2) →
      g x (wipe σ vs) H1 fun σ2 H2 => wipe σ2 vs = wipe σ vs ∧ te σ2 H2 fun y H3 => tu σ2 H3 fun z H4 => R y z H4)
    (hd : ∀ D H', H D = none → Same H H' → H' D = some (.dK (mergeK [] ps)) → Q (.ref D) H') (hg : ∀ x τ H1 R R', (∀ τ' H', R τ' H' → R' τ' H') → g x τ H1 R → g x τ H1 R') : tDc (iSeq K tl) g tYes te tu vs σ H Q := by
  have start : ∀ D, H D = none → DcInv H D ps 0 (upd H D (.dK [])) := fun D hD => ⟨same_new hD, by rw [upd_same]; rfl⟩
  have turn : ∀ D, H D = none → ∀ i x H', xs[i]? = some x → DcInv H D ps i H' → g x (wipe σ vs) H' fun σ2 H2 => wipe σ2 vs = wipe σ vs ∧ tYes σ2 H2 fun b H3 =>
      if b = true then te σ2 H3 fun y H4 => tu σ2 H4 fun z H5 => ∃ kvs k, y = kV k ∧ H5 D = some (.dK kvs) ∧ kvs.length < sizeLine ∧ DcInv H D ps (i + 1) (upd H5 D (.dK (putK kvs k z))) else DcInv H D ps (i + 1) H3 := by
    intro D hD i x H' hx ⟨p1, p2⟩
    have hi : i < ps.length := by
      rw [hp]
      exact (List.getElem?_eq_some_iff.mp hx).1
    have ey : ps[i]? = some ps[i] := List.getElem?_eq_getElem hi
    refine hg _ _ _ _ _ (fun τ' H' z => ⟨z.1, z.2⟩) (ht i x _ hx ey H' p1 (fun y z H5 => ∃ kvs k, y = kV k ∧ H5 D = some (.dK kvs) ∧ kvs.length < sizeLine ∧ DcInv H D ps (i + 1) (upd H5 D (.dK (putK kvs k z)))) fun H5 s5 => ?_)
    refine ⟨_, ps[i].1, rfl, s5 _ _ p2, ?_, fun c o e => ?_, ?_⟩
    · have := mergeK_le (ps.take i) []
      have e : (ps.take i).length ≤ xs.length := by
        rw [List.length_take, hp]
        exact Nat.min_le_right _ _
      simp only [List.length_nil, Nat.zero_add] at this
      exact Nat.lt_of_le_of_lt (Nat.le_trans this e) hn
    · rw [upd_ne (ne_of_none e hD)]
      exact s5 _ _ (p1 _ _ e)
    · rw [upd_same, List.take_add_one, ey]
      unfold mergeK
      rw [List.foldl_append]
      rfl
  have whole : ∀ D H', DcInv H D ps xs.length H' → H' D = some (.dK (mergeK [] ps)) := fun D H' p => by
    have := p.2
    rwa [← hp, List.take_length] at this
  refine hl _ ⟨a, xs, rfl, hS, fun h D hD => ?_, fun h D hD => ?_⟩
  · refine ⟨fun i m H' => m = xs.length - i ∧ i ≤ xs.length ∧ DcInv H D ps i H', ⟨xs.length, by simp, Nat.zero_le _, start D hD⟩, ?_⟩
    rintro i m H' ⟨rfl, hi, p⟩
    have q : SqL K H' a xs := p.1.seq h
    by_cases hlt : i < xs.length
    · refine .inr ⟨⟨xs, xs[i], q, by simp [hlt]⟩, DcInv H D ps (i + 1), fun H2 p' => ⟨xs.length - (i + 1), by omega, rfl, hlt, p'⟩, fun x H2 y => ?_⟩
      obtain ⟨e, y⟩ := y
      subst e
      exact turn D hD i x _ (y xs q) p
    · have e : i = xs.length := by omega
      subst e
      exact .inl ⟨⟨xs, q, Nat.le_refl _⟩, hd D H' hD p.1 (whole D H' p)⟩
  · exact dc_tup (DcInv H D ps) (start D hD) (fun i H' _ p => same_sqT p.1 h) (fun i x H' hx p => turn D hD i x H' hx p) fun H' p => hd D H' hD p.1 (whole D H' p)
end
theorem paired_at {α β : Type} {F : α → β → Prop} : ∀ {l : List α} {m : List β}, Paired F l m → ∀ x ∈ l, ∃ y ∈ m, F x y
  | _, _, .nil, x, h => nomatch h
  | _, _, .cons q t, x, h => by
    rcases List.mem_cons.mp h with rfl | h
    · exact ⟨_, List.mem_cons_self .., q⟩
    · obtain ⟨y, hy, f⟩ := paired_at t x h
      exact ⟨y, List.mem_cons_of_mem _ hy, f⟩
theorem paired_ix {α β : Type} {F : α → β → Prop} : ∀ {l : List α} {m : List β}, Paired F l m → ∀ {i : Nat} {x : α} {y : β}, l[i]? = some x → m[i]? = some y → F x y
  | _, _, .nil, i, x, y, h, _ => by simp at h
  | _, _, .cons q t, 0, x, y, h, h' => by
    simp at h h'
    subst h h'
    exact q
  | _, _, .cons q t, i + 1, x, y, h, h' => paired_ix t (i := i) (by simpa using h) (by simpa using h')
theorem paired_len {α β : Type} {F : α → β → Prop} : ∀ {l : List α} {m : List β}, Paired F l m → l.length = m.length
  | _, _, .nil => rfl
  | _, _, .cons _ t => by
    rw [List.length_cons, List.length_cons, paired_len t]
end Tm

/-! Part K: rules whose readings speak of the written part, the written part given by name. -/
namespace Tm
open PySem PySem.Spec PyProof.Rows L2
section
variable {X : Cx} (K : PySem.W.Frag)
theorem k_fld {e : Expr} {f : Str} {pos : Pos} {ta : TE} (he : PE X e ta) (hb : attributeBase e f X.env (eval e X.env) = eval e X.env) (hK : X.K = K := by rfl) : PE X (.Attribute e f pos) (tFld K ta f) := by
  subst hK; exact pe_fld he hb
theorem k_isi (hK : X.K = K := by rfl) : CallR X (.builtin "isinstance") (rIsi K) := by subst hK; exact call_isi
theorem k_isiT (hK : X.K = K := by rfl) : CallR X (.builtin "isinstance") (rIsiT K) := by subst hK; exact call_isiT
def rLn (K : PySem.W.Frag) : List V → Hp → VK → Prop := fun xs H Q => ∃ x n, xs = [x] ∧ LenV K x H n ∧ Q (.int n) H
theorem k_len (hK : X.K = K := by rfl) : CallR X (.builtin "len") (rLn K) := by subst hK; exact call_len
def rLenQ (K : PySem.W.Frag) : List V → Hp → VK → Prop := fun xs H Q => ∃ p ys, xs = [.ref p] ∧ Sq K H p ys ∧ Q (.int ys.length) H
theorem k_lenQ (hK : X.K = K := by rfl) : CallR X (.builtin "len") (rLenQ K) := by subst hK; exact call_len_seq
def rList (K : PySem.W.Frag) : List V → Hp → VK → Prop := fun xs H Q => ∃ p ys, xs = [.ref p] ∧ (SqL K H p ys ∨ SqT K H p ys) ∧ ∀ l, H l = none → Q (.ref l) (upd H l (.lst ys))
theorem k_list (hK : X.K = K := by rfl) : CallR X (.type "list") (rList K) := by subst hK; exact call_list_of
def rTuple (K : PySem.W.Frag) : List V → Hp → VK → Prop := fun xs H Q => ∃ p ys, xs = [.ref p] ∧ ((SqL K H p ys ∧ ∀ l, H l = none → Q (.ref l) (upd H l (.tup ys))) ∨ (SqT K H p ys ∧ Q (.ref p) H))
theorem k_tuple (hK : X.K = K := by rfl) : CallR X (.type "tuple") (rTuple K) := by subst hK; exact call_tuple_of
theorem k_all (hc : X.calm = true := by rfl) (hK : X.K = K := by rfl) : CallR X (.builtin "all") (rAll K) := by subst hK; exact cr_all hc
theorem k_any (hc : X.calm = true := by rfl) (hK : X.K = K := by rfl) : CallR X (.builtin "any") (rAny K) := by subst hK; exact cr_any hc
theorem k_sum (hc : X.calm = true := by rfl) (hK : X.K = K := by rfl) : CallR X (.builtin "sum") (rSum K) := by subst hK; exact cr_sum hc
theorem k_max (hc : X.calm = true := by rfl) (hK : X.K = K := by rfl) : CallR X (.builtin "max") (rMax K) := by subst hK; exact cr_max hc
theorem k_min (hc : X.calm = true := by rfl) (hK : X.K = K := by rfl) : CallR X (.builtin "min") (rMin K) := by subst hK; exact cr_min hc
theorem k_sorted (hK : X.K = K := by rfl) : CallR X (.builtin "sorted") (rSortedI K) := by subst hK; exact cr_sortedI
theorem k_sortedS (hK : X.K = K := by rfl) : CallR X (.builtin "sorted") (rSortedS K) := by subst hK; exact cr_sortedS
theorem k_ixL (hK : X.K = K := by rfl) : IxR X (rIxL K) := by subst hK; exact ix_list
theorem k_ixT (hK : X.K = K := by rfl) : IxR X (rIxT K) := by subst hK; exact ix_tup
theorem k_ix (hK : X.K = K := by rfl) : IxR X (rIx K) := by subst hK; exact ix_seq
theorem k_slL (hK : X.K = K := by rfl) : SlR X (rSlL K) := by subst hK; exact sl_list
theorem k_slT (hK : X.K = K := by rfl) : SlR X (rSlT K) := by subst hK; exact sl_tup
theorem k_in (hK : X.K = K := by rfl) : OpR X (compareOp .In) (rIn K false) := by subst hK; exact op_in_seq
theorem k_notin (hK : X.K = K := by rfl) : OpR X (compareOp .NotIn) (rIn K true) := by subst hK; exact op_notIn_seq
theorem k_eqD (hu : X.A.units + 64 < cLine) (hK : X.K = K := by rfl) : OpR X (compareOp .Eq) (rEqD K) := by subst hK; exact op_eqD hu
theorem k_neD (hu : X.A.units + 64 < cLine) (hK : X.K = K := by rfl) : OpR X (compareOp .NotEq) (rNeD K) := by subst hK; exact op_neD hu
theorem k_piL {tg l : Expr} {tl : TE} (hl : PE X l tl) (hK : X.K = K := by rfl) : PI X tg l (iList K tl) := by subst hK; exact pi_list hl
theorem k_piT {tg l : Expr} {tl : TE} (hl : PE X l tl) (hK : X.K = K := by rfl) : PI X tg l (iTup K tl) := by subst hK; exact pi_tup hl
theorem k_piQ {tg l : Expr} {tl : TE} (hl : PE X l tl) (hK : X.K = K := by rfl) : PI X tg l (iSeq K tl) := by subst hK; exact pi_seq hl
theorem k_bm0 {T : String} {name : Str} {id : String} {o : Expr} {to : TE} {r : V → List V → Hp → VK → Prop} {apos cpos : Pos} (pa : PlainAttrs T) (slot : Slot T name id) (hty : typeOf (.builtin id) = pure (.type "method_descriptor")) (hm : MtR X id r) (ho : PE X o to)
    (hbase : attributeBase o name X.env (eval o X.env) = eval o X.env := by rfl) (hline : (apos.endLine == cpos.line) = true := by rfl) (hK : X.K = K := by rfl) : PE X (.Call (.Attribute o name apos) [] [] cpos) (tBM0 K T r to) := by
  subst hK; exact pe_bm0 pa slot hty hm ho hbase hline
theorem k_bm {T : String} {name : Str} {id : String} {o e : Expr} {es : List Expr} {to : TE} {t : TA} {r : V → List V → Hp → VK → Prop} {apos cpos : Pos} (pa : PlainAttrs T) (slot : Slot T name id) (hty : typeOf (.builtin id) = pure (.type "method_descriptor")) (hm : MtR X id r)
    (ho : PE X o to) (ha : PA X (e :: es) t) (hbase : attributeBase o name X.env (eval o X.env) = eval o X.env := by rfl)
    (hfew : ((backTo cpos (starEach (e :: es) X.env)).all (fun x => !x.1) && (backToKw cpos (keywordEach [] X.env)).all (fun x => x.1.isSome)
      && decide ((e :: es).length + ([] : List Keyword).length + (if ([] : List Keyword).isEmpty then 0 else 1) < 30)) = true := by rfl)
    (hline : (apos.endLine == cpos.line) = true := by rfl) (hs : starEach (e :: es) X.env = (false, eval e X.env) :: starEach es X.env := by rfl) (hplain : (backTo cpos (starEach es X.env)).any (·.1) = false := by rfl)
    (hK : X.K = K := by rfl) : PE X (.Call (.Attribute o name apos) (e :: es) [] cpos) (tBM K T r to t) := by
  subst hK; exact pe_bm pa slot hty hm ho ha hbase hfew hline hs hplain
theorem k_star {e : Expr} {es : List Expr} {p : Pos} {te : TE} {t : TA} (he : PE X e te) (hr : PA X es t) (hs : starEach (.Starred e p :: es) X.env = (true, eval e X.env) :: starEach es X.env := by rfl) (hK : X.K = K := by rfl) :
    PA X (.Starred e p :: es) (StX.tStar K te t) := by
  subst hK; exact StX.pa_star he hr hs
def tTruth (K : PySem.W.Frag) (ta : TE) : TT := fun σ H Q => ta σ H fun x H' => ∃ k, TruV K x H' k ∧ Q k H'
theorem k_truth {a : Expr} {ta : TE} (ha : PE X a ta) (he : ∀ whole, isTrue a X.env whole = (do let v ← whole; standAt a.pos; holding [v] (truthy v)) := by intro _; rfl) (hK : X.K = K := by rfl) : PT X a (tTruth K ta) := by
  subst hK; exact pt_truth ha he
theorem k_enum {e : Expr} {ta : TA} {p pos tpos : Pos} {elts : List Expr} {kk : Nat} (hm : X.mg "enumerate" = none) (ha : PA X [e] ta) (hg : Gl X "enumerate" := by rfl) (hs : starEach [e] X.env = [(false, eval e X.env)] := by rfl) (hK : X.K = K := by rfl) :
    PI X (.Tuple elts kk tpos) (.Call (.Name "enumerate" p) [e] [] pos) (iEnum K ta) := by
  subst hK; exact pi_enum hg hm ha hs
def rJoin (K : PySem.W.Frag) : V → List V → Hp → VK → Prop := fun x xs H Q => ∃ a p, ∃ ys : List Str, x = .str a ∧ xs = [.ref p] ∧ (SqL K H p (ys.map V.str) ∨ SqT K H p (ys.map V.str)) ∧ (ys.map (·.length)).sum + ys.length * a.length ≤ 16777216 ∧ Q (.str (Txt.join a ys)) H
theorem k_join {o e : Expr} {to te : TE} {apos pos : Pos} (ho : PE X o to) (he : PE X e te) (hs : starEach [e] X.env = [(false, eval e X.env)] := by rfl) (hbase : attributeBase o "join" X.env (eval o X.env) = eval o X.env := by rfl)
    (hline : (apos.endLine == pos.line) = true := by rfl) (hK : X.K = K := by rfl) : PE X (.Call (.Attribute o "join" apos) [e] [] pos) (tM1 (rJoin K) to te) := by
  subst hK; exact pe_join ho he hs hbase hline
end
end Tm

/-! Mathematics: the first working day. -/
namespace Tm
/-- how many days a day is put off, at most n -/
def gapN (rs : List Int) (d : Int) : Nat → Nat
  | 0 => 0
  | n + 1 => if d % 7 ∈ rs then 1 + gapN rs (d + 1) n else 0
def gap (rs : List Int) (d : Int) : Nat := gapN rs d 7
def workD (rs : List Int) (d : Int) : Int := d + (gap rs d : Int)
theorem gapN_le (rs : List Int) : ∀ (n : Nat) (d : Int), gapN rs d n ≤ n
  | 0, _ => Nat.le_refl _
  | n + 1, d => by
    unfold gapN
    split
    · have := gapN_le rs n (d + 1)
      omega
    · omega
theorem gapN_in (rs : List Int) : ∀ (n : Nat) (d : Int) (j : Nat), j < gapN rs d n → (d + (j : Int)) % 7 ∈ rs
  | 0, d, j, h => by
    unfold gapN at h
    omega
  | n + 1, d, j, h => by
    unfold gapN at h
    split at h
    · rename_i hm
      cases j with
      | zero => simpa using hm
      | succ j =>
        have := gapN_in rs n (d + 1) j (by omega)
        have e : d + ((j + 1 : Nat) : Int) = d + 1 + (j : Int) := by omega
        rw [e]
        exact this
    · omega
theorem gapN_at (rs : List Int) : ∀ (n : Nat) (d : Int), gapN rs d n < n → (d + (gapN rs d n : Int)) % 7 ∉ rs
  | 0, d, h => by omega
  | n + 1, d, h => by
    unfold gapN at h ⊢
    split
    · rename_i hm
      rw [if_pos hm] at h
      have := gapN_at rs n (d + 1) (by omega)
      have e : d + ((1 + gapN rs (d + 1) n : Nat) : Int) = d + 1 + (gapN rs (d + 1) n : Int) := by omega
      rw [e]
      exact this
    · rename_i hm
      simpa using hm
theorem week_nodup (d : Int) : ((List.range 7).map fun (j : Nat) => (d + (j : Int)) % 7).Nodup := by
  unfold List.Nodup
  rw [List.pairwise_map]
  refine List.Pairwise.imp_of_mem ?_ (List.nodup_range (n := 7))
  intro a b ha hb hne
  simp only [List.mem_range] at ha hb
  omega
theorem gap_lt {rs : List Int} (h : rs.length ≤ 6) (d : Int) : gap rs d < 7 := by
  rcases Nat.lt_or_ge (gap rs d) 7 with z | z
  · exact z
  · exfalso
    have e : gapN rs d 7 = 7 := Nat.le_antisymm (gapN_le rs 7 d) z
    have : ((List.range 7).map fun (j : Nat) => (d + (j : Int)) % 7).length ≤ rs.length := nodup_le (week_nodup d) fun x hx => by
      obtain ⟨j, hj, rfl⟩ := List.mem_map.mp hx
      exact gapN_in rs 7 d j (by rw [e]; exact List.mem_range.mp hj)
    simp only [List.length_map, List.length_range] at this
    omega
theorem gap_in {rs : List Int} {d : Int} {j : Nat} (h : j < gap rs d) : (d + (j : Int)) % 7 ∈ rs := gapN_in rs 7 d j h
theorem gap_at {rs : List Int} (h : rs.length ≤ 6) (d : Int) : (d + (gap rs d : Int)) % 7 ∉ rs := gapN_at rs 7 d (gap_lt h d)
/-- the first working day is told by two facts -/
theorem gap_uniq {rs : List Int} (h : rs.length ≤ 6) {d : Int} {m : Nat} (h1 : ∀ j : Nat, j < m → (d + (j : Int)) % 7 ∈ rs) (h2 : (d + (m : Int)) % 7 ∉ rs) : m = gap rs d := by
  rcases Nat.lt_trichotomy m (gap rs d) with z | z | z
  · exact absurd (gap_in z) h2
  · exact z
  · exact absurd (h1 _ z) (gap_at h d)
theorem work_ge (rs : List Int) (d : Int) : d ≤ workD rs d := by
  unfold workD
  omega
theorem work_week {rs : List Int} (h : rs.length ≤ 6) (d : Int) (m : Int) : workD rs (d + 7 * m) = workD rs d + 7 * m := by
  have e : gap rs d = gap rs (d + 7 * m) := gap_uniq h (fun j hj => by
    have := gap_in hj
    have e : (d + 7 * m + (j : Int)) % 7 = (d + (j : Int)) % 7 := by omega
    rw [e]
    exact this) (by
    have := gap_at h d
    have e : (d + 7 * m + (gap rs d : Int)) % 7 = (d + (gap rs d : Int)) % 7 := by omega
    rw [e]
    exact this)
  unfold workD
  rw [← e]
  omega
theorem work_self {rs : List Int} {d : Int} (h : d % 7 ∉ rs) : workD rs d = d := by
  unfold workD gap gapN
  rw [if_neg h]
  simp
theorem work_idem {rs : List Int} (h : rs.length ≤ 6) (d : Int) : workD rs (workD rs d) = workD rs d := work_self (gap_at h d)
end Tm

/-! Part 6: a list beside an empty one; the stream of draws. -/
namespace Tm
open PySem PySem.Spec PyProof.Rows L2
/-- a plain value that can be compared -/
def layV : V → Bool
  | .non => true
  | .bl _ => true
  | .int _ => true
  | .str z => PyData.strOk z
  | _ => false
def datV : V → PyData
  | .bl b => .bool b
  | .int i => .int i
  | .str z => .str z
  | _ => .none
theorem dp_flat {K : PySem.W.Frag} {H : Hp} : ∀ {x : V}, layV x = true → Dp K H x (datV x)
  | .non, _ => .non
  | .bl b, _ => .bl b
  | .int i, _ => .int i
  | .str z, _ => .str z
theorem dpAll_flat {K : PySem.W.Frag} {H : Hp} : ∀ {xs : List V}, xs.all layV = true → DpAll K H xs (xs.map datV)
  | [], _ => .nil
  | x :: xs, h => by
    rw [List.all_cons, Bool.and_eq_true] at h
    exact .cons (dp_flat h.1) (dpAll_flat h.2)
theorem lay_flat : ∀ {xs : List V}, xs.all layV = true → PyData.canLayAll0 (xs.map datV) = true ∧ PyData.depthAll (xs.map datV) = 0
  | [], _ => ⟨rfl, rfl⟩
  | x :: xs, h => by
    rw [List.all_cons, Bool.and_eq_true] at h
    obtain ⟨h1, h2⟩ := lay_flat h.2
    have z : PyData.canLay0 (datV x) = true ∧ PyData.depth (datV x) = 0 := by
      cases x with
      | non => exact ⟨by simp [datV, PyData.canLay0], by simp [datV, PyData.depth]⟩
      | bl b => exact ⟨by simp [datV, PyData.canLay0], by simp [datV, PyData.depth]⟩
      | int i => exact ⟨by simp [datV, PyData.canLay0], by simp [datV, PyData.depth]⟩
      | str z => exact ⟨by simp only [datV, PyData.canLay0]; exact h.1, by simp [datV, PyData.depth]⟩
      | _ => exact absurd h.1 Bool.false_ne_true
    constructor
    · rw [List.map_cons]
      simp only [PyData.canLayAll0, z.1, h1, Bool.and_self]
    · rw [List.map_cons]
      simp only [PyData.depthAll, z.2, h2, Nat.max_self]
theorem shaped_flat {xs : List V} (h : xs.all layV = true) : SeqAt.shaped (.list (xs.map datV)) = true := by
  obtain ⟨h1, h2⟩ := lay_flat h
  unfold SeqAt.shaped
  simp only [PyData.canLay0, PyData.depth, h1, h2]
  decide
theorem eqv_nil (ds : List PyData) : PyData.eqv (.list ds) (.list []) = ds.isEmpty := by
  cases ds <;> simp [PyData.eqv, PyData.eqvAll]
/-- xs != [], the items plain -/
def rNeNil (K : PySem.W.Frag) : R2 := fun x y H Q => ∃ p q xs, x = .ref p ∧ y = .ref q ∧ SqL K H p xs ∧ xs.all layV = true ∧ H q = some (.lst []) ∧ Q (.bl (!xs.isEmpty)) H
theorem op_neNil {X : Cx} (K : PySem.W.Frag) (hu : X.A.units + 64 < cLine) (hK : X.K = K := by rfl) : OpR X (compareOp .NotEq) (rNeNil K) := by
  subst hK
  intro pins s σ H x y v u Q I rx ry h
  obtain ⟨p, q, xs, rfl, rfl, hp, hl, hq, k⟩ := h
  refine op_neD hu pins s σ H _ _ v u Q I rx ry ⟨_, _, .lst hp (dpAll_flat hl), .lst (.inl (.inl hq)) .nil, shaped_flat hl, by decide +kernel, ?_⟩
  rw [eqv_nil]
  cases xs <;> exact k
theorem lay_ints (ns : List Int) : (ns.map V.int).all layV = true := by
  rw [List.all_eq_true]
  intro y hy
  obtain ⟨i, _, rfl⟩ := List.mem_map.mp hy
  rfl
theorem k_rev {X : Cx} (K : PySem.W.Frag) {e : Expr} {te : TE} {k : Nat} {p1 p2 p3 pos : Pos} (he : PE X e te) (hK : X.K = K := by rfl) : PE X (.Subscript e (.Slice none none (some (.UnaryOp .USub (.Constant (.int 1) k p1) p2)) p3) pos) (tRevL K te) := by
  subst hK
  exact pe_revL he
theorem nil_or_snoc {α : Type} (l : List α) : l = [] ∨ ∃ L b, l = L ++ [b] := by
  rcases List.eq_nil_or_concat l with h | ⟨L, b, h⟩
  · exact .inl h
  · exact .inr ⟨L, b, by rw [h, List.concat_eq_append]⟩
/-! ### the stream: a list of great numbers and a mixed one -/
def DealG (H : Hp) (d g : Addr) (gs : List Int) : Prop := ∃ m : Int, H d = some (.lst [.ref g, .int m]) ∧ H g = some (.lst (gs.map V.int)) ∧ gs.length ≤ 60 ∧ (∀ x ∈ gs, 0 ≤ x) ∧ 0 ≤ m
def Deal (H : Hp) (d g : Addr) : Prop := ∃ gs, DealG H d g gs
/-- what is apart from the stream -/
def Apart (d g b : Addr) : Prop := b ≠ d ∧ b ≠ g
/-- all but the stream stays -/
def But (d g : Addr) (H H' : Hp) : Prop := ∀ b o, Apart d g b → H b = some o → H' b = some o
theorem But.refl {d g : Addr} (H : Hp) : But d g H H := fun _ _ _ h => h
theorem But.trans {d g : Addr} {H H1 H2 : Hp} (a : But d g H H1) (b : But d g H1 H2) : But d g H H2 := fun c o n h => b c o n (a c o n h)
theorem But.same {d g : Addr} {H H1 : Hp} (s : Same H H1) : But d g H H1 := fun _ _ _ h => s _ _ h
theorem Deal.same {d g : Addr} {H H1 : Hp} (h : Deal H d g) (s : Same H H1) : Deal H1 d g := by
  obtain ⟨gs, m, h1, h2, h3⟩ := h
  exact ⟨gs, m, s _ _ h1, s _ _ h2, h3⟩
theorem DealG.ne {d g : Addr} {H : Hp} {gs : List Int} (h : DealG H d g gs) : d ≠ g := by
  obtain ⟨m, h1, h2, _⟩ := h
  refine ne_of h1 h2 ?_
  intro z
  injection z with z
  cases gs with
  | nil => cases z
  | cons a l => cases z
theorem Deal.new {d g p : Addr} {H : Hp} (h : Deal H d g) (hp : H p = none) : Apart d g p := by
  obtain ⟨gs, m, h1, h2, _⟩ := h
  exact ⟨(ne_of_none h1 hp).symm, (ne_of_none h2 hp).symm⟩
theorem Deal.apart {d g p : Addr} {H : Hp} {o : HO} (h : Deal H d g) (hp : H p = some o) (ho : ∀ xs, o ≠ .lst xs) : Apart d g p := by
  obtain ⟨gs, m, h1, h2, _⟩ := h
  exact ⟨ne_of hp h1 (ho _), ne_of hp h2 (ho _)⟩
/-- another object of ours changes -/
theorem Deal.put {d g p : Addr} {H : Hp} {o : HO} (h : Deal H d g) (a : Apart d g p) : Deal (upd H p o) d g := by
  obtain ⟨gs, m, h1, h2, h3⟩ := h
  exact ⟨gs, m, by rw [upd_ne a.1.symm]; exact h1, by rw [upd_ne a.2.symm]; exact h2, h3⟩
theorem but_new {d g p : Addr} {H H' : Hp} {o : HO} (b : But d g H H') (hp : H p = none) : But d g H (L2.upd H' p o) := fun c u n e => by
  rw [upd_ne (ne_of_none e hp)]
  exact b c u n e
theorem sqT_but {K : PySem.W.Frag} {d g a : Addr} {H H' : Hp} {xs : List V} (D : Deal H d g) (b : But d g H H') (h : SqT K H a xs) : SqT K H' a xs := by
  rcases h with (h | ⟨o, h⟩) | h
  · exact .inl (.inl (b _ _ (D.apart h fun _ z => by cases z) h))
  · exact .inl (.inr ⟨o, b _ _ (D.apart h fun _ z => by cases z) h⟩)
  · exact .inr h
theorem KindAt.but {K : PySem.W.Frag} {d g p : Addr} {H H' : Hp} {k : Kd} (D : Deal H d g) (b : But d g H H') (h : KindAt K H p k) : KindAt K H' p k := by
  obtain ⟨dx, e⟩ := h
  exact ⟨dx, b _ _ (D.apart e fun _ z => by cases z) e⟩
theorem RuleAt.but {K : PySem.W.Frag} {d g p : Addr} {H H' : Hp} {R : Rl} (D : Deal H d g) (b : But d g H H') (h : RuleAt K H p R) : RuleAt K H' p R := by
  obtain ⟨dx, tr, tk, tn, ps, h1, h2, h3, h4, h5⟩ := h.ex
  exact ⟨dx, tr, tk, tn, ps, b _ _ (D.apart h1 fun _ z => by cases z) h1, sqT_but D b h2, sqT_but D b h3, sqT_but D b h4, Paired.imp (fun _ _ z => z.but D b) h5⟩
end Tm

namespace Tm
open PySem PySem.Spec PyProof.Rows L2
def top (i : Nat) : Stmt := PySem.Challenge.pw_termstill_k10_working_days.main.body.getD i (.Pass ⟨0, 0, 0, 0⟩)
abbrev s_is_integer : Stmt := top 13
abbrev s_is_length : Stmt := top 14
abbrev s_is_sequence : Stmt := top 16
abbrev s_are_rests : Stmt := top 32
abbrev s_are_kinds : Stmt := top 33
abbrev s_Rule___init__ : Stmt := inClass (top 35) 0
abbrev s_Rule_work : Stmt := inClass (top 35) 3
abbrev s__law_deal : Stmt := top 37
abbrev s__law_draw : Stmt := top 38
abbrev s__law_pick : Stmt := top 39
abbrev s__law_mixed : Stmt := top 40
abbrev s_law : Stmt := top 41
def d_is_integer : He5.DefA := ⟨fun K => He.ga K "is_integer", "is_integer", "is_integer", defArgs s_is_integer, defBody s_is_integer, defScope s_is_integer, [], []⟩
def d_is_length : He5.DefA := ⟨fun K => He.ga K "is_length", "is_length", "is_length", defArgs s_is_length, defBody s_is_length, defScope s_is_length, [], []⟩
def d_is_sequence : He5.DefA := ⟨fun K => He.ga K "is_sequence", "is_sequence", "is_sequence", defArgs s_is_sequence, defBody s_is_sequence, defScope s_is_sequence, [], []⟩
def d_are_rests : He5.DefA := ⟨fun K => He.ga K "are_rests", "are_rests", "are_rests", defArgs s_are_rests, defBody s_are_rests, defScope s_are_rests, [], []⟩
def d_are_kinds : He5.DefA := ⟨fun K => He.ga K "are_kinds", "are_kinds", "are_kinds", defArgs s_are_kinds, defBody s_are_kinds, defScope s_are_kinds, [], []⟩
def d_Rule___init__ : He5.DefA := ⟨fun K => He.ma K (He.ga K "Rule") "__init__", "__init__", "Rule.__init__", defArgs s_Rule___init__, defBody s_Rule___init__, defScope s_Rule___init__, [.adr (emptyDfl (fun K => He.ma K (He.ga K "Rule") "__init__") 0), .non, .adr (emptyDfl (fun K => He.ma K (He.ga K "Rule") "__init__") 2)], []⟩
def d_Rule_work : He5.DefA := ⟨fun K => He.ma K (He.ga K "Rule") "work", "work", "Rule.work", defArgs s_Rule_work, defBody s_Rule_work, defScope s_Rule_work, [], []⟩
def d__law_deal : He5.DefA := ⟨fun K => He.ga K "_law_deal", "_law_deal", "_law_deal", defArgs s__law_deal, defBody s__law_deal, defScope s__law_deal, [], []⟩
def d__law_draw : He5.DefA := ⟨fun K => He.ga K "_law_draw", "_law_draw", "_law_draw", defArgs s__law_draw, defBody s__law_draw, defScope s__law_draw, [], []⟩
def d__law_pick : He5.DefA := ⟨fun K => He.ga K "_law_pick", "_law_pick", "_law_pick", defArgs s__law_pick, defBody s__law_pick, defScope s__law_pick, [], []⟩
def d__law_mixed : He5.DefA := ⟨fun K => He.ga K "_law_mixed", "_law_mixed", "_law_mixed", defArgs s__law_mixed, defBody s__law_mixed, defScope s__law_mixed, [], []⟩
def d_law : He5.DefA := ⟨fun K => He.ga K "law", "law", "law", defArgs s_law, defBody s_law, defScope s_law, [], []⟩
def fn : List He5.DefA := [d_is_integer, d_is_length, d_is_sequence, d_are_rests, d_are_kinds, d_Rule___init__, d_Rule_work, d__law_deal, d__law_draw, d__law_pick, d__law_mixed, d_law]
def fa : List He.Fa := ([.glo "law", .free "isinstance", .free "int", .free "bool", .glo "is_integer", .free "list", .free "tuple", .int "MOST_RESTS" 6, .free "all", .free "len", .glo "is_sequence", .free "set", .int "WEEK" 7, .glo "Kind", .glo "is_length", .glo "InvalidRule", .glo "are_rests", .glo "are_kinds", .free "sorted", .free "abs"] : List He.Fa) ++ ([.glo "_law_draw", .glo "_law_deal", .free "range", .glo "Rule", .glo "_law_pick", .glo "_law_mixed", .cls "Kind", .glo "Still", .cls "Still", .mkr "Still", .noat "Still" "name", .noat "Still" "days", .noat "Still" "times", .glo "Anew", .cls "Anew", .mkr "Anew", .noat "Anew" "name", .noat "Anew" "left", .noat "Anew" "times", .glo "Lift"] : List He.Fa) ++ ([.cls "Lift", .mkr "Lift", .noat "Lift" "name", .noat "Lift" "by", .noat "Lift" "top", .noat "Lift" "times", .cls "Rule", .mkr "Rule", .noat "Rule" "length", .noat "Rule" "rests", .noat "Rule" "cap", .noat "Rule" "kinds", .noat "Rule" "names", .meth "Rule" "__init__", .meth "Rule" "work"] : List He.Fa)
def exs : List (PySem.W.Frag → Bool) := [fun K => tupAtB K (emptyDfl (fun K => He.ma K (He.ga K "Rule") "__init__") 0 K) [], fun K => tupAtB K (emptyDfl (fun K => He.ma K (He.ga K "Rule") "__init__") 2 K) [], fun K => ownB K (He.ga K "Kind"), fun K => ownB K (He.ga K "Still"), fun K => ownB K (He.ga K "Anew"), fun K => ownB K (He.ga K "Lift"), fun K => ownB K (He.ga K "Rule"), fun K => bltB K (He.ga K "Kind"), fun K => subB K (He.ga K "Kind") (He.ga K "Kind") true, fun K => subB K (He.ga K "Still") (He.ga K "Kind") true, fun K => subB K (He.ga K "Anew") (He.ga K "Kind") true, fun K => subB K (He.ga K "Lift") (He.ga K "Kind") true, fun K => subB K (He.ga K "Rule") (He.ga K "Kind") false]
def ex (K : PySem.W.Frag) : Bool := exs.all fun t => t K
structure Env (K : PySem.W.Frag) (mg : Str → Option Value) : Prop where
  g_law : mg "law" = some (.ref (He.ga K "law"))
  g_isinstance : mg "isinstance" = none
  g_int : mg "int" = none
  g_bool : mg "bool" = none
  g_is_integer : mg "is_integer" = some (.ref (He.ga K "is_integer"))
  g_list : mg "list" = none
  g_tuple : mg "tuple" = none
  g_MOST_RESTS : ∃ t, mg "MOST_RESTS" = some (.int 6 t)
  g_all : mg "all" = none
  g_len : mg "len" = none
  g_is_sequence : mg "is_sequence" = some (.ref (He.ga K "is_sequence"))
  g_set : mg "set" = none
  g_WEEK : ∃ t, mg "WEEK" = some (.int 7 t)
  g_Kind : mg "Kind" = some (.ref (He.ga K "Kind"))
  g_is_length : mg "is_length" = some (.ref (He.ga K "is_length"))
  g_InvalidRule : mg "InvalidRule" = some (.ref (He.ga K "InvalidRule"))
  g_are_rests : mg "are_rests" = some (.ref (He.ga K "are_rests"))
  g_are_kinds : mg "are_kinds" = some (.ref (He.ga K "are_kinds"))
  g_sorted : mg "sorted" = none
  g_abs : mg "abs" = none
  g__law_draw : mg "_law_draw" = some (.ref (He.ga K "_law_draw"))
  g__law_deal : mg "_law_deal" = some (.ref (He.ga K "_law_deal"))
  g_range : mg "range" = none
  g_Rule : mg "Rule" = some (.ref (He.ga K "Rule"))
  g__law_pick : mg "_law_pick" = some (.ref (He.ga K "_law_pick"))
  g__law_mixed : mg "_law_mixed" = some (.ref (He.ga K "_law_mixed"))
  cl_Kind : Cls K (He.ga K "Kind")
  g_Still : mg "Still" = some (.ref (He.ga K "Still"))
  cl_Still : Cls K (He.ga K "Still")
  mk_Still : Mk K (He.ga K "Still") (He.ma K (He.ga K "Still") "__init__")
  na_Still_name : NoAttr K (He.ga K "Still") "name"
  na_Still_days : NoAttr K (He.ga K "Still") "days"
  na_Still_times : NoAttr K (He.ga K "Still") "times"
  g_Anew : mg "Anew" = some (.ref (He.ga K "Anew"))
  cl_Anew : Cls K (He.ga K "Anew")
  mk_Anew : Mk K (He.ga K "Anew") (He.ma K (He.ga K "Anew") "__init__")
  na_Anew_name : NoAttr K (He.ga K "Anew") "name"
  na_Anew_left : NoAttr K (He.ga K "Anew") "left"
  na_Anew_times : NoAttr K (He.ga K "Anew") "times"
  g_Lift : mg "Lift" = some (.ref (He.ga K "Lift"))
  cl_Lift : Cls K (He.ga K "Lift")
  mk_Lift : Mk K (He.ga K "Lift") (He.ma K (He.ga K "Lift") "__init__")
  na_Lift_name : NoAttr K (He.ga K "Lift") "name"
  na_Lift_by : NoAttr K (He.ga K "Lift") "by"
  na_Lift_top : NoAttr K (He.ga K "Lift") "top"
  na_Lift_times : NoAttr K (He.ga K "Lift") "times"
  cl_Rule : Cls K (He.ga K "Rule")
  mk_Rule : Mk K (He.ga K "Rule") (He.ma K (He.ga K "Rule") "__init__")
  na_Rule_length : NoAttr K (He.ga K "Rule") "length"
  na_Rule_rests : NoAttr K (He.ga K "Rule") "rests"
  na_Rule_cap : NoAttr K (He.ga K "Rule") "cap"
  na_Rule_kinds : NoAttr K (He.ga K "Rule") "kinds"
  na_Rule_names : NoAttr K (He.ga K "Rule") "names"
  m_Rule___init__ : Meth K (He.ga K "Rule") "__init__" (He.ma K (He.ga K "Rule") "__init__")
  m_Rule_work : Meth K (He.ga K "Rule") "work" (He.ma K (He.ga K "Rule") "work")
  e_Rule___init___0 : (tupAtB K (emptyDfl (fun K => He.ma K (He.ga K "Rule") "__init__") 0 K) []) = true
  e_Rule___init___2 : (tupAtB K (emptyDfl (fun K => He.ma K (He.ga K "Rule") "__init__") 2 K) []) = true
  o_Kind : (ownB K (He.ga K "Kind")) = true
  o_Still : (ownB K (He.ga K "Still")) = true
  o_Anew : (ownB K (He.ga K "Anew")) = true
  o_Lift : (ownB K (He.ga K "Lift")) = true
  o_Rule : (ownB K (He.ga K "Rule")) = true
  b_Kind : (bltB K (He.ga K "Kind")) = true
  s_Kind_Kind : (subB K (He.ga K "Kind") (He.ga K "Kind") true) = true
  s_Still_Kind : (subB K (He.ga K "Still") (He.ga K "Kind") true) = true
  s_Anew_Kind : (subB K (He.ga K "Anew") (He.ga K "Kind") true) = true
  s_Lift_Kind : (subB K (He.ga K "Lift") (He.ga K "Kind") true) = true
  s_Rule_Kind : (subB K (He.ga K "Rule") (He.ga K "Kind") false) = true
  f_is_integer : ∃ fd, FunD K "is_integer" "is_integer" (defArgs s_is_integer) (defBody s_is_integer) (defScope s_is_integer) [] [] (He.ga K "is_integer") fd
  f_is_length : ∃ fd, FunD K "is_length" "is_length" (defArgs s_is_length) (defBody s_is_length) (defScope s_is_length) [] [] (He.ga K "is_length") fd
  f_is_sequence : ∃ fd, FunD K "is_sequence" "is_sequence" (defArgs s_is_sequence) (defBody s_is_sequence) (defScope s_is_sequence) [] [] (He.ga K "is_sequence") fd
  f_are_rests : ∃ fd, FunD K "are_rests" "are_rests" (defArgs s_are_rests) (defBody s_are_rests) (defScope s_are_rests) [] [] (He.ga K "are_rests") fd
  f_are_kinds : ∃ fd, FunD K "are_kinds" "are_kinds" (defArgs s_are_kinds) (defBody s_are_kinds) (defScope s_are_kinds) [] [] (He.ga K "are_kinds") fd
  f_Rule___init__ : ∃ fd, FunD K "__init__" "Rule.__init__" (defArgs s_Rule___init__) (defBody s_Rule___init__) (defScope s_Rule___init__) [.ref (emptyDfl (fun K => He.ma K (He.ga K "Rule") "__init__") 0 K), .non, .ref (emptyDfl (fun K => He.ma K (He.ga K "Rule") "__init__") 2 K)] [] (He.ma K (He.ga K "Rule") "__init__") fd
  f_Rule_work : ∃ fd, FunD K "work" "Rule.work" (defArgs s_Rule_work) (defBody s_Rule_work) (defScope s_Rule_work) [] [] (He.ma K (He.ga K "Rule") "work") fd
  f__law_deal : ∃ fd, FunD K "_law_deal" "_law_deal" (defArgs s__law_deal) (defBody s__law_deal) (defScope s__law_deal) [] [] (He.ga K "_law_deal") fd
  f__law_draw : ∃ fd, FunD K "_law_draw" "_law_draw" (defArgs s__law_draw) (defBody s__law_draw) (defScope s__law_draw) [] [] (He.ga K "_law_draw") fd
  f__law_pick : ∃ fd, FunD K "_law_pick" "_law_pick" (defArgs s__law_pick) (defBody s__law_pick) (defScope s__law_pick) [] [] (He.ga K "_law_pick") fd
  f__law_mixed : ∃ fd, FunD K "_law_mixed" "_law_mixed" (defArgs s__law_mixed) (defBody s__law_mixed) (defScope s__law_mixed) [] [] (He.ga K "_law_mixed") fd
  f_law : ∃ fd, FunD K "law" "law" (defArgs s_law) (defBody s_law) (defScope s_law) [] [] (He.ga K "law") fd
theorem env_of {K : PySem.W.Frag} {h : Heap} {mg : Str → Option Value} (X : K.In h) (G : h.Ns mainGlobals mg) (c : SaysM fa ex fn K) : Env K mg where
  g_law := He.glo_ok X G (c.a.fact 0 (f := .glo "law") rfl)
  g_isinstance := He.free_ok X G (c.a.fact 1 (f := .free "isinstance") rfl)
  g_int := He.free_ok X G (c.a.fact 2 (f := .free "int") rfl)
  g_bool := He.free_ok X G (c.a.fact 3 (f := .free "bool") rfl)
  g_is_integer := He.glo_ok X G (c.a.fact 4 (f := .glo "is_integer") rfl)
  g_list := He.free_ok X G (c.a.fact 5 (f := .free "list") rfl)
  g_tuple := He.free_ok X G (c.a.fact 6 (f := .free "tuple") rfl)
  g_MOST_RESTS := He.int_ok X G (c.a.fact 7 (f := .int "MOST_RESTS" 6) rfl)
  g_all := He.free_ok X G (c.a.fact 8 (f := .free "all") rfl)
  g_len := He.free_ok X G (c.a.fact 9 (f := .free "len") rfl)
  g_is_sequence := He.glo_ok X G (c.a.fact 10 (f := .glo "is_sequence") rfl)
  g_set := He.free_ok X G (c.a.fact 11 (f := .free "set") rfl)
  g_WEEK := He.int_ok X G (c.a.fact 12 (f := .int "WEEK" 7) rfl)
  g_Kind := He.glo_ok X G (c.a.fact 13 (f := .glo "Kind") rfl)
  g_is_length := He.glo_ok X G (c.a.fact 14 (f := .glo "is_length") rfl)
  g_InvalidRule := He.glo_ok X G (c.a.fact 15 (f := .glo "InvalidRule") rfl)
  g_are_rests := He.glo_ok X G (c.a.fact 16 (f := .glo "are_rests") rfl)
  g_are_kinds := He.glo_ok X G (c.a.fact 17 (f := .glo "are_kinds") rfl)
  g_sorted := He.free_ok X G (c.a.fact 18 (f := .free "sorted") rfl)
  g_abs := He.free_ok X G (c.a.fact 19 (f := .free "abs") rfl)
  g__law_draw := He.glo_ok X G (c.a.fact 20 (f := .glo "_law_draw") rfl)
  g__law_deal := He.glo_ok X G (c.a.fact 21 (f := .glo "_law_deal") rfl)
  g_range := He.free_ok X G (c.a.fact 22 (f := .free "range") rfl)
  g_Rule := He.glo_ok X G (c.a.fact 23 (f := .glo "Rule") rfl)
  g__law_pick := He.glo_ok X G (c.a.fact 24 (f := .glo "_law_pick") rfl)
  g__law_mixed := He.glo_ok X G (c.a.fact 25 (f := .glo "_law_mixed") rfl)
  cl_Kind := He.cls_ok (c.a.fact 26 (f := .cls "Kind") rfl)
  g_Still := He.glo_ok X G (c.a.fact 27 (f := .glo "Still") rfl)
  cl_Still := He.cls_ok (c.a.fact 28 (f := .cls "Still") rfl)
  mk_Still := He.mkr_ok (c.a.fact 29 (f := .mkr "Still") rfl)
  na_Still_name := He.noat_ok (c.a.fact 30 (f := .noat "Still" "name") rfl)
  na_Still_days := He.noat_ok (c.a.fact 31 (f := .noat "Still" "days") rfl)
  na_Still_times := He.noat_ok (c.a.fact 32 (f := .noat "Still" "times") rfl)
  g_Anew := He.glo_ok X G (c.a.fact 33 (f := .glo "Anew") rfl)
  cl_Anew := He.cls_ok (c.a.fact 34 (f := .cls "Anew") rfl)
  mk_Anew := He.mkr_ok (c.a.fact 35 (f := .mkr "Anew") rfl)
  na_Anew_name := He.noat_ok (c.a.fact 36 (f := .noat "Anew" "name") rfl)
  na_Anew_left := He.noat_ok (c.a.fact 37 (f := .noat "Anew" "left") rfl)
  na_Anew_times := He.noat_ok (c.a.fact 38 (f := .noat "Anew" "times") rfl)
  g_Lift := He.glo_ok X G (c.a.fact 39 (f := .glo "Lift") rfl)
  cl_Lift := He.cls_ok (c.a.fact 40 (f := .cls "Lift") rfl)
  mk_Lift := He.mkr_ok (c.a.fact 41 (f := .mkr "Lift") rfl)
  na_Lift_name := He.noat_ok (c.a.fact 42 (f := .noat "Lift" "name") rfl)
  na_Lift_by := He.noat_ok (c.a.fact 43 (f := .noat "Lift" "by") rfl)
  na_Lift_top := He.noat_ok (c.a.fact 44 (f := .noat "Lift" "top") rfl)
  na_Lift_times := He.noat_ok (c.a.fact 45 (f := .noat "Lift" "times") rfl)
  cl_Rule := He.cls_ok (c.a.fact 46 (f := .cls "Rule") rfl)
  mk_Rule := He.mkr_ok (c.a.fact 47 (f := .mkr "Rule") rfl)
  na_Rule_length := He.noat_ok (c.a.fact 48 (f := .noat "Rule" "length") rfl)
  na_Rule_rests := He.noat_ok (c.a.fact 49 (f := .noat "Rule" "rests") rfl)
  na_Rule_cap := He.noat_ok (c.a.fact 50 (f := .noat "Rule" "cap") rfl)
  na_Rule_kinds := He.noat_ok (c.a.fact 51 (f := .noat "Rule" "kinds") rfl)
  na_Rule_names := He.noat_ok (c.a.fact 52 (f := .noat "Rule" "names") rfl)
  m_Rule___init__ := He.meth_ok (c.a.fact 53 (f := .meth "Rule" "__init__") rfl)
  m_Rule_work := He.meth_ok (c.a.fact 54 (f := .meth "Rule" "work") rfl)
  e_Rule___init___0 := List.all_eq_true.mp c.ex (fun K => tupAtB K (emptyDfl (fun K => He.ma K (He.ga K "Rule") "__init__") 0 K) []) (List.mem_of_getElem? (i := 0) rfl)
  e_Rule___init___2 := List.all_eq_true.mp c.ex (fun K => tupAtB K (emptyDfl (fun K => He.ma K (He.ga K "Rule") "__init__") 2 K) []) (List.mem_of_getElem? (i := 1) rfl)
  o_Kind := List.all_eq_true.mp c.ex (fun K => ownB K (He.ga K "Kind")) (List.mem_of_getElem? (i := 2) rfl)
  o_Still := List.all_eq_true.mp c.ex (fun K => ownB K (He.ga K "Still")) (List.mem_of_getElem? (i := 3) rfl)
  o_Anew := List.all_eq_true.mp c.ex (fun K => ownB K (He.ga K "Anew")) (List.mem_of_getElem? (i := 4) rfl)
  o_Lift := List.all_eq_true.mp c.ex (fun K => ownB K (He.ga K "Lift")) (List.mem_of_getElem? (i := 5) rfl)
  o_Rule := List.all_eq_true.mp c.ex (fun K => ownB K (He.ga K "Rule")) (List.mem_of_getElem? (i := 6) rfl)
  b_Kind := List.all_eq_true.mp c.ex (fun K => bltB K (He.ga K "Kind")) (List.mem_of_getElem? (i := 7) rfl)
  s_Kind_Kind := List.all_eq_true.mp c.ex (fun K => subB K (He.ga K "Kind") (He.ga K "Kind") true) (List.mem_of_getElem? (i := 8) rfl)
  s_Still_Kind := List.all_eq_true.mp c.ex (fun K => subB K (He.ga K "Still") (He.ga K "Kind") true) (List.mem_of_getElem? (i := 9) rfl)
  s_Anew_Kind := List.all_eq_true.mp c.ex (fun K => subB K (He.ga K "Anew") (He.ga K "Kind") true) (List.mem_of_getElem? (i := 10) rfl)
  s_Lift_Kind := List.all_eq_true.mp c.ex (fun K => subB K (He.ga K "Lift") (He.ga K "Kind") true) (List.mem_of_getElem? (i := 11) rfl)
  s_Rule_Kind := List.all_eq_true.mp c.ex (fun K => subB K (He.ga K "Rule") (He.ga K "Kind") false) (List.mem_of_getElem? (i := 12) rfl)
  f_is_integer := c.a.def_ 0 (d := d_is_integer) rfl
  f_is_length := c.a.def_ 1 (d := d_is_length) rfl
  f_is_sequence := c.a.def_ 2 (d := d_is_sequence) rfl
  f_are_rests := c.a.def_ 3 (d := d_are_rests) rfl
  f_are_kinds := c.a.def_ 4 (d := d_are_kinds) rfl
  f_Rule___init__ := c.a.def_ 5 (d := d_Rule___init__) rfl
  f_Rule_work := c.a.def_ 6 (d := d_Rule_work) rfl
  f__law_deal := c.a.def_ 7 (d := d__law_deal) rfl
  f__law_draw := c.a.def_ 8 (d := d__law_draw) rfl
  f__law_pick := c.a.def_ 9 (d := d__law_pick) rfl
  f__law_mixed := c.a.def_ 10 (d := d__law_mixed) rfl
  f_law := c.a.def_ 11 (d := d_law) rfl
end Tm

namespace Tm
open PySem PySem.Spec PyProof.Rows L2
section
variable {P : Program} {w : World} {K : PySem.W.Frag} {mg : Str → Option Value} {base : Heap}
def spIsInt (K : PySem.W.Frag) : Sp := fun vs H Q _ => ∃ (x : V) (t : Value), vs = [x] ∧ Typ K H x t ∧ Q (.bl (decide (t = .type "int"))) H
theorem sc_is_integer : FnScope ["value"] ["value"] (defScope s_is_integer) := ⟨rfl, rfl, rfl, by decide +kernel, rfl, by decide +kernel, by decide +kernel⟩
theorem ok_is_integer (E : Env K mg) : Dn P w K mg base CX0 1 (He.ga K "is_integer") [] (spIsInt K) := by
  refine dn_of (ps := ["value"]) E.f_is_integer (fun fd F => ?_) (fun _ _ _ _ _ _ us hl => match us, hl with | [_], _ => rfl)
  refine F.ok sc_is_integer (fun vs H Q E h => ?_) (fun cdv A outer s H vs Q X hr h => ?_)
  · obtain ⟨x, t, rfl, _⟩ := h
    rfl
  · obtain ⟨x, t, rfl, T, k⟩ := h
    refine ⟨_, PSs.nox (pss_one (ps_ret (pe_and (pe_callB (k_isi K) (by rfl) E.g_isinstance bt_isinstance (pa_cons (pv 0) (pa_cons (pe_ty E.g_int bt_int) pa_nil))) (pe_one (pe_not (pe_callB (k_isi K) (by rfl) E.g_isinstance bt_isinstance (pa_cons (pv 0) (pa_cons (pe_ty E.g_bool bt_bool) pa_nil)))))))), ?_⟩
    refine ⟨_, rfl, _, _, _, _, _, rfl, .ty "int", T.ty, T.kit "int" (.inl rfl), _, rfl, ?_⟩
    by_cases h1 : t = .type "int"
    · subst h1
      refine iteT ?_
      exact ⟨_, rfl, _, _, _, _, _, rfl, .ty "bool", T.ty, T.kit "bool" (.inr (.inl rfl)), _, rfl, k⟩
    · rw [decide_eq_false h1] at k
      by_cases h2 : t = .type "bool"
      · subst h2
        refine iteT ?_
        exact ⟨_, rfl, _, _, _, _, _, rfl, .ty "bool", T.ty, T.kit "bool" (.inr (.inl rfl)), _, rfl, k⟩
      · have e : kb t "int" = false := by simp [kb, h1, h2]
        rw [e]
        exact iteF k
end

end Tm

namespace Tm
open PySem PySem.Spec PyProof.Rows L2
section
variable {P : Program} {w : World} {K : PySem.W.Frag} {mg : Str → Option Value} {base : Heap}
/-- an int from a number on -/
def intFrom (n : Int) : V → Bool
  | .int i => decide (n ≤ i)
  | _ => false
def spIsLen (K : PySem.W.Frag) : Sp := fun vs H Q _ => ∃ (x : V) (t : Value), vs = [x] ∧ Typ K H x t ∧ Q (.bl (intFrom 1 x)) H
theorem intFrom_not {K : PySem.W.Frag} {H : Hp} {n : Int} {x : V} {t : Value} (T : Typ K H x t) (h : ¬ t = .type "int") : intFrom n x = false := by
  cases x with
  | int i => exact absurd T.int_t h
  | _ => rfl
theorem sc_is_length : FnScope ["value"] ["value"] (defScope s_is_length) := ⟨rfl, rfl, rfl, by decide +kernel, rfl, by decide +kernel, by decide +kernel⟩
theorem ok_is_length (E : Env K mg) : Dn P w K mg base CX0 2 (He.ga K "is_length") [] (spIsLen K) := by
  refine dn_of (ps := ["value"]) E.f_is_length (fun fd F => ?_) (fun _ _ _ _ _ _ us hl => match us, hl with | [_], _ => rfl)
  refine F.ok sc_is_length (fun vs H Q E h => ?_) (fun cdv A outer s H vs Q X hr h => ?_)
  · obtain ⟨x, t, rfl, _⟩ := h
    rfl
  · obtain ⟨x, t, rfl, T, k⟩ := h
    refine ⟨_, PSs.nox (pss_one (ps_ret (pe_and (pe_c (ok_is_integer (K := K) E) (hr.mono (by decide)) E.g_is_integer pass0 (pa_cons (pv 0) pa_nil)) (pe_one (pe_cmpR op_ge (pv 0) pe_int (nomark _)))))), ?_⟩
    refine ⟨_, rfl, x, t, rfl, T, _, rfl, ?_⟩
    by_cases h1 : t = .type "int"
    · subst h1
      obtain ⟨i, rfl⟩ := T.isInt
      refine iteT ?_
      exact ⟨_, rfl, _, _, rfl, rfl, k⟩
    · rw [intFrom_not T h1] at k
      rw [decide_eq_false h1]
      exact iteF k
end

end Tm

namespace Tm
open PySem PySem.Spec PyProof.Rows L2
section
variable {P : Program} {w : World} {K : PySem.W.Frag} {mg : Str → Option Value} {base : Heap}
def isSeqT (t : Value) : Bool := decide (t = .type "list") || decide (t = .type "tuple")
def spIsSeq (K : PySem.W.Frag) : Sp := fun vs H Q _ => ∃ (x : V) (os : Option (List V)), vs = [x] ∧ AnyV K H x os ∧ ∀ H', Same H H' → Q (.bl os.isSome) H'
theorem sc_is_sequence : FnScope ["value"] ["value"] (defScope s_is_sequence) := ⟨rfl, rfl, rfl, by decide +kernel, rfl, by decide +kernel, by decide +kernel⟩
theorem ok_is_sequence (E : Env K mg) : Dn P w K mg base CX0 1 (He.ga K "is_sequence") [] (spIsSeq K) := by
  refine dn_of (ps := ["value"]) E.f_is_sequence (fun fd F => ?_) (fun _ _ _ _ _ _ us hl => match us, hl with | [_], _ => rfl)
  refine F.ok sc_is_sequence (fun vs H Q E h => ?_) (fun cdv A outer s H vs Q X hr h => ?_)
  · obtain ⟨x, os, rfl, _⟩ := h
    rfl
  · obtain ⟨x, os, rfl, AV, k⟩ := h
    obtain ⟨t, T, iff⟩ := AV.typ
    have eo : isSeqT t = os.isSome := by
      by_cases z : t = .type "list" ∨ t = .type "tuple"
      · rw [iff.mp z]
        unfold isSeqT
        rcases z with z | z <;> subst z <;> decide
      · have z2 : os.isSome = false := by
          cases q : os.isSome with
          | false => rfl
          | true => exact absurd (iff.mpr q) z
        rw [z2]
        unfold isSeqT
        rw [decide_eq_false fun q => z (.inl q), decide_eq_false fun q => z (.inr q)]
        rfl
    rw [← eo] at k
    refine ⟨_, PSs.nox (pss_one (ps_ret (pe_callB (k_isiT K) (by rfl) E.g_isinstance bt_isinstance (pa_cons (pv 0) (pa_cons (pe_tup (pa_cons (pe_ty E.g_list bt_list) (pa_cons (pe_ty E.g_tuple bt_tuple) pa_nil))) pa_nil))))), ?_⟩
    refine ⟨_, rfl, (by show 2 ≤ sizeLine; decide), fun p hp => ?_⟩
    refine ⟨x, p, _, t, [.type "list", .type "tuple"], isSeqT t, rfl, upd_same, .cons (.ty "list") (.cons (.ty "tuple") .nil), (T.mono (same_new hp)).ty, ?_, k _ (same_new hp)⟩
    refine kitAny_cons (T.kit "list" (by simp)) (fun h => kitAny_cons (r := isSeqT t) (T.kit "tuple" (by simp)) (fun h' => ?_) fun h' => ?_) fun h => ?_
    · rw [kitAny_nil]
      simp [kb] at h h'
      simp [isSeqT, h, h']
    · simp [kb] at h'
      simp [isSeqT, h']
    · simp [kb] at h
      simp [isSeqT, h]
end

end Tm

namespace Tm
open PySem PySem.Spec PyProof.Rows L2
section
variable {P : Program} {w : World} {K : PySem.W.Frag} {mg : Str → Option Value} {base : Heap}
/-- a remainder by seven -/
def restV : V → Bool
  | .int i => decide (0 ≤ i) && decide (i < 7)
  | _ => false
def restsOk (xs : List V) : Bool := decide (xs.length ≤ 6) && (xs.all restV && decide xs.Nodup)
def restsB : Option (List V) → Bool
  | none => false
  | some xs => restsOk xs
theorem ints_of_rests : ∀ {xs : List V}, xs.all restV = true → ∃ ns : List Int, xs = ns.map V.int ∧ ∀ n ∈ ns, 0 ≤ n ∧ n < 7
  | [], _ => ⟨[], rfl, fun _ h => nomatch h⟩
  | x :: xs, h => by
    rw [List.all_cons, Bool.and_eq_true] at h
    obtain ⟨ns, e, hn⟩ := ints_of_rests h.2
    cases x with
    | int i =>
      have h1 := h.1
      simp only [restV, Bool.and_eq_true, decide_eq_true_eq] at h1
      refine ⟨i :: ns, by rw [e]; rfl, fun n hm => ?_⟩
      rcases List.mem_cons.mp hm with rfl | hm
      · exact h1
      · exact hn n hm
    | _ => exact absurd h.1 Bool.false_ne_true
theorem nodup_ints {ns : List Int} : (ns.map V.int).Nodup ↔ ns.Nodup := by
  unfold List.Nodup
  rw [List.pairwise_map]
  constructor
  · exact fun h => h.imp fun z e => z (congrArg V.int e)
  · exact fun h => h.imp fun z e => z (V.int.inj e)
def spRests (K : PySem.W.Frag) : Sp := fun vs H Q _ => ∃ (x : V) (os : Option (List V)), vs = [x] ∧ AnyV K H x os ∧ ∀ H', Same H H' → Q (.bl (restsB os)) H'
theorem sc_are_rests : FnScope ["value", "one"] ["value"] (defScope s_are_rests) := ⟨rfl, rfl, rfl, by decide +kernel, rfl, by decide +kernel, by decide +kernel⟩
theorem ok_are_rests (E : Env K mg) : Dn P w K mg base CX0 3 (He.ga K "are_rests") [] (spRests K) := by
  refine dn_of (ps := ["value"]) E.f_are_rests (fun fd F => ?_) (fun _ _ _ _ _ _ us hl => match us, hl with | [_], _ => rfl)
  refine F.ok sc_are_rests (fun vs H Q E h => ?_) (fun cdv A outer s H vs Q X hr h => ?_)
  · obtain ⟨x, os, rfl, _⟩ := h
    rfl
  · obtain ⟨x, os, rfl, AV, k⟩ := h
    refine ⟨_, PSs.nox (pss_cons (ps_if (PW.pt (pw_or (pt_not (pt_val (pe_c (ok_is_sequence (K := K) E) (hr.mono (by decide)) E.g_is_sequence pass0 (pa_cons (pv 0) pa_nil)))) (pw_or1 (pt_cmpR op_gt (pe_callB (k_len K) (by rfl) E.g_len bt_len (pa_cons (pv 0) pa_nil)) (pe_gi E.g_MOST_RESTS) (nomark _))))) (pss_one (ps_ret pe_bl)) pss_nil)
      (pss_cons (ps_if (pt_not (pt_val (pe_callB (k_all K) (by rfl) E.g_all bt_all (pa_cons (pe_lc (own := [("one", 1)]) (by rfl) sc_are_rests.nd (k_piQ K (pv 0)) (blkOk_by (own := [("one", 1)]) (N := ["value", "one"]) (sc := defScope s_are_rests) (by decide +kernel)) (fun _ _ _ _ _ => (pg_name (i := 1) sc_are_rests.nd rfl (Or.inl rfl))) (fun _ _ _ _ _ => pts_nil) (fun _ _ _ _ _ => (pe_and (pe_c (ok_is_integer (K := K) E) (hr.mono (by decide)) E.g_is_integer pass0 (pa_cons (pv 1) pa_nil)) (pe_one (pe_chain op_le op_lt pe_int (pv 1) (pe_gi E.g_WEEK)))))) pa_nil)))) (pss_one (ps_ret pe_bl)) pss_nil)
      (pss_one (ps_ret (pe_cmpR op_eq (pe_lenSet K E.g_len E.g_set (pv 0)) (pe_callB (k_len K) (by rfl) E.g_len bt_len (pa_cons (pv 0) pa_nil)) (nomark _)))))), ?_⟩
    refine ⟨_, rfl, x, os, rfl, AV, fun H1 s1 => ⟨_, rfl, ?_⟩⟩
    have AV1 := AV.mono s1
    cases AV1 with
    | no T h1 h2 => exact iteT (iteT (k H1 s1))
    | @seq a xs hq hn hx =>
      refine iteF ?_
      refine ⟨_, rfl, _, xs.length, rfl, ?_, _, _, rfl, rfl, _, rfl, ?_⟩
      · rcases hq with hq | hq
        · exact Or.inl ⟨xs, hq, rfl⟩
        · exact Or.inr ⟨xs, hq, rfl⟩
      refine ite2 (fun h6 => ?_) (fun h6 => ?_)
      · have z : restsB (some xs) = false := by
          have h7 : ¬ xs.length ≤ 6 := by
            have := of_decide_eq_true h6
            omega
          simp [restsB, restsOk, h7]
        rw [z] at k
        exact k H1 s1
      · have h7 : xs.length ≤ 6 := by
          have : ¬ ((6 : Int) < (xs.length : Int)) := fun z => h6 (decide_eq_true z)
          omega
        dsimp only [tNext, tSeq, tIfS, tNot, tB, tCB, tCons]
        refine lc_M (fun y => .bl (restV y)) (fun R q => ⟨_, rfl, q⟩) hq (Nat.lt_of_le_of_lt h7 (by decide)) (fun y hy => ?_) (fun D H2 hD s2 e2 => ?_) (fun _ _ _ _ _ hm z => hm _ _ z)
        · intro H2 s2 R hR
          obtain ⟨u, T⟩ := hx y hy
          refine ⟨rfl, ?_⟩
          refine ⟨_, rfl, y, u, rfl, T.mono s2, _, rfl, ?_⟩
          by_cases hu : u = .type "int"
          · subst hu
            obtain ⟨i, rfl⟩ := T.isInt
            refine iteT ?_
            refine ⟨_, rfl, _, _, rfl, rfl, _, rfl, ?_⟩
            by_cases h0 : 0 ≤ i
            · rw [decide_eq_true h0]
              refine iteT ?_
              have e : restV (.int i) = decide (i < 7) := by simp [restV, h0]
              rw [e] at hR
              exact ⟨_, _, rfl, rfl, hR H2 (L2.Same.refl _)⟩
            · rw [decide_eq_false h0]
              refine iteF ?_
              have e : restV (.int i) = false := by simp [restV, h0]
              rw [e] at hR
              exact hR H2 (L2.Same.refl _)
          · rw [decide_eq_false hu]
            refine iteF ?_
            have e : restV y = false := by
              cases y with
              | int i => exact absurd T.int_t hu
              | _ => rfl
            rw [e] at hR
            exact hR H2 (L2.Same.refl _)
        · refine ⟨D, xs.map restV, rfl, ?_, _, rfl, ?_⟩
          · refine .inl (.inl ?_)
            rw [e2, List.map_map]
            rfl
          · have ea : ((xs.map restV).all id) = xs.all restV := by
              rw [List.all_map]
              rfl
            rw [ea]
            have s3 : Same H H2 := s1.trans s2
            cases er : xs.all restV with
            | false =>
              refine iteT ?_
              have z : restsB (some xs) = false := by simp [restsB, restsOk, er]
              rw [z] at k
              exact k H2 s3
            | true =>
              refine iteF ?_
              obtain ⟨ns, en, _⟩ := ints_of_rests er
              have hq2 := hq.mono s2
              rw [en] at hq2
              have hlen : xs.length = ns.length := by rw [en, List.length_map]
              refine ⟨_, rfl, a, ns, rfl, hq2, by omega, fun m hm => ?_⟩
              refine ⟨_, rfl, _, (ns.map V.int).length, rfl, ?_, rfl, ?_⟩
              · rcases hq2 with hq2 | hq2
                · exact Or.inl ⟨_, hq2, rfl⟩
                · exact Or.inr ⟨_, hq2, rfl⟩
              · have z : restsB (some xs) = decide (V.int (m : Int) = V.int ((ns.map V.int).length : Nat)) := by
                  have z1 : restsB (some xs) = decide xs.Nodup := by simp [restsB, restsOk, er, h7]
                  rw [z1, List.length_map]
                  by_cases hnd : ns.Nodup
                  · rw [decide_eq_true (by rw [en]; exact nodup_ints.mpr hnd), hm.mpr hnd, decide_eq_true rfl]
                  · rw [decide_eq_false (by rw [en]; exact fun q => hnd (nodup_ints.mp q)), decide_eq_false fun q => hnd (hm.mp (by have := V.int.inj q; omega))]
                rw [z] at k
                exact k H2 s3
end

end Tm

namespace Tm
open PySem PySem.Spec PyProof.Rows L2
section
variable {P : Program} {w : World} {K : PySem.W.Frag} {mg : Str → Option Value} {base : Heap}
/-- a kind, or something that is none -/
def KindQ (K : PySem.W.Frag) (H : Hp) (y : V) : Option Kd → Prop
  | some k => ∃ p, y = .ref p ∧ KindAt K H p k
  | none => ∃ t, Typ K H y t ∧ PySem.W.kitOne K t (.ref (He.ga K "Kind")) = some false
theorem KindQ.mono {H H' : Hp} {y : V} {o : Option Kd} (h : KindQ K H y o) (s : Same H H') : KindQ K H' y o := by
  cases o with
  | none =>
    obtain ⟨t, T, e⟩ := h
    exact ⟨t, T.mono s, e⟩
  | some k =>
    obtain ⟨p, e, q⟩ := h
    exact ⟨p, e, q.mono s⟩
def kindsOk (os : List (Option Kd)) : Bool := os.all (·.isSome) && decide ((os.filterMap id).map (·.name)).Nodup
def kindsB : Option (List (Option Kd)) → Bool
  | none => false
  | some os => kindsOk os
/-- any value as the kinds of a rule -/
inductive KindsV (K : PySem.W.Frag) (H : Hp) : V → Option (List (Option Kd)) → Prop where
  | no {x : V} {t : Value} (T : Typ K H x t) (h1 : t ≠ .type "list") (h2 : t ≠ .type "tuple") : KindsV K H x none
  | seq {a : Addr} {xs : List V} {os : List (Option Kd)} (h : Sq K H a xs) (hn : xs.length ≤ 1000) (hx : Paired (KindQ K H) xs os) : KindsV K H (.ref a) (some os)
theorem KindsV.mono {H H' : Hp} {x : V} {os : Option (List (Option Kd))} (h : KindsV K H x os) (s : Same H H') : KindsV K H' x os := by
  cases h with
  | no T h1 h2 => exact .no (T.mono s) h1 h2
  | seq h hn hx => exact .seq (h.mono s) hn (Paired.imp (fun _ _ z => z.mono s) hx)
theorem Kd.isKind (E : Env K mg) (k : Kd) : PySem.W.kitOne K (.ref (k.cls K)) (.ref (He.ga K "Kind")) = some true := by
  unfold Kd.cls
  cases k.fm
  · exact subB_ok E.s_Still_Kind
  · exact subB_ok E.s_Anew_Kind
  · exact subB_ok E.s_Lift_Kind
theorem Kd.own (E : Env K mg) (k : Kd) : OwnC K (k.cls K) := by
  unfold Kd.cls
  cases k.fm
  · exact ownB_ok E.o_Still
  · exact ownB_ok E.o_Anew
  · exact ownB_ok E.o_Lift
theorem Kd.cl (E : Env K mg) (k : Kd) : Cls K (k.cls K) := by
  unfold Kd.cls
  cases k.fm
  · exact E.cl_Still
  · exact E.cl_Anew
  · exact E.cl_Lift
theorem Kd.na_name (E : Env K mg) (k : Kd) : NoAttr K (k.cls K) "name" := by
  unfold Kd.cls
  cases k.fm
  · exact E.na_Still_name
  · exact E.na_Anew_name
  · exact E.na_Lift_name
theorem Kd.na_times (E : Env K mg) (k : Kd) : NoAttr K (k.cls K) "times" := by
  unfold Kd.cls
  cases k.fm
  · exact E.na_Still_times
  · exact E.na_Anew_times
  · exact E.na_Lift_times
theorem Kd.at_name (k : Kd) : k.flds.lookup ("name" : Str) = some (.str k.name) := by
  unfold Kd.flds
  cases k.fm <;> rfl
theorem Kd.at_times (k : Kd) : k.flds.lookup ("times" : Str) = some (tv k.times) := by
  unfold Kd.flds
  cases k.fm <;> rfl
theorem KindAt.typ (E : Env K mg) {H : Hp} {p : Addr} {k : Kd} (h : KindAt K H p k) : Typ K H (.ref p) (.ref (k.cls K)) := by
  obtain ⟨dx, e⟩ := h
  exact typ_ins (k.own E) (k.cl E) e
theorem KindQ.is (E : Env K mg) {H : Hp} {y : V} {o : Option Kd} (h : KindQ K H y o) : ∃ t, Typ K H y t ∧ PySem.W.kitOne K t (.ref (He.ga K "Kind")) = some o.isSome := by
  cases o with
  | none => exact h
  | some k =>
    obtain ⟨p, rfl, q⟩ := h
    exact ⟨_, q.typ E, k.isKind E⟩
theorem KindsV.any (E : Env K mg) {H : Hp} {x : V} {os : Option (List (Option Kd))} (h : KindsV K H x os) : ∃ o, AnyV K H x o ∧ o.isSome = os.isSome := by
  cases h with
  | no T h1 h2 => exact ⟨_, .no T h1 h2, rfl⟩
  | @seq a xs os h hn hx =>
    refine ⟨_, .seq h hn fun y hy => ?_, rfl⟩
    clear h hn
    induction hx with
    | nil => cases hy
    | cons q _ ih =>
      rcases List.mem_cons.mp hy with rfl | hy
      · obtain ⟨t, T, _⟩ := q.is E
        exact ⟨t, T⟩
      · exact ih hy
def spKinds (K : PySem.W.Frag) : Sp := fun vs H Q _ => ∃ (x : V) (os : Option (List (Option Kd))), vs = [x] ∧ KindsV K H x os ∧ ∀ H', Same H H' → Q (.bl (kindsB os)) H'
theorem sc_are_kinds : FnScope ["value", "one"] ["value"] (defScope s_are_kinds) := ⟨rfl, rfl, rfl, by decide +kernel, rfl, by decide +kernel, by decide +kernel⟩
theorem ok_are_kinds (E : Env K mg) : Dn P w K mg base CX0 3 (He.ga K "are_kinds") [] (spKinds K) := by
  refine dn_of (ps := ["value"]) E.f_are_kinds (fun fd F => ?_) (fun _ _ _ _ _ _ us hl => match us, hl with | [_], _ => rfl)
  refine F.ok sc_are_kinds (fun vs H Q E h => ?_) (fun cdv A outer s H vs Q X hr h => ?_)
  · obtain ⟨x, os, rfl, _⟩ := h
    rfl
  · obtain ⟨x, os, rfl, KV, k⟩ := h
    refine ⟨_, PSs.nox (pss_cons (ps_if (PW.pt (pw_or (pt_not (pt_val (pe_c (ok_is_sequence (K := K) E) (hr.mono (by decide)) E.g_is_sequence pass0 (pa_cons (pv 0) pa_nil)))) (pw_or1 (pt_not (pt_val (pe_callB (k_all K) (by rfl) E.g_all bt_all (pa_cons (pe_lc (own := [("one", 1)]) (by rfl) sc_are_kinds.nd (k_piQ K (pv 0)) (blkOk_by (own := [("one", 1)]) (N := ["value", "one"]) (sc := defScope s_are_kinds) (by decide +kernel)) (fun _ _ _ _ _ => (pg_name (i := 1) sc_are_kinds.nd rfl (Or.inl rfl))) (fun _ _ _ _ _ => pts_nil) (fun _ _ _ _ _ => (pe_callB (k_isi K) (by rfl) E.g_isinstance bt_isinstance (pa_cons (pv 1) (pa_cons (pe_gr E.g_Kind) pa_nil))))) pa_nil))))))) (pss_one (ps_ret pe_bl)) pss_nil)
      (pss_one (ps_ret (pe_cmpR op_eq (pe_callB call_lenD (by rfl) E.g_len bt_len (pa_cons (pe_dc (own := [("one", 1)]) (by rfl) sc_are_kinds.nd (k_piQ K (pv 0)) (blkOk_by (own := [("one", 1)]) (N := ["value", "one"]) (sc := defScope s_are_kinds) (by decide +kernel)) (fun _ _ _ _ _ => (pg_name (i := 1) sc_are_kinds.nd rfl (Or.inl rfl))) (fun _ _ _ _ _ => pts_nil) (fun _ _ _ _ _ => (k_fld K (pv 1) rfl)) (fun _ _ _ _ _ => pe_bl)) pa_nil)) (pe_callB (k_len K) (by rfl) E.g_len bt_len (pa_cons (pv 0) pa_nil)) (nomark _))))), ?_⟩
    obtain ⟨oo, AV, eo⟩ := KV.any E
    refine ⟨_, rfl, x, oo, rfl, AV, fun H1 s1 => ⟨_, rfl, ?_⟩⟩
    have KV1 := KV.mono s1
    rw [eo]
    cases KV1 with
    | no T h1 h2 => exact iteT (k H1 s1)
    | @seq a xs os hq hn hx =>
      refine iteF ?_
      dsimp only [tNext, tSeq, tIfS, tNot, tB, tCB, tCons]
      refine lc_P (ys := os.map fun o => V.bl o.isSome) (fun R q => ⟨_, rfl, q⟩) hq (Nat.lt_of_le_of_lt hn (by decide)) (by rw [List.length_map, paired_len hx]) (fun i y z hy hz H2 s2 R hR => ?_) (fun D H2 hD s2 e2 => ?_) (fun _ _ _ _ _ hm z => hm _ _ z)
      · rw [List.getElem?_map] at hz
        obtain ⟨o, ho, rfl⟩ := Option.map_eq_some_iff.mp hz
        obtain ⟨t, T, e⟩ := (paired_ix hx hy ho).is E
        exact ⟨rfl, ⟨_, rfl, y, _, t, _, o.isSome, rfl, .own _, (T.mono s2).ty, e, hR H2 (L2.Same.refl _)⟩⟩
      · refine ⟨D, os.map (·.isSome), rfl, ?_, _, rfl, ?_⟩
        · refine .inl (.inl ?_)
          rw [e2, List.map_map]
          rfl
        · have ea : ((os.map (·.isSome)).all id) = os.all (·.isSome) := by
            rw [List.all_map]
            rfl
          rw [ea]
          have s3 : Same H H2 := s1.trans s2
          cases er : os.all (·.isSome) with
          | false =>
            refine iteT ?_
            have z : kindsB (some os) = false := by simp [kindsB, kindsOk, er]
            rw [z] at k
            exact k H2 s3
          | true =>
            refine iteF ?_
            have hx2 : Paired (KindQ K H2) xs os := Paired.imp (fun _ _ z => z.mono s2) hx
            have el : (os.filterMap id).length = os.length := by
              clear e2 k KV AV hq hn hx hx2 eo ea
              induction os with
              | nil => rfl
              | cons o os ih =>
                rw [List.all_cons, Bool.and_eq_true] at er
                cases o with
                | none => exact absurd er.1 Bool.false_ne_true
                | some j =>
                  simp only [List.filterMap_cons, id, List.length_cons]
                  rw [ih er.2]
            dsimp only [tRet, tOp, tCB, tCons]
            refine dc_P (ps := (os.filterMap id).map fun j => ((Sum.inr j.name : Key), V.bl true)) (fun R q => ⟨_, rfl, q⟩) (hq.mono s2) (Nat.lt_of_le_of_lt hn (by decide)) (by rw [List.length_map, el, paired_len hx]) (fun i y q hy hz H3 s3 R hR => ?_) (fun D2 H3 hD2 s4 e4 => ?_) (fun _ _ _ _ _ hm z => hm _ _ z)
            · rw [List.getElem?_map] at hz
              obtain ⟨j, hj, rfl⟩ := Option.map_eq_some_iff.mp hz
              have ho : os[i]? = some (some j) := by
                clear e2 k KV AV hq hn hx hx2 eo ea hy hz
                induction os generalizing i with
                | nil => simp at hj
                | cons o os ih =>
                  rw [List.all_cons, Bool.and_eq_true] at er
                  cases o with
                  | none => exact absurd er.1 Bool.false_ne_true
                  | some j' =>
                    simp only [List.filterMap_cons, id, List.length_cons] at hj el
                    cases i with
                    | zero =>
                      simp at hj
                      subst hj
                      rfl
                    | succ i =>
                      simp at hj
                      simpa using ih er.2 (by omega) i hj
              obtain ⟨p, rfl, q⟩ := paired_ix hx2 hy ho
              obtain ⟨dx, e⟩ := q.mono s3
              exact ⟨rfl, _, rfl, p, _, dx, _, _, rfl, e, j.cl E, j.na_name E, j.at_name, hR H3 (L2.Same.refl _)⟩
            · refine ⟨D2, _, rfl, e4, ?_⟩
              refine ⟨_, rfl, _, xs.length, rfl, ?_, rfl, ?_⟩
              · rcases (hq.mono s2).mono s4 with z | z
                · exact Or.inl ⟨_, z, rfl⟩
                · exact Or.inr ⟨_, z, rfl⟩
              · have hz := mergeK_len ((os.filterMap id).map fun j => ((Sum.inr j.name : Key), V.bl true))
                have inj : (((os.filterMap id).map fun j => ((Sum.inr j.name : Key), V.bl true)).map (·.1)).Nodup ↔ ((os.filterMap id).map (·.name)).Nodup := by
                  unfold List.Nodup
                  rw [List.map_map, List.pairwise_map, List.pairwise_map]
                  constructor
                  · exact fun h => h.imp fun z e => z (congrArg Sum.inr e)
                  · exact fun h => h.imp fun z e => z (Sum.inr.inj e)
                rw [List.length_map, el, ← paired_len hx] at hz
                have fin : kindsB (some os) = decide (V.int ((mergeK [] ((os.filterMap id).map fun j => ((Sum.inr j.name : Key), V.bl true))).length : Nat) = V.int (xs.length : Nat)) := by
                  have z1 : kindsB (some os) = decide ((os.filterMap id).map (·.name)).Nodup := by simp [kindsB, kindsOk, er]
                  rw [z1]
                  by_cases hnd : ((os.filterMap id).map (·.name)).Nodup
                  · rw [decide_eq_true hnd, hz.mpr (inj.mpr hnd), decide_eq_true rfl]
                  · rw [decide_eq_false hnd, decide_eq_false fun q => hnd (inj.mp (hz.mp (by have := V.int.inj q; omega)))]
                rw [fin] at k
                exact k H3 (s3.trans s4)
end

end Tm

namespace Tm
open PySem PySem.Spec PyProof.Rows L2
section
variable {P : Program} {w : World} {K : PySem.W.Frag} {mg : Str → Option Value} {base : Heap}
/-- what stands at x may change, nothing else -/
theorem off_upd {H H' : Hp} {x : Addr} {o : HO} (h : Off x H H') : Off x H (upd H' x o) := fun b u hb e => by
  rw [upd_ne hb]
  exact h b u hb e
theorem off_same {H H1 H2 : Hp} {x : Addr} (h : Off x H H1) (s : Same H1 H2) : Off x H H2 := fun b u hb e => s _ _ (h b u hb e)
theorem off_trans {H H1 H2 : Hp} {x : Addr} (h : Off x H H1) (s : Off x H1 H2) : Off x H H2 := fun b u hb e => s b u hb (h b u hb e)
theorem sq_off {H H' : Hp} {a x : Addr} {xs : List V} {C dx : Addr} {fs : List (Str × V)} (hx : H x = some (.ins C dx fs)) (h : Sq K H a xs) (o : Off x H H') : Sq K H' a xs := by
  have ne : ∀ u, H a = some u → (∀ ys, u ≠ .ins C dx ys) → H' a = some u := fun u e hu => o a u (fun z => by subst z; rw [hx] at e; cases e; exact hu fs rfl) e
  rcases h with ((h | ⟨ob, h⟩) | h) | ((h | ⟨ob, h⟩) | h)
  · exact .inl (.inl (.inl (ne _ h fun _ z => by cases z)))
  · exact .inl (.inl (.inr ⟨ob, ne _ h fun _ z => by cases z⟩))
  · exact .inl (.inr h)
  · exact .inr (.inl (.inl (ne _ h fun _ z => by cases z)))
  · exact .inr (.inl (.inr ⟨ob, ne _ h fun _ z => by cases z⟩))
  · exact .inr (.inr h)
/-- the arguments of a rule that is made -/
structure RuleArgs (K : PySem.W.Frag) (H : Hp) (vl vr vc vk : V) (n : Int) (ns : List Int) (cap : Option Int) (ks : List Kd) : Prop where
  el : vl = .int n
  pl : 1 ≤ n
  rs : ∃ a, vr = .ref a ∧ Sq K H a (ns.map V.int)
  rl : ns.length ≤ 6
  rb : ∀ i ∈ ns, 0 ≤ i ∧ i < 7
  rn : ns.Nodup
  ec : vc = tv cap
  pc : ∀ c, cap = some c → 1 ≤ c
  kk : ∃ a ps, vk = .ref a ∧ Sq K H a (ps.map V.ref) ∧ Paired (KindAt K H) ps ks
  kl : ks.length ≤ 1000
  kn : (ks.map (·.name)).Nodup
theorem RuleArgs.mono {H H' : Hp} {vl vr vc vk : V} {n : Int} {ns : List Int} {cap : Option Int} {ks : List Kd} (r : RuleArgs K H vl vr vc vk n ns cap ks) (s : Same H H') : RuleArgs K H' vl vr vc vk n ns cap ks := by
  obtain ⟨h1, h2, ⟨a, h3, h4⟩, h5, h6, h7, h8, h9, ⟨b, ps, h10, h11, h12⟩, h13, h14⟩ := r
  exact ⟨h1, h2, ⟨a, h3, h4.mono s⟩, h5, h6, h7, h8, h9, ⟨b, ps, h10, h11.mono s, Paired.imp (fun _ _ z => z.mono s) h12⟩, h13, h14⟩
theorem rests_any {H : Hp} {a : Addr} {ns : List Int} (h : Sq K H a (ns.map V.int)) (hl : ns.length ≤ 6) : AnyV K H (.ref a) (some (ns.map V.int)) :=
  .seq h (by rw [List.length_map]; omega) fun y hy => by
    obtain ⟨i, _, rfl⟩ := List.mem_map.mp hy
    exact ⟨_, typ_int i⟩
theorem restsB_ints {ns : List Int} (hl : ns.length ≤ 6) (hb : ∀ i ∈ ns, 0 ≤ i ∧ i < 7) (hn : ns.Nodup) : restsB (some (ns.map V.int)) = true := by
  have h1 : (ns.map V.int).all restV = true := by
    rw [List.all_eq_true]
    intro y hy
    obtain ⟨i, hi, rfl⟩ := List.mem_map.mp hy
    have := hb i hi
    simp [restV, this.1, this.2]
  simp [restsB, restsOk, h1, hl, nodup_ints.mpr hn]
theorem kinds_v {H : Hp} {a : Addr} {ps : List Addr} {ks : List Kd} (h : Sq K H a (ps.map V.ref)) (hp : Paired (KindAt K H) ps ks) (hl : ks.length ≤ 1000) : KindsV K H (.ref a) (some (ks.map some)) := by
  refine .seq h (by rw [List.length_map, paired_len hp]; exact hl) ?_
  clear h hl
  induction hp with
  | nil => exact .nil
  | cons q _ ih => exact .cons ⟨_, rfl, q⟩ ih
theorem kindsB_ok {ks : List Kd} (hn : (ks.map (·.name)).Nodup) : kindsB (some (ks.map some)) = true := by
  have e : (ks.map some).filterMap id = ks := by
    rw [List.filterMap_map]
    simp
  have a : (ks.map some).all (·.isSome) = true := by simp
  simp [kindsB, kindsOk, a, e, hn]
def spRuleInit (K : PySem.W.Frag) : Sp := fun vs H Q _ => ∃ (x dx : Addr) (vl vr vc vk : V) (n : Int) (ns : List Int) (cap : Option Int) (ks : List Kd), vs = [.ref x, vl, vr, vc, vk] ∧ H x = some (.ins (He.ga K "Rule") dx []) ∧ RuleArgs K H vl vr vc vk n ns cap ks ∧
  ∀ (H' : Hp) (ns' : List Int), Off x H H' → ns'.Perm ns → ns'.Pairwise (· ≤ ·) → RuleAt K H' x ⟨n, ns', cap, ks⟩ → Q .non H'
theorem KindAt.off {H H' : Hp} {p x C dx : Addr} {k : Kd} (h : KindAt K H p k) (hx : H x = some (.ins C dx [])) (o : Off x H H') : KindAt K H' p k := by
  obtain ⟨dy, e⟩ := h
  refine ⟨dy, o _ _ (fun z => ?_) e⟩
  subst z
  rw [hx] at e
  have e2 := Option.some.inj e
  injection e2 with _ _ e3
  have q := k.at_name
  rw [← e3] at q
  cases q
theorem RuleArgs.off {H H' : Hp} {x C dx : Addr} {vl vr vc vk : V} {n : Int} {ns : List Int} {cap : Option Int} {ks : List Kd} (r : RuleArgs K H vl vr vc vk n ns cap ks) (hx : H x = some (.ins C dx [])) (o : Off x H H') : RuleArgs K H' vl vr vc vk n ns cap ks := by
  obtain ⟨h1, h2, ⟨a, h3, h4⟩, h5, h6, h7, h8, h9, ⟨b, ps, h10, h11, h12⟩, h13, h14⟩ := r
  exact ⟨h1, h2, ⟨a, h3, sq_off hx h4 o⟩, h5, h6, h7, h8, h9, ⟨b, ps, h10, sq_off hx h11 o, Paired.imp (fun _ _ z => z.off hx o) h12⟩, h13, h14⟩
theorem sc_Rule___init__ : FnScope ["self", "length", "rests", "cap", "kinds", "kind", "one"] ["self", "length", "rests", "cap", "kinds"] (defScope s_Rule___init__) := ⟨rfl, rfl, rfl, by decide +kernel, rfl, by decide +kernel, by decide +kernel⟩
theorem fn_Rule_init (E : Env K mg) {dvs : List V} (fd : FuncData) (F : FunD K "__init__" "Rule.__init__" (defArgs s_Rule___init__) (defBody s_Rule___init__) (defScope s_Rule___init__) dvs [] (He.ma K (He.ga K "Rule") "__init__") fd) :
    FnOk P w K mg base CX0 5 (He.ma K (He.ga K "Rule") "__init__") fd ["self", "length", "rests", "cap", "kinds"] (spRuleInit K) := by
  refine F.ok sc_Rule___init__ (fun vs H Q E h => ?_) (fun cdv A outer s H vs Q X hr h => ?_)
  · obtain ⟨x, dx, vl, vr, vc, vk, n, ns, cap, ks, rfl, _⟩ := h
    rfl
  · obtain ⟨x, dx, vl, vr, vc, vk, n, ns, cap, ks, rfl, hx, ra, k⟩ := h
    refine ⟨_, PSs.nox (pss_cons (ps_if (pt_not (pt_val (pe_c (ok_is_length (K := K) E) (hr.mono (by decide)) E.g_is_length pass0 (pa_cons (pv 1) pa_nil)))) (pss_one (ps_never)) pss_nil)
      (pss_cons (ps_if (pt_not (pt_val (pe_c (ok_are_rests (K := K) E) (hr.mono (by decide)) E.g_are_rests pass0 (pa_cons (pv 2) pa_nil)))) (pss_one (ps_never)) pss_nil)
      (pss_cons (ps_if (PW.pt (pw_and (pt_cmpR op_notN (pv 3) pe_non (nomark _)) (pw_and1 (pt_not (pt_val (pe_c (ok_is_length (K := K) E) (hr.mono (by decide)) E.g_is_length pass0 (pa_cons (pv 3) pa_nil))))))) (pss_one (ps_never)) pss_nil)
      (pss_cons (ps_if (pt_not (pt_val (pe_c (ok_are_kinds (K := K) E) (hr.mono (by decide)) E.g_are_kinds pass0 (pa_cons (pv 4) pa_nil)))) (pss_one (ps_never)) pss_nil)
      (pss_cons (ps_fld (pv 0) (pv 1) rfl)
      (pss_cons (ps_fld (pv 0) (pe_callTy (k_tuple K) (by rfl) E.g_tuple bt_tuple (pa_cons (pe_callB (k_sorted K) (by rfl) E.g_sorted bt_sorted (pa_cons (pe_lc (own := [("one", 6)]) (by rfl) sc_Rule___init__.nd (k_piQ K (pv 2)) (blkOk_by (own := [("one", 6)]) (N := ["self", "length", "rests", "cap", "kinds", "kind", "one"]) (sc := defScope s_Rule___init__) (by decide +kernel)) (fun _ _ _ _ _ => (pg_name (i := 6) sc_Rule___init__.nd rfl (Or.inl rfl))) (fun _ _ _ _ _ => pts_nil) (fun _ _ _ _ _ => (pe_callTy call_int1 (by rfl) E.g_int bt_int (pa_cons (pv 6) pa_nil)))) pa_nil)) pa_nil)) rfl)
      (pss_cons (ps_fld (pv 0) (pv 3) rfl)
      (pss_cons (ps_fld (pv 0) (pe_callTy (k_tuple K) (by rfl) E.g_tuple bt_tuple (pa_cons (pv 4) pa_nil)) rfl)
      (pss_one (ps_fld (pv 0) (pe_callTy (k_tuple K) (by rfl) E.g_tuple bt_tuple (pa_cons (pe_lc (own := [("kind", 5)]) (by rfl) sc_Rule___init__.nd (k_piQ K (pv 4)) (blkOk_by (own := [("kind", 5)]) (N := ["self", "length", "rests", "cap", "kinds", "kind", "one"]) (sc := defScope s_Rule___init__) (by decide +kernel)) (fun _ _ _ _ _ => (pg_name (i := 5) sc_Rule___init__.nd rfl (Or.inl rfl))) (fun _ _ _ _ _ => pts_nil) (fun _ _ _ _ _ => (k_fld K (pv 5) rfl))) pa_nil)) rfl)))))))))), ?_⟩
    obtain ⟨rfl, pl, ⟨a, rfl, hq⟩, rl, rb, rn, rfl, pc, ⟨b, ps, rfl, hk, hp⟩, kl, kn⟩ := id ra
    -- the four tests
    refine ⟨_, rfl, _, _, rfl, typ_int n, _, rfl, ?_⟩
    rw [show intFrom 1 (.int n) = true from decide_eq_true pl]
    refine iteF ?_
    refine ⟨_, rfl, _, _, rfl, rests_any hq rl, fun H1 s1 => ⟨_, rfl, ?_⟩⟩
    rw [restsB_ints rl rb rn]
    refine iteF ?_
    refine ⟨_, rfl, rfl, _, rfl, ?_⟩
    apply cut_if
    · intro hc rest
      have z : ∃ c, cap = some c := by
        cases cap with
        | none => exact absurd hc (by decide)
        | some c => exact ⟨c, rfl⟩
      have T : Typ K H1 (tv cap) (.type "int") ∧ intFrom 1 (tv cap) = true := by
        obtain ⟨c, rfl⟩ := z
        exact ⟨typ_int c, decide_eq_true (pc c rfl)⟩
      refine ⟨_, rfl, _, _, rfl, T.1, _, rfl, ?_⟩
      rw [T.2]
      exact iteF rest
    · intro hc rest
      exact iteF rest
    refine ⟨_, rfl, _, _, rfl, kinds_v (hk.mono s1) (Paired.imp (fun _ _ z => z.mono s1) hp) kl, fun H2 s2 => ⟨_, rfl, ?_⟩⟩
    rw [kindsB_ok kn]
    refine iteF ?_
    -- self.length
    have s12 := s1.trans s2
    refine ⟨_, rfl, _, rfl, x, He.ga K "Rule", dx, [], rfl, s12 _ _ hx, E.cl_Rule, E.na_Rule_length, (by show 0 < 1000; decide), ?_⟩
    -- self.rests
    have o3 : Off x H (upd H2 x (.ins (He.ga K "Rule") dx (putF "length" (.int n) []))) := off_upd fun b u _ e => s12 _ _ e
    have x3 : upd H2 x (.ins (He.ga K "Rule") dx (putF "length" (.int n) [])) x = some (.ins (He.ga K "Rule") dx [("length", .int n)]) := upd_same
    generalize upd H2 x (.ins (He.ga K "Rule") dx (putF "length" (.int n) [])) = H3 at o3 x3 ⊢
    have hq3 := sq_off hx hq o3
    dsimp only [tSeq, sFld, tCB, tCons]
    refine lc_M id (fun R q => ⟨_, rfl, q⟩) hq3 (by rw [List.length_map]; exact Nat.lt_of_le_of_lt rl (by decide)) (fun y hy H4 s4 R hR => ?_) (fun D H4 hD s4 e4 => ?_) (fun _ _ _ _ _ hm z => hm _ _ z)
    · obtain ⟨i, _, rfl⟩ := List.mem_map.mp hy
      exact ⟨rfl, _, rfl, Or.inl ⟨i, rfl, hR H4 (L2.Same.refl _)⟩⟩
    rw [List.map_id] at e4
    refine ⟨D, ns, rfl, .inl (.inl e4), fun ns' p5 hperm hsort hp5 => ?_⟩
    refine ⟨p5, _, rfl, .inl ⟨.inl (.inl upd_same), fun t6 ht6 => ?_⟩⟩
    have s6 : Same H3 (upd (upd H4 p5 (.lst (ns'.map V.int))) t6 (.tup (ns'.map V.int))) := s4.trans ((same_new hp5).trans (same_new ht6))
    have t6h : upd (upd H4 p5 (.lst (ns'.map V.int))) t6 (.tup (ns'.map V.int)) t6 = some (.tup (ns'.map V.int)) := upd_same
    generalize upd (upd H4 p5 (.lst (ns'.map V.int))) t6 (.tup (ns'.map V.int)) = H6 at s6 t6h ⊢
    have nt6 : t6 ≠ x := ne_of t6h (s6 _ _ x3) (by intro z; cases z)
    refine ⟨_, rfl, x, He.ga K "Rule", dx, _, rfl, s6 _ _ x3, E.cl_Rule, E.na_Rule_rests, (by show 1 < 1000; decide), ?_⟩
    have o7 := off_upd (o := .ins (He.ga K "Rule") dx (putF "rests" (.ref t6) [("length", .int n)])) (off_same o3 s6)
    have x7 : upd H6 x (.ins (He.ga K "Rule") dx (putF "rests" (.ref t6) [("length", .int n)])) x = some (.ins (He.ga K "Rule") dx [("length", .int n), ("rests", .ref t6)]) := upd_same
    have t7 : upd H6 x (.ins (He.ga K "Rule") dx (putF "rests" (.ref t6) [("length", .int n)])) t6 = some (.tup (ns'.map V.int)) := by rw [upd_ne nt6]; exact t6h
    generalize upd H6 x (.ins (He.ga K "Rule") dx (putF "rests" (.ref t6) [("length", .int n)])) = H7 at o7 x7 t7 ⊢
    -- self.cap
    refine ⟨_, rfl, _, rfl, x, He.ga K "Rule", dx, _, rfl, x7, E.cl_Rule, E.na_Rule_cap, (by show 2 < 1000; decide), ?_⟩
    have o8 := off_upd (o := .ins (He.ga K "Rule") dx (putF "cap" (tv cap) [("length", .int n), ("rests", .ref t6)])) o7
    have x8 : upd H7 x (.ins (He.ga K "Rule") dx (putF "cap" (tv cap) [("length", .int n), ("rests", .ref t6)])) x = some (.ins (He.ga K "Rule") dx [("length", .int n), ("rests", .ref t6), ("cap", tv cap)]) := upd_same
    have t8 : upd H7 x (.ins (He.ga K "Rule") dx (putF "cap" (tv cap) [("length", .int n), ("rests", .ref t6)])) t6 = some (.tup (ns'.map V.int)) := by rw [upd_ne nt6]; exact t7
    generalize upd H7 x (.ins (He.ga K "Rule") dx (putF "cap" (tv cap) [("length", .int n), ("rests", .ref t6)])) = H8 at o8 x8 t8 ⊢
    have hk8 := sq_off hx hk o8
    -- self.kinds: the tuple itself, or a new one
    have kinds : ∀ (R : V → Hp → Prop), (∀ tk H9, Same H8 H9 → SqT K H9 tk (ps.map V.ref) → R (.ref tk) H9) → rTuple K [.ref b] H8 R := fun R hR => by
      refine ⟨b, ps.map V.ref, rfl, ?_⟩
      rcases hk8 with z | z
      · exact .inl ⟨z, fun l hl => hR l _ (same_new hl) (.inl (.inl upd_same))⟩
      · exact .inr ⟨z, hR b _ (L2.Same.refl _) z⟩
    refine ⟨_, rfl, ?_⟩
    dsimp only [tNil]
    refine kinds _ fun tk H9 s9 hk9 => ?_
    refine ⟨_, rfl, x, He.ga K "Rule", dx, _, rfl, s9 _ _ x8, E.cl_Rule, E.na_Rule_kinds, (by show 3 < 1000; decide), ?_⟩
    have o10 := off_upd (o := .ins (He.ga K "Rule") dx (putF "kinds" (.ref tk) [("length", .int n), ("rests", .ref t6), ("cap", tv cap)])) (off_same o8 s9)
    have k10 : SqT K (upd H9 x (.ins (He.ga K "Rule") dx (putF "kinds" (.ref tk) [("length", .int n), ("rests", .ref t6), ("cap", tv cap)]))) tk (ps.map V.ref) := by
      rcases hk9 with (z | ⟨ob, z⟩) | z
      · exact .inl (.inl (by rw [upd_ne (ne_of z (s9 _ _ x8) (by intro q; cases q))]; exact z))
      · exact .inl (.inr ⟨ob, by rw [upd_ne (ne_of z (s9 _ _ x8) (by intro q; cases q))]; exact z⟩)
      · exact .inr z
    have x10 : upd H9 x (.ins (He.ga K "Rule") dx (putF "kinds" (.ref tk) [("length", .int n), ("rests", .ref t6), ("cap", tv cap)])) x = some (.ins (He.ga K "Rule") dx [("length", .int n), ("rests", .ref t6), ("cap", tv cap), ("kinds", .ref tk)]) := upd_same
    have t10 : upd H9 x (.ins (He.ga K "Rule") dx (putF "kinds" (.ref tk) [("length", .int n), ("rests", .ref t6), ("cap", tv cap)])) t6 = some (.tup (ns'.map V.int)) := by rw [upd_ne nt6]; exact s9 _ _ t8
    generalize upd H9 x (.ins (He.ga K "Rule") dx (putF "kinds" (.ref tk) [("length", .int n), ("rests", .ref t6), ("cap", tv cap)])) = H10 at o10 x10 t10 k10 ⊢
    -- self.names
    have hk10 := sq_off hx hk o10
    have hp10 : Paired (KindAt K H10) ps ks := Paired.imp (fun _ _ z => z.off hx o10) hp
    try dsimp only [sFld, tCB, tCons]
    refine lc_P (ys := ks.map fun j => V.str j.name) (fun R q => ⟨_, rfl, q⟩) hk10 (by rw [List.length_map, paired_len hp]; exact Nat.lt_of_le_of_lt kl (by decide)) (by rw [List.length_map, List.length_map, paired_len hp]) (fun i y z hy hz H11 s11 R hR => ?_) (fun D2 H11 hD2 s11 e11 => ?_) (fun _ _ _ _ _ hm z => hm _ _ z)
    · rw [List.getElem?_map] at hy hz
      obtain ⟨q, hq', rfl⟩ := Option.map_eq_some_iff.mp hy
      obtain ⟨j, hj, rfl⟩ := Option.map_eq_some_iff.mp hz
      obtain ⟨dy, e⟩ := (paired_ix hp10 hq' hj).mono s11
      exact ⟨rfl, _, rfl, q, _, dy, _, _, rfl, e, j.cl E, j.na_name E, j.at_name, hR H11 (L2.Same.refl _)⟩
    refine ⟨D2, _, rfl, .inl ⟨.inl (.inl e11), fun tn hn => ?_⟩⟩
    have s12' : Same H10 (upd H11 tn (.tup (ks.map fun j => V.str j.name))) := s11.trans (same_new hn)
    have n12 : upd H11 tn (.tup (ks.map fun j => V.str j.name)) tn = some (.tup (ks.map fun j => V.str j.name)) := upd_same
    generalize upd H11 tn (.tup (ks.map fun j => V.str j.name)) = H12 at s12' n12 ⊢
    refine ⟨_, rfl, x, He.ga K "Rule", dx, _, rfl, s12' _ _ x10, E.cl_Rule, E.na_Rule_names, (by show 4 < 1000; decide), ?_⟩
    have o13 := off_upd (o := .ins (He.ga K "Rule") dx (putF "names" (.ref tn) [("length", .int n), ("rests", .ref t6), ("cap", tv cap), ("kinds", .ref tk)])) (off_same o10 s12')
    refine k _ ns' o13 hperm hsort ⟨dx, t6, tk, tn, ps, upd_same, .inl (.inl ?_), ?_, .inl (.inl ?_), Paired.imp (fun _ _ z => z.off hx o13) hp⟩
    · rw [upd_ne nt6]
      exact s12' _ _ t10
    · rcases same_sqT s12' k10 with (z | ⟨ob, z⟩) | z
      · exact .inl (.inl (by rw [upd_ne (ne_of z (s12' _ _ x10) (by intro q; cases q))]; exact z))
      · exact .inl (.inr ⟨ob, by rw [upd_ne (ne_of z (s12' _ _ x10) (by intro q; cases q))]; exact z⟩)
      · exact .inr z
    · rw [upd_ne (ne_of n12 (s12' _ _ x10) (by intro q; cases q))]
      exact n12
end

end Tm

namespace Tm
open PySem PySem.Spec PyProof.Rows L2
section
variable {P : Program} {w : World} {K : PySem.W.Frag} {mg : Str → Option Value} {base : Heap}
theorem Rule_init2 (E : Env K mg) : Dn P w K mg base CX0 5 (He.ma K (He.ga K "Rule") "__init__") [.non, .ref (emptyDfl (fun K => He.ma K (He.ga K "Rule") "__init__") 2 K)] (spRuleInit K) :=
  dn_dfl (ps := ["self", "length", "rests", "cap", "kinds"]) 3 1 E.f_Rule___init__ (by simp) rfl (fun fd F => fn_Rule_init E fd F) (fun _ _ _ _ _ _ _ us its h1 h2 => match us, its, h1, h2 with | [_, _, _], [_, _, _], _, _ => ⟨_, rfl, rfl⟩)
theorem Rule_init1 (E : Env K mg) : Dn P w K mg base CX0 5 (He.ma K (He.ga K "Rule") "__init__") [.ref (emptyDfl (fun K => He.ma K (He.ga K "Rule") "__init__") 0 K), .non, .ref (emptyDfl (fun K => He.ma K (He.ga K "Rule") "__init__") 2 K)] (spRuleInit K) :=
  dn_dfl (ps := ["self", "length", "rests", "cap", "kinds"]) 2 0 E.f_Rule___init__ (by simp) rfl (fun fd F => fn_Rule_init E fd F) (fun _ _ _ _ _ _ _ us its h1 h2 => match us, its, h1, h2 with | [_, _], [_, _, _], _, _ => ⟨_, rfl, rfl⟩)
theorem Rule_init4 (E : Env K mg) : Dn P w K mg base CX0 5 (He.ma K (He.ga K "Rule") "__init__") [] (spRuleInit K) :=
  dn_dfl (ps := ["self", "length", "rests", "cap", "kinds"]) 5 3 E.f_Rule___init__ (by simp) rfl (fun fd F => fn_Rule_init E fd F) (fun _ _ _ _ _ _ _ us its h1 h2 => match us, its, h1, h2 with | [_, _, _, _, _], [_, _, _], _, _ => ⟨_, rfl, rfl⟩)
/-- Rule(..): the instance is new -/
theorem mk_rule {H : Hp} {G : Addr → Hp → Prop} {X : XK} {vl vr vc vk : V} {n : Int} {ns : List Int} {cap : Option Int} {ks : List Kd} (ra : RuleArgs K H vl vr vc vk n ns cap ks)
    (hQ : ∀ (p : Addr) (H' : Hp) (ns' : List Int), H p = none → Same H H' → ns'.Perm ns → ns'.Pairwise (· ≤ ·) → RuleAt K H' p ⟨n, ns', cap, ks⟩ → G p H') :
    ∀ x dx, H x = none → H dx = none → dx ≠ x → spRuleInit K (.ref x :: [vl, vr, vc, vk]) (upd (upd H dx (.own x)) x (.ins (He.ga K "Rule") dx [])) (fun v H2 => v = .non ∧ G x H2) X := by
  intro x dx hx hdx hne
  have s1 : Same H (upd H dx (.own x)) := same_new hdx
  have hx1 : upd H dx (.own x) x = none := by
    rw [upd_ne hne.symm]
    exact hx
  have s2 : Same H (upd (upd H dx (.own x)) x (.ins (He.ga K "Rule") dx [])) := s1.trans (same_new hx1)
  refine ⟨x, dx, vl, vr, vc, vk, n, ns, cap, ks, rfl, upd_same, ra.mono s2, fun H' ns' o hp hs R => ⟨rfl, hQ x H' ns' hx (fun b u e => ?_) hp hs R⟩⟩
  exact o b u (ne_of_none e hx) (s2 _ _ e)
end

end Tm

namespace Tm
open PySem PySem.Spec PyProof.Rows L2
section
variable {P : Program} {w : World} {K : PySem.W.Frag} {mg : Str → Option Value} {base : Heap}
theorem inV_int (i : Int) : ∀ ns : List Int, inV (.int i) (ns.map V.int) = decide (i ∈ ns)
  | [] => rfl
  | n :: ns => by
    have ih := inV_int i ns
    unfold inV at ih ⊢
    rw [List.map_cons, List.any_cons, ih]
    show ((n == i) || decide (i ∈ ns)) = decide (i ∈ n :: ns)
    by_cases e : n = i
    · subst e
      simp
    · have e' : ¬ i = n := fun z => e z.symm
      simp [e, e']
theorem flat_ints (ns : List Int) : (ns.map V.int).all flatV = true := by
  rw [List.all_eq_true]
  intro y hy
  obtain ⟨i, _, rfl⟩ := List.mem_map.mp hy
  rfl
theorem Rl.at_rests (E : Env K mg) {H : Hp} {p : Addr} {R : Rl} (h : RuleAt K H p R) : ∃ dx fs t, H p = some (.ins (He.ga K "Rule") dx fs) ∧ fs.lookup ("rests" : Str) = some (.ref t) ∧ SqT K H t (R.rests.map V.int) := by
  obtain ⟨dx, tr, tk, tn, ps, h1, h2, h3, h4, h5⟩ := h.ex
  exact ⟨dx, _, tr, h1, rfl, h2⟩
def spWork (K : PySem.W.Frag) : Sp := fun vs H Q _ => ∃ (p : Addr) (d : Int) (R : Rl), vs = [.ref p, .int d] ∧ RuleAt K H p R ∧ R.rests.length ≤ 6 ∧ Q (.int (workD R.rests d)) H
theorem sc_Rule_work : FnScope ["self", "day"] ["self", "day"] (defScope s_Rule_work) := ⟨rfl, rfl, rfl, by decide +kernel, rfl, by decide +kernel, by decide +kernel⟩
theorem ok_Rule_work (E : Env K mg) : Dn P w K mg base CX0 1 (He.ma K (He.ga K "Rule") "work") [] (spWork K) := by
  refine dn_of (ps := ["self", "day"]) E.f_Rule_work (fun fd F => ?_) (fun _ _ _ _ _ _ us hl => match us, hl with | [_, _], _ => rfl)
  refine F.ok sc_Rule_work (fun vs H Q E h => ?_) (fun cdv A outer s H vs Q X hr h => ?_)
  · obtain ⟨p, d, R, rfl, _⟩ := h
    rfl
  · obtain ⟨p, d, R, rfl, ra, hl, k⟩ := h
    refine ⟨_, PSs.nox (pss_cons (ps_while PassesOwn.never (pt_cmpR (k_in K) (pe_op op_mod (pv 1) (pe_gi E.g_WEEK)) (k_fld K (pv 0) rfl) (by rfl))
      (pss_one (ps_aug (i := 1) sc_Rule_work.nd rfl (.inl rfl) pe_int ip_add)))
      (pss_one (ps_ret (pv 1)))), ?_⟩
    obtain ⟨dx, fs, t, h1, h2, h3⟩ := Rl.at_rests E ra
    refine while_by (fun σ H' => H' = H ∧ ∃ j : Nat, j ≤ gap R.rests d ∧ σ = [some (.ref p), some (.int (d + (j : Int)))]) (fun σ _ => match σ with
      | [_, some (.int e)] => gap R.rests d - (e - d).toNat
      | _ => 0) ⟨rfl, 0, Nat.zero_le _, by simp [L2.start]⟩ ?_ ?_
    · rintro σ H' ⟨rfl, j, hj, rfl⟩
      refine ⟨_, rfl, _, _, rfl, rfl, (by show (0 : Int) < 7; decide), _, rfl, p, _, dx, fs, _, rfl, h1, E.cl_Rule, E.na_Rule_rests, h2, t, _, rfl, Or.inr h3, rfl, flat_ints _, _, rfl, ?_⟩
      show (if inV (V.int ((d + (j : Int)) % 7)) (R.rests.map V.int) = true then _ else _)
      rw [inV_int]
      rcases Nat.lt_or_ge j (gap R.rests d) with z | z
      · rw [decide_eq_true (gap_in z)]
        refine iteT ?_
        refine ⟨_, rfl, _, _, rfl, rfl, ⟨rfl, j + 1, z, ?_⟩, ?_⟩
        · show [some (V.ref p), some (V.int (d + (j : Int) + 1))] = _
          rw [show d + ((j + 1 : Nat) : Int) = d + (j : Int) + 1 by omega]
        · show gap R.rests d - (d + (j : Int) + 1 - d).toNat < gap R.rests d - (d + (j : Int) - d).toNat
          omega
      · have e : j = gap R.rests d := Nat.le_antisymm hj z
        subst e
        rw [decide_eq_false (gap_at hl d)]
        refine iteF ?_
        exact ⟨_, rfl, k⟩
    · rintro σ H' Q1 Q2 hm ⟨v, e, i, j, e1, e2, hpos, w', e3, a, C, dx, fs, v2, e4, e5, e6, e7, e8, q, xs, e9, e10, e11, e12, b, e13, e14⟩
      exact ⟨v, e, i, j, e1, e2, hpos, w', e3, a, C, dx, fs, v2, e4, e5, e6, e7, e8, q, xs, e9, e10, e11, e12, b, e13, hm _ _ e14⟩
end

end Tm

namespace Tm
open PySem PySem.Spec PyProof.Rows L2
section
variable {P : Program} {w : World} {K : PySem.W.Frag} {mg : Str → Option Value} {base : Heap}
def spDraw : Sp := fun vs H Q _ => ∃ (d g : Addr) (n : Int), vs = [.ref d, .int n] ∧ Deal H d g ∧ 0 < n ∧ n < 2 ^ 64 ∧ ∀ (v : Int) (H' : Hp), 0 ≤ v → v < n → Deal H' d g → But d g H H' → Q (.int v) H'
theorem sc__law_draw : FnScope ["_law_deal_here", "_law_many", "_law_rest"] ["_law_deal_here", "_law_many"] (defScope s__law_draw) := ⟨rfl, rfl, rfl, by decide +kernel, rfl, by decide +kernel, by decide +kernel⟩
theorem ok__law_draw (E : Env K mg) : Dn P w K mg base CX0 1 (He.ga K "_law_draw") [] spDraw := by
  refine dn_of (ps := ["_law_deal_here", "_law_many"]) E.f__law_draw (fun fd F => ?_) (fun _ _ _ _ _ _ us hl => match us, hl with | [_, _], _ => rfl)
  refine F.ok sc__law_draw (fun vs H Q E h => ?_) (fun cdv A outer s H vs Q X hr h => ?_)
  · obtain ⟨d, g, n, rfl, _⟩ := h
    rfl
  · obtain ⟨d, g, n, rfl, D0, hn, hn2, k⟩ := h
    have hu := hr.units
    have cd : CDivW 0 n := wide_div (b := 65) hn (by omega) (by decide) (by decide)
    refine ⟨_, PSs.nox (pss_cons (ps_while PassesOwn.never (PW.pt (pw_and (pt_cmpR (op_neNil K hu) (pe_ix (k_ixL K) (pv 0) pe_int (fun _ _ => rfl)) (pe_lst pa_nil) (nomark _)) (pw_and1 (pt_cmpR op_eq (pe_ix (k_ixL K) (pe_ix (k_ixL K) (pv 0) pe_int (fun _ _ => rfl)) (pe_un un_neg pe_int) (fun _ _ => rfl)) pe_int (nomark _)))))
      (pss_one (ps_expr (k_bm0 K PySem.F.plainAttrs_list PySem.F.slot_list_pop PySem.F.type_list_pop mt_pop (pe_ix (k_ixL K) (pv 0) pe_int (fun _ _ => rfl)) ))))
      (pss_cons (ps_if (pt_cmpR (op_neNil K hu) (pe_ix (k_ixL K) (pv 0) pe_int (fun _ _ => rfl)) (pe_lst pa_nil) (nomark _)) (pss_cons (ps_set (i := 2) sc__law_draw.nd rfl (Or.inl rfl) (k_bm0 K PySem.F.plainAttrs_list PySem.F.slot_list_pop PySem.F.type_list_pop mt_pop (pe_ix (k_ixL K) (pv 0) pe_int (fun _ _ => rfl)) ))
      (pss_cons (ps_expr (k_bm K PySem.F.plainAttrs_list PySem.F.slot_list_append PySem.F.type_list_append mt_append (pe_ix (k_ixL K) (pv 0) pe_int (fun _ _ => rfl)) (pa_cons (pe_op op_fdivW (pv 2) (pv 1)) pa_nil)))
      (pss_one (ps_ret (pe_op op_mod (pe_callTy call_int1 (by rfl) E.g_int bt_int (pa_cons (pv 2) pa_nil)) (pv 1)))))) pss_nil)
      (pss_cons (ps_asg (pe_op op_mod (pe_callTy call_int1 (by rfl) E.g_int bt_int (pa_cons (pe_op op_add (pe_op op_mul (pe_ix (k_ixL K) (pv 0) pe_int (fun _ _ => rfl)) pe_int) pe_int) pa_nil)) pe_int) (pg_sub (pv 0) pe_int set_list))
      (pss_one (ps_ret (pe_op op_mod (pe_callTy call_int1 (by rfl) E.g_int bt_int (pa_cons (pe_op op_fdiv (pe_ix (k_ixL K) (pv 0) pe_int (fun _ _ => rfl)) pe_int) pa_nil)) (pv 1))))))), ?_⟩
    obtain ⟨gs0, D0⟩ := D0
    -- the test of the loop, and of the if: the list, a new empty one
    refine ⟨fun m σ H' => ∃ gs, m = gs.length ∧ σ = [some (.ref d), some (.int n), none] ∧ DealG H' d g gs ∧ But d g H H', ⟨_, gs0, rfl, rfl, D0, But.refl H⟩, ?_⟩
    rintro m σ H1 ⟨gs, rfl, rfl, D1, b1⟩
    have D1' : Deal H1 d g := ⟨gs, D1⟩
    obtain ⟨mm, hd, hg, hl, hpos, hm⟩ := id D1
    refine ⟨_, rfl, d, _, 0, _, rfl, rfl, .inl (.inl hd), rfl, (by show 0 ≤ sizeLine; decide), fun p hp => ?_⟩
    have ap := D1'.new hp
    have hg2 : upd H1 p (.lst []) g = some (.lst (gs.map V.int)) := by rw [upd_ne ap.2.symm]; exact hg
    have hd2 : upd H1 p (.lst []) d = some (.lst [.ref g, .int mm]) := by rw [upd_ne ap.1.symm]; exact hd
    refine ⟨g, p, _, rfl, rfl, .inl (.inl hg2), lay_ints _, upd_same, _, rfl, ?_⟩
    have b2 : But d g H (upd H1 p (.lst [])) := b1.trans (But.same (same_new hp))
    have D2 : DealG (upd H1 p (.lst [])) d g gs := ⟨mm, hd2, hg2, hl, hpos, hm⟩
    generalize upd H1 p (.lst []) = H2 at b2 D2 hd2 hg2 ⊢
    clear hp ap D1 D1' hd hg b1
    rcases nil_or_snoc gs with rfl | ⟨l, y, rfl⟩
    · -- no great number is left
      refine iteF (iteF ?_)
      refine ⟨_, rfl, d, _, 0, _, rfl, rfl, .inl (.inl hd2), rfl, (by show 0 ≤ sizeLine; decide), fun p hp => ?_⟩
      have ap := Deal.new ⟨_, D2⟩ hp
      have hg3 : upd H2 p (.lst []) g = some (.lst (([] : List Int).map V.int)) := by rw [upd_ne ap.2.symm]; exact hg2
      have hd3 : upd H2 p (.lst []) d = some (.lst [.ref g, .int mm]) := by rw [upd_ne ap.1.symm]; exact hd2
      refine ⟨g, p, _, rfl, rfl, .inl (.inl hg3), lay_ints _, upd_same, _, rfl, ?_⟩
      have b3 : But d g H (upd H2 p (.lst [])) := b2.trans (But.same (same_new hp))
      generalize upd H2 p (.lst []) = H3 at b3 hd3 hg3 ⊢
      refine iteF ?_
      refine ⟨_, rfl, d, _, 1, _, rfl, rfl, .inl (.inl hd3), rfl, _, _, rfl, rfl, .inr ⟨by decide, by decide⟩, _, _, rfl, rfl, .inl ⟨_, rfl, _, _, rfl, rfl, (by show (0 : Int) < 2147483647; decide), ?_⟩⟩
      refine ⟨_, rfl, d, _, 1, 1, rfl, rfl, hd3, rfl, ?_⟩
      have nn : d ≠ g := D2.ne
      have hpos2 : 0 ≤ (mm * 48271 + 31) % 2147483647 := Int.emod_nonneg _ (by decide)
      obtain ⟨m2, em⟩ : ∃ m2, m2 = (mm * 48271 + 31) % 2147483647 := ⟨_, rfl⟩
      rw [← em] at hpos2
      show (fun σ' H' => _) _ (upd H3 d (.lst [.ref g, .int ((mm * 48271 + 31) % 2147483647)]))
      rw [← em]
      have hd4 : upd H3 d (.lst [.ref g, .int m2]) d = some (.lst [.ref g, .int m2]) := upd_same
      have hg4 : upd H3 d (.lst [.ref g, .int m2]) g = some (.lst (([] : List Int).map V.int)) := by rw [upd_ne nn.symm]; exact hg3
      have b4 : But d g H (upd H3 d (.lst [.ref g, .int m2])) := fun c u n e => by rw [upd_ne n.1]; exact b3 c u n e
      refine ⟨_, rfl, d, _, 1, _, rfl, rfl, .inl (.inl hd4), rfl, _, _, rfl, rfl, ⟨by decide, by decide⟩, .inl ⟨_, rfl, _, rfl, _, _, rfl, rfl, hn, ?_⟩⟩
      exact k _ _ (Int.emod_nonneg _ (by omega)) (Int.emod_lt_of_pos _ hn) ⟨[], m2, hd4, hg4, by simp, by simp, hpos2⟩ b4
    · have e1 : (!((l ++ [y]).map V.int).isEmpty) = true := by simp
      have nn : d ≠ g := D2.ne
      have hl' : l.length ≤ 60 := by simp at hl; omega
      have hposl : ∀ x ∈ l, 0 ≤ x := fun x hx => hpos x (List.mem_append_left _ hx)
      have hy : 0 ≤ y := hpos y (by simp)
      rw [e1]
      refine iteT ?_
      rw [List.map_append] at hg2
      refine ⟨_, rfl, d, _, 0, _, rfl, rfl, .inl (.inl hd2), rfl, _, rfl, g, _, -1, _, rfl, rfl, .inl (.inl hg2), atI_last _ _, rfl, _, rfl, ?_⟩
      by_cases h0 : y = 0
      · -- the last one is used up
        subst h0
        refine iteT ⟨fun σ' H' => ∃ m', m' < (l ++ [0]).length ∧ ∃ gs, m' = gs.length ∧ σ' = [some (.ref d), some (.int n), none] ∧ DealG H' d g gs ∧ But d g H H', fun σ' H' z => z, ?_⟩
        refine ⟨_, rfl, d, _, 0, _, rfl, rfl, .inl (.inl hd2), rfl, .inl ⟨rfl, _, .inl (.inl hg2)⟩, g, _, .int 0, rfl, rfl, hg2, by simp, ?_⟩
        refine ⟨l.length, by simp, l, rfl, rfl, ⟨mm, by rw [upd_ne nn]; exact hd2, ?_, hl', hposl, hm⟩, fun c u nc e => by rw [upd_ne nc.2]; exact b2 c u nc e⟩
        rw [upd_same]
        simp
      · have e2 : decide (V.int y = V.int 0) = false := decide_eq_false fun z => h0 (V.int.inj z)
        show (if decide (V.int y = V.int 0) = true then _ else _)
        rw [e2]
        refine iteF ?_
        -- a digit of the last one
        refine ⟨_, rfl, d, _, 0, _, rfl, rfl, .inl (.inl hd2), rfl, (by show 0 ≤ sizeLine; decide), fun p hp => ?_⟩
        have ap := Deal.new ⟨_, D2⟩ hp
        have hg3 : upd H2 p (.lst []) g = some (.lst (l.map V.int ++ [y].map V.int)) := by rw [upd_ne ap.2.symm]; exact hg2
        have hd3 : upd H2 p (.lst []) d = some (.lst [.ref g, .int mm]) := by rw [upd_ne ap.1.symm]; exact hd2
        refine ⟨g, p, _, rfl, rfl, .inl (.inl hg3), (by rw [← List.map_append]; exact lay_ints _), upd_same, _, rfl, ?_⟩
        have b3 : But d g H (upd H2 p (.lst [])) := b2.trans (But.same (same_new hp))
        generalize upd H2 p (.lst []) = H3 at b3 hd3 hg3 ⊢
        rw [show (!(l.map V.int ++ [y].map V.int).isEmpty) = true by simp]
        refine iteT ?_
        refine ⟨_, rfl, d, _, 0, _, rfl, rfl, .inl (.inl hd3), rfl, .inl ⟨rfl, _, .inl (.inl hg3)⟩, g, _, .int y, rfl, rfl, hg3, by simp, ?_⟩
        have hg4 : upd H3 g (.lst (l.map V.int ++ [y].map V.int).dropLast) g = some (.lst (l.map V.int)) := by
          rw [upd_same]
          simp
        have hd4 : upd H3 g (.lst (l.map V.int ++ [y].map V.int).dropLast) d = some (.lst [.ref g, .int mm]) := by rw [upd_ne nn]; exact hd3
        have b4 : But d g H (upd H3 g (.lst (l.map V.int ++ [y].map V.int).dropLast)) := fun c u nc e => by rw [upd_ne nc.2]; exact b3 c u nc e
        generalize upd H3 g (.lst (l.map V.int ++ [y].map V.int).dropLast) = H4 at b4 hd4 hg4 ⊢
        refine ⟨_, rfl, d, _, 0, _, rfl, rfl, .inl (.inl hd4), rfl, .inl ⟨rfl, _, .inl (.inl hg4)⟩, _, rfl, _, rfl, _, _, rfl, rfl, cd, g, _, _, rfl, rfl, hg4, ?_, ?_⟩
        · rw [List.length_map]
          exact Nat.lt_of_le_of_lt hl' (by decide)
        have hg5 : upd H4 g (.lst (l.map V.int ++ [V.int (y / n)])) g = some (.lst ((l ++ [y / n]).map V.int)) := by
          rw [upd_same, List.map_append]
          rfl
        have hd5 : upd H4 g (.lst (l.map V.int ++ [V.int (y / n)])) d = some (.lst [.ref g, .int mm]) := by rw [upd_ne nn]; exact hd4
        have b5 : But d g H (upd H4 g (.lst (l.map V.int ++ [V.int (y / n)]))) := fun c u nc e => by rw [upd_ne nc.2]; exact b4 c u nc e
        refine ⟨_, rfl, .inl ⟨_, rfl, _, rfl, _, _, rfl, rfl, hn, ?_⟩⟩
        refine k _ _ (Int.emod_nonneg _ (by omega)) (Int.emod_lt_of_pos _ hn) ⟨_, mm, hd5, hg5, by simpa using hl, fun x hx => ?_, hm⟩ b5
        rcases List.mem_append.mp hx with z | z
        · exact hposl x z
        · rw [List.mem_singleton] at z
          subst z
          exact Int.ediv_nonneg hy (by omega)
end

end Tm

namespace Tm
open PySem PySem.Spec PyProof.Rows L2
section
variable {P : Program} {w : World} {K : PySem.W.Frag} {mg : Str → Option Value} {base : Heap}
def spDeal (K : PySem.W.Frag) : Sp := fun vs H Q _ => ∃ (a : Addr) (ns : List Int), vs = [.ref a] ∧ SqL K H a (ns.map V.int) ∧ ∀ (d g : Addr) (H' : Hp), H d = none → H g = none → Same H H' → Deal H' d g → Q (.ref d) H'
theorem ints_cut (ns : List Int) : ∃ cs : List Int, cutV (ns.map V.int) none (some 60) = cs.map V.int ∧ cs.length ≤ 60 := by
  refine ⟨(ns.drop 0).take (HT.sIx ns.length ns.length (some 60) - 0), ?_, ?_⟩
  · unfold cutV
    rw [List.length_map, ← List.map_drop, ← List.map_take]
    rfl
  · rw [List.length_take]
    have e : HT.sIx ns.length ns.length (some (60 : Int)) = min 60 ns.length := HT.sIx_nat _ _ 60
    rw [e]
    omega
theorem loop_pos : 0 ≤ (32452867 : Int) := by decide
theorem sc__law_deal : FnScope ["_law_script", "_law_cell", "_law_cells", "_law_mixed_here"] ["_law_script"] (defScope s__law_deal) := ⟨rfl, rfl, rfl, by decide +kernel, rfl, by decide +kernel, by decide +kernel⟩
theorem ok__law_deal (E : Env K mg) : Dn P w K mg base CX0 1 (He.ga K "_law_deal") [] (spDeal K) := by
  refine dn_of (ps := ["_law_script"]) E.f__law_deal (fun fd F => ?_) (fun _ _ _ _ _ _ us hl => match us, hl with | [_], _ => rfl)
  refine F.ok sc__law_deal (fun vs H Q E h => ?_) (fun cdv A outer s H vs Q X hr h => ?_)
  · obtain ⟨a, ns, rfl, _⟩ := h
    rfl
  · obtain ⟨a, ns, rfl, hS, k⟩ := h
    refine ⟨_, PSs.nox (pss_cons (ps_par (i := 2) (j := 3) (by rfl) sc__law_deal.nd rfl rfl (by decide) rfl rfl (pa_cons (pe_lc (own := [("_law_cell", 1)]) (by rfl) sc__law_deal.nd (k_piQ K (pe_slice (k_slL K) (pv 0) po_none (po_some pe_int))) (blkOk_by (own := [("_law_cell", 1)]) (N := ["_law_script", "_law_cell", "_law_cells", "_law_mixed_here"]) (sc := defScope s__law_deal) (by decide +kernel)) (fun _ _ _ _ _ => (pg_name (i := 1) sc__law_deal.nd rfl (Or.inl rfl))) (fun _ _ _ _ _ => pts_nil) (fun _ _ _ _ _ => (pe_callB call_abs (by rfl) E.g_abs bt_abs (pa_cons (pv 1) pa_nil)))) (pa_cons pe_int pa_nil)) (by rfl))
      (pss_cons (ps_for PassesOwn.never rfl (k_piQ K (pv 2)) (pg_name (i := 1) sc__law_deal.nd rfl (Or.inl rfl))
      (pss_one (ps_set (i := 3) sc__law_deal.nd rfl (Or.inl rfl) (pe_op op_mod (pe_callTy call_int1 (by rfl) E.g_int bt_int (pa_cons (pe_op op_add (pe_op op_mul (pv 3) pe_int) (pe_op op_mod (pe_callTy call_int1 (by rfl) E.g_int bt_int (pa_cons (pv 1) pa_nil)) pe_int)) pa_nil)) pe_int))))
      (pss_one (ps_ret (pe_lst (pa_cons (k_rev K (pe_lc (own := [("_law_cell", 1)]) (by rfl) sc__law_deal.nd (k_piQ K (pv 2)) (blkOk_by (own := [("_law_cell", 1)]) (N := ["_law_script", "_law_cell", "_law_cells", "_law_mixed_here"]) (sc := defScope s__law_deal) (by decide +kernel)) (fun _ _ _ _ _ => (pg_name (i := 1) sc__law_deal.nd rfl (Or.inl rfl))) (fun _ _ _ _ _ => (pts_one (pt_cmpR op_ge (pv 1) (pe_op op_pow pe_int pe_int) (nomark _)))) (fun _ _ _ _ _ => (pv 1)))) (pa_cons (pv 3) pa_nil))))))), ?_⟩
    dsimp only [tSeq, tPar, tCons]
    rw [tLc_eq]
    obtain ⟨cs, ec, lc⟩ := ints_cut ns
    refine ⟨_, rfl, 60, rfl, a, _, rfl, hS, fun p1 hp1 => ?_⟩
    rw [ec]
    have s1 : Same H (upd H p1 (.lst (cs.map V.int))) := same_new hp1
    have h1 : upd H p1 (.lst (cs.map V.int)) p1 = some (.lst (cs.map V.int)) := upd_same
    generalize upd H p1 (.lst (cs.map V.int)) = H1 at s1 h1 ⊢
    refine lcb_P (ys := (cs.map fun c => if c < 0 then -c else c).map V.int) (.inl (.inl (.inl h1))) (by rw [List.length_map]; exact Nat.lt_of_le_of_lt lc (by decide)) (by simp) (fun i x y hx hy H2 s2 R hR => ?_) (fun D H2 hD s2 e2 => ?_) (fun _ _ _ _ _ hm z => hm _ _ z)
    · rw [List.getElem?_map] at hx hy
      obtain ⟨c, hc, rfl⟩ := Option.map_eq_some_iff.mp hx
      rw [List.getElem?_map, hc] at hy
      obtain rfl := Option.some.inj hy
      exact ⟨rfl, _, rfl, c, rfl, hR H2 (L2.Same.refl _)⟩
    obtain ⟨as, ea⟩ : ∃ as, as = cs.map fun c => if c < 0 then -c else c := ⟨_, rfl⟩
    have pa : ∀ x ∈ as, 0 ≤ x := fun x hx => by
      rw [ea] at hx
      obtain ⟨c, _, rfl⟩ := List.mem_map.mp hx
      split <;> omega
    have la : as.length ≤ 60 := by rw [ea, List.length_map]; exact lc
    rw [← ea] at e2
    have s12 := s1.trans s2
    have nD : H D = none := s1.free hD
    refine ⟨_, _, rfl, ?_⟩
    -- the loop
    rw [tFor_eq]
    refine ⟨_, rfl, frb (xs := as.map V.int) (.inl (.inl (.inl e2))) (fun i σ H3 => H3 = H2 ∧ ∃ (m : Int) (v : Option V), 0 ≤ m ∧ σ = [some (.ref a), v, some (.ref D), some (.int m)]) ⟨rfl, 32452867, none, loop_pos, rfl⟩ (fun i σ H3 _ ⟨e, _⟩ => by subst e; exact stays_same (L2.Same.refl _)) ?_ ?_⟩
    · rintro i y σ H3 hi ⟨rfl, m, v, hm, rfl⟩
      rw [List.getElem?_map] at hi
      obtain ⟨c, hc, rfl⟩ := Option.map_eq_some_iff.mp hi
      refine ⟨_, rfl, _, _, rfl, rfl, .inr ⟨by decide, by decide⟩, _, rfl, .inl ⟨_, rfl, _, _, rfl, rfl, (by show (0 : Int) < 2147483629; decide), _, _, rfl, rfl, .inl ⟨_, rfl, _, _, rfl, rfl, (by show (0 : Int) < 2147483647; decide), ?_⟩⟩⟩
      exact ⟨rfl, _, _, Int.emod_nonneg _ (by decide), rfl⟩
    · rintro σ H3 ⟨rfl, m, v, hm, rfl⟩
      dsimp only [tRet, tLst, tCons, tRevL]
      rw [tLc_eq]
      refine ⟨_, rfl, lcb_S (xs := as.map V.int) (fun y => match y with | .int i => decide (10 ^ 18 ≤ i) | _ => false) id (.inl (.inl (.inl e2))) (by rw [List.length_map]; exact Nat.lt_of_le_of_lt la (by decide)) (fun y hy H4 s4 R S hR hS' => ?_) (fun D2 H4 hD2 s4 e4 => ?_)⟩
      · obtain ⟨c, _, rfl⟩ := List.mem_map.mp hy
        refine ⟨rfl, _, rfl, _, _, rfl, rfl, ⟨by decide, by decide, by decide⟩, _, _, rfl, rfl, _, rfl, ?_⟩
        show (if decide ((10 : Int) ^ 18 ≤ c) = true then _ else _)
        by_cases hc : (10 : Int) ^ 18 ≤ c
        · rw [decide_eq_true hc]
          exact iteT ⟨_, rfl, hR (decide_eq_true hc) H4 (L2.Same.refl _)⟩
        · rw [decide_eq_false hc]
          exact iteF (hS' (decide_eq_false hc) H4 (L2.Same.refl _))
      rw [List.map_id, List.filter_map] at e4
      obtain ⟨gs, eg⟩ : ∃ gs, gs = (as.filter fun c => decide ((10 : Int) ^ 18 ≤ c)).reverse := ⟨_, rfl⟩
      have ge : ((as.filter fun c => decide ((10 : Int) ^ 18 ≤ c)).map V.int).reverse = gs.map V.int := by rw [eg, List.map_reverse]
      have gl : gs.length ≤ 60 := by
        rw [eg, List.length_reverse]
        exact Nat.le_trans (List.length_filter_le _ _) la
      have gp : ∀ x ∈ gs, 0 ≤ x := fun x hx => by
        rw [eg, List.mem_reverse] at hx
        exact pa x (List.mem_filter.mp hx).1
      refine ⟨D2, _, rfl, .inl (.inl e4), fun g hg => ?_⟩
      have s5 : Same H4 (upd H4 g (.lst ((as.filter fun c => decide ((10 : Int) ^ 18 ≤ c)).map V.int).reverse)) := same_new hg
      have h5 : upd H4 g (.lst ((as.filter fun c => decide ((10 : Int) ^ 18 ≤ c)).map V.int).reverse) g = some (.lst (gs.map V.int)) := by rw [upd_same, ge]
      have sH4 := (s12.trans s4)
      have ng : H g = none := sH4.free hg
      refine ⟨_, rfl, (by show 2 ≤ sizeLine; decide), fun d hd => ?_⟩
      have nd : H d = none := (sH4.trans s5).free hd
      refine k d g _ nd ng ((sH4.trans s5).trans (same_new hd)) ⟨gs, m, upd_same, ?_, gl, gp, hm⟩
      rw [upd_ne (ne_of_none h5 hd)]
      exact h5
end

end Tm

namespace Tm
open PySem PySem.Spec PyProof.Rows L2
section
variable {P : Program} {w : World} {K : PySem.W.Frag} {mg : Str → Option Value} {base : Heap}
/-- one of some things: any of them -/
def spPick (K : PySem.W.Frag) : Sp := fun vs H Q _ => ∃ (d g a : Addr) (xs : List V), vs = [.ref d, .ref a] ∧ Deal H d g ∧ Sq K H a xs ∧ Apart d g a ∧ xs ≠ [] ∧ xs.length ≤ 1000 ∧ ∀ (i : Nat) (v : V) (H' : Hp), xs[i]? = some v → Deal H' d g → But d g H H' → Q v H'
theorem sq_but {d g a : Addr} {H H' : Hp} {xs : List V} (ap : Apart d g a) (b : But d g H H') (h : Sq K H a xs) : Sq K H' a xs := by
  rcases h with ((h | ⟨o, h⟩) | h) | ((h | ⟨o, h⟩) | h)
  · exact .inl (.inl (.inl (b _ _ ap h)))
  · exact .inl (.inl (.inr ⟨o, b _ _ ap h⟩))
  · exact .inl (.inr h)
  · exact .inr (.inl (.inl (b _ _ ap h)))
  · exact .inr (.inl (.inr ⟨o, b _ _ ap h⟩))
  · exact .inr (.inr h)
theorem sc__law_pick : FnScope ["_law_deal_here", "_law_some"] ["_law_deal_here", "_law_some"] (defScope s__law_pick) := ⟨rfl, rfl, rfl, by decide +kernel, rfl, by decide +kernel, by decide +kernel⟩
theorem ok__law_pick (E : Env K mg) : Dn P w K mg base CX0 2 (He.ga K "_law_pick") [] (spPick K) := by
  refine dn_of (ps := ["_law_deal_here", "_law_some"]) E.f__law_pick (fun fd F => ?_) (fun _ _ _ _ _ _ us hl => match us, hl with | [_, _], _ => rfl)
  refine F.ok sc__law_pick (fun vs H Q E h => ?_) (fun cdv A outer s H vs Q X hr h => ?_)
  · obtain ⟨d, g, a, xs, rfl, _⟩ := h
    rfl
  · obtain ⟨d, g, a, xs, rfl, D0, hq, ap, hne, hlen, k⟩ := h
    refine ⟨_, PSs.nox (pss_one (ps_ret (pe_ix (k_ix K) (pv 1) (pe_c (ok__law_draw (K := K) E) (hr.mono (by decide)) E.g__law_draw pass0 (pa_cons (pv 0) (pa_cons (pe_callB (k_lenQ K) (by rfl) E.g_len bt_len (pa_cons (pv 1) pa_nil)) pa_nil))) (fun _ _ => rfl)))), ?_⟩
    have h0 : 0 < xs.length := List.length_pos_iff.mpr hne
    refine ⟨_, rfl, _, rfl, _, rfl, a, xs, rfl, hq, d, g, _, rfl, D0, by omega, by omega, fun v H1 v0 v1 D1 b1 => ?_⟩
    have hq1 := sq_but ap b1 hq
    obtain ⟨i, rfl⟩ : ∃ i : Nat, v = (i : Int) := ⟨v.toNat, by omega⟩
    have hi : i < xs.length := by omega
    have hx : xs[i]? = some xs[i] := List.getElem?_eq_getElem hi
    rcases hq1 with z | z
    · exact .inl ⟨a, xs, _, _, rfl, rfl, z, atI_nat hx, k i _ H1 hx D1 b1⟩
    · exact .inr (.inl ⟨a, xs, _, _, rfl, rfl, z, atI_nat hx, k i _ H1 hx D1 b1⟩)
end

end Tm

namespace Tm
open PySem PySem.Spec PyProof.Rows L2
section
variable {P : Program} {w : World} {K : PySem.W.Frag} {mg : Str → Option Value} {base : Heap}
/-- the things in some order -/
def spMixed (K : PySem.W.Frag) : Sp := fun vs H Q _ => ∃ (d g a : Addr) (xs : List V), vs = [.ref d, .ref a] ∧ Deal H d g ∧ Sq K H a xs ∧ xs.all layV = true ∧ xs.length ≤ 1000 ∧
  ∀ (p : Addr) (ys : List V) (H' : Hp), ys.Perm xs → H p = none → H' p = some (.lst ys) → Deal H' d g → But d g H H' → Q (.ref p) H'
theorem perm_pop {α : Type} (l : List α) {i : Nat} (h : i < l.length) : (l[i] :: l.eraseIdx i).Perm l := by
  induction l generalizing i with
  | nil => simp at h
  | cons x l ih =>
    cases i with
    | zero => simp
    | succ i =>
      simp only [List.getElem_cons_succ, List.eraseIdx_cons_succ]
      exact (List.Perm.swap _ _ _).trans (List.Perm.cons _ (ih (by simpa using h)))
theorem all_perm {xs ys : List V} (h : ys.Perm xs) (ha : xs.all layV = true) : ys.all layV = true := by
  rw [List.all_eq_true] at ha ⊢
  exact fun y hy => ha y (h.mem_iff.mp hy)
theorem pop_ix {n : Nat} {i : Nat} (h : i < n) : seqIndex? (i : Int) n = some i := by
  have h0 : ¬ ((i : Int) < 0) := by omega
  unfold seqIndex?
  simp only [if_neg h0]
  rw [if_pos (by simp; omega), Int.toNat_natCast]
theorem sc__law_mixed : FnScope ["_law_deal_here", "_law_some", "_law_others", "_law_found"] ["_law_deal_here", "_law_some"] (defScope s__law_mixed) := ⟨rfl, rfl, rfl, by decide +kernel, rfl, by decide +kernel, by decide +kernel⟩
theorem ok__law_mixed (E : Env K mg) : Dn P w K mg base CX0 2 (He.ga K "_law_mixed") [] (spMixed K) := by
  refine dn_of (ps := ["_law_deal_here", "_law_some"]) E.f__law_mixed (fun fd F => ?_) (fun _ _ _ _ _ _ us hl => match us, hl with | [_, _], _ => rfl)
  refine F.ok sc__law_mixed (fun vs H Q E h => ?_) (fun cdv A outer s H vs Q X hr h => ?_)
  · obtain ⟨d, g, a, xs, rfl, _⟩ := h
    rfl
  · obtain ⟨d, g, a, xs, rfl, D0, hq, hlay, hlen, k⟩ := h
    have hu := hr.units
    refine ⟨_, PSs.nox (pss_cons (ps_par (i := 2) (j := 3) (by rfl) sc__law_mixed.nd rfl rfl (by decide) rfl rfl (pa_cons (pe_callTy (k_list K) (by rfl) E.g_list bt_list (pa_cons (pv 1) pa_nil)) (pa_cons (pe_lst pa_nil) pa_nil)) (by rfl))
      (pss_cons (ps_while PassesOwn.never (pt_cmpR (op_neNil K hu) (pv 2) (pe_lst pa_nil) (nomark _))
      (pss_one (ps_expr (k_bm K PySem.F.plainAttrs_list PySem.F.slot_list_append PySem.F.type_list_append mt_append (pv 3) (pa_cons (k_bm K PySem.F.plainAttrs_list PySem.F.slot_list_pop PySem.F.type_list_pop mt_popAt (pv 2) (pa_cons (pe_c (ok__law_draw (K := K) E) (hr.mono (by decide)) E.g__law_draw pass0 (pa_cons (pv 0) (pa_cons (pe_callB (k_lenQ K) (by rfl) E.g_len bt_len (pa_cons (pv 2) pa_nil)) pa_nil))) pa_nil)) pa_nil)))))
      (pss_one (ps_ret (pv 3))))), ?_⟩
    refine ⟨_, rfl, a, xs, rfl, hq, fun po hpo => ⟨by show 0 ≤ sizeLine; decide, fun pf hpf => ⟨_, _, rfl, ?_⟩⟩⟩
    have apo := D0.new hpo
    have s1 := same_new (o := .lst xs) hpo
    have apf := (D0.same s1).new hpf
    have npf : H pf = none := s1.free hpf
    have hne : po ≠ pf := ne_of_none upd_same hpf
    refine ⟨fun m σ H' => ∃ os fs, m = os.length ∧ σ = [some (.ref d), some (.ref a), some (.ref po), some (.ref pf)] ∧ H' po = some (.lst os) ∧ H' pf = some (.lst fs) ∧ (os ++ fs).Perm xs ∧ Deal H' d g ∧ But d g H H',
      ⟨_, xs, [], rfl, rfl, by rw [upd_ne hne, upd_same], upd_same, by simp, (D0.same s1).same (same_new hpf), But.same (s1.trans (same_new hpf))⟩, ?_⟩
    rintro m σ H1 ⟨os, fs, rfl, rfl, ho, hf, hp, D1, b1⟩
    have lay_o : os.all layV = true := by
      have := all_perm hp hlay
      rw [List.all_append, Bool.and_eq_true] at this
      exact this.1
    have ll : os.length + fs.length = xs.length := by
      have := hp.length_eq
      rwa [List.length_append] at this
    refine ⟨_, rfl, (by show 0 ≤ sizeLine; decide), fun pn hpn => ?_⟩
    have s2 := same_new (o := .lst []) hpn
    refine ⟨po, pn, os, rfl, rfl, .inl (.inl (s2 _ _ ho)), lay_o, upd_same, _, rfl, ?_⟩
    have ho2 := s2 _ _ ho
    have hf2 := s2 _ _ hf
    have D2 := D1.same s2
    have b2 : But d g H _ := b1.trans (But.same s2)
    generalize upd H1 pn (.lst []) = H2 at ho2 hf2 D2 b2 ⊢
    cases hos : os with
    | nil =>
      subst hos
      refine iteF ?_
      refine ⟨_, rfl, k pf fs H2 (by simpa using hp) npf hf2 D2 b2⟩
    | cons o os' =>
      rw [← hos]
      have e1 : (!os.isEmpty) = true := by rw [hos]; rfl
      rw [e1]
      have hpos : 0 < os.length := by rw [hos]; simp
      refine iteT ⟨fun σ' H' => ∃ m', m' < os.length ∧ ∃ os fs, m' = os.length ∧ σ' = [some (.ref d), some (.ref a), some (.ref po), some (.ref pf)] ∧ H' po = some (.lst os) ∧ H' pf = some (.lst fs) ∧ (os ++ fs).Perm xs ∧ Deal H' d g ∧ But d g H H', fun σ' H' z => z, ?_⟩
      refine ⟨_, rfl, .inl ⟨rfl, _, .inl (.inl hf2)⟩, _, rfl, .inl ⟨rfl, _, .inl (.inl ho2)⟩, _, rfl, _, rfl, po, os, rfl, .inl (.inl (.inl ho2)), d, g, _, rfl, D2, by omega, by omega, fun v H3 v0 v1 D3 b3 => ?_⟩
      have ho3 := b3 _ _ apo ho2
      have hf3 := b3 _ _ apf hf2
      obtain ⟨i, rfl⟩ : ∃ i : Nat, v = (i : Int) := ⟨v.toNat, by omega⟩
      have hi : i < os.length := by omega
      have hx : os[i]? = some os[i] := List.getElem?_eq_getElem hi
      refine ⟨po, os, _, i, os[i], rfl, rfl, ho3, by omega, by omega, pop_ix hi, hx, ?_⟩
      have hf4 : upd H3 po (.lst (os.eraseIdx i)) pf = some (.lst fs) := by rw [upd_ne hne.symm]; exact hf3
      refine ⟨pf, fs, _, rfl, rfl, hf4, by exact Nat.lt_of_le_of_lt (by omega : fs.length ≤ 1000) (by decide), ?_⟩
      have el : (os.eraseIdx i).length = os.length - 1 := by rw [List.length_eraseIdx]; simp [hi]
      refine ⟨(os.eraseIdx i).length, by omega, os.eraseIdx i, fs ++ [os[i]], rfl, rfl, by rw [upd_ne hne, upd_same], upd_same, ?_, (D3.put apo).put apf, ?_⟩
      · refine List.Perm.trans ?_ hp
        have h1 : (os.eraseIdx i ++ (fs ++ [os[i]])).Perm ((os.eraseIdx i ++ [os[i]]) ++ fs) := by
          rw [List.append_assoc]
          exact List.Perm.append_left _ List.perm_append_comm
        refine h1.trans (List.Perm.append_right _ ?_)
        exact List.perm_append_comm.trans (perm_pop os hi)
      · intro c u nc e
        have nc1 : c ≠ pf := ne_of_none e npf
        have nc2 : c ≠ po := ne_of_none e hpo
        rw [upd_ne nc1, upd_ne nc2]
        exact (b2.trans b3) c u nc e
end

end Tm

namespace Tm
open PySem PySem.Spec PyProof.Rows L2
section
variable {P : Program} {w : World} {K : PySem.W.Frag} {mg : Str → Option Value} {base : Heap}
def spLaw (K : PySem.W.Frag) : Sp := fun vs H Q _ => ∃ (a : Addr) (ns : List Int), vs = [.ref a] ∧ SqL K H a (ns.map V.int) ∧ ns.length ≤ 63 ∧ ∀ H', Q (.bl true) H'
theorem week_ints : L2.rgV 0 7 = ([0, 1, 2, 3, 4, 5, 6] : List Int).map V.int := by decide
theorem perm_ints {ys : List V} {ns : List Int} (h : ys.Perm (ns.map V.int)) : ∃ ms : List Int, ys = ms.map V.int ∧ ms.Perm ns := by
  have z : ∀ y ∈ ys, ∃ i, y = V.int i := fun y hy => by
    obtain ⟨i, _, e⟩ := List.mem_map.mp (h.mem_iff.mp hy)
    exact ⟨i, e.symm⟩
  have : ∃ ms : List Int, ys = ms.map V.int := by
    clear h
    induction ys with
    | nil => exact ⟨[], rfl⟩
    | cons y ys ih =>
      obtain ⟨i, rfl⟩ := z y (List.mem_cons_self ..)
      obtain ⟨ms, e⟩ := ih fun y hy => z y (List.mem_cons_of_mem _ hy)
      exact ⟨i :: ms, by rw [e]; rfl⟩
  obtain ⟨ms, e⟩ := this
  refine ⟨ms, e, ?_⟩
  rw [e] at h
  have f : (ms.map V.int).map (fun v => match v with | .int i => i | _ => 0) = ms := by
    rw [List.map_map]
    simp [Function.comp_def]
  have f' : (ns.map V.int).map (fun v => match v with | .int i => i | _ => 0) = ns := by
    rw [List.map_map]
    simp [Function.comp_def]
  have q := h.map (fun v => match v with | .int i => i | _ => (0 : Int))
  rwa [f, f'] at q
theorem cut_ints (ms : List Int) (v : Int) (h : 0 ≤ v) : cutV (ms.map V.int) none (some v) = (ms.take v.toNat).map V.int := by
  obtain ⟨n, rfl⟩ : ∃ n : Nat, v = (n : Int) := ⟨v.toNat, by omega⟩
  unfold cutV
  rw [List.length_map, HT.sIx_nat]
  show ((ms.map V.int).drop 0).take (min n ms.length - 0) = _
  rw [List.drop_zero, Nat.sub_zero, ← List.map_take, Int.toNat_natCast]
  congr 1
  rw [List.take_eq_take_iff]
  omega
theorem sc_law : FnScope ["_law_script", "_law_deal_here", "_law_turn", "_law_days_off", "_law_made", "_law_low", "_law_today", "_law_found", "_law_one"] ["_law_script"] (defScope s_law) := ⟨rfl, rfl, rfl, by decide +kernel, rfl, by decide +kernel, by decide +kernel⟩
theorem ok_law (E : Env K mg) {fd : FuncData} (F : FunD K "law" "law" (defArgs s_law) (defBody s_law) (defScope s_law) [] [] (He.ga K "law") fd) : FnOk P w K mg base CX0 20 (He.ga K "law") fd ["_law_script"] (spLaw K) := by
  refine F.ok sc_law (fun vs H Q E h => ?_) (fun cdv A outer s H vs Q X hr h => ?_)
  · obtain ⟨a, ns, rfl, _⟩ := h
    rfl
  · obtain ⟨a, ns, rfl, hS, hlen, k⟩ := h
    have hu := hr.units
    refine ⟨_, PSs.nox (pss_cons (ps_set (i := 1) sc_law.nd rfl (Or.inl rfl) (pe_c (ok__law_deal (K := K) E) (hr.mono (by decide)) E.g__law_deal pass0 (pa_cons (pv 0) pa_nil)))
      (pss_cons (ps_for PassesOwn.never rfl (pi_range1 (by rfl) E.g_range (pa_cons pe_int pa_nil)) (pg_name (i := 2) sc_law.nd rfl (Or.inl rfl))
      (pss_cons (ps_set (i := 3) sc_law.nd rfl (Or.inr rfl) (pe_callB (k_sorted K) (by rfl) E.g_sorted bt_sorted (pa_cons (pe_lc (own := [("_law_one", 8)]) (by rfl) sc_law.nd (k_piQ K (pe_slice (k_slL K) (pe_c (ok__law_mixed (K := K) E) (hr.mono (by decide)) E.g__law_mixed pass0 (pa_cons (pv 1) (pa_cons (pe_listRg (by rfl) (by rfl) E.g_list (prg_1 (by rfl) E.g_range pe_int)) pa_nil))) po_none (po_some (pe_c (ok__law_draw (K := K) E) (hr.mono (by decide)) E.g__law_draw pass0 (pa_cons (pv 1) (pa_cons pe_int pa_nil)))))) (blkOk_by (own := [("_law_one", 8)]) (N := ["_law_script", "_law_deal_here", "_law_turn", "_law_days_off", "_law_made", "_law_low", "_law_today", "_law_found", "_law_one"]) (sc := defScope s_law) (by decide +kernel)) (fun _ _ _ _ _ => (pg_name (i := 8) sc_law.nd rfl (Or.inl rfl))) (fun _ _ _ _ _ => pts_nil) (fun _ _ _ _ _ => (pe_callTy call_int1 (by rfl) E.g_int bt_int (pa_cons (pv 8) pa_nil)))) pa_nil)))
      (pss_cons (ps_set (i := 4) sc_law.nd rfl (Or.inl rfl) (pe_mk E.mk_Rule (Rule_init2 (K := K) E) (hr.mono (by decide)) E.g_Rule pass0 (pa_cons (pe_op op_add pe_int (pe_c (ok__law_draw (K := K) E) (hr.mono (by decide)) E.g__law_draw pass0 (pa_cons (pv 1) (pa_cons pe_int pa_nil)))) (pa_cons (pv 3) pa_nil))))
      (pss_cons (ps_set (i := 5) sc_law.nd rfl (Or.inl rfl) (pe_c (ok__law_draw (K := K) E) (hr.mono (by decide)) E.g__law_draw pass0 (pa_cons (pv 1) (pa_cons (pe_c (ok__law_pick (K := K) E) (hr.mono (by decide)) E.g__law_pick pass0 (pa_cons (pv 1) (pa_cons (pe_lst (pa_cons pe_int (pa_cons pe_int (pa_cons (pe_op op_sub (pe_op op_pow pe_int pe_int) pe_int) pa_nil)))) pa_nil))) pa_nil))))
      (pss_one (ps_for PassesOwn.never rfl (pi_range2 (by rfl) E.g_range (pa_cons (pv 5) (pa_cons (pe_op op_add (pv 5) pe_int) pa_nil))) (pg_name (i := 6) sc_law.nd rfl (Or.inl rfl))
      (pss_cons (ps_set (i := 7) sc_law.nd rfl (Or.inl rfl) (pe_m (pv 4) E.cl_Rule E.m_Rule_work (ok_Rule_work (K := K) E) (hr.mono (by decide)) pass0 (pa_cons (pv 6) pa_nil)))
      (pss_cons (ps_if (PW.pt (pw_or (pt_val (pe_callB (k_isi K) (by rfl) E.g_isinstance bt_isinstance (pa_cons (pv 7) (pa_cons (pe_ty E.g_bool bt_bool) pa_nil)))) (pw_or (pt_not (pt_val (pe_callB (k_isi K) (by rfl) E.g_isinstance bt_isinstance (pa_cons (pv 7) (pa_cons (pe_ty E.g_int bt_int) pa_nil))))) (pw_or1 (pt_not (pt_chain op_le op_lt (pv 6) (pv 7) (pe_op op_add (pv 6) pe_int))))))) (pss_one (ps_ret pe_bl)) pss_nil)
      (pss_cons (ps_if (pt_cmpR (k_in K) (pe_op op_mod (pe_callTy call_int1 (by rfl) E.g_int bt_int (pa_cons (pv 7) pa_nil)) pe_int) (pv 3) (by rfl)) (pss_one (ps_ret pe_bl)) pss_nil)
      (pss_cons (ps_if (pt_cmpR (op_neNil K hu) (pe_lc (own := [("_law_one", 8)]) (by rfl) sc_law.nd (pi_range2 (by rfl) E.g_range (pa_cons (pv 6) (pa_cons (pv 7) pa_nil))) (blkOk_by (own := [("_law_one", 8)]) (N := ["_law_script", "_law_deal_here", "_law_turn", "_law_days_off", "_law_made", "_law_low", "_law_today", "_law_found", "_law_one"]) (sc := defScope s_law) (by decide +kernel)) (fun _ _ _ _ _ => (pg_name (i := 8) sc_law.nd rfl (Or.inl rfl))) (fun _ _ _ _ _ => (pts_one (pt_cmpR (k_notin K) (pe_op op_mod (pe_callTy call_int1 (by rfl) E.g_int bt_int (pa_cons (pv 8) pa_nil)) pe_int) (pv 3) (by rfl)))) (fun _ _ _ _ _ => (pv 8))) (pe_lst pa_nil) (nomark _)) (pss_one (ps_ret pe_bl)) pss_nil)
      (pss_cons (ps_if (PW.pt (pw_or (pt_cmpR op_ne (pe_m (pv 4) E.cl_Rule E.m_Rule_work (ok_Rule_work (K := K) E) (hr.mono (by decide)) pass0 (pa_cons (pe_op op_add (pv 6) pe_int) pa_nil)) (pe_op op_add (pv 7) pe_int) (nomark _)) (pw_or1 (pt_cmpR op_ne (pe_m (pv 4) E.cl_Rule E.m_Rule_work (ok_Rule_work (K := K) E) (hr.mono (by decide)) pass0 (pa_cons (pv 7) pa_nil)) (pv 7) (nomark _))))) (pss_one (ps_ret pe_bl)) pss_nil)
      (pss_one (ps_if (pt_cmpR op_ne (pe_cmpR op_eq (pv 7) (pv 6) (nomark _)) (pe_cmpR (k_notin K) (pe_op op_mod (pe_callTy call_int1 (by rfl) E.g_int bt_int (pa_cons (pv 6) pa_nil)) pe_int) (pv 3) (by rfl)) (nomark _)) (pss_one (ps_ret pe_bl)) pss_nil)))))))))))))
      (pss_one (ps_ret (pe_and (pe_cmpR op_eq (pe_m (pe_mk E.mk_Rule (Rule_init1 (K := K) E) (hr.mono (by decide)) E.g_Rule pass0 (pa_cons pe_int pa_nil)) E.cl_Rule E.m_Rule_work (ok_Rule_work (K := K) E) (hr.mono (by decide)) pass0 (pa_cons (pe_op op_pow pe_int pe_int) pa_nil)) (pe_op op_pow pe_int pe_int) (nomark _)) (pe_one (pe_cmpR op_eq (pe_m (pe_mk E.mk_Rule (Rule_init2 (K := K) E) (hr.mono (by decide)) E.g_Rule pass0 (pa_cons pe_int (pa_cons (pe_lst (pa_cons pe_int (pa_cons pe_int (pa_cons pe_int (pa_cons pe_int (pa_cons pe_int (pa_cons pe_int pa_nil))))))) pa_nil))) E.cl_Rule E.m_Rule_work (ok_Rule_work (K := K) E) (hr.mono (by decide)) pass0 (pa_cons pe_int pa_nil)) pe_int (nomark _)))))))), ?_⟩
    refine ⟨_, rfl, a, ns, rfl, hS, fun d g H1 nd ng s1 D1 => ?_⟩
    refine ⟨12, rfl, by decide, by decide, for_range (lo := 0) (n := 12) (fun i σ H2 => ∃ v2 v3 v4 v5 v6 v7 v8 : Option V, σ = [some (.ref a), some (.ref d), v2, v3, v4, v5, v6, v7, v8] ∧ Deal H2 d g) ⟨none, none, none, none, none, none, none, rfl, D1⟩ ?_ ?_⟩
    · rintro i σ H2 hi ⟨v2, v3, v4, v5, v6, v7, v8, rfl, D2⟩
      dsimp only [gName, tSeq, tAsg, tCB, tCons]
      rw [tLc_eq]
      -- the rest days
      refine ⟨_, rfl, 7, rfl, ⟨by decide, by decide, by decide, by decide, by decide⟩, fun q hq => ?_⟩
      rw [week_ints]
      have s3 := same_new (o := .lst (([0, 1, 2, 3, 4, 5, 6] : List Int).map V.int)) hq
      refine ⟨d, g, q, _, rfl, D2.same s3, .inl (.inl (.inl upd_same)), lay_ints _, by decide, fun pm ys H4 hperm hpm e4 D4 b4 => ?_⟩
      obtain ⟨ms, rfl, hms⟩ := perm_ints hperm
      have apm : Apart d g pm := (D2.same s3).new hpm
      refine ⟨_, rfl, d, g, 7, rfl, D4, by decide, by decide, fun v H5 v0 v1 D5 b5 => ?_⟩
      refine ⟨_, rfl, pm, _, rfl, .inl (.inl (b5 _ _ apm e4)), fun p6 hp6 => ?_⟩
      rw [cut_ints ms v v0]
      obtain ⟨cs, ecs⟩ : ∃ cs, cs = ms.take v.toNat := ⟨_, rfl⟩
      rw [← ecs]
      have cl : cs.length ≤ 6 := by
        rw [ecs, List.length_take]
        omega
      have cb : ∀ x ∈ cs, 0 ≤ x ∧ x < 7 := fun x hx => by
        rw [ecs] at hx
        have := hms.mem_iff.mp (List.mem_of_mem_take hx)
        simp only [List.mem_cons, List.not_mem_nil, or_false] at this
        omega
      have cn : cs.Nodup := by
        rw [ecs]
        exact List.Nodup.sublist (List.take_sublist _ _) (hms.nodup_iff.mpr (by decide))
      have s6 := same_new (o := .lst (cs.map V.int)) hp6
      have e6 : upd H5 p6 (.lst (cs.map V.int)) p6 = some (.lst (cs.map V.int)) := upd_same
      have D6 := D5.same s6
      generalize upd H5 p6 (.lst (cs.map V.int)) = H6 at s6 e6 D6 ⊢
      refine lcb_P (ys := cs.map V.int) (.inl (.inl (.inl e6))) (by rw [List.length_map]; exact Nat.lt_of_le_of_lt cl (by decide)) rfl (fun i x y hx hy H7 s7 R hR => ?_) (fun D H7 hD s7 e7 => ?_) (fun _ _ _ _ _ hm z => hm _ _ z)
      · rw [hx] at hy
        obtain rfl := Option.some.inj hy
        rw [List.getElem?_map] at hx
        obtain ⟨c, hc, rfl⟩ := Option.map_eq_some_iff.mp hx
        exact ⟨rfl, _, rfl, .inl ⟨c, rfl, hR H7 (L2.Same.refl _)⟩⟩
      refine ⟨D, cs, rfl, .inl (.inl e7), fun ds po hds hsrt hpo => ?_⟩
      have dl : ds.length ≤ 6 := by rw [hds.length_eq]; exact cl
      have db : ∀ x ∈ ds, 0 ≤ x ∧ x < 7 := fun x hx => cb x (hds.mem_iff.mp hx)
      have dn : ds.Nodup := hds.nodup_iff.mpr cn
      have s8 := same_new (o := .lst (ds.map V.int)) hpo
      have e8 : upd H7 po (.lst (ds.map V.int)) po = some (.lst (ds.map V.int)) := upd_same
      have D7 := D6.same s7
      have apo : Apart d g po := D7.new hpo
      have D8 := D7.same s8
      generalize upd H7 po (.lst (ds.map V.int)) = H8 at s8 e8 D8 ⊢
      clear s8 s7 s6 e7 hD e6 hp6 b5 e4 b4 s3 hq hpo D7 D6 D5 D4
      -- the rule
      refine ⟨_, rfl, d, g, 9, rfl, D8, by decide, by decide, fun n H9 n0 n1 D9 b9 => ⟨_, _, rfl, rfl, _, rfl, ?_⟩⟩
      have e9 := b9 _ _ apo e8
      dsimp only [tNil, List.cons_append, List.nil_append]
      refine mk_rule (vc := .non) (n := 1 + n) (ns := ds) (cap := none) (ks := []) ⟨rfl, by omega, ⟨po, rfl, .inl (.inl (.inl e9))⟩, dl, db, dn, rfl, (fun _ z => nomatch z), ⟨_, [], rfl, .inr (tupAtB_ok E.e_Rule___init___2 H9), .nil⟩, by decide, by decide⟩ (fun pr H10 ns' npr s10 hp' hs' ra => ?_)
      have rl : ns'.length ≤ 6 := by rw [hp'.length_eq]; exact dl
      have rm : ∀ x, x ∈ ns' ↔ x ∈ ds := fun x => hp'.mem_iff
      have D10 := D9.same s10
      have e10 := s10 _ _ e9
      -- the first day
      refine ⟨_, rfl, _, rfl, _, _, rfl, rfl, ⟨by decide, by decide, by decide⟩, _, _, rfl, rfl, (by show 3 ≤ sizeLine; decide), fun pt hpt => ?_⟩
      have s11 := same_new (o := .lst [V.int 30, V.int 1000, V.int (10 ^ 18 - 60)]) hpt
      refine ⟨d, g, pt, _, rfl, D10.same s11, .inl (.inl (.inl upd_same)), D10.new hpt, by simp, by decide, fun i' v' H12 hv' D12 b12 => ?_⟩
      obtain ⟨most, rfl, m0, m1⟩ : ∃ most, v' = V.int most ∧ 0 < most ∧ most ≤ 10 ^ 18 := by
        match i', hv' with
        | 0, h => exact ⟨30, (Option.some.inj h).symm, by decide, by decide⟩
        | 1, h => exact ⟨1000, (Option.some.inj h).symm, by decide, by decide⟩
        | 2, h => exact ⟨10 ^ 18 - 60, (Option.some.inj h).symm, by decide, by decide⟩
        | j + 3, h => simp at h
      refine ⟨d, g, most, rfl, D12, m0, by omega, fun low H13 l0 l1 D13 b13 => ?_⟩
      have bb : But d g H10 H13 := (But.same s11).trans (b12.trans b13)
      have ra13 : RuleAt K H13 pr ⟨1 + n, ns', none, []⟩ := ra.but D10 bb
      have e13 := bb _ _ apo e10
      clear bb b13 b12 s11 hpt D12 s10 e10 D10 ra hp' hs' b9 e9 D9 e8 D8
      -- nine days
      refine ⟨_, rfl, _, rfl, _, _, rfl, rfl, low, low + 9, rfl, ⟨by omega, by omega, by omega, by omega⟩, for_range (lo := low) (n := (low + 9 - low).toNat) (fun j σ H14 => ∃ v6 v7 v8 : Option V, σ = [some (.ref a), some (.ref d), some (.int (0 + (i : Int))), some (.ref po), some (.ref pr), some (.int low), v6, v7, v8] ∧ Deal H14 d g ∧ RuleAt K H14 pr ⟨1 + n, ns', none, []⟩ ∧ H14 po = some (.lst (ds.map V.int))) ⟨_, _, _, rfl, D13, ra13, e13⟩ ?_ ?_⟩
      · rintro j σ H14 hj ⟨w6, w7, w8, rfl, D14, ra14, e14⟩
        obtain ⟨dx, tr, tk, tn, ps, hR, _⟩ := ra14.ex
        obtain ⟨t, et⟩ : ∃ t, t = low + (j : Int) := ⟨_, rfl⟩
        obtain ⟨f, ef⟩ : ∃ f, f = workD ns' t := ⟨_, rfl⟩
        have f0 : t ≤ f := by rw [ef]; exact work_ge _ _
        have f1 : f < t + 7 := by
          rw [ef]
          unfold workD
          have := gap_lt rl t
          omega
        have f2 : f % 7 ∉ ds := by
          rw [ef]
          exact fun z => gap_at rl t ((rm _).mpr z)
        have f3 : ∀ x, t ≤ x → x < f → x % 7 ∈ ds := fun x h1 h2 => by
          obtain ⟨m, rfl⟩ : ∃ m : Nat, x = t + (m : Int) := ⟨(x - t).toNat, by omega⟩
          refine (rm _).mp (gap_in ?_)
          rw [ef] at h2
          unfold workD at h2
          omega
        -- found
        refine ⟨_, rfl, pr, dx, _, rfl, hR, rfl, _, rfl, pr, _, _, rfl, ra14, rl, ?_⟩
        rw [← et, ← ef]
        -- an int, no bool, within a week
        refine ⟨_, rfl, _, _, _, _, false, rfl, .ty "bool", .base (.int _), kit_ty (by decide +kernel), _, rfl, iteF ?_⟩
        refine ⟨_, rfl, _, _, _, _, true, rfl, .ty "int", .base (.int _), kit_ty (by decide +kernel), _, rfl, iteF ?_⟩
        refine ⟨_, rfl, _, rfl, _, _, rfl, rfl, _, rfl, ?_⟩
        rw [decide_eq_true f0]
        refine iteT ⟨_, rfl, _, _, rfl, rfl, _, _, rfl, rfl, _, rfl, ?_⟩
        rw [decide_eq_true f1]
        refine iteF ?_
        -- a working day
        refine ⟨_, rfl, .inl ⟨_, rfl, _, _, rfl, rfl, (by show (0 : Int) < 7; decide), _, rfl, po, _, rfl, .inl (.inl (.inl e14)), rfl, flat_ints _, _, rfl, ?_⟩⟩
        show (if inV (V.int (f % 7)) (ds.map V.int) = true then _ else _)
        rw [inV_int, decide_eq_false f2]
        refine iteF ?_
        -- none between
        dsimp only [tNext, tSeq, tIfS, tTest, tOp]
        rw [tLcR_eq]
        refine ⟨_, rfl, _, rfl, t, f, rfl, ⟨by omega, by omega, by omega, by omega⟩, lcr_R (fun _ => false) id (Nat.lt_of_le_of_lt (by omega : (f - t).toNat ≤ 7) (by decide)) (fun m hm H15 s15 R S hR hS' => ?_) (fun L H15 hL s15 e15 => ?_)⟩
        · refine ⟨rfl, _, rfl, .inl ⟨_, rfl, _, _, rfl, rfl, (by show (0 : Int) < 7; decide), _, rfl, po, _, rfl, .inl (.inl (.inl (s15 _ _ e14))), rfl, flat_ints _, _, rfl, ?_⟩⟩
          show (if (!inV (V.int ((t + (m : Int)) % 7)) (ds.map V.int)) = true then _ else _)
          rw [inV_int, decide_eq_true (f3 _ (by omega) (by omega))]
          exact iteF (hS' rfl H15 (L2.Same.refl _))
        rw [List.filter_eq_nil_iff.mpr (fun _ _ => by simp)] at e15
        refine ⟨by show 0 ≤ sizeLine; decide, fun L2' hL2 => ?_⟩
        have s16 := s15.trans (same_new (o := .lst []) hL2)
        refine ⟨L, L2', [], rfl, rfl, .inl (.inl ((same_new hL2) _ _ e15)), rfl, upd_same, _, rfl, iteF ?_⟩
        have ra16 := ra14.mono s16
        have e16 := s16 _ _ e14
        have D16 := D14.same s16
        generalize upd H15 L2' (.lst []) = H16 at s16 ra16 e16 D16 ⊢
        obtain ⟨dx, tr, tk, tn, ps, hR, _⟩ := ra16.ex
        -- a week later
        refine ⟨_, rfl, pr, dx, _, rfl, hR, rfl, _, rfl, _, _, rfl, rfl, pr, _, _, rfl, ra16, rl, _, rfl, _, _, rfl, rfl, rfl, _, rfl, ?_⟩
        have w1 : workD ns' (t + 7) = f + 7 := by
          have := work_week rl t 1
          simp only [Int.mul_one] at this
          rw [ef]
          exact this
        show (if (!decide (V.int (workD ns' (t + 7)) = V.int (f + 7))) = true then _ else _)
        rw [w1, decide_eq_true rfl]
        refine iteF ?_
        -- its own
        refine ⟨_, rfl, pr, dx, _, rfl, hR, rfl, _, rfl, pr, _, _, rfl, ra16, rl, _, rfl, rfl, _, rfl, ?_⟩
        have w2 : workD ns' f = f := by
          rw [ef]
          exact work_idem rl t
        show (if (!decide (V.int (workD ns' f) = V.int f)) = true then _ else _)
        rw [w2, decide_eq_true rfl]
        refine iteF ?_
        -- itself just if a working day
        refine ⟨_, rfl, _, rfl, rfl, _, rfl, .inl ⟨_, rfl, _, _, rfl, rfl, (by show (0 : Int) < 7; decide), _, rfl, po, _, rfl, .inl (.inl (.inl e16)), rfl, flat_ints _, rfl, _, rfl, ?_⟩⟩
        show (if (!decide (V.bl (decide (V.int f = V.int t)) = V.bl (!inV (V.int (t % 7)) (ds.map V.int)))) = true then _ else _)
        have w3 : decide (V.int f = V.int t) = !inV (V.int (t % 7)) (ds.map V.int) := by
          rw [inV_int]
          by_cases ht : t % 7 ∈ ds
          · have hne : ¬ V.int f = V.int t := fun z => f2 (by rw [V.int.inj z]; exact ht)
            rw [decide_eq_true ht, decide_eq_false hne]
            rfl
          · have hf : f = t := by
              rw [ef]
              exact work_self fun z => ht ((rm _).mp z)
            rw [decide_eq_false ht, hf, decide_eq_true rfl]
            rfl
        rw [w3, decide_eq_true rfl]
        refine iteF ?_
        rw [et]
        exact ⟨_, _, _, rfl, D16, ra16, e16⟩
      · rintro σ H14 ⟨w6, w7, w8, rfl, D14, ra14, e14⟩
        exact ⟨_, _, _, _, _, _, _, rfl, D14⟩
    · rintro σ H2 ⟨v2, v3, v4, v5, v6, v7, v8, rfl, D2⟩
      dsimp only [tRet, tAndV, tOp, tMeth, tMake, tC, tCons, tNil, List.cons_append, List.nil_append]
      refine mk_rule (vc := .non) (n := 5) (ns := []) (cap := none) (ks := []) ⟨rfl, by decide, ⟨_, rfl, .inr (tupAtB_ok E.e_Rule___init___0 H2)⟩, by decide, (fun _ z => nomatch z), by decide, rfl, (fun _ z => nomatch z), ⟨_, [], rfl, .inr (tupAtB_ok E.e_Rule___init___2 H2), .nil⟩, by decide, by decide⟩ (fun pr H3 ns' npr s3 hp' hs' ra => ?_)
      obtain ⟨dx, tr, tk, tn, ps, hR, _⟩ := ra.ex
      have e1 : ns' = [] := List.perm_nil.mp hp'
      subst e1
      refine ⟨pr, dx, _, rfl, hR, rfl, _, _, rfl, rfl, ⟨by decide, by decide, by decide⟩, pr, _, _, rfl, ra, by decide, _, _, rfl, rfl, ⟨by decide, by decide, by decide⟩, rfl, _, rfl, ?_⟩
      show (if decide (V.int (workD [] (10 ^ 18)) = V.int (10 ^ 18)) = true then _ else _)
      rw [decide_eq_true (by rw [work_self (by simp)])]
      refine iteT ⟨by show 6 ≤ sizeLine; decide, fun L hL => ?_⟩
      have s4 := same_new (o := .lst ([.int 0, .int 1, .int 2, .int 3, .int 4, .int 5] : List V)) hL
      refine mk_rule (vc := .non) (n := 5) (ns := [0, 1, 2, 3, 4, 5]) (cap := none) (ks := []) ⟨rfl, by decide, ⟨L, rfl, .inl (.inl (.inl upd_same))⟩, by decide, by decide, by decide, rfl, (fun _ z => nomatch z), ⟨_, [], rfl, .inr (tupAtB_ok E.e_Rule___init___2 _), .nil⟩, by decide, by decide⟩ (fun pr2 H5 ns2 npr2 s5 hp2 hs2 ra2 => ?_)
      obtain ⟨dx2, tr2, tk2, tn2, ps2, hR2, _⟩ := ra2.ex
      have l2 : ns2.length ≤ 6 := by
        rw [hp2.length_eq]
        decide
      refine ⟨pr2, dx2, _, rfl, hR2, rfl, pr2, _, _, rfl, ra2, l2, rfl, ?_⟩
      have w4 : workD ns2 7 = 13 := by
        have := gap_uniq l2 (d := 7) (m := 6) (fun j hj => by
          rw [hp2.mem_iff]
          have : j = 0 ∨ j = 1 ∨ j = 2 ∨ j = 3 ∨ j = 4 ∨ j = 5 := by omega
          rcases this with rfl | rfl | rfl | rfl | rfl | rfl <;> decide) (by
          rw [hp2.mem_iff]
          decide)
        unfold workD
        rw [← this]
        rfl
      show Q (.bl (decide (V.int (workD ns2 7) = V.int 13))) H5
      rw [w4, decide_eq_true rfl]
      exact k H5
end

end Tm

namespace Tm
open PySem PySem.Spec PyProof.Rows L2
abbrev R : PySem.W.OpenRow := PySem.W.OpenLaw.row PySem.Challenge.rw_termstill_k10_working_days
def nms : List Str := (["_wall", "__name__", "TermError", "InvalidKind", "InvalidRule", "InvalidText", "NoKind", "BARRED", "LETTERS", "SIGNS", "MOST_LETTERS", "MOST_SIGNS", "is_integer", "is_length", "is_name", "is_sequence", "number_in", "Kind", "need", "is_many"] : List Str) ++ (["many_text", "Still", "Anew", "Lift", "FORMS", "told_by", "made_of", "WEEK", "MOST_RESTS", "are_rests", "are_kinds", "head_in", "Rule", "_law_deal", "_law_draw", "_law_pick", "_law_mixed"] : List Str)
theorem run_false (w : World) : HandSHeadRun.RunEq R (PySem.W.view R.prog [41]) (hookM 7 fa ex fn) (obM 7 fa ex fn) 6000 nms (w.withFollow "special-get-raises" false) := by
  intro os
  kernel_rfl
theorem run_true (w : World) : HandSHeadRun.RunEq R (PySem.W.view R.prog [41]) (hookM 7 fa ex fn) (obM 7 fa ex fn) 6000 nms (w.withFollow "special-get-raises" true) := by
  intro os
  kernel_rfl
theorem run (w : World) : HandSHeadRun.RunEq R (PySem.W.view R.prog [41]) (hookM 7 fa ex fn) (obM 7 fa ex fn) 6000 nms w :=
  PySem.W.byRow2 "special-get-raises" (P := fun w => HandSHeadRun.RunEq R (PySem.W.view R.prog [41]) (hookM 7 fa ex fn) (obM 7 fa ex fn) 6000 nms w) run_false run_true w
end Tm

open PySem PySem.W PySem.Calls PyProof.Rows
set_option maxRecDepth 100000 in
set_option maxHeartbeats 0 in
theorem PySem.Challenge.cw_termstill_k10_working_days_holds : PySem.Challenge.rw_termstill_k10_working_days.Holds := by
  w_on; o_law
  refine HandSHeadRun.head_any (r := Tm.R) (q := view Tm.R.prog [41]) (H := Tm.hookM 7 Tm.fa Tm.ex Tm.fn) (ob := Tm.obM 7 Tm.fa Tm.ex Tm.fn) (M := 6000) (loose := Tm.nms) (d := HandSHeadRun.topDef Tm.R.prog 41) (kwd := []) Tm.obM_eq
    (by kernel_rfl) (fun s => by kernel_rfl) Tm.run (by kernel_rfl) (by kernel_rfl) (by kernel_rfl) (by rfl) (by first | assumption | decide +kernel) (by decide +kernel) ⟨rfl, rfl, rfl, rfl, rfl, by decide +kernel⟩ ?hw ?hc
  case hw => w_witness2
  case hc =>
    refine L2.walk_ofE (l := PySem.Challenge.rw_termstill_k10_working_days) (n := 63) (k := 20) (x := "_law_script") (CX := L2.CX0) rfl (by decide) (by kernel_rfl) ⟨rfl, by decide, by decide⟩ ?F (fun _ _ _ _ z => z)
    intro w mg fa h Y G hm0
    obtain ⟨K, KX, c⟩ := Y
    have E := Tm.env_of KX G c
    have hm : mg ("law" : PySem.Str) = some (.ref fa) := by
      have e : (HandSHeadRun.topDef Tm.R.prog 41).name = ("law" : PySem.Str) := by kernel_rfl
      rw [← e]
      exact hm0
    have e : fa = He.ga K "law" := by
      have z := hm.symm.trans E.g_law
      cases z
      rfl
    subst e
    obtain ⟨fd, F⟩ := E.f_law
    exact ⟨K, fd, Tm.spLaw K, KX, fun s v => L2.FunD.bindsA (ps := ["_law_script"]) F (fun _ _ _ _ _ _ us hl => match us, hl with | [_], _ => rfl) s [v] rfl, fun H a ns hl _ hS => ⟨a, ns, rfl, hS, hl, fun _ => rfl⟩, fun base _ _ => Tm.ok_law E F⟩
#print axioms PySem.Challenge.cw_termstill_k10_working_days_holds
