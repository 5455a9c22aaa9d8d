import PyProof.Rows.All
import Wide.All
import OpenK.AllK
import Wide.FinOn
import KE.KStateDown
import Lean
import HandS.ForMost
import HandS.ForExc
import HandS.Defaults
import HandS.IsInst
import HandS.Flow
import HandS.Style
import HandS.Conv
import HandS.Strs
import HandS.SetKeys
import HandS.DictComp
import HandS.Wide
import HandS.FStr
import HandS.Property
import HandS.ClsMeth
import HandS.ExcInit
import HandS.ExcSuper
import HandS.ExcField
import HandS.TryMany
import HandS.SuiteRaise
import HandS.RaiseFrom
import HandS.HotCalls
import HandS.MakeKw
import HandS.SortInts
import HandS.SortKw
import HandS.TupAny
import HandS.TupLe
import HandS.TupMul
import HandS.Zip
import HandS.Deep
import HandS.DeepEq
import HandS.OwnEq
import HandS.Star
import HandS.MethStar
import HandS.Head0
import HandS.Head1
import HandS.Head2
import HandS.HeadEnd
import HandS.HeadHook1
import HandS.HeadHook2
import HandS.HeadHook3
import HandS.HeadNt
import HandS.Evl
import HandS.Steps
import HandS.RaiseOp
import HandS.Remove
import HandS.SetFor
import HandS.DictTup
import HandS.Walk
import HandS.RaiseMore
import KE.GoesMore
import PySem.Challenge.RW_termstill_k08_texts_of_rules
set_option Elab.async false
set_option linter.all false
set_option maxRecDepth 100000
set_option maxHeartbeats 4000000
/-! Part 0: a Hook with a further test of one's own, and short words for the head. -/
namespace Tm
open PySem PySem.Spec PyProof.Rows L2
/-- the j-th default of the def at f, an object -/
def emptyDfl (f : PySem.W.Frag → Addr) (j : Nat) (K : PySem.W.Frag) : Addr :=
  match K.lookup (f K) with
  | some ⟨_, _, .func fd, _⟩ =>
    match fd.defaults with
    | .ref T =>
      match K.lookup T with
      | some ⟨_, _, .seq its _, _⟩ =>
        match its.toList[j]? with
        | some (.ref a) => a
        | _ => 0
      | _ => 0
    | _ => 0
  | _ => 0
/-- what stands at a is a tuple of these -/
def tupAtB (K : PySem.W.Frag) (a : Addr) (vs : List V) : Bool :=
  match K.lookup a with
  | some ⟨.type c, _, .seq its _, _⟩ => decide (c = "tuple") && (decide (its.size ≤ sizeLine) && He.relAll vs its.toList)
  | _ => false
theorem tupAtB_ok {K : PySem.W.Frag} {a : Addr} {vs : List V} (h : tupAtB K a vs = true) (H : Hp) : SqT K H a vs := by
  unfold tupAtB at h
  cases q : K.lookup a with
  | none => rw [q] at h; cases h
  | some o =>
    obtain ⟨oc, od, dt, osl⟩ := o
    rw [q] at h
    cases oc with
    | type c =>
      cases dt with
      | seq its n =>
        have h' := h
        simp only [Bool.and_eq_true, decide_eq_true_eq] at h'
        obtain ⟨h1, h3, h4⟩ := h'
        exact .inr ⟨_, its, n, q, congrArg Value.type h1, rfl, h3, He.relAll_ok h4⟩
      | _ => cases h
    | _ => cases dt <;> cases h
abbrev Al := (Bool × (Bool × List He.FnW)) × List (Option (List (Option (Str × Int))))
def obsM (fa : List He.Fa) (ex : PySem.W.Frag → Bool) (fn : List He5.DefA) (ts : List He.Tab) (K : PySem.W.Frag) : Al :=
  ((ex K, He5.obsA fa fn K), ts.map fun t => He.dicW K (t.1 K))
def valM (fn : List He5.DefA) (ts : List He.Tab) (w : World) : Al := ((true, He5.valA fn), ts.map fun t => some (He.keysIn w.params t.2))
def SaysM (fa : List He.Fa) (ex : PySem.W.Frag → Bool) (fn : List He5.DefA) (ts : List He.Tab) (w : World) (K : PySem.W.Frag) : Prop :=
  obsM fa ex fn ts K = valM fn ts w
section
variable {fa : List He.Fa} {ext : PySem.W.Frag → Bool} {fn : List He5.DefA} {ts : List He.Tab} {w : World} {K : PySem.W.Frag}
theorem SaysM.ex (c : SaysM fa ext fn ts w K) : ext K = true := congrArg (fun z : Al => z.1.1) c
theorem SaysM.a (c : SaysM fa ext fn ts w K) : He5.SaysA fa fn K := congrArg (fun z : Al => z.1.2) c
theorem SaysM.tab (c : SaysM fa ext fn ts w K) (i : Nat) {t : He.Tab} (h : ts[i]? = some t := by rfl) : ∃ es n, KDict K w (t.1 K) es n := by
  have e : ts.map (fun t => He.dicW K (t.1 K)) = ts.map fun t => some (He.keysIn w.params t.2) := congrArg (fun z : Al => z.2) c
  have e2 : (ts.map fun t => He.dicW K (t.1 K))[i]? = (ts.map fun t => some (He.keysIn w.params t.2))[i]? := by rw [e]
  rw [List.getElem?_map, List.getElem?_map, h] at e2
  exact He.dicW_ok (Option.some.inj e2)
end
def hookM (n : Nat) (fa : List He.Fa) (ex : PySem.W.Frag → Bool) (fn : List He5.DefA) (ts : List He.Tab) : PySem.W.Hook where
  α := Al
  obs := fun s => obsM fa ex fn ts (He.frG s.heap.get? (He5.asA s.heap.get? n))
  val := fun w => valM fn ts w
  says := fun w h => ∃ K : PySem.W.Frag, K.In h ∧ SaysM fa ex fn ts w K
  of := fun _ _ e => ⟨_, He.frG_in, e⟩
  keeps := fun _ _ _ ⟨K, hK, c⟩ k => ⟨K, hK.keeps k, c⟩
def obM (n : Nat) (fa : List He.Fa) (ex : PySem.W.Frag → Bool) (fn : List He5.DefA) (ts : List He.Tab) (s : PySem.W.SharedT) : Al :=
  obsM fa ex fn ts (He.frG (HandSHeadRun.getT s) (He5.asA (HandSHeadRun.getT s) n))
theorem obM_eq {n : Nat} {fa : List He.Fa} {ex : PySem.W.Frag → Bool} {fn : List He5.DefA} {ts : List He.Tab} (s : PySem.W.SharedT) :
    obM n fa ex fn ts s = (hookM n fa ex fn ts).obs s.abs := by
  have e : HandSHeadRun.getT s = s.abs.heap.get? := funext (HandSHeadRun.getT_eq s)
  unfold obM
  rw [e]
  rfl
end Tm

/-! Part 1: a def and how it is called, as one fact; short rules. -/
namespace Tm
open PySem PySem.Spec PyProof.Rows L2
theorem bt_len : bootBuiltins "len" = some (.builtin "len") := by decide +kernel
theorem bt_abs : bootBuiltins "abs" = some (.builtin "abs") := by decide +kernel
theorem bt_all : bootBuiltins "all" = some (.builtin "all") := by decide +kernel
theorem bt_any : bootBuiltins "any" = some (.builtin "any") := by decide +kernel
theorem bt_max : bootBuiltins "max" = some (.builtin "max") := by decide +kernel
theorem bt_min : bootBuiltins "min" = some (.builtin "min") := by decide +kernel
theorem bt_sum : bootBuiltins "sum" = some (.builtin "sum") := by decide +kernel
theorem bt_sorted : bootBuiltins "sorted" = some (.builtin "sorted") := by decide +kernel
theorem bt_repr : bootBuiltins "repr" = some (.builtin "repr") := by decide +kernel
theorem bt_isinstance : bootBuiltins "isinstance" = some (.builtin "isinstance") := by decide +kernel
theorem bt_int : bootBuiltins "int" = some (.type "int") := by decide +kernel
theorem bt_bool : bootBuiltins "bool" = some (.type "bool") := by decide +kernel
theorem bt_str : bootBuiltins "str" = some (.type "str") := by decide +kernel
theorem bt_list : bootBuiltins "list" = some (.type "list") := by decide +kernel
theorem bt_tuple : bootBuiltins "tuple" = some (.type "tuple") := by decide +kernel
theorem bt_dict : bootBuiltins "dict" = some (.type "dict") := by decide +kernel
theorem bt_set : bootBuiltins "set" = some (.type "set") := by decide +kernel
theorem bt_range : bootBuiltins "range" = some (.type "range") := by decide +kernel
theorem bt_enumerate : bootBuiltins "enumerate" = some (.type "enumerate") := by decide +kernel
theorem bt_ValueError : bootBuiltins "ValueError" = some (.type "ValueError") := by decide +kernel
theorem bt_TypeError : bootBuiltins "TypeError" = some (.type "TypeError") := by decide +kernel
theorem bt_KeyError : bootBuiltins "KeyError" = some (.type "KeyError") := by decide +kernel
/-- the def at f keeps sp; called with the last parameters left to the defaults dvs -/
structure Dn (P : Program) (w : World) (K : PySem.W.Frag) (mg : Str → Option Value) (base : Heap) (CX : CXT) (k : Nat) (f : Addr) (dvs : List V) (sp : Sp) : Prop where
  ex : ∃ (fd : FuncData) (ps : List Str) (ds : List Value), FnOk P w K mg base CX k f fd ps sp ∧ PySem.W.keepIn K (.ref f) = true ∧ Vals dvs ds ∧ Binds K fd ps ds
section
variable {P : Program} {w : World} {K : PySem.W.Frag} {mg : Str → Option Value} {base : Heap} {CX : CXT} {k : Nat} {f : Addr} {sp : Sp} {dvs : List V}
theorem Dn.imp {sp' : Sp} (D : Dn P w K mg base CX k f dvs sp) (h : ∀ vs H Q E, sp' vs H Q E → sp vs H Q E) : Dn P w K mg base CX k f dvs sp' := by
  obtain ⟨fd, ps, ds, F, a, b, c⟩ := D.ex
  exact ⟨fd, ps, ds, F.imp h, a, b, c⟩
theorem Dn.mono {j : Nat} (D : Dn P w K mg base CX j f dvs sp) (h : j ≤ k) : Dn P w K mg base CX k f dvs sp := by
  obtain ⟨fd, ps, ds, F, a, b, c⟩ := D.ex
  exact ⟨fd, ps, ds, F.mono h, a, b, c⟩
/-- a def without defaults -/
theorem dn_of {x qual : Str} {params : Arguments} {body : List Stmt} {scope : Scope} {ps : List Str} (F : ∃ fd, FunD K x qual params body scope [] [] f fd)
    (h : ∀ fd, FunD K x qual params body scope [] [] f fd → FnOk P w K mg base CX k f fd ps sp)
    (hb : ∀ (kV doc pm : Value) (an : Option Addr) (cdv ct : Value) (us : List Value), us.length = ps.length → bindArgs (PySem.W.fnOf x qual params body scope .none kV doc pm an cdv ct) ⟨us, []⟩ = pure (ps.zip us)) :
    Dn P w K mg base CX k f [] sp := by
  obtain ⟨fd, F⟩ := F
  exact ⟨fd, ps, [], h fd F, F.kp, .nil, F.bindsN hb⟩
/-- a def with defaults: n arguments are written, the defaults behind the first j fill up -/
theorem dn_dfl {x qual : Str} {params : Arguments} {body : List Stmt} {scope : Scope} {ps : List Str} {all : List V} (n j : Nat) (F : ∃ fd, FunD K x qual params body scope all [] f fd) (hd : all ≠ []) (hn : n + (all.length - j) = ps.length)
    (h : ∀ fd, FunD K x qual params body scope all [] f fd → FnOk P w K mg base CX k f fd ps sp)
    (hb : ∀ (T : Addr) (kV doc pm : Value) (an : Option Addr) (cdv ct : Value) (us its : List Value), us.length = n → its.length = all.length →
      ∃ g, bindArgs (PySem.W.fnOf x qual params body scope (.ref T) kV doc pm an cdv ct) ⟨us, []⟩ = seqItems? (.ref T) >>= g ∧ g (some its.toArray) = pure (ps.zip (us ++ its.drop j))) :
    Dn P w K mg base CX k f (all.drop j) sp := by
  obtain ⟨fd, F⟩ := F
  obtain ⟨ds, r, b⟩ := F.binds1 n j hd hn hb
  exact ⟨fd, ps, ds, h fd F, F.kp, r, b⟩
/-- a def with defaults, every argument written -/
theorem dn_full {x qual : Str} {params : Arguments} {body : List Stmt} {scope : Scope} {ps : List Str} {all : List V} (F : ∃ fd, FunD K x qual params body scope all [] f fd)
    (h : ∀ fd, FunD K x qual params body scope all [] f fd → FnOk P w K mg base CX k f fd ps sp)
    (hb : ∀ (dV kV doc pm : Value) (an : Option Addr) (cdv ct : Value) (us : List Value), us.length = ps.length → bindArgs (PySem.W.fnOf x qual params body scope dV kV doc pm an cdv ct) ⟨us, []⟩ = pure (ps.zip us)) :
    Dn P w K mg base CX k f [] sp := by
  obtain ⟨fd, F⟩ := F
  refine ⟨fd, ps, [], h fd F, F.kp, .nil, ?_⟩
  obtain ⟨oc, od, dV, kV, doc, pm, an, cdv, ct, osl, rfl, _⟩ := F.ex
  exact .all (hb dV kV doc pm an cdv ct)
end
section
variable {X : Cx} {CX : CXT} {k : Nat} {f C : Addr} {sp : Sp} {dvs : List V} {E : XK} {x m : Str} {p pos apos : Pos} {e o : Expr} {es : List Expr} {ta : TE} {t : TA}
theorem pe_c (D : Dn X.prog X.w X.K X.mg X.base CX k f dvs sp) (hr : Room k X.A) (hm : X.mg x = some (.ref f)) (hx : Passes CX X E) (ha : PA X (e :: es) t) (hg : Gl X x := by rfl) (hdb : (x == ("__debug__" : Str)) = false := by decide)
    (he : starEach (e :: es) X.env = (false, eval e X.env) :: starEach es X.env := by rfl) (hpl : (backTo pos (starEach es X.env)).any (·.1) = false := by rfl) : PE X (.Call (.Name x p) (e :: es) [] pos) (tCall sp dvs E t) := by
  obtain ⟨fd, ps, ds, F, kp, r, b⟩ := D.ex
  exact pe_call F hr hg hm kp b r hx ha hdb he hpl
theorem pe_c0 (D : Dn X.prog X.w X.K X.mg X.base CX k f dvs sp) (hr : Room k X.A) (hm : X.mg x = some (.ref f)) (hx : Passes CX X E) (hg : Gl X x := by rfl) (hdb : (x == ("__debug__" : Str)) = false := by decide) :
    PE X (.Call (.Name x p) [] [] pos) (tCall sp dvs E tNil) := by
  obtain ⟨fd, ps, ds, F, kp, r, b⟩ := D.ex
  exact pe_call0 F hr hg hm kp b r hx hdb
theorem pe_m {pl : Sem Bool} (he : PE X o ta) (c : Cls X.K C) (hm : Meth X.K C m f) (D : Dn X.prog X.w X.K X.mg X.base CX k f dvs sp) (hr : Room k X.A) (hx : Passes CX X E) (ha : PA X (e :: es) t)
    (hst : starEach (e :: es) X.env = (false, eval e X.env) :: starEach es X.env := by rfl) (hpl : (backTo pos (starEach es X.env)).any (·.1) = false := by rfl)
    (ht : eval (.Call (.Attribute o m apos) (e :: es) [] pos) X.env = (do
      let v ← eval o X.env
      standAt apos.atName
      let (g, first) ← holding [v] (getMethod v m pl)
      callWith pos g first (backTo pos (starEach (e :: es) X.env)) (backToKw pos (keywordEach [] X.env))) := by rfl) :
    PE X (.Call (.Attribute o m apos) (e :: es) [] pos) (tMeth C m sp dvs E ta t) := by
  obtain ⟨fd, ps, ds, F, kp, r, b⟩ := D.ex
  exact pe_meth he c hm F hr b r hx ha hst hpl ht
theorem pe_m0 {pl : Sem Bool} (he : PE X o ta) (c : Cls X.K C) (hm : Meth X.K C m f) (D : Dn X.prog X.w X.K X.mg X.base CX k f dvs sp) (hr : Room k X.A) (hx : Passes CX X E)
    (ht : eval (.Call (.Attribute o m apos) [] [] pos) X.env = (do
      let v ← eval o X.env
      standAt apos.atName
      let (g, first) ← holding [v] (getMethod v m pl)
      callWith pos g first (backTo pos (starEach [] X.env)) (backToKw pos (keywordEach [] X.env))) := by rfl) :
    PE X (.Call (.Attribute o m apos) [] [] pos) (tMeth C m sp dvs E ta tNil) := by
  obtain ⟨fd, ps, ds, F, kp, r, b⟩ := D.ex
  exact pe_meth0 he c hm F hr b r hx ht
theorem pe_mk (M : Mk X.K C f) (D : Dn X.prog X.w X.K X.mg X.base CX k f dvs sp) (hr : Room (k + 1) X.A) (hm : X.mg x = some (.ref C)) (hx : Passes CX X E) (ha : PA X (e :: es) t) (hg : Gl X x := by rfl)
    (hdb : (x == ("__debug__" : Str)) = false := by decide) (he : starEach (e :: es) X.env = (false, eval e X.env) :: starEach es X.env := by rfl) (hpl : (backTo pos (starEach es X.env)).any (·.1) = false := by rfl) :
    PE X (.Call (.Name x p) (e :: es) [] pos) (tMake C sp dvs E t) := by
  obtain ⟨fd, ps, ds, F, kp, r, b⟩ := D.ex
  exact pe_make M F hr hg hm b r hx ha hdb he hpl
theorem pe_mk0 (M : Mk X.K C f) (D : Dn X.prog X.w X.K X.mg X.base CX k f dvs sp) (hr : Room (k + 1) X.A) (hm : X.mg x = some (.ref C)) (hx : Passes CX X E) (hg : Gl X x := by rfl)
    (hdb : (x == ("__debug__" : Str)) = false := by decide) : PE X (.Call (.Name x p) [] [] pos) (tMake C sp dvs E tNil) := by
  obtain ⟨fd, ps, ds, F, kp, r, b⟩ := D.ex
  exact pe_make0 M F hr hg hm b r hx hdb
/-- module's constants and built-in types as values -/
theorem pe_gi {i : Int} (hm : ∃ u, X.mg x = some (.int i u)) (hg : Gl X x := by rfl) (hd : (x == ("__debug__" : Str)) = false := by decide) : PE X (.Name x pos) (tC (.int i)) := by
  obtain ⟨u, e⟩ := hm
  exact pe_glob hg e ⟨_, rfl⟩ hd
theorem pe_gs {z : Str} (hm : ∃ u, X.mg x = some (.str z u)) (hg : Gl X x := by rfl) (hd : (x == ("__debug__" : Str)) = false := by decide) : PE X (.Name x pos) (tC (.str z)) := by
  obtain ⟨u, e⟩ := hm
  exact pe_glob hg e ⟨_, rfl⟩ hd
theorem pe_gr {a : Addr} (hm : X.mg x = some (.ref a)) (hg : Gl X x := by rfl) (hd : (x == ("__debug__" : Str)) = false := by decide) : PE X (.Name x pos) (tC (.ref a)) := pe_glob hg hm rfl hd
theorem pe_ty {n : String} (hm : X.mg x = none) (hv : bootBuiltins x = some (.type n)) (hg : Gl X x := by rfl) (hn : x ≠ "__name__" := by decide) (hd : (x == ("__debug__" : Str)) = false := by decide) : PE X (.Name x pos) (tC (.ty n)) :=
  pe_bltn hg hm hv rfl hn hd
end
end Tm

/-! Part 2: the types of values, heaps that grow, comprehensions that make a new list. -/
namespace Tm
open PySem PySem.Spec PyProof.Rows L2
/-- what isinstance says of a type and one of five built-in ones -/
def kb (t : Value) (n : String) : Bool := decide (t = .type n) || (decide (t = .type "bool") && decide (n = "int"))
structure Typ (K : PySem.W.Frag) (H : Hp) (x : V) (t : Value) : Prop where
  ty : TyX K H x t
  kit : ∀ n, n = "int" ∨ n = "bool" ∨ n = "str" ∨ n = "list" ∨ n = "tuple" → PySem.W.kitOne K t (.type n) = some (kb t n)
section
variable {K : PySem.W.Frag} {H : Hp}
theorem kit_b {s : String} (h1 : kitB s "int" = some (kb (.type s) "int")) (h2 : kitB s "bool" = some (kb (.type s) "bool")) (h3 : kitB s "str" = some (kb (.type s) "str")) (h4 : kitB s "list" = some (kb (.type s) "list"))
    (h5 : kitB s "tuple" = some (kb (.type s) "tuple")) : ∀ n, n = "int" ∨ n = "bool" ∨ n = "str" ∨ n = "list" ∨ n = "tuple" → PySem.W.kitOne K (.type s) (.type n) = some (kb (.type s) n) := by
  rintro n (rfl | rfl | rfl | rfl | rfl)
  · exact kit_ty h1
  · exact kit_ty h2
  · exact kit_ty h3
  · exact kit_ty h4
  · exact kit_ty h5
theorem kits_int : ∀ n, n = "int" ∨ n = "bool" ∨ n = "str" ∨ n = "list" ∨ n = "tuple" → PySem.W.kitOne K (.type "int") (.type n) = some (kb (.type "int") n) :=
  kit_b (by decide +kernel) (by decide +kernel) (by decide +kernel) (by decide +kernel) (by decide +kernel)
theorem kits_bool : ∀ n, n = "int" ∨ n = "bool" ∨ n = "str" ∨ n = "list" ∨ n = "tuple" → PySem.W.kitOne K (.type "bool") (.type n) = some (kb (.type "bool") n) :=
  kit_b (by decide +kernel) (by decide +kernel) (by decide +kernel) (by decide +kernel) (by decide +kernel)
theorem kits_str : ∀ n, n = "int" ∨ n = "bool" ∨ n = "str" ∨ n = "list" ∨ n = "tuple" → PySem.W.kitOne K (.type "str") (.type n) = some (kb (.type "str") n) :=
  kit_b (by decide +kernel) (by decide +kernel) (by decide +kernel) (by decide +kernel) (by decide +kernel)
theorem kits_list : ∀ n, n = "int" ∨ n = "bool" ∨ n = "str" ∨ n = "list" ∨ n = "tuple" → PySem.W.kitOne K (.type "list") (.type n) = some (kb (.type "list") n) :=
  kit_b (by decide +kernel) (by decide +kernel) (by decide +kernel) (by decide +kernel) (by decide +kernel)
theorem kits_tuple : ∀ n, n = "int" ∨ n = "bool" ∨ n = "str" ∨ n = "list" ∨ n = "tuple" → PySem.W.kitOne K (.type "tuple") (.type n) = some (kb (.type "tuple") n) :=
  kit_b (by decide +kernel) (by decide +kernel) (by decide +kernel) (by decide +kernel) (by decide +kernel)
theorem kits_none : ∀ n, n = "int" ∨ n = "bool" ∨ n = "str" ∨ n = "list" ∨ n = "tuple" → PySem.W.kitOne K (.type "NoneType") (.type n) = some (kb (.type "NoneType") n) :=
  kit_b (by decide +kernel) (by decide +kernel) (by decide +kernel) (by decide +kernel) (by decide +kernel)
theorem typ_int (i : Int) : Typ K H (.int i) (.type "int") := ⟨.base (.int i), kits_int⟩
theorem typ_bl (b : Bool) : Typ K H (.bl b) (.type "bool") := ⟨.base (.bl b), kits_bool⟩
theorem typ_str (z : Str) : Typ K H (.str z) (.type "str") := ⟨.base (.str z), kits_str⟩
theorem typ_non : Typ K H .non (.type "NoneType") := ⟨.base .non, kits_none⟩
theorem typ_lst {a : Addr} {xs : List V} (h : H a = some (.lst xs)) : Typ K H (.ref a) (.type "list") := ⟨.base (.lst h), kits_list⟩
theorem typ_tup {a : Addr} {xs : List V} (h : H a = some (.tup xs)) : Typ K H (.ref a) (.type "tuple") := ⟨.base (.tup h), kits_tuple⟩
theorem typ_sqT {a : Addr} {xs : List V} (h : SqT K H a xs) : Typ K H (.ref a) (.type "tuple") := by
  rcases h with (h | ⟨o, h⟩) | ⟨o, its, n, e, c, _⟩
  · exact ⟨.base (.tup h), kits_tuple⟩
  · exact ⟨.fTuple h, kits_tuple⟩
  · exact ⟨.kTuple e c, kits_tuple⟩
theorem typ_sqL {a : Addr} {xs : List V} (h : SqL K H a xs) : Typ K H (.ref a) (.type "list") := by
  rcases h with (h | ⟨o, h⟩) | ⟨o, its, n, e, c, _⟩
  · exact ⟨.base (.lst h), kits_list⟩
  · exact ⟨.base (.frz h), kits_list⟩
  · exact ⟨.kList e c, kits_list⟩
theorem int_aux {x : V} {t : Value} (q : TyX K H x t) (e : t = .type "int") : ∃ i, x = .int i := by
  cases q with
  | base b => cases b <;> first | exact ⟨_, rfl⟩ | exact absurd e (by decide) | exact nomatch e
  | _ => exact absurd e (by decide)
theorem str_aux {x : V} {t : Value} (q : TyX K H x t) (e : t = .type "str") : ∃ i, x = .str i := by
  cases q with
  | base b => cases b <;> first | exact ⟨_, rfl⟩ | exact absurd e (by decide) | exact nomatch e
  | _ => exact absurd e (by decide)
theorem Typ.isInt {x : V} (h : Typ K H x (.type "int")) : ∃ i, x = .int i := int_aux h.ty rfl
theorem Typ.isStr {x : V} (h : Typ K H x (.type "str")) : ∃ z, x = .str z := str_aux h.ty rfl
theorem Typ.int_t {i : Int} {t : Value} (h : Typ K H (.int i) t) : t = .type "int" := by
  have q := h.ty
  cases q with
  | base b => cases b; rfl
theorem Typ.str_t {z : Str} {t : Value} (h : Typ K H (.str z) t) : t = .type "str" := by
  have q := h.ty
  cases q with
  | base b => cases b; rfl
theorem Typ.non_t {t : Value} (h : Typ K H .non t) : t = .type "NoneType" := by
  have q := h.ty
  cases q with
  | base b => cases b; rfl
theorem Typ.bl_t {b : Bool} {t : Value} (h : Typ K H (.bl b) t) : t = .type "bool" := by
  have q := h.ty
  cases q with
  | base b => cases b; rfl
end
/-! ### heaps -/
theorem same_new {H : Hp} {p : Addr} {o : HO} (h : H p = none) : Same H (upd H p o) := fun a u e => by
  rw [upd_ne (ne_of_none e h)]
  exact e
theorem same_sqT {K : PySem.W.Frag} {H H' : Hp} {a : Addr} {xs : List V} (e : Same H H') (h : SqT K H a xs) : SqT K H' a xs := by
  rcases h with (h | ⟨o, h⟩) | h
  · exact .inl (.inl (e _ _ h))
  · exact .inl (.inr ⟨o, e _ _ h⟩)
  · exact .inr h
/-- all but what stands at D -/
def Off (D : Addr) (H H' : Hp) : Prop := ∀ b o, b ≠ D → H b = some o → H' b = some o
theorem Off.same {D : Addr} {H H' : Hp} (h : H D = none) (o : Off D H H') : Same H H' := fun b u e => o b u (ne_of_none e h) e
section
variable {K : PySem.W.Frag} {a D : Addr} {xs : List V} {g : TG} {tt : TT} {te : TE} {vs : List Nat} {σ : L2.St} {H : Hp} {Qd : Hp → Prop}
/-- one turn of a comprehension: the item is taken just if b, it becomes f; nothing old changes -/
abbrev LcTurn (g : TG) (tt : TT) (te : TE) (vs : List Nat) (σ : L2.St) (H : Hp) (x : V) (b : Bool) (f : V) : Prop :=
  ∀ H1, Same H H1 → ∀ (R : V → Hp → Prop) (S : Hp → Prop), (b = true → ∀ H2, Same H1 H2 → R f H2) → (b = false → ∀ H2, Same H1 H2 → S H2) →
    g x (wipe σ vs) H1 fun σ2 H2 => wipe σ2 vs = wipe σ vs ∧ tt σ2 H2 fun c H3 => if c = true then te σ2 H3 R else S H3
theorem take_step (b : V → Bool) (f : V → V) (l : List V) {i : Nat} {x : V} (h : l[i]? = some x) :
    ((l.take (i + 1)).filter b).map f = ((l.take i).filter b).map f ++ (if b x then [f x] else []) := by
  rw [List.take_add_one, h, List.filter_append, List.map_append]
  cases e : b x <;> simp [e]
theorem take_len (b : V → Bool) (f : V → V) (l : List V) (i : Nat) : (((l.take i).filter b).map f).length ≤ l.length := by
  rw [List.length_map]
  exact Nat.le_trans (List.length_filter_le _ _) (by rw [List.length_take]; omega)
/-- what stands between two turns -/
def LcInv (b : V → Bool) (f : V → V) (H : Hp) (D : Addr) (l : List V) (i : Nat) (H' : Hp) : Prop := Same H H' ∧ H' D = some (.lst (((l.take i).filter b).map f))
theorem lc_start (b : V → Bool) (f : V → V) (l : List V) (hD : H D = none) : LcInv b f H D l 0 (upd H D (.lst [])) := ⟨same_new hD, by rw [upd_same]; simp⟩
theorem lc_turn {b : V → Bool} {f : V → V} {l : List V} {i : Nat} {x : V} {H' : Hp} (hD : H D = none) (hn : l.length < sizeLine) (hx : l[i]? = some x) (p : LcInv b f H D l i H') (ht : LcTurn g tt te vs σ H x (b x) (f x)) :
    g x (wipe σ vs) H' fun σ2 H2 => wipe σ2 vs = wipe σ vs ∧ tt σ2 H2 fun c H3 => if c = true then te σ2 H3 fun y H4 => ∃ acc, H4 D = some (.lst acc) ∧ acc.length < sizeLine ∧ LcInv b f H D l (i + 1) (upd H4 D (.lst (acc ++ [y]))) else LcInv b f H D l (i + 1) H3 := by
  obtain ⟨p1, p2⟩ := p
  refine ht H' p1 _ _ (fun hb H2 s2 => ?_) (fun hb H2 s2 => ?_)
  · refine ⟨_, s2 _ _ p2, Nat.lt_of_le_of_lt (take_len b f l i) hn, fun c o e => ?_, ?_⟩
    · rw [upd_ne (ne_of_none e hD)]
      exact s2 _ _ (p1 _ _ e)
    · rw [upd_same, take_step b f l hx, hb]
      rfl
  · refine ⟨p1.trans s2, ?_⟩
    rw [take_step b f l hx, hb]
    simpa using s2 _ _ p2
theorem lc_L (b : V → Bool) (f : V → V) (hS : SqL K H a xs) (hn : xs.length < sizeLine) (hD : H D = none) (ht : ∀ x ∈ xs, LcTurn g tt te vs σ H x (b x) (f x))
    (hd : ∀ H', Same H H' → H' D = some (.lst ((xs.filter b).map f)) → Qd H') :
    ∃ W : Nat → Nat → Hp → Prop, (∃ m, W 0 m (upd H D (.lst []))) ∧ ∀ i m H', W i m H' →
      ((Itl K a).stop i H' ∧ Qd H') ∨ ((Itl K a).go i H' ∧ ∃ Nx : Hp → Prop, (∀ H2, Nx H2 → ∃ m', m' < m ∧ W (i + 1) m' H2) ∧ ∀ x H2, (Itl K a).yld i H' x H2 → g x (wipe σ vs) H2 fun σ2 H3 => wipe σ2 vs = wipe σ vs ∧ tt σ2 H3 fun c H4 =>
        if c = true then te σ2 H4 fun y H5 => ∃ acc, H5 D = some (.lst acc) ∧ acc.length < sizeLine ∧ Nx (upd H5 D (.lst (acc ++ [y]))) else Nx H4) :=
  lc_list (LcInv b f H D xs) (lc_start b f xs hD) (fun i H' _ p => p.1.seq hS) (fun i x H' hx p => lc_turn hD hn hx p (ht x (List.mem_of_getElem? hx))) fun H' p => hd H' p.1 (by have := p.2; rwa [List.take_length] at this)
theorem lc_T (b : V → Bool) (f : V → V) (hS : SqT K H a xs) (hn : xs.length < sizeLine) (hD : H D = none) (ht : ∀ x ∈ xs, LcTurn g tt te vs σ H x (b x) (f x))
    (hd : ∀ H', Same H H' → H' D = some (.lst ((xs.filter b).map f)) → Qd H') :
    ∃ W : Nat → Nat → Hp → Prop, (∃ m, W 0 m (upd H D (.lst []))) ∧ ∀ i m H', W i m H' →
      ((Itt K a).stop i H' ∧ Qd H') ∨ ((Itt K a).go i H' ∧ ∃ Nx : Hp → Prop, (∀ H2, Nx H2 → ∃ m', m' < m ∧ W (i + 1) m' H2) ∧ ∀ x H2, (Itt K a).yld i H' x H2 → g x (wipe σ vs) H2 fun σ2 H3 => wipe σ2 vs = wipe σ vs ∧ tt σ2 H3 fun c H4 =>
        if c = true then te σ2 H4 fun y H5 => ∃ acc, H5 D = some (.lst acc) ∧ acc.length < sizeLine ∧ Nx (upd H5 D (.lst (acc ++ [y]))) else Nx H4) :=
  lc_tup (LcInv b f H D xs) (lc_start b f xs hD) (fun i H' _ p => same_sqT p.1 hS) (fun i x H' hx p => lc_turn hD hn hx p (ht x (List.mem_of_getElem? hx))) fun H' p => hd H' p.1 (by have := p.2; rwa [List.take_length] at this)
/-- the ints of a range -/
def rgV (lo : Int) (n : Nat) : List V := (List.range n).map fun (i : Nat) => V.int (lo + (i : Int))
theorem rgV_len (lo : Int) (n : Nat) : (rgV lo n).length = n := by simp [rgV]
theorem rgV_at {lo : Int} {n i : Nat} (h : i < n) : (rgV lo n)[i]? = some (.int (lo + (i : Int))) := by simp [rgV, h]
theorem lc_R {lo : Int} {n : Nat} (b : V → Bool) (f : V → V) (hn : n < sizeLine) (hD : H D = none) (ht : ∀ i, i < n → LcTurn g tt te vs σ H (.int (lo + (i : Int))) (b (.int (lo + (i : Int)))) (f (.int (lo + (i : Int)))))
    (hd : ∀ H', Same H H' → H' D = some (.lst (((rgV lo n).filter b).map f)) → Qd H') :
    ∃ W : Nat → Nat → Hp → Prop, (∃ m, W 0 m (upd H D (.lst []))) ∧ ∀ i m H', W i m H' →
      ((Itr lo n).stop i H' ∧ Qd H') ∨ ((Itr lo n).go i H' ∧ ∃ Nx : Hp → Prop, (∀ H2, Nx H2 → ∃ m', m' < m ∧ W (i + 1) m' H2) ∧ ∀ x H2, (Itr lo n).yld i H' x H2 → g x (wipe σ vs) H2 fun σ2 H3 => wipe σ2 vs = wipe σ vs ∧ tt σ2 H3 fun c H4 =>
        if c = true then te σ2 H4 fun y H5 => ∃ acc, H5 D = some (.lst acc) ∧ acc.length < sizeLine ∧ Nx (upd H5 D (.lst (acc ++ [y]))) else Nx H4) :=
  lc_range (LcInv b f H D (rgV lo n)) (lc_start b f _ hD) (fun i H' hi p => lc_turn hD (by rw [rgV_len]; exact hn) (rgV_at hi) p (ht i hi)) fun H' p => hd H' p.1 (by have := p.2; rwa [List.take_of_length_le (by rw [rgV_len]; exact Nat.le_refl _)] at this)
end
end Tm

/-! Part 3: len(set(xs)) of ints, whether they are unlike. -/
namespace Tm
open PySem PySem.Spec PyProof.Rows L2
theorem nodup_le {α : Type} [DecidableEq α] : ∀ {l ns : List α}, l.Nodup → (∀ x ∈ l, x ∈ ns) → l.length ≤ ns.length
  | [], _, _, _ => Nat.zero_le _
  | x :: l, ns, h, hs => by
    obtain ⟨h1, h2⟩ := List.nodup_cons.mp h
    have hx : x ∈ ns := hs x (List.mem_cons_self ..)
    have ih : l.length ≤ (ns.erase x).length := nodup_le h2 fun y hy => by
      have ne : y ≠ x := fun e => h1 (e ▸ hy)
      exact (List.mem_erase_of_ne ne).mpr (hs y (List.mem_cons_of_mem _ hy))
    rw [List.length_erase_of_mem hx] at ih
    have := List.length_pos_of_mem hx
    simp only [List.length_cons]
    omega
/-- a list of the members of ns without a double one has its length just if ns has none -/
theorem nodup_iff {α : Type} [DecidableEq α] : ∀ {ns l : List α}, l.Nodup → (∀ x, x ∈ l ↔ x ∈ ns) → (l.length = ns.length ↔ ns.Nodup)
  | ns, l, h, hm => by
    constructor
    · intro e
      induction ns generalizing l with
      | nil => exact List.nodup_nil
      | cons y ns ih =>
        refine List.nodup_cons.mpr ?_
        have hy : y ∈ l := (hm y).mpr (List.mem_cons_self ..)
        have hn : y ∉ ns := by
          intro hyn
          have : l.length ≤ ns.length := nodup_le h fun x hx => by
            rcases List.mem_cons.mp ((hm x).mp hx) with rfl | z
            · exact hyn
            · exact z
          simp only [List.length_cons] at e
          omega
        refine ⟨hn, ih (l := l.erase y) (h.erase y) (fun x => ?_) ?_⟩
        · rw [h.mem_erase_iff, hm x, List.mem_cons]
          constructor
          · rintro ⟨ne, rfl | z⟩
            · exact absurd rfl ne
            · exact z
          · intro z
            exact ⟨fun e => hn (e ▸ z), Or.inr z⟩
        · rw [List.length_erase_of_mem hy, e]
          simp
    · intro hn
      exact Nat.le_antisymm (nodup_le h fun x hx => (hm x).mp hx) (nodup_le hn fun x hx => (hm x).mpr hx)
theorem firstMet_nd (val : Nat → Int) : ∀ i, (PyProof.Rows.firstMet val i).Nodup
  | 0 => List.nodup_nil
  | i + 1 => by
    have ih := firstMet_nd val i
    rw [PyProof.Rows.firstMet_succ]
    unfold PyProof.Rows.step_dedup
    split
    · exact ih
    · rename_i hc
      refine List.nodup_append.mpr ⟨ih, by simp, fun a ha b hb => ?_⟩
      rw [List.mem_singleton] at hb
      subst hb
      intro e
      apply hc
      rw [List.any_eq_true]
      exact ⟨a, ha, by simp [e]⟩
theorem firstMet_mem (ns : List Int) (k : Int) : k ∈ PyProof.Rows.firstMet (fun i => ns.getD i 0) ns.length ↔ k ∈ ns := by
  have e : ((List.range ns.length).map fun i => ns.getD i 0) = ns := by
    apply List.ext_getElem
    · simp
    · intro i h1 h2
      simp [List.getD_eq_getElem?_getD, h2]
  have h := PyProof.Rows.firstMet_any (fun i => ns.getD i 0) ns.length k
  rw [e] at h
  constructor
  · intro hk
    have : (PyProof.Rows.firstMet (fun i => ns.getD i 0) ns.length).any (· == k) = true := List.any_eq_true.mpr ⟨k, hk, by simp⟩
    rw [h] at this
    obtain ⟨y, hy, ey⟩ := List.any_eq_true.mp this
    rw [← eq_of_beq ey]
    exact hy
  · intro hk
    have : ns.any (· == k) = true := List.any_eq_true.mpr ⟨k, hk, by simp⟩
    rw [← h] at this
    obtain ⟨y, hy, ey⟩ := List.any_eq_true.mp this
    rw [← eq_of_beq ey]
    exact hy
def tLenSet (K : PySem.W.Frag) (ta : TE) : TE := fun σ H Q => ta σ H fun x H1 => ∃ (l : Addr) (ns : List Int), x = .ref l ∧ (SqL K H1 l (ns.map V.int) ∨ SqT K H1 l (ns.map V.int)) ∧ ns.length ≤ 1000 ∧ ∀ m : Nat, (m = ns.length ↔ ns.Nodup) → Q (.int m) H1
theorem pe_lenSet0 {X : Cx} {a : Expr} {ta : TE} {p p2 q pos : Pos} (hm : X.mg "len" = none) (hm2 : X.mg "set" = none) (ha : PE X a ta) (hg : Gl X "len" := by rfl) (hg2 : Gl X "set" := by rfl) (hc : X.calm = true := by rfl)
    (na : starEach [a] X.env = (false, eval a X.env) :: starEach [] X.env := by rfl) : PE X (.Call (.Name "len" p) [.Call (.Name "set" p2) [a] [] q] [] pos) (tLenSet X.K ta) := by
  refine ⟨fun pins s σ H Q I h => ?_⟩
  refine Call_ (ld_blt I hg hm bt_len ?_)
  refine callWith_builtin1 (args_cons ?_ rfl) rfl rfl
  refine Call_ (ld_blt I hg2 hm2 bt_set ?_)
  refine callWith_type1 (args_cons (thn (ha.run pins s σ H _ I h) fun v s1 ⟨x, H1, I1, r1, q1⟩ => args_nil ?_) na) na rfl
  obtain ⟨l, ns, rfl, hq, hl, q1⟩ := q1
  cases r1
  have sb : ns.length + 1 < scanBound := by
    unfold scanBound
    omega
  rcases hq with hq | hq
  · obtain ⟨its, r, pl, hz⟩ := I1.list hq
    have hlen : its.toArray.size = ns.length := by rw [List.size_toArray, ← r.length, List.length_map]
    refine call_set_list (I1.ok.hd hc) pl.isList (by simpa using RZ.intsAre_vals r) (by rw [hlen]; exact sb) fun h' tk hS hk => ?_
    refine args_nil ?_
    rw [hlen] at hS
    obtain ⟨o, es, ep, t, ho, hex, hd, _, _, _, hf, hn⟩ := hS
    have I2 : Inv X pins σ H1 { s1 with heap := h', toks := tk } := I1.kept fun b o e => hk b o (Heap.lt_size e) e
    have hle := PyProof.Rows.firstMet_length_le (fun i => ns.getD i 0) ns.length
    exact call_len_set ho hex hd hf (by rw [hn]; omega) ⟨.int _, H1, I2.tok _, ⟨_, rfl⟩, q1 _ (by rw [hn]; exact nodup_iff (firstMet_nd _ _) (firstMet_mem ns))⟩
  · obtain ⟨its, r, tp, hz⟩ := I1.tuple hq
    refine call_set_tupI ns (I1.ok.hd hc) tp (by simpa using RZ.intsAre_vals r) sb fun h' tk c hS hcn hk => ?_
    refine args_nil ?_
    obtain ⟨o, es, ep, t, ho, hex, hd, _, hnd, hmem, _, hf, hn, _⟩ := hS
    have I2 : Inv X pins σ H1 { s1 with heap := h', toks := tk } := I1.kept fun b o e => hk b o e
    refine call_len_set ho hex hd hf (by rw [hn]; omega) ⟨.int _, H1, I2.tok _, ⟨_, rfl⟩, q1 _ ?_⟩
    have z := nodup_iff (ns := ns) hnd fun k => by
      rw [← hmem k]
      simp
    rw [List.length_map, Array.length_toList] at z
    exact z
theorem pe_lenSet {X : Cx} (K : PySem.W.Frag) {a : Expr} {ta : TE} {p p2 q pos : Pos} (hm : X.mg "len" = none) (hm2 : X.mg "set" = none) (ha : PE X a ta) (hg : Gl X "len" := by rfl) (hg2 : Gl X "set" := by rfl) (hc : X.calm = true := by rfl)
    (na : starEach [a] X.env = (false, eval a X.env) :: starEach [] X.env := by rfl) (hK : X.K = K := by rfl) : PE X (.Call (.Name "len" p) [.Call (.Name "set" p2) [a] [] q] [] pos) (tLenSet K ta) := by
  subst hK
  exact pe_lenSet0 hm hm2 ha hg hg2 hc na
end Tm

/-! Part 4: walks over a list or a tuple; any values and their items. -/
namespace Tm
open PySem PySem.Spec PyProof.Rows L2
theorem Typ.mono {K : PySem.W.Frag} {H H' : Hp} {x : V} {t : Value} (T : Typ K H x t) (h : Same H H') : Typ K H' x t := by
  refine ⟨?_, T.kit⟩
  have q := T.ty
  cases q with
  | base b =>
    cases b with
    | non => exact .base .non
    | bl y => exact .base (.bl y)
    | int i => exact .base (.int i)
    | str y => exact .base (.str y)
    | flt y => exact .base (.flt y)
    | lst e => exact .base (.lst (h _ _ e))
    | frz e => exact .base (.frz (h _ _ e))
    | tup e => exact .base (.tup (h _ _ e))
    | dK e => exact .base (.dK (h _ _ e))
    | dT e => exact .base (.dT (h _ _ e))
    | ins e cl ha hn htk hm => exact .base (.ins (h _ _ e) cl ha hn htk hm)
  | byt y => exact .byt y
  | set e => exact .set (h _ _ e)
  | kList e c => exact .kList e c
  | kTuple e c => exact .kTuple e c
  | kDict e c => exact .kDict e c
  | fTuple e => exact .fTuple (h _ _ e)
  | fDict e => exact .fDict (h _ _ e)
/-- two ways that go on alike -/
theorem cut_if {c A B R : Prop} [Decidable c] (h1 : c → R → A) (h2 : ¬ c → R → B) (r : R) : if c then A else B := by
  by_cases h : c
  · rw [if_pos h]
    exact h1 h r
  · rw [if_neg h]
    exact h2 h r
/-- a list or a tuple of these -/
def Sq (K : PySem.W.Frag) (H : Hp) (a : Addr) (xs : List V) : Prop := SqL K H a xs ∨ SqT K H a xs
theorem Sq.mono {K : PySem.W.Frag} {H H' : Hp} {a : Addr} {xs : List V} (h : Sq K H a xs) (s : Same H H') : Sq K H' a xs := by
  rcases h with h | h
  · exact .inl (s.seq h)
  · exact .inr (same_sqT s h)
theorem isSeq_of {K : PySem.W.Frag} {H : Hp} {a : Addr} {xs : List V} (h : Sq K H a xs) : ∃ t, Typ K H (.ref a) t ∧ (t = .type "list" ∨ t = .type "tuple") := by
  rcases h with h | h
  · exact ⟨_, typ_sqL h, .inl rfl⟩
  · exact ⟨_, typ_sqT h, .inr rfl⟩
def iSeq (K : PySem.W.Frag) (tl : TE) : TI := fun σ H R => tl σ H fun x H1 => ∃ (a : Addr) (xs : List V), x = .ref a ∧ Sq K H1 a xs ∧ (SqL K H1 a xs → R (Itl K a) H1) ∧ (SqT K H1 a xs → R (Itt K a) H1)
theorem pi_seq {X : Cx} {tg l : Expr} {tl : TE} (hl : PE X l tl) : PI X tg l (iSeq X.K tl) := by
  constructor
  intro pins s σ H R I h
  refine thn (hl.run pins s σ H _ I h) ?_
  rintro v s1 ⟨x, H1, I1, r1, a, xs, e, hq, qL, qT⟩
  subst e
  cases r1
  have fp : ∀ b ∈ [s1.heap.objs.size], FpOk X pins H1 b := fun b hb => by
    rw [List.mem_singleton] at hb
    rw [hb]
    exact I1.fpOk (Nat.le_refl _) (I1.hok.fresh (Nat.le_refl _))
  rcases hq with hq | hq
  · obtain ⟨its, rv, p, hz⟩ := I1.list hq
    exact wpAny_pyIter_list p.isList ⟨_, [s1.heap.objs.size], _, _, H1, rfl, I1.kept (t' := s1.toks) fun b o z => Heap.get?_push_of_some _ z, turn_list a _, ⟨_, Heap.get?_push_size _ rfl, rfl, rfl⟩, fp, qL hq⟩
  · obtain ⟨its, rv, p, hz⟩ := I1.tuple hq
    exact wpAny_pyIter_tuple (show s1.heap.IsTuple a its.toArray from p) ⟨_, [s1.heap.objs.size], _, _, H1, rfl, I1.kept (t' := s1.toks) fun b o z => Heap.get?_push_of_some _ z, turn_tuple a _, ⟨_, Heap.get?_push_size _ rfl, rfl, rfl⟩, fp, qT hq⟩
/-- a comprehension behind its iterable: that is a list or a tuple at x -/
def lcRun (g : TG) (tt : TT) (te : TE) (vs : List Nat) (σ : L2.St) (Q : VK) (J : It) (H1 : Hp) : Prop := ∀ D, H1 D = none → ∃ W : Nat → Nat → Hp → Prop, (∃ m, W 0 m (upd H1 D (.lst []))) ∧ ∀ i m H, W i m H →
  (J.stop i H ∧ Q (.ref D) H) ∨ (J.go i H ∧ ∃ Nx : Hp → Prop, (∀ H', Nx H' → ∃ m', m' < m ∧ W (i + 1) m' H') ∧ ∀ x H', J.yld i H x H' → g x (wipe σ vs) H' fun σ2 H2 => wipe σ2 vs = wipe σ vs ∧ tt σ2 H2 fun b H3 =>
    if b = true then te σ2 H3 fun y H4 => ∃ acc, H4 D = some (.lst acc) ∧ acc.length < sizeLine ∧ Nx (upd H4 D (.lst (acc ++ [y]))) else Nx H3)
def lcBody (K : PySem.W.Frag) (g : TG) (tt : TT) (te : TE) (vs : List Nat) (σ : L2.St) (Q : VK) : VK := fun x H1 => ∃ (a : Addr) (xs : List V), x = .ref a ∧ Sq K H1 a xs ∧ (SqL K H1 a xs → lcRun g tt te vs σ Q (Itl K a) H1) ∧ (SqT K H1 a xs → lcRun g tt te vs σ Q (Itt K a) H1)
theorem tLc_eq {K : PySem.W.Frag} {tl : TE} {g : TG} {tt : TT} {te : TE} {vs : List Nat} {σ : L2.St} {H : Hp} {Q : VK} : tLc (iSeq K tl) g tt te vs σ H Q = tl σ H (lcBody K g tt te vs σ Q) := rfl
theorem lcb_S {K : PySem.W.Frag} {a : Addr} {xs : List V} {g : TG} {tt : TT} {te : TE} {vs : List Nat} {σ : L2.St} {H : Hp} {Q : VK} (b : V → Bool) (f : V → V)
    (hS : Sq K H a xs) (hn : xs.length < sizeLine) (ht : ∀ x ∈ xs, LcTurn g tt te vs σ H x (b x) (f x))
    (hd : ∀ D H', H D = none → Same H H' → H' D = some (.lst ((xs.filter b).map f)) → Q (.ref D) H') : lcBody K g tt te vs σ Q (.ref a) H := by
  refine ⟨a, xs, rfl, hS, fun h D hD => ?_, fun h D hD => ?_⟩
  · exact lc_L b f h hn hD ht fun H' s e => hd D H' hD s e
  · exact lc_T b f h hn hD ht fun H' s e => hd D H' hD s e
/-- a comprehension over a list or a tuple, nothing old changes: its whole reading -/
theorem lc_S {K : PySem.W.Frag} {a : Addr} {xs : List V} {g : TG} {tt : TT} {te tl : TE} {vs : List Nat} {σ : L2.St} {H : Hp} {Q : VK} (b : V → Bool) (f : V → V)
    (hl : ∀ R : VK, R (.ref a) H → tl σ H R) (hS : Sq K H a xs) (hn : xs.length < sizeLine) (ht : ∀ x ∈ xs, LcTurn g tt te vs σ H x (b x) (f x))
    (hd : ∀ D H', H D = none → Same H H' → H' D = some (.lst ((xs.filter b).map f)) → Q (.ref D) H') : tLc (iSeq K tl) g tt te vs σ H Q := by
  refine hl _ ⟨a, xs, rfl, hS, fun h D hD => ?_, fun h D hD => ?_⟩
  · exact lc_L b f h hn hD ht fun H' s e => hd D H' hD s e
  · exact lc_T b f h hn hD ht fun H' s e => hd D H' hD s e
/-- .. without a test -/
theorem lc_M {K : PySem.W.Frag} {a : Addr} {xs : List V} {g : TG} {te tl : TE} {vs : List Nat} {σ : L2.St} {H : Hp} {Q : VK} (f : V → V)
    (hl : ∀ R : VK, R (.ref a) H → tl σ H R) (hS : Sq K H a xs) (hn : xs.length < sizeLine)
    (ht : ∀ x ∈ xs, ∀ H1, Same H H1 → ∀ R : V → Hp → Prop, (∀ H2, Same H1 H2 → R (f x) H2) → g x (wipe σ vs) H1 fun σ2 H2 => wipe σ2 vs = wipe σ vs ∧ te σ2 H2 R)
    (hd : ∀ D H', H D = none → Same H H' → H' D = some (.lst (xs.map f)) → Q (.ref D) H') (hg : ∀ x τ H1 R R', (∀ τ' H', R τ' H' → R' τ' H') → g x τ H1 R → g x τ H1 R') : tLc (iSeq K tl) g tYes te vs σ H Q := by
  refine lc_S (fun _ => true) f hl hS hn (fun x hx H1 s1 R S hR hS => ?_) fun D H' hD s e => hd D H' hD s (by rw [e, List.filter_eq_self.mpr fun _ _ => rfl])
  exact hg _ _ _ _ _ (fun τ' H' z => ⟨z.1, z.2⟩) (ht x hx H1 s1 R (hR rfl))
/-- .. the items told one by one -/
def LpInv (H : Hp) (D : Addr) (ys : List V) (i : Nat) (H' : Hp) : Prop := Same H H' ∧ H' D = some (.lst (ys.take i))
theorem lcb_P {K : PySem.W.Frag} {a : Addr} {xs ys : List V} {g : TG} {te : TE} {vs : List Nat} {σ : L2.St} {H : Hp} {Q : VK}
    (hS : Sq K H a xs) (hn : xs.length < sizeLine) (hy : ys.length = xs.length)
    (ht : ∀ (i : Nat) (x y : V), xs[i]? = some x → ys[i]? = some y → ∀ H1, Same H H1 → ∀ R : V → Hp → Prop, (∀ H2, Same H1 H2 → R y H2) → g x (wipe σ vs) H1 fun σ2 H2 => wipe σ2 vs = wipe σ vs ∧ te σ2 H2 R)
    (hd : ∀ D H', H D = none → Same H H' → H' D = some (.lst ys) → Q (.ref D) H') (hg : ∀ x τ H1 R R', (∀ τ' H', R τ' H' → R' τ' H') → g x τ H1 R → g x τ H1 R') : lcBody K g tYes te vs σ Q (.ref a) H := by
  have start : ∀ D, H D = none → LpInv H D ys 0 (upd H D (.lst [])) := fun D hD => ⟨same_new hD, by rw [upd_same]; rfl⟩
  have turn : ∀ D, H D = none → ∀ i x H', xs[i]? = some x → LpInv H D ys i H' → g x (wipe σ vs) H' fun σ2 H2 => wipe σ2 vs = wipe σ vs ∧ tYes σ2 H2 fun b H3 =>
      if b = true then te σ2 H3 fun y H4 => ∃ acc, H4 D = some (.lst acc) ∧ acc.length < sizeLine ∧ LpInv H D ys (i + 1) (upd H4 D (.lst (acc ++ [y]))) else LpInv H D ys (i + 1) H3 := by
    intro D hD i x H' hx ⟨p1, p2⟩
    have hi : i < ys.length := by
      rw [hy]
      exact (List.getElem?_eq_some_iff.mp hx).1
    have ey : ys[i]? = some ys[i] := List.getElem?_eq_getElem hi
    refine hg _ _ _ _ _ (fun τ' H' z => ⟨z.1, z.2⟩) (ht i x _ hx ey H' p1 (fun y H4 => ∃ acc, H4 D = some (.lst acc) ∧ acc.length < sizeLine ∧ LpInv H D ys (i + 1) (upd H4 D (.lst (acc ++ [y])))) fun H5 s5 => ?_)
    refine ⟨_, s5 _ _ p2, ?_, fun c o e => ?_, ?_⟩
    · rw [List.length_take]
      exact Nat.lt_of_le_of_lt (Nat.min_le_right _ _) (by rw [hy]; exact hn)
    · rw [upd_ne (ne_of_none e hD)]
      exact s5 _ _ (p1 _ _ e)
    · rw [upd_same, List.take_add_one, ey]
      rfl
  have whole : ∀ D H', LpInv H D ys xs.length H' → H' D = some (.lst ys) := fun D H' p => by
    have := p.2
    rwa [← hy, List.take_length] at this
  refine ⟨a, xs, rfl, hS, fun h D hD => ?_, fun h D hD => ?_⟩
  · exact lc_list (LpInv H D ys) (start D hD) (fun i H' _ p => p.1.seq h) (fun i x H' hx p => turn D hD i x H' hx p) fun H' p => hd D H' hD p.1 (whole D H' p)
  · exact lc_tup (LpInv H D ys) (start D hD) (fun i H' _ p => same_sqT p.1 h) (fun i x H' hx p => turn D hD i x H' hx p) fun H' p => hd D H' hD p.1 (whole D H' p)
theorem lc_P {K : PySem.W.Frag} {a : Addr} {xs ys : List V} {g : TG} {te tl : TE} {vs : List Nat} {σ : L2.St} {H : Hp} {Q : VK}
    (hl : ∀ R : VK, R (.ref a) H → tl σ H R) (hS : Sq K H a xs) (hn : xs.length < sizeLine) (hy : ys.length = xs.length)
    (ht : ∀ (i : Nat) (x y : V), xs[i]? = some x → ys[i]? = some y → ∀ H1, Same H H1 → ∀ R : V → Hp → Prop, (∀ H2, Same H1 H2 → R y H2) → g x (wipe σ vs) H1 fun σ2 H2 => wipe σ2 vs = wipe σ vs ∧ te σ2 H2 R)
    (hd : ∀ D H', H D = none → Same H H' → H' D = some (.lst ys) → Q (.ref D) H') (hg : ∀ x τ H1 R R', (∀ τ' H', R τ' H' → R' τ' H') → g x τ H1 R → g x τ H1 R') : tLc (iSeq K tl) g tYes te vs σ H Q :=
  hl _ (lcb_P hS hn hy ht hd hg)
theorem tLcR_eq {ta : TA} {g : TG} {tt : TT} {te : TE} {vs : List Nat} {σ : L2.St} {H : Hp} {Q : VK} : tLc (iRng2 ta) g tt te vs σ H Q = ta σ H fun ws H1 => ∃ i j : Int, ws = [.int i, .int j] ∧ (-(2 ^ 62) ≤ i ∧ i < 2 ^ 62 ∧ -(2 ^ 62) ≤ j ∧ j < 2 ^ 62) ∧ lcRun g tt te vs σ Q (Itr i (j - i).toNat) H1 := rfl
theorem tLcR1_eq {ta : TA} {g : TG} {tt : TT} {te : TE} {vs : List Nat} {σ : L2.St} {H : Hp} {Q : VK} : tLc (iRng1 ta) g tt te vs σ H Q = ta σ H fun ws H1 => ∃ j : Int, ws = [.int j] ∧ -(2 ^ 62) ≤ j ∧ j < 2 ^ 62 ∧ lcRun g tt te vs σ Q (Itr 0 j.toNat) H1 := rfl
theorem lcr_R {lo : Int} {n : Nat} {g : TG} {tt : TT} {te : TE} {vs : List Nat} {σ : L2.St} {H : Hp} {Q : VK} (b : V → Bool) (f : V → V) (hn : n < sizeLine) (ht : ∀ i : Nat, i < n → LcTurn g tt te vs σ H (.int (lo + (i : Int))) (b (.int (lo + (i : Int)))) (f (.int (lo + (i : Int)))))
    (hd : ∀ D H', H D = none → Same H H' → H' D = some (.lst (((rgV lo n).filter b).map f)) → Q (.ref D) H') : lcRun g tt te vs σ Q (Itr lo n) H :=
  fun D hD => lc_R b f hn hD ht fun H' s e => hd D H' hD s e
/-- a for over a list or a tuple, behind its iterable -/
def frRun (g : TG) (tb : TS) (D : Ends) (σ : L2.St) (J : It) (H1 : Hp) : Prop := ∃ W : Nat → Nat → L2.St → Hp → Prop, (∃ m, W 0 m σ H1) ∧ ∀ i m σ H, W i m σ H →
  (J.stop i H ∧ D.nx σ H) ∨ (J.go i H ∧ ∃ N : L2.St → Hp → Prop, (∀ σ' H', N σ' H' → ∃ m', m' < m ∧ W (i + 1) m' σ' H') ∧ ∀ x H', J.yld i H x H' → g x σ H' fun σ2 H2 => tb { D with nx := N, ct := N, bk := D.nx } σ2 H2)
def frBody (K : PySem.W.Frag) (g : TG) (tb : TS) (D : Ends) (σ : L2.St) : VK := fun x H1 => ∃ (a : Addr) (xs : List V), x = .ref a ∧ Sq K H1 a xs ∧ (SqL K H1 a xs → frRun g tb D σ (Itl K a) H1) ∧ (SqT K H1 a xs → frRun g tb D σ (Itt K a) H1)
theorem tFor_eq {K : PySem.W.Frag} {tl : TE} {g : TG} {tb : TS} {D : Ends} {σ : L2.St} {H : Hp} : tFor (iSeq K tl) g tb D σ H = tl σ H (frBody K g tb D σ) := rfl
/-- what is walked stays -/
def Stays (K : PySem.W.Frag) (a : Addr) (xs : List V) (H H' : Hp) : Prop := (SqL K H a xs → SqL K H' a xs) ∧ (SqT K H a xs → SqT K H' a xs)
theorem stays_same {K : PySem.W.Frag} {a : Addr} {xs : List V} {H H' : Hp} (s : Same H H') : Stays K a xs H H' := ⟨fun h => s.seq h, fun h => same_sqT s h⟩
theorem frb {K : PySem.W.Frag} {a : Addr} {xs : List V} {g : TG} {tb : TS} {D : Ends} {σ : L2.St} {H : Hp} (hS : Sq K H a xs) (Pv : Nat → L2.St → Hp → Prop) (h0 : Pv 0 σ H) (hl : ∀ i σ H', i ≤ xs.length → Pv i σ H' → Stays K a xs H H')
    (hs : ∀ i x σ H', xs[i]? = some x → Pv i σ H' → g x σ H' fun σ2 H2 => tb { D with nx := Pv (i + 1), ct := Pv (i + 1), bk := D.nx } σ2 H2) (hd : ∀ σ H', Pv xs.length σ H' → D.nx σ H') : frBody K g tb D σ (.ref a) H := by
  refine ⟨a, xs, rfl, hS, fun h => ?_, fun h => ?_⟩
  · exact for_list (K := K) (a := a) (xs := xs) Pv h0 (fun i σ H' hi p => (hl i σ H' hi p).1 h) hs hd
  · exact for_tup (K := K) (a := a) (xs := xs) Pv h0 (fun i σ H' hi p => (hl i σ H' hi p).2 h) hs hd
/-- any value: its type, and its items if it is a list or a tuple -/
inductive AnyV (K : PySem.W.Frag) (H : Hp) : V → Option (List V) → Prop where
  | no {x : V} {t : Value} (T : Typ K H x t) (h1 : t ≠ .type "list") (h2 : t ≠ .type "tuple") : AnyV K H x none
  | seq {a : Addr} {xs : List V} (h : Sq K H a xs) (hn : xs.length ≤ 1000) (hx : ∀ y ∈ xs, ∃ t, Typ K H y t) : AnyV K H (.ref a) (some xs)
theorem AnyV.mono {K : PySem.W.Frag} {H H' : Hp} {x : V} {os : Option (List V)} (A : AnyV K H x os) (s : Same H H') : AnyV K H' x os := by
  cases A with
  | no T h1 h2 => exact .no (T.mono s) h1 h2
  | seq h hn hx =>
    exact .seq (h.mono s) hn fun y hy => by
      obtain ⟨t, T⟩ := hx y hy
      exact ⟨t, T.mono s⟩
theorem AnyV.typ {K : PySem.W.Frag} {H : Hp} {x : V} {os : Option (List V)} (A : AnyV K H x os) : ∃ t, Typ K H x t ∧ ((t = .type "list" ∨ t = .type "tuple") ↔ os.isSome = true) := by
  cases A with
  | no T h1 h2 => exact ⟨_, T, fun z => z.elim (fun z => absurd z h1) fun z => absurd z h2, fun z => by cases z⟩
  | seq h hn hx =>
    obtain ⟨t, T, z⟩ := isSeq_of h
    exact ⟨t, T, fun _ => rfl, fun _ => z⟩
end Tm
namespace Tm
open PySem PySem.Spec PyProof.Rows L2
/-- a reading's rest, named -/
theorem via {P : VK → Prop} {Q : VK} (h : VK → Prop) (key : ∀ Q', h Q' → P Q') (a : h Q) : P Q := key Q a
end Tm

/-! Part 5: own classes as types; kinds and rules as data, and how they stand in the heap. -/
namespace Tm
open PySem PySem.Spec PyProof.Rows L2
/-! ### own classes in isinstance -/
def ownB (K : PySem.W.Frag) (C : Addr) : Bool :=
  He.eqO (PySem.W.findIn K (.ref C) "__class__") (some (some (.builtin "object.__class__"))) &&
  (He.eqO (PySem.W.specialIn K (.builtin "object.__class__") "__get__") (some (some (.builtin "getset_descriptor.__get__"))) &&
  (decide (PySem.W.takesIn K (.builtin "object.__class__") = some true) && (decide (PySem.W.mroIn K C (.type "object") = some true) &&
  (["int", "bool", "str", "list", "tuple"].all fun n => decide (PySem.W.kitOne K (.ref C) (.type n) = some false)))))
structure OwnC (K : PySem.W.Frag) (C : Addr) : Prop where
  ha : PySem.W.findIn K (.ref C) "__class__" = some (some (.builtin "object.__class__"))
  hn : PySem.W.specialIn K (.builtin "object.__class__") "__get__" = some (some (.builtin "getset_descriptor.__get__"))
  htk : PySem.W.takesIn K (.builtin "object.__class__") = some true
  hm : PySem.W.mroIn K C (.type "object") = some true
  no : ∀ n, n = "int" ∨ n = "bool" ∨ n = "str" ∨ n = "list" ∨ n = "tuple" → PySem.W.kitOne K (.ref C) (.type n) = some false
theorem ownB_ok {K : PySem.W.Frag} {C : Addr} (h : ownB K C = true) : OwnC K C := by
  unfold ownB at h
  simp only [Bool.and_eq_true, decide_eq_true_eq, List.all_cons, List.all_nil, Bool.and_true] at h
  obtain ⟨h1, h2, h3, h4, k1, k2, k3, k4, k5⟩ := h
  refine ⟨He.eqO_ok h1, He.eqO_ok h2, h3, h4, ?_⟩
  rintro n (rfl | rfl | rfl | rfl | rfl) <;> assumption
theorem typ_ins {K : PySem.W.Frag} {H : Hp} {a C dx : Addr} {fs : List (Str × V)} (o : OwnC K C) (cl : Cls K C) (h : H a = some (.ins C dx fs)) : Typ K H (.ref a) (.ref C) := by
  refine ⟨.base (.ins h cl o.ha o.hn o.htk o.hm), fun n hn => ?_⟩
  rw [o.no n hn]
  have z : kb (.ref C) n = false := by simp [kb]
  rw [z]
/-- of the built-in types none is below the own class D -/
def bltB (K : PySem.W.Frag) (D : Addr) : Bool := ["int", "bool", "str", "NoneType", "list", "tuple"].all fun n => decide (PySem.W.kitOne K (.type n) (.ref D) = some false)
def subB (K : PySem.W.Frag) (C D : Addr) (b : Bool) : Bool := decide (PySem.W.kitOne K (.ref C) (.ref D) = some b)
theorem subB_ok {K : PySem.W.Frag} {C D : Addr} {b : Bool} (h : subB K C D b = true) : PySem.W.kitOne K (.ref C) (.ref D) = some b := of_decide_eq_true h
/-! ### data -/
inductive Fm where
  | still | anew | lift
  deriving DecidableEq
/-- a kind: its form, its name, the number (days, left, by), the top (of a lift), how often -/
structure Kd where
  fm : Fm
  name : Str
  a : Int
  b : Int
  times : Option Int
  deriving DecidableEq
/-- a rule -/
structure Rl where
  length : Int
  rests : List Int
  cap : Option Int
  kinds : List Kd
def tv : Option Int → V
  | none => .non
  | some n => .int n
def Kd.cls (K : PySem.W.Frag) (k : Kd) : Addr := match k.fm with
  | .still => He.ga K "Still"
  | .anew => He.ga K "Anew"
  | .lift => He.ga K "Lift"
def Kd.flds (k : Kd) : List (Str × V) := match k.fm with
  | .still => [("name", .str k.name), ("days", .int k.a), ("times", tv k.times)]
  | .anew => [("name", .str k.name), ("left", .int k.a), ("times", tv k.times)]
  | .lift => [("name", .str k.name), ("by", .int k.a), ("top", .int k.b), ("times", tv k.times)]
def KindAt (K : PySem.W.Frag) (H : Hp) (p : Addr) (k : Kd) : Prop := ∃ dx, H p = some (.ins (k.cls K) dx k.flds)
theorem KindAt.mono {K : PySem.W.Frag} {H H' : Hp} {p : Addr} {k : Kd} (h : KindAt K H p k) (s : Same H H') : KindAt K H' p k := by
  obtain ⟨dx, e⟩ := h
  exact ⟨dx, s _ _ e⟩
theorem Paired.imp {α β : Type} {F G : α → β → Prop} (f : ∀ a b, F a b → G a b) : ∀ {l : List α} {m : List β}, Paired F l m → Paired G l m
  | _, _, .nil => .nil
  | _, _, .cons h t => .cons (f _ _ h) (Paired.imp f t)
structure RuleAt (K : PySem.W.Frag) (H : Hp) (p : Addr) (R : Rl) : Prop where
  ex : ∃ (dx tr tk tn : Addr) (ps : List Addr), H p = some (.ins (He.ga K "Rule") dx [("length", .int R.length), ("rests", .ref tr), ("cap", tv R.cap), ("kinds", .ref tk), ("names", .ref tn)]) ∧
    SqT K H tr (R.rests.map V.int) ∧ SqT K H tk (ps.map V.ref) ∧ SqT K H tn (R.kinds.map fun k => V.str k.name) ∧ Paired (KindAt K H) ps R.kinds
theorem RuleAt.mono {K : PySem.W.Frag} {H H' : Hp} {p : Addr} {R : Rl} (h : RuleAt K H p R) (s : Same H H') : RuleAt K H' p R := by
  obtain ⟨dx, tr, tk, tn, ps, h1, h2, h3, h4, h5⟩ := h.ex
  exact ⟨dx, tr, tk, tn, ps, s _ _ h1, same_sqT s h2, same_sqT s h3, same_sqT s h4, Paired.imp (fun _ _ z => z.mono s) h5⟩
/-! ### a dict comprehension over a list or a tuple -/
theorem putK_keys (kvs : List (Key × V)) (k : Key) (v : V) (h : (kvs.map (·.1)).Nodup) : ((putK kvs k v).map (·.1)).Nodup ∧ ∀ x, x ∈ (putK kvs k v).map (·.1) ↔ x = k ∨ x ∈ kvs.map (·.1) := by
  unfold putK
  split
  · rename_i hc
    have e : (kvs.map fun kv => if kv.1 = k then (kv.1, v) else kv).map (·.1) = kvs.map (·.1) := by
      rw [List.map_map]
      apply List.map_congr_left
      intro q _
      simp only [Function.comp]
      split <;> rfl
    rw [e]
    refine ⟨h, fun x => ⟨fun z => .inr z, fun z => z.elim (fun z => ?_) id⟩⟩
    rw [List.any_eq_true] at hc
    obtain ⟨q, hq, eq⟩ := hc
    rw [z, ← of_decide_eq_true eq]
    exact List.mem_map_of_mem hq
  · rename_i hc
    rw [List.map_append]
    have hk : k ∉ kvs.map (·.1) := fun z => by
      apply hc
      obtain ⟨q, hq, eq⟩ := List.mem_map.mp z
      exact List.any_eq_true.mpr ⟨q, hq, decide_eq_true eq⟩
    refine ⟨List.nodup_append.mpr ⟨h, by simp, fun a ha b hb => ?_⟩, fun x => ?_⟩
    · simp only [List.map_cons, List.map_nil, List.mem_singleton] at hb
      subst hb
      exact fun e => hk (e ▸ ha)
    · simp only [List.map_cons, List.map_nil, List.mem_append, List.mem_singleton]
      exact ⟨fun z => z.elim .inr .inl, fun z => z.elim .inr .inl⟩
theorem mergeK_keys : ∀ (ps : List (Key × V)) (acc : List (Key × V)), (acc.map (·.1)).Nodup →
    ((mergeK acc ps).map (·.1)).Nodup ∧ ∀ x, x ∈ (mergeK acc ps).map (·.1) ↔ x ∈ acc.map (·.1) ∨ x ∈ ps.map (·.1)
  | [], acc, h => ⟨h, fun x => by simp [mergeK]⟩
  | y :: ps, acc, h => by
    obtain ⟨h1, h2⟩ := putK_keys acc y.1 y.2 h
    obtain ⟨h3, h4⟩ := mergeK_keys ps _ h1
    refine ⟨h3, fun x => ?_⟩
    show x ∈ (mergeK (putK acc y.1 y.2) ps).map (·.1) ↔ _
    rw [h4 x, h2 x, List.map_cons, List.mem_cons]
    constructor
    · rintro ((z | z) | z)
      · exact .inr (.inl z)
      · exact .inl z
      · exact .inr (.inr z)
    · rintro (z | z | z)
      · exact .inl (.inr z)
      · exact .inl (.inl z)
      · exact .inr z
theorem mergeK_len (ps : List (Key × V)) : (mergeK [] ps).length = ps.length ↔ (ps.map (·.1)).Nodup := by
  obtain ⟨h1, h2⟩ := mergeK_keys ps [] List.nodup_nil
  have z := nodup_iff (ns := ps.map (·.1)) h1 fun x => by
    rw [h2 x]
    simp
  rw [List.length_map, List.length_map] at z
  exact z
theorem putK_le (kvs : List (Key × V)) (k : Key) (v : V) : (putK kvs k v).length ≤ kvs.length + 1 := by
  unfold putK
  split <;> simp
theorem mergeK_le : ∀ (ps : List (Key × V)) (acc : List (Key × V)), (mergeK acc ps).length ≤ acc.length + ps.length
  | [], acc => by simp [mergeK]
  | y :: ps, acc => by
    have h1 := mergeK_le ps (putK acc y.1 y.2)
    have h2 := putK_le acc y.1 y.2
    show (mergeK (putK acc y.1 y.2) ps).length ≤ _
    simp only [List.length_cons]
    omega
section
variable {K : PySem.W.Frag} {a D : Addr} {xs : List V} {g : TG} {te tu tl : TE} {vs : List Nat} {σ : L2.St} {H : Hp} {Q : VK} {ps : List (Key × V)}
def DcInv (H : Hp) (D : Addr) (ps : List (Key × V)) (i : Nat) (H' : Hp) : Prop := Same H H' ∧ H' D = some (.dK (mergeK [] (ps.take i)))
theorem dc_P (hl : ∀ R : VK, R (.ref a) H → tl σ H R) (hS : Sq K H a xs) (hn : xs.length < sizeLine) (hp : ps.length = xs.length)
    (ht : ∀ (i : Nat) (x : V) (q : Key × V), xs[i]? = some x → ps[i]? = some q → ∀ H1, Same H H1 → ∀ R : V → V → Hp → Prop, (∀ H2, Same H1 H2 → R (kV q.1) q.2 H2) →
      g x (wipe σ vs) H1 fun σ2 H2 => wipe σ2 vs = wipe σ vs ∧ te σ2 H2 fun y H3 => tu σ2 H3 fun z H4 => R y z H4)
    (hd : ∀ D H', H D = none → Same H H' → H' D = some (.dK (mergeK [] ps)) → Q (.ref D) H') (hg : ∀ x τ H1 R R', (∀ τ' H', R τ' H' → R' τ' H') → g x τ H1 R → g x τ H1 R') : tDc (iSeq K tl) g tYes te tu vs σ H Q := by
  have start : ∀ D, H D = none → DcInv H D ps 0 (upd H D (.dK [])) := fun D hD => ⟨same_new hD, by rw [upd_same]; rfl⟩
  have turn : ∀ D, H D = none → ∀ i x H', xs[i]? = some x → DcInv H D ps i H' → g x (wipe σ vs) H' fun σ2 H2 => wipe σ2 vs = wipe σ vs ∧ tYes σ2 H2 fun b H3 =>
      if b = true then te σ2 H3 fun y H4 => tu σ2 H4 fun z H5 => ∃ kvs k, y = kV k ∧ H5 D = some (.dK kvs) ∧ kvs.length < sizeLine ∧ DcInv H D ps (i + 1) (upd H5 D (.dK (putK kvs k z))) else DcInv H D ps (i + 1) H3 := by
    intro D hD i x H' hx ⟨p1, p2⟩
    have hi : i < ps.length := by
      rw [hp]
      exact (List.getElem?_eq_some_iff.mp hx).1
    have ey : ps[i]? = some ps[i] := List.getElem?_eq_getElem hi
    refine hg _ _ _ _ _ (fun τ' H' z => ⟨z.1, z.2⟩) (ht i x _ hx ey H' p1 (fun y z H5 => ∃ kvs k, y = kV k ∧ H5 D = some (.dK kvs) ∧ kvs.length < sizeLine ∧ DcInv H D ps (i + 1) (upd H5 D (.dK (putK kvs k z)))) fun H5 s5 => ?_)
    refine ⟨_, ps[i].1, rfl, s5 _ _ p2, ?_, fun c o e => ?_, ?_⟩
    · have := mergeK_le (ps.take i) []
      have e : (ps.take i).length ≤ xs.length := by
        rw [List.length_take, hp]
        exact Nat.min_le_right _ _
      simp only [List.length_nil, Nat.zero_add] at this
      exact Nat.lt_of_le_of_lt (Nat.le_trans this e) hn
    · rw [upd_ne (ne_of_none e hD)]
      exact s5 _ _ (p1 _ _ e)
    · rw [upd_same, List.take_add_one, ey]
      unfold mergeK
      rw [List.foldl_append]
      rfl
  have whole : ∀ D H', DcInv H D ps xs.length H' → H' D = some (.dK (mergeK [] ps)) := fun D H' p => by
    have := p.2
    rwa [← hp, List.take_length] at this
  refine hl _ ⟨a, xs, rfl, hS, fun h D hD => ?_, fun h D hD => ?_⟩
  · refine ⟨fun i m H' => m = xs.length - i ∧ i ≤ xs.length ∧ DcInv H D ps i H', ⟨xs.length, by simp, Nat.zero_le _, start D hD⟩, ?_⟩
    rintro i m H' ⟨rfl, hi, p⟩
    have q : SqL K H' a xs := p.1.seq h
    by_cases hlt : i < xs.length
    · refine .inr ⟨⟨xs, xs[i], q, by simp [hlt]⟩, DcInv H D ps (i + 1), fun H2 p' => ⟨xs.length - (i + 1), by omega, rfl, hlt, p'⟩, fun x H2 y => ?_⟩
      obtain ⟨e, y⟩ := y
      subst e
      exact turn D hD i x _ (y xs q) p
    · have e : i = xs.length := by omega
      subst e
      exact .inl ⟨⟨xs, q, Nat.le_refl _⟩, hd D H' hD p.1 (whole D H' p)⟩
  · exact dc_tup (DcInv H D ps) (start D hD) (fun i H' _ p => same_sqT p.1 h) (fun i x H' hx p => turn D hD i x H' hx p) fun H' p => hd D H' hD p.1 (whole D H' p)
end
theorem paired_at {α β : Type} {F : α → β → Prop} : ∀ {l : List α} {m : List β}, Paired F l m → ∀ x ∈ l, ∃ y ∈ m, F x y
  | _, _, .nil, x, h => nomatch h
  | _, _, .cons q t, x, h => by
    rcases List.mem_cons.mp h with rfl | h
    · exact ⟨_, List.mem_cons_self .., q⟩
    · obtain ⟨y, hy, f⟩ := paired_at t x h
      exact ⟨y, List.mem_cons_of_mem _ hy, f⟩
theorem paired_ix {α β : Type} {F : α → β → Prop} : ∀ {l : List α} {m : List β}, Paired F l m → ∀ {i : Nat} {x : α} {y : β}, l[i]? = some x → m[i]? = some y → F x y
  | _, _, .nil, i, x, y, h, _ => by simp at h
  | _, _, .cons q t, 0, x, y, h, h' => by
    simp at h h'
    subst h h'
    exact q
  | _, _, .cons q t, i + 1, x, y, h, h' => paired_ix t (i := i) (by simpa using h) (by simpa using h')
theorem paired_len {α β : Type} {F : α → β → Prop} : ∀ {l : List α} {m : List β}, Paired F l m → l.length = m.length
  | _, _, .nil => rfl
  | _, _, .cons _ t => by
    rw [List.length_cons, List.length_cons, paired_len t]
end Tm

/-! Part K: rules whose readings speak of the written part, the written part given by name. -/
namespace Tm
open PySem PySem.Spec PyProof.Rows L2
section
variable {X : Cx} (K : PySem.W.Frag)
theorem k_fld {e : Expr} {f : Str} {pos : Pos} {ta : TE} (he : PE X e ta) (hb : attributeBase e f X.env (eval e X.env) = eval e X.env) (hK : X.K = K := by rfl) : PE X (.Attribute e f pos) (tFld K ta f) := by
  subst hK; exact pe_fld he hb
theorem k_isi (hK : X.K = K := by rfl) : CallR X (.builtin "isinstance") (rIsi K) := by subst hK; exact call_isi
theorem k_isiT (hK : X.K = K := by rfl) : CallR X (.builtin "isinstance") (rIsiT K) := by subst hK; exact call_isiT
def rLn (K : PySem.W.Frag) : List V → Hp → VK → Prop := fun xs H Q => ∃ x n, xs = [x] ∧ LenV K x H n ∧ Q (.int n) H
theorem k_len (hK : X.K = K := by rfl) : CallR X (.builtin "len") (rLn K) := by subst hK; exact call_len
def rLenQ (K : PySem.W.Frag) : List V → Hp → VK → Prop := fun xs H Q => ∃ p ys, xs = [.ref p] ∧ Sq K H p ys ∧ Q (.int ys.length) H
theorem k_lenQ (hK : X.K = K := by rfl) : CallR X (.builtin "len") (rLenQ K) := by subst hK; exact call_len_seq
def rList (K : PySem.W.Frag) : List V → Hp → VK → Prop := fun xs H Q => ∃ p ys, xs = [.ref p] ∧ (SqL K H p ys ∨ SqT K H p ys) ∧ ∀ l, H l = none → Q (.ref l) (upd H l (.lst ys))
theorem k_list (hK : X.K = K := by rfl) : CallR X (.type "list") (rList K) := by subst hK; exact call_list_of
def rTuple (K : PySem.W.Frag) : List V → Hp → VK → Prop := fun xs H Q => ∃ p ys, xs = [.ref p] ∧ ((SqL K H p ys ∧ ∀ l, H l = none → Q (.ref l) (upd H l (.tup ys))) ∨ (SqT K H p ys ∧ Q (.ref p) H))
theorem k_tuple (hK : X.K = K := by rfl) : CallR X (.type "tuple") (rTuple K) := by subst hK; exact call_tuple_of
theorem k_all (hc : X.calm = true := by rfl) (hK : X.K = K := by rfl) : CallR X (.builtin "all") (rAll K) := by subst hK; exact cr_all hc
theorem k_any (hc : X.calm = true := by rfl) (hK : X.K = K := by rfl) : CallR X (.builtin "any") (rAny K) := by subst hK; exact cr_any hc
theorem k_sum (hc : X.calm = true := by rfl) (hK : X.K = K := by rfl) : CallR X (.builtin "sum") (rSum K) := by subst hK; exact cr_sum hc
theorem k_max (hc : X.calm = true := by rfl) (hK : X.K = K := by rfl) : CallR X (.builtin "max") (rMax K) := by subst hK; exact cr_max hc
theorem k_min (hc : X.calm = true := by rfl) (hK : X.K = K := by rfl) : CallR X (.builtin "min") (rMin K) := by subst hK; exact cr_min hc
theorem k_sorted (hK : X.K = K := by rfl) : CallR X (.builtin "sorted") (rSortedI K) := by subst hK; exact cr_sortedI
theorem k_sortedS (hK : X.K = K := by rfl) : CallR X (.builtin "sorted") (rSortedS K) := by subst hK; exact cr_sortedS
theorem k_ixL (hK : X.K = K := by rfl) : IxR X (rIxL K) := by subst hK; exact ix_list
theorem k_ixT (hK : X.K = K := by rfl) : IxR X (rIxT K) := by subst hK; exact ix_tup
theorem k_ix (hK : X.K = K := by rfl) : IxR X (rIx K) := by subst hK; exact ix_seq
theorem k_slL (hK : X.K = K := by rfl) : SlR X (rSlL K) := by subst hK; exact sl_list
theorem k_slT (hK : X.K = K := by rfl) : SlR X (rSlT K) := by subst hK; exact sl_tup
theorem k_in (hK : X.K = K := by rfl) : OpR X (compareOp .In) (rIn K false) := by subst hK; exact op_in_seq
theorem k_notin (hK : X.K = K := by rfl) : OpR X (compareOp .NotIn) (rIn K true) := by subst hK; exact op_notIn_seq
theorem k_eqD (hu : X.A.units + 64 < cLine) (hK : X.K = K := by rfl) : OpR X (compareOp .Eq) (rEqD K) := by subst hK; exact op_eqD hu
theorem k_neD (hu : X.A.units + 64 < cLine) (hK : X.K = K := by rfl) : OpR X (compareOp .NotEq) (rNeD K) := by subst hK; exact op_neD hu
theorem k_piL {tg l : Expr} {tl : TE} (hl : PE X l tl) (hK : X.K = K := by rfl) : PI X tg l (iList K tl) := by subst hK; exact pi_list hl
theorem k_piT {tg l : Expr} {tl : TE} (hl : PE X l tl) (hK : X.K = K := by rfl) : PI X tg l (iTup K tl) := by subst hK; exact pi_tup hl
theorem k_piQ {tg l : Expr} {tl : TE} (hl : PE X l tl) (hK : X.K = K := by rfl) : PI X tg l (iSeq K tl) := by subst hK; exact pi_seq hl
theorem k_bm0 {T : String} {name : Str} {id : String} {o : Expr} {to : TE} {r : V → List V → Hp → VK → Prop} {apos cpos : Pos} (pa : PlainAttrs T) (slot : Slot T name id) (hty : typeOf (.builtin id) = pure (.type "method_descriptor")) (hm : MtR X id r) (ho : PE X o to)
    (hbase : attributeBase o name X.env (eval o X.env) = eval o X.env := by rfl) (hline : (apos.endLine == cpos.line) = true := by rfl) (hK : X.K = K := by rfl) : PE X (.Call (.Attribute o name apos) [] [] cpos) (tBM0 K T r to) := by
  subst hK; exact pe_bm0 pa slot hty hm ho hbase hline
theorem k_bm {T : String} {name : Str} {id : String} {o e : Expr} {es : List Expr} {to : TE} {t : TA} {r : V → List V → Hp → VK → Prop} {apos cpos : Pos} (pa : PlainAttrs T) (slot : Slot T name id) (hty : typeOf (.builtin id) = pure (.type "method_descriptor")) (hm : MtR X id r)
    (ho : PE X o to) (ha : PA X (e :: es) t) (hbase : attributeBase o name X.env (eval o X.env) = eval o X.env := by rfl)
    (hfew : ((backTo cpos (starEach (e :: es) X.env)).all (fun x => !x.1) && (backToKw cpos (keywordEach [] X.env)).all (fun x => x.1.isSome)
      && decide ((e :: es).length + ([] : List Keyword).length + (if ([] : List Keyword).isEmpty then 0 else 1) < 30)) = true := by rfl)
    (hline : (apos.endLine == cpos.line) = true := by rfl) (hs : starEach (e :: es) X.env = (false, eval e X.env) :: starEach es X.env := by rfl) (hplain : (backTo cpos (starEach es X.env)).any (·.1) = false := by rfl)
    (hK : X.K = K := by rfl) : PE X (.Call (.Attribute o name apos) (e :: es) [] cpos) (tBM K T r to t) := by
  subst hK; exact pe_bm pa slot hty hm ho ha hbase hfew hline hs hplain
theorem k_star {e : Expr} {es : List Expr} {p : Pos} {te : TE} {t : TA} (he : PE X e te) (hr : PA X es t) (hs : starEach (.Starred e p :: es) X.env = (true, eval e X.env) :: starEach es X.env := by rfl) (hK : X.K = K := by rfl) :
    PA X (.Starred e p :: es) (StX.tStar K te t) := by
  subst hK; exact StX.pa_star he hr hs
def tTruth (K : PySem.W.Frag) (ta : TE) : TT := fun σ H Q => ta σ H fun x H' => ∃ k, TruV K x H' k ∧ Q k H'
theorem k_truth {a : Expr} {ta : TE} (ha : PE X a ta) (he : ∀ whole, isTrue a X.env whole = (do let v ← whole; standAt a.pos; holding [v] (truthy v)) := by intro _; rfl) (hK : X.K = K := by rfl) : PT X a (tTruth K ta) := by
  subst hK; exact pt_truth ha he
theorem k_enum {e : Expr} {ta : TA} {p pos tpos : Pos} {elts : List Expr} {kk : Nat} (hm : X.mg "enumerate" = none) (ha : PA X [e] ta) (hg : Gl X "enumerate" := by rfl) (hs : starEach [e] X.env = [(false, eval e X.env)] := by rfl) (hK : X.K = K := by rfl) :
    PI X (.Tuple elts kk tpos) (.Call (.Name "enumerate" p) [e] [] pos) (iEnum K ta) := by
  subst hK; exact pi_enum hg hm ha hs
def rJoin (K : PySem.W.Frag) : V → List V → Hp → VK → Prop := fun x xs H Q => ∃ a p, ∃ ys : List Str, x = .str a ∧ xs = [.ref p] ∧ (SqL K H p (ys.map V.str) ∨ SqT K H p (ys.map V.str)) ∧ (ys.map (·.length)).sum + ys.length * a.length ≤ 16777216 ∧ Q (.str (Txt.join a ys)) H
theorem k_join {o e : Expr} {to te : TE} {apos pos : Pos} (ho : PE X o to) (he : PE X e te) (hs : starEach [e] X.env = [(false, eval e X.env)] := by rfl) (hbase : attributeBase o "join" X.env (eval o X.env) = eval o X.env := by rfl)
    (hline : (apos.endLine == pos.line) = true := by rfl) (hK : X.K = K := by rfl) : PE X (.Call (.Attribute o "join" apos) [e] [] pos) (tM1 (rJoin K) to te) := by
  subst hK; exact pe_join ho he hs hbase hline
end
end Tm

/-! Mathematics: the first working day. -/
namespace Tm
/-- how many days a day is put off, at most n -/
def gapN (rs : List Int) (d : Int) : Nat → Nat
  | 0 => 0
  | n + 1 => if d % 7 ∈ rs then 1 + gapN rs (d + 1) n else 0
def gap (rs : List Int) (d : Int) : Nat := gapN rs d 7
def workD (rs : List Int) (d : Int) : Int := d + (gap rs d : Int)
theorem gapN_le (rs : List Int) : ∀ (n : Nat) (d : Int), gapN rs d n ≤ n
  | 0, _ => Nat.le_refl _
  | n + 1, d => by
    unfold gapN
    split
    · have := gapN_le rs n (d + 1)
      omega
    · omega
theorem gapN_in (rs : List Int) : ∀ (n : Nat) (d : Int) (j : Nat), j < gapN rs d n → (d + (j : Int)) % 7 ∈ rs
  | 0, d, j, h => by
    unfold gapN at h
    omega
  | n + 1, d, j, h => by
    unfold gapN at h
    split at h
    · rename_i hm
      cases j with
      | zero => simpa using hm
      | succ j =>
        have := gapN_in rs n (d + 1) j (by omega)
        have e : d + ((j + 1 : Nat) : Int) = d + 1 + (j : Int) := by omega
        rw [e]
        exact this
    · omega
theorem gapN_at (rs : List Int) : ∀ (n : Nat) (d : Int), gapN rs d n < n → (d + (gapN rs d n : Int)) % 7 ∉ rs
  | 0, d, h => by omega
  | n + 1, d, h => by
    unfold gapN at h ⊢
    split
    · rename_i hm
      rw [if_pos hm] at h
      have := gapN_at rs n (d + 1) (by omega)
      have e : d + ((1 + gapN rs (d + 1) n : Nat) : Int) = d + 1 + (gapN rs (d + 1) n : Int) := by omega
      rw [e]
      exact this
    · rename_i hm
      simpa using hm
theorem week_nodup (d : Int) : ((List.range 7).map fun (j : Nat) => (d + (j : Int)) % 7).Nodup := by
  unfold List.Nodup
  rw [List.pairwise_map]
  refine List.Pairwise.imp_of_mem ?_ (List.nodup_range (n := 7))
  intro a b ha hb hne
  simp only [List.mem_range] at ha hb
  omega
theorem gap_lt {rs : List Int} (h : rs.length ≤ 6) (d : Int) : gap rs d < 7 := by
  rcases Nat.lt_or_ge (gap rs d) 7 with z | z
  · exact z
  · exfalso
    have e : gapN rs d 7 = 7 := Nat.le_antisymm (gapN_le rs 7 d) z
    have : ((List.range 7).map fun (j : Nat) => (d + (j : Int)) % 7).length ≤ rs.length := nodup_le (week_nodup d) fun x hx => by
      obtain ⟨j, hj, rfl⟩ := List.mem_map.mp hx
      exact gapN_in rs 7 d j (by rw [e]; exact List.mem_range.mp hj)
    simp only [List.length_map, List.length_range] at this
    omega
theorem gap_in {rs : List Int} {d : Int} {j : Nat} (h : j < gap rs d) : (d + (j : Int)) % 7 ∈ rs := gapN_in rs 7 d j h
theorem gap_at {rs : List Int} (h : rs.length ≤ 6) (d : Int) : (d + (gap rs d : Int)) % 7 ∉ rs := gapN_at rs 7 d (gap_lt h d)
/-- the first working day is told by two facts -/
theorem gap_uniq {rs : List Int} (h : rs.length ≤ 6) {d : Int} {m : Nat} (h1 : ∀ j : Nat, j < m → (d + (j : Int)) % 7 ∈ rs) (h2 : (d + (m : Int)) % 7 ∉ rs) : m = gap rs d := by
  rcases Nat.lt_trichotomy m (gap rs d) with z | z | z
  · exact absurd (gap_in z) h2
  · exact z
  · exact absurd (h1 _ z) (gap_at h d)
theorem work_ge (rs : List Int) (d : Int) : d ≤ workD rs d := by
  unfold workD
  omega
theorem work_week {rs : List Int} (h : rs.length ≤ 6) (d : Int) (m : Int) : workD rs (d + 7 * m) = workD rs d + 7 * m := by
  have e : gap rs d = gap rs (d + 7 * m) := gap_uniq h (fun j hj => by
    have := gap_in hj
    have e : (d + 7 * m + (j : Int)) % 7 = (d + (j : Int)) % 7 := by omega
    rw [e]
    exact this) (by
    have := gap_at h d
    have e : (d + 7 * m + (gap rs d : Int)) % 7 = (d + (gap rs d : Int)) % 7 := by omega
    rw [e]
    exact this)
  unfold workD
  rw [← e]
  omega
theorem work_self {rs : List Int} {d : Int} (h : d % 7 ∉ rs) : workD rs d = d := by
  unfold workD gap gapN
  rw [if_neg h]
  simp
theorem work_idem {rs : List Int} (h : rs.length ≤ 6) (d : Int) : workD rs (workD rs d) = workD rs d := work_self (gap_at h d)
end Tm

/-! Part 6: a list beside an empty one; the stream of draws. -/
namespace Tm
open PySem PySem.Spec PyProof.Rows L2
/-- a plain value that can be compared -/
def layV : V → Bool
  | .non => true
  | .bl _ => true
  | .int _ => true
  | .str z => PyData.strOk z
  | _ => false
def datV : V → PyData
  | .bl b => .bool b
  | .int i => .int i
  | .str z => .str z
  | _ => .none
theorem dp_flat {K : PySem.W.Frag} {H : Hp} : ∀ {x : V}, layV x = true → Dp K H x (datV x)
  | .non, _ => .non
  | .bl b, _ => .bl b
  | .int i, _ => .int i
  | .str z, _ => .str z
theorem dpAll_flat {K : PySem.W.Frag} {H : Hp} : ∀ {xs : List V}, xs.all layV = true → DpAll K H xs (xs.map datV)
  | [], _ => .nil
  | x :: xs, h => by
    rw [List.all_cons, Bool.and_eq_true] at h
    exact .cons (dp_flat h.1) (dpAll_flat h.2)
theorem lay_flat : ∀ {xs : List V}, xs.all layV = true → PyData.canLayAll0 (xs.map datV) = true ∧ PyData.depthAll (xs.map datV) = 0
  | [], _ => ⟨rfl, rfl⟩
  | x :: xs, h => by
    rw [List.all_cons, Bool.and_eq_true] at h
    obtain ⟨h1, h2⟩ := lay_flat h.2
    have z : PyData.canLay0 (datV x) = true ∧ PyData.depth (datV x) = 0 := by
      cases x with
      | non => exact ⟨by simp [datV, PyData.canLay0], by simp [datV, PyData.depth]⟩
      | bl b => exact ⟨by simp [datV, PyData.canLay0], by simp [datV, PyData.depth]⟩
      | int i => exact ⟨by simp [datV, PyData.canLay0], by simp [datV, PyData.depth]⟩
      | str z => exact ⟨by simp only [datV, PyData.canLay0]; exact h.1, by simp [datV, PyData.depth]⟩
      | _ => exact absurd h.1 Bool.false_ne_true
    constructor
    · rw [List.map_cons]
      simp only [PyData.canLayAll0, z.1, h1, Bool.and_self]
    · rw [List.map_cons]
      simp only [PyData.depthAll, z.2, h2, Nat.max_self]
theorem shaped_flat {xs : List V} (h : xs.all layV = true) : SeqAt.shaped (.list (xs.map datV)) = true := by
  obtain ⟨h1, h2⟩ := lay_flat h
  unfold SeqAt.shaped
  simp only [PyData.canLay0, PyData.depth, h1, h2]
  decide
theorem eqv_nil (ds : List PyData) : PyData.eqv (.list ds) (.list []) = ds.isEmpty := by
  cases ds <;> simp [PyData.eqv, PyData.eqvAll]
/-- xs != [], the items plain -/
def rNeNil (K : PySem.W.Frag) : R2 := fun x y H Q => ∃ p q xs, x = .ref p ∧ y = .ref q ∧ SqL K H p xs ∧ xs.all layV = true ∧ H q = some (.lst []) ∧ Q (.bl (!xs.isEmpty)) H
theorem op_neNil {X : Cx} (K : PySem.W.Frag) (hu : X.A.units + 64 < cLine) (hK : X.K = K := by rfl) : OpR X (compareOp .NotEq) (rNeNil K) := by
  subst hK
  intro pins s σ H x y v u Q I rx ry h
  obtain ⟨p, q, xs, rfl, rfl, hp, hl, hq, k⟩ := h
  refine op_neD hu pins s σ H _ _ v u Q I rx ry ⟨_, _, .lst hp (dpAll_flat hl), .lst (.inl (.inl hq)) .nil, shaped_flat hl, by decide +kernel, ?_⟩
  rw [eqv_nil]
  cases xs <;> exact k
theorem lay_ints (ns : List Int) : (ns.map V.int).all layV = true := by
  rw [List.all_eq_true]
  intro y hy
  obtain ⟨i, _, rfl⟩ := List.mem_map.mp hy
  rfl
theorem k_rev {X : Cx} (K : PySem.W.Frag) {e : Expr} {te : TE} {k : Nat} {p1 p2 p3 pos : Pos} (he : PE X e te) (hK : X.K = K := by rfl) : PE X (.Subscript e (.Slice none none (some (.UnaryOp .USub (.Constant (.int 1) k p1) p2)) p3) pos) (tRevL K te) := by
  subst hK
  exact pe_revL he
theorem nil_or_snoc {α : Type} (l : List α) : l = [] ∨ ∃ L b, l = L ++ [b] := by
  rcases List.eq_nil_or_concat l with h | ⟨L, b, h⟩
  · exact .inl h
  · exact .inr ⟨L, b, by rw [h, List.concat_eq_append]⟩
section
variable {K : PySem.W.Frag}
/-- what stands at x may change, nothing else -/
theorem off_upd {H H' : Hp} {x : Addr} {o : HO} (h : Off x H H') : Off x H (upd H' x o) := fun b u hb e => by
  rw [upd_ne hb]
  exact h b u hb e
theorem off_same {H H1 H2 : Hp} {x : Addr} (h : Off x H H1) (s : Same H1 H2) : Off x H H2 := fun b u hb e => s _ _ (h b u hb e)
theorem off_trans {H H1 H2 : Hp} {x : Addr} (h : Off x H H1) (s : Off x H1 H2) : Off x H H2 := fun b u hb e => s b u hb (h b u hb e)
theorem sq_off {H H' : Hp} {a x : Addr} {xs : List V} {C dx : Addr} {fs : List (Str × V)} (hx : H x = some (.ins C dx fs)) (h : Sq K H a xs) (o : Off x H H') : Sq K H' a xs := by
  have ne : ∀ u, H a = some u → (∀ ys, u ≠ .ins C dx ys) → H' a = some u := fun u e hu => o a u (fun z => by subst z; rw [hx] at e; cases e; exact hu fs rfl) e
  rcases h with ((h | ⟨ob, h⟩) | h) | ((h | ⟨ob, h⟩) | h)
  · exact .inl (.inl (.inl (ne _ h fun _ z => by cases z)))
  · exact .inl (.inl (.inr ⟨ob, ne _ h fun _ z => by cases z⟩))
  · exact .inl (.inr h)
  · exact .inr (.inl (.inl (ne _ h fun _ z => by cases z)))
  · exact .inr (.inl (.inr ⟨ob, ne _ h fun _ z => by cases z⟩))
  · exact .inr (.inr h)
end
/-! ### the stream: a list of great numbers and a mixed one -/
def DealG (H : Hp) (d g : Addr) (gs : List Int) : Prop := ∃ m : Int, H d = some (.lst [.ref g, .int m]) ∧ H g = some (.lst (gs.map V.int)) ∧ gs.length ≤ 60 ∧ (∀ x ∈ gs, 0 ≤ x) ∧ 0 ≤ m
def Deal (H : Hp) (d g : Addr) : Prop := ∃ gs, DealG H d g gs
/-- what is apart from the stream -/
def Apart (d g b : Addr) : Prop := b ≠ d ∧ b ≠ g
/-- all but the stream stays -/
def But (d g : Addr) (H H' : Hp) : Prop := ∀ b o, Apart d g b → H b = some o → H' b = some o
theorem But.refl {d g : Addr} (H : Hp) : But d g H H := fun _ _ _ h => h
theorem But.trans {d g : Addr} {H H1 H2 : Hp} (a : But d g H H1) (b : But d g H1 H2) : But d g H H2 := fun c o n h => b c o n (a c o n h)
theorem But.same {d g : Addr} {H H1 : Hp} (s : Same H H1) : But d g H H1 := fun _ _ _ h => s _ _ h
theorem Deal.same {d g : Addr} {H H1 : Hp} (h : Deal H d g) (s : Same H H1) : Deal H1 d g := by
  obtain ⟨gs, m, h1, h2, h3⟩ := h
  exact ⟨gs, m, s _ _ h1, s _ _ h2, h3⟩
theorem DealG.ne {d g : Addr} {H : Hp} {gs : List Int} (h : DealG H d g gs) : d ≠ g := by
  obtain ⟨m, h1, h2, _⟩ := h
  refine ne_of h1 h2 ?_
  intro z
  injection z with z
  cases gs with
  | nil => cases z
  | cons a l => cases z
theorem Deal.new {d g p : Addr} {H : Hp} (h : Deal H d g) (hp : H p = none) : Apart d g p := by
  obtain ⟨gs, m, h1, h2, _⟩ := h
  exact ⟨(ne_of_none h1 hp).symm, (ne_of_none h2 hp).symm⟩
theorem Deal.apart {d g p : Addr} {H : Hp} {o : HO} (h : Deal H d g) (hp : H p = some o) (ho : ∀ xs, o ≠ .lst xs) : Apart d g p := by
  obtain ⟨gs, m, h1, h2, _⟩ := h
  exact ⟨ne_of hp h1 (ho _), ne_of hp h2 (ho _)⟩
/-- another object of ours changes -/
theorem Deal.put {d g p : Addr} {H : Hp} {o : HO} (h : Deal H d g) (a : Apart d g p) : Deal (upd H p o) d g := by
  obtain ⟨gs, m, h1, h2, h3⟩ := h
  exact ⟨gs, m, by rw [upd_ne a.1.symm]; exact h1, by rw [upd_ne a.2.symm]; exact h2, h3⟩
theorem but_new {d g p : Addr} {H H' : Hp} {o : HO} (b : But d g H H') (hp : H p = none) : But d g H (L2.upd H' p o) := fun c u n e => by
  rw [upd_ne (ne_of_none e hp)]
  exact b c u n e
theorem sqT_but {K : PySem.W.Frag} {d g a : Addr} {H H' : Hp} {xs : List V} (D : Deal H d g) (b : But d g H H') (h : SqT K H a xs) : SqT K H' a xs := by
  rcases h with (h | ⟨o, h⟩) | h
  · exact .inl (.inl (b _ _ (D.apart h fun _ z => by cases z) h))
  · exact .inl (.inr ⟨o, b _ _ (D.apart h fun _ z => by cases z) h⟩)
  · exact .inr h
theorem KindAt.but {K : PySem.W.Frag} {d g p : Addr} {H H' : Hp} {k : Kd} (D : Deal H d g) (b : But d g H H') (h : KindAt K H p k) : KindAt K H' p k := by
  obtain ⟨dx, e⟩ := h
  exact ⟨dx, b _ _ (D.apart e fun _ z => by cases z) e⟩
theorem RuleAt.but {K : PySem.W.Frag} {d g p : Addr} {H H' : Hp} {R : Rl} (D : Deal H d g) (b : But d g H H') (h : RuleAt K H p R) : RuleAt K H' p R := by
  obtain ⟨dx, tr, tk, tn, ps, h1, h2, h3, h4, h5⟩ := h.ex
  exact ⟨dx, tr, tk, tn, ps, b _ _ (D.apart h1 fun _ z => by cases z) h1, sqT_but D b h2, sqT_but D b h3, sqT_but D b h4, Paired.imp (fun _ _ z => z.but D b) h5⟩
end Tm

/-! Part 8: own __len__, __str__, __eq__ by the built-in functions and operators. -/
namespace Tm
open PySem PySem.Spec PyProof.Rows L2
section
variable {X : Cx} {CX : CXT} {k : Nat} {f : Addr} {sp : Sp} {E : XK} {pins : List (Addr × Obj)} {σ : L2.St} {H : Hp} {s : Shared} {Q : VK}
/-- a def called from within the machine, around A' -/
theorem own_call {A' : Around} {us : List Value} {vs : List V} (hfr : A'.frames = X.A.frames) (D : Dn X.prog X.w X.K X.mg X.base CX k f [] sp) (hr : Room k A') (hx : Passes CX X E) (I : Inv X pins σ H s) (r : Vals vs us) (h : sp vs H Q E) :
    wpAny (model X.prog X.w) A' (call (.ref f) us) (EP X pins σ Q) X.xe s := by
  obtain ⟨fd, ps, ds, F, kp, rd, b⟩ := D.ex
  cases rd
  have e0 : Env0 X.prog X.w X.K X.mg X.base A' X.stack s H := by
    have e := I.env0
    exact ⟨by rw [hfr]; exact e.frames, e.mod, e.bs, e.bsz, e.funs, e.frf, e.hok, e.bare⟩
  have hl := F.len _ _ _ _ h
  have hb : BindsTo s fd ⟨us, []⟩ (ps.zip us) := by
    have := b s us I.kIn (by rw [List.append_nil, ← r.length]; exact hl)
    rwa [List.append_nil] at this
  refine wpAny_call (codeAny_mono (F.run A' X.stack s H ⟨us, []⟩ us vs Q E hr e0 hb r h) fun res s' hq => ?_)
  cases res with
  | error e => exact hx pins σ H s e s' I hq
  | ok fl =>
    cases fl with
    | ret u => exact I.after hq
    | next => exact False.elim hq
    | brk => exact False.elim hq
    | cont => exact False.elim hq
/-- an own special method of a class -/
structure Spm (K : PySem.W.Frag) (C : Addr) (m : Str) (f : Addr) : Prop where
  at_ : PySem.W.findIn K (.ref C) m = some (some (.ref f))
  fn : PySem.W.isFn K (.ref f) = true
theorem spm_of {K : PySem.W.Frag} {C f : Addr} {m : Str} (h : Meth K C m f) : Spm K C m f := ⟨h.at_, h.fn⟩
def rLenOwn (C : Addr) (sp : Sp) (E : XK) : List V → Hp → VK → Prop := fun xs H Q => ∃ a dx fs, xs = [.ref a] ∧ H a = some (.ins C dx fs) ∧ sp [.ref a] H (fun v H' => ∃ n : Int, v = .int n ∧ 0 ≤ n ∧ n < 2 ^ 63 ∧ Q (.int n) H') E
theorem call_lenOwn {C : Addr} (m : Spm X.K C "__len__" f) (D : Dn X.prog X.w X.K X.mg X.base CX k f [] sp) (hr : Room (k + 1) X.A) (hx : Passes CX X E) : CallR X (.builtin "len") (rLenOwn C sp E) := by
  intro pins s σ H xs us Q I r h
  obtain ⟨a, dx, fs, rfl, ha, q⟩ := h
  cases r with
  | cons r1 rr =>
    cases rr
    cases r1
    obtain ⟨mA, J, _⟩ := ins_get I.hok ha
    obtain ⟨od, J, _⟩ := J.look
    obtain ⟨mm, hF⟩ := I.fr
    refine PySem.W.len_K hF I.ok.mod.kin J m.at_ m.fn (wpAny_mono (own_call (A' := X.A.in1) rfl D hr.in1 hx I (vs := [.ref a]) (.cons (show RelV (.ref a) (Value.ref a) from rfl) .nil) q) (fun u s' z => ?_) fun _ _ y => y)
    obtain ⟨v, H', I', rv, n, rfl, n0, n1, q'⟩ := z
    obtain ⟨t, rfl⟩ := rv
    exact ⟨⟨n0, n1⟩, .int n, H', I'.tok _, ⟨_, rfl⟩, q'⟩
def rStrOwn (C : Addr) (sp : Sp) (E : XK) : List V → Hp → VK → Prop := fun xs H Q => ∃ a dx fs, xs = [.ref a] ∧ H a = some (.ins C dx fs) ∧ sp [.ref a] H (fun v H' => ∃ z : Str, v = .str z ∧ Q (.str z) H') E
theorem call_strOwn {C : Addr} (m : Spm X.K C "__str__" f) (D : Dn X.prog X.w X.K X.mg X.base CX k f [] sp) (hr : Room (k + 2) X.A) (hx : Passes CX X E) : CallR X (.type "str") (rStrOwn C sp E) := by
  intro pins s σ H xs us Q I r h
  obtain ⟨a, dx, fs, rfl, ha, q⟩ := h
  cases r with
  | cons r1 rr =>
    cases rr
    cases r1
    obtain ⟨mA, J, _⟩ := ins_get I.hok ha
    obtain ⟨od, J, _⟩ := J.look
    refine PySem.W.kso_call hr.in1.in1.units0 I.kIn J m.at_ m.fn (wpAny_mono (own_call (A' := X.A.in1.in1) rfl D hr.in1.in1 hx I (vs := [.ref a]) (.cons (show RelV (.ref a) (Value.ref a) from rfl) .nil) q) (fun u s' z => ?_) fun _ _ y => y)
    obtain ⟨v, H', I', rv, z, rfl, q'⟩ := z
    obtain ⟨t, rfl⟩ := rv
    exact ⟨.str z, H', I', ⟨_, rfl⟩, q'⟩
/-- x == y by x's own __eq__ that tells a bool; y of the type t, which does not come first -/
def rEqOwn (K : PySem.W.Frag) (C : Addr) (sp : Sp) (E : XK) (neg : Bool) : R2 := fun x y H Q => ∃ a dx fs t, x = .ref a ∧ H a = some (.ins C dx fs) ∧ TyX K H y t ∧ PySem.W.notFirst K C t = true ∧
  sp [x, y] H (fun v H' => ∃ b : Bool, v = .bl b ∧ Q (.bl (if neg then !b else b)) H') E
theorem looks_ty {x : V} {u t : Value} (I : Inv X pins σ H s) (rx : RelV x u) (ty : TyX X.K H x t) : PySem.W.Looks (model X.prog X.w) s.heap (typeOf u) t := by
  obtain ⟨P, Z, p, _⟩ := kit_of I rx ty
  exact Z.ty _ _ I.kIn p
theorem op_eqOwn {C : Addr} (K : PySem.W.Frag) (m : Spm X.K C "__eq__" f) (D : Dn X.prog X.w X.K X.mg X.base CX k f [] sp) (hr : Room k X.A) (hx : Passes CX X E) (hK : X.K = K := by rfl) : OpR X (compareOp .Eq) (rEqOwn K C sp E false) := by
  subst hK
  intro pins s σ H x y v u Q I rx ry h
  obtain ⟨a, dx, fs, t, rfl, ha, ty, nf, q⟩ := h
  cases rx
  obtain ⟨mA, J, _⟩ := ins_get I.hok ha
  obtain ⟨od, J, _⟩ := J.look
  obtain ⟨mm, hF⟩ := I.fr
  show wpAny (model X.prog X.w) X.A (richCompare .Eq (.ref a) u) (EP X pins σ Q) X.xe s
  refine PySem.W.cmp_K (op := .Eq) hr.units0 hF I.ok.mod.kin J (looks_ty I ry ty) nf m.at_ m.fn (wpAny_mono (own_call (A' := X.A) rfl D hr hx I (vs := [.ref a, y]) (.cons (show RelV (.ref a) (Value.ref a) from rfl) (.cons ry .nil)) q) (fun w' s' z => ?_) fun _ _ e => e)
  obtain ⟨v', H', I', rv, b, rfl, q'⟩ := z
  cases rv
  exact ⟨.bl b, H', I', rfl, q'⟩
/-- object.__ne__ of an instance with its own __eq__ -/
theorem ne_entry {A : Around} {K : PySem.W.Frag} {x C : Addr} {ox : Obj} {od : Option Obj} {b : Value} {P : Fin → Shared → Prop} {E : Value → Shared → Prop} {P0 : Program} {w : World} (hu : A.units < cLine) (hK : K.In s.heap) (I : PySem.W.InstAt s.heap x ox C od) (m : Spm K C "__eq__" f)
    (hc : wpAny (model P0 w) A (call (.ref f) [.ref x, b]) (fun v s' => ∃ c, v = .bool c ∧ P (.done (.ret (.bool (!c)))) s') E s) : wpAny (model P0 w) A (Builtin.«object.__ne__» ⟨[.ref x, b], []⟩) P E s := by
  unfold Builtin.«object.__ne__»
  repeat (first
    | with_reducible refine wpAny_cRoomFor hu ?_
    | (refine wpAny_bind (m := callSpecialIfBound? (.ref x) (Str.ofString "__eq__") [b]) (PySem.W.ifBound_K hK I m.at_ m.fn (wpAny_mono hc (fun r s' hr => by
          obtain ⟨c, rfl, hq⟩ := hr
          repeat (first | exact hq | exact wpAny_pure hq | exact wpAny_truthy_bool hq | (refine wpAny_bind (m := truthy (.bool _)) (wpAny_truthy_bool ?_)) | wp_step)) fun _ _ e => e)))
    | wp_step)
/-- what a class that has its own __eq__ says of __ne__ -/
structure NeC (K : PySem.W.Frag) (C : Addr) : Prop where
  ne : PySem.W.findIn K (.ref C) "__ne__" = some (some (.builtin "object.__ne__"))
  ob : PySem.W.mroIn K C (.type "object") = some true
theorem ne_try {A : Around} {K : PySem.W.Frag} {x C : Addr} {ox : Obj} {od : Option Obj} {b : Value} {P : Option Value → Shared → Prop} {E : Value → Shared → Prop} {P0 : Program} {w : World} (hu : A.units + 1 < cLine) (hK : K.In s.heap) (I : PySem.W.InstAt s.heap x ox C od) (m : Spm K C "__eq__" f)
    (N : NeC K C) (hc : wpAny (model P0 w) A.in1 (call (.ref f) [.ref x, b]) (fun v s' => ∃ c, v = .bool c ∧ P (some (.bool (!c))) s') E s) : wpAny (model P0 w) A (tryCompare (.ref x) "__ne__" b) P E s := by
  have S := PySem.F.cmp_object.ne
  have sub : PySem.W.Looks (model P0 w) s.heap (isInstance (.ref x) (.type "object")) true := I.type.andThen (PySem.W.looks_mroIn hK N.ob)
  have callNe : ∀ {P' : Value → Shared → Prop}, wpAny (model P0 w) A.in1 (call (.ref f) [.ref x, b]) (fun v s' => ∃ c, v = .bool c ∧ P' (.bool (!c)) s') E s → wpAny (model P0 w) A (call (.builtin "object.__ne__") [.ref x, b]) P' E s := fun {P'} h =>
    wpAny_call (codeAny_call_builtin S.plain PySem.F.cmpEntry_ne (PySem.W.check_slot PySem.F.cmpKind_ne PySem.F.cmpSplit_ne sub (PySem.F.cmpArgs_ne _ _) (ne_entry (A := A.in1) hu hK I m (wpAny_mono h (fun v s' z => by
      obtain ⟨c, rfl, q⟩ := z
      exact ⟨c, rfl, q⟩) fun _ _ e => e))))
  simp only [tryCompare, callSpecialIfBound?, bindSpecialIfBound?]
  refine wpAny_bind (wpAny_holding (wpAny_bind (wpAny_bind (wpAny_bind (I.type.here ((PySem.W.looks_findIn hK N.ne).here ?_))))))
  simp only [S.bind]
  refine wpAny_bind (wpAny_askSetting (wpAny_ite ?_))
  have fin : wpAny (model P0 w) A (call (.builtin "object.__ne__") ([.ref x] ++ [b]) >>= fun v => pure (some v)) (fun r s' => ∃ c, r = some (.bool c) ∧ P (some (.bool c)) s') E s :=
    wpAny_bind (callNe (wpAny_mono hc (fun v s' z => by
      obtain ⟨c, rfl, q⟩ := z
      exact ⟨c, rfl, wpAny_pure ⟨!c, rfl, q⟩⟩) fun _ _ e => e))
  split
  · refine wpAny_bind (wpAny_pure (wpAny_pure (wpAny_mono fin (fun r s' z => ?_) fun _ _ e => e)))
    obtain ⟨c, rfl, q⟩ := z
    exact wpAny_pure q
  · refine wpAny_tryCatch (wpAny_bind (wpAny_pure (wpAny_pure (wpAny_mono fin (fun r s' z => ?_) fun _ _ e => e))))
    obtain ⟨c, rfl, q⟩ := z
    exact wpAny_pure q
theorem op_neOwn {C : Addr} (K : PySem.W.Frag) (m : Spm X.K C "__eq__" f) (N : NeC X.K C) (D : Dn X.prog X.w X.K X.mg X.base CX k f [] sp) (hr : Room (k + 1) X.A) (hx : Passes CX X E) (hK : X.K = K := by rfl) : OpR X (compareOp .NotEq) (rEqOwn K C sp E true) := by
  subst hK
  intro pins s σ H x y v u Q I rx ry h
  obtain ⟨a, dx, fs, t, rfl, ha, ty, nf, q⟩ := h
  cases rx
  obtain ⟨mA, J, _⟩ := ins_get I.hok ha
  obtain ⟨od, J, _⟩ := J.look
  have hb := looks_ty I ry ty
  have one : wpAny (model X.prog X.w) X.A (tryCompare (.ref a) "__ne__" u) (fun r s' => ∃ v, r = some v ∧ EP X pins σ Q v s') X.xe s := by
    refine ne_try (by have := hr.un; omega) I.kIn J m N (wpAny_mono (own_call (A' := X.A.in1) rfl D hr.in1 hx I (vs := [.ref a, y]) (.cons (show RelV (.ref a) (Value.ref a) from rfl) (.cons ry .nil)) q) (fun w' s' z => ?_) fun _ _ e => e)
    obtain ⟨v', H', I', rv, b, rfl, q'⟩ := z
    cases rv
    exact ⟨b, rfl, _, rfl, .bl (!b), H', I', rfl, q'⟩
  show wpAny (model X.prog X.w) X.A (richCompare .NotEq (.ref a) u) (EP X pins σ Q) X.xe s
  unfold richCompare
  simp only [oneThing_ref, cmpInfo_NotEq]
  refine wpAny_holding (wpAny_bind (wpAny_cRoomFor hr.units0 ?_))
  refine wpAny_bind (J.type.here (wpAny_bind (hb.here ?_)))
  split
  · rename_i qn
    have e : PySem.W.subIn X.K t (.ref C) = some false := by
      rcases Bool.or_eq_true_iff.mp nf with e | e
      · rw [beq_iff_eq.mp e] at qn
        simp at qn
      · exact beq_iff_eq.mp e
    refine wpAny_bind ((PySem.W.looks_subIn I.kIn e).here ?_)
    simp only [Bool.false_eq_true, if_false]
    refine wpAny_bind (wpAny_mono one (fun r s' z => ?_) fun _ _ e => e)
    obtain ⟨v, rfl, hq⟩ := z
    exact wpAny_pure hq
  · refine wpAny_bind (wpAny_pure ?_)
    simp only [Bool.false_eq_true, if_false]
    refine wpAny_bind (wpAny_mono one (fun r s' z => ?_) fun _ _ e => e)
    obtain ⟨v, rfl, hq⟩ := z
    exact wpAny_pure hq
end
/-! ### what the head tests -/
def spmB (K : PySem.W.Frag) (C : Addr) (m : Str) (f : Addr) : Bool := He.eqO (PySem.W.findIn K (.ref C) m) (some (some (.ref f))) && PySem.W.isFn K (.ref f)
theorem spmB_ok {K : PySem.W.Frag} {C f : Addr} {m : Str} (h : spmB K C m f = true) : Spm K C m f := by
  obtain ⟨a, b⟩ := He.ba h
  exact ⟨He.eqO_ok a, b⟩
def neB (K : PySem.W.Frag) (C : Addr) : Bool := He.eqO (PySem.W.findIn K (.ref C) "__ne__") (some (some (.builtin "object.__ne__"))) && decide (PySem.W.mroIn K C (.type "object") = some true)
theorem neB_ok {K : PySem.W.Frag} {C : Addr} (h : neB K C = true) : NeC K C := by
  obtain ⟨a, b⟩ := He.ba h
  exact ⟨He.eqO_ok a, of_decide_eq_true b⟩
def nfB (K : PySem.W.Frag) (C : Addr) : Bool := ["int", "bool", "str", "NoneType", "list", "tuple"].all fun n => PySem.W.notFirst K C (.type n)
theorem nfB_ok {K : PySem.W.Frag} {C : Addr} {n : String} (h : nfB K C = true) (hn : n ∈ ["int", "bool", "str", "NoneType", "list", "tuple"]) : PySem.W.notFirst K C (.type n) = true := List.all_eq_true.mp h n hn
def cmB (K : PySem.W.Frag) (C : Addr) (m : Str) : Bool := He5.wrapB K C "classmethod" "classmethod.__get__" m && (PySem.W.fnIn K (He5.wf K C "classmethod" m) && (PySem.W.readsIn K C (.type "type") && He.eqO (PySem.W.specialIn K (.ref C) "__getattribute__") (some (some (.builtin "type.__getattribute__")))))
theorem cmB_met {K : PySem.W.Frag} {C : Addr} {m : Str} (h : cmB K C m = true) : ClX.CMet K C (.type "type") m (He.ma K C m) (He5.wf K C "classmethod" m) := by
  obtain ⟨a, b⟩ := He.ba h
  exact He5.cmet_of a (He.ba b).1
theorem cmB_read {K : PySem.W.Frag} {C : Addr} {m : Str} (h : cmB K C m = true) : ClX.CRead K C (.type "type") := by
  obtain ⟨a, b⟩ := He.ba h
  obtain ⟨b, c⟩ := He.ba b
  obtain ⟨c, d⟩ := He.ba c
  exact ⟨c, He.eqO_ok d⟩
theorem Dn.raw {P : Program} {w : World} {K : PySem.W.Frag} {mg : Str → Option Value} {base : Heap} {CX : CXT} {k : Nat} {f : Addr} {sp : Sp} (D : Dn P w K mg base CX k f [] sp) : FnR P w K mg base CX k f sp := by
  obtain ⟨fd, ps, ds, F, kp, r, b⟩ := D.ex
  refine FnR.imp (F.raw b r) fun vs H Q E h => ?_
  show sp (vs ++ []) H Q E
  rw [List.append_nil]
  exact h
theorem pe_cm {X : Cx} {CX : CXT} {k : Nat} {C : Addr} {sp : Sp} {E : XK} {m : Str} {pos apos : Pos} {e o : Expr} {es : List Expr} {ta : TE} {t : TA} {pl : Sem Bool} (he : PE X o ta) (cm : cmB X.K C m = true) (D : Dn X.prog X.w X.K X.mg X.base CX k (He5.wf X.K C "classmethod" m) [] sp) (hr : Room k X.A) (hx : Passes CX X E) (ha : PA X (e :: es) t)
    (hst : starEach (e :: es) X.env = (false, eval e X.env) :: starEach es X.env := by rfl) (hpl : (backTo pos (starEach es X.env)).any (·.1) = false := by rfl)
    (ht : eval (.Call (.Attribute o m apos) (e :: es) [] pos) X.env = (do
      let ov ← eval o X.env
      standAt apos.atName
      let (f, first) ← holding [ov] (getMethod ov m pl)
      callWith pos f first (backTo pos (starEach (e :: es) X.env)) (backToKw pos (keywordEach [] X.env))) := by rfl) :
    PE X (.Call (.Attribute o m apos) (e :: es) [] pos) (ClX.tCMeth C sp E ta t) :=
  ClX.pe_cmeth he (cmB_read cm) (cmB_met cm) D.raw hr hx ha hst hpl ht
/-! ### a dict of the top with text keys -/
def keysB (K : PySem.W.Frag) (a : Addr) (ks : List Str) : Bool := match K.lookup a with
  | some ⟨_, _, .dict es _, _⟩ => decide (es.toList.map (fun e => match e.key with | .str x _ => some x | _ => none) = ks.map some)
  | _ => false
theorem keys_find : ∀ {l : List DictEntry} {ks : List Str} {z : Str}, l.map (fun e => match e.key with | .str x _ => some x | _ => none) = ks.map some → z ∉ ks →
    l.find? (·.key.isStr z) = none ∧ l.any (·.refKey) = false
  | [], _, _, _, _ => ⟨rfl, rfl⟩
  | e :: l, [], z, h, _ => by cases h
  | e :: l, k :: ks, z, h, hz => by
    rw [List.map_cons, List.map_cons] at h
    obtain ⟨h1, h2⟩ := List.cons_eq_cons.mp h
    obtain ⟨i1, i2⟩ := keys_find h2 fun q => hz (List.mem_cons_of_mem _ q)
    have hk : ¬ z = k := fun q => hz (by rw [q]; exact List.mem_cons_self ..)
    cases ek : e.key with
    | str x t =>
      rw [ek] at h1
      have hx : x = k := Option.some.inj h1
      have a1 : e.key.isStr z = false := by
        rw [ek, hx]
        simp only [Value.isStr]
        first
          | exact beq_eq_false_iff_ne.mpr fun q => hk q.symm
          | exact beq_eq_false_iff_ne.mpr hk
          | exact decide_eq_false fun q => hk q.symm
      refine ⟨?_, ?_⟩
      · rw [List.find?_cons, a1]
        exact i1
      · rw [List.any_cons, i2, Bool.or_false]
        unfold DictEntry.refKey
        rw [ek]
    | _ =>
      rw [ek] at h1
      cases h1
theorem keysB_none {K : PySem.W.Frag} {a : Addr} {ks : List Str} (h : keysB K a ks = true) {z : Str} (hz : z ∉ ks) : PySem.W.nsIn K a z = some none := by
  unfold keysB at h
  unfold PySem.W.nsIn
  cases q : K.lookup a with
  | none =>
    rw [q] at h
    cases h
  | some o =>
    obtain ⟨oc, od, dt, osl⟩ := o
    rw [q] at h
    cases dt with
    | dict es n =>
      obtain ⟨i1, i2⟩ := keys_find (of_decide_eq_true h) hz
      simp only [i1, i2]
      rfl
    | _ => cases h

section
variable {X : Cx} {d : Addr}
def rInKd (K : PySem.W.Frag) (d : Addr) : R2 := fun x y H Q => ∃ (z : Str) (r : Option Value), x = .str z ∧ y = .ref d ∧ PySem.W.nsIn K d z = some r ∧ Q (.bl r.isSome) H
def rNotInKd (K : PySem.W.Frag) (d : Addr) : R2 := fun x y H Q => ∃ (z : Str) (r : Option Value), x = .str z ∧ y = .ref d ∧ PySem.W.nsIn K d z = some r ∧ Q (.bl (!r.isSome)) H
def rItemKd (K : PySem.W.Frag) (d : Addr) : R2 := fun x y H Q => ∃ (z : Str) (u0 : Value) (v0 : V), x = .ref d ∧ y = .str z ∧ PySem.W.nsIn K d z = some (some u0) ∧ RelV v0 u0 ∧ Q v0 H
theorem op_inKd (K : PySem.W.Frag) (D : ∃ es n, KDict X.K X.w d es n) (hK : X.K = K := by rfl) : OpR X (compareOp .In) (rInKd K d) := by
  subst hK
  obtain ⟨es, n, D⟩ := D
  exact op_in_kd D
theorem op_notInKd (K : PySem.W.Frag) (D : ∃ es n, KDict X.K X.w d es n) (hK : X.K = K := by rfl) : OpR X (compareOp .NotIn) (rNotInKd K d) := by
  subst hK
  obtain ⟨es, n, D⟩ := D
  exact op_notIn_kd D
end
end Tm

/-! Part 7: texts: a walk over signs, names, numbers told by words. -/
namespace Tm
open PySem PySem.Spec PyProof.Rows L2
theorem tLcS_eq {tl : TE} {g : TG} {tt : TT} {te : TE} {vs : List Nat} {σ : L2.St} {H : Hp} {Q : VK} : tLc (iStr tl) g tt te vs σ H Q = tl σ H fun v H1 => ∃ x, v = .str x ∧ lcRun g tt te vs σ Q (Its x) H1 := rfl
theorem lcs_M {z : Str} {g : TG} {te : TE} {vs : List Nat} {σ : L2.St} {H : Hp} {Q : VK} (f : Nat → V) (hn : z.length < sizeLine)
    (ht : ∀ c ∈ TL.tl z, ∀ H1, Same H H1 → ∀ R : V → Hp → Prop, (∀ H2, Same H1 H2 → R (f c) H2) → g (.str ⟨#[c]⟩) (wipe σ vs) H1 fun σ2 H2 => wipe σ2 vs = wipe σ vs ∧ te σ2 H2 R)
    (hd : ∀ D H', H D = none → Same H H' → H' D = some (.lst ((TL.tl z).map f)) → Q (.ref D) H') (hg : ∀ x τ H1 R R', (∀ τ' H', R τ' H' → R' τ' H') → g x τ H1 R → g x τ H1 R') : lcRun g tYes te vs σ Q (Its z) H := by
  intro D hD
  have sz : z.cps.size = (TL.tl z).length := by simp
  refine ⟨fun i m H' => m = (TL.tl z).length - i ∧ i ≤ (TL.tl z).length ∧ LpInv H D ((TL.tl z).map f) i H', ⟨_, rfl, Nat.zero_le _, same_new hD, by rw [upd_same]; rfl⟩, ?_⟩
  rintro i m H' ⟨rfl, hi, p1, p2⟩
  by_cases hlt : i < (TL.tl z).length
  · refine .inr ⟨(by show i < z.cps.size; omega), LpInv H D ((TL.tl z).map f) (i + 1), fun H2 p => ⟨_, by omega, rfl, hlt, p⟩, ?_⟩
    rintro x H2 ⟨rfl, c, hc, rfl⟩
    have hc' : (TL.tl z)[i]? = some c := by
      rw [Array.getElem?_toList]
      exact hc
    refine hg _ _ _ _ _ (fun τ' H' z => ⟨z.1, z.2⟩) (ht c (List.mem_of_getElem? hc') H2 p1 (fun y H4 => ∃ acc, H4 D = some (.lst acc) ∧ acc.length < sizeLine ∧ LpInv H D ((TL.tl z).map f) (i + 1) (upd H4 D (.lst (acc ++ [y])))) fun H5 s5 => ?_)
    refine ⟨_, s5 _ _ p2, ?_, fun b o e => ?_, ?_⟩
    · rw [List.length_take, List.length_map]
      rw [TL.len_tl] at hn
      omega
    · rw [upd_ne (ne_of_none e hD)]
      exact s5 _ _ (p1 _ _ e)
    · rw [upd_same, List.take_add_one, List.getElem?_map, hc']
      rfl
  · have e : i = (TL.tl z).length := by omega
    subst e
    refine .inl ⟨(by show z.cps.size ≤ _; omega), hd D H' hD p1 ?_⟩
    have q := p2
    rwa [List.take_of_length_le (by rw [List.length_map]; exact Nat.le_refl _)] at q
/-! ### names -/
def letterB (c : Nat) : Bool := decide (97 ≤ c) && decide (c ≤ 122)
def digitB (c : Nat) : Bool := decide (48 ≤ c) && decide (c ≤ 57)
theorem letters_tl : TL.tl ("abcdefghijklmnopqrstuvwxyz" : Str) = (List.range 26).map (97 + ·) := by decide +kernel
theorem signs_tl : TL.tl ("0123456789" : Str) = (List.range 10).map (48 + ·) := by decide +kernel
theorem letter_mem (c : Nat) : decide (c ∈ TL.tl ("abcdefghijklmnopqrstuvwxyz" : Str)) = letterB c := by
  rw [letters_tl]
  unfold letterB
  rw [← Bool.decide_and]
  congr 1
  rw [List.mem_map, eq_iff_iff]
  constructor
  · rintro ⟨a, ha, rfl⟩
    have := List.mem_range.mp ha
    omega
  · intro h
    exact ⟨c - 97, List.mem_range.mpr (by omega), by omega⟩
theorem sign_mem (c : Nat) : decide (c ∈ TL.tl ("0123456789" : Str)) = digitB c := by
  rw [signs_tl]
  unfold digitB
  rw [← Bool.decide_and]
  congr 1
  rw [List.mem_map, eq_iff_iff]
  constructor
  · rintro ⟨a, ha, rfl⟩
    have := List.mem_range.mp ha
    omega
  · intro h
    exact ⟨c - 48, List.mem_range.mpr (by omega), by omega⟩
def barred : List Str := ["any", "none", "anew", "lift", "term"]
def nameB (z : Str) : Bool := !decide (z ∈ barred) && (decide (1 ≤ z.length) && (decide (z.length ≤ 4) && (TL.tl z).all letterB))
theorem nameB_len {z : Str} (h : nameB z = true) : z.length ≤ 4 := by
  simp only [nameB, Bool.and_eq_true, decide_eq_true_eq] at h
  exact h.2.2.1
def nameV : V → Bool
  | .str z => nameB z
  | _ => false
theorem eqV_str (a b : Str) : eqV (.str a) (.str b) = decide (a = b) := by
  by_cases h : a = b
  · subst h
    simp [eqV]
  · rw [decide_eq_false h]
    show (a == b) = false
    exact beq_eq_false_iff_ne.mpr h
theorem inV_str (z : Str) : ∀ ns : List Str, inV (.str z) (ns.map V.str) = decide (z ∈ ns)
  | [] => rfl
  | n :: ns => by
    have ih := inV_str z ns
    unfold inV at ih ⊢
    rw [List.map_cons, List.any_cons, ih, eqV_str]
    by_cases h : n = z
    · simp [h]
    · have h' : ¬ z = n := fun e => h e.symm
      simp [h, h']
theorem lay_strs (ys : List Str) (h : ∀ y ∈ ys, PyData.strOk y = true) : (ys.map V.str).all layV = true := by
  rw [List.all_eq_true]
  intro y hy
  obtain ⟨i, hi, rfl⟩ := List.mem_map.mp hy
  exact h i hi
/-! ### numbers told by words -/
def numIn (z : Str) : Option Int :=
  if (decide (1 ≤ z.length) && decide (z.length ≤ 19)) = true then
    if (TL.tl z).all digitB = true then
      if (decide ((TL.tl z).head? = some 48) && decide (1 < z.length)) = true then none else some ((NumText.digitsVal (TL.tl z) : Nat) : Int)
    else none
  else none
theorem digits_all {l : List Nat} (h : l.all digitB = true) : NumText.AllDigits l := fun c hc => by
  have := List.all_eq_true.mp h c hc
  simp only [digitB, Bool.and_eq_true, decide_eq_true_eq] at this
  omega
theorem all_digits {l : List Nat} (h : NumText.AllDigits l) : l.all digitB = true := by
  rw [List.all_eq_true]
  intro c hc
  have := h c hc
  simp only [digitB, Bool.and_eq_true, decide_eq_true_eq]
  omega
/-- a number as a text -/
def numS (n : Int) : Str := Str.ofString (toString n)
theorem numL_head : ∀ n : Nat, 0 < n → (TL.numL n).head? ≠ some 48 := by
  intro n
  induction n using Nat.strongRecOn with
  | _ n ih =>
    intro hn
    by_cases h : n < 10
    · rw [TL.numL_lt h]
      simp
      omega
    · rw [TL.numL_step (by omega)]
      have z := ih (n / 10) (by omega) (by omega)
      cases e : TL.numL (n / 10) with
      | nil => exact absurd e (TL.numL_ne _)
      | cons a l =>
        rw [e] at z
        simpa using z
theorem tl_numS {n : Int} (h : 0 ≤ n) : TL.tl (numS n) = TL.numL n.toNat := by
  obtain ⟨m, rfl⟩ : ∃ m : Nat, n = (m : Int) := ⟨n.toNat, by omega⟩
  exact TL.tl_num m
theorem numS_len {n : Int} (h0 : 0 ≤ n) (h1 : n < 10 ^ 19) : (numS n).length ≤ 19 := by
  rw [TL.len_tl, tl_numS h0]
  exact TL.numL_len (by decide) (by omega)
theorem numIn_numS {n : Int} (h0 : 0 ≤ n) (h1 : n < 10 ^ 19) : numIn (numS n) = some n := by
  obtain ⟨m, rfl⟩ : ∃ m : Nat, n = (m : Int) := ⟨n.toNat, by omega⟩
  have hl := numS_len h0 h1
  have hp : 1 ≤ (numS (m : Int)).length := by
    rw [TL.len_tl, tl_numS h0]
    have := TL.numL_ne m
    cases e : TL.numL (m : Int).toNat with
    | nil => exact absurd e (TL.numL_ne _)
    | cons a l => simp
  unfold numIn
  rw [if_pos (by simp [hl, hp])]
  rw [if_pos (by rw [tl_numS h0]; exact all_digits (TL.numL_digits _))]
  rw [if_neg, tl_numS h0, TL.numL_val, Int.toNat_natCast]
  intro z
  rw [Bool.and_eq_true, decide_eq_true_eq, decide_eq_true_eq, tl_numS h0, Int.toNat_natCast] at z
  by_cases hm : 0 < m
  · exact numL_head m hm z.1
  · have e : m = 0 := by omega
    subst e
    have := z.2
    rw [TL.len_tl, tl_numS (by decide), Int.toNat_natCast, TL.numL_lt (by decide)] at this
    simp at this
theorem numS_inj {m n : Int} (hm : 0 ≤ m) (hn : 0 ≤ n) (h : numS m = numS n) : m = n := by
  have e := congrArg TL.tl h
  rw [tl_numS hm, tl_numS hn] at e
  have := TL.numL_inj e
  omega
theorem numS_free {n : Int} {s : Nat} (h0 : 0 ≤ n) (h : s < 48 ∨ 57 < s) : s ∉ TL.tl (numS n) := by
  rw [tl_numS h0]
  exact TL.numL_free h
/-- how often, as a text -/
def manyS : Option Int → Str
  | none => "any"
  | some n => numS n
/-- a text of a cap -/
def capS : Option Int → Str
  | none => "none"
  | some n => numS n
end Tm
namespace Tm
open PySem PySem.Spec PyProof.Rows L2
/-! ### the texts of kinds -/
structure KdOk (k : Kd) : Prop where
  nm : nameB k.name = true
  a0 : 1 ≤ k.a
  a1 : k.a < 10 ^ 19
  bl : k.fm = .lift → 1 ≤ k.b
  b1 : k.b < 10 ^ 19
  bn : k.fm ≠ .lift → k.b = 0
  t0 : ∀ c, k.times = some c → 1 ≤ c ∧ c < 10 ^ 19
def Fm.word : Fm → Str
  | .still => "still"
  | .anew => "anew"
  | .lift => "lift"
def kindWs (k : Kd) : List Str := [k.fm.word, k.name, numS k.a] ++ (if k.fm = .lift then [numS k.b] else []) ++ [manyS k.times]
def kindS (k : Kd) : Str := Txt.join " " (kindWs k)
theorem len_app (x y : Str) : (x ++ y).length = x.length + y.length := by
  rw [TL.len_tl, TL.tl_append, List.length_append, TL.len_tl, TL.len_tl]
theorem sp_tl : TL.tl (" " : Str) = [32] := by decide +kernel
theorem manyS_len {o : Option Int} (h : ∀ n, o = some n → 1 ≤ n ∧ n < 10 ^ 19) : (manyS o).length ≤ 19 := by
  cases o with
  | none => decide +kernel
  | some n => exact numS_len (by have := (h n rfl).1; omega) (h n rfl).2
/-- texts one behind the other -/
theorem joins_eq {x y : Str} (h : TL.tl x = TL.tl y) : x = y := TL.ext_tl h
theorem joinL_cons (S p q : List Nat) (r : List (List Nat)) : TL.joinL S (p :: q :: r) = p ++ (S ++ TL.joinL S (q :: r)) := rfl
theorem tl_kindS (k : Kd) : TL.tl (kindS k) = TL.joinL [32] ((kindWs k).map TL.tl) := by
  unfold kindS
  rw [TL.join_eq, TL.tl_join, sp_tl]
end Tm
namespace Tm
open PySem PySem.Spec PyProof.Rows L2
/-! ### texts that are cut -/
theorem spl_le {S : List Nat} : ∀ {l : List Nat} {k : Nat} {acc p : List Nat}, p ∈ TL.spl S k acc l → p.length ≤ acc.length + l.length
  | [], k, acc, p, h => by
    rw [TL.spl_nil, List.mem_singleton] at h
    rw [h]
    exact Nat.le_add_right _ _
  | c :: r, 0, acc, p, h => by
    by_cases hp : TL.pre S (c :: r) = true
    · rw [TL.spl_hit hp] at h
      rcases List.mem_cons.mp h with h | h
      · rw [h]
        exact Nat.le_add_right _ _
      · have := spl_le h
        simp only [List.length_nil, List.length_cons] at this ⊢
        omega
    · rw [TL.spl_miss (by simpa using hp)] at h
      have := spl_le h
      simp only [List.length_append, List.length_cons, List.length_nil] at this ⊢
      omega
  | c :: r, k + 1, acc, p, h => by
    have := spl_le (show p ∈ TL.spl S k acc r from h)
    simp only [List.length_cons]
    omega
theorem spl_ne {S : List Nat} : ∀ {l : List Nat} {k : Nat} {acc : List Nat}, TL.spl S k acc l ≠ []
  | [], k, acc => by
    rw [TL.spl_nil]
    simp
  | c :: r, 0, acc => by
    by_cases hp : TL.pre S (c :: r) = true
    · rw [TL.spl_hit hp]
      simp
    · rw [TL.spl_miss (by simpa using hp)]
      exact spl_ne
  | c :: r, k + 1, acc => spl_ne (l := r) (k := k)
theorem split_ne {x y : Str} (hy : TL.tl y ≠ []) (hk : y.cps.all (· < 256) = true) : Txt.split x y ≠ [] := fun z => by
  have e := TL.split_spl x y hy (TL.kind_ok hk)
  rw [z] at e
  exact spl_ne e.symm
theorem split_le {x y p : Str} (hy : TL.tl y ≠ []) (hk : y.cps.all (· < 256) = true) (hp : p ∈ Txt.split x y) : p.length ≤ x.length := by
  have e := TL.split_spl x y hy (TL.kind_ok hk)
  have m : TL.tl p ∈ TL.spl (TL.tl y) 0 [] (TL.tl x) := by
    rw [← e]
    exact List.mem_map_of_mem hp
  have := spl_le m
  simp only [List.length_nil, Nat.zero_add] at this
  rw [TL.len_tl, TL.len_tl]
  exact this
theorem sp_ne : TL.tl (" " : Str) ≠ [] := by decide +kernel
theorem sp_lo : (" " : Str).cps.all (· < 256) = true := by decide +kernel
/-! ### what the text of a kind tells -/
def timesIn (t : Str) : Option (Option Int) := if t = "any" then some none else (numIn t).map some
def formIn (f : Str) : Option Fm := if f = "still" then some .still else if f = "anew" then some .anew else if f = "lift" then some .lift else none
def Fm.size : Fm → Nat
  | .lift => 5
  | _ => 4
/-- the words as a kind: its form, name, numbers, times -/
def toldN (fm : Fm) (n : Str) : List (Option Int) → Option (Option Int) → Option Kd
  | [some a], some tm => some ⟨fm, n, a, 0, tm⟩
  | [some a, some b], some tm => some ⟨fm, n, a, b, tm⟩
  | _, _ => none
def toldM (fm : Fm) (n : Str) (ms : List Str) (t : Str) : Option Kd := if nameB n = true then toldN fm n (ms.map numIn) (timesIn t) else none
def toldK (ws : List Str) : Option Kd :=
  match formIn (ws.headD Str.empty) with
  | none => none
  | some fm => if ws.length = fm.size then toldM fm (ws.getD 1 Str.empty) (ws.drop 2).dropLast (ws.getLastD Str.empty) else none
def toldV (k : Kd) : List V := [.str k.fm.word, .str k.name, .int k.a] ++ (if k.fm = .lift then [.int k.b] else []) ++ [tv k.times]
theorem formIn_word {f : Str} {fm : Fm} (h : formIn f = some fm) : f = fm.word := by
  unfold formIn at h
  by_cases h1 : f = "still"
  · rw [if_pos h1] at h
    cases h
    exact h1
  rw [if_neg h1] at h
  by_cases h2 : f = "anew"
  · rw [if_pos h2] at h
    cases h
    exact h2
  rw [if_neg h2] at h
  by_cases h3 : f = "lift"
  · rw [if_pos h3] at h
    cases h
    exact h3
  rw [if_neg h3] at h
  cases h
theorem formIn_none {f : Str} (h : formIn f = none) : f ∉ (["still", "anew", "lift"] : List Str) := fun m => by
  rcases List.mem_cons.mp m with m | m
  · rw [m] at h
    exact absurd h (by decide +kernel)
  rcases List.mem_cons.mp m with m | m
  · rw [m] at h
    exact absurd h (by decide +kernel)
  rcases List.mem_cons.mp m with m | m
  · rw [m] at h
    exact absurd h (by decide +kernel)
  cases m
theorem inV_non : ∀ os : List (Option Int), inV .non (os.map tv) = os.any (fun o => decide (o = none))
  | [] => rfl
  | o :: os => by
    have ih := inV_non os
    unfold inV at ih ⊢
    rw [List.map_cons, List.any_cons, List.any_cons, ih]
    congr 1
    cases o <;> rfl
theorem flat_tvs (os : List (Option Int)) : (os.map tv).all flatV = true := by
  rw [List.all_eq_true]
  intro y hy
  obtain ⟨o, _, rfl⟩ := List.mem_map.mp hy
  cases o <;> rfl
/-- a kind's text, read -/
theorem word_free (f : Fm) : 32 ∉ TL.tl f.word := by
  cases f <;> decide +kernel
theorem name_free {z : Str} {s : Nat} (h : nameB z = true) (hs : s < 97 ∨ 122 < s) : s ∉ TL.tl z := fun m => by
  simp only [nameB, Bool.and_eq_true, decide_eq_true_eq] at h
  have := List.all_eq_true.mp h.2.2.2 s m
  simp only [letterB, Bool.and_eq_true, decide_eq_true_eq] at this
  omega
theorem many_free {o : Option Int} {s : Nat} (h : ∀ c, o = some c → 1 ≤ c ∧ c < 10 ^ 19) (hs : s < 48) : s ∉ TL.tl (manyS o) := by
  cases o with
  | none =>
    intro m
    have e : TL.tl (manyS none) = [97, 110, 121] := by decide +kernel
    rw [e] at m
    simp only [List.mem_cons, List.not_mem_nil, or_false] at m
    omega
  | some c => exact numS_free (by have := h c rfl; omega) (.inl hs)
theorem ws_free {k : Kd} (ok : KdOk k) {s : Nat} (hs : s < 48) : ∀ p ∈ kindWs k, s ∉ TL.tl p := by
  have hw : s ∉ TL.tl k.fm.word := by
    cases k.fm
    · have e : TL.tl Fm.still.word = [115, 116, 105, 108, 108] := by decide +kernel
      rw [e]
      simp only [List.mem_cons, List.not_mem_nil, or_false]
      omega
    · have e : TL.tl Fm.anew.word = [97, 110, 101, 119] := by decide +kernel
      rw [e]
      simp only [List.mem_cons, List.not_mem_nil, or_false]
      omega
    · have e : TL.tl Fm.lift.word = [108, 105, 102, 116] := by decide +kernel
      rw [e]
      simp only [List.mem_cons, List.not_mem_nil, or_false]
      omega
  intro p hp
  unfold kindWs at hp
  simp only [List.mem_append, List.mem_cons, List.not_mem_nil, or_false] at hp
  rcases hp with ((rfl | rfl | rfl) | hp) | rfl
  · exact hw
  · exact name_free ok.nm (.inl (by omega))
  · exact numS_free (by have := ok.a0; omega) (.inl hs)
  · by_cases hl : k.fm = .lift
    · rw [if_pos hl] at hp
      rw [List.mem_singleton.mp hp]
      exact numS_free (by have := ok.bl hl; omega) (.inl hs)
    · rw [if_neg hl] at hp
      cases hp
  · exact many_free ok.t0 hs
theorem split_kind {k : Kd} (ok : KdOk k) : Txt.split (kindS k) " " = kindWs k :=
  TL.split_join (s := 32) (S := []) sp_tl sp_lo (by unfold kindWs; simp) (ws_free ok (by decide))
theorem any_num {n : Int} (h : 0 ≤ n) : numS n ≠ ("any" : Str) := fun z => by
  have e := congrArg TL.tl z
  have q : (97 : Nat) ∈ TL.tl (numS n) := by
    rw [e]
    decide +kernel
  exact numS_free h (.inr (by decide)) q
theorem timesIn_many {o : Option Int} (h : ∀ c, o = some c → 1 ≤ c ∧ c < 10 ^ 19) : timesIn (manyS o) = some o := by
  cases o with
  | none => rfl
  | some c =>
    have hc := h c rfl
    unfold timesIn
    rw [show manyS (some c) = numS c from rfl, if_neg (any_num (by omega)), numIn_numS (by omega) hc.2]
    rfl
theorem formIn_of (f : Fm) : formIn f.word = some f := by cases f <;> decide +kernel
theorem toldK_ws {k : Kd} (ok : KdOk k) : toldK (kindWs k) = some k := by
  obtain ⟨fm, nm, a, b, tm⟩ := k
  have ha := numIn_numS (Int.le_trans (by decide) ok.a0) ok.a1
  have ht := timesIn_many ok.t0
  have hn := ok.nm
  have hb := ok.bn
  have hbl := ok.bl
  have hb1 := ok.b1
  dsimp only at ha ht hn hb hbl hb1
  cases fm with
  | still =>
    have e : b = 0 := hb (by decide)
    subst e
    simp [toldK, kindWs, formIn_of, Fm.size, toldM, toldN, hn, ha, ht]
  | anew =>
    have e : b = 0 := hb (by decide)
    subst e
    simp [toldK, kindWs, formIn_of, Fm.size, toldM, toldN, hn, ha, ht]
  | lift =>
    have hbb := numIn_numS (by have := hbl rfl; omega) hb1
    simp [toldK, kindWs, formIn_of, Fm.size, toldM, toldN, hn, ha, ht, hbb]
theorem told_kind {k : Kd} (ok : KdOk k) : toldK (Txt.split (kindS k) " ") = some k := by
  rw [split_kind ok, toldK_ws ok]
theorem kindS_inj {k j : Kd} (ok : KdOk k) (oj : KdOk j) (h : kindS k = kindS j) : k = j := by
  have a := told_kind ok
  rw [h, told_kind oj] at a
  exact (Option.some.inj a).symm
end Tm

/-! Part 9: drawn kinds. -/
namespace Tm
open PySem PySem.Spec PyProof.Rows L2
def namesA : List Str := ["talk", "owe", "plea", "a", "b", "zz", "x", "suit", "rest", "cap"]
theorem namesA_ok : ∀ n ∈ namesA, nameB n = true := by decide +kernel
theorem namesA_nodup : namesA.Nodup := by decide +kernel
theorem namesA_lay : (namesA.map V.str).all layV = true := by decide +kernel
/-- a kind as the laws tell it -/
def told5 (k : Kd) : List V := [.str k.fm.word, .str k.name, .int k.a, .int k.b, tv k.times]
/-- a drawn kind -/
structure KdIn (z : Str) (most : Int) (k : Kd) : Prop where
  nm : k.name = z
  a0 : 1 ≤ k.a
  a1 : k.a ≤ most
  b0 : k.fm = .lift → 1 ≤ k.b
  b1 : k.b ≤ most
  bn : k.fm ≠ .lift → k.b = 0
  t0 : ∀ c, k.times = some c → 1 ≤ c ∧ c ≤ 3
theorem KdIn.ok {z : Str} {most : Int} {k : Kd} (h : KdIn z most k) (hz : nameB z = true) (hm : most ≤ 10 ^ 18) : KdOk k := by
  refine ⟨by rw [h.nm]; exact hz, h.a0, ?_, h.b0, ?_, h.bn, fun c hc => ⟨(h.t0 c hc).1, ?_⟩⟩
  · have := h.a1
    omega
  · have := h.b1
    omega
  · have := (h.t0 c hc).2
    omega
theorem fm_ne {f g : Fm} (h : f ≠ g) : ¬ V.str f.word = V.str g.word := fun z => h (by
  have e := V.str.inj z
  have a := formIn_of f
  rw [e, formIn_of g] at a
  exact (Option.some.inj a).symm)
theorem none_of {H H' : Hp} {q : Addr} (s : Same H H') (h : H' q = none) : H q = none := by
  cases e : H q with
  | none => rfl
  | some o =>
    rw [s _ _ e] at h
    cases h
theorem joinL_len (S : List Nat) : ∀ ps : List (List Nat), (TL.joinL S ps).length ≤ (ps.map List.length).sum + ps.length * S.length
  | [] => Nat.zero_le _
  | [p] => by simp [TL.joinL]
  | p :: q :: r => by
    have ih := joinL_len S (q :: r)
    rw [joinL_cons]
    simp only [List.length_append, List.map_cons, List.sum_cons, List.length_cons, Nat.add_mul, Nat.one_mul] at ih ⊢
    omega
theorem join_len (y : Str) (ws : List Str) : (Txt.join y ws).length ≤ (ws.map (·.length)).sum + ws.length * y.length := by
  rw [TL.len_tl, TL.join_eq, TL.tl_join]
  have := joinL_len (TL.tl y) (ws.map TL.tl)
  rw [List.length_map, List.map_map] at this
  have e : List.length ∘ TL.tl = fun w : Str => w.length := funext fun w => (TL.len_tl w).symm
  rw [e, ← TL.len_tl] at this
  exact this
theorem kindWs_sum {k : Kd} (ok : KdOk k) : ((kindWs k).map (·.length)).sum + (kindWs k).length * (" " : Str).length ≤ 100 := by
  have h1 : k.fm.word.length ≤ 5 := by cases k.fm <;> decide +kernel
  have h2 := nameB_len ok.nm
  have h3 := numS_len (n := k.a) (by have := ok.a0; omega) ok.a1
  have h4 := manyS_len ok.t0
  have h5 : (" " : Str).length = 1 := by decide +kernel
  rw [h5]
  unfold kindWs
  by_cases hf : k.fm = .lift
  · have h6 := numS_len (n := k.b) (by have := ok.bl hf; omega) ok.b1
    rw [if_pos hf]
    simp
    omega
  · rw [if_neg hf]
    simp
    omega
theorem kindS_len {k : Kd} (ok : KdOk k) : (kindS k).length ≤ 100 := Nat.le_trans (join_len _ _) (kindWs_sum ok)
theorem strs_perm {ys : List V} {ns : List Str} (h : ys.Perm (ns.map V.str)) : ∃ ms : List Str, ys = ms.map V.str ∧ ms.Perm ns := by
  have z : ∀ y ∈ ys, ∃ i, y = V.str i := fun y hy => by
    obtain ⟨i, _, e⟩ := List.mem_map.mp (h.mem_iff.mp hy)
    exact ⟨i, e.symm⟩
  have : ∃ ms : List Str, ys = ms.map V.str := by
    clear h
    induction ys with
    | nil => exact ⟨[], rfl⟩
    | cons y ys ih =>
      obtain ⟨i, rfl⟩ := z y (List.mem_cons_self ..)
      obtain ⟨ms, e⟩ := ih fun y hy => z y (List.mem_cons_of_mem _ hy)
      exact ⟨i :: ms, by rw [e]; rfl⟩
  obtain ⟨ms, e⟩ := this
  refine ⟨ms, e, ?_⟩
  rw [e] at h
  have f : ∀ l : List Str, (l.map V.str).map (fun v => match v with | .str i => i | _ => Str.empty) = l := fun l => by
    rw [List.map_map]
    simp [Function.comp_def]
  have q := h.map (fun v => match v with | .str i => i | _ => Str.empty)
  rwa [f, f] at q
theorem cutV_take (xs : List V) (v : Int) (h : 0 ≤ v) : cutV xs none (some v) = xs.take v.toNat := by
  obtain ⟨n, rfl⟩ : ∃ n : Nat, v = (n : Int) := ⟨v.toNat, by omega⟩
  unfold cutV
  rw [HT.sIx_nat]
  show (xs.drop 0).take (min n xs.length - 0) = _
  rw [List.drop_zero, Nat.sub_zero, Int.toNat_natCast, List.take_eq_take_iff]
  omega
end Tm

/-! Part 10: rules as texts. -/
namespace Tm
open PySem PySem.Spec PyProof.Rows L2
structure RlOk (R : Rl) : Prop where
  l0 : 1 ≤ R.length
  l1 : R.length < 10 ^ 19
  rl : R.rests.length ≤ 6
  rb : ∀ i ∈ R.rests, 0 ≤ i ∧ i < 7
  rn : R.rests.Nodup
  rs : R.rests.Pairwise (· ≤ ·)
  c0 : ∀ c, R.cap = some c → 1 ≤ c ∧ c < 10 ^ 19
  kl : R.kinds.length ≤ 100
  kn : (R.kinds.map (·.name)).Nodup
  kk : ∀ k ∈ R.kinds, KdOk k
def restWs (ns : List Int) : List Str := if ns = [] then ["none"] else ns.map numS
def headWs (n : Int) (ns : List Int) (cap : Option Int) : List Str := ([("term" : Str), numS n, ("rests" : Str)] : List Str) ++ (restWs ns ++ ([("cap" : Str), capS cap] : List Str))
def headS (n : Int) (ns : List Int) (cap : Option Int) : Str := Txt.join " " (headWs n ns cap)
/-- the text of a rule; its rests in any order -/
def textS (n : Int) (ns : List Int) (cap : Option Int) (ks : List Kd) : Str := Txt.join "\n" (headS n ns cap :: ks.map kindS)
def ruleS (R : Rl) : Str := textS R.length R.rests R.cap R.kinds
theorem nl_tl : TL.tl ("\n" : Str) = [10] := by decide +kernel
theorem nl_ne : TL.tl ("\n" : Str) ≠ [] := by decide +kernel
theorem nl_lo : ("\n" : Str).cps.all (· < 256) = true := by decide +kernel
theorem capS_len {o : Option Int} (h : ∀ n, o = some n → 1 ≤ n ∧ n < 10 ^ 19) : (capS o).length ≤ 19 := by
  cases o with
  | none => decide +kernel
  | some n => exact numS_len (by have := (h n rfl).1; omega) (h n rfl).2
theorem cap_free {o : Option Int} {s : Nat} (h : ∀ c, o = some c → 1 ≤ c ∧ c < 10 ^ 19) (hs : s < 48) : s ∉ TL.tl (capS o) := by
  cases o with
  | none =>
    intro m
    have e : TL.tl (capS none) = [110, 111, 110, 101] := by decide +kernel
    rw [e] at m
    simp only [List.mem_cons, List.not_mem_nil, or_false] at m
    omega
  | some c => exact numS_free (by have := h c rfl; omega) (.inl hs)
/-- what a head tells, as far as it can be read -/
structure HdOk (n : Int) (ns : List Int) (cap : Option Int) : Prop where
  l0 : 1 ≤ n
  l1 : n < 10 ^ 19
  rl : ns.length ≤ 6
  rb : ∀ i ∈ ns, 0 ≤ i ∧ i < 7
  c0 : ∀ c, cap = some c → 1 ≤ c ∧ c < 10 ^ 19
theorem RlOk.hd {R : Rl} (h : RlOk R) : HdOk R.length R.rests R.cap := ⟨h.l0, h.l1, h.rl, h.rb, h.c0⟩
theorem restWs_mem {ns : List Int} {p : Str} (h : p ∈ restWs ns) : p = "none" ∨ ∃ i ∈ ns, p = numS i := by
  unfold restWs at h
  split at h
  · exact .inl (List.mem_singleton.mp h)
  · obtain ⟨i, hi, e⟩ := List.mem_map.mp h
    exact .inr ⟨i, hi, e.symm⟩
theorem none_free {s : Nat} (hs : s < 48) : s ∉ TL.tl ("none" : Str) := cap_free (o := none) (fun _ z => by cases z) hs
theorem headWs_mem {n : Int} {ns : List Int} {cap : Option Int} {p : Str} (h : p ∈ headWs n ns cap) : p = "term" ∨ p = numS n ∨ p = "rests" ∨ p ∈ restWs ns ∨ p = "cap" ∨ p = capS cap := by
  unfold headWs at h
  simp only [List.mem_append, List.mem_cons, List.not_mem_nil, or_false] at h
  rcases h with (h | h | h) | h | h | h
  · exact .inl h
  · exact .inr (.inl h)
  · exact .inr (.inr (.inl h))
  · exact .inr (.inr (.inr (.inl h)))
  · exact .inr (.inr (.inr (.inr (.inl h))))
  · exact .inr (.inr (.inr (.inr (.inr h))))
theorem lit_free {z : Str} (h : (TL.tl z).all letterB = true) {s : Nat} (hs : s < 48) : s ∉ TL.tl z := fun m => by
  have := List.all_eq_true.mp h s m
  simp only [letterB, Bool.and_eq_true, decide_eq_true_eq] at this
  omega
theorem headWs_free {n : Int} {ns : List Int} {cap : Option Int} (ok : HdOk n ns cap) {s : Nat} (hs : s < 48) : ∀ p ∈ headWs n ns cap, s ∉ TL.tl p := fun p hp => by
  rcases headWs_mem hp with rfl | rfl | rfl | h | rfl | rfl
  · exact lit_free (by decide +kernel) hs
  · exact numS_free (by have := ok.l0; omega) (.inl hs)
  · exact lit_free (by decide +kernel) hs
  · rcases restWs_mem h with rfl | ⟨i, hi, rfl⟩
    · exact lit_free (by decide +kernel) hs
    · exact numS_free (ok.rb i hi).1 (.inl hs)
  · exact lit_free (by decide +kernel) hs
  · exact cap_free ok.c0 hs
theorem split_head {n : Int} {ns : List Int} {cap : Option Int} (ok : HdOk n ns cap) : Txt.split (headS n ns cap) " " = headWs n ns cap :=
  TL.split_join (s := 32) (S := []) sp_tl sp_lo (by unfold headWs; simp) (headWs_free ok (by decide))
theorem headWs_le {n : Int} {ns : List Int} {cap : Option Int} (ok : HdOk n ns cap) : ∀ p ∈ headWs n ns cap, p.length ≤ 19 := fun p hp => by
  rcases headWs_mem hp with rfl | rfl | rfl | h | rfl | rfl
  · decide +kernel
  · exact numS_len (by have := ok.l0; omega) ok.l1
  · decide +kernel
  · rcases restWs_mem h with rfl | ⟨i, hi, rfl⟩
    · decide +kernel
    · exact numS_len (ok.rb i hi).1 (by have := ok.rb i hi; omega)
  · decide +kernel
  · exact capS_len ok.c0
theorem restWs_len {ns : List Int} (h : ns.length ≤ 6) : 1 ≤ (restWs ns).length ∧ (restWs ns).length ≤ 6 := by
  unfold restWs
  split
  · decide
  · rename_i hn
    rw [List.length_map]
    have := List.length_pos_iff.mpr hn
    omega
theorem sum_le {ws : List Str} {m : Nat} (h : ∀ p ∈ ws, p.length ≤ m) : (ws.map (·.length)).sum ≤ ws.length * m := by
  induction ws with
  | nil => simp
  | cons a l ih =>
    have h1 := h a (List.mem_cons_self ..)
    have h2 := ih fun p hp => h p (List.mem_cons_of_mem _ hp)
    rw [List.map_cons, List.sum_cons, List.length_cons, Nat.add_mul, Nat.one_mul]
    omega
theorem headWs_sum {n : Int} {ns : List Int} {cap : Option Int} (ok : HdOk n ns cap) : ((headWs n ns cap).map (·.length)).sum + (headWs n ns cap).length * (" " : Str).length ≤ 300 := by
  have h1 := sum_le (headWs_le ok)
  have h2 : (headWs n ns cap).length ≤ 11 := by
    unfold headWs
    have := (restWs_len ok.rl).2
    simp only [List.length_append, List.length_cons, List.length_nil]
    omega
  have h3 : (" " : Str).length = 1 := by decide +kernel
  rw [h3]
  omega
theorem headS_len {n : Int} {ns : List Int} {cap : Option Int} (ok : HdOk n ns cap) : (headS n ns cap).length ≤ 300 := Nat.le_trans (join_len _ _) (headWs_sum ok)
theorem joinL_free {S : List Nat} {s : Nat} (hS : s ∉ S) : ∀ {ps : List (List Nat)}, (∀ p ∈ ps, s ∉ p) → s ∉ TL.joinL S ps
  | [], _ => by simp [TL.joinL]
  | [p], h => h p (List.mem_singleton.mpr rfl)
  | p :: q :: r, h => by
    rw [joinL_cons]
    intro m
    rcases List.mem_append.mp m with m | m
    · exact h p (List.mem_cons_self ..) m
    · rcases List.mem_append.mp m with m | m
      · exact hS m
      · exact joinL_free hS (fun z hz => h z (List.mem_cons_of_mem _ hz)) m
theorem join_free {y : Str} {s : Nat} (hy : s ∉ TL.tl y) {ws : List Str} (h : ∀ p ∈ ws, s ∉ TL.tl p) : s ∉ TL.tl (Txt.join y ws) := by
  rw [TL.join_eq, TL.tl_join]
  refine joinL_free hy fun p hp => ?_
  obtain ⟨q, hq, rfl⟩ := List.mem_map.mp hp
  exact h q hq
theorem kindS_free {k : Kd} (ok : KdOk k) : 10 ∉ TL.tl (kindS k) := join_free (by decide +kernel) (ws_free ok (by decide))
theorem headS_free {n : Int} {ns : List Int} {cap : Option Int} (ok : HdOk n ns cap) : 10 ∉ TL.tl (headS n ns cap) := join_free (by decide +kernel) (headWs_free ok (by decide))
theorem split_text {n : Int} {ns : List Int} {cap : Option Int} {ks : List Kd} (ok : HdOk n ns cap) (kk : ∀ k ∈ ks, KdOk k) : Txt.split (textS n ns cap ks) "\n" = headS n ns cap :: ks.map kindS := by
  refine TL.split_join (s := 10) (S := []) nl_tl nl_lo (by simp) fun p hp => ?_
  rcases List.mem_cons.mp hp with rfl | hp
  · exact headS_free ok
  · obtain ⟨k, hk, rfl⟩ := List.mem_map.mp hp
    exact kindS_free (kk k hk)
theorem lines_sum {n : Int} {ns : List Int} {cap : Option Int} {ks : List Kd} (ok : HdOk n ns cap) (kk : ∀ k ∈ ks, KdOk k) (kl : ks.length ≤ 100) : ((headS n ns cap :: ks.map kindS).map (·.length)).sum + (headS n ns cap :: ks.map kindS).length * ("\n" : Str).length ≤ 20000 := by
  have h1 := sum_le (m := 100) (ws := ks.map kindS) fun p hp => by
    obtain ⟨k, hk, rfl⟩ := List.mem_map.mp hp
    exact kindS_len (kk k hk)
  have h2 := headS_len ok
  have h3 : ("\n" : Str).length = 1 := by decide +kernel
  rw [h3, List.map_cons, List.sum_cons, List.length_cons]
  rw [List.length_map] at h1 ⊢
  omega
theorem textS_len {n : Int} {ns : List Int} {cap : Option Int} {ks : List Kd} (ok : HdOk n ns cap) (kk : ∀ k ∈ ks, KdOk k) (kl : ks.length ≤ 100) : (textS n ns cap ks).length ≤ 20000 := Nat.le_trans (join_len _ _) (lines_sum ok kk kl)
/-! ### texts as the program writes them -/
theorem joinL_app (S : List Nat) : ∀ (ps qs : List (List Nat)), ps ≠ [] → qs ≠ [] → TL.joinL S (ps ++ qs) = TL.joinL S ps ++ (S ++ TL.joinL S qs)
  | [], _, h, _ => absurd rfl h
  | [p], q :: r, _, _ => rfl
  | [p], [], _, h => absurd rfl h
  | p :: p' :: r, qs, _, h => by
    rw [List.cons_append, List.cons_append, joinL_cons, joinL_cons, ← List.cons_append, joinL_app S (p' :: r) qs (by simp) h]
    simp only [List.append_assoc]
def restS (ns : List Int) : Str := if ns = [] then "none" else Txt.join " " (ns.map numS)
theorem tl_restS (ns : List Int) : TL.tl (restS ns) = TL.joinL [32] ((restWs ns).map TL.tl) := by
  unfold restS restWs
  split
  · rfl
  · rw [TL.join_eq, TL.tl_join, sp_tl]
theorem restWs_ne (ns : List Int) : restWs ns ≠ [] := by
  unfold restWs
  split
  · simp
  · rename_i h
    simpa using h
theorem tl_headS (n : Int) (ns : List Int) (cap : Option Int) : TL.tl (headS n ns cap) = TL.tl ("term " : Str) ++ (TL.tl (numS n) ++ (TL.tl (" rests " : Str) ++ (TL.tl (restS ns) ++ (TL.tl (" cap " : Str) ++ TL.tl (capS cap))))) := by
  have h1 : TL.tl ("term " : Str) = TL.tl ("term" : Str) ++ [32] := by decide +kernel
  have h2 : TL.tl (" rests " : Str) = [32] ++ (TL.tl ("rests" : Str) ++ [32]) := by decide +kernel
  have h3 : TL.tl (" cap " : Str) = [32] ++ (TL.tl ("cap" : Str) ++ [32]) := by decide +kernel
  unfold headS headWs
  rw [TL.join_eq, TL.tl_join, sp_tl, List.map_append, joinL_app _ _ _ (by simp) (by simp), List.map_append, joinL_app _ _ _ (by simpa using restWs_ne ns) (by simp), tl_restS, h1, h2, h3]
  simp only [List.map_cons, List.map_nil, joinL_cons, TL.joinL, List.append_assoc, List.cons_append, List.nil_append]
end Tm
namespace Tm
open PySem PySem.Spec PyProof.Rows L2
theorem eqv_strs : ∀ ys zs : List Str, PyData.eqvAll (ys.map PyData.str) (zs.map PyData.str) = decide (ys = zs)
  | [], [] => by simp [PyData.eqvAll]
  | [], z :: zs => by simp [PyData.eqvAll]
  | y :: ys, [] => by simp [PyData.eqvAll]
  | y :: ys, z :: zs => by
    have ih := eqv_strs ys zs
    simp only [List.map_cons, PyData.eqvAll, PyData.eqv, ih]
    by_cases h1 : y = z
    · by_cases h2 : ys = zs
      · simp [h1, h2]
      · simp [h1, h2]
    · have h3 : (y == z) = false := beq_eq_false_iff_ne.mpr h1
      simp [h1, h3]
/-- two lists of texts -/
def rEqStrs (K : PySem.W.Frag) : R2 := fun x y H Q => ∃ (p q : Addr) (ys zs : List Str), x = .ref p ∧ y = .ref q ∧ SqL K H p (ys.map V.str) ∧ SqL K H q (zs.map V.str) ∧ (ys.map V.str).all layV = true ∧ (zs.map V.str).all layV = true ∧ Q (.bl (decide (ys = zs))) H
theorem datV_strs (ys : List Str) : (ys.map V.str).map datV = ys.map PyData.str := by
  rw [List.map_map]
  rfl
theorem op_eqStrs {X : Cx} (K : PySem.W.Frag) (hu : X.A.units + 64 < cLine) (hK : X.K = K := by rfl) : OpR X (compareOp .Eq) (rEqStrs K) := by
  subst hK
  intro pins s σ H x y v u Q I rx ry h
  obtain ⟨p, q, ys, zs, rfl, rfl, hp, hq, hy, hz, k⟩ := h
  refine op_eqD hu pins s σ H _ _ v u Q I rx ry ⟨_, _, .lst hp (dpAll_flat hy), .lst hq (dpAll_flat hz), shaped_flat hy, shaped_flat hz, ?_⟩
  have e : PyData.eqv (.list ((ys.map V.str).map datV)) (.list ((zs.map V.str).map datV)) = decide (ys = zs) := by
    rw [datV_strs, datV_strs, PyData.eqv]
    exact eqv_strs ys zs
  rw [e]
  exact k
/-- a class that a local name holds is called -/
def tMakeL (i : Nat) (C : Addr) (sp : Sp) (dvs : List V) (E : XK) (t : TA) : TE := fun σ H Q => σ[i]? = some (some (.ref C)) ∧ tMake C sp dvs E t σ H Q
theorem pe_mkL {X : Cx} {CX : CXT} {k i : Nat} {f C : Addr} {sp : Sp} {dvs : List V} {E : XK} {x : Str} {p pos : Pos} {e : Expr} {es : List Expr} {t : TA} (M : Mk X.K C f) (D : Dn X.prog X.w X.K X.mg X.base CX k f dvs sp) (hr : Room (k + 1) X.A) (hN : X.N[i]? = some x) (hv : Vis X.env.scope x) (hx : Passes CX X E) (ha : PA X (e :: es) t)
    (hdb : (x == ("__debug__" : Str)) = false := by decide) (hcd : (x == ("__classdict__" : Str)) = false := by decide)
    (he : starEach (e :: es) X.env = (false, eval e X.env) :: starEach es X.env := by rfl) (hpl : (backTo pos (starEach es X.env)).any (·.1) = false := by rfl) : PE X (.Call (.Name x p) (e :: es) [] pos) (tMakeL i C sp dvs E t) := by
  obtain ⟨fd, ps, ds, F, kp, r, b⟩ := D.ex
  refine ⟨fun pins s σ H Q I h => ?_⟩
  obtain ⟨hs, ht⟩ := h
  refine wpAny_Call_Name_kw (thn ((pe_var (pos := p) hN hv hdb hcd).run pins s σ H (fun v H1 => v = .ref C ∧ H1 = H) I ⟨.ref C, hs, rfl, rfl⟩) fun u s1 ⟨v, H1, I1, r1, q1⟩ => ?_)
  obtain ⟨rfl, rfl⟩ := q1
  cases r1
  refine PySem.W.callWith_K (h₀ := X.base) I.ok.mod.kin M.kp (thn (ha.run pos pins s1 σ _ _ I1 ht) fun us s2 ⟨vs, H2, I2, rv, q⟩ => ⟨I2.kIn, ?_⟩) he hpl
  exact run_make M F hr b r hx I2 rv q
end Tm
namespace Tm
open PySem PySem.Spec PyProof.Rows L2
theorem paired_snoc {α β : Type} {F : α → β → Prop} {x : α} {y : β} : ∀ {l : List α} {m : List β}, Paired F l m → F x y → Paired F (l ++ [x]) (m ++ [y])
  | _, _, .nil, h => .cons h .nil
  | _, _, .cons q t, h => .cons q (paired_snoc t h)
end Tm

/-! Part 11: data that can be compared; comprehensions by an invariant. -/
namespace Tm
open PySem PySem.Spec PyProof.Rows L2
theorem lcb_I {K : PySem.W.Frag} {a : Addr} {xs : List V} {g : TG} {tt : TT} {te : TE} {vs : List Nat} {σ : L2.St} {H : Hp} {Q : VK} (hS : Sq K H a xs) (Pv : Nat → Addr → Hp → Prop)
    (h0 : ∀ D, H D = none → Pv 0 D (upd H D (.lst []))) (hl : ∀ i D H', H D = none → Pv i D H' → Stays K a xs H H')
    (hs : ∀ i x D H', H D = none → xs[i]? = some x → Pv i D H' → g x (wipe σ vs) H' fun σ2 H2 => wipe σ2 vs = wipe σ vs ∧ tt σ2 H2 fun b H3 =>
      if b = true then te σ2 H3 fun y H4 => ∃ acc, H4 D = some (.lst acc) ∧ acc.length < sizeLine ∧ Pv (i + 1) D (upd H4 D (.lst (acc ++ [y]))) else Pv (i + 1) D H3)
    (hd : ∀ D H', H D = none → Pv xs.length D H' → Q (.ref D) H') : lcBody K g tt te vs σ Q (.ref a) H := by
  refine ⟨a, xs, rfl, hS, fun h D hD => ?_, fun h D hD => ?_⟩
  · exact lc_list (fun i H' => Pv i D H') (h0 D hD) (fun i H' _ p => (hl i D H' hD p).1 h) (fun i x H' hx p => hs i x D H' hD hx p) fun H' p => hd D H' hD p
  · exact lc_tup (fun i H' => Pv i D H') (h0 D hD) (fun i H' _ p => (hl i D H' hD p).2 h) (fun i x H' hx p => hs i x D H' hD hx p) fun H' p => hd D H' hD p
/-- data of a depth that can be laid -/
def DOk (n : Nat) (d : PyData) : Prop := d.canLay0 = true ∧ d.depth ≤ n
theorem dok_all : ∀ {ds : List PyData} {n : Nat}, (∀ d ∈ ds, DOk n d) → PyData.canLayAll0 ds = true ∧ PyData.depthAll ds ≤ n
  | [], n, _ => ⟨rfl, Nat.zero_le _⟩
  | d :: ds, n, h => by
    obtain ⟨h1, h2⟩ := h d (List.mem_cons_self ..)
    obtain ⟨h3, h4⟩ := dok_all fun x hx => h x (List.mem_cons_of_mem _ hx)
    refine ⟨?_, ?_⟩
    · simp only [PyData.canLayAll0, h1, h3, Bool.and_self]
    · simp only [PyData.depthAll]
      omega
theorem dok_lst {ds : List PyData} {n : Nat} (h : ∀ d ∈ ds, DOk n d) : DOk (n + 1) (.list ds) := by
  obtain ⟨a, b⟩ := dok_all h
  exact ⟨by simp only [PyData.canLay0, a], by simp only [PyData.depth]; omega⟩
theorem dok_tup {ds : List PyData} {n : Nat} (h : ∀ d ∈ ds, DOk n d) : DOk (n + 1) (.tuple ds) := by
  obtain ⟨a, b⟩ := dok_all h
  exact ⟨by simp only [PyData.canLay0, a], by simp only [PyData.depth]; omega⟩
theorem DOk.up {m n : Nat} {d : PyData} (h : DOk m d) (hm : m ≤ n) : DOk n d := ⟨h.1, Nat.le_trans h.2 hm⟩
theorem dok_int (i : Int) : DOk 0 (.int i) := ⟨by simp [PyData.canLay0], by simp [PyData.depth]⟩
theorem dok_non : DOk 0 .none := ⟨by simp [PyData.canLay0], by simp [PyData.depth]⟩
theorem dok_bl (b : Bool) : DOk 0 (.bool b) := ⟨by simp [PyData.canLay0], by simp [PyData.depth]⟩
theorem dok_str {z : Str} (h : PyData.strOk z = true) : DOk 0 (.str z) := ⟨by simp [PyData.canLay0, h], by simp [PyData.depth]⟩
theorem shaped_of {n : Nat} {d : PyData} (h : DOk n d) (hn : n ≤ 64) : SeqAt.shaped d = true := by
  unfold SeqAt.shaped
  rw [h.1, decide_eq_true (Nat.le_trans h.2 hn)]
  rfl
/-- xs != [], the items data -/
def rNeNilD (K : PySem.W.Frag) : R2 := fun x y H Q => ∃ (p q : Addr) (xs : List V) (ds : List PyData), x = .ref p ∧ y = .ref q ∧ SqL K H p xs ∧ DpAll K H xs ds ∧ (∀ d ∈ ds, DOk 60 d) ∧ H q = some (.lst []) ∧ Q (.bl (!xs.isEmpty)) H
theorem dpAll_len {K : PySem.W.Frag} {H : Hp} : ∀ {xs : List V} {ds : List PyData}, DpAll K H xs ds → xs.isEmpty = ds.isEmpty
  | _, _, .nil => rfl
  | _, _, .cons _ _ => rfl
theorem op_neNilD {X : Cx} (K : PySem.W.Frag) (hu : X.A.units + 64 < cLine) (hK : X.K = K := by rfl) : OpR X (compareOp .NotEq) (rNeNilD K) := by
  subst hK
  intro pins s σ H x y v u Q I rx ry h
  obtain ⟨p, q, xs, ds, rfl, rfl, hp, hd, ho, hq, k⟩ := h
  refine op_neD hu pins s σ H _ _ v u Q I rx ry ⟨_, _, .lst hp hd, .lst (.inl (.inl hq)) .nil, shaped_of (dok_lst ho) (by decide), by decide +kernel, ?_⟩
  rw [eqv_nil, ← dpAll_len hd]
  exact k
theorem name_strOk {z : Str} (h : nameB z = true) : PyData.strOk z = true := by
  simp only [nameB, Bool.and_eq_true, decide_eq_true_eq] at h
  unfold PyData.strOk
  rw [← Array.all_toList, List.all_eq_true]
  intro c hc
  have := List.all_eq_true.mp h.2.2.2 c hc
  simp only [letterB, Bool.and_eq_true, decide_eq_true_eq] at this
  exact decide_eq_true (by omega)
/-- a told kind as data -/
def dat5 (k : Kd) : PyData := .tuple [.str k.fm.word, .str k.name, .int k.a, .int k.b, match k.times with | none => .none | some c => .int c]
theorem dp_tv {K : PySem.W.Frag} {H : Hp} (o : Option Int) : Dp K H (tv o) (match o with | none => .none | some c => .int c) := by
  cases o with
  | none => exact .non
  | some c => exact .int c
theorem dp_told5 {K : PySem.W.Frag} {H : Hp} {p : Addr} {k : Kd} (h : SqT K H p (told5 k)) : Dp K H (.ref p) (dat5 k) :=
  .tup h (.cons (.str _) (.cons (.str _) (.cons (.int _) (.cons (.int _) (.cons (dp_tv _) .nil)))))
theorem dok_dat5 {k : Kd} (h : nameB k.name = true) : DOk 1 (dat5 k) := by
  refine dok_tup fun d hd => ?_
  simp only [List.mem_cons, List.not_mem_nil, or_false] at hd
  rcases hd with rfl | rfl | rfl | rfl | rfl
  · exact dok_str (by cases k.fm <;> decide +kernel)
  · exact dok_str (name_strOk h)
  · exact dok_int _
  · exact dok_int _
  · cases k.times with
    | none => exact dok_non
    | some c => exact dok_int c
end Tm

/-! Part 12: drawn rules as the laws tell them. -/
namespace Tm
open PySem PySem.Spec PyProof.Rows L2
/-- a told rule: its length, rests, cap, kinds -/
structure ToldAt (K : PySem.W.Frag) (d g : Addr) (H : Hp) (p : Addr) (n : Int) (ns : List Int) (cap : Option Int) (ks : List Kd) : Prop where
  ex : ∃ (lr ls : Addr) (ps : List Addr), H p = some (.tup [.int n, .ref lr, tv cap, .ref ls]) ∧ H lr = some (.lst (ns.map V.int)) ∧ H ls = some (.lst (ps.map V.ref)) ∧ Apart d g lr ∧ Apart d g ls ∧ Paired (fun q k => H q = some (.tup (told5 k))) ps ks
theorem ToldAt.mono {K : PySem.W.Frag} {d g : Addr} {H H' : Hp} {p : Addr} {n : Int} {ns : List Int} {cap : Option Int} {ks : List Kd} (h : ToldAt K d g H p n ns cap ks) (s : Same H H') : ToldAt K d g H' p n ns cap ks := by
  obtain ⟨lr, ls, ps, h1, h2, h3, h4, h5, h6⟩ := h.ex
  exact ⟨lr, ls, ps, s _ _ h1, s _ _ h2, s _ _ h3, h4, h5, Paired.imp (fun _ _ z => s _ _ z) h6⟩
theorem ToldAt.but {K : PySem.W.Frag} {d g : Addr} {H H' : Hp} {p : Addr} {n : Int} {ns : List Int} {cap : Option Int} {ks : List Kd} (h : ToldAt K d g H p n ns cap ks) (D : Deal H d g) (b : But d g H H') : ToldAt K d g H' p n ns cap ks := by
  obtain ⟨lr, ls, ps, h1, h2, h3, h4, h5, h6⟩ := h.ex
  exact ⟨lr, ls, ps, b _ _ (D.apart h1 fun _ z => by cases z) h1, b _ _ h4 h2, b _ _ h5 h3, h4, h5, Paired.imp (fun _ _ z => b _ _ (D.apart z fun _ q => by cases q) z) h6⟩
/-- what is drawn -/
structure RlIn (many : Nat) (most n : Int) (ns : List Int) (cap : Option Int) (ks : List Kd) : Prop where
  l0 : 1 ≤ n
  l1 : n ≤ most
  rl : ns.length ≤ 4
  rb : ∀ i ∈ ns, 0 ≤ i ∧ i < 7
  rn : ns.Nodup
  rs : ns.Pairwise (· ≤ ·)
  c0 : ∀ c, cap = some c → 1 ≤ c ∧ c ≤ 3 * most
  cf : ∀ c k, cap = some c → k ∈ ks → k.times = none → c ≤ n + 200
  kl : ks.length ≤ many
  kn : (ks.map (·.name)).Nodup
  ka : ∀ k ∈ ks, k.name ∈ namesA
  kk : ∀ k ∈ ks, KdIn k.name most k
theorem RlIn.kok {many : Nat} {most n : Int} {ns : List Int} {cap : Option Int} {ks : List Kd} (h : RlIn many most n ns cap ks) (hm : most ≤ 10 ^ 18) : ∀ k ∈ ks, KdOk k := fun k hk => (h.kk k hk).ok (namesA_ok _ (h.ka k hk)) hm
theorem RlIn.hd {many : Nat} {most n : Int} {ns : List Int} {cap : Option Int} {ks : List Kd} (h : RlIn many most n ns cap ks) (hm : most ≤ 10 ^ 18) : HdOk n ns cap :=
  ⟨h.l0, by have := h.l1; omega, by have := h.rl; omega, h.rb, fun c hc => by have := h.c0 c hc; omega⟩
theorem RlIn.ok {many : Nat} {most n : Int} {ns : List Int} {cap : Option Int} {ks : List Kd} (h : RlIn many most n ns cap ks) (hm : most ≤ 10 ^ 18) (hk : many ≤ 100) : RlOk ⟨n, ns, cap, ks⟩ :=
  ⟨h.l0, (h.hd hm).l1, (h.hd hm).rl, h.rb, h.rn, h.rs, (h.hd hm).c0, Nat.le_trans h.kl hk, h.kn, h.kok hm⟩
end Tm

/-! Mirror 0: values as trees, how they stand in the heap, what a def's frame knows. -/
namespace Tm
open PySem PySem.Spec PyProof.Rows L2
inductive T where
  | non
  | bl (b : Bool)
  | int (i : Int)
  | str (x : Str)
  | tup (l : List T)
  | lst (l : List T)
  | dK (ks : List Key) (l : List T)
  | dT (ks : List (List Key)) (l : List T)
  | obj (C : Str) (ns : List Str) (l : List T)
  | deal (l : List Int) (m : Int)
  | cls (C : Str)
  | scr (ns : List Int)
  deriving Inhabited
abbrev ASet := Addr → Prop
/-- from H to H' all stays but what stands in A; tuples stay -/
structure Lk (A : ASet) (H H' : Hp) : Prop where
  all : ∀ b o, ¬ A b → H b = some o → H' b = some o
  tup : ∀ b xs, H b = some (.tup xs) → H' b = some (.tup xs)
  frz : ∀ b o u, H b = some (.frz o u) → H' b = some (.frz o u)
theorem Lk.of_same {A : ASet} {H H' : Hp} (s : Same H H') : Lk A H H' := ⟨fun b o _ e => s b o e, fun b xs e => s b _ e, fun b o u e => s b _ e⟩
theorem Lk.refl {A : ASet} {H : Hp} : Lk A H H := Lk.of_same (L2.Same.refl _)
theorem Lk.trans {A : ASet} {H H1 H2 : Hp} (a : Lk A H H1) (b : Lk A H1 H2) : Lk A H H2 :=
  ⟨fun c o n e => b.all c o n (a.all c o n e), fun c xs e => b.tup c xs (a.tup c xs e), fun c o u e => b.frz c o u (a.frz c o u e)⟩
theorem Lk.mono {A B : ASet} {H H' : Hp} (h : Lk A H H') (s : ∀ a, A a → B a) : Lk B H H' := ⟨fun b o n e => h.all b o (fun z => n (s b z)) e, h.tup, h.frz⟩
theorem Lk.same {H H' : Hp} (h : Lk (fun _ => False) H H') : Same H H' := fun b o e => h.all b o id e
mutual
inductive Rep (K : PySem.W.Frag) (A : ASet) (H : Hp) : V → T → Prop where
  | non : Rep K A H .non .non
  | bl (b : Bool) : Rep K A H (.bl b) (.bl b)
  | int (i : Int) : Rep K A H (.int i) (.int i)
  | str (x : Str) : Rep K A H (.str x) (.str x)
  | tup {a : Addr} {xs : List V} {l : List T} (h : SqT K H a xs) (r : Reps K A H xs l) : Rep K A H (.ref a) (.tup l)
  | lst {a : Addr} {xs : List V} {l : List T} (na : ¬ A a) (h : H a = some (.lst xs)) (r : Reps K A H xs l) : Rep K A H (.ref a) (.lst l)
  | dK {a : Addr} {kvs : List (Key × V)} {l : List T} (na : ¬ A a) (h : H a = some (.dK kvs)) (r : Reps K A H (kvs.map (·.2)) l) : Rep K A H (.ref a) (.dK (kvs.map (·.1)) l)
  | dT {a : Addr} {kvs : List (List Key × V)} {l : List T} (na : ¬ A a) (h : H a = some (.dT kvs)) (r : Reps K A H (kvs.map (·.2)) l) : Rep K A H (.ref a) (.dT (kvs.map (·.1)) l)
  | obj {a dx : Addr} {C : Str} {fs : List (Str × V)} {l : List T} (na : ¬ A a) (h : H a = some (.ins (He.ga K C) dx fs)) (r : Reps K A H (fs.map (·.2)) l) : Rep K A H (.ref a) (.obj C (fs.map (·.1)) l)
  | cls (C : Str) : Rep K A H (.ref (He.ga K C)) (.cls C)
  | scr {a : Addr} {o : Obj} {ns : List Int} (h : H a = some (.frz o (.lst (ns.map V.int)))) : Rep K A H (.ref a) (.scr ns)
inductive Reps (K : PySem.W.Frag) (A : ASet) (H : Hp) : List V → List T → Prop where
  | nil : Reps K A H [] []
  | cons {x : V} {t : T} {xs : List V} {l : List T} (h : Rep K A H x t) (r : Reps K A H xs l) : Reps K A H (x :: xs) (t :: l)
end
section
variable {K : PySem.W.Frag} {A B : ASet} {H H' : Hp}
theorem sqT_lk {a : Addr} {xs : List V} (L : Lk A H H') (h : SqT K H a xs) : SqT K H' a xs := by
  rcases h with (h | ⟨o, h⟩) | h
  · exact .inl (.inl (L.tup _ _ h))
  · exact .inl (.inr ⟨o, L.frz _ _ _ h⟩)
  · exact .inr h
mutual
theorem Rep.lk (L : Lk A H H') : ∀ {v : V} {t : T}, Rep K A H v t → Rep K A H' v t
  | _, _, .non => .non
  | _, _, .bl b => .bl b
  | _, _, .int i => .int i
  | _, _, .str x => .str x
  | _, _, .tup h r => .tup (sqT_lk L h) (Reps.lk L r)
  | _, _, .lst na h r => .lst na (L.all _ _ na h) (Reps.lk L r)
  | _, _, .dK na h r => .dK na (L.all _ _ na h) (Reps.lk L r)
  | _, _, .dT na h r => .dT na (L.all _ _ na h) (Reps.lk L r)
  | _, _, .obj na h r => .obj na (L.all _ _ na h) (Reps.lk L r)
  | _, _, .cls C => .cls C
  | _, _, .scr h => .scr (L.frz _ _ _ h)
theorem Reps.lk (L : Lk A H H') : ∀ {xs : List V} {l : List T}, Reps K A H xs l → Reps K A H' xs l
  | _, _, .nil => .nil
  | _, _, .cons h r => .cons (Rep.lk L h) (Reps.lk L r)
end
mutual
/-- what avoids A, avoids what is in A or is not there -/
theorem Rep.weak (s : ∀ a, B a → A a ∨ H a = none) : ∀ {v : V} {t : T}, Rep K A H v t → Rep K B H v t
  | _, _, .non => .non
  | _, _, .bl b => .bl b
  | _, _, .int i => .int i
  | _, _, .str x => .str x
  | _, _, .tup h r => .tup h (Reps.weak s r)
  | _, _, .lst na h r => .lst (fun z => (s _ z).elim na fun e => by rw [e] at h; cases h) h (Reps.weak s r)
  | _, _, .dK na h r => .dK (fun z => (s _ z).elim na fun e => by rw [e] at h; cases h) h (Reps.weak s r)
  | _, _, .dT na h r => .dT (fun z => (s _ z).elim na fun e => by rw [e] at h; cases h) h (Reps.weak s r)
  | _, _, .obj na h r => .obj (fun z => (s _ z).elim na fun e => by rw [e] at h; cases h) h (Reps.weak s r)
  | _, _, .cls C => .cls C
  | _, _, .scr h => .scr h
theorem Reps.weak (s : ∀ a, B a → A a ∨ H a = none) : ∀ {xs : List V} {l : List T}, Reps K A H xs l → Reps K B H xs l
  | _, _, .nil => .nil
  | _, _, .cons h r => .cons (Rep.weak s h) (Reps.weak s r)
end
theorem Rep.same (s : Same H H') {v : V} {t : T} (r : Rep K A H v t) : Rep K A H' v t := r.lk (Lk.of_same s)
theorem Reps.same (s : Same H H') {xs : List V} {l : List T} (r : Reps K A H xs l) : Reps K A H' xs l := r.lk (Lk.of_same s)
theorem Reps.length : ∀ {xs : List V} {l : List T}, Reps K A H xs l → xs.length = l.length
  | _, _, .nil => rfl
  | _, _, .cons _ r => by rw [List.length_cons, List.length_cons, Reps.length r]
theorem Reps.append : ∀ {xs ys : List V} {l m : List T}, Reps K A H xs l → Reps K A H ys m → Reps K A H (xs ++ ys) (l ++ m)
  | _, _, _, _, .nil, s => s
  | _, _, _, _, .cons h r, s => .cons h (Reps.append r s)
theorem Reps.get : ∀ {xs : List V} {l : List T} {i : Nat} {t : T}, Reps K A H xs l → l[i]? = some t → ∃ x, xs[i]? = some x ∧ Rep K A H x t
  | _, _, _, _, .nil, e => by simp at e
  | _, _, 0, _, .cons h _, e => by
    simp at e
    subst e
    exact ⟨_, rfl, h⟩
  | _, _, i + 1, t, .cons _ r, e => by
    obtain ⟨x, h1, h2⟩ := Reps.get (i := i) r (by simpa using e)
    exact ⟨x, by simpa using h1, h2⟩
theorem Reps.getV : ∀ {xs : List V} {l : List T} {i : Nat} {x : V}, Reps K A H xs l → xs[i]? = some x → ∃ t, l[i]? = some t ∧ Rep K A H x t
  | _, _, _, _, .nil, e => by simp at e
  | _, _, 0, _, .cons h _, e => by
    simp at e
    subst e
    exact ⟨_, rfl, h⟩
  | _, _, i + 1, t, .cons _ r, e => by
    obtain ⟨x, h1, h2⟩ := Reps.getV (i := i) r (by simpa using e)
    exact ⟨x, by simpa using h1, h2⟩
theorem Reps.take : ∀ {xs : List V} {l : List T} (n : Nat), Reps K A H xs l → Reps K A H (xs.take n) (l.take n)
  | _, _, 0, _ => .nil
  | _, _, _ + 1, .nil => .nil
  | _, _, n + 1, .cons h r => .cons h (Reps.take n r)
theorem Reps.drop : ∀ {xs : List V} {l : List T} (n : Nat), Reps K A H xs l → Reps K A H (xs.drop n) (l.drop n)
  | _, _, 0, r => r
  | _, _, _ + 1, .nil => .nil
  | _, _, n + 1, .cons _ r => Reps.drop n r
theorem Reps.set {x : V} {t : T} (q : Rep K A H x t) : ∀ {xs : List V} {l : List T} (i : Nat), Reps K A H xs l → Reps K A H (xs.set i x) (l.set i t)
  | _, _, _, .nil => .nil
  | _, _, 0, .cons _ r => .cons q r
  | _, _, i + 1, .cons h r => .cons h (Reps.set q i r)
theorem Reps.nil_of {l : List T} (r : Reps K A H [] l) : l = [] := by cases r; rfl
theorem Reps.ints (ns : List Int) : Reps K A H (ns.map V.int) (ns.map T.int) := by
  induction ns with
  | nil => exact .nil
  | cons n ns ih => exact .cons (.int n) ih
theorem Reps.strs (ns : List Str) : Reps K A H (ns.map V.str) (ns.map T.str) := by
  induction ns with
  | nil => exact .nil
  | cons n ns ih => exact .cons (.str n) ih
theorem Reps.of_ints : ∀ {xs : List V} {ns : List Int}, Reps K A H xs (ns.map T.int) → xs = ns.map V.int
  | [], [], _ => rfl
  | [], _ :: _, r => nomatch r
  | _ :: _, [], r => nomatch r
  | x :: xs, n :: ns, r => by
    cases r with
    | cons h r =>
      cases h
      rw [Reps.of_ints r]
      rfl
theorem Reps.of_strs : ∀ {xs : List V} {ns : List Str}, Reps K A H xs (ns.map T.str) → xs = ns.map V.str
  | [], [], _ => rfl
  | [], _ :: _, r => nomatch r
  | _ :: _, [], r => nomatch r
  | x :: xs, n :: ns, r => by
    cases r with
    | cons h r =>
      cases h
      rw [Reps.of_strs r]
      rfl
end
/-- an object that the frame alone holds, and where it stands -/
inductive Own (K : PySem.W.Frag) (A : ASet) (H : Hp) : V → T → List Addr → Prop where
  | lst {a : Addr} {xs : List V} {l : List T} (h : H a = some (.lst xs)) (r : Reps K A H xs l) : Own K A H (.ref a) (.lst l) [a]
  | dK {a : Addr} {kvs : List (Key × V)} {l : List T} (h : H a = some (.dK kvs)) (r : Reps K A H (kvs.map (·.2)) l) : Own K A H (.ref a) (.dK (kvs.map (·.1)) l) [a]
  | dT {a : Addr} {kvs : List (List Key × V)} {l : List T} (h : H a = some (.dT kvs)) (r : Reps K A H (kvs.map (·.2)) l) : Own K A H (.ref a) (.dT (kvs.map (·.1)) l) [a]
  | obj {a dx : Addr} {C : Str} {fs : List (Str × V)} {l : List T} (h : H a = some (.ins (He.ga K C) dx fs)) (r : Reps K A H (fs.map (·.2)) l) : Own K A H (.ref a) (.obj C (fs.map (·.1)) l) [a]
  | deal {d g : Addr} {l : List Int} {m : Int} (h1 : H d = some (.lst [.ref g, .int m])) (h2 : H g = some (.lst (l.map V.int))) (ne : d ≠ g) : Own K A H (.ref d) (.deal l m) [d, g]
section
variable {K : PySem.W.Frag} {A B C : ASet} {H H' : Hp} {v : V} {t : T} {As : List Addr}
theorem Own.lk (L : Lk C H H') (hC : ∀ a, C a → A a) (hd : ∀ a ∈ As, ¬ C a) (o : Own K A H v t As) : Own K A H' v t As := by
  have L' : Lk A H H' := L.mono hC
  cases o with
  | lst h r => exact .lst (L.all _ _ (hd _ (by simp)) h) (r.lk L')
  | dK h r => exact .dK (L.all _ _ (hd _ (by simp)) h) (r.lk L')
  | dT h r => exact .dT (L.all _ _ (hd _ (by simp)) h) (r.lk L')
  | obj h r => exact .obj (L.all _ _ (hd _ (by simp)) h) (r.lk L')
  | deal h1 h2 ne => exact .deal (L.all _ _ (hd _ (by simp)) h1) (L.all _ _ (hd _ (by simp)) h2) ne
theorem Own.weak (s : ∀ a, B a → A a ∨ H a = none) (o : Own K A H v t As) : Own K B H v t As := by
  cases o with
  | lst h r => exact .lst h (r.weak s)
  | dK h r => exact .dK h (r.weak s)
  | dT h r => exact .dT h (r.weak s)
  | obj h r => exact .obj h (r.weak s)
  | deal h1 h2 ne => exact .deal h1 h2 ne
theorem Own.dom (o : Own K A H v t As) : ∀ a ∈ As, ∃ u, H a = some u := by
  cases o with
  | lst h r => intro a ha; rw [List.mem_singleton] at ha; subst ha; exact ⟨_, h⟩
  | dK h r => intro a ha; rw [List.mem_singleton] at ha; subst ha; exact ⟨_, h⟩
  | dT h r => intro a ha; rw [List.mem_singleton] at ha; subst ha; exact ⟨_, h⟩
  | obj h r => intro a ha; rw [List.mem_singleton] at ha; subst ha; exact ⟨_, h⟩
  | deal h1 h2 ne =>
    intro a ha
    simp only [List.mem_cons, List.not_mem_nil, or_false] at ha
    rcases ha with rfl | rfl
    · exact ⟨_, h1⟩
    · exact ⟨_, h2⟩
/-- an owned object given away (no deal) -/
theorem Own.give (o : Own K A H v t As) (hB : ∀ a ∈ As, ¬ B a) (s : ∀ a, B a → A a ∨ H a = none) (hn : ∀ l m, t ≠ .deal l m) : Rep K B H v t := by
  cases o with
  | lst h r => exact .lst (hB _ (by simp)) h (r.weak s)
  | dK h r => exact .dK (hB _ (by simp)) h (r.weak s)
  | dT h r => exact .dT (hB _ (by simp)) h (r.weak s)
  | obj h r => exact .obj (hB _ (by simp)) h (r.weak s)
  | deal h1 h2 ne => exact absurd rfl (hn _ _)
end
/-- a slot: nothing known, a value, an object of its own, an object that the caller lent -/
inductive Sl where
  | un | im (t : T) | ow (t : T) | rf (t : T)
abbrev Ro := List Sl
/-- the tree of an object in a slot -/
def Sl.tr : Sl → Option T
  | .ow t => some t
  | .rf t => some t
  | _ => none
def Sl.up : Sl → T → Sl
  | .ow _, t => .ow t
  | .rf _, t => .rf t
  | s, _ => s
/-- what a frame has from its caller: what it avoids, the heap at first, what is lent, the slots at first, where the lent objects stand -/
structure Frm where
  A : ASet
  Ho : Hp
  B : ASet
  σ0 : L2.St
  F0 : Nat → List Addr
inductive SlotAt (K : PySem.W.Frag) (A : ASet) (H : Hp) : Option (Option V) → List Addr → Option Sl → Prop where
  | out {o : Option (Option V)} : SlotAt K A H o [] none
  | un {o : Option (Option V)} : SlotAt K A H o [] (some .un)
  | im {v : V} {t : T} (r : Rep K A H v t) : SlotAt K A H (some (some v)) [] (some (.im t))
  | ow {v : V} {t : T} {As : List Addr} (o : Own K A H v t As) : SlotAt K A H (some (some v)) As (some (.ow t))
  | rf {v : V} {t : T} {As : List Addr} (o : Own K A H v t As) : SlotAt K A H (some (some v)) As (some (.rf t))
def OwP (F : Nat → List Addr) : ASet := fun a => ∃ i, a ∈ F i
def Av (A : ASet) (F : Nat → List Addr) : ASet := fun a => A a ∨ OwP F a
structure SAt (K : PySem.W.Frag) (φ : Frm) (F : Nat → List Addr) (σ : L2.St) (H : Hp) (ρ : Ro) : Prop where
  len : σ.length = ρ.length
  keep : Lk φ.B φ.Ho H
  adom : ∀ a, φ.A a → ∃ o, H a = some o
  odom : ∀ i, ∀ a ∈ F i, φ.B a ∨ φ.Ho a = none
  oA : ∀ i, ∀ a ∈ F i, ¬ φ.A a
  dj : ∀ i j a, a ∈ F i → a ∈ F j → i = j
  pin : ∀ i t, ρ[i]? = some (.rf t) → σ[i]? = φ.σ0[i]? ∧ F i = φ.F0 i
  bo : ∀ a, φ.B a → ∃ i t, ρ[i]? = some (.rf t) ∧ a ∈ F i
  sl : ∀ i, SlotAt K (Av φ.A F) H σ[i]? (F i) ρ[i]?
section
variable {K : PySem.W.Frag} {φ : Frm} {A : ASet} {H H' : Hp} {F : Nat → List Addr} {σ : L2.St} {ρ : Ro}
theorem SAt.odm (S : SAt K φ F σ H ρ) (i : Nat) : ∀ a ∈ F i, ∃ o, H a = some o := by
  intro a ha
  have := S.sl i
  generalize σ[i]? = x at this
  generalize ρ[i]? = y at this
  generalize F i = As at this ha
  cases this with
  | out => cases ha
  | un => cases ha
  | im r => cases ha
  | ow o => exact o.dom a ha
  | rf o => exact o.dom a ha
theorem SAt.dom (S : SAt K φ F σ H ρ) : ∀ a, Av φ.A F a → ∃ o, H a = some o := by
  rintro a (h | ⟨i, h⟩)
  · exact S.adom a h
  · exact S.odm i a h
theorem SAt.fresh (S : SAt K φ F σ H ρ) {p : Addr} (h : H p = none) : ¬ Av φ.A F p := fun z => by
  obtain ⟨o, e⟩ := S.dom p z
  rw [h] at e
  cases e
theorem SlotAt.lk {C : ASet} {o : Option (Option V)} {As : List Addr} {s : Option Sl} (L : Lk C H H') (hC : ∀ a, C a → A a) (hd : ∀ a ∈ As, ¬ C a) (h : SlotAt K A H o As s) : SlotAt K A H' o As s := by
  cases h with
  | out => exact .out
  | un => exact .un
  | im r => exact .im (r.lk (L.mono hC))
  | ow o => exact .ow (o.lk L hC hd)
  | rf o => exact .rf (o.lk L hC hd)
theorem SAt.same (S : SAt K φ F σ H ρ) (s : Same H H') : SAt K φ F σ H' ρ where
  len := S.len
  keep := S.keep.trans (Lk.of_same s)
  adom := fun a h => by
    obtain ⟨o, e⟩ := S.adom a h
    exact ⟨o, s _ _ e⟩
  odom := S.odom
  oA := S.oA
  dj := S.dj
  pin := S.pin
  bo := S.bo
  sl := fun i => (S.sl i).lk (C := fun _ => False) (Lk.of_same s) (fun _ z => z.elim) (fun _ _ z => z)
/-- what a slot holds -/
theorem SAt.im (S : SAt K φ F σ H ρ) {i : Nat} {t : T} (h : ρ[i]? = some (.im t)) : ∃ v, σ[i]? = some (some v) ∧ Rep K (Av φ.A F) H v t := by
  have := S.sl i
  rw [h] at this
  generalize σ[i]? = x at this
  generalize F i = As at this
  cases this with
  | im r => exact ⟨_, rfl, r⟩
theorem SAt.own (S : SAt K φ F σ H ρ) {i : Nat} {s : Sl} {t : T} (h : ρ[i]? = some s) (hs : s.tr = some t) : ∃ v, σ[i]? = some (some v) ∧ Own K (Av φ.A F) H v t (F i) := by
  have := S.sl i
  rw [h] at this
  generalize σ[i]? = x at this
  generalize F i = As at this
  cases this with
  | un => cases hs
  | im r => cases hs
  | ow o =>
    cases hs
    exact ⟨_, rfl, o⟩
  | rf o =>
    cases hs
    exact ⟨_, rfl, o⟩
/-- the object of one slot was changed -/
theorem SAt.put (S : SAt K φ F σ H ρ) {i : Nat} {s : Sl} {t t' : T} (h : ρ[i]? = some s) (hs : s.tr = some t) {v : V} (hv : σ[i]? = some (some v)) (L : Lk (fun a => a ∈ F i) H H') (o : Own K (Av φ.A F) H' v t' (F i)) : SAt K φ F σ H' (ρ.set i (s.up t')) := by
  have sub : ∀ a, a ∈ F i → Av φ.A F a := fun a ha => .inr ⟨i, ha⟩
  have hl : i < ρ.length := (List.getElem?_eq_some_iff.mp h).1
  refine ⟨by rw [List.length_set]; exact S.len, ?_, (fun a h => by obtain ⟨o, e⟩ := S.adom a h; exact ⟨o, L.all _ _ (fun z => S.oA i a z h) e⟩), S.odom, S.oA, S.dj, fun j u hj => ?_, fun a ha => ?_, fun j => ?_⟩
  · refine ⟨fun b u nb e => ?_, fun b xs e => L.tup _ _ (S.keep.tup _ _ e), fun b u x e => L.frz _ _ _ (S.keep.frz _ _ _ e)⟩
    refine L.all _ _ (fun z => ?_) (S.keep.all _ _ nb e)
    rcases S.odom i b z with q | q
    · exact nb q
    · rw [q] at e
      cases e
  · by_cases q : j = i
    · subst q
      rw [List.getElem?_set_self hl] at hj
      cases s with
      | rf x => exact S.pin j _ h
      | ow x => cases hj
      | un => cases hs
      | im x => cases hs
    · rw [List.getElem?_set_ne (fun z => q z.symm)] at hj
      exact S.pin j u hj
  · obtain ⟨j, u, hj, m⟩ := S.bo a ha
    by_cases q : j = i
    · subst q
      rw [h] at hj
      cases hj
      exact ⟨j, t', by rw [List.getElem?_set_self hl]; rfl, m⟩
    · exact ⟨j, u, by rw [List.getElem?_set_ne (fun z => q z.symm)]; exact hj, m⟩
  · by_cases hj : j = i
    · subst hj
      rw [List.getElem?_set_self hl, hv]
      cases s with
      | rf x => exact .rf o
      | ow x => exact .ow o
      | un => cases hs
      | im x => cases hs
    · rw [List.getElem?_set_ne (fun z => hj z.symm)]
      exact (S.sl j).lk L sub fun a ha z => hj (S.dj j i a ha z)
/-- a slot gets a value -/
theorem SAt.set (S : SAt K φ F σ H ρ) {i : Nat} {v : V} {t : T} (r : Rep K (Av φ.A F) H v t) (hn : ∀ s, ρ[i]? = some s → s.tr = none) (hi : i < ρ.length) : SAt K φ F (σ.set i (some v)) H (ρ.set i (.im t)) := by
  refine ⟨by rw [List.length_set, List.length_set]; exact S.len, S.keep, S.adom, S.odom, S.oA, S.dj, fun j u hj => ?_, fun a ha => ?_, fun j => ?_⟩
  · by_cases q : j = i
    · subst q
      rw [List.getElem?_set_self hi] at hj
      cases hj
    · rw [List.getElem?_set_ne (fun z => q z.symm)] at hj ⊢
      exact S.pin j u hj
  · obtain ⟨j, u, hj, m⟩ := S.bo a ha
    refine ⟨j, u, ?_, m⟩
    rw [List.getElem?_set_ne (fun q => by subst q; exact absurd (hn _ hj) (by simp [Sl.tr]))]
    exact hj
  by_cases hj : j = i
  · subst hj
    rw [List.getElem?_set_self hi, List.getElem?_set_self (by rw [S.len]; exact hi)]
    have := S.sl j
    generalize σ[j]? = x at this
    generalize e : ρ[j]? = y at this
    generalize F j = As at this
    cases this with
    | out => exact .im r
    | un => exact .im r
    | im _ => exact .im r
    | ow o => exact absurd (hn _ e) (by simp [Sl.tr])
    | rf o => exact absurd (hn _ e) (by simp [Sl.tr])
  · rw [List.getElem?_set_ne (fun z => hj z.symm), List.getElem?_set_ne (fun z => hj z.symm)]
    exact S.sl j
def Fset (F : Nat → List Addr) (i : Nat) (As : List Addr) : Nat → List Addr := fun j => if j = i then As else F j
theorem fset_same (F : Nat → List Addr) (i : Nat) (As : List Addr) : Fset F i As i = As := if_pos rfl
theorem fset_ne (F : Nat → List Addr) {i j : Nat} (As : List Addr) (h : j ≠ i) : Fset F i As j = F j := if_neg h
/-- a slot that held an own object lets it go -/
theorem SAt.drop (S : SAt K φ F σ H ρ) {i : Nat} (hr : ∀ u, ρ[i]? ≠ some (.rf u)) : SAt K φ (Fset F i []) σ H (ρ.set i .un) := by
  have bo' : ∀ a, φ.B a → ∃ j u, (ρ.set i .un)[j]? = some (.rf u) ∧ a ∈ Fset F i [] j := fun a ha => by
    obtain ⟨j, u, hj, m⟩ := S.bo a ha
    have q : j ≠ i := fun q => hr u (q ▸ hj)
    exact ⟨j, u, by rw [List.getElem?_set_ne (fun z => q z.symm)]; exact hj, by rw [fset_ne _ _ q]; exact m⟩
  have pn : ∀ j u, (ρ.set i .un)[j]? = some (.rf u) → σ[j]? = φ.σ0[j]? ∧ Fset F i [] j = φ.F0 j := fun j u hj => by
    by_cases q : j = i
    · subst q
      rw [List.getElem?_set] at hj
      simp at hj
    · rw [List.getElem?_set_ne (fun z => q z.symm)] at hj
      rw [fset_ne _ _ q]
      exact S.pin j u hj
  have sub : ∀ a, Av φ.A (Fset F i []) a → Av φ.A F a := by
    rintro a (h | ⟨j, h⟩)
    · exact .inl h
    · by_cases hj : j = i
      · subst hj
        rw [fset_same] at h
        cases h
      · rw [fset_ne _ _ hj] at h
        exact .inr ⟨j, h⟩
  have ofF : ∀ j, ∀ a ∈ Fset F i [] j, a ∈ F j ∧ j ≠ i := by
    intro j a h
    by_cases hj : j = i
    · subst hj
      rw [fset_same] at h
      cases h
    · rw [fset_ne _ _ hj] at h
      exact ⟨h, hj⟩
  refine ⟨by rw [List.length_set]; exact S.len, S.keep, S.adom, fun j a h => S.odom j a (ofF j a h).1, fun j a h => S.oA j a (ofF j a h).1, fun j k a h1 h2 => S.dj j k a (ofF j a h1).1 (ofF k a h2).1, pn, bo', fun j => ?_⟩
  by_cases hj : j = i
  · subst hj
    rw [fset_same]
    by_cases hl : j < ρ.length
    · rw [List.getElem?_set_self hl]
      exact .un
    · have e : (ρ.set j Sl.un)[j]? = none := List.getElem?_eq_none (by rw [List.length_set]; omega)
      rw [e]
      exact .out
  · rw [List.getElem?_set_ne (fun z => hj z.symm), fset_ne _ _ hj]
    have := S.sl j
    generalize σ[j]? = x at this ⊢
    generalize ρ[j]? = y at this ⊢
    generalize F j = As at this ⊢
    cases this with
    | out => exact .out
    | un => exact .un
    | im r => exact .im (r.weak fun a z => .inl (sub a z))
    | ow o => exact .ow (o.weak fun a z => .inl (sub a z))
    | rf o => exact .rf (o.weak fun a z => .inl (sub a z))
/-- a slot gets a new object of its own, which was laid at p behind H -/
theorem SAt.new (S : SAt K φ F σ H ρ) {i : Nat} {v : V} {t : T} {As : List Addr} (hp : ∀ p ∈ As, H p = none) (s : Same H H') (o : Own K (Av φ.A (Fset F i As)) H' v t As) (hn : ∀ s, ρ[i]? = some s → s.tr = none) (hi : i < ρ.length) :
    SAt K φ (Fset F i As) (σ.set i (some v)) H' (ρ.set i (.ow t)) := by
  have nF : ∀ p ∈ As, ∀ j, p ∉ F j := fun p hpp j z => by
    obtain ⟨u, e⟩ := S.odm j p z
    rw [hp p hpp] at e
    cases e
  have nA : ∀ p ∈ As, ¬ φ.A p := fun p hpp z => by
    obtain ⟨u, e⟩ := S.dom p (.inl z)
    rw [hp p hpp] at e
    cases e
  have hoN : ∀ p ∈ As, φ.Ho p = none ∨ φ.B p := fun p hpp => by
    cases e : φ.Ho p with
    | none => exact .inl rfl
    | some u =>
      by_cases hb : φ.B p
      · exact .inr hb
      · have := S.keep.all _ _ hb e
        rw [hp p hpp] at this
        cases this
  have ofF : ∀ j, ∀ a ∈ Fset F i As j, (j = i ∧ a ∈ As) ∨ (j ≠ i ∧ a ∈ F j) := by
    intro j a h
    by_cases hj : j = i
    · subst hj
      rw [fset_same] at h
      exact .inl ⟨rfl, h⟩
    · rw [fset_ne _ _ hj] at h
      exact .inr ⟨hj, h⟩
  have sub : ∀ a, Av φ.A (Fset F i As) a → Av φ.A F a ∨ H a = none := by
    rintro a (h | ⟨j, h⟩)
    · exact .inl (.inl h)
    · rcases ofF j a h with ⟨_, q⟩ | ⟨_, q⟩
      · exact .inr (hp a q)
      · exact .inl (.inr ⟨j, q⟩)
  refine ⟨by rw [List.length_set, List.length_set]; exact S.len, S.keep.trans (Lk.of_same s), (fun a h => by obtain ⟨o, e⟩ := S.adom a h; exact ⟨o, s _ _ e⟩), fun j a h => ?_, fun j a h => ?_, fun j k a h1 h2 => ?_, fun j u hj => ?_, fun a ha => ?_, fun j => ?_⟩
  · rcases ofF j a h with ⟨_, q⟩ | ⟨_, q⟩
    · exact (hoN a q).elim .inr .inl
    · exact S.odom j a q
  · rcases ofF j a h with ⟨_, q⟩ | ⟨_, q⟩
    · exact nA a q
    · exact S.oA j a q
  · rcases ofF j a h1 with ⟨r1, q1⟩ | ⟨r1, q1⟩
    · rcases ofF k a h2 with ⟨r2, q2⟩ | ⟨r2, q2⟩
      · rw [r1, r2]
      · exact absurd q2 (nF a q1 k)
    · rcases ofF k a h2 with ⟨r2, q2⟩ | ⟨r2, q2⟩
      · exact absurd q1 (nF a q2 j)
      · exact S.dj j k a q1 q2
  · by_cases q : j = i
    · subst q
      rw [List.getElem?_set_self hi] at hj
      cases hj
    · rw [List.getElem?_set_ne (fun z => q z.symm)] at hj ⊢
      rw [fset_ne _ _ q]
      exact S.pin j u hj
  · obtain ⟨j, u, hj, m⟩ := S.bo a ha
    have q : j ≠ i := fun q => by
      subst q
      exact absurd (hn _ hj) (by simp [Sl.tr])
    exact ⟨j, u, by rw [List.getElem?_set_ne (fun z => q z.symm)]; exact hj, by rw [fset_ne _ _ q]; exact m⟩
  · by_cases hj : j = i
    · subst hj
      rw [List.getElem?_set_self hi, List.getElem?_set_self (by rw [S.len]; exact hi), fset_same]
      exact .ow o
    · rw [List.getElem?_set_ne (fun z => hj z.symm), List.getElem?_set_ne (fun z => hj z.symm), fset_ne _ _ hj]
      have := S.sl j
      generalize σ[j]? = x at this ⊢
      generalize ρ[j]? = y at this ⊢
      generalize hF : F j = Aj at this ⊢
      cases this with
      | out => exact .out
      | un => exact .un
      | im r => exact .im ((r.weak sub).same s)
      | ow o => exact .ow ((o.weak sub).lk (C := fun _ => False) (Lk.of_same s) (fun _ z => z.elim) (fun _ _ z => z))
      | rf o => exact .rf ((o.weak sub).lk (C := fun _ => False) (Lk.of_same s) (fun _ z => z.elim) (fun _ _ z => z))
/-- a slot's own object becomes a plain value -/
theorem SAt.give (S : SAt K φ F σ H ρ) {i : Nat} {t : T} (h : ρ[i]? = some (.ow t)) (hn : ∀ l m, t ≠ .deal l m) : SAt K φ (Fset F i []) σ H (ρ.set i (.im t)) := by
  obtain ⟨v, hv, o⟩ := S.own h rfl
  have D := S.drop (i := i) (fun u z => by rw [h] at z; cases z)
  have hl : i < ρ.length := (List.getElem?_eq_some_iff.mp h).1
  have r : Rep K (Av φ.A (Fset F i [])) H v t := o.give (B := Av φ.A (Fset F i [])) (fun a ha z => by
    rcases z with z | ⟨j, z⟩
    · exact S.oA i a ha z
    · by_cases hj : j = i
      · subst hj
        rw [fset_same] at z
        cases z
      · rw [fset_ne _ _ hj] at z
        exact hj (S.dj j i a z ha)) (fun a z => by
    rcases z with z | ⟨j, z⟩
    · exact .inl (.inl z)
    · by_cases hj : j = i
      · subst hj
        rw [fset_same] at z
        cases z
      · rw [fset_ne _ _ hj] at z
        exact .inl (.inr ⟨j, z⟩)) hn
  have := D.set (i := i) (v := v) (t := t) r (fun s z => by rw [List.getElem?_set_self hl] at z; cases z; rfl) (by rw [List.length_set]; exact hl)
  rw [List.set_set] at this
  have e : σ.set i (some v) = σ := by
    apply List.ext_getElem?
    intro j
    by_cases hj : j = i
    · subst hj
      rw [List.getElem?_set_self (by rw [S.len]; exact hl), hv]
    · rw [List.getElem?_set_ne (fun z => hj z.symm)]
  rwa [e] at this
end
end Tm

/-! Mirror 1: runs of trees, readings by mirrors, expressions. -/
namespace Tm
open PySem PySem.Spec PyProof.Rows L2
inductive Rs (α : Type) where
  | ok (a : α) (ρ : Ro)
  | ex (c : Str) (ns : List Str) (l : List T) (ρ : Ro)
  | st
abbrev Ev (α : Type) := Ro → Rs α
def Ev.bind {α β : Type} (f : Ev α) (g : α → Ev β) : Ev β := fun ρ => match f ρ with
  | .ok a ρ1 => g a ρ1
  | .ex c ns l ρ1 => .ex c ns l ρ1
  | .st => .st
def Ev.lift {α : Type} (o : Option α) : Ev α := fun ρ => match o with
  | some a => .ok a ρ
  | none => .st
/-- a raised exception -/
def XAt (K : PySem.W.Frag) (A : ASet) (H : Hp) (c : Str) (ns : List Str) (l : List T) (cls : Value) (d : Option Addr) : Prop :=
  cls = .ref (He.ga K c) ∧ ((d = none ∧ ns = [] ∧ l = []) ∨ ∃ dd fs, d = some dd ∧ H dd = some (.xd fs) ∧ fs.map (·.1) = ns ∧ Reps K A H (fs.map (·.2)) l)
def RsOk {α ν : Type} (K : PySem.W.Frag) (W : WX) (φ : Frm) (F : Nat → List Addr) (σ : L2.St) (H : Hp) (RP : ν → α → Hp → Prop) (Q : ν → Hp → Prop) : Rs α → Prop
  | .ok a ρ' => ∀ v H', SAt K φ F σ H' ρ' → Lk (OwP F) H H' → RP v a H' → Q v H'
  | .ex c ns l ρ' => ∀ cls d H', SAt K φ F σ H' ρ' → XAt K (Av φ.A F) H' c ns l cls d → W cls d σ H'
  | .st => False
section
variable {α β ν μ : Type} {K : PySem.W.Frag} {W : WX} {φ : Frm} {H H1 : Hp} {F : Nat → List Addr} {σ : L2.St} {RP : ν → α → Hp → Prop} {RQ : μ → β → Hp → Prop} {Q : ν → Hp → Prop} {Q' : μ → Hp → Prop} {ρ ρ1 : Ro}
theorem RsOk.step {r : Rs α} (L : Lk (OwP F) H H1) (h : RsOk K W φ F σ H RP Q r) : RsOk K W φ F σ H1 RP Q r := by
  cases r with
  | ok a ρ' => exact fun v H' S L' R => h v H' S (L.trans L') R
  | ex c ns l ρ' => exact h
  | st => exact h
theorem RsOk.bind {f : Ev α} {g : α → Ev β} (h : RsOk K W φ F σ H RQ Q' (Ev.bind f g ρ))
    (k : ∀ a ρ1 v H1, f ρ = .ok a ρ1 → SAt K φ F σ H1 ρ1 → Lk (OwP F) H H1 → RP v a H1 → RsOk K W φ F σ H1 RQ Q' (g a ρ1) → Q v H1) : RsOk K W φ F σ H RP Q (f ρ) := by
  unfold Ev.bind at h
  cases e : f ρ with
  | ok a ρ' =>
    rw [e] at h
    exact fun v H' S L R => k a ρ' v H' e S L R (RsOk.step L h)
  | ex c ns l ρ' =>
    rw [e] at h
    exact h
  | st =>
    rw [e] at h
    exact h
theorem RsOk.mono {r : Rs α} {Q2 : ν → Hp → Prop} (h : RsOk K W φ F σ H RP Q r) (k : ∀ v H', Q v H' → Q2 v H') : RsOk K W φ F σ H RP Q2 r := by
  cases r with
  | ok a ρ' => exact fun v H' S L R => k _ _ (h v H' S L R)
  | ex c ns l ρ' => exact h
  | st => exact h
end
/-- the readings -/
def tX (K : PySem.W.Frag) (W : WX) (f : Ev T) : TE := fun σ H Q => ∃ φ F ρ, SAt K φ F σ H ρ ∧ RsOk K W φ F σ H (fun v t H' => Rep K (Av φ.A F) H' v t) Q (f ρ)
def tXA (K : PySem.W.Frag) (W : WX) (f : Ev (List T)) : TA := fun σ H Q => ∃ φ F ρ, SAt K φ F σ H ρ ∧ RsOk K W φ F σ H (fun v t H' => Reps K (Av φ.A F) H' v t) Q (f ρ)
def tXT (K : PySem.W.Frag) (W : WX) (f : Ev Bool) : TT := fun σ H Q => ∃ φ F ρ, SAt K φ F σ H ρ ∧ RsOk K W φ F σ H (fun v t _ => v = t) Q (f ρ)
theorem PE.imp {X : Cx} {e : Expr} {t t' : TE} (h : PE X e t) (i : ∀ σ H Q, t' σ H Q → t σ H Q) : PE X e t' := ⟨fun pins s σ H Q I hw => h.run pins s σ H Q I (i _ _ _ hw)⟩
theorem PT.imp {X : Cx} {e : Expr} {t t' : TT} (h : PT X e t) (i : ∀ σ H Q, t' σ H Q → t σ H Q) : PT X e t' := ⟨fun pins s σ H Q I hw => h.run pins s σ H Q I (i _ _ _ hw)⟩
theorem PW.imp {X : Cx} {e : Expr} {t t' : TT} (h : PW X e t) (i : ∀ σ H Q, t' σ H Q → t σ H Q) : PW X e t' := ⟨fun wh pins s σ H Q I hw => h.run wh pins s σ H Q I (i _ _ _ hw)⟩
theorem PA.imp {X : Cx} {e : List Expr} {t t' : TA} (h : PA X e t) (i : ∀ σ H Q, t' σ H Q → t σ H Q) : PA X e t' := ⟨fun pos pins s σ H Q I hw => h.run pos pins s σ H Q I (i _ _ _ hw)⟩
theorem PS.imp {X : Cx} {e : Stmt} {t t' : TS} (h : PS X e t) (i : ∀ D σ H, t' D σ H → t D σ H) : PS X e t' := ⟨fun pins s σ H D I hw => h.run pins s σ H D I (i _ _ _ hw)⟩
theorem PSs.imp {X : Cx} {e : List Stmt} {t t' : TS} (h : PSs X e t) (i : ∀ D σ H, t' D σ H → t D σ H) : PSs X e t' := ⟨fun pins s σ H D I hw => h.run pins s σ H D I (i _ _ _ hw)⟩
/-! ### the combinators -/
def mVar (i : Nat) : Ev T := fun ρ => match ρ[i]? with
  | some (.im t) => .ok t ρ
  | _ => .st
def mC (t : T) : Ev T := fun ρ => .ok t ρ
def mOp (f : T → T → Option T) (a b : Ev T) : Ev T := a.bind fun x => b.bind fun y => Ev.lift (f x y)
def mUn (f : T → Option T) (a : Ev T) : Ev T := a.bind fun x => Ev.lift (f x)
def mNil : Ev (List T) := fun ρ => .ok [] ρ
def mCons (a : Ev T) (r : Ev (List T)) : Ev (List T) := a.bind fun x => r.bind fun xs => fun ρ => .ok (x :: xs) ρ
def mB (f : List T → Option T) (a : Ev (List T)) : Ev T := a.bind fun xs => Ev.lift (f xs)
def mTst (a : Ev T) : Ev Bool := a.bind fun x => match x with
  | .bl b => fun ρ => .ok b ρ
  | _ => fun _ => .st
def mNotT (a : Ev Bool) : Ev Bool := a.bind fun b => fun ρ => .ok (!b) ρ
def mAndT (a b : Ev Bool) : Ev Bool := a.bind fun x => if x = true then b else fun ρ => .ok false ρ
def mOrT (a b : Ev Bool) : Ev Bool := a.bind fun x => if x = true then fun ρ => .ok true ρ else b
def mVal (a : Ev Bool) : Ev T := a.bind fun b => fun ρ => .ok (.bl b) ρ
def mIf (c : Ev Bool) (a b : Ev T) : Ev T := c.bind fun x => if x = true then a else b
def mChain (f g : T → T → Option T) (a b c : Ev T) : Ev T := a.bind fun x => b.bind fun y => match f x y with
  | some (.bl true) => c.bind fun z => Ev.lift (g y z)
  | some (.bl false) => fun ρ => .ok (.bl false) ρ
  | _ => fun _ => .st
def fTup (xs : List T) : Option T := if xs.length ≤ 1000000 then some (.tup xs) else none
def fLst (xs : List T) : Option T := if xs.length ≤ 1000000 then some (.lst xs) else none
/-! ### what an operation does to trees -/
def Dom (A : ASet) (H : Hp) : Prop := ∀ a, A a → ∃ o, H a = some o
theorem Dom.same {A : ASet} {H H' : Hp} (d : Dom A H) (s : Same H H') : Dom A H' := fun a h => by
  obtain ⟨o, e⟩ := d a h
  exact ⟨o, s _ _ e⟩
theorem Dom.new {A : ASet} {H : Hp} (d : Dom A H) {p : Addr} (h : H p = none) : ¬ A p := fun z => by
  obtain ⟨o, e⟩ := d p z
  rw [h] at e
  cases e
def OpT (K : PySem.W.Frag) (r : R2) (f : T → T → Option T) : Prop := ∀ A H x y tx ty tz Q, Dom A H → Rep K A H x tx → Rep K A H y ty → f tx ty = some tz → (∀ v H', Same H H' → Rep K A H' v tz → Q v H') → r x y H Q
def UnT (K : PySem.W.Frag) (r : V → Hp → VK → Prop) (f : T → Option T) : Prop := ∀ A H x tx tz Q, Dom A H → Rep K A H x tx → f tx = some tz → (∀ v H', Same H H' → Rep K A H' v tz → Q v H') → r x H Q
def CallT (K : PySem.W.Frag) (r : List V → Hp → VK → Prop) (f : List T → Option T) : Prop := ∀ A H xs ts tz Q, Dom A H → Reps K A H xs ts → f ts = some tz → (∀ v H', Same H H' → Rep K A H' v tz → Q v H') → r xs H Q
def MtT (K : PySem.W.Frag) (r : V → List V → Hp → VK → Prop) (f : T → List T → Option T) : Prop := ∀ A H x xs tx ts tz Q, Dom A H → Rep K A H x tx → Reps K A H xs ts → f tx ts = some tz → (∀ v H', Same H H' → Rep K A H' v tz → Q v H') → r x xs H Q
theorem OpT.or1 {K : PySem.W.Frag} {r r' : R2} {f : T → T → Option T} (h : OpT K r f) : OpT K (fun x y H Q => r x y H Q ∨ r' x y H Q) f := fun A H x y tx ty tz Q d rx ry e k => .inl (h A H x y tx ty tz Q d rx ry e k)
section
variable {X : Cx} {K : PySem.W.Frag} {W : WX} {a b c e : Expr} {es : List Expr} {fa fb fc : Ev T} {pos p : Pos}
theorem RsOk.lift {φ : Frm} {H : Hp} {F : Nat → List Addr} {σ : L2.St} {Q : VK} {ρ : Ro} {o : Option T} (h : RsOk K W φ F σ H (fun v t H' => Rep K (Av φ.A F) H' v t) Q (Ev.lift o ρ)) : ∃ t, o = some t ∧ RsOk K W φ F σ H (fun v t H' => Rep K (Av φ.A F) H' v t) Q (.ok t ρ) := by
  cases o with
  | none => exact h.elim
  | some t => exact ⟨t, rfl, h⟩
theorem SAt.domv {φ : Frm} {H : Hp} {F : Nat → List Addr} {σ : L2.St} {ρ : Ro} (S : SAt K φ F σ H ρ) : Dom (Av φ.A F) H := S.dom
theorem m_var (i : Nat) {x : Str} (hN : X.N[i]? = some x := by rfl) (hv : Vis X.env.scope x := by first | exact Or.inl rfl | exact Or.inr (Or.inl rfl) | exact Or.inr (Or.inr rfl)) (hd : (x == ("__debug__" : Str)) = false := by decide)
    (hcd : (x == ("__classdict__" : Str)) = false := by decide) : PE X (.Name x pos) (tX K W (mVar i)) := by
  refine PE.imp (pe_var hN hv hd hcd) fun σ H Q h => ?_
  obtain ⟨φ, F, ρ, S, h⟩ := h
  unfold mVar at h
  split at h
  · rename_i t e
    obtain ⟨v, hv, r⟩ := S.im e
    exact ⟨v, hv, h v H S Lk.refl r⟩
  · exact h.elim
theorem m_const {t : T} {v : V} (h : PE X e (tC v)) (r : ∀ A H, Rep K A H v t) : PE X e (tX K W (mC t)) := by
  refine PE.imp h fun σ H Q h => ?_
  obtain ⟨φ, F, ρ, S, h⟩ := h
  exact h v H S Lk.refl (r _ _)
theorem m_int {i : Int} {j} : PE X (.Constant (.int i) j pos) (tX K W (mC (.int i))) := m_const pe_int fun _ _ => .int i
theorem m_str {i : Str} {j} : PE X (.Constant (.str i) j pos) (tX K W (mC (.str i))) := m_const pe_str fun _ _ => .str i
theorem m_bl {i : Bool} {j} : PE X (.Constant (.bool i) j pos) (tX K W (mC (.bl i))) := m_const pe_bl fun _ _ => .bl i
theorem m_non {j} : PE X (.Constant .none j pos) (tX K W (mC .non)) := m_const pe_non fun _ _ => .non
theorem m_gi {x : Str} {i : Int} (hm : ∃ u, X.mg x = some (.int i u)) (hg : Gl X x := by rfl) (hd : (x == ("__debug__" : Str)) = false := by decide) : PE X (.Name x pos) (tX K W (mC (.int i))) := m_const (pe_gi hm hg hd) fun _ _ => .int i
theorem m_gs {x : Str} {i : Str} (hm : ∃ u, X.mg x = some (.str i u)) (hg : Gl X x := by rfl) (hd : (x == ("__debug__" : Str)) = false := by decide) : PE X (.Name x pos) (tX K W (mC (.str i))) := m_const (pe_gs hm hg hd) fun _ _ => .str i
theorem op_read {r : R2} {f : T → T → Option T} {σ : L2.St} {H : Hp} {Q : VK} (ht : OpT K r f) (h : tX K W (mOp f fa fb) σ H Q) : tOp r (tX K W fa) (tX K W fb) σ H Q := by
  obtain ⟨φ, F, ρ, S, h⟩ := h
  refine ⟨φ, F, ρ, S, RsOk.bind h fun x ρ1 vx H1 _ S1 L1 R1 h1 => ⟨φ, F, ρ1, S1, RsOk.bind h1 fun y ρ2 vy H2 _ S2 L2 R2 h2 => ?_⟩⟩
  obtain ⟨t, e, h3⟩ := RsOk.lift h2
  exact ht _ H2 vx vy x y t Q S2.domv (R1.lk (L2.mono fun a z => .inr z)) R2 e fun v H' s r' => h3 v H' (S2.same s) (Lk.of_same s) r'
theorem m_op {op : Operator} {r : R2} {f : T → T → Option T} (ho : OpR X (binaryOp op) r) (ht : OpT K r f) (ha : PE X a (tX K W fa)) (hb : PE X b (tX K W fb)) : PE X (.BinOp a op b pos) (tX K W (mOp f fa fb)) :=
  PE.imp (pe_op ho ha hb) fun _ _ _ h => op_read ht h
theorem m_cmp {op : CmpOp} {r : R2} {f : T → T → Option T} (ho : OpR X (compareOp op) r) (ht : OpT K r f) (ha : PE X a (tX K W fa)) (hb : PE X b (tX K W fb)) (hm : behindInMarks op b = false) : PE X (.Compare a [op] [b] pos) (tX K W (mOp f fa fb)) :=
  PE.imp (pe_cmpR ho ha hb hm) fun _ _ _ h => op_read ht h
theorem m_ix {r : R2} {f : T → T → Option T} (ho : IxR X r) (ht : OpT K r f) (ha : PE X a (tX K W fa)) (hb : PE X b (tX K W fb)) (hs : PlainIx b) : PE X (.Subscript a b pos) (tX K W (mOp f fa fb)) :=
  PE.imp (pe_ix ho ha hb hs) fun _ _ _ h => op_read ht h
theorem tst_read {f : Ev T} {σ : L2.St} {H : Hp} {Q : Bool → Hp → Prop} (h : tXT K W (mTst f) σ H Q) : tX K W f σ H fun x H1 => ∃ c, x = .bl c ∧ Q c H1 := by
  obtain ⟨φ, F, ρ, S, h⟩ := h
  refine ⟨φ, F, ρ, S, RsOk.bind h fun x ρ1 vx H1 _ S1 L1 R1 h1 => ?_⟩
  cases R1 with
  | bl b => exact ⟨b, rfl, h1 b H1 S1 Lk.refl rfl⟩
  | _ => exact h1.elim
theorem m_tst (ha : PE X e (tX K W fa)) (he : ∀ whole, isTrue e X.env whole = (do let v ← whole; standAt e.pos; holding [v] (truthy v)) := by intro _; rfl) : PT X e (tXT K W (mTst fa)) :=
  PT.imp (pt_val ha he) fun _ _ _ h => tst_read h
theorem m_tcmp {op : CmpOp} {r : R2} {f : T → T → Option T} (ho : OpR X (compareOp op) r) (ht : OpT K r f) (ha : PE X a (tX K W fa)) (hb : PE X b (tX K W fb)) (hm : behindInMarks op b = false) : PT X (.Compare a [op] [b] pos) (tXT K W (mTst (mOp f fa fb))) :=
  PT.imp (pt_cmpR ho ha hb hm) fun σ H Q h => by
    have := tst_read h
    exact op_read (Q := fun x H1 => ∃ k, x = .bl k ∧ Q k H1) ht this
section
variable {ta tb : Ev Bool}
theorem m_tnot (ha : PT X a (tXT K W ta)) : PT X (.UnaryOp .Not a pos) (tXT K W (mNotT ta)) := PT.imp (pt_not ha) fun σ H Q h => by
  obtain ⟨φ, F, ρ, S, h⟩ := h
  exact ⟨φ, F, ρ, S, RsOk.bind h fun x ρ1 vx H1 _ S1 L1 R1 h1 => by subst R1; exact h1 _ H1 S1 Lk.refl rfl⟩
theorem m_pand1 (ha : PT X a (tXT K W ta)) : PW X (.BoolOp .And [a] pos) (tXT K W ta) := pw_and1 ha
theorem m_por1 (ha : PT X a (tXT K W ta)) : PW X (.BoolOp .Or [a] pos) (tXT K W ta) := pw_or1 ha
theorem m_pand {rest : List Expr} (ha : PT X a (tXT K W ta)) (hb : PW X (.BoolOp .And (b :: rest) pos) (tXT K W tb)) : PW X (.BoolOp .And (a :: b :: rest) pos) (tXT K W (mAndT ta tb)) := PW.imp (pw_and ha hb) fun σ H Q h => by
  obtain ⟨φ, F, ρ, S, h⟩ := h
  refine ⟨φ, F, ρ, S, RsOk.bind h fun x ρ1 vx H1 _ S1 L1 R1 h1 => ?_⟩
  subst R1
  cases vx with
  | true => exact iteT ⟨φ, F, ρ1, S1, h1⟩
  | false => exact iteF (h1 _ H1 S1 Lk.refl rfl)
theorem m_por {rest : List Expr} (ha : PT X a (tXT K W ta)) (hb : PW X (.BoolOp .Or (b :: rest) pos) (tXT K W tb)) : PW X (.BoolOp .Or (a :: b :: rest) pos) (tXT K W (mOrT ta tb)) := PW.imp (pw_or ha hb) fun σ H Q h => by
  obtain ⟨φ, F, ρ, S, h⟩ := h
  refine ⟨φ, F, ρ, S, RsOk.bind h fun x ρ1 vx H1 _ S1 L1 R1 h1 => ?_⟩
  subst R1
  cases vx with
  | true => exact iteT (h1 _ H1 S1 Lk.refl rfl)
  | false => exact iteF ⟨φ, F, ρ1, S1, h1⟩
theorem m_ifE {c : Expr} (hc : PT X c (tXT K W ta)) (ha : PE X a (tX K W fa)) (hb : PE X b (tX K W fb)) : PE X (.IfExp c a b pos) (tX K W (mIf ta fa fb)) := PE.imp (pe_ifExp hc ha hb) fun σ H Q h => by
  obtain ⟨φ, F, ρ, S, h⟩ := h
  refine ⟨φ, F, ρ, S, RsOk.bind h fun x ρ1 vx H1 _ S1 L1 R1 h1 => ?_⟩
  subst R1
  cases vx with
  | true => exact iteT ⟨φ, F, ρ1, S1, h1⟩
  | false => exact iteF ⟨φ, F, ρ1, S1, h1⟩
end
/-! bools as values -/
def mAnd (a b : Ev T) : Ev T := a.bind fun x => match x with
  | .bl true => b
  | .bl false => fun ρ => .ok (.bl false) ρ
  | _ => fun _ => .st
def mOr (a b : Ev T) : Ev T := a.bind fun x => match x with
  | .bl true => fun ρ => .ok (.bl true) ρ
  | .bl false => b
  | _ => fun _ => .st
def mNot (a : Ev T) : Ev T := a.bind fun x => match x with
  | .bl b => fun ρ => .ok (.bl (!b)) ρ
  | _ => fun _ => .st
theorem m_one {o : BoolOp} (ha : PE X a (tX K W fa)) : PE X (.BoolOp o [a] pos) (tX K W fa) := pe_one ha
theorem m_and {rest : List Expr} (ha : PE X a (tX K W fa)) (hb : PE X (.BoolOp .And (b :: rest) pos) (tX K W fb)) : PE X (.BoolOp .And (a :: b :: rest) pos) (tX K W (mAnd fa fb)) := PE.imp (pe_and ha hb) fun σ H Q h => by
  obtain ⟨φ, F, ρ, S, h⟩ := h
  refine ⟨φ, F, ρ, S, RsOk.bind h fun x ρ1 vx H1 _ S1 L1 R1 h1 => ?_⟩
  cases R1 with
  | bl c =>
    cases c with
    | true => exact ⟨true, rfl, iteT ⟨φ, F, ρ1, S1, h1⟩⟩
    | false => exact ⟨false, rfl, iteF (h1 _ H1 S1 Lk.refl (.bl _))⟩
  | _ => exact h1.elim
theorem m_or {rest : List Expr} (ha : PE X a (tX K W fa)) (hb : PE X (.BoolOp .Or (b :: rest) pos) (tX K W fb)) : PE X (.BoolOp .Or (a :: b :: rest) pos) (tX K W (mOr fa fb)) := PE.imp (pe_or ha hb) fun σ H Q h => by
  obtain ⟨φ, F, ρ, S, h⟩ := h
  refine ⟨φ, F, ρ, S, RsOk.bind h fun x ρ1 vx H1 _ S1 L1 R1 h1 => ?_⟩
  cases R1 with
  | bl c =>
    cases c with
    | true => exact ⟨true, rfl, iteT (h1 _ H1 S1 Lk.refl (.bl _))⟩
    | false => exact ⟨false, rfl, iteF ⟨φ, F, ρ1, S1, h1⟩⟩
  | _ => exact h1.elim
theorem m_not (ha : PE X a (tX K W fa)) : PE X (.UnaryOp .Not a pos) (tX K W (mNot fa)) := PE.imp (pe_not ha) fun σ H Q h => by
  obtain ⟨φ, F, ρ, S, h⟩ := h
  refine ⟨φ, F, ρ, S, RsOk.bind h fun x ρ1 vx H1 _ S1 L1 R1 h1 => ?_⟩
  cases R1 with
  | bl c => exact ⟨c, rfl, h1 _ H1 S1 Lk.refl (.bl _)⟩
  | _ => exact h1.elim
theorem m_un {op : UnaryOp} {r : V → Hp → VK → Prop} {f : T → Option T} (ho : UnR X (unaryOp op) r) (ht : UnT K r f) (ha : PE X a (tX K W fa)) : PE X (.UnaryOp op a pos) (tX K W (mUn f fa)) := PE.imp (pe_un ho ha) fun σ H Q h => by
  obtain ⟨φ, F, ρ, S, h⟩ := h
  refine ⟨φ, F, ρ, S, RsOk.bind h fun x ρ1 vx H1 _ S1 L1 R1 h1 => ?_⟩
  obtain ⟨t, e, h3⟩ := RsOk.lift h1
  exact ht _ H1 vx x t Q S1.domv R1 e fun v H' s r' => h3 v H' (S1.same s) (Lk.of_same s) r'
/-! chains of two -/
theorem chain_read {r r' : R2} {f g : T → T → Option T} {σ : L2.St} {H : Hp} {Q : VK} (ht : OpT K r f) (ht' : OpT K r' g) (h : tX K W (mChain f g fa fb fc) σ H Q) : tChain r r' (tX K W fa) (tX K W fb) (tX K W fc) σ H Q := by
  obtain ⟨φ, F, ρ, S, h⟩ := h
  refine ⟨φ, F, ρ, S, RsOk.bind h fun x ρ1 vx H1 _ S1 L1 R1 h1 => ⟨φ, F, ρ1, S1, RsOk.bind h1 fun y ρ2 vy H2 _ S2 L2 R2 h2 => ?_⟩⟩
  have R1' := R1.lk (L2.mono fun a z => .inr z)
  have key : ∀ k, f x y = some (.bl k) → _ := fun k e => ht _ H2 vx vy x y _ (fun z H3 => ∃ k, z = .bl k ∧ (if k = true then tX K W fc σ H3 fun w' H4 => r' vy w' H4 Q else Q (.bl false) H3)) S2.domv R1' R2 e
  cases e : f x y with
  | none =>
    simp only [e] at h2
    exact h2.elim
  | some tz =>
  cases tz with
  | bl k =>
   cases k with
   | true =>
    simp only [e] at h2
    refine key true e fun v H' s r1 => ?_
    cases r1
    refine ⟨true, rfl, iteT ⟨φ, F, ρ2, S2.same s, RsOk.bind (RsOk.step (Lk.of_same s) h2) fun z ρ3 vz H3 _ S3 L3 R3 h3 => ?_⟩⟩
    obtain ⟨t, e', h4⟩ := RsOk.lift h3
    exact ht' _ H3 vy vz y z t Q S3.domv ((R2.same s).lk (L3.mono fun a z => .inr z)) R3 e' fun v H' s r' => h4 v H' (S3.same s) (Lk.of_same s) r'
   | false =>
    simp only [e] at h2
    refine key false e fun v H' s r1 => ?_
    cases r1
    exact ⟨false, rfl, iteF (h2 _ H' (S2.same s) (Lk.of_same s) (.bl _))⟩
  | _ =>
    simp only [e] at h2
    exact h2.elim
theorem m_chain {op op' : CmpOp} {r r' : R2} {f g : T → T → Option T} (ho : OpR X (compareOp op) r) (ho' : OpR X (compareOp op') r') (ht : OpT K r f) (ht' : OpT K r' g) (ha : PE X a (tX K W fa)) (hb : PE X b (tX K W fb)) (hc : PE X c (tX K W fc))
    (hm : lastMarks [op, op'] [b, c] = false := by with_unfolding_all rfl) : PE X (.Compare a [op, op'] [b, c] pos) (tX K W (mChain f g fa fb fc)) :=
  PE.imp (pe_chain ho ho' ha hb hc hm) fun _ _ _ h => chain_read ht ht' h
theorem m_tchain {op op' : CmpOp} {r r' : R2} {f g : T → T → Option T} (ho : OpR X (compareOp op) r) (ho' : OpR X (compareOp op') r') (ht : OpT K r f) (ht' : OpT K r' g) (ha : PE X a (tX K W fa)) (hb : PE X b (tX K W fb)) (hc : PE X c (tX K W fc))
    (hm : lastMarks [op, op'] [b, c] = false := by with_unfolding_all rfl) : PT X (.Compare a [op, op'] [b, c] pos) (tXT K W (mTst (mChain f g fa fb fc))) :=
  PT.imp (pt_chain ho ho' ha hb hc hm) fun σ H Q h => by
    have := tst_read h
    exact chain_read (Q := fun x H1 => ∃ k, x = .bl k ∧ Q k H1) ht ht' this
/-! ### arguments -/
variable {fr : Ev (List T)}
theorem m_nil : PA X [] (tXA K W mNil) := PA.imp pa_nil fun σ H Q h => by
  obtain ⟨φ, F, ρ, S, h⟩ := h
  exact h [] H S Lk.refl .nil
theorem m_cons (ha : PE X e (tX K W fa)) (hr : PA X es (tXA K W fr)) (hs : starEach (e :: es) X.env = (false, eval e X.env) :: starEach es X.env := by rfl) : PA X (e :: es) (tXA K W (mCons fa fr)) := PA.imp (pa_cons ha hr hs) fun σ H Q h => by
  obtain ⟨φ, F, ρ, S, h⟩ := h
  refine ⟨φ, F, ρ, S, RsOk.bind h fun x ρ1 vx H1 _ S1 L1 R1 h1 => ⟨φ, F, ρ1, S1, RsOk.bind h1 fun y ρ2 vy H2 _ S2 L2 R2 h2 => ?_⟩⟩
  exact h2 _ H2 S2 Lk.refl (.cons (R1.lk (L2.mono fun a z => .inr z)) R2)
theorem call_read {r : List V → Hp → VK → Prop} {f : List T → Option T} {σ : L2.St} {H : Hp} {Q : VK} (ht : CallT K r f) (h : tX K W (mB f fr) σ H Q) : tXA K W fr σ H fun vs H1 => r vs H1 Q := by
  obtain ⟨φ, F, ρ, S, h⟩ := h
  refine ⟨φ, F, ρ, S, RsOk.bind h fun x ρ1 vx H1 _ S1 L1 R1 h1 => ?_⟩
  obtain ⟨t, e, h3⟩ := RsOk.lift h1
  exact ht _ H1 vx x t Q S1.domv R1 e fun v H' s r' => h3 v H' (S1.same s) (Lk.of_same s) r'
theorem m_callB {id : String} {x : Str} {np : Pos} {r : List V → Hp → VK → Prop} {f : List T → Option T} (hc : CallR X (.builtin id) r) (ht : CallT K r f) (hm : X.mg x = none) (hv : bootBuiltins x = some (.builtin id)) (ha : PA X (e :: es) (tXA K W fr)) (hg : Gl X x := by rfl) (hn : x ≠ "__name__" := by decide) (hdb : (x == ("__debug__" : Str)) = false := by decide)
    (he : starEach (e :: es) X.env = (false, eval e X.env) :: starEach es X.env := by rfl) (hpl : (backTo pos (starEach es X.env)).any (·.1) = false := by rfl) : PE X (.Call (.Name x np) (e :: es) [] pos) (tX K W (mB f fr)) :=
  PE.imp (pe_callB hc hg hm hv ha hn hdb he hpl) fun _ _ _ h => call_read ht h
theorem m_callTy {id : String} {x : Str} {np : Pos} {r : List V → Hp → VK → Prop} {f : List T → Option T} (hc : CallR X (.type id) r) (ht : CallT K r f) (hm : X.mg x = none) (hv : bootBuiltins x = some (.type id)) (ha : PA X (e :: es) (tXA K W fr)) (hg : Gl X x := by rfl) (hn : x ≠ "__name__" := by decide) (hdb : (x == ("__debug__" : Str)) = false := by decide)
    (he : starEach (e :: es) X.env = (false, eval e X.env) :: starEach es X.env := by rfl) (hpl : (backTo pos (starEach es X.env)).any (·.1) = false := by rfl) : PE X (.Call (.Name x np) (e :: es) [] pos) (tX K W (mB f fr)) :=
  PE.imp (pe_callTy hc hg hm hv ha hn hdb he hpl) fun _ _ _ h => call_read ht h
/-! ### new tuples and lists -/
theorem big_le {n : Nat} (h : n ≤ 1000000) : n ≤ sizeLine := Nat.le_trans h (by rw [sizeLine_eq]; decide)
theorem m_tup {x1} (h : PA X es (tXA K W fr)) : PE X (.Tuple es x1 pos) (tX K W (mB fTup fr)) := PE.imp (pe_tup h) fun σ H Q h => by
  refine call_read (r := fun xs H1 Q => xs.length ≤ sizeLine ∧ ∀ p, H1 p = none → Q (.ref p) (upd H1 p (.tup xs))) (f := fTup) ?_ h
  intro A H xs ts tz Q d rs e k
  unfold fTup at e
  split at e
  · rename_i hl
    cases e
    exact ⟨big_le (by rw [rs.length]; exact hl), fun p hp => k _ _ (same_new hp) (.tup (.inl (.inl upd_same)) (rs.same (same_new hp)))⟩
  · cases e
theorem m_lst (h : PA X es (tXA K W fr)) : PE X (.List es pos) (tX K W (mB fLst fr)) := PE.imp (pe_lst h) fun σ H Q h => by
  refine call_read (r := fun xs H1 Q => xs.length ≤ sizeLine ∧ ∀ p, H1 p = none → Q (.ref p) (upd H1 p (.lst xs))) (f := fLst) ?_ h
  intro A H xs ts tz Q d rs e k
  unfold fLst at e
  split at e
  · rename_i hl
    cases e
    exact ⟨big_le (by rw [rs.length]; exact hl), fun p hp => k _ _ (same_new hp) (.lst (d.new hp) upd_same (rs.same (same_new hp)))⟩
  · cases e
/-! ### fields -/
def nix (ns : List Str) (f : Str) : Nat := ns.findIdx (· == f)
def fFld (f : Str) : T → Option T
  | .obj _ ns l => if f ∈ ns then l[nix ns f]? else none
  | _ => none
theorem lookup_nix : ∀ {fs : List (Str × V)} {f : Str} {v : V}, f ∈ fs.map (·.1) → (fs.map (·.2))[nix (fs.map (·.1)) f]? = some v → fs.lookup f = some v
  | [], f, v, h, _ => nomatch h
  | (n, u) :: fs, f, v, h, e => by
    rw [List.lookup_cons]
    by_cases q : f = n
    · subst q
      simp [nix, List.findIdx_cons] at e
      simp [e]
    · have q' : ¬ n = f := fun z => q z.symm
      have h1 : f ∈ fs.map (·.1) := by
        simp only [List.map_cons, List.mem_cons] at h
        exact h.resolve_left q
      have e2 : (n == f) = false := beq_eq_false_iff_ne.mpr q'
      have e3 : (f == n) = false := beq_eq_false_iff_ne.mpr q
      rw [e3]
      refine lookup_nix h1 ?_
      simpa [nix, List.findIdx_cons, e2] using e
/-- of which classes a field may be read -/
def m_fldC (K : PySem.W.Frag) (Cs : List Str) (f : Str) : Prop := ∀ C ∈ Cs, Cls K (He.ga K C) ∧ NoAttr K (He.ga K C) f
def fFldC (Cs : List Str) (f : Str) (t : T) : Option T := match t with
  | .obj C ns l => if C ∈ Cs ∧ f ∈ ns then l[nix ns f]? else none
  | _ => none
theorem m_fld {f : Str} {Cs : List Str} (hC : m_fldC K Cs f) (he : PE X e (tX K W fa)) (hb : attributeBase e f X.env (eval e X.env) = eval e X.env) (hK : X.K = K := by rfl) : PE X (.Attribute e f pos) (tX K W (mUn (fFldC Cs f) fa)) := PE.imp (k_fld K he hb hK) fun σ H Q h => by
  obtain ⟨φ, F, ρ, S, h⟩ := h
  refine ⟨φ, F, ρ, S, RsOk.bind h fun x ρ1 vx H1 _ S1 L1 R1 h1 => ?_⟩
  obtain ⟨t, e, h3⟩ := RsOk.lift h1
  unfold fFldC at e
  split at e
  · rename_i C ns l
    split at e
    · rename_i hc
      cases R1 with
      | obj na h r =>
        obtain ⟨v, ev, rv⟩ := r.get e
        obtain ⟨c1, c2⟩ := hC _ hc.1
        exact ⟨_, _, _, _, v, rfl, h, c1, c2, lookup_nix hc.2 ev, h3 v H1 S1 Lk.refl rv⟩
    · cases e
  · cases e
end
end Tm

/-! Mirror 2: statements. -/
namespace Tm
open PySem PySem.Spec PyProof.Rows L2
inductive Ou where
  | nx (ρ : Ro)
  | rt (t : T) (ρ : Ro)
  | br (ρ : Ro)
  | ct (ρ : Ro)
  | ex (c : Str) (ns : List Str) (l : List T) (ρ : Ro)
  | st
abbrev Sv := Ro → Ou
def AB (φ : Frm) : ASet := fun a => φ.A a ∨ φ.B a
/-- from H to H' only own objects changed, and own ones are new -/
structure Go (F : Nat → List Addr) (H : Hp) (F' : Nat → List Addr) (H' : Hp) : Prop where
  lk : Lk (OwP F) H H'
  nw : ∀ a, OwP F' a → OwP F a ∨ H a = none
theorem Go.refl {F : Nat → List Addr} {H : Hp} : Go F H F H := ⟨Lk.refl, fun _ z => .inl z⟩
theorem Go.of {F : Nat → List Addr} {H H' : Hp} (L : Lk (OwP F) H H') : Go F H F H' := ⟨L, fun _ z => .inl z⟩
theorem Go.trans {F F1 F2 : Nat → List Addr} {H H1 H2 : Hp} (D : ∀ a, OwP F1 a → ∃ o, H1 a = some o) (D0 : ∀ a, OwP F a → ∃ o, H a = some o) (a : Go F H F1 H1) (b : Go F1 H1 F2 H2) : Go F H F2 H2 := by
  have up : ∀ c, ¬ OwP F c → ∀ o, H c = some o → ¬ OwP F1 c := fun c nc o e z => by
    rcases a.nw c z with q | q
    · exact nc q
    · rw [q] at e
      cases e
  refine ⟨⟨fun c o nc e => b.lk.all _ _ (up c nc o e) (a.lk.all _ _ nc e), fun c xs e => b.lk.tup _ _ (a.lk.tup _ _ e), fun c o u e => b.lk.frz _ _ _ (a.lk.frz _ _ _ e)⟩, fun c z => ?_⟩
  rcases b.nw c z with q | q
  · exact a.nw c q
  · cases e : H c with
    | none => exact .inr rfl
    | some o =>
      by_cases hc : OwP F c
      · exact .inl hc
      · have := a.lk.all _ _ hc e
        rw [q] at this
        cases this
def OuOk (K : PySem.W.Frag) (W : WX) (φ : Frm) (F : Nat → List Addr) (H : Hp) (D : Ends) : Ou → Prop
  | .nx ρ' => ∀ F' σ' H', SAt K φ F' σ' H' ρ' → Go F H F' H' → D.nx σ' H'
  | .br ρ' => ∀ F' σ' H', SAt K φ F' σ' H' ρ' → Go F H F' H' → D.bk σ' H'
  | .ct ρ' => ∀ F' σ' H', SAt K φ F' σ' H' ρ' → Go F H F' H' → D.ct σ' H'
  | .rt t ρ' => ∀ v F' σ' H', SAt K φ F' σ' H' ρ' → Rep K (AB φ) H' v t → D.rt v H'
  | .ex c ns l ρ' => ∀ cls d F' σ' H', SAt K φ F' σ' H' ρ' → XAt K (AB φ) H' c ns l cls d → W cls d σ' H'
  | .st => False
def tXS (K : PySem.W.Frag) (W : WX) (g : Sv) : TS := fun D σ H => ∃ φ F ρ, SAt K φ F σ H ρ ∧ OuOk K W φ F H D (g ρ)
def ouE {α : Type} (r : Rs α) (k : α → Sv) : Ou := match r with
  | .ok a ρ => k a ρ
  | .ex c ns l ρ => .ex c ns l ρ
  | .st => .st
section
variable {K : PySem.W.Frag} {W : WX} {φ : Frm} {F F1 : Nat → List Addr} {H H1 : Hp} {D : Ends} {σ : L2.St} {ρ ρ1 : Ro}
theorem SAt.owd (S : SAt K φ F σ H ρ) : ∀ a, OwP F a → ∃ o, H a = some o := fun a ⟨i, h⟩ => S.odm i a h
theorem OuOk.step (S : SAt K φ F σ H ρ) {σ1 : L2.St} (S1 : SAt K φ F1 σ1 H1 ρ1) (g : Go F H F1 H1) {o : Ou} (h : OuOk K W φ F H D o) : OuOk K W φ F1 H1 D o := by
  cases o with
  | nx ρ' => exact fun F' σ' H' S' g' => h F' σ' H' S' (Go.trans S1.owd S.owd g g')
  | br ρ' => exact fun F' σ' H' S' g' => h F' σ' H' S' (Go.trans S1.owd S.owd g g')
  | ct ρ' => exact fun F' σ' H' S' g' => h F' σ' H' S' (Go.trans S1.owd S.owd g g')
  | rt t ρ' => exact h
  | ex c ns l ρ' => exact h
  | st => exact h
theorem ab_weak (S : SAt K φ F σ H ρ) : ∀ a, AB φ a → Av φ.A F a ∨ H a = none := by
  rintro a (h | h)
  · exact .inl (.inl h)
  · obtain ⟨i, t, _, m⟩ := S.bo a h
    exact .inl (.inr ⟨i, m⟩)
theorem XAt.weak {A B : ASet} {c : Str} {ns : List Str} {l : List T} {cls : Value} {d : Option Addr} (s : ∀ a, B a → A a ∨ H a = none) (h : XAt K A H c ns l cls d) : XAt K B H c ns l cls d := by
  obtain ⟨h1, h2⟩ := h
  refine ⟨h1, h2.imp id ?_⟩
  rintro ⟨dd, fs, e1, e2, e3, r⟩
  exact ⟨dd, fs, e1, e2, e3, r.weak s⟩
/-- an expression, then k -/
theorem OuOk.ofE {α ν : Type} {RP : ν → α → Hp → Prop} {Q : ν → Hp → Prop} (S : SAt K φ F σ H ρ) {r : Rs α} {k : α → Sv} (h : OuOk K W φ F H D (ouE r k))
    (hk : ∀ a ρ1 v H1, r = .ok a ρ1 → SAt K φ F σ H1 ρ1 → Lk (OwP F) H H1 → RP v a H1 → OuOk K W φ F H1 D (k a ρ1) → Q v H1) : RsOk K W φ F σ H RP Q r := by
  cases r with
  | ok a ρ' => exact fun v H' S' L R => hk a ρ' v H' rfl S' L R (OuOk.step S S' (Go.of L) h)
  | ex c ns l ρ' => exact fun cls d H' S' x => h cls d F σ H' S' (x.weak (ab_weak S'))
  | st => exact h
end
/-! ### the combinators -/
def sNext : Sv := fun ρ => .nx ρ
def sSeq (g h : Sv) : Sv := fun ρ => match g ρ with
  | .nx ρ1 => h ρ1
  | o => o
def setIm (i : Nat) (t : T) : Sv := fun ρ => match ρ[i]? with
  | some .un => .nx (ρ.set i (.im t))
  | some (.im _) => .nx (ρ.set i (.im t))
  | _ => .st
def sAsg (f : Ev T) (g : T → Sv) : Sv := fun ρ => ouE (f ρ) g
def sRet (f : Ev T) : Sv := fun ρ => ouE (f ρ) fun t ρ => .rt t ρ
def sExpr (f : Ev T) : Sv := fun ρ => ouE (f ρ) fun _ ρ => .nx ρ
def sIf (c : Ev Bool) (g h : Sv) : Sv := fun ρ => ouE (c ρ) fun b => if b = true then g else h
def sGive (i : Nat) : Sv := fun ρ => match ρ[i]? with
  | some (.ow (.lst l)) => .nx (ρ.set i (.im (.lst l)))
  | some (.ow (.dK ks l)) => .nx (ρ.set i (.im (.dK ks l)))
  | some (.ow (.dT ks l)) => .nx (ρ.set i (.im (.dT ks l)))
  | some (.ow (.obj C ns l)) => .nx (ρ.set i (.im (.obj C ns l)))
  | _ => .st
def sDrop (i : Nat) : Sv := fun ρ => match ρ[i]? with
  | some (.rf _) => .st
  | _ => .nx (ρ.set i .un)
def gSeq (g h : Nat) : Nat := g + h
def gTup : List (T → Sv) → List T → Sv
  | [], [] => sNext
  | g :: gs, t :: l => sSeq (g t) (gTup gs l)
  | _, _ => fun _ => .st
def gTupM (gs : List (T → Sv)) (t : T) : Sv := match t with
  | .tup l => gTup gs l
  | _ => fun _ => .st
def forL (g : T → Sv) (b : Sv) : List T → Sv
  | [], ρ => .nx ρ
  | x :: l, ρ => match sSeq (g x) b ρ with
    | .nx ρ2 => forL g b l ρ2
    | .ct ρ2 => forL g b l ρ2
    | .br ρ2 => .nx ρ2
    | o => o
def sFor (fi : Ev (List T)) (g : T → Sv) (b : Sv) : Sv := fun ρ => ouE (fi ρ) (forL g b)
def whN (c : Ev Bool) (b : Sv) : Nat → Ro → Option Ou
  | 0, _ => none
  | n + 1, ρ => match c ρ with
    | .ok true ρ1 => match b ρ1 with
      | .nx ρ2 => whN c b n ρ2
      | .ct ρ2 => whN c b n ρ2
      | .br ρ2 => some (.nx ρ2)
      | o => some o
    | .ok false ρ1 => some (.nx ρ1)
    | .ex k ns l ρ1 => some (.ex k ns l ρ1)
    | .st => some .st
open Classical in
noncomputable def sWhile (c : Ev Bool) (b : Sv) : Sv := fun ρ => if h : ∃ o n, whN c b n ρ = some o then h.choose else .st
theorem whN_mono {c : Ev Bool} {b : Sv} {o : Ou} : ∀ {n : Nat} {ρ : Ro}, whN c b n ρ = some o → whN c b (n + 1) ρ = some o
  | 0, ρ, h => by cases h
  | n + 1, ρ, h => by
    unfold whN at h ⊢
    cases e : c ρ with
    | ok x ρ1 =>
      cases x with
      | true =>
        simp only [e] at h ⊢
        cases e2 : b ρ1 with
        | nx ρ2 => simp only [e2] at h ⊢; exact whN_mono h
        | ct ρ2 => simp only [e2] at h ⊢; exact whN_mono h
        | br ρ2 => simp only [e2] at h ⊢; exact h
        | rt t ρ2 => simp only [e2] at h ⊢; exact h
        | ex k ns l ρ2 => simp only [e2] at h ⊢; exact h
        | st => simp only [e2] at h ⊢; exact h
      | false => simp only [e] at h ⊢; exact h
    | ex k ns l ρ1 => simp only [e] at h ⊢; exact h
    | st => simp only [e] at h ⊢; exact h
theorem whN_le {c : Ev Bool} {b : Sv} {o : Ou} {n m : Nat} {ρ : Ro} (h : whN c b n ρ = some o) (hm : n ≤ m) : whN c b m ρ = some o := by
  obtain ⟨k, rfl⟩ := Nat.exists_eq_add_of_le hm
  induction k with
  | zero => exact h
  | succ k ih => exact whN_mono (ih (Nat.le_add_right _ _))
theorem sWhile_eq {c : Ev Bool} {b : Sv} {o : Ou} {n : Nat} {ρ : Ro} (h : whN c b n ρ = some o) : sWhile c b ρ = o := by
  have hx : ∃ o n, whN c b n ρ = some o := ⟨o, n, h⟩
  unfold sWhile
  rw [dif_pos hx]
  obtain ⟨m, hm⟩ := hx.choose_spec
  have h1 := whN_le h (Nat.le_max_left n m)
  have h2 := whN_le hm (Nat.le_max_right n m)
  rw [h1] at h2
  exact (Option.some.inj h2).symm
/-! ### the rules -/
section
variable {X : Cx} {K : PySem.W.Frag} {W : WX} {e : Expr} {st : Stmt} {rest body : List Stmt} {f : Ev T} {g h : Sv} {pos : Pos}
theorem s_nil : PSs X [] (tXS K W sNext) := PSs.imp pss_nil fun D σ H h => by
  obtain ⟨φ, F, ρ, S, h⟩ := h
  exact h F σ H S Go.refl
theorem seq_read {D : Ends} {φ : Frm} {F : Nat → List Addr} {σ : L2.St} {H : Hp} {ρ : Ro} (S : SAt K φ F σ H ρ) (q : OuOk K W φ F H D (sSeq g h ρ)) : OuOk K W φ F H { D with nx := tXS K W h D } (g ρ) := by
  unfold sSeq at q
  cases e : g ρ with
  | nx ρ1 =>
    rw [e] at q
    exact fun F' σ' H' S' g' => ⟨φ, F', ρ1, S', OuOk.step S S' g' q⟩
  | br ρ1 => rw [e] at q; exact q
  | ct ρ1 => rw [e] at q; exact q
  | rt t ρ1 => rw [e] at q; exact q
  | ex c ns l ρ1 => rw [e] at q; exact q
  | st => rw [e] at q; exact q
theorem s_cons (h1 : PS X st (tXS K W g)) (h2 : PSs X rest (tXS K W h)) : PSs X (st :: rest) (tXS K W (sSeq g h)) := PSs.imp (pss_cons h1 h2) fun D σ H q => by
  obtain ⟨φ, F, ρ, S, q⟩ := q
  exact ⟨φ, F, ρ, S, seq_read S q⟩
theorem s_one (h1 : PS X st (tXS K W g)) : PSs X [st] (tXS K W g) := pss_one h1
theorem s_pass : PS X (.Pass pos) (tXS K W sNext) := PS.imp ps_pass fun D σ H h => by
  obtain ⟨φ, F, ρ, S, h⟩ := h
  exact h F σ H S Go.refl
theorem s_break : PS X (.Break pos) (tXS K W fun ρ => .br ρ) := PS.imp ps_break fun D σ H h => by
  obtain ⟨φ, F, ρ, S, h⟩ := h
  exact h F σ H S Go.refl
theorem s_continue : PS X (.Continue pos) (tXS K W fun ρ => .ct ρ) := PS.imp ps_continue fun D σ H h => by
  obtain ⟨φ, F, ρ, S, h⟩ := h
  exact h F σ H S Go.refl
theorem s_ret (he : PE X e (tX K W f)) : PS X (.Return (some e) pos) (tXS K W (sRet f)) := PS.imp (ps_ret he) fun D σ H h => by
  obtain ⟨φ, F, ρ, S, h⟩ := h
  refine ⟨φ, F, ρ, S, OuOk.ofE S h fun t ρ1 v H1 _ S1 L1 R1 h1 => ?_⟩
  exact h1 v F σ H1 S1 (R1.weak (ab_weak S1))
theorem s_retN : PS X (.Return none pos) (tXS K W fun ρ => .rt .non ρ) := PS.imp ps_retN fun D σ H h => by
  obtain ⟨φ, F, ρ, S, h⟩ := h
  exact h .non F σ H S .non
theorem s_expr (he : PE X e (tX K W f)) (hs : swapsWith e none pos.line X.env = pure false := by rfl) : PS X (.Expr e pos) (tXS K W (sExpr f)) := PS.imp (ps_expr he hs) fun D σ H h => by
  obtain ⟨φ, F, ρ, S, h⟩ := h
  refine ⟨φ, F, ρ, S, OuOk.ofE S h fun t ρ1 v H1 _ S1 L1 R1 h1 => ?_⟩
  exact h1 F σ H1 S1 Go.refl
theorem s_doc {x j pos'} : PS X (.Expr (.Constant (.str x) j pos) pos') (tXS K W sNext) := PS.imp ps_doc fun D σ H h => by
  obtain ⟨φ, F, ρ, S, h⟩ := h
  exact h F σ H S Go.refl
theorem s_if {c : Expr} {a b : List Stmt} {tc : Ev Bool} (hc : PT X c (tXT K W tc)) (ha : PSs X a (tXS K W g)) (hb : PSs X b (tXS K W h)) : PS X (.If c a b pos) (tXS K W (sIf tc g h)) := PS.imp (ps_if hc ha hb) fun D σ H q => by
  obtain ⟨φ, F, ρ, S, q⟩ := q
  refine ⟨φ, F, ρ, S, OuOk.ofE S q fun t ρ1 v H1 _ S1 L1 R1 h1 => ?_⟩
  subst R1
  cases v with
  | true => exact iteT ⟨φ, F, ρ1, S1, h1⟩
  | false => exact iteF ⟨φ, F, ρ1, S1, h1⟩
theorem sGive_cases (i : Nat) (ρ : Ro) : sGive i ρ = .st ∨ ∃ t, ρ[i]? = some (.ow t) ∧ (∀ l m, t ≠ .deal l m) ∧ sGive i ρ = .nx (ρ.set i (.im t)) := by
  unfold sGive
  split
  · rename_i l e
    exact .inr ⟨_, e, (fun _ _ z => by cases z), rfl⟩
  · rename_i ks l e
    exact .inr ⟨_, e, (fun _ _ z => by cases z), rfl⟩
  · rename_i ks l e
    exact .inr ⟨_, e, (fun _ _ z => by cases z), rfl⟩
  · rename_i C ns l e
    exact .inr ⟨_, e, (fun _ _ z => by cases z), rfl⟩
  · exact .inl rfl
/-- a ghost: a block ahead of which the frame's knowledge is turned -/
theorem ghost_give {i : Nat} (h1 : PSs X body (tXS K W g)) : PSs X body (tXS K W (sSeq (sGive i) g)) := PSs.imp h1 fun D σ H q => by
  obtain ⟨φ, F, ρ, S, q⟩ := q
  unfold sSeq at q
  rcases sGive_cases i ρ with e | ⟨t, e, hd, e2⟩
  · rw [e] at q
    exact q.elim
  · rw [e2] at q
    have S' := S.give e hd
    refine ⟨φ, _, _, S', OuOk.step S S' ⟨Lk.refl, ?_⟩ q⟩
    rintro a ⟨j, hj⟩
    by_cases q : j = i
    · subst q
      rw [fset_same] at hj
      cases hj
    · rw [fset_ne _ _ q] at hj
      exact .inl ⟨j, hj⟩
theorem ghost_drop {i : Nat} (h1 : PSs X body (tXS K W g)) : PSs X body (tXS K W (sSeq (sDrop i) g)) := PSs.imp h1 fun D σ H q => by
  obtain ⟨φ, F, ρ, S, q⟩ := q
  unfold sSeq sDrop at q
  by_cases hr : ∃ u, ρ[i]? = some (.rf u)
  · obtain ⟨u, hu⟩ := hr
    rw [hu] at q
    exact q.elim
  · have hr' : ∀ u, ρ[i]? ≠ some (.rf u) := fun u z => hr ⟨u, z⟩
    have S' := S.drop hr'
    have q' : OuOk K W φ F H D (g (ρ.set i .un)) := by
      cases e : ρ[i]? with
      | none => rw [e] at q; exact q
      | some s =>
        cases s with
        | rf u => exact absurd e (hr' u)
        | un => rw [e] at q; exact q
        | im t => rw [e] at q; exact q
        | ow t => rw [e] at q; exact q
    refine ⟨φ, _, _, S', OuOk.step S S' ⟨Lk.refl, ?_⟩ q'⟩
    rintro a ⟨j, hj⟩
    by_cases q : j = i
    · subst q
      rw [fset_same] at hj
      cases hj
    · rw [fset_ne _ _ q] at hj
      exact .inl ⟨j, hj⟩
/-! targets -/
/-- other slots than these stay -/
def Oth (vs : List Nat) (σ σ' : L2.St) : Prop := σ'.length = σ.length ∧ ∀ j, j ∉ vs → σ'[j]? = σ[j]?
theorem Oth.trans {vs ws : List Nat} {σ σ1 σ2 : L2.St} (a : Oth vs σ σ1) (b : Oth ws σ1 σ2) : Oth (vs ++ ws) σ σ2 := ⟨b.1.trans a.1, fun j h => by
  rw [List.mem_append] at h
  rw [b.2 j fun z => h (.inr z), a.2 j fun z => h (.inl z)]⟩
def tXG (K : PySem.W.Frag) (vs : List Nat) (g : T → Sv) : TG := fun v σ H Q => ∃ φ F ρ t, SAt K φ F σ H ρ ∧ Rep K (Av φ.A F) H v t ∧ ∃ ρ', g t ρ = .nx ρ' ∧ ∀ σ', SAt K φ F σ' H ρ' → Oth vs σ σ' → Q σ' H
def tXGs (K : PySem.W.Frag) (vs : List Nat) (gs : List (T → Sv)) : TGs := fun xs σ H Q => ∃ φ F ρ l, SAt K φ F σ H ρ ∧ Reps K (Av φ.A F) H xs l ∧ ∃ ρ', gTup gs l ρ = .nx ρ' ∧ ∀ σ', SAt K φ F σ' H ρ' → Oth vs σ σ' → Q σ' H
theorem PG.imp {X : Cx} {e : Expr} {t t' : TG} (h : PG X e t) (i : ∀ v σ H Q, t' v σ H Q → t v σ H Q) : PG X e t' := ⟨fun pins s σ H v u Q I r hw => h.run pins s σ H v u Q I r (i _ _ _ _ hw)⟩
theorem PGs.imp {X : Cx} {e : List Expr} {t t' : TGs} (h : PGs X e t) (i : ∀ v σ H Q, t' v σ H Q → t v σ H Q) : PGs X e t' := ⟨fun pins s σ H v u Q I r hw => h.run pins s σ H v u Q I r (i _ _ _ _ hw)⟩
theorem setIm_ok {φ : Frm} {F : Nat → List Addr} {σ : L2.St} {H : Hp} {ρ ρ' : Ro} {i : Nat} {v : V} {t : T} (S : SAt K φ F σ H ρ) (r : Rep K (Av φ.A F) H v t) (e : setIm i t ρ = .nx ρ') : SAt K φ F (σ.set i (some v)) H ρ' := by
  unfold setIm at e
  split at e
  · rename_i he
    cases e
    exact S.set r (fun s z => by rw [he] at z; cases z; rfl) (List.getElem?_eq_some_iff.mp he).1
  · rename_i he
    cases e
    exact S.set r (fun s z => by rw [he] at z; cases z; rfl) (List.getElem?_eq_some_iff.mp he).1
  · cases e
theorem g_name (i : Nat) {x : Str} (hN : X.N.Nodup) (hi : X.N[i]? = some x := by rfl) (hx : Loc X.env.scope x := by first | exact Or.inl rfl | exact Or.inr rfl) (hf : X.fn x = true ∨ X.env.scope.names.lookup x = some .local := by first | exact .inl rfl | exact .inr rfl | assumption) : PG X (.Name x pos) (tXG K [i] (setIm i)) := PG.imp (pg_name hN hi hx hf) fun v σ H Q h => by
  obtain ⟨φ, F, ρ, t, S, r, ρ', e, k⟩ := h
  exact k _ (setIm_ok S r e) ⟨List.length_set .., fun j hj => List.getElem?_set_ne fun z => hj (by simp [z])⟩
theorem gs_nil : PGs X [] (tXGs K [] []) := PGs.imp pgs_nil fun v σ H Q h => by
  obtain ⟨φ, F, ρ, l, S, r, ρ', e, k⟩ := h
  cases l with
  | nil =>
    cases r
    cases e
    exact ⟨rfl, k _ S ⟨rfl, fun _ _ => rfl⟩⟩
  | cons t l => cases e
theorem gs_cons {es : List Expr} {g : T → Sv} {gs : List (T → Sv)} {vs ws : List Nat} (h1 : PG X e (tXG K vs g)) (h2 : PGs X es (tXGs K ws gs))
    (hs : (assignEach (e :: es) X.env).map (·.2) = assign e X.env :: (assignEach es X.env).map (·.2) := by rfl) : PGs X (e :: es) (tXGs K (vs ++ ws) (g :: gs)) := PGs.imp (pgs_cons h1 h2 hs) fun v σ H Q h => by
  obtain ⟨φ, F, ρ, l, S, r, ρ', e, k⟩ := h
  cases l with
  | nil => cases e
  | cons t l =>
    cases r with
    | cons r rr =>
      unfold gTup sSeq at e
      cases e1 : g t ρ with
      | nx ρ1 =>
        rw [e1] at e
        exact ⟨_, _, rfl, φ, F, ρ, t, S, r, ρ1, e1, fun σ' S' o1 => ⟨φ, F, ρ1, l, S', rr, ρ', e, fun σ2 S2 o2 => k σ2 S2 (o1.trans o2)⟩⟩
      | _ =>
        rw [e1] at e
        cases e
theorem g_tup {es : List Expr} {kk : Nat} {gs : List (T → Sv)} {vs : List Nat} (hc : X.calm = true) (h : PGs X es (tXGs K vs gs))
    (hn : (assignEach es X.env).length = gs.length := by rfl) (hst : (assignEach es X.env).findIdx? (·.1) = none := by rfl) (hK : X.K = K := by rfl) : PG X (.Tuple es kk pos) (tXG K vs (gTupM gs)) := by
  subst hK
  refine PG.imp (pg_tup hc h hn hst) fun v σ H Q h => ?_
  obtain ⟨φ, F, ρ, t, S, r, ρ', e, k⟩ := h
  cases r with
  | tup hq rs =>
    have hl : ∀ (gs : List (T → Sv)) (l : List T) (ρ : Ro), gTup gs l ρ = .nx ρ' → l.length = gs.length := by
      intro gs
      induction gs with
      | nil =>
        intro l ρ e
        cases l with
        | nil => rfl
        | cons t l => cases e
      | cons g gs ih =>
        intro l ρ e
        cases l with
        | nil => cases e
        | cons t l =>
          unfold gTup sSeq at e
          cases e1 : g t ρ with
          | nx ρ1 =>
            rw [e1] at e
            rw [List.length_cons, List.length_cons, ih l ρ1 e]
          | _ =>
            rw [e1] at e
            cases e
    exact ⟨_, _, rfl, hq, by rw [rs.length]; exact hl _ _ _ e, φ, F, ρ, _, S, rs, ρ', e, k⟩
  | _ => cases e
theorem s_asg {tg : Expr} {g : T → Sv} {vs : List Nat} (he : PE X e (tX K W f)) (hg : PG X tg (tXG K vs g)) (hgn : ∀ t ρ, (∃ ρ', g t ρ = .nx ρ') ∨ g t ρ = .st) (hs : swapsWithSole [tg] e pos.line X.env = pure false := by rfl) (hw : swappedStores [tg] e X.env = pure none := by rfl)
    (h1 : (assignEach [tg] X.env).map (·.2) = [assign tg X.env] := by rfl) : PS X (.Assign [tg] e pos) (tXS K W (sAsg f g)) := PS.imp (ps_asg he hg hs hw h1) fun D σ H h => by
  obtain ⟨φ, F, ρ, S, h⟩ := h
  refine ⟨φ, F, ρ, S, OuOk.ofE S h fun t ρ1 v H1 _ S1 L1 R1 h1 => ?_⟩
  rcases hgn t ρ1 with ⟨ρ', e⟩ | e
  · rw [e] at h1
    exact ⟨φ, F, ρ1, t, S1, R1, ρ', e, fun σ' S' _ => h1 F σ' H1 S' Go.refl⟩
  · rw [e] at h1
    exact h1.elim
theorem setIm_n (i : Nat) : ∀ t ρ, (∃ ρ', setIm i t ρ = .nx ρ') ∨ setIm i t ρ = .st := fun t ρ => by
  unfold setIm
  split
  · exact .inl ⟨_, rfl⟩
  · exact .inl ⟨_, rfl⟩
  · exact .inr rfl
theorem gTup_n : ∀ {gs : List (T → Sv)}, (∀ g ∈ gs, ∀ t ρ, (∃ ρ', g t ρ = .nx ρ') ∨ g t ρ = .st) → ∀ l ρ, (∃ ρ', gTup gs l ρ = .nx ρ') ∨ gTup gs l ρ = .st
  | [], _, [], ρ => .inl ⟨ρ, rfl⟩
  | [], _, _ :: _, ρ => .inr rfl
  | _ :: _, _, [], ρ => .inr rfl
  | g :: gs, h, t :: l, ρ => by
    unfold gTup sSeq
    rcases h g (List.mem_cons_self ..) t ρ with ⟨ρ', e⟩ | e
    · rw [e]
      exact gTup_n (fun g hg => h g (List.mem_cons_of_mem _ hg)) l ρ'
    · rw [e]
      exact .inr rfl
theorem gTupM_n {gs : List (T → Sv)} (h : ∀ g ∈ gs, ∀ t ρ, (∃ ρ', g t ρ = .nx ρ') ∨ g t ρ = .st) : ∀ t ρ, (∃ ρ', gTupM gs t ρ = .nx ρ') ∨ gTupM gs t ρ = .st := fun t ρ => by
  unfold gTupM
  split
  · exact gTup_n h _ ρ
  · exact .inr rfl
theorem all_nil {P : (T → Sv) → Prop} : ∀ g ∈ ([] : List (T → Sv)), P g := fun _ h => nomatch h
theorem all_cons {P : (T → Sv) → Prop} {g : T → Sv} {gs : List (T → Sv)} (h1 : P g) (h2 : ∀ g ∈ gs, P g) : ∀ x ∈ g :: gs, P x := fun x hx => by
  rcases List.mem_cons.mp hx with rfl | h
  · exact h1
  · exact h2 x h
/-- name = value -/
theorem s_set (i : Nat) {x : Str} {pos' : Pos} (hN : X.N.Nodup) (he : PE X e (tX K W f)) (hi : X.N[i]? = some x := by rfl) (hx : Loc X.env.scope x := by first | exact Or.inl rfl | exact Or.inr rfl) (hs : swapsWith e (some (.Name x pos')) pos.line X.env = pure false := by rfl) (hf : X.fn x = true ∨ X.env.scope.names.lookup x = some .local := by first | exact .inl rfl | exact .inr rfl | assumption) :
    PS X (.Assign [.Name x pos'] e pos) (tXS K W (sAsg f (setIm i))) := PS.imp (ps_set hN hi hx he hs hf) fun D σ H h => by
  obtain ⟨φ, F, ρ, S, h⟩ := h
  refine ⟨φ, F, ρ, S, OuOk.ofE S h fun t ρ1 v H1 _ S1 L1 R1 h1 => ?_⟩
  rcases setIm_n i t ρ1 with ⟨ρ', e⟩ | e
  · rw [e] at h1
    exact h1 F _ H1 (setIm_ok S1 R1 e) Go.refl
  · rw [e] at h1
    exact h1.elim
end
end Tm

/-! Mirror 3: loops, lists of one's own, calls, defs. -/
namespace Tm
open PySem PySem.Spec PyProof.Rows L2
/-! ### what is walked -/
def ItRep (K : PySem.W.Frag) (A : ASet) (J : It) (l : List T) (H1 : Hp) : Prop := ∀ (C : ASet) H2, (∀ a, A a → C a) → (∀ a, C a → A a ∨ H1 a = none) → Lk C H1 H2 →
  ∀ i, (∀ t, l[i]? = some t → J.go i H2 ∧ ∀ x H3, J.yld i H2 x H3 → Same H2 H3 ∧ Rep K C H3 x t) ∧ (l.length ≤ i → J.stop i H2)
def tXI (K : PySem.W.Frag) (W : WX) (f : Ev (List T)) : TI := fun σ H R => ∃ φ F ρ, SAt K φ F σ H ρ ∧ RsOk K W φ F σ H (fun J l H' => ItRep K (Av φ.A F) J l H') R (f ρ)
def mSeqOf (a : Ev T) : Ev (List T) := a.bind fun x => match x with
  | .lst l => fun ρ => .ok l ρ
  | .tup l => fun ρ => .ok l ρ
  | _ => fun _ => .st
section
variable {K : PySem.W.Frag} {A : ASet} {H1 : Hp}
theorem it_list {a : Addr} {l : List T} (r : Rep K A H1 (.ref a) (.lst l)) : ItRep K A (Itl K a) l H1 := fun C H2 s w L i => by
  have r2 := (r.weak w).lk L
  cases r2 with
  | lst na h rs =>
    refine ⟨fun t ht => ?_, fun hi => ⟨_, .inl (.inl h), by rw [rs.length]; exact hi⟩⟩
    obtain ⟨x, hx, rx⟩ := rs.get ht
    refine ⟨⟨_, x, .inl (.inl h), hx⟩, fun y H3 ⟨e, k⟩ => ?_⟩
    subst e
    have := k _ (.inl (.inl h))
    rw [hx] at this
    cases this
    exact ⟨L2.Same.refl _, rx⟩
theorem it_tup {a : Addr} {l : List T} (r : Rep K A H1 (.ref a) (.tup l)) : ItRep K A (Itt K a) l H1 := fun C H2 s w L i => by
  have r2 := (r.weak w).lk L
  cases r2 with
  | tup h rs =>
    refine ⟨fun t ht => ?_, fun hi => ⟨_, h, by rw [rs.length]; exact hi⟩⟩
    obtain ⟨x, hx, rx⟩ := rs.get ht
    refine ⟨⟨_, x, h, hx⟩, fun y H3 ⟨e, k⟩ => ?_⟩
    subst e
    have := k _ h
    rw [hx] at this
    cases this
    exact ⟨L2.Same.refl _, rx⟩
def rgT (lo : Int) (n : Nat) : List T := (List.range n).map fun (i : Nat) => T.int (lo + (i : Int))
theorem rgT_get {lo : Int} {n i : Nat} {t : T} (h : (rgT lo n)[i]? = some t) : i < n ∧ t = .int (lo + (i : Int)) := by
  unfold rgT at h
  rw [List.getElem?_map] at h
  obtain ⟨j, hj, e⟩ := Option.map_eq_some_iff.mp h
  obtain ⟨h1, h2⟩ := List.getElem?_eq_some_iff.mp hj
  rw [List.getElem_range] at h2
  subst h2
  rw [List.length_range] at h1
  exact ⟨h1, e.symm⟩
theorem it_rng {lo : Int} {n : Nat} : ItRep K A (Itr lo n) (rgT lo n) H1 := fun C H2 s w L i => by
  refine ⟨fun t ht => ?_, fun hi => show n ≤ i by simpa [rgT] using hi⟩
  obtain ⟨h1, rfl⟩ := rgT_get ht
  refine ⟨h1, fun y H3 ⟨e, k⟩ => ?_⟩
  subst e k
  exact ⟨L2.Same.refl _, .int _⟩
end
section
variable {X : Cx} {K : PySem.W.Frag} {W : WX} {e tg : Expr} {fa : Ev T} {fr : Ev (List T)}
theorem PI.imp {t t' : TI} (h : PI X tg e t) (i : ∀ σ H R, t' σ H R → t σ H R) : PI X tg e t' := ⟨fun pins s σ H Q I hw => h.run pins s σ H Q I (i _ _ _ hw)⟩
def iSeq2 (K : PySem.W.Frag) (tl : TE) : TI := fun σ H R => tl σ H fun x H1 => ∃ (a : Addr) (xs : List V), x = .ref a ∧ ((SqL K H1 a xs ∧ R (Itl K a) H1) ∨ (SqT K H1 a xs ∧ R (Itt K a) H1))
theorem pi_seq2 {l : Expr} {tl : TE} (hl : PE X l tl) : PI X tg l (iSeq2 X.K tl) := by
  constructor
  intro pins s σ H R I h
  refine thn (hl.run pins s σ H _ I h) ?_
  rintro v s1 ⟨x, H1, I1, r1, a, xs, e, hq⟩
  subst e
  cases r1
  have fp : ∀ b ∈ [s1.heap.objs.size], FpOk X pins H1 b := fun b hb => by
    rw [List.mem_singleton] at hb
    rw [hb]
    exact I1.fpOk (Nat.le_refl _) (I1.hok.fresh (Nat.le_refl _))
  rcases hq with ⟨hq, qL⟩ | ⟨hq, qT⟩
  · obtain ⟨its, rv, p, hz⟩ := I1.list hq
    exact wpAny_pyIter_list p.isList ⟨_, [s1.heap.objs.size], _, _, H1, rfl, I1.kept (t' := s1.toks) fun b o z => Heap.get?_push_of_some _ z, turn_list a _, ⟨_, Heap.get?_push_size _ rfl, rfl, rfl⟩, fp, qL⟩
  · obtain ⟨its, rv, p, hz⟩ := I1.tuple hq
    exact wpAny_pyIter_tuple (show s1.heap.IsTuple a its.toArray from p) ⟨_, [s1.heap.objs.size], _, _, H1, rfl, I1.kept (t' := s1.toks) fun b o z => Heap.get?_push_of_some _ z, turn_tuple a _, ⟨_, Heap.get?_push_size _ rfl, rfl, rfl⟩, fp, qT⟩
theorem i_seq (he : PE X e (tX K W fa)) (hK : X.K = K := by rfl) : PI X tg e (tXI K W (mSeqOf fa)) := by
  subst hK
  refine PI.imp (pi_seq2 he) fun σ H R h => ?_
  obtain ⟨φ, F, ρ, S, h⟩ := h
  refine ⟨φ, F, ρ, S, RsOk.bind h fun x ρ1 vx H1 _ S1 L1 R1 h1 => ?_⟩
  cases R1 with
  | lst na hh rs => exact ⟨_, _, rfl, .inl ⟨.inl (.inl hh), h1 _ H1 S1 Lk.refl (it_list (.lst na hh rs))⟩⟩
  | tup hh rs => exact ⟨_, _, rfl, .inr ⟨hh, h1 _ H1 S1 Lk.refl (it_tup (.tup hh rs))⟩⟩
  | _ => exact h1.elim
def fRng1 : List T → Option (List T)
  | [.int j] => if -(2 ^ 62) ≤ j ∧ j < 2 ^ 62 then some (rgT 0 j.toNat) else none
  | _ => none
def fRng2 : List T → Option (List T)
  | [.int i, .int j] => if -(2 ^ 62) ≤ i ∧ i < 2 ^ 62 ∧ -(2 ^ 62) ≤ j ∧ j < 2 ^ 62 then some (rgT i (j - i).toNat) else none
  | _ => none
def mL (f : List T → Option (List T)) (a : Ev (List T)) : Ev (List T) := a.bind fun xs => Ev.lift (f xs)
theorem RsOk.liftL {φ : Frm} {H : Hp} {F : Nat → List Addr} {σ : L2.St} {ν : Type} {RP : ν → List T → Hp → Prop} {Q : ν → Hp → Prop} {ρ : Ro} {o : Option (List T)} (h : RsOk K W φ F σ H RP Q (Ev.lift o ρ)) : ∃ t, o = some t ∧ RsOk K W φ F σ H RP Q (.ok t ρ) := by
  cases o with
  | none => exact h.elim
  | some t => exact ⟨t, rfl, h⟩
theorem i_range1 {a : Expr} {p pos : Pos} (hm : X.mg "range" = none) (ha : PA X [a] (tXA K W fr)) (hg : Gl X "range" := by rfl) (hs : starEach [a] X.env = [(false, eval a X.env)] := by rfl) : PI X tg (.Call (.Name "range" p) [a] [] pos) (tXI K W (mL fRng1 fr)) := PI.imp (pi_range1 hg hm ha hs) fun σ H R h => by
  obtain ⟨φ, F, ρ, S, h⟩ := h
  refine ⟨φ, F, ρ, S, RsOk.bind h fun x ρ1 vx H1 _ S1 L1 R1 h1 => ?_⟩
  obtain ⟨t, e, h3⟩ := RsOk.liftL h1
  unfold fRng1 at e
  split at e
  · split at e
    · rename_i hj
      cases e
      cases R1 with
      | cons r rr =>
        cases rr
        cases r
        exact ⟨_, rfl, hj.1, hj.2, h3 _ H1 S1 Lk.refl it_rng⟩
    · cases e
  · cases e
theorem i_range2 {a b : Expr} {p pos : Pos} (hm : X.mg "range" = none) (ha : PA X [a, b] (tXA K W fr)) (hg : Gl X "range" := by rfl) (hs : starEach [a, b] X.env = [(false, eval a X.env), (false, eval b X.env)] := by rfl) (hs2 : starEach [b] X.env = [(false, eval b X.env)] := by rfl) : PI X tg (.Call (.Name "range" p) [a, b] [] pos) (tXI K W (mL fRng2 fr)) := PI.imp (pi_range2 hg hm ha hs hs2) fun σ H R h => by
  obtain ⟨φ, F, ρ, S, h⟩ := h
  refine ⟨φ, F, ρ, S, RsOk.bind h fun x ρ1 vx H1 _ S1 L1 R1 h1 => ?_⟩
  obtain ⟨t, e, h3⟩ := RsOk.liftL h1
  unfold fRng2 at e
  split at e
  · split at e
    · rename_i hj
      cases e
      cases R1 with
      | cons r rr =>
        cases rr with
        | cons r2 rr =>
          cases rr
          cases r
          cases r2
          exact ⟨_, _, rfl, ⟨hj.1, hj.2.1, hj.2.2.1, hj.2.2.2⟩, h3 _ H1 S1 Lk.refl it_rng⟩
    · cases e
  · cases e
/-! ### for, while -/
theorem go_c {φ : Frm} {F1 F : Nat → List Addr} {H1 H : Hp} (g : Go F1 H1 F H) : (∀ a, Av φ.A F1 a → Av φ.A F1 a ∨ Av φ.A F a) ∧ (∀ a, (Av φ.A F1 a ∨ Av φ.A F a) → Av φ.A F1 a ∨ H1 a = none) ∧ Lk (fun a => Av φ.A F1 a ∨ Av φ.A F a) H1 H := by
  refine ⟨fun a h => .inl h, fun a h => ?_, g.lk.mono fun a z => .inl (.inr z)⟩
  rcases h with h | h | h
  · exact .inl h
  · exact .inl (.inl h)
  · exact (g.nw a h).imp .inr id
theorem s_for {iter : Expr} {body : List Stmt} {fi : Ev (List T)} {g : T → Sv} {b : Sv} {vs : List Nat} {pos : Pos} (hp : PassesOwn (model X.prog X.w) X.A X.env X.xe) (hc : X.calm = true) (hi : PI X tg iter (tXI K W fi)) (hg : PG X tg (tXG K vs g)) (hgn : ∀ t ρ, (∃ ρ', g t ρ = .nx ρ') ∨ g t ρ = .st) (hb : PSs X body (tXS K W b))
    (hs : ∀ x, foldedSetIterable iter X.env x = pure x := by intro _; rfl) : PS X (.For tg iter body [] pos) (tXS K W (sFor fi g b)) := PS.imp (ps_for hp hc hi hg hb hs) fun D σ H h => by
  obtain ⟨φ, F, ρ, S, h⟩ := h
  refine ⟨φ, F, ρ, S, OuOk.ofE S h fun l ρ1 J H1 _ S1 L1 R1 h1 => ?_⟩
  refine ⟨fun i m σ' H' => m = l.length - i ∧ i ≤ l.length ∧ ∃ F' ρ', SAt K φ F' σ' H' ρ' ∧ Go F H1 F' H' ∧ OuOk K W φ F H1 D (forL g b (l.drop i) ρ'), ⟨_, rfl, Nat.zero_le _, F, ρ1, S1, Go.refl, h1⟩, ?_⟩
  rintro i m σ' H' ⟨rfl, hi, F', ρ', S', g', o⟩
  obtain ⟨c1, c2, c3⟩ := go_c (φ := φ) g'
  obtain ⟨w1, w2⟩ := R1 _ H' c1 c2 c3 i
  by_cases hlt : i < l.length
  · have ei : l[i]? = some l[i] := List.getElem?_eq_getElem hlt
    obtain ⟨hgo, hy⟩ := w1 _ ei
    rw [List.drop_eq_getElem_cons hlt] at o
    refine .inr ⟨hgo, fun σ2 H2 => ∃ F2 ρ2, SAt K φ F2 σ2 H2 ρ2 ∧ Go F H1 F2 H2 ∧ OuOk K W φ F H1 D (forL g b (l.drop (i + 1)) ρ2), fun σ2 H2 ⟨F2, ρ2, q⟩ => ⟨_, by omega, rfl, hlt, F2, ρ2, q⟩, fun x H3 yl => ?_⟩
    obtain ⟨s3, r3⟩ := hy x H3 yl
    have S3 := S'.same s3
    have g3 : Go F H1 F' H3 := Go.trans S'.owd S1.owd g' (Go.of (Lk.of_same s3))
    have r4 : Rep K (Av φ.A F') H3 x l[i] := r3.weak fun a z => .inl (.inr z)
    unfold forL at o
    rcases hgn l[i] ρ' with ⟨ρ2, e2⟩ | e2
    · refine ⟨φ, F', ρ', l[i], S3, r4, ρ2, e2, fun σ4 S4 _ => ⟨φ, F', ρ2, S4, ?_⟩⟩
      unfold sSeq at o
      rw [e2] at o
      dsimp only at o
      cases e5 : b ρ2 with
      | nx ρ5 =>
        rw [e5] at o
        exact fun F5 σ5 H5 S5 g5 => ⟨F5, ρ5, S5, Go.trans S4.owd S1.owd g3 g5, o⟩
      | ct ρ5 =>
        rw [e5] at o
        exact fun F5 σ5 H5 S5 g5 => ⟨F5, ρ5, S5, Go.trans S4.owd S1.owd g3 g5, o⟩
      | br ρ5 =>
        rw [e5] at o
        exact fun F5 σ5 H5 S5 g5 => o F5 σ5 H5 S5 (Go.trans S4.owd S1.owd g3 g5)
      | rt t ρ5 =>
        rw [e5] at o
        exact o
      | ex c ns ll ρ5 =>
        rw [e5] at o
        exact o
      | st =>
        rw [e5] at o
        exact o.elim
    · unfold sSeq at o
      rw [e2] at o
      exact o.elim
  · have e : i = l.length := by omega
    subst e
    rw [List.drop_length] at o
    exact .inl ⟨w2 (Nat.le_refl _), o F' σ' H' S' g'⟩
theorem s_while {c : Expr} {body : List Stmt} {tc : Ev Bool} {b : Sv} {pos : Pos} (hp : PassesOwn (model X.prog X.w) X.A X.env X.xe) (hc : PT X c (tXT K W tc)) (hb : PSs X body (tXS K W b)) : PS X (.While c body [] pos) (tXS K W (sWhile tc b)) := PS.imp (ps_while hp hc hb) fun D σ H h => by
  obtain ⟨φ, F, ρ, S, h⟩ := h
  unfold sWhile at h
  split at h
  · rename_i hx
    obtain ⟨n, hn⟩ := hx.choose_spec
    generalize hx.choose = o at h hn
    refine ⟨fun m σ' H' => ∃ F' ρ', SAt K φ F' σ' H' ρ' ∧ Go F H F' H' ∧ whN tc b m ρ' = some o, ⟨n, F, ρ, S, Go.refl, hn⟩, ?_⟩
    rintro m σ' H' ⟨F', ρ', S', g', hw⟩
    cases m with
    | zero => cases hw
    | succ m =>
      unfold whN at hw
      refine ⟨φ, F', ρ', S', ?_⟩
      cases e : tc ρ' with
      | ok x ρ1 =>
        rw [e] at hw
        intro v H1 S1 L1 R1
        subst R1
        have g1 : Go F H F' H1 := Go.trans S'.owd S.owd g' (Go.of L1)
        cases v with
        | true =>
          refine iteT ⟨fun σ2 H2 => ∃ F2 ρ2, SAt K φ F2 σ2 H2 ρ2 ∧ Go F H F2 H2 ∧ whN tc b m ρ2 = some o, fun σ2 H2 q => ⟨m, Nat.lt_succ_self _, q⟩, φ, F', ρ1, S1, ?_⟩
          dsimp only at hw
          cases e5 : b ρ1 with
          | nx ρ5 =>
            rw [e5] at hw
            exact fun F5 σ5 H5 S5 g5 => ⟨F5, ρ5, S5, Go.trans S1.owd S.owd g1 g5, hw⟩
          | ct ρ5 =>
            rw [e5] at hw
            exact fun F5 σ5 H5 S5 g5 => ⟨F5, ρ5, S5, Go.trans S1.owd S.owd g1 g5, hw⟩
          | br ρ5 =>
            rw [e5] at hw
            cases hw
            exact fun F5 σ5 H5 S5 g5 => h F5 σ5 H5 S5 (Go.trans S1.owd S.owd g1 g5)
          | rt t ρ5 =>
            rw [e5] at hw
            cases hw
            exact h
          | ex c ns ll ρ5 =>
            rw [e5] at hw
            cases hw
            exact h
          | st =>
            rw [e5] at hw
            cases hw
            exact h.elim
        | false =>
          dsimp only at hw
          cases hw
          exact iteF (h F' σ' H1 S1 g1)
      | ex k ns l ρ1 =>
        rw [e] at hw
        cases hw
        exact fun cls d H1 S1 x => h cls d F' σ' H1 S1 (x.weak (ab_weak S1))
      | st =>
        rw [e] at hw
        cases hw
        exact h.elim
  · exact h.elim
end
end Tm

/-! Mirror 4: defs, calls, makers, methods, fields stored. -/
namespace Tm
open PySem PySem.Spec PyProof.Rows L2
inductive Re where
  | ok (t : T) (as : Ro)
  | ex (c : Str) (ns : List Str) (l : List T) (as : Ro)
  | st
/-- a frame of the arguments -/
def frA (A : ASet) (F0 : Nat → List Addr) (H : Hp) (σ : L2.St) : Frm := ⟨A, H, OwP F0, σ, F0⟩
def noOw (as : Ro) : Prop := ∀ (i : Nat) (t : T), as[i]? ≠ some (Sl.ow t)
/-- the promise of a def by its mirror -/
def spF (K : PySem.W.Frag) (Fm : Ro → Re) : Sp := fun vs H Q E => ∃ A F0 as, SAt K (frA A F0 H (vs.map some)) F0 (vs.map some) H as ∧ noOw as ∧ match Fm as with
  | .ok t as' => ∀ v H', SAt K (frA A F0 H (vs.map some)) F0 (vs.map some) H' as' → Rep K (Av A F0) H' v t → Q v H'
  | .ex c ns l as' => ∀ cls d H', SAt K (frA A F0 H (vs.map some)) F0 (vs.map some) H' as' → XAt K (Av A F0) H' c ns l cls d → E cls d H'
  | .st => False
/-- what is left of the arguments: the lent ones as they are then -/
def outA : Ro → Ro → Option Ro
  | [], _ => some []
  | .rf _ :: as, .rf t :: ρ => (outA as ρ).map (.rf t :: ·)
  | .rf _ :: _, _ => none
  | s :: as, _ :: ρ => (outA as ρ).map (s :: ·)
  | _ :: _, [] => none
def reA (as : Ro) : Ou → Re
  | .nx ρ => match outA as ρ with
    | some as' => .ok .non as'
    | none => .st
  | .rt t ρ => match outA as ρ with
    | some as' => .ok t as'
    | none => .st
  | .ex c ns l ρ => match outA as ρ with
    | some as' => .ex c ns l as'
    | none => .st
  | _ => .st
/-- a def's mirror by its body's: n slots, k parameters -/
def runF (k n : Nat) (g : Sv) (as : Ro) : Re := if as.length = k then reA as (g (as ++ List.replicate (n - k) .un)) else .st
section
variable {K : PySem.W.Frag} {A : ASet} {F0 : Nat → List Addr} {H H' : Hp}
theorem outA_get : ∀ {as ρ as' : Ro}, outA as ρ = some as' → as'.length = as.length ∧ ∀ i : Nat, (∀ s, as[i]? = some s → (∀ u, s ≠ Sl.rf u) → as'[i]? = some s) ∧ (∀ u, as[i]? = some (Sl.rf u) → ∃ t, ρ[i]? = some (Sl.rf t) ∧ as'[i]? = some (Sl.rf t))
  | [], ρ, as', h => by
    cases h
    exact ⟨rfl, fun i => ⟨fun s e => by simp at e, fun u e => by simp at e⟩⟩
  | s :: as, [], as', h => by
    cases s <;> cases h
  | s :: as, r :: ρ, as', h => by
    have key : ∀ s' : Sl, (outA as ρ).map (s' :: ·) = some as' → ((∀ u, s ≠ Sl.rf u) → s' = s) → (∀ u, s = Sl.rf u → ∃ t, r = Sl.rf t ∧ s' = Sl.rf t) → as'.length = (s :: as).length ∧ ∀ i : Nat, (∀ s0, (s :: as)[i]? = some s0 → (∀ u, s0 ≠ Sl.rf u) → as'[i]? = some s0) ∧ (∀ u, (s :: as)[i]? = some (Sl.rf u) → ∃ t, (r :: ρ)[i]? = some (Sl.rf t) ∧ as'[i]? = some (Sl.rf t)) := fun s' e k1 k2 => by
      obtain ⟨q, hq, rfl⟩ := Option.map_eq_some_iff.mp e
      obtain ⟨h1, h2⟩ := outA_get hq
      have : (s' :: q).length = (s :: as).length ∧ ∀ i : Nat, (∀ s0, (s :: as)[i]? = some s0 → (∀ u, s0 ≠ Sl.rf u) → (s' :: q)[i]? = some s0) ∧ (∀ u, (s :: as)[i]? = some (Sl.rf u) → ∃ t, (r :: ρ)[i]? = some (Sl.rf t) ∧ (s' :: q)[i]? = some (Sl.rf t)) := by
        refine ⟨by simp [h1], fun i => ?_⟩
        cases i with
        | zero =>
          refine ⟨fun s0 e0 n0 => ?_, fun u e0 => ?_⟩
          · simp at e0
            subst e0
            simp [k1 n0]
          · simp at e0
            obtain ⟨t, e1, e2⟩ := k2 u e0
            exact ⟨t, by simp [e1], by simp [e2]⟩
        | succ i => simpa using h2 i
      exact this
    cases s with
    | rf u =>
      cases r with
      | rf t => exact key (.rf t) h (fun n => absurd rfl (n u)) fun u e => ⟨t, rfl, rfl⟩
      | _ => cases h
    | un => exact key .un h (fun _ => rfl) fun u e => by cases e
    | im t => exact key (.im t) h (fun _ => rfl) fun u e => by cases e
    | ow t => exact key (.ow t) h (fun _ => rfl) fun u e => by cases e
/-- at the entry -/
theorem start_get {N : List Str} {vs : List V} {i : Nat} : (∀ x, (vs.map some)[i]? = some x → (L2.start N vs)[i]? = some x) := fun x h => by
  unfold L2.start
  rw [List.getElem?_append_left (List.getElem?_eq_some_iff.mp h).1]
  exact h
theorem entry {N : List Str} {vs : List V} {as : Ro} (S : SAt K (frA A F0 H (vs.map some)) F0 (vs.map some) H as) (hk : vs.length ≤ N.length) :
    SAt K (frA A F0 H (L2.start N vs)) F0 (L2.start N vs) H (as ++ List.replicate (N.length - as.length) .un) := by
  have hl : vs.length = as.length := by simpa using S.len
  refine ⟨by unfold L2.start; simp [hl], S.keep, S.adom, S.odom, S.oA, S.dj, fun i t h => ⟨rfl, rfl⟩, fun a h => ?_, fun i => ?_⟩
  · obtain ⟨i, t, e, m⟩ := S.bo a h
    exact ⟨i, t, by rw [List.getElem?_append_left (List.getElem?_eq_some_iff.mp e).1]; exact e, m⟩
  · have := S.sl i
    by_cases hi : i < as.length
    · rw [List.getElem?_append_left hi]
      have e : (vs.map some)[i]? = some (some (vs[i]'(by omega))) := by simp [hl, hi]
      rw [start_get _ e]
      rw [e] at this
      exact this
    · have e1 : (vs.map some)[i]? = none := List.getElem?_eq_none (by simp; omega)
      have e2 : as[i]? = none := List.getElem?_eq_none (by omega)
      rw [e1, e2] at this
      generalize F0 i = Fi at this ⊢
      cases this
      cases e3 : (as ++ List.replicate (N.length - as.length) Sl.un)[i]? with
      | none => exact .out
      | some s =>
        rw [List.getElem?_append_right (by omega)] at e3
        obtain ⟨_, e4⟩ := List.getElem?_eq_some_iff.mp e3
        rw [List.getElem_replicate] at e4
        subst e4
        exact .un
/-- at the exit -/
theorem leave {N : List Str} {vs : List V} {as as' : Ro} {F' : Nat → List Addr} {σ' : L2.St} {ρ' : Ro} (S : SAt K (frA A F0 H (vs.map some)) F0 (vs.map some) H as) (hn : noOw as)
    (S' : SAt K (frA A F0 H (L2.start N vs)) F' σ' H' ρ') (e : outA as ρ' = some as') : SAt K (frA A F0 H (vs.map some)) F0 (vs.map some) H' as' := by
  obtain ⟨h1, h2⟩ := outA_get e
  have hl : vs.length = as.length := by simpa using S.len
  refine ⟨by rw [h1]; exact S.len, S'.keep, S'.adom, S.odom, S.oA, S.dj, fun i t h => ⟨rfl, rfl⟩, fun a h => ?_, fun i => ?_⟩
  · obtain ⟨i, t, e, m⟩ := S.bo a h
    obtain ⟨t', _, e'⟩ := (h2 i).2 t e
    exact ⟨i, t', e', m⟩
  · have T := S.sl i
    cases ea : as[i]? with
    | none =>
      have : as'[i]? = none := List.getElem?_eq_none (by rw [h1]; exact List.getElem?_eq_none_iff.mp ea)
      rw [this]
      rw [ea] at T
      generalize F0 i = Fi at T ⊢
      generalize (vs.map some)[i]? = vi at T ⊢
      cases T
      exact .out
    | some s =>
      cases s with
      | rf u =>
        obtain ⟨t, e1, e2⟩ := (h2 i).2 u ea
        obtain ⟨p1, p2⟩ := S'.pin i t e1
        rw [ea] at T
        have hi : i < vs.length := by rw [hl]; exact (List.getElem?_eq_some_iff.mp ea).1
        have ev : (vs.map some)[i]? = some (some vs[i]) := by simp [hi]
        have Q := S'.sl i
        have p1' : σ'[i]? = some (some vs[i]) := by
          rw [p1]
          exact start_get _ ev
        have p2' : F' i = F0 i := p2
        rw [e1, p1', p2'] at Q
        rw [e2, ev]
        generalize hF : F0 i = Fi at Q ⊢
        cases Q with
        | rf o =>
          have sub : ∀ a, Av A F0 a → Av A F' a ∨ H' a = none := by
            rintro a (z | z)
            · exact .inl (.inl z)
            · obtain ⟨j, t', e3, m3⟩ := S'.bo a z
              exact .inl (.inr ⟨j, m3⟩)
          exact .rf (o.weak sub)
      | ow u => exact absurd ea (hn i u)
      | un =>
        rw [(h2 i).1 _ ea (fun u z => by cases z)]
        rw [ea] at T
        generalize F0 i = Fi at T ⊢
        generalize (vs.map some)[i]? = vi at T ⊢
        cases T
        exact .un
      | im u =>
        rw [(h2 i).1 _ ea (fun u z => by cases z)]
        rw [ea] at T
        generalize F0 i = Fi at T ⊢
        generalize (vs.map some)[i]? = vi at T ⊢
        cases T with
        | im r => exact .im (r.lk (S'.keep.mono fun a z => .inr z))
end
/-- what a def's body keeps, its mirror g -/
theorem body_ok {X : Cx} {K : PySem.W.Frag} {W : WX} {N : List Str} {k : Nat} {body : List Stmt} {g : Sv} {vs : List V} {H : Hp} {Q : VK} {E : XK} (hp : PSs X body (tXS K W g)) (hN : k ≤ N.length) (hW : ∀ cls d σ H', E cls d H' → W cls d σ H') (h : spF K (runF k N.length g) vs H Q E) :
    ∃ t, PSs X body t ∧ t { nx := fun _ H' => Q .non H', rt := Q } (L2.start N vs) H := by
  refine ⟨_, hp, ?_⟩
  obtain ⟨A, F0, as, S, hn, h⟩ := h
  have hl : vs.length = as.length := by simpa using S.len
  unfold runF at h
  by_cases hk : as.length = k
  · rw [if_pos hk, ← hk] at h
    have S0 := entry (N := N) S (by omega)
    refine ⟨_, F0, _, S0, ?_⟩
    have wk : ∀ {F' : Nat → List Addr} {σ' : L2.St} {H' : Hp} {ρ' : Ro}, SAt K (frA A F0 H (L2.start N vs)) F' σ' H' ρ' → ∀ a, Av A F0 a → AB (frA A F0 H (L2.start N vs)) a ∨ H' a = none := fun S' a z => by
      rcases z with z | z
      · exact .inl (.inl z)
      · exact .inl (.inr z)
    cases e : g (as ++ List.replicate (N.length - as.length) .un) with
    | nx ρ' =>
      rw [e] at h
      intro F' σ' H' S' _
      unfold reA at h
      dsimp only at h
      cases eo : outA as ρ' with
      | none => rw [eo] at h; exact h.elim
      | some as' =>
        rw [eo] at h
        exact h .non H' (leave S hn S' eo) .non
    | rt t ρ' =>
      rw [e] at h
      intro v F' σ' H' S' r
      unfold reA at h
      dsimp only at h
      cases eo : outA as ρ' with
      | none => rw [eo] at h; exact h.elim
      | some as' =>
        rw [eo] at h
        exact h v H' (leave S hn S' eo) (r.weak (wk S'))
    | ex c ns l ρ' =>
      rw [e] at h
      intro cls d F' σ' H' S' x
      unfold reA at h
      dsimp only at h
      cases eo : outA as ρ' with
      | none => rw [eo] at h; exact h.elim
      | some as' =>
        rw [eo] at h
        exact hW _ _ _ _ (h cls d H' (leave S hn S' eo) (x.weak (wk S')))
    | br ρ' => rw [e] at h; exact h.elim
    | ct ρ' => rw [e] at h; exact h.elim
    | st => rw [e] at h; exact h.elim
  · rw [if_neg hk] at h
    exact h.elim
theorem spF_len {K : PySem.W.Frag} {k n : Nat} {g : Sv} {vs : List V} {H : Hp} {Q : VK} {E : XK} (h : spF K (runF k n g) vs H Q E) : vs.length = k := by
  obtain ⟨A, F0, as, S, hn, h⟩ := h
  have hl : vs.length = as.length := by simpa using S.len
  unfold runF at h
  by_cases hk : as.length = k
  · omega
  · rw [if_neg hk] at h
    exact h.elim
/-! ### calls with values alone -/
section
variable {K : PySem.W.Frag} {A : ASet} {H : Hp}
theorem owp_nil {a : Addr} : ¬ OwP (fun _ => []) a := fun ⟨_, h⟩ => nomatch h
theorem args_sat {vs : List V} {ts : List T} (d : Dom A H) (r : Reps K A H vs ts) : SAt K (frA A (fun _ => []) H (vs.map some)) (fun _ => []) (vs.map some) H (ts.map .im) := by
  refine ⟨by simp [r.length], Lk.refl, d, fun i a h => (nomatch h), fun i a h => (nomatch h), fun i j a h => (nomatch h), fun i t h => ⟨rfl, rfl⟩, fun a h => absurd h owp_nil, fun i => ?_⟩
  have wk : ∀ a, Av A (fun _ => []) a → A a ∨ H a = none := fun a z => .inl (z.resolve_right owp_nil)
  cases e : ts[i]? with
  | none =>
    have : (ts.map Sl.im)[i]? = none := by simp at e ⊢; exact e
    rw [this]
    exact .out
  | some t =>
    obtain ⟨x, ex, rx⟩ := r.get e
    have e1 : (ts.map Sl.im)[i]? = some (.im t) := by rw [List.getElem?_map, e]; rfl
    have e2 : (vs.map some)[i]? = some (some x) := by rw [List.getElem?_map, ex]; rfl
    rw [e1, e2]
    exact .im (rx.weak wk)
theorem noOw_im (ts : List T) : noOw (ts.map .im) := fun i t h => by
  rw [List.getElem?_map] at h
  obtain ⟨u, _, e⟩ := Option.map_eq_some_iff.mp h
  cases e
/-- a call's mirror with values alone -/
def callV (Fm : Ro → Re) (ts : List T) : Ev T := fun ρ => match Fm (ts.map .im) with
  | .ok t _ => .ok t ρ
  | .ex c ns l _ => .ex c ns l ρ
  | .st => .st
theorem av_nil {v : V} {t : T} (r : Rep K (Av A (fun _ => [])) H v t) : Rep K A H v t := r.weak fun a z => .inl (.inl z)
theorem same_of_lk {Ho H' : Hp} (L : Lk (OwP (fun _ => [])) Ho H') : Same Ho H' := fun b o e => L.all b o owp_nil e
end
section
variable {X : Cx} {K : PySem.W.Frag} {W : WX} {CX : CXT} {k : Nat} {f C : Addr} {Fm : Ro → Re} {dvs : List V} {ds : List T} {E : XK} {x m : Str} {p pos apos : Pos} {e o : Expr} {es : List Expr} {fa : Ev T} {fr : Ev (List T)}
def mCall (Fm : Ro → Re) (ds : List T) (fr : Ev (List T)) : Ev T := fr.bind fun ts => callV Fm (ts ++ ds)
/-- what a call with values gives -/
theorem callV_ok {φ : Frm} {F : Nat → List Addr} {σ : L2.St} {H : Hp} {ρ : Ro} {Q : VK} {vs : List V} {ts : List T} (S : SAt K φ F σ H ρ) (r : Reps K (Av φ.A F) H vs ts) (h : RsOk K W φ F σ H (fun v t H' => Rep K (Av φ.A F) H' v t) Q (callV Fm ts ρ)) : spF K Fm vs H Q fun cls d H' => W cls d σ H' := by
  refine ⟨Av φ.A F, fun _ => [], ts.map .im, args_sat S.dom r, noOw_im ts, ?_⟩
  unfold callV at h
  cases e : Fm (ts.map .im) with
  | ok t as' =>
    rw [e] at h
    intro v H' S' r'
    have s := same_of_lk S'.keep
    exact h v H' (S.same s) (Lk.of_same s) (av_nil r')
  | ex c ns l as' =>
    rw [e] at h
    intro cls d H' S' x
    have s := same_of_lk S'.keep
    exact h cls d H' (S.same s) (x.weak fun a z => .inl (.inl z))
  | st =>
    rw [e] at h
    exact h.elim
theorem m_call (D : Dn X.prog X.w X.K X.mg X.base CX k f dvs (spF K Fm)) (hr : Room k X.A) (hm : X.mg x = some (.ref f)) (hx : ∀ σ, Passes CX X fun cls d H' => W cls d σ H') (hd : ∀ A H, Reps K A H dvs ds) (ha : PA X (e :: es) (tXA K W fr)) (hg : Gl X x := by rfl) (hdb : (x == ("__debug__" : Str)) = false := by decide)
    (he : starEach (e :: es) X.env = (false, eval e X.env) :: starEach es X.env := by rfl) (hpl : (backTo pos (starEach es X.env)).any (·.1) = false := by rfl) : PE X (.Call (.Name x p) (e :: es) [] pos) (tX K W (mCall Fm ds fr)) := by
  refine ⟨fun pins s σ H Q I hw => ?_⟩
  refine (pe_c (E := fun cls d H' => W cls d σ H') D hr hm (hx σ) ha hg hdb he hpl).run pins s σ H Q I ?_
  obtain ⟨φ, F, ρ, S, h⟩ := hw
  exact ⟨φ, F, ρ, S, RsOk.bind h fun ts ρ1 vs H1 _ S1 L1 R1 h1 => callV_ok S1 (R1.append (hd _ _)) h1⟩
theorem m_call0 (D : Dn X.prog X.w X.K X.mg X.base CX k f dvs (spF K Fm)) (hr : Room k X.A) (hm : X.mg x = some (.ref f)) (hx : ∀ σ, Passes CX X fun cls d H' => W cls d σ H') (hd : ∀ A H, Reps K A H dvs ds) (hg : Gl X x := by rfl) (hdb : (x == ("__debug__" : Str)) = false := by decide) :
    PE X (.Call (.Name x p) [] [] pos) (tX K W (callV Fm ds)) := by
  refine ⟨fun pins s σ H Q I hw => ?_⟩
  refine (pe_c0 (E := fun cls d H' => W cls d σ H') D hr hm (hx σ) hg hdb).run pins s σ H Q I ?_
  obtain ⟨φ, F, ρ, S, h⟩ := hw
  exact callV_ok S (hd _ _) h
/-- a method of a value of the class C -/
def mMeth (C m : Str) (Fm : Ro → Re) (ds : List T) (fa : Ev T) (fr : Ev (List T)) : Ev T := fa.bind fun x => match x with
  | .obj C' ns l => if C' = C ∧ m ∉ ns then fr.bind fun ts => callV Fm (.obj C' ns l :: (ts ++ ds)) else fun _ => .st
  | _ => fun _ => .st
theorem lookup_no {fs : List (Str × V)} {m : Str} (h : m ∉ fs.map (·.1)) : fs.lookup m = none := by
  rw [List.lookup_eq_none_iff]
  intro q hq
  have : m ≠ q.1 := fun z => h (by rw [z]; exact List.mem_map_of_mem (f := (·.1)) hq)
  simpa using this
theorem meth_read {Cn : Str} {σ : L2.St} {H : Hp} {Q : VK} {tr : TA} (hC : C = He.ga K Cn) (hd : ∀ A H, Reps K A H dvs ds) (ht : tr = tXA K W fr) (h : tX K W (mMeth Cn m Fm ds fa fr) σ H Q) : tMeth C m (spF K Fm) dvs (fun cls d H' => W cls d σ H') (tX K W fa) tr σ H Q := by
  subst ht hC
  obtain ⟨φ, F, ρ, S, h⟩ := h
  refine ⟨φ, F, ρ, S, RsOk.bind h fun x ρ1 vx H1 _ S1 L1 R1 h1 => ?_⟩
  cases R1 with
  | obj na hh rs =>
    dsimp only at h1
    split at h1
    · rename_i hc
      obtain ⟨rfl, hm⟩ := hc
      refine ⟨_, _, _, rfl, hh, lookup_no hm, φ, F, ρ1, S1, RsOk.bind h1 fun ts ρ2 vs H2 _ S2 L2 R2 h2 => ?_⟩
      exact callV_ok S2 (.cons ((Rep.obj na hh rs).lk (L2.mono fun a z => .inr z)) (R2.append (hd _ _))) h2
    · exact h1.elim
  | _ => exact h1.elim
theorem m_meth {pl : Sem Bool} {Cn : Str} (he : PE X o (tX K W fa)) (c : Cls X.K (He.ga K Cn)) (hm : Meth X.K (He.ga K Cn) m f) (D : Dn X.prog X.w X.K X.mg X.base CX k f dvs (spF K Fm)) (hr : Room k X.A) (hx : ∀ σ, Passes CX X fun cls d H' => W cls d σ H') (hd : ∀ A H, Reps K A H dvs ds) (ha : PA X (e :: es) (tXA K W fr))
    (hst : starEach (e :: es) X.env = (false, eval e X.env) :: starEach es X.env := by rfl) (hpl : (backTo pos (starEach es X.env)).any (·.1) = false := by rfl)
    (ht : eval (.Call (.Attribute o m apos) (e :: es) [] pos) X.env = (do
      let v ← eval o X.env
      standAt apos.atName
      let (g, first) ← holding [v] (getMethod v m pl)
      callWith pos g first (backTo pos (starEach (e :: es) X.env)) (backToKw pos (keywordEach [] X.env))) := by rfl) :
    PE X (.Call (.Attribute o m apos) (e :: es) [] pos) (tX K W (mMeth Cn m Fm ds fa fr)) := by
  refine ⟨fun pins s σ H Q I hw => ?_⟩
  exact (pe_m (E := fun cls d H' => W cls d σ H') he c hm D hr (hx σ) ha hst hpl ht).run pins s σ H Q I (meth_read rfl hd rfl hw)
theorem m_meth0 {pl : Sem Bool} {Cn : Str} (he : PE X o (tX K W fa)) (c : Cls X.K (He.ga K Cn)) (hm : Meth X.K (He.ga K Cn) m f) (D : Dn X.prog X.w X.K X.mg X.base CX k f dvs (spF K Fm)) (hr : Room k X.A) (hx : ∀ σ, Passes CX X fun cls d H' => W cls d σ H') (hd : ∀ A H, Reps K A H dvs ds)
    (ht : eval (.Call (.Attribute o m apos) [] [] pos) X.env = (do
      let v ← eval o X.env
      standAt apos.atName
      let (g, first) ← holding [v] (getMethod v m pl)
      callWith pos g first (backTo pos (starEach [] X.env)) (backToKw pos (keywordEach [] X.env))) := by rfl) :
    PE X (.Call (.Attribute o m apos) [] [] pos) (tX K W (mMeth Cn m Fm ds fa mNil)) := by
  refine ⟨fun pins s σ H Q I hw => ?_⟩
  refine (pe_m0 (E := fun cls d H' => W cls d σ H') he c hm D hr (hx σ) ht).run pins s σ H Q I ?_
  have := meth_read (C := He.ga K Cn) (tr := tXA K W mNil) rfl hd rfl hw
  obtain ⟨φ, F, ρ, S, q⟩ := this
  refine ⟨φ, F, ρ, S, RsOk.mono q fun v H' h => ?_⟩
  obtain ⟨a, dx, fs, h1, h2, h3, φ', F', ρ', S', q'⟩ := h
  exact ⟨a, dx, fs, h1, h2, h3, q' [] H' S' Lk.refl .nil⟩
end
end Tm

/-! Mirror 5: objects: makers, fields, lent arguments, own lists. -/
namespace Tm
open PySem PySem.Spec PyProof.Rows L2
def Sl.any : Sl → Option T
  | .im t => some t
  | .ow t => some t
  | .rf t => some t
  | .un => none
/-- a maker's mirror -/
def mkV (Cn : Str) (Fm : Ro → Re) (ts : List T) : Ev T := fun ρ => match Fm (.rf (.obj Cn [] []) :: ts.map .im) with
  | .ok .non (.rf t :: _) => .ok t ρ
  | .ex c ns l _ => .ex c ns l ρ
  | _ => .st
def mMake (Cn : Str) (Fm : Ro → Re) (ds : List T) (fr : Ev (List T)) : Ev T := fr.bind fun ts => mkV Cn Fm (ts ++ ds)
section
variable {K : PySem.W.Frag} {A : ASet} {H : Hp}
def F1 (x : Addr) : Nat → List Addr := fun k => if k = 0 then [x] else []
theorem owp_F1 {x a : Addr} : OwP (F1 x) a ↔ a = x := by
  constructor
  · rintro ⟨i, h⟩
    unfold F1 at h
    split at h
    · simpa using h
    · cases h
  · rintro rfl
    exact ⟨0, by simp [F1]⟩
theorem make_sat {Cn : Str} {vs : List V} {ts : List T} {x dx : Addr} (d : Dom A H) (r : Reps K A H vs ts) (hx : H x = none) (hdx : H dx = none) (ne : dx ≠ x) :
    SAt K (frA A (F1 x) (upd (upd H dx (.own x)) x (.ins (He.ga K Cn) dx [])) ((V.ref x :: vs).map some)) (F1 x) ((V.ref x :: vs).map some) (upd (upd H dx (.own x)) x (.ins (He.ga K Cn) dx [])) (.rf (.obj Cn [] []) :: ts.map .im) := by
  have s1 : Same H (upd H dx (.own x)) := same_new hdx
  have hx1 : upd H dx (.own x) x = none := by rw [upd_ne (fun z => ne z.symm)]; exact hx
  have s : Same H (upd (upd H dx (.own x)) x (.ins (He.ga K Cn) dx [])) := s1.trans (same_new hx1)
  have nA : ¬ A x := d.new hx
  have wk : ∀ a, Av A (F1 x) a → A a ∨ H a = none := fun a z => z.imp id fun z => by rw [owp_F1.mp z]; exact hx
  refine ⟨by simp [r.length], Lk.refl, fun a h => (d.same s) a h, fun i a h => .inl ⟨i, h⟩, fun i a h z => nA (by have := owp_F1.mp ⟨i, h⟩; subst this; exact z), fun i j a h1 h2 => ?_, fun i t h => ⟨rfl, rfl⟩, fun a h => ⟨0, _, rfl, by rw [owp_F1.mp h]; simp [F1]⟩, fun i => ?_⟩
  · unfold F1 at h1 h2
    split at h1
    · split at h2
      · omega
      · cases h2
    · cases h1
  · cases i with
    | zero => exact .rf (.obj upd_same .nil)
    | succ i =>
      cases e : ts[i]? with
      | none =>
        have : (Sl.rf (.obj Cn [] []) :: ts.map Sl.im)[i + 1]? = none := by simp at e ⊢; exact e
        rw [this]
        exact .out
      | some t =>
        obtain ⟨y, ey, ry⟩ := r.get e
        have e1 : (Sl.rf (.obj Cn [] []) :: ts.map Sl.im)[i + 1]? = some (.im t) := by rw [List.getElem?_cons_succ, List.getElem?_map, e]; rfl
        have e2 : ((V.ref x :: vs).map some)[i + 1]? = some (some y) := by rw [List.map_cons, List.getElem?_cons_succ, List.getElem?_map, ey]; rfl
        rw [e1, e2]
        exact .im ((ry.weak wk).same s)
theorem Own.one {v : V} {t : T} {x : Addr} (o : Own K A H v t [x]) : ∀ l m, t ≠ .deal l m := by
  intro l m e
  subst e
  cases o
end
section
variable {X : Cx} {K : PySem.W.Frag} {W : WX} {CX : CXT} {k : Nat} {f : Addr} {Fm : Ro → Re} {dvs : List V} {ds : List T} {x m Cn : Str} {p pos apos : Pos} {e o : Expr} {es : List Expr} {fa : Ev T} {fr : Ev (List T)}
theorem mkV_ok {φ : Frm} {F : Nat → List Addr} {σ : L2.St} {H : Hp} {ρ : Ro} {Q : VK} {vs : List V} {ts : List T} (S : SAt K φ F σ H ρ) (r : Reps K (Av φ.A F) H vs ts) (h : RsOk K W φ F σ H (fun v t H' => Rep K (Av φ.A F) H' v t) Q (mkV Cn Fm ts ρ)) (x dx : Addr) (hx : H x = none) (hdx : H dx = none) (ne : dx ≠ x) :
    spF K Fm (.ref x :: vs) (upd (upd H dx (.own x)) x (.ins (He.ga K Cn) dx [])) (fun v H2 => v = .non ∧ Q (.ref x) H2) fun cls d H' => W cls d σ H' := by
  have s1 : Same H (upd H dx (.own x)) := same_new hdx
  have hx1 : upd H dx (.own x) x = none := by rw [upd_ne (fun z => ne z.symm)]; exact hx
  have s : Same H (upd (upd H dx (.own x)) x (.ins (He.ga K Cn) dx [])) := s1.trans (same_new hx1)
  refine ⟨Av φ.A F, F1 x, _, make_sat (S.dom) r hx hdx ne, fun i t => ?_, ?_⟩
  · cases i with
    | zero => intro z; cases z
    | succ i =>
      rw [List.getElem?_cons_succ]
      exact noOw_im ts i t
  · have sm : ∀ {H' : Hp} {as'}, SAt K (frA (Av φ.A F) (F1 x) (upd (upd H dx (.own x)) x (.ins (He.ga K Cn) dx [])) ((V.ref x :: vs).map some)) (F1 x) ((V.ref x :: vs).map some) H' as' → Same H H' := fun S' b u e =>
      S'.keep.all b u (fun z => by rw [owp_F1.mp z, hx] at e; cases e) (s _ _ e)
    unfold mkV at h
    cases e : Fm (.rf (.obj Cn [] []) :: ts.map .im) with
    | ok t as' =>
      rw [e] at h
      intro v H' S' r'
      cases t with
      | non =>
        cases r'
        refine ⟨rfl, ?_⟩
        cases as' with
        | nil => exact h.elim
        | cons a0 as' =>
          cases a0 with
          | rf t' =>
            have sl := S'.sl 0
            have e1 : F1 x 0 = [x] := by simp [F1]
            rw [e1] at sl
            cases sl with
            | rf o =>
              have rr : Rep K (Av φ.A F) H' (.ref x) t' := o.give (fun a ha z => by
                rw [List.mem_singleton] at ha
                subst ha
                exact S.fresh hx z) (fun a z => .inl (.inl z)) o.one
              exact h _ H' (S.same (sm S')) (Lk.of_same (sm S')) rr
          | _ => exact h.elim
      | _ => exact h.elim
    | ex c ns l as' =>
      rw [e] at h
      intro cls d H' S' xx
      exact h cls d H' (S.same (sm S')) (xx.weak fun a z => .inl (.inl z))
    | st =>
      rw [e] at h
      exact h.elim
theorem m_make (M : Mk X.K (He.ga K Cn) f) (D : Dn X.prog X.w X.K X.mg X.base CX k f dvs (spF K Fm)) (hr : Room (k + 1) X.A) (hm : X.mg x = some (.ref (He.ga K Cn))) (hx : ∀ σ, Passes CX X fun cls d H' => W cls d σ H') (hd : ∀ A H, Reps K A H dvs ds) (ha : PA X (e :: es) (tXA K W fr)) (hg : Gl X x := by rfl)
    (hdb : (x == ("__debug__" : Str)) = false := by decide) (he : starEach (e :: es) X.env = (false, eval e X.env) :: starEach es X.env := by rfl) (hpl : (backTo pos (starEach es X.env)).any (·.1) = false := by rfl) :
    PE X (.Call (.Name x p) (e :: es) [] pos) (tX K W (mMake Cn Fm ds fr)) := by
  refine ⟨fun pins s σ H Q I hw => ?_⟩
  refine (pe_mk (E := fun cls d H' => W cls d σ H') M D hr hm (hx σ) ha hg hdb he hpl).run pins s σ H Q I ?_
  obtain ⟨φ, F, ρ, S, h⟩ := hw
  exact ⟨φ, F, ρ, S, RsOk.bind h fun ts ρ1 vs H1 _ S1 L1 R1 h1 => fun x dx hx hdx ne => mkV_ok S1 (R1.append (hd _ _)) h1 x dx hx hdx ne⟩
theorem m_make0 (M : Mk X.K (He.ga K Cn) f) (D : Dn X.prog X.w X.K X.mg X.base CX k f dvs (spF K Fm)) (hr : Room (k + 1) X.A) (hm : X.mg x = some (.ref (He.ga K Cn))) (hx : ∀ σ, Passes CX X fun cls d H' => W cls d σ H') (hd : ∀ A H, Reps K A H dvs ds) (hg : Gl X x := by rfl)
    (hdb : (x == ("__debug__" : Str)) = false := by decide) : PE X (.Call (.Name x p) [] [] pos) (tX K W (mkV Cn Fm ds)) := by
  refine ⟨fun pins s σ H Q I hw => ?_⟩
  refine (pe_mk0 (E := fun cls d H' => W cls d σ H') M D hr hm (hx σ) hg hdb).run pins s σ H Q I ?_
  obtain ⟨φ, F, ρ, S, h⟩ := hw
  exact fun x dx hx hdx ne => mkV_ok S (hd _ _) h x dx hx hdx ne
/-! ### fields by a slot -/
def mFldS (i : Nat) (Cs : List Str) (f : Str) : Ev T := fun ρ => match (ρ[i]?).bind Sl.any with
  | some t => Ev.lift (fFldC Cs f t) ρ
  | none => .st
theorem SAt.any {φ : Frm} {F : Nat → List Addr} {σ : L2.St} {H : Hp} {ρ : Ro} (S : SAt K φ F σ H ρ) {i : Nat} {C : Str} {ns : List Str} {l : List T} (h : (ρ[i]?).bind Sl.any = some (.obj C ns l)) :
    ∃ a dx fs, σ[i]? = some (some (.ref a)) ∧ H a = some (.ins (He.ga K C) dx fs) ∧ fs.map (·.1) = ns ∧ Reps K (Av φ.A F) H (fs.map (·.2)) l := by
  cases e : ρ[i]? with
  | none => rw [e] at h; cases h
  | some s =>
    rw [e] at h
    cases s with
    | un => cases h
    | im t =>
      cases h
      obtain ⟨v, hv, r⟩ := S.im e
      cases r with
      | obj na hh rs => exact ⟨_, _, _, hv, hh, rfl, rs⟩
    | ow t =>
      cases h
      obtain ⟨v, hv, o⟩ := S.own e rfl
      generalize F i = As at o
      cases o with
      | obj hh rs => exact ⟨_, _, _, hv, hh, rfl, rs⟩
    | rf t =>
      cases h
      obtain ⟨v, hv, o⟩ := S.own e rfl
      generalize F i = As at o
      cases o with
      | obj hh rs => exact ⟨_, _, _, hv, hh, rfl, rs⟩
theorem m_fldS (i : Nat) {y f : Str} {Cs : List Str} {np : Pos} (hC : m_fldC K Cs f) (hN : X.N[i]? = some y := by rfl) (hv : Vis X.env.scope y := by first | exact Or.inl rfl | exact Or.inr (Or.inl rfl) | exact Or.inr (Or.inr rfl)) (hd : (y == ("__debug__" : Str)) = false := by decide)
    (hcd : (y == ("__classdict__" : Str)) = false := by decide) (hb : attributeBase (.Name y np) f X.env (eval (.Name y np) X.env) = eval (.Name y np) X.env := by rfl) (hK : X.K = K := by rfl) : PE X (.Attribute (.Name y np) f pos) (tX K W (mFldS i Cs f)) := PE.imp (k_fld K (pe_var hN hv hd hcd) hb hK) fun σ H Q h => by
  obtain ⟨φ, F, ρ, S, h⟩ := h
  unfold mFldS at h
  cases e : (ρ[i]?).bind Sl.any with
  | none => rw [e] at h; exact h.elim
  | some t =>
    rw [e] at h
    obtain ⟨t', e', h3⟩ := RsOk.lift h
    unfold fFldC at e'
    split at e'
    · split at e'
      · rename_i hc
        obtain ⟨a, dx, fs, hs, ha, hn, rs⟩ := S.any e
        obtain ⟨v, ev, rv⟩ := rs.get e'
        obtain ⟨c1, c2⟩ := hC _ hc.1
        subst hn
        exact ⟨_, hs, a, _, dx, fs, v, rfl, ha, c1, c2, lookup_nix hc.2 ev, h3 v H S Lk.refl rv⟩
      · cases e'
    · cases e'
/-- a field's store -/
def putN (f : Str) (t : T) : List Str → List T → List Str × List T
  | n :: ns, x :: l => if n = f then (n :: ns, t :: l) else ((putN f t ns l).1.cons n, (putN f t ns l).2.cons x)
  | _, _ => ([f], [t])
def sFldS (i : Nat) (Cs : List Str) (f : Str) (fa : Ev T) : Sv := fun ρ => ouE (fa ρ) fun t ρ => match ρ[i]? with
  | some s => match s.tr with
    | some (.obj C ns l) => if C ∈ Cs ∧ ns.length < 1000 then .nx (ρ.set i (s.up (.obj C (putN f t ns l).1 (putN f t ns l).2))) else .st
    | _ => .st
  | none => .st
theorem putF_rep {A : ASet} {H : Hp} {f : Str} {y : V} {t : T} (r : Rep K A H y t) : ∀ {fs : List (Str × V)} {l : List T}, Reps K A H (fs.map (·.2)) l → (putF f y fs).map (·.1) = (putN f t (fs.map (·.1)) l).1 ∧ Reps K A H ((putF f y fs).map (·.2)) (putN f t (fs.map (·.1)) l).2
  | [], l, rs => by
    cases rs
    exact ⟨rfl, .cons r .nil⟩
  | (n, x) :: fs, l, rs => by
    cases rs with
    | cons r1 rs =>
      obtain ⟨h1, h2⟩ := putF_rep (f := f) r rs
      unfold putF
      simp only [List.map_cons]
      unfold putN
      split
      · exact ⟨rfl, .cons r rs⟩
      · simp only [List.map_cons]
        exact ⟨by rw [h1], .cons r1 h2⟩
theorem s_fldS (i : Nat) {y f : Str} {Cs : List Str} {np pos' : Pos} (hC : m_fldC K Cs f) (hv : PE X e (tX K W fa)) (hN : X.N[i]? = some y := by rfl) (hvis : Vis X.env.scope y := by first | exact Or.inl rfl | exact Or.inr (Or.inl rfl) | exact Or.inr (Or.inr rfl)) (hd : (y == ("__debug__" : Str)) = false := by decide)
    (hcd : (y == ("__classdict__" : Str)) = false := by decide) (hs : swapsWith e (some (.Attribute (.Name y np) f pos')) pos.line X.env = pure false := by rfl) (hK : X.K = K := by rfl) : PS X (.Assign [.Attribute (.Name y np) f pos'] e pos) (tXS K W (sFldS i Cs f fa)) := by
  subst hK
  refine PS.imp (ps_fld (pe_var hN hvis hd hcd) hv hs) fun D σ H h => ?_
  obtain ⟨φ, F, ρ, S, h⟩ := h
  refine ⟨φ, F, ρ, S, OuOk.ofE S h fun t ρ1 v H1 _ S1 L1 R1 h1 => ?_⟩
  cases e1 : ρ1[i]? with
  | none => rw [e1] at h1; exact h1.elim
  | some s =>
    rw [e1] at h1
    dsimp only at h1
    cases e2 : s.tr with
    | none => rw [e2] at h1; exact h1.elim
    | some u =>
      rw [e2] at h1
      cases u with
      | obj C ns l =>
        dsimp only at h1
        split at h1
        · rename_i hc
          obtain ⟨w, hw, o⟩ := S1.own e1 e2
          generalize hF : F i = As at o
          cases o with
          | @obj a dx C fs l hh rs =>
            obtain ⟨c1, c2⟩ := hC _ hc.1
            obtain ⟨q1, q2⟩ := putF_rep (f := f) R1 rs
            have nA : Av φ.A F a := .inr ⟨i, by rw [hF]; simp⟩
            have L : Lk (fun b => b ∈ F i) H1 (upd H1 a (.ins (He.ga X.K C) dx (putF f v fs))) := by
              refine ⟨fun b o nb e => ?_, fun b xs e => ?_, fun b o u e => ?_⟩
              · rw [upd_ne (fun z => nb (by rw [hF, z]; simp))]
                exact e
              · rw [upd_ne (fun z => by rw [z, hh] at e; cases e)]
                exact e
              · rw [upd_ne (fun z => by rw [z, hh] at e; cases e)]
                exact e
            have L' := L.mono (B := Av φ.A F) fun b z => .inr ⟨i, z⟩
            have o2 : Own X.K (Av φ.A F) (upd H1 a (.ins (He.ga X.K C) dx (putF f v fs))) (.ref a) (.obj C (putN f t (fs.map (·.1)) l).1 (putN f t (fs.map (·.1)) l).2) (F i) := by
              rw [hF, ← q1]
              exact .obj upd_same (q2.lk L')
            have S2 := S1.put e1 e2 hw L o2
            exact ⟨_, hw, a, _, dx, fs, rfl, hh, c1, c2, by simpa using hc.2, h1 F σ _ S2 (Go.of (L.mono fun b z => ⟨i, z⟩))⟩
        · exact h1.elim
      | _ => exact h1.elim
/-! ### lists of one's own -/
def setOw (i : Nat) (t : T) : Sv := fun ρ => match ρ[i]? with
  | some .un => .nx (ρ.set i (.ow t))
  | some (.im _) => .nx (ρ.set i (.ow t))
  | _ => .st
def sOwnL (i : Nat) (fr : Ev (List T)) : Sv := fun ρ => ouE (fr ρ) fun l => if l.length ≤ 1000000 then setOw i (.lst l) else fun _ => .st
theorem setOw_ok {φ : Frm} {F : Nat → List Addr} {σ : L2.St} {H H' : Hp} {ρ : Ro} {i : Nat} {v : V} {t : T} {As : List Addr} {D : Ends} (S : SAt K φ F σ H ρ) (hp : ∀ p ∈ As, H p = none) (s : Same H H') (o : Own K (Av φ.A (Fset F i As)) H' v t As) (h : OuOk K W φ F H D (setOw i t ρ)) : D.nx (σ.set i (some v)) H' := by
  have key : (∀ s, ρ[i]? = some s → s.tr = none) → i < ρ.length → OuOk K W φ F H D (.nx (ρ.set i (.ow t))) → D.nx (σ.set i (some v)) H' := fun hn hi h => by
    refine h _ _ _ (S.new hp s o hn hi) ⟨Lk.of_same s, ?_⟩
    rintro a ⟨j, hj⟩
    by_cases q : j = i
    · subst q
      rw [fset_same] at hj
      exact .inr (hp a hj)
    · rw [fset_ne _ _ q] at hj
      exact .inl ⟨j, hj⟩
  unfold setOw at h
  split at h
  · rename_i he
    exact key (fun s z => by rw [he] at z; cases z; rfl) (List.getElem?_eq_some_iff.mp he).1 h
  · rename_i he
    exact key (fun s z => by rw [he] at z; cases z; rfl) (List.getElem?_eq_some_iff.mp he).1 h
  · exact h.elim
theorem new_sub {φ : Frm} {F : Nat → List Addr} {H : Hp} {i : Nat} {p : Addr} (hp : H p = none) : ∀ a, Av φ.A (Fset F i [p]) a → Av φ.A F a ∨ H a = none := by
  rintro a (h | ⟨j, h⟩)
  · exact .inl (.inl h)
  · by_cases q : j = i
    · subst q
      rw [fset_same, List.mem_singleton] at h
      subst h
      exact .inr hp
    · rw [fset_ne _ _ q] at h
      exact .inl (.inr ⟨j, h⟩)
theorem s_ownL (i : Nat) {y : Str} {pos' lp : Pos} (hN : X.N.Nodup) (he : PA X es (tXA K W fr)) (hi : X.N[i]? = some y := by rfl) (hx : Loc X.env.scope y := by first | exact Or.inl rfl | exact Or.inr rfl) (hs : swapsWith (.List es lp) (some (.Name y pos')) pos.line X.env = pure false := by rfl) (hf : X.fn y = true ∨ X.env.scope.names.lookup y = some .local := by first | exact .inl rfl | exact .inr rfl | assumption) :
    PS X (.Assign [.Name y pos'] (.List es lp) pos) (tXS K W (sOwnL i fr)) := PS.imp (ps_set hN hi hx (pe_lst he) hs hf) fun D σ H h => by
  obtain ⟨φ, F, ρ, S, h⟩ := h
  refine ⟨φ, F, ρ, S, OuOk.ofE S h fun t ρ1 vs H1 _ S1 L1 R1 h1 => ?_⟩
  split at h1
  · rename_i hl
    refine ⟨big_le (by rw [R1.length]; exact hl), fun p hp => ?_⟩
    exact setOw_ok S1 (As := [p]) (by simp [hp]) (same_new hp) (.lst upd_same ((R1.weak (new_sub hp)).same (same_new hp))) h1
  · exact h1.elim
/-- a change of a list in a slot -/
def chL (i : Nat) (g : List T → Option (List T)) : Sv := fun ρ => match ρ[i]? with
  | some s => match s.tr with
    | some (.lst l) => match g l with
      | some l' => .nx (ρ.set i (s.up (.lst l')))
      | none => .st
    | _ => .st
  | none => .st
def isL (i : Nat) (ρ : Ro) : Bool := match (ρ[i]?).bind Sl.tr with
  | some (.lst _) => true
  | _ => false
def sApp (i : Nat) (fa : Ev T) : Sv := fun ρ => if isL i ρ = true then ouE (fa ρ) fun t => chL i fun l => if l.length < 1000000 then some (l ++ [t]) else none else .st
theorem put_list {φ : Frm} {F : Nat → List Addr} {σ : L2.St} {H : Hp} {ρ : Ro} {i : Nat} {s : Sl} {l : List T} (S : SAt K φ F σ H ρ) (e1 : ρ[i]? = some s) (e2 : s.tr = some (.lst l)) :
    ∃ a xs, σ[i]? = some (some (.ref a)) ∧ H a = some (.lst xs) ∧ Reps K (Av φ.A F) H xs l ∧ ∀ ys l', Reps K (Av φ.A F) H ys l' → SAt K φ F σ (upd H a (.lst ys)) (ρ.set i (s.up (.lst l'))) ∧ Lk (OwP F) H (upd H a (.lst ys)) := by
  obtain ⟨w, hw, o⟩ := S.own e1 e2
  generalize hF : F i = As at o
  cases o with
  | @lst a xs l hh rs =>
    refine ⟨a, xs, hw, hh, rs, fun ys l' r' => ?_⟩
    have L : Lk (fun b => b ∈ F i) H (upd H a (.lst ys)) := by
      refine ⟨fun b o nb e => ?_, fun b xs e => ?_, fun b o u e => ?_⟩
      · rw [upd_ne (fun z => nb (by rw [hF, z]; simp))]
        exact e
      · rw [upd_ne (fun z => by rw [z, hh] at e; cases e)]
        exact e
      · rw [upd_ne (fun z => by rw [z, hh] at e; cases e)]
        exact e
    have L' := L.mono (B := Av φ.A F) fun b z => .inr ⟨i, z⟩
    refine ⟨S.put e1 e2 hw L ?_, L.mono fun b z => ⟨i, z⟩⟩
    rw [hF]
    exact .lst upd_same (r'.lk L')
theorem isL_at {φ : Frm} {F : Nat → List Addr} {σ : L2.St} {H : Hp} {ρ : Ro} {i : Nat} (S : SAt K φ F σ H ρ) (h : isL i ρ = true) : ∃ a xs, σ[i]? = some (some (.ref a)) ∧ H a = some (.lst xs) ∧ ∃ s l, ρ[i]? = some s ∧ s.tr = some (.lst l) ∧ Reps K (Av φ.A F) H xs l := by
  unfold isL at h
  cases e : ρ[i]? with
  | none => rw [e] at h; cases h
  | some s =>
    rw [e] at h
    cases e2 : s.tr with
    | none => rw [Option.bind_some, e2] at h; cases h
    | some u =>
      rw [Option.bind_some, e2] at h
      cases u with
      | lst l =>
        obtain ⟨a, xs, h1, h2, h3, _⟩ := put_list S e e2
        exact ⟨a, xs, h1, h2, s, l, rfl, e2, h3⟩
      | _ => cases h
theorem chL_cases {φ : Frm} {F : Nat → List Addr} {H : Hp} {ρ : Ro} {i : Nat} {D : Ends} {g : List T → Option (List T)} (h : OuOk K W φ F H D (chL i g ρ)) : ∃ s l l', ρ[i]? = some s ∧ s.tr = some (.lst l) ∧ g l = some l' ∧ OuOk K W φ F H D (.nx (ρ.set i (s.up (.lst l')))) := by
  unfold chL at h
  cases e : ρ[i]? with
  | none => rw [e] at h; exact h.elim
  | some s =>
    rw [e] at h
    dsimp only at h
    cases e2 : s.tr with
    | none => rw [e2] at h; exact h.elim
    | some u =>
      rw [e2] at h
      cases u with
      | lst l =>
        dsimp only at h
        cases e3 : g l with
        | none => rw [e3] at h; exact h.elim
        | some l' =>
          rw [e3] at h
          exact ⟨s, l, l', rfl, e2, e3, h⟩
      | _ => exact h.elim
theorem s_app (i : Nat) {y : Str} {np apos cpos : Pos} (ha : PE X e (tX K W fa)) (hN : X.N[i]? = some y := by rfl) (hvis : Vis X.env.scope y := by first | exact Or.inl rfl | exact Or.inr (Or.inl rfl) | exact Or.inr (Or.inr rfl)) (hd : (y == ("__debug__" : Str)) = false := by decide)
    (hcd : (y == ("__classdict__" : Str)) = false := by decide) (hbase : attributeBase (.Name y np) "append" X.env (eval (.Name y np) X.env) = eval (.Name y np) X.env := by rfl)
    (hst : starEach [e] X.env = (false, eval e X.env) :: starEach [] X.env := by rfl)
    (hfew : ((backTo cpos (starEach [e] X.env)).all (fun x => !x.1) && (backToKw cpos (keywordEach [] X.env)).all (fun x => x.1.isSome)
      && decide ([e].length + ([] : List Keyword).length + (if ([] : List Keyword).isEmpty then 0 else 1) < 30)) = true := by rfl) (hline : (apos.endLine == cpos.line) = true := by rfl)
    (hs : swapsWith (.Call (.Attribute (.Name y np) "append" apos) [e] [] cpos) none pos.line X.env = pure false := by rfl) (hK : X.K = K := by rfl) :
    PS X (.Expr (.Call (.Attribute (.Name y np) "append" apos) [e] [] cpos) pos) (tXS K W (sApp i fa)) :=
  PS.imp (ps_expr (k_bm K PySem.F.plainAttrs_list PySem.F.slot_list_append PySem.F.type_list_append mt_append (pe_var hN hvis hd hcd) (pa_cons ha pa_nil hst) hbase hfew hline hst rfl hK) hs) fun D σ H h => by
  obtain ⟨φ, F, ρ, S, h⟩ := h
  unfold sApp at h
  split at h
  · rename_i hL
    obtain ⟨a, xs, ha, hx, _⟩ := isL_at S hL
    refine ⟨_, ha, .inl ⟨rfl, _, .inl (.inl hx)⟩, φ, F, ρ, S, OuOk.ofE S h fun t ρ1 v H1 _ S1 L1 R1 h1 => ?_⟩
    obtain ⟨s, l, l', e1, e2, e3, h2⟩ := chL_cases h1
    obtain ⟨a', xs', ha', hx', rs, k⟩ := put_list S1 e1 e2
    rw [ha] at ha'
    cases ha'
    split at e3
    · rename_i hl
      cases e3
      obtain ⟨S2, L2⟩ := k (xs' ++ [v]) (l ++ [t]) (rs.append (.cons R1 .nil))
      refine ⟨a, xs', v, rfl, rfl, hx', Nat.lt_of_lt_of_le (by rw [rs.length]; exact hl) (big_le (Nat.le_refl _)), h2 F σ _ S2 (Go.of L2)⟩
    · cases e3
  · exact h.elim
end
end Tm

/-! Mirror 6: operations on trees. -/
namespace Tm
open PySem PySem.Spec PyProof.Rows L2
/-! ### lists of plain trees -/
def toI : List T → Option (List Int)
  | [] => some []
  | .int i :: l => (toI l).map (i :: ·)
  | _ => none
def toS : List T → Option (List Str)
  | [] => some []
  | .str i :: l => (toS l).map (i :: ·)
  | _ => none
def toB : List T → Option (List Bool)
  | [] => some []
  | .bl i :: l => (toB l).map (i :: ·)
  | _ => none
theorem toI_eq : ∀ {l : List T} {ns : List Int}, toI l = some ns → l = ns.map T.int
  | [], ns, h => by cases h; rfl
  | .int i :: l, ns, h => by
    obtain ⟨m, hm, rfl⟩ := Option.map_eq_some_iff.mp h
    rw [toI_eq hm]
    rfl
theorem toS_eq : ∀ {l : List T} {ns : List Str}, toS l = some ns → l = ns.map T.str
  | [], ns, h => by cases h; rfl
  | .str i :: l, ns, h => by
    obtain ⟨m, hm, rfl⟩ := Option.map_eq_some_iff.mp h
    rw [toS_eq hm]
    rfl
theorem toB_eq : ∀ {l : List T} {ns : List Bool}, toB l = some ns → l = ns.map T.bl
  | [], ns, h => by cases h; rfl
  | .bl i :: l, ns, h => by
    obtain ⟨m, hm, rfl⟩ := Option.map_eq_some_iff.mp h
    rw [toB_eq hm]
    rfl
theorem toI_map (ns : List Int) : toI (ns.map T.int) = some ns := by
  induction ns with
  | nil => rfl
  | cons n ns ih => simp [toI, ih]
theorem toS_map (ns : List Str) : toS (ns.map T.str) = some ns := by
  induction ns with
  | nil => rfl
  | cons n ns ih => simp [toS, ih]
theorem toB_map (ns : List Bool) : toB (ns.map T.bl) = some ns := by
  induction ns with
  | nil => rfl
  | cons n ns ih => simp [toB, ih]
/-- plain values of trees -/
def flatT : T → Option V
  | .non => some .non
  | .bl b => some (.bl b)
  | .int i => some (.int i)
  | .str x => some (.str x)
  | _ => none
def flatTs : List T → Option (List V)
  | [] => some []
  | t :: l => match flatT t, flatTs l with
    | some v, some vs => some (v :: vs)
    | _, _ => none
section
variable {K : PySem.W.Frag} {A : ASet} {H : Hp}
theorem Rep.flat {v w : V} {t : T} (r : Rep K A H v t) (h : flatT t = some w) : v = w ∧ flatV w = true := by
  cases r <;> cases h <;> exact ⟨rfl, rfl⟩
theorem Reps.flat : ∀ {xs ws : List V} {l : List T}, Reps K A H xs l → flatTs l = some ws → xs = ws ∧ ws.all flatV = true
  | _, _, _, .nil, h => by cases h; exact ⟨rfl, rfl⟩
  | _, ws, _, .cons (x := x) (t := t) (xs := xs) (l := l) r rs, h => by
    unfold flatTs at h
    cases e1 : flatT t with
    | none => rw [e1] at h; cases h
    | some v =>
      cases e2 : flatTs l with
      | none => rw [e1, e2] at h; cases h
      | some vs =>
        rw [e1, e2] at h
        cases h
        obtain ⟨h1, h2⟩ := r.flat e1
        obtain ⟨h3, h4⟩ := Reps.flat rs e2
        subst h1 h3
        exact ⟨rfl, by simp [h2, h4]⟩
theorem Reps.of_bools : ∀ {xs : List V} {ns : List Bool}, Reps K A H xs (ns.map T.bl) → xs = ns.map V.bl
  | [], [], _ => rfl
  | [], _ :: _, r => nomatch r
  | _ :: _, [], r => nomatch r
  | x :: xs, n :: ns, r => by
    cases r with
    | cons h r =>
      cases h
      rw [Reps.of_bools r]
      rfl
end
/-! ### data that can be compared -/
mutual
def toD : T → Option PyData
  | .non => some .none
  | .bl b => some (.bool b)
  | .int i => some (.int i)
  | .str x => some (.str x)
  | .tup l => (toDs l).map .tuple
  | .lst l => (toDs l).map .list
  | _ => none
def toDs : List T → Option (List PyData)
  | [] => some []
  | t :: l => match toD t, toDs l with
    | some d, some ds => some (d :: ds)
    | _, _ => none
end
section
variable {K : PySem.W.Frag} {A : ASet} {H : Hp}
mutual
theorem Rep.dp : ∀ {v : V} {t : T} {d : PyData}, Rep K A H v t → toD t = some d → Dp K H v d
  | _, _, _, .non, h => by simp [toD] at h; subst h; exact .non
  | _, _, _, .bl b, h => by simp [toD] at h; subst h; exact .bl b
  | _, _, _, .int i, h => by simp [toD] at h; subst h; exact .int i
  | _, _, _, .str x, h => by simp [toD] at h; subst h; exact .str x
  | _, _, _, .tup hh r, h => by
    simp only [toD] at h
    obtain ⟨ds, e, rfl⟩ := Option.map_eq_some_iff.mp h
    exact .tup hh (Reps.dp r e)
  | _, _, _, .lst na hh r, h => by
    simp only [toD] at h
    obtain ⟨ds, e, rfl⟩ := Option.map_eq_some_iff.mp h
    exact .lst (.inl (.inl hh)) (Reps.dp r e)
  | _, _, _, .dK .., h => by simp [toD] at h
  | _, _, _, .dT .., h => by simp [toD] at h
  | _, _, _, .obj .., h => by simp [toD] at h
  | _, _, _, .cls .., h => by simp [toD] at h
  | _, _, _, .scr .., h => by simp [toD] at h
theorem Reps.dp : ∀ {xs : List V} {l : List T} {ds : List PyData}, Reps K A H xs l → toDs l = some ds → DpAll K H xs ds
  | _, _, _, .nil, h => by simp [toDs] at h; subst h; exact .nil
  | _, _, _, .cons (t := t) (l := l) r rs, h => by
    unfold toDs at h
    cases e1 : toD t with
    | none => rw [e1] at h; cases h
    | some v =>
      cases e2 : toDs l with
      | none => rw [e1, e2] at h; cases h
      | some vs =>
        rw [e1, e2] at h
        cases h
        exact .cons (Rep.dp r e1) (Reps.dp rs e2)
end
end
/-! ### ints and texts -/
def oI (g : Int → Int → Int) : T → T → Option T
  | .int i, .int j => some (.int (g i j))
  | _, _ => none
def oIB (g : Int → Int → Bool) : T → T → Option T
  | .int i, .int j => some (.bl (g i j))
  | _, _ => none
def oIc (c : Int → Int → Bool) (g : Int → Int → Int) : T → T → Option T
  | .int i, .int j => if c i j = true then some (.int (g i j)) else none
  | _, _ => none
theorem oI_ok {K : PySem.W.Frag} {g : Int → Int → Int} : OpT K (rI0 fun i j => .int (g i j)) (oI g) := fun A H x y tx ty tz Q d rx ry e k => by
  unfold oI at e
  split at e
  · cases e
    cases rx
    cases ry
    exact ⟨_, _, rfl, rfl, k _ _ (L2.Same.refl _) (.int _)⟩
  · cases e
theorem oIB_ok {K : PySem.W.Frag} {g : Int → Int → Bool} : OpT K (rI0 fun i j => .bl (g i j)) (oIB g) := fun A H x y tx ty tz Q d rx ry e k => by
  unfold oIB at e
  split at e
  · cases e
    cases rx
    cases ry
    exact ⟨_, _, rfl, rfl, k _ _ (L2.Same.refl _) (.bl _)⟩
  · cases e
theorem oIc_ok {K : PySem.W.Frag} {C : Int → Int → Prop} {c : Int → Int → Bool} {g : Int → Int → Int} (hc : ∀ i j, c i j = true → C i j) : OpT K (rI C fun i j => .int (g i j)) (oIc c g) := fun A H x y tx ty tz Q d rx ry e k => by
  unfold oIc at e
  split at e
  · split at e
    · rename_i h
      cases e
      cases rx
      cases ry
      exact ⟨_, _, rfl, rfl, hc _ _ h, k _ _ (L2.Same.refl _) (.int _)⟩
    · cases e
  · cases e
theorem OpT.or {K : PySem.W.Frag} {r r' : R2} {f g : T → T → Option T} (h : OpT K r f) (h' : OpT K r' g) : OpT K (fun x y H Q => r x y H Q ∨ r' x y H Q) (fun a b => (f a b).or (g a b)) := fun A H x y tx ty tz Q d rx ry e k => by
  dsimp only at e
  cases e1 : f tx ty with
  | some u =>
    rw [e1] at e
    cases e
    exact .inl (h A H x y tx ty _ Q d rx ry e1 k)
  | none =>
    rw [e1] at e
    exact .inr (h' A H x y tx ty tz Q d rx ry e k)
def oAddS : T → T → Option T
  | .str i, .str j => if i.length + j.length ≤ 1000000 then some (.str (i ++ j)) else none
  | _, _ => none
def oCatL : T → T → Option T
  | .lst l, .lst m => if l.length + m.length ≤ 1000000 then some (.lst (l ++ m)) else none
  | _, _ => none
section
variable {X : Cx} {K : PySem.W.Frag}
theorem oAddS_ok : OpT K (fun x y H Q => ∃ i j, x = .str i ∧ y = .str j ∧ i.length + j.length ≤ sizeLine ∧ Q (.str (i ++ j)) H) oAddS := fun A H x y tx ty tz Q d rx ry e k => by
  unfold oAddS at e
  split at e
  · split at e
    · rename_i h
      cases e
      cases rx
      cases ry
      exact ⟨_, _, rfl, rfl, big_le h, k _ _ (L2.Same.refl _) (.str _)⟩
    · cases e
  · cases e
theorem oCatL_ok : OpT K rCat oCatL := fun A H x y tx ty tz Q d rx ry e k => by
  unfold oCatL at e
  split at e
  · split at e
    · rename_i h
      cases e
      cases rx with
      | lst na hx rsx =>
        cases ry with
        | lst nb hy rsy =>
          refine ⟨_, _, _, _, rfl, rfl, hx, hy, big_le (by rw [rsx.length, rsy.length]; exact h), fun p hp => ?_⟩
          exact k _ _ (same_new hp) (.lst (d.new hp) upd_same ((rsx.append rsy).same (same_new hp)))
    · cases e
  · cases e
def oAdd : T → T → Option T := fun a b => (oI (· + ·) a b).or ((oAddS a b).or (oCatL a b))
theorem q_add : OpR X (binaryOp .Add) (fun x y H Q => rI0 (fun i j => .int (i + j)) x y H Q ∨ (∃ i j, x = .str i ∧ y = .str j ∧ i.length + j.length ≤ sizeLine ∧ Q (.str (i ++ j)) H) ∨ rCat x y H Q) := OpR.or op_add (OpR.or op_add_str op_cat)
theorem oAdd_ok : OpT K (fun x y H Q => rI0 (fun i j => .int (i + j)) x y H Q ∨ (∃ i j, x = .str i ∧ y = .str j ∧ i.length + j.length ≤ sizeLine ∧ Q (.str (i ++ j)) H) ∨ rCat x y H Q) oAdd := OpT.or oI_ok (OpT.or oAddS_ok oCatL_ok)
def cMul (i j : Int) : Bool := decide (-(2 ^ 64) < i ∧ i < 2 ^ 64) || decide (-(2 ^ 64) < j ∧ j < 2 ^ 64)
def oSub : T → T → Option T := oI (· - ·)
def oMod : T → T → Option T := oIc (fun _ j => decide (0 < j)) (· % ·)
theorem oMod_ok : OpT K (rI (fun _ j => 0 < j) fun i j => .int (i % j)) oMod := oIc_ok fun _ _ h => of_decide_eq_true h
def oLt : T → T → Option T := oIB fun i j => decide (i < j)
def oLe : T → T → Option T := oIB fun i j => decide (i ≤ j)
def oGt : T → T → Option T := oIB fun i j => decide (j < i)
def oGe : T → T → Option T := oIB fun i j => decide (j ≤ i)
/-! ### == -/
/-- scalars -/
def sclT : T → T → Option Bool
  | .non, .non => some true
  | .non, .int _ => some false
  | .int _, .non => some false
  | .non, .bl _ => some false
  | .bl _, .non => some false
  | .non, .str _ => some false
  | .str _, .non => some false
  | .int i, .int j => some (decide (i = j))
  | .bl i, .bl j => some (decide (i = j))
  | .str i, .str j => some (decide (i = j))
  | _, _ => none
def oEqS : T → T → Option T := fun a b => (sclT a b).map T.bl
def oNeS : T → T → Option T := fun a b => (sclT a b).map fun c => T.bl (!c)
theorem sclT_ok {A : ASet} {H : Hp} {x y : V} {tx ty : T} {b : Bool} (rx : Rep K A H x tx) (ry : Rep K A H y ty) (e : sclT tx ty = some b) : scal x y = true ∧ decide (x = y) = b := by
  unfold sclT at e
  split at e <;> cases e <;> cases rx <;> cases ry <;> refine ⟨rfl, ?_⟩ <;> simp
theorem oEqS_ok : OpT K rEq oEqS := fun A H x y tx ty tz Q d rx ry e k => by
  obtain ⟨b, hb, rfl⟩ := Option.map_eq_some_iff.mp e
  obtain ⟨h1, h2⟩ := sclT_ok rx ry hb
  exact ⟨h1, by rw [h2]; exact k _ _ (L2.Same.refl _) (.bl _)⟩
theorem oNeS_ok : OpT K rNe oNeS := fun A H x y tx ty tz Q d rx ry e k => by
  obtain ⟨b, hb, rfl⟩ := Option.map_eq_some_iff.mp e
  obtain ⟨h1, h2⟩ := sclT_ok rx ry hb
  exact ⟨h1, by rw [h2]; exact k _ _ (L2.Same.refl _) (.bl _)⟩
/-- data -/
def eqD (a b : T) : Option Bool := match toD a, toD b with
  | some d, some e => if SeqAt.shaped d = true ∧ SeqAt.shaped e = true then some (PyData.eqv d e) else none
  | _, _ => none
def oEqD : T → T → Option T := fun a b => (eqD a b).map T.bl
def oNeD : T → T → Option T := fun a b => (eqD a b).map fun c => T.bl (!c)
theorem eqD_ok {A : ASet} {H : Hp} {x y : V} {tx ty : T} {b : Bool} (rx : Rep K A H x tx) (ry : Rep K A H y ty) (e : eqD tx ty = some b) : ∃ d e, Dp K H x d ∧ Dp K H y e ∧ SeqAt.shaped d = true ∧ SeqAt.shaped e = true ∧ PyData.eqv d e = b := by
  unfold eqD at e
  cases e1 : toD tx with
  | none => rw [e1] at e; cases e
  | some d =>
    cases e2 : toD ty with
    | none => rw [e1, e2] at e; cases e
    | some d' =>
      rw [e1, e2] at e
      dsimp only at e
      split at e
      · rename_i h
        exact ⟨d, d', rx.dp e1, ry.dp e2, h.1, h.2, Option.some.inj e⟩
      · cases e
theorem oEqD_ok : OpT K (rEqD K) oEqD := fun A H x y tx ty tz Q d rx ry e k => by
  obtain ⟨b, hb, rfl⟩ := Option.map_eq_some_iff.mp e
  obtain ⟨d1, d2, h1, h2, h3, h4, h5⟩ := eqD_ok rx ry hb
  exact ⟨d1, d2, h1, h2, h3, h4, by rw [h5]; exact k _ _ (L2.Same.refl _) (.bl _)⟩
theorem oNeD_ok : OpT K (rNeD K) oNeD := fun A H x y tx ty tz Q d rx ry e k => by
  obtain ⟨b, hb, rfl⟩ := Option.map_eq_some_iff.mp e
  obtain ⟨d1, d2, h1, h2, h3, h4, h5⟩ := eqD_ok rx ry hb
  exact ⟨d1, d2, h1, h2, h3, h4, by rw [h5]; exact k _ _ (L2.Same.refl _) (.bl _)⟩
def oEq : T → T → Option T := fun a b => (oEqS a b).or (oEqD a b)
def oNe : T → T → Option T := fun a b => (oNeS a b).or (oNeD a b)
theorem q_eq (hu : X.A.units + 64 < cLine) (hK : X.K = K := by rfl) : OpR X (compareOp .Eq) (fun x y H Q => rEq x y H Q ∨ rEqD K x y H Q) := by subst hK; exact OpR.or op_eq (op_eqD hu)
theorem q_ne (hu : X.A.units + 64 < cLine) (hK : X.K = K := by rfl) : OpR X (compareOp .NotEq) (fun x y H Q => rNe x y H Q ∨ rNeD K x y H Q) := by subst hK; exact OpR.or op_ne (op_neD hu)
theorem oEq_ok : OpT K (fun x y H Q => rEq x y H Q ∨ rEqD K x y H Q) oEq := OpT.or oEqS_ok oEqD_ok
theorem oNe_ok : OpT K (fun x y H Q => rNe x y H Q ∨ rNeD K x y H Q) oNe := OpT.or oNeS_ok oNeD_ok
/-! ### is None -/
def isNonT : T → Bool
  | .non => true
  | _ => false
def oIsN : T → T → Option T
  | a, .non => some (.bl (isNonT a))
  | _, _ => none
def oNotN : T → T → Option T
  | a, .non => some (.bl (!isNonT a))
  | _, _ => none
theorem isNon_ok {A : ASet} {H : Hp} {x : V} {tx : T} (rx : Rep K A H x tx) : decide (x = .non) = isNonT tx := by
  cases rx <;> rfl
theorem oIsN_ok : OpT K (fun x y H Q => y = .non ∧ Q (.bl (decide (x = .non))) H) oIsN := fun A H x y tx ty tz Q d rx ry e k => by
  unfold oIsN at e
  split at e
  · cases e
    cases ry
    exact ⟨rfl, by rw [isNon_ok rx]; exact k _ _ (L2.Same.refl _) (.bl _)⟩
  · cases e
theorem oNotN_ok : OpT K (fun x y H Q => y = .non ∧ Q (.bl (!decide (x = .non))) H) oNotN := fun A H x y tx ty tz Q d rx ry e k => by
  unfold oNotN at e
  split at e
  · cases e
    cases ry
    exact ⟨rfl, by rw [isNon_ok rx]; exact k _ _ (L2.Same.refl _) (.bl _)⟩
  · cases e
/-! ### in -/
def seqT : T → Option (List T)
  | .lst l => some l
  | .tup l => some l
  | _ => none
theorem Rep.sq {A : ASet} {H : Hp} {y : V} {t : T} {l : List T} (r : Rep K A H y t) (e : seqT t = some l) : ∃ p xs, y = .ref p ∧ (SqL K H p xs ∨ SqT K H p xs) ∧ Reps K A H xs l := by
  cases r <;> cases e
  · rename_i h r
    exact ⟨_, _, rfl, .inr h, r⟩
  · rename_i h r
    exact ⟨_, _, rfl, .inl (.inl (.inl h)), r⟩
def inT (a b : T) : Option Bool := match flatT a, (seqT b).bind flatTs with
  | some v, some ws => some (inV v ws)
  | _, _ => none
def oInF : T → T → Option T := fun a b => (inT a b).map T.bl
def oNotInF : T → T → Option T := fun a b => (inT a b).map fun c => T.bl (!c)
theorem inT_ok {A : ASet} {H : Hp} {x y : V} {tx ty : T} {b : Bool} (rx : Rep K A H x tx) (ry : Rep K A H y ty) (e : inT tx ty = some b) : ∃ p xs, y = .ref p ∧ (SqL K H p xs ∨ SqT K H p xs) ∧ flatV x = true ∧ xs.all flatV = true ∧ inV x xs = b := by
  unfold inT at e
  cases e1 : flatT tx with
  | none => rw [e1] at e; cases e
  | some v =>
    cases e2 : seqT ty with
    | none => rw [e1, e2] at e; cases e
    | some l =>
      cases e3 : flatTs l with
      | none => rw [e1, e2, Option.bind_some, e3] at e; cases e
      | some ws =>
        rw [e1, e2, Option.bind_some, e3] at e
        obtain ⟨p, xs, h1, h2, h3⟩ := ry.sq e2
        obtain ⟨q1, q2⟩ := rx.flat e1
        obtain ⟨q3, q4⟩ := h3.flat e3
        subst q1 q3
        exact ⟨p, xs, h1, h2, q2, q4, Option.some.inj e⟩
theorem oInF_ok : OpT K (rIn K false) oInF := fun A H x y tx ty tz Q d rx ry e k => by
  obtain ⟨b, hb, rfl⟩ := Option.map_eq_some_iff.mp e
  obtain ⟨p, xs, h1, h2, h3, h4, h5⟩ := inT_ok rx ry hb
  exact ⟨p, xs, h1, h2, h3, h4, by rw [h5]; exact k _ _ (L2.Same.refl _) (.bl _)⟩
theorem oNotInF_ok : OpT K (rIn K true) oNotInF := fun A H x y tx ty tz Q d rx ry e k => by
  obtain ⟨b, hb, rfl⟩ := Option.map_eq_some_iff.mp e
  obtain ⟨p, xs, h1, h2, h3, h4, h5⟩ := inT_ok rx ry hb
  exact ⟨p, xs, h1, h2, h3, h4, by rw [h5]; exact k _ _ (L2.Same.refl _) (.bl _)⟩
/-- a sign in a text -/
def oInC : T → T → Option T
  | .str a, .str z => match a.cps.toList with
    | [c] => some (.bl (decide (c ∈ z.cps.toList)))
    | _ => none
  | _, _ => none
theorem oInC_ok : OpT K (fun x y H Q => ∃ (c : Nat) (z : Str), x = .str ⟨#[c]⟩ ∧ y = .str z ∧ Q (.bl (decide (c ∈ z.cps.toList))) H) oInC := fun A H x y tx ty tz Q d rx ry e k => by
  unfold oInC at e
  split at e
  · rename_i a z
    split at e
    · rename_i c hc
      cases e
      cases rx
      cases ry
      have ea : a = ⟨#[c]⟩ := by
        obtain ⟨cps⟩ := a
        have : cps = #[c] := by
          apply Array.ext'
          exact hc
        rw [this]
      exact ⟨c, z, by rw [ea], rfl, k _ _ (L2.Same.refl _) (.bl _)⟩
    · cases e
  · cases e
def oIn : T → T → Option T := fun a b => (oInF a b).or (oInC a b)
def oNotIn : T → T → Option T := oNotInF
theorem q_in (hK : X.K = K := by rfl) : OpR X (compareOp .In) (fun x y H Q => rIn K false x y H Q ∨ ∃ (c : Nat) (z : Str), x = .str ⟨#[c]⟩ ∧ y = .str z ∧ Q (.bl (decide (c ∈ z.cps.toList))) H) := by subst hK; exact OpR.or op_in_seq op_in_sign
theorem oIn_ok : OpT K (fun x y H Q => rIn K false x y H Q ∨ ∃ (c : Nat) (z : Str), x = .str ⟨#[c]⟩ ∧ y = .str z ∧ Q (.bl (decide (c ∈ z.cps.toList))) H) oIn := OpT.or oInF_ok oInC_ok
/-! ### o[i] -/
def oIx : T → T → Option T
  | .str z, .int i => if z.length ≤ 1000000 then (atI z.cps.toList i).map fun c => T.str ⟨#[c]⟩ else none
  | .lst l, .int i => atI l i
  | .tup l, .int i => atI l i
  | _, _ => none
theorem Reps.atI {A : ASet} {H : Hp} {xs : List V} {l : List T} {i : Int} {t : T} (r : Reps K A H xs l) (h : L2.atI l i = some t) : ∃ x, L2.atI xs i = some x ∧ Rep K A H x t := by
  unfold L2.atI at h ⊢
  rw [r.length]
  cases e : ixN l.length i with
  | none => rw [e] at h; cases h
  | some j =>
    rw [e] at h
    exact r.get h
theorem oIx_ok : OpT K (rIx K) oIx := fun A H x y tx ty tz Q d rx ry e k => by
  unfold oIx at e
  split at e
  · split at e
    · rename_i h
      obtain ⟨c, hc, rfl⟩ := Option.map_eq_some_iff.mp e
      cases rx
      cases ry
      exact .inr (.inr ⟨_, _, c, rfl, rfl, big_le h, hc, k _ _ (L2.Same.refl _) (.str _)⟩)
    · cases e
  · cases rx with
    | lst na h rs =>
      cases ry
      obtain ⟨v, hv, rv⟩ := rs.atI e
      exact .inl ⟨_, _, _, v, rfl, rfl, .inl (.inl h), hv, k _ _ (L2.Same.refl _) rv⟩
  · cases rx with
    | tup h rs =>
      cases ry
      obtain ⟨v, hv, rv⟩ := rs.atI e
      exact .inr (.inl ⟨_, _, _, v, rfl, rfl, h, hv, k _ _ (L2.Same.refl _) rv⟩)
  · cases e
/-! ### builtins -/
def bLen : List T → Option T
  | [.str z] => if z.length ≤ 1000000 then some (.int z.length) else none
  | [.lst l] => some (.int l.length)
  | [.tup l] => some (.int l.length)
  | _ => none
theorem bLen_ok : CallT K (rLn K) bLen := fun A H xs ts tz Q d rs e k => by
  unfold bLen at e
  split at e
  · split at e
    · rename_i h
      cases e
      cases rs with
      | cons r rs =>
        cases rs
        cases r
        exact ⟨_, _, rfl, ⟨big_le h, rfl⟩, k _ _ (L2.Same.refl _) (.int _)⟩
    · cases e
  · cases e
    cases rs with
    | cons r rs =>
      cases rs
      cases r with
      | lst na h r => exact ⟨_, _, rfl, .inl ⟨_, .inl (.inl h), rfl⟩, by rw [r.length]; exact k _ _ (L2.Same.refl _) (.int _)⟩
  · cases e
    cases rs with
    | cons r rs =>
      cases rs
      cases r with
      | tup h r => exact ⟨_, _, rfl, .inr ⟨_, h, rfl⟩, by rw [r.length]; exact k _ _ (L2.Same.refl _) (.int _)⟩
  · cases e
def bInt : List T → Option T
  | [.int i] => some (.int i)
  | [.bl b] => some (.int (if b then 1 else 0))
  | [.str a] => match PySem.intText? a with
    | some n => if a.length ≤ 640 then some (.int n) else none
    | none => none
  | _ => none
def rIntA : List V → Hp → VK → Prop := fun xs H Q => ((∃ i, xs = [.int i] ∧ Q (.int i) H) ∨ ∃ k, xs = [.bl k] ∧ Q (.int (if k then 1 else 0)) H) ∨ ∃ a n, xs = [.str a] ∧ PySem.intText? a = some n ∧ a.length ≤ 640 ∧ Q (.int n) H
theorem q_int : CallR X (.type "int") rIntA := CallR.or call_int1 call_int_str
theorem bInt_ok : CallT K rIntA bInt := fun A H xs ts tz Q d rs e k => by
  unfold bInt at e
  split at e
  · cases e
    cases rs with
    | cons r rs =>
      cases rs
      cases r
      exact .inl (.inl ⟨_, rfl, k _ _ (L2.Same.refl _) (.int _)⟩)
  · cases e
    cases rs with
    | cons r rs =>
      cases rs
      cases r
      exact .inl (.inr ⟨_, rfl, k _ _ (L2.Same.refl _) (.int _)⟩)
  · split at e
    · rename_i n hn
      split at e
      · rename_i hl
        cases e
        cases rs with
        | cons r rs =>
          cases rs
          cases r
          exact .inr ⟨_, n, rfl, hn, hl, k _ _ (L2.Same.refl _) (.int _)⟩
      · cases e
    · cases e
  · cases e
def bI2 (g : Int → Int → Int) : List T → Option T
  | [.int i, .int j] => some (.int (g i j))
  | _ => none
theorem bI2_ok {g : Int → Int → Int} : CallT K (fun xs H Q => ∃ i j, xs = [.int i, .int j] ∧ Q (.int (g i j)) H) (bI2 g) := fun A H xs ts tz Q d rs e k => by
  unfold bI2 at e
  split at e
  · cases e
    cases rs with
    | cons r rs =>
      cases rs with
      | cons r2 rs =>
        cases rs
        cases r
        cases r2
        exact ⟨_, _, rfl, k _ _ (L2.Same.refl _) (.int _)⟩
  · cases e
def bMax : List T → Option T := bI2 fun i j => if j > i then j else i
def bMin : List T → Option T := bI2 fun i j => if j < i then j else i
def bAbs : List T → Option T
  | [.int i] => some (.int (if i < 0 then -i else i))
  | _ => none
theorem bAbs_ok : CallT K (fun xs H Q => ∃ i, xs = [.int i] ∧ Q (.int (if i < 0 then -i else i)) H) bAbs := fun A H xs ts tz Q d rs e k => by
  unfold bAbs at e
  split at e
  · cases e
    cases rs with
    | cons r rs =>
      cases rs
      cases r
      exact ⟨_, rfl, k _ _ (L2.Same.refl _) (.int _)⟩
  · cases e
def bStr : List T → Option T
  | [.int i] => if i.natAbs.log2 < 1920 then some (.str (toString i)) else none
  | [.str a] => some (.str a)
  | _ => none
def rStrA : List V → Hp → VK → Prop := fun xs H Q => (∃ i, xs = [.int i] ∧ i.natAbs.log2 < 1920 ∧ Q (.str (toString i)) H) ∨ ∃ a, xs = [.str a] ∧ Q (.str a) H
theorem bStr_ok : CallT K rStrA bStr := fun A H xs ts tz Q d rs e k => by
  unfold bStr at e
  split at e
  · split at e
    · rename_i h
      cases e
      cases rs with
      | cons r rs =>
        cases rs
        cases r
        exact .inl ⟨_, rfl, h, k _ _ (L2.Same.refl _) (.str _)⟩
    · cases e
  · cases e
    cases rs with
    | cons r rs =>
      cases rs
      cases r
      exact .inr ⟨_, rfl, k _ _ (L2.Same.refl _) (.str _)⟩
  · cases e
def bList : List T → Option T
  | [t] => (seqT t).map T.lst
  | _ => none
theorem bList_ok : CallT K (rList K) bList := fun A H xs ts tz Q d rs e k => by
  unfold bList at e
  split at e
  · obtain ⟨l, hl, rfl⟩ := Option.map_eq_some_iff.mp e
    cases rs with
    | cons r rs =>
      cases rs
      obtain ⟨p, xs, rfl, h2, h3⟩ := r.sq hl
      exact ⟨p, xs, rfl, h2, fun q hq => k _ _ (same_new hq) (.lst (d.new hq) upd_same (h3.same (same_new hq)))⟩
  · cases e
def bTuple : List T → Option T
  | [.lst l] => some (.tup l)
  | [.tup l] => some (.tup l)
  | _ => none
theorem bTuple_ok : CallT K (rTuple K) bTuple := fun A H xs ts tz Q d rs e k => by
  unfold bTuple at e
  split at e
  · cases e
    cases rs with
    | cons r rs =>
      cases rs
      cases r with
      | lst na h r => exact ⟨_, _, rfl, .inl ⟨.inl (.inl h), fun q hq => k _ _ (same_new hq) (.tup (.inl (.inl upd_same)) (r.same (same_new hq)))⟩⟩
  · cases e
    cases rs with
    | cons r rs =>
      cases rs
      cases r with
      | tup h r => exact ⟨_, _, rfl, .inr ⟨h, k _ _ (L2.Same.refl _) (.tup h r)⟩⟩
  · cases e
def bAll : List T → Option T
  | [.lst l] => (toB l).map fun bs => T.bl (bs.all id)
  | _ => none
def bAny : List T → Option T
  | [.lst l] => (toB l).map fun bs => T.bl (bs.any id)
  | _ => none
def bSum : List T → Option T
  | [.lst l] => (toI l).map fun ns => T.int ns.sum
  | _ => none
theorem bAll_ok : CallT K (rAll K) bAll := fun A H xs ts tz Q d rs e k => by
  unfold bAll at e
  split at e
  · obtain ⟨bs, hb, rfl⟩ := Option.map_eq_some_iff.mp e
    cases rs with
    | cons r rs =>
      cases rs
      cases r with
      | lst na h r =>
        rw [toB_eq hb] at r
        have := r.of_bools
        subst this
        exact ⟨_, bs, rfl, .inl (.inl h), k _ _ (L2.Same.refl _) (.bl _)⟩
  · cases e
theorem bAny_ok : CallT K (rAny K) bAny := fun A H xs ts tz Q d rs e k => by
  unfold bAny at e
  split at e
  · obtain ⟨bs, hb, rfl⟩ := Option.map_eq_some_iff.mp e
    cases rs with
    | cons r rs =>
      cases rs
      cases r with
      | lst na h r =>
        rw [toB_eq hb] at r
        have := r.of_bools
        subst this
        exact ⟨_, bs, rfl, .inl (.inl h), k _ _ (L2.Same.refl _) (.bl _)⟩
  · cases e
theorem bSum_ok : CallT K (rSum K) bSum := fun A H xs ts tz Q d rs e k => by
  unfold bSum at e
  split at e
  · obtain ⟨bs, hb, rfl⟩ := Option.map_eq_some_iff.mp e
    cases rs with
    | cons r rs =>
      cases rs
      cases r with
      | lst na h r =>
        rw [toI_eq hb] at r
        have := r.of_ints
        subst this
        exact ⟨_, bs, rfl, .inl (.inl h), k _ _ (L2.Same.refl _) (.int _)⟩
  · cases e
/-- sorted ints -/
def srtI (ns : List Int) : List Int := ns.mergeSort (fun a b => decide (a ≤ b))
theorem perm_sorted_eq {l m : List Int} (hp : l.Perm m) (hl : l.Pairwise (· ≤ ·)) (hm : m.Pairwise (· ≤ ·)) : l = m := hp.eq_of_pairwise (fun a b _ _ h1 h2 => Int.le_antisymm h1 h2) hl hm
theorem srtI_eq {ns m : List Int} (hp : m.Perm ns) (hm : m.Pairwise (· ≤ ·)) : m = srtI ns := by
  refine perm_sorted_eq (hp.trans (List.mergeSort_perm _ _).symm) hm ?_
  have := List.pairwise_mergeSort (le := fun a b : Int => decide (a ≤ b)) (fun a b c h1 h2 => by simp at h1 h2 ⊢; omega) (fun a b => by simp; omega) ns
  exact this.imp fun h => by simpa using h
def bSrtI : List T → Option T
  | [.lst l] => (toI l).map fun ns => T.lst ((srtI ns).map T.int)
  | _ => none
theorem bSrtI_ok : CallT K (rSortedI K) bSrtI := fun A H xs ts tz Q d rs e k => by
  unfold bSrtI at e
  split at e
  · obtain ⟨bs, hb, rfl⟩ := Option.map_eq_some_iff.mp e
    cases rs with
    | cons r rs =>
      cases rs
      cases r with
      | lst na h r =>
        rw [toI_eq hb] at r
        have := r.of_ints
        subst this
        refine ⟨_, bs, rfl, .inl (.inl h), fun ns' p h1 h2 hp => ?_⟩
        rw [srtI_eq h1 h2]
        exact k _ _ (same_new hp) (.lst (d.new hp) upd_same (Reps.ints _))
  · cases e
end
end Tm

/-! Mirror 7: comprehensions, isinstance, slices, texts. -/
namespace Tm
open PySem PySem.Spec PyProof.Rows L2
/-! ### comprehensions -/
def wipeO : List Nat → Ro → Option Ro
  | [], ρ => some ρ
  | v :: vs, ρ => match wipeO vs ρ with
    | some r => match r[v]? with
      | some .un => some r
      | some (.im _) => some (r.set v .un)
      | _ => none
    | none => none
def resto (vs : List Nat) (ρ1 ρ2 : Ro) : Ro := ρ2.mapIdx fun i s => if i ∈ vs then ρ1.getD i .un else s
def lcL (vs : List Nat) (g : T → Sv) (tt : Ev Bool) (te : Ev T) : List T → List T → Ro → Rs (List T)
  | [], acc, ρ => .ok acc ρ
  | x :: l, acc, ρ => match g x ρ with
    | .nx ρ1 => match tt ρ1 with
      | .ok true ρ2 => match te ρ2 with
        | .ok y ρ3 => match wipeO vs ρ3 with
          | some ρ4 => if acc.length < 1000000 then lcL vs g tt te l (acc ++ [y]) ρ4 else .st
          | none => .st
        | _ => .st
      | .ok false ρ2 => match wipeO vs ρ2 with
        | some ρ4 => lcL vs g tt te l acc ρ4
        | none => .st
      | _ => .st
    | _ => .st
def mLc (vs : List Nat) (fi : Ev (List T)) (g : T → Sv) (tt : Ev Bool) (te : Ev T) : Ev T := fi.bind fun l ρ1 => match wipeO vs ρ1 with
  | some ρ2 => match lcL vs g tt te l [] ρ2 with
    | .ok acc ρ3 => .ok (.lst acc) (resto vs ρ1 ρ3)
    | _ => .st
  | none => .st
def mYes : Ev Bool := fun ρ => .ok true ρ
section
variable {K : PySem.W.Frag} {φ : Frm} {F : Nat → List Addr} {σ : L2.St} {H H' : Hp} {ρ : Ro}
theorem SAt.unset (S : SAt K φ F σ H ρ) {i : Nat} (hn : ∃ s, ρ[i]? = some s ∧ s.tr = none) : SAt K φ F (σ.set i none) H (ρ.set i .un) := by
  obtain ⟨s, hs, ht⟩ := hn
  have hi : i < ρ.length := (List.getElem?_eq_some_iff.mp hs).1
  refine ⟨by rw [List.length_set, List.length_set]; exact S.len, S.keep, S.adom, S.odom, S.oA, S.dj, fun j u hj => ?_, fun a ha => ?_, fun j => ?_⟩
  · by_cases q : j = i
    · subst q
      rw [List.getElem?_set_self hi] at hj
      cases hj
    · rw [List.getElem?_set_ne (fun z => q z.symm)] at hj ⊢
      exact S.pin j u hj
  · obtain ⟨j, u, hj, m⟩ := S.bo a ha
    refine ⟨j, u, ?_, m⟩
    rw [List.getElem?_set_ne (fun q => by subst q; rw [hs] at hj; cases hj; cases ht)]
    exact hj
  · by_cases hj : j = i
    · subst hj
      rw [List.getElem?_set_self hi]
      have := S.sl j
      rw [hs] at this
      generalize σ[j]? = x at this
      generalize F j = As at this ⊢
      cases this with
      | un => exact .un
      | im _ => exact .un
      | ow o => cases ht
      | rf o => cases ht
    · rw [List.getElem?_set_ne (fun z => hj z.symm), List.getElem?_set_ne (fun z => hj z.symm)]
      exact S.sl j
theorem set_un_self {ρ : Ro} {i : Nat} (h : ρ[i]? = some .un) : ρ.set i .un = ρ := by
  apply List.ext_getElem?
  intro j
  by_cases hj : j = i
  · subst hj
    rw [List.getElem?_set_self (List.getElem?_eq_some_iff.mp h).1, h]
  · rw [List.getElem?_set_ne (fun z => hj z.symm)]
theorem SAt.wipe (S : SAt K φ F σ H ρ) : ∀ {vs : List Nat} {r : Ro}, wipeO vs ρ = some r → SAt K φ F (L2.wipe σ vs) H r ∧ ∀ v ∈ vs, ∃ s, ρ[v]? = some s ∧ s.tr = none
  | [], r, h => by
    cases h
    exact ⟨S, fun v hv => nomatch hv⟩
  | v :: vs, r, h => by
    unfold wipeO at h
    cases e : wipeO vs ρ with
    | none => rw [e] at h; cases h
    | some r1 =>
      rw [e] at h
      obtain ⟨S1, k1⟩ := SAt.wipe S e
      have back : ∀ s, r1[v]? = some s → s.tr = none → ∃ s, ρ[v]? = some s ∧ s.tr = none := fun s hs ht => by
        by_cases hv : v ∈ vs
        · exact k1 v hv
        · have : ∀ {vs : List Nat} {r : Ro}, wipeO vs ρ = some r → v ∉ vs → r[v]? = ρ[v]? := by
            intro vs
            induction vs with
            | nil => intro r h _; cases h; rfl
            | cons w ws ih =>
              intro r h hv
              unfold wipeO at h
              cases e : wipeO ws ρ with
              | none => rw [e] at h; cases h
              | some r2 =>
                rw [e] at h
                have i1 := ih e fun z => hv (List.mem_cons_of_mem _ z)
                dsimp only at h
                split at h
                · cases h; exact i1
                · cases h
                  rw [List.getElem?_set_ne (fun z => hv (by rw [z]; exact List.mem_cons_self ..))]
                  exact i1
                · cases h
          exact ⟨s, by rw [← this e hv]; exact hs, ht⟩
      dsimp only at h
      split at h
      · rename_i he
        cases h
        have := S1.unset (i := v) ⟨_, he, rfl⟩
        rw [set_un_self he] at this
        exact ⟨this, fun w hw => by
          rcases List.mem_cons.mp hw with rfl | hw
          · exact back _ he rfl
          · exact k1 w hw⟩
      · rename_i he
        cases h
        exact ⟨S1.unset ⟨_, he, rfl⟩, fun w hw => by
          rcases List.mem_cons.mp hw with rfl | hw
          · exact back _ he rfl
          · exact k1 w hw⟩
      · cases h
theorem SAt.resto {H2 : Hp} {vs : List Nat} {ρ2 : Ro} (S : SAt K φ F σ H ρ) (hv : ∀ v ∈ vs, ∃ s, ρ[v]? = some s ∧ s.tr = none) (L : Lk (OwP F) H H2) (S2 : SAt K φ F (L2.wipe σ vs) H2 ρ2) : SAt K φ F σ H2 (Tm.resto vs ρ ρ2) := by
  have l2 : ρ2.length = ρ.length := by
    rw [← S2.len, wipe_length, S.len]
  have get : ∀ j, (Tm.resto vs ρ ρ2)[j]? = if j ∈ vs then ρ[j]? else ρ2[j]? := fun j => by
    unfold Tm.resto
    rw [List.getElem?_mapIdx]
    by_cases hj : j < ρ.length
    · have e2 : ρ2[j]? = some ρ2[j] := List.getElem?_eq_getElem (by omega)
      have e1 : ρ[j]? = some ρ[j] := List.getElem?_eq_getElem hj
      rw [e2]
      by_cases hm : j ∈ vs
      · simp [hm, hj]
      · simp [hm]
    · have e2 : ρ2[j]? = none := List.getElem?_eq_none (by omega)
      have e1 : ρ[j]? = none := List.getElem?_eq_none (by omega)
      rw [e2, e1]
      simp
  refine ⟨?_, S2.keep, S2.adom, S2.odom, S2.oA, S2.dj, fun j u hj => ?_, fun a ha => ?_, fun j => ?_⟩
  · unfold Tm.resto
    rw [List.length_mapIdx, l2, S.len]
  · rw [get] at hj
    split at hj
    · exact S.pin j u hj
    · rename_i hm
      have := S2.pin j u hj
      rw [wipe_out hm] at this
      exact this
  · obtain ⟨j, u, hj, m⟩ := S.bo a ha
    have hm : j ∉ vs := fun z => by
      obtain ⟨s, e, ht⟩ := hv j z
      rw [hj] at e
      cases e
      cases ht
    obtain ⟨j2, u2, hj2, m2⟩ := S2.bo a ha
    have : j2 = j := S.dj j2 j a m2 m
    subst this
    exact ⟨j2, u2, by rw [get, if_neg hm]; exact hj2, m2⟩
  · rw [get]
    by_cases hm : j ∈ vs
    · rw [if_pos hm]
      obtain ⟨s, e, ht⟩ := hv j hm
      have := S.sl j
      rw [e] at this ⊢
      generalize σ[j]? = x at this ⊢
      generalize F j = As at this ⊢
      cases this with
      | un => exact .un
      | im r => exact .im (r.lk (L.mono fun a z => .inr z))
      | ow o => cases ht
      | rf o => cases ht
    · rw [if_neg hm]
      have := S2.sl j
      rw [wipe_out hm] at this
      exact this
/-- the frame with one address more that it avoids -/
def Frm.av (φ : Frm) (D : Addr) : Frm := { φ with A := fun a => φ.A a ∨ a = D }
theorem SAt.in {D : Addr} (S : SAt K φ F σ H ρ) (hD : H D = none) (s : Same H H') {o : HO} (hd : H' D = some o) : SAt K (φ.av D) F σ H' ρ := by
  have S' := S.same s
  refine ⟨S.len, S'.keep, ?_, S.odom, ?_, S.dj, S.pin, S.bo, fun j => ?_⟩
  · rintro a (h | rfl)
    · exact S'.adom a h
    · exact ⟨o, hd⟩
  · rintro i a h (z | z)
    · exact S.oA i a h z
    · obtain ⟨u, e⟩ := S.odm i a h
      rw [z, hD] at e
      cases e
  · have sub : ∀ a, Av (φ.av D).A F a → Av φ.A F a ∨ H a = none := by
      rintro a ((h | h) | h)
      · exact .inl (.inl h)
      · exact .inr (by rw [h]; exact hD)
      · exact .inl (.inr h)
    have := S.sl j
    generalize σ[j]? = x at this ⊢
    generalize ρ[j]? = y at this ⊢
    generalize F j = As at this ⊢
    cases this with
    | out => exact .out
    | un => exact .un
    | im r => exact .im ((r.weak sub).same s)
    | ow o => exact .ow ((o.weak sub).lk (C := fun _ => False) (Lk.of_same s) (fun _ z => z.elim) (fun _ _ z => z))
    | rf o => exact .rf ((o.weak sub).lk (C := fun _ => False) (Lk.of_same s) (fun _ z => z.elim) (fun _ _ z => z))
theorem SAt.wrO {D : Addr} {o o' : HO} (S : SAt K (φ.av D) F σ H ρ) (hd : H D = some o) (nt : ∀ xs, o ≠ .tup xs) (nf : ∀ a b, o ≠ .frz a b) (hB : ¬ φ.B D → φ.Ho D = none) : SAt K (φ.av D) F σ (upd H D o') ρ ∧ Lk (fun a => a = D) H (upd H D o') := by
  have L : Lk (fun a => a = D) H (upd H D o') := by
    refine ⟨fun b o nb e => ?_, fun b xs e => ?_, fun b o u e => ?_⟩
    · rw [upd_ne nb]
      exact e
    · rw [upd_ne (fun z => by rw [z, hd] at e; exact nt _ (Option.some.inj e))]
      exact e
    · rw [upd_ne (fun z => by rw [z, hd] at e; exact nf _ _ (Option.some.inj e))]
      exact e
  refine ⟨⟨S.len, ⟨fun b o nb e => ?_, fun b xs e => L.tup _ _ (S.keep.tup _ _ e), fun b o u e => L.frz _ _ _ (S.keep.frz _ _ _ e)⟩, ?_, S.odom, S.oA, S.dj, S.pin, S.bo, fun j => ?_⟩, L⟩
  · refine L.all _ _ (fun z => ?_) (S.keep.all _ _ nb e)
    subst z
    have := hB nb
    have e' : φ.Ho b = some o := e
    rw [this] at e'
    cases e'
  · rintro a h
    by_cases q : a = D
    · subst q
      exact ⟨_, upd_same⟩
    · obtain ⟨u, e⟩ := S.adom a h
      exact ⟨u, L.all _ _ q e⟩
  · exact (S.sl j).lk L (fun a z => .inl (.inr z)) fun a ha z => S.oA j a ha (.inr z)
theorem SAt.wr {D : Addr} {xs ys : List V} (S : SAt K (φ.av D) F σ H ρ) (hd : H D = some (.lst xs)) (hB : ¬ φ.B D → φ.Ho D = none) : SAt K (φ.av D) F σ (upd H D (.lst ys)) ρ ∧ Lk (fun a => a = D) H (upd H D (.lst ys)) :=
  S.wrO hd (fun _ z => by cases z) (fun _ _ z => by cases z) hB
theorem SAt.off {D : Addr} (S : SAt K (φ.av D) F σ H ρ) : SAt K φ F σ H ρ := by
  refine ⟨S.len, S.keep, fun a h => S.adom a (.inl h), S.odom, fun i a h z => S.oA i a h (.inl z), S.dj, S.pin, S.bo, fun j => ?_⟩
  have sub : ∀ a, Av φ.A F a → Av (φ.av D).A F a ∨ H a = none := by
    rintro a (h | h)
    · exact .inl (.inl (.inl h))
    · exact .inl (.inr h)
  have := S.sl j
  generalize σ[j]? = x at this ⊢
  generalize ρ[j]? = y at this ⊢
  generalize F j = As at this ⊢
  cases this with
  | out => exact .out
  | un => exact .un
  | im r => exact .im (r.weak sub)
  | ow o => exact .ow (o.weak sub)
  | rf o => exact .rf (o.weak sub)
end
theorem wipe_in {σ : L2.St} {j : Nat} : ∀ {vs : List Nat}, j ∈ vs → j < σ.length → (L2.wipe σ vs)[j]? = some none
  | [], h, _ => nomatch h
  | v :: vs, h, hl => by
    unfold L2.wipe
    by_cases q : v = j
    · subst q
      rw [List.getElem?_set_self (by rw [wipe_length]; exact hl)]
    · rw [List.getElem?_set_ne q]
      exact wipe_in ((List.mem_cons.mp h).resolve_left fun z => q z.symm) hl
theorem wipe_wipe (σ : L2.St) (vs : List Nat) : L2.wipe (L2.wipe σ vs) vs = L2.wipe σ vs := by
  apply List.ext_getElem?
  intro j
  by_cases hj : j ∈ vs
  · by_cases hl : j < σ.length
    · rw [wipe_in hj (by rw [wipe_length]; exact hl), wipe_in hj hl]
    · rw [List.getElem?_eq_none (by rw [wipe_length, wipe_length]; omega), List.getElem?_eq_none (by rw [wipe_length]; omega)]
  · rw [wipe_out hj]
theorem wipe_oth {σ σ' : L2.St} {vs : List Nat} (o : Oth vs σ σ') : L2.wipe σ' vs = L2.wipe σ vs := by
  apply List.ext_getElem?
  intro j
  by_cases hj : j ∈ vs
  · by_cases hl : j < σ.length
    · rw [wipe_in hj (by rw [o.1]; exact hl), wipe_in hj hl]
    · rw [List.getElem?_eq_none (by rw [wipe_length, o.1]; omega), List.getElem?_eq_none (by rw [wipe_length]; omega)]
  · rw [wipe_out hj, wipe_out hj]
    exact o.2 j hj
section
variable {X : Cx} {K : PySem.W.Frag} {W : WX} {fi : Ev (List T)} {g : T → Sv} {tt : Ev Bool} {te : Ev T} {vs : List Nat}
theorem lc_read (hgn : ∀ t ρ, (∃ ρ', g t ρ = .nx ρ') ∨ g t ρ = .st) {σ : L2.St} {H : Hp} {Q : VK} (h : tX K W (mLc vs fi g tt te) σ H Q) : tLc (tXI K W fi) (tXG K vs g) (tXT K W tt) (tX K W te) vs σ H Q := by
  obtain ⟨φ, F, ρ, S, h⟩ := h
  refine ⟨φ, F, ρ, S, RsOk.bind h fun l ρ1 J H1 _ S1 L1 R1 h1 => ?_⟩
  intro D hD
  cases ew : wipeO vs ρ1 with
  | none => rw [ew] at h1; exact h1.elim
  | some ρ2 =>
    rw [ew] at h1
    dsimp only at h1
    obtain ⟨S2, hv⟩ := S1.wipe ew
    cases el : lcL vs g tt te l [] ρ2 with
    | ex c ns l' ρ3 => rw [el] at h1; exact h1.elim
    | st => rw [el] at h1; exact h1.elim
    | ok accE ρE =>
      rw [el] at h1
      dsimp only at h1
      have sD : Same H1 (upd H1 D (.lst [])) := same_new hD
      have nF : ¬ OwP F D := fun z => S1.fresh hD (.inr z)
      have nA : ¬ φ.A D := fun z => S1.fresh hD (.inl z)
      have hB : ¬ φ.B D → φ.Ho D = none := fun nb => by
        cases e : φ.Ho D with
        | none => rfl
        | some o =>
          have := S1.keep.all _ _ nb e
          rw [hD] at this
          cases this
      refine ⟨fun i m H' => m = l.length - i ∧ i ≤ l.length ∧ ∃ ρ' xs acc, SAt K (φ.av D) F (L2.wipe σ vs) H' ρ' ∧ Lk (fun a => OwP F a ∨ a = D) (upd H1 D (.lst [])) H' ∧ H' D = some (.lst xs) ∧ Reps K (Av (φ.av D).A F) H' xs acc ∧ lcL vs g tt te (l.drop i) acc ρ' = .ok accE ρE,
        ⟨_, rfl, Nat.zero_le _, ρ2, [], [], S2.in hD sD upd_same, Lk.refl, upd_same, .nil, el⟩, ?_⟩
      rintro i m H' ⟨rfl, hi, ρ', xs, acc, S', L', hx, rs, e'⟩
      have L1' : Lk (fun a => OwP F a ∨ a = D) H1 H' := (Lk.of_same sD).trans L'
      have c3 : Lk (Av (φ.av D).A F) H1 H' := L1'.mono fun a z => z.elim .inr fun z => .inl (.inr z)
      have c2 : ∀ a, Av (φ.av D).A F a → Av φ.A F a ∨ H1 a = none := by
        rintro a ((z | z) | z)
        · exact .inl (.inl z)
        · exact .inr (by rw [z]; exact hD)
        · exact .inl (.inr z)
      obtain ⟨w1, w2⟩ := R1 (Av (φ.av D).A F) H' (fun a z => z.imp .inl id) c2 c3 i
      by_cases hlt : i < l.length
      · have ei : l[i]? = some l[i] := List.getElem?_eq_getElem hlt
        obtain ⟨hgo, hy⟩ := w1 _ ei
        rw [List.drop_eq_getElem_cons hlt] at e'
        refine .inr ⟨hgo, fun H2 => ∃ ρ' xs acc, SAt K (φ.av D) F (L2.wipe σ vs) H2 ρ' ∧ Lk (fun a => OwP F a ∨ a = D) (upd H1 D (.lst [])) H2 ∧ H2 D = some (.lst xs) ∧ Reps K (Av (φ.av D).A F) H2 xs acc ∧ lcL vs g tt te (l.drop (i + 1)) acc ρ' = .ok accE ρE, fun H2 q => ⟨_, by omega, rfl, hlt, q⟩, fun x H3 yl => ?_⟩
        obtain ⟨s3, r3⟩ := hy x H3 yl
        have S3 := S'.same s3
        unfold lcL at e'
        rcases hgn l[i] ρ' with ⟨ρ4, e4⟩ | e4
        · rw [e4] at e'
          dsimp only at e'
          have cSame : ∀ {C : ASet}, Lk C H' H3 := fun {C} => Lk.of_same s3
          refine ⟨φ.av D, F, ρ', l[i], S3, r3, ρ4, e4, fun σ4 S4 o4 => ?_⟩
          have ew4 : L2.wipe σ4 vs = L2.wipe σ vs := by
            rw [wipe_oth o4]
            exact wipe_wipe σ vs
          refine ⟨ew4, φ.av D, F, ρ4, S4, ?_⟩
          have hx3 : H3 D = some (.lst xs) := s3 _ _ hx
          have rs3 := rs.same s3
          have L3 : Lk (fun a => OwP F a ∨ a = D) (upd H1 D (.lst [])) H3 := L'.trans (Lk.of_same s3)
          cases e5 : tt ρ4 with
          | ex c ns l' ρ5 => rw [e5] at e'; cases e'
          | st => rw [e5] at e'; cases e'
          | ok b ρ5 =>
            rw [e5] at e'
            intro v H4 S5 L4 R5
            subst R5
            have hx4 : H4 D = some (.lst xs) := L4.all _ _ nF hx3
            have rs4 := rs3.lk (L4.mono fun a z => .inr z)
            have L44 : Lk (fun a => OwP F a ∨ a = D) (upd H1 D (.lst [])) H4 := L3.trans (L4.mono fun a z => .inl z)
            cases v with
            | true =>
              dsimp only at e'
              refine iteT ⟨φ.av D, F, ρ5, S5, ?_⟩
              cases e6 : te ρ5 with
              | ex c ns l' ρ6 => rw [e6] at e'; cases e'
              | st => rw [e6] at e'; cases e'
              | ok y ρ6 =>
                rw [e6] at e'
                dsimp only at e'
                intro w H5 S6 L5 R6
                cases e7 : wipeO vs ρ6 with
                | none => rw [e7] at e'; cases e'
                | some ρ7 =>
                  rw [e7] at e'
                  dsimp only at e'
                  split at e'
                  · rename_i hlen
                    have hx5 : H5 D = some (.lst xs) := L5.all _ _ nF hx4
                    have rs5 := rs4.lk (L5.mono fun a z => .inr z)
                    have L55 : Lk (fun a => OwP F a ∨ a = D) (upd H1 D (.lst [])) H5 := L44.trans (L5.mono fun a z => .inl z)
                    obtain ⟨S7, _⟩ := S6.wipe e7
                    rw [ew4] at S7
                    obtain ⟨S8, L8⟩ := S7.wr (ys := xs ++ [w]) hx5 hB
                    refine ⟨xs, hx5, Nat.lt_of_lt_of_le (by rw [rs5.length]; exact hlen) (big_le (Nat.le_refl _)), ρ7, xs ++ [w], acc ++ [y], S8, L55.trans (L8.mono fun a z => .inr z), upd_same, ?_, e'⟩
                    exact (rs5.append (.cons R6 .nil)).lk (L8.mono fun a z => .inl (.inr z))
                  · cases e'
            | false =>
              dsimp only at e'
              cases e7 : wipeO vs ρ5 with
              | none => rw [e7] at e'; cases e'
              | some ρ7 =>
                rw [e7] at e'
                obtain ⟨S7, _⟩ := S5.wipe e7
                rw [ew4] at S7
                exact iteF ⟨ρ7, xs, acc, S7, L44, hx4, rs4, e'⟩
        · rw [e4] at e'
          cases e'
      · have e : i = l.length := by omega
        subst e
        rw [List.drop_length] at e'
        unfold lcL at e'
        cases e'
        have LF : Lk (OwP F) H1 H' := ⟨fun b o nb e => L1'.all _ _ (fun z => z.elim nb fun z => by rw [z, hD] at e; cases e) e, L1'.tup, L1'.frz⟩
        refine .inl ⟨w2 (Nat.le_refl _), h1 _ H' (S1.resto hv LF S'.off) LF (.lst (fun z => z.elim nA nF) hx (rs.weak fun a z => .inl (z.imp .inl id)))⟩
/-- tests -/
def mAllT : List (Ev Bool) → Ev Bool
  | [] => mYes
  | [a] => a
  | a :: r => mAndT a (mAllT r)
theorem PTs.imp {ifs : List Expr} {t t' : TT} (h : PTs X ifs t) (i : ∀ σ H Q, t' σ H Q → t σ H Q) : PTs X ifs t' := ⟨fun pins s σ H Q I hw => h.run pins s σ H Q I (i _ _ _ hw)⟩
theorem ts_nil : PTs X [] (tXT K W mYes) := PTs.imp pts_nil fun σ H Q h => by
  obtain ⟨φ, F, ρ, S, h⟩ := h
  exact h true H S Lk.refl rfl
theorem ts_one {c : Expr} (h : PT X c (tXT K W tt)) : PTs X [c] (tXT K W tt) := pts_one h
theorem m_lc {elt tg iter : Expr} {ifs : List Expr} {scope : Scope} {own : List (Str × Nat)} {pos : Pos} (hc : X.calm = true) (hN : X.N.Nodup) (hgn : ∀ t ρ, (∃ ρ', g t ρ = .nx ρ') ∨ g t ρ = .st) (hi : PI X tg iter (tXI K W fi)) (ok : BlkOk X.N X.env.scope scope own)
    (hg : ∀ (s : Shared) (H : Hp) (C : Addr) (cl : List (Str × Addr)) (fp : List Addr), PG (X.blk s H scope (compEnvC scope cl C X.env) fp) tg (tXG K (own.map (·.2)) g)) (ht : ∀ (s : Shared) (H : Hp) (C : Addr) (cl : List (Str × Addr)) (fp : List Addr), PTs (X.blk s H scope (compEnvC scope cl C X.env) fp) ifs (tXT K W tt))
    (he : ∀ (s : Shared) (H : Hp) (C : Addr) (cl : List (Str × Addr)) (fp : List Addr), PE (X.blk s H scope (compEnvC scope cl C X.env) fp) elt (tX K W te)) (hs : ∀ x, foldedSetIterable iter X.env x = pure x := by intro _; rfl) :
    PE X (.ListComp elt [⟨tg, iter, ifs, 0⟩] scope pos) (tX K W (mLc (own.map (·.2)) fi g tt te)) :=
  PE.imp (pe_lc hc hN hi ok hg ht he hs) fun σ H Q h => lc_read hgn h
theorem s_setLc (i : Nat) {y : Str} {py : Pos} {elt tg iter : Expr} {ifs : List Expr} {scope : Scope} {own : List (Str × Nat)} {pos spos : Pos} (hc : X.calm = true) (hN : X.N.Nodup) (hgn : ∀ t ρ, (∃ ρ', g t ρ = .nx ρ') ∨ g t ρ = .st)
    (hsw : swapsWith (.ListComp elt [⟨tg, iter, ifs, 0⟩] scope pos) (some (.Name y py)) spos.line X.env = pure true) (hi : PI X tg iter (tXI K W fi)) (ok : BlkOk X.N X.env.scope scope own)
    (hg : ∀ (s : Shared) (H : Hp) (C : Addr) (cl : List (Str × Addr)) (fp : List Addr), PG (X.blk s H scope (compEnvC scope cl C X.env) fp) tg (tXG K (own.map (·.2)) g)) (ht : ∀ (s : Shared) (H : Hp) (C : Addr) (cl : List (Str × Addr)) (fp : List Addr), PTs (X.blk s H scope (compEnvC scope cl C X.env) fp) ifs (tXT K W tt))
    (he : ∀ (s : Shared) (H : Hp) (C : Addr) (cl : List (Str × Addr)) (fp : List Addr), PE (X.blk s H scope (compEnvC scope cl C X.env) fp) elt (tX K W te)) (hy : X.N[i]? = some y := by rfl) (hyl : X.env.scope.names.lookup y = some .local := by rfl) (hs : ∀ x, foldedSetIterable iter X.env x = pure x := by intro _; rfl) :
    PS X (.Assign [.Name y py] (.ListComp elt [⟨tg, iter, ifs, 0⟩] scope pos) spos) (tXS K W (sAsg (mLc (own.map (·.2)) fi g tt te) (setIm i))) := PS.imp (ps_setLc hc hN hy hyl hsw hi ok hg ht he hs) fun D σ H h => by
  obtain ⟨φ, F, ρ, S, h⟩ := h
  refine lc_read hgn ⟨φ, F, ρ, S, OuOk.ofE S h fun t ρ1 v H1 _ S1 L1 R1 h1 => ?_⟩
  rcases setIm_n i t ρ1 with ⟨ρ', e⟩ | e
  · rw [e] at h1
    exact h1 F _ H1 (setIm_ok S1 R1 e) Go.refl
  · rw [e] at h1
    exact h1.elim
end
/-! ### texts -/
section
variable {X : Cx} {K : PySem.W.Frag} {W : WX} {e o : Expr} {fa fb : Ev T} {pos apos p2 : Pos}
def oSplit : T → T → Option T
  | .str a, .str b => if b.length ≠ 0 ∧ a.length ≤ 1000000 then some (.lst ((Txt.split a b).map T.str)) else none
  | _, _ => none
/-- a receiver that is a text is asked ahead of the argument -/
def mTxt (f : T → T → Option T) (fa fb : Ev T) : Ev T := fa.bind fun x => match x with
  | .str a => fb.bind fun y => Ev.lift (f (.str a) y)
  | _ => fun _ => .st
theorem txt_read {r : V → List V → Hp → VK → Prop} {f : T → T → Option T} {σ : L2.St} {H : Hp} {Q : VK} (ht : OpT K (fun x y H Q => r x [y] H Q) f) (h : tX K W (mTxt f fa fb) σ H Q) : tM1 r (tX K W fa) (tX K W fb) σ H Q := by
  obtain ⟨φ, F, ρ, S, h⟩ := h
  refine ⟨φ, F, ρ, S, RsOk.bind h fun x ρ1 vx H1 _ S1 L1 R1 h1 => ?_⟩
  cases R1 with
  | str a =>
    refine ⟨⟨a, rfl⟩, φ, F, ρ1, S1, RsOk.bind h1 fun y ρ2 vy H2 _ S2 L2 R2 h2 => ?_⟩
    obtain ⟨t, e, h3⟩ := RsOk.lift h2
    exact ht _ H2 _ vy _ y t Q S2.domv (.str a) R2 e fun v H' s r' => h3 v H' (S2.same s) (Lk.of_same s) r'
  | _ => exact h1.elim
theorem m_split (ho : PE X o (tX K W fa)) (he : PE X e (tX K W fb)) (hs : starEach [e] X.env = [(false, eval e X.env)] := by rfl) (hbase : attributeBase o "split" X.env (eval o X.env) = eval o X.env := by rfl) (hline : (apos.endLine == pos.line) = true := by rfl) :
    PE X (.Call (.Attribute o "split" apos) [e] [] pos) (tX K W (mTxt oSplit fa fb)) := PE.imp (pe_split ho he hs hbase hline) fun σ H Q h => txt_read (fun A H x y tx ty tz Q d rx ry e k => by
  unfold oSplit at e
  split at e
  · split at e
    · rename_i h
      cases e
      cases rx
      cases ry
      refine ⟨_, _, rfl, rfl, by simpa using h.1, Nat.le_trans (Nat.add_le_add_right h.2 2) (by rw [sizeLine_eq]; decide), fun p hp => ?_⟩
      exact k _ _ (same_new hp) (.lst (d.new hp) upd_same (Reps.strs _))
    · cases e
  · cases e) h
def oJoin : T → T → Option T
  | .str a, t => match (seqT t).bind toS with
    | some ys => if (ys.map (·.length)).sum + ys.length * a.length ≤ 16777216 then some (.str (Txt.join a ys)) else none
    | none => none
  | _, _ => none
theorem m_join (ho : PE X o (tX K W fa)) (he : PE X e (tX K W fb)) (hs : starEach [e] X.env = [(false, eval e X.env)] := by rfl) (hbase : attributeBase o "join" X.env (eval o X.env) = eval o X.env := by rfl) (hline : (apos.endLine == pos.line) = true := by rfl) (hK : X.K = K := by rfl) :
    PE X (.Call (.Attribute o "join" apos) [e] [] pos) (tX K W (mTxt oJoin fa fb)) := by
  subst hK
  refine PE.imp (pe_join ho he hs hbase hline) fun σ H Q h => txt_read (fun A H x y tx ty tz Q d rx ry e k => ?_) h
  cases rx with
  | str a =>
    unfold oJoin at e
    dsimp only at e
    cases e1 : seqT ty with
    | none => rw [e1] at e; cases e
    | some l =>
      obtain ⟨p, xs, rfl, h2, h3⟩ := ry.sq e1
      rw [e1, Option.bind_some] at e
      cases e2 : toS l with
      | none => rw [e2] at e; cases e
      | some ys =>
        rw [e2] at e
        dsimp only at e
        split at e
        · rename_i hl
          cases e
          rw [toS_eq e2] at h3
          have := h3.of_strs
          subst this
          exact ⟨a, p, ys, rfl, rfl, h2, hl, k _ _ (L2.Same.refl _) (.str _)⟩
        · cases e
  | _ => cases e
/-- f"{x}" -/
def uFmt : T → Option T
  | .str y => if y.length ≤ 1000000 then some (.str y) else none
  | .int i => if i.natAbs.log2 < 1920 then some (.str (toString i)) else none
  | _ => none
theorem m_fmt (he : PE X e (tX K W fa)) : PE X (.FormattedValue e (-1) none pos) (tX K W (mUn uFmt fa)) := PE.imp (pe_fmt he) fun σ H Q h => by
  obtain ⟨φ, F, ρ, S, h⟩ := h
  refine ⟨φ, F, ρ, S, RsOk.bind h fun x ρ1 vx H1 _ S1 L1 R1 h1 => ?_⟩
  obtain ⟨t, e, h3⟩ := RsOk.lift h1
  unfold uFmt at e
  split at e
  · split at e
    · rename_i hl
      cases e
      cases R1
      exact .inl ⟨_, rfl, big_le hl, h3 _ H1 S1 Lk.refl (.str _)⟩
    · cases e
  · split at e
    · rename_i hl
      cases e
      cases R1
      exact .inr ⟨_, rfl, hl, h3 _ H1 S1 Lk.refl (.str _)⟩
    · cases e
  · cases e
/-- the parts of an f-string -/
inductive MJ (X : Cx) (K : PySem.W.Frag) (W : WX) : List Expr → List (Ev T) → Prop where
  | nil : MJ X K W [] []
  | cons {e : Expr} {f : Ev T} {es : List Expr} {fs : List (Ev T)} (h : PE X e (tX K W f)) (r : MJ X K W es fs) : MJ X K W (e :: es) (f :: fs)
theorem MJ.pj : ∀ {es : List Expr} {fs : List (Ev T)}, MJ X K W es fs → PJ X es (fs.map (tX K W))
  | _, _, .nil => .nil
  | _, _, .cons h r => .cons h (MJ.pj r)
def mJs : List (Ev T) → Str → Ev T
  | [], acc => fun ρ => .ok (.str acc) ρ
  | f :: fs, acc => f.bind fun x => match x with
    | .str y => if (acc ++ y).length ≤ 1000000 then mJs fs (acc ++ y) else fun _ => .st
    | _ => fun _ => .st
theorem js_read {σ : L2.St} {Q : VK} : ∀ {fs : List (Ev T)} {acc : Str} {H : Hp}, tX K W (mJs fs acc) σ H Q → tJs (fs.map (tX K W)) acc σ H fun out H1 => Q (.str out) H1
  | [], acc, H, h => by
    obtain ⟨φ, F, ρ, S, h⟩ := h
    exact h _ H S Lk.refl (.str _)
  | f :: fs, acc, H, h => by
    obtain ⟨φ, F, ρ, S, h⟩ := h
    refine ⟨φ, F, ρ, S, RsOk.bind h fun x ρ1 vx H1 _ S1 L1 R1 h1 => ?_⟩
    cases R1 with
    | str y =>
      dsimp only at h1
      split at h1
      · rename_i hl
        exact ⟨y, rfl, big_le hl, js_read ⟨φ, F, ρ1, S1, h1⟩⟩
      · exact h1.elim
    | _ => exact h1.elim
theorem m_joined {v1 v2 : Expr} {rest : List Expr} {fs : List (Ev T)} (h : MJ X K W (v1 :: v2 :: rest) fs) : PE X (.JoinedStr (v1 :: v2 :: rest) pos) (tX K W (mJs fs Str.empty)) := PE.imp (pe_joined h.pj) fun σ H Q h => js_read h
/-! ### slices -/
def mPart (fa : Ev T) : Ev (Option Int) := fa.bind fun x => match x with
  | .int i => fun ρ => .ok (some i) ρ
  | _ => fun _ => .st
def mNoPart : Ev (Option Int) := fun ρ => .ok none ρ
def tXO (K : PySem.W.Frag) (W : WX) (f : Ev (Option Int)) : TO := fun σ H Q => ∃ φ F ρ, SAt K φ F σ H ρ ∧ RsOk K W φ F σ H (fun v t _ => v = t) Q (f ρ)
theorem PO.imp {e : Option Expr} {t t' : TO} (h : PO X e t) (i : ∀ σ H Q, t' σ H Q → t σ H Q) : PO X e t' := ⟨fun pins s σ H Q I hw => h.run pins s σ H Q I (i _ _ _ hw)⟩
theorem o_none : PO X none (tXO K W mNoPart) := PO.imp po_none fun σ H Q h => by
  obtain ⟨φ, F, ρ, S, h⟩ := h
  exact h none H S Lk.refl rfl
theorem o_some (he : PE X e (tX K W fa)) : PO X (some e) (tXO K W (mPart fa)) := PO.imp (po_some he) fun σ H Q h => by
  obtain ⟨φ, F, ρ, S, h⟩ := h
  refine ⟨φ, F, ρ, S, RsOk.bind h fun x ρ1 vx H1 _ S1 L1 R1 h1 => ?_⟩
  cases R1 with
  | int i => exact ⟨i, rfl, h1 _ H1 S1 Lk.refl rfl⟩
  | _ => exact h1.elim
def cutT (xs : List T) (lo hi : Option Int) : List T := (xs.drop (HT.sIx xs.length 0 lo)).take (HT.sIx xs.length xs.length hi - HT.sIx xs.length 0 lo)
def oSl (lo hi : Option Int) : T → Option T
  | .lst l => some (.lst (cutT l lo hi))
  | .tup l => some (.tup (cutT l lo hi))
  | _ => none
def mSl (fa : Ev T) (fl fu : Ev (Option Int)) : Ev T := fa.bind fun x => fl.bind fun lo => fu.bind fun hi => Ev.lift (oSl lo hi x)
def rSlB (K : PySem.W.Frag) : V → Option Int → Option Int → Hp → VK → Prop := fun x lo hi H Q => rSlL K x lo hi H Q ∨ rSlA K x lo hi H Q
theorem q_sl (hK : X.K = K := by rfl) : SlR X (rSlB K) := by subst hK; exact SlR.or sl_list sl_tupA
theorem cut_rep {A : ASet} {H : Hp} {xs : List V} {l : List T} {lo hi : Option Int} (r : Reps K A H xs l) : Reps K A H (cutV xs lo hi) (cutT l lo hi) := by
  unfold cutV cutT
  rw [r.length]
  exact (r.drop _).take _
theorem m_sl {lo hi : Option Expr} {fl fu : Ev (Option Int)} (he : PE X e (tX K W fa)) (hl : PO X lo (tXO K W fl)) (hu : PO X hi (tXO K W fu)) (hK : X.K = K := by rfl) : PE X (.Subscript e (.Slice lo hi none p2) pos) (tX K W (mSl fa fl fu)) := PE.imp (pe_slice (q_sl hK) he hl hu) fun σ H Q h => by
  obtain ⟨φ, F, ρ, S, h⟩ := h
  refine ⟨φ, F, ρ, S, RsOk.bind h fun x ρ1 vx H1 _ S1 L1 R1 h1 => ⟨φ, F, ρ1, S1, RsOk.bind h1 fun o1 ρ2 v1 H2 _ S2 L2 R2 h2 => ⟨φ, F, ρ2, S2, RsOk.bind h2 fun o2 ρ3 v2 H3 _ S3 L3 R3 h3 => ?_⟩⟩⟩
  subst R2 R3
  obtain ⟨t, e, h4⟩ := RsOk.lift h3
  have R := (R1.lk (L2.mono fun a z => .inr z)).lk (L3.mono fun a z => .inr z)
  unfold oSl at e
  split at e
  · cases e
    cases R with
    | lst na hh rs => exact .inl ⟨_, _, rfl, .inl (.inl hh), fun p hp => h4 _ _ (S3.same (same_new hp)) (Lk.of_same (same_new hp)) (.lst (S3.fresh hp) upd_same ((cut_rep rs).same (same_new hp)))⟩
  · rename_i l _
    cases e
    cases R with
    | tup hh rs =>
      refine .inr ⟨_, _, rfl, hh, fun q => ?_, fun q p hp => h4 _ _ (S3.same (same_new hp)) (Lk.of_same (same_new hp)) (.tup (.inl (.inl upd_same)) ((cut_rep rs).same (same_new hp)))⟩
      have e1 : cutT l v1 v2 = l := by
        unfold cutT
        rw [← rs.length, q.1, q.2]
        simp [rs.length]
      rw [e1] at h4
      exact h4 _ H3 S3 Lk.refl (.tup hh rs)
  · cases e
/-! ### isinstance -/
/-- what is known of the classes of the top -/
structure ClsOk (K : PySem.W.Frag) (C : Str) : Prop where
  own : OwnC K (He.ga K C)
  cl : Cls K (He.ga K C)
def tyT : T → Option (Sum String Str)
  | .non => some (.inl "NoneType")
  | .bl _ => some (.inl "bool")
  | .int _ => some (.inl "int")
  | .str _ => some (.inl "str")
  | .lst _ => some (.inl "list")
  | .tup _ => some (.inl "tuple")
  | .obj C _ _ => some (.inr C)
  | _ => none
theorem Rep.typ {A : ASet} {H : Hp} {v : V} {t : T} (r : Rep K A H v t) (hC : ∀ C ns l, t = .obj C ns l → ClsOk K C) {k : Sum String Str} (e : tyT t = some k) : Typ K H v (match k with | .inl n => .type n | .inr C => .ref (He.ga K C)) := by
  cases r <;> cases e
  · exact typ_non
  · exact typ_bl _
  · exact typ_int _
  · exact typ_str _
  · rename_i h r
    exact typ_sqT h
  · rename_i h r
    exact typ_lst h
  · rename_i h r
    obtain ⟨o, c⟩ := hC _ _ _ rfl
    exact typ_ins o c h
/-- isinstance(x, n) of a builtin type -/
def fIsB (Cs : List Str) (n : String) (t : T) : Option T := match tyT t with
  | some (.inl m) => some (.bl (kb (.type m) n))
  | some (.inr C) => if C ∈ Cs then some (.bl false) else none
  | none => none
def fIsBs (Cs : List Str) (ns : List String) (t : T) : Option T := match tyT t with
  | some (.inl m) => some (.bl (ns.any fun n => kb (.type m) n))
  | some (.inr C) => if C ∈ Cs then some (.bl false) else none
  | none => none
theorem m_isB {x : Str} {np np2 : Pos} {Cs : List Str} {n : String} (hC : ∀ C ∈ Cs, ClsOk K C) (hn : n = "int" ∨ n = "bool" ∨ n = "str" ∨ n = "list" ∨ n = "tuple") (hm : X.mg "isinstance" = none) (hx : X.mg x = none) (hv : bootBuiltins x = some (.type n)) (he : PE X e (tX K W fa)) (hg : Gl X "isinstance" := by rfl) (hg2 : Gl X x := by rfl) (hxn : x ≠ "__name__" := by decide) (hxd : (x == ("__debug__" : Str)) = false := by decide)
    (hs : starEach [e, .Name x np2] X.env = (false, eval e X.env) :: starEach [.Name x np2] X.env := by rfl) (hs2 : starEach [.Name x np2] X.env = (false, eval (.Name x np2) X.env) :: starEach [] X.env := by rfl) (hpl : (backTo pos (starEach [.Name x np2] X.env)).any (·.1) = false := by rfl) (hK : X.K = K := by rfl) :
    PE X (.Call (.Name "isinstance" np) [e, .Name x np2] [] pos) (tX K W (mUn (fIsB Cs n) fa)) := PE.imp (pe_callB (k_isi K hK) hg hm bt_isinstance (pa_cons he (pa_cons (pe_ty hx hv hg2 hxn hxd) pa_nil hs2) hs) (by decide) (by decide) hs hpl) fun σ H Q h => by
  obtain ⟨φ, F, ρ, S, h⟩ := h
  refine ⟨φ, F, ρ, S, RsOk.bind h fun x ρ1 vx H1 _ S1 L1 R1 h1 => ?_⟩
  obtain ⟨t, e, h3⟩ := RsOk.lift h1
  unfold fIsB at e
  cases et : tyT x with
  | none => rw [et] at e; cases e
  | some k =>
    rw [et] at e
    cases k with
    | inl m =>
      cases e
      have T := R1.typ (fun C ns l z => by subst z; cases et) et
      exact ⟨vx, _, _, _, _, rfl, .ty n, T.ty, T.kit n hn, h3 _ H1 S1 Lk.refl (.bl _)⟩
    | inr C =>
      dsimp only at e
      split at e
      · rename_i hc
        cases e
        have T := R1.typ (fun C' ns l z => by subst z; cases et; exact hC _ hc) et
        have kt := T.kit n hn
        have e0 : kb (.ref (He.ga K C)) n = false := by simp [kb]
        dsimp only at kt
        rw [e0] at kt
        exact ⟨vx, _, _, _, _, rfl, .ty n, T.ty, kt, h3 _ H1 S1 Lk.refl (.bl _)⟩
      · cases e
/-- isinstance(x, D) of a class of the top: the table of the classes below it -/
def fIsC (tb : List (Str × Bool)) (t : T) : Option T := match tyT t with
  | some (.inl _) => some (.bl false)
  | some (.inr C) => (tb.lookup C).map T.bl
  | none => none
theorem lookup_mem {α : Type} : ∀ {tb : List (Str × α)} {C : Str} {b : α}, tb.lookup C = some b → (C, b) ∈ tb
  | [], C, b, h => by cases h
  | (D, c) :: tb, C, b, h => by
    rw [List.lookup_cons] at h
    split at h
    · rename_i q
      cases h
      rw [beq_iff_eq.mp q]
      exact List.mem_cons_self ..
    · exact List.mem_cons_of_mem _ (lookup_mem h)
theorem m_isC {x : Str} {np np2 : Pos} {D : Str} {tb : List (Str × Bool)} (hC : ∀ q ∈ tb, ClsOk K q.1 ∧ subB K (He.ga K q.1) (He.ga K D) q.2 = true) (hb : bltB K (He.ga K D) = true) (hm : X.mg "isinstance" = none) (hx : X.mg x = some (.ref (He.ga K D))) (he : PE X e (tX K W fa)) (hg : Gl X "isinstance" := by rfl) (hg2 : Gl X x := by rfl) (hxd : (x == ("__debug__" : Str)) = false := by decide)
    (hs : starEach [e, .Name x np2] X.env = (false, eval e X.env) :: starEach [.Name x np2] X.env := by rfl) (hs2 : starEach [.Name x np2] X.env = (false, eval (.Name x np2) X.env) :: starEach [] X.env := by rfl) (hpl : (backTo pos (starEach [.Name x np2] X.env)).any (·.1) = false := by rfl) (hK : X.K = K := by rfl) :
    PE X (.Call (.Name "isinstance" np) [e, .Name x np2] [] pos) (tX K W (mUn (fIsC tb) fa)) := PE.imp (pe_callB (k_isi K hK) hg hm bt_isinstance (pa_cons he (pa_cons (pe_gr hx hg2 hxd) pa_nil hs2) hs) (by decide) (by decide) hs hpl) fun σ H Q h => by
  obtain ⟨φ, F, ρ, S, h⟩ := h
  refine ⟨φ, F, ρ, S, RsOk.bind h fun x ρ1 vx H1 _ S1 L1 R1 h1 => ?_⟩
  obtain ⟨t, e, h3⟩ := RsOk.lift h1
  unfold fIsC at e
  cases et : tyT x with
  | none => rw [et] at e; cases e
  | some k =>
    rw [et] at e
    cases k with
    | inl m =>
      cases e
      have T := R1.typ (fun C ns l z => by subst z; cases et) et
      have hm : m ∈ ["int", "bool", "str", "NoneType", "list", "tuple"] := by
        cases x <;> cases et <;> simp
      exact ⟨vx, _, _, _, _, rfl, .own _, T.ty, of_decide_eq_true (List.all_eq_true.mp hb m hm), h3 _ H1 S1 Lk.refl (.bl _)⟩
    | inr C =>
      dsimp only at e
      obtain ⟨b, hlb, rfl⟩ := Option.map_eq_some_iff.mp e
      obtain ⟨c1, c2⟩ := hC _ (lookup_mem hlb)
      have T := R1.typ (fun C' ns l z => by subst z; cases et; exact c1) et
      exact ⟨vx, _, _, _, _, rfl, .own _, T.ty, subB_ok c2, h3 _ H1 S1 Lk.refl (.bl _)⟩
end
end Tm

/-! Mirror 8: further rules. -/
namespace Tm
open PySem PySem.Spec PyProof.Rows L2
section
variable {X : Cx} {K : PySem.W.Frag} {W : WX} {e : Expr} {fa : Ev T} {pos : Pos}
theorem s_never {st : Stmt} : PS X st (tXS K W fun _ => .st) := ⟨fun _ _ _ _ _ _ ⟨_, _, _, _, h⟩ => h.elim⟩
/-! isinstance(x, (list, tuple)) -/
theorem m_isLT {np np1 np2 tp : Pos} {x1 : Nat} {Cs : List Str} (hC : ∀ C ∈ Cs, ClsOk K C) (hm : X.mg "isinstance" = none) (hl : X.mg "list" = none) (ht : X.mg "tuple" = none) (he : PE X e (tX K W fa)) (hg : Gl X "isinstance" := by rfl) (hg1 : Gl X "list" := by rfl) (hg2 : Gl X "tuple" := by rfl)
    (hs : starEach [e, .Tuple [.Name "list" np1, .Name "tuple" np2] x1 tp] X.env = (false, eval e X.env) :: starEach [.Tuple [.Name "list" np1, .Name "tuple" np2] x1 tp] X.env := by rfl)
    (hs2 : starEach [.Tuple [.Name "list" np1, .Name "tuple" np2] x1 tp] X.env = (false, eval (.Tuple [.Name "list" np1, .Name "tuple" np2] x1 tp) X.env) :: starEach [] X.env := by rfl)
    (hs3 : starEach [.Name "list" np1, .Name "tuple" np2] X.env = (false, eval (.Name "list" np1) X.env) :: starEach [.Name "tuple" np2] X.env := by rfl) (hs4 : starEach [.Name "tuple" np2] X.env = (false, eval (.Name "tuple" np2) X.env) :: starEach [] X.env := by rfl)
    (hpl : (backTo pos (starEach [.Tuple [.Name "list" np1, .Name "tuple" np2] x1 tp] X.env)).any (·.1) = false := by rfl) (hK : X.K = K := by rfl) :
    PE X (.Call (.Name "isinstance" np) [e, .Tuple [.Name "list" np1, .Name "tuple" np2] x1 tp] [] pos) (tX K W (mUn (fIsBs Cs ["list", "tuple"]) fa)) :=
  PE.imp (pe_callB (k_isiT K hK) hg hm bt_isinstance (pa_cons he (pa_cons (pe_tup (pa_cons (pe_ty hl bt_list hg1 (by decide) (by decide)) (pa_cons (pe_ty ht bt_tuple hg2 (by decide) (by decide)) pa_nil hs4) hs3)) pa_nil hs2) hs) (by decide) (by decide) hs hpl) fun σ H Q h => by
  obtain ⟨φ, F, ρ, S, h⟩ := h
  refine ⟨φ, F, ρ, S, RsOk.bind h fun x ρ1 vx H1 _ S1 L1 R1 h1 => ?_⟩
  obtain ⟨t, e, h3⟩ := RsOk.lift h1
  refine ⟨by show 2 ≤ sizeLine; decide, fun p hp => ?_⟩
  have s := same_new (o := .tup [V.ty "list", V.ty "tuple"]) hp
  unfold fIsBs at e
  have key : ∀ (u : Value) (b : Bool), Typ K H1 vx u → (kb u "list" || kb u "tuple") = b → t = .bl b → ∃ (x : V) (tp : Addr) (cs : List V) (t' : Value) (us : List Value) (b : Bool), [vx, V.ref p] = [x, .ref tp] ∧ upd H1 p (.tup [V.ty "list", V.ty "tuple"]) tp = some (.tup cs) ∧ Paired ClsV cs us ∧ TyX K (upd H1 p (.tup [V.ty "list", V.ty "tuple"])) x t' ∧ PySem.W.kitAny K t' us = some b ∧ Q (.bl b) (upd H1 p (.tup [V.ty "list", V.ty "tuple"])) := fun u b T hb et => by
    subst et
    have T' := T.mono s
    refine ⟨vx, p, _, u, [.type "list", .type "tuple"], b, rfl, upd_same, .cons (.ty _) (.cons (.ty _) .nil), T'.ty, ?_, h3 _ _ (S1.same s) (Lk.of_same s) (.bl _)⟩
    have k1 := T'.kit "list" (.inr (.inr (.inr (.inl rfl))))
    have k2 := T'.kit "tuple" (.inr (.inr (.inr (.inr rfl))))
    unfold PySem.W.kitAny
    rw [k1]
    cases q : kb u "list" with
    | true =>
      rw [q] at hb
      rw [← hb]
      rfl
    | false =>
      rw [q] at hb
      show PySem.W.kitAny K u [.type "tuple"] = some b
      unfold PySem.W.kitAny
      rw [k2]
      rw [Bool.false_or] at hb
      rw [hb]
      cases b <;> rfl
  cases et : tyT x with
  | none => rw [et] at e; cases e
  | some k =>
    rw [et] at e
    cases k with
    | inl m =>
      cases e
      exact key _ _ (R1.typ (fun C ns l z => by subst z; cases et) et) (by simp) rfl
    | inr C =>
      dsimp only at e
      split at e
      · rename_i hc
        cases e
        exact key _ _ (R1.typ (fun C' ns l z => by subst z; cases et; exact hC _ hc) et) (by simp [kb]) rfl
      · cases e
/-! a op= b -/
def sAug (i : Nat) (f : T → T → Option T) (fa : Ev T) : Sv := sAsg (mOp f (mVar i) fa) (setIm i)
theorem s_aug (i : Nat) {x : Str} {op : Operator} {g : Int → Int → Int} {pos' : Pos} (hN : X.N.Nodup) (he : PE X e (tX K W fa)) (ho : PIp X op (ipI g)) (hi : X.N[i]? = some x := by rfl) (hx : Loc X.env.scope x := by first | exact Or.inl rfl | exact Or.inr rfl) (hf : X.fn x = true ∨ X.env.scope.names.lookup x = some .local := by first | exact .inl rfl | exact .inr rfl | assumption) :
    PS X (.AugAssign (.Name x pos') op e pos) (tXS K W (sAug i (oI g) fa)) := PS.imp (ps_aug hN hi hx he ho hf) fun D σ H h => by
  obtain ⟨φ, F, ρ, S, h⟩ := h
  have key : RsOk K W φ F σ H (fun v t H' => Rep K (Av φ.A F) H' v t) (fun v H1 => D.nx (σ.set i (some v)) H1) (mOp (oI g) (mVar i) fa ρ) := OuOk.ofE S h fun t ρ1 v H1 _ S1 L1 R1 h1 => by
    rcases setIm_n i t ρ1 with ⟨ρ', e⟩ | e
    · rw [e] at h1
      exact h1 F _ H1 (setIm_ok S1 R1 e) Go.refl
    · rw [e] at h1
      exact h1.elim
  unfold mOp at key
  have k2 := RsOk.bind (RP := fun v t H' => σ[i]? = some (some v) ∧ Rep K (Av φ.A F) H' v t) (Q := fun v H1 => σ[i]? = some (some v) ∧ tX K W fa σ H1 fun y H1 => ipI g v y H1 fun z H2 => D.nx (σ.set i (some z)) H2) key fun x ρ1 v H1 _ S1 L1 R1 h1 => ⟨R1.1, φ, F, ρ1, S1, RsOk.bind h1 fun y ρ2 vy H2 _ S2 L2 R2 h2 => by
    obtain ⟨t, e, h3⟩ := RsOk.lift h2
    unfold oI at e
    split at e
    · cases e
      obtain ⟨_, rx⟩ := R1
      cases rx
      cases R2
      exact ⟨_, _, rfl, rfl, h3 _ H2 S2 Lk.refl (.int _)⟩
    · cases e⟩
  unfold mVar at k2
  split at k2
  · rename_i t e
    obtain ⟨v, hv, r⟩ := S.im e
    obtain ⟨h1, h2⟩ := k2 v H S Lk.refl ⟨hv, r⟩
    exact ⟨v, h1, h2⟩
  · exact k2.elim
/-! a text's signs -/
def mSeqOfS (a : Ev T) : Ev (List T) := a.bind fun x => match x with
  | .str z => fun ρ => .ok (z.cps.toList.map fun c => T.str ⟨#[c]⟩) ρ
  | _ => fun _ => .st
theorem i_str {tg : Expr} (he : PE X e (tX K W fa)) : PI X tg e (tXI K W (mSeqOfS fa)) := PI.imp (pi_str he) fun σ H R h => by
  obtain ⟨φ, F, ρ, S, h⟩ := h
  refine ⟨φ, F, ρ, S, RsOk.bind h fun x ρ1 vx H1 _ S1 L1 R1 h1 => ?_⟩
  cases R1 with
  | str z =>
    refine ⟨z, rfl, h1 _ H1 S1 Lk.refl fun C H2 s w L i => ⟨fun t ht => ?_, fun hi => ?_⟩⟩
    · rw [List.getElem?_map] at ht
      obtain ⟨c, hc, rfl⟩ := Option.map_eq_some_iff.mp ht
      rw [Array.getElem?_toList] at hc
      refine ⟨(Array.getElem?_eq_some_iff.mp hc).1, fun y H3 ⟨e, c', hc', ey⟩ => ?_⟩
      rw [hc] at hc'
      cases hc'
      subst e ey
      exact ⟨L2.Same.refl _, .str _⟩
    · show z.cps.size ≤ i
      simpa using hi
  | _ => exact h1.elim
/-! f(*xs, ..), [*xs, ..] -/
def mStar (fa : Ev T) (fr : Ev (List T)) : Ev (List T) := fa.bind fun x => match seqT x with
  | some l => fr.bind fun m => fun ρ => .ok (l ++ m) ρ
  | none => fun _ => .st
theorem m_star {es : List Expr} {p : Pos} {fr : Ev (List T)} (he : PE X e (tX K W fa)) (hr : PA X es (tXA K W fr)) (hs : starEach (.Starred e p :: es) X.env = (true, eval e X.env) :: starEach es X.env := by rfl) (hK : X.K = K := by rfl) : PA X (.Starred e p :: es) (tXA K W (mStar fa fr)) := PA.imp (k_star K he hr hs hK) fun σ H Q h => by
  obtain ⟨φ, F, ρ, S, h⟩ := h
  refine ⟨φ, F, ρ, S, RsOk.bind h fun x ρ1 vx H1 _ S1 L1 R1 h1 => ?_⟩
  cases e1 : seqT x with
  | none => simp only [e1] at h1; exact h1.elim
  | some l =>
    simp only [e1] at h1
    obtain ⟨p, xs, rfl, h2, h3⟩ := R1.sq e1
    refine ⟨p, xs, rfl, h2.symm, φ, F, ρ1, S1, RsOk.bind h1 fun y ρ2 vy H2 _ S2 L2 R2 h4 => ?_⟩
    exact h4 _ H2 S2 Lk.refl ((h3.lk (L2.mono fun a z => .inr z)).append R2)
/-! a, b = x, y -/
def sPar2 (i j : Nat) (fr : Ev (List T)) : Sv := fun ρ => ouE (fr ρ) fun l => match l with
  | [a, b] => sSeq (setIm i a) (setIm j b)
  | _ => fun _ => .st
theorem s_par2 (i j : Nat) {x y : Str} {a b : Expr} {fr : Ev (List T)} {px py pt : Pos} {kt k2 pt2} (hN : X.N.Nodup) (ha : PA X [a, b] (tXA K W fr)) (hc : X.calm = true := by rfl) (hi : X.N[i]? = some x := by rfl) (hj : X.N[j]? = some y := by rfl) (hij : i ≠ j := by decide)
    (hx : X.env.scope.names.lookup x = some .local := by rfl) (hy : X.env.scope.names.lookup y = some .local := by rfl) (hz : swappedStores [.Tuple [.Name x px, .Name y py] kt pt] (.Tuple [a, b] k2 pt2) X.env = pure (some [x, y]) := by rfl) (hs : swapsWithSole [.Tuple [.Name x px, .Name y py] kt pt] (.Tuple [a, b] k2 pt2) pos.line X.env = pure false := by rfl) :
    PS X (.Assign [.Tuple [.Name x px, .Name y py] kt pt] (.Tuple [a, b] k2 pt2) pos) (tXS K W (sPar2 i j fr)) := PS.imp (ps_par hc hN hi hj hij hx hy ha hz hs) fun D σ H h => by
  obtain ⟨φ, F, ρ, S, h⟩ := h
  refine ⟨φ, F, ρ, S, OuOk.ofE S h fun l ρ1 vs H1 _ S1 L1 R1 h1 => ?_⟩
  split at h1
  · rename_i ta tb _
    cases R1 with
    | cons ra rr =>
      cases rr with
      | cons rb rr =>
        cases rr
        unfold sSeq at h1
        rcases setIm_n i ta ρ1 with ⟨ρ2, e⟩ | e
        · rw [e] at h1
          dsimp only at h1
          rcases setIm_n j tb ρ2 with ⟨ρ3, e3⟩ | e3
          · rw [e3] at h1
            exact ⟨_, _, rfl, h1 F _ H1 (setIm_ok (setIm_ok S1 ra e) rb e3) Go.refl⟩
          · rw [e3] at h1
            exact h1.elim
        · rw [e] at h1
          exact h1.elim
  · exact h1.elim
/-! more numbers -/
def uNeg : T → Option T
  | .int i => some (.int (-i))
  | _ => none
theorem uNeg_ok : UnT K (rU fun i => .int (-i)) uNeg := fun A H x tx tz Q d rx e k => by
  unfold uNeg at e
  split at e
  · cases e
    cases rx
    exact ⟨_, rfl, k _ _ (L2.Same.refl _) (.int _)⟩
  · cases e
def oMul : T → T → Option T := oIc cMul (· * ·)
theorem oMul_ok : OpT K (rI CMul fun i j => .int (i * j)) oMul := oIc_ok fun i j h => by
  unfold cMul at h
  rw [Bool.or_eq_true, decide_eq_true_eq, decide_eq_true_eq] at h
  exact h
def oPow : T → T → Option T := oIc (fun i j => decide (0 ≤ j) && (decide (j ≤ 1000000) && decide (i.natAbs < 2 ^ 64))) fun i j => i ^ j.toNat
theorem oPow_ok : OpT K (rI CPow fun i j => .int (i ^ j.toNat)) oPow := oIc_ok fun i j h => by
  simp only [Bool.and_eq_true, decide_eq_true_eq] at h
  exact h
def oFdiv : T → T → Option T := oIc (fun _ j => decide (0 < j) && decide (j < 2 ^ 200)) (· / ·)
theorem oFdiv_ok : OpT K (rI CDivW fun i j => .int (i / j)) oFdiv := oIc_ok fun i j h => by
  simp only [Bool.and_eq_true, decide_eq_true_eq] at h
  exact wide_div (b := 200) h.1 (by have := h.2; omega) (by decide) (by decide)
theorem q_str : CallR X (.type "str") rStrA := CallR.or call_str_int SkE.call_str_str
/-! list(range(n)) -/
def bListRg : List T → Option T
  | [.int j] => if 0 ≤ j ∧ j ≤ 1000000 then some (.lst (rgT 0 j.toNat)) else none
  | _ => none
theorem reps_rg {A : ASet} {H : Hp} (n : Nat) : Reps K A H ((List.range n).map fun i : Nat => V.int (0 + (i : Int))) (rgT 0 n) := by
  have key : ∀ (l : List Nat), Reps K A H (l.map fun i : Nat => V.int (0 + (i : Int))) (l.map fun i : Nat => T.int (0 + (i : Int))) := fun l => by
    induction l with
    | nil => exact .nil
    | cons a l ih => exact .cons (.int _) ih
  exact key (List.range n)
theorem m_listRg {a : Expr} {p p1 pos1 : Pos} (hl : X.mg "list" = none) (hm : X.mg "range" = none) (he : PE X a (tX K W fa)) (hc : X.calm = true := by rfl) (hg : Gl X "list" := by rfl) (hg2 : Gl X "range" := by rfl) (na : starEach [a] X.env = (false, eval a X.env) :: starEach [] X.env := by rfl)
    (nb : starEach [.Call (.Name "range" p1) [a] [] pos1] X.env = (false, eval (.Call (.Name "range" p1) [a] [] pos1) X.env) :: starEach [] X.env := by rfl) : PE X (.Call (.Name "list" p) [.Call (.Name "range" p1) [a] [] pos1] [] pos) (tX K W (mB bListRg (mCons fa mNil))) := by
  refine PE.imp (pe_listRg hc hg hl (prg_1 hg2 hm he na) nb) fun σ H Q h => ?_
  obtain ⟨φ, F, ρ, S, h⟩ := h
  unfold mB mCons at h
  have h' := RsOk.bind (RP := fun vs l H' => Reps K (Av φ.A F) H' vs l) (Q := fun vs H1 => ∃ v, vs = [v] ∧ ∃ n, v = V.int n ∧ RgOk 0 n ∧ ∀ q, H1 q = none → Q (.ref q) (upd H1 q (.lst (L2.rgV 0 n)))) h fun l ρ1 vs H1 _ S1 L1 R1 h1 => by
    obtain ⟨t, e, h3⟩ := RsOk.lift h1
    unfold bListRg at e
    split at e
    · split at e
      · rename_i hj
        cases e
        cases R1 with
        | cons r rr =>
          cases rr
          cases r
          refine ⟨_, rfl, _, rfl, RgOk.of_le (Int.le_refl _) (by omega) (by decide) hj.1, fun q hq => h3 _ _ (S1.same (same_new hq)) (Lk.of_same (same_new hq)) (.lst (S1.fresh hq) upd_same ?_)⟩
          unfold L2.rgV
          rw [Int.sub_zero]
          exact reps_rg _
      · cases e
    · cases e
  refine ⟨φ, F, ρ, S, RsOk.bind h' fun x ρ1 vx H1 _ S1 L1 R1 h1 => ?_⟩
  obtain ⟨v, e, n, e2, h5⟩ := h1 [vx] H1 S1 Lk.refl (.cons R1 .nil)
  cases e
  exact ⟨n, e2, h5⟩
end
end Tm

/-! Mirror 9: lent objects. -/
namespace Tm
open PySem PySem.Spec PyProof.Rows L2
/-- f(x, ..) with the object of slot i lent -/
def callR (i : Nat) (Fm : Ro → Re) (ts : List T) : Ev T := fun ρ => match ρ[i]? with
  | some s => match s.tr with
    | some t0 => match Fm (.rf t0 :: ts.map .im) with
      | .ok t (.rf t' :: _) => .ok t (ρ.set i (s.up t'))
      | .ex c ns l (.rf t' :: _) => .ex c ns l (ρ.set i (s.up t'))
      | _ => .st
    | none => .st
  | none => .st
def isO (i : Nat) (ρ : Ro) : Bool := ((ρ[i]?).bind Sl.tr).isSome
def mCallR (i : Nat) (Fm : Ro → Re) (ds : List T) (fr : Ev (List T)) : Ev T := fun ρ => if isO i ρ = true then fr.bind (fun ts => callR i Fm (ts ++ ds)) ρ else .st
def F2 (As : List Addr) : Nat → List Addr := fun k => if k = 0 then As else []
theorem owp_F2 {As : List Addr} {a : Addr} : OwP (F2 As) a ↔ a ∈ As := by
  constructor
  · rintro ⟨i, h⟩
    unfold F2 at h
    split at h
    · exact h
    · cases h
  · intro h
    exact ⟨0, by simpa [F2] using h⟩
section
variable {K : PySem.W.Frag} {φ : Frm} {F : Nat → List Addr} {σ : L2.St} {H : Hp} {ρ : Ro}
/-- what the callee avoids: all of ours but the lent object -/
def lentA (φ : Frm) (F : Nat → List Addr) (i : Nat) : ASet := fun a => Av φ.A F a ∧ a ∉ F i
theorem lent_av {i : Nat} {a : Addr} : Av (lentA φ F i) (F2 (F i)) a ↔ Av φ.A F a := by
  constructor
  · rintro (⟨h, _⟩ | h)
    · exact h
    · exact .inr ⟨i, owp_F2.mp h⟩
  · intro h
    by_cases q : a ∈ F i
    · exact .inr (owp_F2.mpr q)
    · exact .inl ⟨h, q⟩
theorem lent_sat {i : Nat} {s : Sl} {t : T} {v : V} {vs : List V} {ts : List T} (S : SAt K φ F σ H ρ) (hs : ρ[i]? = some s) (ht : s.tr = some t) (hv : σ[i]? = some (some v)) (r : Reps K (Av φ.A F) H vs ts) :
    SAt K (frA (lentA φ F i) (F2 (F i)) H ((v :: vs).map some)) (F2 (F i)) ((v :: vs).map some) H (.rf t :: ts.map .im) := by
  obtain ⟨v', hv', o⟩ := S.own hs ht
  rw [hv] at hv'
  cases hv'
  refine ⟨by simp [r.length], Lk.refl, fun a h => S.dom a h.1, fun j a h => .inl ⟨j, h⟩, fun j a h z => z.2 (owp_F2.mp ⟨j, h⟩), fun j k a h1 h2 => ?_, fun j t h => ⟨rfl, rfl⟩, fun a h => ⟨0, t, rfl, by simpa [F2] using owp_F2.mp h⟩, fun j => ?_⟩
  · unfold F2 at h1 h2
    split at h1
    · split at h2
      · omega
      · cases h2
    · cases h1
  · cases j with
    | zero =>
      have e : F2 (F i) 0 = F i := rfl
      rw [e]
      exact .rf (o.weak fun a z => .inl (lent_av.mp z))
    | succ j =>
      cases e : ts[j]? with
      | none =>
        have : (Sl.rf t :: ts.map Sl.im)[j + 1]? = none := by simp at e ⊢; exact e
        rw [this]
        exact .out
      | some u =>
        obtain ⟨y, ey, ry⟩ := r.get e
        have e1 : (Sl.rf t :: ts.map Sl.im)[j + 1]? = some (.im u) := by rw [List.getElem?_cons_succ, List.getElem?_map, e]; rfl
        have e2 : ((v :: vs).map some)[j + 1]? = some (some y) := by rw [List.map_cons, List.getElem?_cons_succ, List.getElem?_map, ey]; rfl
        rw [e1, e2]
        exact .im (ry.weak fun a z => .inl (lent_av.mp z))
theorem lent_back {i : Nat} {s : Sl} {t t' : T} {v : V} {vs : List V} {as : Ro} {H' : Hp} (S : SAt K φ F σ H ρ) (hs : ρ[i]? = some s) (ht : s.tr = some t) (hv : σ[i]? = some (some v))
    (S' : SAt K (frA (lentA φ F i) (F2 (F i)) H ((v :: vs).map some)) (F2 (F i)) ((v :: vs).map some) H' (.rf t' :: as)) : SAt K φ F σ H' (ρ.set i (s.up t')) ∧ Lk (OwP F) H H' := by
  have L : Lk (fun a => a ∈ F i) H H' := S'.keep.mono fun a z => owp_F2.mp z
  have sl := S'.sl 0
  have e : F2 (F i) 0 = F i := rfl
  rw [e] at sl
  generalize hF : F i = As at sl
  cases sl with
  | rf o =>
    refine ⟨S.put hs ht hv L ?_, L.mono fun a z => ⟨i, z⟩⟩
    rw [hF]
    refine o.weak fun a z => .inl ?_
    rw [← hF]
    exact lent_av.mpr z
end
section
variable {X : Cx} {K : PySem.W.Frag} {W : WX} {CX : CXT} {k : Nat} {f : Addr} {Fm : Ro → Re} {dvs : List V} {ds : List T} {x m y Cn : Str} {p np pos apos : Pos} {e : Expr} {es : List Expr} {fa : Ev T} {fr : Ev (List T)}
theorem isO_at {φ : Frm} {F : Nat → List Addr} {σ : L2.St} {H : Hp} {ρ : Ro} {i : Nat} (S : SAt K φ F σ H ρ) (h : isO i ρ = true) : ∃ s t v, ρ[i]? = some s ∧ s.tr = some t ∧ σ[i]? = some (some v) := by
  unfold isO at h
  cases e : ρ[i]? with
  | none => rw [e] at h; cases h
  | some s =>
    rw [e, Option.bind_some] at h
    obtain ⟨t, ht⟩ := Option.isSome_iff_exists.mp h
    obtain ⟨v, hv, _⟩ := S.own e ht
    exact ⟨s, t, v, rfl, ht, hv⟩
theorem callR_ok {φ : Frm} {F : Nat → List Addr} {σ : L2.St} {H : Hp} {ρ : Ro} {Q : VK} {i : Nat} {v : V} {vs : List V} {ts : List T} (S : SAt K φ F σ H ρ) (hv : σ[i]? = some (some v)) (r : Reps K (Av φ.A F) H vs ts) (h : RsOk K W φ F σ H (fun v t H' => Rep K (Av φ.A F) H' v t) Q (callR i Fm ts ρ)) : spF K Fm (v :: vs) H Q fun cls d H' => W cls d σ H' := by
  unfold callR at h
  cases e1 : ρ[i]? with
  | none => rw [e1] at h; exact h.elim
  | some s =>
    rw [e1] at h
    dsimp only at h
    cases e2 : s.tr with
    | none => rw [e2] at h; exact h.elim
    | some t0 =>
      rw [e2] at h
      dsimp only at h
      refine ⟨_, _, _, lent_sat S e1 e2 hv r, fun j u => ?_, ?_⟩
      · cases j with
        | zero => intro z; cases z
        | succ j =>
          rw [List.getElem?_cons_succ]
          exact noOw_im ts j u
      · cases e3 : Fm (.rf t0 :: ts.map .im) with
        | ok t as' =>
          rw [e3] at h
          intro w H' S' r'
          cases as' with
          | nil => exact h.elim
          | cons a0 as' =>
            cases a0 with
            | rf t' =>
              obtain ⟨S2, L2⟩ := lent_back S e1 e2 hv S'
              exact h w H' S2 L2 (r'.weak fun a z => .inl (lent_av.mpr z))
            | _ => exact h.elim
        | ex c ns l as' =>
          rw [e3] at h
          intro cls d H' S' xx
          cases as' with
          | nil => exact h.elim
          | cons a0 as' =>
            cases a0 with
            | rf t' =>
              obtain ⟨S2, L2⟩ := lent_back S e1 e2 hv S'
              exact h cls d H' S2 (xx.weak fun a z => .inl (lent_av.mpr z))
            | _ => exact h.elim
        | st =>
          rw [e3] at h
          exact h.elim
theorem m_callR (i : Nat) (D : Dn X.prog X.w X.K X.mg X.base CX k f dvs (spF K Fm)) (hr : Room k X.A) (hm : X.mg x = some (.ref f)) (hx : ∀ σ, Passes CX X fun cls d H' => W cls d σ H') (hd : ∀ A H, Reps K A H dvs ds) (ha : PA X es (tXA K W fr)) (hN : X.N[i]? = some y := by rfl) (hvis : Vis X.env.scope y := by first | exact Or.inl rfl | exact Or.inr (Or.inl rfl) | exact Or.inr (Or.inr rfl)) (hyd : (y == ("__debug__" : Str)) = false := by decide)
    (hcd : (y == ("__classdict__" : Str)) = false := by decide) (hg : Gl X x := by rfl) (hdb : (x == ("__debug__" : Str)) = false := by decide)
    (he : starEach (.Name y np :: es) X.env = (false, eval (.Name y np) X.env) :: starEach es X.env := by rfl) (hpl : (backTo pos (starEach es X.env)).any (·.1) = false := by rfl) : PE X (.Call (.Name x p) (.Name y np :: es) [] pos) (tX K W (mCallR i Fm ds fr)) := by
  refine ⟨fun pins s σ H Q I hw => ?_⟩
  refine (pe_c (E := fun cls d H' => W cls d σ H') D hr hm (hx σ) (pa_cons (pe_var hN hvis hyd hcd) ha he) hg hdb he hpl).run pins s σ H Q I ?_
  obtain ⟨φ, F, ρ, S, h⟩ := hw
  unfold mCallR at h
  split at h
  · rename_i ho
    obtain ⟨s, t, v, e1, e2, e3⟩ := isO_at S ho
    refine ⟨v, e3, φ, F, ρ, S, RsOk.bind h fun ts ρ1 vs H1 _ S1 L1 R1 h1 => ?_⟩
    exact callR_ok S1 e3 (R1.append (hd _ _)) h1
  · exact h.elim
/-! ### methods of a lent object -/
def isC (i : Nat) (Cn m : Str) (ρ : Ro) : Bool := match (ρ[i]?).bind Sl.tr with
  | some (.obj C ns _) => decide (C = Cn) && decide (m ∉ ns)
  | _ => false
def mMethR (i : Nat) (Cn m : Str) (Fm : Ro → Re) (ds : List T) (fr : Ev (List T)) : Ev T := fun ρ => if isC i Cn m ρ = true then fr.bind (fun ts => callR i Fm (ts ++ ds)) ρ else .st
theorem isC_at {φ : Frm} {F : Nat → List Addr} {σ : L2.St} {H : Hp} {ρ : Ro} {i : Nat} (S : SAt K φ F σ H ρ) (h : isC i Cn m ρ = true) : ∃ a dx fs, σ[i]? = some (some (.ref a)) ∧ H a = some (.ins (He.ga K Cn) dx fs) ∧ fs.lookup m = none := by
  unfold isC at h
  cases e : ρ[i]? with
  | none => rw [e] at h; cases h
  | some s =>
    rw [e, Option.bind_some] at h
    cases e2 : s.tr with
    | none => rw [e2] at h; cases h
    | some t =>
      rw [e2] at h
      cases t with
      | obj C ns l =>
        simp only [Bool.and_eq_true, decide_eq_true_eq] at h
        obtain ⟨rfl, hm⟩ := h
        obtain ⟨v, hv, o⟩ := S.own e e2
        generalize F i = As at o
        cases o with
        | obj hh rs => exact ⟨_, _, _, hv, hh, lookup_no hm⟩
      | _ => cases h
theorem m_methR {pl : Sem Bool} (i : Nat) (c : Cls X.K (He.ga K Cn)) (hm : Meth X.K (He.ga K Cn) m f) (D : Dn X.prog X.w X.K X.mg X.base CX k f dvs (spF K Fm)) (hr : Room k X.A) (hx : ∀ σ, Passes CX X fun cls d H' => W cls d σ H') (hd : ∀ A H, Reps K A H dvs ds) (ha : PA X (e :: es) (tXA K W fr))
    (hN : X.N[i]? = some y := by rfl) (hvis : Vis X.env.scope y := by first | exact Or.inl rfl | exact Or.inr (Or.inl rfl) | exact Or.inr (Or.inr rfl)) (hyd : (y == ("__debug__" : Str)) = false := by decide)
    (hcd : (y == ("__classdict__" : Str)) = false := by decide)
    (hst : starEach (e :: es) X.env = (false, eval e X.env) :: starEach es X.env := by rfl) (hpl : (backTo pos (starEach es X.env)).any (·.1) = false := by rfl)
    (ht : eval (.Call (.Attribute (.Name y np) m apos) (e :: es) [] pos) X.env = (do
      let v ← eval (.Name y np) X.env
      standAt apos.atName
      let (g, first) ← holding [v] (getMethod v m pl)
      callWith pos g first (backTo pos (starEach (e :: es) X.env)) (backToKw pos (keywordEach [] X.env))) := by rfl) :
    PE X (.Call (.Attribute (.Name y np) m apos) (e :: es) [] pos) (tX K W (mMethR i Cn m Fm ds fr)) := by
  refine ⟨fun pins s σ H Q I hw => ?_⟩
  refine (pe_m (E := fun cls d H' => W cls d σ H') (pe_var hN hvis hyd hcd) c hm D hr (hx σ) ha hst hpl ht).run pins s σ H Q I ?_
  obtain ⟨φ, F, ρ, S, h⟩ := hw
  unfold mMethR at h
  split at h
  · rename_i ho
    obtain ⟨a, dx, fs, h1, h2, h3⟩ := isC_at S ho
    refine ⟨_, h1, a, dx, fs, rfl, h2, h3, φ, F, ρ, S, RsOk.bind h fun ts ρ1 vs H1 _ S1 L1 R1 h4 => ?_⟩
    exact callR_ok S1 h1 (R1.append (hd _ _)) h4
  · exact h.elim
theorem m_methR0 {pl : Sem Bool} (i : Nat) (c : Cls X.K (He.ga K Cn)) (hm : Meth X.K (He.ga K Cn) m f) (D : Dn X.prog X.w X.K X.mg X.base CX k f dvs (spF K Fm)) (hr : Room k X.A) (hx : ∀ σ, Passes CX X fun cls d H' => W cls d σ H') (hd : ∀ A H, Reps K A H dvs ds)
    (hN : X.N[i]? = some y := by rfl) (hvis : Vis X.env.scope y := by first | exact Or.inl rfl | exact Or.inr (Or.inl rfl) | exact Or.inr (Or.inr rfl)) (hyd : (y == ("__debug__" : Str)) = false := by decide)
    (hcd : (y == ("__classdict__" : Str)) = false := by decide)
    (ht : eval (.Call (.Attribute (.Name y np) m apos) [] [] pos) X.env = (do
      let v ← eval (.Name y np) X.env
      standAt apos.atName
      let (g, first) ← holding [v] (getMethod v m pl)
      callWith pos g first (backTo pos (starEach [] X.env)) (backToKw pos (keywordEach [] X.env))) := by rfl) :
    PE X (.Call (.Attribute (.Name y np) m apos) [] [] pos) (tX K W (mMethR i Cn m Fm ds mNil)) := by
  refine ⟨fun pins s σ H Q I hw => ?_⟩
  refine (pe_m0 (E := fun cls d H' => W cls d σ H') (pe_var hN hvis hyd hcd) c hm D hr (hx σ) ht).run pins s σ H Q I ?_
  obtain ⟨φ, F, ρ, S, h⟩ := hw
  unfold mMethR at h
  split at h
  · rename_i ho
    obtain ⟨a, dx, fs, h1, h2, h3⟩ := isC_at S ho
    exact ⟨_, h1, a, dx, fs, rfl, h2, h3, callR_ok S h1 (hd _ _) h⟩
  · exact h.elim
/-! ### lists in slots -/
def mLenS (i : Nat) : Ev T := fun ρ => match (ρ[i]?).bind Sl.any with
  | some (.lst l) => .ok (.int l.length) ρ
  | some (.tup l) => .ok (.int l.length) ρ
  | _ => .st
theorem SAt.anyL {φ : Frm} {F : Nat → List Addr} {σ : L2.St} {H : Hp} {ρ : Ro} (S : SAt K φ F σ H ρ) {i : Nat} {l : List T} (h : (ρ[i]?).bind Sl.any = some (.lst l)) : ∃ a xs, σ[i]? = some (some (.ref a)) ∧ H a = some (.lst xs) ∧ Reps K (Av φ.A F) H xs l := by
  cases e : ρ[i]? with
  | none => rw [e] at h; cases h
  | some s =>
    rw [e] at h
    cases s with
    | un => cases h
    | im t =>
      cases h
      obtain ⟨v, hv, r⟩ := S.im e
      cases r with
      | lst na hh rs => exact ⟨_, _, hv, hh, rs⟩
    | ow t =>
      cases h
      obtain ⟨v, hv, o⟩ := S.own e rfl
      generalize F i = As at o
      cases o with
      | lst hh rs => exact ⟨_, _, hv, hh, rs⟩
    | rf t =>
      cases h
      obtain ⟨v, hv, o⟩ := S.own e rfl
      generalize F i = As at o
      cases o with
      | lst hh rs => exact ⟨_, _, hv, hh, rs⟩
theorem SAt.anyT {φ : Frm} {F : Nat → List Addr} {σ : L2.St} {H : Hp} {ρ : Ro} (S : SAt K φ F σ H ρ) {i : Nat} {l : List T} (h : (ρ[i]?).bind Sl.any = some (.tup l)) : ∃ a xs, σ[i]? = some (some (.ref a)) ∧ SqT K H a xs ∧ Reps K (Av φ.A F) H xs l := by
  cases e : ρ[i]? with
  | none => rw [e] at h; cases h
  | some s =>
    rw [e] at h
    cases s with
    | un => cases h
    | im t =>
      cases h
      obtain ⟨v, hv, r⟩ := S.im e
      cases r with
      | tup hh rs => exact ⟨_, _, hv, hh, rs⟩
    | ow t =>
      cases h
      obtain ⟨v, hv, o⟩ := S.own e rfl
      generalize F i = As at o
      cases o
    | rf t =>
      cases h
      obtain ⟨v, hv, o⟩ := S.own e rfl
      generalize F i = As at o
      cases o
theorem m_lenS (i : Nat) (hm : X.mg "len" = none) (hN : X.N[i]? = some y := by rfl) (hvis : Vis X.env.scope y := by first | exact Or.inl rfl | exact Or.inr (Or.inl rfl) | exact Or.inr (Or.inr rfl)) (hyd : (y == ("__debug__" : Str)) = false := by decide)
    (hcd : (y == ("__classdict__" : Str)) = false := by decide) (hg : Gl X "len" := by rfl) (he : starEach [.Name y np] X.env = (false, eval (.Name y np) X.env) :: starEach [] X.env := by rfl) (hK : X.K = K := by rfl) : PE X (.Call (.Name "len" p) [.Name y np] [] pos) (tX K W (mLenS i)) :=
  PE.imp (pe_callB (k_len K hK) hg hm bt_len (pa_cons (pe_var hN hvis hyd hcd) pa_nil he) (by decide) (by decide) he rfl) fun σ H Q h => by
  obtain ⟨φ, F, ρ, S, h⟩ := h
  unfold mLenS at h
  split at h
  · rename_i l e
    obtain ⟨a, xs, h1, h2, h3⟩ := S.anyL e
    exact ⟨_, h1, _, _, rfl, .inl ⟨xs, .inl (.inl h2), rfl⟩, by rw [h3.length]; exact h _ H S Lk.refl (.int _)⟩
  · rename_i l e
    obtain ⟨a, xs, h1, h2, h3⟩ := S.anyT e
    exact ⟨_, h1, _, _, rfl, .inr ⟨xs, h2, rfl⟩, by rw [h3.length]; exact h _ H S Lk.refl (.int _)⟩
  · exact h.elim
/-- x.pop(i) -/
def mPopS (i : Nat) (fa : Ev T) : Ev T := fun ρ => if isL i ρ = true then fa.bind (fun t ρ => match t, ρ[i]? with
  | .int j, some s => match s.tr with
    | some (.lst l) => match seqIndex? j l.length with
      | some k => match l[k]? with
        | some u => if -(2 ^ 63) ≤ j ∧ j < 2 ^ 63 then .ok u (ρ.set i (s.up (.lst (l.eraseIdx k)))) else .st
        | none => .st
      | none => .st
    | _ => .st
  | _, _ => .st) ρ else .st
theorem Reps.erase {A : ASet} {H : Hp} : ∀ {xs : List V} {l : List T} (k : Nat), Reps K A H xs l → Reps K A H (xs.eraseIdx k) (l.eraseIdx k)
  | _, _, _, .nil => .nil
  | _, _, 0, .cons _ r => r
  | _, _, k + 1, .cons h r => .cons h (Reps.erase k r)
theorem m_popS (i : Nat) {cpos : Pos} (ha : PE X e (tX K W fa)) (hN : X.N[i]? = some y := by rfl) (hvis : Vis X.env.scope y := by first | exact Or.inl rfl | exact Or.inr (Or.inl rfl) | exact Or.inr (Or.inr rfl)) (hd : (y == ("__debug__" : Str)) = false := by decide)
    (hcd : (y == ("__classdict__" : Str)) = false := by decide) (hbase : attributeBase (.Name y np) "pop" X.env (eval (.Name y np) X.env) = eval (.Name y np) X.env := by rfl)
    (hst : starEach [e] X.env = (false, eval e X.env) :: starEach [] X.env := by rfl)
    (hfew : ((backTo cpos (starEach [e] X.env)).all (fun x => !x.1) && (backToKw cpos (keywordEach [] X.env)).all (fun x => x.1.isSome)
      && decide ([e].length + ([] : List Keyword).length + (if ([] : List Keyword).isEmpty then 0 else 1) < 30)) = true := by rfl) (hline : (apos.endLine == cpos.line) = true := by rfl) (hK : X.K = K := by rfl) :
    PE X (.Call (.Attribute (.Name y np) "pop" apos) [e] [] cpos) (tX K W (mPopS i fa)) :=
  PE.imp (k_bm K PySem.F.plainAttrs_list PySem.F.slot_list_pop PySem.F.type_list_pop mt_popAt (pe_var hN hvis hd hcd) (pa_cons ha pa_nil hst) hbase hfew hline hst rfl hK) fun σ H Q h => by
  obtain ⟨φ, F, ρ, S, h⟩ := h
  unfold mPopS at h
  split at h
  · rename_i hL
    obtain ⟨a, xs, ha, hx, _⟩ := isL_at S hL
    refine ⟨_, ha, .inl ⟨rfl, _, .inl (.inl hx)⟩, φ, F, ρ, S, RsOk.bind h fun t ρ1 v H1 _ S1 L1 R1 h1 => ?_⟩
    cases R1 with
    | int j =>
      cases e1 : ρ1[i]? with
      | none => simp only [e1] at h1; exact h1.elim
      | some s =>
        simp only [e1] at h1
        cases e2 : s.tr with
        | none => rw [e2] at h1; exact h1.elim
        | some u =>
          rw [e2] at h1
          cases u with
          | lst l =>
            obtain ⟨a', xs', ha', hx', rs, k⟩ := put_list S1 e1 e2
            rw [ha] at ha'
            cases ha'
            dsimp only at h1
            cases e3 : seqIndex? j l.length with
            | none => rw [e3] at h1; exact h1.elim
            | some kk =>
              rw [e3] at h1
              dsimp only at h1
              cases e4 : l[kk]? with
              | none => rw [e4] at h1; exact h1.elim
              | some u =>
                rw [e4] at h1
                dsimp only at h1
                split at h1
                · rename_i hj
                  obtain ⟨w, hw, rw'⟩ := rs.get e4
                  obtain ⟨S2, L2⟩ := k (xs'.eraseIdx kk) (l.eraseIdx kk) (rs.erase kk)
                  refine ⟨a, xs', j, kk, w, rfl, rfl, hx', hj.1, hj.2, by rw [rs.length]; exact e3, hw, h1 w _ S2 L2 (rw'.lk (L2.mono fun b z => .inr z))⟩
                · exact h1.elim
          | _ => exact h1.elim
    | _ => exact h1.elim
  · exact h.elim
end
end Tm

/-! Mirror 10: own special methods, class methods, dicts of the top, try that passes. -/
namespace Tm
open PySem PySem.Spec PyProof.Rows L2
section
variable {X : Cx} {K : PySem.W.Frag} {W : WX} {e o : Expr} {es : List Expr} {fa fb : Ev T} {fr : Ev (List T)} {pos p apos np : Pos} {Fm : Ro → Re}
theorem spF_call {A : ASet} {H : Hp} {vs : List V} {ts : List T} {t : T} {as' : Ro} {Q : VK} {E : XK} (d : Dom A H) (r : Reps K A H vs ts) (e : Fm (ts.map .im) = .ok t as') (k : ∀ v H', Same H H' → Rep K A H' v t → Q v H') : spF K Fm vs H Q E := by
  refine ⟨A, fun _ => [], ts.map .im, args_sat d r, noOw_im ts, ?_⟩
  rw [e]
  intro v H' S' r'
  exact k v H' (same_of_lk S'.keep) (av_nil r')
/-! ### try whose body does not raise -/
theorem s_try0 {body : List Stmt} {h0 : ExceptHandler} {hs : List ExceptHandler} {g : Sv} (hb : PSs X.nox body (tXS K W g)) : PS X (.Try body (h0 :: hs) [] [] pos) (tXS K W g) := ps_try_thru0 hb
/-! ### str, len of own objects -/
/-- what a special method gives, by the class -/
def spcT (tb : List (Str × (Ro → Re))) (ts : List T) : Option T := match ts with
  | .obj C ns l :: r => match tb.lookup C with
    | some Fm => match Fm ((T.obj C ns l :: r).map .im) with
      | .ok t _ => some t
      | _ => none
    | none => none
  | _ => none
structure SpcOk (X : Cx) (K : PySem.W.Frag) (m : Str) (d : Nat) (q : Str × (Ro → Re)) : Prop where
  ex : ∃ f k, Spm X.K (He.ga K q.1) m f ∧ Dn X.prog X.w X.K X.mg X.base CX0 k f [] (spF K q.2) ∧ Room (k + d) X.A
def bStrO (tb : List (Str × (Ro → Re))) (ts : List T) : Option T := (bStr ts).or (match ts with
  | [t] => match spcT tb [t] with
    | some (.str z) => some (.str z)
    | _ => none
  | _ => none)
def rStrT (K : PySem.W.Frag) (tb : List (Str × (Ro → Re))) : List V → Hp → VK → Prop := fun xs H Q => rStrA xs H Q ∨ ∃ q ∈ tb, rStrOwn (He.ga K q.1) (spF K q.2) (fun _ _ _ => False) xs H Q
theorem q_strO {tb : List (Str × (Ro → Re))} (h : ∀ q ∈ tb, SpcOk X K "__str__" 2 q) : CallR X (.type "str") (rStrT K tb) := by
  intro pins s σ H xs us Q I r hh
  rcases hh with hh | ⟨q, hq, hh⟩
  · exact q_str pins s σ H xs us Q I r hh
  · obtain ⟨f, k, m, D, hr⟩ := (h q hq).ex
    exact call_strOwn m D hr pass0 pins s σ H xs us Q I r hh
theorem spcT_cases {tb : List (Str × (Ro → Re))} {ts : List T} {t : T} (e : spcT tb ts = some t) : ∃ C ns l r Fm as, ts = .obj C ns l :: r ∧ (C, Fm) ∈ tb ∧ Fm (ts.map .im) = .ok t as := by
  unfold spcT at e
  split at e
  · rename_i C ns l r
    cases e1 : tb.lookup C with
    | none => rw [e1] at e; cases e
    | some Fm =>
      rw [e1] at e
      dsimp only at e
      cases e2 : Fm ((T.obj C ns l :: r).map .im) with
      | ok u as =>
        rw [e2] at e
        cases e
        exact ⟨C, ns, l, r, Fm, as, rfl, lookup_mem e1, e2⟩
      | ex c ns l as => rw [e2] at e; cases e
      | st => rw [e2] at e; cases e
  · cases e
theorem bStrO_ok {tb : List (Str × (Ro → Re))} : CallT K (rStrT K tb) (bStrO tb) := fun A H xs ts tz Q d rs e k => by
  unfold bStrO at e
  cases e0 : bStr ts with
  | some u =>
    rw [e0] at e
    cases e
    exact .inl (bStr_ok A H xs ts _ Q d rs e0 k)
  | none =>
    rw [e0, Option.none_or] at e
    split at e
    · rename_i t0
      cases e1 : spcT tb [t0] with
      | none => rw [e1] at e; cases e
      | some u =>
        rw [e1] at e
        cases u with
        | str z =>
          cases e
          obtain ⟨C, ns, l, r, Fm, as, q, hm, ef⟩ := spcT_cases e1
          cases q
          refine .inr ⟨(C, Fm), hm, ?_⟩
          cases rs with
          | cons r1 rr =>
            cases rr
            cases r1 with
            | obj na hh rs => exact ⟨_, _, _, rfl, hh, spF_call (ts := [_]) d (.cons (.obj na hh rs) .nil) ef fun v H' s r' => by cases r'; exact ⟨_, rfl, k _ H' s (.str _)⟩⟩
        | _ => cases e
    · cases e
/-- len -/
def bLenO (tb : List (Str × (Ro → Re))) (ts : List T) : Option T := (bLen ts).or (match ts with
  | [t] => match spcT tb [t] with
    | some (.int n) => if 0 ≤ n ∧ n < 2 ^ 63 then some (.int n) else none
    | _ => none
  | _ => none)
def rLenT (K : PySem.W.Frag) (tb : List (Str × (Ro → Re))) : List V → Hp → VK → Prop := fun xs H Q => rLn K xs H Q ∨ ∃ q ∈ tb, rLenOwn (He.ga K q.1) (spF K q.2) (fun _ _ _ => False) xs H Q
theorem q_lenO {tb : List (Str × (Ro → Re))} (h : ∀ q ∈ tb, SpcOk X K "__len__" 1 q) (hK : X.K = K := by rfl) : CallR X (.builtin "len") (rLenT K tb) := by
  intro pins s σ H xs us Q I r hh
  rcases hh with hh | ⟨q, hq, hh⟩
  · exact k_len K hK pins s σ H xs us Q I r hh
  · obtain ⟨f, k, m, D, hr⟩ := (h q hq).ex
    exact call_lenOwn m D hr pass0 pins s σ H xs us Q I r hh
theorem bLenO_ok {tb : List (Str × (Ro → Re))} : CallT K (rLenT K tb) (bLenO tb) := fun A H xs ts tz Q d rs e k => by
  unfold bLenO at e
  cases e0 : bLen ts with
  | some u =>
    rw [e0] at e
    cases e
    exact .inl (bLen_ok A H xs ts _ Q d rs e0 k)
  | none =>
    rw [e0, Option.none_or] at e
    split at e
    · rename_i t0
      cases e1 : spcT tb [t0] with
      | none => rw [e1] at e; cases e
      | some u =>
        rw [e1] at e
        cases u with
        | int n =>
          dsimp only at e
          split at e
          · rename_i hn
            cases e
            obtain ⟨C, ns, l, r, Fm, as, q, hm, ef⟩ := spcT_cases e1
            cases q
            refine .inr ⟨(C, Fm), hm, ?_⟩
            cases rs with
            | cons r1 rr =>
              cases rr
              cases r1 with
              | obj na hh rs => exact ⟨_, _, _, rfl, hh, spF_call (ts := [_]) d (.cons (.obj na hh rs) .nil) ef fun v H' s r' => by cases r'; exact ⟨_, rfl, hn.1, hn.2, k _ H' s (.int _)⟩⟩
          · cases e
        | _ => cases e
    · cases e
/-! ### == and != of own objects -/
structure EqOk (X : Cx) (K : PySem.W.Frag) (d : Nat) (q : Str × (Ro → Re) × List Str) : Prop where
  ex : ∃ f k, Spm X.K (He.ga K q.1) "__eq__" f ∧ Dn X.prog X.w X.K X.mg X.base CX0 k f [] (spF K q.2.1) ∧ Room (k + d) X.A
  ne : NeC X.K (He.ga K q.1)
  nb : nfB X.K (He.ga K q.1) = true
  no : ∀ D ∈ q.2.2, ClsOk K D ∧ PySem.W.notFirst X.K (He.ga K q.1) (.ref (He.ga K D)) = true
def tyOk (Ds : List Str) (b : T) : Bool := match tyT b with
  | some (.inl _) => true
  | some (.inr D) => decide (D ∈ Ds)
  | none => false
def eqT (tb : List (Str × (Ro → Re) × List Str)) (a b : T) : Option Bool := match a with
  | .obj C ns l => match tb.lookup C with
    | some (Fm, Ds) => if tyOk Ds b = true then
        (match Fm [.im (.obj C ns l), .im b] with
        | .ok (.bl c) _ => some c
        | _ => none) else none
    | none => none
  | _ => none
def oEqT (tb : List (Str × (Ro → Re) × List Str)) (neg : Bool) : T → T → Option T := fun a b => (eqT tb a b).map fun c => T.bl (if neg then !c else c)
def rEqT (K : PySem.W.Frag) (tb : List (Str × (Ro → Re) × List Str)) (neg : Bool) : R2 := fun x y H Q => ∃ q ∈ tb, rEqOwn K (He.ga K q.1) (spF K q.2.1) (fun _ _ _ => False) neg x y H Q
theorem q_eqT {tb : List (Str × (Ro → Re) × List Str)} (h : ∀ q ∈ tb, EqOk X K 1 q) (hK : X.K = K := by rfl) : OpR X (compareOp .Eq) (rEqT K tb false) := by
  intro pins s σ H x y v u Q I rx ry hh
  obtain ⟨q, hq, hh⟩ := hh
  obtain ⟨f, k, m, D, hr⟩ := (h q hq).ex
  exact op_eqOwn K m D (hr.mono (by omega)) pass0 hK pins s σ H x y v u Q I rx ry hh
theorem q_neT {tb : List (Str × (Ro → Re) × List Str)} (h : ∀ q ∈ tb, EqOk X K 1 q) (hK : X.K = K := by rfl) : OpR X (compareOp .NotEq) (rEqT K tb true) := by
  intro pins s σ H x y v u Q I rx ry hh
  obtain ⟨q, hq, hh⟩ := hh
  obtain ⟨f, k, m, D, hr⟩ := (h q hq).ex
  exact op_neOwn K m (h q hq).ne D hr pass0 hK pins s σ H x y v u Q I rx ry hh
/-- what the table says of the classes alone -/
structure EqN (K : PySem.W.Frag) (q : Str × (Ro → Re) × List Str) : Prop where
  nb : nfB K (He.ga K q.1) = true
  no : ∀ D ∈ q.2.2, ClsOk K D ∧ PySem.W.notFirst K (He.ga K q.1) (.ref (He.ga K D)) = true
theorem oEqT_ok {tb : List (Str × (Ro → Re) × List Str)} {neg : Bool} (h : ∀ q ∈ tb, EqN K q) : OpT K (rEqT K tb neg) (oEqT tb neg) := fun A H x y tx ty tz Q d rx ry e k => by
  obtain ⟨b, hb, rfl⟩ := Option.map_eq_some_iff.mp e
  unfold eqT at hb
  split at hb
  · rename_i C ns l
    cases e1 : tb.lookup C with
    | none => rw [e1] at hb; cases hb
    | some q =>
      obtain ⟨Fm, Ds⟩ := q
      rw [e1] at hb
      dsimp only at hb
      split at hb
      · rename_i hty
        have hm := lookup_mem e1
        have hk := h _ hm
        cases e2 : Fm [.im (.obj C ns l), .im ty] with
        | ok u as =>
          rw [e2] at hb
          cases u with
          | bl c =>
            cases hb
            refine ⟨_, hm, ?_⟩
            cases rx with
            | obj na hh rs =>
              have run : spF K Fm [_, y] H (fun v H' => ∃ b : Bool, v = .bl b ∧ Q (.bl (if neg then !b else b)) H') (fun _ _ _ => False) := spF_call (ts := [_, _]) d (.cons (.obj na hh rs) (.cons ry .nil)) e2 fun v H' s r' => by
                cases r'
                exact ⟨_, rfl, k _ H' s (.bl _)⟩
              unfold tyOk at hty
              cases et : tyT ty with
              | none => rw [et] at hty; cases hty
              | some kk =>
                rw [et] at hty
                cases kk with
                | inl n =>
                  have T := ry.typ (fun C ns l z => by subst z; cases et) et
                  have hn : n ∈ ["int", "bool", "str", "NoneType", "list", "tuple"] := by
                    cases ty <;> cases et <;> simp
                  have nf := nfB_ok hk.nb hn
                  exact ⟨_, _, _, _, rfl, hh, T.ty, nf, run⟩
                | inr D =>
                  have hD : D ∈ Ds := by simpa using hty
                  obtain ⟨c1, c2⟩ := hk.no D hD
                  have T := ry.typ (fun C' ns l z => by subst z; cases et; exact c1) et
                  exact ⟨_, _, _, _, rfl, hh, T.ty, c2, run⟩
          | _ => cases hb
        | ex c ns l as => rw [e2] at hb; cases hb
        | st => rw [e2] at hb; cases hb
      · cases hb
  · cases hb
/-! ### class methods; a class that a slot holds -/
def mCm (C : Str) (Fm : Ro → Re) (fr : Ev (List T)) : Ev T := fr.bind fun ts => callV Fm (.cls C :: ts)
theorem m_cm {CX : CXT} {k : Nat} {C m : Str} {pl : Sem Bool} (hg : X.mg C = some (.ref (He.ga K C))) (cm : cmB X.K (He.ga K C) m = true) (D : Dn X.prog X.w X.K X.mg X.base CX k (He5.wf X.K (He.ga K C) "classmethod" m) [] (spF K Fm)) (hr : Room k X.A) (hx : ∀ σ, Passes CX X fun cls d H' => W cls d σ H') (ha : PA X (e :: es) (tXA K W fr)) (hgl : Gl X C := by rfl) (hcd : (C == ("__debug__" : Str)) = false := by decide)
    (hst : starEach (e :: es) X.env = (false, eval e X.env) :: starEach es X.env := by rfl) (hpl : (backTo pos (starEach es X.env)).any (·.1) = false := by rfl)
    (ht : eval (.Call (.Attribute (.Name C np) m apos) (e :: es) [] pos) X.env = (do
      let ov ← eval (.Name C np) X.env
      standAt apos.atName
      let (f, first) ← holding [ov] (getMethod ov m pl)
      callWith pos f first (backTo pos (starEach (e :: es) X.env)) (backToKw pos (keywordEach [] X.env))) := by rfl) :
    PE X (.Call (.Attribute (.Name C np) m apos) (e :: es) [] pos) (tX K W (mCm C Fm fr)) := by
  refine ⟨fun pins s σ H Q I hw => ?_⟩
  refine (pe_cm (E := fun cls d H' => W cls d σ H') (pe_gr hg hgl hcd) cm D hr (hx σ) ha hst hpl ht).run pins s σ H Q I ?_
  obtain ⟨φ, F, ρ, S, h⟩ := hw
  refine ⟨rfl, φ, F, ρ, S, RsOk.bind h fun ts ρ1 vs H1 _ S1 L1 R1 h1 => ?_⟩
  exact callV_ok S1 (.cons (.cls C) R1) h1
def mMkL (i : Nat) (Cn : Str) (Fm : Ro → Re) (ds : List T) (fr : Ev (List T)) : Ev T := fun ρ => match ρ[i]? with
  | some (.im (.cls C)) => if C = Cn then mMake Cn Fm ds fr ρ else .st
  | _ => .st
theorem m_mkL {CX : CXT} {k : Nat} {f : Addr} {x Cn : Str} {dvs : List V} {ds : List T} (i : Nat) (M : Mk X.K (He.ga K Cn) f) (D : Dn X.prog X.w X.K X.mg X.base CX k f dvs (spF K Fm)) (hr : Room (k + 1) X.A) (hx : ∀ σ, Passes CX X fun cls d H' => W cls d σ H') (hd : ∀ A H, Reps K A H dvs ds) (ha : PA X (e :: es) (tXA K W fr)) (hN : X.N[i]? = some x := by rfl) (hv : Vis X.env.scope x := by first | exact Or.inl rfl | exact Or.inr (Or.inl rfl) | exact Or.inr (Or.inr rfl))
    (hdb : (x == ("__debug__" : Str)) = false := by decide) (hcd : (x == ("__classdict__" : Str)) = false := by decide)
    (he : starEach (e :: es) X.env = (false, eval e X.env) :: starEach es X.env := by rfl) (hpl : (backTo pos (starEach es X.env)).any (·.1) = false := by rfl) : PE X (.Call (.Name x p) (e :: es) [] pos) (tX K W (mMkL i Cn Fm ds fr)) := by
  refine ⟨fun pins s σ H Q I hw => ?_⟩
  refine (pe_mkL (E := fun cls d H' => W cls d σ H') M D hr hN hv (hx σ) ha hdb hcd he hpl).run pins s σ H Q I ?_
  obtain ⟨φ, F, ρ, S, h⟩ := hw
  unfold mMkL at h
  split at h
  · rename_i C e1
    split at h
    · rename_i hc
      subst hc
      obtain ⟨v, hv, r⟩ := S.im e1
      cases r
      refine ⟨hv, φ, F, ρ, S, RsOk.bind h fun ts ρ1 vs H1 _ S1 L1 R1 h1 => fun x dx hx hdx ne => mkV_ok S1 (R1.append (hd _ _)) h1 x dx hx hdx ne⟩
    · exact h.elim
  · exact h.elim
/-! ### a dict of the top, text keys, plain values -/
def uInKd (tb : List (Str × T)) (neg : Bool) : T → Option T
  | .str z => some (.bl (if neg then !(tb.lookup z).isSome else (tb.lookup z).isSome))
  | _ => none
def uIxKd (tb : List (Str × T)) : T → Option T
  | .str z => tb.lookup z
  | _ => none
/-- what is known of such a dict -/
structure KdOk' (X : Cx) (K : PySem.W.Frag) (d : Addr) (tb : List (Str × T)) : Prop where
  kd : ∃ es n, KDict X.K X.w d es n
  no : ∀ z, tb.lookup z = none → PySem.W.nsIn K d z = some none
  yes : ∀ z t, tb.lookup z = some t → ∃ u v, PySem.W.nsIn K d z = some (some u) ∧ RelV v u ∧ ∀ A H, Rep K A H v t
theorem m_inKd {x : Str} {d : Addr} {tb : List (Str × T)} (hd : KdOk' X K d tb) (hm : X.mg x = some (.ref d)) (ha : PE X e (tX K W fa)) (hg : Gl X x := by rfl) (hxd : (x == ("__debug__" : Str)) = false := by decide) (hb : behindInMarks .In (.Name x np) = false := by rfl) (hK : X.K = K := by rfl) : PE X (.Compare e [.In] [.Name x np] pos) (tX K W (mUn (uInKd tb false) fa)) := PE.imp (pe_cmpR (op_inKd K hd.kd hK) ha (pe_gr hm hg hxd) hb) fun σ H Q h => by
  obtain ⟨φ, F, ρ, S, h⟩ := h
  refine ⟨φ, F, ρ, S, RsOk.bind h fun x ρ1 vx H1 _ S1 L1 R1 h1 => ?_⟩
  obtain ⟨t, e, h3⟩ := RsOk.lift h1
  cases R1 with
  | str z =>
    cases e
    cases el : tb.lookup z with
    | none =>
      rw [el] at h3
      exact ⟨z, none, rfl, rfl, hd.no z el, h3 _ H1 S1 Lk.refl (.bl _)⟩
    | some t =>
      rw [el] at h3
      obtain ⟨u, v, h5, _⟩ := hd.yes z t el
      exact ⟨z, some u, rfl, rfl, h5, h3 _ H1 S1 Lk.refl (.bl _)⟩
  | _ => cases e
theorem m_tnotInKd {x : Str} {d : Addr} {tb : List (Str × T)} (hd : KdOk' X K d tb) (hm : X.mg x = some (.ref d)) (ha : PE X e (tX K W fa)) (hg : Gl X x := by rfl) (hxd : (x == ("__debug__" : Str)) = false := by decide) (hb : behindInMarks .NotIn (.Name x np) = false := by rfl) (hK : X.K = K := by rfl) : PT X (.Compare e [.NotIn] [.Name x np] pos) (tXT K W (mTst (mUn (uInKd tb true) fa))) := PT.imp (pt_cmpR (op_notInKd K hd.kd hK) ha (pe_gr hm hg hxd) hb) fun σ H Q h => by
  have h := tst_read h
  obtain ⟨φ, F, ρ, S, h⟩ := h
  refine ⟨φ, F, ρ, S, RsOk.bind h fun x ρ1 vx H1 _ S1 L1 R1 h1 => ?_⟩
  obtain ⟨t, e, h3⟩ := RsOk.lift h1
  cases R1 with
  | str z =>
    cases e
    cases el : tb.lookup z with
    | none =>
      rw [el] at h3
      exact ⟨z, none, rfl, rfl, hd.no z el, h3 _ H1 S1 Lk.refl (.bl _)⟩
    | some t =>
      rw [el] at h3
      obtain ⟨u, v, h5, _⟩ := hd.yes z t el
      exact ⟨z, some u, rfl, rfl, h5, h3 _ H1 S1 Lk.refl (.bl _)⟩
  | _ => cases e
end
end Tm

/-! Mirror 11: dict comprehensions, sets' lengths, slots compared, pairs of own lists. -/
namespace Tm
open PySem PySem.Spec PyProof.Rows L2
def keyT : T → Option Key
  | .int i => some (.inl i)
  | .str x => some (.inr x)
  | _ => none
def putKT (kvs : List (Key × T)) (k : Key) (v : T) : List (Key × T) := if kvs.any (fun kv => decide (kv.1 = k)) then kvs.map fun kv => if kv.1 = k then (kv.1, v) else kv else kvs ++ [(k, v)]
/-- the pairs of a dict -/
def KvR (K : PySem.W.Frag) (A : ASet) (H : Hp) (kvs : List (Key × V)) (m : List (Key × T)) : Prop := kvs.map (·.1) = m.map (·.1) ∧ Reps K A H (kvs.map (·.2)) (m.map (·.2))
section
variable {K : PySem.W.Frag} {A B : ASet} {H H' : Hp}
theorem Rep.key {v : V} {t : T} {k : Key} (r : Rep K A H v t) (e : keyT t = some k) : v = kV k := by
  cases r <;> cases e <;> rfl
theorem KvR.lk {kvs : List (Key × V)} {m : List (Key × T)} (L : Lk A H H') (r : KvR K A H kvs m) : KvR K A H' kvs m := ⟨r.1, r.2.lk L⟩
theorem KvR.same {kvs : List (Key × V)} {m : List (Key × T)} (s : Same H H') (r : KvR K A H kvs m) : KvR K A H' kvs m := ⟨r.1, r.2.same s⟩
theorem KvR.length {kvs : List (Key × V)} {m : List (Key × T)} (r : KvR K A H kvs m) : kvs.length = m.length := by
  have := congrArg List.length r.1
  simpa using this
theorem KvR.dict {kvs : List (Key × V)} {m : List (Key × T)} {a : Addr} (r : KvR K A H kvs m) (na : ¬ B a) (h : H a = some (.dK kvs)) (s : ∀ a, B a → A a ∨ H a = none) : Rep K B H (.ref a) (.dK (m.map (·.1)) (m.map (·.2))) := by
  rw [← r.1]
  exact .dK na h (r.2.weak s)
theorem KvR.put {kvs : List (Key × V)} {m : List (Key × T)} {k : Key} {v : V} {t : T} (r : KvR K A H kvs m) (rv : Rep K A H v t) : KvR K A H (putK kvs k v) (putKT m k t) := by
  obtain ⟨h1, h2⟩ := r
  have ea : (kvs.any fun kv => decide (kv.1 = k)) = m.any fun kv => decide (kv.1 = k) := by
    have e1 : (kvs.any fun kv => decide (kv.1 = k)) = (kvs.map (·.1)).any fun x => decide (x = k) := by rw [List.any_map]; rfl
    have e2 : (m.any fun kv => decide (kv.1 = k)) = (m.map (·.1)).any fun x => decide (x = k) := by rw [List.any_map]; rfl
    rw [e1, e2, h1]
  unfold putK putKT
  rw [ea]
  split
  · have key : ∀ {kvs : List (Key × V)} {m : List (Key × T)}, kvs.map (·.1) = m.map (·.1) → Reps K A H (kvs.map (·.2)) (m.map (·.2)) → KvR K A H (kvs.map fun kv => if kv.1 = k then (kv.1, v) else kv) (m.map fun kv => if kv.1 = k then (kv.1, t) else kv) := by
      intro kvs
      induction kvs with
      | nil =>
        intro m e r
        cases m with
        | nil => exact ⟨rfl, .nil⟩
        | cons q m => cases e
      | cons p kvs ih =>
        intro m e r
        cases m with
        | nil => cases e
        | cons q m =>
          simp only [List.map_cons, List.cons.injEq] at e r
          cases r with
          | cons r1 rr =>
            obtain ⟨i1, i2⟩ := ih e.2 rr
            by_cases hk : p.1 = k
            · have hk2 : q.1 = k := by rw [← e.1]; exact hk
              refine ⟨?_, ?_⟩
              · simp only [List.map_cons, if_pos hk, if_pos hk2, i1, e.1]
              · simp only [List.map_cons, if_pos hk, if_pos hk2]
                exact .cons rv i2
            · have hk2 : ¬ q.1 = k := by rw [← e.1]; exact hk
              refine ⟨?_, ?_⟩
              · simp only [List.map_cons, if_neg hk, if_neg hk2, i1, e.1]
              · simp only [List.map_cons, if_neg hk, if_neg hk2]
                exact .cons r1 i2
    exact key h1 h2
  · refine ⟨by simp [h1], ?_⟩
    rw [List.map_append, List.map_append]
    exact h2.append (.cons rv .nil)
end
def dcL (vs : List Nat) (g : T → Sv) (tt : Ev Bool) (te tu : Ev T) : List T → List (Key × T) → Ro → Rs (List (Key × T))
  | [], acc, ρ => .ok acc ρ
  | x :: l, acc, ρ => match g x ρ with
    | .nx ρ1 => match tt ρ1 with
      | .ok true ρ2 => match te ρ2 with
        | .ok y ρ3 => match tu ρ3 with
          | .ok z ρ5 => match wipeO vs ρ5 with
            | some ρ4 => match keyT y with
              | some k => if acc.length < 1000000 then dcL vs g tt te tu l (putKT acc k z) ρ4 else .st
              | none => .st
            | none => .st
          | _ => .st
        | _ => .st
      | .ok false ρ2 => match wipeO vs ρ2 with
        | some ρ4 => dcL vs g tt te tu l acc ρ4
        | none => .st
      | _ => .st
    | _ => .st
def mDc (vs : List Nat) (fi : Ev (List T)) (g : T → Sv) (tt : Ev Bool) (te tu : Ev T) : Ev T := fi.bind fun l ρ1 => match wipeO vs ρ1 with
  | some ρ2 => match dcL vs g tt te tu l [] ρ2 with
    | .ok acc ρ3 => .ok (.dK (acc.map (·.1)) (acc.map (·.2))) (resto vs ρ1 ρ3)
    | _ => .st
  | none => .st
section
variable {X : Cx} {K : PySem.W.Frag} {W : WX} {fi : Ev (List T)} {g : T → Sv} {tt : Ev Bool} {te tu : Ev T} {vs : List Nat}
theorem dc_read (hgn : ∀ t ρ, (∃ ρ', g t ρ = .nx ρ') ∨ g t ρ = .st) {σ : L2.St} {H : Hp} {Q : VK} (h : tX K W (mDc vs fi g tt te tu) σ H Q) : tDc (tXI K W fi) (tXG K vs g) (tXT K W tt) (tX K W te) (tX K W tu) vs σ H Q := by
  obtain ⟨φ, F, ρ, S, h⟩ := h
  refine ⟨φ, F, ρ, S, RsOk.bind h fun l ρ1 J H1 _ S1 L1 R1 h1 => ?_⟩
  intro D hD
  cases ew : wipeO vs ρ1 with
  | none => rw [ew] at h1; exact h1.elim
  | some ρ2 =>
    rw [ew] at h1
    dsimp only at h1
    obtain ⟨S2, hv⟩ := S1.wipe ew
    cases el : dcL vs g tt te tu l [] ρ2 with
    | ex c ns l' ρ3 => rw [el] at h1; exact h1.elim
    | st => rw [el] at h1; exact h1.elim
    | ok accE ρE =>
      rw [el] at h1
      dsimp only at h1
      have sD : Same H1 (upd H1 D (.dK [])) := same_new hD
      have nF : ¬ OwP F D := fun z => S1.fresh hD (.inr z)
      have nA : ¬ φ.A D := fun z => S1.fresh hD (.inl z)
      have hB : ¬ φ.B D → φ.Ho D = none := fun nb => by
        cases e : φ.Ho D with
        | none => rfl
        | some o =>
          have := S1.keep.all _ _ nb e
          rw [hD] at this
          cases this
      refine ⟨fun i m H' => m = l.length - i ∧ i ≤ l.length ∧ ∃ (ρ' : Ro) (xs : List (Key × V)) (acc : List (Key × T)), SAt K (φ.av D) F (L2.wipe σ vs) H' ρ' ∧ Lk (fun a => OwP F a ∨ a = D) (upd H1 D (.dK [])) H' ∧ H' D = some (.dK xs) ∧ KvR K (Av (φ.av D).A F) H' xs acc ∧ dcL vs g tt te tu (l.drop i) acc ρ' = .ok accE ρE,
        ⟨_, rfl, Nat.zero_le _, ρ2, [], [], S2.in hD sD upd_same, Lk.refl, upd_same, ⟨rfl, .nil⟩, el⟩, ?_⟩
      rintro i m H' ⟨rfl, hi, ρ', xs, acc, S', L', hx, rs, e'⟩
      have L1' : Lk (fun a => OwP F a ∨ a = D) H1 H' := (Lk.of_same sD).trans L'
      have c3 : Lk (Av (φ.av D).A F) H1 H' := L1'.mono fun a z => z.elim .inr fun z => .inl (.inr z)
      have c2 : ∀ a, Av (φ.av D).A F a → Av φ.A F a ∨ H1 a = none := by
        rintro a ((z | z) | z)
        · exact .inl (.inl z)
        · exact .inr (by rw [z]; exact hD)
        · exact .inl (.inr z)
      obtain ⟨w1, w2⟩ := R1 (Av (φ.av D).A F) H' (fun a z => z.imp .inl id) c2 c3 i
      by_cases hlt : i < l.length
      · have ei : l[i]? = some l[i] := List.getElem?_eq_getElem hlt
        obtain ⟨hgo, hy⟩ := w1 _ ei
        rw [List.drop_eq_getElem_cons hlt] at e'
        refine .inr ⟨hgo, fun H2 => ∃ (ρ' : Ro) (xs : List (Key × V)) (acc : List (Key × T)), SAt K (φ.av D) F (L2.wipe σ vs) H2 ρ' ∧ Lk (fun a => OwP F a ∨ a = D) (upd H1 D (.dK [])) H2 ∧ H2 D = some (.dK xs) ∧ KvR K (Av (φ.av D).A F) H2 xs acc ∧ dcL vs g tt te tu (l.drop (i + 1)) acc ρ' = .ok accE ρE, fun H2 q => ⟨_, by omega, rfl, hlt, q⟩, fun x H3 yl => ?_⟩
        obtain ⟨s3, r3⟩ := hy x H3 yl
        have S3 := S'.same s3
        unfold dcL at e'
        rcases hgn l[i] ρ' with ⟨ρ4, e4⟩ | e4
        · rw [e4] at e'
          dsimp only at e'
          have cSame : ∀ {C : ASet}, Lk C H' H3 := fun {C} => Lk.of_same s3
          refine ⟨φ.av D, F, ρ', l[i], S3, r3, ρ4, e4, fun σ4 S4 o4 => ?_⟩
          have ew4 : L2.wipe σ4 vs = L2.wipe σ vs := by
            rw [wipe_oth o4]
            exact wipe_wipe σ vs
          refine ⟨ew4, φ.av D, F, ρ4, S4, ?_⟩
          have hx3 : H3 D = some (.dK xs) := s3 _ _ hx
          have rs3 := rs.same s3
          have L3 : Lk (fun a => OwP F a ∨ a = D) (upd H1 D (.dK [])) H3 := L'.trans (Lk.of_same s3)
          cases e5 : tt ρ4 with
          | ex c ns l' ρ5 => rw [e5] at e'; cases e'
          | st => rw [e5] at e'; cases e'
          | ok b ρ5 =>
            rw [e5] at e'
            intro v H4 S5 L4 R5
            subst R5
            have hx4 : H4 D = some (.dK xs) := L4.all _ _ nF hx3
            have rs4 := rs3.lk (L4.mono fun a z => .inr z)
            have L44 : Lk (fun a => OwP F a ∨ a = D) (upd H1 D (.dK [])) H4 := L3.trans (L4.mono fun a z => .inl z)
            cases v with
            | true =>
              dsimp only at e'
              refine iteT ⟨φ.av D, F, ρ5, S5, ?_⟩
              cases e6 : te ρ5 with
              | ex c ns l' ρ6 => rw [e6] at e'; cases e'
              | st => rw [e6] at e'; cases e'
              | ok y ρ6 =>
                rw [e6] at e'
                dsimp only at e'
                intro w H5 S6 L5 R6
                have hx5 : H5 D = some (.dK xs) := L5.all _ _ nF hx4
                have rs5 := rs4.lk (L5.mono fun a z => .inr z)
                have L55 : Lk (fun a => OwP F a ∨ a = D) (upd H1 D (.dK [])) H5 := L44.trans (L5.mono fun a z => .inl z)
                refine ⟨φ.av D, F, ρ6, S6, ?_⟩
                cases e8 : tu ρ6 with
                | ex c ns l' ρ8 => rw [e8] at e'; cases e'
                | st => rw [e8] at e'; cases e'
                | ok y2 ρ8 =>
                  rw [e8] at e'
                  dsimp only at e'
                  intro w2 H6 S8 L6 R8
                  cases e7 : wipeO vs ρ8 with
                  | none => rw [e7] at e'; cases e'
                  | some ρ7 =>
                    rw [e7] at e'
                    dsimp only at e'
                    cases ek : keyT y with
                    | none => rw [ek] at e'; cases e'
                    | some kk =>
                      rw [ek] at e'
                      dsimp only at e'
                      split at e'
                      · rename_i hlen
                        have hx6 : H6 D = some (.dK xs) := L6.all _ _ nF hx5
                        have rs6 := rs5.lk (L6.mono fun a z => .inr z)
                        have L66 : Lk (fun a => OwP F a ∨ a = D) (upd H1 D (.dK [])) H6 := L55.trans (L6.mono fun a z => .inl z)
                        obtain ⟨S7, _⟩ := S8.wipe e7
                        rw [ew4] at S7
                        obtain ⟨S9, L9⟩ := S7.wrO (o' := .dK (putK xs kk w2)) hx6 (fun _ z => by cases z) (fun _ _ z => by cases z) hB
                        refine ⟨xs, kk, R6.key ek, hx6, Nat.lt_of_lt_of_le (by rw [rs6.length]; exact hlen) (big_le (Nat.le_refl _)), ρ7, putK xs kk w2, putKT acc kk y2, S9, L66.trans (L9.mono fun a z => .inr z), upd_same, ?_, e'⟩
                        exact (rs6.put R8).lk (L9.mono fun a z => .inl (.inr z))
                      · cases e'
            | false =>
              dsimp only at e'
              cases e7 : wipeO vs ρ5 with
              | none => rw [e7] at e'; cases e'
              | some ρ7 =>
                rw [e7] at e'
                obtain ⟨S7, _⟩ := S5.wipe e7
                rw [ew4] at S7
                exact iteF ⟨ρ7, xs, acc, S7, L44, hx4, rs4, e'⟩
        · rw [e4] at e'
          cases e'
      · have e : i = l.length := by omega
        subst e
        rw [List.drop_length] at e'
        unfold dcL at e'
        cases e'
        have LF : Lk (OwP F) H1 H' := ⟨fun b o nb e => L1'.all _ _ (fun z => z.elim nb fun z => by rw [z, hD] at e; cases e) e, L1'.tup, L1'.frz⟩
        refine .inl ⟨w2 (Nat.le_refl _), h1 _ H' (S1.resto hv LF S'.off) LF (rs.dict (fun z => z.elim nA nF) hx fun a z => .inl (z.imp .inl id))⟩
theorem m_dc {kx vx tg iter : Expr} {ifs : List Expr} {scope : Scope} {own : List (Str × Nat)} {pos : Pos} (hc : X.calm = true) (hN : X.N.Nodup) (hgn : ∀ t ρ, (∃ ρ', g t ρ = .nx ρ') ∨ g t ρ = .st) (hi : PI X tg iter (tXI K W fi)) (ok : BlkOk X.N X.env.scope scope own)
    (hg : ∀ (s : Shared) (H : Hp) (C : Addr) (cl : List (Str × Addr)) (fp : List Addr), PG (X.blk s H scope (compEnvC scope cl C X.env) fp) tg (tXG K (own.map (·.2)) g)) (ht : ∀ (s : Shared) (H : Hp) (C : Addr) (cl : List (Str × Addr)) (fp : List Addr), PTs (X.blk s H scope (compEnvC scope cl C X.env) fp) ifs (tXT K W tt))
    (hk : ∀ (s : Shared) (H : Hp) (C : Addr) (cl : List (Str × Addr)) (fp : List Addr), PE (X.blk s H scope (compEnvC scope cl C X.env) fp) kx (tX K W te))
    (he : ∀ (s : Shared) (H : Hp) (C : Addr) (cl : List (Str × Addr)) (fp : List Addr), PE (X.blk s H scope (compEnvC scope cl C X.env) fp) vx (tX K W tu)) (hs : ∀ x, foldedSetIterable iter X.env x = pure x := by intro _; rfl) :
    PE X (.DictComp kx vx [⟨tg, iter, ifs, 0⟩] scope pos) (tX K W (mDc (own.map (·.2)) fi g tt te tu)) :=
  PE.imp (pe_dc hc hN hi ok hg ht hk he hs) fun σ H Q h => dc_read hgn h
end
section
variable {X : Cx} {K : PySem.W.Frag} {W : WX} {e : Expr} {fa : Ev T} {pos : Pos}
/-- len of a dict -/
def bLenD : List T → Option T
  | [.dK ks _] => some (.int ks.length)
  | _ => none
theorem bLenD_ok : CallT K (fun xs H Q => ∃ a kvs, xs = [V.ref a] ∧ H a = some (.dK kvs) ∧ Q (.int kvs.length) H) bLenD := fun A H xs ts tz Q d rs e k => by
  unfold bLenD at e
  split at e
  · cases e
    cases rs with
    | cons r rs =>
      cases rs
      cases r with
      | dK na h r =>
        refine ⟨_, _, rfl, h, ?_⟩
        rw [List.length_map] at k
        exact k _ _ (L2.Same.refl _) (.int _)
  · cases e
/-- len(set(x)) == len(x), x ints -/
def uNd : T → Option T := fun t => match (seqT t).bind toI with
  | some ns => if ns.length ≤ 1000 then some (.bl (decide ns.Nodup)) else none
  | none => none
theorem m_setEq (i : Nat) {y : Str} {p1 p2 p3 q1 q2 q3 np np2 : Pos} (hm : X.mg "len" = none) (hm2 : X.mg "set" = none) (hN : X.N[i]? = some y := by rfl) (hvis : Vis X.env.scope y := by first | exact Or.inl rfl | exact Or.inr (Or.inl rfl) | exact Or.inr (Or.inr rfl)) (hyd : (y == ("__debug__" : Str)) = false := by decide)
    (hcd : (y == ("__classdict__" : Str)) = false := by decide) (hg : Gl X "len" := by rfl) (hg2 : Gl X "set" := by rfl) (hc : X.calm = true := by rfl) (na : starEach [.Name y np] X.env = (false, eval (.Name y np) X.env) :: starEach [] X.env := by rfl) (nb : starEach [.Name y np2] X.env = (false, eval (.Name y np2) X.env) :: starEach [] X.env := by rfl) (hK : X.K = K := by rfl) :
    PE X (.Compare (.Call (.Name "len" p1) [.Call (.Name "set" p2) [.Name y np] [] q2] [] q1) [.Eq] [.Call (.Name "len" p3) [.Name y np2] [] q3] pos) (tX K W (mUn uNd (mVar i))) :=
  PE.imp (pe_cmpR op_eq (pe_lenSet K hm hm2 (pe_var hN hvis hyd hcd) hg hg2 hc na hK) (pe_callB (k_len K hK) hg hm bt_len (pa_cons (pe_var hN hvis hyd hcd) pa_nil nb) (by decide) (by decide) nb rfl) (nomark _)) fun σ H Q h => by
  obtain ⟨φ, F, ρ, S, h⟩ := h
  unfold mUn Ev.bind mVar at h
  split at h
  · rename_i a ρ1 e0
    split at e0
    · rename_i t et
      cases e0
      obtain ⟨v, hv, r⟩ := S.im et
      obtain ⟨t', e', h3⟩ := RsOk.lift h
      unfold uNd at e'
      cases e1 : seqT a with
      | none => rw [e1] at e'; cases e'
      | some l =>
        obtain ⟨p, xs, rfl, h2, rs⟩ := r.sq e1
        rw [e1, Option.bind_some] at e'
        cases e2 : toI l with
        | none => rw [e2] at e'; cases e'
        | some ns =>
          rw [e2] at e'
          dsimp only at e'
          split at e'
          · rename_i hl
            cases e'
            rw [toI_eq e2] at rs
            have := rs.of_ints
            subst this
            refine ⟨_, hv, p, ns, rfl, h2, hl, fun m hmn => ?_⟩
            refine ⟨_, hv, _, ns.length, rfl, ?_, rfl, ?_⟩
            · rcases h2 with h2 | h2
              · exact .inl ⟨_, h2, by rw [List.length_map]⟩
              · exact .inr ⟨_, h2, by rw [List.length_map]⟩
            · have : decide (V.int m = V.int ns.length) = decide ns.Nodup := by
                by_cases q : ns.Nodup
                · rw [decide_eq_true q, hmn.mpr q, decide_eq_true rfl]
                · rw [decide_eq_false q]
                  refine decide_eq_false fun z => q (hmn.mp ?_)
                  have := V.int.inj z
                  omega
              rw [this]
              exact h3 _ H S Lk.refl (.bl _)
          · cases e'
    · cases e0
  · rename_i e0
    split at e0
    · cases e0
    · cases e0
  · exact h.elim
/-- a slot's object beside a value -/
def scaT : T → Bool
  | .non => true
  | .bl _ => true
  | .int _ => true
  | .str _ => true
  | _ => false
theorem Rep.sca {A B : ASet} {H : Hp} {v : V} {t : T} (r : Rep K A H v t) (h : scaT t = true) : Rep K B H v t := by
  cases r <;> first | (cases h; done) | constructor
def notDeal : T → Bool
  | .deal _ _ => false
  | _ => true
def mOpS (f : T → T → Option T) (i : Nat) (fb : Ev T) : Ev T := fun ρ => match (ρ[i]?).bind Sl.any with
  | some _ => fb.bind (fun y ρ1 => match (ρ1[i]?).bind Sl.any with
    | some t => if notDeal t = true then (match f t y with
      | some z => if scaT z = true then .ok z ρ1 else .st
      | none => .st) else .st
    | none => .st) ρ
  | none => .st
theorem SAt.anyR {φ : Frm} {F : Nat → List Addr} {σ : L2.St} {H : Hp} {ρ : Ro} (S : SAt K φ F σ H ρ) {i : Nat} {t : T} (h : (ρ[i]?).bind Sl.any = some t) : ∃ v, σ[i]? = some (some v) ∧ (notDeal t = true → Rep K (fun _ => False) H v t) := by
  have wk : ∀ a, (fun _ => False) a → Av φ.A F a ∨ H a = none := fun _ z => z.elim
  cases e : ρ[i]? with
  | none => rw [e] at h; cases h
  | some s =>
    rw [e] at h
    cases s with
    | un => cases h
    | im u =>
      cases h
      obtain ⟨v, hv, r⟩ := S.im e
      exact ⟨v, hv, fun _ => r.weak wk⟩
    | ow u =>
      cases h
      obtain ⟨v, hv, o⟩ := S.own e rfl
      exact ⟨v, hv, fun hn => o.give (fun _ _ z => z) wk fun l m z => by subst z; cases hn⟩
    | rf u =>
      cases h
      obtain ⟨v, hv, o⟩ := S.own e rfl
      exact ⟨v, hv, fun hn => o.give (fun _ _ z => z) wk fun l m z => by subst z; cases hn⟩
theorem opS_read {r : R2} {f : T → T → Option T} {i : Nat} {fb : Ev T} {σ : L2.St} {H : Hp} {Q : VK} (ht : OpT K r f) (h : tX K W (mOpS f i fb) σ H Q) : tOp r (tVar i) (tX K W fb) σ H Q := by
  obtain ⟨φ, F, ρ, S, h⟩ := h
  unfold mOpS at h
  cases e : (ρ[i]?).bind Sl.any with
  | none => rw [e] at h; exact h.elim
  | some t0 =>
    rw [e] at h
    obtain ⟨v, hv, _⟩ := S.anyR e
    refine ⟨v, hv, φ, F, ρ, S, RsOk.bind h fun y ρ1 vy H1 _ S1 L1 R1 h1 => ?_⟩
    cases e1 : (ρ1[i]?).bind Sl.any with
    | none => simp only [e1] at h1; exact h1.elim
    | some t =>
      simp only [e1] at h1
      obtain ⟨v', hv', r'⟩ := S1.anyR e1
      rw [hv] at hv'
      cases hv'
      split at h1
      · rename_i hn
        cases e2 : f t y with
        | none => rw [e2] at h1; exact h1.elim
        | some z =>
          rw [e2] at h1
          dsimp only at h1
          split at h1
          · rename_i hs
            exact ht (fun _ => False) H1 v vy t y z Q (fun _ z => z.elim) (r' hn) (R1.weak fun _ z => z.elim) e2 fun w H' s rz => h1 w H' (S1.same s) (Lk.of_same s) (rz.sca hs)
          · exact h1.elim
      · exact h1.elim
theorem m_cmpS (i : Nat) {op : CmpOp} {r : R2} {f : T → T → Option T} {y : Str} {np : Pos} {b : Expr} {fb : Ev T} (ho : OpR X (compareOp op) r) (ht : OpT K r f) (hb : PE X b (tX K W fb)) (hm : behindInMarks op b = false) (hN : X.N[i]? = some y := by rfl) (hvis : Vis X.env.scope y := by first | exact Or.inl rfl | exact Or.inr (Or.inl rfl) | exact Or.inr (Or.inr rfl)) (hyd : (y == ("__debug__" : Str)) = false := by decide)
    (hcd : (y == ("__classdict__" : Str)) = false := by decide) : PE X (.Compare (.Name y np) [op] [b] pos) (tX K W (mOpS f i fb)) := PE.imp (pe_cmpR ho (pe_var hN hvis hyd hcd) hb hm) fun σ H Q h => opS_read ht h
theorem m_tcmpS (i : Nat) {op : CmpOp} {r : R2} {f : T → T → Option T} {y : Str} {np : Pos} {b : Expr} {fb : Ev T} (ho : OpR X (compareOp op) r) (ht : OpT K r f) (hb : PE X b (tX K W fb)) (hm : behindInMarks op b = false) (hN : X.N[i]? = some y := by rfl) (hvis : Vis X.env.scope y := by first | exact Or.inl rfl | exact Or.inr (Or.inl rfl) | exact Or.inr (Or.inr rfl)) (hyd : (y == ("__debug__" : Str)) = false := by decide)
    (hcd : (y == ("__classdict__" : Str)) = false := by decide) : PT X (.Compare (.Name y np) [op] [b] pos) (tXT K W (mTst (mOpS f i fb))) := PT.imp (pt_cmpR ho (pe_var hN hvis hyd hcd) hb hm) fun σ H Q h => opS_read (Q := fun x H1 => ∃ k, x = .bl k ∧ Q k H1) ht (tst_read h)
end
end Tm

/-! Mirror 12: the stream of draws as a function; pairs with own lists. -/
namespace Tm
open PySem PySem.Spec PyProof.Rows L2
def strip0 (l : List Int) : List Int := (l.reverse.dropWhile (· == 0)).reverse
theorem strip0_nil : strip0 [] = [] := rfl
theorem strip0_zero (l : List Int) : strip0 (l ++ [0]) = strip0 l := by simp [strip0]
theorem strip0_snoc (l : List Int) {y : Int} (h : y ≠ 0) : strip0 (l ++ [y]) = l ++ [y] := by
  have : (y == 0) = false := beq_eq_false_iff_ne.mpr h
  simp [strip0, List.dropWhile_cons, this]
theorem strip0_len (l : List Int) : (strip0 l).length ≤ l.length := by
  unfold strip0
  rw [List.length_reverse]
  exact Nat.le_trans (List.Sublist.length_le (List.dropWhile_sublist _)) (by rw [List.length_reverse]; exact Nat.le_refl _)
/-- a draw: the number, the stream behind it -/
def drawF (add : Int) (l : List Int) (m n : Int) : Int × List Int × Int := match (strip0 l).getLast? with
  | none => (((m * 48271 + add) % 2147483647 / 8) % n, [], (m * 48271 + add) % 2147483647)
  | some y => (y % n, (strip0 l).dropLast ++ [y / n], m)
def drawM (add : Int) : Ro → Re
  | [.rf (.deal l m), .im (.int n)] => if l.length ≤ 60 ∧ 0 < n ∧ n < 2 ^ 64 then .ok (.int (drawF add l m n).1) [.rf (.deal (drawF add l m n).2.1 (drawF add l m n).2.2), .im (.int n)] else .st
  | _ => .st
theorem drawF_lt (add : Int) (l : List Int) (m : Int) {n : Int} (h : 0 < n) : 0 ≤ (drawF add l m n).1 ∧ (drawF add l m n).1 < n := by
  unfold drawF
  split
  · exact ⟨Int.emod_nonneg _ (by omega), Int.emod_lt_of_pos _ h⟩
  · exact ⟨Int.emod_nonneg _ (by omega), Int.emod_lt_of_pos _ h⟩
theorem drawF_len (add : Int) {l : List Int} (m n : Int) (h : l.length ≤ 60) : (drawF add l m n).2.1.length ≤ 60 := by
  unfold drawF
  split
  · simp
  · rename_i y e
    have h1 := strip0_len l
    have h2 : strip0 l ≠ [] := fun z => by rw [z] at e; cases e
    have h3 : 0 < (strip0 l).length := List.length_pos_iff.mpr h2
    show ((strip0 l).dropLast ++ [y / n]).length ≤ 60
    rw [List.length_append, List.length_dropLast]
    simp only [List.length_cons, List.length_nil]
    omega
/-- a draw in short: what is known of it -/
theorem drawM_eq (add : Int) {l : List Int} (m : Int) {n : Int} (hl : l.length ≤ 60) (h0 : 0 < n) (h1 : n < 2 ^ 64) : ∃ v l' m', drawM add [.rf (.deal l m), .im (.int n)] = .ok (.int v) [.rf (.deal l' m'), .im (.int n)] ∧ 0 ≤ v ∧ v < n ∧ l'.length ≤ 60 := by
  obtain ⟨a, b⟩ := drawF_lt add l m h0
  refine ⟨_, _, (drawF add l m n).2.2, ?_, a, b, drawF_len add m n hl⟩
  unfold drawM
  dsimp only
  rw [if_pos ⟨hl, h0, h1⟩]
/-- the promise of _law_draw by its heap -/
def spDrawC (add : Int) : Sp := fun vs H Q _ => ∃ (d g : Addr) (n : Int) (gs : List Int) (mm : Int), vs = [.ref d, .int n] ∧ H d = some (.lst [.ref g, .int mm]) ∧ H g = some (.lst (gs.map V.int)) ∧ d ≠ g ∧ gs.length ≤ 60 ∧ 0 < n ∧ n < 2 ^ 64 ∧
  ∀ H', H' d = some (.lst [.ref g, .int (drawF add gs mm n).2.2]) → H' g = some (.lst ((drawF add gs mm n).2.1.map V.int)) → But d g H H' → Q (.int (drawF add gs mm n).1) H'
theorem draw_imp {K : PySem.W.Frag} {add : Int} {vs : List V} {H : Hp} {Q : VK} {E : XK} (h : spF K (drawM add) vs H Q E) : spDrawC add vs H Q E := by
  obtain ⟨A, F0, as, S, hn, h⟩ := h
  cases e : drawM add as with
  | st => rw [e] at h; exact h.elim
  | ex c ns l as' =>
    unfold drawM at e
    split at e
    · split at e <;> cases e
    · cases e
  | ok t as' =>
    rw [e] at h
    unfold drawM at e
    split at e
    · rename_i l m n
      split at e
      · rename_i hc
        cases e
        have hl : vs.length = 2 := by simpa using S.len
        match vs, hl with
        | [v0, v1], _ =>
          have s0 := S.sl 0
          have s1 := S.sl 1
          simp only [List.map_cons, List.map_nil, List.getElem?_cons_zero, List.getElem?_cons_succ] at s0 s1
          generalize hF0 : F0 0 = As at s0
          generalize hF1 : F0 1 = Bs at s1
          cases s0 with
          | rf o =>
            cases s1 with
            | im r =>
              cases r
              cases o with
              | @deal d g _ _ h1 h2 ne =>
                refine ⟨_, _, n, l, m, rfl, h1, h2, ne, hc.1, hc.2.1, hc.2.2, fun H' e1 e2 b => h _ H' ?_ (.int _)⟩
                have own : ∀ a, OwP F0 a ↔ a = d ∨ a = g := by
                  intro a
                  constructor
                  · rintro ⟨i, hi⟩
                    match i, hi with
                    | 0, hi => rw [hF0] at hi; simpa using hi
                    | 1, hi => rw [hF1] at hi; cases hi
                    | i + 2, hi =>
                      have := S.sl (i + 2)
                      generalize F0 (i + 2) = Fi at this hi
                      simp only [List.getElem?_cons_succ, List.getElem?_nil] at this
                      cases this
                      cases hi
                  · rintro (rfl | rfl)
                    · exact ⟨0, by rw [hF0]; simp⟩
                    · exact ⟨0, by rw [hF0]; simp⟩
                have L : Lk (OwP F0) H H' := by
                  refine ⟨fun c o nc e => b c o ⟨fun z => nc ((own c).mpr (.inl z)), fun z => nc ((own c).mpr (.inr z))⟩ e, fun c xs e => b c _ ⟨fun z => ?_, fun z => ?_⟩ e, fun c o u e => b c _ ⟨fun z => ?_, fun z => ?_⟩ e⟩
                  · rw [z, h1] at e; cases e
                  · rw [z, h2] at e; cases e
                  · rw [z, h1] at e; cases e
                  · rw [z, h2] at e; cases e
                refine ⟨rfl, L, fun a ha => ?_, S.odom, S.oA, S.dj, fun i t hi => ⟨rfl, rfl⟩, fun a ha => ?_, fun i => ?_⟩
                · obtain ⟨o, eo⟩ := S.adom a ha
                  exact ⟨o, L.all _ _ (fun ⟨i, z⟩ => S.oA i a z ha) eo⟩
                · exact ⟨0, _, rfl, by rw [hF0]; simpa using (own a).mp ha⟩
                · match i with
                  | 0 =>
                    rw [hF0]
                    exact .rf (.deal e1 e2 ne)
                  | 1 =>
                    rw [hF1]
                    exact .im (.int _)
                  | i + 2 =>
                    have := S.sl (i + 2)
                    generalize F0 (i + 2) = Fi at this ⊢
                    simp only [List.getElem?_cons_succ, List.getElem?_nil] at this ⊢
                    cases this
                    exact .out
      · cases e
    · cases e
section
variable {X : Cx} {K : PySem.W.Frag} {W : WX} {e : Expr} {fa : Ev T} {pos : Pos}
/-! ### x, y = list(a), [] -/
def sParLN (i j : Nat) (fa : Ev T) : Sv := fun ρ => ouE (fa ρ) fun t => match seqT t with
  | some l => sSeq (setOw i (.lst l)) (setOw j (.lst []))
  | none => fun _ => .st
theorem s_parLN (i j : Nat) {x y : Str} {a : Expr} {px py pt np lp cp : Pos} {kt k2 pt2} (hN : X.N.Nodup) (hm : X.mg "list" = none) (ha : PE X a (tX K W fa)) (hc : X.calm = true := by rfl) (hi : X.N[i]? = some x := by rfl) (hj : X.N[j]? = some y := by rfl) (hij : i ≠ j := by decide)
    (hx : X.env.scope.names.lookup x = some .local := by rfl) (hy : X.env.scope.names.lookup y = some .local := by rfl) (hg : Gl X "list" := by rfl) (na : starEach [a] X.env = (false, eval a X.env) :: starEach [] X.env := by rfl)
    (nb : starEach [.Call (.Name "list" np) [a] [] cp, .List [] lp] X.env = (false, eval (.Call (.Name "list" np) [a] [] cp) X.env) :: starEach [.List [] lp] X.env := by rfl) (nc : starEach [.List [] lp] X.env = (false, eval (.List [] lp) X.env) :: starEach [] X.env := by rfl)
    (hz : swappedStores [.Tuple [.Name x px, .Name y py] kt pt] (.Tuple [.Call (.Name "list" np) [a] [] cp, .List [] lp] k2 pt2) X.env = pure (some [x, y]) := by rfl) (hs : swapsWithSole [.Tuple [.Name x px, .Name y py] kt pt] (.Tuple [.Call (.Name "list" np) [a] [] cp, .List [] lp] k2 pt2) pos.line X.env = pure false := by rfl) (hK : X.K = K := by rfl) :
    PS X (.Assign [.Tuple [.Name x px, .Name y py] kt pt] (.Tuple [.Call (.Name "list" np) [a] [] cp, .List [] lp] k2 pt2) pos) (tXS K W (sParLN i j fa)) :=
  PS.imp (ps_par hc hN hi hj hij hx hy (pa_cons (pe_callTy (k_list K hK) hg hm bt_list (pa_cons ha pa_nil na) (by decide) (by decide) na rfl) (pa_cons (pe_lst pa_nil) pa_nil nc) nb) hz hs) fun D σ H h => by
  obtain ⟨φ, F, ρ, S, h⟩ := h
  refine ⟨φ, F, ρ, S, OuOk.ofE S h fun t ρ1 v H1 _ S1 L1 R1 h1 => ?_⟩
  cases e1 : seqT t with
  | none => rw [e1] at h1; exact h1.elim
  | some l =>
    rw [e1] at h1
    obtain ⟨p, xs, rfl, h2, rs⟩ := R1.sq e1
    refine ⟨p, xs, rfl, h2, fun q1 hq1 => ⟨by show 0 ≤ sizeLine; decide, fun q2 hq2 => ⟨_, _, rfl, ?_⟩⟩⟩
    have s1 := same_new (o := .lst xs) hq1
    have q := seq_read S1 h1
    have hstep := setOw_ok (As := [q1]) (v := .ref q1) S1 (by simp [hq1]) s1 (.lst upd_same ((rs.weak (new_sub hq1)).same s1)) q
    obtain ⟨φ', F', ρ', S', o'⟩ := hstep
    exact setOw_ok (As := [q2]) (v := .ref q2) S' (by simp [hq2]) (same_new hq2) (.lst upd_same .nil) o'
/-! ### x = list(a) -/
def sOwnC (i : Nat) (fa : Ev T) : Sv := fun ρ => ouE (fa ρ) fun t => match seqT t with
  | some l => setOw i (.lst l)
  | none => fun _ => .st
theorem s_ownC (i : Nat) {y : Str} {a : Expr} {pos' np cp : Pos} (hN : X.N.Nodup) (hm : X.mg "list" = none) (ha : PE X a (tX K W fa)) (hg : Gl X "list" := by rfl) (na : starEach [a] X.env = (false, eval a X.env) :: starEach [] X.env := by rfl) (hi : X.N[i]? = some y := by rfl) (hx : Loc X.env.scope y := by first | exact Or.inl rfl | exact Or.inr rfl) (hs : swapsWith (.Call (.Name "list" np) [a] [] cp) (some (.Name y pos')) pos.line X.env = pure false := by rfl) (hf : X.fn y = true ∨ X.env.scope.names.lookup y = some .local := by first | exact .inl rfl | exact .inr rfl | assumption) (hK : X.K = K := by rfl) :
    PS X (.Assign [.Name y pos'] (.Call (.Name "list" np) [a] [] cp) pos) (tXS K W (sOwnC i fa)) := PS.imp (ps_set hN hi hx (pe_callTy (k_list K hK) hg hm bt_list (pa_cons ha pa_nil na) (by decide) (by decide) na rfl) hs hf) fun D σ H h => by
  obtain ⟨φ, F, ρ, S, h⟩ := h
  refine ⟨φ, F, ρ, S, OuOk.ofE S h fun t ρ1 v H1 _ S1 L1 R1 h1 => ?_⟩
  cases e1 : seqT t with
  | none => rw [e1] at h1; exact h1.elim
  | some l =>
    rw [e1] at h1
    obtain ⟨p, xs, rfl, h2, rs⟩ := R1.sq e1
    refine ⟨p, xs, rfl, h2, fun q1 hq1 => ?_⟩
    have s1 := same_new (o := .lst xs) hq1
    exact setOw_ok (As := [q1]) (v := .ref q1) S1 (by simp [hq1]) s1 (.lst upd_same ((rs.weak (new_sub hq1)).same s1)) h1
/-! ### D[x], D a dict of the top -/
theorem m_ixKd {x : Str} {d : Addr} {tb : List (Str × T)} {np : Pos} (hd : KdOk' X K d tb) (hm : X.mg x = some (.ref d)) (ha : PE X e (tX K W fa)) (hs : PlainIx e) (hg : Gl X x := by rfl) (hxd : (x == ("__debug__" : Str)) = false := by decide) (hK : X.K = K := by rfl) : PE X (.Subscript (.Name x np) e pos) (tX K W (mUn (uIxKd tb) fa)) := PE.imp (pe_ix ix_kdict (pe_gr hm hg hxd) ha hs) fun σ H Q h => by
  subst hK
  obtain ⟨φ, F, ρ, S, h⟩ := h
  refine ⟨φ, F, ρ, S, RsOk.bind h fun x ρ1 vx H1 _ S1 L1 R1 h1 => ?_⟩
  obtain ⟨t, e, h3⟩ := RsOk.lift h1
  cases R1 with
  | str z =>
    obtain ⟨u, v, h5, h6, h7⟩ := hd.yes z t e
    obtain ⟨es, n, KD⟩ := hd.kd
    exact ⟨d, z, v, rfl, rfl, ⟨es, n, u, KD.at_, KD.lit, h5, h6⟩, h3 v H1 S1 Lk.refl (h7 _ _)⟩
  | _ => cases e
end
end Tm

/-! Mirror 13: enumerate over lists and tuples. -/
namespace Tm
open PySem PySem.Spec PyProof.Rows L2
open Sem (wp)
def enT (j : Nat) : List T → List T
  | [] => []
  | t :: l => .tup [.int (j : Int), t] :: enT (j + 1) l
theorem enT_get : ∀ {l : List T} {j i : Nat} {t : T}, (enT j l)[i]? = some t → ∃ u, l[i]? = some u ∧ t = .tup [.int ((j + i : Nat) : Int), u]
  | [], j, i, t, h => by simp [enT] at h
  | u :: l, j, 0, t, h => by
    simp [enT] at h
    exact ⟨u, rfl, h.symm⟩
  | u :: l, j, i + 1, t, h => by
    simp only [enT, List.getElem?_cons_succ] at h
    obtain ⟨v, h1, h2⟩ := enT_get h
    refine ⟨v, by simpa using h1, ?_⟩
    rw [h2, Nat.add_assoc, Nat.add_comm 1 i]
theorem enT_length : ∀ (l : List T) (j : Nat), (enT j l).length = l.length
  | [], j => rfl
  | t :: l, j => by simp [enT, enT_length l (j + 1)]
/-- the tuple at a, each item in a new pair -/
def Itp (K : PySem.W.Frag) (a : Addr) : It where
  go := fun i H => ∃ (xs : List V) (x : V), SqT K H a xs ∧ xs[i]? = some x
  yld := fun i H v H' => ∃ q x, v = .ref q ∧ H q = none ∧ H' = upd H q (.tup [.int (i : Nat), x]) ∧ ∀ xs, SqT K H a xs → xs[i]? = some x
  stop := fun i H => ∃ xs : List V, SqT K H a xs ∧ xs.length ≤ i
set_option maxHeartbeats 1000000 in
theorem meets_enumT (ta : Addr) (us : Array Value) : Meets (Builtin.«enumerate.__new__» ⟨[.type "enumerate", .ref ta], []⟩) (fun _ R s0 => s0.heap.IsTuple ta us ∧
      R (.ok (.ret (.ref (s0.heap.push { cls := .type "tuple_iterator", data := .fields #[.ref ta, .int 0 0] }).objs.size)))
        { s0 with heap := (s0.heap.push { cls := .type "tuple_iterator", data := .fields #[.ref ta, .int 0 0] }).push { cls := .type "enumerate", data := .fields #[.none, .bool false, .ref s0.heap.objs.size, rawInt 0, .none, .none] } }) :=
  .of_wp fun P0 w0 A0 R0 s0 hh => by
    obtain ⟨hp, g0, d0, tk0, os0⟩ := s0
    obtain ⟨h1, h2⟩ := hh
    have hsub := sub_enumerate
    have itr : ∀ {A' : Around} {E : Value → Shared → Prop} {Q : Value → Shared → Prop}, Q (.ref hp.objs.size) ⟨hp.push { cls := .type "tuple_iterator", data := .fields #[.ref ta, .int 0 0] }, g0, d0, tk0, os0⟩ → wpAny (model P0 w0) A' (pyIter (.ref ta)) Q E ⟨hp, g0, d0, tk0, os0⟩ := fun z => wpAny_pyIter_tuple h1 z
    wp_walk using itr
    refine wpAny_stack_any fun st0 => wpAny_pure ?_
    split
    · rename_i cc _ _ _ _ _
      cases (cc == Value.type "enumerate")
      · wp_walk using itr
        exact ⟨_, rfl, h2⟩
      · wp_walk using itr
        exact ⟨_, rfl, h2⟩
    · wp_walk using itr
      exact ⟨_, rfl, h2⟩
section
variable {P0 : Program} {w0 : World} {A0 : Around} {E0' : Value → Shared → Prop} {s0 : Shared}
theorem call_enumT {ta : Addr} {us : Array Value} {Q : Value → Shared → Prop} (hT : s0.heap.IsTuple ta us)
    (k : ∀ hp, IsEnum hp (s0.heap.objs.size + 1) s0.heap.objs.size 0 .none → hp.IsTupleIter s0.heap.objs.size ta 0 → (∀ b o, s0.heap.get? b = some o → hp.get? b = some o) → Q (.ref (s0.heap.objs.size + 1)) { s0 with heap := hp }) :
    wpAny (model P0 w0) A0 (call (.type "enumerate") [.ref ta]) Q E0' s0 := by
  refine callType_new F.called_enumerate (by decide) (F.typeCall_enumerate_1 _) (F.newCall_enumerate_1 _) (fun z => F.args_object_init_2 z _) F.entry_enumerate_new (meets_enumT ta us) ⟨hT, ?_⟩
  obtain ⟨ot, eot⟩ : ∃ ot : Obj, ot = { cls := .type "tuple_iterator", data := .fields #[.ref ta, .int 0 0] } := ⟨_, rfl⟩
  rw [← eot]
  have fr : ot.isFreed = false := by rw [eot]; rfl
  have sz : (s0.heap.push ot).objs.size = s0.heap.objs.size + 1 := Heap.size_push ..
  show _ ∧ _
  rw [sz]
  have ie : IsEnum ((s0.heap.push ot).push { cls := .type "enumerate", data := .fields #[.none, .bool false, .ref s0.heap.objs.size, rawInt 0, .none, .none] }) (s0.heap.objs.size + 1) s0.heap.objs.size 0 .none := by
    have z := Heap.get?_push_size (s0.heap.push ot) (o := { cls := .type "enumerate", data := .fields #[.none, .bool false, .ref s0.heap.objs.size, rawInt 0, .none, .none] }) rfl
    rw [sz] at z
    exact z
  exact ⟨⟨_, ie, rfl⟩, k _ ie ⟨ot, Heap.get?_push_of_some _ (Heap.get?_push_size _ fr), by rw [eot], by rw [eot]; rfl⟩ fun b o z => Heap.get?_push_of_some _ (Heap.get?_push_of_some _ z)⟩
end
theorem turn_enumT {P0 : Program} {w0 : World} {K : PySem.W.Frag} {elts : List Expr} {kk : Nat} {tp : Pos} (a en it : Addr) :
    Turn P0 w0 K (.Tuple elts kk tp) (Itp K a) [en, it] en (fun i hp => (∃ old, IsEnum hp en it ((i : Nat) : Int) old) ∧ hp.IsTupleIter it a i ∧ en ≠ it ∧ a ≠ it ∧ a ≠ en) where
  mem := List.mem_cons_self ..
  obj := fun i hp st b hb => by
    obtain ⟨⟨old, h1⟩, ⟨o, h2, h3, h4⟩, _⟩ := st
    rcases List.mem_cons.mp hb with z | z
    · subst z
      exact ⟨_, h1, fun v q => nomatch q⟩
    · rw [List.mem_singleton] at z
      subst z
      exact ⟨o, h2, fun v q => by rw [h4] at q; cases q⟩
  keep := fun i hp hp' st k => by
    obtain ⟨⟨old, h1⟩, h2, h3⟩ := st
    exact ⟨⟨old, k en (by simp) _ h1⟩, h2.at (fun o q => k it (by simp) o q), h3⟩
  item := by
    intro X e1 e2 e3 hc i pins s σ H E I hf st hgo
    subst e1 e2 e3
    obtain ⟨⟨old, h1⟩, h2, ne, na, nb⟩ := st
    obtain ⟨xs, x, hq, hx⟩ := hgo
    obtain ⟨its, rv, pt, hz⟩ := I.tuple hq
    obtain ⟨u, hu, ru⟩ := rv.get hx
    have len : en < s.heap.objs.size := Heap.lt_size h1
    have lit : it < s.heap.objs.size := by
      obtain ⟨_, z, _⟩ := h2
      exact Heap.lt_size z
    have tp : s.heap.IsTuple a its.toArray := pt
    have hi : i < its.toArray.size := by
      have := (List.getElem?_eq_some_iff.mp hu).1
      simpa using this
    have D := Draws.tuple (prog := X.prog) (w := X.w) (A := X.A.in1) (show X.A.in1.handled = none from I.ok.hd hc) it a na its.toArray
    refine wpAny_pyNext_enum_itemD D h1 ⟨h2, tp⟩ hi ne (by simp [ne, Ne.symm nb]) fun y hp tk hy ho hst hT hsz hk => ?_
    have ey : y = u := by
      have hu' : its.toArray[i]? = some u := by simpa using hu
      rw [hu'] at hy
      exact (Option.some.inj hy).symm
    subst ey
    refine ⟨_, rfl, wpAny_letOwnedTupleGo_enum (s := { s with heap := hp, toks := tk + 1 }) ho fun hp2 he2 sb => ?_⟩
    have hT2 : hp2.get? s.heap.objs.size = some { cls := .type "tuple", data := .seq #[.int i tk, y] } := (sb.2 _ (Nat.ne_of_gt len)).trans hT
    have new : ObjOk X.prog X.w (upd H s.heap.objs.size (.tup [.int (i : Nat), x])) hp2 s.heap.objs.size (.tup [.int (i : Nat), x]) := by
      refine ⟨by show 2 ≤ sizeLine; decide, [.int i tk, y], .cons ⟨_, rfl⟩ (.cons ru .nil), ?_⟩
      exact ⟨_, hT2, rfl, _, rfl⟩
    have I1 : Inv X pins σ (upd H s.heap.objs.size (.tup [.int (i : Nat), x])) { s with heap := hp2, toks := tk + 1 } :=
      I.turnedNew (ch := [en, it]) (fun b ob hb z => (sb.2 b (fun q => hb (by rw [q]; simp))).trans (hk b ob (fun q => hb (by rw [q]; simp)) (fun q => hb (by rw [q]; simp)) z)) hf (Nat.le_refl _) new
    refine ⟨.ref s.heap.objs.size, _, I1, rfl, ⟨_, x, rfl, I.hok.fresh (Nat.le_refl _), rfl, fun ys hy => ?_⟩, ⟨⟨y, ?_⟩, hst.1.at (fun o z => (sb.2 it (Ne.symm ne)).trans z), ne, na, nb⟩, fun b hb => ?_⟩
    · rw [I.tuple_inj hy hq]
      exact hx
    · rw [show ((i + 1 : Nat) : Int) = (i : Int) + 1 by omega]
      exact he2
    · have lb : b < s.heap.objs.size := by
        rcases List.mem_cons.mp hb with z | z
        · rw [z]; exact len
        · rw [List.mem_singleton.mp z]; exact lit
      rw [upd_ne (Nat.ne_of_lt lb)]
      exact (hf b hb).1
  done := by
    intro X e1 e2 e3 hc i pins s σ H E I hf st hgo
    subst e1 e2 e3
    obtain ⟨⟨old, h1⟩, h2, ne, na, nb⟩ := st
    obtain ⟨xs, hq, hx⟩ := hgo
    obtain ⟨its, rv, pt, hz⟩ := I.tuple hq
    obtain ⟨f0, f1, f2, f3, f4, f5⟩ := hf it (by simp)
    have tp : s.heap.IsTuple a its.toArray := pt
    have hl := rv.length
    have hno : its.toArray[i]? = none := by simp; omega
    have D : Draws X.prog X.w X.A.in1 it [it, a] i (fun _ _ => True) (fun j hp => hp.IsTupleIter it a j ∧ hp.IsTuple a its.toArray ∧ j = i) :=
      { live := fun _ _ q => by
          obtain ⟨⟨o, ho, _⟩, _⟩ := q
          exact ⟨o, ho⟩
        frame := fun _ _ _ q k => ⟨q.1.at (fun o z => k it (by simp) o z), q.2.1.at (fun o z => k a (by simp) o z), q.2.2⟩
        item := fun j s1 Q1 E1 hj q _ => absurd q.2.2 (Nat.ne_of_lt hj)
        done := fun s1 Q1 E1 q kE => wpAny_nextOf_tuple_end (show X.A.in1.handled = none from I.ok.hd hc) q.1 q.2.1 hno kE }
    exact wpAny_pyNext_enum_endD D h1 ⟨h2, tp, rfl⟩ fun hp eb => ⟨rfl, I.turned (t' := s.toks) (fun b o hb z => eb b o hb z) f0 f1 f3 f4 f5⟩
  self := fun A i s Q E st h => by
    obtain ⟨⟨_, h1⟩, _⟩ := st
    exact wpAny_pyIter_enum h1 h
section
variable {X : Cx} {K : PySem.W.Frag} {W : WX} {e : Expr} {fa : Ev T} {elts : List Expr} {kk : Nat} {tp p pos : Pos}
def iEn2 (K : PySem.W.Frag) (ta : TA) : TI := fun σ H R => ta σ H fun vs H1 => ∃ a xs, vs = [.ref a] ∧ ((SqL K H1 a xs ∧ R (Ite K a) H1) ∨ (SqT K H1 a xs ∧ R (Itp K a) H1))
theorem pi_en2 {ta : TA} (hg : Gl X "enumerate") (hm : X.mg "enumerate" = none) (ha : PA X [e] ta) (hs : starEach [e] X.env = [(false, eval e X.env)]) : PI X (.Tuple elts kk tp) (.Call (.Name "enumerate" p) [e] [] pos) (iEn2 X.K ta) := by
  refine ⟨fun pins s σ H R I h => ?_⟩
  refine Call_ (ld_blt I hg hm boot_enumerate (PyProof.Rows.callWith_type1 (thn (ha.run pos pins s σ H _ I h) fun us s1 q => ?_) hs rfl))
  obtain ⟨vs, H1, I1, r1, a, xs, rfl, q1⟩ := q
  cases r1 with
  | cons r rr =>
    cases rr
    cases r
    have fp : ∀ b ∈ [s1.heap.objs.size + 1, s1.heap.objs.size], FpOk X pins H1 b := fun b hb => by
      have hle : s1.heap.objs.size ≤ b := by
        simp only [List.mem_cons, List.not_mem_nil, or_false] at hb
        omega
      exact I1.fpOk hle (I1.hok.fresh hle)
    rcases q1 with ⟨hq, q⟩ | ⟨hq, q⟩
    · obtain ⟨its, rv, pl, hz⟩ := I1.list hq
      refine call_enumerate_list pl.isList fun hp h1 h2 h3 h4 => wpAny_pyIter_enum h1 ?_
      have I2 : Inv X pins σ H1 { s1 with heap := hp } := I1.kept (t' := s1.toks) h4
      exact ⟨_, [s1.heap.objs.size + 1, s1.heap.objs.size], _, _, H1, rfl, I2, turn_enum a (s1.heap.objs.size + 1) s1.heap.objs.size, ⟨⟨.none, h1⟩, h2, Nat.succ_ne_self _⟩, fp, q⟩
    · obtain ⟨its, rv, pt, hz⟩ := I1.tuple hq
      have tpl : s1.heap.IsTuple a its.toArray := pt
      have la : a < s1.heap.objs.size := by
        obtain ⟨o, ho, _⟩ := tpl
        exact Heap.lt_size ho
      refine call_enumT tpl fun hp h1 h2 h4 => wpAny_pyIter_enum h1 ?_
      have I2 : Inv X pins σ H1 { s1 with heap := hp } := I1.kept (t' := s1.toks) h4
      exact ⟨_, [s1.heap.objs.size + 1, s1.heap.objs.size], _, _, H1, rfl, I2, turn_enumT a (s1.heap.objs.size + 1) s1.heap.objs.size, ⟨⟨.none, h1⟩, h2, Nat.succ_ne_self _, Nat.ne_of_lt la, Nat.ne_of_lt (Nat.lt_succ_of_lt la)⟩, fp, q⟩
def mEnum (fa : Ev T) : Ev (List T) := fa.bind fun x => match seqT x with
  | some l => fun ρ => .ok (enT 0 l) ρ
  | none => fun _ => .st
theorem i_enum (hm : X.mg "enumerate" = none) (ha : PE X e (tX K W fa)) (hg : Gl X "enumerate" := by rfl) (hs : starEach [e] X.env = [(false, eval e X.env)] := by rfl) (hs2 : starEach [e] X.env = (false, eval e X.env) :: starEach [] X.env := by rfl) (hK : X.K = K := by rfl) : PI X (.Tuple elts kk tp) (.Call (.Name "enumerate" p) [e] [] pos) (tXI K W (mEnum fa)) := by
  subst hK
  refine PI.imp (pi_en2 hg hm (pa_cons ha pa_nil hs2) hs) fun σ H R h => ?_
  obtain ⟨φ, F, ρ, S, h⟩ := h
  refine ⟨φ, F, ρ, S, RsOk.bind h fun x ρ1 vx H1 _ S1 L1 R1 h1 => ?_⟩
  have pair : ∀ (C : ASet) (H2 H3 : Hp) (y : V) (i : Nat) (u : T) (q : Addr) (z : V), Rep X.K C H2 z u → y = .ref q → H2 q = none → H3 = upd H2 q (.tup [.int (i : Nat), z]) → Same H2 H3 ∧ Rep X.K C H3 y (.tup [.int ((0 + i : Nat) : Int), u]) := by
    intro C H2 H3 y i u q z rz e1 e2 e3
    subst e1 e3
    have s := same_new (o := .tup [.int (i : Nat), z]) e2
    rw [Nat.zero_add]
    exact ⟨s, .tup (.inl (.inl upd_same)) (.cons (.int _) (.cons (rz.same s) .nil))⟩
  cases R1 with
  | lst na hh rs =>
    have rl : Rep X.K (Av φ.A F) H1 (.ref _) (.lst _) := .lst na hh rs
    refine ⟨_, _, rfl, .inl ⟨.inl (.inl hh), h1 _ H1 S1 Lk.refl fun C H2 s w L i => ?_⟩⟩
    have r2 := (rl.weak w).lk L
    cases r2 with
    | lst na2 hh2 rs2 =>
      refine ⟨fun t ht => ?_, fun hi => ⟨_, .inl (.inl hh2), by rw [enT_length] at hi; rw [rs2.length]; exact hi⟩⟩
      obtain ⟨u, hu, rfl⟩ := enT_get ht
      obtain ⟨z, hz, rz⟩ := rs2.get hu
      refine ⟨⟨_, z, .inl (.inl hh2), hz⟩, fun y H3 q => ?_⟩
      obtain ⟨q, z', e1, e2, e3, e4⟩ := q
      have := e4 _ (.inl (.inl hh2))
      rw [hz] at this
      cases this
      exact pair C H2 H3 y i u q z rz e1 e2 e3
  | tup hh rs =>
    have rl : Rep X.K (Av φ.A F) H1 (.ref _) (.tup _) := .tup hh rs
    refine ⟨_, _, rfl, .inr ⟨hh, h1 _ H1 S1 Lk.refl fun C H2 s w L i => ?_⟩⟩
    have r2 := (rl.weak w).lk L
    cases r2 with
    | tup hh2 rs2 =>
      refine ⟨fun t ht => ?_, fun hi => ⟨_, hh2, by rw [enT_length] at hi; rw [rs2.length]; exact hi⟩⟩
      obtain ⟨u, hu, rfl⟩ := enT_get ht
      obtain ⟨z, hz, rz⟩ := rs2.get hu
      refine ⟨⟨_, z, hh2, hz⟩, fun y H3 q => ?_⟩
      obtain ⟨q, z', e1, e2, e3, e4⟩ := q
      have := e4 _ hh2
      rw [hz] at this
      cases this
      exact pair C H2 H3 y i u q z rz e1 e2 e3
  | _ => exact h1.elim
end
end Tm

/-! Mirror 14: != of tuples that hold own objects, all items alike. -/
namespace Tm
open PySem PySem.SeqAt
open AutoSeq1 (wpAny_loadPart')
open MeetsSeq MeetsSeq2 MeetsSeq3 SeqRoads2
section
variable {prog : Program} {w : World} {A : Around} {R : Result → Shared → Prop}
theorem ne_items {p q : Addr} {us vs : Array Value} {k k2 : Nat} {da db : Option Addr} {za zb : Array (Option Value)} (sz : us.size = vs.size) (J : Shared → Prop)
    (step : ∀ j (ha : j < us.size) (hb : j < vs.size) t, J t → wpAny (model prog w) A.in1 (eqBool us[j] vs[j]) (fun r t' => r = true ∧ J t') (fun e t' => R (.error e) t') t)
    (done : ∀ t, J t → R (.ok (.ret (.bool false))) t) {s : Shared} (hp : s.heap.get? p = some { cls := .type "tuple", dict := da, data := .seq us k, slots := za }) (hq : s.heap.get? q = some { cls := .type "tuple", dict := db, data := .seq vs k2, slots := zb }) (j0 : J s) :
    wpAny (model prog w) A.in1 (Builtin.«tuple.__ne__» ⟨[.ref p, .ref q], []⟩) (GQ.FinOf prog w A R) (fun e t' => R (.error e) t') s := by
  have sb := AutoSeq1.sub_tuple_tuple
  have zl : (us.toList.zip vs.toList).length = us.size := by simp [sz]
  have j1 := j0
  obtain ⟨c1, c2, c3, c4, c5⟩ := s
  wp_walk using wpAny_loadPart' hp, wpAny_loadPart' hq, wpAny_forIn_list _ (fun more st t => st.1 = none ∧ ∃ j, more = (us.toList.zip vs.toList).drop j ∧ j ≤ us.size ∧ J t) _
  case turn =>
    rintro ⟨a1, a2⟩ more st t ⟨e0, j, e1, hj, hJ⟩
    by_cases hlt : j < (us.toList.zip vs.toList).length
    · have ha : j < us.size := by omega
      have hb : j < vs.size := by omega
      rw [List.drop_eq_getElem_cons hlt] at e1
      injection e1 with e2 e3
      obtain ⟨rfl, rfl⟩ : a1 = us[j] ∧ a2 = vs[j] := by
        have x1 := congrArg Prod.fst e2
        have x2 := congrArg Prod.snd e2
        exact ⟨by simpa using x1, by simpa using x2⟩
      refine wpAny_bind (wpAny_mono (step j ha hb t hJ) (fun r t2 z => ?_) fun _ _ y => y)
      obtain ⟨rfl, hJ2⟩ := z
      wp_walk
      exact ⟨rfl, j + 1, e3, ha, hJ2⟩
    · rw [List.drop_of_length_le (by omega)] at e1
      cases e1
  case fin =>
    rintro ⟨s1, s2⟩ t ⟨e0, j, e1, hj, hJ⟩
    dsimp only at e0
    subst e0
    have hR := done t hJ
    wp_walk
    simpa [Builtin.Tuple.tupleCompareSizes, sz] using hR
  case h => exact ⟨rfl, 0, rfl, Nat.zero_le _, j1⟩
theorem ne_tuples {E : Value → Shared → Prop} {s : Shared} {p q : Addr} {us vs : Array Value} {Q : Value → Shared → Prop} (sz : us.size = vs.size) (room : A.units < cLine) (J : Shared → Prop) (hp : s.heap.IsTuple p us) (hq : s.heap.IsTuple q vs)
    (step : ∀ j (ha : j < us.size) (hb : j < vs.size) t, J t → wpAny (model prog w) A.in1 (eqBool us[j] vs[j]) (fun r t' => r = true ∧ J t') E t)
    (done : ∀ t, J t → Q (.bool false) t) (j0 : J s) : wpAny (model prog w) A (richCompare .NotEq (.ref p) (.ref q)) Q E s := by
  obtain ⟨⟨x1, x2, x3, x4⟩, x5, x6, x7, x8⟩ := id hp
  obtain ⟨⟨y1, y2, y3, y4⟩, y5, y6, y7, y8⟩ := id hq
  dsimp only at x6 x8 y6 y8
  subst x6 x8 y6 y8
  refine wpAny_richCompare_same_room (op := .NotEq) ⟨_, x5, rfl⟩ ⟨_, y5, rfl⟩ F.slot_tuple_ne ?_ room
  refine GQ.call_here F.slot_tuple_ne ⟨_, x5, rfl⟩ F.entry_tuple_ne (F.args_tuple_ne_2 _ _) ?_
  exact ne_items (R := wants (fun v t => v ≠ .notImplemented ∧ Q v t) E) sz J step (fun t h => ⟨(fun z => nomatch z), done t h⟩) x5 y5 j0
end
end Tm
namespace Tm
open PySem PySem.Spec PyProof.Rows L2
/-- own objects that are told alike, somewhere below -/
structure EqK (X : Cx) (K : PySem.W.Frag) (kk : Nat) (q : Str × (Ro → Re) × List Str) : Prop where
  ex : ∃ f k, k ≤ kk ∧ Spm X.K (He.ga K q.1) "__eq__" f ∧ Dn X.prog X.w X.K X.mg X.base CX0 k f [] (spF K q.2.1)
  no : ∀ D ∈ q.2.2, ClsOk K D ∧ PySem.W.notFirst X.K (He.ga K q.1) (.ref (He.ga K D)) = true
def sameT (tb : List (Str × (Ro → Re) × List Str)) : Nat → T → T → Prop
  | n + 1, .tup l, .tup m => l.length = m.length ∧ ∀ (i : Nat) x y, l[i]? = some x → m[i]? = some y → sameT tb n x y
  | _, .obj C ns l, .obj D ms m => eqT tb (.obj C ns l) (.obj D ms m) = some true
  | _, a, b => sclT a b = some true
def DSm (K : PySem.W.Frag) (tb : List (Str × (Ro → Re) × List Str)) (n : Nat) : Eqv := fun x y H => ∃ A tx ty, Dom A H ∧ Rep K A H x tx ∧ Rep K A H y ty ∧ sameT tb n tx ty
section
variable {X : Cx} {K : PySem.W.Frag} {tb : List (Str × (Ro → Re) × List Str)} {kk n : Nat}
theorem mon_sm : Mon (DSm K tb n) := fun x y H H' e d => by
  obtain ⟨A, tx, ty, d, rx, ry, h⟩ := d
  exact ⟨A, tx, ty, d.same e, rx.same e, ry.same e, h⟩
/-- the objects -/
def DOb (K : PySem.W.Frag) (tb : List (Str × (Ro → Re) × List Str)) : Eqv := fun x y H => ∃ A C ns l D ms m, Dom A H ∧ Rep K A H x (.obj C ns l) ∧ Rep K A H y (.obj D ms m) ∧ eqT tb (.obj C ns l) (.obj D ms m) = some true
theorem rc_obj (h : ∀ q ∈ tb, EqK X K kk q) (hK : X.K = K := by rfl) : RcG X kk (DOb K tb) := by
  subst hK
  intro A' pins s σ H x y u v sb I rx ry d
  obtain ⟨A, C, ns, l, D, ms, m, dm, r1, r2, e⟩ := d
  unfold eqT at e
  dsimp only at e
  cases e1 : tb.lookup C with
  | none => rw [e1] at e; cases e
  | some z =>
    obtain ⟨Fm, Ds⟩ := z
    rw [e1] at e
    dsimp only at e
    split at e
    · rename_i hty
      obtain ⟨⟨f, k, hk, sp, dn⟩, no⟩ := h _ (lookup_mem e1)
      have hD : D ∈ Ds := by simpa [tyOk, tyT] using hty
      obtain ⟨c1, c2⟩ := no D hD
      cases e2 : Fm [.im (.obj C ns l), .im (.obj D ms m)] with
      | ok t as =>
        rw [e2] at e
        cases t with
        | bl b =>
          dsimp only at e
          obtain rfl := Option.some.inj e
          have T := r2.typ (fun C' ns l z => by cases z; exact c1) rfl
          cases r1 with
          | @obj a dx C fs l na hh rs =>
            have run : spF X.K Fm [.ref a, y] H (fun v H' => v = .bl true ∧ Same H H') (fun _ _ _ => False) := spF_call (ts := [_, _]) dm (.cons (.obj na hh rs) (.cons r2 .nil)) e2 fun v H' s r' => by
              cases r'
              exact ⟨rfl, s⟩
            cases rx
            obtain ⟨mA, J, _⟩ := ins_get I.hok hh
            obtain ⟨od, J, _⟩ := J.look
            obtain ⟨mm, hF⟩ := I.fr
            refine PySem.W.cmp_K (op := .Eq) sb.room.units0 hF I.ok.mod.kin J (looks_ty I ry T.ty) c2 sp.at_ sp.fn (wpAny_mono (own_call (A' := A') sb.fr dn (sb.room.mono hk) pass0 I (vs := [.ref a, y]) (.cons (show RelV (.ref a) (Value.ref a) from rfl) (.cons ry .nil)) run) (fun w' s' z => ?_) fun _ _ e => e)
            obtain ⟨v', H', I', rv, rfl, q'⟩ := z
            cases rv
            exact ⟨rfl, H', I', q'⟩
        | _ => cases e
      | ex c ns l as => rw [e2] at e; cases e
      | st => rw [e2] at e; cases e
    · cases e
theorem eq_obj (h : ∀ q ∈ tb, EqK X K kk q) (hK : X.K = K := by rfl) : EqG X kk (DOb K tb) := (rc_obj h hK).eqG fun x y H d => by
  obtain ⟨A, C, ns, l, D, ms, m, dm, r1, r2, e⟩ := d
  cases r1
  cases r2
  exact ⟨_, _, rfl, rfl⟩
theorem eq_scl {x y : V} {tx ty : T} {A : ASet} {H : Hp} (rx : Rep K A H x tx) (ry : Rep K A H y ty) (e : sclT tx ty = some true) : DFlat x y H := by
  obtain ⟨h1, h2⟩ := sclT_ok rx ry e
  have h3 := of_decide_eq_true h2
  subst h3
  cases rx <;> first | (cases h1; done) | exact ⟨rfl, rfl, by simp [eqV]⟩
theorem prs_sm {A : ASet} {H : Hp} {xs ys : List V} {l m : List T} (d : Dom A H) (r1 : Reps K A H xs l) (r2 : Reps K A H ys m) (hl : l.length = m.length) (h : ∀ (i : Nat) x y, l[i]? = some x → m[i]? = some y → sameT tb n x y) : Prs (DSm K tb n) xs ys H := by
  refine ⟨by rw [r1.length, r2.length, hl], fun i x y hx hy => ?_⟩
  have i1 : i < l.length := by
    rw [← r1.length]
    exact (List.getElem?_eq_some_iff.mp hx).1
  have i2 : i < m.length := by omega
  obtain ⟨x', ex, rx⟩ := r1.get (List.getElem?_eq_getElem i1)
  obtain ⟨y', ey, ry⟩ := r2.get (List.getElem?_eq_getElem i2)
  rw [hx] at ex
  rw [hy] at ey
  obtain rfl := Option.some.inj ex
  obtain rfl := Option.some.inj ey
  exact ⟨A, _, _, d, rx, ry, h i _ _ (List.getElem?_eq_getElem i1) (List.getElem?_eq_getElem i2)⟩
theorem eq_sm (h : ∀ q ∈ tb, EqK X K kk q) (hK : X.K = K := by rfl) : ∀ n, EqG X (kk + n) (DSm K tb n)
  | 0 => ((eq_obj h hK).or (eqG_flat.mono (Nat.zero_le _))).imp fun x y H d => by
    obtain ⟨A, tx, ty, dm, rx, ry, e⟩ := d
    unfold sameT at e
    split at e
    · rename_i e'
      cases e'
    · exact .inl ⟨A, _, _, _, _, _, _, dm, rx, ry, e⟩
    · exact .inr (eq_scl rx ry e)
  | n + 1 => (((eq_obj h hK).mono (by omega : kk ≤ kk + (n + 1))).or ((eqG_flat.mono (Nat.zero_le _)).or (hK ▸ eqG_tup mon_sm (eq_sm h hK n)))).imp fun x y H d => by
    obtain ⟨A, tx, ty, dm, rx, ry, e⟩ := d
    unfold sameT at e
    split at e
    · rename_i e'
      cases e'
      cases rx with
      | tup h1 r1 =>
        cases ry with
        | tup h2 r2 => exact .inr (.inr ⟨_, _, _, _, rfl, rfl, hK ▸ h1, hK ▸ h2, prs_sm dm r1 r2 e.1 e.2⟩)
    · exact .inl ⟨A, _, _, _, _, _, _, dm, rx, ry, e⟩
    · exact .inr (.inl (eq_scl rx ry e))
def rNeSm (K : PySem.W.Frag) (tb : List (Str × (Ro → Re) × List Str)) (n : Nat) : R2 := fun x y H Q => (∃ a b xs ys, x = .ref a ∧ y = .ref b ∧ SqT K H a xs ∧ SqT K H b ys ∧ Prs (DSm K tb n) xs ys H) ∧ ∀ H', Same H H' → Q (.bl false) H'
theorem q_neSm (h : ∀ q ∈ tb, EqK X K kk q) (hr : Room (kk + n + 1) X.A) (hK : X.K = K := by rfl) : OpR X (compareOp .NotEq) (rNeSm K tb n) := by
  subst hK
  intro pins s σ H x y v u Q I rx ry hh
  obtain ⟨⟨a, b, xs, ys, rfl, rfl, ha, hb, p⟩, k⟩ := hh
  cases rx
  cases ry
  obtain ⟨us, r1, e1, z1⟩ := I.tuple ha
  obtain ⟨vs, r2, e2, z2⟩ := I.tuple hb
  have sz : us.toArray.size = vs.toArray.size := by rw [List.size_toArray, List.size_toArray, ← r1.length, ← r2.length]; exact p.1
  have sb : Sub X (kk + n + 1) X.A := ⟨hr, rfl⟩
  show wpAny (model X.prog X.w) X.A (richCompare .NotEq (.ref a) (.ref b)) (EP X pins σ Q) X.xe s
  refine ne_tuples sz hr.units0 (LoopI X pins σ H) e1 e2 (fun j h1 h2 t q => turnG mon_sm (eq_sm h rfl n) sb p r1 r2 j h1 h2 t q) (fun t q => ?_) ⟨H, I, Ext.rfl'⟩
  obtain ⟨H', I', e⟩ := q
  exact ⟨.bl false, H', I', rfl, k H' e⟩
open Classical in
noncomputable def oNeSm (tb : List (Str × (Ro → Re) × List Str)) (n : Nat) : T → T → Option T := fun a b => match a, b with
  | .tup l, .tup m => if sameT tb (n + 1) (.tup l) (.tup m) then some (.bl false) else none
  | _, _ => none
theorem oNeSm_eq {l m : List T} (h : sameT tb (n + 1) (.tup l) (.tup m)) : oNeSm tb n (.tup l) (.tup m) = some (.bl false) := by
  unfold oNeSm
  dsimp only
  rw [if_pos h]
theorem oNeSm_ok : OpT K (rNeSm K tb n) (oNeSm tb n) := fun A H x y tx ty tz Q d rx ry e k => by
  unfold oNeSm at e
  split at e
  · split at e
    · rename_i h
      cases e
      unfold sameT at h
      cases rx with
      | tup h1 r1 =>
        cases ry with
        | tup h2 r2 => exact ⟨⟨_, _, _, _, rfl, rfl, h1, h2, prs_sm d r1 r2 h.1 h.2⟩, fun H' s => k _ H' s (.bl _)⟩
    · cases e
  · cases e
end
end Tm
namespace Tm
open PySem PySem.Spec PyProof.Rows L2
def Fd (d g : Addr) : Nat → List Addr := fun i => if i = 1 then [d, g] else []
/-- a law's frame behind its first statement -/
theorem law_sat {K : PySem.W.Frag} {H : Hp} {a d g : Addr} {l : List Int} {m : Int} {σ0 : L2.St} (h1 : H d = some (.lst [.ref g, .int m])) (h2 : H g = some (.lst (l.map V.int))) (n : Nat) :
    SAt K ⟨fun _ => False, fun _ => none, fun _ => False, σ0, fun _ => []⟩ (Fd d g) (some (.ref a) :: some (.ref d) :: List.replicate n none) H (.un :: .ow (.deal l m) :: List.replicate n .un) := by
  have ne : d ≠ g := fun z => by
    subst z
    rw [h1] at h2
    cases l with
    | nil => cases h2
    | cons i l =>
      have := Option.some.inj h2
      injection this with this
      rw [List.map_cons] at this
      injection this with this _
      cases this
  refine ⟨by simp, ⟨(fun _ _ _ z => by cases z), (fun _ _ z => by cases z), (fun _ _ _ z => by cases z)⟩, fun _ z => z.elim, fun _ _ _ => .inr rfl, fun _ _ _ z => z, fun i j x hi hj => ?_, fun i t h => ?_, fun _ z => z.elim, fun i => ?_⟩
  · unfold Fd at hi hj
    split at hi
    · split at hj
      · omega
      · cases hj
    · cases hi
  · match i, h with
    | 0, h => cases h
    | 1, h => cases h
    | i + 2, h =>
      have h : (List.replicate n Sl.un)[i]? = some (.rf t) := h
      rw [List.getElem?_replicate] at h
      split at h <;> cases h
  · match i with
    | 0 => exact .un
    | 1 => exact .ow (.deal h1 h2 ne)
    | i + 2 =>
      have e : (Sl.un :: Sl.ow (.deal l m) :: List.replicate n Sl.un)[i + 2]? = (List.replicate n Sl.un)[i]? := rfl
      rw [e, List.getElem?_replicate]
      split
      · exact .un
      · exact .out
end Tm

/-! Mirror, plain: how mirrors run. -/
namespace Tm
open PySem PySem.Spec PyProof.Rows L2
theorem lcL_pure {vs : List Nat} {g : T → Sv} {tt : Ev Bool} {te : Ev T} {ρ : Ro} (b : T → Bool) (f : T → T) : ∀ (l acc : List T), acc.length + l.length ≤ 1000000 →
    (∀ x ∈ l, ∃ ρ1, g x ρ = .nx ρ1 ∧ ∃ ρ2, tt ρ1 = .ok (b x) ρ2 ∧ (b x = false → wipeO vs ρ2 = some ρ) ∧ (b x = true → ∃ ρ3, te ρ2 = .ok (f x) ρ3 ∧ wipeO vs ρ3 = some ρ)) →
    lcL vs g tt te l acc ρ = .ok (acc ++ (l.filter b).map f) ρ
  | [], acc, _, _ => by simp [lcL]
  | x :: l, acc, hl, h => by
    obtain ⟨ρ1, e1, ρ2, e2, e3, e4⟩ := h x (List.mem_cons_self ..)
    have hl' : acc.length + l.length + 1 ≤ 1000000 := by simpa [Nat.add_assoc] using hl
    unfold lcL
    rw [e1]
    dsimp only
    rw [e2]
    cases hb : b x with
    | true =>
      obtain ⟨ρ3, e5, e6⟩ := e4 hb
      dsimp only
      rw [e5]
      dsimp only
      rw [e6]
      dsimp only
      rw [if_pos (by omega), lcL_pure b f l (acc ++ [f x]) (by simp; omega) fun y hy => h y (List.mem_cons_of_mem _ hy)]
      simp [hb]
    | false =>
      dsimp only
      rw [e3 hb]
      dsimp only
      rw [lcL_pure b f l acc (by omega) fun y hy => h y (List.mem_cons_of_mem _ hy)]
      simp [hb]
theorem lcL_map {vs : List Nat} {g : T → Sv} {te : Ev T} {ρ : Ro} (f : T → T) (l : List T) (hl : l.length ≤ 1000000)
    (h : ∀ x ∈ l, ∃ ρ1, g x ρ = .nx ρ1 ∧ ∃ ρ3, te ρ1 = .ok (f x) ρ3 ∧ wipeO vs ρ3 = some ρ) : lcL vs g mYes te l [] ρ = .ok (l.map f) ρ := by
  rw [lcL_pure (fun _ => true) f l [] (by simpa using hl) fun x hx => by
    obtain ⟨ρ1, e1, ρ3, e3, e4⟩ := h x hx
    exact ⟨ρ1, e1, ρ1, rfl, (fun z => by cases z), fun _ => ⟨ρ3, e3, e4⟩⟩]
  rw [List.filter_eq_self.mpr fun _ _ => rfl, List.nil_append]
/-- a for whose turns all go on -/
theorem forL_inv {g : T → Sv} {b : Sv} (I : Ro → Prop) : ∀ (l : List T) {ρ : Ro}, I ρ → (∀ x ∈ l, ∀ ρ, I ρ → ∃ ρ', sSeq (g x) b ρ = .nx ρ' ∧ I ρ') → ∃ ρ', forL g b l ρ = .nx ρ' ∧ I ρ'
  | [], ρ, h, _ => ⟨ρ, rfl, h⟩
  | x :: l, ρ, h, k => by
    obtain ⟨ρ1, e1, h1⟩ := k x (List.mem_cons_self ..) ρ h
    obtain ⟨ρ2, e2, h2⟩ := forL_inv I l h1 fun y hy => k y (List.mem_cons_of_mem _ hy)
    refine ⟨ρ2, ?_, h2⟩
    unfold forL
    rw [e1]
    exact e2
theorem seq_nx {g h : Sv} {ρ ρ1 : Ro} (e : g ρ = .nx ρ1) : sSeq g h ρ = h ρ1 := by
  unfold sSeq
  rw [e]
theorem bind_ok {α β : Type} {f : Ev α} {g : α → Ev β} {ρ ρ1 : Ro} {a : α} (e : f ρ = .ok a ρ1) : Ev.bind f g ρ = g a ρ1 := by
  unfold Ev.bind
  rw [e]
end Tm
/-! how the combinators run -/
namespace Tm
open PySem PySem.Spec PyProof.Rows L2
theorem ap_mVar (i : Nat) (ρ : Ro) : mVar i ρ = (match ρ[i]? with | some (.im t) => .ok t ρ | _ => .st) := rfl
theorem ap_mC (t : T) (ρ : Ro) : mC t ρ = (.ok t ρ) := rfl
theorem ap_mOp (f : T → T → Option T) (a b : Ev T) (ρ : Ro) : mOp f a b ρ = (Ev.bind a (fun x => b.bind fun y => Ev.lift (f x y)) ρ) := rfl
theorem ap_mUn (f : T → Option T) (a : Ev T) (ρ : Ro) : mUn f a ρ = (Ev.bind a (fun x => Ev.lift (f x)) ρ) := rfl
theorem ap_mNil  (ρ : Ro) : mNil ρ = (.ok [] ρ) := rfl
theorem ap_mCons (a : Ev T) (r : Ev (List T)) (ρ : Ro) : mCons a r ρ = (Ev.bind a (fun x => r.bind fun xs => fun ρ => .ok (x :: xs) ρ) ρ) := rfl
theorem ap_mB (f : List T → Option T) (a : Ev (List T)) (ρ : Ro) : mB f a ρ = (Ev.bind a (fun xs => Ev.lift (f xs)) ρ) := rfl
theorem ap_mL (f : List T → Option (List T)) (a : Ev (List T)) (ρ : Ro) : mL f a ρ = (Ev.bind a (fun xs => Ev.lift (f xs)) ρ) := rfl
theorem ap_mNotT (a : Ev Bool) (ρ : Ro) : mNotT a ρ = (Ev.bind a (fun b => fun ρ => .ok (!b) ρ) ρ) := rfl
theorem ap_mAndT (a b : Ev Bool) (ρ : Ro) : mAndT a b ρ = (Ev.bind a (fun x => if x = true then b else fun ρ => .ok false ρ) ρ) := rfl
theorem ap_mOrT (a b : Ev Bool) (ρ : Ro) : mOrT a b ρ = (Ev.bind a (fun x => if x = true then fun ρ => .ok true ρ else b) ρ) := rfl
theorem ap_mIf (c : Ev Bool) (a b : Ev T) (ρ : Ro) : mIf c a b ρ = (Ev.bind c (fun x => if x = true then a else b) ρ) := rfl
theorem ap_mYes  (ρ : Ro) : mYes ρ = (.ok true ρ) := rfl
theorem ap_mNoPart  (ρ : Ro) : mNoPart ρ = (.ok none ρ) := rfl
theorem ap_sNext  (ρ : Ro) : sNext ρ = (.nx ρ) := rfl
theorem ap_sRet (f : Ev T) (ρ : Ro) : sRet f ρ = (ouE (f ρ) fun t ρ => .rt t ρ) := rfl
theorem ap_sExpr (f : Ev T) (ρ : Ro) : sExpr f ρ = (ouE (f ρ) fun _ ρ => .nx ρ) := rfl
theorem ap_sAsg (f : Ev T) (g : T → Sv) (ρ : Ro) : sAsg f g ρ = (ouE (f ρ) g) := rfl
theorem ap_sIf (c : Ev Bool) (g h : Sv) (ρ : Ro) : sIf c g h ρ = (ouE (c ρ) fun b => if b = true then g else h) := rfl
theorem ap_sFor (fi : Ev (List T)) (g : T → Sv) (b : Sv) (ρ : Ro) : sFor fi g b ρ = (ouE (fi ρ) (forL g b)) := rfl
theorem ap_mCall (Fm : Ro → Re) (ds : List T) (fr : Ev (List T)) (ρ : Ro) : mCall Fm ds fr ρ = (Ev.bind fr (fun ts => callV Fm (ts ++ ds)) ρ) := rfl
theorem ap_mMake (Cn : Str) (Fm : Ro → Re) (ds : List T) (fr : Ev (List T)) (ρ : Ro) : mMake Cn Fm ds fr ρ = (Ev.bind fr (fun ts => mkV Cn Fm (ts ++ ds)) ρ) := rfl
theorem ap_mCm (C : Str) (Fm : Ro → Re) (fr : Ev (List T)) (ρ : Ro) : mCm C Fm fr ρ = (Ev.bind fr (fun ts => callV Fm (.cls C :: ts)) ρ) := rfl
theorem ap_mSl (fa : Ev T) (fl fu : Ev (Option Int)) (ρ : Ro) : mSl fa fl fu ρ = (Ev.bind fa (fun x => fl.bind fun lo => fu.bind fun hi => Ev.lift (oSl lo hi x)) ρ) := rfl
theorem ap_bind_ok {α β : Type} (f : Ev α) (g : α → Ev β) (ρ : Ro) : Ev.bind f g ρ = (match f ρ with | .ok a ρ1 => g a ρ1 | .ex c ns l ρ1 => .ex c ns l ρ1 | .st => .st) := rfl
theorem ap_lift {α : Type} (a : α) (ρ : Ro) : Ev.lift (some a) ρ = .ok a ρ := rfl
theorem ap_seq (g h : Sv) (ρ : Ro) : sSeq g h ρ = (match g ρ with | .nx ρ1 => h ρ1 | o => o) := rfl
theorem ap_mTst (a : Ev T) (ρ : Ro) : mTst a ρ = Ev.bind a (fun x => match x with | .bl b => fun ρ => .ok b ρ | _ => fun _ => .st) ρ := rfl
theorem ap_mAnd (a b : Ev T) (ρ : Ro) : mAnd a b ρ = Ev.bind a (fun x => match x with | .bl true => b | .bl false => fun ρ => .ok (.bl false) ρ | _ => fun _ => .st) ρ := rfl
theorem ap_mOr (a b : Ev T) (ρ : Ro) : mOr a b ρ = Ev.bind a (fun x => match x with | .bl true => fun ρ => .ok (.bl true) ρ | .bl false => b | _ => fun _ => .st) ρ := rfl
theorem ap_mNot (a : Ev T) (ρ : Ro) : mNot a ρ = Ev.bind a (fun x => match x with | .bl b => fun ρ => .ok (.bl (!b)) ρ | _ => fun _ => .st) ρ := rfl
theorem ap_mChain (f g : T → T → Option T) (a b c : Ev T) (ρ : Ro) : mChain f g a b c ρ = Ev.bind a (fun x => b.bind fun y => match f x y with | some (.bl true) => c.bind fun z => Ev.lift (g y z) | some (.bl false) => fun ρ => .ok (.bl false) ρ | _ => fun _ => .st) ρ := rfl
theorem ap_mPart (fa : Ev T) (ρ : Ro) : mPart fa ρ = Ev.bind fa (fun x => match x with | .int i => fun ρ => .ok (some i) ρ | _ => fun _ => .st) ρ := rfl
theorem ap_mSeqOf (a : Ev T) (ρ : Ro) : mSeqOf a ρ = Ev.bind a (fun x => match seqT x with | some l => fun ρ => .ok l ρ | none => fun _ => .st) ρ := by
  unfold mSeqOf
  congr 1
  funext x
  cases x <;> rfl
theorem ap_mSeqOfS (a : Ev T) (ρ : Ro) : mSeqOfS a ρ = Ev.bind a (fun x => match x with | .str z => fun ρ => .ok (z.cps.toList.map fun c => T.str ⟨#[c]⟩) ρ | _ => fun _ => .st) ρ := rfl
theorem ap_mTxt (f : T → T → Option T) (fa fb : Ev T) (ρ : Ro) : mTxt f fa fb ρ = Ev.bind fa (fun x => match x with | .str a => fb.bind fun y => Ev.lift (f (.str a) y) | _ => fun _ => .st) ρ := rfl
theorem ap_mStar (fa : Ev T) (fr : Ev (List T)) (ρ : Ro) : mStar fa fr ρ = Ev.bind fa (fun x => match seqT x with | some l => fr.bind fun m => fun ρ => .ok (l ++ m) ρ | none => fun _ => .st) ρ := rfl
theorem ap_mMeth (C m : Str) (Fm : Ro → Re) (ds : List T) (fa : Ev T) (fr : Ev (List T)) (ρ : Ro) : mMeth C m Fm ds fa fr ρ = Ev.bind fa (fun x => match x with | .obj C' ns l => if C' = C ∧ m ∉ ns then fr.bind fun ts => callV Fm (.obj C' ns l :: (ts ++ ds)) else fun _ => .st | _ => fun _ => .st) ρ := rfl
theorem ap_mEnum (fa : Ev T) (ρ : Ro) : mEnum fa ρ = Ev.bind fa (fun x => match seqT x with | some l => fun ρ => .ok (enT 0 l) ρ | none => fun _ => .st) ρ := rfl
theorem ap_mLc (vs : List Nat) (fi : Ev (List T)) (g : T → Sv) (tt : Ev Bool) (te : Ev T) (ρ : Ro) : mLc vs fi g tt te ρ = Ev.bind fi (fun l ρ1 => match wipeO vs ρ1 with | some ρ2 => (match lcL vs g tt te l [] ρ2 with | .ok acc ρ3 => .ok (.lst acc) (resto vs ρ1 ρ3) | _ => .st) | none => .st) ρ := rfl
theorem ap_mDc (vs : List Nat) (fi : Ev (List T)) (g : T → Sv) (tt : Ev Bool) (te tu : Ev T) (ρ : Ro) : mDc vs fi g tt te tu ρ = Ev.bind fi (fun l ρ1 => match wipeO vs ρ1 with | some ρ2 => (match dcL vs g tt te tu l [] ρ2 with | .ok acc ρ3 => .ok (.dK (acc.map (·.1)) (acc.map (·.2))) (resto vs ρ1 ρ3) | _ => .st) | none => .st) ρ := rfl
theorem ap_ite {α : Type} (c : Prop) [Decidable c] (f g : Ro → α) (ρ : Ro) : (if c then f else g) ρ = if c then f ρ else g ρ := by split <;> rfl
theorem ouE_ok {α : Type} (a : α) (ρ : Ro) (k : α → Sv) : ouE (.ok a ρ) k = k a ρ := rfl
theorem re_rt (as : Ro) (t : T) (ρ : Ro) : reA as (.rt t ρ) = match outA as ρ with | some as' => .ok t as' | none => .st := rfl
theorem re_nx (as : Ro) (ρ : Ro) : reA as (.nx ρ) = match outA as ρ with | some as' => .ok .non as' | none => .st := rfl
theorem bAll_map (bs : List Bool) : bAll [.lst (bs.map T.bl)] = some (.bl (bs.all id)) := by
  show (toB (bs.map T.bl)).map (fun bs => T.bl (bs.all id)) = _
  rw [toB_map]
  rfl
theorem bAny_map (bs : List Bool) : bAny [.lst (bs.map T.bl)] = some (.bl (bs.any id)) := by
  show (toB (bs.map T.bl)).map (fun bs => T.bl (bs.any id)) = _
  rw [toB_map]
  rfl
theorem bSrtI_map (ns : List Int) : bSrtI [.lst (ns.map T.int)] = some (.lst ((srtI ns).map T.int)) := by
  show (toI (ns.map T.int)).map (fun ns => T.lst ((srtI ns).map T.int)) = _
  rw [toI_map]
  rfl
theorem bLen_str {z : Str} (hz : z.length ≤ 1000000) : bLen [.str z] = some (.int z.length) := by
  show (if z.length ≤ 1000000 then some (T.int z.length) else none) = _
  rw [if_pos hz]
theorem bLen_lst (l : List T) : bLen [.lst l] = some (.int l.length) := rfl
theorem bLen_tup (l : List T) : bLen [.tup l] = some (.int l.length) := rfl
/-- trees of the data -/
def tvT : Option Int → T
  | none => .non
  | some n => .int n
def kindT (k : Kd) : T := match k.fm with
  | .still => .obj "Still" ["name", "days", "times"] [.str k.name, .int k.a, tvT k.times]
  | .anew => .obj "Anew" ["name", "left", "times"] [.str k.name, .int k.a, tvT k.times]
  | .lift => .obj "Lift" ["name", "by", "top", "times"] [.str k.name, .int k.a, .int k.b, tvT k.times]
def ruleT (R : Rl) : T := .obj "Rule" ["length", "rests", "cap", "kinds", "names"] [.int R.length, .tup (R.rests.map T.int), tvT R.cap, .tup (R.kinds.map kindT), .tup (R.kinds.map fun k => T.str k.name)]
/-- a kind as the laws tell it -/
def toldT (k : Kd) : T := .tup [.str k.fm.word, .str k.name, .int k.a, .int k.b, tvT k.times]
theorem mJs_cons {f : Ev T} {fs : List (Ev T)} {acc y : Str} {ρ ρ1 : Ro} (e : f ρ = .ok (.str y) ρ1) (h : (acc ++ y).length ≤ 1000000) : mJs (f :: fs) acc ρ = mJs fs (acc ++ y) ρ1 := by
  show Ev.bind f (fun x => match x with | .str y => if (acc ++ y).length ≤ 1000000 then mJs fs (acc ++ y) else fun _ => .st | _ => fun _ => .st) ρ = _
  rw [bind_ok e]
  dsimp only
  rw [if_pos h]
theorem ap_mJs (f : Ev T) (fs : List (Ev T)) (acc : Str) (ρ : Ro) : mJs (f :: fs) acc ρ = Ev.bind f (fun x => match x with | .str y => if (acc ++ y).length ≤ 1000000 then mJs fs (acc ++ y) else fun _ => .st | _ => fun _ => .st) ρ := rfl
theorem mJs_nil (acc : Str) (ρ : Ro) : mJs [] acc ρ = .ok (.str acc) ρ := rfl
theorem log_lt {n : Int} (h0 : 1 ≤ n) (h1 : n < 10 ^ 19) : n.natAbs.log2 < 1920 := Nat.lt_of_lt_of_le ((Nat.log2_lt (by omega)).mpr (by omega : n.natAbs < 2 ^ 64)) (by decide)
theorem log_lt0 {n : Int} (h0 : 0 ≤ n) (h1 : n < 10 ^ 19) : n.natAbs.log2 < 1920 := by
  by_cases h : n = 0
  · subst h
    decide
  · exact log_lt (by omega) h1
theorem bStr_num {n : Int} (h0 : 0 ≤ n) (h1 : n < 10 ^ 19) : bStr [.int n] = some (.str (numS n)) := by
  show (if n.natAbs.log2 < 1920 then some (T.str (toString n)) else none) = _
  rw [if_pos (log_lt0 h0 h1)]
  rfl
theorem uFmt_num {n : Int} (h0 : 0 ≤ n) (h1 : n < 10 ^ 19) : uFmt (.int n) = some (.str (numS n)) := by
  show (if n.natAbs.log2 < 1920 then some (T.str (toString n)) else none) = _
  rw [if_pos (log_lt0 h0 h1)]
  rfl
theorem uFmt_str {z : Str} (h : z.length ≤ 1000000) : uFmt (.str z) = some (.str z) := by
  show (if z.length ≤ 1000000 then some (T.str z) else none) = _
  rw [if_pos h]
theorem un_ok {f : T → Option T} {a : Ev T} {ρ ρ1 : Ro} {x y : T} (e : a ρ = .ok x ρ1) (h : f x = some y) : mUn f a ρ = .ok y ρ1 := by
  rw [ap_mUn, bind_ok e, h]
  rfl
theorem seqT_lst (l : List T) : seqT (.lst l) = some l := rfl
theorem seqT_tup (l : List T) : seqT (.tup l) = some l := rfl
theorem oJoin_map {a : Str} {ys : List Str} (h : (ys.map (·.length)).sum + ys.length * a.length ≤ 16777216) : oJoin (.str a) (.lst (ys.map T.str)) = some (.str (Txt.join a ys)) := by
  unfold oJoin
  dsimp only
  rw [seqT_lst, Option.bind_some, toS_map]
  dsimp only
  rw [if_pos h]
theorem oSplit_ok {a b : Str} (hb : b.length ≠ 0) (ha : a.length ≤ 1000000) : oSplit (.str a) (.str b) = some (.lst ((Txt.split a b).map T.str)) := by
  show (if b.length ≠ 0 ∧ a.length ≤ 1000000 then some (T.lst ((Txt.split a b).map T.str)) else none) = _
  rw [if_pos ⟨hb, ha⟩]
theorem Still_text (nm : Str) (a : Int) (tm : Option Int) : Str.empty ++ ("still " : Str) ++ nm ++ (" " : Str) ++ numS a ++ (" " : Str) ++ manyS tm = kindS ⟨.still, nm, a, 0, tm⟩ := by
  refine joins_eq ?_
  rw [tl_kindS]
  simp only [TL.tl_append, sp_tl, kindWs, if_neg (by decide : ¬ Fm.still = Fm.lift), List.cons_append, List.nil_append, List.append_nil, List.map_cons, List.map_nil, joinL_cons, TL.joinL, List.append_assoc]
  have e : TL.tl ("still " : Str) = TL.tl (Fm.still.word) ++ [32] := by decide +kernel
  have e0 : TL.tl Str.empty = [] := rfl
  rw [e, e0]
  simp only [List.append_assoc, List.nil_append, List.cons_append]
theorem Anew_text (nm : Str) (a : Int) (tm : Option Int) : Str.empty ++ ("anew " : Str) ++ nm ++ (" " : Str) ++ numS a ++ (" " : Str) ++ manyS tm = kindS ⟨.anew, nm, a, 0, tm⟩ := by
  refine joins_eq ?_
  rw [tl_kindS]
  simp only [TL.tl_append, sp_tl, kindWs, if_neg (by decide : ¬ Fm.anew = Fm.lift), List.cons_append, List.nil_append, List.append_nil, List.map_cons, List.map_nil, joinL_cons, TL.joinL, List.append_assoc]
  have e : TL.tl ("anew " : Str) = TL.tl (Fm.anew.word) ++ [32] := by decide +kernel
  have e0 : TL.tl Str.empty = [] := rfl
  rw [e, e0]
  simp only [List.append_assoc, List.nil_append, List.cons_append]
theorem Lift_text (nm : Str) (a b : Int) (tm : Option Int) : Str.empty ++ ("lift " : Str) ++ nm ++ (" " : Str) ++ numS a ++ (" " : Str) ++ numS b ++ (" " : Str) ++ manyS tm = kindS ⟨.lift, nm, a, b, tm⟩ := by
  refine joins_eq ?_
  rw [tl_kindS]
  simp only [TL.tl_append, sp_tl, kindWs, if_pos, List.cons_append, List.nil_append, List.append_nil, List.map_cons, List.map_nil, joinL_cons, TL.joinL, List.append_assoc]
  have e : TL.tl ("lift " : Str) = TL.tl (Fm.lift.word) ++ [32] := by decide +kernel
  have e0 : TL.tl Str.empty = [] := rfl
  rw [e, e0]
  simp only [List.append_assoc, List.nil_append, List.cons_append]
theorem fK_name (k : Kd) : fFldC ["Still", "Anew", "Lift"] "name" (kindT k) = some (.str k.name) := by
  unfold kindT
  cases k.fm <;> rfl
theorem fK_times (k : Kd) : fFldC ["Still", "Anew", "Lift"] "times" (kindT k) = some (tvT k.times) := by
  unfold kindT
  cases k.fm <;> rfl
theorem fK_days (n : Str) (a b : Int) (t : Option Int) : fFldC ["Still"] "days" (kindT ⟨.still, n, a, b, t⟩) = some (.int a) := rfl
theorem fK_left (n : Str) (a b : Int) (t : Option Int) : fFldC ["Anew"] "left" (kindT ⟨.anew, n, a, b, t⟩) = some (.int a) := rfl
theorem fK_by (n : Str) (a b : Int) (t : Option Int) : fFldC ["Lift"] "by" (kindT ⟨.lift, n, a, b, t⟩) = some (.int a) := rfl
theorem fK_top (n : Str) (a b : Int) (t : Option Int) : fFldC ["Lift"] "top" (kindT ⟨.lift, n, a, b, t⟩) = some (.int b) := rfl
theorem fR_length (R : Rl) : fFldC ["Rule"] "length" (ruleT R) = some (.int R.length) := rfl
theorem fR_rests (R : Rl) : fFldC ["Rule"] "rests" (ruleT R) = some (.tup (R.rests.map T.int)) := rfl
theorem fR_cap (R : Rl) : fFldC ["Rule"] "cap" (ruleT R) = some (tvT R.cap) := rfl
theorem fR_kinds (R : Rl) : fFldC ["Rule"] "kinds" (ruleT R) = some (.tup (R.kinds.map kindT)) := rfl
theorem fR_names (R : Rl) : fFldC ["Rule"] "names" (ruleT R) = some (.tup (R.kinds.map fun k => T.str k.name)) := rfl
theorem oSl_lst (lo hi : Option Int) (l : List T) : oSl lo hi (.lst l) = some (.lst (cutT l lo hi)) := rfl
theorem oSl_tup (lo hi : Option Int) (l : List T) : oSl lo hi (.tup l) = some (.tup (cutT l lo hi)) := rfl
theorem ap_sPar2 (i j : Nat) (fr : Ev (List T)) (ρ : Ro) : sPar2 i j fr ρ = ouE (fr ρ) fun l => match l with
  | [a, b] => sSeq (setIm i a) (setIm j b)
  | _ => fun _ => .st := rfl
theorem ap_sGive (i : Nat) (ρ : Ro) : sGive i ρ = (match ρ[i]? with
  | some (.ow (.lst l)) => .nx (ρ.set i (.im (.lst l)))
  | some (.ow (.dK ks l)) => .nx (ρ.set i (.im (.dK ks l)))
  | some (.ow (.dT ks l)) => .nx (ρ.set i (.im (.dT ks l)))
  | some (.ow (.obj C ns l)) => .nx (ρ.set i (.im (.obj C ns l)))
  | _ => .st) := rfl
theorem ap_sOwnL (i : Nat) (fr : Ev (List T)) (ρ : Ro) : sOwnL i fr ρ = ouE (fr ρ) fun l => if l.length ≤ 1000000 then setOw i (.lst l) else fun _ => .st := rfl
theorem ap_setOw (i : Nat) (t : T) (ρ : Ro) : setOw i t ρ = (match ρ[i]? with
  | some .un => .nx (ρ.set i (.ow t))
  | some (.im _) => .nx (ρ.set i (.ow t))
  | _ => .st) := rfl
theorem ap_sApp (i : Nat) (fa : Ev T) (ρ : Ro) : sApp i fa ρ = if isL i ρ = true then ouE (fa ρ) fun t => chL i fun l => if l.length < 1000000 then some (l ++ [t]) else none else .st := rfl
theorem ap_chL (i : Nat) (g : List T → Option (List T)) (ρ : Ro) : chL i g ρ = (match ρ[i]? with
  | some s => match s.tr with
    | some (.lst l) => match g l with
      | some l' => .nx (ρ.set i (s.up (.lst l')))
      | none => .st
    | _ => .st
  | none => .st) := rfl
theorem ap_gTupM (gs : List (T → Sv)) (l : List T) (ρ : Ro) : gTupM gs (.tup l) ρ = gTup gs l ρ := rfl
theorem ap_gTup0 (ρ : Ro) : gTup [] [] ρ = .nx ρ := rfl
theorem ap_gTup (g : T → Sv) (gs : List (T → Sv)) (t : T) (l : List T) (ρ : Ro) : gTup (g :: gs) (t :: l) ρ = sSeq (g t) (gTup gs l) ρ := rfl
theorem ap_mMkL (i : Nat) (Cn : Str) (Fm : Ro → Re) (ds : List T) (fr : Ev (List T)) (ρ : Ro) (e : ρ[i]? = some (.im (.cls Cn))) : mMkL i Cn Fm ds fr ρ = mMake Cn Fm ds fr ρ := by
  unfold mMkL
  rw [e]
  dsimp only
  rw [if_pos rfl]
theorem v_lt (i j : Int) : oLt (.int i) (.int j) = some (.bl (decide (i < j))) := rfl
theorem v_le (i j : Int) : oLe (.int i) (.int j) = some (.bl (decide (i ≤ j))) := rfl
theorem v_gt (i j : Int) : oGt (.int i) (.int j) = some (.bl (decide (j < i))) := rfl
theorem v_ge (i j : Int) : oGe (.int i) (.int j) = some (.bl (decide (j ≤ i))) := rfl
theorem v_sub (i j : Int) : oSub (.int i) (.int j) = some (.int (i - j)) := rfl
theorem v_add (i j : Int) : oAdd (.int i) (.int j) = some (.int (i + j)) := rfl
theorem v_isN0 : oIsN .non .non = some (.bl true) := rfl
theorem v_isNi (i : Int) : oIsN (.int i) .non = some (.bl false) := rfl
theorem v_isNs (i : Str) : oIsN (.str i) .non = some (.bl false) := rfl
theorem v_isNt (l : List T) : oIsN (.tup l) .non = some (.bl false) := rfl
theorem v_notN0 : oNotN .non .non = some (.bl false) := rfl
theorem v_notNi (i : Int) : oNotN (.int i) .non = some (.bl true) := rfl
theorem v_neg (i : Int) : uNeg (.int i) = some (.int (-i)) := rfl
theorem v_int (i : Int) : bInt [.int i] = some (.int i) := rfl
theorem v_tupL (l : List T) : bTuple [.lst l] = some (.tup l) := rfl
theorem v_tupT (l : List T) : bTuple [.tup l] = some (.tup l) := rfl
theorem v_eqs (a b : Str) : oEq (.str a) (.str b) = some (.bl (decide (a = b))) := rfl
theorem v_nes (a b : Str) : oNe (.str a) (.str b) = some (.bl (!decide (a = b))) := rfl
theorem v_eqi (a b : Int) : oEq (.int a) (.int b) = some (.bl (decide (a = b))) := rfl
theorem v_nei (a b : Int) : oNe (.int a) (.int b) = some (.bl (!decide (a = b))) := rfl
theorem ap_mCallR (i : Nat) (Fm : Ro → Re) (ds : List T) (fr : Ev (List T)) (ρ : Ro) : mCallR i Fm ds fr ρ = if isO i ρ = true then Ev.bind fr (fun ts => callR i Fm (ts ++ ds)) ρ else .st := rfl
theorem ap_callR (i : Nat) (Fm : Ro → Re) (ts : List T) (ρ : Ro) : callR i Fm ts ρ = (match ρ[i]? with
  | some s => match s.tr with
    | some t0 => match Fm (.rf t0 :: ts.map .im) with
      | .ok t (.rf t' :: _) => .ok t (ρ.set i (s.up t'))
      | .ex c ns l (.rf t' :: _) => .ex c ns l (ρ.set i (s.up t'))
      | _ => .st
    | none => .st
  | none => .st) := rfl
theorem ap_mOpS (f : T → T → Option T) (i : Nat) (fb : Ev T) (ρ : Ro) : mOpS f i fb ρ = (match (ρ[i]?).bind Sl.any with
  | some _ => Ev.bind fb (fun y ρ1 => match (ρ1[i]?).bind Sl.any with
    | some t => if notDeal t = true then (match f t y with
      | some z => if scaT z = true then .ok z ρ1 else .st
      | none => .st) else .st
    | none => .st) ρ
  | none => .st) := rfl
theorem ap_mLenS (i : Nat) (ρ : Ro) : mLenS i ρ = (match (ρ[i]?).bind Sl.any with
  | some (.lst l) => .ok (.int l.length) ρ
  | some (.tup l) => .ok (.int l.length) ρ
  | _ => .st) := rfl
theorem ap_mPopS (i : Nat) (fa : Ev T) (ρ : Ro) : mPopS i fa ρ = if isL i ρ = true then Ev.bind fa (fun t ρ => match t, ρ[i]? with
  | .int j, some s => match s.tr with
    | some (.lst l) => match seqIndex? j l.length with
      | some k => match l[k]? with
        | some u => if -(2 ^ 63) ≤ j ∧ j < 2 ^ 63 then .ok u (ρ.set i (s.up (.lst (l.eraseIdx k)))) else .st
        | none => .st
      | none => .st
    | _ => .st
  | _, _ => .st) ρ else .st := rfl
theorem ap_sParLN (i j : Nat) (fa : Ev T) (ρ : Ro) : sParLN i j fa ρ = ouE (fa ρ) fun t => match seqT t with
  | some l => sSeq (setOw i (.lst l)) (setOw j (.lst []))
  | none => fun _ => .st := rfl
theorem wh_stop {c : Ev Bool} {b : Sv} {ρ ρ1 : Ro} (e : c ρ = .ok false ρ1) : ∃ n, whN c b n ρ = some (.nx ρ1) := ⟨1, by
  unfold whN
  rw [e]⟩
theorem wh_step {c : Ev Bool} {b : Sv} {ρ ρ1 ρ2 : Ro} {o : Ou} (e : c ρ = .ok true ρ1) (e2 : b ρ1 = .nx ρ2) (h : ∃ n, whN c b n ρ2 = some o) : ∃ n, whN c b n ρ = some o := by
  obtain ⟨n, h⟩ := h
  refine ⟨n + 1, ?_⟩
  unfold whN
  rw [e]
  dsimp only
  rw [e2]
  exact h
theorem wh_eq {c : Ev Bool} {b : Sv} {ρ : Ro} {o : Ou} (h : ∃ n, whN c b n ρ = some o) : sWhile c b ρ = o := by
  obtain ⟨n, h⟩ := h
  exact sWhile_eq h
end Tm

namespace Tm
open PySem PySem.Spec PyProof.Rows L2
local macro_rules | `(tactic| walk_at "mir") => `(tactic| simp only [ap_mVar, ap_mC, ap_mOp, ap_mUn, ap_mNil, ap_mCons, ap_mB, ap_mL, ap_mNotT, ap_mAndT, ap_mOrT, ap_mIf, ap_mYes, ap_mNoPart, ap_sNext, ap_sRet, ap_sExpr, ap_sAsg, ap_sIf, ap_sFor, ap_mCall, ap_mMake, ap_mCm, ap_mSl, ap_bind_ok, ap_lift, ap_seq, ap_mTst, ap_mAnd, ap_mOr, ap_mNot, ap_mChain, ap_mPart, ap_mSeqOf, ap_mSeqOfS, ap_mTxt, ap_mStar, ap_mMeth, ap_mEnum, ap_mLc, ap_mDc, ap_ite, ouE_ok, re_rt, re_nx, runF, outA, setIm, callV, mFldS, fK_name, fK_times, fK_days, fK_left, fK_by, fK_top, fR_length, fR_rests, fR_cap, fR_kinds, fR_names, ap_mJs, mJs_nil, sFldS, putN, Sl.any, Sl.tr, Sl.up, wipeO, resto, fTup, fLst, v_lt, v_le, v_gt, v_ge, v_sub, v_add, nix, if_true, if_false, ite_true, ite_false, reduceIte, Bool.false_eq_true, Bool.not_true, Bool.not_false, Bool.true_eq_false, Option.bind_some, Option.map_some, Option.bind_none, Option.map_none, List.map_cons, List.map_nil, List.cons_append, List.nil_append, List.append_nil, List.length_cons, List.length_nil, List.getElem?_cons_zero, List.getElem?_cons_succ, List.set_cons_zero, List.set_cons_succ, List.replicate_succ, List.replicate_zero, Nat.reduceAdd, Nat.reduceSub, Nat.reduceLeDiff, List.mapIdx_cons, List.mapIdx_nil, List.mem_cons, List.not_mem_nil, or_false, false_or, or_self, or_true, List.getD_cons_zero, List.getD_cons_succ, Nat.reduceEqDiff, Nat.zero_ne_one, Nat.one_ne_zero, reduceCtorEq, ap_sPar2, ap_sGive, ap_sOwnL, ap_setOw, ap_sApp, isL, ap_chL, ap_gTupM, ap_gTup0, ap_gTup, ap_mCallR, ap_callR, isO, ap_mOpS, ap_mLenS, ap_mPopS, ap_sParLN, notDeal, scaT, Option.isSome_some, seqT_lst, seqT_tup, true_and, and_true, Nat.reduceLT, Nat.lt_add_one, and_self])
local macro_rules | `(tactic| walk_at "js") => `(tactic| (rw [if_pos (by simp only [len_app]; omega)]; try walk_at "mir"))
local macro_rules | `(tactic| walk_at "mih") => `(tactic| simp only [ap_mVar, ap_mC, ap_mOp, ap_mUn, ap_mNil, ap_mCons, ap_mB, ap_mL, ap_mNotT, ap_mAndT, ap_mOrT, ap_mIf, ap_mYes, ap_mNoPart, ap_sNext, ap_sRet, ap_sExpr, ap_sAsg, ap_sIf, ap_sFor, ap_mCall, ap_mMake, ap_mCm, ap_mSl, ap_bind_ok, ap_lift, ap_seq, ap_mTst, ap_mAnd, ap_mOr, ap_mNot, ap_mChain, ap_mPart, ap_mSeqOf, ap_mSeqOfS, ap_mTxt, ap_mStar, ap_mMeth, ap_mEnum, ap_mLc, ap_mDc, ap_ite, ouE_ok, re_rt, re_nx, runF, outA, setIm, callV, mFldS, fK_name, fK_times, fK_days, fK_left, fK_by, fK_top, fR_length, fR_rests, fR_cap, fR_kinds, fR_names, ap_mJs, mJs_nil, sFldS, putN, Sl.any, Sl.tr, Sl.up, wipeO, resto, fTup, fLst, v_lt, v_le, v_gt, v_ge, v_sub, v_add, nix, if_true, if_false, ite_true, ite_false, reduceIte, Bool.false_eq_true, Bool.not_true, Bool.not_false, Bool.true_eq_false, Option.bind_some, Option.map_some, Option.bind_none, Option.map_none, List.map_cons, List.map_nil, List.cons_append, List.nil_append, List.append_nil, List.length_cons, List.length_nil, List.getElem?_cons_zero, List.getElem?_cons_succ, List.set_cons_zero, List.set_cons_succ, List.replicate_succ, List.replicate_zero, Nat.reduceAdd, Nat.reduceSub, Nat.reduceLeDiff, List.mapIdx_cons, List.mapIdx_nil, List.mem_cons, List.not_mem_nil, or_false, false_or, or_self, or_true, List.getD_cons_zero, List.getD_cons_succ, Nat.reduceEqDiff, Nat.zero_ne_one, Nat.one_ne_zero, reduceCtorEq, ap_sPar2, ap_sGive, ap_sOwnL, ap_setOw, ap_sApp, isL, ap_chL, ap_gTupM, ap_gTup0, ap_gTup, ap_mCallR, ap_callR, isO, ap_mOpS, ap_mLenS, ap_mPopS, ap_sParLN, notDeal, scaT, Option.isSome_some, seqT_lst, seqT_tup, true_and, and_true, Nat.reduceLT, Nat.lt_add_one, and_self, decide_true, decide_false, bLen_lst, bLen_tup, oSl_lst, oSl_tup, v_isN0, v_isNi, v_isNs, v_isNt, v_notN0, v_notNi, v_neg, v_int, v_tupL, v_tupT, v_eqs, v_nes, v_eqi, v_nei, *])
local macro_rules | `(tactic| walk_at "ro") => `(tactic| simp only [runF, List.length_cons, List.length_nil, Nat.reduceAdd, Nat.reduceSub, if_true, reduceIte, List.replicate_succ, List.replicate_zero, List.cons_append, List.nil_append, List.set_cons_zero, List.set_cons_succ])

end Tm

namespace Tm
open PySem PySem.Spec PyProof.Rows L2
def top (i : Nat) : Stmt := PySem.Challenge.pw_termstill_k08_texts_of_rules.main.body.getD i (.Pass ⟨0, 0, 0, 0⟩)
abbrev s_is_integer : Stmt := top 13
abbrev s_is_length : Stmt := top 14
abbrev s_is_name : Stmt := top 15
abbrev s_is_sequence : Stmt := top 16
abbrev s_number_in : Stmt := top 17
abbrev s_Kind_read : Stmt := inClass (top 19) 0
abbrev s_Kind___eq__ : Stmt := inClass (top 19) 1
abbrev s_need : Stmt := top 20
abbrev s_is_many : Stmt := top 21
abbrev s_many_text : Stmt := top 22
abbrev s_Still___init__ : Stmt := inClass (top 23) 0
abbrev s_Still___str__ : Stmt := inClass (top 23) 1
abbrev s_Anew___init__ : Stmt := inClass (top 24) 0
abbrev s_Anew___str__ : Stmt := inClass (top 24) 1
abbrev s_Lift___init__ : Stmt := inClass (top 25) 0
abbrev s_Lift___str__ : Stmt := inClass (top 25) 1
abbrev s_told_by : Stmt := top 27
abbrev s_made_of : Stmt := top 28
abbrev s_are_rests : Stmt := top 32
abbrev s_are_kinds : Stmt := top 33
abbrev s_head_in : Stmt := top 34
abbrev s_Rule___init__ : Stmt := inClass (top 35) 0
abbrev s_Rule_read : Stmt := inClass (top 35) 1
abbrev s_Rule___eq__ : Stmt := inClass (top 35) 8
abbrev s_Rule___str__ : Stmt := inClass (top 35) 9
abbrev s__law_deal : Stmt := top 37
abbrev s__law_draw : Stmt := top 38
abbrev s__law_pick : Stmt := top 39
abbrev s__law_mixed : Stmt := top 40
abbrev s__law_names : Stmt := top 41
abbrev s__law_kind : Stmt := top 42
abbrev s__law_rule : Stmt := top 43
abbrev s__law_kind_text : Stmt := top 44
abbrev s__law_text : Stmt := top 45
abbrev s__law_kind_made : Stmt := top 46
abbrev s_law : Stmt := top 47
def d_is_integer : He5.DefA := ⟨fun K => He.ga K "is_integer", "is_integer", "is_integer", defArgs s_is_integer, defBody s_is_integer, defScope s_is_integer, [], []⟩
def d_is_length : He5.DefA := ⟨fun K => He.ga K "is_length", "is_length", "is_length", defArgs s_is_length, defBody s_is_length, defScope s_is_length, [], []⟩
def d_is_name : He5.DefA := ⟨fun K => He.ga K "is_name", "is_name", "is_name", defArgs s_is_name, defBody s_is_name, defScope s_is_name, [], []⟩
def d_is_sequence : He5.DefA := ⟨fun K => He.ga K "is_sequence", "is_sequence", "is_sequence", defArgs s_is_sequence, defBody s_is_sequence, defScope s_is_sequence, [], []⟩
def d_number_in : He5.DefA := ⟨fun K => He.ga K "number_in", "number_in", "number_in", defArgs s_number_in, defBody s_number_in, defScope s_number_in, [], []⟩
def d_Kind_read : He5.DefA := ⟨fun K => He5.wf K (He.ga K "Kind") "classmethod" "read", "read", "Kind.read", defArgs s_Kind_read, defBody s_Kind_read, defScope s_Kind_read, [], []⟩
def d_Kind___eq__ : He5.DefA := ⟨fun K => He.ma K (He.ga K "Kind") "__eq__", "__eq__", "Kind.__eq__", defArgs s_Kind___eq__, defBody s_Kind___eq__, defScope s_Kind___eq__, [], []⟩
def d_need : He5.DefA := ⟨fun K => He.ga K "need", "need", "need", defArgs s_need, defBody s_need, defScope s_need, [], []⟩
def d_is_many : He5.DefA := ⟨fun K => He.ga K "is_many", "is_many", "is_many", defArgs s_is_many, defBody s_is_many, defScope s_is_many, [], []⟩
def d_many_text : He5.DefA := ⟨fun K => He.ga K "many_text", "many_text", "many_text", defArgs s_many_text, defBody s_many_text, defScope s_many_text, [], []⟩
def d_Still___init__ : He5.DefA := ⟨fun K => He.ma K (He.ga K "Still") "__init__", "__init__", "Still.__init__", defArgs s_Still___init__, defBody s_Still___init__, defScope s_Still___init__, [.non], []⟩
def d_Still___str__ : He5.DefA := ⟨fun K => He.ma K (He.ga K "Still") "__str__", "__str__", "Still.__str__", defArgs s_Still___str__, defBody s_Still___str__, defScope s_Still___str__, [], []⟩
def d_Anew___init__ : He5.DefA := ⟨fun K => He.ma K (He.ga K "Anew") "__init__", "__init__", "Anew.__init__", defArgs s_Anew___init__, defBody s_Anew___init__, defScope s_Anew___init__, [.non], []⟩
def d_Anew___str__ : He5.DefA := ⟨fun K => He.ma K (He.ga K "Anew") "__str__", "__str__", "Anew.__str__", defArgs s_Anew___str__, defBody s_Anew___str__, defScope s_Anew___str__, [], []⟩
def d_Lift___init__ : He5.DefA := ⟨fun K => He.ma K (He.ga K "Lift") "__init__", "__init__", "Lift.__init__", defArgs s_Lift___init__, defBody s_Lift___init__, defScope s_Lift___init__, [.non], []⟩
def d_Lift___str__ : He5.DefA := ⟨fun K => He.ma K (He.ga K "Lift") "__str__", "__str__", "Lift.__str__", defArgs s_Lift___str__, defBody s_Lift___str__, defScope s_Lift___str__, [], []⟩
def d_told_by : He5.DefA := ⟨fun K => He.ga K "told_by", "told_by", "told_by", defArgs s_told_by, defBody s_told_by, defScope s_told_by, [], []⟩
def d_made_of : He5.DefA := ⟨fun K => He.ga K "made_of", "made_of", "made_of", defArgs s_made_of, defBody s_made_of, defScope s_made_of, [], []⟩
def d_are_rests : He5.DefA := ⟨fun K => He.ga K "are_rests", "are_rests", "are_rests", defArgs s_are_rests, defBody s_are_rests, defScope s_are_rests, [], []⟩
def d_are_kinds : He5.DefA := ⟨fun K => He.ga K "are_kinds", "are_kinds", "are_kinds", defArgs s_are_kinds, defBody s_are_kinds, defScope s_are_kinds, [], []⟩
def d_head_in : He5.DefA := ⟨fun K => He.ga K "head_in", "head_in", "head_in", defArgs s_head_in, defBody s_head_in, defScope s_head_in, [], []⟩
def d_Rule___init__ : He5.DefA := ⟨fun K => He.ma K (He.ga K "Rule") "__init__", "__init__", "Rule.__init__", defArgs s_Rule___init__, defBody s_Rule___init__, defScope s_Rule___init__, [.adr (emptyDfl (fun K => He.ma K (He.ga K "Rule") "__init__") 0), .non, .adr (emptyDfl (fun K => He.ma K (He.ga K "Rule") "__init__") 2)], []⟩
def d_Rule_read : He5.DefA := ⟨fun K => He5.wf K (He.ga K "Rule") "classmethod" "read", "read", "Rule.read", defArgs s_Rule_read, defBody s_Rule_read, defScope s_Rule_read, [], []⟩
def d_Rule___eq__ : He5.DefA := ⟨fun K => He.ma K (He.ga K "Rule") "__eq__", "__eq__", "Rule.__eq__", defArgs s_Rule___eq__, defBody s_Rule___eq__, defScope s_Rule___eq__, [], []⟩
def d_Rule___str__ : He5.DefA := ⟨fun K => He.ma K (He.ga K "Rule") "__str__", "__str__", "Rule.__str__", defArgs s_Rule___str__, defBody s_Rule___str__, defScope s_Rule___str__, [], []⟩
def d__law_deal : He5.DefA := ⟨fun K => He.ga K "_law_deal", "_law_deal", "_law_deal", defArgs s__law_deal, defBody s__law_deal, defScope s__law_deal, [], []⟩
def d__law_draw : He5.DefA := ⟨fun K => He.ga K "_law_draw", "_law_draw", "_law_draw", defArgs s__law_draw, defBody s__law_draw, defScope s__law_draw, [], []⟩
def d__law_pick : He5.DefA := ⟨fun K => He.ga K "_law_pick", "_law_pick", "_law_pick", defArgs s__law_pick, defBody s__law_pick, defScope s__law_pick, [], []⟩
def d__law_mixed : He5.DefA := ⟨fun K => He.ga K "_law_mixed", "_law_mixed", "_law_mixed", defArgs s__law_mixed, defBody s__law_mixed, defScope s__law_mixed, [], []⟩
def d__law_names : He5.DefA := ⟨fun K => He.ga K "_law_names", "_law_names", "_law_names", defArgs s__law_names, defBody s__law_names, defScope s__law_names, [], []⟩
def d__law_kind : He5.DefA := ⟨fun K => He.ga K "_law_kind", "_law_kind", "_law_kind", defArgs s__law_kind, defBody s__law_kind, defScope s__law_kind, [], []⟩
def d__law_rule : He5.DefA := ⟨fun K => He.ga K "_law_rule", "_law_rule", "_law_rule", defArgs s__law_rule, defBody s__law_rule, defScope s__law_rule, [], []⟩
def d__law_kind_text : He5.DefA := ⟨fun K => He.ga K "_law_kind_text", "_law_kind_text", "_law_kind_text", defArgs s__law_kind_text, defBody s__law_kind_text, defScope s__law_kind_text, [], []⟩
def d__law_text : He5.DefA := ⟨fun K => He.ga K "_law_text", "_law_text", "_law_text", defArgs s__law_text, defBody s__law_text, defScope s__law_text, [], []⟩
def d__law_kind_made : He5.DefA := ⟨fun K => He.ga K "_law_kind_made", "_law_kind_made", "_law_kind_made", defArgs s__law_kind_made, defBody s__law_kind_made, defScope s__law_kind_made, [], []⟩
def d_law : He5.DefA := ⟨fun K => He.ga K "law", "law", "law", defArgs s_law, defBody s_law, defScope s_law, [], []⟩
def fn : List He5.DefA := [d_is_integer, d_is_length, d_is_name, d_is_sequence, d_number_in, d_Kind_read, d_Kind___eq__, d_need, d_is_many, d_many_text, d_Still___init__, d_Still___str__, d_Anew___init__, d_Anew___str__, d_Lift___init__, d_Lift___str__, d_told_by, d_made_of, d_are_rests, d_are_kinds, d_head_in, d_Rule___init__, d_Rule_read, d_Rule___eq__, d_Rule___str__, d__law_deal, d__law_draw, d__law_pick, d__law_mixed, d__law_names, d__law_kind, d__law_rule, d__law_kind_text, d__law_text, d__law_kind_made, d_law]
def fa : List He.Fa := ([.glo "law", .free "isinstance", .free "int", .free "bool", .glo "is_integer", .free "all", .glo "BARRED", .free "str", .int "MOST_LETTERS" 4, .str "LETTERS" "abcdefghijklmnopqrstuvwxyz", .free "len", .free "list", .free "tuple", .int "MOST_SIGNS" 19, .str "SIGNS" "0123456789", .free "classmethod", .glo "told_by", .glo "InvalidKind", .glo "InvalidText", .glo "made_of"] : List He.Fa) ++ ([.glo "Kind", .glo "is_length", .glo "need", .glo "is_name", .glo "is_many", .glo "many_text", .glo "FORMS", .glo "number_in", .glo "Lift", .glo "Still", .glo "Anew", .int "MOST_RESTS" 6, .glo "is_sequence", .free "set", .int "WEEK" 7, .glo "InvalidRule", .glo "are_rests", .glo "are_kinds", .free "sorted", .glo "head_in"] : List He.Fa) ++ ([.free "enumerate", .glo "Rule", .free "abs", .glo "_law_draw", .glo "_law_mixed", .glo "_law_pick", .glo "_law_names", .glo "_law_kind", .free "min", .free "range", .glo "_law_kind_text", .glo "_law_deal", .glo "_law_rule", .glo "_law_text", .glo "_law_kind_made", .cls "Kind", .meth "Kind" "__eq__", .cls "Still", .mkr "Still", .noat "Still" "name"] : List He.Fa) ++ ([.noat "Still" "days", .noat "Still" "times", .meth "Still" "__init__", .meth "Still" "__str__", .cls "Anew", .mkr "Anew", .noat "Anew" "name", .noat "Anew" "left", .noat "Anew" "times", .meth "Anew" "__init__", .meth "Anew" "__str__", .cls "Lift", .mkr "Lift", .noat "Lift" "name", .noat "Lift" "by", .noat "Lift" "top", .noat "Lift" "times", .meth "Lift" "__init__", .meth "Lift" "__str__", .cls "Rule"] : List He.Fa) ++ ([.mkr "Rule", .noat "Rule" "length", .noat "Rule" "rests", .noat "Rule" "cap", .noat "Rule" "kinds", .noat "Rule" "names", .meth "Rule" "__init__", .meth "Rule" "__eq__", .meth "Rule" "__str__"] : List He.Fa)
def exs : List (PySem.W.Frag → Bool) := [fun K => tupAtB K (emptyDfl (fun K => He.ma K (He.ga K "Rule") "__init__") 0 K) [], fun K => tupAtB K (emptyDfl (fun K => He.ma K (He.ga K "Rule") "__init__") 2 K) [], fun K => tupAtB K (He.ga K "BARRED") [.str "any", .str "none", .str "anew", .str "lift", .str "term"], fun K => ownB K (He.ga K "Kind"), fun K => ownB K (He.ga K "Still"), fun K => ownB K (He.ga K "Anew"), fun K => ownB K (He.ga K "Lift"), fun K => ownB K (He.ga K "Rule"), fun K => bltB K (He.ga K "Kind"), fun K => subB K (He.ga K "Kind") (He.ga K "Kind") true, fun K => subB K (He.ga K "Still") (He.ga K "Kind") true, fun K => subB K (He.ga K "Anew") (He.ga K "Kind") true, fun K => subB K (He.ga K "Lift") (He.ga K "Kind") true, fun K => subB K (He.ga K "Rule") (He.ga K "Kind") false, fun K => bltB K (He.ga K "Rule"), fun K => subB K (He.ga K "Kind") (He.ga K "Rule") false, fun K => subB K (He.ga K "Still") (He.ga K "Rule") false, fun K => subB K (He.ga K "Anew") (He.ga K "Rule") false, fun K => subB K (He.ga K "Lift") (He.ga K "Rule") false, fun K => subB K (He.ga K "Rule") (He.ga K "Rule") true, fun K => He.valsB K (He.ga K "FORMS") [("still", .int 4), ("anew", .int 4), ("lift", .int 5)], fun K => spmB K (He.ga K "Kind") "__eq__" (He.ma K (He.ga K "Kind") "__eq__"), fun K => neB K (He.ga K "Kind"), fun K => nfB K (He.ga K "Kind"), fun K => PySem.W.notFirst K (He.ga K "Kind") (.ref (He.ga K "Kind")), fun K => PySem.W.notFirst K (He.ga K "Kind") (.ref (He.ga K "Rule")), fun K => spmB K (He.ga K "Still") "__eq__" (He.ma K (He.ga K "Kind") "__eq__"), fun K => neB K (He.ga K "Still"), fun K => nfB K (He.ga K "Still"), fun K => PySem.W.notFirst K (He.ga K "Still") (.ref (He.ga K "Kind")), fun K => PySem.W.notFirst K (He.ga K "Still") (.ref (He.ga K "Still")), fun K => PySem.W.notFirst K (He.ga K "Still") (.ref (He.ga K "Anew")), fun K => PySem.W.notFirst K (He.ga K "Still") (.ref (He.ga K "Lift")), fun K => PySem.W.notFirst K (He.ga K "Still") (.ref (He.ga K "Rule")), fun K => spmB K (He.ga K "Anew") "__eq__" (He.ma K (He.ga K "Kind") "__eq__"), fun K => neB K (He.ga K "Anew"), fun K => nfB K (He.ga K "Anew"), fun K => PySem.W.notFirst K (He.ga K "Anew") (.ref (He.ga K "Kind")), fun K => PySem.W.notFirst K (He.ga K "Anew") (.ref (He.ga K "Still")), fun K => PySem.W.notFirst K (He.ga K "Anew") (.ref (He.ga K "Anew")), fun K => PySem.W.notFirst K (He.ga K "Anew") (.ref (He.ga K "Lift")), fun K => PySem.W.notFirst K (He.ga K "Anew") (.ref (He.ga K "Rule")), fun K => spmB K (He.ga K "Lift") "__eq__" (He.ma K (He.ga K "Kind") "__eq__"), fun K => neB K (He.ga K "Lift"), fun K => nfB K (He.ga K "Lift"), fun K => PySem.W.notFirst K (He.ga K "Lift") (.ref (He.ga K "Kind")), fun K => PySem.W.notFirst K (He.ga K "Lift") (.ref (He.ga K "Still")), fun K => PySem.W.notFirst K (He.ga K "Lift") (.ref (He.ga K "Anew")), fun K => PySem.W.notFirst K (He.ga K "Lift") (.ref (He.ga K "Lift")), fun K => PySem.W.notFirst K (He.ga K "Lift") (.ref (He.ga K "Rule")), fun K => spmB K (He.ga K "Rule") "__eq__" (He.ma K (He.ga K "Rule") "__eq__"), fun K => neB K (He.ga K "Rule"), fun K => nfB K (He.ga K "Rule"), fun K => PySem.W.notFirst K (He.ga K "Rule") (.ref (He.ga K "Kind")), fun K => PySem.W.notFirst K (He.ga K "Rule") (.ref (He.ga K "Still")), fun K => PySem.W.notFirst K (He.ga K "Rule") (.ref (He.ga K "Anew")), fun K => PySem.W.notFirst K (He.ga K "Rule") (.ref (He.ga K "Lift")), fun K => PySem.W.notFirst K (He.ga K "Rule") (.ref (He.ga K "Rule")), fun K => cmB K (He.ga K "Kind") "read", fun K => cmB K (He.ga K "Rule") "read", fun K => keysB K (He.ga K "FORMS") ["still", "anew", "lift"]]
def ex (K : PySem.W.Frag) : Bool := exs.all fun t => t K
def tabs : List He.Tab := [(fun K => He.ga K "FORMS", ["still", "anew", "lift"])]
structure Env (K : PySem.W.Frag) (mg : Str → Option Value) (w : World) : Prop where
  g_law : mg "law" = some (.ref (He.ga K "law"))
  g_isinstance : mg "isinstance" = none
  g_int : mg "int" = none
  g_bool : mg "bool" = none
  g_is_integer : mg "is_integer" = some (.ref (He.ga K "is_integer"))
  g_all : mg "all" = none
  g_BARRED : mg "BARRED" = some (.ref (He.ga K "BARRED"))
  g_str : mg "str" = none
  g_MOST_LETTERS : ∃ t, mg "MOST_LETTERS" = some (.int 4 t)
  g_LETTERS : ∃ t, mg "LETTERS" = some (.str "abcdefghijklmnopqrstuvwxyz" t)
  g_len : mg "len" = none
  g_list : mg "list" = none
  g_tuple : mg "tuple" = none
  g_MOST_SIGNS : ∃ t, mg "MOST_SIGNS" = some (.int 19 t)
  g_SIGNS : ∃ t, mg "SIGNS" = some (.str "0123456789" t)
  g_classmethod : mg "classmethod" = none
  g_told_by : mg "told_by" = some (.ref (He.ga K "told_by"))
  g_InvalidKind : mg "InvalidKind" = some (.ref (He.ga K "InvalidKind"))
  g_InvalidText : mg "InvalidText" = some (.ref (He.ga K "InvalidText"))
  g_made_of : mg "made_of" = some (.ref (He.ga K "made_of"))
  g_Kind : mg "Kind" = some (.ref (He.ga K "Kind"))
  g_is_length : mg "is_length" = some (.ref (He.ga K "is_length"))
  g_need : mg "need" = some (.ref (He.ga K "need"))
  g_is_name : mg "is_name" = some (.ref (He.ga K "is_name"))
  g_is_many : mg "is_many" = some (.ref (He.ga K "is_many"))
  g_many_text : mg "many_text" = some (.ref (He.ga K "many_text"))
  g_FORMS : mg "FORMS" = some (.ref (He.ga K "FORMS"))
  g_number_in : mg "number_in" = some (.ref (He.ga K "number_in"))
  g_Lift : mg "Lift" = some (.ref (He.ga K "Lift"))
  g_Still : mg "Still" = some (.ref (He.ga K "Still"))
  g_Anew : mg "Anew" = some (.ref (He.ga K "Anew"))
  g_MOST_RESTS : ∃ t, mg "MOST_RESTS" = some (.int 6 t)
  g_is_sequence : mg "is_sequence" = some (.ref (He.ga K "is_sequence"))
  g_set : mg "set" = none
  g_WEEK : ∃ t, mg "WEEK" = some (.int 7 t)
  g_InvalidRule : mg "InvalidRule" = some (.ref (He.ga K "InvalidRule"))
  g_are_rests : mg "are_rests" = some (.ref (He.ga K "are_rests"))
  g_are_kinds : mg "are_kinds" = some (.ref (He.ga K "are_kinds"))
  g_sorted : mg "sorted" = none
  g_head_in : mg "head_in" = some (.ref (He.ga K "head_in"))
  g_enumerate : mg "enumerate" = none
  g_Rule : mg "Rule" = some (.ref (He.ga K "Rule"))
  g_abs : mg "abs" = none
  g__law_draw : mg "_law_draw" = some (.ref (He.ga K "_law_draw"))
  g__law_mixed : mg "_law_mixed" = some (.ref (He.ga K "_law_mixed"))
  g__law_pick : mg "_law_pick" = some (.ref (He.ga K "_law_pick"))
  g__law_names : mg "_law_names" = some (.ref (He.ga K "_law_names"))
  g__law_kind : mg "_law_kind" = some (.ref (He.ga K "_law_kind"))
  g_min : mg "min" = none
  g_range : mg "range" = none
  g__law_kind_text : mg "_law_kind_text" = some (.ref (He.ga K "_law_kind_text"))
  g__law_deal : mg "_law_deal" = some (.ref (He.ga K "_law_deal"))
  g__law_rule : mg "_law_rule" = some (.ref (He.ga K "_law_rule"))
  g__law_text : mg "_law_text" = some (.ref (He.ga K "_law_text"))
  g__law_kind_made : mg "_law_kind_made" = some (.ref (He.ga K "_law_kind_made"))
  cl_Kind : Cls K (He.ga K "Kind")
  m_Kind___eq__ : Meth K (He.ga K "Kind") "__eq__" (He.ma K (He.ga K "Kind") "__eq__")
  cl_Still : Cls K (He.ga K "Still")
  mk_Still : Mk K (He.ga K "Still") (He.ma K (He.ga K "Still") "__init__")
  na_Still_name : NoAttr K (He.ga K "Still") "name"
  na_Still_days : NoAttr K (He.ga K "Still") "days"
  na_Still_times : NoAttr K (He.ga K "Still") "times"
  m_Still___init__ : Meth K (He.ga K "Still") "__init__" (He.ma K (He.ga K "Still") "__init__")
  m_Still___str__ : Meth K (He.ga K "Still") "__str__" (He.ma K (He.ga K "Still") "__str__")
  cl_Anew : Cls K (He.ga K "Anew")
  mk_Anew : Mk K (He.ga K "Anew") (He.ma K (He.ga K "Anew") "__init__")
  na_Anew_name : NoAttr K (He.ga K "Anew") "name"
  na_Anew_left : NoAttr K (He.ga K "Anew") "left"
  na_Anew_times : NoAttr K (He.ga K "Anew") "times"
  m_Anew___init__ : Meth K (He.ga K "Anew") "__init__" (He.ma K (He.ga K "Anew") "__init__")
  m_Anew___str__ : Meth K (He.ga K "Anew") "__str__" (He.ma K (He.ga K "Anew") "__str__")
  cl_Lift : Cls K (He.ga K "Lift")
  mk_Lift : Mk K (He.ga K "Lift") (He.ma K (He.ga K "Lift") "__init__")
  na_Lift_name : NoAttr K (He.ga K "Lift") "name"
  na_Lift_by : NoAttr K (He.ga K "Lift") "by"
  na_Lift_top : NoAttr K (He.ga K "Lift") "top"
  na_Lift_times : NoAttr K (He.ga K "Lift") "times"
  m_Lift___init__ : Meth K (He.ga K "Lift") "__init__" (He.ma K (He.ga K "Lift") "__init__")
  m_Lift___str__ : Meth K (He.ga K "Lift") "__str__" (He.ma K (He.ga K "Lift") "__str__")
  cl_Rule : Cls K (He.ga K "Rule")
  mk_Rule : Mk K (He.ga K "Rule") (He.ma K (He.ga K "Rule") "__init__")
  na_Rule_length : NoAttr K (He.ga K "Rule") "length"
  na_Rule_rests : NoAttr K (He.ga K "Rule") "rests"
  na_Rule_cap : NoAttr K (He.ga K "Rule") "cap"
  na_Rule_kinds : NoAttr K (He.ga K "Rule") "kinds"
  na_Rule_names : NoAttr K (He.ga K "Rule") "names"
  m_Rule___init__ : Meth K (He.ga K "Rule") "__init__" (He.ma K (He.ga K "Rule") "__init__")
  m_Rule___eq__ : Meth K (He.ga K "Rule") "__eq__" (He.ma K (He.ga K "Rule") "__eq__")
  m_Rule___str__ : Meth K (He.ga K "Rule") "__str__" (He.ma K (He.ga K "Rule") "__str__")
  e_Rule___init___0 : (tupAtB K (emptyDfl (fun K => He.ma K (He.ga K "Rule") "__init__") 0 K) []) = true
  e_Rule___init___2 : (tupAtB K (emptyDfl (fun K => He.ma K (He.ga K "Rule") "__init__") 2 K) []) = true
  e_BARRED : (tupAtB K (He.ga K "BARRED") [.str "any", .str "none", .str "anew", .str "lift", .str "term"]) = true
  o_Kind : (ownB K (He.ga K "Kind")) = true
  o_Still : (ownB K (He.ga K "Still")) = true
  o_Anew : (ownB K (He.ga K "Anew")) = true
  o_Lift : (ownB K (He.ga K "Lift")) = true
  o_Rule : (ownB K (He.ga K "Rule")) = true
  b_Kind : (bltB K (He.ga K "Kind")) = true
  s_Kind_Kind : (subB K (He.ga K "Kind") (He.ga K "Kind") true) = true
  s_Still_Kind : (subB K (He.ga K "Still") (He.ga K "Kind") true) = true
  s_Anew_Kind : (subB K (He.ga K "Anew") (He.ga K "Kind") true) = true
  s_Lift_Kind : (subB K (He.ga K "Lift") (He.ga K "Kind") true) = true
  s_Rule_Kind : (subB K (He.ga K "Rule") (He.ga K "Kind") false) = true
  b_Rule : (bltB K (He.ga K "Rule")) = true
  s_Kind_Rule : (subB K (He.ga K "Kind") (He.ga K "Rule") false) = true
  s_Still_Rule : (subB K (He.ga K "Still") (He.ga K "Rule") false) = true
  s_Anew_Rule : (subB K (He.ga K "Anew") (He.ga K "Rule") false) = true
  s_Lift_Rule : (subB K (He.ga K "Lift") (He.ga K "Rule") false) = true
  s_Rule_Rule : (subB K (He.ga K "Rule") (He.ga K "Rule") true) = true
  v_FORMS : (He.valsB K (He.ga K "FORMS") [("still", .int 4), ("anew", .int 4), ("lift", .int 5)]) = true
  q_Kind : (spmB K (He.ga K "Kind") "__eq__" (He.ma K (He.ga K "Kind") "__eq__")) = true
  n_Kind : (neB K (He.ga K "Kind")) = true
  nb_Kind : (nfB K (He.ga K "Kind")) = true
  nf_Kind_Kind : (PySem.W.notFirst K (He.ga K "Kind") (.ref (He.ga K "Kind"))) = true
  nf_Kind_Rule : (PySem.W.notFirst K (He.ga K "Kind") (.ref (He.ga K "Rule"))) = true
  q_Still : (spmB K (He.ga K "Still") "__eq__" (He.ma K (He.ga K "Kind") "__eq__")) = true
  n_Still : (neB K (He.ga K "Still")) = true
  nb_Still : (nfB K (He.ga K "Still")) = true
  nf_Still_Kind : (PySem.W.notFirst K (He.ga K "Still") (.ref (He.ga K "Kind"))) = true
  nf_Still_Still : (PySem.W.notFirst K (He.ga K "Still") (.ref (He.ga K "Still"))) = true
  nf_Still_Anew : (PySem.W.notFirst K (He.ga K "Still") (.ref (He.ga K "Anew"))) = true
  nf_Still_Lift : (PySem.W.notFirst K (He.ga K "Still") (.ref (He.ga K "Lift"))) = true
  nf_Still_Rule : (PySem.W.notFirst K (He.ga K "Still") (.ref (He.ga K "Rule"))) = true
  q_Anew : (spmB K (He.ga K "Anew") "__eq__" (He.ma K (He.ga K "Kind") "__eq__")) = true
  n_Anew : (neB K (He.ga K "Anew")) = true
  nb_Anew : (nfB K (He.ga K "Anew")) = true
  nf_Anew_Kind : (PySem.W.notFirst K (He.ga K "Anew") (.ref (He.ga K "Kind"))) = true
  nf_Anew_Still : (PySem.W.notFirst K (He.ga K "Anew") (.ref (He.ga K "Still"))) = true
  nf_Anew_Anew : (PySem.W.notFirst K (He.ga K "Anew") (.ref (He.ga K "Anew"))) = true
  nf_Anew_Lift : (PySem.W.notFirst K (He.ga K "Anew") (.ref (He.ga K "Lift"))) = true
  nf_Anew_Rule : (PySem.W.notFirst K (He.ga K "Anew") (.ref (He.ga K "Rule"))) = true
  q_Lift : (spmB K (He.ga K "Lift") "__eq__" (He.ma K (He.ga K "Kind") "__eq__")) = true
  n_Lift : (neB K (He.ga K "Lift")) = true
  nb_Lift : (nfB K (He.ga K "Lift")) = true
  nf_Lift_Kind : (PySem.W.notFirst K (He.ga K "Lift") (.ref (He.ga K "Kind"))) = true
  nf_Lift_Still : (PySem.W.notFirst K (He.ga K "Lift") (.ref (He.ga K "Still"))) = true
  nf_Lift_Anew : (PySem.W.notFirst K (He.ga K "Lift") (.ref (He.ga K "Anew"))) = true
  nf_Lift_Lift : (PySem.W.notFirst K (He.ga K "Lift") (.ref (He.ga K "Lift"))) = true
  nf_Lift_Rule : (PySem.W.notFirst K (He.ga K "Lift") (.ref (He.ga K "Rule"))) = true
  q_Rule : (spmB K (He.ga K "Rule") "__eq__" (He.ma K (He.ga K "Rule") "__eq__")) = true
  n_Rule : (neB K (He.ga K "Rule")) = true
  nb_Rule : (nfB K (He.ga K "Rule")) = true
  nf_Rule_Kind : (PySem.W.notFirst K (He.ga K "Rule") (.ref (He.ga K "Kind"))) = true
  nf_Rule_Still : (PySem.W.notFirst K (He.ga K "Rule") (.ref (He.ga K "Still"))) = true
  nf_Rule_Anew : (PySem.W.notFirst K (He.ga K "Rule") (.ref (He.ga K "Anew"))) = true
  nf_Rule_Lift : (PySem.W.notFirst K (He.ga K "Rule") (.ref (He.ga K "Lift"))) = true
  nf_Rule_Rule : (PySem.W.notFirst K (He.ga K "Rule") (.ref (He.ga K "Rule"))) = true
  c_Kind_read : (cmB K (He.ga K "Kind") "read") = true
  c_Rule_read : (cmB K (He.ga K "Rule") "read") = true
  x_FORMS : (keysB K (He.ga K "FORMS") ["still", "anew", "lift"]) = true
  t_FORMS : ∃ es n, KDict K w (He.ga K "FORMS") es n
  f_is_integer : ∃ fd, FunD K "is_integer" "is_integer" (defArgs s_is_integer) (defBody s_is_integer) (defScope s_is_integer) [] [] (He.ga K "is_integer") fd
  f_is_length : ∃ fd, FunD K "is_length" "is_length" (defArgs s_is_length) (defBody s_is_length) (defScope s_is_length) [] [] (He.ga K "is_length") fd
  f_is_name : ∃ fd, FunD K "is_name" "is_name" (defArgs s_is_name) (defBody s_is_name) (defScope s_is_name) [] [] (He.ga K "is_name") fd
  f_is_sequence : ∃ fd, FunD K "is_sequence" "is_sequence" (defArgs s_is_sequence) (defBody s_is_sequence) (defScope s_is_sequence) [] [] (He.ga K "is_sequence") fd
  f_number_in : ∃ fd, FunD K "number_in" "number_in" (defArgs s_number_in) (defBody s_number_in) (defScope s_number_in) [] [] (He.ga K "number_in") fd
  f_Kind_read : ∃ fd, FunD K "read" "Kind.read" (defArgs s_Kind_read) (defBody s_Kind_read) (defScope s_Kind_read) [] [] (He5.wf K (He.ga K "Kind") "classmethod" "read") fd
  f_Kind___eq__ : ∃ fd, FunD K "__eq__" "Kind.__eq__" (defArgs s_Kind___eq__) (defBody s_Kind___eq__) (defScope s_Kind___eq__) [] [] (He.ma K (He.ga K "Kind") "__eq__") fd
  f_need : ∃ fd, FunD K "need" "need" (defArgs s_need) (defBody s_need) (defScope s_need) [] [] (He.ga K "need") fd
  f_is_many : ∃ fd, FunD K "is_many" "is_many" (defArgs s_is_many) (defBody s_is_many) (defScope s_is_many) [] [] (He.ga K "is_many") fd
  f_many_text : ∃ fd, FunD K "many_text" "many_text" (defArgs s_many_text) (defBody s_many_text) (defScope s_many_text) [] [] (He.ga K "many_text") fd
  f_Still___init__ : ∃ fd, FunD K "__init__" "Still.__init__" (defArgs s_Still___init__) (defBody s_Still___init__) (defScope s_Still___init__) [.non] [] (He.ma K (He.ga K "Still") "__init__") fd
  f_Still___str__ : ∃ fd, FunD K "__str__" "Still.__str__" (defArgs s_Still___str__) (defBody s_Still___str__) (defScope s_Still___str__) [] [] (He.ma K (He.ga K "Still") "__str__") fd
  f_Anew___init__ : ∃ fd, FunD K "__init__" "Anew.__init__" (defArgs s_Anew___init__) (defBody s_Anew___init__) (defScope s_Anew___init__) [.non] [] (He.ma K (He.ga K "Anew") "__init__") fd
  f_Anew___str__ : ∃ fd, FunD K "__str__" "Anew.__str__" (defArgs s_Anew___str__) (defBody s_Anew___str__) (defScope s_Anew___str__) [] [] (He.ma K (He.ga K "Anew") "__str__") fd
  f_Lift___init__ : ∃ fd, FunD K "__init__" "Lift.__init__" (defArgs s_Lift___init__) (defBody s_Lift___init__) (defScope s_Lift___init__) [.non] [] (He.ma K (He.ga K "Lift") "__init__") fd
  f_Lift___str__ : ∃ fd, FunD K "__str__" "Lift.__str__" (defArgs s_Lift___str__) (defBody s_Lift___str__) (defScope s_Lift___str__) [] [] (He.ma K (He.ga K "Lift") "__str__") fd
  f_told_by : ∃ fd, FunD K "told_by" "told_by" (defArgs s_told_by) (defBody s_told_by) (defScope s_told_by) [] [] (He.ga K "told_by") fd
  f_made_of : ∃ fd, FunD K "made_of" "made_of" (defArgs s_made_of) (defBody s_made_of) (defScope s_made_of) [] [] (He.ga K "made_of") fd
  f_are_rests : ∃ fd, FunD K "are_rests" "are_rests" (defArgs s_are_rests) (defBody s_are_rests) (defScope s_are_rests) [] [] (He.ga K "are_rests") fd
  f_are_kinds : ∃ fd, FunD K "are_kinds" "are_kinds" (defArgs s_are_kinds) (defBody s_are_kinds) (defScope s_are_kinds) [] [] (He.ga K "are_kinds") fd
  f_head_in : ∃ fd, FunD K "head_in" "head_in" (defArgs s_head_in) (defBody s_head_in) (defScope s_head_in) [] [] (He.ga K "head_in") fd
  f_Rule___init__ : ∃ fd, FunD K "__init__" "Rule.__init__" (defArgs s_Rule___init__) (defBody s_Rule___init__) (defScope s_Rule___init__) [.ref (emptyDfl (fun K => He.ma K (He.ga K "Rule") "__init__") 0 K), .non, .ref (emptyDfl (fun K => He.ma K (He.ga K "Rule") "__init__") 2 K)] [] (He.ma K (He.ga K "Rule") "__init__") fd
  f_Rule_read : ∃ fd, FunD K "read" "Rule.read" (defArgs s_Rule_read) (defBody s_Rule_read) (defScope s_Rule_read) [] [] (He5.wf K (He.ga K "Rule") "classmethod" "read") fd
  f_Rule___eq__ : ∃ fd, FunD K "__eq__" "Rule.__eq__" (defArgs s_Rule___eq__) (defBody s_Rule___eq__) (defScope s_Rule___eq__) [] [] (He.ma K (He.ga K "Rule") "__eq__") fd
  f_Rule___str__ : ∃ fd, FunD K "__str__" "Rule.__str__" (defArgs s_Rule___str__) (defBody s_Rule___str__) (defScope s_Rule___str__) [] [] (He.ma K (He.ga K "Rule") "__str__") fd
  f__law_deal : ∃ fd, FunD K "_law_deal" "_law_deal" (defArgs s__law_deal) (defBody s__law_deal) (defScope s__law_deal) [] [] (He.ga K "_law_deal") fd
  f__law_draw : ∃ fd, FunD K "_law_draw" "_law_draw" (defArgs s__law_draw) (defBody s__law_draw) (defScope s__law_draw) [] [] (He.ga K "_law_draw") fd
  f__law_pick : ∃ fd, FunD K "_law_pick" "_law_pick" (defArgs s__law_pick) (defBody s__law_pick) (defScope s__law_pick) [] [] (He.ga K "_law_pick") fd
  f__law_mixed : ∃ fd, FunD K "_law_mixed" "_law_mixed" (defArgs s__law_mixed) (defBody s__law_mixed) (defScope s__law_mixed) [] [] (He.ga K "_law_mixed") fd
  f__law_names : ∃ fd, FunD K "_law_names" "_law_names" (defArgs s__law_names) (defBody s__law_names) (defScope s__law_names) [] [] (He.ga K "_law_names") fd
  f__law_kind : ∃ fd, FunD K "_law_kind" "_law_kind" (defArgs s__law_kind) (defBody s__law_kind) (defScope s__law_kind) [] [] (He.ga K "_law_kind") fd
  f__law_rule : ∃ fd, FunD K "_law_rule" "_law_rule" (defArgs s__law_rule) (defBody s__law_rule) (defScope s__law_rule) [] [] (He.ga K "_law_rule") fd
  f__law_kind_text : ∃ fd, FunD K "_law_kind_text" "_law_kind_text" (defArgs s__law_kind_text) (defBody s__law_kind_text) (defScope s__law_kind_text) [] [] (He.ga K "_law_kind_text") fd
  f__law_text : ∃ fd, FunD K "_law_text" "_law_text" (defArgs s__law_text) (defBody s__law_text) (defScope s__law_text) [] [] (He.ga K "_law_text") fd
  f__law_kind_made : ∃ fd, FunD K "_law_kind_made" "_law_kind_made" (defArgs s__law_kind_made) (defBody s__law_kind_made) (defScope s__law_kind_made) [] [] (He.ga K "_law_kind_made") fd
  f_law : ∃ fd, FunD K "law" "law" (defArgs s_law) (defBody s_law) (defScope s_law) [] [] (He.ga K "law") fd
theorem env_of {K : PySem.W.Frag} {h : Heap} {mg : Str → Option Value} {w : World} (X : K.In h) (G : h.Ns mainGlobals mg) (c : SaysM fa ex fn tabs w K) : Env K mg w where
  g_law := He.glo_ok X G (c.a.fact 0 (f := .glo "law") rfl)
  g_isinstance := He.free_ok X G (c.a.fact 1 (f := .free "isinstance") rfl)
  g_int := He.free_ok X G (c.a.fact 2 (f := .free "int") rfl)
  g_bool := He.free_ok X G (c.a.fact 3 (f := .free "bool") rfl)
  g_is_integer := He.glo_ok X G (c.a.fact 4 (f := .glo "is_integer") rfl)
  g_all := He.free_ok X G (c.a.fact 5 (f := .free "all") rfl)
  g_BARRED := He.glo_ok X G (c.a.fact 6 (f := .glo "BARRED") rfl)
  g_str := He.free_ok X G (c.a.fact 7 (f := .free "str") rfl)
  g_MOST_LETTERS := He.int_ok X G (c.a.fact 8 (f := .int "MOST_LETTERS" 4) rfl)
  g_LETTERS := He.str_ok X G (c.a.fact 9 (f := .str "LETTERS" "abcdefghijklmnopqrstuvwxyz") rfl)
  g_len := He.free_ok X G (c.a.fact 10 (f := .free "len") rfl)
  g_list := He.free_ok X G (c.a.fact 11 (f := .free "list") rfl)
  g_tuple := He.free_ok X G (c.a.fact 12 (f := .free "tuple") rfl)
  g_MOST_SIGNS := He.int_ok X G (c.a.fact 13 (f := .int "MOST_SIGNS" 19) rfl)
  g_SIGNS := He.str_ok X G (c.a.fact 14 (f := .str "SIGNS" "0123456789") rfl)
  g_classmethod := He.free_ok X G (c.a.fact 15 (f := .free "classmethod") rfl)
  g_told_by := He.glo_ok X G (c.a.fact 16 (f := .glo "told_by") rfl)
  g_InvalidKind := He.glo_ok X G (c.a.fact 17 (f := .glo "InvalidKind") rfl)
  g_InvalidText := He.glo_ok X G (c.a.fact 18 (f := .glo "InvalidText") rfl)
  g_made_of := He.glo_ok X G (c.a.fact 19 (f := .glo "made_of") rfl)
  g_Kind := He.glo_ok X G (c.a.fact 20 (f := .glo "Kind") rfl)
  g_is_length := He.glo_ok X G (c.a.fact 21 (f := .glo "is_length") rfl)
  g_need := He.glo_ok X G (c.a.fact 22 (f := .glo "need") rfl)
  g_is_name := He.glo_ok X G (c.a.fact 23 (f := .glo "is_name") rfl)
  g_is_many := He.glo_ok X G (c.a.fact 24 (f := .glo "is_many") rfl)
  g_many_text := He.glo_ok X G (c.a.fact 25 (f := .glo "many_text") rfl)
  g_FORMS := He.glo_ok X G (c.a.fact 26 (f := .glo "FORMS") rfl)
  g_number_in := He.glo_ok X G (c.a.fact 27 (f := .glo "number_in") rfl)
  g_Lift := He.glo_ok X G (c.a.fact 28 (f := .glo "Lift") rfl)
  g_Still := He.glo_ok X G (c.a.fact 29 (f := .glo "Still") rfl)
  g_Anew := He.glo_ok X G (c.a.fact 30 (f := .glo "Anew") rfl)
  g_MOST_RESTS := He.int_ok X G (c.a.fact 31 (f := .int "MOST_RESTS" 6) rfl)
  g_is_sequence := He.glo_ok X G (c.a.fact 32 (f := .glo "is_sequence") rfl)
  g_set := He.free_ok X G (c.a.fact 33 (f := .free "set") rfl)
  g_WEEK := He.int_ok X G (c.a.fact 34 (f := .int "WEEK" 7) rfl)
  g_InvalidRule := He.glo_ok X G (c.a.fact 35 (f := .glo "InvalidRule") rfl)
  g_are_rests := He.glo_ok X G (c.a.fact 36 (f := .glo "are_rests") rfl)
  g_are_kinds := He.glo_ok X G (c.a.fact 37 (f := .glo "are_kinds") rfl)
  g_sorted := He.free_ok X G (c.a.fact 38 (f := .free "sorted") rfl)
  g_head_in := He.glo_ok X G (c.a.fact 39 (f := .glo "head_in") rfl)
  g_enumerate := He.free_ok X G (c.a.fact 40 (f := .free "enumerate") rfl)
  g_Rule := He.glo_ok X G (c.a.fact 41 (f := .glo "Rule") rfl)
  g_abs := He.free_ok X G (c.a.fact 42 (f := .free "abs") rfl)
  g__law_draw := He.glo_ok X G (c.a.fact 43 (f := .glo "_law_draw") rfl)
  g__law_mixed := He.glo_ok X G (c.a.fact 44 (f := .glo "_law_mixed") rfl)
  g__law_pick := He.glo_ok X G (c.a.fact 45 (f := .glo "_law_pick") rfl)
  g__law_names := He.glo_ok X G (c.a.fact 46 (f := .glo "_law_names") rfl)
  g__law_kind := He.glo_ok X G (c.a.fact 47 (f := .glo "_law_kind") rfl)
  g_min := He.free_ok X G (c.a.fact 48 (f := .free "min") rfl)
  g_range := He.free_ok X G (c.a.fact 49 (f := .free "range") rfl)
  g__law_kind_text := He.glo_ok X G (c.a.fact 50 (f := .glo "_law_kind_text") rfl)
  g__law_deal := He.glo_ok X G (c.a.fact 51 (f := .glo "_law_deal") rfl)
  g__law_rule := He.glo_ok X G (c.a.fact 52 (f := .glo "_law_rule") rfl)
  g__law_text := He.glo_ok X G (c.a.fact 53 (f := .glo "_law_text") rfl)
  g__law_kind_made := He.glo_ok X G (c.a.fact 54 (f := .glo "_law_kind_made") rfl)
  cl_Kind := He.cls_ok (c.a.fact 55 (f := .cls "Kind") rfl)
  m_Kind___eq__ := He.meth_ok (c.a.fact 56 (f := .meth "Kind" "__eq__") rfl)
  cl_Still := He.cls_ok (c.a.fact 57 (f := .cls "Still") rfl)
  mk_Still := He.mkr_ok (c.a.fact 58 (f := .mkr "Still") rfl)
  na_Still_name := He.noat_ok (c.a.fact 59 (f := .noat "Still" "name") rfl)
  na_Still_days := He.noat_ok (c.a.fact 60 (f := .noat "Still" "days") rfl)
  na_Still_times := He.noat_ok (c.a.fact 61 (f := .noat "Still" "times") rfl)
  m_Still___init__ := He.meth_ok (c.a.fact 62 (f := .meth "Still" "__init__") rfl)
  m_Still___str__ := He.meth_ok (c.a.fact 63 (f := .meth "Still" "__str__") rfl)
  cl_Anew := He.cls_ok (c.a.fact 64 (f := .cls "Anew") rfl)
  mk_Anew := He.mkr_ok (c.a.fact 65 (f := .mkr "Anew") rfl)
  na_Anew_name := He.noat_ok (c.a.fact 66 (f := .noat "Anew" "name") rfl)
  na_Anew_left := He.noat_ok (c.a.fact 67 (f := .noat "Anew" "left") rfl)
  na_Anew_times := He.noat_ok (c.a.fact 68 (f := .noat "Anew" "times") rfl)
  m_Anew___init__ := He.meth_ok (c.a.fact 69 (f := .meth "Anew" "__init__") rfl)
  m_Anew___str__ := He.meth_ok (c.a.fact 70 (f := .meth "Anew" "__str__") rfl)
  cl_Lift := He.cls_ok (c.a.fact 71 (f := .cls "Lift") rfl)
  mk_Lift := He.mkr_ok (c.a.fact 72 (f := .mkr "Lift") rfl)
  na_Lift_name := He.noat_ok (c.a.fact 73 (f := .noat "Lift" "name") rfl)
  na_Lift_by := He.noat_ok (c.a.fact 74 (f := .noat "Lift" "by") rfl)
  na_Lift_top := He.noat_ok (c.a.fact 75 (f := .noat "Lift" "top") rfl)
  na_Lift_times := He.noat_ok (c.a.fact 76 (f := .noat "Lift" "times") rfl)
  m_Lift___init__ := He.meth_ok (c.a.fact 77 (f := .meth "Lift" "__init__") rfl)
  m_Lift___str__ := He.meth_ok (c.a.fact 78 (f := .meth "Lift" "__str__") rfl)
  cl_Rule := He.cls_ok (c.a.fact 79 (f := .cls "Rule") rfl)
  mk_Rule := He.mkr_ok (c.a.fact 80 (f := .mkr "Rule") rfl)
  na_Rule_length := He.noat_ok (c.a.fact 81 (f := .noat "Rule" "length") rfl)
  na_Rule_rests := He.noat_ok (c.a.fact 82 (f := .noat "Rule" "rests") rfl)
  na_Rule_cap := He.noat_ok (c.a.fact 83 (f := .noat "Rule" "cap") rfl)
  na_Rule_kinds := He.noat_ok (c.a.fact 84 (f := .noat "Rule" "kinds") rfl)
  na_Rule_names := He.noat_ok (c.a.fact 85 (f := .noat "Rule" "names") rfl)
  m_Rule___init__ := He.meth_ok (c.a.fact 86 (f := .meth "Rule" "__init__") rfl)
  m_Rule___eq__ := He.meth_ok (c.a.fact 87 (f := .meth "Rule" "__eq__") rfl)
  m_Rule___str__ := He.meth_ok (c.a.fact 88 (f := .meth "Rule" "__str__") rfl)
  e_Rule___init___0 := List.all_eq_true.mp c.ex (fun K => tupAtB K (emptyDfl (fun K => He.ma K (He.ga K "Rule") "__init__") 0 K) []) (List.mem_of_getElem? (i := 0) rfl)
  e_Rule___init___2 := List.all_eq_true.mp c.ex (fun K => tupAtB K (emptyDfl (fun K => He.ma K (He.ga K "Rule") "__init__") 2 K) []) (List.mem_of_getElem? (i := 1) rfl)
  e_BARRED := List.all_eq_true.mp c.ex (fun K => tupAtB K (He.ga K "BARRED") [.str "any", .str "none", .str "anew", .str "lift", .str "term"]) (List.mem_of_getElem? (i := 2) rfl)
  o_Kind := List.all_eq_true.mp c.ex (fun K => ownB K (He.ga K "Kind")) (List.mem_of_getElem? (i := 3) rfl)
  o_Still := List.all_eq_true.mp c.ex (fun K => ownB K (He.ga K "Still")) (List.mem_of_getElem? (i := 4) rfl)
  o_Anew := List.all_eq_true.mp c.ex (fun K => ownB K (He.ga K "Anew")) (List.mem_of_getElem? (i := 5) rfl)
  o_Lift := List.all_eq_true.mp c.ex (fun K => ownB K (He.ga K "Lift")) (List.mem_of_getElem? (i := 6) rfl)
  o_Rule := List.all_eq_true.mp c.ex (fun K => ownB K (He.ga K "Rule")) (List.mem_of_getElem? (i := 7) rfl)
  b_Kind := List.all_eq_true.mp c.ex (fun K => bltB K (He.ga K "Kind")) (List.mem_of_getElem? (i := 8) rfl)
  s_Kind_Kind := List.all_eq_true.mp c.ex (fun K => subB K (He.ga K "Kind") (He.ga K "Kind") true) (List.mem_of_getElem? (i := 9) rfl)
  s_Still_Kind := List.all_eq_true.mp c.ex (fun K => subB K (He.ga K "Still") (He.ga K "Kind") true) (List.mem_of_getElem? (i := 10) rfl)
  s_Anew_Kind := List.all_eq_true.mp c.ex (fun K => subB K (He.ga K "Anew") (He.ga K "Kind") true) (List.mem_of_getElem? (i := 11) rfl)
  s_Lift_Kind := List.all_eq_true.mp c.ex (fun K => subB K (He.ga K "Lift") (He.ga K "Kind") true) (List.mem_of_getElem? (i := 12) rfl)
  s_Rule_Kind := List.all_eq_true.mp c.ex (fun K => subB K (He.ga K "Rule") (He.ga K "Kind") false) (List.mem_of_getElem? (i := 13) rfl)
  b_Rule := List.all_eq_true.mp c.ex (fun K => bltB K (He.ga K "Rule")) (List.mem_of_getElem? (i := 14) rfl)
  s_Kind_Rule := List.all_eq_true.mp c.ex (fun K => subB K (He.ga K "Kind") (He.ga K "Rule") false) (List.mem_of_getElem? (i := 15) rfl)
  s_Still_Rule := List.all_eq_true.mp c.ex (fun K => subB K (He.ga K "Still") (He.ga K "Rule") false) (List.mem_of_getElem? (i := 16) rfl)
  s_Anew_Rule := List.all_eq_true.mp c.ex (fun K => subB K (He.ga K "Anew") (He.ga K "Rule") false) (List.mem_of_getElem? (i := 17) rfl)
  s_Lift_Rule := List.all_eq_true.mp c.ex (fun K => subB K (He.ga K "Lift") (He.ga K "Rule") false) (List.mem_of_getElem? (i := 18) rfl)
  s_Rule_Rule := List.all_eq_true.mp c.ex (fun K => subB K (He.ga K "Rule") (He.ga K "Rule") true) (List.mem_of_getElem? (i := 19) rfl)
  v_FORMS := List.all_eq_true.mp c.ex (fun K => He.valsB K (He.ga K "FORMS") [("still", .int 4), ("anew", .int 4), ("lift", .int 5)]) (List.mem_of_getElem? (i := 20) rfl)
  q_Kind := List.all_eq_true.mp c.ex (fun K => spmB K (He.ga K "Kind") "__eq__" (He.ma K (He.ga K "Kind") "__eq__")) (List.mem_of_getElem? (i := 21) rfl)
  n_Kind := List.all_eq_true.mp c.ex (fun K => neB K (He.ga K "Kind")) (List.mem_of_getElem? (i := 22) rfl)
  nb_Kind := List.all_eq_true.mp c.ex (fun K => nfB K (He.ga K "Kind")) (List.mem_of_getElem? (i := 23) rfl)
  nf_Kind_Kind := List.all_eq_true.mp c.ex (fun K => PySem.W.notFirst K (He.ga K "Kind") (.ref (He.ga K "Kind"))) (List.mem_of_getElem? (i := 24) rfl)
  nf_Kind_Rule := List.all_eq_true.mp c.ex (fun K => PySem.W.notFirst K (He.ga K "Kind") (.ref (He.ga K "Rule"))) (List.mem_of_getElem? (i := 25) rfl)
  q_Still := List.all_eq_true.mp c.ex (fun K => spmB K (He.ga K "Still") "__eq__" (He.ma K (He.ga K "Kind") "__eq__")) (List.mem_of_getElem? (i := 26) rfl)
  n_Still := List.all_eq_true.mp c.ex (fun K => neB K (He.ga K "Still")) (List.mem_of_getElem? (i := 27) rfl)
  nb_Still := List.all_eq_true.mp c.ex (fun K => nfB K (He.ga K "Still")) (List.mem_of_getElem? (i := 28) rfl)
  nf_Still_Kind := List.all_eq_true.mp c.ex (fun K => PySem.W.notFirst K (He.ga K "Still") (.ref (He.ga K "Kind"))) (List.mem_of_getElem? (i := 29) rfl)
  nf_Still_Still := List.all_eq_true.mp c.ex (fun K => PySem.W.notFirst K (He.ga K "Still") (.ref (He.ga K "Still"))) (List.mem_of_getElem? (i := 30) rfl)
  nf_Still_Anew := List.all_eq_true.mp c.ex (fun K => PySem.W.notFirst K (He.ga K "Still") (.ref (He.ga K "Anew"))) (List.mem_of_getElem? (i := 31) rfl)
  nf_Still_Lift := List.all_eq_true.mp c.ex (fun K => PySem.W.notFirst K (He.ga K "Still") (.ref (He.ga K "Lift"))) (List.mem_of_getElem? (i := 32) rfl)
  nf_Still_Rule := List.all_eq_true.mp c.ex (fun K => PySem.W.notFirst K (He.ga K "Still") (.ref (He.ga K "Rule"))) (List.mem_of_getElem? (i := 33) rfl)
  q_Anew := List.all_eq_true.mp c.ex (fun K => spmB K (He.ga K "Anew") "__eq__" (He.ma K (He.ga K "Kind") "__eq__")) (List.mem_of_getElem? (i := 34) rfl)
  n_Anew := List.all_eq_true.mp c.ex (fun K => neB K (He.ga K "Anew")) (List.mem_of_getElem? (i := 35) rfl)
  nb_Anew := List.all_eq_true.mp c.ex (fun K => nfB K (He.ga K "Anew")) (List.mem_of_getElem? (i := 36) rfl)
  nf_Anew_Kind := List.all_eq_true.mp c.ex (fun K => PySem.W.notFirst K (He.ga K "Anew") (.ref (He.ga K "Kind"))) (List.mem_of_getElem? (i := 37) rfl)
  nf_Anew_Still := List.all_eq_true.mp c.ex (fun K => PySem.W.notFirst K (He.ga K "Anew") (.ref (He.ga K "Still"))) (List.mem_of_getElem? (i := 38) rfl)
  nf_Anew_Anew := List.all_eq_true.mp c.ex (fun K => PySem.W.notFirst K (He.ga K "Anew") (.ref (He.ga K "Anew"))) (List.mem_of_getElem? (i := 39) rfl)
  nf_Anew_Lift := List.all_eq_true.mp c.ex (fun K => PySem.W.notFirst K (He.ga K "Anew") (.ref (He.ga K "Lift"))) (List.mem_of_getElem? (i := 40) rfl)
  nf_Anew_Rule := List.all_eq_true.mp c.ex (fun K => PySem.W.notFirst K (He.ga K "Anew") (.ref (He.ga K "Rule"))) (List.mem_of_getElem? (i := 41) rfl)
  q_Lift := List.all_eq_true.mp c.ex (fun K => spmB K (He.ga K "Lift") "__eq__" (He.ma K (He.ga K "Kind") "__eq__")) (List.mem_of_getElem? (i := 42) rfl)
  n_Lift := List.all_eq_true.mp c.ex (fun K => neB K (He.ga K "Lift")) (List.mem_of_getElem? (i := 43) rfl)
  nb_Lift := List.all_eq_true.mp c.ex (fun K => nfB K (He.ga K "Lift")) (List.mem_of_getElem? (i := 44) rfl)
  nf_Lift_Kind := List.all_eq_true.mp c.ex (fun K => PySem.W.notFirst K (He.ga K "Lift") (.ref (He.ga K "Kind"))) (List.mem_of_getElem? (i := 45) rfl)
  nf_Lift_Still := List.all_eq_true.mp c.ex (fun K => PySem.W.notFirst K (He.ga K "Lift") (.ref (He.ga K "Still"))) (List.mem_of_getElem? (i := 46) rfl)
  nf_Lift_Anew := List.all_eq_true.mp c.ex (fun K => PySem.W.notFirst K (He.ga K "Lift") (.ref (He.ga K "Anew"))) (List.mem_of_getElem? (i := 47) rfl)
  nf_Lift_Lift := List.all_eq_true.mp c.ex (fun K => PySem.W.notFirst K (He.ga K "Lift") (.ref (He.ga K "Lift"))) (List.mem_of_getElem? (i := 48) rfl)
  nf_Lift_Rule := List.all_eq_true.mp c.ex (fun K => PySem.W.notFirst K (He.ga K "Lift") (.ref (He.ga K "Rule"))) (List.mem_of_getElem? (i := 49) rfl)
  q_Rule := List.all_eq_true.mp c.ex (fun K => spmB K (He.ga K "Rule") "__eq__" (He.ma K (He.ga K "Rule") "__eq__")) (List.mem_of_getElem? (i := 50) rfl)
  n_Rule := List.all_eq_true.mp c.ex (fun K => neB K (He.ga K "Rule")) (List.mem_of_getElem? (i := 51) rfl)
  nb_Rule := List.all_eq_true.mp c.ex (fun K => nfB K (He.ga K "Rule")) (List.mem_of_getElem? (i := 52) rfl)
  nf_Rule_Kind := List.all_eq_true.mp c.ex (fun K => PySem.W.notFirst K (He.ga K "Rule") (.ref (He.ga K "Kind"))) (List.mem_of_getElem? (i := 53) rfl)
  nf_Rule_Still := List.all_eq_true.mp c.ex (fun K => PySem.W.notFirst K (He.ga K "Rule") (.ref (He.ga K "Still"))) (List.mem_of_getElem? (i := 54) rfl)
  nf_Rule_Anew := List.all_eq_true.mp c.ex (fun K => PySem.W.notFirst K (He.ga K "Rule") (.ref (He.ga K "Anew"))) (List.mem_of_getElem? (i := 55) rfl)
  nf_Rule_Lift := List.all_eq_true.mp c.ex (fun K => PySem.W.notFirst K (He.ga K "Rule") (.ref (He.ga K "Lift"))) (List.mem_of_getElem? (i := 56) rfl)
  nf_Rule_Rule := List.all_eq_true.mp c.ex (fun K => PySem.W.notFirst K (He.ga K "Rule") (.ref (He.ga K "Rule"))) (List.mem_of_getElem? (i := 57) rfl)
  c_Kind_read := List.all_eq_true.mp c.ex (fun K => cmB K (He.ga K "Kind") "read") (List.mem_of_getElem? (i := 58) rfl)
  c_Rule_read := List.all_eq_true.mp c.ex (fun K => cmB K (He.ga K "Rule") "read") (List.mem_of_getElem? (i := 59) rfl)
  x_FORMS := List.all_eq_true.mp c.ex (fun K => keysB K (He.ga K "FORMS") ["still", "anew", "lift"]) (List.mem_of_getElem? (i := 60) rfl)
  t_FORMS := c.tab 0 (t := (fun K => He.ga K "FORMS", ["still", "anew", "lift"])) rfl
  f_is_integer := c.a.def_ 0 (d := d_is_integer) rfl
  f_is_length := c.a.def_ 1 (d := d_is_length) rfl
  f_is_name := c.a.def_ 2 (d := d_is_name) rfl
  f_is_sequence := c.a.def_ 3 (d := d_is_sequence) rfl
  f_number_in := c.a.def_ 4 (d := d_number_in) rfl
  f_Kind_read := c.a.def_ 5 (d := d_Kind_read) rfl
  f_Kind___eq__ := c.a.def_ 6 (d := d_Kind___eq__) rfl
  f_need := c.a.def_ 7 (d := d_need) rfl
  f_is_many := c.a.def_ 8 (d := d_is_many) rfl
  f_many_text := c.a.def_ 9 (d := d_many_text) rfl
  f_Still___init__ := c.a.def_ 10 (d := d_Still___init__) rfl
  f_Still___str__ := c.a.def_ 11 (d := d_Still___str__) rfl
  f_Anew___init__ := c.a.def_ 12 (d := d_Anew___init__) rfl
  f_Anew___str__ := c.a.def_ 13 (d := d_Anew___str__) rfl
  f_Lift___init__ := c.a.def_ 14 (d := d_Lift___init__) rfl
  f_Lift___str__ := c.a.def_ 15 (d := d_Lift___str__) rfl
  f_told_by := c.a.def_ 16 (d := d_told_by) rfl
  f_made_of := c.a.def_ 17 (d := d_made_of) rfl
  f_are_rests := c.a.def_ 18 (d := d_are_rests) rfl
  f_are_kinds := c.a.def_ 19 (d := d_are_kinds) rfl
  f_head_in := c.a.def_ 20 (d := d_head_in) rfl
  f_Rule___init__ := c.a.def_ 21 (d := d_Rule___init__) rfl
  f_Rule_read := c.a.def_ 22 (d := d_Rule_read) rfl
  f_Rule___eq__ := c.a.def_ 23 (d := d_Rule___eq__) rfl
  f_Rule___str__ := c.a.def_ 24 (d := d_Rule___str__) rfl
  f__law_deal := c.a.def_ 25 (d := d__law_deal) rfl
  f__law_draw := c.a.def_ 26 (d := d__law_draw) rfl
  f__law_pick := c.a.def_ 27 (d := d__law_pick) rfl
  f__law_mixed := c.a.def_ 28 (d := d__law_mixed) rfl
  f__law_names := c.a.def_ 29 (d := d__law_names) rfl
  f__law_kind := c.a.def_ 30 (d := d__law_kind) rfl
  f__law_rule := c.a.def_ 31 (d := d__law_rule) rfl
  f__law_kind_text := c.a.def_ 32 (d := d__law_kind_text) rfl
  f__law_text := c.a.def_ 33 (d := d__law_text) rfl
  f__law_kind_made := c.a.def_ 34 (d := d__law_kind_made) rfl
  f_law := c.a.def_ 35 (d := d_law) rfl
end Tm

namespace Tm
open PySem PySem.Spec PyProof.Rows L2
section
variable {w : World} {K : PySem.W.Frag} {mg : Str → Option Value}
def Cs_all : List Str := ["Kind", "Still", "Anew", "Lift", "Rule"]
theorem clsOk (E : Env K mg w) : ∀ C ∈ Cs_all, ClsOk K C := by
  intro C hC
  simp only [Cs_all, List.mem_cons, List.not_mem_nil, or_false] at hC
  rcases hC with rfl | rfl | rfl | rfl | rfl
  · exact ⟨ownB_ok E.o_Kind, E.cl_Kind⟩
  · exact ⟨ownB_ok E.o_Still, E.cl_Still⟩
  · exact ⟨ownB_ok E.o_Anew, E.cl_Anew⟩
  · exact ⟨ownB_ok E.o_Lift, E.cl_Lift⟩
  · exact ⟨ownB_ok E.o_Rule, E.cl_Rule⟩
theorem fc_rests (E : Env K mg w) : m_fldC K ["Rule"] "rests" := by
  intro C hC
  simp only [List.mem_cons, List.not_mem_nil, or_false] at hC
  rcases hC with rfl
  · exact ⟨E.cl_Rule, E.na_Rule_rests⟩
theorem fc_length (E : Env K mg w) : m_fldC K ["Rule"] "length" := by
  intro C hC
  simp only [List.mem_cons, List.not_mem_nil, or_false] at hC
  rcases hC with rfl
  · exact ⟨E.cl_Rule, E.na_Rule_length⟩
theorem fc_cap (E : Env K mg w) : m_fldC K ["Rule"] "cap" := by
  intro C hC
  simp only [List.mem_cons, List.not_mem_nil, or_false] at hC
  rcases hC with rfl
  · exact ⟨E.cl_Rule, E.na_Rule_cap⟩
theorem fc_kinds (E : Env K mg w) : m_fldC K ["Rule"] "kinds" := by
  intro C hC
  simp only [List.mem_cons, List.not_mem_nil, or_false] at hC
  rcases hC with rfl
  · exact ⟨E.cl_Rule, E.na_Rule_kinds⟩
theorem fc_names (E : Env K mg w) : m_fldC K ["Rule"] "names" := by
  intro C hC
  simp only [List.mem_cons, List.not_mem_nil, or_false] at hC
  rcases hC with rfl
  · exact ⟨E.cl_Rule, E.na_Rule_names⟩
theorem fc_name (E : Env K mg w) : m_fldC K ["Still", "Anew", "Lift"] "name" := by
  intro C hC
  simp only [List.mem_cons, List.not_mem_nil, or_false] at hC
  rcases hC with rfl | rfl | rfl
  · exact ⟨E.cl_Still, E.na_Still_name⟩
  · exact ⟨E.cl_Anew, E.na_Anew_name⟩
  · exact ⟨E.cl_Lift, E.na_Lift_name⟩
theorem fc_days (E : Env K mg w) : m_fldC K ["Still"] "days" := by
  intro C hC
  simp only [List.mem_cons, List.not_mem_nil, or_false] at hC
  rcases hC with rfl
  · exact ⟨E.cl_Still, E.na_Still_days⟩
theorem fc_left (E : Env K mg w) : m_fldC K ["Anew"] "left" := by
  intro C hC
  simp only [List.mem_cons, List.not_mem_nil, or_false] at hC
  rcases hC with rfl
  · exact ⟨E.cl_Anew, E.na_Anew_left⟩
theorem fc_by (E : Env K mg w) : m_fldC K ["Lift"] "by" := by
  intro C hC
  simp only [List.mem_cons, List.not_mem_nil, or_false] at hC
  rcases hC with rfl
  · exact ⟨E.cl_Lift, E.na_Lift_by⟩
theorem fc_top (E : Env K mg w) : m_fldC K ["Lift"] "top" := by
  intro C hC
  simp only [List.mem_cons, List.not_mem_nil, or_false] at hC
  rcases hC with rfl
  · exact ⟨E.cl_Lift, E.na_Lift_top⟩
theorem fc_times (E : Env K mg w) : m_fldC K ["Still", "Anew", "Lift"] "times" := by
  intro C hC
  simp only [List.mem_cons, List.not_mem_nil, or_false] at hC
  rcases hC with rfl | rfl | rfl
  · exact ⟨E.cl_Still, E.na_Still_times⟩
  · exact ⟨E.cl_Anew, E.na_Anew_times⟩
  · exact ⟨E.cl_Lift, E.na_Lift_times⟩
def tb_Kind : List (Str × Bool) := [("Kind", true), ("Still", true), ("Anew", true), ("Lift", true), ("Rule", false)]
theorem is_Kind (E : Env K mg w) : ∀ q ∈ tb_Kind, ClsOk K q.1 ∧ subB K (He.ga K q.1) (He.ga K "Kind") q.2 = true := by
  intro q hq
  simp only [tb_Kind, List.mem_cons, List.not_mem_nil, or_false] at hq
  rcases hq with rfl | rfl | rfl | rfl | rfl
  · exact ⟨⟨ownB_ok E.o_Kind, E.cl_Kind⟩, E.s_Kind_Kind⟩
  · exact ⟨⟨ownB_ok E.o_Still, E.cl_Still⟩, E.s_Still_Kind⟩
  · exact ⟨⟨ownB_ok E.o_Anew, E.cl_Anew⟩, E.s_Anew_Kind⟩
  · exact ⟨⟨ownB_ok E.o_Lift, E.cl_Lift⟩, E.s_Lift_Kind⟩
  · exact ⟨⟨ownB_ok E.o_Rule, E.cl_Rule⟩, E.s_Rule_Kind⟩
def tb_Rule : List (Str × Bool) := [("Kind", false), ("Still", false), ("Anew", false), ("Lift", false), ("Rule", true)]
theorem is_Rule (E : Env K mg w) : ∀ q ∈ tb_Rule, ClsOk K q.1 ∧ subB K (He.ga K q.1) (He.ga K "Rule") q.2 = true := by
  intro q hq
  simp only [tb_Rule, List.mem_cons, List.not_mem_nil, or_false] at hq
  rcases hq with rfl | rfl | rfl | rfl | rfl
  · exact ⟨⟨ownB_ok E.o_Kind, E.cl_Kind⟩, E.s_Kind_Rule⟩
  · exact ⟨⟨ownB_ok E.o_Still, E.cl_Still⟩, E.s_Still_Rule⟩
  · exact ⟨⟨ownB_ok E.o_Anew, E.cl_Anew⟩, E.s_Anew_Rule⟩
  · exact ⟨⟨ownB_ok E.o_Lift, E.cl_Lift⟩, E.s_Lift_Rule⟩
  · exact ⟨⟨ownB_ok E.o_Rule, E.cl_Rule⟩, E.s_Rule_Rule⟩
def T_BARRED : T := .tup [.str "any", .str "none", .str "anew", .str "lift", .str "term"]
theorem m_G_BARRED {X : Cx} {W : WX} {pos : Pos} (E : Env K X.mg w) (hg : Gl X "BARRED" := by rfl) : PE X (.Name "BARRED" pos) (tX K W (mC T_BARRED)) := m_const (pe_gr E.g_BARRED hg (by decide)) fun A H => .tup (tupAtB_ok E.e_BARRED H) (.cons (.str _) (.cons (.str _) (.cons (.str _) (.cons (.str _) (.cons (.str _) .nil)))))
end
end Tm

namespace Tm
open PySem PySem.Spec PyProof.Rows L2
noncomputable def b_is_integer : Sv := (sRet (mAnd (mUn (fIsB Cs_all "int") (mVar 0)) (mNot (mUn (fIsB Cs_all "bool") (mVar 0)))))
noncomputable def F_is_integer : Ro → Re := runF 1 1 b_is_integer
section
variable {P : Program} {w : World} {K : PySem.W.Frag} {mg : Str → Option Value} {base : Heap}
theorem sc_is_integer : FnScope ["value"] ["value"] (defScope s_is_integer) := ⟨rfl, rfl, rfl, by decide +kernel, rfl, by decide +kernel, by decide +kernel⟩
theorem fn_is_integer (E : Env K mg w) {fd : FuncData} {dvs : List V} (F : FunD K "is_integer" "is_integer" (defArgs s_is_integer) (defBody s_is_integer) (defScope s_is_integer) dvs [] (He.ga K "is_integer") fd) : FnOk P w K mg base CX0 1 (He.ga K "is_integer") fd ["value"] (spF K F_is_integer) := by
  refine F.ok sc_is_integer (fun vs H Q E h => spF_len h) (fun cdv A outer s H vs Q X hr h => ?_)
  have hu := hr.units
  exact body_ok (k := 1) (W := fun cls d _ H' => X cls d H') (g := b_is_integer) (PSs.nox (s_one (s_ret (m_and (m_isB (clsOk E) (.inl rfl) E.g_isinstance E.g_int bt_int (m_var 0)) (m_one (m_not (m_isB (clsOk E) (.inr (.inl rfl)) E.g_isinstance E.g_bool bt_bool (m_var 0)))))))) (by decide) (fun _ _ _ _ z => z) h
theorem ok_is_integer (E : Env K mg w) : Dn P w K mg base CX0 1 (He.ga K "is_integer") [] (spF K F_is_integer) :=
  dn_of (ps := ["value"]) E.f_is_integer (fun fd F => fn_is_integer E F) (fun _ _ _ _ _ _ us hl => match us, hl with | [_], _ => rfl)
end
noncomputable def b_is_length : Sv := (sRet (mAnd (mCall F_is_integer [] (mCons (mVar 0) mNil)) (mOp oGe (mVar 0) (mC (.int 1)))))
noncomputable def F_is_length : Ro → Re := runF 1 1 b_is_length
section
variable {P : Program} {w : World} {K : PySem.W.Frag} {mg : Str → Option Value} {base : Heap}
theorem sc_is_length : FnScope ["value"] ["value"] (defScope s_is_length) := ⟨rfl, rfl, rfl, by decide +kernel, rfl, by decide +kernel, by decide +kernel⟩
theorem fn_is_length (E : Env K mg w) {fd : FuncData} {dvs : List V} (F : FunD K "is_length" "is_length" (defArgs s_is_length) (defBody s_is_length) (defScope s_is_length) dvs [] (He.ga K "is_length") fd) : FnOk P w K mg base CX0 2 (He.ga K "is_length") fd ["value"] (spF K F_is_length) := by
  refine F.ok sc_is_length (fun vs H Q E h => spF_len h) (fun cdv A outer s H vs Q X hr h => ?_)
  have hu := hr.units
  exact body_ok (k := 1) (W := fun cls d _ H' => X cls d H') (g := b_is_length) (PSs.nox (s_one (s_ret (m_and (m_call (ok_is_integer (K := K) E) (hr.mono (by decide)) E.g_is_integer (fun _ => pass0) (fun _ _ => .nil) (m_cons (m_var 0) m_nil)) (m_one (m_cmp op_ge oIB_ok (m_var 0) m_int (nomark _))))))) (by decide) (fun _ _ _ _ z => z) h
theorem ok_is_length (E : Env K mg w) : Dn P w K mg base CX0 2 (He.ga K "is_length") [] (spF K F_is_length) :=
  dn_of (ps := ["value"]) E.f_is_length (fun fd F => fn_is_length E F) (fun _ _ _ _ _ _ us hl => match us, hl with | [_], _ => rfl)
end
noncomputable def b_is_name : Sv := (sSeq (sIf (mOrT (mNotT (mTst (mUn (fIsB Cs_all "str") (mVar 0)))) (mOrT (mTst (mOp oIn (mVar 0) (mC T_BARRED))) (mNotT (mTst (mChain oLe oLe (mC (.int 1)) (mB bLen (mCons (mVar 0) mNil)) (mC (.int 4))))))) (sRet (mC (.bl false))) sNext)
    (sRet (mB bAll (mCons (mLc [1] (mSeqOfS (mVar 0)) (setIm 1) mYes (mOp oIn (mVar 1) (mC (.str "abcdefghijklmnopqrstuvwxyz")))) mNil))))
noncomputable def F_is_name : Ro → Re := runF 1 2 b_is_name
section
variable {P : Program} {w : World} {K : PySem.W.Frag} {mg : Str → Option Value} {base : Heap}
theorem sc_is_name : FnScope ["value", "letter"] ["value"] (defScope s_is_name) := ⟨rfl, rfl, rfl, by decide +kernel, rfl, by decide +kernel, by decide +kernel⟩
theorem fn_is_name (E : Env K mg w) {fd : FuncData} {dvs : List V} (F : FunD K "is_name" "is_name" (defArgs s_is_name) (defBody s_is_name) (defScope s_is_name) dvs [] (He.ga K "is_name") fd) : FnOk P w K mg base CX0 1 (He.ga K "is_name") fd ["value"] (spF K F_is_name) := by
  refine F.ok sc_is_name (fun vs H Q E h => spF_len h) (fun cdv A outer s H vs Q X hr h => ?_)
  have hu := hr.units
  exact body_ok (k := 1) (W := fun cls d _ H' => X cls d H') (g := b_is_name) (PSs.nox (s_cons (s_if (PW.pt (m_por (m_tnot (m_tst (m_isB (clsOk E) (.inr (.inr (.inl rfl))) E.g_isinstance E.g_str bt_str (m_var 0)))) (m_por (m_tcmp q_in oIn_ok (m_var 0) (m_G_BARRED E) (by rfl)) (m_por1 (m_tnot (m_tchain op_le op_le oIB_ok oIB_ok m_int (m_callB (k_len K) bLen_ok E.g_len bt_len (m_cons (m_var 0) m_nil)) (m_gi E.g_MOST_LETTERS))))))) (s_one (s_ret m_bl)) s_nil)
      (s_one (s_ret (m_callB (k_all K) bAll_ok E.g_all bt_all (m_cons (m_lc (own := [("letter", 1)]) (by rfl) sc_is_name.nd (setIm_n 1) (i_str (m_var 0)) (blkOk_by (own := [("letter", 1)]) (N := ["value", "letter"]) (sc := defScope s_is_name) (by decide +kernel)) (fun _ _ _ _ _ => (g_name 1 sc_is_name.nd)) (fun _ _ _ _ _ => ts_nil) (fun _ _ _ _ _ => (m_cmp q_in oIn_ok (m_var 1) (m_gs E.g_LETTERS) (by rfl)))) m_nil)))))) (by decide) (fun _ _ _ _ z => z) h
theorem ok_is_name (E : Env K mg w) : Dn P w K mg base CX0 1 (He.ga K "is_name") [] (spF K F_is_name) :=
  dn_of (ps := ["value"]) E.f_is_name (fun fd F => fn_is_name E F) (fun _ _ _ _ _ _ us hl => match us, hl with | [_], _ => rfl)
end
noncomputable def b_is_sequence : Sv := (sRet (mUn (fIsBs Cs_all ["list", "tuple"]) (mVar 0)))
noncomputable def F_is_sequence : Ro → Re := runF 1 1 b_is_sequence
section
variable {P : Program} {w : World} {K : PySem.W.Frag} {mg : Str → Option Value} {base : Heap}
theorem sc_is_sequence : FnScope ["value"] ["value"] (defScope s_is_sequence) := ⟨rfl, rfl, rfl, by decide +kernel, rfl, by decide +kernel, by decide +kernel⟩
theorem fn_is_sequence (E : Env K mg w) {fd : FuncData} {dvs : List V} (F : FunD K "is_sequence" "is_sequence" (defArgs s_is_sequence) (defBody s_is_sequence) (defScope s_is_sequence) dvs [] (He.ga K "is_sequence") fd) : FnOk P w K mg base CX0 1 (He.ga K "is_sequence") fd ["value"] (spF K F_is_sequence) := by
  refine F.ok sc_is_sequence (fun vs H Q E h => spF_len h) (fun cdv A outer s H vs Q X hr h => ?_)
  have hu := hr.units
  exact body_ok (k := 1) (W := fun cls d _ H' => X cls d H') (g := b_is_sequence) (PSs.nox (s_one (s_ret (m_isLT (clsOk E) E.g_isinstance E.g_list E.g_tuple (m_var 0))))) (by decide) (fun _ _ _ _ z => z) h
theorem ok_is_sequence (E : Env K mg w) : Dn P w K mg base CX0 1 (He.ga K "is_sequence") [] (spF K F_is_sequence) :=
  dn_of (ps := ["value"]) E.f_is_sequence (fun fd F => fn_is_sequence E F) (fun _ _ _ _ _ _ us hl => match us, hl with | [_], _ => rfl)
end
noncomputable def b_number_in : Sv := (sSeq (sIf (mOrT (mNotT (mTst (mChain oLe oLe (mC (.int 1)) (mB bLen (mCons (mVar 0) mNil)) (mC (.int 19))))) (mNotT (mTst (mB bAll (mCons (mLc [1] (mSeqOfS (mVar 0)) (setIm 1) mYes (mOp oIn (mVar 1) (mC (.str "0123456789")))) mNil))))) (sRet (mC .non)) sNext)
    (sRet (mIf (mAndT (mTst (mOp oEq (mOp oIx (mVar 0) (mC (.int 0))) (mC (.str "0")))) (mTst (mOp oGt (mB bLen (mCons (mVar 0) mNil)) (mC (.int 1))))) (mC .non) (mB bInt (mCons (mVar 0) mNil)))))
noncomputable def F_number_in : Ro → Re := runF 1 2 b_number_in
section
variable {P : Program} {w : World} {K : PySem.W.Frag} {mg : Str → Option Value} {base : Heap}
theorem sc_number_in : FnScope ["word", "sign"] ["word"] (defScope s_number_in) := ⟨rfl, rfl, rfl, by decide +kernel, rfl, by decide +kernel, by decide +kernel⟩
theorem fn_number_in (E : Env K mg w) {fd : FuncData} {dvs : List V} (F : FunD K "number_in" "number_in" (defArgs s_number_in) (defBody s_number_in) (defScope s_number_in) dvs [] (He.ga K "number_in") fd) : FnOk P w K mg base CX0 1 (He.ga K "number_in") fd ["word"] (spF K F_number_in) := by
  refine F.ok sc_number_in (fun vs H Q E h => spF_len h) (fun cdv A outer s H vs Q X hr h => ?_)
  have hu := hr.units
  exact body_ok (k := 1) (W := fun cls d _ H' => X cls d H') (g := b_number_in) (PSs.nox (s_cons (s_if (PW.pt (m_por (m_tnot (m_tchain op_le op_le oIB_ok oIB_ok m_int (m_callB (k_len K) bLen_ok E.g_len bt_len (m_cons (m_var 0) m_nil)) (m_gi E.g_MOST_SIGNS))) (m_por1 (m_tnot (m_tst (m_callB (k_all K) bAll_ok E.g_all bt_all (m_cons (m_lc (own := [("sign", 1)]) (by rfl) sc_number_in.nd (setIm_n 1) (i_str (m_var 0)) (blkOk_by (own := [("sign", 1)]) (N := ["word", "sign"]) (sc := defScope s_number_in) (by decide +kernel)) (fun _ _ _ _ _ => (g_name 1 sc_number_in.nd)) (fun _ _ _ _ _ => ts_nil) (fun _ _ _ _ _ => (m_cmp q_in oIn_ok (m_var 1) (m_gs E.g_SIGNS) (by rfl)))) m_nil))))))) (s_one (s_ret m_non)) s_nil)
      (s_one (s_ret (m_ifE (PW.pt (m_pand (m_tcmp (q_eq hu) oEq_ok (m_ix (k_ix K) oIx_ok (m_var 0) m_int (fun _ _ => rfl)) m_str (nomark _)) (m_pand1 (m_tcmp op_gt oIB_ok (m_callB (k_len K) bLen_ok E.g_len bt_len (m_cons (m_var 0) m_nil)) m_int (nomark _))))) m_non (m_callTy q_int bInt_ok E.g_int bt_int (m_cons (m_var 0) m_nil))))))) (by decide) (fun _ _ _ _ z => z) h
theorem ok_number_in (E : Env K mg w) : Dn P w K mg base CX0 1 (He.ga K "number_in") [] (spF K F_number_in) :=
  dn_of (ps := ["word"]) E.f_number_in (fun fd F => fn_number_in E F) (fun _ _ _ _ _ _ us hl => match us, hl with | [_], _ => rfl)
end
end Tm

namespace Tm
open PySem PySem.Spec PyProof.Rows L2
local macro_rules | `(tactic| walk_at "mir") => `(tactic| simp only [ap_mVar, ap_mC, ap_mOp, ap_mUn, ap_mNil, ap_mCons, ap_mB, ap_mL, ap_mNotT, ap_mAndT, ap_mOrT, ap_mIf, ap_mYes, ap_mNoPart, ap_sNext, ap_sRet, ap_sExpr, ap_sAsg, ap_sIf, ap_sFor, ap_mCall, ap_mMake, ap_mCm, ap_mSl, ap_bind_ok, ap_lift, ap_seq, ap_mTst, ap_mAnd, ap_mOr, ap_mNot, ap_mChain, ap_mPart, ap_mSeqOf, ap_mSeqOfS, ap_mTxt, ap_mStar, ap_mMeth, ap_mEnum, ap_mLc, ap_mDc, ap_ite, ouE_ok, re_rt, re_nx, runF, outA, setIm, callV, mFldS, fK_name, fK_times, fK_days, fK_left, fK_by, fK_top, fR_length, fR_rests, fR_cap, fR_kinds, fR_names, ap_mJs, mJs_nil, sFldS, putN, Sl.any, Sl.tr, Sl.up, wipeO, resto, fTup, fLst, v_lt, v_le, v_gt, v_ge, v_sub, v_add, nix, if_true, if_false, ite_true, ite_false, reduceIte, Bool.false_eq_true, Bool.not_true, Bool.not_false, Bool.true_eq_false, Option.bind_some, Option.map_some, Option.bind_none, Option.map_none, List.map_cons, List.map_nil, List.cons_append, List.nil_append, List.append_nil, List.length_cons, List.length_nil, List.getElem?_cons_zero, List.getElem?_cons_succ, List.set_cons_zero, List.set_cons_succ, List.replicate_succ, List.replicate_zero, Nat.reduceAdd, Nat.reduceSub, Nat.reduceLeDiff, List.mapIdx_cons, List.mapIdx_nil, List.mem_cons, List.not_mem_nil, or_false, false_or, or_self, or_true, List.getD_cons_zero, List.getD_cons_succ, Nat.reduceEqDiff, Nat.zero_ne_one, Nat.one_ne_zero, reduceCtorEq, ap_sPar2, ap_sGive, ap_sOwnL, ap_setOw, ap_sApp, isL, ap_chL, ap_gTupM, ap_gTup0, ap_gTup, ap_mCallR, ap_callR, isO, ap_mOpS, ap_mLenS, ap_mPopS, ap_sParLN, notDeal, scaT, Option.isSome_some, seqT_lst, seqT_tup, true_and, and_true, Nat.reduceLT, Nat.lt_add_one, and_self])
local macro_rules | `(tactic| walk_at "js") => `(tactic| (rw [if_pos (by simp only [len_app]; omega)]; try walk_at "mir"))
local macro_rules | `(tactic| walk_at "mih") => `(tactic| simp only [ap_mVar, ap_mC, ap_mOp, ap_mUn, ap_mNil, ap_mCons, ap_mB, ap_mL, ap_mNotT, ap_mAndT, ap_mOrT, ap_mIf, ap_mYes, ap_mNoPart, ap_sNext, ap_sRet, ap_sExpr, ap_sAsg, ap_sIf, ap_sFor, ap_mCall, ap_mMake, ap_mCm, ap_mSl, ap_bind_ok, ap_lift, ap_seq, ap_mTst, ap_mAnd, ap_mOr, ap_mNot, ap_mChain, ap_mPart, ap_mSeqOf, ap_mSeqOfS, ap_mTxt, ap_mStar, ap_mMeth, ap_mEnum, ap_mLc, ap_mDc, ap_ite, ouE_ok, re_rt, re_nx, runF, outA, setIm, callV, mFldS, fK_name, fK_times, fK_days, fK_left, fK_by, fK_top, fR_length, fR_rests, fR_cap, fR_kinds, fR_names, ap_mJs, mJs_nil, sFldS, putN, Sl.any, Sl.tr, Sl.up, wipeO, resto, fTup, fLst, v_lt, v_le, v_gt, v_ge, v_sub, v_add, nix, if_true, if_false, ite_true, ite_false, reduceIte, Bool.false_eq_true, Bool.not_true, Bool.not_false, Bool.true_eq_false, Option.bind_some, Option.map_some, Option.bind_none, Option.map_none, List.map_cons, List.map_nil, List.cons_append, List.nil_append, List.append_nil, List.length_cons, List.length_nil, List.getElem?_cons_zero, List.getElem?_cons_succ, List.set_cons_zero, List.set_cons_succ, List.replicate_succ, List.replicate_zero, Nat.reduceAdd, Nat.reduceSub, Nat.reduceLeDiff, List.mapIdx_cons, List.mapIdx_nil, List.mem_cons, List.not_mem_nil, or_false, false_or, or_self, or_true, List.getD_cons_zero, List.getD_cons_succ, Nat.reduceEqDiff, Nat.zero_ne_one, Nat.one_ne_zero, reduceCtorEq, ap_sPar2, ap_sGive, ap_sOwnL, ap_setOw, ap_sApp, isL, ap_chL, ap_gTupM, ap_gTup0, ap_gTup, ap_mCallR, ap_callR, isO, ap_mOpS, ap_mLenS, ap_mPopS, ap_sParLN, notDeal, scaT, Option.isSome_some, seqT_lst, seqT_tup, true_and, and_true, Nat.reduceLT, Nat.lt_add_one, and_self, decide_true, decide_false, bLen_lst, bLen_tup, oSl_lst, oSl_tup, v_isN0, v_isNi, v_isNs, v_isNt, v_notN0, v_notNi, v_neg, v_int, v_tupL, v_tupT, v_eqs, v_nes, v_eqi, v_nei, *])
local macro_rules | `(tactic| walk_at "ro") => `(tactic| simp only [runF, List.length_cons, List.length_nil, Nat.reduceAdd, Nat.reduceSub, if_true, reduceIte, List.replicate_succ, List.replicate_zero, List.cons_append, List.nil_append, List.set_cons_zero, List.set_cons_succ])
section
theorem F_is_integer_int (i : Int) : F_is_integer [.im (.int i)] = .ok (.bl true) [.im (.int i)] := by rfl
theorem F_is_length_int (i : Int) : F_is_length [.im (.int i)] = .ok (.bl (decide (1 ≤ i))) [.im (.int i)] := by rfl
theorem F_is_length_non : F_is_length [.im .non] = .ok (.bl false) [.im .non] := by rfl
theorem F_is_sequence_lst (l : List T) : F_is_sequence [.im (.lst l)] = .ok (.bl true) [.im (.lst l)] := by rfl
theorem F_is_sequence_tup (l : List T) : F_is_sequence [.im (.tup l)] = .ok (.bl true) [.im (.tup l)] := by rfl
theorem isStr_str (z : Str) : fIsB Cs_all "str" (.str z) = some (.bl true) := by rfl
theorem in_barred (z : Str) : oIn (.str z) T_BARRED = some (.bl (decide (z ∈ barred))) := by
  have e : inT (.str z) T_BARRED = some (inV (.str z) (barred.map V.str)) := rfl
  unfold oIn oInF
  rw [e, inV_str]
  rfl
theorem signs_in (c : Nat) (s : Str) : oIn (.str ⟨#[c]⟩) (.str s) = some (.bl (decide (c ∈ TL.tl s))) := by rfl
theorem F_is_name_str (z : Str) (hz : z.length ≤ 1000000) : F_is_name [.im (.str z)] = .ok (.bl (nameB z)) [.im (.str z)] := by
  have lc : lcL [1] (setIm 1) mYes (mOp oIn (mVar 1) (mC (.str "abcdefghijklmnopqrstuvwxyz"))) (z.cps.toList.map fun c => T.str ⟨#[c]⟩) [] [.im (.str z), .un] = .ok ((TL.tl z).map fun c => T.bl (letterB c)) [.im (.str z), .un] := by
    rw [lcL_map (fun t => match t with | .str a => .bl (letterB (a.cps.toList.headD 0)) | _ => .non) _ (by rw [List.length_map]; exact hz) (fun x hx => ?_)]
    · rw [List.map_map]
      rfl
    · obtain ⟨c, hc, rfl⟩ := List.mem_map.mp hx
      refine ⟨_, rfl, [.im (.str z), .im (.str ⟨#[c]⟩)], ?_, rfl⟩
      show Ev.lift (oIn (.str ⟨#[c]⟩) (.str "abcdefghijklmnopqrstuvwxyz")) _ = _
      rw [signs_in, letter_mem]
      rfl
  have ln : bLen [.str z] = some (.int z.length) := by
    show (if z.length ≤ 1000000 then some (T.int z.length) else none) = _
    rw [if_pos hz]
  unfold F_is_name b_is_name
  by_cases hb : z ∈ barred
  · have e : nameB z = false := by simp [nameB, hb]
    walk_at "mir"
    rw [isStr_str]
    walk_at "mir"
    rw [in_barred, decide_eq_true hb, e]
    rfl
  · walk_at "mir"
    rw [isStr_str]
    walk_at "mir"
    rw [in_barred, decide_eq_false hb]
    walk_at "mir"
    rw [ln]
    walk_at "mir"
    by_cases h1 : 1 ≤ z.length
    · rw [decide_eq_true (by omega : (1 : Int) ≤ (z.length : Int))]
      walk_at "mir"
      by_cases h2 : z.length ≤ 4
      · rw [decide_eq_true (by omega : (z.length : Int) ≤ 4)]
        walk_at "mir"
        rw [lc]
        walk_at "mir"
        have ba : bAll [.lst ((TL.tl z).map fun c => T.bl (letterB c))] = some (.bl ((TL.tl z).all letterB)) := by
          have : ((TL.tl z).map fun c => T.bl (letterB c)) = ((TL.tl z).map letterB).map T.bl := by rw [List.map_map]; rfl
          rw [this, bAll_map, List.all_map]
          rfl
        rw [ba]
        walk_at "mir"
        have e : nameB z = (TL.tl z).all letterB := by simp [nameB, hb, h1, h2]
        rw [e]
      · rw [decide_eq_false (by omega : ¬ (z.length : Int) ≤ 4)]
        walk_at "mir"
        have e : nameB z = false := by simp [nameB, h2]
        rw [e]
    · rw [decide_eq_false (by omega : ¬ (1 : Int) ≤ (z.length : Int))]
      walk_at "mir"
      have e : nameB z = false := by simp [nameB, h1]
      rw [e]
theorem F_number_in_str (z : Str) (hz : z.length ≤ 1000000) : F_number_in [.im (.str z)] = .ok (tvT (numIn z)) [.im (.str z)] := by
  have lc : lcL [1] (setIm 1) mYes (mOp oIn (mVar 1) (mC (.str "0123456789"))) (z.cps.toList.map fun c => T.str ⟨#[c]⟩) [] [.im (.str z), .un] = .ok ((TL.tl z).map fun c => T.bl (digitB c)) [.im (.str z), .un] := by
    rw [lcL_map (fun t => match t with | .str a => .bl (digitB (a.cps.toList.headD 0)) | _ => .non) _ (by rw [List.length_map]; exact hz) (fun x hx => ?_)]
    · rw [List.map_map]
      rfl
    · obtain ⟨c, hc, rfl⟩ := List.mem_map.mp hx
      refine ⟨_, rfl, [.im (.str z), .im (.str ⟨#[c]⟩)], ?_, rfl⟩
      show Ev.lift (oIn (.str ⟨#[c]⟩) (.str "0123456789")) _ = _
      rw [signs_in, sign_mem]
      rfl
  have ba : bAll [.lst ((TL.tl z).map fun c => T.bl (digitB c))] = some (.bl ((TL.tl z).all digitB)) := by
    have : ((TL.tl z).map fun c => T.bl (digitB c)) = ((TL.tl z).map digitB).map T.bl := by rw [List.map_map]; rfl
    rw [this, bAll_map, List.all_map]
    rfl
  unfold F_number_in b_number_in
  walk_at "mir"
  rw [bLen_str hz]
  walk_at "mir"
  by_cases h1 : 1 ≤ z.length
  · rw [decide_eq_true (by omega : (1 : Int) ≤ (z.length : Int))]
    walk_at "mir"
    by_cases h2 : z.length ≤ 19
    · rw [decide_eq_true (by omega : (z.length : Int) ≤ 19)]
      walk_at "mir"
      rw [lc]
      walk_at "mir"
      rw [ba]
      have e0 : numIn z = if (TL.tl z).all digitB = true then (if (decide ((TL.tl z).head? = some 48) && decide (1 < z.length)) = true then none else some ((NumText.digitsVal (TL.tl z) : Nat) : Int)) else none := by
        unfold numIn
        rw [if_pos (by simp [h1, h2])]
      cases er : (TL.tl z).all digitB with
      | false =>
        rw [er] at e0
        rw [e0]
        rfl
      | true =>
        rw [er, if_pos rfl] at e0
        walk_at "mir"
        obtain ⟨c, l, ecl⟩ : ∃ c l, TL.tl z = c :: l := by
          cases e : TL.tl z with
          | nil =>
            rw [TL.len_tl, e] at h1
            simp at h1
          | cons c l => exact ⟨c, l, rfl⟩
        have ix : oIx (.str z) (.int 0) = some (.str ⟨#[c]⟩) := by
          show (if z.length ≤ 1000000 then (atI (TL.tl z) 0).map (fun c => T.str ⟨#[c]⟩) else none) = _
          rw [if_pos hz, ecl, show atI (c :: l) 0 = some c by simp [atI, ixN]]
          rfl
        have e48 : ("0" : Str) = ⟨#[48]⟩ := by decide +kernel
        have eq0 : oEq (.str ⟨#[c]⟩) (.str "0") = some (.bl (decide ((TL.tl z).head? = some 48))) := by
          show some (T.bl (decide ((⟨#[c]⟩ : Str) = "0"))) = _
          rw [ecl, e48]
          by_cases hc : c = 48
          · rw [hc]
            simp
          · simp [hc]
        have ti : bInt [.str z] = some (.int ((NumText.digitsVal (TL.tl z) : Nat) : Int)) := by
          have := intText_digits (digits_all er) (by rw [show z.cps.toList = c :: l from ecl]; simp) (by omega)
          show (match PySem.intText? z with | some n => if z.length ≤ 640 then some (T.int n) else none | none => none) = _
          rw [this]
          dsimp only
          rw [if_pos (by omega)]
        rw [ix]
        walk_at "mir"
        rw [eq0]
        by_cases h4 : (TL.tl z).head? = some 48
        · rw [decide_eq_true h4] at e0 ⊢
          walk_at "mir"
          rw [bLen_str hz]
          walk_at "mir"
          by_cases h5 : 1 < z.length
          · rw [decide_eq_true h5] at e0
            rw [decide_eq_true (by omega : (1 : Int) < (z.length : Int)), e0]
            rfl
          · rw [decide_eq_false h5] at e0
            rw [decide_eq_false (by omega : ¬ (1 : Int) < (z.length : Int)), e0]
            walk_at "mir"
            rw [ti]
            rfl
        · rw [decide_eq_false h4] at e0 ⊢
          rw [e0]
          walk_at "mir"
          rw [ti]
          rfl
    · rw [decide_eq_false (by omega : ¬ (z.length : Int) ≤ 19)]
      walk_at "mir"
      have e : numIn z = none := by simp [numIn, h2]
      rw [e]
      rfl
  · rw [decide_eq_false (by omega : ¬ (1 : Int) ≤ (z.length : Int))]
    walk_at "mir"
    have e : numIn z = none := by simp [numIn, h1]
    rw [e]
    rfl
end

end Tm

namespace Tm
open PySem PySem.Spec PyProof.Rows L2
section
variable {P : Program} {w : World} {K : PySem.W.Frag} {mg : Str → Option Value} {base : Heap}
def DealX (H : Hp) (d g : Addr) (gs : List Int) (mm : Int) : Prop := H d = some (.lst [.ref g, .int mm]) ∧ H g = some (.lst (gs.map V.int)) ∧ gs.length ≤ 60
theorem sc__law_draw : FnScope ["_law_deal_here", "_law_many", "_law_rest"] ["_law_deal_here", "_law_many"] (defScope s__law_draw) := ⟨rfl, rfl, rfl, by decide +kernel, rfl, by decide +kernel, by decide +kernel⟩
theorem ok__law_drawC (E : Env K mg w) : Dn P w K mg base CX0 1 (He.ga K "_law_draw") [] (spDrawC 31) := by
  refine dn_of (ps := ["_law_deal_here", "_law_many"]) E.f__law_draw (fun fd F => ?_) (fun _ _ _ _ _ _ us hl => match us, hl with | [_, _], _ => rfl)
  refine F.ok sc__law_draw (fun vs H Q E h => ?_) (fun cdv A outer s H vs Q X hr h => ?_)
  · obtain ⟨d, g, n, gs, mm, rfl, _⟩ := h
    rfl
  · obtain ⟨d, g, n, gs0, mm, rfl, hd0, hg0, nn, hl0, hn, hn2, k⟩ := h
    have hu := hr.units
    have cd : CDivW 0 n := wide_div (b := 65) hn (by omega) (by decide) (by decide)
    refine ⟨_, PSs.nox (pss_cons (ps_while PassesOwn.never (PW.pt (pw_and (pt_cmpR (op_neNil K hu) (pe_ix (k_ixL K) (pv 0) pe_int (fun _ _ => rfl)) (pe_lst pa_nil) (nomark _)) (pw_and1 (pt_cmpR op_eq (pe_ix (k_ixL K) (pe_ix (k_ixL K) (pv 0) pe_int (fun _ _ => rfl)) (pe_un un_neg pe_int) (fun _ _ => rfl)) pe_int (nomark _)))))
      (pss_one (ps_expr (k_bm0 K PySem.F.plainAttrs_list PySem.F.slot_list_pop PySem.F.type_list_pop mt_pop (pe_ix (k_ixL K) (pv 0) pe_int (fun _ _ => rfl)) ))))
      (pss_cons (ps_if (pt_cmpR (op_neNil K hu) (pe_ix (k_ixL K) (pv 0) pe_int (fun _ _ => rfl)) (pe_lst pa_nil) (nomark _)) (pss_cons (ps_set (i := 2) sc__law_draw.nd rfl (Or.inl rfl) (k_bm0 K PySem.F.plainAttrs_list PySem.F.slot_list_pop PySem.F.type_list_pop mt_pop (pe_ix (k_ixL K) (pv 0) pe_int (fun _ _ => rfl)) ))
      (pss_cons (ps_expr (k_bm K PySem.F.plainAttrs_list PySem.F.slot_list_append PySem.F.type_list_append mt_append (pe_ix (k_ixL K) (pv 0) pe_int (fun _ _ => rfl)) (pa_cons (pe_op op_fdivW (pv 2) (pv 1)) pa_nil)))
      (pss_one (ps_ret (pe_op op_mod (pe_callTy call_int1 (by rfl) E.g_int bt_int (pa_cons (pv 2) pa_nil)) (pv 1)))))) pss_nil)
      (pss_cons (ps_asg (pe_op op_mod (pe_callTy call_int1 (by rfl) E.g_int bt_int (pa_cons (pe_op op_add (pe_op op_mul (pe_ix (k_ixL K) (pv 0) pe_int (fun _ _ => rfl)) pe_int) pe_int) pa_nil)) pe_int) (pg_sub (pv 0) pe_int set_list))
      (pss_one (ps_ret (pe_op op_mod (pe_callTy call_int1 (by rfl) E.g_int bt_int (pa_cons (pe_op op_fdiv (pe_ix (k_ixL K) (pv 0) pe_int (fun _ _ => rfl)) pe_int) pa_nil)) (pv 1))))))), ?_⟩
    -- the test of the loop, and of the if: the list, a new empty one
    refine ⟨fun m σ H' => ∃ gs, m = gs.length ∧ σ = [some (.ref d), some (.int n), none] ∧ DealX H' d g gs mm ∧ strip0 gs = strip0 gs0 ∧ But d g H H', ⟨_, gs0, rfl, rfl, ⟨hd0, hg0, hl0⟩, rfl, But.refl H⟩, ?_⟩
    rintro m σ H1 ⟨gs, rfl, rfl, ⟨hd, hg, hl⟩, hst, b1⟩
    refine ⟨_, rfl, d, _, 0, _, rfl, rfl, .inl (.inl hd), rfl, (by show 0 ≤ sizeLine; decide), fun p hp => ?_⟩
    have ap : Apart d g p := ⟨(fun z => by rw [z, hd] at hp; cases hp), (fun z => by rw [z, hg] at hp; cases hp)⟩
    have hg2 : upd H1 p (.lst []) g = some (.lst (gs.map V.int)) := by rw [upd_ne ap.2.symm]; exact hg
    have hd2 : upd H1 p (.lst []) d = some (.lst [.ref g, .int mm]) := by rw [upd_ne ap.1.symm]; exact hd
    refine ⟨g, p, _, rfl, rfl, .inl (.inl hg2), lay_ints _, upd_same, _, rfl, ?_⟩
    have b2 : But d g H (upd H1 p (.lst [])) := b1.trans (But.same (same_new hp))
    generalize upd H1 p (.lst []) = H2 at b2 hd2 hg2 ⊢
    clear hp ap hd hg b1
    rcases nil_or_snoc gs with rfl | ⟨l, y, rfl⟩
    · -- no great number is left
      refine iteF (iteF ?_)
      refine ⟨_, rfl, d, _, 0, _, rfl, rfl, .inl (.inl hd2), rfl, (by show 0 ≤ sizeLine; decide), fun p hp => ?_⟩
      have ap : Apart d g p := ⟨(fun z => by rw [z, hd2] at hp; cases hp), (fun z => by rw [z, hg2] at hp; cases hp)⟩
      have hg3 : upd H2 p (.lst []) g = some (.lst (([] : List Int).map V.int)) := by rw [upd_ne ap.2.symm]; exact hg2
      have hd3 : upd H2 p (.lst []) d = some (.lst [.ref g, .int mm]) := by rw [upd_ne ap.1.symm]; exact hd2
      refine ⟨g, p, _, rfl, rfl, .inl (.inl hg3), lay_ints _, upd_same, _, rfl, ?_⟩
      have b3 : But d g H (upd H2 p (.lst [])) := b2.trans (But.same (same_new hp))
      generalize upd H2 p (.lst []) = H3 at b3 hd3 hg3 ⊢
      refine iteF ?_
      refine ⟨_, rfl, d, _, 1, _, rfl, rfl, .inl (.inl hd3), rfl, _, _, rfl, rfl, .inr ⟨by decide, by decide⟩, _, _, rfl, rfl, .inl ⟨_, rfl, _, _, rfl, rfl, (by show (0 : Int) < 2147483647; decide), ?_⟩⟩
      refine ⟨_, rfl, d, _, 1, 1, rfl, rfl, hd3, rfl, ?_⟩
      have hpos2 : 0 ≤ (mm * 48271 + 31) % 2147483647 := Int.emod_nonneg _ (by decide)
      obtain ⟨m2, em⟩ : ∃ m2, m2 = (mm * 48271 + 31) % 2147483647 := ⟨_, rfl⟩
      rw [← em] at hpos2
      show (fun σ' H' => _) _ (upd H3 d (.lst [.ref g, .int ((mm * 48271 + 31) % 2147483647)]))
      rw [← em]
      have hd4 : upd H3 d (.lst [.ref g, .int m2]) d = some (.lst [.ref g, .int m2]) := upd_same
      have hg4 : upd H3 d (.lst [.ref g, .int m2]) g = some (.lst (([] : List Int).map V.int)) := by rw [upd_ne nn.symm]; exact hg3
      have b4 : But d g H (upd H3 d (.lst [.ref g, .int m2])) := fun c u n e => by rw [upd_ne n.1]; exact b3 c u n e
      refine ⟨_, rfl, d, _, 1, _, rfl, rfl, .inl (.inl hd4), rfl, _, _, rfl, rfl, ⟨by decide, by decide⟩, .inl ⟨_, rfl, _, rfl, _, _, rfl, rfl, hn, ?_⟩⟩
      have ef : drawF 31 gs0 mm n = ((m2 / 8) % n, [], m2) := by
        unfold drawF
        rw [← hst, strip0_nil, em]
        rfl
      have k' := k (upd H3 d (.lst [.ref g, .int m2]))
      rw [ef] at k'
      exact k' hd4 hg4 b4
    · have e1 : (!((l ++ [y]).map V.int).isEmpty) = true := by simp
      have hl' : l.length ≤ 60 := by simp at hl; omega
      rw [e1]
      refine iteT ?_
      rw [List.map_append] at hg2
      refine ⟨_, rfl, d, _, 0, _, rfl, rfl, .inl (.inl hd2), rfl, _, rfl, g, _, -1, _, rfl, rfl, .inl (.inl hg2), atI_last _ _, rfl, _, rfl, ?_⟩
      by_cases h0 : y = 0
      · -- the last one is used up
        subst h0
        refine iteT ⟨fun σ' H' => ∃ m', m' < (l ++ [0]).length ∧ ∃ gs, m' = gs.length ∧ σ' = [some (.ref d), some (.int n), none] ∧ DealX H' d g gs mm ∧ strip0 gs = strip0 gs0 ∧ But d g H H', fun σ' H' z => z, ?_⟩
        refine ⟨_, rfl, d, _, 0, _, rfl, rfl, .inl (.inl hd2), rfl, .inl ⟨rfl, _, .inl (.inl hg2)⟩, g, _, .int 0, rfl, rfl, hg2, by simp, ?_⟩
        refine ⟨l.length, by simp, l, rfl, rfl, ⟨by rw [upd_ne nn]; exact hd2, ?_, hl'⟩, by rw [← hst, strip0_zero], fun c u nc e => by rw [upd_ne nc.2]; exact b2 c u nc e⟩
        rw [upd_same]
        simp
      · have e2 : decide (V.int y = V.int 0) = false := decide_eq_false fun z => h0 (V.int.inj z)
        show (if decide (V.int y = V.int 0) = true then _ else _)
        rw [e2]
        refine iteF ?_
        -- a digit of the last one
        refine ⟨_, rfl, d, _, 0, _, rfl, rfl, .inl (.inl hd2), rfl, (by show 0 ≤ sizeLine; decide), fun p hp => ?_⟩
        have ap : Apart d g p := ⟨(fun z => by rw [z, hd2] at hp; cases hp), (fun z => by rw [z, hg2] at hp; cases hp)⟩
        have hg3 : upd H2 p (.lst []) g = some (.lst (l.map V.int ++ [y].map V.int)) := by rw [upd_ne ap.2.symm]; exact hg2
        have hd3 : upd H2 p (.lst []) d = some (.lst [.ref g, .int mm]) := by rw [upd_ne ap.1.symm]; exact hd2
        refine ⟨g, p, _, rfl, rfl, .inl (.inl hg3), (by rw [← List.map_append]; exact lay_ints _), upd_same, _, rfl, ?_⟩
        have b3 : But d g H (upd H2 p (.lst [])) := b2.trans (But.same (same_new hp))
        generalize upd H2 p (.lst []) = H3 at b3 hd3 hg3 ⊢
        rw [show (!(l.map V.int ++ [y].map V.int).isEmpty) = true by simp]
        refine iteT ?_
        refine ⟨_, rfl, d, _, 0, _, rfl, rfl, .inl (.inl hd3), rfl, .inl ⟨rfl, _, .inl (.inl hg3)⟩, g, _, .int y, rfl, rfl, hg3, by simp, ?_⟩
        have hg4 : upd H3 g (.lst (l.map V.int ++ [y].map V.int).dropLast) g = some (.lst (l.map V.int)) := by
          rw [upd_same]
          simp
        have hd4 : upd H3 g (.lst (l.map V.int ++ [y].map V.int).dropLast) d = some (.lst [.ref g, .int mm]) := by rw [upd_ne nn]; exact hd3
        have b4 : But d g H (upd H3 g (.lst (l.map V.int ++ [y].map V.int).dropLast)) := fun c u nc e => by rw [upd_ne nc.2]; exact b3 c u nc e
        generalize upd H3 g (.lst (l.map V.int ++ [y].map V.int).dropLast) = H4 at b4 hd4 hg4 ⊢
        refine ⟨_, rfl, d, _, 0, _, rfl, rfl, .inl (.inl hd4), rfl, .inl ⟨rfl, _, .inl (.inl hg4)⟩, _, rfl, _, rfl, _, _, rfl, rfl, cd, g, _, _, rfl, rfl, hg4, ?_, ?_⟩
        · rw [List.length_map]
          exact Nat.lt_of_le_of_lt hl' (by decide)
        have hg5 : upd H4 g (.lst (l.map V.int ++ [V.int (y / n)])) g = some (.lst ((l ++ [y / n]).map V.int)) := by
          rw [upd_same, List.map_append]
          rfl
        have hd5 : upd H4 g (.lst (l.map V.int ++ [V.int (y / n)])) d = some (.lst [.ref g, .int mm]) := by rw [upd_ne nn]; exact hd4
        have b5 : But d g H (upd H4 g (.lst (l.map V.int ++ [V.int (y / n)]))) := fun c u nc e => by rw [upd_ne nc.2]; exact b4 c u nc e
        refine ⟨_, rfl, .inl ⟨_, rfl, _, rfl, _, _, rfl, rfl, hn, ?_⟩⟩
        have ef : drawF 31 gs0 mm n = (y % n, l ++ [y / n], mm) := by
          unfold drawF
          rw [← hst, strip0_snoc l h0]
          simp
        have k' := k (upd H4 g (.lst (l.map V.int ++ [V.int (y / n)])))
        rw [ef] at k'
        exact k' hd5 hg5 b5
theorem ok__law_draw (E : Env K mg w) : Dn P w K mg base CX0 1 (He.ga K "_law_draw") [] (spF K (drawM 31)) := (ok__law_drawC E).imp fun _ _ _ _ h => draw_imp h
noncomputable def F__law_draw : Ro → Re := drawM 31
end

end Tm

namespace Tm
open PySem PySem.Spec PyProof.Rows L2
noncomputable def b__law_pick : Sv := (sRet (mOp oIx (mVar 1) (mCallR 0 F__law_draw [] (mCons (mB bLen (mCons (mVar 1) mNil)) mNil))))
noncomputable def F__law_pick : Ro → Re := runF 2 2 b__law_pick
section
variable {P : Program} {w : World} {K : PySem.W.Frag} {mg : Str → Option Value} {base : Heap}
theorem sc__law_pick : FnScope ["_law_deal_here", "_law_some"] ["_law_deal_here", "_law_some"] (defScope s__law_pick) := ⟨rfl, rfl, rfl, by decide +kernel, rfl, by decide +kernel, by decide +kernel⟩
theorem fn__law_pick (E : Env K mg w) {fd : FuncData} {dvs : List V} (F : FunD K "_law_pick" "_law_pick" (defArgs s__law_pick) (defBody s__law_pick) (defScope s__law_pick) dvs [] (He.ga K "_law_pick") fd) : FnOk P w K mg base CX0 2 (He.ga K "_law_pick") fd ["_law_deal_here", "_law_some"] (spF K F__law_pick) := by
  refine F.ok sc__law_pick (fun vs H Q E h => spF_len h) (fun cdv A outer s H vs Q X hr h => ?_)
  have hu := hr.units
  exact body_ok (k := 2) (W := fun cls d _ H' => X cls d H') (g := b__law_pick) (PSs.nox (s_one (s_ret (m_ix (k_ix K) oIx_ok (m_var 1) (m_callR 0 (ok__law_draw (K := K) E) (hr.mono (by decide)) E.g__law_draw (fun _ => pass0) (fun _ _ => .nil) (m_cons (m_callB (k_len K) bLen_ok E.g_len bt_len (m_cons (m_var 1) m_nil)) m_nil)) (fun _ _ => rfl))))) (by decide) (fun _ _ _ _ z => z) h
theorem ok__law_pick (E : Env K mg w) : Dn P w K mg base CX0 2 (He.ga K "_law_pick") [] (spF K F__law_pick) :=
  dn_of (ps := ["_law_deal_here", "_law_some"]) E.f__law_pick (fun fd F => fn__law_pick E F) (fun _ _ _ _ _ _ us hl => match us, hl with | [_, _], _ => rfl)
end
noncomputable def b__law_mixed : Sv := (sSeq (sParLN 2 3 (mVar 1))
    (sSeq (sWhile (mTst (mOpS oNe 2 (mB fLst mNil)))
    (sApp 3 (mPopS 2 (mCallR 0 F__law_draw [] (mCons (mLenS 2) mNil)))))
    (sSeq (sGive 3) (sRet (mVar 3)))))
noncomputable def F__law_mixed : Ro → Re := runF 2 4 b__law_mixed
section
variable {P : Program} {w : World} {K : PySem.W.Frag} {mg : Str → Option Value} {base : Heap}
theorem sc__law_mixed : FnScope ["_law_deal_here", "_law_some", "_law_others", "_law_found"] ["_law_deal_here", "_law_some"] (defScope s__law_mixed) := ⟨rfl, rfl, rfl, by decide +kernel, rfl, by decide +kernel, by decide +kernel⟩
theorem fn__law_mixed (E : Env K mg w) {fd : FuncData} {dvs : List V} (F : FunD K "_law_mixed" "_law_mixed" (defArgs s__law_mixed) (defBody s__law_mixed) (defScope s__law_mixed) dvs [] (He.ga K "_law_mixed") fd) : FnOk P w K mg base CX0 2 (He.ga K "_law_mixed") fd ["_law_deal_here", "_law_some"] (spF K F__law_mixed) := by
  refine F.ok sc__law_mixed (fun vs H Q E h => spF_len h) (fun cdv A outer s H vs Q X hr h => ?_)
  have hu := hr.units
  exact body_ok (k := 2) (W := fun cls d _ H' => X cls d H') (g := b__law_mixed) (PSs.nox (s_cons (s_parLN 2 3 sc__law_mixed.nd E.g_list (m_var 1))
      (s_cons (s_while PassesOwn.never (m_tcmpS 2 (q_ne hu) oNe_ok (m_lst m_nil) (nomark _))
      (s_one (s_app 3 (m_popS 2 (m_callR 0 (ok__law_draw (K := K) E) (hr.mono (by decide)) E.g__law_draw (fun _ => pass0) (fun _ _ => .nil) (m_cons (m_lenS 2 E.g_len) m_nil))))))
      (ghost_give (i := 3) (s_one (s_ret (m_var 3))))))) (by decide) (fun _ _ _ _ z => z) h
theorem ok__law_mixed (E : Env K mg w) : Dn P w K mg base CX0 2 (He.ga K "_law_mixed") [] (spF K F__law_mixed) :=
  dn_of (ps := ["_law_deal_here", "_law_some"]) E.f__law_mixed (fun fd F => fn__law_mixed E F) (fun _ _ _ _ _ _ us hl => match us, hl with | [_, _], _ => rfl)
end
noncomputable def b__law_names : Sv := (sRet (mSl (mCallR 0 F__law_mixed [] (mCons (mB fLst (mCons (mC (.str "talk")) (mCons (mC (.str "owe")) (mCons (mC (.str "plea")) (mCons (mC (.str "a")) (mCons (mC (.str "b")) (mCons (mC (.str "zz")) (mCons (mC (.str "x")) (mCons (mC (.str "suit")) (mCons (mC (.str "rest")) (mCons (mC (.str "cap")) mNil))))))))))) mNil)) mNoPart (mPart (mVar 1))))
noncomputable def F__law_names : Ro → Re := runF 2 2 b__law_names
section
variable {P : Program} {w : World} {K : PySem.W.Frag} {mg : Str → Option Value} {base : Heap}
theorem sc__law_names : FnScope ["_law_deal_here", "_law_many"] ["_law_deal_here", "_law_many"] (defScope s__law_names) := ⟨rfl, rfl, rfl, by decide +kernel, rfl, by decide +kernel, by decide +kernel⟩
theorem fn__law_names (E : Env K mg w) {fd : FuncData} {dvs : List V} (F : FunD K "_law_names" "_law_names" (defArgs s__law_names) (defBody s__law_names) (defScope s__law_names) dvs [] (He.ga K "_law_names") fd) : FnOk P w K mg base CX0 3 (He.ga K "_law_names") fd ["_law_deal_here", "_law_many"] (spF K F__law_names) := by
  refine F.ok sc__law_names (fun vs H Q E h => spF_len h) (fun cdv A outer s H vs Q X hr h => ?_)
  have hu := hr.units
  exact body_ok (k := 2) (W := fun cls d _ H' => X cls d H') (g := b__law_names) (PSs.nox (s_one (s_ret (m_sl (m_callR 0 (ok__law_mixed (K := K) E) (hr.mono (by decide)) E.g__law_mixed (fun _ => pass0) (fun _ _ => .nil) (m_cons (m_lst (m_cons m_str (m_cons m_str (m_cons m_str (m_cons m_str (m_cons m_str (m_cons m_str (m_cons m_str (m_cons m_str (m_cons m_str (m_cons m_str m_nil))))))))))) m_nil)) o_none (o_some (m_var 1)))))) (by decide) (fun _ _ _ _ z => z) h
theorem ok__law_names (E : Env K mg w) : Dn P w K mg base CX0 3 (He.ga K "_law_names") [] (spF K F__law_names) :=
  dn_of (ps := ["_law_deal_here", "_law_many"]) E.f__law_names (fun fd F => fn__law_names E F) (fun _ _ _ _ _ _ us hl => match us, hl with | [_, _], _ => rfl)
end
end Tm

namespace Tm
open PySem PySem.Spec PyProof.Rows L2
local macro_rules | `(tactic| walk_at "mir") => `(tactic| simp only [ap_mVar, ap_mC, ap_mOp, ap_mUn, ap_mNil, ap_mCons, ap_mB, ap_mL, ap_mNotT, ap_mAndT, ap_mOrT, ap_mIf, ap_mYes, ap_mNoPart, ap_sNext, ap_sRet, ap_sExpr, ap_sAsg, ap_sIf, ap_sFor, ap_mCall, ap_mMake, ap_mCm, ap_mSl, ap_bind_ok, ap_lift, ap_seq, ap_mTst, ap_mAnd, ap_mOr, ap_mNot, ap_mChain, ap_mPart, ap_mSeqOf, ap_mSeqOfS, ap_mTxt, ap_mStar, ap_mMeth, ap_mEnum, ap_mLc, ap_mDc, ap_ite, ouE_ok, re_rt, re_nx, runF, outA, setIm, callV, mFldS, fK_name, fK_times, fK_days, fK_left, fK_by, fK_top, fR_length, fR_rests, fR_cap, fR_kinds, fR_names, ap_mJs, mJs_nil, sFldS, putN, Sl.any, Sl.tr, Sl.up, wipeO, resto, fTup, fLst, v_lt, v_le, v_gt, v_ge, v_sub, v_add, nix, if_true, if_false, ite_true, ite_false, reduceIte, Bool.false_eq_true, Bool.not_true, Bool.not_false, Bool.true_eq_false, Option.bind_some, Option.map_some, Option.bind_none, Option.map_none, List.map_cons, List.map_nil, List.cons_append, List.nil_append, List.append_nil, List.length_cons, List.length_nil, List.getElem?_cons_zero, List.getElem?_cons_succ, List.set_cons_zero, List.set_cons_succ, List.replicate_succ, List.replicate_zero, Nat.reduceAdd, Nat.reduceSub, Nat.reduceLeDiff, List.mapIdx_cons, List.mapIdx_nil, List.mem_cons, List.not_mem_nil, or_false, false_or, or_self, or_true, List.getD_cons_zero, List.getD_cons_succ, Nat.reduceEqDiff, Nat.zero_ne_one, Nat.one_ne_zero, reduceCtorEq, ap_sPar2, ap_sGive, ap_sOwnL, ap_setOw, ap_sApp, isL, ap_chL, ap_gTupM, ap_gTup0, ap_gTup, ap_mCallR, ap_callR, isO, ap_mOpS, ap_mLenS, ap_mPopS, ap_sParLN, notDeal, scaT, Option.isSome_some, seqT_lst, seqT_tup, true_and, and_true, Nat.reduceLT, Nat.lt_add_one, and_self])
local macro_rules | `(tactic| walk_at "js") => `(tactic| (rw [if_pos (by simp only [len_app]; omega)]; try walk_at "mir"))
local macro_rules | `(tactic| walk_at "mih") => `(tactic| simp only [ap_mVar, ap_mC, ap_mOp, ap_mUn, ap_mNil, ap_mCons, ap_mB, ap_mL, ap_mNotT, ap_mAndT, ap_mOrT, ap_mIf, ap_mYes, ap_mNoPart, ap_sNext, ap_sRet, ap_sExpr, ap_sAsg, ap_sIf, ap_sFor, ap_mCall, ap_mMake, ap_mCm, ap_mSl, ap_bind_ok, ap_lift, ap_seq, ap_mTst, ap_mAnd, ap_mOr, ap_mNot, ap_mChain, ap_mPart, ap_mSeqOf, ap_mSeqOfS, ap_mTxt, ap_mStar, ap_mMeth, ap_mEnum, ap_mLc, ap_mDc, ap_ite, ouE_ok, re_rt, re_nx, runF, outA, setIm, callV, mFldS, fK_name, fK_times, fK_days, fK_left, fK_by, fK_top, fR_length, fR_rests, fR_cap, fR_kinds, fR_names, ap_mJs, mJs_nil, sFldS, putN, Sl.any, Sl.tr, Sl.up, wipeO, resto, fTup, fLst, v_lt, v_le, v_gt, v_ge, v_sub, v_add, nix, if_true, if_false, ite_true, ite_false, reduceIte, Bool.false_eq_true, Bool.not_true, Bool.not_false, Bool.true_eq_false, Option.bind_some, Option.map_some, Option.bind_none, Option.map_none, List.map_cons, List.map_nil, List.cons_append, List.nil_append, List.append_nil, List.length_cons, List.length_nil, List.getElem?_cons_zero, List.getElem?_cons_succ, List.set_cons_zero, List.set_cons_succ, List.replicate_succ, List.replicate_zero, Nat.reduceAdd, Nat.reduceSub, Nat.reduceLeDiff, List.mapIdx_cons, List.mapIdx_nil, List.mem_cons, List.not_mem_nil, or_false, false_or, or_self, or_true, List.getD_cons_zero, List.getD_cons_succ, Nat.reduceEqDiff, Nat.zero_ne_one, Nat.one_ne_zero, reduceCtorEq, ap_sPar2, ap_sGive, ap_sOwnL, ap_setOw, ap_sApp, isL, ap_chL, ap_gTupM, ap_gTup0, ap_gTup, ap_mCallR, ap_callR, isO, ap_mOpS, ap_mLenS, ap_mPopS, ap_sParLN, notDeal, scaT, Option.isSome_some, seqT_lst, seqT_tup, true_and, and_true, Nat.reduceLT, Nat.lt_add_one, and_self, decide_true, decide_false, bLen_lst, bLen_tup, oSl_lst, oSl_tup, v_isN0, v_isNi, v_isNs, v_isNt, v_notN0, v_notNi, v_neg, v_int, v_tupL, v_tupT, v_eqs, v_nes, v_eqi, v_nei, *])
local macro_rules | `(tactic| walk_at "ro") => `(tactic| simp only [runF, List.length_cons, List.length_nil, Nat.reduceAdd, Nat.reduceSub, if_true, reduceIte, List.replicate_succ, List.replicate_zero, List.cons_append, List.nil_append, List.set_cons_zero, List.set_cons_succ])
section
/-- a deal at hand -/
def Gd (d : T) : Prop := ∃ l m, d = .deal l m ∧ l.length ≤ 60
theorem draw_ok {d : T} (g : Gd d) {n : Int} (h0 : 0 < n) (h1 : n < 2 ^ 64) : ∃ v d', Gd d' ∧ (0 ≤ v ∧ v < n) ∧ F__law_draw [.rf d, .im (.int n)] = .ok (.int v) [.rf d', .im (.int n)] := by
  obtain ⟨l, m, rfl, hl⟩ := g
  obtain ⟨v, l', m', e, v0, v1, hl'⟩ := drawM_eq 31 m hl h0 h1
  exact ⟨v, _, ⟨l', m', rfl, hl'⟩, ⟨v0, v1⟩, e⟩
theorem pick_ok {d : T} (g : Gd d) {l : List T} (h0 : l ≠ []) (h1 : l.length ≤ 1000000) : ∃ x d', Gd d' ∧ x ∈ l ∧ F__law_pick [.rf d, .im (.lst l)] = .ok x [.rf d', .im (.lst l)] := by
  have hl := List.length_pos_iff.mpr h0
  obtain ⟨v, d', g', ⟨v0, v1⟩, e⟩ := draw_ok g (n := (l.length : Int)) (by omega) (by omega)
  obtain ⟨k, rfl⟩ : ∃ k : Nat, v = (k : Int) := ⟨v.toNat, by omega⟩
  have hk : k < l.length := by omega
  refine ⟨l[k], d', g', List.getElem_mem hk, ?_⟩
  have e2 : oIx (.lst l) (.int k) = some l[k] := by
    show atI l (k : Int) = _
    unfold atI ixN
    rw [if_pos (by omega), if_pos (by omega)]
    show l[((k : Int)).toNat]? = _
    rw [Int.toNat_natCast]
    exact List.getElem?_eq_getElem hk
  unfold F__law_pick b__law_pick
  walk_at "mih"
/-- a sequence: a list or a tuple -/
def sqT (b : Bool) (l : List T) : T := if b = true then .lst l else .tup l
theorem seq_sq (b : Bool) (l : List T) : seqT (sqT b l) = some l := by cases b <;> rfl
/-- a tree of data -/
def DT (t : T) : Prop := ∃ d, toD t = some d ∧ DOk 60 d
theorem DT.all : ∀ {l : List T}, (∀ t ∈ l, DT t) → ∃ ds, toDs l = some ds ∧ (∀ d ∈ ds, DOk 60 d) ∧ ds.length = l.length
  | [], _ => ⟨[], rfl, (fun _ h => by cases h), rfl⟩
  | t :: l, h => by
    obtain ⟨d, e, hd⟩ := h t (List.mem_cons_self ..)
    obtain ⟨ds, e2, hds, hl⟩ := DT.all fun x hx => h x (List.mem_cons_of_mem _ hx)
    refine ⟨d :: ds, ?_, ?_, by simp [hl]⟩
    · unfold toDs
      rw [e, e2]
    · intro x hx
      rcases List.mem_cons.mp hx with rfl | hx
      · exact hd
      · exact hds x hx
theorem ne_nil {l : List T} (h : ∀ t ∈ l, DT t) : oNe (.lst l) (.lst []) = some (.bl (!l.isEmpty)) := by
  obtain ⟨ds, e, hd, hl⟩ := DT.all h
  have e2 : eqD (.lst l) (.lst []) = some l.isEmpty := by
    unfold eqD
    have a1 : toD (.lst l) = some (.list ds) := by
      unfold toD
      rw [e]
      rfl
    have a2 : toD (.lst []) = some (.list []) := rfl
    rw [a1, a2]
    dsimp only
    rw [if_pos ⟨shaped_of (dok_lst hd) (by decide), by decide +kernel⟩]
    cases ds with
    | nil =>
      cases l with
      | nil => rfl
      | cons t l => simp at hl
    | cons d ds =>
      cases l with
      | nil => simp at hl
      | cons t l =>
        show some (PyData.eqvAll (d :: ds) []) = _
        simp [PyData.eqvAll]
  unfold oNe oNeD
  rw [e2]
  rfl
theorem DT.int (i : Int) : DT (.int i) := ⟨_, rfl, (dok_int i).up (by decide)⟩
theorem DT.str {z : Str} (h : PyData.strOk z = true) : DT (.str z) := ⟨_, rfl, (dok_str h).up (by decide)⟩
theorem perm_pop {α : Type} (l : List α) {i : Nat} (h : i < l.length) : (l[i] :: l.eraseIdx i).Perm l := by
  induction l generalizing i with
  | nil => simp at h
  | cons x l ih =>
    cases i with
    | zero => simp
    | succ i =>
      simp only [List.getElem_cons_succ, List.eraseIdx_cons_succ]
      exact (List.Perm.swap _ _ _).trans (List.Perm.cons _ (ih (by simpa using h)))
theorem all_perm {xs ys : List V} (h : ys.Perm xs) (ha : xs.all layV = true) : ys.all layV = true := by
  rw [List.all_eq_true] at ha ⊢
  exact fun y hy => ha y (h.mem_iff.mp hy)
theorem pop_ix {n : Nat} {i : Nat} (h : i < n) : seqIndex? (i : Int) n = some i := by
  have h0 : ¬ ((i : Int) < 0) := by omega
  unfold seqIndex?
  simp only [if_neg h0]
  rw [if_pos (by simp; omega), Int.toNat_natCast]
theorem mixed_loop (a : Sl) : ∀ (n : Nat) (others found : List T) (d : T), others.length = n → n + found.length ≤ 1000 → (∀ t ∈ others, DT t) → Gd d → ∃ found' d', Gd d' ∧ found'.Perm (found ++ others) ∧ ∃ k, whN (mTst (mOpS oNe 2 (mB fLst mNil))) (sApp 3 (mPopS 2 (mCallR 0 F__law_draw [] (mCons (mLenS 2) mNil)))) k [.rf d, a, .ow (.lst others), .ow (.lst found)] = some (.nx [.rf d', a, .ow (.lst []), .ow (.lst found')]) := by
  intro n
  induction n with
  | zero =>
    intro others found d hn _ ht g
    have h0 := List.length_eq_zero_iff.mp hn
    subst h0
    have e := ne_nil ht
    refine ⟨found, d, g, by simp, wh_stop ?_⟩
    have e3 : (([] : List T).isEmpty) = true := rfl
    rw [e3] at e
    walk_at "mih"
  | succ n ih =>
    intro others found d hn hf ht g
    have e := ne_nil ht
    have e3 : others.isEmpty = false := by
      cases others with
      | nil => cases hn
      | cons t l => rfl
    rw [e3] at e
    obtain ⟨v, d', g', ⟨v0, v1⟩, e4⟩ := draw_ok g (n := (others.length : Int)) (by omega) (by omega)
    obtain ⟨k, rfl⟩ : ∃ k : Nat, v = (k : Int) := ⟨v.toNat, by omega⟩
    have hk : k < others.length := by omega
    have e5 : seqIndex? (k : Int) others.length = some k := pop_ix hk
    have e6 : others[k]? = some others[k] := List.getElem?_eq_getElem hk
    have e7 : -(2 ^ 63) ≤ (k : Int) ∧ (k : Int) < 2 ^ 63 := by omega
    have e8 : found.length < 1000000 := by omega
    obtain ⟨f', d2, g2, p2, w2⟩ := ih (others.eraseIdx k) (found ++ [others[k]]) d' (by rw [List.length_eraseIdx_of_lt hk]; omega) (by simp; omega) (fun t h => ht t (List.mem_of_mem_eraseIdx h)) g'
    refine ⟨f', d2, g2, p2.trans ?_, wh_step (ρ1 := [.rf d, a, .ow (.lst others), .ow (.lst found)]) (ρ2 := [.rf d', a, .ow (.lst (others.eraseIdx k)), .ow (.lst (found ++ [others[k]]))]) ?_ ?_ w2⟩
    · rw [List.append_assoc]
      refine List.Perm.append_left _ ?_
      exact perm_pop others hk
    · clear e4 e5 e6
      walk_at "mih"
    · clear w2 p2 e hn
      walk_at "mih"
theorem mixed_ok {d : T} (g : Gd d) (b : Bool) {l : List T} (h1 : l.length ≤ 1000) (ht : ∀ t ∈ l, DT t) : ∃ m d', Gd d' ∧ m.Perm l ∧ F__law_mixed [.rf d, .im (sqT b l)] = .ok (.lst m) [.rf d', .im (sqT b l)] := by
  obtain ⟨f, d', g', p, w⟩ := mixed_loop (.im (sqT b l)) l.length l [] d rfl (by simpa using h1) ht g
  have w := wh_eq w
  have e := seq_sq b l
  refine ⟨f, d', g', by simpa using p, ?_⟩
  unfold F__law_mixed b__law_mixed
  walk_at "mih"
theorem cutT_take (xs : List T) (v : Int) (h : 0 ≤ v) : cutT xs none (some v) = xs.take v.toNat := by
  unfold cutT
  obtain ⟨n, rfl⟩ : ∃ n : Nat, v = (n : Int) := ⟨v.toNat, by omega⟩
  rw [HT.sIx_nat]
  show List.take (min n xs.length - 0) (xs.drop 0) = _
  rw [List.drop_zero, Nat.sub_zero, Int.toNat_natCast]
  by_cases h : n ≤ xs.length
  · rw [Nat.min_eq_left h]
  · rw [Nat.min_eq_right (by omega), List.take_of_length_le (Nat.le_refl _), List.take_of_length_le (by omega)]
theorem strs_permT {ys : List T} {ns : List Str} (h : ys.Perm (ns.map T.str)) : ∃ ms : List Str, ys = ms.map T.str ∧ ms.Perm ns := by
  have hs : ∀ y ∈ ys, ∃ z, y = T.str z := fun y hy => by
    obtain ⟨z, _, e⟩ := List.mem_map.mp (h.mem_iff.mp hy)
    exact ⟨z, e.symm⟩
  refine ⟨ys.map fun y => match y with | .str z => z | _ => "", ?_, ?_⟩
  · rw [List.map_map]
    conv => lhs; rw [← List.map_id ys]
    refine List.map_congr_left fun y hy => ?_
    obtain ⟨z, rfl⟩ := hs y hy
    rfl
  · have := h.map fun y => match y with | .str z => z | _ => ("" : Str)
    rw [List.map_map] at this
    refine this.trans ?_
    have e : (ns.map ((fun y => match y with | .str z => z | _ => ("" : Str)) ∘ T.str)) = ns := by
      conv => rhs; rw [← List.map_id ns]
      rfl
    rw [e]
theorem ints_permT {ys : List T} {ns : List Int} (h : ys.Perm (ns.map T.int)) : ∃ ms : List Int, ys = ms.map T.int ∧ ms.Perm ns := by
  have hs : ∀ y ∈ ys, ∃ z, y = T.int z := fun y hy => by
    obtain ⟨z, _, e⟩ := List.mem_map.mp (h.mem_iff.mp hy)
    exact ⟨z, e.symm⟩
  refine ⟨ys.map fun y => match y with | .int z => z | _ => 0, ?_, ?_⟩
  · rw [List.map_map]
    conv => lhs; rw [← List.map_id ys]
    refine List.map_congr_left fun y hy => ?_
    obtain ⟨z, rfl⟩ := hs y hy
    rfl
  · have := h.map fun y => match y with | .int z => z | _ => (0 : Int)
    rw [List.map_map] at this
    refine this.trans ?_
    have e : (ns.map ((fun y => match y with | .int z => z | _ => (0 : Int)) ∘ T.int)) = ns := by
      conv => rhs; rw [← List.map_id ns]
      rfl
    rw [e]
theorem names_ok {d : T} (g : Gd d) {v : Int} (h0 : 0 ≤ v) : ∃ (ms : List Str) (d' : T), Gd d' ∧ (ms.Nodup ∧ (∀ z ∈ ms, z ∈ namesA) ∧ (ms.length : Int) ≤ v) ∧ F__law_names [.rf d, .im (.int v)] = .ok (.lst (ms.map T.str)) [.rf d', .im (.int v)] := by
  obtain ⟨m, d', g', p, e⟩ := mixed_ok g true (l := namesA.map T.str) (by decide) (fun t ht => by
    obtain ⟨z, hz, rfl⟩ := List.mem_map.mp ht
    exact DT.str (name_strOk (namesA_ok z hz)))
  obtain ⟨ms, rfl, p2⟩ := strs_permT p
  have e : F__law_mixed [.rf d, .im (.lst [.str "talk", .str "owe", .str "plea", .str "a", .str "b", .str "zz", .str "x", .str "suit", .str "rest", .str "cap"])] = .ok (.lst (ms.map T.str)) [.rf d', .im (.lst [.str "talk", .str "owe", .str "plea", .str "a", .str "b", .str "zz", .str "x", .str "suit", .str "rest", .str "cap"])] := e
  have e2 := cutT_take (ms.map T.str) v h0
  rw [← List.map_take] at e2
  refine ⟨ms.take v.toNat, d', g', ⟨?_, ?_, ?_⟩, ?_⟩
  · exact (p2.nodup_iff.mpr namesA_nodup).sublist (List.take_sublist _ _)
  · exact fun z hz => p2.mem_iff.mp (List.mem_of_mem_take hz)
  · rw [List.length_take]
    omega
  · unfold F__law_names b__law_names
    walk_at "mih"
end

end Tm

namespace Tm
open PySem PySem.Spec PyProof.Rows L2
def TB_FORMS : List (Str × T) := [("still", .int 4), ("anew", .int 4), ("lift", .int 5)]
theorem kd_FORMS {K : PySem.W.Frag} {X : Cx} (E : Env K X.mg X.w) (hK : X.K = K := by rfl) : KdOk' X K (He.ga K "FORMS") TB_FORMS := by
  subst hK
  refine ⟨E.t_FORMS, fun z h => keysB_none E.x_FORMS fun hz => ?_, fun z t h => ?_⟩
  · simp only [List.mem_cons, List.not_mem_nil, or_false] at hz
    rcases hz with rfl | rfl | rfl <;> cases h
  · have hm := lookup_mem h
    simp only [TB_FORMS, List.mem_cons, List.not_mem_nil, or_false, Prod.mk.injEq] at hm
    rcases hm with ⟨rfl, rfl⟩ | ⟨rfl, rfl⟩ | ⟨rfl, rfl⟩
    · obtain ⟨u, h1, h2⟩ := He.valsB_ok E.v_FORMS (q := ("still", .int 4)) (by simp)
      exact ⟨u, _, h1, h2, fun _ _ => .int _⟩
    · obtain ⟨u, h1, h2⟩ := He.valsB_ok E.v_FORMS (q := ("anew", .int 4)) (by simp)
      exact ⟨u, _, h1, h2, fun _ _ => .int _⟩
    · obtain ⟨u, h1, h2⟩ := He.valsB_ok E.v_FORMS (q := ("lift", .int 5)) (by simp)
      exact ⟨u, _, h1, h2, fun _ _ => .int _⟩
noncomputable def b_need : Sv := (sIf (mNotT (mTst (mVar 1))) (fun _ => .st) sNext)
noncomputable def F_need : Ro → Re := runF 2 2 b_need
section
variable {P : Program} {w : World} {K : PySem.W.Frag} {mg : Str → Option Value} {base : Heap}
theorem sc_need : FnScope ["word", "is_fit"] ["word", "is_fit"] (defScope s_need) := ⟨rfl, rfl, rfl, by decide +kernel, rfl, by decide +kernel, by decide +kernel⟩
theorem fn_need (E : Env K mg w) {fd : FuncData} {dvs : List V} (F : FunD K "need" "need" (defArgs s_need) (defBody s_need) (defScope s_need) dvs [] (He.ga K "need") fd) : FnOk P w K mg base CX0 1 (He.ga K "need") fd ["word", "is_fit"] (spF K F_need) := by
  refine F.ok sc_need (fun vs H Q E h => spF_len h) (fun cdv A outer s H vs Q X hr h => ?_)
  have hu := hr.units
  exact body_ok (k := 2) (W := fun cls d _ H' => X cls d H') (g := b_need) (PSs.nox (s_one (s_if (m_tnot (m_tst (m_var 1))) (s_one s_never) s_nil))) (by decide) (fun _ _ _ _ z => z) h
theorem ok_need (E : Env K mg w) : Dn P w K mg base CX0 1 (He.ga K "need") [] (spF K F_need) :=
  dn_of (ps := ["word", "is_fit"]) E.f_need (fun fd F => fn_need E F) (fun _ _ _ _ _ _ us hl => match us, hl with | [_, _], _ => rfl)
end
noncomputable def b_is_many : Sv := (sRet (mOr (mOp oIsN (mVar 0) (mC .non)) (mCall F_is_length [] (mCons (mVar 0) mNil))))
noncomputable def F_is_many : Ro → Re := runF 1 1 b_is_many
section
variable {P : Program} {w : World} {K : PySem.W.Frag} {mg : Str → Option Value} {base : Heap}
theorem sc_is_many : FnScope ["value"] ["value"] (defScope s_is_many) := ⟨rfl, rfl, rfl, by decide +kernel, rfl, by decide +kernel, by decide +kernel⟩
theorem fn_is_many (E : Env K mg w) {fd : FuncData} {dvs : List V} (F : FunD K "is_many" "is_many" (defArgs s_is_many) (defBody s_is_many) (defScope s_is_many) dvs [] (He.ga K "is_many") fd) : FnOk P w K mg base CX0 3 (He.ga K "is_many") fd ["value"] (spF K F_is_many) := by
  refine F.ok sc_is_many (fun vs H Q E h => spF_len h) (fun cdv A outer s H vs Q X hr h => ?_)
  have hu := hr.units
  exact body_ok (k := 1) (W := fun cls d _ H' => X cls d H') (g := b_is_many) (PSs.nox (s_one (s_ret (m_or (m_cmp op_isN oIsN_ok (m_var 0) m_non (nomark _)) (m_one (m_call (ok_is_length (K := K) E) (hr.mono (by decide)) E.g_is_length (fun _ => pass0) (fun _ _ => .nil) (m_cons (m_var 0) m_nil))))))) (by decide) (fun _ _ _ _ z => z) h
theorem ok_is_many (E : Env K mg w) : Dn P w K mg base CX0 3 (He.ga K "is_many") [] (spF K F_is_many) :=
  dn_of (ps := ["value"]) E.f_is_many (fun fd F => fn_is_many E F) (fun _ _ _ _ _ _ us hl => match us, hl with | [_], _ => rfl)
end
noncomputable def b_many_text : Sv := (sRet (mIf (mTst (mOp oIsN (mVar 0) (mC .non))) (mC (.str "any")) (mB bStr (mCons (mVar 0) mNil))))
noncomputable def F_many_text : Ro → Re := runF 1 1 b_many_text
section
variable {P : Program} {w : World} {K : PySem.W.Frag} {mg : Str → Option Value} {base : Heap}
theorem sc_many_text : FnScope ["times"] ["times"] (defScope s_many_text) := ⟨rfl, rfl, rfl, by decide +kernel, rfl, by decide +kernel, by decide +kernel⟩
theorem fn_many_text (E : Env K mg w) {fd : FuncData} {dvs : List V} (F : FunD K "many_text" "many_text" (defArgs s_many_text) (defBody s_many_text) (defScope s_many_text) dvs [] (He.ga K "many_text") fd) : FnOk P w K mg base CX0 1 (He.ga K "many_text") fd ["times"] (spF K F_many_text) := by
  refine F.ok sc_many_text (fun vs H Q E h => spF_len h) (fun cdv A outer s H vs Q X hr h => ?_)
  have hu := hr.units
  exact body_ok (k := 1) (W := fun cls d _ H' => X cls d H') (g := b_many_text) (PSs.nox (s_one (s_ret (m_ifE (m_tcmp op_isN oIsN_ok (m_var 0) m_non (nomark _)) m_str (m_callTy q_str bStr_ok E.g_str bt_str (m_cons (m_var 0) m_nil)))))) (by decide) (fun _ _ _ _ z => z) h
theorem ok_many_text (E : Env K mg w) : Dn P w K mg base CX0 1 (He.ga K "many_text") [] (spF K F_many_text) :=
  dn_of (ps := ["times"]) E.f_many_text (fun fd F => fn_many_text E F) (fun _ _ _ _ _ _ us hl => match us, hl with | [_], _ => rfl)
end
noncomputable def b_Still___init__ : Sv := (sSeq (sExpr (mCall F_need [] (mCons (mC (.str "name")) (mCons (mCall F_is_name [] (mCons (mVar 1) mNil)) mNil))))
    (sSeq (sExpr (mCall F_need [] (mCons (mC (.str "days")) (mCons (mCall F_is_length [] (mCons (mVar 2) mNil)) mNil))))
    (sSeq (sExpr (mCall F_need [] (mCons (mC (.str "times")) (mCons (mCall F_is_many [] (mCons (mVar 3) mNil)) mNil))))
    (sSeq (sFldS 0 ["Still", "Anew", "Lift"] "name" (mVar 1))
    (sSeq (sFldS 0 ["Still"] "days" (mVar 2))
    (sFldS 0 ["Still", "Anew", "Lift"] "times" (mVar 3)))))))
noncomputable def F_Still___init__ : Ro → Re := runF 4 4 b_Still___init__
section
variable {P : Program} {w : World} {K : PySem.W.Frag} {mg : Str → Option Value} {base : Heap}
theorem sc_Still___init__ : FnScope ["self", "name", "days", "times"] ["self", "name", "days", "times"] (defScope s_Still___init__) := ⟨rfl, rfl, rfl, by decide +kernel, rfl, by decide +kernel, by decide +kernel⟩
theorem fn_Still___init__ (E : Env K mg w) {fd : FuncData} {dvs : List V} (F : FunD K "__init__" "Still.__init__" (defArgs s_Still___init__) (defBody s_Still___init__) (defScope s_Still___init__) dvs [] (He.ma K (He.ga K "Still") "__init__") fd) : FnOk P w K mg base CX0 4 (He.ma K (He.ga K "Still") "__init__") fd ["self", "name", "days", "times"] (spF K F_Still___init__) := by
  refine F.ok sc_Still___init__ (fun vs H Q E h => spF_len h) (fun cdv A outer s H vs Q X hr h => ?_)
  have hu := hr.units
  exact body_ok (k := 4) (W := fun cls d _ H' => X cls d H') (g := b_Still___init__) (PSs.nox (s_cons (s_expr (m_call (ok_need (K := K) E) (hr.mono (by decide)) E.g_need (fun _ => pass0) (fun _ _ => .nil) (m_cons m_str (m_cons (m_call (ok_is_name (K := K) E) (hr.mono (by decide)) E.g_is_name (fun _ => pass0) (fun _ _ => .nil) (m_cons (m_var 1) m_nil)) m_nil))))
      (s_cons (s_expr (m_call (ok_need (K := K) E) (hr.mono (by decide)) E.g_need (fun _ => pass0) (fun _ _ => .nil) (m_cons m_str (m_cons (m_call (ok_is_length (K := K) E) (hr.mono (by decide)) E.g_is_length (fun _ => pass0) (fun _ _ => .nil) (m_cons (m_var 2) m_nil)) m_nil))))
      (s_cons (s_expr (m_call (ok_need (K := K) E) (hr.mono (by decide)) E.g_need (fun _ => pass0) (fun _ _ => .nil) (m_cons m_str (m_cons (m_call (ok_is_many (K := K) E) (hr.mono (by decide)) E.g_is_many (fun _ => pass0) (fun _ _ => .nil) (m_cons (m_var 3) m_nil)) m_nil))))
      (s_cons (s_fldS 0 (fc_name E) (m_var 1))
      (s_cons (s_fldS 0 (fc_days E) (m_var 2))
      (s_one (s_fldS 0 (fc_times E) (m_var 3))))))))) (by decide) (fun _ _ _ _ z => z) h
theorem ok_Still___init___0 (E : Env K mg w) : Dn P w K mg base CX0 4 (He.ma K (He.ga K "Still") "__init__") [.non] (spF K F_Still___init__) :=
  dn_dfl (ps := ["self", "name", "days", "times"]) 3 0 E.f_Still___init__ (by simp) rfl (fun fd F => fn_Still___init__ E F) (fun _ _ _ _ _ _ _ us its h1 h2 => match us, its, h1, h2 with | [_, _, _], [_], _, _ => ⟨_, rfl, rfl⟩)
def dt_Still___init___0 : List T := [.non]
theorem dr_Still___init___0 (E : Env K mg w) (A : ASet) (H : Hp) : Reps K A H [.non] dt_Still___init___0 := (.cons .non .nil)
theorem ok_Still___init__ (E : Env K mg w) : Dn P w K mg base CX0 4 (He.ma K (He.ga K "Still") "__init__") [] (spF K F_Still___init__) :=
  dn_dfl (ps := ["self", "name", "days", "times"]) 4 1 E.f_Still___init__ (by simp) rfl (fun fd F => fn_Still___init__ E F) (fun _ _ _ _ _ _ _ us its h1 h2 => match us, its, h1, h2 with | [_, _, _, _], [_], _, _ => ⟨_, rfl, rfl⟩)
end
noncomputable def b_Anew___init__ : Sv := (sSeq (sExpr (mCall F_need [] (mCons (mC (.str "name")) (mCons (mCall F_is_name [] (mCons (mVar 1) mNil)) mNil))))
    (sSeq (sExpr (mCall F_need [] (mCons (mC (.str "left")) (mCons (mCall F_is_length [] (mCons (mVar 2) mNil)) mNil))))
    (sSeq (sExpr (mCall F_need [] (mCons (mC (.str "times")) (mCons (mCall F_is_many [] (mCons (mVar 3) mNil)) mNil))))
    (sSeq (sFldS 0 ["Still", "Anew", "Lift"] "name" (mVar 1))
    (sSeq (sFldS 0 ["Anew"] "left" (mVar 2))
    (sFldS 0 ["Still", "Anew", "Lift"] "times" (mVar 3)))))))
noncomputable def F_Anew___init__ : Ro → Re := runF 4 4 b_Anew___init__
section
variable {P : Program} {w : World} {K : PySem.W.Frag} {mg : Str → Option Value} {base : Heap}
theorem sc_Anew___init__ : FnScope ["self", "name", "left", "times"] ["self", "name", "left", "times"] (defScope s_Anew___init__) := ⟨rfl, rfl, rfl, by decide +kernel, rfl, by decide +kernel, by decide +kernel⟩
theorem fn_Anew___init__ (E : Env K mg w) {fd : FuncData} {dvs : List V} (F : FunD K "__init__" "Anew.__init__" (defArgs s_Anew___init__) (defBody s_Anew___init__) (defScope s_Anew___init__) dvs [] (He.ma K (He.ga K "Anew") "__init__") fd) : FnOk P w K mg base CX0 4 (He.ma K (He.ga K "Anew") "__init__") fd ["self", "name", "left", "times"] (spF K F_Anew___init__) := by
  refine F.ok sc_Anew___init__ (fun vs H Q E h => spF_len h) (fun cdv A outer s H vs Q X hr h => ?_)
  have hu := hr.units
  exact body_ok (k := 4) (W := fun cls d _ H' => X cls d H') (g := b_Anew___init__) (PSs.nox (s_cons (s_expr (m_call (ok_need (K := K) E) (hr.mono (by decide)) E.g_need (fun _ => pass0) (fun _ _ => .nil) (m_cons m_str (m_cons (m_call (ok_is_name (K := K) E) (hr.mono (by decide)) E.g_is_name (fun _ => pass0) (fun _ _ => .nil) (m_cons (m_var 1) m_nil)) m_nil))))
      (s_cons (s_expr (m_call (ok_need (K := K) E) (hr.mono (by decide)) E.g_need (fun _ => pass0) (fun _ _ => .nil) (m_cons m_str (m_cons (m_call (ok_is_length (K := K) E) (hr.mono (by decide)) E.g_is_length (fun _ => pass0) (fun _ _ => .nil) (m_cons (m_var 2) m_nil)) m_nil))))
      (s_cons (s_expr (m_call (ok_need (K := K) E) (hr.mono (by decide)) E.g_need (fun _ => pass0) (fun _ _ => .nil) (m_cons m_str (m_cons (m_call (ok_is_many (K := K) E) (hr.mono (by decide)) E.g_is_many (fun _ => pass0) (fun _ _ => .nil) (m_cons (m_var 3) m_nil)) m_nil))))
      (s_cons (s_fldS 0 (fc_name E) (m_var 1))
      (s_cons (s_fldS 0 (fc_left E) (m_var 2))
      (s_one (s_fldS 0 (fc_times E) (m_var 3))))))))) (by decide) (fun _ _ _ _ z => z) h
theorem ok_Anew___init___0 (E : Env K mg w) : Dn P w K mg base CX0 4 (He.ma K (He.ga K "Anew") "__init__") [.non] (spF K F_Anew___init__) :=
  dn_dfl (ps := ["self", "name", "left", "times"]) 3 0 E.f_Anew___init__ (by simp) rfl (fun fd F => fn_Anew___init__ E F) (fun _ _ _ _ _ _ _ us its h1 h2 => match us, its, h1, h2 with | [_, _, _], [_], _, _ => ⟨_, rfl, rfl⟩)
def dt_Anew___init___0 : List T := [.non]
theorem dr_Anew___init___0 (E : Env K mg w) (A : ASet) (H : Hp) : Reps K A H [.non] dt_Anew___init___0 := (.cons .non .nil)
theorem ok_Anew___init__ (E : Env K mg w) : Dn P w K mg base CX0 4 (He.ma K (He.ga K "Anew") "__init__") [] (spF K F_Anew___init__) :=
  dn_dfl (ps := ["self", "name", "left", "times"]) 4 1 E.f_Anew___init__ (by simp) rfl (fun fd F => fn_Anew___init__ E F) (fun _ _ _ _ _ _ _ us its h1 h2 => match us, its, h1, h2 with | [_, _, _, _], [_], _, _ => ⟨_, rfl, rfl⟩)
end
noncomputable def b_Lift___init__ : Sv := (sSeq (sExpr (mCall F_need [] (mCons (mC (.str "name")) (mCons (mCall F_is_name [] (mCons (mVar 1) mNil)) mNil))))
    (sSeq (sExpr (mCall F_need [] (mCons (mC (.str "by")) (mCons (mCall F_is_length [] (mCons (mVar 2) mNil)) mNil))))
    (sSeq (sExpr (mCall F_need [] (mCons (mC (.str "top")) (mCons (mCall F_is_length [] (mCons (mVar 3) mNil)) mNil))))
    (sSeq (sExpr (mCall F_need [] (mCons (mC (.str "times")) (mCons (mCall F_is_many [] (mCons (mVar 4) mNil)) mNil))))
    (sSeq (sFldS 0 ["Still", "Anew", "Lift"] "name" (mVar 1))
    (sSeq (sFldS 0 ["Lift"] "by" (mVar 2))
    (sSeq (sFldS 0 ["Lift"] "top" (mVar 3))
    (sFldS 0 ["Still", "Anew", "Lift"] "times" (mVar 4)))))))))
noncomputable def F_Lift___init__ : Ro → Re := runF 5 5 b_Lift___init__
section
variable {P : Program} {w : World} {K : PySem.W.Frag} {mg : Str → Option Value} {base : Heap}
theorem sc_Lift___init__ : FnScope ["self", "name", "by", "top", "times"] ["self", "name", "by", "top", "times"] (defScope s_Lift___init__) := ⟨rfl, rfl, rfl, by decide +kernel, rfl, by decide +kernel, by decide +kernel⟩
theorem fn_Lift___init__ (E : Env K mg w) {fd : FuncData} {dvs : List V} (F : FunD K "__init__" "Lift.__init__" (defArgs s_Lift___init__) (defBody s_Lift___init__) (defScope s_Lift___init__) dvs [] (He.ma K (He.ga K "Lift") "__init__") fd) : FnOk P w K mg base CX0 4 (He.ma K (He.ga K "Lift") "__init__") fd ["self", "name", "by", "top", "times"] (spF K F_Lift___init__) := by
  refine F.ok sc_Lift___init__ (fun vs H Q E h => spF_len h) (fun cdv A outer s H vs Q X hr h => ?_)
  have hu := hr.units
  exact body_ok (k := 5) (W := fun cls d _ H' => X cls d H') (g := b_Lift___init__) (PSs.nox (s_cons (s_expr (m_call (ok_need (K := K) E) (hr.mono (by decide)) E.g_need (fun _ => pass0) (fun _ _ => .nil) (m_cons m_str (m_cons (m_call (ok_is_name (K := K) E) (hr.mono (by decide)) E.g_is_name (fun _ => pass0) (fun _ _ => .nil) (m_cons (m_var 1) m_nil)) m_nil))))
      (s_cons (s_expr (m_call (ok_need (K := K) E) (hr.mono (by decide)) E.g_need (fun _ => pass0) (fun _ _ => .nil) (m_cons m_str (m_cons (m_call (ok_is_length (K := K) E) (hr.mono (by decide)) E.g_is_length (fun _ => pass0) (fun _ _ => .nil) (m_cons (m_var 2) m_nil)) m_nil))))
      (s_cons (s_expr (m_call (ok_need (K := K) E) (hr.mono (by decide)) E.g_need (fun _ => pass0) (fun _ _ => .nil) (m_cons m_str (m_cons (m_call (ok_is_length (K := K) E) (hr.mono (by decide)) E.g_is_length (fun _ => pass0) (fun _ _ => .nil) (m_cons (m_var 3) m_nil)) m_nil))))
      (s_cons (s_expr (m_call (ok_need (K := K) E) (hr.mono (by decide)) E.g_need (fun _ => pass0) (fun _ _ => .nil) (m_cons m_str (m_cons (m_call (ok_is_many (K := K) E) (hr.mono (by decide)) E.g_is_many (fun _ => pass0) (fun _ _ => .nil) (m_cons (m_var 4) m_nil)) m_nil))))
      (s_cons (s_fldS 0 (fc_name E) (m_var 1))
      (s_cons (s_fldS 0 (fc_by E) (m_var 2))
      (s_cons (s_fldS 0 (fc_top E) (m_var 3))
      (s_one (s_fldS 0 (fc_times E) (m_var 4))))))))))) (by decide) (fun _ _ _ _ z => z) h
theorem ok_Lift___init___0 (E : Env K mg w) : Dn P w K mg base CX0 4 (He.ma K (He.ga K "Lift") "__init__") [.non] (spF K F_Lift___init__) :=
  dn_dfl (ps := ["self", "name", "by", "top", "times"]) 4 0 E.f_Lift___init__ (by simp) rfl (fun fd F => fn_Lift___init__ E F) (fun _ _ _ _ _ _ _ us its h1 h2 => match us, its, h1, h2 with | [_, _, _, _], [_], _, _ => ⟨_, rfl, rfl⟩)
def dt_Lift___init___0 : List T := [.non]
theorem dr_Lift___init___0 (E : Env K mg w) (A : ASet) (H : Hp) : Reps K A H [.non] dt_Lift___init___0 := (.cons .non .nil)
theorem ok_Lift___init__ (E : Env K mg w) : Dn P w K mg base CX0 4 (He.ma K (He.ga K "Lift") "__init__") [] (spF K F_Lift___init__) :=
  dn_dfl (ps := ["self", "name", "by", "top", "times"]) 5 1 E.f_Lift___init__ (by simp) rfl (fun fd F => fn_Lift___init__ E F) (fun _ _ _ _ _ _ _ us its h1 h2 => match us, its, h1, h2 with | [_, _, _, _, _], [_], _, _ => ⟨_, rfl, rfl⟩)
end
noncomputable def b_Still___str__ : Sv := (sRet (mJs [(mC (.str "still ")), (mUn uFmt (mFldS 0 ["Still", "Anew", "Lift"] "name")), (mC (.str " ")), (mUn uFmt (mFldS 0 ["Still"] "days")), (mC (.str " ")), (mUn uFmt (mCall F_many_text [] (mCons (mFldS 0 ["Still", "Anew", "Lift"] "times") mNil)))] Str.empty))
noncomputable def F_Still___str__ : Ro → Re := runF 1 1 b_Still___str__
section
variable {P : Program} {w : World} {K : PySem.W.Frag} {mg : Str → Option Value} {base : Heap}
theorem sc_Still___str__ : FnScope ["self"] ["self"] (defScope s_Still___str__) := ⟨rfl, rfl, rfl, by decide +kernel, rfl, by decide +kernel, by decide +kernel⟩
theorem fn_Still___str__ (E : Env K mg w) {fd : FuncData} {dvs : List V} (F : FunD K "__str__" "Still.__str__" (defArgs s_Still___str__) (defBody s_Still___str__) (defScope s_Still___str__) dvs [] (He.ma K (He.ga K "Still") "__str__") fd) : FnOk P w K mg base CX0 2 (He.ma K (He.ga K "Still") "__str__") fd ["self"] (spF K F_Still___str__) := by
  refine F.ok sc_Still___str__ (fun vs H Q E h => spF_len h) (fun cdv A outer s H vs Q X hr h => ?_)
  have hu := hr.units
  exact body_ok (k := 1) (W := fun cls d _ H' => X cls d H') (g := b_Still___str__) (PSs.nox (s_one (s_ret (m_joined (MJ.cons m_str (MJ.cons (m_fmt (m_fldS 0 (fc_name E))) (MJ.cons m_str (MJ.cons (m_fmt (m_fldS 0 (fc_days E))) (MJ.cons m_str (MJ.cons (m_fmt (m_call (ok_many_text (K := K) E) (hr.mono (by decide)) E.g_many_text (fun _ => pass0) (fun _ _ => .nil) (m_cons (m_fldS 0 (fc_times E)) m_nil))) MJ.nil)))))))))) (by decide) (fun _ _ _ _ z => z) h
theorem ok_Still___str__ (E : Env K mg w) : Dn P w K mg base CX0 2 (He.ma K (He.ga K "Still") "__str__") [] (spF K F_Still___str__) :=
  dn_of (ps := ["self"]) E.f_Still___str__ (fun fd F => fn_Still___str__ E F) (fun _ _ _ _ _ _ us hl => match us, hl with | [_], _ => rfl)
end
noncomputable def b_Anew___str__ : Sv := (sRet (mJs [(mC (.str "anew ")), (mUn uFmt (mFldS 0 ["Still", "Anew", "Lift"] "name")), (mC (.str " ")), (mUn uFmt (mFldS 0 ["Anew"] "left")), (mC (.str " ")), (mUn uFmt (mCall F_many_text [] (mCons (mFldS 0 ["Still", "Anew", "Lift"] "times") mNil)))] Str.empty))
noncomputable def F_Anew___str__ : Ro → Re := runF 1 1 b_Anew___str__
section
variable {P : Program} {w : World} {K : PySem.W.Frag} {mg : Str → Option Value} {base : Heap}
theorem sc_Anew___str__ : FnScope ["self"] ["self"] (defScope s_Anew___str__) := ⟨rfl, rfl, rfl, by decide +kernel, rfl, by decide +kernel, by decide +kernel⟩
theorem fn_Anew___str__ (E : Env K mg w) {fd : FuncData} {dvs : List V} (F : FunD K "__str__" "Anew.__str__" (defArgs s_Anew___str__) (defBody s_Anew___str__) (defScope s_Anew___str__) dvs [] (He.ma K (He.ga K "Anew") "__str__") fd) : FnOk P w K mg base CX0 2 (He.ma K (He.ga K "Anew") "__str__") fd ["self"] (spF K F_Anew___str__) := by
  refine F.ok sc_Anew___str__ (fun vs H Q E h => spF_len h) (fun cdv A outer s H vs Q X hr h => ?_)
  have hu := hr.units
  exact body_ok (k := 1) (W := fun cls d _ H' => X cls d H') (g := b_Anew___str__) (PSs.nox (s_one (s_ret (m_joined (MJ.cons m_str (MJ.cons (m_fmt (m_fldS 0 (fc_name E))) (MJ.cons m_str (MJ.cons (m_fmt (m_fldS 0 (fc_left E))) (MJ.cons m_str (MJ.cons (m_fmt (m_call (ok_many_text (K := K) E) (hr.mono (by decide)) E.g_many_text (fun _ => pass0) (fun _ _ => .nil) (m_cons (m_fldS 0 (fc_times E)) m_nil))) MJ.nil)))))))))) (by decide) (fun _ _ _ _ z => z) h
theorem ok_Anew___str__ (E : Env K mg w) : Dn P w K mg base CX0 2 (He.ma K (He.ga K "Anew") "__str__") [] (spF K F_Anew___str__) :=
  dn_of (ps := ["self"]) E.f_Anew___str__ (fun fd F => fn_Anew___str__ E F) (fun _ _ _ _ _ _ us hl => match us, hl with | [_], _ => rfl)
end
noncomputable def b_Lift___str__ : Sv := (sRet (mJs [(mC (.str "lift ")), (mUn uFmt (mFldS 0 ["Still", "Anew", "Lift"] "name")), (mC (.str " ")), (mUn uFmt (mFldS 0 ["Lift"] "by")), (mC (.str " ")), (mUn uFmt (mFldS 0 ["Lift"] "top")), (mC (.str " ")), (mUn uFmt (mCall F_many_text [] (mCons (mFldS 0 ["Still", "Anew", "Lift"] "times") mNil)))] Str.empty))
noncomputable def F_Lift___str__ : Ro → Re := runF 1 1 b_Lift___str__
section
variable {P : Program} {w : World} {K : PySem.W.Frag} {mg : Str → Option Value} {base : Heap}
theorem sc_Lift___str__ : FnScope ["self"] ["self"] (defScope s_Lift___str__) := ⟨rfl, rfl, rfl, by decide +kernel, rfl, by decide +kernel, by decide +kernel⟩
theorem fn_Lift___str__ (E : Env K mg w) {fd : FuncData} {dvs : List V} (F : FunD K "__str__" "Lift.__str__" (defArgs s_Lift___str__) (defBody s_Lift___str__) (defScope s_Lift___str__) dvs [] (He.ma K (He.ga K "Lift") "__str__") fd) : FnOk P w K mg base CX0 2 (He.ma K (He.ga K "Lift") "__str__") fd ["self"] (spF K F_Lift___str__) := by
  refine F.ok sc_Lift___str__ (fun vs H Q E h => spF_len h) (fun cdv A outer s H vs Q X hr h => ?_)
  have hu := hr.units
  exact body_ok (k := 1) (W := fun cls d _ H' => X cls d H') (g := b_Lift___str__) (PSs.nox (s_one (s_ret (m_joined (MJ.cons m_str (MJ.cons (m_fmt (m_fldS 0 (fc_name E))) (MJ.cons m_str (MJ.cons (m_fmt (m_fldS 0 (fc_by E))) (MJ.cons m_str (MJ.cons (m_fmt (m_fldS 0 (fc_top E))) (MJ.cons m_str (MJ.cons (m_fmt (m_call (ok_many_text (K := K) E) (hr.mono (by decide)) E.g_many_text (fun _ => pass0) (fun _ _ => .nil) (m_cons (m_fldS 0 (fc_times E)) m_nil))) MJ.nil)))))))))))) (by decide) (fun _ _ _ _ z => z) h
theorem ok_Lift___str__ (E : Env K mg w) : Dn P w K mg base CX0 2 (He.ma K (He.ga K "Lift") "__str__") [] (spF K F_Lift___str__) :=
  dn_of (ps := ["self"]) E.f_Lift___str__ (fun fd F => fn_Lift___str__ E F) (fun _ _ _ _ _ _ us hl => match us, hl with | [_], _ => rfl)
end
end Tm

namespace Tm
open PySem PySem.Spec PyProof.Rows L2
local macro_rules | `(tactic| walk_at "mir") => `(tactic| simp only [ap_mVar, ap_mC, ap_mOp, ap_mUn, ap_mNil, ap_mCons, ap_mB, ap_mL, ap_mNotT, ap_mAndT, ap_mOrT, ap_mIf, ap_mYes, ap_mNoPart, ap_sNext, ap_sRet, ap_sExpr, ap_sAsg, ap_sIf, ap_sFor, ap_mCall, ap_mMake, ap_mCm, ap_mSl, ap_bind_ok, ap_lift, ap_seq, ap_mTst, ap_mAnd, ap_mOr, ap_mNot, ap_mChain, ap_mPart, ap_mSeqOf, ap_mSeqOfS, ap_mTxt, ap_mStar, ap_mMeth, ap_mEnum, ap_mLc, ap_mDc, ap_ite, ouE_ok, re_rt, re_nx, runF, outA, setIm, callV, mFldS, fK_name, fK_times, fK_days, fK_left, fK_by, fK_top, fR_length, fR_rests, fR_cap, fR_kinds, fR_names, ap_mJs, mJs_nil, sFldS, putN, Sl.any, Sl.tr, Sl.up, wipeO, resto, fTup, fLst, v_lt, v_le, v_gt, v_ge, v_sub, v_add, nix, if_true, if_false, ite_true, ite_false, reduceIte, Bool.false_eq_true, Bool.not_true, Bool.not_false, Bool.true_eq_false, Option.bind_some, Option.map_some, Option.bind_none, Option.map_none, List.map_cons, List.map_nil, List.cons_append, List.nil_append, List.append_nil, List.length_cons, List.length_nil, List.getElem?_cons_zero, List.getElem?_cons_succ, List.set_cons_zero, List.set_cons_succ, List.replicate_succ, List.replicate_zero, Nat.reduceAdd, Nat.reduceSub, Nat.reduceLeDiff, List.mapIdx_cons, List.mapIdx_nil, List.mem_cons, List.not_mem_nil, or_false, false_or, or_self, or_true, List.getD_cons_zero, List.getD_cons_succ, Nat.reduceEqDiff, Nat.zero_ne_one, Nat.one_ne_zero, reduceCtorEq, ap_sPar2, ap_sGive, ap_sOwnL, ap_setOw, ap_sApp, isL, ap_chL, ap_gTupM, ap_gTup0, ap_gTup, ap_mCallR, ap_callR, isO, ap_mOpS, ap_mLenS, ap_mPopS, ap_sParLN, notDeal, scaT, Option.isSome_some, seqT_lst, seqT_tup, true_and, and_true, Nat.reduceLT, Nat.lt_add_one, and_self])
local macro_rules | `(tactic| walk_at "js") => `(tactic| (rw [if_pos (by simp only [len_app]; omega)]; try walk_at "mir"))
local macro_rules | `(tactic| walk_at "mih") => `(tactic| simp only [ap_mVar, ap_mC, ap_mOp, ap_mUn, ap_mNil, ap_mCons, ap_mB, ap_mL, ap_mNotT, ap_mAndT, ap_mOrT, ap_mIf, ap_mYes, ap_mNoPart, ap_sNext, ap_sRet, ap_sExpr, ap_sAsg, ap_sIf, ap_sFor, ap_mCall, ap_mMake, ap_mCm, ap_mSl, ap_bind_ok, ap_lift, ap_seq, ap_mTst, ap_mAnd, ap_mOr, ap_mNot, ap_mChain, ap_mPart, ap_mSeqOf, ap_mSeqOfS, ap_mTxt, ap_mStar, ap_mMeth, ap_mEnum, ap_mLc, ap_mDc, ap_ite, ouE_ok, re_rt, re_nx, runF, outA, setIm, callV, mFldS, fK_name, fK_times, fK_days, fK_left, fK_by, fK_top, fR_length, fR_rests, fR_cap, fR_kinds, fR_names, ap_mJs, mJs_nil, sFldS, putN, Sl.any, Sl.tr, Sl.up, wipeO, resto, fTup, fLst, v_lt, v_le, v_gt, v_ge, v_sub, v_add, nix, if_true, if_false, ite_true, ite_false, reduceIte, Bool.false_eq_true, Bool.not_true, Bool.not_false, Bool.true_eq_false, Option.bind_some, Option.map_some, Option.bind_none, Option.map_none, List.map_cons, List.map_nil, List.cons_append, List.nil_append, List.append_nil, List.length_cons, List.length_nil, List.getElem?_cons_zero, List.getElem?_cons_succ, List.set_cons_zero, List.set_cons_succ, List.replicate_succ, List.replicate_zero, Nat.reduceAdd, Nat.reduceSub, Nat.reduceLeDiff, List.mapIdx_cons, List.mapIdx_nil, List.mem_cons, List.not_mem_nil, or_false, false_or, or_self, or_true, List.getD_cons_zero, List.getD_cons_succ, Nat.reduceEqDiff, Nat.zero_ne_one, Nat.one_ne_zero, reduceCtorEq, ap_sPar2, ap_sGive, ap_sOwnL, ap_setOw, ap_sApp, isL, ap_chL, ap_gTupM, ap_gTup0, ap_gTup, ap_mCallR, ap_callR, isO, ap_mOpS, ap_mLenS, ap_mPopS, ap_sParLN, notDeal, scaT, Option.isSome_some, seqT_lst, seqT_tup, true_and, and_true, Nat.reduceLT, Nat.lt_add_one, and_self, decide_true, decide_false, bLen_lst, bLen_tup, oSl_lst, oSl_tup, v_isN0, v_isNi, v_isNs, v_isNt, v_notN0, v_notNi, v_neg, v_int, v_tupL, v_tupT, v_eqs, v_nes, v_eqi, v_nei, *])
local macro_rules | `(tactic| walk_at "ro") => `(tactic| simp only [runF, List.length_cons, List.length_nil, Nat.reduceAdd, Nat.reduceSub, if_true, reduceIte, List.replicate_succ, List.replicate_zero, List.cons_append, List.nil_append, List.set_cons_zero, List.set_cons_succ])
section
theorem F_need_t (w : T) : F_need [.im w, .im (.bl true)] = .ok .non [.im w, .im (.bl true)] := by rfl
theorem F_is_many_tv {o : Option Int} (h : ∀ c, o = some c → 1 ≤ c) : F_is_many [.im (tvT o)] = .ok (.bl true) [.im (tvT o)] := by
  cases o with
  | none => rfl
  | some c =>
    have e : decide (1 ≤ c) = true := decide_eq_true (h c rfl)
    show F_is_many [.im (.int c)] = _
    unfold F_is_many b_is_many
    walk_at "mir"
    rw [show oIsN (.int c) .non = some (.bl false) from rfl]
    walk_at "mir"
    rw [F_is_length_int, e]
    rfl
theorem F_many_text_tv {o : Option Int} (h : ∀ c, o = some c → 1 ≤ c ∧ c < 10 ^ 19) : F_many_text [.im (tvT o)] = .ok (.str (manyS o)) [.im (tvT o)] := by
  cases o with
  | none => rfl
  | some c =>
    obtain ⟨h1, h2⟩ := h c rfl
    have ls : bStr [.int c] = some (.str (manyS (some c))) := by
      show (if c.natAbs.log2 < 1920 then some (T.str (toString c)) else none) = _
      rw [if_pos]
      · rfl
      · exact Nat.lt_of_lt_of_le ((Nat.log2_lt (by omega)).mpr (by omega : c.natAbs < 2 ^ 64)) (by decide)
    show F_many_text [.im (.int c)] = _
    unfold F_many_text b_many_text
    walk_at "mir"
    rw [show oIsN (.int c) .non = some (.bl false) from rfl]
    walk_at "mir"
    rw [ls]
    rfl
theorem nameB_le {z : Str} (h : nameB z = true) : z.length ≤ 1000000 := Nat.le_trans (nameB_len h) (by decide)
theorem mk_still (ρ : Ro) {nm : Str} {a : Int} {tm : Option Int} (h1 : nameB nm = true) (h2 : 1 ≤ a) (h3 : ∀ c, tm = some c → 1 ≤ c) : mkV "Still" F_Still___init__ [.str nm, .int a, tvT tm] ρ = .ok (kindT ⟨.still, nm, a, 0, tm⟩) ρ := by
  unfold mkV F_Still___init__ b_Still___init__
  walk_at "mir"
  rw [F_is_name_str nm (nameB_le h1), h1]
  walk_at "mir"
  rw [F_need_t]
  walk_at "mir"
  rw [F_is_length_int, decide_eq_true h2]
  walk_at "mir"
  rw [F_need_t]
  walk_at "mir"
  rw [F_is_many_tv h3]
  walk_at "mir"
  rw [F_need_t]
  walk_at "mir"
  rfl
theorem mk_anew (ρ : Ro) {nm : Str} {a : Int} {tm : Option Int} (h1 : nameB nm = true) (h2 : 1 ≤ a) (h3 : ∀ c, tm = some c → 1 ≤ c) : mkV "Anew" F_Anew___init__ [.str nm, .int a, tvT tm] ρ = .ok (kindT ⟨.anew, nm, a, 0, tm⟩) ρ := by
  unfold mkV F_Anew___init__ b_Anew___init__
  walk_at "mir"
  rw [F_is_name_str nm (nameB_le h1), h1]
  walk_at "mir"
  rw [F_need_t]
  walk_at "mir"
  rw [F_is_length_int, decide_eq_true h2]
  walk_at "mir"
  rw [F_need_t]
  walk_at "mir"
  rw [F_is_many_tv h3]
  walk_at "mir"
  rw [F_need_t]
  rfl
theorem mk_lift (ρ : Ro) {nm : Str} {a b : Int} {tm : Option Int} (h1 : nameB nm = true) (h2 : 1 ≤ a) (h4 : 1 ≤ b) (h3 : ∀ c, tm = some c → 1 ≤ c) : mkV "Lift" F_Lift___init__ [.str nm, .int a, .int b, tvT tm] ρ = .ok (kindT ⟨.lift, nm, a, b, tm⟩) ρ := by
  unfold mkV F_Lift___init__ b_Lift___init__
  walk_at "mir"
  rw [F_is_name_str nm (nameB_le h1), h1]
  walk_at "mir"
  rw [F_need_t]
  walk_at "mir"
  rw [F_is_length_int, decide_eq_true h2]
  walk_at "mir"
  rw [F_need_t]
  walk_at "mir"
  rw [F_is_length_int, decide_eq_true h4]
  walk_at "mir"
  rw [F_need_t]
  walk_at "mir"
  rw [F_is_many_tv h3]
  walk_at "mir"
  rw [F_need_t]
  rfl
theorem F_Still_str {nm : Str} {a : Int} {tm : Option Int} (ok : KdOk ⟨.still, nm, a, 0, tm⟩) : F_Still___str__ [.im (kindT ⟨.still, nm, a, 0, tm⟩)] = .ok (.str (kindS ⟨.still, nm, a, 0, tm⟩)) [.im (kindT ⟨.still, nm, a, 0, tm⟩)] := by
  have nl := nameB_len ok.nm
  have al := numS_len (by have := ok.a0; omega) ok.a1
  have tl := manyS_len ok.t0
  have h1 := ok.a0
  have h2 := ok.a1
  have h3 := ok.t0
  dsimp only at nl al tl h1 h2 h3
  have l1 : ("still " : Str).length ≤ 6 := by decide +kernel
  have l2 : (" " : Str).length = 1 := by decide +kernel
  have l0 : Str.empty.length = 0 := rfl
  unfold F_Still___str__ b_Still___str__
  walk_at "mir"
  walk_at "js"
  rw [uFmt_str (by omega)]
  walk_at "mir"
  walk_at "js"
  walk_at "js"
  rw [uFmt_num (by omega) h2]
  walk_at "mir"
  walk_at "js"
  walk_at "js"
  rw [F_many_text_tv h3]
  walk_at "mir"
  rw [uFmt_str (by omega)]
  walk_at "mir"
  walk_at "js"
  rw [Still_text]
theorem F_Anew_str {nm : Str} {a : Int} {tm : Option Int} (ok : KdOk ⟨.anew, nm, a, 0, tm⟩) : F_Anew___str__ [.im (kindT ⟨.anew, nm, a, 0, tm⟩)] = .ok (.str (kindS ⟨.anew, nm, a, 0, tm⟩)) [.im (kindT ⟨.anew, nm, a, 0, tm⟩)] := by
  have nl := nameB_len ok.nm
  have al := numS_len (by have := ok.a0; omega) ok.a1
  have tl := manyS_len ok.t0
  have h1 := ok.a0
  have h2 := ok.a1
  have h3 := ok.t0
  dsimp only at nl al tl h1 h2 h3
  have l1 : ("anew " : Str).length ≤ 6 := by decide +kernel
  have l2 : (" " : Str).length = 1 := by decide +kernel
  have l0 : Str.empty.length = 0 := rfl
  unfold F_Anew___str__ b_Anew___str__
  walk_at "mir"
  walk_at "js"
  rw [uFmt_str (by omega)]
  walk_at "mir"
  walk_at "js"
  walk_at "js"
  rw [uFmt_num (by omega) h2]
  walk_at "mir"
  walk_at "js"
  walk_at "js"
  rw [F_many_text_tv h3]
  walk_at "mir"
  rw [uFmt_str (by omega)]
  walk_at "mir"
  walk_at "js"
  rw [Anew_text]
theorem F_Lift_str {nm : Str} {a b : Int} {tm : Option Int} (ok : KdOk ⟨.lift, nm, a, b, tm⟩) : F_Lift___str__ [.im (kindT ⟨.lift, nm, a, b, tm⟩)] = .ok (.str (kindS ⟨.lift, nm, a, b, tm⟩)) [.im (kindT ⟨.lift, nm, a, b, tm⟩)] := by
  have nl := nameB_len ok.nm
  have al := numS_len (by have := ok.a0; omega) ok.a1
  have h4 := ok.bl rfl
  have h5 := ok.b1
  have bl := numS_len (n := b) (by dsimp only at h4; omega) h5
  have tl := manyS_len ok.t0
  have h1 := ok.a0
  have h2 := ok.a1
  have h3 := ok.t0
  dsimp only at nl al tl h1 h2 h3 h4 h5
  have l1 : ("lift " : Str).length ≤ 6 := by decide +kernel
  have l2 : (" " : Str).length = 1 := by decide +kernel
  have l0 : Str.empty.length = 0 := rfl
  unfold F_Lift___str__ b_Lift___str__
  walk_at "mir"
  walk_at "js"
  rw [uFmt_str (by omega)]
  walk_at "mir"
  walk_at "js"
  walk_at "js"
  rw [uFmt_num (by omega) h2]
  walk_at "mir"
  walk_at "js"
  walk_at "js"
  rw [uFmt_num (by omega) h5]
  walk_at "mir"
  walk_at "js"
  walk_at "js"
  rw [F_many_text_tv h3]
  walk_at "mir"
  rw [uFmt_str (by omega)]
  walk_at "mir"
  walk_at "js"
  rw [Lift_text]
end

end Tm

namespace Tm
open PySem PySem.Spec PyProof.Rows L2
noncomputable def tbKS : List (Str × (Ro → Re)) := [("Still", F_Still___str__), ("Anew", F_Anew___str__), ("Lift", F_Lift___str__)]
theorem tbKS_ok {K : PySem.W.Frag} {X : Cx} (E : Env K X.mg X.w) (hr : Room 4 X.A) (hK : X.K = K := by rfl) : ∀ q ∈ tbKS, SpcOk X K "__str__" 2 q := by
  subst hK
  intro q hq
  simp only [tbKS, List.mem_cons, List.not_mem_nil, or_false] at hq
  rcases hq with rfl | rfl | rfl
  · exact ⟨_, _, spm_of E.m_Still___str__, ok_Still___str__ E, hr.mono (by decide)⟩
  · exact ⟨_, _, spm_of E.m_Anew___str__, ok_Anew___str__ E, hr.mono (by decide)⟩
  · exact ⟨_, _, spm_of E.m_Lift___str__, ok_Lift___str__ E, hr.mono (by decide)⟩
noncomputable def b_told_by : Sv := (sSeq (sAsg (mTxt oSplit (mVar 0) (mC (.str " "))) (setIm 1))
    (sSeq (sIf (mOrT (mTst (mUn (uInKd TB_FORMS true) (mOp oIx (mVar 1) (mC (.int 0))))) (mOrT (mTst (mOp oNe (mB bLen (mCons (mVar 1) mNil)) (mUn (uIxKd TB_FORMS) (mOp oIx (mVar 1) (mC (.int 0)))))) (mNotT (mTst (mCall F_is_name [] (mCons (mOp oIx (mVar 1) (mC (.int 1))) mNil)))))) (sRet (mC .non)) sNext)
    (sSeq (sAsg (mLc [4] (mSeqOf (mSl (mVar 1) (mPart (mC (.int 2))) (mPart (mUn uNeg (mC (.int 1)))))) (setIm 4) mYes (mCall F_number_in [] (mCons (mVar 4) mNil))) (setIm 2))
    (sSeq (sAsg (mIf (mTst (mOp oEq (mOp oIx (mVar 1) (mUn uNeg (mC (.int 1)))) (mC (.str "any")))) (mC .non) (mCall F_number_in [] (mCons (mOp oIx (mVar 1) (mUn uNeg (mC (.int 1)))) mNil))) (setIm 3))
    (sSeq (sIf (mOrT (mTst (mOp oIn (mC .non) (mVar 2))) (mAndT (mTst (mOp oIsN (mVar 3) (mC .non))) (mTst (mOp oNe (mOp oIx (mVar 1) (mUn uNeg (mC (.int 1)))) (mC (.str "any")))))) (sRet (mC .non)) sNext)
    (sRet (mB fTup (mCons (mOp oIx (mVar 1) (mC (.int 0))) (mCons (mOp oIx (mVar 1) (mC (.int 1))) (mStar (mVar 2) (mCons (mVar 3) mNil)))))))))))
noncomputable def F_told_by : Ro → Re := runF 1 5 b_told_by
section
variable {P : Program} {w : World} {K : PySem.W.Frag} {mg : Str → Option Value} {base : Heap}
theorem sc_told_by : FnScope ["text", "words", "numbers", "times", "word"] ["text"] (defScope s_told_by) := ⟨rfl, rfl, rfl, by decide +kernel, rfl, by decide +kernel, by decide +kernel⟩
theorem fn_told_by (E : Env K mg w) {fd : FuncData} {dvs : List V} (F : FunD K "told_by" "told_by" (defArgs s_told_by) (defBody s_told_by) (defScope s_told_by) dvs [] (He.ga K "told_by") fd) : FnOk P w K mg base CX0 2 (He.ga K "told_by") fd ["text"] (spF K F_told_by) := by
  refine F.ok sc_told_by (fun vs H Q E h => spF_len h) (fun cdv A outer s H vs Q X hr h => ?_)
  have hu := hr.units
  exact body_ok (k := 1) (W := fun cls d _ H' => X cls d H') (g := b_told_by) (PSs.nox (s_cons (s_set 1 sc_told_by.nd (m_split (m_var 0) m_str))
      (s_cons (s_if (PW.pt (m_por (m_tnotInKd (kd_FORMS E) E.g_FORMS (m_ix (k_ix K) oIx_ok (m_var 1) m_int (fun _ _ => rfl))) (m_por (m_tcmp (q_ne hu) oNe_ok (m_callB (k_len K) bLen_ok E.g_len bt_len (m_cons (m_var 1) m_nil)) (m_ixKd (kd_FORMS E) E.g_FORMS (m_ix (k_ix K) oIx_ok (m_var 1) m_int (fun _ _ => rfl)) (fun _ _ => rfl)) (nomark _)) (m_por1 (m_tnot (m_tst (m_call (ok_is_name (K := K) E) (hr.mono (by decide)) E.g_is_name (fun _ => pass0) (fun _ _ => .nil) (m_cons (m_ix (k_ix K) oIx_ok (m_var 1) m_int (fun _ _ => rfl)) m_nil)))))))) (s_one (s_ret m_non)) s_nil)
      (s_cons (s_setLc 2 (own := [("word", 4)]) (by rfl) sc_told_by.nd (setIm_n 4) (sw_true rfl rfl rfl (by decide +kernel)) (i_seq (m_sl (m_var 1) (o_some m_int) (o_some (m_un un_neg uNeg_ok m_int)))) (blkOk_by (own := [("word", 4)]) (N := ["text", "words", "numbers", "times", "word"]) (sc := defScope s_told_by) (by decide +kernel)) (fun _ _ _ _ _ => (g_name 4 sc_told_by.nd)) (fun _ _ _ _ _ => ts_nil) (fun _ _ _ _ _ => (m_call (ok_number_in (K := K) E) (hr.mono (by decide)) E.g_number_in (fun _ => pass0) (fun _ _ => .nil) (m_cons (m_var 4) m_nil))))
      (s_cons (s_set 3 sc_told_by.nd (m_ifE (m_tcmp (q_eq hu) oEq_ok (m_ix (k_ix K) oIx_ok (m_var 1) (m_un un_neg uNeg_ok m_int) (fun _ _ => rfl)) m_str (nomark _)) m_non (m_call (ok_number_in (K := K) E) (hr.mono (by decide)) E.g_number_in (fun _ => pass0) (fun _ _ => .nil) (m_cons (m_ix (k_ix K) oIx_ok (m_var 1) (m_un un_neg uNeg_ok m_int) (fun _ _ => rfl)) m_nil))))
      (s_cons (s_if (PW.pt (m_por (m_tcmp q_in oIn_ok m_non (m_var 2) (by rfl)) (m_por1 (PW.pt (m_pand (m_tcmp op_isN oIsN_ok (m_var 3) m_non (nomark _)) (m_pand1 (m_tcmp (q_ne hu) oNe_ok (m_ix (k_ix K) oIx_ok (m_var 1) (m_un un_neg uNeg_ok m_int) (fun _ _ => rfl)) m_str (nomark _)))))))) (s_one (s_ret m_non)) s_nil)
      (s_one (s_ret (m_tup (m_cons (m_ix (k_ix K) oIx_ok (m_var 1) m_int (fun _ _ => rfl)) (m_cons (m_ix (k_ix K) oIx_ok (m_var 1) m_int (fun _ _ => rfl)) (m_star (m_var 2) (m_cons (m_var 3) m_nil))))))))))))) (by decide) (fun _ _ _ _ z => z) h
theorem ok_told_by (E : Env K mg w) : Dn P w K mg base CX0 2 (He.ga K "told_by") [] (spF K F_told_by) :=
  dn_of (ps := ["text"]) E.f_told_by (fun fd F => fn_told_by E F) (fun _ _ _ _ _ _ us hl => match us, hl with | [_], _ => rfl)
end
noncomputable def b_made_of : Sv := (sSeq (sIf (mTst (mOp oEq (mOp oIx (mVar 0) (mC (.int 0))) (mC (.str "still")))) (sRet (mMake "Still" F_Still___init__ [] (mCons (mOp oIx (mVar 0) (mC (.int 1))) (mCons (mOp oIx (mVar 0) (mC (.int 2))) (mCons (mOp oIx (mVar 0) (mC (.int 3))) mNil))))) sNext)
    (sSeq (sIf (mTst (mOp oEq (mOp oIx (mVar 0) (mC (.int 0))) (mC (.str "anew")))) (sRet (mMake "Anew" F_Anew___init__ [] (mCons (mOp oIx (mVar 0) (mC (.int 1))) (mCons (mOp oIx (mVar 0) (mC (.int 2))) (mCons (mOp oIx (mVar 0) (mC (.int 3))) mNil))))) sNext)
    (sRet (mMake "Lift" F_Lift___init__ [] (mCons (mOp oIx (mVar 0) (mC (.int 1))) (mCons (mOp oIx (mVar 0) (mC (.int 2))) (mCons (mOp oIx (mVar 0) (mC (.int 3))) (mCons (mOp oIx (mVar 0) (mC (.int 4))) mNil))))))))
noncomputable def F_made_of : Ro → Re := runF 1 1 b_made_of
section
variable {P : Program} {w : World} {K : PySem.W.Frag} {mg : Str → Option Value} {base : Heap}
theorem sc_made_of : FnScope ["told"] ["told"] (defScope s_made_of) := ⟨rfl, rfl, rfl, by decide +kernel, rfl, by decide +kernel, by decide +kernel⟩
theorem fn_made_of (E : Env K mg w) {fd : FuncData} {dvs : List V} (F : FunD K "made_of" "made_of" (defArgs s_made_of) (defBody s_made_of) (defScope s_made_of) dvs [] (He.ga K "made_of") fd) : FnOk P w K mg base CX0 6 (He.ga K "made_of") fd ["told"] (spF K F_made_of) := by
  refine F.ok sc_made_of (fun vs H Q E h => spF_len h) (fun cdv A outer s H vs Q X hr h => ?_)
  have hu := hr.units
  exact body_ok (k := 1) (W := fun cls d _ H' => X cls d H') (g := b_made_of) (PSs.nox (s_cons (s_if (m_tcmp (q_eq hu) oEq_ok (m_ix (k_ix K) oIx_ok (m_var 0) m_int (fun _ _ => rfl)) m_str (nomark _)) (s_one (s_ret (m_make E.mk_Still (ok_Still___init__ (K := K) E) (hr.mono (by decide)) E.g_Still (fun _ => pass0) (fun _ _ => .nil) (m_cons (m_ix (k_ix K) oIx_ok (m_var 0) m_int (fun _ _ => rfl)) (m_cons (m_ix (k_ix K) oIx_ok (m_var 0) m_int (fun _ _ => rfl)) (m_cons (m_ix (k_ix K) oIx_ok (m_var 0) m_int (fun _ _ => rfl)) m_nil)))))) s_nil)
      (s_cons (s_if (m_tcmp (q_eq hu) oEq_ok (m_ix (k_ix K) oIx_ok (m_var 0) m_int (fun _ _ => rfl)) m_str (nomark _)) (s_one (s_ret (m_make E.mk_Anew (ok_Anew___init__ (K := K) E) (hr.mono (by decide)) E.g_Anew (fun _ => pass0) (fun _ _ => .nil) (m_cons (m_ix (k_ix K) oIx_ok (m_var 0) m_int (fun _ _ => rfl)) (m_cons (m_ix (k_ix K) oIx_ok (m_var 0) m_int (fun _ _ => rfl)) (m_cons (m_ix (k_ix K) oIx_ok (m_var 0) m_int (fun _ _ => rfl)) m_nil)))))) s_nil)
      (s_one (s_ret (m_make E.mk_Lift (ok_Lift___init__ (K := K) E) (hr.mono (by decide)) E.g_Lift (fun _ => pass0) (fun _ _ => .nil) (m_cons (m_ix (k_ix K) oIx_ok (m_var 0) m_int (fun _ _ => rfl)) (m_cons (m_ix (k_ix K) oIx_ok (m_var 0) m_int (fun _ _ => rfl)) (m_cons (m_ix (k_ix K) oIx_ok (m_var 0) m_int (fun _ _ => rfl)) (m_cons (m_ix (k_ix K) oIx_ok (m_var 0) m_int (fun _ _ => rfl)) m_nil)))))))))) (by decide) (fun _ _ _ _ z => z) h
theorem ok_made_of (E : Env K mg w) : Dn P w K mg base CX0 6 (He.ga K "made_of") [] (spF K F_made_of) :=
  dn_of (ps := ["told"]) E.f_made_of (fun fd F => fn_made_of E F) (fun _ _ _ _ _ _ us hl => match us, hl with | [_], _ => rfl)
end
noncomputable def b_Kind_read : Sv := (sSeq (sAsg (mCall F_told_by [] (mCons (mVar 1) mNil)) (setIm 2))
    (sSeq (sIf (mTst (mOp oIsN (mVar 2) (mC .non))) (fun _ => .st) sNext)
    (sRet (mCall F_made_of [] (mCons (mVar 2) mNil)))))
noncomputable def F_Kind_read : Ro → Re := runF 2 4 b_Kind_read
section
variable {P : Program} {w : World} {K : PySem.W.Frag} {mg : Str → Option Value} {base : Heap}
theorem sc_Kind_read : FnScope ["cls", "text", "told", "error"] ["cls", "text"] (defScope s_Kind_read) := ⟨rfl, rfl, rfl, by decide +kernel, rfl, by decide +kernel, by decide +kernel⟩
theorem fn_Kind_read (E : Env K mg w) {fd : FuncData} {dvs : List V} (F : FunD K "read" "Kind.read" (defArgs s_Kind_read) (defBody s_Kind_read) (defScope s_Kind_read) dvs [] (He5.wf K (He.ga K "Kind") "classmethod" "read") fd) : FnOk P w K mg base CX0 7 (He5.wf K (He.ga K "Kind") "classmethod" "read") fd ["cls", "text"] (spF K F_Kind_read) := by
  refine F.ok sc_Kind_read (fun vs H Q E h => spF_len h) (fun cdv A outer s H vs Q X hr h => ?_)
  have hu := hr.units
  exact body_ok (k := 2) (W := fun cls d _ H' => X cls d H') (g := b_Kind_read) (PSs.nox (s_cons (s_set 2 sc_Kind_read.nd (m_call (ok_told_by (K := K) E) (hr.mono (by decide)) E.g_told_by (fun _ => pass0) (fun _ _ => .nil) (m_cons (m_var 1) m_nil)))
      (s_cons (s_if (m_tcmp op_isN oIsN_ok (m_var 2) m_non (nomark _)) (s_one s_never) s_nil)
      (s_one (s_try0 (s_one (s_ret (m_call (ok_made_of (K := K) E) (hr.mono (by decide)) E.g_made_of (fun _ => pass0) (fun _ _ => .nil) (m_cons (m_var 2) m_nil))))))))) (by decide) (fun _ _ _ _ z => z) h
theorem ok_Kind_read (E : Env K mg w) : Dn P w K mg base CX0 7 (He5.wf K (He.ga K "Kind") "classmethod" "read") [] (spF K F_Kind_read) :=
  dn_of (ps := ["cls", "text"]) E.f_Kind_read (fun fd F => fn_Kind_read E F) (fun _ _ _ _ _ _ us hl => match us, hl with | [_, _], _ => rfl)
end
noncomputable def b_Kind___eq__ : Sv := (sRet (mAnd (mUn (fIsC tb_Kind) (mVar 1)) (mOp oEq (mB (bStrO tbKS) (mCons (mVar 0) mNil)) (mB (bStrO tbKS) (mCons (mVar 1) mNil)))))
noncomputable def F_Kind___eq__ : Ro → Re := runF 2 2 b_Kind___eq__
section
variable {P : Program} {w : World} {K : PySem.W.Frag} {mg : Str → Option Value} {base : Heap}
theorem sc_Kind___eq__ : FnScope ["self", "other"] ["self", "other"] (defScope s_Kind___eq__) := ⟨rfl, rfl, rfl, by decide +kernel, rfl, by decide +kernel, by decide +kernel⟩
theorem fn_Kind___eq__ (E : Env K mg w) {fd : FuncData} {dvs : List V} (F : FunD K "__eq__" "Kind.__eq__" (defArgs s_Kind___eq__) (defBody s_Kind___eq__) (defScope s_Kind___eq__) dvs [] (He.ma K (He.ga K "Kind") "__eq__") fd) : FnOk P w K mg base CX0 5 (He.ma K (He.ga K "Kind") "__eq__") fd ["self", "other"] (spF K F_Kind___eq__) := by
  refine F.ok sc_Kind___eq__ (fun vs H Q E h => spF_len h) (fun cdv A outer s H vs Q X hr h => ?_)
  have hu := hr.units
  exact body_ok (k := 2) (W := fun cls d _ H' => X cls d H') (g := b_Kind___eq__) (PSs.nox (s_one (s_ret (m_and (m_isC (is_Kind E) E.b_Kind E.g_isinstance E.g_Kind (m_var 1)) (m_one (m_cmp (q_eq hu) oEq_ok (m_callTy (q_strO (tbKS_ok E (hr.mono (by decide)))) bStrO_ok E.g_str bt_str (m_cons (m_var 0) m_nil)) (m_callTy (q_strO (tbKS_ok E (hr.mono (by decide)))) bStrO_ok E.g_str bt_str (m_cons (m_var 1) m_nil)) (nomark _))))))) (by decide) (fun _ _ _ _ z => z) h
theorem ok_Kind___eq__ (E : Env K mg w) : Dn P w K mg base CX0 5 (He.ma K (He.ga K "Kind") "__eq__") [] (spF K F_Kind___eq__) :=
  dn_of (ps := ["self", "other"]) E.f_Kind___eq__ (fun fd F => fn_Kind___eq__ E F) (fun _ _ _ _ _ _ us hl => match us, hl with | [_, _], _ => rfl)
end
end Tm

namespace Tm
open PySem PySem.Spec PyProof.Rows L2
local macro_rules | `(tactic| walk_at "mir") => `(tactic| simp only [ap_mVar, ap_mC, ap_mOp, ap_mUn, ap_mNil, ap_mCons, ap_mB, ap_mL, ap_mNotT, ap_mAndT, ap_mOrT, ap_mIf, ap_mYes, ap_mNoPart, ap_sNext, ap_sRet, ap_sExpr, ap_sAsg, ap_sIf, ap_sFor, ap_mCall, ap_mMake, ap_mCm, ap_mSl, ap_bind_ok, ap_lift, ap_seq, ap_mTst, ap_mAnd, ap_mOr, ap_mNot, ap_mChain, ap_mPart, ap_mSeqOf, ap_mSeqOfS, ap_mTxt, ap_mStar, ap_mMeth, ap_mEnum, ap_mLc, ap_mDc, ap_ite, ouE_ok, re_rt, re_nx, runF, outA, setIm, callV, mFldS, fK_name, fK_times, fK_days, fK_left, fK_by, fK_top, fR_length, fR_rests, fR_cap, fR_kinds, fR_names, ap_mJs, mJs_nil, sFldS, putN, Sl.any, Sl.tr, Sl.up, wipeO, resto, fTup, fLst, v_lt, v_le, v_gt, v_ge, v_sub, v_add, nix, if_true, if_false, ite_true, ite_false, reduceIte, Bool.false_eq_true, Bool.not_true, Bool.not_false, Bool.true_eq_false, Option.bind_some, Option.map_some, Option.bind_none, Option.map_none, List.map_cons, List.map_nil, List.cons_append, List.nil_append, List.append_nil, List.length_cons, List.length_nil, List.getElem?_cons_zero, List.getElem?_cons_succ, List.set_cons_zero, List.set_cons_succ, List.replicate_succ, List.replicate_zero, Nat.reduceAdd, Nat.reduceSub, Nat.reduceLeDiff, List.mapIdx_cons, List.mapIdx_nil, List.mem_cons, List.not_mem_nil, or_false, false_or, or_self, or_true, List.getD_cons_zero, List.getD_cons_succ, Nat.reduceEqDiff, Nat.zero_ne_one, Nat.one_ne_zero, reduceCtorEq, ap_sPar2, ap_sGive, ap_sOwnL, ap_setOw, ap_sApp, isL, ap_chL, ap_gTupM, ap_gTup0, ap_gTup, ap_mCallR, ap_callR, isO, ap_mOpS, ap_mLenS, ap_mPopS, ap_sParLN, notDeal, scaT, Option.isSome_some, seqT_lst, seqT_tup, true_and, and_true, Nat.reduceLT, Nat.lt_add_one, and_self])
local macro_rules | `(tactic| walk_at "js") => `(tactic| (rw [if_pos (by simp only [len_app]; omega)]; try walk_at "mir"))
local macro_rules | `(tactic| walk_at "mih") => `(tactic| simp only [ap_mVar, ap_mC, ap_mOp, ap_mUn, ap_mNil, ap_mCons, ap_mB, ap_mL, ap_mNotT, ap_mAndT, ap_mOrT, ap_mIf, ap_mYes, ap_mNoPart, ap_sNext, ap_sRet, ap_sExpr, ap_sAsg, ap_sIf, ap_sFor, ap_mCall, ap_mMake, ap_mCm, ap_mSl, ap_bind_ok, ap_lift, ap_seq, ap_mTst, ap_mAnd, ap_mOr, ap_mNot, ap_mChain, ap_mPart, ap_mSeqOf, ap_mSeqOfS, ap_mTxt, ap_mStar, ap_mMeth, ap_mEnum, ap_mLc, ap_mDc, ap_ite, ouE_ok, re_rt, re_nx, runF, outA, setIm, callV, mFldS, fK_name, fK_times, fK_days, fK_left, fK_by, fK_top, fR_length, fR_rests, fR_cap, fR_kinds, fR_names, ap_mJs, mJs_nil, sFldS, putN, Sl.any, Sl.tr, Sl.up, wipeO, resto, fTup, fLst, v_lt, v_le, v_gt, v_ge, v_sub, v_add, nix, if_true, if_false, ite_true, ite_false, reduceIte, Bool.false_eq_true, Bool.not_true, Bool.not_false, Bool.true_eq_false, Option.bind_some, Option.map_some, Option.bind_none, Option.map_none, List.map_cons, List.map_nil, List.cons_append, List.nil_append, List.append_nil, List.length_cons, List.length_nil, List.getElem?_cons_zero, List.getElem?_cons_succ, List.set_cons_zero, List.set_cons_succ, List.replicate_succ, List.replicate_zero, Nat.reduceAdd, Nat.reduceSub, Nat.reduceLeDiff, List.mapIdx_cons, List.mapIdx_nil, List.mem_cons, List.not_mem_nil, or_false, false_or, or_self, or_true, List.getD_cons_zero, List.getD_cons_succ, Nat.reduceEqDiff, Nat.zero_ne_one, Nat.one_ne_zero, reduceCtorEq, ap_sPar2, ap_sGive, ap_sOwnL, ap_setOw, ap_sApp, isL, ap_chL, ap_gTupM, ap_gTup0, ap_gTup, ap_mCallR, ap_callR, isO, ap_mOpS, ap_mLenS, ap_mPopS, ap_sParLN, notDeal, scaT, Option.isSome_some, seqT_lst, seqT_tup, true_and, and_true, Nat.reduceLT, Nat.lt_add_one, and_self, decide_true, decide_false, bLen_lst, bLen_tup, oSl_lst, oSl_tup, v_isN0, v_isNi, v_isNs, v_isNt, v_notN0, v_notNi, v_neg, v_int, v_tupL, v_tupT, v_eqs, v_nes, v_eqi, v_nei, *])
local macro_rules | `(tactic| walk_at "ro") => `(tactic| simp only [runF, List.length_cons, List.length_nil, Nat.reduceAdd, Nat.reduceSub, if_true, reduceIte, List.replicate_succ, List.replicate_zero, List.cons_append, List.nil_append, List.set_cons_zero, List.set_cons_succ])
section
/-- a kind's text -/
theorem str_kind {k : Kd} (ok : KdOk k) : bStrO tbKS [kindT k] = some (.str (kindS k)) := by
  obtain ⟨fm, nm, a, b, tm⟩ := k
  cases fm with
  | still =>
    have hb : b = 0 := ok.bn (fun z => by cases z)
    subst hb
    show (match (match F_Still___str__ [.im (kindT ⟨.still, nm, a, 0, tm⟩)] with | .ok t _ => some t | _ => none) with | some (.str z) => some (T.str z) | _ => none) = _
    rw [F_Still_str ok]
  | anew =>
    have hb : b = 0 := ok.bn (fun z => by cases z)
    subst hb
    show (match (match F_Anew___str__ [.im (kindT ⟨.anew, nm, a, 0, tm⟩)] with | .ok t _ => some t | _ => none) with | some (.str z) => some (T.str z) | _ => none) = _
    rw [F_Anew_str ok]
  | lift =>
    show (match (match F_Lift___str__ [.im (kindT ⟨.lift, nm, a, b, tm⟩)] with | .ok t _ => some t | _ => none) with | some (.str z) => some (T.str z) | _ => none) = _
    rw [F_Lift_str ok]
theorem isKind (k : Kd) : fIsC tb_Kind (kindT k) = some (.bl true) := by
  unfold kindT
  cases k.fm <;> rfl
theorem F_Kind_eq {k j : Kd} (ok : KdOk k) (oj : KdOk j) : F_Kind___eq__ [.im (kindT k), .im (kindT j)] = .ok (.bl (decide (kindS k = kindS j))) [.im (kindT k), .im (kindT j)] := by
  unfold F_Kind___eq__ b_Kind___eq__
  walk_at "mir"
  rw [isKind]
  walk_at "mir"
  rw [str_kind ok]
  walk_at "mir"
  rw [str_kind oj]
  walk_at "mir"
  rfl
/-- the arguments that a kind's text tells -/
def toldA (k : Kd) : T := .tup ([.str k.fm.word, .str k.name, .int k.a] ++ (if k.fm = .lift then [.int k.b] else []) ++ [tvT k.times])
theorem F_made {k : Kd} (ok : KdOk k) : F_made_of [.im (toldA k)] = .ok (kindT k) [.im (toldA k)] := by
  obtain ⟨fm, nm, a, b, tm⟩ := k
  have h1 := ok.nm
  have h2 := ok.a0
  have h3 : ∀ c, tm = some c → 1 ≤ c := fun c h => (ok.t0 c h).1
  dsimp only at h1 h2
  unfold F_made_of b_made_of
  walk_at "mir"
  cases fm with
  | still =>
    have hb : b = 0 := ok.bn (fun z => by cases z)
    subst hb
    rw [show oIx (toldA ⟨.still, nm, a, 0, tm⟩) (.int 0) = some (.str "still") from rfl]
    walk_at "mir"
    rw [show oEq (.str "still") (.str "still") = some (.bl true) from rfl]
    walk_at "mir"
    rw [show oIx (toldA ⟨.still, nm, a, 0, tm⟩) (.int 1) = some (.str nm) from rfl]
    walk_at "mir"
    rw [show oIx (toldA ⟨.still, nm, a, 0, tm⟩) (.int 2) = some (.int a) from rfl]
    walk_at "mir"
    rw [show oIx (toldA ⟨.still, nm, a, 0, tm⟩) (.int 3) = some (tvT tm) from rfl]
    walk_at "mir"
    rw [mk_still _ h1 h2 h3]
    rfl
  | anew =>
    have hb : b = 0 := ok.bn (fun z => by cases z)
    subst hb
    rw [show oIx (toldA ⟨.anew, nm, a, 0, tm⟩) (.int 0) = some (.str "anew") from rfl]
    walk_at "mir"
    rw [show oEq (.str "anew") (.str "still") = some (.bl false) from rfl]
    walk_at "mir"
    rw [show oIx (toldA ⟨.anew, nm, a, 0, tm⟩) (.int 0) = some (.str "anew") from rfl]
    walk_at "mir"
    rw [show oEq (.str "anew") (.str "anew") = some (.bl true) from rfl]
    walk_at "mir"
    rw [show oIx (toldA ⟨.anew, nm, a, 0, tm⟩) (.int 1) = some (.str nm) from rfl]
    walk_at "mir"
    rw [show oIx (toldA ⟨.anew, nm, a, 0, tm⟩) (.int 2) = some (.int a) from rfl]
    walk_at "mir"
    rw [show oIx (toldA ⟨.anew, nm, a, 0, tm⟩) (.int 3) = some (tvT tm) from rfl]
    walk_at "mir"
    rw [mk_anew _ h1 h2 h3]
    rfl
  | lift =>
    have h4 := ok.bl rfl
    rw [show oIx (toldA ⟨.lift, nm, a, b, tm⟩) (.int 0) = some (.str "lift") from rfl]
    walk_at "mir"
    rw [show oEq (.str "lift") (.str "still") = some (.bl false) from rfl]
    walk_at "mir"
    rw [show oIx (toldA ⟨.lift, nm, a, b, tm⟩) (.int 0) = some (.str "lift") from rfl]
    walk_at "mir"
    rw [show oEq (.str "lift") (.str "anew") = some (.bl false) from rfl]
    walk_at "mir"
    rw [show oIx (toldA ⟨.lift, nm, a, b, tm⟩) (.int 1) = some (.str nm) from rfl]
    walk_at "mir"
    rw [show oIx (toldA ⟨.lift, nm, a, b, tm⟩) (.int 2) = some (.int a) from rfl]
    walk_at "mir"
    rw [show oIx (toldA ⟨.lift, nm, a, b, tm⟩) (.int 3) = some (.int b) from rfl]
    walk_at "mir"
    rw [show oIx (toldA ⟨.lift, nm, a, b, tm⟩) (.int 4) = some (tvT tm) from rfl]
    walk_at "mir"
    rw [mk_lift _ h1 h2 h4 h3]
    rfl
/-- the words of a kind's text -/
theorem in_FORMS (fm : Fm) : uInKd TB_FORMS true (.str fm.word) = some (.bl false) := by cases fm <;> rfl
theorem ix_FORMS (fm : Fm) : uIxKd TB_FORMS (.str fm.word) = some (.int fm.size) := by cases fm <;> rfl
theorem oNeg1 : uNeg (.int 1) = some (.int (-1)) := rfl
theorem num_ok {n : Int} (h0 : 0 ≤ n) (h1 : n < 10 ^ 19) : F_number_in [.im (.str (numS n))] = .ok (.int n) [.im (.str (numS n))] := by
  rw [F_number_in_str _ (Nat.le_trans (numS_len h0 h1) (by decide)), numIn_numS h0 h1]
  rfl
theorem lc_nums (z w : T) : ∀ ns : List Int, ns.length ≤ 1000000 → (∀ n ∈ ns, 0 ≤ n ∧ n < 10 ^ 19) → lcL [4] (setIm 4) mYes (mCall F_number_in [] (mCons (mVar 4) mNil)) (ns.map fun n => T.str (numS n)) [] [.im z, .im w, .un, .un, .un] = .ok (ns.map T.int) [.im z, .im w, .un, .un, .un] := by
  intro ns hl h
  have key : ∀ (l acc : List Int), (∀ n ∈ l, 0 ≤ n ∧ n < 10 ^ 19) → acc.length + l.length ≤ 1000000 → lcL [4] (setIm 4) mYes (mCall F_number_in [] (mCons (mVar 4) mNil)) (l.map fun n => T.str (numS n)) (acc.map T.int) [.im z, .im w, .un, .un, .un] = .ok ((acc ++ l).map T.int) [.im z, .im w, .un, .un, .un] := by
    intro l
    induction l with
    | nil =>
      intro acc _ _
      rw [List.append_nil]
      rfl
    | cons n l ih =>
      intro acc hn hl
      obtain ⟨n0, n1⟩ := hn n (List.mem_cons_self ..)
      have hl' : acc.length + l.length + 1 ≤ 1000000 := by simpa [Nat.add_assoc] using hl
      have nk := num_ok n0 n1
      rw [List.map_cons]
      unfold lcL
      walk_at "mih"
      rw [List.length_map, if_pos (by omega)]
      have := ih (acc ++ [n]) (fun m hm => hn m (List.mem_cons_of_mem _ hm)) (by simp; omega)
      rw [List.append_assoc, List.map_append] at this
      exact this
  have := key ns [] h (by simpa using hl)
  simpa using this
theorem F_told {k : Kd} (ok : KdOk k) : F_told_by [.im (.str (kindS k))] = .ok (toldA k) [.im (.str (kindS k))] := by
  have hl : (kindS k).length ≤ 1000000 := Nat.le_trans (kindS_len ok) (by decide)
  have sp : oSplit (.str (kindS k)) (.str " ") = some (.lst ((kindWs k).map T.str)) := by rw [oSplit_ok (by decide +kernel) hl, split_kind ok]
  have w0 : oIx (.lst ((kindWs k).map T.str)) (.int 0) = some (.str k.fm.word) := by
    unfold kindWs
    cases k.fm <;> rfl
  have w1 : oIx (.lst ((kindWs k).map T.str)) (.int 1) = some (.str k.name) := by
    unfold kindWs
    cases k.fm <;> rfl
  have w9 : oIx (.lst ((kindWs k).map T.str)) (.int (-1)) = some (.str (manyS k.times)) := by
    unfold kindWs
    cases k.fm <;> rfl
  have wl : oNe (.int ((kindWs k).map T.str).length) (.int k.fm.size) = some (.bl false) := by
    have : ((kindWs k).map T.str).length = k.fm.size := by
      unfold kindWs
      cases k.fm <;> rfl
    rw [this]
    show some (T.bl (!decide ((k.fm.size : Int) = k.fm.size))) = _
    rw [decide_eq_true rfl]
    rfl
  have nm : F_is_name [.im (.str k.name)] = .ok (.bl true) [.im (.str k.name)] := by rw [F_is_name_str _ (nameB_le ok.nm), ok.nm]
  have f1 := in_FORMS k.fm
  have f2 := ix_FORMS k.fm
  have e1 := oNeg1
  obtain ⟨ns, md, hn, ta⟩ : ∃ ns : List Int, cutT ((kindWs k).map T.str) (some 2) (some (-1)) = ns.map (fun n => T.str (numS n)) ∧ (ns.length ≤ 2 ∧ ∀ n ∈ ns, 0 ≤ n ∧ n < 10 ^ 19) ∧ toldA k = .tup ([.str k.fm.word, .str k.name] ++ ns.map T.int ++ [tvT k.times]) := by
    obtain ⟨fm, nm', a, b, tm⟩ := k
    have h1 := ok.a0
    have h2 := ok.a1
    have h3 := ok.bl
    have h4 := ok.b1
    dsimp only at h1 h2 h3 h4
    cases fm with
    | still => exact ⟨[a], rfl, ⟨by simp, by simp; omega⟩, rfl⟩
    | anew => exact ⟨[a], rfl, ⟨by simp, by simp; omega⟩, rfl⟩
    | lift =>
      have := h3 rfl
      exact ⟨[a, b], rfl, ⟨by simp, by simp; omega⟩, rfl⟩
  have lc := lc_nums (.str (kindS k)) (.lst ((kindWs k).map T.str)) ns (by omega) hn.2
  have ni : oIn .non (.lst (ns.map T.int)) = some (.bl false) := by
    have : ∀ ns : List Int, flatTs (ns.map T.int) = some (ns.map V.int) := by
      intro ns
      induction ns with
      | nil => rfl
      | cons n ns ih => simp [flatTs, flatT, ih]
    have e : inT .non (.lst (ns.map T.int)) = some (inV .non (ns.map V.int)) := by
      unfold inT
      rw [seqT_lst, Option.bind_some, this]
      rfl
    have e2 : inV .non (ns.map V.int) = false := by
      unfold inV
      rw [List.any_map]
      simp [eqV]
    unfold oIn oInF
    rw [e, e2]
    rfl
  rw [ta]
  clear ta
  cases tm : k.times with
  | none =>
    rw [tm] at w9
    have m1 : oEq (.str (manyS none)) (.str "any") = some (.bl true) := rfl
    have m2 : oNe (.str (manyS none)) (.str "any") = some (.bl false) := rfl
    have m0 : oIsN .non .non = some (.bl true) := rfl
    unfold F_told_by b_told_by
    walk_at "mih"
    rw [if_pos (by simp; omega)]
    walk_at "mir"
    rfl
  | some c =>
    rw [tm] at w9
    obtain ⟨c1, c2⟩ := ok.t0 c tm
    have nk : F_number_in [.im (.str (manyS (some c)))] = .ok (.int c) [.im (.str (manyS (some c)))] := num_ok (n := c) (by omega) c2
    have m1 : oEq (.str (manyS (some c))) (.str "any") = some (.bl false) := by
      show some (T.bl (decide (numS c = "any"))) = _
      rw [decide_eq_false (any_num (by omega))]
    have m2 : oNe (.str (manyS (some c))) (.str "any") = some (.bl true) := by
      show some (T.bl (!decide (numS c = "any"))) = _
      rw [decide_eq_false (any_num (by omega))]
      rfl
    have m3 : oIsN (.int c) .non = some (.bl false) := rfl
    unfold F_told_by b_told_by
    walk_at "mih"
    rw [if_pos (by simp; omega)]
    walk_at "mir"
    rfl
end

end Tm

namespace Tm
open PySem PySem.Spec PyProof.Rows L2
noncomputable def b_are_rests : Sv := (sSeq (sIf (mOrT (mNotT (mTst (mCall F_is_sequence [] (mCons (mVar 0) mNil)))) (mTst (mOp oGt (mB bLen (mCons (mVar 0) mNil)) (mC (.int 6))))) (sRet (mC (.bl false))) sNext)
    (sSeq (sIf (mNotT (mTst (mB bAll (mCons (mLc [1] (mSeqOf (mVar 0)) (setIm 1) mYes (mAnd (mCall F_is_integer [] (mCons (mVar 1) mNil)) (mChain oLe oLt (mC (.int 0)) (mVar 1) (mC (.int 7))))) mNil)))) (sRet (mC (.bl false))) sNext)
    (sRet (mUn uNd (mVar 0)))))
noncomputable def F_are_rests : Ro → Re := runF 1 2 b_are_rests
section
variable {P : Program} {w : World} {K : PySem.W.Frag} {mg : Str → Option Value} {base : Heap}
theorem sc_are_rests : FnScope ["value", "one"] ["value"] (defScope s_are_rests) := ⟨rfl, rfl, rfl, by decide +kernel, rfl, by decide +kernel, by decide +kernel⟩
theorem fn_are_rests (E : Env K mg w) {fd : FuncData} {dvs : List V} (F : FunD K "are_rests" "are_rests" (defArgs s_are_rests) (defBody s_are_rests) (defScope s_are_rests) dvs [] (He.ga K "are_rests") fd) : FnOk P w K mg base CX0 2 (He.ga K "are_rests") fd ["value"] (spF K F_are_rests) := by
  refine F.ok sc_are_rests (fun vs H Q E h => spF_len h) (fun cdv A outer s H vs Q X hr h => ?_)
  have hu := hr.units
  exact body_ok (k := 1) (W := fun cls d _ H' => X cls d H') (g := b_are_rests) (PSs.nox (s_cons (s_if (PW.pt (m_por (m_tnot (m_tst (m_call (ok_is_sequence (K := K) E) (hr.mono (by decide)) E.g_is_sequence (fun _ => pass0) (fun _ _ => .nil) (m_cons (m_var 0) m_nil)))) (m_por1 (m_tcmp op_gt oIB_ok (m_callB (k_len K) bLen_ok E.g_len bt_len (m_cons (m_var 0) m_nil)) (m_gi E.g_MOST_RESTS) (nomark _))))) (s_one (s_ret m_bl)) s_nil)
      (s_cons (s_if (m_tnot (m_tst (m_callB (k_all K) bAll_ok E.g_all bt_all (m_cons (m_lc (own := [("one", 1)]) (by rfl) sc_are_rests.nd (setIm_n 1) (i_seq (m_var 0)) (blkOk_by (own := [("one", 1)]) (N := ["value", "one"]) (sc := defScope s_are_rests) (by decide +kernel)) (fun _ _ _ _ _ => (g_name 1 sc_are_rests.nd)) (fun _ _ _ _ _ => ts_nil) (fun _ _ _ _ _ => (m_and (m_call (ok_is_integer (K := K) E) (hr.mono (by decide)) E.g_is_integer (fun _ => pass0) (fun _ _ => .nil) (m_cons (m_var 1) m_nil)) (m_one (m_chain op_le op_lt oIB_ok oIB_ok m_int (m_var 1) (m_gi E.g_WEEK)))))) m_nil)))) (s_one (s_ret m_bl)) s_nil)
      (s_one (s_ret (m_setEq 0 E.g_len E.g_set)))))) (by decide) (fun _ _ _ _ z => z) h
theorem ok_are_rests (E : Env K mg w) : Dn P w K mg base CX0 2 (He.ga K "are_rests") [] (spF K F_are_rests) :=
  dn_of (ps := ["value"]) E.f_are_rests (fun fd F => fn_are_rests E F) (fun _ _ _ _ _ _ us hl => match us, hl with | [_], _ => rfl)
end
noncomputable def b_are_kinds : Sv := (sSeq (sIf (mOrT (mNotT (mTst (mCall F_is_sequence [] (mCons (mVar 0) mNil)))) (mNotT (mTst (mB bAll (mCons (mLc [1] (mSeqOf (mVar 0)) (setIm 1) mYes (mUn (fIsC tb_Kind) (mVar 1))) mNil))))) (sRet (mC (.bl false))) sNext)
    (sRet (mOp oEq (mB bLenD (mCons (mDc [1] (mSeqOf (mVar 0)) (setIm 1) mYes (mFldS 1 ["Still", "Anew", "Lift"] "name") (mC (.bl true))) mNil)) (mB bLen (mCons (mVar 0) mNil)))))
noncomputable def F_are_kinds : Ro → Re := runF 1 2 b_are_kinds
section
variable {P : Program} {w : World} {K : PySem.W.Frag} {mg : Str → Option Value} {base : Heap}
theorem sc_are_kinds : FnScope ["value", "one"] ["value"] (defScope s_are_kinds) := ⟨rfl, rfl, rfl, by decide +kernel, rfl, by decide +kernel, by decide +kernel⟩
theorem fn_are_kinds (E : Env K mg w) {fd : FuncData} {dvs : List V} (F : FunD K "are_kinds" "are_kinds" (defArgs s_are_kinds) (defBody s_are_kinds) (defScope s_are_kinds) dvs [] (He.ga K "are_kinds") fd) : FnOk P w K mg base CX0 2 (He.ga K "are_kinds") fd ["value"] (spF K F_are_kinds) := by
  refine F.ok sc_are_kinds (fun vs H Q E h => spF_len h) (fun cdv A outer s H vs Q X hr h => ?_)
  have hu := hr.units
  exact body_ok (k := 1) (W := fun cls d _ H' => X cls d H') (g := b_are_kinds) (PSs.nox (s_cons (s_if (PW.pt (m_por (m_tnot (m_tst (m_call (ok_is_sequence (K := K) E) (hr.mono (by decide)) E.g_is_sequence (fun _ => pass0) (fun _ _ => .nil) (m_cons (m_var 0) m_nil)))) (m_por1 (m_tnot (m_tst (m_callB (k_all K) bAll_ok E.g_all bt_all (m_cons (m_lc (own := [("one", 1)]) (by rfl) sc_are_kinds.nd (setIm_n 1) (i_seq (m_var 0)) (blkOk_by (own := [("one", 1)]) (N := ["value", "one"]) (sc := defScope s_are_kinds) (by decide +kernel)) (fun _ _ _ _ _ => (g_name 1 sc_are_kinds.nd)) (fun _ _ _ _ _ => ts_nil) (fun _ _ _ _ _ => (m_isC (is_Kind E) E.b_Kind E.g_isinstance E.g_Kind (m_var 1)))) m_nil))))))) (s_one (s_ret m_bl)) s_nil)
      (s_one (s_ret (m_cmp (q_eq hu) oEq_ok (m_callB call_lenD bLenD_ok E.g_len bt_len (m_cons (m_dc (own := [("one", 1)]) (by rfl) sc_are_kinds.nd (setIm_n 1) (i_seq (m_var 0)) (blkOk_by (own := [("one", 1)]) (N := ["value", "one"]) (sc := defScope s_are_kinds) (by decide +kernel)) (fun _ _ _ _ _ => (g_name 1 sc_are_kinds.nd)) (fun _ _ _ _ _ => ts_nil) (fun _ _ _ _ _ => (m_fldS 1 (fc_name E))) (fun _ _ _ _ _ => m_bl)) m_nil)) (m_callB (k_len K) bLen_ok E.g_len bt_len (m_cons (m_var 0) m_nil)) (nomark _)))))) (by decide) (fun _ _ _ _ z => z) h
theorem ok_are_kinds (E : Env K mg w) : Dn P w K mg base CX0 2 (He.ga K "are_kinds") [] (spF K F_are_kinds) :=
  dn_of (ps := ["value"]) E.f_are_kinds (fun fd F => fn_are_kinds E F) (fun _ _ _ _ _ _ us hl => match us, hl with | [_], _ => rfl)
end
noncomputable def b_head_in : Sv := (sSeq (sAsg (mTxt oSplit (mVar 0) (mC (.str " "))) (setIm 1))
    (sSeq (sIf (mOrT (mTst (mOp oLt (mB bLen (mCons (mVar 1) mNil)) (mC (.int 6)))) (mOrT (mTst (mOp oNe (mOp oIx (mVar 1) (mC (.int 0))) (mC (.str "term")))) (mOrT (mTst (mOp oNe (mOp oIx (mVar 1) (mC (.int 2))) (mC (.str "rests")))) (mTst (mOp oNe (mOp oIx (mVar 1) (mUn uNeg (mC (.int 2)))) (mC (.str "cap"))))))) (sRet (mC .non)) sNext)
    (sSeq (sPar2 3 4 (mCons (mCall F_number_in [] (mCons (mOp oIx (mVar 1) (mC (.int 1))) mNil)) (mCons (mSl (mVar 1) (mPart (mC (.int 3))) (mPart (mUn uNeg (mC (.int 2))))) mNil)))
    (sSeq (sAsg (mIf (mTst (mOp oEq (mOp oIx (mVar 1) (mUn uNeg (mC (.int 1)))) (mC (.str "none")))) (mC .non) (mCall F_number_in [] (mCons (mOp oIx (mVar 1) (mUn uNeg (mC (.int 1)))) mNil))) (setIm 2))
    (sSeq (sIf (mOrT (mTst (mOp oIsN (mVar 3) (mC .non))) (mAndT (mTst (mOp oIsN (mVar 2) (mC .non))) (mTst (mOp oNe (mOp oIx (mVar 1) (mUn uNeg (mC (.int 1)))) (mC (.str "none")))))) (sRet (mC .non)) sNext)
    (sSeq (sIf (mTst (mOp oEq (mVar 4) (mB fLst (mCons (mC (.str "none")) mNil)))) (sRet (mB fTup (mCons (mVar 3) (mCons (mB fLst mNil) (mCons (mVar 2) mNil))))) sNext)
    (sSeq (sIf (mNotT (mTst (mB bAll (mCons (mLc [5] (mSeqOf (mVar 4)) (setIm 5) mYes (mAnd (mOp oEq (mB bLen (mCons (mVar 5) mNil)) (mC (.int 1))) (mOp oIn (mVar 5) (mC (.str "0123456789"))))) mNil)))) (sRet (mC .non)) sNext)
    (sRet (mB fTup (mCons (mVar 3) (mCons (mLc [5] (mSeqOf (mVar 4)) (setIm 5) mYes (mB bInt (mCons (mVar 5) mNil))) (mCons (mVar 2) mNil))))))))))))
noncomputable def F_head_in : Ro → Re := runF 1 6 b_head_in
section
variable {P : Program} {w : World} {K : PySem.W.Frag} {mg : Str → Option Value} {base : Heap}
theorem sc_head_in : FnScope ["line", "words", "cap", "length", "rests", "word"] ["line"] (defScope s_head_in) := ⟨rfl, rfl, rfl, by decide +kernel, rfl, by decide +kernel, by decide +kernel⟩
theorem fn_head_in (E : Env K mg w) {fd : FuncData} {dvs : List V} (F : FunD K "head_in" "head_in" (defArgs s_head_in) (defBody s_head_in) (defScope s_head_in) dvs [] (He.ga K "head_in") fd) : FnOk P w K mg base CX0 2 (He.ga K "head_in") fd ["line"] (spF K F_head_in) := by
  refine F.ok sc_head_in (fun vs H Q E h => spF_len h) (fun cdv A outer s H vs Q X hr h => ?_)
  have hu := hr.units
  exact body_ok (k := 1) (W := fun cls d _ H' => X cls d H') (g := b_head_in) (PSs.nox (s_cons (s_set 1 sc_head_in.nd (m_split (m_var 0) m_str))
      (s_cons (s_if (PW.pt (m_por (m_tcmp op_lt oIB_ok (m_callB (k_len K) bLen_ok E.g_len bt_len (m_cons (m_var 1) m_nil)) m_int (nomark _)) (m_por (m_tcmp (q_ne hu) oNe_ok (m_ix (k_ix K) oIx_ok (m_var 1) m_int (fun _ _ => rfl)) m_str (nomark _)) (m_por (m_tcmp (q_ne hu) oNe_ok (m_ix (k_ix K) oIx_ok (m_var 1) m_int (fun _ _ => rfl)) m_str (nomark _)) (m_por1 (m_tcmp (q_ne hu) oNe_ok (m_ix (k_ix K) oIx_ok (m_var 1) (m_un un_neg uNeg_ok m_int) (fun _ _ => rfl)) m_str (nomark _))))))) (s_one (s_ret m_non)) s_nil)
      (s_cons (s_par2 3 4 sc_head_in.nd (m_cons (m_call (ok_number_in (K := K) E) (hr.mono (by decide)) E.g_number_in (fun _ => pass0) (fun _ _ => .nil) (m_cons (m_ix (k_ix K) oIx_ok (m_var 1) m_int (fun _ _ => rfl)) m_nil)) (m_cons (m_sl (m_var 1) (o_some m_int) (o_some (m_un un_neg uNeg_ok m_int))) m_nil)))
      (s_cons (s_set 2 sc_head_in.nd (m_ifE (m_tcmp (q_eq hu) oEq_ok (m_ix (k_ix K) oIx_ok (m_var 1) (m_un un_neg uNeg_ok m_int) (fun _ _ => rfl)) m_str (nomark _)) m_non (m_call (ok_number_in (K := K) E) (hr.mono (by decide)) E.g_number_in (fun _ => pass0) (fun _ _ => .nil) (m_cons (m_ix (k_ix K) oIx_ok (m_var 1) (m_un un_neg uNeg_ok m_int) (fun _ _ => rfl)) m_nil))))
      (s_cons (s_if (PW.pt (m_por (m_tcmp op_isN oIsN_ok (m_var 3) m_non (nomark _)) (m_por1 (PW.pt (m_pand (m_tcmp op_isN oIsN_ok (m_var 2) m_non (nomark _)) (m_pand1 (m_tcmp (q_ne hu) oNe_ok (m_ix (k_ix K) oIx_ok (m_var 1) (m_un un_neg uNeg_ok m_int) (fun _ _ => rfl)) m_str (nomark _)))))))) (s_one (s_ret m_non)) s_nil)
      (s_cons (s_if (m_tcmp (q_eq hu) oEq_ok (m_var 4) (m_lst (m_cons m_str m_nil)) (nomark _)) (s_one (s_ret (m_tup (m_cons (m_var 3) (m_cons (m_lst m_nil) (m_cons (m_var 2) m_nil)))))) s_nil)
      (s_cons (s_if (m_tnot (m_tst (m_callB (k_all K) bAll_ok E.g_all bt_all (m_cons (m_lc (own := [("word", 5)]) (by rfl) sc_head_in.nd (setIm_n 5) (i_seq (m_var 4)) (blkOk_by (own := [("word", 5)]) (N := ["line", "words", "cap", "length", "rests", "word"]) (sc := defScope s_head_in) (by decide +kernel)) (fun _ _ _ _ _ => (g_name 5 sc_head_in.nd)) (fun _ _ _ _ _ => ts_nil) (fun _ _ _ _ _ => (m_and (m_cmp (q_eq hu) oEq_ok (m_callB (k_len K) bLen_ok E.g_len bt_len (m_cons (m_var 5) m_nil)) m_int (nomark _)) (m_one (m_cmp q_in oIn_ok (m_var 5) (m_gs E.g_SIGNS) (by rfl)))))) m_nil)))) (s_one (s_ret m_non)) s_nil)
      (s_one (s_ret (m_tup (m_cons (m_var 3) (m_cons (m_lc (own := [("word", 5)]) (by rfl) sc_head_in.nd (setIm_n 5) (i_seq (m_var 4)) (blkOk_by (own := [("word", 5)]) (N := ["line", "words", "cap", "length", "rests", "word"]) (sc := defScope s_head_in) (by decide +kernel)) (fun _ _ _ _ _ => (g_name 5 sc_head_in.nd)) (fun _ _ _ _ _ => ts_nil) (fun _ _ _ _ _ => (m_callTy q_int bInt_ok E.g_int bt_int (m_cons (m_var 5) m_nil)))) (m_cons (m_var 2) m_nil)))))))))))))) (by decide) (fun _ _ _ _ z => z) h
theorem ok_head_in (E : Env K mg w) : Dn P w K mg base CX0 2 (He.ga K "head_in") [] (spF K F_head_in) :=
  dn_of (ps := ["line"]) E.f_head_in (fun fd F => fn_head_in E F) (fun _ _ _ _ _ _ us hl => match us, hl with | [_], _ => rfl)
end
noncomputable def b_Rule___init__ : Sv := (sSeq (sIf (mNotT (mTst (mCall F_is_length [] (mCons (mVar 1) mNil)))) (fun _ => .st) sNext)
    (sSeq (sIf (mNotT (mTst (mCall F_are_rests [] (mCons (mVar 2) mNil)))) (fun _ => .st) sNext)
    (sSeq (sIf (mAndT (mTst (mOp oNotN (mVar 3) (mC .non))) (mNotT (mTst (mCall F_is_length [] (mCons (mVar 3) mNil))))) (fun _ => .st) sNext)
    (sSeq (sIf (mNotT (mTst (mCall F_are_kinds [] (mCons (mVar 4) mNil)))) (fun _ => .st) sNext)
    (sSeq (sFldS 0 ["Rule"] "length" (mVar 1))
    (sSeq (sFldS 0 ["Rule"] "rests" (mB bTuple (mCons (mB bSrtI (mCons (mLc [6] (mSeqOf (mVar 2)) (setIm 6) mYes (mB bInt (mCons (mVar 6) mNil))) mNil)) mNil)))
    (sSeq (sFldS 0 ["Rule"] "cap" (mVar 3))
    (sSeq (sFldS 0 ["Rule"] "kinds" (mB bTuple (mCons (mVar 4) mNil)))
    (sFldS 0 ["Rule"] "names" (mB bTuple (mCons (mLc [5] (mSeqOf (mVar 4)) (setIm 5) mYes (mFldS 5 ["Still", "Anew", "Lift"] "name")) mNil)))))))))))
noncomputable def F_Rule___init__ : Ro → Re := runF 5 7 b_Rule___init__
section
variable {P : Program} {w : World} {K : PySem.W.Frag} {mg : Str → Option Value} {base : Heap}
theorem sc_Rule___init__ : FnScope ["self", "length", "rests", "cap", "kinds", "kind", "one"] ["self", "length", "rests", "cap", "kinds"] (defScope s_Rule___init__) := ⟨rfl, rfl, rfl, by decide +kernel, rfl, by decide +kernel, by decide +kernel⟩
theorem fn_Rule___init__ (E : Env K mg w) {fd : FuncData} {dvs : List V} (F : FunD K "__init__" "Rule.__init__" (defArgs s_Rule___init__) (defBody s_Rule___init__) (defScope s_Rule___init__) dvs [] (He.ma K (He.ga K "Rule") "__init__") fd) : FnOk P w K mg base CX0 3 (He.ma K (He.ga K "Rule") "__init__") fd ["self", "length", "rests", "cap", "kinds"] (spF K F_Rule___init__) := by
  refine F.ok sc_Rule___init__ (fun vs H Q E h => spF_len h) (fun cdv A outer s H vs Q X hr h => ?_)
  have hu := hr.units
  exact body_ok (k := 5) (W := fun cls d _ H' => X cls d H') (g := b_Rule___init__) (PSs.nox (s_cons (s_if (m_tnot (m_tst (m_call (ok_is_length (K := K) E) (hr.mono (by decide)) E.g_is_length (fun _ => pass0) (fun _ _ => .nil) (m_cons (m_var 1) m_nil)))) (s_one s_never) s_nil)
      (s_cons (s_if (m_tnot (m_tst (m_call (ok_are_rests (K := K) E) (hr.mono (by decide)) E.g_are_rests (fun _ => pass0) (fun _ _ => .nil) (m_cons (m_var 2) m_nil)))) (s_one s_never) s_nil)
      (s_cons (s_if (PW.pt (m_pand (m_tcmp op_notN oNotN_ok (m_var 3) m_non (nomark _)) (m_pand1 (m_tnot (m_tst (m_call (ok_is_length (K := K) E) (hr.mono (by decide)) E.g_is_length (fun _ => pass0) (fun _ _ => .nil) (m_cons (m_var 3) m_nil))))))) (s_one s_never) s_nil)
      (s_cons (s_if (m_tnot (m_tst (m_call (ok_are_kinds (K := K) E) (hr.mono (by decide)) E.g_are_kinds (fun _ => pass0) (fun _ _ => .nil) (m_cons (m_var 4) m_nil)))) (s_one s_never) s_nil)
      (s_cons (s_fldS 0 (fc_length E) (m_var 1))
      (s_cons (s_fldS 0 (fc_rests E) (m_callTy (k_tuple K) bTuple_ok E.g_tuple bt_tuple (m_cons (m_callB (k_sorted K) bSrtI_ok E.g_sorted bt_sorted (m_cons (m_lc (own := [("one", 6)]) (by rfl) sc_Rule___init__.nd (setIm_n 6) (i_seq (m_var 2)) (blkOk_by (own := [("one", 6)]) (N := ["self", "length", "rests", "cap", "kinds", "kind", "one"]) (sc := defScope s_Rule___init__) (by decide +kernel)) (fun _ _ _ _ _ => (g_name 6 sc_Rule___init__.nd)) (fun _ _ _ _ _ => ts_nil) (fun _ _ _ _ _ => (m_callTy q_int bInt_ok E.g_int bt_int (m_cons (m_var 6) m_nil)))) m_nil)) m_nil)))
      (s_cons (s_fldS 0 (fc_cap E) (m_var 3))
      (s_cons (s_fldS 0 (fc_kinds E) (m_callTy (k_tuple K) bTuple_ok E.g_tuple bt_tuple (m_cons (m_var 4) m_nil)))
      (s_one (s_fldS 0 (fc_names E) (m_callTy (k_tuple K) bTuple_ok E.g_tuple bt_tuple (m_cons (m_lc (own := [("kind", 5)]) (by rfl) sc_Rule___init__.nd (setIm_n 5) (i_seq (m_var 4)) (blkOk_by (own := [("kind", 5)]) (N := ["self", "length", "rests", "cap", "kinds", "kind", "one"]) (sc := defScope s_Rule___init__) (by decide +kernel)) (fun _ _ _ _ _ => (g_name 5 sc_Rule___init__.nd)) (fun _ _ _ _ _ => ts_nil) (fun _ _ _ _ _ => (m_fldS 5 (fc_name E)))) m_nil))))))))))))) (by decide) (fun _ _ _ _ z => z) h
theorem ok_Rule___init___0 (E : Env K mg w) : Dn P w K mg base CX0 3 (He.ma K (He.ga K "Rule") "__init__") [.ref (emptyDfl (fun K => He.ma K (He.ga K "Rule") "__init__") 0 K), .non, .ref (emptyDfl (fun K => He.ma K (He.ga K "Rule") "__init__") 2 K)] (spF K F_Rule___init__) :=
  dn_dfl (ps := ["self", "length", "rests", "cap", "kinds"]) 2 0 E.f_Rule___init__ (by simp) rfl (fun fd F => fn_Rule___init__ E F) (fun _ _ _ _ _ _ _ us its h1 h2 => match us, its, h1, h2 with | [_, _], [_, _, _], _, _ => ⟨_, rfl, rfl⟩)
def dt_Rule___init___0 : List T := [.tup [], .non, .tup []]
theorem dr_Rule___init___0 (E : Env K mg w) (A : ASet) (H : Hp) : Reps K A H [.ref (emptyDfl (fun K => He.ma K (He.ga K "Rule") "__init__") 0 K), .non, .ref (emptyDfl (fun K => He.ma K (He.ga K "Rule") "__init__") 2 K)] dt_Rule___init___0 := (.cons (.tup (tupAtB_ok E.e_Rule___init___0 H) .nil) (.cons .non (.cons (.tup (tupAtB_ok E.e_Rule___init___2 H) .nil) .nil)))
theorem ok_Rule___init___1 (E : Env K mg w) : Dn P w K mg base CX0 3 (He.ma K (He.ga K "Rule") "__init__") [.non, .ref (emptyDfl (fun K => He.ma K (He.ga K "Rule") "__init__") 2 K)] (spF K F_Rule___init__) :=
  dn_dfl (ps := ["self", "length", "rests", "cap", "kinds"]) 3 1 E.f_Rule___init__ (by simp) rfl (fun fd F => fn_Rule___init__ E F) (fun _ _ _ _ _ _ _ us its h1 h2 => match us, its, h1, h2 with | [_, _, _], [_, _, _], _, _ => ⟨_, rfl, rfl⟩)
def dt_Rule___init___1 : List T := [.non, .tup []]
theorem dr_Rule___init___1 (E : Env K mg w) (A : ASet) (H : Hp) : Reps K A H [.non, .ref (emptyDfl (fun K => He.ma K (He.ga K "Rule") "__init__") 2 K)] dt_Rule___init___1 := (.cons .non (.cons (.tup (tupAtB_ok E.e_Rule___init___2 H) .nil) .nil))
theorem ok_Rule___init___2 (E : Env K mg w) : Dn P w K mg base CX0 3 (He.ma K (He.ga K "Rule") "__init__") [.ref (emptyDfl (fun K => He.ma K (He.ga K "Rule") "__init__") 2 K)] (spF K F_Rule___init__) :=
  dn_dfl (ps := ["self", "length", "rests", "cap", "kinds"]) 4 2 E.f_Rule___init__ (by simp) rfl (fun fd F => fn_Rule___init__ E F) (fun _ _ _ _ _ _ _ us its h1 h2 => match us, its, h1, h2 with | [_, _, _, _], [_, _, _], _, _ => ⟨_, rfl, rfl⟩)
def dt_Rule___init___2 : List T := [.tup []]
theorem dr_Rule___init___2 (E : Env K mg w) (A : ASet) (H : Hp) : Reps K A H [.ref (emptyDfl (fun K => He.ma K (He.ga K "Rule") "__init__") 2 K)] dt_Rule___init___2 := (.cons (.tup (tupAtB_ok E.e_Rule___init___2 H) .nil) .nil)
theorem ok_Rule___init__ (E : Env K mg w) : Dn P w K mg base CX0 3 (He.ma K (He.ga K "Rule") "__init__") [] (spF K F_Rule___init__) :=
  dn_dfl (ps := ["self", "length", "rests", "cap", "kinds"]) 5 3 E.f_Rule___init__ (by simp) rfl (fun fd F => fn_Rule___init__ E F) (fun _ _ _ _ _ _ _ us its h1 h2 => match us, its, h1, h2 with | [_, _, _, _, _], [_, _, _], _, _ => ⟨_, rfl, rfl⟩)
end
noncomputable def b_Rule___str__ : Sv := (sSeq (sAsg (mIf (mTst (mOp oGt (mB bLen (mCons (mFldS 0 ["Rule"] "rests") mNil)) (mC (.int 0)))) (mTxt oJoin (mC (.str " ")) (mLc [3] (mSeqOf (mFldS 0 ["Rule"] "rests")) (setIm 3) mYes (mB bStr (mCons (mVar 3) mNil)))) (mC (.str "none"))) (setIm 1))
    (sSeq (sAsg (mIf (mTst (mOp oIsN (mFldS 0 ["Rule"] "cap") (mC .non))) (mC (.str "none")) (mB bStr (mCons (mFldS 0 ["Rule"] "cap") mNil))) (setIm 2))
    (sRet (mTxt oJoin (mC (.str "\n")) (mB fLst (mCons (mJs [(mC (.str "term ")), (mUn uFmt (mFldS 0 ["Rule"] "length")), (mC (.str " rests ")), (mUn uFmt (mVar 1)), (mC (.str " cap ")), (mUn uFmt (mVar 2))] Str.empty) (mStar (mLc [4] (mSeqOf (mFldS 0 ["Rule"] "kinds")) (setIm 4) mYes (mB (bStrO tbKS) (mCons (mVar 4) mNil))) mNil)))))))
noncomputable def F_Rule___str__ : Ro → Re := runF 1 5 b_Rule___str__
section
variable {P : Program} {w : World} {K : PySem.W.Frag} {mg : Str → Option Value} {base : Heap}
theorem sc_Rule___str__ : FnScope ["self", "rests", "cap", "one", "kind"] ["self"] (defScope s_Rule___str__) := ⟨rfl, rfl, rfl, by decide +kernel, rfl, by decide +kernel, by decide +kernel⟩
theorem fn_Rule___str__ (E : Env K mg w) {fd : FuncData} {dvs : List V} (F : FunD K "__str__" "Rule.__str__" (defArgs s_Rule___str__) (defBody s_Rule___str__) (defScope s_Rule___str__) dvs [] (He.ma K (He.ga K "Rule") "__str__") fd) : FnOk P w K mg base CX0 5 (He.ma K (He.ga K "Rule") "__str__") fd ["self"] (spF K F_Rule___str__) := by
  refine F.ok sc_Rule___str__ (fun vs H Q E h => spF_len h) (fun cdv A outer s H vs Q X hr h => ?_)
  have hu := hr.units
  exact body_ok (k := 1) (W := fun cls d _ H' => X cls d H') (g := b_Rule___str__) (PSs.nox (s_cons (s_set 1 sc_Rule___str__.nd (m_ifE (m_tcmp op_gt oIB_ok (m_callB (k_len K) bLen_ok E.g_len bt_len (m_cons (m_fldS 0 (fc_rests E)) m_nil)) m_int (nomark _)) (m_join m_str (m_lc (own := [("one", 3)]) (by rfl) sc_Rule___str__.nd (setIm_n 3) (i_seq (m_fldS 0 (fc_rests E))) (blkOk_by (own := [("one", 3)]) (N := ["self", "rests", "cap", "one", "kind"]) (sc := defScope s_Rule___str__) (by decide +kernel)) (fun _ _ _ _ _ => (g_name 3 sc_Rule___str__.nd)) (fun _ _ _ _ _ => ts_nil) (fun _ _ _ _ _ => (m_callTy q_str bStr_ok E.g_str bt_str (m_cons (m_var 3) m_nil))))) m_str))
      (s_cons (s_set 2 sc_Rule___str__.nd (m_ifE (m_tcmp op_isN oIsN_ok (m_fldS 0 (fc_cap E)) m_non (nomark _)) m_str (m_callTy q_str bStr_ok E.g_str bt_str (m_cons (m_fldS 0 (fc_cap E)) m_nil))))
      (s_one (s_ret (m_join m_str (m_lst (m_cons (m_joined (MJ.cons m_str (MJ.cons (m_fmt (m_fldS 0 (fc_length E))) (MJ.cons m_str (MJ.cons (m_fmt (m_var 1)) (MJ.cons m_str (MJ.cons (m_fmt (m_var 2)) MJ.nil))))))) (m_star (m_lc (own := [("kind", 4)]) (by rfl) sc_Rule___str__.nd (setIm_n 4) (i_seq (m_fldS 0 (fc_kinds E))) (blkOk_by (own := [("kind", 4)]) (N := ["self", "rests", "cap", "one", "kind"]) (sc := defScope s_Rule___str__) (by decide +kernel)) (fun _ _ _ _ _ => (g_name 4 sc_Rule___str__.nd)) (fun _ _ _ _ _ => ts_nil) (fun _ _ _ _ _ => (m_callTy (q_strO (tbKS_ok E (hr.mono (by decide)))) bStrO_ok E.g_str bt_str (m_cons (m_var 4) m_nil)))) m_nil))))))))) (by decide) (fun _ _ _ _ z => z) h
theorem ok_Rule___str__ (E : Env K mg w) : Dn P w K mg base CX0 5 (He.ma K (He.ga K "Rule") "__str__") [] (spF K F_Rule___str__) :=
  dn_of (ps := ["self"]) E.f_Rule___str__ (fun fd F => fn_Rule___str__ E F) (fun _ _ _ _ _ _ us hl => match us, hl with | [_], _ => rfl)
end
end Tm

namespace Tm
open PySem PySem.Spec PyProof.Rows L2
local macro_rules | `(tactic| walk_at "mir") => `(tactic| simp only [ap_mVar, ap_mC, ap_mOp, ap_mUn, ap_mNil, ap_mCons, ap_mB, ap_mL, ap_mNotT, ap_mAndT, ap_mOrT, ap_mIf, ap_mYes, ap_mNoPart, ap_sNext, ap_sRet, ap_sExpr, ap_sAsg, ap_sIf, ap_sFor, ap_mCall, ap_mMake, ap_mCm, ap_mSl, ap_bind_ok, ap_lift, ap_seq, ap_mTst, ap_mAnd, ap_mOr, ap_mNot, ap_mChain, ap_mPart, ap_mSeqOf, ap_mSeqOfS, ap_mTxt, ap_mStar, ap_mMeth, ap_mEnum, ap_mLc, ap_mDc, ap_ite, ouE_ok, re_rt, re_nx, runF, outA, setIm, callV, mFldS, fK_name, fK_times, fK_days, fK_left, fK_by, fK_top, fR_length, fR_rests, fR_cap, fR_kinds, fR_names, ap_mJs, mJs_nil, sFldS, putN, Sl.any, Sl.tr, Sl.up, wipeO, resto, fTup, fLst, v_lt, v_le, v_gt, v_ge, v_sub, v_add, nix, if_true, if_false, ite_true, ite_false, reduceIte, Bool.false_eq_true, Bool.not_true, Bool.not_false, Bool.true_eq_false, Option.bind_some, Option.map_some, Option.bind_none, Option.map_none, List.map_cons, List.map_nil, List.cons_append, List.nil_append, List.append_nil, List.length_cons, List.length_nil, List.getElem?_cons_zero, List.getElem?_cons_succ, List.set_cons_zero, List.set_cons_succ, List.replicate_succ, List.replicate_zero, Nat.reduceAdd, Nat.reduceSub, Nat.reduceLeDiff, List.mapIdx_cons, List.mapIdx_nil, List.mem_cons, List.not_mem_nil, or_false, false_or, or_self, or_true, List.getD_cons_zero, List.getD_cons_succ, Nat.reduceEqDiff, Nat.zero_ne_one, Nat.one_ne_zero, reduceCtorEq, ap_sPar2, ap_sGive, ap_sOwnL, ap_setOw, ap_sApp, isL, ap_chL, ap_gTupM, ap_gTup0, ap_gTup, ap_mCallR, ap_callR, isO, ap_mOpS, ap_mLenS, ap_mPopS, ap_sParLN, notDeal, scaT, Option.isSome_some, seqT_lst, seqT_tup, true_and, and_true, Nat.reduceLT, Nat.lt_add_one, and_self])
local macro_rules | `(tactic| walk_at "js") => `(tactic| (rw [if_pos (by simp only [len_app]; omega)]; try walk_at "mir"))
local macro_rules | `(tactic| walk_at "mih") => `(tactic| simp only [ap_mVar, ap_mC, ap_mOp, ap_mUn, ap_mNil, ap_mCons, ap_mB, ap_mL, ap_mNotT, ap_mAndT, ap_mOrT, ap_mIf, ap_mYes, ap_mNoPart, ap_sNext, ap_sRet, ap_sExpr, ap_sAsg, ap_sIf, ap_sFor, ap_mCall, ap_mMake, ap_mCm, ap_mSl, ap_bind_ok, ap_lift, ap_seq, ap_mTst, ap_mAnd, ap_mOr, ap_mNot, ap_mChain, ap_mPart, ap_mSeqOf, ap_mSeqOfS, ap_mTxt, ap_mStar, ap_mMeth, ap_mEnum, ap_mLc, ap_mDc, ap_ite, ouE_ok, re_rt, re_nx, runF, outA, setIm, callV, mFldS, fK_name, fK_times, fK_days, fK_left, fK_by, fK_top, fR_length, fR_rests, fR_cap, fR_kinds, fR_names, ap_mJs, mJs_nil, sFldS, putN, Sl.any, Sl.tr, Sl.up, wipeO, resto, fTup, fLst, v_lt, v_le, v_gt, v_ge, v_sub, v_add, nix, if_true, if_false, ite_true, ite_false, reduceIte, Bool.false_eq_true, Bool.not_true, Bool.not_false, Bool.true_eq_false, Option.bind_some, Option.map_some, Option.bind_none, Option.map_none, List.map_cons, List.map_nil, List.cons_append, List.nil_append, List.append_nil, List.length_cons, List.length_nil, List.getElem?_cons_zero, List.getElem?_cons_succ, List.set_cons_zero, List.set_cons_succ, List.replicate_succ, List.replicate_zero, Nat.reduceAdd, Nat.reduceSub, Nat.reduceLeDiff, List.mapIdx_cons, List.mapIdx_nil, List.mem_cons, List.not_mem_nil, or_false, false_or, or_self, or_true, List.getD_cons_zero, List.getD_cons_succ, Nat.reduceEqDiff, Nat.zero_ne_one, Nat.one_ne_zero, reduceCtorEq, ap_sPar2, ap_sGive, ap_sOwnL, ap_setOw, ap_sApp, isL, ap_chL, ap_gTupM, ap_gTup0, ap_gTup, ap_mCallR, ap_callR, isO, ap_mOpS, ap_mLenS, ap_mPopS, ap_sParLN, notDeal, scaT, Option.isSome_some, seqT_lst, seqT_tup, true_and, and_true, Nat.reduceLT, Nat.lt_add_one, and_self, decide_true, decide_false, bLen_lst, bLen_tup, oSl_lst, oSl_tup, v_isN0, v_isNi, v_isNs, v_isNt, v_notN0, v_notNi, v_neg, v_int, v_tupL, v_tupT, v_eqs, v_nes, v_eqi, v_nei, *])
local macro_rules | `(tactic| walk_at "ro") => `(tactic| simp only [runF, List.length_cons, List.length_nil, Nat.reduceAdd, Nat.reduceSub, if_true, reduceIte, List.replicate_succ, List.replicate_zero, List.cons_append, List.nil_append, List.set_cons_zero, List.set_cons_succ])
section
theorem lcL_of {α : Type} {vs : List Nat} {g : T → Sv} {te : Ev T} {ρ : Ro} (f h : α → T) (xs : List α) (hl : xs.length ≤ 1000000)
    (k : ∀ x ∈ xs, ∃ ρ1, g (f x) ρ = .nx ρ1 ∧ ∃ ρ3, te ρ1 = .ok (h x) ρ3 ∧ wipeO vs ρ3 = some ρ) : lcL vs g mYes te (xs.map f) [] ρ = .ok (xs.map h) ρ := by
  have key : ∀ (l acc : List α), acc.length + l.length ≤ 1000000 → (∀ x ∈ l, ∃ ρ1, g (f x) ρ = .nx ρ1 ∧ ∃ ρ3, te ρ1 = .ok (h x) ρ3 ∧ wipeO vs ρ3 = some ρ) → lcL vs g mYes te (l.map f) (acc.map h) ρ = .ok ((acc ++ l).map h) ρ := by
    intro l
    induction l with
    | nil =>
      intro acc _ _
      rw [List.append_nil]
      rfl
    | cons x l ih =>
      intro acc hl hk
      have hl' : acc.length + l.length + 1 ≤ 1000000 := by simpa [Nat.add_assoc] using hl
      obtain ⟨ρ1, e1, ρ3, e3, e4⟩ := hk x (List.mem_cons_self ..)
      rw [List.map_cons]
      unfold lcL
      rw [e1]
      dsimp only
      rw [show mYes ρ1 = .ok true ρ1 from rfl]
      dsimp only
      rw [e3]
      dsimp only
      rw [e4]
      dsimp only
      rw [List.length_map, if_pos (by omega)]
      have := ih (acc ++ [x]) (by simp; omega) (fun m hm => hk m (List.mem_cons_of_mem _ hm))
      rw [List.append_assoc, List.map_append] at this
      exact this
  exact key xs [] (by simpa using hl) k
/-- a dict of texts that are unlike -/
theorem dcL_of {α : Type} {vs : List Nat} {g : T → Sv} {te tu : Ev T} {ρ : Ro} {y : T} (f : α → T) (h : α → Str) (xs : List α) (hl : xs.length ≤ 1000000) (hn : (xs.map h).Nodup)
    (k : ∀ x ∈ xs, ∃ ρ1, g (f x) ρ = .nx ρ1 ∧ ∃ ρ3, te ρ1 = .ok (.str (h x)) ρ3 ∧ ∃ ρ4, tu ρ3 = .ok y ρ4 ∧ wipeO vs ρ4 = some ρ) : dcL vs g mYes te tu (xs.map f) [] ρ = .ok (xs.map fun x => ((Sum.inr (h x) : Key), y)) ρ := by
  have key : ∀ (l acc : List α), acc.length + l.length ≤ 1000000 → ((acc ++ l).map h).Nodup → (∀ x ∈ l, ∃ ρ1, g (f x) ρ = .nx ρ1 ∧ ∃ ρ3, te ρ1 = .ok (.str (h x)) ρ3 ∧ ∃ ρ4, tu ρ3 = .ok y ρ4 ∧ wipeO vs ρ4 = some ρ) → dcL vs g mYes te tu (l.map f) (acc.map fun x => ((Sum.inr (h x) : Key), y)) ρ = .ok ((acc ++ l).map fun x => ((Sum.inr (h x) : Key), y)) ρ := by
    intro l
    induction l with
    | nil =>
      intro acc _ _ _
      rw [List.append_nil]
      rfl
    | cons x l ih =>
      intro acc hl hn hk
      have hl' : acc.length + l.length + 1 ≤ 1000000 := by simpa [Nat.add_assoc] using hl
      obtain ⟨ρ1, e1, ρ3, e3, ρ4, e4, e5⟩ := hk x (List.mem_cons_self ..)
      rw [List.map_cons]
      unfold dcL
      rw [e1]
      dsimp only
      rw [show mYes ρ1 = .ok true ρ1 from rfl]
      dsimp only
      rw [e3]
      dsimp only
      rw [e4]
      dsimp only
      rw [e5]
      dsimp only
      rw [show keyT (.str (h x)) = some ((Sum.inr (h x) : Key)) from rfl]
      dsimp only
      rw [List.length_map, if_pos (by omega)]
      have nw : putKT (acc.map fun x => ((Sum.inr (h x) : Key), y)) ((Sum.inr (h x) : Key)) y = (acc ++ [x]).map fun x => ((Sum.inr (h x) : Key), y) := by
        unfold putKT
        rw [if_neg]
        · simp
        · intro z
          have : h x ∈ acc.map h := by
            rw [List.any_map, List.any_eq_true] at z
            obtain ⟨w, hw, e⟩ := z
            have e := of_decide_eq_true e
            dsimp only [Function.comp] at e
            injection e with e
            exact e ▸ List.mem_map_of_mem hw
          rw [List.map_append, List.map_cons, List.nodup_append] at hn
          exact hn.2.2 _ this _ (List.mem_cons_self ..) rfl
      rw [nw]
      have := ih (acc ++ [x]) (by simp; omega) (by simpa using hn) (fun m hm => hk m (List.mem_cons_of_mem _ hm))
      rw [List.append_assoc] at this
      exact this
  exact key xs [] (by simpa using hl) (by simpa using hn) k
theorem F_read_kind {k : Kd} (ok : KdOk k) (c : T) : F_Kind_read [.im c, .im (.str (kindS k))] = .ok (kindT k) [.im c, .im (.str (kindS k))] := by
  have h1 := F_told ok
  have h2 := F_made ok
  have h3 : oIsN (toldA k) .non = some (.bl false) := rfl
  unfold F_Kind_read b_Kind_read
  walk_at "mih"
theorem F_seq (b : Bool) (l : List T) : F_is_sequence [.im (sqT b l)] = .ok (.bl true) [.im (sqT b l)] := by cases b <;> rfl
theorem len_sq (b : Bool) (l : List T) : bLen [sqT b l] = some (.int l.length) := by cases b <;> rfl
theorem F_rests (b : Bool) {ns : List Int} (hl : ns.length ≤ 6) (hb : ∀ i ∈ ns, 0 ≤ i ∧ i < 7) (hn : ns.Nodup) : F_are_rests [.im (sqT b (ns.map T.int))] = .ok (.bl true) [.im (sqT b (ns.map T.int))] := by
  have h1 := F_seq b (ns.map T.int)
  have h2 := len_sq b (ns.map T.int)
  have h3 := seq_sq b (ns.map T.int)
  have h4 := lcL_of (vs := [1]) (g := setIm 1) (te := mAnd (mCall F_is_integer [] (mCons (mVar 1) mNil)) (mChain oLe oLt (mC (.int 0)) (mVar 1) (mC (.int 7)))) (ρ := [Sl.im (sqT b (ns.map T.int)), .un]) T.int (fun _ => T.bl true) ns (by omega) fun i hi => by
    obtain ⟨i0, i1⟩ := hb i hi
    have hh := F_is_integer_int i
    refine ⟨_, rfl, [Sl.im (sqT b (ns.map T.int)), .im (.int i)], ?_, rfl⟩
    walk_at "mih"
  have h5 : bAll [.lst (ns.map fun _ => T.bl true)] = some (.bl true) := by
    have := bAll_map (ns.map fun _ => true)
    rw [List.map_map] at this
    refine Eq.trans this ?_
    simp
  have h6 : uNd (sqT b (ns.map T.int)) = some (.bl true) := by
    have : (seqT (sqT b (ns.map T.int))).bind toI = some ns := by
      cases b <;> exact toI_map ns
    unfold uNd
    rw [this]
    dsimp only
    rw [if_pos (by omega), decide_eq_true hn]
  have h7 : ¬ (6 : Int) < (ns.map T.int).length := by simp; omega
  unfold F_are_rests b_are_rests
  walk_at "mih"
theorem F_kinds (b : Bool) {ks : List Kd} (hl : ks.length ≤ 1000) (hn : (ks.map (·.name)).Nodup) : F_are_kinds [.im (sqT b (ks.map kindT))] = .ok (.bl true) [.im (sqT b (ks.map kindT))] := by
  have h1 := F_seq b (ks.map kindT)
  have h2 := len_sq b (ks.map kindT)
  have h3 := seq_sq b (ks.map kindT)
  have h4 := lcL_of (vs := [1]) (g := setIm 1) (te := mUn (fIsC tb_Kind) (mVar 1)) (ρ := [Sl.im (sqT b (ks.map kindT)), .un]) kindT (fun _ => T.bl true) ks (by omega) fun i hi => by
    have hh := isKind i
    refine ⟨_, rfl, [Sl.im (sqT b (ks.map kindT)), .im (kindT i)], ?_, rfl⟩
    walk_at "mih"
  have h5 : bAll [.lst (ks.map fun _ => T.bl true)] = some (.bl true) := by
    have := bAll_map (ks.map fun _ => true)
    rw [List.map_map] at this
    refine Eq.trans this ?_
    simp
  have h6 := dcL_of (vs := [1]) (g := setIm 1) (te := mFldS 1 ["Still", "Anew", "Lift"] "name") (tu := mC (.bl true)) (ρ := [Sl.im (sqT b (ks.map kindT)), .un]) (y := .bl true) kindT (·.name) ks (by omega) hn fun i hi => by
    refine ⟨_, rfl, [Sl.im (sqT b (ks.map kindT)), .im (kindT i)], ?_, _, rfl, rfl⟩
    walk_at "mih"
  have h7 : ∀ (k : List Key) (l : List T), bLenD [.dK k l] = some (.int k.length) := fun _ _ => rfl
  unfold F_are_kinds b_are_kinds
  walk_at "mih"
  simp
theorem ne_Rule : (("length" : Str) = "rests") = False ∧ (("length" : Str) = "cap") = False ∧ (("length" : Str) = "kinds") = False ∧ (("length" : Str) = "names") = False ∧ (("rests" : Str) = "cap") = False ∧ (("rests" : Str) = "kinds") = False ∧ (("rests" : Str) = "names") = False ∧ (("cap" : Str) = "kinds") = False ∧ (("cap" : Str) = "names") = False ∧ (("kinds" : Str) = "names") = False := by
  refine ⟨?_, ?_, ?_, ?_, ?_, ?_, ?_, ?_, ?_, ?_⟩ <;> exact eq_false (by decide +kernel)
/-- a rule that is made -/
theorem mk_rule (ρ : Ro) (b c : Bool) {n : Int} {ns : List Int} {cap : Option Int} {ks : List Kd} (h0 : 1 ≤ n) (hl : ns.length ≤ 6) (hb : ∀ i ∈ ns, 0 ≤ i ∧ i < 7) (hn : ns.Nodup) (hc : ∀ c, cap = some c → 1 ≤ c) (kl : ks.length ≤ 1000) (kn : (ks.map (·.name)).Nodup) : mkV "Rule" F_Rule___init__ [.int n, sqT b (ns.map T.int), tvT cap, sqT c (ks.map kindT)] ρ = .ok (ruleT ⟨n, srtI ns, cap, ks⟩) ρ := by
  have h1 := F_is_length_int n
  have h2 := F_rests b hl hb hn
  have h3 := F_kinds c kl kn
  have h4 := seq_sq b (ns.map T.int)
  have h5 := seq_sq c (ks.map kindT)
  have h6 : bTuple [sqT c (ks.map kindT)] = some (.tup (ks.map kindT)) := by cases c <;> rfl
  have h7 := bSrtI_map ns
  have nn := ne_Rule
  have h10 : ∀ a b c d e f, lcL [6] (setIm 6) mYes (mB bInt (mCons (mVar 6) mNil)) (ns.map T.int) [] [a, b, c, d, e, f, Sl.un] = .ok (ns.map T.int) [a, b, c, d, e, f, Sl.un] := fun a b c d e f => lcL_of T.int T.int ns (by omega) fun i _ => ⟨[a, b, c, d, e, f, .im (.int i)], rfl, _, rfl, rfl⟩
  have h11 : ∀ a b c d e f, lcL [5] (setIm 5) mYes (mFldS 5 ["Still", "Anew", "Lift"] "name") (ks.map kindT) [] [a, b, c, d, e, Sl.un, f] = .ok (ks.map fun k => T.str k.name) [a, b, c, d, e, Sl.un, f] := fun a b c d e f => lcL_of kindT (fun k => T.str k.name) ks (by omega) fun i _ => ⟨[a, b, c, d, e, .im (kindT i), f], rfl, [a, b, c, d, e, .im (kindT i), f], by walk_at "mir", rfl⟩
  cases cap with
  | none =>
    have h8 : tvT none = .non := rfl
    unfold mkV F_Rule___init__ b_Rule___init__
    walk_at "mih"
    rfl
  | some d =>
    have h8 : tvT (some d) = .int d := rfl
    have h9 := F_is_length_int d
    have d0 := hc d rfl
    unfold mkV F_Rule___init__ b_Rule___init__
    walk_at "mih"
    rfl
theorem asg_im {f : Ev T} {i : Nat} {h : Sv} {ρ ρ' : Ro} {t : T} (e : f ρ = .ok t ρ) (e2 : setIm i t ρ = .nx ρ') : sSeq (sAsg f (setIm i)) h ρ = h ρ' := by
  rw [ap_seq, ap_sAsg, e, ouE_ok, e2]
theorem restS_len {ns : List Int} (rl : ns.length ≤ 6) (rb : ∀ i ∈ ns, 0 ≤ i ∧ i < 7) : (restS ns).length ≤ 200 ∧ ((ns.map numS).map (·.length)).sum + (ns.map numS).length * (" " : Str).length ≤ 16777216 := by
  have z := sum_le (m := 19) (ws := ns.map numS) fun p hp' => by
    obtain ⟨i, hi, rfl⟩ := List.mem_map.mp hp'
    exact numS_len (rb i hi).1 (by have := rb i hi; omega)
  have l1 : (" " : Str).length = 1 := by decide +kernel
  rw [l1]
  rw [List.length_map] at z ⊢
  refine ⟨?_, by omega⟩
  unfold restS
  split
  · decide +kernel
  · refine Nat.le_trans (join_len _ _) ?_
    rw [l1, List.length_map]
    omega
theorem Head_text (n : Int) (ns : List Int) (cap : Option Int) : Str.empty ++ ("term " : Str) ++ numS n ++ (" rests " : Str) ++ restS ns ++ (" cap " : Str) ++ capS cap = headS n ns cap := by
  refine joins_eq ?_
  rw [tl_headS]
  simp only [TL.tl_append, List.append_assoc]
  rfl
theorem F_Rule_str {R : Rl} (ok : RlOk R) : F_Rule___str__ [.im (ruleT R)] = .ok (.str (ruleS R)) [.im (ruleT R)] := by
  obtain ⟨r1, r2⟩ := restS_len ok.rl ok.rb
  have n3 := capS_len ok.c0
  have h0 := ok.l0
  have h1 := ok.l1
  have n1 := numS_len (n := R.length) (by omega) h1
  have l1 : ("term " : Str).length = 5 := by decide +kernel
  have l2 : (" rests " : Str).length = 7 := by decide +kernel
  have l3 : (" cap " : Str).length = 5 := by decide +kernel
  have l0 : Str.empty.length = 0 := rfl
  unfold F_Rule___str__ b_Rule___str__
  walk_at "ro"
  refine Eq.trans (congrArg (reA _) (asg_im (t := .str (restS R.rests)) ?_ rfl)) ?_
  · by_cases he : R.rests = []
    · have e1 : (R.rests.map T.int).length = 0 := by rw [he]; rfl
      have e2 : restS R.rests = "none" := by
        unfold restS
        rw [if_pos he]
      have e3 : ¬ (0 : Int) < ((0 : Nat) : Int) := by decide
      rw [e2]
      clear he e2
      walk_at "mih"
    · have e1 : (0 : Int) < ((R.rests.map T.int).length : Int) := by
        have := List.length_pos_iff.mpr he
        rw [List.length_map]
        omega
      have e2 : restS R.rests = Txt.join " " (R.rests.map numS) := by
        unfold restS
        rw [if_neg he]
      have e3 : lcL [3] (setIm 3) mYes (mB bStr (mCons (mVar 3) mNil)) (R.rests.map T.int) [] [Sl.im (ruleT R), Sl.un, Sl.un, Sl.un, Sl.un] = .ok (R.rests.map fun n => T.str (numS n)) [Sl.im (ruleT R), Sl.un, Sl.un, Sl.un, Sl.un] := lcL_of T.int (fun n => T.str (numS n)) R.rests (by have := ok.rl; omega) fun i hi => by
        have hs := bStr_num (ok.rb i hi).1 (by have := ok.rb i hi; omega)
        exact ⟨_, rfl, [Sl.im (ruleT R), Sl.un, Sl.un, .im (.int i), Sl.un], by walk_at "mih", rfl⟩
      have e4 := oJoin_map r2
      rw [List.map_map] at e4
      have e4 : oJoin (.str " ") (.lst (R.rests.map fun n => T.str (numS n))) = _ := e4
      walk_at "mih"
  refine Eq.trans (congrArg (reA _) (asg_im (t := .str (capS R.cap)) ?_ rfl)) ?_
  · have h3 := ok.c0
    cases hc : R.cap with
    | none =>
      have e1 : tvT none = .non := rfl
      have e2 : capS none = "none" := rfl
      walk_at "mih"
    | some c =>
      have e1 : tvT (some c) = .int c := rfl
      have e2 : bStr [.int c] = some (.str (capS (some c))) := bStr_num (by have := h3 c hc; omega) (h3 c hc).2
      walk_at "mih"
  have e1 : mJs [(mC (.str "term ")), (mUn uFmt (mFldS 0 ["Rule"] "length")), (mC (.str " rests ")), (mUn uFmt (mVar 1)), (mC (.str " cap ")), (mUn uFmt (mVar 2))] Str.empty [Sl.im (ruleT R), .im (.str (restS R.rests)), .im (.str (capS R.cap)), Sl.un, Sl.un] = .ok (.str (headS R.length R.rests R.cap)) [Sl.im (ruleT R), .im (.str (restS R.rests)), .im (.str (capS R.cap)), Sl.un, Sl.un] := by
    walk_at "mir"
    walk_at "js"
    rw [uFmt_num (by omega) h1]
    walk_at "mir"
    walk_at "js"
    walk_at "js"
    rw [uFmt_str (by omega)]
    walk_at "mir"
    walk_at "js"
    walk_at "js"
    rw [uFmt_str (by omega)]
    walk_at "mir"
    walk_at "js"
    rw [Head_text]
  have e2 : lcL [4] (setIm 4) mYes (mB (bStrO tbKS) (mCons (mVar 4) mNil)) (R.kinds.map kindT) [] [Sl.im (ruleT R), .im (.str (restS R.rests)), .im (.str (capS R.cap)), Sl.un, Sl.un] = .ok (R.kinds.map fun k => T.str (kindS k)) [Sl.im (ruleT R), .im (.str (restS R.rests)), .im (.str (capS R.cap)), Sl.un, Sl.un] := lcL_of kindT (fun n => T.str (kindS n)) R.kinds (by have := ok.kl; omega) fun i hi => by
    have hs := str_kind (ok.kk i hi)
    exact ⟨_, rfl, [Sl.im (ruleT R), .im (.str (restS R.rests)), .im (.str (capS R.cap)), Sl.un, .im (kindT i)], by walk_at "mih", rfl⟩
  have e3 := oJoin_map (a := "\n") (ys := headS R.length R.rests R.cap :: R.kinds.map kindS) (Nat.le_trans (lines_sum ok.hd ok.kk ok.kl) (by decide))
  rw [List.map_cons, List.map_map] at e3
  have e3 : oJoin (.str "\n") (.lst (T.str (headS R.length R.rests R.cap) :: R.kinds.map fun k => T.str (kindS k))) = some (.str (ruleS R)) := e3
  have e4 : (R.kinds.map fun k => T.str (kindS k)).length + 1 ≤ 1000000 := by
    have := ok.kl
    rw [List.length_map]
    omega
  have e5 : (R.kinds.map fun k => T.str (kindS k)).length ≤ 999999 := by omega
  simp only [List.set_cons_zero, List.set_cons_succ]
  rw [ap_sRet, ap_mTxt, ap_bind_ok, ap_mC]
  dsimp only
  rw [ap_bind_ok, ap_mB, ap_bind_ok, ap_mCons, ap_bind_ok, e1]
  walk_at "mih"
end

end Tm

namespace Tm
open PySem PySem.Spec PyProof.Rows L2
local macro_rules | `(tactic| walk_at "mir") => `(tactic| simp only [ap_mVar, ap_mC, ap_mOp, ap_mUn, ap_mNil, ap_mCons, ap_mB, ap_mL, ap_mNotT, ap_mAndT, ap_mOrT, ap_mIf, ap_mYes, ap_mNoPart, ap_sNext, ap_sRet, ap_sExpr, ap_sAsg, ap_sIf, ap_sFor, ap_mCall, ap_mMake, ap_mCm, ap_mSl, ap_bind_ok, ap_lift, ap_seq, ap_mTst, ap_mAnd, ap_mOr, ap_mNot, ap_mChain, ap_mPart, ap_mSeqOf, ap_mSeqOfS, ap_mTxt, ap_mStar, ap_mMeth, ap_mEnum, ap_mLc, ap_mDc, ap_ite, ouE_ok, re_rt, re_nx, runF, outA, setIm, callV, mFldS, fK_name, fK_times, fK_days, fK_left, fK_by, fK_top, fR_length, fR_rests, fR_cap, fR_kinds, fR_names, ap_mJs, mJs_nil, sFldS, putN, Sl.any, Sl.tr, Sl.up, wipeO, resto, fTup, fLst, v_lt, v_le, v_gt, v_ge, v_sub, v_add, nix, if_true, if_false, ite_true, ite_false, reduceIte, Bool.false_eq_true, Bool.not_true, Bool.not_false, Bool.true_eq_false, Option.bind_some, Option.map_some, Option.bind_none, Option.map_none, List.map_cons, List.map_nil, List.cons_append, List.nil_append, List.append_nil, List.length_cons, List.length_nil, List.getElem?_cons_zero, List.getElem?_cons_succ, List.set_cons_zero, List.set_cons_succ, List.replicate_succ, List.replicate_zero, Nat.reduceAdd, Nat.reduceSub, Nat.reduceLeDiff, List.mapIdx_cons, List.mapIdx_nil, List.mem_cons, List.not_mem_nil, or_false, false_or, or_self, or_true, List.getD_cons_zero, List.getD_cons_succ, Nat.reduceEqDiff, Nat.zero_ne_one, Nat.one_ne_zero, reduceCtorEq, ap_sPar2, ap_sGive, ap_sOwnL, ap_setOw, ap_sApp, isL, ap_chL, ap_gTupM, ap_gTup0, ap_gTup, ap_mCallR, ap_callR, isO, ap_mOpS, ap_mLenS, ap_mPopS, ap_sParLN, notDeal, scaT, Option.isSome_some, seqT_lst, seqT_tup, true_and, and_true, Nat.reduceLT, Nat.lt_add_one, and_self])
local macro_rules | `(tactic| walk_at "js") => `(tactic| (rw [if_pos (by simp only [len_app]; omega)]; try walk_at "mir"))
local macro_rules | `(tactic| walk_at "mih") => `(tactic| simp only [ap_mVar, ap_mC, ap_mOp, ap_mUn, ap_mNil, ap_mCons, ap_mB, ap_mL, ap_mNotT, ap_mAndT, ap_mOrT, ap_mIf, ap_mYes, ap_mNoPart, ap_sNext, ap_sRet, ap_sExpr, ap_sAsg, ap_sIf, ap_sFor, ap_mCall, ap_mMake, ap_mCm, ap_mSl, ap_bind_ok, ap_lift, ap_seq, ap_mTst, ap_mAnd, ap_mOr, ap_mNot, ap_mChain, ap_mPart, ap_mSeqOf, ap_mSeqOfS, ap_mTxt, ap_mStar, ap_mMeth, ap_mEnum, ap_mLc, ap_mDc, ap_ite, ouE_ok, re_rt, re_nx, runF, outA, setIm, callV, mFldS, fK_name, fK_times, fK_days, fK_left, fK_by, fK_top, fR_length, fR_rests, fR_cap, fR_kinds, fR_names, ap_mJs, mJs_nil, sFldS, putN, Sl.any, Sl.tr, Sl.up, wipeO, resto, fTup, fLst, v_lt, v_le, v_gt, v_ge, v_sub, v_add, nix, if_true, if_false, ite_true, ite_false, reduceIte, Bool.false_eq_true, Bool.not_true, Bool.not_false, Bool.true_eq_false, Option.bind_some, Option.map_some, Option.bind_none, Option.map_none, List.map_cons, List.map_nil, List.cons_append, List.nil_append, List.append_nil, List.length_cons, List.length_nil, List.getElem?_cons_zero, List.getElem?_cons_succ, List.set_cons_zero, List.set_cons_succ, List.replicate_succ, List.replicate_zero, Nat.reduceAdd, Nat.reduceSub, Nat.reduceLeDiff, List.mapIdx_cons, List.mapIdx_nil, List.mem_cons, List.not_mem_nil, or_false, false_or, or_self, or_true, List.getD_cons_zero, List.getD_cons_succ, Nat.reduceEqDiff, Nat.zero_ne_one, Nat.one_ne_zero, reduceCtorEq, ap_sPar2, ap_sGive, ap_sOwnL, ap_setOw, ap_sApp, isL, ap_chL, ap_gTupM, ap_gTup0, ap_gTup, ap_mCallR, ap_callR, isO, ap_mOpS, ap_mLenS, ap_mPopS, ap_sParLN, notDeal, scaT, Option.isSome_some, seqT_lst, seqT_tup, true_and, and_true, Nat.reduceLT, Nat.lt_add_one, and_self, decide_true, decide_false, bLen_lst, bLen_tup, oSl_lst, oSl_tup, v_isN0, v_isNi, v_isNs, v_isNt, v_notN0, v_notNi, v_neg, v_int, v_tupL, v_tupT, v_eqs, v_nes, v_eqi, v_nei, *])
local macro_rules | `(tactic| walk_at "ro") => `(tactic| simp only [runF, List.length_cons, List.length_nil, Nat.reduceAdd, Nat.reduceSub, if_true, reduceIte, List.replicate_succ, List.replicate_zero, List.cons_append, List.nil_append, List.set_cons_zero, List.set_cons_succ])
section
theorem atI_last2 {α : Type} (xs : List α) (v u : α) : atI (xs ++ [v, u]) (-2) = some v := by
  unfold atI ixN
  rw [if_neg (by decide), if_pos (by simp; omega)]
  have e : (-2 + ((xs ++ [v, u]).length : Int)).toNat = xs.length := by
    simp only [List.length_append, List.length_cons, List.length_nil]
    omega
  rw [e]
  simp
theorem numS_one {i : Int} (h0 : 0 ≤ i) (h1 : i < 7) : ∃ c, numS i = ⟨#[c]⟩ ∧ digitB c = true ∧ PySem.intText? (numS i) = some i ∧ (numS i).length = 1 := by
  obtain ⟨n, rfl⟩ : ∃ n : Nat, i = (n : Int) := ⟨i.toNat, by omega⟩
  have hn : n < 10 := by omega
  have e : TL.tl (numS (n : Int)) = [48 + n] := by
    rw [tl_numS h0, Int.toNat_natCast, TL.numL_lt hn]
  refine ⟨48 + n, TL.ext_tl e, ?_, ?_, ?_⟩
  · simp [digitB]
    omega
  · exact TL.int_num (by rw [TL.numL_lt hn]; simp)
  · rw [TL.len_tl, e]
    rfl
theorem none_num {i : Int} (h : 0 ≤ i) : numS i ≠ ("none" : Str) := fun z => by
  have e := congrArg TL.tl z
  have q : (110 : Nat) ∈ TL.tl (numS i) := by
    rw [e]
    decide +kernel
  exact numS_free h (.inr (by decide)) q

theorem atI_nat {α : Type} (xs : List α) (k : Nat) (h : k < xs.length) : atI xs (k : Int) = xs[k]? := by
  unfold atI ixN
  rw [if_pos (by omega), if_pos (by omega)]
  rfl
theorem cutT_rests (a b c : T) (ms : List T) (t u : T) : cutT (a :: b :: c :: (ms ++ [t, u])) (some 3) (some (-2)) = ms := by
  unfold cutT
  have e1 : HT.sIx (a :: b :: c :: (ms ++ [t, u])).length 0 (some 3) = 3 := by
    have := HT.sIx_nat (a :: b :: c :: (ms ++ [t, u])).length 0 3
    rw [show (some ((3 : Nat) : Int)) = some (3 : Int) from rfl] at this
    rw [this]
    simp only [List.length_cons, List.length_append, List.length_nil]
    omega
  have e2 : HT.sIx (a :: b :: c :: (ms ++ [t, u])).length (a :: b :: c :: (ms ++ [t, u])).length (some (-2)) = ms.length + 3 := by
    have z : ∀ n d : Nat, HT.sIx n d (some (-2)) = ((-2 : Int) + (n : Int)).toNat := fun n d => by
      show (if (-2 : Int) < 0 then ((-2 : Int) + (n : Int)).toNat else min (-2 : Int).toNat n) = _
      rw [if_pos (by decide)]
    rw [z]
    simp only [List.length_cons, List.length_append, List.length_nil]
    omega
  rw [e1, e2]
  show (ms ++ [t, u]).take (ms.length + 3 - 3) = ms
  rw [Nat.add_sub_cancel, List.take_append_of_le_length (Nat.le_refl _), List.take_length]
theorem atI_last {α : Type} (xs : List α) (v u : α) : atI (xs ++ [v, u]) (-1) = some u := by
  unfold atI ixN
  rw [if_neg (by decide), if_pos (by simp; omega)]
  have e : (-1 + ((xs ++ [v, u]).length : Int)).toNat = xs.length + 1 := by
    simp only [List.length_append, List.length_cons, List.length_nil]
    omega
  rw [e]
  simp
theorem toDs_str (ys : List Str) : toDs (ys.map T.str) = some (ys.map PyData.str) := by
  induction ys with
  | nil => rfl
  | cons y ys ih => simp [toDs, toD, ih]
theorem toDs_int (ys : List Int) : toDs (ys.map T.int) = some (ys.map PyData.int) := by
  induction ys with
  | nil => rfl
  | cons y ys ih => simp [toDs, toD, ih]
theorem eq_strs {ys zs : List Str} (hy : SeqAt.shaped (.list (ys.map PyData.str)) = true) (hz : SeqAt.shaped (.list (zs.map PyData.str)) = true) : oEq (.lst (ys.map T.str)) (.lst (zs.map T.str)) = some (.bl (decide (ys = zs))) := by
  have e : ∀ ys : List Str, toD (.lst (ys.map T.str)) = some (.list (ys.map PyData.str)) := fun ys => by simp [toD, toDs_str]
  have e2 : eqD (.lst (ys.map T.str)) (.lst (zs.map T.str)) = some (decide (ys = zs)) := by
    unfold eqD
    rw [e, e]
    dsimp only
    rw [if_pos ⟨hy, hz⟩]
    show some (PyData.eqvAll _ _) = _
    rw [eqv_strs]
  unfold oEq oEqD
  rw [e2]
  rfl
theorem F_head {n : Int} {ns : List Int} {cap : Option Int} (ok : HdOk n ns cap) : F_head_in [.im (.str (headS n ns cap))] = .ok (.tup [.int n, .lst (ns.map T.int), tvT cap]) [.im (.str (headS n ns cap))] := by
  have n0 := ok.l0
  have n1 := ok.l1
  have nk := num_ok (n := n) (by omega) n1
  have hw : (headWs n ns cap).map T.str = T.str "term" :: T.str (numS n) :: T.str "rests" :: ((restWs ns).map T.str ++ [T.str "cap", T.str (capS cap)]) := by
    unfold headWs
    simp
  have sp : oSplit (.str (headS n ns cap)) (.str " ") = some (.lst (T.str "term" :: T.str (numS n) :: T.str "rests" :: ((restWs ns).map T.str ++ [T.str "cap", T.str (capS cap)]))) := by
    rw [oSplit_ok (by decide +kernel) (Nat.le_trans (headS_len ok) (by decide)), split_head ok, hw]
  have w0 : ∀ a b c : T, ∀ l, oIx (.lst (a :: b :: c :: l)) (.int 0) = some a := fun a b c l => atI_nat (a :: b :: c :: l) 0 (by simp)
  have w1 : ∀ a b c : T, ∀ l, oIx (.lst (a :: b :: c :: l)) (.int 1) = some b := fun a b c l => atI_nat (a :: b :: c :: l) 1 (by simp)
  have w2 : ∀ a b c : T, ∀ l, oIx (.lst (a :: b :: c :: l)) (.int 2) = some c := fun a b c l => atI_nat (a :: b :: c :: l) 2 (by simp)
  have w8 : ∀ a b c t u : T, ∀ l, oIx (.lst (a :: b :: c :: (l ++ [t, u]))) (.int (-2)) = some t := fun a b c t u l => by
    have := atI_last2 (a :: b :: c :: l) t u
    exact this
  have w9 : ∀ a b c t u : T, ∀ l, oIx (.lst (a :: b :: c :: (l ++ [t, u]))) (.int (-1)) = some u := fun a b c t u l => by
    have := atI_last (a :: b :: c :: l) t u
    exact this
  have w3 := cutT_rests (T.str "term") (T.str (numS n)) (T.str "rests") ((restWs ns).map T.str) (T.str "cap") (T.str (capS cap))
  have hl : ¬ ((((restWs ns).map T.str ++ [T.str "cap", T.str (capS cap)]).length + 1 + 1 + 1 : Nat) : Int) < 6 := by
    have := (restWs_len ok.rl).1
    simp
    omega
  have sh : ∀ ws : List Str, (∀ y ∈ ws, PyData.strOk y = true) → SeqAt.shaped (.list (ws.map PyData.str)) = true := fun ws h => by
    have := shaped_flat (lay_strs ws h)
    rwa [datV_strs] at this
  have s1 : ∀ y ∈ restWs ns, PyData.strOk y = true := fun y hy => by
    rcases restWs_mem hy with rfl | ⟨i, hi, rfl⟩
    · decide +kernel
    · obtain ⟨c, e, hd, _⟩ := numS_one (ok.rb i hi).1 (ok.rb i hi).2
      rw [e]
      simp only [digitB, Bool.and_eq_true, decide_eq_true_eq] at hd
      simp [PyData.strOk]
      omega
  have q1 : oEq (.lst ((restWs ns).map T.str)) (.lst [.str "none"]) = some (.bl (decide (ns = []))) := by
    refine Eq.trans (eq_strs (zs := ["none"]) (sh _ s1) (sh _ (by decide +kernel))) ?_
    by_cases h0 : ns = []
    · rw [decide_eq_true h0, decide_eq_true]
      unfold restWs
      rw [if_pos h0]
    · rw [decide_eq_false h0, decide_eq_false]
      unfold restWs
      rw [if_neg h0]
      intro z
      cases ns with
      | nil => exact h0 rfl
      | cons i ns =>
        rw [List.map_cons] at z
        injection z with z _
        exact none_num (ok.rb i (List.mem_cons_self ..)).1 z
  have lc : ns ≠ [] → ∀ a b c d, lcL [5] (setIm 5) mYes (mAnd (mOp oEq (mB bLen (mCons (mVar 5) mNil)) (mC (.int 1))) (mOp oIn (mVar 5) (mC (.str "0123456789")))) ((restWs ns).map T.str) [] [a, b, c, d, .im (.lst ((restWs ns).map T.str)), .un] = .ok (ns.map fun _ => T.bl true) [a, b, c, d, .im (.lst ((restWs ns).map T.str)), .un] := fun h0 a b c d => by
    have e : (restWs ns).map T.str = ns.map fun i => T.str (numS i) := by
      unfold restWs
      rw [if_neg h0, List.map_map]
      rfl
    rw [e]
    refine lcL_of (fun i => T.str (numS i)) (fun _ => T.bl true) ns (by have := ok.rl; omega) fun i hi => ?_
    obtain ⟨c', e, hd, h3, h4⟩ := numS_one (ok.rb i hi).1 (ok.rb i hi).2
    have h5 : bLen [.str (numS i)] = some (.int 1) := by
      rw [bLen_str (by omega), h4]
      rfl
    have h6 : oIn (.str (numS i)) (.str "0123456789") = some (.bl true) := by
      rw [e, ← hd, ← sign_mem]
      rfl
    refine ⟨_, rfl, [a, b, c, d, .im (.lst (ns.map fun i => T.str (numS i))), .im (.str (numS i))], ?_, rfl⟩
    clear e h4
    walk_at "mih"
  have ld : ns ≠ [] → ∀ a b c d, lcL [5] (setIm 5) mYes (mB bInt (mCons (mVar 5) mNil)) ((restWs ns).map T.str) [] [a, b, c, d, .im (.lst ((restWs ns).map T.str)), .un] = .ok (ns.map T.int) [a, b, c, d, .im (.lst ((restWs ns).map T.str)), .un] := fun h0 a b c d => by
    have e : (restWs ns).map T.str = ns.map fun i => T.str (numS i) := by
      unfold restWs
      rw [if_neg h0, List.map_map]
      rfl
    rw [e]
    refine lcL_of (fun i => T.str (numS i)) T.int ns (by have := ok.rl; omega) fun i hi => ?_
    obtain ⟨c', e, hd, h3, h4⟩ := numS_one (ok.rb i hi).1 (ok.rb i hi).2
    have h5 : bInt [.str (numS i)] = some (.int i) := by
      show (match PySem.intText? (numS i) with | some n => if (numS i).length ≤ 640 then some (T.int n) else none | none => none) = _
      rw [h3]
      dsimp only
      rw [if_pos (by omega)]
    refine ⟨_, rfl, [a, b, c, d, .im (.lst (ns.map fun i => T.str (numS i))), .im (.str (numS i))], ?_, rfl⟩
    clear e h4
    walk_at "mih"
  have la : bAll [.lst (ns.map fun _ => T.bl true)] = some (.bl true) := by
    have := bAll_map (ns.map fun _ => true)
    rw [List.map_map] at this
    refine Eq.trans this ?_
    simp
  clear hw sh s1
  have k0 := ok.c0
  clear ok
  cases cap with
  | none =>
    have e1 : tvT none = .non := rfl
    have e2 : decide (capS none = "none") = true := by decide +kernel
    by_cases h0 : ns = []
    · have h1 : ns.map T.int = [] := by rw [h0]; rfl
      have h2 : decide (ns = []) = true := decide_eq_true h0
      rw [h2] at q1
      clear h0 h2 lc ld
      unfold F_head_in b_head_in
      walk_at "mih"
    · have lc := lc h0
      have ld := ld h0
      have h2 : decide (ns = []) = false := decide_eq_false h0
      rw [h2] at q1
      clear h0 h2
      unfold F_head_in b_head_in
      walk_at "mih"
  | some c =>
    obtain ⟨c1, c2⟩ := k0 c rfl
    have e1 : tvT (some c) = .int c := rfl
    have e2 : decide (capS (some c) = "none") = false := decide_eq_false (none_num (i := c) (by omega))
    have e4 : F_number_in [.im (.str (capS (some c)))] = .ok (.int c) [.im (.str (capS (some c)))] := num_ok (n := c) (by omega) c2
    by_cases h0 : ns = []
    · have h1 : ns.map T.int = [] := by rw [h0]; rfl
      have h2 : decide (ns = []) = true := decide_eq_true h0
      rw [h2] at q1
      clear h0 h2 lc ld
      unfold F_head_in b_head_in
      walk_at "mih"
    · have lc := lc h0
      have ld := ld h0
      have h2 : decide (ns = []) = false := decide_eq_false h0
      rw [h2] at q1
      clear h0 h2
      unfold F_head_in b_head_in
      walk_at "mih"
end

end Tm

namespace Tm
open PySem PySem.Spec PyProof.Rows L2
noncomputable def tbRS : List (Str × (Ro → Re)) := [("Rule", F_Rule___str__)]
theorem tbRS_ok {K : PySem.W.Frag} {X : Cx} (E : Env K X.mg X.w) (hr : Room 7 X.A) (hK : X.K = K := by rfl) : ∀ q ∈ tbRS, SpcOk X K "__str__" 2 q := by
  subst hK
  intro q hq
  simp only [tbRS, List.mem_cons, List.not_mem_nil, or_false] at hq
  rcases hq with rfl
  · exact ⟨_, _, spm_of E.m_Rule___str__, ok_Rule___str__ E, hr.mono (by decide)⟩
noncomputable def b_Rule___eq__ : Sv := (sRet (mAnd (mUn (fIsC tb_Rule) (mVar 1)) (mOp oEq (mB (bStrO tbRS) (mCons (mVar 0) mNil)) (mB (bStrO tbRS) (mCons (mVar 1) mNil)))))
noncomputable def F_Rule___eq__ : Ro → Re := runF 2 2 b_Rule___eq__
section
variable {P : Program} {w : World} {K : PySem.W.Frag} {mg : Str → Option Value} {base : Heap}
theorem sc_Rule___eq__ : FnScope ["self", "other"] ["self", "other"] (defScope s_Rule___eq__) := ⟨rfl, rfl, rfl, by decide +kernel, rfl, by decide +kernel, by decide +kernel⟩
theorem fn_Rule___eq__ (E : Env K mg w) {fd : FuncData} {dvs : List V} (F : FunD K "__eq__" "Rule.__eq__" (defArgs s_Rule___eq__) (defBody s_Rule___eq__) (defScope s_Rule___eq__) dvs [] (He.ma K (He.ga K "Rule") "__eq__") fd) : FnOk P w K mg base CX0 8 (He.ma K (He.ga K "Rule") "__eq__") fd ["self", "other"] (spF K F_Rule___eq__) := by
  refine F.ok sc_Rule___eq__ (fun vs H Q E h => spF_len h) (fun cdv A outer s H vs Q X hr h => ?_)
  have hu := hr.units
  exact body_ok (k := 2) (W := fun cls d _ H' => X cls d H') (g := b_Rule___eq__) (PSs.nox (s_one (s_ret (m_and (m_isC (is_Rule E) E.b_Rule E.g_isinstance E.g_Rule (m_var 1)) (m_one (m_cmp (q_eq hu) oEq_ok (m_callTy (q_strO (tbRS_ok E (hr.mono (by decide)))) bStrO_ok E.g_str bt_str (m_cons (m_var 0) m_nil)) (m_callTy (q_strO (tbRS_ok E (hr.mono (by decide)))) bStrO_ok E.g_str bt_str (m_cons (m_var 1) m_nil)) (nomark _))))))) (by decide) (fun _ _ _ _ z => z) h
theorem ok_Rule___eq__ (E : Env K mg w) : Dn P w K mg base CX0 8 (He.ma K (He.ga K "Rule") "__eq__") [] (spF K F_Rule___eq__) :=
  dn_of (ps := ["self", "other"]) E.f_Rule___eq__ (fun fd F => fn_Rule___eq__ E F) (fun _ _ _ _ _ _ us hl => match us, hl with | [_, _], _ => rfl)
end
noncomputable def b_Rule_read : Sv := (sSeq (sAsg (mTxt oSplit (mVar 1) (mC (.str "\n"))) (setIm 2))
    (sSeq (sAsg (mCall F_head_in [] (mCons (mOp oIx (mVar 2) (mC (.int 0))) mNil)) (setIm 3))
    (sSeq (sIf (mTst (mOp oIsN (mVar 3) (mC .non))) (fun _ => .st) sNext)
    (sSeq (sOwnL 4 mNil)
    (sSeq (sFor (mEnum (mSl (mVar 2) (mPart (mC (.int 1))) mNoPart)) (gTupM [(setIm 5), (setIm 6)])
    (sApp 4 (mCm "Kind" F_Kind_read (mCons (mVar 6) mNil))))
    (sSeq (sGive 4) (sRet (mMkL 0 "Rule" F_Rule___init__ [] (mCons (mOp oIx (mVar 3) (mC (.int 0))) (mCons (mOp oIx (mVar 3) (mC (.int 1))) (mCons (mOp oIx (mVar 3) (mC (.int 2))) (mCons (mVar 4) mNil))))))))))))
noncomputable def F_Rule_read : Ro → Re := runF 2 8 b_Rule_read
section
variable {P : Program} {w : World} {K : PySem.W.Frag} {mg : Str → Option Value} {base : Heap}
theorem sc_Rule_read : FnScope ["cls", "text", "lines", "head", "kinds", "at", "line", "error"] ["cls", "text"] (defScope s_Rule_read) := ⟨rfl, rfl, rfl, by decide +kernel, rfl, by decide +kernel, by decide +kernel⟩
theorem fn_Rule_read (E : Env K mg w) {fd : FuncData} {dvs : List V} (F : FunD K "read" "Rule.read" (defArgs s_Rule_read) (defBody s_Rule_read) (defScope s_Rule_read) dvs [] (He5.wf K (He.ga K "Rule") "classmethod" "read") fd) : FnOk P w K mg base CX0 8 (He5.wf K (He.ga K "Rule") "classmethod" "read") fd ["cls", "text"] (spF K F_Rule_read) := by
  refine F.ok sc_Rule_read (fun vs H Q E h => spF_len h) (fun cdv A outer s H vs Q X hr h => ?_)
  have hu := hr.units
  exact body_ok (k := 2) (W := fun cls d _ H' => X cls d H') (g := b_Rule_read) (PSs.nox (s_cons (s_set 2 sc_Rule_read.nd (m_split (m_var 1) m_str))
      (s_cons (s_set 3 sc_Rule_read.nd (m_call (ok_head_in (K := K) E) (hr.mono (by decide)) E.g_head_in (fun _ => pass0) (fun _ _ => .nil) (m_cons (m_ix (k_ix K) oIx_ok (m_var 2) m_int (fun _ _ => rfl)) m_nil)))
      (s_cons (s_if (m_tcmp op_isN oIsN_ok (m_var 3) m_non (nomark _)) (s_one s_never) s_nil)
      (s_cons (s_ownL 4 sc_Rule_read.nd m_nil)
      (s_cons (s_for PassesOwn.never rfl (i_enum E.g_enumerate (m_sl (m_var 2) (o_some m_int) o_none)) (g_tup (by rfl) (gs_cons (g_name 5 sc_Rule_read.nd) (gs_cons (g_name 6 sc_Rule_read.nd) gs_nil))) (gTupM_n (all_cons (setIm_n 5) (all_cons (setIm_n 6) all_nil)))
      (s_one (s_try0 (s_one (s_app 4 (m_cm E.g_Kind E.c_Kind_read (ok_Kind_read (K := K) E) (hr.mono (by decide)) (fun _ => pass0) (m_cons (m_var 6) m_nil)))))))
      (ghost_give (i := 4) (s_one (s_ret (m_mkL 0 E.mk_Rule (ok_Rule___init__ (K := K) E) (hr.mono (by decide)) (fun _ => pass0) (fun _ _ => .nil) (m_cons (m_ix (k_ix K) oIx_ok (m_var 3) m_int (fun _ _ => rfl)) (m_cons (m_ix (k_ix K) oIx_ok (m_var 3) m_int (fun _ _ => rfl)) (m_cons (m_ix (k_ix K) oIx_ok (m_var 3) m_int (fun _ _ => rfl)) (m_cons (m_var 4) m_nil)))))))))))))) (by decide) (fun _ _ _ _ z => z) h
theorem ok_Rule_read (E : Env K mg w) : Dn P w K mg base CX0 8 (He5.wf K (He.ga K "Rule") "classmethod" "read") [] (spF K F_Rule_read) :=
  dn_of (ps := ["cls", "text"]) E.f_Rule_read (fun fd F => fn_Rule_read E F) (fun _ _ _ _ _ _ us hl => match us, hl with | [_, _], _ => rfl)
end
end Tm

namespace Tm
open PySem PySem.Spec PyProof.Rows L2
local macro_rules | `(tactic| walk_at "mir") => `(tactic| simp only [ap_mVar, ap_mC, ap_mOp, ap_mUn, ap_mNil, ap_mCons, ap_mB, ap_mL, ap_mNotT, ap_mAndT, ap_mOrT, ap_mIf, ap_mYes, ap_mNoPart, ap_sNext, ap_sRet, ap_sExpr, ap_sAsg, ap_sIf, ap_sFor, ap_mCall, ap_mMake, ap_mCm, ap_mSl, ap_bind_ok, ap_lift, ap_seq, ap_mTst, ap_mAnd, ap_mOr, ap_mNot, ap_mChain, ap_mPart, ap_mSeqOf, ap_mSeqOfS, ap_mTxt, ap_mStar, ap_mMeth, ap_mEnum, ap_mLc, ap_mDc, ap_ite, ouE_ok, re_rt, re_nx, runF, outA, setIm, callV, mFldS, fK_name, fK_times, fK_days, fK_left, fK_by, fK_top, fR_length, fR_rests, fR_cap, fR_kinds, fR_names, ap_mJs, mJs_nil, sFldS, putN, Sl.any, Sl.tr, Sl.up, wipeO, resto, fTup, fLst, v_lt, v_le, v_gt, v_ge, v_sub, v_add, nix, if_true, if_false, ite_true, ite_false, reduceIte, Bool.false_eq_true, Bool.not_true, Bool.not_false, Bool.true_eq_false, Option.bind_some, Option.map_some, Option.bind_none, Option.map_none, List.map_cons, List.map_nil, List.cons_append, List.nil_append, List.append_nil, List.length_cons, List.length_nil, List.getElem?_cons_zero, List.getElem?_cons_succ, List.set_cons_zero, List.set_cons_succ, List.replicate_succ, List.replicate_zero, Nat.reduceAdd, Nat.reduceSub, Nat.reduceLeDiff, List.mapIdx_cons, List.mapIdx_nil, List.mem_cons, List.not_mem_nil, or_false, false_or, or_self, or_true, List.getD_cons_zero, List.getD_cons_succ, Nat.reduceEqDiff, Nat.zero_ne_one, Nat.one_ne_zero, reduceCtorEq, ap_sPar2, ap_sGive, ap_sOwnL, ap_setOw, ap_sApp, isL, ap_chL, ap_gTupM, ap_gTup0, ap_gTup, ap_mCallR, ap_callR, isO, ap_mOpS, ap_mLenS, ap_mPopS, ap_sParLN, notDeal, scaT, Option.isSome_some, seqT_lst, seqT_tup, true_and, and_true, Nat.reduceLT, Nat.lt_add_one, and_self])
local macro_rules | `(tactic| walk_at "js") => `(tactic| (rw [if_pos (by simp only [len_app]; omega)]; try walk_at "mir"))
local macro_rules | `(tactic| walk_at "mih") => `(tactic| simp only [ap_mVar, ap_mC, ap_mOp, ap_mUn, ap_mNil, ap_mCons, ap_mB, ap_mL, ap_mNotT, ap_mAndT, ap_mOrT, ap_mIf, ap_mYes, ap_mNoPart, ap_sNext, ap_sRet, ap_sExpr, ap_sAsg, ap_sIf, ap_sFor, ap_mCall, ap_mMake, ap_mCm, ap_mSl, ap_bind_ok, ap_lift, ap_seq, ap_mTst, ap_mAnd, ap_mOr, ap_mNot, ap_mChain, ap_mPart, ap_mSeqOf, ap_mSeqOfS, ap_mTxt, ap_mStar, ap_mMeth, ap_mEnum, ap_mLc, ap_mDc, ap_ite, ouE_ok, re_rt, re_nx, runF, outA, setIm, callV, mFldS, fK_name, fK_times, fK_days, fK_left, fK_by, fK_top, fR_length, fR_rests, fR_cap, fR_kinds, fR_names, ap_mJs, mJs_nil, sFldS, putN, Sl.any, Sl.tr, Sl.up, wipeO, resto, fTup, fLst, v_lt, v_le, v_gt, v_ge, v_sub, v_add, nix, if_true, if_false, ite_true, ite_false, reduceIte, Bool.false_eq_true, Bool.not_true, Bool.not_false, Bool.true_eq_false, Option.bind_some, Option.map_some, Option.bind_none, Option.map_none, List.map_cons, List.map_nil, List.cons_append, List.nil_append, List.append_nil, List.length_cons, List.length_nil, List.getElem?_cons_zero, List.getElem?_cons_succ, List.set_cons_zero, List.set_cons_succ, List.replicate_succ, List.replicate_zero, Nat.reduceAdd, Nat.reduceSub, Nat.reduceLeDiff, List.mapIdx_cons, List.mapIdx_nil, List.mem_cons, List.not_mem_nil, or_false, false_or, or_self, or_true, List.getD_cons_zero, List.getD_cons_succ, Nat.reduceEqDiff, Nat.zero_ne_one, Nat.one_ne_zero, reduceCtorEq, ap_sPar2, ap_sGive, ap_sOwnL, ap_setOw, ap_sApp, isL, ap_chL, ap_gTupM, ap_gTup0, ap_gTup, ap_mCallR, ap_callR, isO, ap_mOpS, ap_mLenS, ap_mPopS, ap_sParLN, notDeal, scaT, Option.isSome_some, seqT_lst, seqT_tup, true_and, and_true, Nat.reduceLT, Nat.lt_add_one, and_self, decide_true, decide_false, bLen_lst, bLen_tup, oSl_lst, oSl_tup, v_isN0, v_isNi, v_isNs, v_isNt, v_notN0, v_notNi, v_neg, v_int, v_tupL, v_tupT, v_eqs, v_nes, v_eqi, v_nei, *])
local macro_rules | `(tactic| walk_at "ro") => `(tactic| simp only [runF, List.length_cons, List.length_nil, Nat.reduceAdd, Nat.reduceSub, if_true, reduceIte, List.replicate_succ, List.replicate_zero, List.cons_append, List.nil_append, List.set_cons_zero, List.set_cons_succ])
section
theorem str_rule {R : Rl} (ok : RlOk R) : bStrO tbRS [ruleT R] = some (.str (ruleS R)) := by
  show (match (match F_Rule___str__ [.im (ruleT R)] with | .ok t _ => some t | _ => none) with | some (.str z) => some (T.str z) | _ => none) = _
  rw [F_Rule_str ok]
theorem F_Rule_eq {R S : Rl} (ok : RlOk R) (oj : RlOk S) : F_Rule___eq__ [.im (ruleT R), .im (ruleT S)] = .ok (.bl (decide (ruleS R = ruleS S))) [.im (ruleT R), .im (ruleT S)] := by
  have h1 : fIsC tb_Rule (ruleT S) = some (.bl true) := rfl
  have h2 := str_rule ok
  have h3 := str_rule oj
  unfold F_Rule___eq__ b_Rule___eq__
  walk_at "mih"
theorem read_for (c t l h e : Sl) : ∀ (ks acc : List Kd) (i : Nat) (a b : Sl), (∀ k ∈ ks, KdOk k) → acc.length + ks.length ≤ 1000000 → (a = .un ∨ ∃ z, a = .im z) → (b = .un ∨ ∃ z, b = .im z) → ∃ a' b', forL (gTupM [(setIm 5), (setIm 6)]) (sApp 4 (mCm "Kind" F_Kind_read (mCons (mVar 6) mNil))) (enT i (ks.map fun k => T.str (kindS k))) [c, t, l, h, .ow (.lst (acc.map kindT)), a, b, e] = .nx [c, t, l, h, .ow (.lst ((acc ++ ks).map kindT)), a', b', e] := by
  intro ks
  induction ks with
  | nil =>
    intro acc i a b _ _ _ _
    rw [List.append_nil]
    exact ⟨a, b, rfl⟩
  | cons k ks ih =>
    intro acc i a b kk hl ha hb
    have hl' : acc.length + ks.length + 1 ≤ 1000000 := by simpa [Nat.add_assoc] using hl
    have h1 := F_read_kind (kk k (List.mem_cons_self ..)) (.cls "Kind")
    obtain ⟨a', b', h2⟩ := ih (acc ++ [k]) (i + 1) (.im (.int i)) (.im (.str (kindS k))) (fun m hm => kk m (List.mem_cons_of_mem _ hm)) (by simp; omega) (.inr ⟨_, rfl⟩) (.inr ⟨_, rfl⟩)
    refine ⟨a', b', ?_⟩
    rw [List.append_assoc, List.map_append] at h2
    have h3 : (acc.map kindT).length < 1000000 := by rw [List.length_map]; omega
    have e1 : enT i (T.str (kindS k) :: ks.map fun k => T.str (kindS k)) = .tup [.int i, .str (kindS k)] :: enT (i + 1) (ks.map fun k => T.str (kindS k)) := rfl
    rw [List.map_cons, e1]
    unfold forL
    clear ih kk e1
    rcases ha with rfl | ⟨za, rfl⟩ <;> rcases hb with rfl | ⟨zb, rfl⟩ <;>
    · walk_at "mir"
      rw [h1]
      walk_at "mir"
      rw [if_pos h3]
      walk_at "mir"
      exact h2
theorem F_read_rule {n : Int} {ns : List Int} {cap : Option Int} {ks : List Kd} (ok : HdOk n ns cap) (rn : ns.Nodup) (kl : ks.length ≤ 100) (kn : (ks.map (·.name)).Nodup) (kk : ∀ k ∈ ks, KdOk k) : F_Rule_read [.im (.cls "Rule"), .im (.str (textS n ns cap ks))] = .ok (ruleT ⟨n, srtI ns, cap, ks⟩) [.im (.cls "Rule"), .im (.str (textS n ns cap ks))] := by
  have sp : oSplit (.str (textS n ns cap ks)) (.str "\n") = some (.lst (.str (headS n ns cap) :: ks.map fun k => T.str (kindS k))) := by
    rw [oSplit_ok (by decide +kernel) (Nat.le_trans (textS_len ok kk kl) (by decide)), split_text ok kk, List.map_cons, List.map_map]
    rfl
  have w0 : oIx (.lst (.str (headS n ns cap) :: ks.map fun k => T.str (kindS k))) (.int 0) = some (.str (headS n ns cap)) := atI_nat (T.str (headS n ns cap) :: ks.map fun k => T.str (kindS k)) 0 (by simp)
  have h1 := F_head ok
  have h2 : cutT (.str (headS n ns cap) :: ks.map fun k => T.str (kindS k)) (some 1) none = ks.map fun k => T.str (kindS k) := by
    unfold cutT
    have e1 : HT.sIx (T.str (headS n ns cap) :: ks.map fun k => T.str (kindS k)).length 0 (some 1) = 1 := by
      have := HT.sIx_nat (T.str (headS n ns cap) :: ks.map fun k => T.str (kindS k)).length 0 1
      rw [show (some ((1 : Nat) : Int)) = some (1 : Int) from rfl] at this
      rw [this]
      simp only [List.length_cons]
      omega
    rw [e1]
    show List.take ((T.str (headS n ns cap) :: ks.map fun k => T.str (kindS k)).length - 1) (ks.map fun k => T.str (kindS k)) = _
    exact List.take_of_length_le (by simp)
  have w1 : ∀ a b c : T, oIx (.tup [a, b, c]) (.int 0) = some a := fun a b c => rfl
  have w2 : ∀ a b c : T, oIx (.tup [a, b, c]) (.int 1) = some b := fun a b c => rfl
  have w3 : ∀ a b c : T, oIx (.tup [a, b, c]) (.int 2) = some c := fun a b c => rfl
  obtain ⟨a', b', h3⟩ := read_for (.im (.cls "Rule")) (.im (.str (textS n ns cap ks))) (.im (.lst (.str (headS n ns cap) :: ks.map fun k => T.str (kindS k)))) (.im (.tup [.int n, .lst (ns.map T.int), tvT cap])) .un ks [] 0 .un .un kk (by simp; omega) (.inl rfl) (.inl rfl)
  rw [List.nil_append, List.map_nil] at h3
  have h4 : ∀ ρ, mkV "Rule" F_Rule___init__ [.int n, .lst (ns.map T.int), tvT cap, .lst (ks.map kindT)] ρ = .ok (ruleT ⟨n, srtI ns, cap, ks⟩) ρ := fun ρ => mk_rule ρ true true ok.l0 ok.rl ok.rb rn (fun c hc => (ok.c0 c hc).1) (by omega) kn
  have h5 : ∀ (fr : Ev (List T)) (a b c d e f g : Sl), mMkL 0 "Rule" F_Rule___init__ [] fr [.im (.cls "Rule"), a, b, c, d, e, f, g] = mMake "Rule" F_Rule___init__ [] fr [.im (.cls "Rule"), a, b, c, d, e, f, g] := fun fr a b c d e f g => ap_mMkL 0 _ _ _ _ _ rfl
  unfold F_Rule_read b_Rule_read
  walk_at "mih"

end

end Tm

namespace Tm
open PySem PySem.Spec PyProof.Rows L2
noncomputable def b__law_kind : Sv := (sSeq (sPar2 3 4 (mCons (mCallR 0 F__law_pick [] (mCons (mB fLst (mCons (mC (.str "still")) (mCons (mC (.str "anew")) (mCons (mC (.str "lift")) mNil)))) mNil)) (mCons (mCallR 0 F__law_pick [] (mCons (mB fLst (mCons (mC (.int 1)) (mCons (mC (.int 1)) (mCons (mC (.int 2)) (mCons (mC (.int 3)) (mCons (mC .non) mNil)))))) mNil)) mNil)))
    (sRet (mB fTup (mCons (mVar 3) (mCons (mVar 1) (mCons (mOp oAdd (mC (.int 1)) (mCallR 0 F__law_draw [] (mCons (mVar 2) mNil))) (mCons (mIf (mTst (mOp oEq (mVar 3) (mC (.str "lift")))) (mOp oAdd (mC (.int 1)) (mCallR 0 F__law_draw [] (mCons (mVar 2) mNil))) (mC (.int 0))) (mCons (mVar 4) mNil))))))))
noncomputable def F__law_kind : Ro → Re := runF 3 5 b__law_kind
section
variable {P : Program} {w : World} {K : PySem.W.Frag} {mg : Str → Option Value} {base : Heap}
theorem sc__law_kind : FnScope ["_law_deal_here", "_law_word", "_law_most", "_law_form", "_law_many"] ["_law_deal_here", "_law_word", "_law_most"] (defScope s__law_kind) := ⟨rfl, rfl, rfl, by decide +kernel, rfl, by decide +kernel, by decide +kernel⟩
theorem fn__law_kind (E : Env K mg w) {fd : FuncData} {dvs : List V} (F : FunD K "_law_kind" "_law_kind" (defArgs s__law_kind) (defBody s__law_kind) (defScope s__law_kind) dvs [] (He.ga K "_law_kind") fd) : FnOk P w K mg base CX0 3 (He.ga K "_law_kind") fd ["_law_deal_here", "_law_word", "_law_most"] (spF K F__law_kind) := by
  refine F.ok sc__law_kind (fun vs H Q E h => spF_len h) (fun cdv A outer s H vs Q X hr h => ?_)
  have hu := hr.units
  exact body_ok (k := 3) (W := fun cls d _ H' => X cls d H') (g := b__law_kind) (PSs.nox (s_cons (s_par2 3 4 sc__law_kind.nd (m_cons (m_callR 0 (ok__law_pick (K := K) E) (hr.mono (by decide)) E.g__law_pick (fun _ => pass0) (fun _ _ => .nil) (m_cons (m_lst (m_cons m_str (m_cons m_str (m_cons m_str m_nil)))) m_nil)) (m_cons (m_callR 0 (ok__law_pick (K := K) E) (hr.mono (by decide)) E.g__law_pick (fun _ => pass0) (fun _ _ => .nil) (m_cons (m_lst (m_cons m_int (m_cons m_int (m_cons m_int (m_cons m_int (m_cons m_non m_nil)))))) m_nil)) m_nil)))
      (s_one (s_ret (m_tup (m_cons (m_var 3) (m_cons (m_var 1) (m_cons (m_op q_add oAdd_ok m_int (m_callR 0 (ok__law_draw (K := K) E) (hr.mono (by decide)) E.g__law_draw (fun _ => pass0) (fun _ _ => .nil) (m_cons (m_var 2) m_nil))) (m_cons (m_ifE (m_tcmp (q_eq hu) oEq_ok (m_var 3) m_str (nomark _)) (m_op q_add oAdd_ok m_int (m_callR 0 (ok__law_draw (K := K) E) (hr.mono (by decide)) E.g__law_draw (fun _ => pass0) (fun _ _ => .nil) (m_cons (m_var 2) m_nil))) m_int) (m_cons (m_var 4) m_nil)))))))))) (by decide) (fun _ _ _ _ z => z) h
theorem ok__law_kind (E : Env K mg w) : Dn P w K mg base CX0 3 (He.ga K "_law_kind") [] (spF K F__law_kind) :=
  dn_of (ps := ["_law_deal_here", "_law_word", "_law_most"]) E.f__law_kind (fun fd F => fn__law_kind E F) (fun _ _ _ _ _ _ us hl => match us, hl with | [_, _, _], _ => rfl)
end
noncomputable def b__law_rule : Sv := (sSeq (sAsg (mB bSrtI (mCons (mLc [9] (mSeqOf (mSl (mCallR 0 F__law_mixed [] (mCons (mB bListRg (mCons (mC (.int 7)) mNil)) mNil)) mNoPart (mPart (mCallR 0 F__law_pick [] (mCons (mB fLst (mCons (mC (.int 0)) (mCons (mC (.int 0)) (mCons (mC (.int 1)) (mCons (mC (.int 2)) (mCons (mC (.int 2)) (mCons (mC (.int 4)) mNil))))))) mNil))))) (setIm 9) mYes (mB bInt (mCons (mVar 9) mNil))) mNil)) (setIm 3))
    (sSeq (sAsg (mCallR 0 F__law_pick [] (mCons (mB fLst (mCons (mC .non) (mCons (mC .non) (mCons (mC .non) (mCons (mOp oAdd (mC (.int 1)) (mCallR 0 F__law_draw [] (mCons (mOp oMul (mC (.int 3)) (mVar 2)) mNil))) mNil))))) mNil)) (setIm 4))
    (sSeq (sPar2 6 7 (mCons (mCallR 0 F__law_names [] (mCons (mCallR 0 F__law_draw [] (mCons (mOp oAdd (mVar 1) (mC (.int 1))) mNil)) mNil)) (mCons (mOp oAdd (mC (.int 1)) (mCallR 0 F__law_draw [] (mCons (mVar 2) mNil))) mNil)))
    (sSeq (sAsg (mLc [8] (mSeqOf (mVar 6)) (setIm 8) mYes (mCallR 0 F__law_kind [] (mCons (mVar 8) (mCons (mVar 2) mNil)))) (setIm 5))
    (sSeq (sIf (mAndT (mTst (mOp oNotN (mVar 4) (mC .non))) (mTst (mOp oNe (mLc [9] (mSeqOf (mVar 5)) (setIm 9) (mTst (mOp oIsN (mOp oIx (mVar 9) (mC (.int 4))) (mC .non))) (mVar 9)) (mB fLst mNil)))) (sAsg (mB bMin (mCons (mB bInt (mCons (mVar 4) mNil)) (mCons (mOp oAdd (mVar 7) (mC (.int 200))) mNil))) (setIm 4)) sNext)
    (sRet (mB fTup (mCons (mVar 7) (mCons (mVar 3) (mCons (mVar 4) (mCons (mVar 5) mNil)))))))))))
noncomputable def F__law_rule : Ro → Re := runF 3 10 b__law_rule
section
variable {P : Program} {w : World} {K : PySem.W.Frag} {mg : Str → Option Value} {base : Heap}
theorem sc__law_rule : FnScope ["_law_deal_here", "_law_many", "_law_most", "_law_rests_here", "_law_high", "_law_some", "_law_words", "_law_size", "_law_word", "_law_one"] ["_law_deal_here", "_law_many", "_law_most"] (defScope s__law_rule) := ⟨rfl, rfl, rfl, by decide +kernel, rfl, by decide +kernel, by decide +kernel⟩
theorem fn__law_rule (E : Env K mg w) {fd : FuncData} {dvs : List V} (F : FunD K "_law_rule" "_law_rule" (defArgs s__law_rule) (defBody s__law_rule) (defScope s__law_rule) dvs [] (He.ga K "_law_rule") fd) : FnOk P w K mg base CX0 4 (He.ga K "_law_rule") fd ["_law_deal_here", "_law_many", "_law_most"] (spF K F__law_rule) := by
  refine F.ok sc__law_rule (fun vs H Q E h => spF_len h) (fun cdv A outer s H vs Q X hr h => ?_)
  have hu := hr.units
  exact body_ok (k := 3) (W := fun cls d _ H' => X cls d H') (g := b__law_rule) (PSs.nox (s_cons (s_set 3 sc__law_rule.nd (m_callB (k_sorted K) bSrtI_ok E.g_sorted bt_sorted (m_cons (m_lc (own := [("_law_one", 9)]) (by rfl) sc__law_rule.nd (setIm_n 9) (i_seq (m_sl (m_callR 0 (ok__law_mixed (K := K) E) (hr.mono (by decide)) E.g__law_mixed (fun _ => pass0) (fun _ _ => .nil) (m_cons (m_listRg E.g_list E.g_range m_int) m_nil)) o_none (o_some (m_callR 0 (ok__law_pick (K := K) E) (hr.mono (by decide)) E.g__law_pick (fun _ => pass0) (fun _ _ => .nil) (m_cons (m_lst (m_cons m_int (m_cons m_int (m_cons m_int (m_cons m_int (m_cons m_int (m_cons m_int m_nil))))))) m_nil))))) (blkOk_by (own := [("_law_one", 9)]) (N := ["_law_deal_here", "_law_many", "_law_most", "_law_rests_here", "_law_high", "_law_some", "_law_words", "_law_size", "_law_word", "_law_one"]) (sc := defScope s__law_rule) (by decide +kernel)) (fun _ _ _ _ _ => (g_name 9 sc__law_rule.nd)) (fun _ _ _ _ _ => ts_nil) (fun _ _ _ _ _ => (m_callTy q_int bInt_ok E.g_int bt_int (m_cons (m_var 9) m_nil)))) m_nil)))
      (s_cons (s_set 4 sc__law_rule.nd (m_callR 0 (ok__law_pick (K := K) E) (hr.mono (by decide)) E.g__law_pick (fun _ => pass0) (fun _ _ => .nil) (m_cons (m_lst (m_cons m_non (m_cons m_non (m_cons m_non (m_cons (m_op q_add oAdd_ok m_int (m_callR 0 (ok__law_draw (K := K) E) (hr.mono (by decide)) E.g__law_draw (fun _ => pass0) (fun _ _ => .nil) (m_cons (m_op op_mul oMul_ok m_int (m_var 2)) m_nil))) m_nil))))) m_nil)))
      (s_cons (s_par2 6 7 sc__law_rule.nd (m_cons (m_callR 0 (ok__law_names (K := K) E) (hr.mono (by decide)) E.g__law_names (fun _ => pass0) (fun _ _ => .nil) (m_cons (m_callR 0 (ok__law_draw (K := K) E) (hr.mono (by decide)) E.g__law_draw (fun _ => pass0) (fun _ _ => .nil) (m_cons (m_op q_add oAdd_ok (m_var 1) m_int) m_nil)) m_nil)) (m_cons (m_op q_add oAdd_ok m_int (m_callR 0 (ok__law_draw (K := K) E) (hr.mono (by decide)) E.g__law_draw (fun _ => pass0) (fun _ _ => .nil) (m_cons (m_var 2) m_nil))) m_nil)))
      (s_cons (s_setLc 5 (own := [("_law_word", 8)]) (by rfl) sc__law_rule.nd (setIm_n 8) (sw_true rfl rfl rfl (by decide +kernel)) (i_seq (m_var 6)) (blkOk_by (own := [("_law_word", 8)]) (N := ["_law_deal_here", "_law_many", "_law_most", "_law_rests_here", "_law_high", "_law_some", "_law_words", "_law_size", "_law_word", "_law_one"]) (sc := defScope s__law_rule) (by decide +kernel)) (fun _ _ _ _ _ => (g_name 8 sc__law_rule.nd)) (fun _ _ _ _ _ => ts_nil) (fun _ _ _ _ _ => (m_callR 0 (ok__law_kind (K := K) E) (hr.mono (by decide)) E.g__law_kind (fun _ => pass0) (fun _ _ => .nil) (m_cons (m_var 8) (m_cons (m_var 2) m_nil)))))
      (s_cons (s_if (PW.pt (m_pand (m_tcmp op_notN oNotN_ok (m_var 4) m_non (nomark _)) (m_pand1 (m_tcmp (q_ne hu) oNe_ok (m_lc (own := [("_law_one", 9)]) (by rfl) sc__law_rule.nd (setIm_n 9) (i_seq (m_var 5)) (blkOk_by (own := [("_law_one", 9)]) (N := ["_law_deal_here", "_law_many", "_law_most", "_law_rests_here", "_law_high", "_law_some", "_law_words", "_law_size", "_law_word", "_law_one"]) (sc := defScope s__law_rule) (by decide +kernel)) (fun _ _ _ _ _ => (g_name 9 sc__law_rule.nd)) (fun _ _ _ _ _ => (ts_one (m_tcmp op_isN oIsN_ok (m_ix (k_ix K) oIx_ok (m_var 9) m_int (fun _ _ => rfl)) m_non (nomark _)))) (fun _ _ _ _ _ => (m_var 9))) (m_lst m_nil) (nomark _))))) (s_one (s_set 4 sc__law_rule.nd (m_callB (call_min2 rfl) bI2_ok E.g_min bt_min (m_cons (m_callTy q_int bInt_ok E.g_int bt_int (m_cons (m_var 4) m_nil)) (m_cons (m_op q_add oAdd_ok (m_var 7) m_int) m_nil))))) s_nil)
      (s_one (s_ret (m_tup (m_cons (m_var 7) (m_cons (m_var 3) (m_cons (m_var 4) (m_cons (m_var 5) m_nil))))))))))))) (by decide) (fun _ _ _ _ z => z) h
theorem ok__law_rule (E : Env K mg w) : Dn P w K mg base CX0 4 (He.ga K "_law_rule") [] (spF K F__law_rule) :=
  dn_of (ps := ["_law_deal_here", "_law_many", "_law_most"]) E.f__law_rule (fun fd F => fn__law_rule E F) (fun _ _ _ _ _ _ us hl => match us, hl with | [_, _, _], _ => rfl)
end
noncomputable def b__law_kind_text : Sv := (sSeq (sAsg (mOp oAdd (mB fLst (mCons (mOp oIx (mVar 0) (mC (.int 0))) (mCons (mOp oIx (mVar 0) (mC (.int 1))) (mCons (mB bStr (mCons (mOp oIx (mVar 0) (mC (.int 2))) mNil)) mNil)))) (mIf (mTst (mOp oEq (mOp oIx (mVar 0) (mC (.int 0))) (mC (.str "lift")))) (mB fLst (mCons (mB bStr (mCons (mOp oIx (mVar 0) (mC (.int 3))) mNil)) mNil)) (mB fLst mNil))) (setIm 1))
    (sRet (mTxt oJoin (mC (.str " ")) (mOp oAdd (mVar 1) (mB fLst (mCons (mIf (mTst (mOp oIsN (mOp oIx (mVar 0) (mC (.int 4))) (mC .non))) (mC (.str "any")) (mB bStr (mCons (mOp oIx (mVar 0) (mC (.int 4))) mNil))) mNil))))))
noncomputable def F__law_kind_text : Ro → Re := runF 1 2 b__law_kind_text
section
variable {P : Program} {w : World} {K : PySem.W.Frag} {mg : Str → Option Value} {base : Heap}
theorem sc__law_kind_text : FnScope ["_law_one", "_law_words"] ["_law_one"] (defScope s__law_kind_text) := ⟨rfl, rfl, rfl, by decide +kernel, rfl, by decide +kernel, by decide +kernel⟩
theorem fn__law_kind_text (E : Env K mg w) {fd : FuncData} {dvs : List V} (F : FunD K "_law_kind_text" "_law_kind_text" (defArgs s__law_kind_text) (defBody s__law_kind_text) (defScope s__law_kind_text) dvs [] (He.ga K "_law_kind_text") fd) : FnOk P w K mg base CX0 1 (He.ga K "_law_kind_text") fd ["_law_one"] (spF K F__law_kind_text) := by
  refine F.ok sc__law_kind_text (fun vs H Q E h => spF_len h) (fun cdv A outer s H vs Q X hr h => ?_)
  have hu := hr.units
  exact body_ok (k := 1) (W := fun cls d _ H' => X cls d H') (g := b__law_kind_text) (PSs.nox (s_cons (s_set 1 sc__law_kind_text.nd (m_op q_add oAdd_ok (m_lst (m_cons (m_ix (k_ix K) oIx_ok (m_var 0) m_int (fun _ _ => rfl)) (m_cons (m_ix (k_ix K) oIx_ok (m_var 0) m_int (fun _ _ => rfl)) (m_cons (m_callTy q_str bStr_ok E.g_str bt_str (m_cons (m_ix (k_ix K) oIx_ok (m_var 0) m_int (fun _ _ => rfl)) m_nil)) m_nil)))) (m_ifE (m_tcmp (q_eq hu) oEq_ok (m_ix (k_ix K) oIx_ok (m_var 0) m_int (fun _ _ => rfl)) m_str (nomark _)) (m_lst (m_cons (m_callTy q_str bStr_ok E.g_str bt_str (m_cons (m_ix (k_ix K) oIx_ok (m_var 0) m_int (fun _ _ => rfl)) m_nil)) m_nil)) (m_lst m_nil))))
      (s_one (s_ret (m_join m_str (m_op q_add oAdd_ok (m_var 1) (m_lst (m_cons (m_ifE (m_tcmp op_isN oIsN_ok (m_ix (k_ix K) oIx_ok (m_var 0) m_int (fun _ _ => rfl)) m_non (nomark _)) m_str (m_callTy q_str bStr_ok E.g_str bt_str (m_cons (m_ix (k_ix K) oIx_ok (m_var 0) m_int (fun _ _ => rfl)) m_nil))) m_nil)))))))) (by decide) (fun _ _ _ _ z => z) h
theorem ok__law_kind_text (E : Env K mg w) : Dn P w K mg base CX0 1 (He.ga K "_law_kind_text") [] (spF K F__law_kind_text) :=
  dn_of (ps := ["_law_one"]) E.f__law_kind_text (fun fd F => fn__law_kind_text E F) (fun _ _ _ _ _ _ us hl => match us, hl with | [_], _ => rfl)
end
noncomputable def b__law_text : Sv := (sSeq (sAsg (mIf (mTst (mOp oNe (mOp oIx (mVar 0) (mC (.int 1))) (mB fLst mNil))) (mTxt oJoin (mC (.str " ")) (mLc [3] (mSeqOf (mOp oIx (mVar 0) (mC (.int 1)))) (setIm 3) mYes (mB bStr (mCons (mVar 3) mNil)))) (mC (.str "none"))) (setIm 1))
    (sSeq (sAsg (mOp oAdd (mOp oAdd (mOp oAdd (mOp oAdd (mOp oAdd (mC (.str "term ")) (mB bStr (mCons (mOp oIx (mVar 0) (mC (.int 0))) mNil))) (mC (.str " rests "))) (mVar 1)) (mC (.str " cap "))) (mIf (mTst (mOp oIsN (mOp oIx (mVar 0) (mC (.int 2))) (mC .non))) (mC (.str "none")) (mB bStr (mCons (mOp oIx (mVar 0) (mC (.int 2))) mNil)))) (setIm 2))
    (sRet (mTxt oJoin (mC (.str "\n")) (mOp oAdd (mB fLst (mCons (mVar 2) mNil)) (mLc [3] (mSeqOf (mOp oIx (mVar 0) (mC (.int 3)))) (setIm 3) mYes (mCall F__law_kind_text [] (mCons (mVar 3) mNil))))))))
noncomputable def F__law_text : Ro → Re := runF 1 4 b__law_text
section
variable {P : Program} {w : World} {K : PySem.W.Frag} {mg : Str → Option Value} {base : Heap}
theorem sc__law_text : FnScope ["_law_told", "_law_rests_here", "_law_head", "_law_one"] ["_law_told"] (defScope s__law_text) := ⟨rfl, rfl, rfl, by decide +kernel, rfl, by decide +kernel, by decide +kernel⟩
theorem fn__law_text (E : Env K mg w) {fd : FuncData} {dvs : List V} (F : FunD K "_law_text" "_law_text" (defArgs s__law_text) (defBody s__law_text) (defScope s__law_text) dvs [] (He.ga K "_law_text") fd) : FnOk P w K mg base CX0 2 (He.ga K "_law_text") fd ["_law_told"] (spF K F__law_text) := by
  refine F.ok sc__law_text (fun vs H Q E h => spF_len h) (fun cdv A outer s H vs Q X hr h => ?_)
  have hu := hr.units
  exact body_ok (k := 1) (W := fun cls d _ H' => X cls d H') (g := b__law_text) (PSs.nox (s_cons (s_set 1 sc__law_text.nd (m_ifE (m_tcmp (q_ne hu) oNe_ok (m_ix (k_ix K) oIx_ok (m_var 0) m_int (fun _ _ => rfl)) (m_lst m_nil) (nomark _)) (m_join m_str (m_lc (own := [("_law_one", 3)]) (by rfl) sc__law_text.nd (setIm_n 3) (i_seq (m_ix (k_ix K) oIx_ok (m_var 0) m_int (fun _ _ => rfl))) (blkOk_by (own := [("_law_one", 3)]) (N := ["_law_told", "_law_rests_here", "_law_head", "_law_one"]) (sc := defScope s__law_text) (by decide +kernel)) (fun _ _ _ _ _ => (g_name 3 sc__law_text.nd)) (fun _ _ _ _ _ => ts_nil) (fun _ _ _ _ _ => (m_callTy q_str bStr_ok E.g_str bt_str (m_cons (m_var 3) m_nil))))) m_str))
      (s_cons (s_set 2 sc__law_text.nd (m_op q_add oAdd_ok (m_op q_add oAdd_ok (m_op q_add oAdd_ok (m_op q_add oAdd_ok (m_op q_add oAdd_ok m_str (m_callTy q_str bStr_ok E.g_str bt_str (m_cons (m_ix (k_ix K) oIx_ok (m_var 0) m_int (fun _ _ => rfl)) m_nil))) m_str) (m_var 1)) m_str) (m_ifE (m_tcmp op_isN oIsN_ok (m_ix (k_ix K) oIx_ok (m_var 0) m_int (fun _ _ => rfl)) m_non (nomark _)) m_str (m_callTy q_str bStr_ok E.g_str bt_str (m_cons (m_ix (k_ix K) oIx_ok (m_var 0) m_int (fun _ _ => rfl)) m_nil)))))
      (s_one (s_ret (m_join m_str (m_op q_add oAdd_ok (m_lst (m_cons (m_var 2) m_nil)) (m_lc (own := [("_law_one", 3)]) (by rfl) sc__law_text.nd (setIm_n 3) (i_seq (m_ix (k_ix K) oIx_ok (m_var 0) m_int (fun _ _ => rfl))) (blkOk_by (own := [("_law_one", 3)]) (N := ["_law_told", "_law_rests_here", "_law_head", "_law_one"]) (sc := defScope s__law_text) (by decide +kernel)) (fun _ _ _ _ _ => (g_name 3 sc__law_text.nd)) (fun _ _ _ _ _ => ts_nil) (fun _ _ _ _ _ => (m_call (ok__law_kind_text (K := K) E) (hr.mono (by decide)) E.g__law_kind_text (fun _ => pass0) (fun _ _ => .nil) (m_cons (m_var 3) m_nil))))))))))) (by decide) (fun _ _ _ _ z => z) h
theorem ok__law_text (E : Env K mg w) : Dn P w K mg base CX0 2 (He.ga K "_law_text") [] (spF K F__law_text) :=
  dn_of (ps := ["_law_told"]) E.f__law_text (fun fd F => fn__law_text E F) (fun _ _ _ _ _ _ us hl => match us, hl with | [_], _ => rfl)
end
noncomputable def b__law_kind_made : Sv := (sSeq (sIf (mTst (mOp oEq (mOp oIx (mVar 0) (mC (.int 0))) (mC (.str "still")))) (sRet (mMake "Still" F_Still___init__ [] (mCons (mOp oIx (mVar 0) (mC (.int 1))) (mCons (mOp oIx (mVar 0) (mC (.int 2))) (mCons (mOp oIx (mVar 0) (mC (.int 4))) mNil))))) sNext)
    (sSeq (sIf (mTst (mOp oEq (mOp oIx (mVar 0) (mC (.int 0))) (mC (.str "anew")))) (sRet (mMake "Anew" F_Anew___init__ [] (mCons (mOp oIx (mVar 0) (mC (.int 1))) (mCons (mOp oIx (mVar 0) (mC (.int 2))) (mCons (mOp oIx (mVar 0) (mC (.int 4))) mNil))))) sNext)
    (sRet (mMake "Lift" F_Lift___init__ [] (mCons (mOp oIx (mVar 0) (mC (.int 1))) (mCons (mOp oIx (mVar 0) (mC (.int 2))) (mCons (mOp oIx (mVar 0) (mC (.int 3))) (mCons (mOp oIx (mVar 0) (mC (.int 4))) mNil))))))))
noncomputable def F__law_kind_made : Ro → Re := runF 1 1 b__law_kind_made
section
variable {P : Program} {w : World} {K : PySem.W.Frag} {mg : Str → Option Value} {base : Heap}
theorem sc__law_kind_made : FnScope ["_law_one"] ["_law_one"] (defScope s__law_kind_made) := ⟨rfl, rfl, rfl, by decide +kernel, rfl, by decide +kernel, by decide +kernel⟩
theorem fn__law_kind_made (E : Env K mg w) {fd : FuncData} {dvs : List V} (F : FunD K "_law_kind_made" "_law_kind_made" (defArgs s__law_kind_made) (defBody s__law_kind_made) (defScope s__law_kind_made) dvs [] (He.ga K "_law_kind_made") fd) : FnOk P w K mg base CX0 6 (He.ga K "_law_kind_made") fd ["_law_one"] (spF K F__law_kind_made) := by
  refine F.ok sc__law_kind_made (fun vs H Q E h => spF_len h) (fun cdv A outer s H vs Q X hr h => ?_)
  have hu := hr.units
  exact body_ok (k := 1) (W := fun cls d _ H' => X cls d H') (g := b__law_kind_made) (PSs.nox (s_cons (s_if (m_tcmp (q_eq hu) oEq_ok (m_ix (k_ix K) oIx_ok (m_var 0) m_int (fun _ _ => rfl)) m_str (nomark _)) (s_one (s_ret (m_make E.mk_Still (ok_Still___init__ (K := K) E) (hr.mono (by decide)) E.g_Still (fun _ => pass0) (fun _ _ => .nil) (m_cons (m_ix (k_ix K) oIx_ok (m_var 0) m_int (fun _ _ => rfl)) (m_cons (m_ix (k_ix K) oIx_ok (m_var 0) m_int (fun _ _ => rfl)) (m_cons (m_ix (k_ix K) oIx_ok (m_var 0) m_int (fun _ _ => rfl)) m_nil)))))) s_nil)
      (s_cons (s_if (m_tcmp (q_eq hu) oEq_ok (m_ix (k_ix K) oIx_ok (m_var 0) m_int (fun _ _ => rfl)) m_str (nomark _)) (s_one (s_ret (m_make E.mk_Anew (ok_Anew___init__ (K := K) E) (hr.mono (by decide)) E.g_Anew (fun _ => pass0) (fun _ _ => .nil) (m_cons (m_ix (k_ix K) oIx_ok (m_var 0) m_int (fun _ _ => rfl)) (m_cons (m_ix (k_ix K) oIx_ok (m_var 0) m_int (fun _ _ => rfl)) (m_cons (m_ix (k_ix K) oIx_ok (m_var 0) m_int (fun _ _ => rfl)) m_nil)))))) s_nil)
      (s_one (s_ret (m_make E.mk_Lift (ok_Lift___init__ (K := K) E) (hr.mono (by decide)) E.g_Lift (fun _ => pass0) (fun _ _ => .nil) (m_cons (m_ix (k_ix K) oIx_ok (m_var 0) m_int (fun _ _ => rfl)) (m_cons (m_ix (k_ix K) oIx_ok (m_var 0) m_int (fun _ _ => rfl)) (m_cons (m_ix (k_ix K) oIx_ok (m_var 0) m_int (fun _ _ => rfl)) (m_cons (m_ix (k_ix K) oIx_ok (m_var 0) m_int (fun _ _ => rfl)) m_nil)))))))))) (by decide) (fun _ _ _ _ z => z) h
theorem ok__law_kind_made (E : Env K mg w) : Dn P w K mg base CX0 6 (He.ga K "_law_kind_made") [] (spF K F__law_kind_made) :=
  dn_of (ps := ["_law_one"]) E.f__law_kind_made (fun fd F => fn__law_kind_made E F) (fun _ _ _ _ _ _ us hl => match us, hl with | [_], _ => rfl)
end
end Tm

namespace Tm
open PySem PySem.Spec PyProof.Rows L2
local macro_rules | `(tactic| walk_at "mir") => `(tactic| simp only [ap_mVar, ap_mC, ap_mOp, ap_mUn, ap_mNil, ap_mCons, ap_mB, ap_mL, ap_mNotT, ap_mAndT, ap_mOrT, ap_mIf, ap_mYes, ap_mNoPart, ap_sNext, ap_sRet, ap_sExpr, ap_sAsg, ap_sIf, ap_sFor, ap_mCall, ap_mMake, ap_mCm, ap_mSl, ap_bind_ok, ap_lift, ap_seq, ap_mTst, ap_mAnd, ap_mOr, ap_mNot, ap_mChain, ap_mPart, ap_mSeqOf, ap_mSeqOfS, ap_mTxt, ap_mStar, ap_mMeth, ap_mEnum, ap_mLc, ap_mDc, ap_ite, ouE_ok, re_rt, re_nx, runF, outA, setIm, callV, mFldS, fK_name, fK_times, fK_days, fK_left, fK_by, fK_top, fR_length, fR_rests, fR_cap, fR_kinds, fR_names, ap_mJs, mJs_nil, sFldS, putN, Sl.any, Sl.tr, Sl.up, wipeO, resto, fTup, fLst, v_lt, v_le, v_gt, v_ge, v_sub, v_add, nix, if_true, if_false, ite_true, ite_false, reduceIte, Bool.false_eq_true, Bool.not_true, Bool.not_false, Bool.true_eq_false, Option.bind_some, Option.map_some, Option.bind_none, Option.map_none, List.map_cons, List.map_nil, List.cons_append, List.nil_append, List.append_nil, List.length_cons, List.length_nil, List.getElem?_cons_zero, List.getElem?_cons_succ, List.set_cons_zero, List.set_cons_succ, List.replicate_succ, List.replicate_zero, Nat.reduceAdd, Nat.reduceSub, Nat.reduceLeDiff, List.mapIdx_cons, List.mapIdx_nil, List.mem_cons, List.not_mem_nil, or_false, false_or, or_self, or_true, List.getD_cons_zero, List.getD_cons_succ, Nat.reduceEqDiff, Nat.zero_ne_one, Nat.one_ne_zero, reduceCtorEq, ap_sPar2, ap_sGive, ap_sOwnL, ap_setOw, ap_sApp, isL, ap_chL, ap_gTupM, ap_gTup0, ap_gTup, ap_mCallR, ap_callR, isO, ap_mOpS, ap_mLenS, ap_mPopS, ap_sParLN, notDeal, scaT, Option.isSome_some, seqT_lst, seqT_tup, true_and, and_true, Nat.reduceLT, Nat.lt_add_one, and_self])
local macro_rules | `(tactic| walk_at "js") => `(tactic| (rw [if_pos (by simp only [len_app]; omega)]; try walk_at "mir"))
local macro_rules | `(tactic| walk_at "mih") => `(tactic| simp only [ap_mVar, ap_mC, ap_mOp, ap_mUn, ap_mNil, ap_mCons, ap_mB, ap_mL, ap_mNotT, ap_mAndT, ap_mOrT, ap_mIf, ap_mYes, ap_mNoPart, ap_sNext, ap_sRet, ap_sExpr, ap_sAsg, ap_sIf, ap_sFor, ap_mCall, ap_mMake, ap_mCm, ap_mSl, ap_bind_ok, ap_lift, ap_seq, ap_mTst, ap_mAnd, ap_mOr, ap_mNot, ap_mChain, ap_mPart, ap_mSeqOf, ap_mSeqOfS, ap_mTxt, ap_mStar, ap_mMeth, ap_mEnum, ap_mLc, ap_mDc, ap_ite, ouE_ok, re_rt, re_nx, runF, outA, setIm, callV, mFldS, fK_name, fK_times, fK_days, fK_left, fK_by, fK_top, fR_length, fR_rests, fR_cap, fR_kinds, fR_names, ap_mJs, mJs_nil, sFldS, putN, Sl.any, Sl.tr, Sl.up, wipeO, resto, fTup, fLst, v_lt, v_le, v_gt, v_ge, v_sub, v_add, nix, if_true, if_false, ite_true, ite_false, reduceIte, Bool.false_eq_true, Bool.not_true, Bool.not_false, Bool.true_eq_false, Option.bind_some, Option.map_some, Option.bind_none, Option.map_none, List.map_cons, List.map_nil, List.cons_append, List.nil_append, List.append_nil, List.length_cons, List.length_nil, List.getElem?_cons_zero, List.getElem?_cons_succ, List.set_cons_zero, List.set_cons_succ, List.replicate_succ, List.replicate_zero, Nat.reduceAdd, Nat.reduceSub, Nat.reduceLeDiff, List.mapIdx_cons, List.mapIdx_nil, List.mem_cons, List.not_mem_nil, or_false, false_or, or_self, or_true, List.getD_cons_zero, List.getD_cons_succ, Nat.reduceEqDiff, Nat.zero_ne_one, Nat.one_ne_zero, reduceCtorEq, ap_sPar2, ap_sGive, ap_sOwnL, ap_setOw, ap_sApp, isL, ap_chL, ap_gTupM, ap_gTup0, ap_gTup, ap_mCallR, ap_callR, isO, ap_mOpS, ap_mLenS, ap_mPopS, ap_sParLN, notDeal, scaT, Option.isSome_some, seqT_lst, seqT_tup, true_and, and_true, Nat.reduceLT, Nat.lt_add_one, and_self, decide_true, decide_false, bLen_lst, bLen_tup, oSl_lst, oSl_tup, v_isN0, v_isNi, v_isNs, v_isNt, v_notN0, v_notNi, v_neg, v_int, v_tupL, v_tupT, v_eqs, v_nes, v_eqi, v_nei, *])
local macro_rules | `(tactic| walk_at "ro") => `(tactic| simp only [runF, List.length_cons, List.length_nil, Nat.reduceAdd, Nat.reduceSub, if_true, reduceIte, List.replicate_succ, List.replicate_zero, List.cons_append, List.nil_append, List.set_cons_zero, List.set_cons_succ])
section
theorem kind_ok {d : T} (g : Gd d) (z : Str) {most : Int} (m0 : 1 ≤ most) (m1 : most ≤ 10 ^ 18) : ∃ k d', Gd d' ∧ KdIn z most k ∧ F__law_kind [.rf d, .im (.str z), .im (.int most)] = .ok (toldT k) [.rf d', .im (.str z), .im (.int most)] := by
  obtain ⟨x1, d1, g1, h1, e1⟩ := pick_ok g (l := [.str "still", .str "anew", .str "lift"]) (by simp) (by decide)
  obtain ⟨x2, d2, g2, h2, e2⟩ := pick_ok g1 (l := [.int 1, .int 1, .int 2, .int 3, .non]) (by simp) (by decide)
  obtain ⟨v3, d3, g3, ⟨h3, h3'⟩, e3⟩ := draw_ok g2 (n := most) (by omega) (by omega)
  obtain ⟨v4, d4, g4, ⟨h4, h4'⟩, e4⟩ := draw_ok g3 (n := most) (by omega) (by omega)
  obtain ⟨fm, rfl⟩ : ∃ fm : Fm, x1 = .str fm.word := by
    simp only [List.mem_cons, List.not_mem_nil, or_false] at h1
    rcases h1 with rfl | rfl | rfl
    · exact ⟨.still, rfl⟩
    · exact ⟨.anew, rfl⟩
    · exact ⟨.lift, rfl⟩
  obtain ⟨tm, rfl, ht⟩ : ∃ tm : Option Int, x2 = tvT tm ∧ ∀ c, tm = some c → 1 ≤ c ∧ c ≤ 3 := by
    simp only [List.mem_cons, List.not_mem_nil, or_false] at h2
    rcases h2 with rfl | rfl | rfl | rfl | rfl
    · exact ⟨some 1, rfl, fun c hc => by cases hc; decide⟩
    · exact ⟨some 1, rfl, fun c hc => by cases hc; decide⟩
    · exact ⟨some 2, rfl, fun c hc => by cases hc; decide⟩
    · exact ⟨some 3, rfl, fun c hc => by cases hc; decide⟩
    · exact ⟨none, rfl, fun c hc => by cases hc⟩
  clear h1 h2
  by_cases hf : fm = .lift
  · subst hf
    have e5 : decide (Fm.lift.word = "lift") = true := by decide +kernel
    refine ⟨⟨.lift, z, 1 + v3, 1 + v4, tm⟩, d4, g4, ⟨rfl, by dsimp only; omega, by dsimp only; omega, fun _ => by dsimp only; omega, by dsimp only; omega, fun h => absurd rfl h, ht⟩, ?_⟩
    unfold F__law_kind b__law_kind
    walk_at "mih"
    rfl
  · have e5 : decide (fm.word = "lift") = false := by
      cases fm with
      | still => decide +kernel
      | anew => decide +kernel
      | lift => exact absurd rfl hf
    refine ⟨⟨fm, z, 1 + v3, 0, tm⟩, d3, g3, ⟨rfl, by dsimp only; omega, by dsimp only; omega, fun h => absurd h hf, by dsimp only; omega, fun _ => rfl, ht⟩, ?_⟩
    unfold F__law_kind b__law_kind
    walk_at "mih"
    rfl
/-- a told rule -/
def toldR (n : Int) (ns : List Int) (cap : Option Int) (ks : List Kd) : T := .tup [.int n, .lst (ns.map T.int), tvT cap, .lst (ks.map toldT)]
theorem F_kind_text {k : Kd} (ok : KdOk k) : F__law_kind_text [.im (toldT k)] = .ok (.str (kindS k)) [.im (toldT k)] := by
  have w0 : oIx (toldT k) (.int 0) = some (.str k.fm.word) := rfl
  have w1 : oIx (toldT k) (.int 1) = some (.str k.name) := rfl
  have w2 : oIx (toldT k) (.int 2) = some (.int k.a) := rfl
  have w3 : oIx (toldT k) (.int 3) = some (.int k.b) := rfl
  have w4 : oIx (toldT k) (.int 4) = some (tvT k.times) := rfl
  have a1 := bStr_num (by have := ok.a0; omega) ok.a1
  have ej := oJoin_map (a := " ") (ys := kindWs k) (Nat.le_trans (kindWs_sum ok) (by decide))
  obtain ⟨fm, nm, a, b, tm⟩ := k
  have h3 := ok.t0
  have h4 := ok.bl
  have h5 := ok.b1
  dsimp only at w0 w1 w2 w3 w4 a1 h3 h4 h5
  unfold kindWs at ej
  have cat : ∀ l m : List T, l.length + m.length ≤ 1000000 → oAdd (.lst l) (.lst m) = some (.lst (l ++ m)) := fun l m h => by
    show (if l.length + m.length ≤ 1000000 then some (T.lst (l ++ m)) else none) = _
    rw [if_pos h]
  have c1 : ∀ a b c d : T, oAdd (.lst [a, b, c]) (.lst [d]) = some (.lst [a, b, c, d]) := fun a b c d => cat _ _ (by simp)
  have c2 : ∀ a b c : T, oAdd (.lst [a, b, c]) (.lst []) = some (.lst [a, b, c]) := fun a b c => cat _ _ (by simp)
  have c3 : ∀ a b c d e : T, oAdd (.lst [a, b, c, d]) (.lst [e]) = some (.lst [a, b, c, d, e]) := fun a b c d e => cat _ _ (by simp)
  clear cat
  have hm : ∀ c, tm = some c → bStr [.int c] = some (.str (manyS (some c))) := fun c hc => bStr_num (by have := h3 c hc; omega) (h3 c hc).2
  clear h3
  by_cases hf : fm = .lift
  · subst hf
    have e5 : decide (Fm.lift.word = "lift") = true := by decide +kernel
    have b1 := bStr_num (n := b) (by have := h4 rfl; omega) h5
    rw [if_pos rfl] at ej
    cases tm with
    | none =>
      have ej : oJoin (.str " ") (.lst [.str Fm.lift.word, .str nm, .str (numS a), .str (numS b), .str "any"]) = some (.str (kindS ⟨.lift, nm, a, b, none⟩)) := ej
      have t1 : tvT none = .non := rfl
      rw [t1] at w4
      unfold F__law_kind_text b__law_kind_text
      walk_at "mih"
    | some c =>
      have ej : oJoin (.str " ") (.lst [.str Fm.lift.word, .str nm, .str (numS a), .str (numS b), .str (manyS (some c))]) = some (.str (kindS ⟨.lift, nm, a, b, some c⟩)) := ej
      have hm := hm c rfl
      have t1 : tvT (some c) = .int c := rfl
      rw [t1] at w4
      unfold F__law_kind_text b__law_kind_text
      walk_at "mih"
  · have e5 : decide (fm.word = "lift") = false := by
      cases fm with
      | still => decide +kernel
      | anew => decide +kernel
      | lift => exact absurd rfl hf
    rw [if_neg hf] at ej
    cases tm with
    | none =>
      have ej : oJoin (.str " ") (.lst [.str fm.word, .str nm, .str (numS a), .str "any"]) = some (.str (kindS ⟨fm, nm, a, b, none⟩)) := by
        unfold kindS kindWs
        rw [if_neg hf]
        exact ej
      have t1 : tvT none = .non := rfl
      rw [t1] at w4
      clear hf
      unfold F__law_kind_text b__law_kind_text
      walk_at "mih"
    | some c =>
      have ej : oJoin (.str " ") (.lst [.str fm.word, .str nm, .str (numS a), .str (manyS (some c))]) = some (.str (kindS ⟨fm, nm, a, b, some c⟩)) := by
        unfold kindS kindWs
        rw [if_neg hf]
        exact ej
      have hm := hm c rfl
      have t1 : tvT (some c) = .int c := rfl
      rw [t1] at w4
      clear hf
      unfold F__law_kind_text b__law_kind_text
      walk_at "mih"
theorem F_made_law {k : Kd} (ok : KdOk k) : F__law_kind_made [.im (toldT k)] = .ok (kindT k) [.im (toldT k)] := by
  have w0 : oIx (toldT k) (.int 0) = some (.str k.fm.word) := rfl
  have w1 : oIx (toldT k) (.int 1) = some (.str k.name) := rfl
  have w2 : oIx (toldT k) (.int 2) = some (.int k.a) := rfl
  have w3 : oIx (toldT k) (.int 3) = some (.int k.b) := rfl
  have w4 : oIx (toldT k) (.int 4) = some (tvT k.times) := rfl
  obtain ⟨fm, nm, a, b, tm⟩ := k
  have h1 := ok.nm
  have h2 := ok.a0
  have h3 : ∀ c, tm = some c → 1 ≤ c := fun c h => (ok.t0 c h).1
  dsimp only at w0 w1 w2 w3 w4 h1 h2
  cases fm with
  | still =>
    have hb : b = 0 := ok.bn (fun z => by cases z)
    subst hb
    have m := fun ρ => mk_still ρ h1 h2 h3
    have e1 : decide (Fm.still.word = "still") = true := by decide +kernel
    unfold F__law_kind_made b__law_kind_made
    walk_at "mih"
  | anew =>
    have hb : b = 0 := ok.bn (fun z => by cases z)
    subst hb
    have m := fun ρ => mk_anew ρ h1 h2 h3
    have e1 : decide (Fm.anew.word = "still") = false := by decide +kernel
    have e2 : decide (Fm.anew.word = "anew") = true := by decide +kernel
    unfold F__law_kind_made b__law_kind_made
    walk_at "mih"
  | lift =>
    have h4 := ok.bl rfl
    have m := fun ρ => mk_lift ρ h1 h2 h4 h3
    have e1 : decide (Fm.lift.word = "still") = false := by decide +kernel
    have e2 : decide (Fm.lift.word = "anew") = false := by decide +kernel
    unfold F__law_kind_made b__law_kind_made
    walk_at "mih"
theorem ne_ints (ns : List Int) : oNe (.lst (ns.map T.int)) (.lst []) = some (.bl (!ns.isEmpty)) := by
  rw [ne_nil fun t ht => by
    obtain ⟨i, _, rfl⟩ := List.mem_map.mp ht
    exact DT.int i]
  cases ns <;> rfl
theorem F_text {n : Int} {ns : List Int} {cap : Option Int} {ks : List Kd} (ok : HdOk n ns cap) (kk : ∀ k ∈ ks, KdOk k) (kl : ks.length ≤ 100) : F__law_text [.im (toldR n ns cap ks)] = .ok (.str (textS n ns cap ks)) [.im (toldR n ns cap ks)] := by
  obtain ⟨r1, r2⟩ := restS_len ok.rl ok.rb
  have n3 := capS_len ok.c0
  have h0 := ok.l0
  have h1 := ok.l1
  have n1 := numS_len (n := n) (by omega) h1
  have l1 : ("term " : Str).length = 5 := by decide +kernel
  have l2 : (" rests " : Str).length = 7 := by decide +kernel
  have l3 : (" cap " : Str).length = 5 := by decide +kernel
  have w0 : oIx (toldR n ns cap ks) (.int 0) = some (.int n) := rfl
  have w1 : oIx (toldR n ns cap ks) (.int 1) = some (.lst (ns.map T.int)) := rfl
  have w2 : oIx (toldR n ns cap ks) (.int 2) = some (tvT cap) := rfl
  have w3 : oIx (toldR n ns cap ks) (.int 3) = some (.lst (ks.map toldT)) := rfl
  have e0 := ne_ints ns
  unfold F__law_text b__law_text
  walk_at "ro"
  refine Eq.trans (congrArg (reA _) (asg_im (t := .str (restS ns)) ?_ rfl)) ?_
  · by_cases he : ns = []
    · have e1 : (!ns.isEmpty) = false := by rw [he]; rfl
      have e2 : restS ns = "none" := by
        unfold restS
        rw [if_pos he]
      rw [e2]
      rw [e1] at e0
      clear he e2 e1
      walk_at "mih"
    · have e1 : (!ns.isEmpty) = true := by
        cases ns with
        | nil => exact absurd rfl he
        | cons i l => rfl
      rw [e1] at e0
      have e2 : restS ns = Txt.join " " (ns.map numS) := by
        unfold restS
        rw [if_neg he]
      have e3 : lcL [3] (setIm 3) mYes (mB bStr (mCons (mVar 3) mNil)) (ns.map T.int) [] [Sl.im (toldR n ns cap ks), Sl.un, Sl.un, Sl.un] = .ok (ns.map fun n => T.str (numS n)) [Sl.im (toldR n ns cap ks), Sl.un, Sl.un, Sl.un] := lcL_of T.int (fun n => T.str (numS n)) ns (by have := ok.rl; omega) fun i hi => by
        have hs := bStr_num (ok.rb i hi).1 (by have := ok.rb i hi; omega)
        exact ⟨_, rfl, [Sl.im (toldR n ns cap ks), Sl.un, Sl.un, .im (.int i)], by walk_at "mih", rfl⟩
      have e4 := oJoin_map r2
      rw [List.map_map] at e4
      have e4 : oJoin (.str " ") (.lst (ns.map fun n => T.str (numS n))) = _ := e4
      walk_at "mih"
  have as : ∀ i j : Str, i.length + j.length ≤ 1000000 → oAdd (.str i) (.str j) = some (.str (i ++ j)) := fun i j h => by
    show ((if i.length + j.length ≤ 1000000 then some (T.str (i ++ j)) else none).or none) = _
    rw [if_pos h]
    rfl
  have s0 := bStr_num (n := n) (by omega) h1
  have s1 := as "term " (numS n) (by omega)
  have s2 := as ("term " ++ numS n) " rests " (by rw [len_app]; omega)
  have s3 := as ("term " ++ numS n ++ " rests ") (restS ns) (by rw [len_app, len_app]; omega)
  have s4 := as ("term " ++ numS n ++ " rests " ++ restS ns) " cap " (by rw [len_app, len_app, len_app]; omega)
  have s5 := as ("term " ++ numS n ++ " rests " ++ restS ns ++ " cap ") (capS cap) (by rw [len_app, len_app, len_app, len_app]; omega)
  have hh : "term " ++ numS n ++ " rests " ++ restS ns ++ " cap " ++ capS cap = headS n ns cap := by
    rw [← Head_text]
    refine joins_eq ?_
    simp only [TL.tl_append]
    rfl
  rw [hh] at s5
  clear as hh
  refine Eq.trans (congrArg (reA _) (asg_im (t := .str (headS n ns cap)) ?_ rfl)) ?_
  · have h3 := ok.c0
    cases hc : cap with
    | none =>
      rw [hc] at s5 w2 w0
      have e1 : tvT none = .non := rfl
      have s5 : oAdd _ (.str "none") = _ := s5
      rw [e1] at w2
      clear e0
      walk_at "mih"
    | some c =>
      rw [hc] at s5 w2 w0
      have e1 : tvT (some c) = .int c := rfl
      have e2 : bStr [.int c] = some (.str (capS (some c))) := bStr_num (by have := h3 c hc; omega) (h3 c hc).2
      rw [e1] at w2
      clear e0
      walk_at "mih"
  have e2 : lcL [3] (setIm 3) mYes (mCall F__law_kind_text [] (mCons (mVar 3) mNil)) (ks.map toldT) [] [Sl.im (toldR n ns cap ks), .im (.str (restS ns)), .im (.str (headS n ns cap)), Sl.un] = .ok (ks.map fun k => T.str (kindS k)) [Sl.im (toldR n ns cap ks), .im (.str (restS ns)), .im (.str (headS n ns cap)), Sl.un] := lcL_of toldT (fun n => T.str (kindS n)) ks (by omega) fun i hi => by
    have hs := F_kind_text (kk i hi)
    exact ⟨_, rfl, [Sl.im (toldR n ns cap ks), .im (.str (restS ns)), .im (.str (headS n ns cap)), .im (toldT i)], by walk_at "mih", rfl⟩
  have e3 := oJoin_map (a := "\n") (ys := headS n ns cap :: ks.map kindS) (Nat.le_trans (lines_sum ok kk kl) (by decide))
  rw [List.map_cons, List.map_map] at e3
  have e3 : oJoin (.str "\n") (.lst (T.str (headS n ns cap) :: ks.map fun k => T.str (kindS k))) = some (.str (textS n ns cap ks)) := e3
  have e4 : oAdd (.lst [.str (headS n ns cap)]) (.lst (ks.map fun k => T.str (kindS k))) = some (.lst (T.str (headS n ns cap) :: ks.map fun k => T.str (kindS k))) := by
    show (if [T.str (headS n ns cap)].length + (ks.map fun k => T.str (kindS k)).length ≤ 1000000 then some (T.lst _) else none) = _
    rw [if_pos (by simp; omega)]
    rfl
  clear e0
  walk_at "mih"
end

end Tm

namespace Tm
open PySem PySem.Spec PyProof.Rows L2
local macro_rules | `(tactic| walk_at "mir") => `(tactic| simp only [ap_mVar, ap_mC, ap_mOp, ap_mUn, ap_mNil, ap_mCons, ap_mB, ap_mL, ap_mNotT, ap_mAndT, ap_mOrT, ap_mIf, ap_mYes, ap_mNoPart, ap_sNext, ap_sRet, ap_sExpr, ap_sAsg, ap_sIf, ap_sFor, ap_mCall, ap_mMake, ap_mCm, ap_mSl, ap_bind_ok, ap_lift, ap_seq, ap_mTst, ap_mAnd, ap_mOr, ap_mNot, ap_mChain, ap_mPart, ap_mSeqOf, ap_mSeqOfS, ap_mTxt, ap_mStar, ap_mMeth, ap_mEnum, ap_mLc, ap_mDc, ap_ite, ouE_ok, re_rt, re_nx, runF, outA, setIm, callV, mFldS, fK_name, fK_times, fK_days, fK_left, fK_by, fK_top, fR_length, fR_rests, fR_cap, fR_kinds, fR_names, ap_mJs, mJs_nil, sFldS, putN, Sl.any, Sl.tr, Sl.up, wipeO, resto, fTup, fLst, v_lt, v_le, v_gt, v_ge, v_sub, v_add, nix, if_true, if_false, ite_true, ite_false, reduceIte, Bool.false_eq_true, Bool.not_true, Bool.not_false, Bool.true_eq_false, Option.bind_some, Option.map_some, Option.bind_none, Option.map_none, List.map_cons, List.map_nil, List.cons_append, List.nil_append, List.append_nil, List.length_cons, List.length_nil, List.getElem?_cons_zero, List.getElem?_cons_succ, List.set_cons_zero, List.set_cons_succ, List.replicate_succ, List.replicate_zero, Nat.reduceAdd, Nat.reduceSub, Nat.reduceLeDiff, List.mapIdx_cons, List.mapIdx_nil, List.mem_cons, List.not_mem_nil, or_false, false_or, or_self, or_true, List.getD_cons_zero, List.getD_cons_succ, Nat.reduceEqDiff, Nat.zero_ne_one, Nat.one_ne_zero, reduceCtorEq, ap_sPar2, ap_sGive, ap_sOwnL, ap_setOw, ap_sApp, isL, ap_chL, ap_gTupM, ap_gTup0, ap_gTup, ap_mCallR, ap_callR, isO, ap_mOpS, ap_mLenS, ap_mPopS, ap_sParLN, notDeal, scaT, Option.isSome_some, seqT_lst, seqT_tup, true_and, and_true, Nat.reduceLT, Nat.lt_add_one, and_self])
local macro_rules | `(tactic| walk_at "js") => `(tactic| (rw [if_pos (by simp only [len_app]; omega)]; try walk_at "mir"))
local macro_rules | `(tactic| walk_at "mih") => `(tactic| simp only [ap_mVar, ap_mC, ap_mOp, ap_mUn, ap_mNil, ap_mCons, ap_mB, ap_mL, ap_mNotT, ap_mAndT, ap_mOrT, ap_mIf, ap_mYes, ap_mNoPart, ap_sNext, ap_sRet, ap_sExpr, ap_sAsg, ap_sIf, ap_sFor, ap_mCall, ap_mMake, ap_mCm, ap_mSl, ap_bind_ok, ap_lift, ap_seq, ap_mTst, ap_mAnd, ap_mOr, ap_mNot, ap_mChain, ap_mPart, ap_mSeqOf, ap_mSeqOfS, ap_mTxt, ap_mStar, ap_mMeth, ap_mEnum, ap_mLc, ap_mDc, ap_ite, ouE_ok, re_rt, re_nx, runF, outA, setIm, callV, mFldS, fK_name, fK_times, fK_days, fK_left, fK_by, fK_top, fR_length, fR_rests, fR_cap, fR_kinds, fR_names, ap_mJs, mJs_nil, sFldS, putN, Sl.any, Sl.tr, Sl.up, wipeO, resto, fTup, fLst, v_lt, v_le, v_gt, v_ge, v_sub, v_add, nix, if_true, if_false, ite_true, ite_false, reduceIte, Bool.false_eq_true, Bool.not_true, Bool.not_false, Bool.true_eq_false, Option.bind_some, Option.map_some, Option.bind_none, Option.map_none, List.map_cons, List.map_nil, List.cons_append, List.nil_append, List.append_nil, List.length_cons, List.length_nil, List.getElem?_cons_zero, List.getElem?_cons_succ, List.set_cons_zero, List.set_cons_succ, List.replicate_succ, List.replicate_zero, Nat.reduceAdd, Nat.reduceSub, Nat.reduceLeDiff, List.mapIdx_cons, List.mapIdx_nil, List.mem_cons, List.not_mem_nil, or_false, false_or, or_self, or_true, List.getD_cons_zero, List.getD_cons_succ, Nat.reduceEqDiff, Nat.zero_ne_one, Nat.one_ne_zero, reduceCtorEq, ap_sPar2, ap_sGive, ap_sOwnL, ap_setOw, ap_sApp, isL, ap_chL, ap_gTupM, ap_gTup0, ap_gTup, ap_mCallR, ap_callR, isO, ap_mOpS, ap_mLenS, ap_mPopS, ap_sParLN, notDeal, scaT, Option.isSome_some, seqT_lst, seqT_tup, true_and, and_true, Nat.reduceLT, Nat.lt_add_one, and_self, decide_true, decide_false, bLen_lst, bLen_tup, oSl_lst, oSl_tup, v_isN0, v_isNi, v_isNs, v_isNt, v_notN0, v_notNi, v_neg, v_int, v_tupL, v_tupT, v_eqs, v_nes, v_eqi, v_nei, *])
local macro_rules | `(tactic| walk_at "ro") => `(tactic| simp only [runF, List.length_cons, List.length_nil, Nat.reduceAdd, Nat.reduceSub, if_true, reduceIte, List.replicate_succ, List.replicate_zero, List.cons_append, List.nil_append, List.set_cons_zero, List.set_cons_succ])
section
theorem lcL_filt {α : Type} {vs : List Nat} {g : T → Sv} {tt : Ev Bool} {te : Ev T} {ρ : Ro} (f : α → T) (b : α → Bool) (xs : List α) (hl : xs.length ≤ 1000000)
    (k : ∀ x ∈ xs, ∃ ρ1, g (f x) ρ = .nx ρ1 ∧ tt ρ1 = .ok (b x) ρ1 ∧ te ρ1 = .ok (f x) ρ1 ∧ wipeO vs ρ1 = some ρ) : lcL vs g tt te (xs.map f) [] ρ = .ok ((xs.filter b).map f) ρ := by
  have key : ∀ (l acc : List α), acc.length + l.length ≤ 1000000 → (∀ x ∈ l, ∃ ρ1, g (f x) ρ = .nx ρ1 ∧ tt ρ1 = .ok (b x) ρ1 ∧ te ρ1 = .ok (f x) ρ1 ∧ wipeO vs ρ1 = some ρ) → lcL vs g tt te (l.map f) (acc.map f) ρ = .ok ((acc ++ l.filter b).map f) ρ := by
    intro l
    induction l with
    | nil =>
      intro acc _ _
      rw [List.filter_nil, List.append_nil]
      rfl
    | cons x l ih =>
      intro acc hl hk
      have hl' : acc.length + l.length + 1 ≤ 1000000 := by simpa [Nat.add_assoc] using hl
      obtain ⟨ρ1, e1, e2, e3, e4⟩ := hk x (List.mem_cons_self ..)
      rw [List.map_cons]
      unfold lcL
      rw [e1]
      dsimp only
      rw [e2]
      cases hb : b x with
      | true =>
        dsimp only
        rw [e3]
        dsimp only
        rw [e4]
        dsimp only
        rw [List.length_map, if_pos (by omega)]
        have := ih (acc ++ [x]) (by simp; omega) (fun m hm => hk m (List.mem_cons_of_mem _ hm))
        rw [List.append_assoc, List.map_append] at this
        rw [List.filter_cons_of_pos hb]
        exact this
      | false =>
        dsimp only
        rw [e4]
        dsimp only
        rw [List.filter_cons_of_neg (by simp [hb])]
        exact ih acc (by omega) (fun m hm => hk m (List.mem_cons_of_mem _ hm))
  exact key xs [] (by simpa using hl) k
theorem DT_told {k : Kd} (h : nameB k.name = true) : DT (toldT k) := by
  have hw : PyData.strOk k.fm.word = true := by cases k.fm <;> decide +kernel
  have hn := name_strOk h
  unfold toldT
  cases k.times with
  | none => exact ⟨_, rfl, (dok_tup (n := 0) fun d hd => by
      simp only [List.mem_cons, List.not_mem_nil, or_false] at hd
      rcases hd with rfl | rfl | rfl | rfl | rfl
      · exact dok_str hw
      · exact dok_str hn
      · exact dok_int _
      · exact dok_int _
      · exact dok_non).up (by decide)⟩
  | some c => exact ⟨_, rfl, (dok_tup (n := 0) fun d hd => by
      simp only [List.mem_cons, List.not_mem_nil, or_false] at hd
      rcases hd with rfl | rfl | rfl | rfl | rfl
      · exact dok_str hw
      · exact dok_str hn
      · exact dok_int _
      · exact dok_int _
      · exact dok_int _).up (by decide)⟩
theorem lc_kinds (a1 a3 a4 a5 a6 a7 a9 : Sl) {most : Int} (m0 : 1 ≤ most) (m1 : most ≤ 10 ^ 18) : ∀ (zs : List Str) (acc : List Kd) (d : T), Gd d → acc.length + zs.length ≤ 1000 → ∃ (ks : List Kd) (d' : T), Gd d' ∧ (ks.map (·.name) = zs ∧ ∀ k ∈ ks, KdIn k.name most k) ∧ lcL [8] (setIm 8) mYes (mCallR 0 F__law_kind [] (mCons (mVar 8) (mCons (mVar 2) mNil))) (zs.map T.str) (acc.map toldT) [.rf d, a1, .im (.int most), a3, a4, a5, a6, a7, .un, a9] = .ok ((acc ++ ks).map toldT) [.rf d', a1, .im (.int most), a3, a4, a5, a6, a7, .un, a9] := by
  intro zs
  induction zs with
  | nil =>
    intro acc d g _
    refine ⟨[], d, g, ⟨rfl, fun _ h => by cases h⟩, ?_⟩
    rw [List.append_nil]
    rfl
  | cons z zs ih =>
    intro acc d g hl
    have hl' : acc.length + zs.length + 1 ≤ 1000 := by simpa [Nat.add_assoc] using hl
    obtain ⟨k, d1, g1, hk, e1⟩ := kind_ok g z m0 m1
    obtain ⟨ks, d2, g2, ⟨h1, h2⟩, e2⟩ := ih (acc ++ [k]) d1 g1 (by simp; omega)
    refine ⟨k :: ks, d2, g2, ⟨by rw [List.map_cons, h1, hk.nm], ?_⟩, ?_⟩
    · intro x hx
      rcases List.mem_cons.mp hx with rfl | hx
      · exact hk.nm ▸ hk
      · exact h2 x hx
    · rw [List.append_assoc, List.map_append] at e2
      rw [List.map_cons]
      unfold lcL
      clear ih h1 h2 hk
      have h3 : (acc.map toldT).length < 1000000 := by rw [List.length_map]; omega
      walk_at "mir"
      rw [e1]
      walk_at "mir"
      rw [if_pos h3]
      exact e2
theorem rule_ok {d : T} (g : Gd d) {many : Nat} {most : Int} (hm : many ≤ 100) (m0 : 1 ≤ most) (m1 : most ≤ 10 ^ 18) : ∃ (n : Int) (ns : List Int) (cap : Option Int) (ks : List Kd) (d' : T), Gd d' ∧ RlIn many most n ns cap ks ∧ F__law_rule [.rf d, .im (.int many), .im (.int most)] = .ok (toldR n ns cap ks) [.rf d', .im (.int many), .im (.int most)] := by
  -- the rests
  have r0 : bListRg [.int 7] = some (.lst (([0, 1, 2, 3, 4, 5, 6] : List Int).map T.int)) := rfl
  obtain ⟨m, d1, g1, p1, e1⟩ := mixed_ok g true (l := ([0, 1, 2, 3, 4, 5, 6] : List Int).map T.int) (by decide) (fun t ht => by
    obtain ⟨i, _, rfl⟩ := List.mem_map.mp ht
    exact DT.int i)
  obtain ⟨ms, rfl, pp⟩ := ints_permT p1
  have e1 : F__law_mixed [.rf d, .im (.lst (([0, 1, 2, 3, 4, 5, 6] : List Int).map T.int))] = .ok (.lst (ms.map T.int)) [.rf d1, .im (.lst (([0, 1, 2, 3, 4, 5, 6] : List Int).map T.int))] := e1
  obtain ⟨x2, d2, g2, h2, e2⟩ := pick_ok g1 (l := [.int 0, .int 0, .int 1, .int 2, .int 2, .int 4]) (by simp) (by decide)
  obtain ⟨v2, rfl, v20, v21⟩ : ∃ v : Int, x2 = .int v ∧ 0 ≤ v ∧ v ≤ 4 := by
    simp only [List.mem_cons, List.not_mem_nil, or_false] at h2
    rcases h2 with rfl | rfl | rfl | rfl | rfl | rfl <;> exact ⟨_, rfl, by decide, by decide⟩
  have c1 := cutT_take (ms.map T.int) v2 v20
  rw [← List.map_take] at c1
  have lc1 : ∀ a1 a2 a3 a4 a5 a6 a7 a8 : Sl, lcL [9] (setIm 9) mYes (mB bInt (mCons (mVar 9) mNil)) ((ms.take v2.toNat).map T.int) [] [.rf d2, a1, a2, a3, a4, a5, a6, a7, a8, .un] = .ok ((ms.take v2.toNat).map T.int) [.rf d2, a1, a2, a3, a4, a5, a6, a7, a8, .un] := fun a1 a2 a3 a4 a5 a6 a7 a8 => lcL_of T.int T.int _ (by rw [List.length_take]; omega) fun i _ => ⟨[.rf d2, a1, a2, a3, a4, a5, a6, a7, a8, .im (.int i)], rfl, _, rfl, rfl⟩
  have s1 := bSrtI_map (ms.take v2.toNat)
  have nsP : (srtI (ms.take v2.toNat)).Perm (ms.take v2.toNat) := List.mergeSort_perm _ _
  have nsS : (srtI (ms.take v2.toNat)).Pairwise (· ≤ ·) := by
    have := List.pairwise_mergeSort (le := fun a b : Int => decide (a ≤ b)) (fun a b c h1 h2 => by simp at *; omega) (fun a b => by simp; omega) (ms.take v2.toNat)
    exact this.imp fun h => by simpa using h
  -- the cap
  obtain ⟨v3, d3, g3, ⟨h3, h3'⟩, e3⟩ := draw_ok g2 (n := 3 * most) (by omega) (by omega)
  obtain ⟨x4, d4, g4, h4, e4⟩ := pick_ok g3 (l := [.non, .non, .non, .int (1 + v3)]) (by simp) (by simp)
  obtain ⟨hi, rfl, hh⟩ : ∃ hi : Option Int, x4 = tvT hi ∧ ∀ c, hi = some c → 1 ≤ c ∧ c ≤ 3 * most := by
    simp only [List.mem_cons, List.not_mem_nil, or_false] at h4
    rcases h4 with rfl | rfl | rfl | rfl
    · exact ⟨none, rfl, fun c hc => by cases hc⟩
    · exact ⟨none, rfl, fun c hc => by cases hc⟩
    · exact ⟨none, rfl, fun c hc => by cases hc⟩
    · exact ⟨some (1 + v3), rfl, fun c hc => by cases hc; omega⟩
  have mu : oMul (.int 3) (.int most) = some (.int (3 * most)) := by
    show (if cMul 3 most = true then some (T.int (3 * most)) else none) = _
    rw [if_pos (by unfold cMul; rw [decide_eq_true (by decide)]; rfl)]
  -- the names
  obtain ⟨v5, d5, g5, ⟨h5, h5'⟩, e5⟩ := draw_ok g4 (n := (many : Int) + 1) (by omega) (by omega)
  obtain ⟨zs, d6, g6, ⟨z1, z2, z3⟩, e6⟩ := names_ok g5 (v := v5) h5
  obtain ⟨v7, d7, g7, ⟨h7, h7'⟩, e7⟩ := draw_ok g6 (n := most) (by omega) (by omega)
  -- the kinds
  obtain ⟨ks, d8, g8, ⟨k1, k2⟩, e8⟩ := lc_kinds (.im (.int many)) (.im (.lst ((srtI (ms.take v2.toNat)).map T.int))) (.im (tvT hi)) .un (.im (.lst (zs.map T.str))) (.im (.int (1 + v7))) .un m0 m1 zs [] d7 g7 (by simp; omega)
  rw [List.nil_append, List.map_nil] at e8
  have kl : ks.length = zs.length := by rw [← k1, List.length_map]
  have ka : ∀ k ∈ ks, k.name ∈ namesA := fun k hk => z2 _ (k1 ▸ List.mem_map_of_mem hk)
  have fl : ∀ a1 a2 a3 a4 a5 a6 a7 a8 : Sl, lcL [9] (setIm 9) (mTst (mOp oIsN (mOp oIx (mVar 9) (mC (.int 4))) (mC .non))) (mVar 9) (ks.map toldT) [] [.rf d8, a1, a2, a3, a4, a5, a6, a7, a8, .un] = .ok ((ks.filter fun k => decide (k.times = none)).map toldT) [.rf d8, a1, a2, a3, a4, a5, a6, a7, a8, .un] := fun a1 a2 a3 a4 a5 a6 a7 a8 => lcL_filt toldT _ ks (by omega) fun k _ => by
    refine ⟨[.rf d8, a1, a2, a3, a4, a5, a6, a7, a8, .im (toldT k)], rfl, ?_, rfl, rfl⟩
    have w4 : oIx (toldT k) (.int 4) = some (tvT k.times) := rfl
    cases ht : k.times with
    | none =>
      rw [ht] at w4
      have t1 : tvT none = .non := rfl
      rw [t1] at w4
      walk_at "mih"
    | some c =>
      rw [ht] at w4
      have t1 : tvT (some c) = .int c := rfl
      rw [t1] at w4
      walk_at "mih"
  have nn := ne_nil (l := (ks.filter fun k => decide (k.times = none)).map toldT) fun t ht => by
    obtain ⟨k, hk, rfl⟩ := List.mem_map.mp ht
    exact DT_told (namesA_ok _ (ka k (List.mem_filter.mp hk).1))
  have base : ∀ cap : Option Int, (∀ c, cap = some c → 1 ≤ c ∧ c ≤ 3 * most) → (∀ c k, cap = some c → k ∈ ks → k.times = none → c ≤ 1 + v7 + 200) → RlIn many most (1 + v7) (srtI (ms.take v2.toNat)) cap ks := fun cap q1 q2 => by
    refine ⟨by omega, by omega, ?_, ?_, ?_, nsS, q1, q2, by omega, k1 ▸ z1, ka, k2⟩
    · rw [nsP.length_eq, List.length_take]
      omega
    · intro i hi
      have := pp.mem_iff.mp (List.mem_of_mem_take (nsP.mem_iff.mp hi))
      simp only [List.mem_cons, List.not_mem_nil, or_false] at this
      omega
    · refine nsP.nodup_iff.mpr ((pp.nodup_iff.mpr (by decide)).sublist (List.take_sublist _ _))
  simp only [List.map_cons, List.map_nil] at r0 e1
  clear h2 h4 p1 pp nsP nsS z1 z2 k1 k2
  cases hi with
  | none =>
    have t1 : tvT none = .non := rfl
    rw [t1] at e4 e8
    refine ⟨1 + v7, srtI (ms.take v2.toNat), none, ks, d8, g8, base none (fun c hc => by cases hc) (fun c k hc => by cases hc), ?_⟩
    clear base
    unfold F__law_rule b__law_rule
    walk_at "mih"
    rfl
  | some c =>
    obtain ⟨c0, c1'⟩ := hh c rfl
    have t1 : tvT (some c) = .int c := rfl
    rw [t1] at e4 e8
    have mi : bMin [.int c, .int (1 + v7 + 200)] = some (.int (if 1 + v7 + 200 < c then 1 + v7 + 200 else c)) := rfl
    cases hf : ((ks.filter fun k => decide (k.times = none)).map toldT).isEmpty with
    | true =>
      rw [hf] at nn
      refine ⟨1 + v7, srtI (ms.take v2.toNat), some c, ks, d8, g8, base (some c) hh (fun c' k hc hk ht => ?_), ?_⟩
      · have e := List.isEmpty_iff.mp hf
        rw [List.map_eq_nil_iff, List.filter_eq_nil_iff] at e
        exact absurd (decide_eq_true ht) (e k hk)
      · clear base hf
        unfold F__law_rule b__law_rule
        walk_at "mih"
        rfl
    | false =>
      rw [hf] at nn
      refine ⟨1 + v7, srtI (ms.take v2.toNat), some (if 1 + v7 + 200 < c then 1 + v7 + 200 else c), ks, d8, g8, base _ (fun c' hc => ?_) (fun c' k hc hk ht => ?_), ?_⟩
      · cases hc
        split <;> omega
      · cases hc
        split <;> omega
      · clear base hf
        unfold F__law_rule b__law_rule
        walk_at "mih"
        rfl
end

end Tm

namespace Tm
open PySem PySem.Spec PyProof.Rows L2
noncomputable def tbKE : List (Str × (Ro → Re) × List Str) := [("Still", F_Kind___eq__, ["Still", "Anew", "Lift"]), ("Anew", F_Kind___eq__, ["Still", "Anew", "Lift"]), ("Lift", F_Kind___eq__, ["Still", "Anew", "Lift"])]
theorem tbKE_ok {K : PySem.W.Frag} {X : Cx} (E : Env K X.mg X.w) (hr : Room 6 X.A) (hK : X.K = K := by rfl) : ∀ q ∈ tbKE, EqOk X K 1 q := by
  subst hK
  intro q hq
  simp only [tbKE, List.mem_cons, List.not_mem_nil, or_false] at hq
  rcases hq with rfl | rfl | rfl
  · refine ⟨⟨_, _, spmB_ok E.q_Still, ok_Kind___eq__ E, hr.mono (by decide)⟩, neB_ok E.n_Still, E.nb_Still, fun D hD => ?_⟩
    simp only [List.mem_cons, List.not_mem_nil, or_false] at hD
    rcases hD with rfl | rfl | rfl
    · exact ⟨⟨ownB_ok E.o_Still, E.cl_Still⟩, E.nf_Still_Still⟩
    · exact ⟨⟨ownB_ok E.o_Anew, E.cl_Anew⟩, E.nf_Still_Anew⟩
    · exact ⟨⟨ownB_ok E.o_Lift, E.cl_Lift⟩, E.nf_Still_Lift⟩
  · refine ⟨⟨_, _, spmB_ok E.q_Anew, ok_Kind___eq__ E, hr.mono (by decide)⟩, neB_ok E.n_Anew, E.nb_Anew, fun D hD => ?_⟩
    simp only [List.mem_cons, List.not_mem_nil, or_false] at hD
    rcases hD with rfl | rfl | rfl
    · exact ⟨⟨ownB_ok E.o_Still, E.cl_Still⟩, E.nf_Anew_Still⟩
    · exact ⟨⟨ownB_ok E.o_Anew, E.cl_Anew⟩, E.nf_Anew_Anew⟩
    · exact ⟨⟨ownB_ok E.o_Lift, E.cl_Lift⟩, E.nf_Anew_Lift⟩
  · refine ⟨⟨_, _, spmB_ok E.q_Lift, ok_Kind___eq__ E, hr.mono (by decide)⟩, neB_ok E.n_Lift, E.nb_Lift, fun D hD => ?_⟩
    simp only [List.mem_cons, List.not_mem_nil, or_false] at hD
    rcases hD with rfl | rfl | rfl
    · exact ⟨⟨ownB_ok E.o_Still, E.cl_Still⟩, E.nf_Lift_Still⟩
    · exact ⟨⟨ownB_ok E.o_Anew, E.cl_Anew⟩, E.nf_Lift_Anew⟩
    · exact ⟨⟨ownB_ok E.o_Lift, E.cl_Lift⟩, E.nf_Lift_Lift⟩
theorem tbKE_n {K : PySem.W.Frag} {mg : Str → Option Value} {w : World} (E : Env K mg w) : ∀ q ∈ tbKE, EqN K q := by
  intro q hq
  simp only [tbKE, List.mem_cons, List.not_mem_nil, or_false] at hq
  rcases hq with rfl | rfl | rfl
  · refine ⟨E.nb_Still, fun D hD => ?_⟩
    simp only [List.mem_cons, List.not_mem_nil, or_false] at hD
    rcases hD with rfl | rfl | rfl
    · exact ⟨⟨ownB_ok E.o_Still, E.cl_Still⟩, E.nf_Still_Still⟩
    · exact ⟨⟨ownB_ok E.o_Anew, E.cl_Anew⟩, E.nf_Still_Anew⟩
    · exact ⟨⟨ownB_ok E.o_Lift, E.cl_Lift⟩, E.nf_Still_Lift⟩
  · refine ⟨E.nb_Anew, fun D hD => ?_⟩
    simp only [List.mem_cons, List.not_mem_nil, or_false] at hD
    rcases hD with rfl | rfl | rfl
    · exact ⟨⟨ownB_ok E.o_Still, E.cl_Still⟩, E.nf_Anew_Still⟩
    · exact ⟨⟨ownB_ok E.o_Anew, E.cl_Anew⟩, E.nf_Anew_Anew⟩
    · exact ⟨⟨ownB_ok E.o_Lift, E.cl_Lift⟩, E.nf_Anew_Lift⟩
  · refine ⟨E.nb_Lift, fun D hD => ?_⟩
    simp only [List.mem_cons, List.not_mem_nil, or_false] at hD
    rcases hD with rfl | rfl | rfl
    · exact ⟨⟨ownB_ok E.o_Still, E.cl_Still⟩, E.nf_Lift_Still⟩
    · exact ⟨⟨ownB_ok E.o_Anew, E.cl_Anew⟩, E.nf_Lift_Anew⟩
    · exact ⟨⟨ownB_ok E.o_Lift, E.cl_Lift⟩, E.nf_Lift_Lift⟩
theorem tbKE_k {K : PySem.W.Frag} {X : Cx} (E : Env K X.mg X.w) (hK : X.K = K := by rfl) : ∀ q ∈ tbKE, EqK X K 5 q := by
  subst hK
  intro q hq
  simp only [tbKE, List.mem_cons, List.not_mem_nil, or_false] at hq
  rcases hq with rfl | rfl | rfl
  · refine ⟨⟨_, _, by decide, spmB_ok E.q_Still, ok_Kind___eq__ E⟩, fun D hD => ?_⟩
    simp only [List.mem_cons, List.not_mem_nil, or_false] at hD
    rcases hD with rfl | rfl | rfl
    · exact ⟨⟨ownB_ok E.o_Still, E.cl_Still⟩, E.nf_Still_Still⟩
    · exact ⟨⟨ownB_ok E.o_Anew, E.cl_Anew⟩, E.nf_Still_Anew⟩
    · exact ⟨⟨ownB_ok E.o_Lift, E.cl_Lift⟩, E.nf_Still_Lift⟩
  · refine ⟨⟨_, _, by decide, spmB_ok E.q_Anew, ok_Kind___eq__ E⟩, fun D hD => ?_⟩
    simp only [List.mem_cons, List.not_mem_nil, or_false] at hD
    rcases hD with rfl | rfl | rfl
    · exact ⟨⟨ownB_ok E.o_Still, E.cl_Still⟩, E.nf_Anew_Still⟩
    · exact ⟨⟨ownB_ok E.o_Anew, E.cl_Anew⟩, E.nf_Anew_Anew⟩
    · exact ⟨⟨ownB_ok E.o_Lift, E.cl_Lift⟩, E.nf_Anew_Lift⟩
  · refine ⟨⟨_, _, by decide, spmB_ok E.q_Lift, ok_Kind___eq__ E⟩, fun D hD => ?_⟩
    simp only [List.mem_cons, List.not_mem_nil, or_false] at hD
    rcases hD with rfl | rfl | rfl
    · exact ⟨⟨ownB_ok E.o_Still, E.cl_Still⟩, E.nf_Lift_Still⟩
    · exact ⟨⟨ownB_ok E.o_Anew, E.cl_Anew⟩, E.nf_Lift_Anew⟩
    · exact ⟨⟨ownB_ok E.o_Lift, E.cl_Lift⟩, E.nf_Lift_Lift⟩
noncomputable def tbRE : List (Str × (Ro → Re) × List Str) := [("Rule", F_Rule___eq__, ["Rule"])]
theorem tbRE_ok {K : PySem.W.Frag} {X : Cx} (E : Env K X.mg X.w) (hr : Room 9 X.A) (hK : X.K = K := by rfl) : ∀ q ∈ tbRE, EqOk X K 1 q := by
  subst hK
  intro q hq
  simp only [tbRE, List.mem_cons, List.not_mem_nil, or_false] at hq
  rcases hq with rfl
  · refine ⟨⟨_, _, spmB_ok E.q_Rule, ok_Rule___eq__ E, hr.mono (by decide)⟩, neB_ok E.n_Rule, E.nb_Rule, fun D hD => ?_⟩
    simp only [List.mem_cons, List.not_mem_nil, or_false] at hD
    rcases hD with rfl
    · exact ⟨⟨ownB_ok E.o_Rule, E.cl_Rule⟩, E.nf_Rule_Rule⟩
theorem tbRE_n {K : PySem.W.Frag} {mg : Str → Option Value} {w : World} (E : Env K mg w) : ∀ q ∈ tbRE, EqN K q := by
  intro q hq
  simp only [tbRE, List.mem_cons, List.not_mem_nil, or_false] at hq
  rcases hq with rfl
  · refine ⟨E.nb_Rule, fun D hD => ?_⟩
    simp only [List.mem_cons, List.not_mem_nil, or_false] at hD
    rcases hD with rfl
    · exact ⟨⟨ownB_ok E.o_Rule, E.cl_Rule⟩, E.nf_Rule_Rule⟩
end Tm

namespace Tm
open PySem PySem.Spec PyProof.Rows L2
section
variable {P : Program} {w : World} {K : PySem.W.Frag} {mg : Str → Option Value} {base : Heap}
def spDeal (K : PySem.W.Frag) : Sp := fun vs H Q _ => ∃ (a : Addr) (ns : List Int), vs = [.ref a] ∧ SqL K H a (ns.map V.int) ∧ ∀ (d g : Addr) (H' : Hp), H d = none → H g = none → Same H H' → Deal H' d g → Q (.ref d) H'
theorem ints_cut (ns : List Int) : ∃ cs : List Int, cutV (ns.map V.int) none (some 60) = cs.map V.int ∧ cs.length ≤ 60 := by
  refine ⟨(ns.drop 0).take (HT.sIx ns.length ns.length (some 60) - 0), ?_, ?_⟩
  · unfold cutV
    rw [List.length_map, ← List.map_drop, ← List.map_take]
    rfl
  · rw [List.length_take]
    have e : HT.sIx ns.length ns.length (some (60 : Int)) = min 60 ns.length := HT.sIx_nat _ _ 60
    rw [e]
    omega
theorem loop_pos : 0 ≤ (32452867 : Int) := by decide
theorem sc__law_deal : FnScope ["_law_script", "_law_cell", "_law_cells", "_law_mixed_here"] ["_law_script"] (defScope s__law_deal) := ⟨rfl, rfl, rfl, by decide +kernel, rfl, by decide +kernel, by decide +kernel⟩
theorem ok__law_deal (E : Env K mg w) : Dn P w K mg base CX0 1 (He.ga K "_law_deal") [] (spDeal K) := by
  refine dn_of (ps := ["_law_script"]) E.f__law_deal (fun fd F => ?_) (fun _ _ _ _ _ _ us hl => match us, hl with | [_], _ => rfl)
  refine F.ok sc__law_deal (fun vs H Q E h => ?_) (fun cdv A outer s H vs Q X hr h => ?_)
  · obtain ⟨a, ns, rfl, _⟩ := h
    rfl
  · obtain ⟨a, ns, rfl, hS, k⟩ := h
    refine ⟨_, PSs.nox (pss_cons (ps_par (i := 2) (j := 3) (by rfl) sc__law_deal.nd rfl rfl (by decide) rfl rfl (pa_cons (pe_lc (own := [("_law_cell", 1)]) (by rfl) sc__law_deal.nd (k_piQ K (pe_slice (k_slL K) (pv 0) po_none (po_some pe_int))) (blkOk_by (own := [("_law_cell", 1)]) (N := ["_law_script", "_law_cell", "_law_cells", "_law_mixed_here"]) (sc := defScope s__law_deal) (by decide +kernel)) (fun _ _ _ _ _ => (pg_name (i := 1) sc__law_deal.nd rfl (Or.inl rfl))) (fun _ _ _ _ _ => pts_nil) (fun _ _ _ _ _ => (pe_callB call_abs (by rfl) E.g_abs bt_abs (pa_cons (pv 1) pa_nil)))) (pa_cons pe_int pa_nil)) (by rfl))
      (pss_cons (ps_for PassesOwn.never rfl (k_piQ K (pv 2)) (pg_name (i := 1) sc__law_deal.nd rfl (Or.inl rfl))
      (pss_one (ps_set (i := 3) sc__law_deal.nd rfl (Or.inl rfl) (pe_op op_mod (pe_callTy call_int1 (by rfl) E.g_int bt_int (pa_cons (pe_op op_add (pe_op op_mul (pv 3) pe_int) (pe_op op_mod (pe_callTy call_int1 (by rfl) E.g_int bt_int (pa_cons (pv 1) pa_nil)) pe_int)) pa_nil)) pe_int))))
      (pss_one (ps_ret (pe_lst (pa_cons (k_rev K (pe_lc (own := [("_law_cell", 1)]) (by rfl) sc__law_deal.nd (k_piQ K (pv 2)) (blkOk_by (own := [("_law_cell", 1)]) (N := ["_law_script", "_law_cell", "_law_cells", "_law_mixed_here"]) (sc := defScope s__law_deal) (by decide +kernel)) (fun _ _ _ _ _ => (pg_name (i := 1) sc__law_deal.nd rfl (Or.inl rfl))) (fun _ _ _ _ _ => (pts_one (pt_cmpR op_ge (pv 1) (pe_op op_pow pe_int pe_int) (nomark _)))) (fun _ _ _ _ _ => (pv 1)))) (pa_cons (pv 3) pa_nil))))))), ?_⟩
    dsimp only [tSeq, tPar, tCons]
    rw [tLc_eq]
    obtain ⟨cs, ec, lc⟩ := ints_cut ns
    refine ⟨_, rfl, 60, rfl, a, _, rfl, hS, fun p1 hp1 => ?_⟩
    rw [ec]
    have s1 : Same H (upd H p1 (.lst (cs.map V.int))) := same_new hp1
    have h1 : upd H p1 (.lst (cs.map V.int)) p1 = some (.lst (cs.map V.int)) := upd_same
    generalize upd H p1 (.lst (cs.map V.int)) = H1 at s1 h1 ⊢
    refine lcb_P (ys := (cs.map fun c => if c < 0 then -c else c).map V.int) (.inl (.inl (.inl h1))) (by rw [List.length_map]; exact Nat.lt_of_le_of_lt lc (by decide)) (by simp) (fun i x y hx hy H2 s2 R hR => ?_) (fun D H2 hD s2 e2 => ?_) (fun _ _ _ _ _ hm z => hm _ _ z)
    · rw [List.getElem?_map] at hx hy
      obtain ⟨c, hc, rfl⟩ := Option.map_eq_some_iff.mp hx
      rw [List.getElem?_map, hc] at hy
      obtain rfl := Option.some.inj hy
      exact ⟨rfl, _, rfl, c, rfl, hR H2 (L2.Same.refl _)⟩
    obtain ⟨as, ea⟩ : ∃ as, as = cs.map fun c => if c < 0 then -c else c := ⟨_, rfl⟩
    have pa : ∀ x ∈ as, 0 ≤ x := fun x hx => by
      rw [ea] at hx
      obtain ⟨c, _, rfl⟩ := List.mem_map.mp hx
      split <;> omega
    have la : as.length ≤ 60 := by rw [ea, List.length_map]; exact lc
    rw [← ea] at e2
    have s12 := s1.trans s2
    have nD : H D = none := s1.free hD
    refine ⟨_, _, rfl, ?_⟩
    -- the loop
    rw [tFor_eq]
    refine ⟨_, rfl, frb (xs := as.map V.int) (.inl (.inl (.inl e2))) (fun i σ H3 => H3 = H2 ∧ ∃ (m : Int) (v : Option V), 0 ≤ m ∧ σ = [some (.ref a), v, some (.ref D), some (.int m)]) ⟨rfl, 32452867, none, loop_pos, rfl⟩ (fun i σ H3 _ ⟨e, _⟩ => by subst e; exact stays_same (L2.Same.refl _)) ?_ ?_⟩
    · rintro i y σ H3 hi ⟨rfl, m, v, hm, rfl⟩
      rw [List.getElem?_map] at hi
      obtain ⟨c, hc, rfl⟩ := Option.map_eq_some_iff.mp hi
      refine ⟨_, rfl, _, _, rfl, rfl, .inr ⟨by decide, by decide⟩, _, rfl, .inl ⟨_, rfl, _, _, rfl, rfl, (by show (0 : Int) < 2147483629; decide), _, _, rfl, rfl, .inl ⟨_, rfl, _, _, rfl, rfl, (by show (0 : Int) < 2147483647; decide), ?_⟩⟩⟩
      exact ⟨rfl, _, _, Int.emod_nonneg _ (by decide), rfl⟩
    · rintro σ H3 ⟨rfl, m, v, hm, rfl⟩
      dsimp only [tRet, tLst, tCons, tRevL]
      rw [tLc_eq]
      refine ⟨_, rfl, lcb_S (xs := as.map V.int) (fun y => match y with | .int i => decide (10 ^ 18 ≤ i) | _ => false) id (.inl (.inl (.inl e2))) (by rw [List.length_map]; exact Nat.lt_of_le_of_lt la (by decide)) (fun y hy H4 s4 R S hR hS' => ?_) (fun D2 H4 hD2 s4 e4 => ?_)⟩
      · obtain ⟨c, _, rfl⟩ := List.mem_map.mp hy
        refine ⟨rfl, _, rfl, _, _, rfl, rfl, ⟨by decide, by decide, by decide⟩, _, _, rfl, rfl, _, rfl, ?_⟩
        show (if decide ((10 : Int) ^ 18 ≤ c) = true then _ else _)
        by_cases hc : (10 : Int) ^ 18 ≤ c
        · rw [decide_eq_true hc]
          exact iteT ⟨_, rfl, hR (decide_eq_true hc) H4 (L2.Same.refl _)⟩
        · rw [decide_eq_false hc]
          exact iteF (hS' (decide_eq_false hc) H4 (L2.Same.refl _))
      rw [List.map_id, List.filter_map] at e4
      obtain ⟨gs, eg⟩ : ∃ gs, gs = (as.filter fun c => decide ((10 : Int) ^ 18 ≤ c)).reverse := ⟨_, rfl⟩
      have ge : ((as.filter fun c => decide ((10 : Int) ^ 18 ≤ c)).map V.int).reverse = gs.map V.int := by rw [eg, List.map_reverse]
      have gl : gs.length ≤ 60 := by
        rw [eg, List.length_reverse]
        exact Nat.le_trans (List.length_filter_le _ _) la
      have gp : ∀ x ∈ gs, 0 ≤ x := fun x hx => by
        rw [eg, List.mem_reverse] at hx
        exact pa x (List.mem_filter.mp hx).1
      refine ⟨D2, _, rfl, .inl (.inl e4), fun g hg => ?_⟩
      have s5 : Same H4 (upd H4 g (.lst ((as.filter fun c => decide ((10 : Int) ^ 18 ≤ c)).map V.int).reverse)) := same_new hg
      have h5 : upd H4 g (.lst ((as.filter fun c => decide ((10 : Int) ^ 18 ≤ c)).map V.int).reverse) g = some (.lst (gs.map V.int)) := by rw [upd_same, ge]
      have sH4 := (s12.trans s4)
      have ng : H g = none := sH4.free hg
      refine ⟨_, rfl, (by show 2 ≤ sizeLine; decide), fun d hd => ?_⟩
      have nd : H d = none := (sH4.trans s5).free hd
      refine k d g _ nd ng ((sH4.trans s5).trans (same_new hd)) ⟨gs, m, upd_same, ?_, gl, gp, hm⟩
      rw [upd_ne (ne_of_none h5 hd)]
      exact h5
end

end Tm

namespace Tm
open PySem PySem.Spec PyProof.Rows L2
noncomputable def b_law : Sv := (sSeq (sFor (mL fRng1 (mCons (mC (.int 8)) mNil)) (setIm 2)
    (sSeq (sAsg (mCallR 1 F__law_rule [] (mCons (mC (.int 4)) (mCons (mCallR 1 F__law_pick [] (mCons (mB fLst (mCons (mC (.int 5)) (mCons (mC (.int 60)) (mCons (mOp oPow (mC (.int 10)) (mC (.int 17))) mNil)))) mNil)) mNil))) (setIm 4))
    (sSeq (sAsg (mMake "Rule" F_Rule___init__ [] (mCons (mOp oIx (mVar 4) (mC (.int 0))) (mCons (mOp oIx (mVar 4) (mC (.int 1))) (mCons (mOp oIx (mVar 4) (mC (.int 2))) (mCons (mLc [3] (mSeqOf (mOp oIx (mVar 4) (mC (.int 3)))) (setIm 3) mYes (mCall F__law_kind_made [] (mCons (mVar 3) mNil))) mNil))))) (setIm 5))
    (sSeq (sAsg (mCall F__law_text [] (mCons (mVar 4) mNil)) (setIm 6))
    (sSeq (sAsg (mCall F__law_text [] (mCons (mB fTup (mCons (mOp oIx (mVar 4) (mC (.int 0))) (mCons (mCallR 1 F__law_mixed [] (mCons (mOp oIx (mVar 4) (mC (.int 1))) mNil)) (mCons (mOp oIx (mVar 4) (mC (.int 2))) (mCons (mOp oIx (mVar 4) (mC (.int 3))) mNil))))) mNil)) (setIm 7))
    (sSeq (sFor (mSeqOf (mB fTup (mCons (mVar 6) (mCons (mVar 7) (mCons (mB (bStrO tbRS) (mCons (mVar 5) mNil)) mNil))))) (setIm 3)
    (sIf (mOrT (mTst (mOp (oEqT tbRE true) (mCm "Rule" F_Rule_read (mCons (mVar 3) mNil)) (mVar 5))) (mTst (mOp oNe (mB (bStrO tbRS) (mCons (mCm "Rule" F_Rule_read (mCons (mVar 3) mNil)) mNil)) (mVar 6)))) (sRet (mC (.bl false))) sNext))
    (sSeq (sAsg (mCm "Rule" F_Rule_read (mCons (mVar 6) mNil)) (setIm 8))
    (sIf (mTst (mOp (oNeSm tbKE 1) (mB fTup (mCons (mFldS 8 ["Rule"] "length") (mCons (mFldS 8 ["Rule"] "rests") (mCons (mFldS 8 ["Rule"] "cap") (mCons (mFldS 8 ["Rule"] "kinds") mNil))))) (mB fTup (mCons (mFldS 5 ["Rule"] "length") (mCons (mFldS 5 ["Rule"] "rests") (mCons (mFldS 5 ["Rule"] "cap") (mCons (mFldS 5 ["Rule"] "kinds") mNil))))))) (sRet (mC (.bl false))) sNext))))))))
    (sSeq (sAsg (mCm "Rule" F_Rule_read (mCons (mC (.str "term 10 rests 6 5 cap none\nstill talk 3 1\nanew owe 5 any")) mNil)) (setIm 3))
    (sSeq (sIf (mOrT (mTst (mOp (oEqT tbRE true) (mVar 3) (mMake "Rule" F_Rule___init__ [] (mCons (mC (.int 10)) (mCons (mB fTup (mCons (mC (.int 5)) (mCons (mC (.int 6)) mNil))) (mCons (mC .non) (mCons (mB fLst (mCons (mMake "Still" F_Still___init__ [] (mCons (mC (.str "talk")) (mCons (mC (.int 3)) (mCons (mC (.int 1)) mNil)))) (mCons (mMake "Anew" F_Anew___init__ dt_Anew___init___0 (mCons (mC (.str "owe")) (mCons (mC (.int 5)) mNil))) mNil))) mNil))))))) (mTst (mOp oNe (mFldS 3 ["Rule"] "rests") (mB fTup (mCons (mC (.int 5)) (mCons (mC (.int 6)) mNil)))))) (sRet (mC (.bl false))) sNext)
    (sRet (mOp (oEqT tbRE false) (mCm "Rule" F_Rule_read (mCons (mC (.str "term 1 rests none cap 1\nlift a 1 1 1")) mNil)) (mMake "Rule" F_Rule___init__ [] (mCons (mC (.int 1)) (mCons (mB fLst mNil) (mCons (mC (.int 1)) (mCons (mB fLst (mCons (mMake "Lift" F_Lift___init__ [] (mCons (mC (.str "a")) (mCons (mC (.int 1)) (mCons (mC (.int 1)) (mCons (mC (.int 1)) mNil))))) mNil)) mNil))))))))))
section
variable {P : Program} {w : World} {K : PySem.W.Frag} {mg : Str → Option Value} {base : Heap}
def spLaw (K : PySem.W.Frag) : Sp := fun vs H Q _ => ∃ (a : Addr) (ns : List Int), vs = [.ref a] ∧ SqL K H a (ns.map V.int) ∧ ns.length ≤ 63 ∧ ∀ H', Q (.bl true) H'
theorem sc_law : FnScope ["_law_script", "_law_deal_here", "_law_turn", "_law_one", "_law_told", "_law_made", "_law_text_here", "_law_loose", "_law_again"] ["_law_script"] (defScope s_law) := ⟨rfl, rfl, rfl, by decide +kernel, rfl, by decide +kernel, by decide +kernel⟩
theorem law_cons {X : Cx} {W : WX} {g : Sv} {st : Stmt} {rest : List Stmt} {t : TS} (h1 : PS X st t) (h2 : PSs X rest (tXS K W g)) : PSs X (st :: rest) (tSeq t (tXS K W g)) := pss_cons h1 h2
theorem ok_law_of (hb : ∀ gs m, gs.length ≤ 60 → ∃ ρ, b_law (.un :: .ow (.deal gs m) :: List.replicate 7 .un) = .rt (.bl true) ρ) (E : Env K mg w) {fd : FuncData} (F : FunD K "law" "law" (defArgs s_law) (defBody s_law) (defScope s_law) [] [] (He.ga K "law") fd) : FnOk P w K mg base CX0 20 (He.ga K "law") fd ["_law_script"] (spLaw K) := by
  refine F.ok sc_law (fun vs H Q E h => ?_) (fun cdv A outer s H vs Q X hr h => ?_)
  · obtain ⟨a, ns, rfl, _⟩ := h
    rfl
  · obtain ⟨a, ns, rfl, hS, hlen, k⟩ := h
    have hu := hr.units
    refine ⟨_, PSs.nox (law_cons (W := fun cls d _ H' => X cls d H') (g := b_law) (ps_set (i := 1) sc_law.nd rfl (Or.inl rfl) (pe_c (ok__law_deal (K := K) E) (hr.mono (by decide)) E.g__law_deal pass0 (pa_cons (pv 0) pa_nil))) (s_cons (s_for PassesOwn.never rfl (i_range1 E.g_range (m_cons m_int m_nil)) (g_name 2 sc_law.nd) (setIm_n 2)
      (s_cons (s_set 4 sc_law.nd (m_callR 1 (ok__law_rule (K := K) E) (hr.mono (by decide)) E.g__law_rule (fun _ => pass0) (fun _ _ => .nil) (m_cons m_int (m_cons (m_callR 1 (ok__law_pick (K := K) E) (hr.mono (by decide)) E.g__law_pick (fun _ => pass0) (fun _ _ => .nil) (m_cons (m_lst (m_cons m_int (m_cons m_int (m_cons (m_op op_pow oPow_ok m_int m_int) m_nil)))) m_nil)) m_nil))))
      (s_cons (s_set 5 sc_law.nd (m_make E.mk_Rule (ok_Rule___init__ (K := K) E) (hr.mono (by decide)) E.g_Rule (fun _ => pass0) (fun _ _ => .nil) (m_cons (m_ix (k_ix K) oIx_ok (m_var 4) m_int (fun _ _ => rfl)) (m_cons (m_ix (k_ix K) oIx_ok (m_var 4) m_int (fun _ _ => rfl)) (m_cons (m_ix (k_ix K) oIx_ok (m_var 4) m_int (fun _ _ => rfl)) (m_cons (m_lc (own := [("_law_one", 3)]) (by rfl) sc_law.nd (setIm_n 3) (i_seq (m_ix (k_ix K) oIx_ok (m_var 4) m_int (fun _ _ => rfl))) (blkOk_by (own := [("_law_one", 3)]) (N := ["_law_script", "_law_deal_here", "_law_turn", "_law_one", "_law_told", "_law_made", "_law_text_here", "_law_loose", "_law_again"]) (sc := defScope s_law) (by decide +kernel)) (fun _ _ _ _ _ => (g_name 3 sc_law.nd)) (fun _ _ _ _ _ => ts_nil) (fun _ _ _ _ _ => (m_call (ok__law_kind_made (K := K) E) (hr.mono (by decide)) E.g__law_kind_made (fun _ => pass0) (fun _ _ => .nil) (m_cons (m_var 3) m_nil)))) m_nil))))))
      (s_cons (s_set 6 sc_law.nd (m_call (ok__law_text (K := K) E) (hr.mono (by decide)) E.g__law_text (fun _ => pass0) (fun _ _ => .nil) (m_cons (m_var 4) m_nil)))
      (s_cons (s_set 7 sc_law.nd (m_call (ok__law_text (K := K) E) (hr.mono (by decide)) E.g__law_text (fun _ => pass0) (fun _ _ => .nil) (m_cons (m_tup (m_cons (m_ix (k_ix K) oIx_ok (m_var 4) m_int (fun _ _ => rfl)) (m_cons (m_callR 1 (ok__law_mixed (K := K) E) (hr.mono (by decide)) E.g__law_mixed (fun _ => pass0) (fun _ _ => .nil) (m_cons (m_ix (k_ix K) oIx_ok (m_var 4) m_int (fun _ _ => rfl)) m_nil)) (m_cons (m_ix (k_ix K) oIx_ok (m_var 4) m_int (fun _ _ => rfl)) (m_cons (m_ix (k_ix K) oIx_ok (m_var 4) m_int (fun _ _ => rfl)) m_nil))))) m_nil)))
      (s_cons (s_for PassesOwn.never rfl (i_seq (m_tup (m_cons (m_var 6) (m_cons (m_var 7) (m_cons (m_callTy (q_strO (tbRS_ok E (hr.mono (by decide)))) bStrO_ok E.g_str bt_str (m_cons (m_var 5) m_nil)) m_nil))))) (g_name 3 sc_law.nd) (setIm_n 3)
      (s_one (s_if (PW.pt (m_por (m_tcmp (q_neT (tbRE_ok E (hr.mono (by decide)))) (oEqT_ok (tbRE_n E)) (m_cm E.g_Rule E.c_Rule_read (ok_Rule_read (K := K) E) (hr.mono (by decide)) (fun _ => pass0) (m_cons (m_var 3) m_nil)) (m_var 5) (nomark _)) (m_por1 (m_tcmp (q_ne hu) oNe_ok (m_callTy (q_strO (tbRS_ok E (hr.mono (by decide)))) bStrO_ok E.g_str bt_str (m_cons (m_cm E.g_Rule E.c_Rule_read (ok_Rule_read (K := K) E) (hr.mono (by decide)) (fun _ => pass0) (m_cons (m_var 3) m_nil)) m_nil)) (m_var 6) (nomark _))))) (s_one (s_ret m_bl)) s_nil)))
      (s_cons (s_set 8 sc_law.nd (m_cm E.g_Rule E.c_Rule_read (ok_Rule_read (K := K) E) (hr.mono (by decide)) (fun _ => pass0) (m_cons (m_var 6) m_nil)))
      (s_one (s_if (m_tcmp (q_neSm (tbKE_k E) (hr.mono (by decide))) oNeSm_ok (m_tup (m_cons (m_fldS 8 (fc_length E)) (m_cons (m_fldS 8 (fc_rests E)) (m_cons (m_fldS 8 (fc_cap E)) (m_cons (m_fldS 8 (fc_kinds E)) m_nil))))) (m_tup (m_cons (m_fldS 5 (fc_length E)) (m_cons (m_fldS 5 (fc_rests E)) (m_cons (m_fldS 5 (fc_cap E)) (m_cons (m_fldS 5 (fc_kinds E)) m_nil))))) (nomark _)) (s_one (s_ret m_bl)) s_nil)))))))))
      (s_cons (s_set 3 sc_law.nd (m_cm E.g_Rule E.c_Rule_read (ok_Rule_read (K := K) E) (hr.mono (by decide)) (fun _ => pass0) (m_cons m_str m_nil)))
      (s_cons (s_if (PW.pt (m_por (m_tcmp (q_neT (tbRE_ok E (hr.mono (by decide)))) (oEqT_ok (tbRE_n E)) (m_var 3) (m_make E.mk_Rule (ok_Rule___init__ (K := K) E) (hr.mono (by decide)) E.g_Rule (fun _ => pass0) (fun _ _ => .nil) (m_cons m_int (m_cons (m_tup (m_cons m_int (m_cons m_int m_nil))) (m_cons m_non (m_cons (m_lst (m_cons (m_make E.mk_Still (ok_Still___init__ (K := K) E) (hr.mono (by decide)) E.g_Still (fun _ => pass0) (fun _ _ => .nil) (m_cons m_str (m_cons m_int (m_cons m_int m_nil)))) (m_cons (m_make E.mk_Anew (ok_Anew___init___0 (K := K) E) (hr.mono (by decide)) E.g_Anew (fun _ => pass0) (dr_Anew___init___0 E) (m_cons m_str (m_cons m_int m_nil))) m_nil))) m_nil))))) (nomark _)) (m_por1 (m_tcmp (q_ne hu) oNe_ok (m_fldS 3 (fc_rests E)) (m_tup (m_cons m_int (m_cons m_int m_nil))) (nomark _))))) (s_one (s_ret m_bl)) s_nil)
      (s_one (s_ret (m_cmp (q_eqT (tbRE_ok E (hr.mono (by decide)))) (oEqT_ok (tbRE_n E)) (m_cm E.g_Rule E.c_Rule_read (ok_Rule_read (K := K) E) (hr.mono (by decide)) (fun _ => pass0) (m_cons m_str m_nil)) (m_make E.mk_Rule (ok_Rule___init__ (K := K) E) (hr.mono (by decide)) E.g_Rule (fun _ => pass0) (fun _ _ => .nil) (m_cons m_int (m_cons (m_lst m_nil) (m_cons m_int (m_cons (m_lst (m_cons (m_make E.mk_Lift (ok_Lift___init__ (K := K) E) (hr.mono (by decide)) E.g_Lift (fun _ => pass0) (fun _ _ => .nil) (m_cons m_str (m_cons m_int (m_cons m_int (m_cons m_int m_nil))))) m_nil)) m_nil))))) (nomark _)))))))), ?_⟩
    refine ⟨_, rfl, a, ns, rfl, hS, fun d g H1 nd ng s1 D1 => ?_⟩
    obtain ⟨gs, m, h1, h2, hl, _, _⟩ := D1
    obtain ⟨ρ, e⟩ := hb gs m hl
    refine ⟨_, _, _, law_sat (σ0 := []) h1 h2 (a := a) 7, ?_⟩
    rw [e]
    intro v F' σ' H' S' r'
    cases r'
    exact k H'
end
end Tm

namespace Tm
open PySem PySem.Spec PyProof.Rows L2
local macro_rules | `(tactic| walk_at "mir") => `(tactic| simp only [ap_mVar, ap_mC, ap_mOp, ap_mUn, ap_mNil, ap_mCons, ap_mB, ap_mL, ap_mNotT, ap_mAndT, ap_mOrT, ap_mIf, ap_mYes, ap_mNoPart, ap_sNext, ap_sRet, ap_sExpr, ap_sAsg, ap_sIf, ap_sFor, ap_mCall, ap_mMake, ap_mCm, ap_mSl, ap_bind_ok, ap_lift, ap_seq, ap_mTst, ap_mAnd, ap_mOr, ap_mNot, ap_mChain, ap_mPart, ap_mSeqOf, ap_mSeqOfS, ap_mTxt, ap_mStar, ap_mMeth, ap_mEnum, ap_mLc, ap_mDc, ap_ite, ouE_ok, re_rt, re_nx, runF, outA, setIm, callV, mFldS, fK_name, fK_times, fK_days, fK_left, fK_by, fK_top, fR_length, fR_rests, fR_cap, fR_kinds, fR_names, ap_mJs, mJs_nil, sFldS, putN, Sl.any, Sl.tr, Sl.up, wipeO, resto, fTup, fLst, v_lt, v_le, v_gt, v_ge, v_sub, v_add, nix, if_true, if_false, ite_true, ite_false, reduceIte, Bool.false_eq_true, Bool.not_true, Bool.not_false, Bool.true_eq_false, Option.bind_some, Option.map_some, Option.bind_none, Option.map_none, List.map_cons, List.map_nil, List.cons_append, List.nil_append, List.append_nil, List.length_cons, List.length_nil, List.getElem?_cons_zero, List.getElem?_cons_succ, List.set_cons_zero, List.set_cons_succ, List.replicate_succ, List.replicate_zero, Nat.reduceAdd, Nat.reduceSub, Nat.reduceLeDiff, List.mapIdx_cons, List.mapIdx_nil, List.mem_cons, List.not_mem_nil, or_false, false_or, or_self, or_true, List.getD_cons_zero, List.getD_cons_succ, Nat.reduceEqDiff, Nat.zero_ne_one, Nat.one_ne_zero, reduceCtorEq, ap_sPar2, ap_sGive, ap_sOwnL, ap_setOw, ap_sApp, isL, ap_chL, ap_gTupM, ap_gTup0, ap_gTup, ap_mCallR, ap_callR, isO, ap_mOpS, ap_mLenS, ap_mPopS, ap_sParLN, notDeal, scaT, Option.isSome_some, seqT_lst, seqT_tup, true_and, and_true, Nat.reduceLT, Nat.lt_add_one, and_self])
local macro_rules | `(tactic| walk_at "js") => `(tactic| (rw [if_pos (by simp only [len_app]; omega)]; try walk_at "mir"))
local macro_rules | `(tactic| walk_at "mih") => `(tactic| simp only [ap_mVar, ap_mC, ap_mOp, ap_mUn, ap_mNil, ap_mCons, ap_mB, ap_mL, ap_mNotT, ap_mAndT, ap_mOrT, ap_mIf, ap_mYes, ap_mNoPart, ap_sNext, ap_sRet, ap_sExpr, ap_sAsg, ap_sIf, ap_sFor, ap_mCall, ap_mMake, ap_mCm, ap_mSl, ap_bind_ok, ap_lift, ap_seq, ap_mTst, ap_mAnd, ap_mOr, ap_mNot, ap_mChain, ap_mPart, ap_mSeqOf, ap_mSeqOfS, ap_mTxt, ap_mStar, ap_mMeth, ap_mEnum, ap_mLc, ap_mDc, ap_ite, ouE_ok, re_rt, re_nx, runF, outA, setIm, callV, mFldS, fK_name, fK_times, fK_days, fK_left, fK_by, fK_top, fR_length, fR_rests, fR_cap, fR_kinds, fR_names, ap_mJs, mJs_nil, sFldS, putN, Sl.any, Sl.tr, Sl.up, wipeO, resto, fTup, fLst, v_lt, v_le, v_gt, v_ge, v_sub, v_add, nix, if_true, if_false, ite_true, ite_false, reduceIte, Bool.false_eq_true, Bool.not_true, Bool.not_false, Bool.true_eq_false, Option.bind_some, Option.map_some, Option.bind_none, Option.map_none, List.map_cons, List.map_nil, List.cons_append, List.nil_append, List.append_nil, List.length_cons, List.length_nil, List.getElem?_cons_zero, List.getElem?_cons_succ, List.set_cons_zero, List.set_cons_succ, List.replicate_succ, List.replicate_zero, Nat.reduceAdd, Nat.reduceSub, Nat.reduceLeDiff, List.mapIdx_cons, List.mapIdx_nil, List.mem_cons, List.not_mem_nil, or_false, false_or, or_self, or_true, List.getD_cons_zero, List.getD_cons_succ, Nat.reduceEqDiff, Nat.zero_ne_one, Nat.one_ne_zero, reduceCtorEq, ap_sPar2, ap_sGive, ap_sOwnL, ap_setOw, ap_sApp, isL, ap_chL, ap_gTupM, ap_gTup0, ap_gTup, ap_mCallR, ap_callR, isO, ap_mOpS, ap_mLenS, ap_mPopS, ap_sParLN, notDeal, scaT, Option.isSome_some, seqT_lst, seqT_tup, true_and, and_true, Nat.reduceLT, Nat.lt_add_one, and_self, decide_true, decide_false, bLen_lst, bLen_tup, oSl_lst, oSl_tup, v_isN0, v_isNi, v_isNs, v_isNt, v_notN0, v_notNi, v_neg, v_int, v_tupL, v_tupT, v_eqs, v_nes, v_eqi, v_nei, *])
local macro_rules | `(tactic| walk_at "ro") => `(tactic| simp only [runF, List.length_cons, List.length_nil, Nat.reduceAdd, Nat.reduceSub, if_true, reduceIte, List.replicate_succ, List.replicate_zero, List.cons_append, List.nil_append, List.set_cons_zero, List.set_cons_succ])
section
theorem srtI_sorted {ns : List Int} (h : ns.Pairwise (· ≤ ·)) : srtI ns = ns := (srtI_eq (List.Perm.refl _) h).symm
theorem srtI_perm {ms ns : List Int} (p : ms.Perm ns) (h : ns.Pairwise (· ≤ ·)) : srtI ms = ns := (srtI_eq p.symm h).symm
def Iv (ρ : Ro) : Prop := ∃ d, Gd d ∧ (ρ = [.un, .ow d, .un, .un, .un, .un, .un, .un, .un] ∨ ∃ t2 t3 t4 t5 t6 t7 t8, ρ = [.un, .ow d, .im t2, .im t3, .im t4, .im t5, .im t6, .im t7, .im t8])
theorem pow17 : oPow (.int 10) (.int 17) = some (.int (10 ^ 17)) := by rfl
theorem eq_rule {R : Rl} (ok : RlOk R) {neg : Bool} : oEqT tbRE neg (ruleT R) (ruleT R) = some (.bl (if neg then false else true)) := by
  have e : eqT tbRE (ruleT R) (ruleT R) = some true := by
    show (match F_Rule___eq__ [.im (ruleT R), .im (ruleT R)] with | .ok (.bl c) _ => some c | _ => none) = _
    rw [F_Rule_eq ok ok, decide_eq_true rfl]
  unfold oEqT
  rw [e]
  cases neg <;> rfl
theorem sm_int (n : Nat) (i : Int) : sameT tbKE n (.int i) (.int i) := by
  cases n <;> simp [sameT, sclT]
theorem sm_tv (n : Nat) (o : Option Int) : sameT tbKE n (tvT o) (tvT o) := by
  cases o <;> cases n <;> simp [sameT, sclT, tvT]
theorem sm_kind (n : Nat) {k : Kd} (ok : KdOk k) : sameT tbKE n (kindT k) (kindT k) := by
  have e : eqT tbKE (kindT k) (kindT k) = some true := by
    have h := F_Kind_eq ok ok
    rw [decide_eq_true rfl] at h
    obtain ⟨fm, nm, a, b, tm⟩ := k
    cases fm with
    | still =>
      show (match F_Kind___eq__ [.im (kindT ⟨.still, nm, a, b, tm⟩), .im (kindT ⟨.still, nm, a, b, tm⟩)] with | .ok (.bl c) _ => some c | _ => none) = _
      rw [h]
    | anew =>
      show (match F_Kind___eq__ [.im (kindT ⟨.anew, nm, a, b, tm⟩), .im (kindT ⟨.anew, nm, a, b, tm⟩)] with | .ok (.bl c) _ => some c | _ => none) = _
      rw [h]
    | lift =>
      show (match F_Kind___eq__ [.im (kindT ⟨.lift, nm, a, b, tm⟩), .im (kindT ⟨.lift, nm, a, b, tm⟩)] with | .ok (.bl c) _ => some c | _ => none) = _
      rw [h]
  obtain ⟨fm, nm, a, b, tm⟩ := k
  cases fm <;> cases n <;> exact e
theorem sm_tup {n : Nat} {l : List T} (h : ∀ x ∈ l, sameT tbKE n x x) : sameT tbKE (n + 1) (.tup l) (.tup l) := by
  unfold sameT
  refine ⟨rfl, fun i x y hx hy => ?_⟩
  rw [hx] at hy
  obtain rfl := Option.some.inj hy
  exact h x (List.mem_of_getElem? hx)
theorem sm_rule (R : Rl) (kk : ∀ k ∈ R.kinds, KdOk k) : sameT tbKE 2 (.tup [.int R.length, .tup (R.rests.map T.int), tvT R.cap, .tup (R.kinds.map kindT)]) (.tup [.int R.length, .tup (R.rests.map T.int), tvT R.cap, .tup (R.kinds.map kindT)]) := by
  refine sm_tup fun x hx => ?_
  simp only [List.mem_cons, List.not_mem_nil, or_false] at hx
  rcases hx with rfl | rfl | rfl | rfl
  · exact sm_int 1 _
  · refine sm_tup fun x hx => ?_
    obtain ⟨i, _, rfl⟩ := List.mem_map.mp hx
    exact sm_int 0 i
  · exact sm_tv 1 _
  · refine sm_tup fun x hx => ?_
    obtain ⟨k, hk, rfl⟩ := List.mem_map.mp hx
    exact sm_kind 0 (kk k hk)
def kdA : Kd := ⟨.still, "talk", 3, 0, some 1⟩
def kdB : Kd := ⟨.anew, "owe", 5, 0, none⟩
def kdC : Kd := ⟨.lift, "a", 1, 1, some 1⟩
theorem kdA_ok : KdOk kdA := ⟨by decide +kernel, by decide, by decide, (fun z => by cases z), by decide, fun _ => rfl, fun c hc => by cases hc; decide⟩
theorem kdB_ok : KdOk kdB := ⟨by decide +kernel, by decide, by decide, (fun z => by cases z), by decide, fun _ => rfl, fun c hc => by cases hc⟩
theorem kdC_ok : KdOk kdC := ⟨by decide +kernel, by decide, by decide, (fun _ => by decide), by decide, fun z => absurd rfl z, fun c hc => by cases hc; decide⟩
def rlA : Rl := ⟨10, [5, 6], none, [kdA, kdB]⟩
def rlB : Rl := ⟨1, [], some 1, [kdC]⟩
theorem rlA_ok : RlOk rlA := ⟨by decide, by decide, by decide, by decide, by decide, by decide, fun c hc => (by cases hc), by decide, by decide +kernel, fun k hk => by
  have hk : k ∈ [kdA, kdB] := hk
  simp only [List.mem_cons, List.not_mem_nil, or_false] at hk
  rcases hk with rfl | rfl
  · exact kdA_ok
  · exact kdB_ok⟩
theorem rlB_ok : RlOk rlB := ⟨by decide, by decide, by decide, by decide, by decide, by decide, fun c hc => (by cases hc; decide), by decide, by decide +kernel, fun k hk => by
  have hk : k ∈ [kdC] := hk
  simp only [List.mem_cons, List.not_mem_nil, or_false] at hk
  subst hk
  exact kdC_ok⟩
theorem rd_1 : F_Rule_read [.im (.cls "Rule"), .im (.str "term 10 rests 6 5 cap none\nstill talk 3 1\nanew owe 5 any")] = .ok (ruleT rlA) [.im (.cls "Rule"), .im (.str "term 10 rests 6 5 cap none\nstill talk 3 1\nanew owe 5 any")] := by
  have e : ("term 10 rests 6 5 cap none\nstill talk 3 1\nanew owe 5 any" : Str) = textS 10 [6, 5] none [kdA, kdB] := by decide +kernel
  have h := F_read_rule (n := 10) (ns := [6, 5]) (cap := none) (ks := [kdA, kdB]) ⟨by decide, by decide, by decide, by decide, fun c hc => (by cases hc)⟩ (by decide) (by decide) rlA_ok.kn rlA_ok.kk
  rw [srtI_perm (ns := [5, 6]) (by decide) (by decide)] at h
  rw [e]
  exact h
theorem rd_2 : F_Rule_read [.im (.cls "Rule"), .im (.str "term 1 rests none cap 1\nlift a 1 1 1")] = .ok (ruleT rlB) [.im (.cls "Rule"), .im (.str "term 1 rests none cap 1\nlift a 1 1 1")] := by
  have e : ("term 1 rests none cap 1\nlift a 1 1 1" : Str) = textS 1 [] (some 1) [kdC] := by decide +kernel
  have h := F_read_rule (n := 1) (ns := []) (cap := some 1) (ks := [kdC]) rlB_ok.hd (by decide) (by decide) rlB_ok.kn rlB_ok.kk
  rw [srtI_perm (ns := []) (by decide) (by decide)] at h
  rw [e]
  exact h
end
section
theorem for_seq {fi : Ev (List T)} {g : T → Sv} {b rest : Sv} {ρ : Ro} {l : List T} {t : T} (I : Ro → Prop) (e : fi ρ = .ok l ρ) (h0 : I ρ) (turn : ∀ x ∈ l, ∀ ρ, I ρ → ∃ ρ', sSeq (g x) b ρ = .nx ρ' ∧ I ρ') (fin : ∀ ρ, I ρ → ∃ ρ', rest ρ = .rt t ρ') : ∃ ρ', sSeq (sFor fi g b) rest ρ = .rt t ρ' := by
  obtain ⟨ρ1, e1, h1⟩ := forL_inv I l h0 turn
  obtain ⟨ρ2, e2⟩ := fin ρ1 h1
  refine ⟨ρ2, ?_⟩
  rw [ap_seq, ap_sFor, e, ouE_ok, e1]
  exact e2
theorem law_rt (gs : List Int) (m : Int) (hl : gs.length ≤ 60) : ∃ ρ, b_law (.un :: .ow (.deal gs m) :: List.replicate 7 .un) = .rt (.bl true) ρ := by
  have p17 := pow17
  unfold b_law
  refine for_seq (l := rgT 0 8) Iv rfl ⟨_, ⟨gs, m, rfl, hl⟩, .inl rfl⟩ (fun x hx ρ h => ?_) (fun ρ h => ?_)
  · obtain ⟨d, g, h⟩ := h
    obtain ⟨x1, d1, g1, h1, e1⟩ := pick_ok g (l := [.int 5, .int 60, .int (10 ^ 17)]) (by simp) (by simp)
    obtain ⟨most, rfl, m0, m1⟩ : ∃ v : Int, x1 = .int v ∧ 1 ≤ v ∧ v ≤ 10 ^ 18 := by
      simp only [List.mem_cons, List.not_mem_nil, or_false] at h1
      rcases h1 with rfl | rfl | rfl <;> exact ⟨_, rfl, by decide, by decide⟩
    obtain ⟨n, ns, cap, ks, d2, g2, hR, e2⟩ := rule_ok g1 (many := 4) (by decide) m0 m1
    have e2 : F__law_rule [.rf d1, .im (.int 4), .im (.int most)] = .ok (toldR n ns cap ks) [.rf d2, .im (.int 4), .im (.int most)] := e2
    have ok := hR.ok m1 (by decide)
    have hd := hR.hd m1
    have kk := hR.kok m1
    have kl : ks.length ≤ 100 := ok.kl
    have w0 : oIx (toldR n ns cap ks) (.int 0) = some (.int n) := rfl
    have w1 : oIx (toldR n ns cap ks) (.int 1) = some (.lst (ns.map T.int)) := rfl
    have w2 : oIx (toldR n ns cap ks) (.int 2) = some (tvT cap) := rfl
    have w3 : oIx (toldR n ns cap ks) (.int 3) = some (.lst (ks.map toldT)) := rfl
    have so := srtI_sorted hR.rs
    have mk : ∀ ρ, mkV "Rule" F_Rule___init__ [.int n, .lst (ns.map T.int), tvT cap, .lst (ks.map kindT)] ρ = .ok (ruleT ⟨n, ns, cap, ks⟩) ρ := fun ρ => by
      have := mk_rule ρ true true hd.l0 hd.rl hd.rb hR.rn (fun c hc => (hd.c0 c hc).1) (by omega) hR.kn
      rw [so] at this
      exact this
    have lk : ∀ a0 a1 a2 a4 a5 a6 a7 a8 : Sl, lcL [3] (setIm 3) mYes (mCall F__law_kind_made [] (mCons (mVar 3) mNil)) (ks.map toldT) [] [a0, a1, a2, .un, a4, a5, a6, a7, a8] = .ok (ks.map kindT) [a0, a1, a2, .un, a4, a5, a6, a7, a8] := fun a0 a1 a2 a4 a5 a6 a7 a8 => lcL_of toldT kindT ks (by omega) fun k hk => by
      have hs := F_made_law (kk k hk)
      exact ⟨_, rfl, [a0, a1, a2, .im (toldT k), a4, a5, a6, a7, a8], by walk_at "mih", rfl⟩
    have tx := F_text hd kk kl
    obtain ⟨mx, d3, g3, pm0, e3⟩ := mixed_ok g2 true (l := ns.map T.int) (by have := hd.rl; simp; omega) (fun t ht => by
      obtain ⟨i, _, rfl⟩ := List.mem_map.mp ht
      exact DT.int i)
    obtain ⟨ms, rfl, pm⟩ := ints_permT pm0
    have e3 : F__law_mixed [.rf d2, .im (.lst (ns.map T.int))] = .ok (.lst (ms.map T.int)) [.rf d3, .im (.lst (ns.map T.int))] := e3
    have hd2 : HdOk n ms cap := ⟨hd.l0, hd.l1, by rw [pm.length_eq]; exact hd.rl, fun i hi => hd.rb i (pm.mem_iff.mp hi), hd.c0⟩
    have tx2 : F__law_text [.im (.tup [.int n, .lst (ms.map T.int), tvT cap, .lst (ks.map toldT)])] = .ok (.str (textS n ms cap ks)) [.im (.tup [.int n, .lst (ms.map T.int), tvT cap, .lst (ks.map toldT)])] := F_text hd2 kk kl
    have st : bStrO tbRS [ruleT ⟨n, ns, cap, ks⟩] = some (.str (textS n ns cap ks)) := str_rule ok
    have rd1 := F_read_rule hd hR.rn kl hR.kn kk
    have rd2 := F_read_rule hd2 (pm.nodup_iff.mpr hR.rn) kl hR.kn kk
    rw [so] at rd1
    rw [srtI_perm pm hR.rs] at rd2
    have eq : oEqT tbRE true (ruleT ⟨n, ns, cap, ks⟩) (ruleT ⟨n, ns, cap, ks⟩) = some (.bl false) := eq_rule ok
    have sm : oNeSm tbKE 1 (.tup [.int n, .tup (ns.map T.int), tvT cap, .tup (ks.map kindT)]) (.tup [.int n, .tup (ns.map T.int), tvT cap, .tup (ks.map kindT)]) = some (.bl false) := oNeSm_eq (sm_rule ⟨n, ns, cap, ks⟩ kk)
    have fc : ∀ (g : T → Sv) (b : Sv) (x : T) (l : List T) (ρ : Ro), forL g b (x :: l) ρ = (match sSeq (g x) b ρ with | .nx ρ2 => forL g b l ρ2 | .ct ρ2 => forL g b l ρ2 | .br ρ2 => .nx ρ2 | o => o) := fun _ _ _ _ _ => rfl
    have fn : ∀ (g : T → Sv) (b : Sv) (ρ : Ro), forL g b [] ρ = .nx ρ := fun _ _ _ => rfl
    refine ⟨[.un, .ow d3, .im x, .im (.str (textS n ns cap ks)), .im (toldR n ns cap ks), .im (ruleT ⟨n, ns, cap, ks⟩), .im (.str (textS n ns cap ks)), .im (.str (textS n ms cap ks)), .im (ruleT ⟨n, ns, cap, ks⟩)], ?_, d3, g3, .inr ⟨_, _, _, _, _, _, _, rfl⟩⟩
    clear hR ok hd kk kl so hd2 pm pm0 hx h1 m0 m1 g g1 g2 g3
    rcases h with rfl | ⟨t2, t3, t4, t5, t6, t7, t8, rfl⟩
    · walk_at "mih"
    · walk_at "mih"
  · obtain ⟨d, g, h⟩ := h
    have q1 := rd_1
    have q2 := rd_2
    have k1 : ∀ ρ, mkV "Still" F_Still___init__ [.str "talk", .int 3, .int 1] ρ = .ok (kindT kdA) ρ := fun ρ => mk_still (tm := some 1) ρ kdA_ok.nm (by decide) (fun c hc => by cases hc; decide)
    have k2 : ∀ ρ, mkV "Anew" F_Anew___init__ [.str "owe", .int 5, .non] ρ = .ok (kindT kdB) ρ := fun ρ => mk_anew (tm := none) ρ kdB_ok.nm (by decide) (fun c hc => by cases hc)
    have k3 : ∀ ρ, mkV "Lift" F_Lift___init__ [.str "a", .int 1, .int 1, .int 1] ρ = .ok (kindT kdC) ρ := fun ρ => mk_lift (tm := some 1) ρ kdC_ok.nm (by decide) (by decide) (fun c hc => by cases hc; decide)
    have m1 : ∀ ρ, mkV "Rule" F_Rule___init__ [.int 10, .tup [.int 5, .int 6], .non, .lst [kindT kdA, kindT kdB]] ρ = .ok (ruleT rlA) ρ := fun ρ => by
      have := mk_rule ρ false true (n := 10) (ns := [5, 6]) (cap := none) (ks := [kdA, kdB]) (by decide) (by decide) (by decide) (by decide) (fun c hc => by cases hc) (by decide) rlA_ok.kn
      rw [srtI_sorted (by decide)] at this
      exact this
    have m2 : ∀ ρ, mkV "Rule" F_Rule___init__ [.int 1, .lst [], .int 1, .lst [kindT kdC]] ρ = .ok (ruleT rlB) ρ := fun ρ => by
      have := mk_rule ρ true true (n := 1) (ns := []) (cap := some 1) (ks := [kdC]) (by decide) (by decide) (by decide) (by decide) (fun c hc => by cases hc; decide) (by decide) rlB_ok.kn
      rw [srtI_sorted (by decide)] at this
      exact this
    have dt : dt_Anew___init___0 = [.non] := rfl
    have eq1 : oEqT tbRE true (ruleT rlA) (ruleT rlA) = some (.bl false) := eq_rule rlA_ok
    have eq2 : oEqT tbRE false (ruleT rlB) (ruleT rlB) = some (.bl true) := eq_rule rlB_ok
    have rr : rlA.rests.map T.int = [.int 5, .int 6] := rfl
    have ne : oNe (.tup [.int 5, .int 6]) (.tup [.int 5, .int 6]) = some (.bl false) := by rfl
    rcases h with rfl | ⟨t2, t3, t4, t5, t6, t7, t8, rfl⟩
    · refine ⟨[.un, .ow d, .un, .im (ruleT rlA), .un, .un, .un, .un, .un], ?_⟩
      walk_at "mih"
    · refine ⟨[.un, .ow d, .im t2, .im (ruleT rlA), .im t4, .im t5, .im t6, .im t7, .im t8], ?_⟩
      walk_at "mih"
end
theorem ok_law {P : Program} {w : World} {K : PySem.W.Frag} {mg : Str → Option Value} {base : Heap} (E : Env K mg w) {fd : FuncData} (F : FunD K "law" "law" (defArgs s_law) (defBody s_law) (defScope s_law) [] [] (He.ga K "law") fd) : FnOk P w K mg base CX0 20 (He.ga K "law") fd ["_law_script"] (spLaw K) := ok_law_of law_rt E F

end Tm

namespace Tm
open PySem PySem.Spec PyProof.Rows L2
abbrev R : PySem.W.OpenRow := PySem.W.OpenLaw.row PySem.Challenge.rw_termstill_k08_texts_of_rules
def nms : List Str := (["_wall", "__name__", "TermError", "InvalidKind", "InvalidRule", "InvalidText", "NoKind", "BARRED", "LETTERS", "SIGNS", "MOST_LETTERS", "MOST_SIGNS", "is_integer", "is_length", "is_name", "is_sequence", "number_in", "Kind", "need", "is_many"] : List Str) ++ (["many_text", "Still", "Anew", "Lift", "FORMS", "told_by", "made_of", "WEEK", "MOST_RESTS", "are_rests", "are_kinds", "head_in", "Rule", "_law_deal", "_law_draw", "_law_pick", "_law_mixed", "_law_names", "_law_kind", "_law_rule"] : List Str) ++ (["_law_kind_text", "_law_text", "_law_kind_made"] : List Str)
theorem run_false (w : World) : HandSHeadRun.RunEq R (PySem.W.view R.prog [47]) (hookM 7 fa ex fn tabs) (obM 7 fa ex fn tabs) 6000 nms (w.withFollow "special-get-raises" false) := by
  intro os
  kernel_rfl
theorem run_true (w : World) : HandSHeadRun.RunEq R (PySem.W.view R.prog [47]) (hookM 7 fa ex fn tabs) (obM 7 fa ex fn tabs) 6000 nms (w.withFollow "special-get-raises" true) := by
  intro os
  kernel_rfl
theorem run (w : World) : HandSHeadRun.RunEq R (PySem.W.view R.prog [47]) (hookM 7 fa ex fn tabs) (obM 7 fa ex fn tabs) 6000 nms w :=
  PySem.W.byRow2 "special-get-raises" (P := fun w => HandSHeadRun.RunEq R (PySem.W.view R.prog [47]) (hookM 7 fa ex fn tabs) (obM 7 fa ex fn tabs) 6000 nms w) run_false run_true w
end Tm

open PySem PySem.W PySem.Calls PyProof.Rows
set_option maxRecDepth 100000 in
set_option maxHeartbeats 0 in
theorem PySem.Challenge.cw_termstill_k08_texts_of_rules_holds : PySem.Challenge.rw_termstill_k08_texts_of_rules.Holds := by
  w_on; o_law
  refine HandSHeadRun.head_any (r := Tm.R) (q := view Tm.R.prog [47]) (H := Tm.hookM 7 Tm.fa Tm.ex Tm.fn Tm.tabs) (ob := Tm.obM 7 Tm.fa Tm.ex Tm.fn Tm.tabs) (M := 6000) (loose := Tm.nms) (d := HandSHeadRun.topDef Tm.R.prog 47) (kwd := []) Tm.obM_eq
    (by kernel_rfl) (fun s => by kernel_rfl) Tm.run (by kernel_rfl) (by kernel_rfl) (by kernel_rfl) (by rfl) (by first | assumption | decide +kernel) (by decide +kernel) ⟨rfl, rfl, rfl, rfl, rfl, by decide +kernel⟩ ?hw ?hc
  case hw => w_witness2
  case hc =>
    refine L2.walk_ofE (l := PySem.Challenge.rw_termstill_k08_texts_of_rules) (n := 63) (k := 20) (x := "_law_script") (CX := L2.CX0) rfl (by decide) (by kernel_rfl) ⟨rfl, by decide, by decide⟩ ?F (fun _ _ _ _ z => z)
    intro w mg fa h Y G hm0
    obtain ⟨K, KX, c⟩ := Y
    have E := Tm.env_of KX G c
    have hm : mg ("law" : PySem.Str) = some (.ref fa) := by
      have e : (HandSHeadRun.topDef Tm.R.prog 47).name = ("law" : PySem.Str) := by kernel_rfl
      rw [← e]
      exact hm0
    have e : fa = He.ga K "law" := by
      have z := hm.symm.trans E.g_law
      cases z
      rfl
    subst e
    obtain ⟨fd, F⟩ := E.f_law
    exact ⟨K, fd, Tm.spLaw K, KX, fun s v => L2.FunD.bindsA (ps := ["_law_script"]) F (fun _ _ _ _ _ _ us hl => match us, hl with | [_], _ => rfl) s [v] rfl, fun H a ns hl _ hS => ⟨a, ns, rfl, hS, hl, fun _ => rfl⟩, fun base _ _ => Tm.ok_law E F⟩
#print axioms PySem.Challenge.cw_termstill_k08_texts_of_rules_holds
