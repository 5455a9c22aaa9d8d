import PyProof.Rows.All
import Wide.All
import OpenK.AllK
import Wide.FinOn
import KE.KStateDown
import Lean
import HandS.ForMost
import HandS.ForExc
import HandS.Defaults
import HandS.IsInst
import HandS.Flow
import HandS.Style
import HandS.Conv
import HandS.Strs
import HandS.SetKeys
import HandS.DictComp
import HandS.Wide
import HandS.FStr
import HandS.Property
import HandS.ClsMeth
import HandS.ExcInit
import HandS.ExcSuper
import HandS.ExcField
import HandS.TryMany
import HandS.SuiteRaise
import HandS.RaiseFrom
import HandS.HotCalls
import HandS.MakeKw
import HandS.SortInts
import HandS.SortKw
import HandS.TupAny
import HandS.TupLe
import HandS.TupMul
import HandS.Zip
import HandS.Deep
import HandS.DeepEq
import HandS.OwnEq
import HandS.Star
import HandS.MethStar
import HandS.Head0
import HandS.Head1
import HandS.Head2
import HandS.HeadEnd
import HandS.HeadHook1
import HandS.HeadHook2
import HandS.HeadHook3
import HandS.HeadNt
import HandS.Evl
import HandS.Steps
import HandS.RaiseOp
import HandS.Remove
import HandS.SetFor
import HandS.DictTup
import PySem.Challenge.RW_termstill_k04_texts_of_kinds
set_option Elab.async false
set_option linter.all false
set_option maxRecDepth 100000
set_option maxHeartbeats 4000000
/-! Part 0: a Hook with a further test of one's own, and short words for the head. -/
namespace Tm
open PySem PySem.Spec PyProof.Rows L2
/-- the j-th default of the def at f, an object -/
def emptyDfl (f : PySem.W.Frag → Addr) (j : Nat) (K : PySem.W.Frag) : Addr :=
  match K.lookup (f K) with
  | some ⟨_, _, .func fd, _⟩ =>
    match fd.defaults with
    | .ref T =>
      match K.lookup T with
      | some ⟨_, _, .seq its _, _⟩ =>
        match its.toList[j]? with
        | some (.ref a) => a
        | _ => 0
      | _ => 0
    | _ => 0
  | _ => 0
/-- what stands at a is a tuple of these -/
def tupAtB (K : PySem.W.Frag) (a : Addr) (vs : List V) : Bool :=
  match K.lookup a with
  | some ⟨.type c, _, .seq its _, _⟩ => decide (c = "tuple") && (decide (its.size ≤ sizeLine) && He.relAll vs its.toList)
  | _ => false
theorem tupAtB_ok {K : PySem.W.Frag} {a : Addr} {vs : List V} (h : tupAtB K a vs = true) (H : Hp) : SqT K H a vs := by
  unfold tupAtB at h
  cases q : K.lookup a with
  | none => rw [q] at h; cases h
  | some o =>
    obtain ⟨oc, od, dt, osl⟩ := o
    rw [q] at h
    cases oc with
    | type c =>
      cases dt with
      | seq its n =>
        have h' := h
        simp only [Bool.and_eq_true, decide_eq_true_eq] at h'
        obtain ⟨h1, h3, h4⟩ := h'
        exact .inr ⟨_, its, n, q, congrArg Value.type h1, rfl, h3, He.relAll_ok h4⟩
      | _ => cases h
    | _ => cases dt <;> cases h
abbrev Al := (Bool × (Bool × List He.FnW)) × List (Option (List (Option (Str × Int))))
def obsM (fa : List He.Fa) (ex : PySem.W.Frag → Bool) (fn : List He5.DefA) (ts : List He.Tab) (K : PySem.W.Frag) : Al :=
  ((ex K, He5.obsA fa fn K), ts.map fun t => He.dicW K (t.1 K))
def valM (fn : List He5.DefA) (ts : List He.Tab) (w : World) : Al := ((true, He5.valA fn), ts.map fun t => some (He.keysIn w.params t.2))
def SaysM (fa : List He.Fa) (ex : PySem.W.Frag → Bool) (fn : List He5.DefA) (ts : List He.Tab) (w : World) (K : PySem.W.Frag) : Prop :=
  obsM fa ex fn ts K = valM fn ts w
section
variable {fa : List He.Fa} {ext : PySem.W.Frag → Bool} {fn : List He5.DefA} {ts : List He.Tab} {w : World} {K : PySem.W.Frag}
theorem SaysM.ex (c : SaysM fa ext fn ts w K) : ext K = true := congrArg (fun z : Al => z.1.1) c
theorem SaysM.a (c : SaysM fa ext fn ts w K) : He5.SaysA fa fn K := congrArg (fun z : Al => z.1.2) c
theorem SaysM.tab (c : SaysM fa ext fn ts w K) (i : Nat) {t : He.Tab} (h : ts[i]? = some t := by rfl) : ∃ es n, KDict K w (t.1 K) es n := by
  have e : ts.map (fun t => He.dicW K (t.1 K)) = ts.map fun t => some (He.keysIn w.params t.2) := congrArg (fun z : Al => z.2) c
  have e2 : (ts.map fun t => He.dicW K (t.1 K))[i]? = (ts.map fun t => some (He.keysIn w.params t.2))[i]? := by rw [e]
  rw [List.getElem?_map, List.getElem?_map, h] at e2
  exact He.dicW_ok (Option.some.inj e2)
end
def hookM (n : Nat) (fa : List He.Fa) (ex : PySem.W.Frag → Bool) (fn : List He5.DefA) (ts : List He.Tab) : PySem.W.Hook where
  α := Al
  obs := fun s => obsM fa ex fn ts (He.frG s.heap.get? (He5.asA s.heap.get? n))
  val := fun w => valM fn ts w
  says := fun w h => ∃ K : PySem.W.Frag, K.In h ∧ SaysM fa ex fn ts w K
  of := fun _ _ e => ⟨_, He.frG_in, e⟩
  keeps := fun _ _ _ ⟨K, hK, c⟩ k => ⟨K, hK.keeps k, c⟩
def obM (n : Nat) (fa : List He.Fa) (ex : PySem.W.Frag → Bool) (fn : List He5.DefA) (ts : List He.Tab) (s : PySem.W.SharedT) : Al :=
  obsM fa ex fn ts (He.frG (HandSHeadRun.getT s) (He5.asA (HandSHeadRun.getT s) n))
theorem obM_eq {n : Nat} {fa : List He.Fa} {ex : PySem.W.Frag → Bool} {fn : List He5.DefA} {ts : List He.Tab} (s : PySem.W.SharedT) :
    obM n fa ex fn ts s = (hookM n fa ex fn ts).obs s.abs := by
  have e : HandSHeadRun.getT s = s.abs.heap.get? := funext (HandSHeadRun.getT_eq s)
  unfold obM
  rw [e]
  rfl
end Tm

/-! Part 1: a def and how it is called, as one fact; short rules. -/
namespace Tm
open PySem PySem.Spec PyProof.Rows L2
theorem bt_len : bootBuiltins "len" = some (.builtin "len") := by decide +kernel
theorem bt_abs : bootBuiltins "abs" = some (.builtin "abs") := by decide +kernel
theorem bt_all : bootBuiltins "all" = some (.builtin "all") := by decide +kernel
theorem bt_any : bootBuiltins "any" = some (.builtin "any") := by decide +kernel
theorem bt_max : bootBuiltins "max" = some (.builtin "max") := by decide +kernel
theorem bt_min : bootBuiltins "min" = some (.builtin "min") := by decide +kernel
theorem bt_sum : bootBuiltins "sum" = some (.builtin "sum") := by decide +kernel
theorem bt_sorted : bootBuiltins "sorted" = some (.builtin "sorted") := by decide +kernel
theorem bt_repr : bootBuiltins "repr" = some (.builtin "repr") := by decide +kernel
theorem bt_isinstance : bootBuiltins "isinstance" = some (.builtin "isinstance") := by decide +kernel
theorem bt_int : bootBuiltins "int" = some (.type "int") := by decide +kernel
theorem bt_bool : bootBuiltins "bool" = some (.type "bool") := by decide +kernel
theorem bt_str : bootBuiltins "str" = some (.type "str") := by decide +kernel
theorem bt_list : bootBuiltins "list" = some (.type "list") := by decide +kernel
theorem bt_tuple : bootBuiltins "tuple" = some (.type "tuple") := by decide +kernel
theorem bt_dict : bootBuiltins "dict" = some (.type "dict") := by decide +kernel
theorem bt_set : bootBuiltins "set" = some (.type "set") := by decide +kernel
theorem bt_range : bootBuiltins "range" = some (.type "range") := by decide +kernel
theorem bt_enumerate : bootBuiltins "enumerate" = some (.type "enumerate") := by decide +kernel
theorem bt_ValueError : bootBuiltins "ValueError" = some (.type "ValueError") := by decide +kernel
theorem bt_TypeError : bootBuiltins "TypeError" = some (.type "TypeError") := by decide +kernel
theorem bt_KeyError : bootBuiltins "KeyError" = some (.type "KeyError") := by decide +kernel
/-- the def at f keeps sp; called with the last parameters left to the defaults dvs -/
structure Dn (P : Program) (w : World) (K : PySem.W.Frag) (mg : Str → Option Value) (base : Heap) (CX : CXT) (k : Nat) (f : Addr) (dvs : List V) (sp : Sp) : Prop where
  ex : ∃ (fd : FuncData) (ps : List Str) (ds : List Value), FnOk P w K mg base CX k f fd ps sp ∧ PySem.W.keepIn K (.ref f) = true ∧ Vals dvs ds ∧ Binds K fd ps ds
section
variable {P : Program} {w : World} {K : PySem.W.Frag} {mg : Str → Option Value} {base : Heap} {CX : CXT} {k : Nat} {f : Addr} {sp : Sp} {dvs : List V}
theorem Dn.imp {sp' : Sp} (D : Dn P w K mg base CX k f dvs sp) (h : ∀ vs H Q E, sp' vs H Q E → sp vs H Q E) : Dn P w K mg base CX k f dvs sp' := by
  obtain ⟨fd, ps, ds, F, a, b, c⟩ := D.ex
  exact ⟨fd, ps, ds, F.imp h, a, b, c⟩
theorem Dn.mono {j : Nat} (D : Dn P w K mg base CX j f dvs sp) (h : j ≤ k) : Dn P w K mg base CX k f dvs sp := by
  obtain ⟨fd, ps, ds, F, a, b, c⟩ := D.ex
  exact ⟨fd, ps, ds, F.mono h, a, b, c⟩
/-- a def without defaults -/
theorem dn_of {x qual : Str} {params : Arguments} {body : List Stmt} {scope : Scope} {ps : List Str} (F : ∃ fd, FunD K x qual params body scope [] [] f fd)
    (h : ∀ fd, FunD K x qual params body scope [] [] f fd → FnOk P w K mg base CX k f fd ps sp)
    (hb : ∀ (kV doc pm : Value) (an : Option Addr) (cdv ct : Value) (us : List Value), us.length = ps.length → bindArgs (PySem.W.fnOf x qual params body scope .none kV doc pm an cdv ct) ⟨us, []⟩ = pure (ps.zip us)) :
    Dn P w K mg base CX k f [] sp := by
  obtain ⟨fd, F⟩ := F
  exact ⟨fd, ps, [], h fd F, F.kp, .nil, F.bindsN hb⟩
/-- a def with defaults: n arguments are written, the defaults behind the first j fill up -/
theorem dn_dfl {x qual : Str} {params : Arguments} {body : List Stmt} {scope : Scope} {ps : List Str} {all : List V} (n j : Nat) (F : ∃ fd, FunD K x qual params body scope all [] f fd) (hd : all ≠ []) (hn : n + (all.length - j) = ps.length)
    (h : ∀ fd, FunD K x qual params body scope all [] f fd → FnOk P w K mg base CX k f fd ps sp)
    (hb : ∀ (T : Addr) (kV doc pm : Value) (an : Option Addr) (cdv ct : Value) (us its : List Value), us.length = n → its.length = all.length →
      ∃ g, bindArgs (PySem.W.fnOf x qual params body scope (.ref T) kV doc pm an cdv ct) ⟨us, []⟩ = seqItems? (.ref T) >>= g ∧ g (some its.toArray) = pure (ps.zip (us ++ its.drop j))) :
    Dn P w K mg base CX k f (all.drop j) sp := by
  obtain ⟨fd, F⟩ := F
  obtain ⟨ds, r, b⟩ := F.binds1 n j hd hn hb
  exact ⟨fd, ps, ds, h fd F, F.kp, r, b⟩
/-- a def with defaults, every argument written -/
theorem dn_full {x qual : Str} {params : Arguments} {body : List Stmt} {scope : Scope} {ps : List Str} {all : List V} (F : ∃ fd, FunD K x qual params body scope all [] f fd)
    (h : ∀ fd, FunD K x qual params body scope all [] f fd → FnOk P w K mg base CX k f fd ps sp)
    (hb : ∀ (dV kV doc pm : Value) (an : Option Addr) (cdv ct : Value) (us : List Value), us.length = ps.length → bindArgs (PySem.W.fnOf x qual params body scope dV kV doc pm an cdv ct) ⟨us, []⟩ = pure (ps.zip us)) :
    Dn P w K mg base CX k f [] sp := by
  obtain ⟨fd, F⟩ := F
  refine ⟨fd, ps, [], h fd F, F.kp, .nil, ?_⟩
  obtain ⟨oc, od, dV, kV, doc, pm, an, cdv, ct, osl, rfl, _⟩ := F.ex
  exact .all (hb dV kV doc pm an cdv ct)
end
section
variable {X : Cx} {CX : CXT} {k : Nat} {f C : Addr} {sp : Sp} {dvs : List V} {E : XK} {x m : Str} {p pos apos : Pos} {e o : Expr} {es : List Expr} {ta : TE} {t : TA}
theorem pe_c (D : Dn X.prog X.w X.K X.mg X.base CX k f dvs sp) (hr : Room k X.A) (hm : X.mg x = some (.ref f)) (hx : Passes CX X E) (ha : PA X (e :: es) t) (hg : Gl X x := by rfl) (hdb : (x == ("__debug__" : Str)) = false := by decide)
    (he : starEach (e :: es) X.env = (false, eval e X.env) :: starEach es X.env := by rfl) (hpl : (backTo pos (starEach es X.env)).any (·.1) = false := by rfl) : PE X (.Call (.Name x p) (e :: es) [] pos) (tCall sp dvs E t) := by
  obtain ⟨fd, ps, ds, F, kp, r, b⟩ := D.ex
  exact pe_call F hr hg hm kp b r hx ha hdb he hpl
theorem pe_c0 (D : Dn X.prog X.w X.K X.mg X.base CX k f dvs sp) (hr : Room k X.A) (hm : X.mg x = some (.ref f)) (hx : Passes CX X E) (hg : Gl X x := by rfl) (hdb : (x == ("__debug__" : Str)) = false := by decide) :
    PE X (.Call (.Name x p) [] [] pos) (tCall sp dvs E tNil) := by
  obtain ⟨fd, ps, ds, F, kp, r, b⟩ := D.ex
  exact pe_call0 F hr hg hm kp b r hx hdb
theorem pe_m {pl : Sem Bool} (he : PE X o ta) (c : Cls X.K C) (hm : Meth X.K C m f) (D : Dn X.prog X.w X.K X.mg X.base CX k f dvs sp) (hr : Room k X.A) (hx : Passes CX X E) (ha : PA X (e :: es) t)
    (hst : starEach (e :: es) X.env = (false, eval e X.env) :: starEach es X.env := by rfl) (hpl : (backTo pos (starEach es X.env)).any (·.1) = false := by rfl)
    (ht : eval (.Call (.Attribute o m apos) (e :: es) [] pos) X.env = (do
      let v ← eval o X.env
      standAt apos.atName
      let (g, first) ← holding [v] (getMethod v m pl)
      callWith pos g first (backTo pos (starEach (e :: es) X.env)) (backToKw pos (keywordEach [] X.env))) := by rfl) :
    PE X (.Call (.Attribute o m apos) (e :: es) [] pos) (tMeth C m sp dvs E ta t) := by
  obtain ⟨fd, ps, ds, F, kp, r, b⟩ := D.ex
  exact pe_meth he c hm F hr b r hx ha hst hpl ht
theorem pe_m0 {pl : Sem Bool} (he : PE X o ta) (c : Cls X.K C) (hm : Meth X.K C m f) (D : Dn X.prog X.w X.K X.mg X.base CX k f dvs sp) (hr : Room k X.A) (hx : Passes CX X E)
    (ht : eval (.Call (.Attribute o m apos) [] [] pos) X.env = (do
      let v ← eval o X.env
      standAt apos.atName
      let (g, first) ← holding [v] (getMethod v m pl)
      callWith pos g first (backTo pos (starEach [] X.env)) (backToKw pos (keywordEach [] X.env))) := by rfl) :
    PE X (.Call (.Attribute o m apos) [] [] pos) (tMeth C m sp dvs E ta tNil) := by
  obtain ⟨fd, ps, ds, F, kp, r, b⟩ := D.ex
  exact pe_meth0 he c hm F hr b r hx ht
theorem pe_mk (M : Mk X.K C f) (D : Dn X.prog X.w X.K X.mg X.base CX k f dvs sp) (hr : Room (k + 1) X.A) (hm : X.mg x = some (.ref C)) (hx : Passes CX X E) (ha : PA X (e :: es) t) (hg : Gl X x := by rfl)
    (hdb : (x == ("__debug__" : Str)) = false := by decide) (he : starEach (e :: es) X.env = (false, eval e X.env) :: starEach es X.env := by rfl) (hpl : (backTo pos (starEach es X.env)).any (·.1) = false := by rfl) :
    PE X (.Call (.Name x p) (e :: es) [] pos) (tMake C sp dvs E t) := by
  obtain ⟨fd, ps, ds, F, kp, r, b⟩ := D.ex
  exact pe_make M F hr hg hm b r hx ha hdb he hpl
theorem pe_mk0 (M : Mk X.K C f) (D : Dn X.prog X.w X.K X.mg X.base CX k f dvs sp) (hr : Room (k + 1) X.A) (hm : X.mg x = some (.ref C)) (hx : Passes CX X E) (hg : Gl X x := by rfl)
    (hdb : (x == ("__debug__" : Str)) = false := by decide) : PE X (.Call (.Name x p) [] [] pos) (tMake C sp dvs E tNil) := by
  obtain ⟨fd, ps, ds, F, kp, r, b⟩ := D.ex
  exact pe_make0 M F hr hg hm b r hx hdb
/-- module's constants and built-in types as values -/
theorem pe_gi {i : Int} (hm : ∃ u, X.mg x = some (.int i u)) (hg : Gl X x := by rfl) (hd : (x == ("__debug__" : Str)) = false := by decide) : PE X (.Name x pos) (tC (.int i)) := by
  obtain ⟨u, e⟩ := hm
  exact pe_glob hg e ⟨_, rfl⟩ hd
theorem pe_gs {z : Str} (hm : ∃ u, X.mg x = some (.str z u)) (hg : Gl X x := by rfl) (hd : (x == ("__debug__" : Str)) = false := by decide) : PE X (.Name x pos) (tC (.str z)) := by
  obtain ⟨u, e⟩ := hm
  exact pe_glob hg e ⟨_, rfl⟩ hd
theorem pe_gr {a : Addr} (hm : X.mg x = some (.ref a)) (hg : Gl X x := by rfl) (hd : (x == ("__debug__" : Str)) = false := by decide) : PE X (.Name x pos) (tC (.ref a)) := pe_glob hg hm rfl hd
theorem pe_ty {n : String} (hm : X.mg x = none) (hv : bootBuiltins x = some (.type n)) (hg : Gl X x := by rfl) (hn : x ≠ "__name__" := by decide) (hd : (x == ("__debug__" : Str)) = false := by decide) : PE X (.Name x pos) (tC (.ty n)) :=
  pe_bltn hg hm hv rfl hn hd
end
end Tm

/-! Part 2: the types of values, heaps that grow, comprehensions that make a new list. -/
namespace Tm
open PySem PySem.Spec PyProof.Rows L2
/-- what isinstance says of a type and one of five built-in ones -/
def kb (t : Value) (n : String) : Bool := decide (t = .type n) || (decide (t = .type "bool") && decide (n = "int"))
structure Typ (K : PySem.W.Frag) (H : Hp) (x : V) (t : Value) : Prop where
  ty : TyX K H x t
  kit : ∀ n, n = "int" ∨ n = "bool" ∨ n = "str" ∨ n = "list" ∨ n = "tuple" → PySem.W.kitOne K t (.type n) = some (kb t n)
section
variable {K : PySem.W.Frag} {H : Hp}
theorem kit_b {s : String} (h1 : kitB s "int" = some (kb (.type s) "int")) (h2 : kitB s "bool" = some (kb (.type s) "bool")) (h3 : kitB s "str" = some (kb (.type s) "str")) (h4 : kitB s "list" = some (kb (.type s) "list"))
    (h5 : kitB s "tuple" = some (kb (.type s) "tuple")) : ∀ n, n = "int" ∨ n = "bool" ∨ n = "str" ∨ n = "list" ∨ n = "tuple" → PySem.W.kitOne K (.type s) (.type n) = some (kb (.type s) n) := by
  rintro n (rfl | rfl | rfl | rfl | rfl)
  · exact kit_ty h1
  · exact kit_ty h2
  · exact kit_ty h3
  · exact kit_ty h4
  · exact kit_ty h5
theorem kits_int : ∀ n, n = "int" ∨ n = "bool" ∨ n = "str" ∨ n = "list" ∨ n = "tuple" → PySem.W.kitOne K (.type "int") (.type n) = some (kb (.type "int") n) :=
  kit_b (by decide +kernel) (by decide +kernel) (by decide +kernel) (by decide +kernel) (by decide +kernel)
theorem kits_bool : ∀ n, n = "int" ∨ n = "bool" ∨ n = "str" ∨ n = "list" ∨ n = "tuple" → PySem.W.kitOne K (.type "bool") (.type n) = some (kb (.type "bool") n) :=
  kit_b (by decide +kernel) (by decide +kernel) (by decide +kernel) (by decide +kernel) (by decide +kernel)
theorem kits_str : ∀ n, n = "int" ∨ n = "bool" ∨ n = "str" ∨ n = "list" ∨ n = "tuple" → PySem.W.kitOne K (.type "str") (.type n) = some (kb (.type "str") n) :=
  kit_b (by decide +kernel) (by decide +kernel) (by decide +kernel) (by decide +kernel) (by decide +kernel)
theorem kits_list : ∀ n, n = "int" ∨ n = "bool" ∨ n = "str" ∨ n = "list" ∨ n = "tuple" → PySem.W.kitOne K (.type "list") (.type n) = some (kb (.type "list") n) :=
  kit_b (by decide +kernel) (by decide +kernel) (by decide +kernel) (by decide +kernel) (by decide +kernel)
theorem kits_tuple : ∀ n, n = "int" ∨ n = "bool" ∨ n = "str" ∨ n = "list" ∨ n = "tuple" → PySem.W.kitOne K (.type "tuple") (.type n) = some (kb (.type "tuple") n) :=
  kit_b (by decide +kernel) (by decide +kernel) (by decide +kernel) (by decide +kernel) (by decide +kernel)
theorem kits_none : ∀ n, n = "int" ∨ n = "bool" ∨ n = "str" ∨ n = "list" ∨ n = "tuple" → PySem.W.kitOne K (.type "NoneType") (.type n) = some (kb (.type "NoneType") n) :=
  kit_b (by decide +kernel) (by decide +kernel) (by decide +kernel) (by decide +kernel) (by decide +kernel)
theorem typ_int (i : Int) : Typ K H (.int i) (.type "int") := ⟨.base (.int i), kits_int⟩
theorem typ_bl (b : Bool) : Typ K H (.bl b) (.type "bool") := ⟨.base (.bl b), kits_bool⟩
theorem typ_str (z : Str) : Typ K H (.str z) (.type "str") := ⟨.base (.str z), kits_str⟩
theorem typ_non : Typ K H .non (.type "NoneType") := ⟨.base .non, kits_none⟩
theorem typ_lst {a : Addr} {xs : List V} (h : H a = some (.lst xs)) : Typ K H (.ref a) (.type "list") := ⟨.base (.lst h), kits_list⟩
theorem typ_tup {a : Addr} {xs : List V} (h : H a = some (.tup xs)) : Typ K H (.ref a) (.type "tuple") := ⟨.base (.tup h), kits_tuple⟩
theorem typ_sqT {a : Addr} {xs : List V} (h : SqT K H a xs) : Typ K H (.ref a) (.type "tuple") := by
  rcases h with (h | ⟨o, h⟩) | ⟨o, its, n, e, c, _⟩
  · exact ⟨.base (.tup h), kits_tuple⟩
  · exact ⟨.fTuple h, kits_tuple⟩
  · exact ⟨.kTuple e c, kits_tuple⟩
theorem typ_sqL {a : Addr} {xs : List V} (h : SqL K H a xs) : Typ K H (.ref a) (.type "list") := by
  rcases h with (h | ⟨o, h⟩) | ⟨o, its, n, e, c, _⟩
  · exact ⟨.base (.lst h), kits_list⟩
  · exact ⟨.base (.frz h), kits_list⟩
  · exact ⟨.kList e c, kits_list⟩
theorem int_aux {x : V} {t : Value} (q : TyX K H x t) (e : t = .type "int") : ∃ i, x = .int i := by
  cases q with
  | base b => cases b <;> first | exact ⟨_, rfl⟩ | exact absurd e (by decide) | exact nomatch e
  | _ => exact absurd e (by decide)
theorem str_aux {x : V} {t : Value} (q : TyX K H x t) (e : t = .type "str") : ∃ i, x = .str i := by
  cases q with
  | base b => cases b <;> first | exact ⟨_, rfl⟩ | exact absurd e (by decide) | exact nomatch e
  | _ => exact absurd e (by decide)
theorem Typ.isInt {x : V} (h : Typ K H x (.type "int")) : ∃ i, x = .int i := int_aux h.ty rfl
theorem Typ.isStr {x : V} (h : Typ K H x (.type "str")) : ∃ z, x = .str z := str_aux h.ty rfl
theorem Typ.int_t {i : Int} {t : Value} (h : Typ K H (.int i) t) : t = .type "int" := by
  have q := h.ty
  cases q with
  | base b => cases b; rfl
theorem Typ.str_t {z : Str} {t : Value} (h : Typ K H (.str z) t) : t = .type "str" := by
  have q := h.ty
  cases q with
  | base b => cases b; rfl
theorem Typ.non_t {t : Value} (h : Typ K H .non t) : t = .type "NoneType" := by
  have q := h.ty
  cases q with
  | base b => cases b; rfl
theorem Typ.bl_t {b : Bool} {t : Value} (h : Typ K H (.bl b) t) : t = .type "bool" := by
  have q := h.ty
  cases q with
  | base b => cases b; rfl
end
/-! ### heaps -/
theorem same_new {H : Hp} {p : Addr} {o : HO} (h : H p = none) : Same H (upd H p o) := fun a u e => by
  rw [upd_ne (ne_of_none e h)]
  exact e
theorem same_sqT {K : PySem.W.Frag} {H H' : Hp} {a : Addr} {xs : List V} (e : Same H H') (h : SqT K H a xs) : SqT K H' a xs := by
  rcases h with (h | ⟨o, h⟩) | h
  · exact .inl (.inl (e _ _ h))
  · exact .inl (.inr ⟨o, e _ _ h⟩)
  · exact .inr h
/-- all but what stands at D -/
def Off (D : Addr) (H H' : Hp) : Prop := ∀ b o, b ≠ D → H b = some o → H' b = some o
theorem Off.same {D : Addr} {H H' : Hp} (h : H D = none) (o : Off D H H') : Same H H' := fun b u e => o b u (ne_of_none e h) e
section
variable {K : PySem.W.Frag} {a D : Addr} {xs : List V} {g : TG} {tt : TT} {te : TE} {vs : List Nat} {σ : L2.St} {H : Hp} {Qd : Hp → Prop}
/-- one turn of a comprehension: the item is taken just if b, it becomes f; nothing old changes -/
abbrev LcTurn (g : TG) (tt : TT) (te : TE) (vs : List Nat) (σ : L2.St) (H : Hp) (x : V) (b : Bool) (f : V) : Prop :=
  ∀ H1, Same H H1 → ∀ (R : V → Hp → Prop) (S : Hp → Prop), (b = true → ∀ H2, Same H1 H2 → R f H2) → (b = false → ∀ H2, Same H1 H2 → S H2) →
    g x (wipe σ vs) H1 fun σ2 H2 => wipe σ2 vs = wipe σ vs ∧ tt σ2 H2 fun c H3 => if c = true then te σ2 H3 R else S H3
theorem take_step (b : V → Bool) (f : V → V) (l : List V) {i : Nat} {x : V} (h : l[i]? = some x) :
    ((l.take (i + 1)).filter b).map f = ((l.take i).filter b).map f ++ (if b x then [f x] else []) := by
  rw [List.take_add_one, h, List.filter_append, List.map_append]
  cases e : b x <;> simp [e]
theorem take_len (b : V → Bool) (f : V → V) (l : List V) (i : Nat) : (((l.take i).filter b).map f).length ≤ l.length := by
  rw [List.length_map]
  exact Nat.le_trans (List.length_filter_le _ _) (by rw [List.length_take]; omega)
/-- what stands between two turns -/
def LcInv (b : V → Bool) (f : V → V) (H : Hp) (D : Addr) (l : List V) (i : Nat) (H' : Hp) : Prop := Same H H' ∧ H' D = some (.lst (((l.take i).filter b).map f))
theorem lc_start (b : V → Bool) (f : V → V) (l : List V) (hD : H D = none) : LcInv b f H D l 0 (upd H D (.lst [])) := ⟨same_new hD, by rw [upd_same]; simp⟩
theorem lc_turn {b : V → Bool} {f : V → V} {l : List V} {i : Nat} {x : V} {H' : Hp} (hD : H D = none) (hn : l.length < sizeLine) (hx : l[i]? = some x) (p : LcInv b f H D l i H') (ht : LcTurn g tt te vs σ H x (b x) (f x)) :
    g x (wipe σ vs) H' fun σ2 H2 => wipe σ2 vs = wipe σ vs ∧ tt σ2 H2 fun c H3 => if c = true then te σ2 H3 fun y H4 => ∃ acc, H4 D = some (.lst acc) ∧ acc.length < sizeLine ∧ LcInv b f H D l (i + 1) (upd H4 D (.lst (acc ++ [y]))) else LcInv b f H D l (i + 1) H3 := by
  obtain ⟨p1, p2⟩ := p
  refine ht H' p1 _ _ (fun hb H2 s2 => ?_) (fun hb H2 s2 => ?_)
  · refine ⟨_, s2 _ _ p2, Nat.lt_of_le_of_lt (take_len b f l i) hn, fun c o e => ?_, ?_⟩
    · rw [upd_ne (ne_of_none e hD)]
      exact s2 _ _ (p1 _ _ e)
    · rw [upd_same, take_step b f l hx, hb]
      rfl
  · refine ⟨p1.trans s2, ?_⟩
    rw [take_step b f l hx, hb]
    simpa using s2 _ _ p2
theorem lc_L (b : V → Bool) (f : V → V) (hS : SqL K H a xs) (hn : xs.length < sizeLine) (hD : H D = none) (ht : ∀ x ∈ xs, LcTurn g tt te vs σ H x (b x) (f x))
    (hd : ∀ H', Same H H' → H' D = some (.lst ((xs.filter b).map f)) → Qd H') :
    ∃ W : Nat → Nat → Hp → Prop, (∃ m, W 0 m (upd H D (.lst []))) ∧ ∀ i m H', W i m H' →
      ((Itl K a).stop i H' ∧ Qd H') ∨ ((Itl K a).go i H' ∧ ∃ Nx : Hp → Prop, (∀ H2, Nx H2 → ∃ m', m' < m ∧ W (i + 1) m' H2) ∧ ∀ x H2, (Itl K a).yld i H' x H2 → g x (wipe σ vs) H2 fun σ2 H3 => wipe σ2 vs = wipe σ vs ∧ tt σ2 H3 fun c H4 =>
        if c = true then te σ2 H4 fun y H5 => ∃ acc, H5 D = some (.lst acc) ∧ acc.length < sizeLine ∧ Nx (upd H5 D (.lst (acc ++ [y]))) else Nx H4) :=
  lc_list (LcInv b f H D xs) (lc_start b f xs hD) (fun i H' _ p => p.1.seq hS) (fun i x H' hx p => lc_turn hD hn hx p (ht x (List.mem_of_getElem? hx))) fun H' p => hd H' p.1 (by have := p.2; rwa [List.take_length] at this)
theorem lc_T (b : V → Bool) (f : V → V) (hS : SqT K H a xs) (hn : xs.length < sizeLine) (hD : H D = none) (ht : ∀ x ∈ xs, LcTurn g tt te vs σ H x (b x) (f x))
    (hd : ∀ H', Same H H' → H' D = some (.lst ((xs.filter b).map f)) → Qd H') :
    ∃ W : Nat → Nat → Hp → Prop, (∃ m, W 0 m (upd H D (.lst []))) ∧ ∀ i m H', W i m H' →
      ((Itt K a).stop i H' ∧ Qd H') ∨ ((Itt K a).go i H' ∧ ∃ Nx : Hp → Prop, (∀ H2, Nx H2 → ∃ m', m' < m ∧ W (i + 1) m' H2) ∧ ∀ x H2, (Itt K a).yld i H' x H2 → g x (wipe σ vs) H2 fun σ2 H3 => wipe σ2 vs = wipe σ vs ∧ tt σ2 H3 fun c H4 =>
        if c = true then te σ2 H4 fun y H5 => ∃ acc, H5 D = some (.lst acc) ∧ acc.length < sizeLine ∧ Nx (upd H5 D (.lst (acc ++ [y]))) else Nx H4) :=
  lc_tup (LcInv b f H D xs) (lc_start b f xs hD) (fun i H' _ p => same_sqT p.1 hS) (fun i x H' hx p => lc_turn hD hn hx p (ht x (List.mem_of_getElem? hx))) fun H' p => hd H' p.1 (by have := p.2; rwa [List.take_length] at this)
/-- the ints of a range -/
def rgV (lo : Int) (n : Nat) : List V := (List.range n).map fun (i : Nat) => V.int (lo + (i : Int))
theorem rgV_len (lo : Int) (n : Nat) : (rgV lo n).length = n := by simp [rgV]
theorem rgV_at {lo : Int} {n i : Nat} (h : i < n) : (rgV lo n)[i]? = some (.int (lo + (i : Int))) := by simp [rgV, h]
theorem lc_R {lo : Int} {n : Nat} (b : V → Bool) (f : V → V) (hn : n < sizeLine) (hD : H D = none) (ht : ∀ i, i < n → LcTurn g tt te vs σ H (.int (lo + (i : Int))) (b (.int (lo + (i : Int)))) (f (.int (lo + (i : Int)))))
    (hd : ∀ H', Same H H' → H' D = some (.lst (((rgV lo n).filter b).map f)) → Qd H') :
    ∃ W : Nat → Nat → Hp → Prop, (∃ m, W 0 m (upd H D (.lst []))) ∧ ∀ i m H', W i m H' →
      ((Itr lo n).stop i H' ∧ Qd H') ∨ ((Itr lo n).go i H' ∧ ∃ Nx : Hp → Prop, (∀ H2, Nx H2 → ∃ m', m' < m ∧ W (i + 1) m' H2) ∧ ∀ x H2, (Itr lo n).yld i H' x H2 → g x (wipe σ vs) H2 fun σ2 H3 => wipe σ2 vs = wipe σ vs ∧ tt σ2 H3 fun c H4 =>
        if c = true then te σ2 H4 fun y H5 => ∃ acc, H5 D = some (.lst acc) ∧ acc.length < sizeLine ∧ Nx (upd H5 D (.lst (acc ++ [y]))) else Nx H4) :=
  lc_range (LcInv b f H D (rgV lo n)) (lc_start b f _ hD) (fun i H' hi p => lc_turn hD (by rw [rgV_len]; exact hn) (rgV_at hi) p (ht i hi)) fun H' p => hd H' p.1 (by have := p.2; rwa [List.take_of_length_le (by rw [rgV_len]; exact Nat.le_refl _)] at this)
end
end Tm

/-! Part 3: len(set(xs)) of ints, whether they are unlike. -/
namespace Tm
open PySem PySem.Spec PyProof.Rows L2
theorem nodup_le {α : Type} [DecidableEq α] : ∀ {l ns : List α}, l.Nodup → (∀ x ∈ l, x ∈ ns) → l.length ≤ ns.length
  | [], _, _, _ => Nat.zero_le _
  | x :: l, ns, h, hs => by
    obtain ⟨h1, h2⟩ := List.nodup_cons.mp h
    have hx : x ∈ ns := hs x (List.mem_cons_self ..)
    have ih : l.length ≤ (ns.erase x).length := nodup_le h2 fun y hy => by
      have ne : y ≠ x := fun e => h1 (e ▸ hy)
      exact (List.mem_erase_of_ne ne).mpr (hs y (List.mem_cons_of_mem _ hy))
    rw [List.length_erase_of_mem hx] at ih
    have := List.length_pos_of_mem hx
    simp only [List.length_cons]
    omega
/-- a list of the members of ns without a double one has its length just if ns has none -/
theorem nodup_iff {α : Type} [DecidableEq α] : ∀ {ns l : List α}, l.Nodup → (∀ x, x ∈ l ↔ x ∈ ns) → (l.length = ns.length ↔ ns.Nodup)
  | ns, l, h, hm => by
    constructor
    · intro e
      induction ns generalizing l with
      | nil => exact List.nodup_nil
      | cons y ns ih =>
        refine List.nodup_cons.mpr ?_
        have hy : y ∈ l := (hm y).mpr (List.mem_cons_self ..)
        have hn : y ∉ ns := by
          intro hyn
          have : l.length ≤ ns.length := nodup_le h fun x hx => by
            rcases List.mem_cons.mp ((hm x).mp hx) with rfl | z
            · exact hyn
            · exact z
          simp only [List.length_cons] at e
          omega
        refine ⟨hn, ih (l := l.erase y) (h.erase y) (fun x => ?_) ?_⟩
        · rw [h.mem_erase_iff, hm x, List.mem_cons]
          constructor
          · rintro ⟨ne, rfl | z⟩
            · exact absurd rfl ne
            · exact z
          · intro z
            exact ⟨fun e => hn (e ▸ z), Or.inr z⟩
        · rw [List.length_erase_of_mem hy, e]
          simp
    · intro hn
      exact Nat.le_antisymm (nodup_le h fun x hx => (hm x).mp hx) (nodup_le hn fun x hx => (hm x).mpr hx)
theorem firstMet_nd (val : Nat → Int) : ∀ i, (PyProof.Rows.firstMet val i).Nodup
  | 0 => List.nodup_nil
  | i + 1 => by
    have ih := firstMet_nd val i
    rw [PyProof.Rows.firstMet_succ]
    unfold PyProof.Rows.step_dedup
    split
    · exact ih
    · rename_i hc
      refine List.nodup_append.mpr ⟨ih, by simp, fun a ha b hb => ?_⟩
      rw [List.mem_singleton] at hb
      subst hb
      intro e
      apply hc
      rw [List.any_eq_true]
      exact ⟨a, ha, by simp [e]⟩
theorem firstMet_mem (ns : List Int) (k : Int) : k ∈ PyProof.Rows.firstMet (fun i => ns.getD i 0) ns.length ↔ k ∈ ns := by
  have e : ((List.range ns.length).map fun i => ns.getD i 0) = ns := by
    apply List.ext_getElem
    · simp
    · intro i h1 h2
      simp [List.getD_eq_getElem?_getD, h2]
  have h := PyProof.Rows.firstMet_any (fun i => ns.getD i 0) ns.length k
  rw [e] at h
  constructor
  · intro hk
    have : (PyProof.Rows.firstMet (fun i => ns.getD i 0) ns.length).any (· == k) = true := List.any_eq_true.mpr ⟨k, hk, by simp⟩
    rw [h] at this
    obtain ⟨y, hy, ey⟩ := List.any_eq_true.mp this
    rw [← eq_of_beq ey]
    exact hy
  · intro hk
    have : ns.any (· == k) = true := List.any_eq_true.mpr ⟨k, hk, by simp⟩
    rw [← h] at this
    obtain ⟨y, hy, ey⟩ := List.any_eq_true.mp this
    rw [← eq_of_beq ey]
    exact hy
def tLenSet (K : PySem.W.Frag) (ta : TE) : TE := fun σ H Q => ta σ H fun x H1 => ∃ (l : Addr) (ns : List Int), x = .ref l ∧ (SqL K H1 l (ns.map V.int) ∨ SqT K H1 l (ns.map V.int)) ∧ ns.length ≤ 1000 ∧ ∀ m : Nat, (m = ns.length ↔ ns.Nodup) → Q (.int m) H1
theorem pe_lenSet0 {X : Cx} {a : Expr} {ta : TE} {p p2 q pos : Pos} (hm : X.mg "len" = none) (hm2 : X.mg "set" = none) (ha : PE X a ta) (hg : Gl X "len" := by rfl) (hg2 : Gl X "set" := by rfl) (hc : X.calm = true := by rfl)
    (na : starEach [a] X.env = (false, eval a X.env) :: starEach [] X.env := by rfl) : PE X (.Call (.Name "len" p) [.Call (.Name "set" p2) [a] [] q] [] pos) (tLenSet X.K ta) := by
  refine ⟨fun pins s σ H Q I h => ?_⟩
  refine Call_ (ld_blt I hg hm bt_len ?_)
  refine callWith_builtin1 (args_cons ?_ rfl) rfl rfl
  refine Call_ (ld_blt I hg2 hm2 bt_set ?_)
  refine callWith_type1 (args_cons (thn (ha.run pins s σ H _ I h) fun v s1 ⟨x, H1, I1, r1, q1⟩ => args_nil ?_) na) na rfl
  obtain ⟨l, ns, rfl, hq, hl, q1⟩ := q1
  cases r1
  have sb : ns.length + 1 < scanBound := by
    unfold scanBound
    omega
  rcases hq with hq | hq
  · obtain ⟨its, r, pl, hz⟩ := I1.list hq
    have hlen : its.toArray.size = ns.length := by rw [List.size_toArray, ← r.length, List.length_map]
    refine call_set_list (I1.ok.hd hc) pl.isList (by simpa using RZ.intsAre_vals r) (by rw [hlen]; exact sb) fun h' tk hS hk => ?_
    refine args_nil ?_
    rw [hlen] at hS
    obtain ⟨o, es, ep, t, ho, hex, hd, _, _, _, hf, hn⟩ := hS
    have I2 : Inv X pins σ H1 { s1 with heap := h', toks := tk } := I1.kept fun b o e => hk b o (Heap.lt_size e) e
    have hle := PyProof.Rows.firstMet_length_le (fun i => ns.getD i 0) ns.length
    exact call_len_set ho hex hd hf (by rw [hn]; omega) ⟨.int _, H1, I2.tok _, ⟨_, rfl⟩, q1 _ (by rw [hn]; exact nodup_iff (firstMet_nd _ _) (firstMet_mem ns))⟩
  · obtain ⟨its, r, tp, hz⟩ := I1.tuple hq
    refine call_set_tupI ns (I1.ok.hd hc) tp (by simpa using RZ.intsAre_vals r) sb fun h' tk c hS hcn hk => ?_
    refine args_nil ?_
    obtain ⟨o, es, ep, t, ho, hex, hd, _, hnd, hmem, _, hf, hn, _⟩ := hS
    have I2 : Inv X pins σ H1 { s1 with heap := h', toks := tk } := I1.kept fun b o e => hk b o e
    refine call_len_set ho hex hd hf (by rw [hn]; omega) ⟨.int _, H1, I2.tok _, ⟨_, rfl⟩, q1 _ ?_⟩
    have z := nodup_iff (ns := ns) hnd fun k => by
      rw [← hmem k]
      simp
    rw [List.length_map, Array.length_toList] at z
    exact z
theorem pe_lenSet {X : Cx} (K : PySem.W.Frag) {a : Expr} {ta : TE} {p p2 q pos : Pos} (hm : X.mg "len" = none) (hm2 : X.mg "set" = none) (ha : PE X a ta) (hg : Gl X "len" := by rfl) (hg2 : Gl X "set" := by rfl) (hc : X.calm = true := by rfl)
    (na : starEach [a] X.env = (false, eval a X.env) :: starEach [] X.env := by rfl) (hK : X.K = K := by rfl) : PE X (.Call (.Name "len" p) [.Call (.Name "set" p2) [a] [] q] [] pos) (tLenSet K ta) := by
  subst hK
  exact pe_lenSet0 hm hm2 ha hg hg2 hc na
end Tm

/-! Part 4: walks over a list or a tuple; any values and their items. -/
namespace Tm
open PySem PySem.Spec PyProof.Rows L2
theorem Typ.mono {K : PySem.W.Frag} {H H' : Hp} {x : V} {t : Value} (T : Typ K H x t) (h : Same H H') : Typ K H' x t := by
  refine ⟨?_, T.kit⟩
  have q := T.ty
  cases q with
  | base b =>
    cases b with
    | non => exact .base .non
    | bl y => exact .base (.bl y)
    | int i => exact .base (.int i)
    | str y => exact .base (.str y)
    | flt y => exact .base (.flt y)
    | lst e => exact .base (.lst (h _ _ e))
    | frz e => exact .base (.frz (h _ _ e))
    | tup e => exact .base (.tup (h _ _ e))
    | dK e => exact .base (.dK (h _ _ e))
    | dT e => exact .base (.dT (h _ _ e))
    | ins e cl ha hn htk hm => exact .base (.ins (h _ _ e) cl ha hn htk hm)
  | byt y => exact .byt y
  | set e => exact .set (h _ _ e)
  | kList e c => exact .kList e c
  | kTuple e c => exact .kTuple e c
  | kDict e c => exact .kDict e c
  | fTuple e => exact .fTuple (h _ _ e)
  | fDict e => exact .fDict (h _ _ e)
/-- two ways that go on alike -/
theorem cut_if {c A B R : Prop} [Decidable c] (h1 : c → R → A) (h2 : ¬ c → R → B) (r : R) : if c then A else B := by
  by_cases h : c
  · rw [if_pos h]
    exact h1 h r
  · rw [if_neg h]
    exact h2 h r
/-- a list or a tuple of these -/
def Sq (K : PySem.W.Frag) (H : Hp) (a : Addr) (xs : List V) : Prop := SqL K H a xs ∨ SqT K H a xs
theorem Sq.mono {K : PySem.W.Frag} {H H' : Hp} {a : Addr} {xs : List V} (h : Sq K H a xs) (s : Same H H') : Sq K H' a xs := by
  rcases h with h | h
  · exact .inl (s.seq h)
  · exact .inr (same_sqT s h)
theorem isSeq_of {K : PySem.W.Frag} {H : Hp} {a : Addr} {xs : List V} (h : Sq K H a xs) : ∃ t, Typ K H (.ref a) t ∧ (t = .type "list" ∨ t = .type "tuple") := by
  rcases h with h | h
  · exact ⟨_, typ_sqL h, .inl rfl⟩
  · exact ⟨_, typ_sqT h, .inr rfl⟩
def iSeq (K : PySem.W.Frag) (tl : TE) : TI := fun σ H R => tl σ H fun x H1 => ∃ (a : Addr) (xs : List V), x = .ref a ∧ Sq K H1 a xs ∧ (SqL K H1 a xs → R (Itl K a) H1) ∧ (SqT K H1 a xs → R (Itt K a) H1)
theorem pi_seq {X : Cx} {tg l : Expr} {tl : TE} (hl : PE X l tl) : PI X tg l (iSeq X.K tl) := by
  constructor
  intro pins s σ H R I h
  refine thn (hl.run pins s σ H _ I h) ?_
  rintro v s1 ⟨x, H1, I1, r1, a, xs, e, hq, qL, qT⟩
  subst e
  cases r1
  have fp : ∀ b ∈ [s1.heap.objs.size], FpOk X pins H1 b := fun b hb => by
    rw [List.mem_singleton] at hb
    rw [hb]
    exact I1.fpOk (Nat.le_refl _) (I1.hok.fresh (Nat.le_refl _))
  rcases hq with hq | hq
  · obtain ⟨its, rv, p, hz⟩ := I1.list hq
    exact wpAny_pyIter_list p.isList ⟨_, [s1.heap.objs.size], _, _, H1, rfl, I1.kept (t' := s1.toks) fun b o z => Heap.get?_push_of_some _ z, turn_list a _, ⟨_, Heap.get?_push_size _ rfl, rfl, rfl⟩, fp, qL hq⟩
  · obtain ⟨its, rv, p, hz⟩ := I1.tuple hq
    exact wpAny_pyIter_tuple (show s1.heap.IsTuple a its.toArray from p) ⟨_, [s1.heap.objs.size], _, _, H1, rfl, I1.kept (t' := s1.toks) fun b o z => Heap.get?_push_of_some _ z, turn_tuple a _, ⟨_, Heap.get?_push_size _ rfl, rfl, rfl⟩, fp, qT hq⟩
/-- a comprehension behind its iterable: that is a list or a tuple at x -/
def lcRun (g : TG) (tt : TT) (te : TE) (vs : List Nat) (σ : L2.St) (Q : VK) (J : It) (H1 : Hp) : Prop := ∀ D, H1 D = none → ∃ W : Nat → Nat → Hp → Prop, (∃ m, W 0 m (upd H1 D (.lst []))) ∧ ∀ i m H, W i m H →
  (J.stop i H ∧ Q (.ref D) H) ∨ (J.go i H ∧ ∃ Nx : Hp → Prop, (∀ H', Nx H' → ∃ m', m' < m ∧ W (i + 1) m' H') ∧ ∀ x H', J.yld i H x H' → g x (wipe σ vs) H' fun σ2 H2 => wipe σ2 vs = wipe σ vs ∧ tt σ2 H2 fun b H3 =>
    if b = true then te σ2 H3 fun y H4 => ∃ acc, H4 D = some (.lst acc) ∧ acc.length < sizeLine ∧ Nx (upd H4 D (.lst (acc ++ [y]))) else Nx H3)
def lcBody (K : PySem.W.Frag) (g : TG) (tt : TT) (te : TE) (vs : List Nat) (σ : L2.St) (Q : VK) : VK := fun x H1 => ∃ (a : Addr) (xs : List V), x = .ref a ∧ Sq K H1 a xs ∧ (SqL K H1 a xs → lcRun g tt te vs σ Q (Itl K a) H1) ∧ (SqT K H1 a xs → lcRun g tt te vs σ Q (Itt K a) H1)
theorem tLc_eq {K : PySem.W.Frag} {tl : TE} {g : TG} {tt : TT} {te : TE} {vs : List Nat} {σ : L2.St} {H : Hp} {Q : VK} : tLc (iSeq K tl) g tt te vs σ H Q = tl σ H (lcBody K g tt te vs σ Q) := rfl
theorem lcb_S {K : PySem.W.Frag} {a : Addr} {xs : List V} {g : TG} {tt : TT} {te : TE} {vs : List Nat} {σ : L2.St} {H : Hp} {Q : VK} (b : V → Bool) (f : V → V)
    (hS : Sq K H a xs) (hn : xs.length < sizeLine) (ht : ∀ x ∈ xs, LcTurn g tt te vs σ H x (b x) (f x))
    (hd : ∀ D H', H D = none → Same H H' → H' D = some (.lst ((xs.filter b).map f)) → Q (.ref D) H') : lcBody K g tt te vs σ Q (.ref a) H := by
  refine ⟨a, xs, rfl, hS, fun h D hD => ?_, fun h D hD => ?_⟩
  · exact lc_L b f h hn hD ht fun H' s e => hd D H' hD s e
  · exact lc_T b f h hn hD ht fun H' s e => hd D H' hD s e
/-- a comprehension over a list or a tuple, nothing old changes: its whole reading -/
theorem lc_S {K : PySem.W.Frag} {a : Addr} {xs : List V} {g : TG} {tt : TT} {te tl : TE} {vs : List Nat} {σ : L2.St} {H : Hp} {Q : VK} (b : V → Bool) (f : V → V)
    (hl : ∀ R : VK, R (.ref a) H → tl σ H R) (hS : Sq K H a xs) (hn : xs.length < sizeLine) (ht : ∀ x ∈ xs, LcTurn g tt te vs σ H x (b x) (f x))
    (hd : ∀ D H', H D = none → Same H H' → H' D = some (.lst ((xs.filter b).map f)) → Q (.ref D) H') : tLc (iSeq K tl) g tt te vs σ H Q := by
  refine hl _ ⟨a, xs, rfl, hS, fun h D hD => ?_, fun h D hD => ?_⟩
  · exact lc_L b f h hn hD ht fun H' s e => hd D H' hD s e
  · exact lc_T b f h hn hD ht fun H' s e => hd D H' hD s e
/-- .. without a test -/
theorem lc_M {K : PySem.W.Frag} {a : Addr} {xs : List V} {g : TG} {te tl : TE} {vs : List Nat} {σ : L2.St} {H : Hp} {Q : VK} (f : V → V)
    (hl : ∀ R : VK, R (.ref a) H → tl σ H R) (hS : Sq K H a xs) (hn : xs.length < sizeLine)
    (ht : ∀ x ∈ xs, ∀ H1, Same H H1 → ∀ R : V → Hp → Prop, (∀ H2, Same H1 H2 → R (f x) H2) → g x (wipe σ vs) H1 fun σ2 H2 => wipe σ2 vs = wipe σ vs ∧ te σ2 H2 R)
    (hd : ∀ D H', H D = none → Same H H' → H' D = some (.lst (xs.map f)) → Q (.ref D) H') (hg : ∀ x τ H1 R R', (∀ τ' H', R τ' H' → R' τ' H') → g x τ H1 R → g x τ H1 R') : tLc (iSeq K tl) g tYes te vs σ H Q := by
  refine lc_S (fun _ => true) f hl hS hn (fun x hx H1 s1 R S hR hS => ?_) fun D H' hD s e => hd D H' hD s (by rw [e, List.filter_eq_self.mpr fun _ _ => rfl])
  exact hg _ _ _ _ _ (fun τ' H' z => ⟨z.1, z.2⟩) (ht x hx H1 s1 R (hR rfl))
/-- .. the items told one by one -/
def LpInv (H : Hp) (D : Addr) (ys : List V) (i : Nat) (H' : Hp) : Prop := Same H H' ∧ H' D = some (.lst (ys.take i))
theorem lcb_P {K : PySem.W.Frag} {a : Addr} {xs ys : List V} {g : TG} {te : TE} {vs : List Nat} {σ : L2.St} {H : Hp} {Q : VK}
    (hS : Sq K H a xs) (hn : xs.length < sizeLine) (hy : ys.length = xs.length)
    (ht : ∀ (i : Nat) (x y : V), xs[i]? = some x → ys[i]? = some y → ∀ H1, Same H H1 → ∀ R : V → Hp → Prop, (∀ H2, Same H1 H2 → R y H2) → g x (wipe σ vs) H1 fun σ2 H2 => wipe σ2 vs = wipe σ vs ∧ te σ2 H2 R)
    (hd : ∀ D H', H D = none → Same H H' → H' D = some (.lst ys) → Q (.ref D) H') (hg : ∀ x τ H1 R R', (∀ τ' H', R τ' H' → R' τ' H') → g x τ H1 R → g x τ H1 R') : lcBody K g tYes te vs σ Q (.ref a) H := by
  have start : ∀ D, H D = none → LpInv H D ys 0 (upd H D (.lst [])) := fun D hD => ⟨same_new hD, by rw [upd_same]; rfl⟩
  have turn : ∀ D, H D = none → ∀ i x H', xs[i]? = some x → LpInv H D ys i H' → g x (wipe σ vs) H' fun σ2 H2 => wipe σ2 vs = wipe σ vs ∧ tYes σ2 H2 fun b H3 =>
      if b = true then te σ2 H3 fun y H4 => ∃ acc, H4 D = some (.lst acc) ∧ acc.length < sizeLine ∧ LpInv H D ys (i + 1) (upd H4 D (.lst (acc ++ [y]))) else LpInv H D ys (i + 1) H3 := by
    intro D hD i x H' hx ⟨p1, p2⟩
    have hi : i < ys.length := by
      rw [hy]
      exact (List.getElem?_eq_some_iff.mp hx).1
    have ey : ys[i]? = some ys[i] := List.getElem?_eq_getElem hi
    refine hg _ _ _ _ _ (fun τ' H' z => ⟨z.1, z.2⟩) (ht i x _ hx ey H' p1 (fun y H4 => ∃ acc, H4 D = some (.lst acc) ∧ acc.length < sizeLine ∧ LpInv H D ys (i + 1) (upd H4 D (.lst (acc ++ [y])))) fun H5 s5 => ?_)
    refine ⟨_, s5 _ _ p2, ?_, fun c o e => ?_, ?_⟩
    · rw [List.length_take]
      exact Nat.lt_of_le_of_lt (Nat.min_le_right _ _) (by rw [hy]; exact hn)
    · rw [upd_ne (ne_of_none e hD)]
      exact s5 _ _ (p1 _ _ e)
    · rw [upd_same, List.take_add_one, ey]
      rfl
  have whole : ∀ D H', LpInv H D ys xs.length H' → H' D = some (.lst ys) := fun D H' p => by
    have := p.2
    rwa [← hy, List.take_length] at this
  refine ⟨a, xs, rfl, hS, fun h D hD => ?_, fun h D hD => ?_⟩
  · exact lc_list (LpInv H D ys) (start D hD) (fun i H' _ p => p.1.seq h) (fun i x H' hx p => turn D hD i x H' hx p) fun H' p => hd D H' hD p.1 (whole D H' p)
  · exact lc_tup (LpInv H D ys) (start D hD) (fun i H' _ p => same_sqT p.1 h) (fun i x H' hx p => turn D hD i x H' hx p) fun H' p => hd D H' hD p.1 (whole D H' p)
theorem lc_P {K : PySem.W.Frag} {a : Addr} {xs ys : List V} {g : TG} {te tl : TE} {vs : List Nat} {σ : L2.St} {H : Hp} {Q : VK}
    (hl : ∀ R : VK, R (.ref a) H → tl σ H R) (hS : Sq K H a xs) (hn : xs.length < sizeLine) (hy : ys.length = xs.length)
    (ht : ∀ (i : Nat) (x y : V), xs[i]? = some x → ys[i]? = some y → ∀ H1, Same H H1 → ∀ R : V → Hp → Prop, (∀ H2, Same H1 H2 → R y H2) → g x (wipe σ vs) H1 fun σ2 H2 => wipe σ2 vs = wipe σ vs ∧ te σ2 H2 R)
    (hd : ∀ D H', H D = none → Same H H' → H' D = some (.lst ys) → Q (.ref D) H') (hg : ∀ x τ H1 R R', (∀ τ' H', R τ' H' → R' τ' H') → g x τ H1 R → g x τ H1 R') : tLc (iSeq K tl) g tYes te vs σ H Q :=
  hl _ (lcb_P hS hn hy ht hd hg)
theorem tLcR_eq {ta : TA} {g : TG} {tt : TT} {te : TE} {vs : List Nat} {σ : L2.St} {H : Hp} {Q : VK} : tLc (iRng2 ta) g tt te vs σ H Q = ta σ H fun ws H1 => ∃ i j : Int, ws = [.int i, .int j] ∧ (-(2 ^ 62) ≤ i ∧ i < 2 ^ 62 ∧ -(2 ^ 62) ≤ j ∧ j < 2 ^ 62) ∧ lcRun g tt te vs σ Q (Itr i (j - i).toNat) H1 := rfl
theorem tLcR1_eq {ta : TA} {g : TG} {tt : TT} {te : TE} {vs : List Nat} {σ : L2.St} {H : Hp} {Q : VK} : tLc (iRng1 ta) g tt te vs σ H Q = ta σ H fun ws H1 => ∃ j : Int, ws = [.int j] ∧ -(2 ^ 62) ≤ j ∧ j < 2 ^ 62 ∧ lcRun g tt te vs σ Q (Itr 0 j.toNat) H1 := rfl
theorem lcr_R {lo : Int} {n : Nat} {g : TG} {tt : TT} {te : TE} {vs : List Nat} {σ : L2.St} {H : Hp} {Q : VK} (b : V → Bool) (f : V → V) (hn : n < sizeLine) (ht : ∀ i : Nat, i < n → LcTurn g tt te vs σ H (.int (lo + (i : Int))) (b (.int (lo + (i : Int)))) (f (.int (lo + (i : Int)))))
    (hd : ∀ D H', H D = none → Same H H' → H' D = some (.lst (((rgV lo n).filter b).map f)) → Q (.ref D) H') : lcRun g tt te vs σ Q (Itr lo n) H :=
  fun D hD => lc_R b f hn hD ht fun H' s e => hd D H' hD s e
/-- a for over a list or a tuple, behind its iterable -/
def frRun (g : TG) (tb : TS) (D : Ends) (σ : L2.St) (J : It) (H1 : Hp) : Prop := ∃ W : Nat → Nat → L2.St → Hp → Prop, (∃ m, W 0 m σ H1) ∧ ∀ i m σ H, W i m σ H →
  (J.stop i H ∧ D.nx σ H) ∨ (J.go i H ∧ ∃ N : L2.St → Hp → Prop, (∀ σ' H', N σ' H' → ∃ m', m' < m ∧ W (i + 1) m' σ' H') ∧ ∀ x H', J.yld i H x H' → g x σ H' fun σ2 H2 => tb { D with nx := N, ct := N, bk := D.nx } σ2 H2)
def frBody (K : PySem.W.Frag) (g : TG) (tb : TS) (D : Ends) (σ : L2.St) : VK := fun x H1 => ∃ (a : Addr) (xs : List V), x = .ref a ∧ Sq K H1 a xs ∧ (SqL K H1 a xs → frRun g tb D σ (Itl K a) H1) ∧ (SqT K H1 a xs → frRun g tb D σ (Itt K a) H1)
theorem tFor_eq {K : PySem.W.Frag} {tl : TE} {g : TG} {tb : TS} {D : Ends} {σ : L2.St} {H : Hp} : tFor (iSeq K tl) g tb D σ H = tl σ H (frBody K g tb D σ) := rfl
/-- what is walked stays -/
def Stays (K : PySem.W.Frag) (a : Addr) (xs : List V) (H H' : Hp) : Prop := (SqL K H a xs → SqL K H' a xs) ∧ (SqT K H a xs → SqT K H' a xs)
theorem stays_same {K : PySem.W.Frag} {a : Addr} {xs : List V} {H H' : Hp} (s : Same H H') : Stays K a xs H H' := ⟨fun h => s.seq h, fun h => same_sqT s h⟩
theorem frb {K : PySem.W.Frag} {a : Addr} {xs : List V} {g : TG} {tb : TS} {D : Ends} {σ : L2.St} {H : Hp} (hS : Sq K H a xs) (Pv : Nat → L2.St → Hp → Prop) (h0 : Pv 0 σ H) (hl : ∀ i σ H', i ≤ xs.length → Pv i σ H' → Stays K a xs H H')
    (hs : ∀ i x σ H', xs[i]? = some x → Pv i σ H' → g x σ H' fun σ2 H2 => tb { D with nx := Pv (i + 1), ct := Pv (i + 1), bk := D.nx } σ2 H2) (hd : ∀ σ H', Pv xs.length σ H' → D.nx σ H') : frBody K g tb D σ (.ref a) H := by
  refine ⟨a, xs, rfl, hS, fun h => ?_, fun h => ?_⟩
  · exact for_list (K := K) (a := a) (xs := xs) Pv h0 (fun i σ H' hi p => (hl i σ H' hi p).1 h) hs hd
  · exact for_tup (K := K) (a := a) (xs := xs) Pv h0 (fun i σ H' hi p => (hl i σ H' hi p).2 h) hs hd
/-- any value: its type, and its items if it is a list or a tuple -/
inductive AnyV (K : PySem.W.Frag) (H : Hp) : V → Option (List V) → Prop where
  | no {x : V} {t : Value} (T : Typ K H x t) (h1 : t ≠ .type "list") (h2 : t ≠ .type "tuple") : AnyV K H x none
  | seq {a : Addr} {xs : List V} (h : Sq K H a xs) (hn : xs.length ≤ 1000) (hx : ∀ y ∈ xs, ∃ t, Typ K H y t) : AnyV K H (.ref a) (some xs)
theorem AnyV.mono {K : PySem.W.Frag} {H H' : Hp} {x : V} {os : Option (List V)} (A : AnyV K H x os) (s : Same H H') : AnyV K H' x os := by
  cases A with
  | no T h1 h2 => exact .no (T.mono s) h1 h2
  | seq h hn hx =>
    exact .seq (h.mono s) hn fun y hy => by
      obtain ⟨t, T⟩ := hx y hy
      exact ⟨t, T.mono s⟩
theorem AnyV.typ {K : PySem.W.Frag} {H : Hp} {x : V} {os : Option (List V)} (A : AnyV K H x os) : ∃ t, Typ K H x t ∧ ((t = .type "list" ∨ t = .type "tuple") ↔ os.isSome = true) := by
  cases A with
  | no T h1 h2 => exact ⟨_, T, fun z => z.elim (fun z => absurd z h1) fun z => absurd z h2, fun z => by cases z⟩
  | seq h hn hx =>
    obtain ⟨t, T, z⟩ := isSeq_of h
    exact ⟨t, T, fun _ => rfl, fun _ => z⟩
end Tm
namespace Tm
open PySem PySem.Spec PyProof.Rows L2
/-- a reading's rest, named -/
theorem via {P : VK → Prop} {Q : VK} (h : VK → Prop) (key : ∀ Q', h Q' → P Q') (a : h Q) : P Q := key Q a
end Tm

/-! Part 5: own classes as types; kinds and rules as data, and how they stand in the heap. -/
namespace Tm
open PySem PySem.Spec PyProof.Rows L2
/-! ### own classes in isinstance -/
def ownB (K : PySem.W.Frag) (C : Addr) : Bool :=
  He.eqO (PySem.W.findIn K (.ref C) "__class__") (some (some (.builtin "object.__class__"))) &&
  (He.eqO (PySem.W.specialIn K (.builtin "object.__class__") "__get__") (some (some (.builtin "getset_descriptor.__get__"))) &&
  (decide (PySem.W.takesIn K (.builtin "object.__class__") = some true) && (decide (PySem.W.mroIn K C (.type "object") = some true) &&
  (["int", "bool", "str", "list", "tuple"].all fun n => decide (PySem.W.kitOne K (.ref C) (.type n) = some false)))))
structure OwnC (K : PySem.W.Frag) (C : Addr) : Prop where
  ha : PySem.W.findIn K (.ref C) "__class__" = some (some (.builtin "object.__class__"))
  hn : PySem.W.specialIn K (.builtin "object.__class__") "__get__" = some (some (.builtin "getset_descriptor.__get__"))
  htk : PySem.W.takesIn K (.builtin "object.__class__") = some true
  hm : PySem.W.mroIn K C (.type "object") = some true
  no : ∀ n, n = "int" ∨ n = "bool" ∨ n = "str" ∨ n = "list" ∨ n = "tuple" → PySem.W.kitOne K (.ref C) (.type n) = some false
theorem ownB_ok {K : PySem.W.Frag} {C : Addr} (h : ownB K C = true) : OwnC K C := by
  unfold ownB at h
  simp only [Bool.and_eq_true, decide_eq_true_eq, List.all_cons, List.all_nil, Bool.and_true] at h
  obtain ⟨h1, h2, h3, h4, k1, k2, k3, k4, k5⟩ := h
  refine ⟨He.eqO_ok h1, He.eqO_ok h2, h3, h4, ?_⟩
  rintro n (rfl | rfl | rfl | rfl | rfl) <;> assumption
theorem typ_ins {K : PySem.W.Frag} {H : Hp} {a C dx : Addr} {fs : List (Str × V)} (o : OwnC K C) (cl : Cls K C) (h : H a = some (.ins C dx fs)) : Typ K H (.ref a) (.ref C) := by
  refine ⟨.base (.ins h cl o.ha o.hn o.htk o.hm), fun n hn => ?_⟩
  rw [o.no n hn]
  have z : kb (.ref C) n = false := by simp [kb]
  rw [z]
/-- of the built-in types none is below the own class D -/
def bltB (K : PySem.W.Frag) (D : Addr) : Bool := ["int", "bool", "str", "NoneType", "list", "tuple"].all fun n => decide (PySem.W.kitOne K (.type n) (.ref D) = some false)
def subB (K : PySem.W.Frag) (C D : Addr) (b : Bool) : Bool := decide (PySem.W.kitOne K (.ref C) (.ref D) = some b)
theorem subB_ok {K : PySem.W.Frag} {C D : Addr} {b : Bool} (h : subB K C D b = true) : PySem.W.kitOne K (.ref C) (.ref D) = some b := of_decide_eq_true h
/-! ### data -/
inductive Fm where
  | still | anew | lift
  deriving DecidableEq
/-- a kind: its form, its name, the number (days, left, by), the top (of a lift), how often -/
structure Kd where
  fm : Fm
  name : Str
  a : Int
  b : Int
  times : Option Int
  deriving DecidableEq
/-- a rule -/
structure Rl where
  length : Int
  rests : List Int
  cap : Option Int
  kinds : List Kd
def tv : Option Int → V
  | none => .non
  | some n => .int n
def Kd.cls (K : PySem.W.Frag) (k : Kd) : Addr := match k.fm with
  | .still => He.ga K "Still"
  | .anew => He.ga K "Anew"
  | .lift => He.ga K "Lift"
def Kd.flds (k : Kd) : List (Str × V) := match k.fm with
  | .still => [("name", .str k.name), ("days", .int k.a), ("times", tv k.times)]
  | .anew => [("name", .str k.name), ("left", .int k.a), ("times", tv k.times)]
  | .lift => [("name", .str k.name), ("by", .int k.a), ("top", .int k.b), ("times", tv k.times)]
def KindAt (K : PySem.W.Frag) (H : Hp) (p : Addr) (k : Kd) : Prop := ∃ dx, H p = some (.ins (k.cls K) dx k.flds)
theorem KindAt.mono {K : PySem.W.Frag} {H H' : Hp} {p : Addr} {k : Kd} (h : KindAt K H p k) (s : Same H H') : KindAt K H' p k := by
  obtain ⟨dx, e⟩ := h
  exact ⟨dx, s _ _ e⟩
theorem Paired.imp {α β : Type} {F G : α → β → Prop} (f : ∀ a b, F a b → G a b) : ∀ {l : List α} {m : List β}, Paired F l m → Paired G l m
  | _, _, .nil => .nil
  | _, _, .cons h t => .cons (f _ _ h) (Paired.imp f t)
structure RuleAt (K : PySem.W.Frag) (H : Hp) (p : Addr) (R : Rl) : Prop where
  ex : ∃ (dx tr tk tn : Addr) (ps : List Addr), H p = some (.ins (He.ga K "Rule") dx [("length", .int R.length), ("rests", .ref tr), ("cap", tv R.cap), ("kinds", .ref tk), ("names", .ref tn)]) ∧
    SqT K H tr (R.rests.map V.int) ∧ SqT K H tk (ps.map V.ref) ∧ SqT K H tn (R.kinds.map fun k => V.str k.name) ∧ Paired (KindAt K H) ps R.kinds
theorem RuleAt.mono {K : PySem.W.Frag} {H H' : Hp} {p : Addr} {R : Rl} (h : RuleAt K H p R) (s : Same H H') : RuleAt K H' p R := by
  obtain ⟨dx, tr, tk, tn, ps, h1, h2, h3, h4, h5⟩ := h.ex
  exact ⟨dx, tr, tk, tn, ps, s _ _ h1, same_sqT s h2, same_sqT s h3, same_sqT s h4, Paired.imp (fun _ _ z => z.mono s) h5⟩
/-! ### a dict comprehension over a list or a tuple -/
theorem putK_keys (kvs : List (Key × V)) (k : Key) (v : V) (h : (kvs.map (·.1)).Nodup) : ((putK kvs k v).map (·.1)).Nodup ∧ ∀ x, x ∈ (putK kvs k v).map (·.1) ↔ x = k ∨ x ∈ kvs.map (·.1) := by
  unfold putK
  split
  · rename_i hc
    have e : (kvs.map fun kv => if kv.1 = k then (kv.1, v) else kv).map (·.1) = kvs.map (·.1) := by
      rw [List.map_map]
      apply List.map_congr_left
      intro q _
      simp only [Function.comp]
      split <;> rfl
    rw [e]
    refine ⟨h, fun x => ⟨fun z => .inr z, fun z => z.elim (fun z => ?_) id⟩⟩
    rw [List.any_eq_true] at hc
    obtain ⟨q, hq, eq⟩ := hc
    rw [z, ← of_decide_eq_true eq]
    exact List.mem_map_of_mem hq
  · rename_i hc
    rw [List.map_append]
    have hk : k ∉ kvs.map (·.1) := fun z => by
      apply hc
      obtain ⟨q, hq, eq⟩ := List.mem_map.mp z
      exact List.any_eq_true.mpr ⟨q, hq, decide_eq_true eq⟩
    refine ⟨List.nodup_append.mpr ⟨h, by simp, fun a ha b hb => ?_⟩, fun x => ?_⟩
    · simp only [List.map_cons, List.map_nil, List.mem_singleton] at hb
      subst hb
      exact fun e => hk (e ▸ ha)
    · simp only [List.map_cons, List.map_nil, List.mem_append, List.mem_singleton]
      exact ⟨fun z => z.elim .inr .inl, fun z => z.elim .inr .inl⟩
theorem mergeK_keys : ∀ (ps : List (Key × V)) (acc : List (Key × V)), (acc.map (·.1)).Nodup →
    ((mergeK acc ps).map (·.1)).Nodup ∧ ∀ x, x ∈ (mergeK acc ps).map (·.1) ↔ x ∈ acc.map (·.1) ∨ x ∈ ps.map (·.1)
  | [], acc, h => ⟨h, fun x => by simp [mergeK]⟩
  | y :: ps, acc, h => by
    obtain ⟨h1, h2⟩ := putK_keys acc y.1 y.2 h
    obtain ⟨h3, h4⟩ := mergeK_keys ps _ h1
    refine ⟨h3, fun x => ?_⟩
    show x ∈ (mergeK (putK acc y.1 y.2) ps).map (·.1) ↔ _
    rw [h4 x, h2 x, List.map_cons, List.mem_cons]
    constructor
    · rintro ((z | z) | z)
      · exact .inr (.inl z)
      · exact .inl z
      · exact .inr (.inr z)
    · rintro (z | z | z)
      · exact .inl (.inr z)
      · exact .inl (.inl z)
      · exact .inr z
theorem mergeK_len (ps : List (Key × V)) : (mergeK [] ps).length = ps.length ↔ (ps.map (·.1)).Nodup := by
  obtain ⟨h1, h2⟩ := mergeK_keys ps [] List.nodup_nil
  have z := nodup_iff (ns := ps.map (·.1)) h1 fun x => by
    rw [h2 x]
    simp
  rw [List.length_map, List.length_map] at z
  exact z
theorem putK_le (kvs : List (Key × V)) (k : Key) (v : V) : (putK kvs k v).length ≤ kvs.length + 1 := by
  unfold putK
  split <;> simp
theorem mergeK_le : ∀ (ps : List (Key × V)) (acc : List (Key × V)), (mergeK acc ps).length ≤ acc.length + ps.length
  | [], acc => by simp [mergeK]
  | y :: ps, acc => by
    have h1 := mergeK_le ps (putK acc y.1 y.2)
    have h2 := putK_le acc y.1 y.2
    show (mergeK (putK acc y.1 y.2) ps).length ≤ _
    simp only [List.length_cons]
    omega
section
variable {K : PySem.W.Frag} {a D : Addr} {xs : List V} {g : TG} {te tu tl : TE} {vs : List Nat} {σ : L2.St} {H : Hp} {Q : VK} {ps : List (Key × V)}
def DcInv (H : Hp) (D : Addr) (ps : List (Key × V)) (i : Nat) (H' : Hp) : Prop := Same H H' ∧ H' D = some (.dK (mergeK [] (ps.take i)))
theorem dc_P (hl : ∀ R : VK, R (.ref a) H → tl σ H R) (hS : Sq K H a xs) (hn : xs.length < sizeLine) (hp : ps.length = xs.length)
    (ht : ∀ (i : Nat) (x : V) (q : Key × V), xs[i]? = some x → ps[i]? = some q → ∀ H1, Same H H1 → ∀ R : V → V → Hp → Prop, (∀ H2, Same H1 H2 → R (kV q.1) q.2 H2) →
      g x (wipe σ vs) H1 fun σ2 H2 => wipe σ2 vs = wipe σ vs ∧ te σ2 H2 fun y H3 => tu σ2 H3 fun z H4 => R y z H4)
    (hd : ∀ D H', H D = none → Same H H' → H' D = some (.dK (mergeK [] ps)) → Q (.ref D) H') (hg : ∀ x τ H1 R R', (∀ τ' H', R τ' H' → R' τ' H') → g x τ H1 R → g x τ H1 R') : tDc (iSeq K tl) g tYes te tu vs σ H Q := by
  have start : ∀ D, H D = none → DcInv H D ps 0 (upd H D (.dK [])) := fun D hD => ⟨same_new hD, by rw [upd_same]; rfl⟩
  have turn : ∀ D, H D = none → ∀ i x H', xs[i]? = some x → DcInv H D ps i H' → g x (wipe σ vs) H' fun σ2 H2 => wipe σ2 vs = wipe σ vs ∧ tYes σ2 H2 fun b H3 =>
      if b = true then te σ2 H3 fun y H4 => tu σ2 H4 fun z H5 => ∃ kvs k, y = kV k ∧ H5 D = some (.dK kvs) ∧ kvs.length < sizeLine ∧ DcInv H D ps (i + 1) (upd H5 D (.dK (putK kvs k z))) else DcInv H D ps (i + 1) H3 := by
    intro D hD i x H' hx ⟨p1, p2⟩
    have hi : i < ps.length := by
      rw [hp]
      exact (List.getElem?_eq_some_iff.mp hx).1
    have ey : ps[i]? = some ps[i] := List.getElem?_eq_getElem hi
    refine hg _ _ _ _ _ (fun τ' H' z => ⟨z.1, z.2⟩) (ht i x _ hx ey H' p1 (fun y z H5 => ∃ kvs k, y = kV k ∧ H5 D = some (.dK kvs) ∧ kvs.length < sizeLine ∧ DcInv H D ps (i + 1) (upd H5 D (.dK (putK kvs k z)))) fun H5 s5 => ?_)
    refine ⟨_, ps[i].1, rfl, s5 _ _ p2, ?_, fun c o e => ?_, ?_⟩
    · have := mergeK_le (ps.take i) []
      have e : (ps.take i).length ≤ xs.length := by
        rw [List.length_take, hp]
        exact Nat.min_le_right _ _
      simp only [List.length_nil, Nat.zero_add] at this
      exact Nat.lt_of_le_of_lt (Nat.le_trans this e) hn
    · rw [upd_ne (ne_of_none e hD)]
      exact s5 _ _ (p1 _ _ e)
    · rw [upd_same, List.take_add_one, ey]
      unfold mergeK
      rw [List.foldl_append]
      rfl
  have whole : ∀ D H', DcInv H D ps xs.length H' → H' D = some (.dK (mergeK [] ps)) := fun D H' p => by
    have := p.2
    rwa [← hp, List.take_length] at this
  refine hl _ ⟨a, xs, rfl, hS, fun h D hD => ?_, fun h D hD => ?_⟩
  · refine ⟨fun i m H' => m = xs.length - i ∧ i ≤ xs.length ∧ DcInv H D ps i H', ⟨xs.length, by simp, Nat.zero_le _, start D hD⟩, ?_⟩
    rintro i m H' ⟨rfl, hi, p⟩
    have q : SqL K H' a xs := p.1.seq h
    by_cases hlt : i < xs.length
    · refine .inr ⟨⟨xs, xs[i], q, by simp [hlt]⟩, DcInv H D ps (i + 1), fun H2 p' => ⟨xs.length - (i + 1), by omega, rfl, hlt, p'⟩, fun x H2 y => ?_⟩
      obtain ⟨e, y⟩ := y
      subst e
      exact turn D hD i x _ (y xs q) p
    · have e : i = xs.length := by omega
      subst e
      exact .inl ⟨⟨xs, q, Nat.le_refl _⟩, hd D H' hD p.1 (whole D H' p)⟩
  · exact dc_tup (DcInv H D ps) (start D hD) (fun i H' _ p => same_sqT p.1 h) (fun i x H' hx p => turn D hD i x H' hx p) fun H' p => hd D H' hD p.1 (whole D H' p)
end
theorem paired_at {α β : Type} {F : α → β → Prop} : ∀ {l : List α} {m : List β}, Paired F l m → ∀ x ∈ l, ∃ y ∈ m, F x y
  | _, _, .nil, x, h => nomatch h
  | _, _, .cons q t, x, h => by
    rcases List.mem_cons.mp h with rfl | h
    · exact ⟨_, List.mem_cons_self .., q⟩
    · obtain ⟨y, hy, f⟩ := paired_at t x h
      exact ⟨y, List.mem_cons_of_mem _ hy, f⟩
theorem paired_ix {α β : Type} {F : α → β → Prop} : ∀ {l : List α} {m : List β}, Paired F l m → ∀ {i : Nat} {x : α} {y : β}, l[i]? = some x → m[i]? = some y → F x y
  | _, _, .nil, i, x, y, h, _ => by simp at h
  | _, _, .cons q t, 0, x, y, h, h' => by
    simp at h h'
    subst h h'
    exact q
  | _, _, .cons q t, i + 1, x, y, h, h' => paired_ix t (i := i) (by simpa using h) (by simpa using h')
theorem paired_len {α β : Type} {F : α → β → Prop} : ∀ {l : List α} {m : List β}, Paired F l m → l.length = m.length
  | _, _, .nil => rfl
  | _, _, .cons _ t => by
    rw [List.length_cons, List.length_cons, paired_len t]
end Tm

/-! Part K: rules whose readings speak of the written part, the written part given by name. -/
namespace Tm
open PySem PySem.Spec PyProof.Rows L2
section
variable {X : Cx} (K : PySem.W.Frag)
theorem k_fld {e : Expr} {f : Str} {pos : Pos} {ta : TE} (he : PE X e ta) (hb : attributeBase e f X.env (eval e X.env) = eval e X.env) (hK : X.K = K := by rfl) : PE X (.Attribute e f pos) (tFld K ta f) := by
  subst hK; exact pe_fld he hb
theorem k_isi (hK : X.K = K := by rfl) : CallR X (.builtin "isinstance") (rIsi K) := by subst hK; exact call_isi
theorem k_isiT (hK : X.K = K := by rfl) : CallR X (.builtin "isinstance") (rIsiT K) := by subst hK; exact call_isiT
def rLn (K : PySem.W.Frag) : List V → Hp → VK → Prop := fun xs H Q => ∃ x n, xs = [x] ∧ LenV K x H n ∧ Q (.int n) H
theorem k_len (hK : X.K = K := by rfl) : CallR X (.builtin "len") (rLn K) := by subst hK; exact call_len
def rLenQ (K : PySem.W.Frag) : List V → Hp → VK → Prop := fun xs H Q => ∃ p ys, xs = [.ref p] ∧ Sq K H p ys ∧ Q (.int ys.length) H
theorem k_lenQ (hK : X.K = K := by rfl) : CallR X (.builtin "len") (rLenQ K) := by subst hK; exact call_len_seq
def rList (K : PySem.W.Frag) : List V → Hp → VK → Prop := fun xs H Q => ∃ p ys, xs = [.ref p] ∧ (SqL K H p ys ∨ SqT K H p ys) ∧ ∀ l, H l = none → Q (.ref l) (upd H l (.lst ys))
theorem k_list (hK : X.K = K := by rfl) : CallR X (.type "list") (rList K) := by subst hK; exact call_list_of
def rTuple (K : PySem.W.Frag) : List V → Hp → VK → Prop := fun xs H Q => ∃ p ys, xs = [.ref p] ∧ ((SqL K H p ys ∧ ∀ l, H l = none → Q (.ref l) (upd H l (.tup ys))) ∨ (SqT K H p ys ∧ Q (.ref p) H))
theorem k_tuple (hK : X.K = K := by rfl) : CallR X (.type "tuple") (rTuple K) := by subst hK; exact call_tuple_of
theorem k_all (hc : X.calm = true := by rfl) (hK : X.K = K := by rfl) : CallR X (.builtin "all") (rAll K) := by subst hK; exact cr_all hc
theorem k_any (hc : X.calm = true := by rfl) (hK : X.K = K := by rfl) : CallR X (.builtin "any") (rAny K) := by subst hK; exact cr_any hc
theorem k_sum (hc : X.calm = true := by rfl) (hK : X.K = K := by rfl) : CallR X (.builtin "sum") (rSum K) := by subst hK; exact cr_sum hc
theorem k_max (hc : X.calm = true := by rfl) (hK : X.K = K := by rfl) : CallR X (.builtin "max") (rMax K) := by subst hK; exact cr_max hc
theorem k_min (hc : X.calm = true := by rfl) (hK : X.K = K := by rfl) : CallR X (.builtin "min") (rMin K) := by subst hK; exact cr_min hc
theorem k_sorted (hK : X.K = K := by rfl) : CallR X (.builtin "sorted") (rSortedI K) := by subst hK; exact cr_sortedI
theorem k_sortedS (hK : X.K = K := by rfl) : CallR X (.builtin "sorted") (rSortedS K) := by subst hK; exact cr_sortedS
theorem k_ixL (hK : X.K = K := by rfl) : IxR X (rIxL K) := by subst hK; exact ix_list
theorem k_ixT (hK : X.K = K := by rfl) : IxR X (rIxT K) := by subst hK; exact ix_tup
theorem k_ix (hK : X.K = K := by rfl) : IxR X (rIx K) := by subst hK; exact ix_seq
theorem k_slL (hK : X.K = K := by rfl) : SlR X (rSlL K) := by subst hK; exact sl_list
theorem k_slT (hK : X.K = K := by rfl) : SlR X (rSlT K) := by subst hK; exact sl_tup
theorem k_in (hK : X.K = K := by rfl) : OpR X (compareOp .In) (rIn K false) := by subst hK; exact op_in_seq
theorem k_notin (hK : X.K = K := by rfl) : OpR X (compareOp .NotIn) (rIn K true) := by subst hK; exact op_notIn_seq
theorem k_eqD (hu : X.A.units + 64 < cLine) (hK : X.K = K := by rfl) : OpR X (compareOp .Eq) (rEqD K) := by subst hK; exact op_eqD hu
theorem k_neD (hu : X.A.units + 64 < cLine) (hK : X.K = K := by rfl) : OpR X (compareOp .NotEq) (rNeD K) := by subst hK; exact op_neD hu
theorem k_piL {tg l : Expr} {tl : TE} (hl : PE X l tl) (hK : X.K = K := by rfl) : PI X tg l (iList K tl) := by subst hK; exact pi_list hl
theorem k_piT {tg l : Expr} {tl : TE} (hl : PE X l tl) (hK : X.K = K := by rfl) : PI X tg l (iTup K tl) := by subst hK; exact pi_tup hl
theorem k_piQ {tg l : Expr} {tl : TE} (hl : PE X l tl) (hK : X.K = K := by rfl) : PI X tg l (iSeq K tl) := by subst hK; exact pi_seq hl
theorem k_bm0 {T : String} {name : Str} {id : String} {o : Expr} {to : TE} {r : V → List V → Hp → VK → Prop} {apos cpos : Pos} (pa : PlainAttrs T) (slot : Slot T name id) (hty : typeOf (.builtin id) = pure (.type "method_descriptor")) (hm : MtR X id r) (ho : PE X o to)
    (hbase : attributeBase o name X.env (eval o X.env) = eval o X.env := by rfl) (hline : (apos.endLine == cpos.line) = true := by rfl) (hK : X.K = K := by rfl) : PE X (.Call (.Attribute o name apos) [] [] cpos) (tBM0 K T r to) := by
  subst hK; exact pe_bm0 pa slot hty hm ho hbase hline
theorem k_bm {T : String} {name : Str} {id : String} {o e : Expr} {es : List Expr} {to : TE} {t : TA} {r : V → List V → Hp → VK → Prop} {apos cpos : Pos} (pa : PlainAttrs T) (slot : Slot T name id) (hty : typeOf (.builtin id) = pure (.type "method_descriptor")) (hm : MtR X id r)
    (ho : PE X o to) (ha : PA X (e :: es) t) (hbase : attributeBase o name X.env (eval o X.env) = eval o X.env := by rfl)
    (hfew : ((backTo cpos (starEach (e :: es) X.env)).all (fun x => !x.1) && (backToKw cpos (keywordEach [] X.env)).all (fun x => x.1.isSome)
      && decide ((e :: es).length + ([] : List Keyword).length + (if ([] : List Keyword).isEmpty then 0 else 1) < 30)) = true := by rfl)
    (hline : (apos.endLine == cpos.line) = true := by rfl) (hs : starEach (e :: es) X.env = (false, eval e X.env) :: starEach es X.env := by rfl) (hplain : (backTo cpos (starEach es X.env)).any (·.1) = false := by rfl)
    (hK : X.K = K := by rfl) : PE X (.Call (.Attribute o name apos) (e :: es) [] cpos) (tBM K T r to t) := by
  subst hK; exact pe_bm pa slot hty hm ho ha hbase hfew hline hs hplain
theorem k_star {e : Expr} {es : List Expr} {p : Pos} {te : TE} {t : TA} (he : PE X e te) (hr : PA X es t) (hs : starEach (.Starred e p :: es) X.env = (true, eval e X.env) :: starEach es X.env := by rfl) (hK : X.K = K := by rfl) :
    PA X (.Starred e p :: es) (StX.tStar K te t) := by
  subst hK; exact StX.pa_star he hr hs
def tTruth (K : PySem.W.Frag) (ta : TE) : TT := fun σ H Q => ta σ H fun x H' => ∃ k, TruV K x H' k ∧ Q k H'
theorem k_truth {a : Expr} {ta : TE} (ha : PE X a ta) (he : ∀ whole, isTrue a X.env whole = (do let v ← whole; standAt a.pos; holding [v] (truthy v)) := by intro _; rfl) (hK : X.K = K := by rfl) : PT X a (tTruth K ta) := by
  subst hK; exact pt_truth ha he
theorem k_enum {e : Expr} {ta : TA} {p pos tpos : Pos} {elts : List Expr} {kk : Nat} (hm : X.mg "enumerate" = none) (ha : PA X [e] ta) (hg : Gl X "enumerate" := by rfl) (hs : starEach [e] X.env = [(false, eval e X.env)] := by rfl) (hK : X.K = K := by rfl) :
    PI X (.Tuple elts kk tpos) (.Call (.Name "enumerate" p) [e] [] pos) (iEnum K ta) := by
  subst hK; exact pi_enum hg hm ha hs
def rJoin (K : PySem.W.Frag) : V → List V → Hp → VK → Prop := fun x xs H Q => ∃ a p, ∃ ys : List Str, x = .str a ∧ xs = [.ref p] ∧ (SqL K H p (ys.map V.str) ∨ SqT K H p (ys.map V.str)) ∧ (ys.map (·.length)).sum + ys.length * a.length ≤ 16777216 ∧ Q (.str (Txt.join a ys)) H
theorem k_join {o e : Expr} {to te : TE} {apos pos : Pos} (ho : PE X o to) (he : PE X e te) (hs : starEach [e] X.env = [(false, eval e X.env)] := by rfl) (hbase : attributeBase o "join" X.env (eval o X.env) = eval o X.env := by rfl)
    (hline : (apos.endLine == pos.line) = true := by rfl) (hK : X.K = K := by rfl) : PE X (.Call (.Attribute o "join" apos) [e] [] pos) (tM1 (rJoin K) to te) := by
  subst hK; exact pe_join ho he hs hbase hline
end
end Tm

/-! Mathematics: the first working day. -/
namespace Tm
/-- how many days a day is put off, at most n -/
def gapN (rs : List Int) (d : Int) : Nat → Nat
  | 0 => 0
  | n + 1 => if d % 7 ∈ rs then 1 + gapN rs (d + 1) n else 0
def gap (rs : List Int) (d : Int) : Nat := gapN rs d 7
def workD (rs : List Int) (d : Int) : Int := d + (gap rs d : Int)
theorem gapN_le (rs : List Int) : ∀ (n : Nat) (d : Int), gapN rs d n ≤ n
  | 0, _ => Nat.le_refl _
  | n + 1, d => by
    unfold gapN
    split
    · have := gapN_le rs n (d + 1)
      omega
    · omega
theorem gapN_in (rs : List Int) : ∀ (n : Nat) (d : Int) (j : Nat), j < gapN rs d n → (d + (j : Int)) % 7 ∈ rs
  | 0, d, j, h => by
    unfold gapN at h
    omega
  | n + 1, d, j, h => by
    unfold gapN at h
    split at h
    · rename_i hm
      cases j with
      | zero => simpa using hm
      | succ j =>
        have := gapN_in rs n (d + 1) j (by omega)
        have e : d + ((j + 1 : Nat) : Int) = d + 1 + (j : Int) := by omega
        rw [e]
        exact this
    · omega
theorem gapN_at (rs : List Int) : ∀ (n : Nat) (d : Int), gapN rs d n < n → (d + (gapN rs d n : Int)) % 7 ∉ rs
  | 0, d, h => by omega
  | n + 1, d, h => by
    unfold gapN at h ⊢
    split
    · rename_i hm
      rw [if_pos hm] at h
      have := gapN_at rs n (d + 1) (by omega)
      have e : d + ((1 + gapN rs (d + 1) n : Nat) : Int) = d + 1 + (gapN rs (d + 1) n : Int) := by omega
      rw [e]
      exact this
    · rename_i hm
      simpa using hm
theorem week_nodup (d : Int) : ((List.range 7).map fun (j : Nat) => (d + (j : Int)) % 7).Nodup := by
  unfold List.Nodup
  rw [List.pairwise_map]
  refine List.Pairwise.imp_of_mem ?_ (List.nodup_range (n := 7))
  intro a b ha hb hne
  simp only [List.mem_range] at ha hb
  omega
theorem gap_lt {rs : List Int} (h : rs.length ≤ 6) (d : Int) : gap rs d < 7 := by
  rcases Nat.lt_or_ge (gap rs d) 7 with z | z
  · exact z
  · exfalso
    have e : gapN rs d 7 = 7 := Nat.le_antisymm (gapN_le rs 7 d) z
    have : ((List.range 7).map fun (j : Nat) => (d + (j : Int)) % 7).length ≤ rs.length := nodup_le (week_nodup d) fun x hx => by
      obtain ⟨j, hj, rfl⟩ := List.mem_map.mp hx
      exact gapN_in rs 7 d j (by rw [e]; exact List.mem_range.mp hj)
    simp only [List.length_map, List.length_range] at this
    omega
theorem gap_in {rs : List Int} {d : Int} {j : Nat} (h : j < gap rs d) : (d + (j : Int)) % 7 ∈ rs := gapN_in rs 7 d j h
theorem gap_at {rs : List Int} (h : rs.length ≤ 6) (d : Int) : (d + (gap rs d : Int)) % 7 ∉ rs := gapN_at rs 7 d (gap_lt h d)
/-- the first working day is told by two facts -/
theorem gap_uniq {rs : List Int} (h : rs.length ≤ 6) {d : Int} {m : Nat} (h1 : ∀ j : Nat, j < m → (d + (j : Int)) % 7 ∈ rs) (h2 : (d + (m : Int)) % 7 ∉ rs) : m = gap rs d := by
  rcases Nat.lt_trichotomy m (gap rs d) with z | z | z
  · exact absurd (gap_in z) h2
  · exact z
  · exact absurd (h1 _ z) (gap_at h d)
theorem work_ge (rs : List Int) (d : Int) : d ≤ workD rs d := by
  unfold workD
  omega
theorem work_week {rs : List Int} (h : rs.length ≤ 6) (d : Int) (m : Int) : workD rs (d + 7 * m) = workD rs d + 7 * m := by
  have e : gap rs d = gap rs (d + 7 * m) := gap_uniq h (fun j hj => by
    have := gap_in hj
    have e : (d + 7 * m + (j : Int)) % 7 = (d + (j : Int)) % 7 := by omega
    rw [e]
    exact this) (by
    have := gap_at h d
    have e : (d + 7 * m + (gap rs d : Int)) % 7 = (d + (gap rs d : Int)) % 7 := by omega
    rw [e]
    exact this)
  unfold workD
  rw [← e]
  omega
theorem work_self {rs : List Int} {d : Int} (h : d % 7 ∉ rs) : workD rs d = d := by
  unfold workD gap gapN
  rw [if_neg h]
  simp
theorem work_idem {rs : List Int} (h : rs.length ≤ 6) (d : Int) : workD rs (workD rs d) = workD rs d := work_self (gap_at h d)
end Tm

/-! Part 6: a list beside an empty one; the stream of draws. -/
namespace Tm
open PySem PySem.Spec PyProof.Rows L2
/-- a plain value that can be compared -/
def layV : V → Bool
  | .non => true
  | .bl _ => true
  | .int _ => true
  | .str z => PyData.strOk z
  | _ => false
def datV : V → PyData
  | .bl b => .bool b
  | .int i => .int i
  | .str z => .str z
  | _ => .none
theorem dp_flat {K : PySem.W.Frag} {H : Hp} : ∀ {x : V}, layV x = true → Dp K H x (datV x)
  | .non, _ => .non
  | .bl b, _ => .bl b
  | .int i, _ => .int i
  | .str z, _ => .str z
theorem dpAll_flat {K : PySem.W.Frag} {H : Hp} : ∀ {xs : List V}, xs.all layV = true → DpAll K H xs (xs.map datV)
  | [], _ => .nil
  | x :: xs, h => by
    rw [List.all_cons, Bool.and_eq_true] at h
    exact .cons (dp_flat h.1) (dpAll_flat h.2)
theorem lay_flat : ∀ {xs : List V}, xs.all layV = true → PyData.canLayAll0 (xs.map datV) = true ∧ PyData.depthAll (xs.map datV) = 0
  | [], _ => ⟨rfl, rfl⟩
  | x :: xs, h => by
    rw [List.all_cons, Bool.and_eq_true] at h
    obtain ⟨h1, h2⟩ := lay_flat h.2
    have z : PyData.canLay0 (datV x) = true ∧ PyData.depth (datV x) = 0 := by
      cases x with
      | non => exact ⟨by simp [datV, PyData.canLay0], by simp [datV, PyData.depth]⟩
      | bl b => exact ⟨by simp [datV, PyData.canLay0], by simp [datV, PyData.depth]⟩
      | int i => exact ⟨by simp [datV, PyData.canLay0], by simp [datV, PyData.depth]⟩
      | str z => exact ⟨by simp only [datV, PyData.canLay0]; exact h.1, by simp [datV, PyData.depth]⟩
      | _ => exact absurd h.1 Bool.false_ne_true
    constructor
    · rw [List.map_cons]
      simp only [PyData.canLayAll0, z.1, h1, Bool.and_self]
    · rw [List.map_cons]
      simp only [PyData.depthAll, z.2, h2, Nat.max_self]
theorem shaped_flat {xs : List V} (h : xs.all layV = true) : SeqAt.shaped (.list (xs.map datV)) = true := by
  obtain ⟨h1, h2⟩ := lay_flat h
  unfold SeqAt.shaped
  simp only [PyData.canLay0, PyData.depth, h1, h2]
  decide
theorem eqv_nil (ds : List PyData) : PyData.eqv (.list ds) (.list []) = ds.isEmpty := by
  cases ds <;> simp [PyData.eqv, PyData.eqvAll]
/-- xs != [], the items plain -/
def rNeNil (K : PySem.W.Frag) : R2 := fun x y H Q => ∃ p q xs, x = .ref p ∧ y = .ref q ∧ SqL K H p xs ∧ xs.all layV = true ∧ H q = some (.lst []) ∧ Q (.bl (!xs.isEmpty)) H
theorem op_neNil {X : Cx} (K : PySem.W.Frag) (hu : X.A.units + 64 < cLine) (hK : X.K = K := by rfl) : OpR X (compareOp .NotEq) (rNeNil K) := by
  subst hK
  intro pins s σ H x y v u Q I rx ry h
  obtain ⟨p, q, xs, rfl, rfl, hp, hl, hq, k⟩ := h
  refine op_neD hu pins s σ H _ _ v u Q I rx ry ⟨_, _, .lst hp (dpAll_flat hl), .lst (.inl (.inl hq)) .nil, shaped_flat hl, by decide +kernel, ?_⟩
  rw [eqv_nil]
  cases xs <;> exact k
theorem lay_ints (ns : List Int) : (ns.map V.int).all layV = true := by
  rw [List.all_eq_true]
  intro y hy
  obtain ⟨i, _, rfl⟩ := List.mem_map.mp hy
  rfl
theorem k_rev {X : Cx} (K : PySem.W.Frag) {e : Expr} {te : TE} {k : Nat} {p1 p2 p3 pos : Pos} (he : PE X e te) (hK : X.K = K := by rfl) : PE X (.Subscript e (.Slice none none (some (.UnaryOp .USub (.Constant (.int 1) k p1) p2)) p3) pos) (tRevL K te) := by
  subst hK
  exact pe_revL he
theorem nil_or_snoc {α : Type} (l : List α) : l = [] ∨ ∃ L b, l = L ++ [b] := by
  rcases List.eq_nil_or_concat l with h | ⟨L, b, h⟩
  · exact .inl h
  · exact .inr ⟨L, b, by rw [h, List.concat_eq_append]⟩
section
variable {K : PySem.W.Frag}
/-- what stands at x may change, nothing else -/
theorem off_upd {H H' : Hp} {x : Addr} {o : HO} (h : Off x H H') : Off x H (upd H' x o) := fun b u hb e => by
  rw [upd_ne hb]
  exact h b u hb e
theorem off_same {H H1 H2 : Hp} {x : Addr} (h : Off x H H1) (s : Same H1 H2) : Off x H H2 := fun b u hb e => s _ _ (h b u hb e)
theorem off_trans {H H1 H2 : Hp} {x : Addr} (h : Off x H H1) (s : Off x H1 H2) : Off x H H2 := fun b u hb e => s b u hb (h b u hb e)
theorem sq_off {H H' : Hp} {a x : Addr} {xs : List V} {C dx : Addr} {fs : List (Str × V)} (hx : H x = some (.ins C dx fs)) (h : Sq K H a xs) (o : Off x H H') : Sq K H' a xs := by
  have ne : ∀ u, H a = some u → (∀ ys, u ≠ .ins C dx ys) → H' a = some u := fun u e hu => o a u (fun z => by subst z; rw [hx] at e; cases e; exact hu fs rfl) e
  rcases h with ((h | ⟨ob, h⟩) | h) | ((h | ⟨ob, h⟩) | h)
  · exact .inl (.inl (.inl (ne _ h fun _ z => by cases z)))
  · exact .inl (.inl (.inr ⟨ob, ne _ h fun _ z => by cases z⟩))
  · exact .inl (.inr h)
  · exact .inr (.inl (.inl (ne _ h fun _ z => by cases z)))
  · exact .inr (.inl (.inr ⟨ob, ne _ h fun _ z => by cases z⟩))
  · exact .inr (.inr h)
end
/-! ### the stream: a list of great numbers and a mixed one -/
def DealG (H : Hp) (d g : Addr) (gs : List Int) : Prop := ∃ m : Int, H d = some (.lst [.ref g, .int m]) ∧ H g = some (.lst (gs.map V.int)) ∧ gs.length ≤ 60 ∧ (∀ x ∈ gs, 0 ≤ x) ∧ 0 ≤ m
def Deal (H : Hp) (d g : Addr) : Prop := ∃ gs, DealG H d g gs
/-- what is apart from the stream -/
def Apart (d g b : Addr) : Prop := b ≠ d ∧ b ≠ g
/-- all but the stream stays -/
def But (d g : Addr) (H H' : Hp) : Prop := ∀ b o, Apart d g b → H b = some o → H' b = some o
theorem But.refl {d g : Addr} (H : Hp) : But d g H H := fun _ _ _ h => h
theorem But.trans {d g : Addr} {H H1 H2 : Hp} (a : But d g H H1) (b : But d g H1 H2) : But d g H H2 := fun c o n h => b c o n (a c o n h)
theorem But.same {d g : Addr} {H H1 : Hp} (s : Same H H1) : But d g H H1 := fun _ _ _ h => s _ _ h
theorem Deal.same {d g : Addr} {H H1 : Hp} (h : Deal H d g) (s : Same H H1) : Deal H1 d g := by
  obtain ⟨gs, m, h1, h2, h3⟩ := h
  exact ⟨gs, m, s _ _ h1, s _ _ h2, h3⟩
theorem DealG.ne {d g : Addr} {H : Hp} {gs : List Int} (h : DealG H d g gs) : d ≠ g := by
  obtain ⟨m, h1, h2, _⟩ := h
  refine ne_of h1 h2 ?_
  intro z
  injection z with z
  cases gs with
  | nil => cases z
  | cons a l => cases z
theorem Deal.new {d g p : Addr} {H : Hp} (h : Deal H d g) (hp : H p = none) : Apart d g p := by
  obtain ⟨gs, m, h1, h2, _⟩ := h
  exact ⟨(ne_of_none h1 hp).symm, (ne_of_none h2 hp).symm⟩
theorem Deal.apart {d g p : Addr} {H : Hp} {o : HO} (h : Deal H d g) (hp : H p = some o) (ho : ∀ xs, o ≠ .lst xs) : Apart d g p := by
  obtain ⟨gs, m, h1, h2, _⟩ := h
  exact ⟨ne_of hp h1 (ho _), ne_of hp h2 (ho _)⟩
/-- another object of ours changes -/
theorem Deal.put {d g p : Addr} {H : Hp} {o : HO} (h : Deal H d g) (a : Apart d g p) : Deal (upd H p o) d g := by
  obtain ⟨gs, m, h1, h2, h3⟩ := h
  exact ⟨gs, m, by rw [upd_ne a.1.symm]; exact h1, by rw [upd_ne a.2.symm]; exact h2, h3⟩
theorem but_new {d g p : Addr} {H H' : Hp} {o : HO} (b : But d g H H') (hp : H p = none) : But d g H (L2.upd H' p o) := fun c u n e => by
  rw [upd_ne (ne_of_none e hp)]
  exact b c u n e
theorem sqT_but {K : PySem.W.Frag} {d g a : Addr} {H H' : Hp} {xs : List V} (D : Deal H d g) (b : But d g H H') (h : SqT K H a xs) : SqT K H' a xs := by
  rcases h with (h | ⟨o, h⟩) | h
  · exact .inl (.inl (b _ _ (D.apart h fun _ z => by cases z) h))
  · exact .inl (.inr ⟨o, b _ _ (D.apart h fun _ z => by cases z) h⟩)
  · exact .inr h
theorem KindAt.but {K : PySem.W.Frag} {d g p : Addr} {H H' : Hp} {k : Kd} (D : Deal H d g) (b : But d g H H') (h : KindAt K H p k) : KindAt K H' p k := by
  obtain ⟨dx, e⟩ := h
  exact ⟨dx, b _ _ (D.apart e fun _ z => by cases z) e⟩
theorem RuleAt.but {K : PySem.W.Frag} {d g p : Addr} {H H' : Hp} {R : Rl} (D : Deal H d g) (b : But d g H H') (h : RuleAt K H p R) : RuleAt K H' p R := by
  obtain ⟨dx, tr, tk, tn, ps, h1, h2, h3, h4, h5⟩ := h.ex
  exact ⟨dx, tr, tk, tn, ps, b _ _ (D.apart h1 fun _ z => by cases z) h1, sqT_but D b h2, sqT_but D b h3, sqT_but D b h4, Paired.imp (fun _ _ z => z.but D b) h5⟩
end Tm

/-! Part 8: own __len__, __str__, __eq__ by the built-in functions and operators. -/
namespace Tm
open PySem PySem.Spec PyProof.Rows L2
section
variable {X : Cx} {CX : CXT} {k : Nat} {f : Addr} {sp : Sp} {E : XK} {pins : List (Addr × Obj)} {σ : L2.St} {H : Hp} {s : Shared} {Q : VK}
/-- a def called from within the machine, around A' -/
theorem own_call {A' : Around} {us : List Value} {vs : List V} (hfr : A'.frames = X.A.frames) (D : Dn X.prog X.w X.K X.mg X.base CX k f [] sp) (hr : Room k A') (hx : Passes CX X E) (I : Inv X pins σ H s) (r : Vals vs us) (h : sp vs H Q E) :
    wpAny (model X.prog X.w) A' (call (.ref f) us) (EP X pins σ Q) X.xe s := by
  obtain ⟨fd, ps, ds, F, kp, rd, b⟩ := D.ex
  cases rd
  have e0 : Env0 X.prog X.w X.K X.mg X.base A' X.stack s H := by
    have e := I.env0
    exact ⟨by rw [hfr]; exact e.frames, e.mod, e.bs, e.bsz, e.funs, e.frf, e.hok, e.bare⟩
  have hl := F.len _ _ _ _ h
  have hb : BindsTo s fd ⟨us, []⟩ (ps.zip us) := by
    have := b s us I.kIn (by rw [List.append_nil, ← r.length]; exact hl)
    rwa [List.append_nil] at this
  refine wpAny_call (codeAny_mono (F.run A' X.stack s H ⟨us, []⟩ us vs Q E hr e0 hb r h) fun res s' hq => ?_)
  cases res with
  | error e => exact hx pins σ H s e s' I hq
  | ok fl =>
    cases fl with
    | ret u => exact I.after hq
    | next => exact False.elim hq
    | brk => exact False.elim hq
    | cont => exact False.elim hq
/-- an own special method of a class -/
structure Spm (K : PySem.W.Frag) (C : Addr) (m : Str) (f : Addr) : Prop where
  at_ : PySem.W.findIn K (.ref C) m = some (some (.ref f))
  fn : PySem.W.isFn K (.ref f) = true
theorem spm_of {K : PySem.W.Frag} {C f : Addr} {m : Str} (h : Meth K C m f) : Spm K C m f := ⟨h.at_, h.fn⟩
def rLenOwn (C : Addr) (sp : Sp) (E : XK) : List V → Hp → VK → Prop := fun xs H Q => ∃ a dx fs, xs = [.ref a] ∧ H a = some (.ins C dx fs) ∧ sp [.ref a] H (fun v H' => ∃ n : Int, v = .int n ∧ 0 ≤ n ∧ n < 2 ^ 63 ∧ Q (.int n) H') E
theorem call_lenOwn {C : Addr} (m : Spm X.K C "__len__" f) (D : Dn X.prog X.w X.K X.mg X.base CX k f [] sp) (hr : Room (k + 1) X.A) (hx : Passes CX X E) : CallR X (.builtin "len") (rLenOwn C sp E) := by
  intro pins s σ H xs us Q I r h
  obtain ⟨a, dx, fs, rfl, ha, q⟩ := h
  cases r with
  | cons r1 rr =>
    cases rr
    cases r1
    obtain ⟨mA, J, _⟩ := ins_get I.hok ha
    obtain ⟨od, J, _⟩ := J.look
    obtain ⟨mm, hF⟩ := I.fr
    refine PySem.W.len_K hF I.ok.mod.kin J m.at_ m.fn (wpAny_mono (own_call (A' := X.A.in1) rfl D hr.in1 hx I (vs := [.ref a]) (.cons (show RelV (.ref a) (Value.ref a) from rfl) .nil) q) (fun u s' z => ?_) fun _ _ y => y)
    obtain ⟨v, H', I', rv, n, rfl, n0, n1, q'⟩ := z
    obtain ⟨t, rfl⟩ := rv
    exact ⟨⟨n0, n1⟩, .int n, H', I'.tok _, ⟨_, rfl⟩, q'⟩
def rStrOwn (C : Addr) (sp : Sp) (E : XK) : List V → Hp → VK → Prop := fun xs H Q => ∃ a dx fs, xs = [.ref a] ∧ H a = some (.ins C dx fs) ∧ sp [.ref a] H (fun v H' => ∃ z : Str, v = .str z ∧ Q (.str z) H') E
theorem call_strOwn {C : Addr} (m : Spm X.K C "__str__" f) (D : Dn X.prog X.w X.K X.mg X.base CX k f [] sp) (hr : Room (k + 2) X.A) (hx : Passes CX X E) : CallR X (.type "str") (rStrOwn C sp E) := by
  intro pins s σ H xs us Q I r h
  obtain ⟨a, dx, fs, rfl, ha, q⟩ := h
  cases r with
  | cons r1 rr =>
    cases rr
    cases r1
    obtain ⟨mA, J, _⟩ := ins_get I.hok ha
    obtain ⟨od, J, _⟩ := J.look
    refine PySem.W.kso_call hr.in1.in1.units0 I.kIn J m.at_ m.fn (wpAny_mono (own_call (A' := X.A.in1.in1) rfl D hr.in1.in1 hx I (vs := [.ref a]) (.cons (show RelV (.ref a) (Value.ref a) from rfl) .nil) q) (fun u s' z => ?_) fun _ _ y => y)
    obtain ⟨v, H', I', rv, z, rfl, q'⟩ := z
    obtain ⟨t, rfl⟩ := rv
    exact ⟨.str z, H', I', ⟨_, rfl⟩, q'⟩
/-- x == y by x's own __eq__ that tells a bool; y of the type t, which does not come first -/
def rEqOwn (K : PySem.W.Frag) (C : Addr) (sp : Sp) (E : XK) (neg : Bool) : R2 := fun x y H Q => ∃ a dx fs t, x = .ref a ∧ H a = some (.ins C dx fs) ∧ TyX K H y t ∧ PySem.W.notFirst K C t = true ∧
  sp [x, y] H (fun v H' => ∃ b : Bool, v = .bl b ∧ Q (.bl (if neg then !b else b)) H') E
theorem looks_ty {x : V} {u t : Value} (I : Inv X pins σ H s) (rx : RelV x u) (ty : TyX X.K H x t) : PySem.W.Looks (model X.prog X.w) s.heap (typeOf u) t := by
  obtain ⟨P, Z, p, _⟩ := kit_of I rx ty
  exact Z.ty _ _ I.kIn p
theorem op_eqOwn {C : Addr} (K : PySem.W.Frag) (m : Spm X.K C "__eq__" f) (D : Dn X.prog X.w X.K X.mg X.base CX k f [] sp) (hr : Room k X.A) (hx : Passes CX X E) (hK : X.K = K := by rfl) : OpR X (compareOp .Eq) (rEqOwn K C sp E false) := by
  subst hK
  intro pins s σ H x y v u Q I rx ry h
  obtain ⟨a, dx, fs, t, rfl, ha, ty, nf, q⟩ := h
  cases rx
  obtain ⟨mA, J, _⟩ := ins_get I.hok ha
  obtain ⟨od, J, _⟩ := J.look
  obtain ⟨mm, hF⟩ := I.fr
  show wpAny (model X.prog X.w) X.A (richCompare .Eq (.ref a) u) (EP X pins σ Q) X.xe s
  refine PySem.W.cmp_K (op := .Eq) hr.units0 hF I.ok.mod.kin J (looks_ty I ry ty) nf m.at_ m.fn (wpAny_mono (own_call (A' := X.A) rfl D hr hx I (vs := [.ref a, y]) (.cons (show RelV (.ref a) (Value.ref a) from rfl) (.cons ry .nil)) q) (fun w' s' z => ?_) fun _ _ e => e)
  obtain ⟨v', H', I', rv, b, rfl, q'⟩ := z
  cases rv
  exact ⟨.bl b, H', I', rfl, q'⟩
/-- object.__ne__ of an instance with its own __eq__ -/
theorem ne_entry {A : Around} {K : PySem.W.Frag} {x C : Addr} {ox : Obj} {od : Option Obj} {b : Value} {P : Fin → Shared → Prop} {E : Value → Shared → Prop} {P0 : Program} {w : World} (hu : A.units < cLine) (hK : K.In s.heap) (I : PySem.W.InstAt s.heap x ox C od) (m : Spm K C "__eq__" f)
    (hc : wpAny (model P0 w) A (call (.ref f) [.ref x, b]) (fun v s' => ∃ c, v = .bool c ∧ P (.done (.ret (.bool (!c)))) s') E s) : wpAny (model P0 w) A (Builtin.«object.__ne__» ⟨[.ref x, b], []⟩) P E s := by
  unfold Builtin.«object.__ne__»
  repeat (first
    | with_reducible refine wpAny_cRoomFor hu ?_
    | (refine wpAny_bind (m := callSpecialIfBound? (.ref x) (Str.ofString "__eq__") [b]) (PySem.W.ifBound_K hK I m.at_ m.fn (wpAny_mono hc (fun r s' hr => by
          obtain ⟨c, rfl, hq⟩ := hr
          repeat (first | exact hq | exact wpAny_pure hq | exact wpAny_truthy_bool hq | (refine wpAny_bind (m := truthy (.bool _)) (wpAny_truthy_bool ?_)) | wp_step)) fun _ _ e => e)))
    | wp_step)
/-- what a class that has its own __eq__ says of __ne__ -/
structure NeC (K : PySem.W.Frag) (C : Addr) : Prop where
  ne : PySem.W.findIn K (.ref C) "__ne__" = some (some (.builtin "object.__ne__"))
  ob : PySem.W.mroIn K C (.type "object") = some true
theorem ne_try {A : Around} {K : PySem.W.Frag} {x C : Addr} {ox : Obj} {od : Option Obj} {b : Value} {P : Option Value → Shared → Prop} {E : Value → Shared → Prop} {P0 : Program} {w : World} (hu : A.units + 1 < cLine) (hK : K.In s.heap) (I : PySem.W.InstAt s.heap x ox C od) (m : Spm K C "__eq__" f)
    (N : NeC K C) (hc : wpAny (model P0 w) A.in1 (call (.ref f) [.ref x, b]) (fun v s' => ∃ c, v = .bool c ∧ P (some (.bool (!c))) s') E s) : wpAny (model P0 w) A (tryCompare (.ref x) "__ne__" b) P E s := by
  have S := PySem.F.cmp_object.ne
  have sub : PySem.W.Looks (model P0 w) s.heap (isInstance (.ref x) (.type "object")) true := I.type.andThen (PySem.W.looks_mroIn hK N.ob)
  have callNe : ∀ {P' : Value → Shared → Prop}, wpAny (model P0 w) A.in1 (call (.ref f) [.ref x, b]) (fun v s' => ∃ c, v = .bool c ∧ P' (.bool (!c)) s') E s → wpAny (model P0 w) A (call (.builtin "object.__ne__") [.ref x, b]) P' E s := fun {P'} h =>
    wpAny_call (codeAny_call_builtin S.plain PySem.F.cmpEntry_ne (PySem.W.check_slot PySem.F.cmpKind_ne PySem.F.cmpSplit_ne sub (PySem.F.cmpArgs_ne _ _) (ne_entry (A := A.in1) hu hK I m (wpAny_mono h (fun v s' z => by
      obtain ⟨c, rfl, q⟩ := z
      exact ⟨c, rfl, q⟩) fun _ _ e => e))))
  simp only [tryCompare, callSpecialIfBound?, bindSpecialIfBound?]
  refine wpAny_bind (wpAny_holding (wpAny_bind (wpAny_bind (wpAny_bind (I.type.here ((PySem.W.looks_findIn hK N.ne).here ?_))))))
  simp only [S.bind]
  refine wpAny_bind (wpAny_askSetting (wpAny_ite ?_))
  have fin : wpAny (model P0 w) A (call (.builtin "object.__ne__") ([.ref x] ++ [b]) >>= fun v => pure (some v)) (fun r s' => ∃ c, r = some (.bool c) ∧ P (some (.bool c)) s') E s :=
    wpAny_bind (callNe (wpAny_mono hc (fun v s' z => by
      obtain ⟨c, rfl, q⟩ := z
      exact ⟨c, rfl, wpAny_pure ⟨!c, rfl, q⟩⟩) fun _ _ e => e))
  split
  · refine wpAny_bind (wpAny_pure (wpAny_pure (wpAny_mono fin (fun r s' z => ?_) fun _ _ e => e)))
    obtain ⟨c, rfl, q⟩ := z
    exact wpAny_pure q
  · refine wpAny_tryCatch (wpAny_bind (wpAny_pure (wpAny_pure (wpAny_mono fin (fun r s' z => ?_) fun _ _ e => e))))
    obtain ⟨c, rfl, q⟩ := z
    exact wpAny_pure q
theorem op_neOwn {C : Addr} (K : PySem.W.Frag) (m : Spm X.K C "__eq__" f) (N : NeC X.K C) (D : Dn X.prog X.w X.K X.mg X.base CX k f [] sp) (hr : Room (k + 1) X.A) (hx : Passes CX X E) (hK : X.K = K := by rfl) : OpR X (compareOp .NotEq) (rEqOwn K C sp E true) := by
  subst hK
  intro pins s σ H x y v u Q I rx ry h
  obtain ⟨a, dx, fs, t, rfl, ha, ty, nf, q⟩ := h
  cases rx
  obtain ⟨mA, J, _⟩ := ins_get I.hok ha
  obtain ⟨od, J, _⟩ := J.look
  have hb := looks_ty I ry ty
  have one : wpAny (model X.prog X.w) X.A (tryCompare (.ref a) "__ne__" u) (fun r s' => ∃ v, r = some v ∧ EP X pins σ Q v s') X.xe s := by
    refine ne_try (by have := hr.un; omega) I.kIn J m N (wpAny_mono (own_call (A' := X.A.in1) rfl D hr.in1 hx I (vs := [.ref a, y]) (.cons (show RelV (.ref a) (Value.ref a) from rfl) (.cons ry .nil)) q) (fun w' s' z => ?_) fun _ _ e => e)
    obtain ⟨v', H', I', rv, b, rfl, q'⟩ := z
    cases rv
    exact ⟨b, rfl, _, rfl, .bl (!b), H', I', rfl, q'⟩
  show wpAny (model X.prog X.w) X.A (richCompare .NotEq (.ref a) u) (EP X pins σ Q) X.xe s
  unfold richCompare
  simp only [oneThing_ref, cmpInfo_NotEq]
  refine wpAny_holding (wpAny_bind (wpAny_cRoomFor hr.units0 ?_))
  refine wpAny_bind (J.type.here (wpAny_bind (hb.here ?_)))
  split
  · rename_i qn
    have e : PySem.W.subIn X.K t (.ref C) = some false := by
      rcases Bool.or_eq_true_iff.mp nf with e | e
      · rw [beq_iff_eq.mp e] at qn
        simp at qn
      · exact beq_iff_eq.mp e
    refine wpAny_bind ((PySem.W.looks_subIn I.kIn e).here ?_)
    simp only [Bool.false_eq_true, if_false]
    refine wpAny_bind (wpAny_mono one (fun r s' z => ?_) fun _ _ e => e)
    obtain ⟨v, rfl, hq⟩ := z
    exact wpAny_pure hq
  · refine wpAny_bind (wpAny_pure ?_)
    simp only [Bool.false_eq_true, if_false]
    refine wpAny_bind (wpAny_mono one (fun r s' z => ?_) fun _ _ e => e)
    obtain ⟨v, rfl, hq⟩ := z
    exact wpAny_pure hq
end
/-! ### what the head tests -/
def spmB (K : PySem.W.Frag) (C : Addr) (m : Str) (f : Addr) : Bool := He.eqO (PySem.W.findIn K (.ref C) m) (some (some (.ref f))) && PySem.W.isFn K (.ref f)
theorem spmB_ok {K : PySem.W.Frag} {C f : Addr} {m : Str} (h : spmB K C m f = true) : Spm K C m f := by
  obtain ⟨a, b⟩ := He.ba h
  exact ⟨He.eqO_ok a, b⟩
def neB (K : PySem.W.Frag) (C : Addr) : Bool := He.eqO (PySem.W.findIn K (.ref C) "__ne__") (some (some (.builtin "object.__ne__"))) && decide (PySem.W.mroIn K C (.type "object") = some true)
theorem neB_ok {K : PySem.W.Frag} {C : Addr} (h : neB K C = true) : NeC K C := by
  obtain ⟨a, b⟩ := He.ba h
  exact ⟨He.eqO_ok a, of_decide_eq_true b⟩
def nfB (K : PySem.W.Frag) (C : Addr) : Bool := ["int", "bool", "str", "NoneType", "list", "tuple"].all fun n => PySem.W.notFirst K C (.type n)
theorem nfB_ok {K : PySem.W.Frag} {C : Addr} {n : String} (h : nfB K C = true) (hn : n ∈ ["int", "bool", "str", "NoneType", "list", "tuple"]) : PySem.W.notFirst K C (.type n) = true := List.all_eq_true.mp h n hn
def cmB (K : PySem.W.Frag) (C : Addr) (m : Str) : Bool := He5.wrapB K C "classmethod" "classmethod.__get__" m && (PySem.W.fnIn K (He5.wf K C "classmethod" m) && (PySem.W.readsIn K C (.type "type") && He.eqO (PySem.W.specialIn K (.ref C) "__getattribute__") (some (some (.builtin "type.__getattribute__")))))
theorem cmB_met {K : PySem.W.Frag} {C : Addr} {m : Str} (h : cmB K C m = true) : ClX.CMet K C (.type "type") m (He.ma K C m) (He5.wf K C "classmethod" m) := by
  obtain ⟨a, b⟩ := He.ba h
  exact He5.cmet_of a (He.ba b).1
theorem cmB_read {K : PySem.W.Frag} {C : Addr} {m : Str} (h : cmB K C m = true) : ClX.CRead K C (.type "type") := by
  obtain ⟨a, b⟩ := He.ba h
  obtain ⟨b, c⟩ := He.ba b
  obtain ⟨c, d⟩ := He.ba c
  exact ⟨c, He.eqO_ok d⟩
theorem Dn.raw {P : Program} {w : World} {K : PySem.W.Frag} {mg : Str → Option Value} {base : Heap} {CX : CXT} {k : Nat} {f : Addr} {sp : Sp} (D : Dn P w K mg base CX k f [] sp) : FnR P w K mg base CX k f sp := by
  obtain ⟨fd, ps, ds, F, kp, r, b⟩ := D.ex
  refine FnR.imp (F.raw b r) fun vs H Q E h => ?_
  show sp (vs ++ []) H Q E
  rw [List.append_nil]
  exact h
theorem pe_cm {X : Cx} {CX : CXT} {k : Nat} {C : Addr} {sp : Sp} {E : XK} {m : Str} {pos apos : Pos} {e o : Expr} {es : List Expr} {ta : TE} {t : TA} {pl : Sem Bool} (he : PE X o ta) (cm : cmB X.K C m = true) (D : Dn X.prog X.w X.K X.mg X.base CX k (He5.wf X.K C "classmethod" m) [] sp) (hr : Room k X.A) (hx : Passes CX X E) (ha : PA X (e :: es) t)
    (hst : starEach (e :: es) X.env = (false, eval e X.env) :: starEach es X.env := by rfl) (hpl : (backTo pos (starEach es X.env)).any (·.1) = false := by rfl)
    (ht : eval (.Call (.Attribute o m apos) (e :: es) [] pos) X.env = (do
      let ov ← eval o X.env
      standAt apos.atName
      let (f, first) ← holding [ov] (getMethod ov m pl)
      callWith pos f first (backTo pos (starEach (e :: es) X.env)) (backToKw pos (keywordEach [] X.env))) := by rfl) :
    PE X (.Call (.Attribute o m apos) (e :: es) [] pos) (ClX.tCMeth C sp E ta t) :=
  ClX.pe_cmeth he (cmB_read cm) (cmB_met cm) D.raw hr hx ha hst hpl ht
/-! ### a dict of the top with text keys -/
def keysB (K : PySem.W.Frag) (a : Addr) (ks : List Str) : Bool := match K.lookup a with
  | some ⟨_, _, .dict es _, _⟩ => decide (es.toList.map (fun e => match e.key with | .str x _ => some x | _ => none) = ks.map some)
  | _ => false
theorem keys_find : ∀ {l : List DictEntry} {ks : List Str} {z : Str}, l.map (fun e => match e.key with | .str x _ => some x | _ => none) = ks.map some → z ∉ ks →
    l.find? (·.key.isStr z) = none ∧ l.any (·.refKey) = false
  | [], _, _, _, _ => ⟨rfl, rfl⟩
  | e :: l, [], z, h, _ => by cases h
  | e :: l, k :: ks, z, h, hz => by
    rw [List.map_cons, List.map_cons] at h
    obtain ⟨h1, h2⟩ := List.cons_eq_cons.mp h
    obtain ⟨i1, i2⟩ := keys_find h2 fun q => hz (List.mem_cons_of_mem _ q)
    have hk : ¬ z = k := fun q => hz (by rw [q]; exact List.mem_cons_self ..)
    cases ek : e.key with
    | str x t =>
      rw [ek] at h1
      have hx : x = k := Option.some.inj h1
      have a1 : e.key.isStr z = false := by
        rw [ek, hx]
        simp only [Value.isStr]
        first
          | exact beq_eq_false_iff_ne.mpr fun q => hk q.symm
          | exact beq_eq_false_iff_ne.mpr hk
          | exact decide_eq_false fun q => hk q.symm
      refine ⟨?_, ?_⟩
      · rw [List.find?_cons, a1]
        exact i1
      · rw [List.any_cons, i2, Bool.or_false]
        unfold DictEntry.refKey
        rw [ek]
    | _ =>
      rw [ek] at h1
      cases h1
theorem keysB_none {K : PySem.W.Frag} {a : Addr} {ks : List Str} (h : keysB K a ks = true) {z : Str} (hz : z ∉ ks) : PySem.W.nsIn K a z = some none := by
  unfold keysB at h
  unfold PySem.W.nsIn
  cases q : K.lookup a with
  | none =>
    rw [q] at h
    cases h
  | some o =>
    obtain ⟨oc, od, dt, osl⟩ := o
    rw [q] at h
    cases dt with
    | dict es n =>
      obtain ⟨i1, i2⟩ := keys_find (of_decide_eq_true h) hz
      simp only [i1, i2]
      rfl
    | _ => cases h

section
variable {X : Cx} {d : Addr}
def rInKd (K : PySem.W.Frag) (d : Addr) : R2 := fun x y H Q => ∃ (z : Str) (r : Option Value), x = .str z ∧ y = .ref d ∧ PySem.W.nsIn K d z = some r ∧ Q (.bl r.isSome) H
def rNotInKd (K : PySem.W.Frag) (d : Addr) : R2 := fun x y H Q => ∃ (z : Str) (r : Option Value), x = .str z ∧ y = .ref d ∧ PySem.W.nsIn K d z = some r ∧ Q (.bl (!r.isSome)) H
def rItemKd (K : PySem.W.Frag) (d : Addr) : R2 := fun x y H Q => ∃ (z : Str) (u0 : Value) (v0 : V), x = .ref d ∧ y = .str z ∧ PySem.W.nsIn K d z = some (some u0) ∧ RelV v0 u0 ∧ Q v0 H
theorem op_inKd (K : PySem.W.Frag) (D : ∃ es n, KDict X.K X.w d es n) (hK : X.K = K := by rfl) : OpR X (compareOp .In) (rInKd K d) := by
  subst hK
  obtain ⟨es, n, D⟩ := D
  exact op_in_kd D
theorem op_notInKd (K : PySem.W.Frag) (D : ∃ es n, KDict X.K X.w d es n) (hK : X.K = K := by rfl) : OpR X (compareOp .NotIn) (rNotInKd K d) := by
  subst hK
  obtain ⟨es, n, D⟩ := D
  exact op_notIn_kd D
end
end Tm

/-! Part 7: texts: a walk over signs, names, numbers told by words. -/
namespace Tm
open PySem PySem.Spec PyProof.Rows L2
theorem tLcS_eq {tl : TE} {g : TG} {tt : TT} {te : TE} {vs : List Nat} {σ : L2.St} {H : Hp} {Q : VK} : tLc (iStr tl) g tt te vs σ H Q = tl σ H fun v H1 => ∃ x, v = .str x ∧ lcRun g tt te vs σ Q (Its x) H1 := rfl
theorem lcs_M {z : Str} {g : TG} {te : TE} {vs : List Nat} {σ : L2.St} {H : Hp} {Q : VK} (f : Nat → V) (hn : z.length < sizeLine)
    (ht : ∀ c ∈ TL.tl z, ∀ H1, Same H H1 → ∀ R : V → Hp → Prop, (∀ H2, Same H1 H2 → R (f c) H2) → g (.str ⟨#[c]⟩) (wipe σ vs) H1 fun σ2 H2 => wipe σ2 vs = wipe σ vs ∧ te σ2 H2 R)
    (hd : ∀ D H', H D = none → Same H H' → H' D = some (.lst ((TL.tl z).map f)) → Q (.ref D) H') (hg : ∀ x τ H1 R R', (∀ τ' H', R τ' H' → R' τ' H') → g x τ H1 R → g x τ H1 R') : lcRun g tYes te vs σ Q (Its z) H := by
  intro D hD
  have sz : z.cps.size = (TL.tl z).length := by simp
  refine ⟨fun i m H' => m = (TL.tl z).length - i ∧ i ≤ (TL.tl z).length ∧ LpInv H D ((TL.tl z).map f) i H', ⟨_, rfl, Nat.zero_le _, same_new hD, by rw [upd_same]; rfl⟩, ?_⟩
  rintro i m H' ⟨rfl, hi, p1, p2⟩
  by_cases hlt : i < (TL.tl z).length
  · refine .inr ⟨(by show i < z.cps.size; omega), LpInv H D ((TL.tl z).map f) (i + 1), fun H2 p => ⟨_, by omega, rfl, hlt, p⟩, ?_⟩
    rintro x H2 ⟨rfl, c, hc, rfl⟩
    have hc' : (TL.tl z)[i]? = some c := by
      rw [Array.getElem?_toList]
      exact hc
    refine hg _ _ _ _ _ (fun τ' H' z => ⟨z.1, z.2⟩) (ht c (List.mem_of_getElem? hc') H2 p1 (fun y H4 => ∃ acc, H4 D = some (.lst acc) ∧ acc.length < sizeLine ∧ LpInv H D ((TL.tl z).map f) (i + 1) (upd H4 D (.lst (acc ++ [y])))) fun H5 s5 => ?_)
    refine ⟨_, s5 _ _ p2, ?_, fun b o e => ?_, ?_⟩
    · rw [List.length_take, List.length_map]
      rw [TL.len_tl] at hn
      omega
    · rw [upd_ne (ne_of_none e hD)]
      exact s5 _ _ (p1 _ _ e)
    · rw [upd_same, List.take_add_one, List.getElem?_map, hc']
      rfl
  · have e : i = (TL.tl z).length := by omega
    subst e
    refine .inl ⟨(by show z.cps.size ≤ _; omega), hd D H' hD p1 ?_⟩
    have q := p2
    rwa [List.take_of_length_le (by rw [List.length_map]; exact Nat.le_refl _)] at q
/-! ### names -/
def letterB (c : Nat) : Bool := decide (97 ≤ c) && decide (c ≤ 122)
def digitB (c : Nat) : Bool := decide (48 ≤ c) && decide (c ≤ 57)
theorem letters_tl : TL.tl ("abcdefghijklmnopqrstuvwxyz" : Str) = (List.range 26).map (97 + ·) := by decide +kernel
theorem signs_tl : TL.tl ("0123456789" : Str) = (List.range 10).map (48 + ·) := by decide +kernel
theorem letter_mem (c : Nat) : decide (c ∈ TL.tl ("abcdefghijklmnopqrstuvwxyz" : Str)) = letterB c := by
  rw [letters_tl]
  unfold letterB
  rw [← Bool.decide_and]
  congr 1
  rw [List.mem_map, eq_iff_iff]
  constructor
  · rintro ⟨a, ha, rfl⟩
    have := List.mem_range.mp ha
    omega
  · intro h
    exact ⟨c - 97, List.mem_range.mpr (by omega), by omega⟩
theorem sign_mem (c : Nat) : decide (c ∈ TL.tl ("0123456789" : Str)) = digitB c := by
  rw [signs_tl]
  unfold digitB
  rw [← Bool.decide_and]
  congr 1
  rw [List.mem_map, eq_iff_iff]
  constructor
  · rintro ⟨a, ha, rfl⟩
    have := List.mem_range.mp ha
    omega
  · intro h
    exact ⟨c - 48, List.mem_range.mpr (by omega), by omega⟩
def barred : List Str := ["any", "none", "anew", "lift", "term"]
def nameB (z : Str) : Bool := !decide (z ∈ barred) && (decide (1 ≤ z.length) && (decide (z.length ≤ 4) && (TL.tl z).all letterB))
theorem nameB_len {z : Str} (h : nameB z = true) : z.length ≤ 4 := by
  simp only [nameB, Bool.and_eq_true, decide_eq_true_eq] at h
  exact h.2.2.1
def nameV : V → Bool
  | .str z => nameB z
  | _ => false
theorem eqV_str (a b : Str) : eqV (.str a) (.str b) = decide (a = b) := by
  by_cases h : a = b
  · subst h
    simp [eqV]
  · rw [decide_eq_false h]
    show (a == b) = false
    exact beq_eq_false_iff_ne.mpr h
theorem inV_str (z : Str) : ∀ ns : List Str, inV (.str z) (ns.map V.str) = decide (z ∈ ns)
  | [] => rfl
  | n :: ns => by
    have ih := inV_str z ns
    unfold inV at ih ⊢
    rw [List.map_cons, List.any_cons, ih, eqV_str]
    by_cases h : n = z
    · simp [h]
    · have h' : ¬ z = n := fun e => h e.symm
      simp [h, h']
theorem lay_strs (ys : List Str) (h : ∀ y ∈ ys, PyData.strOk y = true) : (ys.map V.str).all layV = true := by
  rw [List.all_eq_true]
  intro y hy
  obtain ⟨i, hi, rfl⟩ := List.mem_map.mp hy
  exact h i hi
/-! ### numbers told by words -/
def numIn (z : Str) : Option Int :=
  if (decide (1 ≤ z.length) && decide (z.length ≤ 19)) = true then
    if (TL.tl z).all digitB = true then
      if (decide ((TL.tl z).head? = some 48) && decide (1 < z.length)) = true then none else some ((NumText.digitsVal (TL.tl z) : Nat) : Int)
    else none
  else none
theorem digits_all {l : List Nat} (h : l.all digitB = true) : NumText.AllDigits l := fun c hc => by
  have := List.all_eq_true.mp h c hc
  simp only [digitB, Bool.and_eq_true, decide_eq_true_eq] at this
  omega
theorem all_digits {l : List Nat} (h : NumText.AllDigits l) : l.all digitB = true := by
  rw [List.all_eq_true]
  intro c hc
  have := h c hc
  simp only [digitB, Bool.and_eq_true, decide_eq_true_eq]
  omega
/-- a number as a text -/
def numS (n : Int) : Str := Str.ofString (toString n)
theorem numL_head : ∀ n : Nat, 0 < n → (TL.numL n).head? ≠ some 48 := by
  intro n
  induction n using Nat.strongRecOn with
  | _ n ih =>
    intro hn
    by_cases h : n < 10
    · rw [TL.numL_lt h]
      simp
      omega
    · rw [TL.numL_step (by omega)]
      have z := ih (n / 10) (by omega) (by omega)
      cases e : TL.numL (n / 10) with
      | nil => exact absurd e (TL.numL_ne _)
      | cons a l =>
        rw [e] at z
        simpa using z
theorem tl_numS {n : Int} (h : 0 ≤ n) : TL.tl (numS n) = TL.numL n.toNat := by
  obtain ⟨m, rfl⟩ : ∃ m : Nat, n = (m : Int) := ⟨n.toNat, by omega⟩
  exact TL.tl_num m
theorem numS_len {n : Int} (h0 : 0 ≤ n) (h1 : n < 10 ^ 19) : (numS n).length ≤ 19 := by
  rw [TL.len_tl, tl_numS h0]
  exact TL.numL_len (by decide) (by omega)
theorem numIn_numS {n : Int} (h0 : 0 ≤ n) (h1 : n < 10 ^ 19) : numIn (numS n) = some n := by
  obtain ⟨m, rfl⟩ : ∃ m : Nat, n = (m : Int) := ⟨n.toNat, by omega⟩
  have hl := numS_len h0 h1
  have hp : 1 ≤ (numS (m : Int)).length := by
    rw [TL.len_tl, tl_numS h0]
    have := TL.numL_ne m
    cases e : TL.numL (m : Int).toNat with
    | nil => exact absurd e (TL.numL_ne _)
    | cons a l => simp
  unfold numIn
  rw [if_pos (by simp [hl, hp])]
  rw [if_pos (by rw [tl_numS h0]; exact all_digits (TL.numL_digits _))]
  rw [if_neg, tl_numS h0, TL.numL_val, Int.toNat_natCast]
  intro z
  rw [Bool.and_eq_true, decide_eq_true_eq, decide_eq_true_eq, tl_numS h0, Int.toNat_natCast] at z
  by_cases hm : 0 < m
  · exact numL_head m hm z.1
  · have e : m = 0 := by omega
    subst e
    have := z.2
    rw [TL.len_tl, tl_numS (by decide), Int.toNat_natCast, TL.numL_lt (by decide)] at this
    simp at this
theorem numS_inj {m n : Int} (hm : 0 ≤ m) (hn : 0 ≤ n) (h : numS m = numS n) : m = n := by
  have e := congrArg TL.tl h
  rw [tl_numS hm, tl_numS hn] at e
  have := TL.numL_inj e
  omega
theorem numS_free {n : Int} {s : Nat} (h0 : 0 ≤ n) (h : s < 48 ∨ 57 < s) : s ∉ TL.tl (numS n) := by
  rw [tl_numS h0]
  exact TL.numL_free h
/-- how often, as a text -/
def manyS : Option Int → Str
  | none => "any"
  | some n => numS n
/-- a text of a cap -/
def capS : Option Int → Str
  | none => "none"
  | some n => numS n
end Tm
namespace Tm
open PySem PySem.Spec PyProof.Rows L2
/-! ### the texts of kinds -/
structure KdOk (k : Kd) : Prop where
  nm : nameB k.name = true
  a0 : 1 ≤ k.a
  a1 : k.a < 10 ^ 19
  bl : k.fm = .lift → 1 ≤ k.b
  b1 : k.b < 10 ^ 19
  bn : k.fm ≠ .lift → k.b = 0
  t0 : ∀ c, k.times = some c → 1 ≤ c ∧ c < 10 ^ 19
def Fm.word : Fm → Str
  | .still => "still"
  | .anew => "anew"
  | .lift => "lift"
def kindWs (k : Kd) : List Str := [k.fm.word, k.name, numS k.a] ++ (if k.fm = .lift then [numS k.b] else []) ++ [manyS k.times]
def kindS (k : Kd) : Str := Txt.join " " (kindWs k)
theorem len_app (x y : Str) : (x ++ y).length = x.length + y.length := by
  rw [TL.len_tl, TL.tl_append, List.length_append, TL.len_tl, TL.len_tl]
theorem sp_tl : TL.tl (" " : Str) = [32] := by decide +kernel
theorem manyS_len {o : Option Int} (h : ∀ n, o = some n → 1 ≤ n ∧ n < 10 ^ 19) : (manyS o).length ≤ 19 := by
  cases o with
  | none => decide +kernel
  | some n => exact numS_len (by have := (h n rfl).1; omega) (h n rfl).2
/-- texts one behind the other -/
theorem joins_eq {x y : Str} (h : TL.tl x = TL.tl y) : x = y := TL.ext_tl h
theorem joinL_cons (S p q : List Nat) (r : List (List Nat)) : TL.joinL S (p :: q :: r) = p ++ (S ++ TL.joinL S (q :: r)) := rfl
theorem tl_kindS (k : Kd) : TL.tl (kindS k) = TL.joinL [32] ((kindWs k).map TL.tl) := by
  unfold kindS
  rw [TL.join_eq, TL.tl_join, sp_tl]
end Tm
namespace Tm
open PySem PySem.Spec PyProof.Rows L2
/-! ### texts that are cut -/
theorem spl_le {S : List Nat} : ∀ {l : List Nat} {k : Nat} {acc p : List Nat}, p ∈ TL.spl S k acc l → p.length ≤ acc.length + l.length
  | [], k, acc, p, h => by
    rw [TL.spl_nil, List.mem_singleton] at h
    rw [h]
    exact Nat.le_add_right _ _
  | c :: r, 0, acc, p, h => by
    by_cases hp : TL.pre S (c :: r) = true
    · rw [TL.spl_hit hp] at h
      rcases List.mem_cons.mp h with h | h
      · rw [h]
        exact Nat.le_add_right _ _
      · have := spl_le h
        simp only [List.length_nil, List.length_cons] at this ⊢
        omega
    · rw [TL.spl_miss (by simpa using hp)] at h
      have := spl_le h
      simp only [List.length_append, List.length_cons, List.length_nil] at this ⊢
      omega
  | c :: r, k + 1, acc, p, h => by
    have := spl_le (show p ∈ TL.spl S k acc r from h)
    simp only [List.length_cons]
    omega
theorem spl_ne {S : List Nat} : ∀ {l : List Nat} {k : Nat} {acc : List Nat}, TL.spl S k acc l ≠ []
  | [], k, acc => by
    rw [TL.spl_nil]
    simp
  | c :: r, 0, acc => by
    by_cases hp : TL.pre S (c :: r) = true
    · rw [TL.spl_hit hp]
      simp
    · rw [TL.spl_miss (by simpa using hp)]
      exact spl_ne
  | c :: r, k + 1, acc => spl_ne (l := r) (k := k)
theorem split_ne {x y : Str} (hy : TL.tl y ≠ []) (hk : y.cps.all (· < 256) = true) : Txt.split x y ≠ [] := fun z => by
  have e := TL.split_spl x y hy (TL.kind_ok hk)
  rw [z] at e
  exact spl_ne e.symm
theorem split_le {x y p : Str} (hy : TL.tl y ≠ []) (hk : y.cps.all (· < 256) = true) (hp : p ∈ Txt.split x y) : p.length ≤ x.length := by
  have e := TL.split_spl x y hy (TL.kind_ok hk)
  have m : TL.tl p ∈ TL.spl (TL.tl y) 0 [] (TL.tl x) := by
    rw [← e]
    exact List.mem_map_of_mem hp
  have := spl_le m
  simp only [List.length_nil, Nat.zero_add] at this
  rw [TL.len_tl, TL.len_tl]
  exact this
theorem sp_ne : TL.tl (" " : Str) ≠ [] := by decide +kernel
theorem sp_lo : (" " : Str).cps.all (· < 256) = true := by decide +kernel
/-! ### what the text of a kind tells -/
def timesIn (t : Str) : Option (Option Int) := if t = "any" then some none else (numIn t).map some
def formIn (f : Str) : Option Fm := if f = "still" then some .still else if f = "anew" then some .anew else if f = "lift" then some .lift else none
def Fm.size : Fm → Nat
  | .lift => 5
  | _ => 4
/-- the words as a kind: its form, name, numbers, times -/
def toldN (fm : Fm) (n : Str) : List (Option Int) → Option (Option Int) → Option Kd
  | [some a], some tm => some ⟨fm, n, a, 0, tm⟩
  | [some a, some b], some tm => some ⟨fm, n, a, b, tm⟩
  | _, _ => none
def toldM (fm : Fm) (n : Str) (ms : List Str) (t : Str) : Option Kd := if nameB n = true then toldN fm n (ms.map numIn) (timesIn t) else none
def toldK (ws : List Str) : Option Kd :=
  match formIn (ws.headD Str.empty) with
  | none => none
  | some fm => if ws.length = fm.size then toldM fm (ws.getD 1 Str.empty) (ws.drop 2).dropLast (ws.getLastD Str.empty) else none
def toldV (k : Kd) : List V := [.str k.fm.word, .str k.name, .int k.a] ++ (if k.fm = .lift then [.int k.b] else []) ++ [tv k.times]
theorem formIn_word {f : Str} {fm : Fm} (h : formIn f = some fm) : f = fm.word := by
  unfold formIn at h
  by_cases h1 : f = "still"
  · rw [if_pos h1] at h
    cases h
    exact h1
  rw [if_neg h1] at h
  by_cases h2 : f = "anew"
  · rw [if_pos h2] at h
    cases h
    exact h2
  rw [if_neg h2] at h
  by_cases h3 : f = "lift"
  · rw [if_pos h3] at h
    cases h
    exact h3
  rw [if_neg h3] at h
  cases h
theorem formIn_none {f : Str} (h : formIn f = none) : f ∉ (["still", "anew", "lift"] : List Str) := fun m => by
  rcases List.mem_cons.mp m with m | m
  · rw [m] at h
    exact absurd h (by decide +kernel)
  rcases List.mem_cons.mp m with m | m
  · rw [m] at h
    exact absurd h (by decide +kernel)
  rcases List.mem_cons.mp m with m | m
  · rw [m] at h
    exact absurd h (by decide +kernel)
  cases m
theorem inV_non : ∀ os : List (Option Int), inV .non (os.map tv) = os.any (fun o => decide (o = none))
  | [] => rfl
  | o :: os => by
    have ih := inV_non os
    unfold inV at ih ⊢
    rw [List.map_cons, List.any_cons, List.any_cons, ih]
    congr 1
    cases o <;> rfl
theorem flat_tvs (os : List (Option Int)) : (os.map tv).all flatV = true := by
  rw [List.all_eq_true]
  intro y hy
  obtain ⟨o, _, rfl⟩ := List.mem_map.mp hy
  cases o <;> rfl
/-- a kind's text, read -/
theorem word_free (f : Fm) : 32 ∉ TL.tl f.word := by
  cases f <;> decide +kernel
theorem name_free {z : Str} {s : Nat} (h : nameB z = true) (hs : s < 97 ∨ 122 < s) : s ∉ TL.tl z := fun m => by
  simp only [nameB, Bool.and_eq_true, decide_eq_true_eq] at h
  have := List.all_eq_true.mp h.2.2.2 s m
  simp only [letterB, Bool.and_eq_true, decide_eq_true_eq] at this
  omega
theorem many_free {o : Option Int} {s : Nat} (h : ∀ c, o = some c → 1 ≤ c ∧ c < 10 ^ 19) (hs : s < 48) : s ∉ TL.tl (manyS o) := by
  cases o with
  | none =>
    intro m
    have e : TL.tl (manyS none) = [97, 110, 121] := by decide +kernel
    rw [e] at m
    simp only [List.mem_cons, List.not_mem_nil, or_false] at m
    omega
  | some c => exact numS_free (by have := h c rfl; omega) (.inl hs)
theorem ws_free {k : Kd} (ok : KdOk k) {s : Nat} (hs : s < 48) : ∀ p ∈ kindWs k, s ∉ TL.tl p := by
  have hw : s ∉ TL.tl k.fm.word := by
    cases k.fm
    · have e : TL.tl Fm.still.word = [115, 116, 105, 108, 108] := by decide +kernel
      rw [e]
      simp only [List.mem_cons, List.not_mem_nil, or_false]
      omega
    · have e : TL.tl Fm.anew.word = [97, 110, 101, 119] := by decide +kernel
      rw [e]
      simp only [List.mem_cons, List.not_mem_nil, or_false]
      omega
    · have e : TL.tl Fm.lift.word = [108, 105, 102, 116] := by decide +kernel
      rw [e]
      simp only [List.mem_cons, List.not_mem_nil, or_false]
      omega
  intro p hp
  unfold kindWs at hp
  simp only [List.mem_append, List.mem_cons, List.not_mem_nil, or_false] at hp
  rcases hp with ((rfl | rfl | rfl) | hp) | rfl
  · exact hw
  · exact name_free ok.nm (.inl (by omega))
  · exact numS_free (by have := ok.a0; omega) (.inl hs)
  · by_cases hl : k.fm = .lift
    · rw [if_pos hl] at hp
      rw [List.mem_singleton.mp hp]
      exact numS_free (by have := ok.bl hl; omega) (.inl hs)
    · rw [if_neg hl] at hp
      cases hp
  · exact many_free ok.t0 hs
theorem split_kind {k : Kd} (ok : KdOk k) : Txt.split (kindS k) " " = kindWs k :=
  TL.split_join (s := 32) (S := []) sp_tl sp_lo (by unfold kindWs; simp) (ws_free ok (by decide))
theorem any_num {n : Int} (h : 0 ≤ n) : numS n ≠ ("any" : Str) := fun z => by
  have e := congrArg TL.tl z
  have q : (97 : Nat) ∈ TL.tl (numS n) := by
    rw [e]
    decide +kernel
  exact numS_free h (.inr (by decide)) q
theorem timesIn_many {o : Option Int} (h : ∀ c, o = some c → 1 ≤ c ∧ c < 10 ^ 19) : timesIn (manyS o) = some o := by
  cases o with
  | none => rfl
  | some c =>
    have hc := h c rfl
    unfold timesIn
    rw [show manyS (some c) = numS c from rfl, if_neg (any_num (by omega)), numIn_numS (by omega) hc.2]
    rfl
theorem formIn_of (f : Fm) : formIn f.word = some f := by cases f <;> decide +kernel
theorem toldK_ws {k : Kd} (ok : KdOk k) : toldK (kindWs k) = some k := by
  obtain ⟨fm, nm, a, b, tm⟩ := k
  have ha := numIn_numS (Int.le_trans (by decide) ok.a0) ok.a1
  have ht := timesIn_many ok.t0
  have hn := ok.nm
  have hb := ok.bn
  have hbl := ok.bl
  have hb1 := ok.b1
  dsimp only at ha ht hn hb hbl hb1
  cases fm with
  | still =>
    have e : b = 0 := hb (by decide)
    subst e
    simp [toldK, kindWs, formIn_of, Fm.size, toldM, toldN, hn, ha, ht]
  | anew =>
    have e : b = 0 := hb (by decide)
    subst e
    simp [toldK, kindWs, formIn_of, Fm.size, toldM, toldN, hn, ha, ht]
  | lift =>
    have hbb := numIn_numS (by have := hbl rfl; omega) hb1
    simp [toldK, kindWs, formIn_of, Fm.size, toldM, toldN, hn, ha, ht, hbb]
theorem told_kind {k : Kd} (ok : KdOk k) : toldK (Txt.split (kindS k) " ") = some k := by
  rw [split_kind ok, toldK_ws ok]
theorem kindS_inj {k j : Kd} (ok : KdOk k) (oj : KdOk j) (h : kindS k = kindS j) : k = j := by
  have a := told_kind ok
  rw [h, told_kind oj] at a
  exact (Option.some.inj a).symm
end Tm

/-! Part 9: drawn kinds. -/
namespace Tm
open PySem PySem.Spec PyProof.Rows L2
def namesA : List Str := ["talk", "owe", "plea", "a", "b", "zz", "x", "suit", "rest", "cap"]
theorem namesA_ok : ∀ n ∈ namesA, nameB n = true := by decide +kernel
theorem namesA_nodup : namesA.Nodup := by decide +kernel
theorem namesA_lay : (namesA.map V.str).all layV = true := by decide +kernel
/-- a kind as the laws tell it -/
def told5 (k : Kd) : List V := [.str k.fm.word, .str k.name, .int k.a, .int k.b, tv k.times]
/-- a drawn kind -/
structure KdIn (z : Str) (most : Int) (k : Kd) : Prop where
  nm : k.name = z
  a0 : 1 ≤ k.a
  a1 : k.a ≤ most
  b0 : k.fm = .lift → 1 ≤ k.b
  b1 : k.b ≤ most
  bn : k.fm ≠ .lift → k.b = 0
  t0 : ∀ c, k.times = some c → 1 ≤ c ∧ c ≤ 3
theorem KdIn.ok {z : Str} {most : Int} {k : Kd} (h : KdIn z most k) (hz : nameB z = true) (hm : most ≤ 10 ^ 18) : KdOk k := by
  refine ⟨by rw [h.nm]; exact hz, h.a0, ?_, h.b0, ?_, h.bn, fun c hc => ⟨(h.t0 c hc).1, ?_⟩⟩
  · have := h.a1
    omega
  · have := h.b1
    omega
  · have := (h.t0 c hc).2
    omega
theorem fm_ne {f g : Fm} (h : f ≠ g) : ¬ V.str f.word = V.str g.word := fun z => h (by
  have e := V.str.inj z
  have a := formIn_of f
  rw [e, formIn_of g] at a
  exact (Option.some.inj a).symm)
theorem none_of {H H' : Hp} {q : Addr} (s : Same H H') (h : H' q = none) : H q = none := by
  cases e : H q with
  | none => rfl
  | some o =>
    rw [s _ _ e] at h
    cases h
theorem joinL_len (S : List Nat) : ∀ ps : List (List Nat), (TL.joinL S ps).length ≤ (ps.map List.length).sum + ps.length * S.length
  | [] => Nat.zero_le _
  | [p] => by simp [TL.joinL]
  | p :: q :: r => by
    have ih := joinL_len S (q :: r)
    rw [joinL_cons]
    simp only [List.length_append, List.map_cons, List.sum_cons, List.length_cons, Nat.add_mul, Nat.one_mul] at ih ⊢
    omega
theorem join_len (y : Str) (ws : List Str) : (Txt.join y ws).length ≤ (ws.map (·.length)).sum + ws.length * y.length := by
  rw [TL.len_tl, TL.join_eq, TL.tl_join]
  have := joinL_len (TL.tl y) (ws.map TL.tl)
  rw [List.length_map, List.map_map] at this
  have e : List.length ∘ TL.tl = fun w : Str => w.length := funext fun w => (TL.len_tl w).symm
  rw [e, ← TL.len_tl] at this
  exact this
theorem kindWs_sum {k : Kd} (ok : KdOk k) : ((kindWs k).map (·.length)).sum + (kindWs k).length * (" " : Str).length ≤ 100 := by
  have h1 : k.fm.word.length ≤ 5 := by cases k.fm <;> decide +kernel
  have h2 := nameB_len ok.nm
  have h3 := numS_len (n := k.a) (by have := ok.a0; omega) ok.a1
  have h4 := manyS_len ok.t0
  have h5 : (" " : Str).length = 1 := by decide +kernel
  rw [h5]
  unfold kindWs
  by_cases hf : k.fm = .lift
  · have h6 := numS_len (n := k.b) (by have := ok.bl hf; omega) ok.b1
    rw [if_pos hf]
    simp
    omega
  · rw [if_neg hf]
    simp
    omega
theorem kindS_len {k : Kd} (ok : KdOk k) : (kindS k).length ≤ 100 := Nat.le_trans (join_len _ _) (kindWs_sum ok)
theorem strs_perm {ys : List V} {ns : List Str} (h : ys.Perm (ns.map V.str)) : ∃ ms : List Str, ys = ms.map V.str ∧ ms.Perm ns := by
  have z : ∀ y ∈ ys, ∃ i, y = V.str i := fun y hy => by
    obtain ⟨i, _, e⟩ := List.mem_map.mp (h.mem_iff.mp hy)
    exact ⟨i, e.symm⟩
  have : ∃ ms : List Str, ys = ms.map V.str := by
    clear h
    induction ys with
    | nil => exact ⟨[], rfl⟩
    | cons y ys ih =>
      obtain ⟨i, rfl⟩ := z y (List.mem_cons_self ..)
      obtain ⟨ms, e⟩ := ih fun y hy => z y (List.mem_cons_of_mem _ hy)
      exact ⟨i :: ms, by rw [e]; rfl⟩
  obtain ⟨ms, e⟩ := this
  refine ⟨ms, e, ?_⟩
  rw [e] at h
  have f : ∀ l : List Str, (l.map V.str).map (fun v => match v with | .str i => i | _ => Str.empty) = l := fun l => by
    rw [List.map_map]
    simp [Function.comp_def]
  have q := h.map (fun v => match v with | .str i => i | _ => Str.empty)
  rwa [f, f] at q
theorem cutV_take (xs : List V) (v : Int) (h : 0 ≤ v) : cutV xs none (some v) = xs.take v.toNat := by
  obtain ⟨n, rfl⟩ : ∃ n : Nat, v = (n : Int) := ⟨v.toNat, by omega⟩
  unfold cutV
  rw [HT.sIx_nat]
  show (xs.drop 0).take (min n xs.length - 0) = _
  rw [List.drop_zero, Nat.sub_zero, Int.toNat_natCast, List.take_eq_take_iff]
  omega
end Tm

namespace Tm
open PySem PySem.Spec PyProof.Rows L2
def top (i : Nat) : Stmt := PySem.Challenge.pw_termstill_k04_texts_of_kinds.main.body.getD i (.Pass ⟨0, 0, 0, 0⟩)
abbrev s_is_integer : Stmt := top 10
abbrev s_is_length : Stmt := top 11
abbrev s_is_name : Stmt := top 12
abbrev s_number_in : Stmt := top 13
abbrev s_Kind_read : Stmt := inClass (top 15) 0
abbrev s_Kind___eq__ : Stmt := inClass (top 15) 1
abbrev s_need : Stmt := top 16
abbrev s_is_many : Stmt := top 17
abbrev s_many_text : Stmt := top 18
abbrev s_Still___init__ : Stmt := inClass (top 19) 0
abbrev s_Still___str__ : Stmt := inClass (top 19) 1
abbrev s_Anew___init__ : Stmt := inClass (top 20) 0
abbrev s_Anew___str__ : Stmt := inClass (top 20) 1
abbrev s_Lift___init__ : Stmt := inClass (top 21) 0
abbrev s_Lift___str__ : Stmt := inClass (top 21) 1
abbrev s_told_by : Stmt := top 23
abbrev s_made_of : Stmt := top 24
abbrev s__law_deal : Stmt := top 26
abbrev s__law_draw : Stmt := top 27
abbrev s__law_pick : Stmt := top 28
abbrev s__law_mixed : Stmt := top 29
abbrev s__law_names : Stmt := top 30
abbrev s__law_kind : Stmt := top 31
abbrev s__law_kind_text : Stmt := top 32
abbrev s__law_kind_made : Stmt := top 33
abbrev s_law : Stmt := top 34
def d_is_integer : He5.DefA := ⟨fun K => He.ga K "is_integer", "is_integer", "is_integer", defArgs s_is_integer, defBody s_is_integer, defScope s_is_integer, [], []⟩
def d_is_length : He5.DefA := ⟨fun K => He.ga K "is_length", "is_length", "is_length", defArgs s_is_length, defBody s_is_length, defScope s_is_length, [], []⟩
def d_is_name : He5.DefA := ⟨fun K => He.ga K "is_name", "is_name", "is_name", defArgs s_is_name, defBody s_is_name, defScope s_is_name, [], []⟩
def d_number_in : He5.DefA := ⟨fun K => He.ga K "number_in", "number_in", "number_in", defArgs s_number_in, defBody s_number_in, defScope s_number_in, [], []⟩
def d_Kind_read : He5.DefA := ⟨fun K => He5.wf K (He.ga K "Kind") "classmethod" "read", "read", "Kind.read", defArgs s_Kind_read, defBody s_Kind_read, defScope s_Kind_read, [], []⟩
def d_Kind___eq__ : He5.DefA := ⟨fun K => He.ma K (He.ga K "Kind") "__eq__", "__eq__", "Kind.__eq__", defArgs s_Kind___eq__, defBody s_Kind___eq__, defScope s_Kind___eq__, [], []⟩
def d_need : He5.DefA := ⟨fun K => He.ga K "need", "need", "need", defArgs s_need, defBody s_need, defScope s_need, [], []⟩
def d_is_many : He5.DefA := ⟨fun K => He.ga K "is_many", "is_many", "is_many", defArgs s_is_many, defBody s_is_many, defScope s_is_many, [], []⟩
def d_many_text : He5.DefA := ⟨fun K => He.ga K "many_text", "many_text", "many_text", defArgs s_many_text, defBody s_many_text, defScope s_many_text, [], []⟩
def d_Still___init__ : He5.DefA := ⟨fun K => He.ma K (He.ga K "Still") "__init__", "__init__", "Still.__init__", defArgs s_Still___init__, defBody s_Still___init__, defScope s_Still___init__, [.non], []⟩
def d_Still___str__ : He5.DefA := ⟨fun K => He.ma K (He.ga K "Still") "__str__", "__str__", "Still.__str__", defArgs s_Still___str__, defBody s_Still___str__, defScope s_Still___str__, [], []⟩
def d_Anew___init__ : He5.DefA := ⟨fun K => He.ma K (He.ga K "Anew") "__init__", "__init__", "Anew.__init__", defArgs s_Anew___init__, defBody s_Anew___init__, defScope s_Anew___init__, [.non], []⟩
def d_Anew___str__ : He5.DefA := ⟨fun K => He.ma K (He.ga K "Anew") "__str__", "__str__", "Anew.__str__", defArgs s_Anew___str__, defBody s_Anew___str__, defScope s_Anew___str__, [], []⟩
def d_Lift___init__ : He5.DefA := ⟨fun K => He.ma K (He.ga K "Lift") "__init__", "__init__", "Lift.__init__", defArgs s_Lift___init__, defBody s_Lift___init__, defScope s_Lift___init__, [.non], []⟩
def d_Lift___str__ : He5.DefA := ⟨fun K => He.ma K (He.ga K "Lift") "__str__", "__str__", "Lift.__str__", defArgs s_Lift___str__, defBody s_Lift___str__, defScope s_Lift___str__, [], []⟩
def d_told_by : He5.DefA := ⟨fun K => He.ga K "told_by", "told_by", "told_by", defArgs s_told_by, defBody s_told_by, defScope s_told_by, [], []⟩
def d_made_of : He5.DefA := ⟨fun K => He.ga K "made_of", "made_of", "made_of", defArgs s_made_of, defBody s_made_of, defScope s_made_of, [], []⟩
def d__law_deal : He5.DefA := ⟨fun K => He.ga K "_law_deal", "_law_deal", "_law_deal", defArgs s__law_deal, defBody s__law_deal, defScope s__law_deal, [], []⟩
def d__law_draw : He5.DefA := ⟨fun K => He.ga K "_law_draw", "_law_draw", "_law_draw", defArgs s__law_draw, defBody s__law_draw, defScope s__law_draw, [], []⟩
def d__law_pick : He5.DefA := ⟨fun K => He.ga K "_law_pick", "_law_pick", "_law_pick", defArgs s__law_pick, defBody s__law_pick, defScope s__law_pick, [], []⟩
def d__law_mixed : He5.DefA := ⟨fun K => He.ga K "_law_mixed", "_law_mixed", "_law_mixed", defArgs s__law_mixed, defBody s__law_mixed, defScope s__law_mixed, [], []⟩
def d__law_names : He5.DefA := ⟨fun K => He.ga K "_law_names", "_law_names", "_law_names", defArgs s__law_names, defBody s__law_names, defScope s__law_names, [], []⟩
def d__law_kind : He5.DefA := ⟨fun K => He.ga K "_law_kind", "_law_kind", "_law_kind", defArgs s__law_kind, defBody s__law_kind, defScope s__law_kind, [], []⟩
def d__law_kind_text : He5.DefA := ⟨fun K => He.ga K "_law_kind_text", "_law_kind_text", "_law_kind_text", defArgs s__law_kind_text, defBody s__law_kind_text, defScope s__law_kind_text, [], []⟩
def d__law_kind_made : He5.DefA := ⟨fun K => He.ga K "_law_kind_made", "_law_kind_made", "_law_kind_made", defArgs s__law_kind_made, defBody s__law_kind_made, defScope s__law_kind_made, [], []⟩
def d_law : He5.DefA := ⟨fun K => He.ga K "law", "law", "law", defArgs s_law, defBody s_law, defScope s_law, [], []⟩
def fn : List He5.DefA := [d_is_integer, d_is_length, d_is_name, d_number_in, d_Kind_read, d_Kind___eq__, d_need, d_is_many, d_many_text, d_Still___init__, d_Still___str__, d_Anew___init__, d_Anew___str__, d_Lift___init__, d_Lift___str__, d_told_by, d_made_of, d__law_deal, d__law_draw, d__law_pick, d__law_mixed, d__law_names, d__law_kind, d__law_kind_text, d__law_kind_made, d_law]
def fa : List He.Fa := ([.glo "law", .free "isinstance", .free "int", .free "bool", .glo "is_integer", .free "all", .glo "BARRED", .free "str", .int "MOST_LETTERS" 4, .str "LETTERS" "abcdefghijklmnopqrstuvwxyz", .free "len", .int "MOST_SIGNS" 19, .str "SIGNS" "0123456789", .free "classmethod", .glo "told_by", .glo "InvalidKind", .glo "InvalidText", .glo "made_of", .glo "Kind", .glo "is_length"] : List He.Fa) ++ ([.glo "need", .glo "is_name", .glo "is_many", .glo "many_text", .glo "FORMS", .glo "number_in", .glo "Lift", .glo "Still", .glo "Anew", .free "abs", .glo "_law_draw", .free "list", .glo "_law_mixed", .glo "_law_pick", .glo "_law_deal", .free "range", .glo "_law_kind", .glo "_law_kind_made", .glo "_law_kind_text", .glo "_law_names"] : List He.Fa) ++ ([.cls "Kind", .meth "Kind" "__eq__", .cls "Still", .mkr "Still", .noat "Still" "name", .noat "Still" "days", .noat "Still" "times", .meth "Still" "__init__", .meth "Still" "__str__", .cls "Anew", .mkr "Anew", .noat "Anew" "name", .noat "Anew" "left", .noat "Anew" "times", .meth "Anew" "__init__", .meth "Anew" "__str__", .cls "Lift", .mkr "Lift", .noat "Lift" "name", .noat "Lift" "by"] : List He.Fa) ++ ([.noat "Lift" "top", .noat "Lift" "times", .meth "Lift" "__init__", .meth "Lift" "__str__"] : List He.Fa)
def exs : List (PySem.W.Frag → Bool) := [fun K => tupAtB K (He.ga K "BARRED") [.str "any", .str "none", .str "anew", .str "lift", .str "term"], fun K => ownB K (He.ga K "Kind"), fun K => ownB K (He.ga K "Still"), fun K => ownB K (He.ga K "Anew"), fun K => ownB K (He.ga K "Lift"), fun K => bltB K (He.ga K "Kind"), fun K => subB K (He.ga K "Kind") (He.ga K "Kind") true, fun K => subB K (He.ga K "Still") (He.ga K "Kind") true, fun K => subB K (He.ga K "Anew") (He.ga K "Kind") true, fun K => subB K (He.ga K "Lift") (He.ga K "Kind") true, fun K => He.valsB K (He.ga K "FORMS") [("still", .int 4), ("anew", .int 4), ("lift", .int 5)], fun K => spmB K (He.ga K "Kind") "__eq__" (He.ma K (He.ga K "Kind") "__eq__"), fun K => neB K (He.ga K "Kind"), fun K => nfB K (He.ga K "Kind"), fun K => PySem.W.notFirst K (He.ga K "Kind") (.ref (He.ga K "Kind")), fun K => spmB K (He.ga K "Still") "__eq__" (He.ma K (He.ga K "Kind") "__eq__"), fun K => neB K (He.ga K "Still"), fun K => nfB K (He.ga K "Still"), fun K => PySem.W.notFirst K (He.ga K "Still") (.ref (He.ga K "Kind")), fun K => PySem.W.notFirst K (He.ga K "Still") (.ref (He.ga K "Still")), fun K => PySem.W.notFirst K (He.ga K "Still") (.ref (He.ga K "Anew")), fun K => PySem.W.notFirst K (He.ga K "Still") (.ref (He.ga K "Lift")), fun K => spmB K (He.ga K "Anew") "__eq__" (He.ma K (He.ga K "Kind") "__eq__"), fun K => neB K (He.ga K "Anew"), fun K => nfB K (He.ga K "Anew"), fun K => PySem.W.notFirst K (He.ga K "Anew") (.ref (He.ga K "Kind")), fun K => PySem.W.notFirst K (He.ga K "Anew") (.ref (He.ga K "Still")), fun K => PySem.W.notFirst K (He.ga K "Anew") (.ref (He.ga K "Anew")), fun K => PySem.W.notFirst K (He.ga K "Anew") (.ref (He.ga K "Lift")), fun K => spmB K (He.ga K "Lift") "__eq__" (He.ma K (He.ga K "Kind") "__eq__"), fun K => neB K (He.ga K "Lift"), fun K => nfB K (He.ga K "Lift"), fun K => PySem.W.notFirst K (He.ga K "Lift") (.ref (He.ga K "Kind")), fun K => PySem.W.notFirst K (He.ga K "Lift") (.ref (He.ga K "Still")), fun K => PySem.W.notFirst K (He.ga K "Lift") (.ref (He.ga K "Anew")), fun K => PySem.W.notFirst K (He.ga K "Lift") (.ref (He.ga K "Lift")), fun K => cmB K (He.ga K "Kind") "read", fun K => keysB K (He.ga K "FORMS") ["still", "anew", "lift"]]
def ex (K : PySem.W.Frag) : Bool := exs.all fun t => t K
def tabs : List He.Tab := [(fun K => He.ga K "FORMS", ["still", "anew", "lift"])]
structure Env (K : PySem.W.Frag) (mg : Str → Option Value) (w : World) : Prop where
  g_law : mg "law" = some (.ref (He.ga K "law"))
  g_isinstance : mg "isinstance" = none
  g_int : mg "int" = none
  g_bool : mg "bool" = none
  g_is_integer : mg "is_integer" = some (.ref (He.ga K "is_integer"))
  g_all : mg "all" = none
  g_BARRED : mg "BARRED" = some (.ref (He.ga K "BARRED"))
  g_str : mg "str" = none
  g_MOST_LETTERS : ∃ t, mg "MOST_LETTERS" = some (.int 4 t)
  g_LETTERS : ∃ t, mg "LETTERS" = some (.str "abcdefghijklmnopqrstuvwxyz" t)
  g_len : mg "len" = none
  g_MOST_SIGNS : ∃ t, mg "MOST_SIGNS" = some (.int 19 t)
  g_SIGNS : ∃ t, mg "SIGNS" = some (.str "0123456789" t)
  g_classmethod : mg "classmethod" = none
  g_told_by : mg "told_by" = some (.ref (He.ga K "told_by"))
  g_InvalidKind : mg "InvalidKind" = some (.ref (He.ga K "InvalidKind"))
  g_InvalidText : mg "InvalidText" = some (.ref (He.ga K "InvalidText"))
  g_made_of : mg "made_of" = some (.ref (He.ga K "made_of"))
  g_Kind : mg "Kind" = some (.ref (He.ga K "Kind"))
  g_is_length : mg "is_length" = some (.ref (He.ga K "is_length"))
  g_need : mg "need" = some (.ref (He.ga K "need"))
  g_is_name : mg "is_name" = some (.ref (He.ga K "is_name"))
  g_is_many : mg "is_many" = some (.ref (He.ga K "is_many"))
  g_many_text : mg "many_text" = some (.ref (He.ga K "many_text"))
  g_FORMS : mg "FORMS" = some (.ref (He.ga K "FORMS"))
  g_number_in : mg "number_in" = some (.ref (He.ga K "number_in"))
  g_Lift : mg "Lift" = some (.ref (He.ga K "Lift"))
  g_Still : mg "Still" = some (.ref (He.ga K "Still"))
  g_Anew : mg "Anew" = some (.ref (He.ga K "Anew"))
  g_abs : mg "abs" = none
  g__law_draw : mg "_law_draw" = some (.ref (He.ga K "_law_draw"))
  g_list : mg "list" = none
  g__law_mixed : mg "_law_mixed" = some (.ref (He.ga K "_law_mixed"))
  g__law_pick : mg "_law_pick" = some (.ref (He.ga K "_law_pick"))
  g__law_deal : mg "_law_deal" = some (.ref (He.ga K "_law_deal"))
  g_range : mg "range" = none
  g__law_kind : mg "_law_kind" = some (.ref (He.ga K "_law_kind"))
  g__law_kind_made : mg "_law_kind_made" = some (.ref (He.ga K "_law_kind_made"))
  g__law_kind_text : mg "_law_kind_text" = some (.ref (He.ga K "_law_kind_text"))
  g__law_names : mg "_law_names" = some (.ref (He.ga K "_law_names"))
  cl_Kind : Cls K (He.ga K "Kind")
  m_Kind___eq__ : Meth K (He.ga K "Kind") "__eq__" (He.ma K (He.ga K "Kind") "__eq__")
  cl_Still : Cls K (He.ga K "Still")
  mk_Still : Mk K (He.ga K "Still") (He.ma K (He.ga K "Still") "__init__")
  na_Still_name : NoAttr K (He.ga K "Still") "name"
  na_Still_days : NoAttr K (He.ga K "Still") "days"
  na_Still_times : NoAttr K (He.ga K "Still") "times"
  m_Still___init__ : Meth K (He.ga K "Still") "__init__" (He.ma K (He.ga K "Still") "__init__")
  m_Still___str__ : Meth K (He.ga K "Still") "__str__" (He.ma K (He.ga K "Still") "__str__")
  cl_Anew : Cls K (He.ga K "Anew")
  mk_Anew : Mk K (He.ga K "Anew") (He.ma K (He.ga K "Anew") "__init__")
  na_Anew_name : NoAttr K (He.ga K "Anew") "name"
  na_Anew_left : NoAttr K (He.ga K "Anew") "left"
  na_Anew_times : NoAttr K (He.ga K "Anew") "times"
  m_Anew___init__ : Meth K (He.ga K "Anew") "__init__" (He.ma K (He.ga K "Anew") "__init__")
  m_Anew___str__ : Meth K (He.ga K "Anew") "__str__" (He.ma K (He.ga K "Anew") "__str__")
  cl_Lift : Cls K (He.ga K "Lift")
  mk_Lift : Mk K (He.ga K "Lift") (He.ma K (He.ga K "Lift") "__init__")
  na_Lift_name : NoAttr K (He.ga K "Lift") "name"
  na_Lift_by : NoAttr K (He.ga K "Lift") "by"
  na_Lift_top : NoAttr K (He.ga K "Lift") "top"
  na_Lift_times : NoAttr K (He.ga K "Lift") "times"
  m_Lift___init__ : Meth K (He.ga K "Lift") "__init__" (He.ma K (He.ga K "Lift") "__init__")
  m_Lift___str__ : Meth K (He.ga K "Lift") "__str__" (He.ma K (He.ga K "Lift") "__str__")
  e_BARRED : (tupAtB K (He.ga K "BARRED") [.str "any", .str "none", .str "anew", .str "lift", .str "term"]) = true
  o_Kind : (ownB K (He.ga K "Kind")) = true
  o_Still : (ownB K (He.ga K "Still")) = true
  o_Anew : (ownB K (He.ga K "Anew")) = true
  o_Lift : (ownB K (He.ga K "Lift")) = true
  b_Kind : (bltB K (He.ga K "Kind")) = true
  s_Kind_Kind : (subB K (He.ga K "Kind") (He.ga K "Kind") true) = true
  s_Still_Kind : (subB K (He.ga K "Still") (He.ga K "Kind") true) = true
  s_Anew_Kind : (subB K (He.ga K "Anew") (He.ga K "Kind") true) = true
  s_Lift_Kind : (subB K (He.ga K "Lift") (He.ga K "Kind") true) = true
  v_FORMS : (He.valsB K (He.ga K "FORMS") [("still", .int 4), ("anew", .int 4), ("lift", .int 5)]) = true
  q_Kind : (spmB K (He.ga K "Kind") "__eq__" (He.ma K (He.ga K "Kind") "__eq__")) = true
  n_Kind : (neB K (He.ga K "Kind")) = true
  nb_Kind : (nfB K (He.ga K "Kind")) = true
  nf_Kind_Kind : (PySem.W.notFirst K (He.ga K "Kind") (.ref (He.ga K "Kind"))) = true
  q_Still : (spmB K (He.ga K "Still") "__eq__" (He.ma K (He.ga K "Kind") "__eq__")) = true
  n_Still : (neB K (He.ga K "Still")) = true
  nb_Still : (nfB K (He.ga K "Still")) = true
  nf_Still_Kind : (PySem.W.notFirst K (He.ga K "Still") (.ref (He.ga K "Kind"))) = true
  nf_Still_Still : (PySem.W.notFirst K (He.ga K "Still") (.ref (He.ga K "Still"))) = true
  nf_Still_Anew : (PySem.W.notFirst K (He.ga K "Still") (.ref (He.ga K "Anew"))) = true
  nf_Still_Lift : (PySem.W.notFirst K (He.ga K "Still") (.ref (He.ga K "Lift"))) = true
  q_Anew : (spmB K (He.ga K "Anew") "__eq__" (He.ma K (He.ga K "Kind") "__eq__")) = true
  n_Anew : (neB K (He.ga K "Anew")) = true
  nb_Anew : (nfB K (He.ga K "Anew")) = true
  nf_Anew_Kind : (PySem.W.notFirst K (He.ga K "Anew") (.ref (He.ga K "Kind"))) = true
  nf_Anew_Still : (PySem.W.notFirst K (He.ga K "Anew") (.ref (He.ga K "Still"))) = true
  nf_Anew_Anew : (PySem.W.notFirst K (He.ga K "Anew") (.ref (He.ga K "Anew"))) = true
  nf_Anew_Lift : (PySem.W.notFirst K (He.ga K "Anew") (.ref (He.ga K "Lift"))) = true
  q_Lift : (spmB K (He.ga K "Lift") "__eq__" (He.ma K (He.ga K "Kind") "__eq__")) = true
  n_Lift : (neB K (He.ga K "Lift")) = true
  nb_Lift : (nfB K (He.ga K "Lift")) = true
  nf_Lift_Kind : (PySem.W.notFirst K (He.ga K "Lift") (.ref (He.ga K "Kind"))) = true
  nf_Lift_Still : (PySem.W.notFirst K (He.ga K "Lift") (.ref (He.ga K "Still"))) = true
  nf_Lift_Anew : (PySem.W.notFirst K (He.ga K "Lift") (.ref (He.ga K "Anew"))) = true
  nf_Lift_Lift : (PySem.W.notFirst K (He.ga K "Lift") (.ref (He.ga K "Lift"))) = true
  c_Kind_read : (cmB K (He.ga K "Kind") "read") = true
  x_FORMS : (keysB K (He.ga K "FORMS") ["still", "anew", "lift"]) = true
  t_FORMS : ∃ es n, KDict K w (He.ga K "FORMS") es n
  f_is_integer : ∃ fd, FunD K "is_integer" "is_integer" (defArgs s_is_integer) (defBody s_is_integer) (defScope s_is_integer) [] [] (He.ga K "is_integer") fd
  f_is_length : ∃ fd, FunD K "is_length" "is_length" (defArgs s_is_length) (defBody s_is_length) (defScope s_is_length) [] [] (He.ga K "is_length") fd
  f_is_name : ∃ fd, FunD K "is_name" "is_name" (defArgs s_is_name) (defBody s_is_name) (defScope s_is_name) [] [] (He.ga K "is_name") fd
  f_number_in : ∃ fd, FunD K "number_in" "number_in" (defArgs s_number_in) (defBody s_number_in) (defScope s_number_in) [] [] (He.ga K "number_in") fd
  f_Kind_read : ∃ fd, FunD K "read" "Kind.read" (defArgs s_Kind_read) (defBody s_Kind_read) (defScope s_Kind_read) [] [] (He5.wf K (He.ga K "Kind") "classmethod" "read") fd
  f_Kind___eq__ : ∃ fd, FunD K "__eq__" "Kind.__eq__" (defArgs s_Kind___eq__) (defBody s_Kind___eq__) (defScope s_Kind___eq__) [] [] (He.ma K (He.ga K "Kind") "__eq__") fd
  f_need : ∃ fd, FunD K "need" "need" (defArgs s_need) (defBody s_need) (defScope s_need) [] [] (He.ga K "need") fd
  f_is_many : ∃ fd, FunD K "is_many" "is_many" (defArgs s_is_many) (defBody s_is_many) (defScope s_is_many) [] [] (He.ga K "is_many") fd
  f_many_text : ∃ fd, FunD K "many_text" "many_text" (defArgs s_many_text) (defBody s_many_text) (defScope s_many_text) [] [] (He.ga K "many_text") fd
  f_Still___init__ : ∃ fd, FunD K "__init__" "Still.__init__" (defArgs s_Still___init__) (defBody s_Still___init__) (defScope s_Still___init__) [.non] [] (He.ma K (He.ga K "Still") "__init__") fd
  f_Still___str__ : ∃ fd, FunD K "__str__" "Still.__str__" (defArgs s_Still___str__) (defBody s_Still___str__) (defScope s_Still___str__) [] [] (He.ma K (He.ga K "Still") "__str__") fd
  f_Anew___init__ : ∃ fd, FunD K "__init__" "Anew.__init__" (defArgs s_Anew___init__) (defBody s_Anew___init__) (defScope s_Anew___init__) [.non] [] (He.ma K (He.ga K "Anew") "__init__") fd
  f_Anew___str__ : ∃ fd, FunD K "__str__" "Anew.__str__" (defArgs s_Anew___str__) (defBody s_Anew___str__) (defScope s_Anew___str__) [] [] (He.ma K (He.ga K "Anew") "__str__") fd
  f_Lift___init__ : ∃ fd, FunD K "__init__" "Lift.__init__" (defArgs s_Lift___init__) (defBody s_Lift___init__) (defScope s_Lift___init__) [.non] [] (He.ma K (He.ga K "Lift") "__init__") fd
  f_Lift___str__ : ∃ fd, FunD K "__str__" "Lift.__str__" (defArgs s_Lift___str__) (defBody s_Lift___str__) (defScope s_Lift___str__) [] [] (He.ma K (He.ga K "Lift") "__str__") fd
  f_told_by : ∃ fd, FunD K "told_by" "told_by" (defArgs s_told_by) (defBody s_told_by) (defScope s_told_by) [] [] (He.ga K "told_by") fd
  f_made_of : ∃ fd, FunD K "made_of" "made_of" (defArgs s_made_of) (defBody s_made_of) (defScope s_made_of) [] [] (He.ga K "made_of") fd
  f__law_deal : ∃ fd, FunD K "_law_deal" "_law_deal" (defArgs s__law_deal) (defBody s__law_deal) (defScope s__law_deal) [] [] (He.ga K "_law_deal") fd
  f__law_draw : ∃ fd, FunD K "_law_draw" "_law_draw" (defArgs s__law_draw) (defBody s__law_draw) (defScope s__law_draw) [] [] (He.ga K "_law_draw") fd
  f__law_pick : ∃ fd, FunD K "_law_pick" "_law_pick" (defArgs s__law_pick) (defBody s__law_pick) (defScope s__law_pick) [] [] (He.ga K "_law_pick") fd
  f__law_mixed : ∃ fd, FunD K "_law_mixed" "_law_mixed" (defArgs s__law_mixed) (defBody s__law_mixed) (defScope s__law_mixed) [] [] (He.ga K "_law_mixed") fd
  f__law_names : ∃ fd, FunD K "_law_names" "_law_names" (defArgs s__law_names) (defBody s__law_names) (defScope s__law_names) [] [] (He.ga K "_law_names") fd
  f__law_kind : ∃ fd, FunD K "_law_kind" "_law_kind" (defArgs s__law_kind) (defBody s__law_kind) (defScope s__law_kind) [] [] (He.ga K "_law_kind") fd
  f__law_kind_text : ∃ fd, FunD K "_law_kind_text" "_law_kind_text" (defArgs s__law_kind_text) (defBody s__law_kind_text) (defScope s__law_kind_text) [] [] (He.ga K "_law_kind_text") fd
  f__law_kind_made : ∃ fd, FunD K "_law_kind_made" "_law_kind_made" (defArgs s__law_kind_made) (defBody s__law_kind_made) (defScope s__law_kind_made) [] [] (He.ga K "_law_kind_made") fd
  f_law : ∃ fd, FunD K "law" "law" (defArgs s_law) (defBody s_law) (defScope s_law) [] [] (He.ga K "law") fd
theorem env_of {K : PySem.W.Frag} {h : Heap} {mg : Str → Option Value} {w : World} (X : K.In h) (G : h.Ns mainGlobals mg) (c : SaysM fa ex fn tabs w K) : Env K mg w where
  g_law := He.glo_ok X G (c.a.fact 0 (f := .glo "law") rfl)
  g_isinstance := He.free_ok X G (c.a.fact 1 (f := .free "isinstance") rfl)
  g_int := He.free_ok X G (c.a.fact 2 (f := .free "int") rfl)
  g_bool := He.free_ok X G (c.a.fact 3 (f := .free "bool") rfl)
  g_is_integer := He.glo_ok X G (c.a.fact 4 (f := .glo "is_integer") rfl)
  g_all := He.free_ok X G (c.a.fact 5 (f := .free "all") rfl)
  g_BARRED := He.glo_ok X G (c.a.fact 6 (f := .glo "BARRED") rfl)
  g_str := He.free_ok X G (c.a.fact 7 (f := .free "str") rfl)
  g_MOST_LETTERS := He.int_ok X G (c.a.fact 8 (f := .int "MOST_LETTERS" 4) rfl)
  g_LETTERS := He.str_ok X G (c.a.fact 9 (f := .str "LETTERS" "abcdefghijklmnopqrstuvwxyz") rfl)
  g_len := He.free_ok X G (c.a.fact 10 (f := .free "len") rfl)
  g_MOST_SIGNS := He.int_ok X G (c.a.fact 11 (f := .int "MOST_SIGNS" 19) rfl)
  g_SIGNS := He.str_ok X G (c.a.fact 12 (f := .str "SIGNS" "0123456789") rfl)
  g_classmethod := He.free_ok X G (c.a.fact 13 (f := .free "classmethod") rfl)
  g_told_by := He.glo_ok X G (c.a.fact 14 (f := .glo "told_by") rfl)
  g_InvalidKind := He.glo_ok X G (c.a.fact 15 (f := .glo "InvalidKind") rfl)
  g_InvalidText := He.glo_ok X G (c.a.fact 16 (f := .glo "InvalidText") rfl)
  g_made_of := He.glo_ok X G (c.a.fact 17 (f := .glo "made_of") rfl)
  g_Kind := He.glo_ok X G (c.a.fact 18 (f := .glo "Kind") rfl)
  g_is_length := He.glo_ok X G (c.a.fact 19 (f := .glo "is_length") rfl)
  g_need := He.glo_ok X G (c.a.fact 20 (f := .glo "need") rfl)
  g_is_name := He.glo_ok X G (c.a.fact 21 (f := .glo "is_name") rfl)
  g_is_many := He.glo_ok X G (c.a.fact 22 (f := .glo "is_many") rfl)
  g_many_text := He.glo_ok X G (c.a.fact 23 (f := .glo "many_text") rfl)
  g_FORMS := He.glo_ok X G (c.a.fact 24 (f := .glo "FORMS") rfl)
  g_number_in := He.glo_ok X G (c.a.fact 25 (f := .glo "number_in") rfl)
  g_Lift := He.glo_ok X G (c.a.fact 26 (f := .glo "Lift") rfl)
  g_Still := He.glo_ok X G (c.a.fact 27 (f := .glo "Still") rfl)
  g_Anew := He.glo_ok X G (c.a.fact 28 (f := .glo "Anew") rfl)
  g_abs := He.free_ok X G (c.a.fact 29 (f := .free "abs") rfl)
  g__law_draw := He.glo_ok X G (c.a.fact 30 (f := .glo "_law_draw") rfl)
  g_list := He.free_ok X G (c.a.fact 31 (f := .free "list") rfl)
  g__law_mixed := He.glo_ok X G (c.a.fact 32 (f := .glo "_law_mixed") rfl)
  g__law_pick := He.glo_ok X G (c.a.fact 33 (f := .glo "_law_pick") rfl)
  g__law_deal := He.glo_ok X G (c.a.fact 34 (f := .glo "_law_deal") rfl)
  g_range := He.free_ok X G (c.a.fact 35 (f := .free "range") rfl)
  g__law_kind := He.glo_ok X G (c.a.fact 36 (f := .glo "_law_kind") rfl)
  g__law_kind_made := He.glo_ok X G (c.a.fact 37 (f := .glo "_law_kind_made") rfl)
  g__law_kind_text := He.glo_ok X G (c.a.fact 38 (f := .glo "_law_kind_text") rfl)
  g__law_names := He.glo_ok X G (c.a.fact 39 (f := .glo "_law_names") rfl)
  cl_Kind := He.cls_ok (c.a.fact 40 (f := .cls "Kind") rfl)
  m_Kind___eq__ := He.meth_ok (c.a.fact 41 (f := .meth "Kind" "__eq__") rfl)
  cl_Still := He.cls_ok (c.a.fact 42 (f := .cls "Still") rfl)
  mk_Still := He.mkr_ok (c.a.fact 43 (f := .mkr "Still") rfl)
  na_Still_name := He.noat_ok (c.a.fact 44 (f := .noat "Still" "name") rfl)
  na_Still_days := He.noat_ok (c.a.fact 45 (f := .noat "Still" "days") rfl)
  na_Still_times := He.noat_ok (c.a.fact 46 (f := .noat "Still" "times") rfl)
  m_Still___init__ := He.meth_ok (c.a.fact 47 (f := .meth "Still" "__init__") rfl)
  m_Still___str__ := He.meth_ok (c.a.fact 48 (f := .meth "Still" "__str__") rfl)
  cl_Anew := He.cls_ok (c.a.fact 49 (f := .cls "Anew") rfl)
  mk_Anew := He.mkr_ok (c.a.fact 50 (f := .mkr "Anew") rfl)
  na_Anew_name := He.noat_ok (c.a.fact 51 (f := .noat "Anew" "name") rfl)
  na_Anew_left := He.noat_ok (c.a.fact 52 (f := .noat "Anew" "left") rfl)
  na_Anew_times := He.noat_ok (c.a.fact 53 (f := .noat "Anew" "times") rfl)
  m_Anew___init__ := He.meth_ok (c.a.fact 54 (f := .meth "Anew" "__init__") rfl)
  m_Anew___str__ := He.meth_ok (c.a.fact 55 (f := .meth "Anew" "__str__") rfl)
  cl_Lift := He.cls_ok (c.a.fact 56 (f := .cls "Lift") rfl)
  mk_Lift := He.mkr_ok (c.a.fact 57 (f := .mkr "Lift") rfl)
  na_Lift_name := He.noat_ok (c.a.fact 58 (f := .noat "Lift" "name") rfl)
  na_Lift_by := He.noat_ok (c.a.fact 59 (f := .noat "Lift" "by") rfl)
  na_Lift_top := He.noat_ok (c.a.fact 60 (f := .noat "Lift" "top") rfl)
  na_Lift_times := He.noat_ok (c.a.fact 61 (f := .noat "Lift" "times") rfl)
  m_Lift___init__ := He.meth_ok (c.a.fact 62 (f := .meth "Lift" "__init__") rfl)
  m_Lift___str__ := He.meth_ok (c.a.fact 63 (f := .meth "Lift" "__str__") rfl)
  e_BARRED := List.all_eq_true.mp c.ex (fun K => tupAtB K (He.ga K "BARRED") [.str "any", .str "none", .str "anew", .str "lift", .str "term"]) (List.mem_of_getElem? (i := 0) rfl)
  o_Kind := List.all_eq_true.mp c.ex (fun K => ownB K (He.ga K "Kind")) (List.mem_of_getElem? (i := 1) rfl)
  o_Still := List.all_eq_true.mp c.ex (fun K => ownB K (He.ga K "Still")) (List.mem_of_getElem? (i := 2) rfl)
  o_Anew := List.all_eq_true.mp c.ex (fun K => ownB K (He.ga K "Anew")) (List.mem_of_getElem? (i := 3) rfl)
  o_Lift := List.all_eq_true.mp c.ex (fun K => ownB K (He.ga K "Lift")) (List.mem_of_getElem? (i := 4) rfl)
  b_Kind := List.all_eq_true.mp c.ex (fun K => bltB K (He.ga K "Kind")) (List.mem_of_getElem? (i := 5) rfl)
  s_Kind_Kind := List.all_eq_true.mp c.ex (fun K => subB K (He.ga K "Kind") (He.ga K "Kind") true) (List.mem_of_getElem? (i := 6) rfl)
  s_Still_Kind := List.all_eq_true.mp c.ex (fun K => subB K (He.ga K "Still") (He.ga K "Kind") true) (List.mem_of_getElem? (i := 7) rfl)
  s_Anew_Kind := List.all_eq_true.mp c.ex (fun K => subB K (He.ga K "Anew") (He.ga K "Kind") true) (List.mem_of_getElem? (i := 8) rfl)
  s_Lift_Kind := List.all_eq_true.mp c.ex (fun K => subB K (He.ga K "Lift") (He.ga K "Kind") true) (List.mem_of_getElem? (i := 9) rfl)
  v_FORMS := List.all_eq_true.mp c.ex (fun K => He.valsB K (He.ga K "FORMS") [("still", .int 4), ("anew", .int 4), ("lift", .int 5)]) (List.mem_of_getElem? (i := 10) rfl)
  q_Kind := List.all_eq_true.mp c.ex (fun K => spmB K (He.ga K "Kind") "__eq__" (He.ma K (He.ga K "Kind") "__eq__")) (List.mem_of_getElem? (i := 11) rfl)
  n_Kind := List.all_eq_true.mp c.ex (fun K => neB K (He.ga K "Kind")) (List.mem_of_getElem? (i := 12) rfl)
  nb_Kind := List.all_eq_true.mp c.ex (fun K => nfB K (He.ga K "Kind")) (List.mem_of_getElem? (i := 13) rfl)
  nf_Kind_Kind := List.all_eq_true.mp c.ex (fun K => PySem.W.notFirst K (He.ga K "Kind") (.ref (He.ga K "Kind"))) (List.mem_of_getElem? (i := 14) rfl)
  q_Still := List.all_eq_true.mp c.ex (fun K => spmB K (He.ga K "Still") "__eq__" (He.ma K (He.ga K "Kind") "__eq__")) (List.mem_of_getElem? (i := 15) rfl)
  n_Still := List.all_eq_true.mp c.ex (fun K => neB K (He.ga K "Still")) (List.mem_of_getElem? (i := 16) rfl)
  nb_Still := List.all_eq_true.mp c.ex (fun K => nfB K (He.ga K "Still")) (List.mem_of_getElem? (i := 17) rfl)
  nf_Still_Kind := List.all_eq_true.mp c.ex (fun K => PySem.W.notFirst K (He.ga K "Still") (.ref (He.ga K "Kind"))) (List.mem_of_getElem? (i := 18) rfl)
  nf_Still_Still := List.all_eq_true.mp c.ex (fun K => PySem.W.notFirst K (He.ga K "Still") (.ref (He.ga K "Still"))) (List.mem_of_getElem? (i := 19) rfl)
  nf_Still_Anew := List.all_eq_true.mp c.ex (fun K => PySem.W.notFirst K (He.ga K "Still") (.ref (He.ga K "Anew"))) (List.mem_of_getElem? (i := 20) rfl)
  nf_Still_Lift := List.all_eq_true.mp c.ex (fun K => PySem.W.notFirst K (He.ga K "Still") (.ref (He.ga K "Lift"))) (List.mem_of_getElem? (i := 21) rfl)
  q_Anew := List.all_eq_true.mp c.ex (fun K => spmB K (He.ga K "Anew") "__eq__" (He.ma K (He.ga K "Kind") "__eq__")) (List.mem_of_getElem? (i := 22) rfl)
  n_Anew := List.all_eq_true.mp c.ex (fun K => neB K (He.ga K "Anew")) (List.mem_of_getElem? (i := 23) rfl)
  nb_Anew := List.all_eq_true.mp c.ex (fun K => nfB K (He.ga K "Anew")) (List.mem_of_getElem? (i := 24) rfl)
  nf_Anew_Kind := List.all_eq_true.mp c.ex (fun K => PySem.W.notFirst K (He.ga K "Anew") (.ref (He.ga K "Kind"))) (List.mem_of_getElem? (i := 25) rfl)
  nf_Anew_Still := List.all_eq_true.mp c.ex (fun K => PySem.W.notFirst K (He.ga K "Anew") (.ref (He.ga K "Still"))) (List.mem_of_getElem? (i := 26) rfl)
  nf_Anew_Anew := List.all_eq_true.mp c.ex (fun K => PySem.W.notFirst K (He.ga K "Anew") (.ref (He.ga K "Anew"))) (List.mem_of_getElem? (i := 27) rfl)
  nf_Anew_Lift := List.all_eq_true.mp c.ex (fun K => PySem.W.notFirst K (He.ga K "Anew") (.ref (He.ga K "Lift"))) (List.mem_of_getElem? (i := 28) rfl)
  q_Lift := List.all_eq_true.mp c.ex (fun K => spmB K (He.ga K "Lift") "__eq__" (He.ma K (He.ga K "Kind") "__eq__")) (List.mem_of_getElem? (i := 29) rfl)
  n_Lift := List.all_eq_true.mp c.ex (fun K => neB K (He.ga K "Lift")) (List.mem_of_getElem? (i := 30) rfl)
  nb_Lift := List.all_eq_true.mp c.ex (fun K => nfB K (He.ga K "Lift")) (List.mem_of_getElem? (i := 31) rfl)
  nf_Lift_Kind := List.all_eq_true.mp c.ex (fun K => PySem.W.notFirst K (He.ga K "Lift") (.ref (He.ga K "Kind"))) (List.mem_of_getElem? (i := 32) rfl)
  nf_Lift_Still := List.all_eq_true.mp c.ex (fun K => PySem.W.notFirst K (He.ga K "Lift") (.ref (He.ga K "Still"))) (List.mem_of_getElem? (i := 33) rfl)
  nf_Lift_Anew := List.all_eq_true.mp c.ex (fun K => PySem.W.notFirst K (He.ga K "Lift") (.ref (He.ga K "Anew"))) (List.mem_of_getElem? (i := 34) rfl)
  nf_Lift_Lift := List.all_eq_true.mp c.ex (fun K => PySem.W.notFirst K (He.ga K "Lift") (.ref (He.ga K "Lift"))) (List.mem_of_getElem? (i := 35) rfl)
  c_Kind_read := List.all_eq_true.mp c.ex (fun K => cmB K (He.ga K "Kind") "read") (List.mem_of_getElem? (i := 36) rfl)
  x_FORMS := List.all_eq_true.mp c.ex (fun K => keysB K (He.ga K "FORMS") ["still", "anew", "lift"]) (List.mem_of_getElem? (i := 37) rfl)
  t_FORMS := c.tab 0 (t := (fun K => He.ga K "FORMS", ["still", "anew", "lift"])) rfl
  f_is_integer := c.a.def_ 0 (d := d_is_integer) rfl
  f_is_length := c.a.def_ 1 (d := d_is_length) rfl
  f_is_name := c.a.def_ 2 (d := d_is_name) rfl
  f_number_in := c.a.def_ 3 (d := d_number_in) rfl
  f_Kind_read := c.a.def_ 4 (d := d_Kind_read) rfl
  f_Kind___eq__ := c.a.def_ 5 (d := d_Kind___eq__) rfl
  f_need := c.a.def_ 6 (d := d_need) rfl
  f_is_many := c.a.def_ 7 (d := d_is_many) rfl
  f_many_text := c.a.def_ 8 (d := d_many_text) rfl
  f_Still___init__ := c.a.def_ 9 (d := d_Still___init__) rfl
  f_Still___str__ := c.a.def_ 10 (d := d_Still___str__) rfl
  f_Anew___init__ := c.a.def_ 11 (d := d_Anew___init__) rfl
  f_Anew___str__ := c.a.def_ 12 (d := d_Anew___str__) rfl
  f_Lift___init__ := c.a.def_ 13 (d := d_Lift___init__) rfl
  f_Lift___str__ := c.a.def_ 14 (d := d_Lift___str__) rfl
  f_told_by := c.a.def_ 15 (d := d_told_by) rfl
  f_made_of := c.a.def_ 16 (d := d_made_of) rfl
  f__law_deal := c.a.def_ 17 (d := d__law_deal) rfl
  f__law_draw := c.a.def_ 18 (d := d__law_draw) rfl
  f__law_pick := c.a.def_ 19 (d := d__law_pick) rfl
  f__law_mixed := c.a.def_ 20 (d := d__law_mixed) rfl
  f__law_names := c.a.def_ 21 (d := d__law_names) rfl
  f__law_kind := c.a.def_ 22 (d := d__law_kind) rfl
  f__law_kind_text := c.a.def_ 23 (d := d__law_kind_text) rfl
  f__law_kind_made := c.a.def_ 24 (d := d__law_kind_made) rfl
  f_law := c.a.def_ 25 (d := d_law) rfl
end Tm

namespace Tm
open PySem PySem.Spec PyProof.Rows L2
section
variable {P : Program} {w : World} {K : PySem.W.Frag} {mg : Str → Option Value} {base : Heap}
def spIsInt (K : PySem.W.Frag) : Sp := fun vs H Q _ => ∃ (x : V) (t : Value), vs = [x] ∧ Typ K H x t ∧ Q (.bl (decide (t = .type "int"))) H
theorem sc_is_integer : FnScope ["value"] ["value"] (defScope s_is_integer) := ⟨rfl, rfl, rfl, by decide +kernel, rfl, by decide +kernel, by decide +kernel⟩
theorem ok_is_integer (E : Env K mg w) : Dn P w K mg base CX0 1 (He.ga K "is_integer") [] (spIsInt K) := by
  refine dn_of (ps := ["value"]) E.f_is_integer (fun fd F => ?_) (fun _ _ _ _ _ _ us hl => match us, hl with | [_], _ => rfl)
  refine F.ok sc_is_integer (fun vs H Q E h => ?_) (fun cdv A outer s H vs Q X hr h => ?_)
  · obtain ⟨x, t, rfl, _⟩ := h
    rfl
  · obtain ⟨x, t, rfl, T, k⟩ := h
    refine ⟨_, PSs.nox (pss_one (ps_ret (pe_and (pe_callB (k_isi K) (by rfl) E.g_isinstance bt_isinstance (pa_cons (pv 0) (pa_cons (pe_ty E.g_int bt_int) pa_nil))) (pe_one (pe_not (pe_callB (k_isi K) (by rfl) E.g_isinstance bt_isinstance (pa_cons (pv 0) (pa_cons (pe_ty E.g_bool bt_bool) pa_nil)))))))), ?_⟩
    refine ⟨_, rfl, _, _, _, _, _, rfl, .ty "int", T.ty, T.kit "int" (.inl rfl), _, rfl, ?_⟩
    by_cases h1 : t = .type "int"
    · subst h1
      refine iteT ?_
      exact ⟨_, rfl, _, _, _, _, _, rfl, .ty "bool", T.ty, T.kit "bool" (.inr (.inl rfl)), _, rfl, k⟩
    · rw [decide_eq_false h1] at k
      by_cases h2 : t = .type "bool"
      · subst h2
        refine iteT ?_
        exact ⟨_, rfl, _, _, _, _, _, rfl, .ty "bool", T.ty, T.kit "bool" (.inr (.inl rfl)), _, rfl, k⟩
      · have e : kb t "int" = false := by simp [kb, h1, h2]
        rw [e]
        exact iteF k
end

end Tm

namespace Tm
open PySem PySem.Spec PyProof.Rows L2
section
variable {P : Program} {w : World} {K : PySem.W.Frag} {mg : Str → Option Value} {base : Heap}
/-- an int from a number on -/
def intFrom (n : Int) : V → Bool
  | .int i => decide (n ≤ i)
  | _ => false
def spIsLen (K : PySem.W.Frag) : Sp := fun vs H Q _ => ∃ (x : V) (t : Value), vs = [x] ∧ Typ K H x t ∧ Q (.bl (intFrom 1 x)) H
theorem intFrom_not {K : PySem.W.Frag} {H : Hp} {n : Int} {x : V} {t : Value} (T : Typ K H x t) (h : ¬ t = .type "int") : intFrom n x = false := by
  cases x with
  | int i => exact absurd T.int_t h
  | _ => rfl
theorem sc_is_length : FnScope ["value"] ["value"] (defScope s_is_length) := ⟨rfl, rfl, rfl, by decide +kernel, rfl, by decide +kernel, by decide +kernel⟩
theorem ok_is_length (E : Env K mg w) : Dn P w K mg base CX0 2 (He.ga K "is_length") [] (spIsLen K) := by
  refine dn_of (ps := ["value"]) E.f_is_length (fun fd F => ?_) (fun _ _ _ _ _ _ us hl => match us, hl with | [_], _ => rfl)
  refine F.ok sc_is_length (fun vs H Q E h => ?_) (fun cdv A outer s H vs Q X hr h => ?_)
  · obtain ⟨x, t, rfl, _⟩ := h
    rfl
  · obtain ⟨x, t, rfl, T, k⟩ := h
    refine ⟨_, PSs.nox (pss_one (ps_ret (pe_and (pe_c (ok_is_integer (K := K) E) (hr.mono (by decide)) E.g_is_integer pass0 (pa_cons (pv 0) pa_nil)) (pe_one (pe_cmpR op_ge (pv 0) pe_int (nomark _)))))), ?_⟩
    refine ⟨_, rfl, x, t, rfl, T, _, rfl, ?_⟩
    by_cases h1 : t = .type "int"
    · subst h1
      obtain ⟨i, rfl⟩ := T.isInt
      refine iteT ?_
      exact ⟨_, rfl, _, _, rfl, rfl, k⟩
    · rw [intFrom_not T h1] at k
      rw [decide_eq_false h1]
      exact iteF k
end

end Tm

namespace Tm
open PySem PySem.Spec PyProof.Rows L2
section
variable {P : Program} {w : World} {K : PySem.W.Frag} {mg : Str → Option Value} {base : Heap}
def spIsName (K : PySem.W.Frag) : Sp := fun vs H Q _ => ∃ (x : V) (t : Value), vs = [x] ∧ Typ K H x t ∧ (∀ z, x = .str z → z.length ≤ 1000000) ∧ ∀ H', Same H H' → Q (.bl (nameV x)) H'
theorem nameV_not {H : Hp} {x : V} {t : Value} (T : Typ K H x t) (h : ¬ t = .type "str") : nameV x = false := by
  cases x with
  | str i => exact absurd T.str_t h
  | _ => rfl
theorem sc_is_name : FnScope ["value", "letter"] ["value"] (defScope s_is_name) := ⟨rfl, rfl, rfl, by decide +kernel, rfl, by decide +kernel, by decide +kernel⟩
theorem ok_is_name (E : Env K mg w) : Dn P w K mg base CX0 2 (He.ga K "is_name") [] (spIsName K) := by
  refine dn_of (ps := ["value"]) E.f_is_name (fun fd F => ?_) (fun _ _ _ _ _ _ us hl => match us, hl with | [_], _ => rfl)
  refine F.ok sc_is_name (fun vs H Q E h => ?_) (fun cdv A outer s H vs Q X hr h => ?_)
  · obtain ⟨x, t, rfl, _⟩ := h
    rfl
  · obtain ⟨x, t, rfl, T, hz, k⟩ := h
    refine ⟨_, PSs.nox (pss_cons (ps_if (PW.pt (pw_or (pt_not (pt_val (pe_callB (k_isi K) (by rfl) E.g_isinstance bt_isinstance (pa_cons (pv 0) (pa_cons (pe_ty E.g_str bt_str) pa_nil))))) (pw_or (pt_cmpR (k_in K) (pv 0) (pe_gr E.g_BARRED) (by rfl)) (pw_or1 (pt_not (pt_chain op_le op_le pe_int (pe_callB (k_len K) (by rfl) E.g_len bt_len (pa_cons (pv 0) pa_nil)) (pe_gi E.g_MOST_LETTERS))))))) (pss_one (ps_ret pe_bl)) pss_nil)
      (pss_one (ps_ret (pe_callB (k_all K) (by rfl) E.g_all bt_all (pa_cons (pe_lc (own := [("letter", 1)]) (by rfl) sc_is_name.nd (pi_str (pv 0)) (blkOk_by (own := [("letter", 1)]) (N := ["value", "letter"]) (sc := defScope s_is_name) (by decide +kernel)) (fun _ _ _ _ _ => (pg_name (i := 1) sc_is_name.nd rfl (Or.inl rfl))) (fun _ _ _ _ _ => pts_nil) (fun _ _ _ _ _ => (pe_cmpR op_in_sign (pv 1) (pe_gs E.g_LETTERS) (by rfl)))) pa_nil))))), ?_⟩
    refine ⟨_, rfl, _, _, _, _, _, rfl, .ty "str", T.ty, T.kit "str" (.inr (.inr (.inl rfl))), _, rfl, ?_⟩
    by_cases h1 : t = .type "str"
    · subst h1
      obtain ⟨z, rfl⟩ := T.isStr
      have hl := hz z rfl
      refine iteF ?_
      refine ⟨_, rfl, _, barred.map V.str, rfl, .inr (tupAtB_ok E.e_BARRED H), rfl, flat_strs barred, _, rfl, ?_⟩
      show (if inV (V.str z) (barred.map V.str) = true then _ else _)
      rw [inV_str]
      by_cases hb : z ∈ barred
      · rw [decide_eq_true hb]
        have e : nameV (.str z) = false := by simp [nameV, nameB, hb]
        rw [e] at k
        exact iteT (k H (L2.Same.refl _))
      rw [decide_eq_false hb]
      refine iteF ?_
      have sz : z.length ≤ sizeLine := Nat.le_trans hl (by rw [sizeLine_eq]; decide)
      refine ⟨_, rfl, _, z.length, rfl, ⟨sz, rfl⟩, _, _, rfl, rfl, _, rfl, ?_⟩
      by_cases h2 : 1 ≤ z.length
      · rw [decide_eq_true (by omega)]
        refine iteT ⟨_, _, rfl, rfl, _, rfl, ?_⟩
        by_cases h3 : z.length ≤ 4
        · rw [decide_eq_true (by omega)]
          refine iteF ?_
          dsimp only [tNext, tSeq, tIfS, tNot, tB, tTest, tCB, tCons, tNil, sFld, tRet, tOp, tAsg, gName, tAnd, tOr, tIf, tBM, tBM0, tDrop, tAndV, tOrV, tNotV, tPar, tFld, tLst, tTup, tMake, tMeth, tCall, tSl]
          rw [tLcS_eq]
          refine ⟨_, rfl, z, rfl, lcs_M (fun c => .bl (letterB c)) (Nat.lt_of_le_of_lt hl (by rw [sizeLine_eq]; decide)) (fun c hc H1 s1 R hR => ?_) (fun D H1 hD s1 e1 => ?_) (fun _ _ _ _ _ hm z => hm _ _ z)⟩
          · refine ⟨rfl, _, rfl, c, _, rfl, rfl, ?_⟩
            show R (.bl (decide (c ∈ TL.tl ("abcdefghijklmnopqrstuvwxyz" : Str)))) H1
            rw [letter_mem]
            exact hR H1 (L2.Same.refl _)
          · refine ⟨D, (TL.tl z).map letterB, rfl, .inl (.inl ?_), ?_⟩
            · rw [e1, List.map_map]
              rfl
            · have e : nameV (.str z) = ((TL.tl z).map letterB).all id := by
                simp [nameV, nameB, hb, h2, h3, List.all_map, Function.comp_def]
              rw [e] at k
              exact k H1 s1
        · rw [decide_eq_false (by omega)]
          have e : nameV (.str z) = false := by simp [nameV, nameB, h3]
          rw [e] at k
          exact iteT (k H (L2.Same.refl _))
      · rw [decide_eq_false (by omega)]
        have e : nameV (.str z) = false := by simp [nameV, nameB, h2]
        rw [e] at k
        exact iteF ⟨_, rfl, iteT (k H (L2.Same.refl _))⟩
    · rw [nameV_not T h1] at k
      have e : kb t "str" = false := by simp [kb, h1]
      rw [e]
      exact iteT (iteT (k H (L2.Same.refl _)))
end

end Tm

namespace Tm
open PySem PySem.Spec PyProof.Rows L2
section
variable {P : Program} {w : World} {K : PySem.W.Frag} {mg : Str → Option Value} {base : Heap}
def spNumIn : Sp := fun vs H Q _ => ∃ z : Str, vs = [.str z] ∧ z.length ≤ 1000000 ∧ ∀ H', Same H H' → Q (tv (numIn z)) H'
theorem sc_number_in : FnScope ["word", "sign"] ["word"] (defScope s_number_in) := ⟨rfl, rfl, rfl, by decide +kernel, rfl, by decide +kernel, by decide +kernel⟩
theorem ok_number_in (E : Env K mg w) : Dn P w K mg base CX0 1 (He.ga K "number_in") [] spNumIn := by
  refine dn_of (ps := ["word"]) E.f_number_in (fun fd F => ?_) (fun _ _ _ _ _ _ us hl => match us, hl with | [_], _ => rfl)
  refine F.ok sc_number_in (fun vs H Q E h => ?_) (fun cdv A outer s H vs Q X hr h => ?_)
  · obtain ⟨z, rfl, _⟩ := h
    rfl
  · obtain ⟨z, rfl, hl, k⟩ := h
    refine ⟨_, PSs.nox (pss_cons (ps_if (PW.pt (pw_or (pt_not (pt_chain op_le op_le pe_int (pe_callB (k_len K) (by rfl) E.g_len bt_len (pa_cons (pv 0) pa_nil)) (pe_gi E.g_MOST_SIGNS))) (pw_or1 (pt_not (pt_val (pe_callB (k_all K) (by rfl) E.g_all bt_all (pa_cons (pe_lc (own := [("sign", 1)]) (by rfl) sc_number_in.nd (pi_str (pv 0)) (blkOk_by (own := [("sign", 1)]) (N := ["word", "sign"]) (sc := defScope s_number_in) (by decide +kernel)) (fun _ _ _ _ _ => (pg_name (i := 1) sc_number_in.nd rfl (Or.inl rfl))) (fun _ _ _ _ _ => pts_nil) (fun _ _ _ _ _ => (pe_cmpR op_in_sign (pv 1) (pe_gs E.g_SIGNS) (by rfl)))) pa_nil))))))) (pss_one (ps_ret pe_non)) pss_nil)
      (pss_one (ps_ret (pe_ifExp (PW.pt (pw_and (pt_cmpR op_eq (pe_ix ix_str (pv 0) pe_int (fun _ _ => rfl)) pe_str (nomark _)) (pw_and1 (pt_cmpR op_gt (pe_callB (k_len K) (by rfl) E.g_len bt_len (pa_cons (pv 0) pa_nil)) pe_int (nomark _))))) pe_non (pe_callTy call_int_str (by rfl) E.g_int bt_int (pa_cons (pv 0) pa_nil)))))), ?_⟩
    have sz : z.length ≤ sizeLine := Nat.le_trans hl (by rw [sizeLine_eq]; decide)
    refine ⟨_, rfl, _, z.length, rfl, ⟨sz, rfl⟩, _, _, rfl, rfl, _, rfl, ?_⟩
    by_cases h2 : 1 ≤ z.length
    · rw [decide_eq_true (by omega)]
      refine iteT ⟨_, _, rfl, rfl, _, rfl, ?_⟩
      by_cases h3 : z.length ≤ 19
      · rw [decide_eq_true (by omega)]
        refine iteF ?_
        have e0 : numIn z = if (TL.tl z).all digitB = true then (if (decide ((TL.tl z).head? = some 48) && decide (1 < z.length)) = true then none else some ((NumText.digitsVal (TL.tl z) : Nat) : Int)) else none := by
          unfold numIn
          rw [if_pos (by simp [h2, h3])]
        dsimp only [tNext, tSeq, tIfS, tNot, tB, tTest, tCB, tCons, tNil, sFld, tRet, tOp, tAsg, gName, tAnd, tOr, tIf, tBM, tBM0, tDrop, tAndV, tOrV, tNotV, tPar, tFld, tLst, tTup, tMake, tMeth, tCall, tSl]
        rw [tLcS_eq]
        refine ⟨_, rfl, z, rfl, lcs_M (fun c => .bl (digitB c)) (Nat.lt_of_le_of_lt hl (by rw [sizeLine_eq]; decide)) (fun c hc H1 s1 R hR => ?_) (fun D H1 hD s1 e1 => ?_) (fun _ _ _ _ _ hm z => hm _ _ z)⟩
        · refine ⟨rfl, _, rfl, c, _, rfl, rfl, ?_⟩
          show R (.bl (decide (c ∈ TL.tl ("0123456789" : Str)))) H1
          rw [sign_mem]
          exact hR H1 (L2.Same.refl _)
        · refine ⟨D, (TL.tl z).map digitB, rfl, .inl (.inl ?_), ?_⟩
          · rw [e1, List.map_map]
            rfl
          · have ea : ((TL.tl z).map digitB).all id = (TL.tl z).all digitB := by
              rw [List.all_map]
              rfl
            rw [ea]
            refine ⟨_, rfl, ?_⟩
            cases er : (TL.tl z).all digitB with
            | false =>
              refine iteT ?_
              rw [e0, er] at k
              exact k H1 s1
            | true =>
              refine iteF ?_
              rw [e0, er, if_pos rfl] at k
              obtain ⟨c, l, ecl⟩ : ∃ c l, TL.tl z = c :: l := by
                cases e : TL.tl z with
                | nil =>
                  rw [TL.len_tl, e] at h2
                  simp at h2
                | cons c l => exact ⟨c, l, rfl⟩
              refine ⟨_, rfl, z, 0, c, rfl, rfl, sz, ?_, rfl, _, rfl, ?_⟩
              · show atI (TL.tl z) 0 = some c
                rw [ecl]
                simp [atI, ixN]
              have eh : decide (V.str ⟨#[c]⟩ = V.str "0") = decide ((TL.tl z).head? = some 48) := by
                rw [ecl]
                have e48 : ("0" : Str) = ⟨#[48]⟩ := by decide +kernel
                by_cases hc : c = 48
                · rw [hc, e48]
                  simp
                · rw [e48]
                  simp [hc]
              show (if decide (V.str ⟨#[c]⟩ = V.str "0") = true then _ else _)
              rw [eh]
              have fin : (decide ((TL.tl z).head? = some 48) && decide (1 < z.length)) = false → ∀ H', Same H H' → ∃ a n, [V.str z] = [.str a] ∧ PySem.intText? a = some n ∧ a.length ≤ 640 ∧ Q (.int n) H' := by
                intro hf H' s'
                rw [hf, if_neg Bool.false_ne_true] at k
                exact ⟨z, _, rfl, intText_digits (digits_all er) (by rw [show z.cps.toList = c :: l from ecl]; simp) (by omega), by omega, k H' s'⟩
              by_cases h4 : (TL.tl z).head? = some 48
              · rw [decide_eq_true h4] at k fin ⊢
                refine iteT ⟨_, rfl, _, z.length, rfl, ⟨sz, rfl⟩, _, _, rfl, rfl, _, rfl, ?_⟩
                by_cases h5 : 1 < z.length
                · rw [decide_eq_true h5, if_pos (by rfl)] at k
                  rw [decide_eq_true (by omega)]
                  exact iteT (k H1 s1)
                · rw [decide_eq_false (by omega)]
                  refine iteF ⟨_, rfl, fin (by simp [h5]) H1 s1⟩
              · rw [decide_eq_false h4] at k fin ⊢
                exact iteF (iteF ⟨_, rfl, fin rfl H1 s1⟩)
      · rw [decide_eq_false (by omega)]
        have e : numIn z = none := by
          unfold numIn
          rw [if_neg (by simp [h3])]
        rw [e] at k
        exact iteT (k H (L2.Same.refl _))
    · rw [decide_eq_false (by omega)]
      have e : numIn z = none := by
        unfold numIn
        rw [if_neg (by simp [h2])]
      rw [e] at k
      exact iteF ⟨_, rfl, iteT (k H (L2.Same.refl _))⟩
end

end Tm

namespace Tm
open PySem PySem.Spec PyProof.Rows L2
section
variable {P : Program} {w : World} {K : PySem.W.Frag} {mg : Str → Option Value} {base : Heap}
def spNeed : Sp := fun vs H Q _ => ∃ x : V, vs = [x, .bl true] ∧ Q .non H
theorem sc_need : FnScope ["word", "is_fit"] ["word", "is_fit"] (defScope s_need) := ⟨rfl, rfl, rfl, by decide +kernel, rfl, by decide +kernel, by decide +kernel⟩
theorem ok_need (E : Env K mg w) : Dn P w K mg base CX0 1 (He.ga K "need") [] spNeed := by
  refine dn_of (ps := ["word", "is_fit"]) E.f_need (fun fd F => ?_) (fun _ _ _ _ _ _ us hl => match us, hl with | [_, _], _ => rfl)
  refine F.ok sc_need (fun vs H Q E h => ?_) (fun cdv A outer s H vs Q X hr h => ?_)
  · obtain ⟨z, rfl, _⟩ := h
    rfl
  · obtain ⟨z, rfl, k⟩ := h
    refine ⟨_, PSs.nox (pss_one (ps_if (pt_not (pt_val (pv 1))) (pss_one (ps_never)) pss_nil)), ?_⟩
    exact ⟨_, rfl, _, rfl, iteF k⟩
def spIsMany (K : PySem.W.Frag) : Sp := fun vs H Q _ => ∃ (x : V) (t : Value), vs = [x] ∧ Typ K H x t ∧ Q (.bl (decide (x = .non) || intFrom 1 x)) H
theorem sc_is_many : FnScope ["value"] ["value"] (defScope s_is_many) := ⟨rfl, rfl, rfl, by decide +kernel, rfl, by decide +kernel, by decide +kernel⟩
theorem ok_is_many (E : Env K mg w) : Dn P w K mg base CX0 3 (He.ga K "is_many") [] (spIsMany K) := by
  refine dn_of (ps := ["value"]) E.f_is_many (fun fd F => ?_) (fun _ _ _ _ _ _ us hl => match us, hl with | [_], _ => rfl)
  refine F.ok sc_is_many (fun vs H Q E h => ?_) (fun cdv A outer s H vs Q X hr h => ?_)
  · obtain ⟨x, t, rfl, _⟩ := h
    rfl
  · obtain ⟨x, t, rfl, T, k⟩ := h
    refine ⟨_, PSs.nox (pss_one (ps_ret (pe_or (pe_cmpR op_isN (pv 0) pe_non (nomark _)) (pe_one (pe_c (ok_is_length (K := K) E) (hr.mono (by decide)) E.g_is_length pass0 (pa_cons (pv 0) pa_nil)))))), ?_⟩
    refine ⟨_, rfl, rfl, _, rfl, ?_⟩
    by_cases h1 : x = .non
    · subst h1
      exact iteT k
    · rw [decide_eq_false h1, Bool.false_or] at k
      rw [decide_eq_false h1]
      exact iteF ⟨_, rfl, x, t, rfl, T, k⟩
def spManyText : Sp := fun vs H Q _ => ∃ o : Option Int, vs = [tv o] ∧ (∀ n, o = some n → 0 ≤ n ∧ n < 10 ^ 19) ∧ Q (.str (manyS o)) H
theorem log_small {n : Int} (h0 : 0 ≤ n) (h1 : n < 10 ^ 19) : n.natAbs.log2 < 1920 := by
  by_cases h : n.natAbs = 0
  · rw [h]
    decide
  · have z : n.natAbs.log2 < 64 := by
      rw [Nat.log2_lt h]
      have : n.natAbs < 10 ^ 19 := by omega
      exact Nat.lt_of_lt_of_le this (by decide)
    omega
theorem sc_many_text : FnScope ["times"] ["times"] (defScope s_many_text) := ⟨rfl, rfl, rfl, by decide +kernel, rfl, by decide +kernel, by decide +kernel⟩
theorem ok_many_text (E : Env K mg w) : Dn P w K mg base CX0 1 (He.ga K "many_text") [] spManyText := by
  refine dn_of (ps := ["times"]) E.f_many_text (fun fd F => ?_) (fun _ _ _ _ _ _ us hl => match us, hl with | [_], _ => rfl)
  refine F.ok sc_many_text (fun vs H Q E h => ?_) (fun cdv A outer s H vs Q X hr h => ?_)
  · obtain ⟨o, rfl, _⟩ := h
    rfl
  · obtain ⟨o, rfl, hb, k⟩ := h
    refine ⟨_, PSs.nox (pss_one (ps_ret (pe_ifExp (pt_cmpR op_isN (pv 0) pe_non (nomark _)) pe_str (pe_callTy call_str_int (by rfl) E.g_str bt_str (pa_cons (pv 0) pa_nil))))), ?_⟩
    cases o with
    | none => exact ⟨_, rfl, rfl, _, rfl, iteT k⟩
    | some n =>
      obtain ⟨h0, h1⟩ := hb n rfl
      exact ⟨_, rfl, rfl, _, rfl, iteF ⟨_, rfl, n, rfl, log_small h0 h1, k⟩⟩
end

end Tm

namespace Tm
open PySem PySem.Spec PyProof.Rows L2
section
variable {P : Program} {w : World} {K : PySem.W.Frag} {mg : Str → Option Value} {base : Heap}
def spStillInit (K : PySem.W.Frag) : Sp := fun vs H Q _ => ∃ (x dx : Addr) (nm : Str) (a : Int) (tm : Option Int), vs = [.ref x, .str nm, .int a, tv tm] ∧ H x = some (.ins (He.ga K "Still") dx []) ∧ nameB nm = true ∧ 1 ≤ a ∧ (∀ c, tm = some c → 1 ≤ c) ∧
  ∀ H' : Hp, Off x H H' → KindAt K H' x ⟨.still, nm, a, 0, tm⟩ → Q .non H'
theorem sc_Still___init__ : FnScope ["self", "name", "days", "times"] ["self", "name", "days", "times"] (defScope s_Still___init__) := ⟨rfl, rfl, rfl, by decide +kernel, rfl, by decide +kernel, by decide +kernel⟩
theorem fn_Still_init (E : Env K mg w) {dvs : List V} (fd : FuncData) (F : FunD K "__init__" "Still.__init__" (defArgs s_Still___init__) (defBody s_Still___init__) (defScope s_Still___init__) dvs [] (He.ma K (He.ga K "Still") "__init__") fd) :
    FnOk P w K mg base CX0 4 (He.ma K (He.ga K "Still") "__init__") fd ["self", "name", "days", "times"] (spStillInit K) := by
  refine F.ok sc_Still___init__ (fun vs H Q E h => ?_) (fun cdv A outer s H vs Q X hr h => ?_)
  · obtain ⟨x, dx, nm, a, tm, rfl, _⟩ := h
    rfl
  · obtain ⟨x, dx, nm, a, tm, rfl, hx, hn, ha, ht, k⟩ := h
    refine ⟨_, PSs.nox (pss_cons (ps_expr (pe_c (ok_need (K := K) E) (hr.mono (by decide)) E.g_need pass0 (pa_cons pe_str (pa_cons (pe_c (ok_is_name (K := K) E) (hr.mono (by decide)) E.g_is_name pass0 (pa_cons (pv 1) pa_nil)) pa_nil))))
      (pss_cons (ps_expr (pe_c (ok_need (K := K) E) (hr.mono (by decide)) E.g_need pass0 (pa_cons pe_str (pa_cons (pe_c (ok_is_length (K := K) E) (hr.mono (by decide)) E.g_is_length pass0 (pa_cons (pv 2) pa_nil)) pa_nil))))
      (pss_cons (ps_expr (pe_c (ok_need (K := K) E) (hr.mono (by decide)) E.g_need pass0 (pa_cons pe_str (pa_cons (pe_c (ok_is_many (K := K) E) (hr.mono (by decide)) E.g_is_many pass0 (pa_cons (pv 3) pa_nil)) pa_nil))))
      (pss_cons (ps_fld (pv 0) (pv 1) rfl)
      (pss_cons (ps_fld (pv 0) (pv 2) rfl)
      (pss_one (ps_fld (pv 0) (pv 3) rfl))))))), ?_⟩
    refine ⟨_, rfl, _, _, rfl, typ_str nm, (fun z e => by cases e; exact Nat.le_trans (nameB_len hn) (by decide)), fun H1 s1 => ⟨_, by show [V.str "name", V.bl (nameB nm)] = _; rw [hn], ?_⟩⟩
    refine ⟨_, rfl, _, _, rfl, typ_int a, _, by show [V.str "days", V.bl (decide (1 ≤ a))] = _; rw [decide_eq_true ha], ?_⟩
    have tt : ∃ t, Typ K H1 (tv tm) t ∧ (decide (tv tm = .non) || intFrom 1 (tv tm)) = true := by
      cases tm with
      | none => exact ⟨_, typ_non, rfl⟩
      | some c => exact ⟨_, typ_int c, by simp [tv, intFrom, ht c rfl]⟩
    obtain ⟨t, T, e⟩ := tt
    refine ⟨_, rfl, _, _, rfl, T, _, by rw [e]; rfl, ?_⟩
    refine ⟨_, rfl, _, rfl, x, He.ga K "Still", dx, [], rfl, s1 _ _ hx, E.cl_Still, E.na_Still_name, (by show 0 < 1000; decide), ?_⟩
    refine ⟨_, rfl, _, rfl, x, He.ga K "Still", dx, _, rfl, upd_same, E.cl_Still, E.na_Still_days, (by show 1 < 1000; decide), ?_⟩
    refine ⟨_, rfl, _, rfl, x, He.ga K "Still", dx, _, rfl, upd_same, E.cl_Still, E.na_Still_times, (by show 2 < 1000; decide), ?_⟩
    exact k _ (off_upd (off_upd (off_upd fun b u _ e => s1 _ _ e))) ⟨dx, upd_same⟩
theorem mk_still {H : Hp} {G : Addr → Hp → Prop} {X : XK} {nm : Str} {a : Int} {tm : Option Int} (hn : nameB nm = true) (ha : 1 ≤ a) (ht : ∀ c, tm = some c → 1 ≤ c)
    (hQ : ∀ (p : Addr) (H' : Hp), H p = none → Same H H' → KindAt K H' p ⟨.still, nm, a, 0, tm⟩ → G p H') :
    ∀ x dx, H x = none → H dx = none → dx ≠ x → spStillInit K (.ref x :: [.str nm, .int a, tv tm]) (upd (upd H dx (.own x)) x (.ins (He.ga K "Still") dx [])) (fun v H2 => v = .non ∧ G x H2) X := by
  intro x dx hx hdx hne
  have s1 : Same H (upd H dx (.own x)) := same_new hdx
  have hx1 : upd H dx (.own x) x = none := by
    rw [upd_ne hne.symm]
    exact hx
  have s2 : Same H (upd (upd H dx (.own x)) x (.ins (He.ga K "Still") dx [])) := s1.trans (same_new hx1)
  refine ⟨x, dx, nm, a, tm, rfl, upd_same, hn, ha, ht, fun H' o R => ⟨rfl, hQ x H' hx (fun b u e => ?_) R⟩⟩
  exact o b u (ne_of_none e hx) (s2 _ _ e)
theorem Still_init3 (E : Env K mg w) : Dn P w K mg base CX0 4 (He.ma K (He.ga K "Still") "__init__") [] (spStillInit K) :=
  dn_dfl (ps := ["self", "name", "days", "times"]) 4 1 E.f_Still___init__ (by simp) rfl (fun fd F => fn_Still_init E fd F) (fun _ _ _ _ _ _ _ us its h1 h2 => match us, its, h1, h2 with | [_, _, _, _], [_], _, _ => ⟨_, rfl, rfl⟩)
theorem Still_init2 (E : Env K mg w) : Dn P w K mg base CX0 4 (He.ma K (He.ga K "Still") "__init__") [.non] (spStillInit K) :=
  dn_dfl (ps := ["self", "name", "days", "times"]) 3 0 E.f_Still___init__ (by simp) rfl (fun fd F => fn_Still_init E fd F) (fun _ _ _ _ _ _ _ us its h1 h2 => match us, its, h1, h2 with | [_, _, _], [_], _, _ => ⟨_, rfl, rfl⟩)
end

end Tm

namespace Tm
open PySem PySem.Spec PyProof.Rows L2
section
variable {P : Program} {w : World} {K : PySem.W.Frag} {mg : Str → Option Value} {base : Heap}
def spAnewInit (K : PySem.W.Frag) : Sp := fun vs H Q _ => ∃ (x dx : Addr) (nm : Str) (a : Int) (tm : Option Int), vs = [.ref x, .str nm, .int a, tv tm] ∧ H x = some (.ins (He.ga K "Anew") dx []) ∧ nameB nm = true ∧ 1 ≤ a ∧ (∀ c, tm = some c → 1 ≤ c) ∧
  ∀ H' : Hp, Off x H H' → KindAt K H' x ⟨.anew, nm, a, 0, tm⟩ → Q .non H'
theorem sc_Anew___init__ : FnScope ["self", "name", "left", "times"] ["self", "name", "left", "times"] (defScope s_Anew___init__) := ⟨rfl, rfl, rfl, by decide +kernel, rfl, by decide +kernel, by decide +kernel⟩
theorem fn_Anew_init (E : Env K mg w) {dvs : List V} (fd : FuncData) (F : FunD K "__init__" "Anew.__init__" (defArgs s_Anew___init__) (defBody s_Anew___init__) (defScope s_Anew___init__) dvs [] (He.ma K (He.ga K "Anew") "__init__") fd) :
    FnOk P w K mg base CX0 4 (He.ma K (He.ga K "Anew") "__init__") fd ["self", "name", "left", "times"] (spAnewInit K) := by
  refine F.ok sc_Anew___init__ (fun vs H Q E h => ?_) (fun cdv A outer s H vs Q X hr h => ?_)
  · obtain ⟨x, dx, nm, a, tm, rfl, _⟩ := h
    rfl
  · obtain ⟨x, dx, nm, a, tm, rfl, hx, hn, ha, ht, k⟩ := h
    refine ⟨_, PSs.nox (pss_cons (ps_expr (pe_c (ok_need (K := K) E) (hr.mono (by decide)) E.g_need pass0 (pa_cons pe_str (pa_cons (pe_c (ok_is_name (K := K) E) (hr.mono (by decide)) E.g_is_name pass0 (pa_cons (pv 1) pa_nil)) pa_nil))))
      (pss_cons (ps_expr (pe_c (ok_need (K := K) E) (hr.mono (by decide)) E.g_need pass0 (pa_cons pe_str (pa_cons (pe_c (ok_is_length (K := K) E) (hr.mono (by decide)) E.g_is_length pass0 (pa_cons (pv 2) pa_nil)) pa_nil))))
      (pss_cons (ps_expr (pe_c (ok_need (K := K) E) (hr.mono (by decide)) E.g_need pass0 (pa_cons pe_str (pa_cons (pe_c (ok_is_many (K := K) E) (hr.mono (by decide)) E.g_is_many pass0 (pa_cons (pv 3) pa_nil)) pa_nil))))
      (pss_cons (ps_fld (pv 0) (pv 1) rfl)
      (pss_cons (ps_fld (pv 0) (pv 2) rfl)
      (pss_one (ps_fld (pv 0) (pv 3) rfl))))))), ?_⟩
    refine ⟨_, rfl, _, _, rfl, typ_str nm, (fun z e => by cases e; exact Nat.le_trans (nameB_len hn) (by decide)), fun H1 s1 => ⟨_, by show [V.str "name", V.bl (nameB nm)] = _; rw [hn], ?_⟩⟩
    refine ⟨_, rfl, _, _, rfl, typ_int a, _, by show [V.str "left", V.bl (decide (1 ≤ a))] = _; rw [decide_eq_true ha], ?_⟩
    have tt : ∃ t, Typ K H1 (tv tm) t ∧ (decide (tv tm = .non) || intFrom 1 (tv tm)) = true := by
      cases tm with
      | none => exact ⟨_, typ_non, rfl⟩
      | some c => exact ⟨_, typ_int c, by simp [tv, intFrom, ht c rfl]⟩
    obtain ⟨t, T, e⟩ := tt
    refine ⟨_, rfl, _, _, rfl, T, _, by rw [e]; rfl, ?_⟩
    refine ⟨_, rfl, _, rfl, x, He.ga K "Anew", dx, [], rfl, s1 _ _ hx, E.cl_Anew, E.na_Anew_name, (by show 0 < 1000; decide), ?_⟩
    refine ⟨_, rfl, _, rfl, x, He.ga K "Anew", dx, _, rfl, upd_same, E.cl_Anew, E.na_Anew_left, (by show 1 < 1000; decide), ?_⟩
    refine ⟨_, rfl, _, rfl, x, He.ga K "Anew", dx, _, rfl, upd_same, E.cl_Anew, E.na_Anew_times, (by show 2 < 1000; decide), ?_⟩
    exact k _ (off_upd (off_upd (off_upd fun b u _ e => s1 _ _ e))) ⟨dx, upd_same⟩
theorem mk_anew {H : Hp} {G : Addr → Hp → Prop} {X : XK} {nm : Str} {a : Int} {tm : Option Int} (hn : nameB nm = true) (ha : 1 ≤ a) (ht : ∀ c, tm = some c → 1 ≤ c)
    (hQ : ∀ (p : Addr) (H' : Hp), H p = none → Same H H' → KindAt K H' p ⟨.anew, nm, a, 0, tm⟩ → G p H') :
    ∀ x dx, H x = none → H dx = none → dx ≠ x → spAnewInit K (.ref x :: [.str nm, .int a, tv tm]) (upd (upd H dx (.own x)) x (.ins (He.ga K "Anew") dx [])) (fun v H2 => v = .non ∧ G x H2) X := by
  intro x dx hx hdx hne
  have s1 : Same H (upd H dx (.own x)) := same_new hdx
  have hx1 : upd H dx (.own x) x = none := by
    rw [upd_ne hne.symm]
    exact hx
  have s2 : Same H (upd (upd H dx (.own x)) x (.ins (He.ga K "Anew") dx [])) := s1.trans (same_new hx1)
  refine ⟨x, dx, nm, a, tm, rfl, upd_same, hn, ha, ht, fun H' o R => ⟨rfl, hQ x H' hx (fun b u e => ?_) R⟩⟩
  exact o b u (ne_of_none e hx) (s2 _ _ e)
theorem Anew_init3 (E : Env K mg w) : Dn P w K mg base CX0 4 (He.ma K (He.ga K "Anew") "__init__") [] (spAnewInit K) :=
  dn_dfl (ps := ["self", "name", "left", "times"]) 4 1 E.f_Anew___init__ (by simp) rfl (fun fd F => fn_Anew_init E fd F) (fun _ _ _ _ _ _ _ us its h1 h2 => match us, its, h1, h2 with | [_, _, _, _], [_], _, _ => ⟨_, rfl, rfl⟩)
theorem Anew_init2 (E : Env K mg w) : Dn P w K mg base CX0 4 (He.ma K (He.ga K "Anew") "__init__") [.non] (spAnewInit K) :=
  dn_dfl (ps := ["self", "name", "left", "times"]) 3 0 E.f_Anew___init__ (by simp) rfl (fun fd F => fn_Anew_init E fd F) (fun _ _ _ _ _ _ _ us its h1 h2 => match us, its, h1, h2 with | [_, _, _], [_], _, _ => ⟨_, rfl, rfl⟩)
end

end Tm

namespace Tm
open PySem PySem.Spec PyProof.Rows L2
section
variable {P : Program} {w : World} {K : PySem.W.Frag} {mg : Str → Option Value} {base : Heap}
def spLiftInit (K : PySem.W.Frag) : Sp := fun vs H Q _ => ∃ (x dx : Addr) (nm : Str) (a b : Int) (tm : Option Int), vs = [.ref x, .str nm, .int a, .int b, tv tm] ∧ H x = some (.ins (He.ga K "Lift") dx []) ∧ nameB nm = true ∧ 1 ≤ a ∧ 1 ≤ b ∧ (∀ c, tm = some c → 1 ≤ c) ∧
  ∀ H' : Hp, Off x H H' → KindAt K H' x ⟨.lift, nm, a, b, tm⟩ → Q .non H'
theorem sc_Lift___init__ : FnScope ["self", "name", "by", "top", "times"] ["self", "name", "by", "top", "times"] (defScope s_Lift___init__) := ⟨rfl, rfl, rfl, by decide +kernel, rfl, by decide +kernel, by decide +kernel⟩
theorem fn_Lift_init (E : Env K mg w) {dvs : List V} (fd : FuncData) (F : FunD K "__init__" "Lift.__init__" (defArgs s_Lift___init__) (defBody s_Lift___init__) (defScope s_Lift___init__) dvs [] (He.ma K (He.ga K "Lift") "__init__") fd) :
    FnOk P w K mg base CX0 4 (He.ma K (He.ga K "Lift") "__init__") fd ["self", "name", "by", "top", "times"] (spLiftInit K) := by
  refine F.ok sc_Lift___init__ (fun vs H Q E h => ?_) (fun cdv A outer s H vs Q X hr h => ?_)
  · obtain ⟨x, dx, nm, a, b, tm, rfl, _⟩ := h
    rfl
  · obtain ⟨x, dx, nm, a, b, tm, rfl, hx, hn, ha, hb, ht, k⟩ := h
    refine ⟨_, PSs.nox (pss_cons (ps_expr (pe_c (ok_need (K := K) E) (hr.mono (by decide)) E.g_need pass0 (pa_cons pe_str (pa_cons (pe_c (ok_is_name (K := K) E) (hr.mono (by decide)) E.g_is_name pass0 (pa_cons (pv 1) pa_nil)) pa_nil))))
      (pss_cons (ps_expr (pe_c (ok_need (K := K) E) (hr.mono (by decide)) E.g_need pass0 (pa_cons pe_str (pa_cons (pe_c (ok_is_length (K := K) E) (hr.mono (by decide)) E.g_is_length pass0 (pa_cons (pv 2) pa_nil)) pa_nil))))
      (pss_cons (ps_expr (pe_c (ok_need (K := K) E) (hr.mono (by decide)) E.g_need pass0 (pa_cons pe_str (pa_cons (pe_c (ok_is_length (K := K) E) (hr.mono (by decide)) E.g_is_length pass0 (pa_cons (pv 3) pa_nil)) pa_nil))))
      (pss_cons (ps_expr (pe_c (ok_need (K := K) E) (hr.mono (by decide)) E.g_need pass0 (pa_cons pe_str (pa_cons (pe_c (ok_is_many (K := K) E) (hr.mono (by decide)) E.g_is_many pass0 (pa_cons (pv 4) pa_nil)) pa_nil))))
      (pss_cons (ps_fld (pv 0) (pv 1) rfl)
      (pss_cons (ps_fld (pv 0) (pv 2) rfl)
      (pss_cons (ps_fld (pv 0) (pv 3) rfl)
      (pss_one (ps_fld (pv 0) (pv 4) rfl))))))))), ?_⟩
    refine ⟨_, rfl, _, _, rfl, typ_str nm, (fun z e => by cases e; exact Nat.le_trans (nameB_len hn) (by decide)), fun H1 s1 => ⟨_, by show [V.str "name", V.bl (nameB nm)] = _; rw [hn], ?_⟩⟩
    refine ⟨_, rfl, _, _, rfl, typ_int a, _, by show [V.str "by", V.bl (decide (1 ≤ a))] = _; rw [decide_eq_true ha], ?_⟩
    refine ⟨_, rfl, _, _, rfl, typ_int b, _, by show [V.str "top", V.bl (decide (1 ≤ b))] = _; rw [decide_eq_true hb], ?_⟩
    have tt : ∃ t, Typ K H1 (tv tm) t ∧ (decide (tv tm = .non) || intFrom 1 (tv tm)) = true := by
      cases tm with
      | none => exact ⟨_, typ_non, rfl⟩
      | some c => exact ⟨_, typ_int c, by simp [tv, intFrom, ht c rfl]⟩
    obtain ⟨t, T, e⟩ := tt
    refine ⟨_, rfl, _, _, rfl, T, _, by rw [e]; rfl, ?_⟩
    refine ⟨_, rfl, _, rfl, x, He.ga K "Lift", dx, [], rfl, s1 _ _ hx, E.cl_Lift, E.na_Lift_name, (by show 0 < 1000; decide), ?_⟩
    refine ⟨_, rfl, _, rfl, x, He.ga K "Lift", dx, _, rfl, upd_same, E.cl_Lift, E.na_Lift_by, (by show 1 < 1000; decide), ?_⟩
    refine ⟨_, rfl, _, rfl, x, He.ga K "Lift", dx, _, rfl, upd_same, E.cl_Lift, E.na_Lift_top, (by show 2 < 1000; decide), ?_⟩
    refine ⟨_, rfl, _, rfl, x, He.ga K "Lift", dx, _, rfl, upd_same, E.cl_Lift, E.na_Lift_times, (by show 3 < 1000; decide), ?_⟩
    exact k _ (off_upd (off_upd (off_upd (off_upd fun b u _ e => s1 _ _ e)))) ⟨dx, upd_same⟩
theorem mk_lift {H : Hp} {G : Addr → Hp → Prop} {X : XK} {nm : Str} {a b : Int} {tm : Option Int} (hn : nameB nm = true) (ha : 1 ≤ a) (hb : 1 ≤ b) (ht : ∀ c, tm = some c → 1 ≤ c)
    (hQ : ∀ (p : Addr) (H' : Hp), H p = none → Same H H' → KindAt K H' p ⟨.lift, nm, a, b, tm⟩ → G p H') :
    ∀ x dx, H x = none → H dx = none → dx ≠ x → spLiftInit K (.ref x :: [.str nm, .int a, .int b, tv tm]) (upd (upd H dx (.own x)) x (.ins (He.ga K "Lift") dx [])) (fun v H2 => v = .non ∧ G x H2) X := by
  intro x dx hx hdx hne
  have s1 : Same H (upd H dx (.own x)) := same_new hdx
  have hx1 : upd H dx (.own x) x = none := by
    rw [upd_ne hne.symm]
    exact hx
  have s2 : Same H (upd (upd H dx (.own x)) x (.ins (He.ga K "Lift") dx [])) := s1.trans (same_new hx1)
  refine ⟨x, dx, nm, a, b, tm, rfl, upd_same, hn, ha, hb, ht, fun H' o R => ⟨rfl, hQ x H' hx (fun b u e => ?_) R⟩⟩
  exact o b u (ne_of_none e hx) (s2 _ _ e)
theorem Lift_init4 (E : Env K mg w) : Dn P w K mg base CX0 4 (He.ma K (He.ga K "Lift") "__init__") [] (spLiftInit K) :=
  dn_dfl (ps := ["self", "name", "by", "top", "times"]) 5 1 E.f_Lift___init__ (by simp) rfl (fun fd F => fn_Lift_init E fd F) (fun _ _ _ _ _ _ _ us its h1 h2 => match us, its, h1, h2 with | [_, _, _, _, _], [_], _, _ => ⟨_, rfl, rfl⟩)
theorem Lift_init3 (E : Env K mg w) : Dn P w K mg base CX0 4 (He.ma K (He.ga K "Lift") "__init__") [.non] (spLiftInit K) :=
  dn_dfl (ps := ["self", "name", "by", "top", "times"]) 4 0 E.f_Lift___init__ (by simp) rfl (fun fd F => fn_Lift_init E fd F) (fun _ _ _ _ _ _ _ us its h1 h2 => match us, its, h1, h2 with | [_, _, _, _], [_], _, _ => ⟨_, rfl, rfl⟩)
end

end Tm

namespace Tm
open PySem PySem.Spec PyProof.Rows L2
section
variable {P : Program} {w : World} {K : PySem.W.Frag} {mg : Str → Option Value} {base : Heap}
def spStillStr (K : PySem.W.Frag) : Sp := fun vs H Q _ => ∃ (x : Addr) (k : Kd), vs = [.ref x] ∧ KindAt K H x k ∧ k.fm = .still ∧ KdOk k ∧ Q (.str (kindS k)) H
theorem sc_Still___str__ : FnScope ["self"] ["self"] (defScope s_Still___str__) := ⟨rfl, rfl, rfl, by decide +kernel, rfl, by decide +kernel, by decide +kernel⟩
theorem Still_text (nm : Str) (a : Int) (tm : Option Int) : Str.empty ++ ("still " : Str) ++ nm ++ (" " : Str) ++ numS a ++ (" " : Str) ++ manyS tm = kindS ⟨.still, nm, a, 0, tm⟩ := by
  refine joins_eq ?_
  rw [tl_kindS]
  simp only [TL.tl_append, sp_tl, kindWs, if_neg (by decide : ¬ Fm.still = Fm.lift), List.cons_append, List.nil_append, List.append_nil, List.map_cons, List.map_nil, joinL_cons, TL.joinL, List.append_assoc]
  have e : TL.tl ("still " : Str) = TL.tl (Fm.still.word) ++ [32] := by decide +kernel
  have e0 : TL.tl Str.empty = [] := rfl
  rw [e, e0]
  simp only [List.append_assoc, List.nil_append, List.cons_append]
theorem ok_Still___str__ (E : Env K mg w) : Dn P w K mg base CX0 2 (He.ma K (He.ga K "Still") "__str__") [] (spStillStr K) := by
  refine dn_of (ps := ["self"]) E.f_Still___str__ (fun fd F => ?_) (fun _ _ _ _ _ _ us hl => match us, hl with | [_], _ => rfl)
  refine F.ok sc_Still___str__ (fun vs H Q E h => ?_) (fun cdv A outer s H vs Q X hr h => ?_)
  · obtain ⟨x, k, rfl, _⟩ := h
    rfl
  · obtain ⟨x, ⟨fm, nm, a, b, tm⟩, rfl, ⟨dx, e⟩, hf, ok, q⟩ := h
    have hf : fm = .still := hf
    subst hf
    have hb : b = 0 := ok.bn (fun z => by cases z)
    subst hb
    have nl := nameB_len ok.nm
    have al := numS_len (by have := ok.a0; omega) ok.a1
    have tl := manyS_len ok.t0
    dsimp only at nl al tl
    have l1 : ("still " : Str).length ≤ 6 := by decide +kernel
    have l2 : (" " : Str).length = 1 := by decide +kernel
    have l0 : Str.empty.length = 0 := rfl
    have hs : sizeLine = 16777216 := sizeLine_eq
    refine ⟨_, PSs.nox (pss_one (ps_ret (pe_joined (PJ.cons pe_str (PJ.cons (pe_fmt (k_fld K (pv 0) rfl)) (PJ.cons pe_str (PJ.cons (pe_fmt (k_fld K (pv 0) rfl)) (PJ.cons pe_str (PJ.cons (pe_fmt (pe_c (ok_many_text (K := K) E) (hr.mono (by decide)) E.g_many_text pass0 (pa_cons (k_fld K (pv 0) rfl) pa_nil))) PJ.nil))))))))), ?_⟩
    refine ⟨_, rfl, (by simp only [len_app]; omega), ?_⟩
    refine ⟨_, rfl, x, _, dx, _, _, rfl, e, E.cl_Still, E.na_Still_name, rfl, .inl ⟨nm, rfl, by omega, _, rfl, (by simp only [len_app]; omega), ?_⟩⟩
    refine ⟨_, rfl, (by simp only [len_app]; omega), ?_⟩
    refine ⟨_, rfl, x, _, dx, _, _, rfl, e, E.cl_Still, E.na_Still_days, rfl, .inr ⟨a, rfl, log_small (by have := ok.a0; dsimp only at this; omega) ok.a1, numS a, rfl, (by simp only [len_app]; omega), ?_⟩⟩
    refine ⟨_, rfl, (by simp only [len_app]; omega), ?_⟩
    refine ⟨_, rfl, x, _, dx, _, _, rfl, e, E.cl_Still, E.na_Still_times, rfl, tm, rfl, (fun n hn => by have := ok.t0 n hn; omega), .inl ⟨manyS tm, rfl, by omega, _, rfl, (by simp only [len_app]; omega), ?_⟩⟩
    show Q (.str (Str.empty ++ ("still " : Str) ++ nm ++ (" " : Str) ++ numS a ++ (" " : Str) ++ manyS tm)) H
    rw [Still_text]
    exact q
end

end Tm

namespace Tm
open PySem PySem.Spec PyProof.Rows L2
section
variable {P : Program} {w : World} {K : PySem.W.Frag} {mg : Str → Option Value} {base : Heap}
def spAnewStr (K : PySem.W.Frag) : Sp := fun vs H Q _ => ∃ (x : Addr) (k : Kd), vs = [.ref x] ∧ KindAt K H x k ∧ k.fm = .anew ∧ KdOk k ∧ Q (.str (kindS k)) H
theorem sc_Anew___str__ : FnScope ["self"] ["self"] (defScope s_Anew___str__) := ⟨rfl, rfl, rfl, by decide +kernel, rfl, by decide +kernel, by decide +kernel⟩
theorem Anew_text (nm : Str) (a : Int) (tm : Option Int) : Str.empty ++ ("anew " : Str) ++ nm ++ (" " : Str) ++ numS a ++ (" " : Str) ++ manyS tm = kindS ⟨.anew, nm, a, 0, tm⟩ := by
  refine joins_eq ?_
  rw [tl_kindS]
  simp only [TL.tl_append, sp_tl, kindWs, if_neg (by decide : ¬ Fm.anew = Fm.lift), List.cons_append, List.nil_append, List.append_nil, List.map_cons, List.map_nil, joinL_cons, TL.joinL, List.append_assoc]
  have e : TL.tl ("anew " : Str) = TL.tl (Fm.anew.word) ++ [32] := by decide +kernel
  have e0 : TL.tl Str.empty = [] := rfl
  rw [e, e0]
  simp only [List.append_assoc, List.nil_append, List.cons_append]
theorem ok_Anew___str__ (E : Env K mg w) : Dn P w K mg base CX0 2 (He.ma K (He.ga K "Anew") "__str__") [] (spAnewStr K) := by
  refine dn_of (ps := ["self"]) E.f_Anew___str__ (fun fd F => ?_) (fun _ _ _ _ _ _ us hl => match us, hl with | [_], _ => rfl)
  refine F.ok sc_Anew___str__ (fun vs H Q E h => ?_) (fun cdv A outer s H vs Q X hr h => ?_)
  · obtain ⟨x, k, rfl, _⟩ := h
    rfl
  · obtain ⟨x, ⟨fm, nm, a, b, tm⟩, rfl, ⟨dx, e⟩, hf, ok, q⟩ := h
    have hf : fm = .anew := hf
    subst hf
    have hb : b = 0 := ok.bn (fun z => by cases z)
    subst hb
    have nl := nameB_len ok.nm
    have al := numS_len (by have := ok.a0; omega) ok.a1
    have tl := manyS_len ok.t0
    dsimp only at nl al tl
    have l1 : ("anew " : Str).length ≤ 6 := by decide +kernel
    have l2 : (" " : Str).length = 1 := by decide +kernel
    have l0 : Str.empty.length = 0 := rfl
    have hs : sizeLine = 16777216 := sizeLine_eq
    refine ⟨_, PSs.nox (pss_one (ps_ret (pe_joined (PJ.cons pe_str (PJ.cons (pe_fmt (k_fld K (pv 0) rfl)) (PJ.cons pe_str (PJ.cons (pe_fmt (k_fld K (pv 0) rfl)) (PJ.cons pe_str (PJ.cons (pe_fmt (pe_c (ok_many_text (K := K) E) (hr.mono (by decide)) E.g_many_text pass0 (pa_cons (k_fld K (pv 0) rfl) pa_nil))) PJ.nil))))))))), ?_⟩
    refine ⟨_, rfl, (by simp only [len_app]; omega), ?_⟩
    refine ⟨_, rfl, x, _, dx, _, _, rfl, e, E.cl_Anew, E.na_Anew_name, rfl, .inl ⟨nm, rfl, by omega, _, rfl, (by simp only [len_app]; omega), ?_⟩⟩
    refine ⟨_, rfl, (by simp only [len_app]; omega), ?_⟩
    refine ⟨_, rfl, x, _, dx, _, _, rfl, e, E.cl_Anew, E.na_Anew_left, rfl, .inr ⟨a, rfl, log_small (by have := ok.a0; dsimp only at this; omega) ok.a1, numS a, rfl, (by simp only [len_app]; omega), ?_⟩⟩
    refine ⟨_, rfl, (by simp only [len_app]; omega), ?_⟩
    refine ⟨_, rfl, x, _, dx, _, _, rfl, e, E.cl_Anew, E.na_Anew_times, rfl, tm, rfl, (fun n hn => by have := ok.t0 n hn; omega), .inl ⟨manyS tm, rfl, by omega, _, rfl, (by simp only [len_app]; omega), ?_⟩⟩
    show Q (.str (Str.empty ++ ("anew " : Str) ++ nm ++ (" " : Str) ++ numS a ++ (" " : Str) ++ manyS tm)) H
    rw [Anew_text]
    exact q
end

end Tm

namespace Tm
open PySem PySem.Spec PyProof.Rows L2
section
variable {P : Program} {w : World} {K : PySem.W.Frag} {mg : Str → Option Value} {base : Heap}
def spLiftStr (K : PySem.W.Frag) : Sp := fun vs H Q _ => ∃ (x : Addr) (k : Kd), vs = [.ref x] ∧ KindAt K H x k ∧ k.fm = .lift ∧ KdOk k ∧ Q (.str (kindS k)) H
theorem sc_Lift___str__ : FnScope ["self"] ["self"] (defScope s_Lift___str__) := ⟨rfl, rfl, rfl, by decide +kernel, rfl, by decide +kernel, by decide +kernel⟩
theorem Lift_text (nm : Str) (a b : Int) (tm : Option Int) : Str.empty ++ ("lift " : Str) ++ nm ++ (" " : Str) ++ numS a ++ (" " : Str) ++ numS b ++ (" " : Str) ++ manyS tm = kindS ⟨.lift, nm, a, b, tm⟩ := by
  refine joins_eq ?_
  rw [tl_kindS]
  simp only [TL.tl_append, sp_tl, kindWs, if_pos, List.cons_append, List.nil_append, List.append_nil, List.map_cons, List.map_nil, joinL_cons, TL.joinL, List.append_assoc]
  have e : TL.tl ("lift " : Str) = TL.tl (Fm.lift.word) ++ [32] := by decide +kernel
  have e0 : TL.tl Str.empty = [] := rfl
  rw [e, e0]
  simp only [List.append_assoc, List.nil_append, List.cons_append]
theorem ok_Lift___str__ (E : Env K mg w) : Dn P w K mg base CX0 2 (He.ma K (He.ga K "Lift") "__str__") [] (spLiftStr K) := by
  refine dn_of (ps := ["self"]) E.f_Lift___str__ (fun fd F => ?_) (fun _ _ _ _ _ _ us hl => match us, hl with | [_], _ => rfl)
  refine F.ok sc_Lift___str__ (fun vs H Q E h => ?_) (fun cdv A outer s H vs Q X hr h => ?_)
  · obtain ⟨x, k, rfl, _⟩ := h
    rfl
  · obtain ⟨x, ⟨fm, nm, a, b, tm⟩, rfl, ⟨dx, e⟩, hf, ok, q⟩ := h
    have hf : fm = .lift := hf
    subst hf
    have nl := nameB_len ok.nm
    have al := numS_len (by have := ok.a0; omega) ok.a1
    have bl := numS_len (by have := ok.bl rfl; omega) ok.b1
    have tl := manyS_len ok.t0
    dsimp only at nl al tl bl
    have l1 : ("lift " : Str).length ≤ 6 := by decide +kernel
    have l2 : (" " : Str).length = 1 := by decide +kernel
    have l0 : Str.empty.length = 0 := rfl
    have hs : sizeLine = 16777216 := sizeLine_eq
    refine ⟨_, PSs.nox (pss_one (ps_ret (pe_joined (PJ.cons pe_str (PJ.cons (pe_fmt (k_fld K (pv 0) rfl)) (PJ.cons pe_str (PJ.cons (pe_fmt (k_fld K (pv 0) rfl)) (PJ.cons pe_str (PJ.cons (pe_fmt (k_fld K (pv 0) rfl)) (PJ.cons pe_str (PJ.cons (pe_fmt (pe_c (ok_many_text (K := K) E) (hr.mono (by decide)) E.g_many_text pass0 (pa_cons (k_fld K (pv 0) rfl) pa_nil))) PJ.nil))))))))))), ?_⟩
    refine ⟨_, rfl, (by simp only [len_app]; omega), ?_⟩
    refine ⟨_, rfl, x, _, dx, _, _, rfl, e, E.cl_Lift, E.na_Lift_name, rfl, .inl ⟨nm, rfl, by omega, _, rfl, (by simp only [len_app]; omega), ?_⟩⟩
    refine ⟨_, rfl, (by simp only [len_app]; omega), ?_⟩
    refine ⟨_, rfl, x, _, dx, _, _, rfl, e, E.cl_Lift, E.na_Lift_by, rfl, .inr ⟨a, rfl, log_small (by have := ok.a0; dsimp only at this; omega) ok.a1, numS a, rfl, (by simp only [len_app]; omega), ?_⟩⟩
    refine ⟨_, rfl, (by simp only [len_app]; omega), ?_⟩
    refine ⟨_, rfl, x, _, dx, _, _, rfl, e, E.cl_Lift, E.na_Lift_top, rfl, .inr ⟨b, rfl, log_small (by have := ok.bl rfl; dsimp only at this; omega) ok.b1, numS b, rfl, (by simp only [len_app]; omega), ?_⟩⟩
    refine ⟨_, rfl, (by simp only [len_app]; omega), ?_⟩
    refine ⟨_, rfl, x, _, dx, _, _, rfl, e, E.cl_Lift, E.na_Lift_times, rfl, tm, rfl, (fun n hn => by have := ok.t0 n hn; omega), .inl ⟨manyS tm, rfl, by omega, _, rfl, (by simp only [len_app]; omega), ?_⟩⟩
    show Q (.str (Str.empty ++ ("lift " : Str) ++ nm ++ (" " : Str) ++ numS a ++ (" " : Str) ++ numS b ++ (" " : Str) ++ manyS tm)) H
    rw [Lift_text]
    exact q
end

end Tm

namespace Tm
open PySem PySem.Spec PyProof.Rows L2
section
variable {P : Program} {w : World} {K : PySem.W.Frag} {mg : Str → Option Value} {base : Heap}
/-- a kind, or something that is none -/
def KindQ (K : PySem.W.Frag) (H : Hp) (y : V) : Option Kd → Prop
  | some k => ∃ p, y = .ref p ∧ KindAt K H p k
  | none => ∃ t, Typ K H y t ∧ PySem.W.kitOne K t (.ref (He.ga K "Kind")) = some false
theorem KindQ.mono {H H' : Hp} {y : V} {o : Option Kd} (h : KindQ K H y o) (s : Same H H') : KindQ K H' y o := by
  cases o with
  | none =>
    obtain ⟨t, T, e⟩ := h
    exact ⟨t, T.mono s, e⟩
  | some k =>
    obtain ⟨p, e, q⟩ := h
    exact ⟨p, e, q.mono s⟩
theorem Kd.isKind (E : Env K mg w) (k : Kd) : PySem.W.kitOne K (.ref (k.cls K)) (.ref (He.ga K "Kind")) = some true := by
  unfold Kd.cls
  cases k.fm
  · exact subB_ok E.s_Still_Kind
  · exact subB_ok E.s_Anew_Kind
  · exact subB_ok E.s_Lift_Kind
theorem Kd.own (E : Env K mg w) (k : Kd) : OwnC K (k.cls K) := by
  unfold Kd.cls
  cases k.fm
  · exact ownB_ok E.o_Still
  · exact ownB_ok E.o_Anew
  · exact ownB_ok E.o_Lift
theorem Kd.cl (E : Env K mg w) (k : Kd) : Cls K (k.cls K) := by
  unfold Kd.cls
  cases k.fm
  · exact E.cl_Still
  · exact E.cl_Anew
  · exact E.cl_Lift
theorem Kd.na_name (E : Env K mg w) (k : Kd) : NoAttr K (k.cls K) "name" := by
  unfold Kd.cls
  cases k.fm
  · exact E.na_Still_name
  · exact E.na_Anew_name
  · exact E.na_Lift_name
theorem Kd.na_times (E : Env K mg w) (k : Kd) : NoAttr K (k.cls K) "times" := by
  unfold Kd.cls
  cases k.fm
  · exact E.na_Still_times
  · exact E.na_Anew_times
  · exact E.na_Lift_times
theorem Kd.at_name (k : Kd) : k.flds.lookup ("name" : Str) = some (.str k.name) := by
  unfold Kd.flds
  cases k.fm <;> rfl
theorem Kd.at_times (k : Kd) : k.flds.lookup ("times" : Str) = some (tv k.times) := by
  unfold Kd.flds
  cases k.fm <;> rfl
theorem KindAt.typ (E : Env K mg w) {H : Hp} {p : Addr} {k : Kd} (h : KindAt K H p k) : Typ K H (.ref p) (.ref (k.cls K)) := by
  obtain ⟨dx, e⟩ := h
  exact typ_ins (k.own E) (k.cl E) e
theorem KindQ.is (E : Env K mg w) {H : Hp} {y : V} {o : Option Kd} (h : KindQ K H y o) : ∃ t, Typ K H y t ∧ PySem.W.kitOne K t (.ref (He.ga K "Kind")) = some o.isSome := by
  cases o with
  | none => exact h
  | some k =>
    obtain ⟨p, rfl, q⟩ := h
    exact ⟨_, q.typ E, k.isKind E⟩
end

end Tm

namespace Tm
open PySem PySem.Spec PyProof.Rows L2
section
variable {P : Program} {w : World} {K : PySem.W.Frag} {mg : Str → Option Value} {base : Heap}
/-- str of a kind -/
def rStrKind (K : PySem.W.Frag) : List V → Hp → VK → Prop := fun xs H Q => ∃ a k, xs = [.ref a] ∧ KindAt K H a k ∧ KdOk k ∧ Q (.str (kindS k)) H
theorem call_strKind {X : Cx} (K : PySem.W.Frag) (E : Env K X.mg X.w) (hr : Room 4 X.A) (hK : X.K = K := by rfl) : CallR X (.type "str") (rStrKind K) := by
  subst hK
  intro pins s σ H xs us Q I r h
  obtain ⟨a, k, rfl, ⟨dx, e⟩, ok, q⟩ := h
  cases hf : k.fm with
  | still =>
    have e' := e
    unfold Kd.cls at e'
    rw [hf] at e'
    exact call_strOwn (spm_of E.m_Still___str__) (ok_Still___str__ E) hr pass0 pins s σ H _ us Q I r ⟨a, dx, _, rfl, e', a, k, rfl, ⟨dx, e⟩, hf, ok, _, rfl, q⟩
  | anew =>
    have e' := e
    unfold Kd.cls at e'
    rw [hf] at e'
    exact call_strOwn (spm_of E.m_Anew___str__) (ok_Anew___str__ E) hr pass0 pins s σ H _ us Q I r ⟨a, dx, _, rfl, e', a, k, rfl, ⟨dx, e⟩, hf, ok, _, rfl, q⟩
  | lift =>
    have e' := e
    unfold Kd.cls at e'
    rw [hf] at e'
    exact call_strOwn (spm_of E.m_Lift___str__) (ok_Lift___str__ E) hr pass0 pins s σ H _ us Q I r ⟨a, dx, _, rfl, e', a, k, rfl, ⟨dx, e⟩, hf, ok, _, rfl, q⟩
/-- whether a kind equals a value that is a kind or none -/
def eqK (k : Kd) : Option Kd → Bool
  | none => false
  | some j => decide (kindS k = kindS j)
def spKindEq (K : PySem.W.Frag) : Sp := fun vs H Q _ => ∃ (x : Addr) (k : Kd) (y : V) (o : Option Kd), vs = [.ref x, y] ∧ KindAt K H x k ∧ KdOk k ∧ KindQ K H y o ∧ (∀ j, o = some j → KdOk j) ∧ Q (.bl (eqK k o)) H
theorem sc_Kind___eq__ : FnScope ["self", "other"] ["self", "other"] (defScope s_Kind___eq__) := ⟨rfl, rfl, rfl, by decide +kernel, rfl, by decide +kernel, by decide +kernel⟩
theorem ok_Kind___eq__ (E : Env K mg w) : Dn P w K mg base CX0 5 (He.ma K (He.ga K "Kind") "__eq__") [] (spKindEq K) := by
  refine dn_of (ps := ["self", "other"]) E.f_Kind___eq__ (fun fd F => ?_) (fun _ _ _ _ _ _ us hl => match us, hl with | [_, _], _ => rfl)
  refine F.ok sc_Kind___eq__ (fun vs H Q E h => ?_) (fun cdv A outer s H vs Q X hr h => ?_)
  · obtain ⟨x, k, y, o, rfl, _⟩ := h
    rfl
  · obtain ⟨x, k, y, o, rfl, ka, ok, kq, oks, q⟩ := h
    refine ⟨_, PSs.nox (pss_one (ps_ret (pe_and (pe_callB (k_isi K) (by rfl) E.g_isinstance bt_isinstance (pa_cons (pv 1) (pa_cons (pe_gr E.g_Kind) pa_nil))) (pe_one (pe_cmpR op_eq (pe_callTy (call_strKind K E (hr.mono (by decide))) (by rfl) E.g_str bt_str (pa_cons (pv 0) pa_nil)) (pe_callTy (call_strKind K E (hr.mono (by decide))) (by rfl) E.g_str bt_str (pa_cons (pv 1) pa_nil)) (nomark _)))))), ?_⟩
    obtain ⟨t, T, kit⟩ := kq.is E
    refine ⟨_, rfl, _, _, _, _, _, rfl, .own _, T.ty, kit, _, rfl, ?_⟩
    cases o with
    | none => exact iteF q
    | some j =>
      obtain ⟨p, rfl, kp⟩ := kq
      refine iteT ⟨_, rfl, x, k, rfl, ka, ok, _, rfl, p, j, rfl, kp, oks j rfl, ?_⟩
      have e : decide (V.str (kindS k) = V.str (kindS j)) = eqK k (some j) := by
        show _ = decide (kindS k = kindS j)
        by_cases h : kindS k = kindS j
        · rw [h, decide_eq_true rfl, decide_eq_true rfl]
        · rw [decide_eq_false h, decide_eq_false fun z => h (V.str.inj z)]
      exact ⟨rfl, by rw [e]; exact q⟩
/-- a kind beside a value that is a kind or none -/
def rKindEq (K : PySem.W.Frag) (neg : Bool) : R2 := fun x y H Q => ∃ (a : Addr) (k : Kd) (o : Option Kd), x = .ref a ∧ KindAt K H a k ∧ KdOk k ∧ KindQ K H y o ∧ (∀ j, o = some j → KdOk j) ∧ (o = none → ∃ n, n ∈ ["int", "bool", "str", "NoneType", "list", "tuple"] ∧ Typ K H y (.type n)) ∧ Q (.bl (if neg then !eqK k o else eqK k o)) H
theorem Kd.spmEq (E : Env K mg w) (k : Kd) : Spm K (k.cls K) "__eq__" (He.ma K (He.ga K "Kind") "__eq__") := by
  unfold Kd.cls
  cases k.fm
  · exact spmB_ok E.q_Still
  · exact spmB_ok E.q_Anew
  · exact spmB_ok E.q_Lift
theorem Kd.neC (E : Env K mg w) (k : Kd) : NeC K (k.cls K) := by
  unfold Kd.cls
  cases k.fm
  · exact neB_ok E.n_Still
  · exact neB_ok E.n_Anew
  · exact neB_ok E.n_Lift
theorem Kd.nfB (E : Env K mg w) (k : Kd) : nfB K (k.cls K) = true := by
  unfold Kd.cls
  cases k.fm
  · exact E.nb_Still
  · exact E.nb_Anew
  · exact E.nb_Lift
theorem Kd.nfK (E : Env K mg w) (k j : Kd) : PySem.W.notFirst K (k.cls K) (.ref (j.cls K)) = true := by
  unfold Kd.cls
  cases k.fm <;> cases j.fm
  · exact E.nf_Still_Still
  · exact E.nf_Still_Anew
  · exact E.nf_Still_Lift
  · exact E.nf_Anew_Still
  · exact E.nf_Anew_Anew
  · exact E.nf_Anew_Lift
  · exact E.nf_Lift_Still
  · exact E.nf_Lift_Anew
  · exact E.nf_Lift_Lift
theorem kindEq_own (E : Env K mg w) {neg : Bool} {x y : V} {H : Hp} {Q : VK} {X : XK} (h : rKindEq K neg x y H Q) : ∃ k : Kd, rEqOwn K (k.cls K) (spKindEq K) X neg x y H Q := by
  obtain ⟨a, k, o, rfl, ka, ok, kq, oks, ob, q⟩ := h
  refine ⟨k, ?_⟩
  obtain ⟨dx, e⟩ := id ka
  cases o with
  | none =>
    obtain ⟨n, hn, T⟩ := ob rfl
    exact ⟨a, dx, _, _, rfl, e, T.ty, nfB_ok (k.nfB E) hn, a, k, y, none, rfl, ka, ok, kq, oks, _, rfl, q⟩
  | some j =>
    obtain ⟨p, rfl, kp⟩ := id kq
    exact ⟨a, dx, _, _, rfl, e, (kp.typ E).ty, k.nfK E j, a, k, .ref p, some j, rfl, ka, ok, kq, oks, _, rfl, q⟩
theorem op_eqKind {X : Cx} (K : PySem.W.Frag) (E : Env K X.mg X.w) (hr : Room 6 X.A) (hK : X.K = K := by rfl) : OpR X (compareOp .Eq) (rKindEq K false) := by
  subst hK
  intro pins s σ H x y v u Q I rx ry h
  obtain ⟨k, q⟩ := kindEq_own (X := fun _ _ _ => False) E h
  exact op_eqOwn X.K (k.spmEq E) (ok_Kind___eq__ E) (hr.mono (by decide)) pass0 rfl pins s σ H x y v u Q I rx ry q
theorem op_neKind {X : Cx} (K : PySem.W.Frag) (E : Env K X.mg X.w) (hr : Room 6 X.A) (hK : X.K = K := by rfl) : OpR X (compareOp .NotEq) (rKindEq K true) := by
  subst hK
  intro pins s σ H x y v u Q I rx ry h
  obtain ⟨k, q⟩ := kindEq_own (X := fun _ _ _ => False) E h
  exact op_neOwn X.K (k.spmEq E) (k.neC E) (ok_Kind___eq__ E) hr pass0 rfl pins s σ H x y v u Q I rx ry q
end

end Tm

namespace Tm
open PySem PySem.Spec PyProof.Rows L2
section
variable {P : Program} {w : World} {K : PySem.W.Frag} {mg : Str → Option Value} {base : Heap}
def spTold : Sp := fun vs H Q _ => ∃ z : Str, vs = [.str z] ∧ z.length ≤ 1000000 ∧ (toldK (Txt.split z " ") = none → ∀ H', Same H H' → Q .non H') ∧
  (∀ k, toldK (Txt.split z " ") = some k → ∀ p H', Same H H' → H p = none → H' p = some (.tup (toldV k)) → Q (.ref p) H')
theorem forms_none (h : keysB K (He.ga K "FORMS") ["still", "anew", "lift"] = true) {f : Str} (hf : formIn f = none) : PySem.W.nsIn K (He.ga K "FORMS") f = some none := keysB_none h (formIn_none hf)
theorem forms_some (E : Env K mg w) (fm : Fm) : ∃ u, PySem.W.nsIn K (He.ga K "FORMS") fm.word = some (some u) ∧ RelV (.int (fm.size : Int)) u := by
  cases fm
  · exact He.valsB_ok E.v_FORMS (q := ("still", .int 4)) (by simp)
  · exact He.valsB_ok E.v_FORMS (q := ("anew", .int 4)) (by simp)
  · exact He.valsB_ok E.v_FORMS (q := ("lift", .int 5)) (by simp)
theorem cut_mid (x y : V) (ms : List V) (t : V) : cutV (x :: y :: (ms ++ [t])) (some 2) (some (-1)) = ms := by
  unfold cutV
  have e1 : HT.sIx (x :: y :: (ms ++ [t])).length 0 (some 2) = 2 := by
    have := HT.sIx_nat (x :: y :: (ms ++ [t])).length 0 2
    rw [show (some ((2 : Nat) : Int)) = some (2 : Int) from rfl] at this
    rw [this]
    simp only [List.length_cons, List.length_append, List.length_nil]
    omega
  have e2 : HT.sIx (x :: y :: (ms ++ [t])).length (x :: y :: (ms ++ [t])).length (some (-1)) = ms.length + 2 := by
    have z : ∀ n d : Nat, HT.sIx n d (some (-1)) = ((-1 : Int) + (n : Int)).toNat := fun n d => by
      show (if (-1 : Int) < 0 then ((-1 : Int) + (n : Int)).toNat else min (-1 : Int).toNat n) = _
      rw [if_pos (by decide)]
    rw [z]
    simp only [List.length_cons, List.length_append, List.length_nil]
    omega
  rw [e1, e2]
  show (ms ++ [t]).take (ms.length + 2 - 2) = ms
  rw [Nat.add_sub_cancel, List.take_append_of_le_length (Nat.le_refl _), List.take_length]
theorem words_of {ws : List Str} {n : Nat} (h : ws.length = n + 3) : ∃ w0 w1 ms t, ws = w0 :: w1 :: (ms ++ [t]) ∧ ms.length = n := by
  match ws, h with
  | w0 :: w1 :: r, h =>
    rcases nil_or_snoc r with rfl | ⟨ms, t, rfl⟩
    · simp at h
    · refine ⟨w0, w1, ms, t, rfl, ?_⟩
      simp at h
      omega
theorem told_ws {w0 w1 t : Str} {ms : List Str} {fm : Fm} (hf : formIn w0 = some fm) (hl : ms.length + 3 = fm.size) : toldK (w0 :: w1 :: (ms ++ [t])) = toldM fm w1 ms t := by
  unfold toldK
  rw [show (w0 :: w1 :: (ms ++ [t])).headD Str.empty = w0 from rfl, hf]
  show (if (w0 :: w1 :: (ms ++ [t])).length = fm.size then _ else _) = _
  rw [if_pos (by simp only [List.length_cons, List.length_append, List.length_nil]; omega)]
  have e : (w0 :: w1 :: (ms ++ [t])).getLastD Str.empty = t := by
    rw [show w0 :: w1 :: (ms ++ [t]) = (w0 :: w1 :: ms) ++ [t] from by simp, List.getLastD_concat]
  have e2 : ((w0 :: w1 :: (ms ++ [t])).drop 2).dropLast = ms := by simp
  rw [e, e2]
  rfl
theorem sc_told_by : FnScope ["text", "words", "numbers", "times", "word"] ["text"] (defScope s_told_by) := ⟨rfl, rfl, rfl, by decide +kernel, rfl, by decide +kernel, by decide +kernel⟩
theorem ok_told_by (E : Env K mg w) : Dn P w K mg base CX0 4 (He.ga K "told_by") [] spTold := by
  refine dn_of (ps := ["text"]) E.f_told_by (fun fd F => ?_) (fun _ _ _ _ _ _ us hl => match us, hl with | [_], _ => rfl)
  refine F.ok sc_told_by (fun vs H Q E h => ?_) (fun cdv A outer s H vs Q X hr h => ?_)
  · obtain ⟨z, rfl, _⟩ := h
    rfl
  · obtain ⟨z, rfl, hl, kn, ks⟩ := h
    refine ⟨_, PSs.nox (pss_cons (ps_set (i := 1) sc_told_by.nd rfl (Or.inl rfl) (pe_split (pv 0) pe_str))
      (pss_cons (ps_if (PW.pt (pw_or (pt_cmpR (op_notInKd K E.t_FORMS) (pe_ix (k_ixL K) (pv 1) pe_int (fun _ _ => rfl)) (pe_gr E.g_FORMS) (by rfl)) (pw_or (pt_cmpR op_ne (pe_callB (k_len K) (by rfl) E.g_len bt_len (pa_cons (pv 1) pa_nil)) (pe_ix ix_kdict (pe_gr E.g_FORMS) (pe_ix (k_ixL K) (pv 1) pe_int (fun _ _ => rfl)) (fun _ _ => rfl)) (nomark _)) (pw_or1 (pt_not (pt_val (pe_c (ok_is_name (K := K) E) (hr.mono (by decide)) E.g_is_name pass0 (pa_cons (pe_ix (k_ixL K) (pv 1) pe_int (fun _ _ => rfl)) pa_nil)))))))) (pss_one (ps_ret pe_non)) pss_nil)
      (pss_cons (ps_setLc (i := 2) (own := [("word", 4)]) (by rfl) sc_told_by.nd rfl rfl (sw_true rfl rfl rfl (by decide +kernel)) (k_piQ K (pe_slice (k_slL K) (pv 1) (po_some pe_int) (po_some (pe_un un_neg pe_int)))) (blkOk_by (own := [("word", 4)]) (N := ["text", "words", "numbers", "times", "word"]) (sc := defScope s_told_by) (by decide +kernel)) (fun _ _ _ _ _ => (pg_name (i := 4) sc_told_by.nd rfl (Or.inl rfl))) (fun _ _ _ _ _ => pts_nil) (fun _ _ _ _ _ => (pe_c (ok_number_in (K := K) E) (hr.mono (by decide)) E.g_number_in pass0 (pa_cons (pv 4) pa_nil))))
      (pss_cons (ps_set (i := 3) sc_told_by.nd rfl (Or.inl rfl) (pe_ifExp (pt_cmpR op_eq (pe_ix (k_ixL K) (pv 1) (pe_un un_neg pe_int) (fun _ _ => rfl)) pe_str (nomark _)) pe_non (pe_c (ok_number_in (K := K) E) (hr.mono (by decide)) E.g_number_in pass0 (pa_cons (pe_ix (k_ixL K) (pv 1) (pe_un un_neg pe_int) (fun _ _ => rfl)) pa_nil))))
      (pss_cons (ps_if (PW.pt (pw_or (pt_cmpR (k_in K) pe_non (pv 2) (by rfl)) (pw_or1 (PW.pt (pw_and (pt_cmpR op_isN (pv 3) pe_non (nomark _)) (pw_and1 (pt_cmpR op_ne (pe_ix (k_ixL K) (pv 1) (pe_un un_neg pe_int) (fun _ _ => rfl)) pe_str (nomark _)))))))) (pss_one (ps_ret pe_non)) pss_nil)
      (pss_one (ps_ret (pe_tup (pa_cons (pe_ix (k_ixL K) (pv 1) pe_int (fun _ _ => rfl)) (pa_cons (pe_ix (k_ixL K) (pv 1) pe_int (fun _ _ => rfl)) (k_star K (pv 2) (pa_cons (pv 3) pa_nil)))))))))))), ?_⟩
    have hs : sizeLine = 16777216 := sizeLine_eq
    refine ⟨_, rfl, ⟨z, rfl⟩, z, " ", rfl, rfl, (by decide +kernel), (by omega), fun p hp => ?_⟩
    obtain ⟨ws, ews⟩ : ∃ ws, ws = Txt.split z " " := ⟨_, rfl⟩
    have wl : ∀ q ∈ ws, q.length ≤ 1000000 := fun q hq => Nat.le_trans (split_le sp_ne sp_lo (by rw [← ews]; exact hq)) hl
    have wne : ws ≠ [] := by
      rw [ews]
      exact split_ne sp_ne sp_lo
    rw [← ews] at kn ks ⊢
    have s1 := same_new (o := .lst (ws.map V.str)) hp
    have e1 : upd H p (.lst (ws.map V.str)) p = some (.lst (ws.map V.str)) := upd_same
    generalize upd H p (.lst (ws.map V.str)) = H1 at s1 e1 ⊢
    obtain ⟨w0, rest, ew⟩ : ∃ w0 rest, ws = w0 :: rest := by
      cases ws with
      | nil => exact absurd rfl wne
      | cons a l => exact ⟨a, l, rfl⟩
    have a0 : atI (ws.map V.str) 0 = some (V.str w0) := by
      rw [ew]
      exact atI_nat (j := 0) rfl
    cases hf : formIn w0 with
    | none =>
      have en : toldK ws = none := by
        rw [ew]
        unfold toldK
        rw [show (w0 :: rest).headD Str.empty = w0 from rfl, hf]
      exact ⟨_, rfl, p, _, 0, _, rfl, rfl, .inl (.inl e1), a0, w0, none, rfl, rfl, forms_none E.x_FORMS hf, _, rfl, iteT (kn en H1 s1)⟩
    | some fm =>
      have ef := formIn_word hf
      obtain ⟨u, hu, ru⟩ := forms_some E fm
      rw [← ef] at hu
      refine ⟨_, rfl, p, _, 0, _, rfl, rfl, .inl (.inl e1), a0, w0, some u, rfl, rfl, hu, _, rfl, iteF ?_⟩
      obtain ⟨es, n, KD⟩ := E.t_FORMS
      refine ⟨_, rfl, _, (ws.map V.str).length, rfl, .inl ⟨_, .inl (.inl e1), rfl⟩, ?_⟩
      refine ⟨_, rfl, p, _, 0, _, rfl, rfl, .inl (.inl e1), a0, _, w0, .int (fm.size : Int), rfl, rfl, ⟨es, n, u, KD.at_, KD.lit, hu, ru⟩, rfl, _, rfl, ?_⟩
      rw [List.length_map]
      by_cases hln : ws.length = fm.size
      · rw [hln, decide_eq_true rfl]
        refine iteF ?_
        obtain ⟨w0', w1, ms, t, ew2, hms⟩ := words_of (ws := ws) (n := fm.size - 3) (by rw [hln]; cases fm <;> rfl)
        have e00 : w0' = w0 := by
          rw [ew] at ew2
          exact (List.cons_eq_cons.mp ew2).1.symm
        subst e00
        have hms' : ms.length + 3 = fm.size := by
          rw [hms]
          cases fm <;> rfl
        have et : toldK ws = toldM fm w1 ms t := by
          rw [ew2]
          exact told_ws hf hms'
        rw [et] at kn ks
        have a1 : atI (ws.map V.str) 1 = some (V.str w1) := by
          rw [ew2]
          exact atI_nat (j := 1) rfl
        have al : atI (ws.map V.str) (-1) = some (V.str t) := by
          rw [ew2]
          have : (w0' :: w1 :: (ms ++ [t])).map V.str = ((w0' :: w1 :: ms).map V.str) ++ [V.str t] := by simp
          rw [this]
          exact atI_last _ _
        have ec : cutV (ws.map V.str) (some 2) (some (-1)) = ms.map V.str := by
          rw [ew2]
          have : (w0' :: w1 :: (ms ++ [t])).map V.str = V.str w0' :: V.str w1 :: (ms.map V.str ++ [V.str t]) := by simp
          rw [this]
          exact cut_mid _ _ _ _
        have l1 : w1.length ≤ 1000000 := wl w1 (by rw [ew2]; simp)
        have lt : t.length ≤ 1000000 := wl t (by rw [ew2]; simp)
        have lm : ∀ q ∈ ms, q.length ≤ 1000000 := fun q hq => wl q (by rw [ew2]; simp [hq])
        refine ⟨_, rfl, p, _, 1, _, rfl, rfl, .inl (.inl e1), a1, _, _, rfl, typ_str w1, (fun z' e => by cases e; exact l1), fun H2 s2 => ⟨_, rfl, ?_⟩⟩
        have s12 := s1.trans s2
        have e2 := s2 _ _ e1
        by_cases hn : nameB w1 = true
        · rw [show nameV (V.str w1) = true from hn]
          refine iteF ?_
          have em : toldM fm w1 ms t = toldN fm w1 (ms.map numIn) (timesIn t) := if_pos hn
          rw [em] at kn ks
          -- the numbers
          dsimp only [tNext, tSeq, tAsg]
          rw [tLc_eq]
          refine ⟨_, rfl, _, rfl, _, rfl, _, rfl, p, _, rfl, .inl (.inl e2), fun p3 hp3 => ?_⟩
          rw [ec]
          have s3 := same_new (o := .lst (ms.map V.str)) hp3
          have e3 : upd H2 p3 (.lst (ms.map V.str)) p3 = some (.lst (ms.map V.str)) := upd_same
          generalize upd H2 p3 (.lst (ms.map V.str)) = H3 at s3 e3 ⊢
          refine lcb_P (ys := (ms.map numIn).map tv) (.inl (.inl (.inl e3))) (by rw [List.length_map]; cases fm <;> simp [Fm.size] at hms' <;> omega) (by simp) (fun i x y hx hy H4 s4 R hR => ?_) (fun D H4 hD s4 e4 => ?_) (fun _ _ _ _ _ hm z => hm _ _ z)
          · rw [List.getElem?_map] at hx
            obtain ⟨q, hq, rfl⟩ := Option.map_eq_some_iff.mp hx
            rw [List.getElem?_map, List.getElem?_map, hq] at hy
            obtain rfl := Option.some.inj hy
            exact ⟨rfl, _, rfl, q, rfl, lm q (List.mem_of_getElem? hq), fun H5 s5 => hR H5 s5⟩
          have s14 := s12.trans (s3.trans s4)
          have e4p := s4 _ _ (s3 _ _ e2)
          -- the times
          dsimp only [gName, tSeq, tAsg]
          refine via (fun Q' => ∀ (o : Option Int) H5, Same H4 H5 → (timesIn t = none → o = none ∧ t ≠ "any") → (∀ tm, timesIn t = some tm → o = tm ∧ (o = none → t = "any")) → Q' (tv o) H5) (fun Q' hR => ?_) fun o H5 s5 h5 h6 => ?_
          · refine ⟨_, rfl, _, rfl, p, _, -1, _, rfl, rfl, .inl (.inl e4p), al, rfl, _, rfl, ?_⟩
            by_cases ha : t = "any"
            · show (if decide (V.str t = V.str "any") = true then _ else _)
              rw [ha, decide_eq_true rfl]
              refine iteT (hR none H4 (L2.Same.refl _) (fun h => ?_) fun tm h => ?_)
              · unfold timesIn at h
                rw [if_pos ha] at h
                cases h
              · unfold timesIn at h
                rw [if_pos ha] at h
                exact ⟨Option.some.inj h, fun _ => ha⟩
            · show (if decide (V.str t = V.str "any") = true then _ else _)
              rw [decide_eq_false fun z => ha (V.str.inj z)]
              refine iteF ⟨_, rfl, _, rfl, p, _, -1, _, rfl, rfl, .inl (.inl e4p), al, t, rfl, lt, fun H5 s5 => hR (numIn t) H5 s5 (fun h => ?_) fun tm h => ?_⟩
              · unfold timesIn at h
                rw [if_neg ha] at h
                exact ⟨Option.map_eq_none_iff.mp h, ha⟩
              · unfold timesIn at h
                rw [if_neg ha] at h
                obtain ⟨m, h1, h2⟩ := Option.map_eq_some_iff.mp h
                rw [h1, h2]
                exact ⟨rfl, fun z => by rw [← h2] at z; cases z⟩
          have s15 := s14.trans s5
          refine ⟨_, rfl, D, (ms.map numIn).map tv, rfl, .inl (.inl (.inl (s5 _ _ e4))), rfl, flat_tvs _, _, rfl, ?_⟩
          show (if inV .non ((ms.map numIn).map tv) = true then _ else _)
          rw [inV_non]
          cases ea : (ms.map numIn).any fun o => decide (o = none) with
          | true =>
            refine iteT (kn ?_ H5 s15)
            obtain ⟨x, hx, ex⟩ := List.any_eq_true.mp ea
            have ex := of_decide_eq_true ex
            subst ex
            unfold toldN
            split
            · rename_i q _
              rw [q] at hx
              simp at hx
            · rename_i q _
              rw [q] at hx
              simp at hx
            · rfl
          | false =>
            refine iteF ?_
            cases et' : timesIn t with
            | none =>
              obtain ⟨rfl, hna⟩ := h5 et'
              refine ⟨_, rfl, rfl, _, rfl, iteT ⟨_, rfl, _, rfl, p, _, -1, _, rfl, rfl, .inl (.inl (s5 _ _ e4p)), al, rfl, _, rfl, ?_⟩⟩
              show (if (!decide (V.str t = V.str "any")) = true then _ else _)
              rw [decide_eq_false fun z => hna (V.str.inj z)]
              refine iteT (kn ?_ H5 s15)
              rw [et']
              unfold toldN
              split
              · rename_i q
                cases q
              · rename_i q
                cases q
              · rfl
            | some tm =>
              obtain ⟨rfl, hna⟩ := h6 tm et'
              have fin : ∃ k, toldN fm w1 (ms.map numIn) (timesIn t) = some k ∧ toldV k = [.str w0', .str w1] ++ ((ms.map numIn).map tv ++ [tv o]) := by
                rw [et', ef]
                cases fm with
                | still =>
                  obtain ⟨a, rfl⟩ : ∃ a, ms = [a] := List.length_eq_one_iff.mp (by simpa [Fm.size] using hms')
                  cases ha : numIn a with
                  | none =>
                    simp [ha] at ea
                  | some n => exact ⟨⟨.still, w1, n, 0, o⟩, by simp [toldN, ha], by simp [toldV, ha, tv]⟩
                | anew =>
                  obtain ⟨a, rfl⟩ : ∃ a, ms = [a] := List.length_eq_one_iff.mp (by simpa [Fm.size] using hms')
                  cases ha : numIn a with
                  | none =>
                    simp [ha] at ea
                  | some n => exact ⟨⟨.anew, w1, n, 0, o⟩, by simp [toldN, ha], by simp [toldV, ha, tv]⟩
                | lift =>
                  obtain ⟨a, b, rfl⟩ : ∃ a b, ms = [a, b] := by
                    match ms, hms' with
                    | [a, b], _ => exact ⟨a, b, rfl⟩
                  cases ha : numIn a with
                  | none =>
                    simp [ha] at ea
                  | some n =>
                    cases hb : numIn b with
                    | none => simp [hb] at ea
                    | some m => exact ⟨⟨.lift, w1, n, m, o⟩, by simp [toldN, ha, hb], by simp [toldV, ha, hb, tv]⟩
              obtain ⟨k, ek, ev⟩ := fin
              have ret : ∀ q, H5 q = none → Q (.ref q) (upd H5 q (.tup ([.str w0', .str w1] ++ ((ms.map numIn).map tv ++ [tv o])))) := fun q hq => by
                rw [← ev]
                refine ks k ek q _ (s15.trans (same_new hq)) ?_ upd_same
                cases hh : H q with
                | none => rfl
                | some u' =>
                  rw [s15 _ _ hh] at hq
                  cases hq
              have tail : ∀ st : L2.St, st = [some (.str z), some (.ref p), some (.ref D), some (tv o), none] → tRet (tTup
            (tCons (tOp (rIxL K) (tVar 1) (tC (V.int 0)))
              (tCons (tOp (rIxL K) (tVar 1) (tC (V.int 1))) (StX.tStar K (tVar 2) (tCons (tVar 3) tNil))))) { nx := fun x H' => Q V.non H', rt := Q } st H5 := by
                rintro st rfl
                refine ⟨_, rfl, p, _, 0, _, rfl, rfl, .inl (.inl (s5 _ _ e4p)), a0, _, rfl, p, _, 1, _, rfl, rfl, .inl (.inl (s5 _ _ e4p)), a1, _, rfl, D, _, rfl, .inr (.inl (.inl (s5 _ _ e4))), _, rfl, ?_⟩
                refine ⟨?_, fun q hq => ret q hq⟩
                show ([V.str w0', .str w1] ++ ((ms.map numIn).map tv ++ [tv o])).length ≤ sizeLine
                rw [← ev]
                unfold toldV
                split <;> simp [sizeLine_eq]
              cases o with
              | none =>
                refine ⟨_, rfl, rfl, _, rfl, iteT ⟨_, rfl, _, rfl, p, _, -1, _, rfl, rfl, .inl (.inl (s5 _ _ e4p)), al, rfl, _, rfl, ?_⟩⟩
                show (if (!decide (V.str t = V.str "any")) = true then _ else _)
                rw [hna rfl, decide_eq_true rfl]
                exact iteF (tail _ rfl)
              | some n => exact ⟨_, rfl, rfl, _, rfl, iteF (iteF (tail _ rfl))⟩
        · have hn' : nameB w1 = false := by simpa using hn
          rw [show nameV (V.str w1) = false from hn']
          refine iteT (kn ?_ H2 s12)
          unfold toldM
          rw [if_neg hn]
      · rw [decide_eq_false (fun z => hln (by have := V.int.inj z; omega))]
        refine iteT (kn ?_ H1 s1)
        rw [ew]
        unfold toldK
        rw [show (w0 :: rest).headD Str.empty = w0 from rfl, hf]
        show (if (w0 :: rest).length = fm.size then _ else _) = none
        rw [if_neg (by rw [← ew]; exact hln)]
end

end Tm

namespace Tm
open PySem PySem.Spec PyProof.Rows L2
section
variable {P : Program} {w : World} {K : PySem.W.Frag} {mg : Str → Option Value} {base : Heap}
def spMade (K : PySem.W.Frag) : Sp := fun vs H Q _ => ∃ (p : Addr) (k : Kd), vs = [.ref p] ∧ SqT K H p (toldV k) ∧ KdOk k ∧ ∀ q H', H q = none → Same H H' → KindAt K H' q k → Q (.ref q) H'
theorem sc_made_of : FnScope ["told"] ["told"] (defScope s_made_of) := ⟨rfl, rfl, rfl, by decide +kernel, rfl, by decide +kernel, by decide +kernel⟩
theorem ok_made_of (E : Env K mg w) : Dn P w K mg base CX0 6 (He.ga K "made_of") [] (spMade K) := by
  refine dn_of (ps := ["told"]) E.f_made_of (fun fd F => ?_) (fun _ _ _ _ _ _ us hl => match us, hl with | [_], _ => rfl)
  refine F.ok sc_made_of (fun vs H Q E h => ?_) (fun cdv A outer s H vs Q X hr h => ?_)
  · obtain ⟨p, k, rfl, _⟩ := h
    rfl
  · obtain ⟨p, ⟨fm, nm, a, b, tm⟩, rfl, hS, ok, k⟩ := h
    refine ⟨_, PSs.nox (pss_cons (ps_if (pt_cmpR op_eq (pe_ix (k_ixT K) (pv 0) pe_int (fun _ _ => rfl)) pe_str (nomark _)) (pss_one (ps_ret (pe_mk E.mk_Still (Still_init3 (K := K) E) (hr.mono (by decide)) E.g_Still pass0 (pa_cons (pe_ix (k_ixT K) (pv 0) pe_int (fun _ _ => rfl)) (pa_cons (pe_ix (k_ixT K) (pv 0) pe_int (fun _ _ => rfl)) (pa_cons (pe_ix (k_ixT K) (pv 0) pe_int (fun _ _ => rfl)) pa_nil)))))) pss_nil)
      (pss_cons (ps_if (pt_cmpR op_eq (pe_ix (k_ixT K) (pv 0) pe_int (fun _ _ => rfl)) pe_str (nomark _)) (pss_one (ps_ret (pe_mk E.mk_Anew (Anew_init3 (K := K) E) (hr.mono (by decide)) E.g_Anew pass0 (pa_cons (pe_ix (k_ixT K) (pv 0) pe_int (fun _ _ => rfl)) (pa_cons (pe_ix (k_ixT K) (pv 0) pe_int (fun _ _ => rfl)) (pa_cons (pe_ix (k_ixT K) (pv 0) pe_int (fun _ _ => rfl)) pa_nil)))))) pss_nil)
      (pss_one (ps_ret (pe_mk E.mk_Lift (Lift_init4 (K := K) E) (hr.mono (by decide)) E.g_Lift pass0 (pa_cons (pe_ix (k_ixT K) (pv 0) pe_int (fun _ _ => rfl)) (pa_cons (pe_ix (k_ixT K) (pv 0) pe_int (fun _ _ => rfl)) (pa_cons (pe_ix (k_ixT K) (pv 0) pe_int (fun _ _ => rfl)) (pa_cons (pe_ix (k_ixT K) (pv 0) pe_int (fun _ _ => rfl)) pa_nil))))))))), ?_⟩
    have hn := ok.nm
    have ha := ok.a0
    have ht : ∀ c, tm = some c → 1 ≤ c := fun c h => (ok.t0 c h).1
    have hb := ok.bn
    have hbl := ok.bl
    dsimp only at hn ha hb hbl
    have a0 : atI (toldV ⟨fm, nm, a, b, tm⟩) 0 = some (V.str fm.word) := by cases fm <;> rfl
    have a1 : atI (toldV ⟨fm, nm, a, b, tm⟩) 1 = some (V.str nm) := by cases fm <;> rfl
    have a2 : atI (toldV ⟨fm, nm, a, b, tm⟩) 2 = some (V.int a) := by cases fm <;> rfl
    refine ⟨_, rfl, p, _, 0, _, rfl, rfl, hS, a0, rfl, _, rfl, ?_⟩
    cases fm with
    | still =>
      obtain rfl : b = 0 := hb (by decide)
      show (if decide (V.str Fm.still.word = V.str Fm.still.word) = true then _ else _)
      rw [decide_eq_true rfl]
      refine iteT ⟨_, rfl, p, _, 1, _, rfl, rfl, hS, a1, _, rfl, p, _, 2, _, rfl, rfl, hS, a2, _, rfl, p, _, 3, _, rfl, rfl, hS, (rfl : _ = some (tv tm)), ?_⟩
      exact mk_still hn ha ht fun q H' hq s' ka => k q H' hq s' ka
    | anew =>
      obtain rfl : b = 0 := hb (by decide)
      show (if decide (V.str Fm.anew.word = V.str Fm.still.word) = true then _ else _)
      rw [decide_eq_false (fm_ne (by decide))]
      refine iteF ⟨_, rfl, p, _, 0, _, rfl, rfl, hS, a0, rfl, _, rfl, ?_⟩
      show (if decide (V.str Fm.anew.word = V.str Fm.anew.word) = true then _ else _)
      rw [decide_eq_true rfl]
      refine iteT ⟨_, rfl, p, _, 1, _, rfl, rfl, hS, a1, _, rfl, p, _, 2, _, rfl, rfl, hS, a2, _, rfl, p, _, 3, _, rfl, rfl, hS, (rfl : _ = some (tv tm)), ?_⟩
      exact mk_anew hn ha ht fun q H' hq s' ka => k q H' hq s' ka
    | lift =>
      show (if decide (V.str Fm.lift.word = V.str Fm.still.word) = true then _ else _)
      rw [decide_eq_false (fm_ne (by decide))]
      refine iteF ⟨_, rfl, p, _, 0, _, rfl, rfl, hS, a0, rfl, _, rfl, ?_⟩
      show (if decide (V.str Fm.lift.word = V.str Fm.anew.word) = true then _ else _)
      rw [decide_eq_false (fm_ne (by decide))]
      refine iteF ⟨_, rfl, p, _, 1, _, rfl, rfl, hS, a1, _, rfl, p, _, 2, _, rfl, rfl, hS, a2, _, rfl, p, _, 3, _, rfl, rfl, hS, (rfl : _ = some (V.int b)), _, rfl, p, _, 4, _, rfl, rfl, hS, (rfl : _ = some (tv tm)), ?_⟩
      exact mk_lift hn ha (hbl rfl) ht fun q H' hq s' ka => k q H' hq s' ka
/-- Kind.read of a text that tells a kind -/
def spKindRead (K : PySem.W.Frag) : Sp := fun vs H Q _ => ∃ (c : V) (z : Str) (k : Kd), vs = [c, .str z] ∧ z.length ≤ 1000000 ∧ toldK (Txt.split z " ") = some k ∧ KdOk k ∧ ∀ q H', H q = none → Same H H' → KindAt K H' q k → Q (.ref q) H'
theorem sc_Kind_read : FnScope ["cls", "text", "told", "error"] ["cls", "text"] (defScope s_Kind_read) := ⟨rfl, rfl, rfl, by decide +kernel, rfl, by decide +kernel, by decide +kernel⟩
theorem ok_Kind_read (E : Env K mg w) : Dn P w K mg base CX0 7 (He5.wf K (He.ga K "Kind") "classmethod" "read") [] (spKindRead K) := by
  refine dn_of (ps := ["cls", "text"]) E.f_Kind_read (fun fd F => ?_) (fun _ _ _ _ _ _ us hl => match us, hl with | [_, _], _ => rfl)
  refine F.ok sc_Kind_read (fun vs H Q E h => ?_) (fun cdv A outer s H vs Q X hr h => ?_)
  · obtain ⟨c, z, k, rfl, _⟩ := h
    rfl
  · obtain ⟨c, z, k, rfl, hl, ht, ok, q⟩ := h
    refine ⟨_, PSs.nox (pss_cons (ps_set (i := 2) sc_Kind_read.nd rfl (Or.inl rfl) (pe_c (ok_told_by (K := K) E) (hr.mono (by decide)) E.g_told_by pass0 (pa_cons (pv 1) pa_nil)))
      (pss_cons (ps_if (pt_cmpR op_isN (pv 2) pe_non (nomark _)) (pss_one (ps_never)) pss_nil)
      (pss_one (ps_try_thru0 (pss_one (ps_ret (pe_c (ok_made_of (K := K) E) (hr.mono (by decide)) E.g_made_of pass0 (pa_cons (pv 2) pa_nil)))))))), ?_⟩
    refine ⟨_, rfl, z, rfl, hl, (fun e => by rw [ht] at e; cases e), fun j ej p H1 s1 hp e1 => ?_⟩
    rw [ht] at ej
    obtain rfl := Option.some.inj ej
    refine ⟨_, rfl, rfl, _, rfl, iteF ?_⟩
    exact ⟨_, rfl, p, k, rfl, .inl (.inl e1), ok, fun q' H2 hq s2 ka => q q' H2 (none_of s1 hq) (s1.trans s2) ka⟩
end

end Tm

namespace Tm
open PySem PySem.Spec PyProof.Rows L2
section
variable {P : Program} {w : World} {K : PySem.W.Frag} {mg : Str → Option Value} {base : Heap}
def spDraw : Sp := fun vs H Q _ => ∃ (d g : Addr) (n : Int), vs = [.ref d, .int n] ∧ Deal H d g ∧ 0 < n ∧ n < 2 ^ 64 ∧ ∀ (v : Int) (H' : Hp), 0 ≤ v → v < n → Deal H' d g → But d g H H' → Q (.int v) H'
theorem sc__law_draw : FnScope ["_law_deal_here", "_law_many", "_law_rest"] ["_law_deal_here", "_law_many"] (defScope s__law_draw) := ⟨rfl, rfl, rfl, by decide +kernel, rfl, by decide +kernel, by decide +kernel⟩
theorem ok__law_draw (E : Env K mg w) : Dn P w K mg base CX0 1 (He.ga K "_law_draw") [] spDraw := by
  refine dn_of (ps := ["_law_deal_here", "_law_many"]) E.f__law_draw (fun fd F => ?_) (fun _ _ _ _ _ _ us hl => match us, hl with | [_, _], _ => rfl)
  refine F.ok sc__law_draw (fun vs H Q E h => ?_) (fun cdv A outer s H vs Q X hr h => ?_)
  · obtain ⟨d, g, n, rfl, _⟩ := h
    rfl
  · obtain ⟨d, g, n, rfl, D0, hn, hn2, k⟩ := h
    have hu := hr.units
    have cd : CDivW 0 n := wide_div (b := 65) hn (by omega) (by decide) (by decide)
    refine ⟨_, PSs.nox (pss_cons (ps_while PassesOwn.never (PW.pt (pw_and (pt_cmpR (op_neNil K hu) (pe_ix (k_ixL K) (pv 0) pe_int (fun _ _ => rfl)) (pe_lst pa_nil) (nomark _)) (pw_and1 (pt_cmpR op_eq (pe_ix (k_ixL K) (pe_ix (k_ixL K) (pv 0) pe_int (fun _ _ => rfl)) (pe_un un_neg pe_int) (fun _ _ => rfl)) pe_int (nomark _)))))
      (pss_one (ps_expr (k_bm0 K PySem.F.plainAttrs_list PySem.F.slot_list_pop PySem.F.type_list_pop mt_pop (pe_ix (k_ixL K) (pv 0) pe_int (fun _ _ => rfl)) ))))
      (pss_cons (ps_if (pt_cmpR (op_neNil K hu) (pe_ix (k_ixL K) (pv 0) pe_int (fun _ _ => rfl)) (pe_lst pa_nil) (nomark _)) (pss_cons (ps_set (i := 2) sc__law_draw.nd rfl (Or.inl rfl) (k_bm0 K PySem.F.plainAttrs_list PySem.F.slot_list_pop PySem.F.type_list_pop mt_pop (pe_ix (k_ixL K) (pv 0) pe_int (fun _ _ => rfl)) ))
      (pss_cons (ps_expr (k_bm K PySem.F.plainAttrs_list PySem.F.slot_list_append PySem.F.type_list_append mt_append (pe_ix (k_ixL K) (pv 0) pe_int (fun _ _ => rfl)) (pa_cons (pe_op op_fdivW (pv 2) (pv 1)) pa_nil)))
      (pss_one (ps_ret (pe_op op_mod (pe_callTy call_int1 (by rfl) E.g_int bt_int (pa_cons (pv 2) pa_nil)) (pv 1)))))) pss_nil)
      (pss_cons (ps_asg (pe_op op_mod (pe_callTy call_int1 (by rfl) E.g_int bt_int (pa_cons (pe_op op_add (pe_op op_mul (pe_ix (k_ixL K) (pv 0) pe_int (fun _ _ => rfl)) pe_int) pe_int) pa_nil)) pe_int) (pg_sub (pv 0) pe_int set_list))
      (pss_one (ps_ret (pe_op op_mod (pe_callTy call_int1 (by rfl) E.g_int bt_int (pa_cons (pe_op op_fdiv (pe_ix (k_ixL K) (pv 0) pe_int (fun _ _ => rfl)) pe_int) pa_nil)) (pv 1))))))), ?_⟩
    obtain ⟨gs0, D0⟩ := D0
    -- the test of the loop, and of the if: the list, a new empty one
    refine ⟨fun m σ H' => ∃ gs, m = gs.length ∧ σ = [some (.ref d), some (.int n), none] ∧ DealG H' d g gs ∧ But d g H H', ⟨_, gs0, rfl, rfl, D0, But.refl H⟩, ?_⟩
    rintro m σ H1 ⟨gs, rfl, rfl, D1, b1⟩
    have D1' : Deal H1 d g := ⟨gs, D1⟩
    obtain ⟨mm, hd, hg, hl, hpos, hm⟩ := id D1
    refine ⟨_, rfl, d, _, 0, _, rfl, rfl, .inl (.inl hd), rfl, (by show 0 ≤ sizeLine; decide), fun p hp => ?_⟩
    have ap := D1'.new hp
    have hg2 : upd H1 p (.lst []) g = some (.lst (gs.map V.int)) := by rw [upd_ne ap.2.symm]; exact hg
    have hd2 : upd H1 p (.lst []) d = some (.lst [.ref g, .int mm]) := by rw [upd_ne ap.1.symm]; exact hd
    refine ⟨g, p, _, rfl, rfl, .inl (.inl hg2), lay_ints _, upd_same, _, rfl, ?_⟩
    have b2 : But d g H (upd H1 p (.lst [])) := b1.trans (But.same (same_new hp))
    have D2 : DealG (upd H1 p (.lst [])) d g gs := ⟨mm, hd2, hg2, hl, hpos, hm⟩
    generalize upd H1 p (.lst []) = H2 at b2 D2 hd2 hg2 ⊢
    clear hp ap D1 D1' hd hg b1
    rcases nil_or_snoc gs with rfl | ⟨l, y, rfl⟩
    · -- no great number is left
      refine iteF (iteF ?_)
      refine ⟨_, rfl, d, _, 0, _, rfl, rfl, .inl (.inl hd2), rfl, (by show 0 ≤ sizeLine; decide), fun p hp => ?_⟩
      have ap := Deal.new ⟨_, D2⟩ hp
      have hg3 : upd H2 p (.lst []) g = some (.lst (([] : List Int).map V.int)) := by rw [upd_ne ap.2.symm]; exact hg2
      have hd3 : upd H2 p (.lst []) d = some (.lst [.ref g, .int mm]) := by rw [upd_ne ap.1.symm]; exact hd2
      refine ⟨g, p, _, rfl, rfl, .inl (.inl hg3), lay_ints _, upd_same, _, rfl, ?_⟩
      have b3 : But d g H (upd H2 p (.lst [])) := b2.trans (But.same (same_new hp))
      generalize upd H2 p (.lst []) = H3 at b3 hd3 hg3 ⊢
      refine iteF ?_
      refine ⟨_, rfl, d, _, 1, _, rfl, rfl, .inl (.inl hd3), rfl, _, _, rfl, rfl, .inr ⟨by decide, by decide⟩, _, _, rfl, rfl, .inl ⟨_, rfl, _, _, rfl, rfl, (by show (0 : Int) < 2147483647; decide), ?_⟩⟩
      refine ⟨_, rfl, d, _, 1, 1, rfl, rfl, hd3, rfl, ?_⟩
      have nn : d ≠ g := D2.ne
      have hpos2 : 0 ≤ (mm * 48271 + 31) % 2147483647 := Int.emod_nonneg _ (by decide)
      obtain ⟨m2, em⟩ : ∃ m2, m2 = (mm * 48271 + 31) % 2147483647 := ⟨_, rfl⟩
      rw [← em] at hpos2
      show (fun σ' H' => _) _ (upd H3 d (.lst [.ref g, .int ((mm * 48271 + 31) % 2147483647)]))
      rw [← em]
      have hd4 : upd H3 d (.lst [.ref g, .int m2]) d = some (.lst [.ref g, .int m2]) := upd_same
      have hg4 : upd H3 d (.lst [.ref g, .int m2]) g = some (.lst (([] : List Int).map V.int)) := by rw [upd_ne nn.symm]; exact hg3
      have b4 : But d g H (upd H3 d (.lst [.ref g, .int m2])) := fun c u n e => by rw [upd_ne n.1]; exact b3 c u n e
      refine ⟨_, rfl, d, _, 1, _, rfl, rfl, .inl (.inl hd4), rfl, _, _, rfl, rfl, ⟨by decide, by decide⟩, .inl ⟨_, rfl, _, rfl, _, _, rfl, rfl, hn, ?_⟩⟩
      exact k _ _ (Int.emod_nonneg _ (by omega)) (Int.emod_lt_of_pos _ hn) ⟨[], m2, hd4, hg4, by simp, by simp, hpos2⟩ b4
    · have e1 : (!((l ++ [y]).map V.int).isEmpty) = true := by simp
      have nn : d ≠ g := D2.ne
      have hl' : l.length ≤ 60 := by simp at hl; omega
      have hposl : ∀ x ∈ l, 0 ≤ x := fun x hx => hpos x (List.mem_append_left _ hx)
      have hy : 0 ≤ y := hpos y (by simp)
      rw [e1]
      refine iteT ?_
      rw [List.map_append] at hg2
      refine ⟨_, rfl, d, _, 0, _, rfl, rfl, .inl (.inl hd2), rfl, _, rfl, g, _, -1, _, rfl, rfl, .inl (.inl hg2), atI_last _ _, rfl, _, rfl, ?_⟩
      by_cases h0 : y = 0
      · -- the last one is used up
        subst h0
        refine iteT ⟨fun σ' H' => ∃ m', m' < (l ++ [0]).length ∧ ∃ gs, m' = gs.length ∧ σ' = [some (.ref d), some (.int n), none] ∧ DealG H' d g gs ∧ But d g H H', fun σ' H' z => z, ?_⟩
        refine ⟨_, rfl, d, _, 0, _, rfl, rfl, .inl (.inl hd2), rfl, .inl ⟨rfl, _, .inl (.inl hg2)⟩, g, _, .int 0, rfl, rfl, hg2, by simp, ?_⟩
        refine ⟨l.length, by simp, l, rfl, rfl, ⟨mm, by rw [upd_ne nn]; exact hd2, ?_, hl', hposl, hm⟩, fun c u nc e => by rw [upd_ne nc.2]; exact b2 c u nc e⟩
        rw [upd_same]
        simp
      · have e2 : decide (V.int y = V.int 0) = false := decide_eq_false fun z => h0 (V.int.inj z)
        show (if decide (V.int y = V.int 0) = true then _ else _)
        rw [e2]
        refine iteF ?_
        -- a digit of the last one
        refine ⟨_, rfl, d, _, 0, _, rfl, rfl, .inl (.inl hd2), rfl, (by show 0 ≤ sizeLine; decide), fun p hp => ?_⟩
        have ap := Deal.new ⟨_, D2⟩ hp
        have hg3 : upd H2 p (.lst []) g = some (.lst (l.map V.int ++ [y].map V.int)) := by rw [upd_ne ap.2.symm]; exact hg2
        have hd3 : upd H2 p (.lst []) d = some (.lst [.ref g, .int mm]) := by rw [upd_ne ap.1.symm]; exact hd2
        refine ⟨g, p, _, rfl, rfl, .inl (.inl hg3), (by rw [← List.map_append]; exact lay_ints _), upd_same, _, rfl, ?_⟩
        have b3 : But d g H (upd H2 p (.lst [])) := b2.trans (But.same (same_new hp))
        generalize upd H2 p (.lst []) = H3 at b3 hd3 hg3 ⊢
        rw [show (!(l.map V.int ++ [y].map V.int).isEmpty) = true by simp]
        refine iteT ?_
        refine ⟨_, rfl, d, _, 0, _, rfl, rfl, .inl (.inl hd3), rfl, .inl ⟨rfl, _, .inl (.inl hg3)⟩, g, _, .int y, rfl, rfl, hg3, by simp, ?_⟩
        have hg4 : upd H3 g (.lst (l.map V.int ++ [y].map V.int).dropLast) g = some (.lst (l.map V.int)) := by
          rw [upd_same]
          simp
        have hd4 : upd H3 g (.lst (l.map V.int ++ [y].map V.int).dropLast) d = some (.lst [.ref g, .int mm]) := by rw [upd_ne nn]; exact hd3
        have b4 : But d g H (upd H3 g (.lst (l.map V.int ++ [y].map V.int).dropLast)) := fun c u nc e => by rw [upd_ne nc.2]; exact b3 c u nc e
        generalize upd H3 g (.lst (l.map V.int ++ [y].map V.int).dropLast) = H4 at b4 hd4 hg4 ⊢
        refine ⟨_, rfl, d, _, 0, _, rfl, rfl, .inl (.inl hd4), rfl, .inl ⟨rfl, _, .inl (.inl hg4)⟩, _, rfl, _, rfl, _, _, rfl, rfl, cd, g, _, _, rfl, rfl, hg4, ?_, ?_⟩
        · rw [List.length_map]
          exact Nat.lt_of_le_of_lt hl' (by decide)
        have hg5 : upd H4 g (.lst (l.map V.int ++ [V.int (y / n)])) g = some (.lst ((l ++ [y / n]).map V.int)) := by
          rw [upd_same, List.map_append]
          rfl
        have hd5 : upd H4 g (.lst (l.map V.int ++ [V.int (y / n)])) d = some (.lst [.ref g, .int mm]) := by rw [upd_ne nn]; exact hd4
        have b5 : But d g H (upd H4 g (.lst (l.map V.int ++ [V.int (y / n)]))) := fun c u nc e => by rw [upd_ne nc.2]; exact b4 c u nc e
        refine ⟨_, rfl, .inl ⟨_, rfl, _, rfl, _, _, rfl, rfl, hn, ?_⟩⟩
        refine k _ _ (Int.emod_nonneg _ (by omega)) (Int.emod_lt_of_pos _ hn) ⟨_, mm, hd5, hg5, by simpa using hl, fun x hx => ?_, hm⟩ b5
        rcases List.mem_append.mp hx with z | z
        · exact hposl x z
        · rw [List.mem_singleton] at z
          subst z
          exact Int.ediv_nonneg hy (by omega)
end

end Tm

namespace Tm
open PySem PySem.Spec PyProof.Rows L2
section
variable {P : Program} {w : World} {K : PySem.W.Frag} {mg : Str → Option Value} {base : Heap}
def spDeal (K : PySem.W.Frag) : Sp := fun vs H Q _ => ∃ (a : Addr) (ns : List Int), vs = [.ref a] ∧ SqL K H a (ns.map V.int) ∧ ∀ (d g : Addr) (H' : Hp), H d = none → H g = none → Same H H' → Deal H' d g → Q (.ref d) H'
theorem ints_cut (ns : List Int) : ∃ cs : List Int, cutV (ns.map V.int) none (some 60) = cs.map V.int ∧ cs.length ≤ 60 := by
  refine ⟨(ns.drop 0).take (HT.sIx ns.length ns.length (some 60) - 0), ?_, ?_⟩
  · unfold cutV
    rw [List.length_map, ← List.map_drop, ← List.map_take]
    rfl
  · rw [List.length_take]
    have e : HT.sIx ns.length ns.length (some (60 : Int)) = min 60 ns.length := HT.sIx_nat _ _ 60
    rw [e]
    omega
theorem loop_pos : 0 ≤ (32452867 : Int) := by decide
theorem sc__law_deal : FnScope ["_law_script", "_law_cell", "_law_cells", "_law_mixed_here"] ["_law_script"] (defScope s__law_deal) := ⟨rfl, rfl, rfl, by decide +kernel, rfl, by decide +kernel, by decide +kernel⟩
theorem ok__law_deal (E : Env K mg w) : Dn P w K mg base CX0 1 (He.ga K "_law_deal") [] (spDeal K) := by
  refine dn_of (ps := ["_law_script"]) E.f__law_deal (fun fd F => ?_) (fun _ _ _ _ _ _ us hl => match us, hl with | [_], _ => rfl)
  refine F.ok sc__law_deal (fun vs H Q E h => ?_) (fun cdv A outer s H vs Q X hr h => ?_)
  · obtain ⟨a, ns, rfl, _⟩ := h
    rfl
  · obtain ⟨a, ns, rfl, hS, k⟩ := h
    refine ⟨_, PSs.nox (pss_cons (ps_par (i := 2) (j := 3) (by rfl) sc__law_deal.nd rfl rfl (by decide) rfl rfl (pa_cons (pe_lc (own := [("_law_cell", 1)]) (by rfl) sc__law_deal.nd (k_piQ K (pe_slice (k_slL K) (pv 0) po_none (po_some pe_int))) (blkOk_by (own := [("_law_cell", 1)]) (N := ["_law_script", "_law_cell", "_law_cells", "_law_mixed_here"]) (sc := defScope s__law_deal) (by decide +kernel)) (fun _ _ _ _ _ => (pg_name (i := 1) sc__law_deal.nd rfl (Or.inl rfl))) (fun _ _ _ _ _ => pts_nil) (fun _ _ _ _ _ => (pe_callB call_abs (by rfl) E.g_abs bt_abs (pa_cons (pv 1) pa_nil)))) (pa_cons pe_int pa_nil)) (by rfl))
      (pss_cons (ps_for PassesOwn.never rfl (k_piQ K (pv 2)) (pg_name (i := 1) sc__law_deal.nd rfl (Or.inl rfl))
      (pss_one (ps_set (i := 3) sc__law_deal.nd rfl (Or.inl rfl) (pe_op op_mod (pe_callTy call_int1 (by rfl) E.g_int bt_int (pa_cons (pe_op op_add (pe_op op_mul (pv 3) pe_int) (pe_op op_mod (pe_callTy call_int1 (by rfl) E.g_int bt_int (pa_cons (pv 1) pa_nil)) pe_int)) pa_nil)) pe_int))))
      (pss_one (ps_ret (pe_lst (pa_cons (k_rev K (pe_lc (own := [("_law_cell", 1)]) (by rfl) sc__law_deal.nd (k_piQ K (pv 2)) (blkOk_by (own := [("_law_cell", 1)]) (N := ["_law_script", "_law_cell", "_law_cells", "_law_mixed_here"]) (sc := defScope s__law_deal) (by decide +kernel)) (fun _ _ _ _ _ => (pg_name (i := 1) sc__law_deal.nd rfl (Or.inl rfl))) (fun _ _ _ _ _ => (pts_one (pt_cmpR op_ge (pv 1) (pe_op op_pow pe_int pe_int) (nomark _)))) (fun _ _ _ _ _ => (pv 1)))) (pa_cons (pv 3) pa_nil))))))), ?_⟩
    dsimp only [tSeq, tPar, tCons]
    rw [tLc_eq]
    obtain ⟨cs, ec, lc⟩ := ints_cut ns
    refine ⟨_, rfl, 60, rfl, a, _, rfl, hS, fun p1 hp1 => ?_⟩
    rw [ec]
    have s1 : Same H (upd H p1 (.lst (cs.map V.int))) := same_new hp1
    have h1 : upd H p1 (.lst (cs.map V.int)) p1 = some (.lst (cs.map V.int)) := upd_same
    generalize upd H p1 (.lst (cs.map V.int)) = H1 at s1 h1 ⊢
    refine lcb_P (ys := (cs.map fun c => if c < 0 then -c else c).map V.int) (.inl (.inl (.inl h1))) (by rw [List.length_map]; exact Nat.lt_of_le_of_lt lc (by decide)) (by simp) (fun i x y hx hy H2 s2 R hR => ?_) (fun D H2 hD s2 e2 => ?_) (fun _ _ _ _ _ hm z => hm _ _ z)
    · rw [List.getElem?_map] at hx hy
      obtain ⟨c, hc, rfl⟩ := Option.map_eq_some_iff.mp hx
      rw [List.getElem?_map, hc] at hy
      obtain rfl := Option.some.inj hy
      exact ⟨rfl, _, rfl, c, rfl, hR H2 (L2.Same.refl _)⟩
    obtain ⟨as, ea⟩ : ∃ as, as = cs.map fun c => if c < 0 then -c else c := ⟨_, rfl⟩
    have pa : ∀ x ∈ as, 0 ≤ x := fun x hx => by
      rw [ea] at hx
      obtain ⟨c, _, rfl⟩ := List.mem_map.mp hx
      split <;> omega
    have la : as.length ≤ 60 := by rw [ea, List.length_map]; exact lc
    rw [← ea] at e2
    have s12 := s1.trans s2
    have nD : H D = none := s1.free hD
    refine ⟨_, _, rfl, ?_⟩
    -- the loop
    rw [tFor_eq]
    refine ⟨_, rfl, frb (xs := as.map V.int) (.inl (.inl (.inl e2))) (fun i σ H3 => H3 = H2 ∧ ∃ (m : Int) (v : Option V), 0 ≤ m ∧ σ = [some (.ref a), v, some (.ref D), some (.int m)]) ⟨rfl, 32452867, none, loop_pos, rfl⟩ (fun i σ H3 _ ⟨e, _⟩ => by subst e; exact stays_same (L2.Same.refl _)) ?_ ?_⟩
    · rintro i y σ H3 hi ⟨rfl, m, v, hm, rfl⟩
      rw [List.getElem?_map] at hi
      obtain ⟨c, hc, rfl⟩ := Option.map_eq_some_iff.mp hi
      refine ⟨_, rfl, _, _, rfl, rfl, .inr ⟨by decide, by decide⟩, _, rfl, .inl ⟨_, rfl, _, _, rfl, rfl, (by show (0 : Int) < 2147483629; decide), _, _, rfl, rfl, .inl ⟨_, rfl, _, _, rfl, rfl, (by show (0 : Int) < 2147483647; decide), ?_⟩⟩⟩
      exact ⟨rfl, _, _, Int.emod_nonneg _ (by decide), rfl⟩
    · rintro σ H3 ⟨rfl, m, v, hm, rfl⟩
      dsimp only [tRet, tLst, tCons, tRevL]
      rw [tLc_eq]
      refine ⟨_, rfl, lcb_S (xs := as.map V.int) (fun y => match y with | .int i => decide (10 ^ 18 ≤ i) | _ => false) id (.inl (.inl (.inl e2))) (by rw [List.length_map]; exact Nat.lt_of_le_of_lt la (by decide)) (fun y hy H4 s4 R S hR hS' => ?_) (fun D2 H4 hD2 s4 e4 => ?_)⟩
      · obtain ⟨c, _, rfl⟩ := List.mem_map.mp hy
        refine ⟨rfl, _, rfl, _, _, rfl, rfl, ⟨by decide, by decide, by decide⟩, _, _, rfl, rfl, _, rfl, ?_⟩
        show (if decide ((10 : Int) ^ 18 ≤ c) = true then _ else _)
        by_cases hc : (10 : Int) ^ 18 ≤ c
        · rw [decide_eq_true hc]
          exact iteT ⟨_, rfl, hR (decide_eq_true hc) H4 (L2.Same.refl _)⟩
        · rw [decide_eq_false hc]
          exact iteF (hS' (decide_eq_false hc) H4 (L2.Same.refl _))
      rw [List.map_id, List.filter_map] at e4
      obtain ⟨gs, eg⟩ : ∃ gs, gs = (as.filter fun c => decide ((10 : Int) ^ 18 ≤ c)).reverse := ⟨_, rfl⟩
      have ge : ((as.filter fun c => decide ((10 : Int) ^ 18 ≤ c)).map V.int).reverse = gs.map V.int := by rw [eg, List.map_reverse]
      have gl : gs.length ≤ 60 := by
        rw [eg, List.length_reverse]
        exact Nat.le_trans (List.length_filter_le _ _) la
      have gp : ∀ x ∈ gs, 0 ≤ x := fun x hx => by
        rw [eg, List.mem_reverse] at hx
        exact pa x (List.mem_filter.mp hx).1
      refine ⟨D2, _, rfl, .inl (.inl e4), fun g hg => ?_⟩
      have s5 : Same H4 (upd H4 g (.lst ((as.filter fun c => decide ((10 : Int) ^ 18 ≤ c)).map V.int).reverse)) := same_new hg
      have h5 : upd H4 g (.lst ((as.filter fun c => decide ((10 : Int) ^ 18 ≤ c)).map V.int).reverse) g = some (.lst (gs.map V.int)) := by rw [upd_same, ge]
      have sH4 := (s12.trans s4)
      have ng : H g = none := sH4.free hg
      refine ⟨_, rfl, (by show 2 ≤ sizeLine; decide), fun d hd => ?_⟩
      have nd : H d = none := (sH4.trans s5).free hd
      refine k d g _ nd ng ((sH4.trans s5).trans (same_new hd)) ⟨gs, m, upd_same, ?_, gl, gp, hm⟩
      rw [upd_ne (ne_of_none h5 hd)]
      exact h5
end

end Tm

namespace Tm
open PySem PySem.Spec PyProof.Rows L2
section
variable {P : Program} {w : World} {K : PySem.W.Frag} {mg : Str → Option Value} {base : Heap}
/-- one of some things: any of them -/
def spPick (K : PySem.W.Frag) : Sp := fun vs H Q _ => ∃ (d g a : Addr) (xs : List V), vs = [.ref d, .ref a] ∧ Deal H d g ∧ Sq K H a xs ∧ Apart d g a ∧ xs ≠ [] ∧ xs.length ≤ 1000 ∧ ∀ (i : Nat) (v : V) (H' : Hp), xs[i]? = some v → Deal H' d g → But d g H H' → Q v H'
theorem sq_but {d g a : Addr} {H H' : Hp} {xs : List V} (ap : Apart d g a) (b : But d g H H') (h : Sq K H a xs) : Sq K H' a xs := by
  rcases h with ((h | ⟨o, h⟩) | h) | ((h | ⟨o, h⟩) | h)
  · exact .inl (.inl (.inl (b _ _ ap h)))
  · exact .inl (.inl (.inr ⟨o, b _ _ ap h⟩))
  · exact .inl (.inr h)
  · exact .inr (.inl (.inl (b _ _ ap h)))
  · exact .inr (.inl (.inr ⟨o, b _ _ ap h⟩))
  · exact .inr (.inr h)
theorem sc__law_pick : FnScope ["_law_deal_here", "_law_some"] ["_law_deal_here", "_law_some"] (defScope s__law_pick) := ⟨rfl, rfl, rfl, by decide +kernel, rfl, by decide +kernel, by decide +kernel⟩
theorem ok__law_pick (E : Env K mg w) : Dn P w K mg base CX0 2 (He.ga K "_law_pick") [] (spPick K) := by
  refine dn_of (ps := ["_law_deal_here", "_law_some"]) E.f__law_pick (fun fd F => ?_) (fun _ _ _ _ _ _ us hl => match us, hl with | [_, _], _ => rfl)
  refine F.ok sc__law_pick (fun vs H Q E h => ?_) (fun cdv A outer s H vs Q X hr h => ?_)
  · obtain ⟨d, g, a, xs, rfl, _⟩ := h
    rfl
  · obtain ⟨d, g, a, xs, rfl, D0, hq, ap, hne, hlen, k⟩ := h
    refine ⟨_, PSs.nox (pss_one (ps_ret (pe_ix (k_ix K) (pv 1) (pe_c (ok__law_draw (K := K) E) (hr.mono (by decide)) E.g__law_draw pass0 (pa_cons (pv 0) (pa_cons (pe_callB (k_lenQ K) (by rfl) E.g_len bt_len (pa_cons (pv 1) pa_nil)) pa_nil))) (fun _ _ => rfl)))), ?_⟩
    have h0 : 0 < xs.length := List.length_pos_iff.mpr hne
    refine ⟨_, rfl, _, rfl, _, rfl, a, xs, rfl, hq, d, g, _, rfl, D0, by omega, by omega, fun v H1 v0 v1 D1 b1 => ?_⟩
    have hq1 := sq_but ap b1 hq
    obtain ⟨i, rfl⟩ : ∃ i : Nat, v = (i : Int) := ⟨v.toNat, by omega⟩
    have hi : i < xs.length := by omega
    have hx : xs[i]? = some xs[i] := List.getElem?_eq_getElem hi
    rcases hq1 with z | z
    · exact .inl ⟨a, xs, _, _, rfl, rfl, z, atI_nat hx, k i _ H1 hx D1 b1⟩
    · exact .inr (.inl ⟨a, xs, _, _, rfl, rfl, z, atI_nat hx, k i _ H1 hx D1 b1⟩)
end

end Tm

namespace Tm
open PySem PySem.Spec PyProof.Rows L2
section
variable {P : Program} {w : World} {K : PySem.W.Frag} {mg : Str → Option Value} {base : Heap}
/-- the things in some order -/
def spMixed (K : PySem.W.Frag) : Sp := fun vs H Q _ => ∃ (d g a : Addr) (xs : List V), vs = [.ref d, .ref a] ∧ Deal H d g ∧ Sq K H a xs ∧ xs.all layV = true ∧ xs.length ≤ 1000 ∧
  ∀ (p : Addr) (ys : List V) (H' : Hp), ys.Perm xs → H p = none → H' p = some (.lst ys) → Deal H' d g → But d g H H' → Q (.ref p) H'
theorem perm_pop {α : Type} (l : List α) {i : Nat} (h : i < l.length) : (l[i] :: l.eraseIdx i).Perm l := by
  induction l generalizing i with
  | nil => simp at h
  | cons x l ih =>
    cases i with
    | zero => simp
    | succ i =>
      simp only [List.getElem_cons_succ, List.eraseIdx_cons_succ]
      exact (List.Perm.swap _ _ _).trans (List.Perm.cons _ (ih (by simpa using h)))
theorem all_perm {xs ys : List V} (h : ys.Perm xs) (ha : xs.all layV = true) : ys.all layV = true := by
  rw [List.all_eq_true] at ha ⊢
  exact fun y hy => ha y (h.mem_iff.mp hy)
theorem pop_ix {n : Nat} {i : Nat} (h : i < n) : seqIndex? (i : Int) n = some i := by
  have h0 : ¬ ((i : Int) < 0) := by omega
  unfold seqIndex?
  simp only [if_neg h0]
  rw [if_pos (by simp; omega), Int.toNat_natCast]
theorem sc__law_mixed : FnScope ["_law_deal_here", "_law_some", "_law_others", "_law_found"] ["_law_deal_here", "_law_some"] (defScope s__law_mixed) := ⟨rfl, rfl, rfl, by decide +kernel, rfl, by decide +kernel, by decide +kernel⟩
theorem ok__law_mixed (E : Env K mg w) : Dn P w K mg base CX0 2 (He.ga K "_law_mixed") [] (spMixed K) := by
  refine dn_of (ps := ["_law_deal_here", "_law_some"]) E.f__law_mixed (fun fd F => ?_) (fun _ _ _ _ _ _ us hl => match us, hl with | [_, _], _ => rfl)
  refine F.ok sc__law_mixed (fun vs H Q E h => ?_) (fun cdv A outer s H vs Q X hr h => ?_)
  · obtain ⟨d, g, a, xs, rfl, _⟩ := h
    rfl
  · obtain ⟨d, g, a, xs, rfl, D0, hq, hlay, hlen, k⟩ := h
    have hu := hr.units
    refine ⟨_, PSs.nox (pss_cons (ps_par (i := 2) (j := 3) (by rfl) sc__law_mixed.nd rfl rfl (by decide) rfl rfl (pa_cons (pe_callTy (k_list K) (by rfl) E.g_list bt_list (pa_cons (pv 1) pa_nil)) (pa_cons (pe_lst pa_nil) pa_nil)) (by rfl))
      (pss_cons (ps_while PassesOwn.never (pt_cmpR (op_neNil K hu) (pv 2) (pe_lst pa_nil) (nomark _))
      (pss_one (ps_expr (k_bm K PySem.F.plainAttrs_list PySem.F.slot_list_append PySem.F.type_list_append mt_append (pv 3) (pa_cons (k_bm K PySem.F.plainAttrs_list PySem.F.slot_list_pop PySem.F.type_list_pop mt_popAt (pv 2) (pa_cons (pe_c (ok__law_draw (K := K) E) (hr.mono (by decide)) E.g__law_draw pass0 (pa_cons (pv 0) (pa_cons (pe_callB (k_lenQ K) (by rfl) E.g_len bt_len (pa_cons (pv 2) pa_nil)) pa_nil))) pa_nil)) pa_nil)))))
      (pss_one (ps_ret (pv 3))))), ?_⟩
    refine ⟨_, rfl, a, xs, rfl, hq, fun po hpo => ⟨by show 0 ≤ sizeLine; decide, fun pf hpf => ⟨_, _, rfl, ?_⟩⟩⟩
    have apo := D0.new hpo
    have s1 := same_new (o := .lst xs) hpo
    have apf := (D0.same s1).new hpf
    have npf : H pf = none := s1.free hpf
    have hne : po ≠ pf := ne_of_none upd_same hpf
    refine ⟨fun m σ H' => ∃ os fs, m = os.length ∧ σ = [some (.ref d), some (.ref a), some (.ref po), some (.ref pf)] ∧ H' po = some (.lst os) ∧ H' pf = some (.lst fs) ∧ (os ++ fs).Perm xs ∧ Deal H' d g ∧ But d g H H',
      ⟨_, xs, [], rfl, rfl, by rw [upd_ne hne, upd_same], upd_same, by simp, (D0.same s1).same (same_new hpf), But.same (s1.trans (same_new hpf))⟩, ?_⟩
    rintro m σ H1 ⟨os, fs, rfl, rfl, ho, hf, hp, D1, b1⟩
    have lay_o : os.all layV = true := by
      have := all_perm hp hlay
      rw [List.all_append, Bool.and_eq_true] at this
      exact this.1
    have ll : os.length + fs.length = xs.length := by
      have := hp.length_eq
      rwa [List.length_append] at this
    refine ⟨_, rfl, (by show 0 ≤ sizeLine; decide), fun pn hpn => ?_⟩
    have s2 := same_new (o := .lst []) hpn
    refine ⟨po, pn, os, rfl, rfl, .inl (.inl (s2 _ _ ho)), lay_o, upd_same, _, rfl, ?_⟩
    have ho2 := s2 _ _ ho
    have hf2 := s2 _ _ hf
    have D2 := D1.same s2
    have b2 : But d g H _ := b1.trans (But.same s2)
    generalize upd H1 pn (.lst []) = H2 at ho2 hf2 D2 b2 ⊢
    cases hos : os with
    | nil =>
      subst hos
      refine iteF ?_
      refine ⟨_, rfl, k pf fs H2 (by simpa using hp) npf hf2 D2 b2⟩
    | cons o os' =>
      rw [← hos]
      have e1 : (!os.isEmpty) = true := by rw [hos]; rfl
      rw [e1]
      have hpos : 0 < os.length := by rw [hos]; simp
      refine iteT ⟨fun σ' H' => ∃ m', m' < os.length ∧ ∃ os fs, m' = os.length ∧ σ' = [some (.ref d), some (.ref a), some (.ref po), some (.ref pf)] ∧ H' po = some (.lst os) ∧ H' pf = some (.lst fs) ∧ (os ++ fs).Perm xs ∧ Deal H' d g ∧ But d g H H', fun σ' H' z => z, ?_⟩
      refine ⟨_, rfl, .inl ⟨rfl, _, .inl (.inl hf2)⟩, _, rfl, .inl ⟨rfl, _, .inl (.inl ho2)⟩, _, rfl, _, rfl, po, os, rfl, .inl (.inl (.inl ho2)), d, g, _, rfl, D2, by omega, by omega, fun v H3 v0 v1 D3 b3 => ?_⟩
      have ho3 := b3 _ _ apo ho2
      have hf3 := b3 _ _ apf hf2
      obtain ⟨i, rfl⟩ : ∃ i : Nat, v = (i : Int) := ⟨v.toNat, by omega⟩
      have hi : i < os.length := by omega
      have hx : os[i]? = some os[i] := List.getElem?_eq_getElem hi
      refine ⟨po, os, _, i, os[i], rfl, rfl, ho3, by omega, by omega, pop_ix hi, hx, ?_⟩
      have hf4 : upd H3 po (.lst (os.eraseIdx i)) pf = some (.lst fs) := by rw [upd_ne hne.symm]; exact hf3
      refine ⟨pf, fs, _, rfl, rfl, hf4, by exact Nat.lt_of_le_of_lt (by omega : fs.length ≤ 1000) (by decide), ?_⟩
      have el : (os.eraseIdx i).length = os.length - 1 := by rw [List.length_eraseIdx]; simp [hi]
      refine ⟨(os.eraseIdx i).length, by omega, os.eraseIdx i, fs ++ [os[i]], rfl, rfl, by rw [upd_ne hne, upd_same], upd_same, ?_, (D3.put apo).put apf, ?_⟩
      · refine List.Perm.trans ?_ hp
        have h1 : (os.eraseIdx i ++ (fs ++ [os[i]])).Perm ((os.eraseIdx i ++ [os[i]]) ++ fs) := by
          rw [List.append_assoc]
          exact List.Perm.append_left _ List.perm_append_comm
        refine h1.trans (List.Perm.append_right _ ?_)
        exact List.perm_append_comm.trans (perm_pop os hi)
      · intro c u nc e
        have nc1 : c ≠ pf := ne_of_none e npf
        have nc2 : c ≠ po := ne_of_none e hpo
        rw [upd_ne nc1, upd_ne nc2]
        exact (b2.trans b3) c u nc e
end

end Tm

namespace Tm
open PySem PySem.Spec PyProof.Rows L2
section
variable {P : Program} {w : World} {K : PySem.W.Frag} {mg : Str → Option Value} {base : Heap}
def spNames : Sp := fun vs H Q _ => ∃ (d g : Addr) (m : Int), vs = [.ref d, .int m] ∧ Deal H d g ∧ 0 ≤ m ∧
  ∀ (p : Addr) (ns : List Str) (H' : Hp), (∀ n ∈ ns, n ∈ namesA) → ns.Nodup → ns.length = min m.toNat 10 → H p = none → H' p = some (.lst (ns.map V.str)) → Deal H' d g → But d g H H' → Q (.ref p) H'
theorem sc__law_names : FnScope ["_law_deal_here", "_law_many"] ["_law_deal_here", "_law_many"] (defScope s__law_names) := ⟨rfl, rfl, rfl, by decide +kernel, rfl, by decide +kernel, by decide +kernel⟩
theorem ok__law_names (E : Env K mg w) : Dn P w K mg base CX0 3 (He.ga K "_law_names") [] spNames := by
  refine dn_of (ps := ["_law_deal_here", "_law_many"]) E.f__law_names (fun fd F => ?_) (fun _ _ _ _ _ _ us hl => match us, hl with | [_, _], _ => rfl)
  refine F.ok sc__law_names (fun vs H Q E h => ?_) (fun cdv A outer s H vs Q X hr h => ?_)
  · obtain ⟨d, g, m, rfl, _⟩ := h
    rfl
  · obtain ⟨d, g, m, rfl, D0, hm, k⟩ := h
    refine ⟨_, PSs.nox (pss_one (ps_ret (pe_slice (k_slL K) (pe_c (ok__law_mixed (K := K) E) (hr.mono (by decide)) E.g__law_mixed pass0 (pa_cons (pv 0) (pa_cons (pe_lst (pa_cons pe_str (pa_cons pe_str (pa_cons pe_str (pa_cons pe_str (pa_cons pe_str (pa_cons pe_str (pa_cons pe_str (pa_cons pe_str (pa_cons pe_str (pa_cons pe_str pa_nil))))))))))) pa_nil))) po_none (po_some (pv 1))))), ?_⟩
    refine ⟨_, rfl, by show 10 ≤ sizeLine; decide, fun l hl => ?_⟩
    have s1 := same_new (o := .lst (namesA.map V.str)) hl
    refine ⟨d, g, l, namesA.map V.str, rfl, D0.same s1, .inl (.inl (.inl upd_same)), namesA_lay, by decide, fun p ys H1 hp hn e1 D1 b1 => ?_⟩
    obtain ⟨ms, rfl, hms⟩ := strs_perm hp
    refine ⟨_, rfl, m, rfl, p, _, rfl, .inl (.inl e1), fun q hq => ?_⟩
    rw [cutV_take _ _ hm, ← List.map_take]
    have s2 := same_new (o := .lst ((ms.take m.toNat).map V.str)) hq
    have bb : But d g H H1 := (But.same s1).trans b1
    refine k q (ms.take m.toNat) _ (fun n hn' => hms.mem_iff.mp (List.mem_of_mem_take hn')) (List.Nodup.sublist (List.take_sublist _ _) (hms.nodup_iff.mpr namesA_nodup)) ?_ ?_ upd_same (D1.same s2) (bb.trans (But.same s2))
    · rw [List.length_take, hms.length_eq]
      rfl
    · cases e : H q with
      | none => rfl
      | some o =>
        have := bb q o (D1.new hq) e
        rw [hq] at this
        cases this
end

end Tm

namespace Tm
open PySem PySem.Spec PyProof.Rows L2
section
variable {P : Program} {w : World} {K : PySem.W.Frag} {mg : Str → Option Value} {base : Heap}
def spKind : Sp := fun vs H Q _ => ∃ (d g : Addr) (z : Str) (most : Int), vs = [.ref d, .str z, .int most] ∧ Deal H d g ∧ 0 < most ∧ most < 2 ^ 64 ∧
  ∀ (k : Kd) (p : Addr) (H' : Hp), KdIn z most k → H p = none → H' p = some (.tup (told5 k)) → Deal H' d g → But d g H H' → Q (.ref p) H'
theorem but_free {d g q : Addr} {H H1 : Hp} (b : But d g H H1) (D : Deal H1 d g) (hq : H1 q = none) : H q = none := by
  cases e : H q with
  | none => rfl
  | some o =>
    have := b q o (D.new hq) e
    rw [hq] at this
    cases this
theorem sc__law_kind : FnScope ["_law_deal_here", "_law_word", "_law_most", "_law_form", "_law_many"] ["_law_deal_here", "_law_word", "_law_most"] (defScope s__law_kind) := ⟨rfl, rfl, rfl, by decide +kernel, rfl, by decide +kernel, by decide +kernel⟩
theorem ok__law_kind (E : Env K mg w) : Dn P w K mg base CX0 3 (He.ga K "_law_kind") [] spKind := by
  refine dn_of (ps := ["_law_deal_here", "_law_word", "_law_most"]) E.f__law_kind (fun fd F => ?_) (fun _ _ _ _ _ _ us hl => match us, hl with | [_, _, _], _ => rfl)
  refine F.ok sc__law_kind (fun vs H Q E h => ?_) (fun cdv A outer s H vs Q X hr h => ?_)
  · obtain ⟨d, g, z, most, rfl, _⟩ := h
    rfl
  · obtain ⟨d, g, z, most, rfl, D0, hm0, hm1, k⟩ := h
    refine ⟨_, PSs.nox (pss_cons (ps_par (i := 3) (j := 4) (by rfl) sc__law_kind.nd rfl rfl (by decide) rfl rfl (pa_cons (pe_c (ok__law_pick (K := K) E) (hr.mono (by decide)) E.g__law_pick pass0 (pa_cons (pv 0) (pa_cons (pe_lst (pa_cons pe_str (pa_cons pe_str (pa_cons pe_str pa_nil)))) pa_nil))) (pa_cons (pe_c (ok__law_pick (K := K) E) (hr.mono (by decide)) E.g__law_pick pass0 (pa_cons (pv 0) (pa_cons (pe_lst (pa_cons pe_int (pa_cons pe_int (pa_cons pe_int (pa_cons pe_int (pa_cons pe_non pa_nil)))))) pa_nil))) pa_nil)) (by rfl))
      (pss_one (ps_ret (pe_tup (pa_cons (pv 3) (pa_cons (pv 1) (pa_cons (pe_op op_add pe_int (pe_c (ok__law_draw (K := K) E) (hr.mono (by decide)) E.g__law_draw pass0 (pa_cons (pv 0) (pa_cons (pv 2) pa_nil)))) (pa_cons (pe_ifExp (pt_cmpR op_eq (pv 3) pe_str (nomark _)) (pe_op op_add pe_int (pe_c (ok__law_draw (K := K) E) (hr.mono (by decide)) E.g__law_draw pass0 (pa_cons (pv 0) (pa_cons (pv 2) pa_nil)))) pe_int) (pa_cons (pv 4) pa_nil))))))))), ?_⟩
    refine ⟨_, rfl, by show 3 ≤ sizeLine; decide, fun l1 hl1 => ?_⟩
    have s1 := same_new (o := .lst [V.str "still", V.str "anew", V.str "lift"]) hl1
    have n1 := D0.new hl1
    refine ⟨d, g, l1, _, rfl, D0.same s1, .inl (.inl (.inl upd_same)), n1, by simp, by decide, fun i1 f1 H1 hf1 D1 b1 => ?_⟩
    obtain ⟨fm, rfl⟩ : ∃ fm : Fm, f1 = V.str fm.word := by
      match i1, hf1 with
      | 0, h => exact ⟨.still, (Option.some.inj h).symm⟩
      | 1, h => exact ⟨.anew, (Option.some.inj h).symm⟩
      | 2, h => exact ⟨.lift, (Option.some.inj h).symm⟩
      | j + 3, h => simp at h
    refine ⟨_, rfl, by show 5 ≤ sizeLine; decide, fun l2 hl2 => ?_⟩
    have s2 := same_new (o := .lst [V.int 1, .int 1, .int 2, .int 3, .non]) hl2
    have n2 := D1.new hl2
    refine ⟨d, g, l2, _, rfl, D1.same s2, .inl (.inl (.inl upd_same)), n2, by simp, by decide, fun i2 f2 H2 hf2 D2 b2 => ?_⟩
    obtain ⟨tm, rfl, ht⟩ : ∃ tm : Option Int, f2 = tv tm ∧ ∀ c, tm = some c → 1 ≤ c ∧ c ≤ 3 := by
      match i2, hf2 with
      | 0, h => exact ⟨some 1, (Option.some.inj h).symm, fun c e => by cases e; decide⟩
      | 1, h => exact ⟨some 1, (Option.some.inj h).symm, fun c e => by cases e; decide⟩
      | 2, h => exact ⟨some 2, (Option.some.inj h).symm, fun c e => by cases e; decide⟩
      | 3, h => exact ⟨some 3, (Option.some.inj h).symm, fun c e => by cases e; decide⟩
      | 4, h => exact ⟨none, (Option.some.inj h).symm, fun c e => by cases e⟩
      | j + 5, h => simp at h
    refine ⟨_, _, rfl, ?_⟩
    have bb2 : But d g H H2 := (But.same s1).trans (b1.trans ((But.same s2).trans b2))
    refine ⟨_, rfl, _, rfl, _, rfl, _, rfl, d, g, most, rfl, D2, hm0, hm1, fun v3 H3 v30 v31 D3 b3 => ⟨_, _, rfl, rfl, ?_⟩⟩
    refine via (fun Q' => ∀ (b : Int) H4, (fm = .lift → 1 ≤ b) → b ≤ most → (fm ≠ .lift → b = 0) → Deal H4 d g → But d g H H4 → Q' (.int b) H4) (fun Q' hQ => ?_) fun b H4 c1 c2 c3 D4 b4 => ?_
    · refine ⟨_, rfl, rfl, _, rfl, ?_⟩
      by_cases hf : fm = .lift
      · show (if decide (V.str fm.word = V.str Fm.lift.word) = true then _ else _)
        rw [hf, decide_eq_true rfl]
        refine iteT ⟨_, rfl, _, rfl, d, g, most, rfl, D3, hm0, hm1, fun v4 H4 v40 v41 D4 b4 => ⟨_, _, rfl, rfl, hQ _ H4 (fun _ => by omega) (by omega) (fun z => absurd hf z) D4 (bb2.trans (b3.trans b4))⟩⟩
      · show (if decide (V.str fm.word = V.str Fm.lift.word) = true then _ else _)
        rw [decide_eq_false (fm_ne hf)]
        exact iteF (hQ 0 H3 (fun z => absurd z hf) (by omega) (fun _ => rfl) D3 (bb2.trans b3))
    · refine ⟨_, rfl, by show 5 ≤ sizeLine; decide, fun q hq => ?_⟩
      have s5 := same_new (o := .tup [V.str fm.word, .str z, .int (1 + v3), .int b, tv tm]) hq
      exact k ⟨fm, z, 1 + v3, b, tm⟩ q _ ⟨rfl, by show 1 ≤ 1 + v3; omega, by show 1 + v3 ≤ most; omega, c1, c2, c3, ht⟩ (but_free b4 D4 hq) upd_same (D4.same s5) (b4.trans (But.same s5))
end

end Tm

namespace Tm
open PySem PySem.Spec PyProof.Rows L2
section
variable {P : Program} {w : World} {K : PySem.W.Frag} {mg : Str → Option Value} {base : Heap}
def spKindMade (K : PySem.W.Frag) : Sp := fun vs H Q _ => ∃ (p : Addr) (k : Kd), vs = [.ref p] ∧ SqT K H p (told5 k) ∧ KdOk k ∧ ∀ q H', H q = none → Same H H' → KindAt K H' q k → Q (.ref q) H'
theorem sc__law_kind_made : FnScope ["_law_one"] ["_law_one"] (defScope s__law_kind_made) := ⟨rfl, rfl, rfl, by decide +kernel, rfl, by decide +kernel, by decide +kernel⟩
theorem ok__law_kind_made (E : Env K mg w) : Dn P w K mg base CX0 6 (He.ga K "_law_kind_made") [] (spKindMade K) := by
  refine dn_of (ps := ["_law_one"]) E.f__law_kind_made (fun fd F => ?_) (fun _ _ _ _ _ _ us hl => match us, hl with | [_], _ => rfl)
  refine F.ok sc__law_kind_made (fun vs H Q E h => ?_) (fun cdv A outer s H vs Q X hr h => ?_)
  · obtain ⟨p, k, rfl, _⟩ := h
    rfl
  · obtain ⟨p, ⟨fm, nm, a, b, tm⟩, rfl, hS, ok, k⟩ := h
    refine ⟨_, PSs.nox (pss_cons (ps_if (pt_cmpR op_eq (pe_ix (k_ixT K) (pv 0) pe_int (fun _ _ => rfl)) pe_str (nomark _)) (pss_one (ps_ret (pe_mk E.mk_Still (Still_init3 (K := K) E) (hr.mono (by decide)) E.g_Still pass0 (pa_cons (pe_ix (k_ixT K) (pv 0) pe_int (fun _ _ => rfl)) (pa_cons (pe_ix (k_ixT K) (pv 0) pe_int (fun _ _ => rfl)) (pa_cons (pe_ix (k_ixT K) (pv 0) pe_int (fun _ _ => rfl)) pa_nil)))))) pss_nil)
      (pss_cons (ps_if (pt_cmpR op_eq (pe_ix (k_ixT K) (pv 0) pe_int (fun _ _ => rfl)) pe_str (nomark _)) (pss_one (ps_ret (pe_mk E.mk_Anew (Anew_init3 (K := K) E) (hr.mono (by decide)) E.g_Anew pass0 (pa_cons (pe_ix (k_ixT K) (pv 0) pe_int (fun _ _ => rfl)) (pa_cons (pe_ix (k_ixT K) (pv 0) pe_int (fun _ _ => rfl)) (pa_cons (pe_ix (k_ixT K) (pv 0) pe_int (fun _ _ => rfl)) pa_nil)))))) pss_nil)
      (pss_one (ps_ret (pe_mk E.mk_Lift (Lift_init4 (K := K) E) (hr.mono (by decide)) E.g_Lift pass0 (pa_cons (pe_ix (k_ixT K) (pv 0) pe_int (fun _ _ => rfl)) (pa_cons (pe_ix (k_ixT K) (pv 0) pe_int (fun _ _ => rfl)) (pa_cons (pe_ix (k_ixT K) (pv 0) pe_int (fun _ _ => rfl)) (pa_cons (pe_ix (k_ixT K) (pv 0) pe_int (fun _ _ => rfl)) pa_nil))))))))), ?_⟩
    have hn := ok.nm
    have ha := ok.a0
    have ht : ∀ c, tm = some c → 1 ≤ c := fun c h => (ok.t0 c h).1
    have hb := ok.bn
    have hbl := ok.bl
    dsimp only at hn ha hb hbl
    have a0 : atI (told5 ⟨fm, nm, a, b, tm⟩) 0 = some (V.str fm.word) := rfl
    have a1 : atI (told5 ⟨fm, nm, a, b, tm⟩) 1 = some (V.str nm) := rfl
    have a2 : atI (told5 ⟨fm, nm, a, b, tm⟩) 2 = some (V.int a) := rfl
    have a3 : atI (told5 ⟨fm, nm, a, b, tm⟩) 3 = some (V.int b) := rfl
    have a4 : atI (told5 ⟨fm, nm, a, b, tm⟩) 4 = some (tv tm) := rfl
    refine ⟨_, rfl, p, _, 0, _, rfl, rfl, hS, a0, rfl, _, rfl, ?_⟩
    cases fm with
    | still =>
      obtain rfl : b = 0 := hb (by decide)
      show (if decide (V.str Fm.still.word = V.str Fm.still.word) = true then _ else _)
      rw [decide_eq_true rfl]
      refine iteT ⟨_, rfl, p, _, 1, _, rfl, rfl, hS, a1, _, rfl, p, _, 2, _, rfl, rfl, hS, a2, _, rfl, p, _, 4, _, rfl, rfl, hS, a4, ?_⟩
      exact mk_still hn ha ht fun q H' hq s' ka => k q H' hq s' ka
    | anew =>
      obtain rfl : b = 0 := hb (by decide)
      show (if decide (V.str Fm.anew.word = V.str Fm.still.word) = true then _ else _)
      rw [decide_eq_false (fm_ne (by decide))]
      refine iteF ⟨_, rfl, p, _, 0, _, rfl, rfl, hS, a0, rfl, _, rfl, ?_⟩
      show (if decide (V.str Fm.anew.word = V.str Fm.anew.word) = true then _ else _)
      rw [decide_eq_true rfl]
      refine iteT ⟨_, rfl, p, _, 1, _, rfl, rfl, hS, a1, _, rfl, p, _, 2, _, rfl, rfl, hS, a2, _, rfl, p, _, 4, _, rfl, rfl, hS, a4, ?_⟩
      exact mk_anew hn ha ht fun q H' hq s' ka => k q H' hq s' ka
    | lift =>
      show (if decide (V.str Fm.lift.word = V.str Fm.still.word) = true then _ else _)
      rw [decide_eq_false (fm_ne (by decide))]
      refine iteF ⟨_, rfl, p, _, 0, _, rfl, rfl, hS, a0, rfl, _, rfl, ?_⟩
      show (if decide (V.str Fm.lift.word = V.str Fm.anew.word) = true then _ else _)
      rw [decide_eq_false (fm_ne (by decide))]
      refine iteF ⟨_, rfl, p, _, 1, _, rfl, rfl, hS, a1, _, rfl, p, _, 2, _, rfl, rfl, hS, a2, _, rfl, p, _, 3, _, rfl, rfl, hS, a3, _, rfl, p, _, 4, _, rfl, rfl, hS, a4, ?_⟩
      exact mk_lift hn ha (hbl rfl) ht fun q H' hq s' ka => k q H' hq s' ka
end

end Tm

namespace Tm
open PySem PySem.Spec PyProof.Rows L2
section
variable {P : Program} {w : World} {K : PySem.W.Frag} {mg : Str → Option Value} {base : Heap}
def spKindText (K : PySem.W.Frag) : Sp := fun vs H Q _ => ∃ (p : Addr) (k : Kd), vs = [.ref p] ∧ SqT K H p (told5 k) ∧ KdOk k ∧ ∀ H', Same H H' → Q (.str (kindS k)) H'
theorem sc__law_kind_text : FnScope ["_law_one", "_law_words"] ["_law_one"] (defScope s__law_kind_text) := ⟨rfl, rfl, rfl, by decide +kernel, rfl, by decide +kernel, by decide +kernel⟩
theorem ok__law_kind_text (E : Env K mg w) : Dn P w K mg base CX0 1 (He.ga K "_law_kind_text") [] (spKindText K) := by
  refine dn_of (ps := ["_law_one"]) E.f__law_kind_text (fun fd F => ?_) (fun _ _ _ _ _ _ us hl => match us, hl with | [_], _ => rfl)
  refine F.ok sc__law_kind_text (fun vs H Q E h => ?_) (fun cdv A outer s H vs Q X hr h => ?_)
  · obtain ⟨p, k, rfl, _⟩ := h
    rfl
  · obtain ⟨p, k, rfl, hS, ok, q⟩ := h
    refine ⟨_, PSs.nox (pss_cons (ps_set (i := 1) sc__law_kind_text.nd rfl (Or.inl rfl) (pe_op op_cat (pe_lst (pa_cons (pe_ix (k_ixT K) (pv 0) pe_int (fun _ _ => rfl)) (pa_cons (pe_ix (k_ixT K) (pv 0) pe_int (fun _ _ => rfl)) (pa_cons (pe_callTy call_str_int (by rfl) E.g_str bt_str (pa_cons (pe_ix (k_ixT K) (pv 0) pe_int (fun _ _ => rfl)) pa_nil)) pa_nil)))) (pe_ifExp (pt_cmpR op_eq (pe_ix (k_ixT K) (pv 0) pe_int (fun _ _ => rfl)) pe_str (nomark _)) (pe_lst (pa_cons (pe_callTy call_str_int (by rfl) E.g_str bt_str (pa_cons (pe_ix (k_ixT K) (pv 0) pe_int (fun _ _ => rfl)) pa_nil)) pa_nil)) (pe_lst pa_nil))))
      (pss_one (ps_ret (k_join K pe_str (pe_op op_cat (pv 1) (pe_lst (pa_cons (pe_ifExp (pt_cmpR op_isN (pe_ix (k_ixT K) (pv 0) pe_int (fun _ _ => rfl)) pe_non (nomark _)) pe_str (pe_callTy call_str_int (by rfl) E.g_str bt_str (pa_cons (pe_ix (k_ixT K) (pv 0) pe_int (fun _ _ => rfl)) pa_nil))) pa_nil))))))), ?_⟩
    have a0 : atI (told5 k) 0 = some (V.str k.fm.word) := rfl
    have a1 : atI (told5 k) 1 = some (V.str k.name) := rfl
    have a2 : atI (told5 k) 2 = some (V.int k.a) := rfl
    have a3 : atI (told5 k) 3 = some (V.int k.b) := rfl
    have a4 : atI (told5 k) 4 = some (tv k.times) := rfl
    have la := log_small (n := k.a) (by have := ok.a0; omega) ok.a1
    refine ⟨_, rfl, p, _, 0, _, rfl, rfl, hS, a0, _, rfl, p, _, 1, _, rfl, rfl, hS, a1, _, rfl, p, _, 2, _, rfl, rfl, hS, a2, k.a, rfl, la, (by show 3 ≤ sizeLine; decide), fun l1 hl1 => ?_⟩
    have s1 := same_new (o := .lst [V.str k.fm.word, .str k.name, .str (numS k.a)]) hl1
    have e1 : upd H l1 (.lst [V.str k.fm.word, .str k.name, .str (numS k.a)]) l1 = some (.lst [V.str k.fm.word, .str k.name, .str (numS k.a)]) := upd_same
    show tIf _ _ _ _ (upd H l1 (.lst [V.str k.fm.word, .str k.name, .str (numS k.a)])) _
    generalize upd H l1 (.lst [V.str k.fm.word, .str k.name, .str (numS k.a)]) = H1 at s1 e1 ⊢
    have hS1 := same_sqT s1 hS
    refine via (fun Q' => ∀ l2 H2, Same H1 H2 → H2 l2 = some (.lst ((if k.fm = .lift then [numS k.b] else []).map V.str)) → Q' (.ref l2) H2) (fun Q' hQ => ?_) fun l2 H2 s2 e2 => ?_
    · refine ⟨_, rfl, p, _, 0, _, rfl, rfl, hS1, a0, rfl, _, rfl, ?_⟩
      by_cases hf : k.fm = .lift
      · show (if decide (V.str k.fm.word = V.str Fm.lift.word) = true then _ else _)
        rw [hf, decide_eq_true rfl]
        have lb := log_small (n := k.b) (by have := ok.bl hf; omega) ok.b1
        refine iteT ⟨_, rfl, p, _, 3, _, rfl, rfl, hS1, a3, k.b, rfl, lb, (by show 1 ≤ sizeLine; decide), fun l2 hl2 => hQ l2 _ (same_new hl2) ?_⟩
        rw [if_pos hf]
        exact upd_same
      · show (if decide (V.str k.fm.word = V.str Fm.lift.word) = true then _ else _)
        rw [decide_eq_false (fm_ne hf)]
        refine iteF ⟨by show 0 ≤ sizeLine; decide, fun l2 hl2 => hQ l2 _ (same_new hl2) ?_⟩
        rw [if_neg hf]
        exact upd_same
    · refine ⟨l1, l2, _, _, rfl, rfl, s2 _ _ e1, e2, ?_, fun l3 hl3 => ?_⟩
      · rw [sizeLine_eq]
        split <;> simp
      have s3 := same_new (o := .lst ([V.str k.fm.word, .str k.name, .str (numS k.a)] ++ (if k.fm = .lift then [numS k.b] else []).map V.str)) hl3
      have e3 : upd H2 l3 (.lst ([V.str k.fm.word, .str k.name, .str (numS k.a)] ++ (if k.fm = .lift then [numS k.b] else []).map V.str)) l3 = _ := upd_same
      generalize upd H2 l3 (.lst ([V.str k.fm.word, .str k.name, .str (numS k.a)] ++ (if k.fm = .lift then [numS k.b] else []).map V.str)) = H3 at s3 e3 ⊢
      have s13 := s1.trans (s2.trans s3)
      have hS3 := same_sqT s13 hS
      refine ⟨⟨_, rfl⟩, _, rfl, ?_⟩
      refine via (P := fun Q' => tIf _ _ _ _ H3 Q') (fun Q' => Q' (.str (manyS k.times)) H3) (fun Q' hQ => ?_) ?_
      · refine ⟨_, rfl, p, _, 4, _, rfl, rfl, hS3, a4, rfl, _, rfl, ?_⟩
        cases ht : k.times with
        | none =>
          rw [ht] at hQ
          exact iteT hQ
        | some c =>
          rw [ht] at hQ
          have hc := ok.t0 c ht
          exact iteF ⟨_, rfl, p, _, 4, _, rfl, rfl, hS3, a4, c, by rw [ht]; rfl, log_small (by omega) hc.2, hQ⟩
      · refine ⟨by show 1 ≤ sizeLine; decide, fun l4 hl4 => ?_⟩
        refine ⟨l3, l4, _, _, rfl, rfl, (same_new hl4) _ _ e3, upd_same, ?_, fun l5 hl5 => ?_⟩
        · rw [sizeLine_eq]
          split <;> simp
        have s5 := s13.trans ((same_new (o := .lst [V.str (manyS k.times)]) hl4).trans (same_new (o := .lst ((kindWs k).map V.str)) hl5))
        have ew : [V.str k.fm.word, .str k.name, .str (numS k.a)] ++ (if k.fm = .lift then [numS k.b] else []).map V.str ++ [V.str (manyS k.times)] = (kindWs k).map V.str := by
          unfold kindWs
          simp
        refine ⟨_, l5, kindWs k, rfl, rfl, .inl (.inl (.inl ?_)), ?_, q _ ?_⟩
        · rw [← ew]
          exact upd_same
        · exact Nat.le_trans (kindWs_sum ok) (by decide)
        · rw [← ew] at s5
          exact s5
end

end Tm

namespace Tm
open PySem PySem.Spec PyProof.Rows L2
section
variable {P : Program} {w : World} {K : PySem.W.Frag} {mg : Str → Option Value} {base : Heap}
def spLaw (K : PySem.W.Frag) : Sp := fun vs H Q _ => ∃ (a : Addr) (ns : List Int), vs = [.ref a] ∧ SqL K H a (ns.map V.int) ∧ ns.length ≤ 63 ∧ ∀ H', Q (.bl true) H'
def kd1 : Kd := ⟨.still, "rest", 10 ^ 18, 0, none⟩
def kd2 : Kd := ⟨.anew, "a", 5, 0, some 3⟩
def kd3 : Kd := ⟨.lift, "b", 2, 9, none⟩
theorem kd1_text : kindS kd1 = ("still rest 1000000000000000000 any" : Str) := by decide +kernel
theorem kd2_text : kindS kd2 = ("anew a 5 3" : Str) := by decide +kernel
theorem kd3_text : kindS kd3 = ("lift b 2 9 any" : Str) := by decide +kernel
theorem sc_law : FnScope ["_law_script", "_law_deal_here", "_law_turn", "_law_told", "_law_one", "_law_made", "_law_text"] ["_law_script"] (defScope s_law) := ⟨rfl, rfl, rfl, by decide +kernel, rfl, by decide +kernel, by decide +kernel⟩
theorem ok_law (E : Env K mg w) {fd : FuncData} (F : FunD K "law" "law" (defArgs s_law) (defBody s_law) (defScope s_law) [] [] (He.ga K "law") fd) : FnOk P w K mg base CX0 20 (He.ga K "law") fd ["_law_script"] (spLaw K) := by
  refine F.ok sc_law (fun vs H Q E h => ?_) (fun cdv A outer s H vs Q X hr h => ?_)
  · obtain ⟨a, ns, rfl, _⟩ := h
    rfl
  · obtain ⟨a, ns, rfl, hS, hlen, k⟩ := h
    have hu := hr.units
    refine ⟨_, PSs.nox (pss_cons (ps_set (i := 1) sc_law.nd rfl (Or.inl rfl) (pe_c (ok__law_deal (K := K) E) (hr.mono (by decide)) E.g__law_deal pass0 (pa_cons (pv 0) pa_nil)))
      (pss_cons (ps_for PassesOwn.never rfl (pi_range1 (by rfl) E.g_range (pa_cons pe_int pa_nil)) (pg_name (i := 2) sc_law.nd rfl (Or.inl rfl))
      (pss_cons (ps_set (i := 3) sc_law.nd rfl (Or.inl rfl) (pe_c (ok__law_kind (K := K) E) (hr.mono (by decide)) E.g__law_kind pass0 (pa_cons (pv 1) (pa_cons (pe_ix (k_ixL K) (pe_c (ok__law_names (K := K) E) (hr.mono (by decide)) E.g__law_names pass0 (pa_cons (pv 1) (pa_cons pe_int pa_nil))) pe_int (fun _ _ => rfl)) (pa_cons (pe_c (ok__law_pick (K := K) E) (hr.mono (by decide)) E.g__law_pick pass0 (pa_cons (pv 1) (pa_cons (pe_lst (pa_cons pe_int (pa_cons pe_int (pa_cons (pe_op op_pow pe_int pe_int) pa_nil)))) pa_nil))) pa_nil)))))
      (pss_cons (ps_par (i := 5) (j := 6) (by rfl) sc_law.nd rfl rfl (by decide) rfl rfl (pa_cons (pe_c (ok__law_kind_made (K := K) E) (hr.mono (by decide)) E.g__law_kind_made pass0 (pa_cons (pv 3) pa_nil)) (pa_cons (pe_c (ok__law_kind_text (K := K) E) (hr.mono (by decide)) E.g__law_kind_text pass0 (pa_cons (pv 3) pa_nil)) pa_nil)) (by rfl))
      (pss_cons (ps_set (i := 4) sc_law.nd rfl (Or.inl rfl) (pe_cm (pe_gr E.g_Kind) E.c_Kind_read (ok_Kind_read (K := K) E) (hr.mono (by decide)) pass0 (pa_cons (pv 6) pa_nil)))
      (pss_cons (ps_if (PW.pt (pw_or (pt_cmpR (op_neKind K E (hr.mono (by decide))) (pv 4) (pv 5) (nomark _)) (pw_or (pt_cmpR op_ne (pe_callTy (call_strKind K E (hr.mono (by decide))) (by rfl) E.g_str bt_str (pa_cons (pv 4) pa_nil)) (pv 6) (nomark _)) (pw_or (pt_cmpR op_ne (k_fld K (pv 4) rfl) (pe_ix (k_ixT K) (pv 3) pe_int (fun _ _ => rfl)) (nomark _)) (pw_or1 (pt_cmpR op_ne (k_fld K (pv 4) rfl) (pe_ix (k_ixT K) (pv 3) pe_int (fun _ _ => rfl)) (nomark _))))))) (pss_one (ps_ret pe_bl)) pss_nil)
      (pss_one (ps_if (PW.pt (pw_or (pt_cmpR (op_neKind K E (hr.mono (by decide))) (pe_cm (pe_gr E.g_Kind) E.c_Kind_read (ok_Kind_read (K := K) E) (hr.mono (by decide)) pass0 (pa_cons (pe_callTy (call_strKind K E (hr.mono (by decide))) (by rfl) E.g_str bt_str (pa_cons (pv 4) pa_nil)) pa_nil)) (pv 5) (nomark _)) (pw_or1 (pt_cmpR op_ne (k_fld K (pe_cm (pe_gr E.g_Kind) E.c_Kind_read (ok_Kind_read (K := K) E) (hr.mono (by decide)) pass0 (pa_cons (pv 6) pa_nil)) rfl) (k_fld K (pv 5) rfl) (nomark _))))) (pss_one (ps_ret pe_bl)) pss_nil)))))))
      (pss_cons (ps_if (pt_cmpR (op_neKind K E (hr.mono (by decide))) (pe_cm (pe_gr E.g_Kind) E.c_Kind_read (ok_Kind_read (K := K) E) (hr.mono (by decide)) pass0 (pa_cons pe_str pa_nil)) (pe_mk E.mk_Still (Still_init2 (K := K) E) (hr.mono (by decide)) E.g_Still pass0 (pa_cons pe_str (pa_cons (pe_op op_pow pe_int pe_int) pa_nil))) (nomark _)) (pss_one (ps_ret pe_bl)) pss_nil)
      (pss_one (ps_ret (pe_and (pe_cmpR (op_eqKind K E (hr.mono (by decide))) (pe_cm (pe_gr E.g_Kind) E.c_Kind_read (ok_Kind_read (K := K) E) (hr.mono (by decide)) pass0 (pa_cons pe_str pa_nil)) (pe_mk E.mk_Anew (Anew_init3 (K := K) E) (hr.mono (by decide)) E.g_Anew pass0 (pa_cons pe_str (pa_cons pe_int (pa_cons pe_int pa_nil)))) (nomark _)) (pe_one (pe_cmpR (op_eqKind K E (hr.mono (by decide))) (pe_cm (pe_gr E.g_Kind) E.c_Kind_read (ok_Kind_read (K := K) E) (hr.mono (by decide)) pass0 (pa_cons pe_str pa_nil)) (pe_mk E.mk_Lift (Lift_init3 (K := K) E) (hr.mono (by decide)) E.g_Lift pass0 (pa_cons pe_str (pa_cons pe_int (pa_cons pe_int pa_nil)))) (nomark _))))))))), ?_⟩
    refine ⟨_, rfl, a, ns, rfl, hS, fun d g H1 nd ng s1 D1 => ?_⟩
    refine ⟨10, rfl, by decide, by decide, for_range (lo := 0) (n := 10) (fun i σ H2 => ∃ v2 v3 v4 v5 v6 : Option V, σ = [some (.ref a), some (.ref d), v2, v3, v4, v5, v6] ∧ Deal H2 d g) ⟨none, none, none, none, none, rfl, D1⟩ ?_ ?_⟩
    · rintro i σ H2 hi ⟨v2, v3, v4, v5, v6, rfl, D2⟩
      -- the kind told
      refine ⟨_, rfl, _, rfl, d, g, 1, rfl, D2, by decide, fun pn ws H3 hw hnd hwl npn e3 D3 b3 => ?_⟩
      obtain ⟨nm, rfl⟩ : ∃ nm, ws = [nm] := List.length_eq_one_iff.mp hwl
      have hnm := namesA_ok nm (hw nm (by simp))
      refine ⟨pn, _, 0, _, rfl, rfl, .inl (.inl e3), (rfl : _ = some (V.str nm)), ?_⟩
      refine ⟨_, rfl, _, _, rfl, rfl, ⟨by decide, by decide, by decide⟩, by show 3 ≤ sizeLine; decide, fun l3 hl3 => ?_⟩
      have s3 := same_new (o := .lst [V.int 2, .int 12, .int (10 ^ 18)]) hl3
      refine ⟨d, g, l3, _, rfl, D3.same s3, .inl (.inl (.inl upd_same)), D3.new hl3, by simp, by decide, fun i4 v4' H4 hv4 D4 b4 => ?_⟩
      obtain ⟨most, rfl, m0, m1⟩ : ∃ most, v4' = V.int most ∧ 0 < most ∧ most ≤ 10 ^ 18 := by
        match i4, hv4 with
        | 0, h => exact ⟨2, (Option.some.inj h).symm, by decide, by decide⟩
        | 1, h => exact ⟨12, (Option.some.inj h).symm, by decide, by decide⟩
        | 2, h => exact ⟨10 ^ 18, (Option.some.inj h).symm, by decide, by decide⟩
        | j + 3, h => simp at h
      refine ⟨d, g, nm, most, rfl, D4, m0, by omega, fun kd pt H5 kin npt e5 D5 b5 => ?_⟩
      have ok := kin.ok hnm m1
      clear b3 b4 b5 e3 npn npt hv4 s3 hl3 D2 D3 D4 hnd hw hwl
      have t5 : SqT K H5 pt (told5 kd) := .inl (.inl e5)
      -- made and text
      refine ⟨_, rfl, pt, kd, rfl, t5, ok, fun pm H6 npm s6 km => ?_⟩
      have t6 := same_sqT s6 t5
      refine ⟨_, rfl, pt, kd, rfl, t6, ok, fun H7 s7 => ⟨_, _, rfl, ?_⟩⟩
      have t7 := same_sqT s7 t6
      have km7 := km.mono s7
      have D7 := (D5.same s6).same s7
      -- read
      refine ⟨rfl, _, rfl, _, kindS kd, kd, rfl, Nat.le_trans (kindS_len ok) (by decide), told_kind ok, ok, fun po H8 npo s8 ko => ?_⟩
      have t8 := same_sqT s8 t7
      have km8 := km7.mono s8
      have D8 := D7.same s8
      obtain ⟨dx8, ex8⟩ := id ko
      have eqk : eqK kd (some kd) = true := decide_eq_true rfl
      -- the first test
      refine ⟨_, rfl, _, rfl, po, kd, some kd, rfl, ko, ok, ⟨pm, rfl, km8⟩, (fun j e => by cases e; exact ok), (fun z => by cases z), _, rfl, ?_⟩
      show (if (!eqK kd (some kd)) = true then _ else _)
      rw [eqk]
      refine iteF ⟨_, rfl, po, kd, rfl, ko, ok, _, rfl, rfl, _, rfl, ?_⟩
      show (if (!decide (V.str (kindS kd) = V.str (kindS kd))) = true then _ else _)
      rw [decide_eq_true rfl]
      refine iteF ⟨_, rfl, po, _, dx8, _, _, rfl, ex8, kd.cl E, kd.na_name E, kd.at_name, _, rfl, pt, _, 1, _, rfl, rfl, t8, (rfl : _ = some (V.str kd.name)), rfl, _, rfl, ?_⟩
      show (if (!decide (V.str kd.name = V.str kd.name)) = true then _ else _)
      rw [decide_eq_true rfl]
      refine iteF ⟨_, rfl, po, _, dx8, _, _, rfl, ex8, kd.cl E, kd.na_times E, kd.at_times, _, rfl, pt, _, 4, _, rfl, rfl, t8, (rfl : _ = some (tv kd.times)), (by cases kd.times <;> rfl), _, rfl, ?_⟩
      show (if (!decide (tv kd.times = tv kd.times)) = true then _ else _)
      rw [decide_eq_true rfl]
      refine iteF ?_
      -- the second test
      refine ⟨rfl, _, rfl, po, kd, rfl, ko, ok, _, kindS kd, kd, rfl, Nat.le_trans (kindS_len ok) (by decide), told_kind ok, ok, fun pr H9 npr s9 kr => ?_⟩
      refine ⟨_, rfl, pr, kd, some kd, rfl, kr, ok, ⟨pm, rfl, km8.mono s9⟩, (fun j e => by cases e; exact ok), (fun z => by cases z), _, rfl, ?_⟩
      show (if (!eqK kd (some kd)) = true then _ else _)
      rw [eqk]
      refine iteF ⟨rfl, _, rfl, _, kindS kd, kd, rfl, Nat.le_trans (kindS_len ok) (by decide), told_kind ok, ok, fun pu H10 npu s10 ku => ?_⟩
      obtain ⟨dxu, exu⟩ := id ku
      obtain ⟨dxm, exm⟩ := (km8.mono s9).mono s10
      refine ⟨pu, _, dxu, _, _, rfl, exu, kd.cl E, kd.na_times E, kd.at_times, _, rfl, pm, _, dxm, _, _, rfl, exm, kd.cl E, kd.na_times E, kd.at_times, (by cases kd.times <;> rfl), _, rfl, ?_⟩
      show (if (!decide (tv kd.times = tv kd.times)) = true then _ else _)
      rw [decide_eq_true rfl]
      refine iteF ?_
      exact ⟨_, _, _, _, _, rfl, (D8.same s9).same s10⟩
    · rintro σ H2 ⟨v2, v3, v4, v5, v6, rfl, D2⟩
      have eqs : ∀ kd : Kd, eqK kd (some kd) = true := fun kd => decide_eq_true rfl
      -- the first
      have o1 : KdOk kd1 := ⟨by decide +kernel, by decide, by decide, fun z => (by cases z), by decide, fun _ => rfl, fun c z => (by cases z)⟩
      have o2 : KdOk kd2 := ⟨by decide +kernel, by decide, by decide, fun z => (by cases z), by decide, fun _ => rfl, fun c z => (by cases z; decide)⟩
      have o3 : KdOk kd3 := ⟨by decide +kernel, by decide, by decide, fun z => (by decide), by decide, fun z => absurd rfl z, fun c z => (by cases z)⟩
      refine ⟨rfl, _, kindS kd1, kd1, (by rw [kd1_text]), Nat.le_trans (kindS_len o1) (by decide), told_kind o1, o1, fun p1 H3 np1 s3 k1 => ?_⟩
      dsimp only [tOp, tC, tMake, tCons, tNil, List.cons_append, List.nil_append]
      refine ⟨_, _, rfl, rfl, ⟨by decide, by decide, by decide⟩, ?_⟩
      refine mk_still (nm := "rest") (a := 10 ^ 18) (tm := none) (by decide +kernel) (by decide) (fun c z => by cases z) fun q1 H4 nq1 s4 j1 => ?_
      refine ⟨p1, kd1, some kd1, rfl, k1.mono s4, o1, ⟨q1, rfl, j1⟩, (fun j e => by cases e; exact o1), (fun z => by cases z), _, rfl, ?_⟩
      show (if (!eqK kd1 (some kd1)) = true then _ else _)
      rw [eqs]
      refine iteF ?_
      refine ⟨rfl, _, kindS kd2, kd2, (by rw [kd2_text]), Nat.le_trans (kindS_len o2) (by decide), told_kind o2, o2, fun p2 H5 np2 s5 k2 => ?_⟩
      dsimp only [tOp, tC, tMake, tCons, tNil, List.cons_append, List.nil_append]
      refine mk_anew (nm := "a") (a := 5) (tm := some 3) (by decide +kernel) (by decide) (fun c z => by cases z; decide) fun q2 H6 nq2 s6 j2 => ?_
      refine ⟨p2, kd2, some kd2, rfl, k2.mono s6, o2, ⟨q2, rfl, j2⟩, (fun j e => by cases e; exact o2), (fun z => by cases z), _, rfl, ?_⟩
      show (if eqK kd2 (some kd2) = true then _ else _)
      rw [eqs]
      refine iteT ?_
      refine ⟨rfl, _, kindS kd3, kd3, (by rw [kd3_text]), Nat.le_trans (kindS_len o3) (by decide), told_kind o3, o3, fun p3 H7 np3 s7 k3 => ?_⟩
      dsimp only [tOp, tC, tMake, tCons, tNil, List.cons_append, List.nil_append]
      refine mk_lift (nm := "b") (a := 2) (b := 9) (tm := none) (by decide +kernel) (by decide) (by decide) (fun c z => by cases z) fun q3 H8 nq3 s8 j3 => ?_
      refine ⟨p3, kd3, some kd3, rfl, k3.mono s8, o3, ⟨q3, rfl, j3⟩, (fun j e => by cases e; exact o3), (fun z => by cases z), ?_⟩
      show Q (.bl (eqK kd3 (some kd3))) H8
      rw [eqs]
      exact k H8
end

end Tm

namespace Tm
open PySem PySem.Spec PyProof.Rows L2
abbrev R : PySem.W.OpenRow := PySem.W.OpenLaw.row PySem.Challenge.rw_termstill_k04_texts_of_kinds
def nms : List Str := (["__name__", "TermError", "InvalidKind", "InvalidText", "BARRED", "LETTERS", "SIGNS", "MOST_LETTERS", "MOST_SIGNS", "is_integer", "is_length", "is_name", "number_in", "Kind", "need", "is_many", "many_text", "Still", "Anew", "Lift"] : List Str) ++ (["FORMS", "told_by", "made_of", "_law_deal", "_law_draw", "_law_pick", "_law_mixed", "_law_names", "_law_kind", "_law_kind_text", "_law_kind_made"] : List Str)
theorem run_false (w : World) : HandSHeadRun.RunEq R (PySem.W.view R.prog [34]) (hookM 7 fa ex fn tabs) (obM 7 fa ex fn tabs) 6000 nms (w.withFollow "special-get-raises" false) := by
  intro os
  kernel_rfl
theorem run_true (w : World) : HandSHeadRun.RunEq R (PySem.W.view R.prog [34]) (hookM 7 fa ex fn tabs) (obM 7 fa ex fn tabs) 6000 nms (w.withFollow "special-get-raises" true) := by
  intro os
  kernel_rfl
theorem run (w : World) : HandSHeadRun.RunEq R (PySem.W.view R.prog [34]) (hookM 7 fa ex fn tabs) (obM 7 fa ex fn tabs) 6000 nms w :=
  PySem.W.byRow2 "special-get-raises" (P := fun w => HandSHeadRun.RunEq R (PySem.W.view R.prog [34]) (hookM 7 fa ex fn tabs) (obM 7 fa ex fn tabs) 6000 nms w) run_false run_true w
end Tm

open PySem PySem.W PySem.Calls PyProof.Rows
set_option maxRecDepth 100000 in
set_option maxHeartbeats 0 in
theorem PySem.Challenge.cw_termstill_k04_texts_of_kinds_holds : PySem.Challenge.rw_termstill_k04_texts_of_kinds.Holds := by
  w_on; o_law
  refine HandSHeadRun.head_any (r := Tm.R) (q := view Tm.R.prog [34]) (H := Tm.hookM 7 Tm.fa Tm.ex Tm.fn Tm.tabs) (ob := Tm.obM 7 Tm.fa Tm.ex Tm.fn Tm.tabs) (M := 6000) (loose := Tm.nms) (d := HandSHeadRun.topDef Tm.R.prog 34) (kwd := []) Tm.obM_eq
    (by kernel_rfl) (fun s => by kernel_rfl) Tm.run (by kernel_rfl) (by kernel_rfl) (by kernel_rfl) (by rfl) (by first | assumption | decide +kernel) (by decide +kernel) ⟨rfl, rfl, rfl, rfl, rfl, by decide +kernel⟩ ?hw ?hc
  case hw => w_witness2
  case hc =>
    refine L2.walk_ofE (l := PySem.Challenge.rw_termstill_k04_texts_of_kinds) (n := 63) (k := 20) (x := "_law_script") (CX := L2.CX0) rfl (by decide) (by kernel_rfl) ⟨rfl, by decide, by decide⟩ ?F (fun _ _ _ _ z => z)
    intro w mg fa h Y G hm0
    obtain ⟨K, KX, c⟩ := Y
    have E := Tm.env_of KX G c
    have hm : mg ("law" : PySem.Str) = some (.ref fa) := by
      have e : (HandSHeadRun.topDef Tm.R.prog 34).name = ("law" : PySem.Str) := by kernel_rfl
      rw [← e]
      exact hm0
    have e : fa = He.ga K "law" := by
      have z := hm.symm.trans E.g_law
      cases z
      rfl
    subst e
    obtain ⟨fd, F⟩ := E.f_law
    exact ⟨K, fd, Tm.spLaw K, KX, fun s v => L2.FunD.bindsA (ps := ["_law_script"]) F (fun _ _ _ _ _ _ us hl => match us, hl with | [_], _ => rfl) s [v] rfl, fun H a ns hl _ hS => ⟨a, ns, rfl, hS, hl, fun _ => rfl⟩, fun base _ _ => Tm.ok_law E F⟩
#print axioms PySem.Challenge.cw_termstill_k04_texts_of_kinds_holds
