import PyProof.Rows.All
import Wide.All
import OpenK.AllK
import Wide.FinOn
import HandS.ForMost
import HandS.ForExc
import HandS.TryMany
import HandS.IsInst
import HandS.Property
import HandS.OwnEq
import HandS.Flow
import HandS.Walk
import HandS.SetFor
import HandS.Wide
import HandS.EndTab
import HandS.Defaults
import HandS.Conv
import HandS.ClsMeth
import HandS.Lambda
import HandS.ExcField
import KE.KExcSuper
import HandS.Style
import HandS.TupAny
import HandS.Star
import KE.KOpsOwn
import KE.KDictKeyed
import KE.KDictDisplayH
import HandS.NoneIn
import PyProof.EqAt
import PyProof.EqKinds
import PyProof.TupleCall
import HandS.Base
import HandS.Call
import HandS.Exc
import HandS.ExcInit
import KE.GoesMore
import PySem.Challenge.RW_everyfloor_k12_whole_operators_of_sets
set_option Elab.async false
set_option linter.all false
set_option maxRecDepth 100000
set_option maxHeartbeats 4000000
/-! An own exception class whose __init__ says super().__init__('..') and then stores its fields. -/
namespace PySem
namespace SupX
open PySem.W PySem.Calls PyProof.Rows PySem.HandSPX

section
variable {prog : Program} {w : World} {M : Model} {A : Around} {E : Value → Shared → Prop} {h : Heap} {g : Array GenState} {d : Drawn} {t : Nat} {os : OsState}

/-- the base's __init__ bound to the exception, called -/
theorem sx_call {nm q : Str} {C N u x t0 : Addr} {bs bm : List Value} {hdct : Bool} {sn : List Str} {sub : List Value} {ab : Bool} {col : Option Bool} {dd : Option Addr} {k0 k1 k2 k3 k5 : Option Value} {rest : List Value} {Q : Value → Shared → Prop}
    (hC : h.get? C = some (excClassObj nm q C N bs bm hdct sn sub ab col dd k0 k1 k2 k3 k5 "ValueError.__new__")) (hx : h.get? x = some (excO C t0)) (hu : h.get? u = some (kxs_mw "ValueError.__init__" x)) (hrest : rest.length ≤ sizeLine)
    (hq : ∀ h' t1, (∀ b o, b ≠ x → h.get? b = some o → h'.get? b = some o) → h'.get? x = some (excO C t1) → Q .none ⟨h', g, d, t, os⟩) :
    wpAny (model prog w) A (call (.ref u) rest) Q E ⟨h, g, d, t, os⟩ := by
  refine wpAny_call (codeAny_of_tree ?_)
  show wpAny _ A.in1 (callAny (.ref u) ⟨rest, []⟩) _ _ _
  simp only [callAny]
  refine wpAny_bind (wpAny_load hu ?_)
  simp only [kxs_mw, show (Value.type "method-wrapper" == Value.type "method" || Value.type "method-wrapper" == Value.type "builtin_function_or_method" || Value.type "method-wrapper" == Value.type "method-wrapper") = true by decide, if_true]
  refine KFB.if_so (by decide) ?_
  refine wpAny_bind (check_bound_init F.excBase_ValueError.toExcCallFacts hC hx rfl ?_)
  refine wpAny_bind (wpAny_pure (wpAny_pure ?_))
  refine ⟨plainId_quiet F.excBase_ValueError.init.plain _, codeAny_builtin F.excBase_ValueError.initEntry ?_⟩
  exact exc_init_tree (cls := .ref C) (t0 := t0) (dv := none) (c2 := .none) (c3 := .none) (b4 := .bool false) hx hrest fun h' k e _ => hq h' _ k e

end

/-- what the written part says of the class at C and of its __init__ at fI (its cell at cc, its code object at cda) -/
structure SupTxt (prog : Program) (K : Frag) (mg : Str → Option Value) (x : Str) (C fI cc cda : Addr) (fs : List Str) : Prop where
  gC : mg x = some (.ref C)
  cls : ∃ nm q N bs bm sn sub ab col dd k0 k1 k2 k3 k5, K.lookup C = some (excClassObj nm q C N bs bm true sn sub ab col dd k0 k1 k2 k3 k5 "ValueError.__new__") ∧ refsVE bm = true
  sa : findIn K (.ref C) "__setattr__" = some (some (.builtin "object.__setattr__"))
  xf : L2.XfC K C
  iC : findIn K (.ref C) "__init__" = some (some (.ref fI))
  tI : typeIn K (.ref fI) = some (.type "function")
  kC : keepIn K (.ref C) = true
  tyC : typeIn K (.ref C) = some (.type "type")
  noF : ∀ f ∈ fs, findIn K (.ref C) f = some none
  self : mroIn K C (.ref C) = some true
  hB : subIn K (.ref C) (.type "ValueError") = some true
  sup : ks_superIn K C C "__init__" = some (some (.builtin "ValueError.__init__"))
  code : ∃ ccl cdd vs ccs file tf, K.lookup cda = some ⟨ccl, cdd, .fields vs, ccs⟩ ∧ vs[2]? = some (.str file tf) ∧ ((prog.main.file : Str) == file) = true
  cell : ∃ cl cld csl, K.lookup cc = some ⟨cl, cld, .cell (some (.ref C)), csl⟩

/-- what the module says of super -/
structure SupMod (prog : Program) (K : Frag) (mg : Str → Option Value) : Prop where
  mSup : mg "super" = none
  third : nsIn K cStatics "thirdparty.any" = some none
  top : (prog.main.scope.names.lookup ("super" : Str)).isSome = false

section
variable {prog : Program} {w : World} {M : Model} {A : Around} {E : Value → Shared → Prop} {s : Shared} {K : Frag} {mg : Str → Option Value} {xn : Str} {C fI cc cda L x t0 : Addr} {fs : List Str} {m : Str → Option Value}

theorem boot_super : bootBuiltins "super" = some (.type "super") := by first | rfl | kernel_rfl | decide +kernel

theorem cls_at {h : Heap} {cd : ClassData} (X : K.In h) (hc : clsIn K C = some cd) : ∃ oD, h.get? C = some oD ∧ oD.data = .cls cd := by
  unfold clsIn at hc
  split at hc
  · rename_i c d cd' sl ho
    cases hc
    exact ⟨_, X _ _ ho, rfl⟩
  · cases hc

theorem exc_ne {h : Heap} {cd : ClassData} {fv : Array Value} {od : Option Addr} (X : K.In h) (hc : clsIn K C = some cd) (hx : h.get? x = some { cls := .ref C, dict := od, data := .fields fv }) : x ≠ C := by
  rintro rfl
  obtain ⟨oD, h1, h2⟩ := cls_at X hc
  rw [hx] at h1
  cases h1
  cases h2

/-- super().__init__('..'), then what follows -/
theorem sx_first {scope : Scope} {qual : Str} {body rest : List Stmt} {tx : Str} {fd : FuncData} {ar : Arg} {oc : Value} {od : Option Addr} {osl : Array (Option Value)} {j : Nat} {p0 p1 p2 p3 p4 p5 : Pos} {Q : Flow → Shared → Prop}
    (T : SupTxt prog K mg xn C fI cc cda fs) (S : SupMod prog K mg) (X : K.In s.heap) (hg : s.heap.Ns mainGlobals mg) (hb : ∃ mb, s.heap.Ns builtinsNs mb ∧ ∀ x : Str, x ≠ "__name__" → mb x = bootBuiltins x)
    (hf : K.lookup fI = some ⟨oc, od, .func fd, osl⟩) (hp : (fd.params.posonlyargs ++ fd.params.args).head? = some ar) (har : ar.arg = "self")
    (hn : s.heap.Ns L m) (hself : m "self" = some (.ref x)) (hx : s.heap.get? x = some (excO C t0)) (hxL : L ≠ x)
    (hks : scope.names.lookup ("super" : Str) = some .globalImplicit) (hkc : scope.names.lookup ("__class__" : Str) = some .free) (hka : scope.names.lookup ("self" : Str) = some .local) (hk : scope.kind = .function)
    (h : ∀ h' tk t1, (∀ b o, b ≠ x → s.heap.get? b = some o → h'.get? b = some o) → h'.get? x = some (excO C t1) → h'.Ns L m →
      wpAny (model prog w) A (execs rest (ksEnv qual scope L fI (.ref cda) cc)) Q E { s with heap := h', toks := tk }) {pl : Sem Bool}
    (he : eval (.Call (.Attribute (.Call (.Name "super" p0) [] [] p1) "__init__" p2) [.Constant (.str tx) j p3] [] p4) (ksEnv qual scope L fI (.ref cda) cc) = (do
      let ov ← attributeBase (.Call (.Name "super" p0) [] [] p1) "__init__" (ksEnv qual scope L fI (.ref cda) cc) (eval (.Call (.Name "super" p0) [] [] p1) (ksEnv qual scope L fI (.ref cda) cc))
      standAt p2.atName
      let (f, first) ← holding [ov] (getMethod ov "__init__" pl)
      callWith p4 f first (backTo p4 (starEach [Expr.Constant (.str tx) j p3] (ksEnv qual scope L fI (.ref cda) cc))) []) := by rfl) :
    _root_.PySem.wpAt (model prog w) A (.func body (ksEnv qual scope L fI (.ref cda) cc))
      (execs (.Expr (.Call (.Attribute (.Call (.Name "super" p0) [] [] p1) "__init__" p2) [.Constant (.str tx) j p3] [] p4) p5 :: rest) (ksEnv qual scope L fI (.ref cda) cc)) Q E s := by
  obtain ⟨nm, q, N, bs, bm, sn, sub, ab, col, dd, k0, k1, k2, k3, k5, hC, hbm⟩ := T.cls
  obtain ⟨ccl, cdd, vs, ccs, file, tf, hcode, hvs, hfile⟩ := T.code
  obtain ⟨cl, cld, csl, hcell⟩ := T.cell
  obtain ⟨mb, hbn, hbb⟩ := hb
  have hcl : clsIn K C = some { name := nm, bases := bs, mro := .ref C :: bm, ns := N, qualname := q, hasDict := true, slotNames := sn, subclasses := sub, abstract := ab, collection := col, hasDel := false } := by unfold clsIn; rw [hC] <;> rfl
  obtain ⟨hh, g, d, t, os⟩ := s
  have hsup := T.sup
  unfold ks_superIn at hsup
  rw [hcl] at hsup
  have I : PySem.W.InstAt hh x (excO C t0) C none := ⟨hx, rfl, rfl, trivial⟩
  obtain ⟨oD, hD1, hD2⟩ := cls_at X hcl
  have hxC : x ≠ C := exc_ne X hcl hx
  refine ks_wpAt_execs_cons (ks_wpAt_Expr_any (ks_wpAt_MethodCall ?_ he) (by simp [interactive, hk]) (by rfl))
  have hka' : scope.names.lookup ar.arg = some .local := by rw [har]; exact hka
  have hv : m ar.arg = some (.ref x) := by rw [har]; exact hself
  refine ks_wpAt_super_base (env := ksEnv qual scope L fI (.ref cda) cc) hks hkc (by decide +kernel) rfl (X _ _ hf) rfl hp rfl (X _ _ hcode) rfl hvs hfile S.top ?_
  refine ks_loadName_global hk hks (loadGlobal_builtin (env := ksEnv qual scope L fI (.ref cda) cc) hg S.mSup hbn ((hbb _ (by decide +kernel)).trans boot_super) ⟨rfl, ?_⟩)
  refine wpAny_loadName_free hk hkc rfl ⟨_, X _ _ hcell, rfl⟩ ?_
  refine wpAny_loadName_local hk hka' hn hv ?_
  refine ks_wpAny_isType_cls hD1 hD2 ⟨rfl, ?_⟩
  refine ks_wpAny_call_super hD1 hD2 hx rfl (fun c e => by cases e) (looks_mroIn X T.self) (fun h1 e1 kk1 => ?_)
  have X1 : K.In h1 := X.keeps kk1
  have hx1 := kk1 _ _ hx
  have I1 : PySem.W.InstAt h1 x (excO C t0) C none := ⟨hx1, rfl, rfl, trivial⟩
  refine kxs_getMethod kxs_ValueError (K := K) (l₀ := .ref C :: bm) e1 (looks_opaque X1 S.third) ?_ rfl X1 hsup (I1.type.andThen (looks_subIn X1 T.hB)) hxC (by decide +kernel) ?_
  · exact fun A Q E s k q => wpAny_bind ((looks_clsIn X1 hcl) A _ E s k (wpAny_pure q))
  have kk2 : ∀ b o, hh.get? b = some o → (h1.push (kxs_mw "ValueError.__init__" x)).get? b = some o := fun b o e => Heap.get?_push_of_some _ (kk1 b o e)
  have hmw : (h1.push (kxs_mw "ValueError.__init__" x)).get? h1.objs.size = some (kxs_mw "ValueError.__init__" x) := Heap.get?_push_at rfl rfl
  have hs1 : starEach [Expr.Constant (.str tx) j p3] (ksEnv qual scope L fI (.ref cda) cc) = (false, eval (.Constant (.str tx) j p3) (ksEnv qual scope L fI (.ref cda) cc)) :: starEach [] (ksEnv qual scope L fI (.ref cda) cc) := by rfl
  show wpAny _ _ (callWith p4 (.ref h1.objs.size) [] (backTo p4 (starEach [Expr.Constant (.str tx) j p3] (ksEnv qual scope L fI (.ref cda) cc))) []) _ _ _
  rw [hs1]
  refine kxs_callWith (i := "ValueError.__init__") (x := x) (by rfl) (evalArgs_plain ?_)
  show wpAny _ _ (spliced ((false, eval (.Constant (.str tx) j p3) (ksEnv qual scope L fI (.ref cda) cc)) :: backTo p4 (starEach [] (ksEnv qual scope L fI (.ref cda) cc)))) _ _ _
  refine Calls.spliced_cons (Calls.Constant_str ?_)
  refine Calls.spliced_nil ⟨hmw, ?_⟩
  refine sx_call (kk2 _ _ (X _ _ hC)) (kk2 _ _ hx) hmw (by rw [sizeLine_eq]; exact (by decide : 1 ≤ 16777216)) fun h' t1 k e => ?_
  have kk3 : ∀ b o, b ≠ x → hh.get? b = some o → h'.get? b = some o := fun b o hb z => k b o hb (kk2 b o z)
  refine PySem.wpAt_of_wpAny (h h' _ t1 kk3 e ?_)
  obtain ⟨oL, es, ep, hL, r⟩ := hn
  exact ⟨oL, es, ep, kk3 _ _ hxL hL, r⟩
end

/-! ### the stores -/
/-- self.f = f -/
def mkStore (p : Str × Pos × Pos × Pos × Pos) : Stmt := .Assign [.Attribute (.Name "self" p.2.1) p.1 p.2.2.1] (.Name p.1 p.2.2.2.1) p.2.2.2.2
/-- the attributes behind the stores of l -/
def laid : List (Str × Value) → (Str → Option Value) → Str → Option Value
  | [], m0 => m0
  | (f, v) :: r, m0 => laid r fun y => if y = f then some v else m0 y

section
variable {prog : Program} {w : World} {A : Around} {E : Value → Shared → Prop} {K : Frag} {mg : Str → Option Value} {xn : Str} {C fI cc cda L x dx : Addr} {fs : List Str} {m : Str → Option Value} {scope : Scope} {qual : Str} {Q : Flow → Shared → Prop}
theorem ldS {s : Shared} {y : Str} {pos : Pos} {v : Value} {Q : Value → Shared → Prop} (hn : s.heap.Ns L m) (hv : m y = some v) (hk : scope.kind = .function) (hl : scope.names.lookup y = some .local) (hd : (y == ("__debug__" : Str)) = false) (h : Q v s) :
    wpAny (model prog w) A (eval (.Name y pos) (ksEnv qual scope L fI (.ref cda) cc)) Q E s := wpAny_Name (wpAny_loadName_local hk hl hn hv h) hd

theorem sx_more (T : SupTxt prog K mg xn C fI cc cda fs) (hk : scope.kind = .function) (hks : scope.names.lookup ("self" : Str) = some .local) {fv : Array Value} :
    ∀ (l : List ((Str × Pos × Pos × Pos × Pos) × Value)) (s : Shared) (m0 : Str → Option Value) (nl : List Str), (∀ p ∈ l, p.1.1 ∈ fs ∧ scope.names.lookup p.1.1 = some .local ∧ (p.1.1 == ("__debug__" : Str)) = false ∧ m p.1.1 = some p.2) →
      K.In s.heap → s.heap.Ns L m → m "self" = some (.ref x) → L ≠ dx → s.heap.get? x = some { cls := .ref C, dict := some dx, data := .fields fv } → s.heap.Ns1 dx m0 → Within m0 nl → nl.length + l.length ≤ 1000 → K.lookup dx = none → x ≠ dx →
      (∀ h' tk, (∀ b o, b ≠ dx → s.heap.get? b = some o → h'.get? b = some o) → h'.Ns1 dx (laid (l.map fun p => (p.1.1, p.2)) m0) → Q .next { s with heap := h', toks := tk }) →
      wpAny (model prog w) A (execs (l.map fun p => mkStore p.1) (ksEnv qual scope L fI (.ref cda) cc)) Q E s := by
  obtain ⟨nm, q, N, bs, bm, sn, sub, ab, col, dd, k0, k1, k2, k3, k5, hC, hbm⟩ := T.cls
  have hcl : clsIn K C = some { name := nm, bases := bs, mro := .ref C :: bm, ns := N, qualname := q, hasDict := true, slotNames := sn, subclasses := sub, abstract := ab, collection := col, hasDel := false } := by unfold clsIn; rw [hC] <;> rfl
  intro l
  induction l with
  | nil =>
    intro s m0 nl _ _ _ _ _ _ hns _ _ _ _ h
    obtain ⟨hp, g, d, tk, os⟩ := s
    exact wpAny_execs_nil (h hp tk (fun _ _ _ e => e) hns)
  | cons p l ih =>
    intro s m0 nl hl X hn hself hLd hx hns hw hz hKd hxd h
    obtain ⟨⟨f, q1, q2, q3, q4⟩, v⟩ := p
    obtain ⟨hf, hloc, hdbg, hv⟩ := hl _ (List.mem_cons_self ..)
    obtain ⟨hp, g, d, tk, os⟩ := s
    show wpAny _ _ (execs (mkStore (f, q1, q2, q3, q4) :: l.map fun p => mkStore p.1) _) _ _ _
    refine wpAny_execs_cons (plainObj_wpAny_Assign_Attribute ?_)
    refine ldS hn hv hk hloc hdbg (ldS hn hself hk hks (by decide +kernel) ?_)
    obtain ⟨oD, _, _, hoD, _, _⟩ := hns.count hw
    refine set_plain X (ox := { cls := .ref C, dict := some dx, data := .fields fv }) (od := some oD) ⟨hx, rfl, rfl, hoD⟩ T.sa ?_
    refine PySem.OEX.osa_old X hx hns hw (by simp only [List.length_cons] at hz; omega) hcl (show refsVE (.ref C :: bm) = true from hbm) rfl (T.noF f hf) (fun h1 tk1 k1 hn1 => ?_)
    have X1 : K.In h1 := fun a o e => k1 a o (fun z => by rw [z, hKd] at e; cases e) (X a o e)
    have hn2 : h1.Ns L m := by
      obtain ⟨oL, es, ep, hL, r⟩ := hn
      exact ⟨oL, es, ep, k1 _ _ hLd hL, r⟩
    refine ih ⟨h1, g, d, tk1, os⟩ _ (f :: nl) (fun p hp => hl p (List.mem_cons_of_mem _ hp)) X1 hn2 hself hLd (k1 _ _ hxd hx) hn1 (Within.cons f v hw) (by simp only [List.length_cons] at hz ⊢; omega) hKd hxd fun h' tk' k' n' => ?_
    exact h h' tk' (fun b o hb e => k' b o hb (k1 b o hb e)) n'

/-- what the exception at x is behind its __init__ -/
def InitBehind (h h' : Heap) (x C : Addr) : List (Str × Value) → Prop
  | [] => (∀ b o, b ≠ x → h.get? b = some o → h'.get? b = some o) ∧ ∃ t1, h'.get? x = some (excO C t1)
  | l => (∀ b o, b ≠ x → h.get? b = some o → h'.get? b = some o) ∧ ∃ t1 dx, h'.get? x = some { cls := .ref C, dict := some dx, data := .fields #[.ref t1, .none, .none, .none, .bool false, .none] } ∧ h.objs.size ≤ dx ∧ dx ≠ x ∧ h'.Ns1 dx (laid l fun _ => none)

theorem sx_stores (T : SupTxt prog K mg xn C fI cc cda fs) (hk : scope.kind = .function) (hks : scope.names.lookup ("self" : Str) = some .local) {s : Shared} {t0 : Addr}
    (l : List ((Str × Pos × Pos × Pos × Pos) × Value)) (hl : ∀ p ∈ l, p.1.1 ∈ fs ∧ scope.names.lookup p.1.1 = some .local ∧ (p.1.1 == ("__debug__" : Str)) = false ∧ m p.1.1 = some p.2) (hll : l.length ≤ 900)
    (X : K.In s.heap) (hn : s.heap.Ns L m) (hself : m "self" = some (.ref x)) (hLx : L ≠ x) (hx : s.heap.get? x = some (excO C t0)) (hKx : K.lookup x = none)
    (h : ∀ h' tk, InitBehind s.heap h' x C (l.map fun p => (p.1.1, p.2)) → Q .next { s with heap := h', toks := tk }) :
    wpAny (model prog w) A (execs (l.map fun p => mkStore p.1) (ksEnv qual scope L fI (.ref cda) cc)) Q E s := by
  obtain ⟨nm, q, N, bs, bm, sn, sub, ab, col, dd, k0, k1, k2, k3, k5, hC, hbm⟩ := T.cls
  have hcl : clsIn K C = some { name := nm, bases := bs, mro := .ref C :: bm, ns := N, qualname := q, hasDict := true, slotNames := sn, subclasses := sub, abstract := ab, collection := col, hasDel := false } := by unfold clsIn; rw [hC] <;> rfl
  cases l with
  | nil =>
    obtain ⟨hp, g, d, tk, os⟩ := s
    exact wpAny_execs_nil (h hp tk ⟨fun _ _ _ e => e, t0, hx⟩)
  | cons p l =>
    obtain ⟨⟨f, q1, q2, q3, q4⟩, v⟩ := p
    obtain ⟨hf, hloc, hdbg, hv⟩ := hl _ (List.mem_cons_self ..)
    obtain ⟨hp, g, d, tk, os⟩ := s
    show wpAny _ _ (execs (mkStore (f, q1, q2, q3, q4) :: l.map fun p => mkStore p.1) _) _ _ _
    refine wpAny_execs_cons (plainObj_wpAny_Assign_Attribute ?_)
    refine ldS hn hv hk hloc hdbg (ldS hn hself hk hks (by decide +kernel) ?_)
    refine set_plain X (ox := excO C t0) (od := none) ⟨hx, rfl, rfl, trivial⟩ T.sa ?_
    refine exc_osa X hx hcl (show refsVE (.ref C :: bm) = true from hbm) rfl (T.noF f hf) (fun h1 tk1 dx k1 dn dne hx1 hn1 => ?_)
    have X1 : K.In h1 := fun a o e => k1 a o (fun z => by rw [z, hKx] at e; cases e) (X a o e)
    have hKd : K.lookup dx = none := by
      cases e : K.lookup dx with
      | none => rfl
      | some o => exact absurd (Nat.lt_of_lt_of_le (Heap.lt_size (X _ _ e)) dn) (Nat.lt_irrefl _)
    have hLd : L ≠ dx := fun z => by
      have := hn.lt
      rw [z] at this
      exact absurd (Nat.lt_of_lt_of_le this dn) (Nat.lt_irrefl _)
    have hn2 : h1.Ns L m := by
      obtain ⟨oL, es, ep, hL, r⟩ := hn
      exact ⟨oL, es, ep, k1 _ _ hLx hL, r⟩
    refine sx_more T hk hks l ⟨h1, g, d, tk1, os⟩ _ [f] (fun p hp => hl p (List.mem_cons_of_mem _ hp)) X1 hn2 hself hLd hx1 hn1 (Within.cons f v Within.nil) (by simp only [List.length_cons, List.length_nil] at hll ⊢; omega) hKd (Ne.symm dne) fun h' tk' k' n' => ?_
    have hd : ∀ b o, hp.get? b = some o → b ≠ dx := fun b o e z => absurd (Nat.lt_of_lt_of_le (Heap.lt_size (z ▸ e : hp.get? dx = some o)) dn) (Nat.lt_irrefl _)
    exact h h' tk' ⟨fun b o hb e => k' b o (hd b o e) (k1 b o hb e), t0, dx, k' _ _ (Ne.symm dne) hx1, dn, dne, n'⟩
end

/-- the text of such an __init__ -/
structure SupFn (K : Frag) (fI cc cda : Addr) (fs : List Str) : Prop where
  ex : ∃ (oc : Value) (od : Option Addr) (osl : Array (Option Value)) (qual : Str) (params : Arguments) (scope : Scope) (doc pm ct : Value) (an : Option Addr) (l : List (Str × Pos × Pos × Pos × Pos)) (tx : Str) (j : Nat) (p0 p1 p2 p3 p4 p5 : Pos) (ar : Arg),
    K.lookup fI = some ⟨oc, od, .func (ksFn "__init__" qual params (.Expr (.Call (.Attribute (.Call (.Name "super" p0) [] [] p1) "__init__" p2) [.Constant (.str tx) j p3] [] p4) p5 :: l.map mkStore) scope .none .none doc pm an (.ref cda) ct cc), osl⟩ ∧
    codeIn K (.ref cda) qual = true ∧ l.map (·.1) = fs ∧ (params.posonlyargs ++ params.args).head? = some ar ∧ ar.arg = "self" ∧ scope.kind = .function ∧ scope.isCoroutine = false ∧ scope.isGenerator = false ∧
    (∀ x ∈ scope.names, x.2 ≠ .cell) ∧ (∀ y ∈ (("self" : Str) :: fs), scope.names.lookup y = some .local) ∧ (∀ y ∈ fs, (y == ("__debug__" : Str)) = false) ∧ scope.names.lookup ("super" : Str) = some .globalImplicit ∧ scope.names.lookup ("__class__" : Str) = some .free ∧
    (("self" : Str) :: fs).Nodup ∧
    (∀ us : List Value, us.length = (("self" : Str) :: fs).length → bindArgs (ksFn "__init__" qual params (.Expr (.Call (.Attribute (.Call (.Name "super" p0) [] [] p1) "__init__" p2) [.Constant (.str tx) j p3] [] p4) p5 :: l.map mkStore) scope .none .none doc pm an (.ref cda) ct cc) ⟨us, []⟩ = pure ((("self" : Str) :: fs).zip us)) ∧
    ∃ pl : Addr → Sem Bool, ∀ L : Addr, eval (.Call (.Attribute (.Call (.Name "super" p0) [] [] p1) "__init__" p2) [.Constant (.str tx) j p3] [] p4) (ksEnv qual scope L fI (.ref cda) cc) = (do
      let ov ← attributeBase (.Call (.Name "super" p0) [] [] p1) "__init__" (ksEnv qual scope L fI (.ref cda) cc) (eval (.Call (.Name "super" p0) [] [] p1) (ksEnv qual scope L fI (.ref cda) cc))
      standAt p2.atName
      let (f, first) ← holding [ov] (getMethod ov "__init__" (pl L))
      callWith p4 f first (backTo p4 (starEach [Expr.Constant (.str tx) j p3] (ksEnv qual scope L fI (.ref cda) cc))) [])

theorem lookup_rev {y : Str} {v : Value} : ∀ {l : List (Str × Value)}, (l.map (·.1)).Nodup → (y, v) ∈ l → l.reverse.lookup y = some v := by
  intro l nd hm
  have nd' : (l.reverse.map (·.1)).Nodup := by rw [List.map_reverse]; exact (List.reverse_perm _).nodup_iff.mpr nd
  have hm' : (y, v) ∈ l.reverse := List.mem_reverse.mpr hm
  revert nd' hm'
  generalize l.reverse = r
  intro nd' hm'
  induction r with
  | nil => cases hm'
  | cons p r ih =>
    obtain ⟨z, u⟩ := p
    rw [List.map_cons, List.nodup_cons] at nd'
    rcases List.mem_cons.mp hm' with e | e
    · cases e
      simp [List.lookup]
    · have hz : y ≠ z := fun q => nd'.1 (List.mem_map.mpr ⟨(y, v), e, q⟩)
      have hb : (y == z) = false := by simpa using hz
      simp only [List.lookup, hb]
      exact ih nd'.2 e

section
variable {prog : Program} {w : World} {A : Around} {R : Result → Shared → Prop} {s : Shared} {K : Frag} {mg : Str → Option Value} {xn : Str} {C fI cc cda x t0 : Addr} {fs : List Str}
theorem sx_init (T : SupTxt prog K mg xn C fI cc cda fs) (TF : SupFn K fI cc cda fs) (S : SupMod prog K mg) {vs : List Value} (hvl : vs.length = fs.length) (hfl : fs.length ≤ 900) (X : K.In s.heap) (hlim : s.heap.NoLimit) (hg : s.heap.Ns mainGlobals mg) (hb : ∃ mb, s.heap.Ns builtinsNs mb ∧ ∀ x : Str, x ≠ "__name__" → mb x = bootBuiltins x)
    (hx : s.heap.get? x = some (excO C t0)) (hKx : K.lookup x = none) (hroom : A.depth < recursionLimit)
    (hq : ∀ h' tk, InitBehind s.heap h' x C (fs.zip vs) → R (.ok (.ret .none)) { s with heap := h', toks := tk }) :
    codeAny (model prog w) A (.call (.ref fI) ⟨.ref x :: vs, []⟩) R s := by
  obtain ⟨oc, od, osl, qual, params, scope, doc, pm, ct, an, l, tx, j, p0, p1, p2, p3, p4, p5, ar, lk, hcd, hlf, hhead, har, hk, hco, hgen, hcell, hloc, hdbg, hsup, hcls, hnd, hbind, pl, hev⟩ := TF.ex
  have hln : (Value.ref x :: vs).length = (("self" : Str) :: fs).length := by simp only [List.length_cons, hvl]
  have hl2 : l.length = vs.length := by rw [hvl, ← hlf, List.length_map]
  have hmapn : ((("self" : Str) :: fs).zip (Value.ref x :: vs)).map (·.1) = ("self" : Str) :: fs := by
    rw [List.map_fst_zip]; exact Nat.le_of_eq hln.symm
  refine ks_codeAny_call_defAt (fd := ksFn "__init__" qual params _ scope .none .none doc pm an (.ref cda) ct cc) (binds := (("self" : Str) :: fs).zip (Value.ref x :: vs)) hroom (X _ _ lk) rfl hlim (codeRec_of X hcd) rfl (BindsTo.of_eq (hbind _ hln)) hcell (fun y hy => hloc _ (List.of_mem_zip hy).1) (fun h1 hns1 kk1 => ?_) hco hgen hk
  have X1 : K.In h1 := X.keeps kk1
  have hx1 := kk1 _ _ hx
  have hself : ((("self" : Str) :: fs).zip (Value.ref x :: vs)).reverse.lookup ("self" : Str) = some (Value.ref x) := lookup_rev (by rw [hmapn]; exact hnd) (by simp)
  have hLx : s.heap.objs.size ≠ x := Nat.ne_of_gt (Heap.lt_size hx)
  obtain ⟨mb, hbn, hbb⟩ := hb
  have up : ∀ {b : Addr} {mm : Str → Option Value}, s.heap.Ns b mm → h1.Ns b mm := fun {b mm} z => by
    obtain ⟨o, es, ep, e, r⟩ := z
    exact ⟨o, es, ep, kk1 _ _ e, r⟩
  show _root_.PySem.wpAt _ (A.deeper (ksEnv qual scope s.heap.objs.size fI (.ref cda) cc)) (.func _ (ksEnv qual scope s.heap.objs.size fI (.ref cda) cc)) (execs _ (ksEnv qual scope s.heap.objs.size fI (.ref cda) cc)) _ _ _
  refine sx_first (m := fun y => ((("self" : Str) :: fs).zip (Value.ref x :: vs)).reverse.lookup y) T S X1 (up hg) ⟨mb, up hbn, hbb⟩ lk hhead har hns1 hself hx1 hLx hsup hcls (hloc _ (List.mem_cons_self ..)) hk (fun h2 tk2 t2 kk2 hx2 hns2 => ?_) (hev _)
  have X2 : K.In h2 := fun a o e => kk2 a o (fun z => by rw [z, hKx] at e; cases e) (X1 a o e)
  have zl : (l.zip vs).map (fun p => mkStore p.1) = l.map mkStore := by
    have e1 : (l.zip vs).map (fun p => mkStore p.1) = ((l.zip vs).map Prod.fst).map mkStore := by rw [List.map_map]; rfl
    rw [e1, List.map_fst_zip (Nat.le_of_eq hl2)]
  have zf : (l.zip vs).map (fun p => (p.1.1, p.2)) = fs.zip vs := by
    rw [← hlf, List.zip_map_left]
    rfl
  rw [← zl]
  refine sx_stores T hk (hloc _ (List.mem_cons_self ..)) (l.zip vs) (fun p hp => ?_) (by rw [List.length_zip]; omega) X2 hns2 hself hLx hx2 hKx (fun h3 tk3 IB => ?_)
  · have h1 : p.1.1 ∈ fs := by rw [← hlf]; exact List.mem_map.mpr ⟨p.1, (List.of_mem_zip hp).1, rfl⟩
    refine ⟨h1, hloc _ (List.mem_cons_of_mem _ h1), hdbg _ h1, lookup_rev (by rw [hmapn]; exact hnd) ?_⟩
    rw [List.zip_cons_cons]
    refine List.mem_cons_of_mem _ ?_
    rw [← zf]
    exact List.mem_map.mpr ⟨p, hp, rfl⟩
  · rw [zf] at IB
    have kk12 : ∀ b o, b ≠ x → s.heap.get? b = some o → h2.get? b = some o := fun b o hb e => kk2 b o hb (kk1 b o e)
    refine hq h3 tk3 ?_
    have sz : s.heap.objs.size ≤ h2.objs.size := Nat.le_of_lt hns2.lt
    revert IB
    cases fs.zip vs with
    | nil => exact fun IB => ⟨fun b o hb e => IB.1 b o hb (kk12 b o hb e), IB.2⟩
    | cons p r => exact fun IB => ⟨fun b o hb e => IB.1 b o hb (kk12 b o hb e), by
        obtain ⟨t1, dx, e1, e2, e3, e4⟩ := IB.2
        exact ⟨t1, dx, e1, Nat.le_trans sz e2, e3, e4⟩⟩

/-- what a made exception is: its object at e, its fields -/
def MadeAt (h h' : Heap) (e C : Addr) : List (Str × Value) → Prop
  | [] => ∃ t1, h'.get? e = some (excO C t1)
  | l => ∃ t1 dx, h'.get? e = some { cls := .ref C, dict := some dx, data := .fields #[.ref t1, .none, .none, .none, .bool false, .none] } ∧ h.objs.size ≤ dx ∧ dx ≠ e ∧ h'.Ns1 dx (laid l fun _ => none)
theorem sx_made (T : SupTxt prog K mg xn C fI cc cda fs) (TF : SupFn K fI cc cda fs) (S : SupMod prog K mg) {vs : List Value} (hvl : vs.length = fs.length) (hfl : fs.length ≤ 900) (X : K.In s.heap) (hlim : s.heap.NoLimit) (hg : s.heap.Ns mainGlobals mg) (hb : ∃ mb, s.heap.Ns builtinsNs mb ∧ ∀ x : Str, x ≠ "__name__" → mb x = bootBuiltins x)
    (hroom : A.depth + 1 < recursionLimit)
    (hq : ∀ h' tk e, (∀ b o, s.heap.get? b = some o → h'.get? b = some o) → s.heap.objs.size ≤ e → MadeAt s.heap h' e C (fs.zip vs) → R (.ok (.ret (.ref e))) { s with heap := h', toks := tk }) :
    codeAny (model prog w) A (.call (.ref C) ⟨vs, []⟩) R s := by
  obtain ⟨nm, q, N, bs, bm, sn, sub, ab, col, dd, k0, k1, k2, k3, k5, hC, hbm⟩ := T.cls
  obtain ⟨hp, g, dr, tk, os⟩ := s
  have k : ∀ b o, hp.get? b = some o → ((hp.push (kdv_tup vs)).push (excO C hp.objs.size)).get? b = some o := fun b o e => Heap.get?_push_of_some _ (Heap.get?_push_of_some _ e)
  have hget : ((hp.push (kdv_tup vs)).push (excO C hp.objs.size)).get? (hp.objs.size + 1) = some (excO C hp.objs.size) := by heap_get
  have hnx : K.lookup (hp.objs.size + 1) = none := by
    cases e : K.lookup (hp.objs.size + 1) with
    | none => rfl
    | some o =>
      have z : hp.get? (hp.objs.size + 1) = some o := X _ _ e
      exact absurd (Nat.lt_of_succ_lt (Heap.lt_size z)) (Nat.lt_irrefl _)
  have up : ∀ {b : Addr} {mm : Str → Option Value}, hp.Ns b mm → ((hp.push (kdv_tup vs)).push (excO C hp.objs.size)).Ns b mm := fun {b mm} z => by
    obtain ⟨o, es, ep, e, r⟩ := z
    exact ⟨o, es, ep, k _ _ e, r⟩
  obtain ⟨mb, hbn, hbb⟩ := hb
  have hsz : ((hp.push (kdv_tup vs)).push (excO C hp.objs.size)).objs.size = hp.objs.size + 1 + 1 := by rw [Heap.size_push, Heap.size_push]
  refine call_own F.excBase_ValueError (fun X => refsVE_contains X bm hbm) (X _ _ hC) (looks_findIn X T.iC) (fun self => bind_fn X self T.tI) (by rw [hvl, sizeLine_eq]; omega) ?_
  refine sx_init (s := ⟨(hp.push (kdv_tup vs)).push (excO C hp.objs.size), g, dr, tk, os⟩) T TF S hvl hfl (X.keeps k) (hlim.keeps k) (up hg) ⟨mb, up hbn, hbb⟩ hget hnx ?_ fun h' tk' IB => ?_
  · show A.depth + 1 < recursionLimit
    exact hroom
  · have old : ∀ b o, hp.get? b = some o → b ≠ hp.objs.size + 1 := fun b o e => Nat.ne_of_lt (Nat.lt_succ_of_lt (Heap.lt_size e))
    refine ⟨rfl, ?_⟩
    revert IB
    generalize ez : fs.zip vs = l
    intro IB
    cases l with
    | nil =>
      obtain ⟨k', t1, hx⟩ := IB
      exact hq h' tk' (hp.objs.size + 1) (fun b o e => k' b o (old b o e) (k b o e)) (Nat.le_succ _) (by rw [ez]; exact ⟨t1, hx⟩)
    | cons p r =>
      obtain ⟨k', t1, dx, hx, dn, dne, hns⟩ := IB
      exact hq h' tk' (hp.objs.size + 1) (fun b o e => k' b o (old b o e) (k b o e)) (Nat.le_succ _) (by
        rw [ez]
        exact ⟨t1, dx, hx, Nat.le_trans (Nat.le_trans (Nat.le_succ _) (Nat.le_succ _)) (by show hp.objs.size + 1 + 1 ≤ dx; rw [← hsz]; exact dn), dne, hns⟩)
end
end SupX
end PySem
namespace L2
open PySem PySem.Spec PyProof.Rows
theorem laid_out : ∀ {l : List (Str × Value)} {m0 : Str → Option Value} {f : Str}, f ∉ l.map (·.1) → PySem.SupX.laid l m0 f = m0 f
  | [], _, _, _ => rfl
  | (g, v) :: r, m0, f, h => by
    have h1 : f ≠ g := fun e => h (by simp [e])
    have h2 : f ∉ r.map (·.1) := fun e => h (by simp only [List.map_cons]; exact List.mem_cons_of_mem _ e)
    show PySem.SupX.laid r _ f = _
    rw [laid_out h2, if_neg h1]
theorem relO_laid : ∀ {fs : List Str} {vs : List V} {us : List Value}, fs.Nodup → Vals vs us → ∀ (m0 : Str → Option Value) (f : Str), f ∈ (fs.zip vs).map (·.1) → RelO ((fs.zip vs).lookup f) (PySem.SupX.laid (fs.zip us) m0 f)
  | [], _, _, _, _, _, _, h => by simp at h
  | _ :: _, _, _, _, .nil, _, _, h => by simp at h
  | g :: fs, _, _, hn, .cons (b := u) (a := v) r t, m0, f, h => by
    obtain ⟨h1, h2⟩ := List.nodup_cons.mp hn
    show RelO (List.lookup f ((g, v) :: fs.zip _)) (PySem.SupX.laid (fs.zip _) (fun y => if y = g then some u else m0 y) f)
    by_cases e : f = g
    · subst e
      have nz : f ∉ (fs.zip (by assumption)).map (·.1) := fun z => h1 (by
        obtain ⟨p, hp, e⟩ := List.mem_map.mp z
        rw [← e]
        exact (List.of_mem_zip hp).1)
      rw [laid_out (l := fs.zip _) (by
        intro z
        obtain ⟨p, hp, e⟩ := List.mem_map.mp z
        exact h1 (by rw [← e]; exact (List.of_mem_zip hp).1)), if_pos rfl]
      simp only [List.lookup, beq_self_eq_true]
      exact r
    · have hb : (f == g) = false := by simpa using e
      simp only [List.lookup, hb]
      refine relO_laid h2 t _ f ?_
      simp only [List.zip_cons_cons, List.map_cons, List.mem_cons] at h
      exact h.resolve_left e
theorem zip_keys {α β : Type} : ∀ (fs : List Str) (vs : List α) (us : List β), vs.length = us.length → (fs.zip vs).map (·.1) = (fs.zip us).map (·.1)
  | [], _, _, _ => rfl
  | _ :: _, [], [], _ => rfl
  | _ :: _, [], _ :: _, h => by simp at h
  | _ :: _, _ :: _, [], h => by simp at h
  | f :: fs, v :: vs, u :: us, h => by
    show f :: (fs.zip vs).map (·.1) = f :: (fs.zip us).map (·.1)
    rw [zip_keys fs vs us (by simpa using h)]
theorem relO_laid0 {fs : List Str} {vs : List V} {us : List Value} (hn : fs.Nodup) (r : Vals vs us) (f : Str) : RelO ((fs.zip vs).lookup f) (PySem.SupX.laid (fs.zip us) (fun _ => none) f) := by
  by_cases h : f ∈ (fs.zip vs).map (·.1)
  · exact relO_laid hn r _ f h
  · have hl := r.length
    have e1 : (fs.zip vs).map (·.1) = (fs.zip us).map (·.1) := by
      exact zip_keys fs vs us hl
    rw [laid_out (by rw [← e1]; exact h)]
    have e2 : (fs.zip vs).lookup f = none := by
      revert h
      generalize fs.zip vs = l
      induction l with
      | nil => intro _; rfl
      | cons p l ih =>
        intro h
        obtain ⟨g, v⟩ := p
        have h1 : f ≠ g := fun e => h (by simp [e])
        have hb : (f == g) = false := by simpa using h1
        simp only [List.lookup, hb]
        exact ih fun z => h (by simp only [List.map_cons]; exact List.mem_cons_of_mem _ z)
    rw [e2]
    trivial
/-- all that is asked of such a class, at one place -/
structure ExT (prog : Program) (K : PySem.W.Frag) (mg : Str → Option Value) (x : Str) (C : Addr) (fs : List Str) : Prop where
  ex : ∃ fI cc cda, PySem.SupX.SupTxt prog K mg x C fI cc cda fs ∧ PySem.SupX.SupFn K fI cc cda fs
  md : PySem.SupX.SupMod prog K mg
  nd : fs.Nodup
  le : fs.length ≤ 900
theorem ExT.gC {prog : Program} {K : PySem.W.Frag} {mg : Str → Option Value} {x : Str} {C : Addr} {fs : List Str} (T : ExT prog K mg x C fs) : mg x = some (.ref C) := let ⟨_, _, _, a, _⟩ := T.ex; a.gC
theorem ExT.kC {prog : Program} {K : PySem.W.Frag} {mg : Str → Option Value} {x : Str} {C : Addr} {fs : List Str} (T : ExT prog K mg x C fs) : PySem.W.keepIn K (.ref C) = true := let ⟨_, _, _, a, _⟩ := T.ex; a.kC
theorem ExT.xf {prog : Program} {K : PySem.W.Frag} {mg : Str → Option Value} {x : Str} {C : Addr} {fs : List Str} (T : ExT prog K mg x C fs) : XfC K C := let ⟨_, _, _, a, _⟩ := T.ex; a.xf
theorem ExT.tyC {prog : Program} {K : PySem.W.Frag} {mg : Str → Option Value} {x : Str} {C : Addr} {fs : List Str} (T : ExT prog K mg x C fs) : PySem.W.typeIn K (.ref C) = some (.type "type") := let ⟨_, _, _, a, _⟩ := T.ex; a.tyC
theorem ExT.noF {prog : Program} {K : PySem.W.Frag} {mg : Str → Option Value} {x : Str} {C : Addr} {fs : List Str} (T : ExT prog K mg x C fs) {f : Str} (h : f ∈ fs) : PySem.W.findIn K (.ref C) f = some none := let ⟨_, _, _, a, _⟩ := T.ex; a.noF f h
/-- C(e, ..) for such a class -/
def tMkX (C : Addr) (fs : List Str) (ta : TA) : St → Hp → XK → Prop := fun σ H Q => ta σ H fun vs H1 => vs.length = fs.length ∧ (fs = [] → Q (.ref C) none H1) ∧ (fs ≠ [] → ∀ d, H1 d = none → Q (.ref C) (some d) (upd H1 d (.xd (fs.zip vs))))
section
variable {X : Cx} {C : Addr} {fs : List Str} {x : Str}
/-- what the call of the class leaves -/
theorem mkx_end {pins : List (Addr × Obj)} {σ : St} {H1 : Hp} {s1 : Shared} {Q : XK} {vs : List V} {us : List Value} {A : Around} {k : Nat} (T : ExT X.prog X.K X.mg x C fs) (hr : Room k X.A) (I1 : Inv X pins σ H1 s1) (r1 : Vals vs us) (hl : vs.length = fs.length)
    (q0 : fs = [] → Q (.ref C) none H1) (q1 : fs ≠ [] → ∀ d, H1 d = none → Q (.ref C) (some d) (upd H1 d (.xd (fs.zip vs)))) :
    wpAny (model X.prog X.w) X.A (call (.ref C) us) (MkP X pins σ Q) X.xe s1 := by
  obtain ⟨fI, cc, cda, T1, T2⟩ := T.ex
  have hlim := I1.nolimit
  have hgl := I1.mod.glob.keeps I1.bk
  obtain ⟨mb, hb1, hb2⟩ := I1.mod.blt
  have hus : us.length = fs.length := by rw [← r1.length]; exact hl
  obtain ⟨hp, g, dr, tk, os⟩ := s1
  refine wpAny_call (PySem.SupX.sx_made T1 T2 T.md hus T.le I1.kIn hlim hgl ⟨mb, hb1.keeps I1.bk, hb2⟩ (by have := hr.dp; omega) fun h' tk' e kp en M => ?_)
  show MkP X pins σ Q (.ref e) ⟨h', g, dr, tk', os⟩
  obtain ⟨G', g1, g2⟩ := restrict h' fun b => decide (b ≠ e)
  have gk : ∀ b, b ≠ e → G'.get? b = h'.get? b := fun b hb => g1 b (decide_eq_true hb)
  have ge : G'.get? e = none := g2 e (by simp)
  have old : ∀ b o, hp.get? b = some o → G'.get? b = some o := fun b o q => (gk b (Nat.ne_of_lt (Nat.lt_of_lt_of_le (Heap.lt_size q) en))).trans (kp b o q)
  have R : Raises X (.ref C) := raises_own T1.xf.exC T1.tyC
  have kk : ∀ b o, G'.get? b = some o → h'.get? b = some o := fun b o q => by
    by_cases hb : b = e
    · rw [hb, ge] at q; cases q
    · exact (gk b hb).symm.trans q
  cases fs with
  | nil =>
    have M' : ∃ t1, h'.get? e = some (HandSPX.excO C t1) := by
      cases us with
      | nil => exact M
      | cons _ _ => exact M
    obtain ⟨t1, he⟩ := M'
    have J : Inv X pins σ H1 ⟨G', g, dr, tk', os⟩ := I1.kept (t' := tk') old
    exact ⟨e, _, _, ⟨G', g, dr, tk', os⟩, H1, .ref C, none, rfl, J, kk, ge, he, ⟨rfl, rfl⟩, rfl, rfl, I1.hok.fresh en, rfl, I1.bare, R, q0 rfl⟩
  | cons f fr =>
    cases us with
    | nil => simp at hus
    | cons u ur =>
      obtain ⟨t1, dx, he, hdx, dne, hns⟩ := M
      have ob : ObjOk X.prog X.w (upd H1 dx (.xd ((f :: fr).zip vs))) G' dx (.xd ((f :: fr).zip vs)) :=
        ⟨_, hns.at (fun o q => (gk dx dne).trans q), fun y => relO_laid0 T.nd r1 y⟩
      have J : Inv X pins σ (upd H1 dx (.xd ((f :: fr).zip vs))) ⟨G', g, dr, tk', os⟩ := I1.laid (t' := tk') old hdx ob
      refine ⟨e, _, _, ⟨G', g, dr, tk', os⟩, _, .ref C, some dx, rfl, J, kk, ge, he, ⟨rfl, rfl⟩, rfl, rfl, ?_, rfl, I1.bare, R, q1 (by simp) dx (I1.hok.fresh hdx)⟩
      rw [upd_ne (Ne.symm dne)]
      exact I1.hok.fresh en
theorem pmk_x {a : Expr} {es : List Expr} {ta : TA} {p pos : Pos} {k : Nat} (T : ExT X.prog X.K X.mg x C fs) (hr : Room k X.A) (ha : PA X (a :: es) ta) (hg : Gl X x := by rfl) (hdb : (x == ("__debug__" : Str)) = false := by decide)
    (he : starEach (a :: es) X.env = (false, eval a X.env) :: starEach es X.env := by rfl) (hpl : (backTo pos (starEach es X.env)).any (·.1) = false := by rfl) :
    PMk X (.Call (.Name x p) (a :: es) [] pos) (tMkX C fs ta) := by
  intro pins s σ H Q I h
  refine wpAny_Call_Name_kw (ld_glob I hg T.gC ?_ hdb)
  refine PySem.W.callWith_K (h₀ := X.base) I.ok.mod.kin T.kC (thn (ha.run pos pins s σ H _ I h) fun us s1 ⟨vs, H1, I1, r1, hl, q0, q1⟩ => ⟨I1.kIn, ?_⟩) he hpl
  exact mkx_end (A := X.A) T hr I1 r1 hl q0 q1
theorem pmk_x0 {p pos : Pos} {k : Nat} (T : ExT X.prog X.K X.mg x C fs) (hr : Room k X.A) (hg : Gl X x := by rfl) (hdb : (x == ("__debug__" : Str)) = false := by decide) :
    PMk X (.Call (.Name x p) [] [] pos) (tMkX C fs tNil) := by
  intro pins s σ H Q I h
  obtain ⟨hl, q0, q1⟩ := h
  refine wpAny_Call_Name_kw (ld_glob I hg T.gC ?_ hdb)
  exact PySem.W.callWith_K0 I.kIn T.kC (mkx_end (A := X.A) T hr I .nil hl q0 q1)
/-- raise C(e, ..) -/
def tRaiseX (C : Addr) (fs : List Str) (W : WX) (ta : TA) : TS := fun _ σ H => tMkX C fs ta σ H fun cls d H' => W cls d σ H'
theorem ps_raiseX {a : Expr} {es : List Expr} {ta : TA} {W : WX} {p pos pos2 : Pos} {k : Nat} (hc : X.calm = true) (T : ExT X.prog X.K X.mg x C fs) (hr : Room k X.A) (tk : Takes X W) (ha : PA X (a :: es) ta) (hg : Gl X x := by rfl) (hdb : (x == ("__debug__" : Str)) = false := by decide)
    (he : starEach (a :: es) X.env = (false, eval a X.env) :: starEach es X.env := by rfl) (hpl : (backTo pos (starEach es X.env)).any (·.1) = false := by rfl) :
    PS X (.Raise (some (.Call (.Name x p) (a :: es) [] pos)) none pos2) (tRaiseX C fs W ta) := ps_raise hc tk (pmk_x T hr ha hg hdb he hpl)
theorem ps_raiseX0 {W : WX} {p pos pos2 : Pos} {k : Nat} (hc : X.calm = true) (T : ExT X.prog X.K X.mg x C fs) (hr : Room k X.A) (tk : Takes X W) (hg : Gl X x := by rfl) (hdb : (x == ("__debug__" : Str)) = false := by decide) :
    PS X (.Raise (some (.Call (.Name x p) [] [] pos)) none pos2) (tRaiseX C fs W tNil) := ps_raise hc tk (pmk_x0 T hr hg hdb)
end
end L2

/-! enumerate of a tuple, at the library's level -/
namespace PySem
open AutoSeq1 (wpAny_loadPart')
theorem meets_enumerate_newT (l : Addr) (items : Array Value) (n : Nat) (dct : Option Addr) (sl : Array (Option Value)) :
    Meets (Builtin.«enumerate.__new__» ⟨[.type "enumerate", .ref l], []⟩) (fun _ R s => s.heap.get? l = some { cls := .type "tuple", dict := dct, data := .seq items n, slots := sl } ∧
      R (.ok (.ret (.ref (s.heap.push { cls := .type "tuple_iterator", data := .fields #[.ref l, .int 0 0] }).objs.size)))
        { s with heap := (s.heap.push { cls := .type "tuple_iterator", data := .fields #[.ref l, .int 0 0] }).push { cls := .type "enumerate", data := .fields #[.none, .bool false, .ref s.heap.objs.size, rawInt 0, .none, .none] } }) :=
  .of_wp fun prog w A R s h => by
    obtain ⟨hp, g, d, tk, os⟩ := s; obtain ⟨hl, h⟩ := h
    have hsub := sub_enumerate
    have hL : Heap.IsTuple (Shared.heap ⟨hp, g, d, tk, os⟩) l items := ⟨_, hl, rfl, n, rfl⟩
    wp_walk using wpAny_loadPart' hl
    refine wpAny_stack_any fun st => wpAny_pure ?_
    split
    · rename_i c _ _ _ _ _
      cases (c == Value.type "enumerate")
      · wp_walk using wpAny_loadPart' hl, wpAny_pyIter_tuple hL
        exact ⟨_, rfl, h⟩
      · wp_walk using wpAny_loadPart' hl, wpAny_pyIter_tuple hL
        exact ⟨_, rfl, h⟩
    · wp_walk using wpAny_loadPart' hl, wpAny_pyIter_tuple hL
      exact ⟨_, rfl, h⟩
section
variable {prog : Program} {w : World} {A : Around} {E : Value → Shared → Prop} {s : Shared}
theorem call_enumerate_tup {l : Addr} {items : Array Value} {Q : Value → Shared → Prop} (hL : s.heap.IsTuple l items)
    (h : ∀ h', IsEnum h' (s.heap.objs.size + 1) s.heap.objs.size 0 .none → h'.IsTupleIter s.heap.objs.size l 0 → h'.objs.size = s.heap.objs.size + 2 →
      (∀ b o, s.heap.get? b = some o → h'.get? b = some o) → Q (.ref (s.heap.objs.size + 1)) { s with heap := h' }) :
    wpAny (model prog w) A (call (.type "enumerate") [.ref l]) Q E s := by
  obtain ⟨⟨c, dct, dt, sl⟩, hl, hc, n, hd⟩ := hL
  replace hc : c = .type "tuple" := hc
  replace hd : dt = .seq items n := hd
  subst hc hd
  refine callType_new F.called_enumerate (by decide) (F.typeCall_enumerate_1 _) (F.newCall_enumerate_1 _) (fun obj => F.args_object_init_2 obj _) F.entry_enumerate_new
    (meets_enumerate_newT l items n dct sl) ⟨hl, ?_⟩
  have hz : (s.heap.push { cls := .type "tuple_iterator", data := .fields #[.ref l, .int 0 0] }).objs.size = s.heap.objs.size + 1 := Heap.size_push ..
  show _ ∧ _
  rw [hz]
  have he : IsEnum ((s.heap.push { cls := .type "tuple_iterator", data := .fields #[.ref l, .int 0 0] }).push
      { cls := .type "enumerate", data := .fields #[.none, .bool false, .ref s.heap.objs.size, rawInt 0, .none, .none] }) (s.heap.objs.size + 1) s.heap.objs.size 0 .none := by
    have := Heap.get?_push_size (s.heap.push { cls := .type "tuple_iterator", data := .fields #[.ref l, .int 0 0] })
      (o := { cls := .type "enumerate", data := .fields #[.none, .bool false, .ref s.heap.objs.size, rawInt 0, .none, .none] }) rfl
    rw [hz] at this; exact this
  refine ⟨⟨_, he, rfl⟩, h _ he ⟨_, Heap.get?_push_of_some _ (Heap.get?_push_size _ rfl), rfl, rfl⟩ (by rw [Heap.size_push, hz]) fun b o x => Heap.get?_push_of_some _ (Heap.get?_push_of_some _ x)⟩
end
end PySem

/-! Rules of my own beside the hand layer's. -/
namespace L2
open PySem PySem.Spec PyProof.Rows
/-! ### enumerate of a tuple -/
def IteT (K : PySem.W.Frag) (a : Addr) : It :=
  ⟨fun i H => ∃ (xs : List V) (x : V), SqT K H a xs ∧ xs[i]? = some x, fun i H v H' => ∃ T x, v = .ref T ∧ H T = none ∧ H' = upd H T (.tup [.int (i : Nat), x]) ∧ ∀ xs, SqT K H a xs → xs[i]? = some x, fun i H => ∃ xs : List V, SqT K H a xs ∧ xs.length ≤ i⟩
theorem turn_enumT {P : Program} {w : World} {K : PySem.W.Frag} {elts : List Expr} {kk : Nat} {tpos : Pos} (a e it : Addr) (its : Array Value) (hai : a ≠ it) (hae : a ≠ e) :
    Turn P w K (.Tuple elts kk tpos) (IteT K a) [e, it] e (fun i h => (∃ old, IsEnum h e it ((i : Nat) : Int) old) ∧ h.IsTupleIter it a i ∧ e ≠ it) where
  mem := by simp
  obj := fun i h st b hb => by
    obtain ⟨⟨old, he⟩, ⟨o, ho, hc, hd⟩, _⟩ := st
    have e' : b = e ∨ b = it := by simpa using hb
    rcases e' with z | z
    · rw [z]; exact ⟨_, he, fun v q => nomatch q⟩
    · rw [z]; exact ⟨o, ho, fun v q => by rw [hd] at q; cases q⟩
  keep := fun i h h' st k => let ⟨⟨old, he⟩, hi, hne⟩ := st; ⟨⟨old, k e (by simp) _ he⟩, hi.at fun o q => k it (by simp) o q, hne⟩
  item := by
    intro X hP hw hK hc i pins s σ H E I hf st hg
    subst hP hw hK
    obtain ⟨⟨old, he⟩, hit, hne⟩ := st
    obtain ⟨xs, x, hq, hx⟩ := hg
    obtain ⟨its, rv, p, hz⟩ := I.tuple hq
    obtain ⟨u, hu, ru⟩ := rv.get hx
    have hel : e < s.heap.objs.size := Heap.lt_size he
    have hil : it < s.heap.objs.size := by obtain ⟨_, q, _⟩ := hit; exact Heap.lt_size q
    have hlt : i < its.toArray.size := by
      have := (List.getElem?_eq_some_iff.mp hu).1
      simpa using this
    refine wpAny_pyNext_enum_itemD (PySem.Draws.tuple (prog := X.prog) (w := X.w) (A := X.A.in1) (I.ok.hd hc) it a hai its.toArray) he ⟨hit, p⟩ hlt hne (by simp [hne, Ne.symm hae]) fun x' h' tk hP ho hs' hT hsz hk => ?_
    have hxu : x' = u := by
      have : its.toArray[i]? = some x' := hP
      have e2 : its.toArray[i]? = some u := by simpa using hu
      exact Option.some.inj (this.symm.trans e2)
    subst hxu
    refine ⟨_, rfl, wpAny_letOwnedTupleGo_enum (s := { s with heap := h', toks := tk + 1 }) ho fun h'' he' sb => ?_⟩
    have hT2 : h''.get? s.heap.objs.size = some { cls := .type "tuple", data := .seq #[.int i tk, x'] } := (sb.2 _ (Nat.ne_of_gt hel)).trans hT
    have new : ObjOk X.prog X.w (upd H s.heap.objs.size (.tup [.int (i : Nat), x])) h'' s.heap.objs.size (.tup [.int (i : Nat), x]) :=
      ⟨by show 2 ≤ sizeLine; decide, [.int i tk, x'], .cons ⟨_, rfl⟩ (.cons ru .nil), ⟨_, hT2, rfl, _, rfl⟩⟩
    have I1 : Inv X pins σ (upd H s.heap.objs.size (.tup [.int (i : Nat), x])) { s with heap := h'', toks := tk + 1 } :=
      I.turnedNew (ch := [e, it]) (fun b ob hb q => (sb.2 b (fun z => hb (by simp [z]))).trans (hk b ob (fun z => hb (by simp [z])) (fun z => hb (by simp [z])) q)) hf (Nat.le_refl _) new
    refine ⟨.ref s.heap.objs.size, _, I1, rfl, ⟨_, x, rfl, I.hok.fresh (Nat.le_refl _), rfl, fun ys hy => by rw [I.tuple_inj hy hq]; exact hx⟩, ⟨⟨x', ?_⟩, hs'.1.at fun o q => (sb.2 it (Ne.symm hne)).trans q, hne⟩, fun b hb => ?_⟩
    · have e1 : ((i + 1 : Nat) : Int) = (i : Int) + 1 := by omega
      rw [e1]; exact he'
    · have hb' : b < s.heap.objs.size := by
        have e' : b = e ∨ b = it := by simpa using hb
        rcases e' with z | z
        · rw [z]; exact hel
        · rw [z]; exact hil
      rw [upd_ne (Nat.ne_of_lt hb')]
      exact (hf b hb).1
  done := by
    intro X hP hw hK hc i pins s σ H E I hf st hg
    subst hP hw hK
    obtain ⟨⟨old, he⟩, hit, hne⟩ := st
    obtain ⟨xs, hq, hx⟩ := hg
    obtain ⟨its, rv, p, hz⟩ := I.tuple hq
    obtain ⟨f0, f1, f2, f3, f4, f5⟩ := hf it (by simp)
    have hl := rv.length
    have D := PySem.Draws.tuple (prog := X.prog) (w := X.w) (A := X.A.in1) (I.ok.hd hc) it a hai its.toArray
    have hT : s.TypeIs (.ref e) "enumerate" := ⟨_, he, rfl⟩
    unfold pyNext
    refine wpAny_bind (wpAny_attempt (wpAny_callSpecial?_slot (name := Str.ofString "__next__") hT F.slot_enumerate_next
      (wpAny_call_entry F.slot_enumerate_next hT F.entry_enumerate_next ?_ (F.args_enumerate_next_1 _))))
    show wpAny _ _ (field (.ref e) 2 >>= _) _ _ _
    refine wpAny_bind (wpAny_field he rfl (x := .ref it) rfl ?_)
    refine wpAny_bind (PySem.wpAny_nextOf_tuple_end (I.ok.hd hc) hit p (by simp; omega) fun h' x he' hx' => ?_)
    obtain ⟨o, ho, hc'⟩ := hx'
    refine wpAny_bind (wpAny_isInstance (T := "StopIteration") (b := true) ⟨o, ho, hc'⟩ isSubtype_stop ?_)
    exact wpAny_pure ⟨rfl, I.turned (t' := s.toks) (fun b o hb q => he' b o hb q) f0 f1 f3 f4 f5⟩
  self := fun A i s Q E st h => let ⟨⟨_, he⟩, _⟩ := st; wpAny_pyIter_enum he h
def iEnumA (K : PySem.W.Frag) (ta : TA) : TI := fun σ H R => ta σ H fun vs H1 => ∃ a xs, vs = [.ref a] ∧ ((SqL K H1 a xs ∧ R (Ite K a) H1) ∨ (SqT K H1 a xs ∧ R (IteT K a) H1))
theorem pi_enumA {X : Cx} {e : Expr} {ta : TA} {p pos tpos : Pos} {elts : List Expr} {kk : Nat} (hg : Gl X "enumerate") (hm : X.mg "enumerate" = none) (ha : PA X [e] ta) (hs : starEach [e] X.env = [(false, eval e X.env)] := by rfl) :
    PI X (.Tuple elts kk tpos) (.Call (.Name "enumerate" p) [e] [] pos) (iEnumA X.K ta) := by
  refine ⟨fun pins s σ H R I h => ?_⟩
  refine Call_ (ld_blt I hg hm boot_enumerate (PyProof.Rows.callWith_type1 (thn (ha.run pos pins s σ H _ I h) fun us s1 ⟨vs, H1, I1, r1, q1⟩ => ?_) hs rfl))
  obtain ⟨a, xs, ex, q⟩ := q1
  subst ex
  cases r1 with
  | cons r rr =>
    cases rr
    cases r
    have fpo : ∀ b, b = s1.heap.objs.size + 1 ∨ b = s1.heap.objs.size → FpOk X pins H1 b := fun b e' => by
      have hle : s1.heap.objs.size ≤ b := by
        rcases e' with z | z
        · rw [z]; exact Nat.le_add_right _ _
        · rw [z]; exact Nat.le_refl _
      exact I1.fpOk hle (I1.hok.fresh hle)
    rcases q with ⟨hq, q⟩ | ⟨hq, q⟩
    · obtain ⟨its, rv, p', hz⟩ := I1.list hq
      refine call_enumerate_list p'.isList fun h' he hit hsz hk => wpAny_pyIter_enum he ?_
      have I2 : Inv X pins σ H1 { s1 with heap := h' } := I1.kept (t' := s1.toks) hk
      exact ⟨s1.heap.objs.size + 1, [s1.heap.objs.size + 1, s1.heap.objs.size], _, _, H1, rfl, I2, turn_enum a (s1.heap.objs.size + 1) s1.heap.objs.size, ⟨⟨.none, he⟩, hit, Nat.succ_ne_self _⟩, fun b hb => fpo b (by simpa using hb), q⟩
    · obtain ⟨its, rv, p', hz⟩ := I1.tuple hq
      have hlt : a < s1.heap.objs.size := p'.lt
      refine PySem.call_enumerate_tup (show s1.heap.IsTuple a its.toArray from p') fun h' he hit hsz hk => wpAny_pyIter_enum he ?_
      have I2 : Inv X pins σ H1 { s1 with heap := h' } := I1.kept (t' := s1.toks) hk
      exact ⟨s1.heap.objs.size + 1, [s1.heap.objs.size + 1, s1.heap.objs.size], _, _, H1, rfl, I2, turn_enumT a (s1.heap.objs.size + 1) s1.heap.objs.size its.toArray (Nat.ne_of_lt hlt) (Nat.ne_of_lt (Nat.lt_succ_of_lt hlt)), ⟨⟨.none, he⟩, hit, Nat.succ_ne_self _⟩, fun b hb => fpo b (by simpa using hb), q⟩
theorem walk_enumT {K : PySem.W.Frag} {a : Addr} {xs : List V} : Walk (IteT K a) xs.length (fun H => SqT K H a xs) (YPair (fun i => some (.int (i : Nat))) (fun i => xs[i]?)) := by
  refine ⟨fun i _ hi q => ⟨xs, xs[i], q, by simp [hi]⟩, fun _ q => ⟨xs, q, Nat.le_refl _⟩, fun i H v H' _ q y => ?_⟩
  obtain ⟨T, x, h1, h2, h3, h4⟩ := y
  exact ⟨T, .int (i : Nat), x, h1, h2, h3, rfl, h4 xs q⟩
end L2

/-! Calls by their promises, great numbers, steps of the readings. -/
namespace L2
open PySem PySem.Spec PyProof.Rows
/-! ### the module's names that are built-ins -/
structure Bn (mg : Str → Option Value) : Prop where
  len_ : mg "len" = none
  range : mg "range" = none
  int_ : mg "int" = none
  bool_ : mg "bool" = none
  str_ : mg "str" = none
  list_ : mg "list" = none
  tuple_ : mg "tuple" = none
  set_ : mg "set" = none
  abs_ : mg "abs" = none
  min_ : mg "min" = none
  max_ : mg "max" = none
  sum_ : mg "sum" = none
  any_ : mg "any" = none
  all_ : mg "all" = none
  sorted : mg "sorted" = none
  isinstance : mg "isinstance" = none
  enumerate : mg "enumerate" = none
  reversed : mg "reversed" = none
  zip : mg "zip" = none
/-! ### defs of the module, by their promises -/
/-- the def x of the module keeps sp at the level k -/
structure CallF (P : Program) (w : World) (K : PySem.W.Frag) (mg : Str → Option Value) (base : Heap) (x : Str) (ps : List Str) (k : Nat) (sp : Sp) : Prop where
  ex : ∃ f fd, FnOk P w K mg base (L2.CX P w) k f fd ps sp ∧ mg x = some (.ref f) ∧ PySem.W.keepIn K (.ref f) = true ∧ Binds K fd ps []
/-- the method m of the class at C -/
structure MethF (P : Program) (w : World) (K : PySem.W.Frag) (mg : Str → Option Value) (base : Heap) (C : Addr) (m : Str) (ps : List Str) (k : Nat) (sp : Sp) : Prop where
  ex : ∃ f fd, FnOk P w K mg base (L2.CX P w) k f fd ps sp ∧ Meth K C m f ∧ Binds K fd ps []
/-- the property m of the class at C -/
structure PropF (P : Program) (w : World) (K : PySem.W.Frag) (mg : Str → Option Value) (base : Heap) (C : Addr) (m : Str) (k : Nat) (sp : Sp) : Prop where
  ex : ∃ p f fd, FnOk P w K mg base (L2.CX P w) k f fd ["self"] sp ∧ PropOf K C m p f ∧ Binds K fd ["self"] []
/-- C(..) with the defaults dvs behind: what is wanted of its arguments -/
def spNew (C : Addr) (sp : Sp) (dvs : List V) : Sp := fun vs H Q E => ∀ x dx, H x = none → H dx = none → dx ≠ x →
  sp (.ref x :: (vs ++ dvs)) (upd (upd H dx (.own x)) x (.ins C dx [])) (fun v H2 => v = .non ∧ Q (.ref x) H2) E
/-- the class x at C, made; spC is told of the arguments -/
structure MakeF (P : Program) (w : World) (K : PySem.W.Frag) (mg : Str → Option Value) (base : Heap) (x : Str) (C : Addr) (k : Nat) (spC : Sp) : Prop where
  ex : ∃ f fd ps sp dvs ds, FnOk P w K mg base (L2.CX P w) k f fd ps sp ∧ Mk K C f ∧ mg x = some (.ref C) ∧ Binds K fd ps ds ∧ Vals dvs ds ∧ ∀ vs H Q E, spC vs H Q E → spNew C sp dvs vs H Q E
section
variable {X : Cx} {x m : Str} {C : Addr} {ps : List Str} {k : Nat} {sp : Sp} {E : XK} {e o : Expr} {es : List Expr} {t : TA} {ta : TE} {p pos apos : Pos}
theorem pe_callF (G : CallF X.prog X.w X.K X.mg X.base x ps k sp) (hr : Room k X.A) (hg : Gl X x) (hx : Passes (L2.CX X.prog X.w) X E) (ha : PA X (e :: es) t)
    (hdb : (x == ("__debug__" : Str)) = false := by decide) (he : starEach (e :: es) X.env = (false, eval e X.env) :: starEach es X.env := by rfl) (hpl : (backTo pos (starEach es X.env)).any (·.1) = false := by rfl) :
    PE X (.Call (.Name x p) (e :: es) [] pos) (tCall sp [] E t) := by
  obtain ⟨f, fd, F, h1, h2, h3⟩ := G.ex
  exact pe_call F hr hg h1 h2 h3 .nil hx ha hdb he hpl
theorem pe_callF0 (G : CallF X.prog X.w X.K X.mg X.base x ps k sp) (hr : Room k X.A) (hg : Gl X x) (hx : Passes (L2.CX X.prog X.w) X E)
    (hdb : (x == ("__debug__" : Str)) = false := by decide) : PE X (.Call (.Name x p) [] [] pos) (tCall sp [] E tNil) := by
  obtain ⟨f, fd, F, h1, h2, h3⟩ := G.ex
  exact pe_call0 F hr hg h1 h2 h3 .nil hx hdb
theorem pe_methF {pl : Sem Bool} (c : Cls X.K C) (G : MethF X.prog X.w X.K X.mg X.base C m ps k sp) (he : PE X o ta) (hr : Room k X.A) (hx : Passes (L2.CX X.prog X.w) X E) (ha : PA X (e :: es) t)
    (hst : starEach (e :: es) X.env = (false, eval e X.env) :: starEach es X.env := by rfl) (hpl : (backTo pos (starEach es X.env)).any (·.1) = false := by rfl)
    (ht : eval (.Call (.Attribute o m apos) (e :: es) [] pos) X.env = (do
      let ov ← eval o X.env
      standAt apos.atName
      let (f, first) ← holding [ov] (getMethod ov m pl)
      callWith pos f first (backTo pos (starEach (e :: es) X.env)) (backToKw pos (keywordEach [] X.env))) := by rfl) :
    PE X (.Call (.Attribute o m apos) (e :: es) [] pos) (tMeth C m sp [] E ta t) := by
  obtain ⟨f, fd, F, h1, h2⟩ := G.ex
  exact pe_meth he c h1 F hr h2 .nil hx ha hst hpl ht
theorem pe_propF (c : Cls X.K C) (G : PropF X.prog X.w X.K X.mg X.base C m k sp) (he : PE X e ta) (hr : Room (k + 1) X.A) (hx : Passes (L2.CX X.prog X.w) X.nox E)
    (hab : attributeBase e m X.env (eval e X.env) = eval e X.env := by rfl) : PE X (.Attribute e m pos) (tProp C sp [] E ta) := by
  obtain ⟨q, f, fd, F, h1, h2⟩ := G.ex
  exact pe_prop he c h1 F hr h2 .nil hx hab
theorem pe_makeF {spC : Sp} (G : MakeF X.prog X.w X.K X.mg X.base x C k spC) (hr : Room (k + 1) X.A) (hg : Gl X x) (hx : Passes (L2.CX X.prog X.w) X E) (ha : PA X (e :: es) t)
    (hdb : (x == ("__debug__" : Str)) = false := by decide) (he : starEach (e :: es) X.env = (false, eval e X.env) :: starEach es X.env := by rfl) (hpl : (backTo pos (starEach es X.env)).any (·.1) = false := by rfl) :
    PE X (.Call (.Name x p) (e :: es) [] pos) (tCall spC [] E t) := by
  obtain ⟨f, fd, ps, sp, dvs, ds, F, M, h1, h2, h3, h4⟩ := G.ex
  refine ⟨fun pins s σ H Q I h => ?_⟩
  refine wpAny_Call_Name_kw (ld_glob I hg h1 ?_ hdb)
  refine PySem.W.callWith_K (h₀ := X.base) I.ok.mod.kin M.kp (thn (ha.run pos pins s σ H _ I h) fun us s1 ⟨vs, H1, I1, r, q⟩ => ⟨I1.kIn, ?_⟩) he hpl
  have q' : spC (vs ++ []) H1 Q E := q
  rw [List.append_nil] at q'
  exact run_make M F hr h2 h3 hx I1 r (h4 _ _ _ _ q')
end

/-! ### great numbers -/
/-- * of two factors of together less than 2 ^ 27 bits -/
def CMulX (i j : Int) : Prop := i.natAbs.log2 + j.natAbs.log2 < 134000000
theorem CMulX.ok {i j : Int} (h : CMulX i j) : IntMulOk i j := by
  have b : ∀ x : Int, Builtin.Int.intBits x ≤ x.natAbs.log2 + 1 := fun x => by
    unfold Builtin.Int.intBits
    split <;> omega
  have h1 := b i
  have h2 := b j
  have h3 : i.natAbs.log2 + j.natAbs.log2 < 134000000 := h
  have e : bitsLine = 134217728 := by decide
  unfold IntMulOk
  intro z
  rw [Bool.and_eq_true] at z
  have z2 := z.2
  unfold Builtin.Int.intTooBig at z2
  have z3 := of_decide_eq_true z2
  rw [e] at z3
  omega
def CDivX (_ j : Int) : Prop := j ≠ 0 ∧ j.natAbs.log2 < 9000
section
variable {X : Cx}
theorem op_mulX : OpR X (binaryOp .Mult) (rI CMulX fun i j => .int (i * j)) := opI fun _ _ _ _ _ _ _ hc q => mul_int q hc.ok
theorem op_fdivX : OpR X (binaryOp .FloorDiv) (rI CDivX fun i j => .int (i.fdiv j)) := opI fun i j _ _ _ _ _ hc q =>
  floordiv_int hc.1 q (.inl (PyProof.noPylong_of_log2 hc.2))
end
/-- a number of at most n bits -/
def Bd (n : Nat) (i : Int) : Prop := i.natAbs < 2 ^ n
theorem Bd.mono {n m : Nat} {i : Int} (h : Bd n i) (hn : n ≤ m) : Bd m i := Nat.lt_of_lt_of_le h (Nat.pow_le_pow_right (by decide) hn)
theorem log2_lt {n i : Nat} (h0 : 0 < n) (h : i < 2 ^ n) : i.log2 < n := by
  by_cases hz : i = 0
  · subst hz
    simpa using h0
  · exact (Nat.log2_lt hz).mpr h
theorem Bd.mul {n m : Nat} {i j : Int} (h : Bd n i) (h' : Bd m j) : Bd (n + m) (i * j) := by
  unfold Bd at *
  rw [Int.natAbs_mul, Nat.pow_add]
  exact Nat.mul_lt_mul'' h h'
theorem Bd.add {n : Nat} {i j : Int} (h : Bd n i) (h' : Bd n j) : Bd (n + 1) (i + j) := by
  unfold Bd at *
  rw [Nat.pow_succ]
  have := Int.natAbs_add_le i j
  omega
theorem Bd.neg {n : Nat} {i : Int} (h : Bd n i) : Bd n (-i) := by
  unfold Bd at *
  rwa [Int.natAbs_neg]
theorem Bd.le {n : Nat} {i j : Int} (h : Bd n j) (hl : i.natAbs ≤ j.natAbs) : Bd n i := Nat.lt_of_le_of_lt hl h
theorem Bd.mulX {n m : Nat} {i j : Int} (h : Bd n i) (h' : Bd m j) (hs : n + m < 133999990) : CMulX i j := by
  unfold CMulX
  have h1 := log2_lt (n := n + 1) (by omega) (Nat.lt_of_lt_of_le h (Nat.pow_le_pow_right (by decide) (by omega)))
  have h2 := log2_lt (n := m + 1) (by omega) (Nat.lt_of_lt_of_le h' (Nat.pow_le_pow_right (by decide) (by omega)))
  omega
theorem Bd.divX {n : Nat} {i j : Int} (h0 : j ≠ 0) (h : Bd n j) (hs : n < 9000) : CDivX i j := by
  refine ⟨h0, ?_⟩
  have h1 := log2_lt (n := n + 1) (by omega) (Nat.lt_of_lt_of_le h (Nat.pow_le_pow_right (by decide) (by omega)))
  omega

/-! ### o.f as a target -/
def gFld (K : PySem.W.Frag) (ta : TE) (f : Str) : TG := fun v σ H Q => ta σ H fun x H1 => ∃ a C dx fs, x = .ref a ∧ H1 a = some (.ins C dx fs) ∧ Cls K C ∧ NoAttr K C f ∧ fs.length < 1000 ∧ Q σ (upd H1 a (.ins C dx (putF f v fs)))
theorem pg_fld {X : Cx} {o : Expr} {f : Str} {pos : Pos} {ta : TE} (ha : PE X o ta) : PG X (.Attribute o f pos) (gFld X.K ta f) := by
  refine ⟨fun pins s σ H v u Q I r h => ?_⟩
  rw [assign_Attribute]
  refine wpAny_bind (wpAny_holding (thn (ha.run pins s σ H _ I h) fun ov s1 ⟨x, H1, I1, rx, a, C, dx, fs, ex, ea, c, n, l, q⟩ => ?_))
  subst ex
  obtain rfl : ov = Value.ref a := rx
  refine wpAny_bind (wpAny_standAt (wpAny_bind (wpAny_holding (setattr_ok I1 ea c n l r fun s3 I3 => wpAny_release ⟨σ, _, I3, q⟩))))

/-! ### steps of the readings -/
section
variable {σ : St} {H : Hp} {Q : VK} {i : Nat} {v x y : V} {ta tb tc : TE} {t u : TA} {r r' : R2} {sp : Sp} {dvs : List V} {E : XK} {K : PySem.W.Frag}
theorem g_var (h : σ[i]? = some (some v)) (q : Q v H) : tVar i σ H Q := ⟨v, h, q⟩
theorem g_c (q : Q v H) : tC v σ H Q := q
theorem g_op (q : ta σ H fun x H1 => tb σ H1 fun y H2 => r x y H2 Q) : tOp r ta tb σ H Q := q
theorem g_un {ru : V → Hp → VK → Prop} (q : ta σ H fun x H1 => ru x H1 Q) : tUn ru ta σ H Q := q
theorem g_nil {Q : List V → Hp → Prop} (q : Q [] H) : tNil σ H Q := q
theorem g_cons {Q : List V → Hp → Prop} (q : ta σ H fun x H1 => t σ H1 fun xs H2 => Q (x :: xs) H2) : tCons ta t σ H Q := q
theorem g_call (q : t σ H fun vs H1 => sp (vs ++ dvs) H1 Q E) : tCall sp dvs E t σ H Q := q
theorem g_cb {rc : List V → Hp → VK → Prop} (q : t σ H fun vs H1 => rc vs H1 Q) : tCB rc t σ H Q := q
theorem g_test {Q : Bool → Hp → Prop} (q : ta σ H fun x H' => ∃ k, x = .bl k ∧ Q k H') : tTest ta σ H Q := q
theorem g_tb {Q : Bool → Hp → Prop} (q : ta σ H fun x H' => ∃ k, x = .bl k ∧ Q k H') : tB ta σ H Q := q
theorem g_bl {Q : Bool → Hp → Prop} {b : Bool} (q : Q b H) : ∃ k, V.bl b = .bl k ∧ Q k H := ⟨b, rfl, q⟩
theorem g_tup (q : t σ H fun xs H1 => xs.length ≤ sizeLine ∧ ∀ p, H1 p = none → Q (.ref p) (upd H1 p (.tup xs))) : tTup t σ H Q := q
theorem g_lst (q : t σ H fun xs H1 => xs.length ≤ sizeLine ∧ ∀ p, H1 p = none → Q (.ref p) (upd H1 p (.lst xs))) : tLst t σ H Q := q
theorem g_and {tA tB' : TT} {Q : Bool → Hp → Prop} (q : tA σ H fun c H1 => if c = true then tB' σ H1 Q else Q false H1) : tAnd tA tB' σ H Q := q
theorem g_or {tA tB' : TT} {Q : Bool → Hp → Prop} (q : tA σ H fun c H1 => if c = true then Q true H1 else tB' σ H1 Q) : tOr tA tB' σ H Q := q
theorem g_not {tA : TT} {Q : Bool → Hp → Prop} (q : tA σ H fun c H1 => Q (!c) H1) : tNot tA σ H Q := q
theorem g_andV (q : ta σ H fun x H1 => ∃ c, x = .bl c ∧ if c = true then tb σ H1 Q else Q (.bl false) H1) : tAndV ta tb σ H Q := q
theorem g_orV (q : ta σ H fun x H1 => ∃ c, x = .bl c ∧ if c = true then Q (.bl true) H1 else tb σ H1 Q) : tOrV ta tb σ H Q := q
theorem g_notV (q : ta σ H fun x H1 => ∃ c, x = .bl c ∧ Q (.bl (!c)) H1) : tNotV ta σ H Q := q
theorem g_ifE {tA : TT} (q : tA σ H fun c H1 => if c = true then ta σ H1 Q else tb σ H1 Q) : tIf tA ta tb σ H Q := q
theorem g_ite {b : Bool} {A B : Prop} (h1 : b = true → A) (h2 : b = false → B) : if b = true then A else B := by
  cases b with
  | true => rw [if_pos rfl]; exact h1 rfl
  | false => rw [if_neg Bool.false_ne_true]; exact h2 rfl
theorem g_itd {p : Prop} [Decidable p] {A B : Prop} (h1 : p → A) (h2 : ¬ p → B) : if decide p = true then A else B := by
  by_cases h : p
  · rw [if_pos (decide_eq_true h)]; exact h1 h
  · rw [if_neg (by simp [h])]; exact h2 h
theorem g_itn {p : Prop} [Decidable p] {A B : Prop} (h1 : ¬ p → A) (h2 : p → B) : if (!decide p) = true then A else B := by
  by_cases h : p
  · rw [if_neg (by simp [h])]; exact h2 h
  · rw [if_pos (by simp [h])]; exact h1 h
theorem g_I {C : Int → Int → Prop} {g : Int → Int → V} {a b : Int} (h : C a b) (q : Q (g a b) H) : rI C g (.int a) (.int b) H Q := ⟨a, b, rfl, rfl, h, q⟩
theorem g_I0 {g : Int → Int → V} {a b : Int} (q : Q (g a b) H) : rI0 g (.int a) (.int b) H Q := ⟨a, b, rfl, rfl, q⟩
theorem g_U {g : Int → V} {a : Int} (q : Q (g a) H) : rU g (.int a) H Q := ⟨a, rfl, q⟩
theorem g_eqI {a b : Int} (q : Q (.bl (decide (a = b))) H) : rEq (.int a) (.int b) H Q := ⟨rfl, by
  have e : decide (V.int a = V.int b) = decide (a = b) := by simp
  rw [e]; exact q⟩
theorem g_neI {a b : Int} (q : Q (.bl (!decide (a = b))) H) : rNe (.int a) (.int b) H Q := ⟨rfl, by
  have e : decide (V.int a = V.int b) = decide (a = b) := by simp
  rw [e]; exact q⟩
theorem g_fld {a C dx : Addr} {fs : List (Str × V)} {f : Str} (q : ta σ H fun x H1 => ∃ a C dx fs v, x = .ref a ∧ H1 a = some (.ins C dx fs) ∧ Cls K C ∧ NoAttr K C f ∧ fs.lookup f = some v ∧ Q v H1) : tFld K ta f σ H Q := q
/-! statements -/
variable {D : Ends} {s1 s2 : TS} {g : TG}
theorem g_seq (q : s1 { D with nx := s2 D } σ H) : tSeq s1 s2 D σ H := q
theorem g_asg (q : ta σ H fun x H1 => g x σ H1 D.nx) : tAsg ta g D σ H := q
theorem g_name {Q : St → Hp → Prop} (q : Q (σ.set i (some v)) H) : gName i v σ H Q := q
theorem g_ret (q : ta σ H D.rt) : tRet ta D σ H := q
theorem g_retN (q : D.rt .non H) : tRetN D σ H := q
theorem g_if {c : TT} (q : c σ H fun b H1 => if b = true then s1 D σ H1 else s2 D σ H1) : tIfS c s1 s2 D σ H := q
theorem g_next (q : D.nx σ H) : tNext D σ H := q
theorem g_drop (q : ta σ H fun _ H1 => D.nx σ H1) : tDrop ta D σ H := q
theorem g_par {i j : Nat} (q : t σ H fun vs H1 => ∃ v w, vs = [v, w] ∧ D.nx ((σ.set i (some v)).set j (some w)) H1) : tPar i j t D σ H := q
theorem g_two {v w : V} {P : V → V → Prop} (q : P v w) : ∃ a b, [v, w] = [a, b] ∧ P a b := ⟨v, w, rfl, q⟩
theorem g_new {o : HO} {n : Nat} (h : n ≤ sizeLine) (q : ∀ p H', H p = none → Same H H' → H' p = some o → Q (.ref p) H') : n ≤ sizeLine ∧ ∀ p, H p = none → Q (.ref p) (upd H p o) :=
  ⟨h, fun p hp => q p _ hp (fun b u e => by rw [upd_ne (ne_of_none e hp)]; exact e) upd_same⟩
theorem g_new0 {o : HO} (q : ∀ p H', H p = none → Same H H' → H' p = some o → Q (.ref p) H') : ∀ p, H p = none → Q (.ref p) (upd H p o) := (g_new (Nat.zero_le _) q).2
end
theorem same_new {H : Hp} {p : Addr} {o : HO} (h : H p = none) : Same H (upd H p o) := fun b x e => by
  rw [upd_ne (ne_of_none e h)]
  exact e
theorem Same.tup {K : PySem.W.Frag} {H H' : Hp} {a : Addr} {xs : List V} (e : Same H H') (h : SqT K H a xs) : SqT K H' a xs := by
  rcases h with (h | ⟨o, h⟩) | h
  · exact .inl (.inl (e _ _ h))
  · exact .inl (.inr ⟨o, e _ _ h⟩)
  · exact .inr h
end L2

/-! Loops, comprehensions, what is kept. -/
namespace L2
open PySem PySem.Spec PyProof.Rows
section
variable {σ : St} {H : Hp} {Q : VK} {D : Ends} {tb : TS} {g : TG} {ta : TE} {t : TA} {K : PySem.W.Frag}
def RFor (g : TG) (tb : TS) (D : Ends) (σ : St) : It → Hp → Prop := fun J H1 => ∃ W : Nat → Nat → St → Hp → Prop, (∃ m, W 0 m σ H1) ∧ ∀ i m σ H, W i m σ H →
  (J.stop i H ∧ D.nx σ H) ∨ (J.go i H ∧ ∃ N : St → Hp → Prop, (∀ σ' H', N σ' H' → ∃ m', m' < m ∧ W (i + 1) m' σ' H') ∧ ∀ x H', J.yld i H x H' → g x σ H' fun σ2 H2 => tb { D with nx := N, ct := N, bk := D.nx } σ2 H2)
def RLc (g : TG) (tt : TT) (te : TE) (vs : List Nat) (σ : St) (Q : VK) : It → Hp → Prop := fun J H1 => ∀ D, H1 D = none → ∃ W : Nat → Nat → Hp → Prop, (∃ m, W 0 m (upd H1 D (.lst []))) ∧ ∀ i m H, W i m H →
  (J.stop i H ∧ Q (.ref D) H) ∨ (J.go i H ∧ ∃ Nx : Hp → Prop, (∀ H', Nx H' → ∃ m', m' < m ∧ W (i + 1) m' H') ∧ ∀ x H', J.yld i H x H' → g x (wipe σ vs) H' fun σ2 H2 => wipe σ2 vs = wipe σ vs ∧ tt σ2 H2 fun b H3 =>
    if b = true then te σ2 H3 fun y H4 => ∃ acc, H4 D = some (.lst acc) ∧ acc.length < sizeLine ∧ Nx (upd H4 D (.lst (acc ++ [y]))) else Nx H3)
theorem g_for {wi : TI} (q : wi σ H (RFor g tb D σ)) : tFor wi g tb D σ H := q
theorem g_while {c : TT} (W : Nat → St → Hp → Prop) (m0 : Nat) (h0 : W m0 σ H)
    (hs : ∀ m σ H, W m σ H → c σ H fun b H1 => if b = true then tb { D with nx := fun σ' H' => ∃ m', m' < m ∧ W m' σ' H', ct := fun σ' H' => ∃ m', m' < m ∧ W m' σ' H', bk := D.nx } σ H1 else D.nx σ H1)
    (mono : ∀ σ H Q Q', (∀ b H1, Q b H1 → Q' b H1) → c σ H Q → c σ H Q') : tWhile c tb D σ H := by
  refine ⟨W, ⟨m0, h0⟩, fun m σ H w => mono σ H _ _ (fun b H1 q => ?_) (hs m σ H w)⟩
  cases b with
  | true => exact ⟨_, fun _ _ z => z, q⟩
  | false => exact q
theorem g_list {R : It → Hp → Prop} (q : ta σ H fun x H1 => ∃ a, x = .ref a ∧ (∃ xs, SqL K H1 a xs) ∧ R (Itl K a) H1) : iList K ta σ H R := q
theorem g_tupI {R : It → Hp → Prop} (q : ta σ H fun x H1 => ∃ a, x = .ref a ∧ (∃ xs, SqT K H1 a xs) ∧ R (Itt K a) H1) : iTup K ta σ H R := q
theorem g_rng1 {R : It → Hp → Prop} (q : t σ H fun vs H1 => ∃ j : Int, vs = [.int j] ∧ -(2 ^ 62) ≤ j ∧ j < 2 ^ 62 ∧ R (Itr 0 j.toNat) H1) : iRng1 t σ H R := q
theorem g_rng2 {R : It → Hp → Prop} (q : t σ H fun vs H1 => ∃ i j : Int, vs = [.int i, .int j] ∧ (-(2 ^ 62) ≤ i ∧ i < 2 ^ 62 ∧ -(2 ^ 62) ≤ j ∧ j < 2 ^ 62) ∧ R (Itr i (j - i).toNat) H1) : iRng2 t σ H R := q
theorem g_enumA {R : It → Hp → Prop} (q : t σ H fun vs H1 => ∃ a xs, vs = [.ref a] ∧ ((SqL K H1 a xs ∧ R (Ite K a) H1) ∨ (SqT K H1 a xs ∧ R (IteT K a) H1))) : iEnumA K t σ H R := q
theorem g_enum {R : It → Hp → Prop} (q : t σ H fun vs H1 => ∃ a xs, vs = [.ref a] ∧ SqL K H1 a xs ∧ R (Ite K a) H1) : iEnum K t σ H R := q
theorem g_rev {R : It → Hp → Prop} (q : t σ H fun vs H1 => ∃ (a : Addr) (xs : List V), vs = [.ref a] ∧ SqL K H1 a xs ∧ R (Itv K a xs.length) H1) : iRev K t σ H R := q
theorem g_lc {wi : TI} {tt : TT} {te : TE} {vs : List Nat} (q : wi σ H (RLc g tt te vs σ Q)) : tLc wi g tt te vs σ H Q := q
theorem g_tupT {n : Nat} {tg : TGs} {Q : St → Hp → Prop} {a : Addr} {xs : List V} (h : SqT K H a xs) (hl : xs.length = n) (q : tg xs σ H Q) : gTup K n tg (.ref a) σ H Q := ⟨a, xs, rfl, h, hl, q⟩
theorem g_gcons {u : TGs} {x : V} {xs : List V} {Q : St → Hp → Prop} (q : g x σ H fun σ' H' => u xs σ' H' Q) : gCons g u (x :: xs) σ H Q := ⟨x, xs, rfl, q⟩
theorem g_gnil {Q : St → Hp → Prop} (q : Q σ H) : gNil [] σ H Q := ⟨rfl, q⟩
theorem g_yes {Q : Bool → Hp → Prop} (q : Q true H) : tYes σ H Q := q
theorem g_blp {P : Bool → Prop} {b : Bool} (q : P b) : ∃ k, V.bl b = .bl k ∧ P k := ⟨b, rfl, q⟩
theorem g_tt {A B : Prop} (q : A) : if true = true then A else B := by rw [if_pos rfl]; exact q
theorem g_ff {A B : Prop} (q : B) : if false = true then A else B := by rw [if_neg Bool.false_ne_true]; exact q
theorem g_ntt {A B : Prop} (q : B) : if (!true) = true then A else B := by rw [if_neg (by decide)]; exact q
theorem g_nff {A B : Prop} (q : A) : if (!false) = true then A else B := by rw [if_pos (by decide)]; exact q
/-- len of a list, a tuple -/
theorem g_lenL {a : Addr} {xs : List V} (h : SqL K H a xs) (q : Q (.int xs.length) H) : ∃ x n, [V.ref a] = [x] ∧ LenV K x H n ∧ Q (.int n) H := ⟨_, _, rfl, .inl ⟨xs, h, rfl⟩, q⟩
theorem g_lenT {a : Addr} {xs : List V} (h : SqT K H a xs) (q : Q (.int xs.length) H) : ∃ x n, [V.ref a] = [x] ∧ LenV K x H n ∧ Q (.int n) H := ⟨_, _, rfl, .inr ⟨xs, h, rfl⟩, q⟩
end
/-! ### what is kept -/
/-- all but dicts -/
def SameD (H H' : Hp) : Prop := ∀ b o, H b = some o → (∀ kvs, o ≠ .dK kvs) → H' b = some o
theorem Same.d {H H' : Hp} (e : Same H H') : SameD H H' := fun b o h _ => e b o h
theorem SameD.refl (H : Hp) : SameD H H := fun _ _ h _ => h
theorem SameD.trans {H H1 H2 : Hp} (a : SameD H H1) (b : SameD H1 H2) : SameD H H2 := fun c o h n => b c o (a c o h n) n
theorem SameD.lst {H H' : Hp} (e : SameD H H') {a : Addr} {xs : List V} (h : H a = some (.lst xs)) : H' a = some (.lst xs) := e a _ h fun _ z => nomatch z
theorem SameD.tupA {H H' : Hp} (e : SameD H H') {a : Addr} {xs : List V} (h : H a = some (.tup xs)) : H' a = some (.tup xs) := e a _ h fun _ z => nomatch z
theorem SameD.ins {H H' : Hp} (e : SameD H H') {a C dx : Addr} {fs : List (Str × V)} (h : H a = some (.ins C dx fs)) : H' a = some (.ins C dx fs) := e a _ h fun _ z => nomatch z
theorem SameD.seq {K : PySem.W.Frag} {H H' : Hp} {a : Addr} {xs : List V} (e : SameD H H') (h : SqL K H a xs) : SqL K H' a xs := by
  rcases h with (h | ⟨o, h⟩) | h
  · exact .inl (.inl (e _ _ h fun _ z => nomatch z))
  · exact .inl (.inr ⟨o, e _ _ h fun _ z => nomatch z⟩)
  · exact .inr h
theorem SameD.tup {K : PySem.W.Frag} {H H' : Hp} {a : Addr} {xs : List V} (e : SameD H H') (h : SqT K H a xs) : SqT K H' a xs := by
  rcases h with (h | ⟨o, h⟩) | h
  · exact .inl (.inl (e _ _ h fun _ z => nomatch z))
  · exact .inl (.inr ⟨o, e _ _ h fun _ z => nomatch z⟩)
  · exact .inr h
/-- an object that was not there may change -/
theorem Same.mut {H H' : Hp} {p : Addr} {o : HO} (e : Same H H') (h : H p = none) : Same H (upd H' p o) := fun a u ha => by
  rw [upd_ne (ne_of_none ha h)]
  exact e a u ha
theorem SameD.mut {H H' : Hp} {p : Addr} {o : HO} (e : SameD H H') (h : H p = none) : SameD H (upd H' p o) := fun a u ha n => by
  rw [upd_ne (ne_of_none ha h)]
  exact e a u ha n
theorem SameD.free {H H' : Hp} (e : SameD H H') {l : Addr} (h : H' l = none) : H l = none ∨ ∃ kvs, H l = some (.dK kvs) := by
  cases q : H l with
  | none => exact .inl rfl
  | some o =>
    refine .inr ?_
    cases o with
    | dK kvs => exact ⟨kvs, rfl⟩
    | _ => rw [e l _ q (fun _ z => nomatch z)] at h; cases h
/-! ### a list of those that are kept -/
def given (n : Nat) (f : Nat → Bool) (v : Nat → V) : List V := ((List.range n).filter f).map v
theorem given_yes {n : Nat} {f : Nat → Bool} {v : Nat → V} (h : f n = true) : given (n + 1) f v = given n f v ++ [v n] := by
  unfold given
  rw [List.range_succ, List.filter_append, List.map_append]
  congr 1
  rw [List.filter_cons, if_pos h]
  rfl
theorem given_no {n : Nat} {f : Nat → Bool} {v : Nat → V} (h : f n = false) : given (n + 1) f v = given n f v := by
  unfold given
  rw [List.range_succ, List.filter_append, List.map_append, List.filter_cons, if_neg (by rw [h]; decide)]
  show _ ++ [] = _
  rw [List.append_nil]
theorem given_len (n : Nat) (f : Nat → Bool) (v : Nat → V) : (given n f v).length ≤ n := by
  unfold given
  rw [List.length_map]
  have h := List.length_filter_le f (List.range n)
  rw [List.length_range] at h
  exact h
theorem given_all (n : Nat) (v : Nat → V) : given n (fun _ => true) v = (List.range n).map v := by
  unfold given
  rw [List.filter_eq_self.mpr (fun _ _ => rfl)]
/-- a comprehension that changes nothing: at turn i it is kept if f i, and the element is v i -/
def PvL (H1 : Hp) (D : Addr) (f : Nat → Bool) (v : Nat → V) : Nat → Hp → Prop := fun i H => Same H1 H ∧ H D = some (.lst (given i f v))
theorem lc_start {H1 : Hp} {D : Addr} {f : Nat → Bool} {v : Nat → V} (hD : H1 D = none) : PvL H1 D f v 0 (upd H1 D (.lst [])) := ⟨same_new hD, upd_same⟩
theorem lc_yes {H1 H H4 : Hp} {D : Addr} {f : Nat → Bool} {v : Nat → V} {i : Nat} {y : V} (hD : H1 D = none) (p : PvL H1 D f v i H) (e : Same H H4) (hf : f i = true) (hy : y = v i) (hn : i < 16000000) :
    ∃ acc, H4 D = some (.lst acc) ∧ acc.length < sizeLine ∧ PvL H1 D f v (i + 1) (upd H4 D (.lst (acc ++ [y]))) := by
  subst hy
  refine ⟨given i f v, e _ _ p.2, ?_, Same.mut (p.1.trans e) hD, by rw [given_yes hf]; exact upd_same⟩
  have := given_len i f v
  rw [sizeLine_eq]
  omega
theorem lc_no {H1 H H4 : Hp} {D : Addr} {f : Nat → Bool} {v : Nat → V} {i : Nat} (p : PvL H1 D f v i H) (e : Same H H4) (hf : f i = false) : PvL H1 D f v (i + 1) H4 :=
  ⟨p.1.trans e, by rw [given_no hf]; exact e _ _ p.2⟩
end L2

/-! Uses of the readings. -/
namespace L2
open PySem PySem.Spec PyProof.Rows
/-! rules with named readings -/
def rLstS (K : PySem.W.Frag) : List V → Hp → VK → Prop := fun xs H Q => ∃ p ys, xs = [.ref p] ∧ (SqL K H p ys ∨ SqT K H p ys) ∧ ∀ l, H l = none → Q (.ref l) (upd H l (.lst ys))
theorem call_lst {X : Cx} : CallR X (.type "list") (rLstS X.K) := call_list_of
def rTplS (K : PySem.W.Frag) : List V → Hp → VK → Prop := fun xs H Q => ∃ p ys, xs = [.ref p] ∧ ((SqL K H p ys ∧ ∀ l, H l = none → Q (.ref l) (upd H l (.tup ys))) ∨ (SqT K H p ys ∧ Q (.ref p) H))
theorem call_tpl {X : Cx} : CallR X (.type "tuple") (rTplS X.K) := call_tuple_of
def rLenS (K : PySem.W.Frag) : List V → Hp → VK → Prop := fun xs H Q => ∃ x n, xs = [x] ∧ LenV K x H n ∧ Q (.int n) H
theorem call_ln {X : Cx} : CallR X (.builtin "len") (rLenS X.K) := call_len
def rIntS : List V → Hp → VK → Prop := fun xs H Q => (∃ i, xs = [.int i] ∧ Q (.int i) H) ∨ ∃ k, xs = [.bl k] ∧ Q (.int (if k then 1 else 0)) H
theorem call_in1 {X : Cx} : CallR X (.type "int") rIntS := call_int1
def rIsNS : R2 := fun x y H Q => y = .non ∧ Q (.bl (decide (x = .non))) H
theorem op_isNS {X : Cx} : OpR X (compareOp .Is) rIsNS := op_isN
def rNotNS : R2 := fun x y H Q => y = .non ∧ Q (.bl (!decide (x = .non))) H
theorem op_notNS {X : Cx} : OpR X (compareOp .IsNot) rNotNS := op_notN
def rTruS (K : PySem.W.Frag) (x : V) (H : Hp) (Q : Bool → Hp → Prop) : Prop := ∃ k, TruV K x H k ∧ Q k H
def tTru (K : PySem.W.Frag) (ta : TE) : TT := fun σ H Q => ta σ H fun x H' => rTruS K x H' Q
theorem pt_tru {X : Cx} {a : Expr} {ta : TE} (ha : PE X a ta) (he : ∀ whole, isTrue a X.env whole = (do let v ← whole; standAt a.pos; holding [v] (truthy v))) : PT X a (tTru X.K ta) := pt_truth ha he
section
variable {X : Cx} {K : PySem.W.Frag}
theorem ix_listK (h : X.K = K) : IxR X (rIxL K) := h ▸ ix_list
theorem ix_tupK (h : X.K = K) : IxR X (rIxT K) := h ▸ ix_tup
theorem sl_listK (h : X.K = K) : SlR X (rSlL K) := h ▸ sl_list
theorem call_lnK (h : X.K = K) : CallR X (.builtin "len") (rLenS K) := h ▸ call_ln
theorem call_lstK (h : X.K = K) : CallR X (.type "list") (rLstS K) := h ▸ call_lst
theorem call_tplK (h : X.K = K) : CallR X (.type "tuple") (rTplS K) := h ▸ call_tpl
theorem call_isiK' (h : X.K = K) : CallR X (.builtin "isinstance") (rIsi K) := h ▸ call_isi
theorem op_eqDK (h : X.K = K) (hu : X.A.units + 64 < cLine) : OpR X (compareOp .Eq) (rEqD K) := h ▸ op_eqD hu
theorem op_neDK (h : X.K = K) (hu : X.A.units + 64 < cLine) : OpR X (compareOp .NotEq) (rNeD K) := h ▸ op_neD hu
theorem pt_truK (h : X.K = K) {a : Expr} {ta : TE} (ha : PE X a ta) (he : ∀ whole, isTrue a X.env whole = (do let v ← whole; standAt a.pos; holding [v] (truthy v))) : PT X a (tTru K ta) := h ▸ pt_tru ha he
theorem pi_listK (h : X.K = K) {tg l : Expr} {tl : TE} (hl : PE X l tl) : PI X tg l (iList K tl) := h ▸ pi_list hl
theorem pi_tupK (h : X.K = K) {tg l : Expr} {tl : TE} (hl : PE X l tl) : PI X tg l (iTup K tl) := h ▸ pi_tup hl
theorem pi_enumAK (h : X.K = K) {e : Expr} {ta : TA} {p pos tpos : Pos} {elts : List Expr} {kk : Nat} (hg : Gl X "enumerate") (hm : X.mg "enumerate" = none) (ha : PA X [e] ta) (hs : starEach [e] X.env = [(false, eval e X.env)] := by rfl) :
    PI X (.Tuple elts kk tpos) (.Call (.Name "enumerate" p) [e] [] pos) (iEnumA K ta) := h ▸ pi_enumA hg hm ha hs
theorem pi_reversedK (h : X.K = K) {tg e : Expr} {ta : TA} {p pos : Pos} (hg : Gl X "reversed") (hm : X.mg "reversed" = none) (ha : PA X [e] ta) (hs : starEach [e] X.env = [(false, eval e X.env)] := by rfl) : PI X tg (.Call (.Name "reversed" p) [e] [] pos) (iRev K ta) := h ▸ pi_reversed hg hm ha hs
theorem pi_zipK (h : X.K = K) {e e2 : Expr} {ta : TA} {p pos tpos : Pos} {elts : List Expr} {kk : Nat} (hg : Gl X "zip") (hm : X.mg "zip" = none) (ha : PA X [e, e2] ta)
    (hs : starEach [e, e2] X.env = (false, eval e X.env) :: starEach [e2] X.env := by rfl) (hpl : (backTo pos (starEach [e2] X.env)).any (·.1) = false := by rfl) : PI X (.Tuple elts kk tpos) (.Call (.Name "zip" p) [e, e2] [] pos) (iZip K ta) := h ▸ pi_zip hg hm ha hs hpl
theorem pg_tupK (h : X.K = K) {es : List Expr} {k : Nat} {t : TGs} {n : Nat} {pos : Pos} (hc : X.calm = true) (hh : PGs X es t)
    (hn : (assignEach es X.env).length = n := by rfl) (hst : (assignEach es X.env).findIdx? (·.1) = none := by rfl) : PG X (.Tuple es k pos) (gTup K n t) := h ▸ pg_tup hc hh hn hst
theorem pg_fldK (h : X.K = K) {o : Expr} {f : Str} {pos : Pos} {ta : TE} (ha : PE X o ta) : PG X (.Attribute o f pos) (gFld K ta f) := h ▸ pg_fld ha
theorem cr_allK (h : X.K = K) (hc : X.calm = true) : CallR X (.builtin "all") (rAll K) := h ▸ cr_all hc
theorem cr_anyK (h : X.K = K) (hc : X.calm = true) : CallR X (.builtin "any") (rAny K) := h ▸ cr_any hc
theorem cr_sumK (h : X.K = K) (hc : X.calm = true) : CallR X (.builtin "sum") (rSum K) := h ▸ cr_sum hc
theorem cr_maxK (h : X.K = K) (hc : X.calm = true) : CallR X (.builtin "max") (rMax K) := h ▸ cr_max hc
theorem cr_sortedK (h : X.K = K) : CallR X (.builtin "sorted") (rSorted K) := h ▸ cr_sorted
theorem op_catTK (h : X.K = K) : OpR X (binaryOp .Add) (rCatT K) := h ▸ op_catT
theorem sl_tupK (h : X.K = K) : SlR X (rSlT K) := h ▸ sl_tup
theorem ps_fldK (h : X.K = K) {o value : Expr} {f : Str} {pos pos' : Pos} {ta tv : TE} (ha : PE X o ta) (hv : PE X value tv) (hs : swapsWith value (some (.Attribute o f pos')) pos.line X.env = pure false) : PS X (.Assign [.Attribute o f pos'] value pos) (sFld K ta tv f) := h ▸ ps_fld ha hv hs
theorem pe_fldK (h : X.K = K) {e : Expr} {m : Str} {pos : Pos} {ta : TE} (he : PE X e ta) (hab : attributeBase e m X.env (eval e X.env) = eval e X.env := by rfl) : PE X (.Attribute e m pos) (tFld K ta m) := h ▸ pe_fld he hab
end
section
variable {σ : St} {H H' : Hp} {Q : VK} {K : PySem.W.Frag} {a : Addr} {xs : List V} {x y v : V} {t : Value}
theorem sqL (h : H a = some (.lst xs)) : SqL K H a xs := .inl (.inl h)
theorem sqT (h : H a = some (.tup xs)) : SqT K H a xs := .inl (.inl h)
theorem Same.tyOf (e : Same H H') (h : TyOf K H x t) : TyOf K H' x t := by
  cases h with
  | non => exact .non
  | bl b => exact .bl b
  | int i => exact .int i
  | str i => exact .str i
  | flt i => exact .flt i
  | lst h => exact .lst (e _ _ h)
  | frz h => exact .frz (e _ _ h)
  | tup h => exact .tup (e _ _ h)
  | dK h => exact .dK (e _ _ h)
  | dT h => exact .dT (e _ _ h)
  | ins h a b c d f => exact .ins (e _ _ h) a b c d f
theorem Same.ty (e : Same H H') (h : TyX K H x t) : TyX K H' x t := by
  cases h with
  | base h => exact .base (e.tyOf h)
  | byt b => exact .byt b
  | set h => exact .set (e _ _ h)
  | kList h c => exact .kList h c
  | kTuple h c => exact .kTuple h c
  | kDict h c => exact .kDict h c
  | fTuple h => exact .fTuple (e _ _ h)
  | fDict h => exact .fDict (e _ _ h)
theorem enum_any {R : It → Hp → Prop} (h : SqL K H a xs ∨ SqT K H a xs) (q : ∀ J G, Walk J xs.length G (YPair (fun i => some (.int (i : Nat))) (fun i => xs[i]?)) → (∀ H', Same H H' → G H') → R J H) :
    ∃ a' xs', [V.ref a] = [.ref a'] ∧ ((SqL K H a' xs' ∧ R (Ite K a') H) ∨ (SqT K H a' xs' ∧ R (IteT K a') H)) := by
  rcases h with h | h
  · exact ⟨a, xs, rfl, .inl ⟨h, q _ _ walk_enum fun H' e => e.seq h⟩⟩
  · exact ⟨a, xs, rfl, .inr ⟨h, q _ _ walk_enumT fun H' e => e.tup h⟩⟩
theorem pair_of {xs ys : Nat → Option V} {i : Nat} (h : YPair xs ys i H v H') : ∃ T x y, v = .ref T ∧ Same H H' ∧ SqT K H' T [x, y] ∧ xs i = some x ∧ ys i = some y := by
  obtain ⟨T, x, y, h1, h2, h3, h4, h5⟩ := h
  subst h3
  exact ⟨T, x, y, h1, same_new h2, sqT upd_same, h4, h5⟩
theorem g_raiseX {C : Addr} {fs : List Str} {W : WX} {ta : TA} {D : Ends} (q : ta σ H fun vs H1 => vs.length = fs.length ∧ (fs = [] → W (.ref C) none σ H1) ∧ (fs ≠ [] → ∀ d, H1 d = none → W (.ref C) (some d) σ (upd H1 d (.xd (fs.zip vs))))) : tRaiseX C fs W ta D σ H := q
theorem u_raise {fs : List Str} {vs : List V} {R : Option Addr → Hp → Prop} (hl : vs.length = fs.length) (hf : fs ≠ []) (q : ∀ d H2, H d = none → Same H H2 → H2 d = some (.xd (fs.zip vs)) → R (some d) H2) :
    vs.length = fs.length ∧ (fs = [] → R none H) ∧ (fs ≠ [] → ∀ d, H d = none → R (some d) (upd H d (.xd (fs.zip vs)))) := ⟨hl, fun h => absurd h hf, fun _ d hd => q d _ hd (same_new hd) upd_same⟩
theorem u_raise0 {fs : List Str} {vs : List V} {R : Option Addr → Hp → Prop} (hl : vs.length = fs.length) (hf : fs = []) (q : R none H) :
    vs.length = fs.length ∧ (fs = [] → R none H) ∧ (fs ≠ [] → ∀ d, H d = none → R (some d) (upd H d (.xd (fs.zip vs)))) := ⟨hl, fun _ => q, fun h => absurd hf h⟩
theorem g_newS {o : HO} {n : Nat} (q : ∀ p H', H p = none → Same H H' → H' p = some o → Q (.ref p) H') (h : Nat.ble n 1000 = true := by rfl) : n ≤ sizeLine ∧ ∀ p, H p = none → Q (.ref p) (upd H p o) :=
  g_new (by have := Nat.le_of_ble_eq_true h; rw [sizeLine_eq]; omega) q
theorem g_itn' {b : Bool} {A B : Prop} (h1 : b = false → A) (h2 : b = true → B) : if (!b) = true then A else B := by
  cases b with
  | true => rw [if_neg (by decide)]; exact h2 rfl
  | false => rw [if_pos (by decide)]; exact h1 rfl
theorem u_gfld {Q : St → Hp → Prop} {i : Nat} {C dx : Addr} {fs : List (Str × V)} {f : Str} (hs : σ[i]? = some (some (.ref a))) (h : H a = some (.ins C dx fs)) (c : Cls K C) (n : NoAttr K C f) (q : Q σ (upd H a (.ins C dx (putF f v fs)))) (hl : Nat.ble fs.length 900 = true := by rfl) : gFld K (tVar i) f v σ H Q :=
  ⟨.ref a, hs, a, C, dx, fs, rfl, h, c, n, by have := Nat.le_of_ble_eq_true hl; omega, q⟩
theorem u_tfld {i : Nat} {C dx : Addr} {fs : List (Str × V)} {f : Str} (hs : σ[i]? = some (some (.ref a))) (h : H a = some (.ins C dx fs)) (c : Cls K C) (n : NoAttr K C f) (hl : fs.lookup f = some v) (q : Q v H) : tFld K (tVar i) f σ H Q :=
  ⟨.ref a, hs, a, C, dx, fs, v, rfl, h, c, n, hl, q⟩
theorem u_isi {c : V} {u : Value} {b : Bool} (k : ClsV c u) (h : TyX K H x t) (e : PySem.W.kitOne K t u = some b) (q : Q (.bl b) H) : rIsi K [x, c] H Q := ⟨x, c, t, u, b, rfl, k, h, e, q⟩
theorem dpAll_ints : ∀ ns : List Int, DpAll K H (ns.map V.int) (ns.map PyData.int)
  | [] => .nil
  | n :: r => .cons (.int n) (dpAll_ints r)
theorem eqv_ints : ∀ ns ms : List Int, PyData.eqvAll (ns.map PyData.int) (ms.map PyData.int) = decide (ns = ms)
  | [], [] => by simp [PyData.eqvAll]
  | [], _ :: _ => by simp [PyData.eqvAll]
  | _ :: _, [] => by simp [PyData.eqvAll]
  | a :: r, b :: t => by
    simp only [List.map_cons, PyData.eqvAll, PyData.eqv, eqv_ints r t]
    by_cases h : a = b <;> by_cases h' : r = t <;> simp [h, h']
theorem shaped_tup (ns : List Int) : SeqAt.shaped (.tuple (ns.map PyData.int)) = true := by
  simp [SeqAt.shaped, PyData.canLay0, PyData.depth, PySem.W.ke_canLayAll0, PySem.W.ke_depthAll]
theorem g_isN {x : V} (q : Q (.bl (decide (x = .non))) H) : rIsNS x .non H Q := ⟨rfl, q⟩
theorem g_notN {x : V} (q : Q (.bl (!decide (x = .non))) H) : rNotNS x .non H Q := ⟨rfl, q⟩
theorem g_bm {T : String} {r : V → List V → Hp → VK → Prop} {to : TE} {t : TA} (q : to σ H fun x H1 => tyV K T x H1 ∧ t σ H1 fun xs H2 => r x xs H2 Q) : tBM K T r to t σ H Q := q
theorem g_bm0 {T : String} {r : V → List V → Hp → VK → Prop} {to : TE} (q : to σ H fun x H1 => tyV K T x H1 ∧ r x [] H1 Q) : tBM0 K T r to σ H Q := q
theorem u_app {l : Addr} {xs : List V} {v : V} (h : H l = some (.lst xs)) (hl : xs.length < 1000000) (q : Q .non (upd H l (.lst (xs ++ [v])))) : rAppend (.ref l) [v] H Q := ⟨l, xs, v, rfl, rfl, h, by rw [sizeLine_eq]; omega, q⟩
theorem u_eqT {b : Addr} {ns ms : List Int} (h1 : SqT K H a (ns.map V.int)) (h2 : SqT K H b (ms.map V.int)) (q : Q (.bl (decide (ns = ms))) H) : rEqD K (.ref a) (.ref b) H Q :=
  ⟨_, _, .tup h1 (dpAll_ints ns), .tup h2 (dpAll_ints ms), shaped_tup _, shaped_tup _, by
    show Q (.bl (PyData.eqv (.tuple (ns.map PyData.int)) (.tuple (ms.map PyData.int)))) H
    rw [PyData.eqv, eqv_ints]; exact q⟩
theorem u_eqL {b : Addr} {ns ms : List Int} (h1 : SqL K H a (ns.map V.int)) (h2 : SqL K H b (ms.map V.int)) (q : Q (.bl (decide (ns = ms))) H) : rEqD K (.ref a) (.ref b) H Q :=
  ⟨_, _, .lst h1 (dpAll_ints ns), .lst h2 (dpAll_ints ms), PySem.W.ke_shaped_ints _, PySem.W.ke_shaped_ints _, by
    show Q (.bl (PyData.eqv (.list (ns.map PyData.int)) (.list (ms.map PyData.int)))) H
    rw [PyData.eqv, eqv_ints]; exact q⟩
theorem g_cutS {s1 s2 : TS} {D : Ends} (R : St → Hp → Prop) (h : ∀ nx : St → Hp → Prop, (∀ σ' H', R σ' H' → nx σ' H') → s1 { D with nx := nx } σ H) (q : ∀ σ' H', R σ' H' → s2 D σ' H') : tSeq s1 s2 D σ H := h _ q
theorem u_neL {b : Addr} {ns ms : List Int} (h1 : SqL K H a (ns.map V.int)) (h2 : SqL K H b (ms.map V.int)) (q : Q (.bl (!decide (ns = ms))) H) : rNeD K (.ref a) (.ref b) H Q :=
  ⟨_, _, .lst h1 (dpAll_ints ns), .lst h2 (dpAll_ints ms), PySem.W.ke_shaped_ints _, PySem.W.ke_shaped_ints _, by
    show Q (.bl (!PyData.eqv (.list (ns.map PyData.int)) (.list (ms.map PyData.int)))) H
    rw [PyData.eqv, eqv_ints]; exact q⟩
theorem u_neT {b : Addr} {ns ms : List Int} (h1 : SqT K H a (ns.map V.int)) (h2 : SqT K H b (ms.map V.int)) (q : Q (.bl (!decide (ns = ms))) H) : rNeD K (.ref a) (.ref b) H Q :=
  ⟨_, _, .tup h1 (dpAll_ints ns), .tup h2 (dpAll_ints ms), shaped_tup _, shaped_tup _, by
    show Q (.bl (!PyData.eqv (.tuple (ns.map PyData.int)) (.tuple (ms.map PyData.int)))) H
    rw [PyData.eqv, eqv_ints]; exact q⟩
theorem atI_m1 {xs : List V} {v : V} (h : xs[xs.length - 1]? = some v) : atI xs (-1) = some v := by
  have hl := (List.getElem?_eq_some_iff.mp h).1
  have e : ixN xs.length (-1) = some (xs.length - 1) := by
    unfold ixN
    rw [if_neg (by decide), if_pos (by omega)]
    congr 1
    omega
  unfold atI
  rw [e]
  exact h
theorem ixN_at {n j : Nat} (hj : j < n) : ixN n (j : Int) = some j := by
  unfold ixN
  rw [if_pos (by omega), if_pos (by omega), Int.toNat_natCast]
theorem u_setL {l : Addr} {xs : List V} {v : V} {j : Nat} {Q : Hp → Prop} (h : H l = some (.lst xs)) (hj : j < xs.length) (q : Q (upd H l (.lst (xs.set j v)))) : rSetL (.ref l) (.int (j : Int)) v H Q := ⟨l, xs, _, j, rfl, rfl, h, ixN_at hj, q⟩
theorem g_sub {to ti : TE} {t : TSet} {v : V} {Q : St → Hp → Prop} (q : to σ H fun o H1 => ti σ H1 fun i H2 => t o i v H2 fun H3 => Q σ H3) : gSub to ti t v σ H Q := q
theorem g_retD {trs : List (TE × TE)} {D : Ends} (q : ∀ p, H p = none → tPairs trs σ (upd H p (.dK [])) fun ps H2 => H2 p = some (.dK []) ∧ ∃ kvs : List (Key × V), ps = kvs.map (fun kv => (kV kv.1, kv.2)) ∧ kvs.length ≤ 15 ∧ D.rt (.ref p) (upd H2 p (.dK (mergeK [] kvs)))) : tRet (tDisp trs) D σ H := q
theorem g_pair {tk tv : TE} {r : List (TE × TE)} {Q : List (V × V) → Hp → Prop} (q : tk σ H fun x H1 => tv σ H1 fun y H2 => tPairs r σ H2 fun ps H3 => Q ((x, y) :: ps) H3) : tPairs ((tk, tv) :: r) σ H Q := q
theorem g_pair0 {Q : List (V × V) → Hp → Prop} (q : Q [] H) : tPairs [] σ H Q := q
theorem g_st {T : TS} {D : Ends} {σ' : St} (h : σ = σ') (q : T D σ' H) : T D σ H := by rw [h]; exact q
/-- what is left is told by R -/
theorem g_cut {te : TE} (R : V → Hp → Prop) (h : ∀ Q : VK, (∀ v H', R v H' → Q v H') → te σ H Q) (q : ∀ v H', R v H' → Q v H') : te σ H Q := h Q q
theorem g_cutT {tt : TT} {Q : Bool → Hp → Prop} (R : Bool → Hp → Prop) (h : ∀ Q : Bool → Hp → Prop, (∀ v H', R v H' → Q v H') → tt σ H Q) (q : ∀ v H', R v H' → Q v H') : tt σ H Q := h Q q
theorem g_cutA {tt : TA} {Q : List V → Hp → Prop} (R : List V → Hp → Prop) (h : ∀ Q : List V → Hp → Prop, (∀ v H', R v H' → Q v H') → tt σ H Q) (q : ∀ v H', R v H' → Q v H') : tt σ H Q := h Q q
theorem g_par3 {i j l : Nat} {t : TA} {D : Ends} (q : t σ H fun vs H1 => ∃ u v w, vs = [u, v, w] ∧ D.nx (((σ.set i (some u)).set j (some v)).set l (some w)) H1) : tPar3 i j l t D σ H := q
theorem g_three {u v w : V} {P : V → V → V → Prop} (q : P u v w) : ∃ a b c, [u, v, w] = [a, b, c] ∧ P a b c := ⟨u, v, w, rfl, q⟩
theorem g_chain {r r' : R2} {ta tb tc : TE} (q : ta σ H fun x H1 => tb σ H1 fun y H2 => r x y H2 fun z H3 => ∃ k, z = .bl k ∧ if k = true then tc σ H3 fun c H4 => r' y c H4 Q else Q (.bl false) H3) : tChain r r' ta tb tc σ H Q := q
theorem g_zip {t : TA} {R : It → Hp → Prop} (q : t σ H fun vs H1 => ∃ a b xs ys, vs = [.ref a, .ref b] ∧ SqL K H1 a xs ∧ SqL K H1 b ys ∧ R (Itz K a b) H1) : iZip K t σ H R := q
theorem news {p : Addr} {o : HO} (h : H p = none) (e : upd H p o = H') : Same H H' ∧ H' p = some o := by
  subst e
  exact ⟨same_new h, upd_same⟩
theorem size_ok {n : Nat} (h : Nat.ble n 1000000 = true) : n ≤ sizeLine := by have := Nat.le_of_ble_eq_true h; rw [sizeLine_eq]; omega
theorem pe_globI {X : Cx} {x : Str} {i : Int} {tk : Tok} {pos : Pos} (hg : Gl X x) (hm : X.mg x = some (.int i tk)) (hd : (x == ("__debug__" : Str)) = false := by decide) : PE X (.Name x pos) (tC (.int i)) := pe_glob (v := .int i) hg hm ⟨_, rfl⟩ hd
theorem g_sfld {ta tv : TE} {f : Str} {D : Ends} (q : tv σ H fun y H1 => ta σ H1 fun x H2 => ∃ a C dx fs, x = .ref a ∧ H2 a = some (.ins C dx fs) ∧ Cls K C ∧ NoAttr K C f ∧ fs.length < 1000 ∧ D.nx σ (upd H2 a (.ins C dx (putF f y fs)))) : sFld K ta tv f D σ H := q
/-! parts, places -/
theorem g_sl {r : V → Option Int → Option Int → Hp → VK → Prop} {te : TE} {tl th : TO} (q : te σ H fun x H1 => tl σ H1 fun l H2 => th σ H2 fun u H3 => r x l u H3 Q) : tSl r te tl th σ H Q := q
theorem g_nopart {Q : Option Int → Hp → Prop} (q : Q none H) : tNoPart σ H Q := q
theorem g_part {te : TE} {Q : Option Int → Hp → Prop} (q : te σ H fun x H1 => ∃ i, x = .int i ∧ Q (some i) H1) : tPart te σ H Q := q
theorem g_int {i : Int} {P : Int → Prop} (q : P i) : ∃ k, V.int i = .int k ∧ P k := ⟨i, rfl, q⟩
theorem u_sl {lo hi : Option Int} (h : SqL K H a xs) (q : ∀ p H', H p = none → Same H H' → H' p = some (.lst (cutV xs lo hi)) → Q (.ref p) H') : rSlL K (.ref a) lo hi H Q := ⟨a, xs, rfl, h, g_new0 q⟩
theorem u_list (h : SqL K H a xs ∨ SqT K H a xs) (q : ∀ p H', H p = none → Same H H' → H' p = some (.lst xs) → Q (.ref p) H') : rLstS K [.ref a] H Q := ⟨a, xs, rfl, h, g_new0 q⟩
theorem u_tuple (h : SqL K H a xs) (q : ∀ p H', H p = none → Same H H' → H' p = some (.tup xs) → Q (.ref p) H') : rTplS K [.ref a] H Q := ⟨a, xs, rfl, .inl ⟨h, g_new0 q⟩⟩
theorem u_tupleT (h : SqT K H a xs) (q : Q (.ref a) H) : rTplS K [.ref a] H Q := ⟨a, xs, rfl, .inr ⟨h, q⟩⟩
theorem u_lenL (h : SqL K H a xs) (q : Q (.int xs.length) H) : rLenS K [.ref a] H Q := ⟨_, _, rfl, .inl ⟨xs, h, rfl⟩, q⟩
theorem u_lenT (h : SqT K H a xs) (q : Q (.int xs.length) H) : rLenS K [.ref a] H Q := ⟨_, _, rfl, .inr ⟨xs, h, rfl⟩, q⟩
theorem u_int1 {i : Int} (q : Q (.int i) H) : rIntS [.int i] H Q := .inl ⟨i, rfl, q⟩
theorem u_int1b {b : Bool} (q : Q (.int (if b then 1 else 0)) H) : rIntS [.bl b] H Q := .inr ⟨b, rfl, q⟩
theorem g_tru {ta : TE} {Q : Bool → Hp → Prop} (q : ta σ H fun x H' => rTruS K x H' Q) : tTru K ta σ H Q := q
theorem u_ixL {i : Int} (h : SqL K H a xs) (e : atI xs i = some v) (q : Q v H) : rIxL K (.ref a) (.int i) H Q := ⟨a, xs, i, v, rfl, rfl, h, e, q⟩
theorem u_ixT {i : Int} (h : SqT K H a xs) (e : atI xs i = some v) (q : Q v H) : rIxT K (.ref a) (.int i) H Q := ⟨a, xs, i, v, rfl, rfl, h, e, q⟩
theorem u_truL {Q : Bool → Hp → Prop} (h : SqL K H a xs) (q : Q (!xs.isEmpty) H) : rTruS K (.ref a) H Q := ⟨_, .inl ⟨xs, h, rfl⟩, q⟩
theorem u_truT {Q : Bool → Hp → Prop} (h : SqT K H a xs) (q : Q (!xs.isEmpty) H) : rTruS K (.ref a) H Q := ⟨_, .inr (.inl ⟨xs, h, rfl⟩), q⟩
theorem u_cat {b : Addr} {zs : List V} (h : H a = some (.lst xs)) (h' : H b = some (.lst zs)) (hz : xs.length + zs.length ≤ 1000000) (q : ∀ p H', H p = none → Same H H' → H' p = some (.lst (xs ++ zs)) → Q (.ref p) H') : rCat (.ref a) (.ref b) H Q :=
  ⟨a, b, xs, zs, rfl, rfl, h, h', by rw [sizeLine_eq]; omega, g_new0 q⟩
theorem u_rep {k : Int} (h : H a = some (.lst [x])) (h1 : -1000000 ≤ k) (h2 : k ≤ 1000000) (q : ∀ p H', H p = none → Same H H' → H' p = some (.lst (List.replicate k.toNat x)) → Q (.ref p) H') : rRep (.ref a) (.int k) H Q := by
  refine ⟨a, k, [x], rfl, rfl, h, by omega, by omega, by rw [sizeLine_eq]; simp only [List.length_cons, List.length_nil]; omega, g_new0 ?_⟩
  have e : (List.replicate k.toNat [x]).flatten = List.replicate k.toNat x := by
    generalize k.toNat = n
    induction n with
    | zero => rfl
    | succ n ih => rw [List.replicate_succ, List.flatten_cons, ih, List.replicate_succ]; rfl
  rw [e]
  exact q
theorem u_sum {ns : List Int} (h : SqL K H a (ns.map V.int)) (q : Q (.int ns.sum) H) : rSum K [.ref a] H Q := ⟨a, ns, rfl, h, q⟩
theorem u_all {bs : List Bool} (h : SqL K H a (bs.map V.bl)) (q : Q (.bl (bs.all id)) H) : rAll K [.ref a] H Q := ⟨a, bs, rfl, h, q⟩
theorem u_any {bs : List Bool} (h : SqL K H a (bs.map V.bl)) (q : Q (.bl (bs.any id)) H) : rAny K [.ref a] H Q := ⟨a, bs, rfl, h, q⟩
theorem u_it {R : It → Hp → Prop} (h : SqL K H a xs) (q : R (Itl K a) H) : ∃ b, V.ref a = .ref b ∧ (∃ xs, SqL K H b xs) ∧ R (Itl K b) H := ⟨a, rfl, ⟨xs, h⟩, q⟩
theorem u_itT {R : It → Hp → Prop} (h : SqT K H a xs) (q : R (Itt K a) H) : ∃ b, V.ref a = .ref b ∧ (∃ xs, SqT K H b xs) ∧ R (Itt K b) H := ⟨a, rfl, ⟨xs, h⟩, q⟩
theorem u_rev {R : It → Hp → Prop} (h : SqL K H a xs) (q : R (Itv K a xs.length) H) : ∃ (b : Addr) (ys : List V), [V.ref a] = [.ref b] ∧ SqL K H b ys ∧ R (Itv K b ys.length) H := ⟨a, xs, rfl, h, q⟩
theorem u_rng {R : It → Hp → Prop} {j : Int} (h : -1000000 ≤ j) (h' : j ≤ 1000000) (q : R (Itr 0 j.toNat) H) : ∃ i : Int, [V.int j] = [.int i] ∧ -(2 ^ 62) ≤ i ∧ i < 2 ^ 62 ∧ R (Itr 0 i.toNat) H := ⟨j, rfl, by omega, by omega, q⟩
theorem cut_to {m : Nat} : cutV xs none (some (m : Int)) = xs.take m := by
  unfold cutV
  rw [HT.sIx_nat, HT.sIx_none, List.drop_zero, Nat.sub_zero, Nat.min_comm, List.take_eq_take_iff]
  omega
theorem cut_from {m : Nat} : cutV xs (some (m : Int)) none = xs.drop m := by
  unfold cutV
  rw [HT.sIx_nat, HT.sIx_none]
  by_cases h : m ≤ xs.length
  · rw [Nat.min_eq_left h, List.take_of_length_le (by rw [List.length_drop]; omega)]
  · rw [Nat.min_eq_right (by omega), List.drop_length, List.drop_of_length_le (by omega), List.take_nil]
theorem cut_mid {m n : Nat} (h : m ≤ xs.length) : cutV xs (some (m : Int)) (some (n : Int)) = (xs.drop m).take (n - m) := by
  unfold cutV
  rw [HT.sIx_nat, HT.sIx_nat, Nat.min_eq_left h, List.take_eq_take_iff, List.length_drop]
  omega
theorem g_dget {td ty : TE} (q : td σ H fun x H1 => ty σ H1 fun y H2 => ∃ a v, x = .ref a ∧ DGet H2 a y (some v) ∧ Q v H2) : tDGet td ty σ H Q := q
theorem g_dput {td ty tv : TE} {D : Ends} (q : tv σ H fun v H1 => td σ H1 fun x H2 => ty σ H2 fun y H3 => ∃ a H4, x = .ref a ∧ DPut H3 a y v H4 ∧ D.nx σ H4) : sDPut td ty tv D σ H := q
end
end L2

namespace Ev
open PySem PySem.Spec PyProof.Rows L2
def topS (i : Nat) : Stmt := PySem.Challenge.pw_everyfloor_k12_whole_operators_of_sets.main.body.getD i (.Pass ⟨0, 0, 0, 0⟩)
end Ev

section
open L2 in
local macro_rules | `(tactic| walk_at "gx") => `(tactic| first
  | ((with_reducible show tVar _ _ _ _); refine g_var rfl ?_)
  | with_reducible refine g_c ?_
  | with_reducible refine g_op ?_
  | with_reducible refine g_cons ?_
  | with_reducible refine g_nil ?_
  | with_reducible refine g_test ?_
  | with_reducible refine g_blp ?_
  | with_reducible refine g_asg ?_
  | (with_reducible refine g_name ?_; (try simp only [List.set_cons_zero, List.set_cons_succ]))
  | with_reducible refine g_call ?_
  | with_reducible refine g_cb ?_
  | with_reducible refine g_I0 ?_
  | with_reducible refine g_U ?_
  | with_reducible refine g_eqI ?_
  | with_reducible refine g_neI ?_
  | with_reducible refine g_if ?_
  | with_reducible refine g_ret ?_
  | with_reducible refine g_retN ?_
  | with_reducible refine g_next ?_
  | with_reducible refine g_drop ?_
  | with_reducible refine g_un ?_
  | with_reducible refine g_tb ?_
  | with_reducible refine g_tup ?_
  | with_reducible refine g_lst ?_
  | with_reducible refine g_and ?_
  | with_reducible refine g_or ?_
  | with_reducible refine g_not ?_
  | with_reducible refine g_andV ?_
  | with_reducible refine g_orV ?_
  | with_reducible refine g_notV ?_
  | with_reducible refine g_ifE ?_
  | with_reducible refine g_fld ?_
  | with_reducible refine g_tt ?_
  | with_reducible refine g_ff ?_
  | with_reducible refine g_ntt ?_
  | with_reducible refine g_nff ?_
  | with_reducible refine g_for ?_
  | with_reducible refine g_list ?_
  | with_reducible refine g_tupI ?_
  | with_reducible refine g_rng1 ?_
  | with_reducible refine g_rng2 ?_
  | with_reducible refine g_enumA ?_
  | with_reducible refine g_rev ?_
  | with_reducible refine g_lc ?_
  | with_reducible refine g_gcons ?_
  | with_reducible refine g_gnil ?_
  | with_reducible refine g_yes ?_
  | with_reducible refine g_sl ?_
  | with_reducible refine g_nopart ?_
  | with_reducible refine g_part ?_
  | with_reducible refine g_int ?_
  | with_reducible refine g_dget ?_
  | with_reducible refine g_dput ?_
  | with_reducible refine g_raiseX ?_
  | with_reducible refine g_tru ?_
  | with_reducible refine g_sub ?_
  | with_reducible refine g_isN ?_
  | with_reducible refine g_notN ?_
  | with_reducible refine g_bm ?_
  | with_reducible refine L2.g_bm0 ?_
  | with_reducible refine g_pair ?_
  | with_reducible refine g_pair0 ?_
  | with_reducible refine u_int1 ?_
  | with_reducible refine g_chain ?_
  | with_reducible refine L2.g_sfld ?_
  | (with_reducible refine g_par3 ?_)
  | (with_reducible refine g_three ?_; (try simp only [List.set_cons_zero, List.set_cons_succ]))
  | ((with_reducible apply L2.g_tupT); walk_at "up"; rfl)
  | (with_reducible refine g_par ?_)
  | (with_reducible refine g_two ?_; (try simp only [List.set_cons_zero, List.set_cons_succ]))
  )
local macro_rules | `(tactic| walk_at "go") => `(tactic| first | walk_at "gx" | with_reducible refine L2.g_seq ?_)
local macro_rules | `(tactic| walk_at "gou") => `(tactic| repeat (walk_at "gx"))
local macro_rules | `(tactic| walk_at "gos") => `(tactic| repeat (walk_at "go"))
local macro_rules | `(tactic| walk_at "sl") => `(tactic| first
  | assumption
  | exact L2.Same.l (by assumption)
  | exact L2.SameD.l (by assumption)
  | exact L2.extN_l (by assumption))
local macro_rules | `(tactic| walk_at "up") => `(tactic| first
  | assumption
  | ((with_reducible apply L2.SameL.lst); walk_at "sl"; walk_at "up")
  | ((with_reducible apply L2.SameL.tupA); walk_at "sl"; walk_at "up")
  | ((with_reducible apply L2.SameL.ins); walk_at "sl"; walk_at "up")
  | ((with_reducible apply Ev.PB.l); walk_at "sl"; walk_at "up")
  | ((with_reducible apply Ev.IsP.l); walk_at "sl"; walk_at "up")
  | ((with_reducible apply L2.sqL); walk_at "up")
  | ((with_reducible apply L2.sqT); walk_at "up")
  | ((with_reducible apply L2.SameL.seq); walk_at "sl"; walk_at "up")
  | ((with_reducible apply Ev.Pen.same); assumption; walk_at "up")
  | ((with_reducible apply Ev.Pen.extN); assumption; walk_at "up")
  | ((with_reducible apply L2.tabs_s); assumption; walk_at "up")
  | ((with_reducible apply L2.tabs_dd); assumption; walk_at "up")
  | ((with_reducible apply Or.inl); walk_at "up")
  | ((with_reducible apply Or.inr); walk_at "up"))
local macro_rules | `(tactic| walk_at "new") => `(tactic| (
  first
    | refine ⟨L2.size_ok (by rfl), fun p hp => ?_⟩
    | refine fun p hp => ?_
  generalize hX : L2.upd _ p _ = H1
  obtain ⟨e, h⟩ := L2.news hp hX
  clear hX))
local macro_rules | `(tactic| walk_at "o") => `(tactic| first
  | ((with_reducible apply Ev.o_add); walk_at "up"; walk_at "up"; rfl; rfl; rfl)
  | ((with_reducible apply Ev.o_sub); walk_at "up"; walk_at "up"; rfl; rfl; rfl)
  | ((with_reducible apply Ev.o_mul); walk_at "up"; walk_at "up"; rfl; rfl; rfl)
  | ((with_reducible apply Ev.o_addI); walk_at "up"; assumption; rfl; rfl; rfl)
  | ((with_reducible apply Ev.o_subI); walk_at "up"; assumption; rfl; rfl; rfl)
  | ((with_reducible apply Ev.o_mulI); walk_at "up"; assumption; rfl; rfl; rfl)
  | ((with_reducible apply Ev.o_radd); walk_at "up"; assumption; rfl; rfl; rfl)
  | ((with_reducible apply Ev.o_rsub); walk_at "up"; assumption; rfl; rfl; rfl)
  | ((with_reducible apply Ev.o_rmul); walk_at "up"; assumption; rfl; rfl; rfl)
  | ((with_reducible apply Ev.o_neg); walk_at "up"; rfl; rfl; rfl))
local macro_rules | `(tactic| walk_at "eq") => `(tactic| ((with_reducible apply Ev.u_ownB); assumption; walk_at "up"; walk_at "up"; (focus (intro k; first | rfl | exact Pl.e_add | exact Pl.e_sub | exact Pl.e_mul | exact Pl.e_rsub | exact Pl.e_rsub2))))
local macro_rules | `(tactic| walk_at "isp") => `(tactic| (apply Ev.u_isB; walk_at "up"; walk_at "up"; rfl; rfl))

/-! integers.py and the least form of a piece -/
namespace Ev
open PySem PySem.Spec PyProof.Rows L2
section
variable {P : Program} {w : World} {K : PySem.W.Frag} {mg : Str → Option Value} {base : Heap}
/-- is_integer(x) is b -/
def Kd (K : PySem.W.Frag) (H : Hp) (x : V) (b : Bool) : Prop := ∃ t b1 b2, TyX K H x t ∧ PySem.W.kitOne K t (.type "int") = some b1 ∧ PySem.W.kitOne K t (.type "bool") = some b2 ∧ b = (b1 && !b2)
def spIsInteger (K : PySem.W.Frag) : Sp := fun vs H Q _ => ∃ x b, vs = [x] ∧ Kd K H x b ∧ Q (.bl b) H
theorem sc_is_integer : FnScope ["value"] ["value"] (defScope (topS 10)) := ⟨rfl, rfl, rfl, by decide +kernel, rfl, by decide +kernel, by decide +kernel⟩
theorem ok_is_integer (B : Bn mg) {f : Addr} {fd : FuncData} (F : Fun K "is_integer" "is_integer" (topS 10) f fd) : FnOk P w K mg base (L2.CX P w) 1 f fd ["value"] (spIsInteger K) := by
  have nd := sc_is_integer.nd
  refine F.okX sc_is_integer (fun vs H Q E h => ?_) (fun cdv A outer s H vs Q E hr h => ?_)
  · obtain ⟨x, b, rfl, _⟩ := h
    rfl
  · refine ⟨_, (pss_one (ps_ret (pe_and (pe_callB (call_isiK' (K := K) rfl) (by rfl) B.isinstance (by decide +kernel) (pa_cons (pv 0) (pa_cons (pe_bltn (v := .ty "int") (by rfl) B.int_ (by decide +kernel) rfl) pa_nil))) (pe_one (pe_not (pe_callB (call_isiK' (K := K) rfl) (by rfl) B.isinstance (by decide +kernel) (pa_cons (pv 0) (pa_cons (pe_bltn (v := .ty "bool") (by rfl) B.bool_ (by decide +kernel) rfl) pa_nil)))))))), ?_⟩
    obtain ⟨x, b, rfl, ⟨t, b1, b2, ht, h1, h2, hb⟩, q⟩ := h
    show _
    walk_at "gos"
    refine ⟨x, .ty "int", t, .type "int", b1, rfl, .ty "int", ht, h1, ?_⟩
    walk_at "gos"
    refine g_ite (fun e => ?_) (fun e => ?_)
    · walk_at "gos"
      refine ⟨x, .ty "bool", t, .type "bool", b2, rfl, .ty "bool", ht, h2, ?_⟩
      walk_at "gos"
      subst e hb
      exact q
    · subst e hb
      exact q
/-- the greatest divisor -/
theorem gcd_step {a b : Int} (ha : 0 ≤ a) (hb : 0 ≤ b) : Int.gcd b (a.fmod b) = Int.gcd a b := by
  obtain ⟨n, rfl⟩ := Int.eq_ofNat_of_zero_le ha
  obtain ⟨m, rfl⟩ := Int.eq_ofNat_of_zero_le hb
  rw [Int.fmod_eq_emod_of_nonneg _ hb]
  show Nat.gcd m (n % m) = Nat.gcd n m
  rw [Nat.gcd_comm n m, Nat.gcd_rec m n, Nat.gcd_comm]
theorem gcd_abs (a b : Int) : Int.gcd (if a < 0 then -a else a) (if b < 0 then -b else b) = Int.gcd a b := by
  split <;> split <;> simp
/-- the loop of the greatest divisor -/
def WG (H : Hp) (a b : Int) (m : Nat) (σ' : L2.St) (H' : Hp) : Prop := ∃ a' b' : Int, σ' = [some (V.int a'), some (V.int b')] ∧ 0 ≤ a' ∧ 0 ≤ b' ∧ Int.gcd a' b' = Int.gcd a b ∧ m = b'.natAbs ∧ H' = H
theorem wg0 {H : Hp} {a b : Int} : WG H a b (if b < 0 then -b else b).natAbs [some (V.int (if a < 0 then -a else a)), some (V.int (if b < 0 then -b else b))] H := ⟨_, _, rfl, by split <;> omega, by split <;> omega, gcd_abs a b, rfl, rfl⟩
theorem wg_next {H : Hp} {a b a' b' : Int} (e2 : 0 ≤ a') (e3 : 0 ≤ b') (e4 : Int.gcd a' b' = Int.gcd a b) (hp : b' ≠ 0) : ∃ m', m' < b'.natAbs ∧ WG H a b m' [some (V.int b'), some (V.int (a'.fmod b'))] H := by
  have hm : a'.fmod b' = a' % b' := Int.fmod_eq_emod_of_nonneg _ e3
  have h1 := Int.emod_nonneg a' hp
  have h2 := Int.emod_lt_of_pos a' (show 0 < b' by omega)
  exact ⟨(a'.fmod b').natAbs, by rw [hm]; omega, b', a'.fmod b', rfl, e3, by rw [hm]; exact h1, by rw [gcd_step e2 e3, e4], rfl, rfl⟩
theorem wg_end {a b a' : Int} (e2 : 0 ≤ a') (e4 : Int.gcd a' 0 = Int.gcd a b) : (Int.gcd a b : Int) = a' := by
  rw [← e4, Int.gcd_zero]
  omega
theorem sc_common_divisor : FnScope ["one", "other"] ["one", "other"] (defScope (topS 12)) := ⟨rfl, rfl, rfl, by decide +kernel, rfl, by decide +kernel, by decide +kernel⟩
def spGcd : Sp := fun vs H Q _ => ∃ a b : Int, vs = [.int a, .int b] ∧ Q (.int (Int.gcd a b : Nat)) H
theorem ok_common_divisor (B : Bn mg) {f : Addr} {fd : FuncData} (F : Fun K "common_divisor" "common_divisor" (topS 12) f fd) : FnOk P w K mg base (L2.CX P w) 1 f fd ["one", "other"] spGcd := by
  have nd := sc_common_divisor.nd
  refine F.okX sc_common_divisor (fun vs H Q E h => ?_) (fun cdv A outer s H vs Q E hr h => ?_)
  · obtain ⟨a, b, rfl, _⟩ := h
    rfl
  · refine ⟨_, (pss_cons (ps_par (i := 0) (j := 1) rfl nd rfl rfl (by decide) rfl rfl (pa_cons (pe_callB call_abs (by rfl) B.abs_ (by decide +kernel) (pa_cons (pv 0) pa_nil)) (pa_cons (pe_callB call_abs (by rfl) B.abs_ (by decide +kernel) (pa_cons (pv 1) pa_nil)) pa_nil)) (by rfl))
      (pss_cons (ps_while (passes_of rfl) (pt_cmpR op_gt (pv 1) pe_int (nomark _)) (pss_one (ps_par (i := 0) (j := 1) rfl nd rfl rfl (by decide) rfl rfl (pa_cons (pv 1) (pa_cons (pe_op op_modN (pv 0) (pv 1)) pa_nil)) (by rfl))))
      (pss_one (ps_ret (pv 0))))), ?_⟩
    obtain ⟨a, b, rfl, q⟩ := h
    walk_at "gos"
    refine ⟨a, rfl, ?_⟩
    walk_at "gos"
    refine ⟨b, rfl, ?_⟩
    walk_at "gos"
    refine ⟨WG H a b, ⟨_, wg0⟩, fun m σ' H' ⟨a', b', e1, e2, e3, e4, e5, e6⟩ => ?_⟩
    subst e1 e5 e6
    walk_at "gos"
    refine g_itd (fun hp => ⟨_, fun _ _ z => z, ?_⟩) (fun hp => ?_)
    · walk_at "gos"
      refine g_I (by omega) ?_
      walk_at "gos"
      exact wg_next e2 e3 e4 (by omega)
    · walk_at "gos"
      obtain rfl : b' = 0 := by omega
      rw [wg_end e2 e4] at q
      exact q
def spSign : Sp := fun vs H Q _ => ∃ a : Int, vs = [.int a] ∧ Q (.int a.sign) H
/-! need_integers -/
end
end Ev

end
section
open L2 in
local macro_rules | `(tactic| walk_at "gx") => `(tactic| first
  | ((with_reducible show tVar _ _ _ _); refine g_var rfl ?_)
  | with_reducible refine g_c ?_
  | with_reducible refine g_op ?_
  | with_reducible refine g_cons ?_
  | with_reducible refine g_nil ?_
  | with_reducible refine g_test ?_
  | with_reducible refine g_blp ?_
  | with_reducible refine g_asg ?_
  | (with_reducible refine g_name ?_; (try simp only [List.set_cons_zero, List.set_cons_succ]))
  | with_reducible refine g_call ?_
  | with_reducible refine g_cb ?_
  | with_reducible refine g_I0 ?_
  | with_reducible refine g_U ?_
  | with_reducible refine g_eqI ?_
  | with_reducible refine g_neI ?_
  | with_reducible refine g_if ?_
  | with_reducible refine g_ret ?_
  | with_reducible refine g_retN ?_
  | with_reducible refine g_next ?_
  | with_reducible refine g_drop ?_
  | with_reducible refine g_un ?_
  | with_reducible refine g_tb ?_
  | with_reducible refine g_tup ?_
  | with_reducible refine g_lst ?_
  | with_reducible refine g_and ?_
  | with_reducible refine g_or ?_
  | with_reducible refine g_not ?_
  | with_reducible refine g_andV ?_
  | with_reducible refine g_orV ?_
  | with_reducible refine g_notV ?_
  | with_reducible refine g_ifE ?_
  | with_reducible refine g_fld ?_
  | with_reducible refine g_tt ?_
  | with_reducible refine g_ff ?_
  | with_reducible refine g_ntt ?_
  | with_reducible refine g_nff ?_
  | with_reducible refine g_for ?_
  | with_reducible refine g_list ?_
  | with_reducible refine g_tupI ?_
  | with_reducible refine g_rng1 ?_
  | with_reducible refine g_rng2 ?_
  | with_reducible refine g_enumA ?_
  | with_reducible refine g_rev ?_
  | with_reducible refine g_lc ?_
  | with_reducible refine g_gcons ?_
  | with_reducible refine g_gnil ?_
  | with_reducible refine g_yes ?_
  | with_reducible refine g_sl ?_
  | with_reducible refine g_nopart ?_
  | with_reducible refine g_part ?_
  | with_reducible refine g_int ?_
  | with_reducible refine g_dget ?_
  | with_reducible refine g_dput ?_
  | with_reducible refine g_raiseX ?_
  | with_reducible refine g_tru ?_
  | with_reducible refine g_sub ?_
  | with_reducible refine g_isN ?_
  | with_reducible refine g_notN ?_
  | with_reducible refine g_bm ?_
  | with_reducible refine L2.g_bm0 ?_
  | with_reducible refine g_pair ?_
  | with_reducible refine g_pair0 ?_
  | with_reducible refine u_int1 ?_
  | with_reducible refine g_chain ?_
  | with_reducible refine L2.g_sfld ?_
  | (with_reducible refine g_par3 ?_)
  | (with_reducible refine g_three ?_; (try simp only [List.set_cons_zero, List.set_cons_succ]))
  | ((with_reducible apply L2.g_tupT); walk_at "up"; rfl)
  | (with_reducible refine g_par ?_)
  | (with_reducible refine g_two ?_; (try simp only [List.set_cons_zero, List.set_cons_succ]))
  )
local macro_rules | `(tactic| walk_at "go") => `(tactic| first | walk_at "gx" | with_reducible refine L2.g_seq ?_)
local macro_rules | `(tactic| walk_at "gou") => `(tactic| repeat (walk_at "gx"))
local macro_rules | `(tactic| walk_at "gos") => `(tactic| repeat (walk_at "go"))
local macro_rules | `(tactic| walk_at "sl") => `(tactic| first
  | assumption
  | exact L2.Same.l (by assumption)
  | exact L2.SameD.l (by assumption)
  | exact L2.extN_l (by assumption))
local macro_rules | `(tactic| walk_at "up") => `(tactic| first
  | assumption
  | ((with_reducible apply L2.SameL.lst); walk_at "sl"; walk_at "up")
  | ((with_reducible apply L2.SameL.tupA); walk_at "sl"; walk_at "up")
  | ((with_reducible apply L2.SameL.ins); walk_at "sl"; walk_at "up")
  | ((with_reducible apply Ev.PB.l); walk_at "sl"; walk_at "up")
  | ((with_reducible apply Ev.IsP.l); walk_at "sl"; walk_at "up")
  | ((with_reducible apply L2.sqL); walk_at "up")
  | ((with_reducible apply L2.sqT); walk_at "up")
  | ((with_reducible apply L2.SameL.seq); walk_at "sl"; walk_at "up")
  | ((with_reducible apply Ev.Pen.same); assumption; walk_at "up")
  | ((with_reducible apply Ev.Pen.extN); assumption; walk_at "up")
  | ((with_reducible apply L2.tabs_s); assumption; walk_at "up")
  | ((with_reducible apply L2.tabs_dd); assumption; walk_at "up")
  | ((with_reducible apply Or.inl); walk_at "up")
  | ((with_reducible apply Or.inr); walk_at "up"))
local macro_rules | `(tactic| walk_at "new") => `(tactic| (
  first
    | refine ⟨L2.size_ok (by rfl), fun p hp => ?_⟩
    | refine fun p hp => ?_
  generalize hX : L2.upd _ p _ = H1
  obtain ⟨e, h⟩ := L2.news hp hX
  clear hX))
local macro_rules | `(tactic| walk_at "o") => `(tactic| first
  | ((with_reducible apply Ev.o_add); walk_at "up"; walk_at "up"; rfl; rfl; rfl)
  | ((with_reducible apply Ev.o_sub); walk_at "up"; walk_at "up"; rfl; rfl; rfl)
  | ((with_reducible apply Ev.o_mul); walk_at "up"; walk_at "up"; rfl; rfl; rfl)
  | ((with_reducible apply Ev.o_addI); walk_at "up"; assumption; rfl; rfl; rfl)
  | ((with_reducible apply Ev.o_subI); walk_at "up"; assumption; rfl; rfl; rfl)
  | ((with_reducible apply Ev.o_mulI); walk_at "up"; assumption; rfl; rfl; rfl)
  | ((with_reducible apply Ev.o_radd); walk_at "up"; assumption; rfl; rfl; rfl)
  | ((with_reducible apply Ev.o_rsub); walk_at "up"; assumption; rfl; rfl; rfl)
  | ((with_reducible apply Ev.o_rmul); walk_at "up"; assumption; rfl; rfl; rfl)
  | ((with_reducible apply Ev.o_neg); walk_at "up"; rfl; rfl; rfl))
local macro_rules | `(tactic| walk_at "eq") => `(tactic| ((with_reducible apply Ev.u_ownB); assumption; walk_at "up"; walk_at "up"; (focus (intro k; first | rfl | exact Pl.e_add | exact Pl.e_sub | exact Pl.e_mul | exact Pl.e_rsub | exact Pl.e_rsub2))))
local macro_rules | `(tactic| walk_at "isp") => `(tactic| (apply Ev.u_isB; walk_at "up"; walk_at "up"; rfl; rfl))

/-! pieces.py -/
namespace Ev
open PySem PySem.Spec PyProof.Rows L2
section
variable {P : Program} {w : World} {K : PySem.W.Frag} {mg : Str → Option Value} {base : Heap}
theorem Kd.same {H H' : Hp} {x : V} {b : Bool} (e : Same H H') : Kd K H x b → Kd K H' x b := fun ⟨t, b1, b2, h1, h2⟩ => ⟨t, b1, b2, e.ty h1, h2⟩
theorem Kd.int {H : Hp} {i : Int} : Kd K H (.int i) true := ⟨.type "int", true, false, .base (.int i), kit_ty (by decide +kernel), kit_ty (by decide +kernel), rfl⟩
theorem Kd.bl {H : Hp} {i : Bool} : Kd K H (.bl i) false := ⟨.type "bool", true, true, .base (.bl i), kit_ty (by decide +kernel), kit_ty (by decide +kernel), rfl⟩
theorem Kd.non {H : Hp} : Kd K H .non false := ⟨.type "NoneType", false, false, .base .non, kit_ty (by decide +kernel), kit_ty (by decide +kernel), rfl⟩
theorem Kd.str {H : Hp} {i : Str} : Kd K H (.str i) false := ⟨.type "str", false, false, .base (.str i), kit_ty (by decide +kernel), kit_ty (by decide +kernel), rfl⟩
theorem Kd.tup {H : Hp} {a : Addr} {xs : List V} (h : H a = some (.tup xs)) : Kd K H (.ref a) false := ⟨.type "tuple", false, false, .base (.tup h), kit_ty (by decide +kernel), kit_ty (by decide +kernel), rfl⟩
theorem Kd.lst {H : Hp} {a : Addr} {xs : List V} (h : H a = some (.lst xs)) : Kd K H (.ref a) false := ⟨.type "list", false, false, .base (.lst h), kit_ty (by decide +kernel), kit_ty (by decide +kernel), rfl⟩
/-- the class and the data of an exception with one field -/
def Exc1 (H H' : Hp) (C : Addr) (n : Str) (v : V) (E : XK) : Prop := Same H H' → ∀ d, H' d = some (.xd [(n, v)]) → E (.ref C) (some d) H'
def spNeed (K : PySem.W.Frag) (C : Addr) : Sp := fun vs H Q E => ∃ (a : Addr) (xs : List V) (kd : Nat → Bool), vs = [.ref a] ∧ (SqL K H a xs ∨ SqT K H a xs) ∧ (∀ i x, xs[i]? = some x → Kd K H x (kd i)) ∧
  ((∀ i, i < xs.length → kd i = true) → ∀ H', Same H H' → Q .non H') ∧
  ∀ i, i < xs.length → kd i = false → (∀ j, j < i → kd j = true) → ∀ H', Exc1 H H' C "index" (.int (i : Nat)) E
end
end Ev

end
/-! What a law keeps: all but dicts and tables of code objects. -/
namespace L2
open PySem PySem.Spec PyProof.Rows
def SameL (H H' : Hp) : Prop := ∀ b o, H b = some o → (∀ kvs, o ≠ .dK kvs) → (∀ ps, o ≠ .tbl ps) → H' b = some o
theorem Same.l {H H' : Hp} (e : Same H H') : SameL H H' := fun b o h _ _ => e b o h
theorem SameD.l {H H' : Hp} (e : SameD H H') : SameL H H' := fun b o h n _ => e b o h n
theorem extN_l {H H' : Hp} (e : LamX.ExtN H H') : SameL H H' := fun b o h _ n => e b o h n
theorem SameL.refl (H : Hp) : SameL H H := fun _ _ h _ _ => h
theorem SameL.trans {H H1 H2 : Hp} (a : SameL H H1) (b : SameL H1 H2) : SameL H H2 := fun c o h n m => b c o (a c o h n m) n m
theorem SameL.lst {H H' : Hp} (e : SameL H H') {a : Addr} {xs : List V} (h : H a = some (.lst xs)) : H' a = some (.lst xs) := e a _ h (fun _ z => nomatch z) fun _ z => nomatch z
theorem SameL.tupA {H H' : Hp} (e : SameL H H') {a : Addr} {xs : List V} (h : H a = some (.tup xs)) : H' a = some (.tup xs) := e a _ h (fun _ z => nomatch z) fun _ z => nomatch z
theorem SameL.ins {H H' : Hp} (e : SameL H H') {a C dx : Addr} {fs : List (Str × V)} (h : H a = some (.ins C dx fs)) : H' a = some (.ins C dx fs) := e a _ h (fun _ z => nomatch z) fun _ z => nomatch z
theorem SameL.seq {K : PySem.W.Frag} {H H' : Hp} {a : Addr} {xs : List V} (e : SameL H H') (h : SqL K H a xs) : SqL K H' a xs := by
  rcases h with (h | ⟨o, h⟩) | h
  · exact .inl (.inl (e _ _ h (fun _ z => nomatch z) fun _ z => nomatch z))
  · exact .inl (.inr ⟨o, e _ _ h (fun _ z => nomatch z) fun _ z => nomatch z⟩)
  · exact .inr h
theorem SameL.mut {H H' : Hp} {p : Addr} {o : HO} (e : SameL H H') (h : H p = none) : SameL H (upd H' p o) := fun a u ha n m => by
  rw [upd_ne (ne_of_none ha h)]
  exact e a u ha n m
theorem extN_ext {H H' H'' : Hp} (a : LamX.ExtN H H') (b : Same H' H'') : LamX.ExtN H H'' := a.trans (LamX.ExtN.of b)
theorem tabs_d {T : List (Addr × Str)} {H H' : Hp} (t : LamX.Tabs T H) (e : SameD H H') : LamX.Tabs T H' := fun p hp => by
  obtain ⟨ps, h1, h2, h3⟩ := t p hp
  refine ⟨ps, e _ _ h1 (fun _ z => nomatch z), h2, fun pos cv hc => ?_⟩
  obtain ⟨c, e1, e2⟩ := h3 pos cv hc
  exact ⟨c, e1, e _ _ e2 (fun kvs z => by unfold LamX.CodeO at z; cases z)⟩
theorem tabs_s {T : List (Addr × Str)} {H H' : Hp} (e : Same H H') (t : LamX.Tabs T H) : LamX.Tabs T H' := t.ext e
theorem tabs_dd {T : List (Addr × Str)} {H H' : Hp} (e : SameD H H') (t : LamX.Tabs T H) : LamX.Tabs T H' := tabs_d t e
theorem tabs_upd {T : List (Addr × Str)} {H : Hp} {l : Addr} {xs : List V} {o : HO} (t : LamX.Tabs T H) (h : H l = some (.lst xs)) : LamX.Tabs T (upd H l o) := fun p hp => by
  obtain ⟨ps, h1, h2, h3⟩ := t p hp
  refine ⟨ps, ?_, h2, fun pos cv hc => ?_⟩
  · rw [upd_ne (fun z => by rw [z, h] at h1; cases h1)]; exact h1
  · obtain ⟨c, e1, e2⟩ := h3 pos cv hc
    exact ⟨c, e1, by rw [upd_ne (fun z => by rw [z, h] at e2; unfold LamX.CodeO at e2; cases e2)]; exact e2⟩
end L2

/-! Lists or tuples, whichever. -/
namespace L2
open PySem PySem.Spec PyProof.Rows
def SqA (K : PySem.W.Frag) (H : Hp) (a : Addr) (xs : List V) : Prop := SqL K H a xs ∨ SqT K H a xs
theorem SameL.tupS {K : PySem.W.Frag} {H H' : Hp} {a : Addr} {xs : List V} (e : SameL H H') (h : SqT K H a xs) : SqT K H' a xs := by
  rcases h with (h | ⟨o, h⟩) | h
  · exact .inl (.inl (e _ _ h (fun _ z => nomatch z) fun _ z => nomatch z))
  · exact .inl (.inr ⟨o, e _ _ h (fun _ z => nomatch z) fun _ z => nomatch z⟩)
  · exact .inr h
theorem SqA.l {K : PySem.W.Frag} {H H' : Hp} {a : Addr} {xs : List V} (e : SameL H H') (h : SqA K H a xs) : SqA K H' a xs := h.elim (fun q => .inl (e.seq q)) fun q => .inr (e.tupS q)
theorem SqA.same {K : PySem.W.Frag} {H H' : Hp} {a : Addr} {xs : List V} (e : Same H H') (h : SqA K H a xs) : SqA K H' a xs := h.l e.l
/-- nothing but x is changed -/
def SameB (x : Addr) (H H' : Hp) : Prop := ∀ b o, b ≠ x → H b = some o → H' b = some o
theorem SameB.of {x : Addr} {H H' : Hp} (e : Same H H') : SameB x H H' := fun b o _ h => e b o h
theorem SameB.trans {x : Addr} {H H1 H2 : Hp} (a : SameB x H H1) (b : SameB x H1 H2) : SameB x H H2 := fun c o n h => b c o n (a c o n h)
theorem SameB.upd {x : Addr} {H H1 : Hp} {o : HO} (a : SameB x H H1) : SameB x H (upd H1 x o) := fun c u n h => by rw [upd_ne n]; exact a c u n h
theorem SqL.updI {K : PySem.W.Frag} {H : Hp} {a x C dx : Addr} {fs : List (Str × V)} {xs : List V} {o : HO} (hx : H x = some (.ins C dx fs)) (h : SqL K H a xs) : SqL K (upd H x o) a xs := by
  rcases h with (h | ⟨u, h⟩) | h
  · exact .inl (.inl (by rw [upd_ne (fun z => by rw [z, hx] at h; cases h)]; exact h))
  · exact .inl (.inr ⟨u, by rw [upd_ne (fun z => by rw [z, hx] at h; cases h)]; exact h⟩)
  · exact .inr h
theorem SqT.updI {K : PySem.W.Frag} {H : Hp} {a x C dx : Addr} {fs : List (Str × V)} {xs : List V} {o : HO} (hx : H x = some (.ins C dx fs)) (h : SqT K H a xs) : SqT K (upd H x o) a xs := by
  rcases h with (h | ⟨u, h⟩) | h
  · exact .inl (.inl (by rw [upd_ne (fun z => by rw [z, hx] at h; cases h)]; exact h))
  · exact .inl (.inr ⟨u, by rw [upd_ne (fun z => by rw [z, hx] at h; cases h)]; exact h⟩)
  · exact .inr h
theorem SqA.updI {K : PySem.W.Frag} {H : Hp} {a x C dx : Addr} {fs : List (Str × V)} {xs : List V} {o : HO} (hx : H x = some (.ins C dx fs)) (h : SqA K H a xs) : SqA K (upd H x o) a xs := h.elim (fun q => .inl (q.updI hx)) fun q => .inr (q.updI hx)
/-- a place, a slice of any of both -/
def rIxA (K : PySem.W.Frag) : R2 := fun x y H Q => rIxL K x y H Q ∨ rIxT K x y H Q
def rSlX (K : PySem.W.Frag) : V → Option Int → Option Int → Hp → VK → Prop := fun x lo hi H Q => rSlL K x lo hi H Q ∨ rSlA K x lo hi H Q
section
variable {X : Cx} {K : PySem.W.Frag}
theorem ix_anyK (h : X.K = K) : IxR X (rIxA K) := (ix_listK h).or (ix_tupK h)
theorem sl_tupAK (h : X.K = K) : SlR X (rSlA K) := h ▸ sl_tupA
theorem sl_anyK (h : X.K = K) : SlR X (rSlX K) := (sl_listK h).or (sl_tupAK h)
end
section
variable {σ : St} {H H' : Hp} {Q : VK} {K : PySem.W.Frag} {a : Addr} {xs : List V} {v : V}
theorem u_ixA {i : Int} (h : SqA K H a xs) (e : atI xs i = some v) (q : Q v H) : rIxA K (.ref a) (.int i) H Q := h.elim (fun z => .inl (u_ixL z e q)) fun z => .inr (u_ixT z e q)
theorem cut_whole {lo hi : Option Int} (h : HT.sIx xs.length 0 lo = 0 ∧ HT.sIx xs.length xs.length hi = xs.length) : cutV xs lo hi = xs := by
  unfold cutV
  rw [h.1, h.2, List.drop_zero, Nat.sub_zero, List.take_length]
theorem u_slT {lo hi : Option Int} (h : SqT K H a xs) (q : ∀ b H', Same H H' → SqT K H' b (cutV xs lo hi) → Q (.ref b) H') : rSlA K (.ref a) lo hi H Q :=
  ⟨a, xs, rfl, h, fun w => q a H (Same.refl H) (by rw [cut_whole w]; exact h), fun _ => g_new0 fun p H' _ e hp => q p H' e (sqT hp)⟩
theorem u_slA {lo hi : Option Int} (h : SqA K H a xs) (q : ∀ b H', Same H H' → SqA K H' b (cutV xs lo hi) → Q (.ref b) H') : rSlX K (.ref a) lo hi H Q :=
  h.elim (fun z => .inl (u_sl z fun p H' _ e hp => q p H' e (.inl (sqL hp)))) fun z => .inr (u_slT z fun b H' e hb => q b H' e (.inr hb))
theorem u_tupA (h : SqA K H a xs) (q : ∀ t H', Same H H' → SqT K H' t xs → Q (.ref t) H') : rTplS K [.ref a] H Q :=
  h.elim (fun z => u_tuple z fun p H' _ e hp => q p H' e (sqT hp)) fun z => u_tupleT z (q a H (Same.refl H) z)
theorem u_lenA (h : SqA K H a xs) (q : Q (.int xs.length) H) : rLenS K [.ref a] H Q := h.elim (fun z => u_lenL z q) fun z => u_lenT z q
theorem g_rng3 {t : TA} {R : It → Hp → Prop} (q : t σ H fun vs H1 => ∃ (i j c : Int) (n : Nat), vs = [.int i, .int j, .int c] ∧ RgC i j c n ∧ R (Itc i c n) H1) : iRng3 t σ H R := q
theorem u_neD {x y : V} {d e : PyData} {b : Bool} {Q : VK} (h1 : Dp K H x d) (h2 : Dp K H y e) (s1 : SeqAt.shaped d = true) (s2 : SeqAt.shaped e = true) (hb : PyData.eqv d e = b) (q : Q (.bl (!b)) H) : rNeD K x y H Q := ⟨d, e, h1, h2, s1, s2, by rw [hb]; exact q⟩
theorem shaped_tag {x : Str} {d : PyData} (hx : PyData.canLay0 (.str x) = true) (h : d.canLay0 = true) (h2 : d.depth ≤ 3) : SeqAt.shaped (.tuple [.str x, d]) = true := by
  show (PyData.canLay0 (.tuple [.str x, d]) && decide (PyData.depth (.tuple [.str x, d]) ≤ 64)) = true
  rw [Bool.and_eq_true]
  have e : PyData.depth (.tuple [.str x, d]) = max 0 (max d.depth 0) + 1 := by simp only [PyData.depth, PyData.depthAll]
  have e2 : PyData.canLay0 (.tuple [.str x, d]) = (PyData.canLay0 (.str x) && (d.canLay0 && true)) := by simp only [PyData.canLay0, PyData.canLayAll0]
  exact ⟨by rw [e2, hx, h]; rfl, decide_eq_true (by omega)⟩
/-! rows of truths -/
theorem dpAll_bools : ∀ ns : List Bool, DpAll K H (ns.map V.bl) (ns.map PyData.bool)
  | [] => .nil
  | n :: r => .cons (.bl n) (dpAll_bools r)
theorem eqv_bools : ∀ ns ms : List Bool, PyData.eqvAll (ns.map PyData.bool) (ms.map PyData.bool) = decide (ns = ms)
  | [], [] => by simp [PyData.eqvAll]
  | [], _ :: _ => by simp [PyData.eqvAll]
  | _ :: _, [] => by simp [PyData.eqvAll]
  | a :: r, b :: t => by
    simp only [List.map_cons, PyData.eqvAll, PyData.eqv, eqv_bools r t]
    by_cases h : a = b <;> by_cases h' : r = t <;> simp [h, h']
theorem lay_bools : ∀ ns : List Bool, PyData.canLayAll0 (ns.map PyData.bool) = true
  | [] => by simp [PyData.canLayAll0]
  | a :: r => by simp [PyData.canLayAll0, PyData.canLay0, lay_bools r]
theorem depth_bools : ∀ ns : List Bool, PyData.depthAll (ns.map PyData.bool) = 0
  | [] => by simp [PyData.depthAll]
  | a :: r => by simp [PyData.depthAll, PyData.depth, depth_bools r]
theorem shaped_boolsL (ns : List Bool) : SeqAt.shaped (.list (ns.map PyData.bool)) = true := by
  simp [SeqAt.shaped, PyData.canLay0, PyData.depth, lay_bools, depth_bools]
theorem shaped_boolsT (ns : List Bool) : SeqAt.shaped (.tuple (ns.map PyData.bool)) = true := by
  simp [SeqAt.shaped, PyData.canLay0, PyData.depth, lay_bools, depth_bools]
theorem u_eqLB {b : Addr} {ns ms : List Bool} (h1 : SqL K H a (ns.map V.bl)) (h2 : SqL K H b (ms.map V.bl)) (q : Q (.bl (decide (ns = ms))) H) : rEqD K (.ref a) (.ref b) H Q :=
  ⟨_, _, .lst h1 (dpAll_bools ns), .lst h2 (dpAll_bools ms), shaped_boolsL _, shaped_boolsL _, by
    show Q (.bl (PyData.eqv (.list (ns.map PyData.bool)) (.list (ms.map PyData.bool)))) H
    rw [PyData.eqv, eqv_bools]; exact q⟩
theorem u_eqTB {b : Addr} {ns ms : List Bool} (h1 : SqT K H a (ns.map V.bl)) (h2 : SqT K H b (ms.map V.bl)) (q : Q (.bl (decide (ns = ms))) H) : rEqD K (.ref a) (.ref b) H Q :=
  ⟨_, _, .tup h1 (dpAll_bools ns), .tup h2 (dpAll_bools ms), shaped_boolsT _, shaped_boolsT _, by
    show Q (.bl (PyData.eqv (.tuple (ns.map PyData.bool)) (.tuple (ms.map PyData.bool)))) H
    rw [PyData.eqv, eqv_bools]; exact q⟩
theorem bools_inj {ns ms : List Bool} (h : ns.map V.bl = ms.map V.bl) : ns = ms := by
  induction ns generalizing ms with
  | nil => cases ms with
    | nil => rfl
    | cons a b => cases h
  | cons a r ih => cases ms with
    | nil => cases h
    | cons b s =>
      rw [List.map_cons, List.map_cons] at h
      injection h with h1 h2
      injection h1 with h1
      rw [h1, ih h2]
end
end L2

/-! Sets of n, plainly. -/
namespace Wp
/-- a member of a row of truths -/
def bt (l : List Bool) (k : Nat) : Bool := l.getD k false
theorem bt_in {l : List Bool} {k : Nat} (h : k < l.length) : bt l k = l[k] := by
  unfold bt
  rw [List.getD_eq_getElem?_getD, List.getElem?_eq_getElem h]
  rfl
theorem bt_get {l : List Bool} {k : Nat} {x : Bool} (h : l[k]? = some x) : bt l k = x := by
  unfold bt
  rw [List.getD_eq_getElem?_getD, h]
  rfl
theorem bt_some {l : List Bool} {k : Nat} (h : k < l.length) : l[k]? = some (bt l k) := by rw [bt_in h, List.getElem?_eq_getElem h]
theorem bt_take {l : List Bool} {m k : Nat} (h : k < m) : bt (l.take m) k = bt l k := by
  unfold bt
  rw [List.getD_eq_getElem?_getD, List.getD_eq_getElem?_getD, List.getElem?_take, if_pos h]
theorem bt_ext {a b : List Bool} (hl : a.length = b.length) (h : ∀ k, k < a.length → bt a k = bt b k) : a = b := by
  refine List.ext_getElem hl fun i h1 h2 => ?_
  rw [← bt_in h1, ← bt_in h2]
  exact h i h1
/-- the truth at n -/
def mem (b r : List Bool) (n : Nat) : Bool := if n < b.length then bt b n else bt r (n % r.length)
/-- q is a period from s on -/
def Per (f : Nat → Bool) (s q : Nat) : Prop := ∀ n, s ≤ n → f (n + q) = f n
theorem Per.mul {f : Nat → Bool} {s q : Nat} (h : Per f s q) : ∀ k, Per f s (k * q)
  | 0 => fun n _ => by rw [Nat.zero_mul]; rfl
  | k + 1 => fun n hn => by rw [Nat.add_mul, Nat.one_mul, ← Nat.add_assoc, h _ (by omega), Per.mul h k n hn]
theorem Per.gcd {f : Nat → Bool} {s : Nat} (p q : Nat) : Per f s p → Per f s q → Per f s (Nat.gcd p q) := by
  induction p, q using Nat.gcd.induction with
  | H0 n => intro _ h; rw [Nat.gcd_zero_left]; exact h
  | H1 m n hm ih =>
    intro h1 h2
    rw [Nat.gcd_rec]
    refine ih (fun k hk => ?_) h1
    have e : k + n = k + n % m + n / m * m := by
      have := Nat.mod_add_div n m
      rw [Nat.mul_comm] at this
      omega
    rw [← h2 k hk, e, (h1.mul (n / m)) _ (by omega)]
theorem Per.le {f : Nat → Bool} {s t q : Nat} (h : Per f s q) (hs : s ≤ t) : Per f t q := fun n hn => h n (by omega)
theorem Per.congr {f g : Nat → Bool} {s q : Nat} (h : Per f s q) (e : ∀ n, f n = g n) : Per g s q := fun n hn => by rw [← e, ← e]; exact h n hn
theorem mem_per {b r : List Bool} : Per (mem b r) b.length r.length := fun n hn => by
  unfold mem
  rw [if_neg (by omega), if_neg (by omega), Nat.add_mod_right]
/-- the least data -/
structure Nm (b r : List Bool) : Prop where
  pos : 0 < r.length
  per : ∀ s q, 0 < q → Per (mem b r) s q → r.length ≤ q
  low : 0 < b.length → bt b (b.length - 1) ≠ bt r ((b.length - 1) % r.length)
theorem Nm.uniq {b r b' r' : List Bool} (h : Nm b r) (h' : Nm b' r') (e : ∀ n, mem b r n = mem b' r' n) : b = b' ∧ r = r' := by
  have hl : r.length = r'.length := Nat.le_antisymm (h.per _ _ h'.pos (mem_per.congr fun n => (e n).symm)) (h'.per _ _ h.pos (mem_per.congr e))
  have hr : r = r' := by
    refine bt_ext hl fun k hk => ?_
    have h1 := e (k + (b.length + b'.length) * r.length)
    unfold mem at h1
    have hm : b.length + b'.length ≤ (b.length + b'.length) * r.length := Nat.le_mul_of_pos_right _ h.pos
    rw [if_neg (by omega), if_neg (by omega), ← hl, Nat.add_mul_mod_self_right, Nat.mod_eq_of_lt hk] at h1
    exact h1
  subst hr
  have hb : b.length = b'.length := by
    rcases Nat.lt_trichotomy b.length b'.length with hlt | he | hlt
    · have h1 := e (b'.length - 1)
      unfold mem at h1
      rw [if_neg (by omega), if_pos (by omega)] at h1
      exact absurd h1.symm (h'.low (by omega))
    · exact he
    · have h1 := e (b.length - 1)
      unfold mem at h1
      rw [if_pos (by omega), if_neg (by omega)] at h1
      exact absurd h1 (h.low (by omega))
  refine ⟨bt_ext hb fun k hk => ?_, rfl⟩
  have h1 := e k
  unfold mem at h1
  rw [if_pos hk, if_pos (by omega)] at h1
  exact h1
/-- the row comes round after d -/
def Rnd (R : List Bool) (d : Nat) : Prop := ∀ i, i < R.length → bt R i = bt R (i % d)
/-- the row's least round -/
structure LP (R : List Bool) (d : Nat) : Prop where
  pos : 0 < d
  dvd : R.length % d = 0
  rnd : Rnd R d
  least : ∀ e, 0 < e → e < d → R.length % e = 0 → ¬ Rnd R e
theorem rnd_self {R : List Bool} : Rnd R R.length := fun i hi => by rw [Nat.mod_eq_of_lt hi]
theorem LP.le {R : List Bool} {d : Nat} (h : LP R d) (hR : 0 < R.length) : d ≤ R.length := Nat.le_of_dvd hR (Nat.dvd_of_mod_eq_zero h.dvd)
theorem mem_take {b R : List Bool} {d : Nat} (h : LP R d) (hR : 0 < R.length) (n : Nat) : mem b (R.take d) n = mem b R n := by
  unfold mem
  split
  · rfl
  · have hd := h.le hR
    have hl : (R.take d).length = d := by rw [List.length_take]; omega
    have h1 := Nat.mod_lt n hR
    rw [hl, bt_take (Nat.mod_lt _ h.pos), h.rnd _ h1, Nat.mod_mod_of_dvd _ (Nat.dvd_of_mod_eq_zero h.dvd)]
theorem lp_per {b R : List Bool} {d : Nat} (h : LP R d) (hR : 0 < R.length) {s q : Nat} (hq : 0 < q) (hp : Per (mem b (R.take d)) s q) : (R.take d).length ≤ q := by
  have hd := h.le hR
  have hl : (R.take d).length = d := by rw [List.length_take]; omega
  have hm := mem_per (b := b) (r := R.take d)
  rw [hl] at hm ⊢
  have hS : Per (mem b (R.take d)) (s + b.length) (Nat.gcd d q) := Per.gcd d q (hm.le (by omega)) (hp.le (by omega))
  have hg : 0 < Nat.gcd d q := Nat.gcd_pos_of_pos_left _ h.pos
  have hgd : Nat.gcd d q ∣ d := Nat.gcd_dvd_left d q
  have hdl : d ∣ R.length := Nat.dvd_of_mod_eq_zero h.dvd
  have hgl : Nat.gcd d q ∣ R.length := Nat.dvd_trans hgd hdl
  have hrnd : Rnd R (Nat.gcd d q) := fun i hi => by
    -- far out
    have far : ∀ j, bt R (j % R.length) = mem b (R.take d) (j + (s + b.length) * R.length) := fun j => by
      rw [mem_take h hR]
      unfold mem
      have : s + b.length ≤ (s + b.length) * R.length := Nat.le_mul_of_pos_right _ hR
      rw [if_neg (by omega), Nat.add_mul_mod_self_right]
    have e1 := far i
    rw [Nat.mod_eq_of_lt hi] at e1
    have e2 := far (i % Nat.gcd d q)
    have hlt : i % Nat.gcd d q < R.length := by have := Nat.mod_le i (Nat.gcd d q); omega
    rw [Nat.mod_eq_of_lt hlt] at e2
    rw [e1, e2]
    have hsl : s + b.length ≤ (s + b.length) * R.length := Nat.le_mul_of_pos_right _ hR
    have e3 := (hS.mul (i / Nat.gcd d q)) (i % Nat.gcd d q + (s + b.length) * R.length) (by omega)
    rw [← e3]
    have := Nat.mod_add_div i (Nat.gcd d q)
    rw [Nat.mul_comm] at this
    congr 1
    omega
  have hle := Nat.le_of_dvd hq (Nat.gcd_dvd_right d q)
  by_cases hlt : Nat.gcd d q < d
  · exact absurd hrnd (h.least _ hg hlt (Nat.mod_eq_zero_of_dvd hgl))
  · omega
/-- the start: the last s truths of b from there on are those of the round -/
structure St (b r : List Bool) (s : Nat) : Prop where
  le : s ≤ b.length
  same : ∀ k, s ≤ k → k < b.length → bt b k = bt r (k % r.length)
  low : 0 < s → bt b (s - 1) ≠ bt r ((s - 1) % r.length)
theorem mem_cut {b r : List Bool} {s : Nat} (h : St b r s) (n : Nat) : mem (b.take s) r n = mem b r n := by
  have hl : (b.take s).length = s := by rw [List.length_take]; have := h.le; omega
  unfold mem
  rw [hl]
  by_cases h1 : n < s
  · rw [if_pos h1, if_pos (by have := h.le; omega), bt_take h1]
  · rw [if_neg h1]
    by_cases h2 : n < b.length
    · rw [if_pos h2, h.same n (by omega) h2]
    · rw [if_neg h2]
theorem nm_made {b R : List Bool} {d s : Nat} (hR : 0 < R.length) (h : LP R d) (hs : St b (R.take d) s) : Nm (b.take s) (R.take d) ∧ ∀ n, mem (b.take s) (R.take d) n = mem b R n := by
  have hd := h.le hR
  have hl : (R.take d).length = d := by rw [List.length_take]; omega
  have hl2 : (b.take s).length = s := by rw [List.length_take]; have := hs.le; omega
  refine ⟨⟨by rw [hl]; exact h.pos, fun s' q hq hp => lp_per h hR hq (hp.congr fun n => mem_cut hs n), fun h0 => ?_⟩, fun n => by rw [mem_cut hs, mem_take h hR]⟩
  rw [hl2] at h0 ⊢
  rw [bt_take (by omega)]
  exact hs.low h0
/-- rounds put side by side -/
theorem rep_len {xs : List Bool} : ∀ k, ((List.replicate k xs).flatten).length = k * xs.length
  | 0 => by simp
  | k + 1 => by rw [List.replicate_succ, List.flatten_cons, List.length_append, rep_len k, Nat.add_mul, Nat.one_mul]; omega
theorem rep_at {xs : List Bool} (hx : 0 < xs.length) : ∀ k i, i < k * xs.length → bt ((List.replicate k xs).flatten) i = bt xs (i % xs.length)
  | 0, i, h => by omega
  | k + 1, i, h => by
    rw [List.replicate_succ, List.flatten_cons]
    unfold bt
    rw [List.getD_eq_getElem?_getD, List.getD_eq_getElem?_getD]
    by_cases h1 : i < xs.length
    · rw [List.getElem?_append_left h1, Nat.mod_eq_of_lt h1]
    · rw [Nat.add_mul, Nat.one_mul] at h
      rw [List.getElem?_append_right (by omega), ← List.getD_eq_getElem?_getD, ← List.getD_eq_getElem?_getD]
      have := rep_at hx k (i - xs.length) (by omega)
      unfold bt at this
      rw [this, Nat.mod_eq_sub_mod (a := i) (by omega)]
/-- the row is its first d, k times -/
theorem rnd_iff {R : List Bool} {d : Nat} (hd : 0 < d) (hle : d ≤ R.length) (hm : R.length % d = 0) : R = (List.replicate (R.length / d) (R.take d)).flatten ↔ Rnd R d := by
  have hl : (R.take d).length = d := by rw [List.length_take]; omega
  have hk : R.length / d * d = R.length := Nat.div_mul_cancel (Nat.dvd_of_mod_eq_zero hm)
  constructor
  · intro e i hi
    have h1 : bt R i = bt (R.take d) (i % d) := by
      conv => lhs; rw [e]
      rw [rep_at (by omega) _ _ (by rw [hl, hk]; exact hi), hl]
    rw [h1, bt_take (Nat.mod_lt _ hd)]
  · intro h
    refine bt_ext (by rw [rep_len, hl, hk]) fun k hk' => ?_
    rw [rep_at (by omega) _ _ (by rw [hl, hk]; exact hk'), hl, bt_take (Nat.mod_lt _ hd)]
    exact h k hk'
/-- a function that comes round has least data -/
theorem lp_ex (R : List Bool) (hR : 0 < R.length) : ∃ d, LP R d := by
  have key : ∀ n, (∃ d, d ≤ n ∧ LP R d) ∨ ∀ e, 0 < e → e ≤ n → R.length % e = 0 → ¬ Rnd R e := by
    intro n
    induction n with
    | zero => exact .inr fun e h1 h2 => by omega
    | succ n ih =>
      rcases ih with ⟨d, h1, h2⟩ | h
      · exact .inl ⟨d, by omega, h2⟩
      · by_cases hc : R.length % (n + 1) = 0 ∧ Rnd R (n + 1)
        · exact .inl ⟨n + 1, Nat.le_refl _, by omega, hc.1, hc.2, fun e h1 h2 => h e h1 (by omega)⟩
        · refine .inr fun e h1 h2 h3 h4 => ?_
          by_cases he : e = n + 1
          · subst he; exact hc ⟨h3, h4⟩
          · exact h e h1 (by omega) h3 h4
  rcases key R.length with ⟨d, _, h⟩ | h
  · exact ⟨d, h⟩
  · exact absurd rnd_self (h R.length hR (Nat.le_refl _) (Nat.mod_self _))
theorem st_ex (b r : List Bool) : ∃ s, St b r s := by
  have key : ∀ n, n ≤ b.length → (∀ k, n ≤ k → k < b.length → bt b k = bt r (k % r.length)) → ∃ s, St b r s := by
    intro n
    induction n with
    | zero => exact fun h1 h2 => ⟨0, Nat.zero_le _, h2, fun h => absurd h (Nat.lt_irrefl 0)⟩
    | succ n ih =>
      intro h1 h2
      by_cases hc : bt b n = bt r (n % r.length)
      · refine ih (by omega) fun k h3 h4 => ?_
        by_cases hk : k = n
        · subst hk; exact hc
        · exact h2 k (by omega) h4
      · exact ⟨n + 1, h1, h2, fun _ => by rw [Nat.add_sub_cancel]; exact hc⟩
  exact key b.length (Nat.le_refl _) fun k h1 h2 => by omega
theorem nm_ex (b R : List Bool) (hR : 0 < R.length) : ∃ b' r', Nm b' r' ∧ ∀ n, mem b' r' n = mem b R n := by
  obtain ⟨d, hd⟩ := lp_ex R hR
  obtain ⟨s, hs⟩ := st_ex b (R.take d)
  exact ⟨_, _, nm_made hR hd hs⟩
end Wp
namespace Wp
theorem nm_len {bl rl B R : List Bool} (hR : 0 < R.length) (h : Nm bl rl) (e : ∀ n, mem bl rl n = mem B R n) : rl.length ≤ R.length ∧ bl.length ≤ B.length := by
  obtain ⟨d, hd⟩ := lp_ex R hR
  obtain ⟨s, hs⟩ := st_ex B (R.take d)
  obtain ⟨h1, h2⟩ := nm_made hR hd hs
  obtain ⟨rfl, rfl⟩ := h.uniq h1 fun n => by rw [e, h2]
  rw [List.length_take, List.length_take]
  omega
/-- more truths, more rounds -/
theorem mem_longer {B R M : List Bool} {k : Nat} (hR : 0 < R.length) (hk : 0 < k) (hl : B.length ≤ M.length) (hM : ∀ i, i < M.length → bt M i = mem B R i) (n : Nat) : mem M (List.replicate k R).flatten n = mem B R n := by
  have hlen := rep_len (xs := R) k
  have hpos : 0 < k * R.length := Nat.mul_pos hk hR
  by_cases h : n < M.length
  · unfold mem
    rw [if_pos h, hM n h]
    rfl
  · unfold mem
    rw [if_neg h, if_neg (by omega), hlen, rep_at hR _ _ (Nat.mod_lt _ hpos), Nat.mod_mod_of_dvd _ (Nat.dvd_mul_left _ _)]
end Wp
namespace Wp
theorem lp_rep {R : List Bool} {d k : Nat} (h : LP R d) (hR : 0 < R.length) (hk : 0 < k) : LP (List.replicate k R).flatten d := by
  have hlen := rep_len (xs := R) k
  have hpos : 0 < (List.replicate k R).flatten.length := by rw [hlen]; exact Nat.mul_pos hk hR
  obtain ⟨d', hd'⟩ := lp_ex _ hpos
  have s0 : ∀ r : List Bool, St [] r 0 := fun r => ⟨Nat.le_refl _, fun k _ h => absurd h (Nat.not_lt_zero k), fun h => absurd h (Nat.lt_irrefl 0)⟩
  obtain ⟨n1, e1⟩ := nm_made hR h (s0 _)
  obtain ⟨n2, e2⟩ := nm_made hpos hd' (s0 _)
  have := (n1.uniq n2 fun n => by rw [e1, e2, mem_longer (M := []) hR hk (Nat.le_refl _) (fun i hi => absurd hi (Nat.not_lt_zero i))]).2
  have hl := congrArg List.length this
  rw [List.length_take, List.length_take, Nat.min_eq_left (h.le hR), Nat.min_eq_left (hd'.le hpos)] at hl
  rw [hl]
  exact hd'
/-- one truth at 5 -/
def hot (m : Nat) : List Bool := (List.range m).map fun k => decide (k = 5)
theorem hot_len {m : Nat} : (hot m).length = m := by unfold hot; rw [List.length_map, List.length_range]
theorem hot_at {m k : Nat} (h : k < m) : bt (hot m) k = decide (k = 5) := by
  rw [bt_in (by rw [hot_len]; exact h)]
  unfold hot
  rw [List.getElem_map, List.getElem_range]
theorem hot_lp {m : Nat} (h : 10 < m) : LP (hot m) m := by
  refine ⟨by omega, by rw [hot_len]; exact Nat.mod_self _, by have := rnd_self (R := hot m); rwa [hot_len] at this, fun e h1 h2 h3 h4 => ?_⟩
  rw [hot_len] at h3
  by_cases he : e ≤ 5
  · have := h4 5 (by rw [hot_len]; omega)
    have hlt := Nat.mod_lt 5 h1
    rw [hot_at (by omega), hot_at (by omega), decide_eq_true rfl] at this
    have := of_decide_eq_true this.symm
    omega
  · obtain ⟨c, hc⟩ := Nat.dvd_of_mod_eq_zero h3
    have hc2 : 2 ≤ c := by
      rcases Nat.lt_or_ge c 2 with z | z
      · exfalso
        have : c = 0 ∨ c = 1 := by omega
        rcases this with rfl | rfl
        · rw [Nat.mul_zero] at hc; omega
        · rw [Nat.mul_one] at hc; omega
      · exact z
    have h2e : e * 2 ≤ m := by rw [hc]; exact Nat.mul_le_mul_left _ hc2
    have := h4 (5 + e) (by rw [hot_len]; omega)
    rw [Nat.add_mod_right, Nat.mod_eq_of_lt (by omega), hot_at (by omega), hot_at (by omega), decide_eq_true rfl] at this
    have := of_decide_eq_true this
    omega
theorem st_nil {r : List Bool} : St [] r 0 := ⟨Nat.le_refl _, fun k _ h => absurd h (Nat.not_lt_zero k), fun h => absurd h (Nat.lt_irrefl 0)⟩
/-- one truth at the end -/
def lateB (low : Nat) : List Bool := List.replicate (low - 1) false ++ [true]
theorem late_len {low : Nat} (h : 0 < low) : (lateB low).length = low := by unfold lateB; rw [List.length_append, List.length_replicate, List.length_singleton]; omega
theorem late_st {low : Nat} {r : List Bool} (h : 0 < low) (hr : bt r ((low - 1) % r.length) = false) : St (lateB low) r low := by
  refine ⟨by rw [late_len h]; exact Nat.le_refl _, fun k h1 h2 => by rw [late_len h] at h2; omega, fun _ => ?_⟩
  rw [hr]
  have : bt (lateB low) (low - 1) = true := by
    unfold bt lateB
    rw [List.getD_eq_getElem?_getD, List.getElem?_append_right (by rw [List.length_replicate]; exact Nat.le_refl _), List.length_replicate, Nat.sub_self]
    rfl
  rw [this]
  decide
theorem lp1 {b : Bool} : LP [b] 1 := ⟨by decide, by simp, fun i hi => by
  have : i = 0 := by simpa using hi
  subst this; rfl, fun e h1 h2 => by omega⟩
theorem lp2 : LP [false, true] 2 := ⟨by decide, by decide, fun i hi => by
  have : i < 2 := hi
  rw [Nat.mod_eq_of_lt this], fun e h1 h2 _ h4 => by
  obtain rfl : e = 1 := by omega
  have := h4 1 (by decide)
  exact absurd this (by decide)⟩
end Wp

section
open L2 in
local macro_rules | `(tactic| walk_at "gx") => `(tactic| first
  | ((with_reducible show tVar _ _ _ _); refine g_var rfl ?_)
  | with_reducible refine g_c ?_
  | with_reducible refine g_op ?_
  | with_reducible refine g_cons ?_
  | with_reducible refine g_nil ?_
  | with_reducible refine g_test ?_
  | with_reducible refine g_blp ?_
  | with_reducible refine g_asg ?_
  | (with_reducible refine g_name ?_; (try simp only [List.set_cons_zero, List.set_cons_succ]))
  | with_reducible refine g_call ?_
  | with_reducible refine g_cb ?_
  | with_reducible refine g_I0 ?_
  | with_reducible refine g_U ?_
  | with_reducible refine g_eqI ?_
  | with_reducible refine g_neI ?_
  | with_reducible refine g_if ?_
  | with_reducible refine g_ret ?_
  | with_reducible refine g_retN ?_
  | with_reducible refine g_next ?_
  | with_reducible refine g_drop ?_
  | with_reducible refine g_un ?_
  | with_reducible refine g_tb ?_
  | with_reducible refine g_tup ?_
  | with_reducible refine g_lst ?_
  | with_reducible refine g_and ?_
  | with_reducible refine g_or ?_
  | with_reducible refine g_not ?_
  | with_reducible refine g_andV ?_
  | with_reducible refine g_orV ?_
  | with_reducible refine g_notV ?_
  | with_reducible refine g_ifE ?_
  | with_reducible refine g_fld ?_
  | with_reducible refine g_tt ?_
  | with_reducible refine g_ff ?_
  | with_reducible refine g_ntt ?_
  | with_reducible refine g_nff ?_
  | with_reducible refine g_for ?_
  | with_reducible refine g_list ?_
  | with_reducible refine g_tupI ?_
  | with_reducible refine g_rng1 ?_
  | with_reducible refine g_rng2 ?_
  | with_reducible refine g_enumA ?_
  | with_reducible refine g_rev ?_
  | with_reducible refine g_lc ?_
  | with_reducible refine g_gcons ?_
  | with_reducible refine g_gnil ?_
  | with_reducible refine g_yes ?_
  | with_reducible refine g_sl ?_
  | with_reducible refine g_nopart ?_
  | with_reducible refine g_part ?_
  | with_reducible refine g_int ?_
  | with_reducible refine g_dget ?_
  | with_reducible refine g_dput ?_
  | with_reducible refine g_raiseX ?_
  | with_reducible refine g_tru ?_
  | with_reducible refine g_sub ?_
  | with_reducible refine g_isN ?_
  | with_reducible refine g_notN ?_
  | with_reducible refine g_bm ?_
  | with_reducible refine L2.g_bm0 ?_
  | with_reducible refine g_pair ?_
  | with_reducible refine g_pair0 ?_
  | with_reducible refine u_int1 ?_
  | with_reducible refine g_chain ?_
  | with_reducible refine L2.g_sfld ?_
  | (with_reducible refine g_par3 ?_)
  | (with_reducible refine g_three ?_; (try simp only [List.set_cons_zero, List.set_cons_succ]))
  | ((with_reducible apply L2.g_tupT); walk_at "up"; rfl)
  | (with_reducible refine g_par ?_)
  | (with_reducible refine g_two ?_; (try simp only [List.set_cons_zero, List.set_cons_succ]))
  )
local macro_rules | `(tactic| walk_at "go") => `(tactic| first | walk_at "gx" | with_reducible refine L2.g_seq ?_)
local macro_rules | `(tactic| walk_at "gou") => `(tactic| repeat (walk_at "gx"))
local macro_rules | `(tactic| walk_at "gos") => `(tactic| repeat (walk_at "go"))
local macro_rules | `(tactic| walk_at "sl") => `(tactic| first
  | assumption
  | exact L2.Same.l (by assumption)
  | exact L2.SameD.l (by assumption)
  | exact L2.extN_l (by assumption))
local macro_rules | `(tactic| walk_at "up") => `(tactic| first
  | assumption
  | ((with_reducible apply L2.SameL.lst); walk_at "sl"; walk_at "up")
  | ((with_reducible apply L2.SameL.tupA); walk_at "sl"; walk_at "up")
  | ((with_reducible apply L2.SameL.ins); walk_at "sl"; walk_at "up")
  | ((with_reducible apply Ev.PB.l); walk_at "sl"; walk_at "up")
  | ((with_reducible apply Ev.IsP.l); walk_at "sl"; walk_at "up")
  | ((with_reducible apply L2.sqL); walk_at "up")
  | ((with_reducible apply L2.sqT); walk_at "up")
  | ((with_reducible apply L2.SameL.seq); walk_at "sl"; walk_at "up")
  | ((with_reducible apply Ev.Pen.same); assumption; walk_at "up")
  | ((with_reducible apply Ev.Pen.extN); assumption; walk_at "up")
  | ((with_reducible apply L2.tabs_s); assumption; walk_at "up")
  | ((with_reducible apply L2.tabs_dd); assumption; walk_at "up")
  | ((with_reducible apply Or.inl); walk_at "up")
  | ((with_reducible apply Or.inr); walk_at "up"))
local macro_rules | `(tactic| walk_at "new") => `(tactic| (
  first
    | refine ⟨L2.size_ok (by rfl), fun p hp => ?_⟩
    | refine fun p hp => ?_
  generalize hX : L2.upd _ p _ = H1
  obtain ⟨e, h⟩ := L2.news hp hX
  clear hX))
local macro_rules | `(tactic| walk_at "o") => `(tactic| first
  | ((with_reducible apply Ev.o_add); walk_at "up"; walk_at "up"; rfl; rfl; rfl)
  | ((with_reducible apply Ev.o_sub); walk_at "up"; walk_at "up"; rfl; rfl; rfl)
  | ((with_reducible apply Ev.o_mul); walk_at "up"; walk_at "up"; rfl; rfl; rfl)
  | ((with_reducible apply Ev.o_addI); walk_at "up"; assumption; rfl; rfl; rfl)
  | ((with_reducible apply Ev.o_subI); walk_at "up"; assumption; rfl; rfl; rfl)
  | ((with_reducible apply Ev.o_mulI); walk_at "up"; assumption; rfl; rfl; rfl)
  | ((with_reducible apply Ev.o_radd); walk_at "up"; assumption; rfl; rfl; rfl)
  | ((with_reducible apply Ev.o_rsub); walk_at "up"; assumption; rfl; rfl; rfl)
  | ((with_reducible apply Ev.o_rmul); walk_at "up"; assumption; rfl; rfl; rfl)
  | ((with_reducible apply Ev.o_neg); walk_at "up"; rfl; rfl; rfl))
local macro_rules | `(tactic| walk_at "eq") => `(tactic| ((with_reducible apply Ev.u_ownB); assumption; walk_at "up"; walk_at "up"; (focus (intro k; first | rfl | exact Pl.e_add | exact Pl.e_sub | exact Pl.e_mul | exact Pl.e_rsub | exact Pl.e_rsub2))))
local macro_rules | `(tactic| walk_at "isp") => `(tactic| (apply Ev.u_isB; walk_at "up"; walk_at "up"; rfl; rfl))

/-! wheres.py: sets made -/
namespace Ev
open PySem PySem.Spec PyProof.Rows L2 Wp
/-- isinstance(x, bool) is b -/
def KdB (K : PySem.W.Frag) (H : Hp) (x : V) (b : Bool) : Prop := ∃ t, TyX K H x t ∧ PySem.W.kitOne K t (.type "bool") = some b
section
variable {P : Program} {w : World} {K : PySem.W.Frag} {mg : Str → Option Value} {base : Heap}
theorem KdB.same {H H' : Hp} {x : V} {b : Bool} (e : Same H H') : KdB K H x b → KdB K H' x b := fun ⟨t, h1, h2⟩ => ⟨t, e.ty h1, h2⟩
theorem KdB.bl {H : Hp} {i : Bool} : KdB K H (.bl i) true := ⟨.type "bool", .base (.bl i), kit_ty (by decide +kernel)⟩
theorem KdB.int {H : Hp} {i : Int} : KdB K H (.int i) false := ⟨.type "int", .base (.int i), kit_ty (by decide +kernel)⟩
theorem KdB.non {H : Hp} : KdB K H .non false := ⟨.type "NoneType", .base .non, kit_ty (by decide +kernel)⟩
theorem KdB.str {H : Hp} {i : Str} : KdB K H (.str i) false := ⟨.type "str", .base (.str i), kit_ty (by decide +kernel)⟩
theorem KdB.tup {H : Hp} {a : Addr} {xs : List V} (h : H a = some (.tup xs)) : KdB K H (.ref a) false := ⟨.type "tuple", .base (.tup h), kit_ty (by decide +kernel)⟩
theorem KdB.lst {H : Hp} {a : Addr} {xs : List V} (h : H a = some (.lst xs)) : KdB K H (.ref a) false := ⟨.type "list", .base (.lst h), kit_ty (by decide +kernel)⟩
def spNeedT (K : PySem.W.Frag) (C : Addr) : Sp := fun vs H Q E => ∃ (a : Addr) (xs : List V) (kd : Nat → Bool), vs = [.ref a] ∧ SqA K H a xs ∧ (∀ i x, xs[i]? = some x → KdB K H x (kd i)) ∧
  ((∀ i, i < xs.length → kd i = true) → ∀ H', Same H H' → Q .non H') ∧
  ∀ i, i < xs.length → kd i = false → (∀ j, j < i → kd j = true) → ∀ H', Exc1 H H' C "index" (.int (i : Nat)) E
theorem sc_need_truths : FnScope ["truths", "index", "truth"] ["truths"] (defScope (topS 17)) := ⟨rfl, rfl, rfl, by decide +kernel, rfl, by decide +kernel, by decide +kernel⟩
theorem ok_need_truths {CT : Addr} (B : Bn mg) (X_BadTruth : ExT P K mg "BadTruth" CT ["index"]) {f : Addr} {fd : FuncData} (F : Fun K "need_truths" "need_truths" (topS 17) f fd) :
    FnOk P w K mg base (L2.CX P w) 3 f fd ["truths"] (spNeedT K CT) := by
  have nd := sc_need_truths.nd
  refine F.okX sc_need_truths (fun vs H Q E h => ?_) (fun cdv A outer s H vs Q E hr h => ?_)
  · obtain ⟨a, xs, kd, rfl, _⟩ := h
    rfl
  · refine ⟨_, (pss_one (ps_for (passes_of rfl) rfl (pi_enumAK (K := K) rfl (by rfl) B.enumerate (pa_cons (pv 0) pa_nil)) (pg_tupK (K := K) (n := 2) rfl rfl (pgs_cons (pg_name (i := 1) nd rfl (.inl rfl)) (pgs_cons (pg_name (i := 2) nd rfl (.inl rfl)) pgs_nil))) (pss_one (ps_if (pt_not (pt_val (pe_callB (call_isiK' (K := K) rfl) (by rfl) B.isinstance (by decide +kernel) (pa_cons (pv 2) (pa_cons (pe_bltn (v := .ty "bool") (by rfl) B.bool_ (by decide +kernel) rfl) pa_nil))))) (pss_one (ps_raiseX rfl X_BadTruth hr (takes_of rfl rfl rfl rfl) (pa_cons (pv 1) pa_nil))) pss_nil)))), ?_⟩
    obtain ⟨a, xs, kd, rfl, hx, hk, q1, q2⟩ := h
    walk_at "gos"
    refine enum_any hx fun J G wk hG => ?_
    refine for_it wk (fun i σ' H' => Same H H' ∧ (∃ y z, σ' = [some (.ref a), y, z]) ∧ ∀ j, j < i → kd j = true) ⟨Same.refl H, ⟨none, none, rfl⟩, fun j h => absurd h (Nat.not_lt_zero j)⟩ (fun i σ' H' _ p => hG H' p.1) (fun i x σ' H' H2 hi p y => ?_) (fun σ' H' p => ?_)
    · obtain ⟨e, ⟨y0, z0, rfl⟩, hj⟩ := p
      obtain ⟨T, u, v, rfl, e2, hT, hu, hv⟩ := pair_of y
      obtain rfl : V.int (i : Nat) = u := Option.some.inj hu
      refine g_tupT hT rfl ?_
      walk_at "gos"
      obtain ⟨t, h1, h2⟩ := (hk i v hv).same (e.trans e2)
      refine u_isi (.ty "bool") h1 h2 ?_
      walk_at "gos"
      cases hki : kd i with
      | false =>
        walk_at "gos"
        exact u_raise rfl (by decide) fun d H3 _ e3 hd => q2 i hi hki hj H3 (e.trans (e2.trans e3)) d hd
      | true =>
        walk_at "gos"
        refine ⟨e.trans e2, ⟨_, _, rfl⟩, fun j h => ?_⟩
        by_cases hji : j < i
        · exact hj j hji
        · obtain rfl : j = i := by omega
          exact hki
    · exact q1 p.2.2 H' p.1
/-- the least round of a row -/
def spLeastP : Sp := fun vs H Q _ => ∃ (a : Addr) (R : List Bool), vs = [.ref a] ∧ H a = some (.lst (R.map V.bl)) ∧ 0 < R.length ∧ R.length ≤ 100000 ∧ ∀ d H', Same H H' → LP R d → Q (.int (d : Nat)) H'
theorem flat_bl {R : List Bool} : ∀ k, (List.replicate k (R.map V.bl)).flatten = ((List.replicate k R).flatten).map V.bl
  | 0 => rfl
  | k + 1 => by rw [List.replicate_succ, List.replicate_succ, List.flatten_cons, List.flatten_cons, List.map_append, flat_bl k]
theorem fmod_nat {i j : Nat} : ((i : Int).fmod (j : Int)) = ((i % j : Nat) : Int) := by
  rw [Int.fmod_eq_emod_of_nonneg _ (Int.natCast_nonneg j), Int.natCast_emod]
theorem fdiv_nat {i j : Nat} : ((i : Int).fdiv (j : Int)) = ((i / j : Nat) : Int) := by
  rw [Int.fdiv_eq_ediv_of_nonneg _ (Int.natCast_nonneg j), Int.natCast_ediv]
theorem sc_least_period : FnScope ["row", "size"] ["row"] (defScope (topS 18)) := ⟨rfl, rfl, rfl, by decide +kernel, rfl, by decide +kernel, by decide +kernel⟩
theorem ok_least_period (B : Bn mg) {f : Addr} {fd : FuncData} (F : Fun K "least_period" "least_period" (topS 18) f fd) :
    FnOk P w K mg base (L2.CX P w) 1 f fd ["row"] spLeastP := by
  have nd := sc_least_period.nd
  refine F.okX sc_least_period (fun vs H Q E h => ?_) (fun cdv A outer s H vs Q E hr h => ?_)
  · obtain ⟨a, R, rfl, _⟩ := h
    rfl
  · refine ⟨_, (pss_cons (ps_for (passes_of rfl) rfl (pi_range2 rfl B.range (pa_cons pe_int (pa_cons (pe_callB (call_lnK (K := K) rfl) (by rfl) B.len_ (by decide +kernel) (pa_cons (pv 0) pa_nil)) pa_nil))) (pg_name (i := 1) nd rfl (.inl rfl)) (pss_one (ps_if (PW.pt (pw_and (pt_cmpR op_eq (pe_op op_modN (pe_callB (call_lnK (K := K) rfl) (by rfl) B.len_ (by decide +kernel) (pa_cons (pv 0) pa_nil)) (pv 1)) pe_int (nomark _)) (pw_and1 (pt_cmpR (op_eqDK (K := K) rfl hr.units) (pv 0) (pe_op op_rep (pe_slice (sl_listK (K := K) rfl) (pv 0) po_none (po_some (pv 1))) (pe_op op_fdivX (pe_callB (call_lnK (K := K) rfl) (by rfl) B.len_ (by decide +kernel) (pa_cons (pv 0) pa_nil)) (pv 1))) (nomark _))))) (pss_one (ps_ret (pv 1))) pss_nil)))
      (pss_one (ps_ret (pe_callB (call_lnK (K := K) rfl) (by rfl) B.len_ (by decide +kernel) (pa_cons (pv 0) pa_nil))))), ?_⟩
    obtain ⟨a, R, rfl, ha, hR, hR2, q⟩ := h
    refine g_st (σ' := [some (.ref a), none]) rfl ?_
    walk_at "gos"
    refine u_lenL (sqL ha) ?_
    rw [List.length_map]
    walk_at "gos"
    refine ⟨1, R.length, rfl, by omega, ?_⟩
    refine for_it walk_range (fun i σ' H' => Same H H' ∧ (∃ y, σ' = [some (.ref a), y]) ∧ ∀ e, 0 < e → e < 1 + i → R.length % e = 0 → ¬ Rnd R e) ⟨Same.refl H, ⟨none, rfl⟩, fun e h1 h2 => by omega⟩ (fun _ _ _ _ _ => trivial) (fun i x σ' H' H2 hi p y => ?_) (fun σ' H' p => ?_)
    · obtain ⟨e, ⟨y0, rfl⟩, hl⟩ := p
      obtain ⟨rfl, rfl⟩ := y
      have hil : 1 + i < R.length := by omega
      walk_at "gos"
      refine u_lenL (sqL (e _ _ ha)) ?_
      rw [List.length_map]
      walk_at "gos"
      rw [show (1 : Int) + (i : Int) = ((1 + i : Nat) : Int) by omega]
      refine g_I (by omega) ?_
      walk_at "gos"
      rw [fmod_nat]
      by_cases hm : R.length % (1 + i) = 0
      · rw [if_pos (decide_eq_true (by omega))]
        walk_at "gos"
        refine u_sl (sqL (e _ _ ha)) fun l H3 _ e3 h3 => ?_
        rw [cut_to, ← List.map_take] at h3
        walk_at "gos"
        refine u_lenL (sqL (e3 _ _ (e _ _ ha))) ?_
        rw [List.length_map]
        walk_at "gos"
        refine g_I (Bd.divX (n := 40) (by omega) (by unfold Bd; omega) (by decide)) ?_
        rw [fdiv_nat]
        have hk : R.length / (1 + i) ≤ 100000 := Nat.le_trans (Nat.div_le_self _ _) hR2
        have hkm : R.length / (1 + i) * (1 + i) = R.length := Nat.div_mul_cancel (Nat.dvd_of_mod_eq_zero hm)
        have htl : (R.take (1 + i)).length = 1 + i := by rw [List.length_take]; omega
        refine ⟨l, _, _, rfl, rfl, h3, Int.le_trans (by decide) (Int.natCast_nonneg (R.length / (1 + i))), Int.lt_of_le_of_lt (Int.ofNat_le.mpr hk) (by decide), by rw [sizeLine_eq, List.length_map, htl, Int.toNat_natCast, Nat.mul_comm, hkm]; omega, fun p hp => ?_⟩
        have e4 := same_new (o := .lst (List.replicate ((R.length / (1 + i) : Nat) : Int).toNat ((R.take (1 + i)).map V.bl)).flatten) hp
        have h4 : (upd H3 p (.lst (List.replicate ((R.length / (1 + i) : Nat) : Int).toNat ((R.take (1 + i)).map V.bl)).flatten)) p = some _ := upd_same
        generalize upd H3 p _ = H4 at e4 h4 ⊢
        rw [Int.toNat_natCast, flat_bl] at h4
        refine u_eqLB (sqL (e4 _ _ (e3 _ _ (e _ _ ha)))) (sqL h4) ?_
        walk_at "gos"
        by_cases hr' : R = (List.replicate (R.length / (1 + i)) (R.take (1 + i))).flatten
        · rw [if_pos (decide_eq_true hr')]
          walk_at "gos"
          exact q (1 + i) H4 (e.trans (e3.trans e4)) ⟨by omega, hm, (rnd_iff (by omega) (by omega) hm).mp hr', hl⟩
        · rw [if_neg (by rw [decide_eq_true_iff]; exact hr')]
          walk_at "gos"
          refine ⟨e.trans (e3.trans e4), ⟨_, rfl⟩, fun z h1 h2 h3' h4' => ?_⟩
          by_cases hz : z < 1 + i
          · exact hl z h1 hz h3' h4'
          · obtain rfl : z = 1 + i := by omega
            exact hr' ((rnd_iff (by omega) (by omega) hm).mpr h4')
      · rw [if_neg (by rw [decide_eq_true_iff]; omega)]
        walk_at "gos"
        refine ⟨e, ⟨_, rfl⟩, fun z h1 h2 h3' h4' => ?_⟩
        by_cases hz : z < 1 + i
        · exact hl z h1 hz h3' h4'
        · obtain rfl : z = 1 + i := by omega
          exact hm h3'
    · obtain ⟨e, ⟨y0, rfl⟩, hl⟩ := p
      walk_at "gos"
      refine u_lenL (sqL (e _ _ ha)) ?_
      rw [List.length_map]
      walk_at "gos"
      exact q R.length H' e ⟨hR, Nat.mod_self _, rnd_self, fun z h1 h2 => hl z h1 (by omega)⟩
end
end Ev

end
section
open L2 in
local macro_rules | `(tactic| walk_at "gx") => `(tactic| first
  | ((with_reducible show tVar _ _ _ _); refine g_var rfl ?_)
  | with_reducible refine g_c ?_
  | with_reducible refine g_op ?_
  | with_reducible refine g_cons ?_
  | with_reducible refine g_nil ?_
  | with_reducible refine g_test ?_
  | with_reducible refine g_blp ?_
  | with_reducible refine g_asg ?_
  | (with_reducible refine g_name ?_; (try simp only [List.set_cons_zero, List.set_cons_succ]))
  | with_reducible refine g_call ?_
  | with_reducible refine g_cb ?_
  | with_reducible refine g_I0 ?_
  | with_reducible refine g_U ?_
  | with_reducible refine g_eqI ?_
  | with_reducible refine g_neI ?_
  | with_reducible refine g_if ?_
  | with_reducible refine g_ret ?_
  | with_reducible refine g_retN ?_
  | with_reducible refine g_next ?_
  | with_reducible refine g_drop ?_
  | with_reducible refine g_un ?_
  | with_reducible refine g_tb ?_
  | with_reducible refine g_tup ?_
  | with_reducible refine g_lst ?_
  | with_reducible refine g_and ?_
  | with_reducible refine g_or ?_
  | with_reducible refine g_not ?_
  | with_reducible refine g_andV ?_
  | with_reducible refine g_orV ?_
  | with_reducible refine g_notV ?_
  | with_reducible refine g_ifE ?_
  | with_reducible refine g_fld ?_
  | with_reducible refine g_tt ?_
  | with_reducible refine g_ff ?_
  | with_reducible refine g_ntt ?_
  | with_reducible refine g_nff ?_
  | with_reducible refine g_for ?_
  | with_reducible refine g_list ?_
  | with_reducible refine g_tupI ?_
  | with_reducible refine g_rng1 ?_
  | with_reducible refine g_rng2 ?_
  | with_reducible refine g_enumA ?_
  | with_reducible refine g_rev ?_
  | with_reducible refine g_lc ?_
  | with_reducible refine g_gcons ?_
  | with_reducible refine g_gnil ?_
  | with_reducible refine g_yes ?_
  | with_reducible refine g_sl ?_
  | with_reducible refine g_nopart ?_
  | with_reducible refine g_part ?_
  | with_reducible refine g_int ?_
  | with_reducible refine g_dget ?_
  | with_reducible refine g_dput ?_
  | with_reducible refine g_raiseX ?_
  | with_reducible refine g_tru ?_
  | with_reducible refine g_sub ?_
  | with_reducible refine g_isN ?_
  | with_reducible refine g_notN ?_
  | with_reducible refine g_bm ?_
  | with_reducible refine L2.g_bm0 ?_
  | with_reducible refine g_pair ?_
  | with_reducible refine g_pair0 ?_
  | with_reducible refine u_int1 ?_
  | with_reducible refine g_chain ?_
  | with_reducible refine L2.g_sfld ?_
  | (with_reducible refine g_par3 ?_)
  | (with_reducible refine g_three ?_; (try simp only [List.set_cons_zero, List.set_cons_succ]))
  | ((with_reducible apply L2.g_tupT); walk_at "up"; rfl)
  | (with_reducible refine g_par ?_)
  | (with_reducible refine g_two ?_; (try simp only [List.set_cons_zero, List.set_cons_succ]))
  )
local macro_rules | `(tactic| walk_at "go") => `(tactic| first | walk_at "gx" | with_reducible refine L2.g_seq ?_)
local macro_rules | `(tactic| walk_at "gou") => `(tactic| repeat (walk_at "gx"))
local macro_rules | `(tactic| walk_at "gos") => `(tactic| repeat (walk_at "go"))
local macro_rules | `(tactic| walk_at "sl") => `(tactic| first
  | assumption
  | exact L2.Same.l (by assumption)
  | exact L2.SameD.l (by assumption)
  | exact L2.extN_l (by assumption))
local macro_rules | `(tactic| walk_at "up") => `(tactic| first
  | assumption
  | ((with_reducible apply L2.SameL.lst); walk_at "sl"; walk_at "up")
  | ((with_reducible apply L2.SameL.tupA); walk_at "sl"; walk_at "up")
  | ((with_reducible apply L2.SameL.ins); walk_at "sl"; walk_at "up")
  | ((with_reducible apply Ev.PB.l); walk_at "sl"; walk_at "up")
  | ((with_reducible apply Ev.IsP.l); walk_at "sl"; walk_at "up")
  | ((with_reducible apply L2.sqL); walk_at "up")
  | ((with_reducible apply L2.sqT); walk_at "up")
  | ((with_reducible apply L2.SameL.seq); walk_at "sl"; walk_at "up")
  | ((with_reducible apply Ev.Pen.same); assumption; walk_at "up")
  | ((with_reducible apply Ev.Pen.extN); assumption; walk_at "up")
  | ((with_reducible apply L2.tabs_s); assumption; walk_at "up")
  | ((with_reducible apply L2.tabs_dd); assumption; walk_at "up")
  | ((with_reducible apply Or.inl); walk_at "up")
  | ((with_reducible apply Or.inr); walk_at "up"))
local macro_rules | `(tactic| walk_at "new") => `(tactic| (
  first
    | refine ⟨L2.size_ok (by rfl), fun p hp => ?_⟩
    | refine fun p hp => ?_
  generalize hX : L2.upd _ p _ = H1
  obtain ⟨e, h⟩ := L2.news hp hX
  clear hX))
local macro_rules | `(tactic| walk_at "o") => `(tactic| first
  | ((with_reducible apply Ev.o_add); walk_at "up"; walk_at "up"; rfl; rfl; rfl)
  | ((with_reducible apply Ev.o_sub); walk_at "up"; walk_at "up"; rfl; rfl; rfl)
  | ((with_reducible apply Ev.o_mul); walk_at "up"; walk_at "up"; rfl; rfl; rfl)
  | ((with_reducible apply Ev.o_addI); walk_at "up"; assumption; rfl; rfl; rfl)
  | ((with_reducible apply Ev.o_subI); walk_at "up"; assumption; rfl; rfl; rfl)
  | ((with_reducible apply Ev.o_mulI); walk_at "up"; assumption; rfl; rfl; rfl)
  | ((with_reducible apply Ev.o_radd); walk_at "up"; assumption; rfl; rfl; rfl)
  | ((with_reducible apply Ev.o_rsub); walk_at "up"; assumption; rfl; rfl; rfl)
  | ((with_reducible apply Ev.o_rmul); walk_at "up"; assumption; rfl; rfl; rfl)
  | ((with_reducible apply Ev.o_neg); walk_at "up"; rfl; rfl; rfl))
local macro_rules | `(tactic| walk_at "eq") => `(tactic| ((with_reducible apply Ev.u_ownB); assumption; walk_at "up"; walk_at "up"; (focus (intro k; first | rfl | exact Pl.e_add | exact Pl.e_sub | exact Pl.e_mul | exact Pl.e_rsub | exact Pl.e_rsub2))))
local macro_rules | `(tactic| walk_at "isp") => `(tactic| (apply Ev.u_isB; walk_at "up"; walk_at "up"; rfl; rfl))

/-! Where(..), its == -/
namespace Ev
open PySem PySem.Spec PyProof.Rows L2 Wp
/-- the set x has the data bl, rl -/
def IsW (K : PySem.W.Frag) (H : Hp) (x C : Addr) (bl rl : List Bool) : Prop := ∃ dx t1 t2, H x = some (.ins C dx [("period", .int (rl.length : Nat)), ("rests", .ref t1), ("start", .int (bl.length : Nat)), ("below", .ref t2)]) ∧ SqT K H t1 (rl.map V.bl) ∧ SqT K H t2 (bl.map V.bl)
theorem IsW.l {K : PySem.W.Frag} {H H' : Hp} {x C : Addr} {bl rl : List Bool} (e : SameL H H') : IsW K H x C bl rl → IsW K H' x C bl rl := fun ⟨dx, t1, t2, h1, h2, h3⟩ => ⟨dx, t1, t2, e.ins h1, e.tupS h2, e.tupS h3⟩
theorem IsW.same {K : PySem.W.Frag} {H H' : Hp} {x C : Addr} {bl rl : List Bool} (e : Same H H') : IsW K H x C bl rl → IsW K H' x C bl rl := fun h => h.l e.l
/-- C is raised with n = v, in a heap as told -/
def ExcR (Rl : Hp → Prop) (C : Addr) (n : Str) (v : V) (E : XK) : Prop := ∀ H' d, Rl H' → H' d = some (.xd [(n, v)]) → E (.ref C) (some d) H'
structure WArg (K : PySem.W.Frag) (H : Hp) (a b : Addr) (xs ys : List V) (kx ky : Nat → Bool) : Prop where
  sx : SqA K H a xs
  sy : SqA K H b ys
  hx : ∀ i x, xs[i]? = some x → KdB K H x (kx i)
  hy : ∀ i x, ys[i]? = some x → KdB K H x (ky i)
  bx : (∀ i, i < xs.length → kx i = true) → ∃ B : List Bool, xs = B.map V.bl
  by_ : (∀ i, i < ys.length → ky i = true) → ∃ R : List Bool, ys = R.map V.bl
  lx : xs.length ≤ 100000
  ly : ys.length ≤ 100000
structure WTo (Rl : Hp → Prop) (CT CF CL : Addr) (xs ys : List V) (kx ky : Nat → Bool) (E : XK) : Prop where
  ex : ∀ i, i < xs.length → kx i = false → (∀ j, j < i → kx j = true) → ExcR Rl CT "index" (.int (i : Nat)) E
  ey : (∀ i, i < xs.length → kx i = true) → ∀ i, i < ys.length → ky i = false → (∀ j, j < i → ky j = true) → ExcR Rl CT "index" (.int (i : Nat)) E
  e0 : (∀ i, i < xs.length → kx i = true) → ys = [] → ExcR Rl CT "index" (.int 0) E
  ef : ∀ (B R bl rl : List Bool), xs = B.map V.bl → ys = R.map V.bl → 0 < R.length → Nm bl rl → (∀ n, mem bl rl n = mem B R n) → 720 < rl.length → ExcR Rl CF "most" (.int 720) E
  el : ∀ (B R bl rl : List Bool), xs = B.map V.bl → ys = R.map V.bl → 0 < R.length → Nm bl rl → (∀ n, mem bl rl n = mem B R n) → rl.length ≤ 720 → 10000 < bl.length → ExcR Rl CL "most" (.int 10000) E
theorem ExcR.le {Rl Rl' : Hp → Prop} {C : Addr} {n : Str} {v : V} {E : XK} (h : ExcR Rl C n v E) (hl : ∀ H', Rl' H' → Rl H') : ExcR Rl' C n v E := fun H' d hr hd => h H' d (hl H' hr) hd
theorem WTo.le {Rl Rl' : Hp → Prop} {CT CF CL : Addr} {xs ys : List V} {kx ky : Nat → Bool} {E : XK} (h : WTo Rl CT CF CL xs ys kx ky E) (hl : ∀ H', Rl' H' → Rl H') : WTo Rl' CT CF CL xs ys kx ky E :=
  ⟨fun i a b c => (h.ex i a b c).le hl, fun z i a b c => (h.ey z i a b c).le hl, fun a b => (h.e0 a b).le hl, fun B R bl rl a b c d e f => (h.ef B R bl rl a b c d e f).le hl, fun B R bl rl a b c d e f g => (h.el B R bl rl a b c d e f g).le hl⟩
def spWhereInit (K : PySem.W.Frag) (C CT CF CL : Addr) : Sp := fun vs H Q E => ∃ (x dx a b : Addr) (xs ys : List V) (kx ky : Nat → Bool), vs = [.ref x, .ref a, .ref b] ∧ H x = some (.ins C dx []) ∧ WArg K H a b xs ys kx ky ∧ WTo (SameB x H) CT CF CL xs ys kx ky E ∧
  ∀ (B R bl rl : List Bool), xs = B.map V.bl → ys = R.map V.bl → 0 < R.length → Nm bl rl → (∀ n, mem bl rl n = mem B R n) → rl.length ≤ 720 → bl.length ≤ 10000 → ∀ H', SameB x H H' → IsW K H' x C bl rl → Q .non H'
def spWhere (K : PySem.W.Frag) (C CT CF CL : Addr) : Sp := fun vs H Q E => ∃ (a b : Addr) (xs ys : List V) (kx ky : Nat → Bool), vs = [.ref a, .ref b] ∧ WArg K H a b xs ys kx ky ∧ WTo (Same H) CT CF CL xs ys kx ky E ∧
  ∀ (B R bl rl : List Bool), xs = B.map V.bl → ys = R.map V.bl → 0 < R.length → Nm bl rl → (∀ n, mem bl rl n = mem B R n) → rl.length ≤ 720 → bl.length ≤ 10000 → ∀ x H', H x = none → Same H H' → IsW K H' x C bl rl → Q (.ref x) H'
theorem atB {l : List Bool} {k : Nat} (h : k < l.length) : (l.map V.bl)[k]? = some (V.bl (bt l k)) := by rw [List.getElem?_map, bt_some h]; rfl
section
variable {P : Program} {w : World} {K : PySem.W.Frag} {mg : Str → Option Value} {base : Heap}
theorem sc_Where___init__ : FnScope ["self", "below", "rests", "start"] ["self", "below", "rests"] (defScope (inClass (topS 19) 0)) := ⟨rfl, rfl, rfl, by decide +kernel, rfl, by decide +kernel, by decide +kernel⟩
theorem ok_Where_init {C CT CF CL : Addr} {tk1 tk2 : Tok} (B : Bn mg) (c_Where : Cls K C) (n1 : NoAttr K C "period") (n2 : NoAttr K C "rests") (n3 : NoAttr K C "start") (n4 : NoAttr K C "below") (c_MOST_PERIOD : mg "MOST_PERIOD" = some (.int 720 tk1)) (c_MOST_START : mg "MOST_START" = some (.int 10000 tk2))
    (X_BadTruth : ExT P K mg "BadTruth" CT ["index"]) (X_TooFine : ExT P K mg "TooFine" CF ["most"]) (X_TooLate : ExT P K mg "TooLate" CL ["most"])
    (G_need_truths : CallF P w K mg base "need_truths" ["truths"] 3 (spNeedT K CT)) (G_least_period : CallF P w K mg base "least_period" ["row"] 1 spLeastP)
    {f : Addr} {fd : FuncData} (F : Fun K "__init__" "Where.__init__" (inClass (topS 19) 0) f fd) : FnOk P w K mg base (L2.CX P w) 5 f fd ["self", "below", "rests"] (spWhereInit K C CT CF CL) := by
  have nd := sc_Where___init__.nd
  refine F.okX sc_Where___init__ (fun vs H Q E h => ?_) (fun cdv A outer s H vs Q E hr h => ?_)
  · obtain ⟨x, dx, a, b, xs, ys, kx, ky, rfl, _⟩ := h
    rfl
  · refine ⟨_, (pss_cons (ps_expr (pe_callF G_need_truths (hr.mono (by decide)) rfl (passes_call (takes_of rfl rfl rfl rfl) (fun _ _ _ _ h => h)) (pa_cons (pv 1) pa_nil)))
      (pss_cons (ps_expr (pe_callF G_need_truths (hr.mono (by decide)) rfl (passes_call (takes_of rfl rfl rfl rfl) (fun _ _ _ _ h => h)) (pa_cons (pv 2) pa_nil)))
      (pss_cons (ps_if (pt_cmpR op_eq (pe_callB (call_lnK (K := K) rfl) (by rfl) B.len_ (by decide +kernel) (pa_cons (pv 2) pa_nil)) pe_int (nomark _)) (pss_one (ps_raiseX rfl X_BadTruth hr (takes_of rfl rfl rfl rfl) (pa_cons pe_int pa_nil))) pss_nil)
      (pss_cons (ps_fldK (K := K) rfl (pv 0) (pe_callF G_least_period (hr.mono (by decide)) rfl passL (pa_cons (pe_callTy (call_lstK (K := K) rfl) (by rfl) B.list_ (by decide +kernel) (pa_cons (pv 2) pa_nil)) pa_nil)) rfl)
      (pss_cons (ps_if (pt_cmpR op_gt (pe_fldK (K := K) rfl (pv 0) rfl) (pe_globI rfl c_MOST_PERIOD) (nomark _)) (pss_one (ps_raiseX rfl X_TooFine hr (takes_of rfl rfl rfl rfl) (pa_cons (pe_globI rfl c_MOST_PERIOD) pa_nil))) pss_nil)
      (pss_cons (ps_fldK (K := K) rfl (pv 0) (pe_callTy (call_tplK (K := K) rfl) (by rfl) B.tuple_ (by decide +kernel) (pa_cons (pe_slice (sl_anyK (K := K) rfl) (pv 2) po_none (po_some (pe_fldK (K := K) rfl (pv 0) rfl))) pa_nil)) rfl)
      (pss_cons (ps_set (i := 3) nd rfl (.inl rfl) (pe_callB (call_lnK (K := K) rfl) (by rfl) B.len_ (by decide +kernel) (pa_cons (pv 1) pa_nil)))
      (pss_cons (ps_while (passes_of rfl) (PW.pt (pw_and (pt_cmpR op_gt (pv 3) pe_int (nomark _)) (pw_and1 (pt_cmpR op_eq (pe_ix (ix_anyK (K := K) rfl) (pv 1) (pe_op op_sub (pv 3) pe_int) (fun _ _ => rfl)) (pe_ix (ix_tupK (K := K) rfl) (pe_fldK (K := K) rfl (pv 0) rfl) (pe_op op_modN (pe_op op_sub (pv 3) pe_int) (pe_fldK (K := K) rfl (pv 0) rfl)) (fun _ _ => rfl)) (nomark _))))) (pss_one (ps_set (i := 3) nd rfl (.inl rfl) (pe_op op_sub (pv 3) pe_int))))
      (pss_cons (ps_if (pt_cmpR op_gt (pv 3) (pe_globI rfl c_MOST_START) (nomark _)) (pss_one (ps_raiseX rfl X_TooLate hr (takes_of rfl rfl rfl rfl) (pa_cons (pe_globI rfl c_MOST_START) pa_nil))) pss_nil)
      (pss_cons (ps_fldK (K := K) rfl (pv 0) (pv 3) rfl)
      (pss_one (ps_fldK (K := K) rfl (pv 0) (pe_callTy (call_tplK (K := K) rfl) (by rfl) B.tuple_ (by decide +kernel) (pa_cons (pe_slice (sl_anyK (K := K) rfl) (pv 1) po_none (po_some (pv 3))) pa_nil)) rfl)))))))))))), ?_⟩
    obtain ⟨x, dx, a, b, xs, ys, kx, ky, rfl, hx, ha, he, q⟩ := h
    refine g_st (σ' := [some (.ref x), some (.ref a), some (.ref b), none]) rfl ?_
    walk_at "gos"
    refine ⟨a, xs, kx, rfl, ha.sx, ha.hx, fun hall H1 e1 => ?_, fun i hi hk hj H' e' d hd => he.ex i hi hk hj H' d (.of e') hd⟩
    walk_at "gos"
    refine ⟨b, ys, ky, rfl, ha.sy.same e1, fun i z hz => (ha.hy i z hz).same e1, fun hall2 H2 e2 => ?_, fun i hi hk hj H' e' d hd => he.ey hall i hi hk hj H' d (.of (e1.trans e')) hd⟩
    have e02 := e1.trans e2
    have sx2 := ha.sx.same e02
    have sy2 := ha.sy.same e02
    obtain ⟨Bx, rfl⟩ := ha.bx hall
    obtain ⟨R, rfl⟩ := ha.by_ hall2
    have lx := ha.lx
    have ly := ha.ly
    rw [List.length_map] at lx ly
    walk_at "gos"
    refine u_lenA sy2 ?_
    rw [List.length_map]
    walk_at "gos"
    refine g_itd (fun h0 => ?_) (fun h0 => ?_)
    · walk_at "gos"
      exact u_raise rfl (by decide) fun d H3 _ e3 hd => he.e0 hall (by rw [List.map_eq_nil_iff]; exact List.length_eq_zero_iff.mp (by omega)) H3 d (.of (e02.trans e3)) hd
    have hR : 0 < R.length := by omega
    walk_at "gos"
    refine u_list sy2 fun l H3 _ e3 h3 => ?_
    refine ⟨l, R, rfl, h3, hR, ly, fun d H4 e4 hd => ?_⟩
    walk_at "gos"
    have e04 := e02.trans (e3.trans e4)
    have hx4 := e04 _ _ hx
    have hdl := hd.le hR
    have htl : (R.take d).length = d := by rw [List.length_take]; omega
    refine ⟨x, C, dx, [], rfl, hx4, c_Where, n1, by decide, ?_⟩
    generalize hX : upd H4 x _ = H5
    have hx5 : H5 x = some (.ins C dx [("period", .int (d : Nat))]) := by rw [← hX]; exact upd_same
    have sx5 : SqA K H5 a (Bx.map V.bl) := by rw [← hX]; exact (sx2.same (e3.trans e4)).updI hx4
    have sy5 : SqA K H5 b (R.map V.bl) := by rw [← hX]; exact (sy2.same (e3.trans e4)).updI hx4
    have b5 : SameB x H H5 := by rw [← hX]; exact (SameB.of e04).upd
    clear hX e3 h3 e4 sx2 sy2 hx4
    walk_at "gos"
    refine u_tfld rfl hx5 c_Where n1 rfl ?_
    walk_at "gos"
    obtain ⟨s0, hs0⟩ := st_ex Bx (R.take d)
    obtain ⟨hnm, hmem⟩ := nm_made hR hd hs0
    have hs0l : (Bx.take s0).length = s0 := by rw [List.length_take]; have := hs0.le; omega
    refine g_itd (fun h7 => ?_) (fun h7 => ?_)
    · walk_at "gos"
      exact u_raise rfl (by decide) fun d' H6 _ e6 hd' => he.ef Bx R _ _ rfl rfl hR hnm hmem (by rw [htl]; omega) H6 d' (b5.trans (.of e6)) hd'
    walk_at "gos"
    refine u_tfld rfl hx5 c_Where n1 rfl ?_
    walk_at "gos"
    refine u_slA sy5 fun l2 H6 e6 h6 => ?_
    rw [cut_to, ← List.map_take] at h6
    walk_at "gos"
    refine u_tupA h6 fun t1 H7 e7 ht1 => ?_
    walk_at "gos"
    have e57 := e6.trans e7
    have hx7 := e57 _ _ hx5
    refine ⟨x, C, dx, _, rfl, hx7, c_Where, n2, by simp, ?_⟩
    generalize hX : upd H7 x _ = H8
    have hx8 : H8 x = some (.ins C dx [("period", .int (d : Nat)), ("rests", .ref t1)]) := by rw [← hX]; exact upd_same
    have sx8 : SqA K H8 a (Bx.map V.bl) := by rw [← hX]; exact (sx5.same e57).updI hx7
    have ht8 : SqT K H8 t1 ((R.take d).map V.bl) := by rw [← hX]; exact ht1.updI hx7
    have b8 : SameB x H H8 := by rw [← hX]; exact (b5.trans (.of e57)).upd
    clear hX e6 h6 e7 ht1 e57 hx7 sx5 sy5 b5 hx5
    walk_at "gos"
    refine u_lenA sx8 ?_
    rw [List.length_map]
    walk_at "gou"
    ((with_reducible change tSeq _ _ _ _ _); refine L2.g_cutS (fun σ' H' => H' = H8 ∧ σ' = [some (.ref x), some (.ref a), some (.ref b), some (.int (s0 : Nat))]) (fun nx hnx => ?_) (fun σ' H' hR' => ?_))
    · refine ⟨fun m σ' H' => H' = H8 ∧ σ' = [some (.ref x), some (.ref a), some (.ref b), some (.int (m : Nat))] ∧ s0 ≤ m ∧ m ≤ Bx.length, ⟨Bx.length, rfl, rfl, hs0.le, Nat.le_refl _⟩, fun m σ' H' ⟨e1, e2, e3, e4⟩ => ?_⟩
      subst e1 e2
      walk_at "gos"
      by_cases hm : 0 < m
      · rw [if_pos (decide_eq_true (by omega))]
        walk_at "gos"
        obtain ⟨k, rfl⟩ : ∃ k, m = k + 1 := ⟨m - 1, by omega⟩
        have hk1 : ((k + 1 : Nat) : Int) - 1 = (k : Int) := by omega
        rw [hk1]
        refine u_ixA sx8 (atI_nat (atB (by omega))) ?_
        walk_at "gos"
        refine u_tfld rfl hx8 c_Where n2 rfl ?_
        walk_at "gos"
        refine u_tfld rfl hx8 c_Where n1 rfl ?_
        refine g_I (by have := hd.pos; omega) ?_
        rw [hk1, fmod_nat]
        refine u_ixT ht8 (atI_nat (atB (by rw [htl]; exact Nat.mod_lt _ hd.pos))) ?_
        walk_at "gos"
        refine ⟨rfl, ?_⟩
        by_cases hk : s0 ≤ k
        · have hsame := hs0.same k hk (by omega)
          rw [htl] at hsame
          rw [hsame]
          refine ⟨_, rfl, ?_⟩
          rw [if_pos (by simp)]
          refine ⟨_, fun _ _ z => z, ?_⟩
          walk_at "gos"
          exact ⟨k, by omega, by trivial, by rw [hk1], hk, by omega⟩
        · have hne := hs0.low (by omega)
          obtain rfl : s0 = k + 1 := by omega
          rw [htl, Nat.add_sub_cancel] at hne
          refine ⟨_, rfl, ?_⟩
          rw [if_neg (by simp [hne])]
          exact hnx _ _ ⟨rfl, rfl⟩
      · rw [if_neg (by rw [decide_eq_true_iff]; omega)]
        obtain rfl : m = 0 := by omega
        obtain rfl : s0 = 0 := by omega
        exact hnx _ _ ⟨rfl, rfl⟩
    obtain ⟨rfl, rfl⟩ := hR'
    walk_at "gos"
    refine g_itd (fun h8 => ?_) (fun h8 => ?_)
    · walk_at "gos"
      exact u_raise rfl (by decide) fun d' H9 _ e9 hd' => he.el Bx R _ _ rfl rfl hR hnm hmem (by rw [htl]; omega) (by rw [hs0l]; omega) H9 d' (b8.trans (.of e9)) hd'
    walk_at "gos"
    refine ⟨x, C, dx, _, rfl, hx8, c_Where, n3, by simp, ?_⟩
    generalize hX : upd H' x _ = H9
    have hx9 : H9 x = some (.ins C dx [("period", .int (d : Nat)), ("rests", .ref t1), ("start", .int (s0 : Nat))]) := by rw [← hX]; exact upd_same
    have sx9 : SqA K H9 a (Bx.map V.bl) := by rw [← hX]; exact sx8.updI hx8
    have ht9 : SqT K H9 t1 ((R.take d).map V.bl) := by rw [← hX]; exact ht8.updI hx8
    have b9 : SameB x H H9 := by rw [← hX]; exact b8.upd
    clear hX hx8 sx8 ht8 b8
    walk_at "gos"
    refine u_slA sx9 fun l3 H10 e10 h10 => ?_
    rw [cut_to, ← List.map_take] at h10
    walk_at "gos"
    refine u_tupA h10 fun t2 H11 e11 ht2 => ?_
    walk_at "gos"
    have e911 := e10.trans e11
    have hx11 := e911 _ _ hx9
    refine ⟨x, C, dx, _, rfl, hx11, c_Where, n4, by simp, ?_⟩
    generalize hX : upd H11 x _ = H12
    have hx12 : H12 x = some (.ins C dx [("period", .int (d : Nat)), ("rests", .ref t1), ("start", .int (s0 : Nat)), ("below", .ref t2)]) := by rw [← hX]; exact upd_same
    have ht12 : SqT K H12 t1 ((R.take d).map V.bl) := by rw [← hX]; exact (e911.tup ht9).updI hx11
    have hb12 : SqT K H12 t2 ((Bx.take s0).map V.bl) := by rw [← hX]; exact ht2.updI hx11
    have b12 : SameB x H H12 := by rw [← hX]; exact (b9.trans (.of e911)).upd
    walk_at "gos"
    exact q Bx R _ _ rfl rfl hR hnm hmem (by rw [htl]; omega) (by rw [hs0l]; omega) H12 b12 ⟨dx, t1, t2, by rw [htl, hs0l]; exact hx12, ht12, hb12⟩
/-- Where(..) by its promise -/
theorem make_Where {C CT CF CL : Addr} {f : Addr} {fd : FuncData} (Fn : FnOk P w K mg base (L2.CX P w) 5 f fd ["self", "below", "rests"] (spWhereInit K C CT CF CL)) (M : Mk K C f) (hC : mg "Where" = some (.ref C)) (hb : Binds K fd ["self", "below", "rests"] []) :
    MakeF P w K mg base "Where" C 5 (spWhere K C CT CF CL) := by
  refine ⟨f, fd, _, _, [], [], Fn, M, hC, hb, .nil, fun vs H Q E h => ?_⟩
  obtain ⟨a, b, xs, ys, kx, ky, rfl, ha, he, q⟩ := h
  intro x dx hx hdx hne
  have es : Same H (upd (upd H dx (.own x)) x (.ins C dx [])) := (same_new hdx).trans (same_new (by rw [upd_ne (Ne.symm hne)]; exact hx))
  have bs : ∀ H', SameB x (upd (upd H dx (.own x)) x (.ins C dx [])) H' → Same H H' := fun H' hs c o hc => hs c o (ne_of_none hc hx) (es c o hc)
  refine ⟨x, dx, a, b, xs, ys, kx, ky, rfl, upd_same, ⟨ha.sx.same es, ha.sy.same es, fun i z hz => (ha.hx i z hz).same es, fun i z hz => (ha.hy i z hz).same es, ha.bx, ha.by_, ha.lx, ha.ly⟩, he.le bs, fun B R bl rl h1 h2 h3 h4 h5 h6 h7 H' h8 h9 => ⟨rfl, ?_⟩⟩
  exact q B R bl rl h1 h2 h3 h4 h5 h6 h7 x H' hx (bs H' h8) h9
/-! == -/
theorem isW_ty {H : Hp} {x C : Addr} {bl rl : List Bool} (h : IsW K H x C bl rl) (cl : Cls K C) (ha : PySem.W.findIn K (.ref C) "__class__" = some (some (.builtin "object.__class__")))
    (hn : PySem.W.specialIn K (.builtin "object.__class__") "__get__" = some (some (.builtin "getset_descriptor.__get__"))) (htk : PySem.W.takesIn K (.builtin "object.__class__") = some true)
    (hm : PySem.W.mroIn K C (.type "object") = some true) : TyX K H (.ref x) (.ref C) := let ⟨_, _, _, h1, _, _⟩ := h; .base (.ins h1 cl ha hn htk hm)
/-- the other is a set, or a value whose type is not Where -/
def spEqW (K : PySem.W.Frag) (C : Addr) : Sp := fun vs H Q _ => ∃ (x : Addr) (y : V) (bl rl : List Bool), vs = [.ref x, y] ∧ IsW K H x C bl rl ∧
  ((∃ (z : Addr) (bl' rl' : List Bool), y = .ref z ∧ IsW K H z C bl' rl' ∧ Q (.bl (decide (bl = bl') && decide (rl = rl'))) H) ∨ (∃ t, TyX K H y t ∧ PySem.W.kitOne K t (.ref C) = some false ∧ Q (.bl false) H))
theorem sc_Where___eq__ : FnScope ["self", "other"] ["self", "other"] (defScope (inClass (topS 19) 6)) := ⟨rfl, rfl, rfl, by decide +kernel, rfl, by decide +kernel, by decide +kernel⟩
theorem ok_Where_eq {C_Where : Addr} (B : Bn mg) (c_Where : Cls K C_Where) (n2 : NoAttr K C_Where "rests") (n4 : NoAttr K C_Where "below") (g_Where : mg "Where" = some (.ref C_Where)) (hyW : ∀ H x bl rl, IsW K H x C_Where bl rl → TyX K H (.ref x) (.ref C_Where)) (hi : PySem.W.kitOne K (.ref C_Where) (.ref C_Where) = some true)
    {f : Addr} {fd : FuncData} (F : Fun K "__eq__" "Where.__eq__" (inClass (topS 19) 6) f fd) : FnOk P w K mg base (L2.CX P w) 3 f fd ["self", "other"] (spEqW K C_Where) := by
  have nd := sc_Where___eq__.nd
  refine F.okX sc_Where___eq__ (fun vs H Q E h => ?_) (fun cdv A outer s H vs Q E hr h => ?_)
  · obtain ⟨x, y, bl, rl, rfl, _⟩ := h
    rfl
  · refine ⟨_, (pss_cons (ps_if (pt_not (pt_val (pe_callB (call_isiK' (K := K) rfl) (by rfl) B.isinstance (by decide +kernel) (pa_cons (pv 1) (pa_cons (pe_glob (v := .ref C_Where) rfl g_Where rfl) pa_nil))))) (pss_one (ps_ret pe_bl)) pss_nil)
      (pss_one (ps_ret (pe_and (pe_cmpR (op_eqDK (K := K) rfl hr.units) (pe_fldK (K := K) rfl (pv 0) rfl) (pe_fldK (K := K) rfl (pv 1) rfl) (nomark _)) (pe_one (pe_cmpR (op_eqDK (K := K) rfl hr.units) (pe_fldK (K := K) rfl (pv 0) rfl) (pe_fldK (K := K) rfl (pv 1) rfl) (nomark _))))))), ?_⟩
    obtain ⟨x, y, bl, rl, rfl, ⟨dx, t1, t2, hx, h1, h2⟩, q⟩ := h
    refine g_st (σ' := [some (.ref x), some y]) rfl ?_
    walk_at "gos"
    rcases q with ⟨z, bl', rl', rfl, hz, q⟩ | ⟨t', ht', hk, q⟩
    · refine u_isi (.own C_Where) (hyW _ _ _ _ hz) hi ?_
      obtain ⟨dz, s1, s2, hz1, g1, g2⟩ := hz
      walk_at "gos"
      refine u_tfld rfl hx c_Where n4 rfl ?_
      refine u_tfld rfl hz1 c_Where n4 rfl ?_
      refine u_eqTB h2 g2 ?_
      refine ⟨_, rfl, g_itd (fun e1 => ?_) (fun e1 => ?_)⟩
      · walk_at "gos"
        refine u_tfld rfl hx c_Where n2 rfl ?_
        refine u_tfld rfl hz1 c_Where n2 rfl ?_
        refine u_eqTB h1 g1 ?_
        walk_at "gos"
        rw [decide_eq_true e1, Bool.true_and] at q
        exact q
      · rw [decide_eq_false e1, Bool.false_and] at q
        exact q
    · refine u_isi (.own C_Where) ht' hk ?_
      walk_at "gos"
      exact q
end
end Ev

end
section
open L2 in
local macro_rules | `(tactic| walk_at "gx") => `(tactic| first
  | ((with_reducible show tVar _ _ _ _); refine g_var rfl ?_)
  | with_reducible refine g_c ?_
  | with_reducible refine g_op ?_
  | with_reducible refine g_cons ?_
  | with_reducible refine g_nil ?_
  | with_reducible refine g_test ?_
  | with_reducible refine g_blp ?_
  | with_reducible refine g_asg ?_
  | (with_reducible refine g_name ?_; (try simp only [List.set_cons_zero, List.set_cons_succ]))
  | with_reducible refine g_call ?_
  | with_reducible refine g_cb ?_
  | with_reducible refine g_I0 ?_
  | with_reducible refine g_U ?_
  | with_reducible refine g_eqI ?_
  | with_reducible refine g_neI ?_
  | with_reducible refine g_if ?_
  | with_reducible refine g_ret ?_
  | with_reducible refine g_retN ?_
  | with_reducible refine g_next ?_
  | with_reducible refine g_drop ?_
  | with_reducible refine g_un ?_
  | with_reducible refine g_tb ?_
  | with_reducible refine g_tup ?_
  | with_reducible refine g_lst ?_
  | with_reducible refine g_and ?_
  | with_reducible refine g_or ?_
  | with_reducible refine g_not ?_
  | with_reducible refine g_andV ?_
  | with_reducible refine g_orV ?_
  | with_reducible refine g_notV ?_
  | with_reducible refine g_ifE ?_
  | with_reducible refine g_fld ?_
  | with_reducible refine g_tt ?_
  | with_reducible refine g_ff ?_
  | with_reducible refine g_ntt ?_
  | with_reducible refine g_nff ?_
  | with_reducible refine g_for ?_
  | with_reducible refine g_list ?_
  | with_reducible refine g_tupI ?_
  | with_reducible refine g_rng1 ?_
  | with_reducible refine g_rng2 ?_
  | with_reducible refine g_enumA ?_
  | with_reducible refine g_rev ?_
  | with_reducible refine g_lc ?_
  | with_reducible refine g_gcons ?_
  | with_reducible refine g_gnil ?_
  | with_reducible refine g_yes ?_
  | with_reducible refine g_sl ?_
  | with_reducible refine g_nopart ?_
  | with_reducible refine g_part ?_
  | with_reducible refine g_int ?_
  | with_reducible refine g_dget ?_
  | with_reducible refine g_dput ?_
  | with_reducible refine g_raiseX ?_
  | with_reducible refine g_tru ?_
  | with_reducible refine g_sub ?_
  | with_reducible refine g_isN ?_
  | with_reducible refine g_notN ?_
  | with_reducible refine g_bm ?_
  | with_reducible refine L2.g_bm0 ?_
  | with_reducible refine g_pair ?_
  | with_reducible refine g_pair0 ?_
  | with_reducible refine u_int1 ?_
  | with_reducible refine g_chain ?_
  | with_reducible refine L2.g_sfld ?_
  | (with_reducible refine g_par3 ?_)
  | (with_reducible refine g_three ?_; (try simp only [List.set_cons_zero, List.set_cons_succ]))
  | ((with_reducible apply L2.g_tupT); walk_at "up"; rfl)
  | (with_reducible refine g_par ?_)
  | (with_reducible refine g_two ?_; (try simp only [List.set_cons_zero, List.set_cons_succ]))
  )
local macro_rules | `(tactic| walk_at "go") => `(tactic| first | walk_at "gx" | with_reducible refine L2.g_seq ?_)
local macro_rules | `(tactic| walk_at "gou") => `(tactic| repeat (walk_at "gx"))
local macro_rules | `(tactic| walk_at "gos") => `(tactic| repeat (walk_at "go"))
local macro_rules | `(tactic| walk_at "sl") => `(tactic| first
  | assumption
  | exact L2.Same.l (by assumption)
  | exact L2.SameD.l (by assumption)
  | exact L2.extN_l (by assumption))
local macro_rules | `(tactic| walk_at "up") => `(tactic| first
  | assumption
  | ((with_reducible apply L2.SameL.lst); walk_at "sl"; walk_at "up")
  | ((with_reducible apply L2.SameL.tupA); walk_at "sl"; walk_at "up")
  | ((with_reducible apply L2.SameL.ins); walk_at "sl"; walk_at "up")
  | ((with_reducible apply Ev.PB.l); walk_at "sl"; walk_at "up")
  | ((with_reducible apply Ev.IsP.l); walk_at "sl"; walk_at "up")
  | ((with_reducible apply L2.sqL); walk_at "up")
  | ((with_reducible apply L2.sqT); walk_at "up")
  | ((with_reducible apply L2.SameL.seq); walk_at "sl"; walk_at "up")
  | ((with_reducible apply Ev.Pen.same); assumption; walk_at "up")
  | ((with_reducible apply Ev.Pen.extN); assumption; walk_at "up")
  | ((with_reducible apply L2.tabs_s); assumption; walk_at "up")
  | ((with_reducible apply L2.tabs_dd); assumption; walk_at "up")
  | ((with_reducible apply Or.inl); walk_at "up")
  | ((with_reducible apply Or.inr); walk_at "up"))
local macro_rules | `(tactic| walk_at "new") => `(tactic| (
  first
    | refine ⟨L2.size_ok (by rfl), fun p hp => ?_⟩
    | refine fun p hp => ?_
  generalize hX : L2.upd _ p _ = H1
  obtain ⟨e, h⟩ := L2.news hp hX
  clear hX))
local macro_rules | `(tactic| walk_at "o") => `(tactic| first
  | ((with_reducible apply Ev.o_add); walk_at "up"; walk_at "up"; rfl; rfl; rfl)
  | ((with_reducible apply Ev.o_sub); walk_at "up"; walk_at "up"; rfl; rfl; rfl)
  | ((with_reducible apply Ev.o_mul); walk_at "up"; walk_at "up"; rfl; rfl; rfl)
  | ((with_reducible apply Ev.o_addI); walk_at "up"; assumption; rfl; rfl; rfl)
  | ((with_reducible apply Ev.o_subI); walk_at "up"; assumption; rfl; rfl; rfl)
  | ((with_reducible apply Ev.o_mulI); walk_at "up"; assumption; rfl; rfl; rfl)
  | ((with_reducible apply Ev.o_radd); walk_at "up"; assumption; rfl; rfl; rfl)
  | ((with_reducible apply Ev.o_rsub); walk_at "up"; assumption; rfl; rfl; rfl)
  | ((with_reducible apply Ev.o_rmul); walk_at "up"; assumption; rfl; rfl; rfl)
  | ((with_reducible apply Ev.o_neg); walk_at "up"; rfl; rfl; rfl))
local macro_rules | `(tactic| walk_at "eq") => `(tactic| ((with_reducible apply Ev.u_ownB); assumption; walk_at "up"; walk_at "up"; (focus (intro k; first | rfl | exact Pl.e_add | exact Pl.e_sub | exact Pl.e_mul | exact Pl.e_rsub | exact Pl.e_rsub2))))
local macro_rules | `(tactic| walk_at "isp") => `(tactic| (apply Ev.u_isB; walk_at "up"; walk_at "up"; rfl; rfl))

/-! The law's pen: draws from the script. -/
namespace Ev
open PySem PySem.Spec PyProof.Rows L2
abbrev penO (c : Addr) (at_ left : Int) : HO := .dK [(.inr "cells", .ref c), (.inr "at", .int at_), (.inr "left", .int left)]
/-- a pen at p, moved at most n times -/
def Pen (H : Hp) (p c : Addr) (n : Nat) : Prop := ∃ (cells : List Int) (at_ left : Int), H p = some (penO c at_ left) ∧ H c = some (.lst (cells.map V.int)) ∧ cells.length ≤ 63 ∧ 0 ≤ at_ ∧ at_ ≤ n ∧ 0 ≤ left
theorem Pen.same {H H' : Hp} {p c : Addr} {n : Nat} (e : Same H H') : Pen H p c n → Pen H' p c n := fun ⟨cells, a, l, h1, h2, h3⟩ => ⟨cells, a, l, e _ _ h1, e _ _ h2, h3⟩
theorem Pen.extN {H H' : Hp} {p c : Addr} {n : Nat} (e : ∀ b o, H b = some o → (∀ ps, o ≠ .tbl ps) → H' b = some o) : Pen H p c n → Pen H' p c n := fun ⟨cells, a, l, h1, h2, h3⟩ => ⟨cells, a, l, e _ _ h1 (fun _ z => nomatch z), e _ _ h2 (fun _ z => nomatch z), h3⟩
theorem Pen.mono {H : Hp} {p c : Addr} {n m : Nat} (h : n ≤ m) : Pen H p c n → Pen H p c m := fun ⟨cells, a, l, h1, h2, h3, h4, h5, h6⟩ => ⟨cells, a, l, h1, h2, h3, h4, by omega, h6⟩
theorem Pen.ne {H : Hp} {p c D : Addr} {n : Nat} (hD : H D = none) : Pen H p c n → p ≠ D ∧ c ≠ D := fun ⟨cells, a, l, h1, h2, _⟩ => ⟨ne_of_none h1 hD, ne_of_none h2 hD⟩
theorem Pen.upd {H : Hp} {p c D : Addr} {n : Nat} {o : HO} (h1 : p ≠ D) (h2 : c ≠ D) : Pen H p c n → Pen (upd H D o) p c n := fun ⟨cells, a, l, g1, g2, g3⟩ => ⟨cells, a, l, by rw [upd_ne h1]; exact g1, by rw [upd_ne h2]; exact g2, g3⟩
theorem SameD.put {H H' : Hp} {p : Addr} {kvs kvs' : List (Key × V)} (e : SameD H H') (h : H' p = some (.dK kvs)) : SameD H (upd H' p (.dK kvs')) := fun b o hb hn => by
  by_cases hp : b = p
  · subst hp
    have := e _ _ hb hn
    rw [h] at this
    cases this
    exact absurd rfl (hn kvs)
  · rw [upd_ne hp]
    exact e _ _ hb hn
section
variable {H : Hp} {p c : Addr} {at_ left : Int}
theorem pen_cells {P : V → Prop} (h : H p = some (penO c at_ left)) (q : P (.ref c)) : ∃ a v, V.ref p = .ref a ∧ DGet H a (.str "cells") (some v) ∧ P v := ⟨p, _, rfl, .inl ⟨_, .inr "cells", .inl h, rfl, rfl⟩, q⟩
theorem pen_at {P : V → Prop} (h : H p = some (penO c at_ left)) (q : P (.int at_)) : ∃ a v, V.ref p = .ref a ∧ DGet H a (.str "at") (some v) ∧ P v := ⟨p, _, rfl, .inl ⟨_, .inr "at", .inl h, rfl, rfl⟩, q⟩
theorem pen_left {P : V → Prop} (h : H p = some (penO c at_ left)) (q : P (.int left)) : ∃ a v, V.ref p = .ref a ∧ DGet H a (.str "left") (some v) ∧ P v := ⟨p, _, rfl, .inl ⟨_, .inr "left", .inl h, rfl, rfl⟩, q⟩
theorem pen_at' {P : Hp → Prop} {i : Int} (h : H p = some (penO c at_ left)) (q : P (upd H p (penO c i left))) : ∃ a H', V.ref p = .ref a ∧ DPut H a (.str "at") (.int i) H' ∧ P H' :=
  ⟨p, _, rfl, .inl ⟨_, .inr "at", h, rfl, by show 3 < sizeLine; decide, rfl⟩, q⟩
theorem pen_left' {P : Hp → Prop} {i : Int} (h : H p = some (penO c at_ left)) (q : P (upd H p (penO c at_ i))) : ∃ a H', V.ref p = .ref a ∧ DPut H a (.str "left") (.int i) H' ∧ P H' :=
  ⟨p, _, rfl, .inl ⟨_, .inr "left", h, rfl, by show 3 < sizeLine; decide, rfl⟩, q⟩
end
theorem fmod_ok {i j : Int} (h : 0 < j) : 0 ≤ i.fmod j ∧ i.fmod j < j := by
  rw [Int.fmod_eq_emod_of_nonneg _ (Int.le_of_lt h)]
  exact ⟨Int.emod_nonneg _ (by omega), Int.emod_lt_of_pos _ h⟩
theorem cdiv_ok {i j : Int} (h : 0 < j) (h2 : j < 2 ^ 200) : CDivX i j := by
  have : Bd 200 j := by
    unfold Bd
    have : (2 : Int) ^ 200 = ((2 ^ 200 : Nat) : Int) := by norm_cast
    omega
  exact Bd.divX (by omega) this (by decide)
theorem cmul_small {i j : Int} {n m : Nat} (h : Bd n i) (h' : Bd m j) (hs : Nat.ble (n + m) 100000000 = true := by rfl) : CMulX i j := h.mulX h' (by have := Nat.le_of_ble_eq_true hs; omega)
theorem bd_of {i : Int} {n : Nat} (h : 0 ≤ i) (h2 : i < ((2 ^ n : Nat) : Int)) : Bd n i := by
  unfold Bd
  omega
section
variable {P : Program} {w : World} {K : PySem.W.Frag} {mg : Str → Option Value} {base : Heap}
def spPen (K : PySem.W.Frag) : Sp := fun vs H Q _ => ∃ (a : Addr) (ns : List Int), vs = [.ref a] ∧ SqL K H a (ns.map V.int) ∧ ∀ p c H', Same H H' → Pen H' p c 0 → Q (.ref p) H'
theorem sc__law_pen : FnScope ["script"] ["script"] (defScope (topS 24)) := ⟨rfl, rfl, rfl, by decide +kernel, rfl, by decide +kernel, by decide +kernel⟩
theorem ok__law_pen (B : Bn mg) {f : Addr} {fd : FuncData} (F : Fun K "_law_pen" "_law_pen" (topS 24) f fd) : FnOk P w K mg base (L2.CX P w) 1 f fd ["script"] (spPen K) := by
  have nd := sc__law_pen.nd
  refine F.okX sc__law_pen (fun vs H Q E h => ?_) (fun cdv A outer s H vs Q E hr h => ?_)
  · obtain ⟨a, ns, rfl, _⟩ := h
    rfl
  · refine ⟨_, (pss_one (ps_ret (pe_disp (pps_cons pe_str (pe_callTy (call_lstK (K := K) rfl) (by rfl) B.list_ (by decide +kernel) (pa_cons (pe_slice (sl_listK (K := K) rfl) (pv 0) po_none (po_some pe_int)) pa_nil)) (pps_cons pe_str pe_int (pps_cons pe_str pe_int pps_nil))) (by rfl) (by rfl) (fun z => by cases z) (by decide)))), ?_⟩
    obtain ⟨a, ns, rfl, hx, q⟩ := h
    refine g_retD fun p hp => ?_
    walk_at "gos"
    refine u_sl ((same_new hp).seq hx) fun l H1 hl e1 h1 => ?_
    walk_at "gos"
    refine u_list (.inl (sqL h1)) fun l2 H2 hl2 e2 h2 => ?_
    walk_at "gos"
    refine ⟨e2 _ _ (e1 _ _ upd_same), [(.inr "cells", .ref l2), (.inr "at", .int 0), (.inr "left", .int 0)], rfl, by show 3 ≤ 15; decide, ?_⟩
    have e12 : Same H H2 := (same_new hp).trans (e1.trans e2)
    refine q p l2 _ (Same.mut e12 hp) ⟨ns.take 63, 0, 0, upd_same, ?_, ?_, by decide, by decide, by decide⟩
    · rw [upd_ne (ne_of_none (e1 _ _ upd_same) hl2).symm, h2]
      rw [show (some 63 : Option Int) = some ((63 : Nat) : Int) from rfl, cut_to, List.map_take]
    · rw [List.length_take]
      omega
def spDraw : Sp := fun vs H Q _ => ∃ (p c : Addr) (many : Int) (n : Nat), vs = [.ref p, .int many] ∧ Pen H p c n ∧ n < 2 ^ 40 ∧ 0 < many ∧ many < 2 ^ 200 ∧ ∀ r H', 0 ≤ r → r < many → SameD H H' → Pen H' p c (n + 1) → Q (.int r) H'
theorem sc__law_draw : FnScope ["pen", "many", "digit", "at", "cell", "mixed"] ["pen", "many"] (defScope (topS 25)) := ⟨rfl, rfl, rfl, by decide +kernel, rfl, by decide +kernel, by decide +kernel⟩
theorem ok__law_draw (B : Bn mg) {f : Addr} {fd : FuncData} (F : Fun K "_law_draw" "_law_draw" (topS 25) f fd) : FnOk P w K mg base (L2.CX P w) 2 f fd ["pen", "many"] spDraw := by
  have nd := sc__law_draw.nd
  refine F.okX sc__law_draw (fun vs H Q E h => ?_) (fun cdv A outer s H vs Q E hr h => ?_)
  · obtain ⟨p, c, many, n, rfl, _⟩ := h
    rfl
  · refine ⟨_, (pss_cons (ps_if (pt_cmpR op_ge (pe_dget (hu_of hr) (pv 0) pe_str (fun _ _ => rfl)) (pv 1) (nomark _)) (pss_cons (ps_set (i := 2) nd rfl (.inl rfl) (pe_op op_modN (pe_callTy call_in1 (by rfl) B.int_ (by decide +kernel) (pa_cons (pe_dget (hu_of hr) (pv 0) pe_str (fun _ _ => rfl)) pa_nil)) (pv 1)))
      (pss_cons (ps_dput (hu_of hr) (pv 0) pe_str (pe_op op_fdivX (pe_dget (hu_of hr) (pv 0) pe_str (fun _ _ => rfl)) (pv 1)) rfl)
      (pss_one (ps_ret (pv 2))))) pss_nil)
      (pss_cons (ps_set (i := 3) nd rfl (.inl rfl) (pe_dget (hu_of hr) (pv 0) pe_str (fun _ _ => rfl)))
      (pss_cons (ps_dput (hu_of hr) (pv 0) pe_str (pe_op op_add (pv 3) pe_int) rfl)
      (pss_cons (ps_set (i := 4) nd rfl (.inl rfl) (pe_op op_add (pe_op op_mulX pe_int (pv 3)) pe_int))
      (pss_cons (ps_if (pt_cmpR (op_neDK (K := K) rfl hr.units) (pe_dget (hu_of hr) (pv 0) pe_str (fun _ _ => rfl)) (pe_lst pa_nil) (nomark _)) (pss_one (ps_set (i := 4) nd rfl (.inl rfl) (pe_ix (ix_listK (K := K) rfl) (pe_dget (hu_of hr) (pv 0) pe_str (fun _ _ => rfl)) (pe_op op_modN (pe_callTy call_in1 (by rfl) B.int_ (by decide +kernel) (pa_cons (pv 3) pa_nil)) (pe_callB (call_lnK (K := K) rfl) (by rfl) B.len_ (by decide +kernel) (pa_cons (pe_dget (hu_of hr) (pv 0) pe_str (fun _ _ => rfl)) pa_nil))) (fun _ _ => rfl)))) pss_nil)
      (pss_cons (ps_if (PW.pt (pw_and (pt_cmpR op_lt (pv 3) (pe_callB (call_lnK (K := K) rfl) (by rfl) B.len_ (by decide +kernel) (pa_cons (pe_dget (hu_of hr) (pv 0) pe_str (fun _ _ => rfl)) pa_nil)) (nomark _)) (pw_and1 (pt_cmpR op_ge (pv 4) (pe_op op_pow pe_int pe_int) (nomark _))))) (pss_cons (ps_dput (hu_of hr) (pv 0) pe_str (pe_op op_fdivX (pe_op op_sub (pv 4) (pe_op op_pow pe_int pe_int)) (pv 1)) rfl)
      (pss_one (ps_ret (pe_op op_modN (pe_callTy call_in1 (by rfl) B.int_ (by decide +kernel) (pa_cons (pe_op op_sub (pv 4) (pe_op op_pow pe_int pe_int)) pa_nil)) (pv 1))))) pss_nil)
      (pss_cons (ps_set (i := 5) nd rfl (.inl rfl) (pe_op op_add (pe_op op_add (pe_op op_add (pe_op op_mulX (pe_op op_modN (pe_callTy call_in1 (by rfl) B.int_ (by decide +kernel) (pa_cons (pv 4) pa_nil)) pe_int) pe_int) (pe_op op_mulX (pe_op op_mulX pe_int (pv 3)) (pv 3))) (pe_op op_mulX pe_int (pv 3))) pe_int))
      (pss_cons (ps_set (i := 5) nd rfl (.inl rfl) (pe_op op_modN (pe_callTy call_in1 (by rfl) B.int_ (by decide +kernel) (pa_cons (pv 5) pa_nil)) pe_int))
      (pss_cons (ps_set (i := 5) nd rfl (.inl rfl) (pe_op op_modN (pe_callTy call_in1 (by rfl) B.int_ (by decide +kernel) (pa_cons (pe_op op_mulX (pv 5) (pe_op op_add (pv 5) pe_int)) pa_nil)) pe_int))
      (pss_one (ps_ret (pe_op op_modN (pe_callTy call_in1 (by rfl) B.int_ (by decide +kernel) (pa_cons (pe_op op_fdivX (pe_op op_modN (pe_callTy call_in1 (by rfl) B.int_ (by decide +kernel) (pa_cons (pe_op op_mulX (pv 5) (pv 5)) pa_nil)) pe_int) pe_int) pa_nil)) (pv 1))))))))))))), ?_⟩
    obtain ⟨p, c, many, n, rfl, ⟨cells, at_, left, hp, hc, hl, ha0, han, hl0⟩, hn, hm, hm2, q⟩ := h
    refine g_st (σ' := [some (.ref p), some (.int many), none, none, none, none]) rfl ?_
    have hcp : c ≠ p := fun z => by rw [z, hp] at hc; cases hc
    walk_at "gos"
    refine pen_left hp ?_
    walk_at "gos"
    refine g_itd (fun h1 => ?_) (fun h1 => ?_)
    · walk_at "gos"
      refine pen_left hp ?_
      walk_at "gos"
      refine g_I (by omega) ?_
      walk_at "gos"
      refine pen_left hp ?_
      walk_at "gos"
      refine g_I (cdiv_ok hm hm2) ?_
      walk_at "gos"
      refine pen_left' hp ?_
      walk_at "gos"
      have f1 := fmod_ok (i := left) hm
      refine q _ _ f1.1 f1.2 (SameD.put (SameD.refl H) hp) ⟨cells, at_, _, upd_same, by rw [upd_ne hcp]; exact hc, hl, ha0, by omega, ?_⟩
      rw [Int.fdiv_eq_ediv_of_nonneg _ (Int.le_of_lt hm)]
      exact Int.ediv_nonneg hl0 (Int.le_of_lt hm)
    · walk_at "gos"
      refine pen_at hp ?_
      walk_at "gos"
      refine pen_at' hp ?_
      walk_at "gos"
      have hat : Bd 41 at_ := bd_of ha0 (by have : (2 : Nat) ^ 41 = 2 ^ 40 * 2 := rfl; omega)
      refine g_I (cmul_small (n := 6) (m := 41) (by unfold Bd; decide) hat) ?_
      have hp1 : (upd H p (penO c (at_ + 1) left)) p = some (penO c (at_ + 1) left) := upd_same
      have hc1 : (upd H p (penO c (at_ + 1) left)) c = some (.lst (cells.map V.int)) := by rw [upd_ne hcp]; exact hc
      have d1 : SameD H (upd H p (penO c (at_ + 1) left)) := SameD.put (SameD.refl H) hp
      generalize upd H p (penO c (at_ + 1) left) = H1 at hp1 hc1 d1 ⊢
      walk_at "go"
      walk_at "go"
      walk_at "go"
      refine g_cutS (fun σ' H' => Same H1 H' ∧ ∃ cell : Int, σ' = [some (.ref p), some (.int many), none, some (.int at_), some (.int cell), none]) (fun nx hnx => ?_) (fun σ' H' hR => ?_)
      · walk_at "gos"
        refine pen_cells hp1 ?_
        walk_at "gos"
        refine ⟨Nat.zero_le _, fun l hl2 => ?_⟩
        have e2 := same_new (o := .lst []) hl2
        have h2 : (upd H1 l (.lst [])) l = some (.lst []) := upd_same
        generalize upd H1 l (.lst []) = H2 at e2 h2 ⊢
        refine u_neL (ms := []) (sqL (e2 _ _ hc1)) (sqL h2) ?_
        walk_at "gos"
        refine g_itn (fun hne => ?_) (fun hne => ?_)
        · walk_at "gos"
          refine pen_cells (e2 _ _ hp1) ?_
          walk_at "gos"
          refine pen_cells (e2 _ _ hp1) ?_
          walk_at "gos"
          refine u_lenL (sqL (e2 _ _ hc1)) ?_
          have hln : 0 < cells.length := List.length_pos_iff.mpr hne
          refine g_I (by rw [List.length_map]; omega) ?_
          rw [List.length_map]
          have f1 := fmod_ok (i := at_) (j := (cells.length : Int)) (by omega)
          obtain ⟨j, hj⟩ := Int.eq_ofNat_of_zero_le f1.1
          rw [hj] at f1 ⊢
          have hj2 : j < cells.length := by omega
          refine u_ixL (sqL (e2 _ _ hc1)) (atI_nat (v := V.int (cells[j])) (by rw [List.getElem?_map, List.getElem?_eq_getElem hj2]; rfl)) ?_
          walk_at "gos"
          exact hnx _ _ ⟨e2, _, rfl⟩
        · walk_at "gos"
          exact hnx _ _ ⟨e2, _, rfl⟩
      · obtain ⟨e2, cell, rfl⟩ := hR
        have hp2 := e2 _ _ hp1
        have hc2 := e2 _ _ hc1
        have d2 : SameD H H' := d1.trans e2.d
        have q' : ∀ i : Int, Q (.int (i.fmod many)) H' := fun i => q _ _ (fmod_ok hm).1 (fmod_ok hm).2 d2 ⟨cells, _, _, hp2, hc2, hl, by omega, by omega, hl0⟩
        refine g_cutS (fun σ' H'' => H'' = H' ∧ σ' = [some (.ref p), some (.int many), none, some (.int at_), some (.int cell), none]) (fun nx hnx => ?_) (fun σ' H'' hR => ?_)
        · walk_at "gos"
          refine pen_cells hp2 ?_
          walk_at "gos"
          refine u_lenL (sqL hc2) ?_
          walk_at "gos"
          refine g_itd (fun h3 => ?_) (fun h3 => ?_)
          · walk_at "gos"
            refine g_I (by unfold CPow; decide) ?_
            walk_at "gos"
            refine g_itd (fun h4 => ?_) (fun h4 => ?_)
            · walk_at "gos"
              refine g_I (by unfold CPow; decide) ?_
              walk_at "gos"
              refine g_I (cdiv_ok hm hm2) ?_
              walk_at "gos"
              refine pen_left' hp2 ?_
              walk_at "gos"
              refine g_I (by unfold CPow; decide) ?_
              walk_at "gos"
              refine g_I (by omega) ?_
              have f1 := fmod_ok (i := cell - 10 ^ (18 : Int).toNat) hm
              refine q _ _ f1.1 f1.2 (SameD.put d2 hp2) ⟨cells, _, _, upd_same, by rw [upd_ne hcp]; exact hc2, hl, by omega, by omega, ?_⟩
              rw [Int.fdiv_eq_ediv_of_nonneg _ (Int.le_of_lt hm)]
              exact Int.ediv_nonneg (by omega) (Int.le_of_lt hm)
            · walk_at "gos"
              exact hnx _ _ ⟨rfl, rfl⟩
          · walk_at "gos"
            exact hnx _ _ ⟨rfl, rfl⟩
        · obtain ⟨rfl, rfl⟩ := hR
          have bm : ∀ {i j : Int}, 0 < j → j < 2147483648 → Bd 31 (i.fmod j) := fun {i j} h1 h2 => by
            have := fmod_ok (i := i) h1
            exact bd_of this.1 (by have : (2 : Nat) ^ 31 = 2147483648 := rfl; omega)
          walk_at "gos"
          refine g_I (by decide) ?_
          walk_at "gos"
          refine g_I (cmul_small (n := 31) (m := 16) (bm (by decide) (by decide)) (by unfold Bd; decide)) ?_
          walk_at "gos"
          refine g_I (cmul_small (n := 17) (m := 41) (by unfold Bd; decide) hat) ?_
          walk_at "gos"
          refine g_I (cmul_small (n := 58) (m := 41) (Bd.mul (n := 17) (m := 41) (by unfold Bd; decide) hat) hat) ?_
          walk_at "gos"
          refine g_I (cmul_small (n := 6) (m := 41) (by unfold Bd; decide) hat) ?_
          walk_at "gos"
          refine g_I (by decide) ?_
          walk_at "gos"
          refine g_I (cmul_small (n := 31) (m := 32) (bm (by decide) (by decide)) (Bd.add (bm (by decide) (by decide)) (by unfold Bd; decide))) ?_
          walk_at "gos"
          refine g_I (by decide) ?_
          walk_at "gos"
          refine g_I (cmul_small (n := 31) (m := 31) (bm (by decide) (by decide)) (bm (by decide) (by decide))) ?_
          walk_at "gos"
          refine g_I (by decide) ?_
          walk_at "gos"
          refine g_I (by unfold CDivX; decide) ?_
          walk_at "gos"
          refine g_I (by omega) ?_
          exact q' _
end
end Ev

end
/-! Pieces, plainly. -/
namespace Pl
theorem dvd_gcd' {d a b : Int} (h1 : d ∣ a) (h2 : d ∣ b) : d ∣ ((Int.gcd a b : Nat) : Int) := Int.dvd_coe_gcd h1 h2
/-- the greatest divisor of u and all xs -/
def gl (u : Int) (xs : List Int) : Int := xs.foldl (fun d x => ((Int.gcd d x : Nat) : Int)) u
theorem gl_nil {u : Int} : gl u [] = u := rfl
theorem gl_snoc {u x : Int} {xs : List Int} : gl u (xs ++ [x]) = ((Int.gcd (gl u xs) x : Nat) : Int) := by
  unfold gl
  rw [List.foldl_append]
  rfl
theorem gl_cons {u x : Int} {xs : List Int} : gl u (x :: xs) = gl ((Int.gcd u x : Nat) : Int) xs := rfl
theorem gl_dvd_u {xs : List Int} : ∀ {u : Int}, gl u xs ∣ u := by
  induction xs with
  | nil => intro u; exact Int.dvd_refl u
  | cons x xs ih => intro u; exact Int.dvd_trans ih (Int.gcd_dvd_left _ _)
theorem gl_dvd {xs : List Int} : ∀ {u x : Int}, x ∈ xs → gl u xs ∣ x := by
  induction xs with
  | nil => intro u x h; cases h
  | cons y xs ih =>
    intro u x h
    rcases List.mem_cons.mp h with h | h
    · subst h
      rw [gl_cons]
      exact Int.dvd_trans gl_dvd_u (Int.gcd_dvd_right u x)
    · exact ih h
theorem gl_great {d : Int} {xs : List Int} : ∀ {u : Int}, d ∣ u → (∀ x, x ∈ xs → d ∣ x) → d ∣ gl u xs := by
  induction xs with
  | nil => intro u h _; exact h
  | cons y xs ih => intro u h h2; exact ih (dvd_gcd' h (h2 y (List.mem_cons_self ..))) fun x hx => h2 x (List.mem_cons_of_mem _ hx)
theorem gl_pos {xs : List Int} : ∀ {u : Int}, 0 < u → 0 < gl u xs := by
  induction xs with
  | nil => intro u h; exact h
  | cons y xs ih =>
    intro u h
    rw [gl_cons]
    refine ih ?_
    have : 0 < Int.gcd u y := Int.gcd_pos_of_ne_zero_left _ (by omega)
    omega
theorem gl_le {xs : List Int} {u : Int} (h : 0 < u) : gl u xs ≤ u := Int.le_of_dvd h gl_dvd_u
/-- the last place kept -/
theorem last_of (f : Nat → Bool) : ∀ n : Nat, ((List.range n).filter f = [] ∧ ∀ i, i < n → f i = false) ∨ ∃ k l, k < n ∧ f k = true ∧ (∀ i, k < i → i < n → f i = false) ∧ (List.range n).filter f = l ++ [k] := by
  intro n
  induction n with
  | zero => exact .inl ⟨rfl, fun i h => absurd h (Nat.not_lt_zero i)⟩
  | succ n ih =>
    rw [List.range_succ, List.filter_append]
    cases hf : f n with
    | true =>
      refine .inr ⟨n, (List.range n).filter f, Nat.lt_succ_self n, hf, fun i h1 h2 => by omega, ?_⟩
      rw [List.filter_cons, if_pos hf]
      rfl
    | false =>
      have e : List.filter f [n] = [] := by rw [List.filter_cons, if_neg (by rw [hf]; decide)]; rfl
      rw [e, List.append_nil]
      rcases ih with ⟨h1, h2⟩ | ⟨k, l, h1, h2, h3, h4⟩
      · refine .inl ⟨h1, fun i hi => ?_⟩
        by_cases h : i < n
        · exact h2 i h
        · obtain rfl : i = n := by omega
          exact hf
      · refine .inr ⟨k, l, by omega, h2, fun i h5 h6 => ?_, h4⟩
        by_cases h : i < n
        · exact h3 i h5 h
        · obtain rfl : i = n := by omega
          exact hf
/-- a row's member, 0 behind it -/
def at0 (l : List Int) (k : Nat) : Int := l.getD k 0
theorem at0_out {l : List Int} {k : Nat} (h : l.length ≤ k) : at0 l k = 0 := by
  unfold at0
  rw [List.getD_eq_getElem?_getD, List.getElem?_eq_none h]
  rfl
theorem at0_in {l : List Int} {k : Nat} (h : k < l.length) : at0 l k = l[k] := by
  unfold at0
  rw [List.getD_eq_getElem?_getD, List.getElem?_eq_getElem h]
  rfl
theorem at0_get {l : List Int} {k : Nat} {x : Int} (h : l[k]? = some x) : at0 l k = x := by
  unfold at0
  rw [List.getD_eq_getElem?_getD, h]
  rfl
theorem range_map {β : Type} (l : List Int) (f : Int → β) : (List.range l.length).map (fun i => f (at0 l i)) = l.map f := by
  refine List.ext_getElem (by rw [List.length_map, List.length_map, List.length_range]) fun i h1 h2 => ?_
  rw [List.getElem_map, List.getElem_map, List.getElem_range]
  rw [List.length_map] at h2
  rw [at0_in h2]
structure Least (rs : List Int) (u : Int) : Prop where
  pos : 0 < u
  low : rs ≠ [] → at0 rs (rs.length - 1) ≠ 0
  one : ∀ d : Int, d ∣ u → (∀ k, d ∣ at0 rs k) → d ∣ 1
/-- (rs, u) is the least form of ns over v -/
structure FormOf (ns : List Int) (v : Int) (rs : List Int) (u : Int) : Prop where
  least : Least rs u
  same : ∀ k, at0 rs k * v = at0 ns k * u
  len : rs.length ≤ ns.length
  le : u ≤ v
  small : ∀ k, (at0 rs k).natAbs ≤ (at0 ns k).natAbs
theorem dvd_all {m u : Int} {rs : List Int} (h : Least rs u) (hk : ∀ k, u ∣ at0 rs k * m) : u ∣ m := by
  have h1 : gl u rs ∣ 1 := h.one _ gl_dvd_u fun k => by
    by_cases hk : k < rs.length
    · rw [at0_in hk]
      exact gl_dvd (List.getElem_mem hk)
    · rw [at0_out (by omega)]
      exact Int.dvd_zero _
  have key : ∀ (xs : List Int) (d : Int), (∀ x, x ∈ xs → u ∣ x * m) → u ∣ d * m → u ∣ gl d xs * m := by
    intro xs
    induction xs with
    | nil => intro d _ h2; exact h2
    | cons x xs ih =>
      intro d h1 h2
      refine ih _ (fun y hy => h1 y (List.mem_cons_of_mem _ hy)) ?_
      have h3 := h1 x (List.mem_cons_self ..)
      have e : ((Int.gcd d x : Nat) : Int) * m ∣ ((Int.gcd (d * m) (x * m) : Nat) : Int) ∨ True := .inr trivial
      have h4 : u ∣ ((Int.gcd (d * m) (x * m) : Nat) : Int) := dvd_gcd' h2 h3
      rw [Int.gcd_mul_right] at h4
      rw [Int.natCast_mul] at h4
      rcases Int.natAbs_eq m with hm | hm
      · rw [hm]; exact h4
      · rw [hm, Int.mul_neg]; exact (Int.dvd_neg).mpr h4
  have h2 : u ∣ gl u rs * m := key rs u (fun x hx => by
    obtain ⟨k, hk', rfl⟩ := List.getElem_of_mem hx
    have := hk k
    rwa [at0_in hk'] at this) (Int.dvd_mul_right _ _)
  obtain ⟨c, hc⟩ := h1
  have : m = c * (gl u rs * m) := by
    rw [← Int.mul_assoc, Int.mul_comm c, ← hc, Int.one_mul]
  rw [this]
  exact Int.dvd_trans h2 (Int.dvd_mul_left _ _)
theorem ext0 {xs ys : List Int} (h1 : xs ≠ [] → at0 xs (xs.length - 1) ≠ 0) (h2 : ys ≠ [] → at0 ys (ys.length - 1) ≠ 0) (h : ∀ k, at0 xs k = at0 ys k) : xs = ys := by
  have hl : xs.length = ys.length := by
    rcases Nat.lt_trichotomy xs.length ys.length with hlt | he | hlt
    · have hne : ys ≠ [] := fun z => by rw [z] at hlt; exact absurd hlt (Nat.not_lt_zero _)
      exact absurd (by rw [← h, at0_out (by omega)]) (h2 hne)
    · exact he
    · have hne : xs ≠ [] := fun z => by rw [z] at hlt; exact absurd hlt (Nat.not_lt_zero _)
      exact absurd (by rw [h, at0_out (by omega)]) (h1 hne)
  refine List.ext_getElem hl fun i h3 h4 => ?_
  have := h i
  rwa [at0_in h3, at0_in h4] at this
theorem least_uniq {rs rs' : List Int} {u u' : Int} (h : Least rs u) (h' : Least rs' u') (e : ∀ k, at0 rs k * u' = at0 rs' k * u) : rs = rs' ∧ u = u' := by
  have d1 : u ∣ u' := dvd_all h fun k => ⟨at0 rs' k, by rw [e k, Int.mul_comm]⟩
  have d2 : u' ∣ u := dvd_all h' fun k => ⟨at0 rs k, by rw [← e k, Int.mul_comm]⟩
  have eu : u = u' := Int.le_antisymm (Int.le_of_dvd h'.pos d1) (Int.le_of_dvd h.pos d2)
  subst eu
  refine ⟨ext0 h.low h'.low fun k => ?_, rfl⟩
  exact Int.eq_of_mul_eq_mul_right (by have := h.pos; omega) (e k)
/-- two least forms of one fraction are one -/
theorem form_uniq {ns ns' rs rs' : List Int} {v v' u u' : Int} (h : FormOf ns v rs u) (h' : FormOf ns' v' rs' u') (hv : 0 < v) (hv' : 0 < v') (e : ∀ k, at0 ns k * v' = at0 ns' k * v) : rs = rs' ∧ u = u' := by
  refine least_uniq h.least h'.least fun k => ?_
  have h1 := h.same k
  have h2 := h'.same k
  have h3 := e k
  have hne : v * v' ≠ 0 := Int.mul_ne_zero (by omega) (by omega)
  refine Int.eq_of_mul_eq_mul_right hne ?_
  calc at0 rs k * u' * (v * v') = (at0 rs k * v) * (u' * v') := by simp only [Int.mul_assoc, Int.mul_left_comm, Int.mul_comm]
    _ = (at0 ns k * v') * (u * u') := by rw [h1]; simp only [Int.mul_assoc, Int.mul_left_comm, Int.mul_comm]
    _ = (at0 ns' k * u') * (u * v) := by rw [h3]; simp only [Int.mul_assoc, Int.mul_left_comm, Int.mul_comm]
    _ = at0 rs' k * u * (v * v') := by rw [← h2]; simp only [Int.mul_assoc, Int.mul_left_comm, Int.mul_comm]
/-- the members that are left -/
def kept (ns : List Int) (m : Nat) : Prop := m ≤ ns.length ∧ (∀ k, m ≤ k → at0 ns k = 0) ∧ (0 < m → at0 ns (m - 1) ≠ 0)
theorem at0_take {ns : List Int} {m k : Nat} (h : kept ns m) : at0 (ns.take m) k = at0 ns k := by
  by_cases hk : k < m
  · unfold at0
    rw [List.getD_eq_getElem?_getD, List.getD_eq_getElem?_getD, List.getElem?_take, if_pos hk]
  · rw [h.2.1 k (by omega), at0_out]
    rw [List.length_take]
    omega
theorem at0_map {ns : List Int} {f : Int → Int} (h0 : f 0 = 0) (k : Nat) : at0 (ns.map f) k = f (at0 ns k) := by
  unfold at0
  rw [List.getD_eq_getElem?_getD, List.getD_eq_getElem?_getD, List.getElem?_map]
  cases ns[k]? with
  | none => exact h0.symm
  | some x => rfl
theorem at0_app0 {l : List Int} {n k : Nat} : at0 (l ++ List.replicate n 0) k = at0 l k := by
  by_cases hk : k < l.length
  · unfold at0
    rw [List.getD_eq_getElem?_getD, List.getD_eq_getElem?_getD, List.getElem?_append_left hk]
  · rw [at0_out (l := l) (by omega)]
    unfold at0
    rw [List.getD_eq_getElem?_getD, List.getElem?_append_right (by omega), List.getElem?_replicate]
    split <;> rfl
theorem fdiv_mul {d x : Int} (hd : 0 < d) (h : d ∣ x) : x.fdiv d * d = x := by
  rw [Int.fdiv_eq_ediv_of_nonneg _ (Int.le_of_lt hd), Int.ediv_mul_cancel h]
theorem form_made {ns : List Int} {v : Int} {m : Nat} (hv : 0 < v) (hm : kept ns m) : FormOf ns v ((ns.take m).map fun x => x.fdiv (gl v (ns.take m))) (v.fdiv (gl v (ns.take m))) := by
  have hp : 0 < gl v (ns.take m) := gl_pos hv
  have hu : gl v (ns.take m) ∣ v := gl_dvd_u
  have hd : ∀ k, gl v (ns.take m) ∣ at0 ns k := fun k => by
    rw [← at0_take hm]
    by_cases hk : k < (ns.take m).length
    · rw [at0_in hk]
      exact gl_dvd (List.getElem_mem hk)
    · rw [at0_out (by omega)]
      exact Int.dvd_zero _
  have e0 : (0 : Int).fdiv (gl v (ns.take m)) = 0 := Int.zero_fdiv _
  have ek : ∀ k, at0 ((ns.take m).map fun x => x.fdiv (gl v (ns.take m))) k = (at0 ns k).fdiv (gl v (ns.take m)) := fun k => by rw [at0_map e0, at0_take hm]
  have hl : ((ns.take m).map fun x => x.fdiv (gl v (ns.take m))).length = m := by rw [List.length_map, List.length_take, Nat.min_eq_left hm.1]
  have ev := fdiv_mul hp hu
  have em : ∀ k, (at0 ns k).fdiv (gl v (ns.take m)) * gl v (ns.take m) = at0 ns k := fun k => fdiv_mul hp (hd k)
  refine ⟨⟨?_, ?_, ?_⟩, ?_, by rw [hl]; exact hm.1, ?_, ?_⟩
  · rw [Int.fdiv_eq_ediv_of_nonneg _ (Int.le_of_lt hp)]
    exact Int.ediv_pos_of_pos_of_dvd hv (Int.le_of_lt hp) hu
  · intro hne
    rw [hl, ek]
    intro z
    have hm0 : 0 < m := by
      rw [← hl]
      exact List.length_pos_iff.mpr hne
    refine hm.2.2 hm0 ?_
    rw [← em (m - 1), z, Int.zero_mul]
  · intro d h1 h2
    have h3 : d * gl v (ns.take m) ∣ gl v (ns.take m) := by
      refine gl_great ?_ ?_
      · have := Int.mul_dvd_mul_right (gl v (ns.take m)) h1
        rwa [ev] at this
      · intro x hx
        obtain ⟨k, hk, rfl⟩ := List.getElem_of_mem hx
        have h4 := Int.mul_dvd_mul_right (gl v (ns.take m)) (h2 k)
        rw [ek, em, ← at0_take hm, at0_in hk] at h4
        exact h4
    obtain ⟨c, hc⟩ := h3
    refine ⟨c, ?_⟩
    have : gl v (ns.take m) * 1 = gl v (ns.take m) * (d * c) := by
      rw [Int.mul_one, ← Int.mul_assoc, Int.mul_comm _ d]
      exact hc
    exact Int.eq_of_mul_eq_mul_left (by omega) this
  · intro k
    rw [ek]
    have : (at0 ns k).fdiv (gl v (ns.take m)) * (v.fdiv (gl v (ns.take m)) * gl v (ns.take m)) = (at0 ns k).fdiv (gl v (ns.take m)) * gl v (ns.take m) * v.fdiv (gl v (ns.take m)) := by
      simp only [Int.mul_assoc, Int.mul_left_comm, Int.mul_comm]
    rw [ev, em] at this
    exact this
  · rw [Int.fdiv_eq_ediv_of_nonneg _ (Int.le_of_lt hp)]
    exact Int.ediv_le_self _ (Int.le_of_lt hv)
  · intro k
    rw [ek]
    have := congrArg Int.natAbs (em k)
    rw [Int.natAbs_mul] at this
    rw [← this]
    exact Nat.le_mul_of_pos_right _ (by omega)
end Pl

section
open L2 in
local macro_rules | `(tactic| walk_at "gx") => `(tactic| first
  | ((with_reducible show tVar _ _ _ _); refine g_var rfl ?_)
  | with_reducible refine g_c ?_
  | with_reducible refine g_op ?_
  | with_reducible refine g_cons ?_
  | with_reducible refine g_nil ?_
  | with_reducible refine g_test ?_
  | with_reducible refine g_blp ?_
  | with_reducible refine g_asg ?_
  | (with_reducible refine g_name ?_; (try simp only [List.set_cons_zero, List.set_cons_succ]))
  | with_reducible refine g_call ?_
  | with_reducible refine g_cb ?_
  | with_reducible refine g_I0 ?_
  | with_reducible refine g_U ?_
  | with_reducible refine g_eqI ?_
  | with_reducible refine g_neI ?_
  | with_reducible refine g_if ?_
  | with_reducible refine g_ret ?_
  | with_reducible refine g_retN ?_
  | with_reducible refine g_next ?_
  | with_reducible refine g_drop ?_
  | with_reducible refine g_un ?_
  | with_reducible refine g_tb ?_
  | with_reducible refine g_tup ?_
  | with_reducible refine g_lst ?_
  | with_reducible refine g_and ?_
  | with_reducible refine g_or ?_
  | with_reducible refine g_not ?_
  | with_reducible refine g_andV ?_
  | with_reducible refine g_orV ?_
  | with_reducible refine g_notV ?_
  | with_reducible refine g_ifE ?_
  | with_reducible refine g_fld ?_
  | with_reducible refine g_tt ?_
  | with_reducible refine g_ff ?_
  | with_reducible refine g_ntt ?_
  | with_reducible refine g_nff ?_
  | with_reducible refine g_for ?_
  | with_reducible refine g_list ?_
  | with_reducible refine g_tupI ?_
  | with_reducible refine g_rng1 ?_
  | with_reducible refine g_rng2 ?_
  | with_reducible refine g_enumA ?_
  | with_reducible refine g_rev ?_
  | with_reducible refine g_lc ?_
  | with_reducible refine g_gcons ?_
  | with_reducible refine g_gnil ?_
  | with_reducible refine g_yes ?_
  | with_reducible refine g_sl ?_
  | with_reducible refine g_nopart ?_
  | with_reducible refine g_part ?_
  | with_reducible refine g_int ?_
  | with_reducible refine g_dget ?_
  | with_reducible refine g_dput ?_
  | with_reducible refine g_raiseX ?_
  | with_reducible refine g_tru ?_
  | with_reducible refine g_sub ?_
  | with_reducible refine g_isN ?_
  | with_reducible refine g_notN ?_
  | with_reducible refine g_bm ?_
  | with_reducible refine L2.g_bm0 ?_
  | with_reducible refine g_pair ?_
  | with_reducible refine g_pair0 ?_
  | with_reducible refine u_int1 ?_
  | with_reducible refine g_chain ?_
  | with_reducible refine L2.g_sfld ?_
  | (with_reducible refine g_par3 ?_)
  | (with_reducible refine g_three ?_; (try simp only [List.set_cons_zero, List.set_cons_succ]))
  | ((with_reducible apply L2.g_tupT); walk_at "up"; rfl)
  | (with_reducible refine g_par ?_)
  | (with_reducible refine g_two ?_; (try simp only [List.set_cons_zero, List.set_cons_succ]))
  )
local macro_rules | `(tactic| walk_at "go") => `(tactic| first | walk_at "gx" | with_reducible refine L2.g_seq ?_)
local macro_rules | `(tactic| walk_at "gou") => `(tactic| repeat (walk_at "gx"))
local macro_rules | `(tactic| walk_at "gos") => `(tactic| repeat (walk_at "go"))
local macro_rules | `(tactic| walk_at "sl") => `(tactic| first
  | assumption
  | exact L2.Same.l (by assumption)
  | exact L2.SameD.l (by assumption)
  | exact L2.extN_l (by assumption))
local macro_rules | `(tactic| walk_at "up") => `(tactic| first
  | assumption
  | ((with_reducible apply L2.SameL.lst); walk_at "sl"; walk_at "up")
  | ((with_reducible apply L2.SameL.tupA); walk_at "sl"; walk_at "up")
  | ((with_reducible apply L2.SameL.ins); walk_at "sl"; walk_at "up")
  | ((with_reducible apply Ev.PB.l); walk_at "sl"; walk_at "up")
  | ((with_reducible apply Ev.IsP.l); walk_at "sl"; walk_at "up")
  | ((with_reducible apply L2.sqL); walk_at "up")
  | ((with_reducible apply L2.sqT); walk_at "up")
  | ((with_reducible apply L2.SameL.seq); walk_at "sl"; walk_at "up")
  | ((with_reducible apply Ev.Pen.same); assumption; walk_at "up")
  | ((with_reducible apply Ev.Pen.extN); assumption; walk_at "up")
  | ((with_reducible apply L2.tabs_s); assumption; walk_at "up")
  | ((with_reducible apply L2.tabs_dd); assumption; walk_at "up")
  | ((with_reducible apply Or.inl); walk_at "up")
  | ((with_reducible apply Or.inr); walk_at "up"))
local macro_rules | `(tactic| walk_at "new") => `(tactic| (
  first
    | refine ⟨L2.size_ok (by rfl), fun p hp => ?_⟩
    | refine fun p hp => ?_
  generalize hX : L2.upd _ p _ = H1
  obtain ⟨e, h⟩ := L2.news hp hX
  clear hX))
local macro_rules | `(tactic| walk_at "o") => `(tactic| first
  | ((with_reducible apply Ev.o_add); walk_at "up"; walk_at "up"; rfl; rfl; rfl)
  | ((with_reducible apply Ev.o_sub); walk_at "up"; walk_at "up"; rfl; rfl; rfl)
  | ((with_reducible apply Ev.o_mul); walk_at "up"; walk_at "up"; rfl; rfl; rfl)
  | ((with_reducible apply Ev.o_addI); walk_at "up"; assumption; rfl; rfl; rfl)
  | ((with_reducible apply Ev.o_subI); walk_at "up"; assumption; rfl; rfl; rfl)
  | ((with_reducible apply Ev.o_mulI); walk_at "up"; assumption; rfl; rfl; rfl)
  | ((with_reducible apply Ev.o_radd); walk_at "up"; assumption; rfl; rfl; rfl)
  | ((with_reducible apply Ev.o_rsub); walk_at "up"; assumption; rfl; rfl; rfl)
  | ((with_reducible apply Ev.o_rmul); walk_at "up"; assumption; rfl; rfl; rfl)
  | ((with_reducible apply Ev.o_neg); walk_at "up"; rfl; rfl; rfl))
local macro_rules | `(tactic| walk_at "eq") => `(tactic| ((with_reducible apply Ev.u_ownB); assumption; walk_at "up"; walk_at "up"; (focus (intro k; first | rfl | exact Pl.e_add | exact Pl.e_sub | exact Pl.e_mul | exact Pl.e_rsub | exact Pl.e_rsub2))))
local macro_rules | `(tactic| walk_at "isp") => `(tactic| (apply Ev.u_isB; walk_at "up"; walk_at "up"; rfl; rfl))

/-! the least form of a row, a row's value -/
namespace Ev
open PySem PySem.Spec PyProof.Rows L2 Pl
section
variable {P : Program} {w : World} {K : PySem.W.Frag} {mg : Str → Option Value} {base : Heap}
def spLeast (K : PySem.W.Frag) : Sp := fun vs H Q _ => ∃ (a : Addr) (ns : List Int) (u : Int), vs = [.ref a, .int u] ∧ SqL K H a (ns.map V.int) ∧ 0 < u ∧ Bd 8000 u ∧ ns.length < 100000 ∧
  ∀ p t H' rs u', Same H H' → H' p = some (.tup [.ref t, .int u']) → H' t = some (.tup (rs.map V.int)) → FormOf ns u rs u' → Q (.ref p) H'
theorem at_ints {ns : List Int} {i : Nat} {x : V} (h : (ns.map V.int)[i]? = some x) : x = V.int (at0 ns i) := by
  rw [List.getElem?_map] at h
  cases e : ns[i]? with
  | none => rw [e] at h; cases h
  | some y => rw [e] at h; rw [at0_get e]; exact (Option.some.inj h).symm
end
end Ev

end
/-! == and != of an own class that has __eq__ alone, whatever it answers. -/
namespace PySem.W
open PySem PySem.Calls PyProof.Rows PyProof.V PySem.Spec PySem.Builtin
theorem one_slot : Slot "object" "__ne__" "object.__ne__" := Slot.of (T := "object") (name := "__ne__") (owner := "object") (n := "__ne__") (by rw [typeLookup_type, builtinLookup_eq_fast]; kernel_rfl) (by decide +kernel) (by decide +kernel) (by decide +kernel)
    (.inl (by decide +kernel)) (by rw [isSubtype_type]; kernel_rfl)
theorem one_bind (self : Value) : bindSpecial (.builtin "object.__ne__") self = pure (.builtin "object.__ne__", [self]) := one_slot.bind self
section
variable {prog : Program} {w : World} {A : Around} {E : Value → Shared → Prop} {s : Shared} {K : Frag} {x C L f : Addr} {h₀ : Heap} {m : Str → Option Value} {ox : Obj} {od : Option Obj} {b tb : Value}
theorem one_entry {Q : Fin → Shared → Prop} (hu : A.units < cLine) (X : K.In s.heap) (I : InstAt s.heap x ox C od) (hs : findIn K (.ref C) "__eq__" = some (some (.ref f))) (hf : isFn K (.ref f) = true)
    (h : wpAny (model prog w) A (call (.ref f) [.ref x, b]) (fun v s' => ∃ r, v = .bool r ∧ Q (.done (.ret (.bool (!r)))) s') E s) : wpAny (model prog w) A (Builtin.«object.__ne__» ⟨[.ref x, b], []⟩) Q E s := by
  unfold Builtin.«object.__ne__»
  repeat (first
    | with_reducible refine wpAny_cRoomFor hu ?_
    | (refine wpAny_bind (m := callSpecialIfBound? (.ref x) (Str.ofString "__eq__") [b])
        (ifBound_K X I hs hf (wpAny_mono h (fun r s' hr => by
          obtain ⟨b, rfl, hq⟩ := hr
          repeat (first | exact hq | exact wpAny_pure hq | exact wpAny_truthy_bool hq | (refine wpAny_bind (m := truthy (.bool _)) (wpAny_truthy_bool ?_)) | wp_step)) fun _ _ e => e)))
    | wp_step)
theorem ne_K {Q : Value → Shared → Prop} (hu : A.units + 1 < cLine) (F : Fr h₀ L s.heap m) (X₀ : K.In h₀) (I : InstAt s.heap x ox C od) (hb : Looks (model prog w) s.heap (typeOf b) tb) (hn : notFirst K C tb = true)
    (hne : findIn K (.ref C) "__ne__" = some (some (.builtin "object.__ne__"))) (hm : mroIn K C (.type "object") = some true) (hs : findIn K (.ref C) "__eq__" = some (some (.ref f))) (hf : isFn K (.ref f) = true)
    (h : wpAny (model prog w) A.in1 (call (.ref f) [.ref x, b]) (fun v s' => ∃ r, v = .bool r ∧ Q (.bool (!r)) s') E s) : wpAny (model prog w) A (richCompare .NotEq (.ref x) b) Q E s := by
  have X := X₀.keeps F.keep
  have sub : Looks (model prog w) s.heap (isInstance (.ref x) (.type "object")) true := I.type.andThen (looks_mroIn X hm)
  have one : wpAny (model prog w) A (tryCompare (.ref x) (cmpInfo .NotEq).2.1 b) (fun r s' => ∃ v, r = some v ∧ Q v s') E s := by
    unfold tryCompare
    refine wpAny_bind ?_
    simp only [callSpecialIfBound?, bindSpecialIfBound?]
    refine wpAny_holding (wpAny_bind (wpAny_bind (wpAny_bind (I.type.here ((looks_findIn X hne).here ?_)))))
    have fin : wpAny (model prog w) A (call (.builtin "object.__ne__") ([.ref x] ++ [b]) >>= fun v => pure (some v)) (fun r s' => wpAny (model prog w) A (match r with | some .notImplemented | none => pure none | some v => pure (some v)) (fun r s' => ∃ v, r = some v ∧ Q v s') E s') E s := by
      refine wpAny_bind (wpAny_call (codeAny_call_builtin one_slot.plain PySem.F.cmpEntry_ne (@check_slot (model prog w) _ _ s "object.__ne__" "object" "__ne__" (.ref x) [b] [] _ PySem.F.cmpKind_ne PySem.F.cmpSplit_ne sub (PySem.F.cmpArgs_ne _ _) (one_entry hu X I hs hf (wpAny_mono h (fun v s' z => ?_) fun _ _ e => e)))))
      obtain ⟨r, hr, q⟩ := z
      refine ⟨r, hr, wpAny_pure (wpAny_pure ⟨_, rfl, q⟩)⟩
    refine wpAny_bind (wpAny_askSetting (wpAny_ite ?_))
    split
    · exact wpAny_bind (by rw [one_bind]; exact wpAny_pure (wpAny_pure (by exact fin)))
    · exact wpAny_tryCatch (wpAny_bind (by rw [one_bind]; exact wpAny_pure (wpAny_pure (by exact fin))))
  unfold richCompare
  simp only [oneThing_ref]
  refine wpAny_holding (wpAny_bind (wpAny_cRoomFor (Nat.lt_of_succ_lt hu) ?_))
  refine wpAny_bind (I.type.here (wpAny_bind (hb.here ?_)))
  split
  · rename_i q
    have e : subIn K tb (.ref C) = some false := by
      rcases Bool.or_eq_true_iff.mp hn with e | e
      · rw [beq_iff_eq.mp e] at q; simp at q
      · exact beq_iff_eq.mp e
    refine wpAny_bind ((looks_subIn X e).here ?_)
    simp only [Bool.false_eq_true, if_false]
    refine wpAny_bind (wpAny_mono one (fun r s' z => ?_) fun _ _ e => e)
    obtain ⟨v, rfl, hq⟩ := z
    exact wpAny_pure hq
  · refine wpAny_bind (wpAny_pure ?_)
    simp only [Bool.false_eq_true, if_false]
    refine wpAny_bind (wpAny_mono one (fun r s' z => ?_) fun _ _ e => e)
    obtain ⟨v, rfl, hq⟩ := z
    exact wpAny_pure hq
end
end PySem.W

/-! x == y, x != y where x is of an own class with __eq__ alone; whatever it answers. -/
namespace L2
open PySem PySem.Spec PyProof.Rows
/-- the special method m of the class at C -/
structure OwnF (P : Program) (w : World) (K : PySem.W.Frag) (mg : Str → Option Value) (base : Heap) (C : Addr) (m : Str) (ps : List Str) (k : Nat) (sp : Sp) : Prop where
  ex : ∃ f fd, FnOk P w K mg base (L2.CX P w) k f fd ps sp ∧ PySem.W.findIn K (.ref C) m = some (some (.ref f)) ∧ PySem.W.isFn K (.ref f) = true ∧ Binds K fd ps []
/-- the class has no != of its own -/
structure NoNe (K : PySem.W.Frag) (C : Addr) : Prop where
  ne : PySem.W.findIn K (.ref C) "__ne__" = some (some (.builtin "object.__ne__"))
  ob : PySem.W.mroIn K C (.type "object") = some true
def rOwn (K : PySem.W.Frag) (C : Addr) (sp : Sp) (E : XK) (neg : Bool) : R2 := fun x y H Q => ∃ a dx fs t, x = .ref a ∧ H a = some (.ins C dx fs) ∧ TyX K H y t ∧ PySem.W.notFirst K C t = true ∧ sp [x, y] H (fun v H' => ∃ r, v = .bl r ∧ Q (.bl (if neg then !r else r)) H') E
section
variable {X : Cx} {C f : Addr} {fd : FuncData} {ps : List Str} {n : Nat} {sp : Sp} {E : XK}
/-- a method of two runs below the body -/
theorem run_two {A : Around} {pins : List (Addr × Obj)} {σ : St} {H : Hp} {s : Shared} {Q : VK} {x y : V} {u v : Value} (F : FnOk X.prog X.w X.K X.mg X.base (L2.CX X.prog X.w) n f fd ps sp) (sb : Sub X n A) (hb : Binds X.K fd ps []) (hx : Passes (L2.CX X.prog X.w) X E)
    (I : Inv X pins σ H s) (r1 : RelV x u) (r2 : RelV y v) (h : sp [x, y] H Q E) : wpAny (model X.prog X.w) A (call (.ref f) [u, v]) (EP X pins σ Q) X.xe s := by
  have e0 : Env0 X.prog X.w X.K X.mg X.base A X.stack s H := by
    have e := I.env0
    exact ⟨by rw [sb.fr]; exact e.frames, e.mod, e.bs, e.bsz, e.funs, e.frf, e.hok, e.bare⟩
  have hl := F.len _ _ _ _ h
  have rr : Vals [x, y] [u, v] := .cons r1 (.cons r2 .nil)
  refine wpAny_call (codeAny_mono (F.run A X.stack s H ⟨[u, v], []⟩ [u, v] [x, y] _ E sb.room e0 (by
    have := hb s [u, v] I.kIn (by simpa using hl)
    simpa using this) rr h) fun r s' hq => ?_)
  cases r with
  | error e => exact hx pins σ H s e s' I hq
  | ok fl =>
    cases fl with
    | ret w => exact I.after hq
    | next => exact False.elim hq
    | brk => exact False.elim hq
    | cont => exact False.elim hq
theorem op_ownEq (G : OwnF X.prog X.w X.K X.mg X.base C "__eq__" ps n sp) (hr : Room n X.A) (hx : Passes (L2.CX X.prog X.w) X E) : OpR X (compareOp .Eq) (rOwn X.K C sp E false) := by
  intro pins s σ H x y v u Q I rx ry hq
  obtain ⟨f, fd, F, hs, hf, hb⟩ := G.ex
  obtain ⟨a, dx, fs, t, rfl, ha, ty, hn, q⟩ := hq
  obtain ⟨P, Z, p, _⟩ := kit_of I ry ty
  cases rx
  obtain ⟨mA, J, _⟩ := ins_get I.hok ha
  obtain ⟨od, J, _⟩ := J.look
  obtain ⟨m, hF⟩ := I.fr
  show wpAny (model X.prog X.w) X.A (richCompare .Eq (.ref a) u) (EP X pins σ Q) X.xe s
  refine PySem.W.cmp_K (op := .Eq) (tb := t) hr.units0 hF I.ok.mod.kin J (Z.ty _ _ I.kIn p) hn hs hf ?_
  refine wpAny_mono (run_two F ⟨hr, rfl⟩ hb hx I (x := .ref a) (u := .ref a) rfl ry q) (fun r s' z => ?_) fun _ _ e => e
  obtain ⟨z, H', I', rz, b, rfl, q'⟩ := z
  cases rz
  exact ⟨.bl b, H', I', rfl, q'⟩
theorem op_ownNe (G : OwnF X.prog X.w X.K X.mg X.base C "__eq__" ps n sp) (N : NoNe X.K C) (hr : Room (n + 1) X.A) (hx : Passes (L2.CX X.prog X.w) X E) : OpR X (compareOp .NotEq) (rOwn X.K C sp E true) := by
  intro pins s σ H x y v u Q I rx ry hq
  obtain ⟨f, fd, F, hs, hf, hb⟩ := G.ex
  obtain ⟨a, dx, fs, t, rfl, ha, ty, hn, q⟩ := hq
  obtain ⟨P, Z, p, _⟩ := kit_of I ry ty
  cases rx
  obtain ⟨mA, J, _⟩ := ins_get I.hok ha
  obtain ⟨od, J, _⟩ := J.look
  obtain ⟨m, hF⟩ := I.fr
  show wpAny (model X.prog X.w) X.A (richCompare .NotEq (.ref a) u) (EP X pins σ Q) X.xe s
  have sb : Sub X n X.A.in1 := Sub.in1 ⟨hr, rfl⟩
  refine PySem.W.ne_K (tb := t) (by have := sb.room.units0; exact this) hF I.ok.mod.kin J (Z.ty _ _ I.kIn p) hn N.ne N.ob hs hf ?_
  refine wpAny_mono (run_two F sb hb hx I (x := .ref a) (u := .ref a) rfl ry q) (fun r s' z => ?_) fun _ _ e => e
  obtain ⟨z, H', I', rz, b, rfl, q'⟩ := z
  cases rz
  exact ⟨b, rfl, .bl (!b), H', I', rfl, q'⟩
end
end L2

section
open L2 in
local macro_rules | `(tactic| walk_at "gx") => `(tactic| first
  | ((with_reducible show tVar _ _ _ _); refine g_var rfl ?_)
  | with_reducible refine g_c ?_
  | with_reducible refine g_op ?_
  | with_reducible refine g_cons ?_
  | with_reducible refine g_nil ?_
  | with_reducible refine g_test ?_
  | with_reducible refine g_blp ?_
  | with_reducible refine g_asg ?_
  | (with_reducible refine g_name ?_; (try simp only [List.set_cons_zero, List.set_cons_succ]))
  | with_reducible refine g_call ?_
  | with_reducible refine g_cb ?_
  | with_reducible refine g_I0 ?_
  | with_reducible refine g_U ?_
  | with_reducible refine g_eqI ?_
  | with_reducible refine g_neI ?_
  | with_reducible refine g_if ?_
  | with_reducible refine g_ret ?_
  | with_reducible refine g_retN ?_
  | with_reducible refine g_next ?_
  | with_reducible refine g_drop ?_
  | with_reducible refine g_un ?_
  | with_reducible refine g_tb ?_
  | with_reducible refine g_tup ?_
  | with_reducible refine g_lst ?_
  | with_reducible refine g_and ?_
  | with_reducible refine g_or ?_
  | with_reducible refine g_not ?_
  | with_reducible refine g_andV ?_
  | with_reducible refine g_orV ?_
  | with_reducible refine g_notV ?_
  | with_reducible refine g_ifE ?_
  | with_reducible refine g_fld ?_
  | with_reducible refine g_tt ?_
  | with_reducible refine g_ff ?_
  | with_reducible refine g_ntt ?_
  | with_reducible refine g_nff ?_
  | with_reducible refine g_for ?_
  | with_reducible refine g_list ?_
  | with_reducible refine g_tupI ?_
  | with_reducible refine g_rng1 ?_
  | with_reducible refine g_rng2 ?_
  | with_reducible refine g_enumA ?_
  | with_reducible refine g_rev ?_
  | with_reducible refine g_lc ?_
  | with_reducible refine g_gcons ?_
  | with_reducible refine g_gnil ?_
  | with_reducible refine g_yes ?_
  | with_reducible refine g_sl ?_
  | with_reducible refine g_nopart ?_
  | with_reducible refine g_part ?_
  | with_reducible refine g_int ?_
  | with_reducible refine g_dget ?_
  | with_reducible refine g_dput ?_
  | with_reducible refine g_raiseX ?_
  | with_reducible refine g_tru ?_
  | with_reducible refine g_sub ?_
  | with_reducible refine g_isN ?_
  | with_reducible refine g_notN ?_
  | with_reducible refine g_bm ?_
  | with_reducible refine L2.g_bm0 ?_
  | with_reducible refine g_pair ?_
  | with_reducible refine g_pair0 ?_
  | with_reducible refine u_int1 ?_
  | with_reducible refine g_chain ?_
  | with_reducible refine L2.g_sfld ?_
  | (with_reducible refine g_par3 ?_)
  | (with_reducible refine g_three ?_; (try simp only [List.set_cons_zero, List.set_cons_succ]))
  | ((with_reducible apply L2.g_tupT); walk_at "up"; rfl)
  | (with_reducible refine g_par ?_)
  | (with_reducible refine g_two ?_; (try simp only [List.set_cons_zero, List.set_cons_succ]))
  )
local macro_rules | `(tactic| walk_at "go") => `(tactic| first | walk_at "gx" | with_reducible refine L2.g_seq ?_)
local macro_rules | `(tactic| walk_at "gou") => `(tactic| repeat (walk_at "gx"))
local macro_rules | `(tactic| walk_at "gos") => `(tactic| repeat (walk_at "go"))
local macro_rules | `(tactic| walk_at "sl") => `(tactic| first
  | assumption
  | exact L2.Same.l (by assumption)
  | exact L2.SameD.l (by assumption)
  | exact L2.extN_l (by assumption))
local macro_rules | `(tactic| walk_at "up") => `(tactic| first
  | assumption
  | ((with_reducible apply L2.SameL.lst); walk_at "sl"; walk_at "up")
  | ((with_reducible apply L2.SameL.tupA); walk_at "sl"; walk_at "up")
  | ((with_reducible apply L2.SameL.ins); walk_at "sl"; walk_at "up")
  | ((with_reducible apply Ev.PB.l); walk_at "sl"; walk_at "up")
  | ((with_reducible apply Ev.IsP.l); walk_at "sl"; walk_at "up")
  | ((with_reducible apply L2.sqL); walk_at "up")
  | ((with_reducible apply L2.sqT); walk_at "up")
  | ((with_reducible apply L2.SameL.seq); walk_at "sl"; walk_at "up")
  | ((with_reducible apply Ev.Pen.same); assumption; walk_at "up")
  | ((with_reducible apply Ev.Pen.extN); assumption; walk_at "up")
  | ((with_reducible apply L2.tabs_s); assumption; walk_at "up")
  | ((with_reducible apply L2.tabs_dd); assumption; walk_at "up")
  | ((with_reducible apply Or.inl); walk_at "up")
  | ((with_reducible apply Or.inr); walk_at "up"))
local macro_rules | `(tactic| walk_at "new") => `(tactic| (
  first
    | refine ⟨L2.size_ok (by rfl), fun p hp => ?_⟩
    | refine fun p hp => ?_
  generalize hX : L2.upd _ p _ = H1
  obtain ⟨e, h⟩ := L2.news hp hX
  clear hX))
local macro_rules | `(tactic| walk_at "o") => `(tactic| first
  | ((with_reducible apply Ev.o_add); walk_at "up"; walk_at "up"; rfl; rfl; rfl)
  | ((with_reducible apply Ev.o_sub); walk_at "up"; walk_at "up"; rfl; rfl; rfl)
  | ((with_reducible apply Ev.o_mul); walk_at "up"; walk_at "up"; rfl; rfl; rfl)
  | ((with_reducible apply Ev.o_addI); walk_at "up"; assumption; rfl; rfl; rfl)
  | ((with_reducible apply Ev.o_subI); walk_at "up"; assumption; rfl; rfl; rfl)
  | ((with_reducible apply Ev.o_mulI); walk_at "up"; assumption; rfl; rfl; rfl)
  | ((with_reducible apply Ev.o_radd); walk_at "up"; assumption; rfl; rfl; rfl)
  | ((with_reducible apply Ev.o_rsub); walk_at "up"; assumption; rfl; rfl; rfl)
  | ((with_reducible apply Ev.o_rmul); walk_at "up"; assumption; rfl; rfl; rfl)
  | ((with_reducible apply Ev.o_neg); walk_at "up"; rfl; rfl; rfl))
local macro_rules | `(tactic| walk_at "eq") => `(tactic| ((with_reducible apply Ev.u_ownB); assumption; walk_at "up"; walk_at "up"; (focus (intro k; first | rfl | exact Pl.e_add | exact Pl.e_sub | exact Pl.e_mul | exact Pl.e_rsub | exact Pl.e_rsub2))))
local macro_rules | `(tactic| walk_at "isp") => `(tactic| (apply Ev.u_isB; walk_at "up"; walk_at "up"; rfl; rfl))

/-! Piece(row, under), == -/
namespace Ev
open PySem PySem.Spec PyProof.Rows L2 Pl
/-- the piece at x -/
def IsP (H : Hp) (x C : Addr) (rs : List Int) (u : Int) : Prop := ∃ dx t, H x = some (.ins C dx [("row", .ref t), ("under", .int u)]) ∧ H t = some (.tup (rs.map V.int))
theorem IsP.same {H H' : Hp} {x C : Addr} {rs : List Int} {u : Int} (e : Same H H') : IsP H x C rs u → IsP H' x C rs u := fun ⟨dx, t, h1, h2⟩ => ⟨dx, t, e _ _ h1, e _ _ h2⟩
theorem IsP.sameD {H H' : Hp} {x C : Addr} {rs : List Int} {u : Int} (e : SameD H H') : IsP H x C rs u → IsP H' x C rs u := fun ⟨dx, t, h1, h2⟩ => ⟨dx, t, e.ins h1, e.tupA h2⟩
/-- what the arguments are -/
structure ArgP (K : PySem.W.Frag) (H : Hp) (a : Addr) (un : V) (xs : List V) (kd : Nat → Bool) (ku : Bool) : Prop where
  sq : SqL K H a xs ∨ SqT K H a xs
  kinds : ∀ i x, xs[i]? = some x → Kd K H x (kd i)
  kdu : Kd K H un ku
  nums : (∀ i, i < xs.length → kd i = true) → ∃ ns : List Int, xs = ns.map V.int
  num : ku = true → ∃ u : Int, un = .int u
  len : xs.length < 100000
theorem ArgP.same {K : PySem.W.Frag} {H H' : Hp} {a : Addr} {un : V} {xs : List V} {kd : Nat → Bool} {ku : Bool} (e : Same H H') (h : ArgP K H a un xs kd ku) : ArgP K H' a un xs kd ku :=
  ⟨h.sq.elim (fun q => .inl (e.seq q)) (fun q => .inr (e.tup q)), fun i x hx => (h.kinds i x hx).same e, h.kdu.same e, h.nums, h.num, h.len⟩
/-- what is raised -/
structure ExcP (CR CU : Addr) (H : Hp) (un : V) (n : Nat) (kd : Nat → Bool) (ku : Bool) (E : XK) : Prop where
  row : ∀ i, i < n → kd i = false → (∀ j, j < i → kd j = true) → ∀ H', Exc1 H H' CR "index" (.int (i : Nat)) E
  under : (∀ i, i < n → kd i = true) → (ku = false ∨ ∃ u : Int, un = .int u ∧ u < 1) → ∀ H', Exc1 H H' CU "under" un E
def spPiece (K : PySem.W.Frag) (C CR CU : Addr) : Sp := fun vs H Q E => ∃ (a : Addr) (un : V) (xs : List V) (kd : Nat → Bool) (ku : Bool), vs = [.ref a, un] ∧ ArgP K H a un xs kd ku ∧ ExcP CR CU H un xs.length kd ku E ∧
  ∀ (ns : List Int) (u : Int), (∀ i, i < xs.length → kd i = true) → xs = ns.map V.int → un = .int u → 1 ≤ u → Bd 8000 u ∧ ∀ x H' rs u', H x = none → Same H H' → IsP H' x C rs u' → FormOf ns u rs u' → Q (.ref x) H'
def spPieceInit (K : PySem.W.Frag) (C CR CU : Addr) : Sp := fun vs H Q E => ∃ (x dx a : Addr) (un : V) (xs : List V) (kd : Nat → Bool) (ku : Bool), vs = [.ref x, .ref a, un] ∧ H x = some (.ins C dx []) ∧ ArgP K H a un xs kd ku ∧ ExcP CR CU H un xs.length kd ku E ∧
  ∀ (ns : List Int) (u : Int), (∀ i, i < xs.length → kd i = true) → xs = ns.map V.int → un = .int u → 1 ≤ u → Bd 8000 u ∧ ∀ H' rs u', (∀ b o, b ≠ x → H b = some o → H' b = some o) → IsP H' x C rs u' → FormOf ns u rs u' → Q .non H'
section
variable {P : Program} {w : World} {K : PySem.W.Frag} {mg : Str → Option Value} {base : Heap}
/-- Piece(..) by its promise -/
theorem make_Piece {C CR CU : Addr} {f : Addr} {fd : FuncData} (Fn : FnOk P w K mg base (L2.CX P w) 5 f fd ["self", "row", "under"] (spPieceInit K C CR CU)) (M : Mk K C f) (hC : mg "Piece" = some (.ref C)) (hb : Binds K fd ["self", "row", "under"] []) :
    MakeF P w K mg base "Piece" C 5 (spPiece K C CR CU) := by
  refine ⟨f, fd, _, _, [], [], Fn, M, hC, hb, .nil, fun vs H Q E h => ?_⟩
  obtain ⟨a, un, xs, kd, ku, rfl, ha, he, q⟩ := h
  intro x dx hx hdx hne
  have es : Same H (upd (upd H dx (.own x)) x (.ins C dx [])) := (same_new hdx).trans (same_new (by rw [upd_ne (Ne.symm hne)]; exact hx))
  refine ⟨x, dx, a, un, xs, kd, ku, rfl, upd_same, ha.same es, ⟨fun i h1 h2 h3 H' e' d hd => he.row i h1 h2 h3 H' (es.trans e') d hd, fun h1 h2 H' e' d hd => he.under h1 h2 H' (es.trans e') d hd⟩, fun ns u h1 h2 h3 h4 => ?_⟩
  obtain ⟨q1, q2⟩ := q ns u h1 h2 h3 h4
  refine ⟨q1, fun H' rs u' hk hp hf => ⟨rfl, q2 x H' rs u' hx (fun b o hb => ?_) hp hf⟩⟩
  exact hk b o (ne_of_none hb hx) (es b o hb)
theorem make_Piece1 {C CR CU : Addr} {f : Addr} {fd : FuncData} (Fn : FnOk P w K mg base (L2.CX P w) 5 f fd ["self", "row", "under"] (spPieceInit K C CR CU)) (M : Mk K C f) (hC : mg "Piece" = some (.ref C)) {ds : List Value} (hb : Binds K fd ["self", "row", "under"] ds) (hd : Vals [.int 1] ds) :
    MakeF P w K mg base "Piece" C 5 (fun vs H Q E => ∃ a : Addr, vs = [.ref a] ∧ spPiece K C CR CU [.ref a, .int 1] H Q E) := by
  refine ⟨f, fd, _, _, [.int 1], ds, Fn, M, hC, hb, hd, fun vs H Q E h => ?_⟩
  obtain ⟨a0, rfl, a, un, xs, kd, ku, e0, ha, he, q⟩ := h
  obtain ⟨rfl, rfl⟩ : a0 = a ∧ V.int 1 = un := by cases e0; exact ⟨rfl, rfl⟩
  intro x dx hx hdx hne
  have es : Same H (upd (upd H dx (.own x)) x (.ins C dx [])) := (same_new hdx).trans (same_new (by rw [upd_ne (Ne.symm hne)]; exact hx))
  refine ⟨x, dx, a0, _, xs, kd, ku, rfl, upd_same, ha.same es, ⟨fun i h1 h2 h3 H' e' d hd => he.row i h1 h2 h3 H' (es.trans e') d hd, fun h1 h2 H' e' d hd => he.under h1 h2 H' (es.trans e') d hd⟩, fun ns u h1 h2 h3 h4 => ?_⟩
  obtain ⟨q1, q2⟩ := q ns u h1 h2 h3 h4
  refine ⟨q1, fun H' rs u' hk hp hf => ⟨rfl, q2 x H' rs u' hx (fun b o hb => ?_) hp hf⟩⟩
  exact hk b o (ne_of_none hb hx) (es b o hb)
/-! == -/
theorem isP_ty {H : Hp} {x C : Addr} {rs : List Int} {u : Int} (h : IsP H x C rs u) (cl : Cls K C) (ha : PySem.W.findIn K (.ref C) "__class__" = some (some (.builtin "object.__class__")))
    (hn : PySem.W.specialIn K (.builtin "object.__class__") "__get__" = some (some (.builtin "getset_descriptor.__get__"))) (htk : PySem.W.takesIn K (.builtin "object.__class__") = some true)
    (hm : PySem.W.mroIn K C (.type "object") = some true) : TyX K H (.ref x) (.ref C) := let ⟨_, _, h1, _⟩ := h; .base (.ins h1 cl ha hn htk hm)
/-- the other is a piece, or a value whose type is not Piece -/
def spEqP (K : PySem.W.Frag) (C : Addr) : Sp := fun vs H Q _ => ∃ (x : Addr) (y : V) (rs : List Int) (u : Int), vs = [.ref x, y] ∧ IsP H x C rs u ∧
  ((∃ (z : Addr) (rs' : List Int) (u' : Int), y = .ref z ∧ IsP H z C rs' u' ∧ Q (.bl (decide (rs = rs') && decide (u = u'))) H) ∨ (∃ t, TyX K H y t ∧ PySem.W.kitOne K t (.ref C) = some false ∧ Q (.bl false) H))
end
end Ev

end
section
open L2 in
local macro_rules | `(tactic| walk_at "gx") => `(tactic| first
  | ((with_reducible show tVar _ _ _ _); refine g_var rfl ?_)
  | with_reducible refine g_c ?_
  | with_reducible refine g_op ?_
  | with_reducible refine g_cons ?_
  | with_reducible refine g_nil ?_
  | with_reducible refine g_test ?_
  | with_reducible refine g_blp ?_
  | with_reducible refine g_asg ?_
  | (with_reducible refine g_name ?_; (try simp only [List.set_cons_zero, List.set_cons_succ]))
  | with_reducible refine g_call ?_
  | with_reducible refine g_cb ?_
  | with_reducible refine g_I0 ?_
  | with_reducible refine g_U ?_
  | with_reducible refine g_eqI ?_
  | with_reducible refine g_neI ?_
  | with_reducible refine g_if ?_
  | with_reducible refine g_ret ?_
  | with_reducible refine g_retN ?_
  | with_reducible refine g_next ?_
  | with_reducible refine g_drop ?_
  | with_reducible refine g_un ?_
  | with_reducible refine g_tb ?_
  | with_reducible refine g_tup ?_
  | with_reducible refine g_lst ?_
  | with_reducible refine g_and ?_
  | with_reducible refine g_or ?_
  | with_reducible refine g_not ?_
  | with_reducible refine g_andV ?_
  | with_reducible refine g_orV ?_
  | with_reducible refine g_notV ?_
  | with_reducible refine g_ifE ?_
  | with_reducible refine g_fld ?_
  | with_reducible refine g_tt ?_
  | with_reducible refine g_ff ?_
  | with_reducible refine g_ntt ?_
  | with_reducible refine g_nff ?_
  | with_reducible refine g_for ?_
  | with_reducible refine g_list ?_
  | with_reducible refine g_tupI ?_
  | with_reducible refine g_rng1 ?_
  | with_reducible refine g_rng2 ?_
  | with_reducible refine g_enumA ?_
  | with_reducible refine g_rev ?_
  | with_reducible refine g_lc ?_
  | with_reducible refine g_gcons ?_
  | with_reducible refine g_gnil ?_
  | with_reducible refine g_yes ?_
  | with_reducible refine g_sl ?_
  | with_reducible refine g_nopart ?_
  | with_reducible refine g_part ?_
  | with_reducible refine g_int ?_
  | with_reducible refine g_dget ?_
  | with_reducible refine g_dput ?_
  | with_reducible refine g_raiseX ?_
  | with_reducible refine g_tru ?_
  | with_reducible refine g_sub ?_
  | with_reducible refine g_isN ?_
  | with_reducible refine g_notN ?_
  | with_reducible refine g_bm ?_
  | with_reducible refine L2.g_bm0 ?_
  | with_reducible refine g_pair ?_
  | with_reducible refine g_pair0 ?_
  | with_reducible refine u_int1 ?_
  | with_reducible refine g_chain ?_
  | with_reducible refine L2.g_sfld ?_
  | (with_reducible refine g_par3 ?_)
  | (with_reducible refine g_three ?_; (try simp only [List.set_cons_zero, List.set_cons_succ]))
  | ((with_reducible apply L2.g_tupT); walk_at "up"; rfl)
  | (with_reducible refine g_par ?_)
  | (with_reducible refine g_two ?_; (try simp only [List.set_cons_zero, List.set_cons_succ]))
  )
local macro_rules | `(tactic| walk_at "go") => `(tactic| first | walk_at "gx" | with_reducible refine L2.g_seq ?_)
local macro_rules | `(tactic| walk_at "gou") => `(tactic| repeat (walk_at "gx"))
local macro_rules | `(tactic| walk_at "gos") => `(tactic| repeat (walk_at "go"))
local macro_rules | `(tactic| walk_at "sl") => `(tactic| first
  | assumption
  | exact L2.Same.l (by assumption)
  | exact L2.SameD.l (by assumption)
  | exact L2.extN_l (by assumption))
local macro_rules | `(tactic| walk_at "up") => `(tactic| first
  | assumption
  | ((with_reducible apply L2.SameL.lst); walk_at "sl"; walk_at "up")
  | ((with_reducible apply L2.SameL.tupA); walk_at "sl"; walk_at "up")
  | ((with_reducible apply L2.SameL.ins); walk_at "sl"; walk_at "up")
  | ((with_reducible apply Ev.PB.l); walk_at "sl"; walk_at "up")
  | ((with_reducible apply Ev.IsP.l); walk_at "sl"; walk_at "up")
  | ((with_reducible apply L2.sqL); walk_at "up")
  | ((with_reducible apply L2.sqT); walk_at "up")
  | ((with_reducible apply L2.SameL.seq); walk_at "sl"; walk_at "up")
  | ((with_reducible apply Ev.Pen.same); assumption; walk_at "up")
  | ((with_reducible apply Ev.Pen.extN); assumption; walk_at "up")
  | ((with_reducible apply L2.tabs_s); assumption; walk_at "up")
  | ((with_reducible apply L2.tabs_dd); assumption; walk_at "up")
  | ((with_reducible apply Or.inl); walk_at "up")
  | ((with_reducible apply Or.inr); walk_at "up"))
local macro_rules | `(tactic| walk_at "new") => `(tactic| (
  first
    | refine ⟨L2.size_ok (by rfl), fun p hp => ?_⟩
    | refine fun p hp => ?_
  generalize hX : L2.upd _ p _ = H1
  obtain ⟨e, h⟩ := L2.news hp hX
  clear hX))
local macro_rules | `(tactic| walk_at "o") => `(tactic| first
  | ((with_reducible apply Ev.o_add); walk_at "up"; walk_at "up"; rfl; rfl; rfl)
  | ((with_reducible apply Ev.o_sub); walk_at "up"; walk_at "up"; rfl; rfl; rfl)
  | ((with_reducible apply Ev.o_mul); walk_at "up"; walk_at "up"; rfl; rfl; rfl)
  | ((with_reducible apply Ev.o_addI); walk_at "up"; assumption; rfl; rfl; rfl)
  | ((with_reducible apply Ev.o_subI); walk_at "up"; assumption; rfl; rfl; rfl)
  | ((with_reducible apply Ev.o_mulI); walk_at "up"; assumption; rfl; rfl; rfl)
  | ((with_reducible apply Ev.o_radd); walk_at "up"; assumption; rfl; rfl; rfl)
  | ((with_reducible apply Ev.o_rsub); walk_at "up"; assumption; rfl; rfl; rfl)
  | ((with_reducible apply Ev.o_rmul); walk_at "up"; assumption; rfl; rfl; rfl)
  | ((with_reducible apply Ev.o_neg); walk_at "up"; rfl; rfl; rfl))
local macro_rules | `(tactic| walk_at "eq") => `(tactic| ((with_reducible apply Ev.u_ownB); assumption; walk_at "up"; walk_at "up"; (focus (intro k; first | rfl | exact Pl.e_add | exact Pl.e_sub | exact Pl.e_mul | exact Pl.e_rsub | exact Pl.e_rsub2))))
local macro_rules | `(tactic| walk_at "isp") => `(tactic| (apply Ev.u_isB; walk_at "up"; walk_at "up"; rfl; rfl))

/-! Picks, entries, fractions; what a piece must be. -/
namespace Ev
open PySem PySem.Spec PyProof.Rows L2 Pl
section
variable {P : Program} {w : World} {K : PySem.W.Frag} {mg : Str → Option Value} {base : Heap}
def spPick (K : PySem.W.Frag) : Sp := fun vs H Q _ => ∃ (p c a : Addr) (xs : List V) (n : Nat), vs = [.ref p, .ref a] ∧ Pen H p c n ∧ n < 2 ^ 40 ∧ SqL K H a xs ∧ xs ≠ [] ∧ xs.length < 100000 ∧ ∀ (i : Nat) v H', xs[i]? = some v → SameD H H' → Pen H' p c (n + 1) → Q v H'
theorem sc__law_pick : FnScope ["pen", "some"] ["pen", "some"] (defScope (topS 26)) := ⟨rfl, rfl, rfl, by decide +kernel, rfl, by decide +kernel, by decide +kernel⟩
theorem ok__law_pick (B : Bn mg) (G__law_draw : CallF P w K mg base "_law_draw" ["pen", "many"] 2 spDraw) {f : Addr} {fd : FuncData} (F : Fun K "_law_pick" "_law_pick" (topS 26) f fd) : FnOk P w K mg base (L2.CX P w) 3 f fd ["pen", "some"] (spPick K) := by
  have nd := sc__law_pick.nd
  refine F.okX sc__law_pick (fun vs H Q E h => ?_) (fun cdv A outer s H vs Q E hr h => ?_)
  · obtain ⟨p, c, a, xs, n, rfl, _⟩ := h
    rfl
  · refine ⟨_, (pss_one (ps_ret (pe_ix (ix_listK (K := K) rfl) (pv 1) (pe_callF G__law_draw (hr.mono (by decide)) rfl passL (pa_cons (pv 0) (pa_cons (pe_callB (call_lnK (K := K) rfl) (by rfl) B.len_ (by decide +kernel) (pa_cons (pv 1) pa_nil)) pa_nil))) (fun _ _ => rfl)))), ?_⟩
    obtain ⟨p, c, a, xs, n, rfl, hp, hn, hx, hne, hl, q⟩ := h
    refine g_st (σ' := [some (.ref p), some (.ref a)]) rfl ?_
    walk_at "gos"
    refine u_lenL hx ?_
    walk_at "gos"
    have hl0 : 0 < xs.length := List.length_pos_iff.mpr hne
    refine ⟨p, c, xs.length, n, rfl, hp, hn, by omega, by omega, fun r H' h0 h1 e hp' => ?_⟩
    obtain ⟨j, rfl⟩ := Int.eq_ofNat_of_zero_le h0
    have hj : j < xs.length := by omega
    refine u_ixL (e.seq hx) (atI_nat (v := xs[j]) (List.getElem?_eq_getElem hj)) ?_
    exact q j _ H' (List.getElem?_eq_getElem hj) e hp'
def spEntry : Sp := fun vs H Q _ => ∃ (p c : Addr) (n : Nat), vs = [.ref p] ∧ Pen H p c n ∧ n + 10 < 2 ^ 40 ∧ ∀ i H', Bd 210 i → SameD H H' → Pen H' p c (n + 3) → Q (.int i) H'
def spFraction : Sp := fun vs H Q _ => ∃ (p c : Addr) (most : Int) (n : Nat), vs = [.ref p, .int most] ∧ Pen H p c n ∧ n + 1000 < 2 ^ 40 ∧ 0 ≤ most ∧ most < 40 ∧
  ∀ t a (ns : List Int) (u : Int) H', SameD H H' → Pen H' p c (n + 200) → H' t = some (.tup [.ref a, .int u]) → H' a = some (.lst (ns.map V.int)) → (ns.length : Int) ≤ most + 1 → (∀ x, x ∈ ns → Bd 210 x) → 1 ≤ u → Bd 100 u → Q (.ref t) H'
/-- what a piece must be, as the law asks it -/
def spIsPiece (K : PySem.W.Frag) (C : Addr) : Sp := fun vs H Q _ => ∃ (x a : Addr) (rs ns : List Int) (u v : Int), vs = [.ref x, .ref a, .int v] ∧ IsP H x C rs u ∧ SqL K H a (ns.map V.int) ∧ FormOf ns v rs u ∧ Bd 8000 v ∧ (∀ k, Bd 8000 (at0 ns k)) ∧ ns.length < 100000 ∧ ∀ H', Same H H' → Q (.bl true) H'
end
end Ev

end
section
open L2 in
local macro_rules | `(tactic| walk_at "gx") => `(tactic| first
  | ((with_reducible show tVar _ _ _ _); refine g_var rfl ?_)
  | with_reducible refine g_c ?_
  | with_reducible refine g_op ?_
  | with_reducible refine g_cons ?_
  | with_reducible refine g_nil ?_
  | with_reducible refine g_test ?_
  | with_reducible refine g_blp ?_
  | with_reducible refine g_asg ?_
  | (with_reducible refine g_name ?_; (try simp only [List.set_cons_zero, List.set_cons_succ]))
  | with_reducible refine g_call ?_
  | with_reducible refine g_cb ?_
  | with_reducible refine g_I0 ?_
  | with_reducible refine g_U ?_
  | with_reducible refine g_eqI ?_
  | with_reducible refine g_neI ?_
  | with_reducible refine g_if ?_
  | with_reducible refine g_ret ?_
  | with_reducible refine g_retN ?_
  | with_reducible refine g_next ?_
  | with_reducible refine g_drop ?_
  | with_reducible refine g_un ?_
  | with_reducible refine g_tb ?_
  | with_reducible refine g_tup ?_
  | with_reducible refine g_lst ?_
  | with_reducible refine g_and ?_
  | with_reducible refine g_or ?_
  | with_reducible refine g_not ?_
  | with_reducible refine g_andV ?_
  | with_reducible refine g_orV ?_
  | with_reducible refine g_notV ?_
  | with_reducible refine g_ifE ?_
  | with_reducible refine g_fld ?_
  | with_reducible refine g_tt ?_
  | with_reducible refine g_ff ?_
  | with_reducible refine g_ntt ?_
  | with_reducible refine g_nff ?_
  | with_reducible refine g_for ?_
  | with_reducible refine g_list ?_
  | with_reducible refine g_tupI ?_
  | with_reducible refine g_rng1 ?_
  | with_reducible refine g_rng2 ?_
  | with_reducible refine g_enumA ?_
  | with_reducible refine g_rev ?_
  | with_reducible refine g_lc ?_
  | with_reducible refine g_gcons ?_
  | with_reducible refine g_gnil ?_
  | with_reducible refine g_yes ?_
  | with_reducible refine g_sl ?_
  | with_reducible refine g_nopart ?_
  | with_reducible refine g_part ?_
  | with_reducible refine g_int ?_
  | with_reducible refine g_dget ?_
  | with_reducible refine g_dput ?_
  | with_reducible refine g_raiseX ?_
  | with_reducible refine g_tru ?_
  | with_reducible refine g_sub ?_
  | with_reducible refine g_isN ?_
  | with_reducible refine g_notN ?_
  | with_reducible refine g_bm ?_
  | with_reducible refine L2.g_bm0 ?_
  | with_reducible refine g_pair ?_
  | with_reducible refine g_pair0 ?_
  | with_reducible refine u_int1 ?_
  | with_reducible refine g_chain ?_
  | with_reducible refine L2.g_sfld ?_
  | (with_reducible refine g_par3 ?_)
  | (with_reducible refine g_three ?_; (try simp only [List.set_cons_zero, List.set_cons_succ]))
  | ((with_reducible apply L2.g_tupT); walk_at "up"; rfl)
  | (with_reducible refine g_par ?_)
  | (with_reducible refine g_two ?_; (try simp only [List.set_cons_zero, List.set_cons_succ]))
  )
local macro_rules | `(tactic| walk_at "go") => `(tactic| first | walk_at "gx" | with_reducible refine L2.g_seq ?_)
local macro_rules | `(tactic| walk_at "gou") => `(tactic| repeat (walk_at "gx"))
local macro_rules | `(tactic| walk_at "gos") => `(tactic| repeat (walk_at "go"))
local macro_rules | `(tactic| walk_at "sl") => `(tactic| first
  | assumption
  | exact L2.Same.l (by assumption)
  | exact L2.SameD.l (by assumption)
  | exact L2.extN_l (by assumption))
local macro_rules | `(tactic| walk_at "up") => `(tactic| first
  | assumption
  | ((with_reducible apply L2.SameL.lst); walk_at "sl"; walk_at "up")
  | ((with_reducible apply L2.SameL.tupA); walk_at "sl"; walk_at "up")
  | ((with_reducible apply L2.SameL.ins); walk_at "sl"; walk_at "up")
  | ((with_reducible apply Ev.PB.l); walk_at "sl"; walk_at "up")
  | ((with_reducible apply Ev.IsP.l); walk_at "sl"; walk_at "up")
  | ((with_reducible apply L2.sqL); walk_at "up")
  | ((with_reducible apply L2.sqT); walk_at "up")
  | ((with_reducible apply L2.SameL.seq); walk_at "sl"; walk_at "up")
  | ((with_reducible apply Ev.Pen.same); assumption; walk_at "up")
  | ((with_reducible apply Ev.Pen.extN); assumption; walk_at "up")
  | ((with_reducible apply L2.tabs_s); assumption; walk_at "up")
  | ((with_reducible apply L2.tabs_dd); assumption; walk_at "up")
  | ((with_reducible apply Or.inl); walk_at "up")
  | ((with_reducible apply Or.inr); walk_at "up"))
local macro_rules | `(tactic| walk_at "new") => `(tactic| (
  first
    | refine ⟨L2.size_ok (by rfl), fun p hp => ?_⟩
    | refine fun p hp => ?_
  generalize hX : L2.upd _ p _ = H1
  obtain ⟨e, h⟩ := L2.news hp hX
  clear hX))
local macro_rules | `(tactic| walk_at "o") => `(tactic| first
  | ((with_reducible apply Ev.o_add); walk_at "up"; walk_at "up"; rfl; rfl; rfl)
  | ((with_reducible apply Ev.o_sub); walk_at "up"; walk_at "up"; rfl; rfl; rfl)
  | ((with_reducible apply Ev.o_mul); walk_at "up"; walk_at "up"; rfl; rfl; rfl)
  | ((with_reducible apply Ev.o_addI); walk_at "up"; assumption; rfl; rfl; rfl)
  | ((with_reducible apply Ev.o_subI); walk_at "up"; assumption; rfl; rfl; rfl)
  | ((with_reducible apply Ev.o_mulI); walk_at "up"; assumption; rfl; rfl; rfl)
  | ((with_reducible apply Ev.o_radd); walk_at "up"; assumption; rfl; rfl; rfl)
  | ((with_reducible apply Ev.o_rsub); walk_at "up"; assumption; rfl; rfl; rfl)
  | ((with_reducible apply Ev.o_rmul); walk_at "up"; assumption; rfl; rfl; rfl)
  | ((with_reducible apply Ev.o_neg); walk_at "up"; rfl; rfl; rfl))
local macro_rules | `(tactic| walk_at "eq") => `(tactic| ((with_reducible apply Ev.u_ownB); assumption; walk_at "up"; walk_at "up"; (focus (intro k; first | rfl | exact Pl.e_add | exact Pl.e_sub | exact Pl.e_mul | exact Pl.e_rsub | exact Pl.e_rsub2))))
local macro_rules | `(tactic| walk_at "isp") => `(tactic| (apply Ev.u_isB; walk_at "up"; walk_at "up"; rfl; rfl))

/-! Sets by their truths. -/
namespace Ev
open PySem PySem.Spec PyProof.Rows L2 Wp
/-- x is the set of the truths f -/
def WF (K : PySem.W.Frag) (H : Hp) (x C : Addr) (f : Nat → Bool) : Prop := ∃ bl rl, IsW K H x C bl rl ∧ Nm bl rl ∧ ∀ n, mem bl rl n = f n
theorem WF.l {K : PySem.W.Frag} {H H' : Hp} {x C : Addr} {f : Nat → Bool} (e : SameL H H') : WF K H x C f → WF K H' x C f := fun ⟨bl, rl, h1, h2⟩ => ⟨bl, rl, h1.l e, h2⟩
section
variable {K : PySem.W.Frag} {H : Hp} {x y C CT CF CL a b : Addr} {f g : Nat → Bool} {Q : VK} {E : XK}
theorem WF.ins (h : WF K H x C f) : ∃ dx fs, H x = some (.ins C dx fs) := let ⟨_, _, ⟨dx, _, _, h1, _⟩, _⟩ := h; ⟨dx, _, h1⟩
theorem kdB_bools {B : List Bool} : ∀ (i : Nat) (x : V), (B.map V.bl)[i]? = some x → KdB K H x true := fun i x h => by
  rw [List.getElem?_map] at h
  obtain ⟨y, _, rfl⟩ := Option.map_eq_some_iff.mp h
  exact KdB.bl
theorem wArg_bools {B R : List Bool} (ha : SqA K H a (B.map V.bl)) (hb : SqA K H b (R.map V.bl)) (hl : B.length ≤ 100000) (hl2 : R.length ≤ 100000) : WArg K H a b (B.map V.bl) (R.map V.bl) (fun _ => true) (fun _ => true) :=
  ⟨ha, hb, kdB_bools, kdB_bools, fun _ => ⟨B, rfl⟩, fun _ => ⟨R, rfl⟩, by rw [List.length_map]; exact hl, by rw [List.length_map]; exact hl2⟩
/-- Where(a, b) of truths, within the bounds -/
theorem u_where {B R : List Bool} (ha : SqA K H a (B.map V.bl)) (hb : SqA K H b (R.map V.bl)) (hR : 0 < R.length) (hB : B.length ≤ 10000) (hR2 : R.length ≤ 720)
    (q : ∀ x H', H x = none → Same H H' → WF K H' x C (mem B R) → Q (.ref x) H') : spWhere K C CT CF CL [.ref a, .ref b] H Q E := by
  refine ⟨a, b, _, _, _, _, rfl, wArg_bools ha hb (by omega) (by omega), ⟨fun _ _ h _ => (nomatch h), fun _ _ _ h _ => (nomatch h), fun _ h => ?_, fun B' R' bl rl e1 e2 h1 h2 h3 h4 => ?_, fun B' R' bl rl e1 e2 h1 h2 h3 h4 h5 => ?_⟩, fun B' R' bl rl e1 e2 h1 h2 h3 h4 h5 x H' hx e hw => ?_⟩
  · rw [List.map_eq_nil_iff] at h; rw [h] at hR; exact absurd hR (Nat.lt_irrefl 0)
  · have := bools_inj e1; have := bools_inj e2; subst B' R'
    have := nm_len h1 h2 h3; omega
  · have := bools_inj e1; have := bools_inj e2; subst B' R'
    have := nm_len h1 h2 h3; omega
  · have := bools_inj e1; have := bools_inj e2; subst B' R'
    exact q x H' hx e ⟨bl, rl, hw, h2, h3⟩
/-- .. beyond the bounds -/
theorem u_whereX {B R bl rl : List Bool} (ha : SqA K H a (B.map V.bl)) (hb : SqA K H b (R.map V.bl)) (hR : 0 < R.length) (hB : B.length ≤ 100000) (hR2 : R.length ≤ 100000) (hn : Nm bl rl) (hm : ∀ n, mem bl rl n = mem B R n)
    (q1 : 720 < rl.length → ∀ H' d, Same H H' → H' d = some (.xd [("most", .int 720)]) → E (.ref CF) (some d) H')
    (q2 : rl.length ≤ 720 → 10000 < bl.length → ∀ H' d, Same H H' → H' d = some (.xd [("most", .int 10000)]) → E (.ref CL) (some d) H')
    (q : rl.length ≤ 720 → bl.length ≤ 10000 → ∀ x H', H x = none → Same H H' → IsW K H' x C bl rl → Q (.ref x) H') : spWhere K C CT CF CL [.ref a, .ref b] H Q E := by
  refine ⟨a, b, _, _, _, _, rfl, wArg_bools ha hb hB hR2, ⟨fun _ _ h _ => (nomatch h), fun _ _ _ h _ => (nomatch h), fun _ h => ?_, fun B' R' bl' rl' e1 e2 h1 h2 h3 h4 => ?_, fun B' R' bl' rl' e1 e2 h1 h2 h3 h4 h5 => ?_⟩, fun B' R' bl' rl' e1 e2 h1 h2 h3 h4 h5 x H' hx e hw => ?_⟩
  · rw [List.map_eq_nil_iff] at h; rw [h] at hR; exact absurd hR (Nat.lt_irrefl 0)
  · have := bools_inj e1; have := bools_inj e2; subst B' R'
    obtain ⟨rfl, rfl⟩ := hn.uniq h2 fun n => by rw [hm, h3]
    exact q1 h4
  · have := bools_inj e1; have := bools_inj e2; subst B' R'
    obtain ⟨rfl, rfl⟩ := hn.uniq h2 fun n => by rw [hm, h3]
    exact q2 h4 h5
  · have := bools_inj e1; have := bools_inj e2; subst B' R'
    obtain ⟨rfl, rfl⟩ := hn.uniq h2 fun n => by rw [hm, h3]
    exact q h4 h5 x H' hx e hw
/-- x == y, x != y -/
theorem WF.uniq {bl rl bl' rl' : List Bool} (h1 : Nm bl rl) (h1' : Nm bl' rl') (e : ∀ n, mem bl rl n = f n) (e' : ∀ n, mem bl' rl' n = g n) : ((decide (bl = bl') && decide (rl = rl')) = true ↔ ∀ n, f n = g n) := by
  constructor
  · intro h n
    rw [Bool.and_eq_true] at h
    rw [← e, ← e', of_decide_eq_true h.1, of_decide_eq_true h.2]
  · intro h
    obtain ⟨rfl, rfl⟩ := h1.uniq h1' fun n => by rw [e, e', h]
    simp
theorem u_ownW {neg : Bool} {r : Bool} (hy : ∀ H x bl rl, IsW K H x C bl rl → TyX K H (.ref x) (.ref C)) (h : WF K H x C f) (h' : WF K H y C g) (hr : r = true ↔ ∀ n, f n = g n) (q : Q (.bl (if neg then !r else r)) H) : rOwn K C (spEqW K C) E neg (.ref x) (.ref y) H Q := by
  obtain ⟨bl, rl, hw, hn, hm⟩ := h
  obtain ⟨bl', rl', hw', hn', hm'⟩ := h'
  obtain ⟨dx, t1, t2, h1, h2⟩ := id hw
  refine ⟨x, dx, _, .ref C, rfl, h1, hy _ _ _ _ hw', by unfold PySem.W.notFirst; simp, x, .ref y, bl, rl, rfl, hw, .inl ⟨y, bl', rl', rfl, hw', _, rfl, ?_⟩⟩
  have e : (decide (bl = bl') && decide (rl = rl')) = r := by
    have := WF.uniq hn hn' hm hm'
    rw [← hr] at this
    cases r with
    | true => exact this.mpr rfl
    | false => cases h : (decide (bl = bl') && decide (rl = rl')) with
      | true => exact absurd (this.mp h) (by decide)
      | false => rfl
  rw [e]
  exact q
theorem u_ownWe {neg : Bool} (hy : ∀ H x bl rl, IsW K H x C bl rl → TyX K H (.ref x) (.ref C)) (h : WF K H x C f) (h' : WF K H y C g) (e : ∀ n, f n = g n) (q : Q (.bl (!neg)) H) : rOwn K C (spEqW K C) E neg (.ref x) (.ref y) H Q :=
  u_ownW (r := true) hy h h' ⟨fun _ => e, fun _ => rfl⟩ (by cases neg <;> exact q)
theorem u_ownWn {neg : Bool} (hy : ∀ H x bl rl, IsW K H x C bl rl → TyX K H (.ref x) (.ref C)) (h : WF K H x C f) (h' : WF K H y C g) {n : Nat} (e : f n ≠ g n) (q : Q (.bl neg) H) : rOwn K C (spEqW K C) E neg (.ref x) (.ref y) H Q :=
  u_ownW (r := false) hy h h' ⟨fun z => (nomatch z), fun z => absurd (z n) e⟩ (by cases neg <;> exact q)
theorem u_ownWo {neg : Bool} {v : V} {t : Value} (hk : PySem.W.kitOne K t (.ref C) = some false) (hn : PySem.W.notFirst K C t = true) (h : WF K H x C f) (h' : TyX K H v t) (q : Q (.bl neg) H) : rOwn K C (spEqW K C) E neg (.ref x) v H Q := by
  obtain ⟨bl, rl, hw, _⟩ := h
  obtain ⟨dx, t1, t2, h1, h2⟩ := id hw
  refine ⟨x, dx, _, t, rfl, h1, h', hn, x, v, bl, rl, rfl, hw, .inr ⟨t, h', hk, false, rfl, ?_⟩⟩
  cases neg <;> exact q
/-- (i, j) != (k, l) -/
theorem u_neII {i j k l : Int} (h : SqT K H a [.int i, .int j]) (h' : SqT K H b [.int k, .int l]) (q : Q (.bl (!(decide (i = k) && decide (j = l)))) H) : rNeD K (.ref a) (.ref b) H Q :=
  ⟨_, _, .tup h (.cons (.int i) (.cons (.int j) .nil)), .tup h' (.cons (.int k) (.cons (.int l) .nil)), by simp [SeqAt.shaped, PyData.canLay0, PyData.canLayAll0, PyData.depth, PyData.depthAll], by simp [SeqAt.shaped, PyData.canLay0, PyData.canLayAll0, PyData.depth, PyData.depthAll], by
    have e : PyData.eqv (.tuple [.int i, .int j]) (.tuple [.int k, .int l]) = (decide (i = k) && decide (j = l)) := by
      simp only [PyData.eqv, PyData.eqvAll, Bool.and_true]
      rfl
    rw [e]; exact q⟩
end
/-! the law's hands -/
section
variable {P : Program} {w : World} {K : PySem.W.Frag} {mg : Str → Option Value} {base : Heap}
/-- no object but a dict lay at a -/
def Fr (H : Hp) (a : Addr) : Prop := ∀ o, H a = some o → ∃ kvs, o = .dK kvs
theorem Fr.of {H : Hp} {a : Addr} (h : H a = none) : Fr H a := fun o z => by rw [h] at z; cases z
theorem Fr.d {H H' : Hp} {a : Addr} (e : SameD H H') (h : Fr H' a) : Fr H a := fun o z => by
  apply Classical.byContradiction
  intro hn
  obtain ⟨kvs, rfl⟩ := h o (e a o z fun kvs hk => hn ⟨kvs, hk⟩)
  exact hn ⟨kvs, rfl⟩
theorem Fr.ne {H : Hp} {a D : Addr} {xs : List V} (h : Fr H a) (hD : H D = some (.lst xs)) : a ≠ D := fun z => by
  subst z
  obtain ⟨kvs, e⟩ := h _ hD
  cases e
/-- a row of drawn truths -/
def spTruths : Sp := fun vs H Q _ => ∃ (p c : Addr) (many n : Nat), vs = [.ref p, .int many] ∧ Pen H p c n ∧ n + 3000 < 2 ^ 40 ∧ many ≤ 1000 ∧ ∀ l (bs : List Bool) H', Fr H l → SameD H H' → Pen H' p c (n + many + 3) → H' l = some (.lst (bs.map V.bl)) → bs.length = many → Q (.ref l) H'
theorem bset {bs : List Bool} {j : Nat} {b : Bool} : (bs.map V.bl).set j (V.bl b) = (bs.set j b).map V.bl := by rw [List.map_set]
theorem sc__law_truths : FnScope ["pen", "many", "way", "truth", "k", "found"] ["pen", "many"] (defScope (topS 27)) := ⟨rfl, rfl, rfl, by decide +kernel, rfl, by decide +kernel, by decide +kernel⟩
theorem ok__law_truths (B : Bn mg) (G__law_draw : CallF P w K mg base "_law_draw" ["pen", "many"] 2 spDraw) {f : Addr} {fd : FuncData} (F : Fun K "_law_truths" "_law_truths" (topS 27) f fd) : FnOk P w K mg base (L2.CX P w) 3 f fd ["pen", "many"] spTruths := by
  have nd := sc__law_truths.nd
  refine F.okX sc__law_truths (fun vs H Q E h => ?_) (fun cdv A outer s H vs Q E hr h => ?_)
  · obtain ⟨p, c, many, n, rfl, _⟩ := h
    rfl
  · refine ⟨_, (pss_cons (ps_asg (pe_tup (pa_cons (pe_callF G__law_draw (hr.mono (by decide)) rfl passL (pa_cons (pv 0) (pa_cons pe_int pa_nil))) (pa_cons (pe_cmpR op_eq (pe_callF G__law_draw (hr.mono (by decide)) rfl passL (pa_cons (pv 0) (pa_cons pe_int pa_nil))) pe_int (nomark _)) pa_nil))) (pg_tupK (K := K) (n := 2) rfl rfl (pgs_cons (pg_name (i := 2) nd rfl (.inr rfl)) (pgs_cons (pg_name (i := 3) nd rfl (.inr rfl)) pgs_nil))))
      (pss_cons (ps_setLc (i := 5) (own := [("k", 4)]) (g := gName 4) (tt := tYes) rfl nd rfl rfl (sw_true rfl rfl rfl (by decide +kernel)) (pi_range1 rfl B.range (pa_cons (pv 1) pa_nil)) (blkOk_by (N := ["pen", "many", "way", "truth", "k", "found"]) (sc := defScope (topS 27)) (by decide +kernel)) (fun _ _ _ _ _ => (pg_name (i := 4) nd rfl (.inl rfl))) (fun _ _ _ _ _ => pts_nil) (fun _ _ _ _ _ => (pe_ifExp (pt_cmpR op_lt (pv 2) pe_int (nomark _)) (pe_cmpR op_eq (pe_callF G__law_draw (hr.mono (by decide)) rfl passL (pa_cons (pv 0) (pa_cons pe_int pa_nil))) pe_int (nomark _)) (pv 3))))
      (pss_cons (ps_if (PW.pt (pw_and (pt_cmpR op_eq (pv 2) pe_int (nomark _)) (pw_and1 (pt_cmpR op_gt (pv 1) pe_int (nomark _))))) (pss_one (ps_asg (pe_not (pv 3)) (pg_sub (pv 5) (pe_callF G__law_draw (hr.mono (by decide)) rfl passL (pa_cons (pv 0) (pa_cons (pv 1) pa_nil))) set_list))) pss_nil)
      (pss_one (ps_ret (pv 5)))))), ?_⟩
    obtain ⟨p, c, many, n, rfl, hp, hn, hm, q⟩ := h
    refine g_st (σ' := [some (.ref p), some (.int many), none, none, none, none]) rfl ?_
    walk_at "gos"
    refine ⟨p, c, _, n, rfl, hp, by omega, by decide, by decide, fun way H1 _ _ e1 hp1 => ?_⟩
    walk_at "gos"
    refine ⟨p, c, _, _, rfl, hp1, by omega, by decide, by decide, fun r2 H2 _ _ e2 hp2 => ?_⟩
    walk_at "gos"
    generalize (decide (r2 = 0)) = truth
    (walk_at "new"; rename_i t _ H3 e3 h3; walk_at "gos")
    walk_at "gos"
    refine u_rng (by omega) (by omega) fun D hD => ?_
    refine lc_it walk_range (fun i H' => SameD H3 H' ∧ Pen H' p c (n + 2 + i) ∧ ∃ bs : List Bool, H' D = some (.lst (bs.map V.bl)) ∧ bs.length = i) ?_ (fun _ _ _ _ => trivial) (fun i x H4 H5 hi q2 y => ?_) (fun H4 q2 => ?_)
    · exact ⟨(same_new hD).d, (hp2.same e3).same (same_new hD), [], upd_same, rfl⟩
    · obtain ⟨e4, hp4, bs, hbs, hbl⟩ := q2
      obtain ⟨rfl, rfl⟩ := y
      have hpD := (hp2.same e3).ne hD
      have step : ∀ b H6, SameD H5 H6 → Pen H6 p c (n + 2 + i + 1) → ∃ acc, H6 D = some (.lst acc) ∧ acc.length < sizeLine ∧ (SameD H3 (upd H6 D (.lst (acc ++ [V.bl b]))) ∧ Pen (upd H6 D (.lst (acc ++ [V.bl b]))) p c (n + 2 + (i + 1)) ∧ ∃ bs : List Bool, (upd H6 D (.lst (acc ++ [V.bl b]))) D = some (.lst (bs.map V.bl)) ∧ bs.length = i + 1) := fun b H6 e6 hp6 =>
        ⟨_, e6.lst hbs, by rw [sizeLine_eq, List.length_map]; omega, SameD.mut (e4.trans e6) hD, (hp6.mono (by omega)).upd hpD.1 hpD.2, bs ++ [b], by rw [upd_same, List.map_append]; rfl, by rw [List.length_append, hbl]; rfl⟩
      walk_at "gos"
      refine ⟨rfl, ?_⟩
      walk_at "gos"
      refine g_itd (fun hw => ?_) (fun hw => ?_)
      · walk_at "gos"
        refine ⟨p, c, _, _, rfl, hp4, by omega, by decide, by decide, fun r5 H6 _ _ e6 hp6 => ?_⟩
        walk_at "gos"
        exact step _ H6 e6 hp6
      · walk_at "gos"
        exact step truth H5 (SameD.refl _) (hp4.mono (by omega))
    · obtain ⟨e4, hp4, bs, hbs, hbl⟩ := q2
      have e04 : SameD H H4 := e1.trans (e2.trans (e3.d.trans e4))
      have hfr : Fr H D := (Fr.of hD).d (e1.trans (e2.trans e3.d))
      have q1 : ∀ (l : List Bool) H', SameD H4 H' → H' D = some (.lst (l.map V.bl)) → Pen H' p c (n + many + 3) → l.length = many → Q (.ref D) H' := fun l H' e' hl hp' hlen => q D l H' hfr (e04.trans e') hp' hl hlen
      rw [Int.toNat_natCast] at hp4 hbl
      walk_at "gos"
      by_cases hw : way = 3
      · rw [if_pos (decide_eq_true hw)]
        walk_at "gos"
        by_cases hm0 : 0 < many
        · rw [if_pos (decide_eq_true (by omega))]
          walk_at "gos"
          refine ⟨p, c, _, _, rfl, hp4, by omega, by omega, by omega, fun j H6 h0 h1 e6 hp6 => ?_⟩
          obtain ⟨j, rfl⟩ := Int.eq_ofNat_of_zero_le h0
          refine u_setL (e6.lst hbs) (by rw [List.length_map]; omega) ?_
          walk_at "gos"
          rw [bset]
          have hpD := (hp2.same e3).ne hD
          refine q D (bs.set j (!truth)) _ hfr ?_ ((hp6.mono (by omega)).upd hpD.1 hpD.2) upd_same (by rw [List.length_set]; exact hbl)
          exact (e1.trans (e2.trans e3.d)).trans (SameD.mut (e4.trans e6) hD)
        · rw [if_neg (by rw [decide_eq_true_iff]; omega)]
          walk_at "gos"
          exact q1 bs H4 (SameD.refl _) hbs (hp4.mono (by omega)) hbl
      · rw [if_neg (by rw [decide_eq_true_iff]; exact hw)]
        walk_at "gos"
        exact q1 bs H4 (SameD.refl _) hbs (hp4.mono (by omega)) hbl
theorem WF.updL {K : PySem.W.Frag} {H : Hp} {x C l : Addr} {f : Nat → Bool} {xs : List V} {o : HO} (hl : H l = some (.lst xs)) : WF K H x C f → WF K (upd H l o) x C f := fun ⟨bl, rl, ⟨dx, t1, t2, h1, h2, h3⟩, hn⟩ => by
  have ht : ∀ {t ys}, SqT K H t ys → SqT K (upd H l o) t ys := fun {t ys} h => by
    rcases h with (h | ⟨u, h⟩) | h
    · exact .inl (.inl (by rw [upd_ne (fun z => by rw [z, hl] at h; cases h)]; exact h))
    · exact .inl (.inr ⟨u, by rw [upd_ne (fun z => by rw [z, hl] at h; cases h)]; exact h⟩)
    · exact .inr h
  exact ⟨bl, rl, ⟨dx, t1, t2, by rw [upd_ne (fun z => by rw [z, hl] at h1; cases h1)]; exact h1, ht h2, ht h3⟩, hn⟩
theorem Same.none {H H' : Hp} {l : Addr} (e : Same H H') (h : H' l = none) : H l = none := by
  cases q : H l with
  | none => rfl
  | some o => rw [e l o q] at h; cases h
/-- (tag, i) != (tag, i) -/
theorem u_neTag {K : PySem.W.Frag} {H : Hp} {a b : Addr} {x : Str} {i : Int} {Q : VK} (hx : PyData.canLay0 (.str x) = true) (h : H a = some (.tup [.str x, .int i])) (h' : H b = some (.tup [.str x, .int i])) (q : Q (.bl false) H) : rNeD K (.ref a) (.ref b) H Q :=
  u_neD (b := true) (.tup (sqT h) (.cons (.str _) (.cons (.int _) .nil))) (.tup (sqT h') (.cons (.str _) (.cons (.int _) .nil))) (shaped_tag hx rfl (Nat.zero_le 3)) (shaped_tag hx rfl (Nat.zero_le 3)) (by simp [PyData.eqv, PyData.eqvAll]) q
theorem u_neNon {K : PySem.W.Frag} {H : Hp} {Q : VK} (q : Q (.bl false) H) : rNeD K .non .non H Q := u_neD (b := true) .non .non (by decide) (by decide) (by simp [PyData.eqv]) q
/-- a drawn model: truths below, truths by rests -/
def IsM (H : Hp) (m : Addr) (B R : List Bool) : Prop := ∃ a b, H m = some (.tup [.ref a, .ref b]) ∧ H a = some (.lst (B.map V.bl)) ∧ H b = some (.lst (R.map V.bl))
theorem IsM.l {H H' : Hp} {m : Addr} {B R : List Bool} (e : SameL H H') : IsM H m B R → IsM H' m B R := fun ⟨a, b, h1, h2, h3⟩ => ⟨a, b, e.tupA h1, e.lst h2, e.lst h3⟩
def spModel (K : PySem.W.Frag) : Sp := fun vs H Q _ => ∃ (p c pl : Addr) (most n : Nat) (ps : List Int), vs = [.ref p, .int most, .ref pl] ∧ Pen H p c n ∧ n + 10000 < 2 ^ 40 ∧ most ≤ 900 ∧ SqL K H pl (ps.map V.int) ∧ ps ≠ [] ∧ ps.length < 1000 ∧ (∀ z, z ∈ ps → 1 ≤ z ∧ z ≤ 720) ∧
  ∀ m (B R : List Bool) H', (∃ a b, H' m = some (.tup [.ref a, .ref b]) ∧ Fr H a ∧ Fr H b) → SameD H H' → Pen H' p c (n + most + 1000) → IsM H' m B R → B.length ≤ most → (∃ z, z ∈ ps ∧ z = (R.length : Nat)) → Q (.ref m) H'
theorem sc__law_model : FnScope ["pen", "most", "periods"] ["pen", "most", "periods"] (defScope (topS 28)) := ⟨rfl, rfl, rfl, by decide +kernel, rfl, by decide +kernel, by decide +kernel⟩
theorem ok__law_model (B : Bn mg) (G__law_draw : CallF P w K mg base "_law_draw" ["pen", "many"] 2 spDraw) (G__law_pick : CallF P w K mg base "_law_pick" ["pen", "some"] 3 (spPick K)) (G__law_truths : CallF P w K mg base "_law_truths" ["pen", "many"] 3 spTruths) {f : Addr} {fd : FuncData} (F : Fun K "_law_model" "_law_model" (topS 28) f fd) : FnOk P w K mg base (L2.CX P w) 5 f fd ["pen", "most", "periods"] (spModel K) := by
  have nd := sc__law_model.nd
  refine F.okX sc__law_model (fun vs H Q E h => ?_) (fun cdv A outer s H vs Q E hr h => ?_)
  · obtain ⟨p, c, pl, most, n, ps, rfl, _⟩ := h
    rfl
  · refine ⟨_, (pss_one (ps_ret (pe_tup (pa_cons (pe_callF G__law_truths (hr.mono (by decide)) rfl passL (pa_cons (pv 0) (pa_cons (pe_callF G__law_draw (hr.mono (by decide)) rfl passL (pa_cons (pv 0) (pa_cons (pe_op op_add (pv 1) pe_int) pa_nil))) pa_nil))) (pa_cons (pe_callF G__law_truths (hr.mono (by decide)) rfl passL (pa_cons (pv 0) (pa_cons (pe_callF G__law_pick (hr.mono (by decide)) rfl passL (pa_cons (pv 0) (pa_cons (pv 2) pa_nil))) pa_nil))) pa_nil))))), ?_⟩
    obtain ⟨p, c, pl, most, n, ps, rfl, hp, hn, hm, hpl, hne, hlen, hps, q⟩ := h
    refine g_st (σ' := [some (.ref p), some (.int most), some (.ref pl)]) rfl ?_
    walk_at "gos"
    refine ⟨p, c, _, n, rfl, hp, by omega, by omega, by omega, fun r H1 h0 h1 e1 hp1 => ?_⟩
    obtain ⟨j, rfl⟩ := Int.eq_ofNat_of_zero_le h0
    walk_at "gos"
    refine ⟨p, c, j, _, rfl, hp1, by omega, by omega, fun l1 B1 H2 f1 e2 hp2 hl1 hb1 => ?_⟩
    walk_at "gos"
    refine ⟨p, c, pl, _, _, rfl, hp2, by omega, e2.seq (e1.seq hpl), by simpa using hne, by rw [List.length_map]; omega, fun i v H3 hv e3 hp3 => ?_⟩
    rw [List.getElem?_map] at hv
    obtain ⟨z, hz, rfl⟩ := Option.map_eq_some_iff.mp hv
    have hzm := List.mem_of_getElem? hz
    obtain ⟨k, rfl⟩ := Int.eq_ofNat_of_zero_le (show 0 ≤ z by have := hps z hzm; omega)
    have hk := hps _ hzm
    walk_at "gos"
    refine ⟨p, c, k, _, rfl, hp3, by omega, by omega, fun l2 B2 H4 f2 e4 hp4 hl2 hb2 => ?_⟩
    walk_at "gos"
    (walk_at "new"; rename_i t _ H5 e5 h5; walk_at "gos")
    refine q t B1 B2 H5 ⟨l1, l2, h5, f1.d e1, f2.d (e1.trans (e2.trans e3))⟩ (e1.trans (e2.trans (e3.trans (e4.trans e5.d)))) ((hp4.same e5).mono (by omega)) ⟨l1, l2, h5, e5 _ _ (e4.lst (e3.lst hl1)), e5 _ _ hl2⟩ (by omega) ⟨_, hzm, by rw [hb2]⟩
/-- the truth of a model at n -/
def spTruthM : Sp := fun vs H Q _ => ∃ (m : Addr) (n : Nat) (B R : List Bool), vs = [.ref m, .int n] ∧ IsM H m B R ∧ 0 < R.length ∧ Q (.bl (mem B R n)) H
theorem sc__law_truth : FnScope ["model", "n", "below", "rests"] ["model", "n"] (defScope (topS 29)) := ⟨rfl, rfl, rfl, by decide +kernel, rfl, by decide +kernel, by decide +kernel⟩
theorem ok__law_truth (B : Bn mg) {f : Addr} {fd : FuncData} (F : Fun K "_law_truth" "_law_truth" (topS 29) f fd) : FnOk P w K mg base (L2.CX P w) 1 f fd ["model", "n"] spTruthM := by
  have nd := sc__law_truth.nd
  refine F.okX sc__law_truth (fun vs H Q E h => ?_) (fun cdv A outer s H vs Q E hr h => ?_)
  · obtain ⟨m, n, B1, R, rfl, _⟩ := h
    rfl
  · refine ⟨_, (pss_cons (ps_asg (pv 0) (pg_tupK (K := K) (n := 2) rfl rfl (pgs_cons (pg_name (i := 2) nd rfl (.inl rfl)) (pgs_cons (pg_name (i := 3) nd rfl (.inl rfl)) pgs_nil))))
      (pss_one (ps_ret (pe_ifExp (pt_cmpR op_lt (pv 1) (pe_callB (call_lnK (K := K) rfl) (by rfl) B.len_ (by decide +kernel) (pa_cons (pv 2) pa_nil)) (nomark _)) (pe_ix (ix_listK (K := K) rfl) (pv 2) (pv 1) (fun _ _ => rfl)) (pe_ix (ix_listK (K := K) rfl) (pv 3) (pe_op op_modN (pe_callTy call_in1 (by rfl) B.int_ (by decide +kernel) (pa_cons (pv 1) pa_nil)) (pe_callB (call_lnK (K := K) rfl) (by rfl) B.len_ (by decide +kernel) (pa_cons (pv 3) pa_nil))) (fun _ _ => rfl)))))), ?_⟩
    obtain ⟨m, n, B1, R, rfl, ⟨a, b, hm, ha, hb⟩, hR, q⟩ := h
    refine g_st (σ' := [some (.ref m), some (.int n), none, none]) rfl ?_
    walk_at "gos"
    refine u_lenL (sqL ha) ?_
    rw [List.length_map]
    walk_at "gos"
    unfold mem at q
    by_cases h : n < B1.length
    · rw [if_pos (decide_eq_true (by omega))]
      rw [if_pos h] at q
      walk_at "gos"
      exact u_ixL (sqL ha) (atI_nat (atB h)) q
    · rw [if_neg (by rw [decide_eq_true_iff]; omega)]
      rw [if_neg h] at q
      walk_at "gos"
      refine u_lenL (sqL hb) ?_
      rw [List.length_map]
      walk_at "gos"
      refine g_I (by omega) ?_
      rw [fmod_nat]
      exact u_ixL (sqL hb) (atI_nat (atB (Nat.mod_lt _ hR))) q
end
end Ev

end
/-! C.m(..) where m is a classmethod; cls(..) in its body. -/
namespace L2
open PySem PySem.Spec PyProof.Rows StX
theorem fnR_of {P : Program} {w : World} {K : PySem.W.Frag} {mg : Str → Option Value} {base : Heap} {k : Nat} {f : Addr} {fd : FuncData} {ps : List Str} {sp : Sp} (F : FnOk P w K mg base (L2.CX P w) k f fd ps sp) (hb : Binds K fd ps []) : FnR P w K mg base (L2.CX P w) k f sp :=
  (F.raw hb .nil).imp fun vs H Q E h => by
    show sp (vs ++ []) H Q E
    rw [List.append_nil]
    exact h
/-- the i-th slot holds the class at C -/
def tMakeL (i : Nat) (C : Addr) (sp : Sp) (E : XK) (t : TA) : TE := fun σ H Q => σ[i]? = some (some (.ref C)) ∧ t σ H fun vs H1 => sp vs H1 Q E
/-- the classmethod m of the class at C -/
structure ClsF (P : Program) (w : World) (K : PySem.W.Frag) (mg : Str → Option Value) (base : Heap) (C : Addr) (m : Str) (k : Nat) (sp : Sp) : Prop where
  ex : ∃ mc p g, ClX.CRead K C mc ∧ ClX.CMet K C mc m p g ∧ FnR P w K mg base (L2.CX P w) k g sp
section
variable {X : Cx} {x y m : Str} {C : Addr} {k i : Nat} {sp : Sp} {E : XK} {e o : Expr} {es : List Expr} {t : TA} {ta : TE} {p pos apos : Pos}
theorem pe_makeL (G : MakeF X.prog X.w X.K X.mg X.base y C k sp) (hr : Room (k + 1) X.A) (hN : X.N[i]? = some x) (hv : Vis X.env.scope x) (hx : Passes (L2.CX X.prog X.w) X E) (ha : PA X (e :: es) t)
    (hdb : (x == ("__debug__" : Str)) = false := by decide) (hcd : (x == ("__classdict__" : Str)) = false := by decide)
    (he : starEach (e :: es) X.env = (false, eval e X.env) :: starEach es X.env := by rfl) (hpl : (backTo pos (starEach es X.env)).any (·.1) = false := by rfl) : PE X (.Call (.Name x p) (e :: es) [] pos) (tMakeL i C sp E t) := by
  obtain ⟨f, fd, ps, sp0, dvs, ds, F, M, h1, h2, h3, h4⟩ := G.ex
  refine ⟨fun pins s σ H Q I h => ?_⟩
  obtain ⟨hs, ht⟩ := h
  refine wpAny_Call_Name_kw (thn ((pe_var (pos := p) hN hv hdb hcd).run pins s σ H (fun v H1 => v = .ref C ∧ H1 = H) I ⟨.ref C, hs, rfl, rfl⟩) fun u s1 ⟨v, H1, I1, r1, q1⟩ => ?_)
  obtain ⟨rfl, rfl⟩ := q1
  cases r1
  refine PySem.W.callWith_K (h₀ := X.base) I1.ok.mod.kin M.kp (thn (ha.run pos pins s1 σ _ _ I1 ht) fun us s2 ⟨vs, H2, I2, r, q⟩ => ⟨I2.kIn, ?_⟩) he hpl
  exact run_make M F hr h2 h3 hx I2 r (h4 _ _ _ _ q)
theorem pe_clsF {pl : Sem Bool} (G : ClsF X.prog X.w X.K X.mg X.base C m k sp) (he : PE X o ta) (hr : Room k X.A) (hx : Passes (L2.CX X.prog X.w) X E) (ha : PA X (e :: es) t)
    (hst : starEach (e :: es) X.env = (false, eval e X.env) :: starEach es X.env := by rfl) (hpl : (backTo pos (starEach es X.env)).any (·.1) = false := by rfl)
    (ht : eval (.Call (.Attribute o m apos) (e :: es) [] pos) X.env = (do
      let ov ← eval o X.env
      standAt apos.atName
      let (f, first) ← holding [ov] (getMethod ov m pl)
      callWith pos f first (backTo pos (starEach (e :: es) X.env)) (backToKw pos (keywordEach [] X.env))) := by rfl) :
    PE X (.Call (.Attribute o m apos) (e :: es) [] pos) (ClX.tCMeth C sp E ta t) := by
  obtain ⟨mc, p, g, r, c, F⟩ := G.ex
  exact ClX.pe_cmeth he r c F hr hx ha hst hpl ht

theorem pa_starK {K : PySem.W.Frag} (h : X.K = K) (he : PE X e ta) (hr : PA X es t) (hs : starEach (.Starred e p :: es) X.env = (true, eval e X.env) :: starEach es X.env := by rfl) : PA X (.Starred e p :: es) (tStar K ta t) := h ▸ pa_star he hr hs

theorem StX.g_star {K : PySem.W.Frag} {te : TE} {t : TA} {σ : St} {H : Hp} {Q : List V → Hp → Prop} (q : te σ H fun x H1 => ∃ p xs, x = V.ref p ∧ (SqT K H1 p xs ∨ SqL K H1 p xs) ∧ t σ H1 fun ys H2 => Q (xs ++ ys) H2) : tStar K te t σ H Q := q
theorem op_inK {K : PySem.W.Frag} (h : X.K = K) : OpR X (compareOp .In) (rIn K false) := h ▸ op_in_seq
theorem op_notInK {K : PySem.W.Frag} (h : X.K = K) : OpR X (compareOp .NotIn) (rIn K true) := h ▸ op_notIn_seq
theorem g_cmeth {C : Addr} {ta : TE} {t : TA} {sp : Sp} {E : XK} {σ : St} {H : Hp} {Q : VK} (q : ta σ H fun x H1 => x = .ref C ∧ t σ H1 fun vs H2 => sp (.ref C :: vs) H2 Q E) : ClX.tCMeth C sp E ta t σ H Q := q
theorem g_makeL {C : Addr} {i : Nat} {t : TA} {sp : Sp} {E : XK} {σ : St} {H : Hp} {Q : VK} (hs : σ[i]? = some (some (.ref C))) (q : t σ H fun vs H1 => sp vs H1 Q E) : tMakeL i C sp E t σ H Q := ⟨hs, q⟩
theorem u_max {K : PySem.W.Frag} {a : Addr} {ns : List Int} {H : Hp} {Q : VK} (h : SqL K H a (ns.map V.int)) (h0 : 0 < ns.length) (q : ∀ m, m ∈ ns → (∀ y, y ∈ ns → y ≤ m) → Q (.int m) H) : rMax K [.ref a] H Q := ⟨a, ns, rfl, h, h0, q⟩
end
end L2

section
open L2 in
local macro_rules | `(tactic| walk_at "gx") => `(tactic| first
  | ((with_reducible show tVar _ _ _ _); refine g_var rfl ?_)
  | with_reducible refine g_c ?_
  | with_reducible refine g_op ?_
  | with_reducible refine g_cons ?_
  | with_reducible refine g_nil ?_
  | with_reducible refine g_test ?_
  | with_reducible refine g_blp ?_
  | with_reducible refine g_asg ?_
  | (with_reducible refine g_name ?_; (try simp only [List.set_cons_zero, List.set_cons_succ]))
  | with_reducible refine g_call ?_
  | with_reducible refine g_cb ?_
  | with_reducible refine g_I0 ?_
  | with_reducible refine g_U ?_
  | with_reducible refine g_eqI ?_
  | with_reducible refine g_neI ?_
  | with_reducible refine g_if ?_
  | with_reducible refine g_ret ?_
  | with_reducible refine g_retN ?_
  | with_reducible refine g_next ?_
  | with_reducible refine g_drop ?_
  | with_reducible refine g_un ?_
  | with_reducible refine g_tb ?_
  | with_reducible refine g_tup ?_
  | with_reducible refine g_lst ?_
  | with_reducible refine g_and ?_
  | with_reducible refine g_or ?_
  | with_reducible refine g_not ?_
  | with_reducible refine g_andV ?_
  | with_reducible refine g_orV ?_
  | with_reducible refine g_notV ?_
  | with_reducible refine g_ifE ?_
  | with_reducible refine g_fld ?_
  | with_reducible refine g_tt ?_
  | with_reducible refine g_ff ?_
  | with_reducible refine g_ntt ?_
  | with_reducible refine g_nff ?_
  | with_reducible refine g_for ?_
  | with_reducible refine g_list ?_
  | with_reducible refine g_tupI ?_
  | with_reducible refine g_rng1 ?_
  | with_reducible refine g_rng2 ?_
  | with_reducible refine g_enumA ?_
  | with_reducible refine g_rev ?_
  | with_reducible refine g_lc ?_
  | with_reducible refine g_gcons ?_
  | with_reducible refine g_gnil ?_
  | with_reducible refine g_yes ?_
  | with_reducible refine g_sl ?_
  | with_reducible refine g_nopart ?_
  | with_reducible refine g_part ?_
  | with_reducible refine g_int ?_
  | with_reducible refine g_dget ?_
  | with_reducible refine g_dput ?_
  | with_reducible refine g_raiseX ?_
  | with_reducible refine g_tru ?_
  | with_reducible refine g_sub ?_
  | with_reducible refine g_isN ?_
  | with_reducible refine g_notN ?_
  | with_reducible refine g_bm ?_
  | with_reducible refine L2.g_bm0 ?_
  | with_reducible refine g_pair ?_
  | with_reducible refine g_pair0 ?_
  | with_reducible refine u_int1 ?_
  | with_reducible refine g_chain ?_
  | with_reducible refine L2.g_sfld ?_
  | (with_reducible refine g_par3 ?_)
  | (with_reducible refine g_three ?_; (try simp only [List.set_cons_zero, List.set_cons_succ]))
  | ((with_reducible apply L2.g_tupT); walk_at "up"; rfl)
  | (with_reducible refine g_par ?_)
  | (with_reducible refine g_two ?_; (try simp only [List.set_cons_zero, List.set_cons_succ]))
  )
local macro_rules | `(tactic| walk_at "go") => `(tactic| first | walk_at "gx" | with_reducible refine L2.g_seq ?_)
local macro_rules | `(tactic| walk_at "gou") => `(tactic| repeat (walk_at "gx"))
local macro_rules | `(tactic| walk_at "gos") => `(tactic| repeat (walk_at "go"))
local macro_rules | `(tactic| walk_at "sl") => `(tactic| first
  | assumption
  | exact L2.Same.l (by assumption)
  | exact L2.SameD.l (by assumption)
  | exact L2.extN_l (by assumption))
local macro_rules | `(tactic| walk_at "up") => `(tactic| first
  | assumption
  | ((with_reducible apply L2.SameL.lst); walk_at "sl"; walk_at "up")
  | ((with_reducible apply L2.SameL.tupA); walk_at "sl"; walk_at "up")
  | ((with_reducible apply L2.SameL.ins); walk_at "sl"; walk_at "up")
  | ((with_reducible apply Ev.PB.l); walk_at "sl"; walk_at "up")
  | ((with_reducible apply Ev.IsP.l); walk_at "sl"; walk_at "up")
  | ((with_reducible apply L2.sqL); walk_at "up")
  | ((with_reducible apply L2.sqT); walk_at "up")
  | ((with_reducible apply L2.SameL.seq); walk_at "sl"; walk_at "up")
  | ((with_reducible apply Ev.Pen.same); assumption; walk_at "up")
  | ((with_reducible apply Ev.Pen.extN); assumption; walk_at "up")
  | ((with_reducible apply L2.tabs_s); assumption; walk_at "up")
  | ((with_reducible apply L2.tabs_dd); assumption; walk_at "up")
  | ((with_reducible apply Or.inl); walk_at "up")
  | ((with_reducible apply Or.inr); walk_at "up"))
local macro_rules | `(tactic| walk_at "new") => `(tactic| (
  first
    | refine ⟨L2.size_ok (by rfl), fun p hp => ?_⟩
    | refine fun p hp => ?_
  generalize hX : L2.upd _ p _ = H1
  obtain ⟨e, h⟩ := L2.news hp hX
  clear hX))
local macro_rules | `(tactic| walk_at "o") => `(tactic| first
  | ((with_reducible apply Ev.o_add); walk_at "up"; walk_at "up"; rfl; rfl; rfl)
  | ((with_reducible apply Ev.o_sub); walk_at "up"; walk_at "up"; rfl; rfl; rfl)
  | ((with_reducible apply Ev.o_mul); walk_at "up"; walk_at "up"; rfl; rfl; rfl)
  | ((with_reducible apply Ev.o_addI); walk_at "up"; assumption; rfl; rfl; rfl)
  | ((with_reducible apply Ev.o_subI); walk_at "up"; assumption; rfl; rfl; rfl)
  | ((with_reducible apply Ev.o_mulI); walk_at "up"; assumption; rfl; rfl; rfl)
  | ((with_reducible apply Ev.o_radd); walk_at "up"; assumption; rfl; rfl; rfl)
  | ((with_reducible apply Ev.o_rsub); walk_at "up"; assumption; rfl; rfl; rfl)
  | ((with_reducible apply Ev.o_rmul); walk_at "up"; assumption; rfl; rfl; rfl)
  | ((with_reducible apply Ev.o_neg); walk_at "up"; rfl; rfl; rfl))
local macro_rules | `(tactic| walk_at "eq") => `(tactic| ((with_reducible apply Ev.u_ownB); assumption; walk_at "up"; walk_at "up"; (focus (intro k; first | rfl | exact Pl.e_add | exact Pl.e_sub | exact Pl.e_mul | exact Pl.e_rsub | exact Pl.e_rsub2))))
local macro_rules | `(tactic| walk_at "isp") => `(tactic| (apply Ev.u_isB; walk_at "up"; walk_at "up"; rfl; rfl))

/-! Where.since, Where.rest, Where.of. -/
namespace Ev
open PySem PySem.Spec PyProof.Rows L2 Wp
/-- what is no place -/
def Np (K : PySem.W.Frag) (H : Hp) (v : V) : Prop := Kd K H v false ∨ ∃ i : Int, i < 0 ∧ v = .int i
theorem mem_since {n k : Nat} : mem (List.replicate n false) [true] k = decide (n ≤ k) := by
  unfold mem
  rw [List.length_replicate]
  by_cases h : k < n
  · rw [if_pos h, bt_in (by rw [List.length_replicate]; exact h), List.getElem_replicate, decide_eq_false (by omega)]
  · rw [if_neg h, decide_eq_true (by omega)]
    simp [bt, Nat.mod_one]
theorem mem_rest {m r k : Nat} (h : 0 < m) : mem [] ((List.range m).map fun i => decide (i = r)) k = decide (k % m = r) := by
  unfold mem
  rw [if_neg (show ¬ k < ([] : List Bool).length from Nat.not_lt_zero k), List.length_map, List.length_range, bt_in (by rw [List.length_map, List.length_range]; exact Nat.mod_lt _ h), List.getElem_map, List.getElem_range]
section
variable {P : Program} {w : World} {K : PySem.W.Frag} {mg : Str → Option Value} {base : Heap}
def spPlace (K : PySem.W.Frag) : Sp := fun vs H Q _ => ∃ x, vs = [x] ∧ ((∃ i : Int, x = .int i ∧ 0 ≤ i ∧ Q (.bl true) H) ∨ (Np K H x ∧ Q (.bl false) H))
theorem sc_is_place : FnScope ["value"] ["value"] (defScope (topS 11)) := ⟨rfl, rfl, rfl, by decide +kernel, rfl, by decide +kernel, by decide +kernel⟩
theorem ok_is_place (B : Bn mg) (G_is_integer : CallF P w K mg base "is_integer" ["value"] 1 (spIsInteger K)) {f : Addr} {fd : FuncData} (F : Fun K "is_place" "is_place" (topS 11) f fd) : FnOk P w K mg base (L2.CX P w) 2 f fd ["value"] (spPlace K) := by
  have nd := sc_is_place.nd
  refine F.okX sc_is_place (fun vs H Q E h => ?_) (fun cdv A outer s H vs Q E hr h => ?_)
  · obtain ⟨x, rfl, _⟩ := h
    rfl
  · refine ⟨_, (pss_one (ps_ret (pe_and (pe_callF G_is_integer (hr.mono (by decide)) rfl passL (pa_cons (pv 0) pa_nil)) (pe_one (pe_cmpR op_ge (pv 0) pe_int (nomark _)))))), ?_⟩
    obtain ⟨x, rfl, q⟩ := h
    refine g_st (σ' := [some x]) rfl ?_
    walk_at "gos"
    rcases q with ⟨i, rfl, hi, q⟩ | ⟨hk | ⟨i, hi, rfl⟩, q⟩
    · refine ⟨_, _, rfl, Kd.int, ?_⟩
      walk_at "gos"
      rw [decide_eq_true (by omega)]
      exact q
    · refine ⟨_, _, rfl, hk, ?_⟩
      walk_at "gos"
      exact q
    · refine ⟨_, _, rfl, Kd.int, ?_⟩
      walk_at "gos"
      rw [decide_eq_false (by omega)]
      exact q
/-- what a maker gives -/
def spSince (K : PySem.W.Frag) (C CP CL : Addr) : Sp := fun vs H Q E => ∃ low : V, vs = [.ref C, low] ∧
  ((∃ n : Nat, low = .int n ∧ n ≤ 10000 ∧ ∀ x H', H x = none → Same H H' → WF K H' x C (fun k => decide (n ≤ k)) → Q (.ref x) H') ∨
   (∃ n : Nat, low = .int n ∧ 10000 < n ∧ ExcR (Same H) CL "most" (.int 10000) E) ∨
   (Np K H low ∧ ExcR (Same H) CP "n" low E))
def spRest (K : PySem.W.Frag) (C CN CF : Addr) : Sp := fun vs H Q E => ∃ m r : V, vs = [.ref C, m, r] ∧
  ((∃ a b : Nat, m = .int a ∧ r = .int b ∧ b < a ∧ a ≤ 720 ∧ ∀ x H', H x = none → Same H H' → WF K H' x C (fun k => decide (k % a = b)) → Q (.ref x) H') ∨
   (∃ a b : Nat, m = .int a ∧ r = .int b ∧ b < a ∧ 720 < a ∧ ExcR (Same H) CF "most" (.int 720) E) ∨
   ((Kd K H m false ∨ ∃ i : Int, i < 1 ∧ m = .int i) ∧ ExcR (Same H) CN "number" m E) ∨
   (∃ a : Nat, 0 < a ∧ m = .int a ∧ (Np K H r ∨ ∃ b : Nat, a ≤ b ∧ r = .int b) ∧ ExcR (Same H) CN "number" r E))
theorem sc_Where_rest : FnScope ["cls", "m", "r", "k"] ["cls", "m", "r"] (defScope (inClass (topS 19) 3)) := ⟨rfl, rfl, rfl, by decide +kernel, rfl, by decide +kernel, by decide +kernel⟩
theorem ok_Where_rest {C CN CT CF CL : Addr} {tk1 : Tok} (B : Bn mg) (c_MOST_PERIOD : mg "MOST_PERIOD" = some (.int 720 tk1)) (X_BadNumber : ExT P K mg "BadNumber" CN ["number"]) (X_TooFine : ExT P K mg "TooFine" CF ["most"])
    (G_is_integer : CallF P w K mg base "is_integer" ["value"] 1 (spIsInteger K)) (G_is_place : CallF P w K mg base "is_place" ["value"] 2 (spPlace K)) (M_Where : MakeF P w K mg base "Where" C 5 (spWhere K C CT CF CL))
    {f : Addr} {fd : FuncData} (F : Fun K "rest" "Where.rest" (inClass (topS 19) 3) f fd) : FnOk P w K mg base (L2.CX P w) 7 f fd ["cls", "m", "r"] (spRest K C CN CF) := by
  have nd := sc_Where_rest.nd
  refine F.okX sc_Where_rest (fun vs H Q E h => ?_) (fun cdv A outer s H vs Q E hr h => ?_)
  · obtain ⟨m, r, rfl, _⟩ := h
    rfl
  · refine ⟨_, (pss_cons (ps_if (PW.pt (pw_or (pt_not (pt_val (pe_callF G_is_integer (hr.mono (by decide)) rfl passL (pa_cons (pv 1) pa_nil)))) (pw_or1 (pt_cmpR op_lt (pv 1) pe_int (nomark _))))) (pss_one (ps_raiseX rfl X_BadNumber hr (takes_of rfl rfl rfl rfl) (pa_cons (pv 1) pa_nil))) pss_nil)
      (pss_cons (ps_if (PW.pt (pw_or (pt_not (pt_val (pe_callF G_is_place (hr.mono (by decide)) rfl passL (pa_cons (pv 2) pa_nil)))) (pw_or1 (pt_cmpR op_ge (pv 2) (pv 1) (nomark _))))) (pss_one (ps_raiseX rfl X_BadNumber hr (takes_of rfl rfl rfl rfl) (pa_cons (pv 2) pa_nil))) pss_nil)
      (pss_cons (ps_if (pt_cmpR op_gt (pv 1) (pe_globI rfl c_MOST_PERIOD) (nomark _)) (pss_one (ps_raiseX rfl X_TooFine hr (takes_of rfl rfl rfl rfl) (pa_cons (pe_globI rfl c_MOST_PERIOD) pa_nil))) pss_nil)
      (pss_one (ps_ret (pe_makeL (i := 0) M_Where (hr.mono (by decide)) rfl (.inl rfl) (passes_call (takes_of rfl rfl rfl rfl) (fun _ _ _ _ h => h)) (pa_cons (pe_tup pa_nil) (pa_cons (pe_lc (own := [("k", 3)]) (g := gName 3) (tt := tYes) rfl nd (pi_range1 rfl B.range (pa_cons (pv 1) pa_nil)) (blkOk_by (N := ["cls", "m", "r", "k"]) (sc := defScope (inClass (topS 19) 3)) (by decide +kernel)) (fun _ _ _ _ _ => (pg_name (i := 3) nd rfl (.inl rfl))) (fun _ _ _ _ _ => pts_nil) (fun _ _ _ _ _ => (pe_cmpR op_eq (pv 3) (pv 2) (nomark _)))) pa_nil)))))))), ?_⟩
    obtain ⟨m, r, rfl, q⟩ := h
    refine g_st (σ' := [some (.ref C), some m, some r, none]) rfl ?_
    walk_at "gos"
    rcases q with ⟨a, b, rfl, rfl, hab, ha, q⟩ | ⟨a, b, rfl, rfl, hab, ha, q⟩ | ⟨hk | ⟨i, hi, rfl⟩, q⟩ | ⟨a, ha, rfl, hk, q⟩
    · refine ⟨_, _, rfl, Kd.int, ?_⟩
      walk_at "gos"
      rw [if_neg (by rw [decide_eq_true_iff]; omega)]
      walk_at "gos"
      refine ⟨_, rfl, .inl ⟨_, rfl, by omega, ?_⟩⟩
      walk_at "gos"
      rw [if_neg (by rw [decide_eq_true_iff]; omega)]
      walk_at "gos"
      rw [if_neg (by rw [decide_eq_true_iff]; omega)]
      walk_at "gos"
      refine g_makeL rfl ?_
      walk_at "gos"
      (walk_at "new"; rename_i z1 _ H1 e1 h1; walk_at "gos")
      refine u_rng (by omega) (by omega) fun D hD => ?_
      refine lc_it walk_range (PvL H1 D (fun _ => true) (fun i => .bl (decide (i = b)))) (lc_start hD) (fun _ _ _ _ => trivial) (fun i y H3 H4 hi pv q6 => ?_) (fun H3 pv => ?_)
      · obtain ⟨rfl, rfl⟩ := q6
        walk_at "gos"
        refine ⟨rfl, ?_⟩
        walk_at "gos"
        have e0 : decide ((0 : Int) + (i : Int) = (b : Int)) = decide (i = b) := decide_eq_decide.mpr (by omega)
        rw [e0]
        exact lc_yes hD pv (Same.refl _) rfl rfl (by omega)
      obtain ⟨e3, h3⟩ := pv
      rw [given_all, Int.toNat_natCast] at h3
      have h3' : H3 D = some (.lst (((List.range a).map fun i => decide (i = b)).map V.bl)) := by rw [h3, List.map_map]; rfl
      walk_at "gos"
      refine u_where (B := []) (.inr (sqT (e3 _ _ h1))) (.inl (sqL h3')) (by rw [List.length_map, List.length_range]; omega) (by decide) (by rw [List.length_map, List.length_range]; omega) fun x H4 hx e4 hw => ?_
      refine q x H4 ?_ (e1.trans (e3.trans e4)) ?_
      · cases hh : H x with
        | none => rfl
        | some o => rw [e3 _ _ (e1 _ _ hh)] at hx; cases hx
      · obtain ⟨bl, rl, w1, w2, w3⟩ := hw
        exact ⟨bl, rl, w1, w2, fun k => by rw [w3, mem_rest (by omega)]⟩
    · refine ⟨_, _, rfl, Kd.int, ?_⟩
      walk_at "gos"
      rw [if_neg (by rw [decide_eq_true_iff]; omega)]
      walk_at "gos"
      refine ⟨_, rfl, .inl ⟨_, rfl, by omega, ?_⟩⟩
      walk_at "gos"
      rw [if_neg (by rw [decide_eq_true_iff]; omega)]
      walk_at "gos"
      rw [if_pos (decide_eq_true (by omega))]
      walk_at "gos"
      exact u_raise rfl (by decide) fun d H3 _ e3 hd => q H3 d e3 hd
    · refine ⟨_, _, rfl, hk, ?_⟩
      walk_at "gos"
      exact u_raise rfl (by decide) fun d H3 _ e3 hd => q H3 d e3 hd
    · refine ⟨_, _, rfl, Kd.int, ?_⟩
      walk_at "gos"
      rw [if_pos (decide_eq_true (by omega))]
      walk_at "gos"
      exact u_raise rfl (by decide) fun d H3 _ e3 hd => q H3 d e3 hd
    · refine ⟨_, _, rfl, Kd.int, ?_⟩
      walk_at "gos"
      rw [if_neg (by rw [decide_eq_true_iff]; omega)]
      walk_at "gos"
      rcases hk with hk | ⟨b, hb, rfl⟩
      · refine ⟨_, rfl, .inr ⟨hk, ?_⟩⟩
        walk_at "gos"
        exact u_raise rfl (by decide) fun d H3 _ e3 hd => q H3 d e3 hd
      · refine ⟨_, rfl, .inl ⟨_, rfl, by omega, ?_⟩⟩
        walk_at "gos"
        rw [if_pos (decide_eq_true (by omega))]
        walk_at "gos"
        exact u_raise rfl (by decide) fun d H3 _ e3 hd => q H3 d e3 hd
end
end Ev

end
section
open L2 in
local macro_rules | `(tactic| walk_at "gx") => `(tactic| first
  | ((with_reducible show tVar _ _ _ _); refine g_var rfl ?_)
  | with_reducible refine g_c ?_
  | with_reducible refine g_op ?_
  | with_reducible refine g_cons ?_
  | with_reducible refine g_nil ?_
  | with_reducible refine g_test ?_
  | with_reducible refine g_blp ?_
  | with_reducible refine g_asg ?_
  | (with_reducible refine g_name ?_; (try simp only [List.set_cons_zero, List.set_cons_succ]))
  | with_reducible refine g_call ?_
  | with_reducible refine g_cb ?_
  | with_reducible refine g_I0 ?_
  | with_reducible refine g_U ?_
  | with_reducible refine g_eqI ?_
  | with_reducible refine g_neI ?_
  | with_reducible refine g_if ?_
  | with_reducible refine g_ret ?_
  | with_reducible refine g_retN ?_
  | with_reducible refine g_next ?_
  | with_reducible refine g_drop ?_
  | with_reducible refine g_un ?_
  | with_reducible refine g_tb ?_
  | with_reducible refine g_tup ?_
  | with_reducible refine g_lst ?_
  | with_reducible refine g_and ?_
  | with_reducible refine g_or ?_
  | with_reducible refine g_not ?_
  | with_reducible refine g_andV ?_
  | with_reducible refine g_orV ?_
  | with_reducible refine g_notV ?_
  | with_reducible refine g_ifE ?_
  | with_reducible refine g_fld ?_
  | with_reducible refine g_tt ?_
  | with_reducible refine g_ff ?_
  | with_reducible refine g_ntt ?_
  | with_reducible refine g_nff ?_
  | with_reducible refine g_for ?_
  | with_reducible refine g_list ?_
  | with_reducible refine g_tupI ?_
  | with_reducible refine g_rng1 ?_
  | with_reducible refine g_rng2 ?_
  | with_reducible refine g_enumA ?_
  | with_reducible refine g_rev ?_
  | with_reducible refine g_lc ?_
  | with_reducible refine g_gcons ?_
  | with_reducible refine g_gnil ?_
  | with_reducible refine g_yes ?_
  | with_reducible refine g_sl ?_
  | with_reducible refine g_nopart ?_
  | with_reducible refine g_part ?_
  | with_reducible refine g_int ?_
  | with_reducible refine g_dget ?_
  | with_reducible refine g_dput ?_
  | with_reducible refine g_raiseX ?_
  | with_reducible refine g_tru ?_
  | with_reducible refine g_sub ?_
  | with_reducible refine g_isN ?_
  | with_reducible refine g_notN ?_
  | with_reducible refine g_bm ?_
  | with_reducible refine L2.g_bm0 ?_
  | with_reducible refine g_pair ?_
  | with_reducible refine g_pair0 ?_
  | with_reducible refine u_int1 ?_
  | with_reducible refine g_chain ?_
  | with_reducible refine L2.g_sfld ?_
  | (with_reducible refine g_par3 ?_)
  | (with_reducible refine g_three ?_; (try simp only [List.set_cons_zero, List.set_cons_succ]))
  | ((with_reducible apply L2.g_tupT); walk_at "up"; rfl)
  | (with_reducible refine g_par ?_)
  | (with_reducible refine g_two ?_; (try simp only [List.set_cons_zero, List.set_cons_succ]))
  )
local macro_rules | `(tactic| walk_at "go") => `(tactic| first | walk_at "gx" | with_reducible refine L2.g_seq ?_)
local macro_rules | `(tactic| walk_at "gou") => `(tactic| repeat (walk_at "gx"))
local macro_rules | `(tactic| walk_at "gos") => `(tactic| repeat (walk_at "go"))
local macro_rules | `(tactic| walk_at "sl") => `(tactic| first
  | assumption
  | exact L2.Same.l (by assumption)
  | exact L2.SameD.l (by assumption)
  | exact L2.extN_l (by assumption))
local macro_rules | `(tactic| walk_at "up") => `(tactic| first
  | assumption
  | ((with_reducible apply L2.SameL.lst); walk_at "sl"; walk_at "up")
  | ((with_reducible apply L2.SameL.tupA); walk_at "sl"; walk_at "up")
  | ((with_reducible apply L2.SameL.ins); walk_at "sl"; walk_at "up")
  | ((with_reducible apply Ev.PB.l); walk_at "sl"; walk_at "up")
  | ((with_reducible apply Ev.IsP.l); walk_at "sl"; walk_at "up")
  | ((with_reducible apply L2.sqL); walk_at "up")
  | ((with_reducible apply L2.sqT); walk_at "up")
  | ((with_reducible apply L2.SameL.seq); walk_at "sl"; walk_at "up")
  | ((with_reducible apply Ev.Pen.same); assumption; walk_at "up")
  | ((with_reducible apply Ev.Pen.extN); assumption; walk_at "up")
  | ((with_reducible apply L2.tabs_s); assumption; walk_at "up")
  | ((with_reducible apply L2.tabs_dd); assumption; walk_at "up")
  | ((with_reducible apply Or.inl); walk_at "up")
  | ((with_reducible apply Or.inr); walk_at "up"))
local macro_rules | `(tactic| walk_at "new") => `(tactic| (
  first
    | refine ⟨L2.size_ok (by rfl), fun p hp => ?_⟩
    | refine fun p hp => ?_
  generalize hX : L2.upd _ p _ = H1
  obtain ⟨e, h⟩ := L2.news hp hX
  clear hX))
local macro_rules | `(tactic| walk_at "o") => `(tactic| first
  | ((with_reducible apply Ev.o_add); walk_at "up"; walk_at "up"; rfl; rfl; rfl)
  | ((with_reducible apply Ev.o_sub); walk_at "up"; walk_at "up"; rfl; rfl; rfl)
  | ((with_reducible apply Ev.o_mul); walk_at "up"; walk_at "up"; rfl; rfl; rfl)
  | ((with_reducible apply Ev.o_addI); walk_at "up"; assumption; rfl; rfl; rfl)
  | ((with_reducible apply Ev.o_subI); walk_at "up"; assumption; rfl; rfl; rfl)
  | ((with_reducible apply Ev.o_mulI); walk_at "up"; assumption; rfl; rfl; rfl)
  | ((with_reducible apply Ev.o_radd); walk_at "up"; assumption; rfl; rfl; rfl)
  | ((with_reducible apply Ev.o_rsub); walk_at "up"; assumption; rfl; rfl; rfl)
  | ((with_reducible apply Ev.o_rmul); walk_at "up"; assumption; rfl; rfl; rfl)
  | ((with_reducible apply Ev.o_neg); walk_at "up"; rfl; rfl; rfl))
local macro_rules | `(tactic| walk_at "eq") => `(tactic| ((with_reducible apply Ev.u_ownB); assumption; walk_at "up"; walk_at "up"; (focus (intro k; first | rfl | exact Pl.e_add | exact Pl.e_sub | exact Pl.e_mul | exact Pl.e_rsub | exact Pl.e_rsub2))))
local macro_rules | `(tactic| walk_at "isp") => `(tactic| (apply Ev.u_isB; walk_at "up"; walk_at "up"; rfl; rfl))

/-! Where.of. -/
namespace Ev
open PySem PySem.Spec PyProof.Rows L2 Wp
def nV (n : Nat) : V := .int n
theorem nat_row : ∀ {xs : List V}, (∀ j, j < xs.length → ∃ n : Nat, xs[j]? = some (V.int n)) → ∃ ns : List Nat, xs = ns.map nV
  | [], _ => ⟨[], rfl⟩
  | x :: r, h => by
    obtain ⟨n, hn⟩ := h 0 (Nat.zero_lt_succ _)
    obtain rfl : x = V.int n := Option.some.inj hn
    obtain ⟨ns, rfl⟩ := nat_row (xs := r) fun j hj => by
      obtain ⟨m, hm⟩ := h (j + 1) (by simpa using hj)
      exact ⟨m, by simpa using hm⟩
    exact ⟨n :: ns, rfl⟩
theorem at_nats {ns : List Nat} {j : Nat} {x : V} (h : (ns.map nV)[j]? = some x) : x = .int (ns.getD j 0 : Nat) := by
  rw [List.getElem?_map] at h
  obtain ⟨y, hy, rfl⟩ := Option.map_eq_some_iff.mp h
  rw [List.getD_eq_getElem?_getD, hy]
  rfl
theorem range_getD {α β : Type} {ns : List α} {d : α} {f : α → β} : (List.range ns.length).map (fun i => f (ns.getD i d)) = ns.map f := by
  refine List.ext_getElem (by rw [List.length_map, List.length_map, List.length_range]) fun i h1 h2 => ?_
  rw [List.getElem_map, List.getElem_map, List.getElem_range, List.getD_eq_getElem?_getD, List.getElem?_eq_getElem (by rw [List.length_map] at h2; exact h2)]
  rfl
theorem bt_set {bs : List Bool} {j k : Nat} (hj : j < bs.length) : bt (bs.set j true) k = (decide (k = j) || bt bs k) := by
  unfold bt
  rw [List.getD_eq_getElem?_getD, List.getD_eq_getElem?_getD, List.getElem?_set]
  by_cases h : j = k
  · subst h; rw [if_pos rfl, if_pos hj]; simp
  · rw [if_neg h, decide_eq_false (by omega), Bool.false_or]
theorem mem_take_succ {ns : List Nat} {i k : Nat} (h : i < ns.length) : decide (k ∈ ns.take (i + 1)) = (decide (k = ns.getD i 0) || decide (k ∈ ns.take i)) := by
  rw [List.take_succ, List.getElem?_eq_getElem h, List.getD_eq_getElem?_getD, List.getElem?_eq_getElem h]
  simp only [Option.toList_some, List.mem_append, List.mem_singleton, Option.getD_some]
  by_cases h1 : k = ns[i] <;> by_cases h2 : k ∈ ns.take i <;> simp [h1, h2]
theorem flat_bls {l : List Bool} : (l.map V.bl).all flatV = true := by
  rw [List.all_map, List.all_eq_true]
  intro n _
  rfl
def spOf (K : PySem.W.Frag) (C CP CL : Addr) : Sp := fun vs H Q E => ∃ (a : Addr) (xs : List V), vs = [.ref C, .ref a] ∧ SqL K H a xs ∧ xs.length ≤ 100000 ∧
  (∀ (j : Nat) (x : V), xs[j]? = some x → (∃ n : Nat, x = .int n) ∨ (Np K H x ∧ ((∀ i : Nat, i < j → ∃ n : Nat, xs[i]? = some (V.int n)) → ExcR (Same H) CP "n" x E))) ∧
  (∀ ns : List Nat, xs = ns.map nV → ((∀ n, n ∈ ns → n < 10000) → ∀ x H', H x = none → Same H H' → WF K H' x C (fun k => decide (k ∈ ns)) → Q (.ref x) H') ∧ ((∃ n, n ∈ ns ∧ 10000 ≤ n) → ExcR (Same H) CL "most" (.int 10000) E))
section
variable {P : Program} {w : World} {K : PySem.W.Frag} {mg : Str → Option Value} {base : Heap}
theorem Np.same {H H' : Hp} {v : V} (e : Same H H') : Np K H v → Np K H' v := fun h => h.elim (fun z => .inl (z.same e)) .inr
theorem sc_Where_of : FnScope ["cls", "members", "member", "truths"] ["cls", "members"] (defScope (inClass (topS 19) 1)) := ⟨rfl, rfl, rfl, by decide +kernel, rfl, by decide +kernel, by decide +kernel⟩
theorem ok_Where_of {C CP CT CF CL : Addr} {tk2 : Tok} (B : Bn mg) (c_MOST_START : mg "MOST_START" = some (.int 10000 tk2)) (X_BadPlace : ExT P K mg "BadPlace" CP ["n"]) (X_TooLate : ExT P K mg "TooLate" CL ["most"])
    (G_is_place : CallF P w K mg base "is_place" ["value"] 2 (spPlace K)) (M_Where : MakeF P w K mg base "Where" C 5 (spWhere K C CT CF CL))
    {f : Addr} {fd : FuncData} (F : Fun K "of" "Where.of" (inClass (topS 19) 1) f fd) : FnOk P w K mg base (L2.CX P w) 7 f fd ["cls", "members"] (spOf K C CP CL) := by
  have nd := sc_Where_of.nd
  refine F.okX sc_Where_of (fun vs H Q E h => ?_) (fun cdv A outer s H vs Q E hr h => ?_)
  · obtain ⟨a, xs, rfl, _⟩ := h
    rfl
  · refine ⟨_, (pss_cons (ps_for (passes_of rfl) rfl (pi_listK (K := K) rfl (pv 1)) (pg_name (i := 2) nd rfl (.inl rfl)) (pss_one (ps_if (pt_not (pt_val (pe_callF G_is_place (hr.mono (by decide)) rfl passL (pa_cons (pv 2) pa_nil)))) (pss_one (ps_raiseX rfl X_BadPlace hr (takes_of rfl rfl rfl rfl) (pa_cons (pv 2) pa_nil))) pss_nil)))
      (pss_cons (ps_if (pt_val (pe_callB (cr_anyK (K := K) rfl rfl) (by rfl) B.any_ (by decide +kernel) (pa_cons (pe_lc (own := [("member", 2)]) (g := gName 2) (tt := tYes) rfl nd (pi_listK (K := K) rfl (pv 1)) (blkOk_by (N := ["cls", "members", "member", "truths"]) (sc := defScope (inClass (topS 19) 1)) (by decide +kernel)) (fun _ _ _ _ _ => (pg_name (i := 2) nd rfl (.inl rfl))) (fun _ _ _ _ _ => pts_nil) (fun _ _ _ _ _ => (pe_cmpR op_ge (pv 2) (pe_globI rfl c_MOST_START) (nomark _)))) pa_nil))) (pss_one (ps_raiseX rfl X_TooLate hr (takes_of rfl rfl rfl rfl) (pa_cons (pe_globI rfl c_MOST_START) pa_nil))) pss_nil)
      (pss_cons (ps_set (i := 3) nd rfl (.inl rfl) (pe_op op_rep (pe_lst (pa_cons pe_bl pa_nil)) (pe_op op_add pe_int (pe_callB (cr_maxK (K := K) rfl rfl) (by rfl) B.max_ (by decide +kernel) (pa_cons (pe_lc (own := [("member", 2)]) (g := gName 2) (tt := tYes) rfl nd (pi_listK (K := K) rfl (pe_lst (pa_cons (pe_un un_neg pe_int) (pa_starK (K := K) rfl (pv 1) pa_nil)))) (blkOk_by (N := ["cls", "members", "member", "truths"]) (sc := defScope (inClass (topS 19) 1)) (by decide +kernel)) (fun _ _ _ _ _ => (pg_name (i := 2) nd rfl (.inl rfl))) (fun _ _ _ _ _ => pts_nil) (fun _ _ _ _ _ => (pe_callTy call_in1 (by rfl) B.int_ (by decide +kernel) (pa_cons (pv 2) pa_nil)))) pa_nil)))))
      (pss_cons (ps_for (passes_of rfl) rfl (pi_listK (K := K) rfl (pv 1)) (pg_name (i := 2) nd rfl (.inl rfl)) (pss_one (ps_asg pe_bl (pg_sub (pv 3) (pv 2) set_list))))
      (pss_one (ps_ret (pe_makeL (i := 0) M_Where (hr.mono (by decide)) rfl (.inl rfl) (passes_call (takes_of rfl rfl rfl rfl) (fun _ _ _ _ h => h)) (pa_cons (pv 3) (pa_cons (pe_lst (pa_cons pe_bl pa_nil)) pa_nil))))))))), ?_⟩
    obtain ⟨a, xs, rfl, ha, hxl, hk, q⟩ := h
    refine g_st (σ' := [some (.ref C), some (.ref a), none, none]) rfl ?_
    walk_at "gos"
    refine u_it ha ?_
    refine for_it walk_list (fun i σ' H' => Same H H' ∧ (∃ y, σ' = [some (.ref C), some (.ref a), y, none]) ∧ ∀ j, j < i → ∃ n : Nat, xs[j]? = some (V.int n)) ⟨Same.refl H, ⟨none, rfl⟩, fun j h => absurd h (Nat.not_lt_zero j)⟩ (fun i _ H' _ p => p.1.seq ha) (fun i x σ' H' H2 hi p y => ?_) (fun σ' H1 p => ?_)
    · obtain ⟨e, ⟨y0, rfl⟩, hj⟩ := p
      obtain ⟨rfl, hy⟩ := y
      walk_at "gos"
      rcases hk i x hy with ⟨n, rfl⟩ | ⟨hn, hx⟩
      · refine ⟨_, rfl, .inl ⟨_, rfl, by omega, ?_⟩⟩
        walk_at "gos"
        refine ⟨e, ⟨_, rfl⟩, fun j h => ?_⟩
        by_cases hji : j < i
        · exact hj j hji
        · obtain rfl : j = i := by omega
          exact ⟨n, hy⟩
      · refine ⟨_, rfl, .inr ⟨hn.same e, ?_⟩⟩
        walk_at "gos"
        exact u_raise rfl (by decide) fun d H3 _ e3 hd => hx hj H3 d (e.trans e3) hd
    obtain ⟨e1, ⟨y0, rfl⟩, hall⟩ := p
    obtain ⟨ns, rfl⟩ := nat_row hall
    clear hall hk
    obtain ⟨q1, q2⟩ := q ns rfl
    have hnl : ns.length ≤ 100000 := by rw [List.length_map] at hxl; exact hxl
    have ha1 := e1.seq ha
    walk_at "gos"
    refine u_it ha1 fun D hD => ?_
    refine lc_it walk_list (PvL H1 D (fun _ => true) (fun i => .bl (decide (10000 ≤ ns.getD i 0)))) (lc_start hD) (fun i H' _ p => p.1.seq ha1) (fun i x H3 H4 hi pv y => ?_) (fun H3 pv => ?_)
    · obtain ⟨rfl, hy⟩ := y
      obtain rfl := at_nats hy
      walk_at "gos"
      refine ⟨rfl, ?_⟩
      walk_at "gos"
      rw [List.length_map] at hi
      exact lc_yes hD pv (Same.refl _) rfl (congrArg V.bl (decide_eq_decide.mpr (by omega))) (by omega)
    obtain ⟨e3, h3⟩ := pv
    rw [given_all, List.length_map] at h3
    have h3' : H3 D = some (.lst ((ns.map fun n => decide (10000 ≤ n)).map V.bl)) := by
      rw [h3, List.map_map]
      exact congrArg (fun l => some (HO.lst l)) (range_getD (f := fun n => V.bl (decide (10000 ≤ n))))
    walk_at "gos"
    refine u_any (sqL h3') ?_
    walk_at "gos"
    have e13 := e1.trans e3
    by_cases hbig : ∃ n, n ∈ ns ∧ 10000 ≤ n
    · have hb : (ns.map fun n => decide (10000 ≤ n)).any id = true := by
        obtain ⟨n, h1, h2⟩ := hbig
        rw [List.any_eq_true]
        exact ⟨_, List.mem_map_of_mem h1, decide_eq_true h2⟩
      rw [if_pos hb]
      walk_at "gos"
      exact u_raise rfl (by decide) fun d H4 _ e4 hd => q2 hbig H4 d (e13.trans e4) hd
    have hsm : ∀ n, n ∈ ns → n < 10000 := fun n hn => by
      by_cases h : n < 10000
      · exact h
      · exact absurd ⟨n, hn, by omega⟩ hbig
    have hb : ¬ (ns.map fun n => decide (10000 ≤ n)).any id = true := fun z => by
      rw [List.any_eq_true] at z
      obtain ⟨b, h1, h2⟩ := z
      obtain ⟨n, h4, rfl⟩ := List.mem_map.mp h1
      exact hbig ⟨n, h4, of_decide_eq_true h2⟩
    rw [if_neg hb]
    have ha3 := e3.seq ha1
    clear hb hbig q2 h3 h3'
    walk_at "gos"
    (walk_at "new"; rename_i z1 _ H4 e4 h4; walk_at "gos")
    refine StX.g_star ?_
    walk_at "gos"
    refine ⟨a, _, rfl, .inr (e4.seq ha3), ?_⟩
    walk_at "gos"
    refine ⟨by rw [sizeLine_eq]; simp; omega, fun zp hzp => ?_⟩
    generalize hX : upd H4 zp _ = H5
    obtain ⟨e5, h5⟩ := news hzp hX
    clear hX
    obtain ⟨ms, hms⟩ : ∃ ms : List Int, ms = (-1) :: ns.map Int.ofNat := ⟨_, rfl⟩
    have heq : V.int (-1) :: (ns.map nV ++ []) = ms.map V.int := by rw [List.append_nil, hms, List.map_cons, List.map_map]; rfl
    rw [heq] at h5
    have hml : ms.length = ns.length + 1 := by rw [hms, List.length_cons, List.length_map]
    refine u_it (sqL h5) fun D2 hD2 => ?_
    refine lc_it walk_list (PvL H5 D2 (fun _ => true) (fun i => V.int (Pl.at0 ms i))) (lc_start hD2) (fun i H' _ p => p.1.seq (sqL h5)) (fun i x H6 H7 hi pv y => ?_) (fun H6 pv => ?_)
    · obtain ⟨rfl, hy⟩ := y
      obtain rfl := at_ints hy
      walk_at "gos"
      refine ⟨rfl, ?_⟩
      walk_at "gos"
      rw [List.length_map] at hi
      exact lc_yes hD2 pv (Same.refl _) rfl rfl (by omega)
    obtain ⟨e6, h6⟩ := pv
    rw [given_all, List.length_map] at h6
    have h6' : H6 D2 = some (.lst (ms.map V.int)) := by
      rw [h6]
      exact congrArg (fun l => some (HO.lst l)) (range_getD (d := 0) (f := V.int))
    walk_at "gos"
    refine u_max (sqL h6') (by omega) fun m hm1 hm2 => ?_
    obtain ⟨N, hN⟩ : ∃ N : Nat, (1 : Int) + m = N := by
      rw [hms] at hm1
      rcases List.mem_cons.mp hm1 with rfl | h
      · exact ⟨0, rfl⟩
      · obtain ⟨n, _, rfl⟩ := List.mem_map.mp h
        exact ⟨1 + n, by rw [Int.ofNat_eq_natCast]; omega⟩
    have hN1 : N ≤ 10000 := by
      rw [hms] at hm1
      rcases List.mem_cons.mp hm1 with rfl | h
      · omega
      · obtain ⟨n, hn, rfl⟩ := List.mem_map.mp h
        have := hsm n hn
        simp only [Int.ofNat_eq_natCast] at hN
        omega
    have hN2 : ∀ n, n ∈ ns → n < N := fun n hn => by
      have := hm2 (n : Int) (by rw [hms]; exact List.mem_cons_of_mem _ (List.mem_map_of_mem hn))
      omega
    walk_at "gos"
    rw [hN]
    have e36 : Same H3 H6 := e4.trans (e5.trans e6)
    refine u_rep (e6 _ _ (e5 _ _ h4)) (by omega) (by omega) fun l H7 hl e7 h7 => ?_
    rw [Int.toNat_natCast, ← List.map_replicate] at h7
    clear hm1 hm2 hN h6 h6' e6 hD2 h5 heq hms hml e5 hzp h4 e4
    walk_at "gos"
    refine u_it (e7.seq (e36.seq ha3)) ?_
    refine for_it walk_list (fun i σ' H' => Same H6 H' ∧ (∃ y, σ' = [some (.ref C), some (.ref a), y, some (.ref l)]) ∧ ∃ bs : List Bool, H' l = some (.lst (bs.map V.bl)) ∧ bs.length = N ∧ ∀ k, bt bs k = decide (k ∈ ns.take i)) ⟨e7, ⟨_, rfl⟩, _, h7, List.length_replicate, fun k => ?_⟩ (fun i _ H' _ p => p.1.seq (e36.seq ha3)) (fun i x σ' H' H2 hi p y => ?_) (fun σ' H8 p => ?_)
    · unfold bt
      rw [List.take_zero, List.getD_eq_getElem?_getD, List.getElem?_replicate]
      split <;> simp
    · obtain ⟨e, ⟨y1, rfl⟩, bs, hb1, hb2, hb3⟩ := p
      obtain ⟨rfl, hy⟩ := y
      obtain rfl := at_nats hy
      rw [List.length_map] at hi
      have hin : ns.getD i 0 ∈ ns := by
        rw [List.getD_eq_getElem?_getD, List.getElem?_eq_getElem hi]
        exact List.getElem_mem hi
      walk_at "gos"
      refine u_setL hb1 (by rw [List.length_map, hb2]; exact hN2 _ hin) ?_
      walk_at "gos"
      rw [bset]
      refine ⟨e.mut hl, ⟨_, rfl⟩, _, upd_same, by rw [List.length_set]; exact hb2, fun k => ?_⟩
      rw [bt_set (by rw [hb2]; exact hN2 _ hin), hb3, mem_take_succ hi]
    obtain ⟨e8, ⟨y1, rfl⟩, bs, hb1, hb2, hb3⟩ := p
    walk_at "gos"
    refine g_makeL rfl ?_
    walk_at "gos"
    (walk_at "new"; rename_i z3 _ H9 e9 h9; walk_at "gos")
    rw [List.length_map, List.take_length] at hb3
    have e09 : Same H H9 := e13.trans (e36.trans (e8.trans e9))
    refine u_where (B := bs) (R := [false]) (.inl (sqL (e9 _ _ hb1))) (.inl (sqL h9)) (by decide) (by omega) (by decide) fun x H10 hx e10 hw => ?_
    refine q1 hsm x H10 ?_ (e09.trans e10) ?_
    · cases hh : H x with
      | none => rfl
      | some o => rw [e09 _ _ hh] at hx; cases hx
    · obtain ⟨bl, rl, w1, w2, w3⟩ := hw
      refine ⟨bl, rl, w1, w2, fun k => ?_⟩
      rw [w3]
      unfold mem
      by_cases hk : k < bs.length
      · rw [if_pos hk, hb3]
      · show _ = decide (k ∈ ns)
        rw [if_neg hk, decide_eq_false (fun z => hk (by rw [hb2]; exact hN2 _ z))]
        simp [bt, Nat.mod_one]
end
end Ev

end
/-! any of a tuple of truths -/
namespace L2
open PySem PySem.Spec PyProof.Rows
def rAnyT (K : PySem.W.Frag) : List V → Hp → VK → Prop := fun vs H Q => ∃ (a : Addr) (bs : List Bool), vs = [V.ref a] ∧ SqT K H a (bs.map V.bl) ∧ Q (.bl (bs.any id)) H
theorem iter_anyT {prog : Program} {w : World} {A : Around} {E : Value → Shared → Prop} {s : Shared} {l : Addr} {items : Array Value} {Q : Value → Shared → Prop} (hl : s.heap.IsTuple l items)
    (h : ∀ s₂ : Shared, s₂ = { s with heap := s.heap.push { cls := .type "tuple_iterator", data := .fields #[.ref l, .int 0 0] } } →
      (s₂.heap.IsTupleIter s.heap.objs.size l 0 ∧ s₂.heap.IsTuple l items) → l ≠ s.heap.objs.size → Q (.ref s.heap.objs.size) s₂) : wpAny (model prog w) A (pyIter (.ref l)) Q E s := by
  have hlt : l < s.heap.objs.size := by obtain ⟨_, e, _⟩ := hl; exact Heap.lt_size e
  exact wpAny_pyIter_tuple hl (h _ rfl ⟨⟨_, Heap.get?_push_size _ rfl, rfl, rfl⟩, hl.push _⟩ (Nat.ne_of_lt hlt))
section
variable {X : Cx} {K : PySem.W.Frag}
theorem cr_anyT (hk : X.K = K) (hc : X.calm = true) : CallR X (.builtin "any") (rAnyT K) := by
  subst hk
  intro pins s σ H vs us Q I r h
  obtain ⟨a, bs, rfl, hs, q⟩ := h
  obtain ⟨its, rv, hl, _⟩ := I.tuple hs
  rw [Vals.ref1 r]
  have hb := rv.bls
  refine call_any_walk (iter_anyT hl fun s₂ e2 st hne => ?_)
  subst e2
  refine ⟨_, _, _, _, _, _, _, rfl, Walks.tuple (A := X.A.in1) (I.ok.hd hc) _ a hne its.toArray, st, truth_bools hb, fun h' tk hk => ?_⟩
  refine ⟨.bl _, H, I.kept fun b o eo => hk b o (fun hmem => ?_) (Heap.get?_push_of_some _ eo), ?_, q⟩
  · rcases List.mem_cons.mp hmem with e1 | hmem
    · exact absurd (e1 ▸ Heap.lt_size eo) (Nat.lt_irrefl _)
    · cases hmem
  · show Value.bool _ = Value.bool _
    rw [← any_range, hb, List.size_toArray, List.length_map]
theorem u_anyT {a : Addr} {bs : List Bool} {H : Hp} {Q : VK} (h : SqT K H a (bs.map V.bl)) (q : Q (.bl (bs.any id)) H) : rAnyT K [.ref a] H Q := ⟨a, bs, rfl, h, q⟩
end
end L2

/-! own operators: p op q, p op i, i op p, -p. -/
namespace L2
open PySem PySem.Spec PyProof.Rows
theorem rel_back {v : V} {u : Value} {Q : Value → Shared → Prop} {s : Shared} (r : RelV v u) (q : Q u s) : PySem.W.CmpBack Q u s := by
  cases v <;> first
    | (obtain rfl := r; exact q)
    | (obtain ⟨t, rfl⟩ := r; exact q)
    | exact (show PySem.W.CmpBack Q u s from by cases u <;> first | exact q | cases r)
/-- p op q, both of the class -/
def rOp2 (C : Addr) (sp : Sp) (E : XK) : R2 := fun x y H Q => ∃ a dx fs b dy gs, x = .ref a ∧ H a = some (.ins C dx fs) ∧ y = .ref b ∧ H b = some (.ins C dy gs) ∧ sp [x, y] H Q E
/-- p op i -/
def rOpI (C : Addr) (sp : Sp) (E : XK) : R2 := fun x y H Q => ∃ a dx fs i, x = .ref a ∧ H a = some (.ins C dx fs) ∧ y = .int i ∧ sp [x, y] H Q E
/-- -p -/
def rNegO (C : Addr) (sp : Sp) (E : XK) : V → Hp → VK → Prop := fun x H Q => ∃ a dx fs, x = .ref a ∧ H a = some (.ins C dx fs) ∧ sp [x] H Q E
section
variable {X : Cx} {C f : Addr} {fd : FuncData} {ps : List Str} {n : Nat} {sp : Sp} {E : XK} {op : Operator} {m : Str}
theorem op_own2 (G : OwnF X.prog X.w X.K X.mg X.base C m ps n sp) (hm : m = PySem.dunder op.info.2) (hc : PySem.W.selfFirst X.K C = true) (hr : Room n X.A) (hx : Passes (L2.CX X.prog X.w) X E) : OpR X (binaryOp op) (rOp2 C sp E) := by
  intro pins s σ H x y v u Q I rx ry hq
  obtain ⟨f, fd, F, hs, hf, hb⟩ := G.ex
  obtain ⟨a, dx, fs, b, dy, gs, rfl, ha, rfl, hb', q⟩ := hq
  subst hm
  cases rx
  cases ry
  obtain ⟨_, J1, _⟩ := ins_get I.hok ha
  obtain ⟨_, J, _⟩ := J1.look
  obtain ⟨_, J2, _⟩ := ins_get I.hok hb'
  obtain ⟨_, J', _⟩ := J2.look
  obtain ⟨mm, hF⟩ := I.fr
  refine PySem.W.binop_K hF I.ok.mod.kin J J'.type hc hs hf ?_
  refine wpAny_mono (run_two F ⟨hr, rfl⟩ hb hx I (x := .ref a) (u := .ref a) (y := .ref b) (v := .ref b) rfl rfl q) (fun r s' z => ?_) fun _ _ e => e
  obtain ⟨z, H', I', rz, q'⟩ := z
  exact rel_back rz ⟨z, H', I', rz, q'⟩
theorem op_ownI {fo ro rc : Option Value} (G : OwnF X.prog X.w X.K X.mg X.base C m ps n sp) (hm : m = PySem.dunder op.info.2) (hc : PySem.W.selfFirst X.K C = true) (h1 : PySem.W.findIn X.K (.type "int") (PySem.dunder op.info.2) = some fo) (h2 : PySem.W.findIn X.K (.type "int") (dunderR op.info.2) = some ro)
    (h3 : PySem.W.findIn X.K (.ref C) (dunderR op.info.2) = some rc) (h4 : rc = none ∨ ∃ g : Addr, rc = some (.ref g)) (h5 : PySem.W.subIn X.K (.type "int") (.ref C) = some false) (hr : Room n X.A) (hx : Passes (L2.CX X.prog X.w) X E) : OpR X (binaryOp op) (rOpI C sp E) := by
  intro pins s σ H x y v u Q I rx ry hq
  obtain ⟨f, fd, F, hs, hf, hb⟩ := G.ex
  obtain ⟨a, dx, fs, i, rfl, ha, rfl, q⟩ := hq
  subst hm
  cases rx
  obtain ⟨t, rfl⟩ := ry
  obtain ⟨_, J1, _⟩ := ins_get I.hok ha
  obtain ⟨_, J, _⟩ := J1.look
  obtain ⟨mm, hF⟩ := I.fr
  refine PySem.W.ksp_binT (T := "int") hF I.ok.mod.kin J (by rfl) hc hs hf h3 h4 h1 h2 h5 ?_
  refine wpAny_mono (run_two F ⟨hr, rfl⟩ hb hx I (x := .ref a) (u := .ref a) (y := .int i) (v := .int i t) rfl ⟨t, rfl⟩ q) (fun r s' z => ?_) fun _ _ e => e
  obtain ⟨z, H', I', rz, q'⟩ := z
  exact rel_back rz ⟨z, H', I', rz, q'⟩
theorem un_own (G : OwnF X.prog X.w X.K X.mg X.base C "__neg__" ps n sp) (hr : Room n X.A) (hx : Passes (L2.CX X.prog X.w) X E) : UnR X (unaryOp .USub) (rNegO C sp E) := by
  intro pins s σ H x v Q I rx hq
  obtain ⟨f, fd, F, hs, hf, hb⟩ := G.ex
  obtain ⟨a, dx, fs, rfl, ha, q⟩ := hq
  cases rx
  obtain ⟨_, J1, _⟩ := ins_get I.hok ha
  obtain ⟨_, J, _⟩ := J1.look
  obtain ⟨mm, hF⟩ := I.fr
  refine PySem.W.ksp_neg hF I.ok.mod.kin J hs hf ?_
  exact run_fn F hr hb .nil hx I (.cons (show RelV (.ref a) (.ref a) from rfl) .nil) (by simpa using q)
theorem op_ownEqK {K : PySem.W.Frag} (h : X.K = K) (G : OwnF X.prog X.w K X.mg X.base C "__eq__" ps n sp) (hr : Room n X.A) (hx : Passes (L2.CX X.prog X.w) X E) : OpR X (compareOp .Eq) (rOwn K C sp E false) := by
  subst h
  exact op_ownEq G hr hx
theorem op_ownNeK {K : PySem.W.Frag} (h : X.K = K) (G : OwnF X.prog X.w K X.mg X.base C "__eq__" ps n sp) (N : NoNe K C) (hr : Room (n + 1) X.A) (hx : Passes (L2.CX X.prog X.w) X E) : OpR X (compareOp .NotEq) (rOwn K C sp E true) := by
  subst h
  exact op_ownNe G N hr hx
end
end L2

/-! v in x, bool(x), x < y, ~x where x is of an own class. -/
namespace PySem.W
open PySem PySem.Calls PyProof.Rows PyProof.V PySem.Spec PySem.Builtin
section
variable {M : Model} {A : Around} {E : Value → Shared → Prop} {s : Shared} {K : Frag} {x C L f : Addr} {h₀ : Heap} {m : Str → Option Value} {ox : Obj} {od : Option Obj} {v : Value}
theorem own_in {Q : Bool → Shared → Prop} (X : K.In s.heap) (I : InstAt s.heap x ox C od) (hs : findIn K (.ref C) "__contains__" = some (some (.ref f))) (hf : isFn K (.ref f) = true)
    (h : wpAny M A (call (.ref f) [.ref x, v]) (fun r s' => ∃ b, r = .bool b ∧ Q b s') E s) : wpAny M A (contains (.ref x) v) Q E s := by
  unfold contains
  refine wpAny_holding ?_
  simp only [stdlibNamesSay?]
  refine wpAny_bind (wpAny_bind (I.type.here ((looks_findIn X hs).here ?_)))
  have hne : (some (Value.ref f) == some Value.none) = false := rfl
  rw [hne, if_neg Bool.false_ne_true]
  unfold callSpecialUnlessNone?
  refine wpAny_bind (wpAny_bind (wpAny_bind (I.type.here ((looks_findIn X hs).here ?_))))
  refine wpAny_holding (wpAny_bind ((bind_fn X _ (beq_iff_eq.mp hf)).here ?_))
  have hne2 : (Value.ref f == Value.none) = false := rfl
  simp only [hne2, Bool.false_eq_true, if_false]
  refine wpAny_bind (wpAny_mono h (fun r s' z => ?_) fun _ _ e => e)
  obtain ⟨b, rfl, q⟩ := z
  exact wpAny_pure (wpAny_pure q)
theorem own_truthy {Q : Bool → Shared → Prop} (X : K.In s.heap) (I : InstAt s.heap x ox C od) (hs : findIn K (.ref C) "__bool__" = some (some (.ref f))) (hf : isFn K (.ref f) = true)
    (h : wpAny M A (call (.ref f) [.ref x]) (fun r s' => ∃ b, r = .bool b ∧ Q b s') E s) : wpAny M A (truthy (.ref x)) Q E s := by
  unfold truthy
  refine wpAny_bind (special_fn X I hs (beq_iff_eq.mp hf) (wpAny_mono h (fun r s' z => ?_) fun _ _ e => e))
  obtain ⟨b, rfl, q⟩ := z
  exact wpAny_pure q
end
end PySem.W
namespace L2
open PySem PySem.Spec PyProof.Rows
def rInO (C : Addr) (sp : Sp) (E : XK) (neg : Bool) : R2 := fun x y H Q => ∃ a dx fs, y = .ref a ∧ H a = some (.ins C dx fs) ∧ sp [y, x] H (fun v H' => ∃ r, v = .bl r ∧ Q (.bl (if neg then !r else r)) H') E
def rTruO (C : Addr) (sp : Sp) (E : XK) (x : V) (H : Hp) (Q : Bool → Hp → Prop) : Prop := ∃ a dx fs, x = .ref a ∧ H a = some (.ins C dx fs) ∧ sp [x] H (fun v H' => ∃ r, v = .bl r ∧ Q r H') E
def tTruO (C : Addr) (sp : Sp) (E : XK) (ta : TE) : TT := fun σ H Q => ta σ H fun x H' => rTruO C sp E x H' Q
section
variable {X : Cx} {C f : Addr} {fd : FuncData} {ps : List Str} {n : Nat} {sp : Sp} {E : XK}
theorem op_ownC {op : CmpOp} {m : Str} (G : OwnF X.prog X.w X.K X.mg X.base C m ps n sp) (hm : m = (cmpInfo op).2.1) (hop : ∀ a b, compareOp op a b = richCompare op a b) (hr : Room n X.A) (hx : Passes (L2.CX X.prog X.w) X E) : OpR X (compareOp op) (rOp2 C sp E) := by
  intro pins s σ H x y v u Q I rx ry hq
  obtain ⟨f, fd, F, hs, hf, hb⟩ := G.ex
  obtain ⟨a, dx, fs, b, dy, gs, rfl, ha, rfl, hb', q⟩ := hq
  subst hm
  cases rx
  cases ry
  obtain ⟨_, J1, _⟩ := ins_get I.hok ha
  obtain ⟨_, J, _⟩ := J1.look
  obtain ⟨_, J2, _⟩ := ins_get I.hok hb'
  obtain ⟨_, J', _⟩ := J2.look
  obtain ⟨mm, hF⟩ := I.fr
  rw [hop]
  refine PySem.W.cmp_K (op := op) (tb := .ref C) hr.units0 hF I.ok.mod.kin J J'.type (by unfold PySem.W.notFirst; simp) hs hf ?_
  refine wpAny_mono (run_two F ⟨hr, rfl⟩ hb hx I (x := .ref a) (u := .ref a) (y := .ref b) (v := .ref b) rfl rfl q) (fun r s' z => ?_) fun _ _ e => e
  obtain ⟨z, H', I', rz, q'⟩ := z
  exact rel_back rz ⟨z, H', I', rz, q'⟩
theorem op_inO (G : OwnF X.prog X.w X.K X.mg X.base C "__contains__" ps n sp) (hr : Room n X.A) (hx : Passes (L2.CX X.prog X.w) X E) : OpR X (compareOp .In) (rInO C sp E false) := by
  intro pins s σ H x y v u Q I rx ry hq
  obtain ⟨f, fd, F, hs, hf, hb⟩ := G.ex
  obtain ⟨a, dx, fs, rfl, ha, q⟩ := hq
  cases ry
  obtain ⟨_, J1, _⟩ := ins_get I.hok ha
  obtain ⟨_, J, _⟩ := J1.look
  show wpAny (model X.prog X.w) X.A (contains (.ref a) v >>= fun b => pure (Value.bool b)) _ _ _
  refine wpAny_bind (PySem.W.own_in I.kIn J hs hf ?_)
  refine wpAny_mono (run_two F ⟨hr, rfl⟩ hb hx I (x := .ref a) (u := .ref a) (y := x) (v := v) rfl rx q) (fun r s' z => ?_) fun _ _ e => e
  obtain ⟨z, H', I', rz, b, rfl, q'⟩ := z
  cases rz
  exact ⟨b, rfl, wpAny_pure ⟨.bl b, H', I', rfl, q'⟩⟩
theorem op_notInO (G : OwnF X.prog X.w X.K X.mg X.base C "__contains__" ps n sp) (hr : Room n X.A) (hx : Passes (L2.CX X.prog X.w) X E) : OpR X (compareOp .NotIn) (rInO C sp E true) := by
  intro pins s σ H x y v u Q I rx ry hq
  obtain ⟨f, fd, F, hs, hf, hb⟩ := G.ex
  obtain ⟨a, dx, fs, rfl, ha, q⟩ := hq
  cases ry
  obtain ⟨_, J1, _⟩ := ins_get I.hok ha
  obtain ⟨_, J, _⟩ := J1.look
  show wpAny (model X.prog X.w) X.A (contains (.ref a) v >>= fun b => pure (Value.bool (!b))) _ _ _
  refine wpAny_bind (PySem.W.own_in I.kIn J hs hf ?_)
  refine wpAny_mono (run_two F ⟨hr, rfl⟩ hb hx I (x := .ref a) (u := .ref a) (y := x) (v := v) rfl rx q) (fun r s' z => ?_) fun _ _ e => e
  obtain ⟨z, H', I', rz, b, rfl, q'⟩ := z
  cases rz
  exact ⟨b, rfl, wpAny_pure ⟨.bl (!b), H', I', rfl, q'⟩⟩
theorem un_invO (G : OwnF X.prog X.w X.K X.mg X.base C "__invert__" ps n sp) (hr : Room n X.A) (hx : Passes (L2.CX X.prog X.w) X E) : UnR X (unaryOp .Invert) (rNegO C sp E) := by
  intro pins s σ H x v Q I rx hq
  obtain ⟨f, fd, F, hs, hf, hb⟩ := G.ex
  obtain ⟨a, dx, fs, rfl, ha, q⟩ := hq
  cases rx
  obtain ⟨_, J1, _⟩ := ins_get I.hok ha
  obtain ⟨_, J, _⟩ := J1.look
  obtain ⟨mm, hF⟩ := I.fr
  refine PySem.W.ksp_inv hF I.ok.mod.kin J hs hf ?_
  exact run_fn F hr hb .nil hx I (.cons (show RelV (.ref a) (.ref a) from rfl) .nil) (by simpa using q)
/-- a method of one runs below the body -/
theorem run_one {A : Around} {pins : List (Addr × Obj)} {σ : St} {H : Hp} {s : Shared} {Q : VK} {x : V} {u : Value} (F : FnOk X.prog X.w X.K X.mg X.base (L2.CX X.prog X.w) n f fd ps sp) (sb : Sub X n A) (hb : Binds X.K fd ps []) (hx : Passes (L2.CX X.prog X.w) X E)
    (I : Inv X pins σ H s) (r1 : RelV x u) (h : sp [x] H Q E) : wpAny (model X.prog X.w) A (call (.ref f) [u]) (EP X pins σ Q) X.xe s := by
  have e0 : Env0 X.prog X.w X.K X.mg X.base A X.stack s H := by
    have e := I.env0
    exact ⟨by rw [sb.fr]; exact e.frames, e.mod, e.bs, e.bsz, e.funs, e.frf, e.hok, e.bare⟩
  have hl := F.len _ _ _ _ h
  have rr : Vals [x] [u] := .cons r1 .nil
  refine wpAny_call (codeAny_mono (F.run A X.stack s H ⟨[u], []⟩ [u] [x] _ E sb.room e0 (by
    have := hb s [u] I.kIn (by simpa using hl)
    simpa using this) rr h) fun r s' hq => ?_)
  cases r with
  | error e => exact hx pins σ H s e s' I hq
  | ok fl =>
    cases fl with
    | ret w => exact I.after hq
    | next => exact False.elim hq
    | brk => exact False.elim hq
    | cont => exact False.elim hq
theorem tru_own {A : Around} (G : OwnF X.prog X.w X.K X.mg X.base C "__bool__" ps n sp) (sb : Sub X n A) (hx : Passes (L2.CX X.prog X.w) X E) {pins : List (Addr × Obj)} {s : Shared} {σ : St} {H : Hp} {x : V} {v : Value} {Q : Bool → Hp → Prop} (I : Inv X pins σ H s) (rx : RelV x v) (h : rTruO C sp E x H Q) :
    wpAny (model X.prog X.w) A (truthy v) (fun b s' => ∃ H', Inv X pins σ H' s' ∧ Q b H') X.xe s := by
  obtain ⟨f, fd, F, hs, hf, hb⟩ := G.ex
  obtain ⟨a, dx, fs, rfl, ha, q⟩ := h
  cases rx
  obtain ⟨_, J1, _⟩ := ins_get I.hok ha
  obtain ⟨_, J, _⟩ := J1.look
  refine PySem.W.own_truthy I.kIn J hs hf ?_
  refine wpAny_mono (run_one F sb hb hx I (x := .ref a) (u := .ref a) rfl q) (fun r s' z => ?_) fun _ _ e => e
  obtain ⟨z, H', I', rz, b, rfl, q'⟩ := z
  cases rz
  exact ⟨b, rfl, H', I', q'⟩
theorem pt_own {a : Expr} {ta : TE} (G : OwnF X.prog X.w X.K X.mg X.base C "__bool__" ps n sp) (hr : Room n X.A) (hx : Passes (L2.CX X.prog X.w) X E) (ha : PE X a ta) (he : ∀ whole, isTrue a X.env whole = (do let v ← whole; standAt a.pos; holding [v] (truthy v))) : PT X a (tTruO C sp E ta) := by
  refine ⟨fun pins s σ H Q I h => ?_⟩
  refine isTrue_plain (thn (ha.run pins s σ H _ I h) fun v s1 ⟨x, H1, I1, r1, q1⟩ => ?_) (he _)
  exact tru_own G ⟨hr, rfl⟩ hx I1 r1 q1
theorem g_truO {ta : TE} {σ : St} {H : Hp} {Q : Bool → Hp → Prop} (q : ta σ H fun x H' => rTruO C sp E x H' Q) : tTruO C sp E ta σ H Q := q
/-- not a -/
theorem pe_notO {a : Expr} {ta : TE} {pos : Pos} (G : OwnF X.prog X.w X.K X.mg X.base C "__bool__" ps n sp) (hr : Room n X.A) (hx : Passes (L2.CX X.prog X.w) X E) (ha : PE X a ta) : PE X (.UnaryOp .Not a pos) (fun σ H Q => ta σ H fun x H' => rTruO C sp E x H' fun b H2 => Q (.bl (!b)) H2) := by
  refine ⟨fun pins s σ H Q I h => ?_⟩
  refine UnaryOp_ (thn (ha.run pins s σ H _ I h) fun v s1 ⟨x, H1, I1, r1, q1⟩ => ?_)
  exact not_of (thn (tru_own G ⟨hr, rfl⟩ hx I1 r1 q1) fun c s2 ⟨H2, I2, q2⟩ => ⟨.bl (!c), H2, I2, rfl, q2⟩)
theorem call_boolO (G : OwnF X.prog X.w X.K X.mg X.base C "__bool__" ps n sp) (hr : Room (n + 2) X.A) (hx : Passes (L2.CX X.prog X.w) X E) : CallR X (.type "bool") (fun xs H Q => ∃ x, xs = [x] ∧ rTruO C sp E x H fun b H2 => Q (.bl b) H2) := by
  intro pins s σ H xs us Q I r h
  obtain ⟨x, rfl, h⟩ := h
  obtain ⟨u, rfl, r1⟩ := vals1 r
  have sb : Sub X n X.A.in1.in1 := Sub.in1 (Sub.in1 ⟨hr, rfl⟩)
  have key := tru_own (A := X.A.in1.in1) G sb hx I r1 h
  refine PySem.callType_newIn (prog := X.prog) (w := X.w) (S := fun A R s => wpAny (model X.prog X.w) A.in1 (truthy u) (fun b s' => R (.ok (.ret (.bool b))) s') (fun e s' => R (.error e) s') s) F.called_bool F.newNe_bool (F.typeCall_bool_1 u) (F.newCall_bool_1 u) (fun obj => F.args_object_init_2 obj u) F.entry_bool_new (.of_wp fun A R s h => ?_) ?_
  · have f1 := PySem.F.conv_sub_bool
    unfold PySem.Builtin.«bool.__new__»
    repeat (first | (with_reducible refine wpAny_bind (wpAny_mono h (fun b s' hb => ?_) (fun _ _ e => e))) | assumption | wp_step)
    exact ⟨_, rfl, hb⟩
  · refine wpAny_mono key (fun b s' z => ?_) fun _ _ e => e
    obtain ⟨H', I', q⟩ := z
    exact ⟨rfl, .bl b, H', I', rfl, q⟩
end
end L2

section
open L2 in
local macro_rules | `(tactic| walk_at "gx") => `(tactic| first
  | ((with_reducible show tVar _ _ _ _); refine g_var rfl ?_)
  | with_reducible refine g_c ?_
  | with_reducible refine g_op ?_
  | with_reducible refine g_cons ?_
  | with_reducible refine g_nil ?_
  | with_reducible refine g_test ?_
  | with_reducible refine g_blp ?_
  | with_reducible refine g_asg ?_
  | (with_reducible refine g_name ?_; (try simp only [List.set_cons_zero, List.set_cons_succ]))
  | with_reducible refine g_call ?_
  | with_reducible refine g_cb ?_
  | with_reducible refine g_I0 ?_
  | with_reducible refine g_U ?_
  | with_reducible refine g_eqI ?_
  | with_reducible refine g_neI ?_
  | with_reducible refine g_if ?_
  | with_reducible refine g_ret ?_
  | with_reducible refine g_retN ?_
  | with_reducible refine g_next ?_
  | with_reducible refine g_drop ?_
  | with_reducible refine g_un ?_
  | with_reducible refine g_tb ?_
  | with_reducible refine g_tup ?_
  | with_reducible refine g_lst ?_
  | with_reducible refine g_and ?_
  | with_reducible refine g_or ?_
  | with_reducible refine g_not ?_
  | with_reducible refine g_andV ?_
  | with_reducible refine g_orV ?_
  | with_reducible refine g_notV ?_
  | with_reducible refine g_ifE ?_
  | with_reducible refine g_fld ?_
  | with_reducible refine g_tt ?_
  | with_reducible refine g_ff ?_
  | with_reducible refine g_ntt ?_
  | with_reducible refine g_nff ?_
  | with_reducible refine g_for ?_
  | with_reducible refine g_list ?_
  | with_reducible refine g_tupI ?_
  | with_reducible refine g_rng1 ?_
  | with_reducible refine g_rng2 ?_
  | with_reducible refine g_enumA ?_
  | with_reducible refine g_rev ?_
  | with_reducible refine g_lc ?_
  | with_reducible refine g_gcons ?_
  | with_reducible refine g_gnil ?_
  | with_reducible refine g_yes ?_
  | with_reducible refine g_sl ?_
  | with_reducible refine g_nopart ?_
  | with_reducible refine g_part ?_
  | with_reducible refine g_int ?_
  | with_reducible refine g_dget ?_
  | with_reducible refine g_dput ?_
  | with_reducible refine g_raiseX ?_
  | with_reducible refine g_tru ?_
  | with_reducible refine g_sub ?_
  | with_reducible refine g_isN ?_
  | with_reducible refine g_notN ?_
  | with_reducible refine g_bm ?_
  | with_reducible refine L2.g_bm0 ?_
  | with_reducible refine g_pair ?_
  | with_reducible refine g_pair0 ?_
  | with_reducible refine u_int1 ?_
  | with_reducible refine g_chain ?_
  | with_reducible refine L2.g_sfld ?_
  | (with_reducible refine g_par3 ?_)
  | (with_reducible refine g_three ?_; (try simp only [List.set_cons_zero, List.set_cons_succ]))
  | ((with_reducible apply L2.g_tupT); walk_at "up"; rfl)
  | (with_reducible refine g_par ?_)
  | (with_reducible refine g_two ?_; (try simp only [List.set_cons_zero, List.set_cons_succ]))
  )
local macro_rules | `(tactic| walk_at "go") => `(tactic| first | walk_at "gx" | with_reducible refine L2.g_seq ?_)
local macro_rules | `(tactic| walk_at "gou") => `(tactic| repeat (walk_at "gx"))
local macro_rules | `(tactic| walk_at "gos") => `(tactic| repeat (walk_at "go"))
local macro_rules | `(tactic| walk_at "sl") => `(tactic| first
  | assumption
  | exact L2.Same.l (by assumption)
  | exact L2.SameD.l (by assumption)
  | exact L2.extN_l (by assumption))
local macro_rules | `(tactic| walk_at "up") => `(tactic| first
  | assumption
  | ((with_reducible apply L2.SameL.lst); walk_at "sl"; walk_at "up")
  | ((with_reducible apply L2.SameL.tupA); walk_at "sl"; walk_at "up")
  | ((with_reducible apply L2.SameL.ins); walk_at "sl"; walk_at "up")
  | ((with_reducible apply Ev.PB.l); walk_at "sl"; walk_at "up")
  | ((with_reducible apply Ev.IsP.l); walk_at "sl"; walk_at "up")
  | ((with_reducible apply L2.sqL); walk_at "up")
  | ((with_reducible apply L2.sqT); walk_at "up")
  | ((with_reducible apply L2.SameL.seq); walk_at "sl"; walk_at "up")
  | ((with_reducible apply Ev.Pen.same); assumption; walk_at "up")
  | ((with_reducible apply Ev.Pen.extN); assumption; walk_at "up")
  | ((with_reducible apply L2.tabs_s); assumption; walk_at "up")
  | ((with_reducible apply L2.tabs_dd); assumption; walk_at "up")
  | ((with_reducible apply Or.inl); walk_at "up")
  | ((with_reducible apply Or.inr); walk_at "up"))
local macro_rules | `(tactic| walk_at "new") => `(tactic| (
  first
    | refine ⟨L2.size_ok (by rfl), fun p hp => ?_⟩
    | refine fun p hp => ?_
  generalize hX : L2.upd _ p _ = H1
  obtain ⟨e, h⟩ := L2.news hp hX
  clear hX))
local macro_rules | `(tactic| walk_at "o") => `(tactic| first
  | ((with_reducible apply Ev.o_add); walk_at "up"; walk_at "up"; rfl; rfl; rfl)
  | ((with_reducible apply Ev.o_sub); walk_at "up"; walk_at "up"; rfl; rfl; rfl)
  | ((with_reducible apply Ev.o_mul); walk_at "up"; walk_at "up"; rfl; rfl; rfl)
  | ((with_reducible apply Ev.o_addI); walk_at "up"; assumption; rfl; rfl; rfl)
  | ((with_reducible apply Ev.o_subI); walk_at "up"; assumption; rfl; rfl; rfl)
  | ((with_reducible apply Ev.o_mulI); walk_at "up"; assumption; rfl; rfl; rfl)
  | ((with_reducible apply Ev.o_radd); walk_at "up"; assumption; rfl; rfl; rfl)
  | ((with_reducible apply Ev.o_rsub); walk_at "up"; assumption; rfl; rfl; rfl)
  | ((with_reducible apply Ev.o_rmul); walk_at "up"; assumption; rfl; rfl; rfl)
  | ((with_reducible apply Ev.o_neg); walk_at "up"; rfl; rfl; rfl))
local macro_rules | `(tactic| walk_at "eq") => `(tactic| ((with_reducible apply Ev.u_ownB); assumption; walk_at "up"; walk_at "up"; (focus (intro k; first | rfl | exact Pl.e_add | exact Pl.e_sub | exact Pl.e_mul | exact Pl.e_rsub | exact Pl.e_rsub2))))
local macro_rules | `(tactic| walk_at "isp") => `(tactic| (apply Ev.u_isB; walk_at "up"; walk_at "up"; rfl; rfl))

/-! n in w, bool(w). -/
namespace Wp
theorem any_bt {l : List Bool} : l.any id = true ↔ ∃ i, i < l.length ∧ bt l i = true := by
  rw [List.any_eq_true]
  constructor
  · rintro ⟨b, h1, h2⟩
    obtain ⟨i, hi, rfl⟩ := List.getElem_of_mem h1
    exact ⟨i, hi, by rw [bt_in hi]; exact h2⟩
  · rintro ⟨i, h1, h2⟩
    rw [bt_in h1] at h2
    exact ⟨_, List.getElem_mem h1, h2⟩
theorem any_mem {b r : List Bool} (hr : 0 < r.length) : (b.any id || r.any id) = true ↔ ∃ n, mem b r n = true := by
  rw [Bool.or_eq_true, any_bt, any_bt]
  constructor
  · rintro (⟨i, h1, h2⟩ | ⟨i, h1, h2⟩)
    · exact ⟨i, by unfold mem; rw [if_pos h1]; exact h2⟩
    · refine ⟨i + b.length * r.length, ?_⟩
      unfold mem
      have : b.length ≤ b.length * r.length := Nat.le_mul_of_pos_right _ hr
      rw [if_neg (by omega), Nat.add_mul_mod_self_right, Nat.mod_eq_of_lt h1]
      exact h2
  · rintro ⟨n, h⟩
    unfold mem at h
    by_cases hn : n < b.length
    · rw [if_pos hn] at h
      exact .inl ⟨n, hn, h⟩
    · rw [if_neg hn] at h
      exact .inr ⟨_, Nat.mod_lt _ hr, h⟩
end Wp
namespace Ev
open PySem PySem.Spec PyProof.Rows L2 Wp
theorem in_bools {l : List Bool} : inV (.bl true) (l.map V.bl) = l.any id := by
  unfold inV
  rw [List.any_map]
  congr 1
  funext b
  show eqV (.bl b) (.bl true) = b
  cases b <;> decide
section
variable {P : Program} {w : World} {K : PySem.W.Frag} {mg : Str → Option Value} {base : Heap}
def spTruth (K : PySem.W.Frag) (C : Addr) : Sp := fun vs H Q _ => ∃ (x : Addr) (n : Nat) (f : Nat → Bool), vs = [.ref x, .int n] ∧ WF K H x C f ∧ Q (.bl (f n)) H
theorem sc_Where_truth : FnScope ["self", "n"] ["self", "n"] (defScope (inClass (topS 19) 4)) := ⟨rfl, rfl, rfl, by decide +kernel, rfl, by decide +kernel, by decide +kernel⟩
theorem ok_Where_truth {C_Where : Addr} (B : Bn mg) (c_Where : Cls K C_Where) (n1 : NoAttr K C_Where "period") (n2 : NoAttr K C_Where "rests") (n3 : NoAttr K C_Where "start") (n4 : NoAttr K C_Where "below")
    {f : Addr} {fd : FuncData} (F : Fun K "truth" "Where.truth" (inClass (topS 19) 4) f fd) : FnOk P w K mg base (L2.CX P w) 1 f fd ["self", "n"] (spTruth K C_Where) := by
  have nd := sc_Where_truth.nd
  refine F.okX sc_Where_truth (fun vs H Q E h => ?_) (fun cdv A outer s H vs Q E hr h => ?_)
  · obtain ⟨x, n, f, rfl, _⟩ := h
    rfl
  · refine ⟨_, (pss_one (ps_ret (pe_ifExp (pt_cmpR op_lt (pv 1) (pe_fldK (K := K) rfl (pv 0) rfl) (nomark _)) (pe_ix (ix_tupK (K := K) rfl) (pe_fldK (K := K) rfl (pv 0) rfl) (pv 1) (fun _ _ => rfl)) (pe_ix (ix_tupK (K := K) rfl) (pe_fldK (K := K) rfl (pv 0) rfl) (pe_op op_modN (pv 1) (pe_fldK (K := K) rfl (pv 0) rfl)) (fun _ _ => rfl))))), ?_⟩
    obtain ⟨x, n, f, rfl, ⟨bl, rl, ⟨dx, t1, t2, hx, h1, h2⟩, hn, hm⟩, q⟩ := h
    refine g_st (σ' := [some (.ref x), some (.int n)]) rfl ?_
    walk_at "gos"
    refine u_tfld rfl hx c_Where n3 rfl ?_
    walk_at "gos"
    have e := hm n
    unfold mem at e
    by_cases h : n < bl.length
    · rw [if_pos (decide_eq_true (by omega))]
      rw [if_pos h] at e
      walk_at "gos"
      refine u_tfld rfl hx c_Where n4 rfl ?_
      walk_at "gos"
      refine u_ixT h2 (atI_nat (atB h)) ?_
      rw [e]
      exact q
    · rw [if_neg (by rw [decide_eq_true_iff]; omega)]
      rw [if_neg h] at e
      walk_at "gos"
      refine u_tfld rfl hx c_Where n2 rfl ?_
      walk_at "gos"
      refine u_tfld rfl hx c_Where n1 rfl ?_
      refine g_I (by have := hn.pos; omega) ?_
      rw [fmod_nat]
      refine u_ixT h1 (atI_nat (atB (Nat.mod_lt _ hn.pos))) ?_
      rw [e]
      exact q
def spInW (K : PySem.W.Frag) (C : Addr) : Sp := fun vs H Q _ => ∃ (x : Addr) (v : V) (f : Nat → Bool), vs = [.ref x, v] ∧ WF K H x C f ∧ ((∃ n : Nat, v = .int n ∧ Q (.bl (f n)) H) ∨ (Np K H v ∧ Q (.bl false) H))
theorem sc_Where___contains__ : FnScope ["self", "n"] ["self", "n"] (defScope (inClass (topS 19) 5)) := ⟨rfl, rfl, rfl, by decide +kernel, rfl, by decide +kernel, by decide +kernel⟩
theorem ok_Where_contains {C_Where : Addr} (B : Bn mg) (c_Where : Cls K C_Where) (G_is_place : CallF P w K mg base "is_place" ["value"] 2 (spPlace K)) (G_Where_truth : MethF P w K mg base C_Where "truth" ["self", "n"] 1 (spTruth K C_Where))
    {f : Addr} {fd : FuncData} (F : Fun K "__contains__" "Where.__contains__" (inClass (topS 19) 5) f fd) : FnOk P w K mg base (L2.CX P w) 4 f fd ["self", "n"] (spInW K C_Where) := by
  have nd := sc_Where___contains__.nd
  refine F.okX sc_Where___contains__ (fun vs H Q E h => ?_) (fun cdv A outer s H vs Q E hr h => ?_)
  · obtain ⟨x, v, f, rfl, _⟩ := h
    rfl
  · refine ⟨_, (pss_one (ps_ret (pe_and (pe_callF G_is_place (hr.mono (by decide)) rfl passL (pa_cons (pv 1) pa_nil)) (pe_one (pe_methF c_Where G_Where_truth (pv 0) (hr.mono (by decide)) passL (pa_cons (pv 1) pa_nil)))))), ?_⟩
    obtain ⟨x, v, f, rfl, hw, q⟩ := h
    refine g_st (σ' := [some (.ref x), some v]) rfl ?_
    obtain ⟨bl, rl, ⟨dx, t1, t2, hx, _⟩, _⟩ := id hw
    walk_at "gos"
    rcases q with ⟨n, rfl, q⟩ | ⟨hn, q⟩
    · refine ⟨_, rfl, .inl ⟨_, rfl, by omega, ?_⟩⟩
      walk_at "gos"
      refine ⟨.ref x, rfl, x, dx, _, rfl, hx, rfl, ?_⟩
      walk_at "gos"
      exact ⟨x, n, f, rfl, hw, q⟩
    · refine ⟨_, rfl, .inr ⟨hn, ?_⟩⟩
      walk_at "gos"
      exact q
def spBoolW (K : PySem.W.Frag) (C : Addr) : Sp := fun vs H Q _ => ∃ (x : Addr) (f : Nat → Bool), vs = [.ref x] ∧ WF K H x C f ∧ ∀ b : Bool, (b = true ↔ ∃ n, f n = true) → Q (.bl b) H
theorem sc_Where___bool__ : FnScope ["self"] ["self"] (defScope (inClass (topS 19) 7)) := ⟨rfl, rfl, rfl, by decide +kernel, rfl, by decide +kernel, by decide +kernel⟩
theorem ok_Where_bool {C_Where : Addr} (B : Bn mg) (c_Where : Cls K C_Where) (n2 : NoAttr K C_Where "rests") (n4 : NoAttr K C_Where "below")
    {f : Addr} {fd : FuncData} (F : Fun K "__bool__" "Where.__bool__" (inClass (topS 19) 7) f fd) : FnOk P w K mg base (L2.CX P w) 1 f fd ["self"] (spBoolW K C_Where) := by
  have nd := sc_Where___bool__.nd
  refine F.okX sc_Where___bool__ (fun vs H Q E h => ?_) (fun cdv A outer s H vs Q E hr h => ?_)
  · obtain ⟨x, f, rfl, _⟩ := h
    rfl
  · refine ⟨_, (pss_one (ps_ret (pe_or (pe_callB (cr_anyT (K := K) rfl rfl) (by rfl) B.any_ (by decide +kernel) (pa_cons (pe_fldK (K := K) rfl (pv 0) rfl) pa_nil)) (pe_one (pe_callB (cr_anyT (K := K) rfl rfl) (by rfl) B.any_ (by decide +kernel) (pa_cons (pe_fldK (K := K) rfl (pv 0) rfl) pa_nil)))))), ?_⟩
    obtain ⟨x, f, rfl, ⟨bl, rl, ⟨dx, t1, t2, hx, h1, h2⟩, hn, hm⟩, q⟩ := h
    refine g_st (σ' := [some (.ref x)]) rfl ?_
    have key := any_mem (b := bl) hn.pos
    have key2 : (bl.any id || rl.any id) = true ↔ ∃ n, f n = true := key.trans ⟨fun ⟨n, h⟩ => ⟨n, by rw [← hm]; exact h⟩, fun ⟨n, h⟩ => ⟨n, by rw [hm]; exact h⟩⟩
    have q' := q _ key2
    walk_at "gos"
    refine u_tfld rfl hx c_Where n4 rfl ?_
    walk_at "gos"
    refine u_anyT h2 ?_
    walk_at "gos"
    cases hb : bl.any id with
    | true =>
      rw [hb, Bool.true_or] at q'
      walk_at "gos"
      exact q'
    | false =>
      rw [hb, Bool.false_or] at q'
      walk_at "gos"
      refine u_tfld rfl hx c_Where n2 rfl ?_
      walk_at "gos"
      refine u_anyT h1 ?_
      exact q'
def spHasM (K : PySem.W.Frag) : Sp := fun vs H Q _ => ∃ (m : Addr) (B R : List Bool), vs = [.ref m] ∧ IsM H m B R ∧ 0 < R.length ∧ ∀ b : Bool, (b = true ↔ ∃ n, mem B R n = true) → Q (.bl b) H
end
end Ev

end
/-! Common places of two rests, plainly. -/
namespace Wp
theorem bezout (m n : Nat) : ∃ x y : Int, (m : Int) * x + (n : Int) * y = (Nat.gcd m n : Nat) := by
  induction m, n using Nat.gcd.induction with
  | H0 n => exact ⟨0, 1, by simp⟩
  | H1 m n hm ih =>
    obtain ⟨x, y, h⟩ := ih
    rw [Nat.gcd_rec, ← h]
    refine ⟨y - (n / m : Nat) * x, x, ?_⟩
    have e : (n : Int) = (n % m : Nat) + (m : Int) * (n / m : Nat) := by
      have := Nat.mod_add_div n m
      omega
    have e2 : (n : Int) * x = ((n % m : Nat) + (m : Int) * (n / m : Nat)) * x := by rw [← e]
    rw [e2, Int.mul_sub, Int.add_mul, Int.mul_assoc]
    omega
/-- a place far out with both rests -/
theorem common_place {p q r s : Nat} (hp : 0 < p) (hq : 0 < q) (hr : r < p) (hs : s < q) (h : r % Nat.gcd p q = s % Nat.gcd p q) (N : Nat) : ∃ n, N ≤ n ∧ n % p = r ∧ n % q = s := by
  obtain ⟨x, y, hxy⟩ := bezout p q
  have hg : 0 < Nat.gcd p q := Nat.gcd_pos_of_pos_left _ hp
  obtain ⟨d, hd⟩ : ∃ d : Int, (s : Int) - r = (Nat.gcd p q : Nat) * d := by
    have h1 : ((s : Int) - r) % (Nat.gcd p q : Nat) = 0 := by
      apply Int.emod_eq_zero_of_dvd
      apply Int.dvd_of_emod_eq_zero
      rw [Int.sub_emod]
      have : (s : Int) % (Nat.gcd p q : Nat) = (r : Int) % (Nat.gcd p q : Nat) := by
        rw [← Int.natCast_emod, ← Int.natCast_emod, h]
      rw [this]
      simp
    exact Int.dvd_of_emod_eq_zero h1
  -- z has both rests
  obtain ⟨z, hz⟩ : ∃ z : Int, z = r + p * (x * d) := ⟨_, rfl⟩
  have hz2 : z = s - q * (y * d) := by
    have : (s : Int) - r = p * (x * d) + q * (y * d) := by
      rw [hd, ← hxy, Int.add_mul, Int.mul_assoc, Int.mul_assoc]
    omega
  -- far out
  obtain ⟨K, hK⟩ : ∃ K : Int, K = (N : Int) + z.natAbs := ⟨_, rfl⟩
  have hpq : (1 : Int) ≤ (p : Int) * q := by
    have : 0 < p * q := Nat.mul_pos hp hq
    have : (1 : Int) ≤ ((p * q : Nat) : Int) := by omega
    rwa [Int.natCast_mul] at this
  have hKp : K ≤ p * q * K := by
    have := Int.mul_le_mul_of_nonneg_right hpq (show (0 : Int) ≤ K by omega)
    rwa [Int.one_mul] at this
  obtain ⟨n, hn⟩ : ∃ n : Nat, (n : Int) = z + p * q * K := ⟨(z + p * q * K).toNat, by omega⟩
  refine ⟨n, by omega, ?_, ?_⟩
  · have e : (n : Int) = r + p * (x * d + q * K) := by rw [hn, hz, Int.mul_add, Int.mul_assoc]; omega
    have e2 : (n : Int) % p = r := by rw [e, Int.add_mul_emod_self_left]; exact Int.emod_eq_of_lt (by omega) (by omega)
    omega
  · have e : (n : Int) = s + q * (p * K - y * d) := by rw [hn, hz2, Int.mul_sub, Int.mul_comm (p : Int) q, Int.mul_assoc]; omega
    have e2 : (n : Int) % q = s := by rw [e, Int.add_mul_emod_self_left]; exact Int.emod_eq_of_lt (by omega) (by omega)
    omega
theorem common_rest {p q n : Nat} : (n % p) % Nat.gcd p q = (n % q) % Nat.gcd p q := by
  rw [Nat.mod_mod_of_dvd _ (Nat.gcd_dvd_left p q), Nat.mod_mod_of_dvd _ (Nat.gcd_dvd_right p q)]
/-- one is a part of the other -/
def Part (f g : Nat → Bool) : Prop := ∀ n, f n = true → g n = true
theorem part_iff {b1 r1 b2 r2 : List Bool} (h1 : 0 < r1.length) (h2 : 0 < r2.length) :
    Part (mem b1 r1) (mem b2 r2) ↔ (∀ n, n < max b1.length b2.length → mem b1 r1 n = true → mem b2 r2 n = true) ∧ ∀ i j, i < r1.length → j < r2.length → bt r1 i = true → bt r2 j = false → i % Nat.gcd r1.length r2.length ≠ j % Nat.gcd r1.length r2.length := by
  constructor
  · intro h
    refine ⟨fun n _ => h n, fun i j hi hj e1 e2 e3 => ?_⟩
    obtain ⟨n, hn, g1, g2⟩ := common_place h1 h2 hi hj e3 (max b1.length b2.length)
    have k1 : mem b1 r1 n = true := by unfold mem; rw [if_neg (by omega), g1]; exact e1
    have k2 : mem b2 r2 n = false := by unfold mem; rw [if_neg (by omega), g2]; exact e2
    rw [h n k1] at k2
    cases k2
  · rintro ⟨g1, g2⟩ n hn
    by_cases hlt : n < max b1.length b2.length
    · exact g1 n hlt hn
    · have k1 : bt r1 (n % r1.length) = true := by unfold mem at hn; rw [if_neg (by omega)] at hn; exact hn
      unfold mem
      rw [if_neg (by omega)]
      cases hb : bt r2 (n % r2.length) with
      | true => rfl
      | false => exact absurd common_rest (g2 _ _ (Nat.mod_lt _ h1) (Nat.mod_lt _ h2) k1 hb)
/-- by all n up to a common round -/
theorem part_low {b1 r1 b2 r2 : List Bool} (h1 : 0 < r1.length) (h2 : 0 < r2.length) {N : Nat} (hN : max b1.length b2.length + r1.length * r2.length ≤ N) : Part (mem b1 r1) (mem b2 r2) ↔ ∀ n, n < N → mem b1 r1 n = true → mem b2 r2 n = true := by
  constructor
  · exact fun h n _ => h n
  · intro h n hn
    by_cases hlt : n < N
    · exact h n hlt hn
    · obtain ⟨m, hm⟩ : ∃ m, m = max b1.length b2.length + (n - max b1.length b2.length) % (r1.length * r2.length) := ⟨_, rfl⟩
      have hpq : 0 < r1.length * r2.length := Nat.mul_pos h1 h2
      have hml := Nat.mod_lt (n - max b1.length b2.length) hpq
      have e : n = m + (n - max b1.length b2.length) / (r1.length * r2.length) * (r1.length * r2.length) := by
        have := Nat.mod_add_div (n - max b1.length b2.length) (r1.length * r2.length)
        rw [Nat.mul_comm (r1.length * r2.length) ((n - max b1.length b2.length) / (r1.length * r2.length))] at this
        omega
      have e1 : mem b1 r1 n = mem b1 r1 m := by
        conv => lhs; rw [e]
        rw [show (n - max b1.length b2.length) / (r1.length * r2.length) * (r1.length * r2.length) = (n - max b1.length b2.length) / (r1.length * r2.length) * r2.length * r1.length by rw [Nat.mul_comm r1.length, Nat.mul_assoc]]
        exact (mem_per.mul _) m (by omega)
      have e2 : mem b2 r2 n = mem b2 r2 m := by
        conv => lhs; rw [e]
        rw [show (n - max b1.length b2.length) / (r1.length * r2.length) * (r1.length * r2.length) = (n - max b1.length b2.length) / (r1.length * r2.length) * r1.length * r2.length by rw [Nat.mul_assoc]]
        exact (mem_per.mul _) m (by omega)
      rw [e2]
      rw [e1] at hn
      exact h m (by omega) hn
/-- sets by rests -/
theorem rest_part {m j r s : Nat} (hm : 0 < m) (hj : 0 < j) (hr : r < m) : Part (fun n => decide (n % m = r)) (fun n => decide (n % j = s)) ↔ m % j = 0 ∧ r % j = s := by
  constructor
  · intro h
    have h1 := of_decide_eq_true (h r (decide_eq_true (Nat.mod_eq_of_lt hr)))
    have h2 := of_decide_eq_true (h (r + m) (decide_eq_true (by rw [Nat.add_mod_right, Nat.mod_eq_of_lt hr])))
    refine ⟨?_, h1⟩
    have e : (r + m) % j = r % j := by rw [h1, h2]
    have : ((r + m : Nat) : Int) % j = (r : Int) % j := by rw [← Int.natCast_emod, ← Int.natCast_emod, e]
    have h3 : (((r + m : Nat) : Int) - r) % j = 0 := Int.emod_eq_zero_of_dvd (Int.dvd_of_emod_eq_zero (by rw [Int.sub_emod, this]; simp))
    have h4 : ((m : Nat) : Int) % j = 0 := by
      rw [show ((r + m : Nat) : Int) - r = (m : Nat) by omega] at h3
      exact h3
    omega
  · rintro ⟨h1, h2⟩ n hn
    have hn := of_decide_eq_true hn
    refine decide_eq_true ?_
    rw [← h2, ← hn, Nat.mod_mod_of_dvd _ (Nat.dvd_of_mod_eq_zero h1)]
theorem rest_apart {m j r s : Nat} (hm : 0 < m) (hj : 0 < j) (hr : r < m) (hs : s < j) : Part (fun n => decide (n % m = r)) (fun n => !decide (n % j = s)) ↔ r % Nat.gcd m j ≠ s % Nat.gcd m j := by
  constructor
  · intro h e
    obtain ⟨n, _, h1, h2⟩ := common_place hm hj hr hs e 0
    have := h n (decide_eq_true h1)
    simp [h2] at this
  · intro h n hn
    have hn := of_decide_eq_true hn
    cases hb : decide (n % j = s) with
    | false => show (!decide (n % j = s)) = true; rw [hb]; rfl
    | true =>
      have hb := of_decide_eq_true hb
      exact absurd (by rw [← hn, ← hb]; exact common_rest) h
end Wp

section
open L2 in
local macro_rules | `(tactic| walk_at "gx") => `(tactic| first
  | ((with_reducible show tVar _ _ _ _); refine g_var rfl ?_)
  | with_reducible refine g_c ?_
  | with_reducible refine g_op ?_
  | with_reducible refine g_cons ?_
  | with_reducible refine g_nil ?_
  | with_reducible refine g_test ?_
  | with_reducible refine g_blp ?_
  | with_reducible refine g_asg ?_
  | (with_reducible refine g_name ?_; (try simp only [List.set_cons_zero, List.set_cons_succ]))
  | with_reducible refine g_call ?_
  | with_reducible refine g_cb ?_
  | with_reducible refine g_I0 ?_
  | with_reducible refine g_U ?_
  | with_reducible refine g_eqI ?_
  | with_reducible refine g_neI ?_
  | with_reducible refine g_if ?_
  | with_reducible refine g_ret ?_
  | with_reducible refine g_retN ?_
  | with_reducible refine g_next ?_
  | with_reducible refine g_drop ?_
  | with_reducible refine g_un ?_
  | with_reducible refine g_tb ?_
  | with_reducible refine g_tup ?_
  | with_reducible refine g_lst ?_
  | with_reducible refine g_and ?_
  | with_reducible refine g_or ?_
  | with_reducible refine g_not ?_
  | with_reducible refine g_andV ?_
  | with_reducible refine g_orV ?_
  | with_reducible refine g_notV ?_
  | with_reducible refine g_ifE ?_
  | with_reducible refine g_fld ?_
  | with_reducible refine g_tt ?_
  | with_reducible refine g_ff ?_
  | with_reducible refine g_ntt ?_
  | with_reducible refine g_nff ?_
  | with_reducible refine g_for ?_
  | with_reducible refine g_list ?_
  | with_reducible refine g_tupI ?_
  | with_reducible refine g_rng1 ?_
  | with_reducible refine g_rng2 ?_
  | with_reducible refine g_enumA ?_
  | with_reducible refine g_rev ?_
  | with_reducible refine g_lc ?_
  | with_reducible refine g_gcons ?_
  | with_reducible refine g_gnil ?_
  | with_reducible refine g_yes ?_
  | with_reducible refine g_sl ?_
  | with_reducible refine g_nopart ?_
  | with_reducible refine g_part ?_
  | with_reducible refine g_int ?_
  | with_reducible refine g_dget ?_
  | with_reducible refine g_dput ?_
  | with_reducible refine g_raiseX ?_
  | with_reducible refine g_tru ?_
  | with_reducible refine g_sub ?_
  | with_reducible refine g_isN ?_
  | with_reducible refine g_notN ?_
  | with_reducible refine g_bm ?_
  | with_reducible refine L2.g_bm0 ?_
  | with_reducible refine g_pair ?_
  | with_reducible refine g_pair0 ?_
  | with_reducible refine u_int1 ?_
  | with_reducible refine g_chain ?_
  | with_reducible refine L2.g_sfld ?_
  | (with_reducible refine g_par3 ?_)
  | (with_reducible refine g_three ?_; (try simp only [List.set_cons_zero, List.set_cons_succ]))
  | ((with_reducible apply L2.g_tupT); walk_at "up"; rfl)
  | (with_reducible refine g_par ?_)
  | (with_reducible refine g_two ?_; (try simp only [List.set_cons_zero, List.set_cons_succ]))
  )
local macro_rules | `(tactic| walk_at "go") => `(tactic| first | walk_at "gx" | with_reducible refine L2.g_seq ?_)
local macro_rules | `(tactic| walk_at "gou") => `(tactic| repeat (walk_at "gx"))
local macro_rules | `(tactic| walk_at "gos") => `(tactic| repeat (walk_at "go"))
local macro_rules | `(tactic| walk_at "sl") => `(tactic| first
  | assumption
  | exact L2.Same.l (by assumption)
  | exact L2.SameD.l (by assumption)
  | exact L2.extN_l (by assumption))
local macro_rules | `(tactic| walk_at "up") => `(tactic| first
  | assumption
  | ((with_reducible apply L2.SameL.lst); walk_at "sl"; walk_at "up")
  | ((with_reducible apply L2.SameL.tupA); walk_at "sl"; walk_at "up")
  | ((with_reducible apply L2.SameL.ins); walk_at "sl"; walk_at "up")
  | ((with_reducible apply Ev.PB.l); walk_at "sl"; walk_at "up")
  | ((with_reducible apply Ev.IsP.l); walk_at "sl"; walk_at "up")
  | ((with_reducible apply L2.sqL); walk_at "up")
  | ((with_reducible apply L2.sqT); walk_at "up")
  | ((with_reducible apply L2.SameL.seq); walk_at "sl"; walk_at "up")
  | ((with_reducible apply Ev.Pen.same); assumption; walk_at "up")
  | ((with_reducible apply Ev.Pen.extN); assumption; walk_at "up")
  | ((with_reducible apply L2.tabs_s); assumption; walk_at "up")
  | ((with_reducible apply L2.tabs_dd); assumption; walk_at "up")
  | ((with_reducible apply Or.inl); walk_at "up")
  | ((with_reducible apply Or.inr); walk_at "up"))
local macro_rules | `(tactic| walk_at "new") => `(tactic| (
  first
    | refine ⟨L2.size_ok (by rfl), fun p hp => ?_⟩
    | refine fun p hp => ?_
  generalize hX : L2.upd _ p _ = H1
  obtain ⟨e, h⟩ := L2.news hp hX
  clear hX))
local macro_rules | `(tactic| walk_at "o") => `(tactic| first
  | ((with_reducible apply Ev.o_add); walk_at "up"; walk_at "up"; rfl; rfl; rfl)
  | ((with_reducible apply Ev.o_sub); walk_at "up"; walk_at "up"; rfl; rfl; rfl)
  | ((with_reducible apply Ev.o_mul); walk_at "up"; walk_at "up"; rfl; rfl; rfl)
  | ((with_reducible apply Ev.o_addI); walk_at "up"; assumption; rfl; rfl; rfl)
  | ((with_reducible apply Ev.o_subI); walk_at "up"; assumption; rfl; rfl; rfl)
  | ((with_reducible apply Ev.o_mulI); walk_at "up"; assumption; rfl; rfl; rfl)
  | ((with_reducible apply Ev.o_radd); walk_at "up"; assumption; rfl; rfl; rfl)
  | ((with_reducible apply Ev.o_rsub); walk_at "up"; assumption; rfl; rfl; rfl)
  | ((with_reducible apply Ev.o_rmul); walk_at "up"; assumption; rfl; rfl; rfl)
  | ((with_reducible apply Ev.o_neg); walk_at "up"; rfl; rfl; rfl))
local macro_rules | `(tactic| walk_at "eq") => `(tactic| ((with_reducible apply Ev.u_ownB); assumption; walk_at "up"; walk_at "up"; (focus (intro k; first | rfl | exact Pl.e_add | exact Pl.e_sub | exact Pl.e_mul | exact Pl.e_rsub | exact Pl.e_rsub2))))
local macro_rules | `(tactic| walk_at "isp") => `(tactic| (apply Ev.u_isB; walk_at "up"; walk_at "up"; rfl; rfl))

/-! Values that are handed and told again. -/
namespace Ev
open PySem PySem.Spec PyProof.Rows L2 Wp
/-- a plain value, an integer only if p -/
inductive PV (p : Int → Prop) (H : Hp) : V → Prop
  | int (i : Int) (h : p i) : PV p H (.int i)
  | bl (b : Bool) : PV p H (.bl b)
  | non : PV p H .non
  | str (x : Str) (h : PyData.canLay0 (.str x) = true) : PV p H (.str x)
  | tup (t : Addr) (j : Int) (h : H t = some (.tup [.int j])) : PV p H (.ref t)
theorem PV.l {p : Int → Prop} {H H' : Hp} {v : V} (e : SameL H H') : PV p H v → PV p H' v
  | .int i h => .int i h
  | .bl b => .bl b
  | .non => .non
  | .str x h => .str x h
  | .tup t j h => .tup t j (e.tupA h)
theorem PV.mono {p p' : Int → Prop} {H : Hp} {v : V} (e : ∀ i, p i → p' i) : PV p H v → PV p' H v
  | .int i h => .int i (e i h)
  | .bl b => .bl b
  | .non => .non
  | .str x h => .str x h
  | .tup t j h => .tup t j h
theorem PV.dp {K : PySem.W.Frag} {p : Int → Prop} {H : Hp} {v : V} : PV p H v → ∃ d, Dp K H v d ∧ d.canLay0 = true ∧ d.depth ≤ 3 ∧ PyData.eqv d d = true
  | .int i h => ⟨.int i, .int i, rfl, Nat.zero_le 3, by simp [PyData.eqv]⟩
  | .bl b => ⟨.bool b, .bl b, rfl, Nat.zero_le 3, by simp [PyData.eqv]⟩
  | .non => ⟨.none, .non, rfl, Nat.zero_le 3, by simp [PyData.eqv]⟩
  | .str x h => ⟨.str x, .str x, h, Nat.zero_le 3, by simp [PyData.eqv]⟩
  | .tup t j h => ⟨.tuple [.int j], .tup (sqT h) (.cons (.int j) .nil), by simp [PyData.canLay0, PyData.canLayAll0], by simp [PyData.depth, PyData.depthAll], by simp [PyData.eqv, PyData.eqvAll]⟩
theorem PV.kd {K : PySem.W.Frag} {p : Int → Prop} {H : Hp} {v : V} : PV p H v → Kd K H v false ∨ ∃ i, p i ∧ v = .int i
  | .int i h => .inr ⟨i, h, rfl⟩
  | .bl b => .inl Kd.bl
  | .non => .inl Kd.non
  | .str x h => .inl Kd.str
  | .tup t j h => .inl (Kd.tup h)
theorem PV.nat {p : Int → Prop} {H : Hp} {v : V} {n : Nat} (hp : ∀ i, p i → i < 0) (h : PV p H v) (e : v = nV n) : False := by
  subst e
  unfold nV at h
  cases h with
  | int i h => have := hp _ h; omega
theorem nats_inj : ∀ {ns ms : List Nat}, ns.map nV = ms.map nV → ns = ms
  | [], [], _ => rfl
  | [], _ :: _, h => by cases h
  | _ :: _, [], h => by cases h
  | a :: r, b :: t, h => by
    rw [List.map_cons, List.map_cons] at h
    injection h with h1 h2
    unfold nV at h1
    injection h1 with h1
    rw [Int.ofNat_inj.mp h1, nats_inj h2]
theorem nat_mem {ns : List Nat} {x : V} (h : x ∈ ns.map nV) : ∃ n : Nat, n ∈ ns ∧ x = .int n := by
  obtain ⟨n, h1, rfl⟩ := List.mem_map.mp h
  exact ⟨n, h1, rfl⟩
/-- an odd member put among others -/
theorem bad_at {l : List V} {k j : Nat} {odd big x : V} (hk : k ≤ l.length) (h : (l.take k ++ [odd] ++ l.drop k ++ [big])[j]? = some x) : (j = k ∧ x = odd) ∨ (j ≠ k ∧ (x ∈ l ∨ x = big)) := by
  have hl : (l.take k).length = k := by rw [List.length_take]; omega
  have hl2 : (l.take k ++ [odd]).length = k + 1 := by rw [List.length_append, hl]; rfl
  by_cases h1 : j < k
  · rw [List.append_assoc, List.append_assoc, List.getElem?_append_left (by omega)] at h
    exact .inr ⟨by omega, .inl (List.mem_of_mem_take (List.mem_of_getElem? h))⟩
  · by_cases h2 : j = k
    · subst h2
      rw [List.append_assoc, List.append_assoc, List.getElem?_append_right (by omega), hl, Nat.sub_self] at h
      exact .inl ⟨rfl, (Option.some.inj h).symm⟩
    · rw [List.append_assoc, List.getElem?_append_right (by omega)] at h
      rcases List.mem_append.mp (List.mem_of_getElem? h) with h | h
      · exact .inr ⟨h2, .inl (List.mem_of_mem_drop h)⟩
      · exact .inr ⟨h2, .inr (List.mem_singleton.mp h)⟩
theorem bad_no {l : List V} {k : Nat} {odd big : V} {ns : List Nat} {p : Int → Prop} {H : Hp} (hk : k ≤ l.length) (hp : ∀ i, p i → i < 0) (ho : PV p H odd) (h : l.take k ++ [odd] ++ l.drop k ++ [big] = ns.map nV) : False := by
  have hl : (l.take k).length = k := by rw [List.length_take]; omega
  have e : (l.take k ++ [odd] ++ l.drop k ++ [big])[k]? = some odd := by
    rw [List.append_assoc, List.append_assoc, List.getElem?_append_right (by omega), hl, Nat.sub_self]; rfl
  rw [h] at e
  exact ho.nat hp (at_nats e)
theorem mem_list {N k : Nat} {ps : List Nat} (h : ∀ n, n ∈ ps → n < N) : mem ((List.range N).map fun n => decide (n ∈ ps)) [false] k = decide (k ∈ ps) := by
  unfold mem
  rw [List.length_map, List.length_range]
  by_cases hk : k < N
  · rw [if_pos hk, bt_in (by rw [List.length_map, List.length_range]; exact hk), List.getElem_map, List.getElem_range]
  · rw [if_neg hk, decide_eq_false (fun z => hk (h k z))]
    simp [bt, Nat.mod_one]
section
variable {K : PySem.W.Frag} {H : Hp} {a b : Addr} {x : Str} {v : V} {p : Int → Prop} {Q : VK}
theorem u_neTagV (hx : PyData.canLay0 (.str x) = true) (h : H a = some (.tup [.str x, v])) (h' : H b = some (.tup [.str x, v])) (hv : PV p H v) (q : Q (.bl false) H) : rNeD K (.ref a) (.ref b) H Q := by
  obtain ⟨d, h1, h2, h3, h4⟩ := hv.dp (K := K)
  exact u_neD (b := true) (.tup (sqT h) (.cons (.str _) (.cons h1 .nil))) (.tup (sqT h') (.cons (.str _) (.cons h1 .nil))) (shaped_tag hx h2 h3) (shaped_tag hx h2 h3) (by simp [PyData.eqv, PyData.eqvAll, h4]) q
theorem u_eqTagV (hx : PyData.canLay0 (.str x) = true) (h : H a = some (.tup [.str x, v])) (h' : H b = some (.tup [.str x, v])) (hv : PV p H v) (q : Q (.bl true) H) : rEqD K (.ref a) (.ref b) H Q := by
  obtain ⟨d, h1, h2, h3, h4⟩ := hv.dp (K := K)
  refine ⟨_, _, .tup (sqT h) (.cons (.str _) (.cons h1 .nil)), .tup (sqT h') (.cons (.str _) (.cons h1 .nil)), shaped_tag hx h2 h3, shaped_tag hx h2 h3, ?_⟩
  have e : PyData.eqv (.tuple [.str x, d]) (.tuple [.str x, d]) = true := by simp [PyData.eqv, PyData.eqvAll, h4]
  rw [e]
  exact q
theorem u_eqNon (q : Q (.bl true) H) : rEqD K .non .non H Q := ⟨_, _, .non, .non, by decide, by decide, by
  have e : PyData.eqv .none .none = true := by simp [PyData.eqv]
  rw [e]; exact q⟩
theorem in_nats {n : Nat} {ns : List Nat} : inV (.int n) (ns.map nV) = decide (n ∈ ns) := by
  unfold inV
  rw [List.any_map]
  induction ns with
  | nil => rfl
  | cons m r ih =>
    rw [List.any_cons, ih]
    have e : ((fun y => eqV y (V.int n)) ∘ nV) m = decide (n = m) := by
      show eqV (.int m) (.int n) = _
      simp only [eqV]
      by_cases h : n = m
      · subst h; simp
      · rw [decide_eq_false h, beq_eq_false_iff_ne]; omega
    rw [e]
    by_cases h1 : n = m <;> by_cases h2 : n ∈ r <;> simp [h1, h2]
theorem flat_nats {ns : List Nat} : (ns.map nV).all flatV = true := by
  rw [List.all_map, List.all_eq_true]
  intro n _
  rfl
end
end Ev

end
section
open L2 in
local macro_rules | `(tactic| walk_at "gx") => `(tactic| first
  | ((with_reducible show tVar _ _ _ _); refine g_var rfl ?_)
  | with_reducible refine g_c ?_
  | with_reducible refine g_op ?_
  | with_reducible refine g_cons ?_
  | with_reducible refine g_nil ?_
  | with_reducible refine g_test ?_
  | with_reducible refine g_blp ?_
  | with_reducible refine g_asg ?_
  | (with_reducible refine g_name ?_; (try simp only [List.set_cons_zero, List.set_cons_succ]))
  | with_reducible refine g_call ?_
  | with_reducible refine g_cb ?_
  | with_reducible refine g_I0 ?_
  | with_reducible refine g_U ?_
  | with_reducible refine g_eqI ?_
  | with_reducible refine g_neI ?_
  | with_reducible refine g_if ?_
  | with_reducible refine g_ret ?_
  | with_reducible refine g_retN ?_
  | with_reducible refine g_next ?_
  | with_reducible refine g_drop ?_
  | with_reducible refine g_un ?_
  | with_reducible refine g_tb ?_
  | with_reducible refine g_tup ?_
  | with_reducible refine g_lst ?_
  | with_reducible refine g_and ?_
  | with_reducible refine g_or ?_
  | with_reducible refine g_not ?_
  | with_reducible refine g_andV ?_
  | with_reducible refine g_orV ?_
  | with_reducible refine g_notV ?_
  | with_reducible refine g_ifE ?_
  | with_reducible refine g_fld ?_
  | with_reducible refine g_tt ?_
  | with_reducible refine g_ff ?_
  | with_reducible refine g_ntt ?_
  | with_reducible refine g_nff ?_
  | with_reducible refine g_for ?_
  | with_reducible refine g_list ?_
  | with_reducible refine g_tupI ?_
  | with_reducible refine g_rng1 ?_
  | with_reducible refine g_rng2 ?_
  | with_reducible refine g_enumA ?_
  | with_reducible refine g_rev ?_
  | with_reducible refine g_lc ?_
  | with_reducible refine g_gcons ?_
  | with_reducible refine g_gnil ?_
  | with_reducible refine g_yes ?_
  | with_reducible refine g_sl ?_
  | with_reducible refine g_nopart ?_
  | with_reducible refine g_part ?_
  | with_reducible refine g_int ?_
  | with_reducible refine g_dget ?_
  | with_reducible refine g_dput ?_
  | with_reducible refine g_raiseX ?_
  | with_reducible refine g_tru ?_
  | with_reducible refine g_sub ?_
  | with_reducible refine g_isN ?_
  | with_reducible refine g_notN ?_
  | with_reducible refine g_bm ?_
  | with_reducible refine L2.g_bm0 ?_
  | with_reducible refine g_pair ?_
  | with_reducible refine g_pair0 ?_
  | with_reducible refine u_int1 ?_
  | with_reducible refine g_chain ?_
  | with_reducible refine L2.g_sfld ?_
  | (with_reducible refine g_par3 ?_)
  | (with_reducible refine g_three ?_; (try simp only [List.set_cons_zero, List.set_cons_succ]))
  | ((with_reducible apply L2.g_tupT); walk_at "up"; rfl)
  | (with_reducible refine g_par ?_)
  | (with_reducible refine g_two ?_; (try simp only [List.set_cons_zero, List.set_cons_succ]))
  )
local macro_rules | `(tactic| walk_at "go") => `(tactic| first | walk_at "gx" | with_reducible refine L2.g_seq ?_)
local macro_rules | `(tactic| walk_at "gou") => `(tactic| repeat (walk_at "gx"))
local macro_rules | `(tactic| walk_at "gos") => `(tactic| repeat (walk_at "go"))
local macro_rules | `(tactic| walk_at "sl") => `(tactic| first
  | assumption
  | exact L2.Same.l (by assumption)
  | exact L2.SameD.l (by assumption)
  | exact L2.extN_l (by assumption))
local macro_rules | `(tactic| walk_at "up") => `(tactic| first
  | assumption
  | ((with_reducible apply L2.SameL.lst); walk_at "sl"; walk_at "up")
  | ((with_reducible apply L2.SameL.tupA); walk_at "sl"; walk_at "up")
  | ((with_reducible apply L2.SameL.ins); walk_at "sl"; walk_at "up")
  | ((with_reducible apply Ev.PB.l); walk_at "sl"; walk_at "up")
  | ((with_reducible apply Ev.IsP.l); walk_at "sl"; walk_at "up")
  | ((with_reducible apply L2.sqL); walk_at "up")
  | ((with_reducible apply L2.sqT); walk_at "up")
  | ((with_reducible apply L2.SameL.seq); walk_at "sl"; walk_at "up")
  | ((with_reducible apply Ev.Pen.same); assumption; walk_at "up")
  | ((with_reducible apply Ev.Pen.extN); assumption; walk_at "up")
  | ((with_reducible apply L2.tabs_s); assumption; walk_at "up")
  | ((with_reducible apply L2.tabs_dd); assumption; walk_at "up")
  | ((with_reducible apply Or.inl); walk_at "up")
  | ((with_reducible apply Or.inr); walk_at "up"))
local macro_rules | `(tactic| walk_at "new") => `(tactic| (
  first
    | refine ⟨L2.size_ok (by rfl), fun p hp => ?_⟩
    | refine fun p hp => ?_
  generalize hX : L2.upd _ p _ = H1
  obtain ⟨e, h⟩ := L2.news hp hX
  clear hX))
local macro_rules | `(tactic| walk_at "o") => `(tactic| first
  | ((with_reducible apply Ev.o_add); walk_at "up"; walk_at "up"; rfl; rfl; rfl)
  | ((with_reducible apply Ev.o_sub); walk_at "up"; walk_at "up"; rfl; rfl; rfl)
  | ((with_reducible apply Ev.o_mul); walk_at "up"; walk_at "up"; rfl; rfl; rfl)
  | ((with_reducible apply Ev.o_addI); walk_at "up"; assumption; rfl; rfl; rfl)
  | ((with_reducible apply Ev.o_subI); walk_at "up"; assumption; rfl; rfl; rfl)
  | ((with_reducible apply Ev.o_mulI); walk_at "up"; assumption; rfl; rfl; rfl)
  | ((with_reducible apply Ev.o_radd); walk_at "up"; assumption; rfl; rfl; rfl)
  | ((with_reducible apply Ev.o_rsub); walk_at "up"; assumption; rfl; rfl; rfl)
  | ((with_reducible apply Ev.o_rmul); walk_at "up"; assumption; rfl; rfl; rfl)
  | ((with_reducible apply Ev.o_neg); walk_at "up"; rfl; rfl; rfl))
local macro_rules | `(tactic| walk_at "eq") => `(tactic| ((with_reducible apply Ev.u_ownB); assumption; walk_at "up"; walk_at "up"; (focus (intro k; first | rfl | exact Pl.e_add | exact Pl.e_sub | exact Pl.e_mul | exact Pl.e_rsub | exact Pl.e_rsub2))))
local macro_rules | `(tactic| walk_at "isp") => `(tactic| (apply Ev.u_isB; walk_at "up"; walk_at "up"; rfl; rfl))

/-! A part of a set: is_within, the orders, ~. -/
namespace Wp
theorem part_iff_eq {f g : Nat → Bool} : (Part f g ∧ Part g f) ↔ ∀ n, f n = g n := by
  constructor
  · rintro ⟨h1, h2⟩ n
    cases hf : f n with
    | true => rw [h1 n hf]
    | false =>
      cases hg : g n with
      | false => rfl
      | true => rw [h2 n hg] at hf; cases hf
  · intro h
    exact ⟨fun n hn => by rw [← h]; exact hn, fun n hn => by rw [h]; exact hn⟩
end Wp
namespace Ev
open PySem PySem.Spec PyProof.Rows L2 Wp
section
variable {P : Program} {w : World} {K : PySem.W.Frag} {mg : Str → Option Value} {base : Heap}
/-- told by rows within the bounds -/
def Bnd (f : Nat → Bool) : Prop := ∃ B R : List Bool, 0 < R.length ∧ R.length ≤ 720 ∧ B.length ≤ 10000 ∧ ∀ n, mem B R n = f n
def WFb (K : PySem.W.Frag) (H : Hp) (x C : Addr) (f : Nat → Bool) : Prop := WF K H x C f ∧ Bnd f
theorem WFb.get {H : Hp} {x C : Addr} {f : Nat → Bool} : WFb K H x C f → ∃ bl rl, IsW K H x C bl rl ∧ Nm bl rl ∧ (∀ n, mem bl rl n = f n) ∧ rl.length ≤ 720 ∧ bl.length ≤ 10000 := fun ⟨⟨bl, rl, h1, h2, h3⟩, B, R, g1, g2, g3, g4⟩ =>
  ⟨bl, rl, h1, h2, h3, by have := nm_len g1 h2 (fun n => by rw [h3, g4]); omega, by have := nm_len g1 h2 (fun n => by rw [h3, g4]); omega⟩
theorem WFb.l {H H' : Hp} {x C : Addr} {f : Nat → Bool} (e : SameL H H') (h : WFb K H x C f) : WFb K H' x C f := ⟨h.1.l e, h.2⟩
theorem mem_not {B R : List Bool} (h1 : 0 < R.length) (n : Nat) : mem (B.map (!·)) (R.map (!·)) n = !mem B R n := by
  unfold mem
  rw [List.length_map, List.length_map]
  have hb : ∀ (l : List Bool) k, k < l.length → bt (l.map (!·)) k = !bt l k := fun l k hk => by rw [bt_in (by rw [List.length_map]; exact hk), List.getElem_map, bt_in hk]
  by_cases hn : n < B.length
  · rw [if_pos hn, if_pos hn, hb _ _ hn]
  · rw [if_neg hn, if_neg hn, hb _ _ (Nat.mod_lt _ h1)]
theorem Bnd.not {f : Nat → Bool} : Bnd f → Bnd fun n => !f n := fun ⟨B, R, h1, h2, h3, h4⟩ =>
  ⟨B.map (!·), R.map (!·), by rw [List.length_map]; exact h1, by rw [List.length_map]; exact h2, by rw [List.length_map]; exact h3, fun n => by
    show _ = !f n
    rw [← h4, mem_not h1]⟩
theorem bnd_rest {m r : Nat} (h : 0 < m) (h2 : m ≤ 720) : Bnd fun k => decide (k % m = r) :=
  ⟨[], (List.range m).map fun i => decide (i = r), by rw [List.length_map, List.length_range]; exact h, by rw [List.length_map, List.length_range]; exact h2, by decide, fun n => mem_rest h⟩
theorem bnd_since {m : Nat} (h : m ≤ 10000) : Bnd fun k => decide (m ≤ k) := ⟨List.replicate m false, [true], by decide, by decide, by rw [List.length_replicate]; exact h, fun n => mem_since⟩
theorem bnd_none : Bnd fun _ => false := ⟨[], [false], by decide, by decide, by decide, fun n => by unfold mem; simp [bt, Nat.mod_one]⟩
def spWithin (K : PySem.W.Frag) (C : Addr) : Sp := fun vs H Q _ => ∃ (x y : Addr) (f g : Nat → Bool), vs = [.ref x, .ref y] ∧ WFb K H x C f ∧ WFb K H y C g ∧ ∀ (b : Bool) H', (b = true ↔ Part f g) → Same H H' → Q (.bl b) H'
theorem sc_is_within : FnScope ["one", "other", "n", "shared", "r", "lacking"] ["one", "other"] (defScope (topS 22)) := ⟨rfl, rfl, rfl, by decide +kernel, rfl, by decide +kernel, by decide +kernel⟩
theorem ok_is_within {C_Where : Addr} (B : Bn mg) (c_Where : Cls K C_Where) (n1 : NoAttr K C_Where "period") (n2 : NoAttr K C_Where "rests") (n3 : NoAttr K C_Where "start") (G_common_divisor : CallF P w K mg base "common_divisor" ["one", "other"] 1 spGcd) (G_Where_truth : MethF P w K mg base C_Where "truth" ["self", "n"] 1 (spTruth K C_Where))
    {f : Addr} {fd : FuncData} (F : Fun K "is_within" "is_within" (topS 22) f fd) : FnOk P w K mg base (L2.CX P w) 4 f fd ["one", "other"] (spWithin K C_Where) := by
  have nd := sc_is_within.nd
  refine F.okX sc_is_within (fun vs H Q E h => ?_) (fun cdv A outer s H vs Q E hr h => ?_)
  · obtain ⟨x, y, f, g, rfl, _⟩ := h
    rfl
  · refine ⟨_, (pss_cons (ps_for (passes_of rfl) rfl (pi_range1 rfl B.range (pa_cons (pe_callB (call_max2 rfl) (by rfl) B.max_ (by decide +kernel) (pa_cons (pe_callTy call_in1 (by rfl) B.int_ (by decide +kernel) (pa_cons (pe_fldK (K := K) rfl (pv 0) rfl) pa_nil)) (pa_cons (pe_callTy call_in1 (by rfl) B.int_ (by decide +kernel) (pa_cons (pe_fldK (K := K) rfl (pv 1) rfl) pa_nil)) pa_nil))) pa_nil)) (pg_name (i := 2) nd rfl (.inl rfl)) (pss_one (ps_if (PW.pt (pw_and (pt_val (pe_methF c_Where G_Where_truth (pv 0) (hr.mono (by decide)) passL (pa_cons (pv 2) pa_nil))) (pw_and1 (pt_not (pt_val (pe_methF c_Where G_Where_truth (pv 1) (hr.mono (by decide)) passL (pa_cons (pv 2) pa_nil))))))) (pss_one (ps_ret pe_bl)) pss_nil)))
      (pss_cons (ps_set (i := 3) nd rfl (.inr rfl) (pe_callF G_common_divisor (hr.mono (by decide)) rfl passL (pa_cons (pe_fldK (K := K) rfl (pv 0) rfl) (pa_cons (pe_fldK (K := K) rfl (pv 1) rfl) pa_nil))))
      (pss_cons (ps_set (i := 5) nd rfl (.inr rfl) (pe_lc (own := [("r", 4)]) (g := gName 4) rfl nd (pi_range1 rfl B.range (pa_cons (pe_fldK (K := K) rfl (pv 1) rfl) pa_nil)) (blkOk_by (N := ["one", "other", "n", "shared", "r", "lacking"]) (sc := defScope (topS 22)) (by decide +kernel)) (fun _ _ _ _ _ => (pg_name (i := 4) nd rfl (.inl rfl))) (fun _ _ _ _ _ => (pts_one (pt_not (pt_val (pe_ix (ix_tupK (K := K) rfl) (pe_fldK (K := K) rfl (pv 1) rfl) (pv 4) (fun _ _ => rfl)))))) (fun _ _ _ _ _ => (pe_op op_modN (pv 4) (pv 3)))))
      (pss_one (ps_ret (pe_not (pe_callB (cr_anyK (K := K) rfl rfl) (by rfl) B.any_ (by decide +kernel) (pa_cons (pe_lc (own := [("r", 4)]) (g := gName 4) (tt := tYes) rfl nd (pi_range1 rfl B.range (pa_cons (pe_fldK (K := K) rfl (pv 0) rfl) pa_nil)) (blkOk_by (N := ["one", "other", "n", "shared", "r", "lacking"]) (sc := defScope (topS 22)) (by decide +kernel)) (fun _ _ _ _ _ => (pg_name (i := 4) nd rfl (.inl rfl))) (fun _ _ _ _ _ => pts_nil) (fun _ _ _ _ _ => (pe_and (pe_ix (ix_tupK (K := K) rfl) (pe_fldK (K := K) rfl (pv 0) rfl) (pv 4) (fun _ _ => rfl)) (pe_one (pe_cmpR (op_inK (K := K) rfl) (pe_op op_modN (pv 4) (pv 3)) (pv 5) rfl))))) pa_nil)))))))), ?_⟩
    obtain ⟨x, y, f, g, rfl, hw, hv, q⟩ := h
    obtain ⟨bl, rl, ⟨dx, t1, t2, hx, h1, h2⟩, hn, hm, hrl, hbl⟩ := hw.get
    obtain rfl : mem bl rl = f := funext hm
    obtain ⟨bl', rl', ⟨dy, t1', t2', hy, h1', h2'⟩, hn', hm', hrl', hbl'⟩ := hv.get
    obtain rfl : mem bl' rl' = g := funext hm'
    refine g_st (σ' := [some (.ref x), some (.ref y), none, none, none, none]) rfl ?_
    have hp := hn.pos
    have hp' := hn'.pos
    have hpi := part_iff (b1 := bl) (b2 := bl') hp hp'
    walk_at "gou"
    ((with_reducible change tSeq _ _ _ _ _); refine L2.g_cutS (fun σ' H' => H' = H ∧ (∃ z, σ' = [some (.ref x), some (.ref y), z, none, none, none]) ∧ ∀ n, n < max bl.length bl'.length → mem bl rl n = true → mem bl' rl' n = true) (fun nx hnx => ?_) (fun σ' H1 hR1 => ?_))
    · walk_at "gos"
      refine u_tfld rfl hx c_Where n3 rfl ?_
      walk_at "gos"
      refine u_tfld rfl hy c_Where n3 rfl ?_
      walk_at "gos"
      refine ⟨_, _, rfl, ?_⟩
      have hN : (if ((bl'.length : Nat) : Int) > ((bl.length : Nat) : Int) then ((bl'.length : Nat) : Int) else ((bl.length : Nat) : Int)) = ((max bl.length bl'.length : Nat) : Int) := by split <;> omega
      rw [hN]
      refine u_rng (by omega) (by omega) ?_
      rw [Int.toNat_natCast]
      refine for_it walk_range (fun i σ' H' => H' = H ∧ (∃ z, σ' = [some (.ref x), some (.ref y), z, none, none, none]) ∧ ∀ n, n < i → mem bl rl n = true → mem bl' rl' n = true) ⟨rfl, ⟨_, rfl⟩, fun n h => by omega⟩ (fun _ _ _ _ _ => trivial) (fun i z σ' H' H0 hi q2 hz => ?_) (fun σ' H' q2 => ?_)
      · obtain ⟨rfl, ⟨z0, rfl⟩, hno⟩ := q2
        obtain ⟨rfl, hz⟩ := hz
        obtain rfl : z = .int (i : Nat) := by rw [hz]; exact congrArg V.int (by omega)
        walk_at "gos"
        refine ⟨.ref x, rfl, x, dx, _, rfl, hx, rfl, ?_⟩
        walk_at "gos"
        refine ⟨x, i, _, rfl, hw.1, ?_⟩
        walk_at "gos"
        cases hf : mem bl rl i with
        | false =>
          walk_at "gos"
          refine ⟨rfl, ⟨_, rfl⟩, fun n hn1 hn2 => ?_⟩
          by_cases hni : n = i
          · rw [hni, hf] at hn2; cases hn2
          · exact hno n (by omega) hn2
        | true =>
          walk_at "gos"
          refine ⟨.ref y, rfl, y, dy, _, rfl, hy, rfl, ?_⟩
          walk_at "gos"
          refine ⟨y, i, _, rfl, hv.1, ?_⟩
          walk_at "gos"
          cases hg : mem bl' rl' i with
          | false =>
            walk_at "gos"
            refine q false _ ⟨fun h => (by cases h), fun h => ?_⟩ (Same.refl _)
            rw [h i hf] at hg; cases hg
          | true =>
            walk_at "gos"
            refine ⟨rfl, ⟨_, rfl⟩, fun n hn1 hn2 => ?_⟩
            by_cases hni : n = i
            · rw [hni]; exact hg
            · exact hno n (by omega) hn2
      · obtain ⟨rfl, ⟨z0, rfl⟩, hno⟩ := q2
        exact hnx _ _ ⟨rfl, ⟨_, rfl⟩, hno⟩
    obtain ⟨rfl, ⟨z, rfl⟩, hlow⟩ := hR1
    walk_at "gos"
    refine u_tfld rfl hx c_Where n1 rfl ?_
    walk_at "gos"
    refine u_tfld rfl hy c_Where n1 rfl ?_
    walk_at "gos"
    refine ⟨_, _, rfl, ?_⟩
    have hgi : Int.gcd (rl.length : Nat) (rl'.length : Nat) = Nat.gcd rl.length rl'.length := Int.gcd_natCast_natCast _ _
    rw [hgi]
    have hg0 : 0 < Nat.gcd rl.length rl'.length := Nat.gcd_pos_of_pos_left _ hp
    obtain ⟨g, hg⟩ : ∃ g, g = Nat.gcd rl.length rl'.length := ⟨_, rfl⟩
    rw [← hg] at hg0 hpi ⊢
    walk_at "gos"
    refine u_tfld rfl hy c_Where n1 rfl ?_
    walk_at "gos"
    refine ⟨_, rfl, by omega, by omega, fun D hD => ?_⟩
    rw [Int.toNat_natCast]
    refine lc_it walk_range (PvL H1 D (fun j => !bt rl' j) (fun j => .int (j % g : Nat))) (lc_start hD) (fun _ _ _ _ => trivial) (fun k y H3 H4 hi pv q6 => ?_) (fun H3 pv => ?_)
    · obtain ⟨rfl, q6⟩ := q6
      obtain rfl : y = .int (k : Nat) := by rw [q6]; exact congrArg V.int (by omega)
      walk_at "gos"
      refine ⟨rfl, ?_⟩
      walk_at "gos"
      refine u_tfld rfl (pv.1 _ _ hy) c_Where n2 rfl ?_
      walk_at "gos"
      refine u_ixT (pv.1.tup h1') (atI_nat (atB hi)) ?_
      refine ⟨_, rfl, ?_⟩
      cases hb : bt rl' k with
      | false =>
        walk_at "gos"
        refine g_I (by omega) ?_
        rw [fmod_nat]
        exact lc_yes hD pv (Same.refl _) (by rw [hb]; rfl) rfl (by omega)
      | true =>
        exact lc_no pv (Same.refl _) (by rw [hb]; rfl)
    obtain ⟨e3, h3⟩ := pv
    obtain ⟨ns, hns⟩ : ∃ ns : List Nat, ns = ((List.range rl'.length).filter fun j => !bt rl' j).map (· % g) := ⟨_, rfl⟩
    have h3' : H3 D = some (.lst (ns.map nV)) := by rw [h3, hns, List.map_map]; rfl
    walk_at "gos"
    refine u_tfld rfl (e3 _ _ hx) c_Where n1 rfl ?_
    walk_at "gos"
    refine ⟨_, rfl, by omega, by omega, fun D2 hD2 => ?_⟩
    rw [Int.toNat_natCast]
    refine lc_it walk_range (PvL H3 D2 (fun _ => true) (fun i => .bl (bt rl i && decide (i % g ∈ ns)))) (lc_start hD2) (fun _ _ _ _ => trivial) (fun k y H4 H5 hi pv q6 => ?_) (fun H4 pv => ?_)
    · obtain ⟨rfl, q6⟩ := q6
      obtain rfl : y = .int (k : Nat) := by rw [q6]; exact congrArg V.int (by omega)
      walk_at "gos"
      refine ⟨rfl, ?_⟩
      walk_at "gos"
      refine u_tfld rfl ((e3.trans pv.1) _ _ hx) c_Where n2 rfl ?_
      walk_at "gos"
      refine u_ixT ((e3.trans pv.1).tup h1) (atI_nat (atB hi)) ?_
      refine ⟨_, rfl, ?_⟩
      cases hb : bt rl k with
      | false =>
        walk_at "gos"
        exact lc_yes hD2 pv (Same.refl _) rfl (by rw [hb]; rfl) (by omega)
      | true =>
        walk_at "gos"
        refine g_I (by omega) ?_
        rw [fmod_nat]
        walk_at "gos"
        refine ⟨D, _, rfl, .inl (sqL (pv.1 _ _ h3')), rfl, flat_nats, ?_⟩
        rw [if_neg (by decide), in_nats]
        exact lc_yes hD2 pv (Same.refl _) rfl (by rw [hb]; rfl) (by omega)
    obtain ⟨e4, h4⟩ := pv
    rw [given_all] at h4
    obtain ⟨bs, hbs⟩ : ∃ bs, bs = (List.range rl.length).map fun i => bt rl i && decide (i % g ∈ ns) := ⟨_, rfl⟩
    have h4' : H4 D2 = some (.lst (bs.map V.bl)) := by rw [h4, hbs, List.map_map]; rfl
    walk_at "gos"
    refine u_any (sqL h4') ?_
    walk_at "gos"
    refine q _ H4 ?_ (e3.trans e4)
    rw [hpi, Bool.not_eq_true', ← Bool.not_eq_true, List.any_eq_true]
    constructor
    · intro hno
      refine ⟨hlow, fun i j hi hj e1 e2 e3 => hno ⟨true, ?_, rfl⟩⟩
      rw [hbs, List.mem_map]
      refine ⟨i, List.mem_range.mpr hi, ?_⟩
      rw [e1, Bool.true_and, decide_eq_true_iff, hns, List.mem_map]
      exact ⟨j, List.mem_filter.mpr ⟨List.mem_range.mpr hj, by rw [e2]; rfl⟩, e3.symm⟩
    · rintro ⟨_, hno⟩ ⟨b, hb1, hb2⟩
      rw [hbs, List.mem_map] at hb1
      obtain ⟨i, hi, rfl⟩ := hb1
      have hb2 : (bt rl i && decide (i % g ∈ ns)) = true := hb2
      rw [Bool.and_eq_true, decide_eq_true_iff, hns, List.mem_map] at hb2
      obtain ⟨e1, j, hj, e3⟩ := hb2
      obtain ⟨hj1, hj2⟩ := List.mem_filter.mp hj
      exact hno i j (List.mem_range.mp hi) (List.mem_range.mp hj1) e1 (by simpa using hj2) e3.symm
/-- an order of two sets -/
def spOrdW (K : PySem.W.Frag) (C : Addr) (R : (Nat → Bool) → (Nat → Bool) → Prop) : Sp := fun vs H Q _ => ∃ (x y : Addr) (f g : Nat → Bool), vs = [.ref x, .ref y] ∧ WFb K H x C f ∧ WFb K H y C g ∧ ∀ (b : Bool) H', (b = true ↔ R f g) → Same H H' → Q (.bl b) H'
theorem u_ordW {C : Addr} {R : (Nat → Bool) → (Nat → Bool) → Prop} {E : XK} {x y : Addr} {f g : Nat → Bool} {H : Hp} {Q : VK} (h : WFb K H x C f) (h' : WFb K H y C g) (q : ∀ (b : Bool) H', (b = true ↔ R f g) → Same H H' → Q (.bl b) H') : rOp2 C (spOrdW K C R) E (.ref x) (.ref y) H Q := by
  obtain ⟨bl, rl, ⟨dx, t1, t2, h1, h2⟩, _⟩ := id h.1
  obtain ⟨bl', rl', ⟨dx', t1', t2', h1', h2'⟩, _⟩ := id h'.1
  exact ⟨x, dx, _, y, dx', _, rfl, h1, rfl, h1', x, y, f, g, rfl, h, h', q⟩
theorem bool_not_iff {b : Bool} {p : Prop} (h : b = true ↔ p) : (!b) = true ↔ ¬ p := by rw [← h]; cases b <;> simp
theorem sc_Where___le__ : FnScope ["self", "other"] ["self", "other"] (defScope (inClass (topS 19) 13)) := ⟨rfl, rfl, rfl, by decide +kernel, rfl, by decide +kernel, by decide +kernel⟩
theorem ok_Where___le__ {C_Where : Addr} (B : Bn mg) (g_Where : mg "Where" = some (.ref C_Where)) (hyW : ∀ H x bl rl, IsW K H x C_Where bl rl → TyX K H (.ref x) (.ref C_Where)) (hi : PySem.W.kitOne K (.ref C_Where) (.ref C_Where) = some true) (G_is_within : CallF P w K mg base "is_within" ["one", "other"] 4 (spWithin K C_Where))
    {f : Addr} {fd : FuncData} (F : Fun K "__le__" "Where.__le__" (inClass (topS 19) 13) f fd) : FnOk P w K mg base (L2.CX P w) 5 f fd ["self", "other"] (spOrdW K C_Where fun f g => Part f g) := by
  have nd := sc_Where___le__.nd
  refine F.okX sc_Where___le__ (fun vs H Q E h => ?_) (fun cdv A outer s H vs Q E hr h => ?_)
  · obtain ⟨x, y, f, g, rfl, _⟩ := h
    rfl
  · refine ⟨_, (pss_cons (ps_if (pt_not (pt_val (pe_callB (call_isiK' (K := K) rfl) (by rfl) B.isinstance (by decide +kernel) (pa_cons (pv 1) (pa_cons (pe_glob (v := .ref C_Where) rfl g_Where rfl) pa_nil))))) (pss_one ps_never) pss_nil)
      (pss_one (ps_ret (pe_callF G_is_within (hr.mono (by decide)) rfl passL (pa_cons (pv 0) (pa_cons (pv 1) pa_nil)))))), ?_⟩
    obtain ⟨x, y, f, g, rfl, hw, hv, q⟩ := h
    obtain ⟨bl', rl', hy, _⟩ := hv.get
    refine g_st (σ' := [some (.ref x), some (.ref y)]) rfl ?_
    walk_at "gos"
    refine u_isi (.own C_Where) (hyW _ _ _ _ hy) hi ?_
    walk_at "gos"
    exact ⟨x, y, f, g, rfl, hw, hv, fun b H1 hb e1 => q b H1 hb e1⟩
theorem sc_Where___lt__ : FnScope ["self", "other"] ["self", "other"] (defScope (inClass (topS 19) 14)) := ⟨rfl, rfl, rfl, by decide +kernel, rfl, by decide +kernel, by decide +kernel⟩
theorem ok_Where___lt__ {C_Where : Addr} (B : Bn mg) (g_Where : mg "Where" = some (.ref C_Where)) (hyW : ∀ H x bl rl, IsW K H x C_Where bl rl → TyX K H (.ref x) (.ref C_Where)) (hi : PySem.W.kitOne K (.ref C_Where) (.ref C_Where) = some true) (G_is_within : CallF P w K mg base "is_within" ["one", "other"] 4 (spWithin K C_Where))
    {f : Addr} {fd : FuncData} (F : Fun K "__lt__" "Where.__lt__" (inClass (topS 19) 14) f fd) : FnOk P w K mg base (L2.CX P w) 5 f fd ["self", "other"] (spOrdW K C_Where fun f g => Part f g ∧ ¬ Part g f) := by
  have nd := sc_Where___lt__.nd
  refine F.okX sc_Where___lt__ (fun vs H Q E h => ?_) (fun cdv A outer s H vs Q E hr h => ?_)
  · obtain ⟨x, y, f, g, rfl, _⟩ := h
    rfl
  · refine ⟨_, (pss_cons (ps_if (pt_not (pt_val (pe_callB (call_isiK' (K := K) rfl) (by rfl) B.isinstance (by decide +kernel) (pa_cons (pv 1) (pa_cons (pe_glob (v := .ref C_Where) rfl g_Where rfl) pa_nil))))) (pss_one ps_never) pss_nil)
      (pss_one (ps_ret (pe_and (pe_callF G_is_within (hr.mono (by decide)) rfl passL (pa_cons (pv 0) (pa_cons (pv 1) pa_nil))) (pe_one (pe_not (pe_callF G_is_within (hr.mono (by decide)) rfl passL (pa_cons (pv 1) (pa_cons (pv 0) pa_nil))))))))), ?_⟩
    obtain ⟨x, y, f, g, rfl, hw, hv, q⟩ := h
    obtain ⟨bl', rl', hy, _⟩ := hv.get
    refine g_st (σ' := [some (.ref x), some (.ref y)]) rfl ?_
    walk_at "gos"
    refine u_isi (.own C_Where) (hyW _ _ _ _ hy) hi ?_
    walk_at "gos"
    refine ⟨x, y, f, g, rfl, hw, hv, fun b H1 hb e1 => ?_⟩
    cases b with
    | false =>
      walk_at "gos"
      exact q false H1 ⟨fun z => (by cases z), fun z => absurd (hb.mpr z.1) (by decide)⟩ e1
    | true =>
      walk_at "gos"
      refine ⟨y, x, g, f, rfl, hv.l e1.l, hw.l e1.l, fun b2 H2 hb2 e2 => ?_⟩
      walk_at "gos"
      exact q _ H2 ⟨fun z => ⟨hb.mp rfl, (bool_not_iff hb2).mp z⟩, fun z => (bool_not_iff hb2).mpr z.2⟩ (e1.trans e2)
theorem sc_Where___ge__ : FnScope ["self", "other"] ["self", "other"] (defScope (inClass (topS 19) 15)) := ⟨rfl, rfl, rfl, by decide +kernel, rfl, by decide +kernel, by decide +kernel⟩
theorem ok_Where___ge__ {C_Where : Addr} (B : Bn mg) (g_Where : mg "Where" = some (.ref C_Where)) (hyW : ∀ H x bl rl, IsW K H x C_Where bl rl → TyX K H (.ref x) (.ref C_Where)) (hi : PySem.W.kitOne K (.ref C_Where) (.ref C_Where) = some true) (G_is_within : CallF P w K mg base "is_within" ["one", "other"] 4 (spWithin K C_Where))
    {f : Addr} {fd : FuncData} (F : Fun K "__ge__" "Where.__ge__" (inClass (topS 19) 15) f fd) : FnOk P w K mg base (L2.CX P w) 5 f fd ["self", "other"] (spOrdW K C_Where fun f g => Part g f) := by
  have nd := sc_Where___ge__.nd
  refine F.okX sc_Where___ge__ (fun vs H Q E h => ?_) (fun cdv A outer s H vs Q E hr h => ?_)
  · obtain ⟨x, y, f, g, rfl, _⟩ := h
    rfl
  · refine ⟨_, (pss_cons (ps_if (pt_not (pt_val (pe_callB (call_isiK' (K := K) rfl) (by rfl) B.isinstance (by decide +kernel) (pa_cons (pv 1) (pa_cons (pe_glob (v := .ref C_Where) rfl g_Where rfl) pa_nil))))) (pss_one ps_never) pss_nil)
      (pss_one (ps_ret (pe_callF G_is_within (hr.mono (by decide)) rfl passL (pa_cons (pv 1) (pa_cons (pv 0) pa_nil)))))), ?_⟩
    obtain ⟨x, y, f, g, rfl, hw, hv, q⟩ := h
    obtain ⟨bl', rl', hy, _⟩ := hv.get
    refine g_st (σ' := [some (.ref x), some (.ref y)]) rfl ?_
    walk_at "gos"
    refine u_isi (.own C_Where) (hyW _ _ _ _ hy) hi ?_
    walk_at "gos"
    exact ⟨y, x, g, f, rfl, hv, hw, fun b H1 hb e1 => q b H1 hb e1⟩
theorem sc_Where___gt__ : FnScope ["self", "other"] ["self", "other"] (defScope (inClass (topS 19) 16)) := ⟨rfl, rfl, rfl, by decide +kernel, rfl, by decide +kernel, by decide +kernel⟩
theorem ok_Where___gt__ {C_Where : Addr} (B : Bn mg) (g_Where : mg "Where" = some (.ref C_Where)) (hyW : ∀ H x bl rl, IsW K H x C_Where bl rl → TyX K H (.ref x) (.ref C_Where)) (hi : PySem.W.kitOne K (.ref C_Where) (.ref C_Where) = some true) (G_is_within : CallF P w K mg base "is_within" ["one", "other"] 4 (spWithin K C_Where))
    {f : Addr} {fd : FuncData} (F : Fun K "__gt__" "Where.__gt__" (inClass (topS 19) 16) f fd) : FnOk P w K mg base (L2.CX P w) 5 f fd ["self", "other"] (spOrdW K C_Where fun f g => Part g f ∧ ¬ Part f g) := by
  have nd := sc_Where___gt__.nd
  refine F.okX sc_Where___gt__ (fun vs H Q E h => ?_) (fun cdv A outer s H vs Q E hr h => ?_)
  · obtain ⟨x, y, f, g, rfl, _⟩ := h
    rfl
  · refine ⟨_, (pss_cons (ps_if (pt_not (pt_val (pe_callB (call_isiK' (K := K) rfl) (by rfl) B.isinstance (by decide +kernel) (pa_cons (pv 1) (pa_cons (pe_glob (v := .ref C_Where) rfl g_Where rfl) pa_nil))))) (pss_one ps_never) pss_nil)
      (pss_one (ps_ret (pe_and (pe_callF G_is_within (hr.mono (by decide)) rfl passL (pa_cons (pv 1) (pa_cons (pv 0) pa_nil))) (pe_one (pe_not (pe_callF G_is_within (hr.mono (by decide)) rfl passL (pa_cons (pv 0) (pa_cons (pv 1) pa_nil))))))))), ?_⟩
    obtain ⟨x, y, f, g, rfl, hw, hv, q⟩ := h
    obtain ⟨bl', rl', hy, _⟩ := hv.get
    refine g_st (σ' := [some (.ref x), some (.ref y)]) rfl ?_
    walk_at "gos"
    refine u_isi (.own C_Where) (hyW _ _ _ _ hy) hi ?_
    walk_at "gos"
    refine ⟨y, x, g, f, rfl, hv, hw, fun b H1 hb e1 => ?_⟩
    cases b with
    | false =>
      walk_at "gos"
      exact q false H1 ⟨fun z => (by cases z), fun z => absurd (hb.mpr z.1) (by decide)⟩ e1
    | true =>
      walk_at "gos"
      refine ⟨x, y, f, g, rfl, hw.l e1.l, hv.l e1.l, fun b2 H2 hb2 e2 => ?_⟩
      walk_at "gos"
      exact q _ H2 ⟨fun z => ⟨hb.mp rfl, (bool_not_iff hb2).mp z⟩, fun z => (bool_not_iff hb2).mpr z.2⟩ (e1.trans e2)
def spInvW (K : PySem.W.Frag) (C : Addr) : Sp := fun vs H Q _ => ∃ (x : Addr) (f : Nat → Bool), vs = [.ref x] ∧ WFb K H x C f ∧ ∀ y H', Same H H' → WFb K H' y C (fun n => !f n) → Q (.ref y) H'
theorem sc_Where___invert__ : FnScope ["self", "truth"] ["self"] (defScope (inClass (topS 19) 12)) := ⟨rfl, rfl, rfl, by decide +kernel, rfl, by decide +kernel, by decide +kernel⟩
theorem ok_Where___invert__ {C_Where CT CF CL : Addr} (B : Bn mg) (c_Where : Cls K C_Where) (n2 : NoAttr K C_Where "rests") (n4 : NoAttr K C_Where "below") (M_Where : MakeF P w K mg base "Where" C_Where 5 (spWhere K C_Where CT CF CL))
    {f : Addr} {fd : FuncData} (F : Fun K "__invert__" "Where.__invert__" (inClass (topS 19) 12) f fd) : FnOk P w K mg base (L2.CX P w) 7 f fd ["self"] (spInvW K C_Where) := by
  have nd := sc_Where___invert__.nd
  refine F.okX sc_Where___invert__ (fun vs H Q E h => ?_) (fun cdv A outer s H vs Q E hr h => ?_)
  · obtain ⟨x, f, rfl, _⟩ := h
    rfl
  · refine ⟨_, (pss_one (ps_ret (pe_makeF M_Where (hr.mono (by decide)) rfl (passes_call (takes_of rfl rfl rfl rfl) (fun _ _ _ _ h => h)) (pa_cons (pe_lc (own := [("truth", 1)]) (g := gName 1) (tt := tYes) rfl nd (pi_tupK (K := K) rfl (pe_fldK (K := K) rfl (pv 0) rfl)) (blkOk_by (N := ["self", "truth"]) (sc := defScope (inClass (topS 19) 12)) (by decide +kernel)) (fun _ _ _ _ _ => (pg_name (i := 1) nd rfl (.inl rfl))) (fun _ _ _ _ _ => pts_nil) (fun _ _ _ _ _ => (pe_not (pv 1)))) (pa_cons (pe_lc (own := [("truth", 1)]) (g := gName 1) (tt := tYes) rfl nd (pi_tupK (K := K) rfl (pe_fldK (K := K) rfl (pv 0) rfl)) (blkOk_by (N := ["self", "truth"]) (sc := defScope (inClass (topS 19) 12)) (by decide +kernel)) (fun _ _ _ _ _ => (pg_name (i := 1) nd rfl (.inl rfl))) (fun _ _ _ _ _ => pts_nil) (fun _ _ _ _ _ => (pe_not (pv 1)))) pa_nil))))), ?_⟩
    obtain ⟨x, f, rfl, hw, q⟩ := h
    obtain ⟨bl, rl, ⟨dx, t1, t2, hx, h1, h2⟩, hn, hm, hrl, hbl⟩ := hw.get
    obtain rfl : mem bl rl = f := funext hm
    have hall : ∀ l : List Bool, (given l.length (fun _ => true) fun k => V.bl (!bt l k)) = (l.map (!·)).map V.bl := fun l => by
      rw [given_all]
      refine List.ext_getElem (by simp) fun i g1 g2 => ?_
      simp only [List.getElem_map, List.getElem_range]
      rw [bt_in (by simpa using g2)]
    refine g_st (σ' := [some (.ref x), none]) rfl ?_
    walk_at "gos"
    refine u_tfld rfl hx c_Where n4 rfl ?_
    refine u_itT h2 fun D hD => ?_
    refine lc_it walk_tup (PvL H D (fun _ => true) (fun k => .bl (!bt bl k))) (lc_start hD) (fun _ _ _ p => p.1.tup h2) (fun k y H3 H4 hi pv q6 => ?_) (fun H3 pv => ?_)
    · obtain ⟨rfl, q6⟩ := q6
      rw [List.length_map] at hi
      rw [atB hi] at q6
      obtain rfl := Option.some.inj q6
      walk_at "gos"
      refine ⟨rfl, ?_⟩
      walk_at "gos"
      exact lc_yes hD pv (Same.refl _) rfl rfl (by omega)
    obtain ⟨e3, h3⟩ := pv
    rw [List.length_map, hall] at h3
    walk_at "gos"
    refine u_tfld rfl (e3 _ _ hx) c_Where n2 rfl ?_
    refine u_itT (e3.tup h1) fun D2 hD2 => ?_
    refine lc_it walk_tup (PvL H3 D2 (fun _ => true) (fun k => .bl (!bt rl k))) (lc_start hD2) (fun _ _ _ p => (e3.trans p.1).tup h1) (fun k y H4 H5 hi pv q6 => ?_) (fun H4 pv => ?_)
    · obtain ⟨rfl, q6⟩ := q6
      rw [List.length_map] at hi
      rw [atB hi] at q6
      obtain rfl := Option.some.inj q6
      walk_at "gos"
      refine ⟨rfl, ?_⟩
      walk_at "gos"
      exact lc_yes hD2 pv (Same.refl _) rfl rfl (by omega)
    obtain ⟨e4, h4⟩ := pv
    rw [List.length_map, hall] at h4
    walk_at "gos"
    have hnb : ∀ n, mem (bl.map (!·)) (rl.map (!·)) n = !mem bl rl n := mem_not hn.pos
    refine u_where (B := bl.map (!·)) (R := rl.map (!·)) (.inl (sqL (e4 _ _ h3))) (.inl (sqL h4)) (by rw [List.length_map]; exact hn.pos) (by rw [List.length_map]; exact hbl) (by rw [List.length_map]; exact hrl) fun y H5 _ e5 hv => q y H5 (e3.trans (e4.trans e5)) ⟨?_, hw.2.not⟩
    obtain ⟨bl', rl', w1, w2, w3⟩ := hv
    exact ⟨bl', rl', w1, w2, fun n => by rw [w3, hnb]⟩
def spOrders (K : PySem.W.Frag) (C : Addr) : Sp := fun vs H Q _ => ∃ (x y : Addr) (f g : Nat → Bool), vs = [.ref x, .ref y] ∧ WFb K H x C f ∧ WFb K H y C g ∧ ∀ (b c : Bool) l H', (b = true ↔ Part f g) → (c = true ↔ Part g f) → Same H H' → H' l = some (.lst ([b, b && !c, c, c && !b, b && c, !(b && c)].map V.bl)) → Q (.ref l) H'
def spDue : Sp := fun vs H Q _ => ∃ b c : Bool, vs = [.bl b, .bl c] ∧ ∀ l H', Same H H' → H' l = some (.lst ([b, b && !c, c, c && !b, b && c, !(b && c)].map V.bl)) → Q (.ref l) H'
end
end Ev

end
/-! Dicts whose keys are pairs of truths, each with True: the display, and what is in it. -/
namespace L2
open PySem PySem.Spec PyProof.Rows
theorem pg_unlK {X : Cx} {K : PySem.W.Frag} (h : X.K = K) {es : List Expr} {k : Nat} {t : TGs} {n : Nat} {pos : Pos} (hc : X.calm = true) (hh : PGs X es t)
    (hn : (assignEach es X.env).length = n := by rfl) (hst : (assignEach es X.env).findIdx? (·.1) = none := by rfl) : PG X (.Tuple es k pos) (gUnl K n t) := h ▸ pg_unl hc hh hn hst
theorem g_unl {K : PySem.W.Frag} {n : Nat} {tg : TGs} {Q : St → Hp → Prop} {σ : St} {H : Hp} {a : Addr} {xs : List V} (h : SqL K H a xs) (hl : xs.length = n) (q : tg xs σ H Q) : gUnl K n tg (.ref a) σ H Q := ⟨a, xs, rfl, h, hl, q⟩
def keyB (p : Bool × Bool) : NestedKey := .tup [.num (if p.1 = true then 1 else 0), .num (if p.2 = true then 1 else 0)]
theorem keyB_inj {p q : Bool × Bool} (h : keyB p = keyB q) : p = q := by
  obtain ⟨a, b⟩ := p
  obtain ⟨c, d⟩ := q
  unfold keyB at h
  injection h with h
  injection h with h1 h2
  injection h2 with h2 _
  injection h1 with h1
  injection h2 with h2
  cases a <;> cases c <;> cases b <;> cases d <;> simp at h1 h2 <;> rfl
/-- the entries, the keys' tuples -/
def entB (xs : List ((Bool × Bool) × Addr)) : List (NestedKey × Addr × Value) := xs.map fun x => (keyB x.1, x.2, Value.bool true)
/-- the dict's own object -/
def DicO (P : Program) (w : World) (xs : List ((Bool × Bool) × Addr)) (d : Addr) : HO := .ext fun h => (d == sysModules) = false ∧ (xs.map (·.1)).Nodup ∧ ∃ o es ep, h.get? d = some o ∧ o.ExactDict ∧ o.data = .dict es ep ∧ es.toList = (entB xs).map (entryOfKey (nestedKind P w))
/-- a dict with these keys stands at d -/
def DicB (P : Program) (w : World) (H : Hp) (d : Addr) (ps : List (Bool × Bool)) : Prop := ∃ as : List Addr, as.length = ps.length ∧ H d = some (DicO P w (ps.zip as) d) ∧ ∀ (i : Nat) (a : Addr) (p : Bool × Bool), as[i]? = some a → ps[i]? = some p → H a = some (.tup [.bl p.1, .bl p.2])
theorem DicB.same {P : Program} {w : World} {H H' : Hp} {d : Addr} {ps : List (Bool × Bool)} (e : Same H H') : DicB P w H d ps → DicB P w H' d ps := fun ⟨as, h1, h2, h3⟩ => ⟨as, h1, e _ _ h2, fun i a p g1 g2 => e _ _ (h3 i a p g1 g2)⟩
theorem nodup_entB {xs : List ((Bool × Bool) × Addr)} (h : (xs.map (·.1)).Nodup) : ((entB xs).map (·.1)).Nodup := by
  unfold entB List.Nodup at *
  rw [List.map_map, List.pairwise_map]
  rw [List.pairwise_map] at h
  exact h.imp fun {a b} hab z => hab (keyB_inj z)
theorem storedAllH_new : ∀ {ps xs : List (NestedKey × Addr × Value)}, ((xs ++ ps).map (·.1)).Nodup → storedAllH xs ps = xs ++ ps
  | [], xs, _ => by simp [storedAllH]
  | p :: ps, xs, h => by
    have hno : atKey xs p.1 = none := by
      unfold atKey
      rw [Option.map_eq_none_iff, List.find?_eq_none]
      intro x hx
      rw [decide_eq_true_iff]
      intro z
      rw [List.map_append, List.map_cons] at h
      have := (List.nodup_append.mp h).2.2 x.1 (List.mem_map_of_mem hx) p.1 List.mem_cons_self
      exact this z
    show storedAllH (storedH xs p.1 p.2.1 p.2.2) ps = _
    rw [storedH_new hno, storedAllH_new (by simpa using h)]
    simp
theorem is_keyB {P : Program} {w : World} {H : Hp} {h : Heap} {a : Addr} {p : Bool × Bool} (ok : HOk P w H h) (e : H a = some (.tup [.bl p.1, .bl p.2])) : (nestedKind P w).is h (keyB p) a := by
  obtain ⟨_, its, r, o, h1, h2, n, h3⟩ := (show ObjOk P w H h a (.tup [.bl p.1, .bl p.2]) from ok a _ e)
  obtain ⟨u, v, rfl, ru, rv⟩ := Vals.two r
  cases ru
  cases rv
  exact ⟨.tup h1 h2 h3 (.cons (.bool rfl) (.cons (.bool rfl) .nil)), by simp [keyB, NestedKey.depth, NestedKey.depthAll]⟩
theorem wpAny_Dict_rawH {prog : Program} {w : World} {A : Around} {E : Value → Shared → Prop} {s : Shared} {K : Type} [DecidableEq K] {knd : HeapKind prog w K} {env : Env} {keys : List (Option Expr)} {values : List Expr} {pos : Pos} {Q : Value → Shared → Prop} (hu : knd.room A)
    (hall : keys.all (·.isSome) = true) (hl : keys.length = values.length) (h0 : keys ≠ []) (hlen : keys.length ≤ 15)
    (h : wpAny (model prog w) A (evalPairs (pairTrees keys values env pos)) (fun vs s₁ => ∃ ps, CarriesH knd s₁.heap vs ps ∧ s₁.heap.DictOfH knd s.heap.objs.size [] ∧
      ∀ h' tk, h'.DictOfH knd s.heap.objs.size (storedAllH [] ps) → Heap.SameBut s.heap.objs.size s₁.heap h' → Q (.ref s.heap.objs.size) { s₁ with heap := h', toks := tk }) E
      { s with heap := s.heap.push { cls := .type "dict", data := .dict #[] } }) :
    wpAny (model prog w) A (eval (.Dict keys values pos) env) Q E s := by
  have hn := pairTrees_length keys values env pos hall hl
  have hne : pairTrees keys values env pos ≠ [] := fun he => by
    rw [he] at hn
    exact h0 (List.length_eq_zero_iff.mp hn.symm)
  rw [arm_eval_Dict, zip_pairTrees keys values env pos hall hl, dictDisplay_pairs _ hne (by omega)]
  exact wpAny_bind (wpAny_standAt (wpAny_bind (wpAny_subDictH (knd := knd) (Q := fun d s' => wpAny (model prog w) A (pure (Value.ref d)) Q E s') hu (by omega)
    (wpAny_mono h (fun vs s₁ h₁ => by obtain ⟨ps, hc, hm, hq⟩ := h₁; exact ⟨ps, hc, hm, fun h' tk a b => wpAny_pure (hq h' tk a b)⟩) fun _ _ e => e))))
theorem Room.un16 {k : Nat} {A : Around} (r : Room k A) : A.units + 16 < cLine := by have := r.un; omega
theorem Room.un16' {k : Nat} {A : Around} (r : Room k A) : A.units + 8 < cLine := by have := r.un; omega
/-- {(b, c): True, ..} -/
def tDispB (P : Program) (w : World) (trs : List (TE × TE)) : TE := fun σ H Q => ∀ d, H d = none → tPairs trs σ (upd H d (.dT [])) fun ps H2 => H2 d = some (.dT []) ∧ ∃ (bs : List (Bool × Bool)) (as : List Addr), as.length = bs.length ∧ bs.Nodup ∧ bs.length ≤ 15 ∧ ps = (bs.zip as).map (fun x => (V.ref x.2, V.bl true)) ∧
  (∀ (i : Nat) (a : Addr) (p : Bool × Bool), as[i]? = some a → bs[i]? = some p → H2 a = some (.tup [.bl p.1, .bl p.2])) ∧ Q (.ref d) (upd H2 d (DicO P w (bs.zip as) d))
theorem zip_fst {bs : List (Bool × Bool)} {as : List Addr} (h : as.length = bs.length) : (bs.zip as).map (·.1) = bs := by
  rw [List.map_fst_zip]
  omega
theorem carriesB {P : Program} {w : World} {h : Heap} : ∀ {xs : List ((Bool × Bool) × Addr)} {vs : List (Value × Value)}, VV (xs.map fun x => (V.ref x.2, V.bl true)) vs → (∀ x ∈ xs, (nestedKind P w).is h (keyB x.1) x.2) → CarriesH (nestedKind P w) h vs (entB xs)
  | [], _, .nil, _ => trivial
  | x :: xs, _, .cons r t, hx => by
    rename_i v vs
    obtain ⟨k, u⟩ := v
    obtain ⟨r1, r2⟩ := r
    have e1 : k = .ref x.2 := r1
    have e2 : u = .bool true := r2
    exact ⟨e1, e2, hx x List.mem_cons_self, carriesB t fun y hy => hx y (List.mem_cons_of_mem _ hy)⟩
section
variable {X : Cx}
theorem pe_dispB {pos : Pos} {keys : List (Option Expr)} {values : List Expr} {trs : List (TE × TE)} (hu : X.A.units + 8 < cLine) (h : PPs X pos keys values trs) (hall : keys.all (·.isSome) = true) (hl : keys.length = values.length) (h0 : keys ≠ [])
    (h15 : keys.length ≤ 15) : PE X (.Dict keys values pos) (tDispB X.prog X.w trs) := by
  refine ⟨fun pins s σ H Q I q => ?_⟩
  have hn := I.hok.fresh (Nat.le_refl s.heap.objs.size)
  have I1 := I.laid (a := s.heap.objs.size) (o := .dT []) (h' := s.heap.push { cls := .type "dict", data := .dict #[] }) (t' := s.toks) (fun _ _ q => Heap.get?_push_of_some _ q) (Nat.le_refl _) (dt_empty s.heap I.big)
  refine wpAny_Dict_rawH (knd := nestedKind X.prog X.w) hu hall hl h0 h15 (thn (h.run pins _ σ _ _ I1 (q _ hn)) fun ws s2 ⟨ps, H2, I2, rel, e, bs, as, hal, hnd, h15', eps, hkey, q2⟩ => ?_)
  subst eps
  have hx : ∀ x ∈ bs.zip as, (nestedKind X.prog X.w).is s2.heap (keyB x.1) x.2 := fun x hx => by
    obtain ⟨i, hi⟩ := List.getElem?_of_mem hx
    obtain ⟨g1, g2⟩ := List.getElem?_zip_eq_some.mp hi
    exact is_keyB I2.hok (hkey i _ _ g2 g1)
  have hnd2 : ((bs.zip as).map (·.1)).Nodup := by rw [zip_fst hal]; exact hnd
  have hemp := I2.hok _ _ e
  obtain ⟨_, hsys, xs0, r0, o, es, ep, ho, hc, hd, he, _⟩ := hemp
  cases r0
  refine ⟨entB (bs.zip as), carriesB rel hx, ⟨o, es, ep, ho, hc, hd, by rw [he]; rfl, fun x z => (by cases z), List.nodup_nil⟩, fun h' tk dd' hs => ⟨.ref s.heap.objs.size, _, ?_, rfl, q2⟩⟩
  rw [storedAllH_new (by rw [List.nil_append]; exact nodup_entB hnd2), List.nil_append] at dd'
  obtain ⟨o', es', ep', ho', hc', hd', he', _, _⟩ := dd'
  refine d_write I2 (by rw [e]; exact True.intro) hs ⟨o', ho'⟩ ⟨⟨hsys, hnd2, o', es', ep', ho', hc', hd', he'⟩, ⟨o', ho'⟩, fun h1 h2 ⟨k1, k2, o, es, ep, k3, k4⟩ st => ⟨k1, k2, o, es, ep, st _ k3, k4⟩⟩
/-- (b, c) in d -/
def rInB (P : Program) (w : World) : R2 := fun x y H Q => ∃ (a d : Addr) (p : Bool × Bool) (bs : List (Bool × Bool)), x = .ref a ∧ y = .ref d ∧ H a = some (.tup [.bl p.1, .bl p.2]) ∧ DicB P w H d bs ∧ Q (.bl (decide (p ∈ bs))) H
theorem op_inB (hu : X.A.units + 16 < cLine) : OpR X (compareOp .In) (rInB X.prog X.w) := by
  intro pins s σ H x y v u Q I rx ry h
  obtain ⟨a, d, p, bs, rfl, rfl, ha, ⟨as, hal, hd, hkey⟩, q⟩ := h
  cases rx
  cases ry
  obtain ⟨⟨hsys, hnd, o, es, ep, ho, hc, hdat, he⟩, _⟩ := I.hok _ _ hd
  have hx : ∀ x ∈ entB (bs.zip as), (nestedKind X.prog X.w).is s.heap x.1 x.2.1 := fun x hx => by
    unfold entB at hx
    obtain ⟨y, hy, rfl⟩ := List.mem_map.mp hx
    obtain ⟨i, hi⟩ := List.getElem?_of_mem hy
    obtain ⟨g1, g2⟩ := List.getElem?_zip_eq_some.mp hi
    exact is_keyB I.hok (hkey i _ _ g2 g1)
  refine wpAny_in_heap (knd := nestedKind X.prog X.w) (by show X.A.in1.units + 8 < cLine; have : X.A.in1.units = X.A.units + 1 := rfl; omega) (is_keyB I.hok ha) hsys ⟨o, es, ep, ho, hc, hdat, he, hx, nodup_entB hnd⟩ ?_
  have e : (atKey (entB (bs.zip as)) (keyB p)).isSome = decide (p ∈ bs) := by
    have hz := zip_fst hal
    generalize bs.zip as = xs at hz
    rw [← hz]
    unfold atKey entB
    rw [Option.isSome_map, Bool.eq_iff_iff, List.find?_isSome, decide_eq_true_iff]
    constructor
    · rintro ⟨x, hx, hk⟩
      obtain ⟨y, hy, rfl⟩ := List.mem_map.mp hx
      have hk := keyB_inj (of_decide_eq_true hk)
      exact List.mem_map.mpr ⟨y, hy, hk⟩
    · intro h
      obtain ⟨y, hy, rfl⟩ := List.mem_map.mp h
      exact ⟨_, List.mem_map_of_mem hy, decide_eq_true rfl⟩
  rw [e]
  exact ⟨.bl _, H, I.tok _, rfl, q⟩
theorem op_inBK {P : Program} {w : World} (h1 : X.prog = P) (h2 : X.w = w) (hu : X.A.units + 16 < cLine) : OpR X (compareOp .In) (rInB P w) := by
  subst h1 h2
  exact op_inB hu
theorem pe_dispBK {P : Program} {w : World} (h1 : X.prog = P) (h2 : X.w = w) {pos : Pos} {keys : List (Option Expr)} {values : List Expr} {trs : List (TE × TE)} (hu : X.A.units + 8 < cLine) (h : PPs X pos keys values trs) (hall : keys.all (·.isSome) = true) (hl : keys.length = values.length) (h0 : keys ≠ [])
    (h15 : keys.length ≤ 15) : PE X (.Dict keys values pos) (tDispB P w trs) := by
  subst h1 h2
  exact pe_dispB hu h hall hl h0 h15
end
end L2

section
open L2 in
local macro_rules | `(tactic| walk_at "gx") => `(tactic| first
  | ((with_reducible show tVar _ _ _ _); refine g_var rfl ?_)
  | with_reducible refine g_c ?_
  | with_reducible refine g_op ?_
  | with_reducible refine g_cons ?_
  | with_reducible refine g_nil ?_
  | with_reducible refine g_test ?_
  | with_reducible refine g_blp ?_
  | with_reducible refine g_asg ?_
  | (with_reducible refine g_name ?_; (try simp only [List.set_cons_zero, List.set_cons_succ]))
  | with_reducible refine g_call ?_
  | with_reducible refine g_cb ?_
  | with_reducible refine g_I0 ?_
  | with_reducible refine g_U ?_
  | with_reducible refine g_eqI ?_
  | with_reducible refine g_neI ?_
  | with_reducible refine g_if ?_
  | with_reducible refine g_ret ?_
  | with_reducible refine g_retN ?_
  | with_reducible refine g_next ?_
  | with_reducible refine g_drop ?_
  | with_reducible refine g_un ?_
  | with_reducible refine g_tb ?_
  | with_reducible refine g_tup ?_
  | with_reducible refine g_lst ?_
  | with_reducible refine g_and ?_
  | with_reducible refine g_or ?_
  | with_reducible refine g_not ?_
  | with_reducible refine g_andV ?_
  | with_reducible refine g_orV ?_
  | with_reducible refine g_notV ?_
  | with_reducible refine g_ifE ?_
  | with_reducible refine g_fld ?_
  | with_reducible refine g_tt ?_
  | with_reducible refine g_ff ?_
  | with_reducible refine g_ntt ?_
  | with_reducible refine g_nff ?_
  | with_reducible refine g_for ?_
  | with_reducible refine g_list ?_
  | with_reducible refine g_tupI ?_
  | with_reducible refine g_rng1 ?_
  | with_reducible refine g_rng2 ?_
  | with_reducible refine g_enumA ?_
  | with_reducible refine g_rev ?_
  | with_reducible refine g_lc ?_
  | with_reducible refine g_gcons ?_
  | with_reducible refine g_gnil ?_
  | with_reducible refine g_yes ?_
  | with_reducible refine g_sl ?_
  | with_reducible refine g_nopart ?_
  | with_reducible refine g_part ?_
  | with_reducible refine g_int ?_
  | with_reducible refine g_dget ?_
  | with_reducible refine g_dput ?_
  | with_reducible refine g_raiseX ?_
  | with_reducible refine g_tru ?_
  | with_reducible refine g_sub ?_
  | with_reducible refine g_isN ?_
  | with_reducible refine g_notN ?_
  | with_reducible refine g_bm ?_
  | with_reducible refine L2.g_bm0 ?_
  | with_reducible refine g_pair ?_
  | with_reducible refine g_pair0 ?_
  | with_reducible refine u_int1 ?_
  | with_reducible refine g_chain ?_
  | with_reducible refine L2.g_sfld ?_
  | (with_reducible refine g_par3 ?_)
  | (with_reducible refine g_three ?_; (try simp only [List.set_cons_zero, List.set_cons_succ]))
  | ((with_reducible apply L2.g_tupT); walk_at "up"; rfl)
  | (with_reducible refine g_par ?_)
  | (with_reducible refine g_two ?_; (try simp only [List.set_cons_zero, List.set_cons_succ]))
  )
local macro_rules | `(tactic| walk_at "go") => `(tactic| first | walk_at "gx" | with_reducible refine L2.g_seq ?_)
local macro_rules | `(tactic| walk_at "gou") => `(tactic| repeat (walk_at "gx"))
local macro_rules | `(tactic| walk_at "gos") => `(tactic| repeat (walk_at "go"))
local macro_rules | `(tactic| walk_at "sl") => `(tactic| first
  | assumption
  | exact L2.Same.l (by assumption)
  | exact L2.SameD.l (by assumption)
  | exact L2.extN_l (by assumption))
local macro_rules | `(tactic| walk_at "up") => `(tactic| first
  | assumption
  | ((with_reducible apply L2.SameL.lst); walk_at "sl"; walk_at "up")
  | ((with_reducible apply L2.SameL.tupA); walk_at "sl"; walk_at "up")
  | ((with_reducible apply L2.SameL.ins); walk_at "sl"; walk_at "up")
  | ((with_reducible apply Ev.PB.l); walk_at "sl"; walk_at "up")
  | ((with_reducible apply Ev.IsP.l); walk_at "sl"; walk_at "up")
  | ((with_reducible apply L2.sqL); walk_at "up")
  | ((with_reducible apply L2.sqT); walk_at "up")
  | ((with_reducible apply L2.SameL.seq); walk_at "sl"; walk_at "up")
  | ((with_reducible apply Ev.Pen.same); assumption; walk_at "up")
  | ((with_reducible apply Ev.Pen.extN); assumption; walk_at "up")
  | ((with_reducible apply L2.tabs_s); assumption; walk_at "up")
  | ((with_reducible apply L2.tabs_dd); assumption; walk_at "up")
  | ((with_reducible apply Or.inl); walk_at "up")
  | ((with_reducible apply Or.inr); walk_at "up"))
local macro_rules | `(tactic| walk_at "new") => `(tactic| (
  first
    | refine ⟨L2.size_ok (by rfl), fun p hp => ?_⟩
    | refine fun p hp => ?_
  generalize hX : L2.upd _ p _ = H1
  obtain ⟨e, h⟩ := L2.news hp hX
  clear hX))
local macro_rules | `(tactic| walk_at "o") => `(tactic| first
  | ((with_reducible apply Ev.o_add); walk_at "up"; walk_at "up"; rfl; rfl; rfl)
  | ((with_reducible apply Ev.o_sub); walk_at "up"; walk_at "up"; rfl; rfl; rfl)
  | ((with_reducible apply Ev.o_mul); walk_at "up"; walk_at "up"; rfl; rfl; rfl)
  | ((with_reducible apply Ev.o_addI); walk_at "up"; assumption; rfl; rfl; rfl)
  | ((with_reducible apply Ev.o_subI); walk_at "up"; assumption; rfl; rfl; rfl)
  | ((with_reducible apply Ev.o_mulI); walk_at "up"; assumption; rfl; rfl; rfl)
  | ((with_reducible apply Ev.o_radd); walk_at "up"; assumption; rfl; rfl; rfl)
  | ((with_reducible apply Ev.o_rsub); walk_at "up"; assumption; rfl; rfl; rfl)
  | ((with_reducible apply Ev.o_rmul); walk_at "up"; assumption; rfl; rfl; rfl)
  | ((with_reducible apply Ev.o_neg); walk_at "up"; rfl; rfl; rfl))
local macro_rules | `(tactic| walk_at "eq") => `(tactic| ((with_reducible apply Ev.u_ownB); assumption; walk_at "up"; walk_at "up"; (focus (intro k; first | rfl | exact Pl.e_add | exact Pl.e_sub | exact Pl.e_mul | exact Pl.e_rsub | exact Pl.e_rsub2))))
local macro_rules | `(tactic| walk_at "isp") => `(tactic| (apply Ev.u_isB; walk_at "up"; walk_at "up"; rfl; rfl))

/-! Operators of sets: paired, | & - ^. -/
namespace Wp
/-- the least period -/
def LPer (f : Nat → Bool) (p : Nat) : Prop := 0 < p ∧ (∃ s, Per f s p) ∧ ∀ s q, 0 < q → Per f s q → p ≤ q
theorem LPer.uniq {f : Nat → Bool} {p q : Nat} : LPer f p → LPer f q → p = q := fun ⟨h1, ⟨s, h2⟩, h3⟩ ⟨g1, ⟨t, g2⟩, g3⟩ => Nat.le_antisymm (h3 t q g1 g2) (g3 s p h1 h2)
theorem LPer.dvd {f : Nat → Bool} {p P s : Nat} (h : LPer f p) (hP : 0 < P) (hs : Per f s P) : p ∣ P := by
  obtain ⟨h1, ⟨t, h2⟩, h3⟩ := h
  have hg := Per.gcd p P (h2.le (Nat.le_max_left t s)) (hs.le (Nat.le_max_right t s))
  have hle := h3 _ _ (Nat.gcd_pos_of_pos_left _ h1) hg
  have e : Nat.gcd p P = p := Nat.le_antisymm (Nat.le_of_dvd h1 (Nat.gcd_dvd_left p P)) hle
  rw [← e]
  exact Nat.gcd_dvd_right p P
theorem nm_lper {b r : List Bool} (h : Nm b r) : LPer (mem b r) r.length := ⟨h.pos, ⟨b.length, mem_per⟩, h.per⟩
/-- what is paired by a rule -/
theorem mem_paired {b1 r1 b2 r2 : List Bool} {op : Bool → Bool → Bool} {M L : Nat} (h1 : 0 < r1.length) (h2 : 0 < r2.length) (hL : 0 < L) (d1 : r1.length ∣ L) (d2 : r2.length ∣ L) (hM1 : b1.length ≤ M) (hM2 : b2.length ≤ M) (n : Nat) :
    mem ((List.range M).map fun n => op (mem b1 r1 n) (mem b2 r2 n)) ((List.range L).map fun k => op (bt r1 (k % r1.length)) (bt r2 (k % r2.length))) n = op (mem b1 r1 n) (mem b2 r2 n) := by
  have hl : ∀ (m : Nat) (g : Nat → Bool) k, k < m → bt ((List.range m).map g) k = g k := fun m g k hk => by rw [bt_in (by rw [List.length_map, List.length_range]; exact hk), List.getElem_map, List.getElem_range]
  conv => lhs; unfold mem
  rw [List.length_map, List.length_range, List.length_map, List.length_range]
  by_cases hn : n < M
  · rw [if_pos hn, hl _ _ _ hn]
    rfl
  · rw [if_neg hn, hl _ _ _ (Nat.mod_lt _ hL), Nat.mod_mod_of_dvd _ d1, Nat.mod_mod_of_dvd _ d2]
    have e1 : mem b1 r1 n = bt r1 (n % r1.length) := by unfold mem; rw [if_neg (by omega)]
    have e2 : mem b2 r2 n = bt r2 (n % r2.length) := by unfold mem; rw [if_neg (by omega)]
    rw [e1, e2]
theorem rest_lper {m r : Nat} (hm : 0 < m) (hr : r < m) : LPer (fun k => decide (k % m = r)) m := by
  refine ⟨hm, ⟨0, fun n _ => by show decide _ = decide _; rw [Nat.add_mod_right]⟩, fun s q hq h => ?_⟩
  have h1 := h (r + s * m) (by have := Nat.le_mul_of_pos_right s hm; omega)
  have e1 : (r + s * m) % m = r := by rw [Nat.add_mul_mod_self_right, Nat.mod_eq_of_lt hr]
  have h1 : decide ((r + s * m + q) % m = r) = decide ((r + s * m) % m = r) := h1
  rw [e1, decide_eq_true rfl, decide_eq_true_iff] at h1
  have h2 : (q : Nat) % m = 0 := by
    have h3 : (r + s * m + q) % m = (r + q) % m := by rw [Nat.add_right_comm, Nat.add_mul_mod_self_right]
    rw [h3] at h1
    have := Nat.mod_add_div (r + q) m
    have hq2 := Nat.mod_add_div q m
    have hlt := Nat.mod_lt q hm
    rw [Nat.add_mod, Nat.mod_eq_of_lt hr] at h1
    by_cases hz : r + q % m < m
    · rw [Nat.mod_eq_of_lt hz] at h1; omega
    · rw [Nat.mod_eq_sub_mod (by omega), Nat.mod_eq_of_lt (by omega)] at h1; omega
  exact Nat.le_of_dvd hq (Nat.dvd_of_mod_eq_zero h2)
theorem LPer.not {f : Nat → Bool} {p : Nat} : LPer f p → LPer (fun n => !f n) p := fun ⟨h1, ⟨s, h2⟩, h3⟩ =>
  ⟨h1, ⟨s, fun n hn => by show (!f (n + p)) = !f n; rw [h2 n hn]⟩, fun s q hq h => h3 s q hq fun n hn => by
    have := h n hn
    have : (!f (n + q)) = !f n := this
    cases h1 : f (n + q) <;> cases h2 : f n <;> rw [h1, h2] at this <;> first | rfl | cases this⟩
end Wp
namespace Ev
open PySem PySem.Spec PyProof.Rows L2 Wp
section
variable {P : Program} {w : World} {K : PySem.W.Frag} {mg : Str → Option Value} {base : Heap}
def spLcm : Sp := fun vs H Q _ => ∃ a b : Nat, vs = [.int a, .int b] ∧ 0 < a ∧ a ≤ 100000 ∧ b ≤ 100000 ∧ Q (.int (Nat.lcm a b : Nat)) H
theorem sc_common_multiple : FnScope ["one", "other"] ["one", "other"] (defScope (topS 13)) := ⟨rfl, rfl, rfl, by decide +kernel, rfl, by decide +kernel, by decide +kernel⟩
theorem ok_common_multiple (B : Bn mg) (G_common_divisor : CallF P w K mg base "common_divisor" ["one", "other"] 1 spGcd) {f : Addr} {fd : FuncData} (F : Fun K "common_multiple" "common_multiple" (topS 13) f fd) : FnOk P w K mg base (L2.CX P w) 2 f fd ["one", "other"] spLcm := by
  have nd := sc_common_multiple.nd
  refine F.okX sc_common_multiple (fun vs H Q E h => ?_) (fun cdv A outer s H vs Q E hr h => ?_)
  · obtain ⟨a, b, rfl, _⟩ := h
    rfl
  · refine ⟨_, (pss_one (ps_ret (pe_op op_mulX (pe_op op_fdivX (pv 0) (pe_callF G_common_divisor (hr.mono (by decide)) rfl passL (pa_cons (pv 0) (pa_cons (pv 1) pa_nil)))) (pv 1)))), ?_⟩
    obtain ⟨a, b, rfl, ha, ha2, hb, q⟩ := h
    refine g_st (σ' := [some (.int a), some (.int b)]) rfl ?_
    walk_at "gos"
    refine ⟨_, _, rfl, ?_⟩
    have hgi : Int.gcd (a : Nat) (b : Nat) = Nat.gcd a b := Int.gcd_natCast_natCast _ _
    rw [hgi]
    have hg0 : 0 < Nat.gcd a b := Nat.gcd_pos_of_pos_left _ ha
    have hga : Nat.gcd a b ≤ a := Nat.le_of_dvd ha (Nat.gcd_dvd_left a b)
    have e : a / Nat.gcd a b * b = Nat.lcm a b := by
      unfold Nat.lcm
      rw [Nat.mul_comm, ← Nat.mul_div_assoc _ (Nat.gcd_dvd_left a b), Nat.mul_comm]
    have hq := Nat.div_le_self a (Nat.gcd a b)
    refine g_I (Bd.divX (n := 40) (by omega) (by unfold Bd; omega) (by decide)) ?_
    rw [fdiv_nat]
    generalize a / Nat.gcd a b = z at e hq ⊢
    walk_at "gos"
    refine g_I (cmul_small (n := 40) (m := 40) (by unfold Bd; omega) (by unfold Bd; omega)) ?_
    rw [← Int.natCast_mul, e]
    exact q
def spPaired (P : Program) (w : World) (K : PySem.W.Frag) (C CF : Addr) : Sp := fun vs H Q E => ∃ (x y d : Addr) (f g : Nat → Bool) (bs : List (Bool × Bool)) (p q : Nat), vs = [.ref x, .ref y, .ref d] ∧ WFb K H x C f ∧ WFb K H y C g ∧ DicB P w H d bs ∧ LPer f p ∧ LPer g q ∧
  (Nat.lcm p q ≤ 720 → ∀ z H', Same H H' → WFb K H' z C (fun n => decide ((f n, g n) ∈ bs)) → Q (.ref z) H') ∧ (720 < Nat.lcm p q → ExcR (Same H) CF "most" (.int 720) E)
theorem sc_paired : FnScope ["one", "other", "rule", "period", "n", "below", "r", "rests"] ["one", "other", "rule"] (defScope (topS 21)) := ⟨rfl, rfl, rfl, by decide +kernel, rfl, by decide +kernel, by decide +kernel⟩
theorem ok_paired {C_Where CT CF CL : Addr} {tk1 : Tok} (B : Bn mg) (c_Where : Cls K C_Where) (n1 : NoAttr K C_Where "period") (n2 : NoAttr K C_Where "rests") (n3 : NoAttr K C_Where "start") (c_MOST_PERIOD : mg "MOST_PERIOD" = some (.int 720 tk1)) (X_TooFine : ExT P K mg "TooFine" CF ["most"]) (G_common_multiple : CallF P w K mg base "common_multiple" ["one", "other"] 2 spLcm)
    (G_Where_truth : MethF P w K mg base C_Where "truth" ["self", "n"] 1 (spTruth K C_Where)) (M_Where : MakeF P w K mg base "Where" C_Where 5 (spWhere K C_Where CT CF CL)) {f : Addr} {fd : FuncData} (F : Fun K "paired" "paired" (topS 21) f fd) : FnOk P w K mg base (L2.CX P w) 7 f fd ["one", "other", "rule"] (spPaired P w K C_Where CF) := by
  have nd := sc_paired.nd
  refine F.okX sc_paired (fun vs H Q E h => ?_) (fun cdv A outer s H vs Q E hr h => ?_)
  · obtain ⟨x, y, d, f, g, bs, p, q, rfl, _⟩ := h
    rfl
  · refine ⟨_, (pss_cons (ps_set (i := 3) nd rfl (.inl rfl) (pe_callF G_common_multiple (hr.mono (by decide)) rfl passL (pa_cons (pe_fldK (K := K) rfl (pv 0) rfl) (pa_cons (pe_fldK (K := K) rfl (pv 1) rfl) pa_nil))))
      (pss_cons (ps_if (pt_cmpR op_gt (pv 3) (pe_globI rfl c_MOST_PERIOD) (nomark _)) (pss_one (ps_raiseX rfl X_TooFine hr (takes_of rfl rfl rfl rfl) (pa_cons (pe_globI rfl c_MOST_PERIOD) pa_nil))) pss_nil)
      (pss_cons (ps_setLc (i := 5) (own := [("n", 4)]) (g := gName 4) (tt := tYes) rfl nd rfl rfl (sw_true rfl rfl rfl (by decide +kernel)) (pi_range1 rfl B.range (pa_cons (pe_callB (call_max2 rfl) (by rfl) B.max_ (by decide +kernel) (pa_cons (pe_callTy call_in1 (by rfl) B.int_ (by decide +kernel) (pa_cons (pe_fldK (K := K) rfl (pv 0) rfl) pa_nil)) (pa_cons (pe_callTy call_in1 (by rfl) B.int_ (by decide +kernel) (pa_cons (pe_fldK (K := K) rfl (pv 1) rfl) pa_nil)) pa_nil))) pa_nil)) (blkOk_by (N := ["one", "other", "rule", "period", "n", "below", "r", "rests"]) (sc := defScope (topS 21)) (by decide +kernel)) (fun _ _ _ _ _ => (pg_name (i := 4) nd rfl (.inl rfl))) (fun _ _ _ _ _ => pts_nil) (fun _ _ _ _ _ => (pe_cmpR (op_inBK (P := P) (w := w) rfl rfl hr.un16) (pe_tup (pa_cons (pe_methF c_Where G_Where_truth (pv 0) (hr.mono (by decide)) passL (pa_cons (pv 4) pa_nil)) (pa_cons (pe_methF c_Where G_Where_truth (pv 1) (hr.mono (by decide)) passL (pa_cons (pv 4) pa_nil)) pa_nil))) (pv 2) rfl)))
      (pss_cons (ps_setLc (i := 7) (own := [("r", 6)]) (g := gName 6) (tt := tYes) rfl nd rfl rfl (sw_true rfl rfl rfl (by decide +kernel)) (pi_range1 rfl B.range (pa_cons (pv 3) pa_nil)) (blkOk_by (N := ["one", "other", "rule", "period", "n", "below", "r", "rests"]) (sc := defScope (topS 21)) (by decide +kernel)) (fun _ _ _ _ _ => (pg_name (i := 6) nd rfl (.inl rfl))) (fun _ _ _ _ _ => pts_nil) (fun _ _ _ _ _ => (pe_cmpR (op_inBK (P := P) (w := w) rfl rfl hr.un16) (pe_tup (pa_cons (pe_ix (ix_tupK (K := K) rfl) (pe_fldK (K := K) rfl (pv 0) rfl) (pe_op op_modN (pv 6) (pe_fldK (K := K) rfl (pv 0) rfl)) (fun _ _ => rfl)) (pa_cons (pe_ix (ix_tupK (K := K) rfl) (pe_fldK (K := K) rfl (pv 1) rfl) (pe_op op_modN (pv 6) (pe_fldK (K := K) rfl (pv 1) rfl)) (fun _ _ => rfl)) pa_nil))) (pv 2) rfl)))
      (pss_one (ps_ret (pe_makeF M_Where (hr.mono (by decide)) rfl (passes_call (takes_of rfl rfl rfl rfl) (fun _ _ _ _ h => h)) (pa_cons (pv 5) (pa_cons (pv 7) pa_nil))))))))), ?_⟩
    obtain ⟨x, y, d, f, g, bs, p, q, rfl, hw, hv, hd, lp, lq, q1, q2⟩ := h
    obtain ⟨bl, rl, ⟨dx, t1, t2, hx, h1, h2⟩, hn, hm, hrl, hbl⟩ := hw.get
    obtain rfl : mem bl rl = f := funext hm
    obtain ⟨bl', rl', ⟨dy, t1', t2', hy, h1', h2'⟩, hn', hm', hrl', hbl'⟩ := hv.get
    obtain rfl : mem bl' rl' = g := funext hm'
    obtain rfl := lp.uniq (nm_lper hn)
    obtain rfl := lq.uniq (nm_lper hn')
    refine g_st (σ' := [some (.ref x), some (.ref y), some (.ref d), none, none, none, none, none]) rfl ?_
    have hp := hn.pos
    have hp' := hn'.pos
    walk_at "gos"
    refine u_tfld rfl hx c_Where n1 rfl ?_
    walk_at "gos"
    refine u_tfld rfl hy c_Where n1 rfl ?_
    walk_at "gos"
    refine ⟨_, _, rfl, hp, by omega, by omega, ?_⟩
    have hL0 : 0 < Nat.lcm rl.length rl'.length := Nat.lcm_pos hp hp'
    have hd1 := Nat.dvd_lcm_left rl.length rl'.length
    have hd2 := Nat.dvd_lcm_right rl.length rl'.length
    obtain ⟨Lc, hLc⟩ : ∃ Lc, Lc = Nat.lcm rl.length rl'.length := ⟨_, rfl⟩
    rw [← hLc] at hL0 hd1 hd2 q1 q2 ⊢
    walk_at "gos"
    by_cases hfine : 720 < Lc
    · rw [if_pos (decide_eq_true (by omega))]
      walk_at "gos"
      exact u_raise rfl (by decide) fun d H3 _ e3 hd => q2 hfine H3 d e3 hd
    · rw [if_neg (by rw [decide_eq_true_iff]; omega)]
      have q1 := q1 (by omega)
      walk_at "gos"
      refine u_tfld rfl hx c_Where n3 rfl ?_
      walk_at "gos"
      refine u_tfld rfl hy c_Where n3 rfl ?_
      walk_at "gos"
      refine ⟨_, _, rfl, ?_⟩
      obtain ⟨M, hM⟩ : ∃ M, M = max bl.length bl'.length := ⟨_, rfl⟩
      have hN : (if ((bl'.length : Nat) : Int) > ((bl.length : Nat) : Int) then ((bl'.length : Nat) : Int) else ((bl.length : Nat) : Int)) = (M : Nat) := by split <;> omega
      rw [hN]
      refine u_rng (by omega) (by omega) fun D hD => ?_
      rw [Int.toNat_natCast]
      refine lc_it walk_range (PvL H D (fun _ => true) (fun n => .bl (decide ((mem bl rl n, mem bl' rl' n) ∈ bs)))) (lc_start hD) (fun _ _ _ _ => trivial) (fun k y H3 H4 hi pv q6 => ?_) (fun H3 pv => ?_)
      · obtain ⟨rfl, q6⟩ := q6
        obtain rfl : y = .int (k : Nat) := by rw [q6]; exact congrArg V.int (by omega)
        walk_at "gos"
        refine ⟨rfl, ?_⟩
        walk_at "gos"
        refine ⟨.ref x, rfl, x, dx, _, rfl, pv.1 _ _ hx, rfl, ?_⟩
        walk_at "gos"
        refine ⟨x, k, _, rfl, (hw.l pv.1.l).1, ?_⟩
        walk_at "gos"
        refine ⟨.ref y, rfl, y, dy, _, rfl, pv.1 _ _ hy, rfl, ?_⟩
        walk_at "gos"
        refine ⟨y, k, _, rfl, (hv.l pv.1.l).1, ?_⟩
        walk_at "gos"
        (walk_at "new"; rename_i t _ H5 e5 h5; walk_at "gos")
        refine ⟨t, d, (mem bl rl k, mem bl' rl' k), bs, rfl, rfl, h5, (hd.same pv.1).same e5, ?_⟩
        exact lc_yes hD pv e5 rfl rfl (by omega)
      obtain ⟨e3, h3⟩ := pv
      rw [given_all] at h3
      walk_at "gos"
      refine u_rng (by omega) (by omega) fun D2 hD2 => ?_
      rw [Int.toNat_natCast]
      refine lc_it walk_range (PvL H3 D2 (fun _ => true) (fun k => .bl (decide ((bt rl (k % rl.length), bt rl' (k % rl'.length)) ∈ bs)))) (lc_start hD2) (fun _ _ _ _ => trivial) (fun k y H4 H5 hi pv q6 => ?_) (fun H4 pv => ?_)
      · obtain ⟨rfl, q6⟩ := q6
        obtain rfl : y = .int (k : Nat) := by rw [q6]; exact congrArg V.int (by omega)
        have e05 := e3.trans pv.1
        walk_at "gos"
        refine ⟨rfl, ?_⟩
        walk_at "gos"
        refine u_tfld rfl (e05 _ _ hx) c_Where n2 rfl ?_
        walk_at "gos"
        refine u_tfld rfl (e05 _ _ hx) c_Where n1 rfl ?_
        refine g_I (by omega) ?_
        rw [fmod_nat]
        refine u_ixT (e05.tup h1) (atI_nat (atB (Nat.mod_lt _ hp))) ?_
        walk_at "gos"
        refine u_tfld rfl (e05 _ _ hy) c_Where n2 rfl ?_
        walk_at "gos"
        refine u_tfld rfl (e05 _ _ hy) c_Where n1 rfl ?_
        refine g_I (by omega) ?_
        rw [fmod_nat]
        refine u_ixT (e05.tup h1') (atI_nat (atB (Nat.mod_lt _ hp'))) ?_
        walk_at "gos"
        (walk_at "new"; rename_i t _ H6 e6 h6; walk_at "gos")
        refine ⟨t, d, (bt rl (k % rl.length), bt rl' (k % rl'.length)), bs, rfl, rfl, h6, (hd.same e05).same e6, ?_⟩
        exact lc_yes hD2 pv e6 rfl rfl (by omega)
      obtain ⟨e4, h4⟩ := pv
      rw [given_all] at h4
      have hmp := mem_paired (op := fun b c => decide ((b, c) ∈ bs)) hp hp' hL0 hd1 hd2 (M := M) (b1 := bl) (b2 := bl') (by omega) (by omega)
      obtain ⟨B2, hB2⟩ : ∃ B2, B2 = (List.range M).map fun n => decide ((mem bl rl n, mem bl' rl' n) ∈ bs) := ⟨_, rfl⟩
      obtain ⟨R2, hR2⟩ : ∃ R2, R2 = (List.range Lc).map fun k => decide ((bt rl (k % rl.length), bt rl' (k % rl'.length)) ∈ bs) := ⟨_, rfl⟩
      have h3' : H4 D = some (.lst (B2.map V.bl)) := by rw [e4 _ _ h3, hB2, List.map_map]; rfl
      have h4' : H4 D2 = some (.lst (R2.map V.bl)) := by rw [h4, hR2, List.map_map]; rfl
      rw [← hB2, ← hR2] at hmp
      have hl1 : B2.length = M := by rw [hB2, List.length_map, List.length_range]
      have hl2 : R2.length = Lc := by rw [hR2, List.length_map, List.length_range]
      walk_at "gos"
      refine u_where (B := B2) (R := R2) (.inl (sqL h3')) (.inl (sqL h4')) (by omega) (by omega) (by omega) fun z H5 _ e5 hz => ?_
      obtain ⟨bz, rz, w1, w2, w3⟩ := hz
      exact q1 z H5 (e3.trans (e4.trans e5)) ⟨⟨bz, rz, w1, w2, fun n => by rw [w3, hmp]⟩, B2, R2, by omega, by omega, by omega, hmp⟩
/-- x op y -/
def spOpW (K : PySem.W.Frag) (C CF : Addr) (op : Bool → Bool → Bool) : Sp := fun vs H Q E => ∃ (x y : Addr) (f g : Nat → Bool) (p q : Nat), vs = [.ref x, .ref y] ∧ WFb K H x C f ∧ WFb K H y C g ∧ LPer f p ∧ LPer g q ∧
  (Nat.lcm p q ≤ 720 → ∀ z H', Same H H' → WFb K H' z C (fun n => op (f n) (g n)) → Q (.ref z) H') ∧ (720 < Nat.lcm p q → ExcR (Same H) CF "most" (.int 720) E)
theorem u_opW {C CF : Addr} {op : Bool → Bool → Bool} {E : XK} {x y : Addr} {f g : Nat → Bool} {H : Hp} {Q : VK} {p q : Nat} (h : WFb K H x C f) (h' : WFb K H y C g) (lp : LPer f p) (lq : LPer g q) (q1 : Nat.lcm p q ≤ 720 → ∀ z H', Same H H' → WFb K H' z C (fun n => op (f n) (g n)) → Q (.ref z) H') (q2 : 720 < Nat.lcm p q → ExcR (Same H) CF "most" (.int 720) E) :
    rOp2 C (spOpW K C CF op) E (.ref x) (.ref y) H Q := by
  obtain ⟨bl, rl, ⟨dx, t1, t2, h1, h2⟩, _⟩ := id h.1
  obtain ⟨bl', rl', ⟨dx', t1', t2', h1', h2'⟩, _⟩ := id h'.1
  exact ⟨x, dx, _, y, dx', _, rfl, h1, rfl, h1', x, y, f, g, p, q, rfl, h, h', lp, lq, q1, q2⟩
theorem WFb.congr {H : Hp} {x C : Addr} {f g : Nat → Bool} (h : WFb K H x C f) (e : ∀ n, f n = g n) : WFb K H x C g := by
  obtain rfl : f = g := funext e
  exact h
theorem sc_Where___or__ : FnScope ["self", "other"] ["self", "other"] (defScope (inClass (topS 19) 8)) := ⟨rfl, rfl, rfl, by decide +kernel, rfl, by decide +kernel, by decide +kernel⟩
theorem ok_Where___or__ {C_Where CF : Addr} (B : Bn mg) (g_Where : mg "Where" = some (.ref C_Where)) (hyW : ∀ H x bl rl, IsW K H x C_Where bl rl → TyX K H (.ref x) (.ref C_Where)) (hi : PySem.W.kitOne K (.ref C_Where) (.ref C_Where) = some true) (G_paired : CallF P w K mg base "paired" ["one", "other", "rule"] 7 (spPaired P w K C_Where CF))
    {f : Addr} {fd : FuncData} (F : Fun K "__or__" "Where.__or__" (inClass (topS 19) 8) f fd) : FnOk P w K mg base (L2.CX P w) 8 f fd ["self", "other"] (spOpW K C_Where CF fun b c => b || c) := by
  have nd := sc_Where___or__.nd
  refine F.okX sc_Where___or__ (fun vs H Q E h => ?_) (fun cdv A outer s H vs Q E hr h => ?_)
  · obtain ⟨x, y, f, g, p, q, rfl, _⟩ := h
    rfl
  · refine ⟨_, (pss_cons (ps_if (pt_not (pt_val (pe_callB (call_isiK' (K := K) rfl) (by rfl) B.isinstance (by decide +kernel) (pa_cons (pv 1) (pa_cons (pe_glob (v := .ref C_Where) rfl g_Where rfl) pa_nil))))) (pss_one ps_never) pss_nil)
      (pss_one (ps_ret (pe_callF G_paired (hr.mono (by decide)) rfl (passes_call (takes_of rfl rfl rfl rfl) (fun _ _ _ _ h => h)) (pa_cons (pv 0) (pa_cons (pv 1) (pa_cons (pe_dispBK (P := P) (w := w) rfl rfl hr.un16' (pps_cons (pe_tup (pa_cons pe_bl (pa_cons pe_bl pa_nil))) pe_bl (pps_cons (pe_tup (pa_cons pe_bl (pa_cons pe_bl pa_nil))) pe_bl (pps_cons (pe_tup (pa_cons pe_bl (pa_cons pe_bl pa_nil))) pe_bl pps_nil))) (by rfl) (by rfl) (fun z => by cases z) (by decide)) pa_nil))))))), ?_⟩
    obtain ⟨x, y, f, g, p, q, rfl, hw, hv, lp, lq, q1, q2⟩ := h
    obtain ⟨bl', rl', hy, _⟩ := hv.get
    refine g_st (σ' := [some (.ref x), some (.ref y)]) rfl ?_
    walk_at "gos"
    refine u_isi (.own C_Where) (hyW _ _ _ _ hy) hi ?_
    walk_at "gos"
    refine fun d hd => ?_
    have e0 := same_new (o := .dT []) hd
    generalize hX : upd H d (.dT []) = H0 at e0
    have hd0 : H0 d = some (.dT []) := by rw [← hX]; exact upd_same
    walk_at "gos"
    (walk_at "new"; rename_i t0 _ G0 g0 k0; walk_at "gos")
    walk_at "gos"
    (walk_at "new"; rename_i t1 _ G1 g1 k1; walk_at "gos")
    walk_at "gos"
    (walk_at "new"; rename_i t2 _ G2 g2 k2; walk_at "gos")
    walk_at "gos"
    refine ⟨(g0.trans (g1.trans g2)) _ _ hd0, [(true, true), (true, false), (false, true)], [t0, t1, t2], rfl, by decide, by decide, rfl, fun i a p ha hp => ?_, ?_⟩
    · match i, ha, hp with
      | 0, ha, hp => cases ha; cases hp; exact (g2 _ _ (g1 _ _ k0))
      | 1, ha, hp => cases ha; cases hp; exact (g2 _ _ k1)
      | 2, ha, hp => cases ha; cases hp; exact k2
      | i + 3, ha, hp => cases ha
    · have hdn : H d = none := hd
      have eS : Same H (upd G2 d (DicO P w ([(true, true), (true, false), (false, true)].zip [t0, t1, t2]) d)) := Same.mut (e0.trans (g0.trans (g1.trans g2))) hd
      have hne : ∀ {z : Addr} {u : HO}, G2 z = some u → u ≠ .dT [] → upd G2 d (DicO P w ([(true, true), (true, false), (false, true)].zip [t0, t1, t2]) d) z = some u := fun {z u} hz hu => by
        rw [upd_ne (fun zz => by rw [zz, (g0.trans (g1.trans g2)) _ _ hd0] at hz; exact hu (Option.some.inj hz).symm)]; exact hz
      walk_at "gos"
      refine ⟨x, y, d, f, g, [(true, true), (true, false), (false, true)], p, q, rfl, hw.l eS.l, hv.l eS.l, ⟨[t0, t1, t2], rfl, upd_same, fun i a p ha hp => ?_⟩, lp, lq, fun hl z H' e' hz => q1 hl z H' (eS.trans e') (hz.congr fun n => ?_), fun hl H' d' e' hd' => q2 hl H' d' (eS.trans e') hd'⟩
      · match i, ha, hp with
        | 0, ha, hp => cases ha; cases hp; exact hne (g2 _ _ (g1 _ _ k0)) (fun z => by cases z)
        | 1, ha, hp => cases ha; cases hp; exact hne (g2 _ _ k1) (fun z => by cases z)
        | 2, ha, hp => cases ha; cases hp; exact hne k2 (fun z => by cases z)
        | i + 3, ha, hp => cases ha
      · show decide ((f n, g n) ∈ _) = _
        cases f n <;> cases g n <;> rfl
theorem sc_Where___and__ : FnScope ["self", "other"] ["self", "other"] (defScope (inClass (topS 19) 9)) := ⟨rfl, rfl, rfl, by decide +kernel, rfl, by decide +kernel, by decide +kernel⟩
theorem ok_Where___and__ {C_Where CF : Addr} (B : Bn mg) (g_Where : mg "Where" = some (.ref C_Where)) (hyW : ∀ H x bl rl, IsW K H x C_Where bl rl → TyX K H (.ref x) (.ref C_Where)) (hi : PySem.W.kitOne K (.ref C_Where) (.ref C_Where) = some true) (G_paired : CallF P w K mg base "paired" ["one", "other", "rule"] 7 (spPaired P w K C_Where CF))
    {f : Addr} {fd : FuncData} (F : Fun K "__and__" "Where.__and__" (inClass (topS 19) 9) f fd) : FnOk P w K mg base (L2.CX P w) 8 f fd ["self", "other"] (spOpW K C_Where CF fun b c => b && c) := by
  have nd := sc_Where___and__.nd
  refine F.okX sc_Where___and__ (fun vs H Q E h => ?_) (fun cdv A outer s H vs Q E hr h => ?_)
  · obtain ⟨x, y, f, g, p, q, rfl, _⟩ := h
    rfl
  · refine ⟨_, (pss_cons (ps_if (pt_not (pt_val (pe_callB (call_isiK' (K := K) rfl) (by rfl) B.isinstance (by decide +kernel) (pa_cons (pv 1) (pa_cons (pe_glob (v := .ref C_Where) rfl g_Where rfl) pa_nil))))) (pss_one ps_never) pss_nil)
      (pss_one (ps_ret (pe_callF G_paired (hr.mono (by decide)) rfl (passes_call (takes_of rfl rfl rfl rfl) (fun _ _ _ _ h => h)) (pa_cons (pv 0) (pa_cons (pv 1) (pa_cons (pe_dispBK (P := P) (w := w) rfl rfl hr.un16' (pps_cons (pe_tup (pa_cons pe_bl (pa_cons pe_bl pa_nil))) pe_bl pps_nil) (by rfl) (by rfl) (fun z => by cases z) (by decide)) pa_nil))))))), ?_⟩
    obtain ⟨x, y, f, g, p, q, rfl, hw, hv, lp, lq, q1, q2⟩ := h
    obtain ⟨bl', rl', hy, _⟩ := hv.get
    refine g_st (σ' := [some (.ref x), some (.ref y)]) rfl ?_
    walk_at "gos"
    refine u_isi (.own C_Where) (hyW _ _ _ _ hy) hi ?_
    walk_at "gos"
    refine fun d hd => ?_
    have e0 := same_new (o := .dT []) hd
    generalize hX : upd H d (.dT []) = H0 at e0
    have hd0 : H0 d = some (.dT []) := by rw [← hX]; exact upd_same
    walk_at "gos"
    (walk_at "new"; rename_i t0 _ G0 g0 k0; walk_at "gos")
    walk_at "gos"
    refine ⟨g0 _ _ hd0, [(true, true)], [t0], rfl, by decide, by decide, rfl, fun i a p ha hp => ?_, ?_⟩
    · match i, ha, hp with
      | 0, ha, hp => cases ha; cases hp; exact k0
      | i + 1, ha, hp => cases ha
    · have hdn : H d = none := hd
      have eS : Same H (upd G0 d (DicO P w ([(true, true)].zip [t0]) d)) := Same.mut (e0.trans g0) hd
      have hne : ∀ {z : Addr} {u : HO}, G0 z = some u → u ≠ .dT [] → upd G0 d (DicO P w ([(true, true)].zip [t0]) d) z = some u := fun {z u} hz hu => by
        rw [upd_ne (fun zz => by rw [zz, g0 _ _ hd0] at hz; exact hu (Option.some.inj hz).symm)]; exact hz
      walk_at "gos"
      refine ⟨x, y, d, f, g, [(true, true)], p, q, rfl, hw.l eS.l, hv.l eS.l, ⟨[t0], rfl, upd_same, fun i a p ha hp => ?_⟩, lp, lq, fun hl z H' e' hz => q1 hl z H' (eS.trans e') (hz.congr fun n => ?_), fun hl H' d' e' hd' => q2 hl H' d' (eS.trans e') hd'⟩
      · match i, ha, hp with
        | 0, ha, hp => cases ha; cases hp; exact hne k0 (fun z => by cases z)
        | i + 1, ha, hp => cases ha
      · show decide ((f n, g n) ∈ _) = _
        cases f n <;> cases g n <;> rfl
theorem sc_Where___sub__ : FnScope ["self", "other"] ["self", "other"] (defScope (inClass (topS 19) 10)) := ⟨rfl, rfl, rfl, by decide +kernel, rfl, by decide +kernel, by decide +kernel⟩
theorem ok_Where___sub__ {C_Where CF : Addr} (B : Bn mg) (g_Where : mg "Where" = some (.ref C_Where)) (hyW : ∀ H x bl rl, IsW K H x C_Where bl rl → TyX K H (.ref x) (.ref C_Where)) (hi : PySem.W.kitOne K (.ref C_Where) (.ref C_Where) = some true) (G_paired : CallF P w K mg base "paired" ["one", "other", "rule"] 7 (spPaired P w K C_Where CF))
    {f : Addr} {fd : FuncData} (F : Fun K "__sub__" "Where.__sub__" (inClass (topS 19) 10) f fd) : FnOk P w K mg base (L2.CX P w) 8 f fd ["self", "other"] (spOpW K C_Where CF fun b c => b && !c) := by
  have nd := sc_Where___sub__.nd
  refine F.okX sc_Where___sub__ (fun vs H Q E h => ?_) (fun cdv A outer s H vs Q E hr h => ?_)
  · obtain ⟨x, y, f, g, p, q, rfl, _⟩ := h
    rfl
  · refine ⟨_, (pss_cons (ps_if (pt_not (pt_val (pe_callB (call_isiK' (K := K) rfl) (by rfl) B.isinstance (by decide +kernel) (pa_cons (pv 1) (pa_cons (pe_glob (v := .ref C_Where) rfl g_Where rfl) pa_nil))))) (pss_one ps_never) pss_nil)
      (pss_one (ps_ret (pe_callF G_paired (hr.mono (by decide)) rfl (passes_call (takes_of rfl rfl rfl rfl) (fun _ _ _ _ h => h)) (pa_cons (pv 0) (pa_cons (pv 1) (pa_cons (pe_dispBK (P := P) (w := w) rfl rfl hr.un16' (pps_cons (pe_tup (pa_cons pe_bl (pa_cons pe_bl pa_nil))) pe_bl pps_nil) (by rfl) (by rfl) (fun z => by cases z) (by decide)) pa_nil))))))), ?_⟩
    obtain ⟨x, y, f, g, p, q, rfl, hw, hv, lp, lq, q1, q2⟩ := h
    obtain ⟨bl', rl', hy, _⟩ := hv.get
    refine g_st (σ' := [some (.ref x), some (.ref y)]) rfl ?_
    walk_at "gos"
    refine u_isi (.own C_Where) (hyW _ _ _ _ hy) hi ?_
    walk_at "gos"
    refine fun d hd => ?_
    have e0 := same_new (o := .dT []) hd
    generalize hX : upd H d (.dT []) = H0 at e0
    have hd0 : H0 d = some (.dT []) := by rw [← hX]; exact upd_same
    walk_at "gos"
    (walk_at "new"; rename_i t0 _ G0 g0 k0; walk_at "gos")
    walk_at "gos"
    refine ⟨g0 _ _ hd0, [(true, false)], [t0], rfl, by decide, by decide, rfl, fun i a p ha hp => ?_, ?_⟩
    · match i, ha, hp with
      | 0, ha, hp => cases ha; cases hp; exact k0
      | i + 1, ha, hp => cases ha
    · have hdn : H d = none := hd
      have eS : Same H (upd G0 d (DicO P w ([(true, false)].zip [t0]) d)) := Same.mut (e0.trans g0) hd
      have hne : ∀ {z : Addr} {u : HO}, G0 z = some u → u ≠ .dT [] → upd G0 d (DicO P w ([(true, false)].zip [t0]) d) z = some u := fun {z u} hz hu => by
        rw [upd_ne (fun zz => by rw [zz, g0 _ _ hd0] at hz; exact hu (Option.some.inj hz).symm)]; exact hz
      walk_at "gos"
      refine ⟨x, y, d, f, g, [(true, false)], p, q, rfl, hw.l eS.l, hv.l eS.l, ⟨[t0], rfl, upd_same, fun i a p ha hp => ?_⟩, lp, lq, fun hl z H' e' hz => q1 hl z H' (eS.trans e') (hz.congr fun n => ?_), fun hl H' d' e' hd' => q2 hl H' d' (eS.trans e') hd'⟩
      · match i, ha, hp with
        | 0, ha, hp => cases ha; cases hp; exact hne k0 (fun z => by cases z)
        | i + 1, ha, hp => cases ha
      · show decide ((f n, g n) ∈ _) = _
        cases f n <;> cases g n <;> rfl
theorem sc_Where___xor__ : FnScope ["self", "other"] ["self", "other"] (defScope (inClass (topS 19) 11)) := ⟨rfl, rfl, rfl, by decide +kernel, rfl, by decide +kernel, by decide +kernel⟩
theorem ok_Where___xor__ {C_Where CF : Addr} (B : Bn mg) (g_Where : mg "Where" = some (.ref C_Where)) (hyW : ∀ H x bl rl, IsW K H x C_Where bl rl → TyX K H (.ref x) (.ref C_Where)) (hi : PySem.W.kitOne K (.ref C_Where) (.ref C_Where) = some true) (G_paired : CallF P w K mg base "paired" ["one", "other", "rule"] 7 (spPaired P w K C_Where CF))
    {f : Addr} {fd : FuncData} (F : Fun K "__xor__" "Where.__xor__" (inClass (topS 19) 11) f fd) : FnOk P w K mg base (L2.CX P w) 8 f fd ["self", "other"] (spOpW K C_Where CF fun b c => b != c) := by
  have nd := sc_Where___xor__.nd
  refine F.okX sc_Where___xor__ (fun vs H Q E h => ?_) (fun cdv A outer s H vs Q E hr h => ?_)
  · obtain ⟨x, y, f, g, p, q, rfl, _⟩ := h
    rfl
  · refine ⟨_, (pss_cons (ps_if (pt_not (pt_val (pe_callB (call_isiK' (K := K) rfl) (by rfl) B.isinstance (by decide +kernel) (pa_cons (pv 1) (pa_cons (pe_glob (v := .ref C_Where) rfl g_Where rfl) pa_nil))))) (pss_one ps_never) pss_nil)
      (pss_one (ps_ret (pe_callF G_paired (hr.mono (by decide)) rfl (passes_call (takes_of rfl rfl rfl rfl) (fun _ _ _ _ h => h)) (pa_cons (pv 0) (pa_cons (pv 1) (pa_cons (pe_dispBK (P := P) (w := w) rfl rfl hr.un16' (pps_cons (pe_tup (pa_cons pe_bl (pa_cons pe_bl pa_nil))) pe_bl (pps_cons (pe_tup (pa_cons pe_bl (pa_cons pe_bl pa_nil))) pe_bl pps_nil)) (by rfl) (by rfl) (fun z => by cases z) (by decide)) pa_nil))))))), ?_⟩
    obtain ⟨x, y, f, g, p, q, rfl, hw, hv, lp, lq, q1, q2⟩ := h
    obtain ⟨bl', rl', hy, _⟩ := hv.get
    refine g_st (σ' := [some (.ref x), some (.ref y)]) rfl ?_
    walk_at "gos"
    refine u_isi (.own C_Where) (hyW _ _ _ _ hy) hi ?_
    walk_at "gos"
    refine fun d hd => ?_
    have e0 := same_new (o := .dT []) hd
    generalize hX : upd H d (.dT []) = H0 at e0
    have hd0 : H0 d = some (.dT []) := by rw [← hX]; exact upd_same
    walk_at "gos"
    (walk_at "new"; rename_i t0 _ G0 g0 k0; walk_at "gos")
    walk_at "gos"
    (walk_at "new"; rename_i t1 _ G1 g1 k1; walk_at "gos")
    walk_at "gos"
    refine ⟨(g0.trans g1) _ _ hd0, [(true, false), (false, true)], [t0, t1], rfl, by decide, by decide, rfl, fun i a p ha hp => ?_, ?_⟩
    · match i, ha, hp with
      | 0, ha, hp => cases ha; cases hp; exact (g1 _ _ k0)
      | 1, ha, hp => cases ha; cases hp; exact k1
      | i + 2, ha, hp => cases ha
    · have hdn : H d = none := hd
      have eS : Same H (upd G1 d (DicO P w ([(true, false), (false, true)].zip [t0, t1]) d)) := Same.mut (e0.trans (g0.trans g1)) hd
      have hne : ∀ {z : Addr} {u : HO}, G1 z = some u → u ≠ .dT [] → upd G1 d (DicO P w ([(true, false), (false, true)].zip [t0, t1]) d) z = some u := fun {z u} hz hu => by
        rw [upd_ne (fun zz => by rw [zz, (g0.trans g1) _ _ hd0] at hz; exact hu (Option.some.inj hz).symm)]; exact hz
      walk_at "gos"
      refine ⟨x, y, d, f, g, [(true, false), (false, true)], p, q, rfl, hw.l eS.l, hv.l eS.l, ⟨[t0, t1], rfl, upd_same, fun i a p ha hp => ?_⟩, lp, lq, fun hl z H' e' hz => q1 hl z H' (eS.trans e') (hz.congr fun n => ?_), fun hl H' d' e' hd' => q2 hl H' d' (eS.trans e') hd'⟩
      · match i, ha, hp with
        | 0, ha, hp => cases ha; cases hp; exact hne (g1 _ _ k0) (fun z => by cases z)
        | 1, ha, hp => cases ha; cases hp; exact hne k1 (fun z => by cases z)
        | i + 2, ha, hp => cases ha
      · show decide ((f n, g n) ∈ _) = _
        cases f n <;> cases g n <;> rfl
end
end Ev

end
/-! A lambda with parameters, handed first to a def that takes more. -/
namespace LamX
open PySem PySem.Spec PyProof.Rows L2
theorem paired_len : ∀ {vs : List V} {us : List Value}, Vals vs us → vs.length = us.length
  | _, _, .nil => rfl
  | _, _, .cons _ t => congrArg Nat.succ (paired_len t)
theorem lookup_uni {l : List (Str × Value)} {y : Str} {u : Value} (h : (y, u) ∈ l) (un : ∀ u', (y, u') ∈ l → u' = u) : l.lookup y = some u := by
  induction l with
  | nil => cases h
  | cons p r ih =>
    obtain ⟨a, b⟩ := p
    by_cases e : y = a
    · subst e
      rw [List.lookup_cons_self, un b List.mem_cons_self]
    · have hb : (y == a) = false := by simpa using e
      rw [List.lookup_cons, hb]
      rcases List.mem_cons.mp h with z | z
      · cases z; exact absurd rfl e
      · exact ih z fun u' hu => un u' (List.mem_cons_of_mem _ hu)
theorem lookup_zip {ls : List Str} {us : List Value} (nd : ls.Nodup) {i : Nat} {y : Str} {u : Value} (h1 : ls[i]? = some y) (h2 : us[i]? = some u) : (ls.zip us).reverse.lookup y = some u := by
  refine lookup_uni (List.mem_reverse.mpr (List.mem_of_getElem? (i := i) ?_)) fun u' hu => ?_
  · rw [List.getElem?_zip_eq_some]; exact ⟨h1, h2⟩
  · obtain ⟨k, hk⟩ := List.getElem?_of_mem (List.mem_reverse.mp hu)
    rw [List.getElem?_zip_eq_some] at hk
    have := nodup_ix nd hk.1 h1
    subst this
    exact Option.some.inj (hk.2.symm.trans h2)
/-- slots that the lambda's own names hide -/
def maskB : List Bool → L2.St → L2.St
  | b :: r, o :: σ => (if b = true then none else o) :: maskB r σ
  | _, _ => []
theorem maskB_get : ∀ {ms : List Bool} {σ : L2.St} {i : Nat} {v : V}, (maskB ms σ)[i]? = some (some v) → ms[i]? = some false ∧ σ[i]? = some (some v)
  | [], _, _, _, h => by simp [maskB] at h
  | _ :: _, [], _, _, h => by simp [maskB] at h
  | b :: r, o :: σ, 0, v, h => by
    cases b <;> simp [maskB] at h ⊢
    exact h
  | b :: r, o :: σ, i + 1, v, h => by
    simp only [maskB, List.getElem?_cons_succ] at h ⊢
    exact maskB_get h
theorem maskB_len : ∀ {ms : List Bool} {σ : L2.St}, ms.length = σ.length → (maskB ms σ).length = σ.length
  | [], [], _ => rfl
  | b :: r, o :: σ, h => by
    simp only [maskB, List.length_cons] at h ⊢
    rw [maskB_len (Nat.succ.inj h)]
/-- the names ls are the parameters, no name of its own besides -/
structure LamP (sc scope : Scope) (ls : List Str) : Prop where
  kind : scope.kind = .function
  co : scope.isCoroutine = false
  gen : scope.isGenerator = false
  own : ∀ y ∈ scope.names, (y.2 = .local → y.1 ∈ ls) ∧ y.2 ≠ .cell
  par : ∀ y ∈ ls, scope.names.lookup y = some .local
  free : ∀ y ∈ scope.names, y.2 = .free → sc.names.lookup y.1 = some .cell ∨ sc.names.lookup y.1 = some .free
  nd : ls.Nodup
def lamPB (sc scope : Scope) (ls : List Str) : Bool :=
  decide (scope.kind = .function) && !scope.isCoroutine && !scope.isGenerator && (scope.names.all fun y => (!decide (y.2 = .local) || decide (y.1 ∈ ls)) && !decide (y.2 = .cell) && (!decide (y.2 = .free) || decide (sc.names.lookup y.1 = some .cell) || decide (sc.names.lookup y.1 = some .free)))
    && (ls.all fun y => decide (scope.names.lookup y = some .local)) && decide ls.Nodup
theorem lamP_by {sc scope : Scope} {ls : List Str} (h : lamPB sc scope ls = true) : LamP sc scope ls := by
  unfold lamPB at h
  simp only [Bool.and_eq_true, Bool.or_eq_true, Bool.not_eq_true', decide_eq_true_eq, decide_eq_false_iff_not, List.all_eq_true] at h
  obtain ⟨⟨⟨⟨⟨h1, h2⟩, h3⟩, h4⟩, h5⟩, h6⟩ := h
  refine ⟨h1, h2, h3, fun y hy => ⟨fun e => ?_, (h4 y hy).1.2⟩, h5, fun y hy e => ?_, h6⟩
  · exact (h4 y hy).1.1.elim (fun z => absurd e z) id
  · rcases (h4 y hy).2 with (z | z) | z
    · exact absurd e z
    · exact .inl z
    · exact .inr z
theorem LamP.has {X : Cx} {scope : Scope} {ls : List Str} (L : LamP X.env.scope scope ls) (ok : X.Ok) : ∀ y ∈ scope.names, y.2 = .free → ∃ c, X.env.cells.lookup y.1 = some c := fun y hy e => by
  rcases L.free y hy e with k | k
  · exact ok.has _ (.inl k)
  · exact ok.has _ (.inr k)
/-- the body's context: the parameters' slots first -/
abbrev lamCxP (ls : List Str) (X : Cx) (A : Around) (outer : List Env) (s : Shared) (H : Hp) (E : XK) (scope : Scope) (f c' : Addr) : Cx := { lamCx X A outer s H E scope f c' with N := ls ++ X.N }
section
variable {X : Cx} {pins : List (Addr × Obj)} {σ : L2.St} {H HZ : Hp} {s s1 : Shared}
theorem lam_startP {A : Around} {outer : List Env} {E : XK} {scope : Scope} {f c' : Addr} {h₁ : Heap} {tk : Nat} {ls : List Str} {ms : List Bool} {us : List Value} {vs : List V} (I : Inv X pins σ H s) (L : LamP X.env.scope scope ls) (e0 : Env0 X.prog X.w X.K X.mg X.base A outer s1 HZ) (hd : A.handled = none)
    (un : Un (frs X.stack) [] H HZ s.heap s1.heap) (hns : h₁.Ns s1.heap.objs.size fun y => (ls.zip us).reverse.lookup y) (kp : ∀ b o, s1.heap.get? b = some o → h₁.get? b = some o)
    (hms : ms = X.N.map fun y => decide (y ∈ ls)) (r : Vals vs us) (hl : vs.length = ls.length) :
    Inv (lamCxP ls X A outer s1 HZ E scope f c') [] (vs.map some ++ maskB ms σ) HZ { s1 with heap := h₁, toks := tk } := by
  have hfree := L.has I.ok
  have cm : ∀ {y c}, (cloFrom X.env.cells scope.names []).lookup y = some c → X.env.cells.lookup y = some c := fun {y c} e => by
    rcases cloFrom_mem (PySem.mem_of_lookup e) with hm | ⟨h1, h2⟩
    · cases hm
    · obtain ⟨c1, hc⟩ := hfree _ h1 rfl
      have hc : X.env.cells.lookup y = some c1 := hc
      have e2 : c = c1 := by
        rw [h2, hc] <;> rfl
      rw [e2]
      exact hc
  have look : ∀ {y}, scope.names.lookup y = some .free → ∃ c, (cloFrom X.env.cells scope.names []).lookup y = some c := fun {y} hl => by
    have hy : (y, NameKind.free) ∈ scope.names := PySem.mem_of_lookup hl
    exact mem_lookup (cloFrom_has (cells := X.env.cells) (acc := []) hy)
  have cellK : ∀ {c : Addr} {v : Option Value}, H c = none → s.heap.IsCell c v → h₁.IsCell c v := fun {c v} n ⟨o, ho, hd⟩ => by
    obtain ⟨sl, q⟩ := un.any ho n (by simp)
    exact ⟨_, kp _ _ q, hd⟩
  have noA : ∀ b : Addr, b ∉ (lamCxP ls X A outer s1 HZ E scope f c').ex := fun b z => absurd (show b ∈ ([] : List Addr) from z) (by simp)
  have hml : ms.length = σ.length := by rw [hms, List.length_map, I.len]
  refine ⟨⟨e0.mod, L.kind, rfl, rfl, Nat.le_refl _, fun y z c e1 e2 => I.ok.inj y z c (cm e1) (cm e2), fun y hy => ?_, fun y c z _ => ?_, fun _ => hd, Around.frames_deeper e0.frames, .inr ⟨rfl, rfl⟩, fun b z => absurd z (noA b), e0.bs, e0.bsz, fun b _ _ => noA b,
      fun b z => absurd z (noA b), e0.funs, e0.frf⟩,
    rfl, e0.bare, Un.kept kp, ⟨_, hns, fun i y v e1 e2 e3 => ?_⟩, fun y c e => ?_, e0.hok.fresh (Nat.le_refl _), fun y c e => ?_, fun q hq => absurd (show q ∈ ([] : List (Addr × Obj)) ++ [] from hq) (by simp), e0.hok.kept kp, ?_⟩
  · have hy : scope.names.lookup y = some .cell ∨ scope.names.lookup y = some .free := hy
    rcases hy with hy | hy
    · exact absurd rfl (L.own _ (PySem.mem_of_lookup hy)).2
    · exact look hy
  · have z : false = true := z
    cases z
  · have e3 : Vis scope y := e3
    have e1 : (ls ++ X.N)[i]? = some y := e1
    by_cases hi : i < ls.length
    · rw [List.getElem?_append_left hi] at e1
      rw [List.getElem?_append_left (by rw [List.length_map, hl]; exact hi), List.getElem?_map] at e2
      have ha : vs[i]? = some v := by
        cases e : vs[i]? with
        | none => rw [e] at e2; cases e2
        | some a => rw [e] at e2; cases e2; rfl
      obtain ⟨u, hu, rv⟩ := r.get ha
      exact ⟨u, rv, .inl ⟨L.par y (List.mem_of_getElem? e1), lookup_zip L.nd e1 hu⟩⟩
    · rw [List.getElem?_append_right (by omega)] at e1
      rw [List.getElem?_append_right (by rw [List.length_map, hl]; omega), List.length_map, hl] at e2
      obtain ⟨m1, m2⟩ := maskB_get e2
      have hno : y ∉ ls := by
        rw [hms, List.getElem?_map, e1] at m1
        have m1 := Option.some.inj m1
        exact of_decide_eq_false m1
      rcases e3 with k | k | k
      · exact absurd ((L.own _ (PySem.mem_of_lookup k)).1 rfl) hno
      · exact absurd rfl (L.own _ (PySem.mem_of_lookup k)).2
      · obtain ⟨m, hn, hlk⟩ := I.loc
        have hvis : Vis X.env.scope y := (L.free _ (PySem.mem_of_lookup k) rfl).elim (fun k => .inr (.inl k)) (fun k => .inr (.inr k))
        obtain ⟨w', r, q⟩ := hlk _ y v e1 m2 hvis
        obtain ⟨c2, h2⟩ := look k
        refine ⟨w', r, .inr ⟨.inr k, c2, h2, ?_⟩⟩
        have c1 := cm h2
        rcases q with ⟨k', _⟩ | ⟨_, c3, e', z⟩
        · have k' : X.env.scope.names.lookup y = some .local := k'
          rcases L.free _ (PySem.mem_of_lookup k) rfl with k2 | k2 <;> rw [show X.env.scope.names.lookup y = _ from k2] at k' <;> cases k'
        · rw [c1] at e'
          cases e'
          exact cellK (I.freeC y _ c1) z
  · obtain ⟨w', z⟩ := I.cell y c (cm e)
    exact ⟨w', cellK (I.freeC y c (cm e)) z⟩
  · obtain ⟨v, o, ho, hd⟩ := I.cell y c (cm e)
    exact un.free c o ho (I.freeC y c (cm e)) (by simp)
  · show (vs.map some ++ maskB ms σ).length = (ls ++ X.N).length
    rw [List.length_append, List.length_append, List.length_map, hl, maskB_len hml, I.len]
/-- a(e ..), in the def that got the lambda -/
theorem pe_actP {CXg : CXT} {Eg : XK} {Ng : List Str} {qg : Str} {sg : Scope} {g f c' : Addr} {cdg pm ctv : Value} {params : Arguments} {body : Expr} {scope : Scope} {k i : Nat} {a : Str} {pn : List (Addr × Obj)} {xe : Value → Shared → Prop} {W : WX} {E : XK} {tb : TE} {ta : TA} {p1 p2 : Pos} {ls : List Str} {ms : List Bool} {e : Expr} {es : List Expr}
    (I : Inv X pins σ H s) (L : LamP X.env.scope scope ls) (hms : ms = X.N.map fun y => decide (y ∈ ls)) (hf : s.heap.get? f = some (PySem.W.kla_obj "<lambda>" (X.env.qual ++ "<lambda>") params body scope (cloFrom X.env.cells scope.names []) pm c' ctv)) (hfn : H f = none) (hfr : f ∉ frs X.stack)
    (hbind : ∀ us : List Value, us.length = ls.length → bindArgs (PySem.W.kla_fn "<lambda>" (X.env.qual ++ "<lambda>") params body scope (cloFrom X.env.cells scope.names []) pm (.ref c') ctv) ⟨us, []⟩ = pure (ls.zip us))
    (tk : Takes ((cxOf CXg X.prog X.w X.K X.mg X.base Ng qg sg g cdg X.A X.stack s H Eg).tr pn xe) W) (hr : Room (k + 1) (X.A.deeper (envOfC qg sg s.heap.objs.size g cdg)))
    (hbody : ∀ (A : Around) (outer : List Env) (s : Shared) (H : Hp), Room k (A.deeper (lamEnv X scope s.heap.objs.size f c')) → PE (lamCxP ls X A outer s H E scope f c') body tb)
    (ha : PA ((cxOf CXg X.prog X.w X.K X.mg X.base Ng qg sg g cdg X.A X.stack s H Eg).tr pn xe) (e :: es) ta)
    (hN : Ng[i]? = some a) (hv : Vis sg a) (hd : (a == ("__debug__" : Str)) = false) (hcd : (a == ("__classdict__" : Str)) = false)
    (he : ∀ env : Env, starEach (e :: es) env = (false, eval e env) :: starEach es env) (hpl : ∀ (pos : Pos) (env : Env), (backTo pos (starEach es env)).any (·.1) = false) :
    PE ((cxOf CXg X.prog X.w X.K X.mg X.base Ng qg sg g cdg X.A X.stack s H Eg).tr pn xe) (.Call (.Name a p1) (e :: es) [] p2)
      (fun σZ HZ Q => σZ[i]? = some (some (.ref f)) ∧ ta σZ HZ fun vs HZ' => vs.length = ls.length ∧ HZ' c' = some (CodeO c' (X.env.qual ++ "<lambda>")) ∧ (∀ cls d H', E cls d H' → W cls d σZ H') ∧ tb (vs.map some ++ maskB ms σ) HZ' Q) := by
  refine ⟨fun pinsZ sZ σZ HZ0 Q IZ h => ?_⟩
  obtain ⟨hs, ht⟩ := h
  refine wpAny_Call_Name_kw (thn ((pe_var (pos := p1) (i := i) hN hv hd hcd).run pinsZ sZ σZ HZ0 (fun v H1 => v = .ref f ∧ H1 = HZ0) IZ ⟨.ref f, hs, rfl, rfl⟩) fun u s0 ⟨v, H1, I0, r1, q1⟩ => ?_)
  obtain ⟨ev, eH⟩ := q1
  subst ev
  rw [eH] at I0
  obtain rfl : u = Value.ref f := r1
  have keepf : ∀ {σ1 : L2.St} {H1 : Hp} {s1 : Shared}, Inv ((cxOf CXg X.prog X.w X.K X.mg X.base Ng qg sg g cdg X.A X.stack s H Eg).tr pn xe) pinsZ σ1 H1 s1 → s1.heap.get? f = some (PySem.W.kla_obj "<lambda>" (X.env.qual ++ "<lambda>") params body scope (cloFrom X.env.cells scope.names []) pm c' ctv) := fun I1 =>
    I1.base.keep f _ hf hfn hfr (fun z => nomatch (show f ∈ ([] : List Addr) from z))
  refine PySem.W.callWith_F (first := []) ⟨_, _, _, _, keepf I0⟩ (thn (ha.run p2 pinsZ s0 σZ HZ0 _ I0 ht) fun us s1 ⟨vs, HZ, I1, r, hvl, hc, hW, hb⟩ => ⟨⟨_, _, _, _, keepf I1⟩, ?_⟩) (he _) (hpl _ _)
  have of1 := keepf I1
  have un : Un (frs X.stack) [] H HZ s.heap s1.heap := I1.base
  have hul : us.length = ls.length := by rw [← paired_len r, hvl]
  obtain ⟨⟨oc, cvs, t, hoc, hdc, hvc⟩, _, _⟩ := I1.hok c' _ hc
  have rc : codeAny (model X.prog X.w) (X.A.deeper (envOfC qg sg s.heap.objs.size g cdg)) (.call (.ref f) ⟨us, []⟩) (CR (L2.CX X.prog X.w) (envOfC qg sg s.heap.objs.size g cdg :: X.stack) X.prog X.w HZ s1 Q E) s1 := by
    refine PySem.W.kla_callFunE hr.depth of1 rfl L.co L.gen rfl ⟨c', oc, cvs, t, rfl, hoc, hdc, hvc⟩ ?_
    rw [hbind us hul]
    refine wpAny_pure (wpAny_newFunctionEnv (fun y hy => (L.own y hy).2) (fun y hy => L.par _ (List.of_mem_zip (show (y.1, y.2) ∈ ls.zip us from hy)).1) (fun h₁ hns hsb => ⟨I1.nolimit.fresh _ hsb, ?_⟩) L.kind)
    show codeAny _ _ (.expr body (lamEnv X scope s1.heap.objs.size f c')) _ _
    have kp : ∀ b o, s1.heap.get? b = some o → h₁.get? b = some o := fun b o e => hsb.extBut b o (Nat.ne_of_lt (Heap.lt_size e)) (Heap.get?_push_of_some _ e)
    have J : Inv (lamCxP ls X (X.A.deeper (envOfC qg sg s.heap.objs.size g cdg)) (envOfC qg sg s.heap.objs.size g cdg :: X.stack) s1 HZ E scope f c') [] (vs.map some ++ maskB ms σ) HZ { s1 with heap := h₁, toks := s1.toks + (ls.zip us).length } :=
      lam_startP I L I1.env0 hr.hd un hns kp hms r hvl
    refine PySem.W.kla_codeExpr (wpAny_mono ((hbody _ _ s1 HZ (hr.deeper _)).run [] _ _ HZ Q J hb) (fun v s' hq => ?_) fun e s' hq => hq)
    obtain ⟨w', H', J', rv, q⟩ := hq
    exact ⟨w', H', J'.os, J'.bare, J'.base, J'.hok, rv, q⟩
  refine wpAny_call (codeAny_mono rc fun r s' hq => ?_)
  cases r with
  | error e => exact tk e s' (XE.of_call I1 (fun cls d H' h => hW cls d H' h) hq)
  | ok fl =>
    cases fl with
    | ret u => exact I1.after hq
    | next => exact False.elim hq
    | brk => exact False.elim hq
    | cont => exact False.elim hq
end
/-- the def that calls what it got first, as a(e ..) -/
def GivesP (X : Cx) (Ng : List Str) (x : Str) (sg : Scope) (g : Addr) (cdg : Value) (bg : List Stmt) (a : Str) (na nl : Nat) (q : Str) (TT : List V → (XK → List V → Hp → VK → Prop) → Hp → VK → Prop) : Prop :=
  ∀ (f c' : Addr) (s : Shared) (H : Hp) (ws : List V) (Q : VK) (tl : XK → List V → Hp → VK → Prop), ws.length = na →
    (∀ (W : WX) (pn : List (Addr × Obj)) (xe : Value → Shared → Prop) (E : XK) (p1 p2 : Pos) (e : Expr) (es : List Expr) (ta : TA), Takes ((cxOf C8.CX0 X.prog X.w X.K X.mg X.base Ng x sg g cdg X.A X.stack s H C8.E0).tr pn xe) W →
      PA ((cxOf C8.CX0 X.prog X.w X.K X.mg X.base Ng x sg g cdg X.A X.stack s H C8.E0).tr pn xe) (e :: es) ta → (∀ env : Env, starEach (e :: es) env = (false, eval e env) :: starEach es env) → (∀ (pos : Pos) (env : Env), (backTo pos (starEach es env)).any (·.1) = false) →
      PE ((cxOf C8.CX0 X.prog X.w X.K X.mg X.base Ng x sg g cdg X.A X.stack s H C8.E0).tr pn xe) (.Call (.Name a p1) (e :: es) [] p2) (fun σZ HZ Q => σZ[0]? = some (some (.ref f)) ∧ ta σZ HZ fun vs HZ' => vs.length = nl ∧ HZ' c' = some (CodeO c' q) ∧ (∀ cls d H', E cls d H' → W cls d σZ H') ∧ tl E vs HZ' Q)) →
    H c' = some (CodeO c' q) → TT ws tl H Q →
    ∃ t, PSs (cxOf C8.CX0 X.prog X.w X.K X.mg X.base Ng x sg g cdg X.A X.stack s H C8.E0).nox bg t ∧ t { nx := fun _ H' => Q .non H', rt := Q } (L2.start Ng (.ref f :: ws)) H
def tLamP (T : List (Addr × Str)) (na : Nat) (q : Str) (ms : List Bool) (TT : List V → (XK → List V → Hp → VK → Prop) → Hp → VK → Prop) (t : XK → TE) (t2 : TA) : TE := fun σ H Q => Tabs T H ∧ ∀ H1 c', ExtN H H1 → Tabs T H1 → H1 c' = some (CodeO c' q) →
  t2 σ H1 fun ws H2 => H2 c' = some (CodeO c' q) ∧ ws.length = na ∧ TT ws (fun E us H' Q' => t E (us.map some ++ maskB ms σ) H' Q') H2 Q
theorem g_lamP {T : List (Addr × Str)} {na : Nat} {q : Str} {ms : List Bool} {TT : List V → (XK → List V → Hp → VK → Prop) → Hp → VK → Prop} {t : XK → TE} {t2 : TA} {σ : L2.St} {H : Hp} {Q : VK} (hT : Tabs T H)
    (h : ∀ H1 c', ExtN H H1 → Tabs T H1 → H1 c' = some (CodeO c' q) → t2 σ H1 fun ws H2 => H2 c' = some (CodeO c' q) ∧ ws.length = na ∧ TT ws (fun E us H' Q' => t E (us.map some ++ maskB ms σ) H' Q') H2 Q) : tLamP T na q ms TT t t2 σ H Q := ⟨hT, h⟩
section
variable {X : Cx}
/-- x(lambda ..: body, e ..) -/
theorem pe_lamcallP {T : List (Addr × Str)} {TT : List V → (XK → List V → Hp → VK → Prop) → Hp → VK → Prop} {x a : Str} {as ls : List Str} {ms : List Bool} {g c P : Addr} {k : Nat} {pg : Arguments} {bg : List Stmt} {sg : Scope} {dV kV doc pm cdv ct oc : Value} {an od : Option Addr} {osl : Array (Option Value)} {Ng : List Str}
    {params : Arguments} {body : Expr} {scope : Scope} {t : XK → TE} {t2 : TA} {es : List Expr} {p lpos pos : Pos} (hg : Gl X x) (hm : X.mg x = some (.ref g)) (hk : PySem.W.keepIn X.K (.ref g) = true)
    (lk : X.K.lookup g = some ⟨oc, od, .func (PySem.W.fnOf x x pg bg sg dV kV doc pm an cdv ct), osl⟩) (hcg : PySem.W.codeIn X.K cdv x = true) (hb : L2.Binds X.K (PySem.W.fnOf x x pg bg sg dV kV doc pm an cdv ct) (a :: as) []) (Sg : FnScope Ng (a :: as) sg) (hNg : Ng[0]? = some a) (hva : Vis sg a)
    (hG : GivesP X Ng x sg g cdv bg a as.length ls.length (X.env.qual ++ "<lambda>") TT)
    (TB : TabB X.base X.mg c P) (hcode : X.env.code = .ref c) (hmT : (P, X.env.qual ++ "<lambda>") ∈ T) (hu : ∀ p ∈ T, p.1 = P → p.2 = X.env.qual ++ "<lambda>") (hr : Room (k + 2) X.A) (L : LamP X.env.scope scope ls) (hms : ms = X.N.map fun y => decide (y ∈ ls)) (hdef : defaultsOf params X.env = ([], []))
    (hbind : ∀ (q : Str) (cl : List (Str × Addr)) (pm cv ctv : Value) (us : List Value), us.length = ls.length → bindArgs (PySem.W.kla_fn "<lambda>" q params body scope cl pm cv ctv) ⟨us, []⟩ = pure (ls.zip us))
    (hbody : ∀ (A : Around) (outer : List Env) (s : Shared) (H : Hp) (E : XK) (f c' : Addr), Room k (A.deeper (lamEnv X scope s.heap.objs.size f c')) → PE (lamCxP ls X A outer s H E scope f c') body (t E))
    (ha : PA X es t2)
    (hdb : (x == ("__debug__" : Str)) = false := by decide) (hd : (a == ("__debug__" : Str)) = false := by decide) (hcd : (a == ("__classdict__" : Str)) = false := by decide)
    (he : starEach (.Lambda params body scope lpos :: es) X.env = (false, eval (.Lambda params body scope lpos) X.env) :: starEach es X.env := by rfl) (hpl : (backTo pos (starEach es X.env)).any (·.1) = false := by rfl) :
    PE X (.Call (.Name x p) (.Lambda params body scope lpos :: es) [] pos) (tLamP T as.length (X.env.qual ++ "<lambda>") ms TT t t2) := by
  refine ⟨fun pins s σ H Q I h => ?_⟩
  obtain ⟨hT, h⟩ := h
  refine wpAny_Call_Name_kw (ld_glob I hg hm ?_ hdb)
  refine PySem.W.callWith_K (h₀ := X.base) I.ok.mod.kin hk ?_ he hpl
  rw [he]
  show wpAny _ _ (spliced ((false, eval (.Lambda params body scope lpos) X.env) :: backTo pos (starEach es X.env))) _ _ s
  refine Calls.spliced_cons (lam_make2 I TB hcode hmT hu hT hdef (L.has I.ok) fun f c' pm' ctv H1 s' I1 eN T1 hf hfn hfr hco => ?_)
  have hfl : f ≠ X.env.locals := fun z => by
    obtain ⟨m, ⟨o, es', ep, ho, hd', _⟩, _⟩ := I1.loc
    rw [← z, hf] at ho
    cases ho
    cases hd'
  have hfs : f ∉ X.fs := fun z => hfr (by
    have z : f ∈ frs X.outer := z
    rcases I1.ok.stk with e | ⟨e, _⟩
    · rw [e]; exact z
    · rw [e]
      obtain ⟨v, hv, q⟩ := List.mem_filterMap.mp z
      exact List.mem_filterMap.mpr ⟨v, List.mem_cons_of_mem _ hv, q⟩)
  have I1' : Inv X ((f, _) :: pins) σ H1 s' := I1.pins_of fun p hp => (List.mem_cons.mp hp).elim (fun z => by
    subst z
    exact ⟨hf, hfn, hfl, hfs, fun v z => by cases z⟩) fun z => I1.pin p (List.mem_append_right _ z)
  refine thn (ha.run pos _ s' σ H1 _ I1' (h H1 c' eN T1 hco)) fun us s2 ⟨ws, H2, I2', r, hc2, hq⟩ => ?_
  obtain ⟨hf2, hfn2, _⟩ := I2'.pin (f, _) (List.mem_append_right _ List.mem_cons_self)
  have I2 : Inv X pins σ H2 s2 := I2'.pins_of fun p hp => I2'.pin p (List.mem_append_right _ (List.mem_cons_of_mem _ hp))
  refine ⟨I2.kIn, ?_⟩
  have rc : codeAny (model X.prog X.w) X.A (.call (.ref g) ⟨.ref f :: us, []⟩) (CR C8.CX0 X.stack X.prog X.w H2 s2 Q C8.E0) s2 := by
    refine run_ofS (N := Ng) (ps := a :: as) (us := .ref f :: us) (vs := .ref f :: ws) lk hcg Sg hr I2.env0 (by have := hb s2 (.ref f :: us) I2.kIn (by have := paired_len r; simp; omega); simpa using this) (.cons rfl r) (by rw [List.length_cons, List.length_cons, hq.1]) fun hr' => ?_
    obtain ⟨t', ht', hq'⟩ := hG f c' s2 H2 ws Q (fun E us H' Q' => t E (us.map some ++ maskB ms σ) H' Q') hq.1 (fun W pn xe E p1 p2 e es2 ta tk ha2 he2 hpl2 =>
      pe_actP (i := 0) (ms := ms) (ta := ta) (tb := t E) I2 L hms hf2 hfn2 hfr (fun us hl => hbind _ _ _ _ _ us hl) tk hr' (fun A outer s H hr2 => hbody A outer s H E f c' hr2) ha2 hNg hva hd hcd he2 hpl2) hc2 hq.2
    exact ⟨t', ht'.nox, hq'⟩
  refine wpAny_call (codeAny_mono rc fun r s2 hq => ?_)
  cases r with
  | error e => exact (show False from hq).elim
  | ok fl =>
    cases fl with
    | ret u => exact I2.after hq
    | next => exact False.elim hq
    | brk => exact False.elim hq
    | cont => exact False.elim hq
end
end LamX

/-! Lambdas of two truths without captured names: known objects, called wherever they are told. -/
namespace LamX
open PySem PySem.Spec PyProof.Rows L2
/-- a lambda's own object -/
def LamO (q : Str) (params : Arguments) (body : Expr) (scope : Scope) (f c' : Addr) : HO := .ext fun h => ∃ pm ctv, h.get? f = some (PySem.W.kla_obj "<lambda>" q params body scope [] pm c' ctv)
/-- the names ls are the parameters, no other name that is not global -/
structure LamC (scope : Scope) (ls : List Str) : Prop where
  kind : scope.kind = .function
  co : scope.isCoroutine = false
  gen : scope.isGenerator = false
  own : ∀ y ∈ scope.names, (y.2 = .local → y.1 ∈ ls) ∧ y.2 ≠ .cell ∧ y.2 ≠ .free
  par : ∀ y ∈ ls, scope.names.lookup y = some .local
  nd : ls.Nodup
def lamCB (scope : Scope) (ls : List Str) : Bool :=
  decide (scope.kind = .function) && !scope.isCoroutine && !scope.isGenerator && (scope.names.all fun y => (!decide (y.2 = .local) || decide (y.1 ∈ ls)) && !decide (y.2 = .cell) && !decide (y.2 = .free))
    && (ls.all fun y => decide (scope.names.lookup y = some .local)) && decide ls.Nodup
theorem lamC_by {scope : Scope} {ls : List Str} (h : lamCB scope ls = true) : LamC scope ls := by
  unfold lamCB at h
  simp only [Bool.and_eq_true, Bool.or_eq_true, Bool.not_eq_true', decide_eq_true_eq, decide_eq_false_iff_not, List.all_eq_true] at h
  obtain ⟨⟨⟨⟨⟨h1, h2⟩, h3⟩, h4⟩, h5⟩, h6⟩ := h
  exact ⟨h1, h2, h3, fun y hy => ⟨fun e => (h4 y hy).1.1.elim (fun z => absurd e z) id, (h4 y hy).1.2, (h4 y hy).2⟩, h5, h6⟩
theorem cloFrom_none {cells : List (Str × Addr)} : ∀ {names : List (Str × NameKind)}, (∀ y ∈ names, y.2 ≠ .free) → cloFrom cells names [] = []
  | [], _ => rfl
  | (n, k) :: r, h => by
    have hk : (k == NameKind.free) = false := by
      have := h (n, k) List.mem_cons_self
      cases k <;> first | rfl | exact absurd rfl this
    show (if k == .free then _ else cloFrom cells r []) = []
    rw [hk, if_neg Bool.false_ne_true]
    exact cloFrom_none fun y hy => h y (List.mem_cons_of_mem _ hy)
abbrev clEnv (q : Str) (scope : Scope) (L f c' : Addr) : Env := PySem.W.envX q scope L f (.ref c') []
/-- the body's context: it raises nothing -/
def clCx (P : Program) (w : World) (K : PySem.W.Frag) (mg : Str → Option Value) (base : Heap) (ls : List Str) (q : Str) (scope : Scope) (f c' : Addr) (A : Around) (outer : List Env) (s : Shared) (H : Hp) : Cx where
  prog := P
  w := w
  K := K
  mg := mg
  base := base
  A := A.deeper (clEnv q scope s.heap.objs.size f c')
  N := ls
  s_0 := s
  H_0 := H
  env := clEnv q scope s.heap.objs.size f c'
  outer := outer
  stack := clEnv q scope s.heap.objs.size f c' :: outer
  ex := []
  fn := fun _ => false
  calm := true
  pn := []
  xe := fun _ _ => False
theorem cl_start {P : Program} {w : World} {K : PySem.W.Frag} {mg : Str → Option Value} {base : Heap} {ls : List Str} {q : Str} {scope : Scope} {f c' : Addr} {A : Around} {outer : List Env} {s : Shared} {H : Hp} {h₁ : Heap} {tk : Nat} {us : List Value} {vs : List V} (L : LamC scope ls) (e0 : Env0 P w K mg base A outer s H) (hd : A.handled = none)
    (hns : h₁.Ns s.heap.objs.size fun y => (ls.zip us).reverse.lookup y) (kp : ∀ b o, s.heap.get? b = some o → h₁.get? b = some o) (r : Vals vs us) (hl : vs.length = ls.length) :
    Inv (clCx P w K mg base ls q scope f c' A outer s H) [] (vs.map some) H { s with heap := h₁, toks := tk } := by
  have noA : ∀ b : Addr, b ∉ (clCx P w K mg base ls q scope f c' A outer s H).ex := fun b z => nomatch (show b ∈ ([] : List Addr) from z)
  have noC : ∀ (y : Str) (c : Addr), (clCx P w K mg base ls q scope f c' A outer s H).env.cells.lookup y = some c → False := fun y c z => by cases z
  have noK : ∀ {y : Str}, scope.names.lookup y = some .cell ∨ scope.names.lookup y = some .free → False := fun {y} hy => hy.elim (fun z => (L.own _ (PySem.mem_of_lookup z)).2.1 rfl) (fun z => (L.own _ (PySem.mem_of_lookup z)).2.2 rfl)
  constructor
  · exact ⟨e0.mod, L.kind, rfl, rfl, Nat.le_refl _, fun y z c e1 _ => (noC y c e1).elim, fun y hy => (noK hy).elim, fun y c z _ => (nomatch z), fun _ => hd, Around.frames_deeper e0.frames, .inr ⟨rfl, rfl⟩, fun b z => absurd z (noA b), e0.bs, e0.bsz, fun b _ _ => noA b, fun b z => absurd z (noA b), e0.funs, e0.frf⟩
  · rfl
  · exact e0.bare
  · exact Un.kept kp
  · refine ⟨_, hns, fun i y v e1 e2 e3 => ?_⟩
    have e1 : ls[i]? = some y := e1
    have ha : vs[i]? = some v := by
      rw [List.getElem?_map] at e2
      cases e : vs[i]? with
      | none => rw [e] at e2; cases e2
      | some a => rw [e] at e2; cases e2; rfl
    obtain ⟨u, hu, rv⟩ := r.get ha
    exact ⟨u, rv, .inl ⟨L.par y (List.mem_of_getElem? e1), lookup_zip L.nd e1 hu⟩⟩
  · exact fun y c e => (noC y c e).elim
  · exact e0.hok.fresh (Nat.le_refl _)
  · exact fun y c e => (noC y c e).elim
  · exact fun p hp => nomatch (show p ∈ ([] : List (Addr × Obj)) ++ [] from hp)
  · exact e0.hok.kept kp
  · show (vs.map some).length = ls.length
    rw [List.length_map, hl]
/-- at f stands a lambda that gives op of two truths -/
def LamB (P : Program) (w : World) (K : PySem.W.Frag) (mg : Str → Option Value) (base : Heap) (H : Hp) (f : Addr) (op : Bool → Bool → Bool) : Prop :=
  ∃ (q : Str) (params : Arguments) (body : Expr) (scope : Scope) (c' : Addr) (ls : List Str) (t : TE), H f = some (LamO q params body scope f c') ∧ H c' = some (CodeO c' q) ∧ LamC scope ls ∧ ls.length = 2 ∧
    (∀ (pm cv ctv : Value) (us : List Value), us.length = 2 → bindArgs (PySem.W.kla_fn "<lambda>" q params body scope [] pm cv ctv) ⟨us, []⟩ = pure (ls.zip us)) ∧
    (∀ (A : Around) (outer : List Env) (s : Shared) (H : Hp), PE (clCx P w K mg base ls q scope f c' A outer s H) body t) ∧ ∀ b c H Q, Q (.bl (op b c)) H → t [some (.bl b), some (.bl c)] H Q
theorem LamB.same {P : Program} {w : World} {K : PySem.W.Frag} {mg : Str → Option Value} {base : Heap} {H H' : Hp} {f : Addr} {op : Bool → Bool → Bool} (e : Same H H') : LamB P w K mg base H f op → LamB P w K mg base H' f op :=
  fun ⟨q, pa, bo, sc, c', ls, t, h1, h2, h3⟩ => ⟨q, pa, bo, sc, c', ls, t, e _ _ h1, e _ _ h2, h3⟩
section
variable {X : Cx}
/-- rule(x, y), rule a local -/
def tCallL (P : Program) (w : World) (K : PySem.W.Frag) (mg : Str → Option Value) (base : Heap) (i : Nat) (ta : TA) : TE := fun σ H Q => ∃ f op, σ[i]? = some (some (.ref f)) ∧ LamB P w K mg base H f op ∧ ta σ H fun vs H1 => ∃ b c, vs = [.bl b, .bl c] ∧ LamB P w K mg base H1 f op ∧ Q (.bl (op b c)) H1
theorem pe_callL {i k : Nat} {a : Str} {e : Expr} {es : List Expr} {ta : TA} {p1 p2 : Pos} (hN : X.N[i]? = some a) (hv : Vis X.env.scope a) (hr : Room (k + 1) X.A) (ha : PA X (e :: es) ta) (hd : (a == ("__debug__" : Str)) = false := by decide) (hcd : (a == ("__classdict__" : Str)) = false := by decide)
    (he : starEach (e :: es) X.env = (false, eval e X.env) :: starEach es X.env := by rfl) (hpl : (backTo p2 (starEach es X.env)).any (·.1) = false := by rfl) :
    PE X (.Call (.Name a p1) (e :: es) [] p2) (tCallL X.prog X.w X.K X.mg X.base i ta) := by
  refine ⟨fun pins s σ H Q I h => ?_⟩
  obtain ⟨f, op, hs, hB, ht⟩ := h
  refine wpAny_Call_Name_kw (thn ((pe_var (pos := p1) (i := i) hN hv hd hcd).run pins s σ H (fun v H1 => v = .ref f ∧ H1 = H) I ⟨.ref f, hs, rfl, rfl⟩) fun u s0 ⟨v, H1, I0, r1, q1⟩ => ?_)
  obtain ⟨ev, eH⟩ := q1
  subst ev
  rw [eH] at I0
  obtain rfl : u = Value.ref f := r1
  have fnAt : ∀ {H1 : Hp} {s1 : Shared}, Inv X pins σ H1 s1 → LamB X.prog X.w X.K X.mg X.base H1 f op → PySem.W.FnAt f s1.heap := fun I1 ⟨q, pa, bo, sc, c', ls, t, h1, _⟩ => by
    obtain ⟨⟨pm, ctv, hf⟩, _⟩ := I1.hok f _ h1
    exact ⟨_, _, _, _, hf⟩
  refine PySem.W.callWith_F (first := []) (fnAt I0 hB) (thn (ha.run p2 pins s0 σ H _ I0 ht) fun us s1 ⟨vs, H2, I1, r, b, c, evs, hB2, hq⟩ => ⟨fnAt I1 hB2, ?_⟩) he hpl
  subst evs
  obtain ⟨q, pa, bo, sc, c', ls, t, h1, h2, L, hls, hbind, hbody, hval⟩ := hB2
  obtain ⟨⟨pm, ctv, hf⟩, _⟩ := I1.hok f _ h1
  obtain ⟨⟨oc, cvs, tk, hoc, hdc, hvc⟩, _, _⟩ := I1.hok c' _ h2
  have hul : us.length = 2 := by have := paired_len r; simpa using this.symm
  have rc : codeAny (model X.prog X.w) X.A (.call (.ref f) ⟨us, []⟩) (CR C8.CX0 X.stack X.prog X.w H2 s1 Q C8.E0) s1 := by
    refine PySem.W.kla_callFunE hr.depth hf rfl L.co L.gen rfl ⟨c', oc, cvs, tk, rfl, hoc, hdc, hvc⟩ ?_
    rw [hbind pm (.ref c') ctv us hul]
    refine wpAny_pure (wpAny_newFunctionEnv (fun y hy => (L.own y hy).2.1) (fun y hy => L.par _ (List.of_mem_zip (show (y.1, y.2) ∈ ls.zip us from hy)).1) (fun h₁ hns hsb => ⟨I1.nolimit.fresh _ hsb, ?_⟩) L.kind)
    show codeAny _ _ (.expr bo (clEnv q sc s1.heap.objs.size f c')) _ _
    have kp : ∀ b o, s1.heap.get? b = some o → h₁.get? b = some o := fun b o e => hsb.extBut b o (Nat.ne_of_lt (Heap.lt_size e)) (Heap.get?_push_of_some _ e)
    have J := cl_start (q := q) (f := f) (c' := c') (tk := s1.toks + (ls.zip us).length) L I1.env0 hr.hd hns kp r (by rw [hls]; rfl)
    refine PySem.W.kla_codeExpr (wpAny_mono ((hbody X.A X.stack s1 H2).run [] _ _ H2 Q J (hval b c H2 Q hq)) (fun v s' hq => ?_) fun e s' hq => hq.elim)
    obtain ⟨w', H', J', rv, q⟩ := hq
    exact ⟨w', H', J'.os, J'.bare, J'.base, J'.hok, rv, q⟩
  refine wpAny_call (codeAny_mono rc fun r s' hq => ?_)
  cases r with
  | error e => exact (show False from hq).elim
  | ok fl =>
    cases fl with
    | ret u => exact I1.after hq
    | next => exact False.elim hq
    | brk => exact False.elim hq
    | cont => exact False.elim hq
theorem pe_callLK {P : Program} {w : World} {K : PySem.W.Frag} {mg : Str → Option Value} {base : Heap} (e1 : X.prog = P) (e2 : X.w = w) (e3 : X.K = K) (e4 : X.mg = mg) (e5 : X.base = base) {i k : Nat} {a : Str} {e : Expr} {es : List Expr} {ta : TA} {p1 p2 : Pos} (hN : X.N[i]? = some a) (hv : Vis X.env.scope a) (hr : Room (k + 1) X.A) (ha : PA X (e :: es) ta) (hd : (a == ("__debug__" : Str)) = false := by decide) (hcd : (a == ("__classdict__" : Str)) = false := by decide)
    (he : starEach (e :: es) X.env = (false, eval e X.env) :: starEach es X.env := by rfl) (hpl : (backTo p2 (starEach es X.env)).any (·.1) = false := by rfl) :
    PE X (.Call (.Name a p1) (e :: es) [] p2) (tCallL P w K mg base i ta) := by
  subst e1 e2 e3 e4 e5
  exact pe_callL hN hv hr ha hd hcd he hpl
/-- a lambda made -/
def tLamC (T : List (Addr × Str)) (q : Str) (params : Arguments) (body : Expr) (scope : Scope) : TE := fun _ H Q => Tabs T H ∧ ∀ H1 f c', ExtN H H1 → Tabs T H1 → H1 f = some (LamO q params body scope f c') → H1 c' = some (CodeO c' q) → Q (.ref f) H1
theorem codeAmong_of {T : List (Addr × Str)} {H : Hp} {P : Addr} {q : Str} (hT : Tabs T H) (hm : (P, q) ∈ T) : TabS H P q := hT _ hm
theorem pe_lamC {T : List (Addr × Str)} {c P : Addr} {params : Arguments} {body : Expr} {scope : Scope} {pos : Pos} {ls : List Str} (TB : TabB X.base X.mg c P) (hcode : X.env.code = .ref c) (hmT : (P, X.env.qual ++ "<lambda>") ∈ T) (hu : ∀ p ∈ T, p.1 = P → p.2 = X.env.qual ++ "<lambda>")
    (hdef : defaultsOf params X.env = ([], [])) (L : LamC scope ls) : PE X (.Lambda params body scope pos) (tLamC T (X.env.qual ++ "<lambda>") params body scope) := by
  refine ⟨fun pins s σ H Q I h => ?_⟩
  obtain ⟨hT, h⟩ := h
  obtain ⟨ps, hP, ht, ha⟩ := hT _ hmT
  have hclo : closureFor scope X.env = pure [] := by
    have e := closure_ok (env := X.env) (scope := scope) (fun y hy z => ((L.own y hy).2.2 z).elim)
    rwa [cloFrom_none (fun y hy => (L.own y hy).2.2)] at e
  refine PySem.W.kla_eval hdef ?_
  have bP : s.heap.BuiltinsAt X.mg P := TB.bm.keeps I.bk
  have hP' : s.heap.get? P = some { cls := .none, data := .fields ps } := I.hok P _ hP
  have lay : ∀ {H1 : Hp} {h' : Heap} {tk : Nat} {c' : Addr} {ctv : Value}, Inv X pins σ H1 { s with heap := h', toks := tk } → ExtN H H1 → Tabs T H1 → H1 c' = some (CodeO c' (X.env.qual ++ "<lambda>")) →
      EP X pins σ Q (.ref h'.objs.size) { s with heap := h'.push (PySem.W.kla_obj "<lambda>" (X.env.qual ++ "<lambda>") params body scope [] ((X.mg "__name__").getD .none) c' ctv), toks := tk } := fun {H1 h' tk c' ctv} I1 e1 T1 hc => by
    have hn : H1 h'.objs.size = none := I1.hok.fresh (Nat.le_refl _)
    have I2 := I1.laid (a := h'.objs.size) (o := LamO (X.env.qual ++ "<lambda>") params body scope h'.objs.size c') (h' := h'.push (PySem.W.kla_obj "<lambda>" (X.env.qual ++ "<lambda>") params body scope [] ((X.mg "__name__").getD .none) c' ctv)) (t' := tk)
      (fun _ _ q => Heap.get?_push_of_some _ q) (Nat.le_refl _) ⟨⟨_, ctv, Heap.get?_push_size _ rfl⟩, ⟨_, Heap.get?_push_size _ rfl⟩, fun h1 h2 ⟨pm, ct, z⟩ st => ⟨pm, ct, st _ z⟩⟩
    have e2 : Same H1 (upd H1 h'.objs.size (LamO (X.env.qual ++ "<lambda>") params body scope h'.objs.size c')) := same_new hn
    exact ⟨.ref h'.objs.size, _, I2, rfl, h _ _ c' (e1.trans (ExtN.of e2)) (T1.ext e2) upd_same (e2 _ _ hc)⟩
  cases hc : codeAmong pos ps.toList with
  | some cv =>
    obtain ⟨c', rfl, hco⟩ := ha pos cv hc
    exact PySem.W.kla_makeFunctionHit (mg := X.mg) (c := c) (P := P) (ps := ps) hclo I.ok.glob (I.mod.glob.keeps I.bk) hcode (TB.code.keeps I.bk) hP' ht hc bP fun ctv h' tk hx hsz => lay (I.kept hx) (ExtN.refl H) hT hco
  | none =>
    refine PySem.W.kla_makeFunction (mg := X.mg) (c := c) (P := P) (ps := ps) hclo I.ok.glob (I.mod.glob.keeps I.bk) hcode (TB.code.keeps I.bk) hP' ht hc TB.gP bP fun c' ctv h' tk hx hge hlt hrec htb => ?_
    obtain ⟨c2, oc, vs, t, e2, hoc, hd, hv⟩ := hrec
    cases e2
    have nC : H c' = none := I.hok.fresh hge
    have I1 := inv_table (t' := tk) (more := #[rawInt pos.line, rawInt pos.col, .ref c']) I hP (fun b o hb e => hx b o hb e) htb hge ⟨oc, vs, t, hoc, hd, hv⟩
    have hE : ExtN H (upd (upd H P (.tbl (ps ++ #[rawInt pos.line, rawInt pos.col, .ref c']))) c' (CodeO c' (X.env.qual ++ "<lambda>"))) := fun b o e n => by
      rw [upd_ne (ne_of_none e nC), upd_ne (fun z => n ps (by rw [z, hP] at e; exact (Option.some.inj e).symm))]
      exact e
    refine lay I1 hE (fun p hp => ?_) upd_same
    by_cases hb : p.1 = P
    · have eL : (ps ++ #[rawInt pos.line, rawInt pos.col, .ref c']).toList = ps.toList ++ [rawInt pos.line, rawInt pos.col, .ref c'] := by simp
      rw [hu p hp hb, hb]
      refine ⟨_, by rw [upd_ne (ne_of_none hP nC), upd_same], by rw [eL]; exact PySem.TriplesOk_snoc _ _ _ _ ht, fun p' cv hcv => ?_⟩
      rw [eL] at hcv
      rcases among_app _ ht hcv with z | z
      · obtain ⟨c0, e1, e2⟩ := ha p' cv z
        exact ⟨c0, e1, hE _ _ e2 codeO_ne⟩
      · exact ⟨c', z, upd_same⟩
    · obtain ⟨ps', a1, a2, a3⟩ := hT p hp
      refine ⟨ps', by rw [upd_ne (ne_of_none a1 nC), upd_ne hb]; exact a1, a2, fun p' cv hcv => ?_⟩
      obtain ⟨c0, e1, e2⟩ := a3 p' cv hcv
      exact ⟨c0, e1, hE _ _ e2 codeO_ne⟩
end
end LamX

section
open L2 in
local macro_rules | `(tactic| walk_at "gx") => `(tactic| first
  | ((with_reducible show tVar _ _ _ _); refine g_var rfl ?_)
  | with_reducible refine g_c ?_
  | with_reducible refine g_op ?_
  | with_reducible refine g_cons ?_
  | with_reducible refine g_nil ?_
  | with_reducible refine g_test ?_
  | with_reducible refine g_blp ?_
  | with_reducible refine g_asg ?_
  | (with_reducible refine g_name ?_; (try simp only [List.set_cons_zero, List.set_cons_succ]))
  | with_reducible refine g_call ?_
  | with_reducible refine g_cb ?_
  | with_reducible refine g_I0 ?_
  | with_reducible refine g_U ?_
  | with_reducible refine g_eqI ?_
  | with_reducible refine g_neI ?_
  | with_reducible refine g_if ?_
  | with_reducible refine g_ret ?_
  | with_reducible refine g_retN ?_
  | with_reducible refine g_next ?_
  | with_reducible refine g_drop ?_
  | with_reducible refine g_un ?_
  | with_reducible refine g_tb ?_
  | with_reducible refine g_tup ?_
  | with_reducible refine g_lst ?_
  | with_reducible refine g_and ?_
  | with_reducible refine g_or ?_
  | with_reducible refine g_not ?_
  | with_reducible refine g_andV ?_
  | with_reducible refine g_orV ?_
  | with_reducible refine g_notV ?_
  | with_reducible refine g_ifE ?_
  | with_reducible refine g_fld ?_
  | with_reducible refine g_tt ?_
  | with_reducible refine g_ff ?_
  | with_reducible refine g_ntt ?_
  | with_reducible refine g_nff ?_
  | with_reducible refine g_for ?_
  | with_reducible refine g_list ?_
  | with_reducible refine g_tupI ?_
  | with_reducible refine g_rng1 ?_
  | with_reducible refine g_rng2 ?_
  | with_reducible refine g_enumA ?_
  | with_reducible refine g_rev ?_
  | with_reducible refine g_lc ?_
  | with_reducible refine g_gcons ?_
  | with_reducible refine g_gnil ?_
  | with_reducible refine g_yes ?_
  | with_reducible refine g_sl ?_
  | with_reducible refine g_nopart ?_
  | with_reducible refine g_part ?_
  | with_reducible refine g_int ?_
  | with_reducible refine g_dget ?_
  | with_reducible refine g_dput ?_
  | with_reducible refine g_raiseX ?_
  | with_reducible refine g_tru ?_
  | with_reducible refine g_sub ?_
  | with_reducible refine g_isN ?_
  | with_reducible refine g_notN ?_
  | with_reducible refine g_bm ?_
  | with_reducible refine L2.g_bm0 ?_
  | with_reducible refine g_pair ?_
  | with_reducible refine g_pair0 ?_
  | with_reducible refine u_int1 ?_
  | with_reducible refine g_chain ?_
  | with_reducible refine L2.g_sfld ?_
  | (with_reducible refine g_par3 ?_)
  | (with_reducible refine g_three ?_; (try simp only [List.set_cons_zero, List.set_cons_succ]))
  | ((with_reducible apply L2.g_tupT); walk_at "up"; rfl)
  | (with_reducible refine g_par ?_)
  | (with_reducible refine g_two ?_; (try simp only [List.set_cons_zero, List.set_cons_succ]))
  )
local macro_rules | `(tactic| walk_at "go") => `(tactic| first | walk_at "gx" | with_reducible refine L2.g_seq ?_)
local macro_rules | `(tactic| walk_at "gou") => `(tactic| repeat (walk_at "gx"))
local macro_rules | `(tactic| walk_at "gos") => `(tactic| repeat (walk_at "go"))
local macro_rules | `(tactic| walk_at "sl") => `(tactic| first
  | assumption
  | exact L2.Same.l (by assumption)
  | exact L2.SameD.l (by assumption)
  | exact L2.extN_l (by assumption))
local macro_rules | `(tactic| walk_at "up") => `(tactic| first
  | assumption
  | ((with_reducible apply L2.SameL.lst); walk_at "sl"; walk_at "up")
  | ((with_reducible apply L2.SameL.tupA); walk_at "sl"; walk_at "up")
  | ((with_reducible apply L2.SameL.ins); walk_at "sl"; walk_at "up")
  | ((with_reducible apply Ev.PB.l); walk_at "sl"; walk_at "up")
  | ((with_reducible apply Ev.IsP.l); walk_at "sl"; walk_at "up")
  | ((with_reducible apply L2.sqL); walk_at "up")
  | ((with_reducible apply L2.sqT); walk_at "up")
  | ((with_reducible apply L2.SameL.seq); walk_at "sl"; walk_at "up")
  | ((with_reducible apply Ev.Pen.same); assumption; walk_at "up")
  | ((with_reducible apply Ev.Pen.extN); assumption; walk_at "up")
  | ((with_reducible apply L2.tabs_s); assumption; walk_at "up")
  | ((with_reducible apply L2.tabs_dd); assumption; walk_at "up")
  | ((with_reducible apply Or.inl); walk_at "up")
  | ((with_reducible apply Or.inr); walk_at "up"))
local macro_rules | `(tactic| walk_at "new") => `(tactic| (
  first
    | refine ⟨L2.size_ok (by rfl), fun p hp => ?_⟩
    | refine fun p hp => ?_
  generalize hX : L2.upd _ p _ = H1
  obtain ⟨e, h⟩ := L2.news hp hX
  clear hX))
local macro_rules | `(tactic| walk_at "o") => `(tactic| first
  | ((with_reducible apply Ev.o_add); walk_at "up"; walk_at "up"; rfl; rfl; rfl)
  | ((with_reducible apply Ev.o_sub); walk_at "up"; walk_at "up"; rfl; rfl; rfl)
  | ((with_reducible apply Ev.o_mul); walk_at "up"; walk_at "up"; rfl; rfl; rfl)
  | ((with_reducible apply Ev.o_addI); walk_at "up"; assumption; rfl; rfl; rfl)
  | ((with_reducible apply Ev.o_subI); walk_at "up"; assumption; rfl; rfl; rfl)
  | ((with_reducible apply Ev.o_mulI); walk_at "up"; assumption; rfl; rfl; rfl)
  | ((with_reducible apply Ev.o_radd); walk_at "up"; assumption; rfl; rfl; rfl)
  | ((with_reducible apply Ev.o_rsub); walk_at "up"; assumption; rfl; rfl; rfl)
  | ((with_reducible apply Ev.o_rmul); walk_at "up"; assumption; rfl; rfl; rfl)
  | ((with_reducible apply Ev.o_neg); walk_at "up"; rfl; rfl; rfl))
local macro_rules | `(tactic| walk_at "eq") => `(tactic| ((with_reducible apply Ev.u_ownB); assumption; walk_at "up"; walk_at "up"; (focus (intro k; first | rfl | exact Pl.e_add | exact Pl.e_sub | exact Pl.e_mul | exact Pl.e_rsub | exact Pl.e_rsub2))))
local macro_rules | `(tactic| walk_at "isp") => `(tactic| (apply Ev.u_isB; walk_at "up"; walk_at "up"; rfl; rfl))

/-! What a set must be. -/
namespace Ev
open PySem PySem.Spec PyProof.Rows L2 Wp
section
variable {P : Program} {w : World} {K : PySem.W.Frag} {mg : Str → Option Value} {base : Heap}
/-- the least data of a model -/
def spLeastM (K : PySem.W.Frag) : Sp := fun vs H Q _ => ∃ (m : Addr) (B R : List Bool), vs = [.ref m] ∧ IsM H m B R ∧ 0 < R.length ∧ R.length ≤ 100000 ∧ B.length ≤ 100000 ∧
  ∀ t t1 t2 H' bl rl, Same H H' → H' t = some (.tup [.ref t1, .ref t2]) → SqT K H' t1 (bl.map V.bl) → SqT K H' t2 (rl.map V.bl) → Nm bl rl → (∀ n, mem bl rl n = mem B R n) → Q (.ref t) H'
/-- the least round above what is left to look at -/
def LPa (R : List Bool) (d lo : Nat) : Prop := 0 < d ∧ d ≤ R.length ∧ R.length % d = 0 ∧ Rnd R d ∧ ∀ e, lo < e → e < d → R.length % e = 0 → ¬ Rnd R e
theorem sc__law_least_model : FnScope ["model", "below", "rests", "size", "period", "start"] ["model"] (defScope (topS 30)) := ⟨rfl, rfl, rfl, by decide +kernel, rfl, by decide +kernel, by decide +kernel⟩
theorem ok__law_least_model (B : Bn mg) {f : Addr} {fd : FuncData} (F : Fun K "_law_least_model" "_law_least_model" (topS 30) f fd) : FnOk P w K mg base (L2.CX P w) 1 f fd ["model"] (spLeastM K) := by
  have nd := sc__law_least_model.nd
  refine F.okX sc__law_least_model (fun vs H Q E h => ?_) (fun cdv A outer s H vs Q E hr h => ?_)
  · obtain ⟨m, B1, R, rfl, _⟩ := h
    rfl
  · refine ⟨_, (pss_cons (ps_asg (pv 0) (pg_tupK (K := K) (n := 2) rfl rfl (pgs_cons (pg_name (i := 1) nd rfl (.inl rfl)) (pgs_cons (pg_name (i := 2) nd rfl (.inl rfl)) pgs_nil))))
      (pss_cons (ps_for (passes_of rfl) rfl (pi_range3 rfl B.range (pa_cons (pe_callB (call_lnK (K := K) rfl) (by rfl) B.len_ (by decide +kernel) (pa_cons (pv 2) pa_nil)) (pa_cons pe_int (pa_cons (pe_un un_neg pe_int) pa_nil)))) (pg_name (i := 3) nd rfl (.inl rfl)) (pss_one (ps_if (PW.pt (pw_and (pt_cmpR op_eq (pe_op op_modN (pe_callB (call_lnK (K := K) rfl) (by rfl) B.len_ (by decide +kernel) (pa_cons (pv 2) pa_nil)) (pv 3)) pe_int (nomark _)) (pw_and1 (pt_cmpR (op_eqDK (K := K) rfl hr.units) (pv 2) (pe_op op_rep (pe_slice (sl_listK (K := K) rfl) (pv 2) po_none (po_some (pv 3))) (pe_op op_fdivX (pe_callB (call_lnK (K := K) rfl) (by rfl) B.len_ (by decide +kernel) (pa_cons (pv 2) pa_nil)) (pv 3))) (nomark _))))) (pss_one (ps_set (i := 4) nd rfl (.inl rfl) (pv 3))) pss_nil)))
      (pss_cons (ps_set (i := 5) nd rfl (.inl rfl) (pe_callB (call_lnK (K := K) rfl) (by rfl) B.len_ (by decide +kernel) (pa_cons (pv 1) pa_nil)))
      (pss_cons (ps_while (passes_of rfl) (PW.pt (pw_and (pt_cmpR op_gt (pv 5) pe_int (nomark _)) (pw_and1 (pt_cmpR op_eq (pe_ix (ix_listK (K := K) rfl) (pv 1) (pe_op op_sub (pv 5) pe_int) (fun _ _ => rfl)) (pe_ix (ix_listK (K := K) rfl) (pv 2) (pe_op op_modN (pe_callTy call_in1 (by rfl) B.int_ (by decide +kernel) (pa_cons (pe_op op_sub (pv 5) pe_int) pa_nil)) (pv 4)) (fun _ _ => rfl)) (nomark _))))) (pss_one (ps_set (i := 5) nd rfl (.inl rfl) (pe_op op_sub (pv 5) pe_int))))
      (pss_one (ps_ret (pe_tup (pa_cons (pe_callTy (call_tplK (K := K) rfl) (by rfl) B.tuple_ (by decide +kernel) (pa_cons (pe_slice (sl_listK (K := K) rfl) (pv 1) po_none (po_some (pv 5))) pa_nil)) (pa_cons (pe_callTy (call_tplK (K := K) rfl) (by rfl) B.tuple_ (by decide +kernel) (pa_cons (pe_slice (sl_listK (K := K) rfl) (pv 2) po_none (po_some (pv 4))) pa_nil)) pa_nil))))))))), ?_⟩
    obtain ⟨m, B1, R, rfl, ⟨a, b, hm, ha, hb⟩, hR, hR2, hB2, q⟩ := h
    refine g_st (σ' := [some (.ref m), none, none, none, none, none]) rfl ?_
    walk_at "gou"
    refine g_seq ?_
    walk_at "gou"
    ((with_reducible change tSeq _ _ _ _ _); refine L2.g_cutS (fun σ' H' => Same H H' ∧ ∃ d y, LP R d ∧ σ' = [some (.ref m), some (.ref a), some (.ref b), y, some (.int (d : Nat)), none]) (fun nx hnx => ?_) (fun σ' H1 hR1 => ?_))
    · walk_at "gos"
      refine g_rng3 ?_
      walk_at "gos"
      refine u_lenL (sqL hb) ?_
      rw [List.length_map]
      walk_at "gos"
      have hc := RgC.neg (i := (R.length : Int)) (j := 0) (by omega) (by omega) (by omega) (by omega)
      refine ⟨_, _, _, _, rfl, hc, ?_⟩
      have hn : ((R.length : Int) - 0).toNat = R.length := by omega
      rw [hn]
      refine for_it walk_rangeC (fun i σ' H' => Same H H' ∧ ∃ y z, σ' = [some (.ref m), some (.ref a), some (.ref b), y, z, none] ∧ (i = 0 ∨ ∃ d, LPa R d (R.length - i) ∧ z = some (.int (d : Nat)))) ⟨Same.refl H, none, none, rfl, .inl rfl⟩ (fun _ _ _ _ _ => trivial) (fun i x σ' H' H2 hi p y => ?_) (fun σ' H' p => ?_)
      · obtain ⟨e, y0, z0, rfl, hz⟩ := p
        obtain ⟨rfl, rfl⟩ := y
        have hsz : (R.length : Int) + (i : Nat) * -1 = ((R.length - i : Nat) : Int) := by omega
        walk_at "gos"
        rw [hsz]
        obtain ⟨k, hk⟩ : ∃ k, R.length - i = k := ⟨_, rfl⟩
        rw [hk]
        have hk0 : 0 < k := by omega
        refine u_lenL (sqL (e _ _ hb)) ?_
        rw [List.length_map]
        walk_at "gos"
        refine g_I (by omega) ?_
        walk_at "gos"
        rw [fmod_nat]
        -- what is known is kept where this size is none
        have keep : ∀ H3, Same H H3 → ¬ (R.length % k = 0 ∧ Rnd R k) → Same H H3 ∧ ∃ y z, [some (V.ref m), some (V.ref a), some (V.ref b), some (V.int (k : Nat)), z0, none] = [some (.ref m), some (.ref a), some (.ref b), y, z, none] ∧ (i + 1 = 0 ∨ ∃ d, LPa R d (R.length - (i + 1)) ∧ z = some (.int (d : Nat))) := fun H3 e3 hno => by
          refine ⟨e3, _, _, rfl, .inr ?_⟩
          rcases hz with rfl | ⟨d, ⟨h1, h2, h3, h4, h5⟩, rfl⟩
          · obtain rfl : k = R.length := by omega
            exact absurd ⟨Nat.mod_self _, rnd_self⟩ hno
          · refine ⟨d, ⟨h1, h2, h3, h4, fun e' g1 g2 g3 g4 => ?_⟩, rfl⟩
            by_cases he : e' = k
            · subst he; exact hno ⟨g3, g4⟩
            · exact h5 e' (by omega) g2 g3 g4
        by_cases hm' : R.length % k = 0
        · rw [if_pos (decide_eq_true (by omega))]
          walk_at "gos"
          refine u_sl (sqL (e _ _ hb)) fun l H3 _ e3 h3 => ?_
          rw [cut_to, ← List.map_take] at h3
          walk_at "gos"
          refine u_lenL (sqL (e3 _ _ (e _ _ hb))) ?_
          rw [List.length_map]
          walk_at "gos"
          refine g_I (Bd.divX (n := 40) (by omega) (by unfold Bd; omega) (by decide)) ?_
          rw [fdiv_nat]
          have hkq : R.length / k ≤ 100000 := Nat.le_trans (Nat.div_le_self _ _) hR2
          have hkm : R.length / k * k = R.length := Nat.div_mul_cancel (Nat.dvd_of_mod_eq_zero hm')
          have htl : (R.take k).length = k := by rw [List.length_take]; omega
          refine ⟨l, _, _, rfl, rfl, h3, Int.le_trans (by decide) (Int.natCast_nonneg (R.length / k)), Int.lt_of_le_of_lt (Int.ofNat_le.mpr hkq) (by decide), by rw [sizeLine_eq, List.length_map, htl, Int.toNat_natCast, Nat.mul_comm, hkm]; omega, fun p hp => ?_⟩
          generalize hX : upd H3 p _ = H4
          obtain ⟨e4, h4⟩ := news hp hX
          rw [Int.toNat_natCast, flat_bl] at h4
          refine u_eqLB (sqL (e4 _ _ (e3 _ _ (e _ _ hb)))) (sqL h4) ?_
          walk_at "gos"
          have e04 := e.trans (e3.trans e4)
          by_cases hr' : R = (List.replicate (R.length / k) (R.take k)).flatten
          · rw [if_pos (decide_eq_true hr')]
            walk_at "gos"
            refine ⟨e04, _, _, rfl, .inr ⟨k, ⟨hk0, by omega, hm', (rnd_iff hk0 (by omega) hm').mp hr', fun e' g1 g2 => by omega⟩, rfl⟩⟩
          · rw [if_neg (by rw [decide_eq_true_iff]; exact hr')]
            walk_at "gos"
            exact keep _ e04 fun hno => hr' ((rnd_iff hk0 (by omega) hm').mpr hno.2)
        · rw [if_neg (by rw [decide_eq_true_iff]; omega)]
          walk_at "gos"
          exact keep _ e fun hno => hm' hno.1
      · obtain ⟨e, y0, z0, rfl, hz⟩ := p
        rcases hz with h0 | ⟨d, ⟨h1, h2, h3, h4, h5⟩, rfl⟩
        · omega
        · exact hnx _ _ ⟨e, d, _, ⟨h1, h3, h4, fun e' g1 g2 => h5 e' (by omega) g2⟩, rfl⟩
    obtain ⟨e1, d, y1, hd, rfl⟩ := hR1
    have ha1 := e1 _ _ ha
    have hb1 := e1 _ _ hb
    obtain ⟨s0, hs0⟩ := st_ex B1 (R.take d)
    obtain ⟨hnm, hmem⟩ := nm_made hR hd hs0
    have hdl := hd.le hR
    have htl : (R.take d).length = d := by rw [List.length_take]; omega
    walk_at "gou"
    refine g_seq ?_
    walk_at "gou"
    refine u_lenL (sqL ha1) ?_
    rw [List.length_map]
    walk_at "gou"
    ((with_reducible change tSeq _ _ _ _ _); refine L2.g_cutS (fun σ' H' => H' = H1 ∧ σ' = [some (.ref m), some (.ref a), some (.ref b), y1, some (.int (d : Nat)), some (.int (s0 : Nat))]) (fun nx hnx => ?_) (fun σ' H' hR' => ?_))
    · refine ⟨fun m' σ' H' => H' = H1 ∧ σ' = [some (.ref m), some (.ref a), some (.ref b), y1, some (.int (d : Nat)), some (.int (m' : Nat))] ∧ s0 ≤ m' ∧ m' ≤ B1.length, ⟨B1.length, rfl, rfl, hs0.le, Nat.le_refl _⟩, fun m' σ' H' ⟨e1, e2, e3, e4⟩ => ?_⟩
      subst e1 e2
      walk_at "gos"
      by_cases hm : 0 < m'
      · rw [if_pos (decide_eq_true (by omega))]
        walk_at "gos"
        obtain ⟨k, rfl⟩ : ∃ k, m' = k + 1 := ⟨m' - 1, by omega⟩
        have hk1 : ((k + 1 : Nat) : Int) - 1 = (k : Int) := by omega
        rw [hk1]
        refine u_ixL (sqL ha1) (atI_nat (atB (by omega))) ?_
        walk_at "gos"
        rw [hk1]
        refine g_I (by have := hd.pos; omega) ?_
        rw [fmod_nat]
        have hlt : k % d < R.length := Nat.lt_of_lt_of_le (Nat.mod_lt _ hd.pos) hdl
        refine u_ixL (sqL hb1) (atI_nat (atB hlt)) ?_
        walk_at "gos"
        have hbt : bt (R.take d) (k % d) = bt R (k % d) := bt_take (Nat.mod_lt _ hd.pos)
        refine ⟨rfl, _, rfl, ?_⟩
        by_cases hk : s0 ≤ k
        · have hsame := hs0.same k hk (by omega)
          rw [htl, hbt] at hsame
          rw [hsame, if_pos (by simp)]
          refine ⟨_, fun _ _ z => z, ?_⟩
          walk_at "gos"
          exact ⟨k, by omega, by trivial, by rw [hk1], hk, by omega⟩
        · have hne := hs0.low (by omega)
          obtain rfl : s0 = k + 1 := by omega
          rw [htl, Nat.add_sub_cancel, hbt] at hne
          rw [if_neg (by simp [hne])]
          exact hnx _ _ ⟨rfl, rfl⟩
      · rw [if_neg (by rw [decide_eq_true_iff]; omega)]
        obtain rfl : m' = 0 := by omega
        obtain rfl : s0 = 0 := by omega
        exact hnx _ _ ⟨rfl, rfl⟩
    obtain ⟨rfl, rfl⟩ := hR'
    walk_at "gos"
    refine u_sl (sqL ha1) fun l1 H2 _ e2 h2 => ?_
    rw [cut_to, ← List.map_take] at h2
    walk_at "gos"
    refine u_tuple (sqL h2) fun t1 H3 _ e3 h3 => ?_
    walk_at "gos"
    refine u_sl (sqL (e3 _ _ (e2 _ _ hb1))) fun l2 H4 _ e4 h4 => ?_
    rw [cut_to, ← List.map_take] at h4
    walk_at "gos"
    refine u_tuple (sqL h4) fun t2 H5 _ e5 h5 => ?_
    walk_at "gos"
    (walk_at "new"; rename_i t _ H6 e6 h6; walk_at "gos")
    exact q t t1 t2 H6 _ _ (e1.trans (e2.trans (e3.trans (e4.trans (e5.trans e6))))) h6 (sqT (e6 _ _ (e5 _ _ (e4 _ _ h3)))) (sqT (e6 _ _ h5)) hnm hmem
def spIsWhere (K : PySem.W.Frag) (C : Addr) : Sp := fun vs H Q _ => ∃ (x m : Addr) (B R : List Bool) (f : Nat → Bool), vs = [.ref x, .ref m] ∧ WF K H x C f ∧ IsM H m B R ∧ 0 < R.length ∧ R.length ≤ 100000 ∧ B.length ≤ 100000 ∧ (∀ n, mem B R n = f n) ∧ ∀ H', Same H H' → Q (.bl true) H'
theorem sc__law_is_where : FnScope ["where", "model", "below", "rests"] ["where", "model"] (defScope (topS 31)) := ⟨rfl, rfl, rfl, by decide +kernel, rfl, by decide +kernel, by decide +kernel⟩
theorem ok__law_is_where {C_Where : Addr} (B : Bn mg) (c_Where : Cls K C_Where) (n1 : NoAttr K C_Where "period") (n2 : NoAttr K C_Where "rests") (n3 : NoAttr K C_Where "start") (n4 : NoAttr K C_Where "below") (g_Where : mg "Where" = some (.ref C_Where)) (hyW : ∀ H x bl rl, IsW K H x C_Where bl rl → TyX K H (.ref x) (.ref C_Where)) (hi : PySem.W.kitOne K (.ref C_Where) (.ref C_Where) = some true)
    (G__law_least_model : CallF P w K mg base "_law_least_model" ["model"] 1 (spLeastM K)) {f : Addr} {fd : FuncData} (F : Fun K "_law_is_where" "_law_is_where" (topS 31) f fd) : FnOk P w K mg base (L2.CX P w) 2 f fd ["where", "model"] (spIsWhere K C_Where) := by
  have nd := sc__law_is_where.nd
  refine F.okX sc__law_is_where (fun vs H Q E h => ?_) (fun cdv A outer s H vs Q E hr h => ?_)
  · obtain ⟨x, m, B1, R, f, rfl, _⟩ := h
    rfl
  · refine ⟨_, (pss_cons (ps_asg (pe_callF G__law_least_model (hr.mono (by decide)) rfl passL (pa_cons (pv 1) pa_nil)) (pg_tupK (K := K) (n := 2) rfl rfl (pgs_cons (pg_name (i := 2) nd rfl (.inl rfl)) (pgs_cons (pg_name (i := 3) nd rfl (.inl rfl)) pgs_nil))))
      (pss_cons (ps_if (PW.pt (pw_or (pt_not (pt_val (pe_callB (call_isiK' (K := K) rfl) (by rfl) B.isinstance (by decide +kernel) (pa_cons (pv 0) (pa_cons (pe_glob (v := .ref C_Where) rfl g_Where rfl) pa_nil))))) (pw_or1 (pt_cmpR (op_neDK (K := K) rfl hr.units) (pe_tup (pa_cons (pe_fldK (K := K) rfl (pv 0) rfl) (pa_cons (pe_fldK (K := K) rfl (pv 0) rfl) pa_nil))) (pe_tup (pa_cons (pe_callB (call_lnK (K := K) rfl) (by rfl) B.len_ (by decide +kernel) (pa_cons (pv 3) pa_nil)) (pa_cons (pe_callB (call_lnK (K := K) rfl) (by rfl) B.len_ (by decide +kernel) (pa_cons (pv 2) pa_nil)) pa_nil))) (nomark _))))) (pss_one (ps_ret pe_bl)) pss_nil)
      (pss_one (ps_ret (pe_and (pe_cmpR (op_eqDK (K := K) rfl hr.units) (pe_fldK (K := K) rfl (pv 0) rfl) (pv 2) (nomark _)) (pe_one (pe_cmpR (op_eqDK (K := K) rfl hr.units) (pe_fldK (K := K) rfl (pv 0) rfl) (pv 3) (nomark _)))))))), ?_⟩
    obtain ⟨x, m, B1, R, f, rfl, ⟨bl, rl, hw, hn, hm⟩, hM, hR, hR2, hB2, hf, q⟩ := h
    refine g_st (σ' := [some (.ref x), some (.ref m), none, none]) rfl ?_
    walk_at "gos"
    refine ⟨m, B1, R, rfl, hM, hR, hR2, hB2, fun t t1 t2 H1 bl' rl' e1 ht h1 h2 hn' hm' => ?_⟩
    obtain ⟨rfl, rfl⟩ := hn.uniq hn' fun n => by rw [hm, hm', hf]
    refine g_tupT (sqT ht) rfl ?_
    walk_at "gos"
    have hw1 := hw.same e1
    refine u_isi (.own C_Where) (hyW _ _ _ _ hw1) hi ?_
    obtain ⟨dx, s1, s2, hx, g1, g2⟩ := hw1
    walk_at "gos"
    refine u_tfld rfl hx c_Where n1 rfl ?_
    walk_at "gos"
    refine u_tfld rfl hx c_Where n3 rfl ?_
    walk_at "gos"
    (walk_at "new"; rename_i p1 _ H2 e2 k2; walk_at "gos")
    refine u_lenT (e2.tup h2) ?_
    walk_at "gos"
    refine u_lenT (e2.tup h1) ?_
    rw [List.length_map, List.length_map]
    walk_at "gos"
    (walk_at "new"; rename_i p2 _ H3 e3 k3; walk_at "gos")
    have hx3 := (e2.trans e3) _ _ hx
    refine u_neII (sqT (e3 _ _ k2)) (sqT k3) ?_
    rw [show (!(decide ((rl.length : Int) = (rl.length : Int)) && decide ((bl.length : Int) = (bl.length : Int)))) = false by simp]
    walk_at "gos"
    refine u_tfld rfl hx3 c_Where n4 rfl ?_
    walk_at "gos"
    refine u_eqTB ((e2.trans e3).tup g2) ((e2.trans e3).tup h1) ?_
    rw [decide_eq_true rfl]
    walk_at "gos"
    refine u_tfld rfl hx3 c_Where n2 rfl ?_
    walk_at "gos"
    refine u_eqTB ((e2.trans e3).tup g1) ((e2.trans e3).tup h2) ?_
    rw [decide_eq_true rfl]
    exact q H3 (e1.trans (e2.trans e3))
def spWhereM (K : PySem.W.Frag) (C : Addr) : Sp := fun vs H Q _ => ∃ (m : Addr) (B R : List Bool), vs = [.ref m] ∧ IsM H m B R ∧ 0 < R.length ∧ R.length ≤ 720 ∧ B.length ≤ 10000 ∧ ∀ x H', Same H H' → WF K H' x C (mem B R) → Q (.ref x) H'
theorem sc__law_where : FnScope ["model"] ["model"] (defScope (topS 32)) := ⟨rfl, rfl, rfl, by decide +kernel, rfl, by decide +kernel, by decide +kernel⟩
theorem ok__law_where {C_Where CT CF CL : Addr} (B : Bn mg) (M_Where : MakeF P w K mg base "Where" C_Where 5 (spWhere K C_Where CT CF CL)) {f : Addr} {fd : FuncData} (F : Fun K "_law_where" "_law_where" (topS 32) f fd) : FnOk P w K mg base (L2.CX P w) 7 f fd ["model"] (spWhereM K C_Where) := by
  have nd := sc__law_where.nd
  refine F.okX sc__law_where (fun vs H Q E h => ?_) (fun cdv A outer s H vs Q E hr h => ?_)
  · obtain ⟨m, B1, R, rfl, _⟩ := h
    rfl
  · refine ⟨_, (pss_one (ps_ret (pe_makeF M_Where (hr.mono (by decide)) rfl (passes_call (takes_of rfl rfl rfl rfl) (fun _ _ _ _ h => h)) (pa_cons (pe_callTy (call_lstK (K := K) rfl) (by rfl) B.list_ (by decide +kernel) (pa_cons (pe_ix (ix_tupK (K := K) rfl) (pv 0) pe_int (fun _ _ => rfl)) pa_nil)) (pa_cons (pe_callTy (call_lstK (K := K) rfl) (by rfl) B.list_ (by decide +kernel) (pa_cons (pe_ix (ix_tupK (K := K) rfl) (pv 0) pe_int (fun _ _ => rfl)) pa_nil)) pa_nil))))), ?_⟩
    obtain ⟨m, B1, R, rfl, ⟨a, b, hm, ha, hb⟩, hR, hR2, hB2, q⟩ := h
    refine g_st (σ' := [some (.ref m)]) rfl ?_
    walk_at "gos"
    refine u_ixT (sqT hm) (v := .ref a) rfl ?_
    walk_at "gos"
    refine u_list (.inl (sqL ha)) fun l1 H1 _ e1 h1 => ?_
    walk_at "gos"
    refine u_ixT (sqT (e1 _ _ hm)) (v := .ref b) rfl ?_
    walk_at "gos"
    refine u_list (.inl (sqL (e1 _ _ hb))) fun l2 H2 _ e2 h2 => ?_
    walk_at "gos"
    exact u_where (.inl (sqL (e2 _ _ h1))) (.inl (sqL h2)) hR hB2 hR2 fun x H3 _ e3 hw => q x H3 (e1.trans (e2.trans e3)) hw
end
end Ev

end
/-! try with several clauses, each with or without a name. -/
namespace L2
open PySem PySem.Spec PyProof.Rows
abbrev Cl := Value × Option Nat × (Addr → Value → Option Addr → TS)
/-- the ends behind a clause with a name: the name goes -/
def asEnds (i : Nat) (D : Ends) : Ends where
  nx := fun σ H => D.nx (σ.set i none) H
  rt := D.rt
  bk := fun σ H => D.bk (σ.set i none) H
  ct := fun σ H => D.ct (σ.set i none) H
/-- one clause's suite, entered -/
def inClause (D : Ends) (oi : Option Nat) (t : TS) (a : Addr) (σ : St) (H : Hp) : Prop := match oi with
  | none => t D σ H
  | some i => t (asEnds i D) (σ.set i (some (.ref a))) H
theorem in_named {D : Ends} {i : Nat} {t : TS} {a : Addr} {σ : St} {H : Hp} (q : t (asEnds i D) (σ.set i (some (.ref a))) H) : inClause D (some i) t a σ H := q
/-- what the clauses wish of an exception of the body, one after the other -/
def wCls (K : PySem.W.Frag) (Wout : WX) (D : Ends) : List Cl → WX
  | [] => Wout
  | (c, oi, ts) :: r => fun cls d σ H => ∃ b, PySem.W.exmOne K cls c = some b ∧ (b = true → ∀ a, H a = none → inClause D oi (ts a cls d) a σ H) ∧ (b = false → wCls K Wout D r cls d σ H)
/-- the suite's derivation, for whatever is caught -/
def SuiteOk (X : Cx) (body : List Stmt) (ts : Addr → Value → Option Addr → TS) : Prop :=
  ∀ (a : Addr) (oe : Obj) (cls : Value) (d : Option Addr) (pn : List (Addr × Obj)), Zc cls d oe → (∃ fields, oe.data = .fields fields) → PSs (X.suite a ((a, oe) :: pn)) body (ts a cls d)
inductive ClsOk (X : Cx) : List ExceptHandler → List Cl → Prop
  | nil : ClsOk X [] []
  | plain {x : Str} {c : Value} {ts : Addr → Value → Option Addr → TS} {st : Stmt} {more : List Stmt} {q1 q2 : Pos} {hds : List ExceptHandler} {l : List Cl} (nm : Names X x c) (ok : SuiteOk X (st :: more) ts) (rest : ClsOk X hds l) :
      ClsOk X (.ExceptHandler (some (.Name x q1)) none (st :: more) q2 :: hds) ((c, none, ts) :: l)
  | named {x n : Str} {i : Nat} {c : Value} {ts : Addr → Value → Option Addr → TS} {st : Stmt} {more : List Stmt} {q1 q2 : Pos} {hds : List ExceptHandler} {l : List Cl} (slot : X.N[i]? = some n) (own : X.env.kindOf n = some .local) (nm : Names X x c)
      (ok : SuiteOk X (st :: more) ts) (rest : ClsOk X hds l) : ClsOk X (.ExceptHandler (some (.Name x q1)) (some n) (st :: more) q2 :: hds) ((c, some i, ts) :: l)
section
variable {X : Cx} {D : Ends} {Wout : WX}
/-- an exception at a is held by the try of X: it was let out at sI, where σ and H stood -/
structure Caught (X : Cx) (pins : List (Addr × Obj)) (σ : St) (H : Hp) (B : Heap) (sI : Shared) (a : Addr) (cls : Value) (d : Option Addr) (s : Shared) : Prop where
  was : Inv X pins σ H sI
  ground : ∀ b o, sI.heap.get? b = some o → b ∉ frs X.stack → B.get? b = some o
  near : sI.heap.UpToSlots s.heap
  fly : HandSPX.FlyingZ B (X.env :: X.outer) a (Zc cls d) s.heap
  free : H a = none
  os : s.os = sI.os
  bare : AllBare s.gens
section
variable {pins : List (Addr × Obj)} {σ : St} {H : Hp} {B : Heap} {sI s : Shared} {a : Addr} {cls : Value} {d : Option Addr}
theorem Caught.now (C : Caught X pins σ H B sI a cls d s) : Inv X pins σ H s := C.was.landed C.ground C.fly.1 C.near C.os C.bare
/-- it is no frame -/
theorem Caught.apart (C : Caught X pins σ H B sI a cls d s) (hf : X.env.frame = some X.env.locals) : a ≠ X.env.locals ∧ a ∉ X.fs := by
  obtain ⟨oe, fields, at_, _, isF⟩ := C.fly.there
  have nfr : a ∉ frs (X.env :: X.outer) := by
    intro m
    obtain ⟨_, o, at2, no⟩ := C.fly.2.2.1.mem m
    obtain rfl : oe = o := Option.some.inj (at_.symm.trans at2)
    exact no _ isF
  refine ⟨fun z => nfr (List.mem_filterMap.mpr ⟨_, List.mem_cons_self, by rw [z]; exact hf⟩), fun m => ?_⟩
  obtain ⟨e, he, q⟩ := List.mem_filterMap.mp m
  exact nfr (List.mem_filterMap.mpr ⟨e, List.mem_cons_of_mem _ he, q⟩)
/-- in the suite of a clause -/
theorem Caught.within (C : Caught X pins σ H B sI a cls d s) (hf : X.env.frame = some X.env.locals) : ∃ oe, Zc cls d oe ∧ (∃ fields, oe.data = .fields fields) ∧ s.heap.get? a = some oe ∧ Inv (X.suite a ((a, oe) :: (X.pn ++ pins))) [] σ H s := by
  obtain ⟨oe, fields, at_, z, isF⟩ := C.fly.there
  exact ⟨oe, z, ⟨fields, isF⟩, at_, C.now.suite at_ isF C.free (C.apart hf).1 (C.apart hf).2⟩
/-- no clause is left: it goes on outward -/
theorem Caught.onward (C : Caught X pins σ H B sI a cls d s) (hs : X.stack = X.env :: X.outer) (hf : X.env.frame = some X.env.locals) (tk : Takes X Wout) (wish : Wout cls d σ H) : wpAny (model X.prog X.w) X.A (handleBy (.ref a) X.env []) (SP X pins D) X.xe s := by
  have raised : wpAny (model X.prog X.w) X.A (setFlight (.ref a) X.env.frame >>= fun _ => (throw (.ref a) : Sem Flow)) (SP X pins D) X.xe s := wpAny_bind (by
    rw [hf]
    exact HandSPX.setFlight_upZ C.fly fun h held up => wpAny_throw (tk _ _ ⟨a, B, sI, pins, σ, H, cls, d, rfl, C.was, C.ground, C.near.trans up, .inr (.inr (hs ▸ held)), C.free, C.os, C.bare, wish⟩))
  obtain ⟨_, _, _, oe, fields, T, oT, tk', at_, _, isF, one, _⟩ := id C.fly
  refine wpAny_handleBy_nil ?_
  unfold PySem.passOn
  refine wpAny_bind (wpAny_field at_ isF one ?_)
  rw [if_neg (by simp)]
  first
    | exact raised
    | exact wpAny_bind (wpAny_pure raised)
/-- what stands behind a suite with a name -/
theorem Caught.behind {oe : Obj} {n : Str} {i : Nat} {q2 : Pos} (J : Inv X pins σ H sI) (hN : X.N.Nodup) (slot : X.N[i]? = some n) (own : X.env.kindOf n = some .local) {f : Flow} {s' : Shared} (h : SP (X.suite a ((a, oe) :: (X.pn ++ pins))) [] (asEnds i D) f s') :
    wpAny (model X.prog X.w) X.A (do bindName X.env n .none; unbindBehindTheSuite X.env n q2) (fun _ s2 => SP X pins D f s2) X.xe s' := by
  have go : ∀ {σ1 : St} {H1 : Hp} {G : Shared → Prop}, Inv (X.suite a ((a, oe) :: (X.pn ++ pins))) [] σ1 H1 s' → (∀ s2, Inv X pins (σ1.set i none) H1 s2 → G s2) →
      wpAny (model X.prog X.w) X.A (do bindName X.env n .none; unbindBehindTheSuite X.env n q2) (fun _ s2 => G s2) X.xe s' := fun I g => gone_ok (I.unsuite J.ok) hN slot own g
  cases f with
  | next => obtain ⟨_, _, I, q⟩ := h; exact go I fun _ I2 => ⟨_, _, I2, q⟩
  | brk => obtain ⟨_, _, I, q⟩ := h; exact go I fun _ I2 => ⟨_, _, I2, q⟩
  | cont => obtain ⟨_, _, I, q⟩ := h; exact go I fun _ I2 => ⟨_, _, I2, q⟩
  | ret u => obtain ⟨_, _, _, I, r, q⟩ := h; exact go I fun _ I2 => ⟨_, _, _, I2, r, q⟩
theorem Caught.plainEnd {oe : Obj} (J : Inv X pins σ H sI) {f : Flow} {s' : Shared} (h : SP (X.suite a ((a, oe) :: (X.pn ++ pins))) [] D f s') : SP X pins D f s' := by
  cases f with
  | next => obtain ⟨_, _, I, q⟩ := h; exact ⟨_, _, I.unsuite J.ok, q⟩
  | brk => obtain ⟨_, _, I, q⟩ := h; exact ⟨_, _, I.unsuite J.ok, q⟩
  | cont => obtain ⟨_, _, I, q⟩ := h; exact ⟨_, _, I.unsuite J.ok, q⟩
  | ret u => obtain ⟨_, _, _, I, r, q⟩ := h; exact ⟨_, _, _, I.unsuite J.ok, r, q⟩
/-- the clause's class is asked for -/
theorem Caught.asked {x : Str} {c : Value} {q1 : Pos} {Q : Value → Shared → Prop} {E : Value → Shared → Prop} (C : Caught X pins σ H B sI a cls d s) (hf : X.env.frame = some X.env.locals) (nm : Names X x c) (q : Q c s) :
    wpAny (model X.prog X.w) (X.A.mark (some (.ref a))) (eval (.Name x q1) X.env) Q E s := by
  obtain ⟨oe, _, _, _, S⟩ := C.within hf
  obtain ⟨g, dbg, m | ⟨m, v, n⟩⟩ := nm
  · exact ld_glob (X := X.suite a ((a, oe) :: (X.pn ++ pins))) S g m q dbg
  · exact ld_blt (X := X.suite a ((a, oe) :: (X.pn ++ pins))) S g m v q n dbg
theorem Caught.fits {c : Value} {b : Bool} (C : Caught X pins σ H B sI a cls d s) (e : PySem.W.exmOne X.K cls c = some b) : PySem.W.Looks (model X.prog X.w) s.heap (excMatches (.ref a) c) b := by
  obtain ⟨oe, fields, at_, z, _⟩ := C.fly.there
  exact PySem.W.exm_one C.now.kIn (fun _ _ _ _ k q => wpAny_typeOf_ref (k _ _ at_) (z.1.symm ▸ q)) e
/-- a clause's suite runs, its exception landed anew -/
theorem Caught.lands (C : Caught X pins σ H B sI a cls d s) {k : Sem Unit → Prop} {Q : Unit → Shared → Prop} {E : Value → Shared → Prop} (h : ∀ s2, Caught X pins σ H B sI a cls d s2 → Q () s2) :
    wpAny (model X.prog X.w) (X.A.mark (some (.ref a))) (setFlight (.ref a) none) Q E s :=
  HandSPX.lands_againZ C.fly fun h2 fl2 up2 => h { s with heap := h2 } ⟨C.was, C.ground, C.near.trans up2, fl2, C.free, C.os, C.bare⟩
/-- the clauses, one after another -/
theorem Caught.through (hs : X.stack = X.env :: X.outer) (hf : X.env.frame = some X.env.locals) (hN : X.N.Nodup) (tk : Takes X Wout) {hds : List ExceptHandler} {l : List Cl} (ok : ClsOk X hds l) :
    ∀ {s : Shared}, Caught X pins σ H B sI a cls d s → wCls X.K Wout D l cls d σ H → wpAny (model X.prog X.w) X.A (handleBy (.ref a) X.env hds) (SP X pins D) X.xe s := by
  induction ok with
  | nil => exact fun C wish => C.onward hs hf tk wish
  | plain nm su _ ih =>
    intro s C ⟨b, e, yes, no⟩
    refine wpAny_handleBy_cons (codeAny_handlers_test (C.asked hf nm ((C.fits e).here ?_))) (fun z => nomatch z)
    cases b with
    | false => exact ih C (no rfl)
    | true =>
      refine codeAny_handlers_suite (C.lands (k := fun _ => True) fun s2 C2 => ?_)
      obtain ⟨oe, z, isF, _, S⟩ := C2.within hf
      exact wpAny_mono ((su a oe cls d (X.pn ++ pins) z isF).run [] s2 σ H D S (yes rfl a C.free)) (fun _ _ r => Caught.plainEnd C.was r) fun _ _ none_ => none_.elim
  | named slot own nm su _ ih =>
    intro s C ⟨b, e, yes, no⟩
    refine wpAny_handleBy_cons (codeAny_handlers_test (C.asked hf nm ((C.fits e).here ?_))) (fun z => nomatch z)
    cases b with
    | false => exact ih C (no rfl)
    | true =>
      refine codeAny_handlers_suite_as (C.lands (k := fun _ => True) fun s2 C2 => ?_)
      obtain ⟨oe, z, isF, _, S⟩ := C2.within hf
      refine store_ok (X := X.suite a ((a, oe) :: (X.pn ++ pins))) (v := .ref a) S hN slot (.inl own) rfl (fun s3 S3 => ?_) (.inr own)
      exact wpAny_mono ((su a oe cls d (X.pn ++ pins) z isF).run [] s3 _ H _ S3 (yes rfl a C.free)) (fun _ _ r => Caught.behind C.was hN slot own r) fun _ _ none_ => none_.elim
end
variable {body : List Stmt} {h₀ : ExceptHandler} {hds : List ExceptHandler} {l : List Cl} {pos : Pos} {tb : WX → TS}
theorem ps_try_cls (hs : X.stack = X.env :: X.outer) (hf : X.env.frame = some X.env.locals) (hN : X.N.Nodup) (tk : Takes X Wout)
    (hb : ∀ (W : WX) (pn : List (Addr × Obj)) (xe : Value → Shared → Prop), Takes (X.tr pn xe) W → PassesOwn (model X.prog X.w) X.A X.env xe → PSs (X.tr pn xe) body (tb W))
    (hh : ClsOk X (h₀ :: hds) l) : PS X (.Try body (h₀ :: hds) [] [] pos) (fun D σ H => tb (wCls X.K Wout D l) D σ H) := by
  refine ⟨fun pins s σ H D I wish => wpAny_Try_except ?_⟩
  have frames : X.A.frames = some (X.env :: X.outer) := hs ▸ I.ok.frames
  refine wpAny_mono ((hb (wCls X.K Wout D l) (X.pn ++ pins) (fun e s1 => wpAny (model X.prog X.w) X.A (noteFrame e X.env) (fun _ s2 => wpAny (model X.prog X.w) X.A (setFlight e none) (fun _ s3 => wpAny (model X.prog X.w) X.A (handleBy e X.env (h₀ :: hds)) (SP X pins D) X.xe s3) X.xe s2) X.xe s1)
    ?takes PassesOwn.looking).run [] s σ H D (I.toTry _) wish) ?ends (fun _ _ z => z)
  case takes =>
    intro u s1 ⟨a, B, sI, _, σ1, H1, cls, d, eu, J, ground, near, sky, free, os, bare, w⟩
    subst eu
    refine Sky.land Zc.steady frames hf (hs ▸ sky) fun h2 fly up2 => ?_
    exact Caught.through hs hf hN tk hh ⟨J.ofTry I.ok, ground, near.trans up2, fly, free, os, bare⟩ w
  case ends =>
    intro f s1 r
    cases f with
    | next => obtain ⟨_, _, J, q⟩ := r; exact wpAny_execs_nil ⟨_, _, J.ofTry I.ok, q⟩
    | brk => obtain ⟨_, _, J, q⟩ := r; exact ⟨_, _, J.ofTry I.ok, q⟩
    | cont => obtain ⟨_, _, J, q⟩ := r; exact ⟨_, _, J.ofTry I.ok, q⟩
    | ret u => obtain ⟨_, _, _, J, rv, q⟩ := r; exact ⟨_, _, _, J.ofTry I.ok, rv, q⟩
end
end L2

/-! Readings of defs that call what they got, and tell what was raised. -/
namespace LamX
open PySem PySem.Spec PyProof.Rows L2
theorem takes_len {X : Cx} {W : WX} (t : Takes X W) : Takes X (fun cls d σ H => σ.length = X.N.length → W cls d σ H) := fun u s' ⟨a, B, sI, pins, σ, H, cls, d, e, I, nb, up, sky, na, os, ag, w⟩ =>
  t u s' ⟨a, B, sI, pins, σ, H, cls, d, e, I, nb, up, sky, na, os, ag, w I.len⟩
/-- (tag, e.field) for the first clause that fits -/
def EF (K : PySem.W.Frag) (Q : VK) : List (Addr × Str × Str) → XK
  | [] => fun _ _ _ => False
  | (C, tag, fld) :: r => fun cls d H => ∃ b, PySem.W.exmOne K cls (.ref C) = some b ∧ (b = true → cls = .ref C ∧ ∃ dd v, d = some dd ∧ H dd = some (.xd [(fld, v)]) ∧ ∀ t, H t = none → Q (.ref t) (upd H t (.tup [.str tag, v]))) ∧ (b = false → EF K Q r cls d H)
/-- try: a() / except .. as e: return (tag, e.field) .. / return None -/
def TFault (K : PySem.W.Frag) (l : List (Addr × Str × Str)) : (XK → Hp → VK → Prop) → Hp → VK → Prop := fun tl H Q => tl (EF K Q l) H fun _ H' => Q .non H'
/-- return (tag, e.field) -/
def tsF (K : PySem.W.Frag) (i : Nat) (C : Addr) (tag fld : Str) (a : Addr) (cls : Value) (d : Option Addr) : TS := tRet (tTup (tCons (tC (.str tag)) (tCons (tXf a cls d C fld (tVar i)) tNil)))
def clF (K : PySem.W.Frag) (i : Nat) : List (Addr × Str × Str) → List Cl
  | [] => []
  | (C, tag, fld) :: r => (.ref C, some i, tsF K i C tag fld) :: clF K i r
theorem ef_cls {K : PySem.W.Frag} {i : Nat} {D : Ends} {l : List (Addr × Str × Str)} {cls : Value} {d : Option Addr} {σ : L2.St} {H : Hp} {n : Nat} (hn : σ.length = n) (hi : i < n) : EF K D.rt l cls d H → wCls K (fun _ _ _ _ => False) D (clF K i l) cls d σ H := by
  induction l with
  | nil => exact fun h => h
  | cons p r ih =>
    obtain ⟨C, tag, fld⟩ := p
    intro ⟨b, h1, h2, h3⟩
    refine ⟨b, h1, fun hb a ha => ?_, fun hb => ih (h3 hb)⟩
    obtain ⟨hc, dd, v, e1, e2, e3⟩ := h2 hb
    refine ⟨.ref a, ?_, rfl, hc, dd, _, v, e1, e2, ?_, ?_⟩
    · rw [List.getElem?_set_self (by omega)]
    · simp [List.lookup]
    · exact ⟨by show 2 ≤ sizeLine; decide, fun t ht => e3 t ht⟩
theorem ef_here {K : PySem.W.Frag} {Q : VK} {r : List (Addr × Str × Str)} {C : Addr} {tag fld : Str} {v : V} {d : Addr} {H : Hp} (h : PySem.W.exmOne K (.ref C) (.ref C) = some true) (hd : H d = some (.xd [(fld, v)])) (q : ∀ t H', Same H H' → H' t = some (.tup [.str tag, v]) → Q (.ref t) H') : EF K Q ((C, tag, fld) :: r) (.ref C) (some d) H :=
  ⟨true, h, fun _ => ⟨rfl, d, v, rfl, hd, fun t ht => q t _ (same_new ht) upd_same⟩, fun z => nomatch z⟩
theorem ef_next {K : PySem.W.Frag} {Q : VK} {r : List (Addr × Str × Str)} {C : Addr} {tag fld : Str} {cls : Value} {d : Option Addr} {H : Hp} (h : PySem.W.exmOne K cls (.ref C) = some false) (q : EF K Q r cls d H) : EF K Q ((C, tag, fld) :: r) cls d H :=
  ⟨false, h, fun z => (nomatch z), fun _ => q⟩
theorem g_fault {K : PySem.W.Frag} {l : List (Addr × Str × Str)} {tl : XK → Hp → VK → Prop} {H : Hp} {Q : VK} (q : tl (EF K Q l) H fun _ H' => Q .non H') : TFault K l tl H Q := q
theorem g_lam {T : List (Addr × Str)} {TT : (XK → Hp → VK → Prop) → Hp → VK → Prop} {t : XK → TE} {σ : L2.St} {H : Hp} {Q : VK} (hT : Tabs T H) (q : ∀ H1, ExtN H H1 → Tabs T H1 → TT (fun E H' Q' => t E σ H' Q') H1 Q) : tLam T TT t σ H Q := ⟨hT, q⟩
end LamX

section
open L2 in
local macro_rules | `(tactic| walk_at "gx") => `(tactic| first
  | ((with_reducible show tVar _ _ _ _); refine g_var rfl ?_)
  | with_reducible refine g_c ?_
  | with_reducible refine g_op ?_
  | with_reducible refine g_cons ?_
  | with_reducible refine g_nil ?_
  | with_reducible refine g_test ?_
  | with_reducible refine g_blp ?_
  | with_reducible refine g_asg ?_
  | (with_reducible refine g_name ?_; (try simp only [List.set_cons_zero, List.set_cons_succ]))
  | with_reducible refine g_call ?_
  | with_reducible refine g_cb ?_
  | with_reducible refine g_I0 ?_
  | with_reducible refine g_U ?_
  | with_reducible refine g_eqI ?_
  | with_reducible refine g_neI ?_
  | with_reducible refine g_if ?_
  | with_reducible refine g_ret ?_
  | with_reducible refine g_retN ?_
  | with_reducible refine g_next ?_
  | with_reducible refine g_drop ?_
  | with_reducible refine g_un ?_
  | with_reducible refine g_tb ?_
  | with_reducible refine g_tup ?_
  | with_reducible refine g_lst ?_
  | with_reducible refine g_and ?_
  | with_reducible refine g_or ?_
  | with_reducible refine g_not ?_
  | with_reducible refine g_andV ?_
  | with_reducible refine g_orV ?_
  | with_reducible refine g_notV ?_
  | with_reducible refine g_ifE ?_
  | with_reducible refine g_fld ?_
  | with_reducible refine g_tt ?_
  | with_reducible refine g_ff ?_
  | with_reducible refine g_ntt ?_
  | with_reducible refine g_nff ?_
  | with_reducible refine g_for ?_
  | with_reducible refine g_list ?_
  | with_reducible refine g_tupI ?_
  | with_reducible refine g_rng1 ?_
  | with_reducible refine g_rng2 ?_
  | with_reducible refine g_enumA ?_
  | with_reducible refine g_rev ?_
  | with_reducible refine g_lc ?_
  | with_reducible refine g_gcons ?_
  | with_reducible refine g_gnil ?_
  | with_reducible refine g_yes ?_
  | with_reducible refine g_sl ?_
  | with_reducible refine g_nopart ?_
  | with_reducible refine g_part ?_
  | with_reducible refine g_int ?_
  | with_reducible refine g_dget ?_
  | with_reducible refine g_dput ?_
  | with_reducible refine g_raiseX ?_
  | with_reducible refine g_tru ?_
  | with_reducible refine g_sub ?_
  | with_reducible refine g_isN ?_
  | with_reducible refine g_notN ?_
  | with_reducible refine g_bm ?_
  | with_reducible refine L2.g_bm0 ?_
  | with_reducible refine g_pair ?_
  | with_reducible refine g_pair0 ?_
  | with_reducible refine u_int1 ?_
  | with_reducible refine g_chain ?_
  | with_reducible refine L2.g_sfld ?_
  | (with_reducible refine g_par3 ?_)
  | (with_reducible refine g_three ?_; (try simp only [List.set_cons_zero, List.set_cons_succ]))
  | ((with_reducible apply L2.g_tupT); walk_at "up"; rfl)
  | (with_reducible refine g_par ?_)
  | (with_reducible refine g_two ?_; (try simp only [List.set_cons_zero, List.set_cons_succ]))
  )
local macro_rules | `(tactic| walk_at "go") => `(tactic| first | walk_at "gx" | with_reducible refine L2.g_seq ?_)
local macro_rules | `(tactic| walk_at "gou") => `(tactic| repeat (walk_at "gx"))
local macro_rules | `(tactic| walk_at "gos") => `(tactic| repeat (walk_at "go"))
local macro_rules | `(tactic| walk_at "sl") => `(tactic| first
  | assumption
  | exact L2.Same.l (by assumption)
  | exact L2.SameD.l (by assumption)
  | exact L2.extN_l (by assumption))
local macro_rules | `(tactic| walk_at "up") => `(tactic| first
  | assumption
  | ((with_reducible apply L2.SameL.lst); walk_at "sl"; walk_at "up")
  | ((with_reducible apply L2.SameL.tupA); walk_at "sl"; walk_at "up")
  | ((with_reducible apply L2.SameL.ins); walk_at "sl"; walk_at "up")
  | ((with_reducible apply Ev.PB.l); walk_at "sl"; walk_at "up")
  | ((with_reducible apply Ev.IsP.l); walk_at "sl"; walk_at "up")
  | ((with_reducible apply L2.sqL); walk_at "up")
  | ((with_reducible apply L2.sqT); walk_at "up")
  | ((with_reducible apply L2.SameL.seq); walk_at "sl"; walk_at "up")
  | ((with_reducible apply Ev.Pen.same); assumption; walk_at "up")
  | ((with_reducible apply Ev.Pen.extN); assumption; walk_at "up")
  | ((with_reducible apply L2.tabs_s); assumption; walk_at "up")
  | ((with_reducible apply L2.tabs_dd); assumption; walk_at "up")
  | ((with_reducible apply Or.inl); walk_at "up")
  | ((with_reducible apply Or.inr); walk_at "up"))
local macro_rules | `(tactic| walk_at "new") => `(tactic| (
  first
    | refine ⟨L2.size_ok (by rfl), fun p hp => ?_⟩
    | refine fun p hp => ?_
  generalize hX : L2.upd _ p _ = H1
  obtain ⟨e, h⟩ := L2.news hp hX
  clear hX))
local macro_rules | `(tactic| walk_at "o") => `(tactic| first
  | ((with_reducible apply Ev.o_add); walk_at "up"; walk_at "up"; rfl; rfl; rfl)
  | ((with_reducible apply Ev.o_sub); walk_at "up"; walk_at "up"; rfl; rfl; rfl)
  | ((with_reducible apply Ev.o_mul); walk_at "up"; walk_at "up"; rfl; rfl; rfl)
  | ((with_reducible apply Ev.o_addI); walk_at "up"; assumption; rfl; rfl; rfl)
  | ((with_reducible apply Ev.o_subI); walk_at "up"; assumption; rfl; rfl; rfl)
  | ((with_reducible apply Ev.o_mulI); walk_at "up"; assumption; rfl; rfl; rfl)
  | ((with_reducible apply Ev.o_radd); walk_at "up"; assumption; rfl; rfl; rfl)
  | ((with_reducible apply Ev.o_rsub); walk_at "up"; assumption; rfl; rfl; rfl)
  | ((with_reducible apply Ev.o_rmul); walk_at "up"; assumption; rfl; rfl; rfl)
  | ((with_reducible apply Ev.o_neg); walk_at "up"; rfl; rfl; rfl))
local macro_rules | `(tactic| walk_at "eq") => `(tactic| ((with_reducible apply Ev.u_ownB); assumption; walk_at "up"; walk_at "up"; (focus (intro k; first | rfl | exact Pl.e_add | exact Pl.e_sub | exact Pl.e_mul | exact Pl.e_rsub | exact Pl.e_rsub2))))
local macro_rules | `(tactic| walk_at "isp") => `(tactic| (apply Ev.u_isB; walk_at "up"; walk_at "up"; rfl; rfl))

/-! try: ask() / except C as e: return e.field / return None -/
namespace LamX
open PySem PySem.Spec PyProof.Rows L2
/-- e.field of the one clause -/
def EN (K : PySem.W.Frag) (Q : VK) (C : Addr) (fld : Str) : XK := fun cls d H => ∃ b, PySem.W.exmOne K cls (.ref C) = some b ∧ (b = true → cls = .ref C ∧ ∃ dd v, d = some dd ∧ H dd = some (.xd [(fld, v)]) ∧ Q v H) ∧ (b = false → False)
def TRefuse (K : PySem.W.Frag) (C : Addr) (fld : Str) : (XK → Hp → VK → Prop) → Hp → VK → Prop := fun tl H Q => tl (EN K Q C fld) H fun _ H' => Q .non H'
def clN (K : PySem.W.Frag) (i : Nat) (C : Addr) (fld : Str) : List Cl := [(.ref C, some i, fun a cls d => tRet (tXf a cls d C fld (tVar i)))]
theorem en_cls {K : PySem.W.Frag} {i : Nat} {D : Ends} {C : Addr} {fld : Str} {cls : Value} {d : Option Addr} {σ : L2.St} {H : Hp} {n : Nat} (hn : σ.length = n) (hi : i < n) : EN K D.rt C fld cls d H → wCls K (fun _ _ _ _ => False) D (clN K i C fld) cls d σ H := by
  intro ⟨b, h1, h2, h3⟩
  refine ⟨b, h1, fun hb a ha => ?_, fun hb => (h3 hb).elim⟩
  obtain ⟨hc, dd, v, e1, e2, e3⟩ := h2 hb
  refine ⟨.ref a, ?_, rfl, hc, dd, _, v, e1, e2, ?_, e3⟩
  · rw [List.getElem?_set_self (by omega)]
  · simp [List.lookup]
theorem g_refuse {K : PySem.W.Frag} {C : Addr} {fld : Str} {tl : XK → Hp → VK → Prop} {H : Hp} {Q : VK} (q : tl (EN K Q C fld) H fun _ H' => Q .non H') : TRefuse K C fld tl H Q := q
end LamX
namespace Ev
open PySem PySem.Spec PyProof.Rows L2 LamX
section
end
end Ev

end
section
open L2 in
local macro_rules | `(tactic| walk_at "gx") => `(tactic| first
  | ((with_reducible show tVar _ _ _ _); refine g_var rfl ?_)
  | with_reducible refine g_c ?_
  | with_reducible refine g_op ?_
  | with_reducible refine g_cons ?_
  | with_reducible refine g_nil ?_
  | with_reducible refine g_test ?_
  | with_reducible refine g_blp ?_
  | with_reducible refine g_asg ?_
  | (with_reducible refine g_name ?_; (try simp only [List.set_cons_zero, List.set_cons_succ]))
  | with_reducible refine g_call ?_
  | with_reducible refine g_cb ?_
  | with_reducible refine g_I0 ?_
  | with_reducible refine g_U ?_
  | with_reducible refine g_eqI ?_
  | with_reducible refine g_neI ?_
  | with_reducible refine g_if ?_
  | with_reducible refine g_ret ?_
  | with_reducible refine g_retN ?_
  | with_reducible refine g_next ?_
  | with_reducible refine g_drop ?_
  | with_reducible refine g_un ?_
  | with_reducible refine g_tb ?_
  | with_reducible refine g_tup ?_
  | with_reducible refine g_lst ?_
  | with_reducible refine g_and ?_
  | with_reducible refine g_or ?_
  | with_reducible refine g_not ?_
  | with_reducible refine g_andV ?_
  | with_reducible refine g_orV ?_
  | with_reducible refine g_notV ?_
  | with_reducible refine g_ifE ?_
  | with_reducible refine g_fld ?_
  | with_reducible refine g_tt ?_
  | with_reducible refine g_ff ?_
  | with_reducible refine g_ntt ?_
  | with_reducible refine g_nff ?_
  | with_reducible refine g_for ?_
  | with_reducible refine g_list ?_
  | with_reducible refine g_tupI ?_
  | with_reducible refine g_rng1 ?_
  | with_reducible refine g_rng2 ?_
  | with_reducible refine g_enumA ?_
  | with_reducible refine g_rev ?_
  | with_reducible refine g_lc ?_
  | with_reducible refine g_gcons ?_
  | with_reducible refine g_gnil ?_
  | with_reducible refine g_yes ?_
  | with_reducible refine g_sl ?_
  | with_reducible refine g_nopart ?_
  | with_reducible refine g_part ?_
  | with_reducible refine g_int ?_
  | with_reducible refine g_dget ?_
  | with_reducible refine g_dput ?_
  | with_reducible refine g_raiseX ?_
  | with_reducible refine g_tru ?_
  | with_reducible refine g_sub ?_
  | with_reducible refine g_isN ?_
  | with_reducible refine g_notN ?_
  | with_reducible refine g_bm ?_
  | with_reducible refine L2.g_bm0 ?_
  | with_reducible refine g_pair ?_
  | with_reducible refine g_pair0 ?_
  | with_reducible refine u_int1 ?_
  | with_reducible refine g_chain ?_
  | with_reducible refine L2.g_sfld ?_
  | (with_reducible refine g_par3 ?_)
  | (with_reducible refine g_three ?_; (try simp only [List.set_cons_zero, List.set_cons_succ]))
  | ((with_reducible apply L2.g_tupT); walk_at "up"; rfl)
  | (with_reducible refine g_par ?_)
  | (with_reducible refine g_two ?_; (try simp only [List.set_cons_zero, List.set_cons_succ]))
  )
local macro_rules | `(tactic| walk_at "go") => `(tactic| first | walk_at "gx" | with_reducible refine L2.g_seq ?_)
local macro_rules | `(tactic| walk_at "gou") => `(tactic| repeat (walk_at "gx"))
local macro_rules | `(tactic| walk_at "gos") => `(tactic| repeat (walk_at "go"))
local macro_rules | `(tactic| walk_at "sl") => `(tactic| first
  | assumption
  | exact L2.Same.l (by assumption)
  | exact L2.SameD.l (by assumption)
  | exact L2.extN_l (by assumption))
local macro_rules | `(tactic| walk_at "up") => `(tactic| first
  | assumption
  | ((with_reducible apply L2.SameL.lst); walk_at "sl"; walk_at "up")
  | ((with_reducible apply L2.SameL.tupA); walk_at "sl"; walk_at "up")
  | ((with_reducible apply L2.SameL.ins); walk_at "sl"; walk_at "up")
  | ((with_reducible apply Ev.PB.l); walk_at "sl"; walk_at "up")
  | ((with_reducible apply Ev.IsP.l); walk_at "sl"; walk_at "up")
  | ((with_reducible apply L2.sqL); walk_at "up")
  | ((with_reducible apply L2.sqT); walk_at "up")
  | ((with_reducible apply L2.SameL.seq); walk_at "sl"; walk_at "up")
  | ((with_reducible apply Ev.Pen.same); assumption; walk_at "up")
  | ((with_reducible apply Ev.Pen.extN); assumption; walk_at "up")
  | ((with_reducible apply L2.tabs_s); assumption; walk_at "up")
  | ((with_reducible apply L2.tabs_dd); assumption; walk_at "up")
  | ((with_reducible apply Or.inl); walk_at "up")
  | ((with_reducible apply Or.inr); walk_at "up"))
local macro_rules | `(tactic| walk_at "new") => `(tactic| (
  first
    | refine ⟨L2.size_ok (by rfl), fun p hp => ?_⟩
    | refine fun p hp => ?_
  generalize hX : L2.upd _ p _ = H1
  obtain ⟨e, h⟩ := L2.news hp hX
  clear hX))
local macro_rules | `(tactic| walk_at "o") => `(tactic| first
  | ((with_reducible apply Ev.o_add); walk_at "up"; walk_at "up"; rfl; rfl; rfl)
  | ((with_reducible apply Ev.o_sub); walk_at "up"; walk_at "up"; rfl; rfl; rfl)
  | ((with_reducible apply Ev.o_mul); walk_at "up"; walk_at "up"; rfl; rfl; rfl)
  | ((with_reducible apply Ev.o_addI); walk_at "up"; assumption; rfl; rfl; rfl)
  | ((with_reducible apply Ev.o_subI); walk_at "up"; assumption; rfl; rfl; rfl)
  | ((with_reducible apply Ev.o_mulI); walk_at "up"; assumption; rfl; rfl; rfl)
  | ((with_reducible apply Ev.o_radd); walk_at "up"; assumption; rfl; rfl; rfl)
  | ((with_reducible apply Ev.o_rsub); walk_at "up"; assumption; rfl; rfl; rfl)
  | ((with_reducible apply Ev.o_rmul); walk_at "up"; assumption; rfl; rfl; rfl)
  | ((with_reducible apply Ev.o_neg); walk_at "up"; rfl; rfl; rfl))
local macro_rules | `(tactic| walk_at "eq") => `(tactic| ((with_reducible apply Ev.u_ownB); assumption; walk_at "up"; walk_at "up"; (focus (intro k; first | rfl | exact Pl.e_add | exact Pl.e_sub | exact Pl.e_mul | exact Pl.e_rsub | exact Pl.e_rsub2))))
local macro_rules | `(tactic| walk_at "isp") => `(tactic| (apply Ev.u_isB; walk_at "up"; walk_at "up"; rfl; rfl))

/-! The law's own joining; what most tells. -/
namespace Wp
/-- a row read off one round far out -/
theorem mem_far {f : Nat → Bool} {M N P : Nat} (hP : 0 < P) (hf : Per f M P) (hM : M ≤ 60 * P) (hN : M ≤ N) (n : Nat) : mem ((List.range N).map f) ((List.range P).map fun k => f (60 * P + k)) n = f n := by
  have hl : ∀ (m : Nat) (g : Nat → Bool) k, k < m → bt ((List.range m).map g) k = g k := fun m g k hk => by rw [bt_in (by rw [List.length_map, List.length_range]; exact hk), List.getElem_map, List.getElem_range]
  unfold mem
  rw [List.length_map, List.length_range, List.length_map, List.length_range]
  by_cases hn : n < N
  · rw [if_pos hn, hl _ _ _ hn]
  · rw [if_neg hn, hl _ _ _ (Nat.mod_lt _ hP)]
    -- n and 60 * P + n % P have one rest
    have e := Nat.mod_add_div n P
    by_cases h : n / P ≤ 60
    · have h1 := (hf.mul (60 - n / P)) n (by omega)
      rw [← h1]
      congr 1
      rw [Nat.sub_mul, Nat.mul_comm (n / P) P]
      have : P * (n / P) ≤ 60 * P := by rw [Nat.mul_comm]; exact Nat.mul_le_mul_right P h
      omega
    · have h1 := (hf.mul (n / P - 60)) (60 * P + n % P) (by omega)
      rw [← h1]
      congr 1
      rw [Nat.sub_mul, Nat.mul_comm (n / P) P]
      have : 60 * P ≤ P * (n / P) := by rw [Nat.mul_comm P]; exact Nat.mul_le_mul_right P (by omega)
      omega
theorem per_join {f g : Nat → Bool} {s t p q : Nat} (op : Bool → Bool → Bool) (hf : Per f s p) (hg : Per g t q) : Per (fun n => op (f n) (g n)) (max s t) (p * q) := fun n hn => by
  show op (f (n + p * q)) (g (n + p * q)) = op (f n) (g n)
  rw [hg.mul p n (by omega), Nat.mul_comm p q, hf.mul q n (by omega)]
end Wp
namespace Ev
open PySem PySem.Spec PyProof.Rows L2 LamX Wp
section
variable {P : Program} {w : World} {K : PySem.W.Frag} {mg : Str → Option Value} {base : Heap}
def spJoined (P : Program) (w : World) (K : PySem.W.Frag) (mg : Str → Option Value) (base : Heap) : Sp := fun vs H Q _ => ∃ (m1 m2 f : Addr) (B1 R1 B2 R2 : List Bool) (op : Bool → Bool → Bool), vs = [.ref m1, .ref m2, .ref f] ∧ IsM H m1 B1 R1 ∧ IsM H m2 B2 R2 ∧ 0 < R1.length ∧ 0 < R2.length ∧ R1.length ≤ 24 ∧ R2.length ≤ 24 ∧ B1.length ≤ 24 ∧ B2.length ≤ 24 ∧ LamB P w K mg base H f op ∧
  ∀ md B R H', Same H H' → IsM H' md B R → 0 < R.length → R.length ≤ 576 → B.length ≤ 24 → (∀ n, mem B R n = op (mem B1 R1 n) (mem B2 R2 n)) → Q (.ref md) H'
theorem sc__law_joined : FnScope ["one", "other", "rule", "period", "many", "n", "below", "rests"] ["one", "other", "rule"] (defScope (topS 33)) := ⟨rfl, rfl, rfl, by decide +kernel, rfl, by decide +kernel, by decide +kernel⟩
theorem ok__law_joined (B : Bn mg) (G__law_truth : CallF P w K mg base "_law_truth" ["model", "n"] 1 spTruthM) {f : Addr} {fd : FuncData} (F : Fun K "_law_joined" "_law_joined" (topS 33) f fd) : FnOk P w K mg base (L2.CX P w) 4 f fd ["one", "other", "rule"] (spJoined P w K mg base) := by
  have nd := sc__law_joined.nd
  refine F.okX sc__law_joined (fun vs H Q E h => ?_) (fun cdv A outer s H vs Q E hr h => ?_)
  · obtain ⟨m1, m2, f, B1, R1, B2, R2, op, rfl, _⟩ := h
    rfl
  · refine ⟨_, (pss_cons (ps_par (i := 3) (j := 4) rfl nd rfl rfl (by decide) rfl rfl (pa_cons (pe_op op_mulX (pe_callB (call_lnK (K := K) rfl) (by rfl) B.len_ (by decide +kernel) (pa_cons (pe_ix (ix_tupK (K := K) rfl) (pv 0) pe_int (fun _ _ => rfl)) pa_nil)) (pe_callB (call_lnK (K := K) rfl) (by rfl) B.len_ (by decide +kernel) (pa_cons (pe_ix (ix_tupK (K := K) rfl) (pv 1) pe_int (fun _ _ => rfl)) pa_nil))) (pa_cons (pe_callB (call_max2 rfl) (by rfl) B.max_ (by decide +kernel) (pa_cons (pe_callB (call_lnK (K := K) rfl) (by rfl) B.len_ (by decide +kernel) (pa_cons (pe_ix (ix_tupK (K := K) rfl) (pv 0) pe_int (fun _ _ => rfl)) pa_nil)) (pa_cons (pe_callB (call_lnK (K := K) rfl) (by rfl) B.len_ (by decide +kernel) (pa_cons (pe_ix (ix_tupK (K := K) rfl) (pv 1) pe_int (fun _ _ => rfl)) pa_nil)) pa_nil))) pa_nil)) (by rfl))
      (pss_cons (ps_setLc (i := 6) (own := [("n", 5)]) (g := gName 5) (tt := tYes) rfl nd rfl rfl (sw_true rfl rfl rfl (by decide +kernel)) (pi_range1 rfl B.range (pa_cons (pv 4) pa_nil)) (blkOk_by (N := ["one", "other", "rule", "period", "many", "n", "below", "rests"]) (sc := defScope (topS 33)) (by decide +kernel)) (fun _ _ _ _ _ => (pg_name (i := 5) nd rfl (.inl rfl))) (fun _ _ _ _ _ => pts_nil) (fun _ _ _ _ _ => (pe_callLK (P := P) (w := w) (K := K) (mg := mg) (base := base) rfl rfl rfl rfl rfl (k := 1) (i := 2) rfl (by first | exact .inl rfl | exact .inr (.inl rfl) | exact .inr (.inr rfl)) (hr.mono (by decide)) (pa_cons (pe_callF G__law_truth (hr.mono (by decide)) rfl passL (pa_cons (pv 0) (pa_cons (pv 5) pa_nil))) (pa_cons (pe_callF G__law_truth (hr.mono (by decide)) rfl passL (pa_cons (pv 1) (pa_cons (pv 5) pa_nil))) pa_nil)))))
      (pss_cons (ps_setLc (i := 7) (own := [("n", 5)]) (g := gName 5) (tt := tYes) rfl nd rfl rfl (sw_true rfl rfl rfl (by decide +kernel)) (pi_range2 rfl B.range (pa_cons (pe_op op_mulX pe_int (pv 3)) (pa_cons (pe_op op_mulX pe_int (pv 3)) pa_nil))) (blkOk_by (N := ["one", "other", "rule", "period", "many", "n", "below", "rests"]) (sc := defScope (topS 33)) (by decide +kernel)) (fun _ _ _ _ _ => (pg_name (i := 5) nd rfl (.inl rfl))) (fun _ _ _ _ _ => pts_nil) (fun _ _ _ _ _ => (pe_callLK (P := P) (w := w) (K := K) (mg := mg) (base := base) rfl rfl rfl rfl rfl (k := 1) (i := 2) rfl (by first | exact .inl rfl | exact .inr (.inl rfl) | exact .inr (.inr rfl)) (hr.mono (by decide)) (pa_cons (pe_callF G__law_truth (hr.mono (by decide)) rfl passL (pa_cons (pv 0) (pa_cons (pv 5) pa_nil))) (pa_cons (pe_callF G__law_truth (hr.mono (by decide)) rfl passL (pa_cons (pv 1) (pa_cons (pv 5) pa_nil))) pa_nil)))))
      (pss_one (ps_ret (pe_tup (pa_cons (pv 6) (pa_cons (pv 7) pa_nil)))))))), ?_⟩
    obtain ⟨m1, m2, rf, B1, R1, B2, R2, op, rfl, hM, hN, hR1, hR2, hr1, hr2, hb1, hb2, hf, q⟩ := h
    obtain ⟨a1, b1, hm1, ha1, hr1'⟩ := id hM
    obtain ⟨a2, b2, hm2, ha2, hr2'⟩ := id hN
    refine g_st (σ' := [some (.ref m1), some (.ref m2), some (.ref rf), none, none, none, none, none]) rfl ?_
    walk_at "gos"
    refine u_ixT (sqT hm1) (v := .ref b1) rfl ?_
    walk_at "gos"
    refine u_lenL (sqL hr1') ?_
    rw [List.length_map]
    walk_at "gos"
    refine u_ixT (sqT hm2) (v := .ref b2) rfl ?_
    walk_at "gos"
    refine u_lenL (sqL hr2') ?_
    rw [List.length_map]
    refine g_I (cmul_small (n := 40) (m := 40) (by unfold Bd; omega) (by unfold Bd; omega)) ?_
    walk_at "gos"
    refine u_ixT (sqT hm1) (v := .ref a1) rfl ?_
    walk_at "gos"
    refine u_lenL (sqL ha1) ?_
    rw [List.length_map]
    walk_at "gos"
    refine u_ixT (sqT hm2) (v := .ref a2) rfl ?_
    walk_at "gos"
    refine u_lenL (sqL ha2) ?_
    rw [List.length_map]
    refine ⟨_, _, rfl, ?_⟩
    obtain ⟨N, hN2⟩ : ∃ N, N = max B1.length B2.length := ⟨_, rfl⟩
    have hNi : (if ((B2.length : Nat) : Int) > ((B1.length : Nat) : Int) then ((B2.length : Nat) : Int) else ((B1.length : Nat) : Int)) = (N : Nat) := by split <;> omega
    obtain ⟨Pd, hPd⟩ : ∃ Pd, Pd = R1.length * R2.length := ⟨_, rfl⟩
    have hP0 : 0 < Pd := by rw [hPd]; exact Nat.mul_pos hR1 hR2
    have hP1 : Pd ≤ 576 := by rw [hPd]; exact Nat.le_trans (Nat.mul_le_mul hr1 hr2) (by decide)
    rw [hNi, ← Int.natCast_mul, ← hPd]
    walk_at "gos"
    refine u_rng (by omega) (by omega) fun D hD => ?_
    rw [Int.toNat_natCast]
    have step : ∀ (k : Nat) {H3 : Hp} {QQ : VK} {y5 y6 y7 : Option V} {y3 y4 : Option V}, Same H H3 → y5 = some (.int (k : Nat)) → (Q' : QQ (.bl (op (mem B1 R1 k) (mem B2 R2 k))) H3) → tCallL P w K mg base 2 (tCons (tCall spTruthM [] E0 (tCons (tVar 0) (tCons (tVar 5) tNil))) (tCons (tCall spTruthM [] E0 (tCons (tVar 1) (tCons (tVar 5) tNil))) tNil)) [some (.ref m1), some (.ref m2), some (.ref rf), y3, y4, y5, y6, y7] H3 QQ := fun k {H3 QQ y5 y6 y7 y3 y4} e hy hq => by
      subst hy
      refine ⟨rf, op, rfl, hf.same e, ?_⟩
      walk_at "gos"
      refine ⟨m1, k, B1, R1, rfl, hM.l e.l, hR1, ?_⟩
      walk_at "gos"
      refine ⟨m2, k, B2, R2, rfl, hN.l e.l, hR2, ?_⟩
      walk_at "gos"
      exact ⟨_, _, rfl, hf.same e, hq⟩
    refine lc_it walk_range (PvL H D (fun _ => true) (fun n => .bl (op (mem B1 R1 n) (mem B2 R2 n)))) (lc_start hD) (fun _ _ _ _ => trivial) (fun k y H3 H4 hi pv q6 => ?_) (fun H3 pv => ?_)
    · obtain ⟨rfl, q6⟩ := q6
      obtain rfl : y = .int (k : Nat) := by rw [q6]; exact congrArg V.int (by omega)
      walk_at "gos"
      refine ⟨rfl, ?_⟩
      walk_at "gos"
      refine step k pv.1 rfl ?_
      exact lc_yes hD pv (Same.refl _) rfl rfl (by omega)
    obtain ⟨e3, h3⟩ := pv
    rw [given_all] at h3
    walk_at "gos"
    refine g_I (cmul_small (n := 40) (m := 40) (by unfold Bd; decide) (by unfold Bd; omega)) ?_
    walk_at "gos"
    refine g_I (cmul_small (n := 40) (m := 40) (by unfold Bd; decide) (by unfold Bd; omega)) ?_
    walk_at "gos"
    refine ⟨_, _, rfl, ⟨by omega, by omega, by omega, by omega⟩, fun D2 hD2 => ?_⟩
    have hl2 : (61 * (Pd : Int) - 60 * (Pd : Int)).toNat = Pd := by omega
    rw [hl2]
    refine lc_it walk_range (PvL H3 D2 (fun _ => true) (fun k => .bl (op (mem B1 R1 (60 * Pd + k)) (mem B2 R2 (60 * Pd + k))))) (lc_start hD2) (fun _ _ _ _ => trivial) (fun k y H4 H5 hi pv q6 => ?_) (fun H4 pv => ?_)
    · obtain ⟨rfl, q6⟩ := q6
      obtain rfl : y = .int ((60 * Pd + k : Nat) : Int) := by rw [q6]; exact congrArg V.int (by omega)
      walk_at "gos"
      refine ⟨rfl, ?_⟩
      walk_at "gos"
      refine step (60 * Pd + k) (e3.trans pv.1) rfl ?_
      exact lc_yes hD2 pv (Same.refl _) rfl rfl (by omega)
    obtain ⟨e4, h4⟩ := pv
    rw [given_all] at h4
    walk_at "gos"
    (walk_at "new"; rename_i t _ H5 e5 h5; walk_at "gos")
    have hper := per_join op (mem_per (b := B1) (r := R1)) (mem_per (b := B2) (r := R2))
    rw [← hPd, ← hN2] at hper
    have hmf := mem_far (N := N) hP0 hper (by omega) (Nat.le_refl N)
    obtain ⟨B3, hB3⟩ : ∃ B3, B3 = (List.range N).map fun n => op (mem B1 R1 n) (mem B2 R2 n) := ⟨_, rfl⟩
    obtain ⟨R3, hR3⟩ : ∃ R3, R3 = (List.range Pd).map fun k => op (mem B1 R1 (60 * Pd + k)) (mem B2 R2 (60 * Pd + k)) := ⟨_, rfl⟩
    rw [← hB3, ← hR3] at hmf
    exact q t B3 R3 H5 (e3.trans (e4.trans e5)) ⟨D, D2, h5, by rw [e5 _ _ (e4 _ _ h3), hB3, List.map_map]; rfl, by rw [e5 _ _ h4, hR3, List.map_map]; rfl⟩ (by rw [hR3, List.length_map, List.length_range]; exact hP0) (by rw [hR3, List.length_map, List.length_range]; exact hP1) (by rw [hB3, List.length_map, List.length_range]; omega) hmf
theorem sc__law_most : FnScope ["ask", "e"] ["ask"] (defScope (topS 34)) := ⟨rfl, rfl, rfl, by decide +kernel, rfl, by decide +kernel, by decide +kernel⟩
theorem most_gives {X : Cx} {C : Addr} (x1 : ExT X.prog X.K X.mg "TooFine" C ["most"]) {g : Addr} {cdg : Value} {q : Str} :
    GivesTo X ["ask", "e"] "_law_most" (defScope (topS 34)) g cdg (defBody (topS 34)) "ask" q (TRefuse X.K C "most") := by
  intro f c' s H Q tl act hc h
  refine ⟨_, pss_cons (ps_try_cls (X := (cxOf C8.CX0 X.prog X.w X.K X.mg X.base ["ask", "e"] "_law_most" (defScope (topS 34)) g cdg X.A X.stack s H C8.E0).nox) (l := clN X.K 1 C "most")
      (tb := fun W D σ H => ∃ Ech : XK, (∀ cls d σ' H', Ech cls d H' → σ'.length = 2 → W cls d σ' H') ∧ σ[0]? = some (some (.ref f)) ∧ H c' = some (CodeO c' q) ∧ tl Ech H (fun _ H1 => D.nx σ H1))
      rfl rfl sc__law_most.nd L2.takes0 (fun W pn xe tk _ => ?_) (.named rfl rfl ⟨rfl, by decide, .inl x1.gC⟩ (fun a oe cls d pn hz hf => pss_one (ps_ret (pe_xf x1.xf (x1.noF (by decide)) hz hf (pv 1)))) .nil)) (pss_one (ps_ret pe_non)), ?_⟩
  · refine ⟨fun pins s' σ H' D I h' => ?_⟩
    obtain ⟨Ech, hW, h1, h2, h3⟩ := h'
    exact (pss_one (ps_expr (act (fun cls d σ H => σ.length = 2 → W cls d σ H) pn xe Ech _ _ (takes_len tk) (fun cls d σ' H' e => hW cls d σ' H' e)))).run pins s' σ H' D I ⟨h1, h2, h3⟩
  · exact ⟨_, fun cls d σ' H' e hl => en_cls hl (by decide) e, rfl, hc, h⟩
end
end Ev

end
section
open L2 in
local macro_rules | `(tactic| walk_at "gx") => `(tactic| first
  | ((with_reducible show tVar _ _ _ _); refine g_var rfl ?_)
  | with_reducible refine g_c ?_
  | with_reducible refine g_op ?_
  | with_reducible refine g_cons ?_
  | with_reducible refine g_nil ?_
  | with_reducible refine g_test ?_
  | with_reducible refine g_blp ?_
  | with_reducible refine g_asg ?_
  | (with_reducible refine g_name ?_; (try simp only [List.set_cons_zero, List.set_cons_succ]))
  | with_reducible refine g_call ?_
  | with_reducible refine g_cb ?_
  | with_reducible refine g_I0 ?_
  | with_reducible refine g_U ?_
  | with_reducible refine g_eqI ?_
  | with_reducible refine g_neI ?_
  | with_reducible refine g_if ?_
  | with_reducible refine g_ret ?_
  | with_reducible refine g_retN ?_
  | with_reducible refine g_next ?_
  | with_reducible refine g_drop ?_
  | with_reducible refine g_un ?_
  | with_reducible refine g_tb ?_
  | with_reducible refine g_tup ?_
  | with_reducible refine g_lst ?_
  | with_reducible refine g_and ?_
  | with_reducible refine g_or ?_
  | with_reducible refine g_not ?_
  | with_reducible refine g_andV ?_
  | with_reducible refine g_orV ?_
  | with_reducible refine g_notV ?_
  | with_reducible refine g_ifE ?_
  | with_reducible refine g_fld ?_
  | with_reducible refine g_tt ?_
  | with_reducible refine g_ff ?_
  | with_reducible refine g_ntt ?_
  | with_reducible refine g_nff ?_
  | with_reducible refine g_for ?_
  | with_reducible refine g_list ?_
  | with_reducible refine g_tupI ?_
  | with_reducible refine g_rng1 ?_
  | with_reducible refine g_rng2 ?_
  | with_reducible refine g_enumA ?_
  | with_reducible refine g_rev ?_
  | with_reducible refine g_lc ?_
  | with_reducible refine g_gcons ?_
  | with_reducible refine g_gnil ?_
  | with_reducible refine g_yes ?_
  | with_reducible refine g_sl ?_
  | with_reducible refine g_nopart ?_
  | with_reducible refine g_part ?_
  | with_reducible refine g_int ?_
  | with_reducible refine g_dget ?_
  | with_reducible refine g_dput ?_
  | with_reducible refine g_raiseX ?_
  | with_reducible refine g_tru ?_
  | with_reducible refine g_sub ?_
  | with_reducible refine g_isN ?_
  | with_reducible refine g_notN ?_
  | with_reducible refine g_bm ?_
  | with_reducible refine L2.g_bm0 ?_
  | with_reducible refine g_pair ?_
  | with_reducible refine g_pair0 ?_
  | with_reducible refine u_int1 ?_
  | with_reducible refine g_chain ?_
  | with_reducible refine L2.g_sfld ?_
  | (with_reducible refine g_par3 ?_)
  | (with_reducible refine g_three ?_; (try simp only [List.set_cons_zero, List.set_cons_succ]))
  | ((with_reducible apply L2.g_tupT); walk_at "up"; rfl)
  | (with_reducible refine g_par ?_)
  | (with_reducible refine g_two ?_; (try simp only [List.set_cons_zero, List.set_cons_succ]))
  )
local macro_rules | `(tactic| walk_at "go") => `(tactic| first | walk_at "gx" | with_reducible refine L2.g_seq ?_)
local macro_rules | `(tactic| walk_at "gou") => `(tactic| repeat (walk_at "gx"))
local macro_rules | `(tactic| walk_at "gos") => `(tactic| repeat (walk_at "go"))
local macro_rules | `(tactic| walk_at "sl") => `(tactic| first
  | assumption
  | exact L2.Same.l (by assumption)
  | exact L2.SameD.l (by assumption)
  | exact L2.extN_l (by assumption))
local macro_rules | `(tactic| walk_at "up") => `(tactic| first
  | assumption
  | ((with_reducible apply L2.SameL.lst); walk_at "sl"; walk_at "up")
  | ((with_reducible apply L2.SameL.tupA); walk_at "sl"; walk_at "up")
  | ((with_reducible apply L2.SameL.ins); walk_at "sl"; walk_at "up")
  | ((with_reducible apply Ev.PB.l); walk_at "sl"; walk_at "up")
  | ((with_reducible apply Ev.IsP.l); walk_at "sl"; walk_at "up")
  | ((with_reducible apply L2.sqL); walk_at "up")
  | ((with_reducible apply L2.sqT); walk_at "up")
  | ((with_reducible apply L2.SameL.seq); walk_at "sl"; walk_at "up")
  | ((with_reducible apply Ev.Pen.same); assumption; walk_at "up")
  | ((with_reducible apply Ev.Pen.extN); assumption; walk_at "up")
  | ((with_reducible apply L2.tabs_s); assumption; walk_at "up")
  | ((with_reducible apply L2.tabs_dd); assumption; walk_at "up")
  | ((with_reducible apply Or.inl); walk_at "up")
  | ((with_reducible apply Or.inr); walk_at "up"))
local macro_rules | `(tactic| walk_at "new") => `(tactic| (
  first
    | refine ⟨L2.size_ok (by rfl), fun p hp => ?_⟩
    | refine fun p hp => ?_
  generalize hX : L2.upd _ p _ = H1
  obtain ⟨e, h⟩ := L2.news hp hX
  clear hX))
local macro_rules | `(tactic| walk_at "o") => `(tactic| first
  | ((with_reducible apply Ev.o_add); walk_at "up"; walk_at "up"; rfl; rfl; rfl)
  | ((with_reducible apply Ev.o_sub); walk_at "up"; walk_at "up"; rfl; rfl; rfl)
  | ((with_reducible apply Ev.o_mul); walk_at "up"; walk_at "up"; rfl; rfl; rfl)
  | ((with_reducible apply Ev.o_addI); walk_at "up"; assumption; rfl; rfl; rfl)
  | ((with_reducible apply Ev.o_subI); walk_at "up"; assumption; rfl; rfl; rfl)
  | ((with_reducible apply Ev.o_mulI); walk_at "up"; assumption; rfl; rfl; rfl)
  | ((with_reducible apply Ev.o_radd); walk_at "up"; assumption; rfl; rfl; rfl)
  | ((with_reducible apply Ev.o_rsub); walk_at "up"; assumption; rfl; rfl; rfl)
  | ((with_reducible apply Ev.o_rmul); walk_at "up"; assumption; rfl; rfl; rfl)
  | ((with_reducible apply Ev.o_neg); walk_at "up"; rfl; rfl; rfl))
local macro_rules | `(tactic| walk_at "eq") => `(tactic| ((with_reducible apply Ev.u_ownB); assumption; walk_at "up"; walk_at "up"; (focus (intro k; first | rfl | exact Pl.e_add | exact Pl.e_sub | exact Pl.e_mul | exact Pl.e_rsub | exact Pl.e_rsub2))))
local macro_rules | `(tactic| walk_at "isp") => `(tactic| (apply Ev.u_isB; walk_at "up"; walk_at "up"; rfl; rfl))

/-! Refused ones. -/
namespace Ev
open PySem PySem.Spec PyProof.Rows L2 LamX Wp
def dueV (g : Bool) : V := if g = true then .int 720 else .non
theorem ne_due {g : Bool} {H : Hp} {Q : VK} (q : Q (.bl false) H) : rNe (dueV g) (dueV g) H Q := by
  cases g with
  | false => exact ⟨rfl, by simpa [dueV] using q⟩
  | true => exact g_neI (by simpa using q)
theorem eq_due {g : Bool} {H : Hp} {Q : VK} (q : Q (.bl true) H) : rEq (dueV g) (dueV g) H Q := by
  cases g with
  | false => exact ⟨rfl, by simpa [dueV] using q⟩
  | true => exact g_eqI (by simpa using q)
section
variable {P : Program} {w : World} {K : PySem.W.Frag} {mg : Str → Option Value} {base : Heap}
def spRefused (T : List (Addr × Str)) : Sp := fun vs H Q _ => ∃ (p c : Addr) (n : Nat), vs = [.ref p] ∧ Pen H p c n ∧ n + 1000 < 2 ^ 40 ∧ Tabs T H ∧ ∀ H', SameL H H' → Pen H' p c (n + 3) → Tabs T H' → Q (.bl true) H'
theorem sc_law : FnScope ["script", "pen", "turn", "k", "one", "other", "v", "w", "truth"] ["script"] (defScope (topS 36)) := ⟨rfl, rfl, rfl, by decide +kernel, rfl, by decide +kernel, by decide +kernel⟩
theorem sc__law_refused : FnScope ["pen", "options", "m", "j", "is_great", "one", "other", "due"] ["pen"] (defScope (topS 35)) := ⟨rfl, rfl, rfl, by decide +kernel, rfl, by decide +kernel, by decide +kernel⟩
structure LawF (P : Program) (w : World) (K : PySem.W.Frag) (mg : Str → Option Value) (base : Heap) (C CN CF : Addr) : Prop where
  B : Bn mg
  g_Where : mg "Where" = some (.ref C)
  sf_Where : PySem.W.selfFirst K C = true
  CM_Where_rest : ClsF P w K mg base C "rest" 7 (spRest K C CN CF)
  OO_Where : OwnF P w K mg base C "__or__" ["self", "other"] 8 (spOpW K C CF fun b c => b || c)
  ON_Where : OwnF P w K mg base C "__and__" ["self", "other"] 8 (spOpW K C CF fun b c => b && c)
  OS_Where : OwnF P w K mg base C "__sub__" ["self", "other"] 8 (spOpW K C CF fun b c => b && !c)
  OX_Where : OwnF P w K mg base C "__xor__" ["self", "other"] 8 (spOpW K C CF fun b c => b != c)
  OV_Where : OwnF P w K mg base C "__invert__" ["self"] 7 (spInvW K C)
  G__law_pen : CallF P w K mg base "_law_pen" ["script"] 1 (spPen K)
  G__law_draw : CallF P w K mg base "_law_draw" ["pen", "many"] 2 spDraw
  G__law_pick : CallF P w K mg base "_law_pick" ["pen", "some"] 3 (spPick K)
  G__law_model : CallF P w K mg base "_law_model" ["pen", "most", "periods"] 5 (spModel K)
  G__law_is_where : CallF P w K mg base "_law_is_where" ["where", "model"] 2 (spIsWhere K C)
  G__law_where : CallF P w K mg base "_law_where" ["model"] 7 (spWhereM K C)
  G__law_joined : CallF P w K mg base "_law_joined" ["one", "other", "rule"] 4 (spJoined P w K mg base)
  xF : ExT P K mg "TooFine" CF ["most"]
  ff : PySem.W.exmOne K (.ref CF) (.ref CF) = some true
theorem ok_refused {C_Where CN CF c Pt : Addr} (L : LawF P w K mg base C_Where CN CF) (TB : TabB base mg c Pt) {g__law_mostA : Addr} {fdF : FuncData} (Ff : Fun K "_law_most" "_law_most" (topS 34) g__law_mostA fdF) (g__law_most : mg "_law_most" = some (.ref g__law_mostA)) (b__law_most : Binds K fdF ["ask"] [])
    {f : Addr} {oc : Value} {od : Option Addr} {kV doc pm : Value} {an : Option Addr} {ct : Value} {osl : Array (Option Value)}
    (lk : K.lookup f = some ⟨oc, od, .func (PySem.W.fnOf "_law_refused" "_law_refused" (defArgs (topS 35)) (defBody (topS 35)) (defScope (topS 35)) .none kV doc pm an (.ref c) ct), osl⟩) (hcd : PySem.W.codeIn K (.ref c) "_law_refused" = true)
    {T_ : List (Addr × Str)} (hT1 : (Pt, (envOfC "_law_refused" (defScope (topS 35)) 0 f (.ref c)).qual ++ "<lambda>") ∈ T_) (hT2 : ∀ p ∈ T_, p.1 = Pt → p.2 = (envOfC "_law_refused" (defScope (topS 35)) 0 f (.ref c)).qual ++ "<lambda>") :
    FnOk P w K mg base (L2.CX P w) 16 f (PySem.W.fnOf "_law_refused" "_law_refused" (defArgs (topS 35)) (defBody (topS 35)) (defScope (topS 35)) .none kV doc pm an (.ref c) ct) ["pen"] (spRefused T_) := by
  have nd := sc__law_refused.nd
  have B := L.B
  have g_Where := L.g_Where
  have sf_Where := L.sf_Where
  have CM_Where_rest := L.CM_Where_rest
  have OO_Where := L.OO_Where
  have ON_Where := L.ON_Where
  have OS_Where := L.OS_Where
  have OX_Where := L.OX_Where
  have OV_Where := L.OV_Where
  have G__law_draw := L.G__law_draw
  have G__law_pick := L.G__law_pick
  have kp__law_most := Ff.kp
  obtain ⟨ocF, odF, kVF, docF, pmF, anF, cdvF, ctF, oslF, rfl, lk__law_most, cg__law_most⟩ := Ff.ex
  refine fn_of lk hcd sc__law_refused (fun vs H Q E h => ?_) (fun A outer s H vs Q E hr h => ?_)
  · obtain ⟨p, pc, n, rfl, _⟩ := h
    rfl
  · have gv__law_most : ∀ q : Str, GivesTo (cxOf (L2.CX P w) P w K mg base ["pen", "options", "m", "j", "is_great", "one", "other", "due"] "_law_refused" (defScope (topS 35)) f (.ref c) A outer s H E) ["ask", "e"] "_law_most" (defScope (topS 34)) g__law_mostA cdvF (defBody (topS 34)) "ask" q (TRefuse K CF "most") := fun q => most_gives L.xF
    refine ⟨_, (pss_cons (ps_set (i := 1) nd rfl (.inl rfl) (pe_lst (pa_cons (pe_tup (pa_cons pe_int (pa_cons pe_int (pa_cons pe_bl pa_nil)))) (pa_cons (pe_tup (pa_cons pe_int (pa_cons pe_int (pa_cons pe_bl pa_nil)))) (pa_cons (pe_tup (pa_cons pe_int (pa_cons pe_int (pa_cons pe_bl pa_nil)))) (pa_cons (pe_tup (pa_cons pe_int (pa_cons pe_int (pa_cons pe_bl pa_nil)))) (pa_cons (pe_tup (pa_cons pe_int (pa_cons pe_int (pa_cons pe_bl pa_nil)))) pa_nil)))))))
      (pss_cons (ps_asg (pe_callF G__law_pick (hr.mono (by decide)) rfl passL (pa_cons (pv 0) (pa_cons (pv 1) pa_nil))) (pg_tupK (K := K) (n := 3) rfl rfl (pgs_cons (pg_name (i := 2) nd rfl (.inl rfl)) (pgs_cons (pg_name (i := 3) nd rfl (.inl rfl)) (pgs_cons (pg_name (i := 4) nd rfl (.inl rfl)) pgs_nil)))))
      (pss_cons (ps_asg (pe_tup (pa_cons (pe_clsF CM_Where_rest (pe_glob (v := .ref C_Where) rfl g_Where rfl) (hr.mono (by decide)) passL (pa_cons (pv 2) (pa_cons (pe_callF G__law_draw (hr.mono (by decide)) rfl passL (pa_cons (pv 0) (pa_cons (pv 2) pa_nil))) pa_nil))) (pa_cons (pe_un (un_invO OV_Where (hr.mono (by decide)) passL) (pe_clsF CM_Where_rest (pe_glob (v := .ref C_Where) rfl g_Where rfl) (hr.mono (by decide)) passL (pa_cons (pv 3) (pa_cons (pe_callF G__law_draw (hr.mono (by decide)) rfl passL (pa_cons (pv 0) (pa_cons (pv 3) pa_nil))) pa_nil)))) pa_nil))) (pg_tupK (K := K) (n := 2) rfl rfl (pgs_cons (pg_name (i := 5) nd rfl (.inr rfl)) (pgs_cons (pg_name (i := 6) nd rfl (.inr rfl)) pgs_nil))))
      (pss_cons (ps_set (i := 7) nd rfl (.inl rfl) (pe_ifExp (pt_val (pv 4)) pe_int pe_non))
      (pss_cons (ps_if (pt_cmpR op_ne (pe_lamcall (T := T_) (k := 12) rfl g__law_most kp__law_most lk__law_most cg__law_most b__law_most sc__law_most rfl (.inl rfl) (gv__law_most _) TB rfl hT1 hT2 (hr.mono (by decide)) (lamS_by (sc := defScope (topS 35)) (by decide +kernel)) rfl (fun _ _ _ _ _ => rfl) (fun A outer s H E f c' hr => by exact (pe_op (op_own2 OO_Where rfl sf_Where (hr.mono (by decide)) (passes_call (takes_of rfl rfl rfl rfl) (fun _ _ _ _ h => h))) (pv 5) (pv 6)))) (pv 7) (nomark _)) (pss_one (ps_ret pe_bl)) pss_nil)
      (pss_cons (ps_if (pt_cmpR op_ne (pe_lamcall (T := T_) (k := 12) rfl g__law_most kp__law_most lk__law_most cg__law_most b__law_most sc__law_most rfl (.inl rfl) (gv__law_most _) TB rfl hT1 hT2 (hr.mono (by decide)) (lamS_by (sc := defScope (topS 35)) (by decide +kernel)) rfl (fun _ _ _ _ _ => rfl) (fun A outer s H E f c' hr => by exact (pe_op (op_own2 ON_Where rfl sf_Where (hr.mono (by decide)) (passes_call (takes_of rfl rfl rfl rfl) (fun _ _ _ _ h => h))) (pv 5) (pv 6)))) (pv 7) (nomark _)) (pss_one (ps_ret pe_bl)) pss_nil)
      (pss_cons (ps_if (pt_cmpR op_ne (pe_lamcall (T := T_) (k := 12) rfl g__law_most kp__law_most lk__law_most cg__law_most b__law_most sc__law_most rfl (.inl rfl) (gv__law_most _) TB rfl hT1 hT2 (hr.mono (by decide)) (lamS_by (sc := defScope (topS 35)) (by decide +kernel)) rfl (fun _ _ _ _ _ => rfl) (fun A outer s H E f c' hr => by exact (pe_op (op_own2 OS_Where rfl sf_Where (hr.mono (by decide)) (passes_call (takes_of rfl rfl rfl rfl) (fun _ _ _ _ h => h))) (pv 5) (pv 6)))) (pv 7) (nomark _)) (pss_one (ps_ret pe_bl)) pss_nil)
      (pss_one (ps_ret (pe_cmpR op_eq (pe_lamcall (T := T_) (k := 12) rfl g__law_most kp__law_most lk__law_most cg__law_most b__law_most sc__law_most rfl (.inl rfl) (gv__law_most _) TB rfl hT1 hT2 (hr.mono (by decide)) (lamS_by (sc := defScope (topS 35)) (by decide +kernel)) rfl (fun _ _ _ _ _ => rfl) (fun A outer s H E f c' hr => by exact (pe_op (op_own2 OX_Where rfl sf_Where (hr.mono (by decide)) (passes_call (takes_of rfl rfl rfl rfl) (fun _ _ _ _ h => h))) (pv 5) (pv 6)))) (pv 7) (nomark _))))))))))), ?_⟩
    obtain ⟨p, pc, n, rfl, hp, hn, hTb, q⟩ := h
    refine g_st (σ' := [some (.ref p), none, none, none, none, none, none, none]) rfl ?_
    walk_at "gos"
    (walk_at "new"; rename_i t1 _ H1 e1 h1; walk_at "gos")
    (walk_at "new"; rename_i t2 _ H2 e2 h2; walk_at "gos")
    (walk_at "new"; rename_i t3 _ H3 e3 h3; walk_at "gos")
    (walk_at "new"; rename_i t4 _ H4 e4 h4; walk_at "gos")
    (walk_at "new"; rename_i t5 _ H5 e5 h5; walk_at "gos")
    (walk_at "new"; rename_i l _ H6 e6 h6; walk_at "gos")
    refine ⟨p, pc, l, _, n, rfl, hp.same (e1.trans (e2.trans (e3.trans (e4.trans (e5.trans e6))))), by omega, sqL h6, (fun z => by cases z), (by show 5 < 100000; decide), fun i1 tv H7 hv e7 hp7 => ?_⟩
    have e07 : SameD H H7 := (e1.trans (e2.trans (e3.trans (e4.trans (e5.trans e6))))).d.trans e7
    obtain ⟨t, m, j, gr, rfl, ht, hm0, hm1, hj0, hj1, hg⟩ : ∃ (t : Addr) (m j : Nat) (gr : Bool), tv = .ref t ∧ H7 t = some (.tup [.int m, .int j, .bl gr]) ∧ 0 < m ∧ m ≤ 720 ∧ 0 < j ∧ j ≤ 720 ∧ (if gr = true then 720 < Nat.lcm m j else Nat.lcm m j ≤ 720) := by
      match i1, hv with
      | 0, hv => exact ⟨t1, 25, 36, true, (Option.some.inj hv).symm, e7.tupA (e6 _ _ (e5 _ _ (e4 _ _ (e3 _ _ (e2 _ _ h1))))), by decide, by decide, by decide, by decide, by decide⟩
      | 1, hv => exact ⟨t2, 48, 100, true, (Option.some.inj hv).symm, e7.tupA (e6 _ _ (e5 _ _ (e4 _ _ (e3 _ _ h2)))), by decide, by decide, by decide, by decide, by decide⟩
      | 2, hv => exact ⟨t3, 720, 7, true, (Option.some.inj hv).symm, e7.tupA (e6 _ _ (e5 _ _ (e4 _ _ h3))), by decide, by decide, by decide, by decide, by decide⟩
      | 3, hv => exact ⟨t4, 16, 45, false, (Option.some.inj hv).symm, e7.tupA (e6 _ _ (e5 _ _ h4)), by decide, by decide, by decide, by decide, by decide⟩
      | 4, hv => exact ⟨t5, 360, 144, false, (Option.some.inj hv).symm, e7.tupA (e6 _ _ h5), by decide, by decide, by decide, by decide, by decide⟩
      | i + 5, hv => cases hv
    clear hv e1 h1 e2 h2 e3 h3 e4 h4 e5 h5 e6 h6 e7
    refine g_tupT (sqT ht) rfl ?_
    walk_at "gos"
    refine g_cmeth ?_
    walk_at "gos"
    refine ⟨rfl, ?_⟩
    walk_at "gos"
    refine ⟨p, pc, _, _, rfl, hp7, by omega, by omega, by omega, fun r H8 h8 h9 e8 hp8 => ?_⟩
    obtain ⟨r, rfl⟩ := Int.eq_ofNat_of_zero_le h8
    walk_at "gos"
    refine ⟨_, _, rfl, .inl ⟨m, r, rfl, rfl, by omega, hm1, fun x1 H9 _ e9 hw1 => ?_⟩⟩
    walk_at "gos"
    refine g_cmeth ?_
    walk_at "gos"
    refine ⟨rfl, ?_⟩
    walk_at "gos"
    refine ⟨p, pc, _, _, rfl, hp8.same e9, by omega, by omega, by omega, fun s' H10 h10 h11 e10 hp10 => ?_⟩
    obtain ⟨s', rfl⟩ := Int.eq_ofNat_of_zero_le h10
    walk_at "gos"
    refine ⟨_, _, rfl, .inl ⟨j, s', rfl, rfl, by omega, hj1, fun x2 H11 _ e11 hw2 => ?_⟩⟩
    have insW : ∀ {x : Addr} {f : Nat → Bool} {H' : Hp}, WF K H' x C_Where f → ∃ dx fs, H' x = some (.ins C_Where dx fs) := fun ⟨bl, rl, ⟨dx, t1, t2, h, _⟩, _⟩ => ⟨_, _, h⟩
    obtain ⟨d2, f2, hi2⟩ := insW hw2
    walk_at "gos"
    refine ⟨x2, d2, f2, rfl, hi2, x2, _, rfl, ⟨hw2, bnd_rest hj0 hj1⟩, fun x3 H12 e12 hw3 => ?_⟩
    (walk_at "new"; rename_i tp _ H13 e13 h13; walk_at "gos")
    have lp := rest_lper (r := r) hm0 (by omega)
    have lq := (rest_lper (r := s') hj0 (by omega)).not
    have wb1 : WFb K H13 x1 C_Where (fun k => decide (k % m = r)) := ⟨hw1.l (e10.trans (e11.trans (e12.trans e13)).d).l, bnd_rest hm0 hm1⟩
    have wb2 := hw3.l e13.l
    have e013 : SameD H H13 := e07.trans (e8.trans (e9.d.trans (e10.trans (e11.trans (e12.trans e13)).d)))
    have hT13 : Tabs T_ H13 := tabs_d hTb e013
    have hp13 : Pen H13 p pc (n + 3) := hp10.same (e11.trans (e12.trans e13))
    have el13 := e013.l
    clear e013 e07 e8 hp8 e9 hw1 e10 hp10 e11 hw2 hi2 e12 hw3 e13 h13 hp7 ht hp hTb
    by_cases hgr : gr = true
    · subst hgr
      rw [if_pos rfl] at hg
      walk_at "gos"
      have hS := hT13
      have hE : SameL H H13 := el13
      have hP := hp13
      have w1 := wb1
      have w2 := wb2
      clear hT13 el13 hp13 wb1 wb2
      refine g_lam hS fun Ha ea hTa => g_refuse ?_
      walk_at "gos"
      refine u_opW (w1.l (extN_l ea)) (w2.l (extN_l ea)) lp lq (fun hl => absurd hl (by omega)) fun hl Hb d eb hd => ⟨true, L.ff, fun _ => ⟨rfl, d, .int 720, rfl, hd, ?_⟩, fun z => nomatch z⟩
      walk_at "gos"
      rw [decide_eq_true rfl]
      walk_at "gos"
      replace hS := hTa.ext eb
      replace hE := hE.trans ((extN_l ea).trans eb.l)
      replace hP := (hP.extN ea).same eb
      replace w1 := w1.l ((extN_l ea).trans eb.l)
      replace w2 := w2.l ((extN_l ea).trans eb.l)
      clear ea hTa eb
      refine g_lam hS fun Ha ea hTa => g_refuse ?_
      walk_at "gos"
      refine u_opW (w1.l (extN_l ea)) (w2.l (extN_l ea)) lp lq (fun hl => absurd hl (by omega)) fun hl Hb d eb hd => ⟨true, L.ff, fun _ => ⟨rfl, d, .int 720, rfl, hd, ?_⟩, fun z => nomatch z⟩
      walk_at "gos"
      rw [decide_eq_true rfl]
      walk_at "gos"
      replace hS := hTa.ext eb
      replace hE := hE.trans ((extN_l ea).trans eb.l)
      replace hP := (hP.extN ea).same eb
      replace w1 := w1.l ((extN_l ea).trans eb.l)
      replace w2 := w2.l ((extN_l ea).trans eb.l)
      clear ea hTa eb
      refine g_lam hS fun Ha ea hTa => g_refuse ?_
      walk_at "gos"
      refine u_opW (w1.l (extN_l ea)) (w2.l (extN_l ea)) lp lq (fun hl => absurd hl (by omega)) fun hl Hb d eb hd => ⟨true, L.ff, fun _ => ⟨rfl, d, .int 720, rfl, hd, ?_⟩, fun z => nomatch z⟩
      walk_at "gos"
      rw [decide_eq_true rfl]
      walk_at "gos"
      replace hS := hTa.ext eb
      replace hE := hE.trans ((extN_l ea).trans eb.l)
      replace hP := (hP.extN ea).same eb
      replace w1 := w1.l ((extN_l ea).trans eb.l)
      replace w2 := w2.l ((extN_l ea).trans eb.l)
      clear ea hTa eb
      refine g_lam hS fun Ha ea hTa => g_refuse ?_
      walk_at "gos"
      refine u_opW (w1.l (extN_l ea)) (w2.l (extN_l ea)) lp lq (fun hl => absurd hl (by omega)) fun hl Hb d eb hd => ⟨true, L.ff, fun _ => ⟨rfl, d, .int 720, rfl, hd, ?_⟩, fun z => nomatch z⟩
      walk_at "gos"
      rw [decide_eq_true rfl]
      exact q _ (hE.trans ((extN_l ea).trans eb.l)) ((hP.extN ea).same eb) (hTa.ext eb)
    · obtain rfl : gr = false := by cases gr with | false => rfl | true => exact absurd rfl hgr
      rw [if_neg (by decide)] at hg
      walk_at "gos"
      have hS := hT13
      have hE : SameL H H13 := el13
      have hP := hp13
      have w1 := wb1
      have w2 := wb2
      clear hT13 el13 hp13 wb1 wb2
      refine g_lam hS fun Ha ea hTa => g_refuse ?_
      walk_at "gos"
      refine u_opW (w1.l (extN_l ea)) (w2.l (extN_l ea)) lp lq (fun hl z Hb eb hz => ?_) fun hl => absurd hl (by omega)
      walk_at "gos"
      refine ne_due (g := false) ?_
      walk_at "gos"
      replace hS := hTa.ext eb
      replace hE := hE.trans ((extN_l ea).trans eb.l)
      replace hP := (hP.extN ea).same eb
      replace w1 := w1.l ((extN_l ea).trans eb.l)
      replace w2 := w2.l ((extN_l ea).trans eb.l)
      clear ea hTa eb
      refine g_lam hS fun Ha ea hTa => g_refuse ?_
      walk_at "gos"
      refine u_opW (w1.l (extN_l ea)) (w2.l (extN_l ea)) lp lq (fun hl z Hb eb hz => ?_) fun hl => absurd hl (by omega)
      walk_at "gos"
      refine ne_due (g := false) ?_
      walk_at "gos"
      replace hS := hTa.ext eb
      replace hE := hE.trans ((extN_l ea).trans eb.l)
      replace hP := (hP.extN ea).same eb
      replace w1 := w1.l ((extN_l ea).trans eb.l)
      replace w2 := w2.l ((extN_l ea).trans eb.l)
      clear ea hTa eb
      refine g_lam hS fun Ha ea hTa => g_refuse ?_
      walk_at "gos"
      refine u_opW (w1.l (extN_l ea)) (w2.l (extN_l ea)) lp lq (fun hl z Hb eb hz => ?_) fun hl => absurd hl (by omega)
      walk_at "gos"
      refine ne_due (g := false) ?_
      walk_at "gos"
      replace hS := hTa.ext eb
      replace hE := hE.trans ((extN_l ea).trans eb.l)
      replace hP := (hP.extN ea).same eb
      replace w1 := w1.l ((extN_l ea).trans eb.l)
      replace w2 := w2.l ((extN_l ea).trans eb.l)
      clear ea hTa eb
      refine g_lam hS fun Ha ea hTa => g_refuse ?_
      walk_at "gos"
      refine u_opW (w1.l (extN_l ea)) (w2.l (extN_l ea)) lp lq (fun hl z Hb eb hz => ?_) fun hl => absurd hl (by omega)
      walk_at "gos"
      refine eq_due (g := false) ?_
      exact q _ (hE.trans ((extN_l ea).trans eb.l)) ((hP.extN ea).same eb) (hTa.ext eb)
end
end Ev

end
section
open L2 in
local macro_rules | `(tactic| walk_at "gx") => `(tactic| first
  | ((with_reducible show tVar _ _ _ _); refine g_var rfl ?_)
  | with_reducible refine g_c ?_
  | with_reducible refine g_op ?_
  | with_reducible refine g_cons ?_
  | with_reducible refine g_nil ?_
  | with_reducible refine g_test ?_
  | with_reducible refine g_blp ?_
  | with_reducible refine g_asg ?_
  | (with_reducible refine g_name ?_; (try simp only [List.set_cons_zero, List.set_cons_succ]))
  | with_reducible refine g_call ?_
  | with_reducible refine g_cb ?_
  | with_reducible refine g_I0 ?_
  | with_reducible refine g_U ?_
  | with_reducible refine g_eqI ?_
  | with_reducible refine g_neI ?_
  | with_reducible refine g_if ?_
  | with_reducible refine g_ret ?_
  | with_reducible refine g_retN ?_
  | with_reducible refine g_next ?_
  | with_reducible refine g_drop ?_
  | with_reducible refine g_un ?_
  | with_reducible refine g_tb ?_
  | with_reducible refine g_tup ?_
  | with_reducible refine g_lst ?_
  | with_reducible refine g_and ?_
  | with_reducible refine g_or ?_
  | with_reducible refine g_not ?_
  | with_reducible refine g_andV ?_
  | with_reducible refine g_orV ?_
  | with_reducible refine g_notV ?_
  | with_reducible refine g_ifE ?_
  | with_reducible refine g_fld ?_
  | with_reducible refine g_tt ?_
  | with_reducible refine g_ff ?_
  | with_reducible refine g_ntt ?_
  | with_reducible refine g_nff ?_
  | with_reducible refine g_for ?_
  | with_reducible refine g_list ?_
  | with_reducible refine g_tupI ?_
  | with_reducible refine g_rng1 ?_
  | with_reducible refine g_rng2 ?_
  | with_reducible refine g_enumA ?_
  | with_reducible refine g_rev ?_
  | with_reducible refine g_lc ?_
  | with_reducible refine g_gcons ?_
  | with_reducible refine g_gnil ?_
  | with_reducible refine g_yes ?_
  | with_reducible refine g_sl ?_
  | with_reducible refine g_nopart ?_
  | with_reducible refine g_part ?_
  | with_reducible refine g_int ?_
  | with_reducible refine g_dget ?_
  | with_reducible refine g_dput ?_
  | with_reducible refine g_raiseX ?_
  | with_reducible refine g_tru ?_
  | with_reducible refine g_sub ?_
  | with_reducible refine g_isN ?_
  | with_reducible refine g_notN ?_
  | with_reducible refine g_bm ?_
  | with_reducible refine L2.g_bm0 ?_
  | with_reducible refine g_pair ?_
  | with_reducible refine g_pair0 ?_
  | with_reducible refine u_int1 ?_
  | with_reducible refine g_chain ?_
  | with_reducible refine L2.g_sfld ?_
  | (with_reducible refine g_par3 ?_)
  | (with_reducible refine g_three ?_; (try simp only [List.set_cons_zero, List.set_cons_succ]))
  | ((with_reducible apply L2.g_tupT); walk_at "up"; rfl)
  | (with_reducible refine g_par ?_)
  | (with_reducible refine g_two ?_; (try simp only [List.set_cons_zero, List.set_cons_succ]))
  )
local macro_rules | `(tactic| walk_at "go") => `(tactic| first | walk_at "gx" | with_reducible refine L2.g_seq ?_)
local macro_rules | `(tactic| walk_at "gou") => `(tactic| repeat (walk_at "gx"))
local macro_rules | `(tactic| walk_at "gos") => `(tactic| repeat (walk_at "go"))
local macro_rules | `(tactic| walk_at "sl") => `(tactic| first
  | assumption
  | exact L2.Same.l (by assumption)
  | exact L2.SameD.l (by assumption)
  | exact L2.extN_l (by assumption))
local macro_rules | `(tactic| walk_at "up") => `(tactic| first
  | assumption
  | ((with_reducible apply L2.SameL.lst); walk_at "sl"; walk_at "up")
  | ((with_reducible apply L2.SameL.tupA); walk_at "sl"; walk_at "up")
  | ((with_reducible apply L2.SameL.ins); walk_at "sl"; walk_at "up")
  | ((with_reducible apply Ev.PB.l); walk_at "sl"; walk_at "up")
  | ((with_reducible apply Ev.IsP.l); walk_at "sl"; walk_at "up")
  | ((with_reducible apply L2.sqL); walk_at "up")
  | ((with_reducible apply L2.sqT); walk_at "up")
  | ((with_reducible apply L2.SameL.seq); walk_at "sl"; walk_at "up")
  | ((with_reducible apply Ev.Pen.same); assumption; walk_at "up")
  | ((with_reducible apply Ev.Pen.extN); assumption; walk_at "up")
  | ((with_reducible apply L2.tabs_s); assumption; walk_at "up")
  | ((with_reducible apply L2.tabs_dd); assumption; walk_at "up")
  | ((with_reducible apply Or.inl); walk_at "up")
  | ((with_reducible apply Or.inr); walk_at "up"))
local macro_rules | `(tactic| walk_at "new") => `(tactic| (
  first
    | refine ⟨L2.size_ok (by rfl), fun p hp => ?_⟩
    | refine fun p hp => ?_
  generalize hX : L2.upd _ p _ = H1
  obtain ⟨e, h⟩ := L2.news hp hX
  clear hX))
local macro_rules | `(tactic| walk_at "o") => `(tactic| first
  | ((with_reducible apply Ev.o_add); walk_at "up"; walk_at "up"; rfl; rfl; rfl)
  | ((with_reducible apply Ev.o_sub); walk_at "up"; walk_at "up"; rfl; rfl; rfl)
  | ((with_reducible apply Ev.o_mul); walk_at "up"; walk_at "up"; rfl; rfl; rfl)
  | ((with_reducible apply Ev.o_addI); walk_at "up"; assumption; rfl; rfl; rfl)
  | ((with_reducible apply Ev.o_subI); walk_at "up"; assumption; rfl; rfl; rfl)
  | ((with_reducible apply Ev.o_mulI); walk_at "up"; assumption; rfl; rfl; rfl)
  | ((with_reducible apply Ev.o_radd); walk_at "up"; assumption; rfl; rfl; rfl)
  | ((with_reducible apply Ev.o_rsub); walk_at "up"; assumption; rfl; rfl; rfl)
  | ((with_reducible apply Ev.o_rmul); walk_at "up"; assumption; rfl; rfl; rfl)
  | ((with_reducible apply Ev.o_neg); walk_at "up"; rfl; rfl; rfl))
local macro_rules | `(tactic| walk_at "eq") => `(tactic| ((with_reducible apply Ev.u_ownB); assumption; walk_at "up"; walk_at "up"; (focus (intro k; first | rfl | exact Pl.e_add | exact Pl.e_sub | exact Pl.e_mul | exact Pl.e_rsub | exact Pl.e_rsub2))))
local macro_rules | `(tactic| walk_at "isp") => `(tactic| (apply Ev.u_isB; walk_at "up"; walk_at "up"; rfl; rfl))

/-! The law of operators. -/
namespace Ev
open PySem PySem.Spec PyProof.Rows L2 LamX Wp
abbrev rfV (a : Addr) : V := V.ref a
/-- a model whose lists are not D -/
def IsMD (D : Addr) (H : Hp) (m : Addr) (B R : List Bool) : Prop := ∃ a b, H m = some (.tup [.ref a, .ref b]) ∧ H a = some (.lst (B.map V.bl)) ∧ H b = some (.lst (R.map V.bl)) ∧ a ≠ D ∧ b ≠ D
theorem IsMD.l {D : Addr} {H H' : Hp} {m : Addr} {B R : List Bool} (e : SameL H H') : IsMD D H m B R → IsMD D H' m B R := fun ⟨a, b, h1, h2, h3, h4⟩ => ⟨a, b, e.tupA h1, e.lst h2, e.lst h3, h4⟩
theorem IsMD.u {D : Addr} {H : Hp} {m : Addr} {B R : List Bool} {xs : List V} {o : HO} (hD : H D = some (.lst xs)) : IsMD D H m B R → IsMD D (upd H D o) m B R := fun ⟨a, b, h1, h2, h3, h4, h5⟩ =>
  ⟨a, b, by rw [upd_ne (fun z => by rw [z, hD] at h1; cases h1)]; exact h1, by rw [upd_ne h4]; exact h2, by rw [upd_ne h5]; exact h3, h4, h5⟩
theorem IsMD.m {D : Addr} {H : Hp} {m : Addr} {B R : List Bool} : IsMD D H m B R → IsM H m B R := fun ⟨a, b, h1, h2, h3, _⟩ => ⟨a, b, h1, h2, h3⟩
theorem lper_mem {B R : List Bool} (h : 0 < R.length) : ∃ p, LPer (mem B R) p ∧ p ∣ R.length := by
  obtain ⟨d, hd⟩ := lp_ex R h
  obtain ⟨s, hs⟩ := st_ex B (R.take d)
  obtain ⟨h1, h2⟩ := nm_made h hd hs
  have e : mem (B.take s) (R.take d) = mem B R := funext h2
  have lp := nm_lper h1
  rw [e] at lp
  exact ⟨_, lp, lp.dvd h mem_per⟩
theorem lcm_le {p q P Q : Nat} (h1 : p ∣ P) (h2 : q ∣ Q) (h3 : 0 < P) (h4 : 0 < Q) (h5 : P * Q ≤ 720) : Nat.lcm p q ≤ 720 :=
  Nat.le_trans (Nat.le_of_dvd (Nat.mul_pos h3 h4) (Nat.lcm_dvd (Nat.dvd_trans h1 (Nat.dvd_mul_right P Q)) (Nat.dvd_trans h2 (Nat.dvd_mul_left Q P)))) h5
section
variable {P : Program} {w : World} {K : PySem.W.Frag} {mg : Str → Option Value} {base : Heap}
def spLaw (K : PySem.W.Frag) (T : List (Addr × Str)) : Sp := fun vs H Q _ => ∃ (a : Addr) (ns : List Int), vs = [.ref a] ∧ ns.length ≤ 63 ∧ SqL K H a (ns.map V.int) ∧ Tabs T H ∧ ∀ H', Q (.bl true) H'
theorem ok_law {C_Where CN CF c Pt : Addr} (L : LawF P w K mg base C_Where CN CF) (TB : TabB base mg c Pt)
    {f : Addr} {oc : Value} {od : Option Addr} {kV doc pm : Value} {an : Option Addr} {ct : Value} {osl : Array (Option Value)}
    (lk : K.lookup f = some ⟨oc, od, .func (PySem.W.fnOf "law" "law" (defArgs (topS 36)) (defBody (topS 36)) (defScope (topS 36)) .none kV doc pm an (.ref c) ct), osl⟩) (hcd : PySem.W.codeIn K (.ref c) "law" = true)
    {T_ : List (Addr × Str)} (G__law_refused : CallF P w K mg base "_law_refused" ["pen"] 16 (spRefused T_)) (hT1 : (Pt, (envOfC "law" (defScope (topS 36)) 0 f (.ref c)).qual ++ "<lambda>") ∈ T_) (hT2 : ∀ p ∈ T_, p.1 = Pt → p.2 = (envOfC "law" (defScope (topS 36)) 0 f (.ref c)).qual ++ "<lambda>") :
    FnOk P w K mg base (L2.CX P w) 22 f (PySem.W.fnOf "law" "law" (defArgs (topS 36)) (defBody (topS 36)) (defScope (topS 36)) .none kV doc pm an (.ref c) ct) ["script"] (spLaw K T_) := by
  have nd := sc_law.nd
  have B := L.B
  have sf_Where := L.sf_Where
  have OO_Where := L.OO_Where
  have ON_Where := L.ON_Where
  have OS_Where := L.OS_Where
  have OX_Where := L.OX_Where
  have OV_Where := L.OV_Where
  have G__law_pen := L.G__law_pen
  have G__law_draw := L.G__law_draw
  have G__law_model := L.G__law_model
  have G__law_is_where := L.G__law_is_where
  have G__law_where := L.G__law_where
  have G__law_joined := L.G__law_joined
  refine fn_of lk hcd sc_law (fun vs H Q E h => ?_) (fun A outer s H vs Q E hr h => ?_)
  · obtain ⟨a, ns, rfl, _⟩ := h
    rfl
  · refine ⟨_, (pss_cons (ps_set (i := 1) nd rfl (.inr rfl) (pe_callF G__law_pen (hr.mono (by decide)) rfl passL (pa_cons (pv 0) pa_nil)))
      (pss_cons (ps_for (passes_of rfl) rfl (pi_range1 rfl B.range (pa_cons (pe_op op_add pe_int (pe_callB (call_min2 rfl) (by rfl) B.min_ (by decide +kernel) (pa_cons pe_int (pa_cons (pe_callB (call_lnK (K := K) rfl) (by rfl) B.len_ (by decide +kernel) (pa_cons (pv 0) pa_nil)) pa_nil)))) pa_nil)) (pg_name (i := 2) nd rfl (.inl rfl)) (pss_cons (ps_asg (pe_lc (own := [("k", 3)]) (g := gName 3) (tt := tYes) rfl nd (pi_range1 rfl B.range (pa_cons pe_int pa_nil)) (blkOk_by (N := ["script", "pen", "turn", "k", "one", "other", "v", "w", "truth"]) (sc := defScope (topS 36)) (by decide +kernel)) (fun _ _ _ _ _ => (pg_name (i := 3) nd rfl (.inl rfl))) (fun _ _ _ _ _ => pts_nil) (fun _ _ _ _ _ => (pe_callF G__law_model (hr.mono (by decide)) rfl passL (pa_cons (pv 1) (pa_cons pe_int (pa_cons (pe_lst (pa_cons pe_int (pa_cons pe_int (pa_cons pe_int (pa_cons pe_int (pa_cons pe_int (pa_cons pe_int (pa_cons pe_int pa_nil)))))))) pa_nil)))))) (pg_unlK (K := K) (n := 2) rfl rfl (pgs_cons (pg_name (i := 4) nd rfl (.inl rfl)) (pgs_cons (pg_name (i := 5) nd rfl (.inl rfl)) pgs_nil))))
      (pss_cons (ps_if (pt_cmpR op_eq (pe_callF G__law_draw (hr.mono (by decide)) rfl passL (pa_cons (pv 1) (pa_cons pe_int pa_nil))) pe_int (nomark _)) (pss_one (ps_set (i := 5) nd rfl (.inl rfl) (pv 4))) pss_nil)
      (pss_cons (ps_par (i := 6) (j := 7) rfl nd rfl rfl (by decide) rfl rfl (pa_cons (pe_callF G__law_where (hr.mono (by decide)) rfl passL (pa_cons (pv 4) pa_nil)) (pa_cons (pe_callF G__law_where (hr.mono (by decide)) rfl passL (pa_cons (pv 5) pa_nil)) pa_nil)) (by rfl))
      (pss_cons (ps_if (pt_not (pt_val (pe_callF G__law_is_where (hr.mono (by decide)) rfl passL (pa_cons (pe_op (op_own2 OO_Where rfl sf_Where (hr.mono (by decide)) passL) (pv 6) (pv 7)) (pa_cons (pe_callF G__law_joined (hr.mono (by decide)) rfl passL (pa_cons (pv 4) (pa_cons (pv 5) (pa_cons (pe_lamC (T := T_) (ls := ["a", "b"]) TB rfl hT1 hT2 rfl (lamC_by (by decide +kernel))) pa_nil)))) pa_nil))))) (pss_one (ps_ret pe_bl)) pss_nil)
      (pss_cons (ps_if (pt_not (pt_val (pe_callF G__law_is_where (hr.mono (by decide)) rfl passL (pa_cons (pe_op (op_own2 ON_Where rfl sf_Where (hr.mono (by decide)) passL) (pv 6) (pv 7)) (pa_cons (pe_callF G__law_joined (hr.mono (by decide)) rfl passL (pa_cons (pv 4) (pa_cons (pv 5) (pa_cons (pe_lamC (T := T_) (ls := ["a", "b"]) TB rfl hT1 hT2 rfl (lamC_by (by decide +kernel))) pa_nil)))) pa_nil))))) (pss_one (ps_ret pe_bl)) pss_nil)
      (pss_cons (ps_if (pt_not (pt_val (pe_callF G__law_is_where (hr.mono (by decide)) rfl passL (pa_cons (pe_op (op_own2 OS_Where rfl sf_Where (hr.mono (by decide)) passL) (pv 6) (pv 7)) (pa_cons (pe_callF G__law_joined (hr.mono (by decide)) rfl passL (pa_cons (pv 4) (pa_cons (pv 5) (pa_cons (pe_lamC (T := T_) (ls := ["a", "b"]) TB rfl hT1 hT2 rfl (lamC_by (by decide +kernel))) pa_nil)))) pa_nil))))) (pss_one (ps_ret pe_bl)) pss_nil)
      (pss_cons (ps_if (pt_not (pt_val (pe_callF G__law_is_where (hr.mono (by decide)) rfl passL (pa_cons (pe_op (op_own2 OX_Where rfl sf_Where (hr.mono (by decide)) passL) (pv 6) (pv 7)) (pa_cons (pe_callF G__law_joined (hr.mono (by decide)) rfl passL (pa_cons (pv 4) (pa_cons (pv 5) (pa_cons (pe_lamC (T := T_) (ls := ["a", "b"]) TB rfl hT1 hT2 rfl (lamC_by (by decide +kernel))) pa_nil)))) pa_nil))))) (pss_one (ps_ret pe_bl)) pss_nil)
      (pss_cons (ps_if (pt_not (pt_val (pe_callF G__law_is_where (hr.mono (by decide)) rfl passL (pa_cons (pe_un (un_invO OV_Where (hr.mono (by decide)) passL) (pv 6)) (pa_cons (pe_tup (pa_cons (pe_lc (own := [("truth", 8)]) (g := gName 8) (tt := tYes) rfl nd (pi_listK (K := K) rfl (pe_ix (ix_tupK (K := K) rfl) (pv 4) pe_int (fun _ _ => rfl))) (blkOk_by (N := ["script", "pen", "turn", "k", "one", "other", "v", "w", "truth"]) (sc := defScope (topS 36)) (by decide +kernel)) (fun _ _ _ _ _ => (pg_name (i := 8) nd rfl (.inl rfl))) (fun _ _ _ _ _ => pts_nil) (fun _ _ _ _ _ => (pe_not (pv 8)))) (pa_cons (pe_lc (own := [("truth", 8)]) (g := gName 8) (tt := tYes) rfl nd (pi_listK (K := K) rfl (pe_ix (ix_tupK (K := K) rfl) (pv 4) pe_int (fun _ _ => rfl))) (blkOk_by (N := ["script", "pen", "turn", "k", "one", "other", "v", "w", "truth"]) (sc := defScope (topS 36)) (by decide +kernel)) (fun _ _ _ _ _ => (pg_name (i := 8) nd rfl (.inl rfl))) (fun _ _ _ _ _ => pts_nil) (fun _ _ _ _ _ => (pe_not (pv 8)))) pa_nil))) pa_nil))))) (pss_one (ps_ret pe_bl)) pss_nil)
      (pss_one (ps_if (PW.pt (pw_or (pt_not (pt_val (pe_callF G__law_is_where (hr.mono (by decide)) rfl passL (pa_cons (pv 6) (pa_cons (pv 4) pa_nil))))) (pw_or (pt_not (pt_val (pe_callF G__law_is_where (hr.mono (by decide)) rfl passL (pa_cons (pv 7) (pa_cons (pv 5) pa_nil))))) (pw_or1 (pt_not (pt_val (pe_callF G__law_refused (hr.mono (by decide)) rfl passL (pa_cons (pv 1) pa_nil)))))))) (pss_one (ps_ret pe_bl)) pss_nil)))))))))))
      (pss_one (ps_ret pe_bl)))), ?_⟩
    obtain ⟨a, ns, rfl, hns, ha, hTabs, q⟩ := h
    refine g_st (σ' := [some (.ref a), none, none, none, none, none, none, none, none]) rfl ?_
    walk_at "gos"
    refine ⟨a, ns, rfl, ha, fun p pc H1 e1 hp1 => ?_⟩
    have hT1' := tabs_d hTabs e1.d
    walk_at "gos"
    refine u_lenL (e1.seq ha) ?_
    rw [List.length_map]
    refine ⟨_, _, rfl, ?_⟩
    walk_at "gos"
    have hj : (0 : Int) ≤ 3 + (if ((ns.length : Int) < 4) then (ns.length : Int) else 4) ∧ 3 + (if ((ns.length : Int) < 4) then (ns.length : Int) else 4) ≤ 7 := by split <;> omega
    generalize 3 + (if ((ns.length : Int) < 4) then (ns.length : Int) else 4) = j at hj ⊢
    refine u_rng (by omega) (by omega) ?_
    refine for_it walk_range (fun i σ' H' => Pen H' p pc (5000 * i) ∧ Tabs T_ H' ∧ ∃ x2 x3 x4 x5 x6 x7 x8, σ' = [some (.ref a), some (.ref p), x2, x3, x4, x5, x6, x7, x8]) ?_ (fun _ _ _ _ _ => trivial) (fun i y σ' H' H0 hi q2 hy' => ?_) (fun σ' H' q2 => ?_)
    · exact ⟨hp1, hT1', none, none, none, none, none, none, none, rfl⟩
    · obtain ⟨hp, hTb, x2, x3, x4, x5, x6, x7, x8, rfl⟩ := q2
      obtain ⟨rfl, rfl⟩ := hy'
      clear hp1 e1 ha hTabs hT1'
      walk_at "gos"
      refine u_rng (by omega) (by omega) fun D hD => ?_
      refine lc_it walk_range (fun t H' => Pen H' p pc (5000 * i + 1014 * t) ∧ Tabs T_ H' ∧ ∃ ms : List Addr, H' D = some (.lst (ms.map rfV)) ∧ ms.length = t ∧ ∀ m, m ∈ ms → ∃ Bm Rm, IsMD D H' m Bm Rm ∧ 0 < Rm.length ∧ Rm.length ≤ 12 ∧ Bm.length ≤ 12) ?_ (fun _ _ _ _ => trivial) (fun t x H4 H5 ht q2 y => ?_) (fun H4 q2 => ?_)
      · exact ⟨hp.same (same_new hD), hTb.ext (same_new hD), [], upd_same, rfl, fun m h => by cases h⟩
      · obtain ⟨hp4, hT4, ms, hms, hml, hmm⟩ := q2
        obtain ⟨rfl, rfl⟩ := y
        walk_at "gos"
        refine ⟨rfl, ?_⟩
        walk_at "gos"
        (walk_at "new"; rename_i z1 _ H6 e6 h6; walk_at "gos")
        have hti : t < 2 := by omega
        refine ⟨p, pc, z1, 12, _, [1, 2, 3, 4, 6, 12, 5], rfl, hp4.same e6, by omega, by omega, sqL h6, by decide, by decide, by decide, fun md Bm Rm H7 ⟨ma, mb, hmd, fa, fb⟩ e7 hp7 hM hBl hRl => ?_⟩
        have hR : 0 < Rm.length ∧ Rm.length ≤ 12 := by
          obtain ⟨z, hz, hzl⟩ := hRl
          simp at hz
          omega
        walk_at "gos"
        have hms6 := e6 _ _ hms
        have hms7 := e7.lst hms6
        obtain ⟨ma', mb', hmd', hA, hB⟩ := hM
        rw [hmd] at hmd'
        cases hmd'
        refine ⟨_, hms7, by rw [sizeLine_eq, List.length_map]; omega, ?_, ?_, ms ++ [md], by rw [upd_same, List.map_append]; rfl, by rw [List.length_append, hml]; rfl, fun m hm => ?_⟩
        · exact (hp7.mono (by omega)).upd (hp.ne hD).1 (hp.ne hD).2
        · exact tabs_upd (tabs_d (hT4.ext e6) e7) hms7
        · rcases List.mem_append.mp hm with h | h
          · obtain ⟨B2, R2, h1, h2⟩ := hmm m h
            exact ⟨B2, R2, (h1.l (e6.l.trans e7.l)).u hms7, h2⟩
          · rw [List.mem_singleton.mp h]
            exact ⟨Bm, Rm, IsMD.u hms7 ⟨ma, mb, hmd, hA, hB, fa.ne hms6, fb.ne hms6⟩, hR.1, hR.2, hBl⟩
      obtain ⟨hp4, hT4, ms, hms, hml, hmm⟩ := q2
      have hml2 : ms.length = 2 := hml
      obtain ⟨m0, m1, rfl⟩ : ∃ m0 m1, ms = [m0, m1] := by
        match ms, hml2 with
        | [m0, m1], _ => exact ⟨m0, m1, rfl⟩
      obtain ⟨B0, R0, hM0, hR00, hR01, hB0⟩ := hmm m0 (by simp)
      obtain ⟨B1, R1, hM1, hR10, hR11, hB1⟩ := hmm m1 (by simp)
      have hp5 : Pen H4 p pc (5000 * i + 2028) := hp4.mono (show 5000 * i + 1014 * 2 ≤ 5000 * i + 2028 by omega)
      replace hM0 := hM0.m
      replace hM1 := hM1.m
      have hms4 : H4 D = some (.lst [.ref m0, .ref m1]) := hms
      clear hms hml hml2 hmm hp4 hp hD hTb
      refine g_unl (sqL hms4) rfl ?_
      walk_at "gou"
      ((with_reducible change tSeq _ _ _ _ _); refine L2.g_cutS (fun σ' H' => Pen H' p pc (5000 * i + 2040) ∧ Tabs T_ H' ∧ IsM H' m0 B0 R0 ∧ ∃ m2 B2 R2, IsM H' m2 B2 R2 ∧ 0 < R2.length ∧ R2.length ≤ 12 ∧ B2.length ≤ 12 ∧ ∃ z3 z6 z7 z8, σ' = [some (.ref a), some (.ref p), some (.int (0 + (i : Int))), z3, some (.ref m0), some (.ref m2), z6, z7, z8]) (fun nx hnx => ?_) (fun σ' H6 hR6 => ?_))
      · walk_at "gos"
        refine ⟨p, pc, _, _, rfl, hp5, by omega, by decide, by decide, fun d5 H5 _ _ e5 hp6 => ?_⟩
        walk_at "gos"
        refine g_itd (fun hw => ?_) (fun hw => ?_)
        · walk_at "gos"
          exact hnx _ _ ⟨hp6.mono (by omega), tabs_d hT4 e5, hM0.l e5.l, m0, B0, R0, hM0.l e5.l, hR00, hR01, hB0, _, _, _, _, rfl⟩
        · walk_at "gos"
          exact hnx _ _ ⟨hp6.mono (by omega), tabs_d hT4 e5, hM0.l e5.l, m1, B1, R1, hM1.l e5.l, hR10, hR11, hB1, _, _, _, _, rfl⟩
      obtain ⟨hp6, hT6, hM6, m2, B2, R2, hN6, hS0, hS1, hS2, z3, z6, z7, z8, rfl⟩ := hR6
      clear hp5 hT4 hM0 hM1 hms4 hR10 hR11 hB1
      walk_at "gos"
      refine ⟨m0, B0, R0, rfl, hM6, hR00, by omega, by omega, fun w1 H7 e7 hw1 => ?_⟩
      walk_at "gos"
      refine ⟨m2, B2, R2, rfl, hN6.l e7.l, hS0, by omega, by omega, fun w2 H8 e8 hw2 => ?_⟩
      have bnd1 : Bnd (mem B0 R0) := ⟨B0, R0, hR00, by omega, by omega, fun _ => rfl⟩
      have bnd2 : Bnd (mem B2 R2) := ⟨B2, R2, hS0, by omega, by omega, fun _ => rfl⟩
      obtain ⟨p1, lp1, dp1⟩ := lper_mem (B := B0) hR00
      obtain ⟨p2, lp2, dp2⟩ := lper_mem (B := B2) hS0
      have hlcm : Nat.lcm p1 p2 ≤ 720 := lcm_le dp1 dp2 hR00 hS0 (Nat.le_trans (Nat.mul_le_mul hR01 hS1) (by decide))
      have hS := (hT6.ext e7).ext e8
      have hP := (hp6.same e7).same e8
      have hM := hM6.l (e7.trans e8).l
      have hN := hN6.l (e7.trans e8).l
      have wb1 : WFb K H8 w1 C_Where (mem B0 R0) := ⟨hw1.l e8.l, bnd1⟩
      have wb2 : WFb K H8 w2 C_Where (mem B2 R2) := ⟨hw2, bnd2⟩
      clear hp6 hT6 hM6 hN6 e7 e8 hw1 hw2
      walk_at "gos"
      -- OO
      refine u_opW wb1 wb2 lp1 lp2 (fun _ z Ha ea hz => ?_) fun hl => absurd hl (by omega)
      walk_at "gos"
      refine ⟨hS.ext ea, fun Hb lf lc eb hTb hlf hlc => ?_⟩
      have eab := ea.l.trans (extN_l eb)
      have hB : LamB P w K mg base Hb lf (fun b c => b || c) := by
        refine ⟨_, _, _, _, lc, ["a", "b"], _, hlf, hlc, lamC_by (by decide +kernel), rfl, fun pm cv ctv us hl => (match us, hl with | [_, _], _ => rfl), fun A outer s H => (pe_or (pv 0) (pe_one (pv 1))), fun b c H Q hq => ?_⟩
        cases b <;> cases c
        all_goals
          walk_at "gos"
          first | exact hq | exact ⟨rfl, by simpa using hq⟩
      walk_at "gos"
      refine ⟨m0, m2, lf, B0, R0, B2, R2, _, rfl, hM.l eab, hN.l eab, hR00, hS0, by omega, by omega, by omega, by omega, hB, fun md B3 R3 Hc ec hM3 hR3 hR4 hB3 hm3 => ?_⟩
      walk_at "gos"
      refine ⟨z, md, B3, R3, _, rfl, (hz.l ((extN_l eb).trans ec.l)).1, hM3, hR3, by omega, by omega, hm3, fun Hd ed => ?_⟩
      have ead := eab.trans (ec.trans ed).l
      replace hS := (hTb.ext ec).ext ed
      replace hP := (((hP.same ea).extN eb).same ec).same ed
      replace hM := hM.l ead
      replace hN := hN.l ead
      replace wb1 := wb1.l ead
      replace wb2 := wb2.l ead
      clear ea hz eb hTb hlf hlc eab hB ec hM3 hR3 hR4 hB3 hm3 ed ead
      walk_at "gos"
      -- ON
      refine u_opW wb1 wb2 lp1 lp2 (fun _ z Ha ea hz => ?_) fun hl => absurd hl (by omega)
      walk_at "gos"
      refine ⟨hS.ext ea, fun Hb lf lc eb hTb hlf hlc => ?_⟩
      have eab := ea.l.trans (extN_l eb)
      have hB : LamB P w K mg base Hb lf (fun b c => b && c) := by
        refine ⟨_, _, _, _, lc, ["a", "b"], _, hlf, hlc, lamC_by (by decide +kernel), rfl, fun pm cv ctv us hl => (match us, hl with | [_, _], _ => rfl), fun A outer s H => (pe_and (pv 0) (pe_one (pv 1))), fun b c H Q hq => ?_⟩
        cases b <;> cases c
        all_goals
          walk_at "gos"
          first | exact hq | exact ⟨rfl, by simpa using hq⟩
      walk_at "gos"
      refine ⟨m0, m2, lf, B0, R0, B2, R2, _, rfl, hM.l eab, hN.l eab, hR00, hS0, by omega, by omega, by omega, by omega, hB, fun md B3 R3 Hc ec hM3 hR3 hR4 hB3 hm3 => ?_⟩
      walk_at "gos"
      refine ⟨z, md, B3, R3, _, rfl, (hz.l ((extN_l eb).trans ec.l)).1, hM3, hR3, by omega, by omega, hm3, fun Hd ed => ?_⟩
      have ead := eab.trans (ec.trans ed).l
      replace hS := (hTb.ext ec).ext ed
      replace hP := (((hP.same ea).extN eb).same ec).same ed
      replace hM := hM.l ead
      replace hN := hN.l ead
      replace wb1 := wb1.l ead
      replace wb2 := wb2.l ead
      clear ea hz eb hTb hlf hlc eab hB ec hM3 hR3 hR4 hB3 hm3 ed ead
      walk_at "gos"
      -- OS
      refine u_opW wb1 wb2 lp1 lp2 (fun _ z Ha ea hz => ?_) fun hl => absurd hl (by omega)
      walk_at "gos"
      refine ⟨hS.ext ea, fun Hb lf lc eb hTb hlf hlc => ?_⟩
      have eab := ea.l.trans (extN_l eb)
      have hB : LamB P w K mg base Hb lf (fun b c => b && !c) := by
        refine ⟨_, _, _, _, lc, ["a", "b"], _, hlf, hlc, lamC_by (by decide +kernel), rfl, fun pm cv ctv us hl => (match us, hl with | [_, _], _ => rfl), fun A outer s H => (pe_and (pv 0) (pe_one (pe_not (pv 1)))), fun b c H Q hq => ?_⟩
        cases b <;> cases c
        all_goals
          walk_at "gos"
          first | exact hq | exact ⟨rfl, by simpa using hq⟩
      walk_at "gos"
      refine ⟨m0, m2, lf, B0, R0, B2, R2, _, rfl, hM.l eab, hN.l eab, hR00, hS0, by omega, by omega, by omega, by omega, hB, fun md B3 R3 Hc ec hM3 hR3 hR4 hB3 hm3 => ?_⟩
      walk_at "gos"
      refine ⟨z, md, B3, R3, _, rfl, (hz.l ((extN_l eb).trans ec.l)).1, hM3, hR3, by omega, by omega, hm3, fun Hd ed => ?_⟩
      have ead := eab.trans (ec.trans ed).l
      replace hS := (hTb.ext ec).ext ed
      replace hP := (((hP.same ea).extN eb).same ec).same ed
      replace hM := hM.l ead
      replace hN := hN.l ead
      replace wb1 := wb1.l ead
      replace wb2 := wb2.l ead
      clear ea hz eb hTb hlf hlc eab hB ec hM3 hR3 hR4 hB3 hm3 ed ead
      walk_at "gos"
      -- OX
      refine u_opW wb1 wb2 lp1 lp2 (fun _ z Ha ea hz => ?_) fun hl => absurd hl (by omega)
      walk_at "gos"
      refine ⟨hS.ext ea, fun Hb lf lc eb hTb hlf hlc => ?_⟩
      have eab := ea.l.trans (extN_l eb)
      have hB : LamB P w K mg base Hb lf (fun b c => b != c) := by
        refine ⟨_, _, _, _, lc, ["a", "b"], _, hlf, hlc, lamC_by (by decide +kernel), rfl, fun pm cv ctv us hl => (match us, hl with | [_, _], _ => rfl), fun A outer s H => (pe_cmpR op_ne (pv 0) (pv 1) (nomark _)), fun b c H Q hq => ?_⟩
        cases b <;> cases c
        all_goals
          walk_at "gos"
          first | exact hq | exact ⟨rfl, by simpa using hq⟩
      walk_at "gos"
      refine ⟨m0, m2, lf, B0, R0, B2, R2, _, rfl, hM.l eab, hN.l eab, hR00, hS0, by omega, by omega, by omega, by omega, hB, fun md B3 R3 Hc ec hM3 hR3 hR4 hB3 hm3 => ?_⟩
      walk_at "gos"
      refine ⟨z, md, B3, R3, _, rfl, (hz.l ((extN_l eb).trans ec.l)).1, hM3, hR3, by omega, by omega, hm3, fun Hd ed => ?_⟩
      have ead := eab.trans (ec.trans ed).l
      replace hS := (hTb.ext ec).ext ed
      replace hP := (((hP.same ea).extN eb).same ec).same ed
      replace hM := hM.l ead
      replace hN := hN.l ead
      replace wb1 := wb1.l ead
      replace wb2 := wb2.l ead
      clear ea hz eb hTb hlf hlc eab hB ec hM3 hR3 hR4 hB3 hm3 ed ead
      walk_at "gos"
      -- the opposite
      obtain ⟨bl, rl, ⟨dx, t1, t2, hx, _⟩, _⟩ := id wb1.1
      refine ⟨w1, dx, _, rfl, hx, w1, _, rfl, wb1, fun z Ha ea hz => ?_⟩
      have hMa := hM.l ea.l
      obtain ⟨a1, b1, hm1, ha1, hb1⟩ := id hMa
      have hall : ∀ l : List Bool, (given l.length (fun _ => true) fun k => V.bl (!bt l k)) = (l.map (!·)).map V.bl := fun l => by
        rw [given_all]
        refine List.ext_getElem (by simp) fun i g1 g2 => ?_
        simp only [List.getElem_map, List.getElem_range]
        rw [bt_in (by simpa using g2)]
      walk_at "gos"
      refine u_ixT (sqT hm1) (v := .ref a1) rfl ?_
      refine u_it (sqL ha1) fun D1 hD1 => ?_
      refine lc_it walk_list (PvL Ha D1 (fun _ => true) (fun k => .bl (!bt B0 k))) (lc_start hD1) (fun _ _ _ p => p.1.seq (sqL ha1)) (fun k y H3 H4 hi pv q6 => ?_) (fun Hb pv => ?_)
      · obtain ⟨rfl, q6⟩ := q6
        rw [List.length_map] at hi
        rw [atB hi] at q6
        obtain rfl := Option.some.inj q6
        walk_at "gos"
        refine ⟨rfl, ?_⟩
        walk_at "gos"
        exact lc_yes hD1 pv (Same.refl _) rfl rfl (by omega)
      obtain ⟨eb, hb⟩ := pv
      rw [List.length_map, hall] at hb
      walk_at "gos"
      refine u_ixT (sqT (eb _ _ hm1)) (v := .ref b1) rfl ?_
      refine u_it (sqL (eb _ _ hb1)) fun D2 hD2 => ?_
      refine lc_it walk_list (PvL Hb D2 (fun _ => true) (fun k => .bl (!bt R0 k))) (lc_start hD2) (fun _ _ _ p => (eb.trans p.1).seq (sqL hb1)) (fun k y H3 H4 hi pv q6 => ?_) (fun Hc pv => ?_)
      · obtain ⟨rfl, q6⟩ := q6
        rw [List.length_map] at hi
        rw [atB hi] at q6
        obtain rfl := Option.some.inj q6
        walk_at "gos"
        refine ⟨rfl, ?_⟩
        walk_at "gos"
        exact lc_yes hD2 pv (Same.refl _) rfl rfl (by omega)
      obtain ⟨ec, hc⟩ := pv
      rw [List.length_map, hall] at hc
      (walk_at "new"; rename_i td _ Hd ed hd; walk_at "gos")
      have ead := ea.trans (eb.trans (ec.trans ed))
      refine ⟨z, td, B0.map (!·), R0.map (!·), _, rfl, (hz.l (eb.trans (ec.trans ed)).l).1, ⟨D1, D2, hd, ed _ _ (ec _ _ hb), ed _ _ hc⟩, by rw [List.length_map]; exact hR00, by rw [List.length_map]; omega, by rw [List.length_map]; omega, mem_not hR00, fun He ee => ?_⟩
      replace ead := ead.trans ee
      walk_at "gos"
      refine ⟨w1, m0, B0, R0, _, rfl, (wb1.l ead.l).1, hM.l ead.l, hR00, by omega, by omega, fun _ => rfl, fun Hf ef => ?_⟩
      replace ead := ead.trans ef
      walk_at "gos"
      refine ⟨w2, m2, B2, R2, _, rfl, (wb2.l ead.l).1, hN.l ead.l, hS0, by omega, by omega, fun _ => rfl, fun Hg eg => ?_⟩
      replace ead := ead.trans eg
      walk_at "gos"
      refine ⟨p, pc, _, rfl, hP.same ead, by omega, hS.ext ead, fun Hh eh hp9 hT9 => ?_⟩
      walk_at "gos"
      exact ⟨hp9.mono (by omega), hT9, _, _, _, _, _, _, _, rfl⟩
    · obtain ⟨hp, hTb, x2, x3, x4, x5, x6, x7, x8, rfl⟩ := q2
      walk_at "gos"
      exact q _
end
end Ev

end
/-! The written part's facts, put together. -/
namespace L2
open PySem PySem.Spec PyProof.Rows PySem.W PySem.SupX
/-- the __init__ of an exception: super().__init__(text), then its fields -/
structure ExS (S : Stmt) (fs : List Str) (l : List (Str × Pos × Pos × Pos × Pos)) (tx : Str) (j : Nat) (p0 p1 p2 p3 p4 p5 : Pos) (ar : Arg) : Prop where
  body : defBody S = .Expr (.Call (.Attribute (.Call (.Name "super" p0) [] [] p1) "__init__" p2) [.Constant (.str tx) j p3] [] p4) p5 :: l.map mkStore
  names : l.map (·.1) = fs
  head : ((defArgs S).posonlyargs ++ (defArgs S).args).head? = some ar
  ar : ar.arg = "self"
  kind : (defScope S).kind = .function
  co : (defScope S).isCoroutine = false
  gen : (defScope S).isGenerator = false
  nocell : (defScope S).names.all (fun x => !decide (x.2 = .cell)) = true
  loc : (("self" : Str) :: fs).all (fun y => decide ((defScope S).names.lookup y = some .local)) = true
  dbg : fs.all (fun y => !(y == ("__debug__" : Str))) = true
  sup : (defScope S).names.lookup ("super" : Str) = some .globalImplicit
  cls : (defScope S).names.lookup ("__class__" : Str) = some .free
  nd : (("self" : Str) :: fs).Nodup
  ev : ∀ (qual : Str) (fI cda cc : Addr), ∃ pl : Addr → Sem Bool, ∀ L : Addr, eval (.Call (.Attribute (.Call (.Name "super" p0) [] [] p1) "__init__" p2) [.Constant (.str tx) j p3] [] p4) (ksEnv qual (defScope S) L fI (.ref cda) cc) = (do
      let ov ← attributeBase (.Call (.Name "super" p0) [] [] p1) "__init__" (ksEnv qual (defScope S) L fI (.ref cda) cc) (eval (.Call (.Name "super" p0) [] [] p1) (ksEnv qual (defScope S) L fI (.ref cda) cc))
      standAt p2.atName
      let (f, first) ← holding [ov] (getMethod ov "__init__" (pl L))
      callWith p4 f first (backTo p4 (starEach [Expr.Constant (.str tx) j p3] (ksEnv qual (defScope S) L fI (.ref cda) cc))) [])
theorem ext_of {prog : Program} {K : Frag} {h : Heap} {mg : Str → Option Value} {x : Str} {C fI cc cda : Addr} {fs : List Str} {S : Stmt} {l : List (Str × Pos × Pos × Pos × Pos)} {tx : Str} {j : Nat} {p0 p1 p2 p3 p4 p5 : Pos} {ar : Arg}
    (KX : K.In h) (G : h.Ns mainGlobals mg) (md : SupMod prog K mg) (E : ExS S fs l tx j p0 p1 p2 p3 p4 p5 ar) {qual : Str}
    (hbind : ∀ (doc pm ct : Value) (an : Option Addr) (us : List Value), us.length = (("self" : Str) :: fs).length → bindArgs (ksFn "__init__" qual (defArgs S) (defBody S) (defScope S) .none .none doc pm an (.ref cda) ct cc) ⟨us, []⟩ = pure ((("self" : Str) :: fs).zip us))
    (n : nsIn K mainGlobals x = some (some (.ref C))) {nm q : Str} {N : Addr} {bs bm : List Value} {sn : List Str} {sub : List Value} {ab : Bool} {col : Option Bool} {dd : Option Addr} {k0 k1 k2 k3 k5 : Option Value}
    (hc : K.lookup C = some (excClassObj nm q C N bs bm true sn sub ab col dd k0 k1 k2 k3 k5 "ValueError.__new__")) (hbm : PySem.HandSPX.refsVE bm = true) (sa : findIn K (.ref C) "__setattr__" = some (some (.builtin "object.__setattr__")))
    (x1 : findIn K (.ref C) "__getattribute__" = some (some (.builtin "BaseException.__getattribute__"))) (x2 : findIn K (.ref C) "__getattr__" = some none) (x3 : subIn K (.ref C) (.type "BaseException") = some true) (x4 : hasDictIn K C = true)
    (iC : findIn K (.ref C) "__init__" = some (some (.ref fI))) (tI : typeIn K (.ref fI) = some (.type "function")) (kC : keepIn K (.ref C) = true) (tyC : typeIn K (.ref C) = some (.type "type")) (noF : ∀ f ∈ fs, findIn K (.ref C) f = some none)
    (self : mroIn K C (.ref C) = some true) (hB : subIn K (.ref C) (.type "ValueError") = some true) (sup : ks_superIn K C C "__init__" = some (some (.builtin "ValueError.__init__")))
    {oc : Value} {od : Option Addr} {osl : Array (Option Value)} {doc pm ct : Value} {an : Option Addr}
    (lI : K.lookup fI = some ⟨oc, od, .func (ksFn "__init__" qual (defArgs S) (defBody S) (defScope S) .none .none doc pm an (.ref cda) ct cc), osl⟩) (cI : codeIn K (.ref cda) qual = true)
    {cl : Value} {cld : Option Addr} {csl : Array (Option Value)} (cell : K.lookup cc = some ⟨cl, cld, .cell (some (.ref C)), csl⟩)
    {ccl : Value} {cdd : Option Addr} {vs : Array Value} {ccs : Array (Option Value)} {file : Str} {tf : Tok} (code : K.lookup cda = some ⟨ccl, cdd, .fields vs, ccs⟩) (hvs : vs[2]? = some (.str file tf)) (hfile : ((prog.main.file : Str) == file) = true) (hle : fs.length ≤ 900) :
    ExT prog K mg x C fs := by
  have hb : defBody S = _ := E.body
  refine ⟨⟨fI, cc, cda, ⟨mg_of KX G n, ⟨nm, q, N, bs, bm, sn, sub, ab, col, dd, k0, k1, k2, k3, k5, hc, hbm⟩, sa, ⟨x1, x2, x3, x4⟩, iC, tI, kC, tyC, noF, self, hB, sup, ⟨ccl, cdd, vs, ccs, file, tf, code, hvs, hfile⟩, ⟨cl, cld, csl, cell⟩⟩,
    ⟨oc, od, osl, qual, defArgs S, defScope S, doc, pm, ct, an, l, tx, j, p0, p1, p2, p3, p4, p5, ar, by rw [← hb]; exact lI, cI, E.names, E.head, E.ar, E.kind, E.co, E.gen, ?_, ?_, ?_, E.sup, E.cls, E.nd, ?_, E.ev _ _ _ _⟩⟩, md, (List.nodup_cons.mp E.nd).2, hle⟩
  · intro y hy
    have := List.all_eq_true.mp E.nocell y hy
    simpa using this
  · intro y hy
    have := List.all_eq_true.mp E.loc y hy
    simpa using this
  · intro y hy
    have := List.all_eq_true.mp E.dbg y hy
    simpa using this
  · intro us hl
    rw [← hb]
    exact hbind doc pm ct an us hl
theorem exm_of {K : Frag} {C : Addr} {cls : Value} {b : Bool} {cd : ClassData} (h1 : subIn K (.ref C) (.type "BaseException") = some true) (h2 : clsIn K C = some cd) (h3 : typeIn K (.ref C) = some (.type "type")) (h4 : subIn K cls (.ref C) = some b) : exmOne K cls (.ref C) = some b := by
  unfold exmOne
  rw [h1, if_pos (by simp)]
  show (if ((clsIn K C).isSome && typeIn K (.ref C) == some (.type "type")) = true then subIn K cls (.ref C) else none) = some b
  rw [h2, h3, if_pos (by simp), h4]
theorem kit_self {K : Frag} {C : Addr} : kitOne K (.ref C) (.ref C) = some true := by unfold kitOne; rw [if_pos (by simp)]
theorem codeHd_of {K : Frag} {h : Heap} {c P : Addr} {cd : Option Addr} {vs : Array Value} {sl : Array (Option Value)} (KX : K.In h) (l : K.lookup c = some ⟨.type "code", cd, .fields vs, sl⟩) {file : Str} {tf tg tt : Tok} {flags text : Int} {inF : Bool}
    (h1 : vs[11]? = some (.ref P)) (h2 : vs.getD 18 .none = .str file tf) (h3 : vs.getD 7 .none = .int flags tg) (h4 : vs.getD 9 .none = .bool inF) (h5 : vs.getD 10 .none = .int text tt) (hne : (c != P) = true) : CodeHd h c P :=
  ⟨_, vs, file, tf, flags, tg, inF, text, tt, KX _ _ l, rfl, rfl, h1, by rw [Array.getD_eq_getD_getElem?, h1]; rfl, h2, h3, h4, h5, by simpa using hne⟩
theorem bn_of {K : Frag} {h : Heap} {mg : Str → Option Value} (KX : K.In h) (G : h.Ns mainGlobals mg) (h1 : nsIn K mainGlobals "len" = some none) (h2 : nsIn K mainGlobals "range" = some none) (h3 : nsIn K mainGlobals "int" = some none) (h4 : nsIn K mainGlobals "bool" = some none)
    (h5 : nsIn K mainGlobals "str" = some none) (h6 : nsIn K mainGlobals "list" = some none) (h7 : nsIn K mainGlobals "tuple" = some none) (h8 : nsIn K mainGlobals "set" = some none) (h9 : nsIn K mainGlobals "abs" = some none) (h10 : nsIn K mainGlobals "min" = some none)
    (h11 : nsIn K mainGlobals "max" = some none) (h12 : nsIn K mainGlobals "sum" = some none) (h13 : nsIn K mainGlobals "any" = some none) (h14 : nsIn K mainGlobals "all" = some none) (h15 : nsIn K mainGlobals "sorted" = some none) (h16 : nsIn K mainGlobals "isinstance" = some none)
    (h17 : nsIn K mainGlobals "enumerate" = some none) (h18 : nsIn K mainGlobals "reversed" = some none) (h19 : nsIn K mainGlobals "zip" = some none) : Bn mg :=
  ⟨mg_none_of KX G h1, mg_none_of KX G h2, mg_none_of KX G h3, mg_none_of KX G h4, mg_none_of KX G h5, mg_none_of KX G h6, mg_none_of KX G h7, mg_none_of KX G h8, mg_none_of KX G h9, mg_none_of KX G h10, mg_none_of KX G h11, mg_none_of KX G h12, mg_none_of KX G h13, mg_none_of KX G h14, mg_none_of KX G h15, mg_none_of KX G h16, mg_none_of KX G h17, mg_none_of KX G h18, mg_none_of KX G h19⟩
end L2

/-! a law without code tables; its defs may raise within -/
namespace L2
open PySem PySem.Spec PyProof.Rows
theorem walk_ofKX {l : PySem.W.OpenLaw} {n k : Nat} {q : Program} {loose : List Str} {XP : (Str → Option Value) → Heap → Prop} {YP : World → Heap → Prop} {d : DefRec} {K : Params → PySem.W.Frag} {sp : PySem.W.Frag → Sp} {x : Str} {pr : Program}
    (most : l.most = some n) (line : n ≤ sizeLine) (nodef : d.params.defaults = []) (room : Room k callerA) (part : ∀ (w : World) (h : Heap), YP w h → (K w.params).In h)
    (main : ∀ (w : World) (mg : Str → Option Value) (fa : Addr) (h : Heap), (K w.params).In h → h.Ns mainGlobals mg → mg d.name = some (.ref fa) →
      ∃ fd : FuncData, (∀ (s : Shared) (u : Value), BindsTo s fd ⟨[u], []⟩ [(x, u)]) ∧ ∀ base : Heap, (K w.params).In base → base.Ns mainGlobals mg → FnOk l.prog w (K w.params) mg base (L2.CX pr w) k fa fd [x] (sp (K w.params)))
    (start : ∀ (K : PySem.W.Frag) (H : Hp) (a : Addr) (ns : List Int), ns.length ≤ n → SqL K H a (ns.map V.int) → sp K [.ref a] H (fun v _ => v = .bl true) fun _ _ _ => False) : PySem.W.WalkO q loose XP YP l.row.toRowW d [] (fun f vs => PySem.call f vs) :=
  walk_of (K := K) (CX := fun w => L2.CX pr w) (sp := fun w => sp (K w.params)) most line nodef room part main (fun w H a ns hl _ hs => start (K w.params) H a ns hl hs)
    fun w H s e s' z => by
      obtain ⟨_, _, _, _, _, _, _, _, _, _, _, _, no⟩ := z
      exact no.elim
end L2

/-! The end: the written part's facts, the law. -/
namespace Ev
open PySem PySem.Spec PyProof.Rows PySem.W L2 LamX Pl
abbrev topP : Program := PySem.Challenge.pw_everyfloor_k12_whole_operators_of_sets
theorem exs_BadNumber : ∃ l tx j p0 p1 p2 p3 p4 p5 ar, ExS (inClass (topS 4) 0) ["number"] l tx j p0 p1 p2 p3 p4 p5 ar := ⟨[("number", _, _, _, _)], _, _, _, _, _, _, _, _, _, ⟨rfl, rfl, rfl, rfl, rfl, rfl, rfl, by decide +kernel, by decide +kernel, by decide +kernel, by decide +kernel, by decide +kernel, by decide +kernel, fun _ _ _ _ => ⟨_, fun _ => rfl⟩⟩⟩
theorem exs_BadTruth : ∃ l tx j p0 p1 p2 p3 p4 p5 ar, ExS (inClass (topS 5) 0) ["index"] l tx j p0 p1 p2 p3 p4 p5 ar := ⟨[("index", _, _, _, _)], _, _, _, _, _, _, _, _, _, ⟨rfl, rfl, rfl, rfl, rfl, rfl, rfl, by decide +kernel, by decide +kernel, by decide +kernel, by decide +kernel, by decide +kernel, by decide +kernel, fun _ _ _ _ => ⟨_, fun _ => rfl⟩⟩⟩
theorem exs_TooFine : ∃ l tx j p0 p1 p2 p3 p4 p5 ar, ExS (inClass (topS 7) 0) ["most"] l tx j p0 p1 p2 p3 p4 p5 ar := ⟨[("most", _, _, _, _)], _, _, _, _, _, _, _, _, _, ⟨rfl, rfl, rfl, rfl, rfl, rfl, rfl, by decide +kernel, by decide +kernel, by decide +kernel, by decide +kernel, by decide +kernel, by decide +kernel, fun _ _ _ _ => ⟨_, fun _ => rfl⟩⟩⟩
theorem exs_TooLate : ∃ l tx j p0 p1 p2 p3 p4 p5 ar, ExS (inClass (topS 8) 0) ["most"] l tx j p0 p1 p2 p3 p4 p5 ar := ⟨[("most", _, _, _, _)], _, _, _, _, _, _, _, _, _, ⟨rfl, rfl, rfl, rfl, rfl, rfl, rfl, by decide +kernel, by decide +kernel, by decide +kernel, by decide +kernel, by decide +kernel, by decide +kernel, fun _ _ _ _ => ⟨_, fun _ => rfl⟩⟩⟩
theorem join {w : World} {K : Frag} {h : Heap} {mg : Str → Option Value} {fa : Addr} (KX : K.In h) (G : h.Ns mainGlobals mg) (hmg : mg "law" = some (.ref fa))
    {a_is_integer : Addr} (n_is_integer : nsIn K mainGlobals "is_integer" = some (some (.ref a_is_integer)))
    {oc_is_integer kV_is_integer doc_is_integer pm_is_integer cdv_is_integer ct_is_integer : Value} {od_is_integer an_is_integer : Option Addr} {osl_is_integer : Array (Option Value)} (l_is_integer : K.lookup a_is_integer = some ⟨oc_is_integer, od_is_integer, .func (fnOf "is_integer" "is_integer" (defArgs (topS 10)) (defBody (topS 10)) (defScope (topS 10)) .none kV_is_integer doc_is_integer pm_is_integer an_is_integer cdv_is_integer ct_is_integer), osl_is_integer⟩)
     (c_is_integer : codeIn K cdv_is_integer "is_integer" = true)
     (k_is_integer : keepIn K (.ref a_is_integer) = true)
    {a_is_place : Addr} (n_is_place : nsIn K mainGlobals "is_place" = some (some (.ref a_is_place)))
    {oc_is_place kV_is_place doc_is_place pm_is_place cdv_is_place ct_is_place : Value} {od_is_place an_is_place : Option Addr} {osl_is_place : Array (Option Value)} (l_is_place : K.lookup a_is_place = some ⟨oc_is_place, od_is_place, .func (fnOf "is_place" "is_place" (defArgs (topS 11)) (defBody (topS 11)) (defScope (topS 11)) .none kV_is_place doc_is_place pm_is_place an_is_place cdv_is_place ct_is_place), osl_is_place⟩)
     (c_is_place : codeIn K cdv_is_place "is_place" = true)
     (k_is_place : keepIn K (.ref a_is_place) = true)
    {a_common_divisor : Addr} (n_common_divisor : nsIn K mainGlobals "common_divisor" = some (some (.ref a_common_divisor)))
    {oc_common_divisor kV_common_divisor doc_common_divisor pm_common_divisor cdv_common_divisor ct_common_divisor : Value} {od_common_divisor an_common_divisor : Option Addr} {osl_common_divisor : Array (Option Value)} (l_common_divisor : K.lookup a_common_divisor = some ⟨oc_common_divisor, od_common_divisor, .func (fnOf "common_divisor" "common_divisor" (defArgs (topS 12)) (defBody (topS 12)) (defScope (topS 12)) .none kV_common_divisor doc_common_divisor pm_common_divisor an_common_divisor cdv_common_divisor ct_common_divisor), osl_common_divisor⟩)
     (c_common_divisor : codeIn K cdv_common_divisor "common_divisor" = true)
     (k_common_divisor : keepIn K (.ref a_common_divisor) = true)
    {a_common_multiple : Addr} (n_common_multiple : nsIn K mainGlobals "common_multiple" = some (some (.ref a_common_multiple)))
    {oc_common_multiple kV_common_multiple doc_common_multiple pm_common_multiple cdv_common_multiple ct_common_multiple : Value} {od_common_multiple an_common_multiple : Option Addr} {osl_common_multiple : Array (Option Value)} (l_common_multiple : K.lookup a_common_multiple = some ⟨oc_common_multiple, od_common_multiple, .func (fnOf "common_multiple" "common_multiple" (defArgs (topS 13)) (defBody (topS 13)) (defScope (topS 13)) .none kV_common_multiple doc_common_multiple pm_common_multiple an_common_multiple cdv_common_multiple ct_common_multiple), osl_common_multiple⟩)
     (c_common_multiple : codeIn K cdv_common_multiple "common_multiple" = true)
     (k_common_multiple : keepIn K (.ref a_common_multiple) = true)
    {a_need_truths : Addr} (n_need_truths : nsIn K mainGlobals "need_truths" = some (some (.ref a_need_truths)))
    {oc_need_truths kV_need_truths doc_need_truths pm_need_truths cdv_need_truths ct_need_truths : Value} {od_need_truths an_need_truths : Option Addr} {osl_need_truths : Array (Option Value)} (l_need_truths : K.lookup a_need_truths = some ⟨oc_need_truths, od_need_truths, .func (fnOf "need_truths" "need_truths" (defArgs (topS 17)) (defBody (topS 17)) (defScope (topS 17)) .none kV_need_truths doc_need_truths pm_need_truths an_need_truths cdv_need_truths ct_need_truths), osl_need_truths⟩)
     (c_need_truths : codeIn K cdv_need_truths "need_truths" = true)
     (k_need_truths : keepIn K (.ref a_need_truths) = true)
    {a_least_period : Addr} (n_least_period : nsIn K mainGlobals "least_period" = some (some (.ref a_least_period)))
    {oc_least_period kV_least_period doc_least_period pm_least_period cdv_least_period ct_least_period : Value} {od_least_period an_least_period : Option Addr} {osl_least_period : Array (Option Value)} (l_least_period : K.lookup a_least_period = some ⟨oc_least_period, od_least_period, .func (fnOf "least_period" "least_period" (defArgs (topS 18)) (defBody (topS 18)) (defScope (topS 18)) .none kV_least_period doc_least_period pm_least_period an_least_period cdv_least_period ct_least_period), osl_least_period⟩)
     (c_least_period : codeIn K cdv_least_period "least_period" = true)
     (k_least_period : keepIn K (.ref a_least_period) = true)
    {a_paired : Addr} (n_paired : nsIn K mainGlobals "paired" = some (some (.ref a_paired)))
    {oc_paired kV_paired doc_paired pm_paired cdv_paired ct_paired : Value} {od_paired an_paired : Option Addr} {osl_paired : Array (Option Value)} (l_paired : K.lookup a_paired = some ⟨oc_paired, od_paired, .func (fnOf "paired" "paired" (defArgs (topS 21)) (defBody (topS 21)) (defScope (topS 21)) .none kV_paired doc_paired pm_paired an_paired cdv_paired ct_paired), osl_paired⟩)
     (c_paired : codeIn K cdv_paired "paired" = true)
     (k_paired : keepIn K (.ref a_paired) = true)
    {a__law_pen : Addr} (n__law_pen : nsIn K mainGlobals "_law_pen" = some (some (.ref a__law_pen)))
    {oc__law_pen kV__law_pen doc__law_pen pm__law_pen cdv__law_pen ct__law_pen : Value} {od__law_pen an__law_pen : Option Addr} {osl__law_pen : Array (Option Value)} (l__law_pen : K.lookup a__law_pen = some ⟨oc__law_pen, od__law_pen, .func (fnOf "_law_pen" "_law_pen" (defArgs (topS 24)) (defBody (topS 24)) (defScope (topS 24)) .none kV__law_pen doc__law_pen pm__law_pen an__law_pen cdv__law_pen ct__law_pen), osl__law_pen⟩)
     (c__law_pen : codeIn K cdv__law_pen "_law_pen" = true)
     (k__law_pen : keepIn K (.ref a__law_pen) = true)
    {a__law_draw : Addr} (n__law_draw : nsIn K mainGlobals "_law_draw" = some (some (.ref a__law_draw)))
    {oc__law_draw kV__law_draw doc__law_draw pm__law_draw cdv__law_draw ct__law_draw : Value} {od__law_draw an__law_draw : Option Addr} {osl__law_draw : Array (Option Value)} (l__law_draw : K.lookup a__law_draw = some ⟨oc__law_draw, od__law_draw, .func (fnOf "_law_draw" "_law_draw" (defArgs (topS 25)) (defBody (topS 25)) (defScope (topS 25)) .none kV__law_draw doc__law_draw pm__law_draw an__law_draw cdv__law_draw ct__law_draw), osl__law_draw⟩)
     (c__law_draw : codeIn K cdv__law_draw "_law_draw" = true)
     (k__law_draw : keepIn K (.ref a__law_draw) = true)
    {a__law_pick : Addr} (n__law_pick : nsIn K mainGlobals "_law_pick" = some (some (.ref a__law_pick)))
    {oc__law_pick kV__law_pick doc__law_pick pm__law_pick cdv__law_pick ct__law_pick : Value} {od__law_pick an__law_pick : Option Addr} {osl__law_pick : Array (Option Value)} (l__law_pick : K.lookup a__law_pick = some ⟨oc__law_pick, od__law_pick, .func (fnOf "_law_pick" "_law_pick" (defArgs (topS 26)) (defBody (topS 26)) (defScope (topS 26)) .none kV__law_pick doc__law_pick pm__law_pick an__law_pick cdv__law_pick ct__law_pick), osl__law_pick⟩)
     (c__law_pick : codeIn K cdv__law_pick "_law_pick" = true)
     (k__law_pick : keepIn K (.ref a__law_pick) = true)
    {a__law_truths : Addr} (n__law_truths : nsIn K mainGlobals "_law_truths" = some (some (.ref a__law_truths)))
    {oc__law_truths kV__law_truths doc__law_truths pm__law_truths cdv__law_truths ct__law_truths : Value} {od__law_truths an__law_truths : Option Addr} {osl__law_truths : Array (Option Value)} (l__law_truths : K.lookup a__law_truths = some ⟨oc__law_truths, od__law_truths, .func (fnOf "_law_truths" "_law_truths" (defArgs (topS 27)) (defBody (topS 27)) (defScope (topS 27)) .none kV__law_truths doc__law_truths pm__law_truths an__law_truths cdv__law_truths ct__law_truths), osl__law_truths⟩)
     (c__law_truths : codeIn K cdv__law_truths "_law_truths" = true)
     (k__law_truths : keepIn K (.ref a__law_truths) = true)
    {a__law_model : Addr} (n__law_model : nsIn K mainGlobals "_law_model" = some (some (.ref a__law_model)))
    {oc__law_model kV__law_model doc__law_model pm__law_model cdv__law_model ct__law_model : Value} {od__law_model an__law_model : Option Addr} {osl__law_model : Array (Option Value)} (l__law_model : K.lookup a__law_model = some ⟨oc__law_model, od__law_model, .func (fnOf "_law_model" "_law_model" (defArgs (topS 28)) (defBody (topS 28)) (defScope (topS 28)) .none kV__law_model doc__law_model pm__law_model an__law_model cdv__law_model ct__law_model), osl__law_model⟩)
     (c__law_model : codeIn K cdv__law_model "_law_model" = true)
     (k__law_model : keepIn K (.ref a__law_model) = true)
    {a__law_truth : Addr} (n__law_truth : nsIn K mainGlobals "_law_truth" = some (some (.ref a__law_truth)))
    {oc__law_truth kV__law_truth doc__law_truth pm__law_truth cdv__law_truth ct__law_truth : Value} {od__law_truth an__law_truth : Option Addr} {osl__law_truth : Array (Option Value)} (l__law_truth : K.lookup a__law_truth = some ⟨oc__law_truth, od__law_truth, .func (fnOf "_law_truth" "_law_truth" (defArgs (topS 29)) (defBody (topS 29)) (defScope (topS 29)) .none kV__law_truth doc__law_truth pm__law_truth an__law_truth cdv__law_truth ct__law_truth), osl__law_truth⟩)
     (c__law_truth : codeIn K cdv__law_truth "_law_truth" = true)
     (k__law_truth : keepIn K (.ref a__law_truth) = true)
    {a__law_least_model : Addr} (n__law_least_model : nsIn K mainGlobals "_law_least_model" = some (some (.ref a__law_least_model)))
    {oc__law_least_model kV__law_least_model doc__law_least_model pm__law_least_model cdv__law_least_model ct__law_least_model : Value} {od__law_least_model an__law_least_model : Option Addr} {osl__law_least_model : Array (Option Value)} (l__law_least_model : K.lookup a__law_least_model = some ⟨oc__law_least_model, od__law_least_model, .func (fnOf "_law_least_model" "_law_least_model" (defArgs (topS 30)) (defBody (topS 30)) (defScope (topS 30)) .none kV__law_least_model doc__law_least_model pm__law_least_model an__law_least_model cdv__law_least_model ct__law_least_model), osl__law_least_model⟩)
     (c__law_least_model : codeIn K cdv__law_least_model "_law_least_model" = true)
     (k__law_least_model : keepIn K (.ref a__law_least_model) = true)
    {a__law_is_where : Addr} (n__law_is_where : nsIn K mainGlobals "_law_is_where" = some (some (.ref a__law_is_where)))
    {oc__law_is_where kV__law_is_where doc__law_is_where pm__law_is_where cdv__law_is_where ct__law_is_where : Value} {od__law_is_where an__law_is_where : Option Addr} {osl__law_is_where : Array (Option Value)} (l__law_is_where : K.lookup a__law_is_where = some ⟨oc__law_is_where, od__law_is_where, .func (fnOf "_law_is_where" "_law_is_where" (defArgs (topS 31)) (defBody (topS 31)) (defScope (topS 31)) .none kV__law_is_where doc__law_is_where pm__law_is_where an__law_is_where cdv__law_is_where ct__law_is_where), osl__law_is_where⟩)
     (c__law_is_where : codeIn K cdv__law_is_where "_law_is_where" = true)
     (k__law_is_where : keepIn K (.ref a__law_is_where) = true)
    {a__law_where : Addr} (n__law_where : nsIn K mainGlobals "_law_where" = some (some (.ref a__law_where)))
    {oc__law_where kV__law_where doc__law_where pm__law_where cdv__law_where ct__law_where : Value} {od__law_where an__law_where : Option Addr} {osl__law_where : Array (Option Value)} (l__law_where : K.lookup a__law_where = some ⟨oc__law_where, od__law_where, .func (fnOf "_law_where" "_law_where" (defArgs (topS 32)) (defBody (topS 32)) (defScope (topS 32)) .none kV__law_where doc__law_where pm__law_where an__law_where cdv__law_where ct__law_where), osl__law_where⟩)
     (c__law_where : codeIn K cdv__law_where "_law_where" = true)
     (k__law_where : keepIn K (.ref a__law_where) = true)
    {a__law_joined : Addr} (n__law_joined : nsIn K mainGlobals "_law_joined" = some (some (.ref a__law_joined)))
    {oc__law_joined kV__law_joined doc__law_joined pm__law_joined cdv__law_joined ct__law_joined : Value} {od__law_joined an__law_joined : Option Addr} {osl__law_joined : Array (Option Value)} (l__law_joined : K.lookup a__law_joined = some ⟨oc__law_joined, od__law_joined, .func (fnOf "_law_joined" "_law_joined" (defArgs (topS 33)) (defBody (topS 33)) (defScope (topS 33)) .none kV__law_joined doc__law_joined pm__law_joined an__law_joined cdv__law_joined ct__law_joined), osl__law_joined⟩)
     (c__law_joined : codeIn K cdv__law_joined "_law_joined" = true)
     (k__law_joined : keepIn K (.ref a__law_joined) = true)
    {a__law_most : Addr} (n__law_most : nsIn K mainGlobals "_law_most" = some (some (.ref a__law_most)))
    {oc__law_most kV__law_most doc__law_most pm__law_most cdv__law_most ct__law_most : Value} {od__law_most an__law_most : Option Addr} {osl__law_most : Array (Option Value)} (l__law_most : K.lookup a__law_most = some ⟨oc__law_most, od__law_most, .func (fnOf "_law_most" "_law_most" (defArgs (topS 34)) (defBody (topS 34)) (defScope (topS 34)) .none kV__law_most doc__law_most pm__law_most an__law_most cdv__law_most ct__law_most), osl__law_most⟩)
     (c__law_most : codeIn K cdv__law_most "_law_most" = true)
     (k__law_most : keepIn K (.ref a__law_most) = true)
    {C_Where : Addr} (n_Where : nsIn K mainGlobals "Where" = some (some (.ref C_Where)))
     (pg_Where : plainGet K C_Where Str.empty = true)
     (hd_Where : hasDictIn K C_Where = true)
     (po_Where : plainOver K C_Where = true)
     (sa_Where : findIn K (.ref C_Where) "__setattr__" = some (some (.builtin "object.__setattr__")))
     (mk_Where : makesIn K C_Where = true)
     (kc_Where : keepIn K (.ref C_Where) = true)
     (cl_Where : findIn K (.ref C_Where) "__class__" = some (some (.builtin "object.__class__")))
     (ob_Where : mroIn K C_Where (.type "object") = some true)
     (ne_Where : findIn K (.ref C_Where) "__ne__" = some (some (.builtin "object.__ne__")))
     (nl_Where : notFirst K C_Where (.type "list") = true)
     (nt_Where : notFirst K C_Where (.type "tuple") = true)
     (kl_Where : kitOne K (.type "list") (.ref C_Where) = some false)
     (kt_Where : kitOne K (.type "tuple") (.ref C_Where) = some false)
     (ki_Where : kitOne K (.type "int") (.ref C_Where) = some false)
     (no_Where_period : findIn K (.ref C_Where) "period" = some none)
     (no_Where_rests : findIn K (.ref C_Where) "rests" = some none)
     (no_Where_start : findIn K (.ref C_Where) "start" = some none)
     (no_Where_below : findIn K (.ref C_Where) "below" = some none)
    {a_Where_init : Addr} (n_Where_init : findIn K (.ref C_Where) "__init__" = some (some (.ref a_Where_init)))
     (i_Where_init : isFn K (.ref a_Where_init) = true)
    {oc_Where_init kV_Where_init doc_Where_init pm_Where_init cdv_Where_init ct_Where_init : Value} {od_Where_init an_Where_init : Option Addr} {osl_Where_init : Array (Option Value)} (l_Where_init : K.lookup a_Where_init = some ⟨oc_Where_init, od_Where_init, .func (fnOf "__init__" "Where.__init__" (defArgs (inClass (topS 19) 0)) (defBody (inClass (topS 19) 0)) (defScope (inClass (topS 19) 0)) .none kV_Where_init doc_Where_init pm_Where_init an_Where_init cdv_Where_init ct_Where_init), osl_Where_init⟩)
     (c_Where_init : codeIn K cdv_Where_init "Where.__init__" = true)
     (k_Where_init : keepIn K (.ref a_Where_init) = true)
    {a_Where_truth : Addr} (n_Where_truth : findIn K (.ref C_Where) "truth" = some (some (.ref a_Where_truth)))
     (i_Where_truth : isFn K (.ref a_Where_truth) = true)
    {oc_Where_truth kV_Where_truth doc_Where_truth pm_Where_truth cdv_Where_truth ct_Where_truth : Value} {od_Where_truth an_Where_truth : Option Addr} {osl_Where_truth : Array (Option Value)} (l_Where_truth : K.lookup a_Where_truth = some ⟨oc_Where_truth, od_Where_truth, .func (fnOf "truth" "Where.truth" (defArgs (inClass (topS 19) 4)) (defBody (inClass (topS 19) 4)) (defScope (inClass (topS 19) 4)) .none kV_Where_truth doc_Where_truth pm_Where_truth an_Where_truth cdv_Where_truth ct_Where_truth), osl_Where_truth⟩)
     (c_Where_truth : codeIn K cdv_Where_truth "Where.truth" = true)
     (k_Where_truth : keepIn K (.ref a_Where_truth) = true)
    {a_Where_or : Addr} (n_Where_or : findIn K (.ref C_Where) "__or__" = some (some (.ref a_Where_or)))
     (i_Where_or : isFn K (.ref a_Where_or) = true)
    {oc_Where_or kV_Where_or doc_Where_or pm_Where_or cdv_Where_or ct_Where_or : Value} {od_Where_or an_Where_or : Option Addr} {osl_Where_or : Array (Option Value)} (l_Where_or : K.lookup a_Where_or = some ⟨oc_Where_or, od_Where_or, .func (fnOf "__or__" "Where.__or__" (defArgs (inClass (topS 19) 8)) (defBody (inClass (topS 19) 8)) (defScope (inClass (topS 19) 8)) .none kV_Where_or doc_Where_or pm_Where_or an_Where_or cdv_Where_or ct_Where_or), osl_Where_or⟩)
     (c_Where_or : codeIn K cdv_Where_or "Where.__or__" = true)
     (k_Where_or : keepIn K (.ref a_Where_or) = true)
    {a_Where_and : Addr} (n_Where_and : findIn K (.ref C_Where) "__and__" = some (some (.ref a_Where_and)))
     (i_Where_and : isFn K (.ref a_Where_and) = true)
    {oc_Where_and kV_Where_and doc_Where_and pm_Where_and cdv_Where_and ct_Where_and : Value} {od_Where_and an_Where_and : Option Addr} {osl_Where_and : Array (Option Value)} (l_Where_and : K.lookup a_Where_and = some ⟨oc_Where_and, od_Where_and, .func (fnOf "__and__" "Where.__and__" (defArgs (inClass (topS 19) 9)) (defBody (inClass (topS 19) 9)) (defScope (inClass (topS 19) 9)) .none kV_Where_and doc_Where_and pm_Where_and an_Where_and cdv_Where_and ct_Where_and), osl_Where_and⟩)
     (c_Where_and : codeIn K cdv_Where_and "Where.__and__" = true)
     (k_Where_and : keepIn K (.ref a_Where_and) = true)
    {a_Where_sub : Addr} (n_Where_sub : findIn K (.ref C_Where) "__sub__" = some (some (.ref a_Where_sub)))
     (i_Where_sub : isFn K (.ref a_Where_sub) = true)
    {oc_Where_sub kV_Where_sub doc_Where_sub pm_Where_sub cdv_Where_sub ct_Where_sub : Value} {od_Where_sub an_Where_sub : Option Addr} {osl_Where_sub : Array (Option Value)} (l_Where_sub : K.lookup a_Where_sub = some ⟨oc_Where_sub, od_Where_sub, .func (fnOf "__sub__" "Where.__sub__" (defArgs (inClass (topS 19) 10)) (defBody (inClass (topS 19) 10)) (defScope (inClass (topS 19) 10)) .none kV_Where_sub doc_Where_sub pm_Where_sub an_Where_sub cdv_Where_sub ct_Where_sub), osl_Where_sub⟩)
     (c_Where_sub : codeIn K cdv_Where_sub "Where.__sub__" = true)
     (k_Where_sub : keepIn K (.ref a_Where_sub) = true)
    {a_Where_xor : Addr} (n_Where_xor : findIn K (.ref C_Where) "__xor__" = some (some (.ref a_Where_xor)))
     (i_Where_xor : isFn K (.ref a_Where_xor) = true)
    {oc_Where_xor kV_Where_xor doc_Where_xor pm_Where_xor cdv_Where_xor ct_Where_xor : Value} {od_Where_xor an_Where_xor : Option Addr} {osl_Where_xor : Array (Option Value)} (l_Where_xor : K.lookup a_Where_xor = some ⟨oc_Where_xor, od_Where_xor, .func (fnOf "__xor__" "Where.__xor__" (defArgs (inClass (topS 19) 11)) (defBody (inClass (topS 19) 11)) (defScope (inClass (topS 19) 11)) .none kV_Where_xor doc_Where_xor pm_Where_xor an_Where_xor cdv_Where_xor ct_Where_xor), osl_Where_xor⟩)
     (c_Where_xor : codeIn K cdv_Where_xor "Where.__xor__" = true)
     (k_Where_xor : keepIn K (.ref a_Where_xor) = true)
    {a_Where_invert : Addr} (n_Where_invert : findIn K (.ref C_Where) "__invert__" = some (some (.ref a_Where_invert)))
     (i_Where_invert : isFn K (.ref a_Where_invert) = true)
    {oc_Where_invert kV_Where_invert doc_Where_invert pm_Where_invert cdv_Where_invert ct_Where_invert : Value} {od_Where_invert an_Where_invert : Option Addr} {osl_Where_invert : Array (Option Value)} (l_Where_invert : K.lookup a_Where_invert = some ⟨oc_Where_invert, od_Where_invert, .func (fnOf "__invert__" "Where.__invert__" (defArgs (inClass (topS 19) 12)) (defBody (inClass (topS 19) 12)) (defScope (inClass (topS 19) 12)) .none kV_Where_invert doc_Where_invert pm_Where_invert an_Where_invert cdv_Where_invert ct_Where_invert), osl_Where_invert⟩)
     (c_Where_invert : codeIn K cdv_Where_invert "Where.__invert__" = true)
     (k_Where_invert : keepIn K (.ref a_Where_invert) = true)
     (gs : specialIn K (.builtin "object.__class__") "__get__" = some (some (.builtin "getset_descriptor.__get__")))
     (tk : takesIn K (.builtin "object.__class__") = some true)
     (b_len : nsIn K mainGlobals "len" = some none)
     (b_range : nsIn K mainGlobals "range" = some none)
     (b_int : nsIn K mainGlobals "int" = some none)
     (b_bool : nsIn K mainGlobals "bool" = some none)
     (b_str : nsIn K mainGlobals "str" = some none)
     (b_list : nsIn K mainGlobals "list" = some none)
     (b_tuple : nsIn K mainGlobals "tuple" = some none)
     (b_set : nsIn K mainGlobals "set" = some none)
     (b_abs : nsIn K mainGlobals "abs" = some none)
     (b_min : nsIn K mainGlobals "min" = some none)
     (b_max : nsIn K mainGlobals "max" = some none)
     (b_sum : nsIn K mainGlobals "sum" = some none)
     (b_any : nsIn K mainGlobals "any" = some none)
     (b_all : nsIn K mainGlobals "all" = some none)
     (b_sorted : nsIn K mainGlobals "sorted" = some none)
     (b_isinstance : nsIn K mainGlobals "isinstance" = some none)
     (b_enumerate : nsIn K mainGlobals "enumerate" = some none)
     (b_reversed : nsIn K mainGlobals "reversed" = some none)
     (b_zip : nsIn K mainGlobals "zip" = some none)
     (su : nsIn K mainGlobals "super" = some none)
     (th : nsIn K cStatics "thirdparty.any" = some none)
    {C_BadNumber : Addr} (n_BadNumber : nsIn K mainGlobals "BadNumber" = some (some (.ref C_BadNumber)))
    {nm_BadNumber q_BadNumber : Str} {N_BadNumber : Addr} {bs_BadNumber bm_BadNumber : List Value} {sn_BadNumber : List Str} {sub_BadNumber : List Value} {ab_BadNumber : Bool} {col_BadNumber : Option Bool} {dd_BadNumber : Option Addr} {k0_BadNumber k1_BadNumber k2_BadNumber k3_BadNumber k5_BadNumber : Option Value} (x0_BadNumber : K.lookup C_BadNumber = some (excClassObj nm_BadNumber q_BadNumber C_BadNumber N_BadNumber bs_BadNumber bm_BadNumber true sn_BadNumber sub_BadNumber ab_BadNumber col_BadNumber dd_BadNumber k0_BadNumber k1_BadNumber k2_BadNumber k3_BadNumber k5_BadNumber "ValueError.__new__"))
     (x1_BadNumber : PySem.HandSPX.refsVE bm_BadNumber = true)
     (x2_BadNumber : findIn K (.ref C_BadNumber) "__setattr__" = some (some (.builtin "object.__setattr__")))
     (x3_BadNumber : findIn K (.ref C_BadNumber) "__getattribute__" = some (some (.builtin "BaseException.__getattribute__")))
     (x4_BadNumber : findIn K (.ref C_BadNumber) "__getattr__" = some none)
     (x5_BadNumber : subIn K (.ref C_BadNumber) (.type "BaseException") = some true)
     (x6_BadNumber : hasDictIn K C_BadNumber = true)
    {fI_BadNumber : Addr} (x7_BadNumber : findIn K (.ref C_BadNumber) "__init__" = some (some (.ref fI_BadNumber)))
     (x8_BadNumber : typeIn K (.ref fI_BadNumber) = some (.type "function"))
     (x9_BadNumber : keepIn K (.ref C_BadNumber) = true)
     (y0_BadNumber : typeIn K (.ref C_BadNumber) = some (.type "type"))
     (yf_BadNumber_number : findIn K (.ref C_BadNumber) "number" = some none)
     (y1_BadNumber : mroIn K C_BadNumber (.ref C_BadNumber) = some true)
     (y2_BadNumber : subIn K (.ref C_BadNumber) (.type "ValueError") = some true)
     (y3_BadNumber : ks_superIn K C_BadNumber C_BadNumber "__init__" = some (some (.builtin "ValueError.__init__")))
    {qu_BadNumber : Str} {xoc_BadNumber xdoc_BadNumber xpm_BadNumber xct_BadNumber : Value} {xod_BadNumber xan_BadNumber : Option Addr} {xosl_BadNumber : Array (Option Value)} {cda_BadNumber cc_BadNumber : Addr} (y4_BadNumber : K.lookup fI_BadNumber = some ⟨xoc_BadNumber, xod_BadNumber, .func (ksFn "__init__" qu_BadNumber (defArgs (inClass (topS 4) 0)) (defBody (inClass (topS 4) 0)) (defScope (inClass (topS 4) 0)) .none .none xdoc_BadNumber xpm_BadNumber xan_BadNumber (.ref cda_BadNumber) xct_BadNumber cc_BadNumber), xosl_BadNumber⟩)
     (y5_BadNumber : codeIn K (.ref cda_BadNumber) qu_BadNumber = true)
    {xl_BadNumber : Value} {xld_BadNumber : Option Addr} {xsl_BadNumber : Array (Option Value)} (y6_BadNumber : K.lookup cc_BadNumber = some ⟨xl_BadNumber, xld_BadNumber, .cell (some (.ref C_BadNumber)), xsl_BadNumber⟩)
    {xcl_BadNumber : Value} {xcd_BadNumber : Option Addr} {xvs_BadNumber : Array Value} {xcs_BadNumber : Array (Option Value)} (y7_BadNumber : K.lookup cda_BadNumber = some ⟨xcl_BadNumber, xcd_BadNumber, .fields xvs_BadNumber, xcs_BadNumber⟩)
    {fi_BadNumber : Str} {tf_BadNumber : Tok} (y8_BadNumber : xvs_BadNumber[2]? = some (.str fi_BadNumber tf_BadNumber))
     (y9_BadNumber : ((topP.main.file : Str) == fi_BadNumber) = true)
    {cd_BadNumber : ClassData} (z0_BadNumber : clsIn K C_BadNumber = some cd_BadNumber)
    {C_BadTruth : Addr} (n_BadTruth : nsIn K mainGlobals "BadTruth" = some (some (.ref C_BadTruth)))
    {nm_BadTruth q_BadTruth : Str} {N_BadTruth : Addr} {bs_BadTruth bm_BadTruth : List Value} {sn_BadTruth : List Str} {sub_BadTruth : List Value} {ab_BadTruth : Bool} {col_BadTruth : Option Bool} {dd_BadTruth : Option Addr} {k0_BadTruth k1_BadTruth k2_BadTruth k3_BadTruth k5_BadTruth : Option Value} (x0_BadTruth : K.lookup C_BadTruth = some (excClassObj nm_BadTruth q_BadTruth C_BadTruth N_BadTruth bs_BadTruth bm_BadTruth true sn_BadTruth sub_BadTruth ab_BadTruth col_BadTruth dd_BadTruth k0_BadTruth k1_BadTruth k2_BadTruth k3_BadTruth k5_BadTruth "ValueError.__new__"))
     (x1_BadTruth : PySem.HandSPX.refsVE bm_BadTruth = true)
     (x2_BadTruth : findIn K (.ref C_BadTruth) "__setattr__" = some (some (.builtin "object.__setattr__")))
     (x3_BadTruth : findIn K (.ref C_BadTruth) "__getattribute__" = some (some (.builtin "BaseException.__getattribute__")))
     (x4_BadTruth : findIn K (.ref C_BadTruth) "__getattr__" = some none)
     (x5_BadTruth : subIn K (.ref C_BadTruth) (.type "BaseException") = some true)
     (x6_BadTruth : hasDictIn K C_BadTruth = true)
    {fI_BadTruth : Addr} (x7_BadTruth : findIn K (.ref C_BadTruth) "__init__" = some (some (.ref fI_BadTruth)))
     (x8_BadTruth : typeIn K (.ref fI_BadTruth) = some (.type "function"))
     (x9_BadTruth : keepIn K (.ref C_BadTruth) = true)
     (y0_BadTruth : typeIn K (.ref C_BadTruth) = some (.type "type"))
     (yf_BadTruth_index : findIn K (.ref C_BadTruth) "index" = some none)
     (y1_BadTruth : mroIn K C_BadTruth (.ref C_BadTruth) = some true)
     (y2_BadTruth : subIn K (.ref C_BadTruth) (.type "ValueError") = some true)
     (y3_BadTruth : ks_superIn K C_BadTruth C_BadTruth "__init__" = some (some (.builtin "ValueError.__init__")))
    {qu_BadTruth : Str} {xoc_BadTruth xdoc_BadTruth xpm_BadTruth xct_BadTruth : Value} {xod_BadTruth xan_BadTruth : Option Addr} {xosl_BadTruth : Array (Option Value)} {cda_BadTruth cc_BadTruth : Addr} (y4_BadTruth : K.lookup fI_BadTruth = some ⟨xoc_BadTruth, xod_BadTruth, .func (ksFn "__init__" qu_BadTruth (defArgs (inClass (topS 5) 0)) (defBody (inClass (topS 5) 0)) (defScope (inClass (topS 5) 0)) .none .none xdoc_BadTruth xpm_BadTruth xan_BadTruth (.ref cda_BadTruth) xct_BadTruth cc_BadTruth), xosl_BadTruth⟩)
     (y5_BadTruth : codeIn K (.ref cda_BadTruth) qu_BadTruth = true)
    {xl_BadTruth : Value} {xld_BadTruth : Option Addr} {xsl_BadTruth : Array (Option Value)} (y6_BadTruth : K.lookup cc_BadTruth = some ⟨xl_BadTruth, xld_BadTruth, .cell (some (.ref C_BadTruth)), xsl_BadTruth⟩)
    {xcl_BadTruth : Value} {xcd_BadTruth : Option Addr} {xvs_BadTruth : Array Value} {xcs_BadTruth : Array (Option Value)} (y7_BadTruth : K.lookup cda_BadTruth = some ⟨xcl_BadTruth, xcd_BadTruth, .fields xvs_BadTruth, xcs_BadTruth⟩)
    {fi_BadTruth : Str} {tf_BadTruth : Tok} (y8_BadTruth : xvs_BadTruth[2]? = some (.str fi_BadTruth tf_BadTruth))
     (y9_BadTruth : ((topP.main.file : Str) == fi_BadTruth) = true)
    {cd_BadTruth : ClassData} (z0_BadTruth : clsIn K C_BadTruth = some cd_BadTruth)
    {C_TooFine : Addr} (n_TooFine : nsIn K mainGlobals "TooFine" = some (some (.ref C_TooFine)))
    {nm_TooFine q_TooFine : Str} {N_TooFine : Addr} {bs_TooFine bm_TooFine : List Value} {sn_TooFine : List Str} {sub_TooFine : List Value} {ab_TooFine : Bool} {col_TooFine : Option Bool} {dd_TooFine : Option Addr} {k0_TooFine k1_TooFine k2_TooFine k3_TooFine k5_TooFine : Option Value} (x0_TooFine : K.lookup C_TooFine = some (excClassObj nm_TooFine q_TooFine C_TooFine N_TooFine bs_TooFine bm_TooFine true sn_TooFine sub_TooFine ab_TooFine col_TooFine dd_TooFine k0_TooFine k1_TooFine k2_TooFine k3_TooFine k5_TooFine "ValueError.__new__"))
     (x1_TooFine : PySem.HandSPX.refsVE bm_TooFine = true)
     (x2_TooFine : findIn K (.ref C_TooFine) "__setattr__" = some (some (.builtin "object.__setattr__")))
     (x3_TooFine : findIn K (.ref C_TooFine) "__getattribute__" = some (some (.builtin "BaseException.__getattribute__")))
     (x4_TooFine : findIn K (.ref C_TooFine) "__getattr__" = some none)
     (x5_TooFine : subIn K (.ref C_TooFine) (.type "BaseException") = some true)
     (x6_TooFine : hasDictIn K C_TooFine = true)
    {fI_TooFine : Addr} (x7_TooFine : findIn K (.ref C_TooFine) "__init__" = some (some (.ref fI_TooFine)))
     (x8_TooFine : typeIn K (.ref fI_TooFine) = some (.type "function"))
     (x9_TooFine : keepIn K (.ref C_TooFine) = true)
     (y0_TooFine : typeIn K (.ref C_TooFine) = some (.type "type"))
     (yf_TooFine_most : findIn K (.ref C_TooFine) "most" = some none)
     (y1_TooFine : mroIn K C_TooFine (.ref C_TooFine) = some true)
     (y2_TooFine : subIn K (.ref C_TooFine) (.type "ValueError") = some true)
     (y3_TooFine : ks_superIn K C_TooFine C_TooFine "__init__" = some (some (.builtin "ValueError.__init__")))
    {qu_TooFine : Str} {xoc_TooFine xdoc_TooFine xpm_TooFine xct_TooFine : Value} {xod_TooFine xan_TooFine : Option Addr} {xosl_TooFine : Array (Option Value)} {cda_TooFine cc_TooFine : Addr} (y4_TooFine : K.lookup fI_TooFine = some ⟨xoc_TooFine, xod_TooFine, .func (ksFn "__init__" qu_TooFine (defArgs (inClass (topS 7) 0)) (defBody (inClass (topS 7) 0)) (defScope (inClass (topS 7) 0)) .none .none xdoc_TooFine xpm_TooFine xan_TooFine (.ref cda_TooFine) xct_TooFine cc_TooFine), xosl_TooFine⟩)
     (y5_TooFine : codeIn K (.ref cda_TooFine) qu_TooFine = true)
    {xl_TooFine : Value} {xld_TooFine : Option Addr} {xsl_TooFine : Array (Option Value)} (y6_TooFine : K.lookup cc_TooFine = some ⟨xl_TooFine, xld_TooFine, .cell (some (.ref C_TooFine)), xsl_TooFine⟩)
    {xcl_TooFine : Value} {xcd_TooFine : Option Addr} {xvs_TooFine : Array Value} {xcs_TooFine : Array (Option Value)} (y7_TooFine : K.lookup cda_TooFine = some ⟨xcl_TooFine, xcd_TooFine, .fields xvs_TooFine, xcs_TooFine⟩)
    {fi_TooFine : Str} {tf_TooFine : Tok} (y8_TooFine : xvs_TooFine[2]? = some (.str fi_TooFine tf_TooFine))
     (y9_TooFine : ((topP.main.file : Str) == fi_TooFine) = true)
    {cd_TooFine : ClassData} (z0_TooFine : clsIn K C_TooFine = some cd_TooFine)
    {C_TooLate : Addr} (n_TooLate : nsIn K mainGlobals "TooLate" = some (some (.ref C_TooLate)))
    {nm_TooLate q_TooLate : Str} {N_TooLate : Addr} {bs_TooLate bm_TooLate : List Value} {sn_TooLate : List Str} {sub_TooLate : List Value} {ab_TooLate : Bool} {col_TooLate : Option Bool} {dd_TooLate : Option Addr} {k0_TooLate k1_TooLate k2_TooLate k3_TooLate k5_TooLate : Option Value} (x0_TooLate : K.lookup C_TooLate = some (excClassObj nm_TooLate q_TooLate C_TooLate N_TooLate bs_TooLate bm_TooLate true sn_TooLate sub_TooLate ab_TooLate col_TooLate dd_TooLate k0_TooLate k1_TooLate k2_TooLate k3_TooLate k5_TooLate "ValueError.__new__"))
     (x1_TooLate : PySem.HandSPX.refsVE bm_TooLate = true)
     (x2_TooLate : findIn K (.ref C_TooLate) "__setattr__" = some (some (.builtin "object.__setattr__")))
     (x3_TooLate : findIn K (.ref C_TooLate) "__getattribute__" = some (some (.builtin "BaseException.__getattribute__")))
     (x4_TooLate : findIn K (.ref C_TooLate) "__getattr__" = some none)
     (x5_TooLate : subIn K (.ref C_TooLate) (.type "BaseException") = some true)
     (x6_TooLate : hasDictIn K C_TooLate = true)
    {fI_TooLate : Addr} (x7_TooLate : findIn K (.ref C_TooLate) "__init__" = some (some (.ref fI_TooLate)))
     (x8_TooLate : typeIn K (.ref fI_TooLate) = some (.type "function"))
     (x9_TooLate : keepIn K (.ref C_TooLate) = true)
     (y0_TooLate : typeIn K (.ref C_TooLate) = some (.type "type"))
     (yf_TooLate_most : findIn K (.ref C_TooLate) "most" = some none)
     (y1_TooLate : mroIn K C_TooLate (.ref C_TooLate) = some true)
     (y2_TooLate : subIn K (.ref C_TooLate) (.type "ValueError") = some true)
     (y3_TooLate : ks_superIn K C_TooLate C_TooLate "__init__" = some (some (.builtin "ValueError.__init__")))
    {qu_TooLate : Str} {xoc_TooLate xdoc_TooLate xpm_TooLate xct_TooLate : Value} {xod_TooLate xan_TooLate : Option Addr} {xosl_TooLate : Array (Option Value)} {cda_TooLate cc_TooLate : Addr} (y4_TooLate : K.lookup fI_TooLate = some ⟨xoc_TooLate, xod_TooLate, .func (ksFn "__init__" qu_TooLate (defArgs (inClass (topS 8) 0)) (defBody (inClass (topS 8) 0)) (defScope (inClass (topS 8) 0)) .none .none xdoc_TooLate xpm_TooLate xan_TooLate (.ref cda_TooLate) xct_TooLate cc_TooLate), xosl_TooLate⟩)
     (y5_TooLate : codeIn K (.ref cda_TooLate) qu_TooLate = true)
    {xl_TooLate : Value} {xld_TooLate : Option Addr} {xsl_TooLate : Array (Option Value)} (y6_TooLate : K.lookup cc_TooLate = some ⟨xl_TooLate, xld_TooLate, .cell (some (.ref C_TooLate)), xsl_TooLate⟩)
    {xcl_TooLate : Value} {xcd_TooLate : Option Addr} {xvs_TooLate : Array Value} {xcs_TooLate : Array (Option Value)} (y7_TooLate : K.lookup cda_TooLate = some ⟨xcl_TooLate, xcd_TooLate, .fields xvs_TooLate, xcs_TooLate⟩)
    {fi_TooLate : Str} {tf_TooLate : Tok} (y8_TooLate : xvs_TooLate[2]? = some (.str fi_TooLate tf_TooLate))
     (y9_TooLate : ((topP.main.file : Str) == fi_TooLate) = true)
    {cd_TooLate : ClassData} (z0_TooLate : clsIn K C_TooLate = some cd_TooLate)
     (cr_Where : readsIn K C_Where (.type "type") = true)
     (cg_Where : specialIn K (.ref C_Where) "__getattribute__" = some (some (.builtin "type.__getattribute__")))
    {p_Where_rest : Addr} (ca_Where_rest : findCls K (.ref C_Where) (.type "type") "rest" = some (.get (.builtin "classmethod.__get__") (.ref p_Where_rest) .none (.ref C_Where)))
    {a_Where_rest : Addr} {rest_Where_rest : List Value} (cp_Where_rest : recIn K p_Where_rest "classmethod" = some (.ref a_Where_rest :: rest_Where_rest))
     (cf_Where_rest : fnIn K a_Where_rest = true)
    {oc_Where_rest kV_Where_rest doc_Where_rest pm_Where_rest cdv_Where_rest ct_Where_rest : Value} {od_Where_rest an_Where_rest : Option Addr} {osl_Where_rest : Array (Option Value)} (l_Where_rest : K.lookup a_Where_rest = some ⟨oc_Where_rest, od_Where_rest, .func (fnOf "rest" "Where.rest" (defArgs (inClass (topS 19) 3)) (defBody (inClass (topS 19) 3)) (defScope (inClass (topS 19) 3)) .none kV_Where_rest doc_Where_rest pm_Where_rest an_Where_rest cdv_Where_rest ct_Where_rest), osl_Where_rest⟩)
     (c_Where_rest : codeIn K cdv_Where_rest "Where.rest" = true)
     (k_Where_rest : keepIn K (.ref a_Where_rest) = true)
     (sf_Where : selfFirst K C_Where = true)
    {i_MOST_PERIOD : Int} {t_MOST_PERIOD : Tok} (n_MOST_PERIOD : nsIn K mainGlobals "MOST_PERIOD" = some (some (.int i_MOST_PERIOD t_MOST_PERIOD)))
     (v_MOST_PERIOD : i_MOST_PERIOD = 720)
    {i_MOST_START : Int} {t_MOST_START : Tok} (n_MOST_START : nsIn K mainGlobals "MOST_START" = some (some (.int i_MOST_START t_MOST_START)))
     (v_MOST_START : i_MOST_START = 10000)
     (e_ff : subIn K (.ref C_TooFine) (.ref C_TooFine) = some true)
    {a_law : Addr} (n_law : nsIn K mainGlobals "law" = some (some (.ref a_law)))
    {cL : Addr} {ocL kVL docL pmL ctL : Value} {odL anL : Option Addr} {oslL : Array (Option Value)} (l_law : K.lookup a_law = some ⟨ocL, odL, .func (fnOf "law" "law" (defArgs (topS 36)) (defBody (topS 36)) (defScope (topS 36)) .none kVL docL pmL anL (.ref cL) ctL), oslL⟩)
     (c_law : codeIn K (.ref cL) "law" = true)
    {qd : Option Addr} {qv : Array Value} {qs : Array (Option Value)} (q0 : K.lookup cL = some ⟨.type "code", qd, .fields qv, qs⟩)
    {Pt : Addr} (q1 : qv[11]? = some (.ref Pt))
    {qf : Str} {qt1 qt2 qt3 : Tok} {qi1 qi2 : Int} {qb : Bool} (q2 : qv.getD 18 .none = .str qf qt1)
     (q3 : qv.getD 7 .none = .int qi1 qt2)
     (q4 : qv.getD 9 .none = .bool qb)
     (q5 : qv.getD 10 .none = .int qi2 qt3)
     (q6 : (cL != Pt) = true)
     (q7 : K.lookup Pt = none)
     (q8 : h.get? Pt = some (tabObj #[]))
    {a__law_refused : Addr} (n__law_refused : nsIn K mainGlobals "_law_refused" = some (some (.ref a__law_refused)))
    {cL_0 : Addr} {ocL_0 kVL_0 docL_0 pmL_0 ctL_0 : Value} {odL_0 anL_0 : Option Addr} {oslL_0 : Array (Option Value)} (l__law_refused : K.lookup a__law_refused = some ⟨ocL_0, odL_0, .func (fnOf "_law_refused" "_law_refused" (defArgs (topS 35)) (defBody (topS 35)) (defScope (topS 35)) .none kVL_0 docL_0 pmL_0 anL_0 (.ref cL_0) ctL_0), oslL_0⟩)
     (c__law_refused : codeIn K (.ref cL_0) "_law_refused" = true)
    {qd_0 : Option Addr} {qv_0 : Array Value} {qs_0 : Array (Option Value)} (q0_0 : K.lookup cL_0 = some ⟨.type "code", qd_0, .fields qv_0, qs_0⟩)
    {Pt_0 : Addr} (q1_0 : qv_0[11]? = some (.ref Pt_0))
    {qf_0 : Str} {qt1_0 qt2_0 qt3_0 : Tok} {qi1_0 qi2_0 : Int} {qb_0 : Bool} (q2_0 : qv_0.getD 18 .none = .str qf_0 qt1_0)
     (q3_0 : qv_0.getD 7 .none = .int qi1_0 qt2_0)
     (q4_0 : qv_0.getD 9 .none = .bool qb_0)
     (q5_0 : qv_0.getD 10 .none = .int qi2_0 qt3_0)
     (q6_0 : (cL_0 != Pt_0) = true)
     (q7_0 : K.lookup Pt_0 = none)
     (q8_0 : h.get? Pt_0 = some (tabObj #[]))
     (k__law_refused : keepIn K (.ref a__law_refused) = true)
     (qn_0 : (Pt != Pt_0) = true)
    : LawAtS PySem.Challenge.rw_everyfloor_k12_whole_operators_of_sets w K (L2.CX topP w) 22 63 "script" mg fa h := by
  obtain rfl : fa = a_law := Value.ref.inj (Option.some.inj (hmg.symm.trans (mg_of KX G n_law)))
  subst v_MOST_PERIOD
  have c_MOST_PERIOD := mg_of KX G n_MOST_PERIOD
  subst v_MOST_START
  have c_MOST_START := mg_of KX G n_MOST_START
  have B : Bn mg := bn_of KX G b_len b_range b_int b_bool b_str b_list b_tuple b_set b_abs b_min b_max b_sum b_any b_all b_sorted b_isinstance b_enumerate b_reversed b_zip
  have F_is_integer := fun_mk l_is_integer c_is_integer k_is_integer
  have F_is_place := fun_mk l_is_place c_is_place k_is_place
  have F_common_divisor := fun_mk l_common_divisor c_common_divisor k_common_divisor
  have F_common_multiple := fun_mk l_common_multiple c_common_multiple k_common_multiple
  have F_need_truths := fun_mk l_need_truths c_need_truths k_need_truths
  have F_least_period := fun_mk l_least_period c_least_period k_least_period
  have F_paired := fun_mk l_paired c_paired k_paired
  have F__law_pen := fun_mk l__law_pen c__law_pen k__law_pen
  have F__law_draw := fun_mk l__law_draw c__law_draw k__law_draw
  have F__law_pick := fun_mk l__law_pick c__law_pick k__law_pick
  have F__law_truths := fun_mk l__law_truths c__law_truths k__law_truths
  have F__law_model := fun_mk l__law_model c__law_model k__law_model
  have F__law_truth := fun_mk l__law_truth c__law_truth k__law_truth
  have F__law_least_model := fun_mk l__law_least_model c__law_least_model k__law_least_model
  have F__law_is_where := fun_mk l__law_is_where c__law_is_where k__law_is_where
  have F__law_where := fun_mk l__law_where c__law_where k__law_where
  have F__law_joined := fun_mk l__law_joined c__law_joined k__law_joined
  have F__law_most := fun_mk l__law_most c__law_most k__law_most
  have F_Where_rest := fun_mk l_Where_rest c_Where_rest k_Where_rest
  have F_Where_truth := fun_mk l_Where_truth c_Where_truth k_Where_truth
  have F_Where_or := fun_mk l_Where_or c_Where_or k_Where_or
  have F_Where_and := fun_mk l_Where_and c_Where_and k_Where_and
  have F_Where_sub := fun_mk l_Where_sub c_Where_sub k_Where_sub
  have F_Where_xor := fun_mk l_Where_xor c_Where_xor k_Where_xor
  have F_Where_invert := fun_mk l_Where_invert c_Where_invert k_Where_invert
  have F_Where_init := fun_mk l_Where_init c_Where_init k_Where_init
  have c_Where : Cls K C_Where := ⟨pg_Where, hd_Where, po_Where, sa_Where⟩
  have g_Where := mg_of KX G n_Where
  have NN_Where : NoNe K C_Where := ⟨ne_Where, ob_Where⟩
  have mk0_Where : Mk K C_Where a_Where_init := ⟨mk_Where, n_Where_init, i_Where_init, kc_Where⟩
  have hyW : ∀ H x bl rl, IsW K H x C_Where bl rl → TyX K H (.ref x) (.ref C_Where) := fun H x bl rl q => isW_ty q c_Where cl_Where gs tk ob_Where
  have md : PySem.SupX.SupMod topP K mg := ⟨mg_none_of KX G su, th, by decide +kernel⟩
  obtain ⟨l_BadNumber, tx_BadNumber, j_BadNumber, p0_BadNumber, p1_BadNumber, p2_BadNumber, p3_BadNumber, p4_BadNumber, p5_BadNumber, ar_BadNumber, xs_BadNumber⟩ := exs_BadNumber
  have X_BadNumber : ExT topP K mg "BadNumber" C_BadNumber ["number"] := ext_of KX G md xs_BadNumber (fun doc pm ct an us hl => match us, hl with | [_, _], _ => rfl) n_BadNumber x0_BadNumber x1_BadNumber x2_BadNumber x3_BadNumber x4_BadNumber x5_BadNumber x6_BadNumber x7_BadNumber x8_BadNumber x9_BadNumber y0_BadNumber (fun z hz => by rw [List.mem_singleton.mp hz]; exact yf_BadNumber_number) y1_BadNumber y2_BadNumber y3_BadNumber y4_BadNumber y5_BadNumber y6_BadNumber y7_BadNumber y8_BadNumber y9_BadNumber (by decide)
  obtain ⟨l_BadTruth, tx_BadTruth, j_BadTruth, p0_BadTruth, p1_BadTruth, p2_BadTruth, p3_BadTruth, p4_BadTruth, p5_BadTruth, ar_BadTruth, xs_BadTruth⟩ := exs_BadTruth
  have X_BadTruth : ExT topP K mg "BadTruth" C_BadTruth ["index"] := ext_of KX G md xs_BadTruth (fun doc pm ct an us hl => match us, hl with | [_, _], _ => rfl) n_BadTruth x0_BadTruth x1_BadTruth x2_BadTruth x3_BadTruth x4_BadTruth x5_BadTruth x6_BadTruth x7_BadTruth x8_BadTruth x9_BadTruth y0_BadTruth (fun z hz => by rw [List.mem_singleton.mp hz]; exact yf_BadTruth_index) y1_BadTruth y2_BadTruth y3_BadTruth y4_BadTruth y5_BadTruth y6_BadTruth y7_BadTruth y8_BadTruth y9_BadTruth (by decide)
  obtain ⟨l_TooFine, tx_TooFine, j_TooFine, p0_TooFine, p1_TooFine, p2_TooFine, p3_TooFine, p4_TooFine, p5_TooFine, ar_TooFine, xs_TooFine⟩ := exs_TooFine
  have X_TooFine : ExT topP K mg "TooFine" C_TooFine ["most"] := ext_of KX G md xs_TooFine (fun doc pm ct an us hl => match us, hl with | [_, _], _ => rfl) n_TooFine x0_TooFine x1_TooFine x2_TooFine x3_TooFine x4_TooFine x5_TooFine x6_TooFine x7_TooFine x8_TooFine x9_TooFine y0_TooFine (fun z hz => by rw [List.mem_singleton.mp hz]; exact yf_TooFine_most) y1_TooFine y2_TooFine y3_TooFine y4_TooFine y5_TooFine y6_TooFine y7_TooFine y8_TooFine y9_TooFine (by decide)
  obtain ⟨l_TooLate, tx_TooLate, j_TooLate, p0_TooLate, p1_TooLate, p2_TooLate, p3_TooLate, p4_TooLate, p5_TooLate, ar_TooLate, xs_TooLate⟩ := exs_TooLate
  have X_TooLate : ExT topP K mg "TooLate" C_TooLate ["most"] := ext_of KX G md xs_TooLate (fun doc pm ct an us hl => match us, hl with | [_, _], _ => rfl) n_TooLate x0_TooLate x1_TooLate x2_TooLate x3_TooLate x4_TooLate x5_TooLate x6_TooLate x7_TooLate x8_TooLate x9_TooLate y0_TooLate (fun z hz => by rw [List.mem_singleton.mp hz]; exact yf_TooLate_most) y1_TooLate y2_TooLate y3_TooLate y4_TooLate y5_TooLate y6_TooLate y7_TooLate y8_TooLate y9_TooLate (by decide)
  have ff := exm_of x5_TooFine z0_TooFine y0_TooFine e_ff
  obtain rfl_T : ∃ T0 : List (Addr × Str), T0 = [(Pt, (envOfC "law" (defScope (topS 36)) 0 fa (.ref cL)).qual ++ "<lambda>"), (Pt_0, (envOfC "_law_refused" (defScope (topS 35)) 0 a__law_refused (.ref cL_0)).qual ++ "<lambda>")] := ⟨_, rfl⟩
  obtain ⟨T0, hT0⟩ := rfl_T
  refine ⟨fnOf "law" "law" (defArgs (topS 36)) (defBody (topS 36)) (defScope (topS 36)) .none kVL docL pmL anL (.ref cL) ctL, [(cL, Pt), (cL_0, Pt_0)], spLaw K T0, ?_, ?_, ?_, ?_, ?_, fun base KB GB TB => ?_⟩
  · intro p hp
    simp only [List.mem_cons, List.not_mem_nil, or_false] at hp
    rcases hp with rfl | rfl
    · exact q8
    · exact q8_0
  · intro p hp
    simp only [List.mem_cons, List.not_mem_nil, or_false] at hp
    rcases hp with rfl | rfl
    · exact q7
    · exact q7_0
  · intro p hp
    simp only [List.mem_cons, List.not_mem_nil, or_false] at hp
    rcases hp with rfl | rfl
    · exact codeHd_of KX q0 q1 q2 q3 q4 q5 q6
    · exact codeHd_of KX q0_0 q1_0 q2_0 q3_0 q4_0 q5_0 q6_0
  · intro s u
    exact BindsTo.of_looks fun M => Looks.of_pure rfl
  · intro H a ns hl hbits hH hS
    refine ⟨a, ns, rfl, hl, hS, fun p hp => ?_, fun _ => rfl⟩
    rw [hT0] at hp
    simp only [List.mem_cons, List.not_mem_nil, or_false] at hp
    rcases hp with rfl | rfl
    · exact TabS.nil (hH (cL, Pt) (List.mem_cons_self ..))
    · exact TabS.nil (hH (cL_0, Pt_0) (List.mem_cons_of_mem _ (List.mem_cons_self ..)))
  have TB0 := TB (cL, Pt) (List.mem_cons_self ..)
  have hT1 : (Pt, (envOfC "law" (defScope (topS 36)) 0 fa (.ref cL)).qual ++ "<lambda>") ∈ T0 := by rw [hT0]; exact List.mem_cons_self ..
  have hT2 : ∀ p ∈ T0, p.1 = Pt → p.2 = (envOfC "law" (defScope (topS 36)) 0 fa (.ref cL)).qual ++ "<lambda>" := fun p hp e => by
    rw [hT0] at hp
    simp only [List.mem_cons, List.not_mem_nil, or_false] at hp
    rcases hp with rfl | rfl
    · rfl
    · exact absurd e (bne_iff_ne.mp (by rw [bne_comm]; exact qn_0))
  have TB_0 := TB (cL_0, Pt_0) (List.mem_cons_of_mem _ (List.mem_cons_self ..))
  have hT1_0 : (Pt_0, (envOfC "_law_refused" (defScope (topS 35)) 0 a__law_refused (.ref cL_0)).qual ++ "<lambda>") ∈ T0 := by rw [hT0]; exact List.mem_cons_of_mem _ (List.mem_cons_self ..)
  have hT2_0 : ∀ p ∈ T0, p.1 = Pt_0 → p.2 = (envOfC "_law_refused" (defScope (topS 35)) 0 a__law_refused (.ref cL_0)).qual ++ "<lambda>" := fun p hp e => by
    rw [hT0] at hp
    simp only [List.mem_cons, List.not_mem_nil, or_false] at hp
    rcases hp with rfl | rfl
    · exact absurd e (bne_iff_ne.mp qn_0)
    · rfl
  have G_is_integer : CallF topP w K mg base "is_integer" ["value"] 1 (spIsInteger K) := ⟨_, _, ok_is_integer B F_is_integer, mg_of KX G n_is_integer, k_is_integer, F_is_integer.binds (fun _ _ _ _ _ _ us hl => match us, hl with | [_], _ => rfl)⟩
  have G_is_place : CallF topP w K mg base "is_place" ["value"] 2 (spPlace K) := ⟨_, _, ok_is_place B G_is_integer F_is_place, mg_of KX G n_is_place, k_is_place, F_is_place.binds (fun _ _ _ _ _ _ us hl => match us, hl with | [_], _ => rfl)⟩
  have G_common_divisor : CallF topP w K mg base "common_divisor" ["one", "other"] 1 spGcd := ⟨_, _, ok_common_divisor B F_common_divisor, mg_of KX G n_common_divisor, k_common_divisor, F_common_divisor.binds (fun _ _ _ _ _ _ us hl => match us, hl with | [_, _], _ => rfl)⟩
  have G_common_multiple : CallF topP w K mg base "common_multiple" ["one", "other"] 2 spLcm := ⟨_, _, ok_common_multiple B G_common_divisor F_common_multiple, mg_of KX G n_common_multiple, k_common_multiple, F_common_multiple.binds (fun _ _ _ _ _ _ us hl => match us, hl with | [_, _], _ => rfl)⟩
  have G_need_truths : CallF topP w K mg base "need_truths" ["truths"] 3 (spNeedT K C_BadTruth) := ⟨_, _, ok_need_truths B X_BadTruth F_need_truths, mg_of KX G n_need_truths, k_need_truths, F_need_truths.binds (fun _ _ _ _ _ _ us hl => match us, hl with | [_], _ => rfl)⟩
  have G_least_period : CallF topP w K mg base "least_period" ["row"] 1 spLeastP := ⟨_, _, ok_least_period B F_least_period, mg_of KX G n_least_period, k_least_period, F_least_period.binds (fun _ _ _ _ _ _ us hl => match us, hl with | [_], _ => rfl)⟩
  have O_Where_init := ok_Where_init (P := topP) (w := w) (base := base) B c_Where no_Where_period no_Where_rests no_Where_start no_Where_below c_MOST_PERIOD c_MOST_START X_BadTruth X_TooFine X_TooLate G_need_truths G_least_period F_Where_init
  have M_Where := make_Where O_Where_init mk0_Where g_Where (F_Where_init.binds (fun _ _ _ _ _ _ us hl => match us, hl with | [_, _, _], _ => rfl))
  have CM_Where_rest : ClsF topP w K mg base C_Where "rest" 7 (spRest K C_Where C_BadNumber C_TooFine) := ⟨_, _, _, ⟨cr_Where, cg_Where⟩, ⟨ca_Where_rest, ⟨_, cp_Where_rest⟩, cf_Where_rest⟩, fnR_of (ok_Where_rest B c_MOST_PERIOD X_BadNumber X_TooFine G_is_integer G_is_place M_Where F_Where_rest) (F_Where_rest.binds (fun _ _ _ _ _ _ us hl => match us, hl with | [_, _, _], _ => rfl))⟩
  have G_Where_truth : MethF topP w K mg base C_Where "truth" ["self", "n"] 1 (spTruth K C_Where) := ⟨_, _, ok_Where_truth B c_Where no_Where_period no_Where_rests no_Where_start no_Where_below F_Where_truth, ⟨n_Where_truth, i_Where_truth, k_Where_truth⟩, F_Where_truth.binds (fun _ _ _ _ _ _ us hl => match us, hl with | [_, _], _ => rfl)⟩
  have G_paired : CallF topP w K mg base "paired" ["one", "other", "rule"] 7 (spPaired topP w K C_Where C_TooFine) := ⟨_, _, ok_paired B c_Where no_Where_period no_Where_rests no_Where_start c_MOST_PERIOD X_TooFine G_common_multiple G_Where_truth M_Where F_paired, mg_of KX G n_paired, k_paired, F_paired.binds (fun _ _ _ _ _ _ us hl => match us, hl with | [_, _, _], _ => rfl)⟩
  have OO_Where : OwnF topP w K mg base C_Where "__or__" ["self", "other"] 8 (spOpW K C_Where C_TooFine fun b c => b || c) := ⟨_, _, ok_Where___or__ B g_Where hyW kit_self G_paired F_Where_or, n_Where_or, i_Where_or, F_Where_or.binds (fun _ _ _ _ _ _ us hl => match us, hl with | [_, _], _ => rfl)⟩
  have ON_Where : OwnF topP w K mg base C_Where "__and__" ["self", "other"] 8 (spOpW K C_Where C_TooFine fun b c => b && c) := ⟨_, _, ok_Where___and__ B g_Where hyW kit_self G_paired F_Where_and, n_Where_and, i_Where_and, F_Where_and.binds (fun _ _ _ _ _ _ us hl => match us, hl with | [_, _], _ => rfl)⟩
  have OS_Where : OwnF topP w K mg base C_Where "__sub__" ["self", "other"] 8 (spOpW K C_Where C_TooFine fun b c => b && !c) := ⟨_, _, ok_Where___sub__ B g_Where hyW kit_self G_paired F_Where_sub, n_Where_sub, i_Where_sub, F_Where_sub.binds (fun _ _ _ _ _ _ us hl => match us, hl with | [_, _], _ => rfl)⟩
  have OX_Where : OwnF topP w K mg base C_Where "__xor__" ["self", "other"] 8 (spOpW K C_Where C_TooFine fun b c => b != c) := ⟨_, _, ok_Where___xor__ B g_Where hyW kit_self G_paired F_Where_xor, n_Where_xor, i_Where_xor, F_Where_xor.binds (fun _ _ _ _ _ _ us hl => match us, hl with | [_, _], _ => rfl)⟩
  have OV_Where : OwnF topP w K mg base C_Where "__invert__" ["self"] 7 (spInvW K C_Where) := ⟨_, _, ok_Where___invert__ B c_Where no_Where_rests no_Where_below M_Where F_Where_invert, n_Where_invert, i_Where_invert, F_Where_invert.binds (fun _ _ _ _ _ _ us hl => match us, hl with | [_], _ => rfl)⟩
  have G__law_pen : CallF topP w K mg base "_law_pen" ["script"] 1 (spPen K) := ⟨_, _, ok__law_pen B F__law_pen, mg_of KX G n__law_pen, k__law_pen, F__law_pen.binds (fun _ _ _ _ _ _ us hl => match us, hl with | [_], _ => rfl)⟩
  have G__law_draw : CallF topP w K mg base "_law_draw" ["pen", "many"] 2 spDraw := ⟨_, _, ok__law_draw B F__law_draw, mg_of KX G n__law_draw, k__law_draw, F__law_draw.binds (fun _ _ _ _ _ _ us hl => match us, hl with | [_, _], _ => rfl)⟩
  have G__law_pick : CallF topP w K mg base "_law_pick" ["pen", "some"] 3 (spPick K) := ⟨_, _, ok__law_pick B G__law_draw F__law_pick, mg_of KX G n__law_pick, k__law_pick, F__law_pick.binds (fun _ _ _ _ _ _ us hl => match us, hl with | [_, _], _ => rfl)⟩
  have G__law_truths : CallF topP w K mg base "_law_truths" ["pen", "many"] 3 spTruths := ⟨_, _, ok__law_truths B G__law_draw F__law_truths, mg_of KX G n__law_truths, k__law_truths, F__law_truths.binds (fun _ _ _ _ _ _ us hl => match us, hl with | [_, _], _ => rfl)⟩
  have G__law_model : CallF topP w K mg base "_law_model" ["pen", "most", "periods"] 5 (spModel K) := ⟨_, _, ok__law_model B G__law_draw G__law_pick G__law_truths F__law_model, mg_of KX G n__law_model, k__law_model, F__law_model.binds (fun _ _ _ _ _ _ us hl => match us, hl with | [_, _, _], _ => rfl)⟩
  have G__law_truth : CallF topP w K mg base "_law_truth" ["model", "n"] 1 spTruthM := ⟨_, _, ok__law_truth B F__law_truth, mg_of KX G n__law_truth, k__law_truth, F__law_truth.binds (fun _ _ _ _ _ _ us hl => match us, hl with | [_, _], _ => rfl)⟩
  have G__law_least_model : CallF topP w K mg base "_law_least_model" ["model"] 1 (spLeastM K) := ⟨_, _, ok__law_least_model B F__law_least_model, mg_of KX G n__law_least_model, k__law_least_model, F__law_least_model.binds (fun _ _ _ _ _ _ us hl => match us, hl with | [_], _ => rfl)⟩
  have G__law_is_where : CallF topP w K mg base "_law_is_where" ["where", "model"] 2 (spIsWhere K C_Where) := ⟨_, _, ok__law_is_where B c_Where no_Where_period no_Where_rests no_Where_start no_Where_below g_Where hyW kit_self G__law_least_model F__law_is_where, mg_of KX G n__law_is_where, k__law_is_where, F__law_is_where.binds (fun _ _ _ _ _ _ us hl => match us, hl with | [_, _], _ => rfl)⟩
  have G__law_where : CallF topP w K mg base "_law_where" ["model"] 7 (spWhereM K C_Where) := ⟨_, _, ok__law_where B M_Where F__law_where, mg_of KX G n__law_where, k__law_where, F__law_where.binds (fun _ _ _ _ _ _ us hl => match us, hl with | [_], _ => rfl)⟩
  have G__law_joined : CallF topP w K mg base "_law_joined" ["one", "other", "rule"] 4 (spJoined topP w K mg base) := ⟨_, _, ok__law_joined B G__law_truth F__law_joined, mg_of KX G n__law_joined, k__law_joined, F__law_joined.binds (fun _ _ _ _ _ _ us hl => match us, hl with | [_, _, _], _ => rfl)⟩
  have LF : LawF topP w K mg base C_Where C_BadNumber C_TooFine := { B := B, g_Where := g_Where, sf_Where := sf_Where, CM_Where_rest := CM_Where_rest, OO_Where := OO_Where, ON_Where := ON_Where, OS_Where := OS_Where, OX_Where := OX_Where, OV_Where := OV_Where, G__law_pen := G__law_pen, G__law_draw := G__law_draw, G__law_pick := G__law_pick, G__law_model := G__law_model, G__law_is_where := G__law_is_where, G__law_where := G__law_where, G__law_joined := G__law_joined, xF := X_TooFine, ff := ff }
  have F__law_refused := fun_mk l__law_refused c__law_refused k__law_refused
  have G__law_refused : CallF topP w K mg base "_law_refused" ["pen"] 16 (spRefused T0) := ⟨_, _, ok_refused LF TB_0 F__law_most (mg_of KX G n__law_most) (F__law_most.binds (fun _ _ _ _ _ _ us hl => match us, hl with | [_], _ => rfl)) l__law_refused c__law_refused hT1_0 hT2_0, mg_of KX G n__law_refused, k__law_refused, F__law_refused.binds (fun _ _ _ _ _ _ us hl => match us, hl with | [_], _ => rfl)⟩
  exact ok_law LF TB0 l_law c_law G__law_refused hT1 hT2
end Ev
namespace HK
open PySem PySem.W PyProof.Rows
set_option maxHeartbeats 0 in
open_top head for PySem.Challenge.rw_everyfloor_k12_whole_operators_of_sets
end HK
open PySem PySem.W PyProof.Rows in
set_option maxHeartbeats 0 in
theorem PySem.Challenge.cw_everyfloor_k12_whole_operators_of_sets_holds : PySem.Challenge.rw_everyfloor_k12_whole_operators_of_sets.Holds := by
  refine HK.head ?_
  k_fill
  refine LamX.walk_ofTs (l := PySem.Challenge.rw_everyfloor_k12_whole_operators_of_sets) (n := 63) (k := 22) (x := "script") (CX := fun w => L2.CX PySem.Challenge.pw_everyfloor_k12_whole_operators_of_sets w) rfl (by decide) rfl ⟨rfl, by decide, by decide⟩ (fun w h Y => km_in_of Y) ?F (fun w H s e s' q => by obtain ⟨_, _, _, _, _, _, _, _, _, _, _, _, z⟩ := q; exact z.elim)
  case F =>
    intro w mg fa h Y KX G hmg
    have hT := km_tabs_of Y
    refine' Ev.join KX G hmg ?n_is_integer ?l_is_integer ?c_is_integer ?k_is_integer ?n_is_place ?l_is_place ?c_is_place ?k_is_place ?n_common_divisor ?l_common_divisor ?c_common_divisor ?k_common_divisor ?n_common_multiple ?l_common_multiple ?c_common_multiple ?k_common_multiple ?n_need_truths ?l_need_truths ?c_need_truths ?k_need_truths ?n_least_period ?l_least_period ?c_least_period ?k_least_period ?n_paired ?l_paired ?c_paired ?k_paired ?n__law_pen ?l__law_pen ?c__law_pen ?k__law_pen ?n__law_draw ?l__law_draw ?c__law_draw ?k__law_draw ?n__law_pick ?l__law_pick ?c__law_pick ?k__law_pick ?n__law_truths ?l__law_truths ?c__law_truths ?k__law_truths ?n__law_model ?l__law_model ?c__law_model ?k__law_model ?n__law_truth ?l__law_truth ?c__law_truth ?k__law_truth ?n__law_least_model ?l__law_least_model ?c__law_least_model ?k__law_least_model ?n__law_is_where ?l__law_is_where ?c__law_is_where ?k__law_is_where ?n__law_where ?l__law_where ?c__law_where ?k__law_where ?n__law_joined ?l__law_joined ?c__law_joined ?k__law_joined ?n__law_most ?l__law_most ?c__law_most ?k__law_most ?n_Where ?pg_Where ?hd_Where ?po_Where ?sa_Where ?mk_Where ?kc_Where ?cl_Where ?ob_Where ?ne_Where ?nl_Where ?nt_Where ?kl_Where ?kt_Where ?ki_Where ?no_Where_period ?no_Where_rests ?no_Where_start ?no_Where_below ?n_Where_init ?i_Where_init ?l_Where_init ?c_Where_init ?k_Where_init ?n_Where_truth ?i_Where_truth ?l_Where_truth ?c_Where_truth ?k_Where_truth ?n_Where_or ?i_Where_or ?l_Where_or ?c_Where_or ?k_Where_or ?n_Where_and ?i_Where_and ?l_Where_and ?c_Where_and ?k_Where_and ?n_Where_sub ?i_Where_sub ?l_Where_sub ?c_Where_sub ?k_Where_sub ?n_Where_xor ?i_Where_xor ?l_Where_xor ?c_Where_xor ?k_Where_xor ?n_Where_invert ?i_Where_invert ?l_Where_invert ?c_Where_invert ?k_Where_invert ?gs ?tk ?b_len ?b_range ?b_int ?b_bool ?b_str ?b_list ?b_tuple ?b_set ?b_abs ?b_min ?b_max ?b_sum ?b_any ?b_all ?b_sorted ?b_isinstance ?b_enumerate ?b_reversed ?b_zip ?su ?th ?n_BadNumber ?x0_BadNumber ?x1_BadNumber ?x2_BadNumber ?x3_BadNumber ?x4_BadNumber ?x5_BadNumber ?x6_BadNumber ?x7_BadNumber ?x8_BadNumber ?x9_BadNumber ?y0_BadNumber ?yf_BadNumber_number ?y1_BadNumber ?y2_BadNumber ?y3_BadNumber ?y4_BadNumber ?y5_BadNumber ?y6_BadNumber ?y7_BadNumber ?y8_BadNumber ?y9_BadNumber ?z0_BadNumber ?n_BadTruth ?x0_BadTruth ?x1_BadTruth ?x2_BadTruth ?x3_BadTruth ?x4_BadTruth ?x5_BadTruth ?x6_BadTruth ?x7_BadTruth ?x8_BadTruth ?x9_BadTruth ?y0_BadTruth ?yf_BadTruth_index ?y1_BadTruth ?y2_BadTruth ?y3_BadTruth ?y4_BadTruth ?y5_BadTruth ?y6_BadTruth ?y7_BadTruth ?y8_BadTruth ?y9_BadTruth ?z0_BadTruth ?n_TooFine ?x0_TooFine ?x1_TooFine ?x2_TooFine ?x3_TooFine ?x4_TooFine ?x5_TooFine ?x6_TooFine ?x7_TooFine ?x8_TooFine ?x9_TooFine ?y0_TooFine ?yf_TooFine_most ?y1_TooFine ?y2_TooFine ?y3_TooFine ?y4_TooFine ?y5_TooFine ?y6_TooFine ?y7_TooFine ?y8_TooFine ?y9_TooFine ?z0_TooFine ?n_TooLate ?x0_TooLate ?x1_TooLate ?x2_TooLate ?x3_TooLate ?x4_TooLate ?x5_TooLate ?x6_TooLate ?x7_TooLate ?x8_TooLate ?x9_TooLate ?y0_TooLate ?yf_TooLate_most ?y1_TooLate ?y2_TooLate ?y3_TooLate ?y4_TooLate ?y5_TooLate ?y6_TooLate ?y7_TooLate ?y8_TooLate ?y9_TooLate ?z0_TooLate ?cr_Where ?cg_Where ?ca_Where_rest ?cp_Where_rest ?cf_Where_rest ?l_Where_rest ?c_Where_rest ?k_Where_rest ?sf_Where ?n_MOST_PERIOD ?v_MOST_PERIOD ?n_MOST_START ?v_MOST_START ?e_ff ?n_law ?l_law ?c_law ?q0 ?q1 ?q2 ?q3 ?q4 ?q5 ?q6 ?q7 ?q8 ?n__law_refused ?l__law_refused ?c__law_refused ?q0_0 ?q1_0 ?q2_0 ?q3_0 ?q4_0 ?q5_0 ?q6_0 ?q7_0 ?q8_0 ?k__law_refused ?qn_0
    (case n_is_integer => k_is)
    (case l_is_integer => k_is)
    (case c_is_integer => k_is)
    (case k_is_integer => k_is)
    (case n_is_place => k_is)
    (case l_is_place => k_is)
    (case c_is_place => k_is)
    (case k_is_place => k_is)
    (case n_common_divisor => k_is)
    (case l_common_divisor => k_is)
    (case c_common_divisor => k_is)
    (case k_common_divisor => k_is)
    (case n_common_multiple => k_is)
    (case l_common_multiple => k_is)
    (case c_common_multiple => k_is)
    (case k_common_multiple => k_is)
    (case n_need_truths => k_is)
    (case l_need_truths => k_is)
    (case c_need_truths => k_is)
    (case k_need_truths => k_is)
    (case n_least_period => k_is)
    (case l_least_period => k_is)
    (case c_least_period => k_is)
    (case k_least_period => k_is)
    (case n_paired => k_is)
    (case l_paired => k_is)
    (case c_paired => k_is)
    (case k_paired => k_is)
    (case n__law_pen => k_is)
    (case l__law_pen => k_is)
    (case c__law_pen => k_is)
    (case k__law_pen => k_is)
    (case n__law_draw => k_is)
    (case l__law_draw => k_is)
    (case c__law_draw => k_is)
    (case k__law_draw => k_is)
    (case n__law_pick => k_is)
    (case l__law_pick => k_is)
    (case c__law_pick => k_is)
    (case k__law_pick => k_is)
    (case n__law_truths => k_is)
    (case l__law_truths => k_is)
    (case c__law_truths => k_is)
    (case k__law_truths => k_is)
    (case n__law_model => k_is)
    (case l__law_model => k_is)
    (case c__law_model => k_is)
    (case k__law_model => k_is)
    (case n__law_truth => k_is)
    (case l__law_truth => k_is)
    (case c__law_truth => k_is)
    (case k__law_truth => k_is)
    (case n__law_least_model => k_is)
    (case l__law_least_model => k_is)
    (case c__law_least_model => k_is)
    (case k__law_least_model => k_is)
    (case n__law_is_where => k_is)
    (case l__law_is_where => k_is)
    (case c__law_is_where => k_is)
    (case k__law_is_where => k_is)
    (case n__law_where => k_is)
    (case l__law_where => k_is)
    (case c__law_where => k_is)
    (case k__law_where => k_is)
    (case n__law_joined => k_is)
    (case l__law_joined => k_is)
    (case c__law_joined => k_is)
    (case k__law_joined => k_is)
    (case n__law_most => k_is)
    (case l__law_most => k_is)
    (case c__law_most => k_is)
    (case k__law_most => k_is)
    (case n_Where => k_is)
    (case pg_Where => k_is)
    (case hd_Where => k_is)
    (case po_Where => k_is)
    (case sa_Where => k_is)
    (case mk_Where => k_is)
    (case kc_Where => k_is)
    (case cl_Where => k_is)
    (case ob_Where => k_is)
    (case ne_Where => k_is)
    (case nl_Where => k_is)
    (case nt_Where => k_is)
    (case kl_Where => kit_is)
    (case kt_Where => kit_is)
    (case ki_Where => kit_is)
    (case no_Where_period => k_is)
    (case no_Where_rests => k_is)
    (case no_Where_start => k_is)
    (case no_Where_below => k_is)
    (case n_Where_init => k_is)
    (case i_Where_init => k_is)
    (case l_Where_init => k_is)
    (case c_Where_init => k_is)
    (case k_Where_init => k_is)
    (case n_Where_truth => k_is)
    (case i_Where_truth => k_is)
    (case l_Where_truth => k_is)
    (case c_Where_truth => k_is)
    (case k_Where_truth => k_is)
    (case n_Where_or => k_is)
    (case i_Where_or => k_is)
    (case l_Where_or => k_is)
    (case c_Where_or => k_is)
    (case k_Where_or => k_is)
    (case n_Where_and => k_is)
    (case i_Where_and => k_is)
    (case l_Where_and => k_is)
    (case c_Where_and => k_is)
    (case k_Where_and => k_is)
    (case n_Where_sub => k_is)
    (case i_Where_sub => k_is)
    (case l_Where_sub => k_is)
    (case c_Where_sub => k_is)
    (case k_Where_sub => k_is)
    (case n_Where_xor => k_is)
    (case i_Where_xor => k_is)
    (case l_Where_xor => k_is)
    (case c_Where_xor => k_is)
    (case k_Where_xor => k_is)
    (case n_Where_invert => k_is)
    (case i_Where_invert => k_is)
    (case l_Where_invert => k_is)
    (case c_Where_invert => k_is)
    (case k_Where_invert => k_is)
    (case gs => k_is)
    (case tk => k_is)
    (case b_len => k_is)
    (case b_range => k_is)
    (case b_int => k_is)
    (case b_bool => k_is)
    (case b_str => k_is)
    (case b_list => k_is)
    (case b_tuple => k_is)
    (case b_set => k_is)
    (case b_abs => k_is)
    (case b_min => k_is)
    (case b_max => k_is)
    (case b_sum => k_is)
    (case b_any => k_is)
    (case b_all => k_is)
    (case b_sorted => k_is)
    (case b_isinstance => k_is)
    (case b_enumerate => k_is)
    (case b_reversed => k_is)
    (case b_zip => k_is)
    (case su => k_is)
    (case th => k_is)
    (case n_BadNumber => k_is)
    (case x0_BadNumber => k_is)
    (case x1_BadNumber => exact rfl)
    (case x2_BadNumber => k_is)
    (case x3_BadNumber => k_is)
    (case x4_BadNumber => k_is)
    (case x5_BadNumber => k_is)
    (case x6_BadNumber => k_is)
    (case x7_BadNumber => k_is)
    (case x8_BadNumber => k_is)
    (case x9_BadNumber => k_is)
    (case y0_BadNumber => k_is)
    (case yf_BadNumber_number => k_is)
    (case y1_BadNumber => k_is)
    (case y2_BadNumber => k_is)
    (case y3_BadNumber => ks_is)
    (case y4_BadNumber => k_is)
    (case y5_BadNumber => k_is)
    (case y6_BadNumber => k_is)
    (case y7_BadNumber => k_is)
    (case y8_BadNumber => exact rfl)
    (case y9_BadNumber => exact rfl)
    (case z0_BadNumber => k_is)
    (case n_BadTruth => k_is)
    (case x0_BadTruth => k_is)
    (case x1_BadTruth => exact rfl)
    (case x2_BadTruth => k_is)
    (case x3_BadTruth => k_is)
    (case x4_BadTruth => k_is)
    (case x5_BadTruth => k_is)
    (case x6_BadTruth => k_is)
    (case x7_BadTruth => k_is)
    (case x8_BadTruth => k_is)
    (case x9_BadTruth => k_is)
    (case y0_BadTruth => k_is)
    (case yf_BadTruth_index => k_is)
    (case y1_BadTruth => k_is)
    (case y2_BadTruth => k_is)
    (case y3_BadTruth => ks_is)
    (case y4_BadTruth => k_is)
    (case y5_BadTruth => k_is)
    (case y6_BadTruth => k_is)
    (case y7_BadTruth => k_is)
    (case y8_BadTruth => exact rfl)
    (case y9_BadTruth => exact rfl)
    (case z0_BadTruth => k_is)
    (case n_TooFine => k_is)
    (case x0_TooFine => k_is)
    (case x1_TooFine => exact rfl)
    (case x2_TooFine => k_is)
    (case x3_TooFine => k_is)
    (case x4_TooFine => k_is)
    (case x5_TooFine => k_is)
    (case x6_TooFine => k_is)
    (case x7_TooFine => k_is)
    (case x8_TooFine => k_is)
    (case x9_TooFine => k_is)
    (case y0_TooFine => k_is)
    (case yf_TooFine_most => k_is)
    (case y1_TooFine => k_is)
    (case y2_TooFine => k_is)
    (case y3_TooFine => ks_is)
    (case y4_TooFine => k_is)
    (case y5_TooFine => k_is)
    (case y6_TooFine => k_is)
    (case y7_TooFine => k_is)
    (case y8_TooFine => exact rfl)
    (case y9_TooFine => exact rfl)
    (case z0_TooFine => k_is)
    (case n_TooLate => k_is)
    (case x0_TooLate => k_is)
    (case x1_TooLate => exact rfl)
    (case x2_TooLate => k_is)
    (case x3_TooLate => k_is)
    (case x4_TooLate => k_is)
    (case x5_TooLate => k_is)
    (case x6_TooLate => k_is)
    (case x7_TooLate => k_is)
    (case x8_TooLate => k_is)
    (case x9_TooLate => k_is)
    (case y0_TooLate => k_is)
    (case yf_TooLate_most => k_is)
    (case y1_TooLate => k_is)
    (case y2_TooLate => k_is)
    (case y3_TooLate => ks_is)
    (case y4_TooLate => k_is)
    (case y5_TooLate => k_is)
    (case y6_TooLate => k_is)
    (case y7_TooLate => k_is)
    (case y8_TooLate => exact rfl)
    (case y9_TooLate => exact rfl)
    (case z0_TooLate => k_is)
    (case cr_Where => k_is)
    (case cg_Where => k_is)
    (case ca_Where_rest => k_is)
    (case cp_Where_rest => k_is)
    (case cf_Where_rest => k_is)
    (case l_Where_rest => k_is)
    (case c_Where_rest => k_is)
    (case k_Where_rest => k_is)
    (case sf_Where => k_is)
    (case n_MOST_PERIOD => k_is)
    (case v_MOST_PERIOD => exact rfl)
    (case n_MOST_START => k_is)
    (case v_MOST_START => exact rfl)
    (case e_ff => k_is)
    (case n_law => k_is)
    (case l_law => k_is)
    (case c_law => k_is)
    (case q0 => k_is)
    (case q1 => exact rfl)
    (case q2 => exact rfl)
    (case q3 => exact rfl)
    (case q4 => exact rfl)
    (case q5 => exact rfl)
    (case q6 => exact rfl)
    (case q7 => kernel_rfl)
    (case q8 => exact hT _ (by decide))
    (case n__law_refused => k_is)
    (case l__law_refused => k_is)
    (case c__law_refused => k_is)
    (case q0_0 => k_is)
    (case q1_0 => exact rfl)
    (case q2_0 => exact rfl)
    (case q3_0 => exact rfl)
    (case q4_0 => exact rfl)
    (case q5_0 => exact rfl)
    (case q6_0 => exact rfl)
    (case q7_0 => kernel_rfl)
    (case q8_0 => exact hT _ (by decide))
    (case k__law_refused => k_is)
    (case qn_0 => exact rfl)
