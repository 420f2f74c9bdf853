import PyProof.Rows.All
import Wide.All
import OpenK.AllK
import Wide.FinOn
import HandS.ForMost
import HandS.ForExc
import HandS.TryMany
import HandS.IsInst
import HandS.Property
import HandS.OwnEq
import HandS.Flow
import HandS.Walk
import HandS.SetFor
import HandS.Wide
import HandS.EndTab
import HandS.Defaults
import HandS.Conv
import HandS.ClsMeth
import HandS.Lambda
import HandS.ExcField
import KE.KExcSuper
import HandS.Style
import HandS.TupAny
import HandS.Star
import KE.KOpsOwn
import HandS.Iter
import PyProof.EqAt
import PyProof.EqKinds
import PyProof.TupleCall
import HandS.Base
import HandS.Call
import HandS.Exc
import HandS.ExcInit
import KE.GoesMore
import PySem.Challenge.RW_everyfloor_k86_whole_sets_with_long_peri
set_option Elab.async false
set_option linter.all false
set_option maxRecDepth 100000
set_option maxHeartbeats 4000000
/-! An own exception class whose __init__ says super().__init__('..') and then stores its fields. -/
namespace PySem
namespace SupX
open PySem.W PySem.Calls PyProof.Rows PySem.HandSPX

section
variable {prog : Program} {w : World} {M : Model} {A : Around} {E : Value → Shared → Prop} {h : Heap} {g : Array GenState} {d : Drawn} {t : Nat} {os : OsState}

/-- the base's __init__ bound to the exception, called -/
theorem sx_call {nm q : Str} {C N u x t0 : Addr} {bs bm : List Value} {hdct : Bool} {sn : List Str} {sub : List Value} {ab : Bool} {col : Option Bool} {dd : Option Addr} {k0 k1 k2 k3 k5 : Option Value} {rest : List Value} {Q : Value → Shared → Prop}
    (hC : h.get? C = some (excClassObj nm q C N bs bm hdct sn sub ab col dd k0 k1 k2 k3 k5 "ValueError.__new__")) (hx : h.get? x = some (excO C t0)) (hu : h.get? u = some (kxs_mw "ValueError.__init__" x)) (hrest : rest.length ≤ sizeLine)
    (hq : ∀ h' t1, (∀ b o, b ≠ x → h.get? b = some o → h'.get? b = some o) → h'.get? x = some (excO C t1) → Q .none ⟨h', g, d, t, os⟩) :
    wpAny (model prog w) A (call (.ref u) rest) Q E ⟨h, g, d, t, os⟩ := by
  refine wpAny_call (codeAny_of_tree ?_)
  show wpAny _ A.in1 (callAny (.ref u) ⟨rest, []⟩) _ _ _
  simp only [callAny]
  refine wpAny_bind (wpAny_load hu ?_)
  simp only [kxs_mw, show (Value.type "method-wrapper" == Value.type "method" || Value.type "method-wrapper" == Value.type "builtin_function_or_method" || Value.type "method-wrapper" == Value.type "method-wrapper") = true by decide, if_true]
  refine KFB.if_so (by decide) ?_
  refine wpAny_bind (check_bound_init F.excBase_ValueError.toExcCallFacts hC hx rfl ?_)
  refine wpAny_bind (wpAny_pure (wpAny_pure ?_))
  refine ⟨plainId_quiet F.excBase_ValueError.init.plain _, codeAny_builtin F.excBase_ValueError.initEntry ?_⟩
  exact exc_init_tree (cls := .ref C) (t0 := t0) (dv := none) (c2 := .none) (c3 := .none) (b4 := .bool false) hx hrest fun h' k e _ => hq h' _ k e

end

/-- what the written part says of the class at C and of its __init__ at fI (its cell at cc, its code object at cda) -/
structure SupTxt (prog : Program) (K : Frag) (mg : Str → Option Value) (x : Str) (C fI cc cda : Addr) (fs : List Str) : Prop where
  gC : mg x = some (.ref C)
  cls : ∃ nm q N bs bm sn sub ab col dd k0 k1 k2 k3 k5, K.lookup C = some (excClassObj nm q C N bs bm true sn sub ab col dd k0 k1 k2 k3 k5 "ValueError.__new__") ∧ refsVE bm = true
  sa : findIn K (.ref C) "__setattr__" = some (some (.builtin "object.__setattr__"))
  xf : L2.XfC K C
  iC : findIn K (.ref C) "__init__" = some (some (.ref fI))
  tI : typeIn K (.ref fI) = some (.type "function")
  kC : keepIn K (.ref C) = true
  tyC : typeIn K (.ref C) = some (.type "type")
  noF : ∀ f ∈ fs, findIn K (.ref C) f = some none
  self : mroIn K C (.ref C) = some true
  hB : subIn K (.ref C) (.type "ValueError") = some true
  sup : ks_superIn K C C "__init__" = some (some (.builtin "ValueError.__init__"))
  code : ∃ ccl cdd vs ccs file tf, K.lookup cda = some ⟨ccl, cdd, .fields vs, ccs⟩ ∧ vs[2]? = some (.str file tf) ∧ ((prog.main.file : Str) == file) = true
  cell : ∃ cl cld csl, K.lookup cc = some ⟨cl, cld, .cell (some (.ref C)), csl⟩

/-- what the module says of super -/
structure SupMod (prog : Program) (K : Frag) (mg : Str → Option Value) : Prop where
  mSup : mg "super" = none
  third : nsIn K cStatics "thirdparty.any" = some none
  top : (prog.main.scope.names.lookup ("super" : Str)).isSome = false

section
variable {prog : Program} {w : World} {M : Model} {A : Around} {E : Value → Shared → Prop} {s : Shared} {K : Frag} {mg : Str → Option Value} {xn : Str} {C fI cc cda L x t0 : Addr} {fs : List Str} {m : Str → Option Value}

theorem boot_super : bootBuiltins "super" = some (.type "super") := by first | rfl | kernel_rfl | decide +kernel

theorem cls_at {h : Heap} {cd : ClassData} (X : K.In h) (hc : clsIn K C = some cd) : ∃ oD, h.get? C = some oD ∧ oD.data = .cls cd := by
  unfold clsIn at hc
  split at hc
  · rename_i c d cd' sl ho
    cases hc
    exact ⟨_, X _ _ ho, rfl⟩
  · cases hc

theorem exc_ne {h : Heap} {cd : ClassData} {fv : Array Value} {od : Option Addr} (X : K.In h) (hc : clsIn K C = some cd) (hx : h.get? x = some { cls := .ref C, dict := od, data := .fields fv }) : x ≠ C := by
  rintro rfl
  obtain ⟨oD, h1, h2⟩ := cls_at X hc
  rw [hx] at h1
  cases h1
  cases h2

/-- super().__init__('..'), then what follows -/
theorem sx_first {scope : Scope} {qual : Str} {body rest : List Stmt} {tx : Str} {fd : FuncData} {ar : Arg} {oc : Value} {od : Option Addr} {osl : Array (Option Value)} {j : Nat} {p0 p1 p2 p3 p4 p5 : Pos} {Q : Flow → Shared → Prop}
    (T : SupTxt prog K mg xn C fI cc cda fs) (S : SupMod prog K mg) (X : K.In s.heap) (hg : s.heap.Ns mainGlobals mg) (hb : ∃ mb, s.heap.Ns builtinsNs mb ∧ ∀ x : Str, x ≠ "__name__" → mb x = bootBuiltins x)
    (hf : K.lookup fI = some ⟨oc, od, .func fd, osl⟩) (hp : (fd.params.posonlyargs ++ fd.params.args).head? = some ar) (har : ar.arg = "self")
    (hn : s.heap.Ns L m) (hself : m "self" = some (.ref x)) (hx : s.heap.get? x = some (excO C t0)) (hxL : L ≠ x)
    (hks : scope.names.lookup ("super" : Str) = some .globalImplicit) (hkc : scope.names.lookup ("__class__" : Str) = some .free) (hka : scope.names.lookup ("self" : Str) = some .local) (hk : scope.kind = .function)
    (h : ∀ h' tk t1, (∀ b o, b ≠ x → s.heap.get? b = some o → h'.get? b = some o) → h'.get? x = some (excO C t1) → h'.Ns L m →
      wpAny (model prog w) A (execs rest (ksEnv qual scope L fI (.ref cda) cc)) Q E { s with heap := h', toks := tk }) {pl : Sem Bool}
    (he : eval (.Call (.Attribute (.Call (.Name "super" p0) [] [] p1) "__init__" p2) [.Constant (.str tx) j p3] [] p4) (ksEnv qual scope L fI (.ref cda) cc) = (do
      let ov ← attributeBase (.Call (.Name "super" p0) [] [] p1) "__init__" (ksEnv qual scope L fI (.ref cda) cc) (eval (.Call (.Name "super" p0) [] [] p1) (ksEnv qual scope L fI (.ref cda) cc))
      standAt p2.atName
      let (f, first) ← holding [ov] (getMethod ov "__init__" pl)
      callWith p4 f first (backTo p4 (starEach [Expr.Constant (.str tx) j p3] (ksEnv qual scope L fI (.ref cda) cc))) []) := by rfl) :
    _root_.PySem.wpAt (model prog w) A (.func body (ksEnv qual scope L fI (.ref cda) cc))
      (execs (.Expr (.Call (.Attribute (.Call (.Name "super" p0) [] [] p1) "__init__" p2) [.Constant (.str tx) j p3] [] p4) p5 :: rest) (ksEnv qual scope L fI (.ref cda) cc)) Q E s := by
  obtain ⟨nm, q, N, bs, bm, sn, sub, ab, col, dd, k0, k1, k2, k3, k5, hC, hbm⟩ := T.cls
  obtain ⟨ccl, cdd, vs, ccs, file, tf, hcode, hvs, hfile⟩ := T.code
  obtain ⟨cl, cld, csl, hcell⟩ := T.cell
  obtain ⟨mb, hbn, hbb⟩ := hb
  have hcl : clsIn K C = some { name := nm, bases := bs, mro := .ref C :: bm, ns := N, qualname := q, hasDict := true, slotNames := sn, subclasses := sub, abstract := ab, collection := col, hasDel := false } := by unfold clsIn; rw [hC] <;> rfl
  obtain ⟨hh, g, d, t, os⟩ := s
  have hsup := T.sup
  unfold ks_superIn at hsup
  rw [hcl] at hsup
  have I : PySem.W.InstAt hh x (excO C t0) C none := ⟨hx, rfl, rfl, trivial⟩
  obtain ⟨oD, hD1, hD2⟩ := cls_at X hcl
  have hxC : x ≠ C := exc_ne X hcl hx
  refine ks_wpAt_execs_cons (ks_wpAt_Expr_any (ks_wpAt_MethodCall ?_ he) (by simp [interactive, hk]) (by rfl))
  have hka' : scope.names.lookup ar.arg = some .local := by rw [har]; exact hka
  have hv : m ar.arg = some (.ref x) := by rw [har]; exact hself
  refine ks_wpAt_super_base (env := ksEnv qual scope L fI (.ref cda) cc) hks hkc (by decide +kernel) rfl (X _ _ hf) rfl hp rfl (X _ _ hcode) rfl hvs hfile S.top ?_
  refine ks_loadName_global hk hks (loadGlobal_builtin (env := ksEnv qual scope L fI (.ref cda) cc) hg S.mSup hbn ((hbb _ (by decide +kernel)).trans boot_super) ⟨rfl, ?_⟩)
  refine wpAny_loadName_free hk hkc rfl ⟨_, X _ _ hcell, rfl⟩ ?_
  refine wpAny_loadName_local hk hka' hn hv ?_
  refine ks_wpAny_isType_cls hD1 hD2 ⟨rfl, ?_⟩
  refine ks_wpAny_call_super hD1 hD2 hx rfl (fun c e => by cases e) (looks_mroIn X T.self) (fun h1 e1 kk1 => ?_)
  have X1 : K.In h1 := X.keeps kk1
  have hx1 := kk1 _ _ hx
  have I1 : PySem.W.InstAt h1 x (excO C t0) C none := ⟨hx1, rfl, rfl, trivial⟩
  refine kxs_getMethod kxs_ValueError (K := K) (l₀ := .ref C :: bm) e1 (looks_opaque X1 S.third) ?_ rfl X1 hsup (I1.type.andThen (looks_subIn X1 T.hB)) hxC (by decide +kernel) ?_
  · exact fun A Q E s k q => wpAny_bind ((looks_clsIn X1 hcl) A _ E s k (wpAny_pure q))
  have kk2 : ∀ b o, hh.get? b = some o → (h1.push (kxs_mw "ValueError.__init__" x)).get? b = some o := fun b o e => Heap.get?_push_of_some _ (kk1 b o e)
  have hmw : (h1.push (kxs_mw "ValueError.__init__" x)).get? h1.objs.size = some (kxs_mw "ValueError.__init__" x) := Heap.get?_push_at rfl rfl
  have hs1 : starEach [Expr.Constant (.str tx) j p3] (ksEnv qual scope L fI (.ref cda) cc) = (false, eval (.Constant (.str tx) j p3) (ksEnv qual scope L fI (.ref cda) cc)) :: starEach [] (ksEnv qual scope L fI (.ref cda) cc) := by rfl
  show wpAny _ _ (callWith p4 (.ref h1.objs.size) [] (backTo p4 (starEach [Expr.Constant (.str tx) j p3] (ksEnv qual scope L fI (.ref cda) cc))) []) _ _ _
  rw [hs1]
  refine kxs_callWith (i := "ValueError.__init__") (x := x) (by rfl) (evalArgs_plain ?_)
  show wpAny _ _ (spliced ((false, eval (.Constant (.str tx) j p3) (ksEnv qual scope L fI (.ref cda) cc)) :: backTo p4 (starEach [] (ksEnv qual scope L fI (.ref cda) cc)))) _ _ _
  refine Calls.spliced_cons (Calls.Constant_str ?_)
  refine Calls.spliced_nil ⟨hmw, ?_⟩
  refine sx_call (kk2 _ _ (X _ _ hC)) (kk2 _ _ hx) hmw (by rw [sizeLine_eq]; exact (by decide : 1 ≤ 16777216)) fun h' t1 k e => ?_
  have kk3 : ∀ b o, b ≠ x → hh.get? b = some o → h'.get? b = some o := fun b o hb z => k b o hb (kk2 b o z)
  refine PySem.wpAt_of_wpAny (h h' _ t1 kk3 e ?_)
  obtain ⟨oL, es, ep, hL, r⟩ := hn
  exact ⟨oL, es, ep, kk3 _ _ hxL hL, r⟩
end

/-! ### the stores -/
/-- self.f = f -/
def mkStore (p : Str × Pos × Pos × Pos × Pos) : Stmt := .Assign [.Attribute (.Name "self" p.2.1) p.1 p.2.2.1] (.Name p.1 p.2.2.2.1) p.2.2.2.2
/-- the attributes behind the stores of l -/
def laid : List (Str × Value) → (Str → Option Value) → Str → Option Value
  | [], m0 => m0
  | (f, v) :: r, m0 => laid r fun y => if y = f then some v else m0 y

section
variable {prog : Program} {w : World} {A : Around} {E : Value → Shared → Prop} {K : Frag} {mg : Str → Option Value} {xn : Str} {C fI cc cda L x dx : Addr} {fs : List Str} {m : Str → Option Value} {scope : Scope} {qual : Str} {Q : Flow → Shared → Prop}
theorem ldS {s : Shared} {y : Str} {pos : Pos} {v : Value} {Q : Value → Shared → Prop} (hn : s.heap.Ns L m) (hv : m y = some v) (hk : scope.kind = .function) (hl : scope.names.lookup y = some .local) (hd : (y == ("__debug__" : Str)) = false) (h : Q v s) :
    wpAny (model prog w) A (eval (.Name y pos) (ksEnv qual scope L fI (.ref cda) cc)) Q E s := wpAny_Name (wpAny_loadName_local hk hl hn hv h) hd

theorem sx_more (T : SupTxt prog K mg xn C fI cc cda fs) (hk : scope.kind = .function) (hks : scope.names.lookup ("self" : Str) = some .local) {fv : Array Value} :
    ∀ (l : List ((Str × Pos × Pos × Pos × Pos) × Value)) (s : Shared) (m0 : Str → Option Value) (nl : List Str), (∀ p ∈ l, p.1.1 ∈ fs ∧ scope.names.lookup p.1.1 = some .local ∧ (p.1.1 == ("__debug__" : Str)) = false ∧ m p.1.1 = some p.2) →
      K.In s.heap → s.heap.Ns L m → m "self" = some (.ref x) → L ≠ dx → s.heap.get? x = some { cls := .ref C, dict := some dx, data := .fields fv } → s.heap.Ns1 dx m0 → Within m0 nl → nl.length + l.length ≤ 1000 → K.lookup dx = none → x ≠ dx →
      (∀ h' tk, (∀ b o, b ≠ dx → s.heap.get? b = some o → h'.get? b = some o) → h'.Ns1 dx (laid (l.map fun p => (p.1.1, p.2)) m0) → Q .next { s with heap := h', toks := tk }) →
      wpAny (model prog w) A (execs (l.map fun p => mkStore p.1) (ksEnv qual scope L fI (.ref cda) cc)) Q E s := by
  obtain ⟨nm, q, N, bs, bm, sn, sub, ab, col, dd, k0, k1, k2, k3, k5, hC, hbm⟩ := T.cls
  have hcl : clsIn K C = some { name := nm, bases := bs, mro := .ref C :: bm, ns := N, qualname := q, hasDict := true, slotNames := sn, subclasses := sub, abstract := ab, collection := col, hasDel := false } := by unfold clsIn; rw [hC] <;> rfl
  intro l
  induction l with
  | nil =>
    intro s m0 nl _ _ _ _ _ _ hns _ _ _ _ h
    obtain ⟨hp, g, d, tk, os⟩ := s
    exact wpAny_execs_nil (h hp tk (fun _ _ _ e => e) hns)
  | cons p l ih =>
    intro s m0 nl hl X hn hself hLd hx hns hw hz hKd hxd h
    obtain ⟨⟨f, q1, q2, q3, q4⟩, v⟩ := p
    obtain ⟨hf, hloc, hdbg, hv⟩ := hl _ (List.mem_cons_self ..)
    obtain ⟨hp, g, d, tk, os⟩ := s
    show wpAny _ _ (execs (mkStore (f, q1, q2, q3, q4) :: l.map fun p => mkStore p.1) _) _ _ _
    refine wpAny_execs_cons (plainObj_wpAny_Assign_Attribute ?_)
    refine ldS hn hv hk hloc hdbg (ldS hn hself hk hks (by decide +kernel) ?_)
    obtain ⟨oD, _, _, hoD, _, _⟩ := hns.count hw
    refine set_plain X (ox := { cls := .ref C, dict := some dx, data := .fields fv }) (od := some oD) ⟨hx, rfl, rfl, hoD⟩ T.sa ?_
    refine PySem.OEX.osa_old X hx hns hw (by simp only [List.length_cons] at hz; omega) hcl (show refsVE (.ref C :: bm) = true from hbm) rfl (T.noF f hf) (fun h1 tk1 k1 hn1 => ?_)
    have X1 : K.In h1 := fun a o e => k1 a o (fun z => by rw [z, hKd] at e; cases e) (X a o e)
    have hn2 : h1.Ns L m := by
      obtain ⟨oL, es, ep, hL, r⟩ := hn
      exact ⟨oL, es, ep, k1 _ _ hLd hL, r⟩
    refine ih ⟨h1, g, d, tk1, os⟩ _ (f :: nl) (fun p hp => hl p (List.mem_cons_of_mem _ hp)) X1 hn2 hself hLd (k1 _ _ hxd hx) hn1 (Within.cons f v hw) (by simp only [List.length_cons] at hz ⊢; omega) hKd hxd fun h' tk' k' n' => ?_
    exact h h' tk' (fun b o hb e => k' b o hb (k1 b o hb e)) n'

/-- what the exception at x is behind its __init__ -/
def InitBehind (h h' : Heap) (x C : Addr) : List (Str × Value) → Prop
  | [] => (∀ b o, b ≠ x → h.get? b = some o → h'.get? b = some o) ∧ ∃ t1, h'.get? x = some (excO C t1)
  | l => (∀ b o, b ≠ x → h.get? b = some o → h'.get? b = some o) ∧ ∃ t1 dx, h'.get? x = some { cls := .ref C, dict := some dx, data := .fields #[.ref t1, .none, .none, .none, .bool false, .none] } ∧ h.objs.size ≤ dx ∧ dx ≠ x ∧ h'.Ns1 dx (laid l fun _ => none)

theorem sx_stores (T : SupTxt prog K mg xn C fI cc cda fs) (hk : scope.kind = .function) (hks : scope.names.lookup ("self" : Str) = some .local) {s : Shared} {t0 : Addr}
    (l : List ((Str × Pos × Pos × Pos × Pos) × Value)) (hl : ∀ p ∈ l, p.1.1 ∈ fs ∧ scope.names.lookup p.1.1 = some .local ∧ (p.1.1 == ("__debug__" : Str)) = false ∧ m p.1.1 = some p.2) (hll : l.length ≤ 900)
    (X : K.In s.heap) (hn : s.heap.Ns L m) (hself : m "self" = some (.ref x)) (hLx : L ≠ x) (hx : s.heap.get? x = some (excO C t0)) (hKx : K.lookup x = none)
    (h : ∀ h' tk, InitBehind s.heap h' x C (l.map fun p => (p.1.1, p.2)) → Q .next { s with heap := h', toks := tk }) :
    wpAny (model prog w) A (execs (l.map fun p => mkStore p.1) (ksEnv qual scope L fI (.ref cda) cc)) Q E s := by
  obtain ⟨nm, q, N, bs, bm, sn, sub, ab, col, dd, k0, k1, k2, k3, k5, hC, hbm⟩ := T.cls
  have hcl : clsIn K C = some { name := nm, bases := bs, mro := .ref C :: bm, ns := N, qualname := q, hasDict := true, slotNames := sn, subclasses := sub, abstract := ab, collection := col, hasDel := false } := by unfold clsIn; rw [hC] <;> rfl
  cases l with
  | nil =>
    obtain ⟨hp, g, d, tk, os⟩ := s
    exact wpAny_execs_nil (h hp tk ⟨fun _ _ _ e => e, t0, hx⟩)
  | cons p l =>
    obtain ⟨⟨f, q1, q2, q3, q4⟩, v⟩ := p
    obtain ⟨hf, hloc, hdbg, hv⟩ := hl _ (List.mem_cons_self ..)
    obtain ⟨hp, g, d, tk, os⟩ := s
    show wpAny _ _ (execs (mkStore (f, q1, q2, q3, q4) :: l.map fun p => mkStore p.1) _) _ _ _
    refine wpAny_execs_cons (plainObj_wpAny_Assign_Attribute ?_)
    refine ldS hn hv hk hloc hdbg (ldS hn hself hk hks (by decide +kernel) ?_)
    refine set_plain X (ox := excO C t0) (od := none) ⟨hx, rfl, rfl, trivial⟩ T.sa ?_
    refine exc_osa X hx hcl (show refsVE (.ref C :: bm) = true from hbm) rfl (T.noF f hf) (fun h1 tk1 dx k1 dn dne hx1 hn1 => ?_)
    have X1 : K.In h1 := fun a o e => k1 a o (fun z => by rw [z, hKx] at e; cases e) (X a o e)
    have hKd : K.lookup dx = none := by
      cases e : K.lookup dx with
      | none => rfl
      | some o => exact absurd (Nat.lt_of_lt_of_le (Heap.lt_size (X _ _ e)) dn) (Nat.lt_irrefl _)
    have hLd : L ≠ dx := fun z => by
      have := hn.lt
      rw [z] at this
      exact absurd (Nat.lt_of_lt_of_le this dn) (Nat.lt_irrefl _)
    have hn2 : h1.Ns L m := by
      obtain ⟨oL, es, ep, hL, r⟩ := hn
      exact ⟨oL, es, ep, k1 _ _ hLx hL, r⟩
    refine sx_more T hk hks l ⟨h1, g, d, tk1, os⟩ _ [f] (fun p hp => hl p (List.mem_cons_of_mem _ hp)) X1 hn2 hself hLd hx1 hn1 (Within.cons f v Within.nil) (by simp only [List.length_cons, List.length_nil] at hll ⊢; omega) hKd (Ne.symm dne) fun h' tk' k' n' => ?_
    have hd : ∀ b o, hp.get? b = some o → b ≠ dx := fun b o e z => absurd (Nat.lt_of_lt_of_le (Heap.lt_size (z ▸ e : hp.get? dx = some o)) dn) (Nat.lt_irrefl _)
    exact h h' tk' ⟨fun b o hb e => k' b o (hd b o e) (k1 b o hb e), t0, dx, k' _ _ (Ne.symm dne) hx1, dn, dne, n'⟩
end

/-- the text of such an __init__ -/
structure SupFn (K : Frag) (fI cc cda : Addr) (fs : List Str) : Prop where
  ex : ∃ (oc : Value) (od : Option Addr) (osl : Array (Option Value)) (qual : Str) (params : Arguments) (scope : Scope) (doc pm ct : Value) (an : Option Addr) (l : List (Str × Pos × Pos × Pos × Pos)) (tx : Str) (j : Nat) (p0 p1 p2 p3 p4 p5 : Pos) (ar : Arg),
    K.lookup fI = some ⟨oc, od, .func (ksFn "__init__" qual params (.Expr (.Call (.Attribute (.Call (.Name "super" p0) [] [] p1) "__init__" p2) [.Constant (.str tx) j p3] [] p4) p5 :: l.map mkStore) scope .none .none doc pm an (.ref cda) ct cc), osl⟩ ∧
    codeIn K (.ref cda) qual = true ∧ l.map (·.1) = fs ∧ (params.posonlyargs ++ params.args).head? = some ar ∧ ar.arg = "self" ∧ scope.kind = .function ∧ scope.isCoroutine = false ∧ scope.isGenerator = false ∧
    (∀ x ∈ scope.names, x.2 ≠ .cell) ∧ (∀ y ∈ (("self" : Str) :: fs), scope.names.lookup y = some .local) ∧ (∀ y ∈ fs, (y == ("__debug__" : Str)) = false) ∧ scope.names.lookup ("super" : Str) = some .globalImplicit ∧ scope.names.lookup ("__class__" : Str) = some .free ∧
    (("self" : Str) :: fs).Nodup ∧
    (∀ us : List Value, us.length = (("self" : Str) :: fs).length → bindArgs (ksFn "__init__" qual params (.Expr (.Call (.Attribute (.Call (.Name "super" p0) [] [] p1) "__init__" p2) [.Constant (.str tx) j p3] [] p4) p5 :: l.map mkStore) scope .none .none doc pm an (.ref cda) ct cc) ⟨us, []⟩ = pure ((("self" : Str) :: fs).zip us)) ∧
    ∃ pl : Addr → Sem Bool, ∀ L : Addr, eval (.Call (.Attribute (.Call (.Name "super" p0) [] [] p1) "__init__" p2) [.Constant (.str tx) j p3] [] p4) (ksEnv qual scope L fI (.ref cda) cc) = (do
      let ov ← attributeBase (.Call (.Name "super" p0) [] [] p1) "__init__" (ksEnv qual scope L fI (.ref cda) cc) (eval (.Call (.Name "super" p0) [] [] p1) (ksEnv qual scope L fI (.ref cda) cc))
      standAt p2.atName
      let (f, first) ← holding [ov] (getMethod ov "__init__" (pl L))
      callWith p4 f first (backTo p4 (starEach [Expr.Constant (.str tx) j p3] (ksEnv qual scope L fI (.ref cda) cc))) [])

theorem lookup_rev {y : Str} {v : Value} : ∀ {l : List (Str × Value)}, (l.map (·.1)).Nodup → (y, v) ∈ l → l.reverse.lookup y = some v := by
  intro l nd hm
  have nd' : (l.reverse.map (·.1)).Nodup := by rw [List.map_reverse]; exact (List.reverse_perm _).nodup_iff.mpr nd
  have hm' : (y, v) ∈ l.reverse := List.mem_reverse.mpr hm
  revert nd' hm'
  generalize l.reverse = r
  intro nd' hm'
  induction r with
  | nil => cases hm'
  | cons p r ih =>
    obtain ⟨z, u⟩ := p
    rw [List.map_cons, List.nodup_cons] at nd'
    rcases List.mem_cons.mp hm' with e | e
    · cases e
      simp [List.lookup]
    · have hz : y ≠ z := fun q => nd'.1 (List.mem_map.mpr ⟨(y, v), e, q⟩)
      have hb : (y == z) = false := by simpa using hz
      simp only [List.lookup, hb]
      exact ih nd'.2 e

section
variable {prog : Program} {w : World} {A : Around} {R : Result → Shared → Prop} {s : Shared} {K : Frag} {mg : Str → Option Value} {xn : Str} {C fI cc cda x t0 : Addr} {fs : List Str}
theorem sx_init (T : SupTxt prog K mg xn C fI cc cda fs) (TF : SupFn K fI cc cda fs) (S : SupMod prog K mg) {vs : List Value} (hvl : vs.length = fs.length) (hfl : fs.length ≤ 900) (X : K.In s.heap) (hlim : s.heap.NoLimit) (hg : s.heap.Ns mainGlobals mg) (hb : ∃ mb, s.heap.Ns builtinsNs mb ∧ ∀ x : Str, x ≠ "__name__" → mb x = bootBuiltins x)
    (hx : s.heap.get? x = some (excO C t0)) (hKx : K.lookup x = none) (hroom : A.depth < recursionLimit)
    (hq : ∀ h' tk, InitBehind s.heap h' x C (fs.zip vs) → R (.ok (.ret .none)) { s with heap := h', toks := tk }) :
    codeAny (model prog w) A (.call (.ref fI) ⟨.ref x :: vs, []⟩) R s := by
  obtain ⟨oc, od, osl, qual, params, scope, doc, pm, ct, an, l, tx, j, p0, p1, p2, p3, p4, p5, ar, lk, hcd, hlf, hhead, har, hk, hco, hgen, hcell, hloc, hdbg, hsup, hcls, hnd, hbind, pl, hev⟩ := TF.ex
  have hln : (Value.ref x :: vs).length = (("self" : Str) :: fs).length := by simp only [List.length_cons, hvl]
  have hl2 : l.length = vs.length := by rw [hvl, ← hlf, List.length_map]
  have hmapn : ((("self" : Str) :: fs).zip (Value.ref x :: vs)).map (·.1) = ("self" : Str) :: fs := by
    rw [List.map_fst_zip]; exact Nat.le_of_eq hln.symm
  refine ks_codeAny_call_defAt (fd := ksFn "__init__" qual params _ scope .none .none doc pm an (.ref cda) ct cc) (binds := (("self" : Str) :: fs).zip (Value.ref x :: vs)) hroom (X _ _ lk) rfl hlim (codeRec_of X hcd) rfl (BindsTo.of_eq (hbind _ hln)) hcell (fun y hy => hloc _ (List.of_mem_zip hy).1) (fun h1 hns1 kk1 => ?_) hco hgen hk
  have X1 : K.In h1 := X.keeps kk1
  have hx1 := kk1 _ _ hx
  have hself : ((("self" : Str) :: fs).zip (Value.ref x :: vs)).reverse.lookup ("self" : Str) = some (Value.ref x) := lookup_rev (by rw [hmapn]; exact hnd) (by simp)
  have hLx : s.heap.objs.size ≠ x := Nat.ne_of_gt (Heap.lt_size hx)
  obtain ⟨mb, hbn, hbb⟩ := hb
  have up : ∀ {b : Addr} {mm : Str → Option Value}, s.heap.Ns b mm → h1.Ns b mm := fun {b mm} z => by
    obtain ⟨o, es, ep, e, r⟩ := z
    exact ⟨o, es, ep, kk1 _ _ e, r⟩
  show _root_.PySem.wpAt _ (A.deeper (ksEnv qual scope s.heap.objs.size fI (.ref cda) cc)) (.func _ (ksEnv qual scope s.heap.objs.size fI (.ref cda) cc)) (execs _ (ksEnv qual scope s.heap.objs.size fI (.ref cda) cc)) _ _ _
  refine sx_first (m := fun y => ((("self" : Str) :: fs).zip (Value.ref x :: vs)).reverse.lookup y) T S X1 (up hg) ⟨mb, up hbn, hbb⟩ lk hhead har hns1 hself hx1 hLx hsup hcls (hloc _ (List.mem_cons_self ..)) hk (fun h2 tk2 t2 kk2 hx2 hns2 => ?_) (hev _)
  have X2 : K.In h2 := fun a o e => kk2 a o (fun z => by rw [z, hKx] at e; cases e) (X1 a o e)
  have zl : (l.zip vs).map (fun p => mkStore p.1) = l.map mkStore := by
    have e1 : (l.zip vs).map (fun p => mkStore p.1) = ((l.zip vs).map Prod.fst).map mkStore := by rw [List.map_map]; rfl
    rw [e1, List.map_fst_zip (Nat.le_of_eq hl2)]
  have zf : (l.zip vs).map (fun p => (p.1.1, p.2)) = fs.zip vs := by
    rw [← hlf, List.zip_map_left]
    rfl
  rw [← zl]
  refine sx_stores T hk (hloc _ (List.mem_cons_self ..)) (l.zip vs) (fun p hp => ?_) (by rw [List.length_zip]; omega) X2 hns2 hself hLx hx2 hKx (fun h3 tk3 IB => ?_)
  · have h1 : p.1.1 ∈ fs := by rw [← hlf]; exact List.mem_map.mpr ⟨p.1, (List.of_mem_zip hp).1, rfl⟩
    refine ⟨h1, hloc _ (List.mem_cons_of_mem _ h1), hdbg _ h1, lookup_rev (by rw [hmapn]; exact hnd) ?_⟩
    rw [List.zip_cons_cons]
    refine List.mem_cons_of_mem _ ?_
    rw [← zf]
    exact List.mem_map.mpr ⟨p, hp, rfl⟩
  · rw [zf] at IB
    have kk12 : ∀ b o, b ≠ x → s.heap.get? b = some o → h2.get? b = some o := fun b o hb e => kk2 b o hb (kk1 b o e)
    refine hq h3 tk3 ?_
    have sz : s.heap.objs.size ≤ h2.objs.size := Nat.le_of_lt hns2.lt
    revert IB
    cases fs.zip vs with
    | nil => exact fun IB => ⟨fun b o hb e => IB.1 b o hb (kk12 b o hb e), IB.2⟩
    | cons p r => exact fun IB => ⟨fun b o hb e => IB.1 b o hb (kk12 b o hb e), by
        obtain ⟨t1, dx, e1, e2, e3, e4⟩ := IB.2
        exact ⟨t1, dx, e1, Nat.le_trans sz e2, e3, e4⟩⟩

/-- what a made exception is: its object at e, its fields -/
def MadeAt (h h' : Heap) (e C : Addr) : List (Str × Value) → Prop
  | [] => ∃ t1, h'.get? e = some (excO C t1)
  | l => ∃ t1 dx, h'.get? e = some { cls := .ref C, dict := some dx, data := .fields #[.ref t1, .none, .none, .none, .bool false, .none] } ∧ h.objs.size ≤ dx ∧ dx ≠ e ∧ h'.Ns1 dx (laid l fun _ => none)
theorem sx_made (T : SupTxt prog K mg xn C fI cc cda fs) (TF : SupFn K fI cc cda fs) (S : SupMod prog K mg) {vs : List Value} (hvl : vs.length = fs.length) (hfl : fs.length ≤ 900) (X : K.In s.heap) (hlim : s.heap.NoLimit) (hg : s.heap.Ns mainGlobals mg) (hb : ∃ mb, s.heap.Ns builtinsNs mb ∧ ∀ x : Str, x ≠ "__name__" → mb x = bootBuiltins x)
    (hroom : A.depth + 1 < recursionLimit)
    (hq : ∀ h' tk e, (∀ b o, s.heap.get? b = some o → h'.get? b = some o) → s.heap.objs.size ≤ e → MadeAt s.heap h' e C (fs.zip vs) → R (.ok (.ret (.ref e))) { s with heap := h', toks := tk }) :
    codeAny (model prog w) A (.call (.ref C) ⟨vs, []⟩) R s := by
  obtain ⟨nm, q, N, bs, bm, sn, sub, ab, col, dd, k0, k1, k2, k3, k5, hC, hbm⟩ := T.cls
  obtain ⟨hp, g, dr, tk, os⟩ := s
  have k : ∀ b o, hp.get? b = some o → ((hp.push (kdv_tup vs)).push (excO C hp.objs.size)).get? b = some o := fun b o e => Heap.get?_push_of_some _ (Heap.get?_push_of_some _ e)
  have hget : ((hp.push (kdv_tup vs)).push (excO C hp.objs.size)).get? (hp.objs.size + 1) = some (excO C hp.objs.size) := by heap_get
  have hnx : K.lookup (hp.objs.size + 1) = none := by
    cases e : K.lookup (hp.objs.size + 1) with
    | none => rfl
    | some o =>
      have z : hp.get? (hp.objs.size + 1) = some o := X _ _ e
      exact absurd (Nat.lt_of_succ_lt (Heap.lt_size z)) (Nat.lt_irrefl _)
  have up : ∀ {b : Addr} {mm : Str → Option Value}, hp.Ns b mm → ((hp.push (kdv_tup vs)).push (excO C hp.objs.size)).Ns b mm := fun {b mm} z => by
    obtain ⟨o, es, ep, e, r⟩ := z
    exact ⟨o, es, ep, k _ _ e, r⟩
  obtain ⟨mb, hbn, hbb⟩ := hb
  have hsz : ((hp.push (kdv_tup vs)).push (excO C hp.objs.size)).objs.size = hp.objs.size + 1 + 1 := by rw [Heap.size_push, Heap.size_push]
  refine call_own F.excBase_ValueError (fun X => refsVE_contains X bm hbm) (X _ _ hC) (looks_findIn X T.iC) (fun self => bind_fn X self T.tI) (by rw [hvl, sizeLine_eq]; omega) ?_
  refine sx_init (s := ⟨(hp.push (kdv_tup vs)).push (excO C hp.objs.size), g, dr, tk, os⟩) T TF S hvl hfl (X.keeps k) (hlim.keeps k) (up hg) ⟨mb, up hbn, hbb⟩ hget hnx ?_ fun h' tk' IB => ?_
  · show A.depth + 1 < recursionLimit
    exact hroom
  · have old : ∀ b o, hp.get? b = some o → b ≠ hp.objs.size + 1 := fun b o e => Nat.ne_of_lt (Nat.lt_succ_of_lt (Heap.lt_size e))
    refine ⟨rfl, ?_⟩
    revert IB
    generalize ez : fs.zip vs = l
    intro IB
    cases l with
    | nil =>
      obtain ⟨k', t1, hx⟩ := IB
      exact hq h' tk' (hp.objs.size + 1) (fun b o e => k' b o (old b o e) (k b o e)) (Nat.le_succ _) (by rw [ez]; exact ⟨t1, hx⟩)
    | cons p r =>
      obtain ⟨k', t1, dx, hx, dn, dne, hns⟩ := IB
      exact hq h' tk' (hp.objs.size + 1) (fun b o e => k' b o (old b o e) (k b o e)) (Nat.le_succ _) (by
        rw [ez]
        exact ⟨t1, dx, hx, Nat.le_trans (Nat.le_trans (Nat.le_succ _) (Nat.le_succ _)) (by show hp.objs.size + 1 + 1 ≤ dx; rw [← hsz]; exact dn), dne, hns⟩)
end
end SupX
end PySem
namespace L2
open PySem PySem.Spec PyProof.Rows
theorem laid_out : ∀ {l : List (Str × Value)} {m0 : Str → Option Value} {f : Str}, f ∉ l.map (·.1) → PySem.SupX.laid l m0 f = m0 f
  | [], _, _, _ => rfl
  | (g, v) :: r, m0, f, h => by
    have h1 : f ≠ g := fun e => h (by simp [e])
    have h2 : f ∉ r.map (·.1) := fun e => h (by simp only [List.map_cons]; exact List.mem_cons_of_mem _ e)
    show PySem.SupX.laid r _ f = _
    rw [laid_out h2, if_neg h1]
theorem relO_laid : ∀ {fs : List Str} {vs : List V} {us : List Value}, fs.Nodup → Vals vs us → ∀ (m0 : Str → Option Value) (f : Str), f ∈ (fs.zip vs).map (·.1) → RelO ((fs.zip vs).lookup f) (PySem.SupX.laid (fs.zip us) m0 f)
  | [], _, _, _, _, _, _, h => by simp at h
  | _ :: _, _, _, _, .nil, _, _, h => by simp at h
  | g :: fs, _, _, hn, .cons (b := u) (a := v) r t, m0, f, h => by
    obtain ⟨h1, h2⟩ := List.nodup_cons.mp hn
    show RelO (List.lookup f ((g, v) :: fs.zip _)) (PySem.SupX.laid (fs.zip _) (fun y => if y = g then some u else m0 y) f)
    by_cases e : f = g
    · subst e
      have nz : f ∉ (fs.zip (by assumption)).map (·.1) := fun z => h1 (by
        obtain ⟨p, hp, e⟩ := List.mem_map.mp z
        rw [← e]
        exact (List.of_mem_zip hp).1)
      rw [laid_out (l := fs.zip _) (by
        intro z
        obtain ⟨p, hp, e⟩ := List.mem_map.mp z
        exact h1 (by rw [← e]; exact (List.of_mem_zip hp).1)), if_pos rfl]
      simp only [List.lookup, beq_self_eq_true]
      exact r
    · have hb : (f == g) = false := by simpa using e
      simp only [List.lookup, hb]
      refine relO_laid h2 t _ f ?_
      simp only [List.zip_cons_cons, List.map_cons, List.mem_cons] at h
      exact h.resolve_left e
theorem zip_keys {α β : Type} : ∀ (fs : List Str) (vs : List α) (us : List β), vs.length = us.length → (fs.zip vs).map (·.1) = (fs.zip us).map (·.1)
  | [], _, _, _ => rfl
  | _ :: _, [], [], _ => rfl
  | _ :: _, [], _ :: _, h => by simp at h
  | _ :: _, _ :: _, [], h => by simp at h
  | f :: fs, v :: vs, u :: us, h => by
    show f :: (fs.zip vs).map (·.1) = f :: (fs.zip us).map (·.1)
    rw [zip_keys fs vs us (by simpa using h)]
theorem relO_laid0 {fs : List Str} {vs : List V} {us : List Value} (hn : fs.Nodup) (r : Vals vs us) (f : Str) : RelO ((fs.zip vs).lookup f) (PySem.SupX.laid (fs.zip us) (fun _ => none) f) := by
  by_cases h : f ∈ (fs.zip vs).map (·.1)
  · exact relO_laid hn r _ f h
  · have hl := r.length
    have e1 : (fs.zip vs).map (·.1) = (fs.zip us).map (·.1) := by
      exact zip_keys fs vs us hl
    rw [laid_out (by rw [← e1]; exact h)]
    have e2 : (fs.zip vs).lookup f = none := by
      revert h
      generalize fs.zip vs = l
      induction l with
      | nil => intro _; rfl
      | cons p l ih =>
        intro h
        obtain ⟨g, v⟩ := p
        have h1 : f ≠ g := fun e => h (by simp [e])
        have hb : (f == g) = false := by simpa using h1
        simp only [List.lookup, hb]
        exact ih fun z => h (by simp only [List.map_cons]; exact List.mem_cons_of_mem _ z)
    rw [e2]
    trivial
/-- all that is asked of such a class, at one place -/
structure ExT (prog : Program) (K : PySem.W.Frag) (mg : Str → Option Value) (x : Str) (C : Addr) (fs : List Str) : Prop where
  ex : ∃ fI cc cda, PySem.SupX.SupTxt prog K mg x C fI cc cda fs ∧ PySem.SupX.SupFn K fI cc cda fs
  md : PySem.SupX.SupMod prog K mg
  nd : fs.Nodup
  le : fs.length ≤ 900
theorem ExT.gC {prog : Program} {K : PySem.W.Frag} {mg : Str → Option Value} {x : Str} {C : Addr} {fs : List Str} (T : ExT prog K mg x C fs) : mg x = some (.ref C) := let ⟨_, _, _, a, _⟩ := T.ex; a.gC
theorem ExT.kC {prog : Program} {K : PySem.W.Frag} {mg : Str → Option Value} {x : Str} {C : Addr} {fs : List Str} (T : ExT prog K mg x C fs) : PySem.W.keepIn K (.ref C) = true := let ⟨_, _, _, a, _⟩ := T.ex; a.kC
theorem ExT.xf {prog : Program} {K : PySem.W.Frag} {mg : Str → Option Value} {x : Str} {C : Addr} {fs : List Str} (T : ExT prog K mg x C fs) : XfC K C := let ⟨_, _, _, a, _⟩ := T.ex; a.xf
theorem ExT.tyC {prog : Program} {K : PySem.W.Frag} {mg : Str → Option Value} {x : Str} {C : Addr} {fs : List Str} (T : ExT prog K mg x C fs) : PySem.W.typeIn K (.ref C) = some (.type "type") := let ⟨_, _, _, a, _⟩ := T.ex; a.tyC
theorem ExT.noF {prog : Program} {K : PySem.W.Frag} {mg : Str → Option Value} {x : Str} {C : Addr} {fs : List Str} (T : ExT prog K mg x C fs) {f : Str} (h : f ∈ fs) : PySem.W.findIn K (.ref C) f = some none := let ⟨_, _, _, a, _⟩ := T.ex; a.noF f h
/-- C(e, ..) for such a class -/
def tMkX (C : Addr) (fs : List Str) (ta : TA) : St → Hp → XK → Prop := fun σ H Q => ta σ H fun vs H1 => vs.length = fs.length ∧ (fs = [] → Q (.ref C) none H1) ∧ (fs ≠ [] → ∀ d, H1 d = none → Q (.ref C) (some d) (upd H1 d (.xd (fs.zip vs))))
section
variable {X : Cx} {C : Addr} {fs : List Str} {x : Str}
/-- what the call of the class leaves -/
theorem mkx_end {pins : List (Addr × Obj)} {σ : St} {H1 : Hp} {s1 : Shared} {Q : XK} {vs : List V} {us : List Value} {A : Around} {k : Nat} (T : ExT X.prog X.K X.mg x C fs) (hr : Room k X.A) (I1 : Inv X pins σ H1 s1) (r1 : Vals vs us) (hl : vs.length = fs.length)
    (q0 : fs = [] → Q (.ref C) none H1) (q1 : fs ≠ [] → ∀ d, H1 d = none → Q (.ref C) (some d) (upd H1 d (.xd (fs.zip vs)))) :
    wpAny (model X.prog X.w) X.A (call (.ref C) us) (MkP X pins σ Q) X.xe s1 := by
  obtain ⟨fI, cc, cda, T1, T2⟩ := T.ex
  have hlim := I1.nolimit
  have hgl := I1.mod.glob.keeps I1.bk
  obtain ⟨mb, hb1, hb2⟩ := I1.mod.blt
  have hus : us.length = fs.length := by rw [← r1.length]; exact hl
  obtain ⟨hp, g, dr, tk, os⟩ := s1
  refine wpAny_call (PySem.SupX.sx_made T1 T2 T.md hus T.le I1.kIn hlim hgl ⟨mb, hb1.keeps I1.bk, hb2⟩ (by have := hr.dp; omega) fun h' tk' e kp en M => ?_)
  show MkP X pins σ Q (.ref e) ⟨h', g, dr, tk', os⟩
  obtain ⟨G', g1, g2⟩ := restrict h' fun b => decide (b ≠ e)
  have gk : ∀ b, b ≠ e → G'.get? b = h'.get? b := fun b hb => g1 b (decide_eq_true hb)
  have ge : G'.get? e = none := g2 e (by simp)
  have old : ∀ b o, hp.get? b = some o → G'.get? b = some o := fun b o q => (gk b (Nat.ne_of_lt (Nat.lt_of_lt_of_le (Heap.lt_size q) en))).trans (kp b o q)
  have R : Raises X (.ref C) := raises_own T1.xf.exC T1.tyC
  have kk : ∀ b o, G'.get? b = some o → h'.get? b = some o := fun b o q => by
    by_cases hb : b = e
    · rw [hb, ge] at q; cases q
    · exact (gk b hb).symm.trans q
  cases fs with
  | nil =>
    have M' : ∃ t1, h'.get? e = some (HandSPX.excO C t1) := by
      cases us with
      | nil => exact M
      | cons _ _ => exact M
    obtain ⟨t1, he⟩ := M'
    have J : Inv X pins σ H1 ⟨G', g, dr, tk', os⟩ := I1.kept (t' := tk') old
    exact ⟨e, _, _, ⟨G', g, dr, tk', os⟩, H1, .ref C, none, rfl, J, kk, ge, he, ⟨rfl, rfl⟩, rfl, rfl, I1.hok.fresh en, rfl, I1.bare, R, q0 rfl⟩
  | cons f fr =>
    cases us with
    | nil => simp at hus
    | cons u ur =>
      obtain ⟨t1, dx, he, hdx, dne, hns⟩ := M
      have ob : ObjOk X.prog X.w (upd H1 dx (.xd ((f :: fr).zip vs))) G' dx (.xd ((f :: fr).zip vs)) :=
        ⟨_, hns.at (fun o q => (gk dx dne).trans q), fun y => relO_laid0 T.nd r1 y⟩
      have J : Inv X pins σ (upd H1 dx (.xd ((f :: fr).zip vs))) ⟨G', g, dr, tk', os⟩ := I1.laid (t' := tk') old hdx ob
      refine ⟨e, _, _, ⟨G', g, dr, tk', os⟩, _, .ref C, some dx, rfl, J, kk, ge, he, ⟨rfl, rfl⟩, rfl, rfl, ?_, rfl, I1.bare, R, q1 (by simp) dx (I1.hok.fresh hdx)⟩
      rw [upd_ne (Ne.symm dne)]
      exact I1.hok.fresh en
theorem pmk_x {a : Expr} {es : List Expr} {ta : TA} {p pos : Pos} {k : Nat} (T : ExT X.prog X.K X.mg x C fs) (hr : Room k X.A) (ha : PA X (a :: es) ta) (hg : Gl X x := by rfl) (hdb : (x == ("__debug__" : Str)) = false := by decide)
    (he : starEach (a :: es) X.env = (false, eval a X.env) :: starEach es X.env := by rfl) (hpl : (backTo pos (starEach es X.env)).any (·.1) = false := by rfl) :
    PMk X (.Call (.Name x p) (a :: es) [] pos) (tMkX C fs ta) := by
  intro pins s σ H Q I h
  refine wpAny_Call_Name_kw (ld_glob I hg T.gC ?_ hdb)
  refine PySem.W.callWith_K (h₀ := X.base) I.ok.mod.kin T.kC (thn (ha.run pos pins s σ H _ I h) fun us s1 ⟨vs, H1, I1, r1, hl, q0, q1⟩ => ⟨I1.kIn, ?_⟩) he hpl
  exact mkx_end (A := X.A) T hr I1 r1 hl q0 q1
theorem pmk_x0 {p pos : Pos} {k : Nat} (T : ExT X.prog X.K X.mg x C fs) (hr : Room k X.A) (hg : Gl X x := by rfl) (hdb : (x == ("__debug__" : Str)) = false := by decide) :
    PMk X (.Call (.Name x p) [] [] pos) (tMkX C fs tNil) := by
  intro pins s σ H Q I h
  obtain ⟨hl, q0, q1⟩ := h
  refine wpAny_Call_Name_kw (ld_glob I hg T.gC ?_ hdb)
  exact PySem.W.callWith_K0 I.kIn T.kC (mkx_end (A := X.A) T hr I .nil hl q0 q1)
/-- raise C(e, ..) -/
def tRaiseX (C : Addr) (fs : List Str) (W : WX) (ta : TA) : TS := fun _ σ H => tMkX C fs ta σ H fun cls d H' => W cls d σ H'
theorem ps_raiseX {a : Expr} {es : List Expr} {ta : TA} {W : WX} {p pos pos2 : Pos} {k : Nat} (hc : X.calm = true) (T : ExT X.prog X.K X.mg x C fs) (hr : Room k X.A) (tk : Takes X W) (ha : PA X (a :: es) ta) (hg : Gl X x := by rfl) (hdb : (x == ("__debug__" : Str)) = false := by decide)
    (he : starEach (a :: es) X.env = (false, eval a X.env) :: starEach es X.env := by rfl) (hpl : (backTo pos (starEach es X.env)).any (·.1) = false := by rfl) :
    PS X (.Raise (some (.Call (.Name x p) (a :: es) [] pos)) none pos2) (tRaiseX C fs W ta) := ps_raise hc tk (pmk_x T hr ha hg hdb he hpl)
theorem ps_raiseX0 {W : WX} {p pos pos2 : Pos} {k : Nat} (hc : X.calm = true) (T : ExT X.prog X.K X.mg x C fs) (hr : Room k X.A) (tk : Takes X W) (hg : Gl X x := by rfl) (hdb : (x == ("__debug__" : Str)) = false := by decide) :
    PS X (.Raise (some (.Call (.Name x p) [] [] pos)) none pos2) (tRaiseX C fs W tNil) := ps_raise hc tk (pmk_x0 T hr hg hdb)
end
end L2

/-! enumerate of a tuple, at the library's level -/
namespace PySem
open AutoSeq1 (wpAny_loadPart')
theorem meets_enumerate_newT (l : Addr) (items : Array Value) (n : Nat) (dct : Option Addr) (sl : Array (Option Value)) :
    Meets (Builtin.«enumerate.__new__» ⟨[.type "enumerate", .ref l], []⟩) (fun _ R s => s.heap.get? l = some { cls := .type "tuple", dict := dct, data := .seq items n, slots := sl } ∧
      R (.ok (.ret (.ref (s.heap.push { cls := .type "tuple_iterator", data := .fields #[.ref l, .int 0 0] }).objs.size)))
        { s with heap := (s.heap.push { cls := .type "tuple_iterator", data := .fields #[.ref l, .int 0 0] }).push { cls := .type "enumerate", data := .fields #[.none, .bool false, .ref s.heap.objs.size, rawInt 0, .none, .none] } }) :=
  .of_wp fun prog w A R s h => by
    obtain ⟨hp, g, d, tk, os⟩ := s; obtain ⟨hl, h⟩ := h
    have hsub := sub_enumerate
    have hL : Heap.IsTuple (Shared.heap ⟨hp, g, d, tk, os⟩) l items := ⟨_, hl, rfl, n, rfl⟩
    wp_walk using wpAny_loadPart' hl
    refine wpAny_stack_any fun st => wpAny_pure ?_
    split
    · rename_i c _ _ _ _ _
      cases (c == Value.type "enumerate")
      · wp_walk using wpAny_loadPart' hl, wpAny_pyIter_tuple hL
        exact ⟨_, rfl, h⟩
      · wp_walk using wpAny_loadPart' hl, wpAny_pyIter_tuple hL
        exact ⟨_, rfl, h⟩
    · wp_walk using wpAny_loadPart' hl, wpAny_pyIter_tuple hL
      exact ⟨_, rfl, h⟩
section
variable {prog : Program} {w : World} {A : Around} {E : Value → Shared → Prop} {s : Shared}
theorem call_enumerate_tup {l : Addr} {items : Array Value} {Q : Value → Shared → Prop} (hL : s.heap.IsTuple l items)
    (h : ∀ h', IsEnum h' (s.heap.objs.size + 1) s.heap.objs.size 0 .none → h'.IsTupleIter s.heap.objs.size l 0 → h'.objs.size = s.heap.objs.size + 2 →
      (∀ b o, s.heap.get? b = some o → h'.get? b = some o) → Q (.ref (s.heap.objs.size + 1)) { s with heap := h' }) :
    wpAny (model prog w) A (call (.type "enumerate") [.ref l]) Q E s := by
  obtain ⟨⟨c, dct, dt, sl⟩, hl, hc, n, hd⟩ := hL
  replace hc : c = .type "tuple" := hc
  replace hd : dt = .seq items n := hd
  subst hc hd
  refine callType_new F.called_enumerate (by decide) (F.typeCall_enumerate_1 _) (F.newCall_enumerate_1 _) (fun obj => F.args_object_init_2 obj _) F.entry_enumerate_new
    (meets_enumerate_newT l items n dct sl) ⟨hl, ?_⟩
  have hz : (s.heap.push { cls := .type "tuple_iterator", data := .fields #[.ref l, .int 0 0] }).objs.size = s.heap.objs.size + 1 := Heap.size_push ..
  show _ ∧ _
  rw [hz]
  have he : IsEnum ((s.heap.push { cls := .type "tuple_iterator", data := .fields #[.ref l, .int 0 0] }).push
      { cls := .type "enumerate", data := .fields #[.none, .bool false, .ref s.heap.objs.size, rawInt 0, .none, .none] }) (s.heap.objs.size + 1) s.heap.objs.size 0 .none := by
    have := Heap.get?_push_size (s.heap.push { cls := .type "tuple_iterator", data := .fields #[.ref l, .int 0 0] })
      (o := { cls := .type "enumerate", data := .fields #[.none, .bool false, .ref s.heap.objs.size, rawInt 0, .none, .none] }) rfl
    rw [hz] at this; exact this
  refine ⟨⟨_, he, rfl⟩, h _ he ⟨_, Heap.get?_push_of_some _ (Heap.get?_push_size _ rfl), rfl, rfl⟩ (by rw [Heap.size_push, hz]) fun b o x => Heap.get?_push_of_some _ (Heap.get?_push_of_some _ x)⟩
end
end PySem

/-! Rules of my own beside the hand layer's. -/
namespace L2
open PySem PySem.Spec PyProof.Rows
/-! ### enumerate of a tuple -/
def IteT (K : PySem.W.Frag) (a : Addr) : It :=
  ⟨fun i H => ∃ (xs : List V) (x : V), SqT K H a xs ∧ xs[i]? = some x, fun i H v H' => ∃ T x, v = .ref T ∧ H T = none ∧ H' = upd H T (.tup [.int (i : Nat), x]) ∧ ∀ xs, SqT K H a xs → xs[i]? = some x, fun i H => ∃ xs : List V, SqT K H a xs ∧ xs.length ≤ i⟩
theorem turn_enumT {P : Program} {w : World} {K : PySem.W.Frag} {elts : List Expr} {kk : Nat} {tpos : Pos} (a e it : Addr) (its : Array Value) (hai : a ≠ it) (hae : a ≠ e) :
    Turn P w K (.Tuple elts kk tpos) (IteT K a) [e, it] e (fun i h => (∃ old, IsEnum h e it ((i : Nat) : Int) old) ∧ h.IsTupleIter it a i ∧ e ≠ it) where
  mem := by simp
  obj := fun i h st b hb => by
    obtain ⟨⟨old, he⟩, ⟨o, ho, hc, hd⟩, _⟩ := st
    have e' : b = e ∨ b = it := by simpa using hb
    rcases e' with z | z
    · rw [z]; exact ⟨_, he, fun v q => nomatch q⟩
    · rw [z]; exact ⟨o, ho, fun v q => by rw [hd] at q; cases q⟩
  keep := fun i h h' st k => let ⟨⟨old, he⟩, hi, hne⟩ := st; ⟨⟨old, k e (by simp) _ he⟩, hi.at fun o q => k it (by simp) o q, hne⟩
  item := by
    intro X hP hw hK hc i pins s σ H E I hf st hg
    subst hP hw hK
    obtain ⟨⟨old, he⟩, hit, hne⟩ := st
    obtain ⟨xs, x, hq, hx⟩ := hg
    obtain ⟨its, rv, p, hz⟩ := I.tuple hq
    obtain ⟨u, hu, ru⟩ := rv.get hx
    have hel : e < s.heap.objs.size := Heap.lt_size he
    have hil : it < s.heap.objs.size := by obtain ⟨_, q, _⟩ := hit; exact Heap.lt_size q
    have hlt : i < its.toArray.size := by
      have := (List.getElem?_eq_some_iff.mp hu).1
      simpa using this
    refine wpAny_pyNext_enum_itemD (PySem.Draws.tuple (prog := X.prog) (w := X.w) (A := X.A.in1) (I.ok.hd hc) it a hai its.toArray) he ⟨hit, p⟩ hlt hne (by simp [hne, Ne.symm hae]) fun x' h' tk hP ho hs' hT hsz hk => ?_
    have hxu : x' = u := by
      have : its.toArray[i]? = some x' := hP
      have e2 : its.toArray[i]? = some u := by simpa using hu
      exact Option.some.inj (this.symm.trans e2)
    subst hxu
    refine ⟨_, rfl, wpAny_letOwnedTupleGo_enum (s := { s with heap := h', toks := tk + 1 }) ho fun h'' he' sb => ?_⟩
    have hT2 : h''.get? s.heap.objs.size = some { cls := .type "tuple", data := .seq #[.int i tk, x'] } := (sb.2 _ (Nat.ne_of_gt hel)).trans hT
    have new : ObjOk X.prog X.w (upd H s.heap.objs.size (.tup [.int (i : Nat), x])) h'' s.heap.objs.size (.tup [.int (i : Nat), x]) :=
      ⟨by show 2 ≤ sizeLine; decide, [.int i tk, x'], .cons ⟨_, rfl⟩ (.cons ru .nil), ⟨_, hT2, rfl, _, rfl⟩⟩
    have I1 : Inv X pins σ (upd H s.heap.objs.size (.tup [.int (i : Nat), x])) { s with heap := h'', toks := tk + 1 } :=
      I.turnedNew (ch := [e, it]) (fun b ob hb q => (sb.2 b (fun z => hb (by simp [z]))).trans (hk b ob (fun z => hb (by simp [z])) (fun z => hb (by simp [z])) q)) hf (Nat.le_refl _) new
    refine ⟨.ref s.heap.objs.size, _, I1, rfl, ⟨_, x, rfl, I.hok.fresh (Nat.le_refl _), rfl, fun ys hy => by rw [I.tuple_inj hy hq]; exact hx⟩, ⟨⟨x', ?_⟩, hs'.1.at fun o q => (sb.2 it (Ne.symm hne)).trans q, hne⟩, fun b hb => ?_⟩
    · have e1 : ((i + 1 : Nat) : Int) = (i : Int) + 1 := by omega
      rw [e1]; exact he'
    · have hb' : b < s.heap.objs.size := by
        have e' : b = e ∨ b = it := by simpa using hb
        rcases e' with z | z
        · rw [z]; exact hel
        · rw [z]; exact hil
      rw [upd_ne (Nat.ne_of_lt hb')]
      exact (hf b hb).1
  done := by
    intro X hP hw hK hc i pins s σ H E I hf st hg
    subst hP hw hK
    obtain ⟨⟨old, he⟩, hit, hne⟩ := st
    obtain ⟨xs, hq, hx⟩ := hg
    obtain ⟨its, rv, p, hz⟩ := I.tuple hq
    obtain ⟨f0, f1, f2, f3, f4, f5⟩ := hf it (by simp)
    have hl := rv.length
    have D := PySem.Draws.tuple (prog := X.prog) (w := X.w) (A := X.A.in1) (I.ok.hd hc) it a hai its.toArray
    have hT : s.TypeIs (.ref e) "enumerate" := ⟨_, he, rfl⟩
    unfold pyNext
    refine wpAny_bind (wpAny_attempt (wpAny_callSpecial?_slot (name := Str.ofString "__next__") hT F.slot_enumerate_next
      (wpAny_call_entry F.slot_enumerate_next hT F.entry_enumerate_next ?_ (F.args_enumerate_next_1 _))))
    show wpAny _ _ (field (.ref e) 2 >>= _) _ _ _
    refine wpAny_bind (wpAny_field he rfl (x := .ref it) rfl ?_)
    refine wpAny_bind (PySem.wpAny_nextOf_tuple_end (I.ok.hd hc) hit p (by simp; omega) fun h' x he' hx' => ?_)
    obtain ⟨o, ho, hc'⟩ := hx'
    refine wpAny_bind (wpAny_isInstance (T := "StopIteration") (b := true) ⟨o, ho, hc'⟩ isSubtype_stop ?_)
    exact wpAny_pure ⟨rfl, I.turned (t' := s.toks) (fun b o hb q => he' b o hb q) f0 f1 f3 f4 f5⟩
  self := fun A i s Q E st h => let ⟨⟨_, he⟩, _⟩ := st; wpAny_pyIter_enum he h
def iEnumA (K : PySem.W.Frag) (ta : TA) : TI := fun σ H R => ta σ H fun vs H1 => ∃ a xs, vs = [.ref a] ∧ ((SqL K H1 a xs ∧ R (Ite K a) H1) ∨ (SqT K H1 a xs ∧ R (IteT K a) H1))
theorem pi_enumA {X : Cx} {e : Expr} {ta : TA} {p pos tpos : Pos} {elts : List Expr} {kk : Nat} (hg : Gl X "enumerate") (hm : X.mg "enumerate" = none) (ha : PA X [e] ta) (hs : starEach [e] X.env = [(false, eval e X.env)] := by rfl) :
    PI X (.Tuple elts kk tpos) (.Call (.Name "enumerate" p) [e] [] pos) (iEnumA X.K ta) := by
  refine ⟨fun pins s σ H R I h => ?_⟩
  refine Call_ (ld_blt I hg hm boot_enumerate (PyProof.Rows.callWith_type1 (thn (ha.run pos pins s σ H _ I h) fun us s1 ⟨vs, H1, I1, r1, q1⟩ => ?_) hs rfl))
  obtain ⟨a, xs, ex, q⟩ := q1
  subst ex
  cases r1 with
  | cons r rr =>
    cases rr
    cases r
    have fpo : ∀ b, b = s1.heap.objs.size + 1 ∨ b = s1.heap.objs.size → FpOk X pins H1 b := fun b e' => by
      have hle : s1.heap.objs.size ≤ b := by
        rcases e' with z | z
        · rw [z]; exact Nat.le_add_right _ _
        · rw [z]; exact Nat.le_refl _
      exact I1.fpOk hle (I1.hok.fresh hle)
    rcases q with ⟨hq, q⟩ | ⟨hq, q⟩
    · obtain ⟨its, rv, p', hz⟩ := I1.list hq
      refine call_enumerate_list p'.isList fun h' he hit hsz hk => wpAny_pyIter_enum he ?_
      have I2 : Inv X pins σ H1 { s1 with heap := h' } := I1.kept (t' := s1.toks) hk
      exact ⟨s1.heap.objs.size + 1, [s1.heap.objs.size + 1, s1.heap.objs.size], _, _, H1, rfl, I2, turn_enum a (s1.heap.objs.size + 1) s1.heap.objs.size, ⟨⟨.none, he⟩, hit, Nat.succ_ne_self _⟩, fun b hb => fpo b (by simpa using hb), q⟩
    · obtain ⟨its, rv, p', hz⟩ := I1.tuple hq
      have hlt : a < s1.heap.objs.size := p'.lt
      refine PySem.call_enumerate_tup (show s1.heap.IsTuple a its.toArray from p') fun h' he hit hsz hk => wpAny_pyIter_enum he ?_
      have I2 : Inv X pins σ H1 { s1 with heap := h' } := I1.kept (t' := s1.toks) hk
      exact ⟨s1.heap.objs.size + 1, [s1.heap.objs.size + 1, s1.heap.objs.size], _, _, H1, rfl, I2, turn_enumT a (s1.heap.objs.size + 1) s1.heap.objs.size its.toArray (Nat.ne_of_lt hlt) (Nat.ne_of_lt (Nat.lt_succ_of_lt hlt)), ⟨⟨.none, he⟩, hit, Nat.succ_ne_self _⟩, fun b hb => fpo b (by simpa using hb), q⟩
theorem walk_enumT {K : PySem.W.Frag} {a : Addr} {xs : List V} : Walk (IteT K a) xs.length (fun H => SqT K H a xs) (YPair (fun i => some (.int (i : Nat))) (fun i => xs[i]?)) := by
  refine ⟨fun i _ hi q => ⟨xs, xs[i], q, by simp [hi]⟩, fun _ q => ⟨xs, q, Nat.le_refl _⟩, fun i H v H' _ q y => ?_⟩
  obtain ⟨T, x, h1, h2, h3, h4⟩ := y
  exact ⟨T, .int (i : Nat), x, h1, h2, h3, rfl, h4 xs q⟩
end L2

/-! Calls by their promises, great numbers, steps of the readings. -/
namespace L2
open PySem PySem.Spec PyProof.Rows
/-! ### the module's names that are built-ins -/
structure Bn (mg : Str → Option Value) : Prop where
  len_ : mg "len" = none
  range : mg "range" = none
  int_ : mg "int" = none
  bool_ : mg "bool" = none
  str_ : mg "str" = none
  list_ : mg "list" = none
  tuple_ : mg "tuple" = none
  set_ : mg "set" = none
  abs_ : mg "abs" = none
  min_ : mg "min" = none
  max_ : mg "max" = none
  sum_ : mg "sum" = none
  any_ : mg "any" = none
  all_ : mg "all" = none
  sorted : mg "sorted" = none
  isinstance : mg "isinstance" = none
  enumerate : mg "enumerate" = none
  reversed : mg "reversed" = none
  zip : mg "zip" = none
/-! ### defs of the module, by their promises -/
/-- the def x of the module keeps sp at the level k -/
structure CallF (P : Program) (w : World) (K : PySem.W.Frag) (mg : Str → Option Value) (base : Heap) (x : Str) (ps : List Str) (k : Nat) (sp : Sp) : Prop where
  ex : ∃ f fd, FnOk P w K mg base (L2.CX P w) k f fd ps sp ∧ mg x = some (.ref f) ∧ PySem.W.keepIn K (.ref f) = true ∧ Binds K fd ps []
/-- the method m of the class at C -/
structure MethF (P : Program) (w : World) (K : PySem.W.Frag) (mg : Str → Option Value) (base : Heap) (C : Addr) (m : Str) (ps : List Str) (k : Nat) (sp : Sp) : Prop where
  ex : ∃ f fd, FnOk P w K mg base (L2.CX P w) k f fd ps sp ∧ Meth K C m f ∧ Binds K fd ps []
/-- the property m of the class at C -/
structure PropF (P : Program) (w : World) (K : PySem.W.Frag) (mg : Str → Option Value) (base : Heap) (C : Addr) (m : Str) (k : Nat) (sp : Sp) : Prop where
  ex : ∃ p f fd, FnOk P w K mg base (L2.CX P w) k f fd ["self"] sp ∧ PropOf K C m p f ∧ Binds K fd ["self"] []
/-- C(..) with the defaults dvs behind: what is wanted of its arguments -/
def spNew (C : Addr) (sp : Sp) (dvs : List V) : Sp := fun vs H Q E => ∀ x dx, H x = none → H dx = none → dx ≠ x →
  sp (.ref x :: (vs ++ dvs)) (upd (upd H dx (.own x)) x (.ins C dx [])) (fun v H2 => v = .non ∧ Q (.ref x) H2) E
/-- the class x at C, made; spC is told of the arguments -/
structure MakeF (P : Program) (w : World) (K : PySem.W.Frag) (mg : Str → Option Value) (base : Heap) (x : Str) (C : Addr) (k : Nat) (spC : Sp) : Prop where
  ex : ∃ f fd ps sp dvs ds, FnOk P w K mg base (L2.CX P w) k f fd ps sp ∧ Mk K C f ∧ mg x = some (.ref C) ∧ Binds K fd ps ds ∧ Vals dvs ds ∧ ∀ vs H Q E, spC vs H Q E → spNew C sp dvs vs H Q E
section
variable {X : Cx} {x m : Str} {C : Addr} {ps : List Str} {k : Nat} {sp : Sp} {E : XK} {e o : Expr} {es : List Expr} {t : TA} {ta : TE} {p pos apos : Pos}
theorem pe_callF (G : CallF X.prog X.w X.K X.mg X.base x ps k sp) (hr : Room k X.A) (hg : Gl X x) (hx : Passes (L2.CX X.prog X.w) X E) (ha : PA X (e :: es) t)
    (hdb : (x == ("__debug__" : Str)) = false := by decide) (he : starEach (e :: es) X.env = (false, eval e X.env) :: starEach es X.env := by rfl) (hpl : (backTo pos (starEach es X.env)).any (·.1) = false := by rfl) :
    PE X (.Call (.Name x p) (e :: es) [] pos) (tCall sp [] E t) := by
  obtain ⟨f, fd, F, h1, h2, h3⟩ := G.ex
  exact pe_call F hr hg h1 h2 h3 .nil hx ha hdb he hpl
theorem pe_callF0 (G : CallF X.prog X.w X.K X.mg X.base x ps k sp) (hr : Room k X.A) (hg : Gl X x) (hx : Passes (L2.CX X.prog X.w) X E)
    (hdb : (x == ("__debug__" : Str)) = false := by decide) : PE X (.Call (.Name x p) [] [] pos) (tCall sp [] E tNil) := by
  obtain ⟨f, fd, F, h1, h2, h3⟩ := G.ex
  exact pe_call0 F hr hg h1 h2 h3 .nil hx hdb
theorem pe_methF {pl : Sem Bool} (c : Cls X.K C) (G : MethF X.prog X.w X.K X.mg X.base C m ps k sp) (he : PE X o ta) (hr : Room k X.A) (hx : Passes (L2.CX X.prog X.w) X E) (ha : PA X (e :: es) t)
    (hst : starEach (e :: es) X.env = (false, eval e X.env) :: starEach es X.env := by rfl) (hpl : (backTo pos (starEach es X.env)).any (·.1) = false := by rfl)
    (ht : eval (.Call (.Attribute o m apos) (e :: es) [] pos) X.env = (do
      let ov ← eval o X.env
      standAt apos.atName
      let (f, first) ← holding [ov] (getMethod ov m pl)
      callWith pos f first (backTo pos (starEach (e :: es) X.env)) (backToKw pos (keywordEach [] X.env))) := by rfl) :
    PE X (.Call (.Attribute o m apos) (e :: es) [] pos) (tMeth C m sp [] E ta t) := by
  obtain ⟨f, fd, F, h1, h2⟩ := G.ex
  exact pe_meth he c h1 F hr h2 .nil hx ha hst hpl ht
theorem pe_propF (c : Cls X.K C) (G : PropF X.prog X.w X.K X.mg X.base C m k sp) (he : PE X e ta) (hr : Room (k + 1) X.A) (hx : Passes (L2.CX X.prog X.w) X.nox E)
    (hab : attributeBase e m X.env (eval e X.env) = eval e X.env := by rfl) : PE X (.Attribute e m pos) (tProp C sp [] E ta) := by
  obtain ⟨q, f, fd, F, h1, h2⟩ := G.ex
  exact pe_prop he c h1 F hr h2 .nil hx hab
theorem pe_makeF {spC : Sp} (G : MakeF X.prog X.w X.K X.mg X.base x C k spC) (hr : Room (k + 1) X.A) (hg : Gl X x) (hx : Passes (L2.CX X.prog X.w) X E) (ha : PA X (e :: es) t)
    (hdb : (x == ("__debug__" : Str)) = false := by decide) (he : starEach (e :: es) X.env = (false, eval e X.env) :: starEach es X.env := by rfl) (hpl : (backTo pos (starEach es X.env)).any (·.1) = false := by rfl) :
    PE X (.Call (.Name x p) (e :: es) [] pos) (tCall spC [] E t) := by
  obtain ⟨f, fd, ps, sp, dvs, ds, F, M, h1, h2, h3, h4⟩ := G.ex
  refine ⟨fun pins s σ H Q I h => ?_⟩
  refine wpAny_Call_Name_kw (ld_glob I hg h1 ?_ hdb)
  refine PySem.W.callWith_K (h₀ := X.base) I.ok.mod.kin M.kp (thn (ha.run pos pins s σ H _ I h) fun us s1 ⟨vs, H1, I1, r, q⟩ => ⟨I1.kIn, ?_⟩) he hpl
  have q' : spC (vs ++ []) H1 Q E := q
  rw [List.append_nil] at q'
  exact run_make M F hr h2 h3 hx I1 r (h4 _ _ _ _ q')
end

/-! ### great numbers -/
/-- * of two factors of together less than 2 ^ 27 bits -/
def CMulX (i j : Int) : Prop := i.natAbs.log2 + j.natAbs.log2 < 134000000
theorem CMulX.ok {i j : Int} (h : CMulX i j) : IntMulOk i j := by
  have b : ∀ x : Int, Builtin.Int.intBits x ≤ x.natAbs.log2 + 1 := fun x => by
    unfold Builtin.Int.intBits
    split <;> omega
  have h1 := b i
  have h2 := b j
  have h3 : i.natAbs.log2 + j.natAbs.log2 < 134000000 := h
  have e : bitsLine = 134217728 := by decide
  unfold IntMulOk
  intro z
  rw [Bool.and_eq_true] at z
  have z2 := z.2
  unfold Builtin.Int.intTooBig at z2
  have z3 := of_decide_eq_true z2
  rw [e] at z3
  omega
def CDivX (_ j : Int) : Prop := j ≠ 0 ∧ j.natAbs.log2 < 9000
section
variable {X : Cx}
theorem op_mulX : OpR X (binaryOp .Mult) (rI CMulX fun i j => .int (i * j)) := opI fun _ _ _ _ _ _ _ hc q => mul_int q hc.ok
theorem op_fdivX : OpR X (binaryOp .FloorDiv) (rI CDivX fun i j => .int (i.fdiv j)) := opI fun i j _ _ _ _ _ hc q =>
  floordiv_int hc.1 q (.inl (PyProof.noPylong_of_log2 hc.2))
end
/-- a number of at most n bits -/
def Bd (n : Nat) (i : Int) : Prop := i.natAbs < 2 ^ n
theorem Bd.mono {n m : Nat} {i : Int} (h : Bd n i) (hn : n ≤ m) : Bd m i := Nat.lt_of_lt_of_le h (Nat.pow_le_pow_right (by decide) hn)
theorem log2_lt {n i : Nat} (h0 : 0 < n) (h : i < 2 ^ n) : i.log2 < n := by
  by_cases hz : i = 0
  · subst hz
    simpa using h0
  · exact (Nat.log2_lt hz).mpr h
theorem Bd.mul {n m : Nat} {i j : Int} (h : Bd n i) (h' : Bd m j) : Bd (n + m) (i * j) := by
  unfold Bd at *
  rw [Int.natAbs_mul, Nat.pow_add]
  exact Nat.mul_lt_mul'' h h'
theorem Bd.add {n : Nat} {i j : Int} (h : Bd n i) (h' : Bd n j) : Bd (n + 1) (i + j) := by
  unfold Bd at *
  rw [Nat.pow_succ]
  have := Int.natAbs_add_le i j
  omega
theorem Bd.neg {n : Nat} {i : Int} (h : Bd n i) : Bd n (-i) := by
  unfold Bd at *
  rwa [Int.natAbs_neg]
theorem Bd.le {n : Nat} {i j : Int} (h : Bd n j) (hl : i.natAbs ≤ j.natAbs) : Bd n i := Nat.lt_of_le_of_lt hl h
theorem Bd.mulX {n m : Nat} {i j : Int} (h : Bd n i) (h' : Bd m j) (hs : n + m < 133999990) : CMulX i j := by
  unfold CMulX
  have h1 := log2_lt (n := n + 1) (by omega) (Nat.lt_of_lt_of_le h (Nat.pow_le_pow_right (by decide) (by omega)))
  have h2 := log2_lt (n := m + 1) (by omega) (Nat.lt_of_lt_of_le h' (Nat.pow_le_pow_right (by decide) (by omega)))
  omega
theorem Bd.divX {n : Nat} {i j : Int} (h0 : j ≠ 0) (h : Bd n j) (hs : n < 9000) : CDivX i j := by
  refine ⟨h0, ?_⟩
  have h1 := log2_lt (n := n + 1) (by omega) (Nat.lt_of_lt_of_le h (Nat.pow_le_pow_right (by decide) (by omega)))
  omega

/-! ### o.f as a target -/
def gFld (K : PySem.W.Frag) (ta : TE) (f : Str) : TG := fun v σ H Q => ta σ H fun x H1 => ∃ a C dx fs, x = .ref a ∧ H1 a = some (.ins C dx fs) ∧ Cls K C ∧ NoAttr K C f ∧ fs.length < 1000 ∧ Q σ (upd H1 a (.ins C dx (putF f v fs)))
theorem pg_fld {X : Cx} {o : Expr} {f : Str} {pos : Pos} {ta : TE} (ha : PE X o ta) : PG X (.Attribute o f pos) (gFld X.K ta f) := by
  refine ⟨fun pins s σ H v u Q I r h => ?_⟩
  rw [assign_Attribute]
  refine wpAny_bind (wpAny_holding (thn (ha.run pins s σ H _ I h) fun ov s1 ⟨x, H1, I1, rx, a, C, dx, fs, ex, ea, c, n, l, q⟩ => ?_))
  subst ex
  obtain rfl : ov = Value.ref a := rx
  refine wpAny_bind (wpAny_standAt (wpAny_bind (wpAny_holding (setattr_ok I1 ea c n l r fun s3 I3 => wpAny_release ⟨σ, _, I3, q⟩))))

/-! ### steps of the readings -/
section
variable {σ : St} {H : Hp} {Q : VK} {i : Nat} {v x y : V} {ta tb tc : TE} {t u : TA} {r r' : R2} {sp : Sp} {dvs : List V} {E : XK} {K : PySem.W.Frag}
theorem g_var (h : σ[i]? = some (some v)) (q : Q v H) : tVar i σ H Q := ⟨v, h, q⟩
theorem g_c (q : Q v H) : tC v σ H Q := q
theorem g_op (q : ta σ H fun x H1 => tb σ H1 fun y H2 => r x y H2 Q) : tOp r ta tb σ H Q := q
theorem g_un {ru : V → Hp → VK → Prop} (q : ta σ H fun x H1 => ru x H1 Q) : tUn ru ta σ H Q := q
theorem g_nil {Q : List V → Hp → Prop} (q : Q [] H) : tNil σ H Q := q
theorem g_cons {Q : List V → Hp → Prop} (q : ta σ H fun x H1 => t σ H1 fun xs H2 => Q (x :: xs) H2) : tCons ta t σ H Q := q
theorem g_call (q : t σ H fun vs H1 => sp (vs ++ dvs) H1 Q E) : tCall sp dvs E t σ H Q := q
theorem g_cb {rc : List V → Hp → VK → Prop} (q : t σ H fun vs H1 => rc vs H1 Q) : tCB rc t σ H Q := q
theorem g_test {Q : Bool → Hp → Prop} (q : ta σ H fun x H' => ∃ k, x = .bl k ∧ Q k H') : tTest ta σ H Q := q
theorem g_tb {Q : Bool → Hp → Prop} (q : ta σ H fun x H' => ∃ k, x = .bl k ∧ Q k H') : tB ta σ H Q := q
theorem g_bl {Q : Bool → Hp → Prop} {b : Bool} (q : Q b H) : ∃ k, V.bl b = .bl k ∧ Q k H := ⟨b, rfl, q⟩
theorem g_tup (q : t σ H fun xs H1 => xs.length ≤ sizeLine ∧ ∀ p, H1 p = none → Q (.ref p) (upd H1 p (.tup xs))) : tTup t σ H Q := q
theorem g_lst (q : t σ H fun xs H1 => xs.length ≤ sizeLine ∧ ∀ p, H1 p = none → Q (.ref p) (upd H1 p (.lst xs))) : tLst t σ H Q := q
theorem g_and {tA tB' : TT} {Q : Bool → Hp → Prop} (q : tA σ H fun c H1 => if c = true then tB' σ H1 Q else Q false H1) : tAnd tA tB' σ H Q := q
theorem g_or {tA tB' : TT} {Q : Bool → Hp → Prop} (q : tA σ H fun c H1 => if c = true then Q true H1 else tB' σ H1 Q) : tOr tA tB' σ H Q := q
theorem g_not {tA : TT} {Q : Bool → Hp → Prop} (q : tA σ H fun c H1 => Q (!c) H1) : tNot tA σ H Q := q
theorem g_andV (q : ta σ H fun x H1 => ∃ c, x = .bl c ∧ if c = true then tb σ H1 Q else Q (.bl false) H1) : tAndV ta tb σ H Q := q
theorem g_orV (q : ta σ H fun x H1 => ∃ c, x = .bl c ∧ if c = true then Q (.bl true) H1 else tb σ H1 Q) : tOrV ta tb σ H Q := q
theorem g_notV (q : ta σ H fun x H1 => ∃ c, x = .bl c ∧ Q (.bl (!c)) H1) : tNotV ta σ H Q := q
theorem g_ifE {tA : TT} (q : tA σ H fun c H1 => if c = true then ta σ H1 Q else tb σ H1 Q) : tIf tA ta tb σ H Q := q
theorem g_ite {b : Bool} {A B : Prop} (h1 : b = true → A) (h2 : b = false → B) : if b = true then A else B := by
  cases b with
  | true => rw [if_pos rfl]; exact h1 rfl
  | false => rw [if_neg Bool.false_ne_true]; exact h2 rfl
theorem g_itd {p : Prop} [Decidable p] {A B : Prop} (h1 : p → A) (h2 : ¬ p → B) : if decide p = true then A else B := by
  by_cases h : p
  · rw [if_pos (decide_eq_true h)]; exact h1 h
  · rw [if_neg (by simp [h])]; exact h2 h
theorem g_itn {p : Prop} [Decidable p] {A B : Prop} (h1 : ¬ p → A) (h2 : p → B) : if (!decide p) = true then A else B := by
  by_cases h : p
  · rw [if_neg (by simp [h])]; exact h2 h
  · rw [if_pos (by simp [h])]; exact h1 h
theorem g_I {C : Int → Int → Prop} {g : Int → Int → V} {a b : Int} (h : C a b) (q : Q (g a b) H) : rI C g (.int a) (.int b) H Q := ⟨a, b, rfl, rfl, h, q⟩
theorem g_I0 {g : Int → Int → V} {a b : Int} (q : Q (g a b) H) : rI0 g (.int a) (.int b) H Q := ⟨a, b, rfl, rfl, q⟩
theorem g_U {g : Int → V} {a : Int} (q : Q (g a) H) : rU g (.int a) H Q := ⟨a, rfl, q⟩
theorem g_eqI {a b : Int} (q : Q (.bl (decide (a = b))) H) : rEq (.int a) (.int b) H Q := ⟨rfl, by
  have e : decide (V.int a = V.int b) = decide (a = b) := by simp
  rw [e]; exact q⟩
theorem g_neI {a b : Int} (q : Q (.bl (!decide (a = b))) H) : rNe (.int a) (.int b) H Q := ⟨rfl, by
  have e : decide (V.int a = V.int b) = decide (a = b) := by simp
  rw [e]; exact q⟩
theorem g_fld {a C dx : Addr} {fs : List (Str × V)} {f : Str} (q : ta σ H fun x H1 => ∃ a C dx fs v, x = .ref a ∧ H1 a = some (.ins C dx fs) ∧ Cls K C ∧ NoAttr K C f ∧ fs.lookup f = some v ∧ Q v H1) : tFld K ta f σ H Q := q
/-! statements -/
variable {D : Ends} {s1 s2 : TS} {g : TG}
theorem g_seq (q : s1 { D with nx := s2 D } σ H) : tSeq s1 s2 D σ H := q
theorem g_asg (q : ta σ H fun x H1 => g x σ H1 D.nx) : tAsg ta g D σ H := q
theorem g_name {Q : St → Hp → Prop} (q : Q (σ.set i (some v)) H) : gName i v σ H Q := q
theorem g_ret (q : ta σ H D.rt) : tRet ta D σ H := q
theorem g_retN (q : D.rt .non H) : tRetN D σ H := q
theorem g_if {c : TT} (q : c σ H fun b H1 => if b = true then s1 D σ H1 else s2 D σ H1) : tIfS c s1 s2 D σ H := q
theorem g_next (q : D.nx σ H) : tNext D σ H := q
theorem g_drop (q : ta σ H fun _ H1 => D.nx σ H1) : tDrop ta D σ H := q
theorem g_par {i j : Nat} (q : t σ H fun vs H1 => ∃ v w, vs = [v, w] ∧ D.nx ((σ.set i (some v)).set j (some w)) H1) : tPar i j t D σ H := q
theorem g_two {v w : V} {P : V → V → Prop} (q : P v w) : ∃ a b, [v, w] = [a, b] ∧ P a b := ⟨v, w, rfl, q⟩
theorem g_new {o : HO} {n : Nat} (h : n ≤ sizeLine) (q : ∀ p H', H p = none → Same H H' → H' p = some o → Q (.ref p) H') : n ≤ sizeLine ∧ ∀ p, H p = none → Q (.ref p) (upd H p o) :=
  ⟨h, fun p hp => q p _ hp (fun b u e => by rw [upd_ne (ne_of_none e hp)]; exact e) upd_same⟩
theorem g_new0 {o : HO} (q : ∀ p H', H p = none → Same H H' → H' p = some o → Q (.ref p) H') : ∀ p, H p = none → Q (.ref p) (upd H p o) := (g_new (Nat.zero_le _) q).2
end
theorem same_new {H : Hp} {p : Addr} {o : HO} (h : H p = none) : Same H (upd H p o) := fun b x e => by
  rw [upd_ne (ne_of_none e h)]
  exact e
theorem Same.tup {K : PySem.W.Frag} {H H' : Hp} {a : Addr} {xs : List V} (e : Same H H') (h : SqT K H a xs) : SqT K H' a xs := by
  rcases h with (h | ⟨o, h⟩) | h
  · exact .inl (.inl (e _ _ h))
  · exact .inl (.inr ⟨o, e _ _ h⟩)
  · exact .inr h
end L2

/-! Loops, comprehensions, what is kept. -/
namespace L2
open PySem PySem.Spec PyProof.Rows
section
variable {σ : St} {H : Hp} {Q : VK} {D : Ends} {tb : TS} {g : TG} {ta : TE} {t : TA} {K : PySem.W.Frag}
def RFor (g : TG) (tb : TS) (D : Ends) (σ : St) : It → Hp → Prop := fun J H1 => ∃ W : Nat → Nat → St → Hp → Prop, (∃ m, W 0 m σ H1) ∧ ∀ i m σ H, W i m σ H →
  (J.stop i H ∧ D.nx σ H) ∨ (J.go i H ∧ ∃ N : St → Hp → Prop, (∀ σ' H', N σ' H' → ∃ m', m' < m ∧ W (i + 1) m' σ' H') ∧ ∀ x H', J.yld i H x H' → g x σ H' fun σ2 H2 => tb { D with nx := N, ct := N, bk := D.nx } σ2 H2)
def RLc (g : TG) (tt : TT) (te : TE) (vs : List Nat) (σ : St) (Q : VK) : It → Hp → Prop := fun J H1 => ∀ D, H1 D = none → ∃ W : Nat → Nat → Hp → Prop, (∃ m, W 0 m (upd H1 D (.lst []))) ∧ ∀ i m H, W i m H →
  (J.stop i H ∧ Q (.ref D) H) ∨ (J.go i H ∧ ∃ Nx : Hp → Prop, (∀ H', Nx H' → ∃ m', m' < m ∧ W (i + 1) m' H') ∧ ∀ x H', J.yld i H x H' → g x (wipe σ vs) H' fun σ2 H2 => wipe σ2 vs = wipe σ vs ∧ tt σ2 H2 fun b H3 =>
    if b = true then te σ2 H3 fun y H4 => ∃ acc, H4 D = some (.lst acc) ∧ acc.length < sizeLine ∧ Nx (upd H4 D (.lst (acc ++ [y]))) else Nx H3)
theorem g_for {wi : TI} (q : wi σ H (RFor g tb D σ)) : tFor wi g tb D σ H := q
theorem g_while {c : TT} (W : Nat → St → Hp → Prop) (m0 : Nat) (h0 : W m0 σ H)
    (hs : ∀ m σ H, W m σ H → c σ H fun b H1 => if b = true then tb { D with nx := fun σ' H' => ∃ m', m' < m ∧ W m' σ' H', ct := fun σ' H' => ∃ m', m' < m ∧ W m' σ' H', bk := D.nx } σ H1 else D.nx σ H1)
    (mono : ∀ σ H Q Q', (∀ b H1, Q b H1 → Q' b H1) → c σ H Q → c σ H Q') : tWhile c tb D σ H := by
  refine ⟨W, ⟨m0, h0⟩, fun m σ H w => mono σ H _ _ (fun b H1 q => ?_) (hs m σ H w)⟩
  cases b with
  | true => exact ⟨_, fun _ _ z => z, q⟩
  | false => exact q
theorem g_list {R : It → Hp → Prop} (q : ta σ H fun x H1 => ∃ a, x = .ref a ∧ (∃ xs, SqL K H1 a xs) ∧ R (Itl K a) H1) : iList K ta σ H R := q
theorem g_tupI {R : It → Hp → Prop} (q : ta σ H fun x H1 => ∃ a, x = .ref a ∧ (∃ xs, SqT K H1 a xs) ∧ R (Itt K a) H1) : iTup K ta σ H R := q
theorem g_rng1 {R : It → Hp → Prop} (q : t σ H fun vs H1 => ∃ j : Int, vs = [.int j] ∧ -(2 ^ 62) ≤ j ∧ j < 2 ^ 62 ∧ R (Itr 0 j.toNat) H1) : iRng1 t σ H R := q
theorem g_rng2 {R : It → Hp → Prop} (q : t σ H fun vs H1 => ∃ i j : Int, vs = [.int i, .int j] ∧ (-(2 ^ 62) ≤ i ∧ i < 2 ^ 62 ∧ -(2 ^ 62) ≤ j ∧ j < 2 ^ 62) ∧ R (Itr i (j - i).toNat) H1) : iRng2 t σ H R := q
theorem g_enumA {R : It → Hp → Prop} (q : t σ H fun vs H1 => ∃ a xs, vs = [.ref a] ∧ ((SqL K H1 a xs ∧ R (Ite K a) H1) ∨ (SqT K H1 a xs ∧ R (IteT K a) H1))) : iEnumA K t σ H R := q
theorem g_enum {R : It → Hp → Prop} (q : t σ H fun vs H1 => ∃ a xs, vs = [.ref a] ∧ SqL K H1 a xs ∧ R (Ite K a) H1) : iEnum K t σ H R := q
theorem g_rev {R : It → Hp → Prop} (q : t σ H fun vs H1 => ∃ (a : Addr) (xs : List V), vs = [.ref a] ∧ SqL K H1 a xs ∧ R (Itv K a xs.length) H1) : iRev K t σ H R := q
theorem g_lc {wi : TI} {tt : TT} {te : TE} {vs : List Nat} (q : wi σ H (RLc g tt te vs σ Q)) : tLc wi g tt te vs σ H Q := q
theorem g_tupT {n : Nat} {tg : TGs} {Q : St → Hp → Prop} {a : Addr} {xs : List V} (h : SqT K H a xs) (hl : xs.length = n) (q : tg xs σ H Q) : gTup K n tg (.ref a) σ H Q := ⟨a, xs, rfl, h, hl, q⟩
theorem g_gcons {u : TGs} {x : V} {xs : List V} {Q : St → Hp → Prop} (q : g x σ H fun σ' H' => u xs σ' H' Q) : gCons g u (x :: xs) σ H Q := ⟨x, xs, rfl, q⟩
theorem g_gnil {Q : St → Hp → Prop} (q : Q σ H) : gNil [] σ H Q := ⟨rfl, q⟩
theorem g_yes {Q : Bool → Hp → Prop} (q : Q true H) : tYes σ H Q := q
theorem g_blp {P : Bool → Prop} {b : Bool} (q : P b) : ∃ k, V.bl b = .bl k ∧ P k := ⟨b, rfl, q⟩
theorem g_tt {A B : Prop} (q : A) : if true = true then A else B := by rw [if_pos rfl]; exact q
theorem g_ff {A B : Prop} (q : B) : if false = true then A else B := by rw [if_neg Bool.false_ne_true]; exact q
theorem g_ntt {A B : Prop} (q : B) : if (!true) = true then A else B := by rw [if_neg (by decide)]; exact q
theorem g_nff {A B : Prop} (q : A) : if (!false) = true then A else B := by rw [if_pos (by decide)]; exact q
/-- len of a list, a tuple -/
theorem g_lenL {a : Addr} {xs : List V} (h : SqL K H a xs) (q : Q (.int xs.length) H) : ∃ x n, [V.ref a] = [x] ∧ LenV K x H n ∧ Q (.int n) H := ⟨_, _, rfl, .inl ⟨xs, h, rfl⟩, q⟩
theorem g_lenT {a : Addr} {xs : List V} (h : SqT K H a xs) (q : Q (.int xs.length) H) : ∃ x n, [V.ref a] = [x] ∧ LenV K x H n ∧ Q (.int n) H := ⟨_, _, rfl, .inr ⟨xs, h, rfl⟩, q⟩
end
/-! ### what is kept -/
/-- all but dicts -/
def SameD (H H' : Hp) : Prop := ∀ b o, H b = some o → (∀ kvs, o ≠ .dK kvs) → H' b = some o
theorem Same.d {H H' : Hp} (e : Same H H') : SameD H H' := fun b o h _ => e b o h
theorem SameD.refl (H : Hp) : SameD H H := fun _ _ h _ => h
theorem SameD.trans {H H1 H2 : Hp} (a : SameD H H1) (b : SameD H1 H2) : SameD H H2 := fun c o h n => b c o (a c o h n) n
theorem SameD.lst {H H' : Hp} (e : SameD H H') {a : Addr} {xs : List V} (h : H a = some (.lst xs)) : H' a = some (.lst xs) := e a _ h fun _ z => nomatch z
theorem SameD.tupA {H H' : Hp} (e : SameD H H') {a : Addr} {xs : List V} (h : H a = some (.tup xs)) : H' a = some (.tup xs) := e a _ h fun _ z => nomatch z
theorem SameD.ins {H H' : Hp} (e : SameD H H') {a C dx : Addr} {fs : List (Str × V)} (h : H a = some (.ins C dx fs)) : H' a = some (.ins C dx fs) := e a _ h fun _ z => nomatch z
theorem SameD.seq {K : PySem.W.Frag} {H H' : Hp} {a : Addr} {xs : List V} (e : SameD H H') (h : SqL K H a xs) : SqL K H' a xs := by
  rcases h with (h | ⟨o, h⟩) | h
  · exact .inl (.inl (e _ _ h fun _ z => nomatch z))
  · exact .inl (.inr ⟨o, e _ _ h fun _ z => nomatch z⟩)
  · exact .inr h
theorem SameD.tup {K : PySem.W.Frag} {H H' : Hp} {a : Addr} {xs : List V} (e : SameD H H') (h : SqT K H a xs) : SqT K H' a xs := by
  rcases h with (h | ⟨o, h⟩) | h
  · exact .inl (.inl (e _ _ h fun _ z => nomatch z))
  · exact .inl (.inr ⟨o, e _ _ h fun _ z => nomatch z⟩)
  · exact .inr h
/-- an object that was not there may change -/
theorem Same.mut {H H' : Hp} {p : Addr} {o : HO} (e : Same H H') (h : H p = none) : Same H (upd H' p o) := fun a u ha => by
  rw [upd_ne (ne_of_none ha h)]
  exact e a u ha
theorem SameD.mut {H H' : Hp} {p : Addr} {o : HO} (e : SameD H H') (h : H p = none) : SameD H (upd H' p o) := fun a u ha n => by
  rw [upd_ne (ne_of_none ha h)]
  exact e a u ha n
theorem SameD.free {H H' : Hp} (e : SameD H H') {l : Addr} (h : H' l = none) : H l = none ∨ ∃ kvs, H l = some (.dK kvs) := by
  cases q : H l with
  | none => exact .inl rfl
  | some o =>
    refine .inr ?_
    cases o with
    | dK kvs => exact ⟨kvs, rfl⟩
    | _ => rw [e l _ q (fun _ z => nomatch z)] at h; cases h
/-! ### a list of those that are kept -/
def given (n : Nat) (f : Nat → Bool) (v : Nat → V) : List V := ((List.range n).filter f).map v
theorem given_yes {n : Nat} {f : Nat → Bool} {v : Nat → V} (h : f n = true) : given (n + 1) f v = given n f v ++ [v n] := by
  unfold given
  rw [List.range_succ, List.filter_append, List.map_append]
  congr 1
  rw [List.filter_cons, if_pos h]
  rfl
theorem given_no {n : Nat} {f : Nat → Bool} {v : Nat → V} (h : f n = false) : given (n + 1) f v = given n f v := by
  unfold given
  rw [List.range_succ, List.filter_append, List.map_append, List.filter_cons, if_neg (by rw [h]; decide)]
  show _ ++ [] = _
  rw [List.append_nil]
theorem given_len (n : Nat) (f : Nat → Bool) (v : Nat → V) : (given n f v).length ≤ n := by
  unfold given
  rw [List.length_map]
  have h := List.length_filter_le f (List.range n)
  rw [List.length_range] at h
  exact h
theorem given_all (n : Nat) (v : Nat → V) : given n (fun _ => true) v = (List.range n).map v := by
  unfold given
  rw [List.filter_eq_self.mpr (fun _ _ => rfl)]
/-- a comprehension that changes nothing: at turn i it is kept if f i, and the element is v i -/
def PvL (H1 : Hp) (D : Addr) (f : Nat → Bool) (v : Nat → V) : Nat → Hp → Prop := fun i H => Same H1 H ∧ H D = some (.lst (given i f v))
theorem lc_start {H1 : Hp} {D : Addr} {f : Nat → Bool} {v : Nat → V} (hD : H1 D = none) : PvL H1 D f v 0 (upd H1 D (.lst [])) := ⟨same_new hD, upd_same⟩
theorem lc_yes {H1 H H4 : Hp} {D : Addr} {f : Nat → Bool} {v : Nat → V} {i : Nat} {y : V} (hD : H1 D = none) (p : PvL H1 D f v i H) (e : Same H H4) (hf : f i = true) (hy : y = v i) (hn : i < 16000000) :
    ∃ acc, H4 D = some (.lst acc) ∧ acc.length < sizeLine ∧ PvL H1 D f v (i + 1) (upd H4 D (.lst (acc ++ [y]))) := by
  subst hy
  refine ⟨given i f v, e _ _ p.2, ?_, Same.mut (p.1.trans e) hD, by rw [given_yes hf]; exact upd_same⟩
  have := given_len i f v
  rw [sizeLine_eq]
  omega
theorem lc_no {H1 H H4 : Hp} {D : Addr} {f : Nat → Bool} {v : Nat → V} {i : Nat} (p : PvL H1 D f v i H) (e : Same H H4) (hf : f i = false) : PvL H1 D f v (i + 1) H4 :=
  ⟨p.1.trans e, by rw [given_no hf]; exact e _ _ p.2⟩
end L2

/-! Uses of the readings. -/
namespace L2
open PySem PySem.Spec PyProof.Rows
/-! rules with named readings -/
def rLstS (K : PySem.W.Frag) : List V → Hp → VK → Prop := fun xs H Q => ∃ p ys, xs = [.ref p] ∧ (SqL K H p ys ∨ SqT K H p ys) ∧ ∀ l, H l = none → Q (.ref l) (upd H l (.lst ys))
theorem call_lst {X : Cx} : CallR X (.type "list") (rLstS X.K) := call_list_of
def rTplS (K : PySem.W.Frag) : List V → Hp → VK → Prop := fun xs H Q => ∃ p ys, xs = [.ref p] ∧ ((SqL K H p ys ∧ ∀ l, H l = none → Q (.ref l) (upd H l (.tup ys))) ∨ (SqT K H p ys ∧ Q (.ref p) H))
theorem call_tpl {X : Cx} : CallR X (.type "tuple") (rTplS X.K) := call_tuple_of
def rLenS (K : PySem.W.Frag) : List V → Hp → VK → Prop := fun xs H Q => ∃ x n, xs = [x] ∧ LenV K x H n ∧ Q (.int n) H
theorem call_ln {X : Cx} : CallR X (.builtin "len") (rLenS X.K) := call_len
def rIntS : List V → Hp → VK → Prop := fun xs H Q => (∃ i, xs = [.int i] ∧ Q (.int i) H) ∨ ∃ k, xs = [.bl k] ∧ Q (.int (if k then 1 else 0)) H
theorem call_in1 {X : Cx} : CallR X (.type "int") rIntS := call_int1
def rIsNS : R2 := fun x y H Q => y = .non ∧ Q (.bl (decide (x = .non))) H
theorem op_isNS {X : Cx} : OpR X (compareOp .Is) rIsNS := op_isN
def rNotNS : R2 := fun x y H Q => y = .non ∧ Q (.bl (!decide (x = .non))) H
theorem op_notNS {X : Cx} : OpR X (compareOp .IsNot) rNotNS := op_notN
def rTruS (K : PySem.W.Frag) (x : V) (H : Hp) (Q : Bool → Hp → Prop) : Prop := ∃ k, TruV K x H k ∧ Q k H
def tTru (K : PySem.W.Frag) (ta : TE) : TT := fun σ H Q => ta σ H fun x H' => rTruS K x H' Q
theorem pt_tru {X : Cx} {a : Expr} {ta : TE} (ha : PE X a ta) (he : ∀ whole, isTrue a X.env whole = (do let v ← whole; standAt a.pos; holding [v] (truthy v))) : PT X a (tTru X.K ta) := pt_truth ha he
section
variable {X : Cx} {K : PySem.W.Frag}
theorem ix_listK (h : X.K = K) : IxR X (rIxL K) := h ▸ ix_list
theorem ix_tupK (h : X.K = K) : IxR X (rIxT K) := h ▸ ix_tup
theorem sl_listK (h : X.K = K) : SlR X (rSlL K) := h ▸ sl_list
theorem call_lnK (h : X.K = K) : CallR X (.builtin "len") (rLenS K) := h ▸ call_ln
theorem call_lstK (h : X.K = K) : CallR X (.type "list") (rLstS K) := h ▸ call_lst
theorem call_tplK (h : X.K = K) : CallR X (.type "tuple") (rTplS K) := h ▸ call_tpl
theorem call_isiK' (h : X.K = K) : CallR X (.builtin "isinstance") (rIsi K) := h ▸ call_isi
theorem op_eqDK (h : X.K = K) (hu : X.A.units + 64 < cLine) : OpR X (compareOp .Eq) (rEqD K) := h ▸ op_eqD hu
theorem op_neDK (h : X.K = K) (hu : X.A.units + 64 < cLine) : OpR X (compareOp .NotEq) (rNeD K) := h ▸ op_neD hu
theorem pt_truK (h : X.K = K) {a : Expr} {ta : TE} (ha : PE X a ta) (he : ∀ whole, isTrue a X.env whole = (do let v ← whole; standAt a.pos; holding [v] (truthy v))) : PT X a (tTru K ta) := h ▸ pt_tru ha he
theorem pi_listK (h : X.K = K) {tg l : Expr} {tl : TE} (hl : PE X l tl) : PI X tg l (iList K tl) := h ▸ pi_list hl
theorem pi_tupK (h : X.K = K) {tg l : Expr} {tl : TE} (hl : PE X l tl) : PI X tg l (iTup K tl) := h ▸ pi_tup hl
theorem pi_enumAK (h : X.K = K) {e : Expr} {ta : TA} {p pos tpos : Pos} {elts : List Expr} {kk : Nat} (hg : Gl X "enumerate") (hm : X.mg "enumerate" = none) (ha : PA X [e] ta) (hs : starEach [e] X.env = [(false, eval e X.env)] := by rfl) :
    PI X (.Tuple elts kk tpos) (.Call (.Name "enumerate" p) [e] [] pos) (iEnumA K ta) := h ▸ pi_enumA hg hm ha hs
theorem pi_reversedK (h : X.K = K) {tg e : Expr} {ta : TA} {p pos : Pos} (hg : Gl X "reversed") (hm : X.mg "reversed" = none) (ha : PA X [e] ta) (hs : starEach [e] X.env = [(false, eval e X.env)] := by rfl) : PI X tg (.Call (.Name "reversed" p) [e] [] pos) (iRev K ta) := h ▸ pi_reversed hg hm ha hs
theorem pi_zipK (h : X.K = K) {e e2 : Expr} {ta : TA} {p pos tpos : Pos} {elts : List Expr} {kk : Nat} (hg : Gl X "zip") (hm : X.mg "zip" = none) (ha : PA X [e, e2] ta)
    (hs : starEach [e, e2] X.env = (false, eval e X.env) :: starEach [e2] X.env := by rfl) (hpl : (backTo pos (starEach [e2] X.env)).any (·.1) = false := by rfl) : PI X (.Tuple elts kk tpos) (.Call (.Name "zip" p) [e, e2] [] pos) (iZip K ta) := h ▸ pi_zip hg hm ha hs hpl
theorem pg_tupK (h : X.K = K) {es : List Expr} {k : Nat} {t : TGs} {n : Nat} {pos : Pos} (hc : X.calm = true) (hh : PGs X es t)
    (hn : (assignEach es X.env).length = n := by rfl) (hst : (assignEach es X.env).findIdx? (·.1) = none := by rfl) : PG X (.Tuple es k pos) (gTup K n t) := h ▸ pg_tup hc hh hn hst
theorem pg_fldK (h : X.K = K) {o : Expr} {f : Str} {pos : Pos} {ta : TE} (ha : PE X o ta) : PG X (.Attribute o f pos) (gFld K ta f) := h ▸ pg_fld ha
theorem cr_allK (h : X.K = K) (hc : X.calm = true) : CallR X (.builtin "all") (rAll K) := h ▸ cr_all hc
theorem cr_anyK (h : X.K = K) (hc : X.calm = true) : CallR X (.builtin "any") (rAny K) := h ▸ cr_any hc
theorem cr_sumK (h : X.K = K) (hc : X.calm = true) : CallR X (.builtin "sum") (rSum K) := h ▸ cr_sum hc
theorem cr_maxK (h : X.K = K) (hc : X.calm = true) : CallR X (.builtin "max") (rMax K) := h ▸ cr_max hc
theorem cr_sortedK (h : X.K = K) : CallR X (.builtin "sorted") (rSorted K) := h ▸ cr_sorted
theorem op_catTK (h : X.K = K) : OpR X (binaryOp .Add) (rCatT K) := h ▸ op_catT
theorem sl_tupK (h : X.K = K) : SlR X (rSlT K) := h ▸ sl_tup
theorem ps_fldK (h : X.K = K) {o value : Expr} {f : Str} {pos pos' : Pos} {ta tv : TE} (ha : PE X o ta) (hv : PE X value tv) (hs : swapsWith value (some (.Attribute o f pos')) pos.line X.env = pure false) : PS X (.Assign [.Attribute o f pos'] value pos) (sFld K ta tv f) := h ▸ ps_fld ha hv hs
theorem pe_fldK (h : X.K = K) {e : Expr} {m : Str} {pos : Pos} {ta : TE} (he : PE X e ta) (hab : attributeBase e m X.env (eval e X.env) = eval e X.env := by rfl) : PE X (.Attribute e m pos) (tFld K ta m) := h ▸ pe_fld he hab
end
section
variable {σ : St} {H H' : Hp} {Q : VK} {K : PySem.W.Frag} {a : Addr} {xs : List V} {x y v : V} {t : Value}
theorem sqL (h : H a = some (.lst xs)) : SqL K H a xs := .inl (.inl h)
theorem sqT (h : H a = some (.tup xs)) : SqT K H a xs := .inl (.inl h)
theorem Same.tyOf (e : Same H H') (h : TyOf K H x t) : TyOf K H' x t := by
  cases h with
  | non => exact .non
  | bl b => exact .bl b
  | int i => exact .int i
  | str i => exact .str i
  | flt i => exact .flt i
  | lst h => exact .lst (e _ _ h)
  | frz h => exact .frz (e _ _ h)
  | tup h => exact .tup (e _ _ h)
  | dK h => exact .dK (e _ _ h)
  | dT h => exact .dT (e _ _ h)
  | ins h a b c d f => exact .ins (e _ _ h) a b c d f
theorem Same.ty (e : Same H H') (h : TyX K H x t) : TyX K H' x t := by
  cases h with
  | base h => exact .base (e.tyOf h)
  | byt b => exact .byt b
  | set h => exact .set (e _ _ h)
  | kList h c => exact .kList h c
  | kTuple h c => exact .kTuple h c
  | kDict h c => exact .kDict h c
  | fTuple h => exact .fTuple (e _ _ h)
  | fDict h => exact .fDict (e _ _ h)
theorem enum_any {R : It → Hp → Prop} (h : SqL K H a xs ∨ SqT K H a xs) (q : ∀ J G, Walk J xs.length G (YPair (fun i => some (.int (i : Nat))) (fun i => xs[i]?)) → (∀ H', Same H H' → G H') → R J H) :
    ∃ a' xs', [V.ref a] = [.ref a'] ∧ ((SqL K H a' xs' ∧ R (Ite K a') H) ∨ (SqT K H a' xs' ∧ R (IteT K a') H)) := by
  rcases h with h | h
  · exact ⟨a, xs, rfl, .inl ⟨h, q _ _ walk_enum fun H' e => e.seq h⟩⟩
  · exact ⟨a, xs, rfl, .inr ⟨h, q _ _ walk_enumT fun H' e => e.tup h⟩⟩
theorem pair_of {xs ys : Nat → Option V} {i : Nat} (h : YPair xs ys i H v H') : ∃ T x y, v = .ref T ∧ Same H H' ∧ SqT K H' T [x, y] ∧ xs i = some x ∧ ys i = some y := by
  obtain ⟨T, x, y, h1, h2, h3, h4, h5⟩ := h
  subst h3
  exact ⟨T, x, y, h1, same_new h2, sqT upd_same, h4, h5⟩
theorem g_raiseX {C : Addr} {fs : List Str} {W : WX} {ta : TA} {D : Ends} (q : ta σ H fun vs H1 => vs.length = fs.length ∧ (fs = [] → W (.ref C) none σ H1) ∧ (fs ≠ [] → ∀ d, H1 d = none → W (.ref C) (some d) σ (upd H1 d (.xd (fs.zip vs))))) : tRaiseX C fs W ta D σ H := q
theorem u_raise {fs : List Str} {vs : List V} {R : Option Addr → Hp → Prop} (hl : vs.length = fs.length) (hf : fs ≠ []) (q : ∀ d H2, H d = none → Same H H2 → H2 d = some (.xd (fs.zip vs)) → R (some d) H2) :
    vs.length = fs.length ∧ (fs = [] → R none H) ∧ (fs ≠ [] → ∀ d, H d = none → R (some d) (upd H d (.xd (fs.zip vs)))) := ⟨hl, fun h => absurd h hf, fun _ d hd => q d _ hd (same_new hd) upd_same⟩
theorem u_raise0 {fs : List Str} {vs : List V} {R : Option Addr → Hp → Prop} (hl : vs.length = fs.length) (hf : fs = []) (q : R none H) :
    vs.length = fs.length ∧ (fs = [] → R none H) ∧ (fs ≠ [] → ∀ d, H d = none → R (some d) (upd H d (.xd (fs.zip vs)))) := ⟨hl, fun _ => q, fun h => absurd hf h⟩
theorem g_newS {o : HO} {n : Nat} (q : ∀ p H', H p = none → Same H H' → H' p = some o → Q (.ref p) H') (h : Nat.ble n 1000 = true := by rfl) : n ≤ sizeLine ∧ ∀ p, H p = none → Q (.ref p) (upd H p o) :=
  g_new (by have := Nat.le_of_ble_eq_true h; rw [sizeLine_eq]; omega) q
theorem g_itn' {b : Bool} {A B : Prop} (h1 : b = false → A) (h2 : b = true → B) : if (!b) = true then A else B := by
  cases b with
  | true => rw [if_neg (by decide)]; exact h2 rfl
  | false => rw [if_pos (by decide)]; exact h1 rfl
theorem u_gfld {Q : St → Hp → Prop} {i : Nat} {C dx : Addr} {fs : List (Str × V)} {f : Str} (hs : σ[i]? = some (some (.ref a))) (h : H a = some (.ins C dx fs)) (c : Cls K C) (n : NoAttr K C f) (q : Q σ (upd H a (.ins C dx (putF f v fs)))) (hl : Nat.ble fs.length 900 = true := by rfl) : gFld K (tVar i) f v σ H Q :=
  ⟨.ref a, hs, a, C, dx, fs, rfl, h, c, n, by have := Nat.le_of_ble_eq_true hl; omega, q⟩
theorem u_tfld {i : Nat} {C dx : Addr} {fs : List (Str × V)} {f : Str} (hs : σ[i]? = some (some (.ref a))) (h : H a = some (.ins C dx fs)) (c : Cls K C) (n : NoAttr K C f) (hl : fs.lookup f = some v) (q : Q v H) : tFld K (tVar i) f σ H Q :=
  ⟨.ref a, hs, a, C, dx, fs, v, rfl, h, c, n, hl, q⟩
theorem u_isi {c : V} {u : Value} {b : Bool} (k : ClsV c u) (h : TyX K H x t) (e : PySem.W.kitOne K t u = some b) (q : Q (.bl b) H) : rIsi K [x, c] H Q := ⟨x, c, t, u, b, rfl, k, h, e, q⟩
theorem dpAll_ints : ∀ ns : List Int, DpAll K H (ns.map V.int) (ns.map PyData.int)
  | [] => .nil
  | n :: r => .cons (.int n) (dpAll_ints r)
theorem eqv_ints : ∀ ns ms : List Int, PyData.eqvAll (ns.map PyData.int) (ms.map PyData.int) = decide (ns = ms)
  | [], [] => by simp [PyData.eqvAll]
  | [], _ :: _ => by simp [PyData.eqvAll]
  | _ :: _, [] => by simp [PyData.eqvAll]
  | a :: r, b :: t => by
    simp only [List.map_cons, PyData.eqvAll, PyData.eqv, eqv_ints r t]
    by_cases h : a = b <;> by_cases h' : r = t <;> simp [h, h']
theorem shaped_tup (ns : List Int) : SeqAt.shaped (.tuple (ns.map PyData.int)) = true := by
  simp [SeqAt.shaped, PyData.canLay0, PyData.depth, PySem.W.ke_canLayAll0, PySem.W.ke_depthAll]
theorem g_isN {x : V} (q : Q (.bl (decide (x = .non))) H) : rIsNS x .non H Q := ⟨rfl, q⟩
theorem g_notN {x : V} (q : Q (.bl (!decide (x = .non))) H) : rNotNS x .non H Q := ⟨rfl, q⟩
theorem g_bm {T : String} {r : V → List V → Hp → VK → Prop} {to : TE} {t : TA} (q : to σ H fun x H1 => tyV K T x H1 ∧ t σ H1 fun xs H2 => r x xs H2 Q) : tBM K T r to t σ H Q := q
theorem g_bm0 {T : String} {r : V → List V → Hp → VK → Prop} {to : TE} (q : to σ H fun x H1 => tyV K T x H1 ∧ r x [] H1 Q) : tBM0 K T r to σ H Q := q
theorem u_app {l : Addr} {xs : List V} {v : V} (h : H l = some (.lst xs)) (hl : xs.length < 1000000) (q : Q .non (upd H l (.lst (xs ++ [v])))) : rAppend (.ref l) [v] H Q := ⟨l, xs, v, rfl, rfl, h, by rw [sizeLine_eq]; omega, q⟩
theorem u_eqT {b : Addr} {ns ms : List Int} (h1 : SqT K H a (ns.map V.int)) (h2 : SqT K H b (ms.map V.int)) (q : Q (.bl (decide (ns = ms))) H) : rEqD K (.ref a) (.ref b) H Q :=
  ⟨_, _, .tup h1 (dpAll_ints ns), .tup h2 (dpAll_ints ms), shaped_tup _, shaped_tup _, by
    show Q (.bl (PyData.eqv (.tuple (ns.map PyData.int)) (.tuple (ms.map PyData.int)))) H
    rw [PyData.eqv, eqv_ints]; exact q⟩
theorem u_eqL {b : Addr} {ns ms : List Int} (h1 : SqL K H a (ns.map V.int)) (h2 : SqL K H b (ms.map V.int)) (q : Q (.bl (decide (ns = ms))) H) : rEqD K (.ref a) (.ref b) H Q :=
  ⟨_, _, .lst h1 (dpAll_ints ns), .lst h2 (dpAll_ints ms), PySem.W.ke_shaped_ints _, PySem.W.ke_shaped_ints _, by
    show Q (.bl (PyData.eqv (.list (ns.map PyData.int)) (.list (ms.map PyData.int)))) H
    rw [PyData.eqv, eqv_ints]; exact q⟩
theorem g_cutS {s1 s2 : TS} {D : Ends} (R : St → Hp → Prop) (h : ∀ nx : St → Hp → Prop, (∀ σ' H', R σ' H' → nx σ' H') → s1 { D with nx := nx } σ H) (q : ∀ σ' H', R σ' H' → s2 D σ' H') : tSeq s1 s2 D σ H := h _ q
theorem u_neL {b : Addr} {ns ms : List Int} (h1 : SqL K H a (ns.map V.int)) (h2 : SqL K H b (ms.map V.int)) (q : Q (.bl (!decide (ns = ms))) H) : rNeD K (.ref a) (.ref b) H Q :=
  ⟨_, _, .lst h1 (dpAll_ints ns), .lst h2 (dpAll_ints ms), PySem.W.ke_shaped_ints _, PySem.W.ke_shaped_ints _, by
    show Q (.bl (!PyData.eqv (.list (ns.map PyData.int)) (.list (ms.map PyData.int)))) H
    rw [PyData.eqv, eqv_ints]; exact q⟩
theorem u_neT {b : Addr} {ns ms : List Int} (h1 : SqT K H a (ns.map V.int)) (h2 : SqT K H b (ms.map V.int)) (q : Q (.bl (!decide (ns = ms))) H) : rNeD K (.ref a) (.ref b) H Q :=
  ⟨_, _, .tup h1 (dpAll_ints ns), .tup h2 (dpAll_ints ms), shaped_tup _, shaped_tup _, by
    show Q (.bl (!PyData.eqv (.tuple (ns.map PyData.int)) (.tuple (ms.map PyData.int)))) H
    rw [PyData.eqv, eqv_ints]; exact q⟩
theorem atI_m1 {xs : List V} {v : V} (h : xs[xs.length - 1]? = some v) : atI xs (-1) = some v := by
  have hl := (List.getElem?_eq_some_iff.mp h).1
  have e : ixN xs.length (-1) = some (xs.length - 1) := by
    unfold ixN
    rw [if_neg (by decide), if_pos (by omega)]
    congr 1
    omega
  unfold atI
  rw [e]
  exact h
theorem ixN_at {n j : Nat} (hj : j < n) : ixN n (j : Int) = some j := by
  unfold ixN
  rw [if_pos (by omega), if_pos (by omega), Int.toNat_natCast]
theorem u_setL {l : Addr} {xs : List V} {v : V} {j : Nat} {Q : Hp → Prop} (h : H l = some (.lst xs)) (hj : j < xs.length) (q : Q (upd H l (.lst (xs.set j v)))) : rSetL (.ref l) (.int (j : Int)) v H Q := ⟨l, xs, _, j, rfl, rfl, h, ixN_at hj, q⟩
theorem g_sub {to ti : TE} {t : TSet} {v : V} {Q : St → Hp → Prop} (q : to σ H fun o H1 => ti σ H1 fun i H2 => t o i v H2 fun H3 => Q σ H3) : gSub to ti t v σ H Q := q
theorem g_retD {trs : List (TE × TE)} {D : Ends} (q : ∀ p, H p = none → tPairs trs σ (upd H p (.dK [])) fun ps H2 => H2 p = some (.dK []) ∧ ∃ kvs : List (Key × V), ps = kvs.map (fun kv => (kV kv.1, kv.2)) ∧ kvs.length ≤ 15 ∧ D.rt (.ref p) (upd H2 p (.dK (mergeK [] kvs)))) : tRet (tDisp trs) D σ H := q
theorem g_pair {tk tv : TE} {r : List (TE × TE)} {Q : List (V × V) → Hp → Prop} (q : tk σ H fun x H1 => tv σ H1 fun y H2 => tPairs r σ H2 fun ps H3 => Q ((x, y) :: ps) H3) : tPairs ((tk, tv) :: r) σ H Q := q
theorem g_pair0 {Q : List (V × V) → Hp → Prop} (q : Q [] H) : tPairs [] σ H Q := q
theorem g_st {T : TS} {D : Ends} {σ' : St} (h : σ = σ') (q : T D σ' H) : T D σ H := by rw [h]; exact q
/-- what is left is told by R -/
theorem g_cut {te : TE} (R : V → Hp → Prop) (h : ∀ Q : VK, (∀ v H', R v H' → Q v H') → te σ H Q) (q : ∀ v H', R v H' → Q v H') : te σ H Q := h Q q
theorem g_cutT {tt : TT} {Q : Bool → Hp → Prop} (R : Bool → Hp → Prop) (h : ∀ Q : Bool → Hp → Prop, (∀ v H', R v H' → Q v H') → tt σ H Q) (q : ∀ v H', R v H' → Q v H') : tt σ H Q := h Q q
theorem g_cutA {tt : TA} {Q : List V → Hp → Prop} (R : List V → Hp → Prop) (h : ∀ Q : List V → Hp → Prop, (∀ v H', R v H' → Q v H') → tt σ H Q) (q : ∀ v H', R v H' → Q v H') : tt σ H Q := h Q q
theorem g_par3 {i j l : Nat} {t : TA} {D : Ends} (q : t σ H fun vs H1 => ∃ u v w, vs = [u, v, w] ∧ D.nx (((σ.set i (some u)).set j (some v)).set l (some w)) H1) : tPar3 i j l t D σ H := q
theorem g_three {u v w : V} {P : V → V → V → Prop} (q : P u v w) : ∃ a b c, [u, v, w] = [a, b, c] ∧ P a b c := ⟨u, v, w, rfl, q⟩
theorem g_chain {r r' : R2} {ta tb tc : TE} (q : ta σ H fun x H1 => tb σ H1 fun y H2 => r x y H2 fun z H3 => ∃ k, z = .bl k ∧ if k = true then tc σ H3 fun c H4 => r' y c H4 Q else Q (.bl false) H3) : tChain r r' ta tb tc σ H Q := q
theorem g_zip {t : TA} {R : It → Hp → Prop} (q : t σ H fun vs H1 => ∃ a b xs ys, vs = [.ref a, .ref b] ∧ SqL K H1 a xs ∧ SqL K H1 b ys ∧ R (Itz K a b) H1) : iZip K t σ H R := q
theorem news {p : Addr} {o : HO} (h : H p = none) (e : upd H p o = H') : Same H H' ∧ H' p = some o := by
  subst e
  exact ⟨same_new h, upd_same⟩
theorem size_ok {n : Nat} (h : Nat.ble n 1000000 = true) : n ≤ sizeLine := by have := Nat.le_of_ble_eq_true h; rw [sizeLine_eq]; omega
theorem pe_globI {X : Cx} {x : Str} {i : Int} {tk : Tok} {pos : Pos} (hg : Gl X x) (hm : X.mg x = some (.int i tk)) (hd : (x == ("__debug__" : Str)) = false := by decide) : PE X (.Name x pos) (tC (.int i)) := pe_glob (v := .int i) hg hm ⟨_, rfl⟩ hd
theorem g_sfld {ta tv : TE} {f : Str} {D : Ends} (q : tv σ H fun y H1 => ta σ H1 fun x H2 => ∃ a C dx fs, x = .ref a ∧ H2 a = some (.ins C dx fs) ∧ Cls K C ∧ NoAttr K C f ∧ fs.length < 1000 ∧ D.nx σ (upd H2 a (.ins C dx (putF f y fs)))) : sFld K ta tv f D σ H := q
/-! parts, places -/
theorem g_sl {r : V → Option Int → Option Int → Hp → VK → Prop} {te : TE} {tl th : TO} (q : te σ H fun x H1 => tl σ H1 fun l H2 => th σ H2 fun u H3 => r x l u H3 Q) : tSl r te tl th σ H Q := q
theorem g_nopart {Q : Option Int → Hp → Prop} (q : Q none H) : tNoPart σ H Q := q
theorem g_part {te : TE} {Q : Option Int → Hp → Prop} (q : te σ H fun x H1 => ∃ i, x = .int i ∧ Q (some i) H1) : tPart te σ H Q := q
theorem g_int {i : Int} {P : Int → Prop} (q : P i) : ∃ k, V.int i = .int k ∧ P k := ⟨i, rfl, q⟩
theorem u_sl {lo hi : Option Int} (h : SqL K H a xs) (q : ∀ p H', H p = none → Same H H' → H' p = some (.lst (cutV xs lo hi)) → Q (.ref p) H') : rSlL K (.ref a) lo hi H Q := ⟨a, xs, rfl, h, g_new0 q⟩
theorem u_list (h : SqL K H a xs ∨ SqT K H a xs) (q : ∀ p H', H p = none → Same H H' → H' p = some (.lst xs) → Q (.ref p) H') : rLstS K [.ref a] H Q := ⟨a, xs, rfl, h, g_new0 q⟩
theorem u_tuple (h : SqL K H a xs) (q : ∀ p H', H p = none → Same H H' → H' p = some (.tup xs) → Q (.ref p) H') : rTplS K [.ref a] H Q := ⟨a, xs, rfl, .inl ⟨h, g_new0 q⟩⟩
theorem u_tupleT (h : SqT K H a xs) (q : Q (.ref a) H) : rTplS K [.ref a] H Q := ⟨a, xs, rfl, .inr ⟨h, q⟩⟩
theorem u_lenL (h : SqL K H a xs) (q : Q (.int xs.length) H) : rLenS K [.ref a] H Q := ⟨_, _, rfl, .inl ⟨xs, h, rfl⟩, q⟩
theorem u_lenT (h : SqT K H a xs) (q : Q (.int xs.length) H) : rLenS K [.ref a] H Q := ⟨_, _, rfl, .inr ⟨xs, h, rfl⟩, q⟩
theorem u_int1 {i : Int} (q : Q (.int i) H) : rIntS [.int i] H Q := .inl ⟨i, rfl, q⟩
theorem u_int1b {b : Bool} (q : Q (.int (if b then 1 else 0)) H) : rIntS [.bl b] H Q := .inr ⟨b, rfl, q⟩
theorem g_tru {ta : TE} {Q : Bool → Hp → Prop} (q : ta σ H fun x H' => rTruS K x H' Q) : tTru K ta σ H Q := q
theorem u_ixL {i : Int} (h : SqL K H a xs) (e : atI xs i = some v) (q : Q v H) : rIxL K (.ref a) (.int i) H Q := ⟨a, xs, i, v, rfl, rfl, h, e, q⟩
theorem u_ixT {i : Int} (h : SqT K H a xs) (e : atI xs i = some v) (q : Q v H) : rIxT K (.ref a) (.int i) H Q := ⟨a, xs, i, v, rfl, rfl, h, e, q⟩
theorem u_truL {Q : Bool → Hp → Prop} (h : SqL K H a xs) (q : Q (!xs.isEmpty) H) : rTruS K (.ref a) H Q := ⟨_, .inl ⟨xs, h, rfl⟩, q⟩
theorem u_truT {Q : Bool → Hp → Prop} (h : SqT K H a xs) (q : Q (!xs.isEmpty) H) : rTruS K (.ref a) H Q := ⟨_, .inr (.inl ⟨xs, h, rfl⟩), q⟩
theorem u_cat {b : Addr} {zs : List V} (h : H a = some (.lst xs)) (h' : H b = some (.lst zs)) (hz : xs.length + zs.length ≤ 1000000) (q : ∀ p H', H p = none → Same H H' → H' p = some (.lst (xs ++ zs)) → Q (.ref p) H') : rCat (.ref a) (.ref b) H Q :=
  ⟨a, b, xs, zs, rfl, rfl, h, h', by rw [sizeLine_eq]; omega, g_new0 q⟩
theorem u_rep {k : Int} (h : H a = some (.lst [x])) (h1 : -1000000 ≤ k) (h2 : k ≤ 1000000) (q : ∀ p H', H p = none → Same H H' → H' p = some (.lst (List.replicate k.toNat x)) → Q (.ref p) H') : rRep (.ref a) (.int k) H Q := by
  refine ⟨a, k, [x], rfl, rfl, h, by omega, by omega, by rw [sizeLine_eq]; simp only [List.length_cons, List.length_nil]; omega, g_new0 ?_⟩
  have e : (List.replicate k.toNat [x]).flatten = List.replicate k.toNat x := by
    generalize k.toNat = n
    induction n with
    | zero => rfl
    | succ n ih => rw [List.replicate_succ, List.flatten_cons, ih, List.replicate_succ]; rfl
  rw [e]
  exact q
theorem u_sum {ns : List Int} (h : SqL K H a (ns.map V.int)) (q : Q (.int ns.sum) H) : rSum K [.ref a] H Q := ⟨a, ns, rfl, h, q⟩
theorem u_all {bs : List Bool} (h : SqL K H a (bs.map V.bl)) (q : Q (.bl (bs.all id)) H) : rAll K [.ref a] H Q := ⟨a, bs, rfl, h, q⟩
theorem u_any {bs : List Bool} (h : SqL K H a (bs.map V.bl)) (q : Q (.bl (bs.any id)) H) : rAny K [.ref a] H Q := ⟨a, bs, rfl, h, q⟩
theorem u_it {R : It → Hp → Prop} (h : SqL K H a xs) (q : R (Itl K a) H) : ∃ b, V.ref a = .ref b ∧ (∃ xs, SqL K H b xs) ∧ R (Itl K b) H := ⟨a, rfl, ⟨xs, h⟩, q⟩
theorem u_itT {R : It → Hp → Prop} (h : SqT K H a xs) (q : R (Itt K a) H) : ∃ b, V.ref a = .ref b ∧ (∃ xs, SqT K H b xs) ∧ R (Itt K b) H := ⟨a, rfl, ⟨xs, h⟩, q⟩
theorem u_rev {R : It → Hp → Prop} (h : SqL K H a xs) (q : R (Itv K a xs.length) H) : ∃ (b : Addr) (ys : List V), [V.ref a] = [.ref b] ∧ SqL K H b ys ∧ R (Itv K b ys.length) H := ⟨a, xs, rfl, h, q⟩
theorem u_rng {R : It → Hp → Prop} {j : Int} (h : -1000000 ≤ j) (h' : j ≤ 1000000) (q : R (Itr 0 j.toNat) H) : ∃ i : Int, [V.int j] = [.int i] ∧ -(2 ^ 62) ≤ i ∧ i < 2 ^ 62 ∧ R (Itr 0 i.toNat) H := ⟨j, rfl, by omega, by omega, q⟩
theorem cut_to {m : Nat} : cutV xs none (some (m : Int)) = xs.take m := by
  unfold cutV
  rw [HT.sIx_nat, HT.sIx_none, List.drop_zero, Nat.sub_zero, Nat.min_comm, List.take_eq_take_iff]
  omega
theorem cut_from {m : Nat} : cutV xs (some (m : Int)) none = xs.drop m := by
  unfold cutV
  rw [HT.sIx_nat, HT.sIx_none]
  by_cases h : m ≤ xs.length
  · rw [Nat.min_eq_left h, List.take_of_length_le (by rw [List.length_drop]; omega)]
  · rw [Nat.min_eq_right (by omega), List.drop_length, List.drop_of_length_le (by omega), List.take_nil]
theorem cut_mid {m n : Nat} (h : m ≤ xs.length) : cutV xs (some (m : Int)) (some (n : Int)) = (xs.drop m).take (n - m) := by
  unfold cutV
  rw [HT.sIx_nat, HT.sIx_nat, Nat.min_eq_left h, List.take_eq_take_iff, List.length_drop]
  omega
theorem g_dget {td ty : TE} (q : td σ H fun x H1 => ty σ H1 fun y H2 => ∃ a v, x = .ref a ∧ DGet H2 a y (some v) ∧ Q v H2) : tDGet td ty σ H Q := q
theorem g_dput {td ty tv : TE} {D : Ends} (q : tv σ H fun v H1 => td σ H1 fun x H2 => ty σ H2 fun y H3 => ∃ a H4, x = .ref a ∧ DPut H3 a y v H4 ∧ D.nx σ H4) : sDPut td ty tv D σ H := q
end
end L2

namespace Ev
open PySem PySem.Spec PyProof.Rows L2
def topS (i : Nat) : Stmt := PySem.Challenge.pw_everyfloor_k86_whole_sets_with_long_peri.main.body.getD i (.Pass ⟨0, 0, 0, 0⟩)
end Ev

section
open L2 in
local macro_rules | `(tactic| walk_at "gx") => `(tactic| first
  | ((with_reducible show tVar _ _ _ _); refine g_var rfl ?_)
  | with_reducible refine g_c ?_
  | with_reducible refine g_op ?_
  | with_reducible refine g_cons ?_
  | with_reducible refine g_nil ?_
  | with_reducible refine g_test ?_
  | with_reducible refine g_blp ?_
  | with_reducible refine g_asg ?_
  | (with_reducible refine g_name ?_; (try simp only [List.set_cons_zero, List.set_cons_succ]))
  | with_reducible refine g_call ?_
  | with_reducible refine g_cb ?_
  | with_reducible refine g_I0 ?_
  | with_reducible refine g_U ?_
  | with_reducible refine g_eqI ?_
  | with_reducible refine g_neI ?_
  | with_reducible refine g_if ?_
  | with_reducible refine g_ret ?_
  | with_reducible refine g_retN ?_
  | with_reducible refine g_next ?_
  | with_reducible refine g_drop ?_
  | with_reducible refine g_un ?_
  | with_reducible refine g_tb ?_
  | with_reducible refine g_tup ?_
  | with_reducible refine g_lst ?_
  | with_reducible refine g_and ?_
  | with_reducible refine g_or ?_
  | with_reducible refine g_not ?_
  | with_reducible refine g_andV ?_
  | with_reducible refine g_orV ?_
  | with_reducible refine g_notV ?_
  | with_reducible refine g_ifE ?_
  | with_reducible refine g_fld ?_
  | with_reducible refine g_tt ?_
  | with_reducible refine g_ff ?_
  | with_reducible refine g_ntt ?_
  | with_reducible refine g_nff ?_
  | with_reducible refine g_for ?_
  | with_reducible refine g_list ?_
  | with_reducible refine g_tupI ?_
  | with_reducible refine g_rng1 ?_
  | with_reducible refine g_rng2 ?_
  | with_reducible refine g_enumA ?_
  | with_reducible refine g_rev ?_
  | with_reducible refine g_lc ?_
  | with_reducible refine g_gcons ?_
  | with_reducible refine g_gnil ?_
  | with_reducible refine g_yes ?_
  | with_reducible refine g_sl ?_
  | with_reducible refine g_nopart ?_
  | with_reducible refine g_part ?_
  | with_reducible refine g_int ?_
  | with_reducible refine g_dget ?_
  | with_reducible refine g_dput ?_
  | with_reducible refine g_raiseX ?_
  | with_reducible refine g_tru ?_
  | with_reducible refine g_sub ?_
  | with_reducible refine g_isN ?_
  | with_reducible refine g_notN ?_
  | with_reducible refine g_bm ?_
  | with_reducible refine L2.g_bm0 ?_
  | with_reducible refine g_pair ?_
  | with_reducible refine g_pair0 ?_
  | with_reducible refine u_int1 ?_
  | with_reducible refine g_chain ?_
  | with_reducible refine L2.g_sfld ?_
  | (with_reducible refine g_par3 ?_)
  | (with_reducible refine g_three ?_; (try simp only [List.set_cons_zero, List.set_cons_succ]))
  | ((with_reducible apply L2.g_tupT); walk_at "up"; rfl)
  | (with_reducible refine g_par ?_)
  | (with_reducible refine g_two ?_; (try simp only [List.set_cons_zero, List.set_cons_succ]))
  )
local macro_rules | `(tactic| walk_at "go") => `(tactic| first | walk_at "gx" | with_reducible refine L2.g_seq ?_)
local macro_rules | `(tactic| walk_at "gou") => `(tactic| repeat (walk_at "gx"))
local macro_rules | `(tactic| walk_at "gos") => `(tactic| repeat (walk_at "go"))
local macro_rules | `(tactic| walk_at "sl") => `(tactic| first
  | assumption
  | exact L2.Same.l (by assumption)
  | exact L2.SameD.l (by assumption)
  | exact L2.extN_l (by assumption))
local macro_rules | `(tactic| walk_at "up") => `(tactic| first
  | assumption
  | ((with_reducible apply L2.SameL.lst); walk_at "sl"; walk_at "up")
  | ((with_reducible apply L2.SameL.tupA); walk_at "sl"; walk_at "up")
  | ((with_reducible apply L2.SameL.ins); walk_at "sl"; walk_at "up")
  | ((with_reducible apply Ev.PB.l); walk_at "sl"; walk_at "up")
  | ((with_reducible apply Ev.IsP.l); walk_at "sl"; walk_at "up")
  | ((with_reducible apply L2.sqL); walk_at "up")
  | ((with_reducible apply L2.sqT); walk_at "up")
  | ((with_reducible apply L2.SameL.seq); walk_at "sl"; walk_at "up")
  | ((with_reducible apply Ev.Pen.same); assumption; walk_at "up")
  | ((with_reducible apply Ev.Pen.extN); assumption; walk_at "up")
  | ((with_reducible apply L2.tabs_s); assumption; walk_at "up")
  | ((with_reducible apply L2.tabs_dd); assumption; walk_at "up")
  | ((with_reducible apply Or.inl); walk_at "up")
  | ((with_reducible apply Or.inr); walk_at "up"))
local macro_rules | `(tactic| walk_at "new") => `(tactic| (
  first
    | refine ⟨L2.size_ok (by rfl), fun p hp => ?_⟩
    | refine fun p hp => ?_
  generalize hX : L2.upd _ p _ = H1
  obtain ⟨e, h⟩ := L2.news hp hX
  clear hX))
local macro_rules | `(tactic| walk_at "o") => `(tactic| first
  | ((with_reducible apply Ev.o_add); walk_at "up"; walk_at "up"; rfl; rfl; rfl)
  | ((with_reducible apply Ev.o_sub); walk_at "up"; walk_at "up"; rfl; rfl; rfl)
  | ((with_reducible apply Ev.o_mul); walk_at "up"; walk_at "up"; rfl; rfl; rfl)
  | ((with_reducible apply Ev.o_addI); walk_at "up"; assumption; rfl; rfl; rfl)
  | ((with_reducible apply Ev.o_subI); walk_at "up"; assumption; rfl; rfl; rfl)
  | ((with_reducible apply Ev.o_mulI); walk_at "up"; assumption; rfl; rfl; rfl)
  | ((with_reducible apply Ev.o_radd); walk_at "up"; assumption; rfl; rfl; rfl)
  | ((with_reducible apply Ev.o_rsub); walk_at "up"; assumption; rfl; rfl; rfl)
  | ((with_reducible apply Ev.o_rmul); walk_at "up"; assumption; rfl; rfl; rfl)
  | ((with_reducible apply Ev.o_neg); walk_at "up"; rfl; rfl; rfl))
local macro_rules | `(tactic| walk_at "eq") => `(tactic| ((with_reducible apply Ev.u_ownB); assumption; walk_at "up"; walk_at "up"; (focus (intro k; first | rfl | exact Pl.e_add | exact Pl.e_sub | exact Pl.e_mul | exact Pl.e_rsub | exact Pl.e_rsub2))))
local macro_rules | `(tactic| walk_at "isp") => `(tactic| (apply Ev.u_isB; walk_at "up"; walk_at "up"; rfl; rfl))

/-! integers.py and the least form of a piece -/
namespace Ev
open PySem PySem.Spec PyProof.Rows L2
section
variable {P : Program} {w : World} {K : PySem.W.Frag} {mg : Str → Option Value} {base : Heap}
/-- is_integer(x) is b -/
def Kd (K : PySem.W.Frag) (H : Hp) (x : V) (b : Bool) : Prop := ∃ t b1 b2, TyX K H x t ∧ PySem.W.kitOne K t (.type "int") = some b1 ∧ PySem.W.kitOne K t (.type "bool") = some b2 ∧ b = (b1 && !b2)
def spIsInteger (K : PySem.W.Frag) : Sp := fun vs H Q _ => ∃ x b, vs = [x] ∧ Kd K H x b ∧ Q (.bl b) H
theorem sc_is_integer : FnScope ["value"] ["value"] (defScope (topS 10)) := ⟨rfl, rfl, rfl, by decide +kernel, rfl, by decide +kernel, by decide +kernel⟩
theorem ok_is_integer (B : Bn mg) {f : Addr} {fd : FuncData} (F : Fun K "is_integer" "is_integer" (topS 10) f fd) : FnOk P w K mg base (L2.CX P w) 1 f fd ["value"] (spIsInteger K) := by
  have nd := sc_is_integer.nd
  refine F.okX sc_is_integer (fun vs H Q E h => ?_) (fun cdv A outer s H vs Q E hr h => ?_)
  · obtain ⟨x, b, rfl, _⟩ := h
    rfl
  · refine ⟨_, (pss_one (ps_ret (pe_and (pe_callB (call_isiK' (K := K) rfl) (by rfl) B.isinstance (by decide +kernel) (pa_cons (pv 0) (pa_cons (pe_bltn (v := .ty "int") (by rfl) B.int_ (by decide +kernel) rfl) pa_nil))) (pe_one (pe_not (pe_callB (call_isiK' (K := K) rfl) (by rfl) B.isinstance (by decide +kernel) (pa_cons (pv 0) (pa_cons (pe_bltn (v := .ty "bool") (by rfl) B.bool_ (by decide +kernel) rfl) pa_nil)))))))), ?_⟩
    obtain ⟨x, b, rfl, ⟨t, b1, b2, ht, h1, h2, hb⟩, q⟩ := h
    show _
    walk_at "gos"
    refine ⟨x, .ty "int", t, .type "int", b1, rfl, .ty "int", ht, h1, ?_⟩
    walk_at "gos"
    refine g_ite (fun e => ?_) (fun e => ?_)
    · walk_at "gos"
      refine ⟨x, .ty "bool", t, .type "bool", b2, rfl, .ty "bool", ht, h2, ?_⟩
      walk_at "gos"
      subst e hb
      exact q
    · subst e hb
      exact q
/-- the greatest divisor -/
theorem gcd_step {a b : Int} (ha : 0 ≤ a) (hb : 0 ≤ b) : Int.gcd b (a.fmod b) = Int.gcd a b := by
  obtain ⟨n, rfl⟩ := Int.eq_ofNat_of_zero_le ha
  obtain ⟨m, rfl⟩ := Int.eq_ofNat_of_zero_le hb
  rw [Int.fmod_eq_emod_of_nonneg _ hb]
  show Nat.gcd m (n % m) = Nat.gcd n m
  rw [Nat.gcd_comm n m, Nat.gcd_rec m n, Nat.gcd_comm]
theorem gcd_abs (a b : Int) : Int.gcd (if a < 0 then -a else a) (if b < 0 then -b else b) = Int.gcd a b := by
  split <;> split <;> simp
/-- the loop of the greatest divisor -/
def WG (H : Hp) (a b : Int) (m : Nat) (σ' : L2.St) (H' : Hp) : Prop := ∃ a' b' : Int, σ' = [some (V.int a'), some (V.int b')] ∧ 0 ≤ a' ∧ 0 ≤ b' ∧ Int.gcd a' b' = Int.gcd a b ∧ m = b'.natAbs ∧ H' = H
theorem wg0 {H : Hp} {a b : Int} : WG H a b (if b < 0 then -b else b).natAbs [some (V.int (if a < 0 then -a else a)), some (V.int (if b < 0 then -b else b))] H := ⟨_, _, rfl, by split <;> omega, by split <;> omega, gcd_abs a b, rfl, rfl⟩
theorem wg_next {H : Hp} {a b a' b' : Int} (e2 : 0 ≤ a') (e3 : 0 ≤ b') (e4 : Int.gcd a' b' = Int.gcd a b) (hp : b' ≠ 0) : ∃ m', m' < b'.natAbs ∧ WG H a b m' [some (V.int b'), some (V.int (a'.fmod b'))] H := by
  have hm : a'.fmod b' = a' % b' := Int.fmod_eq_emod_of_nonneg _ e3
  have h1 := Int.emod_nonneg a' hp
  have h2 := Int.emod_lt_of_pos a' (show 0 < b' by omega)
  exact ⟨(a'.fmod b').natAbs, by rw [hm]; omega, b', a'.fmod b', rfl, e3, by rw [hm]; exact h1, by rw [gcd_step e2 e3, e4], rfl, rfl⟩
theorem wg_end {a b a' : Int} (e2 : 0 ≤ a') (e4 : Int.gcd a' 0 = Int.gcd a b) : (Int.gcd a b : Int) = a' := by
  rw [← e4, Int.gcd_zero]
  omega
theorem sc_common_divisor : FnScope ["one", "other"] ["one", "other"] (defScope (topS 12)) := ⟨rfl, rfl, rfl, by decide +kernel, rfl, by decide +kernel, by decide +kernel⟩
def spGcd : Sp := fun vs H Q _ => ∃ a b : Int, vs = [.int a, .int b] ∧ Q (.int (Int.gcd a b : Nat)) H
theorem ok_common_divisor (B : Bn mg) {f : Addr} {fd : FuncData} (F : Fun K "common_divisor" "common_divisor" (topS 12) f fd) : FnOk P w K mg base (L2.CX P w) 1 f fd ["one", "other"] spGcd := by
  have nd := sc_common_divisor.nd
  refine F.okX sc_common_divisor (fun vs H Q E h => ?_) (fun cdv A outer s H vs Q E hr h => ?_)
  · obtain ⟨a, b, rfl, _⟩ := h
    rfl
  · refine ⟨_, (pss_cons (ps_par (i := 0) (j := 1) rfl nd rfl rfl (by decide) rfl rfl (pa_cons (pe_callB call_abs (by rfl) B.abs_ (by decide +kernel) (pa_cons (pv 0) pa_nil)) (pa_cons (pe_callB call_abs (by rfl) B.abs_ (by decide +kernel) (pa_cons (pv 1) pa_nil)) pa_nil)) (by rfl))
      (pss_cons (ps_while (passes_of rfl) (pt_cmpR op_gt (pv 1) pe_int (nomark _)) (pss_one (ps_par (i := 0) (j := 1) rfl nd rfl rfl (by decide) rfl rfl (pa_cons (pv 1) (pa_cons (pe_op op_modN (pv 0) (pv 1)) pa_nil)) (by rfl))))
      (pss_one (ps_ret (pv 0))))), ?_⟩
    obtain ⟨a, b, rfl, q⟩ := h
    walk_at "gos"
    refine ⟨a, rfl, ?_⟩
    walk_at "gos"
    refine ⟨b, rfl, ?_⟩
    walk_at "gos"
    refine ⟨WG H a b, ⟨_, wg0⟩, fun m σ' H' ⟨a', b', e1, e2, e3, e4, e5, e6⟩ => ?_⟩
    subst e1 e5 e6
    walk_at "gos"
    refine g_itd (fun hp => ⟨_, fun _ _ z => z, ?_⟩) (fun hp => ?_)
    · walk_at "gos"
      refine g_I (by omega) ?_
      walk_at "gos"
      exact wg_next e2 e3 e4 (by omega)
    · walk_at "gos"
      obtain rfl : b' = 0 := by omega
      rw [wg_end e2 e4] at q
      exact q
def spSign : Sp := fun vs H Q _ => ∃ a : Int, vs = [.int a] ∧ Q (.int a.sign) H
/-! need_integers -/
end
end Ev

end
section
open L2 in
local macro_rules | `(tactic| walk_at "gx") => `(tactic| first
  | ((with_reducible show tVar _ _ _ _); refine g_var rfl ?_)
  | with_reducible refine g_c ?_
  | with_reducible refine g_op ?_
  | with_reducible refine g_cons ?_
  | with_reducible refine g_nil ?_
  | with_reducible refine g_test ?_
  | with_reducible refine g_blp ?_
  | with_reducible refine g_asg ?_
  | (with_reducible refine g_name ?_; (try simp only [List.set_cons_zero, List.set_cons_succ]))
  | with_reducible refine g_call ?_
  | with_reducible refine g_cb ?_
  | with_reducible refine g_I0 ?_
  | with_reducible refine g_U ?_
  | with_reducible refine g_eqI ?_
  | with_reducible refine g_neI ?_
  | with_reducible refine g_if ?_
  | with_reducible refine g_ret ?_
  | with_reducible refine g_retN ?_
  | with_reducible refine g_next ?_
  | with_reducible refine g_drop ?_
  | with_reducible refine g_un ?_
  | with_reducible refine g_tb ?_
  | with_reducible refine g_tup ?_
  | with_reducible refine g_lst ?_
  | with_reducible refine g_and ?_
  | with_reducible refine g_or ?_
  | with_reducible refine g_not ?_
  | with_reducible refine g_andV ?_
  | with_reducible refine g_orV ?_
  | with_reducible refine g_notV ?_
  | with_reducible refine g_ifE ?_
  | with_reducible refine g_fld ?_
  | with_reducible refine g_tt ?_
  | with_reducible refine g_ff ?_
  | with_reducible refine g_ntt ?_
  | with_reducible refine g_nff ?_
  | with_reducible refine g_for ?_
  | with_reducible refine g_list ?_
  | with_reducible refine g_tupI ?_
  | with_reducible refine g_rng1 ?_
  | with_reducible refine g_rng2 ?_
  | with_reducible refine g_enumA ?_
  | with_reducible refine g_rev ?_
  | with_reducible refine g_lc ?_
  | with_reducible refine g_gcons ?_
  | with_reducible refine g_gnil ?_
  | with_reducible refine g_yes ?_
  | with_reducible refine g_sl ?_
  | with_reducible refine g_nopart ?_
  | with_reducible refine g_part ?_
  | with_reducible refine g_int ?_
  | with_reducible refine g_dget ?_
  | with_reducible refine g_dput ?_
  | with_reducible refine g_raiseX ?_
  | with_reducible refine g_tru ?_
  | with_reducible refine g_sub ?_
  | with_reducible refine g_isN ?_
  | with_reducible refine g_notN ?_
  | with_reducible refine g_bm ?_
  | with_reducible refine L2.g_bm0 ?_
  | with_reducible refine g_pair ?_
  | with_reducible refine g_pair0 ?_
  | with_reducible refine u_int1 ?_
  | with_reducible refine g_chain ?_
  | with_reducible refine L2.g_sfld ?_
  | (with_reducible refine g_par3 ?_)
  | (with_reducible refine g_three ?_; (try simp only [List.set_cons_zero, List.set_cons_succ]))
  | ((with_reducible apply L2.g_tupT); walk_at "up"; rfl)
  | (with_reducible refine g_par ?_)
  | (with_reducible refine g_two ?_; (try simp only [List.set_cons_zero, List.set_cons_succ]))
  )
local macro_rules | `(tactic| walk_at "go") => `(tactic| first | walk_at "gx" | with_reducible refine L2.g_seq ?_)
local macro_rules | `(tactic| walk_at "gou") => `(tactic| repeat (walk_at "gx"))
local macro_rules | `(tactic| walk_at "gos") => `(tactic| repeat (walk_at "go"))
local macro_rules | `(tactic| walk_at "sl") => `(tactic| first
  | assumption
  | exact L2.Same.l (by assumption)
  | exact L2.SameD.l (by assumption)
  | exact L2.extN_l (by assumption))
local macro_rules | `(tactic| walk_at "up") => `(tactic| first
  | assumption
  | ((with_reducible apply L2.SameL.lst); walk_at "sl"; walk_at "up")
  | ((with_reducible apply L2.SameL.tupA); walk_at "sl"; walk_at "up")
  | ((with_reducible apply L2.SameL.ins); walk_at "sl"; walk_at "up")
  | ((with_reducible apply Ev.PB.l); walk_at "sl"; walk_at "up")
  | ((with_reducible apply Ev.IsP.l); walk_at "sl"; walk_at "up")
  | ((with_reducible apply L2.sqL); walk_at "up")
  | ((with_reducible apply L2.sqT); walk_at "up")
  | ((with_reducible apply L2.SameL.seq); walk_at "sl"; walk_at "up")
  | ((with_reducible apply Ev.Pen.same); assumption; walk_at "up")
  | ((with_reducible apply Ev.Pen.extN); assumption; walk_at "up")
  | ((with_reducible apply L2.tabs_s); assumption; walk_at "up")
  | ((with_reducible apply L2.tabs_dd); assumption; walk_at "up")
  | ((with_reducible apply Or.inl); walk_at "up")
  | ((with_reducible apply Or.inr); walk_at "up"))
local macro_rules | `(tactic| walk_at "new") => `(tactic| (
  first
    | refine ⟨L2.size_ok (by rfl), fun p hp => ?_⟩
    | refine fun p hp => ?_
  generalize hX : L2.upd _ p _ = H1
  obtain ⟨e, h⟩ := L2.news hp hX
  clear hX))
local macro_rules | `(tactic| walk_at "o") => `(tactic| first
  | ((with_reducible apply Ev.o_add); walk_at "up"; walk_at "up"; rfl; rfl; rfl)
  | ((with_reducible apply Ev.o_sub); walk_at "up"; walk_at "up"; rfl; rfl; rfl)
  | ((with_reducible apply Ev.o_mul); walk_at "up"; walk_at "up"; rfl; rfl; rfl)
  | ((with_reducible apply Ev.o_addI); walk_at "up"; assumption; rfl; rfl; rfl)
  | ((with_reducible apply Ev.o_subI); walk_at "up"; assumption; rfl; rfl; rfl)
  | ((with_reducible apply Ev.o_mulI); walk_at "up"; assumption; rfl; rfl; rfl)
  | ((with_reducible apply Ev.o_radd); walk_at "up"; assumption; rfl; rfl; rfl)
  | ((with_reducible apply Ev.o_rsub); walk_at "up"; assumption; rfl; rfl; rfl)
  | ((with_reducible apply Ev.o_rmul); walk_at "up"; assumption; rfl; rfl; rfl)
  | ((with_reducible apply Ev.o_neg); walk_at "up"; rfl; rfl; rfl))
local macro_rules | `(tactic| walk_at "eq") => `(tactic| ((with_reducible apply Ev.u_ownB); assumption; walk_at "up"; walk_at "up"; (focus (intro k; first | rfl | exact Pl.e_add | exact Pl.e_sub | exact Pl.e_mul | exact Pl.e_rsub | exact Pl.e_rsub2))))
local macro_rules | `(tactic| walk_at "isp") => `(tactic| (apply Ev.u_isB; walk_at "up"; walk_at "up"; rfl; rfl))

/-! pieces.py -/
namespace Ev
open PySem PySem.Spec PyProof.Rows L2
section
variable {P : Program} {w : World} {K : PySem.W.Frag} {mg : Str → Option Value} {base : Heap}
theorem Kd.same {H H' : Hp} {x : V} {b : Bool} (e : Same H H') : Kd K H x b → Kd K H' x b := fun ⟨t, b1, b2, h1, h2⟩ => ⟨t, b1, b2, e.ty h1, h2⟩
theorem Kd.int {H : Hp} {i : Int} : Kd K H (.int i) true := ⟨.type "int", true, false, .base (.int i), kit_ty (by decide +kernel), kit_ty (by decide +kernel), rfl⟩
theorem Kd.bl {H : Hp} {i : Bool} : Kd K H (.bl i) false := ⟨.type "bool", true, true, .base (.bl i), kit_ty (by decide +kernel), kit_ty (by decide +kernel), rfl⟩
theorem Kd.non {H : Hp} : Kd K H .non false := ⟨.type "NoneType", false, false, .base .non, kit_ty (by decide +kernel), kit_ty (by decide +kernel), rfl⟩
theorem Kd.str {H : Hp} {i : Str} : Kd K H (.str i) false := ⟨.type "str", false, false, .base (.str i), kit_ty (by decide +kernel), kit_ty (by decide +kernel), rfl⟩
theorem Kd.tup {H : Hp} {a : Addr} {xs : List V} (h : H a = some (.tup xs)) : Kd K H (.ref a) false := ⟨.type "tuple", false, false, .base (.tup h), kit_ty (by decide +kernel), kit_ty (by decide +kernel), rfl⟩
theorem Kd.lst {H : Hp} {a : Addr} {xs : List V} (h : H a = some (.lst xs)) : Kd K H (.ref a) false := ⟨.type "list", false, false, .base (.lst h), kit_ty (by decide +kernel), kit_ty (by decide +kernel), rfl⟩
/-- the class and the data of an exception with one field -/
def Exc1 (H H' : Hp) (C : Addr) (n : Str) (v : V) (E : XK) : Prop := Same H H' → ∀ d, H' d = some (.xd [(n, v)]) → E (.ref C) (some d) H'
def spNeed (K : PySem.W.Frag) (C : Addr) : Sp := fun vs H Q E => ∃ (a : Addr) (xs : List V) (kd : Nat → Bool), vs = [.ref a] ∧ (SqL K H a xs ∨ SqT K H a xs) ∧ (∀ i x, xs[i]? = some x → Kd K H x (kd i)) ∧
  ((∀ i, i < xs.length → kd i = true) → ∀ H', Same H H' → Q .non H') ∧
  ∀ i, i < xs.length → kd i = false → (∀ j, j < i → kd j = true) → ∀ H', Exc1 H H' C "index" (.int (i : Nat)) E
end
end Ev

end
/-! What a law keeps: all but dicts and tables of code objects. -/
namespace L2
open PySem PySem.Spec PyProof.Rows
def SameL (H H' : Hp) : Prop := ∀ b o, H b = some o → (∀ kvs, o ≠ .dK kvs) → (∀ ps, o ≠ .tbl ps) → H' b = some o
theorem Same.l {H H' : Hp} (e : Same H H') : SameL H H' := fun b o h _ _ => e b o h
theorem SameD.l {H H' : Hp} (e : SameD H H') : SameL H H' := fun b o h n _ => e b o h n
theorem extN_l {H H' : Hp} (e : LamX.ExtN H H') : SameL H H' := fun b o h _ n => e b o h n
theorem SameL.refl (H : Hp) : SameL H H := fun _ _ h _ _ => h
theorem SameL.trans {H H1 H2 : Hp} (a : SameL H H1) (b : SameL H1 H2) : SameL H H2 := fun c o h n m => b c o (a c o h n m) n m
theorem SameL.lst {H H' : Hp} (e : SameL H H') {a : Addr} {xs : List V} (h : H a = some (.lst xs)) : H' a = some (.lst xs) := e a _ h (fun _ z => nomatch z) fun _ z => nomatch z
theorem SameL.tupA {H H' : Hp} (e : SameL H H') {a : Addr} {xs : List V} (h : H a = some (.tup xs)) : H' a = some (.tup xs) := e a _ h (fun _ z => nomatch z) fun _ z => nomatch z
theorem SameL.ins {H H' : Hp} (e : SameL H H') {a C dx : Addr} {fs : List (Str × V)} (h : H a = some (.ins C dx fs)) : H' a = some (.ins C dx fs) := e a _ h (fun _ z => nomatch z) fun _ z => nomatch z
theorem SameL.seq {K : PySem.W.Frag} {H H' : Hp} {a : Addr} {xs : List V} (e : SameL H H') (h : SqL K H a xs) : SqL K H' a xs := by
  rcases h with (h | ⟨o, h⟩) | h
  · exact .inl (.inl (e _ _ h (fun _ z => nomatch z) fun _ z => nomatch z))
  · exact .inl (.inr ⟨o, e _ _ h (fun _ z => nomatch z) fun _ z => nomatch z⟩)
  · exact .inr h
theorem SameL.mut {H H' : Hp} {p : Addr} {o : HO} (e : SameL H H') (h : H p = none) : SameL H (upd H' p o) := fun a u ha n m => by
  rw [upd_ne (ne_of_none ha h)]
  exact e a u ha n m
theorem extN_ext {H H' H'' : Hp} (a : LamX.ExtN H H') (b : Same H' H'') : LamX.ExtN H H'' := a.trans (LamX.ExtN.of b)
theorem tabs_d {T : List (Addr × Str)} {H H' : Hp} (t : LamX.Tabs T H) (e : SameD H H') : LamX.Tabs T H' := fun p hp => by
  obtain ⟨ps, h1, h2, h3⟩ := t p hp
  refine ⟨ps, e _ _ h1 (fun _ z => nomatch z), h2, fun pos cv hc => ?_⟩
  obtain ⟨c, e1, e2⟩ := h3 pos cv hc
  exact ⟨c, e1, e _ _ e2 (fun kvs z => by unfold LamX.CodeO at z; cases z)⟩
theorem tabs_s {T : List (Addr × Str)} {H H' : Hp} (e : Same H H') (t : LamX.Tabs T H) : LamX.Tabs T H' := t.ext e
theorem tabs_dd {T : List (Addr × Str)} {H H' : Hp} (e : SameD H H') (t : LamX.Tabs T H) : LamX.Tabs T H' := tabs_d t e
theorem tabs_upd {T : List (Addr × Str)} {H : Hp} {l : Addr} {xs : List V} {o : HO} (t : LamX.Tabs T H) (h : H l = some (.lst xs)) : LamX.Tabs T (upd H l o) := fun p hp => by
  obtain ⟨ps, h1, h2, h3⟩ := t p hp
  refine ⟨ps, ?_, h2, fun pos cv hc => ?_⟩
  · rw [upd_ne (fun z => by rw [z, h] at h1; cases h1)]; exact h1
  · obtain ⟨c, e1, e2⟩ := h3 pos cv hc
    exact ⟨c, e1, by rw [upd_ne (fun z => by rw [z, h] at e2; unfold LamX.CodeO at e2; cases e2)]; exact e2⟩
end L2

/-! Lists or tuples, whichever. -/
namespace L2
open PySem PySem.Spec PyProof.Rows
def SqA (K : PySem.W.Frag) (H : Hp) (a : Addr) (xs : List V) : Prop := SqL K H a xs ∨ SqT K H a xs
theorem SameL.tupS {K : PySem.W.Frag} {H H' : Hp} {a : Addr} {xs : List V} (e : SameL H H') (h : SqT K H a xs) : SqT K H' a xs := by
  rcases h with (h | ⟨o, h⟩) | h
  · exact .inl (.inl (e _ _ h (fun _ z => nomatch z) fun _ z => nomatch z))
  · exact .inl (.inr ⟨o, e _ _ h (fun _ z => nomatch z) fun _ z => nomatch z⟩)
  · exact .inr h
theorem SqA.l {K : PySem.W.Frag} {H H' : Hp} {a : Addr} {xs : List V} (e : SameL H H') (h : SqA K H a xs) : SqA K H' a xs := h.elim (fun q => .inl (e.seq q)) fun q => .inr (e.tupS q)
theorem SqA.same {K : PySem.W.Frag} {H H' : Hp} {a : Addr} {xs : List V} (e : Same H H') (h : SqA K H a xs) : SqA K H' a xs := h.l e.l
/-- nothing but x is changed -/
def SameB (x : Addr) (H H' : Hp) : Prop := ∀ b o, b ≠ x → H b = some o → H' b = some o
theorem SameB.of {x : Addr} {H H' : Hp} (e : Same H H') : SameB x H H' := fun b o _ h => e b o h
theorem SameB.trans {x : Addr} {H H1 H2 : Hp} (a : SameB x H H1) (b : SameB x H1 H2) : SameB x H H2 := fun c o n h => b c o n (a c o n h)
theorem SameB.upd {x : Addr} {H H1 : Hp} {o : HO} (a : SameB x H H1) : SameB x H (upd H1 x o) := fun c u n h => by rw [upd_ne n]; exact a c u n h
theorem SqL.updI {K : PySem.W.Frag} {H : Hp} {a x C dx : Addr} {fs : List (Str × V)} {xs : List V} {o : HO} (hx : H x = some (.ins C dx fs)) (h : SqL K H a xs) : SqL K (upd H x o) a xs := by
  rcases h with (h | ⟨u, h⟩) | h
  · exact .inl (.inl (by rw [upd_ne (fun z => by rw [z, hx] at h; cases h)]; exact h))
  · exact .inl (.inr ⟨u, by rw [upd_ne (fun z => by rw [z, hx] at h; cases h)]; exact h⟩)
  · exact .inr h
theorem SqT.updI {K : PySem.W.Frag} {H : Hp} {a x C dx : Addr} {fs : List (Str × V)} {xs : List V} {o : HO} (hx : H x = some (.ins C dx fs)) (h : SqT K H a xs) : SqT K (upd H x o) a xs := by
  rcases h with (h | ⟨u, h⟩) | h
  · exact .inl (.inl (by rw [upd_ne (fun z => by rw [z, hx] at h; cases h)]; exact h))
  · exact .inl (.inr ⟨u, by rw [upd_ne (fun z => by rw [z, hx] at h; cases h)]; exact h⟩)
  · exact .inr h
theorem SqA.updI {K : PySem.W.Frag} {H : Hp} {a x C dx : Addr} {fs : List (Str × V)} {xs : List V} {o : HO} (hx : H x = some (.ins C dx fs)) (h : SqA K H a xs) : SqA K (upd H x o) a xs := h.elim (fun q => .inl (q.updI hx)) fun q => .inr (q.updI hx)
/-- a place, a slice of any of both -/
def rIxA (K : PySem.W.Frag) : R2 := fun x y H Q => rIxL K x y H Q ∨ rIxT K x y H Q
def rSlX (K : PySem.W.Frag) : V → Option Int → Option Int → Hp → VK → Prop := fun x lo hi H Q => rSlL K x lo hi H Q ∨ rSlA K x lo hi H Q
section
variable {X : Cx} {K : PySem.W.Frag}
theorem ix_anyK (h : X.K = K) : IxR X (rIxA K) := (ix_listK h).or (ix_tupK h)
theorem sl_tupAK (h : X.K = K) : SlR X (rSlA K) := h ▸ sl_tupA
theorem sl_anyK (h : X.K = K) : SlR X (rSlX K) := (sl_listK h).or (sl_tupAK h)
end
section
variable {σ : St} {H H' : Hp} {Q : VK} {K : PySem.W.Frag} {a : Addr} {xs : List V} {v : V}
theorem u_ixA {i : Int} (h : SqA K H a xs) (e : atI xs i = some v) (q : Q v H) : rIxA K (.ref a) (.int i) H Q := h.elim (fun z => .inl (u_ixL z e q)) fun z => .inr (u_ixT z e q)
theorem cut_whole {lo hi : Option Int} (h : HT.sIx xs.length 0 lo = 0 ∧ HT.sIx xs.length xs.length hi = xs.length) : cutV xs lo hi = xs := by
  unfold cutV
  rw [h.1, h.2, List.drop_zero, Nat.sub_zero, List.take_length]
theorem u_slT {lo hi : Option Int} (h : SqT K H a xs) (q : ∀ b H', Same H H' → SqT K H' b (cutV xs lo hi) → Q (.ref b) H') : rSlA K (.ref a) lo hi H Q :=
  ⟨a, xs, rfl, h, fun w => q a H (Same.refl H) (by rw [cut_whole w]; exact h), fun _ => g_new0 fun p H' _ e hp => q p H' e (sqT hp)⟩
theorem u_slA {lo hi : Option Int} (h : SqA K H a xs) (q : ∀ b H', Same H H' → SqA K H' b (cutV xs lo hi) → Q (.ref b) H') : rSlX K (.ref a) lo hi H Q :=
  h.elim (fun z => .inl (u_sl z fun p H' _ e hp => q p H' e (.inl (sqL hp)))) fun z => .inr (u_slT z fun b H' e hb => q b H' e (.inr hb))
theorem u_tupA (h : SqA K H a xs) (q : ∀ t H', Same H H' → SqT K H' t xs → Q (.ref t) H') : rTplS K [.ref a] H Q :=
  h.elim (fun z => u_tuple z fun p H' _ e hp => q p H' e (sqT hp)) fun z => u_tupleT z (q a H (Same.refl H) z)
theorem u_lenA (h : SqA K H a xs) (q : Q (.int xs.length) H) : rLenS K [.ref a] H Q := h.elim (fun z => u_lenL z q) fun z => u_lenT z q
theorem g_rng3 {t : TA} {R : It → Hp → Prop} (q : t σ H fun vs H1 => ∃ (i j c : Int) (n : Nat), vs = [.int i, .int j, .int c] ∧ RgC i j c n ∧ R (Itc i c n) H1) : iRng3 t σ H R := q
theorem u_neD {x y : V} {d e : PyData} {b : Bool} {Q : VK} (h1 : Dp K H x d) (h2 : Dp K H y e) (s1 : SeqAt.shaped d = true) (s2 : SeqAt.shaped e = true) (hb : PyData.eqv d e = b) (q : Q (.bl (!b)) H) : rNeD K x y H Q := ⟨d, e, h1, h2, s1, s2, by rw [hb]; exact q⟩
theorem shaped_tag {x : Str} {d : PyData} (hx : PyData.canLay0 (.str x) = true) (h : d.canLay0 = true) (h2 : d.depth ≤ 3) : SeqAt.shaped (.tuple [.str x, d]) = true := by
  show (PyData.canLay0 (.tuple [.str x, d]) && decide (PyData.depth (.tuple [.str x, d]) ≤ 64)) = true
  rw [Bool.and_eq_true]
  have e : PyData.depth (.tuple [.str x, d]) = max 0 (max d.depth 0) + 1 := by simp only [PyData.depth, PyData.depthAll]
  have e2 : PyData.canLay0 (.tuple [.str x, d]) = (PyData.canLay0 (.str x) && (d.canLay0 && true)) := by simp only [PyData.canLay0, PyData.canLayAll0]
  exact ⟨by rw [e2, hx, h]; rfl, decide_eq_true (by omega)⟩
/-! rows of truths -/
theorem dpAll_bools : ∀ ns : List Bool, DpAll K H (ns.map V.bl) (ns.map PyData.bool)
  | [] => .nil
  | n :: r => .cons (.bl n) (dpAll_bools r)
theorem eqv_bools : ∀ ns ms : List Bool, PyData.eqvAll (ns.map PyData.bool) (ms.map PyData.bool) = decide (ns = ms)
  | [], [] => by simp [PyData.eqvAll]
  | [], _ :: _ => by simp [PyData.eqvAll]
  | _ :: _, [] => by simp [PyData.eqvAll]
  | a :: r, b :: t => by
    simp only [List.map_cons, PyData.eqvAll, PyData.eqv, eqv_bools r t]
    by_cases h : a = b <;> by_cases h' : r = t <;> simp [h, h']
theorem lay_bools : ∀ ns : List Bool, PyData.canLayAll0 (ns.map PyData.bool) = true
  | [] => by simp [PyData.canLayAll0]
  | a :: r => by simp [PyData.canLayAll0, PyData.canLay0, lay_bools r]
theorem depth_bools : ∀ ns : List Bool, PyData.depthAll (ns.map PyData.bool) = 0
  | [] => by simp [PyData.depthAll]
  | a :: r => by simp [PyData.depthAll, PyData.depth, depth_bools r]
theorem shaped_boolsL (ns : List Bool) : SeqAt.shaped (.list (ns.map PyData.bool)) = true := by
  simp [SeqAt.shaped, PyData.canLay0, PyData.depth, lay_bools, depth_bools]
theorem shaped_boolsT (ns : List Bool) : SeqAt.shaped (.tuple (ns.map PyData.bool)) = true := by
  simp [SeqAt.shaped, PyData.canLay0, PyData.depth, lay_bools, depth_bools]
theorem u_eqLB {b : Addr} {ns ms : List Bool} (h1 : SqL K H a (ns.map V.bl)) (h2 : SqL K H b (ms.map V.bl)) (q : Q (.bl (decide (ns = ms))) H) : rEqD K (.ref a) (.ref b) H Q :=
  ⟨_, _, .lst h1 (dpAll_bools ns), .lst h2 (dpAll_bools ms), shaped_boolsL _, shaped_boolsL _, by
    show Q (.bl (PyData.eqv (.list (ns.map PyData.bool)) (.list (ms.map PyData.bool)))) H
    rw [PyData.eqv, eqv_bools]; exact q⟩
theorem u_eqTB {b : Addr} {ns ms : List Bool} (h1 : SqT K H a (ns.map V.bl)) (h2 : SqT K H b (ms.map V.bl)) (q : Q (.bl (decide (ns = ms))) H) : rEqD K (.ref a) (.ref b) H Q :=
  ⟨_, _, .tup h1 (dpAll_bools ns), .tup h2 (dpAll_bools ms), shaped_boolsT _, shaped_boolsT _, by
    show Q (.bl (PyData.eqv (.tuple (ns.map PyData.bool)) (.tuple (ms.map PyData.bool)))) H
    rw [PyData.eqv, eqv_bools]; exact q⟩
theorem bools_inj {ns ms : List Bool} (h : ns.map V.bl = ms.map V.bl) : ns = ms := by
  induction ns generalizing ms with
  | nil => cases ms with
    | nil => rfl
    | cons a b => cases h
  | cons a r ih => cases ms with
    | nil => cases h
    | cons b s =>
      rw [List.map_cons, List.map_cons] at h
      injection h with h1 h2
      injection h1 with h1
      rw [h1, ih h2]
end
end L2

/-! Sets of n, plainly. -/
namespace Wp
/-- a member of a row of truths -/
def bt (l : List Bool) (k : Nat) : Bool := l.getD k false
theorem bt_in {l : List Bool} {k : Nat} (h : k < l.length) : bt l k = l[k] := by
  unfold bt
  rw [List.getD_eq_getElem?_getD, List.getElem?_eq_getElem h]
  rfl
theorem bt_get {l : List Bool} {k : Nat} {x : Bool} (h : l[k]? = some x) : bt l k = x := by
  unfold bt
  rw [List.getD_eq_getElem?_getD, h]
  rfl
theorem bt_some {l : List Bool} {k : Nat} (h : k < l.length) : l[k]? = some (bt l k) := by rw [bt_in h, List.getElem?_eq_getElem h]
theorem bt_take {l : List Bool} {m k : Nat} (h : k < m) : bt (l.take m) k = bt l k := by
  unfold bt
  rw [List.getD_eq_getElem?_getD, List.getD_eq_getElem?_getD, List.getElem?_take, if_pos h]
theorem bt_ext {a b : List Bool} (hl : a.length = b.length) (h : ∀ k, k < a.length → bt a k = bt b k) : a = b := by
  refine List.ext_getElem hl fun i h1 h2 => ?_
  rw [← bt_in h1, ← bt_in h2]
  exact h i h1
/-- the truth at n -/
def mem (b r : List Bool) (n : Nat) : Bool := if n < b.length then bt b n else bt r (n % r.length)
/-- q is a period from s on -/
def Per (f : Nat → Bool) (s q : Nat) : Prop := ∀ n, s ≤ n → f (n + q) = f n
theorem Per.mul {f : Nat → Bool} {s q : Nat} (h : Per f s q) : ∀ k, Per f s (k * q)
  | 0 => fun n _ => by rw [Nat.zero_mul]; rfl
  | k + 1 => fun n hn => by rw [Nat.add_mul, Nat.one_mul, ← Nat.add_assoc, h _ (by omega), Per.mul h k n hn]
theorem Per.gcd {f : Nat → Bool} {s : Nat} (p q : Nat) : Per f s p → Per f s q → Per f s (Nat.gcd p q) := by
  induction p, q using Nat.gcd.induction with
  | H0 n => intro _ h; rw [Nat.gcd_zero_left]; exact h
  | H1 m n hm ih =>
    intro h1 h2
    rw [Nat.gcd_rec]
    refine ih (fun k hk => ?_) h1
    have e : k + n = k + n % m + n / m * m := by
      have := Nat.mod_add_div n m
      rw [Nat.mul_comm] at this
      omega
    rw [← h2 k hk, e, (h1.mul (n / m)) _ (by omega)]
theorem Per.le {f : Nat → Bool} {s t q : Nat} (h : Per f s q) (hs : s ≤ t) : Per f t q := fun n hn => h n (by omega)
theorem Per.congr {f g : Nat → Bool} {s q : Nat} (h : Per f s q) (e : ∀ n, f n = g n) : Per g s q := fun n hn => by rw [← e, ← e]; exact h n hn
theorem mem_per {b r : List Bool} : Per (mem b r) b.length r.length := fun n hn => by
  unfold mem
  rw [if_neg (by omega), if_neg (by omega), Nat.add_mod_right]
/-- the least data -/
structure Nm (b r : List Bool) : Prop where
  pos : 0 < r.length
  per : ∀ s q, 0 < q → Per (mem b r) s q → r.length ≤ q
  low : 0 < b.length → bt b (b.length - 1) ≠ bt r ((b.length - 1) % r.length)
theorem Nm.uniq {b r b' r' : List Bool} (h : Nm b r) (h' : Nm b' r') (e : ∀ n, mem b r n = mem b' r' n) : b = b' ∧ r = r' := by
  have hl : r.length = r'.length := Nat.le_antisymm (h.per _ _ h'.pos (mem_per.congr fun n => (e n).symm)) (h'.per _ _ h.pos (mem_per.congr e))
  have hr : r = r' := by
    refine bt_ext hl fun k hk => ?_
    have h1 := e (k + (b.length + b'.length) * r.length)
    unfold mem at h1
    have hm : b.length + b'.length ≤ (b.length + b'.length) * r.length := Nat.le_mul_of_pos_right _ h.pos
    rw [if_neg (by omega), if_neg (by omega), ← hl, Nat.add_mul_mod_self_right, Nat.mod_eq_of_lt hk] at h1
    exact h1
  subst hr
  have hb : b.length = b'.length := by
    rcases Nat.lt_trichotomy b.length b'.length with hlt | he | hlt
    · have h1 := e (b'.length - 1)
      unfold mem at h1
      rw [if_neg (by omega), if_pos (by omega)] at h1
      exact absurd h1.symm (h'.low (by omega))
    · exact he
    · have h1 := e (b.length - 1)
      unfold mem at h1
      rw [if_pos (by omega), if_neg (by omega)] at h1
      exact absurd h1 (h.low (by omega))
  refine ⟨bt_ext hb fun k hk => ?_, rfl⟩
  have h1 := e k
  unfold mem at h1
  rw [if_pos hk, if_pos (by omega)] at h1
  exact h1
/-- the row comes round after d -/
def Rnd (R : List Bool) (d : Nat) : Prop := ∀ i, i < R.length → bt R i = bt R (i % d)
/-- the row's least round -/
structure LP (R : List Bool) (d : Nat) : Prop where
  pos : 0 < d
  dvd : R.length % d = 0
  rnd : Rnd R d
  least : ∀ e, 0 < e → e < d → R.length % e = 0 → ¬ Rnd R e
theorem rnd_self {R : List Bool} : Rnd R R.length := fun i hi => by rw [Nat.mod_eq_of_lt hi]
theorem LP.le {R : List Bool} {d : Nat} (h : LP R d) (hR : 0 < R.length) : d ≤ R.length := Nat.le_of_dvd hR (Nat.dvd_of_mod_eq_zero h.dvd)
theorem mem_take {b R : List Bool} {d : Nat} (h : LP R d) (hR : 0 < R.length) (n : Nat) : mem b (R.take d) n = mem b R n := by
  unfold mem
  split
  · rfl
  · have hd := h.le hR
    have hl : (R.take d).length = d := by rw [List.length_take]; omega
    have h1 := Nat.mod_lt n hR
    rw [hl, bt_take (Nat.mod_lt _ h.pos), h.rnd _ h1, Nat.mod_mod_of_dvd _ (Nat.dvd_of_mod_eq_zero h.dvd)]
theorem lp_per {b R : List Bool} {d : Nat} (h : LP R d) (hR : 0 < R.length) {s q : Nat} (hq : 0 < q) (hp : Per (mem b (R.take d)) s q) : (R.take d).length ≤ q := by
  have hd := h.le hR
  have hl : (R.take d).length = d := by rw [List.length_take]; omega
  have hm := mem_per (b := b) (r := R.take d)
  rw [hl] at hm ⊢
  have hS : Per (mem b (R.take d)) (s + b.length) (Nat.gcd d q) := Per.gcd d q (hm.le (by omega)) (hp.le (by omega))
  have hg : 0 < Nat.gcd d q := Nat.gcd_pos_of_pos_left _ h.pos
  have hgd : Nat.gcd d q ∣ d := Nat.gcd_dvd_left d q
  have hdl : d ∣ R.length := Nat.dvd_of_mod_eq_zero h.dvd
  have hgl : Nat.gcd d q ∣ R.length := Nat.dvd_trans hgd hdl
  have hrnd : Rnd R (Nat.gcd d q) := fun i hi => by
    -- far out
    have far : ∀ j, bt R (j % R.length) = mem b (R.take d) (j + (s + b.length) * R.length) := fun j => by
      rw [mem_take h hR]
      unfold mem
      have : s + b.length ≤ (s + b.length) * R.length := Nat.le_mul_of_pos_right _ hR
      rw [if_neg (by omega), Nat.add_mul_mod_self_right]
    have e1 := far i
    rw [Nat.mod_eq_of_lt hi] at e1
    have e2 := far (i % Nat.gcd d q)
    have hlt : i % Nat.gcd d q < R.length := by have := Nat.mod_le i (Nat.gcd d q); omega
    rw [Nat.mod_eq_of_lt hlt] at e2
    rw [e1, e2]
    have hsl : s + b.length ≤ (s + b.length) * R.length := Nat.le_mul_of_pos_right _ hR
    have e3 := (hS.mul (i / Nat.gcd d q)) (i % Nat.gcd d q + (s + b.length) * R.length) (by omega)
    rw [← e3]
    have := Nat.mod_add_div i (Nat.gcd d q)
    rw [Nat.mul_comm] at this
    congr 1
    omega
  have hle := Nat.le_of_dvd hq (Nat.gcd_dvd_right d q)
  by_cases hlt : Nat.gcd d q < d
  · exact absurd hrnd (h.least _ hg hlt (Nat.mod_eq_zero_of_dvd hgl))
  · omega
/-- the start: the last s truths of b from there on are those of the round -/
structure St (b r : List Bool) (s : Nat) : Prop where
  le : s ≤ b.length
  same : ∀ k, s ≤ k → k < b.length → bt b k = bt r (k % r.length)
  low : 0 < s → bt b (s - 1) ≠ bt r ((s - 1) % r.length)
theorem mem_cut {b r : List Bool} {s : Nat} (h : St b r s) (n : Nat) : mem (b.take s) r n = mem b r n := by
  have hl : (b.take s).length = s := by rw [List.length_take]; have := h.le; omega
  unfold mem
  rw [hl]
  by_cases h1 : n < s
  · rw [if_pos h1, if_pos (by have := h.le; omega), bt_take h1]
  · rw [if_neg h1]
    by_cases h2 : n < b.length
    · rw [if_pos h2, h.same n (by omega) h2]
    · rw [if_neg h2]
theorem nm_made {b R : List Bool} {d s : Nat} (hR : 0 < R.length) (h : LP R d) (hs : St b (R.take d) s) : Nm (b.take s) (R.take d) ∧ ∀ n, mem (b.take s) (R.take d) n = mem b R n := by
  have hd := h.le hR
  have hl : (R.take d).length = d := by rw [List.length_take]; omega
  have hl2 : (b.take s).length = s := by rw [List.length_take]; have := hs.le; omega
  refine ⟨⟨by rw [hl]; exact h.pos, fun s' q hq hp => lp_per h hR hq (hp.congr fun n => mem_cut hs n), fun h0 => ?_⟩, fun n => by rw [mem_cut hs, mem_take h hR]⟩
  rw [hl2] at h0 ⊢
  rw [bt_take (by omega)]
  exact hs.low h0
/-- rounds put side by side -/
theorem rep_len {xs : List Bool} : ∀ k, ((List.replicate k xs).flatten).length = k * xs.length
  | 0 => by simp
  | k + 1 => by rw [List.replicate_succ, List.flatten_cons, List.length_append, rep_len k, Nat.add_mul, Nat.one_mul]; omega
theorem rep_at {xs : List Bool} (hx : 0 < xs.length) : ∀ k i, i < k * xs.length → bt ((List.replicate k xs).flatten) i = bt xs (i % xs.length)
  | 0, i, h => by omega
  | k + 1, i, h => by
    rw [List.replicate_succ, List.flatten_cons]
    unfold bt
    rw [List.getD_eq_getElem?_getD, List.getD_eq_getElem?_getD]
    by_cases h1 : i < xs.length
    · rw [List.getElem?_append_left h1, Nat.mod_eq_of_lt h1]
    · rw [Nat.add_mul, Nat.one_mul] at h
      rw [List.getElem?_append_right (by omega), ← List.getD_eq_getElem?_getD, ← List.getD_eq_getElem?_getD]
      have := rep_at hx k (i - xs.length) (by omega)
      unfold bt at this
      rw [this, Nat.mod_eq_sub_mod (a := i) (by omega)]
/-- the row is its first d, k times -/
theorem rnd_iff {R : List Bool} {d : Nat} (hd : 0 < d) (hle : d ≤ R.length) (hm : R.length % d = 0) : R = (List.replicate (R.length / d) (R.take d)).flatten ↔ Rnd R d := by
  have hl : (R.take d).length = d := by rw [List.length_take]; omega
  have hk : R.length / d * d = R.length := Nat.div_mul_cancel (Nat.dvd_of_mod_eq_zero hm)
  constructor
  · intro e i hi
    have h1 : bt R i = bt (R.take d) (i % d) := by
      conv => lhs; rw [e]
      rw [rep_at (by omega) _ _ (by rw [hl, hk]; exact hi), hl]
    rw [h1, bt_take (Nat.mod_lt _ hd)]
  · intro h
    refine bt_ext (by rw [rep_len, hl, hk]) fun k hk' => ?_
    rw [rep_at (by omega) _ _ (by rw [hl, hk]; exact hk'), hl, bt_take (Nat.mod_lt _ hd)]
    exact h k hk'
/-- a function that comes round has least data -/
theorem lp_ex (R : List Bool) (hR : 0 < R.length) : ∃ d, LP R d := by
  have key : ∀ n, (∃ d, d ≤ n ∧ LP R d) ∨ ∀ e, 0 < e → e ≤ n → R.length % e = 0 → ¬ Rnd R e := by
    intro n
    induction n with
    | zero => exact .inr fun e h1 h2 => by omega
    | succ n ih =>
      rcases ih with ⟨d, h1, h2⟩ | h
      · exact .inl ⟨d, by omega, h2⟩
      · by_cases hc : R.length % (n + 1) = 0 ∧ Rnd R (n + 1)
        · exact .inl ⟨n + 1, Nat.le_refl _, by omega, hc.1, hc.2, fun e h1 h2 => h e h1 (by omega)⟩
        · refine .inr fun e h1 h2 h3 h4 => ?_
          by_cases he : e = n + 1
          · subst he; exact hc ⟨h3, h4⟩
          · exact h e h1 (by omega) h3 h4
  rcases key R.length with ⟨d, _, h⟩ | h
  · exact ⟨d, h⟩
  · exact absurd rnd_self (h R.length hR (Nat.le_refl _) (Nat.mod_self _))
theorem st_ex (b r : List Bool) : ∃ s, St b r s := by
  have key : ∀ n, n ≤ b.length → (∀ k, n ≤ k → k < b.length → bt b k = bt r (k % r.length)) → ∃ s, St b r s := by
    intro n
    induction n with
    | zero => exact fun h1 h2 => ⟨0, Nat.zero_le _, h2, fun h => absurd h (Nat.lt_irrefl 0)⟩
    | succ n ih =>
      intro h1 h2
      by_cases hc : bt b n = bt r (n % r.length)
      · refine ih (by omega) fun k h3 h4 => ?_
        by_cases hk : k = n
        · subst hk; exact hc
        · exact h2 k (by omega) h4
      · exact ⟨n + 1, h1, h2, fun _ => by rw [Nat.add_sub_cancel]; exact hc⟩
  exact key b.length (Nat.le_refl _) fun k h1 h2 => by omega
theorem nm_ex (b R : List Bool) (hR : 0 < R.length) : ∃ b' r', Nm b' r' ∧ ∀ n, mem b' r' n = mem b R n := by
  obtain ⟨d, hd⟩ := lp_ex R hR
  obtain ⟨s, hs⟩ := st_ex b (R.take d)
  exact ⟨_, _, nm_made hR hd hs⟩
end Wp
namespace Wp
theorem nm_len {bl rl B R : List Bool} (hR : 0 < R.length) (h : Nm bl rl) (e : ∀ n, mem bl rl n = mem B R n) : rl.length ≤ R.length ∧ bl.length ≤ B.length := by
  obtain ⟨d, hd⟩ := lp_ex R hR
  obtain ⟨s, hs⟩ := st_ex B (R.take d)
  obtain ⟨h1, h2⟩ := nm_made hR hd hs
  obtain ⟨rfl, rfl⟩ := h.uniq h1 fun n => by rw [e, h2]
  rw [List.length_take, List.length_take]
  omega
/-- more truths, more rounds -/
theorem mem_longer {B R M : List Bool} {k : Nat} (hR : 0 < R.length) (hk : 0 < k) (hl : B.length ≤ M.length) (hM : ∀ i, i < M.length → bt M i = mem B R i) (n : Nat) : mem M (List.replicate k R).flatten n = mem B R n := by
  have hlen := rep_len (xs := R) k
  have hpos : 0 < k * R.length := Nat.mul_pos hk hR
  by_cases h : n < M.length
  · unfold mem
    rw [if_pos h, hM n h]
    rfl
  · unfold mem
    rw [if_neg h, if_neg (by omega), hlen, rep_at hR _ _ (Nat.mod_lt _ hpos), Nat.mod_mod_of_dvd _ (Nat.dvd_mul_left _ _)]
end Wp
namespace Wp
theorem lp_rep {R : List Bool} {d k : Nat} (h : LP R d) (hR : 0 < R.length) (hk : 0 < k) : LP (List.replicate k R).flatten d := by
  have hlen := rep_len (xs := R) k
  have hpos : 0 < (List.replicate k R).flatten.length := by rw [hlen]; exact Nat.mul_pos hk hR
  obtain ⟨d', hd'⟩ := lp_ex _ hpos
  have s0 : ∀ r : List Bool, St [] r 0 := fun r => ⟨Nat.le_refl _, fun k _ h => absurd h (Nat.not_lt_zero k), fun h => absurd h (Nat.lt_irrefl 0)⟩
  obtain ⟨n1, e1⟩ := nm_made hR h (s0 _)
  obtain ⟨n2, e2⟩ := nm_made hpos hd' (s0 _)
  have := (n1.uniq n2 fun n => by rw [e1, e2, mem_longer (M := []) hR hk (Nat.le_refl _) (fun i hi => absurd hi (Nat.not_lt_zero i))]).2
  have hl := congrArg List.length this
  rw [List.length_take, List.length_take, Nat.min_eq_left (h.le hR), Nat.min_eq_left (hd'.le hpos)] at hl
  rw [hl]
  exact hd'
/-- one truth at 5 -/
def hot (m : Nat) : List Bool := (List.range m).map fun k => decide (k = 5)
theorem hot_len {m : Nat} : (hot m).length = m := by unfold hot; rw [List.length_map, List.length_range]
theorem hot_at {m k : Nat} (h : k < m) : bt (hot m) k = decide (k = 5) := by
  rw [bt_in (by rw [hot_len]; exact h)]
  unfold hot
  rw [List.getElem_map, List.getElem_range]
theorem hot_lp {m : Nat} (h : 10 < m) : LP (hot m) m := by
  refine ⟨by omega, by rw [hot_len]; exact Nat.mod_self _, by have := rnd_self (R := hot m); rwa [hot_len] at this, fun e h1 h2 h3 h4 => ?_⟩
  rw [hot_len] at h3
  by_cases he : e ≤ 5
  · have := h4 5 (by rw [hot_len]; omega)
    have hlt := Nat.mod_lt 5 h1
    rw [hot_at (by omega), hot_at (by omega), decide_eq_true rfl] at this
    have := of_decide_eq_true this.symm
    omega
  · obtain ⟨c, hc⟩ := Nat.dvd_of_mod_eq_zero h3
    have hc2 : 2 ≤ c := by
      rcases Nat.lt_or_ge c 2 with z | z
      · exfalso
        have : c = 0 ∨ c = 1 := by omega
        rcases this with rfl | rfl
        · rw [Nat.mul_zero] at hc; omega
        · rw [Nat.mul_one] at hc; omega
      · exact z
    have h2e : e * 2 ≤ m := by rw [hc]; exact Nat.mul_le_mul_left _ hc2
    have := h4 (5 + e) (by rw [hot_len]; omega)
    rw [Nat.add_mod_right, Nat.mod_eq_of_lt (by omega), hot_at (by omega), hot_at (by omega), decide_eq_true rfl] at this
    have := of_decide_eq_true this
    omega
theorem st_nil {r : List Bool} : St [] r 0 := ⟨Nat.le_refl _, fun k _ h => absurd h (Nat.not_lt_zero k), fun h => absurd h (Nat.lt_irrefl 0)⟩
/-- one truth at the end -/
def lateB (low : Nat) : List Bool := List.replicate (low - 1) false ++ [true]
theorem late_len {low : Nat} (h : 0 < low) : (lateB low).length = low := by unfold lateB; rw [List.length_append, List.length_replicate, List.length_singleton]; omega
theorem late_st {low : Nat} {r : List Bool} (h : 0 < low) (hr : bt r ((low - 1) % r.length) = false) : St (lateB low) r low := by
  refine ⟨by rw [late_len h]; exact Nat.le_refl _, fun k h1 h2 => by rw [late_len h] at h2; omega, fun _ => ?_⟩
  rw [hr]
  have : bt (lateB low) (low - 1) = true := by
    unfold bt lateB
    rw [List.getD_eq_getElem?_getD, List.getElem?_append_right (by rw [List.length_replicate]; exact Nat.le_refl _), List.length_replicate, Nat.sub_self]
    rfl
  rw [this]
  decide
theorem lp1 {b : Bool} : LP [b] 1 := ⟨by decide, by simp, fun i hi => by
  have : i = 0 := by simpa using hi
  subst this; rfl, fun e h1 h2 => by omega⟩
theorem lp2 : LP [false, true] 2 := ⟨by decide, by decide, fun i hi => by
  have : i < 2 := hi
  rw [Nat.mod_eq_of_lt this], fun e h1 h2 _ h4 => by
  obtain rfl : e = 1 := by omega
  have := h4 1 (by decide)
  exact absurd this (by decide)⟩
end Wp

section
open L2 in
local macro_rules | `(tactic| walk_at "gx") => `(tactic| first
  | ((with_reducible show tVar _ _ _ _); refine g_var rfl ?_)
  | with_reducible refine g_c ?_
  | with_reducible refine g_op ?_
  | with_reducible refine g_cons ?_
  | with_reducible refine g_nil ?_
  | with_reducible refine g_test ?_
  | with_reducible refine g_blp ?_
  | with_reducible refine g_asg ?_
  | (with_reducible refine g_name ?_; (try simp only [List.set_cons_zero, List.set_cons_succ]))
  | with_reducible refine g_call ?_
  | with_reducible refine g_cb ?_
  | with_reducible refine g_I0 ?_
  | with_reducible refine g_U ?_
  | with_reducible refine g_eqI ?_
  | with_reducible refine g_neI ?_
  | with_reducible refine g_if ?_
  | with_reducible refine g_ret ?_
  | with_reducible refine g_retN ?_
  | with_reducible refine g_next ?_
  | with_reducible refine g_drop ?_
  | with_reducible refine g_un ?_
  | with_reducible refine g_tb ?_
  | with_reducible refine g_tup ?_
  | with_reducible refine g_lst ?_
  | with_reducible refine g_and ?_
  | with_reducible refine g_or ?_
  | with_reducible refine g_not ?_
  | with_reducible refine g_andV ?_
  | with_reducible refine g_orV ?_
  | with_reducible refine g_notV ?_
  | with_reducible refine g_ifE ?_
  | with_reducible refine g_fld ?_
  | with_reducible refine g_tt ?_
  | with_reducible refine g_ff ?_
  | with_reducible refine g_ntt ?_
  | with_reducible refine g_nff ?_
  | with_reducible refine g_for ?_
  | with_reducible refine g_list ?_
  | with_reducible refine g_tupI ?_
  | with_reducible refine g_rng1 ?_
  | with_reducible refine g_rng2 ?_
  | with_reducible refine g_enumA ?_
  | with_reducible refine g_rev ?_
  | with_reducible refine g_lc ?_
  | with_reducible refine g_gcons ?_
  | with_reducible refine g_gnil ?_
  | with_reducible refine g_yes ?_
  | with_reducible refine g_sl ?_
  | with_reducible refine g_nopart ?_
  | with_reducible refine g_part ?_
  | with_reducible refine g_int ?_
  | with_reducible refine g_dget ?_
  | with_reducible refine g_dput ?_
  | with_reducible refine g_raiseX ?_
  | with_reducible refine g_tru ?_
  | with_reducible refine g_sub ?_
  | with_reducible refine g_isN ?_
  | with_reducible refine g_notN ?_
  | with_reducible refine g_bm ?_
  | with_reducible refine L2.g_bm0 ?_
  | with_reducible refine g_pair ?_
  | with_reducible refine g_pair0 ?_
  | with_reducible refine u_int1 ?_
  | with_reducible refine g_chain ?_
  | with_reducible refine L2.g_sfld ?_
  | (with_reducible refine g_par3 ?_)
  | (with_reducible refine g_three ?_; (try simp only [List.set_cons_zero, List.set_cons_succ]))
  | ((with_reducible apply L2.g_tupT); walk_at "up"; rfl)
  | (with_reducible refine g_par ?_)
  | (with_reducible refine g_two ?_; (try simp only [List.set_cons_zero, List.set_cons_succ]))
  )
local macro_rules | `(tactic| walk_at "go") => `(tactic| first | walk_at "gx" | with_reducible refine L2.g_seq ?_)
local macro_rules | `(tactic| walk_at "gou") => `(tactic| repeat (walk_at "gx"))
local macro_rules | `(tactic| walk_at "gos") => `(tactic| repeat (walk_at "go"))
local macro_rules | `(tactic| walk_at "sl") => `(tactic| first
  | assumption
  | exact L2.Same.l (by assumption)
  | exact L2.SameD.l (by assumption)
  | exact L2.extN_l (by assumption))
local macro_rules | `(tactic| walk_at "up") => `(tactic| first
  | assumption
  | ((with_reducible apply L2.SameL.lst); walk_at "sl"; walk_at "up")
  | ((with_reducible apply L2.SameL.tupA); walk_at "sl"; walk_at "up")
  | ((with_reducible apply L2.SameL.ins); walk_at "sl"; walk_at "up")
  | ((with_reducible apply Ev.PB.l); walk_at "sl"; walk_at "up")
  | ((with_reducible apply Ev.IsP.l); walk_at "sl"; walk_at "up")
  | ((with_reducible apply L2.sqL); walk_at "up")
  | ((with_reducible apply L2.sqT); walk_at "up")
  | ((with_reducible apply L2.SameL.seq); walk_at "sl"; walk_at "up")
  | ((with_reducible apply Ev.Pen.same); assumption; walk_at "up")
  | ((with_reducible apply Ev.Pen.extN); assumption; walk_at "up")
  | ((with_reducible apply L2.tabs_s); assumption; walk_at "up")
  | ((with_reducible apply L2.tabs_dd); assumption; walk_at "up")
  | ((with_reducible apply Or.inl); walk_at "up")
  | ((with_reducible apply Or.inr); walk_at "up"))
local macro_rules | `(tactic| walk_at "new") => `(tactic| (
  first
    | refine ⟨L2.size_ok (by rfl), fun p hp => ?_⟩
    | refine fun p hp => ?_
  generalize hX : L2.upd _ p _ = H1
  obtain ⟨e, h⟩ := L2.news hp hX
  clear hX))
local macro_rules | `(tactic| walk_at "o") => `(tactic| first
  | ((with_reducible apply Ev.o_add); walk_at "up"; walk_at "up"; rfl; rfl; rfl)
  | ((with_reducible apply Ev.o_sub); walk_at "up"; walk_at "up"; rfl; rfl; rfl)
  | ((with_reducible apply Ev.o_mul); walk_at "up"; walk_at "up"; rfl; rfl; rfl)
  | ((with_reducible apply Ev.o_addI); walk_at "up"; assumption; rfl; rfl; rfl)
  | ((with_reducible apply Ev.o_subI); walk_at "up"; assumption; rfl; rfl; rfl)
  | ((with_reducible apply Ev.o_mulI); walk_at "up"; assumption; rfl; rfl; rfl)
  | ((with_reducible apply Ev.o_radd); walk_at "up"; assumption; rfl; rfl; rfl)
  | ((with_reducible apply Ev.o_rsub); walk_at "up"; assumption; rfl; rfl; rfl)
  | ((with_reducible apply Ev.o_rmul); walk_at "up"; assumption; rfl; rfl; rfl)
  | ((with_reducible apply Ev.o_neg); walk_at "up"; rfl; rfl; rfl))
local macro_rules | `(tactic| walk_at "eq") => `(tactic| ((with_reducible apply Ev.u_ownB); assumption; walk_at "up"; walk_at "up"; (focus (intro k; first | rfl | exact Pl.e_add | exact Pl.e_sub | exact Pl.e_mul | exact Pl.e_rsub | exact Pl.e_rsub2))))
local macro_rules | `(tactic| walk_at "isp") => `(tactic| (apply Ev.u_isB; walk_at "up"; walk_at "up"; rfl; rfl))

/-! wheres.py: sets made -/
namespace Ev
open PySem PySem.Spec PyProof.Rows L2 Wp
/-- isinstance(x, bool) is b -/
def KdB (K : PySem.W.Frag) (H : Hp) (x : V) (b : Bool) : Prop := ∃ t, TyX K H x t ∧ PySem.W.kitOne K t (.type "bool") = some b
section
variable {P : Program} {w : World} {K : PySem.W.Frag} {mg : Str → Option Value} {base : Heap}
theorem KdB.same {H H' : Hp} {x : V} {b : Bool} (e : Same H H') : KdB K H x b → KdB K H' x b := fun ⟨t, h1, h2⟩ => ⟨t, e.ty h1, h2⟩
theorem KdB.bl {H : Hp} {i : Bool} : KdB K H (.bl i) true := ⟨.type "bool", .base (.bl i), kit_ty (by decide +kernel)⟩
theorem KdB.int {H : Hp} {i : Int} : KdB K H (.int i) false := ⟨.type "int", .base (.int i), kit_ty (by decide +kernel)⟩
theorem KdB.non {H : Hp} : KdB K H .non false := ⟨.type "NoneType", .base .non, kit_ty (by decide +kernel)⟩
theorem KdB.str {H : Hp} {i : Str} : KdB K H (.str i) false := ⟨.type "str", .base (.str i), kit_ty (by decide +kernel)⟩
theorem KdB.tup {H : Hp} {a : Addr} {xs : List V} (h : H a = some (.tup xs)) : KdB K H (.ref a) false := ⟨.type "tuple", .base (.tup h), kit_ty (by decide +kernel)⟩
theorem KdB.lst {H : Hp} {a : Addr} {xs : List V} (h : H a = some (.lst xs)) : KdB K H (.ref a) false := ⟨.type "list", .base (.lst h), kit_ty (by decide +kernel)⟩
def spNeedT (K : PySem.W.Frag) (C : Addr) : Sp := fun vs H Q E => ∃ (a : Addr) (xs : List V) (kd : Nat → Bool), vs = [.ref a] ∧ SqA K H a xs ∧ (∀ i x, xs[i]? = some x → KdB K H x (kd i)) ∧
  ((∀ i, i < xs.length → kd i = true) → ∀ H', Same H H' → Q .non H') ∧
  ∀ i, i < xs.length → kd i = false → (∀ j, j < i → kd j = true) → ∀ H', Exc1 H H' C "index" (.int (i : Nat)) E
theorem sc_need_truths : FnScope ["truths", "index", "truth"] ["truths"] (defScope (topS 17)) := ⟨rfl, rfl, rfl, by decide +kernel, rfl, by decide +kernel, by decide +kernel⟩
theorem ok_need_truths {CT : Addr} (B : Bn mg) (X_BadTruth : ExT P K mg "BadTruth" CT ["index"]) {f : Addr} {fd : FuncData} (F : Fun K "need_truths" "need_truths" (topS 17) f fd) :
    FnOk P w K mg base (L2.CX P w) 3 f fd ["truths"] (spNeedT K CT) := by
  have nd := sc_need_truths.nd
  refine F.okX sc_need_truths (fun vs H Q E h => ?_) (fun cdv A outer s H vs Q E hr h => ?_)
  · obtain ⟨a, xs, kd, rfl, _⟩ := h
    rfl
  · refine ⟨_, (pss_one (ps_for (passes_of rfl) rfl (pi_enumAK (K := K) rfl (by rfl) B.enumerate (pa_cons (pv 0) pa_nil)) (pg_tupK (K := K) (n := 2) rfl rfl (pgs_cons (pg_name (i := 1) nd rfl (.inl rfl)) (pgs_cons (pg_name (i := 2) nd rfl (.inl rfl)) pgs_nil))) (pss_one (ps_if (pt_not (pt_val (pe_callB (call_isiK' (K := K) rfl) (by rfl) B.isinstance (by decide +kernel) (pa_cons (pv 2) (pa_cons (pe_bltn (v := .ty "bool") (by rfl) B.bool_ (by decide +kernel) rfl) pa_nil))))) (pss_one (ps_raiseX rfl X_BadTruth hr (takes_of rfl rfl rfl rfl) (pa_cons (pv 1) pa_nil))) pss_nil)))), ?_⟩
    obtain ⟨a, xs, kd, rfl, hx, hk, q1, q2⟩ := h
    walk_at "gos"
    refine enum_any hx fun J G wk hG => ?_
    refine for_it wk (fun i σ' H' => Same H H' ∧ (∃ y z, σ' = [some (.ref a), y, z]) ∧ ∀ j, j < i → kd j = true) ⟨Same.refl H, ⟨none, none, rfl⟩, fun j h => absurd h (Nat.not_lt_zero j)⟩ (fun i σ' H' _ p => hG H' p.1) (fun i x σ' H' H2 hi p y => ?_) (fun σ' H' p => ?_)
    · obtain ⟨e, ⟨y0, z0, rfl⟩, hj⟩ := p
      obtain ⟨T, u, v, rfl, e2, hT, hu, hv⟩ := pair_of y
      obtain rfl : V.int (i : Nat) = u := Option.some.inj hu
      refine g_tupT hT rfl ?_
      walk_at "gos"
      obtain ⟨t, h1, h2⟩ := (hk i v hv).same (e.trans e2)
      refine u_isi (.ty "bool") h1 h2 ?_
      walk_at "gos"
      cases hki : kd i with
      | false =>
        walk_at "gos"
        exact u_raise rfl (by decide) fun d H3 _ e3 hd => q2 i hi hki hj H3 (e.trans (e2.trans e3)) d hd
      | true =>
        walk_at "gos"
        refine ⟨e.trans e2, ⟨_, _, rfl⟩, fun j h => ?_⟩
        by_cases hji : j < i
        · exact hj j hji
        · obtain rfl : j = i := by omega
          exact hki
    · exact q1 p.2.2 H' p.1
/-- the least round of a row -/
def spLeastP : Sp := fun vs H Q _ => ∃ (a : Addr) (R : List Bool), vs = [.ref a] ∧ H a = some (.lst (R.map V.bl)) ∧ 0 < R.length ∧ R.length ≤ 100000 ∧ ∀ d H', Same H H' → LP R d → Q (.int (d : Nat)) H'
theorem flat_bl {R : List Bool} : ∀ k, (List.replicate k (R.map V.bl)).flatten = ((List.replicate k R).flatten).map V.bl
  | 0 => rfl
  | k + 1 => by rw [List.replicate_succ, List.replicate_succ, List.flatten_cons, List.flatten_cons, List.map_append, flat_bl k]
theorem fmod_nat {i j : Nat} : ((i : Int).fmod (j : Int)) = ((i % j : Nat) : Int) := by
  rw [Int.fmod_eq_emod_of_nonneg _ (Int.natCast_nonneg j), Int.natCast_emod]
theorem fdiv_nat {i j : Nat} : ((i : Int).fdiv (j : Int)) = ((i / j : Nat) : Int) := by
  rw [Int.fdiv_eq_ediv_of_nonneg _ (Int.natCast_nonneg j), Int.natCast_ediv]
theorem sc_least_period : FnScope ["row", "size"] ["row"] (defScope (topS 18)) := ⟨rfl, rfl, rfl, by decide +kernel, rfl, by decide +kernel, by decide +kernel⟩
theorem ok_least_period (B : Bn mg) {f : Addr} {fd : FuncData} (F : Fun K "least_period" "least_period" (topS 18) f fd) :
    FnOk P w K mg base (L2.CX P w) 1 f fd ["row"] spLeastP := by
  have nd := sc_least_period.nd
  refine F.okX sc_least_period (fun vs H Q E h => ?_) (fun cdv A outer s H vs Q E hr h => ?_)
  · obtain ⟨a, R, rfl, _⟩ := h
    rfl
  · refine ⟨_, (pss_cons (ps_for (passes_of rfl) rfl (pi_range2 rfl B.range (pa_cons pe_int (pa_cons (pe_callB (call_lnK (K := K) rfl) (by rfl) B.len_ (by decide +kernel) (pa_cons (pv 0) pa_nil)) pa_nil))) (pg_name (i := 1) nd rfl (.inl rfl)) (pss_one (ps_if (PW.pt (pw_and (pt_cmpR op_eq (pe_op op_modN (pe_callB (call_lnK (K := K) rfl) (by rfl) B.len_ (by decide +kernel) (pa_cons (pv 0) pa_nil)) (pv 1)) pe_int (nomark _)) (pw_and1 (pt_cmpR (op_eqDK (K := K) rfl hr.units) (pv 0) (pe_op op_rep (pe_slice (sl_listK (K := K) rfl) (pv 0) po_none (po_some (pv 1))) (pe_op op_fdivX (pe_callB (call_lnK (K := K) rfl) (by rfl) B.len_ (by decide +kernel) (pa_cons (pv 0) pa_nil)) (pv 1))) (nomark _))))) (pss_one (ps_ret (pv 1))) pss_nil)))
      (pss_one (ps_ret (pe_callB (call_lnK (K := K) rfl) (by rfl) B.len_ (by decide +kernel) (pa_cons (pv 0) pa_nil))))), ?_⟩
    obtain ⟨a, R, rfl, ha, hR, hR2, q⟩ := h
    refine g_st (σ' := [some (.ref a), none]) rfl ?_
    walk_at "gos"
    refine u_lenL (sqL ha) ?_
    rw [List.length_map]
    walk_at "gos"
    refine ⟨1, R.length, rfl, by omega, ?_⟩
    refine for_it walk_range (fun i σ' H' => Same H H' ∧ (∃ y, σ' = [some (.ref a), y]) ∧ ∀ e, 0 < e → e < 1 + i → R.length % e = 0 → ¬ Rnd R e) ⟨Same.refl H, ⟨none, rfl⟩, fun e h1 h2 => by omega⟩ (fun _ _ _ _ _ => trivial) (fun i x σ' H' H2 hi p y => ?_) (fun σ' H' p => ?_)
    · obtain ⟨e, ⟨y0, rfl⟩, hl⟩ := p
      obtain ⟨rfl, rfl⟩ := y
      have hil : 1 + i < R.length := by omega
      walk_at "gos"
      refine u_lenL (sqL (e _ _ ha)) ?_
      rw [List.length_map]
      walk_at "gos"
      rw [show (1 : Int) + (i : Int) = ((1 + i : Nat) : Int) by omega]
      refine g_I (by omega) ?_
      walk_at "gos"
      rw [fmod_nat]
      by_cases hm : R.length % (1 + i) = 0
      · rw [if_pos (decide_eq_true (by omega))]
        walk_at "gos"
        refine u_sl (sqL (e _ _ ha)) fun l H3 _ e3 h3 => ?_
        rw [cut_to, ← List.map_take] at h3
        walk_at "gos"
        refine u_lenL (sqL (e3 _ _ (e _ _ ha))) ?_
        rw [List.length_map]
        walk_at "gos"
        refine g_I (Bd.divX (n := 40) (by omega) (by unfold Bd; omega) (by decide)) ?_
        rw [fdiv_nat]
        have hk : R.length / (1 + i) ≤ 100000 := Nat.le_trans (Nat.div_le_self _ _) hR2
        have hkm : R.length / (1 + i) * (1 + i) = R.length := Nat.div_mul_cancel (Nat.dvd_of_mod_eq_zero hm)
        have htl : (R.take (1 + i)).length = 1 + i := by rw [List.length_take]; omega
        refine ⟨l, _, _, rfl, rfl, h3, Int.le_trans (by decide) (Int.natCast_nonneg (R.length / (1 + i))), Int.lt_of_le_of_lt (Int.ofNat_le.mpr hk) (by decide), by rw [sizeLine_eq, List.length_map, htl, Int.toNat_natCast, Nat.mul_comm, hkm]; omega, fun p hp => ?_⟩
        have e4 := same_new (o := .lst (List.replicate ((R.length / (1 + i) : Nat) : Int).toNat ((R.take (1 + i)).map V.bl)).flatten) hp
        have h4 : (upd H3 p (.lst (List.replicate ((R.length / (1 + i) : Nat) : Int).toNat ((R.take (1 + i)).map V.bl)).flatten)) p = some _ := upd_same
        generalize upd H3 p _ = H4 at e4 h4 ⊢
        rw [Int.toNat_natCast, flat_bl] at h4
        refine u_eqLB (sqL (e4 _ _ (e3 _ _ (e _ _ ha)))) (sqL h4) ?_
        walk_at "gos"
        by_cases hr' : R = (List.replicate (R.length / (1 + i)) (R.take (1 + i))).flatten
        · rw [if_pos (decide_eq_true hr')]
          walk_at "gos"
          exact q (1 + i) H4 (e.trans (e3.trans e4)) ⟨by omega, hm, (rnd_iff (by omega) (by omega) hm).mp hr', hl⟩
        · rw [if_neg (by rw [decide_eq_true_iff]; exact hr')]
          walk_at "gos"
          refine ⟨e.trans (e3.trans e4), ⟨_, rfl⟩, fun z h1 h2 h3' h4' => ?_⟩
          by_cases hz : z < 1 + i
          · exact hl z h1 hz h3' h4'
          · obtain rfl : z = 1 + i := by omega
            exact hr' ((rnd_iff (by omega) (by omega) hm).mpr h4')
      · rw [if_neg (by rw [decide_eq_true_iff]; omega)]
        walk_at "gos"
        refine ⟨e, ⟨_, rfl⟩, fun z h1 h2 h3' h4' => ?_⟩
        by_cases hz : z < 1 + i
        · exact hl z h1 hz h3' h4'
        · obtain rfl : z = 1 + i := by omega
          exact hm h3'
    · obtain ⟨e, ⟨y0, rfl⟩, hl⟩ := p
      walk_at "gos"
      refine u_lenL (sqL (e _ _ ha)) ?_
      rw [List.length_map]
      walk_at "gos"
      exact q R.length H' e ⟨hR, Nat.mod_self _, rnd_self, fun z h1 h2 => hl z h1 (by omega)⟩
end
end Ev

end
section
open L2 in
local macro_rules | `(tactic| walk_at "gx") => `(tactic| first
  | ((with_reducible show tVar _ _ _ _); refine g_var rfl ?_)
  | with_reducible refine g_c ?_
  | with_reducible refine g_op ?_
  | with_reducible refine g_cons ?_
  | with_reducible refine g_nil ?_
  | with_reducible refine g_test ?_
  | with_reducible refine g_blp ?_
  | with_reducible refine g_asg ?_
  | (with_reducible refine g_name ?_; (try simp only [List.set_cons_zero, List.set_cons_succ]))
  | with_reducible refine g_call ?_
  | with_reducible refine g_cb ?_
  | with_reducible refine g_I0 ?_
  | with_reducible refine g_U ?_
  | with_reducible refine g_eqI ?_
  | with_reducible refine g_neI ?_
  | with_reducible refine g_if ?_
  | with_reducible refine g_ret ?_
  | with_reducible refine g_retN ?_
  | with_reducible refine g_next ?_
  | with_reducible refine g_drop ?_
  | with_reducible refine g_un ?_
  | with_reducible refine g_tb ?_
  | with_reducible refine g_tup ?_
  | with_reducible refine g_lst ?_
  | with_reducible refine g_and ?_
  | with_reducible refine g_or ?_
  | with_reducible refine g_not ?_
  | with_reducible refine g_andV ?_
  | with_reducible refine g_orV ?_
  | with_reducible refine g_notV ?_
  | with_reducible refine g_ifE ?_
  | with_reducible refine g_fld ?_
  | with_reducible refine g_tt ?_
  | with_reducible refine g_ff ?_
  | with_reducible refine g_ntt ?_
  | with_reducible refine g_nff ?_
  | with_reducible refine g_for ?_
  | with_reducible refine g_list ?_
  | with_reducible refine g_tupI ?_
  | with_reducible refine g_rng1 ?_
  | with_reducible refine g_rng2 ?_
  | with_reducible refine g_enumA ?_
  | with_reducible refine g_rev ?_
  | with_reducible refine g_lc ?_
  | with_reducible refine g_gcons ?_
  | with_reducible refine g_gnil ?_
  | with_reducible refine g_yes ?_
  | with_reducible refine g_sl ?_
  | with_reducible refine g_nopart ?_
  | with_reducible refine g_part ?_
  | with_reducible refine g_int ?_
  | with_reducible refine g_dget ?_
  | with_reducible refine g_dput ?_
  | with_reducible refine g_raiseX ?_
  | with_reducible refine g_tru ?_
  | with_reducible refine g_sub ?_
  | with_reducible refine g_isN ?_
  | with_reducible refine g_notN ?_
  | with_reducible refine g_bm ?_
  | with_reducible refine L2.g_bm0 ?_
  | with_reducible refine g_pair ?_
  | with_reducible refine g_pair0 ?_
  | with_reducible refine u_int1 ?_
  | with_reducible refine g_chain ?_
  | with_reducible refine L2.g_sfld ?_
  | (with_reducible refine g_par3 ?_)
  | (with_reducible refine g_three ?_; (try simp only [List.set_cons_zero, List.set_cons_succ]))
  | ((with_reducible apply L2.g_tupT); walk_at "up"; rfl)
  | (with_reducible refine g_par ?_)
  | (with_reducible refine g_two ?_; (try simp only [List.set_cons_zero, List.set_cons_succ]))
  )
local macro_rules | `(tactic| walk_at "go") => `(tactic| first | walk_at "gx" | with_reducible refine L2.g_seq ?_)
local macro_rules | `(tactic| walk_at "gou") => `(tactic| repeat (walk_at "gx"))
local macro_rules | `(tactic| walk_at "gos") => `(tactic| repeat (walk_at "go"))
local macro_rules | `(tactic| walk_at "sl") => `(tactic| first
  | assumption
  | exact L2.Same.l (by assumption)
  | exact L2.SameD.l (by assumption)
  | exact L2.extN_l (by assumption))
local macro_rules | `(tactic| walk_at "up") => `(tactic| first
  | assumption
  | ((with_reducible apply L2.SameL.lst); walk_at "sl"; walk_at "up")
  | ((with_reducible apply L2.SameL.tupA); walk_at "sl"; walk_at "up")
  | ((with_reducible apply L2.SameL.ins); walk_at "sl"; walk_at "up")
  | ((with_reducible apply Ev.PB.l); walk_at "sl"; walk_at "up")
  | ((with_reducible apply Ev.IsP.l); walk_at "sl"; walk_at "up")
  | ((with_reducible apply L2.sqL); walk_at "up")
  | ((with_reducible apply L2.sqT); walk_at "up")
  | ((with_reducible apply L2.SameL.seq); walk_at "sl"; walk_at "up")
  | ((with_reducible apply Ev.Pen.same); assumption; walk_at "up")
  | ((with_reducible apply Ev.Pen.extN); assumption; walk_at "up")
  | ((with_reducible apply L2.tabs_s); assumption; walk_at "up")
  | ((with_reducible apply L2.tabs_dd); assumption; walk_at "up")
  | ((with_reducible apply Or.inl); walk_at "up")
  | ((with_reducible apply Or.inr); walk_at "up"))
local macro_rules | `(tactic| walk_at "new") => `(tactic| (
  first
    | refine ⟨L2.size_ok (by rfl), fun p hp => ?_⟩
    | refine fun p hp => ?_
  generalize hX : L2.upd _ p _ = H1
  obtain ⟨e, h⟩ := L2.news hp hX
  clear hX))
local macro_rules | `(tactic| walk_at "o") => `(tactic| first
  | ((with_reducible apply Ev.o_add); walk_at "up"; walk_at "up"; rfl; rfl; rfl)
  | ((with_reducible apply Ev.o_sub); walk_at "up"; walk_at "up"; rfl; rfl; rfl)
  | ((with_reducible apply Ev.o_mul); walk_at "up"; walk_at "up"; rfl; rfl; rfl)
  | ((with_reducible apply Ev.o_addI); walk_at "up"; assumption; rfl; rfl; rfl)
  | ((with_reducible apply Ev.o_subI); walk_at "up"; assumption; rfl; rfl; rfl)
  | ((with_reducible apply Ev.o_mulI); walk_at "up"; assumption; rfl; rfl; rfl)
  | ((with_reducible apply Ev.o_radd); walk_at "up"; assumption; rfl; rfl; rfl)
  | ((with_reducible apply Ev.o_rsub); walk_at "up"; assumption; rfl; rfl; rfl)
  | ((with_reducible apply Ev.o_rmul); walk_at "up"; assumption; rfl; rfl; rfl)
  | ((with_reducible apply Ev.o_neg); walk_at "up"; rfl; rfl; rfl))
local macro_rules | `(tactic| walk_at "eq") => `(tactic| ((with_reducible apply Ev.u_ownB); assumption; walk_at "up"; walk_at "up"; (focus (intro k; first | rfl | exact Pl.e_add | exact Pl.e_sub | exact Pl.e_mul | exact Pl.e_rsub | exact Pl.e_rsub2))))
local macro_rules | `(tactic| walk_at "isp") => `(tactic| (apply Ev.u_isB; walk_at "up"; walk_at "up"; rfl; rfl))

/-! Where(..), its == -/
namespace Ev
open PySem PySem.Spec PyProof.Rows L2 Wp
/-- the set x has the data bl, rl -/
def IsW (K : PySem.W.Frag) (H : Hp) (x C : Addr) (bl rl : List Bool) : Prop := ∃ dx t1 t2, H x = some (.ins C dx [("period", .int (rl.length : Nat)), ("rests", .ref t1), ("start", .int (bl.length : Nat)), ("below", .ref t2)]) ∧ SqT K H t1 (rl.map V.bl) ∧ SqT K H t2 (bl.map V.bl)
theorem IsW.l {K : PySem.W.Frag} {H H' : Hp} {x C : Addr} {bl rl : List Bool} (e : SameL H H') : IsW K H x C bl rl → IsW K H' x C bl rl := fun ⟨dx, t1, t2, h1, h2, h3⟩ => ⟨dx, t1, t2, e.ins h1, e.tupS h2, e.tupS h3⟩
theorem IsW.same {K : PySem.W.Frag} {H H' : Hp} {x C : Addr} {bl rl : List Bool} (e : Same H H') : IsW K H x C bl rl → IsW K H' x C bl rl := fun h => h.l e.l
/-- C is raised with n = v, in a heap as told -/
def ExcR (Rl : Hp → Prop) (C : Addr) (n : Str) (v : V) (E : XK) : Prop := ∀ H' d, Rl H' → H' d = some (.xd [(n, v)]) → E (.ref C) (some d) H'
structure WArg (K : PySem.W.Frag) (H : Hp) (a b : Addr) (xs ys : List V) (kx ky : Nat → Bool) : Prop where
  sx : SqA K H a xs
  sy : SqA K H b ys
  hx : ∀ i x, xs[i]? = some x → KdB K H x (kx i)
  hy : ∀ i x, ys[i]? = some x → KdB K H x (ky i)
  bx : (∀ i, i < xs.length → kx i = true) → ∃ B : List Bool, xs = B.map V.bl
  by_ : (∀ i, i < ys.length → ky i = true) → ∃ R : List Bool, ys = R.map V.bl
  lx : xs.length ≤ 100000
  ly : ys.length ≤ 100000
structure WTo (Rl : Hp → Prop) (CT CF CL : Addr) (xs ys : List V) (kx ky : Nat → Bool) (E : XK) : Prop where
  ex : ∀ i, i < xs.length → kx i = false → (∀ j, j < i → kx j = true) → ExcR Rl CT "index" (.int (i : Nat)) E
  ey : (∀ i, i < xs.length → kx i = true) → ∀ i, i < ys.length → ky i = false → (∀ j, j < i → ky j = true) → ExcR Rl CT "index" (.int (i : Nat)) E
  e0 : (∀ i, i < xs.length → kx i = true) → ys = [] → ExcR Rl CT "index" (.int 0) E
  ef : ∀ (B R bl rl : List Bool), xs = B.map V.bl → ys = R.map V.bl → 0 < R.length → Nm bl rl → (∀ n, mem bl rl n = mem B R n) → 720 < rl.length → ExcR Rl CF "most" (.int 720) E
  el : ∀ (B R bl rl : List Bool), xs = B.map V.bl → ys = R.map V.bl → 0 < R.length → Nm bl rl → (∀ n, mem bl rl n = mem B R n) → rl.length ≤ 720 → 10000 < bl.length → ExcR Rl CL "most" (.int 10000) E
theorem ExcR.le {Rl Rl' : Hp → Prop} {C : Addr} {n : Str} {v : V} {E : XK} (h : ExcR Rl C n v E) (hl : ∀ H', Rl' H' → Rl H') : ExcR Rl' C n v E := fun H' d hr hd => h H' d (hl H' hr) hd
theorem WTo.le {Rl Rl' : Hp → Prop} {CT CF CL : Addr} {xs ys : List V} {kx ky : Nat → Bool} {E : XK} (h : WTo Rl CT CF CL xs ys kx ky E) (hl : ∀ H', Rl' H' → Rl H') : WTo Rl' CT CF CL xs ys kx ky E :=
  ⟨fun i a b c => (h.ex i a b c).le hl, fun z i a b c => (h.ey z i a b c).le hl, fun a b => (h.e0 a b).le hl, fun B R bl rl a b c d e f => (h.ef B R bl rl a b c d e f).le hl, fun B R bl rl a b c d e f g => (h.el B R bl rl a b c d e f g).le hl⟩
def spWhereInit (K : PySem.W.Frag) (C CT CF CL : Addr) : Sp := fun vs H Q E => ∃ (x dx a b : Addr) (xs ys : List V) (kx ky : Nat → Bool), vs = [.ref x, .ref a, .ref b] ∧ H x = some (.ins C dx []) ∧ WArg K H a b xs ys kx ky ∧ WTo (SameB x H) CT CF CL xs ys kx ky E ∧
  ∀ (B R bl rl : List Bool), xs = B.map V.bl → ys = R.map V.bl → 0 < R.length → Nm bl rl → (∀ n, mem bl rl n = mem B R n) → rl.length ≤ 720 → bl.length ≤ 10000 → ∀ H', SameB x H H' → IsW K H' x C bl rl → Q .non H'
def spWhere (K : PySem.W.Frag) (C CT CF CL : Addr) : Sp := fun vs H Q E => ∃ (a b : Addr) (xs ys : List V) (kx ky : Nat → Bool), vs = [.ref a, .ref b] ∧ WArg K H a b xs ys kx ky ∧ WTo (Same H) CT CF CL xs ys kx ky E ∧
  ∀ (B R bl rl : List Bool), xs = B.map V.bl → ys = R.map V.bl → 0 < R.length → Nm bl rl → (∀ n, mem bl rl n = mem B R n) → rl.length ≤ 720 → bl.length ≤ 10000 → ∀ x H', H x = none → Same H H' → IsW K H' x C bl rl → Q (.ref x) H'
theorem atB {l : List Bool} {k : Nat} (h : k < l.length) : (l.map V.bl)[k]? = some (V.bl (bt l k)) := by rw [List.getElem?_map, bt_some h]; rfl
section
variable {P : Program} {w : World} {K : PySem.W.Frag} {mg : Str → Option Value} {base : Heap}
theorem sc_Where___init__ : FnScope ["self", "below", "rests", "start"] ["self", "below", "rests"] (defScope (inClass (topS 19) 0)) := ⟨rfl, rfl, rfl, by decide +kernel, rfl, by decide +kernel, by decide +kernel⟩
theorem ok_Where_init {C CT CF CL : Addr} {tk1 tk2 : Tok} (B : Bn mg) (c_Where : Cls K C) (n1 : NoAttr K C "period") (n2 : NoAttr K C "rests") (n3 : NoAttr K C "start") (n4 : NoAttr K C "below") (c_MOST_PERIOD : mg "MOST_PERIOD" = some (.int 720 tk1)) (c_MOST_START : mg "MOST_START" = some (.int 10000 tk2))
    (X_BadTruth : ExT P K mg "BadTruth" CT ["index"]) (X_TooFine : ExT P K mg "TooFine" CF ["most"]) (X_TooLate : ExT P K mg "TooLate" CL ["most"])
    (G_need_truths : CallF P w K mg base "need_truths" ["truths"] 3 (spNeedT K CT)) (G_least_period : CallF P w K mg base "least_period" ["row"] 1 spLeastP)
    {f : Addr} {fd : FuncData} (F : Fun K "__init__" "Where.__init__" (inClass (topS 19) 0) f fd) : FnOk P w K mg base (L2.CX P w) 5 f fd ["self", "below", "rests"] (spWhereInit K C CT CF CL) := by
  have nd := sc_Where___init__.nd
  refine F.okX sc_Where___init__ (fun vs H Q E h => ?_) (fun cdv A outer s H vs Q E hr h => ?_)
  · obtain ⟨x, dx, a, b, xs, ys, kx, ky, rfl, _⟩ := h
    rfl
  · refine ⟨_, (pss_cons (ps_expr (pe_callF G_need_truths (hr.mono (by decide)) rfl (passes_call (takes_of rfl rfl rfl rfl) (fun _ _ _ _ h => h)) (pa_cons (pv 1) pa_nil)))
      (pss_cons (ps_expr (pe_callF G_need_truths (hr.mono (by decide)) rfl (passes_call (takes_of rfl rfl rfl rfl) (fun _ _ _ _ h => h)) (pa_cons (pv 2) pa_nil)))
      (pss_cons (ps_if (pt_cmpR op_eq (pe_callB (call_lnK (K := K) rfl) (by rfl) B.len_ (by decide +kernel) (pa_cons (pv 2) pa_nil)) pe_int (nomark _)) (pss_one (ps_raiseX rfl X_BadTruth hr (takes_of rfl rfl rfl rfl) (pa_cons pe_int pa_nil))) pss_nil)
      (pss_cons (ps_fldK (K := K) rfl (pv 0) (pe_callF G_least_period (hr.mono (by decide)) rfl passL (pa_cons (pe_callTy (call_lstK (K := K) rfl) (by rfl) B.list_ (by decide +kernel) (pa_cons (pv 2) pa_nil)) pa_nil)) rfl)
      (pss_cons (ps_if (pt_cmpR op_gt (pe_fldK (K := K) rfl (pv 0) rfl) (pe_globI rfl c_MOST_PERIOD) (nomark _)) (pss_one (ps_raiseX rfl X_TooFine hr (takes_of rfl rfl rfl rfl) (pa_cons (pe_globI rfl c_MOST_PERIOD) pa_nil))) pss_nil)
      (pss_cons (ps_fldK (K := K) rfl (pv 0) (pe_callTy (call_tplK (K := K) rfl) (by rfl) B.tuple_ (by decide +kernel) (pa_cons (pe_slice (sl_anyK (K := K) rfl) (pv 2) po_none (po_some (pe_fldK (K := K) rfl (pv 0) rfl))) pa_nil)) rfl)
      (pss_cons (ps_set (i := 3) nd rfl (.inl rfl) (pe_callB (call_lnK (K := K) rfl) (by rfl) B.len_ (by decide +kernel) (pa_cons (pv 1) pa_nil)))
      (pss_cons (ps_while (passes_of rfl) (PW.pt (pw_and (pt_cmpR op_gt (pv 3) pe_int (nomark _)) (pw_and1 (pt_cmpR op_eq (pe_ix (ix_anyK (K := K) rfl) (pv 1) (pe_op op_sub (pv 3) pe_int) (fun _ _ => rfl)) (pe_ix (ix_tupK (K := K) rfl) (pe_fldK (K := K) rfl (pv 0) rfl) (pe_op op_modN (pe_op op_sub (pv 3) pe_int) (pe_fldK (K := K) rfl (pv 0) rfl)) (fun _ _ => rfl)) (nomark _))))) (pss_one (ps_set (i := 3) nd rfl (.inl rfl) (pe_op op_sub (pv 3) pe_int))))
      (pss_cons (ps_if (pt_cmpR op_gt (pv 3) (pe_globI rfl c_MOST_START) (nomark _)) (pss_one (ps_raiseX rfl X_TooLate hr (takes_of rfl rfl rfl rfl) (pa_cons (pe_globI rfl c_MOST_START) pa_nil))) pss_nil)
      (pss_cons (ps_fldK (K := K) rfl (pv 0) (pv 3) rfl)
      (pss_one (ps_fldK (K := K) rfl (pv 0) (pe_callTy (call_tplK (K := K) rfl) (by rfl) B.tuple_ (by decide +kernel) (pa_cons (pe_slice (sl_anyK (K := K) rfl) (pv 1) po_none (po_some (pv 3))) pa_nil)) rfl)))))))))))), ?_⟩
    obtain ⟨x, dx, a, b, xs, ys, kx, ky, rfl, hx, ha, he, q⟩ := h
    refine g_st (σ' := [some (.ref x), some (.ref a), some (.ref b), none]) rfl ?_
    walk_at "gos"
    refine ⟨a, xs, kx, rfl, ha.sx, ha.hx, fun hall H1 e1 => ?_, fun i hi hk hj H' e' d hd => he.ex i hi hk hj H' d (.of e') hd⟩
    walk_at "gos"
    refine ⟨b, ys, ky, rfl, ha.sy.same e1, fun i z hz => (ha.hy i z hz).same e1, fun hall2 H2 e2 => ?_, fun i hi hk hj H' e' d hd => he.ey hall i hi hk hj H' d (.of (e1.trans e')) hd⟩
    have e02 := e1.trans e2
    have sx2 := ha.sx.same e02
    have sy2 := ha.sy.same e02
    obtain ⟨Bx, rfl⟩ := ha.bx hall
    obtain ⟨R, rfl⟩ := ha.by_ hall2
    have lx := ha.lx
    have ly := ha.ly
    rw [List.length_map] at lx ly
    walk_at "gos"
    refine u_lenA sy2 ?_
    rw [List.length_map]
    walk_at "gos"
    refine g_itd (fun h0 => ?_) (fun h0 => ?_)
    · walk_at "gos"
      exact u_raise rfl (by decide) fun d H3 _ e3 hd => he.e0 hall (by rw [List.map_eq_nil_iff]; exact List.length_eq_zero_iff.mp (by omega)) H3 d (.of (e02.trans e3)) hd
    have hR : 0 < R.length := by omega
    walk_at "gos"
    refine u_list sy2 fun l H3 _ e3 h3 => ?_
    refine ⟨l, R, rfl, h3, hR, ly, fun d H4 e4 hd => ?_⟩
    walk_at "gos"
    have e04 := e02.trans (e3.trans e4)
    have hx4 := e04 _ _ hx
    have hdl := hd.le hR
    have htl : (R.take d).length = d := by rw [List.length_take]; omega
    refine ⟨x, C, dx, [], rfl, hx4, c_Where, n1, by decide, ?_⟩
    generalize hX : upd H4 x _ = H5
    have hx5 : H5 x = some (.ins C dx [("period", .int (d : Nat))]) := by rw [← hX]; exact upd_same
    have sx5 : SqA K H5 a (Bx.map V.bl) := by rw [← hX]; exact (sx2.same (e3.trans e4)).updI hx4
    have sy5 : SqA K H5 b (R.map V.bl) := by rw [← hX]; exact (sy2.same (e3.trans e4)).updI hx4
    have b5 : SameB x H H5 := by rw [← hX]; exact (SameB.of e04).upd
    clear hX e3 h3 e4 sx2 sy2 hx4
    walk_at "gos"
    refine u_tfld rfl hx5 c_Where n1 rfl ?_
    walk_at "gos"
    obtain ⟨s0, hs0⟩ := st_ex Bx (R.take d)
    obtain ⟨hnm, hmem⟩ := nm_made hR hd hs0
    have hs0l : (Bx.take s0).length = s0 := by rw [List.length_take]; have := hs0.le; omega
    refine g_itd (fun h7 => ?_) (fun h7 => ?_)
    · walk_at "gos"
      exact u_raise rfl (by decide) fun d' H6 _ e6 hd' => he.ef Bx R _ _ rfl rfl hR hnm hmem (by rw [htl]; omega) H6 d' (b5.trans (.of e6)) hd'
    walk_at "gos"
    refine u_tfld rfl hx5 c_Where n1 rfl ?_
    walk_at "gos"
    refine u_slA sy5 fun l2 H6 e6 h6 => ?_
    rw [cut_to, ← List.map_take] at h6
    walk_at "gos"
    refine u_tupA h6 fun t1 H7 e7 ht1 => ?_
    walk_at "gos"
    have e57 := e6.trans e7
    have hx7 := e57 _ _ hx5
    refine ⟨x, C, dx, _, rfl, hx7, c_Where, n2, by simp, ?_⟩
    generalize hX : upd H7 x _ = H8
    have hx8 : H8 x = some (.ins C dx [("period", .int (d : Nat)), ("rests", .ref t1)]) := by rw [← hX]; exact upd_same
    have sx8 : SqA K H8 a (Bx.map V.bl) := by rw [← hX]; exact (sx5.same e57).updI hx7
    have ht8 : SqT K H8 t1 ((R.take d).map V.bl) := by rw [← hX]; exact ht1.updI hx7
    have b8 : SameB x H H8 := by rw [← hX]; exact (b5.trans (.of e57)).upd
    clear hX e6 h6 e7 ht1 e57 hx7 sx5 sy5 b5 hx5
    walk_at "gos"
    refine u_lenA sx8 ?_
    rw [List.length_map]
    walk_at "gou"
    ((with_reducible change tSeq _ _ _ _ _); refine L2.g_cutS (fun σ' H' => H' = H8 ∧ σ' = [some (.ref x), some (.ref a), some (.ref b), some (.int (s0 : Nat))]) (fun nx hnx => ?_) (fun σ' H' hR' => ?_))
    · refine ⟨fun m σ' H' => H' = H8 ∧ σ' = [some (.ref x), some (.ref a), some (.ref b), some (.int (m : Nat))] ∧ s0 ≤ m ∧ m ≤ Bx.length, ⟨Bx.length, rfl, rfl, hs0.le, Nat.le_refl _⟩, fun m σ' H' ⟨e1, e2, e3, e4⟩ => ?_⟩
      subst e1 e2
      walk_at "gos"
      by_cases hm : 0 < m
      · rw [if_pos (decide_eq_true (by omega))]
        walk_at "gos"
        obtain ⟨k, rfl⟩ : ∃ k, m = k + 1 := ⟨m - 1, by omega⟩
        have hk1 : ((k + 1 : Nat) : Int) - 1 = (k : Int) := by omega
        rw [hk1]
        refine u_ixA sx8 (atI_nat (atB (by omega))) ?_
        walk_at "gos"
        refine u_tfld rfl hx8 c_Where n2 rfl ?_
        walk_at "gos"
        refine u_tfld rfl hx8 c_Where n1 rfl ?_
        refine g_I (by have := hd.pos; omega) ?_
        rw [hk1, fmod_nat]
        refine u_ixT ht8 (atI_nat (atB (by rw [htl]; exact Nat.mod_lt _ hd.pos))) ?_
        walk_at "gos"
        refine ⟨rfl, ?_⟩
        by_cases hk : s0 ≤ k
        · have hsame := hs0.same k hk (by omega)
          rw [htl] at hsame
          rw [hsame]
          refine ⟨_, rfl, ?_⟩
          rw [if_pos (by simp)]
          refine ⟨_, fun _ _ z => z, ?_⟩
          walk_at "gos"
          exact ⟨k, by omega, by trivial, by rw [hk1], hk, by omega⟩
        · have hne := hs0.low (by omega)
          obtain rfl : s0 = k + 1 := by omega
          rw [htl, Nat.add_sub_cancel] at hne
          refine ⟨_, rfl, ?_⟩
          rw [if_neg (by simp [hne])]
          exact hnx _ _ ⟨rfl, rfl⟩
      · rw [if_neg (by rw [decide_eq_true_iff]; omega)]
        obtain rfl : m = 0 := by omega
        obtain rfl : s0 = 0 := by omega
        exact hnx _ _ ⟨rfl, rfl⟩
    obtain ⟨rfl, rfl⟩ := hR'
    walk_at "gos"
    refine g_itd (fun h8 => ?_) (fun h8 => ?_)
    · walk_at "gos"
      exact u_raise rfl (by decide) fun d' H9 _ e9 hd' => he.el Bx R _ _ rfl rfl hR hnm hmem (by rw [htl]; omega) (by rw [hs0l]; omega) H9 d' (b8.trans (.of e9)) hd'
    walk_at "gos"
    refine ⟨x, C, dx, _, rfl, hx8, c_Where, n3, by simp, ?_⟩
    generalize hX : upd H' x _ = H9
    have hx9 : H9 x = some (.ins C dx [("period", .int (d : Nat)), ("rests", .ref t1), ("start", .int (s0 : Nat))]) := by rw [← hX]; exact upd_same
    have sx9 : SqA K H9 a (Bx.map V.bl) := by rw [← hX]; exact sx8.updI hx8
    have ht9 : SqT K H9 t1 ((R.take d).map V.bl) := by rw [← hX]; exact ht8.updI hx8
    have b9 : SameB x H H9 := by rw [← hX]; exact b8.upd
    clear hX hx8 sx8 ht8 b8
    walk_at "gos"
    refine u_slA sx9 fun l3 H10 e10 h10 => ?_
    rw [cut_to, ← List.map_take] at h10
    walk_at "gos"
    refine u_tupA h10 fun t2 H11 e11 ht2 => ?_
    walk_at "gos"
    have e911 := e10.trans e11
    have hx11 := e911 _ _ hx9
    refine ⟨x, C, dx, _, rfl, hx11, c_Where, n4, by simp, ?_⟩
    generalize hX : upd H11 x _ = H12
    have hx12 : H12 x = some (.ins C dx [("period", .int (d : Nat)), ("rests", .ref t1), ("start", .int (s0 : Nat)), ("below", .ref t2)]) := by rw [← hX]; exact upd_same
    have ht12 : SqT K H12 t1 ((R.take d).map V.bl) := by rw [← hX]; exact (e911.tup ht9).updI hx11
    have hb12 : SqT K H12 t2 ((Bx.take s0).map V.bl) := by rw [← hX]; exact ht2.updI hx11
    have b12 : SameB x H H12 := by rw [← hX]; exact (b9.trans (.of e911)).upd
    walk_at "gos"
    exact q Bx R _ _ rfl rfl hR hnm hmem (by rw [htl]; omega) (by rw [hs0l]; omega) H12 b12 ⟨dx, t1, t2, by rw [htl, hs0l]; exact hx12, ht12, hb12⟩
/-- Where(..) by its promise -/
theorem make_Where {C CT CF CL : Addr} {f : Addr} {fd : FuncData} (Fn : FnOk P w K mg base (L2.CX P w) 5 f fd ["self", "below", "rests"] (spWhereInit K C CT CF CL)) (M : Mk K C f) (hC : mg "Where" = some (.ref C)) (hb : Binds K fd ["self", "below", "rests"] []) :
    MakeF P w K mg base "Where" C 5 (spWhere K C CT CF CL) := by
  refine ⟨f, fd, _, _, [], [], Fn, M, hC, hb, .nil, fun vs H Q E h => ?_⟩
  obtain ⟨a, b, xs, ys, kx, ky, rfl, ha, he, q⟩ := h
  intro x dx hx hdx hne
  have es : Same H (upd (upd H dx (.own x)) x (.ins C dx [])) := (same_new hdx).trans (same_new (by rw [upd_ne (Ne.symm hne)]; exact hx))
  have bs : ∀ H', SameB x (upd (upd H dx (.own x)) x (.ins C dx [])) H' → Same H H' := fun H' hs c o hc => hs c o (ne_of_none hc hx) (es c o hc)
  refine ⟨x, dx, a, b, xs, ys, kx, ky, rfl, upd_same, ⟨ha.sx.same es, ha.sy.same es, fun i z hz => (ha.hx i z hz).same es, fun i z hz => (ha.hy i z hz).same es, ha.bx, ha.by_, ha.lx, ha.ly⟩, he.le bs, fun B R bl rl h1 h2 h3 h4 h5 h6 h7 H' h8 h9 => ⟨rfl, ?_⟩⟩
  exact q B R bl rl h1 h2 h3 h4 h5 h6 h7 x H' hx (bs H' h8) h9
/-! == -/
theorem isW_ty {H : Hp} {x C : Addr} {bl rl : List Bool} (h : IsW K H x C bl rl) (cl : Cls K C) (ha : PySem.W.findIn K (.ref C) "__class__" = some (some (.builtin "object.__class__")))
    (hn : PySem.W.specialIn K (.builtin "object.__class__") "__get__" = some (some (.builtin "getset_descriptor.__get__"))) (htk : PySem.W.takesIn K (.builtin "object.__class__") = some true)
    (hm : PySem.W.mroIn K C (.type "object") = some true) : TyX K H (.ref x) (.ref C) := let ⟨_, _, _, h1, _, _⟩ := h; .base (.ins h1 cl ha hn htk hm)
/-- the other is a set, or a value whose type is not Where -/
def spEqW (K : PySem.W.Frag) (C : Addr) : Sp := fun vs H Q _ => ∃ (x : Addr) (y : V) (bl rl : List Bool), vs = [.ref x, y] ∧ IsW K H x C bl rl ∧
  ((∃ (z : Addr) (bl' rl' : List Bool), y = .ref z ∧ IsW K H z C bl' rl' ∧ Q (.bl (decide (bl = bl') && decide (rl = rl'))) H) ∨ (∃ t, TyX K H y t ∧ PySem.W.kitOne K t (.ref C) = some false ∧ Q (.bl false) H))
theorem sc_Where___eq__ : FnScope ["self", "other"] ["self", "other"] (defScope (inClass (topS 19) 6)) := ⟨rfl, rfl, rfl, by decide +kernel, rfl, by decide +kernel, by decide +kernel⟩
theorem ok_Where_eq {C_Where : Addr} (B : Bn mg) (c_Where : Cls K C_Where) (n2 : NoAttr K C_Where "rests") (n4 : NoAttr K C_Where "below") (g_Where : mg "Where" = some (.ref C_Where)) (hyW : ∀ H x bl rl, IsW K H x C_Where bl rl → TyX K H (.ref x) (.ref C_Where)) (hi : PySem.W.kitOne K (.ref C_Where) (.ref C_Where) = some true)
    {f : Addr} {fd : FuncData} (F : Fun K "__eq__" "Where.__eq__" (inClass (topS 19) 6) f fd) : FnOk P w K mg base (L2.CX P w) 3 f fd ["self", "other"] (spEqW K C_Where) := by
  have nd := sc_Where___eq__.nd
  refine F.okX sc_Where___eq__ (fun vs H Q E h => ?_) (fun cdv A outer s H vs Q E hr h => ?_)
  · obtain ⟨x, y, bl, rl, rfl, _⟩ := h
    rfl
  · refine ⟨_, (pss_cons (ps_if (pt_not (pt_val (pe_callB (call_isiK' (K := K) rfl) (by rfl) B.isinstance (by decide +kernel) (pa_cons (pv 1) (pa_cons (pe_glob (v := .ref C_Where) rfl g_Where rfl) pa_nil))))) (pss_one (ps_ret pe_bl)) pss_nil)
      (pss_one (ps_ret (pe_and (pe_cmpR (op_eqDK (K := K) rfl hr.units) (pe_fldK (K := K) rfl (pv 0) rfl) (pe_fldK (K := K) rfl (pv 1) rfl) (nomark _)) (pe_one (pe_cmpR (op_eqDK (K := K) rfl hr.units) (pe_fldK (K := K) rfl (pv 0) rfl) (pe_fldK (K := K) rfl (pv 1) rfl) (nomark _))))))), ?_⟩
    obtain ⟨x, y, bl, rl, rfl, ⟨dx, t1, t2, hx, h1, h2⟩, q⟩ := h
    refine g_st (σ' := [some (.ref x), some y]) rfl ?_
    walk_at "gos"
    rcases q with ⟨z, bl', rl', rfl, hz, q⟩ | ⟨t', ht', hk, q⟩
    · refine u_isi (.own C_Where) (hyW _ _ _ _ hz) hi ?_
      obtain ⟨dz, s1, s2, hz1, g1, g2⟩ := hz
      walk_at "gos"
      refine u_tfld rfl hx c_Where n4 rfl ?_
      refine u_tfld rfl hz1 c_Where n4 rfl ?_
      refine u_eqTB h2 g2 ?_
      refine ⟨_, rfl, g_itd (fun e1 => ?_) (fun e1 => ?_)⟩
      · walk_at "gos"
        refine u_tfld rfl hx c_Where n2 rfl ?_
        refine u_tfld rfl hz1 c_Where n2 rfl ?_
        refine u_eqTB h1 g1 ?_
        walk_at "gos"
        rw [decide_eq_true e1, Bool.true_and] at q
        exact q
      · rw [decide_eq_false e1, Bool.false_and] at q
        exact q
    · refine u_isi (.own C_Where) ht' hk ?_
      walk_at "gos"
      exact q
end
end Ev

end
section
open L2 in
local macro_rules | `(tactic| walk_at "gx") => `(tactic| first
  | ((with_reducible show tVar _ _ _ _); refine g_var rfl ?_)
  | with_reducible refine g_c ?_
  | with_reducible refine g_op ?_
  | with_reducible refine g_cons ?_
  | with_reducible refine g_nil ?_
  | with_reducible refine g_test ?_
  | with_reducible refine g_blp ?_
  | with_reducible refine g_asg ?_
  | (with_reducible refine g_name ?_; (try simp only [List.set_cons_zero, List.set_cons_succ]))
  | with_reducible refine g_call ?_
  | with_reducible refine g_cb ?_
  | with_reducible refine g_I0 ?_
  | with_reducible refine g_U ?_
  | with_reducible refine g_eqI ?_
  | with_reducible refine g_neI ?_
  | with_reducible refine g_if ?_
  | with_reducible refine g_ret ?_
  | with_reducible refine g_retN ?_
  | with_reducible refine g_next ?_
  | with_reducible refine g_drop ?_
  | with_reducible refine g_un ?_
  | with_reducible refine g_tb ?_
  | with_reducible refine g_tup ?_
  | with_reducible refine g_lst ?_
  | with_reducible refine g_and ?_
  | with_reducible refine g_or ?_
  | with_reducible refine g_not ?_
  | with_reducible refine g_andV ?_
  | with_reducible refine g_orV ?_
  | with_reducible refine g_notV ?_
  | with_reducible refine g_ifE ?_
  | with_reducible refine g_fld ?_
  | with_reducible refine g_tt ?_
  | with_reducible refine g_ff ?_
  | with_reducible refine g_ntt ?_
  | with_reducible refine g_nff ?_
  | with_reducible refine g_for ?_
  | with_reducible refine g_list ?_
  | with_reducible refine g_tupI ?_
  | with_reducible refine g_rng1 ?_
  | with_reducible refine g_rng2 ?_
  | with_reducible refine g_enumA ?_
  | with_reducible refine g_rev ?_
  | with_reducible refine g_lc ?_
  | with_reducible refine g_gcons ?_
  | with_reducible refine g_gnil ?_
  | with_reducible refine g_yes ?_
  | with_reducible refine g_sl ?_
  | with_reducible refine g_nopart ?_
  | with_reducible refine g_part ?_
  | with_reducible refine g_int ?_
  | with_reducible refine g_dget ?_
  | with_reducible refine g_dput ?_
  | with_reducible refine g_raiseX ?_
  | with_reducible refine g_tru ?_
  | with_reducible refine g_sub ?_
  | with_reducible refine g_isN ?_
  | with_reducible refine g_notN ?_
  | with_reducible refine g_bm ?_
  | with_reducible refine L2.g_bm0 ?_
  | with_reducible refine g_pair ?_
  | with_reducible refine g_pair0 ?_
  | with_reducible refine u_int1 ?_
  | with_reducible refine g_chain ?_
  | with_reducible refine L2.g_sfld ?_
  | (with_reducible refine g_par3 ?_)
  | (with_reducible refine g_three ?_; (try simp only [List.set_cons_zero, List.set_cons_succ]))
  | ((with_reducible apply L2.g_tupT); walk_at "up"; rfl)
  | (with_reducible refine g_par ?_)
  | (with_reducible refine g_two ?_; (try simp only [List.set_cons_zero, List.set_cons_succ]))
  )
local macro_rules | `(tactic| walk_at "go") => `(tactic| first | walk_at "gx" | with_reducible refine L2.g_seq ?_)
local macro_rules | `(tactic| walk_at "gou") => `(tactic| repeat (walk_at "gx"))
local macro_rules | `(tactic| walk_at "gos") => `(tactic| repeat (walk_at "go"))
local macro_rules | `(tactic| walk_at "sl") => `(tactic| first
  | assumption
  | exact L2.Same.l (by assumption)
  | exact L2.SameD.l (by assumption)
  | exact L2.extN_l (by assumption))
local macro_rules | `(tactic| walk_at "up") => `(tactic| first
  | assumption
  | ((with_reducible apply L2.SameL.lst); walk_at "sl"; walk_at "up")
  | ((with_reducible apply L2.SameL.tupA); walk_at "sl"; walk_at "up")
  | ((with_reducible apply L2.SameL.ins); walk_at "sl"; walk_at "up")
  | ((with_reducible apply Ev.PB.l); walk_at "sl"; walk_at "up")
  | ((with_reducible apply Ev.IsP.l); walk_at "sl"; walk_at "up")
  | ((with_reducible apply L2.sqL); walk_at "up")
  | ((with_reducible apply L2.sqT); walk_at "up")
  | ((with_reducible apply L2.SameL.seq); walk_at "sl"; walk_at "up")
  | ((with_reducible apply Ev.Pen.same); assumption; walk_at "up")
  | ((with_reducible apply Ev.Pen.extN); assumption; walk_at "up")
  | ((with_reducible apply L2.tabs_s); assumption; walk_at "up")
  | ((with_reducible apply L2.tabs_dd); assumption; walk_at "up")
  | ((with_reducible apply Or.inl); walk_at "up")
  | ((with_reducible apply Or.inr); walk_at "up"))
local macro_rules | `(tactic| walk_at "new") => `(tactic| (
  first
    | refine ⟨L2.size_ok (by rfl), fun p hp => ?_⟩
    | refine fun p hp => ?_
  generalize hX : L2.upd _ p _ = H1
  obtain ⟨e, h⟩ := L2.news hp hX
  clear hX))
local macro_rules | `(tactic| walk_at "o") => `(tactic| first
  | ((with_reducible apply Ev.o_add); walk_at "up"; walk_at "up"; rfl; rfl; rfl)
  | ((with_reducible apply Ev.o_sub); walk_at "up"; walk_at "up"; rfl; rfl; rfl)
  | ((with_reducible apply Ev.o_mul); walk_at "up"; walk_at "up"; rfl; rfl; rfl)
  | ((with_reducible apply Ev.o_addI); walk_at "up"; assumption; rfl; rfl; rfl)
  | ((with_reducible apply Ev.o_subI); walk_at "up"; assumption; rfl; rfl; rfl)
  | ((with_reducible apply Ev.o_mulI); walk_at "up"; assumption; rfl; rfl; rfl)
  | ((with_reducible apply Ev.o_radd); walk_at "up"; assumption; rfl; rfl; rfl)
  | ((with_reducible apply Ev.o_rsub); walk_at "up"; assumption; rfl; rfl; rfl)
  | ((with_reducible apply Ev.o_rmul); walk_at "up"; assumption; rfl; rfl; rfl)
  | ((with_reducible apply Ev.o_neg); walk_at "up"; rfl; rfl; rfl))
local macro_rules | `(tactic| walk_at "eq") => `(tactic| ((with_reducible apply Ev.u_ownB); assumption; walk_at "up"; walk_at "up"; (focus (intro k; first | rfl | exact Pl.e_add | exact Pl.e_sub | exact Pl.e_mul | exact Pl.e_rsub | exact Pl.e_rsub2))))
local macro_rules | `(tactic| walk_at "isp") => `(tactic| (apply Ev.u_isB; walk_at "up"; walk_at "up"; rfl; rfl))

/-! The law's pen: draws from the script. -/
namespace Ev
open PySem PySem.Spec PyProof.Rows L2
abbrev penO (c : Addr) (at_ left : Int) : HO := .dK [(.inr "cells", .ref c), (.inr "at", .int at_), (.inr "left", .int left)]
/-- a pen at p, moved at most n times -/
def Pen (H : Hp) (p c : Addr) (n : Nat) : Prop := ∃ (cells : List Int) (at_ left : Int), H p = some (penO c at_ left) ∧ H c = some (.lst (cells.map V.int)) ∧ cells.length ≤ 63 ∧ 0 ≤ at_ ∧ at_ ≤ n ∧ 0 ≤ left
theorem Pen.same {H H' : Hp} {p c : Addr} {n : Nat} (e : Same H H') : Pen H p c n → Pen H' p c n := fun ⟨cells, a, l, h1, h2, h3⟩ => ⟨cells, a, l, e _ _ h1, e _ _ h2, h3⟩
theorem Pen.extN {H H' : Hp} {p c : Addr} {n : Nat} (e : ∀ b o, H b = some o → (∀ ps, o ≠ .tbl ps) → H' b = some o) : Pen H p c n → Pen H' p c n := fun ⟨cells, a, l, h1, h2, h3⟩ => ⟨cells, a, l, e _ _ h1 (fun _ z => nomatch z), e _ _ h2 (fun _ z => nomatch z), h3⟩
theorem Pen.mono {H : Hp} {p c : Addr} {n m : Nat} (h : n ≤ m) : Pen H p c n → Pen H p c m := fun ⟨cells, a, l, h1, h2, h3, h4, h5, h6⟩ => ⟨cells, a, l, h1, h2, h3, h4, by omega, h6⟩
theorem Pen.ne {H : Hp} {p c D : Addr} {n : Nat} (hD : H D = none) : Pen H p c n → p ≠ D ∧ c ≠ D := fun ⟨cells, a, l, h1, h2, _⟩ => ⟨ne_of_none h1 hD, ne_of_none h2 hD⟩
theorem Pen.upd {H : Hp} {p c D : Addr} {n : Nat} {o : HO} (h1 : p ≠ D) (h2 : c ≠ D) : Pen H p c n → Pen (upd H D o) p c n := fun ⟨cells, a, l, g1, g2, g3⟩ => ⟨cells, a, l, by rw [upd_ne h1]; exact g1, by rw [upd_ne h2]; exact g2, g3⟩
theorem SameD.put {H H' : Hp} {p : Addr} {kvs kvs' : List (Key × V)} (e : SameD H H') (h : H' p = some (.dK kvs)) : SameD H (upd H' p (.dK kvs')) := fun b o hb hn => by
  by_cases hp : b = p
  · subst hp
    have := e _ _ hb hn
    rw [h] at this
    cases this
    exact absurd rfl (hn kvs)
  · rw [upd_ne hp]
    exact e _ _ hb hn
section
variable {H : Hp} {p c : Addr} {at_ left : Int}
theorem pen_cells {P : V → Prop} (h : H p = some (penO c at_ left)) (q : P (.ref c)) : ∃ a v, V.ref p = .ref a ∧ DGet H a (.str "cells") (some v) ∧ P v := ⟨p, _, rfl, .inl ⟨_, .inr "cells", .inl h, rfl, rfl⟩, q⟩
theorem pen_at {P : V → Prop} (h : H p = some (penO c at_ left)) (q : P (.int at_)) : ∃ a v, V.ref p = .ref a ∧ DGet H a (.str "at") (some v) ∧ P v := ⟨p, _, rfl, .inl ⟨_, .inr "at", .inl h, rfl, rfl⟩, q⟩
theorem pen_left {P : V → Prop} (h : H p = some (penO c at_ left)) (q : P (.int left)) : ∃ a v, V.ref p = .ref a ∧ DGet H a (.str "left") (some v) ∧ P v := ⟨p, _, rfl, .inl ⟨_, .inr "left", .inl h, rfl, rfl⟩, q⟩
theorem pen_at' {P : Hp → Prop} {i : Int} (h : H p = some (penO c at_ left)) (q : P (upd H p (penO c i left))) : ∃ a H', V.ref p = .ref a ∧ DPut H a (.str "at") (.int i) H' ∧ P H' :=
  ⟨p, _, rfl, .inl ⟨_, .inr "at", h, rfl, by show 3 < sizeLine; decide, rfl⟩, q⟩
theorem pen_left' {P : Hp → Prop} {i : Int} (h : H p = some (penO c at_ left)) (q : P (upd H p (penO c at_ i))) : ∃ a H', V.ref p = .ref a ∧ DPut H a (.str "left") (.int i) H' ∧ P H' :=
  ⟨p, _, rfl, .inl ⟨_, .inr "left", h, rfl, by show 3 < sizeLine; decide, rfl⟩, q⟩
end
theorem fmod_ok {i j : Int} (h : 0 < j) : 0 ≤ i.fmod j ∧ i.fmod j < j := by
  rw [Int.fmod_eq_emod_of_nonneg _ (Int.le_of_lt h)]
  exact ⟨Int.emod_nonneg _ (by omega), Int.emod_lt_of_pos _ h⟩
theorem cdiv_ok {i j : Int} (h : 0 < j) (h2 : j < 2 ^ 200) : CDivX i j := by
  have : Bd 200 j := by
    unfold Bd
    have : (2 : Int) ^ 200 = ((2 ^ 200 : Nat) : Int) := by norm_cast
    omega
  exact Bd.divX (by omega) this (by decide)
theorem cmul_small {i j : Int} {n m : Nat} (h : Bd n i) (h' : Bd m j) (hs : Nat.ble (n + m) 100000000 = true := by rfl) : CMulX i j := h.mulX h' (by have := Nat.le_of_ble_eq_true hs; omega)
theorem bd_of {i : Int} {n : Nat} (h : 0 ≤ i) (h2 : i < ((2 ^ n : Nat) : Int)) : Bd n i := by
  unfold Bd
  omega
section
variable {P : Program} {w : World} {K : PySem.W.Frag} {mg : Str → Option Value} {base : Heap}
def spPen (K : PySem.W.Frag) : Sp := fun vs H Q _ => ∃ (a : Addr) (ns : List Int), vs = [.ref a] ∧ SqL K H a (ns.map V.int) ∧ ∀ p c H', Same H H' → Pen H' p c 0 → Q (.ref p) H'
theorem sc__law_pen : FnScope ["script"] ["script"] (defScope (topS 24)) := ⟨rfl, rfl, rfl, by decide +kernel, rfl, by decide +kernel, by decide +kernel⟩
theorem ok__law_pen (B : Bn mg) {f : Addr} {fd : FuncData} (F : Fun K "_law_pen" "_law_pen" (topS 24) f fd) : FnOk P w K mg base (L2.CX P w) 1 f fd ["script"] (spPen K) := by
  have nd := sc__law_pen.nd
  refine F.okX sc__law_pen (fun vs H Q E h => ?_) (fun cdv A outer s H vs Q E hr h => ?_)
  · obtain ⟨a, ns, rfl, _⟩ := h
    rfl
  · refine ⟨_, (pss_one (ps_ret (pe_disp (pps_cons pe_str (pe_callTy (call_lstK (K := K) rfl) (by rfl) B.list_ (by decide +kernel) (pa_cons (pe_slice (sl_listK (K := K) rfl) (pv 0) po_none (po_some pe_int)) pa_nil)) (pps_cons pe_str pe_int (pps_cons pe_str pe_int pps_nil))) (by rfl) (by rfl) (fun z => by cases z) (by decide)))), ?_⟩
    obtain ⟨a, ns, rfl, hx, q⟩ := h
    refine g_retD fun p hp => ?_
    walk_at "gos"
    refine u_sl ((same_new hp).seq hx) fun l H1 hl e1 h1 => ?_
    walk_at "gos"
    refine u_list (.inl (sqL h1)) fun l2 H2 hl2 e2 h2 => ?_
    walk_at "gos"
    refine ⟨e2 _ _ (e1 _ _ upd_same), [(.inr "cells", .ref l2), (.inr "at", .int 0), (.inr "left", .int 0)], rfl, by show 3 ≤ 15; decide, ?_⟩
    have e12 : Same H H2 := (same_new hp).trans (e1.trans e2)
    refine q p l2 _ (Same.mut e12 hp) ⟨ns.take 63, 0, 0, upd_same, ?_, ?_, by decide, by decide, by decide⟩
    · rw [upd_ne (ne_of_none (e1 _ _ upd_same) hl2).symm, h2]
      rw [show (some 63 : Option Int) = some ((63 : Nat) : Int) from rfl, cut_to, List.map_take]
    · rw [List.length_take]
      omega
def spDraw : Sp := fun vs H Q _ => ∃ (p c : Addr) (many : Int) (n : Nat), vs = [.ref p, .int many] ∧ Pen H p c n ∧ n < 2 ^ 40 ∧ 0 < many ∧ many < 2 ^ 200 ∧ ∀ r H', 0 ≤ r → r < many → SameD H H' → Pen H' p c (n + 1) → Q (.int r) H'
theorem sc__law_draw : FnScope ["pen", "many", "digit", "at", "cell", "mixed"] ["pen", "many"] (defScope (topS 25)) := ⟨rfl, rfl, rfl, by decide +kernel, rfl, by decide +kernel, by decide +kernel⟩
theorem ok__law_draw (B : Bn mg) {f : Addr} {fd : FuncData} (F : Fun K "_law_draw" "_law_draw" (topS 25) f fd) : FnOk P w K mg base (L2.CX P w) 2 f fd ["pen", "many"] spDraw := by
  have nd := sc__law_draw.nd
  refine F.okX sc__law_draw (fun vs H Q E h => ?_) (fun cdv A outer s H vs Q E hr h => ?_)
  · obtain ⟨p, c, many, n, rfl, _⟩ := h
    rfl
  · refine ⟨_, (pss_cons (ps_if (pt_cmpR op_ge (pe_dget (hu_of hr) (pv 0) pe_str (fun _ _ => rfl)) (pv 1) (nomark _)) (pss_cons (ps_set (i := 2) nd rfl (.inl rfl) (pe_op op_modN (pe_callTy call_in1 (by rfl) B.int_ (by decide +kernel) (pa_cons (pe_dget (hu_of hr) (pv 0) pe_str (fun _ _ => rfl)) pa_nil)) (pv 1)))
      (pss_cons (ps_dput (hu_of hr) (pv 0) pe_str (pe_op op_fdivX (pe_dget (hu_of hr) (pv 0) pe_str (fun _ _ => rfl)) (pv 1)) rfl)
      (pss_one (ps_ret (pv 2))))) pss_nil)
      (pss_cons (ps_set (i := 3) nd rfl (.inl rfl) (pe_dget (hu_of hr) (pv 0) pe_str (fun _ _ => rfl)))
      (pss_cons (ps_dput (hu_of hr) (pv 0) pe_str (pe_op op_add (pv 3) pe_int) rfl)
      (pss_cons (ps_set (i := 4) nd rfl (.inl rfl) (pe_op op_add (pe_op op_mulX pe_int (pv 3)) pe_int))
      (pss_cons (ps_if (pt_cmpR (op_neDK (K := K) rfl hr.units) (pe_dget (hu_of hr) (pv 0) pe_str (fun _ _ => rfl)) (pe_lst pa_nil) (nomark _)) (pss_one (ps_set (i := 4) nd rfl (.inl rfl) (pe_ix (ix_listK (K := K) rfl) (pe_dget (hu_of hr) (pv 0) pe_str (fun _ _ => rfl)) (pe_op op_modN (pe_callTy call_in1 (by rfl) B.int_ (by decide +kernel) (pa_cons (pv 3) pa_nil)) (pe_callB (call_lnK (K := K) rfl) (by rfl) B.len_ (by decide +kernel) (pa_cons (pe_dget (hu_of hr) (pv 0) pe_str (fun _ _ => rfl)) pa_nil))) (fun _ _ => rfl)))) pss_nil)
      (pss_cons (ps_if (PW.pt (pw_and (pt_cmpR op_lt (pv 3) (pe_callB (call_lnK (K := K) rfl) (by rfl) B.len_ (by decide +kernel) (pa_cons (pe_dget (hu_of hr) (pv 0) pe_str (fun _ _ => rfl)) pa_nil)) (nomark _)) (pw_and1 (pt_cmpR op_ge (pv 4) (pe_op op_pow pe_int pe_int) (nomark _))))) (pss_cons (ps_dput (hu_of hr) (pv 0) pe_str (pe_op op_fdivX (pe_op op_sub (pv 4) (pe_op op_pow pe_int pe_int)) (pv 1)) rfl)
      (pss_one (ps_ret (pe_op op_modN (pe_callTy call_in1 (by rfl) B.int_ (by decide +kernel) (pa_cons (pe_op op_sub (pv 4) (pe_op op_pow pe_int pe_int)) pa_nil)) (pv 1))))) pss_nil)
      (pss_cons (ps_set (i := 5) nd rfl (.inl rfl) (pe_op op_add (pe_op op_add (pe_op op_add (pe_op op_mulX (pe_op op_modN (pe_callTy call_in1 (by rfl) B.int_ (by decide +kernel) (pa_cons (pv 4) pa_nil)) pe_int) pe_int) (pe_op op_mulX (pe_op op_mulX pe_int (pv 3)) (pv 3))) (pe_op op_mulX pe_int (pv 3))) pe_int))
      (pss_cons (ps_set (i := 5) nd rfl (.inl rfl) (pe_op op_modN (pe_callTy call_in1 (by rfl) B.int_ (by decide +kernel) (pa_cons (pv 5) pa_nil)) pe_int))
      (pss_cons (ps_set (i := 5) nd rfl (.inl rfl) (pe_op op_modN (pe_callTy call_in1 (by rfl) B.int_ (by decide +kernel) (pa_cons (pe_op op_mulX (pv 5) (pe_op op_add (pv 5) pe_int)) pa_nil)) pe_int))
      (pss_one (ps_ret (pe_op op_modN (pe_callTy call_in1 (by rfl) B.int_ (by decide +kernel) (pa_cons (pe_op op_fdivX (pe_op op_modN (pe_callTy call_in1 (by rfl) B.int_ (by decide +kernel) (pa_cons (pe_op op_mulX (pv 5) (pv 5)) pa_nil)) pe_int) pe_int) pa_nil)) (pv 1))))))))))))), ?_⟩
    obtain ⟨p, c, many, n, rfl, ⟨cells, at_, left, hp, hc, hl, ha0, han, hl0⟩, hn, hm, hm2, q⟩ := h
    refine g_st (σ' := [some (.ref p), some (.int many), none, none, none, none]) rfl ?_
    have hcp : c ≠ p := fun z => by rw [z, hp] at hc; cases hc
    walk_at "gos"
    refine pen_left hp ?_
    walk_at "gos"
    refine g_itd (fun h1 => ?_) (fun h1 => ?_)
    · walk_at "gos"
      refine pen_left hp ?_
      walk_at "gos"
      refine g_I (by omega) ?_
      walk_at "gos"
      refine pen_left hp ?_
      walk_at "gos"
      refine g_I (cdiv_ok hm hm2) ?_
      walk_at "gos"
      refine pen_left' hp ?_
      walk_at "gos"
      have f1 := fmod_ok (i := left) hm
      refine q _ _ f1.1 f1.2 (SameD.put (SameD.refl H) hp) ⟨cells, at_, _, upd_same, by rw [upd_ne hcp]; exact hc, hl, ha0, by omega, ?_⟩
      rw [Int.fdiv_eq_ediv_of_nonneg _ (Int.le_of_lt hm)]
      exact Int.ediv_nonneg hl0 (Int.le_of_lt hm)
    · walk_at "gos"
      refine pen_at hp ?_
      walk_at "gos"
      refine pen_at' hp ?_
      walk_at "gos"
      have hat : Bd 41 at_ := bd_of ha0 (by have : (2 : Nat) ^ 41 = 2 ^ 40 * 2 := rfl; omega)
      refine g_I (cmul_small (n := 6) (m := 41) (by unfold Bd; decide) hat) ?_
      have hp1 : (upd H p (penO c (at_ + 1) left)) p = some (penO c (at_ + 1) left) := upd_same
      have hc1 : (upd H p (penO c (at_ + 1) left)) c = some (.lst (cells.map V.int)) := by rw [upd_ne hcp]; exact hc
      have d1 : SameD H (upd H p (penO c (at_ + 1) left)) := SameD.put (SameD.refl H) hp
      generalize upd H p (penO c (at_ + 1) left) = H1 at hp1 hc1 d1 ⊢
      walk_at "go"
      walk_at "go"
      walk_at "go"
      refine g_cutS (fun σ' H' => Same H1 H' ∧ ∃ cell : Int, σ' = [some (.ref p), some (.int many), none, some (.int at_), some (.int cell), none]) (fun nx hnx => ?_) (fun σ' H' hR => ?_)
      · walk_at "gos"
        refine pen_cells hp1 ?_
        walk_at "gos"
        refine ⟨Nat.zero_le _, fun l hl2 => ?_⟩
        have e2 := same_new (o := .lst []) hl2
        have h2 : (upd H1 l (.lst [])) l = some (.lst []) := upd_same
        generalize upd H1 l (.lst []) = H2 at e2 h2 ⊢
        refine u_neL (ms := []) (sqL (e2 _ _ hc1)) (sqL h2) ?_
        walk_at "gos"
        refine g_itn (fun hne => ?_) (fun hne => ?_)
        · walk_at "gos"
          refine pen_cells (e2 _ _ hp1) ?_
          walk_at "gos"
          refine pen_cells (e2 _ _ hp1) ?_
          walk_at "gos"
          refine u_lenL (sqL (e2 _ _ hc1)) ?_
          have hln : 0 < cells.length := List.length_pos_iff.mpr hne
          refine g_I (by rw [List.length_map]; omega) ?_
          rw [List.length_map]
          have f1 := fmod_ok (i := at_) (j := (cells.length : Int)) (by omega)
          obtain ⟨j, hj⟩ := Int.eq_ofNat_of_zero_le f1.1
          rw [hj] at f1 ⊢
          have hj2 : j < cells.length := by omega
          refine u_ixL (sqL (e2 _ _ hc1)) (atI_nat (v := V.int (cells[j])) (by rw [List.getElem?_map, List.getElem?_eq_getElem hj2]; rfl)) ?_
          walk_at "gos"
          exact hnx _ _ ⟨e2, _, rfl⟩
        · walk_at "gos"
          exact hnx _ _ ⟨e2, _, rfl⟩
      · obtain ⟨e2, cell, rfl⟩ := hR
        have hp2 := e2 _ _ hp1
        have hc2 := e2 _ _ hc1
        have d2 : SameD H H' := d1.trans e2.d
        have q' : ∀ i : Int, Q (.int (i.fmod many)) H' := fun i => q _ _ (fmod_ok hm).1 (fmod_ok hm).2 d2 ⟨cells, _, _, hp2, hc2, hl, by omega, by omega, hl0⟩
        refine g_cutS (fun σ' H'' => H'' = H' ∧ σ' = [some (.ref p), some (.int many), none, some (.int at_), some (.int cell), none]) (fun nx hnx => ?_) (fun σ' H'' hR => ?_)
        · walk_at "gos"
          refine pen_cells hp2 ?_
          walk_at "gos"
          refine u_lenL (sqL hc2) ?_
          walk_at "gos"
          refine g_itd (fun h3 => ?_) (fun h3 => ?_)
          · walk_at "gos"
            refine g_I (by unfold CPow; decide) ?_
            walk_at "gos"
            refine g_itd (fun h4 => ?_) (fun h4 => ?_)
            · walk_at "gos"
              refine g_I (by unfold CPow; decide) ?_
              walk_at "gos"
              refine g_I (cdiv_ok hm hm2) ?_
              walk_at "gos"
              refine pen_left' hp2 ?_
              walk_at "gos"
              refine g_I (by unfold CPow; decide) ?_
              walk_at "gos"
              refine g_I (by omega) ?_
              have f1 := fmod_ok (i := cell - 10 ^ (18 : Int).toNat) hm
              refine q _ _ f1.1 f1.2 (SameD.put d2 hp2) ⟨cells, _, _, upd_same, by rw [upd_ne hcp]; exact hc2, hl, by omega, by omega, ?_⟩
              rw [Int.fdiv_eq_ediv_of_nonneg _ (Int.le_of_lt hm)]
              exact Int.ediv_nonneg (by omega) (Int.le_of_lt hm)
            · walk_at "gos"
              exact hnx _ _ ⟨rfl, rfl⟩
          · walk_at "gos"
            exact hnx _ _ ⟨rfl, rfl⟩
        · obtain ⟨rfl, rfl⟩ := hR
          have bm : ∀ {i j : Int}, 0 < j → j < 2147483648 → Bd 31 (i.fmod j) := fun {i j} h1 h2 => by
            have := fmod_ok (i := i) h1
            exact bd_of this.1 (by have : (2 : Nat) ^ 31 = 2147483648 := rfl; omega)
          walk_at "gos"
          refine g_I (by decide) ?_
          walk_at "gos"
          refine g_I (cmul_small (n := 31) (m := 16) (bm (by decide) (by decide)) (by unfold Bd; decide)) ?_
          walk_at "gos"
          refine g_I (cmul_small (n := 17) (m := 41) (by unfold Bd; decide) hat) ?_
          walk_at "gos"
          refine g_I (cmul_small (n := 58) (m := 41) (Bd.mul (n := 17) (m := 41) (by unfold Bd; decide) hat) hat) ?_
          walk_at "gos"
          refine g_I (cmul_small (n := 6) (m := 41) (by unfold Bd; decide) hat) ?_
          walk_at "gos"
          refine g_I (by decide) ?_
          walk_at "gos"
          refine g_I (cmul_small (n := 31) (m := 32) (bm (by decide) (by decide)) (Bd.add (bm (by decide) (by decide)) (by unfold Bd; decide))) ?_
          walk_at "gos"
          refine g_I (by decide) ?_
          walk_at "gos"
          refine g_I (cmul_small (n := 31) (m := 31) (bm (by decide) (by decide)) (bm (by decide) (by decide))) ?_
          walk_at "gos"
          refine g_I (by decide) ?_
          walk_at "gos"
          refine g_I (by unfold CDivX; decide) ?_
          walk_at "gos"
          refine g_I (by omega) ?_
          exact q' _
end
end Ev

end
/-! Pieces, plainly. -/
namespace Pl
theorem dvd_gcd' {d a b : Int} (h1 : d ∣ a) (h2 : d ∣ b) : d ∣ ((Int.gcd a b : Nat) : Int) := Int.dvd_coe_gcd h1 h2
/-- the greatest divisor of u and all xs -/
def gl (u : Int) (xs : List Int) : Int := xs.foldl (fun d x => ((Int.gcd d x : Nat) : Int)) u
theorem gl_nil {u : Int} : gl u [] = u := rfl
theorem gl_snoc {u x : Int} {xs : List Int} : gl u (xs ++ [x]) = ((Int.gcd (gl u xs) x : Nat) : Int) := by
  unfold gl
  rw [List.foldl_append]
  rfl
theorem gl_cons {u x : Int} {xs : List Int} : gl u (x :: xs) = gl ((Int.gcd u x : Nat) : Int) xs := rfl
theorem gl_dvd_u {xs : List Int} : ∀ {u : Int}, gl u xs ∣ u := by
  induction xs with
  | nil => intro u; exact Int.dvd_refl u
  | cons x xs ih => intro u; exact Int.dvd_trans ih (Int.gcd_dvd_left _ _)
theorem gl_dvd {xs : List Int} : ∀ {u x : Int}, x ∈ xs → gl u xs ∣ x := by
  induction xs with
  | nil => intro u x h; cases h
  | cons y xs ih =>
    intro u x h
    rcases List.mem_cons.mp h with h | h
    · subst h
      rw [gl_cons]
      exact Int.dvd_trans gl_dvd_u (Int.gcd_dvd_right u x)
    · exact ih h
theorem gl_great {d : Int} {xs : List Int} : ∀ {u : Int}, d ∣ u → (∀ x, x ∈ xs → d ∣ x) → d ∣ gl u xs := by
  induction xs with
  | nil => intro u h _; exact h
  | cons y xs ih => intro u h h2; exact ih (dvd_gcd' h (h2 y (List.mem_cons_self ..))) fun x hx => h2 x (List.mem_cons_of_mem _ hx)
theorem gl_pos {xs : List Int} : ∀ {u : Int}, 0 < u → 0 < gl u xs := by
  induction xs with
  | nil => intro u h; exact h
  | cons y xs ih =>
    intro u h
    rw [gl_cons]
    refine ih ?_
    have : 0 < Int.gcd u y := Int.gcd_pos_of_ne_zero_left _ (by omega)
    omega
theorem gl_le {xs : List Int} {u : Int} (h : 0 < u) : gl u xs ≤ u := Int.le_of_dvd h gl_dvd_u
/-- the last place kept -/
theorem last_of (f : Nat → Bool) : ∀ n : Nat, ((List.range n).filter f = [] ∧ ∀ i, i < n → f i = false) ∨ ∃ k l, k < n ∧ f k = true ∧ (∀ i, k < i → i < n → f i = false) ∧ (List.range n).filter f = l ++ [k] := by
  intro n
  induction n with
  | zero => exact .inl ⟨rfl, fun i h => absurd h (Nat.not_lt_zero i)⟩
  | succ n ih =>
    rw [List.range_succ, List.filter_append]
    cases hf : f n with
    | true =>
      refine .inr ⟨n, (List.range n).filter f, Nat.lt_succ_self n, hf, fun i h1 h2 => by omega, ?_⟩
      rw [List.filter_cons, if_pos hf]
      rfl
    | false =>
      have e : List.filter f [n] = [] := by rw [List.filter_cons, if_neg (by rw [hf]; decide)]; rfl
      rw [e, List.append_nil]
      rcases ih with ⟨h1, h2⟩ | ⟨k, l, h1, h2, h3, h4⟩
      · refine .inl ⟨h1, fun i hi => ?_⟩
        by_cases h : i < n
        · exact h2 i h
        · obtain rfl : i = n := by omega
          exact hf
      · refine .inr ⟨k, l, by omega, h2, fun i h5 h6 => ?_, h4⟩
        by_cases h : i < n
        · exact h3 i h5 h
        · obtain rfl : i = n := by omega
          exact hf
/-- a row's member, 0 behind it -/
def at0 (l : List Int) (k : Nat) : Int := l.getD k 0
theorem at0_out {l : List Int} {k : Nat} (h : l.length ≤ k) : at0 l k = 0 := by
  unfold at0
  rw [List.getD_eq_getElem?_getD, List.getElem?_eq_none h]
  rfl
theorem at0_in {l : List Int} {k : Nat} (h : k < l.length) : at0 l k = l[k] := by
  unfold at0
  rw [List.getD_eq_getElem?_getD, List.getElem?_eq_getElem h]
  rfl
theorem at0_get {l : List Int} {k : Nat} {x : Int} (h : l[k]? = some x) : at0 l k = x := by
  unfold at0
  rw [List.getD_eq_getElem?_getD, h]
  rfl
theorem range_map {β : Type} (l : List Int) (f : Int → β) : (List.range l.length).map (fun i => f (at0 l i)) = l.map f := by
  refine List.ext_getElem (by rw [List.length_map, List.length_map, List.length_range]) fun i h1 h2 => ?_
  rw [List.getElem_map, List.getElem_map, List.getElem_range]
  rw [List.length_map] at h2
  rw [at0_in h2]
structure Least (rs : List Int) (u : Int) : Prop where
  pos : 0 < u
  low : rs ≠ [] → at0 rs (rs.length - 1) ≠ 0
  one : ∀ d : Int, d ∣ u → (∀ k, d ∣ at0 rs k) → d ∣ 1
/-- (rs, u) is the least form of ns over v -/
structure FormOf (ns : List Int) (v : Int) (rs : List Int) (u : Int) : Prop where
  least : Least rs u
  same : ∀ k, at0 rs k * v = at0 ns k * u
  len : rs.length ≤ ns.length
  le : u ≤ v
  small : ∀ k, (at0 rs k).natAbs ≤ (at0 ns k).natAbs
theorem dvd_all {m u : Int} {rs : List Int} (h : Least rs u) (hk : ∀ k, u ∣ at0 rs k * m) : u ∣ m := by
  have h1 : gl u rs ∣ 1 := h.one _ gl_dvd_u fun k => by
    by_cases hk : k < rs.length
    · rw [at0_in hk]
      exact gl_dvd (List.getElem_mem hk)
    · rw [at0_out (by omega)]
      exact Int.dvd_zero _
  have key : ∀ (xs : List Int) (d : Int), (∀ x, x ∈ xs → u ∣ x * m) → u ∣ d * m → u ∣ gl d xs * m := by
    intro xs
    induction xs with
    | nil => intro d _ h2; exact h2
    | cons x xs ih =>
      intro d h1 h2
      refine ih _ (fun y hy => h1 y (List.mem_cons_of_mem _ hy)) ?_
      have h3 := h1 x (List.mem_cons_self ..)
      have e : ((Int.gcd d x : Nat) : Int) * m ∣ ((Int.gcd (d * m) (x * m) : Nat) : Int) ∨ True := .inr trivial
      have h4 : u ∣ ((Int.gcd (d * m) (x * m) : Nat) : Int) := dvd_gcd' h2 h3
      rw [Int.gcd_mul_right] at h4
      rw [Int.natCast_mul] at h4
      rcases Int.natAbs_eq m with hm | hm
      · rw [hm]; exact h4
      · rw [hm, Int.mul_neg]; exact (Int.dvd_neg).mpr h4
  have h2 : u ∣ gl u rs * m := key rs u (fun x hx => by
    obtain ⟨k, hk', rfl⟩ := List.getElem_of_mem hx
    have := hk k
    rwa [at0_in hk'] at this) (Int.dvd_mul_right _ _)
  obtain ⟨c, hc⟩ := h1
  have : m = c * (gl u rs * m) := by
    rw [← Int.mul_assoc, Int.mul_comm c, ← hc, Int.one_mul]
  rw [this]
  exact Int.dvd_trans h2 (Int.dvd_mul_left _ _)
theorem ext0 {xs ys : List Int} (h1 : xs ≠ [] → at0 xs (xs.length - 1) ≠ 0) (h2 : ys ≠ [] → at0 ys (ys.length - 1) ≠ 0) (h : ∀ k, at0 xs k = at0 ys k) : xs = ys := by
  have hl : xs.length = ys.length := by
    rcases Nat.lt_trichotomy xs.length ys.length with hlt | he | hlt
    · have hne : ys ≠ [] := fun z => by rw [z] at hlt; exact absurd hlt (Nat.not_lt_zero _)
      exact absurd (by rw [← h, at0_out (by omega)]) (h2 hne)
    · exact he
    · have hne : xs ≠ [] := fun z => by rw [z] at hlt; exact absurd hlt (Nat.not_lt_zero _)
      exact absurd (by rw [h, at0_out (by omega)]) (h1 hne)
  refine List.ext_getElem hl fun i h3 h4 => ?_
  have := h i
  rwa [at0_in h3, at0_in h4] at this
theorem least_uniq {rs rs' : List Int} {u u' : Int} (h : Least rs u) (h' : Least rs' u') (e : ∀ k, at0 rs k * u' = at0 rs' k * u) : rs = rs' ∧ u = u' := by
  have d1 : u ∣ u' := dvd_all h fun k => ⟨at0 rs' k, by rw [e k, Int.mul_comm]⟩
  have d2 : u' ∣ u := dvd_all h' fun k => ⟨at0 rs k, by rw [← e k, Int.mul_comm]⟩
  have eu : u = u' := Int.le_antisymm (Int.le_of_dvd h'.pos d1) (Int.le_of_dvd h.pos d2)
  subst eu
  refine ⟨ext0 h.low h'.low fun k => ?_, rfl⟩
  exact Int.eq_of_mul_eq_mul_right (by have := h.pos; omega) (e k)
/-- two least forms of one fraction are one -/
theorem form_uniq {ns ns' rs rs' : List Int} {v v' u u' : Int} (h : FormOf ns v rs u) (h' : FormOf ns' v' rs' u') (hv : 0 < v) (hv' : 0 < v') (e : ∀ k, at0 ns k * v' = at0 ns' k * v) : rs = rs' ∧ u = u' := by
  refine least_uniq h.least h'.least fun k => ?_
  have h1 := h.same k
  have h2 := h'.same k
  have h3 := e k
  have hne : v * v' ≠ 0 := Int.mul_ne_zero (by omega) (by omega)
  refine Int.eq_of_mul_eq_mul_right hne ?_
  calc at0 rs k * u' * (v * v') = (at0 rs k * v) * (u' * v') := by simp only [Int.mul_assoc, Int.mul_left_comm, Int.mul_comm]
    _ = (at0 ns k * v') * (u * u') := by rw [h1]; simp only [Int.mul_assoc, Int.mul_left_comm, Int.mul_comm]
    _ = (at0 ns' k * u') * (u * v) := by rw [h3]; simp only [Int.mul_assoc, Int.mul_left_comm, Int.mul_comm]
    _ = at0 rs' k * u * (v * v') := by rw [← h2]; simp only [Int.mul_assoc, Int.mul_left_comm, Int.mul_comm]
/-- the members that are left -/
def kept (ns : List Int) (m : Nat) : Prop := m ≤ ns.length ∧ (∀ k, m ≤ k → at0 ns k = 0) ∧ (0 < m → at0 ns (m - 1) ≠ 0)
theorem at0_take {ns : List Int} {m k : Nat} (h : kept ns m) : at0 (ns.take m) k = at0 ns k := by
  by_cases hk : k < m
  · unfold at0
    rw [List.getD_eq_getElem?_getD, List.getD_eq_getElem?_getD, List.getElem?_take, if_pos hk]
  · rw [h.2.1 k (by omega), at0_out]
    rw [List.length_take]
    omega
theorem at0_map {ns : List Int} {f : Int → Int} (h0 : f 0 = 0) (k : Nat) : at0 (ns.map f) k = f (at0 ns k) := by
  unfold at0
  rw [List.getD_eq_getElem?_getD, List.getD_eq_getElem?_getD, List.getElem?_map]
  cases ns[k]? with
  | none => exact h0.symm
  | some x => rfl
theorem at0_app0 {l : List Int} {n k : Nat} : at0 (l ++ List.replicate n 0) k = at0 l k := by
  by_cases hk : k < l.length
  · unfold at0
    rw [List.getD_eq_getElem?_getD, List.getD_eq_getElem?_getD, List.getElem?_append_left hk]
  · rw [at0_out (l := l) (by omega)]
    unfold at0
    rw [List.getD_eq_getElem?_getD, List.getElem?_append_right (by omega), List.getElem?_replicate]
    split <;> rfl
theorem fdiv_mul {d x : Int} (hd : 0 < d) (h : d ∣ x) : x.fdiv d * d = x := by
  rw [Int.fdiv_eq_ediv_of_nonneg _ (Int.le_of_lt hd), Int.ediv_mul_cancel h]
theorem form_made {ns : List Int} {v : Int} {m : Nat} (hv : 0 < v) (hm : kept ns m) : FormOf ns v ((ns.take m).map fun x => x.fdiv (gl v (ns.take m))) (v.fdiv (gl v (ns.take m))) := by
  have hp : 0 < gl v (ns.take m) := gl_pos hv
  have hu : gl v (ns.take m) ∣ v := gl_dvd_u
  have hd : ∀ k, gl v (ns.take m) ∣ at0 ns k := fun k => by
    rw [← at0_take hm]
    by_cases hk : k < (ns.take m).length
    · rw [at0_in hk]
      exact gl_dvd (List.getElem_mem hk)
    · rw [at0_out (by omega)]
      exact Int.dvd_zero _
  have e0 : (0 : Int).fdiv (gl v (ns.take m)) = 0 := Int.zero_fdiv _
  have ek : ∀ k, at0 ((ns.take m).map fun x => x.fdiv (gl v (ns.take m))) k = (at0 ns k).fdiv (gl v (ns.take m)) := fun k => by rw [at0_map e0, at0_take hm]
  have hl : ((ns.take m).map fun x => x.fdiv (gl v (ns.take m))).length = m := by rw [List.length_map, List.length_take, Nat.min_eq_left hm.1]
  have ev := fdiv_mul hp hu
  have em : ∀ k, (at0 ns k).fdiv (gl v (ns.take m)) * gl v (ns.take m) = at0 ns k := fun k => fdiv_mul hp (hd k)
  refine ⟨⟨?_, ?_, ?_⟩, ?_, by rw [hl]; exact hm.1, ?_, ?_⟩
  · rw [Int.fdiv_eq_ediv_of_nonneg _ (Int.le_of_lt hp)]
    exact Int.ediv_pos_of_pos_of_dvd hv (Int.le_of_lt hp) hu
  · intro hne
    rw [hl, ek]
    intro z
    have hm0 : 0 < m := by
      rw [← hl]
      exact List.length_pos_iff.mpr hne
    refine hm.2.2 hm0 ?_
    rw [← em (m - 1), z, Int.zero_mul]
  · intro d h1 h2
    have h3 : d * gl v (ns.take m) ∣ gl v (ns.take m) := by
      refine gl_great ?_ ?_
      · have := Int.mul_dvd_mul_right (gl v (ns.take m)) h1
        rwa [ev] at this
      · intro x hx
        obtain ⟨k, hk, rfl⟩ := List.getElem_of_mem hx
        have h4 := Int.mul_dvd_mul_right (gl v (ns.take m)) (h2 k)
        rw [ek, em, ← at0_take hm, at0_in hk] at h4
        exact h4
    obtain ⟨c, hc⟩ := h3
    refine ⟨c, ?_⟩
    have : gl v (ns.take m) * 1 = gl v (ns.take m) * (d * c) := by
      rw [Int.mul_one, ← Int.mul_assoc, Int.mul_comm _ d]
      exact hc
    exact Int.eq_of_mul_eq_mul_left (by omega) this
  · intro k
    rw [ek]
    have : (at0 ns k).fdiv (gl v (ns.take m)) * (v.fdiv (gl v (ns.take m)) * gl v (ns.take m)) = (at0 ns k).fdiv (gl v (ns.take m)) * gl v (ns.take m) * v.fdiv (gl v (ns.take m)) := by
      simp only [Int.mul_assoc, Int.mul_left_comm, Int.mul_comm]
    rw [ev, em] at this
    exact this
  · rw [Int.fdiv_eq_ediv_of_nonneg _ (Int.le_of_lt hp)]
    exact Int.ediv_le_self _ (Int.le_of_lt hv)
  · intro k
    rw [ek]
    have := congrArg Int.natAbs (em k)
    rw [Int.natAbs_mul] at this
    rw [← this]
    exact Nat.le_mul_of_pos_right _ (by omega)
end Pl

section
open L2 in
local macro_rules | `(tactic| walk_at "gx") => `(tactic| first
  | ((with_reducible show tVar _ _ _ _); refine g_var rfl ?_)
  | with_reducible refine g_c ?_
  | with_reducible refine g_op ?_
  | with_reducible refine g_cons ?_
  | with_reducible refine g_nil ?_
  | with_reducible refine g_test ?_
  | with_reducible refine g_blp ?_
  | with_reducible refine g_asg ?_
  | (with_reducible refine g_name ?_; (try simp only [List.set_cons_zero, List.set_cons_succ]))
  | with_reducible refine g_call ?_
  | with_reducible refine g_cb ?_
  | with_reducible refine g_I0 ?_
  | with_reducible refine g_U ?_
  | with_reducible refine g_eqI ?_
  | with_reducible refine g_neI ?_
  | with_reducible refine g_if ?_
  | with_reducible refine g_ret ?_
  | with_reducible refine g_retN ?_
  | with_reducible refine g_next ?_
  | with_reducible refine g_drop ?_
  | with_reducible refine g_un ?_
  | with_reducible refine g_tb ?_
  | with_reducible refine g_tup ?_
  | with_reducible refine g_lst ?_
  | with_reducible refine g_and ?_
  | with_reducible refine g_or ?_
  | with_reducible refine g_not ?_
  | with_reducible refine g_andV ?_
  | with_reducible refine g_orV ?_
  | with_reducible refine g_notV ?_
  | with_reducible refine g_ifE ?_
  | with_reducible refine g_fld ?_
  | with_reducible refine g_tt ?_
  | with_reducible refine g_ff ?_
  | with_reducible refine g_ntt ?_
  | with_reducible refine g_nff ?_
  | with_reducible refine g_for ?_
  | with_reducible refine g_list ?_
  | with_reducible refine g_tupI ?_
  | with_reducible refine g_rng1 ?_
  | with_reducible refine g_rng2 ?_
  | with_reducible refine g_enumA ?_
  | with_reducible refine g_rev ?_
  | with_reducible refine g_lc ?_
  | with_reducible refine g_gcons ?_
  | with_reducible refine g_gnil ?_
  | with_reducible refine g_yes ?_
  | with_reducible refine g_sl ?_
  | with_reducible refine g_nopart ?_
  | with_reducible refine g_part ?_
  | with_reducible refine g_int ?_
  | with_reducible refine g_dget ?_
  | with_reducible refine g_dput ?_
  | with_reducible refine g_raiseX ?_
  | with_reducible refine g_tru ?_
  | with_reducible refine g_sub ?_
  | with_reducible refine g_isN ?_
  | with_reducible refine g_notN ?_
  | with_reducible refine g_bm ?_
  | with_reducible refine L2.g_bm0 ?_
  | with_reducible refine g_pair ?_
  | with_reducible refine g_pair0 ?_
  | with_reducible refine u_int1 ?_
  | with_reducible refine g_chain ?_
  | with_reducible refine L2.g_sfld ?_
  | (with_reducible refine g_par3 ?_)
  | (with_reducible refine g_three ?_; (try simp only [List.set_cons_zero, List.set_cons_succ]))
  | ((with_reducible apply L2.g_tupT); walk_at "up"; rfl)
  | (with_reducible refine g_par ?_)
  | (with_reducible refine g_two ?_; (try simp only [List.set_cons_zero, List.set_cons_succ]))
  )
local macro_rules | `(tactic| walk_at "go") => `(tactic| first | walk_at "gx" | with_reducible refine L2.g_seq ?_)
local macro_rules | `(tactic| walk_at "gou") => `(tactic| repeat (walk_at "gx"))
local macro_rules | `(tactic| walk_at "gos") => `(tactic| repeat (walk_at "go"))
local macro_rules | `(tactic| walk_at "sl") => `(tactic| first
  | assumption
  | exact L2.Same.l (by assumption)
  | exact L2.SameD.l (by assumption)
  | exact L2.extN_l (by assumption))
local macro_rules | `(tactic| walk_at "up") => `(tactic| first
  | assumption
  | ((with_reducible apply L2.SameL.lst); walk_at "sl"; walk_at "up")
  | ((with_reducible apply L2.SameL.tupA); walk_at "sl"; walk_at "up")
  | ((with_reducible apply L2.SameL.ins); walk_at "sl"; walk_at "up")
  | ((with_reducible apply Ev.PB.l); walk_at "sl"; walk_at "up")
  | ((with_reducible apply Ev.IsP.l); walk_at "sl"; walk_at "up")
  | ((with_reducible apply L2.sqL); walk_at "up")
  | ((with_reducible apply L2.sqT); walk_at "up")
  | ((with_reducible apply L2.SameL.seq); walk_at "sl"; walk_at "up")
  | ((with_reducible apply Ev.Pen.same); assumption; walk_at "up")
  | ((with_reducible apply Ev.Pen.extN); assumption; walk_at "up")
  | ((with_reducible apply L2.tabs_s); assumption; walk_at "up")
  | ((with_reducible apply L2.tabs_dd); assumption; walk_at "up")
  | ((with_reducible apply Or.inl); walk_at "up")
  | ((with_reducible apply Or.inr); walk_at "up"))
local macro_rules | `(tactic| walk_at "new") => `(tactic| (
  first
    | refine ⟨L2.size_ok (by rfl), fun p hp => ?_⟩
    | refine fun p hp => ?_
  generalize hX : L2.upd _ p _ = H1
  obtain ⟨e, h⟩ := L2.news hp hX
  clear hX))
local macro_rules | `(tactic| walk_at "o") => `(tactic| first
  | ((with_reducible apply Ev.o_add); walk_at "up"; walk_at "up"; rfl; rfl; rfl)
  | ((with_reducible apply Ev.o_sub); walk_at "up"; walk_at "up"; rfl; rfl; rfl)
  | ((with_reducible apply Ev.o_mul); walk_at "up"; walk_at "up"; rfl; rfl; rfl)
  | ((with_reducible apply Ev.o_addI); walk_at "up"; assumption; rfl; rfl; rfl)
  | ((with_reducible apply Ev.o_subI); walk_at "up"; assumption; rfl; rfl; rfl)
  | ((with_reducible apply Ev.o_mulI); walk_at "up"; assumption; rfl; rfl; rfl)
  | ((with_reducible apply Ev.o_radd); walk_at "up"; assumption; rfl; rfl; rfl)
  | ((with_reducible apply Ev.o_rsub); walk_at "up"; assumption; rfl; rfl; rfl)
  | ((with_reducible apply Ev.o_rmul); walk_at "up"; assumption; rfl; rfl; rfl)
  | ((with_reducible apply Ev.o_neg); walk_at "up"; rfl; rfl; rfl))
local macro_rules | `(tactic| walk_at "eq") => `(tactic| ((with_reducible apply Ev.u_ownB); assumption; walk_at "up"; walk_at "up"; (focus (intro k; first | rfl | exact Pl.e_add | exact Pl.e_sub | exact Pl.e_mul | exact Pl.e_rsub | exact Pl.e_rsub2))))
local macro_rules | `(tactic| walk_at "isp") => `(tactic| (apply Ev.u_isB; walk_at "up"; walk_at "up"; rfl; rfl))

/-! the least form of a row, a row's value -/
namespace Ev
open PySem PySem.Spec PyProof.Rows L2 Pl
section
variable {P : Program} {w : World} {K : PySem.W.Frag} {mg : Str → Option Value} {base : Heap}
def spLeast (K : PySem.W.Frag) : Sp := fun vs H Q _ => ∃ (a : Addr) (ns : List Int) (u : Int), vs = [.ref a, .int u] ∧ SqL K H a (ns.map V.int) ∧ 0 < u ∧ Bd 8000 u ∧ ns.length < 100000 ∧
  ∀ p t H' rs u', Same H H' → H' p = some (.tup [.ref t, .int u']) → H' t = some (.tup (rs.map V.int)) → FormOf ns u rs u' → Q (.ref p) H'
theorem at_ints {ns : List Int} {i : Nat} {x : V} (h : (ns.map V.int)[i]? = some x) : x = V.int (at0 ns i) := by
  rw [List.getElem?_map] at h
  cases e : ns[i]? with
  | none => rw [e] at h; cases h
  | some y => rw [e] at h; rw [at0_get e]; exact (Option.some.inj h).symm
end
end Ev

end
/-! == and != of an own class that has __eq__ alone, whatever it answers. -/
namespace PySem.W
open PySem PySem.Calls PyProof.Rows PyProof.V PySem.Spec PySem.Builtin
theorem one_slot : Slot "object" "__ne__" "object.__ne__" := Slot.of (T := "object") (name := "__ne__") (owner := "object") (n := "__ne__") (by rw [typeLookup_type, builtinLookup_eq_fast]; kernel_rfl) (by decide +kernel) (by decide +kernel) (by decide +kernel)
    (.inl (by decide +kernel)) (by rw [isSubtype_type]; kernel_rfl)
theorem one_bind (self : Value) : bindSpecial (.builtin "object.__ne__") self = pure (.builtin "object.__ne__", [self]) := one_slot.bind self
section
variable {prog : Program} {w : World} {A : Around} {E : Value → Shared → Prop} {s : Shared} {K : Frag} {x C L f : Addr} {h₀ : Heap} {m : Str → Option Value} {ox : Obj} {od : Option Obj} {b tb : Value}
theorem one_entry {Q : Fin → Shared → Prop} (hu : A.units < cLine) (X : K.In s.heap) (I : InstAt s.heap x ox C od) (hs : findIn K (.ref C) "__eq__" = some (some (.ref f))) (hf : isFn K (.ref f) = true)
    (h : wpAny (model prog w) A (call (.ref f) [.ref x, b]) (fun v s' => ∃ r, v = .bool r ∧ Q (.done (.ret (.bool (!r)))) s') E s) : wpAny (model prog w) A (Builtin.«object.__ne__» ⟨[.ref x, b], []⟩) Q E s := by
  unfold Builtin.«object.__ne__»
  repeat (first
    | with_reducible refine wpAny_cRoomFor hu ?_
    | (refine wpAny_bind (m := callSpecialIfBound? (.ref x) (Str.ofString "__eq__") [b])
        (ifBound_K X I hs hf (wpAny_mono h (fun r s' hr => by
          obtain ⟨b, rfl, hq⟩ := hr
          repeat (first | exact hq | exact wpAny_pure hq | exact wpAny_truthy_bool hq | (refine wpAny_bind (m := truthy (.bool _)) (wpAny_truthy_bool ?_)) | wp_step)) fun _ _ e => e)))
    | wp_step)
theorem ne_K {Q : Value → Shared → Prop} (hu : A.units + 1 < cLine) (F : Fr h₀ L s.heap m) (X₀ : K.In h₀) (I : InstAt s.heap x ox C od) (hb : Looks (model prog w) s.heap (typeOf b) tb) (hn : notFirst K C tb = true)
    (hne : findIn K (.ref C) "__ne__" = some (some (.builtin "object.__ne__"))) (hm : mroIn K C (.type "object") = some true) (hs : findIn K (.ref C) "__eq__" = some (some (.ref f))) (hf : isFn K (.ref f) = true)
    (h : wpAny (model prog w) A.in1 (call (.ref f) [.ref x, b]) (fun v s' => ∃ r, v = .bool r ∧ Q (.bool (!r)) s') E s) : wpAny (model prog w) A (richCompare .NotEq (.ref x) b) Q E s := by
  have X := X₀.keeps F.keep
  have sub : Looks (model prog w) s.heap (isInstance (.ref x) (.type "object")) true := I.type.andThen (looks_mroIn X hm)
  have one : wpAny (model prog w) A (tryCompare (.ref x) (cmpInfo .NotEq).2.1 b) (fun r s' => ∃ v, r = some v ∧ Q v s') E s := by
    unfold tryCompare
    refine wpAny_bind ?_
    simp only [callSpecialIfBound?, bindSpecialIfBound?]
    refine wpAny_holding (wpAny_bind (wpAny_bind (wpAny_bind (I.type.here ((looks_findIn X hne).here ?_)))))
    have fin : wpAny (model prog w) A (call (.builtin "object.__ne__") ([.ref x] ++ [b]) >>= fun v => pure (some v)) (fun r s' => wpAny (model prog w) A (match r with | some .notImplemented | none => pure none | some v => pure (some v)) (fun r s' => ∃ v, r = some v ∧ Q v s') E s') E s := by
      refine wpAny_bind (wpAny_call (codeAny_call_builtin one_slot.plain PySem.F.cmpEntry_ne (@check_slot (model prog w) _ _ s "object.__ne__" "object" "__ne__" (.ref x) [b] [] _ PySem.F.cmpKind_ne PySem.F.cmpSplit_ne sub (PySem.F.cmpArgs_ne _ _) (one_entry hu X I hs hf (wpAny_mono h (fun v s' z => ?_) fun _ _ e => e)))))
      obtain ⟨r, hr, q⟩ := z
      refine ⟨r, hr, wpAny_pure (wpAny_pure ⟨_, rfl, q⟩)⟩
    refine wpAny_bind (wpAny_askSetting (wpAny_ite ?_))
    split
    · exact wpAny_bind (by rw [one_bind]; exact wpAny_pure (wpAny_pure (by exact fin)))
    · exact wpAny_tryCatch (wpAny_bind (by rw [one_bind]; exact wpAny_pure (wpAny_pure (by exact fin))))
  unfold richCompare
  simp only [oneThing_ref]
  refine wpAny_holding (wpAny_bind (wpAny_cRoomFor (Nat.lt_of_succ_lt hu) ?_))
  refine wpAny_bind (I.type.here (wpAny_bind (hb.here ?_)))
  split
  · rename_i q
    have e : subIn K tb (.ref C) = some false := by
      rcases Bool.or_eq_true_iff.mp hn with e | e
      · rw [beq_iff_eq.mp e] at q; simp at q
      · exact beq_iff_eq.mp e
    refine wpAny_bind ((looks_subIn X e).here ?_)
    simp only [Bool.false_eq_true, if_false]
    refine wpAny_bind (wpAny_mono one (fun r s' z => ?_) fun _ _ e => e)
    obtain ⟨v, rfl, hq⟩ := z
    exact wpAny_pure hq
  · refine wpAny_bind (wpAny_pure ?_)
    simp only [Bool.false_eq_true, if_false]
    refine wpAny_bind (wpAny_mono one (fun r s' z => ?_) fun _ _ e => e)
    obtain ⟨v, rfl, hq⟩ := z
    exact wpAny_pure hq
end
end PySem.W

/-! x == y, x != y where x is of an own class with __eq__ alone; whatever it answers. -/
namespace L2
open PySem PySem.Spec PyProof.Rows
/-- the special method m of the class at C -/
structure OwnF (P : Program) (w : World) (K : PySem.W.Frag) (mg : Str → Option Value) (base : Heap) (C : Addr) (m : Str) (ps : List Str) (k : Nat) (sp : Sp) : Prop where
  ex : ∃ f fd, FnOk P w K mg base (L2.CX P w) k f fd ps sp ∧ PySem.W.findIn K (.ref C) m = some (some (.ref f)) ∧ PySem.W.isFn K (.ref f) = true ∧ Binds K fd ps []
/-- the class has no != of its own -/
structure NoNe (K : PySem.W.Frag) (C : Addr) : Prop where
  ne : PySem.W.findIn K (.ref C) "__ne__" = some (some (.builtin "object.__ne__"))
  ob : PySem.W.mroIn K C (.type "object") = some true
def rOwn (K : PySem.W.Frag) (C : Addr) (sp : Sp) (E : XK) (neg : Bool) : R2 := fun x y H Q => ∃ a dx fs t, x = .ref a ∧ H a = some (.ins C dx fs) ∧ TyX K H y t ∧ PySem.W.notFirst K C t = true ∧ sp [x, y] H (fun v H' => ∃ r, v = .bl r ∧ Q (.bl (if neg then !r else r)) H') E
section
variable {X : Cx} {C f : Addr} {fd : FuncData} {ps : List Str} {n : Nat} {sp : Sp} {E : XK}
/-- a method of two runs below the body -/
theorem run_two {A : Around} {pins : List (Addr × Obj)} {σ : St} {H : Hp} {s : Shared} {Q : VK} {x y : V} {u v : Value} (F : FnOk X.prog X.w X.K X.mg X.base (L2.CX X.prog X.w) n f fd ps sp) (sb : Sub X n A) (hb : Binds X.K fd ps []) (hx : Passes (L2.CX X.prog X.w) X E)
    (I : Inv X pins σ H s) (r1 : RelV x u) (r2 : RelV y v) (h : sp [x, y] H Q E) : wpAny (model X.prog X.w) A (call (.ref f) [u, v]) (EP X pins σ Q) X.xe s := by
  have e0 : Env0 X.prog X.w X.K X.mg X.base A X.stack s H := by
    have e := I.env0
    exact ⟨by rw [sb.fr]; exact e.frames, e.mod, e.bs, e.bsz, e.funs, e.frf, e.hok, e.bare⟩
  have hl := F.len _ _ _ _ h
  have rr : Vals [x, y] [u, v] := .cons r1 (.cons r2 .nil)
  refine wpAny_call (codeAny_mono (F.run A X.stack s H ⟨[u, v], []⟩ [u, v] [x, y] _ E sb.room e0 (by
    have := hb s [u, v] I.kIn (by simpa using hl)
    simpa using this) rr h) fun r s' hq => ?_)
  cases r with
  | error e => exact hx pins σ H s e s' I hq
  | ok fl =>
    cases fl with
    | ret w => exact I.after hq
    | next => exact False.elim hq
    | brk => exact False.elim hq
    | cont => exact False.elim hq
theorem op_ownEq (G : OwnF X.prog X.w X.K X.mg X.base C "__eq__" ps n sp) (hr : Room n X.A) (hx : Passes (L2.CX X.prog X.w) X E) : OpR X (compareOp .Eq) (rOwn X.K C sp E false) := by
  intro pins s σ H x y v u Q I rx ry hq
  obtain ⟨f, fd, F, hs, hf, hb⟩ := G.ex
  obtain ⟨a, dx, fs, t, rfl, ha, ty, hn, q⟩ := hq
  obtain ⟨P, Z, p, _⟩ := kit_of I ry ty
  cases rx
  obtain ⟨mA, J, _⟩ := ins_get I.hok ha
  obtain ⟨od, J, _⟩ := J.look
  obtain ⟨m, hF⟩ := I.fr
  show wpAny (model X.prog X.w) X.A (richCompare .Eq (.ref a) u) (EP X pins σ Q) X.xe s
  refine PySem.W.cmp_K (op := .Eq) (tb := t) hr.units0 hF I.ok.mod.kin J (Z.ty _ _ I.kIn p) hn hs hf ?_
  refine wpAny_mono (run_two F ⟨hr, rfl⟩ hb hx I (x := .ref a) (u := .ref a) rfl ry q) (fun r s' z => ?_) fun _ _ e => e
  obtain ⟨z, H', I', rz, b, rfl, q'⟩ := z
  cases rz
  exact ⟨.bl b, H', I', rfl, q'⟩
theorem op_ownNe (G : OwnF X.prog X.w X.K X.mg X.base C "__eq__" ps n sp) (N : NoNe X.K C) (hr : Room (n + 1) X.A) (hx : Passes (L2.CX X.prog X.w) X E) : OpR X (compareOp .NotEq) (rOwn X.K C sp E true) := by
  intro pins s σ H x y v u Q I rx ry hq
  obtain ⟨f, fd, F, hs, hf, hb⟩ := G.ex
  obtain ⟨a, dx, fs, t, rfl, ha, ty, hn, q⟩ := hq
  obtain ⟨P, Z, p, _⟩ := kit_of I ry ty
  cases rx
  obtain ⟨mA, J, _⟩ := ins_get I.hok ha
  obtain ⟨od, J, _⟩ := J.look
  obtain ⟨m, hF⟩ := I.fr
  show wpAny (model X.prog X.w) X.A (richCompare .NotEq (.ref a) u) (EP X pins σ Q) X.xe s
  have sb : Sub X n X.A.in1 := Sub.in1 ⟨hr, rfl⟩
  refine PySem.W.ne_K (tb := t) (by have := sb.room.units0; exact this) hF I.ok.mod.kin J (Z.ty _ _ I.kIn p) hn N.ne N.ob hs hf ?_
  refine wpAny_mono (run_two F sb hb hx I (x := .ref a) (u := .ref a) rfl ry q) (fun r s' z => ?_) fun _ _ e => e
  obtain ⟨z, H', I', rz, b, rfl, q'⟩ := z
  cases rz
  exact ⟨b, rfl, .bl (!b), H', I', rfl, q'⟩
end
end L2

section
open L2 in
local macro_rules | `(tactic| walk_at "gx") => `(tactic| first
  | ((with_reducible show tVar _ _ _ _); refine g_var rfl ?_)
  | with_reducible refine g_c ?_
  | with_reducible refine g_op ?_
  | with_reducible refine g_cons ?_
  | with_reducible refine g_nil ?_
  | with_reducible refine g_test ?_
  | with_reducible refine g_blp ?_
  | with_reducible refine g_asg ?_
  | (with_reducible refine g_name ?_; (try simp only [List.set_cons_zero, List.set_cons_succ]))
  | with_reducible refine g_call ?_
  | with_reducible refine g_cb ?_
  | with_reducible refine g_I0 ?_
  | with_reducible refine g_U ?_
  | with_reducible refine g_eqI ?_
  | with_reducible refine g_neI ?_
  | with_reducible refine g_if ?_
  | with_reducible refine g_ret ?_
  | with_reducible refine g_retN ?_
  | with_reducible refine g_next ?_
  | with_reducible refine g_drop ?_
  | with_reducible refine g_un ?_
  | with_reducible refine g_tb ?_
  | with_reducible refine g_tup ?_
  | with_reducible refine g_lst ?_
  | with_reducible refine g_and ?_
  | with_reducible refine g_or ?_
  | with_reducible refine g_not ?_
  | with_reducible refine g_andV ?_
  | with_reducible refine g_orV ?_
  | with_reducible refine g_notV ?_
  | with_reducible refine g_ifE ?_
  | with_reducible refine g_fld ?_
  | with_reducible refine g_tt ?_
  | with_reducible refine g_ff ?_
  | with_reducible refine g_ntt ?_
  | with_reducible refine g_nff ?_
  | with_reducible refine g_for ?_
  | with_reducible refine g_list ?_
  | with_reducible refine g_tupI ?_
  | with_reducible refine g_rng1 ?_
  | with_reducible refine g_rng2 ?_
  | with_reducible refine g_enumA ?_
  | with_reducible refine g_rev ?_
  | with_reducible refine g_lc ?_
  | with_reducible refine g_gcons ?_
  | with_reducible refine g_gnil ?_
  | with_reducible refine g_yes ?_
  | with_reducible refine g_sl ?_
  | with_reducible refine g_nopart ?_
  | with_reducible refine g_part ?_
  | with_reducible refine g_int ?_
  | with_reducible refine g_dget ?_
  | with_reducible refine g_dput ?_
  | with_reducible refine g_raiseX ?_
  | with_reducible refine g_tru ?_
  | with_reducible refine g_sub ?_
  | with_reducible refine g_isN ?_
  | with_reducible refine g_notN ?_
  | with_reducible refine g_bm ?_
  | with_reducible refine L2.g_bm0 ?_
  | with_reducible refine g_pair ?_
  | with_reducible refine g_pair0 ?_
  | with_reducible refine u_int1 ?_
  | with_reducible refine g_chain ?_
  | with_reducible refine L2.g_sfld ?_
  | (with_reducible refine g_par3 ?_)
  | (with_reducible refine g_three ?_; (try simp only [List.set_cons_zero, List.set_cons_succ]))
  | ((with_reducible apply L2.g_tupT); walk_at "up"; rfl)
  | (with_reducible refine g_par ?_)
  | (with_reducible refine g_two ?_; (try simp only [List.set_cons_zero, List.set_cons_succ]))
  )
local macro_rules | `(tactic| walk_at "go") => `(tactic| first | walk_at "gx" | with_reducible refine L2.g_seq ?_)
local macro_rules | `(tactic| walk_at "gou") => `(tactic| repeat (walk_at "gx"))
local macro_rules | `(tactic| walk_at "gos") => `(tactic| repeat (walk_at "go"))
local macro_rules | `(tactic| walk_at "sl") => `(tactic| first
  | assumption
  | exact L2.Same.l (by assumption)
  | exact L2.SameD.l (by assumption)
  | exact L2.extN_l (by assumption))
local macro_rules | `(tactic| walk_at "up") => `(tactic| first
  | assumption
  | ((with_reducible apply L2.SameL.lst); walk_at "sl"; walk_at "up")
  | ((with_reducible apply L2.SameL.tupA); walk_at "sl"; walk_at "up")
  | ((with_reducible apply L2.SameL.ins); walk_at "sl"; walk_at "up")
  | ((with_reducible apply Ev.PB.l); walk_at "sl"; walk_at "up")
  | ((with_reducible apply Ev.IsP.l); walk_at "sl"; walk_at "up")
  | ((with_reducible apply L2.sqL); walk_at "up")
  | ((with_reducible apply L2.sqT); walk_at "up")
  | ((with_reducible apply L2.SameL.seq); walk_at "sl"; walk_at "up")
  | ((with_reducible apply Ev.Pen.same); assumption; walk_at "up")
  | ((with_reducible apply Ev.Pen.extN); assumption; walk_at "up")
  | ((with_reducible apply L2.tabs_s); assumption; walk_at "up")
  | ((with_reducible apply L2.tabs_dd); assumption; walk_at "up")
  | ((with_reducible apply Or.inl); walk_at "up")
  | ((with_reducible apply Or.inr); walk_at "up"))
local macro_rules | `(tactic| walk_at "new") => `(tactic| (
  first
    | refine ⟨L2.size_ok (by rfl), fun p hp => ?_⟩
    | refine fun p hp => ?_
  generalize hX : L2.upd _ p _ = H1
  obtain ⟨e, h⟩ := L2.news hp hX
  clear hX))
local macro_rules | `(tactic| walk_at "o") => `(tactic| first
  | ((with_reducible apply Ev.o_add); walk_at "up"; walk_at "up"; rfl; rfl; rfl)
  | ((with_reducible apply Ev.o_sub); walk_at "up"; walk_at "up"; rfl; rfl; rfl)
  | ((with_reducible apply Ev.o_mul); walk_at "up"; walk_at "up"; rfl; rfl; rfl)
  | ((with_reducible apply Ev.o_addI); walk_at "up"; assumption; rfl; rfl; rfl)
  | ((with_reducible apply Ev.o_subI); walk_at "up"; assumption; rfl; rfl; rfl)
  | ((with_reducible apply Ev.o_mulI); walk_at "up"; assumption; rfl; rfl; rfl)
  | ((with_reducible apply Ev.o_radd); walk_at "up"; assumption; rfl; rfl; rfl)
  | ((with_reducible apply Ev.o_rsub); walk_at "up"; assumption; rfl; rfl; rfl)
  | ((with_reducible apply Ev.o_rmul); walk_at "up"; assumption; rfl; rfl; rfl)
  | ((with_reducible apply Ev.o_neg); walk_at "up"; rfl; rfl; rfl))
local macro_rules | `(tactic| walk_at "eq") => `(tactic| ((with_reducible apply Ev.u_ownB); assumption; walk_at "up"; walk_at "up"; (focus (intro k; first | rfl | exact Pl.e_add | exact Pl.e_sub | exact Pl.e_mul | exact Pl.e_rsub | exact Pl.e_rsub2))))
local macro_rules | `(tactic| walk_at "isp") => `(tactic| (apply Ev.u_isB; walk_at "up"; walk_at "up"; rfl; rfl))

/-! Piece(row, under), == -/
namespace Ev
open PySem PySem.Spec PyProof.Rows L2 Pl
/-- the piece at x -/
def IsP (H : Hp) (x C : Addr) (rs : List Int) (u : Int) : Prop := ∃ dx t, H x = some (.ins C dx [("row", .ref t), ("under", .int u)]) ∧ H t = some (.tup (rs.map V.int))
theorem IsP.same {H H' : Hp} {x C : Addr} {rs : List Int} {u : Int} (e : Same H H') : IsP H x C rs u → IsP H' x C rs u := fun ⟨dx, t, h1, h2⟩ => ⟨dx, t, e _ _ h1, e _ _ h2⟩
theorem IsP.sameD {H H' : Hp} {x C : Addr} {rs : List Int} {u : Int} (e : SameD H H') : IsP H x C rs u → IsP H' x C rs u := fun ⟨dx, t, h1, h2⟩ => ⟨dx, t, e.ins h1, e.tupA h2⟩
/-- what the arguments are -/
structure ArgP (K : PySem.W.Frag) (H : Hp) (a : Addr) (un : V) (xs : List V) (kd : Nat → Bool) (ku : Bool) : Prop where
  sq : SqL K H a xs ∨ SqT K H a xs
  kinds : ∀ i x, xs[i]? = some x → Kd K H x (kd i)
  kdu : Kd K H un ku
  nums : (∀ i, i < xs.length → kd i = true) → ∃ ns : List Int, xs = ns.map V.int
  num : ku = true → ∃ u : Int, un = .int u
  len : xs.length < 100000
theorem ArgP.same {K : PySem.W.Frag} {H H' : Hp} {a : Addr} {un : V} {xs : List V} {kd : Nat → Bool} {ku : Bool} (e : Same H H') (h : ArgP K H a un xs kd ku) : ArgP K H' a un xs kd ku :=
  ⟨h.sq.elim (fun q => .inl (e.seq q)) (fun q => .inr (e.tup q)), fun i x hx => (h.kinds i x hx).same e, h.kdu.same e, h.nums, h.num, h.len⟩
/-- what is raised -/
structure ExcP (CR CU : Addr) (H : Hp) (un : V) (n : Nat) (kd : Nat → Bool) (ku : Bool) (E : XK) : Prop where
  row : ∀ i, i < n → kd i = false → (∀ j, j < i → kd j = true) → ∀ H', Exc1 H H' CR "index" (.int (i : Nat)) E
  under : (∀ i, i < n → kd i = true) → (ku = false ∨ ∃ u : Int, un = .int u ∧ u < 1) → ∀ H', Exc1 H H' CU "under" un E
def spPiece (K : PySem.W.Frag) (C CR CU : Addr) : Sp := fun vs H Q E => ∃ (a : Addr) (un : V) (xs : List V) (kd : Nat → Bool) (ku : Bool), vs = [.ref a, un] ∧ ArgP K H a un xs kd ku ∧ ExcP CR CU H un xs.length kd ku E ∧
  ∀ (ns : List Int) (u : Int), (∀ i, i < xs.length → kd i = true) → xs = ns.map V.int → un = .int u → 1 ≤ u → Bd 8000 u ∧ ∀ x H' rs u', H x = none → Same H H' → IsP H' x C rs u' → FormOf ns u rs u' → Q (.ref x) H'
def spPieceInit (K : PySem.W.Frag) (C CR CU : Addr) : Sp := fun vs H Q E => ∃ (x dx a : Addr) (un : V) (xs : List V) (kd : Nat → Bool) (ku : Bool), vs = [.ref x, .ref a, un] ∧ H x = some (.ins C dx []) ∧ ArgP K H a un xs kd ku ∧ ExcP CR CU H un xs.length kd ku E ∧
  ∀ (ns : List Int) (u : Int), (∀ i, i < xs.length → kd i = true) → xs = ns.map V.int → un = .int u → 1 ≤ u → Bd 8000 u ∧ ∀ H' rs u', (∀ b o, b ≠ x → H b = some o → H' b = some o) → IsP H' x C rs u' → FormOf ns u rs u' → Q .non H'
section
variable {P : Program} {w : World} {K : PySem.W.Frag} {mg : Str → Option Value} {base : Heap}
/-- Piece(..) by its promise -/
theorem make_Piece {C CR CU : Addr} {f : Addr} {fd : FuncData} (Fn : FnOk P w K mg base (L2.CX P w) 5 f fd ["self", "row", "under"] (spPieceInit K C CR CU)) (M : Mk K C f) (hC : mg "Piece" = some (.ref C)) (hb : Binds K fd ["self", "row", "under"] []) :
    MakeF P w K mg base "Piece" C 5 (spPiece K C CR CU) := by
  refine ⟨f, fd, _, _, [], [], Fn, M, hC, hb, .nil, fun vs H Q E h => ?_⟩
  obtain ⟨a, un, xs, kd, ku, rfl, ha, he, q⟩ := h
  intro x dx hx hdx hne
  have es : Same H (upd (upd H dx (.own x)) x (.ins C dx [])) := (same_new hdx).trans (same_new (by rw [upd_ne (Ne.symm hne)]; exact hx))
  refine ⟨x, dx, a, un, xs, kd, ku, rfl, upd_same, ha.same es, ⟨fun i h1 h2 h3 H' e' d hd => he.row i h1 h2 h3 H' (es.trans e') d hd, fun h1 h2 H' e' d hd => he.under h1 h2 H' (es.trans e') d hd⟩, fun ns u h1 h2 h3 h4 => ?_⟩
  obtain ⟨q1, q2⟩ := q ns u h1 h2 h3 h4
  refine ⟨q1, fun H' rs u' hk hp hf => ⟨rfl, q2 x H' rs u' hx (fun b o hb => ?_) hp hf⟩⟩
  exact hk b o (ne_of_none hb hx) (es b o hb)
theorem make_Piece1 {C CR CU : Addr} {f : Addr} {fd : FuncData} (Fn : FnOk P w K mg base (L2.CX P w) 5 f fd ["self", "row", "under"] (spPieceInit K C CR CU)) (M : Mk K C f) (hC : mg "Piece" = some (.ref C)) {ds : List Value} (hb : Binds K fd ["self", "row", "under"] ds) (hd : Vals [.int 1] ds) :
    MakeF P w K mg base "Piece" C 5 (fun vs H Q E => ∃ a : Addr, vs = [.ref a] ∧ spPiece K C CR CU [.ref a, .int 1] H Q E) := by
  refine ⟨f, fd, _, _, [.int 1], ds, Fn, M, hC, hb, hd, fun vs H Q E h => ?_⟩
  obtain ⟨a0, rfl, a, un, xs, kd, ku, e0, ha, he, q⟩ := h
  obtain ⟨rfl, rfl⟩ : a0 = a ∧ V.int 1 = un := by cases e0; exact ⟨rfl, rfl⟩
  intro x dx hx hdx hne
  have es : Same H (upd (upd H dx (.own x)) x (.ins C dx [])) := (same_new hdx).trans (same_new (by rw [upd_ne (Ne.symm hne)]; exact hx))
  refine ⟨x, dx, a0, _, xs, kd, ku, rfl, upd_same, ha.same es, ⟨fun i h1 h2 h3 H' e' d hd => he.row i h1 h2 h3 H' (es.trans e') d hd, fun h1 h2 H' e' d hd => he.under h1 h2 H' (es.trans e') d hd⟩, fun ns u h1 h2 h3 h4 => ?_⟩
  obtain ⟨q1, q2⟩ := q ns u h1 h2 h3 h4
  refine ⟨q1, fun H' rs u' hk hp hf => ⟨rfl, q2 x H' rs u' hx (fun b o hb => ?_) hp hf⟩⟩
  exact hk b o (ne_of_none hb hx) (es b o hb)
/-! == -/
theorem isP_ty {H : Hp} {x C : Addr} {rs : List Int} {u : Int} (h : IsP H x C rs u) (cl : Cls K C) (ha : PySem.W.findIn K (.ref C) "__class__" = some (some (.builtin "object.__class__")))
    (hn : PySem.W.specialIn K (.builtin "object.__class__") "__get__" = some (some (.builtin "getset_descriptor.__get__"))) (htk : PySem.W.takesIn K (.builtin "object.__class__") = some true)
    (hm : PySem.W.mroIn K C (.type "object") = some true) : TyX K H (.ref x) (.ref C) := let ⟨_, _, h1, _⟩ := h; .base (.ins h1 cl ha hn htk hm)
/-- the other is a piece, or a value whose type is not Piece -/
def spEqP (K : PySem.W.Frag) (C : Addr) : Sp := fun vs H Q _ => ∃ (x : Addr) (y : V) (rs : List Int) (u : Int), vs = [.ref x, y] ∧ IsP H x C rs u ∧
  ((∃ (z : Addr) (rs' : List Int) (u' : Int), y = .ref z ∧ IsP H z C rs' u' ∧ Q (.bl (decide (rs = rs') && decide (u = u'))) H) ∨ (∃ t, TyX K H y t ∧ PySem.W.kitOne K t (.ref C) = some false ∧ Q (.bl false) H))
end
end Ev

end
section
open L2 in
local macro_rules | `(tactic| walk_at "gx") => `(tactic| first
  | ((with_reducible show tVar _ _ _ _); refine g_var rfl ?_)
  | with_reducible refine g_c ?_
  | with_reducible refine g_op ?_
  | with_reducible refine g_cons ?_
  | with_reducible refine g_nil ?_
  | with_reducible refine g_test ?_
  | with_reducible refine g_blp ?_
  | with_reducible refine g_asg ?_
  | (with_reducible refine g_name ?_; (try simp only [List.set_cons_zero, List.set_cons_succ]))
  | with_reducible refine g_call ?_
  | with_reducible refine g_cb ?_
  | with_reducible refine g_I0 ?_
  | with_reducible refine g_U ?_
  | with_reducible refine g_eqI ?_
  | with_reducible refine g_neI ?_
  | with_reducible refine g_if ?_
  | with_reducible refine g_ret ?_
  | with_reducible refine g_retN ?_
  | with_reducible refine g_next ?_
  | with_reducible refine g_drop ?_
  | with_reducible refine g_un ?_
  | with_reducible refine g_tb ?_
  | with_reducible refine g_tup ?_
  | with_reducible refine g_lst ?_
  | with_reducible refine g_and ?_
  | with_reducible refine g_or ?_
  | with_reducible refine g_not ?_
  | with_reducible refine g_andV ?_
  | with_reducible refine g_orV ?_
  | with_reducible refine g_notV ?_
  | with_reducible refine g_ifE ?_
  | with_reducible refine g_fld ?_
  | with_reducible refine g_tt ?_
  | with_reducible refine g_ff ?_
  | with_reducible refine g_ntt ?_
  | with_reducible refine g_nff ?_
  | with_reducible refine g_for ?_
  | with_reducible refine g_list ?_
  | with_reducible refine g_tupI ?_
  | with_reducible refine g_rng1 ?_
  | with_reducible refine g_rng2 ?_
  | with_reducible refine g_enumA ?_
  | with_reducible refine g_rev ?_
  | with_reducible refine g_lc ?_
  | with_reducible refine g_gcons ?_
  | with_reducible refine g_gnil ?_
  | with_reducible refine g_yes ?_
  | with_reducible refine g_sl ?_
  | with_reducible refine g_nopart ?_
  | with_reducible refine g_part ?_
  | with_reducible refine g_int ?_
  | with_reducible refine g_dget ?_
  | with_reducible refine g_dput ?_
  | with_reducible refine g_raiseX ?_
  | with_reducible refine g_tru ?_
  | with_reducible refine g_sub ?_
  | with_reducible refine g_isN ?_
  | with_reducible refine g_notN ?_
  | with_reducible refine g_bm ?_
  | with_reducible refine L2.g_bm0 ?_
  | with_reducible refine g_pair ?_
  | with_reducible refine g_pair0 ?_
  | with_reducible refine u_int1 ?_
  | with_reducible refine g_chain ?_
  | with_reducible refine L2.g_sfld ?_
  | (with_reducible refine g_par3 ?_)
  | (with_reducible refine g_three ?_; (try simp only [List.set_cons_zero, List.set_cons_succ]))
  | ((with_reducible apply L2.g_tupT); walk_at "up"; rfl)
  | (with_reducible refine g_par ?_)
  | (with_reducible refine g_two ?_; (try simp only [List.set_cons_zero, List.set_cons_succ]))
  )
local macro_rules | `(tactic| walk_at "go") => `(tactic| first | walk_at "gx" | with_reducible refine L2.g_seq ?_)
local macro_rules | `(tactic| walk_at "gou") => `(tactic| repeat (walk_at "gx"))
local macro_rules | `(tactic| walk_at "gos") => `(tactic| repeat (walk_at "go"))
local macro_rules | `(tactic| walk_at "sl") => `(tactic| first
  | assumption
  | exact L2.Same.l (by assumption)
  | exact L2.SameD.l (by assumption)
  | exact L2.extN_l (by assumption))
local macro_rules | `(tactic| walk_at "up") => `(tactic| first
  | assumption
  | ((with_reducible apply L2.SameL.lst); walk_at "sl"; walk_at "up")
  | ((with_reducible apply L2.SameL.tupA); walk_at "sl"; walk_at "up")
  | ((with_reducible apply L2.SameL.ins); walk_at "sl"; walk_at "up")
  | ((with_reducible apply Ev.PB.l); walk_at "sl"; walk_at "up")
  | ((with_reducible apply Ev.IsP.l); walk_at "sl"; walk_at "up")
  | ((with_reducible apply L2.sqL); walk_at "up")
  | ((with_reducible apply L2.sqT); walk_at "up")
  | ((with_reducible apply L2.SameL.seq); walk_at "sl"; walk_at "up")
  | ((with_reducible apply Ev.Pen.same); assumption; walk_at "up")
  | ((with_reducible apply Ev.Pen.extN); assumption; walk_at "up")
  | ((with_reducible apply L2.tabs_s); assumption; walk_at "up")
  | ((with_reducible apply L2.tabs_dd); assumption; walk_at "up")
  | ((with_reducible apply Or.inl); walk_at "up")
  | ((with_reducible apply Or.inr); walk_at "up"))
local macro_rules | `(tactic| walk_at "new") => `(tactic| (
  first
    | refine ⟨L2.size_ok (by rfl), fun p hp => ?_⟩
    | refine fun p hp => ?_
  generalize hX : L2.upd _ p _ = H1
  obtain ⟨e, h⟩ := L2.news hp hX
  clear hX))
local macro_rules | `(tactic| walk_at "o") => `(tactic| first
  | ((with_reducible apply Ev.o_add); walk_at "up"; walk_at "up"; rfl; rfl; rfl)
  | ((with_reducible apply Ev.o_sub); walk_at "up"; walk_at "up"; rfl; rfl; rfl)
  | ((with_reducible apply Ev.o_mul); walk_at "up"; walk_at "up"; rfl; rfl; rfl)
  | ((with_reducible apply Ev.o_addI); walk_at "up"; assumption; rfl; rfl; rfl)
  | ((with_reducible apply Ev.o_subI); walk_at "up"; assumption; rfl; rfl; rfl)
  | ((with_reducible apply Ev.o_mulI); walk_at "up"; assumption; rfl; rfl; rfl)
  | ((with_reducible apply Ev.o_radd); walk_at "up"; assumption; rfl; rfl; rfl)
  | ((with_reducible apply Ev.o_rsub); walk_at "up"; assumption; rfl; rfl; rfl)
  | ((with_reducible apply Ev.o_rmul); walk_at "up"; assumption; rfl; rfl; rfl)
  | ((with_reducible apply Ev.o_neg); walk_at "up"; rfl; rfl; rfl))
local macro_rules | `(tactic| walk_at "eq") => `(tactic| ((with_reducible apply Ev.u_ownB); assumption; walk_at "up"; walk_at "up"; (focus (intro k; first | rfl | exact Pl.e_add | exact Pl.e_sub | exact Pl.e_mul | exact Pl.e_rsub | exact Pl.e_rsub2))))
local macro_rules | `(tactic| walk_at "isp") => `(tactic| (apply Ev.u_isB; walk_at "up"; walk_at "up"; rfl; rfl))

/-! Picks, entries, fractions; what a piece must be. -/
namespace Ev
open PySem PySem.Spec PyProof.Rows L2 Pl
section
variable {P : Program} {w : World} {K : PySem.W.Frag} {mg : Str → Option Value} {base : Heap}
def spPick (K : PySem.W.Frag) : Sp := fun vs H Q _ => ∃ (p c a : Addr) (xs : List V) (n : Nat), vs = [.ref p, .ref a] ∧ Pen H p c n ∧ n < 2 ^ 40 ∧ SqL K H a xs ∧ xs ≠ [] ∧ xs.length < 100000 ∧ ∀ (i : Nat) v H', xs[i]? = some v → SameD H H' → Pen H' p c (n + 1) → Q v H'
theorem sc__law_pick : FnScope ["pen", "some"] ["pen", "some"] (defScope (topS 26)) := ⟨rfl, rfl, rfl, by decide +kernel, rfl, by decide +kernel, by decide +kernel⟩
theorem ok__law_pick (B : Bn mg) (G__law_draw : CallF P w K mg base "_law_draw" ["pen", "many"] 2 spDraw) {f : Addr} {fd : FuncData} (F : Fun K "_law_pick" "_law_pick" (topS 26) f fd) : FnOk P w K mg base (L2.CX P w) 3 f fd ["pen", "some"] (spPick K) := by
  have nd := sc__law_pick.nd
  refine F.okX sc__law_pick (fun vs H Q E h => ?_) (fun cdv A outer s H vs Q E hr h => ?_)
  · obtain ⟨p, c, a, xs, n, rfl, _⟩ := h
    rfl
  · refine ⟨_, (pss_one (ps_ret (pe_ix (ix_listK (K := K) rfl) (pv 1) (pe_callF G__law_draw (hr.mono (by decide)) rfl passL (pa_cons (pv 0) (pa_cons (pe_callB (call_lnK (K := K) rfl) (by rfl) B.len_ (by decide +kernel) (pa_cons (pv 1) pa_nil)) pa_nil))) (fun _ _ => rfl)))), ?_⟩
    obtain ⟨p, c, a, xs, n, rfl, hp, hn, hx, hne, hl, q⟩ := h
    refine g_st (σ' := [some (.ref p), some (.ref a)]) rfl ?_
    walk_at "gos"
    refine u_lenL hx ?_
    walk_at "gos"
    have hl0 : 0 < xs.length := List.length_pos_iff.mpr hne
    refine ⟨p, c, xs.length, n, rfl, hp, hn, by omega, by omega, fun r H' h0 h1 e hp' => ?_⟩
    obtain ⟨j, rfl⟩ := Int.eq_ofNat_of_zero_le h0
    have hj : j < xs.length := by omega
    refine u_ixL (e.seq hx) (atI_nat (v := xs[j]) (List.getElem?_eq_getElem hj)) ?_
    exact q j _ H' (List.getElem?_eq_getElem hj) e hp'
def spEntry : Sp := fun vs H Q _ => ∃ (p c : Addr) (n : Nat), vs = [.ref p] ∧ Pen H p c n ∧ n + 10 < 2 ^ 40 ∧ ∀ i H', Bd 210 i → SameD H H' → Pen H' p c (n + 3) → Q (.int i) H'
def spFraction : Sp := fun vs H Q _ => ∃ (p c : Addr) (most : Int) (n : Nat), vs = [.ref p, .int most] ∧ Pen H p c n ∧ n + 1000 < 2 ^ 40 ∧ 0 ≤ most ∧ most < 40 ∧
  ∀ t a (ns : List Int) (u : Int) H', SameD H H' → Pen H' p c (n + 200) → H' t = some (.tup [.ref a, .int u]) → H' a = some (.lst (ns.map V.int)) → (ns.length : Int) ≤ most + 1 → (∀ x, x ∈ ns → Bd 210 x) → 1 ≤ u → Bd 100 u → Q (.ref t) H'
/-- what a piece must be, as the law asks it -/
def spIsPiece (K : PySem.W.Frag) (C : Addr) : Sp := fun vs H Q _ => ∃ (x a : Addr) (rs ns : List Int) (u v : Int), vs = [.ref x, .ref a, .int v] ∧ IsP H x C rs u ∧ SqL K H a (ns.map V.int) ∧ FormOf ns v rs u ∧ Bd 8000 v ∧ (∀ k, Bd 8000 (at0 ns k)) ∧ ns.length < 100000 ∧ ∀ H', Same H H' → Q (.bl true) H'
end
end Ev

end
section
open L2 in
local macro_rules | `(tactic| walk_at "gx") => `(tactic| first
  | ((with_reducible show tVar _ _ _ _); refine g_var rfl ?_)
  | with_reducible refine g_c ?_
  | with_reducible refine g_op ?_
  | with_reducible refine g_cons ?_
  | with_reducible refine g_nil ?_
  | with_reducible refine g_test ?_
  | with_reducible refine g_blp ?_
  | with_reducible refine g_asg ?_
  | (with_reducible refine g_name ?_; (try simp only [List.set_cons_zero, List.set_cons_succ]))
  | with_reducible refine g_call ?_
  | with_reducible refine g_cb ?_
  | with_reducible refine g_I0 ?_
  | with_reducible refine g_U ?_
  | with_reducible refine g_eqI ?_
  | with_reducible refine g_neI ?_
  | with_reducible refine g_if ?_
  | with_reducible refine g_ret ?_
  | with_reducible refine g_retN ?_
  | with_reducible refine g_next ?_
  | with_reducible refine g_drop ?_
  | with_reducible refine g_un ?_
  | with_reducible refine g_tb ?_
  | with_reducible refine g_tup ?_
  | with_reducible refine g_lst ?_
  | with_reducible refine g_and ?_
  | with_reducible refine g_or ?_
  | with_reducible refine g_not ?_
  | with_reducible refine g_andV ?_
  | with_reducible refine g_orV ?_
  | with_reducible refine g_notV ?_
  | with_reducible refine g_ifE ?_
  | with_reducible refine g_fld ?_
  | with_reducible refine g_tt ?_
  | with_reducible refine g_ff ?_
  | with_reducible refine g_ntt ?_
  | with_reducible refine g_nff ?_
  | with_reducible refine g_for ?_
  | with_reducible refine g_list ?_
  | with_reducible refine g_tupI ?_
  | with_reducible refine g_rng1 ?_
  | with_reducible refine g_rng2 ?_
  | with_reducible refine g_enumA ?_
  | with_reducible refine g_rev ?_
  | with_reducible refine g_lc ?_
  | with_reducible refine g_gcons ?_
  | with_reducible refine g_gnil ?_
  | with_reducible refine g_yes ?_
  | with_reducible refine g_sl ?_
  | with_reducible refine g_nopart ?_
  | with_reducible refine g_part ?_
  | with_reducible refine g_int ?_
  | with_reducible refine g_dget ?_
  | with_reducible refine g_dput ?_
  | with_reducible refine g_raiseX ?_
  | with_reducible refine g_tru ?_
  | with_reducible refine g_sub ?_
  | with_reducible refine g_isN ?_
  | with_reducible refine g_notN ?_
  | with_reducible refine g_bm ?_
  | with_reducible refine L2.g_bm0 ?_
  | with_reducible refine g_pair ?_
  | with_reducible refine g_pair0 ?_
  | with_reducible refine u_int1 ?_
  | with_reducible refine g_chain ?_
  | with_reducible refine L2.g_sfld ?_
  | (with_reducible refine g_par3 ?_)
  | (with_reducible refine g_three ?_; (try simp only [List.set_cons_zero, List.set_cons_succ]))
  | ((with_reducible apply L2.g_tupT); walk_at "up"; rfl)
  | (with_reducible refine g_par ?_)
  | (with_reducible refine g_two ?_; (try simp only [List.set_cons_zero, List.set_cons_succ]))
  )
local macro_rules | `(tactic| walk_at "go") => `(tactic| first | walk_at "gx" | with_reducible refine L2.g_seq ?_)
local macro_rules | `(tactic| walk_at "gou") => `(tactic| repeat (walk_at "gx"))
local macro_rules | `(tactic| walk_at "gos") => `(tactic| repeat (walk_at "go"))
local macro_rules | `(tactic| walk_at "sl") => `(tactic| first
  | assumption
  | exact L2.Same.l (by assumption)
  | exact L2.SameD.l (by assumption)
  | exact L2.extN_l (by assumption))
local macro_rules | `(tactic| walk_at "up") => `(tactic| first
  | assumption
  | ((with_reducible apply L2.SameL.lst); walk_at "sl"; walk_at "up")
  | ((with_reducible apply L2.SameL.tupA); walk_at "sl"; walk_at "up")
  | ((with_reducible apply L2.SameL.ins); walk_at "sl"; walk_at "up")
  | ((with_reducible apply Ev.PB.l); walk_at "sl"; walk_at "up")
  | ((with_reducible apply Ev.IsP.l); walk_at "sl"; walk_at "up")
  | ((with_reducible apply L2.sqL); walk_at "up")
  | ((with_reducible apply L2.sqT); walk_at "up")
  | ((with_reducible apply L2.SameL.seq); walk_at "sl"; walk_at "up")
  | ((with_reducible apply Ev.Pen.same); assumption; walk_at "up")
  | ((with_reducible apply Ev.Pen.extN); assumption; walk_at "up")
  | ((with_reducible apply L2.tabs_s); assumption; walk_at "up")
  | ((with_reducible apply L2.tabs_dd); assumption; walk_at "up")
  | ((with_reducible apply Or.inl); walk_at "up")
  | ((with_reducible apply Or.inr); walk_at "up"))
local macro_rules | `(tactic| walk_at "new") => `(tactic| (
  first
    | refine ⟨L2.size_ok (by rfl), fun p hp => ?_⟩
    | refine fun p hp => ?_
  generalize hX : L2.upd _ p _ = H1
  obtain ⟨e, h⟩ := L2.news hp hX
  clear hX))
local macro_rules | `(tactic| walk_at "o") => `(tactic| first
  | ((with_reducible apply Ev.o_add); walk_at "up"; walk_at "up"; rfl; rfl; rfl)
  | ((with_reducible apply Ev.o_sub); walk_at "up"; walk_at "up"; rfl; rfl; rfl)
  | ((with_reducible apply Ev.o_mul); walk_at "up"; walk_at "up"; rfl; rfl; rfl)
  | ((with_reducible apply Ev.o_addI); walk_at "up"; assumption; rfl; rfl; rfl)
  | ((with_reducible apply Ev.o_subI); walk_at "up"; assumption; rfl; rfl; rfl)
  | ((with_reducible apply Ev.o_mulI); walk_at "up"; assumption; rfl; rfl; rfl)
  | ((with_reducible apply Ev.o_radd); walk_at "up"; assumption; rfl; rfl; rfl)
  | ((with_reducible apply Ev.o_rsub); walk_at "up"; assumption; rfl; rfl; rfl)
  | ((with_reducible apply Ev.o_rmul); walk_at "up"; assumption; rfl; rfl; rfl)
  | ((with_reducible apply Ev.o_neg); walk_at "up"; rfl; rfl; rfl))
local macro_rules | `(tactic| walk_at "eq") => `(tactic| ((with_reducible apply Ev.u_ownB); assumption; walk_at "up"; walk_at "up"; (focus (intro k; first | rfl | exact Pl.e_add | exact Pl.e_sub | exact Pl.e_mul | exact Pl.e_rsub | exact Pl.e_rsub2))))
local macro_rules | `(tactic| walk_at "isp") => `(tactic| (apply Ev.u_isB; walk_at "up"; walk_at "up"; rfl; rfl))

/-! Sets by their truths. -/
namespace Ev
open PySem PySem.Spec PyProof.Rows L2 Wp
/-- x is the set of the truths f -/
def WF (K : PySem.W.Frag) (H : Hp) (x C : Addr) (f : Nat → Bool) : Prop := ∃ bl rl, IsW K H x C bl rl ∧ Nm bl rl ∧ ∀ n, mem bl rl n = f n
theorem WF.l {K : PySem.W.Frag} {H H' : Hp} {x C : Addr} {f : Nat → Bool} (e : SameL H H') : WF K H x C f → WF K H' x C f := fun ⟨bl, rl, h1, h2⟩ => ⟨bl, rl, h1.l e, h2⟩
section
variable {K : PySem.W.Frag} {H : Hp} {x y C CT CF CL a b : Addr} {f g : Nat → Bool} {Q : VK} {E : XK}
theorem WF.ins (h : WF K H x C f) : ∃ dx fs, H x = some (.ins C dx fs) := let ⟨_, _, ⟨dx, _, _, h1, _⟩, _⟩ := h; ⟨dx, _, h1⟩
theorem kdB_bools {B : List Bool} : ∀ (i : Nat) (x : V), (B.map V.bl)[i]? = some x → KdB K H x true := fun i x h => by
  rw [List.getElem?_map] at h
  obtain ⟨y, _, rfl⟩ := Option.map_eq_some_iff.mp h
  exact KdB.bl
theorem wArg_bools {B R : List Bool} (ha : SqA K H a (B.map V.bl)) (hb : SqA K H b (R.map V.bl)) (hl : B.length ≤ 100000) (hl2 : R.length ≤ 100000) : WArg K H a b (B.map V.bl) (R.map V.bl) (fun _ => true) (fun _ => true) :=
  ⟨ha, hb, kdB_bools, kdB_bools, fun _ => ⟨B, rfl⟩, fun _ => ⟨R, rfl⟩, by rw [List.length_map]; exact hl, by rw [List.length_map]; exact hl2⟩
/-- Where(a, b) of truths, within the bounds -/
theorem u_where {B R : List Bool} (ha : SqA K H a (B.map V.bl)) (hb : SqA K H b (R.map V.bl)) (hR : 0 < R.length) (hB : B.length ≤ 10000) (hR2 : R.length ≤ 720)
    (q : ∀ x H', H x = none → Same H H' → WF K H' x C (mem B R) → Q (.ref x) H') : spWhere K C CT CF CL [.ref a, .ref b] H Q E := by
  refine ⟨a, b, _, _, _, _, rfl, wArg_bools ha hb (by omega) (by omega), ⟨fun _ _ h _ => (nomatch h), fun _ _ _ h _ => (nomatch h), fun _ h => ?_, fun B' R' bl rl e1 e2 h1 h2 h3 h4 => ?_, fun B' R' bl rl e1 e2 h1 h2 h3 h4 h5 => ?_⟩, fun B' R' bl rl e1 e2 h1 h2 h3 h4 h5 x H' hx e hw => ?_⟩
  · rw [List.map_eq_nil_iff] at h; rw [h] at hR; exact absurd hR (Nat.lt_irrefl 0)
  · have := bools_inj e1; have := bools_inj e2; subst B' R'
    have := nm_len h1 h2 h3; omega
  · have := bools_inj e1; have := bools_inj e2; subst B' R'
    have := nm_len h1 h2 h3; omega
  · have := bools_inj e1; have := bools_inj e2; subst B' R'
    exact q x H' hx e ⟨bl, rl, hw, h2, h3⟩
/-- .. beyond the bounds -/
theorem u_whereX {B R bl rl : List Bool} (ha : SqA K H a (B.map V.bl)) (hb : SqA K H b (R.map V.bl)) (hR : 0 < R.length) (hB : B.length ≤ 100000) (hR2 : R.length ≤ 100000) (hn : Nm bl rl) (hm : ∀ n, mem bl rl n = mem B R n)
    (q1 : 720 < rl.length → ∀ H' d, Same H H' → H' d = some (.xd [("most", .int 720)]) → E (.ref CF) (some d) H')
    (q2 : rl.length ≤ 720 → 10000 < bl.length → ∀ H' d, Same H H' → H' d = some (.xd [("most", .int 10000)]) → E (.ref CL) (some d) H')
    (q : rl.length ≤ 720 → bl.length ≤ 10000 → ∀ x H', H x = none → Same H H' → IsW K H' x C bl rl → Q (.ref x) H') : spWhere K C CT CF CL [.ref a, .ref b] H Q E := by
  refine ⟨a, b, _, _, _, _, rfl, wArg_bools ha hb hB hR2, ⟨fun _ _ h _ => (nomatch h), fun _ _ _ h _ => (nomatch h), fun _ h => ?_, fun B' R' bl' rl' e1 e2 h1 h2 h3 h4 => ?_, fun B' R' bl' rl' e1 e2 h1 h2 h3 h4 h5 => ?_⟩, fun B' R' bl' rl' e1 e2 h1 h2 h3 h4 h5 x H' hx e hw => ?_⟩
  · rw [List.map_eq_nil_iff] at h; rw [h] at hR; exact absurd hR (Nat.lt_irrefl 0)
  · have := bools_inj e1; have := bools_inj e2; subst B' R'
    obtain ⟨rfl, rfl⟩ := hn.uniq h2 fun n => by rw [hm, h3]
    exact q1 h4
  · have := bools_inj e1; have := bools_inj e2; subst B' R'
    obtain ⟨rfl, rfl⟩ := hn.uniq h2 fun n => by rw [hm, h3]
    exact q2 h4 h5
  · have := bools_inj e1; have := bools_inj e2; subst B' R'
    obtain ⟨rfl, rfl⟩ := hn.uniq h2 fun n => by rw [hm, h3]
    exact q h4 h5 x H' hx e hw
/-- x == y, x != y -/
theorem WF.uniq {bl rl bl' rl' : List Bool} (h1 : Nm bl rl) (h1' : Nm bl' rl') (e : ∀ n, mem bl rl n = f n) (e' : ∀ n, mem bl' rl' n = g n) : ((decide (bl = bl') && decide (rl = rl')) = true ↔ ∀ n, f n = g n) := by
  constructor
  · intro h n
    rw [Bool.and_eq_true] at h
    rw [← e, ← e', of_decide_eq_true h.1, of_decide_eq_true h.2]
  · intro h
    obtain ⟨rfl, rfl⟩ := h1.uniq h1' fun n => by rw [e, e', h]
    simp
theorem u_ownW {neg : Bool} {r : Bool} (hy : ∀ H x bl rl, IsW K H x C bl rl → TyX K H (.ref x) (.ref C)) (h : WF K H x C f) (h' : WF K H y C g) (hr : r = true ↔ ∀ n, f n = g n) (q : Q (.bl (if neg then !r else r)) H) : rOwn K C (spEqW K C) E neg (.ref x) (.ref y) H Q := by
  obtain ⟨bl, rl, hw, hn, hm⟩ := h
  obtain ⟨bl', rl', hw', hn', hm'⟩ := h'
  obtain ⟨dx, t1, t2, h1, h2⟩ := id hw
  refine ⟨x, dx, _, .ref C, rfl, h1, hy _ _ _ _ hw', by unfold PySem.W.notFirst; simp, x, .ref y, bl, rl, rfl, hw, .inl ⟨y, bl', rl', rfl, hw', _, rfl, ?_⟩⟩
  have e : (decide (bl = bl') && decide (rl = rl')) = r := by
    have := WF.uniq hn hn' hm hm'
    rw [← hr] at this
    cases r with
    | true => exact this.mpr rfl
    | false => cases h : (decide (bl = bl') && decide (rl = rl')) with
      | true => exact absurd (this.mp h) (by decide)
      | false => rfl
  rw [e]
  exact q
theorem u_ownWe {neg : Bool} (hy : ∀ H x bl rl, IsW K H x C bl rl → TyX K H (.ref x) (.ref C)) (h : WF K H x C f) (h' : WF K H y C g) (e : ∀ n, f n = g n) (q : Q (.bl (!neg)) H) : rOwn K C (spEqW K C) E neg (.ref x) (.ref y) H Q :=
  u_ownW (r := true) hy h h' ⟨fun _ => e, fun _ => rfl⟩ (by cases neg <;> exact q)
theorem u_ownWn {neg : Bool} (hy : ∀ H x bl rl, IsW K H x C bl rl → TyX K H (.ref x) (.ref C)) (h : WF K H x C f) (h' : WF K H y C g) {n : Nat} (e : f n ≠ g n) (q : Q (.bl neg) H) : rOwn K C (spEqW K C) E neg (.ref x) (.ref y) H Q :=
  u_ownW (r := false) hy h h' ⟨fun z => (nomatch z), fun z => absurd (z n) e⟩ (by cases neg <;> exact q)
theorem u_ownWo {neg : Bool} {v : V} {t : Value} (hk : PySem.W.kitOne K t (.ref C) = some false) (hn : PySem.W.notFirst K C t = true) (h : WF K H x C f) (h' : TyX K H v t) (q : Q (.bl neg) H) : rOwn K C (spEqW K C) E neg (.ref x) v H Q := by
  obtain ⟨bl, rl, hw, _⟩ := h
  obtain ⟨dx, t1, t2, h1, h2⟩ := id hw
  refine ⟨x, dx, _, t, rfl, h1, h', hn, x, v, bl, rl, rfl, hw, .inr ⟨t, h', hk, false, rfl, ?_⟩⟩
  cases neg <;> exact q
/-- (i, j) != (k, l) -/
theorem u_neII {i j k l : Int} (h : SqT K H a [.int i, .int j]) (h' : SqT K H b [.int k, .int l]) (q : Q (.bl (!(decide (i = k) && decide (j = l)))) H) : rNeD K (.ref a) (.ref b) H Q :=
  ⟨_, _, .tup h (.cons (.int i) (.cons (.int j) .nil)), .tup h' (.cons (.int k) (.cons (.int l) .nil)), by simp [SeqAt.shaped, PyData.canLay0, PyData.canLayAll0, PyData.depth, PyData.depthAll], by simp [SeqAt.shaped, PyData.canLay0, PyData.canLayAll0, PyData.depth, PyData.depthAll], by
    have e : PyData.eqv (.tuple [.int i, .int j]) (.tuple [.int k, .int l]) = (decide (i = k) && decide (j = l)) := by
      simp only [PyData.eqv, PyData.eqvAll, Bool.and_true]
      rfl
    rw [e]; exact q⟩
end
/-! the law's hands -/
section
variable {P : Program} {w : World} {K : PySem.W.Frag} {mg : Str → Option Value} {base : Heap}
/-- no object but a dict lay at a -/
def Fr (H : Hp) (a : Addr) : Prop := ∀ o, H a = some o → ∃ kvs, o = .dK kvs
theorem Fr.of {H : Hp} {a : Addr} (h : H a = none) : Fr H a := fun o z => by rw [h] at z; cases z
theorem Fr.d {H H' : Hp} {a : Addr} (e : SameD H H') (h : Fr H' a) : Fr H a := fun o z => by
  apply Classical.byContradiction
  intro hn
  obtain ⟨kvs, rfl⟩ := h o (e a o z fun kvs hk => hn ⟨kvs, hk⟩)
  exact hn ⟨kvs, rfl⟩
theorem Fr.ne {H : Hp} {a D : Addr} {xs : List V} (h : Fr H a) (hD : H D = some (.lst xs)) : a ≠ D := fun z => by
  subst z
  obtain ⟨kvs, e⟩ := h _ hD
  cases e
/-- a row of drawn truths -/
def spTruths : Sp := fun vs H Q _ => ∃ (p c : Addr) (many n : Nat), vs = [.ref p, .int many] ∧ Pen H p c n ∧ n + 3000 < 2 ^ 40 ∧ many ≤ 1000 ∧ ∀ l (bs : List Bool) H', Fr H l → SameD H H' → Pen H' p c (n + many + 3) → H' l = some (.lst (bs.map V.bl)) → bs.length = many → Q (.ref l) H'
theorem bset {bs : List Bool} {j : Nat} {b : Bool} : (bs.map V.bl).set j (V.bl b) = (bs.set j b).map V.bl := by rw [List.map_set]
theorem WF.updL {K : PySem.W.Frag} {H : Hp} {x C l : Addr} {f : Nat → Bool} {xs : List V} {o : HO} (hl : H l = some (.lst xs)) : WF K H x C f → WF K (upd H l o) x C f := fun ⟨bl, rl, ⟨dx, t1, t2, h1, h2, h3⟩, hn⟩ => by
  have ht : ∀ {t ys}, SqT K H t ys → SqT K (upd H l o) t ys := fun {t ys} h => by
    rcases h with (h | ⟨u, h⟩) | h
    · exact .inl (.inl (by rw [upd_ne (fun z => by rw [z, hl] at h; cases h)]; exact h))
    · exact .inl (.inr ⟨u, by rw [upd_ne (fun z => by rw [z, hl] at h; cases h)]; exact h⟩)
    · exact .inr h
  exact ⟨bl, rl, ⟨dx, t1, t2, by rw [upd_ne (fun z => by rw [z, hl] at h1; cases h1)]; exact h1, ht h2, ht h3⟩, hn⟩
theorem Same.none {H H' : Hp} {l : Addr} (e : Same H H') (h : H' l = none) : H l = none := by
  cases q : H l with
  | none => rfl
  | some o => rw [e l o q] at h; cases h
/-- (tag, i) != (tag, i) -/
theorem u_neTag {K : PySem.W.Frag} {H : Hp} {a b : Addr} {x : Str} {i : Int} {Q : VK} (hx : PyData.canLay0 (.str x) = true) (h : H a = some (.tup [.str x, .int i])) (h' : H b = some (.tup [.str x, .int i])) (q : Q (.bl false) H) : rNeD K (.ref a) (.ref b) H Q :=
  u_neD (b := true) (.tup (sqT h) (.cons (.str _) (.cons (.int _) .nil))) (.tup (sqT h') (.cons (.str _) (.cons (.int _) .nil))) (shaped_tag hx rfl (Nat.zero_le 3)) (shaped_tag hx rfl (Nat.zero_le 3)) (by simp [PyData.eqv, PyData.eqvAll]) q
theorem u_neNon {K : PySem.W.Frag} {H : Hp} {Q : VK} (q : Q (.bl false) H) : rNeD K .non .non H Q := u_neD (b := true) .non .non (by decide) (by decide) (by simp [PyData.eqv]) q
/-- a drawn model: truths below, truths by rests -/
def IsM (H : Hp) (m : Addr) (B R : List Bool) : Prop := ∃ a b, H m = some (.tup [.ref a, .ref b]) ∧ H a = some (.lst (B.map V.bl)) ∧ H b = some (.lst (R.map V.bl))
theorem IsM.l {H H' : Hp} {m : Addr} {B R : List Bool} (e : SameL H H') : IsM H m B R → IsM H' m B R := fun ⟨a, b, h1, h2, h3⟩ => ⟨a, b, e.tupA h1, e.lst h2, e.lst h3⟩
def spModel (K : PySem.W.Frag) : Sp := fun vs H Q _ => ∃ (p c pl : Addr) (most n : Nat) (ps : List Int), vs = [.ref p, .int most, .ref pl] ∧ Pen H p c n ∧ n + 10000 < 2 ^ 40 ∧ most ≤ 900 ∧ SqL K H pl (ps.map V.int) ∧ ps ≠ [] ∧ ps.length < 1000 ∧ (∀ z, z ∈ ps → 1 ≤ z ∧ z ≤ 720) ∧
  ∀ m (B R : List Bool) H', (∃ a b, H' m = some (.tup [.ref a, .ref b]) ∧ Fr H a ∧ Fr H b) → SameD H H' → Pen H' p c (n + most + 1000) → IsM H' m B R → B.length ≤ most → (∃ z, z ∈ ps ∧ z = (R.length : Nat)) → Q (.ref m) H'
/-- the truth of a model at n -/
def spTruthM : Sp := fun vs H Q _ => ∃ (m : Addr) (n : Nat) (B R : List Bool), vs = [.ref m, .int n] ∧ IsM H m B R ∧ 0 < R.length ∧ Q (.bl (mem B R n)) H
end
end Ev

end
/-! C.m(..) where m is a classmethod; cls(..) in its body. -/
namespace L2
open PySem PySem.Spec PyProof.Rows StX
theorem fnR_of {P : Program} {w : World} {K : PySem.W.Frag} {mg : Str → Option Value} {base : Heap} {k : Nat} {f : Addr} {fd : FuncData} {ps : List Str} {sp : Sp} (F : FnOk P w K mg base (L2.CX P w) k f fd ps sp) (hb : Binds K fd ps []) : FnR P w K mg base (L2.CX P w) k f sp :=
  (F.raw hb .nil).imp fun vs H Q E h => by
    show sp (vs ++ []) H Q E
    rw [List.append_nil]
    exact h
/-- the i-th slot holds the class at C -/
def tMakeL (i : Nat) (C : Addr) (sp : Sp) (E : XK) (t : TA) : TE := fun σ H Q => σ[i]? = some (some (.ref C)) ∧ t σ H fun vs H1 => sp vs H1 Q E
/-- the classmethod m of the class at C -/
structure ClsF (P : Program) (w : World) (K : PySem.W.Frag) (mg : Str → Option Value) (base : Heap) (C : Addr) (m : Str) (k : Nat) (sp : Sp) : Prop where
  ex : ∃ mc p g, ClX.CRead K C mc ∧ ClX.CMet K C mc m p g ∧ FnR P w K mg base (L2.CX P w) k g sp
section
variable {X : Cx} {x y m : Str} {C : Addr} {k i : Nat} {sp : Sp} {E : XK} {e o : Expr} {es : List Expr} {t : TA} {ta : TE} {p pos apos : Pos}
theorem pe_makeL (G : MakeF X.prog X.w X.K X.mg X.base y C k sp) (hr : Room (k + 1) X.A) (hN : X.N[i]? = some x) (hv : Vis X.env.scope x) (hx : Passes (L2.CX X.prog X.w) X E) (ha : PA X (e :: es) t)
    (hdb : (x == ("__debug__" : Str)) = false := by decide) (hcd : (x == ("__classdict__" : Str)) = false := by decide)
    (he : starEach (e :: es) X.env = (false, eval e X.env) :: starEach es X.env := by rfl) (hpl : (backTo pos (starEach es X.env)).any (·.1) = false := by rfl) : PE X (.Call (.Name x p) (e :: es) [] pos) (tMakeL i C sp E t) := by
  obtain ⟨f, fd, ps, sp0, dvs, ds, F, M, h1, h2, h3, h4⟩ := G.ex
  refine ⟨fun pins s σ H Q I h => ?_⟩
  obtain ⟨hs, ht⟩ := h
  refine wpAny_Call_Name_kw (thn ((pe_var (pos := p) hN hv hdb hcd).run pins s σ H (fun v H1 => v = .ref C ∧ H1 = H) I ⟨.ref C, hs, rfl, rfl⟩) fun u s1 ⟨v, H1, I1, r1, q1⟩ => ?_)
  obtain ⟨rfl, rfl⟩ := q1
  cases r1
  refine PySem.W.callWith_K (h₀ := X.base) I1.ok.mod.kin M.kp (thn (ha.run pos pins s1 σ _ _ I1 ht) fun us s2 ⟨vs, H2, I2, r, q⟩ => ⟨I2.kIn, ?_⟩) he hpl
  exact run_make M F hr h2 h3 hx I2 r (h4 _ _ _ _ q)
theorem pe_clsF {pl : Sem Bool} (G : ClsF X.prog X.w X.K X.mg X.base C m k sp) (he : PE X o ta) (hr : Room k X.A) (hx : Passes (L2.CX X.prog X.w) X E) (ha : PA X (e :: es) t)
    (hst : starEach (e :: es) X.env = (false, eval e X.env) :: starEach es X.env := by rfl) (hpl : (backTo pos (starEach es X.env)).any (·.1) = false := by rfl)
    (ht : eval (.Call (.Attribute o m apos) (e :: es) [] pos) X.env = (do
      let ov ← eval o X.env
      standAt apos.atName
      let (f, first) ← holding [ov] (getMethod ov m pl)
      callWith pos f first (backTo pos (starEach (e :: es) X.env)) (backToKw pos (keywordEach [] X.env))) := by rfl) :
    PE X (.Call (.Attribute o m apos) (e :: es) [] pos) (ClX.tCMeth C sp E ta t) := by
  obtain ⟨mc, p, g, r, c, F⟩ := G.ex
  exact ClX.pe_cmeth he r c F hr hx ha hst hpl ht

theorem pa_starK {K : PySem.W.Frag} (h : X.K = K) (he : PE X e ta) (hr : PA X es t) (hs : starEach (.Starred e p :: es) X.env = (true, eval e X.env) :: starEach es X.env := by rfl) : PA X (.Starred e p :: es) (tStar K ta t) := h ▸ pa_star he hr hs

theorem StX.g_star {K : PySem.W.Frag} {te : TE} {t : TA} {σ : St} {H : Hp} {Q : List V → Hp → Prop} (q : te σ H fun x H1 => ∃ p xs, x = V.ref p ∧ (SqT K H1 p xs ∨ SqL K H1 p xs) ∧ t σ H1 fun ys H2 => Q (xs ++ ys) H2) : tStar K te t σ H Q := q
theorem op_inK {K : PySem.W.Frag} (h : X.K = K) : OpR X (compareOp .In) (rIn K false) := h ▸ op_in_seq
theorem op_notInK {K : PySem.W.Frag} (h : X.K = K) : OpR X (compareOp .NotIn) (rIn K true) := h ▸ op_notIn_seq
theorem g_cmeth {C : Addr} {ta : TE} {t : TA} {sp : Sp} {E : XK} {σ : St} {H : Hp} {Q : VK} (q : ta σ H fun x H1 => x = .ref C ∧ t σ H1 fun vs H2 => sp (.ref C :: vs) H2 Q E) : ClX.tCMeth C sp E ta t σ H Q := q
theorem g_makeL {C : Addr} {i : Nat} {t : TA} {sp : Sp} {E : XK} {σ : St} {H : Hp} {Q : VK} (hs : σ[i]? = some (some (.ref C))) (q : t σ H fun vs H1 => sp vs H1 Q E) : tMakeL i C sp E t σ H Q := ⟨hs, q⟩
theorem u_max {K : PySem.W.Frag} {a : Addr} {ns : List Int} {H : Hp} {Q : VK} (h : SqL K H a (ns.map V.int)) (h0 : 0 < ns.length) (q : ∀ m, m ∈ ns → (∀ y, y ∈ ns → y ≤ m) → Q (.int m) H) : rMax K [.ref a] H Q := ⟨a, ns, rfl, h, h0, q⟩
end
end L2

section
open L2 in
local macro_rules | `(tactic| walk_at "gx") => `(tactic| first
  | ((with_reducible show tVar _ _ _ _); refine g_var rfl ?_)
  | with_reducible refine g_c ?_
  | with_reducible refine g_op ?_
  | with_reducible refine g_cons ?_
  | with_reducible refine g_nil ?_
  | with_reducible refine g_test ?_
  | with_reducible refine g_blp ?_
  | with_reducible refine g_asg ?_
  | (with_reducible refine g_name ?_; (try simp only [List.set_cons_zero, List.set_cons_succ]))
  | with_reducible refine g_call ?_
  | with_reducible refine g_cb ?_
  | with_reducible refine g_I0 ?_
  | with_reducible refine g_U ?_
  | with_reducible refine g_eqI ?_
  | with_reducible refine g_neI ?_
  | with_reducible refine g_if ?_
  | with_reducible refine g_ret ?_
  | with_reducible refine g_retN ?_
  | with_reducible refine g_next ?_
  | with_reducible refine g_drop ?_
  | with_reducible refine g_un ?_
  | with_reducible refine g_tb ?_
  | with_reducible refine g_tup ?_
  | with_reducible refine g_lst ?_
  | with_reducible refine g_and ?_
  | with_reducible refine g_or ?_
  | with_reducible refine g_not ?_
  | with_reducible refine g_andV ?_
  | with_reducible refine g_orV ?_
  | with_reducible refine g_notV ?_
  | with_reducible refine g_ifE ?_
  | with_reducible refine g_fld ?_
  | with_reducible refine g_tt ?_
  | with_reducible refine g_ff ?_
  | with_reducible refine g_ntt ?_
  | with_reducible refine g_nff ?_
  | with_reducible refine g_for ?_
  | with_reducible refine g_list ?_
  | with_reducible refine g_tupI ?_
  | with_reducible refine g_rng1 ?_
  | with_reducible refine g_rng2 ?_
  | with_reducible refine g_enumA ?_
  | with_reducible refine g_rev ?_
  | with_reducible refine g_lc ?_
  | with_reducible refine g_gcons ?_
  | with_reducible refine g_gnil ?_
  | with_reducible refine g_yes ?_
  | with_reducible refine g_sl ?_
  | with_reducible refine g_nopart ?_
  | with_reducible refine g_part ?_
  | with_reducible refine g_int ?_
  | with_reducible refine g_dget ?_
  | with_reducible refine g_dput ?_
  | with_reducible refine g_raiseX ?_
  | with_reducible refine g_tru ?_
  | with_reducible refine g_sub ?_
  | with_reducible refine g_isN ?_
  | with_reducible refine g_notN ?_
  | with_reducible refine g_bm ?_
  | with_reducible refine L2.g_bm0 ?_
  | with_reducible refine g_pair ?_
  | with_reducible refine g_pair0 ?_
  | with_reducible refine u_int1 ?_
  | with_reducible refine g_chain ?_
  | with_reducible refine L2.g_sfld ?_
  | (with_reducible refine g_par3 ?_)
  | (with_reducible refine g_three ?_; (try simp only [List.set_cons_zero, List.set_cons_succ]))
  | ((with_reducible apply L2.g_tupT); walk_at "up"; rfl)
  | (with_reducible refine g_par ?_)
  | (with_reducible refine g_two ?_; (try simp only [List.set_cons_zero, List.set_cons_succ]))
  )
local macro_rules | `(tactic| walk_at "go") => `(tactic| first | walk_at "gx" | with_reducible refine L2.g_seq ?_)
local macro_rules | `(tactic| walk_at "gou") => `(tactic| repeat (walk_at "gx"))
local macro_rules | `(tactic| walk_at "gos") => `(tactic| repeat (walk_at "go"))
local macro_rules | `(tactic| walk_at "sl") => `(tactic| first
  | assumption
  | exact L2.Same.l (by assumption)
  | exact L2.SameD.l (by assumption)
  | exact L2.extN_l (by assumption))
local macro_rules | `(tactic| walk_at "up") => `(tactic| first
  | assumption
  | ((with_reducible apply L2.SameL.lst); walk_at "sl"; walk_at "up")
  | ((with_reducible apply L2.SameL.tupA); walk_at "sl"; walk_at "up")
  | ((with_reducible apply L2.SameL.ins); walk_at "sl"; walk_at "up")
  | ((with_reducible apply Ev.PB.l); walk_at "sl"; walk_at "up")
  | ((with_reducible apply Ev.IsP.l); walk_at "sl"; walk_at "up")
  | ((with_reducible apply L2.sqL); walk_at "up")
  | ((with_reducible apply L2.sqT); walk_at "up")
  | ((with_reducible apply L2.SameL.seq); walk_at "sl"; walk_at "up")
  | ((with_reducible apply Ev.Pen.same); assumption; walk_at "up")
  | ((with_reducible apply Ev.Pen.extN); assumption; walk_at "up")
  | ((with_reducible apply L2.tabs_s); assumption; walk_at "up")
  | ((with_reducible apply L2.tabs_dd); assumption; walk_at "up")
  | ((with_reducible apply Or.inl); walk_at "up")
  | ((with_reducible apply Or.inr); walk_at "up"))
local macro_rules | `(tactic| walk_at "new") => `(tactic| (
  first
    | refine ⟨L2.size_ok (by rfl), fun p hp => ?_⟩
    | refine fun p hp => ?_
  generalize hX : L2.upd _ p _ = H1
  obtain ⟨e, h⟩ := L2.news hp hX
  clear hX))
local macro_rules | `(tactic| walk_at "o") => `(tactic| first
  | ((with_reducible apply Ev.o_add); walk_at "up"; walk_at "up"; rfl; rfl; rfl)
  | ((with_reducible apply Ev.o_sub); walk_at "up"; walk_at "up"; rfl; rfl; rfl)
  | ((with_reducible apply Ev.o_mul); walk_at "up"; walk_at "up"; rfl; rfl; rfl)
  | ((with_reducible apply Ev.o_addI); walk_at "up"; assumption; rfl; rfl; rfl)
  | ((with_reducible apply Ev.o_subI); walk_at "up"; assumption; rfl; rfl; rfl)
  | ((with_reducible apply Ev.o_mulI); walk_at "up"; assumption; rfl; rfl; rfl)
  | ((with_reducible apply Ev.o_radd); walk_at "up"; assumption; rfl; rfl; rfl)
  | ((with_reducible apply Ev.o_rsub); walk_at "up"; assumption; rfl; rfl; rfl)
  | ((with_reducible apply Ev.o_rmul); walk_at "up"; assumption; rfl; rfl; rfl)
  | ((with_reducible apply Ev.o_neg); walk_at "up"; rfl; rfl; rfl))
local macro_rules | `(tactic| walk_at "eq") => `(tactic| ((with_reducible apply Ev.u_ownB); assumption; walk_at "up"; walk_at "up"; (focus (intro k; first | rfl | exact Pl.e_add | exact Pl.e_sub | exact Pl.e_mul | exact Pl.e_rsub | exact Pl.e_rsub2))))
local macro_rules | `(tactic| walk_at "isp") => `(tactic| (apply Ev.u_isB; walk_at "up"; walk_at "up"; rfl; rfl))

/-! Where.since, Where.rest, Where.of. -/
namespace Ev
open PySem PySem.Spec PyProof.Rows L2 Wp
/-- what is no place -/
def Np (K : PySem.W.Frag) (H : Hp) (v : V) : Prop := Kd K H v false ∨ ∃ i : Int, i < 0 ∧ v = .int i
theorem mem_since {n k : Nat} : mem (List.replicate n false) [true] k = decide (n ≤ k) := by
  unfold mem
  rw [List.length_replicate]
  by_cases h : k < n
  · rw [if_pos h, bt_in (by rw [List.length_replicate]; exact h), List.getElem_replicate, decide_eq_false (by omega)]
  · rw [if_neg h, decide_eq_true (by omega)]
    simp [bt, Nat.mod_one]
theorem mem_rest {m r k : Nat} (h : 0 < m) : mem [] ((List.range m).map fun i => decide (i = r)) k = decide (k % m = r) := by
  unfold mem
  rw [if_neg (show ¬ k < ([] : List Bool).length from Nat.not_lt_zero k), List.length_map, List.length_range, bt_in (by rw [List.length_map, List.length_range]; exact Nat.mod_lt _ h), List.getElem_map, List.getElem_range]
section
variable {P : Program} {w : World} {K : PySem.W.Frag} {mg : Str → Option Value} {base : Heap}
def spPlace (K : PySem.W.Frag) : Sp := fun vs H Q _ => ∃ x, vs = [x] ∧ ((∃ i : Int, x = .int i ∧ 0 ≤ i ∧ Q (.bl true) H) ∨ (Np K H x ∧ Q (.bl false) H))
theorem sc_is_place : FnScope ["value"] ["value"] (defScope (topS 11)) := ⟨rfl, rfl, rfl, by decide +kernel, rfl, by decide +kernel, by decide +kernel⟩
theorem ok_is_place (B : Bn mg) (G_is_integer : CallF P w K mg base "is_integer" ["value"] 1 (spIsInteger K)) {f : Addr} {fd : FuncData} (F : Fun K "is_place" "is_place" (topS 11) f fd) : FnOk P w K mg base (L2.CX P w) 2 f fd ["value"] (spPlace K) := by
  have nd := sc_is_place.nd
  refine F.okX sc_is_place (fun vs H Q E h => ?_) (fun cdv A outer s H vs Q E hr h => ?_)
  · obtain ⟨x, rfl, _⟩ := h
    rfl
  · refine ⟨_, (pss_one (ps_ret (pe_and (pe_callF G_is_integer (hr.mono (by decide)) rfl passL (pa_cons (pv 0) pa_nil)) (pe_one (pe_cmpR op_ge (pv 0) pe_int (nomark _)))))), ?_⟩
    obtain ⟨x, rfl, q⟩ := h
    refine g_st (σ' := [some x]) rfl ?_
    walk_at "gos"
    rcases q with ⟨i, rfl, hi, q⟩ | ⟨hk | ⟨i, hi, rfl⟩, q⟩
    · refine ⟨_, _, rfl, Kd.int, ?_⟩
      walk_at "gos"
      rw [decide_eq_true (by omega)]
      exact q
    · refine ⟨_, _, rfl, hk, ?_⟩
      walk_at "gos"
      exact q
    · refine ⟨_, _, rfl, Kd.int, ?_⟩
      walk_at "gos"
      rw [decide_eq_false (by omega)]
      exact q
/-- what a maker gives -/
def spSince (K : PySem.W.Frag) (C CP CL : Addr) : Sp := fun vs H Q E => ∃ low : V, vs = [.ref C, low] ∧
  ((∃ n : Nat, low = .int n ∧ n ≤ 10000 ∧ ∀ x H', H x = none → Same H H' → WF K H' x C (fun k => decide (n ≤ k)) → Q (.ref x) H') ∨
   (∃ n : Nat, low = .int n ∧ 10000 < n ∧ ExcR (Same H) CL "most" (.int 10000) E) ∨
   (Np K H low ∧ ExcR (Same H) CP "n" low E))
def spRest (K : PySem.W.Frag) (C CN CF : Addr) : Sp := fun vs H Q E => ∃ m r : V, vs = [.ref C, m, r] ∧
  ((∃ a b : Nat, m = .int a ∧ r = .int b ∧ b < a ∧ a ≤ 720 ∧ ∀ x H', H x = none → Same H H' → WF K H' x C (fun k => decide (k % a = b)) → Q (.ref x) H') ∨
   (∃ a b : Nat, m = .int a ∧ r = .int b ∧ b < a ∧ 720 < a ∧ ExcR (Same H) CF "most" (.int 720) E) ∨
   ((Kd K H m false ∨ ∃ i : Int, i < 1 ∧ m = .int i) ∧ ExcR (Same H) CN "number" m E) ∨
   (∃ a : Nat, 0 < a ∧ m = .int a ∧ (Np K H r ∨ ∃ b : Nat, a ≤ b ∧ r = .int b) ∧ ExcR (Same H) CN "number" r E))
theorem sc_Where_rest : FnScope ["cls", "m", "r", "k"] ["cls", "m", "r"] (defScope (inClass (topS 19) 3)) := ⟨rfl, rfl, rfl, by decide +kernel, rfl, by decide +kernel, by decide +kernel⟩
theorem ok_Where_rest {C CN CT CF CL : Addr} {tk1 : Tok} (B : Bn mg) (c_MOST_PERIOD : mg "MOST_PERIOD" = some (.int 720 tk1)) (X_BadNumber : ExT P K mg "BadNumber" CN ["number"]) (X_TooFine : ExT P K mg "TooFine" CF ["most"])
    (G_is_integer : CallF P w K mg base "is_integer" ["value"] 1 (spIsInteger K)) (G_is_place : CallF P w K mg base "is_place" ["value"] 2 (spPlace K)) (M_Where : MakeF P w K mg base "Where" C 5 (spWhere K C CT CF CL))
    {f : Addr} {fd : FuncData} (F : Fun K "rest" "Where.rest" (inClass (topS 19) 3) f fd) : FnOk P w K mg base (L2.CX P w) 7 f fd ["cls", "m", "r"] (spRest K C CN CF) := by
  have nd := sc_Where_rest.nd
  refine F.okX sc_Where_rest (fun vs H Q E h => ?_) (fun cdv A outer s H vs Q E hr h => ?_)
  · obtain ⟨m, r, rfl, _⟩ := h
    rfl
  · refine ⟨_, (pss_cons (ps_if (PW.pt (pw_or (pt_not (pt_val (pe_callF G_is_integer (hr.mono (by decide)) rfl passL (pa_cons (pv 1) pa_nil)))) (pw_or1 (pt_cmpR op_lt (pv 1) pe_int (nomark _))))) (pss_one (ps_raiseX rfl X_BadNumber hr (takes_of rfl rfl rfl rfl) (pa_cons (pv 1) pa_nil))) pss_nil)
      (pss_cons (ps_if (PW.pt (pw_or (pt_not (pt_val (pe_callF G_is_place (hr.mono (by decide)) rfl passL (pa_cons (pv 2) pa_nil)))) (pw_or1 (pt_cmpR op_ge (pv 2) (pv 1) (nomark _))))) (pss_one (ps_raiseX rfl X_BadNumber hr (takes_of rfl rfl rfl rfl) (pa_cons (pv 2) pa_nil))) pss_nil)
      (pss_cons (ps_if (pt_cmpR op_gt (pv 1) (pe_globI rfl c_MOST_PERIOD) (nomark _)) (pss_one (ps_raiseX rfl X_TooFine hr (takes_of rfl rfl rfl rfl) (pa_cons (pe_globI rfl c_MOST_PERIOD) pa_nil))) pss_nil)
      (pss_one (ps_ret (pe_makeL (i := 0) M_Where (hr.mono (by decide)) rfl (.inl rfl) (passes_call (takes_of rfl rfl rfl rfl) (fun _ _ _ _ h => h)) (pa_cons (pe_tup pa_nil) (pa_cons (pe_lc (own := [("k", 3)]) (g := gName 3) (tt := tYes) rfl nd (pi_range1 rfl B.range (pa_cons (pv 1) pa_nil)) (blkOk_by (N := ["cls", "m", "r", "k"]) (sc := defScope (inClass (topS 19) 3)) (by decide +kernel)) (fun _ _ _ _ _ => (pg_name (i := 3) nd rfl (.inl rfl))) (fun _ _ _ _ _ => pts_nil) (fun _ _ _ _ _ => (pe_cmpR op_eq (pv 3) (pv 2) (nomark _)))) pa_nil)))))))), ?_⟩
    obtain ⟨m, r, rfl, q⟩ := h
    refine g_st (σ' := [some (.ref C), some m, some r, none]) rfl ?_
    walk_at "gos"
    rcases q with ⟨a, b, rfl, rfl, hab, ha, q⟩ | ⟨a, b, rfl, rfl, hab, ha, q⟩ | ⟨hk | ⟨i, hi, rfl⟩, q⟩ | ⟨a, ha, rfl, hk, q⟩
    · refine ⟨_, _, rfl, Kd.int, ?_⟩
      walk_at "gos"
      rw [if_neg (by rw [decide_eq_true_iff]; omega)]
      walk_at "gos"
      refine ⟨_, rfl, .inl ⟨_, rfl, by omega, ?_⟩⟩
      walk_at "gos"
      rw [if_neg (by rw [decide_eq_true_iff]; omega)]
      walk_at "gos"
      rw [if_neg (by rw [decide_eq_true_iff]; omega)]
      walk_at "gos"
      refine g_makeL rfl ?_
      walk_at "gos"
      (walk_at "new"; rename_i z1 _ H1 e1 h1; walk_at "gos")
      refine u_rng (by omega) (by omega) fun D hD => ?_
      refine lc_it walk_range (PvL H1 D (fun _ => true) (fun i => .bl (decide (i = b)))) (lc_start hD) (fun _ _ _ _ => trivial) (fun i y H3 H4 hi pv q6 => ?_) (fun H3 pv => ?_)
      · obtain ⟨rfl, rfl⟩ := q6
        walk_at "gos"
        refine ⟨rfl, ?_⟩
        walk_at "gos"
        have e0 : decide ((0 : Int) + (i : Int) = (b : Int)) = decide (i = b) := decide_eq_decide.mpr (by omega)
        rw [e0]
        exact lc_yes hD pv (Same.refl _) rfl rfl (by omega)
      obtain ⟨e3, h3⟩ := pv
      rw [given_all, Int.toNat_natCast] at h3
      have h3' : H3 D = some (.lst (((List.range a).map fun i => decide (i = b)).map V.bl)) := by rw [h3, List.map_map]; rfl
      walk_at "gos"
      refine u_where (B := []) (.inr (sqT (e3 _ _ h1))) (.inl (sqL h3')) (by rw [List.length_map, List.length_range]; omega) (by decide) (by rw [List.length_map, List.length_range]; omega) fun x H4 hx e4 hw => ?_
      refine q x H4 ?_ (e1.trans (e3.trans e4)) ?_
      · cases hh : H x with
        | none => rfl
        | some o => rw [e3 _ _ (e1 _ _ hh)] at hx; cases hx
      · obtain ⟨bl, rl, w1, w2, w3⟩ := hw
        exact ⟨bl, rl, w1, w2, fun k => by rw [w3, mem_rest (by omega)]⟩
    · refine ⟨_, _, rfl, Kd.int, ?_⟩
      walk_at "gos"
      rw [if_neg (by rw [decide_eq_true_iff]; omega)]
      walk_at "gos"
      refine ⟨_, rfl, .inl ⟨_, rfl, by omega, ?_⟩⟩
      walk_at "gos"
      rw [if_neg (by rw [decide_eq_true_iff]; omega)]
      walk_at "gos"
      rw [if_pos (decide_eq_true (by omega))]
      walk_at "gos"
      exact u_raise rfl (by decide) fun d H3 _ e3 hd => q H3 d e3 hd
    · refine ⟨_, _, rfl, hk, ?_⟩
      walk_at "gos"
      exact u_raise rfl (by decide) fun d H3 _ e3 hd => q H3 d e3 hd
    · refine ⟨_, _, rfl, Kd.int, ?_⟩
      walk_at "gos"
      rw [if_pos (decide_eq_true (by omega))]
      walk_at "gos"
      exact u_raise rfl (by decide) fun d H3 _ e3 hd => q H3 d e3 hd
    · refine ⟨_, _, rfl, Kd.int, ?_⟩
      walk_at "gos"
      rw [if_neg (by rw [decide_eq_true_iff]; omega)]
      walk_at "gos"
      rcases hk with hk | ⟨b, hb, rfl⟩
      · refine ⟨_, rfl, .inr ⟨hk, ?_⟩⟩
        walk_at "gos"
        exact u_raise rfl (by decide) fun d H3 _ e3 hd => q H3 d e3 hd
      · refine ⟨_, rfl, .inl ⟨_, rfl, by omega, ?_⟩⟩
        walk_at "gos"
        rw [if_pos (decide_eq_true (by omega))]
        walk_at "gos"
        exact u_raise rfl (by decide) fun d H3 _ e3 hd => q H3 d e3 hd
end
end Ev

end
section
open L2 in
local macro_rules | `(tactic| walk_at "gx") => `(tactic| first
  | ((with_reducible show tVar _ _ _ _); refine g_var rfl ?_)
  | with_reducible refine g_c ?_
  | with_reducible refine g_op ?_
  | with_reducible refine g_cons ?_
  | with_reducible refine g_nil ?_
  | with_reducible refine g_test ?_
  | with_reducible refine g_blp ?_
  | with_reducible refine g_asg ?_
  | (with_reducible refine g_name ?_; (try simp only [List.set_cons_zero, List.set_cons_succ]))
  | with_reducible refine g_call ?_
  | with_reducible refine g_cb ?_
  | with_reducible refine g_I0 ?_
  | with_reducible refine g_U ?_
  | with_reducible refine g_eqI ?_
  | with_reducible refine g_neI ?_
  | with_reducible refine g_if ?_
  | with_reducible refine g_ret ?_
  | with_reducible refine g_retN ?_
  | with_reducible refine g_next ?_
  | with_reducible refine g_drop ?_
  | with_reducible refine g_un ?_
  | with_reducible refine g_tb ?_
  | with_reducible refine g_tup ?_
  | with_reducible refine g_lst ?_
  | with_reducible refine g_and ?_
  | with_reducible refine g_or ?_
  | with_reducible refine g_not ?_
  | with_reducible refine g_andV ?_
  | with_reducible refine g_orV ?_
  | with_reducible refine g_notV ?_
  | with_reducible refine g_ifE ?_
  | with_reducible refine g_fld ?_
  | with_reducible refine g_tt ?_
  | with_reducible refine g_ff ?_
  | with_reducible refine g_ntt ?_
  | with_reducible refine g_nff ?_
  | with_reducible refine g_for ?_
  | with_reducible refine g_list ?_
  | with_reducible refine g_tupI ?_
  | with_reducible refine g_rng1 ?_
  | with_reducible refine g_rng2 ?_
  | with_reducible refine g_enumA ?_
  | with_reducible refine g_rev ?_
  | with_reducible refine g_lc ?_
  | with_reducible refine g_gcons ?_
  | with_reducible refine g_gnil ?_
  | with_reducible refine g_yes ?_
  | with_reducible refine g_sl ?_
  | with_reducible refine g_nopart ?_
  | with_reducible refine g_part ?_
  | with_reducible refine g_int ?_
  | with_reducible refine g_dget ?_
  | with_reducible refine g_dput ?_
  | with_reducible refine g_raiseX ?_
  | with_reducible refine g_tru ?_
  | with_reducible refine g_sub ?_
  | with_reducible refine g_isN ?_
  | with_reducible refine g_notN ?_
  | with_reducible refine g_bm ?_
  | with_reducible refine L2.g_bm0 ?_
  | with_reducible refine g_pair ?_
  | with_reducible refine g_pair0 ?_
  | with_reducible refine u_int1 ?_
  | with_reducible refine g_chain ?_
  | with_reducible refine L2.g_sfld ?_
  | (with_reducible refine g_par3 ?_)
  | (with_reducible refine g_three ?_; (try simp only [List.set_cons_zero, List.set_cons_succ]))
  | ((with_reducible apply L2.g_tupT); walk_at "up"; rfl)
  | (with_reducible refine g_par ?_)
  | (with_reducible refine g_two ?_; (try simp only [List.set_cons_zero, List.set_cons_succ]))
  )
local macro_rules | `(tactic| walk_at "go") => `(tactic| first | walk_at "gx" | with_reducible refine L2.g_seq ?_)
local macro_rules | `(tactic| walk_at "gou") => `(tactic| repeat (walk_at "gx"))
local macro_rules | `(tactic| walk_at "gos") => `(tactic| repeat (walk_at "go"))
local macro_rules | `(tactic| walk_at "sl") => `(tactic| first
  | assumption
  | exact L2.Same.l (by assumption)
  | exact L2.SameD.l (by assumption)
  | exact L2.extN_l (by assumption))
local macro_rules | `(tactic| walk_at "up") => `(tactic| first
  | assumption
  | ((with_reducible apply L2.SameL.lst); walk_at "sl"; walk_at "up")
  | ((with_reducible apply L2.SameL.tupA); walk_at "sl"; walk_at "up")
  | ((with_reducible apply L2.SameL.ins); walk_at "sl"; walk_at "up")
  | ((with_reducible apply Ev.PB.l); walk_at "sl"; walk_at "up")
  | ((with_reducible apply Ev.IsP.l); walk_at "sl"; walk_at "up")
  | ((with_reducible apply L2.sqL); walk_at "up")
  | ((with_reducible apply L2.sqT); walk_at "up")
  | ((with_reducible apply L2.SameL.seq); walk_at "sl"; walk_at "up")
  | ((with_reducible apply Ev.Pen.same); assumption; walk_at "up")
  | ((with_reducible apply Ev.Pen.extN); assumption; walk_at "up")
  | ((with_reducible apply L2.tabs_s); assumption; walk_at "up")
  | ((with_reducible apply L2.tabs_dd); assumption; walk_at "up")
  | ((with_reducible apply Or.inl); walk_at "up")
  | ((with_reducible apply Or.inr); walk_at "up"))
local macro_rules | `(tactic| walk_at "new") => `(tactic| (
  first
    | refine ⟨L2.size_ok (by rfl), fun p hp => ?_⟩
    | refine fun p hp => ?_
  generalize hX : L2.upd _ p _ = H1
  obtain ⟨e, h⟩ := L2.news hp hX
  clear hX))
local macro_rules | `(tactic| walk_at "o") => `(tactic| first
  | ((with_reducible apply Ev.o_add); walk_at "up"; walk_at "up"; rfl; rfl; rfl)
  | ((with_reducible apply Ev.o_sub); walk_at "up"; walk_at "up"; rfl; rfl; rfl)
  | ((with_reducible apply Ev.o_mul); walk_at "up"; walk_at "up"; rfl; rfl; rfl)
  | ((with_reducible apply Ev.o_addI); walk_at "up"; assumption; rfl; rfl; rfl)
  | ((with_reducible apply Ev.o_subI); walk_at "up"; assumption; rfl; rfl; rfl)
  | ((with_reducible apply Ev.o_mulI); walk_at "up"; assumption; rfl; rfl; rfl)
  | ((with_reducible apply Ev.o_radd); walk_at "up"; assumption; rfl; rfl; rfl)
  | ((with_reducible apply Ev.o_rsub); walk_at "up"; assumption; rfl; rfl; rfl)
  | ((with_reducible apply Ev.o_rmul); walk_at "up"; assumption; rfl; rfl; rfl)
  | ((with_reducible apply Ev.o_neg); walk_at "up"; rfl; rfl; rfl))
local macro_rules | `(tactic| walk_at "eq") => `(tactic| ((with_reducible apply Ev.u_ownB); assumption; walk_at "up"; walk_at "up"; (focus (intro k; first | rfl | exact Pl.e_add | exact Pl.e_sub | exact Pl.e_mul | exact Pl.e_rsub | exact Pl.e_rsub2))))
local macro_rules | `(tactic| walk_at "isp") => `(tactic| (apply Ev.u_isB; walk_at "up"; walk_at "up"; rfl; rfl))

/-! Where.of. -/
namespace Ev
open PySem PySem.Spec PyProof.Rows L2 Wp
def nV (n : Nat) : V := .int n
theorem nat_row : ∀ {xs : List V}, (∀ j, j < xs.length → ∃ n : Nat, xs[j]? = some (V.int n)) → ∃ ns : List Nat, xs = ns.map nV
  | [], _ => ⟨[], rfl⟩
  | x :: r, h => by
    obtain ⟨n, hn⟩ := h 0 (Nat.zero_lt_succ _)
    obtain rfl : x = V.int n := Option.some.inj hn
    obtain ⟨ns, rfl⟩ := nat_row (xs := r) fun j hj => by
      obtain ⟨m, hm⟩ := h (j + 1) (by simpa using hj)
      exact ⟨m, by simpa using hm⟩
    exact ⟨n :: ns, rfl⟩
theorem at_nats {ns : List Nat} {j : Nat} {x : V} (h : (ns.map nV)[j]? = some x) : x = .int (ns.getD j 0 : Nat) := by
  rw [List.getElem?_map] at h
  obtain ⟨y, hy, rfl⟩ := Option.map_eq_some_iff.mp h
  rw [List.getD_eq_getElem?_getD, hy]
  rfl
theorem range_getD {α β : Type} {ns : List α} {d : α} {f : α → β} : (List.range ns.length).map (fun i => f (ns.getD i d)) = ns.map f := by
  refine List.ext_getElem (by rw [List.length_map, List.length_map, List.length_range]) fun i h1 h2 => ?_
  rw [List.getElem_map, List.getElem_map, List.getElem_range, List.getD_eq_getElem?_getD, List.getElem?_eq_getElem (by rw [List.length_map] at h2; exact h2)]
  rfl
theorem bt_set {bs : List Bool} {j k : Nat} (hj : j < bs.length) : bt (bs.set j true) k = (decide (k = j) || bt bs k) := by
  unfold bt
  rw [List.getD_eq_getElem?_getD, List.getD_eq_getElem?_getD, List.getElem?_set]
  by_cases h : j = k
  · subst h; rw [if_pos rfl, if_pos hj]; simp
  · rw [if_neg h, decide_eq_false (by omega), Bool.false_or]
theorem mem_take_succ {ns : List Nat} {i k : Nat} (h : i < ns.length) : decide (k ∈ ns.take (i + 1)) = (decide (k = ns.getD i 0) || decide (k ∈ ns.take i)) := by
  rw [List.take_succ, List.getElem?_eq_getElem h, List.getD_eq_getElem?_getD, List.getElem?_eq_getElem h]
  simp only [Option.toList_some, List.mem_append, List.mem_singleton, Option.getD_some]
  by_cases h1 : k = ns[i] <;> by_cases h2 : k ∈ ns.take i <;> simp [h1, h2]
theorem flat_bls {l : List Bool} : (l.map V.bl).all flatV = true := by
  rw [List.all_map, List.all_eq_true]
  intro n _
  rfl
def spOf (K : PySem.W.Frag) (C CP CL : Addr) : Sp := fun vs H Q E => ∃ (a : Addr) (xs : List V), vs = [.ref C, .ref a] ∧ SqL K H a xs ∧ xs.length ≤ 100000 ∧
  (∀ (j : Nat) (x : V), xs[j]? = some x → (∃ n : Nat, x = .int n) ∨ (Np K H x ∧ ((∀ i : Nat, i < j → ∃ n : Nat, xs[i]? = some (V.int n)) → ExcR (Same H) CP "n" x E))) ∧
  (∀ ns : List Nat, xs = ns.map nV → ((∀ n, n ∈ ns → n < 10000) → ∀ x H', H x = none → Same H H' → WF K H' x C (fun k => decide (k ∈ ns)) → Q (.ref x) H') ∧ ((∃ n, n ∈ ns ∧ 10000 ≤ n) → ExcR (Same H) CL "most" (.int 10000) E))
section
variable {P : Program} {w : World} {K : PySem.W.Frag} {mg : Str → Option Value} {base : Heap}
theorem Np.same {H H' : Hp} {v : V} (e : Same H H') : Np K H v → Np K H' v := fun h => h.elim (fun z => .inl (z.same e)) .inr
theorem sc_Where_of : FnScope ["cls", "members", "member", "truths"] ["cls", "members"] (defScope (inClass (topS 19) 1)) := ⟨rfl, rfl, rfl, by decide +kernel, rfl, by decide +kernel, by decide +kernel⟩
theorem ok_Where_of {C CP CT CF CL : Addr} {tk2 : Tok} (B : Bn mg) (c_MOST_START : mg "MOST_START" = some (.int 10000 tk2)) (X_BadPlace : ExT P K mg "BadPlace" CP ["n"]) (X_TooLate : ExT P K mg "TooLate" CL ["most"])
    (G_is_place : CallF P w K mg base "is_place" ["value"] 2 (spPlace K)) (M_Where : MakeF P w K mg base "Where" C 5 (spWhere K C CT CF CL))
    {f : Addr} {fd : FuncData} (F : Fun K "of" "Where.of" (inClass (topS 19) 1) f fd) : FnOk P w K mg base (L2.CX P w) 7 f fd ["cls", "members"] (spOf K C CP CL) := by
  have nd := sc_Where_of.nd
  refine F.okX sc_Where_of (fun vs H Q E h => ?_) (fun cdv A outer s H vs Q E hr h => ?_)
  · obtain ⟨a, xs, rfl, _⟩ := h
    rfl
  · refine ⟨_, (pss_cons (ps_for (passes_of rfl) rfl (pi_listK (K := K) rfl (pv 1)) (pg_name (i := 2) nd rfl (.inl rfl)) (pss_one (ps_if (pt_not (pt_val (pe_callF G_is_place (hr.mono (by decide)) rfl passL (pa_cons (pv 2) pa_nil)))) (pss_one (ps_raiseX rfl X_BadPlace hr (takes_of rfl rfl rfl rfl) (pa_cons (pv 2) pa_nil))) pss_nil)))
      (pss_cons (ps_if (pt_val (pe_callB (cr_anyK (K := K) rfl rfl) (by rfl) B.any_ (by decide +kernel) (pa_cons (pe_lc (own := [("member", 2)]) (g := gName 2) (tt := tYes) rfl nd (pi_listK (K := K) rfl (pv 1)) (blkOk_by (N := ["cls", "members", "member", "truths"]) (sc := defScope (inClass (topS 19) 1)) (by decide +kernel)) (fun _ _ _ _ _ => (pg_name (i := 2) nd rfl (.inl rfl))) (fun _ _ _ _ _ => pts_nil) (fun _ _ _ _ _ => (pe_cmpR op_ge (pv 2) (pe_globI rfl c_MOST_START) (nomark _)))) pa_nil))) (pss_one (ps_raiseX rfl X_TooLate hr (takes_of rfl rfl rfl rfl) (pa_cons (pe_globI rfl c_MOST_START) pa_nil))) pss_nil)
      (pss_cons (ps_set (i := 3) nd rfl (.inl rfl) (pe_op op_rep (pe_lst (pa_cons pe_bl pa_nil)) (pe_op op_add pe_int (pe_callB (cr_maxK (K := K) rfl rfl) (by rfl) B.max_ (by decide +kernel) (pa_cons (pe_lc (own := [("member", 2)]) (g := gName 2) (tt := tYes) rfl nd (pi_listK (K := K) rfl (pe_lst (pa_cons (pe_un un_neg pe_int) (pa_starK (K := K) rfl (pv 1) pa_nil)))) (blkOk_by (N := ["cls", "members", "member", "truths"]) (sc := defScope (inClass (topS 19) 1)) (by decide +kernel)) (fun _ _ _ _ _ => (pg_name (i := 2) nd rfl (.inl rfl))) (fun _ _ _ _ _ => pts_nil) (fun _ _ _ _ _ => (pe_callTy call_in1 (by rfl) B.int_ (by decide +kernel) (pa_cons (pv 2) pa_nil)))) pa_nil)))))
      (pss_cons (ps_for (passes_of rfl) rfl (pi_listK (K := K) rfl (pv 1)) (pg_name (i := 2) nd rfl (.inl rfl)) (pss_one (ps_asg pe_bl (pg_sub (pv 3) (pv 2) set_list))))
      (pss_one (ps_ret (pe_makeL (i := 0) M_Where (hr.mono (by decide)) rfl (.inl rfl) (passes_call (takes_of rfl rfl rfl rfl) (fun _ _ _ _ h => h)) (pa_cons (pv 3) (pa_cons (pe_lst (pa_cons pe_bl pa_nil)) pa_nil))))))))), ?_⟩
    obtain ⟨a, xs, rfl, ha, hxl, hk, q⟩ := h
    refine g_st (σ' := [some (.ref C), some (.ref a), none, none]) rfl ?_
    walk_at "gos"
    refine u_it ha ?_
    refine for_it walk_list (fun i σ' H' => Same H H' ∧ (∃ y, σ' = [some (.ref C), some (.ref a), y, none]) ∧ ∀ j, j < i → ∃ n : Nat, xs[j]? = some (V.int n)) ⟨Same.refl H, ⟨none, rfl⟩, fun j h => absurd h (Nat.not_lt_zero j)⟩ (fun i _ H' _ p => p.1.seq ha) (fun i x σ' H' H2 hi p y => ?_) (fun σ' H1 p => ?_)
    · obtain ⟨e, ⟨y0, rfl⟩, hj⟩ := p
      obtain ⟨rfl, hy⟩ := y
      walk_at "gos"
      rcases hk i x hy with ⟨n, rfl⟩ | ⟨hn, hx⟩
      · refine ⟨_, rfl, .inl ⟨_, rfl, by omega, ?_⟩⟩
        walk_at "gos"
        refine ⟨e, ⟨_, rfl⟩, fun j h => ?_⟩
        by_cases hji : j < i
        · exact hj j hji
        · obtain rfl : j = i := by omega
          exact ⟨n, hy⟩
      · refine ⟨_, rfl, .inr ⟨hn.same e, ?_⟩⟩
        walk_at "gos"
        exact u_raise rfl (by decide) fun d H3 _ e3 hd => hx hj H3 d (e.trans e3) hd
    obtain ⟨e1, ⟨y0, rfl⟩, hall⟩ := p
    obtain ⟨ns, rfl⟩ := nat_row hall
    clear hall hk
    obtain ⟨q1, q2⟩ := q ns rfl
    have hnl : ns.length ≤ 100000 := by rw [List.length_map] at hxl; exact hxl
    have ha1 := e1.seq ha
    walk_at "gos"
    refine u_it ha1 fun D hD => ?_
    refine lc_it walk_list (PvL H1 D (fun _ => true) (fun i => .bl (decide (10000 ≤ ns.getD i 0)))) (lc_start hD) (fun i H' _ p => p.1.seq ha1) (fun i x H3 H4 hi pv y => ?_) (fun H3 pv => ?_)
    · obtain ⟨rfl, hy⟩ := y
      obtain rfl := at_nats hy
      walk_at "gos"
      refine ⟨rfl, ?_⟩
      walk_at "gos"
      rw [List.length_map] at hi
      exact lc_yes hD pv (Same.refl _) rfl (congrArg V.bl (decide_eq_decide.mpr (by omega))) (by omega)
    obtain ⟨e3, h3⟩ := pv
    rw [given_all, List.length_map] at h3
    have h3' : H3 D = some (.lst ((ns.map fun n => decide (10000 ≤ n)).map V.bl)) := by
      rw [h3, List.map_map]
      exact congrArg (fun l => some (HO.lst l)) (range_getD (f := fun n => V.bl (decide (10000 ≤ n))))
    walk_at "gos"
    refine u_any (sqL h3') ?_
    walk_at "gos"
    have e13 := e1.trans e3
    by_cases hbig : ∃ n, n ∈ ns ∧ 10000 ≤ n
    · have hb : (ns.map fun n => decide (10000 ≤ n)).any id = true := by
        obtain ⟨n, h1, h2⟩ := hbig
        rw [List.any_eq_true]
        exact ⟨_, List.mem_map_of_mem h1, decide_eq_true h2⟩
      rw [if_pos hb]
      walk_at "gos"
      exact u_raise rfl (by decide) fun d H4 _ e4 hd => q2 hbig H4 d (e13.trans e4) hd
    have hsm : ∀ n, n ∈ ns → n < 10000 := fun n hn => by
      by_cases h : n < 10000
      · exact h
      · exact absurd ⟨n, hn, by omega⟩ hbig
    have hb : ¬ (ns.map fun n => decide (10000 ≤ n)).any id = true := fun z => by
      rw [List.any_eq_true] at z
      obtain ⟨b, h1, h2⟩ := z
      obtain ⟨n, h4, rfl⟩ := List.mem_map.mp h1
      exact hbig ⟨n, h4, of_decide_eq_true h2⟩
    rw [if_neg hb]
    have ha3 := e3.seq ha1
    clear hb hbig q2 h3 h3'
    walk_at "gos"
    (walk_at "new"; rename_i z1 _ H4 e4 h4; walk_at "gos")
    refine StX.g_star ?_
    walk_at "gos"
    refine ⟨a, _, rfl, .inr (e4.seq ha3), ?_⟩
    walk_at "gos"
    refine ⟨by rw [sizeLine_eq]; simp; omega, fun zp hzp => ?_⟩
    generalize hX : upd H4 zp _ = H5
    obtain ⟨e5, h5⟩ := news hzp hX
    clear hX
    obtain ⟨ms, hms⟩ : ∃ ms : List Int, ms = (-1) :: ns.map Int.ofNat := ⟨_, rfl⟩
    have heq : V.int (-1) :: (ns.map nV ++ []) = ms.map V.int := by rw [List.append_nil, hms, List.map_cons, List.map_map]; rfl
    rw [heq] at h5
    have hml : ms.length = ns.length + 1 := by rw [hms, List.length_cons, List.length_map]
    refine u_it (sqL h5) fun D2 hD2 => ?_
    refine lc_it walk_list (PvL H5 D2 (fun _ => true) (fun i => V.int (Pl.at0 ms i))) (lc_start hD2) (fun i H' _ p => p.1.seq (sqL h5)) (fun i x H6 H7 hi pv y => ?_) (fun H6 pv => ?_)
    · obtain ⟨rfl, hy⟩ := y
      obtain rfl := at_ints hy
      walk_at "gos"
      refine ⟨rfl, ?_⟩
      walk_at "gos"
      rw [List.length_map] at hi
      exact lc_yes hD2 pv (Same.refl _) rfl rfl (by omega)
    obtain ⟨e6, h6⟩ := pv
    rw [given_all, List.length_map] at h6
    have h6' : H6 D2 = some (.lst (ms.map V.int)) := by
      rw [h6]
      exact congrArg (fun l => some (HO.lst l)) (range_getD (d := 0) (f := V.int))
    walk_at "gos"
    refine u_max (sqL h6') (by omega) fun m hm1 hm2 => ?_
    obtain ⟨N, hN⟩ : ∃ N : Nat, (1 : Int) + m = N := by
      rw [hms] at hm1
      rcases List.mem_cons.mp hm1 with rfl | h
      · exact ⟨0, rfl⟩
      · obtain ⟨n, _, rfl⟩ := List.mem_map.mp h
        exact ⟨1 + n, by rw [Int.ofNat_eq_natCast]; omega⟩
    have hN1 : N ≤ 10000 := by
      rw [hms] at hm1
      rcases List.mem_cons.mp hm1 with rfl | h
      · omega
      · obtain ⟨n, hn, rfl⟩ := List.mem_map.mp h
        have := hsm n hn
        simp only [Int.ofNat_eq_natCast] at hN
        omega
    have hN2 : ∀ n, n ∈ ns → n < N := fun n hn => by
      have := hm2 (n : Int) (by rw [hms]; exact List.mem_cons_of_mem _ (List.mem_map_of_mem hn))
      omega
    walk_at "gos"
    rw [hN]
    have e36 : Same H3 H6 := e4.trans (e5.trans e6)
    refine u_rep (e6 _ _ (e5 _ _ h4)) (by omega) (by omega) fun l H7 hl e7 h7 => ?_
    rw [Int.toNat_natCast, ← List.map_replicate] at h7
    clear hm1 hm2 hN h6 h6' e6 hD2 h5 heq hms hml e5 hzp h4 e4
    walk_at "gos"
    refine u_it (e7.seq (e36.seq ha3)) ?_
    refine for_it walk_list (fun i σ' H' => Same H6 H' ∧ (∃ y, σ' = [some (.ref C), some (.ref a), y, some (.ref l)]) ∧ ∃ bs : List Bool, H' l = some (.lst (bs.map V.bl)) ∧ bs.length = N ∧ ∀ k, bt bs k = decide (k ∈ ns.take i)) ⟨e7, ⟨_, rfl⟩, _, h7, List.length_replicate, fun k => ?_⟩ (fun i _ H' _ p => p.1.seq (e36.seq ha3)) (fun i x σ' H' H2 hi p y => ?_) (fun σ' H8 p => ?_)
    · unfold bt
      rw [List.take_zero, List.getD_eq_getElem?_getD, List.getElem?_replicate]
      split <;> simp
    · obtain ⟨e, ⟨y1, rfl⟩, bs, hb1, hb2, hb3⟩ := p
      obtain ⟨rfl, hy⟩ := y
      obtain rfl := at_nats hy
      rw [List.length_map] at hi
      have hin : ns.getD i 0 ∈ ns := by
        rw [List.getD_eq_getElem?_getD, List.getElem?_eq_getElem hi]
        exact List.getElem_mem hi
      walk_at "gos"
      refine u_setL hb1 (by rw [List.length_map, hb2]; exact hN2 _ hin) ?_
      walk_at "gos"
      rw [bset]
      refine ⟨e.mut hl, ⟨_, rfl⟩, _, upd_same, by rw [List.length_set]; exact hb2, fun k => ?_⟩
      rw [bt_set (by rw [hb2]; exact hN2 _ hin), hb3, mem_take_succ hi]
    obtain ⟨e8, ⟨y1, rfl⟩, bs, hb1, hb2, hb3⟩ := p
    walk_at "gos"
    refine g_makeL rfl ?_
    walk_at "gos"
    (walk_at "new"; rename_i z3 _ H9 e9 h9; walk_at "gos")
    rw [List.length_map, List.take_length] at hb3
    have e09 : Same H H9 := e13.trans (e36.trans (e8.trans e9))
    refine u_where (B := bs) (R := [false]) (.inl (sqL (e9 _ _ hb1))) (.inl (sqL h9)) (by decide) (by omega) (by decide) fun x H10 hx e10 hw => ?_
    refine q1 hsm x H10 ?_ (e09.trans e10) ?_
    · cases hh : H x with
      | none => rfl
      | some o => rw [e09 _ _ hh] at hx; cases hx
    · obtain ⟨bl, rl, w1, w2, w3⟩ := hw
      refine ⟨bl, rl, w1, w2, fun k => ?_⟩
      rw [w3]
      unfold mem
      by_cases hk : k < bs.length
      · rw [if_pos hk, hb3]
      · show _ = decide (k ∈ ns)
        rw [if_neg hk, decide_eq_false (fun z => hk (by rw [hb2]; exact hN2 _ z))]
        simp [bt, Nat.mod_one]
end
end Ev

end
/-! any of a tuple of truths -/
namespace L2
open PySem PySem.Spec PyProof.Rows
def rAnyT (K : PySem.W.Frag) : List V → Hp → VK → Prop := fun vs H Q => ∃ (a : Addr) (bs : List Bool), vs = [V.ref a] ∧ SqT K H a (bs.map V.bl) ∧ Q (.bl (bs.any id)) H
theorem iter_anyT {prog : Program} {w : World} {A : Around} {E : Value → Shared → Prop} {s : Shared} {l : Addr} {items : Array Value} {Q : Value → Shared → Prop} (hl : s.heap.IsTuple l items)
    (h : ∀ s₂ : Shared, s₂ = { s with heap := s.heap.push { cls := .type "tuple_iterator", data := .fields #[.ref l, .int 0 0] } } →
      (s₂.heap.IsTupleIter s.heap.objs.size l 0 ∧ s₂.heap.IsTuple l items) → l ≠ s.heap.objs.size → Q (.ref s.heap.objs.size) s₂) : wpAny (model prog w) A (pyIter (.ref l)) Q E s := by
  have hlt : l < s.heap.objs.size := by obtain ⟨_, e, _⟩ := hl; exact Heap.lt_size e
  exact wpAny_pyIter_tuple hl (h _ rfl ⟨⟨_, Heap.get?_push_size _ rfl, rfl, rfl⟩, hl.push _⟩ (Nat.ne_of_lt hlt))
section
variable {X : Cx} {K : PySem.W.Frag}
theorem cr_anyT (hk : X.K = K) (hc : X.calm = true) : CallR X (.builtin "any") (rAnyT K) := by
  subst hk
  intro pins s σ H vs us Q I r h
  obtain ⟨a, bs, rfl, hs, q⟩ := h
  obtain ⟨its, rv, hl, _⟩ := I.tuple hs
  rw [Vals.ref1 r]
  have hb := rv.bls
  refine call_any_walk (iter_anyT hl fun s₂ e2 st hne => ?_)
  subst e2
  refine ⟨_, _, _, _, _, _, _, rfl, Walks.tuple (A := X.A.in1) (I.ok.hd hc) _ a hne its.toArray, st, truth_bools hb, fun h' tk hk => ?_⟩
  refine ⟨.bl _, H, I.kept fun b o eo => hk b o (fun hmem => ?_) (Heap.get?_push_of_some _ eo), ?_, q⟩
  · rcases List.mem_cons.mp hmem with e1 | hmem
    · exact absurd (e1 ▸ Heap.lt_size eo) (Nat.lt_irrefl _)
    · cases hmem
  · show Value.bool _ = Value.bool _
    rw [← any_range, hb, List.size_toArray, List.length_map]
theorem u_anyT {a : Addr} {bs : List Bool} {H : Hp} {Q : VK} (h : SqT K H a (bs.map V.bl)) (q : Q (.bl (bs.any id)) H) : rAnyT K [.ref a] H Q := ⟨a, bs, rfl, h, q⟩
end
end L2

/-! own operators: p op q, p op i, i op p, -p. -/
namespace L2
open PySem PySem.Spec PyProof.Rows
theorem rel_back {v : V} {u : Value} {Q : Value → Shared → Prop} {s : Shared} (r : RelV v u) (q : Q u s) : PySem.W.CmpBack Q u s := by
  cases v <;> first
    | (obtain rfl := r; exact q)
    | (obtain ⟨t, rfl⟩ := r; exact q)
    | exact (show PySem.W.CmpBack Q u s from by cases u <;> first | exact q | cases r)
/-- p op q, both of the class -/
def rOp2 (C : Addr) (sp : Sp) (E : XK) : R2 := fun x y H Q => ∃ a dx fs b dy gs, x = .ref a ∧ H a = some (.ins C dx fs) ∧ y = .ref b ∧ H b = some (.ins C dy gs) ∧ sp [x, y] H Q E
/-- p op i -/
def rOpI (C : Addr) (sp : Sp) (E : XK) : R2 := fun x y H Q => ∃ a dx fs i, x = .ref a ∧ H a = some (.ins C dx fs) ∧ y = .int i ∧ sp [x, y] H Q E
/-- -p -/
def rNegO (C : Addr) (sp : Sp) (E : XK) : V → Hp → VK → Prop := fun x H Q => ∃ a dx fs, x = .ref a ∧ H a = some (.ins C dx fs) ∧ sp [x] H Q E
section
variable {X : Cx} {C f : Addr} {fd : FuncData} {ps : List Str} {n : Nat} {sp : Sp} {E : XK} {op : Operator} {m : Str}
theorem op_own2 (G : OwnF X.prog X.w X.K X.mg X.base C m ps n sp) (hm : m = PySem.dunder op.info.2) (hc : PySem.W.selfFirst X.K C = true) (hr : Room n X.A) (hx : Passes (L2.CX X.prog X.w) X E) : OpR X (binaryOp op) (rOp2 C sp E) := by
  intro pins s σ H x y v u Q I rx ry hq
  obtain ⟨f, fd, F, hs, hf, hb⟩ := G.ex
  obtain ⟨a, dx, fs, b, dy, gs, rfl, ha, rfl, hb', q⟩ := hq
  subst hm
  cases rx
  cases ry
  obtain ⟨_, J1, _⟩ := ins_get I.hok ha
  obtain ⟨_, J, _⟩ := J1.look
  obtain ⟨_, J2, _⟩ := ins_get I.hok hb'
  obtain ⟨_, J', _⟩ := J2.look
  obtain ⟨mm, hF⟩ := I.fr
  refine PySem.W.binop_K hF I.ok.mod.kin J J'.type hc hs hf ?_
  refine wpAny_mono (run_two F ⟨hr, rfl⟩ hb hx I (x := .ref a) (u := .ref a) (y := .ref b) (v := .ref b) rfl rfl q) (fun r s' z => ?_) fun _ _ e => e
  obtain ⟨z, H', I', rz, q'⟩ := z
  exact rel_back rz ⟨z, H', I', rz, q'⟩
theorem op_ownI {fo ro rc : Option Value} (G : OwnF X.prog X.w X.K X.mg X.base C m ps n sp) (hm : m = PySem.dunder op.info.2) (hc : PySem.W.selfFirst X.K C = true) (h1 : PySem.W.findIn X.K (.type "int") (PySem.dunder op.info.2) = some fo) (h2 : PySem.W.findIn X.K (.type "int") (dunderR op.info.2) = some ro)
    (h3 : PySem.W.findIn X.K (.ref C) (dunderR op.info.2) = some rc) (h4 : rc = none ∨ ∃ g : Addr, rc = some (.ref g)) (h5 : PySem.W.subIn X.K (.type "int") (.ref C) = some false) (hr : Room n X.A) (hx : Passes (L2.CX X.prog X.w) X E) : OpR X (binaryOp op) (rOpI C sp E) := by
  intro pins s σ H x y v u Q I rx ry hq
  obtain ⟨f, fd, F, hs, hf, hb⟩ := G.ex
  obtain ⟨a, dx, fs, i, rfl, ha, rfl, q⟩ := hq
  subst hm
  cases rx
  obtain ⟨t, rfl⟩ := ry
  obtain ⟨_, J1, _⟩ := ins_get I.hok ha
  obtain ⟨_, J, _⟩ := J1.look
  obtain ⟨mm, hF⟩ := I.fr
  refine PySem.W.ksp_binT (T := "int") hF I.ok.mod.kin J (by rfl) hc hs hf h3 h4 h1 h2 h5 ?_
  refine wpAny_mono (run_two F ⟨hr, rfl⟩ hb hx I (x := .ref a) (u := .ref a) (y := .int i) (v := .int i t) rfl ⟨t, rfl⟩ q) (fun r s' z => ?_) fun _ _ e => e
  obtain ⟨z, H', I', rz, q'⟩ := z
  exact rel_back rz ⟨z, H', I', rz, q'⟩
theorem un_own (G : OwnF X.prog X.w X.K X.mg X.base C "__neg__" ps n sp) (hr : Room n X.A) (hx : Passes (L2.CX X.prog X.w) X E) : UnR X (unaryOp .USub) (rNegO C sp E) := by
  intro pins s σ H x v Q I rx hq
  obtain ⟨f, fd, F, hs, hf, hb⟩ := G.ex
  obtain ⟨a, dx, fs, rfl, ha, q⟩ := hq
  cases rx
  obtain ⟨_, J1, _⟩ := ins_get I.hok ha
  obtain ⟨_, J, _⟩ := J1.look
  obtain ⟨mm, hF⟩ := I.fr
  refine PySem.W.ksp_neg hF I.ok.mod.kin J hs hf ?_
  exact run_fn F hr hb .nil hx I (.cons (show RelV (.ref a) (.ref a) from rfl) .nil) (by simpa using q)
theorem op_ownEqK {K : PySem.W.Frag} (h : X.K = K) (G : OwnF X.prog X.w K X.mg X.base C "__eq__" ps n sp) (hr : Room n X.A) (hx : Passes (L2.CX X.prog X.w) X E) : OpR X (compareOp .Eq) (rOwn K C sp E false) := by
  subst h
  exact op_ownEq G hr hx
theorem op_ownNeK {K : PySem.W.Frag} (h : X.K = K) (G : OwnF X.prog X.w K X.mg X.base C "__eq__" ps n sp) (N : NoNe K C) (hr : Room (n + 1) X.A) (hx : Passes (L2.CX X.prog X.w) X E) : OpR X (compareOp .NotEq) (rOwn K C sp E true) := by
  subst h
  exact op_ownNe G N hr hx
end
end L2

/-! v in x, bool(x), x < y, ~x where x is of an own class. -/
namespace PySem.W
open PySem PySem.Calls PyProof.Rows PyProof.V PySem.Spec PySem.Builtin
section
variable {M : Model} {A : Around} {E : Value → Shared → Prop} {s : Shared} {K : Frag} {x C L f : Addr} {h₀ : Heap} {m : Str → Option Value} {ox : Obj} {od : Option Obj} {v : Value}
theorem own_in {Q : Bool → Shared → Prop} (X : K.In s.heap) (I : InstAt s.heap x ox C od) (hs : findIn K (.ref C) "__contains__" = some (some (.ref f))) (hf : isFn K (.ref f) = true)
    (h : wpAny M A (call (.ref f) [.ref x, v]) (fun r s' => ∃ b, r = .bool b ∧ Q b s') E s) : wpAny M A (contains (.ref x) v) Q E s := by
  unfold contains
  refine wpAny_holding ?_
  simp only [stdlibNamesSay?]
  refine wpAny_bind (wpAny_bind (I.type.here ((looks_findIn X hs).here ?_)))
  have hne : (some (Value.ref f) == some Value.none) = false := rfl
  rw [hne, if_neg Bool.false_ne_true]
  unfold callSpecialUnlessNone?
  refine wpAny_bind (wpAny_bind (wpAny_bind (I.type.here ((looks_findIn X hs).here ?_))))
  refine wpAny_holding (wpAny_bind ((bind_fn X _ (beq_iff_eq.mp hf)).here ?_))
  have hne2 : (Value.ref f == Value.none) = false := rfl
  simp only [hne2, Bool.false_eq_true, if_false]
  refine wpAny_bind (wpAny_mono h (fun r s' z => ?_) fun _ _ e => e)
  obtain ⟨b, rfl, q⟩ := z
  exact wpAny_pure (wpAny_pure q)
theorem own_truthy {Q : Bool → Shared → Prop} (X : K.In s.heap) (I : InstAt s.heap x ox C od) (hs : findIn K (.ref C) "__bool__" = some (some (.ref f))) (hf : isFn K (.ref f) = true)
    (h : wpAny M A (call (.ref f) [.ref x]) (fun r s' => ∃ b, r = .bool b ∧ Q b s') E s) : wpAny M A (truthy (.ref x)) Q E s := by
  unfold truthy
  refine wpAny_bind (special_fn X I hs (beq_iff_eq.mp hf) (wpAny_mono h (fun r s' z => ?_) fun _ _ e => e))
  obtain ⟨b, rfl, q⟩ := z
  exact wpAny_pure q
end
end PySem.W
namespace L2
open PySem PySem.Spec PyProof.Rows
def rInO (C : Addr) (sp : Sp) (E : XK) (neg : Bool) : R2 := fun x y H Q => ∃ a dx fs, y = .ref a ∧ H a = some (.ins C dx fs) ∧ sp [y, x] H (fun v H' => ∃ r, v = .bl r ∧ Q (.bl (if neg then !r else r)) H') E
def rTruO (C : Addr) (sp : Sp) (E : XK) (x : V) (H : Hp) (Q : Bool → Hp → Prop) : Prop := ∃ a dx fs, x = .ref a ∧ H a = some (.ins C dx fs) ∧ sp [x] H (fun v H' => ∃ r, v = .bl r ∧ Q r H') E
def tTruO (C : Addr) (sp : Sp) (E : XK) (ta : TE) : TT := fun σ H Q => ta σ H fun x H' => rTruO C sp E x H' Q
section
variable {X : Cx} {C f : Addr} {fd : FuncData} {ps : List Str} {n : Nat} {sp : Sp} {E : XK}
theorem op_ownC {op : CmpOp} {m : Str} (G : OwnF X.prog X.w X.K X.mg X.base C m ps n sp) (hm : m = (cmpInfo op).2.1) (hop : ∀ a b, compareOp op a b = richCompare op a b) (hr : Room n X.A) (hx : Passes (L2.CX X.prog X.w) X E) : OpR X (compareOp op) (rOp2 C sp E) := by
  intro pins s σ H x y v u Q I rx ry hq
  obtain ⟨f, fd, F, hs, hf, hb⟩ := G.ex
  obtain ⟨a, dx, fs, b, dy, gs, rfl, ha, rfl, hb', q⟩ := hq
  subst hm
  cases rx
  cases ry
  obtain ⟨_, J1, _⟩ := ins_get I.hok ha
  obtain ⟨_, J, _⟩ := J1.look
  obtain ⟨_, J2, _⟩ := ins_get I.hok hb'
  obtain ⟨_, J', _⟩ := J2.look
  obtain ⟨mm, hF⟩ := I.fr
  rw [hop]
  refine PySem.W.cmp_K (op := op) (tb := .ref C) hr.units0 hF I.ok.mod.kin J J'.type (by unfold PySem.W.notFirst; simp) hs hf ?_
  refine wpAny_mono (run_two F ⟨hr, rfl⟩ hb hx I (x := .ref a) (u := .ref a) (y := .ref b) (v := .ref b) rfl rfl q) (fun r s' z => ?_) fun _ _ e => e
  obtain ⟨z, H', I', rz, q'⟩ := z
  exact rel_back rz ⟨z, H', I', rz, q'⟩
theorem op_inO (G : OwnF X.prog X.w X.K X.mg X.base C "__contains__" ps n sp) (hr : Room n X.A) (hx : Passes (L2.CX X.prog X.w) X E) : OpR X (compareOp .In) (rInO C sp E false) := by
  intro pins s σ H x y v u Q I rx ry hq
  obtain ⟨f, fd, F, hs, hf, hb⟩ := G.ex
  obtain ⟨a, dx, fs, rfl, ha, q⟩ := hq
  cases ry
  obtain ⟨_, J1, _⟩ := ins_get I.hok ha
  obtain ⟨_, J, _⟩ := J1.look
  show wpAny (model X.prog X.w) X.A (contains (.ref a) v >>= fun b => pure (Value.bool b)) _ _ _
  refine wpAny_bind (PySem.W.own_in I.kIn J hs hf ?_)
  refine wpAny_mono (run_two F ⟨hr, rfl⟩ hb hx I (x := .ref a) (u := .ref a) (y := x) (v := v) rfl rx q) (fun r s' z => ?_) fun _ _ e => e
  obtain ⟨z, H', I', rz, b, rfl, q'⟩ := z
  cases rz
  exact ⟨b, rfl, wpAny_pure ⟨.bl b, H', I', rfl, q'⟩⟩
theorem op_notInO (G : OwnF X.prog X.w X.K X.mg X.base C "__contains__" ps n sp) (hr : Room n X.A) (hx : Passes (L2.CX X.prog X.w) X E) : OpR X (compareOp .NotIn) (rInO C sp E true) := by
  intro pins s σ H x y v u Q I rx ry hq
  obtain ⟨f, fd, F, hs, hf, hb⟩ := G.ex
  obtain ⟨a, dx, fs, rfl, ha, q⟩ := hq
  cases ry
  obtain ⟨_, J1, _⟩ := ins_get I.hok ha
  obtain ⟨_, J, _⟩ := J1.look
  show wpAny (model X.prog X.w) X.A (contains (.ref a) v >>= fun b => pure (Value.bool (!b))) _ _ _
  refine wpAny_bind (PySem.W.own_in I.kIn J hs hf ?_)
  refine wpAny_mono (run_two F ⟨hr, rfl⟩ hb hx I (x := .ref a) (u := .ref a) (y := x) (v := v) rfl rx q) (fun r s' z => ?_) fun _ _ e => e
  obtain ⟨z, H', I', rz, b, rfl, q'⟩ := z
  cases rz
  exact ⟨b, rfl, wpAny_pure ⟨.bl (!b), H', I', rfl, q'⟩⟩
theorem un_invO (G : OwnF X.prog X.w X.K X.mg X.base C "__invert__" ps n sp) (hr : Room n X.A) (hx : Passes (L2.CX X.prog X.w) X E) : UnR X (unaryOp .Invert) (rNegO C sp E) := by
  intro pins s σ H x v Q I rx hq
  obtain ⟨f, fd, F, hs, hf, hb⟩ := G.ex
  obtain ⟨a, dx, fs, rfl, ha, q⟩ := hq
  cases rx
  obtain ⟨_, J1, _⟩ := ins_get I.hok ha
  obtain ⟨_, J, _⟩ := J1.look
  obtain ⟨mm, hF⟩ := I.fr
  refine PySem.W.ksp_inv hF I.ok.mod.kin J hs hf ?_
  exact run_fn F hr hb .nil hx I (.cons (show RelV (.ref a) (.ref a) from rfl) .nil) (by simpa using q)
/-- a method of one runs below the body -/
theorem run_one {A : Around} {pins : List (Addr × Obj)} {σ : St} {H : Hp} {s : Shared} {Q : VK} {x : V} {u : Value} (F : FnOk X.prog X.w X.K X.mg X.base (L2.CX X.prog X.w) n f fd ps sp) (sb : Sub X n A) (hb : Binds X.K fd ps []) (hx : Passes (L2.CX X.prog X.w) X E)
    (I : Inv X pins σ H s) (r1 : RelV x u) (h : sp [x] H Q E) : wpAny (model X.prog X.w) A (call (.ref f) [u]) (EP X pins σ Q) X.xe s := by
  have e0 : Env0 X.prog X.w X.K X.mg X.base A X.stack s H := by
    have e := I.env0
    exact ⟨by rw [sb.fr]; exact e.frames, e.mod, e.bs, e.bsz, e.funs, e.frf, e.hok, e.bare⟩
  have hl := F.len _ _ _ _ h
  have rr : Vals [x] [u] := .cons r1 .nil
  refine wpAny_call (codeAny_mono (F.run A X.stack s H ⟨[u], []⟩ [u] [x] _ E sb.room e0 (by
    have := hb s [u] I.kIn (by simpa using hl)
    simpa using this) rr h) fun r s' hq => ?_)
  cases r with
  | error e => exact hx pins σ H s e s' I hq
  | ok fl =>
    cases fl with
    | ret w => exact I.after hq
    | next => exact False.elim hq
    | brk => exact False.elim hq
    | cont => exact False.elim hq
theorem tru_own {A : Around} (G : OwnF X.prog X.w X.K X.mg X.base C "__bool__" ps n sp) (sb : Sub X n A) (hx : Passes (L2.CX X.prog X.w) X E) {pins : List (Addr × Obj)} {s : Shared} {σ : St} {H : Hp} {x : V} {v : Value} {Q : Bool → Hp → Prop} (I : Inv X pins σ H s) (rx : RelV x v) (h : rTruO C sp E x H Q) :
    wpAny (model X.prog X.w) A (truthy v) (fun b s' => ∃ H', Inv X pins σ H' s' ∧ Q b H') X.xe s := by
  obtain ⟨f, fd, F, hs, hf, hb⟩ := G.ex
  obtain ⟨a, dx, fs, rfl, ha, q⟩ := h
  cases rx
  obtain ⟨_, J1, _⟩ := ins_get I.hok ha
  obtain ⟨_, J, _⟩ := J1.look
  refine PySem.W.own_truthy I.kIn J hs hf ?_
  refine wpAny_mono (run_one F sb hb hx I (x := .ref a) (u := .ref a) rfl q) (fun r s' z => ?_) fun _ _ e => e
  obtain ⟨z, H', I', rz, b, rfl, q'⟩ := z
  cases rz
  exact ⟨b, rfl, H', I', q'⟩
theorem pt_own {a : Expr} {ta : TE} (G : OwnF X.prog X.w X.K X.mg X.base C "__bool__" ps n sp) (hr : Room n X.A) (hx : Passes (L2.CX X.prog X.w) X E) (ha : PE X a ta) (he : ∀ whole, isTrue a X.env whole = (do let v ← whole; standAt a.pos; holding [v] (truthy v))) : PT X a (tTruO C sp E ta) := by
  refine ⟨fun pins s σ H Q I h => ?_⟩
  refine isTrue_plain (thn (ha.run pins s σ H _ I h) fun v s1 ⟨x, H1, I1, r1, q1⟩ => ?_) (he _)
  exact tru_own G ⟨hr, rfl⟩ hx I1 r1 q1
theorem g_truO {ta : TE} {σ : St} {H : Hp} {Q : Bool → Hp → Prop} (q : ta σ H fun x H' => rTruO C sp E x H' Q) : tTruO C sp E ta σ H Q := q
/-- not a -/
theorem pe_notO {a : Expr} {ta : TE} {pos : Pos} (G : OwnF X.prog X.w X.K X.mg X.base C "__bool__" ps n sp) (hr : Room n X.A) (hx : Passes (L2.CX X.prog X.w) X E) (ha : PE X a ta) : PE X (.UnaryOp .Not a pos) (fun σ H Q => ta σ H fun x H' => rTruO C sp E x H' fun b H2 => Q (.bl (!b)) H2) := by
  refine ⟨fun pins s σ H Q I h => ?_⟩
  refine UnaryOp_ (thn (ha.run pins s σ H _ I h) fun v s1 ⟨x, H1, I1, r1, q1⟩ => ?_)
  exact not_of (thn (tru_own G ⟨hr, rfl⟩ hx I1 r1 q1) fun c s2 ⟨H2, I2, q2⟩ => ⟨.bl (!c), H2, I2, rfl, q2⟩)
theorem call_boolO (G : OwnF X.prog X.w X.K X.mg X.base C "__bool__" ps n sp) (hr : Room (n + 2) X.A) (hx : Passes (L2.CX X.prog X.w) X E) : CallR X (.type "bool") (fun xs H Q => ∃ x, xs = [x] ∧ rTruO C sp E x H fun b H2 => Q (.bl b) H2) := by
  intro pins s σ H xs us Q I r h
  obtain ⟨x, rfl, h⟩ := h
  obtain ⟨u, rfl, r1⟩ := vals1 r
  have sb : Sub X n X.A.in1.in1 := Sub.in1 (Sub.in1 ⟨hr, rfl⟩)
  have key := tru_own (A := X.A.in1.in1) G sb hx I r1 h
  refine PySem.callType_newIn (prog := X.prog) (w := X.w) (S := fun A R s => wpAny (model X.prog X.w) A.in1 (truthy u) (fun b s' => R (.ok (.ret (.bool b))) s') (fun e s' => R (.error e) s') s) F.called_bool F.newNe_bool (F.typeCall_bool_1 u) (F.newCall_bool_1 u) (fun obj => F.args_object_init_2 obj u) F.entry_bool_new (.of_wp fun A R s h => ?_) ?_
  · have f1 := PySem.F.conv_sub_bool
    unfold PySem.Builtin.«bool.__new__»
    repeat (first | (with_reducible refine wpAny_bind (wpAny_mono h (fun b s' hb => ?_) (fun _ _ e => e))) | assumption | wp_step)
    exact ⟨_, rfl, hb⟩
  · refine wpAny_mono key (fun b s' z => ?_) fun _ _ e => e
    obtain ⟨H', I', q⟩ := z
    exact ⟨rfl, .bl b, H', I', rfl, q⟩
end
end L2

section
open L2 in
local macro_rules | `(tactic| walk_at "gx") => `(tactic| first
  | ((with_reducible show tVar _ _ _ _); refine g_var rfl ?_)
  | with_reducible refine g_c ?_
  | with_reducible refine g_op ?_
  | with_reducible refine g_cons ?_
  | with_reducible refine g_nil ?_
  | with_reducible refine g_test ?_
  | with_reducible refine g_blp ?_
  | with_reducible refine g_asg ?_
  | (with_reducible refine g_name ?_; (try simp only [List.set_cons_zero, List.set_cons_succ]))
  | with_reducible refine g_call ?_
  | with_reducible refine g_cb ?_
  | with_reducible refine g_I0 ?_
  | with_reducible refine g_U ?_
  | with_reducible refine g_eqI ?_
  | with_reducible refine g_neI ?_
  | with_reducible refine g_if ?_
  | with_reducible refine g_ret ?_
  | with_reducible refine g_retN ?_
  | with_reducible refine g_next ?_
  | with_reducible refine g_drop ?_
  | with_reducible refine g_un ?_
  | with_reducible refine g_tb ?_
  | with_reducible refine g_tup ?_
  | with_reducible refine g_lst ?_
  | with_reducible refine g_and ?_
  | with_reducible refine g_or ?_
  | with_reducible refine g_not ?_
  | with_reducible refine g_andV ?_
  | with_reducible refine g_orV ?_
  | with_reducible refine g_notV ?_
  | with_reducible refine g_ifE ?_
  | with_reducible refine g_fld ?_
  | with_reducible refine g_tt ?_
  | with_reducible refine g_ff ?_
  | with_reducible refine g_ntt ?_
  | with_reducible refine g_nff ?_
  | with_reducible refine g_for ?_
  | with_reducible refine g_list ?_
  | with_reducible refine g_tupI ?_
  | with_reducible refine g_rng1 ?_
  | with_reducible refine g_rng2 ?_
  | with_reducible refine g_enumA ?_
  | with_reducible refine g_rev ?_
  | with_reducible refine g_lc ?_
  | with_reducible refine g_gcons ?_
  | with_reducible refine g_gnil ?_
  | with_reducible refine g_yes ?_
  | with_reducible refine g_sl ?_
  | with_reducible refine g_nopart ?_
  | with_reducible refine g_part ?_
  | with_reducible refine g_int ?_
  | with_reducible refine g_dget ?_
  | with_reducible refine g_dput ?_
  | with_reducible refine g_raiseX ?_
  | with_reducible refine g_tru ?_
  | with_reducible refine g_sub ?_
  | with_reducible refine g_isN ?_
  | with_reducible refine g_notN ?_
  | with_reducible refine g_bm ?_
  | with_reducible refine L2.g_bm0 ?_
  | with_reducible refine g_pair ?_
  | with_reducible refine g_pair0 ?_
  | with_reducible refine u_int1 ?_
  | with_reducible refine g_chain ?_
  | with_reducible refine L2.g_sfld ?_
  | (with_reducible refine g_par3 ?_)
  | (with_reducible refine g_three ?_; (try simp only [List.set_cons_zero, List.set_cons_succ]))
  | ((with_reducible apply L2.g_tupT); walk_at "up"; rfl)
  | (with_reducible refine g_par ?_)
  | (with_reducible refine g_two ?_; (try simp only [List.set_cons_zero, List.set_cons_succ]))
  )
local macro_rules | `(tactic| walk_at "go") => `(tactic| first | walk_at "gx" | with_reducible refine L2.g_seq ?_)
local macro_rules | `(tactic| walk_at "gou") => `(tactic| repeat (walk_at "gx"))
local macro_rules | `(tactic| walk_at "gos") => `(tactic| repeat (walk_at "go"))
local macro_rules | `(tactic| walk_at "sl") => `(tactic| first
  | assumption
  | exact L2.Same.l (by assumption)
  | exact L2.SameD.l (by assumption)
  | exact L2.extN_l (by assumption))
local macro_rules | `(tactic| walk_at "up") => `(tactic| first
  | assumption
  | ((with_reducible apply L2.SameL.lst); walk_at "sl"; walk_at "up")
  | ((with_reducible apply L2.SameL.tupA); walk_at "sl"; walk_at "up")
  | ((with_reducible apply L2.SameL.ins); walk_at "sl"; walk_at "up")
  | ((with_reducible apply Ev.PB.l); walk_at "sl"; walk_at "up")
  | ((with_reducible apply Ev.IsP.l); walk_at "sl"; walk_at "up")
  | ((with_reducible apply L2.sqL); walk_at "up")
  | ((with_reducible apply L2.sqT); walk_at "up")
  | ((with_reducible apply L2.SameL.seq); walk_at "sl"; walk_at "up")
  | ((with_reducible apply Ev.Pen.same); assumption; walk_at "up")
  | ((with_reducible apply Ev.Pen.extN); assumption; walk_at "up")
  | ((with_reducible apply L2.tabs_s); assumption; walk_at "up")
  | ((with_reducible apply L2.tabs_dd); assumption; walk_at "up")
  | ((with_reducible apply Or.inl); walk_at "up")
  | ((with_reducible apply Or.inr); walk_at "up"))
local macro_rules | `(tactic| walk_at "new") => `(tactic| (
  first
    | refine ⟨L2.size_ok (by rfl), fun p hp => ?_⟩
    | refine fun p hp => ?_
  generalize hX : L2.upd _ p _ = H1
  obtain ⟨e, h⟩ := L2.news hp hX
  clear hX))
local macro_rules | `(tactic| walk_at "o") => `(tactic| first
  | ((with_reducible apply Ev.o_add); walk_at "up"; walk_at "up"; rfl; rfl; rfl)
  | ((with_reducible apply Ev.o_sub); walk_at "up"; walk_at "up"; rfl; rfl; rfl)
  | ((with_reducible apply Ev.o_mul); walk_at "up"; walk_at "up"; rfl; rfl; rfl)
  | ((with_reducible apply Ev.o_addI); walk_at "up"; assumption; rfl; rfl; rfl)
  | ((with_reducible apply Ev.o_subI); walk_at "up"; assumption; rfl; rfl; rfl)
  | ((with_reducible apply Ev.o_mulI); walk_at "up"; assumption; rfl; rfl; rfl)
  | ((with_reducible apply Ev.o_radd); walk_at "up"; assumption; rfl; rfl; rfl)
  | ((with_reducible apply Ev.o_rsub); walk_at "up"; assumption; rfl; rfl; rfl)
  | ((with_reducible apply Ev.o_rmul); walk_at "up"; assumption; rfl; rfl; rfl)
  | ((with_reducible apply Ev.o_neg); walk_at "up"; rfl; rfl; rfl))
local macro_rules | `(tactic| walk_at "eq") => `(tactic| ((with_reducible apply Ev.u_ownB); assumption; walk_at "up"; walk_at "up"; (focus (intro k; first | rfl | exact Pl.e_add | exact Pl.e_sub | exact Pl.e_mul | exact Pl.e_rsub | exact Pl.e_rsub2))))
local macro_rules | `(tactic| walk_at "isp") => `(tactic| (apply Ev.u_isB; walk_at "up"; walk_at "up"; rfl; rfl))

/-! n in w, bool(w). -/
namespace Wp
theorem any_bt {l : List Bool} : l.any id = true ↔ ∃ i, i < l.length ∧ bt l i = true := by
  rw [List.any_eq_true]
  constructor
  · rintro ⟨b, h1, h2⟩
    obtain ⟨i, hi, rfl⟩ := List.getElem_of_mem h1
    exact ⟨i, hi, by rw [bt_in hi]; exact h2⟩
  · rintro ⟨i, h1, h2⟩
    rw [bt_in h1] at h2
    exact ⟨_, List.getElem_mem h1, h2⟩
theorem any_mem {b r : List Bool} (hr : 0 < r.length) : (b.any id || r.any id) = true ↔ ∃ n, mem b r n = true := by
  rw [Bool.or_eq_true, any_bt, any_bt]
  constructor
  · rintro (⟨i, h1, h2⟩ | ⟨i, h1, h2⟩)
    · exact ⟨i, by unfold mem; rw [if_pos h1]; exact h2⟩
    · refine ⟨i + b.length * r.length, ?_⟩
      unfold mem
      have : b.length ≤ b.length * r.length := Nat.le_mul_of_pos_right _ hr
      rw [if_neg (by omega), Nat.add_mul_mod_self_right, Nat.mod_eq_of_lt h1]
      exact h2
  · rintro ⟨n, h⟩
    unfold mem at h
    by_cases hn : n < b.length
    · rw [if_pos hn] at h
      exact .inl ⟨n, hn, h⟩
    · rw [if_neg hn] at h
      exact .inr ⟨_, Nat.mod_lt _ hr, h⟩
end Wp
namespace Ev
open PySem PySem.Spec PyProof.Rows L2 Wp
theorem in_bools {l : List Bool} : inV (.bl true) (l.map V.bl) = l.any id := by
  unfold inV
  rw [List.any_map]
  congr 1
  funext b
  show eqV (.bl b) (.bl true) = b
  cases b <;> decide
section
variable {P : Program} {w : World} {K : PySem.W.Frag} {mg : Str → Option Value} {base : Heap}
def spTruth (K : PySem.W.Frag) (C : Addr) : Sp := fun vs H Q _ => ∃ (x : Addr) (n : Nat) (f : Nat → Bool), vs = [.ref x, .int n] ∧ WF K H x C f ∧ Q (.bl (f n)) H
theorem sc_Where_truth : FnScope ["self", "n"] ["self", "n"] (defScope (inClass (topS 19) 4)) := ⟨rfl, rfl, rfl, by decide +kernel, rfl, by decide +kernel, by decide +kernel⟩
theorem ok_Where_truth {C_Where : Addr} (B : Bn mg) (c_Where : Cls K C_Where) (n1 : NoAttr K C_Where "period") (n2 : NoAttr K C_Where "rests") (n3 : NoAttr K C_Where "start") (n4 : NoAttr K C_Where "below")
    {f : Addr} {fd : FuncData} (F : Fun K "truth" "Where.truth" (inClass (topS 19) 4) f fd) : FnOk P w K mg base (L2.CX P w) 1 f fd ["self", "n"] (spTruth K C_Where) := by
  have nd := sc_Where_truth.nd
  refine F.okX sc_Where_truth (fun vs H Q E h => ?_) (fun cdv A outer s H vs Q E hr h => ?_)
  · obtain ⟨x, n, f, rfl, _⟩ := h
    rfl
  · refine ⟨_, (pss_one (ps_ret (pe_ifExp (pt_cmpR op_lt (pv 1) (pe_fldK (K := K) rfl (pv 0) rfl) (nomark _)) (pe_ix (ix_tupK (K := K) rfl) (pe_fldK (K := K) rfl (pv 0) rfl) (pv 1) (fun _ _ => rfl)) (pe_ix (ix_tupK (K := K) rfl) (pe_fldK (K := K) rfl (pv 0) rfl) (pe_op op_modN (pv 1) (pe_fldK (K := K) rfl (pv 0) rfl)) (fun _ _ => rfl))))), ?_⟩
    obtain ⟨x, n, f, rfl, ⟨bl, rl, ⟨dx, t1, t2, hx, h1, h2⟩, hn, hm⟩, q⟩ := h
    refine g_st (σ' := [some (.ref x), some (.int n)]) rfl ?_
    walk_at "gos"
    refine u_tfld rfl hx c_Where n3 rfl ?_
    walk_at "gos"
    have e := hm n
    unfold mem at e
    by_cases h : n < bl.length
    · rw [if_pos (decide_eq_true (by omega))]
      rw [if_pos h] at e
      walk_at "gos"
      refine u_tfld rfl hx c_Where n4 rfl ?_
      walk_at "gos"
      refine u_ixT h2 (atI_nat (atB h)) ?_
      rw [e]
      exact q
    · rw [if_neg (by rw [decide_eq_true_iff]; omega)]
      rw [if_neg h] at e
      walk_at "gos"
      refine u_tfld rfl hx c_Where n2 rfl ?_
      walk_at "gos"
      refine u_tfld rfl hx c_Where n1 rfl ?_
      refine g_I (by have := hn.pos; omega) ?_
      rw [fmod_nat]
      refine u_ixT h1 (atI_nat (atB (Nat.mod_lt _ hn.pos))) ?_
      rw [e]
      exact q
def spInW (K : PySem.W.Frag) (C : Addr) : Sp := fun vs H Q _ => ∃ (x : Addr) (v : V) (f : Nat → Bool), vs = [.ref x, v] ∧ WF K H x C f ∧ ((∃ n : Nat, v = .int n ∧ Q (.bl (f n)) H) ∨ (Np K H v ∧ Q (.bl false) H))
theorem sc_Where___contains__ : FnScope ["self", "n"] ["self", "n"] (defScope (inClass (topS 19) 5)) := ⟨rfl, rfl, rfl, by decide +kernel, rfl, by decide +kernel, by decide +kernel⟩
theorem ok_Where_contains {C_Where : Addr} (B : Bn mg) (c_Where : Cls K C_Where) (G_is_place : CallF P w K mg base "is_place" ["value"] 2 (spPlace K)) (G_Where_truth : MethF P w K mg base C_Where "truth" ["self", "n"] 1 (spTruth K C_Where))
    {f : Addr} {fd : FuncData} (F : Fun K "__contains__" "Where.__contains__" (inClass (topS 19) 5) f fd) : FnOk P w K mg base (L2.CX P w) 4 f fd ["self", "n"] (spInW K C_Where) := by
  have nd := sc_Where___contains__.nd
  refine F.okX sc_Where___contains__ (fun vs H Q E h => ?_) (fun cdv A outer s H vs Q E hr h => ?_)
  · obtain ⟨x, v, f, rfl, _⟩ := h
    rfl
  · refine ⟨_, (pss_one (ps_ret (pe_and (pe_callF G_is_place (hr.mono (by decide)) rfl passL (pa_cons (pv 1) pa_nil)) (pe_one (pe_methF c_Where G_Where_truth (pv 0) (hr.mono (by decide)) passL (pa_cons (pv 1) pa_nil)))))), ?_⟩
    obtain ⟨x, v, f, rfl, hw, q⟩ := h
    refine g_st (σ' := [some (.ref x), some v]) rfl ?_
    obtain ⟨bl, rl, ⟨dx, t1, t2, hx, _⟩, _⟩ := id hw
    walk_at "gos"
    rcases q with ⟨n, rfl, q⟩ | ⟨hn, q⟩
    · refine ⟨_, rfl, .inl ⟨_, rfl, by omega, ?_⟩⟩
      walk_at "gos"
      refine ⟨.ref x, rfl, x, dx, _, rfl, hx, rfl, ?_⟩
      walk_at "gos"
      exact ⟨x, n, f, rfl, hw, q⟩
    · refine ⟨_, rfl, .inr ⟨hn, ?_⟩⟩
      walk_at "gos"
      exact q
def spBoolW (K : PySem.W.Frag) (C : Addr) : Sp := fun vs H Q _ => ∃ (x : Addr) (f : Nat → Bool), vs = [.ref x] ∧ WF K H x C f ∧ ∀ b : Bool, (b = true ↔ ∃ n, f n = true) → Q (.bl b) H
theorem sc_Where___bool__ : FnScope ["self"] ["self"] (defScope (inClass (topS 19) 7)) := ⟨rfl, rfl, rfl, by decide +kernel, rfl, by decide +kernel, by decide +kernel⟩
theorem ok_Where_bool {C_Where : Addr} (B : Bn mg) (c_Where : Cls K C_Where) (n2 : NoAttr K C_Where "rests") (n4 : NoAttr K C_Where "below")
    {f : Addr} {fd : FuncData} (F : Fun K "__bool__" "Where.__bool__" (inClass (topS 19) 7) f fd) : FnOk P w K mg base (L2.CX P w) 1 f fd ["self"] (spBoolW K C_Where) := by
  have nd := sc_Where___bool__.nd
  refine F.okX sc_Where___bool__ (fun vs H Q E h => ?_) (fun cdv A outer s H vs Q E hr h => ?_)
  · obtain ⟨x, f, rfl, _⟩ := h
    rfl
  · refine ⟨_, (pss_one (ps_ret (pe_or (pe_callB (cr_anyT (K := K) rfl rfl) (by rfl) B.any_ (by decide +kernel) (pa_cons (pe_fldK (K := K) rfl (pv 0) rfl) pa_nil)) (pe_one (pe_callB (cr_anyT (K := K) rfl rfl) (by rfl) B.any_ (by decide +kernel) (pa_cons (pe_fldK (K := K) rfl (pv 0) rfl) pa_nil)))))), ?_⟩
    obtain ⟨x, f, rfl, ⟨bl, rl, ⟨dx, t1, t2, hx, h1, h2⟩, hn, hm⟩, q⟩ := h
    refine g_st (σ' := [some (.ref x)]) rfl ?_
    have key := any_mem (b := bl) hn.pos
    have key2 : (bl.any id || rl.any id) = true ↔ ∃ n, f n = true := key.trans ⟨fun ⟨n, h⟩ => ⟨n, by rw [← hm]; exact h⟩, fun ⟨n, h⟩ => ⟨n, by rw [hm]; exact h⟩⟩
    have q' := q _ key2
    walk_at "gos"
    refine u_tfld rfl hx c_Where n4 rfl ?_
    walk_at "gos"
    refine u_anyT h2 ?_
    walk_at "gos"
    cases hb : bl.any id with
    | true =>
      rw [hb, Bool.true_or] at q'
      walk_at "gos"
      exact q'
    | false =>
      rw [hb, Bool.false_or] at q'
      walk_at "gos"
      refine u_tfld rfl hx c_Where n2 rfl ?_
      walk_at "gos"
      refine u_anyT h1 ?_
      exact q'
def spHasM (K : PySem.W.Frag) : Sp := fun vs H Q _ => ∃ (m : Addr) (B R : List Bool), vs = [.ref m] ∧ IsM H m B R ∧ 0 < R.length ∧ ∀ b : Bool, (b = true ↔ ∃ n, mem B R n = true) → Q (.bl b) H
end
end Ev

end
section
open L2 in
local macro_rules | `(tactic| walk_at "gx") => `(tactic| first
  | ((with_reducible show tVar _ _ _ _); refine g_var rfl ?_)
  | with_reducible refine g_c ?_
  | with_reducible refine g_op ?_
  | with_reducible refine g_cons ?_
  | with_reducible refine g_nil ?_
  | with_reducible refine g_test ?_
  | with_reducible refine g_blp ?_
  | with_reducible refine g_asg ?_
  | (with_reducible refine g_name ?_; (try simp only [List.set_cons_zero, List.set_cons_succ]))
  | with_reducible refine g_call ?_
  | with_reducible refine g_cb ?_
  | with_reducible refine g_I0 ?_
  | with_reducible refine g_U ?_
  | with_reducible refine g_eqI ?_
  | with_reducible refine g_neI ?_
  | with_reducible refine g_if ?_
  | with_reducible refine g_ret ?_
  | with_reducible refine g_retN ?_
  | with_reducible refine g_next ?_
  | with_reducible refine g_drop ?_
  | with_reducible refine g_un ?_
  | with_reducible refine g_tb ?_
  | with_reducible refine g_tup ?_
  | with_reducible refine g_lst ?_
  | with_reducible refine g_and ?_
  | with_reducible refine g_or ?_
  | with_reducible refine g_not ?_
  | with_reducible refine g_andV ?_
  | with_reducible refine g_orV ?_
  | with_reducible refine g_notV ?_
  | with_reducible refine g_ifE ?_
  | with_reducible refine g_fld ?_
  | with_reducible refine g_tt ?_
  | with_reducible refine g_ff ?_
  | with_reducible refine g_ntt ?_
  | with_reducible refine g_nff ?_
  | with_reducible refine g_for ?_
  | with_reducible refine g_list ?_
  | with_reducible refine g_tupI ?_
  | with_reducible refine g_rng1 ?_
  | with_reducible refine g_rng2 ?_
  | with_reducible refine g_enumA ?_
  | with_reducible refine g_rev ?_
  | with_reducible refine g_lc ?_
  | with_reducible refine g_gcons ?_
  | with_reducible refine g_gnil ?_
  | with_reducible refine g_yes ?_
  | with_reducible refine g_sl ?_
  | with_reducible refine g_nopart ?_
  | with_reducible refine g_part ?_
  | with_reducible refine g_int ?_
  | with_reducible refine g_dget ?_
  | with_reducible refine g_dput ?_
  | with_reducible refine g_raiseX ?_
  | with_reducible refine g_tru ?_
  | with_reducible refine g_sub ?_
  | with_reducible refine g_isN ?_
  | with_reducible refine g_notN ?_
  | with_reducible refine g_bm ?_
  | with_reducible refine L2.g_bm0 ?_
  | with_reducible refine g_pair ?_
  | with_reducible refine g_pair0 ?_
  | with_reducible refine u_int1 ?_
  | with_reducible refine g_chain ?_
  | with_reducible refine L2.g_sfld ?_
  | (with_reducible refine g_par3 ?_)
  | (with_reducible refine g_three ?_; (try simp only [List.set_cons_zero, List.set_cons_succ]))
  | ((with_reducible apply L2.g_tupT); walk_at "up"; rfl)
  | (with_reducible refine g_par ?_)
  | (with_reducible refine g_two ?_; (try simp only [List.set_cons_zero, List.set_cons_succ]))
  )
local macro_rules | `(tactic| walk_at "go") => `(tactic| first | walk_at "gx" | with_reducible refine L2.g_seq ?_)
local macro_rules | `(tactic| walk_at "gou") => `(tactic| repeat (walk_at "gx"))
local macro_rules | `(tactic| walk_at "gos") => `(tactic| repeat (walk_at "go"))
local macro_rules | `(tactic| walk_at "sl") => `(tactic| first
  | assumption
  | exact L2.Same.l (by assumption)
  | exact L2.SameD.l (by assumption)
  | exact L2.extN_l (by assumption))
local macro_rules | `(tactic| walk_at "up") => `(tactic| first
  | assumption
  | ((with_reducible apply L2.SameL.lst); walk_at "sl"; walk_at "up")
  | ((with_reducible apply L2.SameL.tupA); walk_at "sl"; walk_at "up")
  | ((with_reducible apply L2.SameL.ins); walk_at "sl"; walk_at "up")
  | ((with_reducible apply Ev.PB.l); walk_at "sl"; walk_at "up")
  | ((with_reducible apply Ev.IsP.l); walk_at "sl"; walk_at "up")
  | ((with_reducible apply L2.sqL); walk_at "up")
  | ((with_reducible apply L2.sqT); walk_at "up")
  | ((with_reducible apply L2.SameL.seq); walk_at "sl"; walk_at "up")
  | ((with_reducible apply Ev.Pen.same); assumption; walk_at "up")
  | ((with_reducible apply Ev.Pen.extN); assumption; walk_at "up")
  | ((with_reducible apply L2.tabs_s); assumption; walk_at "up")
  | ((with_reducible apply L2.tabs_dd); assumption; walk_at "up")
  | ((with_reducible apply Or.inl); walk_at "up")
  | ((with_reducible apply Or.inr); walk_at "up"))
local macro_rules | `(tactic| walk_at "new") => `(tactic| (
  first
    | refine ⟨L2.size_ok (by rfl), fun p hp => ?_⟩
    | refine fun p hp => ?_
  generalize hX : L2.upd _ p _ = H1
  obtain ⟨e, h⟩ := L2.news hp hX
  clear hX))
local macro_rules | `(tactic| walk_at "o") => `(tactic| first
  | ((with_reducible apply Ev.o_add); walk_at "up"; walk_at "up"; rfl; rfl; rfl)
  | ((with_reducible apply Ev.o_sub); walk_at "up"; walk_at "up"; rfl; rfl; rfl)
  | ((with_reducible apply Ev.o_mul); walk_at "up"; walk_at "up"; rfl; rfl; rfl)
  | ((with_reducible apply Ev.o_addI); walk_at "up"; assumption; rfl; rfl; rfl)
  | ((with_reducible apply Ev.o_subI); walk_at "up"; assumption; rfl; rfl; rfl)
  | ((with_reducible apply Ev.o_mulI); walk_at "up"; assumption; rfl; rfl; rfl)
  | ((with_reducible apply Ev.o_radd); walk_at "up"; assumption; rfl; rfl; rfl)
  | ((with_reducible apply Ev.o_rsub); walk_at "up"; assumption; rfl; rfl; rfl)
  | ((with_reducible apply Ev.o_rmul); walk_at "up"; assumption; rfl; rfl; rfl)
  | ((with_reducible apply Ev.o_neg); walk_at "up"; rfl; rfl; rfl))
local macro_rules | `(tactic| walk_at "eq") => `(tactic| ((with_reducible apply Ev.u_ownB); assumption; walk_at "up"; walk_at "up"; (focus (intro k; first | rfl | exact Pl.e_add | exact Pl.e_sub | exact Pl.e_mul | exact Pl.e_rsub | exact Pl.e_rsub2))))
local macro_rules | `(tactic| walk_at "isp") => `(tactic| (apply Ev.u_isB; walk_at "up"; walk_at "up"; rfl; rfl))

/-! What a set must be. -/
namespace Ev
open PySem PySem.Spec PyProof.Rows L2 Wp
section
variable {P : Program} {w : World} {K : PySem.W.Frag} {mg : Str → Option Value} {base : Heap}
/-- the least data of a model -/
def spLeastM (K : PySem.W.Frag) : Sp := fun vs H Q _ => ∃ (m : Addr) (B R : List Bool), vs = [.ref m] ∧ IsM H m B R ∧ 0 < R.length ∧ R.length ≤ 100000 ∧ B.length ≤ 100000 ∧
  ∀ t t1 t2 H' bl rl, Same H H' → H' t = some (.tup [.ref t1, .ref t2]) → SqT K H' t1 (bl.map V.bl) → SqT K H' t2 (rl.map V.bl) → Nm bl rl → (∀ n, mem bl rl n = mem B R n) → Q (.ref t) H'
/-- the least round above what is left to look at -/
def LPa (R : List Bool) (d lo : Nat) : Prop := 0 < d ∧ d ≤ R.length ∧ R.length % d = 0 ∧ Rnd R d ∧ ∀ e, lo < e → e < d → R.length % e = 0 → ¬ Rnd R e
def spIsWhere (K : PySem.W.Frag) (C : Addr) : Sp := fun vs H Q _ => ∃ (x m : Addr) (B R : List Bool) (f : Nat → Bool), vs = [.ref x, .ref m] ∧ WF K H x C f ∧ IsM H m B R ∧ 0 < R.length ∧ R.length ≤ 100000 ∧ B.length ≤ 100000 ∧ (∀ n, mem B R n = f n) ∧ ∀ H', Same H H' → Q (.bl true) H'
def spWhereM (K : PySem.W.Frag) (C : Addr) : Sp := fun vs H Q _ => ∃ (m : Addr) (B R : List Bool), vs = [.ref m] ∧ IsM H m B R ∧ 0 < R.length ∧ R.length ≤ 720 ∧ B.length ≤ 10000 ∧ ∀ x H', Same H H' → WF K H' x C (mem B R) → Q (.ref x) H'
end
end Ev

end
/-! Tuples that are known to have no dict of their own: their methods. -/
namespace L2
open PySem PySem.Spec PyProof.Rows
/-- a tuple with no dict of its own -/
def TupN (H : Hp) (a : Addr) (xs : List V) : Prop := ∃ o : Obj, H a = some (.frz o (.tup xs)) ∧ o.dict = none ∧ o.cls = .type "tuple"
theorem TupN.sq {K : PySem.W.Frag} {H : Hp} {a : Addr} {xs : List V} : TupN H a xs → SqT K H a xs := fun ⟨o, h, _⟩ => .inl (.inr ⟨o, h⟩)
theorem TupN.l {H H' : Hp} {a : Addr} {xs : List V} (e : SameL H H') : TupN H a xs → TupN H' a xs := fun ⟨o, h, r⟩ => ⟨o, e a _ h (fun _ z => nomatch z) (fun _ z => nomatch z), r⟩
theorem TupN.same {H H' : Hp} {a : Addr} {xs : List V} (e : Same H H') (h : TupN H a xs) : TupN H' a xs := h.l e.l
theorem TupN.updI {H : Hp} {a x C dx : Addr} {fs : List (Str × V)} {xs : List V} {o : HO} (hx : H x = some (.ins C dx fs)) : TupN H a xs → TupN (upd H x o) a xs := fun ⟨u, h, r⟩ => ⟨u, by rw [upd_ne (fun z => by rw [z, hx] at h; cases h)]; exact h, r⟩
def rTplN (K : PySem.W.Frag) : List V → Hp → VK → Prop := fun xs H Q => ∃ p ys, xs = [.ref p] ∧ SqL K H p ys ∧ ∀ (l : Addr) (o : Obj), H l = none → o.dict = none → o.cls = .type "tuple" → Q (.ref l) (upd H l (.frz o (.tup ys)))
def rSlN : V → Option Int → Option Int → Hp → VK → Prop := fun x lo hi H Q => ∃ a xs, x = .ref a ∧ TupN H a xs ∧
  (HT.sIx xs.length 0 lo = 0 ∧ HT.sIx xs.length xs.length hi = xs.length → Q (.ref a) H) ∧
  (¬ (HT.sIx xs.length 0 lo = 0 ∧ HT.sIx xs.length xs.length hi = xs.length) → ∀ (p : Addr) (o : Obj), H p = none → o.dict = none → o.cls = .type "tuple" → Q (.ref p) (upd H p (.frz o (.tup (cutV xs lo hi)))))
def tBMT (r : V → List V → Hp → VK → Prop) (to : TE) (t : TA) : TE := fun σ H Q => to σ H fun x H1 => (∃ a xs, x = .ref a ∧ TupN H1 a xs) ∧ t σ H1 fun xs H2 => r x xs H2 Q
section
variable {X : Cx} {K : PySem.W.Frag}
theorem call_tplN (hk : X.K = K) : CallR X (.type "tuple") (rTplN K) := by
  subst hk
  intro pins s σ H xs us Q I r h
  obtain ⟨p, ys, rfl, hq, q⟩ := h
  obtain ⟨u, rfl, rx⟩ := vals1 r
  cases rx
  obtain ⟨its, r', pl, hz⟩ := I.list hq
  have hlen := r'.length
  refine call_tuple_list pl.isList (fun h' kp => ?_) (by simp only [List.size_toArray] <;> omega)
  have I1 : Inv X pins σ H { s with heap := h' } := I.kept (t' := s.toks) kp
  have I2 : Inv X pins σ (upd H h'.objs.size (.frz { cls := .type "tuple", data := .seq its.toArray } (.tup ys))) { s with heap := h'.push { cls := .type "tuple", data := .seq its.toArray } } :=
    I1.laid (t' := s.toks) (fun b o e => Heap.get?_push_of_some _ e) (Nat.le_refl _) ⟨Heap.get?_push_size _ rfl, hz, its, r', IsTup.new _ _⟩
  exact ⟨.ref h'.objs.size, _, I2, rfl, q _ _ (I1.hok.fresh (Nat.le_refl _)) rfl rfl⟩
theorem sl_tupN : SlR X rSlN := by
  intro pins s σ H x v vl vu lo hi sl Q I rx hs pl pu h
  obtain ⟨a, xs, rfl, hN, q1, q2⟩ := h
  have hx : SqT X.K H a xs := hN.sq
  cases rx
  obtain ⟨its, r, ht, hz⟩ := I.tuple hx
  have hlen : its.toArray.size = xs.length := by rw [List.size_toArray]; exact r.length.symm
  refine ⟨"tuple", _, PyProof.Rows.slot_tuple_getitem.lookup, ht.typeIs, ?_⟩
  by_cases hw : HT.sIx xs.length 0 lo = 0 ∧ HT.sIx xs.length xs.length hi = xs.length
  · exact getItem_tuple_whole ht hs pl pu (by rw [hlen]; exact hw) ⟨.ref a, H, I, rfl, q1 hw⟩
  · refine HT.getItem_tuple_cut ht hs pl pu (by rw [hlen]; exact hw) ?_ (by rw [hlen]; exact hz)
    rw [hlen]
    refine ⟨.ref s.heap.objs.size, _, I.laid (t' := s.toks) (o := .frz { cls := .type "tuple", data := .seq ((its.toArray.toList.drop (HT.sIx xs.length 0 lo)).take (HT.sIx xs.length xs.length hi - HT.sIx xs.length 0 lo)).toArray } (.tup (cutV xs lo hi))) (fun b ob q => Heap.get?_push_of_some _ q) (Nat.le_refl _) ?_, rfl, q2 hw _ _ (I.hok.fresh (Nat.le_refl _)) rfl rfl⟩
    exact ⟨Heap.get?_push_size _ rfl, Nat.le_trans (cutV_length xs lo hi) hz, _, (r.drop (HT.sIx xs.length 0 lo)).take (HT.sIx xs.length xs.length hi - HT.sIx xs.length 0 lo), IsTup.new _ _⟩
variable {o e : Expr} {es : List Expr} {to : TE} {t : TA} {name : Str} {apos cpos : Pos} {id : String} {r : V → List V → Hp → VK → Prop}
theorem pe_bmT (pa : PlainAttrs "tuple") (slot : Slot "tuple" name id) (hty : typeOf (.builtin id) = pure (.type "method_descriptor")) (hm : MtR X id r) (ho : PE X o to) (ha : PA X (e :: es) t)
    (hbase : attributeBase o name X.env (eval o X.env) = eval o X.env := by rfl)
    (hfew : ((backTo cpos (starEach (e :: es) X.env)).all (fun x => !x.1) && (backToKw cpos (keywordEach [] X.env)).all (fun x => x.1.isSome)
      && decide ((e :: es).length + ([] : List Keyword).length + (if ([] : List Keyword).isEmpty then 0 else 1) < 30)) = true := by rfl)
    (hline : (apos.endLine == cpos.line) = true := by rfl) (hs : starEach (e :: es) X.env = (false, eval e X.env) :: starEach es X.env := by rfl) (hplain : (backTo cpos (starEach es X.env)).any (·.1) = false := by rfl) :
    PE X (.Call (.Attribute o name apos) (e :: es) [] cpos) (tBMT r to t) := by
  refine ⟨fun pins s σ H Q I h => ?_⟩
  refine wpAny_Call_method_late hbase hfew hline rfl (thn (ho.run pins s σ H _ I h) fun v s1 ⟨x, H1, I1, r1, ty, q1⟩ => ?_)
  obtain ⟨a, xs, rfl, ob, hH, hd, hc⟩ := ty
  have hg : s1.heap.get? a = some ob := (I1.hok a _ hH).1
  cases r1
  refine ⟨"tuple", id, pa, slot, hty, ⟨ob, hg, hc⟩, fun b eb => by cases eb; exact ⟨ob, hg, hd⟩, ?_⟩
  have hA := ha.run cpos pins s1 σ H1 _ I1 q1
  rw [hs] at hA ⊢
  refine Calls.callWith_builtin (by show (false || (backTo cpos (starEach es X.env)).any (·.1)) = false; rw [hplain] <;> rfl) (Calls.evalArgs_plain ?_)
  exact thn hA fun us s2 ⟨vs, H2, I2, r2, q2⟩ => hm pins s2 σ H2 (.ref a) vs (.ref a) us Q I2 rfl r2 q2
end
section
variable {σ : St} {H : Hp} {Q : VK} {K : PySem.W.Frag} {a : Addr} {xs : List V}
theorem u_tplN (h : SqL K H a xs) (q : ∀ p H', Same H H' → TupN H' p xs → Q (.ref p) H') : rTplN K [.ref a] H Q :=
  ⟨a, xs, rfl, h, fun l o hl h1 h2 => q l _ (same_new hl) ⟨o, upd_same, h1, h2⟩⟩
theorem u_slN {lo hi : Option Int} (h : TupN H a xs) (q : ∀ b H', Same H H' → TupN H' b (cutV xs lo hi) → Q (.ref b) H') : rSlN (.ref a) lo hi H Q :=
  ⟨a, xs, rfl, h, fun w => q a H (Same.refl H) (by rw [cut_whole w]; exact h), fun _ p o hp h1 h2 => q p _ (same_new hp) ⟨o, upd_same, h1, h2⟩⟩
theorem g_bmT {r : V → List V → Hp → VK → Prop} {to : TE} {t : TA} (q : to σ H fun x H1 => (∃ a xs, x = .ref a ∧ TupN H1 a xs) ∧ t σ H1 fun xs H2 => r x xs H2 Q) : tBMT r to t σ H Q := q
end
end L2

section
open L2 in
local macro_rules | `(tactic| walk_at "gx") => `(tactic| first
  | ((with_reducible show tVar _ _ _ _); refine g_var rfl ?_)
  | with_reducible refine g_c ?_
  | with_reducible refine g_op ?_
  | with_reducible refine g_cons ?_
  | with_reducible refine g_nil ?_
  | with_reducible refine g_test ?_
  | with_reducible refine g_blp ?_
  | with_reducible refine g_asg ?_
  | (with_reducible refine g_name ?_; (try simp only [List.set_cons_zero, List.set_cons_succ]))
  | with_reducible refine g_call ?_
  | with_reducible refine g_cb ?_
  | with_reducible refine g_I0 ?_
  | with_reducible refine g_U ?_
  | with_reducible refine g_eqI ?_
  | with_reducible refine g_neI ?_
  | with_reducible refine g_if ?_
  | with_reducible refine g_ret ?_
  | with_reducible refine g_retN ?_
  | with_reducible refine g_next ?_
  | with_reducible refine g_drop ?_
  | with_reducible refine g_un ?_
  | with_reducible refine g_tb ?_
  | with_reducible refine g_tup ?_
  | with_reducible refine g_lst ?_
  | with_reducible refine g_and ?_
  | with_reducible refine g_or ?_
  | with_reducible refine g_not ?_
  | with_reducible refine g_andV ?_
  | with_reducible refine g_orV ?_
  | with_reducible refine g_notV ?_
  | with_reducible refine g_ifE ?_
  | with_reducible refine g_fld ?_
  | with_reducible refine g_tt ?_
  | with_reducible refine g_ff ?_
  | with_reducible refine g_ntt ?_
  | with_reducible refine g_nff ?_
  | with_reducible refine g_for ?_
  | with_reducible refine g_list ?_
  | with_reducible refine g_tupI ?_
  | with_reducible refine g_rng1 ?_
  | with_reducible refine g_rng2 ?_
  | with_reducible refine g_enumA ?_
  | with_reducible refine g_rev ?_
  | with_reducible refine g_lc ?_
  | with_reducible refine g_gcons ?_
  | with_reducible refine g_gnil ?_
  | with_reducible refine g_yes ?_
  | with_reducible refine g_sl ?_
  | with_reducible refine g_nopart ?_
  | with_reducible refine g_part ?_
  | with_reducible refine g_int ?_
  | with_reducible refine g_dget ?_
  | with_reducible refine g_dput ?_
  | with_reducible refine g_raiseX ?_
  | with_reducible refine g_tru ?_
  | with_reducible refine g_sub ?_
  | with_reducible refine g_isN ?_
  | with_reducible refine g_notN ?_
  | with_reducible refine g_bm ?_
  | with_reducible refine L2.g_bm0 ?_
  | with_reducible refine g_pair ?_
  | with_reducible refine g_pair0 ?_
  | with_reducible refine u_int1 ?_
  | with_reducible refine g_chain ?_
  | with_reducible refine L2.g_sfld ?_
  | (with_reducible refine g_par3 ?_)
  | (with_reducible refine g_three ?_; (try simp only [List.set_cons_zero, List.set_cons_succ]))
  | ((with_reducible apply L2.g_tupT); walk_at "up"; rfl)
  | (with_reducible refine g_par ?_)
  | (with_reducible refine g_two ?_; (try simp only [List.set_cons_zero, List.set_cons_succ]))
  )
local macro_rules | `(tactic| walk_at "go") => `(tactic| first | walk_at "gx" | with_reducible refine L2.g_seq ?_)
local macro_rules | `(tactic| walk_at "gou") => `(tactic| repeat (walk_at "gx"))
local macro_rules | `(tactic| walk_at "gos") => `(tactic| repeat (walk_at "go"))
local macro_rules | `(tactic| walk_at "sl") => `(tactic| first
  | assumption
  | exact L2.Same.l (by assumption)
  | exact L2.SameD.l (by assumption)
  | exact L2.extN_l (by assumption))
local macro_rules | `(tactic| walk_at "up") => `(tactic| first
  | assumption
  | ((with_reducible apply L2.SameL.lst); walk_at "sl"; walk_at "up")
  | ((with_reducible apply L2.SameL.tupA); walk_at "sl"; walk_at "up")
  | ((with_reducible apply L2.SameL.ins); walk_at "sl"; walk_at "up")
  | ((with_reducible apply Ev.PB.l); walk_at "sl"; walk_at "up")
  | ((with_reducible apply Ev.IsP.l); walk_at "sl"; walk_at "up")
  | ((with_reducible apply L2.sqL); walk_at "up")
  | ((with_reducible apply L2.sqT); walk_at "up")
  | ((with_reducible apply L2.SameL.seq); walk_at "sl"; walk_at "up")
  | ((with_reducible apply Ev.Pen.same); assumption; walk_at "up")
  | ((with_reducible apply Ev.Pen.extN); assumption; walk_at "up")
  | ((with_reducible apply L2.tabs_s); assumption; walk_at "up")
  | ((with_reducible apply L2.tabs_dd); assumption; walk_at "up")
  | ((with_reducible apply Or.inl); walk_at "up")
  | ((with_reducible apply Or.inr); walk_at "up"))
local macro_rules | `(tactic| walk_at "new") => `(tactic| (
  first
    | refine ⟨L2.size_ok (by rfl), fun p hp => ?_⟩
    | refine fun p hp => ?_
  generalize hX : L2.upd _ p _ = H1
  obtain ⟨e, h⟩ := L2.news hp hX
  clear hX))
local macro_rules | `(tactic| walk_at "o") => `(tactic| first
  | ((with_reducible apply Ev.o_add); walk_at "up"; walk_at "up"; rfl; rfl; rfl)
  | ((with_reducible apply Ev.o_sub); walk_at "up"; walk_at "up"; rfl; rfl; rfl)
  | ((with_reducible apply Ev.o_mul); walk_at "up"; walk_at "up"; rfl; rfl; rfl)
  | ((with_reducible apply Ev.o_addI); walk_at "up"; assumption; rfl; rfl; rfl)
  | ((with_reducible apply Ev.o_subI); walk_at "up"; assumption; rfl; rfl; rfl)
  | ((with_reducible apply Ev.o_mulI); walk_at "up"; assumption; rfl; rfl; rfl)
  | ((with_reducible apply Ev.o_radd); walk_at "up"; assumption; rfl; rfl; rfl)
  | ((with_reducible apply Ev.o_rsub); walk_at "up"; assumption; rfl; rfl; rfl)
  | ((with_reducible apply Ev.o_rmul); walk_at "up"; assumption; rfl; rfl; rfl)
  | ((with_reducible apply Ev.o_neg); walk_at "up"; rfl; rfl; rfl))
local macro_rules | `(tactic| walk_at "eq") => `(tactic| ((with_reducible apply Ev.u_ownB); assumption; walk_at "up"; walk_at "up"; (focus (intro k; first | rfl | exact Pl.e_add | exact Pl.e_sub | exact Pl.e_mul | exact Pl.e_rsub | exact Pl.e_rsub2))))
local macro_rules | `(tactic| walk_at "isp") => `(tactic| (apply Ev.u_isB; walk_at "up"; walk_at "up"; rfl; rfl))

/-! Sets whose tuples' methods can be called. -/
namespace Ev
open PySem PySem.Spec PyProof.Rows L2 Wp
def IsWN (H : Hp) (x C : Addr) (bl rl : List Bool) : Prop := ∃ dx t1 t2, H x = some (.ins C dx [("period", .int (rl.length : Nat)), ("rests", .ref t1), ("start", .int (bl.length : Nat)), ("below", .ref t2)]) ∧ TupN H t1 (rl.map V.bl) ∧ TupN H t2 (bl.map V.bl)
theorem IsWN.w {K : PySem.W.Frag} {H : Hp} {x C : Addr} {bl rl : List Bool} : IsWN H x C bl rl → IsW K H x C bl rl := fun ⟨dx, t1, t2, h1, h2, h3⟩ => ⟨dx, t1, t2, h1, h2.sq, h3.sq⟩
theorem IsWN.l {H H' : Hp} {x C : Addr} {bl rl : List Bool} (e : SameL H H') : IsWN H x C bl rl → IsWN H' x C bl rl := fun ⟨dx, t1, t2, h1, h2, h3⟩ => ⟨dx, t1, t2, e.ins h1, h2.l e, h3.l e⟩
def WFN (H : Hp) (x C : Addr) (f : Nat → Bool) : Prop := ∃ bl rl, IsWN H x C bl rl ∧ Nm bl rl ∧ (∀ n, mem bl rl n = f n) ∧ rl.length ≤ 720 ∧ bl.length ≤ 10000
theorem WFN.w {K : PySem.W.Frag} {H : Hp} {x C : Addr} {f : Nat → Bool} : WFN H x C f → WF K H x C f := fun ⟨bl, rl, h1, h2, h3, _⟩ => ⟨bl, rl, h1.w, h2, h3⟩
theorem WFN.l {H H' : Hp} {x C : Addr} {f : Nat → Bool} (e : SameL H H') : WFN H x C f → WFN H' x C f := fun ⟨bl, rl, h1, h2⟩ => ⟨bl, rl, h1.l e, h2⟩
def spWhereInitN (K : PySem.W.Frag) (C : Addr) : Sp := fun vs H Q _ => ∃ (x dx a b : Addr) (B R : List Bool), vs = [.ref x, .ref a, .ref b] ∧ H x = some (.ins C dx []) ∧ SqL K H a (B.map V.bl) ∧ SqL K H b (R.map V.bl) ∧ 0 < R.length ∧ B.length ≤ 10000 ∧ R.length ≤ 720 ∧
  ∀ bl rl, Nm bl rl → (∀ n, mem bl rl n = mem B R n) → ∀ H', SameB x H H' → IsWN H' x C bl rl → Q .non H'
def spWhereN (K : PySem.W.Frag) (C : Addr) : Sp := fun vs H Q _ => ∃ (a b : Addr) (B R : List Bool), vs = [.ref a, .ref b] ∧ SqL K H a (B.map V.bl) ∧ SqL K H b (R.map V.bl) ∧ 0 < R.length ∧ B.length ≤ 10000 ∧ R.length ≤ 720 ∧
  ∀ x H', H x = none → Same H H' → WFN H' x C (mem B R) → Q (.ref x) H'
section
variable {P : Program} {w : World} {K : PySem.W.Frag} {mg : Str → Option Value} {base : Heap}
theorem ok_Where_initN {C CT CF CL : Addr} {tk1 tk2 : Tok} (B : Bn mg) (c_Where : Cls K C) (n1 : NoAttr K C "period") (n2 : NoAttr K C "rests") (n3 : NoAttr K C "start") (n4 : NoAttr K C "below") (c_MOST_PERIOD : mg "MOST_PERIOD" = some (.int 720 tk1)) (c_MOST_START : mg "MOST_START" = some (.int 10000 tk2))
    (X_BadTruth : ExT P K mg "BadTruth" CT ["index"]) (X_TooFine : ExT P K mg "TooFine" CF ["most"]) (X_TooLate : ExT P K mg "TooLate" CL ["most"])
    (G_need_truths : CallF P w K mg base "need_truths" ["truths"] 3 (spNeedT K CT)) (G_least_period : CallF P w K mg base "least_period" ["row"] 1 spLeastP)
    {f : Addr} {fd : FuncData} (F : Fun K "__init__" "Where.__init__" (inClass (topS 19) 0) f fd) : FnOk P w K mg base (L2.CX P w) 5 f fd ["self", "below", "rests"] (spWhereInitN K C) := by
  have nd := sc_Where___init__.nd
  refine F.okX sc_Where___init__ (fun vs H Q E h => ?_) (fun cdv A outer s H vs Q E hr h => ?_)
  · obtain ⟨x, dx, a, b, Bx, R, rfl, _⟩ := h
    rfl
  · refine ⟨_, (pss_cons (ps_expr (pe_callF G_need_truths (hr.mono (by decide)) rfl (passes_call (takes_of rfl rfl rfl rfl) (fun _ _ _ _ h => h)) (pa_cons (pv 1) pa_nil)))
      (pss_cons (ps_expr (pe_callF G_need_truths (hr.mono (by decide)) rfl (passes_call (takes_of rfl rfl rfl rfl) (fun _ _ _ _ h => h)) (pa_cons (pv 2) pa_nil)))
      (pss_cons (ps_if (pt_cmpR op_eq (pe_callB (call_lnK (K := K) rfl) (by rfl) B.len_ (by decide +kernel) (pa_cons (pv 2) pa_nil)) pe_int (nomark _)) (pss_one (ps_raiseX rfl X_BadTruth hr (takes_of rfl rfl rfl rfl) (pa_cons pe_int pa_nil))) pss_nil)
      (pss_cons (ps_fldK (K := K) rfl (pv 0) (pe_callF G_least_period (hr.mono (by decide)) rfl passL (pa_cons (pe_callTy (call_lstK (K := K) rfl) (by rfl) B.list_ (by decide +kernel) (pa_cons (pv 2) pa_nil)) pa_nil)) rfl)
      (pss_cons (ps_if (pt_cmpR op_gt (pe_fldK (K := K) rfl (pv 0) rfl) (pe_globI rfl c_MOST_PERIOD) (nomark _)) (pss_one (ps_raiseX rfl X_TooFine hr (takes_of rfl rfl rfl rfl) (pa_cons (pe_globI rfl c_MOST_PERIOD) pa_nil))) pss_nil)
      (pss_cons (ps_fldK (K := K) rfl (pv 0) (pe_callTy (call_tplN (K := K) rfl) (by rfl) B.tuple_ (by decide +kernel) (pa_cons (pe_slice (sl_listK (K := K) rfl) (pv 2) po_none (po_some (pe_fldK (K := K) rfl (pv 0) rfl))) pa_nil)) rfl)
      (pss_cons (ps_set (i := 3) nd rfl (.inl rfl) (pe_callB (call_lnK (K := K) rfl) (by rfl) B.len_ (by decide +kernel) (pa_cons (pv 1) pa_nil)))
      (pss_cons (ps_while (passes_of rfl) (PW.pt (pw_and (pt_cmpR op_gt (pv 3) pe_int (nomark _)) (pw_and1 (pt_cmpR op_eq (pe_ix (ix_listK (K := K) rfl) (pv 1) (pe_op op_sub (pv 3) pe_int) (fun _ _ => rfl)) (pe_ix (ix_tupK (K := K) rfl) (pe_fldK (K := K) rfl (pv 0) rfl) (pe_op op_modN (pe_op op_sub (pv 3) pe_int) (pe_fldK (K := K) rfl (pv 0) rfl)) (fun _ _ => rfl)) (nomark _))))) (pss_one (ps_set (i := 3) nd rfl (.inl rfl) (pe_op op_sub (pv 3) pe_int))))
      (pss_cons (ps_if (pt_cmpR op_gt (pv 3) (pe_globI rfl c_MOST_START) (nomark _)) (pss_one (ps_raiseX rfl X_TooLate hr (takes_of rfl rfl rfl rfl) (pa_cons (pe_globI rfl c_MOST_START) pa_nil))) pss_nil)
      (pss_cons (ps_fldK (K := K) rfl (pv 0) (pv 3) rfl)
      (pss_one (ps_fldK (K := K) rfl (pv 0) (pe_callTy (call_tplN (K := K) rfl) (by rfl) B.tuple_ (by decide +kernel) (pa_cons (pe_slice (sl_listK (K := K) rfl) (pv 1) po_none (po_some (pv 3))) pa_nil)) rfl)))))))))))), ?_⟩
    obtain ⟨x, dx, a, b, Bx, R, rfl, hx, sx, sy, hR, lx, ly, q⟩ := h
    refine g_st (σ' := [some (.ref x), some (.ref a), some (.ref b), none]) rfl ?_
    walk_at "gos"
    refine ⟨a, _, fun _ => true, rfl, .inl sx, kdB_bools, fun hall H1 e1 => ?_, fun i hi hk => (nomatch hk)⟩
    walk_at "gos"
    refine ⟨b, _, fun _ => true, rfl, .inl (e1.seq sy), kdB_bools, fun hall2 H2 e2 => ?_, fun i hi hk => (nomatch hk)⟩
    have e02 := e1.trans e2
    have sx2 := e02.seq sx
    have sy2 := e02.seq sy
    walk_at "gos"
    refine u_lenL sy2 ?_
    rw [List.length_map]
    walk_at "gos"
    rw [if_neg (by rw [decide_eq_true_iff]; omega)]
    walk_at "gos"
    refine u_list (.inl sy2) fun l H3 _ e3 h3 => ?_
    refine ⟨l, R, rfl, h3, hR, by omega, fun d H4 e4 hd => ?_⟩
    walk_at "gos"
    have e04 := e02.trans (e3.trans e4)
    have hx4 := e04 _ _ hx
    have hdl := hd.le hR
    have htl : (R.take d).length = d := by rw [List.length_take]; omega
    refine ⟨x, C, dx, [], rfl, hx4, c_Where, n1, by decide, ?_⟩
    generalize hX : upd H4 x _ = H5
    have hx5 : H5 x = some (.ins C dx [("period", .int (d : Nat))]) := by rw [← hX]; exact upd_same
    have sx5 : SqL K H5 a (Bx.map V.bl) := by rw [← hX]; exact ((e3.trans e4).seq sx2).updI hx4
    have sy5 : SqL K H5 b (R.map V.bl) := by rw [← hX]; exact ((e3.trans e4).seq sy2).updI hx4
    have b5 : SameB x H H5 := by rw [← hX]; exact (SameB.of e04).upd
    clear hX e3 h3 e4 sx2 sy2 hx4
    walk_at "gos"
    refine u_tfld rfl hx5 c_Where n1 rfl ?_
    walk_at "gos"
    obtain ⟨s0, hs0⟩ := st_ex Bx (R.take d)
    obtain ⟨hnm, hmem⟩ := nm_made hR hd hs0
    have hs0l : (Bx.take s0).length = s0 := by rw [List.length_take]; have := hs0.le; omega
    rw [if_neg (by rw [decide_eq_true_iff]; omega)]
    walk_at "gos"
    refine u_tfld rfl hx5 c_Where n1 rfl ?_
    walk_at "gos"
    refine u_sl sy5 fun l2 H6 _ e6 h6 => ?_
    rw [cut_to, ← List.map_take] at h6
    walk_at "gos"
    refine u_tplN (sqL h6) fun t1 H7 e7 ht1 => ?_
    walk_at "gos"
    have e57 := e6.trans e7
    have hx7 := e57 _ _ hx5
    refine ⟨x, C, dx, _, rfl, hx7, c_Where, n2, by simp, ?_⟩
    generalize hX : upd H7 x _ = H8
    have hx8 : H8 x = some (.ins C dx [("period", .int (d : Nat)), ("rests", .ref t1)]) := by rw [← hX]; exact upd_same
    have sx8 : SqL K H8 a (Bx.map V.bl) := by rw [← hX]; exact (e57.seq sx5).updI hx7
    have ht8 : TupN H8 t1 ((R.take d).map V.bl) := by rw [← hX]; exact ht1.updI hx7
    have b8 : SameB x H H8 := by rw [← hX]; exact (b5.trans (.of e57)).upd
    clear hX e6 h6 e7 ht1 e57 hx7 sx5 sy5 b5 hx5
    walk_at "gos"
    refine u_lenL sx8 ?_
    rw [List.length_map]
    walk_at "gou"
    ((with_reducible change tSeq _ _ _ _ _); refine L2.g_cutS (fun σ' H' => H' = H8 ∧ σ' = [some (.ref x), some (.ref a), some (.ref b), some (.int (s0 : Nat))]) (fun nx hnx => ?_) (fun σ' H' hR' => ?_))
    · refine ⟨fun m σ' H' => H' = H8 ∧ σ' = [some (.ref x), some (.ref a), some (.ref b), some (.int (m : Nat))] ∧ s0 ≤ m ∧ m ≤ Bx.length, ⟨Bx.length, rfl, rfl, hs0.le, Nat.le_refl _⟩, fun m σ' H' ⟨e1, e2, e3, e4⟩ => ?_⟩
      subst e1 e2
      walk_at "gos"
      by_cases hm : 0 < m
      · rw [if_pos (decide_eq_true (by omega))]
        walk_at "gos"
        obtain ⟨k, rfl⟩ : ∃ k, m = k + 1 := ⟨m - 1, by omega⟩
        have hk1 : ((k + 1 : Nat) : Int) - 1 = (k : Int) := by omega
        rw [hk1]
        refine u_ixL sx8 (atI_nat (atB (by omega))) ?_
        walk_at "gos"
        refine u_tfld rfl hx8 c_Where n2 rfl ?_
        walk_at "gos"
        refine u_tfld rfl hx8 c_Where n1 rfl ?_
        refine g_I (by have := hd.pos; omega) ?_
        rw [hk1, fmod_nat]
        refine u_ixT ht8.sq (atI_nat (atB (by rw [htl]; exact Nat.mod_lt _ hd.pos))) ?_
        walk_at "gos"
        refine ⟨rfl, ?_⟩
        by_cases hk : s0 ≤ k
        · have hsame := hs0.same k hk (by omega)
          rw [htl] at hsame
          rw [hsame]
          refine ⟨_, rfl, ?_⟩
          rw [if_pos (by simp)]
          refine ⟨_, fun _ _ z => z, ?_⟩
          walk_at "gos"
          exact ⟨k, by omega, by trivial, by rw [hk1], hk, by omega⟩
        · have hne := hs0.low (by omega)
          obtain rfl : s0 = k + 1 := by omega
          rw [htl, Nat.add_sub_cancel] at hne
          refine ⟨_, rfl, ?_⟩
          rw [if_neg (by simp [hne])]
          exact hnx _ _ ⟨rfl, rfl⟩
      · rw [if_neg (by rw [decide_eq_true_iff]; omega)]
        obtain rfl : m = 0 := by omega
        obtain rfl : s0 = 0 := by omega
        exact hnx _ _ ⟨rfl, rfl⟩
    obtain ⟨rfl, rfl⟩ := hR'
    walk_at "gos"
    rw [if_neg (by rw [decide_eq_true_iff]; have := hs0.le; omega)]
    walk_at "gos"
    refine ⟨x, C, dx, _, rfl, hx8, c_Where, n3, by simp, ?_⟩
    generalize hX : upd H' x _ = H9
    have hx9 : H9 x = some (.ins C dx [("period", .int (d : Nat)), ("rests", .ref t1), ("start", .int (s0 : Nat))]) := by rw [← hX]; exact upd_same
    have sx9 : SqL K H9 a (Bx.map V.bl) := by rw [← hX]; exact sx8.updI hx8
    have ht9 : TupN H9 t1 ((R.take d).map V.bl) := by rw [← hX]; exact ht8.updI hx8
    have b9 : SameB x H H9 := by rw [← hX]; exact b8.upd
    clear hX hx8 sx8 ht8 b8
    walk_at "gos"
    refine u_sl sx9 fun l3 H10 _ e10 h10 => ?_
    rw [cut_to, ← List.map_take] at h10
    walk_at "gos"
    refine u_tplN (sqL h10) fun t2 H11 e11 ht2 => ?_
    walk_at "gos"
    have e911 := e10.trans e11
    have hx11 := e911 _ _ hx9
    refine ⟨x, C, dx, _, rfl, hx11, c_Where, n4, by simp, ?_⟩
    generalize hX : upd H11 x _ = H12
    have hx12 : H12 x = some (.ins C dx [("period", .int (d : Nat)), ("rests", .ref t1), ("start", .int (s0 : Nat)), ("below", .ref t2)]) := by rw [← hX]; exact upd_same
    have ht12 : TupN H12 t1 ((R.take d).map V.bl) := by rw [← hX]; exact (ht9.same e911).updI hx11
    have hb12 : TupN H12 t2 ((Bx.take s0).map V.bl) := by rw [← hX]; exact ht2.updI hx11
    have b12 : SameB x H H12 := by rw [← hX]; exact (b9.trans (.of e911)).upd
    walk_at "gos"
    exact q _ _ hnm hmem H12 b12 ⟨dx, t1, t2, by rw [htl, hs0l]; exact hx12, ht12, hb12⟩
theorem make_WhereN {C : Addr} {f : Addr} {fd : FuncData} (Fn : FnOk P w K mg base (L2.CX P w) 5 f fd ["self", "below", "rests"] (spWhereInitN K C)) (M : Mk K C f) (hC : mg "Where" = some (.ref C)) (hb : Binds K fd ["self", "below", "rests"] []) :
    MakeF P w K mg base "Where" C 5 (spWhereN K C) := by
  refine ⟨f, fd, _, _, [], [], Fn, M, hC, hb, .nil, fun vs H Q E h => ?_⟩
  obtain ⟨a, b, B, R, rfl, ha, hb', hR, h1, h2, q⟩ := h
  intro x dx hx hdx hne
  have es : Same H (upd (upd H dx (.own x)) x (.ins C dx [])) := (same_new hdx).trans (same_new (by rw [upd_ne (Ne.symm hne)]; exact hx))
  have bs : ∀ H', SameB x (upd (upd H dx (.own x)) x (.ins C dx [])) H' → Same H H' := fun H' hs c o hc => hs c o (ne_of_none hc hx) (es c o hc)
  exact ⟨x, dx, a, b, B, R, rfl, upd_same, es.seq ha, es.seq hb', hR, h1, h2, fun bl rl g1 g2 H' g3 g4 => ⟨rfl, q x H' hx (bs H' g3) ⟨bl, rl, g4, g1, g2, by have := nm_len hR g1 g2; omega, by have := nm_len hR g1 g2; omega⟩⟩⟩
/-- Where.since, of places within the bound -/
def spSinceN (K : PySem.W.Frag) (C : Addr) : Sp := fun vs H Q _ => ∃ n : Nat, vs = [.ref C, .int n] ∧ n ≤ 10000 ∧ ∀ x H', H x = none → Same H H' → WFN H' x C (fun k => decide (n ≤ k)) → Q (.ref x) H'
/-- _law_where -/
def spWhereMN (K : PySem.W.Frag) (C : Addr) : Sp := fun vs H Q _ => ∃ (m : Addr) (B R : List Bool), vs = [.ref m] ∧ IsM H m B R ∧ 0 < R.length ∧ R.length ≤ 720 ∧ B.length ≤ 10000 ∧ ∀ x H', Same H H' → WFN H' x C (mem B R) → Q (.ref x) H'
end
end Ev

end
/-! count(True) of lists and tuples of truths. -/
namespace L2
open PySem PySem.Spec PyProof.Rows
def rCntL (K : PySem.W.Frag) : V → List V → Hp → VK → Prop := fun x xs H Q => ∃ (p : Addr) (bs : List Bool), x = .ref p ∧ xs = [.bl true] ∧ SqL K H p (bs.map V.bl) ∧ Q (.int (bs.count true : Nat)) H
def rCntT (K : PySem.W.Frag) : V → List V → Hp → VK → Prop := fun x xs H Q => ∃ (p : Addr) (bs : List Bool), x = .ref p ∧ xs = [.bl true] ∧ SqT K H p (bs.map V.bl) ∧ Q (.int (bs.count true : Nat)) H
theorem flat_bools : ∀ bs : List Bool, (bs.map V.bl).all flatV = true
  | [] => rfl
  | _ :: r => by rw [List.map_cons, List.all_cons, flat_bools r]; rfl
theorem count_bools (bs : List Bool) : ((bs.map Value.bool).toArray.toList.countP (eqU (.bl true))) = bs.count true := by
  rw [List.countP_map]
  unfold List.count
  congr 1
section
variable {X : Cx} {K : PySem.W.Frag}
theorem mt_lcountB (hk : X.K = K) : MtR X "list.count" (rCntL K) := by
  subst hk
  intro pins s σ H x xs v us Q I rx rxs h
  obtain ⟨p, bs, rfl, rfl, hs, q⟩ := h
  cases rx
  obtain ⟨u, rfl, ru⟩ := rxs.one
  obtain ⟨its, rv, ⟨⟨cls, dd, data, sl⟩, n, ho, hc, hdn, hd⟩, hlen⟩ := I.list hs
  simp only at hc hd
  subst hc hd
  have hb := rv.bls
  refine call_meets PySem.F.slot_list_count ⟨_, ho, rfl⟩ PySem.F.entry_list_count (PySem.F.args_list_count_2 _ _)
    (SeqAt.list_countAt p its.toArray n dd sl u (eqU (.bl true))) ⟨ho, fun y hy => mem_eqAt ru rfl rv (flat_bools bs) y (by simpa using hy), ?_⟩
  refine ⟨.int (bs.count true : Nat), H, I.tok _, ⟨s.toks, ?_⟩, q⟩
  show Value.int ((its.toArray.toList.countP (eqU (.bl true)) : Nat) : Int) s.toks = Value.int ((bs.count true : Nat) : Int) s.toks
  rw [hb, count_bools]
theorem mt_tcountB (hk : X.K = K) : MtR X "tuple.count" (rCntT K) := by
  subst hk
  intro pins s σ H x xs v us Q I rx rxs h
  obtain ⟨p, bs, rfl, rfl, hs, q⟩ := h
  cases rx
  obtain ⟨u, rfl, ru⟩ := rxs.one
  obtain ⟨its, rv, ⟨⟨cls, dd, data, sl⟩, ho, hc, n, hd⟩, hlen⟩ := I.tuple hs
  simp only at hc hd
  subst hc hd
  have hb := rv.bls
  refine call_meets PySem.F.slot_tuple_count ⟨_, ho, rfl⟩ PySem.F.entry_tuple_count (PySem.F.args_tuple_count_2 _ _)
    (SeqAt.tuple_countAt p its.toArray n dd sl u (eqU (.bl true))) ⟨ho, fun y hy => mem_eqAt ru rfl rv (flat_bools bs) y (by simpa using hy), ?_⟩
  refine ⟨.int (bs.count true : Nat), H, I.tok _, ⟨s.toks, ?_⟩, q⟩
  show Value.int ((its.toArray.toList.countP (eqU (.bl true)) : Nat) : Int) s.toks = Value.int ((bs.count true : Nat) : Int) s.toks
  rw [hb, count_bools]
theorem u_cntL {a : Addr} {bs : List Bool} {H : Hp} {Q : VK} (h : SqL K H a (bs.map V.bl)) (q : Q (.int (bs.count true : Nat)) H) : rCntL K (.ref a) [.bl true] H Q := ⟨a, bs, rfl, rfl, h, q⟩
theorem u_cntT {a : Addr} {bs : List Bool} {H : Hp} {Q : VK} (h : SqT K H a (bs.map V.bl)) (q : Q (.int (bs.count true : Nat)) H) : rCntT K (.ref a) [.bl true] H Q := ⟨a, bs, rfl, rfl, h, q⟩
end
end L2

/-! Numbers of members, plainly. -/
namespace Wp
/-- the number of members below n -/
def cnt (f : Nat → Bool) (n : Nat) : Nat := (List.range n).countP f
theorem cnt_zero {f : Nat → Bool} : cnt f 0 = 0 := rfl
theorem cnt_succ {f : Nat → Bool} {n : Nat} : cnt f (n + 1) = cnt f n + (if f n = true then 1 else 0) := by
  unfold cnt
  rw [List.range_succ, List.countP_append]
  simp [List.countP_cons]
theorem cnt_congr {f g : Nat → Bool} : ∀ n, (∀ k, k < n → f k = g k) → cnt f n = cnt g n
  | 0, _ => rfl
  | n + 1, h => by rw [cnt_succ, cnt_succ, cnt_congr n fun k hk => h k (by omega), h n (by omega)]
theorem cnt_add {f : Nat → Bool} {a : Nat} : ∀ b, cnt f (a + b) = cnt f a + cnt (fun k => f (a + k)) b
  | 0 => rfl
  | b + 1 => by rw [← Nat.add_assoc, cnt_succ, cnt_add b, cnt_succ, Nat.add_assoc]
theorem per_mul {f : Nat → Bool} {s p : Nat} (h : Per f s p) (q k : Nat) : f (s + q * p + k) = f (s + k) := by
  have := h.mul q (s + k) (by omega)
  rw [← this]
  congr 1
  omega
/-- whole rounds and a rest -/
theorem cnt_rounds {f : Nat → Bool} {s p : Nat} (h : Per f s p) (q r : Nat) : cnt f (s + q * p + r) = cnt f s + q * cnt (fun k => f (s + k)) p + cnt (fun k => f (s + k)) r := by
  have e0 : cnt f (s + q * p) = cnt f s + q * cnt (fun k => f (s + k)) p := by
    induction q with
    | zero => simp
    | succ q ih =>
      rw [Nat.add_mul, Nat.one_mul, ← Nat.add_assoc, cnt_add p, ih, cnt_congr p (g := fun k => f (s + k)) fun k _ => per_mul h q k, Nat.add_mul, Nat.one_mul, Nat.add_assoc]
  rw [cnt_add r, e0, cnt_congr r (g := fun k => f (s + k)) fun k _ => per_mul h q k]
/-- a round from any place on -/
theorem cnt_window {g : Nat → Bool} {p : Nat} (h : ∀ n, g (n + p) = g n) (s : Nat) : cnt (fun k => g (s + k)) p = cnt g p := by
  have h1 := cnt_add (f := g) (a := s) p
  have h2 := cnt_add (f := g) (a := p) s
  rw [cnt_congr s (g := g) fun k _ => by show g (p + k) = g k; rw [Nat.add_comm, h]] at h2
  rw [Nat.add_comm p s] at h2
  omega
theorem count_bt {l : List Bool} : l.count true = cnt (bt l) l.length := by
  have e : l = (List.range l.length).map (bt l) := by
    refine bt_ext (by rw [List.length_map, List.length_range]) fun k hk => ?_
    rw [bt_in (l := (List.range l.length).map (bt l)) (by rw [List.length_map, List.length_range]; exact hk), List.getElem_map, List.getElem_range]
  conv => lhs; rw [e]
  unfold List.count cnt
  rw [List.countP_map]
  congr 1
  funext k
  show (bt l k == true) = bt l k
  cases bt l k <;> rfl
theorem count_take {l : List Bool} {m : Nat} (h : m ≤ l.length) : (l.take m).count true = cnt (bt l) m := by
  have hl : (l.take m).length = m := by rw [List.length_take]; omega
  rw [count_bt, hl]
  exact cnt_congr m fun k hk => bt_take hk
/-- an element of the members below N -/
theorem filt_len {f : Nat → Bool} {N : Nat} : ((List.range N).filter f).length = cnt f N := by
  unfold cnt
  rw [List.countP_eq_length_filter]
theorem filt_get {f : Nat → Bool} {i n : Nat} : ∀ N, ((List.range N).filter f)[i]? = some n → f n = true ∧ n < N ∧ cnt f n = i
  | 0, h => by cases h
  | N + 1, h => by
    rw [List.range_succ, List.filter_append] at h
    by_cases hi : i < ((List.range N).filter f).length
    · rw [List.getElem?_append_left hi] at h
      obtain ⟨h1, h2, h3⟩ := filt_get N h
      exact ⟨h1, by omega, h3⟩
    · rw [List.getElem?_append_right (by omega)] at h
      by_cases hf : f N = true
      · rw [List.filter_cons_of_pos hf, List.filter_nil] at h
        have hlt := (List.getElem?_eq_some_iff.mp h).1
        rw [List.length_singleton] at hlt
        have hi0 : i - ((List.range N).filter f).length = 0 := by omega
        rw [hi0] at h
        obtain rfl : N = n := Option.some.inj h
        rw [filt_len] at hi hi0
        exact ⟨hf, by omega, by omega⟩
      · rw [List.filter_cons_of_neg hf, List.filter_nil] at h
        cases h
/-- the members of a set by its data -/
theorem mem_from {b r : List Bool} {k : Nat} : mem b r (b.length + k) = bt r ((b.length + k) % r.length) := by
  unfold mem
  rw [if_neg (by omega)]
theorem mem_low {b r : List Bool} {k : Nat} (h : k < b.length) : mem b r k = bt b k := by
  unfold mem
  rw [if_pos h]
theorem cnt_low {b r : List Bool} {m : Nat} (h : m ≤ b.length) : cnt (mem b r) m = (b.take m).count true := by
  rw [count_take h]
  exact cnt_congr m fun k hk => mem_low (by omega)
theorem cnt_round {b r : List Bool} (hr : 0 < r.length) : cnt (fun k => mem b r (b.length + k)) r.length = r.count true := by
  rw [cnt_congr r.length (g := fun k => (fun j => bt r (j % r.length)) (b.length + k)) fun k _ => mem_from]
  rw [cnt_window (g := fun j => bt r (j % r.length)) (fun n => by show bt r ((n + r.length) % r.length) = _; rw [Nat.add_mod_right]) b.length, count_bt]
  exact cnt_congr _ fun k hk => by show bt r (k % r.length) = _; rw [Nat.mod_eq_of_lt hk]
/-- the number of members below n behind the start -/
theorem cnt_far {b r : List Bool} {n : Nat} (hr : 0 < r.length) (h : b.length ≤ n) : cnt (mem b r) n = b.count true + (n - b.length) / r.length * r.count true + cnt (fun k => mem b r (b.length + k)) ((n - b.length) % r.length) := by
  have e : n = b.length + (n - b.length) / r.length * r.length + (n - b.length) % r.length := by
    have := Nat.mod_add_div (n - b.length) r.length
    rw [Nat.mul_comm] at this
    omega
  conv => lhs; rw [e]
  rw [cnt_rounds mem_per, cnt_round hr, cnt_low (Nat.le_refl _), List.take_length]
/-- a member by its number -/
theorem member_low {b r : List Bool} {k n : Nat} (h : ((List.range b.length).filter (bt b))[k]? = some n) : mem b r n = true ∧ cnt (mem b r) n = k := by
  obtain ⟨h1, h2, h3⟩ := filt_get _ h
  exact ⟨by rw [mem_low h2]; exact h1, by rw [cnt_congr n (g := bt b) fun j hj => mem_low (by omega)]; exact h3⟩
theorem member_far {b r : List Bool} {i q n : Nat} (hr : 0 < r.length) (h : ((List.range r.length).filter fun k => mem b r (b.length + k))[i]? = some n) :
    mem b r (b.length + n + q * r.length) = true ∧ cnt (mem b r) (b.length + n + q * r.length) = b.count true + q * r.count true + i := by
  obtain ⟨h1, h2, h3⟩ := filt_get _ h
  have e : b.length + n + q * r.length = b.length + q * r.length + n := by omega
  refine ⟨by rw [e, per_mul mem_per]; exact h1, ?_⟩
  rw [e, cnt_rounds mem_per, cnt_round hr, cnt_low (Nat.le_refl _), List.take_length, h3]
end Wp

section
open L2 in
local macro_rules | `(tactic| walk_at "gx") => `(tactic| first
  | ((with_reducible show tVar _ _ _ _); refine g_var rfl ?_)
  | with_reducible refine g_c ?_
  | with_reducible refine g_op ?_
  | with_reducible refine g_cons ?_
  | with_reducible refine g_nil ?_
  | with_reducible refine g_test ?_
  | with_reducible refine g_blp ?_
  | with_reducible refine g_asg ?_
  | (with_reducible refine g_name ?_; (try simp only [List.set_cons_zero, List.set_cons_succ]))
  | with_reducible refine g_call ?_
  | with_reducible refine g_cb ?_
  | with_reducible refine g_I0 ?_
  | with_reducible refine g_U ?_
  | with_reducible refine g_eqI ?_
  | with_reducible refine g_neI ?_
  | with_reducible refine g_if ?_
  | with_reducible refine g_ret ?_
  | with_reducible refine g_retN ?_
  | with_reducible refine g_next ?_
  | with_reducible refine g_drop ?_
  | with_reducible refine g_un ?_
  | with_reducible refine g_tb ?_
  | with_reducible refine g_tup ?_
  | with_reducible refine g_lst ?_
  | with_reducible refine g_and ?_
  | with_reducible refine g_or ?_
  | with_reducible refine g_not ?_
  | with_reducible refine g_andV ?_
  | with_reducible refine g_orV ?_
  | with_reducible refine g_notV ?_
  | with_reducible refine g_ifE ?_
  | with_reducible refine g_fld ?_
  | with_reducible refine g_tt ?_
  | with_reducible refine g_ff ?_
  | with_reducible refine g_ntt ?_
  | with_reducible refine g_nff ?_
  | with_reducible refine g_for ?_
  | with_reducible refine g_list ?_
  | with_reducible refine g_tupI ?_
  | with_reducible refine g_rng1 ?_
  | with_reducible refine g_rng2 ?_
  | with_reducible refine g_enumA ?_
  | with_reducible refine g_rev ?_
  | with_reducible refine g_lc ?_
  | with_reducible refine g_gcons ?_
  | with_reducible refine g_gnil ?_
  | with_reducible refine g_yes ?_
  | with_reducible refine g_sl ?_
  | with_reducible refine g_nopart ?_
  | with_reducible refine g_part ?_
  | with_reducible refine g_int ?_
  | with_reducible refine g_dget ?_
  | with_reducible refine g_dput ?_
  | with_reducible refine g_raiseX ?_
  | with_reducible refine g_tru ?_
  | with_reducible refine g_sub ?_
  | with_reducible refine g_isN ?_
  | with_reducible refine g_notN ?_
  | with_reducible refine g_bm ?_
  | with_reducible refine L2.g_bm0 ?_
  | with_reducible refine g_pair ?_
  | with_reducible refine g_pair0 ?_
  | with_reducible refine u_int1 ?_
  | with_reducible refine g_chain ?_
  | with_reducible refine L2.g_sfld ?_
  | (with_reducible refine g_par3 ?_)
  | (with_reducible refine g_three ?_; (try simp only [List.set_cons_zero, List.set_cons_succ]))
  | ((with_reducible apply L2.g_tupT); walk_at "up"; rfl)
  | (with_reducible refine g_par ?_)
  | (with_reducible refine g_two ?_; (try simp only [List.set_cons_zero, List.set_cons_succ]))
  )
local macro_rules | `(tactic| walk_at "go") => `(tactic| first | walk_at "gx" | with_reducible refine L2.g_seq ?_)
local macro_rules | `(tactic| walk_at "gou") => `(tactic| repeat (walk_at "gx"))
local macro_rules | `(tactic| walk_at "gos") => `(tactic| repeat (walk_at "go"))
local macro_rules | `(tactic| walk_at "sl") => `(tactic| first
  | assumption
  | exact L2.Same.l (by assumption)
  | exact L2.SameD.l (by assumption)
  | exact L2.extN_l (by assumption))
local macro_rules | `(tactic| walk_at "up") => `(tactic| first
  | assumption
  | ((with_reducible apply L2.SameL.lst); walk_at "sl"; walk_at "up")
  | ((with_reducible apply L2.SameL.tupA); walk_at "sl"; walk_at "up")
  | ((with_reducible apply L2.SameL.ins); walk_at "sl"; walk_at "up")
  | ((with_reducible apply Ev.PB.l); walk_at "sl"; walk_at "up")
  | ((with_reducible apply Ev.IsP.l); walk_at "sl"; walk_at "up")
  | ((with_reducible apply L2.sqL); walk_at "up")
  | ((with_reducible apply L2.sqT); walk_at "up")
  | ((with_reducible apply L2.SameL.seq); walk_at "sl"; walk_at "up")
  | ((with_reducible apply Ev.Pen.same); assumption; walk_at "up")
  | ((with_reducible apply Ev.Pen.extN); assumption; walk_at "up")
  | ((with_reducible apply L2.tabs_s); assumption; walk_at "up")
  | ((with_reducible apply L2.tabs_dd); assumption; walk_at "up")
  | ((with_reducible apply Or.inl); walk_at "up")
  | ((with_reducible apply Or.inr); walk_at "up"))
local macro_rules | `(tactic| walk_at "new") => `(tactic| (
  first
    | refine ⟨L2.size_ok (by rfl), fun p hp => ?_⟩
    | refine fun p hp => ?_
  generalize hX : L2.upd _ p _ = H1
  obtain ⟨e, h⟩ := L2.news hp hX
  clear hX))
local macro_rules | `(tactic| walk_at "o") => `(tactic| first
  | ((with_reducible apply Ev.o_add); walk_at "up"; walk_at "up"; rfl; rfl; rfl)
  | ((with_reducible apply Ev.o_sub); walk_at "up"; walk_at "up"; rfl; rfl; rfl)
  | ((with_reducible apply Ev.o_mul); walk_at "up"; walk_at "up"; rfl; rfl; rfl)
  | ((with_reducible apply Ev.o_addI); walk_at "up"; assumption; rfl; rfl; rfl)
  | ((with_reducible apply Ev.o_subI); walk_at "up"; assumption; rfl; rfl; rfl)
  | ((with_reducible apply Ev.o_mulI); walk_at "up"; assumption; rfl; rfl; rfl)
  | ((with_reducible apply Ev.o_radd); walk_at "up"; assumption; rfl; rfl; rfl)
  | ((with_reducible apply Ev.o_rsub); walk_at "up"; assumption; rfl; rfl; rfl)
  | ((with_reducible apply Ev.o_rmul); walk_at "up"; assumption; rfl; rfl; rfl)
  | ((with_reducible apply Ev.o_neg); walk_at "up"; rfl; rfl; rfl))
local macro_rules | `(tactic| walk_at "eq") => `(tactic| ((with_reducible apply Ev.u_ownB); assumption; walk_at "up"; walk_at "up"; (focus (intro k; first | rfl | exact Pl.e_add | exact Pl.e_sub | exact Pl.e_mul | exact Pl.e_rsub | exact Pl.e_rsub2))))
local macro_rules | `(tactic| walk_at "isp") => `(tactic| (apply Ev.u_isB; walk_at "up"; walk_at "up"; rfl; rfl))

/-! Numbers of members: size, many_below, how_many. -/
namespace Wp
theorem count_range {g : Nat → Bool} {n : Nat} : ((List.range n).map g).count true = cnt g n := by
  rw [count_bt, List.length_map, List.length_range]
  exact cnt_congr n fun k hk => by rw [bt_in (by rw [List.length_map, List.length_range]; exact hk), List.getElem_map, List.getElem_range]
end Wp
namespace Ev
open PySem PySem.Spec PyProof.Rows L2 Wp
section
variable {P : Program} {w : World} {K : PySem.W.Frag} {mg : Str → Option Value} {base : Heap}
def spNeedI (K : PySem.W.Frag) (CP : Addr) : Sp := fun vs H Q E => ∃ v : V, vs = [v] ∧ ((∃ i : Int, v = .int i ∧ Q .non H) ∨ (Kd K H v false ∧ ExcR (Same H) CP "n" v E))
theorem sc_need_integer : FnScope ["n"] ["n"] (defScope (topS 20)) := ⟨rfl, rfl, rfl, by decide +kernel, rfl, by decide +kernel, by decide +kernel⟩
theorem ok_need_integer {CP : Addr} (B : Bn mg) (X_BadPlace : ExT P K mg "BadPlace" CP ["n"]) (G_is_integer : CallF P w K mg base "is_integer" ["value"] 1 (spIsInteger K)) {f : Addr} {fd : FuncData} (F : Fun K "need_integer" "need_integer" (topS 20) f fd) : FnOk P w K mg base (L2.CX P w) 3 f fd ["n"] (spNeedI K CP) := by
  have nd := sc_need_integer.nd
  refine F.okX sc_need_integer (fun vs H Q E h => ?_) (fun cdv A outer s H vs Q E hr h => ?_)
  · obtain ⟨v, rfl, _⟩ := h
    rfl
  · refine ⟨_, (pss_one (ps_if (pt_not (pt_val (pe_callF G_is_integer (hr.mono (by decide)) rfl passL (pa_cons (pv 0) pa_nil)))) (pss_one (ps_raiseX rfl X_BadPlace hr (takes_of rfl rfl rfl rfl) (pa_cons (pv 0) pa_nil))) pss_nil)), ?_⟩
    obtain ⟨v, rfl, q⟩ := h
    refine g_st (σ' := [some v]) rfl ?_
    walk_at "gos"
    rcases q with ⟨i, rfl, q⟩ | ⟨hk, q⟩
    · refine ⟨_, _, rfl, Kd.int, ?_⟩
      walk_at "gos"
      exact q
    · refine ⟨_, _, rfl, hk, ?_⟩
      walk_at "gos"
      exact u_raise rfl (by decide) fun d H3 _ e3 hd => q H3 d e3 hd
def spSize (K : PySem.W.Frag) (C : Addr) : Sp := fun vs H Q _ => ∃ (x : Addr) (f : Nat → Bool), vs = [.ref x] ∧ WFN H x C f ∧ ((∀ N, ∃ n, N ≤ n ∧ f n = true) → Q .non H) ∧ ∀ N : Nat, (∀ n, N ≤ n → f n = false) → (∀ m, (∀ n, m ≤ n → f n = false) → cnt f m = cnt f N) → Q (.int (cnt f N : Nat)) H
theorem cnt_tail {f : Nat → Bool} {N : Nat} (h : ∀ n, N ≤ n → f n = false) (m : Nat) (hm : ∀ n, m ≤ n → f n = false) : cnt f m = cnt f N := by
  have up : ∀ a b, (∀ n, a ≤ n → f n = false) → a ≤ b → cnt f b = cnt f a := fun a b ha hab => by
    obtain ⟨c, rfl⟩ := Nat.exists_eq_add_of_le hab
    rw [cnt_add c]
    have : cnt (fun k => f (a + k)) c = cnt (fun _ => false) c := cnt_congr c fun k _ => ha _ (by omega)
    rw [this]
    have z : ∀ c, cnt (fun _ => false) c = 0 := fun c => by
      induction c with
      | zero => rfl
      | succ c ih => rw [cnt_succ, ih]; rfl
    rw [z]
    rfl
  rcases Nat.le_total m N with h' | h'
  · exact (up m N hm h').symm
  · exact up N m h h'
theorem sc_Where_size : FnScope ["self"] ["self"] (defScope (inClass (topS 19) 18)) := ⟨rfl, rfl, rfl, by decide +kernel, rfl, by decide +kernel, by decide +kernel⟩
theorem ok_Where_size {C_Where : Addr} (B : Bn mg) (c_Where : Cls K C_Where) (n2 : NoAttr K C_Where "rests") (n4 : NoAttr K C_Where "below")
    {f : Addr} {fd : FuncData} (F : Fun K "size" "Where.size" (inClass (topS 19) 18) f fd) : FnOk P w K mg base (L2.CX P w) 1 f fd ["self"] (spSize K C_Where) := by
  have nd := sc_Where_size.nd
  refine F.okX sc_Where_size (fun vs H Q E h => ?_) (fun cdv A outer s H vs Q E hr h => ?_)
  · obtain ⟨x, f, rfl, _⟩ := h
    rfl
  · refine ⟨_, (pss_one (ps_ret (pe_ifExp (pt_val (pe_callB (cr_anyT (K := K) rfl rfl) (by rfl) B.any_ (by decide +kernel) (pa_cons (pe_fldK (K := K) rfl (pv 0) rfl) pa_nil))) pe_non (pe_bmT PySem.F.plainAttrs_tuple PySem.F.slot_tuple_count PySem.F.type_tuple_count (mt_tcountB (K := K) rfl) (pe_fldK (K := K) rfl (pv 0) rfl) (pa_cons pe_bl pa_nil))))), ?_⟩
    obtain ⟨x, f, rfl, ⟨bl, rl, ⟨dx, t1, t2, hx, h1, h2⟩, hn, hm, hrl, hbl⟩, q1, q2⟩ := h
    obtain rfl : mem bl rl = f := funext hm
    refine g_st (σ' := [some (.ref x)]) rfl ?_
    walk_at "gos"
    refine u_tfld rfl hx c_Where n2 rfl ?_
    walk_at "gos"
    refine u_anyT h1.sq ?_
    walk_at "gos"
    cases hb : rl.any id with
    | true =>
      obtain ⟨i, hi, hbi⟩ := any_bt.mp hb
      walk_at "gos"
      refine q1 fun N => ⟨i + (N + bl.length) * rl.length, ?_, ?_⟩
      · have : N + bl.length ≤ (N + bl.length) * rl.length := Nat.le_mul_of_pos_right _ hn.pos
        omega
      · have : N + bl.length ≤ (N + bl.length) * rl.length := Nat.le_mul_of_pos_right _ hn.pos
        unfold mem
        rw [if_neg (by omega), Nat.add_mul_mod_self_right, Nat.mod_eq_of_lt hi]
        exact hbi
    | false =>
      have hz : ∀ n, bl.length ≤ n → mem bl rl n = false := fun n h => by
        unfold mem
        rw [if_neg (by omega)]
        cases hc : bt rl (n % rl.length) with
        | false => rfl
        | true =>
          have := any_bt.mpr ⟨_, Nat.mod_lt n hn.pos, hc⟩
          rw [hb] at this
          cases this
      walk_at "gos"
      refine g_bmT ?_
      walk_at "gos"
      refine u_tfld rfl hx c_Where n4 rfl ?_
      refine ⟨⟨t2, _, rfl, h2⟩, ?_⟩
      walk_at "gos"
      refine u_cntT h2.sq ?_
      have := q2 bl.length hz (cnt_tail hz)
      rw [cnt_low (Nat.le_refl _), List.take_length] at this
      exact this
def spManyB (K : PySem.W.Frag) (C : Addr) : Sp := fun vs H Q _ => ∃ (x : Addr) (n : Int) (f : Nat → Bool), vs = [.ref x, .int n] ∧ WFN H x C f ∧ Bd 300 n ∧ ∀ H', Same H H' → Q (.int (cnt f n.toNat : Nat)) H'
theorem sc_Where_many_below : FnScope ["self", "n", "rounds", "more", "k", "first"] ["self", "n"] (defScope (inClass (topS 19) 22)) := ⟨rfl, rfl, rfl, by decide +kernel, rfl, by decide +kernel, by decide +kernel⟩
theorem ok_Where_many_below {C_Where : Addr} (B : Bn mg) (c_Where : Cls K C_Where) (n1 : NoAttr K C_Where "period") (n2 : NoAttr K C_Where "rests") (n3 : NoAttr K C_Where "start") (n4 : NoAttr K C_Where "below") (G_Where_truth : MethF P w K mg base C_Where "truth" ["self", "n"] 1 (spTruth K C_Where))
    {f : Addr} {fd : FuncData} (F : Fun K "many_below" "Where.many_below" (inClass (topS 19) 22) f fd) : FnOk P w K mg base (L2.CX P w) 3 f fd ["self", "n"] (spManyB K C_Where) := by
  have nd := sc_Where_many_below.nd
  refine F.okX sc_Where_many_below (fun vs H Q E h => ?_) (fun cdv A outer s H vs Q E hr h => ?_)
  · obtain ⟨x, n, f, rfl, _⟩ := h
    rfl
  · refine ⟨_, (pss_cons (ps_if (pt_cmpR op_le (pv 1) (pe_fldK (K := K) rfl (pv 0) rfl) (nomark _)) (pss_one (ps_ret (pe_bmT PySem.F.plainAttrs_tuple PySem.F.slot_tuple_count PySem.F.type_tuple_count (mt_tcountB (K := K) rfl) (pe_slice sl_tupN (pe_fldK (K := K) rfl (pv 0) rfl) po_none (po_some (pe_callB (call_max2 rfl) (by rfl) B.max_ (by decide +kernel) (pa_cons (pe_callTy call_in1 (by rfl) B.int_ (by decide +kernel) (pa_cons (pv 1) pa_nil)) (pa_cons pe_int pa_nil))))) (pa_cons pe_bl pa_nil)))) pss_nil)
      (pss_cons (ps_par (i := 2) (j := 3) rfl nd rfl rfl (by decide) rfl rfl (pa_cons (pe_op op_fdivX (pe_op op_sub (pv 1) (pe_fldK (K := K) rfl (pv 0) rfl)) (pe_fldK (K := K) rfl (pv 0) rfl)) (pa_cons (pe_op op_modN (pe_op op_sub (pv 1) (pe_fldK (K := K) rfl (pv 0) rfl)) (pe_fldK (K := K) rfl (pv 0) rfl)) pa_nil)) (by rfl))
      (pss_cons (ps_setLc (i := 5) (own := [("k", 4)]) (g := gName 4) (tt := tYes) rfl nd rfl rfl (sw_true rfl rfl rfl (by decide +kernel)) (pi_range1 rfl B.range (pa_cons (pv 3) pa_nil)) (blkOk_by (N := ["self", "n", "rounds", "more", "k", "first"]) (sc := defScope (inClass (topS 19) 22)) (by decide +kernel)) (fun _ _ _ _ _ => (pg_name (i := 4) nd rfl (.inl rfl))) (fun _ _ _ _ _ => pts_nil) (fun _ _ _ _ _ => (pe_methF c_Where G_Where_truth (pv 0) (hr.mono (by decide)) passL (pa_cons (pe_op op_add (pe_fldK (K := K) rfl (pv 0) rfl) (pv 4)) pa_nil))))
      (pss_one (ps_ret (pe_op op_add (pe_op op_add (pe_bmT PySem.F.plainAttrs_tuple PySem.F.slot_tuple_count PySem.F.type_tuple_count (mt_tcountB (K := K) rfl) (pe_fldK (K := K) rfl (pv 0) rfl) (pa_cons pe_bl pa_nil)) (pe_op op_mulX (pv 2) (pe_bmT PySem.F.plainAttrs_tuple PySem.F.slot_tuple_count PySem.F.type_tuple_count (mt_tcountB (K := K) rfl) (pe_fldK (K := K) rfl (pv 0) rfl) (pa_cons pe_bl pa_nil)))) (pe_bm PySem.F.plainAttrs_list PySem.F.slot_list_count PySem.F.type_list_count (mt_lcountB (K := K) rfl) (pv 5) (pa_cons pe_bl pa_nil)))))))), ?_⟩
    obtain ⟨x, n, f, rfl, hw, hbd, q⟩ := h
    obtain ⟨bl, rl, ⟨dx, t1, t2, hx, h1, h2⟩, hn, hm, hrl, hbl⟩ := id hw
    obtain rfl : mem bl rl = f := funext hm
    refine g_st (σ' := [some (.ref x), some (.int n), none, none, none, none]) rfl ?_
    walk_at "gos"
    refine u_tfld rfl hx c_Where n3 rfl ?_
    walk_at "gos"
    by_cases hle : n ≤ (bl.length : Nat)
    · rw [if_pos (decide_eq_true hle)]
      walk_at "gos"
      refine g_bmT ?_
      walk_at "gos"
      refine u_tfld rfl hx c_Where n4 rfl ?_
      walk_at "gos"
      have hmx : (if (0 : Int) > n then (0 : Int) else n) = ((n.toNat : Nat) : Int) := by split <;> omega
      refine ⟨_, _, rfl, ?_⟩
      rw [hmx]
      refine ⟨_, rfl, ?_⟩
      refine u_slN h2 fun b H1 e1 hb => ?_
      rw [cut_to, ← List.map_take] at hb
      refine ⟨⟨b, _, rfl, hb⟩, ?_⟩
      walk_at "gos"
      refine u_cntT hb.sq ?_
      have := q H1 e1
      rw [cnt_low (by omega)] at this
      exact this
    · rw [if_neg (by rw [decide_eq_true_iff]; exact hle)]
      walk_at "gos"
      refine u_tfld rfl hx c_Where n3 rfl ?_
      walk_at "gos"
      obtain ⟨N, rfl⟩ : ∃ N : Nat, n = N := ⟨n.toNat, by omega⟩
      have hNb : bl.length ≤ N := by omega
      have hsub : (N : Int) - (bl.length : Nat) = ((N - bl.length : Nat) : Int) := by omega
      have hpos := hn.pos
      refine u_tfld rfl hx c_Where n1 rfl ?_
      refine g_I (Bd.divX (n := 40) (by omega) (by unfold Bd; omega) (by decide)) ?_
      walk_at "gos"
      refine u_tfld rfl hx c_Where n3 rfl ?_
      walk_at "gos"
      refine u_tfld rfl hx c_Where n1 rfl ?_
      refine g_I (by omega) ?_
      rw [hsub, fdiv_nat, fmod_nat]
      walk_at "gos"
      have hmod := Nat.mod_lt (N - bl.length) hpos
      have hW : WF K H x C_Where (mem bl rl) := hw.w
      refine u_rng (by omega) (by omega) fun D hD => ?_
      refine lc_it walk_range (PvL H D (fun _ => true) (fun k => .bl (mem bl rl (bl.length + k)))) (lc_start hD) (fun _ _ _ _ => trivial) (fun k y H3 H4 hi pv q6 => ?_) (fun H3 pv => ?_)
      · obtain ⟨rfl, rfl⟩ := q6
        walk_at "gos"
        refine ⟨rfl, ?_⟩
        walk_at "gos"
        refine ⟨.ref x, rfl, x, dx, _, rfl, pv.1 _ _ hx, rfl, ?_⟩
        walk_at "gos"
        refine u_tfld rfl (pv.1 _ _ hx) c_Where n3 rfl ?_
        walk_at "gos"
        rw [show ((bl.length : Nat) : Int) + (0 + (k : Int)) = ((bl.length + k : Nat) : Int) by omega]
        refine ⟨x, bl.length + k, _, rfl, hW.l pv.1.l, ?_⟩
        exact lc_yes hD pv (Same.refl _) rfl rfl (by omega)
      obtain ⟨e3, h3⟩ := pv
      rw [given_all, Int.toNat_natCast] at h3
      have h3' : H3 D = some (.lst (((List.range ((N - bl.length) % rl.length)).map fun k => mem bl rl (bl.length + k)).map V.bl)) := by rw [h3, List.map_map]; rfl
      walk_at "gos"
      refine g_bmT ?_
      walk_at "gos"
      refine u_tfld rfl (e3 _ _ hx) c_Where n4 rfl ?_
      refine ⟨⟨t2, _, rfl, h2.same e3⟩, ?_⟩
      walk_at "gos"
      refine u_cntT (h2.same e3).sq ?_
      walk_at "gos"
      refine g_bmT ?_
      walk_at "gos"
      refine u_tfld rfl (e3 _ _ hx) c_Where n2 rfl ?_
      refine ⟨⟨t1, _, rfl, h1.same e3⟩, ?_⟩
      walk_at "gos"
      refine u_cntT (h1.same e3).sq ?_
      have hcr : rl.count true ≤ rl.length := List.count_le_length
      have hdiv : (N - bl.length) / rl.length ≤ N := Nat.le_trans (Nat.div_le_self _ _) (Nat.sub_le _ _)
      have hbd1 : Bd 300 (((N - bl.length) / rl.length : Nat) : Int) := by
        unfold Bd at hbd ⊢
        rw [Int.natAbs_natCast] at hbd ⊢
        exact Nat.lt_of_le_of_lt hdiv hbd
      refine g_I (cmul_small (n := 300) (m := 40) hbd1 (by unfold Bd; omega)) ?_
      walk_at "gos"
      refine ⟨.inl ⟨rfl, _, sqL h3'⟩, ?_⟩
      walk_at "gos"
      refine u_cntL (sqL h3') ?_
      have := q H3 e3
      rw [Int.toNat_natCast, cnt_far hpos hNb] at this
      rw [count_range]
      rw [Int.natCast_add, Int.natCast_add, Int.natCast_mul] at this
      walk_at "gos"
      exact this
/-- how_many -/
def spHowMany (K : PySem.W.Frag) (C CP : Addr) : Sp := fun vs H Q E => ∃ (x : Addr) (f : Nat → Bool) (u v : V), vs = [.ref x, u, v] ∧ WFN H x C f ∧
  ((∃ i j : Int, u = .int i ∧ v = .int j ∧ Bd 300 i ∧ Bd 300 j ∧ ∀ H', Same H H' → Q (.int (if (cnt f j.toNat : Int) - (cnt f i.toNat : Int) > 0 then (cnt f j.toNat : Int) - (cnt f i.toNat : Int) else 0)) H') ∨
   (Kd K H u false ∧ ExcR (Same H) CP "n" u E) ∨ (∃ i : Int, u = .int i ∧ Kd K H v false ∧ ExcR (Same H) CP "n" v E))
theorem sc_Where_how_many : FnScope ["self", "low", "high"] ["self", "low", "high"] (defScope (inClass (topS 19) 21)) := ⟨rfl, rfl, rfl, by decide +kernel, rfl, by decide +kernel, by decide +kernel⟩
theorem ok_Where_how_many {C_Where CP : Addr} (B : Bn mg) (c_Where : Cls K C_Where) (G_need_integer : CallF P w K mg base "need_integer" ["n"] 3 (spNeedI K CP)) (G_Where_many_below : MethF P w K mg base C_Where "many_below" ["self", "n"] 3 (spManyB K C_Where))
    {f : Addr} {fd : FuncData} (F : Fun K "how_many" "Where.how_many" (inClass (topS 19) 21) f fd) : FnOk P w K mg base (L2.CX P w) 5 f fd ["self", "low", "high"] (spHowMany K C_Where CP) := by
  have nd := sc_Where_how_many.nd
  refine F.okX sc_Where_how_many (fun vs H Q E h => ?_) (fun cdv A outer s H vs Q E hr h => ?_)
  · obtain ⟨x, f, u, v, rfl, _⟩ := h
    rfl
  · refine ⟨_, (pss_cons (ps_expr (pe_callF G_need_integer (hr.mono (by decide)) rfl (passes_call (takes_of rfl rfl rfl rfl) (fun _ _ _ _ h => h)) (pa_cons (pv 1) pa_nil)))
      (pss_cons (ps_expr (pe_callF G_need_integer (hr.mono (by decide)) rfl (passes_call (takes_of rfl rfl rfl rfl) (fun _ _ _ _ h => h)) (pa_cons (pv 2) pa_nil)))
      (pss_one (ps_ret (pe_callB (call_max2 rfl) (by rfl) B.max_ (by decide +kernel) (pa_cons pe_int (pa_cons (pe_callTy call_in1 (by rfl) B.int_ (by decide +kernel) (pa_cons (pe_op op_sub (pe_methF c_Where G_Where_many_below (pv 0) (hr.mono (by decide)) passL (pa_cons (pv 2) pa_nil)) (pe_methF c_Where G_Where_many_below (pv 0) (hr.mono (by decide)) passL (pa_cons (pv 1) pa_nil))) pa_nil)) pa_nil))))))), ?_⟩
    obtain ⟨x, f, u, v, rfl, hw, q⟩ := h
    refine g_st (σ' := [some (.ref x), some u, some v]) rfl ?_
    have hins : ∀ H', Same H H' → ∃ dx fs, H' x = some (.ins C_Where dx fs) ∧ fs.lookup ("many_below" : Str) = none := fun H' e => by
      obtain ⟨bl, rl, ⟨dx, t1, t2, hx, _⟩, _⟩ := hw
      exact ⟨dx, _, e _ _ hx, rfl⟩
    walk_at "gos"
    rcases q with ⟨i, j, rfl, rfl, hi, hj, q⟩ | ⟨hk, q⟩ | ⟨i, rfl, hk, q⟩
    · refine ⟨_, rfl, .inl ⟨i, rfl, ?_⟩⟩
      walk_at "gos"
      refine ⟨_, rfl, .inl ⟨j, rfl, ?_⟩⟩
      walk_at "gos"
      obtain ⟨dx, fs, hx, hl⟩ := hins H (Same.refl H)
      refine ⟨.ref x, rfl, x, dx, _, rfl, hx, hl, ?_⟩
      walk_at "gos"
      refine ⟨x, j, f, rfl, hw, hj, fun H1 e1 => ?_⟩
      walk_at "gos"
      obtain ⟨dx, fs, hx, hl⟩ := hins H1 e1
      refine ⟨.ref x, rfl, x, dx, _, rfl, hx, hl, ?_⟩
      walk_at "gos"
      refine ⟨x, i, f, rfl, hw.l e1.l, hi, fun H2 e2 => ?_⟩
      walk_at "gos"
      exact ⟨_, _, rfl, q H2 (e1.trans e2)⟩
    · refine ⟨_, rfl, .inr ⟨hk, fun H' d e hd => q H' d e hd⟩⟩
    · refine ⟨_, rfl, .inl ⟨i, rfl, ?_⟩⟩
      walk_at "gos"
      refine ⟨_, rfl, .inr ⟨hk, fun H' d e hd => q H' d e hd⟩⟩
/-- member -/
def spMember (K : PySem.W.Frag) (C CN CM : Addr) : Sp := fun vs H Q E => ∃ (x : Addr) (f : Nat → Bool) (v : V), vs = [.ref x, v] ∧ WFN H x C f ∧
  ((∃ k : Nat, v = .int k ∧ Bd 300 (k : Int) ∧ (∀ n H', Same H H' → f n = true → cnt f n = k → n ≤ 20000 + 720 * k → Q (.int (n : Nat)) H') ∧ ((∀ n, f n = true → cnt f n < k) → ExcR (Same H) CM "k" (.int k) E)) ∨
   (Np K H v ∧ ExcR (Same H) CN "number" v E))
theorem sc_Where_member : FnScope ["self", "k", "n", "ahead", "first"] ["self", "k"] (defScope (inClass (topS 19) 23)) := ⟨rfl, rfl, rfl, by decide +kernel, rfl, by decide +kernel, by decide +kernel⟩
theorem ok_Where_member {C_Where CN CM : Addr} (B : Bn mg) (c_Where : Cls K C_Where) (n1 : NoAttr K C_Where "period") (n2 : NoAttr K C_Where "rests") (n3 : NoAttr K C_Where "start") (n4 : NoAttr K C_Where "below") (X_BadNumber : ExT P K mg "BadNumber" CN ["number"]) (X_NoMember : ExT P K mg "NoMember" CM ["k"])
    (G_is_place : CallF P w K mg base "is_place" ["value"] 2 (spPlace K)) (G_Where_truth : MethF P w K mg base C_Where "truth" ["self", "n"] 1 (spTruth K C_Where))
    {f : Addr} {fd : FuncData} (F : Fun K "member" "Where.member" (inClass (topS 19) 23) f fd) : FnOk P w K mg base (L2.CX P w) 5 f fd ["self", "k"] (spMember K C_Where CN CM) := by
  have nd := sc_Where_member.nd
  refine F.okX sc_Where_member (fun vs H Q E h => ?_) (fun cdv A outer s H vs Q E hr h => ?_)
  · obtain ⟨x, f, v, rfl, _⟩ := h
    rfl
  · refine ⟨_, (pss_cons (ps_if (pt_not (pt_val (pe_callF G_is_place (hr.mono (by decide)) rfl passL (pa_cons (pv 1) pa_nil)))) (pss_one (ps_raiseX rfl X_BadNumber hr (takes_of rfl rfl rfl rfl) (pa_cons (pv 1) pa_nil))) pss_nil)
      (pss_cons (ps_setLc (i := 3) (own := [("n", 2)]) (g := gName 2) rfl nd rfl rfl (sw_true rfl rfl rfl (by decide +kernel)) (pi_range1 rfl B.range (pa_cons (pe_fldK (K := K) rfl (pv 0) rfl) pa_nil)) (blkOk_by (N := ["self", "k", "n", "ahead", "first"]) (sc := defScope (inClass (topS 19) 23)) (by decide +kernel)) (fun _ _ _ _ _ => (pg_name (i := 2) nd rfl (.inl rfl))) (fun _ _ _ _ _ => (pts_one (pt_val (pe_ix (ix_tupK (K := K) rfl) (pe_fldK (K := K) rfl (pv 0) rfl) (pv 2) (fun _ _ => rfl))))) (fun _ _ _ _ _ => (pv 2)))
      (pss_cons (ps_if (pt_cmpR op_lt (pv 1) (pe_callB (call_lnK (K := K) rfl) (by rfl) B.len_ (by decide +kernel) (pa_cons (pv 3) pa_nil)) (nomark _)) (pss_one (ps_ret (pe_ix (ix_listK (K := K) rfl) (pv 3) (pv 1) (fun _ _ => rfl)))) pss_nil)
      (pss_cons (ps_setLc (i := 4) (own := [("n", 2)]) (g := gName 2) rfl nd rfl rfl (sw_true rfl rfl rfl (by decide +kernel)) (pi_range2 rfl B.range (pa_cons (pe_fldK (K := K) rfl (pv 0) rfl) (pa_cons (pe_op op_add (pe_fldK (K := K) rfl (pv 0) rfl) (pe_fldK (K := K) rfl (pv 0) rfl)) pa_nil))) (blkOk_by (N := ["self", "k", "n", "ahead", "first"]) (sc := defScope (inClass (topS 19) 23)) (by decide +kernel)) (fun _ _ _ _ _ => (pg_name (i := 2) nd rfl (.inl rfl))) (fun _ _ _ _ _ => (pts_one (pt_val (pe_methF c_Where G_Where_truth (pv 0) (hr.mono (by decide)) passL (pa_cons (pv 2) pa_nil))))) (fun _ _ _ _ _ => (pv 2)))
      (pss_cons (ps_if (pt_cmpR (op_eqDK (K := K) rfl hr.units) (pv 4) (pe_lst pa_nil) (nomark _)) (pss_one (ps_raiseX rfl X_NoMember hr (takes_of rfl rfl rfl rfl) (pa_cons (pv 1) pa_nil))) pss_nil)
      (pss_one (ps_ret (pe_op op_add (pe_ix (ix_listK (K := K) rfl) (pv 4) (pe_op op_modN (pe_op op_sub (pv 1) (pe_callB (call_lnK (K := K) rfl) (by rfl) B.len_ (by decide +kernel) (pa_cons (pv 3) pa_nil))) (pe_callB (call_lnK (K := K) rfl) (by rfl) B.len_ (by decide +kernel) (pa_cons (pv 4) pa_nil))) (fun _ _ => rfl)) (pe_op op_mulX (pe_op op_fdivX (pe_op op_sub (pv 1) (pe_callB (call_lnK (K := K) rfl) (by rfl) B.len_ (by decide +kernel) (pa_cons (pv 3) pa_nil))) (pe_callB (call_lnK (K := K) rfl) (by rfl) B.len_ (by decide +kernel) (pa_cons (pv 4) pa_nil))) (pe_fldK (K := K) rfl (pv 0) rfl)))))))))), ?_⟩
    obtain ⟨x, f, v, rfl, hw, q⟩ := h
    obtain ⟨bl, rl, ⟨dx, t1, t2, hx, h1, h2⟩, hn, hm, hrl, hbl⟩ := id hw
    obtain rfl : mem bl rl = f := funext hm
    refine g_st (σ' := [some (.ref x), some v, none, none, none]) rfl ?_
    walk_at "gos"
    rcases q with ⟨k, rfl, hk, q1, q2⟩ | ⟨hk, q⟩
    · refine ⟨_, rfl, .inl ⟨_, rfl, by omega, ?_⟩⟩
      walk_at "gos"
      refine u_tfld rfl hx c_Where n3 rfl ?_
      walk_at "gos"
      refine u_rng (by omega) (by omega) fun D hD => ?_
      refine lc_it walk_range (PvL H D (bt bl) (fun n => .int (n : Nat))) (lc_start hD) (fun _ _ _ _ => trivial) (fun n y H3 H4 hi pv q6 => ?_) (fun H3 pv => ?_)
      · obtain ⟨rfl, rfl⟩ := q6
        walk_at "gos"
        refine ⟨rfl, ?_⟩
        walk_at "gos"
        refine u_tfld rfl (pv.1 _ _ hx) c_Where n4 rfl ?_
        walk_at "gos"
        rw [show (0 : Int) + (n : Int) = (n : Int) from Int.zero_add _]
        have hn' : n < bl.length := by omega
        refine u_ixT (h2.same pv.1).sq (atI_nat (atB hn')) ?_
        refine ⟨_, rfl, ?_⟩
        cases hb : bt bl n with
        | true =>
          rw [if_pos rfl]
          walk_at "gos"
          exact lc_yes hD pv (Same.refl _) hb rfl (by omega)
        | false =>
          rw [if_neg (by decide)]
          exact lc_no pv (Same.refl _) hb
      obtain ⟨e3, h3⟩ := pv
      rw [Int.toNat_natCast] at h3
      have hgl : (given bl.length (bt bl) fun n => V.int (n : Nat)).length = bl.count true := by unfold given; rw [List.length_map, filt_len, ← count_bt]
      have hlow : cnt (mem bl rl) bl.length = bl.count true := by rw [cnt_low (Nat.le_refl _), List.take_length]
      have hpos := hn.pos
      walk_at "gos"
      refine u_lenL (sqL h3) ?_
      rw [hgl]
      walk_at "gos"
      by_cases hlt : k < bl.count true
      · rw [if_pos (decide_eq_true (by omega))]
        walk_at "gos"
        have hfl : ((List.range bl.length).filter (bt bl)).length = bl.count true := by rw [filt_len, ← count_bt]
        have hge : ((List.range bl.length).filter (bt bl))[k]? = some (((List.range bl.length).filter (bt bl))[k]'(by omega)) := List.getElem?_eq_getElem _
        generalize ((List.range bl.length).filter (bt bl))[k]'(by omega) = n at hge
        obtain ⟨g1, g2⟩ := member_low (r := rl) hge
        refine u_ixL (sqL h3) (atI_nat (v := V.int (n : Nat)) (by unfold given; rw [List.getElem?_map, hge]; rfl)) ?_
        walk_at "gos"
        exact q1 n H3 e3 g1 g2 (by have := (filt_get _ hge).2.1; omega)
      rw [if_neg (by rw [decide_eq_true_iff]; omega)]
      walk_at "gos"
      have hW : WF K H x C_Where (mem bl rl) := hw.w
      refine u_tfld rfl (e3 _ _ hx) c_Where n3 rfl ?_
      walk_at "gos"
      refine u_tfld rfl (e3 _ _ hx) c_Where n3 rfl ?_
      walk_at "gos"
      refine u_tfld rfl (e3 _ _ hx) c_Where n1 rfl ?_
      walk_at "gos"
      refine ⟨_, _, rfl, by omega, fun D2 hD2 => ?_⟩
      have hpp : ((bl.length : Int) + (rl.length : Int) - (bl.length : Int)).toNat = rl.length := by omega
      refine lc_it walk_range (PvL H3 D2 (fun t => mem bl rl (bl.length + t)) (fun t => .int ((bl.length + t : Nat) : Int))) (lc_start hD2) (fun _ _ _ _ => trivial) (fun t y H4 H5 hi pv q6 => ?_) (fun H4 pv => ?_)
      · obtain ⟨rfl, rfl⟩ := q6
        walk_at "gos"
        refine ⟨rfl, ?_⟩
        walk_at "gos"
        refine ⟨.ref x, rfl, x, dx, _, rfl, pv.1 _ _ (e3 _ _ hx), rfl, ?_⟩
        walk_at "gos"
        rw [show ((bl.length : Nat) : Int) + (t : Int) = ((bl.length + t : Nat) : Int) by omega]
        refine ⟨x, bl.length + t, _, rfl, hW.l (e3.trans pv.1).l, ?_⟩
        refine ⟨_, rfl, ?_⟩
        cases hb : mem bl rl (bl.length + t) with
        | true =>
          rw [if_pos rfl]
          walk_at "gos"
          exact lc_yes hD2 pv (Same.refl _) hb rfl (by omega)
        | false =>
          rw [if_neg (by decide)]
          exact lc_no pv (Same.refl _) hb
      obtain ⟨e4, h4⟩ := pv
      rw [hpp] at h4
      obtain ⟨fs, hfs⟩ : ∃ fs, fs = (List.range rl.length).filter fun t => mem bl rl (bl.length + t) := ⟨_, rfl⟩
      have h4' : H4 D2 = some (.lst ((fs.map fun t => ((bl.length + t : Nat) : Int)).map V.int)) := by
        rw [h4, hfs]
        unfold given
        rw [List.map_map]
        rfl
      have hfl : fs.length = rl.count true := by rw [hfs, filt_len, cnt_round hpos]
      have e34 := e3.trans e4
      walk_at "gos"
      (walk_at "new"; rename_i z1 _ H5 e5 h5; walk_at "gos")
      refine u_eqL (ms := []) (sqL (e5 _ _ h4')) (sqL h5) ?_
      walk_at "gos"
      by_cases hf0 : fs = []
      · rw [if_pos (by simp [hf0])]
        walk_at "gos"
        have hnone : ∀ n, mem bl rl n = true → cnt (mem bl rl) n < k := fun n hn1 => by
          by_cases hnb : n < bl.length
          · have h1 : cnt (mem bl rl) (n + 1) ≤ cnt (mem bl rl) bl.length := by
              obtain ⟨c, hc⟩ := Nat.exists_eq_add_of_le (show n + 1 ≤ bl.length from hnb)
              rw [hc, cnt_add c]
              omega
            rw [cnt_succ, if_pos hn1, hlow] at h1
            omega
          · exfalso
            have hz : cnt (fun t => mem bl rl (bl.length + t)) rl.length = 0 := by
              rw [cnt_round hpos, ← hfl, hf0]; rfl
            have hin : (n - bl.length) % rl.length ∈ fs := by
              rw [hfs, List.mem_filter, List.mem_range]
              refine ⟨Nat.mod_lt _ hpos, ?_⟩
              have e : n = bl.length + (n - bl.length) / rl.length * rl.length + (n - bl.length) % rl.length := by
                have := Nat.mod_add_div (n - bl.length) rl.length
                rw [Nat.mul_comm] at this
                omega
              rw [e, per_mul mem_per] at hn1
              exact hn1
            rw [hf0] at hin
            cases hin
        exact u_raise rfl (by decide) fun d H6 _ e6 hd => q2 hnone H6 d (e34.trans (e5.trans e6)) hd
      · rw [if_neg (by rw [decide_eq_true_iff]; simpa using hf0)]
        have hfpos : 0 < fs.length := List.length_pos_iff.mpr hf0
        have e35 := e4.trans e5
        walk_at "gos"
        refine u_lenL (sqL (e35 _ _ h3)) ?_
        rw [hgl]
        walk_at "gos"
        refine u_lenL (sqL (e5 _ _ h4')) ?_
        rw [List.length_map, List.length_map]
        have hsub : (k : Int) - (bl.count true : Nat) = ((k - bl.count true : Nat) : Int) := by omega
        walk_at "gos"
        refine g_I (by omega) ?_
        rw [hsub, fmod_nat]
        have hidx := Nat.mod_lt (k - bl.count true) hfpos
        have hge : fs[(k - bl.count true) % fs.length]? = some (fs[(k - bl.count true) % fs.length]) := List.getElem?_eq_getElem _
        generalize hnn : fs[(k - bl.count true) % fs.length] = n at hge
        refine u_ixL (sqL (e5 _ _ h4')) (atI_nat (v := V.int ((bl.length + n : Nat) : Int)) (by rw [List.getElem?_map, List.getElem?_map, hge]; rfl)) ?_
        walk_at "gos"
        refine u_lenL (sqL (e35 _ _ h3)) ?_
        rw [hgl]
        walk_at "gos"
        refine u_lenL (sqL (e5 _ _ h4')) ?_
        rw [List.length_map, List.length_map]
        have hfsl : fs.length ≤ 720 := by
          have : rl.count true ≤ rl.length := List.count_le_length
          omega
        walk_at "gos"
        rw [hsub]
        refine g_I (Bd.divX (n := 40) (by omega) (by unfold Bd; omega) (by decide)) ?_
        rw [fdiv_nat]
        walk_at "gos"
        refine u_tfld rfl ((e3.trans e35) _ _ hx) c_Where n1 rfl ?_
        have hdiv : (k - bl.count true) / fs.length ≤ k := Nat.le_trans (Nat.div_le_self _ _) (Nat.sub_le _ _)
        have hbd1 : Bd 300 (((k - bl.count true) / fs.length : Nat) : Int) := by
          unfold Bd at hk ⊢
          rw [Int.natAbs_natCast] at hk ⊢
          exact Nat.lt_of_le_of_lt hdiv hk
        refine g_I (cmul_small (n := 300) (m := 40) hbd1 (by unfold Bd; omega)) ?_
        walk_at "gos"
        rw [hfs] at hge
        obtain ⟨g1, g2⟩ := member_far (q := (k - bl.count true) / fs.length) hpos hge
        rw [← hfl] at g2
        have hmd := Nat.mod_add_div (k - bl.count true) fs.length
        rw [Nat.mul_comm] at hmd
        have := q1 (bl.length + n + (k - bl.count true) / fs.length * rl.length) H5 (e3.trans e35) g1 (by rw [g2, ← hfs]; omega) (by have h1 := (filt_get _ hge).2.1; have h2 := Nat.mul_le_mul hdiv hrl; rw [hfs] at h2; rw [← hfs] at h2; omega)
        rw [Int.natCast_add, Int.natCast_mul] at this
        exact this
    · refine ⟨_, rfl, .inr ⟨hk, ?_⟩⟩
      walk_at "gos"
      exact u_raise rfl (by decide) fun d H3 _ e3 hd => q H3 d e3 hd
end
end Ev

end
/-! range(i, j) and range(i, j, -1) of ints of any size. -/
namespace L2
open PySem PySem.Spec PyProof.Rows
theorem turn_longC {P : Program} {w : World} {K : PySem.W.Frag} {tg : Expr} (it : Addr) (lo c : Int) (n : Nat) : Turn P w K tg (Itc lo c n) [it] it (fun i h => IsLongIter h it (lo + (i : Nat) * c) ((n : Int) - (i : Nat)) c) where
  mem := by simp
  obj := fun i h st b hb => by
    have e : b = it := by simpa using hb
    subst e
    exact ⟨_, st, fun v z => nomatch z⟩
  keep := fun i h h' st k => k it (by simp) _ st
  item := by
    intro X hP hw hK hc i pins s σ H E I hf st hg
    subst hP hw hK
    obtain ⟨f0, f1, f2, f3, f4, f5⟩ := hf it (by simp)
    have W := Walks.longrange (prog := X.prog) (w := X.w) (I.ok.hd hc) it lo c n
    refine W.item i s _ _ hg st fun v h' tk hv st' kk => ?_
    obtain ⟨t, rfl⟩ := hv
    have I1 : Inv X pins σ H { s with heap := h', toks := tk } := I.turned (fun b o hb e => kk b o (by simpa using hb) e) f0 f1 f3 f4 f5
    exact ⟨_, rfl, go_of (s := { s with heap := h', toks := tk }) (n := "longrange_iterator") st' rfl rfl (by decide) ⟨.int (lo + (i : Nat) * c), H, I1, ⟨t, rfl⟩, ⟨rfl, rfl⟩, st', fun b hb => (hf b hb).1⟩⟩
  done := by
    intro X hP hw hK hc i pins s σ H E I hf st hg
    subst hP hw hK
    obtain ⟨f0, f1, f2, f3, f4, f5⟩ := hf it (by simp)
    exact wpAny_pyNext_long_end (I.ok.hd hc) st (by have : n ≤ i := hg; omega) fun h' eb => ⟨rfl, I.turned (t' := s.toks) (fun b o hb e => eb b o hb e) f0 f1 f3 f4 f5⟩
  self := fun A i s Q E st h => wpAny_pyIter_longiter st h
/-- a range object just made, walked -/
theorem range_itB {X : Cx} {tg : Expr} {pins : List (Addr × Obj)} {σ : St} {H : Hp} {s : Shared} {R : It → Hp → Prop} {E : Value → Shared → Prop} {lo hi c : Int} {n : Nat} {t u v : Tok} {tk : Nat} (I : Inv X pins σ H s) (hn : Builtin.Range.rangeSize lo hi c = n) (q : R (Itc lo c n) H) :
    wpAny (model X.prog X.w) X.A (pyIter (.ref s.heap.objs.size)) (PIE X pins σ tg R) E { s with heap := s.heap.push { cls := .type "range", data := .fields #[.int lo t, .int hi u, .int c v] }, toks := tk } := by
  have I1 : Inv X pins σ H { s with heap := s.heap.push { cls := .type "range", data := .fields #[.int lo t, .int hi u, .int c v] }, toks := tk } := I.kept fun b o e => Heap.get?_push_of_some _ e
  have e1 : lo + ((0 : Nat) : Int) * c = lo := by simp
  have e2 : (n : Int) - ((0 : Nat) : Int) = Builtin.Range.rangeSize lo hi c := by rw [hn]; simp
  cases hs : Builtin.Range.small lo hi c with
  | true =>
    refine wpAny_pyIter_range (IsRange.new ..) hs ?_
    refine pi_one (tk := tk) I1 _ (turn_rangeC _ lo c n) ?_ q
    show IsRangeIter _ _ (lo + ((0 : Nat) : Int) * c) ((n : Int) - ((0 : Nat) : Int)) c
    rw [e1, e2]
    exact Heap.get?_push_size _ rfl
  | false =>
    refine wpAny_pyIter_longrange (IsRange.new ..) hs ?_
    refine pi_one (tk := tk) I1 _ (turn_longC _ lo c n) ?_ q
    show IsLongIter _ _ (lo + ((0 : Nat) : Int) * c) ((n : Int) - ((0 : Nat) : Int)) c
    rw [e1, e2]
    exact Heap.get?_push_size _ rfl
def iRngB2 (ta : TA) : TI := fun σ H R => ta σ H fun vs H1 => ∃ i j : Int, vs = [.int i, .int j] ∧ R (Itc i 1 (j - i).toNat) H1
def iRngB1 (ta : TA) : TI := fun σ H R => ta σ H fun vs H1 => ∃ j : Int, vs = [.int j] ∧ R (Itc 0 1 j.toNat) H1
def iRngD (ta : TA) : TI := fun σ H R => ta σ H fun vs H1 => ∃ i j : Int, vs = [.int i, .int j, .int (-1)] ∧ R (Itc i (-1) (i - j).toNat) H1
section
variable {X : Cx} {tg : Expr}
theorem pi_rangeB2 {a b : Expr} {ta : TA} {p pos : Pos} (hg : Gl X "range") (hm : X.mg "range" = none) (ha : PA X [a, b] ta) (hs : starEach [a, b] X.env = [(false, eval a X.env), (false, eval b X.env)] := by rfl) (hs2 : starEach [b] X.env = [(false, eval b X.env)] := by rfl) :
    PI X tg (.Call (.Name "range" p) [a, b] [] pos) (iRngB2 ta) := by
  refine ⟨fun pins s σ H R I h => ?_⟩
  refine Call_ (ld_blt I hg hm boot_range (PyProof.Rows.callWith_type1 (thn (ha.run pos pins s σ H _ I h) fun us s1 ⟨vs, H1, I1, r1, q1⟩ => ?_) (by rw [hs, hs2]) (by rw [hs2]; rfl)))
  obtain ⟨i, j, e, q⟩ := q1
  subst e
  cases r1 with
  | cons r rr =>
    cases rr with
    | cons r' rr =>
      cases rr
      obtain ⟨t, rfl⟩ := r
      obtain ⟨t', rfl⟩ := r'
      exact call_range_2 (range_itB I1 (by rw [rangeSize_one]; split <;> omega) q)
theorem pi_rangeB1 {a : Expr} {ta : TA} {p pos : Pos} (hg : Gl X "range") (hm : X.mg "range" = none) (ha : PA X [a] ta) (hs : starEach [a] X.env = [(false, eval a X.env)] := by rfl) :
    PI X tg (.Call (.Name "range" p) [a] [] pos) (iRngB1 ta) := by
  refine ⟨fun pins s σ H R I h => ?_⟩
  refine Call_ (ld_blt I hg hm boot_range (PyProof.Rows.callWith_type1 (thn (ha.run pos pins s σ H _ I h) fun us s1 ⟨vs, H1, I1, r1, q1⟩ => ?_) hs rfl))
  obtain ⟨j, e, q⟩ := q1
  subst e
  cases r1 with
  | cons r rr =>
    cases rr
    obtain ⟨t, rfl⟩ := r
    exact call_range_1 (range_itB I1 (by rw [rangeSize_one]; split <;> omega) q)
theorem pi_rangeD {a b c : Expr} {ta : TA} {p pos : Pos} (hg : Gl X "range") (hm : X.mg "range" = none) (ha : PA X [a, b, c] ta)
    (hs : starEach [a, b, c] X.env = (false, eval a X.env) :: starEach [b, c] X.env := by rfl) (hpl : (backTo pos (starEach [b, c] X.env)).any (·.1) = false := by rfl) :
    PI X tg (.Call (.Name "range" p) [a, b, c] [] pos) (iRngD ta) := by
  refine ⟨fun pins s σ H R I h => ?_⟩
  refine Call_ (ld_blt I hg hm boot_range (PyProof.Rows.callWith_type1 (thn (ha.run pos pins s σ H _ I h) fun us s1 ⟨vs, H1, I1, r1, q1⟩ => ?_) hs hpl))
  obtain ⟨i, j, e, q⟩ := q1
  subst e
  cases r1 with
  | cons r rr =>
    cases rr with
    | cons r' rr =>
      cases rr with
      | cons r'' rr =>
        cases rr
        obtain ⟨t, rfl⟩ := r
        obtain ⟨t', rfl⟩ := r'
        obtain ⟨t'', rfl⟩ := r''
        exact call_range_3 (by decide) (range_itB I1 (PySem.W.rangeSize_downNat i j) q) (.inl (PyProof.noPylong_small (by decide)))
end
section
variable {σ : St} {H : Hp} {t : TA} {R : It → Hp → Prop}
theorem g_rngB2 (q : t σ H fun vs H1 => ∃ i j : Int, vs = [.int i, .int j] ∧ R (Itc i 1 (j - i).toNat) H1) : iRngB2 t σ H R := q
theorem g_rngB1 (q : t σ H fun vs H1 => ∃ j : Int, vs = [.int j] ∧ R (Itc 0 1 j.toNat) H1) : iRngB1 t σ H R := q
theorem g_rngD (q : t σ H fun vs H1 => ∃ i j : Int, vs = [.int i, .int j, .int (-1)] ∧ R (Itc i (-1) (i - j).toNat) H1) : iRngD t σ H R := q
end
end L2

section
open L2 in
local macro_rules | `(tactic| walk_at "gx") => `(tactic| first
  | ((with_reducible show tVar _ _ _ _); refine g_var rfl ?_)
  | with_reducible refine g_c ?_
  | with_reducible refine g_op ?_
  | with_reducible refine g_cons ?_
  | with_reducible refine g_nil ?_
  | with_reducible refine g_test ?_
  | with_reducible refine g_blp ?_
  | with_reducible refine g_asg ?_
  | (with_reducible refine g_name ?_; (try simp only [List.set_cons_zero, List.set_cons_succ]))
  | with_reducible refine g_call ?_
  | with_reducible refine g_cb ?_
  | with_reducible refine g_I0 ?_
  | with_reducible refine g_U ?_
  | with_reducible refine g_eqI ?_
  | with_reducible refine g_neI ?_
  | with_reducible refine g_if ?_
  | with_reducible refine g_ret ?_
  | with_reducible refine g_retN ?_
  | with_reducible refine g_next ?_
  | with_reducible refine g_drop ?_
  | with_reducible refine g_un ?_
  | with_reducible refine g_tb ?_
  | with_reducible refine g_tup ?_
  | with_reducible refine g_lst ?_
  | with_reducible refine g_and ?_
  | with_reducible refine g_or ?_
  | with_reducible refine g_not ?_
  | with_reducible refine g_andV ?_
  | with_reducible refine g_orV ?_
  | with_reducible refine g_notV ?_
  | with_reducible refine g_ifE ?_
  | with_reducible refine g_fld ?_
  | with_reducible refine g_tt ?_
  | with_reducible refine g_ff ?_
  | with_reducible refine g_ntt ?_
  | with_reducible refine g_nff ?_
  | with_reducible refine g_for ?_
  | with_reducible refine g_list ?_
  | with_reducible refine g_tupI ?_
  | with_reducible refine g_rng1 ?_
  | with_reducible refine g_rng2 ?_
  | with_reducible refine g_enumA ?_
  | with_reducible refine g_rev ?_
  | with_reducible refine g_lc ?_
  | with_reducible refine g_gcons ?_
  | with_reducible refine g_gnil ?_
  | with_reducible refine g_yes ?_
  | with_reducible refine g_sl ?_
  | with_reducible refine g_nopart ?_
  | with_reducible refine g_part ?_
  | with_reducible refine g_int ?_
  | with_reducible refine g_dget ?_
  | with_reducible refine g_dput ?_
  | with_reducible refine g_raiseX ?_
  | with_reducible refine g_tru ?_
  | with_reducible refine g_sub ?_
  | with_reducible refine g_isN ?_
  | with_reducible refine g_notN ?_
  | with_reducible refine g_bm ?_
  | with_reducible refine L2.g_bm0 ?_
  | with_reducible refine g_pair ?_
  | with_reducible refine g_pair0 ?_
  | with_reducible refine u_int1 ?_
  | with_reducible refine g_chain ?_
  | with_reducible refine L2.g_sfld ?_
  | (with_reducible refine g_par3 ?_)
  | (with_reducible refine g_three ?_; (try simp only [List.set_cons_zero, List.set_cons_succ]))
  | ((with_reducible apply L2.g_tupT); walk_at "up"; rfl)
  | (with_reducible refine g_par ?_)
  | (with_reducible refine g_two ?_; (try simp only [List.set_cons_zero, List.set_cons_succ]))
  )
local macro_rules | `(tactic| walk_at "go") => `(tactic| first | walk_at "gx" | with_reducible refine L2.g_seq ?_)
local macro_rules | `(tactic| walk_at "gou") => `(tactic| repeat (walk_at "gx"))
local macro_rules | `(tactic| walk_at "gos") => `(tactic| repeat (walk_at "go"))
local macro_rules | `(tactic| walk_at "sl") => `(tactic| first
  | assumption
  | exact L2.Same.l (by assumption)
  | exact L2.SameD.l (by assumption)
  | exact L2.extN_l (by assumption))
local macro_rules | `(tactic| walk_at "up") => `(tactic| first
  | assumption
  | ((with_reducible apply L2.SameL.lst); walk_at "sl"; walk_at "up")
  | ((with_reducible apply L2.SameL.tupA); walk_at "sl"; walk_at "up")
  | ((with_reducible apply L2.SameL.ins); walk_at "sl"; walk_at "up")
  | ((with_reducible apply Ev.PB.l); walk_at "sl"; walk_at "up")
  | ((with_reducible apply Ev.IsP.l); walk_at "sl"; walk_at "up")
  | ((with_reducible apply L2.sqL); walk_at "up")
  | ((with_reducible apply L2.sqT); walk_at "up")
  | ((with_reducible apply L2.SameL.seq); walk_at "sl"; walk_at "up")
  | ((with_reducible apply Ev.Pen.same); assumption; walk_at "up")
  | ((with_reducible apply Ev.Pen.extN); assumption; walk_at "up")
  | ((with_reducible apply L2.tabs_s); assumption; walk_at "up")
  | ((with_reducible apply L2.tabs_dd); assumption; walk_at "up")
  | ((with_reducible apply Or.inl); walk_at "up")
  | ((with_reducible apply Or.inr); walk_at "up"))
local macro_rules | `(tactic| walk_at "new") => `(tactic| (
  first
    | refine ⟨L2.size_ok (by rfl), fun p hp => ?_⟩
    | refine fun p hp => ?_
  generalize hX : L2.upd _ p _ = H1
  obtain ⟨e, h⟩ := L2.news hp hX
  clear hX))
local macro_rules | `(tactic| walk_at "o") => `(tactic| first
  | ((with_reducible apply Ev.o_add); walk_at "up"; walk_at "up"; rfl; rfl; rfl)
  | ((with_reducible apply Ev.o_sub); walk_at "up"; walk_at "up"; rfl; rfl; rfl)
  | ((with_reducible apply Ev.o_mul); walk_at "up"; walk_at "up"; rfl; rfl; rfl)
  | ((with_reducible apply Ev.o_addI); walk_at "up"; assumption; rfl; rfl; rfl)
  | ((with_reducible apply Ev.o_subI); walk_at "up"; assumption; rfl; rfl; rfl)
  | ((with_reducible apply Ev.o_mulI); walk_at "up"; assumption; rfl; rfl; rfl)
  | ((with_reducible apply Ev.o_radd); walk_at "up"; assumption; rfl; rfl; rfl)
  | ((with_reducible apply Ev.o_rsub); walk_at "up"; assumption; rfl; rfl; rfl)
  | ((with_reducible apply Ev.o_rmul); walk_at "up"; assumption; rfl; rfl; rfl)
  | ((with_reducible apply Ev.o_neg); walk_at "up"; rfl; rfl; rfl))
local macro_rules | `(tactic| walk_at "eq") => `(tactic| ((with_reducible apply Ev.u_ownB); assumption; walk_at "up"; walk_at "up"; (focus (intro k; first | rfl | exact Pl.e_add | exact Pl.e_sub | exact Pl.e_mul | exact Pl.e_rsub | exact Pl.e_rsub2))))
local macro_rules | `(tactic| walk_at "isp") => `(tactic| (apply Ev.u_isB; walk_at "up"; walk_at "up"; rfl; rfl))

/-! Members in order: first_from, last_to, least, and the law's own searches. -/
namespace Wp
/-- what a search upward tells -/
def FirstV (f : Nat → Bool) (n : Int) (v : L2.V) : Prop := (v = .non ∧ ∀ k : Nat, n ≤ k → f k = false) ∨ ∃ k : Nat, v = .int k ∧ n ≤ k ∧ f k = true ∧ ∀ j : Nat, n ≤ j → j < k → f j = false
/-- what a search downward tells -/
def LastV (f : Nat → Bool) (n : Int) (v : L2.V) : Prop := (v = .non ∧ ∀ k : Nat, (k : Int) ≤ n → f k = false) ∨ ∃ k : Nat, v = .int k ∧ (k : Int) ≤ n ∧ f k = true ∧ ∀ j : Nat, k < j → (j : Int) ≤ n → f j = false
theorem FirstV.uniq {f : Nat → Bool} {n : Int} {v w : L2.V} (h : FirstV f n v) (h' : FirstV f n w) : v = w := by
  rcases h with ⟨rfl, h⟩ | ⟨k, rfl, h1, h2, h3⟩ <;> rcases h' with ⟨rfl, g⟩ | ⟨m, rfl, g1, g2, g3⟩
  · rfl
  · rw [h m g1] at g2; cases g2
  · rw [g k h1] at h2; cases h2
  · rcases Nat.lt_trichotomy k m with z | z | z
    · rw [g3 k h1 z] at h2; cases h2
    · rw [z]
    · rw [h3 m g1 z] at g2; cases g2
theorem LastV.uniq {f : Nat → Bool} {n : Int} {v w : L2.V} (h : LastV f n v) (h' : LastV f n w) : v = w := by
  rcases h with ⟨rfl, h⟩ | ⟨k, rfl, h1, h2, h3⟩ <;> rcases h' with ⟨rfl, g⟩ | ⟨m, rfl, g1, g2, g3⟩
  · rfl
  · rw [h m g1] at g2; cases g2
  · rw [g k h1] at h2; cases h2
  · rcases Nat.lt_trichotomy k m with z | z | z
    · rw [h3 m z g1] at g2; cases g2
    · rw [z]
    · rw [g3 k z h1] at h2; cases h2
/-- none within one round: none behind -/
theorem per_none_up {f : Nat → Bool} {s p : Nat} (h : Per f s p) (hp : 0 < p) {a : Nat} (ha : s ≤ a) (hn : ∀ k, a ≤ k → k < a + p → f k = false) (k : Nat) (hk : a ≤ k) : f k = false := by
  have e : k = a + (k - a) % p + (k - a) / p * p := by have := Nat.mod_add_div (k - a) p; rw [Nat.mul_comm] at this; omega
  have := Nat.mod_lt (k - a) hp
  rw [e, (h.mul ((k - a) / p)) _ (by omega)]
  exact hn _ (by omega) (by omega)
theorem per_none_down {f : Nat → Bool} {s p : Nat} (h : Per f s p) (hp : 0 < p) {a : Nat} (hn : ∀ k, s ≤ k → a < k + p → k ≤ a → f k = false) (k : Nat) (hs : s ≤ k) (hk : k ≤ a) : f k = false := by
  have hm := (h.mul ((a - k) / p)) k hs
  have := Nat.mod_add_div (a - k) p
  have h2 := Nat.mod_lt (a - k) hp
  rw [Nat.mul_comm] at this
  rw [← hm]
  exact hn _ (by omega) (by omega) (by omega)
/-- the last of those that are kept -/
theorem filt_last (f : Nat → Bool) : ∀ N, ((List.range N).filter f = [] ∧ ∀ k, k < N → f k = false) ∨ ∃ k l, (List.range N).filter f = l ++ [k] ∧ k < N ∧ f k = true ∧ ∀ j, k < j → j < N → f j = false
  | 0 => .inl ⟨rfl, fun k h => by omega⟩
  | N + 1 => by
    rw [List.range_succ, List.filter_append]
    cases hf : f N with
    | true => exact .inr ⟨N, (List.range N).filter f, by simp [hf], by omega, hf, fun j h1 h2 => by omega⟩
    | false =>
      have e : List.filter f [N] = [] := by simp [hf]
      rw [e, List.append_nil]
      rcases filt_last f N with ⟨h1, h2⟩ | ⟨k, l, h1, h2, h3, h4⟩
      · exact .inl ⟨h1, fun k hk => by by_cases hkN : k = N; (rw [hkN]; exact hf); exact h2 k (by omega)⟩
      · exact .inr ⟨k, l, h1, by omega, h3, fun j g1 g2 => by by_cases hjN : j = N; (rw [hjN]; exact hf); exact h4 j g1 (by omega)⟩
end Wp
namespace Ev
open PySem PySem.Spec PyProof.Rows L2 Wp
section
variable {P : Program} {w : World} {K : PySem.W.Frag} {mg : Str → Option Value} {base : Heap}
def spFirst (K : PySem.W.Frag) (C CP : Addr) : Sp := fun vs H Q E => ∃ (x : Addr) (v : V) (f : Nat → Bool), vs = [.ref x, v] ∧ WF K H x C f ∧ ((∃ n : Int, v = .int n ∧ ∀ r, FirstV f n r → Q r H) ∨ (Kd K H v false ∧ ExcR (Same H) CP "n" v E))
theorem sc_Where_first_from : FnScope ["self", "n", "first", "k"] ["self", "n"] (defScope (inClass (topS 19) 19)) := ⟨rfl, rfl, rfl, by decide +kernel, rfl, by decide +kernel, by decide +kernel⟩
theorem ok_Where_first_from {C_Where CP : Addr} (B : Bn mg) (c_Where : Cls K C_Where) (n1 : NoAttr K C_Where "period") (n3 : NoAttr K C_Where "start") (G_need_integer : CallF P w K mg base "need_integer" ["n"] 3 (spNeedI K CP)) (G_Where_truth : MethF P w K mg base C_Where "truth" ["self", "n"] 1 (spTruth K C_Where))
    {f : Addr} {fd : FuncData} (F : Fun K "first_from" "Where.first_from" (inClass (topS 19) 19) f fd) : FnOk P w K mg base (L2.CX P w) 5 f fd ["self", "n"] (spFirst K C_Where CP) := by
  have nd := sc_Where_first_from.nd
  refine F.okX sc_Where_first_from (fun vs H Q E h => ?_) (fun cdv A outer s H vs Q E hr h => ?_)
  · obtain ⟨x, v, f, rfl, _⟩ := h
    rfl
  · refine ⟨_, (pss_cons (ps_expr (pe_callF G_need_integer (hr.mono (by decide)) rfl (passes_call (takes_of rfl rfl rfl rfl) (fun _ _ _ _ h => h)) (pa_cons (pv 1) pa_nil)))
      (pss_cons (ps_set (i := 2) nd rfl (.inl rfl) (pe_callB (call_max2 rfl) (by rfl) B.max_ (by decide +kernel) (pa_cons (pe_callTy call_in1 (by rfl) B.int_ (by decide +kernel) (pa_cons (pv 1) pa_nil)) (pa_cons pe_int pa_nil))))
      (pss_cons (ps_for (passes_of rfl) rfl (pi_rangeB2 rfl B.range (pa_cons (pv 2) (pa_cons (pe_op op_add (pe_callB (call_max2 rfl) (by rfl) B.max_ (by decide +kernel) (pa_cons (pe_callTy call_in1 (by rfl) B.int_ (by decide +kernel) (pa_cons (pv 2) pa_nil)) (pa_cons (pe_callTy call_in1 (by rfl) B.int_ (by decide +kernel) (pa_cons (pe_fldK (K := K) rfl (pv 0) rfl) pa_nil)) pa_nil))) (pe_fldK (K := K) rfl (pv 0) rfl)) pa_nil))) (pg_name (i := 3) nd rfl (.inl rfl)) (pss_one (ps_if (pt_val (pe_methF c_Where G_Where_truth (pv 0) (hr.mono (by decide)) passL (pa_cons (pv 3) pa_nil))) (pss_one (ps_ret (pv 3))) pss_nil)))
      (pss_one (ps_ret pe_non))))), ?_⟩
    obtain ⟨x, v, f, rfl, hw, q⟩ := h
    obtain ⟨bl, rl, ⟨dx, t1, t2, hx, h1, h2⟩, hn, hm⟩ := id hw
    obtain rfl : mem bl rl = f := funext hm
    refine g_st (σ' := [some (.ref x), some v, none, none]) rfl ?_
    walk_at "gos"
    rcases q with ⟨n, rfl, q⟩ | ⟨hk, q⟩
    · refine ⟨_, rfl, .inl ⟨n, rfl, ?_⟩⟩
      walk_at "gos"
      refine ⟨_, _, rfl, ?_⟩
      walk_at "gos"
      obtain ⟨a, ha⟩ : ∃ a : Nat, (if (0 : Int) > n then (0 : Int) else n) = (a : Nat) := ⟨n.toNat, by split <;> omega⟩
      have hka : ∀ k : Nat, n ≤ k ↔ a ≤ k := fun k => by split at ha <;> omega
      rw [ha]
      refine g_rngB2 ?_
      walk_at "gos"
      refine u_tfld rfl hx c_Where n3 rfl ?_
      walk_at "gos"
      refine ⟨_, _, rfl, ?_⟩
      walk_at "gos"
      refine u_tfld rfl hx c_Where n1 rfl ?_
      walk_at "gos"
      refine ⟨_, _, rfl, ?_⟩
      have hN : ((if ((bl.length : Nat) : Int) > (a : Int) then ((bl.length : Nat) : Int) else (a : Int)) + (rl.length : Nat) - a).toNat = max a bl.length + rl.length - a := by split <;> omega
      rw [hN]
      have hp := hn.pos
      have hper := mem_per (b := bl) (r := rl)
      refine for_it walk_rangeC (fun i σ' H' => H' = H ∧ (∃ y, σ' = [some (.ref x), some (.int n), some (.int (a : Nat)), y]) ∧ ∀ k, a ≤ k → k < a + i → mem bl rl k = false) ⟨rfl, ⟨_, rfl⟩, fun k h1 h2 => by omega⟩ (fun _ _ _ _ _ => trivial) (fun i y σ' H' H0 hi q2 hy => ?_) (fun σ' H' q2 => ?_)
      · obtain ⟨rfl, ⟨y0, rfl⟩, hno⟩ := q2
        obtain ⟨rfl, hy⟩ := hy
        obtain rfl : y = .int ((a + i : Nat) : Int) := by rw [hy]; exact congrArg V.int (by omega)
        walk_at "gos"
        refine ⟨.ref x, rfl, x, dx, _, rfl, hx, rfl, ?_⟩
        walk_at "gos"
        refine ⟨x, a + i, _, rfl, hw, ?_⟩
        walk_at "gos"
        cases hf : mem bl rl (a + i) with
        | true =>
          rw [if_pos rfl]
          walk_at "gos"
          exact q _ (.inr ⟨a + i, rfl, (hka _).mpr (by omega), hf, fun j h1 h2 => hno j ((hka j).mp h1) (by omega)⟩)
        | false =>
          rw [if_neg (by decide)]
          walk_at "gos"
          refine ⟨rfl, ⟨_, rfl⟩, fun k h1 h2 => ?_⟩
          by_cases hk : k = a + i
          · rw [hk]; exact hf
          · exact hno k h1 (by omega)
      · obtain ⟨rfl, ⟨y0, rfl⟩, hno⟩ := q2
        walk_at "gos"
        refine q _ (.inl ⟨rfl, fun k hk => ?_⟩)
        have hk := (hka k).mp hk
        by_cases hlt : k < max a bl.length
        · exact hno k hk (by omega)
        · exact per_none_up hper hp (a := max a bl.length) (by omega) (fun k h1 h2 => hno k (by omega) (by omega)) k (by omega)
    · refine ⟨_, rfl, .inr ⟨hk, ?_⟩⟩
      exact q
def spLeastW (K : PySem.W.Frag) (C : Addr) : Sp := fun vs H Q _ => ∃ (x : Addr) (f : Nat → Bool), vs = [.ref x] ∧ WF K H x C f ∧ ∀ r, FirstV f 0 r → Q r H
theorem sc_Where_least : FnScope ["self"] ["self"] (defScope (inClass (topS 19) 17)) := ⟨rfl, rfl, rfl, by decide +kernel, rfl, by decide +kernel, by decide +kernel⟩
theorem ok_Where_least {C_Where CP : Addr} (B : Bn mg) (c_Where : Cls K C_Where) (G_Where_first_from : MethF P w K mg base C_Where "first_from" ["self", "n"] 5 (spFirst K C_Where CP))
    {f : Addr} {fd : FuncData} (F : Fun K "least" "Where.least" (inClass (topS 19) 17) f fd) : FnOk P w K mg base (L2.CX P w) 6 f fd ["self"] (spLeastW K C_Where) := by
  have nd := sc_Where_least.nd
  refine F.okX sc_Where_least (fun vs H Q E h => ?_) (fun cdv A outer s H vs Q E hr h => ?_)
  · obtain ⟨x, f, rfl, _⟩ := h
    rfl
  · refine ⟨_, (pss_one (ps_ret (pe_methF c_Where G_Where_first_from (pv 0) (hr.mono (by decide)) passL (pa_cons pe_int pa_nil)))), ?_⟩
    obtain ⟨x, f, rfl, hw, q⟩ := h
    obtain ⟨bl, rl, ⟨dx, t1, t2, hx, _⟩, _⟩ := id hw
    refine g_st (σ' := [some (.ref x)]) rfl ?_
    walk_at "gos"
    refine ⟨.ref x, rfl, x, dx, _, rfl, hx, rfl, ?_⟩
    walk_at "gos"
    exact ⟨x, _, f, rfl, hw, .inl ⟨0, rfl, q⟩⟩
def spLast (K : PySem.W.Frag) (C CP : Addr) : Sp := fun vs H Q E => ∃ (x : Addr) (v : V) (f : Nat → Bool), vs = [.ref x, v] ∧ WF K H x C f ∧ ((∃ n : Int, v = .int n ∧ ∀ r, LastV f n r → Q r H) ∨ (Kd K H v false ∧ ExcR (Same H) CP "n" v E))
theorem sc_Where_last_to : FnScope ["self", "n", "k"] ["self", "n"] (defScope (inClass (topS 19) 20)) := ⟨rfl, rfl, rfl, by decide +kernel, rfl, by decide +kernel, by decide +kernel⟩
theorem ok_Where_last_to {C_Where CP : Addr} (B : Bn mg) (c_Where : Cls K C_Where) (n1 : NoAttr K C_Where "period") (n3 : NoAttr K C_Where "start") (n4 : NoAttr K C_Where "below") (G_need_integer : CallF P w K mg base "need_integer" ["n"] 3 (spNeedI K CP)) (G_Where_truth : MethF P w K mg base C_Where "truth" ["self", "n"] 1 (spTruth K C_Where))
    {f : Addr} {fd : FuncData} (F : Fun K "last_to" "Where.last_to" (inClass (topS 19) 20) f fd) : FnOk P w K mg base (L2.CX P w) 5 f fd ["self", "n"] (spLast K C_Where CP) := by
  have nd := sc_Where_last_to.nd
  refine F.okX sc_Where_last_to (fun vs H Q E h => ?_) (fun cdv A outer s H vs Q E hr h => ?_)
  · obtain ⟨x, v, f, rfl, _⟩ := h
    rfl
  · refine ⟨_, (pss_cons (ps_expr (pe_callF G_need_integer (hr.mono (by decide)) rfl (passes_call (takes_of rfl rfl rfl rfl) (fun _ _ _ _ h => h)) (pa_cons (pv 1) pa_nil)))
      (pss_cons (ps_for (passes_of rfl) rfl (pi_rangeD rfl B.range (pa_cons (pv 1) (pa_cons (pe_op op_sub (pe_callB (call_max2 rfl) (by rfl) B.max_ (by decide +kernel) (pa_cons (pe_callTy call_in1 (by rfl) B.int_ (by decide +kernel) (pa_cons (pe_fldK (K := K) rfl (pv 0) rfl) pa_nil)) (pa_cons (pe_callTy call_in1 (by rfl) B.int_ (by decide +kernel) (pa_cons (pe_op op_add (pe_op op_sub (pv 1) (pe_fldK (K := K) rfl (pv 0) rfl)) pe_int) pa_nil)) pa_nil))) pe_int) (pa_cons (pe_un un_neg pe_int) pa_nil)))) (pg_name (i := 2) nd rfl (.inl rfl)) (pss_one (ps_if (pt_val (pe_methF c_Where G_Where_truth (pv 0) (hr.mono (by decide)) passL (pa_cons (pv 2) pa_nil))) (pss_one (ps_ret (pv 2))) pss_nil)))
      (pss_cons (ps_for (passes_of rfl) rfl (pi_rangeD rfl B.range (pa_cons (pe_callB (call_min2 rfl) (by rfl) B.min_ (by decide +kernel) (pa_cons (pe_callTy call_in1 (by rfl) B.int_ (by decide +kernel) (pa_cons (pv 1) pa_nil)) (pa_cons (pe_callTy call_in1 (by rfl) B.int_ (by decide +kernel) (pa_cons (pe_op op_sub (pe_fldK (K := K) rfl (pv 0) rfl) pe_int) pa_nil)) pa_nil))) (pa_cons (pe_un un_neg pe_int) (pa_cons (pe_un un_neg pe_int) pa_nil)))) (pg_name (i := 2) nd rfl (.inl rfl)) (pss_one (ps_if (pt_val (pe_ix (ix_tupK (K := K) rfl) (pe_fldK (K := K) rfl (pv 0) rfl) (pv 2) (fun _ _ => rfl))) (pss_one (ps_ret (pv 2))) pss_nil)))
      (pss_one (ps_ret pe_non))))), ?_⟩
    obtain ⟨x, v, f, rfl, hw, q⟩ := h
    obtain ⟨bl, rl, ⟨dx, t1, t2, hx, h1, h2⟩, hn, hm⟩ := id hw
    obtain rfl : mem bl rl = f := funext hm
    refine g_st (σ' := [some (.ref x), some v, none]) rfl ?_
    have hp := hn.pos
    have hper := mem_per (b := bl) (r := rl)
    walk_at "gos"
    rcases q with ⟨n, rfl, q⟩ | ⟨hk, q⟩
    · refine ⟨_, rfl, .inl ⟨n, rfl, ?_⟩⟩
      walk_at "gou"
      ((with_reducible change tSeq _ _ _ _ _); refine L2.g_cutS (fun σ' H' => H' = H ∧ (∃ y, σ' = [some (.ref x), some (.int n), y]) ∧ ∀ k, bl.length ≤ k → (k : Int) ≤ n → mem bl rl k = false) (fun nx hnx => ?_) (fun σ' H1 hR1 => ?_))
      · walk_at "gos"
        refine g_rngD ?_
        walk_at "gos"
        refine u_tfld rfl hx c_Where n3 rfl ?_
        walk_at "gos"
        refine u_tfld rfl hx c_Where n1 rfl ?_
        walk_at "gos"
        refine ⟨_, _, rfl, ?_⟩
        walk_at "gos"
        refine ⟨_, _, rfl, ?_⟩
        have hlo : ∃ lo : Int, lo = max ((bl.length : Nat) : Int) (n - (rl.length : Nat) + 1) := ⟨_, rfl⟩
        obtain ⟨lo, hlo⟩ := hlo
        have hN : (n - ((if n - ((rl.length : Nat) : Int) + 1 > ((bl.length : Nat) : Int) then n - ((rl.length : Nat) : Int) + 1 else ((bl.length : Nat) : Int)) - 1)).toNat = (n + 1 - lo).toNat := by split <;> omega
        rw [hN]
        refine for_it walk_rangeC (fun i σ' H' => H' = H ∧ (∃ y, σ' = [some (.ref x), some (.int n), y]) ∧ ∀ k : Nat, n - i < k → (k : Int) ≤ n → mem bl rl k = false) ⟨rfl, ⟨_, rfl⟩, fun k h1 h2 => by omega⟩ (fun _ _ _ _ _ => trivial) (fun i y σ' H' H0 hi q2 hy => ?_) (fun σ' H' q2 => ?_)
        · obtain ⟨rfl, ⟨y0, rfl⟩, hno⟩ := q2
          obtain ⟨rfl, hy⟩ := hy
          obtain ⟨k0, hk0⟩ : ∃ k0 : Nat, n + (i : Nat) * (-1) = (k0 : Nat) := ⟨(n - i).toNat, by omega⟩
          obtain rfl : y = .int (k0 : Nat) := by rw [hy]; exact congrArg V.int hk0
          walk_at "gos"
          refine ⟨.ref x, rfl, x, dx, _, rfl, hx, rfl, ?_⟩
          walk_at "gos"
          refine ⟨x, k0, _, rfl, hw, ?_⟩
          walk_at "gos"
          cases hf : mem bl rl k0 with
          | true =>
            rw [if_pos rfl]
            walk_at "gos"
            exact q _ (.inr ⟨k0, rfl, by omega, hf, fun j h1 h2 => hno j (by omega) h2⟩)
          | false =>
            rw [if_neg (by decide)]
            walk_at "gos"
            refine ⟨rfl, ⟨_, rfl⟩, fun k h1 h2 => ?_⟩
            by_cases hk : k = k0
            · rw [hk]; exact hf
            · exact hno k (by omega) h2
        · obtain ⟨rfl, ⟨y0, rfl⟩, hno⟩ := q2
          refine hnx _ _ ⟨rfl, ⟨_, rfl⟩, fun k h1 h2 => ?_⟩
          obtain ⟨a, rfl⟩ : ∃ a : Nat, n = a := ⟨n.toNat, by omega⟩
          exact per_none_down hper hp (a := a) (fun k g1 g2 g3 => hno k (by omega) (by omega)) k h1 (by omega)
      obtain ⟨rfl, ⟨y, rfl⟩, hhi⟩ := hR1
      walk_at "gos"
      refine g_rngD ?_
      walk_at "gos"
      refine u_tfld rfl hx c_Where n3 rfl ?_
      walk_at "gos"
      refine ⟨_, _, rfl, ?_⟩
      walk_at "gos"
      refine ⟨_, _, rfl, ?_⟩
      obtain ⟨hv, hhi2⟩ : ∃ hv : Int, hv = min n ((bl.length : Nat) - 1) := ⟨_, rfl⟩
      have hN : (if ((bl.length : Nat) : Int) - 1 < n then ((bl.length : Nat) : Int) - 1 else n) = hv := by split <;> omega
      rw [hN]
      have hN2 : (hv - -1).toNat = (hv + 1).toNat := by omega
      rw [hN2]
      refine for_it walk_rangeC (fun i σ' H' => H' = H1 ∧ (∃ y, σ' = [some (.ref x), some (.int n), y]) ∧ ∀ k : Nat, hv - i < k → (k : Int) ≤ n → mem bl rl k = false) ⟨rfl, ⟨_, rfl⟩, fun k g1 g2 => hhi k (by omega) g2⟩ (fun _ _ _ _ _ => trivial) (fun i y σ' H' H0 hi q2 hy => ?_) (fun σ' H' q2 => ?_)
      · obtain ⟨rfl, ⟨y0, rfl⟩, hno⟩ := q2
        obtain ⟨rfl, hy⟩ := hy
        obtain ⟨k0, hk0⟩ : ∃ k0 : Nat, hv + (i : Nat) * (-1) = (k0 : Nat) := ⟨(hv - i).toNat, by omega⟩
        obtain rfl : y = .int (k0 : Nat) := by rw [hy]; exact congrArg V.int hk0
        walk_at "gos"
        refine u_tfld rfl hx c_Where n4 rfl ?_
        walk_at "gos"
        refine u_ixT h2 (atI_nat (atB (by omega))) ?_
        walk_at "gos"
        have hfe : mem bl rl k0 = bt bl k0 := by unfold mem; rw [if_pos (by omega)]
        cases hf : bt bl k0 with
        | true =>
          rw [if_pos rfl]
          walk_at "gos"
          exact q _ (.inr ⟨k0, rfl, by omega, by rw [hfe, hf], fun j h1 h2 => hno j (by omega) h2⟩)
        | false =>
          rw [if_neg (by decide)]
          walk_at "gos"
          refine ⟨rfl, ⟨_, rfl⟩, fun k h1 h2 => ?_⟩
          by_cases hk : k = k0
          · rw [hk, hfe]; exact hf
          · exact hno k (by omega) h2
      · obtain ⟨rfl, ⟨y0, rfl⟩, hno⟩ := q2
        walk_at "gos"
        exact q _ (.inl ⟨rfl, fun k hk => hno k (by omega) hk⟩)
    · refine ⟨_, rfl, .inr ⟨hk, ?_⟩⟩
      exact q
end
end Ev

end
/-! Lists, or tuples known to have no dict of their own. -/
namespace L2
open PySem PySem.Spec PyProof.Rows
def SqY (K : PySem.W.Frag) (H : Hp) (a : Addr) (xs : List V) : Prop := SqL K H a xs ∨ TupN H a xs
theorem SqY.a {K : PySem.W.Frag} {H : Hp} {a : Addr} {xs : List V} : SqY K H a xs → SqA K H a xs := fun h => h.elim .inl fun z => .inr z.sq
theorem SqY.same {K : PySem.W.Frag} {H H' : Hp} {a : Addr} {xs : List V} (e : Same H H') (h : SqY K H a xs) : SqY K H' a xs := h.elim (fun z => .inl (e.seq z)) fun z => .inr (z.same e)
theorem SqY.l {K : PySem.W.Frag} {H H' : Hp} {a : Addr} {xs : List V} (e : SameL H H') (h : SqY K H a xs) : SqY K H' a xs := h.elim (fun z => .inl (e.seq z)) fun z => .inr (z.l e)
theorem SqY.updI {K : PySem.W.Frag} {H : Hp} {a x C dx : Addr} {fs : List (Str × V)} {xs : List V} {o : HO} (hx : H x = some (.ins C dx fs)) (h : SqY K H a xs) : SqY K (upd H x o) a xs := h.elim (fun q => .inl (q.updI hx)) fun q => .inr (q.updI hx)
def rSlY (K : PySem.W.Frag) : V → Option Int → Option Int → Hp → VK → Prop := fun x lo hi H Q => rSlL K x lo hi H Q ∨ rSlN x lo hi H Q
def rTplY (K : PySem.W.Frag) : List V → Hp → VK → Prop := fun xs H Q => rTplN K xs H Q ∨ rTplS K xs H Q
section
variable {X : Cx} {K : PySem.W.Frag}
theorem sl_Y (h : X.K = K) : SlR X (rSlY K) := (sl_listK h).or sl_tupN
theorem call_tplY (h : X.K = K) : CallR X (.type "tuple") (rTplY K) := by
  intro pins s σ H xs us Q I r hq
  rcases hq with hq | hq
  · exact call_tplN h pins s σ H xs us Q I r hq
  · exact call_tplK h pins s σ H xs us Q I r hq
end
section
variable {σ : St} {H H' : Hp} {Q : VK} {K : PySem.W.Frag} {a : Addr} {xs : List V}
theorem u_slY {lo hi : Option Int} (h : SqY K H a xs) (q : ∀ b H', Same H H' → SqY K H' b (cutV xs lo hi) → Q (.ref b) H') : rSlY K (.ref a) lo hi H Q :=
  h.elim (fun z => .inl (u_sl z fun p H' _ e hp => q p H' e (.inl (sqL hp)))) fun z => .inr (u_slN z fun b H' e hb => q b H' e (.inr hb))
theorem u_tupY (h : SqY K H a xs) (q : ∀ t H', Same H H' → TupN H' t xs → Q (.ref t) H') : rTplY K [.ref a] H Q :=
  h.elim (fun z => .inl (u_tplN z fun p H' e hp => q p H' e hp)) fun z => .inr (u_tupleT z.sq (q a H (Same.refl H) z))
end
end L2

section
open L2 in
local macro_rules | `(tactic| walk_at "gx") => `(tactic| first
  | ((with_reducible show tVar _ _ _ _); refine g_var rfl ?_)
  | with_reducible refine g_c ?_
  | with_reducible refine g_op ?_
  | with_reducible refine g_cons ?_
  | with_reducible refine g_nil ?_
  | with_reducible refine g_test ?_
  | with_reducible refine g_blp ?_
  | with_reducible refine g_asg ?_
  | (with_reducible refine g_name ?_; (try simp only [List.set_cons_zero, List.set_cons_succ]))
  | with_reducible refine g_call ?_
  | with_reducible refine g_cb ?_
  | with_reducible refine g_I0 ?_
  | with_reducible refine g_U ?_
  | with_reducible refine g_eqI ?_
  | with_reducible refine g_neI ?_
  | with_reducible refine g_if ?_
  | with_reducible refine g_ret ?_
  | with_reducible refine g_retN ?_
  | with_reducible refine g_next ?_
  | with_reducible refine g_drop ?_
  | with_reducible refine g_un ?_
  | with_reducible refine g_tb ?_
  | with_reducible refine g_tup ?_
  | with_reducible refine g_lst ?_
  | with_reducible refine g_and ?_
  | with_reducible refine g_or ?_
  | with_reducible refine g_not ?_
  | with_reducible refine g_andV ?_
  | with_reducible refine g_orV ?_
  | with_reducible refine g_notV ?_
  | with_reducible refine g_ifE ?_
  | with_reducible refine g_fld ?_
  | with_reducible refine g_tt ?_
  | with_reducible refine g_ff ?_
  | with_reducible refine g_ntt ?_
  | with_reducible refine g_nff ?_
  | with_reducible refine g_for ?_
  | with_reducible refine g_list ?_
  | with_reducible refine g_tupI ?_
  | with_reducible refine g_rng1 ?_
  | with_reducible refine g_rng2 ?_
  | with_reducible refine g_enumA ?_
  | with_reducible refine g_rev ?_
  | with_reducible refine g_lc ?_
  | with_reducible refine g_gcons ?_
  | with_reducible refine g_gnil ?_
  | with_reducible refine g_yes ?_
  | with_reducible refine g_sl ?_
  | with_reducible refine g_nopart ?_
  | with_reducible refine g_part ?_
  | with_reducible refine g_int ?_
  | with_reducible refine g_dget ?_
  | with_reducible refine g_dput ?_
  | with_reducible refine g_raiseX ?_
  | with_reducible refine g_tru ?_
  | with_reducible refine g_sub ?_
  | with_reducible refine g_isN ?_
  | with_reducible refine g_notN ?_
  | with_reducible refine g_bm ?_
  | with_reducible refine L2.g_bm0 ?_
  | with_reducible refine g_pair ?_
  | with_reducible refine g_pair0 ?_
  | with_reducible refine u_int1 ?_
  | with_reducible refine g_chain ?_
  | with_reducible refine L2.g_sfld ?_
  | (with_reducible refine g_par3 ?_)
  | (with_reducible refine g_three ?_; (try simp only [List.set_cons_zero, List.set_cons_succ]))
  | ((with_reducible apply L2.g_tupT); walk_at "up"; rfl)
  | (with_reducible refine g_par ?_)
  | (with_reducible refine g_two ?_; (try simp only [List.set_cons_zero, List.set_cons_succ]))
  )
local macro_rules | `(tactic| walk_at "go") => `(tactic| first | walk_at "gx" | with_reducible refine L2.g_seq ?_)
local macro_rules | `(tactic| walk_at "gou") => `(tactic| repeat (walk_at "gx"))
local macro_rules | `(tactic| walk_at "gos") => `(tactic| repeat (walk_at "go"))
local macro_rules | `(tactic| walk_at "sl") => `(tactic| first
  | assumption
  | exact L2.Same.l (by assumption)
  | exact L2.SameD.l (by assumption)
  | exact L2.extN_l (by assumption))
local macro_rules | `(tactic| walk_at "up") => `(tactic| first
  | assumption
  | ((with_reducible apply L2.SameL.lst); walk_at "sl"; walk_at "up")
  | ((with_reducible apply L2.SameL.tupA); walk_at "sl"; walk_at "up")
  | ((with_reducible apply L2.SameL.ins); walk_at "sl"; walk_at "up")
  | ((with_reducible apply Ev.PB.l); walk_at "sl"; walk_at "up")
  | ((with_reducible apply Ev.IsP.l); walk_at "sl"; walk_at "up")
  | ((with_reducible apply L2.sqL); walk_at "up")
  | ((with_reducible apply L2.sqT); walk_at "up")
  | ((with_reducible apply L2.SameL.seq); walk_at "sl"; walk_at "up")
  | ((with_reducible apply Ev.Pen.same); assumption; walk_at "up")
  | ((with_reducible apply Ev.Pen.extN); assumption; walk_at "up")
  | ((with_reducible apply L2.tabs_s); assumption; walk_at "up")
  | ((with_reducible apply L2.tabs_dd); assumption; walk_at "up")
  | ((with_reducible apply Or.inl); walk_at "up")
  | ((with_reducible apply Or.inr); walk_at "up"))
local macro_rules | `(tactic| walk_at "new") => `(tactic| (
  first
    | refine ⟨L2.size_ok (by rfl), fun p hp => ?_⟩
    | refine fun p hp => ?_
  generalize hX : L2.upd _ p _ = H1
  obtain ⟨e, h⟩ := L2.news hp hX
  clear hX))
local macro_rules | `(tactic| walk_at "o") => `(tactic| first
  | ((with_reducible apply Ev.o_add); walk_at "up"; walk_at "up"; rfl; rfl; rfl)
  | ((with_reducible apply Ev.o_sub); walk_at "up"; walk_at "up"; rfl; rfl; rfl)
  | ((with_reducible apply Ev.o_mul); walk_at "up"; walk_at "up"; rfl; rfl; rfl)
  | ((with_reducible apply Ev.o_addI); walk_at "up"; assumption; rfl; rfl; rfl)
  | ((with_reducible apply Ev.o_subI); walk_at "up"; assumption; rfl; rfl; rfl)
  | ((with_reducible apply Ev.o_mulI); walk_at "up"; assumption; rfl; rfl; rfl)
  | ((with_reducible apply Ev.o_radd); walk_at "up"; assumption; rfl; rfl; rfl)
  | ((with_reducible apply Ev.o_rsub); walk_at "up"; assumption; rfl; rfl; rfl)
  | ((with_reducible apply Ev.o_rmul); walk_at "up"; assumption; rfl; rfl; rfl)
  | ((with_reducible apply Ev.o_neg); walk_at "up"; rfl; rfl; rfl))
local macro_rules | `(tactic| walk_at "eq") => `(tactic| ((with_reducible apply Ev.u_ownB); assumption; walk_at "up"; walk_at "up"; (focus (intro k; first | rfl | exact Pl.e_add | exact Pl.e_sub | exact Pl.e_mul | exact Pl.e_rsub | exact Pl.e_rsub2))))
local macro_rules | `(tactic| walk_at "isp") => `(tactic| (apply Ev.u_isB; walk_at "up"; walk_at "up"; rfl; rfl))

/-! Where(..) of lists or tuples, whose tuples' methods can be called; its errors. -/
namespace Ev
open PySem PySem.Spec PyProof.Rows L2 Wp
structure WArgY (K : PySem.W.Frag) (H : Hp) (a b : Addr) (xs ys : List V) (kx ky : Nat → Bool) : Prop where
  sx : SqY K H a xs
  sy : SqY K H b ys
  hx : ∀ i x, xs[i]? = some x → KdB K H x (kx i)
  hy : ∀ i x, ys[i]? = some x → KdB K H x (ky i)
  bx : (∀ i, i < xs.length → kx i = true) → ∃ B : List Bool, xs = B.map V.bl
  by_ : (∀ i, i < ys.length → ky i = true) → ∃ R : List Bool, ys = R.map V.bl
  lx : xs.length ≤ 100000
  ly : ys.length ≤ 100000
def spWhereInitY (K : PySem.W.Frag) (C CT CF CL : Addr) : Sp := fun vs H Q E => ∃ (x dx a b : Addr) (xs ys : List V) (kx ky : Nat → Bool), vs = [.ref x, .ref a, .ref b] ∧ H x = some (.ins C dx []) ∧ WArgY K H a b xs ys kx ky ∧ WTo (SameB x H) CT CF CL xs ys kx ky E ∧
  ∀ (B R bl rl : List Bool), xs = B.map V.bl → ys = R.map V.bl → 0 < R.length → Nm bl rl → (∀ n, mem bl rl n = mem B R n) → rl.length ≤ 720 → bl.length ≤ 10000 → ∀ H', SameB x H H' → IsWN H' x C bl rl → Q .non H'
def spWhereY (K : PySem.W.Frag) (C CT CF CL : Addr) : Sp := fun vs H Q E => ∃ (a b : Addr) (xs ys : List V) (kx ky : Nat → Bool), vs = [.ref a, .ref b] ∧ WArgY K H a b xs ys kx ky ∧ WTo (Same H) CT CF CL xs ys kx ky E ∧
  ∀ (B R bl rl : List Bool), xs = B.map V.bl → ys = R.map V.bl → 0 < R.length → Nm bl rl → (∀ n, mem bl rl n = mem B R n) → rl.length ≤ 720 → bl.length ≤ 10000 → ∀ x H', H x = none → Same H H' → IsWN H' x C bl rl → Q (.ref x) H'
section
variable {P : Program} {w : World} {K : PySem.W.Frag} {mg : Str → Option Value} {base : Heap}
theorem ok_Where_initY {C CT CF CL : Addr} {tk1 tk2 : Tok} (B : Bn mg) (c_Where : Cls K C) (n1 : NoAttr K C "period") (n2 : NoAttr K C "rests") (n3 : NoAttr K C "start") (n4 : NoAttr K C "below") (c_MOST_PERIOD : mg "MOST_PERIOD" = some (.int 720 tk1)) (c_MOST_START : mg "MOST_START" = some (.int 10000 tk2))
    (X_BadTruth : ExT P K mg "BadTruth" CT ["index"]) (X_TooFine : ExT P K mg "TooFine" CF ["most"]) (X_TooLate : ExT P K mg "TooLate" CL ["most"])
    (G_need_truths : CallF P w K mg base "need_truths" ["truths"] 3 (spNeedT K CT)) (G_least_period : CallF P w K mg base "least_period" ["row"] 1 spLeastP)
    {f : Addr} {fd : FuncData} (F : Fun K "__init__" "Where.__init__" (inClass (topS 19) 0) f fd) : FnOk P w K mg base (L2.CX P w) 5 f fd ["self", "below", "rests"] (spWhereInitY K C CT CF CL) := by
  have nd := sc_Where___init__.nd
  refine F.okX sc_Where___init__ (fun vs H Q E h => ?_) (fun cdv A outer s H vs Q E hr h => ?_)
  · obtain ⟨x, dx, a, b, xs, ys, kx, ky, rfl, _⟩ := h
    rfl
  · refine ⟨_, (pss_cons (ps_expr (pe_callF G_need_truths (hr.mono (by decide)) rfl (passes_call (takes_of rfl rfl rfl rfl) (fun _ _ _ _ h => h)) (pa_cons (pv 1) pa_nil)))
      (pss_cons (ps_expr (pe_callF G_need_truths (hr.mono (by decide)) rfl (passes_call (takes_of rfl rfl rfl rfl) (fun _ _ _ _ h => h)) (pa_cons (pv 2) pa_nil)))
      (pss_cons (ps_if (pt_cmpR op_eq (pe_callB (call_lnK (K := K) rfl) (by rfl) B.len_ (by decide +kernel) (pa_cons (pv 2) pa_nil)) pe_int (nomark _)) (pss_one (ps_raiseX rfl X_BadTruth hr (takes_of rfl rfl rfl rfl) (pa_cons pe_int pa_nil))) pss_nil)
      (pss_cons (ps_fldK (K := K) rfl (pv 0) (pe_callF G_least_period (hr.mono (by decide)) rfl passL (pa_cons (pe_callTy (call_lstK (K := K) rfl) (by rfl) B.list_ (by decide +kernel) (pa_cons (pv 2) pa_nil)) pa_nil)) rfl)
      (pss_cons (ps_if (pt_cmpR op_gt (pe_fldK (K := K) rfl (pv 0) rfl) (pe_globI rfl c_MOST_PERIOD) (nomark _)) (pss_one (ps_raiseX rfl X_TooFine hr (takes_of rfl rfl rfl rfl) (pa_cons (pe_globI rfl c_MOST_PERIOD) pa_nil))) pss_nil)
      (pss_cons (ps_fldK (K := K) rfl (pv 0) (pe_callTy (call_tplY (K := K) rfl) (by rfl) B.tuple_ (by decide +kernel) (pa_cons (pe_slice (sl_Y (K := K) rfl) (pv 2) po_none (po_some (pe_fldK (K := K) rfl (pv 0) rfl))) pa_nil)) rfl)
      (pss_cons (ps_set (i := 3) nd rfl (.inl rfl) (pe_callB (call_lnK (K := K) rfl) (by rfl) B.len_ (by decide +kernel) (pa_cons (pv 1) pa_nil)))
      (pss_cons (ps_while (passes_of rfl) (PW.pt (pw_and (pt_cmpR op_gt (pv 3) pe_int (nomark _)) (pw_and1 (pt_cmpR op_eq (pe_ix (ix_anyK (K := K) rfl) (pv 1) (pe_op op_sub (pv 3) pe_int) (fun _ _ => rfl)) (pe_ix (ix_tupK (K := K) rfl) (pe_fldK (K := K) rfl (pv 0) rfl) (pe_op op_modN (pe_op op_sub (pv 3) pe_int) (pe_fldK (K := K) rfl (pv 0) rfl)) (fun _ _ => rfl)) (nomark _))))) (pss_one (ps_set (i := 3) nd rfl (.inl rfl) (pe_op op_sub (pv 3) pe_int))))
      (pss_cons (ps_if (pt_cmpR op_gt (pv 3) (pe_globI rfl c_MOST_START) (nomark _)) (pss_one (ps_raiseX rfl X_TooLate hr (takes_of rfl rfl rfl rfl) (pa_cons (pe_globI rfl c_MOST_START) pa_nil))) pss_nil)
      (pss_cons (ps_fldK (K := K) rfl (pv 0) (pv 3) rfl)
      (pss_one (ps_fldK (K := K) rfl (pv 0) (pe_callTy (call_tplY (K := K) rfl) (by rfl) B.tuple_ (by decide +kernel) (pa_cons (pe_slice (sl_Y (K := K) rfl) (pv 1) po_none (po_some (pv 3))) pa_nil)) rfl)))))))))))), ?_⟩
    obtain ⟨x, dx, a, b, xs, ys, kx, ky, rfl, hx, ha, he, q⟩ := h
    refine g_st (σ' := [some (.ref x), some (.ref a), some (.ref b), none]) rfl ?_
    walk_at "gos"
    refine ⟨a, xs, kx, rfl, ha.sx.a, ha.hx, fun hall H1 e1 => ?_, fun i hi hk hj H' e' d hd => he.ex i hi hk hj H' d (.of e') hd⟩
    walk_at "gos"
    refine ⟨b, ys, ky, rfl, (ha.sy.same e1).a, fun i z hz => (ha.hy i z hz).same e1, fun hall2 H2 e2 => ?_, fun i hi hk hj H' e' d hd => he.ey hall i hi hk hj H' d (.of (e1.trans e')) hd⟩
    have e02 := e1.trans e2
    have sx2 := ha.sx.same e02
    have sy2 := ha.sy.same e02
    obtain ⟨Bx, rfl⟩ := ha.bx hall
    obtain ⟨R, rfl⟩ := ha.by_ hall2
    have lx := ha.lx
    have ly := ha.ly
    rw [List.length_map] at lx ly
    walk_at "gos"
    refine u_lenA sy2.a ?_
    rw [List.length_map]
    walk_at "gos"
    refine g_itd (fun h0 => ?_) (fun h0 => ?_)
    · walk_at "gos"
      exact u_raise rfl (by decide) fun d H3 _ e3 hd => he.e0 hall (by rw [List.map_eq_nil_iff]; exact List.length_eq_zero_iff.mp (by omega)) H3 d (.of (e02.trans e3)) hd
    have hR : 0 < R.length := by omega
    walk_at "gos"
    refine u_list sy2.a fun l H3 _ e3 h3 => ?_
    refine ⟨l, R, rfl, h3, hR, ly, fun d H4 e4 hd => ?_⟩
    walk_at "gos"
    have e04 := e02.trans (e3.trans e4)
    have hx4 := e04 _ _ hx
    have hdl := hd.le hR
    have htl : (R.take d).length = d := by rw [List.length_take]; omega
    refine ⟨x, C, dx, [], rfl, hx4, c_Where, n1, by decide, ?_⟩
    generalize hX : upd H4 x _ = H5
    have hx5 : H5 x = some (.ins C dx [("period", .int (d : Nat))]) := by rw [← hX]; exact upd_same
    have sx5 : SqY K H5 a (Bx.map V.bl) := by rw [← hX]; exact (sx2.same (e3.trans e4)).updI hx4
    have sy5 : SqY K H5 b (R.map V.bl) := by rw [← hX]; exact (sy2.same (e3.trans e4)).updI hx4
    have b5 : SameB x H H5 := by rw [← hX]; exact (SameB.of e04).upd
    clear hX e3 h3 e4 sx2 sy2 hx4
    walk_at "gos"
    refine u_tfld rfl hx5 c_Where n1 rfl ?_
    walk_at "gos"
    obtain ⟨s0, hs0⟩ := st_ex Bx (R.take d)
    obtain ⟨hnm, hmem⟩ := nm_made hR hd hs0
    have hs0l : (Bx.take s0).length = s0 := by rw [List.length_take]; have := hs0.le; omega
    refine g_itd (fun h7 => ?_) (fun h7 => ?_)
    · walk_at "gos"
      exact u_raise rfl (by decide) fun d' H6 _ e6 hd' => he.ef Bx R _ _ rfl rfl hR hnm hmem (by rw [htl]; omega) H6 d' (b5.trans (.of e6)) hd'
    walk_at "gos"
    refine u_tfld rfl hx5 c_Where n1 rfl ?_
    walk_at "gos"
    refine u_slY sy5 fun l2 H6 e6 h6 => ?_
    rw [cut_to, ← List.map_take] at h6
    walk_at "gos"
    refine u_tupY h6 fun t1 H7 e7 ht1 => ?_
    walk_at "gos"
    have e57 := e6.trans e7
    have hx7 := e57 _ _ hx5
    refine ⟨x, C, dx, _, rfl, hx7, c_Where, n2, by simp, ?_⟩
    generalize hX : upd H7 x _ = H8
    have hx8 : H8 x = some (.ins C dx [("period", .int (d : Nat)), ("rests", .ref t1)]) := by rw [← hX]; exact upd_same
    have sx8 : SqY K H8 a (Bx.map V.bl) := by rw [← hX]; exact (sx5.same e57).updI hx7
    have ht8 : TupN H8 t1 ((R.take d).map V.bl) := by rw [← hX]; exact ht1.updI hx7
    have b8 : SameB x H H8 := by rw [← hX]; exact (b5.trans (.of e57)).upd
    clear hX e6 h6 e7 ht1 e57 hx7 sx5 sy5 b5 hx5
    walk_at "gos"
    refine u_lenA sx8.a ?_
    rw [List.length_map]
    walk_at "gou"
    ((with_reducible change tSeq _ _ _ _ _); refine L2.g_cutS (fun σ' H' => H' = H8 ∧ σ' = [some (.ref x), some (.ref a), some (.ref b), some (.int (s0 : Nat))]) (fun nx hnx => ?_) (fun σ' H' hR' => ?_))
    · refine ⟨fun m σ' H' => H' = H8 ∧ σ' = [some (.ref x), some (.ref a), some (.ref b), some (.int (m : Nat))] ∧ s0 ≤ m ∧ m ≤ Bx.length, ⟨Bx.length, rfl, rfl, hs0.le, Nat.le_refl _⟩, fun m σ' H' ⟨e1, e2, e3, e4⟩ => ?_⟩
      subst e1 e2
      walk_at "gos"
      by_cases hm : 0 < m
      · rw [if_pos (decide_eq_true (by omega))]
        walk_at "gos"
        obtain ⟨k, rfl⟩ : ∃ k, m = k + 1 := ⟨m - 1, by omega⟩
        have hk1 : ((k + 1 : Nat) : Int) - 1 = (k : Int) := by omega
        rw [hk1]
        refine u_ixA sx8.a (atI_nat (atB (by omega))) ?_
        walk_at "gos"
        refine u_tfld rfl hx8 c_Where n2 rfl ?_
        walk_at "gos"
        refine u_tfld rfl hx8 c_Where n1 rfl ?_
        refine g_I (by have := hd.pos; omega) ?_
        rw [hk1, fmod_nat]
        refine u_ixT ht8.sq (atI_nat (atB (by rw [htl]; exact Nat.mod_lt _ hd.pos))) ?_
        walk_at "gos"
        refine ⟨rfl, ?_⟩
        by_cases hk : s0 ≤ k
        · have hsame := hs0.same k hk (by omega)
          rw [htl] at hsame
          rw [hsame]
          refine ⟨_, rfl, ?_⟩
          rw [if_pos (by simp)]
          refine ⟨_, fun _ _ z => z, ?_⟩
          walk_at "gos"
          exact ⟨k, by omega, by trivial, by rw [hk1], hk, by omega⟩
        · have hne := hs0.low (by omega)
          obtain rfl : s0 = k + 1 := by omega
          rw [htl, Nat.add_sub_cancel] at hne
          refine ⟨_, rfl, ?_⟩
          rw [if_neg (by simp [hne])]
          exact hnx _ _ ⟨rfl, rfl⟩
      · rw [if_neg (by rw [decide_eq_true_iff]; omega)]
        obtain rfl : m = 0 := by omega
        obtain rfl : s0 = 0 := by omega
        exact hnx _ _ ⟨rfl, rfl⟩
    obtain ⟨rfl, rfl⟩ := hR'
    walk_at "gos"
    refine g_itd (fun h8 => ?_) (fun h8 => ?_)
    · walk_at "gos"
      exact u_raise rfl (by decide) fun d' H9 _ e9 hd' => he.el Bx R _ _ rfl rfl hR hnm hmem (by rw [htl]; omega) (by rw [hs0l]; omega) H9 d' (b8.trans (.of e9)) hd'
    walk_at "gos"
    refine ⟨x, C, dx, _, rfl, hx8, c_Where, n3, by simp, ?_⟩
    generalize hX : upd H' x _ = H9
    have hx9 : H9 x = some (.ins C dx [("period", .int (d : Nat)), ("rests", .ref t1), ("start", .int (s0 : Nat))]) := by rw [← hX]; exact upd_same
    have sx9 : SqY K H9 a (Bx.map V.bl) := by rw [← hX]; exact sx8.updI hx8
    have ht9 : TupN H9 t1 ((R.take d).map V.bl) := by rw [← hX]; exact ht8.updI hx8
    have b9 : SameB x H H9 := by rw [← hX]; exact b8.upd
    clear hX hx8 sx8 ht8 b8
    walk_at "gos"
    refine u_slY sx9 fun l3 H10 e10 h10 => ?_
    rw [cut_to, ← List.map_take] at h10
    walk_at "gos"
    refine u_tupY h10 fun t2 H11 e11 ht2 => ?_
    walk_at "gos"
    have e911 := e10.trans e11
    have hx11 := e911 _ _ hx9
    refine ⟨x, C, dx, _, rfl, hx11, c_Where, n4, by simp, ?_⟩
    generalize hX : upd H11 x _ = H12
    have hx12 : H12 x = some (.ins C dx [("period", .int (d : Nat)), ("rests", .ref t1), ("start", .int (s0 : Nat)), ("below", .ref t2)]) := by rw [← hX]; exact upd_same
    have ht12 : TupN H12 t1 ((R.take d).map V.bl) := by rw [← hX]; exact (ht9.same e911).updI hx11
    have hb12 : TupN H12 t2 ((Bx.take s0).map V.bl) := by rw [← hX]; exact ht2.updI hx11
    have b12 : SameB x H H12 := by rw [← hX]; exact (b9.trans (.of e911)).upd
    walk_at "gos"
    exact q Bx R _ _ rfl rfl hR hnm hmem (by rw [htl]; omega) (by rw [hs0l]; omega) H12 b12 ⟨dx, t1, t2, by rw [htl, hs0l]; exact hx12, ht12, hb12⟩
/-- Where(..) by its promise -/
theorem make_WhereY {C CT CF CL : Addr} {f : Addr} {fd : FuncData} (Fn : FnOk P w K mg base (L2.CX P w) 5 f fd ["self", "below", "rests"] (spWhereInitY K C CT CF CL)) (M : Mk K C f) (hC : mg "Where" = some (.ref C)) (hb : Binds K fd ["self", "below", "rests"] []) :
    MakeF P w K mg base "Where" C 5 (spWhereY K C CT CF CL) := by
  refine ⟨f, fd, _, _, [], [], Fn, M, hC, hb, .nil, fun vs H Q E h => ?_⟩
  obtain ⟨a, b, xs, ys, kx, ky, rfl, ha, he, q⟩ := h
  intro x dx hx hdx hne
  have es : Same H (upd (upd H dx (.own x)) x (.ins C dx [])) := (same_new hdx).trans (same_new (by rw [upd_ne (Ne.symm hne)]; exact hx))
  have bs : ∀ H', SameB x (upd (upd H dx (.own x)) x (.ins C dx [])) H' → Same H H' := fun H' hs c o hc => hs c o (ne_of_none hc hx) (es c o hc)
  refine ⟨x, dx, a, b, xs, ys, kx, ky, rfl, upd_same, ⟨ha.sx.same es, ha.sy.same es, fun i z hz => (ha.hx i z hz).same es, fun i z hz => (ha.hy i z hz).same es, ha.bx, ha.by_, ha.lx, ha.ly⟩, he.le bs, fun B R bl rl h1 h2 h3 h4 h5 h6 h7 H' h8 h9 => ⟨rfl, ?_⟩⟩
  exact q B R bl rl h1 h2 h3 h4 h5 h6 h7 x H' hx (bs H' h8) h9
end
end Ev

end
section
open L2 in
local macro_rules | `(tactic| walk_at "gx") => `(tactic| first
  | ((with_reducible show tVar _ _ _ _); refine g_var rfl ?_)
  | with_reducible refine g_c ?_
  | with_reducible refine g_op ?_
  | with_reducible refine g_cons ?_
  | with_reducible refine g_nil ?_
  | with_reducible refine g_test ?_
  | with_reducible refine g_blp ?_
  | with_reducible refine g_asg ?_
  | (with_reducible refine g_name ?_; (try simp only [List.set_cons_zero, List.set_cons_succ]))
  | with_reducible refine g_call ?_
  | with_reducible refine g_cb ?_
  | with_reducible refine g_I0 ?_
  | with_reducible refine g_U ?_
  | with_reducible refine g_eqI ?_
  | with_reducible refine g_neI ?_
  | with_reducible refine g_if ?_
  | with_reducible refine g_ret ?_
  | with_reducible refine g_retN ?_
  | with_reducible refine g_next ?_
  | with_reducible refine g_drop ?_
  | with_reducible refine g_un ?_
  | with_reducible refine g_tb ?_
  | with_reducible refine g_tup ?_
  | with_reducible refine g_lst ?_
  | with_reducible refine g_and ?_
  | with_reducible refine g_or ?_
  | with_reducible refine g_not ?_
  | with_reducible refine g_andV ?_
  | with_reducible refine g_orV ?_
  | with_reducible refine g_notV ?_
  | with_reducible refine g_ifE ?_
  | with_reducible refine g_fld ?_
  | with_reducible refine g_tt ?_
  | with_reducible refine g_ff ?_
  | with_reducible refine g_ntt ?_
  | with_reducible refine g_nff ?_
  | with_reducible refine g_for ?_
  | with_reducible refine g_list ?_
  | with_reducible refine g_tupI ?_
  | with_reducible refine g_rng1 ?_
  | with_reducible refine g_rng2 ?_
  | with_reducible refine g_enumA ?_
  | with_reducible refine g_rev ?_
  | with_reducible refine g_lc ?_
  | with_reducible refine g_gcons ?_
  | with_reducible refine g_gnil ?_
  | with_reducible refine g_yes ?_
  | with_reducible refine g_sl ?_
  | with_reducible refine g_nopart ?_
  | with_reducible refine g_part ?_
  | with_reducible refine g_int ?_
  | with_reducible refine g_dget ?_
  | with_reducible refine g_dput ?_
  | with_reducible refine g_raiseX ?_
  | with_reducible refine g_tru ?_
  | with_reducible refine g_sub ?_
  | with_reducible refine g_isN ?_
  | with_reducible refine g_notN ?_
  | with_reducible refine g_bm ?_
  | with_reducible refine L2.g_bm0 ?_
  | with_reducible refine g_pair ?_
  | with_reducible refine g_pair0 ?_
  | with_reducible refine u_int1 ?_
  | with_reducible refine g_chain ?_
  | with_reducible refine L2.g_sfld ?_
  | (with_reducible refine g_par3 ?_)
  | (with_reducible refine g_three ?_; (try simp only [List.set_cons_zero, List.set_cons_succ]))
  | ((with_reducible apply L2.g_tupT); walk_at "up"; rfl)
  | (with_reducible refine g_par ?_)
  | (with_reducible refine g_two ?_; (try simp only [List.set_cons_zero, List.set_cons_succ]))
  )
local macro_rules | `(tactic| walk_at "go") => `(tactic| first | walk_at "gx" | with_reducible refine L2.g_seq ?_)
local macro_rules | `(tactic| walk_at "gou") => `(tactic| repeat (walk_at "gx"))
local macro_rules | `(tactic| walk_at "gos") => `(tactic| repeat (walk_at "go"))
local macro_rules | `(tactic| walk_at "sl") => `(tactic| first
  | assumption
  | exact L2.Same.l (by assumption)
  | exact L2.SameD.l (by assumption)
  | exact L2.extN_l (by assumption))
local macro_rules | `(tactic| walk_at "up") => `(tactic| first
  | assumption
  | ((with_reducible apply L2.SameL.lst); walk_at "sl"; walk_at "up")
  | ((with_reducible apply L2.SameL.tupA); walk_at "sl"; walk_at "up")
  | ((with_reducible apply L2.SameL.ins); walk_at "sl"; walk_at "up")
  | ((with_reducible apply Ev.PB.l); walk_at "sl"; walk_at "up")
  | ((with_reducible apply Ev.IsP.l); walk_at "sl"; walk_at "up")
  | ((with_reducible apply L2.sqL); walk_at "up")
  | ((with_reducible apply L2.sqT); walk_at "up")
  | ((with_reducible apply L2.SameL.seq); walk_at "sl"; walk_at "up")
  | ((with_reducible apply Ev.Pen.same); assumption; walk_at "up")
  | ((with_reducible apply Ev.Pen.extN); assumption; walk_at "up")
  | ((with_reducible apply L2.tabs_s); assumption; walk_at "up")
  | ((with_reducible apply L2.tabs_dd); assumption; walk_at "up")
  | ((with_reducible apply Or.inl); walk_at "up")
  | ((with_reducible apply Or.inr); walk_at "up"))
local macro_rules | `(tactic| walk_at "new") => `(tactic| (
  first
    | refine ⟨L2.size_ok (by rfl), fun p hp => ?_⟩
    | refine fun p hp => ?_
  generalize hX : L2.upd _ p _ = H1
  obtain ⟨e, h⟩ := L2.news hp hX
  clear hX))
local macro_rules | `(tactic| walk_at "o") => `(tactic| first
  | ((with_reducible apply Ev.o_add); walk_at "up"; walk_at "up"; rfl; rfl; rfl)
  | ((with_reducible apply Ev.o_sub); walk_at "up"; walk_at "up"; rfl; rfl; rfl)
  | ((with_reducible apply Ev.o_mul); walk_at "up"; walk_at "up"; rfl; rfl; rfl)
  | ((with_reducible apply Ev.o_addI); walk_at "up"; assumption; rfl; rfl; rfl)
  | ((with_reducible apply Ev.o_subI); walk_at "up"; assumption; rfl; rfl; rfl)
  | ((with_reducible apply Ev.o_mulI); walk_at "up"; assumption; rfl; rfl; rfl)
  | ((with_reducible apply Ev.o_radd); walk_at "up"; assumption; rfl; rfl; rfl)
  | ((with_reducible apply Ev.o_rsub); walk_at "up"; assumption; rfl; rfl; rfl)
  | ((with_reducible apply Ev.o_rmul); walk_at "up"; assumption; rfl; rfl; rfl)
  | ((with_reducible apply Ev.o_neg); walk_at "up"; rfl; rfl; rfl))
local macro_rules | `(tactic| walk_at "eq") => `(tactic| ((with_reducible apply Ev.u_ownB); assumption; walk_at "up"; walk_at "up"; (focus (intro k; first | rfl | exact Pl.e_add | exact Pl.e_sub | exact Pl.e_mul | exact Pl.e_rsub | exact Pl.e_rsub2))))
local macro_rules | `(tactic| walk_at "isp") => `(tactic| (apply Ev.u_isB; walk_at "up"; walk_at "up"; rfl; rfl))

/-! The law's own searches and counts (k86). -/
namespace Wp
theorem lp_self {R : List Bool} (h0 : 0 < R.length) (h : ∀ e, 0 < e → e < R.length → R.length % e = 0 → ¬ Rnd R e) : LP R R.length := ⟨h0, Nat.mod_self _, rnd_self, h⟩
/-- one unlike all others -/
theorem lp_hot {m at_ : Nat} {b : Bool} (hat : at_ < m) {R : List Bool} (hR : R.length = m) (h : ∀ k, k < m → bt R k = (decide (k = at_) == b)) : LP R R.length := by
  refine lp_self (by omega) fun e he1 he2 he3 hr => ?_
  rw [hR] at he2 he3
  obtain ⟨q, hq⟩ := Nat.dvd_of_mod_eq_zero he3
  have hq2 : 2 ≤ q := by
    by_cases h2 : 2 ≤ q
    · exact h2
    · have : q = 0 ∨ q = 1 := by omega
      rcases this with rfl | rfl <;> simp at hq <;> omega
  have hm2 : e * 2 ≤ m := by rw [hq]; exact Nat.mul_le_mul_left e hq2
  have hlt := Nat.mod_lt at_ he1
  by_cases hc : e ≤ at_
  · have h1 := hr at_ (by omega)
    rw [h at_ hat, h (at_ % e) (by omega), decide_eq_true rfl, decide_eq_false (by omega)] at h1
    cases b <;> cases h1
  · have h1 := hr (at_ + e) (by omega)
    rw [Nat.add_mod_right, Nat.mod_eq_of_lt (by omega : at_ < e), h at_ hat, h (at_ + e) (by omega), decide_eq_true rfl, decide_eq_false (by omega)] at h1
    cases b <;> cases h1
theorem nm_self {B R : List Bool} (h : LP R R.length) (hlow : 0 < B.length → bt B (B.length - 1) ≠ bt R ((B.length - 1) % R.length)) : Nm B R :=
  ⟨h.pos, fun s q hq hp => by
    have := lp_per h h.pos hq (by rw [List.take_length]; exact hp)
    rwa [List.take_length] at this, hlow⟩
end Wp
namespace Ev
open PySem PySem.Spec PyProof.Rows L2 Wp
section
variable {P : Program} {w : World} {K : PySem.W.Frag} {mg : Str → Option Value} {base : Heap}
def spIn (K : PySem.W.Frag) : Sp := fun vs H Q _ => ∃ (m : Addr) (n : Int) (B R : List Bool), vs = [.ref m, .int n] ∧ IsM H m B R ∧ 0 < R.length ∧ ((∃ k : Nat, n = k ∧ Q (.bl (mem B R k)) H) ∨ (n < 0 ∧ Q (.bl false) H))
theorem sc__law_in : FnScope ["model", "n"] ["model", "n"] (defScope (topS 28)) := ⟨rfl, rfl, rfl, by decide +kernel, rfl, by decide +kernel, by decide +kernel⟩
theorem ok__law_in (B : Bn mg) {f : Addr} {fd : FuncData} (F : Fun K "_law_in" "_law_in" (topS 28) f fd) : FnOk P w K mg base (L2.CX P w) 1 f fd ["model", "n"] (spIn K) := by
  have nd := sc__law_in.nd
  refine F.okX sc__law_in (fun vs H Q E h => ?_) (fun cdv A outer s H vs Q E hr h => ?_)
  · obtain ⟨m, n, B1, R, rfl, _⟩ := h
    rfl
  · refine ⟨_, (pss_one (ps_ret (pe_and (pe_cmpR op_ge (pv 1) pe_int (nomark _)) (pe_one (pe_ifExp (pt_cmpR op_lt (pv 1) (pe_callB (call_lnK (K := K) rfl) (by rfl) B.len_ (by decide +kernel) (pa_cons (pe_ix (ix_tupK (K := K) rfl) (pv 0) pe_int (fun _ _ => rfl)) pa_nil)) (nomark _)) (pe_ix (ix_listK (K := K) rfl) (pe_ix (ix_tupK (K := K) rfl) (pv 0) pe_int (fun _ _ => rfl)) (pv 1) (fun _ _ => rfl)) (pe_ix (ix_listK (K := K) rfl) (pe_ix (ix_tupK (K := K) rfl) (pv 0) pe_int (fun _ _ => rfl)) (pe_op op_modN (pv 1) (pe_callB (call_lnK (K := K) rfl) (by rfl) B.len_ (by decide +kernel) (pa_cons (pe_ix (ix_tupK (K := K) rfl) (pv 0) pe_int (fun _ _ => rfl)) pa_nil))) (fun _ _ => rfl))))))), ?_⟩
    obtain ⟨m, n, B1, R, rfl, ⟨a, b, hm, ha, hb⟩, hR, q⟩ := h
    refine g_st (σ' := [some (.ref m), some (.int n)]) rfl ?_
    rcases q with ⟨k, rfl, q⟩ | ⟨hn, q⟩
    · unfold mem at q
      walk_at "gos"
      rw [decide_eq_true (by omega)]
      walk_at "gos"
      refine u_ixT (sqT hm) (v := .ref a) rfl ?_
      walk_at "gos"
      refine u_lenL (sqL ha) ?_
      rw [List.length_map]
      walk_at "gos"
      by_cases hk : k < B1.length
      · rw [if_pos (decide_eq_true (by omega))]
        rw [if_pos hk] at q
        walk_at "gos"
        refine u_ixT (sqT hm) (v := .ref a) rfl ?_
        walk_at "gos"
        exact u_ixL (sqL ha) (atI_nat (atB hk)) q
      · rw [if_neg (by rw [decide_eq_true_iff]; omega)]
        rw [if_neg hk] at q
        walk_at "gos"
        refine u_ixT (sqT hm) (v := .ref b) rfl ?_
        walk_at "gos"
        refine u_ixT (sqT hm) (v := .ref b) rfl ?_
        walk_at "gos"
        refine u_lenL (sqL hb) ?_
        rw [List.length_map]
        refine g_I (by omega) ?_
        rw [fmod_nat]
        exact u_ixL (sqL hb) (atI_nat (atB (Nat.mod_lt _ hR))) q
    · walk_at "gos"
      rw [decide_eq_false (by omega)]
      walk_at "gos"
      exact q
def spFirstI (K : PySem.W.Frag) : Sp := fun vs H Q _ => ∃ (m : Addr) (n : Int) (B R : List Bool), vs = [.ref m, .int n] ∧ IsM H m B R ∧ 0 < R.length ∧ ∀ r, FirstV (mem B R) n r → Q r H
theorem sc__law_first : FnScope ["model", "n", "low", "high", "k"] ["model", "n"] (defScope (topS 29)) := ⟨rfl, rfl, rfl, by decide +kernel, rfl, by decide +kernel, by decide +kernel⟩
theorem ok__law_firstI (B : Bn mg) (G__law_in : CallF P w K mg base "_law_in" ["model", "n"] 1 (spIn K)) {f : Addr} {fd : FuncData} (F : Fun K "_law_first" "_law_first" (topS 29) f fd) : FnOk P w K mg base (L2.CX P w) 3 f fd ["model", "n"] (spFirstI K) := by
  have nd := sc__law_first.nd
  refine F.okX sc__law_first (fun vs H Q E h => ?_) (fun cdv A outer s H vs Q E hr h => ?_)
  · obtain ⟨m, n, B1, R, rfl, _⟩ := h
    rfl
  · refine ⟨_, (pss_cons (ps_set (i := 2) nd rfl (.inl rfl) (pe_callB (call_max2 rfl) (by rfl) B.max_ (by decide +kernel) (pa_cons (pe_callTy call_in1 (by rfl) B.int_ (by decide +kernel) (pa_cons (pv 1) pa_nil)) (pa_cons pe_int pa_nil))))
      (pss_cons (ps_set (i := 3) nd rfl (.inl rfl) (pe_op op_add (pe_callB (call_max2 rfl) (by rfl) B.max_ (by decide +kernel) (pa_cons (pv 2) (pa_cons (pe_callB (call_lnK (K := K) rfl) (by rfl) B.len_ (by decide +kernel) (pa_cons (pe_ix (ix_tupK (K := K) rfl) (pv 0) pe_int (fun _ _ => rfl)) pa_nil)) pa_nil))) (pe_callB (call_lnK (K := K) rfl) (by rfl) B.len_ (by decide +kernel) (pa_cons (pe_ix (ix_tupK (K := K) rfl) (pv 0) pe_int (fun _ _ => rfl)) pa_nil))))
      (pss_cons (ps_for (passes_of rfl) rfl (pi_rangeB2 rfl B.range (pa_cons (pv 2) (pa_cons (pv 3) pa_nil))) (pg_name (i := 4) nd rfl (.inl rfl)) (pss_one (ps_if (pt_val (pe_callF G__law_in (hr.mono (by decide)) rfl passL (pa_cons (pv 0) (pa_cons (pv 4) pa_nil)))) (pss_one (ps_ret (pv 4))) pss_nil)))
      (pss_one (ps_ret pe_non))))), ?_⟩
    obtain ⟨m, n, bl, rl, rfl, hM, hp, q⟩ := h
    obtain ⟨a', b', hm, ha', hb'⟩ := id hM
    refine g_st (σ' := [some (.ref m), some (.int n), none, none, none]) rfl ?_
    have hper := mem_per (b := bl) (r := rl)
    walk_at "gos"
    refine ⟨_, _, rfl, ?_⟩
    walk_at "gos"
    obtain ⟨a, ha⟩ : ∃ a : Nat, (if (0 : Int) > n then (0 : Int) else n) = (a : Nat) := ⟨n.toNat, by split <;> omega⟩
    have hka : ∀ k : Nat, n ≤ k ↔ a ≤ k := fun k => by split at ha <;> omega
    rw [ha]
    refine u_ixT (sqT hm) (v := .ref a') rfl ?_
    walk_at "gos"
    refine u_lenL (sqL ha') ?_
    rw [List.length_map]
    refine ⟨_, _, rfl, ?_⟩
    walk_at "gos"
    refine u_ixT (sqT hm) (v := .ref b') rfl ?_
    walk_at "gos"
    refine u_lenL (sqL hb') ?_
    rw [List.length_map]
    walk_at "gos"
    refine g_rngB2 ?_
    walk_at "gos"
    refine ⟨_, _, rfl, ?_⟩
    have hN : ((if ((bl.length : Nat) : Int) > (a : Int) then ((bl.length : Nat) : Int) else (a : Int)) + (rl.length : Nat) - a).toNat = max a bl.length + rl.length - a := by split <;> omega
    rw [hN]
    generalize (if ((bl.length : Nat) : Int) > (a : Int) then ((bl.length : Nat) : Int) else (a : Int)) + (rl.length : Nat) = hi
    refine for_it walk_rangeC (fun i σ' H' => H' = H ∧ (∃ y, σ' = [some (.ref m), some (.int n), some (.int (a : Nat)), some (.int hi), y]) ∧ ∀ k, a ≤ k → k < a + i → mem bl rl k = false) ⟨rfl, ⟨_, rfl⟩, fun k h1 h2 => by omega⟩ (fun _ _ _ _ _ => trivial) (fun i y σ' H' H0 hi q2 hy => ?_) (fun σ' H' q2 => ?_)
    · obtain ⟨rfl, ⟨y0, rfl⟩, hno⟩ := q2
      obtain ⟨rfl, hy⟩ := hy
      obtain rfl : y = .int ((a + i : Nat) : Int) := by rw [hy]; exact congrArg V.int (by omega)
      walk_at "gos"
      refine ⟨m, _, bl, rl, rfl, hM, hp, .inl ⟨a + i, rfl, ?_⟩⟩
      walk_at "gos"
      cases hf : mem bl rl (a + i) with
      | true =>
        rw [if_pos rfl]
        walk_at "gos"
        exact q _ (.inr ⟨a + i, rfl, (hka _).mpr (by omega), hf, fun j h1 h2 => hno j ((hka j).mp h1) (by omega)⟩)
      | false =>
        rw [if_neg (by decide)]
        walk_at "gos"
        refine ⟨rfl, ⟨_, rfl⟩, fun k h1 h2 => ?_⟩
        by_cases hk : k = a + i
        · rw [hk]; exact hf
        · exact hno k h1 (by omega)
    · obtain ⟨rfl, ⟨y0, rfl⟩, hno⟩ := q2
      walk_at "gos"
      refine q _ (.inl ⟨rfl, fun k hk => ?_⟩)
      have hk := (hka k).mp hk
      by_cases hlt : k < max a bl.length
      · exact hno k hk (by omega)
      · exact per_none_up hper hp (a := max a bl.length) (by omega) (fun k h1 h2 => hno k (by omega) (by omega)) k (by omega)
def spLastI (K : PySem.W.Frag) : Sp := fun vs H Q _ => ∃ (m : Addr) (n : Nat) (B R : List Bool), vs = [.ref m, .int n] ∧ IsM H m B R ∧ 0 < R.length ∧ ∀ r, LastV (mem B R) n r → Q r H
theorem sc__law_last : FnScope ["model", "n", "low", "k"] ["model", "n"] (defScope (topS 30)) := ⟨rfl, rfl, rfl, by decide +kernel, rfl, by decide +kernel, by decide +kernel⟩
theorem ok__law_lastI (B : Bn mg) (G__law_in : CallF P w K mg base "_law_in" ["model", "n"] 1 (spIn K)) {f : Addr} {fd : FuncData} (F : Fun K "_law_last" "_law_last" (topS 30) f fd) : FnOk P w K mg base (L2.CX P w) 3 f fd ["model", "n"] (spLastI K) := by
  have nd := sc__law_last.nd
  refine F.okX sc__law_last (fun vs H Q E h => ?_) (fun cdv A outer s H vs Q E hr h => ?_)
  · obtain ⟨m, n, B1, R, rfl, _⟩ := h
    rfl
  · refine ⟨_, (pss_cons (ps_set (i := 2) nd rfl (.inl rfl) (pe_ifExp (pt_cmpR op_ge (pv 1) (pe_callB (call_lnK (K := K) rfl) (by rfl) B.len_ (by decide +kernel) (pa_cons (pe_ix (ix_tupK (K := K) rfl) (pv 0) pe_int (fun _ _ => rfl)) pa_nil)) (nomark _)) (pe_callB (call_max2 rfl) (by rfl) B.max_ (by decide +kernel) (pa_cons (pe_op op_sub (pe_callTy call_in1 (by rfl) B.int_ (by decide +kernel) (pa_cons (pv 1) pa_nil)) (pe_callB (call_lnK (K := K) rfl) (by rfl) B.len_ (by decide +kernel) (pa_cons (pe_ix (ix_tupK (K := K) rfl) (pv 0) pe_int (fun _ _ => rfl)) pa_nil))) (pa_cons pe_int pa_nil))) pe_int))
      (pss_cons (ps_for (passes_of rfl) rfl (pi_rangeD rfl B.range (pa_cons (pv 1) (pa_cons (pe_op op_sub (pv 2) pe_int) (pa_cons (pe_un un_neg pe_int) pa_nil)))) (pg_name (i := 3) nd rfl (.inl rfl)) (pss_one (ps_if (pt_val (pe_callF G__law_in (hr.mono (by decide)) rfl passL (pa_cons (pv 0) (pa_cons (pv 3) pa_nil)))) (pss_one (ps_ret (pv 3))) pss_nil)))
      (pss_cons (ps_for (passes_of rfl) rfl (pi_rangeD rfl B.range (pa_cons (pe_callB (call_min2 rfl) (by rfl) B.min_ (by decide +kernel) (pa_cons (pe_callTy call_in1 (by rfl) B.int_ (by decide +kernel) (pa_cons (pv 1) pa_nil)) (pa_cons (pe_op op_sub (pe_callB (call_lnK (K := K) rfl) (by rfl) B.len_ (by decide +kernel) (pa_cons (pe_ix (ix_tupK (K := K) rfl) (pv 0) pe_int (fun _ _ => rfl)) pa_nil)) pe_int) pa_nil))) (pa_cons (pe_un un_neg pe_int) (pa_cons (pe_un un_neg pe_int) pa_nil)))) (pg_name (i := 3) nd rfl (.inl rfl)) (pss_one (ps_if (pt_val (pe_ix (ix_listK (K := K) rfl) (pe_ix (ix_tupK (K := K) rfl) (pv 0) pe_int (fun _ _ => rfl)) (pv 3) (fun _ _ => rfl))) (pss_one (ps_ret (pv 3))) pss_nil)))
      (pss_one (ps_ret pe_non))))), ?_⟩
    obtain ⟨m, n, bl, rl, rfl, hM, hp, q⟩ := h
    obtain ⟨a', b', hm, ha', hb'⟩ := id hM
    refine g_st (σ' := [some (.ref m), some (.int n), none, none]) rfl ?_
    have hper := mem_per (b := bl) (r := rl)
    walk_at "gou"
    ((with_reducible change tSeq _ _ _ _ _); refine L2.g_cutS (fun σ' H' => H' = H ∧ ∃ lo : Nat, (n < bl.length → lo = 0) ∧ (bl.length ≤ n → lo = n - rl.length) ∧ σ' = [some (.ref m), some (.int n), some (.int (lo : Nat)), none]) (fun nx hnx => ?_) (fun σ' H1 hR1 => ?_))
    · walk_at "gos"
      refine u_ixT (sqT hm) (v := .ref a') rfl ?_
      walk_at "gos"
      refine u_lenL (sqL ha') ?_
      rw [List.length_map]
      walk_at "gos"
      by_cases hn : bl.length ≤ n
      · rw [if_pos (decide_eq_true (by omega))]
        walk_at "gos"
        refine u_ixT (sqT hm) (v := .ref b') rfl ?_
        walk_at "gos"
        refine u_lenL (sqL hb') ?_
        rw [List.length_map]
        walk_at "gos"
        refine ⟨_, _, rfl, ?_⟩
        have e : (if (0 : Int) > (n : Int) - (rl.length : Nat) then (0 : Int) else (n : Int) - (rl.length : Nat)) = ((n - rl.length : Nat) : Int) := by split <;> omega
        rw [e]
        exact hnx _ _ ⟨rfl, n - rl.length, fun h => by omega, fun _ => rfl, rfl⟩
      · rw [if_neg (by rw [decide_eq_true_iff]; omega)]
        walk_at "gos"
        exact hnx _ _ ⟨rfl, 0, fun _ => rfl, fun h => by omega, rfl⟩
    obtain ⟨rfl, lo, hlo1, hlo2, rfl⟩ := hR1
    walk_at "gou"
    ((with_reducible change tSeq _ _ _ _ _); refine L2.g_cutS (fun σ' H' => H' = H1 ∧ (∃ y, σ' = [some (.ref m), some (.int n), some (.int (lo : Nat)), y]) ∧ ∀ k, bl.length ≤ k → k ≤ n → mem bl rl k = false) (fun nx hnx => ?_) (fun σ' H2 hR2 => ?_))
    · walk_at "gos"
      refine g_rngD ?_
      walk_at "gos"
      refine ⟨_, _, rfl, ?_⟩
      refine for_it walk_rangeC (fun i σ' H' => H' = H1 ∧ (∃ y, σ' = [some (.ref m), some (.int n), some (.int (lo : Nat)), y]) ∧ ∀ k : Nat, (n : Int) - i < k → k ≤ n → mem bl rl k = false) ⟨rfl, ⟨_, rfl⟩, fun k h1 h2 => by omega⟩ (fun _ _ _ _ _ => trivial) (fun i y σ' H' H0 hi q2 hy => ?_) (fun σ' H' q2 => ?_)
      · obtain ⟨rfl, ⟨y0, rfl⟩, hno⟩ := q2
        obtain ⟨rfl, hy⟩ := hy
        obtain ⟨k0, hk0⟩ : ∃ k0 : Nat, (n : Int) + (i : Nat) * (-1) = (k0 : Nat) := ⟨((n : Int) - i).toNat, by omega⟩
        obtain rfl : y = .int (k0 : Nat) := by rw [hy]; exact congrArg V.int hk0
        walk_at "gos"
        refine ⟨m, _, bl, rl, rfl, hM, hp, .inl ⟨k0, rfl, ?_⟩⟩
        walk_at "gos"
        cases hf : mem bl rl k0 with
        | true =>
          rw [if_pos rfl]
          walk_at "gos"
          exact q _ (.inr ⟨k0, rfl, by omega, hf, fun j h1 h2 => hno j (by omega) (by omega)⟩)
        | false =>
          rw [if_neg (by decide)]
          walk_at "gos"
          refine ⟨rfl, ⟨_, rfl⟩, fun k h1 h2 => ?_⟩
          by_cases hk : k = k0
          · rw [hk]; exact hf
          · exact hno k (by omega) h2
      · obtain ⟨rfl, ⟨y0, rfl⟩, hno⟩ := q2
        refine hnx _ _ ⟨rfl, ⟨_, rfl⟩, fun k h1 h2 => ?_⟩
        exact per_none_down hper hp (a := n) (fun k g1 g2 g3 => hno k (by omega) g3) k h1 h2
    obtain ⟨rfl, ⟨y, rfl⟩, hhi⟩ := hR2
    walk_at "gos"
    refine g_rngD ?_
    walk_at "gos"
    refine u_ixT (sqT hm) (v := .ref a') rfl ?_
    walk_at "gos"
    refine u_lenL (sqL ha') ?_
    rw [List.length_map]
    walk_at "gos"
    refine ⟨_, _, rfl, ?_⟩
    walk_at "gos"
    refine ⟨_, _, rfl, ?_⟩
    obtain ⟨hv, hhv⟩ : ∃ hv : Int, hv = min (n : Int) ((bl.length : Nat) - 1) := ⟨_, rfl⟩
    have hN : (if ((bl.length : Nat) : Int) - 1 < (n : Int) then ((bl.length : Nat) : Int) - 1 else (n : Int)) = hv := by split <;> omega
    rw [hN]
    have hN2 : (hv - -1).toNat = (hv + 1).toNat := by omega
    rw [hN2]
    refine for_it walk_rangeC (fun i σ' H' => H' = H2 ∧ (∃ y, σ' = [some (.ref m), some (.int n), some (.int (lo : Nat)), y]) ∧ ∀ k : Nat, hv - i < k → k ≤ n → mem bl rl k = false) ⟨rfl, ⟨_, rfl⟩, fun k g1 g2 => hhi k (by omega) g2⟩ (fun _ _ _ _ _ => trivial) (fun i y σ' H' H0 hi q2 hy => ?_) (fun σ' H' q2 => ?_)
    · obtain ⟨rfl, ⟨y0, rfl⟩, hno⟩ := q2
      obtain ⟨rfl, hy⟩ := hy
      obtain ⟨k0, hk0⟩ : ∃ k0 : Nat, hv + (i : Nat) * (-1) = (k0 : Nat) := ⟨(hv - i).toNat, by omega⟩
      obtain rfl : y = .int (k0 : Nat) := by rw [hy]; exact congrArg V.int hk0
      walk_at "gos"
      refine u_ixT (sqT hm) (v := .ref a') rfl ?_
      walk_at "gos"
      refine u_ixL (sqL ha') (atI_nat (atB (by omega))) ?_
      walk_at "gos"
      have hfe : mem bl rl k0 = bt bl k0 := by unfold mem; rw [if_pos (by omega)]
      cases hf : bt bl k0 with
      | true =>
        rw [if_pos rfl]
        walk_at "gos"
        exact q _ (.inr ⟨k0, rfl, by omega, by rw [hfe, hf], fun j h1 h2 => hno j (by omega) (by omega)⟩)
      | false =>
        rw [if_neg (by decide)]
        walk_at "gos"
        refine ⟨rfl, ⟨_, rfl⟩, fun k h1 h2 => ?_⟩
        by_cases hk : k = k0
        · rw [hk, hfe]; exact hf
        · exact hno k (by omega) h2
    · obtain ⟨rfl, ⟨y0, rfl⟩, hno⟩ := q2
      walk_at "gos"
      exact q _ (.inl ⟨rfl, fun k hk => hno k (by omega) (by omega)⟩)
end
end Ev

end
section
open L2 in
local macro_rules | `(tactic| walk_at "gx") => `(tactic| first
  | ((with_reducible show tVar _ _ _ _); refine g_var rfl ?_)
  | with_reducible refine g_c ?_
  | with_reducible refine g_op ?_
  | with_reducible refine g_cons ?_
  | with_reducible refine g_nil ?_
  | with_reducible refine g_test ?_
  | with_reducible refine g_blp ?_
  | with_reducible refine g_asg ?_
  | (with_reducible refine g_name ?_; (try simp only [List.set_cons_zero, List.set_cons_succ]))
  | with_reducible refine g_call ?_
  | with_reducible refine g_cb ?_
  | with_reducible refine g_I0 ?_
  | with_reducible refine g_U ?_
  | with_reducible refine g_eqI ?_
  | with_reducible refine g_neI ?_
  | with_reducible refine g_if ?_
  | with_reducible refine g_ret ?_
  | with_reducible refine g_retN ?_
  | with_reducible refine g_next ?_
  | with_reducible refine g_drop ?_
  | with_reducible refine g_un ?_
  | with_reducible refine g_tb ?_
  | with_reducible refine g_tup ?_
  | with_reducible refine g_lst ?_
  | with_reducible refine g_and ?_
  | with_reducible refine g_or ?_
  | with_reducible refine g_not ?_
  | with_reducible refine g_andV ?_
  | with_reducible refine g_orV ?_
  | with_reducible refine g_notV ?_
  | with_reducible refine g_ifE ?_
  | with_reducible refine g_fld ?_
  | with_reducible refine g_tt ?_
  | with_reducible refine g_ff ?_
  | with_reducible refine g_ntt ?_
  | with_reducible refine g_nff ?_
  | with_reducible refine g_for ?_
  | with_reducible refine g_list ?_
  | with_reducible refine g_tupI ?_
  | with_reducible refine g_rng1 ?_
  | with_reducible refine g_rng2 ?_
  | with_reducible refine g_enumA ?_
  | with_reducible refine g_rev ?_
  | with_reducible refine g_lc ?_
  | with_reducible refine g_gcons ?_
  | with_reducible refine g_gnil ?_
  | with_reducible refine g_yes ?_
  | with_reducible refine g_sl ?_
  | with_reducible refine g_nopart ?_
  | with_reducible refine g_part ?_
  | with_reducible refine g_int ?_
  | with_reducible refine g_dget ?_
  | with_reducible refine g_dput ?_
  | with_reducible refine g_raiseX ?_
  | with_reducible refine g_tru ?_
  | with_reducible refine g_sub ?_
  | with_reducible refine g_isN ?_
  | with_reducible refine g_notN ?_
  | with_reducible refine g_bm ?_
  | with_reducible refine L2.g_bm0 ?_
  | with_reducible refine g_pair ?_
  | with_reducible refine g_pair0 ?_
  | with_reducible refine u_int1 ?_
  | with_reducible refine g_chain ?_
  | with_reducible refine L2.g_sfld ?_
  | (with_reducible refine g_par3 ?_)
  | (with_reducible refine g_three ?_; (try simp only [List.set_cons_zero, List.set_cons_succ]))
  | ((with_reducible apply L2.g_tupT); walk_at "up"; rfl)
  | (with_reducible refine g_par ?_)
  | (with_reducible refine g_two ?_; (try simp only [List.set_cons_zero, List.set_cons_succ]))
  )
local macro_rules | `(tactic| walk_at "go") => `(tactic| first | walk_at "gx" | with_reducible refine L2.g_seq ?_)
local macro_rules | `(tactic| walk_at "gou") => `(tactic| repeat (walk_at "gx"))
local macro_rules | `(tactic| walk_at "gos") => `(tactic| repeat (walk_at "go"))
local macro_rules | `(tactic| walk_at "sl") => `(tactic| first
  | assumption
  | exact L2.Same.l (by assumption)
  | exact L2.SameD.l (by assumption)
  | exact L2.extN_l (by assumption))
local macro_rules | `(tactic| walk_at "up") => `(tactic| first
  | assumption
  | ((with_reducible apply L2.SameL.lst); walk_at "sl"; walk_at "up")
  | ((with_reducible apply L2.SameL.tupA); walk_at "sl"; walk_at "up")
  | ((with_reducible apply L2.SameL.ins); walk_at "sl"; walk_at "up")
  | ((with_reducible apply Ev.PB.l); walk_at "sl"; walk_at "up")
  | ((with_reducible apply Ev.IsP.l); walk_at "sl"; walk_at "up")
  | ((with_reducible apply L2.sqL); walk_at "up")
  | ((with_reducible apply L2.sqT); walk_at "up")
  | ((with_reducible apply L2.SameL.seq); walk_at "sl"; walk_at "up")
  | ((with_reducible apply Ev.Pen.same); assumption; walk_at "up")
  | ((with_reducible apply Ev.Pen.extN); assumption; walk_at "up")
  | ((with_reducible apply L2.tabs_s); assumption; walk_at "up")
  | ((with_reducible apply L2.tabs_dd); assumption; walk_at "up")
  | ((with_reducible apply Or.inl); walk_at "up")
  | ((with_reducible apply Or.inr); walk_at "up"))
local macro_rules | `(tactic| walk_at "new") => `(tactic| (
  first
    | refine ⟨L2.size_ok (by rfl), fun p hp => ?_⟩
    | refine fun p hp => ?_
  generalize hX : L2.upd _ p _ = H1
  obtain ⟨e, h⟩ := L2.news hp hX
  clear hX))
local macro_rules | `(tactic| walk_at "o") => `(tactic| first
  | ((with_reducible apply Ev.o_add); walk_at "up"; walk_at "up"; rfl; rfl; rfl)
  | ((with_reducible apply Ev.o_sub); walk_at "up"; walk_at "up"; rfl; rfl; rfl)
  | ((with_reducible apply Ev.o_mul); walk_at "up"; walk_at "up"; rfl; rfl; rfl)
  | ((with_reducible apply Ev.o_addI); walk_at "up"; assumption; rfl; rfl; rfl)
  | ((with_reducible apply Ev.o_subI); walk_at "up"; assumption; rfl; rfl; rfl)
  | ((with_reducible apply Ev.o_mulI); walk_at "up"; assumption; rfl; rfl; rfl)
  | ((with_reducible apply Ev.o_radd); walk_at "up"; assumption; rfl; rfl; rfl)
  | ((with_reducible apply Ev.o_rsub); walk_at "up"; assumption; rfl; rfl; rfl)
  | ((with_reducible apply Ev.o_rmul); walk_at "up"; assumption; rfl; rfl; rfl)
  | ((with_reducible apply Ev.o_neg); walk_at "up"; rfl; rfl; rfl))
local macro_rules | `(tactic| walk_at "eq") => `(tactic| ((with_reducible apply Ev.u_ownB); assumption; walk_at "up"; walk_at "up"; (focus (intro k; first | rfl | exact Pl.e_add | exact Pl.e_sub | exact Pl.e_mul | exact Pl.e_rsub | exact Pl.e_rsub2))))
local macro_rules | `(tactic| walk_at "isp") => `(tactic| (apply Ev.u_isB; walk_at "up"; walk_at "up"; rfl; rfl))

/-! Values that are handed and told again. -/
namespace Ev
open PySem PySem.Spec PyProof.Rows L2 Wp
/-- a plain value, an integer only if p -/
inductive PV (p : Int → Prop) (H : Hp) : V → Prop
  | int (i : Int) (h : p i) : PV p H (.int i)
  | bl (b : Bool) : PV p H (.bl b)
  | non : PV p H .non
  | str (x : Str) (h : PyData.canLay0 (.str x) = true) : PV p H (.str x)
  | tup (t : Addr) (j : Int) (h : H t = some (.tup [.int j])) : PV p H (.ref t)
theorem PV.l {p : Int → Prop} {H H' : Hp} {v : V} (e : SameL H H') : PV p H v → PV p H' v
  | .int i h => .int i h
  | .bl b => .bl b
  | .non => .non
  | .str x h => .str x h
  | .tup t j h => .tup t j (e.tupA h)
theorem PV.mono {p p' : Int → Prop} {H : Hp} {v : V} (e : ∀ i, p i → p' i) : PV p H v → PV p' H v
  | .int i h => .int i (e i h)
  | .bl b => .bl b
  | .non => .non
  | .str x h => .str x h
  | .tup t j h => .tup t j h
theorem PV.dp {K : PySem.W.Frag} {p : Int → Prop} {H : Hp} {v : V} : PV p H v → ∃ d, Dp K H v d ∧ d.canLay0 = true ∧ d.depth ≤ 3 ∧ PyData.eqv d d = true
  | .int i h => ⟨.int i, .int i, rfl, Nat.zero_le 3, by simp [PyData.eqv]⟩
  | .bl b => ⟨.bool b, .bl b, rfl, Nat.zero_le 3, by simp [PyData.eqv]⟩
  | .non => ⟨.none, .non, rfl, Nat.zero_le 3, by simp [PyData.eqv]⟩
  | .str x h => ⟨.str x, .str x, h, Nat.zero_le 3, by simp [PyData.eqv]⟩
  | .tup t j h => ⟨.tuple [.int j], .tup (sqT h) (.cons (.int j) .nil), by simp [PyData.canLay0, PyData.canLayAll0], by simp [PyData.depth, PyData.depthAll], by simp [PyData.eqv, PyData.eqvAll]⟩
theorem PV.kd {K : PySem.W.Frag} {p : Int → Prop} {H : Hp} {v : V} : PV p H v → Kd K H v false ∨ ∃ i, p i ∧ v = .int i
  | .int i h => .inr ⟨i, h, rfl⟩
  | .bl b => .inl Kd.bl
  | .non => .inl Kd.non
  | .str x h => .inl Kd.str
  | .tup t j h => .inl (Kd.tup h)
theorem PV.nat {p : Int → Prop} {H : Hp} {v : V} {n : Nat} (hp : ∀ i, p i → i < 0) (h : PV p H v) (e : v = nV n) : False := by
  subst e
  unfold nV at h
  cases h with
  | int i h => have := hp _ h; omega
theorem nats_inj : ∀ {ns ms : List Nat}, ns.map nV = ms.map nV → ns = ms
  | [], [], _ => rfl
  | [], _ :: _, h => by cases h
  | _ :: _, [], h => by cases h
  | a :: r, b :: t, h => by
    rw [List.map_cons, List.map_cons] at h
    injection h with h1 h2
    unfold nV at h1
    injection h1 with h1
    rw [Int.ofNat_inj.mp h1, nats_inj h2]
theorem nat_mem {ns : List Nat} {x : V} (h : x ∈ ns.map nV) : ∃ n : Nat, n ∈ ns ∧ x = .int n := by
  obtain ⟨n, h1, rfl⟩ := List.mem_map.mp h
  exact ⟨n, h1, rfl⟩
/-- an odd member put among others -/
theorem bad_at {l : List V} {k j : Nat} {odd big x : V} (hk : k ≤ l.length) (h : (l.take k ++ [odd] ++ l.drop k ++ [big])[j]? = some x) : (j = k ∧ x = odd) ∨ (j ≠ k ∧ (x ∈ l ∨ x = big)) := by
  have hl : (l.take k).length = k := by rw [List.length_take]; omega
  have hl2 : (l.take k ++ [odd]).length = k + 1 := by rw [List.length_append, hl]; rfl
  by_cases h1 : j < k
  · rw [List.append_assoc, List.append_assoc, List.getElem?_append_left (by omega)] at h
    exact .inr ⟨by omega, .inl (List.mem_of_mem_take (List.mem_of_getElem? h))⟩
  · by_cases h2 : j = k
    · subst h2
      rw [List.append_assoc, List.append_assoc, List.getElem?_append_right (by omega), hl, Nat.sub_self] at h
      exact .inl ⟨rfl, (Option.some.inj h).symm⟩
    · rw [List.append_assoc, List.getElem?_append_right (by omega)] at h
      rcases List.mem_append.mp (List.mem_of_getElem? h) with h | h
      · exact .inr ⟨h2, .inl (List.mem_of_mem_drop h)⟩
      · exact .inr ⟨h2, .inr (List.mem_singleton.mp h)⟩
theorem bad_no {l : List V} {k : Nat} {odd big : V} {ns : List Nat} {p : Int → Prop} {H : Hp} (hk : k ≤ l.length) (hp : ∀ i, p i → i < 0) (ho : PV p H odd) (h : l.take k ++ [odd] ++ l.drop k ++ [big] = ns.map nV) : False := by
  have hl : (l.take k).length = k := by rw [List.length_take]; omega
  have e : (l.take k ++ [odd] ++ l.drop k ++ [big])[k]? = some odd := by
    rw [List.append_assoc, List.append_assoc, List.getElem?_append_right (by omega), hl, Nat.sub_self]; rfl
  rw [h] at e
  exact ho.nat hp (at_nats e)
theorem mem_list {N k : Nat} {ps : List Nat} (h : ∀ n, n ∈ ps → n < N) : mem ((List.range N).map fun n => decide (n ∈ ps)) [false] k = decide (k ∈ ps) := by
  unfold mem
  rw [List.length_map, List.length_range]
  by_cases hk : k < N
  · rw [if_pos hk, bt_in (by rw [List.length_map, List.length_range]; exact hk), List.getElem_map, List.getElem_range]
  · rw [if_neg hk, decide_eq_false (fun z => hk (h k z))]
    simp [bt, Nat.mod_one]
section
variable {K : PySem.W.Frag} {H : Hp} {a b : Addr} {x : Str} {v : V} {p : Int → Prop} {Q : VK}
theorem u_neTagV (hx : PyData.canLay0 (.str x) = true) (h : H a = some (.tup [.str x, v])) (h' : H b = some (.tup [.str x, v])) (hv : PV p H v) (q : Q (.bl false) H) : rNeD K (.ref a) (.ref b) H Q := by
  obtain ⟨d, h1, h2, h3, h4⟩ := hv.dp (K := K)
  exact u_neD (b := true) (.tup (sqT h) (.cons (.str _) (.cons h1 .nil))) (.tup (sqT h') (.cons (.str _) (.cons h1 .nil))) (shaped_tag hx h2 h3) (shaped_tag hx h2 h3) (by simp [PyData.eqv, PyData.eqvAll, h4]) q
theorem u_eqTagV (hx : PyData.canLay0 (.str x) = true) (h : H a = some (.tup [.str x, v])) (h' : H b = some (.tup [.str x, v])) (hv : PV p H v) (q : Q (.bl true) H) : rEqD K (.ref a) (.ref b) H Q := by
  obtain ⟨d, h1, h2, h3, h4⟩ := hv.dp (K := K)
  refine ⟨_, _, .tup (sqT h) (.cons (.str _) (.cons h1 .nil)), .tup (sqT h') (.cons (.str _) (.cons h1 .nil)), shaped_tag hx h2 h3, shaped_tag hx h2 h3, ?_⟩
  have e : PyData.eqv (.tuple [.str x, d]) (.tuple [.str x, d]) = true := by simp [PyData.eqv, PyData.eqvAll, h4]
  rw [e]
  exact q
theorem u_eqNon (q : Q (.bl true) H) : rEqD K .non .non H Q := ⟨_, _, .non, .non, by decide, by decide, by
  have e : PyData.eqv .none .none = true := by simp [PyData.eqv]
  rw [e]; exact q⟩
theorem in_nats {n : Nat} {ns : List Nat} : inV (.int n) (ns.map nV) = decide (n ∈ ns) := by
  unfold inV
  rw [List.any_map]
  induction ns with
  | nil => rfl
  | cons m r ih =>
    rw [List.any_cons, ih]
    have e : ((fun y => eqV y (V.int n)) ∘ nV) m = decide (n = m) := by
      show eqV (.int m) (.int n) = _
      simp only [eqV]
      by_cases h : n = m
      · subst h; simp
      · rw [decide_eq_false h, beq_eq_false_iff_ne]; omega
    rw [e]
    by_cases h1 : n = m <;> by_cases h2 : n ∈ r <;> simp [h1, h2]
theorem flat_nats {ns : List Nat} : (ns.map nV).all flatV = true := by
  rw [List.all_map, List.all_eq_true]
  intro n _
  rfl
end
end Ev

end
section
open L2 in
local macro_rules | `(tactic| walk_at "gx") => `(tactic| first
  | ((with_reducible show tVar _ _ _ _); refine g_var rfl ?_)
  | with_reducible refine g_c ?_
  | with_reducible refine g_op ?_
  | with_reducible refine g_cons ?_
  | with_reducible refine g_nil ?_
  | with_reducible refine g_test ?_
  | with_reducible refine g_blp ?_
  | with_reducible refine g_asg ?_
  | (with_reducible refine g_name ?_; (try simp only [List.set_cons_zero, List.set_cons_succ]))
  | with_reducible refine g_call ?_
  | with_reducible refine g_cb ?_
  | with_reducible refine g_I0 ?_
  | with_reducible refine g_U ?_
  | with_reducible refine g_eqI ?_
  | with_reducible refine g_neI ?_
  | with_reducible refine g_if ?_
  | with_reducible refine g_ret ?_
  | with_reducible refine g_retN ?_
  | with_reducible refine g_next ?_
  | with_reducible refine g_drop ?_
  | with_reducible refine g_un ?_
  | with_reducible refine g_tb ?_
  | with_reducible refine g_tup ?_
  | with_reducible refine g_lst ?_
  | with_reducible refine g_and ?_
  | with_reducible refine g_or ?_
  | with_reducible refine g_not ?_
  | with_reducible refine g_andV ?_
  | with_reducible refine g_orV ?_
  | with_reducible refine g_notV ?_
  | with_reducible refine g_ifE ?_
  | with_reducible refine g_fld ?_
  | with_reducible refine g_tt ?_
  | with_reducible refine g_ff ?_
  | with_reducible refine g_ntt ?_
  | with_reducible refine g_nff ?_
  | with_reducible refine g_for ?_
  | with_reducible refine g_list ?_
  | with_reducible refine g_tupI ?_
  | with_reducible refine g_rng1 ?_
  | with_reducible refine g_rng2 ?_
  | with_reducible refine g_enumA ?_
  | with_reducible refine g_rev ?_
  | with_reducible refine g_lc ?_
  | with_reducible refine g_gcons ?_
  | with_reducible refine g_gnil ?_
  | with_reducible refine g_yes ?_
  | with_reducible refine g_sl ?_
  | with_reducible refine g_nopart ?_
  | with_reducible refine g_part ?_
  | with_reducible refine g_int ?_
  | with_reducible refine g_dget ?_
  | with_reducible refine g_dput ?_
  | with_reducible refine g_raiseX ?_
  | with_reducible refine g_tru ?_
  | with_reducible refine g_sub ?_
  | with_reducible refine g_isN ?_
  | with_reducible refine g_notN ?_
  | with_reducible refine g_bm ?_
  | with_reducible refine L2.g_bm0 ?_
  | with_reducible refine g_pair ?_
  | with_reducible refine g_pair0 ?_
  | with_reducible refine u_int1 ?_
  | with_reducible refine g_chain ?_
  | with_reducible refine L2.g_sfld ?_
  | (with_reducible refine g_par3 ?_)
  | (with_reducible refine g_three ?_; (try simp only [List.set_cons_zero, List.set_cons_succ]))
  | ((with_reducible apply L2.g_tupT); walk_at "up"; rfl)
  | (with_reducible refine g_par ?_)
  | (with_reducible refine g_two ?_; (try simp only [List.set_cons_zero, List.set_cons_succ]))
  )
local macro_rules | `(tactic| walk_at "go") => `(tactic| first | walk_at "gx" | with_reducible refine L2.g_seq ?_)
local macro_rules | `(tactic| walk_at "gou") => `(tactic| repeat (walk_at "gx"))
local macro_rules | `(tactic| walk_at "gos") => `(tactic| repeat (walk_at "go"))
local macro_rules | `(tactic| walk_at "sl") => `(tactic| first
  | assumption
  | exact L2.Same.l (by assumption)
  | exact L2.SameD.l (by assumption)
  | exact L2.extN_l (by assumption))
local macro_rules | `(tactic| walk_at "up") => `(tactic| first
  | assumption
  | ((with_reducible apply L2.SameL.lst); walk_at "sl"; walk_at "up")
  | ((with_reducible apply L2.SameL.tupA); walk_at "sl"; walk_at "up")
  | ((with_reducible apply L2.SameL.ins); walk_at "sl"; walk_at "up")
  | ((with_reducible apply Ev.PB.l); walk_at "sl"; walk_at "up")
  | ((with_reducible apply Ev.IsP.l); walk_at "sl"; walk_at "up")
  | ((with_reducible apply L2.sqL); walk_at "up")
  | ((with_reducible apply L2.sqT); walk_at "up")
  | ((with_reducible apply L2.SameL.seq); walk_at "sl"; walk_at "up")
  | ((with_reducible apply Ev.Pen.same); assumption; walk_at "up")
  | ((with_reducible apply Ev.Pen.extN); assumption; walk_at "up")
  | ((with_reducible apply L2.tabs_s); assumption; walk_at "up")
  | ((with_reducible apply L2.tabs_dd); assumption; walk_at "up")
  | ((with_reducible apply Or.inl); walk_at "up")
  | ((with_reducible apply Or.inr); walk_at "up"))
local macro_rules | `(tactic| walk_at "new") => `(tactic| (
  first
    | refine ⟨L2.size_ok (by rfl), fun p hp => ?_⟩
    | refine fun p hp => ?_
  generalize hX : L2.upd _ p _ = H1
  obtain ⟨e, h⟩ := L2.news hp hX
  clear hX))
local macro_rules | `(tactic| walk_at "o") => `(tactic| first
  | ((with_reducible apply Ev.o_add); walk_at "up"; walk_at "up"; rfl; rfl; rfl)
  | ((with_reducible apply Ev.o_sub); walk_at "up"; walk_at "up"; rfl; rfl; rfl)
  | ((with_reducible apply Ev.o_mul); walk_at "up"; walk_at "up"; rfl; rfl; rfl)
  | ((with_reducible apply Ev.o_addI); walk_at "up"; assumption; rfl; rfl; rfl)
  | ((with_reducible apply Ev.o_subI); walk_at "up"; assumption; rfl; rfl; rfl)
  | ((with_reducible apply Ev.o_mulI); walk_at "up"; assumption; rfl; rfl; rfl)
  | ((with_reducible apply Ev.o_radd); walk_at "up"; assumption; rfl; rfl; rfl)
  | ((with_reducible apply Ev.o_rsub); walk_at "up"; assumption; rfl; rfl; rfl)
  | ((with_reducible apply Ev.o_rmul); walk_at "up"; assumption; rfl; rfl; rfl)
  | ((with_reducible apply Ev.o_neg); walk_at "up"; rfl; rfl; rfl))
local macro_rules | `(tactic| walk_at "eq") => `(tactic| ((with_reducible apply Ev.u_ownB); assumption; walk_at "up"; walk_at "up"; (focus (intro k; first | rfl | exact Pl.e_add | exact Pl.e_sub | exact Pl.e_mul | exact Pl.e_rsub | exact Pl.e_rsub2))))
local macro_rules | `(tactic| walk_at "isp") => `(tactic| (apply Ev.u_isB; walk_at "up"; walk_at "up"; rfl; rfl))

/-! The law's own searches, counts and drawn rests (k86). -/
namespace Ev
open PySem PySem.Spec PyProof.Rows L2 Wp
section
variable {P : Program} {w : World} {K : PySem.W.Frag} {mg : Str → Option Value} {base : Heap}
def spBelowM (K : PySem.W.Frag) : Sp := fun vs H Q _ => ∃ (m : Addr) (N : Nat) (B R : List Bool), vs = [.ref m, .int N] ∧ IsM H m B R ∧ 0 < R.length ∧ R.length ≤ 720 ∧ B.length ≤ 10000 ∧ Bd 300 (N : Int) ∧ ∀ H', Same H H' → Q (.int (cnt (mem B R) N : Nat)) H'
theorem sc__law_below : FnScope ["model", "n", "low", "rests", "k", "rounds", "rest", "more"] ["model", "n"] (defScope (topS 31)) := ⟨rfl, rfl, rfl, by decide +kernel, rfl, by decide +kernel, by decide +kernel⟩
theorem ok__law_below (B : Bn mg) {f : Addr} {fd : FuncData} (F : Fun K "_law_below" "_law_below" (topS 31) f fd) : FnOk P w K mg base (L2.CX P w) 3 f fd ["model", "n"] (spBelowM K) := by
  have nd := sc__law_below.nd
  refine F.okX sc__law_below (fun vs H Q E h => ?_) (fun cdv A outer s H vs Q E hr h => ?_)
  · obtain ⟨m, n, B1, R, rfl, _⟩ := h
    rfl
  · refine ⟨_, (pss_cons (ps_asg (pe_tup (pa_cons (pe_callB (call_lnK (K := K) rfl) (by rfl) B.len_ (by decide +kernel) (pa_cons (pe_ix (ix_tupK (K := K) rfl) (pv 0) pe_int (fun _ _ => rfl)) pa_nil)) (pa_cons (pe_ix (ix_tupK (K := K) rfl) (pv 0) pe_int (fun _ _ => rfl)) pa_nil))) (pg_tupK (K := K) (n := 2) rfl rfl (pgs_cons (pg_name (i := 2) nd rfl (.inl rfl)) (pgs_cons (pg_name (i := 3) nd rfl (.inr rfl)) pgs_nil))))
      (pss_cons (ps_if (pt_cmpR op_le (pv 1) (pv 2) (nomark _)) (pss_one (ps_ret (pe_callB (call_lnK (K := K) rfl) (by rfl) B.len_ (by decide +kernel) (pa_cons (pe_lc (own := [("k", 4)]) (g := gName 4) rfl nd (pi_range1 rfl B.range (pa_cons (pv 1) pa_nil)) (blkOk_by (N := ["model", "n", "low", "rests", "k", "rounds", "rest", "more"]) (sc := defScope (topS 31)) (by decide +kernel)) (fun _ _ _ _ _ => (pg_name (i := 4) nd rfl (.inl rfl))) (fun _ _ _ _ _ => (pts_one (pt_val (pe_ix (ix_listK (K := K) rfl) (pe_ix (ix_tupK (K := K) rfl) (pv 0) pe_int (fun _ _ => rfl)) (pv 4) (fun _ _ => rfl))))) (fun _ _ _ _ _ => (pv 4))) pa_nil)))) pss_nil)
      (pss_cons (ps_par (i := 5) (j := 6) rfl nd rfl rfl (by decide) rfl rfl (pa_cons (pe_op op_fdivX (pe_op op_sub (pv 1) (pv 2)) (pe_callB (call_lnK (K := K) rfl) (by rfl) B.len_ (by decide +kernel) (pa_cons (pv 3) pa_nil))) (pa_cons (pe_op op_modN (pe_callTy call_in1 (by rfl) B.int_ (by decide +kernel) (pa_cons (pe_op op_sub (pv 1) (pv 2)) pa_nil)) (pe_callB (call_lnK (K := K) rfl) (by rfl) B.len_ (by decide +kernel) (pa_cons (pv 3) pa_nil))) pa_nil)) (by rfl))
      (pss_cons (ps_set (i := 7) nd rfl (.inl rfl) (pe_callB (call_lnK (K := K) rfl) (by rfl) B.len_ (by decide +kernel) (pa_cons (pe_lc (own := [("k", 4)]) (g := gName 4) rfl nd (pi_range2 rfl B.range (pa_cons (pv 2) (pa_cons (pe_op op_add (pv 2) (pv 6)) pa_nil))) (blkOk_by (N := ["model", "n", "low", "rests", "k", "rounds", "rest", "more"]) (sc := defScope (topS 31)) (by decide +kernel)) (fun _ _ _ _ _ => (pg_name (i := 4) nd rfl (.inl rfl))) (fun _ _ _ _ _ => (pts_one (pt_val (pe_ix (ix_listK (K := K) rfl) (pv 3) (pe_op op_modN (pv 4) (pe_callB (call_lnK (K := K) rfl) (by rfl) B.len_ (by decide +kernel) (pa_cons (pv 3) pa_nil))) (fun _ _ => rfl))))) (fun _ _ _ _ _ => (pv 4))) pa_nil)))
      (pss_one (ps_ret (pe_op op_add (pe_op op_add (pe_bm PySem.F.plainAttrs_list PySem.F.slot_list_count PySem.F.type_list_count (mt_lcountB (K := K) rfl) (pe_ix (ix_tupK (K := K) rfl) (pv 0) pe_int (fun _ _ => rfl)) (pa_cons pe_bl pa_nil)) (pe_op op_mulX (pv 5) (pe_bm PySem.F.plainAttrs_list PySem.F.slot_list_count PySem.F.type_list_count (mt_lcountB (K := K) rfl) (pv 3) (pa_cons pe_bl pa_nil)))) (pv 7)))))))), ?_⟩
    obtain ⟨m, N, B1, R, rfl, hM, hR, hR2, hB2, hbd, q⟩ := h
    obtain ⟨a, b, hm, ha, hb⟩ := id hM
    refine g_st (σ' := [some (.ref m), some (.int N), none, none, none, none, none, none]) rfl ?_
    walk_at "gos"
    refine u_ixT (sqT hm) (v := .ref a) rfl ?_
    walk_at "gos"
    refine u_lenL (sqL ha) ?_
    rw [List.length_map]
    walk_at "gos"
    refine u_ixT (sqT hm) (v := .ref b) rfl ?_
    walk_at "gos"
    (walk_at "new"; rename_i t0 _ H0 e0 h0; walk_at "gos")
    replace q : ∀ H', Same H0 H' → Q (.int (cnt (mem B1 R) N : Nat)) H' := fun H' e => q H' (e0.trans e)
    replace hm := e0 _ _ hm
    replace ha := e0 _ _ ha
    replace hb := e0 _ _ hb
    clear hM h0 e0
    by_cases hle : N ≤ B1.length
    · rw [if_pos (decide_eq_true (by omega))]
      walk_at "gos"
      refine u_rng (by omega) (by omega) fun D hD => ?_
      refine lc_it walk_range (PvL H0 D (bt B1) (fun k => .int (k : Nat))) (lc_start hD) (fun _ _ _ _ => trivial) (fun k y H3 H4 hi pv q6 => ?_) (fun H3 pv => ?_)
      · obtain ⟨rfl, rfl⟩ := q6
        walk_at "gos"
        refine ⟨rfl, ?_⟩
        walk_at "gos"
        rw [show (0 : Int) + (k : Int) = (k : Int) from Int.zero_add _]
        have hk' : k < B1.length := by omega
        refine u_ixT (sqT (pv.1 _ _ hm)) (v := .ref a) rfl ?_
        walk_at "gos"
        refine u_ixL (sqL (pv.1 _ _ ha)) (atI_nat (atB hk')) ?_
        refine ⟨_, rfl, ?_⟩
        cases hb' : bt B1 k with
        | true =>
          rw [if_pos rfl]
          walk_at "gos"
          exact lc_yes hD pv (Same.refl _) hb' rfl (by omega)
        | false =>
          rw [if_neg (by decide)]
          exact lc_no pv (Same.refl _) hb'
      obtain ⟨e3, h3⟩ := pv
      rw [Int.toNat_natCast] at h3
      walk_at "gos"
      refine u_lenL (sqL h3) ?_
      have hgl : (given N (bt B1) fun k => V.int (k : Nat)).length = cnt (bt B1) N := by unfold given; rw [List.length_map, filt_len]
      rw [hgl]
      have := q H3 e3
      rw [cnt_low (by omega), count_take (by omega)] at this
      exact this
    · rw [if_neg (by rw [decide_eq_true_iff]; omega)]
      have hNb : B1.length ≤ N := by omega
      have hsub : (N : Int) - (B1.length : Nat) = ((N - B1.length : Nat) : Int) := by omega
      walk_at "gos"
      rw [hsub]
      refine u_lenL (sqL hb) ?_
      rw [List.length_map]
      walk_at "gos"
      refine g_I (Bd.divX (n := 40) (by omega) (by unfold Bd; omega) (by decide)) ?_
      walk_at "gos"
      rw [hsub]
      walk_at "gos"
      refine u_lenL (sqL hb) ?_
      rw [List.length_map]
      walk_at "gos"
      refine g_I (by omega) ?_
      rw [fdiv_nat, fmod_nat]
      walk_at "gos"
      have hmod := Nat.mod_lt (N - B1.length) hR
      refine ⟨_, _, rfl, ⟨by omega, by omega, by omega, by omega⟩, ?_⟩
      intro D hD
      refine lc_it walk_range (PvL H0 D (fun k => mem B1 R (B1.length + k)) (fun k => .int ((B1.length + k : Nat) : Int))) (lc_start hD) (fun _ _ _ _ => trivial) (fun k y H3 H4 hi pv q6 => ?_) (fun H3 pv => ?_)
      · obtain ⟨rfl, rfl⟩ := q6
        walk_at "gos"
        refine ⟨rfl, ?_⟩
        walk_at "gos"
        rw [show ((B1.length : Nat) : Int) + (k : Int) = ((B1.length + k : Nat) : Int) by omega]
        refine u_lenL (sqL (pv.1 _ _ hb)) ?_
        rw [List.length_map]
        walk_at "gos"
        refine g_I (by omega) ?_
        rw [fmod_nat]
        refine u_ixL (sqL (pv.1 _ _ hb)) (atI_nat (atB (Nat.mod_lt _ hR))) ?_
        refine ⟨_, rfl, ?_⟩
        rw [← mem_from (b := B1)]
        cases hb' : mem B1 R (B1.length + k) with
        | true =>
          rw [if_pos rfl]
          walk_at "gos"
          exact lc_yes hD pv (Same.refl _) hb' rfl (by omega)
        | false =>
          rw [if_neg (by decide)]
          exact lc_no pv (Same.refl _) hb'
      obtain ⟨e3, h3⟩ := pv
      have hrl : (((B1.length : Nat) : Int) + (((N - B1.length) % R.length : Nat) : Int) - (B1.length : Nat)).toNat = (N - B1.length) % R.length := by omega
      rw [hrl] at h3
      walk_at "gos"
      refine u_lenL (sqL h3) ?_
      have hgl : (given ((N - B1.length) % R.length) (fun k => mem B1 R (B1.length + k)) fun k => V.int ((B1.length + k : Nat) : Int)).length = cnt (fun k => mem B1 R (B1.length + k)) ((N - B1.length) % R.length) := by unfold given; rw [List.length_map, filt_len]
      rw [hgl]
      walk_at "gos"
      refine u_ixT (sqT (e3 _ _ hm)) (v := .ref a) rfl ?_
      walk_at "gos"
      refine ⟨.inl ⟨rfl, _, sqL (e3 _ _ ha)⟩, ?_⟩
      walk_at "gos"
      refine u_cntL (sqL (e3 _ _ ha)) ?_
      walk_at "gos"
      refine ⟨.inl ⟨rfl, _, sqL (e3 _ _ hb)⟩, ?_⟩
      walk_at "gos"
      refine u_cntL (sqL (e3 _ _ hb)) ?_
      have hcr : R.count true ≤ R.length := List.count_le_length
      have hdiv : (N - B1.length) / R.length ≤ N := Nat.le_trans (Nat.div_le_self _ _) (Nat.sub_le _ _)
      have hbd1 : Bd 300 (((N - B1.length) / R.length : Nat) : Int) := by
        unfold Bd at hbd ⊢
        rw [Int.natAbs_natCast] at hbd ⊢
        exact Nat.lt_of_le_of_lt hdiv hbd
      refine g_I (cmul_small (n := 300) (m := 40) hbd1 (by unfold Bd; omega)) ?_
      have := q H3 e3
      rw [cnt_far hR hNb] at this
      rw [Int.natCast_add, Int.natCast_add, Int.natCast_mul] at this
      walk_at "gos"
      exact this
theorem eq_bl {a b : Bool} {H : Hp} {Q : VK} (q : Q (.bl (a == b)) H) : rEq (.bl a) (.bl b) H Q := ⟨rfl, by
  have e : decide (V.bl a = V.bl b) = (a == b) := by cases a <;> cases b <;> rfl
  rw [e]; exact q⟩
theorem dec_at {k a : Nat} : decide ((0 : Int) + (k : Int) = (a : Int)) = decide (k = a) := by
  by_cases h : k = a
  · rw [decide_eq_true h, decide_eq_true (by omega)]
  · rw [decide_eq_false h, decide_eq_false (by omega)]
def spRestsOf : Sp := fun vs H Q _ => ∃ (p c : Addr) (m n : Nat), vs = [.ref p, .int m] ∧ Pen H p c n ∧ n + 3000 < 2 ^ 40 ∧ 3 ≤ m ∧ m ≤ 720 ∧
  ∀ l (R : List Bool) H', SameD H H' → Pen H' p c (n + 20) → H' l = some (.lst (R.map V.bl)) → R.length = m → LP R R.length → (∃ k, k < m ∧ bt R k = true) → Q (.ref l) H'
theorem sc__law_rests_of : FnScope ["pen", "m", "at", "way", "k", "found", "row", "d"] ["pen", "m"] (defScope (topS 27)) := ⟨rfl, rfl, rfl, by decide +kernel, rfl, by decide +kernel, by decide +kernel⟩
theorem ok__law_rests_of (B : Bn mg) (G__law_draw : CallF P w K mg base "_law_draw" ["pen", "many"] 2 spDraw) {f : Addr} {fd : FuncData} (F : Fun K "_law_rests_of" "_law_rests_of" (topS 27) f fd) : FnOk P w K mg base (L2.CX P w) 3 f fd ["pen", "m"] spRestsOf := by
  have nd := sc__law_rests_of.nd
  refine F.okX sc__law_rests_of (fun vs H Q E h => ?_) (fun cdv A outer s H vs Q E hr h => ?_)
  · obtain ⟨p, c, m, n, rfl, _⟩ := h
    rfl
  · refine ⟨_, (pss_cons (ps_asg (pe_tup (pa_cons (pe_callF G__law_draw (hr.mono (by decide)) rfl passL (pa_cons (pv 0) (pa_cons (pv 1) pa_nil))) (pa_cons (pe_callF G__law_draw (hr.mono (by decide)) rfl passL (pa_cons (pv 0) (pa_cons pe_int pa_nil))) pa_nil))) (pg_tupK (K := K) (n := 2) rfl rfl (pgs_cons (pg_name (i := 2) nd rfl (.inr rfl)) (pgs_cons (pg_name (i := 3) nd rfl (.inr rfl)) pgs_nil))))
      (pss_cons (ps_if (pt_cmpR op_lt (pv 3) pe_int (nomark _)) (pss_one (ps_ret (pe_lc (own := [("k", 4)]) (g := gName 4) (tt := tYes) rfl nd (pi_range1 rfl B.range (pa_cons (pv 1) pa_nil)) (blkOk_by (N := ["pen", "m", "at", "way", "k", "found", "row", "d"]) (sc := defScope (topS 27)) (by decide +kernel)) (fun _ _ _ _ _ => (pg_name (i := 4) nd rfl (.inl rfl))) (fun _ _ _ _ _ => pts_nil) (fun _ _ _ _ _ => (pe_cmpR op_eq (pe_cmpR op_eq (pv 4) (pv 2) (nomark _)) (pe_cmpR op_eq (pv 3) pe_int (nomark _)) (nomark _)))))) pss_nil)
      (pss_cons (ps_set (i := 5) nd rfl (.inr rfl) (pe_lc (own := [("k", 4)]) (g := gName 4) (tt := tYes) rfl nd (pi_range1 rfl B.range (pa_cons pe_int pa_nil)) (blkOk_by (N := ["pen", "m", "at", "way", "k", "found", "row", "d"]) (sc := defScope (topS 27)) (by decide +kernel)) (fun _ _ _ _ _ => (pg_name (i := 4) nd rfl (.inl rfl))) (fun _ _ _ _ _ => pts_nil) (fun _ _ _ _ _ => (pe_cmpR op_eq (pe_callF G__law_draw (hr.mono (by decide)) rfl passL (pa_cons (pv 0) (pa_cons pe_int pa_nil))) pe_int (nomark _)))))
      (pss_cons (ps_setLc (i := 6) (own := [("k", 4)]) (g := gName 4) (tt := tYes) rfl nd rfl rfl (sw_true rfl rfl rfl (by decide +kernel)) (pi_range1 rfl B.range (pa_cons (pv 1) pa_nil)) (blkOk_by (N := ["pen", "m", "at", "way", "k", "found", "row", "d"]) (sc := defScope (topS 27)) (by decide +kernel)) (fun _ _ _ _ _ => (pg_name (i := 4) nd rfl (.inl rfl))) (fun _ _ _ _ _ => pts_nil) (fun _ _ _ _ _ => (pe_or (pe_cmpR op_eq (pv 4) (pv 2) (nomark _)) (pe_one (pe_and (pe_cmpR op_lt (pe_op op_modN (pv 4) pe_int) pe_int (nomark _)) (pe_and (pe_ix (ix_listK (K := K) rfl) (pv 5) (pe_op op_modN (pv 4) pe_int) (fun _ _ => rfl)) (pe_one (pe_cmpR op_lt (pv 4) (pv 2) (nomark _)))))))))
      (pss_cons (ps_for (passes_of rfl) rfl (pi_range2 rfl B.range (pa_cons pe_int (pa_cons (pe_op op_add (pe_op op_fdivX (pv 1) pe_int) pe_int) pa_nil))) (pg_name (i := 7) nd rfl (.inl rfl)) (pss_one (ps_if (PW.pt (pw_and (pt_cmpR op_eq (pe_op op_modN (pv 1) (pv 7)) pe_int (nomark _)) (pw_and1 (pt_cmpR (op_eqDK (K := K) rfl hr.units) (pv 6) (pe_op op_rep (pe_slice (sl_listK (K := K) rfl) (pv 6) po_none (po_some (pv 7))) (pe_op op_fdivX (pv 1) (pv 7))) (nomark _))))) (pss_one (ps_ret (pe_lc (own := [("k", 4)]) (g := gName 4) (tt := tYes) rfl nd (pi_range1 rfl B.range (pa_cons (pv 1) pa_nil)) (blkOk_by (N := ["pen", "m", "at", "way", "k", "found", "row", "d"]) (sc := defScope (topS 27)) (by decide +kernel)) (fun _ _ _ _ _ => (pg_name (i := 4) nd rfl (.inl rfl))) (fun _ _ _ _ _ => pts_nil) (fun _ _ _ _ _ => (pe_cmpR op_eq (pv 4) (pv 2) (nomark _)))))) pss_nil)))
      (pss_one (ps_ret (pv 6)))))))), ?_⟩
    obtain ⟨p, c, m, n, rfl, hp, hn, hm3, hm, q⟩ := h
    refine g_st (σ' := [some (.ref p), some (.int m), none, none, none, none, none, none]) rfl ?_
    have rowAt : ∀ {g : Nat → Bool} {k : Nat}, k < m → bt ((List.range m).map g) k = g k := fun {g k} hk => by rw [bt_in (by rw [List.length_map, List.length_range]; exact hk), List.getElem_map, List.getElem_range]
    walk_at "gos"
    refine ⟨p, c, _, n, rfl, hp, by omega, by omega, by omega, fun r1 H1 h0 h1 e1 hp1 => ?_⟩
    obtain ⟨at_, rfl⟩ := Int.eq_ofNat_of_zero_le h0
    have hat : at_ < m := by omega
    walk_at "gos"
    refine ⟨p, c, _, n + 1, rfl, hp1, by omega, by decide, by decide, fun way H2 h2 h3 e2 hp2 => ?_⟩
    walk_at "gos"
    have e02 := e1.trans e2
    (walk_at "new"; rename_i t0 _ H3 e3 h3'; walk_at "gos")
    have e03 := e02.trans e3.d
    have hp3 := hp2.same e3
    clear e1 hp1 e2 hp2 h3' e3 e02
    refine g_itd (fun hw => ?_) (fun hw => ?_)
    · walk_at "gos"
      refine u_rng (by omega) (by omega) fun D hD => ?_
      refine lc_it walk_range (PvL H3 D (fun _ => true) (fun k => .bl (decide (k = at_) == decide (way = 0)))) (lc_start hD) (fun _ _ _ _ => trivial) (fun k y H4 H5 hi pv q6 => ?_) (fun H4 pv => ?_)
      · obtain ⟨rfl, rfl⟩ := q6
        walk_at "gos"
        refine ⟨rfl, ?_⟩
        walk_at "gos"
        refine eq_bl ?_
        exact lc_yes hD pv (Same.refl _) rfl (by rw [dec_at]) (by omega)
      obtain ⟨e4, h4⟩ := pv
      rw [given_all, Int.toNat_natCast] at h4
      walk_at "gos"
      obtain ⟨R, hRd⟩ : ∃ R, R = (List.range m).map fun k => (decide (k = at_) == decide (way = 0)) := ⟨_, rfl⟩
      have hRl : R.length = m := by rw [hRd, List.length_map, List.length_range]
      have hRa : ∀ k, k < m → bt R k = (decide (k = at_) == decide (way = 0)) := fun k hk => by rw [hRd]; exact rowAt hk
      refine q D R H4 (e03.trans e4.d) ((hp3.same e4).mono (by omega)) (by rw [h4, hRd, List.map_map]; rfl) hRl (lp_hot hat hRl hRa) ?_
      by_cases h0 : way = 0
      · exact ⟨at_, hat, by rw [hRa _ hat, decide_eq_true rfl, decide_eq_true h0]; rfl⟩
      · by_cases h1 : at_ = 0
        · exact ⟨1, by omega, by rw [hRa _ (by omega), decide_eq_false (by omega), decide_eq_false h0]; rfl⟩
        · exact ⟨0, by omega, by rw [hRa _ (by omega), decide_eq_false (by omega), decide_eq_false h0]; rfl⟩
    · walk_at "gos"
      refine u_rng (by omega) (by omega) fun D hD => ?_
      refine lc_it walk_range (fun i H' => SameD H3 H' ∧ Pen H' p c (n + 2 + i) ∧ ∃ bs : List Bool, H' D = some (.lst (bs.map V.bl)) ∧ bs.length = i) ?_ (fun _ _ _ _ => trivial) (fun i x H4 H5 hi q2 y => ?_) (fun H4 q2 => ?_)
      · exact ⟨(same_new hD).d, (hp3.same (same_new hD)).mono (by omega), [], upd_same, rfl⟩
      · obtain ⟨e4, hp4, bs, hbs, hbl⟩ := q2
        obtain ⟨rfl, rfl⟩ := y
        walk_at "gos"
        refine ⟨rfl, ?_⟩
        walk_at "gos"
        refine ⟨p, c, _, _, rfl, hp4, by omega, by decide, by decide, fun z H6 _ _ e6 hp6 => ?_⟩
        walk_at "gos"
        refine ⟨bs.map V.bl, e6.lst hbs, by rw [sizeLine_eq, List.length_map]; omega, SameD.mut (e4.trans e6) hD, ?_, bs ++ [decide (z = 0)], ?_, by simp [hbl]⟩
        · exact (hp6.mono (by omega)).upd (hp3.ne hD).1 (hp3.ne hD).2
        · rw [upd_same, List.map_append]; rfl
      obtain ⟨e4, hp4, bs, hbs, hbl⟩ := q2
      have e04 := e03.trans e4
      have hbl : bs.length = 12 := hbl
      have hp4 : Pen H4 p c (n + 2 + 12) := hp4
      clear e03 hp3 e4
      walk_at "gos"
      refine u_rng (by omega) (by omega) fun D2 hD2 => ?_
      refine lc_it walk_range (PvL H4 D2 (fun _ => true) (fun k => .bl (decide (k = at_) || (decide (k % 13 < 12) && (bt bs (k % 13) && decide (k < at_)))))) (lc_start hD2) (fun _ _ _ _ => trivial) (fun k y H5 H6 hi pv q6 => ?_) (fun H5 pv => ?_)
      · obtain ⟨rfl, rfl⟩ := q6
        walk_at "gos"
        refine ⟨rfl, ?_⟩
        walk_at "gos"
        rw [dec_at]
        by_cases hk : k = at_
        · rw [if_pos (decide_eq_true hk)]
          exact lc_yes hD2 pv (Same.refl _) rfl (by rw [decide_eq_true hk]; rfl) (by omega)
        rw [if_neg (by rw [decide_eq_true_iff]; exact hk)]
        have hki : (0 : Int) + (k : Int) = (k : Nat) := by omega
        rw [hki]
        walk_at "gos"
        refine g_I (by omega) ?_
        rw [show (13 : Int) = ((13 : Nat) : Int) from rfl, fmod_nat]
        walk_at "gos"
        have hk13 : decide (((k % 13 : Nat) : Int) < 12) = decide (k % 13 < 12) := by
          by_cases h : k % 13 < 12
          · rw [decide_eq_true h, decide_eq_true (by omega)]
          · rw [decide_eq_false h, decide_eq_false (by omega)]
        rw [hk13]
        by_cases h13 : k % 13 < 12
        · rw [if_pos (decide_eq_true h13)]
          walk_at "gos"
          refine g_I (by omega) ?_
          rw [fmod_nat]
          refine u_ixL (sqL (pv.1 _ _ hbs)) (atI_nat (atB (by omega))) ?_
          walk_at "gos"
          cases hb : bt bs (k % 13) with
          | true =>
            rw [if_pos rfl]
            walk_at "gos"
            exact lc_yes hD2 pv (Same.refl _) rfl (by
              show _ = V.bl (decide (k = at_) || (decide (k % 13 < 12) && (bt bs (k % 13) && decide (k < at_))))
              rw [decide_eq_false hk, decide_eq_true h13, hb]
              by_cases h : k < at_
              · rw [decide_eq_true h, decide_eq_true (by omega)]; rfl
              · rw [decide_eq_false h, decide_eq_false (by omega)]; rfl) (by omega)
          | false =>
            rw [if_neg (by decide)]
            exact lc_yes hD2 pv (Same.refl _) rfl (by
              show _ = V.bl (decide (k = at_) || (decide (k % 13 < 12) && (bt bs (k % 13) && decide (k < at_))))
              rw [decide_eq_false hk, decide_eq_true h13, hb]; rfl) (by omega)
        · rw [if_neg (by rw [decide_eq_true_iff]; exact h13)]
          exact lc_yes hD2 pv (Same.refl _) rfl (by
              show _ = V.bl (decide (k = at_) || (decide (k % 13 < 12) && (bt bs (k % 13) && decide (k < at_))))
              rw [decide_eq_false hk, decide_eq_false h13]; rfl) (by omega)
      obtain ⟨e5, h5⟩ := pv
      rw [given_all, Int.toNat_natCast] at h5
      obtain ⟨R, hRd⟩ : ∃ R, R = (List.range m).map fun k => (decide (k = at_) || (decide (k % 13 < 12) && (bt bs (k % 13) && decide (k < at_)))) := ⟨_, rfl⟩
      have hRl : R.length = m := by rw [hRd, List.length_map, List.length_range]
      have hRat : bt R at_ = true := by rw [hRd, rowAt hat, decide_eq_true rfl]; rfl
      have h5' : H5 D2 = some (.lst (R.map V.bl)) := by rw [h5, hRd, List.map_map]; rfl
      have e05 := e04.trans e5.d
      have hp5 := hp4.same e5
      clear h5 e5 hbs hbl hRd e04 hp4
      walk_at "gos"
      refine g_I (Bd.divX (n := 40) (by omega) (by unfold Bd; omega) (by decide)) ?_
      rw [show (2 : Int) = ((2 : Nat) : Int) from rfl, fdiv_nat]
      walk_at "gos"
      refine ⟨_, _, rfl, ⟨by omega, by omega, by omega, by omega⟩, ?_⟩
      rw [show (((m / 2 : Nat) : Int) + 1 - 1).toNat = m / 2 by omega]
      refine for_it walk_range (fun i σ' H' => Same H5 H' ∧ (∃ y, σ' = [some (.ref p), some (.int m), some (.int at_), some (.int way), none, some (.ref D), some (.ref D2), y]) ∧ ∀ e, 0 < e → e ≤ i → m % e = 0 → ¬ Rnd R e) ⟨Same.refl _, ⟨_, rfl⟩, fun e h1 h2 => by omega⟩ (fun _ _ _ _ _ => trivial) (fun i y σ' H' H0 hi q2 hy => ?_) (fun σ' H' q2 => ?_)
      · obtain ⟨e6, ⟨y0, rfl⟩, hno⟩ := q2
        obtain ⟨rfl, hy⟩ := hy
        obtain rfl : y = .int ((i + 1 : Nat) : Int) := by rw [hy]; exact congrArg V.int (by omega)
        obtain ⟨k, hk⟩ : ∃ k, k = i + 1 := ⟨_, rfl⟩
        rw [← hk]
        walk_at "gos"
        refine g_I (by omega) ?_
        rw [fmod_nat]
        walk_at "gos"
        by_cases hm' : m % k = 0
        · rw [if_pos (decide_eq_true (by omega))]
          walk_at "gos"
          refine u_sl (sqL (e6 _ _ h5')) fun l H7 _ e7 h7 => ?_
          rw [cut_to, ← List.map_take] at h7
          walk_at "gos"
          refine g_I (Bd.divX (n := 40) (by omega) (by unfold Bd; omega) (by decide)) ?_
          rw [fdiv_nat]
          have hkq : m / k ≤ 720 := Nat.le_trans (Nat.div_le_self _ _) hm
          have hkm : m / k * k = m := Nat.div_mul_cancel (Nat.dvd_of_mod_eq_zero hm')
          have hkle : k ≤ m := by omega
          have htl : (R.take k).length = k := by rw [List.length_take]; omega
          refine ⟨l, _, _, rfl, rfl, h7, Int.le_trans (by decide) (Int.natCast_nonneg (m / k)), Int.lt_of_le_of_lt (Int.ofNat_le.mpr hkq) (by decide), by rw [sizeLine_eq, List.length_map, htl, Int.toNat_natCast, Nat.mul_comm, hkm]; omega, fun pp hpp => ?_⟩
          generalize hX : upd H7 pp _ = H8
          obtain ⟨e8, h8⟩ := news hpp hX
          rw [Int.toNat_natCast, flat_bl] at h8
          have e58 := e6.trans (e7.trans e8)
          refine u_eqLB (sqL (e58 _ _ h5')) (sqL h8) ?_
          walk_at "gos"
          have hmR : R.length % k = 0 := by rw [hRl]; exact hm'
          have hqR : m / k = R.length / k := by rw [hRl]
          by_cases hr' : R = (List.replicate (m / k) (R.take k)).flatten
          · rw [if_pos (decide_eq_true hr')]
            walk_at "gos"
            refine u_rng (by omega) (by omega) fun D3 hD3 => ?_
            refine lc_it walk_range (PvL H8 D3 (fun _ => true) (fun k => .bl (decide (k = at_)))) (lc_start hD3) (fun _ _ _ _ => trivial) (fun j y H9 H10 hj pv q6 => ?_) (fun H9 pv => ?_)
            · obtain ⟨rfl, rfl⟩ := q6
              walk_at "gos"
              refine ⟨rfl, ?_⟩
              walk_at "gos"
              exact lc_yes hD3 pv (Same.refl _) rfl (by rw [dec_at]) (by omega)
            obtain ⟨e9, h9⟩ := pv
            rw [given_all, Int.toNat_natCast] at h9
            walk_at "gos"
            obtain ⟨R2, hR2⟩ : ∃ R2, R2 = (List.range m).map fun k => decide (k = at_) := ⟨_, rfl⟩
            have hRl2 : R2.length = m := by rw [hR2, List.length_map, List.length_range]
            refine q D3 R2 H9 (e05.trans (e58.trans e9).d) ((hp5.same (e58.trans e9)).mono (by omega)) (by rw [h9, hR2, List.map_map]; rfl) hRl2 (lp_hot (b := true) hat hRl2 fun k hk => by rw [hR2, rowAt hk]; cases decide (k = at_) <;> rfl) ⟨at_, hat, by rw [hR2, rowAt hat, decide_eq_true rfl]⟩
          · rw [if_neg (by rw [decide_eq_true_iff]; exact hr')]
            walk_at "gos"
            refine ⟨e58, ⟨_, rfl⟩, fun e h1 h2 h3 => ?_⟩
            by_cases he : e = k
            · rw [he]
              intro hrn
              exact hr' (by rw [hqR]; exact (rnd_iff (by omega) (by omega) hmR).mpr hrn)
            · exact hno e h1 (by omega) h3
        · rw [if_neg (by rw [decide_eq_true_iff]; omega)]
          walk_at "gos"
          refine ⟨e6, ⟨_, rfl⟩, fun e h1 h2 h3 => ?_⟩
          by_cases he : e = k
          · rw [he] at h3; exact absurd h3 hm'
          · exact hno e h1 (by omega) h3
      · obtain ⟨e6, ⟨y0, rfl⟩, hno⟩ := q2
        walk_at "gos"
        refine q D2 R H' (e05.trans e6.d) ((hp5.same e6).mono (by omega)) (e6 _ _ h5') hRl (lp_self (by omega) fun e h1 h2 h3 => ?_) ⟨at_, hat, hRat⟩
        rw [hRl] at h2 h3
        obtain ⟨qq, hqq⟩ := Nat.dvd_of_mod_eq_zero h3
        have hq2 : 2 ≤ qq := by
          by_cases h2' : 2 ≤ qq
          · exact h2'
          · have : qq = 0 ∨ qq = 1 := by omega
            rcases this with rfl | rfl <;> simp at hqq <;> omega
        have hm2 : e * 2 ≤ m := by rw [hqq]; exact Nat.mul_le_mul_left e hq2
        exact hno e h1 (by omega) h3
end
end Ev

end
section
open L2 in
local macro_rules | `(tactic| walk_at "gx") => `(tactic| first
  | ((with_reducible show tVar _ _ _ _); refine g_var rfl ?_)
  | with_reducible refine g_c ?_
  | with_reducible refine g_op ?_
  | with_reducible refine g_cons ?_
  | with_reducible refine g_nil ?_
  | with_reducible refine g_test ?_
  | with_reducible refine g_blp ?_
  | with_reducible refine g_asg ?_
  | (with_reducible refine g_name ?_; (try simp only [List.set_cons_zero, List.set_cons_succ]))
  | with_reducible refine g_call ?_
  | with_reducible refine g_cb ?_
  | with_reducible refine g_I0 ?_
  | with_reducible refine g_U ?_
  | with_reducible refine g_eqI ?_
  | with_reducible refine g_neI ?_
  | with_reducible refine g_if ?_
  | with_reducible refine g_ret ?_
  | with_reducible refine g_retN ?_
  | with_reducible refine g_next ?_
  | with_reducible refine g_drop ?_
  | with_reducible refine g_un ?_
  | with_reducible refine g_tb ?_
  | with_reducible refine g_tup ?_
  | with_reducible refine g_lst ?_
  | with_reducible refine g_and ?_
  | with_reducible refine g_or ?_
  | with_reducible refine g_not ?_
  | with_reducible refine g_andV ?_
  | with_reducible refine g_orV ?_
  | with_reducible refine g_notV ?_
  | with_reducible refine g_ifE ?_
  | with_reducible refine g_fld ?_
  | with_reducible refine g_tt ?_
  | with_reducible refine g_ff ?_
  | with_reducible refine g_ntt ?_
  | with_reducible refine g_nff ?_
  | with_reducible refine g_for ?_
  | with_reducible refine g_list ?_
  | with_reducible refine g_tupI ?_
  | with_reducible refine g_rng1 ?_
  | with_reducible refine g_rng2 ?_
  | with_reducible refine g_enumA ?_
  | with_reducible refine g_rev ?_
  | with_reducible refine g_lc ?_
  | with_reducible refine g_gcons ?_
  | with_reducible refine g_gnil ?_
  | with_reducible refine g_yes ?_
  | with_reducible refine g_sl ?_
  | with_reducible refine g_nopart ?_
  | with_reducible refine g_part ?_
  | with_reducible refine g_int ?_
  | with_reducible refine g_dget ?_
  | with_reducible refine g_dput ?_
  | with_reducible refine g_raiseX ?_
  | with_reducible refine g_tru ?_
  | with_reducible refine g_sub ?_
  | with_reducible refine g_isN ?_
  | with_reducible refine g_notN ?_
  | with_reducible refine g_bm ?_
  | with_reducible refine L2.g_bm0 ?_
  | with_reducible refine g_pair ?_
  | with_reducible refine g_pair0 ?_
  | with_reducible refine u_int1 ?_
  | with_reducible refine g_chain ?_
  | with_reducible refine L2.g_sfld ?_
  | (with_reducible refine g_par3 ?_)
  | (with_reducible refine g_three ?_; (try simp only [List.set_cons_zero, List.set_cons_succ]))
  | ((with_reducible apply L2.g_tupT); walk_at "up"; rfl)
  | (with_reducible refine g_par ?_)
  | (with_reducible refine g_two ?_; (try simp only [List.set_cons_zero, List.set_cons_succ]))
  )
local macro_rules | `(tactic| walk_at "go") => `(tactic| first | walk_at "gx" | with_reducible refine L2.g_seq ?_)
local macro_rules | `(tactic| walk_at "gou") => `(tactic| repeat (walk_at "gx"))
local macro_rules | `(tactic| walk_at "gos") => `(tactic| repeat (walk_at "go"))
local macro_rules | `(tactic| walk_at "sl") => `(tactic| first
  | assumption
  | exact L2.Same.l (by assumption)
  | exact L2.SameD.l (by assumption)
  | exact L2.extN_l (by assumption))
local macro_rules | `(tactic| walk_at "up") => `(tactic| first
  | assumption
  | ((with_reducible apply L2.SameL.lst); walk_at "sl"; walk_at "up")
  | ((with_reducible apply L2.SameL.tupA); walk_at "sl"; walk_at "up")
  | ((with_reducible apply L2.SameL.ins); walk_at "sl"; walk_at "up")
  | ((with_reducible apply Ev.PB.l); walk_at "sl"; walk_at "up")
  | ((with_reducible apply Ev.IsP.l); walk_at "sl"; walk_at "up")
  | ((with_reducible apply L2.sqL); walk_at "up")
  | ((with_reducible apply L2.sqT); walk_at "up")
  | ((with_reducible apply L2.SameL.seq); walk_at "sl"; walk_at "up")
  | ((with_reducible apply Ev.Pen.same); assumption; walk_at "up")
  | ((with_reducible apply Ev.Pen.extN); assumption; walk_at "up")
  | ((with_reducible apply L2.tabs_s); assumption; walk_at "up")
  | ((with_reducible apply L2.tabs_dd); assumption; walk_at "up")
  | ((with_reducible apply Or.inl); walk_at "up")
  | ((with_reducible apply Or.inr); walk_at "up"))
local macro_rules | `(tactic| walk_at "new") => `(tactic| (
  first
    | refine ⟨L2.size_ok (by rfl), fun p hp => ?_⟩
    | refine fun p hp => ?_
  generalize hX : L2.upd _ p _ = H1
  obtain ⟨e, h⟩ := L2.news hp hX
  clear hX))
local macro_rules | `(tactic| walk_at "o") => `(tactic| first
  | ((with_reducible apply Ev.o_add); walk_at "up"; walk_at "up"; rfl; rfl; rfl)
  | ((with_reducible apply Ev.o_sub); walk_at "up"; walk_at "up"; rfl; rfl; rfl)
  | ((with_reducible apply Ev.o_mul); walk_at "up"; walk_at "up"; rfl; rfl; rfl)
  | ((with_reducible apply Ev.o_addI); walk_at "up"; assumption; rfl; rfl; rfl)
  | ((with_reducible apply Ev.o_subI); walk_at "up"; assumption; rfl; rfl; rfl)
  | ((with_reducible apply Ev.o_mulI); walk_at "up"; assumption; rfl; rfl; rfl)
  | ((with_reducible apply Ev.o_radd); walk_at "up"; assumption; rfl; rfl; rfl)
  | ((with_reducible apply Ev.o_rsub); walk_at "up"; assumption; rfl; rfl; rfl)
  | ((with_reducible apply Ev.o_rmul); walk_at "up"; assumption; rfl; rfl; rfl)
  | ((with_reducible apply Ev.o_neg); walk_at "up"; rfl; rfl; rfl))
local macro_rules | `(tactic| walk_at "eq") => `(tactic| ((with_reducible apply Ev.u_ownB); assumption; walk_at "up"; walk_at "up"; (focus (intro k; first | rfl | exact Pl.e_add | exact Pl.e_sub | exact Pl.e_mul | exact Pl.e_rsub | exact Pl.e_rsub2))))
local macro_rules | `(tactic| walk_at "isp") => `(tactic| (apply Ev.u_isB; walk_at "up"; walk_at "up"; rfl; rfl))

/-! What is asked of a set (k86). -/
namespace Wp
theorem cnt_mono3 {f : Nat → Bool} {a b : Nat} (h : a ≤ b) : cnt f a ≤ cnt f b := by
  obtain ⟨c, rfl⟩ := Nat.exists_eq_add_of_le h
  rw [cnt_add c]
  omega
theorem cnt_nil {f : Nat → Bool} {b : Nat} (hn : ∀ j, j < b → f j = false) : cnt f b = 0 := by
  induction b with
  | zero => rfl
  | succ b ih => rw [cnt_succ, ih fun j hj => hn j (by omega), if_neg (by rw [hn b (by omega)]; decide)]
theorem cnt_le2 {f : Nat → Bool} (n : Nat) : cnt f n ≤ n := by
  induction n with
  | zero => exact Nat.le_refl _
  | succ n ih => rw [cnt_succ]; split <;> omega
/-- members beyond each number -/
theorem cnt_inf {B R : List Bool} {k : Nat} (hR : k < R.length) (hk : bt R k = true) : ∀ j, ∃ n, B.length ≤ n ∧ mem B R n = true ∧ j ≤ cnt (mem B R) n ∧ n ≤ B.length * R.length + k + j * R.length
  | 0 => ⟨B.length * R.length + k, by have := Nat.le_mul_of_pos_right B.length (show 0 < R.length by omega); omega, by
      unfold mem
      have := Nat.le_mul_of_pos_right B.length (show 0 < R.length by omega)
      rw [if_neg (by omega), Nat.mul_comm, Nat.mul_add_mod, Nat.mod_eq_of_lt hR]; exact hk, Nat.zero_le _, by omega⟩
  | j + 1 => by
    obtain ⟨n, h1, h2, h3, h4⟩ := cnt_inf (B := B) hR hk j
    refine ⟨n + R.length, by omega, by rw [mem_per n h1]; exact h2, ?_, by rw [Nat.add_mul]; omega⟩
    have := cnt_mono3 (f := mem B R) (show n + 1 ≤ n + R.length by omega)
    rw [cnt_succ, if_pos h2] at this
    omega
end Wp
namespace Ev
open PySem PySem.Spec PyProof.Rows L2 Wp
theorem g_methV {C : Addr} {m : Str} {sp : Sp} {E : XK} {ta : TE} {t : TA} {σ : L2.St} {H : Hp} {Q : VK} (q : ta σ H fun x H1 => ∃ a dx fs, x = .ref a ∧ H1 a = some (.ins C dx fs) ∧ fs.lookup m = none ∧ t σ H1 fun vs H2 => sp (x :: (vs ++ [])) H2 Q E) : tMeth C m sp [] E ta t σ H Q := q
theorem g_propV {C : Addr} {sp : Sp} {E : XK} {ta : TE} {σ : L2.St} {H : Hp} {Q : VK} (q : ta σ H fun x H1 => ∃ a dx fs, x = .ref a ∧ H1 a = some (.ins C dx fs) ∧ sp (.ref a :: []) H1 Q E) : tProp C sp [] E ta σ H Q := q
theorem wfn_ins {H : Hp} {x C : Addr} {f : Nat → Bool} {m : Str} (hm : m = "how_many" ∨ m = "member" ∨ m = "first_from" ∨ m = "last_to") : WFN H x C f → ∃ dx fs, H x = some (.ins C dx fs) ∧ fs.lookup m = none := fun ⟨bl, rl, ⟨dx, t1, t2, hx, _⟩, _⟩ => ⟨dx, _, hx, by rcases hm with rfl | rfl | rfl | rfl <;> rfl⟩
theorem wfn_ins0 {H : Hp} {x C : Addr} {f : Nat → Bool} : WFN H x C f → ∃ dx fs, H x = some (.ins C dx fs) := fun ⟨bl, rl, ⟨dx, t1, t2, hx, _⟩, _⟩ => ⟨dx, _, hx⟩
theorem firstV_pl {f : Nat → Bool} {n : Int} {r : V} : FirstV f n r → r = .non ∨ ∃ k : Int, r = .int k
  | .inl h => .inl h.1
  | .inr ⟨k, h, _⟩ => .inr ⟨k, h⟩
theorem lastV_pl {f : Nat → Bool} {n : Int} {r : V} : LastV f n r → r = .non ∨ ∃ k : Int, r = .int k
  | .inl h => .inl h.1
  | .inr ⟨k, h, _⟩ => .inr ⟨k, h⟩
theorem ne_self {r : V} {H : Hp} {Q : VK} (h : r = .non ∨ ∃ k : Int, r = .int k) (q : Q (.bl false) H) : rNe r r H Q := by
  rcases h with rfl | ⟨k, rfl⟩
  · exact ⟨rfl, by simpa using q⟩
  · exact ⟨rfl, by simpa using q⟩
theorem eq_self' {r : V} {H : Hp} {Q : VK} (h : r = .non ∨ ∃ k : Int, r = .int k) (q : Q (.bl true) H) : rEq r r H Q := by
  rcases h with rfl | ⟨k, rfl⟩
  · exact ⟨rfl, by simpa using q⟩
  · exact ⟨rfl, by simpa using q⟩
theorem ne_bb {b : Bool} {H : Hp} {Q : VK} (q : Q (.bl false) H) : rNe (.bl b) (.bl b) H Q := ⟨rfl, by simpa using q⟩
section
variable {P : Program} {w : World} {K : PySem.W.Frag} {mg : Str → Option Value} {base : Heap}
def spAsked (C : Addr) : Sp := fun vs H Q _ => ∃ (p c x m : Addr) (n : Nat) (B R : List Bool), vs = [.ref p, .ref x, .ref m] ∧ Pen H p c n ∧ n + 3000 < 2 ^ 40 ∧ WFN H x C (mem B R) ∧ IsM H m B R ∧ R.length ≤ 720 ∧ B.length ≤ 10000 ∧ (∃ k, k < R.length ∧ bt R k = true) ∧
  ∀ H', SameD H H' → Pen H' p c (n + 50) → Q (.bl true) H'
theorem sc__law_asked_right : FnScope ["pen", "w", "model", "s", "m", "far", "n", "due", "low", "high", "first", "k", "told"] ["pen", "w", "model"] (defScope (topS 33)) := ⟨rfl, rfl, rfl, by decide +kernel, rfl, by decide +kernel, by decide +kernel⟩
theorem ok__law_asked_right {C_Where CP CN CM : Addr} (B : Bn mg) (c_Where : Cls K C_Where) (sf_Where : PySem.W.selfFirst K C_Where = true)
    (OIN_Where : OwnF P w K mg base C_Where "__contains__" ["self", "n"] 4 (spInW K C_Where)) (P_Where_least : PropF P w K mg base C_Where "least" 6 (spLeastW K C_Where))
    (G_Where_how_many : MethF P w K mg base C_Where "how_many" ["self", "low", "high"] 5 (spHowMany K C_Where CP)) (G_Where_member : MethF P w K mg base C_Where "member" ["self", "k"] 5 (spMember K C_Where CN CM))
    (G_Where_first_from : MethF P w K mg base C_Where "first_from" ["self", "n"] 5 (spFirst K C_Where CP)) (G_Where_last_to : MethF P w K mg base C_Where "last_to" ["self", "n"] 5 (spLast K C_Where CP))
    (G__law_draw : CallF P w K mg base "_law_draw" ["pen", "many"] 2 spDraw) (G__law_in : CallF P w K mg base "_law_in" ["model", "n"] 1 (spIn K)) (G__law_first : CallF P w K mg base "_law_first" ["model", "n"] 3 (spFirstI K)) (G__law_last : CallF P w K mg base "_law_last" ["model", "n"] 3 (spLastI K)) (G__law_below : CallF P w K mg base "_law_below" ["model", "n"] 3 (spBelowM K))
    {f : Addr} {fd : FuncData} (F : Fun K "_law_asked_right" "_law_asked_right" (topS 33) f fd) : FnOk P w K mg base (L2.CX P w) 8 f fd ["pen", "w", "model"] (spAsked C_Where) := by
  have nd := sc__law_asked_right.nd
  refine F.okX sc__law_asked_right (fun vs H Q E h => ?_) (fun cdv A outer s H vs Q E hr h => ?_)
  · obtain ⟨p, c, x, m, n, B1, R, rfl, _⟩ := h
    rfl
  · refine ⟨_, (pss_cons (ps_par (i := 3) (j := 4) rfl nd rfl rfl (by decide) rfl rfl (pa_cons (pe_callB (call_lnK (K := K) rfl) (by rfl) B.len_ (by decide +kernel) (pa_cons (pe_ix (ix_tupK (K := K) rfl) (pv 2) pe_int (fun _ _ => rfl)) pa_nil)) (pa_cons (pe_callB (call_lnK (K := K) rfl) (by rfl) B.len_ (by decide +kernel) (pa_cons (pe_ix (ix_tupK (K := K) rfl) (pv 2) pe_int (fun _ _ => rfl)) pa_nil)) pa_nil)) (by rfl))
      (pss_cons (ps_set (i := 5) nd rfl (.inl rfl) (pe_op op_add (pe_op op_pow pe_int pe_int) (pe_callF G__law_draw (hr.mono (by decide)) rfl passL (pa_cons (pv 0) (pa_cons (pe_op op_pow pe_int pe_int) pa_nil)))))
      (pss_cons (ps_for (passes_of rfl) rfl (pi_listK (K := K) rfl (pe_lst (pa_cons pe_int (pa_cons (pv 3) (pa_cons (pe_op op_sub (pv 3) pe_int) (pa_cons (pe_op op_add (pv 3) (pe_callF G__law_draw (hr.mono (by decide)) rfl passL (pa_cons (pv 0) (pa_cons (pv 4) pa_nil)))) (pa_cons (pv 5) (pa_cons (pe_op op_sub (pe_un un_neg pe_int) (pe_callF G__law_draw (hr.mono (by decide)) rfl passL (pa_cons (pv 0) (pa_cons pe_int pa_nil)))) (pa_cons (pe_callF G__law_draw (hr.mono (by decide)) rfl passL (pa_cons (pv 0) (pa_cons (pe_op op_add (pv 3) pe_int) pa_nil))) pa_nil))))))))) (pg_name (i := 6) nd rfl (.inl rfl)) (pss_cons (ps_set (i := 7) nd rfl (.inl rfl) (pe_ifExp (pt_cmpR op_lt (pv 6) pe_int (nomark _)) pe_non (pe_callF G__law_last (hr.mono (by decide)) rfl passL (pa_cons (pv 2) (pa_cons (pv 6) pa_nil)))))
      (pss_one (ps_if (PW.pt (pw_or (pt_cmpR op_ne (pe_methF c_Where G_Where_first_from (pv 1) (hr.mono (by decide)) passL (pa_cons (pv 6) pa_nil)) (pe_callF G__law_first (hr.mono (by decide)) rfl passL (pa_cons (pv 2) (pa_cons (pv 6) pa_nil))) (nomark _)) (pw_or (pt_cmpR op_ne (pe_methF c_Where G_Where_last_to (pv 1) (hr.mono (by decide)) passL (pa_cons (pv 6) pa_nil)) (pv 7) (nomark _)) (pw_or1 (pt_cmpR op_ne (pe_cmpR (op_inO OIN_Where (hr.mono (by decide)) passL) (pv 6) (pv 1) rfl) (pe_callF G__law_in (hr.mono (by decide)) rfl passL (pa_cons (pv 2) (pa_cons (pv 6) pa_nil))) (nomark _)))))) (pss_one (ps_ret pe_bl)) pss_nil))))
      (pss_cons (ps_par (i := 8) (j := 9) rfl nd rfl rfl (by decide) rfl rfl (pa_cons (pe_callF G__law_draw (hr.mono (by decide)) rfl passL (pa_cons (pv 0) (pa_cons (pe_op op_add (pv 3) (pv 4)) pa_nil))) (pa_cons (pe_op op_add (pv 3) (pe_callF G__law_draw (hr.mono (by decide)) rfl passL (pa_cons (pv 0) (pa_cons (pe_op op_mulX pe_int (pv 4)) pa_nil)))) pa_nil)) (by rfl))
      (pss_cons (ps_if (pt_cmpR op_ne (pe_methF c_Where G_Where_how_many (pv 1) (hr.mono (by decide)) passL (pa_cons (pv 8) (pa_cons (pv 9) pa_nil))) (pe_callB (call_max2 rfl) (by rfl) B.max_ (by decide +kernel) (pa_cons pe_int (pa_cons (pe_op op_sub (pe_callF G__law_below (hr.mono (by decide)) rfl passL (pa_cons (pv 2) (pa_cons (pv 9) pa_nil))) (pe_callF G__law_below (hr.mono (by decide)) rfl passL (pa_cons (pv 2) (pa_cons (pv 8) pa_nil)))) pa_nil))) (nomark _)) (pss_one (ps_ret pe_bl)) pss_nil)
      (pss_cons (ps_if (pt_cmpR op_ne (pe_methF c_Where G_Where_how_many (pv 1) (hr.mono (by decide)) passL (pa_cons (pe_un un_neg pe_int) (pa_cons (pv 5) pa_nil))) (pe_callF G__law_below (hr.mono (by decide)) rfl passL (pa_cons (pv 2) (pa_cons (pv 5) pa_nil))) (nomark _)) (pss_one (ps_ret pe_bl)) pss_nil)
      (pss_cons (ps_set (i := 10) nd rfl (.inl rfl) (pe_callF G__law_first (hr.mono (by decide)) rfl passL (pa_cons (pv 2) (pa_cons pe_int pa_nil))))
      (pss_cons (ps_set (i := 11) nd rfl (.inl rfl) (pe_op op_add (pe_callF G__law_below (hr.mono (by decide)) rfl passL (pa_cons (pv 2) (pa_cons (pv 10) pa_nil))) (pe_callF G__law_draw (hr.mono (by decide)) rfl passL (pa_cons (pv 0) (pa_cons pe_int pa_nil)))))
      (pss_cons (ps_set (i := 12) nd rfl (.inl rfl) (pe_methF c_Where G_Where_member (pv 1) (hr.mono (by decide)) passL (pa_cons (pv 11) pa_nil)))
      (pss_one (ps_ret (pe_and (pe_cmpR op_eq (pe_propF c_Where P_Where_least (pv 1) (hr.mono (by decide)) passL) (pv 10) (nomark _)) (pe_and (pe_callF G__law_in (hr.mono (by decide)) rfl passL (pa_cons (pv 2) (pa_cons (pv 12) pa_nil))) (pe_one (pe_cmpR op_eq (pe_callF G__law_below (hr.mono (by decide)) rfl passL (pa_cons (pv 2) (pa_cons (pv 12) pa_nil))) (pv 11) (nomark _)))))))))))))))), ?_⟩
    obtain ⟨p, c, x, m, n, B1, R, rfl, hp, hn, hw, hM, hR2, hB2, ⟨k0, hk0, hk1⟩, q⟩ := h
    have hR : 0 < R.length := by omega
    have hinf := cnt_inf (B := B1) hk0 hk1
    obtain ⟨a, b, hm, ha, hb⟩ := id hM
    refine g_st (σ' := [some (.ref p), some (.ref x), some (.ref m), none, none, none, none, none, none, none, none, none, none]) rfl ?_
    walk_at "gos"
    refine u_ixT (sqT hm) (v := .ref a) rfl ?_
    walk_at "gos"
    refine u_lenL (sqL ha) ?_
    rw [List.length_map]
    walk_at "gos"
    refine u_ixT (sqT hm) (v := .ref b) rfl ?_
    walk_at "gos"
    refine u_lenL (sqL hb) ?_
    rw [List.length_map]
    refine ⟨_, _, rfl, ?_⟩
    walk_at "gos"
    refine g_I (by unfold CPow; decide) ?_
    walk_at "gos"
    refine g_I (by unfold CPow; decide) ?_
    walk_at "gos"
    refine ⟨p, c, _, n, rfl, hp, by omega, by decide, by decide, fun r1 H1 h0 h1 e1 hp1 => ?_⟩
    obtain ⟨j1, rfl⟩ := Int.eq_ofNat_of_zero_le h0
    walk_at "gos"
    obtain ⟨far, hfar⟩ : ∃ far : Nat, far = 10 ^ 40 + j1 := ⟨_, rfl⟩
    have hfari : (10 : Int) ^ (40 : Int).toNat + (j1 : Nat) = (far : Nat) := by rw [hfar]; simp
    have hj1 : j1 < 10 ^ 6 := by have : (j1 : Int) < (10 : Int) ^ (6 : Int).toNat := h1; have h6 : (10 : Int) ^ (6 : Int).toNat = 1000000 := by decide
                                 omega
    rw [hfari]
    have bdf : ∀ {n : Nat}, n ≤ 10 ^ 41 → Bd 300 (n : Int) := fun {n} h => by
      unfold Bd
      rw [Int.natAbs_natCast]
      exact Nat.lt_of_le_of_lt h (by decide)
    have hfar41 : far ≤ 10 ^ 41 := by
      have : (10 : Nat) ^ 41 = 10 * 10 ^ 40 := by decide
      have : 1000000 ≤ (10 : Nat) ^ 40 := by decide
      omega
    have bfar := bdf hfar41
    clear hfari h0 h1
    walk_at "gos"
    refine ⟨p, c, _, _, rfl, hp1, by omega, by omega, by omega, fun r2 H2 h0 h1 e2 hp2 => ?_⟩
    obtain ⟨j2, rfl⟩ := Int.eq_ofNat_of_zero_le h0
    clear h0 h1
    walk_at "gos"
    refine ⟨p, c, _, _, rfl, hp2, by omega, by decide, by decide, fun r3 H3 h0 h1 e3 hp3 => ?_⟩
    clear h1
    walk_at "gos"
    refine ⟨p, c, _, _, rfl, hp3, by omega, by omega, by omega, fun r4 H4 h0 h1 e4 hp4 => ?_⟩
    obtain ⟨j4, rfl⟩ := Int.eq_ofNat_of_zero_le h0
    clear h0 h1
    walk_at "gos"
    have e04 := e1.trans (e2.trans (e3.trans e4))
    refine ⟨by show 7 ≤ sizeLine; decide, fun l hl => ?_⟩
    generalize hX : upd H4 l _ = H5
    obtain ⟨e5, h5⟩ := news hl hX
    have e05 := e04.trans e5.d
    have hp5 := hp4.same e5
    have hw5 := hw.l e05.l
    have hM5 := hM.l e05.l
    clear hp hw hM hm ha hb e1 hp1 e2 hp2 e3 hp3 e4 hp4 e04 e5 hX hl
    have hints : ∀ (i : Nat) y, [V.int 0, V.int (B1.length : Nat), V.int ((B1.length : Nat) - 1), V.int ((B1.length : Nat) + (j2 : Nat)), V.int (far : Nat), V.int (-1 - r3), V.int (j4 : Nat)][i]? = some y → ∃ z : Int, y = .int z := fun i y hy => by
      match i, hy with
      | 0, hy => exact ⟨_, (Option.some.inj hy).symm⟩
      | 1, hy => exact ⟨_, (Option.some.inj hy).symm⟩
      | 2, hy => exact ⟨_, (Option.some.inj hy).symm⟩
      | 3, hy => exact ⟨_, (Option.some.inj hy).symm⟩
      | 4, hy => exact ⟨_, (Option.some.inj hy).symm⟩
      | 5, hy => exact ⟨_, (Option.some.inj hy).symm⟩
      | 6, hy => exact ⟨_, (Option.some.inj hy).symm⟩
      | i + 7, hy => cases hy
    walk_at "gos"
    refine u_it (sqL h5) ?_
    refine for_it walk_list (fun i σ' H' => H' = H5 ∧ ∃ y z, σ' = [some (.ref p), some (.ref x), some (.ref m), some (.int (B1.length : Nat)), some (.int (R.length : Nat)), some (.int (far : Nat)), y, z, none, none, none, none, none]) ⟨rfl, _, _, rfl⟩ (fun t _ H' _ p => by rw [p.1]; exact (sqL h5 : SqL K H5 l _)) (fun i y σ' H' H0 hi q2 hy => ?_) (fun σ' H' q2 => ?_)
    · obtain ⟨rfl, y0, z0, rfl⟩ := q2
      obtain ⟨rfl, hy⟩ := hy
      obtain ⟨z, rfl⟩ := hints _ _ hy
      clear hints hy
      walk_at "gou"
      ((with_reducible change tSeq _ _ _ _ _); refine L2.g_cutS (fun σ' H' => H' = H0 ∧ ∃ due, LastV (mem B1 R) z due ∧ σ' = [some (.ref p), some (.ref x), some (.ref m), some (.int (B1.length : Nat)), some (.int (R.length : Nat)), some (.int (far : Nat)), some (.int z), some due, none, none, none, none, none]) (fun nx hnx => ?_) (fun σ' H1 hR1 => ?_))
      · walk_at "gos"
        by_cases hz : z < 0
        · rw [if_pos (decide_eq_true hz)]
          walk_at "gos"
          exact hnx _ _ ⟨rfl, .non, .inl ⟨rfl, fun k hk => by omega⟩, rfl⟩
        · rw [if_neg (by rw [decide_eq_true_iff]; exact hz)]
          obtain ⟨zn, rfl⟩ : ∃ zn : Nat, z = zn := ⟨z.toNat, by omega⟩
          walk_at "gos"
          refine ⟨m, zn, B1, R, rfl, hM5, hR, fun r hr => ?_⟩
          walk_at "gos"
          exact hnx _ _ ⟨rfl, r, hr, rfl⟩
      obtain ⟨rfl, due, hdue, rfl⟩ := hR1
      walk_at "gos"
      obtain ⟨dx, fs, hx, hl⟩ := wfn_ins (m := "first_from") (.inr (.inr (.inl rfl))) hw5
      refine g_methV ?_
      walk_at "gos"
      refine ⟨x, dx, fs, rfl, hx, hl, ?_⟩
      walk_at "gos"
      refine ⟨x, _, _, rfl, hw5.w, .inl ⟨z, rfl, fun r hr => ?_⟩⟩
      walk_at "gos"
      refine ⟨m, z, B1, R, rfl, hM5, hR, fun r' hr' => ?_⟩
      obtain rfl := hr.uniq hr'
      refine ne_self (firstV_pl hr) ?_
      walk_at "gos"
      obtain ⟨dx, fs, hx, hl⟩ := wfn_ins (m := "last_to") (.inr (.inr (.inr rfl))) hw5
      refine g_methV ?_
      walk_at "gos"
      refine ⟨x, dx, fs, rfl, hx, hl, ?_⟩
      walk_at "gos"
      refine ⟨x, _, _, rfl, hw5.w, .inl ⟨z, rfl, fun r2 hr2 => ?_⟩⟩
      obtain rfl := hr2.uniq hdue
      walk_at "gos"
      refine ne_self (lastV_pl hr2) ?_
      walk_at "gos"
      obtain ⟨dx, fs, hx⟩ := wfn_ins0 hw5
      by_cases hz : z < 0
      · refine ⟨x, dx, fs, rfl, hx, x, _, _, rfl, hw5.w, .inr ⟨.inr ⟨z, hz, rfl⟩, ?_⟩⟩
        walk_at "gos"
        refine ⟨m, z, B1, R, rfl, hM5, hR, .inr ⟨hz, ?_⟩⟩
        refine ne_bb ?_
        walk_at "gos"
        exact ⟨rfl, _, _, rfl⟩
      · obtain ⟨zn, rfl⟩ : ∃ zn : Nat, z = zn := ⟨z.toNat, by omega⟩
        refine ⟨x, dx, fs, rfl, hx, x, _, _, rfl, hw5.w, .inl ⟨zn, rfl, ?_⟩⟩
        walk_at "gos"
        refine ⟨m, zn, B1, R, rfl, hM5, hR, .inl ⟨zn, rfl, ?_⟩⟩
        refine ne_bb ?_
        walk_at "gos"
        exact ⟨rfl, _, _, rfl⟩
    · obtain ⟨rfl, y0, z0, rfl⟩ := q2
      clear hints h5
      walk_at "gos"
      refine ⟨p, c, _, _, rfl, hp5, by omega, by omega, by omega, fun r6 H6 h0 h1 e6 hp6 => ?_⟩
      obtain ⟨low, rfl⟩ := Int.eq_ofNat_of_zero_le h0
      walk_at "gos"
      refine g_I (by first | (unfold CMulX; exact cmul_small (n := 40) (m := 40) (by unfold Bd; omega) (by unfold Bd; omega)) | exact cmul_small (n := 40) (m := 40) (by unfold Bd; omega) (by unfold Bd; omega)) ?_
      walk_at "gos"
      refine ⟨p, c, _, _, rfl, hp6, by omega, by omega, by omega, fun r7 H7 h2 h3 e7 hp7 => ?_⟩
      obtain ⟨j7, rfl⟩ := Int.eq_ofNat_of_zero_le h2
      walk_at "gos"
      obtain ⟨high, hhigh⟩ : ∃ high : Nat, high = B1.length + j7 := ⟨_, rfl⟩
      have hhi : ((B1.length : Nat) : Int) + (j7 : Nat) = (high : Nat) := by omega
      rw [hhi]
      have blow : Bd 300 (low : Int) := bdf (Nat.le_trans (show low ≤ 100000 by omega) (by decide))
      have bhigh : Bd 300 (high : Int) := bdf (Nat.le_trans (show high ≤ 100000 by omega) (by decide))
      have e07 := e05.trans (e6.trans e7)
      have hw7 := hw5.l (e6.trans e7).l
      have hM7 := hM5.l (e6.trans e7).l
      clear hw5 hM5 e05 e6 e7 h0 h1 h2 h3 hhi
      obtain ⟨dx, fs, hx, hl⟩ := wfn_ins (m := "how_many") (.inl rfl) hw7
      refine g_methV ?_
      walk_at "gos"
      refine ⟨x, dx, fs, rfl, hx, hl, ?_⟩
      walk_at "gos"
      refine ⟨x, _, _, _, rfl, hw7, .inl ⟨low, high, rfl, rfl, blow, bhigh, fun H8 e8 => ?_⟩⟩
      rw [Int.toNat_natCast, Int.toNat_natCast]
      walk_at "gos"
      refine ⟨m, high, B1, R, rfl, hM7.l e8.l, hR, hR2, hB2, bhigh, fun H9 e9 => ?_⟩
      walk_at "gos"
      have e79 := e8.trans e9
      refine ⟨m, low, B1, R, rfl, hM7.l e79.l, hR, hR2, hB2, blow, fun H10 e10 => ?_⟩
      walk_at "gos"
      refine ⟨_, _, rfl, ?_⟩
      refine ne_self (.inr ⟨_, rfl⟩) ?_
      walk_at "gos"
      have e7a := e79.trans e10
      have hw10 := hw7.l e7a.l
      have hM10 := hM7.l e7a.l
      have hp10 := hp7.same e7a
      have e010 := e07.trans e7a.d
      clear hw7 hM7 hp7 e07 e7a e8 e9 e79 e10 hx hl hp5 hp6
      obtain ⟨dx, fs, hx, hl⟩ := wfn_ins (m := "how_many") (.inl rfl) hw10
      refine g_methV ?_
      walk_at "gos"
      refine ⟨x, dx, fs, rfl, hx, hl, ?_⟩
      walk_at "gos"
      refine ⟨x, _, _, _, rfl, hw10, .inl ⟨-7, far, rfl, rfl, by unfold Bd; decide, bfar, fun H11 e11 => ?_⟩⟩
      rw [Int.toNat_natCast, show (-7 : Int).toNat = 0 from rfl, cnt_zero]
      walk_at "gos"
      refine ⟨m, far, B1, R, rfl, hM10.l e11.l, hR, hR2, hB2, bfar, fun H12 e12 => ?_⟩
      have hmx : (if ((cnt (mem B1 R) far : Nat) : Int) - ((0 : Nat) : Int) > 0 then ((cnt (mem B1 R) far : Nat) : Int) - ((0 : Nat) : Int) else 0) = (cnt (mem B1 R) far : Nat) := by split <;> omega
      rw [hmx]
      refine ne_self (.inr ⟨_, rfl⟩) ?_
      walk_at "gos"
      have e1012 := e11.trans e12
      have hw12 := hw10.l e1012.l
      have hM12 := hM10.l e1012.l
      have hp12 := hp10.same e1012
      have e012 := e010.trans e1012.d
      clear hw10 hM10 hp10 e010 e1012 e11 e12 hx hl hmx
      refine ⟨m, 0, B1, R, rfl, hM12, hR, fun r hr => ?_⟩
      obtain ⟨n0, g1, g2, _, g4⟩ := hinf 0
      rcases id hr with ⟨rfl, hno⟩ | ⟨fi, rfl, _, hf2, hf3⟩
      · rw [hno n0 (by omega)] at g2; cases g2
      have hfin : fi ≤ n0 := by
        by_cases h : fi ≤ n0
        · exact h
        · rw [hf3 n0 (by omega) (by omega)] at g2; cases g2
      have hBR : B1.length * R.length ≤ 10000 * 720 := Nat.mul_le_mul hB2 hR2
      have bfi : Bd 300 (fi : Int) := bdf (Nat.le_trans (show fi ≤ 100000000 by omega) (by decide))
      walk_at "gos"
      refine ⟨m, fi, B1, R, rfl, hM12, hR, hR2, hB2, bfi, fun H13 e13 => ?_⟩
      rw [cnt_nil fun j hj => hf3 j (by omega) hj]
      walk_at "gos"
      have hp13 := hp12.same e13
      refine ⟨p, c, _, _, rfl, hp13, by omega, by decide, by decide, fun r14 H14 h0 h1 e14 hp14 => ?_⟩
      obtain ⟨k, rfl⟩ := Int.eq_ofNat_of_zero_le h0
      walk_at "gos"
      rw [show ((0 : Nat) : Int) + (k : Int) = (k : Int) by omega]
      have bk : Bd 300 (k : Int) := bdf (Nat.le_trans (show k ≤ 40 by omega) (by decide))
      have e1214 := e13.d.trans e14
      have hw14 := hw12.l e1214.l
      have hM14 := hM12.l e1214.l
      obtain ⟨dx, fs, hx, hl⟩ := wfn_ins (m := "member") (.inr (.inl rfl)) hw14
      refine g_methV ?_
      walk_at "gos"
      refine ⟨x, dx, fs, rfl, hx, hl, ?_⟩
      walk_at "gos"
      refine ⟨x, _, _, rfl, hw14, .inl ⟨k, rfl, bk, fun told H15 e15 ht1 ht2 ht3 => ?_, fun hno => ?_⟩⟩
      · walk_at "gos"
        have btold : Bd 300 (told : Int) := bdf (Nat.le_trans (show told ≤ 100000 by omega) (by decide))
        have hw15 := hw14.l e15.l
        have hM15 := hM14.l e15.l
        obtain ⟨dx, fs, hx⟩ := wfn_ins0 hw15
        refine g_propV ?_
        walk_at "gos"
        refine ⟨x, dx, fs, rfl, hx, x, _, rfl, hw15.w, fun r16 hr16 => ?_⟩
        obtain rfl := hr16.uniq hr
        walk_at "gos"
        rw [decide_eq_true rfl]
        walk_at "gos"
        refine ⟨m, told, B1, R, rfl, hM15, hR, .inl ⟨told, rfl, ?_⟩⟩
        rw [ht1]
        walk_at "gos"
        refine ⟨m, told, B1, R, rfl, hM15, hR, hR2, hB2, btold, fun H17 e17 => ?_⟩
        rw [ht2]
        walk_at "gos"
        rw [decide_eq_true rfl]
        exact q _ (e012.trans (e1214.trans (e15.trans e17).d)) ((hp14.same (e15.trans e17)).mono (by omega))
      · obtain ⟨n1, _, g2, g3, _⟩ := hinf k
        exact absurd (hno n1 g2) (by omega)
end
end Ev

end
/-! try with several clauses, each with or without a name. -/
namespace L2
open PySem PySem.Spec PyProof.Rows
abbrev Cl := Value × Option Nat × (Addr → Value → Option Addr → TS)
/-- the ends behind a clause with a name: the name goes -/
def asEnds (i : Nat) (D : Ends) : Ends where
  nx := fun σ H => D.nx (σ.set i none) H
  rt := D.rt
  bk := fun σ H => D.bk (σ.set i none) H
  ct := fun σ H => D.ct (σ.set i none) H
/-- one clause's suite, entered -/
def inClause (D : Ends) (oi : Option Nat) (t : TS) (a : Addr) (σ : St) (H : Hp) : Prop := match oi with
  | none => t D σ H
  | some i => t (asEnds i D) (σ.set i (some (.ref a))) H
theorem in_named {D : Ends} {i : Nat} {t : TS} {a : Addr} {σ : St} {H : Hp} (q : t (asEnds i D) (σ.set i (some (.ref a))) H) : inClause D (some i) t a σ H := q
/-- what the clauses wish of an exception of the body, one after the other -/
def wCls (K : PySem.W.Frag) (Wout : WX) (D : Ends) : List Cl → WX
  | [] => Wout
  | (c, oi, ts) :: r => fun cls d σ H => ∃ b, PySem.W.exmOne K cls c = some b ∧ (b = true → ∀ a, H a = none → inClause D oi (ts a cls d) a σ H) ∧ (b = false → wCls K Wout D r cls d σ H)
/-- the suite's derivation, for whatever is caught -/
def SuiteOk (X : Cx) (body : List Stmt) (ts : Addr → Value → Option Addr → TS) : Prop :=
  ∀ (a : Addr) (oe : Obj) (cls : Value) (d : Option Addr) (pn : List (Addr × Obj)), Zc cls d oe → (∃ fields, oe.data = .fields fields) → PSs (X.suite a ((a, oe) :: pn)) body (ts a cls d)
inductive ClsOk (X : Cx) : List ExceptHandler → List Cl → Prop
  | nil : ClsOk X [] []
  | plain {x : Str} {c : Value} {ts : Addr → Value → Option Addr → TS} {st : Stmt} {more : List Stmt} {q1 q2 : Pos} {hds : List ExceptHandler} {l : List Cl} (nm : Names X x c) (ok : SuiteOk X (st :: more) ts) (rest : ClsOk X hds l) :
      ClsOk X (.ExceptHandler (some (.Name x q1)) none (st :: more) q2 :: hds) ((c, none, ts) :: l)
  | named {x n : Str} {i : Nat} {c : Value} {ts : Addr → Value → Option Addr → TS} {st : Stmt} {more : List Stmt} {q1 q2 : Pos} {hds : List ExceptHandler} {l : List Cl} (slot : X.N[i]? = some n) (own : X.env.kindOf n = some .local) (nm : Names X x c)
      (ok : SuiteOk X (st :: more) ts) (rest : ClsOk X hds l) : ClsOk X (.ExceptHandler (some (.Name x q1)) (some n) (st :: more) q2 :: hds) ((c, some i, ts) :: l)
section
variable {X : Cx} {D : Ends} {Wout : WX}
/-- an exception at a is held by the try of X: it was let out at sI, where σ and H stood -/
structure Caught (X : Cx) (pins : List (Addr × Obj)) (σ : St) (H : Hp) (B : Heap) (sI : Shared) (a : Addr) (cls : Value) (d : Option Addr) (s : Shared) : Prop where
  was : Inv X pins σ H sI
  ground : ∀ b o, sI.heap.get? b = some o → b ∉ frs X.stack → B.get? b = some o
  near : sI.heap.UpToSlots s.heap
  fly : HandSPX.FlyingZ B (X.env :: X.outer) a (Zc cls d) s.heap
  free : H a = none
  os : s.os = sI.os
  bare : AllBare s.gens
section
variable {pins : List (Addr × Obj)} {σ : St} {H : Hp} {B : Heap} {sI s : Shared} {a : Addr} {cls : Value} {d : Option Addr}
theorem Caught.now (C : Caught X pins σ H B sI a cls d s) : Inv X pins σ H s := C.was.landed C.ground C.fly.1 C.near C.os C.bare
/-- it is no frame -/
theorem Caught.apart (C : Caught X pins σ H B sI a cls d s) (hf : X.env.frame = some X.env.locals) : a ≠ X.env.locals ∧ a ∉ X.fs := by
  obtain ⟨oe, fields, at_, _, isF⟩ := C.fly.there
  have nfr : a ∉ frs (X.env :: X.outer) := by
    intro m
    obtain ⟨_, o, at2, no⟩ := C.fly.2.2.1.mem m
    obtain rfl : oe = o := Option.some.inj (at_.symm.trans at2)
    exact no _ isF
  refine ⟨fun z => nfr (List.mem_filterMap.mpr ⟨_, List.mem_cons_self, by rw [z]; exact hf⟩), fun m => ?_⟩
  obtain ⟨e, he, q⟩ := List.mem_filterMap.mp m
  exact nfr (List.mem_filterMap.mpr ⟨e, List.mem_cons_of_mem _ he, q⟩)
/-- in the suite of a clause -/
theorem Caught.within (C : Caught X pins σ H B sI a cls d s) (hf : X.env.frame = some X.env.locals) : ∃ oe, Zc cls d oe ∧ (∃ fields, oe.data = .fields fields) ∧ s.heap.get? a = some oe ∧ Inv (X.suite a ((a, oe) :: (X.pn ++ pins))) [] σ H s := by
  obtain ⟨oe, fields, at_, z, isF⟩ := C.fly.there
  exact ⟨oe, z, ⟨fields, isF⟩, at_, C.now.suite at_ isF C.free (C.apart hf).1 (C.apart hf).2⟩
/-- no clause is left: it goes on outward -/
theorem Caught.onward (C : Caught X pins σ H B sI a cls d s) (hs : X.stack = X.env :: X.outer) (hf : X.env.frame = some X.env.locals) (tk : Takes X Wout) (wish : Wout cls d σ H) : wpAny (model X.prog X.w) X.A (handleBy (.ref a) X.env []) (SP X pins D) X.xe s := by
  have raised : wpAny (model X.prog X.w) X.A (setFlight (.ref a) X.env.frame >>= fun _ => (throw (.ref a) : Sem Flow)) (SP X pins D) X.xe s := wpAny_bind (by
    rw [hf]
    exact HandSPX.setFlight_upZ C.fly fun h held up => wpAny_throw (tk _ _ ⟨a, B, sI, pins, σ, H, cls, d, rfl, C.was, C.ground, C.near.trans up, .inr (.inr (hs ▸ held)), C.free, C.os, C.bare, wish⟩))
  obtain ⟨_, _, _, oe, fields, T, oT, tk', at_, _, isF, one, _⟩ := id C.fly
  refine wpAny_handleBy_nil ?_
  unfold PySem.passOn
  refine wpAny_bind (wpAny_field at_ isF one ?_)
  rw [if_neg (by simp)]
  first
    | exact raised
    | exact wpAny_bind (wpAny_pure raised)
/-- what stands behind a suite with a name -/
theorem Caught.behind {oe : Obj} {n : Str} {i : Nat} {q2 : Pos} (J : Inv X pins σ H sI) (hN : X.N.Nodup) (slot : X.N[i]? = some n) (own : X.env.kindOf n = some .local) {f : Flow} {s' : Shared} (h : SP (X.suite a ((a, oe) :: (X.pn ++ pins))) [] (asEnds i D) f s') :
    wpAny (model X.prog X.w) X.A (do bindName X.env n .none; unbindBehindTheSuite X.env n q2) (fun _ s2 => SP X pins D f s2) X.xe s' := by
  have go : ∀ {σ1 : St} {H1 : Hp} {G : Shared → Prop}, Inv (X.suite a ((a, oe) :: (X.pn ++ pins))) [] σ1 H1 s' → (∀ s2, Inv X pins (σ1.set i none) H1 s2 → G s2) →
      wpAny (model X.prog X.w) X.A (do bindName X.env n .none; unbindBehindTheSuite X.env n q2) (fun _ s2 => G s2) X.xe s' := fun I g => gone_ok (I.unsuite J.ok) hN slot own g
  cases f with
  | next => obtain ⟨_, _, I, q⟩ := h; exact go I fun _ I2 => ⟨_, _, I2, q⟩
  | brk => obtain ⟨_, _, I, q⟩ := h; exact go I fun _ I2 => ⟨_, _, I2, q⟩
  | cont => obtain ⟨_, _, I, q⟩ := h; exact go I fun _ I2 => ⟨_, _, I2, q⟩
  | ret u => obtain ⟨_, _, _, I, r, q⟩ := h; exact go I fun _ I2 => ⟨_, _, _, I2, r, q⟩
theorem Caught.plainEnd {oe : Obj} (J : Inv X pins σ H sI) {f : Flow} {s' : Shared} (h : SP (X.suite a ((a, oe) :: (X.pn ++ pins))) [] D f s') : SP X pins D f s' := by
  cases f with
  | next => obtain ⟨_, _, I, q⟩ := h; exact ⟨_, _, I.unsuite J.ok, q⟩
  | brk => obtain ⟨_, _, I, q⟩ := h; exact ⟨_, _, I.unsuite J.ok, q⟩
  | cont => obtain ⟨_, _, I, q⟩ := h; exact ⟨_, _, I.unsuite J.ok, q⟩
  | ret u => obtain ⟨_, _, _, I, r, q⟩ := h; exact ⟨_, _, _, I.unsuite J.ok, r, q⟩
/-- the clause's class is asked for -/
theorem Caught.asked {x : Str} {c : Value} {q1 : Pos} {Q : Value → Shared → Prop} {E : Value → Shared → Prop} (C : Caught X pins σ H B sI a cls d s) (hf : X.env.frame = some X.env.locals) (nm : Names X x c) (q : Q c s) :
    wpAny (model X.prog X.w) (X.A.mark (some (.ref a))) (eval (.Name x q1) X.env) Q E s := by
  obtain ⟨oe, _, _, _, S⟩ := C.within hf
  obtain ⟨g, dbg, m | ⟨m, v, n⟩⟩ := nm
  · exact ld_glob (X := X.suite a ((a, oe) :: (X.pn ++ pins))) S g m q dbg
  · exact ld_blt (X := X.suite a ((a, oe) :: (X.pn ++ pins))) S g m v q n dbg
theorem Caught.fits {c : Value} {b : Bool} (C : Caught X pins σ H B sI a cls d s) (e : PySem.W.exmOne X.K cls c = some b) : PySem.W.Looks (model X.prog X.w) s.heap (excMatches (.ref a) c) b := by
  obtain ⟨oe, fields, at_, z, _⟩ := C.fly.there
  exact PySem.W.exm_one C.now.kIn (fun _ _ _ _ k q => wpAny_typeOf_ref (k _ _ at_) (z.1.symm ▸ q)) e
/-- a clause's suite runs, its exception landed anew -/
theorem Caught.lands (C : Caught X pins σ H B sI a cls d s) {k : Sem Unit → Prop} {Q : Unit → Shared → Prop} {E : Value → Shared → Prop} (h : ∀ s2, Caught X pins σ H B sI a cls d s2 → Q () s2) :
    wpAny (model X.prog X.w) (X.A.mark (some (.ref a))) (setFlight (.ref a) none) Q E s :=
  HandSPX.lands_againZ C.fly fun h2 fl2 up2 => h { s with heap := h2 } ⟨C.was, C.ground, C.near.trans up2, fl2, C.free, C.os, C.bare⟩
/-- the clauses, one after another -/
theorem Caught.through (hs : X.stack = X.env :: X.outer) (hf : X.env.frame = some X.env.locals) (hN : X.N.Nodup) (tk : Takes X Wout) {hds : List ExceptHandler} {l : List Cl} (ok : ClsOk X hds l) :
    ∀ {s : Shared}, Caught X pins σ H B sI a cls d s → wCls X.K Wout D l cls d σ H → wpAny (model X.prog X.w) X.A (handleBy (.ref a) X.env hds) (SP X pins D) X.xe s := by
  induction ok with
  | nil => exact fun C wish => C.onward hs hf tk wish
  | plain nm su _ ih =>
    intro s C ⟨b, e, yes, no⟩
    refine wpAny_handleBy_cons (codeAny_handlers_test (C.asked hf nm ((C.fits e).here ?_))) (fun z => nomatch z)
    cases b with
    | false => exact ih C (no rfl)
    | true =>
      refine codeAny_handlers_suite (C.lands (k := fun _ => True) fun s2 C2 => ?_)
      obtain ⟨oe, z, isF, _, S⟩ := C2.within hf
      exact wpAny_mono ((su a oe cls d (X.pn ++ pins) z isF).run [] s2 σ H D S (yes rfl a C.free)) (fun _ _ r => Caught.plainEnd C.was r) fun _ _ none_ => none_.elim
  | named slot own nm su _ ih =>
    intro s C ⟨b, e, yes, no⟩
    refine wpAny_handleBy_cons (codeAny_handlers_test (C.asked hf nm ((C.fits e).here ?_))) (fun z => nomatch z)
    cases b with
    | false => exact ih C (no rfl)
    | true =>
      refine codeAny_handlers_suite_as (C.lands (k := fun _ => True) fun s2 C2 => ?_)
      obtain ⟨oe, z, isF, _, S⟩ := C2.within hf
      refine store_ok (X := X.suite a ((a, oe) :: (X.pn ++ pins))) (v := .ref a) S hN slot (.inl own) rfl (fun s3 S3 => ?_) (.inr own)
      exact wpAny_mono ((su a oe cls d (X.pn ++ pins) z isF).run [] s3 _ H _ S3 (yes rfl a C.free)) (fun _ _ r => Caught.behind C.was hN slot own r) fun _ _ none_ => none_.elim
end
variable {body : List Stmt} {h₀ : ExceptHandler} {hds : List ExceptHandler} {l : List Cl} {pos : Pos} {tb : WX → TS}
theorem ps_try_cls (hs : X.stack = X.env :: X.outer) (hf : X.env.frame = some X.env.locals) (hN : X.N.Nodup) (tk : Takes X Wout)
    (hb : ∀ (W : WX) (pn : List (Addr × Obj)) (xe : Value → Shared → Prop), Takes (X.tr pn xe) W → PassesOwn (model X.prog X.w) X.A X.env xe → PSs (X.tr pn xe) body (tb W))
    (hh : ClsOk X (h₀ :: hds) l) : PS X (.Try body (h₀ :: hds) [] [] pos) (fun D σ H => tb (wCls X.K Wout D l) D σ H) := by
  refine ⟨fun pins s σ H D I wish => wpAny_Try_except ?_⟩
  have frames : X.A.frames = some (X.env :: X.outer) := hs ▸ I.ok.frames
  refine wpAny_mono ((hb (wCls X.K Wout D l) (X.pn ++ pins) (fun e s1 => wpAny (model X.prog X.w) X.A (noteFrame e X.env) (fun _ s2 => wpAny (model X.prog X.w) X.A (setFlight e none) (fun _ s3 => wpAny (model X.prog X.w) X.A (handleBy e X.env (h₀ :: hds)) (SP X pins D) X.xe s3) X.xe s2) X.xe s1)
    ?takes PassesOwn.looking).run [] s σ H D (I.toTry _) wish) ?ends (fun _ _ z => z)
  case takes =>
    intro u s1 ⟨a, B, sI, _, σ1, H1, cls, d, eu, J, ground, near, sky, free, os, bare, w⟩
    subst eu
    refine Sky.land Zc.steady frames hf (hs ▸ sky) fun h2 fly up2 => ?_
    exact Caught.through hs hf hN tk hh ⟨J.ofTry I.ok, ground, near.trans up2, fly, free, os, bare⟩ w
  case ends =>
    intro f s1 r
    cases f with
    | next => obtain ⟨_, _, J, q⟩ := r; exact wpAny_execs_nil ⟨_, _, J.ofTry I.ok, q⟩
    | brk => obtain ⟨_, _, J, q⟩ := r; exact ⟨_, _, J.ofTry I.ok, q⟩
    | cont => obtain ⟨_, _, J, q⟩ := r; exact ⟨_, _, J.ofTry I.ok, q⟩
    | ret u => obtain ⟨_, _, _, J, rv, q⟩ := r; exact ⟨_, _, _, J.ofTry I.ok, rv, q⟩
end
end L2

/-! Readings of defs that call what they got, and tell what was raised. -/
namespace LamX
open PySem PySem.Spec PyProof.Rows L2
theorem takes_len {X : Cx} {W : WX} (t : Takes X W) : Takes X (fun cls d σ H => σ.length = X.N.length → W cls d σ H) := fun u s' ⟨a, B, sI, pins, σ, H, cls, d, e, I, nb, up, sky, na, os, ag, w⟩ =>
  t u s' ⟨a, B, sI, pins, σ, H, cls, d, e, I, nb, up, sky, na, os, ag, w I.len⟩
/-- (tag, e.field) for the first clause that fits -/
def EF (K : PySem.W.Frag) (Q : VK) : List (Addr × Str × Str) → XK
  | [] => fun _ _ _ => False
  | (C, tag, fld) :: r => fun cls d H => ∃ b, PySem.W.exmOne K cls (.ref C) = some b ∧ (b = true → cls = .ref C ∧ ∃ dd v, d = some dd ∧ H dd = some (.xd [(fld, v)]) ∧ ∀ t, H t = none → Q (.ref t) (upd H t (.tup [.str tag, v]))) ∧ (b = false → EF K Q r cls d H)
/-- try: a() / except .. as e: return (tag, e.field) .. / return None -/
def TFault (K : PySem.W.Frag) (l : List (Addr × Str × Str)) : (XK → Hp → VK → Prop) → Hp → VK → Prop := fun tl H Q => tl (EF K Q l) H fun _ H' => Q .non H'
/-- return (tag, e.field) -/
def tsF (K : PySem.W.Frag) (i : Nat) (C : Addr) (tag fld : Str) (a : Addr) (cls : Value) (d : Option Addr) : TS := tRet (tTup (tCons (tC (.str tag)) (tCons (tXf a cls d C fld (tVar i)) tNil)))
def clF (K : PySem.W.Frag) (i : Nat) : List (Addr × Str × Str) → List Cl
  | [] => []
  | (C, tag, fld) :: r => (.ref C, some i, tsF K i C tag fld) :: clF K i r
theorem ef_cls {K : PySem.W.Frag} {i : Nat} {D : Ends} {l : List (Addr × Str × Str)} {cls : Value} {d : Option Addr} {σ : L2.St} {H : Hp} {n : Nat} (hn : σ.length = n) (hi : i < n) : EF K D.rt l cls d H → wCls K (fun _ _ _ _ => False) D (clF K i l) cls d σ H := by
  induction l with
  | nil => exact fun h => h
  | cons p r ih =>
    obtain ⟨C, tag, fld⟩ := p
    intro ⟨b, h1, h2, h3⟩
    refine ⟨b, h1, fun hb a ha => ?_, fun hb => ih (h3 hb)⟩
    obtain ⟨hc, dd, v, e1, e2, e3⟩ := h2 hb
    refine ⟨.ref a, ?_, rfl, hc, dd, _, v, e1, e2, ?_, ?_⟩
    · rw [List.getElem?_set_self (by omega)]
    · simp [List.lookup]
    · exact ⟨by show 2 ≤ sizeLine; decide, fun t ht => e3 t ht⟩
theorem ef_here {K : PySem.W.Frag} {Q : VK} {r : List (Addr × Str × Str)} {C : Addr} {tag fld : Str} {v : V} {d : Addr} {H : Hp} (h : PySem.W.exmOne K (.ref C) (.ref C) = some true) (hd : H d = some (.xd [(fld, v)])) (q : ∀ t H', Same H H' → H' t = some (.tup [.str tag, v]) → Q (.ref t) H') : EF K Q ((C, tag, fld) :: r) (.ref C) (some d) H :=
  ⟨true, h, fun _ => ⟨rfl, d, v, rfl, hd, fun t ht => q t _ (same_new ht) upd_same⟩, fun z => nomatch z⟩
theorem ef_next {K : PySem.W.Frag} {Q : VK} {r : List (Addr × Str × Str)} {C : Addr} {tag fld : Str} {cls : Value} {d : Option Addr} {H : Hp} (h : PySem.W.exmOne K cls (.ref C) = some false) (q : EF K Q r cls d H) : EF K Q ((C, tag, fld) :: r) cls d H :=
  ⟨false, h, fun z => (nomatch z), fun _ => q⟩
theorem g_fault {K : PySem.W.Frag} {l : List (Addr × Str × Str)} {tl : XK → Hp → VK → Prop} {H : Hp} {Q : VK} (q : tl (EF K Q l) H fun _ H' => Q .non H') : TFault K l tl H Q := q
theorem g_lam {T : List (Addr × Str)} {TT : (XK → Hp → VK → Prop) → Hp → VK → Prop} {t : XK → TE} {σ : L2.St} {H : Hp} {Q : VK} (hT : Tabs T H) (q : ∀ H1, ExtN H H1 → Tabs T H1 → TT (fun E H' Q' => t E σ H' Q') H1 Q) : tLam T TT t σ H Q := ⟨hT, q⟩
end LamX

section
open L2 in
local macro_rules | `(tactic| walk_at "gx") => `(tactic| first
  | ((with_reducible show tVar _ _ _ _); refine g_var rfl ?_)
  | with_reducible refine g_c ?_
  | with_reducible refine g_op ?_
  | with_reducible refine g_cons ?_
  | with_reducible refine g_nil ?_
  | with_reducible refine g_test ?_
  | with_reducible refine g_blp ?_
  | with_reducible refine g_asg ?_
  | (with_reducible refine g_name ?_; (try simp only [List.set_cons_zero, List.set_cons_succ]))
  | with_reducible refine g_call ?_
  | with_reducible refine g_cb ?_
  | with_reducible refine g_I0 ?_
  | with_reducible refine g_U ?_
  | with_reducible refine g_eqI ?_
  | with_reducible refine g_neI ?_
  | with_reducible refine g_if ?_
  | with_reducible refine g_ret ?_
  | with_reducible refine g_retN ?_
  | with_reducible refine g_next ?_
  | with_reducible refine g_drop ?_
  | with_reducible refine g_un ?_
  | with_reducible refine g_tb ?_
  | with_reducible refine g_tup ?_
  | with_reducible refine g_lst ?_
  | with_reducible refine g_and ?_
  | with_reducible refine g_or ?_
  | with_reducible refine g_not ?_
  | with_reducible refine g_andV ?_
  | with_reducible refine g_orV ?_
  | with_reducible refine g_notV ?_
  | with_reducible refine g_ifE ?_
  | with_reducible refine g_fld ?_
  | with_reducible refine g_tt ?_
  | with_reducible refine g_ff ?_
  | with_reducible refine g_ntt ?_
  | with_reducible refine g_nff ?_
  | with_reducible refine g_for ?_
  | with_reducible refine g_list ?_
  | with_reducible refine g_tupI ?_
  | with_reducible refine g_rng1 ?_
  | with_reducible refine g_rng2 ?_
  | with_reducible refine g_enumA ?_
  | with_reducible refine g_rev ?_
  | with_reducible refine g_lc ?_
  | with_reducible refine g_gcons ?_
  | with_reducible refine g_gnil ?_
  | with_reducible refine g_yes ?_
  | with_reducible refine g_sl ?_
  | with_reducible refine g_nopart ?_
  | with_reducible refine g_part ?_
  | with_reducible refine g_int ?_
  | with_reducible refine g_dget ?_
  | with_reducible refine g_dput ?_
  | with_reducible refine g_raiseX ?_
  | with_reducible refine g_tru ?_
  | with_reducible refine g_sub ?_
  | with_reducible refine g_isN ?_
  | with_reducible refine g_notN ?_
  | with_reducible refine g_bm ?_
  | with_reducible refine L2.g_bm0 ?_
  | with_reducible refine g_pair ?_
  | with_reducible refine g_pair0 ?_
  | with_reducible refine u_int1 ?_
  | with_reducible refine g_chain ?_
  | with_reducible refine L2.g_sfld ?_
  | (with_reducible refine g_par3 ?_)
  | (with_reducible refine g_three ?_; (try simp only [List.set_cons_zero, List.set_cons_succ]))
  | ((with_reducible apply L2.g_tupT); walk_at "up"; rfl)
  | (with_reducible refine g_par ?_)
  | (with_reducible refine g_two ?_; (try simp only [List.set_cons_zero, List.set_cons_succ]))
  )
local macro_rules | `(tactic| walk_at "go") => `(tactic| first | walk_at "gx" | with_reducible refine L2.g_seq ?_)
local macro_rules | `(tactic| walk_at "gou") => `(tactic| repeat (walk_at "gx"))
local macro_rules | `(tactic| walk_at "gos") => `(tactic| repeat (walk_at "go"))
local macro_rules | `(tactic| walk_at "sl") => `(tactic| first
  | assumption
  | exact L2.Same.l (by assumption)
  | exact L2.SameD.l (by assumption)
  | exact L2.extN_l (by assumption))
local macro_rules | `(tactic| walk_at "up") => `(tactic| first
  | assumption
  | ((with_reducible apply L2.SameL.lst); walk_at "sl"; walk_at "up")
  | ((with_reducible apply L2.SameL.tupA); walk_at "sl"; walk_at "up")
  | ((with_reducible apply L2.SameL.ins); walk_at "sl"; walk_at "up")
  | ((with_reducible apply Ev.PB.l); walk_at "sl"; walk_at "up")
  | ((with_reducible apply Ev.IsP.l); walk_at "sl"; walk_at "up")
  | ((with_reducible apply L2.sqL); walk_at "up")
  | ((with_reducible apply L2.sqT); walk_at "up")
  | ((with_reducible apply L2.SameL.seq); walk_at "sl"; walk_at "up")
  | ((with_reducible apply Ev.Pen.same); assumption; walk_at "up")
  | ((with_reducible apply Ev.Pen.extN); assumption; walk_at "up")
  | ((with_reducible apply L2.tabs_s); assumption; walk_at "up")
  | ((with_reducible apply L2.tabs_dd); assumption; walk_at "up")
  | ((with_reducible apply Or.inl); walk_at "up")
  | ((with_reducible apply Or.inr); walk_at "up"))
local macro_rules | `(tactic| walk_at "new") => `(tactic| (
  first
    | refine ⟨L2.size_ok (by rfl), fun p hp => ?_⟩
    | refine fun p hp => ?_
  generalize hX : L2.upd _ p _ = H1
  obtain ⟨e, h⟩ := L2.news hp hX
  clear hX))
local macro_rules | `(tactic| walk_at "o") => `(tactic| first
  | ((with_reducible apply Ev.o_add); walk_at "up"; walk_at "up"; rfl; rfl; rfl)
  | ((with_reducible apply Ev.o_sub); walk_at "up"; walk_at "up"; rfl; rfl; rfl)
  | ((with_reducible apply Ev.o_mul); walk_at "up"; walk_at "up"; rfl; rfl; rfl)
  | ((with_reducible apply Ev.o_addI); walk_at "up"; assumption; rfl; rfl; rfl)
  | ((with_reducible apply Ev.o_subI); walk_at "up"; assumption; rfl; rfl; rfl)
  | ((with_reducible apply Ev.o_mulI); walk_at "up"; assumption; rfl; rfl; rfl)
  | ((with_reducible apply Ev.o_radd); walk_at "up"; assumption; rfl; rfl; rfl)
  | ((with_reducible apply Ev.o_rsub); walk_at "up"; assumption; rfl; rfl; rfl)
  | ((with_reducible apply Ev.o_rmul); walk_at "up"; assumption; rfl; rfl; rfl)
  | ((with_reducible apply Ev.o_neg); walk_at "up"; rfl; rfl; rfl))
local macro_rules | `(tactic| walk_at "eq") => `(tactic| ((with_reducible apply Ev.u_ownB); assumption; walk_at "up"; walk_at "up"; (focus (intro k; first | rfl | exact Pl.e_add | exact Pl.e_sub | exact Pl.e_mul | exact Pl.e_rsub | exact Pl.e_rsub2))))
local macro_rules | `(tactic| walk_at "isp") => `(tactic| (apply Ev.u_isB; walk_at "up"; walk_at "up"; rfl; rfl))

/-! Where of k86: by known data, and with wrong members. -/
namespace Ev
open PySem PySem.Spec PyProof.Rows L2 LamX Wp
section
theorem sc__law_refusal : FnScope ["call", "e"] ["call"] (defScope (topS 32)) := ⟨rfl, rfl, rfl, by decide +kernel, rfl, by decide +kernel, by decide +kernel⟩
theorem law_refusal_gives {X : Cx} {C0 C1 C2 : Addr} (x0 : ExT X.prog X.K X.mg "BadTruth" C0 ["index"]) (x1 : ExT X.prog X.K X.mg "TooFine" C1 ["most"]) (x2 : ExT X.prog X.K X.mg "TooLate" C2 ["most"]) {g : Addr} {cdg : Value} {q : Str} :
    GivesTo X ["call", "e"] "_law_refusal" (defScope (topS 32)) g cdg (defBody (topS 32)) "call" q (TFault X.K [(C0, "truth", "index"), (C1, "fine", "most"), (C2, "late", "most")]) := by
  intro f c' s H Q tl act hc h
  refine ⟨_, pss_cons (ps_try_cls (X := (cxOf C8.CX0 X.prog X.w X.K X.mg X.base ["call", "e"] "_law_refusal" (defScope (topS 32)) g cdg X.A X.stack s H C8.E0).nox) (l := clF X.K 1 [(C0, "truth", "index"), (C1, "fine", "most"), (C2, "late", "most")])
      (tb := fun W D σ H => ∃ Ech : XK, (∀ cls d σ' H', Ech cls d H' → σ'.length = 2 → W cls d σ' H') ∧ σ[0]? = some (some (.ref f)) ∧ H c' = some (CodeO c' q) ∧ tl Ech H (fun _ H1 => D.nx σ H1))
      rfl rfl sc__law_refusal.nd L2.takes0 (fun W pn xe tk _ => ?_) (.named rfl rfl ⟨rfl, by decide, .inl x0.gC⟩ (fun a oe cls d pn hz hf => pss_one (ps_ret (pe_tup (pa_cons pe_str (pa_cons (pe_xf x0.xf (x0.noF (by decide)) hz hf (pv 1)) pa_nil))))) (.named rfl rfl ⟨rfl, by decide, .inl x1.gC⟩ (fun a oe cls d pn hz hf => pss_one (ps_ret (pe_tup (pa_cons pe_str (pa_cons (pe_xf x1.xf (x1.noF (by decide)) hz hf (pv 1)) pa_nil))))) (.named rfl rfl ⟨rfl, by decide, .inl x2.gC⟩ (fun a oe cls d pn hz hf => pss_one (ps_ret (pe_tup (pa_cons pe_str (pa_cons (pe_xf x2.xf (x2.noF (by decide)) hz hf (pv 1)) pa_nil))))) .nil)))) (pss_one (ps_ret pe_non)), ?_⟩
  · refine ⟨fun pins s' σ H' D I h' => ?_⟩
    obtain ⟨Ech, hW, h1, h2, h3⟩ := h'
    exact (pss_one (ps_expr (act (fun cls d σ H => σ.length = 2 → W cls d σ H) pn xe Ech _ _ (takes_len tk) (fun cls d σ' H' e => hW cls d σ' H' e)))).run pins s' σ H' D I ⟨h1, h2, h3⟩
  · exact ⟨_, fun cls d σ' H' e hl => ef_cls hl (by decide) e, rfl, hc, h⟩
end
def isB : V → Bool
  | .bl _ => true
  | _ => false
theorem isB_all : ∀ {xs : List V}, (∀ x, x ∈ xs → isB x = true) → ∃ B : List Bool, xs = B.map V.bl
  | [], _ => ⟨[], rfl⟩
  | x :: r, h => by
    obtain ⟨B, hB⟩ := isB_all (xs := r) fun y hy => h y (List.mem_cons_of_mem _ hy)
    have hx := h x List.mem_cons_self
    cases x with
    | bl b => exact ⟨b :: B, by rw [hB]; rfl⟩
    | _ => cases hx
/-- the truth that the i-th one is a truth -/
def kO (xs : List V) (i : Nat) : Bool := match xs[i]? with
  | some x => isB x
  | none => true
theorem kO_at {xs : List V} {i : Nat} {x : V} (h : xs[i]? = some x) : kO xs i = isB x := by unfold kO; rw [h]
theorem kO_all {xs : List V} (h : ∀ i, i < xs.length → kO xs i = true) : ∃ B : List Bool, xs = B.map V.bl := isB_all fun x hx => by
  obtain ⟨i, hi, rfl⟩ := List.getElem_of_mem hx
  have := h i hi
  rwa [kO_at (List.getElem?_eq_getElem hi)] at this
theorem kO_bools {B : List Bool} (i : Nat) : kO (B.map V.bl) i = true := by
  unfold kO
  rw [List.getElem?_map]
  cases B[i]? <;> rfl
/-- plain members: truths, integers, strings, None -/
inductive Pm : V → Prop
  | bl (b : Bool) : Pm (.bl b)
  | int (i : Int) : Pm (.int i)
  | non : Pm .non
  | str (x : Str) : Pm (.str x)
section
variable {K : PySem.W.Frag} {H : Hp} {C CT CF CL a b : Addr} {Q : VK} {E : XK}
theorem Pm.kd {x : V} : Pm x → KdB K H x (isB x)
  | .bl b => KdB.bl
  | .int i => KdB.int
  | .non => KdB.non
  | .str x => KdB.str
theorem pm_bools {B : List Bool} : ∀ x, x ∈ B.map V.bl → Pm x := fun x hx => by
  obtain ⟨b, _, rfl⟩ := List.mem_map.mp hx
  exact .bl b
theorem wArgY {xs ys : List V} (ha : SqY K H a xs) (hb : SqY K H b ys) (hx : ∀ x, x ∈ xs → Pm x) (hy : ∀ y, y ∈ ys → Pm y) (lx : xs.length ≤ 100000) (ly : ys.length ≤ 100000) : WArgY K H a b xs ys (kO xs) (kO ys) :=
  ⟨ha, hb, fun i x h => by rw [kO_at h]; exact (hx x (List.mem_of_getElem? h)).kd, fun i x h => by rw [kO_at h]; exact (hy x (List.mem_of_getElem? h)).kd, kO_all, kO_all, lx, ly⟩
/-- Where(a, b): the first wrong member stands in a -/
theorem u_whereB1 {xs ys : List V} {k : Nat} (ha : SqY K H a xs) (hb : SqY K H b ys) (hx : ∀ x, x ∈ xs → Pm x) (hy : ∀ y, y ∈ ys → Pm y) (lx : xs.length ≤ 100000) (ly : ys.length ≤ 100000)
    (hk : k < xs.length) (hk1 : kO xs k = false) (hk2 : ∀ j, j < k → kO xs j = true)
    (q : ∀ H' d, Same H H' → H' d = some (.xd [("index", .int (k : Nat))]) → E (.ref CT) (some d) H') : spWhereY K C CT CF CL [.ref a, .ref b] H Q E := by
  have nob : ∀ B : List Bool, xs = B.map V.bl → False := fun B e => by rw [e, kO_bools] at hk1; cases hk1
  have no : ¬ ∀ i, i < xs.length → kO xs i = true := fun z => by rw [z k hk] at hk1; cases hk1
  refine ⟨a, b, xs, ys, _, _, rfl, wArgY ha hb hx hy lx ly, ⟨fun i hi hf hj H' d e hd => ?_, fun z => absurd z no, fun z => absurd z no, fun B R bl rl e => (nob B e).elim, fun B R bl rl e => (nob B e).elim⟩, fun B R bl rl e => (nob B e).elim⟩
  have hik : i = k := by
    rcases Nat.lt_trichotomy i k with h | h | h
    · rw [hk2 i h] at hf; cases hf
    · exact h
    · rw [hj k h] at hk1; cases hk1
  subst hik
  exact q H' d e hd
/-- .. in b -/
theorem u_whereB2 {Bl : List Bool} {ys : List V} {k : Nat} (ha : SqY K H a (Bl.map V.bl)) (hb : SqY K H b ys) (hy : ∀ y, y ∈ ys → Pm y) (lx : Bl.length ≤ 100000) (ly : ys.length ≤ 100000)
    (hk : k < ys.length) (hk1 : kO ys k = false) (hk2 : ∀ j, j < k → kO ys j = true)
    (q : ∀ H' d, Same H H' → H' d = some (.xd [("index", .int (k : Nat))]) → E (.ref CT) (some d) H') : spWhereY K C CT CF CL [.ref a, .ref b] H Q E := by
  have nob : ∀ B : List Bool, ys = B.map V.bl → False := fun B e => by rw [e, kO_bools] at hk1; cases hk1
  refine ⟨a, b, _, ys, _, _, rfl, wArgY ha hb pm_bools hy (by rw [List.length_map]; exact lx) ly, ⟨fun i hi hf _ => ?_, fun _ i hi hf hj H' d e hd => ?_, fun _ z => ?_, fun B R bl rl _ e => (nob R e).elim, fun B R bl rl _ e => (nob R e).elim⟩, fun B R bl rl _ e => (nob R e).elim⟩
  · rw [kO_bools] at hf; cases hf
  · have hik : i = k := by
      rcases Nat.lt_trichotomy i k with h | h | h
      · rw [hk2 i h] at hf; cases hf
      · exact h
      · rw [hj k h] at hk1; cases hk1
    subst hik
    exact q H' d e hd
  · rw [z] at hk; exact absurd hk (Nat.not_lt_zero k)
/-- Where(a, b) of truths by its data -/
theorem u_whereXY {B R bl rl : List Bool} (ha : SqY K H a (B.map V.bl)) (hb : SqY K H b (R.map V.bl)) (hR : 0 < R.length) (hB : B.length ≤ 100000) (hR2 : R.length ≤ 100000) (hn : Nm bl rl) (hm : ∀ n, mem bl rl n = mem B R n)
    (q1 : 720 < rl.length → ∀ H' d, Same H H' → H' d = some (.xd [("most", .int 720)]) → E (.ref CF) (some d) H')
    (q2 : rl.length ≤ 720 → 10000 < bl.length → ∀ H' d, Same H H' → H' d = some (.xd [("most", .int 10000)]) → E (.ref CL) (some d) H')
    (q : rl.length ≤ 720 → bl.length ≤ 10000 → ∀ x H', H x = none → Same H H' → IsWN H' x C bl rl → Q (.ref x) H') : spWhereY K C CT CF CL [.ref a, .ref b] H Q E := by
  refine ⟨a, b, _, _, _, _, rfl, wArgY ha hb pm_bools pm_bools (by rw [List.length_map]; exact hB) (by rw [List.length_map]; exact hR2), ⟨fun i _ h _ => absurd (h.symm.trans (kO_bools i)) (by decide), fun _ i _ h _ => absurd (h.symm.trans (kO_bools i)) (by decide), fun _ h => ?_, fun B' R' bl' rl' e1 e2 h1 h2 h3 h4 => ?_, fun B' R' bl' rl' e1 e2 h1 h2 h3 h4 h5 => ?_⟩, fun B' R' bl' rl' e1 e2 h1 h2 h3 h4 h5 x H' hx e hw => ?_⟩
  · rw [List.map_eq_nil_iff] at h; rw [h] at hR; exact absurd hR (Nat.lt_irrefl 0)
  · have := bools_inj e1; have := bools_inj e2; subst B' R'
    obtain ⟨rfl, rfl⟩ := hn.uniq h2 fun n => by rw [hm, h3]
    exact q1 h4
  · have := bools_inj e1; have := bools_inj e2; subst B' R'
    obtain ⟨rfl, rfl⟩ := hn.uniq h2 fun n => by rw [hm, h3]
    exact q2 h4 h5
  · have := bools_inj e1; have := bools_inj e2; subst B' R'
    obtain ⟨rfl, rfl⟩ := hn.uniq h2 fun n => by rw [hm, h3]
    exact q h4 h5 x H' hx e hw
end
end Ev

end
section
open L2 in
local macro_rules | `(tactic| walk_at "gx") => `(tactic| first
  | ((with_reducible show tVar _ _ _ _); refine g_var rfl ?_)
  | with_reducible refine g_c ?_
  | with_reducible refine g_op ?_
  | with_reducible refine g_cons ?_
  | with_reducible refine g_nil ?_
  | with_reducible refine g_test ?_
  | with_reducible refine g_blp ?_
  | with_reducible refine g_asg ?_
  | (with_reducible refine g_name ?_; (try simp only [List.set_cons_zero, List.set_cons_succ]))
  | with_reducible refine g_call ?_
  | with_reducible refine g_cb ?_
  | with_reducible refine g_I0 ?_
  | with_reducible refine g_U ?_
  | with_reducible refine g_eqI ?_
  | with_reducible refine g_neI ?_
  | with_reducible refine g_if ?_
  | with_reducible refine g_ret ?_
  | with_reducible refine g_retN ?_
  | with_reducible refine g_next ?_
  | with_reducible refine g_drop ?_
  | with_reducible refine g_un ?_
  | with_reducible refine g_tb ?_
  | with_reducible refine g_tup ?_
  | with_reducible refine g_lst ?_
  | with_reducible refine g_and ?_
  | with_reducible refine g_or ?_
  | with_reducible refine g_not ?_
  | with_reducible refine g_andV ?_
  | with_reducible refine g_orV ?_
  | with_reducible refine g_notV ?_
  | with_reducible refine g_ifE ?_
  | with_reducible refine g_fld ?_
  | with_reducible refine g_tt ?_
  | with_reducible refine g_ff ?_
  | with_reducible refine g_ntt ?_
  | with_reducible refine g_nff ?_
  | with_reducible refine g_for ?_
  | with_reducible refine g_list ?_
  | with_reducible refine g_tupI ?_
  | with_reducible refine g_rng1 ?_
  | with_reducible refine g_rng2 ?_
  | with_reducible refine g_enumA ?_
  | with_reducible refine g_rev ?_
  | with_reducible refine g_lc ?_
  | with_reducible refine g_gcons ?_
  | with_reducible refine g_gnil ?_
  | with_reducible refine g_yes ?_
  | with_reducible refine g_sl ?_
  | with_reducible refine g_nopart ?_
  | with_reducible refine g_part ?_
  | with_reducible refine g_int ?_
  | with_reducible refine g_dget ?_
  | with_reducible refine g_dput ?_
  | with_reducible refine g_raiseX ?_
  | with_reducible refine g_tru ?_
  | with_reducible refine g_sub ?_
  | with_reducible refine g_isN ?_
  | with_reducible refine g_notN ?_
  | with_reducible refine g_bm ?_
  | with_reducible refine L2.g_bm0 ?_
  | with_reducible refine g_pair ?_
  | with_reducible refine g_pair0 ?_
  | with_reducible refine u_int1 ?_
  | with_reducible refine g_chain ?_
  | with_reducible refine L2.g_sfld ?_
  | (with_reducible refine g_par3 ?_)
  | (with_reducible refine g_three ?_; (try simp only [List.set_cons_zero, List.set_cons_succ]))
  | ((with_reducible apply L2.g_tupT); walk_at "up"; rfl)
  | (with_reducible refine g_par ?_)
  | (with_reducible refine g_two ?_; (try simp only [List.set_cons_zero, List.set_cons_succ]))
  )
local macro_rules | `(tactic| walk_at "go") => `(tactic| first | walk_at "gx" | with_reducible refine L2.g_seq ?_)
local macro_rules | `(tactic| walk_at "gou") => `(tactic| repeat (walk_at "gx"))
local macro_rules | `(tactic| walk_at "gos") => `(tactic| repeat (walk_at "go"))
local macro_rules | `(tactic| walk_at "sl") => `(tactic| first
  | assumption
  | exact L2.Same.l (by assumption)
  | exact L2.SameD.l (by assumption)
  | exact L2.extN_l (by assumption))
local macro_rules | `(tactic| walk_at "up") => `(tactic| first
  | assumption
  | ((with_reducible apply L2.SameL.lst); walk_at "sl"; walk_at "up")
  | ((with_reducible apply L2.SameL.tupA); walk_at "sl"; walk_at "up")
  | ((with_reducible apply L2.SameL.ins); walk_at "sl"; walk_at "up")
  | ((with_reducible apply Ev.PB.l); walk_at "sl"; walk_at "up")
  | ((with_reducible apply Ev.IsP.l); walk_at "sl"; walk_at "up")
  | ((with_reducible apply L2.sqL); walk_at "up")
  | ((with_reducible apply L2.sqT); walk_at "up")
  | ((with_reducible apply L2.SameL.seq); walk_at "sl"; walk_at "up")
  | ((with_reducible apply Ev.Pen.same); assumption; walk_at "up")
  | ((with_reducible apply Ev.Pen.extN); assumption; walk_at "up")
  | ((with_reducible apply L2.tabs_s); assumption; walk_at "up")
  | ((with_reducible apply L2.tabs_dd); assumption; walk_at "up")
  | ((with_reducible apply Or.inl); walk_at "up")
  | ((with_reducible apply Or.inr); walk_at "up"))
local macro_rules | `(tactic| walk_at "new") => `(tactic| (
  first
    | refine ⟨L2.size_ok (by rfl), fun p hp => ?_⟩
    | refine fun p hp => ?_
  generalize hX : L2.upd _ p _ = H1
  obtain ⟨e, h⟩ := L2.news hp hX
  clear hX))
local macro_rules | `(tactic| walk_at "o") => `(tactic| first
  | ((with_reducible apply Ev.o_add); walk_at "up"; walk_at "up"; rfl; rfl; rfl)
  | ((with_reducible apply Ev.o_sub); walk_at "up"; walk_at "up"; rfl; rfl; rfl)
  | ((with_reducible apply Ev.o_mul); walk_at "up"; walk_at "up"; rfl; rfl; rfl)
  | ((with_reducible apply Ev.o_addI); walk_at "up"; assumption; rfl; rfl; rfl)
  | ((with_reducible apply Ev.o_subI); walk_at "up"; assumption; rfl; rfl; rfl)
  | ((with_reducible apply Ev.o_mulI); walk_at "up"; assumption; rfl; rfl; rfl)
  | ((with_reducible apply Ev.o_radd); walk_at "up"; assumption; rfl; rfl; rfl)
  | ((with_reducible apply Ev.o_rsub); walk_at "up"; assumption; rfl; rfl; rfl)
  | ((with_reducible apply Ev.o_rmul); walk_at "up"; assumption; rfl; rfl; rfl)
  | ((with_reducible apply Ev.o_neg); walk_at "up"; rfl; rfl; rfl))
local macro_rules | `(tactic| walk_at "eq") => `(tactic| ((with_reducible apply Ev.u_ownB); assumption; walk_at "up"; walk_at "up"; (focus (intro k; first | rfl | exact Pl.e_add | exact Pl.e_sub | exact Pl.e_mul | exact Pl.e_rsub | exact Pl.e_rsub2))))
local macro_rules | `(tactic| walk_at "isp") => `(tactic| (apply Ev.u_isB; walk_at "up"; walk_at "up"; rfl; rfl))

/-! The law of sets with long periods and late starts. -/
namespace Ev
open PySem PySem.Spec PyProof.Rows L2 LamX Wp
theorem u_neIIBB {K : PySem.W.Frag} {H : Hp} {Q : VK} {a b t1 t2 s1 s2 : Addr} {i j : Int} {bs rs : List Bool} (h : SqT K H a [.int i, .int j, .ref t1, .ref t2]) (h1 : SqT K H t1 (bs.map V.bl)) (h2 : SqT K H t2 (rs.map V.bl)) (g : SqT K H b [.int i, .int j, .ref s1, .ref s2]) (g1 : SqT K H s1 (bs.map V.bl)) (g2 : SqT K H s2 (rs.map V.bl)) (q : Q (.bl false) H) : rNeD K (.ref a) (.ref b) H Q := by
  have d1 : ∀ {t}, SqT K H t (bs.map V.bl) → Dp K H (.ref t) (.tuple (bs.map PyData.bool)) := fun h => .tup h (dpAll_bools bs)
  have d2 : ∀ {t}, SqT K H t (rs.map V.bl) → Dp K H (.ref t) (.tuple (rs.map PyData.bool)) := fun h => .tup h (dpAll_bools rs)
  have sh : SeqAt.shaped (.tuple [.int i, .int j, .tuple (bs.map PyData.bool), .tuple (rs.map PyData.bool)]) = true := by
    simp [SeqAt.shaped, PyData.canLay0, PyData.canLayAll0, PyData.depth, PyData.depthAll, lay_bools, depth_bools]
  exact u_neD (b := true) (.tup h (.cons (.int i) (.cons (.int j) (.cons (d1 h1) (.cons (d2 h2) .nil))))) (.tup g (.cons (.int i) (.cons (.int j) (.cons (d1 g1) (.cons (d2 g2) .nil))))) sh sh (by simp [PyData.eqv, PyData.eqvAll, eqv_bools]) q
theorem late_list {low : Nat} : List.replicate (low - 1) (V.bl false) ++ [V.bl true] = (lateB low).map V.bl := by unfold lateB; rw [List.map_append, List.map_replicate]; rfl
theorem kO_congr {xs ys : List V} {i j : Nat} (h : xs[i]? = ys[j]?) : kO xs i = kO ys j := by unfold kO; rw [h]
/-- a row of truths with a wrong member at k, and others behind -/
structure Wr (W : List V) (B : List Bool) (k : Nat) : Prop where
  len : W.length = B.length
  pm : ∀ x, x ∈ W → Pm x
  at_ : kO W k = false
  low : ∀ j, j < k → W[j]? = (B.map V.bl)[j]?
theorem Wr.put {B : List Bool} {k : Nat} {v : V} (hk : k < B.length) (hv : Pm v) (hb : isB v = false) : Wr ((B.map V.bl).set k v) B k :=
  ⟨by rw [List.length_set, List.length_map], fun x hx => by
    rcases List.mem_or_eq_of_mem_set hx with h | rfl
    · exact pm_bools x h
    · exact hv, by rw [kO_at (List.getElem?_set_self (by rw [List.length_map]; exact hk))]; exact hb, fun j hj => by rw [List.getElem?_set_ne (by omega)]⟩
theorem Wr.more {W : List V} {B : List Bool} {k j : Nat} {v : V} (h : Wr W B k) (hk : k ≤ j) (hj : j < B.length) (hv : Pm v) (hb : isB v = false) : Wr (W.set j v) B k :=
  ⟨by rw [List.length_set]; exact h.len, fun x hx => by
    rcases List.mem_or_eq_of_mem_set hx with h' | rfl
    · exact h.pm x h'
    · exact hv, by
      by_cases e : j = k
      · subst e; rw [kO_at (List.getElem?_set_self (by rw [h.len]; exact hj))]; exact hb
      · rw [kO_congr (List.getElem?_set_ne e)]; exact h.at_, fun i hi => by rw [List.getElem?_set_ne (by omega)]; exact h.low i hi⟩
section
variable {P : Program} {w : World} {K : PySem.W.Frag} {mg : Str → Option Value} {base : Heap}
def spLaw (K : PySem.W.Frag) (T : List (Addr × Str)) : Sp := fun vs H Q _ => ∃ (a : Addr) (ns : List Int), vs = [.ref a] ∧ ns.length ≤ 63 ∧ SqL K H a (ns.map V.int) ∧ Tabs T H ∧ ∀ H', Q (.bl true) H'
theorem sc_law : FnScope ["script", "pen", "lap", "m", "s", "rests", "odd", "k", "below", "model", "w", "wrong", "spot", "due"] ["script"] (defScope (topS 34)) := ⟨rfl, rfl, rfl, by decide +kernel, rfl, by decide +kernel, by decide +kernel⟩
structure LawF (P : Program) (w : World) (K : PySem.W.Frag) (mg : Str → Option Value) (base : Heap) (C CT CF CL : Addr) : Prop where
  B : Bn mg
  c_Where : Cls K C
  no_Where_period : NoAttr K C "period"
  no_Where_rests : NoAttr K C "rests"
  no_Where_start : NoAttr K C "start"
  no_Where_below : NoAttr K C "below"
  M_Where : MakeF P w K mg base "Where" C 5 (spWhereY K C CT CF CL)
  G__law_pen : CallF P w K mg base "_law_pen" ["script"] 1 (spPen K)
  G__law_draw : CallF P w K mg base "_law_draw" ["pen", "many"] 2 spDraw
  G__law_pick : CallF P w K mg base "_law_pick" ["pen", "some"] 3 (spPick K)
  G__law_rests_of : CallF P w K mg base "_law_rests_of" ["pen", "m"] 3 spRestsOf
  G__law_asked_right : CallF P w K mg base "_law_asked_right" ["pen", "w", "model"] 8 (spAsked C)
  xT : ExT P K mg "BadTruth" CT ["index"]
  xF : ExT P K mg "TooFine" CF ["most"]
  xL : ExT P K mg "TooLate" CL ["most"]
  tt : PySem.W.exmOne K (.ref CT) (.ref CT) = some true
  ft : PySem.W.exmOne K (.ref CF) (.ref CT) = some false
  ff : PySem.W.exmOne K (.ref CF) (.ref CF) = some true
  lt : PySem.W.exmOne K (.ref CL) (.ref CT) = some false
  lf : PySem.W.exmOne K (.ref CL) (.ref CF) = some false
  ll : PySem.W.exmOne K (.ref CL) (.ref CL) = some true
theorem ok_law {C_Where CT CF CL c Pt : Addr} (L : LawF P w K mg base C_Where CT CF CL) (TB : TabB base mg c Pt) {g__law_refusalA : Addr} {fdF : FuncData} (Ff : Fun K "_law_refusal" "_law_refusal" (topS 32) g__law_refusalA fdF) (g__law_refusal : mg "_law_refusal" = some (.ref g__law_refusalA)) (b__law_refusal : Binds K fdF ["call"] [])
    {f : Addr} {oc : Value} {od : Option Addr} {kV doc pm : Value} {an : Option Addr} {ct : Value} {osl : Array (Option Value)}
    (lk : K.lookup f = some ⟨oc, od, .func (PySem.W.fnOf "law" "law" (defArgs (topS 34)) (defBody (topS 34)) (defScope (topS 34)) .none kV doc pm an (.ref c) ct), osl⟩) (hcd : PySem.W.codeIn K (.ref c) "law" = true)
    {T_ : List (Addr × Str)} (hT1 : (Pt, (envOfC "law" (defScope (topS 34)) 0 f (.ref c)).qual ++ "<lambda>") ∈ T_) (hT2 : ∀ p ∈ T_, p.1 = Pt → p.2 = (envOfC "law" (defScope (topS 34)) 0 f (.ref c)).qual ++ "<lambda>") :
    FnOk P w K mg base (L2.CX P w) 20 f (PySem.W.fnOf "law" "law" (defArgs (topS 34)) (defBody (topS 34)) (defScope (topS 34)) .none kV doc pm an (.ref c) ct) ["script"] (spLaw K T_) := by
  have nd := sc_law.nd
  have B := L.B
  have M_Where := L.M_Where
  have c_Where := L.c_Where
  have n1 := L.no_Where_period
  have n2 := L.no_Where_rests
  have n3 := L.no_Where_start
  have n4 := L.no_Where_below
  have G__law_pen := L.G__law_pen
  have G__law_draw := L.G__law_draw
  have G__law_pick := L.G__law_pick
  have G__law_rests_of := L.G__law_rests_of
  have G__law_asked_right := L.G__law_asked_right
  have kp__law_refusal := Ff.kp
  obtain ⟨ocF, odF, kVF, docF, pmF, anF, cdvF, ctF, oslF, rfl, lk__law_refusal, cg__law_refusal⟩ := Ff.ex
  refine fn_of lk hcd sc_law (fun vs H Q E h => ?_) (fun A outer s H vs Q E hr h => ?_)
  · obtain ⟨a, ns, rfl, _⟩ := h
    rfl
  · have gv__law_refusal : ∀ q : Str, GivesTo (cxOf (L2.CX P w) P w K mg base ["script", "pen", "lap", "m", "s", "rests", "odd", "k", "below", "model", "w", "wrong", "spot", "due"] "law" (defScope (topS 34)) f (.ref c) A outer s H E) ["call", "e"] "_law_refusal" (defScope (topS 32)) g__law_refusalA cdvF (defBody (topS 32)) "call" q (TFault K [(CT, "truth", "index"), (CF, "fine", "most"), (CL, "late", "most")]) := fun q => law_refusal_gives L.xT L.xF L.xL
    refine ⟨_, (pss_cons (ps_set (i := 1) nd rfl (.inl rfl) (pe_callF G__law_pen (hr.mono (by decide)) rfl passL (pa_cons (pv 0) pa_nil)))
      (pss_cons (ps_for (passes_of rfl) rfl (pi_range1 rfl B.range (pa_cons pe_int pa_nil)) (pg_name (i := 2) nd rfl (.inl rfl)) (pss_cons (ps_set (i := 3) nd rfl (.inl rfl) (pe_callF G__law_pick (hr.mono (by decide)) rfl passL (pa_cons (pv 1) (pa_cons (pe_lst (pa_cons pe_int (pa_cons pe_int (pa_cons (pe_op op_add pe_int (pe_callF G__law_draw (hr.mono (by decide)) rfl passL (pa_cons (pv 1) (pa_cons pe_int pa_nil)))) pa_nil)))) pa_nil))))
      (pss_cons (ps_set (i := 4) nd rfl (.inr rfl) (pe_callF G__law_pick (hr.mono (by decide)) rfl passL (pa_cons (pv 1) (pa_cons (pe_lst (pa_cons pe_int (pa_cons pe_int (pa_cons pe_int (pa_cons (pe_callF G__law_draw (hr.mono (by decide)) rfl passL (pa_cons (pv 1) (pa_cons pe_int pa_nil))) (pa_cons (pe_op op_add pe_int (pe_callF G__law_draw (hr.mono (by decide)) rfl passL (pa_cons (pv 1) (pa_cons pe_int pa_nil)))) pa_nil)))))) pa_nil))))
      (pss_cons (ps_asg (pe_tup (pa_cons (pe_callF G__law_rests_of (hr.mono (by decide)) rfl passL (pa_cons (pv 1) (pa_cons (pv 3) pa_nil))) (pa_cons (pe_callF G__law_draw (hr.mono (by decide)) rfl passL (pa_cons (pv 1) (pa_cons pe_int pa_nil))) pa_nil))) (pg_tupK (K := K) (n := 2) rfl rfl (pgs_cons (pg_name (i := 5) nd rfl (.inl rfl)) (pgs_cons (pg_name (i := 6) nd rfl (.inr rfl)) pgs_nil))))
      (pss_cons (ps_set (i := 8) nd rfl (.inr rfl) (pe_lc (own := [("k", 7)]) (g := gName 7) (tt := tYes) rfl nd (pi_range1 rfl B.range (pa_cons (pv 4) pa_nil)) (blkOk_by (N := ["script", "pen", "lap", "m", "s", "rests", "odd", "k", "below", "model", "w", "wrong", "spot", "due"]) (sc := defScope (topS 34)) (by decide +kernel)) (fun _ _ _ _ _ => (pg_name (i := 7) nd rfl (.inl rfl))) (fun _ _ _ _ _ => pts_nil) (fun _ _ _ _ _ => (pe_cmpR op_eq (pe_op op_modN (pv 7) pe_int) (pv 6) (nomark _)))))
      (pss_cons (ps_if (pt_cmpR op_gt (pv 4) pe_int (nomark _)) (pss_one (ps_asg (pe_not (pe_ix (ix_listK (K := K) rfl) (pv 5) (pe_op op_modN (pe_op op_sub (pv 4) pe_int) (pv 3)) (fun _ _ => rfl))) (pg_sub (pv 8) (pe_op op_sub (pv 4) pe_int) set_list))) pss_nil)
      (pss_cons (ps_set (i := 9) nd rfl (.inl rfl) (pe_tup (pa_cons (pv 8) (pa_cons (pv 5) pa_nil))))
      (pss_cons (ps_set (i := 10) nd rfl (.inl rfl) (pe_makeF M_Where (hr.mono (by decide)) rfl passL (pa_cons (pe_callTy (call_tplN (K := K) rfl) (by rfl) B.tuple_ (by decide +kernel) (pa_cons (pv 8) pa_nil)) (pa_cons (pv 5) pa_nil))))
      (pss_cons (ps_if (pt_cmpR (op_neDK (K := K) rfl hr.units) (pe_tup (pa_cons (pe_fldK (K := K) rfl (pv 10) rfl) (pa_cons (pe_fldK (K := K) rfl (pv 10) rfl) (pa_cons (pe_fldK (K := K) rfl (pv 10) rfl) (pa_cons (pe_fldK (K := K) rfl (pv 10) rfl) pa_nil))))) (pe_tup (pa_cons (pv 3) (pa_cons (pv 4) (pa_cons (pe_callTy (call_tplN (K := K) rfl) (by rfl) B.tuple_ (by decide +kernel) (pa_cons (pv 8) pa_nil)) (pa_cons (pe_callTy (call_tplN (K := K) rfl) (by rfl) B.tuple_ (by decide +kernel) (pa_cons (pv 5) pa_nil)) pa_nil))))) (nomark _)) (pss_one (ps_ret pe_bl)) pss_nil)
      (pss_cons (ps_if (pt_not (pt_val (pe_callF G__law_asked_right (hr.mono (by decide)) rfl passL (pa_cons (pv 1) (pa_cons (pv 10) (pa_cons (pv 9) pa_nil)))))) (pss_one (ps_ret pe_bl)) pss_nil)
      (pss_cons (ps_asg (pe_tup (pa_cons (pe_op op_cat (pe_callTy (call_lstK (K := K) rfl) (by rfl) B.list_ (by decide +kernel) (pa_cons (pv 8) pa_nil)) (pe_callTy (call_lstK (K := K) rfl) (by rfl) B.list_ (by decide +kernel) (pa_cons (pv 5) pa_nil))) (pa_cons (pe_callF G__law_draw (hr.mono (by decide)) rfl passL (pa_cons (pv 1) (pa_cons (pe_op op_add (pv 4) (pv 3)) pa_nil))) pa_nil))) (pg_tupK (K := K) (n := 2) rfl rfl (pgs_cons (pg_name (i := 11) nd rfl (.inr rfl)) (pgs_cons (pg_name (i := 12) nd rfl (.inl rfl)) pgs_nil))))
      (pss_cons (ps_asg (pe_callF G__law_pick (hr.mono (by decide)) rfl passL (pa_cons (pv 1) (pa_cons (pe_lst (pa_cons pe_int (pa_cons pe_int (pa_cons pe_non (pa_cons pe_str pa_nil))))) pa_nil))) (pg_sub (pv 11) (pv 12) set_list))
      (pss_cons (ps_if (pt_cmpR op_eq (pe_callF G__law_draw (hr.mono (by decide)) rfl passL (pa_cons (pv 1) (pa_cons pe_int pa_nil))) pe_int (nomark _)) (pss_one (ps_asg pe_int (pg_sub (pv 11) (pe_op op_add (pv 12) (pe_callF G__law_draw (hr.mono (by decide)) rfl passL (pa_cons (pv 1) (pa_cons (pe_op op_sub (pe_op op_add (pv 4) (pv 3)) (pv 12)) pa_nil)))) set_list))) pss_nil)
      (pss_cons (ps_set (i := 13) nd rfl (.inl rfl) (pe_tup (pa_cons pe_str (pa_cons (pe_ifExp (pt_cmpR op_lt (pv 12) (pv 4) (nomark _)) (pv 12) (pe_op op_sub (pv 12) (pv 4))) pa_nil))))
      (pss_cons (ps_if (pt_cmpR (op_neDK (K := K) rfl hr.units) (pe_lamcall (T := T_) (k := 9) rfl g__law_refusal kp__law_refusal lk__law_refusal cg__law_refusal b__law_refusal sc__law_refusal rfl (.inl rfl) (gv__law_refusal _) TB rfl hT1 hT2 (hr.mono (by decide)) (lamS_by (sc := defScope (topS 34)) (by decide +kernel)) rfl (fun _ _ _ _ _ => rfl) (fun A outer s H E f c' hr => by exact (pe_makeF M_Where (hr.mono (by decide)) rfl (passes_call (takes_of rfl rfl rfl rfl) (fun _ _ _ _ h => h)) (pa_cons (pe_slice (sl_listK (K := K) rfl) (pv 11) po_none (po_some (pv 4))) (pa_cons (pe_slice (sl_listK (K := K) rfl) (pv 11) (po_some (pv 4)) po_none) pa_nil))))) (pv 13) (nomark _)) (pss_one (ps_ret pe_bl)) pss_nil)
      (pss_cons (ps_if (pt_cmpR (op_neDK (K := K) rfl hr.units) (pe_lamcall (T := T_) (k := 9) rfl g__law_refusal kp__law_refusal lk__law_refusal cg__law_refusal b__law_refusal sc__law_refusal rfl (.inl rfl) (gv__law_refusal _) TB rfl hT1 hT2 (hr.mono (by decide)) (lamS_by (sc := defScope (topS 34)) (by decide +kernel)) rfl (fun _ _ _ _ _ => rfl) (fun A outer s H E f c' hr => by exact (pe_makeF M_Where (hr.mono (by decide)) rfl (passes_call (takes_of rfl rfl rfl rfl) (fun _ _ _ _ h => h)) (pa_cons (pv 8) (pa_cons (pe_lc (own := [("k", 7)]) (g := gName 7) (tt := tYes) rfl nd (pi_range1 rfl B.range (pa_cons pe_int pa_nil)) (blkOk_by (by (try dsimp only [lamCx, cxOf]); decide +kernel)) (fun _ _ _ _ _ => (pg_name (i := 7) nd rfl (.inl rfl))) (fun _ _ _ _ _ => pts_nil) (fun _ _ _ _ _ => (pe_cmpR op_eq (pv 7) pe_int (nomark _)))) pa_nil))))) (pe_tup (pa_cons pe_str (pa_cons pe_int pa_nil))) (nomark _)) (pss_one (ps_ret pe_bl)) pss_nil)
      (pss_one (ps_if (pt_cmpR (op_neDK (K := K) rfl hr.units) (pe_lamcall (T := T_) (k := 9) rfl g__law_refusal kp__law_refusal lk__law_refusal cg__law_refusal b__law_refusal sc__law_refusal rfl (.inl rfl) (gv__law_refusal _) TB rfl hT1 hT2 (hr.mono (by decide)) (lamS_by (sc := defScope (topS 34)) (by decide +kernel)) rfl (fun _ _ _ _ _ => rfl) (fun A outer s H E f c' hr => by exact (pe_makeF M_Where (hr.mono (by decide)) rfl (passes_call (takes_of rfl rfl rfl rfl) (fun _ _ _ _ h => h)) (pa_cons (pe_op op_cat (pe_op op_rep (pe_lst (pa_cons pe_bl pa_nil)) pe_int) (pe_lst (pa_cons pe_bl pa_nil))) (pa_cons (pe_lst (pa_cons pe_bl pa_nil)) pa_nil))))) (pe_tup (pa_cons pe_str (pa_cons pe_int pa_nil))) (nomark _)) (pss_one (ps_ret pe_bl)) pss_nil))))))))))))))))))
      (pss_one (ps_ret pe_bl)))), ?_⟩
    obtain ⟨a, ns, rfl, hns, ha, hTabs, q⟩ := h
    refine g_st (σ' := [some (.ref a), none, none, none, none, none, none, none, none, none, none, none, none, none]) rfl ?_
    have cfine : PyData.canLay0 (.str "fine") = true := by decide +kernel
    have clate : PyData.canLay0 (.str "late") = true := by decide +kernel
    have ctruth : PyData.canLay0 (.str "truth") = true := by decide +kernel
    walk_at "gos"
    refine ⟨a, ns, rfl, ha, fun p pc H1 e1 hp1 => ?_⟩
    have hT1' := tabs_d hTabs e1.d
    walk_at "gos"
    refine u_rng (by omega) (by omega) ?_
    refine for_it walk_range (fun i σ' H' => Pen H' p pc (1000 * i) ∧ Tabs T_ H' ∧ ∃ x2 x3 x4 x5 x6 x7 x8 x9 x10 x11 x12 x13, σ' = [some (.ref a), some (.ref p), x2, x3, x4, x5, x6, x7, x8, x9, x10, x11, x12, x13]) ?_ (fun _ _ _ _ _ => trivial) (fun i y σ' H' H0 hi q2 hy' => ?_) (fun σ' H' q2 => ?_)
    · exact ⟨hp1, hT1', none, none, none, none, none, none, none, none, none, none, none, none, rfl⟩
    · obtain ⟨hp, hTb, x2, x3, x4, x5, x6, x7, x8, x9, x10, x11, x12, x13, rfl⟩ := q2
      obtain ⟨rfl, rfl⟩ := hy'
      have hi2 : i < 2 := hi
      walk_at "gos"
      refine ⟨p, pc, _, _, rfl, hp, by omega, by decide, by decide, fun r1 H1 h0 h1 e1 hp1 => ?_⟩
      walk_at "gos"
      (walk_at "new"; rename_i l2 _ H2 e2 h2; walk_at "gos")
      have hp2 := hp1.same e2
      refine ⟨p, pc, l2, _, _, rfl, hp2, by omega, sqL h2, (fun z => by cases z), (by show 3 < 100000; decide), fun i1 mv H3 hmv e3 hp3 => ?_⟩
      obtain ⟨m, rfl, hm1, hm2⟩ : ∃ m : Nat, mv = .int m ∧ 25 ≤ m ∧ m ≤ 720 := by
        match i1, hmv with
        | 0, hv => exact ⟨720, (Option.some.inj hv).symm, by decide, by decide⟩
        | 1, hv => exact ⟨719, (Option.some.inj hv).symm, by decide, by decide⟩
        | 2, hv => exact ⟨(25 + r1).toNat, (Option.some.inj hv).symm.trans (congrArg V.int (by omega)), by omega, by omega⟩
        | i + 3, hv => cases hv
      have hT3 := tabs_d hTb (e1.trans (e2.d.trans e3))
      clear h0 h1 e1 hp1 h2 e2 hp2 hmv e3 hp hTb
      walk_at "gos"
      refine ⟨p, pc, _, _, rfl, hp3, by omega, by decide, by decide, fun r4 H4 h0 h1 e4 hp4 => ?_⟩
      walk_at "gos"
      refine ⟨p, pc, _, _, rfl, hp4, by omega, by decide, by decide, fun r5 H5 h2 h3 e5 hp5 => ?_⟩
      walk_at "gos"
      (walk_at "new"; rename_i l6 _ H6 e6 h6; walk_at "gos")
      have hp6 := hp5.same e6
      refine ⟨p, pc, l6, _, _, rfl, hp6, by omega, sqL h6, (fun z => by cases z), (by show 5 < 100000; decide), fun i1 sv H7 hsv e7 hp7 => ?_⟩
      obtain ⟨sn, rfl, hs2⟩ : ∃ sn : Nat, sv = .int sn ∧ sn ≤ 10000 := by
        match i1, hsv with
        | 0, hv => exact ⟨0, (Option.some.inj hv).symm, by decide⟩
        | 1, hv => exact ⟨10000, (Option.some.inj hv).symm, by decide⟩
        | 2, hv => exact ⟨9999, (Option.some.inj hv).symm, by decide⟩
        | 3, hv => exact ⟨r4.toNat, (Option.some.inj hv).symm.trans (congrArg V.int (by omega)), by omega⟩
        | 4, hv => exact ⟨(9000 + r5).toNat, (Option.some.inj hv).symm.trans (congrArg V.int (by omega)), by omega⟩
        | i + 5, hv => cases hv
      have hT7 := tabs_d hT3 (e4.trans (e5.trans (e6.d.trans e7)))
      clear h0 h1 h2 h3 e4 e5 e6 e7 hp3 hp4 hp5 hp6 hT3 h6 hsv
      walk_at "gos"
      refine ⟨p, pc, m, _, rfl, hp7, by omega, by omega, hm2, fun rl R H8 e8 hp8 hrl hRl hLP hRk => ?_⟩
      walk_at "gos"
      refine ⟨p, pc, _, _, rfl, hp8, by omega, by decide, by decide, fun r9 H9 h0 h1 e9 hp9 => ?_⟩
      obtain ⟨odd, rfl⟩ := Int.eq_ofNat_of_zero_le h0
      have hrl9 := e9.lst hrl
      have hT9 := tabs_d hT7 (e8.trans e9)
      clear h0 h1 e8 e9 hp8 hp7 hT7 hrl
      walk_at "gos"
      (walk_at "new"; rename_i t10 _ H10 e10 h10; walk_at "gos")
      have hp10 := hp9.same e10
      have hT10 := hT9.ext e10
      have hrl10 := e10 _ _ hrl9
      clear h10 e10 hp9 hT9 hrl9
      have hR0 : 0 < R.length := by omega
      refine u_rng (by omega) (by omega) fun D hD => ?_
      refine lc_it walk_range (PvL H10 D (fun _ => true) (fun k => .bl (decide (k % 97 = odd)))) (lc_start hD) (fun _ _ _ _ => trivial) (fun k y H11 H12 hi pv q6 => ?_) (fun H11 pv => ?_)
      · obtain ⟨rfl, rfl⟩ := q6
        walk_at "gos"
        refine ⟨rfl, ?_⟩
        walk_at "gos"
        refine g_I (by omega) ?_
        rw [show (0 : Int) + (k : Int) = (k : Nat) by omega, show (97 : Int) = ((97 : Nat) : Int) from rfl, fmod_nat]
        walk_at "gos"
        exact lc_yes hD pv (Same.refl _) rfl (by
          show V.bl (decide (((k % 97 : Nat) : Int) = (odd : Nat))) = V.bl (decide (k % 97 = odd))
          by_cases h : k % 97 = odd
          · rw [decide_eq_true h, decide_eq_true (by omega)]
          · rw [decide_eq_false h, decide_eq_false (by omega)]) (by omega)
      obtain ⟨e11, h11⟩ := pv
      rw [given_all, Int.toNat_natCast] at h11
      obtain ⟨B0, hB0⟩ : ∃ B0, B0 = (List.range sn).map fun k => decide (k % 97 = odd) := ⟨_, rfl⟩
      have hB0l : B0.length = sn := by rw [hB0, List.length_map, List.length_range]
      have h11' : H11 D = some (.lst (B0.map V.bl)) := by rw [h11, hB0, List.map_map]; rfl
      have hp11 := hp10.same e11
      have hT11 := hT10.ext e11
      have hrl11 := e11 _ _ hrl10
      have hDrl : D ≠ rl := fun z => by rw [z, hrl10] at hD; cases hD
      have hpD := hp10.ne hD
      have hTD : ∀ o, Tabs T_ (upd H11 D o) := fun o => tabs_upd hT11 h11'
      clear h11 e11 hp10 hT10 hrl10 hB0 hD
      walk_at "gou"
      ((with_reducible change tSeq _ _ _ _ _); refine L2.g_cutS (fun σ' H' => Pen H' p pc (1000 * i + 30) ∧ Tabs T_ H' ∧ H' rl = some (.lst (R.map V.bl)) ∧ ∃ (Bl : List Bool) (z7 : Option V), H' D = some (.lst (Bl.map V.bl)) ∧ Bl.length = sn ∧ (0 < Bl.length → bt Bl (Bl.length - 1) ≠ bt R ((Bl.length - 1) % R.length)) ∧ σ' = [some (.ref a), some (.ref p), some (.int (0 + (i : Int))), some (.int m), some (.int sn), some (.ref rl), some (.int odd), z7, some (.ref D), x9, x10, x11, x12, x13]) (fun nx hnx => ?_) (fun σ' H12 hR12 => ?_))
      · walk_at "gos"
        by_cases hs0 : 0 < sn
        · rw [if_pos (decide_eq_true (by omega))]
          walk_at "gos"
          rw [show (sn : Int) - 1 = ((sn - 1 : Nat) : Int) by omega]
          refine g_I (by omega) ?_
          rw [fmod_nat]
          refine u_ixL (sqL hrl11) (atI_nat (atB (by rw [hRl]; exact Nat.mod_lt _ (by omega)))) ?_
          walk_at "gos"
          rw [show (sn : Int) - 1 = ((sn - 1 : Nat) : Int) by omega]
          refine u_setL h11' (by rw [List.length_map]; omega) ?_
          walk_at "gos"
          rw [bset]
          have hlen : (B0.set (sn - 1) (!bt R ((sn - 1) % m))).length = sn := by rw [List.length_set]; exact hB0l
          refine hnx _ _ ⟨(hp11.mono (by omega)).upd hpD.1 hpD.2, hTD _, by rw [upd_ne hDrl.symm]; exact hrl11, B0.set (sn - 1) (!bt R ((sn - 1) % m)), _, upd_same, hlen, fun _ => ?_, rfl⟩
          rw [hlen, hRl, bt_in (by rw [hlen]; omega), List.getElem_set_self]
          cases bt R ((sn - 1) % m) <;> decide
        · rw [if_neg (by rw [decide_eq_true_iff]; omega)]
          walk_at "gos"
          exact hnx _ _ ⟨hp11.mono (by omega), hT11, hrl11, B0, _, h11', hB0l, fun h => by omega, rfl⟩
      obtain ⟨hp12, hT12, hrl12, Bl, z7, hbl12, hBl, hlow, rfl⟩ := hR12
      clear h11' hp11 hT11 hrl11 hDrl hpD hTD hB0l
      have hnm := nm_self hLP hlow
      walk_at "gos"
      (walk_at "new"; rename_i t13 _ H13 e13 h13; walk_at "gos")
      have hM13 : IsM H13 t13 Bl R := ⟨D, rl, h13, e13 _ _ hbl12, e13 _ _ hrl12⟩
      walk_at "gos"
      refine u_tplN (sqL (e13 _ _ hbl12)) fun t14 H14 e14 h14 => ?_
      walk_at "gos"
      have e1214 := e13.trans e14
      refine u_whereXY (.inr h14) (.inl (sqL (e1214 _ _ hrl12))) hR0 (by omega) (by omega) hnm (fun _ => rfl) (fun h => absurd h (by omega)) (fun _ h => absurd h (by omega)) fun _ _ x H15 _ e15 hw => ?_
      have hw15 : WFN H15 x C_Where (mem Bl R) := ⟨Bl, R, hw, hnm, fun _ => rfl, by omega, by omega⟩
      obtain ⟨dx, t1, t2, hx, ht1, ht2⟩ := hw
      have e1215 := e1214.trans e15
      have hbl15 := e1215 _ _ hbl12
      have hrl15 := e1215 _ _ hrl12
      have hM15 := hM13.l (e14.trans e15).l
      have hp15 := hp12.same e1215
      have hT15 := hT12.ext e1215
      clear hbl12 hrl12 hM13 hp12 hT12 e1215 e1214 e13 e14 e15 h14 h13
      walk_at "gos"
      refine u_tfld rfl hx c_Where n1 rfl ?_
      walk_at "gos"
      refine u_tfld rfl hx c_Where n3 rfl ?_
      walk_at "gos"
      refine u_tfld rfl hx c_Where n4 rfl ?_
      walk_at "gos"
      refine u_tfld rfl hx c_Where n2 rfl ?_
      walk_at "gos"
      (walk_at "new"; rename_i t16 _ H16 e16 h16; walk_at "gos")
      walk_at "gos"
      refine u_tplN (sqL (e16 _ _ hbl15)) fun t17 H17 e17 h17 => ?_
      walk_at "gos"
      have e1517 := e16.trans e17
      refine u_tplN (sqL (e1517 _ _ hrl15)) fun t18 H18 e18 h18 => ?_
      walk_at "gos"
      (walk_at "new"; rename_i t19 _ H19 e19 h19; walk_at "gos")
      have e1819 := e18.trans e19
      have e1719 := e17.trans e1819
      have e1619 := e16.trans e1719
      rw [hRl, hBl] at h16
      refine u_neIIBB (sqT (e1719 _ _ h16)) (ht2.same e1619).sq (ht1.same e1619).sq (sqT h19) (h17.same e1819).sq (h18.same e19).sq ?_
      walk_at "gos"
      have hp19 := hp15.same e1619
      have hw19 := hw15.l e1619.l
      have hM19 := hM15.l e1619.l
      have hT19 := hT15.ext e1619
      have hbl19 := e1619 _ _ hbl15
      have hrl19 := e1619 _ _ hrl15
      clear hbl15 hrl15 hM15 hp15 hT15 hw15 hx ht1 ht2 e16 h16 e17 h17 e18 h18 e19 h19 e1619 e1719 e1819 e1517
      refine ⟨p, pc, x, t13, _, Bl, R, rfl, hp19, by omega, hw19, hM19, by omega, by omega, ⟨_, by rw [hRl]; exact hRk.choose_spec.1, hRk.choose_spec.2⟩, fun H20 e20 hp20 => ?_⟩
      walk_at "gos"
      have hbl20 := e20.lst hbl19
      have hrl20 := e20.lst hrl19
      have hT20 := tabs_d hT19 e20
      clear e20 hp19 hw19 hM19 hT19 hbl19 hrl19
      refine u_list (.inl (sqL hbl20)) fun l21 H21 _ e21 h21 => ?_
      walk_at "gos"
      refine u_list (.inl (sqL (e21 _ _ hrl20))) fun l22 H22 _ e22 h22 => ?_
      refine u_cat (e22 _ _ h21) h22 (by rw [List.length_map, List.length_map]; omega) fun lw H23 hlw e23 h23 => ?_
      rw [← List.map_append] at h23
      walk_at "gos"
      have e2123 := e21.trans (e22.trans e23)
      have hp23 := hp20.same e2123
      have hBRl : (Bl ++ R).length = sn + m := by rw [List.length_append]; omega
      refine ⟨p, pc, _, _, rfl, hp23, by omega, by omega, by omega, fun r24 H24 h0 h1 e24 hp24 => ?_⟩
      obtain ⟨spot, rfl⟩ := Int.eq_ofNat_of_zero_le h0
      have hspot : spot < sn + m := by omega
      walk_at "gos"
      (walk_at "new"; rename_i t25 _ H25 e25 h25; walk_at "gos")
      have hne1 : D ≠ lw := fun z => by rw [← z] at hlw; rw [(e21.trans e22) _ _ hbl20] at hlw; cases hlw
      have hne2 : rl ≠ lw := fun z => by rw [← z] at hlw; rw [(e21.trans e22) _ _ hrl20] at hlw; cases hlw
      have hpl := (hp20.same (e21.trans e22)).ne hlw
      have hp25 := hp24.same e25
      have hW25 := e25 _ _ (e24.lst h23)
      have hbl25 := e25 _ _ (e24.lst (e2123 _ _ hbl20))
      have hrl25 := e25 _ _ (e24.lst (e2123 _ _ hrl20))
      have hT25 := (tabs_d (hT20.ext e2123) e24).ext e25
      clear h0 h1 e21 e22 e23 e24 e25 e2123 hp20 hp23 hp24 h21 h22 h23 h25 hlw hbl20 hrl20 hT20
      walk_at "gos"
      (walk_at "new"; rename_i l26 _ H26 e26 h26; walk_at "gos")
      refine ⟨p, pc, l26, _, _, rfl, hp25.same e26, by omega, sqL h26, (fun z => by cases z), (by show 4 < 100000; decide), fun i1 ov H27 hov e27 hp27 => ?_⟩
      obtain ⟨hov1, hov2⟩ : Pm ov ∧ isB ov = false := by
        match i1, hov with
        | 0, hv => obtain rfl := Option.some.inj hv; exact ⟨.int _, rfl⟩
        | 1, hv => obtain rfl := Option.some.inj hv; exact ⟨.int _, rfl⟩
        | 2, hv => obtain rfl := Option.some.inj hv; exact ⟨.non, rfl⟩
        | 3, hv => obtain rfl := Option.some.inj hv; exact ⟨.str _, rfl⟩
        | i + 4, hv => cases hv
      have hW27 := e27.lst (e26 _ _ hW25)
      have hbl27 := e27.lst (e26 _ _ hbl25)
      have hrl27 := e27.lst (e26 _ _ hrl25)
      have hT27 := tabs_d (hT25.ext e26) e27
      clear hov e26 e27 hp25 hW25 hbl25 hrl25 hT25 h26
      walk_at "gos"
      refine u_setL hW27 (by rw [List.length_map]; omega) ?_
      have hWr := Wr.put (B := Bl ++ R) (k := spot) (by omega) hov1 hov2
      generalize hX : upd H27 lw _ = H28
      have hW28 : H28 lw = some (.lst (((Bl ++ R).map V.bl).set spot ov)) := by rw [← hX]; exact upd_same
      have hbl28 : H28 D = some (.lst (Bl.map V.bl)) := by rw [← hX, upd_ne hne1]; exact hbl27
      have hrl28 : H28 rl = some (.lst (R.map V.bl)) := by rw [← hX, upd_ne hne2]; exact hrl27
      have hp28 : Pen H28 p pc (1000 * i + 30 + 50 + 1 + 1) := by rw [← hX]; exact hp27.upd hpl.1 hpl.2
      have hT28 : Tabs T_ H28 := by rw [← hX]; exact tabs_upd hT27 hW27
      clear hX hW27 hbl27 hrl27 hp27 hT27 hov1 hov2
      generalize ((Bl ++ R).map V.bl).set spot ov = W0 at hW28 hWr
      walk_at "gou"
      ((with_reducible change tSeq _ _ _ _ _); refine L2.g_cutS (fun σ' H' => Pen H' p pc (1000 * i + 500) ∧ Tabs T_ H' ∧ H' rl = some (.lst (R.map V.bl)) ∧ H' D = some (.lst (Bl.map V.bl)) ∧ ∃ W, H' lw = some (.lst W) ∧ Wr W (Bl ++ R) spot ∧ σ' = [some (.ref a), some (.ref p), some (.int (0 + (i : Int))), some (.int m), some (.int sn), some (.ref rl), some (.int odd), z7, some (.ref D), some (.ref t13), some (.ref x), some (.ref lw), some (.int spot), x13]) (fun nx hnx => ?_) (fun σ' H29 hR29 => ?_))
      · walk_at "gos"
        refine ⟨p, pc, _, _, rfl, hp28, by omega, by decide, by decide, fun r29 H29 h0 h1 e29 hp29 => ?_⟩
        walk_at "gos"
        refine g_itd (fun hw => ?_) (fun hw => ?_)
        · walk_at "gos"
          refine ⟨p, pc, _, _, rfl, hp29, by omega, by omega, by omega, fun r30 H30 h2 h3 e30 hp30 => ?_⟩
          obtain ⟨j30, rfl⟩ := Int.eq_ofNat_of_zero_le h2
          walk_at "gos"
          rw [show (spot : Int) + (j30 : Nat) = ((spot + j30 : Nat) : Int) by omega]
          have e2930 := e29.trans e30
          have hl30 := e2930.lst hW28
          refine u_setL hl30 (by rw [hWr.len]; omega) ?_
          walk_at "gos"
          exact hnx _ _ ⟨(hp30.mono (by omega)).upd hpl.1 hpl.2, tabs_upd (tabs_d hT28 e2930) hl30, by rw [upd_ne hne2]; exact e2930.lst hrl28, by rw [upd_ne hne1]; exact e2930.lst hbl28, _, upd_same, hWr.more (by omega) (by omega) (.int 1) rfl, rfl⟩
        · walk_at "gos"
          exact hnx _ _ ⟨hp29.mono (by omega), tabs_d hT28 e29, e29.lst hrl28, e29.lst hbl28, _, e29.lst hW28, hWr, rfl⟩
      obtain ⟨hp29, hT29, hrl29, hbl29, W, hW29, hWr', rfl⟩ := hR29
      clear hp28 hT28 hrl28 hbl28 hW28 hWr
      obtain ⟨st, hst⟩ : ∃ st : Addr → L2.St, st = fun td => [some (.ref a), some (.ref p), some (.int (0 + (i : Int))), some (.int m), some (.int sn), some (.ref rl), some (.int odd), z7, some (.ref D), some (.ref t13), some (.ref x), some (.ref lw), some (.int spot), some (.ref td)] := ⟨_, rfl⟩
      obtain ⟨idx, hidx⟩ : ∃ idx : Nat, idx = if spot < sn then spot else spot - sn := ⟨_, rfl⟩
      walk_at "gou"
      ((with_reducible change tSeq _ _ _ _ _); refine L2.g_cutS (fun σ' H' => Same H29 H' ∧ ∃ td, σ' = st td ∧ H' td = some (.tup [.str "truth", .int (idx : Nat)])) (fun nx hnx => ?_) (fun σ' H30 hR30 => ?_))
      · walk_at "gos"
        by_cases hc : spot < sn
        · rw [if_pos (decide_eq_true (by omega))]
          walk_at "gos"
          (walk_at "new"; rename_i t30 _ H30 e30 h30; walk_at "gos")
          exact hnx _ _ ⟨e30, t30, by rw [hst], by rw [h30, hidx, if_pos hc]⟩
        · rw [if_neg (by rw [decide_eq_true_iff]; omega)]
          walk_at "gos"
          (walk_at "new"; rename_i t30 _ H30 e30 h30; walk_at "gos")
          exact hnx _ _ ⟨e30, t30, by rw [hst], by rw [h30, hidx, if_neg hc, show (spot : Int) - (sn : Nat) = ((spot - sn : Nat) : Int) by omega]⟩
      obtain ⟨e30, td, rfl, htd⟩ := hR30
      have hp30 := hp29.same e30
      have hT30 := hT29.ext e30
      have hbl30 := e30 _ _ hbl29
      have hW30 := e30 _ _ hW29
      clear hp29 hT29 hrl29 hbl29 hW29 e30
      rw [hst]
      walk_at "gou"
      ((with_reducible change tSeq _ _ _ _ _); refine L2.g_cutS (fun σ' H' => ExtN H30 H' ∧ Tabs T_ H' ∧ σ' = st td) (fun nx hnx => ?_) (fun σ' H31 hR31 => ?_))
      · walk_at "gos"
        refine g_lam hT30 fun H31 e31 hT31 => g_fault ?_
        have hW31 := (extN_l e31).lst hW30
        have s31 := e31
        walk_at "gos"
        refine u_sl (sqL hW31) fun lx H32 _ e32 h32 => ?_
        rw [cut_to] at h32
        walk_at "gos"
        refine u_sl (sqL (e32 _ _ hW31)) fun ly H33 _ e33 h33 => ?_
        rw [cut_from] at h33
        walk_at "gos"
        have htd31 := (extN_l e31).tupA htd
        have fin : ∀ H', Same H33 H' → nx (st td) H' := fun H' e' => hnx _ _ ⟨extN_ext (extN_ext e31 (e32.trans e33)) e', hT31.ext ((e32.trans e33).trans e'), rfl⟩
        rw [hst] at fin
        have hlx := e33 _ _ h32
        have hWl : W.length = sn + m := by rw [hWr'.len, hBRl]
        have pm1 : ∀ z, z ∈ W.take sn → Pm z := fun z hz => hWr'.pm z (List.mem_of_mem_take hz)
        have pm2 : ∀ z, z ∈ W.drop sn → Pm z := fun z hz => hWr'.pm z (List.mem_of_mem_drop hz)
        have hl1 : (W.take sn).length = sn := by rw [List.length_take]; omega
        have hl2 : (W.drop sn).length = m := by rw [List.length_drop]; omega
        have hlowb : ∀ j, j < spot → kO W j = true := fun j hj => by rw [kO_congr (hWr'.low j hj), kO_bools]
        have step : ∀ H' d, Same H33 H' → H' d = some (.xd [("index", .int (idx : Nat))]) → ∀ Q' : VK, (∀ t H'', Same H33 H'' → H'' t = some (.tup [.str "truth", .int (idx : Nat)]) → Q' (.ref t) H'') → EF K Q' [(CT, "truth", "index"), (CF, "fine", "most"), (CL, "late", "most")] (.ref CT) (some d) H' := fun H' d e hd Q' hq => ef_here L.tt hd fun t H'' e' ht => hq t H'' (e.trans e') ht
        by_cases hc : spot < sn
        · rw [if_pos hc] at hidx
          subst hidx
          refine u_whereB1 (k := idx) (.inl (sqL hlx)) (.inl (sqL h33)) pm1 pm2 (by omega) (by omega) (by omega) (by rw [kO_congr (List.getElem?_take_of_lt hc)]; exact hWr'.at_) (fun j hj => by rw [kO_congr (List.getElem?_take_of_lt (by omega))]; exact hlowb j hj) fun H34 d e34 hd => ?_
          refine step H34 d e34 hd _ fun t H35 e35' ht => ?_
          walk_at "gos"
          refine u_neTag ctruth ht ((e32.trans (e33.trans e35')) _ _ htd31) ?_
          walk_at "gos"
          exact fin _ e35'
        · rw [if_neg hc] at hidx
          subst hidx
          have hxs : W.take sn = Bl.map V.bl := by
            refine List.ext_getElem? fun j => ?_
            by_cases hj : j < sn
            · rw [List.getElem?_take_of_lt hj, hWr'.low j (by omega), List.map_append, List.getElem?_append_left (by rw [List.length_map]; omega)]
            · rw [List.getElem?_eq_none (by omega), List.getElem?_eq_none (by rw [List.length_map]; omega)]
          rw [hxs] at hlx
          refine u_whereB2 (k := spot - sn) (.inl (sqL hlx)) (.inl (sqL h33)) pm2 (by omega) (by omega) (by omega) (by rw [kO_congr (j := spot) (by rw [List.getElem?_drop]; congr 1; omega)]; exact hWr'.at_) (fun j hj => by rw [kO_congr (j := sn + j) List.getElem?_drop]; exact hlowb _ (by omega)) fun H34 d e34 hd => ?_
          refine step H34 d e34 hd _ fun t H35 e35' ht => ?_
          walk_at "gos"
          refine u_neTag ctruth ht ((e32.trans (e33.trans e35')) _ _ htd31) ?_
          walk_at "gos"
          exact fin _ e35'
      obtain ⟨e31, hT31, rfl⟩ := hR31
      have hp31 := hp30.extN e31
      have hbl31 := (extN_l e31).lst hbl30
      clear hp30 hT30 hW30 htd e31 hbl30
      rw [hst]
      walk_at "gou"
      ((with_reducible change tSeq _ _ _ _ _); refine L2.g_cutS (fun σ' H' => ExtN H31 H' ∧ Tabs T_ H' ∧ σ' = st td) (fun nx hnx => ?_) (fun σ' H32 hR32 => ?_))
      · walk_at "gos"
        refine g_lam hT31 fun H32 e32 hT32 => g_fault ?_
        have hbl32 := (extN_l e32).lst hbl31
        walk_at "gos"
        refine u_rng (by omega) (by omega) fun D2 hD2 => ?_
        refine lc_it walk_range (PvL H32 D2 (fun _ => true) (fun i => .bl (decide (i = 5)))) (lc_start hD2) (fun _ _ _ _ => trivial) (fun k y H3 H4 hi pv q6 => ?_) (fun H33 pv => ?_)
        · obtain ⟨rfl, rfl⟩ := q6
          walk_at "gos"
          refine ⟨rfl, ?_⟩
          walk_at "gos"
          exact lc_yes hD2 pv (Same.refl _) rfl (by rw [show (5 : Int) = ((5 : Nat) : Int) from rfl, dec_at]) (by omega)
        obtain ⟨e33, h33⟩ := pv
        rw [given_all] at h33
        have hot33 : H33 D2 = some (.lst ((hot 721).map V.bl)) := by rw [h33]; unfold hot; rw [List.map_map]; rfl
        have lpm := hot_lp (m := 721) (by decide)
        have hhl : (hot 721).length = 721 := hot_len
        obtain ⟨s0, hs0⟩ := st_ex Bl ((hot 721).take 721)
        obtain ⟨k1, k2⟩ := nm_made (b := Bl) (by omega) lpm hs0
        have hrl : ((hot 721).take 721).length = 721 := by rw [List.length_take]; omega
        have fin : ∀ H', Same H33 H' → nx (st td) H' := fun H' e' => hnx _ _ ⟨extN_ext (extN_ext e32 e33) e', hT32.ext (e33.trans e'), rfl⟩
        rw [hst] at fin
        walk_at "gos"
        refine u_whereXY (.inl (sqL (e33 _ _ hbl32))) (.inl (sqL hot33)) (by omega) (by omega) (by omega) k1 k2 (fun _ H34 d e34 hd => ef_next L.ft (ef_here L.ff hd fun t H35 e35 ht => ?_)) (fun h => absurd h (by omega)) (fun h => absurd h (by omega))
        walk_at "gos"
        (walk_at "new"; rename_i t36 _ H36 e36 ht36; walk_at "gos")
        refine u_neTag cfine (e36 _ _ ht) ht36 ?_
        walk_at "gos"
        exact fin _ (e34.trans (e35.trans e36))
      obtain ⟨e32, hT32, rfl⟩ := hR32
      have hp32 := hp31.extN e32
      clear hp31 hT31 hbl31 e32
      rw [hst]
      walk_at "gos"
      refine g_lam hT32 fun H33 e33 hT33 => g_fault ?_
      have hp33 := hp32.extN e33
      walk_at "gos"
      (walk_at "new"; rename_i z1 _ H34 e34 h34; walk_at "gos")
      refine u_rep h34 (by omega) (by omega) fun z2 H35 _ e35 h35 => ?_
      walk_at "gos"
      (walk_at "new"; rename_i z3 _ H36 e36 h36; walk_at "gos")
      refine u_cat (by walk_at "up") h36 (by rw [List.length_replicate, List.length_singleton]; decide) fun lt H37 _ e37 h37 => ?_
      rw [show ((10000 : Int)).toNat = 10001 - 1 from rfl, late_list] at h37
      walk_at "gos"
      (walk_at "new"; rename_i z4 _ H38 e38 h38; walk_at "gou")
      walk_at "gos"
      have hll : (lateB 10001).length = 10001 := late_len (by decide)
      obtain ⟨k1, k2⟩ := nm_made (b := lateB 10001) (R := [false]) (by decide) lp1 (late_st (by decide) (by simp [bt]))
      have hlt2 : (lateB 10001).take 10001 = lateB 10001 := List.take_of_length_le (by rw [hll]; exact Nat.le_refl _)
      rw [hlt2] at k1 k2
      have hpf : Pen H38 p pc (1000 * (i + 1)) := (hp33.same (e34.trans (e35.trans (e36.trans (e37.trans e38))))).mono (by omega)
      have hTf : Tabs T_ H38 := hT33.ext (e34.trans (e35.trans (e36.trans (e37.trans e38))))
      refine u_whereXY (R := [false]) (.inl (sqL (e38 _ _ h37))) (.inl (sqL h38)) (by decide) (by omega) (by decide) k1 k2 (fun h => absurd h (by decide)) (fun _ _ H39 d e39 hd => ef_next L.lt (ef_next L.lf (ef_here L.ll hd fun t H40 e40 ht => ?_))) (fun _ h => absurd h (by omega))
      walk_at "gos"
      (walk_at "new"; rename_i t41 _ H41 e41 ht41; walk_at "gos")
      refine u_neTag clate (e41 _ _ ht) ht41 ?_
      walk_at "gos"
      have ee := e39.trans (e40.trans e41)
      exact ⟨hpf.same ee, hTf.ext ee, _, _, _, _, _, _, _, _, _, _, _, _, rfl⟩
    · obtain ⟨hp, hTb, x2, x3, x4, x5, x6, x7, x8, x9, x10, x11, x12, x13, rfl⟩ := q2
      walk_at "gos"
      exact q _
end
end Ev

end
/-! The written part's facts, put together. -/
namespace L2
open PySem PySem.Spec PyProof.Rows PySem.W PySem.SupX
/-- the __init__ of an exception: super().__init__(text), then its fields -/
structure ExS (S : Stmt) (fs : List Str) (l : List (Str × Pos × Pos × Pos × Pos)) (tx : Str) (j : Nat) (p0 p1 p2 p3 p4 p5 : Pos) (ar : Arg) : Prop where
  body : defBody S = .Expr (.Call (.Attribute (.Call (.Name "super" p0) [] [] p1) "__init__" p2) [.Constant (.str tx) j p3] [] p4) p5 :: l.map mkStore
  names : l.map (·.1) = fs
  head : ((defArgs S).posonlyargs ++ (defArgs S).args).head? = some ar
  ar : ar.arg = "self"
  kind : (defScope S).kind = .function
  co : (defScope S).isCoroutine = false
  gen : (defScope S).isGenerator = false
  nocell : (defScope S).names.all (fun x => !decide (x.2 = .cell)) = true
  loc : (("self" : Str) :: fs).all (fun y => decide ((defScope S).names.lookup y = some .local)) = true
  dbg : fs.all (fun y => !(y == ("__debug__" : Str))) = true
  sup : (defScope S).names.lookup ("super" : Str) = some .globalImplicit
  cls : (defScope S).names.lookup ("__class__" : Str) = some .free
  nd : (("self" : Str) :: fs).Nodup
  ev : ∀ (qual : Str) (fI cda cc : Addr), ∃ pl : Addr → Sem Bool, ∀ L : Addr, eval (.Call (.Attribute (.Call (.Name "super" p0) [] [] p1) "__init__" p2) [.Constant (.str tx) j p3] [] p4) (ksEnv qual (defScope S) L fI (.ref cda) cc) = (do
      let ov ← attributeBase (.Call (.Name "super" p0) [] [] p1) "__init__" (ksEnv qual (defScope S) L fI (.ref cda) cc) (eval (.Call (.Name "super" p0) [] [] p1) (ksEnv qual (defScope S) L fI (.ref cda) cc))
      standAt p2.atName
      let (f, first) ← holding [ov] (getMethod ov "__init__" (pl L))
      callWith p4 f first (backTo p4 (starEach [Expr.Constant (.str tx) j p3] (ksEnv qual (defScope S) L fI (.ref cda) cc))) [])
theorem ext_of {prog : Program} {K : Frag} {h : Heap} {mg : Str → Option Value} {x : Str} {C fI cc cda : Addr} {fs : List Str} {S : Stmt} {l : List (Str × Pos × Pos × Pos × Pos)} {tx : Str} {j : Nat} {p0 p1 p2 p3 p4 p5 : Pos} {ar : Arg}
    (KX : K.In h) (G : h.Ns mainGlobals mg) (md : SupMod prog K mg) (E : ExS S fs l tx j p0 p1 p2 p3 p4 p5 ar) {qual : Str}
    (hbind : ∀ (doc pm ct : Value) (an : Option Addr) (us : List Value), us.length = (("self" : Str) :: fs).length → bindArgs (ksFn "__init__" qual (defArgs S) (defBody S) (defScope S) .none .none doc pm an (.ref cda) ct cc) ⟨us, []⟩ = pure ((("self" : Str) :: fs).zip us))
    (n : nsIn K mainGlobals x = some (some (.ref C))) {nm q : Str} {N : Addr} {bs bm : List Value} {sn : List Str} {sub : List Value} {ab : Bool} {col : Option Bool} {dd : Option Addr} {k0 k1 k2 k3 k5 : Option Value}
    (hc : K.lookup C = some (excClassObj nm q C N bs bm true sn sub ab col dd k0 k1 k2 k3 k5 "ValueError.__new__")) (hbm : PySem.HandSPX.refsVE bm = true) (sa : findIn K (.ref C) "__setattr__" = some (some (.builtin "object.__setattr__")))
    (x1 : findIn K (.ref C) "__getattribute__" = some (some (.builtin "BaseException.__getattribute__"))) (x2 : findIn K (.ref C) "__getattr__" = some none) (x3 : subIn K (.ref C) (.type "BaseException") = some true) (x4 : hasDictIn K C = true)
    (iC : findIn K (.ref C) "__init__" = some (some (.ref fI))) (tI : typeIn K (.ref fI) = some (.type "function")) (kC : keepIn K (.ref C) = true) (tyC : typeIn K (.ref C) = some (.type "type")) (noF : ∀ f ∈ fs, findIn K (.ref C) f = some none)
    (self : mroIn K C (.ref C) = some true) (hB : subIn K (.ref C) (.type "ValueError") = some true) (sup : ks_superIn K C C "__init__" = some (some (.builtin "ValueError.__init__")))
    {oc : Value} {od : Option Addr} {osl : Array (Option Value)} {doc pm ct : Value} {an : Option Addr}
    (lI : K.lookup fI = some ⟨oc, od, .func (ksFn "__init__" qual (defArgs S) (defBody S) (defScope S) .none .none doc pm an (.ref cda) ct cc), osl⟩) (cI : codeIn K (.ref cda) qual = true)
    {cl : Value} {cld : Option Addr} {csl : Array (Option Value)} (cell : K.lookup cc = some ⟨cl, cld, .cell (some (.ref C)), csl⟩)
    {ccl : Value} {cdd : Option Addr} {vs : Array Value} {ccs : Array (Option Value)} {file : Str} {tf : Tok} (code : K.lookup cda = some ⟨ccl, cdd, .fields vs, ccs⟩) (hvs : vs[2]? = some (.str file tf)) (hfile : ((prog.main.file : Str) == file) = true) (hle : fs.length ≤ 900) :
    ExT prog K mg x C fs := by
  have hb : defBody S = _ := E.body
  refine ⟨⟨fI, cc, cda, ⟨mg_of KX G n, ⟨nm, q, N, bs, bm, sn, sub, ab, col, dd, k0, k1, k2, k3, k5, hc, hbm⟩, sa, ⟨x1, x2, x3, x4⟩, iC, tI, kC, tyC, noF, self, hB, sup, ⟨ccl, cdd, vs, ccs, file, tf, code, hvs, hfile⟩, ⟨cl, cld, csl, cell⟩⟩,
    ⟨oc, od, osl, qual, defArgs S, defScope S, doc, pm, ct, an, l, tx, j, p0, p1, p2, p3, p4, p5, ar, by rw [← hb]; exact lI, cI, E.names, E.head, E.ar, E.kind, E.co, E.gen, ?_, ?_, ?_, E.sup, E.cls, E.nd, ?_, E.ev _ _ _ _⟩⟩, md, (List.nodup_cons.mp E.nd).2, hle⟩
  · intro y hy
    have := List.all_eq_true.mp E.nocell y hy
    simpa using this
  · intro y hy
    have := List.all_eq_true.mp E.loc y hy
    simpa using this
  · intro y hy
    have := List.all_eq_true.mp E.dbg y hy
    simpa using this
  · intro us hl
    rw [← hb]
    exact hbind doc pm ct an us hl
theorem exm_of {K : Frag} {C : Addr} {cls : Value} {b : Bool} {cd : ClassData} (h1 : subIn K (.ref C) (.type "BaseException") = some true) (h2 : clsIn K C = some cd) (h3 : typeIn K (.ref C) = some (.type "type")) (h4 : subIn K cls (.ref C) = some b) : exmOne K cls (.ref C) = some b := by
  unfold exmOne
  rw [h1, if_pos (by simp)]
  show (if ((clsIn K C).isSome && typeIn K (.ref C) == some (.type "type")) = true then subIn K cls (.ref C) else none) = some b
  rw [h2, h3, if_pos (by simp), h4]
theorem kit_self {K : Frag} {C : Addr} : kitOne K (.ref C) (.ref C) = some true := by unfold kitOne; rw [if_pos (by simp)]
theorem codeHd_of {K : Frag} {h : Heap} {c P : Addr} {cd : Option Addr} {vs : Array Value} {sl : Array (Option Value)} (KX : K.In h) (l : K.lookup c = some ⟨.type "code", cd, .fields vs, sl⟩) {file : Str} {tf tg tt : Tok} {flags text : Int} {inF : Bool}
    (h1 : vs[11]? = some (.ref P)) (h2 : vs.getD 18 .none = .str file tf) (h3 : vs.getD 7 .none = .int flags tg) (h4 : vs.getD 9 .none = .bool inF) (h5 : vs.getD 10 .none = .int text tt) (hne : (c != P) = true) : CodeHd h c P :=
  ⟨_, vs, file, tf, flags, tg, inF, text, tt, KX _ _ l, rfl, rfl, h1, by rw [Array.getD_eq_getD_getElem?, h1]; rfl, h2, h3, h4, h5, by simpa using hne⟩
theorem bn_of {K : Frag} {h : Heap} {mg : Str → Option Value} (KX : K.In h) (G : h.Ns mainGlobals mg) (h1 : nsIn K mainGlobals "len" = some none) (h2 : nsIn K mainGlobals "range" = some none) (h3 : nsIn K mainGlobals "int" = some none) (h4 : nsIn K mainGlobals "bool" = some none)
    (h5 : nsIn K mainGlobals "str" = some none) (h6 : nsIn K mainGlobals "list" = some none) (h7 : nsIn K mainGlobals "tuple" = some none) (h8 : nsIn K mainGlobals "set" = some none) (h9 : nsIn K mainGlobals "abs" = some none) (h10 : nsIn K mainGlobals "min" = some none)
    (h11 : nsIn K mainGlobals "max" = some none) (h12 : nsIn K mainGlobals "sum" = some none) (h13 : nsIn K mainGlobals "any" = some none) (h14 : nsIn K mainGlobals "all" = some none) (h15 : nsIn K mainGlobals "sorted" = some none) (h16 : nsIn K mainGlobals "isinstance" = some none)
    (h17 : nsIn K mainGlobals "enumerate" = some none) (h18 : nsIn K mainGlobals "reversed" = some none) (h19 : nsIn K mainGlobals "zip" = some none) : Bn mg :=
  ⟨mg_none_of KX G h1, mg_none_of KX G h2, mg_none_of KX G h3, mg_none_of KX G h4, mg_none_of KX G h5, mg_none_of KX G h6, mg_none_of KX G h7, mg_none_of KX G h8, mg_none_of KX G h9, mg_none_of KX G h10, mg_none_of KX G h11, mg_none_of KX G h12, mg_none_of KX G h13, mg_none_of KX G h14, mg_none_of KX G h15, mg_none_of KX G h16, mg_none_of KX G h17, mg_none_of KX G h18, mg_none_of KX G h19⟩
end L2

/-! a law without code tables; its defs may raise within -/
namespace L2
open PySem PySem.Spec PyProof.Rows
theorem walk_ofKX {l : PySem.W.OpenLaw} {n k : Nat} {q : Program} {loose : List Str} {XP : (Str → Option Value) → Heap → Prop} {YP : World → Heap → Prop} {d : DefRec} {K : Params → PySem.W.Frag} {sp : PySem.W.Frag → Sp} {x : Str} {pr : Program}
    (most : l.most = some n) (line : n ≤ sizeLine) (nodef : d.params.defaults = []) (room : Room k callerA) (part : ∀ (w : World) (h : Heap), YP w h → (K w.params).In h)
    (main : ∀ (w : World) (mg : Str → Option Value) (fa : Addr) (h : Heap), (K w.params).In h → h.Ns mainGlobals mg → mg d.name = some (.ref fa) →
      ∃ fd : FuncData, (∀ (s : Shared) (u : Value), BindsTo s fd ⟨[u], []⟩ [(x, u)]) ∧ ∀ base : Heap, (K w.params).In base → base.Ns mainGlobals mg → FnOk l.prog w (K w.params) mg base (L2.CX pr w) k fa fd [x] (sp (K w.params)))
    (start : ∀ (K : PySem.W.Frag) (H : Hp) (a : Addr) (ns : List Int), ns.length ≤ n → SqL K H a (ns.map V.int) → sp K [.ref a] H (fun v _ => v = .bl true) fun _ _ _ => False) : PySem.W.WalkO q loose XP YP l.row.toRowW d [] (fun f vs => PySem.call f vs) :=
  walk_of (K := K) (CX := fun w => L2.CX pr w) (sp := fun w => sp (K w.params)) most line nodef room part main (fun w H a ns hl _ hs => start (K w.params) H a ns hl hs)
    fun w H s e s' z => by
      obtain ⟨_, _, _, _, _, _, _, _, _, _, _, _, no⟩ := z
      exact no.elim
end L2

/-! The end: the written part's facts, the law. -/
namespace Ev
open PySem PySem.Spec PyProof.Rows PySem.W L2 LamX Pl
abbrev topP : Program := PySem.Challenge.pw_everyfloor_k86_whole_sets_with_long_peri
theorem exs_BadPlace : ∃ l tx j p0 p1 p2 p3 p4 p5 ar, ExS (inClass (topS 3) 0) ["n"] l tx j p0 p1 p2 p3 p4 p5 ar := ⟨[("n", _, _, _, _)], _, _, _, _, _, _, _, _, _, ⟨rfl, rfl, rfl, rfl, rfl, rfl, rfl, by decide +kernel, by decide +kernel, by decide +kernel, by decide +kernel, by decide +kernel, by decide +kernel, fun _ _ _ _ => ⟨_, fun _ => rfl⟩⟩⟩
theorem exs_BadNumber : ∃ l tx j p0 p1 p2 p3 p4 p5 ar, ExS (inClass (topS 4) 0) ["number"] l tx j p0 p1 p2 p3 p4 p5 ar := ⟨[("number", _, _, _, _)], _, _, _, _, _, _, _, _, _, ⟨rfl, rfl, rfl, rfl, rfl, rfl, rfl, by decide +kernel, by decide +kernel, by decide +kernel, by decide +kernel, by decide +kernel, by decide +kernel, fun _ _ _ _ => ⟨_, fun _ => rfl⟩⟩⟩
theorem exs_BadTruth : ∃ l tx j p0 p1 p2 p3 p4 p5 ar, ExS (inClass (topS 5) 0) ["index"] l tx j p0 p1 p2 p3 p4 p5 ar := ⟨[("index", _, _, _, _)], _, _, _, _, _, _, _, _, _, ⟨rfl, rfl, rfl, rfl, rfl, rfl, rfl, by decide +kernel, by decide +kernel, by decide +kernel, by decide +kernel, by decide +kernel, by decide +kernel, fun _ _ _ _ => ⟨_, fun _ => rfl⟩⟩⟩
theorem exs_NoMember : ∃ l tx j p0 p1 p2 p3 p4 p5 ar, ExS (inClass (topS 6) 0) ["k"] l tx j p0 p1 p2 p3 p4 p5 ar := ⟨[("k", _, _, _, _)], _, _, _, _, _, _, _, _, _, ⟨rfl, rfl, rfl, rfl, rfl, rfl, rfl, by decide +kernel, by decide +kernel, by decide +kernel, by decide +kernel, by decide +kernel, by decide +kernel, fun _ _ _ _ => ⟨_, fun _ => rfl⟩⟩⟩
theorem exs_TooFine : ∃ l tx j p0 p1 p2 p3 p4 p5 ar, ExS (inClass (topS 7) 0) ["most"] l tx j p0 p1 p2 p3 p4 p5 ar := ⟨[("most", _, _, _, _)], _, _, _, _, _, _, _, _, _, ⟨rfl, rfl, rfl, rfl, rfl, rfl, rfl, by decide +kernel, by decide +kernel, by decide +kernel, by decide +kernel, by decide +kernel, by decide +kernel, fun _ _ _ _ => ⟨_, fun _ => rfl⟩⟩⟩
theorem exs_TooLate : ∃ l tx j p0 p1 p2 p3 p4 p5 ar, ExS (inClass (topS 8) 0) ["most"] l tx j p0 p1 p2 p3 p4 p5 ar := ⟨[("most", _, _, _, _)], _, _, _, _, _, _, _, _, _, ⟨rfl, rfl, rfl, rfl, rfl, rfl, rfl, by decide +kernel, by decide +kernel, by decide +kernel, by decide +kernel, by decide +kernel, by decide +kernel, fun _ _ _ _ => ⟨_, fun _ => rfl⟩⟩⟩
theorem join {w : World} {K : Frag} {h : Heap} {mg : Str → Option Value} {fa : Addr} (KX : K.In h) (G : h.Ns mainGlobals mg) (hmg : mg "law" = some (.ref fa))
    {a_is_integer : Addr} (n_is_integer : nsIn K mainGlobals "is_integer" = some (some (.ref a_is_integer)))
    {oc_is_integer kV_is_integer doc_is_integer pm_is_integer cdv_is_integer ct_is_integer : Value} {od_is_integer an_is_integer : Option Addr} {osl_is_integer : Array (Option Value)} (l_is_integer : K.lookup a_is_integer = some ⟨oc_is_integer, od_is_integer, .func (fnOf "is_integer" "is_integer" (defArgs (topS 10)) (defBody (topS 10)) (defScope (topS 10)) .none kV_is_integer doc_is_integer pm_is_integer an_is_integer cdv_is_integer ct_is_integer), osl_is_integer⟩)
     (c_is_integer : codeIn K cdv_is_integer "is_integer" = true)
     (k_is_integer : keepIn K (.ref a_is_integer) = true)
    {a_is_place : Addr} (n_is_place : nsIn K mainGlobals "is_place" = some (some (.ref a_is_place)))
    {oc_is_place kV_is_place doc_is_place pm_is_place cdv_is_place ct_is_place : Value} {od_is_place an_is_place : Option Addr} {osl_is_place : Array (Option Value)} (l_is_place : K.lookup a_is_place = some ⟨oc_is_place, od_is_place, .func (fnOf "is_place" "is_place" (defArgs (topS 11)) (defBody (topS 11)) (defScope (topS 11)) .none kV_is_place doc_is_place pm_is_place an_is_place cdv_is_place ct_is_place), osl_is_place⟩)
     (c_is_place : codeIn K cdv_is_place "is_place" = true)
     (k_is_place : keepIn K (.ref a_is_place) = true)
    {a_need_truths : Addr} (n_need_truths : nsIn K mainGlobals "need_truths" = some (some (.ref a_need_truths)))
    {oc_need_truths kV_need_truths doc_need_truths pm_need_truths cdv_need_truths ct_need_truths : Value} {od_need_truths an_need_truths : Option Addr} {osl_need_truths : Array (Option Value)} (l_need_truths : K.lookup a_need_truths = some ⟨oc_need_truths, od_need_truths, .func (fnOf "need_truths" "need_truths" (defArgs (topS 17)) (defBody (topS 17)) (defScope (topS 17)) .none kV_need_truths doc_need_truths pm_need_truths an_need_truths cdv_need_truths ct_need_truths), osl_need_truths⟩)
     (c_need_truths : codeIn K cdv_need_truths "need_truths" = true)
     (k_need_truths : keepIn K (.ref a_need_truths) = true)
    {a_least_period : Addr} (n_least_period : nsIn K mainGlobals "least_period" = some (some (.ref a_least_period)))
    {oc_least_period kV_least_period doc_least_period pm_least_period cdv_least_period ct_least_period : Value} {od_least_period an_least_period : Option Addr} {osl_least_period : Array (Option Value)} (l_least_period : K.lookup a_least_period = some ⟨oc_least_period, od_least_period, .func (fnOf "least_period" "least_period" (defArgs (topS 18)) (defBody (topS 18)) (defScope (topS 18)) .none kV_least_period doc_least_period pm_least_period an_least_period cdv_least_period ct_least_period), osl_least_period⟩)
     (c_least_period : codeIn K cdv_least_period "least_period" = true)
     (k_least_period : keepIn K (.ref a_least_period) = true)
    {a_need_integer : Addr} (n_need_integer : nsIn K mainGlobals "need_integer" = some (some (.ref a_need_integer)))
    {oc_need_integer kV_need_integer doc_need_integer pm_need_integer cdv_need_integer ct_need_integer : Value} {od_need_integer an_need_integer : Option Addr} {osl_need_integer : Array (Option Value)} (l_need_integer : K.lookup a_need_integer = some ⟨oc_need_integer, od_need_integer, .func (fnOf "need_integer" "need_integer" (defArgs (topS 20)) (defBody (topS 20)) (defScope (topS 20)) .none kV_need_integer doc_need_integer pm_need_integer an_need_integer cdv_need_integer ct_need_integer), osl_need_integer⟩)
     (c_need_integer : codeIn K cdv_need_integer "need_integer" = true)
     (k_need_integer : keepIn K (.ref a_need_integer) = true)
    {a__law_pen : Addr} (n__law_pen : nsIn K mainGlobals "_law_pen" = some (some (.ref a__law_pen)))
    {oc__law_pen kV__law_pen doc__law_pen pm__law_pen cdv__law_pen ct__law_pen : Value} {od__law_pen an__law_pen : Option Addr} {osl__law_pen : Array (Option Value)} (l__law_pen : K.lookup a__law_pen = some ⟨oc__law_pen, od__law_pen, .func (fnOf "_law_pen" "_law_pen" (defArgs (topS 24)) (defBody (topS 24)) (defScope (topS 24)) .none kV__law_pen doc__law_pen pm__law_pen an__law_pen cdv__law_pen ct__law_pen), osl__law_pen⟩)
     (c__law_pen : codeIn K cdv__law_pen "_law_pen" = true)
     (k__law_pen : keepIn K (.ref a__law_pen) = true)
    {a__law_draw : Addr} (n__law_draw : nsIn K mainGlobals "_law_draw" = some (some (.ref a__law_draw)))
    {oc__law_draw kV__law_draw doc__law_draw pm__law_draw cdv__law_draw ct__law_draw : Value} {od__law_draw an__law_draw : Option Addr} {osl__law_draw : Array (Option Value)} (l__law_draw : K.lookup a__law_draw = some ⟨oc__law_draw, od__law_draw, .func (fnOf "_law_draw" "_law_draw" (defArgs (topS 25)) (defBody (topS 25)) (defScope (topS 25)) .none kV__law_draw doc__law_draw pm__law_draw an__law_draw cdv__law_draw ct__law_draw), osl__law_draw⟩)
     (c__law_draw : codeIn K cdv__law_draw "_law_draw" = true)
     (k__law_draw : keepIn K (.ref a__law_draw) = true)
    {a__law_pick : Addr} (n__law_pick : nsIn K mainGlobals "_law_pick" = some (some (.ref a__law_pick)))
    {oc__law_pick kV__law_pick doc__law_pick pm__law_pick cdv__law_pick ct__law_pick : Value} {od__law_pick an__law_pick : Option Addr} {osl__law_pick : Array (Option Value)} (l__law_pick : K.lookup a__law_pick = some ⟨oc__law_pick, od__law_pick, .func (fnOf "_law_pick" "_law_pick" (defArgs (topS 26)) (defBody (topS 26)) (defScope (topS 26)) .none kV__law_pick doc__law_pick pm__law_pick an__law_pick cdv__law_pick ct__law_pick), osl__law_pick⟩)
     (c__law_pick : codeIn K cdv__law_pick "_law_pick" = true)
     (k__law_pick : keepIn K (.ref a__law_pick) = true)
    {a__law_rests_of : Addr} (n__law_rests_of : nsIn K mainGlobals "_law_rests_of" = some (some (.ref a__law_rests_of)))
    {oc__law_rests_of kV__law_rests_of doc__law_rests_of pm__law_rests_of cdv__law_rests_of ct__law_rests_of : Value} {od__law_rests_of an__law_rests_of : Option Addr} {osl__law_rests_of : Array (Option Value)} (l__law_rests_of : K.lookup a__law_rests_of = some ⟨oc__law_rests_of, od__law_rests_of, .func (fnOf "_law_rests_of" "_law_rests_of" (defArgs (topS 27)) (defBody (topS 27)) (defScope (topS 27)) .none kV__law_rests_of doc__law_rests_of pm__law_rests_of an__law_rests_of cdv__law_rests_of ct__law_rests_of), osl__law_rests_of⟩)
     (c__law_rests_of : codeIn K cdv__law_rests_of "_law_rests_of" = true)
     (k__law_rests_of : keepIn K (.ref a__law_rests_of) = true)
    {a__law_in : Addr} (n__law_in : nsIn K mainGlobals "_law_in" = some (some (.ref a__law_in)))
    {oc__law_in kV__law_in doc__law_in pm__law_in cdv__law_in ct__law_in : Value} {od__law_in an__law_in : Option Addr} {osl__law_in : Array (Option Value)} (l__law_in : K.lookup a__law_in = some ⟨oc__law_in, od__law_in, .func (fnOf "_law_in" "_law_in" (defArgs (topS 28)) (defBody (topS 28)) (defScope (topS 28)) .none kV__law_in doc__law_in pm__law_in an__law_in cdv__law_in ct__law_in), osl__law_in⟩)
     (c__law_in : codeIn K cdv__law_in "_law_in" = true)
     (k__law_in : keepIn K (.ref a__law_in) = true)
    {a__law_first : Addr} (n__law_first : nsIn K mainGlobals "_law_first" = some (some (.ref a__law_first)))
    {oc__law_first kV__law_first doc__law_first pm__law_first cdv__law_first ct__law_first : Value} {od__law_first an__law_first : Option Addr} {osl__law_first : Array (Option Value)} (l__law_first : K.lookup a__law_first = some ⟨oc__law_first, od__law_first, .func (fnOf "_law_first" "_law_first" (defArgs (topS 29)) (defBody (topS 29)) (defScope (topS 29)) .none kV__law_first doc__law_first pm__law_first an__law_first cdv__law_first ct__law_first), osl__law_first⟩)
     (c__law_first : codeIn K cdv__law_first "_law_first" = true)
     (k__law_first : keepIn K (.ref a__law_first) = true)
    {a__law_last : Addr} (n__law_last : nsIn K mainGlobals "_law_last" = some (some (.ref a__law_last)))
    {oc__law_last kV__law_last doc__law_last pm__law_last cdv__law_last ct__law_last : Value} {od__law_last an__law_last : Option Addr} {osl__law_last : Array (Option Value)} (l__law_last : K.lookup a__law_last = some ⟨oc__law_last, od__law_last, .func (fnOf "_law_last" "_law_last" (defArgs (topS 30)) (defBody (topS 30)) (defScope (topS 30)) .none kV__law_last doc__law_last pm__law_last an__law_last cdv__law_last ct__law_last), osl__law_last⟩)
     (c__law_last : codeIn K cdv__law_last "_law_last" = true)
     (k__law_last : keepIn K (.ref a__law_last) = true)
    {a__law_below : Addr} (n__law_below : nsIn K mainGlobals "_law_below" = some (some (.ref a__law_below)))
    {oc__law_below kV__law_below doc__law_below pm__law_below cdv__law_below ct__law_below : Value} {od__law_below an__law_below : Option Addr} {osl__law_below : Array (Option Value)} (l__law_below : K.lookup a__law_below = some ⟨oc__law_below, od__law_below, .func (fnOf "_law_below" "_law_below" (defArgs (topS 31)) (defBody (topS 31)) (defScope (topS 31)) .none kV__law_below doc__law_below pm__law_below an__law_below cdv__law_below ct__law_below), osl__law_below⟩)
     (c__law_below : codeIn K cdv__law_below "_law_below" = true)
     (k__law_below : keepIn K (.ref a__law_below) = true)
    {a__law_asked_right : Addr} (n__law_asked_right : nsIn K mainGlobals "_law_asked_right" = some (some (.ref a__law_asked_right)))
    {oc__law_asked_right kV__law_asked_right doc__law_asked_right pm__law_asked_right cdv__law_asked_right ct__law_asked_right : Value} {od__law_asked_right an__law_asked_right : Option Addr} {osl__law_asked_right : Array (Option Value)} (l__law_asked_right : K.lookup a__law_asked_right = some ⟨oc__law_asked_right, od__law_asked_right, .func (fnOf "_law_asked_right" "_law_asked_right" (defArgs (topS 33)) (defBody (topS 33)) (defScope (topS 33)) .none kV__law_asked_right doc__law_asked_right pm__law_asked_right an__law_asked_right cdv__law_asked_right ct__law_asked_right), osl__law_asked_right⟩)
     (c__law_asked_right : codeIn K cdv__law_asked_right "_law_asked_right" = true)
     (k__law_asked_right : keepIn K (.ref a__law_asked_right) = true)
    {a__law_refusal : Addr} (n__law_refusal : nsIn K mainGlobals "_law_refusal" = some (some (.ref a__law_refusal)))
    {oc__law_refusal kV__law_refusal doc__law_refusal pm__law_refusal cdv__law_refusal ct__law_refusal : Value} {od__law_refusal an__law_refusal : Option Addr} {osl__law_refusal : Array (Option Value)} (l__law_refusal : K.lookup a__law_refusal = some ⟨oc__law_refusal, od__law_refusal, .func (fnOf "_law_refusal" "_law_refusal" (defArgs (topS 32)) (defBody (topS 32)) (defScope (topS 32)) .none kV__law_refusal doc__law_refusal pm__law_refusal an__law_refusal cdv__law_refusal ct__law_refusal), osl__law_refusal⟩)
     (c__law_refusal : codeIn K cdv__law_refusal "_law_refusal" = true)
     (k__law_refusal : keepIn K (.ref a__law_refusal) = true)
    {C_Where : Addr} (n_Where : nsIn K mainGlobals "Where" = some (some (.ref C_Where)))
     (pg_Where : plainGet K C_Where Str.empty = true)
     (hd_Where : hasDictIn K C_Where = true)
     (po_Where : plainOver K C_Where = true)
     (sa_Where : findIn K (.ref C_Where) "__setattr__" = some (some (.builtin "object.__setattr__")))
     (mk_Where : makesIn K C_Where = true)
     (kc_Where : keepIn K (.ref C_Where) = true)
     (cl_Where : findIn K (.ref C_Where) "__class__" = some (some (.builtin "object.__class__")))
     (ob_Where : mroIn K C_Where (.type "object") = some true)
     (ne_Where : findIn K (.ref C_Where) "__ne__" = some (some (.builtin "object.__ne__")))
     (nl_Where : notFirst K C_Where (.type "list") = true)
     (nt_Where : notFirst K C_Where (.type "tuple") = true)
     (kl_Where : kitOne K (.type "list") (.ref C_Where) = some false)
     (kt_Where : kitOne K (.type "tuple") (.ref C_Where) = some false)
     (ki_Where : kitOne K (.type "int") (.ref C_Where) = some false)
     (no_Where_period : findIn K (.ref C_Where) "period" = some none)
     (no_Where_rests : findIn K (.ref C_Where) "rests" = some none)
     (no_Where_start : findIn K (.ref C_Where) "start" = some none)
     (no_Where_below : findIn K (.ref C_Where) "below" = some none)
    {a_Where_init : Addr} (n_Where_init : findIn K (.ref C_Where) "__init__" = some (some (.ref a_Where_init)))
     (i_Where_init : isFn K (.ref a_Where_init) = true)
    {oc_Where_init kV_Where_init doc_Where_init pm_Where_init cdv_Where_init ct_Where_init : Value} {od_Where_init an_Where_init : Option Addr} {osl_Where_init : Array (Option Value)} (l_Where_init : K.lookup a_Where_init = some ⟨oc_Where_init, od_Where_init, .func (fnOf "__init__" "Where.__init__" (defArgs (inClass (topS 19) 0)) (defBody (inClass (topS 19) 0)) (defScope (inClass (topS 19) 0)) .none kV_Where_init doc_Where_init pm_Where_init an_Where_init cdv_Where_init ct_Where_init), osl_Where_init⟩)
     (c_Where_init : codeIn K cdv_Where_init "Where.__init__" = true)
     (k_Where_init : keepIn K (.ref a_Where_init) = true)
    {a_Where_truth : Addr} (n_Where_truth : findIn K (.ref C_Where) "truth" = some (some (.ref a_Where_truth)))
     (i_Where_truth : isFn K (.ref a_Where_truth) = true)
    {oc_Where_truth kV_Where_truth doc_Where_truth pm_Where_truth cdv_Where_truth ct_Where_truth : Value} {od_Where_truth an_Where_truth : Option Addr} {osl_Where_truth : Array (Option Value)} (l_Where_truth : K.lookup a_Where_truth = some ⟨oc_Where_truth, od_Where_truth, .func (fnOf "truth" "Where.truth" (defArgs (inClass (topS 19) 4)) (defBody (inClass (topS 19) 4)) (defScope (inClass (topS 19) 4)) .none kV_Where_truth doc_Where_truth pm_Where_truth an_Where_truth cdv_Where_truth ct_Where_truth), osl_Where_truth⟩)
     (c_Where_truth : codeIn K cdv_Where_truth "Where.truth" = true)
     (k_Where_truth : keepIn K (.ref a_Where_truth) = true)
    {a_Where_contains : Addr} (n_Where_contains : findIn K (.ref C_Where) "__contains__" = some (some (.ref a_Where_contains)))
     (i_Where_contains : isFn K (.ref a_Where_contains) = true)
    {oc_Where_contains kV_Where_contains doc_Where_contains pm_Where_contains cdv_Where_contains ct_Where_contains : Value} {od_Where_contains an_Where_contains : Option Addr} {osl_Where_contains : Array (Option Value)} (l_Where_contains : K.lookup a_Where_contains = some ⟨oc_Where_contains, od_Where_contains, .func (fnOf "__contains__" "Where.__contains__" (defArgs (inClass (topS 19) 5)) (defBody (inClass (topS 19) 5)) (defScope (inClass (topS 19) 5)) .none kV_Where_contains doc_Where_contains pm_Where_contains an_Where_contains cdv_Where_contains ct_Where_contains), osl_Where_contains⟩)
     (c_Where_contains : codeIn K cdv_Where_contains "Where.__contains__" = true)
     (k_Where_contains : keepIn K (.ref a_Where_contains) = true)
    {a_Where_many_below : Addr} (n_Where_many_below : findIn K (.ref C_Where) "many_below" = some (some (.ref a_Where_many_below)))
     (i_Where_many_below : isFn K (.ref a_Where_many_below) = true)
    {oc_Where_many_below kV_Where_many_below doc_Where_many_below pm_Where_many_below cdv_Where_many_below ct_Where_many_below : Value} {od_Where_many_below an_Where_many_below : Option Addr} {osl_Where_many_below : Array (Option Value)} (l_Where_many_below : K.lookup a_Where_many_below = some ⟨oc_Where_many_below, od_Where_many_below, .func (fnOf "many_below" "Where.many_below" (defArgs (inClass (topS 19) 22)) (defBody (inClass (topS 19) 22)) (defScope (inClass (topS 19) 22)) .none kV_Where_many_below doc_Where_many_below pm_Where_many_below an_Where_many_below cdv_Where_many_below ct_Where_many_below), osl_Where_many_below⟩)
     (c_Where_many_below : codeIn K cdv_Where_many_below "Where.many_below" = true)
     (k_Where_many_below : keepIn K (.ref a_Where_many_below) = true)
    {a_Where_how_many : Addr} (n_Where_how_many : findIn K (.ref C_Where) "how_many" = some (some (.ref a_Where_how_many)))
     (i_Where_how_many : isFn K (.ref a_Where_how_many) = true)
    {oc_Where_how_many kV_Where_how_many doc_Where_how_many pm_Where_how_many cdv_Where_how_many ct_Where_how_many : Value} {od_Where_how_many an_Where_how_many : Option Addr} {osl_Where_how_many : Array (Option Value)} (l_Where_how_many : K.lookup a_Where_how_many = some ⟨oc_Where_how_many, od_Where_how_many, .func (fnOf "how_many" "Where.how_many" (defArgs (inClass (topS 19) 21)) (defBody (inClass (topS 19) 21)) (defScope (inClass (topS 19) 21)) .none kV_Where_how_many doc_Where_how_many pm_Where_how_many an_Where_how_many cdv_Where_how_many ct_Where_how_many), osl_Where_how_many⟩)
     (c_Where_how_many : codeIn K cdv_Where_how_many "Where.how_many" = true)
     (k_Where_how_many : keepIn K (.ref a_Where_how_many) = true)
    {a_Where_member : Addr} (n_Where_member : findIn K (.ref C_Where) "member" = some (some (.ref a_Where_member)))
     (i_Where_member : isFn K (.ref a_Where_member) = true)
    {oc_Where_member kV_Where_member doc_Where_member pm_Where_member cdv_Where_member ct_Where_member : Value} {od_Where_member an_Where_member : Option Addr} {osl_Where_member : Array (Option Value)} (l_Where_member : K.lookup a_Where_member = some ⟨oc_Where_member, od_Where_member, .func (fnOf "member" "Where.member" (defArgs (inClass (topS 19) 23)) (defBody (inClass (topS 19) 23)) (defScope (inClass (topS 19) 23)) .none kV_Where_member doc_Where_member pm_Where_member an_Where_member cdv_Where_member ct_Where_member), osl_Where_member⟩)
     (c_Where_member : codeIn K cdv_Where_member "Where.member" = true)
     (k_Where_member : keepIn K (.ref a_Where_member) = true)
    {a_Where_first_from : Addr} (n_Where_first_from : findIn K (.ref C_Where) "first_from" = some (some (.ref a_Where_first_from)))
     (i_Where_first_from : isFn K (.ref a_Where_first_from) = true)
    {oc_Where_first_from kV_Where_first_from doc_Where_first_from pm_Where_first_from cdv_Where_first_from ct_Where_first_from : Value} {od_Where_first_from an_Where_first_from : Option Addr} {osl_Where_first_from : Array (Option Value)} (l_Where_first_from : K.lookup a_Where_first_from = some ⟨oc_Where_first_from, od_Where_first_from, .func (fnOf "first_from" "Where.first_from" (defArgs (inClass (topS 19) 19)) (defBody (inClass (topS 19) 19)) (defScope (inClass (topS 19) 19)) .none kV_Where_first_from doc_Where_first_from pm_Where_first_from an_Where_first_from cdv_Where_first_from ct_Where_first_from), osl_Where_first_from⟩)
     (c_Where_first_from : codeIn K cdv_Where_first_from "Where.first_from" = true)
     (k_Where_first_from : keepIn K (.ref a_Where_first_from) = true)
    {a_Where_last_to : Addr} (n_Where_last_to : findIn K (.ref C_Where) "last_to" = some (some (.ref a_Where_last_to)))
     (i_Where_last_to : isFn K (.ref a_Where_last_to) = true)
    {oc_Where_last_to kV_Where_last_to doc_Where_last_to pm_Where_last_to cdv_Where_last_to ct_Where_last_to : Value} {od_Where_last_to an_Where_last_to : Option Addr} {osl_Where_last_to : Array (Option Value)} (l_Where_last_to : K.lookup a_Where_last_to = some ⟨oc_Where_last_to, od_Where_last_to, .func (fnOf "last_to" "Where.last_to" (defArgs (inClass (topS 19) 20)) (defBody (inClass (topS 19) 20)) (defScope (inClass (topS 19) 20)) .none kV_Where_last_to doc_Where_last_to pm_Where_last_to an_Where_last_to cdv_Where_last_to ct_Where_last_to), osl_Where_last_to⟩)
     (c_Where_last_to : codeIn K cdv_Where_last_to "Where.last_to" = true)
     (k_Where_last_to : keepIn K (.ref a_Where_last_to) = true)
    {p_Where_least : Addr} (n_Where_least : findIn K (.ref C_Where) "least" = some (some (.ref p_Where_least)))
     (pgt_Where_least : specialIn K (.ref p_Where_least) "__get__" = some (some (.builtin "property.__get__")))
     (ptk_Where_least : takesIn K (.ref p_Where_least) = some true)
    {a_Where_least : Addr} {rest_Where_least : List Value} (prc_Where_least : recIn K p_Where_least "property" = some (.ref a_Where_least :: rest_Where_least))
    {oc_Where_least kV_Where_least doc_Where_least pm_Where_least cdv_Where_least ct_Where_least : Value} {od_Where_least an_Where_least : Option Addr} {osl_Where_least : Array (Option Value)} (l_Where_least : K.lookup a_Where_least = some ⟨oc_Where_least, od_Where_least, .func (fnOf "least" "Where.least" (defArgs (inClass (topS 19) 17)) (defBody (inClass (topS 19) 17)) (defScope (inClass (topS 19) 17)) .none kV_Where_least doc_Where_least pm_Where_least an_Where_least cdv_Where_least ct_Where_least), osl_Where_least⟩)
     (c_Where_least : codeIn K cdv_Where_least "Where.least" = true)
     (k_Where_least : keepIn K (.ref a_Where_least) = true)
     (gs : specialIn K (.builtin "object.__class__") "__get__" = some (some (.builtin "getset_descriptor.__get__")))
     (tk : takesIn K (.builtin "object.__class__") = some true)
     (b_len : nsIn K mainGlobals "len" = some none)
     (b_range : nsIn K mainGlobals "range" = some none)
     (b_int : nsIn K mainGlobals "int" = some none)
     (b_bool : nsIn K mainGlobals "bool" = some none)
     (b_str : nsIn K mainGlobals "str" = some none)
     (b_list : nsIn K mainGlobals "list" = some none)
     (b_tuple : nsIn K mainGlobals "tuple" = some none)
     (b_set : nsIn K mainGlobals "set" = some none)
     (b_abs : nsIn K mainGlobals "abs" = some none)
     (b_min : nsIn K mainGlobals "min" = some none)
     (b_max : nsIn K mainGlobals "max" = some none)
     (b_sum : nsIn K mainGlobals "sum" = some none)
     (b_any : nsIn K mainGlobals "any" = some none)
     (b_all : nsIn K mainGlobals "all" = some none)
     (b_sorted : nsIn K mainGlobals "sorted" = some none)
     (b_isinstance : nsIn K mainGlobals "isinstance" = some none)
     (b_enumerate : nsIn K mainGlobals "enumerate" = some none)
     (b_reversed : nsIn K mainGlobals "reversed" = some none)
     (b_zip : nsIn K mainGlobals "zip" = some none)
     (su : nsIn K mainGlobals "super" = some none)
     (th : nsIn K cStatics "thirdparty.any" = some none)
    {C_BadPlace : Addr} (n_BadPlace : nsIn K mainGlobals "BadPlace" = some (some (.ref C_BadPlace)))
    {nm_BadPlace q_BadPlace : Str} {N_BadPlace : Addr} {bs_BadPlace bm_BadPlace : List Value} {sn_BadPlace : List Str} {sub_BadPlace : List Value} {ab_BadPlace : Bool} {col_BadPlace : Option Bool} {dd_BadPlace : Option Addr} {k0_BadPlace k1_BadPlace k2_BadPlace k3_BadPlace k5_BadPlace : Option Value} (x0_BadPlace : K.lookup C_BadPlace = some (excClassObj nm_BadPlace q_BadPlace C_BadPlace N_BadPlace bs_BadPlace bm_BadPlace true sn_BadPlace sub_BadPlace ab_BadPlace col_BadPlace dd_BadPlace k0_BadPlace k1_BadPlace k2_BadPlace k3_BadPlace k5_BadPlace "ValueError.__new__"))
     (x1_BadPlace : PySem.HandSPX.refsVE bm_BadPlace = true)
     (x2_BadPlace : findIn K (.ref C_BadPlace) "__setattr__" = some (some (.builtin "object.__setattr__")))
     (x3_BadPlace : findIn K (.ref C_BadPlace) "__getattribute__" = some (some (.builtin "BaseException.__getattribute__")))
     (x4_BadPlace : findIn K (.ref C_BadPlace) "__getattr__" = some none)
     (x5_BadPlace : subIn K (.ref C_BadPlace) (.type "BaseException") = some true)
     (x6_BadPlace : hasDictIn K C_BadPlace = true)
    {fI_BadPlace : Addr} (x7_BadPlace : findIn K (.ref C_BadPlace) "__init__" = some (some (.ref fI_BadPlace)))
     (x8_BadPlace : typeIn K (.ref fI_BadPlace) = some (.type "function"))
     (x9_BadPlace : keepIn K (.ref C_BadPlace) = true)
     (y0_BadPlace : typeIn K (.ref C_BadPlace) = some (.type "type"))
     (yf_BadPlace_n : findIn K (.ref C_BadPlace) "n" = some none)
     (y1_BadPlace : mroIn K C_BadPlace (.ref C_BadPlace) = some true)
     (y2_BadPlace : subIn K (.ref C_BadPlace) (.type "ValueError") = some true)
     (y3_BadPlace : ks_superIn K C_BadPlace C_BadPlace "__init__" = some (some (.builtin "ValueError.__init__")))
    {qu_BadPlace : Str} {xoc_BadPlace xdoc_BadPlace xpm_BadPlace xct_BadPlace : Value} {xod_BadPlace xan_BadPlace : Option Addr} {xosl_BadPlace : Array (Option Value)} {cda_BadPlace cc_BadPlace : Addr} (y4_BadPlace : K.lookup fI_BadPlace = some ⟨xoc_BadPlace, xod_BadPlace, .func (ksFn "__init__" qu_BadPlace (defArgs (inClass (topS 3) 0)) (defBody (inClass (topS 3) 0)) (defScope (inClass (topS 3) 0)) .none .none xdoc_BadPlace xpm_BadPlace xan_BadPlace (.ref cda_BadPlace) xct_BadPlace cc_BadPlace), xosl_BadPlace⟩)
     (y5_BadPlace : codeIn K (.ref cda_BadPlace) qu_BadPlace = true)
    {xl_BadPlace : Value} {xld_BadPlace : Option Addr} {xsl_BadPlace : Array (Option Value)} (y6_BadPlace : K.lookup cc_BadPlace = some ⟨xl_BadPlace, xld_BadPlace, .cell (some (.ref C_BadPlace)), xsl_BadPlace⟩)
    {xcl_BadPlace : Value} {xcd_BadPlace : Option Addr} {xvs_BadPlace : Array Value} {xcs_BadPlace : Array (Option Value)} (y7_BadPlace : K.lookup cda_BadPlace = some ⟨xcl_BadPlace, xcd_BadPlace, .fields xvs_BadPlace, xcs_BadPlace⟩)
    {fi_BadPlace : Str} {tf_BadPlace : Tok} (y8_BadPlace : xvs_BadPlace[2]? = some (.str fi_BadPlace tf_BadPlace))
     (y9_BadPlace : ((topP.main.file : Str) == fi_BadPlace) = true)
    {cd_BadPlace : ClassData} (z0_BadPlace : clsIn K C_BadPlace = some cd_BadPlace)
    {C_BadNumber : Addr} (n_BadNumber : nsIn K mainGlobals "BadNumber" = some (some (.ref C_BadNumber)))
    {nm_BadNumber q_BadNumber : Str} {N_BadNumber : Addr} {bs_BadNumber bm_BadNumber : List Value} {sn_BadNumber : List Str} {sub_BadNumber : List Value} {ab_BadNumber : Bool} {col_BadNumber : Option Bool} {dd_BadNumber : Option Addr} {k0_BadNumber k1_BadNumber k2_BadNumber k3_BadNumber k5_BadNumber : Option Value} (x0_BadNumber : K.lookup C_BadNumber = some (excClassObj nm_BadNumber q_BadNumber C_BadNumber N_BadNumber bs_BadNumber bm_BadNumber true sn_BadNumber sub_BadNumber ab_BadNumber col_BadNumber dd_BadNumber k0_BadNumber k1_BadNumber k2_BadNumber k3_BadNumber k5_BadNumber "ValueError.__new__"))
     (x1_BadNumber : PySem.HandSPX.refsVE bm_BadNumber = true)
     (x2_BadNumber : findIn K (.ref C_BadNumber) "__setattr__" = some (some (.builtin "object.__setattr__")))
     (x3_BadNumber : findIn K (.ref C_BadNumber) "__getattribute__" = some (some (.builtin "BaseException.__getattribute__")))
     (x4_BadNumber : findIn K (.ref C_BadNumber) "__getattr__" = some none)
     (x5_BadNumber : subIn K (.ref C_BadNumber) (.type "BaseException") = some true)
     (x6_BadNumber : hasDictIn K C_BadNumber = true)
    {fI_BadNumber : Addr} (x7_BadNumber : findIn K (.ref C_BadNumber) "__init__" = some (some (.ref fI_BadNumber)))
     (x8_BadNumber : typeIn K (.ref fI_BadNumber) = some (.type "function"))
     (x9_BadNumber : keepIn K (.ref C_BadNumber) = true)
     (y0_BadNumber : typeIn K (.ref C_BadNumber) = some (.type "type"))
     (yf_BadNumber_number : findIn K (.ref C_BadNumber) "number" = some none)
     (y1_BadNumber : mroIn K C_BadNumber (.ref C_BadNumber) = some true)
     (y2_BadNumber : subIn K (.ref C_BadNumber) (.type "ValueError") = some true)
     (y3_BadNumber : ks_superIn K C_BadNumber C_BadNumber "__init__" = some (some (.builtin "ValueError.__init__")))
    {qu_BadNumber : Str} {xoc_BadNumber xdoc_BadNumber xpm_BadNumber xct_BadNumber : Value} {xod_BadNumber xan_BadNumber : Option Addr} {xosl_BadNumber : Array (Option Value)} {cda_BadNumber cc_BadNumber : Addr} (y4_BadNumber : K.lookup fI_BadNumber = some ⟨xoc_BadNumber, xod_BadNumber, .func (ksFn "__init__" qu_BadNumber (defArgs (inClass (topS 4) 0)) (defBody (inClass (topS 4) 0)) (defScope (inClass (topS 4) 0)) .none .none xdoc_BadNumber xpm_BadNumber xan_BadNumber (.ref cda_BadNumber) xct_BadNumber cc_BadNumber), xosl_BadNumber⟩)
     (y5_BadNumber : codeIn K (.ref cda_BadNumber) qu_BadNumber = true)
    {xl_BadNumber : Value} {xld_BadNumber : Option Addr} {xsl_BadNumber : Array (Option Value)} (y6_BadNumber : K.lookup cc_BadNumber = some ⟨xl_BadNumber, xld_BadNumber, .cell (some (.ref C_BadNumber)), xsl_BadNumber⟩)
    {xcl_BadNumber : Value} {xcd_BadNumber : Option Addr} {xvs_BadNumber : Array Value} {xcs_BadNumber : Array (Option Value)} (y7_BadNumber : K.lookup cda_BadNumber = some ⟨xcl_BadNumber, xcd_BadNumber, .fields xvs_BadNumber, xcs_BadNumber⟩)
    {fi_BadNumber : Str} {tf_BadNumber : Tok} (y8_BadNumber : xvs_BadNumber[2]? = some (.str fi_BadNumber tf_BadNumber))
     (y9_BadNumber : ((topP.main.file : Str) == fi_BadNumber) = true)
    {cd_BadNumber : ClassData} (z0_BadNumber : clsIn K C_BadNumber = some cd_BadNumber)
    {C_BadTruth : Addr} (n_BadTruth : nsIn K mainGlobals "BadTruth" = some (some (.ref C_BadTruth)))
    {nm_BadTruth q_BadTruth : Str} {N_BadTruth : Addr} {bs_BadTruth bm_BadTruth : List Value} {sn_BadTruth : List Str} {sub_BadTruth : List Value} {ab_BadTruth : Bool} {col_BadTruth : Option Bool} {dd_BadTruth : Option Addr} {k0_BadTruth k1_BadTruth k2_BadTruth k3_BadTruth k5_BadTruth : Option Value} (x0_BadTruth : K.lookup C_BadTruth = some (excClassObj nm_BadTruth q_BadTruth C_BadTruth N_BadTruth bs_BadTruth bm_BadTruth true sn_BadTruth sub_BadTruth ab_BadTruth col_BadTruth dd_BadTruth k0_BadTruth k1_BadTruth k2_BadTruth k3_BadTruth k5_BadTruth "ValueError.__new__"))
     (x1_BadTruth : PySem.HandSPX.refsVE bm_BadTruth = true)
     (x2_BadTruth : findIn K (.ref C_BadTruth) "__setattr__" = some (some (.builtin "object.__setattr__")))
     (x3_BadTruth : findIn K (.ref C_BadTruth) "__getattribute__" = some (some (.builtin "BaseException.__getattribute__")))
     (x4_BadTruth : findIn K (.ref C_BadTruth) "__getattr__" = some none)
     (x5_BadTruth : subIn K (.ref C_BadTruth) (.type "BaseException") = some true)
     (x6_BadTruth : hasDictIn K C_BadTruth = true)
    {fI_BadTruth : Addr} (x7_BadTruth : findIn K (.ref C_BadTruth) "__init__" = some (some (.ref fI_BadTruth)))
     (x8_BadTruth : typeIn K (.ref fI_BadTruth) = some (.type "function"))
     (x9_BadTruth : keepIn K (.ref C_BadTruth) = true)
     (y0_BadTruth : typeIn K (.ref C_BadTruth) = some (.type "type"))
     (yf_BadTruth_index : findIn K (.ref C_BadTruth) "index" = some none)
     (y1_BadTruth : mroIn K C_BadTruth (.ref C_BadTruth) = some true)
     (y2_BadTruth : subIn K (.ref C_BadTruth) (.type "ValueError") = some true)
     (y3_BadTruth : ks_superIn K C_BadTruth C_BadTruth "__init__" = some (some (.builtin "ValueError.__init__")))
    {qu_BadTruth : Str} {xoc_BadTruth xdoc_BadTruth xpm_BadTruth xct_BadTruth : Value} {xod_BadTruth xan_BadTruth : Option Addr} {xosl_BadTruth : Array (Option Value)} {cda_BadTruth cc_BadTruth : Addr} (y4_BadTruth : K.lookup fI_BadTruth = some ⟨xoc_BadTruth, xod_BadTruth, .func (ksFn "__init__" qu_BadTruth (defArgs (inClass (topS 5) 0)) (defBody (inClass (topS 5) 0)) (defScope (inClass (topS 5) 0)) .none .none xdoc_BadTruth xpm_BadTruth xan_BadTruth (.ref cda_BadTruth) xct_BadTruth cc_BadTruth), xosl_BadTruth⟩)
     (y5_BadTruth : codeIn K (.ref cda_BadTruth) qu_BadTruth = true)
    {xl_BadTruth : Value} {xld_BadTruth : Option Addr} {xsl_BadTruth : Array (Option Value)} (y6_BadTruth : K.lookup cc_BadTruth = some ⟨xl_BadTruth, xld_BadTruth, .cell (some (.ref C_BadTruth)), xsl_BadTruth⟩)
    {xcl_BadTruth : Value} {xcd_BadTruth : Option Addr} {xvs_BadTruth : Array Value} {xcs_BadTruth : Array (Option Value)} (y7_BadTruth : K.lookup cda_BadTruth = some ⟨xcl_BadTruth, xcd_BadTruth, .fields xvs_BadTruth, xcs_BadTruth⟩)
    {fi_BadTruth : Str} {tf_BadTruth : Tok} (y8_BadTruth : xvs_BadTruth[2]? = some (.str fi_BadTruth tf_BadTruth))
     (y9_BadTruth : ((topP.main.file : Str) == fi_BadTruth) = true)
    {cd_BadTruth : ClassData} (z0_BadTruth : clsIn K C_BadTruth = some cd_BadTruth)
    {C_NoMember : Addr} (n_NoMember : nsIn K mainGlobals "NoMember" = some (some (.ref C_NoMember)))
    {nm_NoMember q_NoMember : Str} {N_NoMember : Addr} {bs_NoMember bm_NoMember : List Value} {sn_NoMember : List Str} {sub_NoMember : List Value} {ab_NoMember : Bool} {col_NoMember : Option Bool} {dd_NoMember : Option Addr} {k0_NoMember k1_NoMember k2_NoMember k3_NoMember k5_NoMember : Option Value} (x0_NoMember : K.lookup C_NoMember = some (excClassObj nm_NoMember q_NoMember C_NoMember N_NoMember bs_NoMember bm_NoMember true sn_NoMember sub_NoMember ab_NoMember col_NoMember dd_NoMember k0_NoMember k1_NoMember k2_NoMember k3_NoMember k5_NoMember "ValueError.__new__"))
     (x1_NoMember : PySem.HandSPX.refsVE bm_NoMember = true)
     (x2_NoMember : findIn K (.ref C_NoMember) "__setattr__" = some (some (.builtin "object.__setattr__")))
     (x3_NoMember : findIn K (.ref C_NoMember) "__getattribute__" = some (some (.builtin "BaseException.__getattribute__")))
     (x4_NoMember : findIn K (.ref C_NoMember) "__getattr__" = some none)
     (x5_NoMember : subIn K (.ref C_NoMember) (.type "BaseException") = some true)
     (x6_NoMember : hasDictIn K C_NoMember = true)
    {fI_NoMember : Addr} (x7_NoMember : findIn K (.ref C_NoMember) "__init__" = some (some (.ref fI_NoMember)))
     (x8_NoMember : typeIn K (.ref fI_NoMember) = some (.type "function"))
     (x9_NoMember : keepIn K (.ref C_NoMember) = true)
     (y0_NoMember : typeIn K (.ref C_NoMember) = some (.type "type"))
     (yf_NoMember_k : findIn K (.ref C_NoMember) "k" = some none)
     (y1_NoMember : mroIn K C_NoMember (.ref C_NoMember) = some true)
     (y2_NoMember : subIn K (.ref C_NoMember) (.type "ValueError") = some true)
     (y3_NoMember : ks_superIn K C_NoMember C_NoMember "__init__" = some (some (.builtin "ValueError.__init__")))
    {qu_NoMember : Str} {xoc_NoMember xdoc_NoMember xpm_NoMember xct_NoMember : Value} {xod_NoMember xan_NoMember : Option Addr} {xosl_NoMember : Array (Option Value)} {cda_NoMember cc_NoMember : Addr} (y4_NoMember : K.lookup fI_NoMember = some ⟨xoc_NoMember, xod_NoMember, .func (ksFn "__init__" qu_NoMember (defArgs (inClass (topS 6) 0)) (defBody (inClass (topS 6) 0)) (defScope (inClass (topS 6) 0)) .none .none xdoc_NoMember xpm_NoMember xan_NoMember (.ref cda_NoMember) xct_NoMember cc_NoMember), xosl_NoMember⟩)
     (y5_NoMember : codeIn K (.ref cda_NoMember) qu_NoMember = true)
    {xl_NoMember : Value} {xld_NoMember : Option Addr} {xsl_NoMember : Array (Option Value)} (y6_NoMember : K.lookup cc_NoMember = some ⟨xl_NoMember, xld_NoMember, .cell (some (.ref C_NoMember)), xsl_NoMember⟩)
    {xcl_NoMember : Value} {xcd_NoMember : Option Addr} {xvs_NoMember : Array Value} {xcs_NoMember : Array (Option Value)} (y7_NoMember : K.lookup cda_NoMember = some ⟨xcl_NoMember, xcd_NoMember, .fields xvs_NoMember, xcs_NoMember⟩)
    {fi_NoMember : Str} {tf_NoMember : Tok} (y8_NoMember : xvs_NoMember[2]? = some (.str fi_NoMember tf_NoMember))
     (y9_NoMember : ((topP.main.file : Str) == fi_NoMember) = true)
    {cd_NoMember : ClassData} (z0_NoMember : clsIn K C_NoMember = some cd_NoMember)
    {C_TooFine : Addr} (n_TooFine : nsIn K mainGlobals "TooFine" = some (some (.ref C_TooFine)))
    {nm_TooFine q_TooFine : Str} {N_TooFine : Addr} {bs_TooFine bm_TooFine : List Value} {sn_TooFine : List Str} {sub_TooFine : List Value} {ab_TooFine : Bool} {col_TooFine : Option Bool} {dd_TooFine : Option Addr} {k0_TooFine k1_TooFine k2_TooFine k3_TooFine k5_TooFine : Option Value} (x0_TooFine : K.lookup C_TooFine = some (excClassObj nm_TooFine q_TooFine C_TooFine N_TooFine bs_TooFine bm_TooFine true sn_TooFine sub_TooFine ab_TooFine col_TooFine dd_TooFine k0_TooFine k1_TooFine k2_TooFine k3_TooFine k5_TooFine "ValueError.__new__"))
     (x1_TooFine : PySem.HandSPX.refsVE bm_TooFine = true)
     (x2_TooFine : findIn K (.ref C_TooFine) "__setattr__" = some (some (.builtin "object.__setattr__")))
     (x3_TooFine : findIn K (.ref C_TooFine) "__getattribute__" = some (some (.builtin "BaseException.__getattribute__")))
     (x4_TooFine : findIn K (.ref C_TooFine) "__getattr__" = some none)
     (x5_TooFine : subIn K (.ref C_TooFine) (.type "BaseException") = some true)
     (x6_TooFine : hasDictIn K C_TooFine = true)
    {fI_TooFine : Addr} (x7_TooFine : findIn K (.ref C_TooFine) "__init__" = some (some (.ref fI_TooFine)))
     (x8_TooFine : typeIn K (.ref fI_TooFine) = some (.type "function"))
     (x9_TooFine : keepIn K (.ref C_TooFine) = true)
     (y0_TooFine : typeIn K (.ref C_TooFine) = some (.type "type"))
     (yf_TooFine_most : findIn K (.ref C_TooFine) "most" = some none)
     (y1_TooFine : mroIn K C_TooFine (.ref C_TooFine) = some true)
     (y2_TooFine : subIn K (.ref C_TooFine) (.type "ValueError") = some true)
     (y3_TooFine : ks_superIn K C_TooFine C_TooFine "__init__" = some (some (.builtin "ValueError.__init__")))
    {qu_TooFine : Str} {xoc_TooFine xdoc_TooFine xpm_TooFine xct_TooFine : Value} {xod_TooFine xan_TooFine : Option Addr} {xosl_TooFine : Array (Option Value)} {cda_TooFine cc_TooFine : Addr} (y4_TooFine : K.lookup fI_TooFine = some ⟨xoc_TooFine, xod_TooFine, .func (ksFn "__init__" qu_TooFine (defArgs (inClass (topS 7) 0)) (defBody (inClass (topS 7) 0)) (defScope (inClass (topS 7) 0)) .none .none xdoc_TooFine xpm_TooFine xan_TooFine (.ref cda_TooFine) xct_TooFine cc_TooFine), xosl_TooFine⟩)
     (y5_TooFine : codeIn K (.ref cda_TooFine) qu_TooFine = true)
    {xl_TooFine : Value} {xld_TooFine : Option Addr} {xsl_TooFine : Array (Option Value)} (y6_TooFine : K.lookup cc_TooFine = some ⟨xl_TooFine, xld_TooFine, .cell (some (.ref C_TooFine)), xsl_TooFine⟩)
    {xcl_TooFine : Value} {xcd_TooFine : Option Addr} {xvs_TooFine : Array Value} {xcs_TooFine : Array (Option Value)} (y7_TooFine : K.lookup cda_TooFine = some ⟨xcl_TooFine, xcd_TooFine, .fields xvs_TooFine, xcs_TooFine⟩)
    {fi_TooFine : Str} {tf_TooFine : Tok} (y8_TooFine : xvs_TooFine[2]? = some (.str fi_TooFine tf_TooFine))
     (y9_TooFine : ((topP.main.file : Str) == fi_TooFine) = true)
    {cd_TooFine : ClassData} (z0_TooFine : clsIn K C_TooFine = some cd_TooFine)
    {C_TooLate : Addr} (n_TooLate : nsIn K mainGlobals "TooLate" = some (some (.ref C_TooLate)))
    {nm_TooLate q_TooLate : Str} {N_TooLate : Addr} {bs_TooLate bm_TooLate : List Value} {sn_TooLate : List Str} {sub_TooLate : List Value} {ab_TooLate : Bool} {col_TooLate : Option Bool} {dd_TooLate : Option Addr} {k0_TooLate k1_TooLate k2_TooLate k3_TooLate k5_TooLate : Option Value} (x0_TooLate : K.lookup C_TooLate = some (excClassObj nm_TooLate q_TooLate C_TooLate N_TooLate bs_TooLate bm_TooLate true sn_TooLate sub_TooLate ab_TooLate col_TooLate dd_TooLate k0_TooLate k1_TooLate k2_TooLate k3_TooLate k5_TooLate "ValueError.__new__"))
     (x1_TooLate : PySem.HandSPX.refsVE bm_TooLate = true)
     (x2_TooLate : findIn K (.ref C_TooLate) "__setattr__" = some (some (.builtin "object.__setattr__")))
     (x3_TooLate : findIn K (.ref C_TooLate) "__getattribute__" = some (some (.builtin "BaseException.__getattribute__")))
     (x4_TooLate : findIn K (.ref C_TooLate) "__getattr__" = some none)
     (x5_TooLate : subIn K (.ref C_TooLate) (.type "BaseException") = some true)
     (x6_TooLate : hasDictIn K C_TooLate = true)
    {fI_TooLate : Addr} (x7_TooLate : findIn K (.ref C_TooLate) "__init__" = some (some (.ref fI_TooLate)))
     (x8_TooLate : typeIn K (.ref fI_TooLate) = some (.type "function"))
     (x9_TooLate : keepIn K (.ref C_TooLate) = true)
     (y0_TooLate : typeIn K (.ref C_TooLate) = some (.type "type"))
     (yf_TooLate_most : findIn K (.ref C_TooLate) "most" = some none)
     (y1_TooLate : mroIn K C_TooLate (.ref C_TooLate) = some true)
     (y2_TooLate : subIn K (.ref C_TooLate) (.type "ValueError") = some true)
     (y3_TooLate : ks_superIn K C_TooLate C_TooLate "__init__" = some (some (.builtin "ValueError.__init__")))
    {qu_TooLate : Str} {xoc_TooLate xdoc_TooLate xpm_TooLate xct_TooLate : Value} {xod_TooLate xan_TooLate : Option Addr} {xosl_TooLate : Array (Option Value)} {cda_TooLate cc_TooLate : Addr} (y4_TooLate : K.lookup fI_TooLate = some ⟨xoc_TooLate, xod_TooLate, .func (ksFn "__init__" qu_TooLate (defArgs (inClass (topS 8) 0)) (defBody (inClass (topS 8) 0)) (defScope (inClass (topS 8) 0)) .none .none xdoc_TooLate xpm_TooLate xan_TooLate (.ref cda_TooLate) xct_TooLate cc_TooLate), xosl_TooLate⟩)
     (y5_TooLate : codeIn K (.ref cda_TooLate) qu_TooLate = true)
    {xl_TooLate : Value} {xld_TooLate : Option Addr} {xsl_TooLate : Array (Option Value)} (y6_TooLate : K.lookup cc_TooLate = some ⟨xl_TooLate, xld_TooLate, .cell (some (.ref C_TooLate)), xsl_TooLate⟩)
    {xcl_TooLate : Value} {xcd_TooLate : Option Addr} {xvs_TooLate : Array Value} {xcs_TooLate : Array (Option Value)} (y7_TooLate : K.lookup cda_TooLate = some ⟨xcl_TooLate, xcd_TooLate, .fields xvs_TooLate, xcs_TooLate⟩)
    {fi_TooLate : Str} {tf_TooLate : Tok} (y8_TooLate : xvs_TooLate[2]? = some (.str fi_TooLate tf_TooLate))
     (y9_TooLate : ((topP.main.file : Str) == fi_TooLate) = true)
    {cd_TooLate : ClassData} (z0_TooLate : clsIn K C_TooLate = some cd_TooLate)
     (sf_Where : selfFirst K C_Where = true)
    {i_MOST_PERIOD : Int} {t_MOST_PERIOD : Tok} (n_MOST_PERIOD : nsIn K mainGlobals "MOST_PERIOD" = some (some (.int i_MOST_PERIOD t_MOST_PERIOD)))
     (v_MOST_PERIOD : i_MOST_PERIOD = 720)
    {i_MOST_START : Int} {t_MOST_START : Tok} (n_MOST_START : nsIn K mainGlobals "MOST_START" = some (some (.int i_MOST_START t_MOST_START)))
     (v_MOST_START : i_MOST_START = 10000)
     (e_tt : subIn K (.ref C_BadTruth) (.ref C_BadTruth) = some true)
     (e_ft : subIn K (.ref C_TooFine) (.ref C_BadTruth) = some false)
     (e_ff : subIn K (.ref C_TooFine) (.ref C_TooFine) = some true)
     (e_lt : subIn K (.ref C_TooLate) (.ref C_BadTruth) = some false)
     (e_lf : subIn K (.ref C_TooLate) (.ref C_TooFine) = some false)
     (e_ll : subIn K (.ref C_TooLate) (.ref C_TooLate) = some true)
    {a_law : Addr} (n_law : nsIn K mainGlobals "law" = some (some (.ref a_law)))
    {cL : Addr} {ocL kVL docL pmL ctL : Value} {odL anL : Option Addr} {oslL : Array (Option Value)} (l_law : K.lookup a_law = some ⟨ocL, odL, .func (fnOf "law" "law" (defArgs (topS 34)) (defBody (topS 34)) (defScope (topS 34)) .none kVL docL pmL anL (.ref cL) ctL), oslL⟩)
     (c_law : codeIn K (.ref cL) "law" = true)
    {qd : Option Addr} {qv : Array Value} {qs : Array (Option Value)} (q0 : K.lookup cL = some ⟨.type "code", qd, .fields qv, qs⟩)
    {Pt : Addr} (q1 : qv[11]? = some (.ref Pt))
    {qf : Str} {qt1 qt2 qt3 : Tok} {qi1 qi2 : Int} {qb : Bool} (q2 : qv.getD 18 .none = .str qf qt1)
     (q3 : qv.getD 7 .none = .int qi1 qt2)
     (q4 : qv.getD 9 .none = .bool qb)
     (q5 : qv.getD 10 .none = .int qi2 qt3)
     (q6 : (cL != Pt) = true)
     (q7 : K.lookup Pt = none)
     (q8 : h.get? Pt = some (tabObj #[]))
    : LawAtS PySem.Challenge.rw_everyfloor_k86_whole_sets_with_long_peri w K (L2.CX topP w) 20 63 "script" mg fa h := by
  obtain rfl : fa = a_law := Value.ref.inj (Option.some.inj (hmg.symm.trans (mg_of KX G n_law)))
  subst v_MOST_PERIOD
  have c_MOST_PERIOD := mg_of KX G n_MOST_PERIOD
  subst v_MOST_START
  have c_MOST_START := mg_of KX G n_MOST_START
  have B : Bn mg := bn_of KX G b_len b_range b_int b_bool b_str b_list b_tuple b_set b_abs b_min b_max b_sum b_any b_all b_sorted b_isinstance b_enumerate b_reversed b_zip
  have F_is_integer := fun_mk l_is_integer c_is_integer k_is_integer
  have F_is_place := fun_mk l_is_place c_is_place k_is_place
  have F_need_truths := fun_mk l_need_truths c_need_truths k_need_truths
  have F_least_period := fun_mk l_least_period c_least_period k_least_period
  have F_need_integer := fun_mk l_need_integer c_need_integer k_need_integer
  have F__law_pen := fun_mk l__law_pen c__law_pen k__law_pen
  have F__law_draw := fun_mk l__law_draw c__law_draw k__law_draw
  have F__law_pick := fun_mk l__law_pick c__law_pick k__law_pick
  have F__law_rests_of := fun_mk l__law_rests_of c__law_rests_of k__law_rests_of
  have F__law_in := fun_mk l__law_in c__law_in k__law_in
  have F__law_first := fun_mk l__law_first c__law_first k__law_first
  have F__law_last := fun_mk l__law_last c__law_last k__law_last
  have F__law_below := fun_mk l__law_below c__law_below k__law_below
  have F__law_asked_right := fun_mk l__law_asked_right c__law_asked_right k__law_asked_right
  have F__law_refusal := fun_mk l__law_refusal c__law_refusal k__law_refusal
  have F_Where_truth := fun_mk l_Where_truth c_Where_truth k_Where_truth
  have F_Where_contains := fun_mk l_Where_contains c_Where_contains k_Where_contains
  have F_Where_many_below := fun_mk l_Where_many_below c_Where_many_below k_Where_many_below
  have F_Where_how_many := fun_mk l_Where_how_many c_Where_how_many k_Where_how_many
  have F_Where_member := fun_mk l_Where_member c_Where_member k_Where_member
  have F_Where_first_from := fun_mk l_Where_first_from c_Where_first_from k_Where_first_from
  have F_Where_least := fun_mk l_Where_least c_Where_least k_Where_least
  have F_Where_last_to := fun_mk l_Where_last_to c_Where_last_to k_Where_last_to
  have F_Where_init := fun_mk l_Where_init c_Where_init k_Where_init
  have c_Where : Cls K C_Where := ⟨pg_Where, hd_Where, po_Where, sa_Where⟩
  have g_Where := mg_of KX G n_Where
  have NN_Where : NoNe K C_Where := ⟨ne_Where, ob_Where⟩
  have mk0_Where : Mk K C_Where a_Where_init := ⟨mk_Where, n_Where_init, i_Where_init, kc_Where⟩
  have hyW : ∀ H x bl rl, IsW K H x C_Where bl rl → TyX K H (.ref x) (.ref C_Where) := fun H x bl rl q => isW_ty q c_Where cl_Where gs tk ob_Where
  have md : PySem.SupX.SupMod topP K mg := ⟨mg_none_of KX G su, th, by decide +kernel⟩
  obtain ⟨l_BadPlace, tx_BadPlace, j_BadPlace, p0_BadPlace, p1_BadPlace, p2_BadPlace, p3_BadPlace, p4_BadPlace, p5_BadPlace, ar_BadPlace, xs_BadPlace⟩ := exs_BadPlace
  have X_BadPlace : ExT topP K mg "BadPlace" C_BadPlace ["n"] := ext_of KX G md xs_BadPlace (fun doc pm ct an us hl => match us, hl with | [_, _], _ => rfl) n_BadPlace x0_BadPlace x1_BadPlace x2_BadPlace x3_BadPlace x4_BadPlace x5_BadPlace x6_BadPlace x7_BadPlace x8_BadPlace x9_BadPlace y0_BadPlace (fun z hz => by rw [List.mem_singleton.mp hz]; exact yf_BadPlace_n) y1_BadPlace y2_BadPlace y3_BadPlace y4_BadPlace y5_BadPlace y6_BadPlace y7_BadPlace y8_BadPlace y9_BadPlace (by decide)
  obtain ⟨l_BadNumber, tx_BadNumber, j_BadNumber, p0_BadNumber, p1_BadNumber, p2_BadNumber, p3_BadNumber, p4_BadNumber, p5_BadNumber, ar_BadNumber, xs_BadNumber⟩ := exs_BadNumber
  have X_BadNumber : ExT topP K mg "BadNumber" C_BadNumber ["number"] := ext_of KX G md xs_BadNumber (fun doc pm ct an us hl => match us, hl with | [_, _], _ => rfl) n_BadNumber x0_BadNumber x1_BadNumber x2_BadNumber x3_BadNumber x4_BadNumber x5_BadNumber x6_BadNumber x7_BadNumber x8_BadNumber x9_BadNumber y0_BadNumber (fun z hz => by rw [List.mem_singleton.mp hz]; exact yf_BadNumber_number) y1_BadNumber y2_BadNumber y3_BadNumber y4_BadNumber y5_BadNumber y6_BadNumber y7_BadNumber y8_BadNumber y9_BadNumber (by decide)
  obtain ⟨l_BadTruth, tx_BadTruth, j_BadTruth, p0_BadTruth, p1_BadTruth, p2_BadTruth, p3_BadTruth, p4_BadTruth, p5_BadTruth, ar_BadTruth, xs_BadTruth⟩ := exs_BadTruth
  have X_BadTruth : ExT topP K mg "BadTruth" C_BadTruth ["index"] := ext_of KX G md xs_BadTruth (fun doc pm ct an us hl => match us, hl with | [_, _], _ => rfl) n_BadTruth x0_BadTruth x1_BadTruth x2_BadTruth x3_BadTruth x4_BadTruth x5_BadTruth x6_BadTruth x7_BadTruth x8_BadTruth x9_BadTruth y0_BadTruth (fun z hz => by rw [List.mem_singleton.mp hz]; exact yf_BadTruth_index) y1_BadTruth y2_BadTruth y3_BadTruth y4_BadTruth y5_BadTruth y6_BadTruth y7_BadTruth y8_BadTruth y9_BadTruth (by decide)
  obtain ⟨l_NoMember, tx_NoMember, j_NoMember, p0_NoMember, p1_NoMember, p2_NoMember, p3_NoMember, p4_NoMember, p5_NoMember, ar_NoMember, xs_NoMember⟩ := exs_NoMember
  have X_NoMember : ExT topP K mg "NoMember" C_NoMember ["k"] := ext_of KX G md xs_NoMember (fun doc pm ct an us hl => match us, hl with | [_, _], _ => rfl) n_NoMember x0_NoMember x1_NoMember x2_NoMember x3_NoMember x4_NoMember x5_NoMember x6_NoMember x7_NoMember x8_NoMember x9_NoMember y0_NoMember (fun z hz => by rw [List.mem_singleton.mp hz]; exact yf_NoMember_k) y1_NoMember y2_NoMember y3_NoMember y4_NoMember y5_NoMember y6_NoMember y7_NoMember y8_NoMember y9_NoMember (by decide)
  obtain ⟨l_TooFine, tx_TooFine, j_TooFine, p0_TooFine, p1_TooFine, p2_TooFine, p3_TooFine, p4_TooFine, p5_TooFine, ar_TooFine, xs_TooFine⟩ := exs_TooFine
  have X_TooFine : ExT topP K mg "TooFine" C_TooFine ["most"] := ext_of KX G md xs_TooFine (fun doc pm ct an us hl => match us, hl with | [_, _], _ => rfl) n_TooFine x0_TooFine x1_TooFine x2_TooFine x3_TooFine x4_TooFine x5_TooFine x6_TooFine x7_TooFine x8_TooFine x9_TooFine y0_TooFine (fun z hz => by rw [List.mem_singleton.mp hz]; exact yf_TooFine_most) y1_TooFine y2_TooFine y3_TooFine y4_TooFine y5_TooFine y6_TooFine y7_TooFine y8_TooFine y9_TooFine (by decide)
  obtain ⟨l_TooLate, tx_TooLate, j_TooLate, p0_TooLate, p1_TooLate, p2_TooLate, p3_TooLate, p4_TooLate, p5_TooLate, ar_TooLate, xs_TooLate⟩ := exs_TooLate
  have X_TooLate : ExT topP K mg "TooLate" C_TooLate ["most"] := ext_of KX G md xs_TooLate (fun doc pm ct an us hl => match us, hl with | [_, _], _ => rfl) n_TooLate x0_TooLate x1_TooLate x2_TooLate x3_TooLate x4_TooLate x5_TooLate x6_TooLate x7_TooLate x8_TooLate x9_TooLate y0_TooLate (fun z hz => by rw [List.mem_singleton.mp hz]; exact yf_TooLate_most) y1_TooLate y2_TooLate y3_TooLate y4_TooLate y5_TooLate y6_TooLate y7_TooLate y8_TooLate y9_TooLate (by decide)
  have tt := exm_of x5_BadTruth z0_BadTruth y0_BadTruth e_tt
  have ft := exm_of x5_BadTruth z0_BadTruth y0_BadTruth e_ft
  have ff := exm_of x5_TooFine z0_TooFine y0_TooFine e_ff
  have lt := exm_of x5_BadTruth z0_BadTruth y0_BadTruth e_lt
  have lf := exm_of x5_TooFine z0_TooFine y0_TooFine e_lf
  have ll := exm_of x5_TooLate z0_TooLate y0_TooLate e_ll
  obtain rfl_T : ∃ T0 : List (Addr × Str), T0 = [(Pt, (envOfC "law" (defScope (topS 34)) 0 fa (.ref cL)).qual ++ "<lambda>")] := ⟨_, rfl⟩
  obtain ⟨T0, hT0⟩ := rfl_T
  refine ⟨fnOf "law" "law" (defArgs (topS 34)) (defBody (topS 34)) (defScope (topS 34)) .none kVL docL pmL anL (.ref cL) ctL, [(cL, Pt)], spLaw K T0, ?_, ?_, ?_, ?_, ?_, fun base KB GB TB => ?_⟩
  · intro p hp
    simp only [List.mem_cons, List.not_mem_nil, or_false] at hp
    rcases hp with rfl
    · exact q8
  · intro p hp
    simp only [List.mem_cons, List.not_mem_nil, or_false] at hp
    rcases hp with rfl
    · exact q7
  · intro p hp
    simp only [List.mem_cons, List.not_mem_nil, or_false] at hp
    rcases hp with rfl
    · exact codeHd_of KX q0 q1 q2 q3 q4 q5 q6
  · intro s u
    exact BindsTo.of_looks fun M => Looks.of_pure rfl
  · intro H a ns hl hbits hH hS
    refine ⟨a, ns, rfl, hl, hS, fun p hp => ?_, fun _ => rfl⟩
    rw [hT0] at hp
    simp only [List.mem_cons, List.not_mem_nil, or_false] at hp
    rcases hp with rfl
    · exact TabS.nil (hH (cL, Pt) (List.mem_cons_self ..))
  have TB0 := TB (cL, Pt) (List.mem_cons_self ..)
  have hT1 : (Pt, (envOfC "law" (defScope (topS 34)) 0 fa (.ref cL)).qual ++ "<lambda>") ∈ T0 := by rw [hT0]; exact List.mem_cons_self ..
  have hT2 : ∀ p ∈ T0, p.1 = Pt → p.2 = (envOfC "law" (defScope (topS 34)) 0 fa (.ref cL)).qual ++ "<lambda>" := fun p hp e => by
    rw [hT0] at hp
    simp only [List.mem_cons, List.not_mem_nil, or_false] at hp
    rcases hp with rfl
    · rfl
  have G_is_integer : CallF topP w K mg base "is_integer" ["value"] 1 (spIsInteger K) := ⟨_, _, ok_is_integer B F_is_integer, mg_of KX G n_is_integer, k_is_integer, F_is_integer.binds (fun _ _ _ _ _ _ us hl => match us, hl with | [_], _ => rfl)⟩
  have G_is_place : CallF topP w K mg base "is_place" ["value"] 2 (spPlace K) := ⟨_, _, ok_is_place B G_is_integer F_is_place, mg_of KX G n_is_place, k_is_place, F_is_place.binds (fun _ _ _ _ _ _ us hl => match us, hl with | [_], _ => rfl)⟩
  have G_need_truths : CallF topP w K mg base "need_truths" ["truths"] 3 (spNeedT K C_BadTruth) := ⟨_, _, ok_need_truths B X_BadTruth F_need_truths, mg_of KX G n_need_truths, k_need_truths, F_need_truths.binds (fun _ _ _ _ _ _ us hl => match us, hl with | [_], _ => rfl)⟩
  have G_least_period : CallF topP w K mg base "least_period" ["row"] 1 spLeastP := ⟨_, _, ok_least_period B F_least_period, mg_of KX G n_least_period, k_least_period, F_least_period.binds (fun _ _ _ _ _ _ us hl => match us, hl with | [_], _ => rfl)⟩
  have G_need_integer : CallF topP w K mg base "need_integer" ["n"] 3 (spNeedI K C_BadPlace) := ⟨_, _, ok_need_integer B X_BadPlace G_is_integer F_need_integer, mg_of KX G n_need_integer, k_need_integer, F_need_integer.binds (fun _ _ _ _ _ _ us hl => match us, hl with | [_], _ => rfl)⟩
  have O_Where_init := ok_Where_initY (P := topP) (w := w) (base := base) B c_Where no_Where_period no_Where_rests no_Where_start no_Where_below c_MOST_PERIOD c_MOST_START X_BadTruth X_TooFine X_TooLate G_need_truths G_least_period F_Where_init
  have M_Where := make_WhereY O_Where_init mk0_Where g_Where (F_Where_init.binds (fun _ _ _ _ _ _ us hl => match us, hl with | [_, _, _], _ => rfl))
  have G_Where_truth : MethF topP w K mg base C_Where "truth" ["self", "n"] 1 (spTruth K C_Where) := ⟨_, _, ok_Where_truth B c_Where no_Where_period no_Where_rests no_Where_start no_Where_below F_Where_truth, ⟨n_Where_truth, i_Where_truth, k_Where_truth⟩, F_Where_truth.binds (fun _ _ _ _ _ _ us hl => match us, hl with | [_, _], _ => rfl)⟩
  have OIN_Where : OwnF topP w K mg base C_Where "__contains__" ["self", "n"] 4 (spInW K C_Where) := ⟨_, _, ok_Where_contains B c_Where G_is_place G_Where_truth F_Where_contains, n_Where_contains, i_Where_contains, F_Where_contains.binds (fun _ _ _ _ _ _ us hl => match us, hl with | [_, _], _ => rfl)⟩
  have G_Where_many_below : MethF topP w K mg base C_Where "many_below" ["self", "n"] 3 (spManyB K C_Where) := ⟨_, _, ok_Where_many_below B c_Where no_Where_period no_Where_rests no_Where_start no_Where_below G_Where_truth F_Where_many_below, ⟨n_Where_many_below, i_Where_many_below, k_Where_many_below⟩, F_Where_many_below.binds (fun _ _ _ _ _ _ us hl => match us, hl with | [_, _], _ => rfl)⟩
  have G_Where_how_many : MethF topP w K mg base C_Where "how_many" ["self", "low", "high"] 5 (spHowMany K C_Where C_BadPlace) := ⟨_, _, ok_Where_how_many B c_Where G_need_integer G_Where_many_below F_Where_how_many, ⟨n_Where_how_many, i_Where_how_many, k_Where_how_many⟩, F_Where_how_many.binds (fun _ _ _ _ _ _ us hl => match us, hl with | [_, _, _], _ => rfl)⟩
  have G_Where_member : MethF topP w K mg base C_Where "member" ["self", "k"] 5 (spMember K C_Where C_BadNumber C_NoMember) := ⟨_, _, ok_Where_member B c_Where no_Where_period no_Where_rests no_Where_start no_Where_below X_BadNumber X_NoMember G_is_place G_Where_truth F_Where_member, ⟨n_Where_member, i_Where_member, k_Where_member⟩, F_Where_member.binds (fun _ _ _ _ _ _ us hl => match us, hl with | [_, _], _ => rfl)⟩
  have G_Where_first_from : MethF topP w K mg base C_Where "first_from" ["self", "n"] 5 (spFirst K C_Where C_BadPlace) := ⟨_, _, ok_Where_first_from B c_Where no_Where_period no_Where_start G_need_integer G_Where_truth F_Where_first_from, ⟨n_Where_first_from, i_Where_first_from, k_Where_first_from⟩, F_Where_first_from.binds (fun _ _ _ _ _ _ us hl => match us, hl with | [_, _], _ => rfl)⟩
  have P_Where_least : PropF topP w K mg base C_Where "least" 6 (spLeastW K C_Where) := ⟨_, _, _, ok_Where_least B c_Where G_Where_first_from F_Where_least, ⟨n_Where_least, pgt_Where_least, ptk_Where_least, _, prc_Where_least⟩, F_Where_least.binds (fun _ _ _ _ _ _ us hl => match us, hl with | [_], _ => rfl)⟩
  have G_Where_last_to : MethF topP w K mg base C_Where "last_to" ["self", "n"] 5 (spLast K C_Where C_BadPlace) := ⟨_, _, ok_Where_last_to B c_Where no_Where_period no_Where_start no_Where_below G_need_integer G_Where_truth F_Where_last_to, ⟨n_Where_last_to, i_Where_last_to, k_Where_last_to⟩, F_Where_last_to.binds (fun _ _ _ _ _ _ us hl => match us, hl with | [_, _], _ => rfl)⟩
  have G__law_pen : CallF topP w K mg base "_law_pen" ["script"] 1 (spPen K) := ⟨_, _, ok__law_pen B F__law_pen, mg_of KX G n__law_pen, k__law_pen, F__law_pen.binds (fun _ _ _ _ _ _ us hl => match us, hl with | [_], _ => rfl)⟩
  have G__law_draw : CallF topP w K mg base "_law_draw" ["pen", "many"] 2 spDraw := ⟨_, _, ok__law_draw B F__law_draw, mg_of KX G n__law_draw, k__law_draw, F__law_draw.binds (fun _ _ _ _ _ _ us hl => match us, hl with | [_, _], _ => rfl)⟩
  have G__law_pick : CallF topP w K mg base "_law_pick" ["pen", "some"] 3 (spPick K) := ⟨_, _, ok__law_pick B G__law_draw F__law_pick, mg_of KX G n__law_pick, k__law_pick, F__law_pick.binds (fun _ _ _ _ _ _ us hl => match us, hl with | [_, _], _ => rfl)⟩
  have G__law_rests_of : CallF topP w K mg base "_law_rests_of" ["pen", "m"] 3 spRestsOf := ⟨_, _, ok__law_rests_of B G__law_draw F__law_rests_of, mg_of KX G n__law_rests_of, k__law_rests_of, F__law_rests_of.binds (fun _ _ _ _ _ _ us hl => match us, hl with | [_, _], _ => rfl)⟩
  have G__law_in : CallF topP w K mg base "_law_in" ["model", "n"] 1 (spIn K) := ⟨_, _, ok__law_in B F__law_in, mg_of KX G n__law_in, k__law_in, F__law_in.binds (fun _ _ _ _ _ _ us hl => match us, hl with | [_, _], _ => rfl)⟩
  have G__law_first : CallF topP w K mg base "_law_first" ["model", "n"] 3 (spFirstI K) := ⟨_, _, ok__law_firstI B G__law_in F__law_first, mg_of KX G n__law_first, k__law_first, F__law_first.binds (fun _ _ _ _ _ _ us hl => match us, hl with | [_, _], _ => rfl)⟩
  have G__law_last : CallF topP w K mg base "_law_last" ["model", "n"] 3 (spLastI K) := ⟨_, _, ok__law_lastI B G__law_in F__law_last, mg_of KX G n__law_last, k__law_last, F__law_last.binds (fun _ _ _ _ _ _ us hl => match us, hl with | [_, _], _ => rfl)⟩
  have G__law_below : CallF topP w K mg base "_law_below" ["model", "n"] 3 (spBelowM K) := ⟨_, _, ok__law_below B F__law_below, mg_of KX G n__law_below, k__law_below, F__law_below.binds (fun _ _ _ _ _ _ us hl => match us, hl with | [_, _], _ => rfl)⟩
  have G__law_asked_right : CallF topP w K mg base "_law_asked_right" ["pen", "w", "model"] 8 (spAsked C_Where) := ⟨_, _, ok__law_asked_right B c_Where sf_Where OIN_Where P_Where_least G_Where_how_many G_Where_member G_Where_first_from G_Where_last_to G__law_draw G__law_in G__law_first G__law_last G__law_below F__law_asked_right, mg_of KX G n__law_asked_right, k__law_asked_right, F__law_asked_right.binds (fun _ _ _ _ _ _ us hl => match us, hl with | [_, _, _], _ => rfl)⟩
  have LF : LawF topP w K mg base C_Where C_BadTruth C_TooFine C_TooLate := { B := B, c_Where := c_Where, no_Where_period := no_Where_period, no_Where_rests := no_Where_rests, no_Where_start := no_Where_start, no_Where_below := no_Where_below, M_Where := M_Where, G__law_pen := G__law_pen, G__law_draw := G__law_draw, G__law_pick := G__law_pick, G__law_rests_of := G__law_rests_of, G__law_asked_right := G__law_asked_right, xT := X_BadTruth, xF := X_TooFine, xL := X_TooLate, tt := tt, ft := ft, ff := ff, lt := lt, lf := lf, ll := ll }
  exact ok_law LF TB0 F__law_refusal (mg_of KX G n__law_refusal) (F__law_refusal.binds (fun _ _ _ _ _ _ us hl => match us, hl with | [_], _ => rfl)) l_law c_law hT1 hT2
end Ev
namespace HK
open PySem PySem.W PyProof.Rows
set_option maxHeartbeats 0 in
open_top head for PySem.Challenge.rw_everyfloor_k86_whole_sets_with_long_peri
end HK
open PySem PySem.W PyProof.Rows in
set_option maxHeartbeats 0 in
theorem PySem.Challenge.cw_everyfloor_k86_whole_sets_with_long_peri_holds : PySem.Challenge.rw_everyfloor_k86_whole_sets_with_long_peri.Holds := by
  refine HK.head ?_
  k_fill
  refine LamX.walk_ofTs (l := PySem.Challenge.rw_everyfloor_k86_whole_sets_with_long_peri) (n := 63) (k := 20) (x := "script") (CX := fun w => L2.CX PySem.Challenge.pw_everyfloor_k86_whole_sets_with_long_peri w) rfl (by decide) rfl ⟨rfl, by decide, by decide⟩ (fun w h Y => km_in_of Y) ?F (fun w H s e s' q => by obtain ⟨_, _, _, _, _, _, _, _, _, _, _, _, z⟩ := q; exact z.elim)
  case F =>
    intro w mg fa h Y KX G hmg
    have hT := km_tabs_of Y
    refine' Ev.join KX G hmg ?n_is_integer ?l_is_integer ?c_is_integer ?k_is_integer ?n_is_place ?l_is_place ?c_is_place ?k_is_place ?n_need_truths ?l_need_truths ?c_need_truths ?k_need_truths ?n_least_period ?l_least_period ?c_least_period ?k_least_period ?n_need_integer ?l_need_integer ?c_need_integer ?k_need_integer ?n__law_pen ?l__law_pen ?c__law_pen ?k__law_pen ?n__law_draw ?l__law_draw ?c__law_draw ?k__law_draw ?n__law_pick ?l__law_pick ?c__law_pick ?k__law_pick ?n__law_rests_of ?l__law_rests_of ?c__law_rests_of ?k__law_rests_of ?n__law_in ?l__law_in ?c__law_in ?k__law_in ?n__law_first ?l__law_first ?c__law_first ?k__law_first ?n__law_last ?l__law_last ?c__law_last ?k__law_last ?n__law_below ?l__law_below ?c__law_below ?k__law_below ?n__law_asked_right ?l__law_asked_right ?c__law_asked_right ?k__law_asked_right ?n__law_refusal ?l__law_refusal ?c__law_refusal ?k__law_refusal ?n_Where ?pg_Where ?hd_Where ?po_Where ?sa_Where ?mk_Where ?kc_Where ?cl_Where ?ob_Where ?ne_Where ?nl_Where ?nt_Where ?kl_Where ?kt_Where ?ki_Where ?no_Where_period ?no_Where_rests ?no_Where_start ?no_Where_below ?n_Where_init ?i_Where_init ?l_Where_init ?c_Where_init ?k_Where_init ?n_Where_truth ?i_Where_truth ?l_Where_truth ?c_Where_truth ?k_Where_truth ?n_Where_contains ?i_Where_contains ?l_Where_contains ?c_Where_contains ?k_Where_contains ?n_Where_many_below ?i_Where_many_below ?l_Where_many_below ?c_Where_many_below ?k_Where_many_below ?n_Where_how_many ?i_Where_how_many ?l_Where_how_many ?c_Where_how_many ?k_Where_how_many ?n_Where_member ?i_Where_member ?l_Where_member ?c_Where_member ?k_Where_member ?n_Where_first_from ?i_Where_first_from ?l_Where_first_from ?c_Where_first_from ?k_Where_first_from ?n_Where_last_to ?i_Where_last_to ?l_Where_last_to ?c_Where_last_to ?k_Where_last_to ?n_Where_least ?pgt_Where_least ?ptk_Where_least ?prc_Where_least ?l_Where_least ?c_Where_least ?k_Where_least ?gs ?tk ?b_len ?b_range ?b_int ?b_bool ?b_str ?b_list ?b_tuple ?b_set ?b_abs ?b_min ?b_max ?b_sum ?b_any ?b_all ?b_sorted ?b_isinstance ?b_enumerate ?b_reversed ?b_zip ?su ?th ?n_BadPlace ?x0_BadPlace ?x1_BadPlace ?x2_BadPlace ?x3_BadPlace ?x4_BadPlace ?x5_BadPlace ?x6_BadPlace ?x7_BadPlace ?x8_BadPlace ?x9_BadPlace ?y0_BadPlace ?yf_BadPlace_n ?y1_BadPlace ?y2_BadPlace ?y3_BadPlace ?y4_BadPlace ?y5_BadPlace ?y6_BadPlace ?y7_BadPlace ?y8_BadPlace ?y9_BadPlace ?z0_BadPlace ?n_BadNumber ?x0_BadNumber ?x1_BadNumber ?x2_BadNumber ?x3_BadNumber ?x4_BadNumber ?x5_BadNumber ?x6_BadNumber ?x7_BadNumber ?x8_BadNumber ?x9_BadNumber ?y0_BadNumber ?yf_BadNumber_number ?y1_BadNumber ?y2_BadNumber ?y3_BadNumber ?y4_BadNumber ?y5_BadNumber ?y6_BadNumber ?y7_BadNumber ?y8_BadNumber ?y9_BadNumber ?z0_BadNumber ?n_BadTruth ?x0_BadTruth ?x1_BadTruth ?x2_BadTruth ?x3_BadTruth ?x4_BadTruth ?x5_BadTruth ?x6_BadTruth ?x7_BadTruth ?x8_BadTruth ?x9_BadTruth ?y0_BadTruth ?yf_BadTruth_index ?y1_BadTruth ?y2_BadTruth ?y3_BadTruth ?y4_BadTruth ?y5_BadTruth ?y6_BadTruth ?y7_BadTruth ?y8_BadTruth ?y9_BadTruth ?z0_BadTruth ?n_NoMember ?x0_NoMember ?x1_NoMember ?x2_NoMember ?x3_NoMember ?x4_NoMember ?x5_NoMember ?x6_NoMember ?x7_NoMember ?x8_NoMember ?x9_NoMember ?y0_NoMember ?yf_NoMember_k ?y1_NoMember ?y2_NoMember ?y3_NoMember ?y4_NoMember ?y5_NoMember ?y6_NoMember ?y7_NoMember ?y8_NoMember ?y9_NoMember ?z0_NoMember ?n_TooFine ?x0_TooFine ?x1_TooFine ?x2_TooFine ?x3_TooFine ?x4_TooFine ?x5_TooFine ?x6_TooFine ?x7_TooFine ?x8_TooFine ?x9_TooFine ?y0_TooFine ?yf_TooFine_most ?y1_TooFine ?y2_TooFine ?y3_TooFine ?y4_TooFine ?y5_TooFine ?y6_TooFine ?y7_TooFine ?y8_TooFine ?y9_TooFine ?z0_TooFine ?n_TooLate ?x0_TooLate ?x1_TooLate ?x2_TooLate ?x3_TooLate ?x4_TooLate ?x5_TooLate ?x6_TooLate ?x7_TooLate ?x8_TooLate ?x9_TooLate ?y0_TooLate ?yf_TooLate_most ?y1_TooLate ?y2_TooLate ?y3_TooLate ?y4_TooLate ?y5_TooLate ?y6_TooLate ?y7_TooLate ?y8_TooLate ?y9_TooLate ?z0_TooLate ?sf_Where ?n_MOST_PERIOD ?v_MOST_PERIOD ?n_MOST_START ?v_MOST_START ?e_tt ?e_ft ?e_ff ?e_lt ?e_lf ?e_ll ?n_law ?l_law ?c_law ?q0 ?q1 ?q2 ?q3 ?q4 ?q5 ?q6 ?q7 ?q8
    (case n_is_integer => k_is)
    (case l_is_integer => k_is)
    (case c_is_integer => k_is)
    (case k_is_integer => k_is)
    (case n_is_place => k_is)
    (case l_is_place => k_is)
    (case c_is_place => k_is)
    (case k_is_place => k_is)
    (case n_need_truths => k_is)
    (case l_need_truths => k_is)
    (case c_need_truths => k_is)
    (case k_need_truths => k_is)
    (case n_least_period => k_is)
    (case l_least_period => k_is)
    (case c_least_period => k_is)
    (case k_least_period => k_is)
    (case n_need_integer => k_is)
    (case l_need_integer => k_is)
    (case c_need_integer => k_is)
    (case k_need_integer => k_is)
    (case n__law_pen => k_is)
    (case l__law_pen => k_is)
    (case c__law_pen => k_is)
    (case k__law_pen => k_is)
    (case n__law_draw => k_is)
    (case l__law_draw => k_is)
    (case c__law_draw => k_is)
    (case k__law_draw => k_is)
    (case n__law_pick => k_is)
    (case l__law_pick => k_is)
    (case c__law_pick => k_is)
    (case k__law_pick => k_is)
    (case n__law_rests_of => k_is)
    (case l__law_rests_of => k_is)
    (case c__law_rests_of => k_is)
    (case k__law_rests_of => k_is)
    (case n__law_in => k_is)
    (case l__law_in => k_is)
    (case c__law_in => k_is)
    (case k__law_in => k_is)
    (case n__law_first => k_is)
    (case l__law_first => k_is)
    (case c__law_first => k_is)
    (case k__law_first => k_is)
    (case n__law_last => k_is)
    (case l__law_last => k_is)
    (case c__law_last => k_is)
    (case k__law_last => k_is)
    (case n__law_below => k_is)
    (case l__law_below => k_is)
    (case c__law_below => k_is)
    (case k__law_below => k_is)
    (case n__law_asked_right => k_is)
    (case l__law_asked_right => k_is)
    (case c__law_asked_right => k_is)
    (case k__law_asked_right => k_is)
    (case n__law_refusal => k_is)
    (case l__law_refusal => k_is)
    (case c__law_refusal => k_is)
    (case k__law_refusal => k_is)
    (case n_Where => k_is)
    (case pg_Where => k_is)
    (case hd_Where => k_is)
    (case po_Where => k_is)
    (case sa_Where => k_is)
    (case mk_Where => k_is)
    (case kc_Where => k_is)
    (case cl_Where => k_is)
    (case ob_Where => k_is)
    (case ne_Where => k_is)
    (case nl_Where => k_is)
    (case nt_Where => k_is)
    (case kl_Where => kit_is)
    (case kt_Where => kit_is)
    (case ki_Where => kit_is)
    (case no_Where_period => k_is)
    (case no_Where_rests => k_is)
    (case no_Where_start => k_is)
    (case no_Where_below => k_is)
    (case n_Where_init => k_is)
    (case i_Where_init => k_is)
    (case l_Where_init => k_is)
    (case c_Where_init => k_is)
    (case k_Where_init => k_is)
    (case n_Where_truth => k_is)
    (case i_Where_truth => k_is)
    (case l_Where_truth => k_is)
    (case c_Where_truth => k_is)
    (case k_Where_truth => k_is)
    (case n_Where_contains => k_is)
    (case i_Where_contains => k_is)
    (case l_Where_contains => k_is)
    (case c_Where_contains => k_is)
    (case k_Where_contains => k_is)
    (case n_Where_many_below => k_is)
    (case i_Where_many_below => k_is)
    (case l_Where_many_below => k_is)
    (case c_Where_many_below => k_is)
    (case k_Where_many_below => k_is)
    (case n_Where_how_many => k_is)
    (case i_Where_how_many => k_is)
    (case l_Where_how_many => k_is)
    (case c_Where_how_many => k_is)
    (case k_Where_how_many => k_is)
    (case n_Where_member => k_is)
    (case i_Where_member => k_is)
    (case l_Where_member => k_is)
    (case c_Where_member => k_is)
    (case k_Where_member => k_is)
    (case n_Where_first_from => k_is)
    (case i_Where_first_from => k_is)
    (case l_Where_first_from => k_is)
    (case c_Where_first_from => k_is)
    (case k_Where_first_from => k_is)
    (case n_Where_last_to => k_is)
    (case i_Where_last_to => k_is)
    (case l_Where_last_to => k_is)
    (case c_Where_last_to => k_is)
    (case k_Where_last_to => k_is)
    (case n_Where_least => k_is)
    (case pgt_Where_least => k_is)
    (case ptk_Where_least => k_is)
    (case prc_Where_least => k_is)
    (case l_Where_least => k_is)
    (case c_Where_least => k_is)
    (case k_Where_least => k_is)
    (case gs => k_is)
    (case tk => k_is)
    (case b_len => k_is)
    (case b_range => k_is)
    (case b_int => k_is)
    (case b_bool => k_is)
    (case b_str => k_is)
    (case b_list => k_is)
    (case b_tuple => k_is)
    (case b_set => k_is)
    (case b_abs => k_is)
    (case b_min => k_is)
    (case b_max => k_is)
    (case b_sum => k_is)
    (case b_any => k_is)
    (case b_all => k_is)
    (case b_sorted => k_is)
    (case b_isinstance => k_is)
    (case b_enumerate => k_is)
    (case b_reversed => k_is)
    (case b_zip => k_is)
    (case su => k_is)
    (case th => k_is)
    (case n_BadPlace => k_is)
    (case x0_BadPlace => k_is)
    (case x1_BadPlace => exact rfl)
    (case x2_BadPlace => k_is)
    (case x3_BadPlace => k_is)
    (case x4_BadPlace => k_is)
    (case x5_BadPlace => k_is)
    (case x6_BadPlace => k_is)
    (case x7_BadPlace => k_is)
    (case x8_BadPlace => k_is)
    (case x9_BadPlace => k_is)
    (case y0_BadPlace => k_is)
    (case yf_BadPlace_n => k_is)
    (case y1_BadPlace => k_is)
    (case y2_BadPlace => k_is)
    (case y3_BadPlace => ks_is)
    (case y4_BadPlace => k_is)
    (case y5_BadPlace => k_is)
    (case y6_BadPlace => k_is)
    (case y7_BadPlace => k_is)
    (case y8_BadPlace => exact rfl)
    (case y9_BadPlace => exact rfl)
    (case z0_BadPlace => k_is)
    (case n_BadNumber => k_is)
    (case x0_BadNumber => k_is)
    (case x1_BadNumber => exact rfl)
    (case x2_BadNumber => k_is)
    (case x3_BadNumber => k_is)
    (case x4_BadNumber => k_is)
    (case x5_BadNumber => k_is)
    (case x6_BadNumber => k_is)
    (case x7_BadNumber => k_is)
    (case x8_BadNumber => k_is)
    (case x9_BadNumber => k_is)
    (case y0_BadNumber => k_is)
    (case yf_BadNumber_number => k_is)
    (case y1_BadNumber => k_is)
    (case y2_BadNumber => k_is)
    (case y3_BadNumber => ks_is)
    (case y4_BadNumber => k_is)
    (case y5_BadNumber => k_is)
    (case y6_BadNumber => k_is)
    (case y7_BadNumber => k_is)
    (case y8_BadNumber => exact rfl)
    (case y9_BadNumber => exact rfl)
    (case z0_BadNumber => k_is)
    (case n_BadTruth => k_is)
    (case x0_BadTruth => k_is)
    (case x1_BadTruth => exact rfl)
    (case x2_BadTruth => k_is)
    (case x3_BadTruth => k_is)
    (case x4_BadTruth => k_is)
    (case x5_BadTruth => k_is)
    (case x6_BadTruth => k_is)
    (case x7_BadTruth => k_is)
    (case x8_BadTruth => k_is)
    (case x9_BadTruth => k_is)
    (case y0_BadTruth => k_is)
    (case yf_BadTruth_index => k_is)
    (case y1_BadTruth => k_is)
    (case y2_BadTruth => k_is)
    (case y3_BadTruth => ks_is)
    (case y4_BadTruth => k_is)
    (case y5_BadTruth => k_is)
    (case y6_BadTruth => k_is)
    (case y7_BadTruth => k_is)
    (case y8_BadTruth => exact rfl)
    (case y9_BadTruth => exact rfl)
    (case z0_BadTruth => k_is)
    (case n_NoMember => k_is)
    (case x0_NoMember => k_is)
    (case x1_NoMember => exact rfl)
    (case x2_NoMember => k_is)
    (case x3_NoMember => k_is)
    (case x4_NoMember => k_is)
    (case x5_NoMember => k_is)
    (case x6_NoMember => k_is)
    (case x7_NoMember => k_is)
    (case x8_NoMember => k_is)
    (case x9_NoMember => k_is)
    (case y0_NoMember => k_is)
    (case yf_NoMember_k => k_is)
    (case y1_NoMember => k_is)
    (case y2_NoMember => k_is)
    (case y3_NoMember => ks_is)
    (case y4_NoMember => k_is)
    (case y5_NoMember => k_is)
    (case y6_NoMember => k_is)
    (case y7_NoMember => k_is)
    (case y8_NoMember => exact rfl)
    (case y9_NoMember => exact rfl)
    (case z0_NoMember => k_is)
    (case n_TooFine => k_is)
    (case x0_TooFine => k_is)
    (case x1_TooFine => exact rfl)
    (case x2_TooFine => k_is)
    (case x3_TooFine => k_is)
    (case x4_TooFine => k_is)
    (case x5_TooFine => k_is)
    (case x6_TooFine => k_is)
    (case x7_TooFine => k_is)
    (case x8_TooFine => k_is)
    (case x9_TooFine => k_is)
    (case y0_TooFine => k_is)
    (case yf_TooFine_most => k_is)
    (case y1_TooFine => k_is)
    (case y2_TooFine => k_is)
    (case y3_TooFine => ks_is)
    (case y4_TooFine => k_is)
    (case y5_TooFine => k_is)
    (case y6_TooFine => k_is)
    (case y7_TooFine => k_is)
    (case y8_TooFine => exact rfl)
    (case y9_TooFine => exact rfl)
    (case z0_TooFine => k_is)
    (case n_TooLate => k_is)
    (case x0_TooLate => k_is)
    (case x1_TooLate => exact rfl)
    (case x2_TooLate => k_is)
    (case x3_TooLate => k_is)
    (case x4_TooLate => k_is)
    (case x5_TooLate => k_is)
    (case x6_TooLate => k_is)
    (case x7_TooLate => k_is)
    (case x8_TooLate => k_is)
    (case x9_TooLate => k_is)
    (case y0_TooLate => k_is)
    (case yf_TooLate_most => k_is)
    (case y1_TooLate => k_is)
    (case y2_TooLate => k_is)
    (case y3_TooLate => ks_is)
    (case y4_TooLate => k_is)
    (case y5_TooLate => k_is)
    (case y6_TooLate => k_is)
    (case y7_TooLate => k_is)
    (case y8_TooLate => exact rfl)
    (case y9_TooLate => exact rfl)
    (case z0_TooLate => k_is)
    (case sf_Where => k_is)
    (case n_MOST_PERIOD => k_is)
    (case v_MOST_PERIOD => exact rfl)
    (case n_MOST_START => k_is)
    (case v_MOST_START => exact rfl)
    (case e_tt => k_is)
    (case e_ft => k_is)
    (case e_ff => k_is)
    (case e_lt => k_is)
    (case e_lf => k_is)
    (case e_ll => k_is)
    (case n_law => k_is)
    (case l_law => k_is)
    (case c_law => k_is)
    (case q0 => k_is)
    (case q1 => exact rfl)
    (case q2 => exact rfl)
    (case q3 => exact rfl)
    (case q4 => exact rfl)
    (case q5 => exact rfl)
    (case q6 => exact rfl)
    (case q7 => kernel_rfl)
    (case q8 => exact hT _ (by decide))
