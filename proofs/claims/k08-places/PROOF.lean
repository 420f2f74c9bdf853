import PyProof.Rows.All
import Wide.All
import OpenK.AllK
import Wide.FinOn
import HandS.ForMost
import HandS.ForExc
import HandS.TryMany
import HandS.IsInst
import HandS.Property
import HandS.OwnEq
import HandS.Flow
import HandS.Walk
import HandS.SetFor
import HandS.Wide
import HandS.EndTab
import HandS.Defaults
import HandS.Conv
import HandS.ClsMeth
import HandS.Lambda
import HandS.ExcField
import KE.KExcSuper
import HandS.Style
import HandS.TupAny
import KE.KOpsOwn
import KE.KCallOwn
import HandS.ExcOwn
import HandS.Strs
import HandS.Star
import PyProof.EqAt
import PyProof.EqKinds
import PyProof.TupleCall
import HandS.Base
import HandS.Call
import HandS.Exc
import HandS.ExcInit
import KE.GoesMore
import PySem.Challenge.RW_everyfloor_k08_whole_last_and_all_places
set_option Elab.async false
set_option linter.all false
set_option maxRecDepth 100000
set_option maxHeartbeats 4000000
/-! An own exception class whose __init__ says super().__init__('..') and then stores its fields. -/
namespace PySem
namespace SupX
open PySem.W PySem.Calls PyProof.Rows PySem.HandSPX

section
variable {prog : Program} {w : World} {M : Model} {A : Around} {E : Value → Shared → Prop} {h : Heap} {g : Array GenState} {d : Drawn} {t : Nat} {os : OsState}

/-- the base's __init__ bound to the exception, called -/
theorem sx_call {nm q : Str} {C N u x t0 : Addr} {bs bm : List Value} {hdct : Bool} {sn : List Str} {sub : List Value} {ab : Bool} {col : Option Bool} {dd : Option Addr} {k0 k1 k2 k3 k5 : Option Value} {rest : List Value} {Q : Value → Shared → Prop}
    (hC : h.get? C = some (excClassObj nm q C N bs bm hdct sn sub ab col dd k0 k1 k2 k3 k5 "ValueError.__new__")) (hx : h.get? x = some (excO C t0)) (hu : h.get? u = some (kxs_mw "ValueError.__init__" x)) (hrest : rest.length ≤ sizeLine)
    (hq : ∀ h' t1, (∀ b o, b ≠ x → h.get? b = some o → h'.get? b = some o) → h'.get? x = some (excO C t1) → Q .none ⟨h', g, d, t, os⟩) :
    wpAny (model prog w) A (call (.ref u) rest) Q E ⟨h, g, d, t, os⟩ := by
  refine wpAny_call (codeAny_of_tree ?_)
  show wpAny _ A.in1 (callAny (.ref u) ⟨rest, []⟩) _ _ _
  simp only [callAny]
  refine wpAny_bind (wpAny_load hu ?_)
  simp only [kxs_mw, show (Value.type "method-wrapper" == Value.type "method" || Value.type "method-wrapper" == Value.type "builtin_function_or_method" || Value.type "method-wrapper" == Value.type "method-wrapper") = true by decide, if_true]
  refine KFB.if_so (by decide) ?_
  refine wpAny_bind (check_bound_init F.excBase_ValueError.toExcCallFacts hC hx rfl ?_)
  refine wpAny_bind (wpAny_pure (wpAny_pure ?_))
  refine ⟨plainId_quiet F.excBase_ValueError.init.plain _, codeAny_builtin F.excBase_ValueError.initEntry ?_⟩
  exact exc_init_tree (cls := .ref C) (t0 := t0) (dv := none) (c2 := .none) (c3 := .none) (b4 := .bool false) hx hrest fun h' k e _ => hq h' _ k e

end

/-- what the written part says of the class at C and of its __init__ at fI (its cell at cc, its code object at cda) -/
structure SupTxt (prog : Program) (K : Frag) (mg : Str → Option Value) (x : Str) (C fI cc cda : Addr) (fs : List Str) : Prop where
  gC : mg x = some (.ref C)
  cls : ∃ nm q N bs bm sn sub ab col dd k0 k1 k2 k3 k5, K.lookup C = some (excClassObj nm q C N bs bm true sn sub ab col dd k0 k1 k2 k3 k5 "ValueError.__new__") ∧ refsVE bm = true
  sa : findIn K (.ref C) "__setattr__" = some (some (.builtin "object.__setattr__"))
  xf : L2.XfC K C
  iC : findIn K (.ref C) "__init__" = some (some (.ref fI))
  tI : typeIn K (.ref fI) = some (.type "function")
  kC : keepIn K (.ref C) = true
  tyC : typeIn K (.ref C) = some (.type "type")
  noF : ∀ f ∈ fs, findIn K (.ref C) f = some none
  self : mroIn K C (.ref C) = some true
  hB : subIn K (.ref C) (.type "ValueError") = some true
  sup : ks_superIn K C C "__init__" = some (some (.builtin "ValueError.__init__"))
  code : ∃ ccl cdd vs ccs file tf, K.lookup cda = some ⟨ccl, cdd, .fields vs, ccs⟩ ∧ vs[2]? = some (.str file tf) ∧ ((prog.main.file : Str) == file) = true
  cell : ∃ cl cld csl, K.lookup cc = some ⟨cl, cld, .cell (some (.ref C)), csl⟩

/-- what the module says of super -/
structure SupMod (prog : Program) (K : Frag) (mg : Str → Option Value) : Prop where
  mSup : mg "super" = none
  third : nsIn K cStatics "thirdparty.any" = some none
  top : (prog.main.scope.names.lookup ("super" : Str)).isSome = false

section
variable {prog : Program} {w : World} {M : Model} {A : Around} {E : Value → Shared → Prop} {s : Shared} {K : Frag} {mg : Str → Option Value} {xn : Str} {C fI cc cda L x t0 : Addr} {fs : List Str} {m : Str → Option Value}

theorem boot_super : bootBuiltins "super" = some (.type "super") := by first | rfl | kernel_rfl | decide +kernel

theorem cls_at {h : Heap} {cd : ClassData} (X : K.In h) (hc : clsIn K C = some cd) : ∃ oD, h.get? C = some oD ∧ oD.data = .cls cd := by
  unfold clsIn at hc
  split at hc
  · rename_i c d cd' sl ho
    cases hc
    exact ⟨_, X _ _ ho, rfl⟩
  · cases hc

theorem exc_ne {h : Heap} {cd : ClassData} {fv : Array Value} {od : Option Addr} (X : K.In h) (hc : clsIn K C = some cd) (hx : h.get? x = some { cls := .ref C, dict := od, data := .fields fv }) : x ≠ C := by
  rintro rfl
  obtain ⟨oD, h1, h2⟩ := cls_at X hc
  rw [hx] at h1
  cases h1
  cases h2

/-- super().__init__('..'), then what follows -/
theorem sx_first {scope : Scope} {qual : Str} {body rest : List Stmt} {tx : Str} {fd : FuncData} {ar : Arg} {oc : Value} {od : Option Addr} {osl : Array (Option Value)} {j : Nat} {p0 p1 p2 p3 p4 p5 : Pos} {Q : Flow → Shared → Prop}
    (T : SupTxt prog K mg xn C fI cc cda fs) (S : SupMod prog K mg) (X : K.In s.heap) (hg : s.heap.Ns mainGlobals mg) (hb : ∃ mb, s.heap.Ns builtinsNs mb ∧ ∀ x : Str, x ≠ "__name__" → mb x = bootBuiltins x)
    (hf : K.lookup fI = some ⟨oc, od, .func fd, osl⟩) (hp : (fd.params.posonlyargs ++ fd.params.args).head? = some ar) (har : ar.arg = "self")
    (hn : s.heap.Ns L m) (hself : m "self" = some (.ref x)) (hx : s.heap.get? x = some (excO C t0)) (hxL : L ≠ x)
    (hks : scope.names.lookup ("super" : Str) = some .globalImplicit) (hkc : scope.names.lookup ("__class__" : Str) = some .free) (hka : scope.names.lookup ("self" : Str) = some .local) (hk : scope.kind = .function)
    (h : ∀ h' tk t1, (∀ b o, b ≠ x → s.heap.get? b = some o → h'.get? b = some o) → h'.get? x = some (excO C t1) → h'.Ns L m →
      wpAny (model prog w) A (execs rest (ksEnv qual scope L fI (.ref cda) cc)) Q E { s with heap := h', toks := tk }) {pl : Sem Bool}
    (he : eval (.Call (.Attribute (.Call (.Name "super" p0) [] [] p1) "__init__" p2) [.Constant (.str tx) j p3] [] p4) (ksEnv qual scope L fI (.ref cda) cc) = (do
      let ov ← attributeBase (.Call (.Name "super" p0) [] [] p1) "__init__" (ksEnv qual scope L fI (.ref cda) cc) (eval (.Call (.Name "super" p0) [] [] p1) (ksEnv qual scope L fI (.ref cda) cc))
      standAt p2.atName
      let (f, first) ← holding [ov] (getMethod ov "__init__" pl)
      callWith p4 f first (backTo p4 (starEach [Expr.Constant (.str tx) j p3] (ksEnv qual scope L fI (.ref cda) cc))) []) := by rfl) :
    _root_.PySem.wpAt (model prog w) A (.func body (ksEnv qual scope L fI (.ref cda) cc))
      (execs (.Expr (.Call (.Attribute (.Call (.Name "super" p0) [] [] p1) "__init__" p2) [.Constant (.str tx) j p3] [] p4) p5 :: rest) (ksEnv qual scope L fI (.ref cda) cc)) Q E s := by
  obtain ⟨nm, q, N, bs, bm, sn, sub, ab, col, dd, k0, k1, k2, k3, k5, hC, hbm⟩ := T.cls
  obtain ⟨ccl, cdd, vs, ccs, file, tf, hcode, hvs, hfile⟩ := T.code
  obtain ⟨cl, cld, csl, hcell⟩ := T.cell
  obtain ⟨mb, hbn, hbb⟩ := hb
  have hcl : clsIn K C = some { name := nm, bases := bs, mro := .ref C :: bm, ns := N, qualname := q, hasDict := true, slotNames := sn, subclasses := sub, abstract := ab, collection := col, hasDel := false } := by unfold clsIn; rw [hC] <;> rfl
  obtain ⟨hh, g, d, t, os⟩ := s
  have hsup := T.sup
  unfold ks_superIn at hsup
  rw [hcl] at hsup
  have I : PySem.W.InstAt hh x (excO C t0) C none := ⟨hx, rfl, rfl, trivial⟩
  obtain ⟨oD, hD1, hD2⟩ := cls_at X hcl
  have hxC : x ≠ C := exc_ne X hcl hx
  refine ks_wpAt_execs_cons (ks_wpAt_Expr_any (ks_wpAt_MethodCall ?_ he) (by simp [interactive, hk]) (by rfl))
  have hka' : scope.names.lookup ar.arg = some .local := by rw [har]; exact hka
  have hv : m ar.arg = some (.ref x) := by rw [har]; exact hself
  refine ks_wpAt_super_base (env := ksEnv qual scope L fI (.ref cda) cc) hks hkc (by decide +kernel) rfl (X _ _ hf) rfl hp rfl (X _ _ hcode) rfl hvs hfile S.top ?_
  refine ks_loadName_global hk hks (loadGlobal_builtin (env := ksEnv qual scope L fI (.ref cda) cc) hg S.mSup hbn ((hbb _ (by decide +kernel)).trans boot_super) ⟨rfl, ?_⟩)
  refine wpAny_loadName_free hk hkc rfl ⟨_, X _ _ hcell, rfl⟩ ?_
  refine wpAny_loadName_local hk hka' hn hv ?_
  refine ks_wpAny_isType_cls hD1 hD2 ⟨rfl, ?_⟩
  refine ks_wpAny_call_super hD1 hD2 hx rfl (fun c e => by cases e) (looks_mroIn X T.self) (fun h1 e1 kk1 => ?_)
  have X1 : K.In h1 := X.keeps kk1
  have hx1 := kk1 _ _ hx
  have I1 : PySem.W.InstAt h1 x (excO C t0) C none := ⟨hx1, rfl, rfl, trivial⟩
  refine kxs_getMethod kxs_ValueError (K := K) (l₀ := .ref C :: bm) e1 (looks_opaque X1 S.third) ?_ rfl X1 hsup (I1.type.andThen (looks_subIn X1 T.hB)) hxC (by decide +kernel) ?_
  · exact fun A Q E s k q => wpAny_bind ((looks_clsIn X1 hcl) A _ E s k (wpAny_pure q))
  have kk2 : ∀ b o, hh.get? b = some o → (h1.push (kxs_mw "ValueError.__init__" x)).get? b = some o := fun b o e => Heap.get?_push_of_some _ (kk1 b o e)
  have hmw : (h1.push (kxs_mw "ValueError.__init__" x)).get? h1.objs.size = some (kxs_mw "ValueError.__init__" x) := Heap.get?_push_at rfl rfl
  have hs1 : starEach [Expr.Constant (.str tx) j p3] (ksEnv qual scope L fI (.ref cda) cc) = (false, eval (.Constant (.str tx) j p3) (ksEnv qual scope L fI (.ref cda) cc)) :: starEach [] (ksEnv qual scope L fI (.ref cda) cc) := by rfl
  show wpAny _ _ (callWith p4 (.ref h1.objs.size) [] (backTo p4 (starEach [Expr.Constant (.str tx) j p3] (ksEnv qual scope L fI (.ref cda) cc))) []) _ _ _
  rw [hs1]
  refine kxs_callWith (i := "ValueError.__init__") (x := x) (by rfl) (evalArgs_plain ?_)
  show wpAny _ _ (spliced ((false, eval (.Constant (.str tx) j p3) (ksEnv qual scope L fI (.ref cda) cc)) :: backTo p4 (starEach [] (ksEnv qual scope L fI (.ref cda) cc)))) _ _ _
  refine Calls.spliced_cons (Calls.Constant_str ?_)
  refine Calls.spliced_nil ⟨hmw, ?_⟩
  refine sx_call (kk2 _ _ (X _ _ hC)) (kk2 _ _ hx) hmw (by rw [sizeLine_eq]; exact (by decide : 1 ≤ 16777216)) fun h' t1 k e => ?_
  have kk3 : ∀ b o, b ≠ x → hh.get? b = some o → h'.get? b = some o := fun b o hb z => k b o hb (kk2 b o z)
  refine PySem.wpAt_of_wpAny (h h' _ t1 kk3 e ?_)
  obtain ⟨oL, es, ep, hL, r⟩ := hn
  exact ⟨oL, es, ep, kk3 _ _ hxL hL, r⟩
end

/-! ### the stores -/
/-- self.f = f -/
def mkStore (p : Str × Pos × Pos × Pos × Pos) : Stmt := .Assign [.Attribute (.Name "self" p.2.1) p.1 p.2.2.1] (.Name p.1 p.2.2.2.1) p.2.2.2.2
/-- the attributes behind the stores of l -/
def laid : List (Str × Value) → (Str → Option Value) → Str → Option Value
  | [], m0 => m0
  | (f, v) :: r, m0 => laid r fun y => if y = f then some v else m0 y

section
variable {prog : Program} {w : World} {A : Around} {E : Value → Shared → Prop} {K : Frag} {mg : Str → Option Value} {xn : Str} {C fI cc cda L x dx : Addr} {fs : List Str} {m : Str → Option Value} {scope : Scope} {qual : Str} {Q : Flow → Shared → Prop}
theorem ldS {s : Shared} {y : Str} {pos : Pos} {v : Value} {Q : Value → Shared → Prop} (hn : s.heap.Ns L m) (hv : m y = some v) (hk : scope.kind = .function) (hl : scope.names.lookup y = some .local) (hd : (y == ("__debug__" : Str)) = false) (h : Q v s) :
    wpAny (model prog w) A (eval (.Name y pos) (ksEnv qual scope L fI (.ref cda) cc)) Q E s := wpAny_Name (wpAny_loadName_local hk hl hn hv h) hd

theorem sx_more (T : SupTxt prog K mg xn C fI cc cda fs) (hk : scope.kind = .function) (hks : scope.names.lookup ("self" : Str) = some .local) {fv : Array Value} :
    ∀ (l : List ((Str × Pos × Pos × Pos × Pos) × Value)) (s : Shared) (m0 : Str → Option Value) (nl : List Str), (∀ p ∈ l, p.1.1 ∈ fs ∧ scope.names.lookup p.1.1 = some .local ∧ (p.1.1 == ("__debug__" : Str)) = false ∧ m p.1.1 = some p.2) →
      K.In s.heap → s.heap.Ns L m → m "self" = some (.ref x) → L ≠ dx → s.heap.get? x = some { cls := .ref C, dict := some dx, data := .fields fv } → s.heap.Ns1 dx m0 → Within m0 nl → nl.length + l.length ≤ 1000 → K.lookup dx = none → x ≠ dx →
      (∀ h' tk, (∀ b o, b ≠ dx → s.heap.get? b = some o → h'.get? b = some o) → h'.Ns1 dx (laid (l.map fun p => (p.1.1, p.2)) m0) → Q .next { s with heap := h', toks := tk }) →
      wpAny (model prog w) A (execs (l.map fun p => mkStore p.1) (ksEnv qual scope L fI (.ref cda) cc)) Q E s := by
  obtain ⟨nm, q, N, bs, bm, sn, sub, ab, col, dd, k0, k1, k2, k3, k5, hC, hbm⟩ := T.cls
  have hcl : clsIn K C = some { name := nm, bases := bs, mro := .ref C :: bm, ns := N, qualname := q, hasDict := true, slotNames := sn, subclasses := sub, abstract := ab, collection := col, hasDel := false } := by unfold clsIn; rw [hC] <;> rfl
  intro l
  induction l with
  | nil =>
    intro s m0 nl _ _ _ _ _ _ hns _ _ _ _ h
    obtain ⟨hp, g, d, tk, os⟩ := s
    exact wpAny_execs_nil (h hp tk (fun _ _ _ e => e) hns)
  | cons p l ih =>
    intro s m0 nl hl X hn hself hLd hx hns hw hz hKd hxd h
    obtain ⟨⟨f, q1, q2, q3, q4⟩, v⟩ := p
    obtain ⟨hf, hloc, hdbg, hv⟩ := hl _ (List.mem_cons_self ..)
    obtain ⟨hp, g, d, tk, os⟩ := s
    show wpAny _ _ (execs (mkStore (f, q1, q2, q3, q4) :: l.map fun p => mkStore p.1) _) _ _ _
    refine wpAny_execs_cons (plainObj_wpAny_Assign_Attribute ?_)
    refine ldS hn hv hk hloc hdbg (ldS hn hself hk hks (by decide +kernel) ?_)
    obtain ⟨oD, _, _, hoD, _, _⟩ := hns.count hw
    refine set_plain X (ox := { cls := .ref C, dict := some dx, data := .fields fv }) (od := some oD) ⟨hx, rfl, rfl, hoD⟩ T.sa ?_
    refine PySem.OEX.osa_old X hx hns hw (by simp only [List.length_cons] at hz; omega) hcl (show refsVE (.ref C :: bm) = true from hbm) rfl (T.noF f hf) (fun h1 tk1 k1 hn1 => ?_)
    have X1 : K.In h1 := fun a o e => k1 a o (fun z => by rw [z, hKd] at e; cases e) (X a o e)
    have hn2 : h1.Ns L m := by
      obtain ⟨oL, es, ep, hL, r⟩ := hn
      exact ⟨oL, es, ep, k1 _ _ hLd hL, r⟩
    refine ih ⟨h1, g, d, tk1, os⟩ _ (f :: nl) (fun p hp => hl p (List.mem_cons_of_mem _ hp)) X1 hn2 hself hLd (k1 _ _ hxd hx) hn1 (Within.cons f v hw) (by simp only [List.length_cons] at hz ⊢; omega) hKd hxd fun h' tk' k' n' => ?_
    exact h h' tk' (fun b o hb e => k' b o hb (k1 b o hb e)) n'

/-- what the exception at x is behind its __init__ -/
def InitBehind (h h' : Heap) (x C : Addr) : List (Str × Value) → Prop
  | [] => (∀ b o, b ≠ x → h.get? b = some o → h'.get? b = some o) ∧ ∃ t1, h'.get? x = some (excO C t1)
  | l => (∀ b o, b ≠ x → h.get? b = some o → h'.get? b = some o) ∧ ∃ t1 dx, h'.get? x = some { cls := .ref C, dict := some dx, data := .fields #[.ref t1, .none, .none, .none, .bool false, .none] } ∧ h.objs.size ≤ dx ∧ dx ≠ x ∧ h'.Ns1 dx (laid l fun _ => none)

theorem sx_stores (T : SupTxt prog K mg xn C fI cc cda fs) (hk : scope.kind = .function) (hks : scope.names.lookup ("self" : Str) = some .local) {s : Shared} {t0 : Addr}
    (l : List ((Str × Pos × Pos × Pos × Pos) × Value)) (hl : ∀ p ∈ l, p.1.1 ∈ fs ∧ scope.names.lookup p.1.1 = some .local ∧ (p.1.1 == ("__debug__" : Str)) = false ∧ m p.1.1 = some p.2) (hll : l.length ≤ 900)
    (X : K.In s.heap) (hn : s.heap.Ns L m) (hself : m "self" = some (.ref x)) (hLx : L ≠ x) (hx : s.heap.get? x = some (excO C t0)) (hKx : K.lookup x = none)
    (h : ∀ h' tk, InitBehind s.heap h' x C (l.map fun p => (p.1.1, p.2)) → Q .next { s with heap := h', toks := tk }) :
    wpAny (model prog w) A (execs (l.map fun p => mkStore p.1) (ksEnv qual scope L fI (.ref cda) cc)) Q E s := by
  obtain ⟨nm, q, N, bs, bm, sn, sub, ab, col, dd, k0, k1, k2, k3, k5, hC, hbm⟩ := T.cls
  have hcl : clsIn K C = some { name := nm, bases := bs, mro := .ref C :: bm, ns := N, qualname := q, hasDict := true, slotNames := sn, subclasses := sub, abstract := ab, collection := col, hasDel := false } := by unfold clsIn; rw [hC] <;> rfl
  cases l with
  | nil =>
    obtain ⟨hp, g, d, tk, os⟩ := s
    exact wpAny_execs_nil (h hp tk ⟨fun _ _ _ e => e, t0, hx⟩)
  | cons p l =>
    obtain ⟨⟨f, q1, q2, q3, q4⟩, v⟩ := p
    obtain ⟨hf, hloc, hdbg, hv⟩ := hl _ (List.mem_cons_self ..)
    obtain ⟨hp, g, d, tk, os⟩ := s
    show wpAny _ _ (execs (mkStore (f, q1, q2, q3, q4) :: l.map fun p => mkStore p.1) _) _ _ _
    refine wpAny_execs_cons (plainObj_wpAny_Assign_Attribute ?_)
    refine ldS hn hv hk hloc hdbg (ldS hn hself hk hks (by decide +kernel) ?_)
    refine set_plain X (ox := excO C t0) (od := none) ⟨hx, rfl, rfl, trivial⟩ T.sa ?_
    refine exc_osa X hx hcl (show refsVE (.ref C :: bm) = true from hbm) rfl (T.noF f hf) (fun h1 tk1 dx k1 dn dne hx1 hn1 => ?_)
    have X1 : K.In h1 := fun a o e => k1 a o (fun z => by rw [z, hKx] at e; cases e) (X a o e)
    have hKd : K.lookup dx = none := by
      cases e : K.lookup dx with
      | none => rfl
      | some o => exact absurd (Nat.lt_of_lt_of_le (Heap.lt_size (X _ _ e)) dn) (Nat.lt_irrefl _)
    have hLd : L ≠ dx := fun z => by
      have := hn.lt
      rw [z] at this
      exact absurd (Nat.lt_of_lt_of_le this dn) (Nat.lt_irrefl _)
    have hn2 : h1.Ns L m := by
      obtain ⟨oL, es, ep, hL, r⟩ := hn
      exact ⟨oL, es, ep, k1 _ _ hLx hL, r⟩
    refine sx_more T hk hks l ⟨h1, g, d, tk1, os⟩ _ [f] (fun p hp => hl p (List.mem_cons_of_mem _ hp)) X1 hn2 hself hLd hx1 hn1 (Within.cons f v Within.nil) (by simp only [List.length_cons, List.length_nil] at hll ⊢; omega) hKd (Ne.symm dne) fun h' tk' k' n' => ?_
    have hd : ∀ b o, hp.get? b = some o → b ≠ dx := fun b o e z => absurd (Nat.lt_of_lt_of_le (Heap.lt_size (z ▸ e : hp.get? dx = some o)) dn) (Nat.lt_irrefl _)
    exact h h' tk' ⟨fun b o hb e => k' b o (hd b o e) (k1 b o hb e), t0, dx, k' _ _ (Ne.symm dne) hx1, dn, dne, n'⟩
end

/-- the text of such an __init__ -/
structure SupFn (K : Frag) (fI cc cda : Addr) (fs : List Str) : Prop where
  ex : ∃ (oc : Value) (od : Option Addr) (osl : Array (Option Value)) (qual : Str) (params : Arguments) (scope : Scope) (doc pm ct : Value) (an : Option Addr) (l : List (Str × Pos × Pos × Pos × Pos)) (tx : Str) (j : Nat) (p0 p1 p2 p3 p4 p5 : Pos) (ar : Arg),
    K.lookup fI = some ⟨oc, od, .func (ksFn "__init__" qual params (.Expr (.Call (.Attribute (.Call (.Name "super" p0) [] [] p1) "__init__" p2) [.Constant (.str tx) j p3] [] p4) p5 :: l.map mkStore) scope .none .none doc pm an (.ref cda) ct cc), osl⟩ ∧
    codeIn K (.ref cda) qual = true ∧ l.map (·.1) = fs ∧ (params.posonlyargs ++ params.args).head? = some ar ∧ ar.arg = "self" ∧ scope.kind = .function ∧ scope.isCoroutine = false ∧ scope.isGenerator = false ∧
    (∀ x ∈ scope.names, x.2 ≠ .cell) ∧ (∀ y ∈ (("self" : Str) :: fs), scope.names.lookup y = some .local) ∧ (∀ y ∈ fs, (y == ("__debug__" : Str)) = false) ∧ scope.names.lookup ("super" : Str) = some .globalImplicit ∧ scope.names.lookup ("__class__" : Str) = some .free ∧
    (("self" : Str) :: fs).Nodup ∧
    (∀ us : List Value, us.length = (("self" : Str) :: fs).length → bindArgs (ksFn "__init__" qual params (.Expr (.Call (.Attribute (.Call (.Name "super" p0) [] [] p1) "__init__" p2) [.Constant (.str tx) j p3] [] p4) p5 :: l.map mkStore) scope .none .none doc pm an (.ref cda) ct cc) ⟨us, []⟩ = pure ((("self" : Str) :: fs).zip us)) ∧
    ∃ pl : Addr → Sem Bool, ∀ L : Addr, eval (.Call (.Attribute (.Call (.Name "super" p0) [] [] p1) "__init__" p2) [.Constant (.str tx) j p3] [] p4) (ksEnv qual scope L fI (.ref cda) cc) = (do
      let ov ← attributeBase (.Call (.Name "super" p0) [] [] p1) "__init__" (ksEnv qual scope L fI (.ref cda) cc) (eval (.Call (.Name "super" p0) [] [] p1) (ksEnv qual scope L fI (.ref cda) cc))
      standAt p2.atName
      let (f, first) ← holding [ov] (getMethod ov "__init__" (pl L))
      callWith p4 f first (backTo p4 (starEach [Expr.Constant (.str tx) j p3] (ksEnv qual scope L fI (.ref cda) cc))) [])

theorem lookup_rev {y : Str} {v : Value} : ∀ {l : List (Str × Value)}, (l.map (·.1)).Nodup → (y, v) ∈ l → l.reverse.lookup y = some v := by
  intro l nd hm
  have nd' : (l.reverse.map (·.1)).Nodup := by rw [List.map_reverse]; exact (List.reverse_perm _).nodup_iff.mpr nd
  have hm' : (y, v) ∈ l.reverse := List.mem_reverse.mpr hm
  revert nd' hm'
  generalize l.reverse = r
  intro nd' hm'
  induction r with
  | nil => cases hm'
  | cons p r ih =>
    obtain ⟨z, u⟩ := p
    rw [List.map_cons, List.nodup_cons] at nd'
    rcases List.mem_cons.mp hm' with e | e
    · cases e
      simp [List.lookup]
    · have hz : y ≠ z := fun q => nd'.1 (List.mem_map.mpr ⟨(y, v), e, q⟩)
      have hb : (y == z) = false := by simpa using hz
      simp only [List.lookup, hb]
      exact ih nd'.2 e

section
variable {prog : Program} {w : World} {A : Around} {R : Result → Shared → Prop} {s : Shared} {K : Frag} {mg : Str → Option Value} {xn : Str} {C fI cc cda x t0 : Addr} {fs : List Str}
theorem sx_init (T : SupTxt prog K mg xn C fI cc cda fs) (TF : SupFn K fI cc cda fs) (S : SupMod prog K mg) {vs : List Value} (hvl : vs.length = fs.length) (hfl : fs.length ≤ 900) (X : K.In s.heap) (hlim : s.heap.NoLimit) (hg : s.heap.Ns mainGlobals mg) (hb : ∃ mb, s.heap.Ns builtinsNs mb ∧ ∀ x : Str, x ≠ "__name__" → mb x = bootBuiltins x)
    (hx : s.heap.get? x = some (excO C t0)) (hKx : K.lookup x = none) (hroom : A.depth < recursionLimit)
    (hq : ∀ h' tk, InitBehind s.heap h' x C (fs.zip vs) → R (.ok (.ret .none)) { s with heap := h', toks := tk }) :
    codeAny (model prog w) A (.call (.ref fI) ⟨.ref x :: vs, []⟩) R s := by
  obtain ⟨oc, od, osl, qual, params, scope, doc, pm, ct, an, l, tx, j, p0, p1, p2, p3, p4, p5, ar, lk, hcd, hlf, hhead, har, hk, hco, hgen, hcell, hloc, hdbg, hsup, hcls, hnd, hbind, pl, hev⟩ := TF.ex
  have hln : (Value.ref x :: vs).length = (("self" : Str) :: fs).length := by simp only [List.length_cons, hvl]
  have hl2 : l.length = vs.length := by rw [hvl, ← hlf, List.length_map]
  have hmapn : ((("self" : Str) :: fs).zip (Value.ref x :: vs)).map (·.1) = ("self" : Str) :: fs := by
    rw [List.map_fst_zip]; exact Nat.le_of_eq hln.symm
  refine ks_codeAny_call_defAt (fd := ksFn "__init__" qual params _ scope .none .none doc pm an (.ref cda) ct cc) (binds := (("self" : Str) :: fs).zip (Value.ref x :: vs)) hroom (X _ _ lk) rfl hlim (codeRec_of X hcd) rfl (BindsTo.of_eq (hbind _ hln)) hcell (fun y hy => hloc _ (List.of_mem_zip hy).1) (fun h1 hns1 kk1 => ?_) hco hgen hk
  have X1 : K.In h1 := X.keeps kk1
  have hx1 := kk1 _ _ hx
  have hself : ((("self" : Str) :: fs).zip (Value.ref x :: vs)).reverse.lookup ("self" : Str) = some (Value.ref x) := lookup_rev (by rw [hmapn]; exact hnd) (by simp)
  have hLx : s.heap.objs.size ≠ x := Nat.ne_of_gt (Heap.lt_size hx)
  obtain ⟨mb, hbn, hbb⟩ := hb
  have up : ∀ {b : Addr} {mm : Str → Option Value}, s.heap.Ns b mm → h1.Ns b mm := fun {b mm} z => by
    obtain ⟨o, es, ep, e, r⟩ := z
    exact ⟨o, es, ep, kk1 _ _ e, r⟩
  show _root_.PySem.wpAt _ (A.deeper (ksEnv qual scope s.heap.objs.size fI (.ref cda) cc)) (.func _ (ksEnv qual scope s.heap.objs.size fI (.ref cda) cc)) (execs _ (ksEnv qual scope s.heap.objs.size fI (.ref cda) cc)) _ _ _
  refine sx_first (m := fun y => ((("self" : Str) :: fs).zip (Value.ref x :: vs)).reverse.lookup y) T S X1 (up hg) ⟨mb, up hbn, hbb⟩ lk hhead har hns1 hself hx1 hLx hsup hcls (hloc _ (List.mem_cons_self ..)) hk (fun h2 tk2 t2 kk2 hx2 hns2 => ?_) (hev _)
  have X2 : K.In h2 := fun a o e => kk2 a o (fun z => by rw [z, hKx] at e; cases e) (X1 a o e)
  have zl : (l.zip vs).map (fun p => mkStore p.1) = l.map mkStore := by
    have e1 : (l.zip vs).map (fun p => mkStore p.1) = ((l.zip vs).map Prod.fst).map mkStore := by rw [List.map_map]; rfl
    rw [e1, List.map_fst_zip (Nat.le_of_eq hl2)]
  have zf : (l.zip vs).map (fun p => (p.1.1, p.2)) = fs.zip vs := by
    rw [← hlf, List.zip_map_left]
    rfl
  rw [← zl]
  refine sx_stores T hk (hloc _ (List.mem_cons_self ..)) (l.zip vs) (fun p hp => ?_) (by rw [List.length_zip]; omega) X2 hns2 hself hLx hx2 hKx (fun h3 tk3 IB => ?_)
  · have h1 : p.1.1 ∈ fs := by rw [← hlf]; exact List.mem_map.mpr ⟨p.1, (List.of_mem_zip hp).1, rfl⟩
    refine ⟨h1, hloc _ (List.mem_cons_of_mem _ h1), hdbg _ h1, lookup_rev (by rw [hmapn]; exact hnd) ?_⟩
    rw [List.zip_cons_cons]
    refine List.mem_cons_of_mem _ ?_
    rw [← zf]
    exact List.mem_map.mpr ⟨p, hp, rfl⟩
  · rw [zf] at IB
    have kk12 : ∀ b o, b ≠ x → s.heap.get? b = some o → h2.get? b = some o := fun b o hb e => kk2 b o hb (kk1 b o e)
    refine hq h3 tk3 ?_
    have sz : s.heap.objs.size ≤ h2.objs.size := Nat.le_of_lt hns2.lt
    revert IB
    cases fs.zip vs with
    | nil => exact fun IB => ⟨fun b o hb e => IB.1 b o hb (kk12 b o hb e), IB.2⟩
    | cons p r => exact fun IB => ⟨fun b o hb e => IB.1 b o hb (kk12 b o hb e), by
        obtain ⟨t1, dx, e1, e2, e3, e4⟩ := IB.2
        exact ⟨t1, dx, e1, Nat.le_trans sz e2, e3, e4⟩⟩

/-- what a made exception is: its object at e, its fields -/
def MadeAt (h h' : Heap) (e C : Addr) : List (Str × Value) → Prop
  | [] => ∃ t1, h'.get? e = some (excO C t1)
  | l => ∃ t1 dx, h'.get? e = some { cls := .ref C, dict := some dx, data := .fields #[.ref t1, .none, .none, .none, .bool false, .none] } ∧ h.objs.size ≤ dx ∧ dx ≠ e ∧ h'.Ns1 dx (laid l fun _ => none)
theorem sx_made (T : SupTxt prog K mg xn C fI cc cda fs) (TF : SupFn K fI cc cda fs) (S : SupMod prog K mg) {vs : List Value} (hvl : vs.length = fs.length) (hfl : fs.length ≤ 900) (X : K.In s.heap) (hlim : s.heap.NoLimit) (hg : s.heap.Ns mainGlobals mg) (hb : ∃ mb, s.heap.Ns builtinsNs mb ∧ ∀ x : Str, x ≠ "__name__" → mb x = bootBuiltins x)
    (hroom : A.depth + 1 < recursionLimit)
    (hq : ∀ h' tk e, (∀ b o, s.heap.get? b = some o → h'.get? b = some o) → s.heap.objs.size ≤ e → MadeAt s.heap h' e C (fs.zip vs) → R (.ok (.ret (.ref e))) { s with heap := h', toks := tk }) :
    codeAny (model prog w) A (.call (.ref C) ⟨vs, []⟩) R s := by
  obtain ⟨nm, q, N, bs, bm, sn, sub, ab, col, dd, k0, k1, k2, k3, k5, hC, hbm⟩ := T.cls
  obtain ⟨hp, g, dr, tk, os⟩ := s
  have k : ∀ b o, hp.get? b = some o → ((hp.push (kdv_tup vs)).push (excO C hp.objs.size)).get? b = some o := fun b o e => Heap.get?_push_of_some _ (Heap.get?_push_of_some _ e)
  have hget : ((hp.push (kdv_tup vs)).push (excO C hp.objs.size)).get? (hp.objs.size + 1) = some (excO C hp.objs.size) := by heap_get
  have hnx : K.lookup (hp.objs.size + 1) = none := by
    cases e : K.lookup (hp.objs.size + 1) with
    | none => rfl
    | some o =>
      have z : hp.get? (hp.objs.size + 1) = some o := X _ _ e
      exact absurd (Nat.lt_of_succ_lt (Heap.lt_size z)) (Nat.lt_irrefl _)
  have up : ∀ {b : Addr} {mm : Str → Option Value}, hp.Ns b mm → ((hp.push (kdv_tup vs)).push (excO C hp.objs.size)).Ns b mm := fun {b mm} z => by
    obtain ⟨o, es, ep, e, r⟩ := z
    exact ⟨o, es, ep, k _ _ e, r⟩
  obtain ⟨mb, hbn, hbb⟩ := hb
  have hsz : ((hp.push (kdv_tup vs)).push (excO C hp.objs.size)).objs.size = hp.objs.size + 1 + 1 := by rw [Heap.size_push, Heap.size_push]
  refine call_own F.excBase_ValueError (fun X => refsVE_contains X bm hbm) (X _ _ hC) (looks_findIn X T.iC) (fun self => bind_fn X self T.tI) (by rw [hvl, sizeLine_eq]; omega) ?_
  refine sx_init (s := ⟨(hp.push (kdv_tup vs)).push (excO C hp.objs.size), g, dr, tk, os⟩) T TF S hvl hfl (X.keeps k) (hlim.keeps k) (up hg) ⟨mb, up hbn, hbb⟩ hget hnx ?_ fun h' tk' IB => ?_
  · show A.depth + 1 < recursionLimit
    exact hroom
  · have old : ∀ b o, hp.get? b = some o → b ≠ hp.objs.size + 1 := fun b o e => Nat.ne_of_lt (Nat.lt_succ_of_lt (Heap.lt_size e))
    refine ⟨rfl, ?_⟩
    revert IB
    generalize ez : fs.zip vs = l
    intro IB
    cases l with
    | nil =>
      obtain ⟨k', t1, hx⟩ := IB
      exact hq h' tk' (hp.objs.size + 1) (fun b o e => k' b o (old b o e) (k b o e)) (Nat.le_succ _) (by rw [ez]; exact ⟨t1, hx⟩)
    | cons p r =>
      obtain ⟨k', t1, dx, hx, dn, dne, hns⟩ := IB
      exact hq h' tk' (hp.objs.size + 1) (fun b o e => k' b o (old b o e) (k b o e)) (Nat.le_succ _) (by
        rw [ez]
        exact ⟨t1, dx, hx, Nat.le_trans (Nat.le_trans (Nat.le_succ _) (Nat.le_succ _)) (by show hp.objs.size + 1 + 1 ≤ dx; rw [← hsz]; exact dn), dne, hns⟩)
end
end SupX
end PySem
namespace L2
open PySem PySem.Spec PyProof.Rows
theorem laid_out : ∀ {l : List (Str × Value)} {m0 : Str → Option Value} {f : Str}, f ∉ l.map (·.1) → PySem.SupX.laid l m0 f = m0 f
  | [], _, _, _ => rfl
  | (g, v) :: r, m0, f, h => by
    have h1 : f ≠ g := fun e => h (by simp [e])
    have h2 : f ∉ r.map (·.1) := fun e => h (by simp only [List.map_cons]; exact List.mem_cons_of_mem _ e)
    show PySem.SupX.laid r _ f = _
    rw [laid_out h2, if_neg h1]
theorem relO_laid : ∀ {fs : List Str} {vs : List V} {us : List Value}, fs.Nodup → Vals vs us → ∀ (m0 : Str → Option Value) (f : Str), f ∈ (fs.zip vs).map (·.1) → RelO ((fs.zip vs).lookup f) (PySem.SupX.laid (fs.zip us) m0 f)
  | [], _, _, _, _, _, _, h => by simp at h
  | _ :: _, _, _, _, .nil, _, _, h => by simp at h
  | g :: fs, _, _, hn, .cons (b := u) (a := v) r t, m0, f, h => by
    obtain ⟨h1, h2⟩ := List.nodup_cons.mp hn
    show RelO (List.lookup f ((g, v) :: fs.zip _)) (PySem.SupX.laid (fs.zip _) (fun y => if y = g then some u else m0 y) f)
    by_cases e : f = g
    · subst e
      have nz : f ∉ (fs.zip (by assumption)).map (·.1) := fun z => h1 (by
        obtain ⟨p, hp, e⟩ := List.mem_map.mp z
        rw [← e]
        exact (List.of_mem_zip hp).1)
      rw [laid_out (l := fs.zip _) (by
        intro z
        obtain ⟨p, hp, e⟩ := List.mem_map.mp z
        exact h1 (by rw [← e]; exact (List.of_mem_zip hp).1)), if_pos rfl]
      simp only [List.lookup, beq_self_eq_true]
      exact r
    · have hb : (f == g) = false := by simpa using e
      simp only [List.lookup, hb]
      refine relO_laid h2 t _ f ?_
      simp only [List.zip_cons_cons, List.map_cons, List.mem_cons] at h
      exact h.resolve_left e
theorem zip_keys {α β : Type} : ∀ (fs : List Str) (vs : List α) (us : List β), vs.length = us.length → (fs.zip vs).map (·.1) = (fs.zip us).map (·.1)
  | [], _, _, _ => rfl
  | _ :: _, [], [], _ => rfl
  | _ :: _, [], _ :: _, h => by simp at h
  | _ :: _, _ :: _, [], h => by simp at h
  | f :: fs, v :: vs, u :: us, h => by
    show f :: (fs.zip vs).map (·.1) = f :: (fs.zip us).map (·.1)
    rw [zip_keys fs vs us (by simpa using h)]
theorem relO_laid0 {fs : List Str} {vs : List V} {us : List Value} (hn : fs.Nodup) (r : Vals vs us) (f : Str) : RelO ((fs.zip vs).lookup f) (PySem.SupX.laid (fs.zip us) (fun _ => none) f) := by
  by_cases h : f ∈ (fs.zip vs).map (·.1)
  · exact relO_laid hn r _ f h
  · have hl := r.length
    have e1 : (fs.zip vs).map (·.1) = (fs.zip us).map (·.1) := by
      exact zip_keys fs vs us hl
    rw [laid_out (by rw [← e1]; exact h)]
    have e2 : (fs.zip vs).lookup f = none := by
      revert h
      generalize fs.zip vs = l
      induction l with
      | nil => intro _; rfl
      | cons p l ih =>
        intro h
        obtain ⟨g, v⟩ := p
        have h1 : f ≠ g := fun e => h (by simp [e])
        have hb : (f == g) = false := by simpa using h1
        simp only [List.lookup, hb]
        exact ih fun z => h (by simp only [List.map_cons]; exact List.mem_cons_of_mem _ z)
    rw [e2]
    trivial
/-- all that is asked of such a class, at one place -/
structure ExT (prog : Program) (K : PySem.W.Frag) (mg : Str → Option Value) (x : Str) (C : Addr) (fs : List Str) : Prop where
  ex : ∃ fI cc cda, PySem.SupX.SupTxt prog K mg x C fI cc cda fs ∧ PySem.SupX.SupFn K fI cc cda fs
  md : PySem.SupX.SupMod prog K mg
  nd : fs.Nodup
  le : fs.length ≤ 900
theorem ExT.gC {prog : Program} {K : PySem.W.Frag} {mg : Str → Option Value} {x : Str} {C : Addr} {fs : List Str} (T : ExT prog K mg x C fs) : mg x = some (.ref C) := let ⟨_, _, _, a, _⟩ := T.ex; a.gC
theorem ExT.kC {prog : Program} {K : PySem.W.Frag} {mg : Str → Option Value} {x : Str} {C : Addr} {fs : List Str} (T : ExT prog K mg x C fs) : PySem.W.keepIn K (.ref C) = true := let ⟨_, _, _, a, _⟩ := T.ex; a.kC
theorem ExT.xf {prog : Program} {K : PySem.W.Frag} {mg : Str → Option Value} {x : Str} {C : Addr} {fs : List Str} (T : ExT prog K mg x C fs) : XfC K C := let ⟨_, _, _, a, _⟩ := T.ex; a.xf
theorem ExT.tyC {prog : Program} {K : PySem.W.Frag} {mg : Str → Option Value} {x : Str} {C : Addr} {fs : List Str} (T : ExT prog K mg x C fs) : PySem.W.typeIn K (.ref C) = some (.type "type") := let ⟨_, _, _, a, _⟩ := T.ex; a.tyC
theorem ExT.noF {prog : Program} {K : PySem.W.Frag} {mg : Str → Option Value} {x : Str} {C : Addr} {fs : List Str} (T : ExT prog K mg x C fs) {f : Str} (h : f ∈ fs) : PySem.W.findIn K (.ref C) f = some none := let ⟨_, _, _, a, _⟩ := T.ex; a.noF f h
/-- C(e, ..) for such a class -/
def tMkX (C : Addr) (fs : List Str) (ta : TA) : St → Hp → XK → Prop := fun σ H Q => ta σ H fun vs H1 => vs.length = fs.length ∧ (fs = [] → Q (.ref C) none H1) ∧ (fs ≠ [] → ∀ d, H1 d = none → Q (.ref C) (some d) (upd H1 d (.xd (fs.zip vs))))
section
variable {X : Cx} {C : Addr} {fs : List Str} {x : Str}
/-- what the call of the class leaves -/
theorem mkx_end {pins : List (Addr × Obj)} {σ : St} {H1 : Hp} {s1 : Shared} {Q : XK} {vs : List V} {us : List Value} {A : Around} {k : Nat} (T : ExT X.prog X.K X.mg x C fs) (hr : Room k X.A) (I1 : Inv X pins σ H1 s1) (r1 : Vals vs us) (hl : vs.length = fs.length)
    (q0 : fs = [] → Q (.ref C) none H1) (q1 : fs ≠ [] → ∀ d, H1 d = none → Q (.ref C) (some d) (upd H1 d (.xd (fs.zip vs)))) :
    wpAny (model X.prog X.w) X.A (call (.ref C) us) (MkP X pins σ Q) X.xe s1 := by
  obtain ⟨fI, cc, cda, T1, T2⟩ := T.ex
  have hlim := I1.nolimit
  have hgl := I1.mod.glob.keeps I1.bk
  obtain ⟨mb, hb1, hb2⟩ := I1.mod.blt
  have hus : us.length = fs.length := by rw [← r1.length]; exact hl
  obtain ⟨hp, g, dr, tk, os⟩ := s1
  refine wpAny_call (PySem.SupX.sx_made T1 T2 T.md hus T.le I1.kIn hlim hgl ⟨mb, hb1.keeps I1.bk, hb2⟩ (by have := hr.dp; omega) fun h' tk' e kp en M => ?_)
  show MkP X pins σ Q (.ref e) ⟨h', g, dr, tk', os⟩
  obtain ⟨G', g1, g2⟩ := restrict h' fun b => decide (b ≠ e)
  have gk : ∀ b, b ≠ e → G'.get? b = h'.get? b := fun b hb => g1 b (decide_eq_true hb)
  have ge : G'.get? e = none := g2 e (by simp)
  have old : ∀ b o, hp.get? b = some o → G'.get? b = some o := fun b o q => (gk b (Nat.ne_of_lt (Nat.lt_of_lt_of_le (Heap.lt_size q) en))).trans (kp b o q)
  have R : Raises X (.ref C) := raises_own T1.xf.exC T1.tyC
  have kk : ∀ b o, G'.get? b = some o → h'.get? b = some o := fun b o q => by
    by_cases hb : b = e
    · rw [hb, ge] at q; cases q
    · exact (gk b hb).symm.trans q
  cases fs with
  | nil =>
    have M' : ∃ t1, h'.get? e = some (HandSPX.excO C t1) := by
      cases us with
      | nil => exact M
      | cons _ _ => exact M
    obtain ⟨t1, he⟩ := M'
    have J : Inv X pins σ H1 ⟨G', g, dr, tk', os⟩ := I1.kept (t' := tk') old
    exact ⟨e, _, _, ⟨G', g, dr, tk', os⟩, H1, .ref C, none, rfl, J, kk, ge, he, ⟨rfl, rfl⟩, rfl, rfl, I1.hok.fresh en, rfl, I1.bare, R, q0 rfl⟩
  | cons f fr =>
    cases us with
    | nil => simp at hus
    | cons u ur =>
      obtain ⟨t1, dx, he, hdx, dne, hns⟩ := M
      have ob : ObjOk X.prog X.w (upd H1 dx (.xd ((f :: fr).zip vs))) G' dx (.xd ((f :: fr).zip vs)) :=
        ⟨_, hns.at (fun o q => (gk dx dne).trans q), fun y => relO_laid0 T.nd r1 y⟩
      have J : Inv X pins σ (upd H1 dx (.xd ((f :: fr).zip vs))) ⟨G', g, dr, tk', os⟩ := I1.laid (t' := tk') old hdx ob
      refine ⟨e, _, _, ⟨G', g, dr, tk', os⟩, _, .ref C, some dx, rfl, J, kk, ge, he, ⟨rfl, rfl⟩, rfl, rfl, ?_, rfl, I1.bare, R, q1 (by simp) dx (I1.hok.fresh hdx)⟩
      rw [upd_ne (Ne.symm dne)]
      exact I1.hok.fresh en
theorem pmk_x {a : Expr} {es : List Expr} {ta : TA} {p pos : Pos} {k : Nat} (T : ExT X.prog X.K X.mg x C fs) (hr : Room k X.A) (ha : PA X (a :: es) ta) (hg : Gl X x := by rfl) (hdb : (x == ("__debug__" : Str)) = false := by decide)
    (he : starEach (a :: es) X.env = (false, eval a X.env) :: starEach es X.env := by rfl) (hpl : (backTo pos (starEach es X.env)).any (·.1) = false := by rfl) :
    PMk X (.Call (.Name x p) (a :: es) [] pos) (tMkX C fs ta) := by
  intro pins s σ H Q I h
  refine wpAny_Call_Name_kw (ld_glob I hg T.gC ?_ hdb)
  refine PySem.W.callWith_K (h₀ := X.base) I.ok.mod.kin T.kC (thn (ha.run pos pins s σ H _ I h) fun us s1 ⟨vs, H1, I1, r1, hl, q0, q1⟩ => ⟨I1.kIn, ?_⟩) he hpl
  exact mkx_end (A := X.A) T hr I1 r1 hl q0 q1
theorem pmk_x0 {p pos : Pos} {k : Nat} (T : ExT X.prog X.K X.mg x C fs) (hr : Room k X.A) (hg : Gl X x := by rfl) (hdb : (x == ("__debug__" : Str)) = false := by decide) :
    PMk X (.Call (.Name x p) [] [] pos) (tMkX C fs tNil) := by
  intro pins s σ H Q I h
  obtain ⟨hl, q0, q1⟩ := h
  refine wpAny_Call_Name_kw (ld_glob I hg T.gC ?_ hdb)
  exact PySem.W.callWith_K0 I.kIn T.kC (mkx_end (A := X.A) T hr I .nil hl q0 q1)
/-- raise C(e, ..) -/
def tRaiseX (C : Addr) (fs : List Str) (W : WX) (ta : TA) : TS := fun _ σ H => tMkX C fs ta σ H fun cls d H' => W cls d σ H'
theorem ps_raiseX {a : Expr} {es : List Expr} {ta : TA} {W : WX} {p pos pos2 : Pos} {k : Nat} (hc : X.calm = true) (T : ExT X.prog X.K X.mg x C fs) (hr : Room k X.A) (tk : Takes X W) (ha : PA X (a :: es) ta) (hg : Gl X x := by rfl) (hdb : (x == ("__debug__" : Str)) = false := by decide)
    (he : starEach (a :: es) X.env = (false, eval a X.env) :: starEach es X.env := by rfl) (hpl : (backTo pos (starEach es X.env)).any (·.1) = false := by rfl) :
    PS X (.Raise (some (.Call (.Name x p) (a :: es) [] pos)) none pos2) (tRaiseX C fs W ta) := ps_raise hc tk (pmk_x T hr ha hg hdb he hpl)
theorem ps_raiseX0 {W : WX} {p pos pos2 : Pos} {k : Nat} (hc : X.calm = true) (T : ExT X.prog X.K X.mg x C fs) (hr : Room k X.A) (tk : Takes X W) (hg : Gl X x := by rfl) (hdb : (x == ("__debug__" : Str)) = false := by decide) :
    PS X (.Raise (some (.Call (.Name x p) [] [] pos)) none pos2) (tRaiseX C fs W tNil) := ps_raise hc tk (pmk_x0 T hr hg hdb)
end
end L2

/-! enumerate of a tuple, at the library's level -/
namespace PySem
open AutoSeq1 (wpAny_loadPart')
theorem meets_enumerate_newT (l : Addr) (items : Array Value) (n : Nat) (dct : Option Addr) (sl : Array (Option Value)) :
    Meets (Builtin.«enumerate.__new__» ⟨[.type "enumerate", .ref l], []⟩) (fun _ R s => s.heap.get? l = some { cls := .type "tuple", dict := dct, data := .seq items n, slots := sl } ∧
      R (.ok (.ret (.ref (s.heap.push { cls := .type "tuple_iterator", data := .fields #[.ref l, .int 0 0] }).objs.size)))
        { s with heap := (s.heap.push { cls := .type "tuple_iterator", data := .fields #[.ref l, .int 0 0] }).push { cls := .type "enumerate", data := .fields #[.none, .bool false, .ref s.heap.objs.size, rawInt 0, .none, .none] } }) :=
  .of_wp fun prog w A R s h => by
    obtain ⟨hp, g, d, tk, os⟩ := s; obtain ⟨hl, h⟩ := h
    have hsub := sub_enumerate
    have hL : Heap.IsTuple (Shared.heap ⟨hp, g, d, tk, os⟩) l items := ⟨_, hl, rfl, n, rfl⟩
    wp_walk using wpAny_loadPart' hl
    refine wpAny_stack_any fun st => wpAny_pure ?_
    split
    · rename_i c _ _ _ _ _
      cases (c == Value.type "enumerate")
      · wp_walk using wpAny_loadPart' hl, wpAny_pyIter_tuple hL
        exact ⟨_, rfl, h⟩
      · wp_walk using wpAny_loadPart' hl, wpAny_pyIter_tuple hL
        exact ⟨_, rfl, h⟩
    · wp_walk using wpAny_loadPart' hl, wpAny_pyIter_tuple hL
      exact ⟨_, rfl, h⟩
section
variable {prog : Program} {w : World} {A : Around} {E : Value → Shared → Prop} {s : Shared}
theorem call_enumerate_tup {l : Addr} {items : Array Value} {Q : Value → Shared → Prop} (hL : s.heap.IsTuple l items)
    (h : ∀ h', IsEnum h' (s.heap.objs.size + 1) s.heap.objs.size 0 .none → h'.IsTupleIter s.heap.objs.size l 0 → h'.objs.size = s.heap.objs.size + 2 →
      (∀ b o, s.heap.get? b = some o → h'.get? b = some o) → Q (.ref (s.heap.objs.size + 1)) { s with heap := h' }) :
    wpAny (model prog w) A (call (.type "enumerate") [.ref l]) Q E s := by
  obtain ⟨⟨c, dct, dt, sl⟩, hl, hc, n, hd⟩ := hL
  replace hc : c = .type "tuple" := hc
  replace hd : dt = .seq items n := hd
  subst hc hd
  refine callType_new F.called_enumerate (by decide) (F.typeCall_enumerate_1 _) (F.newCall_enumerate_1 _) (fun obj => F.args_object_init_2 obj _) F.entry_enumerate_new
    (meets_enumerate_newT l items n dct sl) ⟨hl, ?_⟩
  have hz : (s.heap.push { cls := .type "tuple_iterator", data := .fields #[.ref l, .int 0 0] }).objs.size = s.heap.objs.size + 1 := Heap.size_push ..
  show _ ∧ _
  rw [hz]
  have he : IsEnum ((s.heap.push { cls := .type "tuple_iterator", data := .fields #[.ref l, .int 0 0] }).push
      { cls := .type "enumerate", data := .fields #[.none, .bool false, .ref s.heap.objs.size, rawInt 0, .none, .none] }) (s.heap.objs.size + 1) s.heap.objs.size 0 .none := by
    have := Heap.get?_push_size (s.heap.push { cls := .type "tuple_iterator", data := .fields #[.ref l, .int 0 0] })
      (o := { cls := .type "enumerate", data := .fields #[.none, .bool false, .ref s.heap.objs.size, rawInt 0, .none, .none] }) rfl
    rw [hz] at this; exact this
  refine ⟨⟨_, he, rfl⟩, h _ he ⟨_, Heap.get?_push_of_some _ (Heap.get?_push_size _ rfl), rfl, rfl⟩ (by rw [Heap.size_push, hz]) fun b o x => Heap.get?_push_of_some _ (Heap.get?_push_of_some _ x)⟩
end
end PySem

/-! Rules of my own beside the hand layer's. -/
namespace L2
open PySem PySem.Spec PyProof.Rows
/-! ### enumerate of a tuple -/
def IteT (K : PySem.W.Frag) (a : Addr) : It :=
  ⟨fun i H => ∃ (xs : List V) (x : V), SqT K H a xs ∧ xs[i]? = some x, fun i H v H' => ∃ T x, v = .ref T ∧ H T = none ∧ H' = upd H T (.tup [.int (i : Nat), x]) ∧ ∀ xs, SqT K H a xs → xs[i]? = some x, fun i H => ∃ xs : List V, SqT K H a xs ∧ xs.length ≤ i⟩
theorem turn_enumT {P : Program} {w : World} {K : PySem.W.Frag} {elts : List Expr} {kk : Nat} {tpos : Pos} (a e it : Addr) (its : Array Value) (hai : a ≠ it) (hae : a ≠ e) :
    Turn P w K (.Tuple elts kk tpos) (IteT K a) [e, it] e (fun i h => (∃ old, IsEnum h e it ((i : Nat) : Int) old) ∧ h.IsTupleIter it a i ∧ e ≠ it) where
  mem := by simp
  obj := fun i h st b hb => by
    obtain ⟨⟨old, he⟩, ⟨o, ho, hc, hd⟩, _⟩ := st
    have e' : b = e ∨ b = it := by simpa using hb
    rcases e' with z | z
    · rw [z]; exact ⟨_, he, fun v q => nomatch q⟩
    · rw [z]; exact ⟨o, ho, fun v q => by rw [hd] at q; cases q⟩
  keep := fun i h h' st k => let ⟨⟨old, he⟩, hi, hne⟩ := st; ⟨⟨old, k e (by simp) _ he⟩, hi.at fun o q => k it (by simp) o q, hne⟩
  item := by
    intro X hP hw hK hc i pins s σ H E I hf st hg
    subst hP hw hK
    obtain ⟨⟨old, he⟩, hit, hne⟩ := st
    obtain ⟨xs, x, hq, hx⟩ := hg
    obtain ⟨its, rv, p, hz⟩ := I.tuple hq
    obtain ⟨u, hu, ru⟩ := rv.get hx
    have hel : e < s.heap.objs.size := Heap.lt_size he
    have hil : it < s.heap.objs.size := by obtain ⟨_, q, _⟩ := hit; exact Heap.lt_size q
    have hlt : i < its.toArray.size := by
      have := (List.getElem?_eq_some_iff.mp hu).1
      simpa using this
    refine wpAny_pyNext_enum_itemD (PySem.Draws.tuple (prog := X.prog) (w := X.w) (A := X.A.in1) (I.ok.hd hc) it a hai its.toArray) he ⟨hit, p⟩ hlt hne (by simp [hne, Ne.symm hae]) fun x' h' tk hP ho hs' hT hsz hk => ?_
    have hxu : x' = u := by
      have : its.toArray[i]? = some x' := hP
      have e2 : its.toArray[i]? = some u := by simpa using hu
      exact Option.some.inj (this.symm.trans e2)
    subst hxu
    refine ⟨_, rfl, wpAny_letOwnedTupleGo_enum (s := { s with heap := h', toks := tk + 1 }) ho fun h'' he' sb => ?_⟩
    have hT2 : h''.get? s.heap.objs.size = some { cls := .type "tuple", data := .seq #[.int i tk, x'] } := (sb.2 _ (Nat.ne_of_gt hel)).trans hT
    have new : ObjOk X.prog X.w (upd H s.heap.objs.size (.tup [.int (i : Nat), x])) h'' s.heap.objs.size (.tup [.int (i : Nat), x]) :=
      ⟨by show 2 ≤ sizeLine; decide, [.int i tk, x'], .cons ⟨_, rfl⟩ (.cons ru .nil), ⟨_, hT2, rfl, _, rfl⟩⟩
    have I1 : Inv X pins σ (upd H s.heap.objs.size (.tup [.int (i : Nat), x])) { s with heap := h'', toks := tk + 1 } :=
      I.turnedNew (ch := [e, it]) (fun b ob hb q => (sb.2 b (fun z => hb (by simp [z]))).trans (hk b ob (fun z => hb (by simp [z])) (fun z => hb (by simp [z])) q)) hf (Nat.le_refl _) new
    refine ⟨.ref s.heap.objs.size, _, I1, rfl, ⟨_, x, rfl, I.hok.fresh (Nat.le_refl _), rfl, fun ys hy => by rw [I.tuple_inj hy hq]; exact hx⟩, ⟨⟨x', ?_⟩, hs'.1.at fun o q => (sb.2 it (Ne.symm hne)).trans q, hne⟩, fun b hb => ?_⟩
    · have e1 : ((i + 1 : Nat) : Int) = (i : Int) + 1 := by omega
      rw [e1]; exact he'
    · have hb' : b < s.heap.objs.size := by
        have e' : b = e ∨ b = it := by simpa using hb
        rcases e' with z | z
        · rw [z]; exact hel
        · rw [z]; exact hil
      rw [upd_ne (Nat.ne_of_lt hb')]
      exact (hf b hb).1
  done := by
    intro X hP hw hK hc i pins s σ H E I hf st hg
    subst hP hw hK
    obtain ⟨⟨old, he⟩, hit, hne⟩ := st
    obtain ⟨xs, hq, hx⟩ := hg
    obtain ⟨its, rv, p, hz⟩ := I.tuple hq
    obtain ⟨f0, f1, f2, f3, f4, f5⟩ := hf it (by simp)
    have hl := rv.length
    have D := PySem.Draws.tuple (prog := X.prog) (w := X.w) (A := X.A.in1) (I.ok.hd hc) it a hai its.toArray
    have hT : s.TypeIs (.ref e) "enumerate" := ⟨_, he, rfl⟩
    unfold pyNext
    refine wpAny_bind (wpAny_attempt (wpAny_callSpecial?_slot (name := Str.ofString "__next__") hT F.slot_enumerate_next
      (wpAny_call_entry F.slot_enumerate_next hT F.entry_enumerate_next ?_ (F.args_enumerate_next_1 _))))
    show wpAny _ _ (field (.ref e) 2 >>= _) _ _ _
    refine wpAny_bind (wpAny_field he rfl (x := .ref it) rfl ?_)
    refine wpAny_bind (PySem.wpAny_nextOf_tuple_end (I.ok.hd hc) hit p (by simp; omega) fun h' x he' hx' => ?_)
    obtain ⟨o, ho, hc'⟩ := hx'
    refine wpAny_bind (wpAny_isInstance (T := "StopIteration") (b := true) ⟨o, ho, hc'⟩ isSubtype_stop ?_)
    exact wpAny_pure ⟨rfl, I.turned (t' := s.toks) (fun b o hb q => he' b o hb q) f0 f1 f3 f4 f5⟩
  self := fun A i s Q E st h => let ⟨⟨_, he⟩, _⟩ := st; wpAny_pyIter_enum he h
def iEnumA (K : PySem.W.Frag) (ta : TA) : TI := fun σ H R => ta σ H fun vs H1 => ∃ a xs, vs = [.ref a] ∧ ((SqL K H1 a xs ∧ R (Ite K a) H1) ∨ (SqT K H1 a xs ∧ R (IteT K a) H1))
theorem pi_enumA {X : Cx} {e : Expr} {ta : TA} {p pos tpos : Pos} {elts : List Expr} {kk : Nat} (hg : Gl X "enumerate") (hm : X.mg "enumerate" = none) (ha : PA X [e] ta) (hs : starEach [e] X.env = [(false, eval e X.env)] := by rfl) :
    PI X (.Tuple elts kk tpos) (.Call (.Name "enumerate" p) [e] [] pos) (iEnumA X.K ta) := by
  refine ⟨fun pins s σ H R I h => ?_⟩
  refine Call_ (ld_blt I hg hm boot_enumerate (PyProof.Rows.callWith_type1 (thn (ha.run pos pins s σ H _ I h) fun us s1 ⟨vs, H1, I1, r1, q1⟩ => ?_) hs rfl))
  obtain ⟨a, xs, ex, q⟩ := q1
  subst ex
  cases r1 with
  | cons r rr =>
    cases rr
    cases r
    have fpo : ∀ b, b = s1.heap.objs.size + 1 ∨ b = s1.heap.objs.size → FpOk X pins H1 b := fun b e' => by
      have hle : s1.heap.objs.size ≤ b := by
        rcases e' with z | z
        · rw [z]; exact Nat.le_add_right _ _
        · rw [z]; exact Nat.le_refl _
      exact I1.fpOk hle (I1.hok.fresh hle)
    rcases q with ⟨hq, q⟩ | ⟨hq, q⟩
    · obtain ⟨its, rv, p', hz⟩ := I1.list hq
      refine call_enumerate_list p'.isList fun h' he hit hsz hk => wpAny_pyIter_enum he ?_
      have I2 : Inv X pins σ H1 { s1 with heap := h' } := I1.kept (t' := s1.toks) hk
      exact ⟨s1.heap.objs.size + 1, [s1.heap.objs.size + 1, s1.heap.objs.size], _, _, H1, rfl, I2, turn_enum a (s1.heap.objs.size + 1) s1.heap.objs.size, ⟨⟨.none, he⟩, hit, Nat.succ_ne_self _⟩, fun b hb => fpo b (by simpa using hb), q⟩
    · obtain ⟨its, rv, p', hz⟩ := I1.tuple hq
      have hlt : a < s1.heap.objs.size := p'.lt
      refine PySem.call_enumerate_tup (show s1.heap.IsTuple a its.toArray from p') fun h' he hit hsz hk => wpAny_pyIter_enum he ?_
      have I2 : Inv X pins σ H1 { s1 with heap := h' } := I1.kept (t' := s1.toks) hk
      exact ⟨s1.heap.objs.size + 1, [s1.heap.objs.size + 1, s1.heap.objs.size], _, _, H1, rfl, I2, turn_enumT a (s1.heap.objs.size + 1) s1.heap.objs.size its.toArray (Nat.ne_of_lt hlt) (Nat.ne_of_lt (Nat.lt_succ_of_lt hlt)), ⟨⟨.none, he⟩, hit, Nat.succ_ne_self _⟩, fun b hb => fpo b (by simpa using hb), q⟩
theorem walk_enumT {K : PySem.W.Frag} {a : Addr} {xs : List V} : Walk (IteT K a) xs.length (fun H => SqT K H a xs) (YPair (fun i => some (.int (i : Nat))) (fun i => xs[i]?)) := by
  refine ⟨fun i _ hi q => ⟨xs, xs[i], q, by simp [hi]⟩, fun _ q => ⟨xs, q, Nat.le_refl _⟩, fun i H v H' _ q y => ?_⟩
  obtain ⟨T, x, h1, h2, h3, h4⟩ := y
  exact ⟨T, .int (i : Nat), x, h1, h2, h3, rfl, h4 xs q⟩
end L2

/-! Calls by their promises, great numbers, steps of the readings. -/
namespace L2
open PySem PySem.Spec PyProof.Rows
/-! ### the module's names that are built-ins -/
structure Bn (mg : Str → Option Value) : Prop where
  len_ : mg "len" = none
  range : mg "range" = none
  int_ : mg "int" = none
  bool_ : mg "bool" = none
  str_ : mg "str" = none
  list_ : mg "list" = none
  tuple_ : mg "tuple" = none
  set_ : mg "set" = none
  abs_ : mg "abs" = none
  min_ : mg "min" = none
  max_ : mg "max" = none
  sum_ : mg "sum" = none
  any_ : mg "any" = none
  all_ : mg "all" = none
  sorted : mg "sorted" = none
  isinstance : mg "isinstance" = none
  enumerate : mg "enumerate" = none
  reversed : mg "reversed" = none
  zip : mg "zip" = none
/-! ### defs of the module, by their promises -/
/-- the def x of the module keeps sp at the level k -/
structure CallF (P : Program) (w : World) (K : PySem.W.Frag) (mg : Str → Option Value) (base : Heap) (x : Str) (ps : List Str) (k : Nat) (sp : Sp) : Prop where
  ex : ∃ f fd, FnOk P w K mg base (L2.CX P w) k f fd ps sp ∧ mg x = some (.ref f) ∧ PySem.W.keepIn K (.ref f) = true ∧ Binds K fd ps []
/-- the method m of the class at C -/
structure MethF (P : Program) (w : World) (K : PySem.W.Frag) (mg : Str → Option Value) (base : Heap) (C : Addr) (m : Str) (ps : List Str) (k : Nat) (sp : Sp) : Prop where
  ex : ∃ f fd, FnOk P w K mg base (L2.CX P w) k f fd ps sp ∧ Meth K C m f ∧ Binds K fd ps []
/-- the property m of the class at C -/
structure PropF (P : Program) (w : World) (K : PySem.W.Frag) (mg : Str → Option Value) (base : Heap) (C : Addr) (m : Str) (k : Nat) (sp : Sp) : Prop where
  ex : ∃ p f fd, FnOk P w K mg base (L2.CX P w) k f fd ["self"] sp ∧ PropOf K C m p f ∧ Binds K fd ["self"] []
/-- C(..) with the defaults dvs behind: what is wanted of its arguments -/
def spNew (C : Addr) (sp : Sp) (dvs : List V) : Sp := fun vs H Q E => ∀ x dx, H x = none → H dx = none → dx ≠ x →
  sp (.ref x :: (vs ++ dvs)) (upd (upd H dx (.own x)) x (.ins C dx [])) (fun v H2 => v = .non ∧ Q (.ref x) H2) E
/-- the class x at C, made; spC is told of the arguments -/
structure MakeF (P : Program) (w : World) (K : PySem.W.Frag) (mg : Str → Option Value) (base : Heap) (x : Str) (C : Addr) (k : Nat) (spC : Sp) : Prop where
  ex : ∃ f fd ps sp dvs ds, FnOk P w K mg base (L2.CX P w) k f fd ps sp ∧ Mk K C f ∧ mg x = some (.ref C) ∧ Binds K fd ps ds ∧ Vals dvs ds ∧ ∀ vs H Q E, spC vs H Q E → spNew C sp dvs vs H Q E
section
variable {X : Cx} {x m : Str} {C : Addr} {ps : List Str} {k : Nat} {sp : Sp} {E : XK} {e o : Expr} {es : List Expr} {t : TA} {ta : TE} {p pos apos : Pos}
theorem pe_callF (G : CallF X.prog X.w X.K X.mg X.base x ps k sp) (hr : Room k X.A) (hg : Gl X x) (hx : Passes (L2.CX X.prog X.w) X E) (ha : PA X (e :: es) t)
    (hdb : (x == ("__debug__" : Str)) = false := by decide) (he : starEach (e :: es) X.env = (false, eval e X.env) :: starEach es X.env := by rfl) (hpl : (backTo pos (starEach es X.env)).any (·.1) = false := by rfl) :
    PE X (.Call (.Name x p) (e :: es) [] pos) (tCall sp [] E t) := by
  obtain ⟨f, fd, F, h1, h2, h3⟩ := G.ex
  exact pe_call F hr hg h1 h2 h3 .nil hx ha hdb he hpl
theorem pe_callF0 (G : CallF X.prog X.w X.K X.mg X.base x ps k sp) (hr : Room k X.A) (hg : Gl X x) (hx : Passes (L2.CX X.prog X.w) X E)
    (hdb : (x == ("__debug__" : Str)) = false := by decide) : PE X (.Call (.Name x p) [] [] pos) (tCall sp [] E tNil) := by
  obtain ⟨f, fd, F, h1, h2, h3⟩ := G.ex
  exact pe_call0 F hr hg h1 h2 h3 .nil hx hdb
theorem pe_methF {pl : Sem Bool} (c : Cls X.K C) (G : MethF X.prog X.w X.K X.mg X.base C m ps k sp) (he : PE X o ta) (hr : Room k X.A) (hx : Passes (L2.CX X.prog X.w) X E) (ha : PA X (e :: es) t)
    (hst : starEach (e :: es) X.env = (false, eval e X.env) :: starEach es X.env := by rfl) (hpl : (backTo pos (starEach es X.env)).any (·.1) = false := by rfl)
    (ht : eval (.Call (.Attribute o m apos) (e :: es) [] pos) X.env = (do
      let ov ← eval o X.env
      standAt apos.atName
      let (f, first) ← holding [ov] (getMethod ov m pl)
      callWith pos f first (backTo pos (starEach (e :: es) X.env)) (backToKw pos (keywordEach [] X.env))) := by rfl) :
    PE X (.Call (.Attribute o m apos) (e :: es) [] pos) (tMeth C m sp [] E ta t) := by
  obtain ⟨f, fd, F, h1, h2⟩ := G.ex
  exact pe_meth he c h1 F hr h2 .nil hx ha hst hpl ht
theorem pe_propF (c : Cls X.K C) (G : PropF X.prog X.w X.K X.mg X.base C m k sp) (he : PE X e ta) (hr : Room (k + 1) X.A) (hx : Passes (L2.CX X.prog X.w) X.nox E)
    (hab : attributeBase e m X.env (eval e X.env) = eval e X.env := by rfl) : PE X (.Attribute e m pos) (tProp C sp [] E ta) := by
  obtain ⟨q, f, fd, F, h1, h2⟩ := G.ex
  exact pe_prop he c h1 F hr h2 .nil hx hab
theorem pe_makeF {spC : Sp} (G : MakeF X.prog X.w X.K X.mg X.base x C k spC) (hr : Room (k + 1) X.A) (hg : Gl X x) (hx : Passes (L2.CX X.prog X.w) X E) (ha : PA X (e :: es) t)
    (hdb : (x == ("__debug__" : Str)) = false := by decide) (he : starEach (e :: es) X.env = (false, eval e X.env) :: starEach es X.env := by rfl) (hpl : (backTo pos (starEach es X.env)).any (·.1) = false := by rfl) :
    PE X (.Call (.Name x p) (e :: es) [] pos) (tCall spC [] E t) := by
  obtain ⟨f, fd, ps, sp, dvs, ds, F, M, h1, h2, h3, h4⟩ := G.ex
  refine ⟨fun pins s σ H Q I h => ?_⟩
  refine wpAny_Call_Name_kw (ld_glob I hg h1 ?_ hdb)
  refine PySem.W.callWith_K (h₀ := X.base) I.ok.mod.kin M.kp (thn (ha.run pos pins s σ H _ I h) fun us s1 ⟨vs, H1, I1, r, q⟩ => ⟨I1.kIn, ?_⟩) he hpl
  have q' : spC (vs ++ []) H1 Q E := q
  rw [List.append_nil] at q'
  exact run_make M F hr h2 h3 hx I1 r (h4 _ _ _ _ q')
end

/-! ### great numbers -/
/-- * of two factors of together less than 2 ^ 27 bits -/
def CMulX (i j : Int) : Prop := i.natAbs.log2 + j.natAbs.log2 < 134000000
theorem CMulX.ok {i j : Int} (h : CMulX i j) : IntMulOk i j := by
  have b : ∀ x : Int, Builtin.Int.intBits x ≤ x.natAbs.log2 + 1 := fun x => by
    unfold Builtin.Int.intBits
    split <;> omega
  have h1 := b i
  have h2 := b j
  have h3 : i.natAbs.log2 + j.natAbs.log2 < 134000000 := h
  have e : bitsLine = 134217728 := by decide
  unfold IntMulOk
  intro z
  rw [Bool.and_eq_true] at z
  have z2 := z.2
  unfold Builtin.Int.intTooBig at z2
  have z3 := of_decide_eq_true z2
  rw [e] at z3
  omega
def CDivX (_ j : Int) : Prop := j ≠ 0 ∧ j.natAbs.log2 < 9000
section
variable {X : Cx}
theorem op_mulX : OpR X (binaryOp .Mult) (rI CMulX fun i j => .int (i * j)) := opI fun _ _ _ _ _ _ _ hc q => mul_int q hc.ok
theorem op_fdivX : OpR X (binaryOp .FloorDiv) (rI CDivX fun i j => .int (i.fdiv j)) := opI fun i j _ _ _ _ _ hc q =>
  floordiv_int hc.1 q (.inl (PyProof.noPylong_of_log2 hc.2))
end
/-- a number of at most n bits -/
def Bd (n : Nat) (i : Int) : Prop := i.natAbs < 2 ^ n
theorem Bd.mono {n m : Nat} {i : Int} (h : Bd n i) (hn : n ≤ m) : Bd m i := Nat.lt_of_lt_of_le h (Nat.pow_le_pow_right (by decide) hn)
theorem log2_lt {n i : Nat} (h0 : 0 < n) (h : i < 2 ^ n) : i.log2 < n := by
  by_cases hz : i = 0
  · subst hz
    simpa using h0
  · exact (Nat.log2_lt hz).mpr h
theorem Bd.mul {n m : Nat} {i j : Int} (h : Bd n i) (h' : Bd m j) : Bd (n + m) (i * j) := by
  unfold Bd at *
  rw [Int.natAbs_mul, Nat.pow_add]
  exact Nat.mul_lt_mul'' h h'
theorem Bd.add {n : Nat} {i j : Int} (h : Bd n i) (h' : Bd n j) : Bd (n + 1) (i + j) := by
  unfold Bd at *
  rw [Nat.pow_succ]
  have := Int.natAbs_add_le i j
  omega
theorem Bd.neg {n : Nat} {i : Int} (h : Bd n i) : Bd n (-i) := by
  unfold Bd at *
  rwa [Int.natAbs_neg]
theorem Bd.le {n : Nat} {i j : Int} (h : Bd n j) (hl : i.natAbs ≤ j.natAbs) : Bd n i := Nat.lt_of_le_of_lt hl h
theorem Bd.mulX {n m : Nat} {i j : Int} (h : Bd n i) (h' : Bd m j) (hs : n + m < 133999990) : CMulX i j := by
  unfold CMulX
  have h1 := log2_lt (n := n + 1) (by omega) (Nat.lt_of_lt_of_le h (Nat.pow_le_pow_right (by decide) (by omega)))
  have h2 := log2_lt (n := m + 1) (by omega) (Nat.lt_of_lt_of_le h' (Nat.pow_le_pow_right (by decide) (by omega)))
  omega
theorem Bd.divX {n : Nat} {i j : Int} (h0 : j ≠ 0) (h : Bd n j) (hs : n < 9000) : CDivX i j := by
  refine ⟨h0, ?_⟩
  have h1 := log2_lt (n := n + 1) (by omega) (Nat.lt_of_lt_of_le h (Nat.pow_le_pow_right (by decide) (by omega)))
  omega

/-! ### o.f as a target -/
def gFld (K : PySem.W.Frag) (ta : TE) (f : Str) : TG := fun v σ H Q => ta σ H fun x H1 => ∃ a C dx fs, x = .ref a ∧ H1 a = some (.ins C dx fs) ∧ Cls K C ∧ NoAttr K C f ∧ fs.length < 1000 ∧ Q σ (upd H1 a (.ins C dx (putF f v fs)))
theorem pg_fld {X : Cx} {o : Expr} {f : Str} {pos : Pos} {ta : TE} (ha : PE X o ta) : PG X (.Attribute o f pos) (gFld X.K ta f) := by
  refine ⟨fun pins s σ H v u Q I r h => ?_⟩
  rw [assign_Attribute]
  refine wpAny_bind (wpAny_holding (thn (ha.run pins s σ H _ I h) fun ov s1 ⟨x, H1, I1, rx, a, C, dx, fs, ex, ea, c, n, l, q⟩ => ?_))
  subst ex
  obtain rfl : ov = Value.ref a := rx
  refine wpAny_bind (wpAny_standAt (wpAny_bind (wpAny_holding (setattr_ok I1 ea c n l r fun s3 I3 => wpAny_release ⟨σ, _, I3, q⟩))))

/-! ### steps of the readings -/
section
variable {σ : St} {H : Hp} {Q : VK} {i : Nat} {v x y : V} {ta tb tc : TE} {t u : TA} {r r' : R2} {sp : Sp} {dvs : List V} {E : XK} {K : PySem.W.Frag}
theorem g_var (h : σ[i]? = some (some v)) (q : Q v H) : tVar i σ H Q := ⟨v, h, q⟩
theorem g_c (q : Q v H) : tC v σ H Q := q
theorem g_op (q : ta σ H fun x H1 => tb σ H1 fun y H2 => r x y H2 Q) : tOp r ta tb σ H Q := q
theorem g_un {ru : V → Hp → VK → Prop} (q : ta σ H fun x H1 => ru x H1 Q) : tUn ru ta σ H Q := q
theorem g_nil {Q : List V → Hp → Prop} (q : Q [] H) : tNil σ H Q := q
theorem g_cons {Q : List V → Hp → Prop} (q : ta σ H fun x H1 => t σ H1 fun xs H2 => Q (x :: xs) H2) : tCons ta t σ H Q := q
theorem g_call (q : t σ H fun vs H1 => sp (vs ++ dvs) H1 Q E) : tCall sp dvs E t σ H Q := q
theorem g_cb {rc : List V → Hp → VK → Prop} (q : t σ H fun vs H1 => rc vs H1 Q) : tCB rc t σ H Q := q
theorem g_test {Q : Bool → Hp → Prop} (q : ta σ H fun x H' => ∃ k, x = .bl k ∧ Q k H') : tTest ta σ H Q := q
theorem g_tb {Q : Bool → Hp → Prop} (q : ta σ H fun x H' => ∃ k, x = .bl k ∧ Q k H') : tB ta σ H Q := q
theorem g_bl {Q : Bool → Hp → Prop} {b : Bool} (q : Q b H) : ∃ k, V.bl b = .bl k ∧ Q k H := ⟨b, rfl, q⟩
theorem g_tup (q : t σ H fun xs H1 => xs.length ≤ sizeLine ∧ ∀ p, H1 p = none → Q (.ref p) (upd H1 p (.tup xs))) : tTup t σ H Q := q
theorem g_lst (q : t σ H fun xs H1 => xs.length ≤ sizeLine ∧ ∀ p, H1 p = none → Q (.ref p) (upd H1 p (.lst xs))) : tLst t σ H Q := q
theorem g_and {tA tB' : TT} {Q : Bool → Hp → Prop} (q : tA σ H fun c H1 => if c = true then tB' σ H1 Q else Q false H1) : tAnd tA tB' σ H Q := q
theorem g_or {tA tB' : TT} {Q : Bool → Hp → Prop} (q : tA σ H fun c H1 => if c = true then Q true H1 else tB' σ H1 Q) : tOr tA tB' σ H Q := q
theorem g_not {tA : TT} {Q : Bool → Hp → Prop} (q : tA σ H fun c H1 => Q (!c) H1) : tNot tA σ H Q := q
theorem g_andV (q : ta σ H fun x H1 => ∃ c, x = .bl c ∧ if c = true then tb σ H1 Q else Q (.bl false) H1) : tAndV ta tb σ H Q := q
theorem g_orV (q : ta σ H fun x H1 => ∃ c, x = .bl c ∧ if c = true then Q (.bl true) H1 else tb σ H1 Q) : tOrV ta tb σ H Q := q
theorem g_notV (q : ta σ H fun x H1 => ∃ c, x = .bl c ∧ Q (.bl (!c)) H1) : tNotV ta σ H Q := q
theorem g_ifE {tA : TT} (q : tA σ H fun c H1 => if c = true then ta σ H1 Q else tb σ H1 Q) : tIf tA ta tb σ H Q := q
theorem g_ite {b : Bool} {A B : Prop} (h1 : b = true → A) (h2 : b = false → B) : if b = true then A else B := by
  cases b with
  | true => rw [if_pos rfl]; exact h1 rfl
  | false => rw [if_neg Bool.false_ne_true]; exact h2 rfl
theorem g_itd {p : Prop} [Decidable p] {A B : Prop} (h1 : p → A) (h2 : ¬ p → B) : if decide p = true then A else B := by
  by_cases h : p
  · rw [if_pos (decide_eq_true h)]; exact h1 h
  · rw [if_neg (by simp [h])]; exact h2 h
theorem g_itn {p : Prop} [Decidable p] {A B : Prop} (h1 : ¬ p → A) (h2 : p → B) : if (!decide p) = true then A else B := by
  by_cases h : p
  · rw [if_neg (by simp [h])]; exact h2 h
  · rw [if_pos (by simp [h])]; exact h1 h
theorem g_I {C : Int → Int → Prop} {g : Int → Int → V} {a b : Int} (h : C a b) (q : Q (g a b) H) : rI C g (.int a) (.int b) H Q := ⟨a, b, rfl, rfl, h, q⟩
theorem g_I0 {g : Int → Int → V} {a b : Int} (q : Q (g a b) H) : rI0 g (.int a) (.int b) H Q := ⟨a, b, rfl, rfl, q⟩
theorem g_U {g : Int → V} {a : Int} (q : Q (g a) H) : rU g (.int a) H Q := ⟨a, rfl, q⟩
theorem g_eqI {a b : Int} (q : Q (.bl (decide (a = b))) H) : rEq (.int a) (.int b) H Q := ⟨rfl, by
  have e : decide (V.int a = V.int b) = decide (a = b) := by simp
  rw [e]; exact q⟩
theorem g_neI {a b : Int} (q : Q (.bl (!decide (a = b))) H) : rNe (.int a) (.int b) H Q := ⟨rfl, by
  have e : decide (V.int a = V.int b) = decide (a = b) := by simp
  rw [e]; exact q⟩
theorem g_fld {a C dx : Addr} {fs : List (Str × V)} {f : Str} (q : ta σ H fun x H1 => ∃ a C dx fs v, x = .ref a ∧ H1 a = some (.ins C dx fs) ∧ Cls K C ∧ NoAttr K C f ∧ fs.lookup f = some v ∧ Q v H1) : tFld K ta f σ H Q := q
/-! statements -/
variable {D : Ends} {s1 s2 : TS} {g : TG}
theorem g_seq (q : s1 { D with nx := s2 D } σ H) : tSeq s1 s2 D σ H := q
theorem g_asg (q : ta σ H fun x H1 => g x σ H1 D.nx) : tAsg ta g D σ H := q
theorem g_name {Q : St → Hp → Prop} (q : Q (σ.set i (some v)) H) : gName i v σ H Q := q
theorem g_ret (q : ta σ H D.rt) : tRet ta D σ H := q
theorem g_retN (q : D.rt .non H) : tRetN D σ H := q
theorem g_if {c : TT} (q : c σ H fun b H1 => if b = true then s1 D σ H1 else s2 D σ H1) : tIfS c s1 s2 D σ H := q
theorem g_next (q : D.nx σ H) : tNext D σ H := q
theorem g_drop (q : ta σ H fun _ H1 => D.nx σ H1) : tDrop ta D σ H := q
theorem g_par {i j : Nat} (q : t σ H fun vs H1 => ∃ v w, vs = [v, w] ∧ D.nx ((σ.set i (some v)).set j (some w)) H1) : tPar i j t D σ H := q
theorem g_two {v w : V} {P : V → V → Prop} (q : P v w) : ∃ a b, [v, w] = [a, b] ∧ P a b := ⟨v, w, rfl, q⟩
theorem g_new {o : HO} {n : Nat} (h : n ≤ sizeLine) (q : ∀ p H', H p = none → Same H H' → H' p = some o → Q (.ref p) H') : n ≤ sizeLine ∧ ∀ p, H p = none → Q (.ref p) (upd H p o) :=
  ⟨h, fun p hp => q p _ hp (fun b u e => by rw [upd_ne (ne_of_none e hp)]; exact e) upd_same⟩
theorem g_new0 {o : HO} (q : ∀ p H', H p = none → Same H H' → H' p = some o → Q (.ref p) H') : ∀ p, H p = none → Q (.ref p) (upd H p o) := (g_new (Nat.zero_le _) q).2
end
theorem same_new {H : Hp} {p : Addr} {o : HO} (h : H p = none) : Same H (upd H p o) := fun b x e => by
  rw [upd_ne (ne_of_none e h)]
  exact e
theorem Same.tup {K : PySem.W.Frag} {H H' : Hp} {a : Addr} {xs : List V} (e : Same H H') (h : SqT K H a xs) : SqT K H' a xs := by
  rcases h with (h | ⟨o, h⟩) | h
  · exact .inl (.inl (e _ _ h))
  · exact .inl (.inr ⟨o, e _ _ h⟩)
  · exact .inr h
end L2

/-! Loops, comprehensions, what is kept. -/
namespace L2
open PySem PySem.Spec PyProof.Rows
section
variable {σ : St} {H : Hp} {Q : VK} {D : Ends} {tb : TS} {g : TG} {ta : TE} {t : TA} {K : PySem.W.Frag}
def RFor (g : TG) (tb : TS) (D : Ends) (σ : St) : It → Hp → Prop := fun J H1 => ∃ W : Nat → Nat → St → Hp → Prop, (∃ m, W 0 m σ H1) ∧ ∀ i m σ H, W i m σ H →
  (J.stop i H ∧ D.nx σ H) ∨ (J.go i H ∧ ∃ N : St → Hp → Prop, (∀ σ' H', N σ' H' → ∃ m', m' < m ∧ W (i + 1) m' σ' H') ∧ ∀ x H', J.yld i H x H' → g x σ H' fun σ2 H2 => tb { D with nx := N, ct := N, bk := D.nx } σ2 H2)
def RLc (g : TG) (tt : TT) (te : TE) (vs : List Nat) (σ : St) (Q : VK) : It → Hp → Prop := fun J H1 => ∀ D, H1 D = none → ∃ W : Nat → Nat → Hp → Prop, (∃ m, W 0 m (upd H1 D (.lst []))) ∧ ∀ i m H, W i m H →
  (J.stop i H ∧ Q (.ref D) H) ∨ (J.go i H ∧ ∃ Nx : Hp → Prop, (∀ H', Nx H' → ∃ m', m' < m ∧ W (i + 1) m' H') ∧ ∀ x H', J.yld i H x H' → g x (wipe σ vs) H' fun σ2 H2 => wipe σ2 vs = wipe σ vs ∧ tt σ2 H2 fun b H3 =>
    if b = true then te σ2 H3 fun y H4 => ∃ acc, H4 D = some (.lst acc) ∧ acc.length < sizeLine ∧ Nx (upd H4 D (.lst (acc ++ [y]))) else Nx H3)
theorem g_for {wi : TI} (q : wi σ H (RFor g tb D σ)) : tFor wi g tb D σ H := q
theorem g_while {c : TT} (W : Nat → St → Hp → Prop) (m0 : Nat) (h0 : W m0 σ H)
    (hs : ∀ m σ H, W m σ H → c σ H fun b H1 => if b = true then tb { D with nx := fun σ' H' => ∃ m', m' < m ∧ W m' σ' H', ct := fun σ' H' => ∃ m', m' < m ∧ W m' σ' H', bk := D.nx } σ H1 else D.nx σ H1)
    (mono : ∀ σ H Q Q', (∀ b H1, Q b H1 → Q' b H1) → c σ H Q → c σ H Q') : tWhile c tb D σ H := by
  refine ⟨W, ⟨m0, h0⟩, fun m σ H w => mono σ H _ _ (fun b H1 q => ?_) (hs m σ H w)⟩
  cases b with
  | true => exact ⟨_, fun _ _ z => z, q⟩
  | false => exact q
theorem g_list {R : It → Hp → Prop} (q : ta σ H fun x H1 => ∃ a, x = .ref a ∧ (∃ xs, SqL K H1 a xs) ∧ R (Itl K a) H1) : iList K ta σ H R := q
theorem g_tupI {R : It → Hp → Prop} (q : ta σ H fun x H1 => ∃ a, x = .ref a ∧ (∃ xs, SqT K H1 a xs) ∧ R (Itt K a) H1) : iTup K ta σ H R := q
theorem g_rng1 {R : It → Hp → Prop} (q : t σ H fun vs H1 => ∃ j : Int, vs = [.int j] ∧ -(2 ^ 62) ≤ j ∧ j < 2 ^ 62 ∧ R (Itr 0 j.toNat) H1) : iRng1 t σ H R := q
theorem g_rng2 {R : It → Hp → Prop} (q : t σ H fun vs H1 => ∃ i j : Int, vs = [.int i, .int j] ∧ (-(2 ^ 62) ≤ i ∧ i < 2 ^ 62 ∧ -(2 ^ 62) ≤ j ∧ j < 2 ^ 62) ∧ R (Itr i (j - i).toNat) H1) : iRng2 t σ H R := q
theorem g_enumA {R : It → Hp → Prop} (q : t σ H fun vs H1 => ∃ a xs, vs = [.ref a] ∧ ((SqL K H1 a xs ∧ R (Ite K a) H1) ∨ (SqT K H1 a xs ∧ R (IteT K a) H1))) : iEnumA K t σ H R := q
theorem g_enum {R : It → Hp → Prop} (q : t σ H fun vs H1 => ∃ a xs, vs = [.ref a] ∧ SqL K H1 a xs ∧ R (Ite K a) H1) : iEnum K t σ H R := q
theorem g_rev {R : It → Hp → Prop} (q : t σ H fun vs H1 => ∃ (a : Addr) (xs : List V), vs = [.ref a] ∧ SqL K H1 a xs ∧ R (Itv K a xs.length) H1) : iRev K t σ H R := q
theorem g_lc {wi : TI} {tt : TT} {te : TE} {vs : List Nat} (q : wi σ H (RLc g tt te vs σ Q)) : tLc wi g tt te vs σ H Q := q
theorem g_tupT {n : Nat} {tg : TGs} {Q : St → Hp → Prop} {a : Addr} {xs : List V} (h : SqT K H a xs) (hl : xs.length = n) (q : tg xs σ H Q) : gTup K n tg (.ref a) σ H Q := ⟨a, xs, rfl, h, hl, q⟩
theorem g_gcons {u : TGs} {x : V} {xs : List V} {Q : St → Hp → Prop} (q : g x σ H fun σ' H' => u xs σ' H' Q) : gCons g u (x :: xs) σ H Q := ⟨x, xs, rfl, q⟩
theorem g_gnil {Q : St → Hp → Prop} (q : Q σ H) : gNil [] σ H Q := ⟨rfl, q⟩
theorem g_yes {Q : Bool → Hp → Prop} (q : Q true H) : tYes σ H Q := q
theorem g_blp {P : Bool → Prop} {b : Bool} (q : P b) : ∃ k, V.bl b = .bl k ∧ P k := ⟨b, rfl, q⟩
theorem g_tt {A B : Prop} (q : A) : if true = true then A else B := by rw [if_pos rfl]; exact q
theorem g_ff {A B : Prop} (q : B) : if false = true then A else B := by rw [if_neg Bool.false_ne_true]; exact q
theorem g_ntt {A B : Prop} (q : B) : if (!true) = true then A else B := by rw [if_neg (by decide)]; exact q
theorem g_nff {A B : Prop} (q : A) : if (!false) = true then A else B := by rw [if_pos (by decide)]; exact q
/-- len of a list, a tuple -/
theorem g_lenL {a : Addr} {xs : List V} (h : SqL K H a xs) (q : Q (.int xs.length) H) : ∃ x n, [V.ref a] = [x] ∧ LenV K x H n ∧ Q (.int n) H := ⟨_, _, rfl, .inl ⟨xs, h, rfl⟩, q⟩
theorem g_lenT {a : Addr} {xs : List V} (h : SqT K H a xs) (q : Q (.int xs.length) H) : ∃ x n, [V.ref a] = [x] ∧ LenV K x H n ∧ Q (.int n) H := ⟨_, _, rfl, .inr ⟨xs, h, rfl⟩, q⟩
end
/-! ### what is kept -/
/-- all but dicts -/
def SameD (H H' : Hp) : Prop := ∀ b o, H b = some o → (∀ kvs, o ≠ .dK kvs) → H' b = some o
theorem Same.d {H H' : Hp} (e : Same H H') : SameD H H' := fun b o h _ => e b o h
theorem SameD.refl (H : Hp) : SameD H H := fun _ _ h _ => h
theorem SameD.trans {H H1 H2 : Hp} (a : SameD H H1) (b : SameD H1 H2) : SameD H H2 := fun c o h n => b c o (a c o h n) n
theorem SameD.lst {H H' : Hp} (e : SameD H H') {a : Addr} {xs : List V} (h : H a = some (.lst xs)) : H' a = some (.lst xs) := e a _ h fun _ z => nomatch z
theorem SameD.tupA {H H' : Hp} (e : SameD H H') {a : Addr} {xs : List V} (h : H a = some (.tup xs)) : H' a = some (.tup xs) := e a _ h fun _ z => nomatch z
theorem SameD.ins {H H' : Hp} (e : SameD H H') {a C dx : Addr} {fs : List (Str × V)} (h : H a = some (.ins C dx fs)) : H' a = some (.ins C dx fs) := e a _ h fun _ z => nomatch z
theorem SameD.seq {K : PySem.W.Frag} {H H' : Hp} {a : Addr} {xs : List V} (e : SameD H H') (h : SqL K H a xs) : SqL K H' a xs := by
  rcases h with (h | ⟨o, h⟩) | h
  · exact .inl (.inl (e _ _ h fun _ z => nomatch z))
  · exact .inl (.inr ⟨o, e _ _ h fun _ z => nomatch z⟩)
  · exact .inr h
theorem SameD.tup {K : PySem.W.Frag} {H H' : Hp} {a : Addr} {xs : List V} (e : SameD H H') (h : SqT K H a xs) : SqT K H' a xs := by
  rcases h with (h | ⟨o, h⟩) | h
  · exact .inl (.inl (e _ _ h fun _ z => nomatch z))
  · exact .inl (.inr ⟨o, e _ _ h fun _ z => nomatch z⟩)
  · exact .inr h
/-- an object that was not there may change -/
theorem Same.mut {H H' : Hp} {p : Addr} {o : HO} (e : Same H H') (h : H p = none) : Same H (upd H' p o) := fun a u ha => by
  rw [upd_ne (ne_of_none ha h)]
  exact e a u ha
theorem SameD.mut {H H' : Hp} {p : Addr} {o : HO} (e : SameD H H') (h : H p = none) : SameD H (upd H' p o) := fun a u ha n => by
  rw [upd_ne (ne_of_none ha h)]
  exact e a u ha n
theorem SameD.free {H H' : Hp} (e : SameD H H') {l : Addr} (h : H' l = none) : H l = none ∨ ∃ kvs, H l = some (.dK kvs) := by
  cases q : H l with
  | none => exact .inl rfl
  | some o =>
    refine .inr ?_
    cases o with
    | dK kvs => exact ⟨kvs, rfl⟩
    | _ => rw [e l _ q (fun _ z => nomatch z)] at h; cases h
/-! ### a list of those that are kept -/
def given (n : Nat) (f : Nat → Bool) (v : Nat → V) : List V := ((List.range n).filter f).map v
theorem given_yes {n : Nat} {f : Nat → Bool} {v : Nat → V} (h : f n = true) : given (n + 1) f v = given n f v ++ [v n] := by
  unfold given
  rw [List.range_succ, List.filter_append, List.map_append]
  congr 1
  rw [List.filter_cons, if_pos h]
  rfl
theorem given_no {n : Nat} {f : Nat → Bool} {v : Nat → V} (h : f n = false) : given (n + 1) f v = given n f v := by
  unfold given
  rw [List.range_succ, List.filter_append, List.map_append, List.filter_cons, if_neg (by rw [h]; decide)]
  show _ ++ [] = _
  rw [List.append_nil]
theorem given_len (n : Nat) (f : Nat → Bool) (v : Nat → V) : (given n f v).length ≤ n := by
  unfold given
  rw [List.length_map]
  have h := List.length_filter_le f (List.range n)
  rw [List.length_range] at h
  exact h
theorem given_all (n : Nat) (v : Nat → V) : given n (fun _ => true) v = (List.range n).map v := by
  unfold given
  rw [List.filter_eq_self.mpr (fun _ _ => rfl)]
/-- a comprehension that changes nothing: at turn i it is kept if f i, and the element is v i -/
def PvL (H1 : Hp) (D : Addr) (f : Nat → Bool) (v : Nat → V) : Nat → Hp → Prop := fun i H => Same H1 H ∧ H D = some (.lst (given i f v))
theorem lc_start {H1 : Hp} {D : Addr} {f : Nat → Bool} {v : Nat → V} (hD : H1 D = none) : PvL H1 D f v 0 (upd H1 D (.lst [])) := ⟨same_new hD, upd_same⟩
theorem lc_yes {H1 H H4 : Hp} {D : Addr} {f : Nat → Bool} {v : Nat → V} {i : Nat} {y : V} (hD : H1 D = none) (p : PvL H1 D f v i H) (e : Same H H4) (hf : f i = true) (hy : y = v i) (hn : i < 16000000) :
    ∃ acc, H4 D = some (.lst acc) ∧ acc.length < sizeLine ∧ PvL H1 D f v (i + 1) (upd H4 D (.lst (acc ++ [y]))) := by
  subst hy
  refine ⟨given i f v, e _ _ p.2, ?_, Same.mut (p.1.trans e) hD, by rw [given_yes hf]; exact upd_same⟩
  have := given_len i f v
  rw [sizeLine_eq]
  omega
theorem lc_no {H1 H H4 : Hp} {D : Addr} {f : Nat → Bool} {v : Nat → V} {i : Nat} (p : PvL H1 D f v i H) (e : Same H H4) (hf : f i = false) : PvL H1 D f v (i + 1) H4 :=
  ⟨p.1.trans e, by rw [given_no hf]; exact e _ _ p.2⟩
end L2

/-! Uses of the readings. -/
namespace L2
open PySem PySem.Spec PyProof.Rows
/-! rules with named readings -/
def rLstS (K : PySem.W.Frag) : List V → Hp → VK → Prop := fun xs H Q => ∃ p ys, xs = [.ref p] ∧ (SqL K H p ys ∨ SqT K H p ys) ∧ ∀ l, H l = none → Q (.ref l) (upd H l (.lst ys))
theorem call_lst {X : Cx} : CallR X (.type "list") (rLstS X.K) := call_list_of
def rTplS (K : PySem.W.Frag) : List V → Hp → VK → Prop := fun xs H Q => ∃ p ys, xs = [.ref p] ∧ ((SqL K H p ys ∧ ∀ l, H l = none → Q (.ref l) (upd H l (.tup ys))) ∨ (SqT K H p ys ∧ Q (.ref p) H))
theorem call_tpl {X : Cx} : CallR X (.type "tuple") (rTplS X.K) := call_tuple_of
def rLenS (K : PySem.W.Frag) : List V → Hp → VK → Prop := fun xs H Q => ∃ x n, xs = [x] ∧ LenV K x H n ∧ Q (.int n) H
theorem call_ln {X : Cx} : CallR X (.builtin "len") (rLenS X.K) := call_len
def rIntS : List V → Hp → VK → Prop := fun xs H Q => (∃ i, xs = [.int i] ∧ Q (.int i) H) ∨ ∃ k, xs = [.bl k] ∧ Q (.int (if k then 1 else 0)) H
theorem call_in1 {X : Cx} : CallR X (.type "int") rIntS := call_int1
def rIsNS : R2 := fun x y H Q => y = .non ∧ Q (.bl (decide (x = .non))) H
theorem op_isNS {X : Cx} : OpR X (compareOp .Is) rIsNS := op_isN
def rNotNS : R2 := fun x y H Q => y = .non ∧ Q (.bl (!decide (x = .non))) H
theorem op_notNS {X : Cx} : OpR X (compareOp .IsNot) rNotNS := op_notN
def rTruS (K : PySem.W.Frag) (x : V) (H : Hp) (Q : Bool → Hp → Prop) : Prop := ∃ k, TruV K x H k ∧ Q k H
def tTru (K : PySem.W.Frag) (ta : TE) : TT := fun σ H Q => ta σ H fun x H' => rTruS K x H' Q
theorem pt_tru {X : Cx} {a : Expr} {ta : TE} (ha : PE X a ta) (he : ∀ whole, isTrue a X.env whole = (do let v ← whole; standAt a.pos; holding [v] (truthy v))) : PT X a (tTru X.K ta) := pt_truth ha he
section
variable {X : Cx} {K : PySem.W.Frag}
theorem ix_listK (h : X.K = K) : IxR X (rIxL K) := h ▸ ix_list
theorem ix_tupK (h : X.K = K) : IxR X (rIxT K) := h ▸ ix_tup
theorem sl_listK (h : X.K = K) : SlR X (rSlL K) := h ▸ sl_list
theorem call_lnK (h : X.K = K) : CallR X (.builtin "len") (rLenS K) := h ▸ call_ln
theorem call_lstK (h : X.K = K) : CallR X (.type "list") (rLstS K) := h ▸ call_lst
theorem call_tplK (h : X.K = K) : CallR X (.type "tuple") (rTplS K) := h ▸ call_tpl
theorem call_isiK' (h : X.K = K) : CallR X (.builtin "isinstance") (rIsi K) := h ▸ call_isi
theorem op_eqDK (h : X.K = K) (hu : X.A.units + 64 < cLine) : OpR X (compareOp .Eq) (rEqD K) := h ▸ op_eqD hu
theorem op_neDK (h : X.K = K) (hu : X.A.units + 64 < cLine) : OpR X (compareOp .NotEq) (rNeD K) := h ▸ op_neD hu
theorem pt_truK (h : X.K = K) {a : Expr} {ta : TE} (ha : PE X a ta) (he : ∀ whole, isTrue a X.env whole = (do let v ← whole; standAt a.pos; holding [v] (truthy v))) : PT X a (tTru K ta) := h ▸ pt_tru ha he
theorem pi_listK (h : X.K = K) {tg l : Expr} {tl : TE} (hl : PE X l tl) : PI X tg l (iList K tl) := h ▸ pi_list hl
theorem pi_tupK (h : X.K = K) {tg l : Expr} {tl : TE} (hl : PE X l tl) : PI X tg l (iTup K tl) := h ▸ pi_tup hl
theorem pi_enumAK (h : X.K = K) {e : Expr} {ta : TA} {p pos tpos : Pos} {elts : List Expr} {kk : Nat} (hg : Gl X "enumerate") (hm : X.mg "enumerate" = none) (ha : PA X [e] ta) (hs : starEach [e] X.env = [(false, eval e X.env)] := by rfl) :
    PI X (.Tuple elts kk tpos) (.Call (.Name "enumerate" p) [e] [] pos) (iEnumA K ta) := h ▸ pi_enumA hg hm ha hs
theorem pi_reversedK (h : X.K = K) {tg e : Expr} {ta : TA} {p pos : Pos} (hg : Gl X "reversed") (hm : X.mg "reversed" = none) (ha : PA X [e] ta) (hs : starEach [e] X.env = [(false, eval e X.env)] := by rfl) : PI X tg (.Call (.Name "reversed" p) [e] [] pos) (iRev K ta) := h ▸ pi_reversed hg hm ha hs
theorem pi_zipK (h : X.K = K) {e e2 : Expr} {ta : TA} {p pos tpos : Pos} {elts : List Expr} {kk : Nat} (hg : Gl X "zip") (hm : X.mg "zip" = none) (ha : PA X [e, e2] ta)
    (hs : starEach [e, e2] X.env = (false, eval e X.env) :: starEach [e2] X.env := by rfl) (hpl : (backTo pos (starEach [e2] X.env)).any (·.1) = false := by rfl) : PI X (.Tuple elts kk tpos) (.Call (.Name "zip" p) [e, e2] [] pos) (iZip K ta) := h ▸ pi_zip hg hm ha hs hpl
theorem pg_tupK (h : X.K = K) {es : List Expr} {k : Nat} {t : TGs} {n : Nat} {pos : Pos} (hc : X.calm = true) (hh : PGs X es t)
    (hn : (assignEach es X.env).length = n := by rfl) (hst : (assignEach es X.env).findIdx? (·.1) = none := by rfl) : PG X (.Tuple es k pos) (gTup K n t) := h ▸ pg_tup hc hh hn hst
theorem pg_fldK (h : X.K = K) {o : Expr} {f : Str} {pos : Pos} {ta : TE} (ha : PE X o ta) : PG X (.Attribute o f pos) (gFld K ta f) := h ▸ pg_fld ha
theorem cr_allK (h : X.K = K) (hc : X.calm = true) : CallR X (.builtin "all") (rAll K) := h ▸ cr_all hc
theorem cr_anyK (h : X.K = K) (hc : X.calm = true) : CallR X (.builtin "any") (rAny K) := h ▸ cr_any hc
theorem cr_sumK (h : X.K = K) (hc : X.calm = true) : CallR X (.builtin "sum") (rSum K) := h ▸ cr_sum hc
theorem cr_maxK (h : X.K = K) (hc : X.calm = true) : CallR X (.builtin "max") (rMax K) := h ▸ cr_max hc
theorem cr_sortedK (h : X.K = K) : CallR X (.builtin "sorted") (rSorted K) := h ▸ cr_sorted
theorem op_catTK (h : X.K = K) : OpR X (binaryOp .Add) (rCatT K) := h ▸ op_catT
theorem sl_tupK (h : X.K = K) : SlR X (rSlT K) := h ▸ sl_tup
theorem ps_fldK (h : X.K = K) {o value : Expr} {f : Str} {pos pos' : Pos} {ta tv : TE} (ha : PE X o ta) (hv : PE X value tv) (hs : swapsWith value (some (.Attribute o f pos')) pos.line X.env = pure false) : PS X (.Assign [.Attribute o f pos'] value pos) (sFld K ta tv f) := h ▸ ps_fld ha hv hs
theorem pe_fldK (h : X.K = K) {e : Expr} {m : Str} {pos : Pos} {ta : TE} (he : PE X e ta) (hab : attributeBase e m X.env (eval e X.env) = eval e X.env := by rfl) : PE X (.Attribute e m pos) (tFld K ta m) := h ▸ pe_fld he hab
end
section
variable {σ : St} {H H' : Hp} {Q : VK} {K : PySem.W.Frag} {a : Addr} {xs : List V} {x y v : V} {t : Value}
theorem sqL (h : H a = some (.lst xs)) : SqL K H a xs := .inl (.inl h)
theorem sqT (h : H a = some (.tup xs)) : SqT K H a xs := .inl (.inl h)
theorem Same.tyOf (e : Same H H') (h : TyOf K H x t) : TyOf K H' x t := by
  cases h with
  | non => exact .non
  | bl b => exact .bl b
  | int i => exact .int i
  | str i => exact .str i
  | flt i => exact .flt i
  | lst h => exact .lst (e _ _ h)
  | frz h => exact .frz (e _ _ h)
  | tup h => exact .tup (e _ _ h)
  | dK h => exact .dK (e _ _ h)
  | dT h => exact .dT (e _ _ h)
  | ins h a b c d f => exact .ins (e _ _ h) a b c d f
theorem Same.ty (e : Same H H') (h : TyX K H x t) : TyX K H' x t := by
  cases h with
  | base h => exact .base (e.tyOf h)
  | byt b => exact .byt b
  | set h => exact .set (e _ _ h)
  | kList h c => exact .kList h c
  | kTuple h c => exact .kTuple h c
  | kDict h c => exact .kDict h c
  | fTuple h => exact .fTuple (e _ _ h)
  | fDict h => exact .fDict (e _ _ h)
theorem enum_any {R : It → Hp → Prop} (h : SqL K H a xs ∨ SqT K H a xs) (q : ∀ J G, Walk J xs.length G (YPair (fun i => some (.int (i : Nat))) (fun i => xs[i]?)) → (∀ H', Same H H' → G H') → R J H) :
    ∃ a' xs', [V.ref a] = [.ref a'] ∧ ((SqL K H a' xs' ∧ R (Ite K a') H) ∨ (SqT K H a' xs' ∧ R (IteT K a') H)) := by
  rcases h with h | h
  · exact ⟨a, xs, rfl, .inl ⟨h, q _ _ walk_enum fun H' e => e.seq h⟩⟩
  · exact ⟨a, xs, rfl, .inr ⟨h, q _ _ walk_enumT fun H' e => e.tup h⟩⟩
theorem pair_of {xs ys : Nat → Option V} {i : Nat} (h : YPair xs ys i H v H') : ∃ T x y, v = .ref T ∧ Same H H' ∧ SqT K H' T [x, y] ∧ xs i = some x ∧ ys i = some y := by
  obtain ⟨T, x, y, h1, h2, h3, h4, h5⟩ := h
  subst h3
  exact ⟨T, x, y, h1, same_new h2, sqT upd_same, h4, h5⟩
theorem g_raiseX {C : Addr} {fs : List Str} {W : WX} {ta : TA} {D : Ends} (q : ta σ H fun vs H1 => vs.length = fs.length ∧ (fs = [] → W (.ref C) none σ H1) ∧ (fs ≠ [] → ∀ d, H1 d = none → W (.ref C) (some d) σ (upd H1 d (.xd (fs.zip vs))))) : tRaiseX C fs W ta D σ H := q
theorem u_raise {fs : List Str} {vs : List V} {R : Option Addr → Hp → Prop} (hl : vs.length = fs.length) (hf : fs ≠ []) (q : ∀ d H2, H d = none → Same H H2 → H2 d = some (.xd (fs.zip vs)) → R (some d) H2) :
    vs.length = fs.length ∧ (fs = [] → R none H) ∧ (fs ≠ [] → ∀ d, H d = none → R (some d) (upd H d (.xd (fs.zip vs)))) := ⟨hl, fun h => absurd h hf, fun _ d hd => q d _ hd (same_new hd) upd_same⟩
theorem u_raise0 {fs : List Str} {vs : List V} {R : Option Addr → Hp → Prop} (hl : vs.length = fs.length) (hf : fs = []) (q : R none H) :
    vs.length = fs.length ∧ (fs = [] → R none H) ∧ (fs ≠ [] → ∀ d, H d = none → R (some d) (upd H d (.xd (fs.zip vs)))) := ⟨hl, fun _ => q, fun h => absurd hf h⟩
theorem g_newS {o : HO} {n : Nat} (q : ∀ p H', H p = none → Same H H' → H' p = some o → Q (.ref p) H') (h : Nat.ble n 1000 = true := by rfl) : n ≤ sizeLine ∧ ∀ p, H p = none → Q (.ref p) (upd H p o) :=
  g_new (by have := Nat.le_of_ble_eq_true h; rw [sizeLine_eq]; omega) q
theorem g_itn' {b : Bool} {A B : Prop} (h1 : b = false → A) (h2 : b = true → B) : if (!b) = true then A else B := by
  cases b with
  | true => rw [if_neg (by decide)]; exact h2 rfl
  | false => rw [if_pos (by decide)]; exact h1 rfl
theorem u_gfld {Q : St → Hp → Prop} {i : Nat} {C dx : Addr} {fs : List (Str × V)} {f : Str} (hs : σ[i]? = some (some (.ref a))) (h : H a = some (.ins C dx fs)) (c : Cls K C) (n : NoAttr K C f) (q : Q σ (upd H a (.ins C dx (putF f v fs)))) (hl : Nat.ble fs.length 900 = true := by rfl) : gFld K (tVar i) f v σ H Q :=
  ⟨.ref a, hs, a, C, dx, fs, rfl, h, c, n, by have := Nat.le_of_ble_eq_true hl; omega, q⟩
theorem u_tfld {i : Nat} {C dx : Addr} {fs : List (Str × V)} {f : Str} (hs : σ[i]? = some (some (.ref a))) (h : H a = some (.ins C dx fs)) (c : Cls K C) (n : NoAttr K C f) (hl : fs.lookup f = some v) (q : Q v H) : tFld K (tVar i) f σ H Q :=
  ⟨.ref a, hs, a, C, dx, fs, v, rfl, h, c, n, hl, q⟩
theorem u_isi {c : V} {u : Value} {b : Bool} (k : ClsV c u) (h : TyX K H x t) (e : PySem.W.kitOne K t u = some b) (q : Q (.bl b) H) : rIsi K [x, c] H Q := ⟨x, c, t, u, b, rfl, k, h, e, q⟩
theorem dpAll_ints : ∀ ns : List Int, DpAll K H (ns.map V.int) (ns.map PyData.int)
  | [] => .nil
  | n :: r => .cons (.int n) (dpAll_ints r)
theorem eqv_ints : ∀ ns ms : List Int, PyData.eqvAll (ns.map PyData.int) (ms.map PyData.int) = decide (ns = ms)
  | [], [] => by simp [PyData.eqvAll]
  | [], _ :: _ => by simp [PyData.eqvAll]
  | _ :: _, [] => by simp [PyData.eqvAll]
  | a :: r, b :: t => by
    simp only [List.map_cons, PyData.eqvAll, PyData.eqv, eqv_ints r t]
    by_cases h : a = b <;> by_cases h' : r = t <;> simp [h, h']
theorem shaped_tup (ns : List Int) : SeqAt.shaped (.tuple (ns.map PyData.int)) = true := by
  simp [SeqAt.shaped, PyData.canLay0, PyData.depth, PySem.W.ke_canLayAll0, PySem.W.ke_depthAll]
theorem g_isN {x : V} (q : Q (.bl (decide (x = .non))) H) : rIsNS x .non H Q := ⟨rfl, q⟩
theorem g_notN {x : V} (q : Q (.bl (!decide (x = .non))) H) : rNotNS x .non H Q := ⟨rfl, q⟩
theorem g_bm {T : String} {r : V → List V → Hp → VK → Prop} {to : TE} {t : TA} (q : to σ H fun x H1 => tyV K T x H1 ∧ t σ H1 fun xs H2 => r x xs H2 Q) : tBM K T r to t σ H Q := q
theorem g_bm0 {T : String} {r : V → List V → Hp → VK → Prop} {to : TE} (q : to σ H fun x H1 => tyV K T x H1 ∧ r x [] H1 Q) : tBM0 K T r to σ H Q := q
theorem u_app {l : Addr} {xs : List V} {v : V} (h : H l = some (.lst xs)) (hl : xs.length < 1000000) (q : Q .non (upd H l (.lst (xs ++ [v])))) : rAppend (.ref l) [v] H Q := ⟨l, xs, v, rfl, rfl, h, by rw [sizeLine_eq]; omega, q⟩
theorem u_eqT {b : Addr} {ns ms : List Int} (h1 : SqT K H a (ns.map V.int)) (h2 : SqT K H b (ms.map V.int)) (q : Q (.bl (decide (ns = ms))) H) : rEqD K (.ref a) (.ref b) H Q :=
  ⟨_, _, .tup h1 (dpAll_ints ns), .tup h2 (dpAll_ints ms), shaped_tup _, shaped_tup _, by
    show Q (.bl (PyData.eqv (.tuple (ns.map PyData.int)) (.tuple (ms.map PyData.int)))) H
    rw [PyData.eqv, eqv_ints]; exact q⟩
theorem u_eqL {b : Addr} {ns ms : List Int} (h1 : SqL K H a (ns.map V.int)) (h2 : SqL K H b (ms.map V.int)) (q : Q (.bl (decide (ns = ms))) H) : rEqD K (.ref a) (.ref b) H Q :=
  ⟨_, _, .lst h1 (dpAll_ints ns), .lst h2 (dpAll_ints ms), PySem.W.ke_shaped_ints _, PySem.W.ke_shaped_ints _, by
    show Q (.bl (PyData.eqv (.list (ns.map PyData.int)) (.list (ms.map PyData.int)))) H
    rw [PyData.eqv, eqv_ints]; exact q⟩
theorem g_cutS {s1 s2 : TS} {D : Ends} (R : St → Hp → Prop) (h : ∀ nx : St → Hp → Prop, (∀ σ' H', R σ' H' → nx σ' H') → s1 { D with nx := nx } σ H) (q : ∀ σ' H', R σ' H' → s2 D σ' H') : tSeq s1 s2 D σ H := h _ q
theorem u_neL {b : Addr} {ns ms : List Int} (h1 : SqL K H a (ns.map V.int)) (h2 : SqL K H b (ms.map V.int)) (q : Q (.bl (!decide (ns = ms))) H) : rNeD K (.ref a) (.ref b) H Q :=
  ⟨_, _, .lst h1 (dpAll_ints ns), .lst h2 (dpAll_ints ms), PySem.W.ke_shaped_ints _, PySem.W.ke_shaped_ints _, by
    show Q (.bl (!PyData.eqv (.list (ns.map PyData.int)) (.list (ms.map PyData.int)))) H
    rw [PyData.eqv, eqv_ints]; exact q⟩
theorem u_neT {b : Addr} {ns ms : List Int} (h1 : SqT K H a (ns.map V.int)) (h2 : SqT K H b (ms.map V.int)) (q : Q (.bl (!decide (ns = ms))) H) : rNeD K (.ref a) (.ref b) H Q :=
  ⟨_, _, .tup h1 (dpAll_ints ns), .tup h2 (dpAll_ints ms), shaped_tup _, shaped_tup _, by
    show Q (.bl (!PyData.eqv (.tuple (ns.map PyData.int)) (.tuple (ms.map PyData.int)))) H
    rw [PyData.eqv, eqv_ints]; exact q⟩
theorem atI_m1 {xs : List V} {v : V} (h : xs[xs.length - 1]? = some v) : atI xs (-1) = some v := by
  have hl := (List.getElem?_eq_some_iff.mp h).1
  have e : ixN xs.length (-1) = some (xs.length - 1) := by
    unfold ixN
    rw [if_neg (by decide), if_pos (by omega)]
    congr 1
    omega
  unfold atI
  rw [e]
  exact h
theorem ixN_at {n j : Nat} (hj : j < n) : ixN n (j : Int) = some j := by
  unfold ixN
  rw [if_pos (by omega), if_pos (by omega), Int.toNat_natCast]
theorem u_setL {l : Addr} {xs : List V} {v : V} {j : Nat} {Q : Hp → Prop} (h : H l = some (.lst xs)) (hj : j < xs.length) (q : Q (upd H l (.lst (xs.set j v)))) : rSetL (.ref l) (.int (j : Int)) v H Q := ⟨l, xs, _, j, rfl, rfl, h, ixN_at hj, q⟩
theorem g_sub {to ti : TE} {t : TSet} {v : V} {Q : St → Hp → Prop} (q : to σ H fun o H1 => ti σ H1 fun i H2 => t o i v H2 fun H3 => Q σ H3) : gSub to ti t v σ H Q := q
theorem g_retD {trs : List (TE × TE)} {D : Ends} (q : ∀ p, H p = none → tPairs trs σ (upd H p (.dK [])) fun ps H2 => H2 p = some (.dK []) ∧ ∃ kvs : List (Key × V), ps = kvs.map (fun kv => (kV kv.1, kv.2)) ∧ kvs.length ≤ 15 ∧ D.rt (.ref p) (upd H2 p (.dK (mergeK [] kvs)))) : tRet (tDisp trs) D σ H := q
theorem g_pair {tk tv : TE} {r : List (TE × TE)} {Q : List (V × V) → Hp → Prop} (q : tk σ H fun x H1 => tv σ H1 fun y H2 => tPairs r σ H2 fun ps H3 => Q ((x, y) :: ps) H3) : tPairs ((tk, tv) :: r) σ H Q := q
theorem g_pair0 {Q : List (V × V) → Hp → Prop} (q : Q [] H) : tPairs [] σ H Q := q
theorem g_st {T : TS} {D : Ends} {σ' : St} (h : σ = σ') (q : T D σ' H) : T D σ H := by rw [h]; exact q
/-- what is left is told by R -/
theorem g_cut {te : TE} (R : V → Hp → Prop) (h : ∀ Q : VK, (∀ v H', R v H' → Q v H') → te σ H Q) (q : ∀ v H', R v H' → Q v H') : te σ H Q := h Q q
theorem g_cutT {tt : TT} {Q : Bool → Hp → Prop} (R : Bool → Hp → Prop) (h : ∀ Q : Bool → Hp → Prop, (∀ v H', R v H' → Q v H') → tt σ H Q) (q : ∀ v H', R v H' → Q v H') : tt σ H Q := h Q q
theorem g_cutA {tt : TA} {Q : List V → Hp → Prop} (R : List V → Hp → Prop) (h : ∀ Q : List V → Hp → Prop, (∀ v H', R v H' → Q v H') → tt σ H Q) (q : ∀ v H', R v H' → Q v H') : tt σ H Q := h Q q
theorem g_par3 {i j l : Nat} {t : TA} {D : Ends} (q : t σ H fun vs H1 => ∃ u v w, vs = [u, v, w] ∧ D.nx (((σ.set i (some u)).set j (some v)).set l (some w)) H1) : tPar3 i j l t D σ H := q
theorem g_three {u v w : V} {P : V → V → V → Prop} (q : P u v w) : ∃ a b c, [u, v, w] = [a, b, c] ∧ P a b c := ⟨u, v, w, rfl, q⟩
theorem g_chain {r r' : R2} {ta tb tc : TE} (q : ta σ H fun x H1 => tb σ H1 fun y H2 => r x y H2 fun z H3 => ∃ k, z = .bl k ∧ if k = true then tc σ H3 fun c H4 => r' y c H4 Q else Q (.bl false) H3) : tChain r r' ta tb tc σ H Q := q
theorem g_zip {t : TA} {R : It → Hp → Prop} (q : t σ H fun vs H1 => ∃ a b xs ys, vs = [.ref a, .ref b] ∧ SqL K H1 a xs ∧ SqL K H1 b ys ∧ R (Itz K a b) H1) : iZip K t σ H R := q
theorem news {p : Addr} {o : HO} (h : H p = none) (e : upd H p o = H') : Same H H' ∧ H' p = some o := by
  subst e
  exact ⟨same_new h, upd_same⟩
theorem size_ok {n : Nat} (h : Nat.ble n 1000000 = true) : n ≤ sizeLine := by have := Nat.le_of_ble_eq_true h; rw [sizeLine_eq]; omega
theorem pe_globI {X : Cx} {x : Str} {i : Int} {tk : Tok} {pos : Pos} (hg : Gl X x) (hm : X.mg x = some (.int i tk)) (hd : (x == ("__debug__" : Str)) = false := by decide) : PE X (.Name x pos) (tC (.int i)) := pe_glob (v := .int i) hg hm ⟨_, rfl⟩ hd
theorem g_sfld {ta tv : TE} {f : Str} {D : Ends} (q : tv σ H fun y H1 => ta σ H1 fun x H2 => ∃ a C dx fs, x = .ref a ∧ H2 a = some (.ins C dx fs) ∧ Cls K C ∧ NoAttr K C f ∧ fs.length < 1000 ∧ D.nx σ (upd H2 a (.ins C dx (putF f y fs)))) : sFld K ta tv f D σ H := q
/-! parts, places -/
theorem g_sl {r : V → Option Int → Option Int → Hp → VK → Prop} {te : TE} {tl th : TO} (q : te σ H fun x H1 => tl σ H1 fun l H2 => th σ H2 fun u H3 => r x l u H3 Q) : tSl r te tl th σ H Q := q
theorem g_nopart {Q : Option Int → Hp → Prop} (q : Q none H) : tNoPart σ H Q := q
theorem g_part {te : TE} {Q : Option Int → Hp → Prop} (q : te σ H fun x H1 => ∃ i, x = .int i ∧ Q (some i) H1) : tPart te σ H Q := q
theorem g_int {i : Int} {P : Int → Prop} (q : P i) : ∃ k, V.int i = .int k ∧ P k := ⟨i, rfl, q⟩
theorem u_sl {lo hi : Option Int} (h : SqL K H a xs) (q : ∀ p H', H p = none → Same H H' → H' p = some (.lst (cutV xs lo hi)) → Q (.ref p) H') : rSlL K (.ref a) lo hi H Q := ⟨a, xs, rfl, h, g_new0 q⟩
theorem u_list (h : SqL K H a xs ∨ SqT K H a xs) (q : ∀ p H', H p = none → Same H H' → H' p = some (.lst xs) → Q (.ref p) H') : rLstS K [.ref a] H Q := ⟨a, xs, rfl, h, g_new0 q⟩
theorem u_tuple (h : SqL K H a xs) (q : ∀ p H', H p = none → Same H H' → H' p = some (.tup xs) → Q (.ref p) H') : rTplS K [.ref a] H Q := ⟨a, xs, rfl, .inl ⟨h, g_new0 q⟩⟩
theorem u_tupleT (h : SqT K H a xs) (q : Q (.ref a) H) : rTplS K [.ref a] H Q := ⟨a, xs, rfl, .inr ⟨h, q⟩⟩
theorem u_lenL (h : SqL K H a xs) (q : Q (.int xs.length) H) : rLenS K [.ref a] H Q := ⟨_, _, rfl, .inl ⟨xs, h, rfl⟩, q⟩
theorem u_lenT (h : SqT K H a xs) (q : Q (.int xs.length) H) : rLenS K [.ref a] H Q := ⟨_, _, rfl, .inr ⟨xs, h, rfl⟩, q⟩
theorem u_int1 {i : Int} (q : Q (.int i) H) : rIntS [.int i] H Q := .inl ⟨i, rfl, q⟩
theorem u_int1b {b : Bool} (q : Q (.int (if b then 1 else 0)) H) : rIntS [.bl b] H Q := .inr ⟨b, rfl, q⟩
theorem g_tru {ta : TE} {Q : Bool → Hp → Prop} (q : ta σ H fun x H' => rTruS K x H' Q) : tTru K ta σ H Q := q
theorem u_ixL {i : Int} (h : SqL K H a xs) (e : atI xs i = some v) (q : Q v H) : rIxL K (.ref a) (.int i) H Q := ⟨a, xs, i, v, rfl, rfl, h, e, q⟩
theorem u_ixT {i : Int} (h : SqT K H a xs) (e : atI xs i = some v) (q : Q v H) : rIxT K (.ref a) (.int i) H Q := ⟨a, xs, i, v, rfl, rfl, h, e, q⟩
theorem u_truL {Q : Bool → Hp → Prop} (h : SqL K H a xs) (q : Q (!xs.isEmpty) H) : rTruS K (.ref a) H Q := ⟨_, .inl ⟨xs, h, rfl⟩, q⟩
theorem u_truT {Q : Bool → Hp → Prop} (h : SqT K H a xs) (q : Q (!xs.isEmpty) H) : rTruS K (.ref a) H Q := ⟨_, .inr (.inl ⟨xs, h, rfl⟩), q⟩
theorem u_cat {b : Addr} {zs : List V} (h : H a = some (.lst xs)) (h' : H b = some (.lst zs)) (hz : xs.length + zs.length ≤ 1000000) (q : ∀ p H', H p = none → Same H H' → H' p = some (.lst (xs ++ zs)) → Q (.ref p) H') : rCat (.ref a) (.ref b) H Q :=
  ⟨a, b, xs, zs, rfl, rfl, h, h', by rw [sizeLine_eq]; omega, g_new0 q⟩
theorem u_rep {k : Int} (h : H a = some (.lst [x])) (h1 : -1000000 ≤ k) (h2 : k ≤ 1000000) (q : ∀ p H', H p = none → Same H H' → H' p = some (.lst (List.replicate k.toNat x)) → Q (.ref p) H') : rRep (.ref a) (.int k) H Q := by
  refine ⟨a, k, [x], rfl, rfl, h, by omega, by omega, by rw [sizeLine_eq]; simp only [List.length_cons, List.length_nil]; omega, g_new0 ?_⟩
  have e : (List.replicate k.toNat [x]).flatten = List.replicate k.toNat x := by
    generalize k.toNat = n
    induction n with
    | zero => rfl
    | succ n ih => rw [List.replicate_succ, List.flatten_cons, ih, List.replicate_succ]; rfl
  rw [e]
  exact q
theorem u_sum {ns : List Int} (h : SqL K H a (ns.map V.int)) (q : Q (.int ns.sum) H) : rSum K [.ref a] H Q := ⟨a, ns, rfl, h, q⟩
theorem u_all {bs : List Bool} (h : SqL K H a (bs.map V.bl)) (q : Q (.bl (bs.all id)) H) : rAll K [.ref a] H Q := ⟨a, bs, rfl, h, q⟩
theorem u_any {bs : List Bool} (h : SqL K H a (bs.map V.bl)) (q : Q (.bl (bs.any id)) H) : rAny K [.ref a] H Q := ⟨a, bs, rfl, h, q⟩
theorem u_it {R : It → Hp → Prop} (h : SqL K H a xs) (q : R (Itl K a) H) : ∃ b, V.ref a = .ref b ∧ (∃ xs, SqL K H b xs) ∧ R (Itl K b) H := ⟨a, rfl, ⟨xs, h⟩, q⟩
theorem u_itT {R : It → Hp → Prop} (h : SqT K H a xs) (q : R (Itt K a) H) : ∃ b, V.ref a = .ref b ∧ (∃ xs, SqT K H b xs) ∧ R (Itt K b) H := ⟨a, rfl, ⟨xs, h⟩, q⟩
theorem u_rev {R : It → Hp → Prop} (h : SqL K H a xs) (q : R (Itv K a xs.length) H) : ∃ (b : Addr) (ys : List V), [V.ref a] = [.ref b] ∧ SqL K H b ys ∧ R (Itv K b ys.length) H := ⟨a, xs, rfl, h, q⟩
theorem u_rng {R : It → Hp → Prop} {j : Int} (h : -1000000 ≤ j) (h' : j ≤ 1000000) (q : R (Itr 0 j.toNat) H) : ∃ i : Int, [V.int j] = [.int i] ∧ -(2 ^ 62) ≤ i ∧ i < 2 ^ 62 ∧ R (Itr 0 i.toNat) H := ⟨j, rfl, by omega, by omega, q⟩
theorem cut_to {m : Nat} : cutV xs none (some (m : Int)) = xs.take m := by
  unfold cutV
  rw [HT.sIx_nat, HT.sIx_none, List.drop_zero, Nat.sub_zero, Nat.min_comm, List.take_eq_take_iff]
  omega
theorem cut_from {m : Nat} : cutV xs (some (m : Int)) none = xs.drop m := by
  unfold cutV
  rw [HT.sIx_nat, HT.sIx_none]
  by_cases h : m ≤ xs.length
  · rw [Nat.min_eq_left h, List.take_of_length_le (by rw [List.length_drop]; omega)]
  · rw [Nat.min_eq_right (by omega), List.drop_length, List.drop_of_length_le (by omega), List.take_nil]
theorem cut_mid {m n : Nat} (h : m ≤ xs.length) : cutV xs (some (m : Int)) (some (n : Int)) = (xs.drop m).take (n - m) := by
  unfold cutV
  rw [HT.sIx_nat, HT.sIx_nat, Nat.min_eq_left h, List.take_eq_take_iff, List.length_drop]
  omega
theorem g_dget {td ty : TE} (q : td σ H fun x H1 => ty σ H1 fun y H2 => ∃ a v, x = .ref a ∧ DGet H2 a y (some v) ∧ Q v H2) : tDGet td ty σ H Q := q
theorem g_dput {td ty tv : TE} {D : Ends} (q : tv σ H fun v H1 => td σ H1 fun x H2 => ty σ H2 fun y H3 => ∃ a H4, x = .ref a ∧ DPut H3 a y v H4 ∧ D.nx σ H4) : sDPut td ty tv D σ H := q
end
end L2

namespace Ev
open PySem PySem.Spec PyProof.Rows L2
def topS (i : Nat) : Stmt := PySem.Challenge.pw_everyfloor_k08_whole_last_and_all_places.main.body.getD i (.Pass ⟨0, 0, 0, 0⟩)
end Ev

section
open L2 in
local macro_rules | `(tactic| walk_at "gx") => `(tactic| first
  | ((with_reducible show tVar _ _ _ _); refine g_var rfl ?_)
  | with_reducible refine g_c ?_
  | with_reducible refine g_op ?_
  | with_reducible refine g_cons ?_
  | with_reducible refine g_nil ?_
  | with_reducible refine g_test ?_
  | with_reducible refine g_blp ?_
  | with_reducible refine g_asg ?_
  | (with_reducible refine g_name ?_; (try simp only [List.set_cons_zero, List.set_cons_succ]))
  | with_reducible refine g_call ?_
  | with_reducible refine g_cb ?_
  | with_reducible refine g_I0 ?_
  | with_reducible refine g_U ?_
  | with_reducible refine g_eqI ?_
  | with_reducible refine g_neI ?_
  | with_reducible refine g_if ?_
  | with_reducible refine g_ret ?_
  | with_reducible refine g_retN ?_
  | with_reducible refine g_next ?_
  | with_reducible refine g_drop ?_
  | with_reducible refine g_un ?_
  | with_reducible refine g_tb ?_
  | with_reducible refine g_tup ?_
  | with_reducible refine g_lst ?_
  | with_reducible refine g_and ?_
  | with_reducible refine g_or ?_
  | with_reducible refine g_not ?_
  | with_reducible refine g_andV ?_
  | with_reducible refine g_orV ?_
  | with_reducible refine g_notV ?_
  | with_reducible refine g_ifE ?_
  | with_reducible refine g_fld ?_
  | with_reducible refine g_tt ?_
  | with_reducible refine g_ff ?_
  | with_reducible refine g_ntt ?_
  | with_reducible refine g_nff ?_
  | with_reducible refine g_for ?_
  | with_reducible refine g_list ?_
  | with_reducible refine g_tupI ?_
  | with_reducible refine g_rng1 ?_
  | with_reducible refine g_rng2 ?_
  | with_reducible refine g_enumA ?_
  | with_reducible refine g_rev ?_
  | with_reducible refine g_lc ?_
  | with_reducible refine g_gcons ?_
  | with_reducible refine g_gnil ?_
  | with_reducible refine g_yes ?_
  | with_reducible refine g_sl ?_
  | with_reducible refine g_nopart ?_
  | with_reducible refine g_part ?_
  | with_reducible refine g_int ?_
  | with_reducible refine g_dget ?_
  | with_reducible refine g_dput ?_
  | with_reducible refine g_raiseX ?_
  | with_reducible refine g_tru ?_
  | with_reducible refine g_sub ?_
  | with_reducible refine g_isN ?_
  | with_reducible refine g_notN ?_
  | with_reducible refine g_bm ?_
  | with_reducible refine L2.g_bm0 ?_
  | with_reducible refine g_pair ?_
  | with_reducible refine g_pair0 ?_
  | with_reducible refine u_int1 ?_
  | with_reducible refine g_chain ?_
  | with_reducible refine L2.g_sfld ?_
  | (with_reducible refine g_par3 ?_)
  | (with_reducible refine g_three ?_; (try simp only [List.set_cons_zero, List.set_cons_succ]))
  | ((with_reducible apply L2.g_tupT); walk_at "up"; rfl)
  | (with_reducible refine g_par ?_)
  | (with_reducible refine g_two ?_; (try simp only [List.set_cons_zero, List.set_cons_succ]))
  )
local macro_rules | `(tactic| walk_at "go") => `(tactic| first | walk_at "gx" | with_reducible refine L2.g_seq ?_)
local macro_rules | `(tactic| walk_at "gou") => `(tactic| repeat (walk_at "gx"))
local macro_rules | `(tactic| walk_at "gos") => `(tactic| repeat (walk_at "go"))
local macro_rules | `(tactic| walk_at "sl") => `(tactic| first
  | assumption
  | exact L2.Same.l (by assumption)
  | exact L2.SameD.l (by assumption)
  | exact L2.extN_l (by assumption))
local macro_rules | `(tactic| walk_at "up") => `(tactic| first
  | assumption
  | ((with_reducible apply L2.SameL.lst); walk_at "sl"; walk_at "up")
  | ((with_reducible apply L2.SameL.tupA); walk_at "sl"; walk_at "up")
  | ((with_reducible apply L2.SameL.ins); walk_at "sl"; walk_at "up")
  | ((with_reducible apply Ev.PB.l); walk_at "sl"; walk_at "up")
  | ((with_reducible apply Ev.IsP.l); walk_at "sl"; walk_at "up")
  | ((with_reducible apply L2.sqL); walk_at "up")
  | ((with_reducible apply L2.sqT); walk_at "up")
  | ((with_reducible apply L2.SameL.seq); walk_at "sl"; walk_at "up")
  | ((with_reducible apply Ev.Pen.same); assumption; walk_at "up")
  | ((with_reducible apply Ev.Pen.extN); assumption; walk_at "up")
  | ((with_reducible apply L2.tabs_s); assumption; walk_at "up")
  | ((with_reducible apply L2.tabs_dd); assumption; walk_at "up")
  | ((with_reducible apply Or.inl); walk_at "up")
  | ((with_reducible apply Or.inr); walk_at "up"))
local macro_rules | `(tactic| walk_at "new") => `(tactic| (
  first
    | refine ⟨L2.size_ok (by rfl), fun p hp => ?_⟩
    | refine fun p hp => ?_
  generalize hX : L2.upd _ p _ = H1
  obtain ⟨e, h⟩ := L2.news hp hX
  clear hX))
local macro_rules | `(tactic| walk_at "o") => `(tactic| first
  | ((with_reducible apply Ev.o_add); walk_at "up"; walk_at "up"; rfl; rfl; rfl)
  | ((with_reducible apply Ev.o_sub); walk_at "up"; walk_at "up"; rfl; rfl; rfl)
  | ((with_reducible apply Ev.o_mul); walk_at "up"; walk_at "up"; rfl; rfl; rfl)
  | ((with_reducible apply Ev.o_addI); walk_at "up"; assumption; rfl; rfl; rfl)
  | ((with_reducible apply Ev.o_subI); walk_at "up"; assumption; rfl; rfl; rfl)
  | ((with_reducible apply Ev.o_mulI); walk_at "up"; assumption; rfl; rfl; rfl)
  | ((with_reducible apply Ev.o_radd); walk_at "up"; assumption; rfl; rfl; rfl)
  | ((with_reducible apply Ev.o_rsub); walk_at "up"; assumption; rfl; rfl; rfl)
  | ((with_reducible apply Ev.o_rmul); walk_at "up"; assumption; rfl; rfl; rfl)
  | ((with_reducible apply Ev.o_neg); walk_at "up"; rfl; rfl; rfl))
local macro_rules | `(tactic| walk_at "eq") => `(tactic| ((with_reducible apply Ev.u_ownB); assumption; walk_at "up"; walk_at "up"; (focus (intro k; first | rfl | exact Pl.e_add | exact Pl.e_sub | exact Pl.e_mul | exact Pl.e_rsub | exact Pl.e_rsub2))))
local macro_rules | `(tactic| walk_at "isp") => `(tactic| (apply Ev.u_isB; walk_at "up"; walk_at "up"; rfl; rfl))

/-! integers.py and the least form of a piece -/
namespace Ev
open PySem PySem.Spec PyProof.Rows L2
section
variable {P : Program} {w : World} {K : PySem.W.Frag} {mg : Str → Option Value} {base : Heap}
/-- is_integer(x) is b -/
def Kd (K : PySem.W.Frag) (H : Hp) (x : V) (b : Bool) : Prop := ∃ t b1 b2, TyX K H x t ∧ PySem.W.kitOne K t (.type "int") = some b1 ∧ PySem.W.kitOne K t (.type "bool") = some b2 ∧ b = (b1 && !b2)
def spIsInteger (K : PySem.W.Frag) : Sp := fun vs H Q _ => ∃ x b, vs = [x] ∧ Kd K H x b ∧ Q (.bl b) H
theorem sc_is_integer : FnScope ["value"] ["value"] (defScope (topS 10)) := ⟨rfl, rfl, rfl, by decide +kernel, rfl, by decide +kernel, by decide +kernel⟩
theorem ok_is_integer (B : Bn mg) {f : Addr} {fd : FuncData} (F : Fun K "is_integer" "is_integer" (topS 10) f fd) : FnOk P w K mg base (L2.CX P w) 1 f fd ["value"] (spIsInteger K) := by
  have nd := sc_is_integer.nd
  refine F.okX sc_is_integer (fun vs H Q E h => ?_) (fun cdv A outer s H vs Q E hr h => ?_)
  · obtain ⟨x, b, rfl, _⟩ := h
    rfl
  · refine ⟨_, (pss_one (ps_ret (pe_and (pe_callB (call_isiK' (K := K) rfl) (by rfl) B.isinstance (by decide +kernel) (pa_cons (pv 0) (pa_cons (pe_bltn (v := .ty "int") (by rfl) B.int_ (by decide +kernel) rfl) pa_nil))) (pe_one (pe_not (pe_callB (call_isiK' (K := K) rfl) (by rfl) B.isinstance (by decide +kernel) (pa_cons (pv 0) (pa_cons (pe_bltn (v := .ty "bool") (by rfl) B.bool_ (by decide +kernel) rfl) pa_nil)))))))), ?_⟩
    obtain ⟨x, b, rfl, ⟨t, b1, b2, ht, h1, h2, hb⟩, q⟩ := h
    show _
    walk_at "gos"
    refine ⟨x, .ty "int", t, .type "int", b1, rfl, .ty "int", ht, h1, ?_⟩
    walk_at "gos"
    refine g_ite (fun e => ?_) (fun e => ?_)
    · walk_at "gos"
      refine ⟨x, .ty "bool", t, .type "bool", b2, rfl, .ty "bool", ht, h2, ?_⟩
      walk_at "gos"
      subst e hb
      exact q
    · subst e hb
      exact q
/-- the greatest divisor -/
theorem gcd_step {a b : Int} (ha : 0 ≤ a) (hb : 0 ≤ b) : Int.gcd b (a.fmod b) = Int.gcd a b := by
  obtain ⟨n, rfl⟩ := Int.eq_ofNat_of_zero_le ha
  obtain ⟨m, rfl⟩ := Int.eq_ofNat_of_zero_le hb
  rw [Int.fmod_eq_emod_of_nonneg _ hb]
  show Nat.gcd m (n % m) = Nat.gcd n m
  rw [Nat.gcd_comm n m, Nat.gcd_rec m n, Nat.gcd_comm]
theorem gcd_abs (a b : Int) : Int.gcd (if a < 0 then -a else a) (if b < 0 then -b else b) = Int.gcd a b := by
  split <;> split <;> simp
/-- the loop of the greatest divisor -/
def WG (H : Hp) (a b : Int) (m : Nat) (σ' : L2.St) (H' : Hp) : Prop := ∃ a' b' : Int, σ' = [some (V.int a'), some (V.int b')] ∧ 0 ≤ a' ∧ 0 ≤ b' ∧ Int.gcd a' b' = Int.gcd a b ∧ m = b'.natAbs ∧ H' = H
theorem wg0 {H : Hp} {a b : Int} : WG H a b (if b < 0 then -b else b).natAbs [some (V.int (if a < 0 then -a else a)), some (V.int (if b < 0 then -b else b))] H := ⟨_, _, rfl, by split <;> omega, by split <;> omega, gcd_abs a b, rfl, rfl⟩
theorem wg_next {H : Hp} {a b a' b' : Int} (e2 : 0 ≤ a') (e3 : 0 ≤ b') (e4 : Int.gcd a' b' = Int.gcd a b) (hp : b' ≠ 0) : ∃ m', m' < b'.natAbs ∧ WG H a b m' [some (V.int b'), some (V.int (a'.fmod b'))] H := by
  have hm : a'.fmod b' = a' % b' := Int.fmod_eq_emod_of_nonneg _ e3
  have h1 := Int.emod_nonneg a' hp
  have h2 := Int.emod_lt_of_pos a' (show 0 < b' by omega)
  exact ⟨(a'.fmod b').natAbs, by rw [hm]; omega, b', a'.fmod b', rfl, e3, by rw [hm]; exact h1, by rw [gcd_step e2 e3, e4], rfl, rfl⟩
theorem wg_end {a b a' : Int} (e2 : 0 ≤ a') (e4 : Int.gcd a' 0 = Int.gcd a b) : (Int.gcd a b : Int) = a' := by
  rw [← e4, Int.gcd_zero]
  omega
theorem sc_common_divisor : FnScope ["one", "other"] ["one", "other"] (defScope (topS 11)) := ⟨rfl, rfl, rfl, by decide +kernel, rfl, by decide +kernel, by decide +kernel⟩
def spGcd : Sp := fun vs H Q _ => ∃ a b : Int, vs = [.int a, .int b] ∧ Q (.int (Int.gcd a b : Nat)) H
theorem ok_common_divisor (B : Bn mg) {f : Addr} {fd : FuncData} (F : Fun K "common_divisor" "common_divisor" (topS 11) f fd) : FnOk P w K mg base (L2.CX P w) 1 f fd ["one", "other"] spGcd := by
  have nd := sc_common_divisor.nd
  refine F.okX sc_common_divisor (fun vs H Q E h => ?_) (fun cdv A outer s H vs Q E hr h => ?_)
  · obtain ⟨a, b, rfl, _⟩ := h
    rfl
  · refine ⟨_, (pss_cons (ps_par (i := 0) (j := 1) rfl nd rfl rfl (by decide) rfl rfl (pa_cons (pe_callB call_abs (by rfl) B.abs_ (by decide +kernel) (pa_cons (pv 0) pa_nil)) (pa_cons (pe_callB call_abs (by rfl) B.abs_ (by decide +kernel) (pa_cons (pv 1) pa_nil)) pa_nil)) (by rfl))
      (pss_cons (ps_while (passes_of rfl) (pt_cmpR op_gt (pv 1) pe_int (nomark _)) (pss_one (ps_par (i := 0) (j := 1) rfl nd rfl rfl (by decide) rfl rfl (pa_cons (pv 1) (pa_cons (pe_op op_modN (pv 0) (pv 1)) pa_nil)) (by rfl))))
      (pss_one (ps_ret (pv 0))))), ?_⟩
    obtain ⟨a, b, rfl, q⟩ := h
    walk_at "gos"
    refine ⟨a, rfl, ?_⟩
    walk_at "gos"
    refine ⟨b, rfl, ?_⟩
    walk_at "gos"
    refine ⟨WG H a b, ⟨_, wg0⟩, fun m σ' H' ⟨a', b', e1, e2, e3, e4, e5, e6⟩ => ?_⟩
    subst e1 e5 e6
    walk_at "gos"
    refine g_itd (fun hp => ⟨_, fun _ _ z => z, ?_⟩) (fun hp => ?_)
    · walk_at "gos"
      refine g_I (by omega) ?_
      walk_at "gos"
      exact wg_next e2 e3 e4 (by omega)
    · walk_at "gos"
      obtain rfl : b' = 0 := by omega
      rw [wg_end e2 e4] at q
      exact q
theorem sc_sign_of : FnScope ["value"] ["value"] (defScope (topS 12)) := ⟨rfl, rfl, rfl, by decide +kernel, rfl, by decide +kernel, by decide +kernel⟩
def spSign : Sp := fun vs H Q _ => ∃ a : Int, vs = [.int a] ∧ Q (.int a.sign) H
theorem ok_sign_of {f : Addr} {fd : FuncData} (F : Fun K "sign_of" "sign_of" (topS 12) f fd) : FnOk P w K mg base (L2.CX P w) 1 f fd ["value"] spSign := by
  have nd := sc_sign_of.nd
  refine F.okX sc_sign_of (fun vs H Q E h => ?_) (fun cdv A outer s H vs Q E hr h => ?_)
  · obtain ⟨a, rfl, _⟩ := h
    rfl
  · refine ⟨_, (pss_one (ps_ret (pe_op op_sub (pe_ifExp (pt_cmpR op_gt (pv 0) pe_int (nomark _)) pe_int pe_int) (pe_ifExp (pt_cmpR op_lt (pv 0) pe_int (nomark _)) pe_int pe_int)))), ?_⟩
    obtain ⟨a, rfl, q⟩ := h
    walk_at "gos"
    refine g_itd (fun hp => ?_) (fun hp => ?_)
    · walk_at "gos"
      rw [if_neg (by simp; omega)]
      walk_at "gos"
      rw [Int.sign_eq_one_of_pos hp] at q
      exact q
    · walk_at "gos"
      refine g_itd (fun hp2 => ?_) (fun hp2 => ?_)
      · walk_at "gos"
        rw [Int.sign_eq_neg_one_of_neg hp2] at q
        exact q
      · walk_at "gos"
        have : a = 0 := by omega
        subst this
        exact q
/-! need_integers -/
end
end Ev

end
section
open L2 in
local macro_rules | `(tactic| walk_at "gx") => `(tactic| first
  | ((with_reducible show tVar _ _ _ _); refine g_var rfl ?_)
  | with_reducible refine g_c ?_
  | with_reducible refine g_op ?_
  | with_reducible refine g_cons ?_
  | with_reducible refine g_nil ?_
  | with_reducible refine g_test ?_
  | with_reducible refine g_blp ?_
  | with_reducible refine g_asg ?_
  | (with_reducible refine g_name ?_; (try simp only [List.set_cons_zero, List.set_cons_succ]))
  | with_reducible refine g_call ?_
  | with_reducible refine g_cb ?_
  | with_reducible refine g_I0 ?_
  | with_reducible refine g_U ?_
  | with_reducible refine g_eqI ?_
  | with_reducible refine g_neI ?_
  | with_reducible refine g_if ?_
  | with_reducible refine g_ret ?_
  | with_reducible refine g_retN ?_
  | with_reducible refine g_next ?_
  | with_reducible refine g_drop ?_
  | with_reducible refine g_un ?_
  | with_reducible refine g_tb ?_
  | with_reducible refine g_tup ?_
  | with_reducible refine g_lst ?_
  | with_reducible refine g_and ?_
  | with_reducible refine g_or ?_
  | with_reducible refine g_not ?_
  | with_reducible refine g_andV ?_
  | with_reducible refine g_orV ?_
  | with_reducible refine g_notV ?_
  | with_reducible refine g_ifE ?_
  | with_reducible refine g_fld ?_
  | with_reducible refine g_tt ?_
  | with_reducible refine g_ff ?_
  | with_reducible refine g_ntt ?_
  | with_reducible refine g_nff ?_
  | with_reducible refine g_for ?_
  | with_reducible refine g_list ?_
  | with_reducible refine g_tupI ?_
  | with_reducible refine g_rng1 ?_
  | with_reducible refine g_rng2 ?_
  | with_reducible refine g_enumA ?_
  | with_reducible refine g_rev ?_
  | with_reducible refine g_lc ?_
  | with_reducible refine g_gcons ?_
  | with_reducible refine g_gnil ?_
  | with_reducible refine g_yes ?_
  | with_reducible refine g_sl ?_
  | with_reducible refine g_nopart ?_
  | with_reducible refine g_part ?_
  | with_reducible refine g_int ?_
  | with_reducible refine g_dget ?_
  | with_reducible refine g_dput ?_
  | with_reducible refine g_raiseX ?_
  | with_reducible refine g_tru ?_
  | with_reducible refine g_sub ?_
  | with_reducible refine g_isN ?_
  | with_reducible refine g_notN ?_
  | with_reducible refine g_bm ?_
  | with_reducible refine L2.g_bm0 ?_
  | with_reducible refine g_pair ?_
  | with_reducible refine g_pair0 ?_
  | with_reducible refine u_int1 ?_
  | with_reducible refine g_chain ?_
  | with_reducible refine L2.g_sfld ?_
  | (with_reducible refine g_par3 ?_)
  | (with_reducible refine g_three ?_; (try simp only [List.set_cons_zero, List.set_cons_succ]))
  | ((with_reducible apply L2.g_tupT); walk_at "up"; rfl)
  | (with_reducible refine g_par ?_)
  | (with_reducible refine g_two ?_; (try simp only [List.set_cons_zero, List.set_cons_succ]))
  )
local macro_rules | `(tactic| walk_at "go") => `(tactic| first | walk_at "gx" | with_reducible refine L2.g_seq ?_)
local macro_rules | `(tactic| walk_at "gou") => `(tactic| repeat (walk_at "gx"))
local macro_rules | `(tactic| walk_at "gos") => `(tactic| repeat (walk_at "go"))
local macro_rules | `(tactic| walk_at "sl") => `(tactic| first
  | assumption
  | exact L2.Same.l (by assumption)
  | exact L2.SameD.l (by assumption)
  | exact L2.extN_l (by assumption))
local macro_rules | `(tactic| walk_at "up") => `(tactic| first
  | assumption
  | ((with_reducible apply L2.SameL.lst); walk_at "sl"; walk_at "up")
  | ((with_reducible apply L2.SameL.tupA); walk_at "sl"; walk_at "up")
  | ((with_reducible apply L2.SameL.ins); walk_at "sl"; walk_at "up")
  | ((with_reducible apply Ev.PB.l); walk_at "sl"; walk_at "up")
  | ((with_reducible apply Ev.IsP.l); walk_at "sl"; walk_at "up")
  | ((with_reducible apply L2.sqL); walk_at "up")
  | ((with_reducible apply L2.sqT); walk_at "up")
  | ((with_reducible apply L2.SameL.seq); walk_at "sl"; walk_at "up")
  | ((with_reducible apply Ev.Pen.same); assumption; walk_at "up")
  | ((with_reducible apply Ev.Pen.extN); assumption; walk_at "up")
  | ((with_reducible apply L2.tabs_s); assumption; walk_at "up")
  | ((with_reducible apply L2.tabs_dd); assumption; walk_at "up")
  | ((with_reducible apply Or.inl); walk_at "up")
  | ((with_reducible apply Or.inr); walk_at "up"))
local macro_rules | `(tactic| walk_at "new") => `(tactic| (
  first
    | refine ⟨L2.size_ok (by rfl), fun p hp => ?_⟩
    | refine fun p hp => ?_
  generalize hX : L2.upd _ p _ = H1
  obtain ⟨e, h⟩ := L2.news hp hX
  clear hX))
local macro_rules | `(tactic| walk_at "o") => `(tactic| first
  | ((with_reducible apply Ev.o_add); walk_at "up"; walk_at "up"; rfl; rfl; rfl)
  | ((with_reducible apply Ev.o_sub); walk_at "up"; walk_at "up"; rfl; rfl; rfl)
  | ((with_reducible apply Ev.o_mul); walk_at "up"; walk_at "up"; rfl; rfl; rfl)
  | ((with_reducible apply Ev.o_addI); walk_at "up"; assumption; rfl; rfl; rfl)
  | ((with_reducible apply Ev.o_subI); walk_at "up"; assumption; rfl; rfl; rfl)
  | ((with_reducible apply Ev.o_mulI); walk_at "up"; assumption; rfl; rfl; rfl)
  | ((with_reducible apply Ev.o_radd); walk_at "up"; assumption; rfl; rfl; rfl)
  | ((with_reducible apply Ev.o_rsub); walk_at "up"; assumption; rfl; rfl; rfl)
  | ((with_reducible apply Ev.o_rmul); walk_at "up"; assumption; rfl; rfl; rfl)
  | ((with_reducible apply Ev.o_neg); walk_at "up"; rfl; rfl; rfl))
local macro_rules | `(tactic| walk_at "eq") => `(tactic| ((with_reducible apply Ev.u_ownB); assumption; walk_at "up"; walk_at "up"; (focus (intro k; first | rfl | exact Pl.e_add | exact Pl.e_sub | exact Pl.e_mul | exact Pl.e_rsub | exact Pl.e_rsub2))))
local macro_rules | `(tactic| walk_at "isp") => `(tactic| (apply Ev.u_isB; walk_at "up"; walk_at "up"; rfl; rfl))

/-! The law's pen: draws from the script. -/
namespace Ev
open PySem PySem.Spec PyProof.Rows L2
abbrev penO (c : Addr) (at_ left : Int) : HO := .dK [(.inr "cells", .ref c), (.inr "at", .int at_), (.inr "left", .int left)]
/-- a pen at p, moved at most n times -/
def Pen (H : Hp) (p c : Addr) (n : Nat) : Prop := ∃ (cells : List Int) (at_ left : Int), H p = some (penO c at_ left) ∧ H c = some (.lst (cells.map V.int)) ∧ cells.length ≤ 63 ∧ 0 ≤ at_ ∧ at_ ≤ n ∧ 0 ≤ left
theorem Pen.same {H H' : Hp} {p c : Addr} {n : Nat} (e : Same H H') : Pen H p c n → Pen H' p c n := fun ⟨cells, a, l, h1, h2, h3⟩ => ⟨cells, a, l, e _ _ h1, e _ _ h2, h3⟩
theorem Pen.extN {H H' : Hp} {p c : Addr} {n : Nat} (e : ∀ b o, H b = some o → (∀ ps, o ≠ .tbl ps) → H' b = some o) : Pen H p c n → Pen H' p c n := fun ⟨cells, a, l, h1, h2, h3⟩ => ⟨cells, a, l, e _ _ h1 (fun _ z => nomatch z), e _ _ h2 (fun _ z => nomatch z), h3⟩
theorem Pen.mono {H : Hp} {p c : Addr} {n m : Nat} (h : n ≤ m) : Pen H p c n → Pen H p c m := fun ⟨cells, a, l, h1, h2, h3, h4, h5, h6⟩ => ⟨cells, a, l, h1, h2, h3, h4, by omega, h6⟩
theorem Pen.ne {H : Hp} {p c D : Addr} {n : Nat} (hD : H D = none) : Pen H p c n → p ≠ D ∧ c ≠ D := fun ⟨cells, a, l, h1, h2, _⟩ => ⟨ne_of_none h1 hD, ne_of_none h2 hD⟩
theorem Pen.upd {H : Hp} {p c D : Addr} {n : Nat} {o : HO} (h1 : p ≠ D) (h2 : c ≠ D) : Pen H p c n → Pen (upd H D o) p c n := fun ⟨cells, a, l, g1, g2, g3⟩ => ⟨cells, a, l, by rw [upd_ne h1]; exact g1, by rw [upd_ne h2]; exact g2, g3⟩
theorem SameD.put {H H' : Hp} {p : Addr} {kvs kvs' : List (Key × V)} (e : SameD H H') (h : H' p = some (.dK kvs)) : SameD H (upd H' p (.dK kvs')) := fun b o hb hn => by
  by_cases hp : b = p
  · subst hp
    have := e _ _ hb hn
    rw [h] at this
    cases this
    exact absurd rfl (hn kvs)
  · rw [upd_ne hp]
    exact e _ _ hb hn
section
variable {H : Hp} {p c : Addr} {at_ left : Int}
theorem pen_cells {P : V → Prop} (h : H p = some (penO c at_ left)) (q : P (.ref c)) : ∃ a v, V.ref p = .ref a ∧ DGet H a (.str "cells") (some v) ∧ P v := ⟨p, _, rfl, .inl ⟨_, .inr "cells", .inl h, rfl, rfl⟩, q⟩
theorem pen_at {P : V → Prop} (h : H p = some (penO c at_ left)) (q : P (.int at_)) : ∃ a v, V.ref p = .ref a ∧ DGet H a (.str "at") (some v) ∧ P v := ⟨p, _, rfl, .inl ⟨_, .inr "at", .inl h, rfl, rfl⟩, q⟩
theorem pen_left {P : V → Prop} (h : H p = some (penO c at_ left)) (q : P (.int left)) : ∃ a v, V.ref p = .ref a ∧ DGet H a (.str "left") (some v) ∧ P v := ⟨p, _, rfl, .inl ⟨_, .inr "left", .inl h, rfl, rfl⟩, q⟩
theorem pen_at' {P : Hp → Prop} {i : Int} (h : H p = some (penO c at_ left)) (q : P (upd H p (penO c i left))) : ∃ a H', V.ref p = .ref a ∧ DPut H a (.str "at") (.int i) H' ∧ P H' :=
  ⟨p, _, rfl, .inl ⟨_, .inr "at", h, rfl, by show 3 < sizeLine; decide, rfl⟩, q⟩
theorem pen_left' {P : Hp → Prop} {i : Int} (h : H p = some (penO c at_ left)) (q : P (upd H p (penO c at_ i))) : ∃ a H', V.ref p = .ref a ∧ DPut H a (.str "left") (.int i) H' ∧ P H' :=
  ⟨p, _, rfl, .inl ⟨_, .inr "left", h, rfl, by show 3 < sizeLine; decide, rfl⟩, q⟩
end
theorem fmod_ok {i j : Int} (h : 0 < j) : 0 ≤ i.fmod j ∧ i.fmod j < j := by
  rw [Int.fmod_eq_emod_of_nonneg _ (Int.le_of_lt h)]
  exact ⟨Int.emod_nonneg _ (by omega), Int.emod_lt_of_pos _ h⟩
theorem cdiv_ok {i j : Int} (h : 0 < j) (h2 : j < 2 ^ 200) : CDivX i j := by
  have : Bd 200 j := by
    unfold Bd
    have : (2 : Int) ^ 200 = ((2 ^ 200 : Nat) : Int) := by norm_cast
    omega
  exact Bd.divX (by omega) this (by decide)
theorem cmul_small {i j : Int} {n m : Nat} (h : Bd n i) (h' : Bd m j) (hs : Nat.ble (n + m) 100000000 = true := by rfl) : CMulX i j := h.mulX h' (by have := Nat.le_of_ble_eq_true hs; omega)
theorem bd_of {i : Int} {n : Nat} (h : 0 ≤ i) (h2 : i < ((2 ^ n : Nat) : Int)) : Bd n i := by
  unfold Bd
  omega
section
variable {P : Program} {w : World} {K : PySem.W.Frag} {mg : Str → Option Value} {base : Heap}
def spPen (K : PySem.W.Frag) : Sp := fun vs H Q _ => ∃ (a : Addr) (ns : List Int), vs = [.ref a] ∧ SqL K H a (ns.map V.int) ∧ ∀ p c H', Same H H' → Pen H' p c 0 → Q (.ref p) H'
theorem sc__law_pen : FnScope ["script"] ["script"] (defScope (topS 35)) := ⟨rfl, rfl, rfl, by decide +kernel, rfl, by decide +kernel, by decide +kernel⟩
theorem ok__law_pen (B : Bn mg) {f : Addr} {fd : FuncData} (F : Fun K "_law_pen" "_law_pen" (topS 35) f fd) : FnOk P w K mg base (L2.CX P w) 1 f fd ["script"] (spPen K) := by
  have nd := sc__law_pen.nd
  refine F.okX sc__law_pen (fun vs H Q E h => ?_) (fun cdv A outer s H vs Q E hr h => ?_)
  · obtain ⟨a, ns, rfl, _⟩ := h
    rfl
  · refine ⟨_, (pss_one (ps_ret (pe_disp (pps_cons pe_str (pe_callTy (call_lstK (K := K) rfl) (by rfl) B.list_ (by decide +kernel) (pa_cons (pe_slice (sl_listK (K := K) rfl) (pv 0) po_none (po_some pe_int)) pa_nil)) (pps_cons pe_str pe_int (pps_cons pe_str pe_int pps_nil))) (by rfl) (by rfl) (fun z => by cases z) (by decide)))), ?_⟩
    obtain ⟨a, ns, rfl, hx, q⟩ := h
    refine g_retD fun p hp => ?_
    walk_at "gos"
    refine u_sl ((same_new hp).seq hx) fun l H1 hl e1 h1 => ?_
    walk_at "gos"
    refine u_list (.inl (sqL h1)) fun l2 H2 hl2 e2 h2 => ?_
    walk_at "gos"
    refine ⟨e2 _ _ (e1 _ _ upd_same), [(.inr "cells", .ref l2), (.inr "at", .int 0), (.inr "left", .int 0)], rfl, by show 3 ≤ 15; decide, ?_⟩
    have e12 : Same H H2 := (same_new hp).trans (e1.trans e2)
    refine q p l2 _ (Same.mut e12 hp) ⟨ns.take 63, 0, 0, upd_same, ?_, ?_, by decide, by decide, by decide⟩
    · rw [upd_ne (ne_of_none (e1 _ _ upd_same) hl2).symm, h2]
      rw [show (some 63 : Option Int) = some ((63 : Nat) : Int) from rfl, cut_to, List.map_take]
    · rw [List.length_take]
      omega
def spDraw : Sp := fun vs H Q _ => ∃ (p c : Addr) (many : Int) (n : Nat), vs = [.ref p, .int many] ∧ Pen H p c n ∧ n < 2 ^ 40 ∧ 0 < many ∧ many < 2 ^ 200 ∧ ∀ r H', 0 ≤ r → r < many → SameD H H' → Pen H' p c (n + 1) → Q (.int r) H'
theorem sc__law_draw : FnScope ["pen", "many", "digit", "at", "cell", "mixed"] ["pen", "many"] (defScope (topS 36)) := ⟨rfl, rfl, rfl, by decide +kernel, rfl, by decide +kernel, by decide +kernel⟩
theorem ok__law_draw (B : Bn mg) {f : Addr} {fd : FuncData} (F : Fun K "_law_draw" "_law_draw" (topS 36) f fd) : FnOk P w K mg base (L2.CX P w) 2 f fd ["pen", "many"] spDraw := by
  have nd := sc__law_draw.nd
  refine F.okX sc__law_draw (fun vs H Q E h => ?_) (fun cdv A outer s H vs Q E hr h => ?_)
  · obtain ⟨p, c, many, n, rfl, _⟩ := h
    rfl
  · refine ⟨_, (pss_cons (ps_if (pt_cmpR op_ge (pe_dget (hu_of hr) (pv 0) pe_str (fun _ _ => rfl)) (pv 1) (nomark _)) (pss_cons (ps_set (i := 2) nd rfl (.inl rfl) (pe_op op_modN (pe_callTy call_in1 (by rfl) B.int_ (by decide +kernel) (pa_cons (pe_dget (hu_of hr) (pv 0) pe_str (fun _ _ => rfl)) pa_nil)) (pv 1)))
      (pss_cons (ps_dput (hu_of hr) (pv 0) pe_str (pe_op op_fdivX (pe_dget (hu_of hr) (pv 0) pe_str (fun _ _ => rfl)) (pv 1)) rfl)
      (pss_one (ps_ret (pv 2))))) pss_nil)
      (pss_cons (ps_set (i := 3) nd rfl (.inl rfl) (pe_dget (hu_of hr) (pv 0) pe_str (fun _ _ => rfl)))
      (pss_cons (ps_dput (hu_of hr) (pv 0) pe_str (pe_op op_add (pv 3) pe_int) rfl)
      (pss_cons (ps_set (i := 4) nd rfl (.inl rfl) (pe_op op_add (pe_op op_mulX pe_int (pv 3)) pe_int))
      (pss_cons (ps_if (pt_cmpR (op_neDK (K := K) rfl hr.units) (pe_dget (hu_of hr) (pv 0) pe_str (fun _ _ => rfl)) (pe_lst pa_nil) (nomark _)) (pss_one (ps_set (i := 4) nd rfl (.inl rfl) (pe_ix (ix_listK (K := K) rfl) (pe_dget (hu_of hr) (pv 0) pe_str (fun _ _ => rfl)) (pe_op op_modN (pe_callTy call_in1 (by rfl) B.int_ (by decide +kernel) (pa_cons (pv 3) pa_nil)) (pe_callB (call_lnK (K := K) rfl) (by rfl) B.len_ (by decide +kernel) (pa_cons (pe_dget (hu_of hr) (pv 0) pe_str (fun _ _ => rfl)) pa_nil))) (fun _ _ => rfl)))) pss_nil)
      (pss_cons (ps_if (PW.pt (pw_and (pt_cmpR op_lt (pv 3) (pe_callB (call_lnK (K := K) rfl) (by rfl) B.len_ (by decide +kernel) (pa_cons (pe_dget (hu_of hr) (pv 0) pe_str (fun _ _ => rfl)) pa_nil)) (nomark _)) (pw_and1 (pt_cmpR op_ge (pv 4) (pe_op op_pow pe_int pe_int) (nomark _))))) (pss_cons (ps_dput (hu_of hr) (pv 0) pe_str (pe_op op_fdivX (pe_op op_sub (pv 4) (pe_op op_pow pe_int pe_int)) (pv 1)) rfl)
      (pss_one (ps_ret (pe_op op_modN (pe_callTy call_in1 (by rfl) B.int_ (by decide +kernel) (pa_cons (pe_op op_sub (pv 4) (pe_op op_pow pe_int pe_int)) pa_nil)) (pv 1))))) pss_nil)
      (pss_cons (ps_set (i := 5) nd rfl (.inl rfl) (pe_op op_add (pe_op op_add (pe_op op_add (pe_op op_mulX (pe_op op_modN (pe_callTy call_in1 (by rfl) B.int_ (by decide +kernel) (pa_cons (pv 4) pa_nil)) pe_int) pe_int) (pe_op op_mulX (pe_op op_mulX pe_int (pv 3)) (pv 3))) (pe_op op_mulX pe_int (pv 3))) pe_int))
      (pss_cons (ps_set (i := 5) nd rfl (.inl rfl) (pe_op op_modN (pe_callTy call_in1 (by rfl) B.int_ (by decide +kernel) (pa_cons (pv 5) pa_nil)) pe_int))
      (pss_cons (ps_set (i := 5) nd rfl (.inl rfl) (pe_op op_modN (pe_callTy call_in1 (by rfl) B.int_ (by decide +kernel) (pa_cons (pe_op op_mulX (pv 5) (pe_op op_add (pv 5) pe_int)) pa_nil)) pe_int))
      (pss_one (ps_ret (pe_op op_modN (pe_callTy call_in1 (by rfl) B.int_ (by decide +kernel) (pa_cons (pe_op op_fdivX (pe_op op_modN (pe_callTy call_in1 (by rfl) B.int_ (by decide +kernel) (pa_cons (pe_op op_mulX (pv 5) (pv 5)) pa_nil)) pe_int) pe_int) pa_nil)) (pv 1))))))))))))), ?_⟩
    obtain ⟨p, c, many, n, rfl, ⟨cells, at_, left, hp, hc, hl, ha0, han, hl0⟩, hn, hm, hm2, q⟩ := h
    refine g_st (σ' := [some (.ref p), some (.int many), none, none, none, none]) rfl ?_
    have hcp : c ≠ p := fun z => by rw [z, hp] at hc; cases hc
    walk_at "gos"
    refine pen_left hp ?_
    walk_at "gos"
    refine g_itd (fun h1 => ?_) (fun h1 => ?_)
    · walk_at "gos"
      refine pen_left hp ?_
      walk_at "gos"
      refine g_I (by omega) ?_
      walk_at "gos"
      refine pen_left hp ?_
      walk_at "gos"
      refine g_I (cdiv_ok hm hm2) ?_
      walk_at "gos"
      refine pen_left' hp ?_
      walk_at "gos"
      have f1 := fmod_ok (i := left) hm
      refine q _ _ f1.1 f1.2 (SameD.put (SameD.refl H) hp) ⟨cells, at_, _, upd_same, by rw [upd_ne hcp]; exact hc, hl, ha0, by omega, ?_⟩
      rw [Int.fdiv_eq_ediv_of_nonneg _ (Int.le_of_lt hm)]
      exact Int.ediv_nonneg hl0 (Int.le_of_lt hm)
    · walk_at "gos"
      refine pen_at hp ?_
      walk_at "gos"
      refine pen_at' hp ?_
      walk_at "gos"
      have hat : Bd 41 at_ := bd_of ha0 (by have : (2 : Nat) ^ 41 = 2 ^ 40 * 2 := rfl; omega)
      refine g_I (cmul_small (n := 6) (m := 41) (by unfold Bd; decide) hat) ?_
      have hp1 : (upd H p (penO c (at_ + 1) left)) p = some (penO c (at_ + 1) left) := upd_same
      have hc1 : (upd H p (penO c (at_ + 1) left)) c = some (.lst (cells.map V.int)) := by rw [upd_ne hcp]; exact hc
      have d1 : SameD H (upd H p (penO c (at_ + 1) left)) := SameD.put (SameD.refl H) hp
      generalize upd H p (penO c (at_ + 1) left) = H1 at hp1 hc1 d1 ⊢
      walk_at "go"
      walk_at "go"
      walk_at "go"
      refine g_cutS (fun σ' H' => Same H1 H' ∧ ∃ cell : Int, σ' = [some (.ref p), some (.int many), none, some (.int at_), some (.int cell), none]) (fun nx hnx => ?_) (fun σ' H' hR => ?_)
      · walk_at "gos"
        refine pen_cells hp1 ?_
        walk_at "gos"
        refine ⟨Nat.zero_le _, fun l hl2 => ?_⟩
        have e2 := same_new (o := .lst []) hl2
        have h2 : (upd H1 l (.lst [])) l = some (.lst []) := upd_same
        generalize upd H1 l (.lst []) = H2 at e2 h2 ⊢
        refine u_neL (ms := []) (sqL (e2 _ _ hc1)) (sqL h2) ?_
        walk_at "gos"
        refine g_itn (fun hne => ?_) (fun hne => ?_)
        · walk_at "gos"
          refine pen_cells (e2 _ _ hp1) ?_
          walk_at "gos"
          refine pen_cells (e2 _ _ hp1) ?_
          walk_at "gos"
          refine u_lenL (sqL (e2 _ _ hc1)) ?_
          have hln : 0 < cells.length := List.length_pos_iff.mpr hne
          refine g_I (by rw [List.length_map]; omega) ?_
          rw [List.length_map]
          have f1 := fmod_ok (i := at_) (j := (cells.length : Int)) (by omega)
          obtain ⟨j, hj⟩ := Int.eq_ofNat_of_zero_le f1.1
          rw [hj] at f1 ⊢
          have hj2 : j < cells.length := by omega
          refine u_ixL (sqL (e2 _ _ hc1)) (atI_nat (v := V.int (cells[j])) (by rw [List.getElem?_map, List.getElem?_eq_getElem hj2]; rfl)) ?_
          walk_at "gos"
          exact hnx _ _ ⟨e2, _, rfl⟩
        · walk_at "gos"
          exact hnx _ _ ⟨e2, _, rfl⟩
      · obtain ⟨e2, cell, rfl⟩ := hR
        have hp2 := e2 _ _ hp1
        have hc2 := e2 _ _ hc1
        have d2 : SameD H H' := d1.trans e2.d
        have q' : ∀ i : Int, Q (.int (i.fmod many)) H' := fun i => q _ _ (fmod_ok hm).1 (fmod_ok hm).2 d2 ⟨cells, _, _, hp2, hc2, hl, by omega, by omega, hl0⟩
        refine g_cutS (fun σ' H'' => H'' = H' ∧ σ' = [some (.ref p), some (.int many), none, some (.int at_), some (.int cell), none]) (fun nx hnx => ?_) (fun σ' H'' hR => ?_)
        · walk_at "gos"
          refine pen_cells hp2 ?_
          walk_at "gos"
          refine u_lenL (sqL hc2) ?_
          walk_at "gos"
          refine g_itd (fun h3 => ?_) (fun h3 => ?_)
          · walk_at "gos"
            refine g_I (by unfold CPow; decide) ?_
            walk_at "gos"
            refine g_itd (fun h4 => ?_) (fun h4 => ?_)
            · walk_at "gos"
              refine g_I (by unfold CPow; decide) ?_
              walk_at "gos"
              refine g_I (cdiv_ok hm hm2) ?_
              walk_at "gos"
              refine pen_left' hp2 ?_
              walk_at "gos"
              refine g_I (by unfold CPow; decide) ?_
              walk_at "gos"
              refine g_I (by omega) ?_
              have f1 := fmod_ok (i := cell - 10 ^ (18 : Int).toNat) hm
              refine q _ _ f1.1 f1.2 (SameD.put d2 hp2) ⟨cells, _, _, upd_same, by rw [upd_ne hcp]; exact hc2, hl, by omega, by omega, ?_⟩
              rw [Int.fdiv_eq_ediv_of_nonneg _ (Int.le_of_lt hm)]
              exact Int.ediv_nonneg (by omega) (Int.le_of_lt hm)
            · walk_at "gos"
              exact hnx _ _ ⟨rfl, rfl⟩
          · walk_at "gos"
            exact hnx _ _ ⟨rfl, rfl⟩
        · obtain ⟨rfl, rfl⟩ := hR
          have bm : ∀ {i j : Int}, 0 < j → j < 2147483648 → Bd 31 (i.fmod j) := fun {i j} h1 h2 => by
            have := fmod_ok (i := i) h1
            exact bd_of this.1 (by have : (2 : Nat) ^ 31 = 2147483648 := rfl; omega)
          walk_at "gos"
          refine g_I (by decide) ?_
          walk_at "gos"
          refine g_I (cmul_small (n := 31) (m := 16) (bm (by decide) (by decide)) (by unfold Bd; decide)) ?_
          walk_at "gos"
          refine g_I (cmul_small (n := 17) (m := 41) (by unfold Bd; decide) hat) ?_
          walk_at "gos"
          refine g_I (cmul_small (n := 58) (m := 41) (Bd.mul (n := 17) (m := 41) (by unfold Bd; decide) hat) hat) ?_
          walk_at "gos"
          refine g_I (cmul_small (n := 6) (m := 41) (by unfold Bd; decide) hat) ?_
          walk_at "gos"
          refine g_I (by decide) ?_
          walk_at "gos"
          refine g_I (cmul_small (n := 31) (m := 32) (bm (by decide) (by decide)) (Bd.add (bm (by decide) (by decide)) (by unfold Bd; decide))) ?_
          walk_at "gos"
          refine g_I (by decide) ?_
          walk_at "gos"
          refine g_I (cmul_small (n := 31) (m := 31) (bm (by decide) (by decide)) (bm (by decide) (by decide))) ?_
          walk_at "gos"
          refine g_I (by decide) ?_
          walk_at "gos"
          refine g_I (by unfold CDivX; decide) ?_
          walk_at "gos"
          refine g_I (by omega) ?_
          exact q' _
end
end Ev

end
section
open L2 in
local macro_rules | `(tactic| walk_at "gx") => `(tactic| first
  | ((with_reducible show tVar _ _ _ _); refine g_var rfl ?_)
  | with_reducible refine g_c ?_
  | with_reducible refine g_op ?_
  | with_reducible refine g_cons ?_
  | with_reducible refine g_nil ?_
  | with_reducible refine g_test ?_
  | with_reducible refine g_blp ?_
  | with_reducible refine g_asg ?_
  | (with_reducible refine g_name ?_; (try simp only [List.set_cons_zero, List.set_cons_succ]))
  | with_reducible refine g_call ?_
  | with_reducible refine g_cb ?_
  | with_reducible refine g_I0 ?_
  | with_reducible refine g_U ?_
  | with_reducible refine g_eqI ?_
  | with_reducible refine g_neI ?_
  | with_reducible refine g_if ?_
  | with_reducible refine g_ret ?_
  | with_reducible refine g_retN ?_
  | with_reducible refine g_next ?_
  | with_reducible refine g_drop ?_
  | with_reducible refine g_un ?_
  | with_reducible refine g_tb ?_
  | with_reducible refine g_tup ?_
  | with_reducible refine g_lst ?_
  | with_reducible refine g_and ?_
  | with_reducible refine g_or ?_
  | with_reducible refine g_not ?_
  | with_reducible refine g_andV ?_
  | with_reducible refine g_orV ?_
  | with_reducible refine g_notV ?_
  | with_reducible refine g_ifE ?_
  | with_reducible refine g_fld ?_
  | with_reducible refine g_tt ?_
  | with_reducible refine g_ff ?_
  | with_reducible refine g_ntt ?_
  | with_reducible refine g_nff ?_
  | with_reducible refine g_for ?_
  | with_reducible refine g_list ?_
  | with_reducible refine g_tupI ?_
  | with_reducible refine g_rng1 ?_
  | with_reducible refine g_rng2 ?_
  | with_reducible refine g_enumA ?_
  | with_reducible refine g_rev ?_
  | with_reducible refine g_lc ?_
  | with_reducible refine g_gcons ?_
  | with_reducible refine g_gnil ?_
  | with_reducible refine g_yes ?_
  | with_reducible refine g_sl ?_
  | with_reducible refine g_nopart ?_
  | with_reducible refine g_part ?_
  | with_reducible refine g_int ?_
  | with_reducible refine g_dget ?_
  | with_reducible refine g_dput ?_
  | with_reducible refine g_raiseX ?_
  | with_reducible refine g_tru ?_
  | with_reducible refine g_sub ?_
  | with_reducible refine g_isN ?_
  | with_reducible refine g_notN ?_
  | with_reducible refine g_bm ?_
  | with_reducible refine L2.g_bm0 ?_
  | with_reducible refine g_pair ?_
  | with_reducible refine g_pair0 ?_
  | with_reducible refine u_int1 ?_
  | with_reducible refine g_chain ?_
  | with_reducible refine L2.g_sfld ?_
  | (with_reducible refine g_par3 ?_)
  | (with_reducible refine g_three ?_; (try simp only [List.set_cons_zero, List.set_cons_succ]))
  | ((with_reducible apply L2.g_tupT); walk_at "up"; rfl)
  | (with_reducible refine g_par ?_)
  | (with_reducible refine g_two ?_; (try simp only [List.set_cons_zero, List.set_cons_succ]))
  )
local macro_rules | `(tactic| walk_at "go") => `(tactic| first | walk_at "gx" | with_reducible refine L2.g_seq ?_)
local macro_rules | `(tactic| walk_at "gou") => `(tactic| repeat (walk_at "gx"))
local macro_rules | `(tactic| walk_at "gos") => `(tactic| repeat (walk_at "go"))
local macro_rules | `(tactic| walk_at "sl") => `(tactic| first
  | assumption
  | exact L2.Same.l (by assumption)
  | exact L2.SameD.l (by assumption)
  | exact L2.extN_l (by assumption))
local macro_rules | `(tactic| walk_at "up") => `(tactic| first
  | assumption
  | ((with_reducible apply L2.SameL.lst); walk_at "sl"; walk_at "up")
  | ((with_reducible apply L2.SameL.tupA); walk_at "sl"; walk_at "up")
  | ((with_reducible apply L2.SameL.ins); walk_at "sl"; walk_at "up")
  | ((with_reducible apply Ev.PB.l); walk_at "sl"; walk_at "up")
  | ((with_reducible apply Ev.IsP.l); walk_at "sl"; walk_at "up")
  | ((with_reducible apply L2.sqL); walk_at "up")
  | ((with_reducible apply L2.sqT); walk_at "up")
  | ((with_reducible apply L2.SameL.seq); walk_at "sl"; walk_at "up")
  | ((with_reducible apply Ev.Pen.same); assumption; walk_at "up")
  | ((with_reducible apply Ev.Pen.extN); assumption; walk_at "up")
  | ((with_reducible apply L2.tabs_s); assumption; walk_at "up")
  | ((with_reducible apply L2.tabs_dd); assumption; walk_at "up")
  | ((with_reducible apply Or.inl); walk_at "up")
  | ((with_reducible apply Or.inr); walk_at "up"))
local macro_rules | `(tactic| walk_at "new") => `(tactic| (
  first
    | refine ⟨L2.size_ok (by rfl), fun p hp => ?_⟩
    | refine fun p hp => ?_
  generalize hX : L2.upd _ p _ = H1
  obtain ⟨e, h⟩ := L2.news hp hX
  clear hX))
local macro_rules | `(tactic| walk_at "o") => `(tactic| first
  | ((with_reducible apply Ev.o_add); walk_at "up"; walk_at "up"; rfl; rfl; rfl)
  | ((with_reducible apply Ev.o_sub); walk_at "up"; walk_at "up"; rfl; rfl; rfl)
  | ((with_reducible apply Ev.o_mul); walk_at "up"; walk_at "up"; rfl; rfl; rfl)
  | ((with_reducible apply Ev.o_addI); walk_at "up"; assumption; rfl; rfl; rfl)
  | ((with_reducible apply Ev.o_subI); walk_at "up"; assumption; rfl; rfl; rfl)
  | ((with_reducible apply Ev.o_mulI); walk_at "up"; assumption; rfl; rfl; rfl)
  | ((with_reducible apply Ev.o_radd); walk_at "up"; assumption; rfl; rfl; rfl)
  | ((with_reducible apply Ev.o_rsub); walk_at "up"; assumption; rfl; rfl; rfl)
  | ((with_reducible apply Ev.o_rmul); walk_at "up"; assumption; rfl; rfl; rfl)
  | ((with_reducible apply Ev.o_neg); walk_at "up"; rfl; rfl; rfl))
local macro_rules | `(tactic| walk_at "eq") => `(tactic| ((with_reducible apply Ev.u_ownB); assumption; walk_at "up"; walk_at "up"; (focus (intro k; first | rfl | exact Pl.e_add | exact Pl.e_sub | exact Pl.e_mul | exact Pl.e_rsub | exact Pl.e_rsub2))))
local macro_rules | `(tactic| walk_at "isp") => `(tactic| (apply Ev.u_isB; walk_at "up"; walk_at "up"; rfl; rfl))

/-! pieces.py -/
namespace Ev
open PySem PySem.Spec PyProof.Rows L2
section
variable {P : Program} {w : World} {K : PySem.W.Frag} {mg : Str → Option Value} {base : Heap}
theorem Kd.same {H H' : Hp} {x : V} {b : Bool} (e : Same H H') : Kd K H x b → Kd K H' x b := fun ⟨t, b1, b2, h1, h2⟩ => ⟨t, b1, b2, e.ty h1, h2⟩
theorem Kd.int {H : Hp} {i : Int} : Kd K H (.int i) true := ⟨.type "int", true, false, .base (.int i), kit_ty (by decide +kernel), kit_ty (by decide +kernel), rfl⟩
theorem Kd.bl {H : Hp} {i : Bool} : Kd K H (.bl i) false := ⟨.type "bool", true, true, .base (.bl i), kit_ty (by decide +kernel), kit_ty (by decide +kernel), rfl⟩
theorem Kd.non {H : Hp} : Kd K H .non false := ⟨.type "NoneType", false, false, .base .non, kit_ty (by decide +kernel), kit_ty (by decide +kernel), rfl⟩
theorem Kd.str {H : Hp} {i : Str} : Kd K H (.str i) false := ⟨.type "str", false, false, .base (.str i), kit_ty (by decide +kernel), kit_ty (by decide +kernel), rfl⟩
theorem Kd.tup {H : Hp} {a : Addr} {xs : List V} (h : H a = some (.tup xs)) : Kd K H (.ref a) false := ⟨.type "tuple", false, false, .base (.tup h), kit_ty (by decide +kernel), kit_ty (by decide +kernel), rfl⟩
theorem Kd.lst {H : Hp} {a : Addr} {xs : List V} (h : H a = some (.lst xs)) : Kd K H (.ref a) false := ⟨.type "list", false, false, .base (.lst h), kit_ty (by decide +kernel), kit_ty (by decide +kernel), rfl⟩
/-- the class and the data of an exception with one field -/
def Exc1 (H H' : Hp) (C : Addr) (n : Str) (v : V) (E : XK) : Prop := Same H H' → ∀ d, H' d = some (.xd [(n, v)]) → E (.ref C) (some d) H'
def spNeed (K : PySem.W.Frag) (C : Addr) : Sp := fun vs H Q E => ∃ (a : Addr) (xs : List V) (kd : Nat → Bool), vs = [.ref a] ∧ (SqL K H a xs ∨ SqT K H a xs) ∧ (∀ i x, xs[i]? = some x → Kd K H x (kd i)) ∧
  ((∀ i, i < xs.length → kd i = true) → ∀ H', Same H H' → Q .non H') ∧
  ∀ i, i < xs.length → kd i = false → (∀ j, j < i → kd j = true) → ∀ H', Exc1 H H' C "index" (.int (i : Nat)) E
theorem sc_need_integers : FnScope ["row", "index", "part"] ["row"] (defScope (topS 15)) := ⟨rfl, rfl, rfl, by decide +kernel, rfl, by decide +kernel, by decide +kernel⟩
theorem ok_need_integers {CR : Addr} (B : Bn mg) (X_BadRow : ExT P K mg "BadRow" CR ["index"]) (G_is_integer : CallF P w K mg base "is_integer" ["value"] 1 (spIsInteger K)) {f : Addr} {fd : FuncData} (F : Fun K "need_integers" "need_integers" (topS 15) f fd) :
    FnOk P w K mg base (L2.CX P w) 3 f fd ["row"] (spNeed K CR) := by
  have nd := sc_need_integers.nd
  refine F.okX sc_need_integers (fun vs H Q E h => ?_) (fun cdv A outer s H vs Q E hr h => ?_)
  · obtain ⟨a, xs, kd, rfl, _⟩ := h
    rfl
  · refine ⟨_, (pss_one (ps_for (passes_of rfl) rfl (pi_enumAK (K := K) rfl (by rfl) B.enumerate (pa_cons (pv 0) pa_nil)) (pg_tupK (K := K) (n := 2) rfl rfl (pgs_cons (pg_name (i := 1) nd rfl (.inl rfl)) (pgs_cons (pg_name (i := 2) nd rfl (.inl rfl)) pgs_nil))) (pss_one (ps_if (pt_not (pt_val (pe_callF G_is_integer (hr.mono (by decide)) rfl passL (pa_cons (pv 2) pa_nil)))) (pss_one (ps_raiseX rfl X_BadRow hr (takes_of rfl rfl rfl rfl) (pa_cons (pv 1) pa_nil))) pss_nil)))), ?_⟩
    obtain ⟨a, xs, kd, rfl, hx, hk, q1, q2⟩ := h
    walk_at "gos"
    refine enum_any hx fun J G wk hG => ?_
    refine for_it wk (fun i σ' H' => Same H H' ∧ (∃ y z, σ' = [some (.ref a), y, z]) ∧ ∀ j, j < i → kd j = true) ⟨Same.refl H, ⟨none, none, rfl⟩, fun j h => absurd h (Nat.not_lt_zero j)⟩ (fun i σ' H' _ p => hG H' p.1) (fun i x σ' H' H2 hi p y => ?_) (fun σ' H' p => ?_)
    · obtain ⟨e, ⟨y0, z0, rfl⟩, hj⟩ := p
      obtain ⟨T, u, v, rfl, e2, hT, hu, hv⟩ := pair_of y
      obtain rfl : V.int (i : Nat) = u := Option.some.inj hu
      refine g_tupT hT rfl ?_
      walk_at "gos"
      refine ⟨v, kd i, rfl, (hk i v hv).same (e.trans e2), ?_⟩
      walk_at "gos"
      cases hki : kd i with
      | false =>
        walk_at "gos"
        exact u_raise rfl (by decide) fun d H3 _ e3 hd => q2 i hi hki hj H3 (e.trans (e2.trans e3)) d hd
      | true =>
        walk_at "gos"
        refine ⟨e.trans e2, ⟨_, _, rfl⟩, fun j h => ?_⟩
        by_cases hji : j < i
        · exact hj j hji
        · obtain rfl : j = i := by omega
          exact hki
    · exact q1 p.2.2 H' p.1
end
end Ev

end
/-! Pieces, plainly. -/
namespace Pl
theorem dvd_gcd' {d a b : Int} (h1 : d ∣ a) (h2 : d ∣ b) : d ∣ ((Int.gcd a b : Nat) : Int) := Int.dvd_coe_gcd h1 h2
/-- the greatest divisor of u and all xs -/
def gl (u : Int) (xs : List Int) : Int := xs.foldl (fun d x => ((Int.gcd d x : Nat) : Int)) u
theorem gl_nil {u : Int} : gl u [] = u := rfl
theorem gl_snoc {u x : Int} {xs : List Int} : gl u (xs ++ [x]) = ((Int.gcd (gl u xs) x : Nat) : Int) := by
  unfold gl
  rw [List.foldl_append]
  rfl
theorem gl_cons {u x : Int} {xs : List Int} : gl u (x :: xs) = gl ((Int.gcd u x : Nat) : Int) xs := rfl
theorem gl_dvd_u {xs : List Int} : ∀ {u : Int}, gl u xs ∣ u := by
  induction xs with
  | nil => intro u; exact Int.dvd_refl u
  | cons x xs ih => intro u; exact Int.dvd_trans ih (Int.gcd_dvd_left _ _)
theorem gl_dvd {xs : List Int} : ∀ {u x : Int}, x ∈ xs → gl u xs ∣ x := by
  induction xs with
  | nil => intro u x h; cases h
  | cons y xs ih =>
    intro u x h
    rcases List.mem_cons.mp h with h | h
    · subst h
      rw [gl_cons]
      exact Int.dvd_trans gl_dvd_u (Int.gcd_dvd_right u x)
    · exact ih h
theorem gl_great {d : Int} {xs : List Int} : ∀ {u : Int}, d ∣ u → (∀ x, x ∈ xs → d ∣ x) → d ∣ gl u xs := by
  induction xs with
  | nil => intro u h _; exact h
  | cons y xs ih => intro u h h2; exact ih (dvd_gcd' h (h2 y (List.mem_cons_self ..))) fun x hx => h2 x (List.mem_cons_of_mem _ hx)
theorem gl_pos {xs : List Int} : ∀ {u : Int}, 0 < u → 0 < gl u xs := by
  induction xs with
  | nil => intro u h; exact h
  | cons y xs ih =>
    intro u h
    rw [gl_cons]
    refine ih ?_
    have : 0 < Int.gcd u y := Int.gcd_pos_of_ne_zero_left _ (by omega)
    omega
theorem gl_le {xs : List Int} {u : Int} (h : 0 < u) : gl u xs ≤ u := Int.le_of_dvd h gl_dvd_u
/-- the last place kept -/
theorem last_of (f : Nat → Bool) : ∀ n : Nat, ((List.range n).filter f = [] ∧ ∀ i, i < n → f i = false) ∨ ∃ k l, k < n ∧ f k = true ∧ (∀ i, k < i → i < n → f i = false) ∧ (List.range n).filter f = l ++ [k] := by
  intro n
  induction n with
  | zero => exact .inl ⟨rfl, fun i h => absurd h (Nat.not_lt_zero i)⟩
  | succ n ih =>
    rw [List.range_succ, List.filter_append]
    cases hf : f n with
    | true =>
      refine .inr ⟨n, (List.range n).filter f, Nat.lt_succ_self n, hf, fun i h1 h2 => by omega, ?_⟩
      rw [List.filter_cons, if_pos hf]
      rfl
    | false =>
      have e : List.filter f [n] = [] := by rw [List.filter_cons, if_neg (by rw [hf]; decide)]; rfl
      rw [e, List.append_nil]
      rcases ih with ⟨h1, h2⟩ | ⟨k, l, h1, h2, h3, h4⟩
      · refine .inl ⟨h1, fun i hi => ?_⟩
        by_cases h : i < n
        · exact h2 i h
        · obtain rfl : i = n := by omega
          exact hf
      · refine .inr ⟨k, l, by omega, h2, fun i h5 h6 => ?_, h4⟩
        by_cases h : i < n
        · exact h3 i h5 h
        · obtain rfl : i = n := by omega
          exact hf
/-- a row's member, 0 behind it -/
def at0 (l : List Int) (k : Nat) : Int := l.getD k 0
theorem at0_out {l : List Int} {k : Nat} (h : l.length ≤ k) : at0 l k = 0 := by
  unfold at0
  rw [List.getD_eq_getElem?_getD, List.getElem?_eq_none h]
  rfl
theorem at0_in {l : List Int} {k : Nat} (h : k < l.length) : at0 l k = l[k] := by
  unfold at0
  rw [List.getD_eq_getElem?_getD, List.getElem?_eq_getElem h]
  rfl
theorem at0_get {l : List Int} {k : Nat} {x : Int} (h : l[k]? = some x) : at0 l k = x := by
  unfold at0
  rw [List.getD_eq_getElem?_getD, h]
  rfl
theorem range_map {β : Type} (l : List Int) (f : Int → β) : (List.range l.length).map (fun i => f (at0 l i)) = l.map f := by
  refine List.ext_getElem (by rw [List.length_map, List.length_map, List.length_range]) fun i h1 h2 => ?_
  rw [List.getElem_map, List.getElem_map, List.getElem_range]
  rw [List.length_map] at h2
  rw [at0_in h2]
structure Least (rs : List Int) (u : Int) : Prop where
  pos : 0 < u
  low : rs ≠ [] → at0 rs (rs.length - 1) ≠ 0
  one : ∀ d : Int, d ∣ u → (∀ k, d ∣ at0 rs k) → d ∣ 1
/-- (rs, u) is the least form of ns over v -/
structure FormOf (ns : List Int) (v : Int) (rs : List Int) (u : Int) : Prop where
  least : Least rs u
  same : ∀ k, at0 rs k * v = at0 ns k * u
  len : rs.length ≤ ns.length
  le : u ≤ v
  small : ∀ k, (at0 rs k).natAbs ≤ (at0 ns k).natAbs
theorem dvd_all {m u : Int} {rs : List Int} (h : Least rs u) (hk : ∀ k, u ∣ at0 rs k * m) : u ∣ m := by
  have h1 : gl u rs ∣ 1 := h.one _ gl_dvd_u fun k => by
    by_cases hk : k < rs.length
    · rw [at0_in hk]
      exact gl_dvd (List.getElem_mem hk)
    · rw [at0_out (by omega)]
      exact Int.dvd_zero _
  have key : ∀ (xs : List Int) (d : Int), (∀ x, x ∈ xs → u ∣ x * m) → u ∣ d * m → u ∣ gl d xs * m := by
    intro xs
    induction xs with
    | nil => intro d _ h2; exact h2
    | cons x xs ih =>
      intro d h1 h2
      refine ih _ (fun y hy => h1 y (List.mem_cons_of_mem _ hy)) ?_
      have h3 := h1 x (List.mem_cons_self ..)
      have e : ((Int.gcd d x : Nat) : Int) * m ∣ ((Int.gcd (d * m) (x * m) : Nat) : Int) ∨ True := .inr trivial
      have h4 : u ∣ ((Int.gcd (d * m) (x * m) : Nat) : Int) := dvd_gcd' h2 h3
      rw [Int.gcd_mul_right] at h4
      rw [Int.natCast_mul] at h4
      rcases Int.natAbs_eq m with hm | hm
      · rw [hm]; exact h4
      · rw [hm, Int.mul_neg]; exact (Int.dvd_neg).mpr h4
  have h2 : u ∣ gl u rs * m := key rs u (fun x hx => by
    obtain ⟨k, hk', rfl⟩ := List.getElem_of_mem hx
    have := hk k
    rwa [at0_in hk'] at this) (Int.dvd_mul_right _ _)
  obtain ⟨c, hc⟩ := h1
  have : m = c * (gl u rs * m) := by
    rw [← Int.mul_assoc, Int.mul_comm c, ← hc, Int.one_mul]
  rw [this]
  exact Int.dvd_trans h2 (Int.dvd_mul_left _ _)
theorem ext0 {xs ys : List Int} (h1 : xs ≠ [] → at0 xs (xs.length - 1) ≠ 0) (h2 : ys ≠ [] → at0 ys (ys.length - 1) ≠ 0) (h : ∀ k, at0 xs k = at0 ys k) : xs = ys := by
  have hl : xs.length = ys.length := by
    rcases Nat.lt_trichotomy xs.length ys.length with hlt | he | hlt
    · have hne : ys ≠ [] := fun z => by rw [z] at hlt; exact absurd hlt (Nat.not_lt_zero _)
      exact absurd (by rw [← h, at0_out (by omega)]) (h2 hne)
    · exact he
    · have hne : xs ≠ [] := fun z => by rw [z] at hlt; exact absurd hlt (Nat.not_lt_zero _)
      exact absurd (by rw [h, at0_out (by omega)]) (h1 hne)
  refine List.ext_getElem hl fun i h3 h4 => ?_
  have := h i
  rwa [at0_in h3, at0_in h4] at this
theorem least_uniq {rs rs' : List Int} {u u' : Int} (h : Least rs u) (h' : Least rs' u') (e : ∀ k, at0 rs k * u' = at0 rs' k * u) : rs = rs' ∧ u = u' := by
  have d1 : u ∣ u' := dvd_all h fun k => ⟨at0 rs' k, by rw [e k, Int.mul_comm]⟩
  have d2 : u' ∣ u := dvd_all h' fun k => ⟨at0 rs k, by rw [← e k, Int.mul_comm]⟩
  have eu : u = u' := Int.le_antisymm (Int.le_of_dvd h'.pos d1) (Int.le_of_dvd h.pos d2)
  subst eu
  refine ⟨ext0 h.low h'.low fun k => ?_, rfl⟩
  exact Int.eq_of_mul_eq_mul_right (by have := h.pos; omega) (e k)
/-- two least forms of one fraction are one -/
theorem form_uniq {ns ns' rs rs' : List Int} {v v' u u' : Int} (h : FormOf ns v rs u) (h' : FormOf ns' v' rs' u') (hv : 0 < v) (hv' : 0 < v') (e : ∀ k, at0 ns k * v' = at0 ns' k * v) : rs = rs' ∧ u = u' := by
  refine least_uniq h.least h'.least fun k => ?_
  have h1 := h.same k
  have h2 := h'.same k
  have h3 := e k
  have hne : v * v' ≠ 0 := Int.mul_ne_zero (by omega) (by omega)
  refine Int.eq_of_mul_eq_mul_right hne ?_
  calc at0 rs k * u' * (v * v') = (at0 rs k * v) * (u' * v') := by simp only [Int.mul_assoc, Int.mul_left_comm, Int.mul_comm]
    _ = (at0 ns k * v') * (u * u') := by rw [h1]; simp only [Int.mul_assoc, Int.mul_left_comm, Int.mul_comm]
    _ = (at0 ns' k * u') * (u * v) := by rw [h3]; simp only [Int.mul_assoc, Int.mul_left_comm, Int.mul_comm]
    _ = at0 rs' k * u * (v * v') := by rw [← h2]; simp only [Int.mul_assoc, Int.mul_left_comm, Int.mul_comm]
/-- the members that are left -/
def kept (ns : List Int) (m : Nat) : Prop := m ≤ ns.length ∧ (∀ k, m ≤ k → at0 ns k = 0) ∧ (0 < m → at0 ns (m - 1) ≠ 0)
theorem at0_take {ns : List Int} {m k : Nat} (h : kept ns m) : at0 (ns.take m) k = at0 ns k := by
  by_cases hk : k < m
  · unfold at0
    rw [List.getD_eq_getElem?_getD, List.getD_eq_getElem?_getD, List.getElem?_take, if_pos hk]
  · rw [h.2.1 k (by omega), at0_out]
    rw [List.length_take]
    omega
theorem at0_map {ns : List Int} {f : Int → Int} (h0 : f 0 = 0) (k : Nat) : at0 (ns.map f) k = f (at0 ns k) := by
  unfold at0
  rw [List.getD_eq_getElem?_getD, List.getD_eq_getElem?_getD, List.getElem?_map]
  cases ns[k]? with
  | none => exact h0.symm
  | some x => rfl
theorem at0_app0 {l : List Int} {n k : Nat} : at0 (l ++ List.replicate n 0) k = at0 l k := by
  by_cases hk : k < l.length
  · unfold at0
    rw [List.getD_eq_getElem?_getD, List.getD_eq_getElem?_getD, List.getElem?_append_left hk]
  · rw [at0_out (l := l) (by omega)]
    unfold at0
    rw [List.getD_eq_getElem?_getD, List.getElem?_append_right (by omega), List.getElem?_replicate]
    split <;> rfl
theorem fdiv_mul {d x : Int} (hd : 0 < d) (h : d ∣ x) : x.fdiv d * d = x := by
  rw [Int.fdiv_eq_ediv_of_nonneg _ (Int.le_of_lt hd), Int.ediv_mul_cancel h]
theorem form_made {ns : List Int} {v : Int} {m : Nat} (hv : 0 < v) (hm : kept ns m) : FormOf ns v ((ns.take m).map fun x => x.fdiv (gl v (ns.take m))) (v.fdiv (gl v (ns.take m))) := by
  have hp : 0 < gl v (ns.take m) := gl_pos hv
  have hu : gl v (ns.take m) ∣ v := gl_dvd_u
  have hd : ∀ k, gl v (ns.take m) ∣ at0 ns k := fun k => by
    rw [← at0_take hm]
    by_cases hk : k < (ns.take m).length
    · rw [at0_in hk]
      exact gl_dvd (List.getElem_mem hk)
    · rw [at0_out (by omega)]
      exact Int.dvd_zero _
  have e0 : (0 : Int).fdiv (gl v (ns.take m)) = 0 := Int.zero_fdiv _
  have ek : ∀ k, at0 ((ns.take m).map fun x => x.fdiv (gl v (ns.take m))) k = (at0 ns k).fdiv (gl v (ns.take m)) := fun k => by rw [at0_map e0, at0_take hm]
  have hl : ((ns.take m).map fun x => x.fdiv (gl v (ns.take m))).length = m := by rw [List.length_map, List.length_take, Nat.min_eq_left hm.1]
  have ev := fdiv_mul hp hu
  have em : ∀ k, (at0 ns k).fdiv (gl v (ns.take m)) * gl v (ns.take m) = at0 ns k := fun k => fdiv_mul hp (hd k)
  refine ⟨⟨?_, ?_, ?_⟩, ?_, by rw [hl]; exact hm.1, ?_, ?_⟩
  · rw [Int.fdiv_eq_ediv_of_nonneg _ (Int.le_of_lt hp)]
    exact Int.ediv_pos_of_pos_of_dvd hv (Int.le_of_lt hp) hu
  · intro hne
    rw [hl, ek]
    intro z
    have hm0 : 0 < m := by
      rw [← hl]
      exact List.length_pos_iff.mpr hne
    refine hm.2.2 hm0 ?_
    rw [← em (m - 1), z, Int.zero_mul]
  · intro d h1 h2
    have h3 : d * gl v (ns.take m) ∣ gl v (ns.take m) := by
      refine gl_great ?_ ?_
      · have := Int.mul_dvd_mul_right (gl v (ns.take m)) h1
        rwa [ev] at this
      · intro x hx
        obtain ⟨k, hk, rfl⟩ := List.getElem_of_mem hx
        have h4 := Int.mul_dvd_mul_right (gl v (ns.take m)) (h2 k)
        rw [ek, em, ← at0_take hm, at0_in hk] at h4
        exact h4
    obtain ⟨c, hc⟩ := h3
    refine ⟨c, ?_⟩
    have : gl v (ns.take m) * 1 = gl v (ns.take m) * (d * c) := by
      rw [Int.mul_one, ← Int.mul_assoc, Int.mul_comm _ d]
      exact hc
    exact Int.eq_of_mul_eq_mul_left (by omega) this
  · intro k
    rw [ek]
    have : (at0 ns k).fdiv (gl v (ns.take m)) * (v.fdiv (gl v (ns.take m)) * gl v (ns.take m)) = (at0 ns k).fdiv (gl v (ns.take m)) * gl v (ns.take m) * v.fdiv (gl v (ns.take m)) := by
      simp only [Int.mul_assoc, Int.mul_left_comm, Int.mul_comm]
    rw [ev, em] at this
    exact this
  · rw [Int.fdiv_eq_ediv_of_nonneg _ (Int.le_of_lt hp)]
    exact Int.ediv_le_self _ (Int.le_of_lt hv)
  · intro k
    rw [ek]
    have := congrArg Int.natAbs (em k)
    rw [Int.natAbs_mul] at this
    rw [← this]
    exact Nat.le_mul_of_pos_right _ (by omega)
end Pl

section
open L2 in
local macro_rules | `(tactic| walk_at "gx") => `(tactic| first
  | ((with_reducible show tVar _ _ _ _); refine g_var rfl ?_)
  | with_reducible refine g_c ?_
  | with_reducible refine g_op ?_
  | with_reducible refine g_cons ?_
  | with_reducible refine g_nil ?_
  | with_reducible refine g_test ?_
  | with_reducible refine g_blp ?_
  | with_reducible refine g_asg ?_
  | (with_reducible refine g_name ?_; (try simp only [List.set_cons_zero, List.set_cons_succ]))
  | with_reducible refine g_call ?_
  | with_reducible refine g_cb ?_
  | with_reducible refine g_I0 ?_
  | with_reducible refine g_U ?_
  | with_reducible refine g_eqI ?_
  | with_reducible refine g_neI ?_
  | with_reducible refine g_if ?_
  | with_reducible refine g_ret ?_
  | with_reducible refine g_retN ?_
  | with_reducible refine g_next ?_
  | with_reducible refine g_drop ?_
  | with_reducible refine g_un ?_
  | with_reducible refine g_tb ?_
  | with_reducible refine g_tup ?_
  | with_reducible refine g_lst ?_
  | with_reducible refine g_and ?_
  | with_reducible refine g_or ?_
  | with_reducible refine g_not ?_
  | with_reducible refine g_andV ?_
  | with_reducible refine g_orV ?_
  | with_reducible refine g_notV ?_
  | with_reducible refine g_ifE ?_
  | with_reducible refine g_fld ?_
  | with_reducible refine g_tt ?_
  | with_reducible refine g_ff ?_
  | with_reducible refine g_ntt ?_
  | with_reducible refine g_nff ?_
  | with_reducible refine g_for ?_
  | with_reducible refine g_list ?_
  | with_reducible refine g_tupI ?_
  | with_reducible refine g_rng1 ?_
  | with_reducible refine g_rng2 ?_
  | with_reducible refine g_enumA ?_
  | with_reducible refine g_rev ?_
  | with_reducible refine g_lc ?_
  | with_reducible refine g_gcons ?_
  | with_reducible refine g_gnil ?_
  | with_reducible refine g_yes ?_
  | with_reducible refine g_sl ?_
  | with_reducible refine g_nopart ?_
  | with_reducible refine g_part ?_
  | with_reducible refine g_int ?_
  | with_reducible refine g_dget ?_
  | with_reducible refine g_dput ?_
  | with_reducible refine g_raiseX ?_
  | with_reducible refine g_tru ?_
  | with_reducible refine g_sub ?_
  | with_reducible refine g_isN ?_
  | with_reducible refine g_notN ?_
  | with_reducible refine g_bm ?_
  | with_reducible refine L2.g_bm0 ?_
  | with_reducible refine g_pair ?_
  | with_reducible refine g_pair0 ?_
  | with_reducible refine u_int1 ?_
  | with_reducible refine g_chain ?_
  | with_reducible refine L2.g_sfld ?_
  | (with_reducible refine g_par3 ?_)
  | (with_reducible refine g_three ?_; (try simp only [List.set_cons_zero, List.set_cons_succ]))
  | ((with_reducible apply L2.g_tupT); walk_at "up"; rfl)
  | (with_reducible refine g_par ?_)
  | (with_reducible refine g_two ?_; (try simp only [List.set_cons_zero, List.set_cons_succ]))
  )
local macro_rules | `(tactic| walk_at "go") => `(tactic| first | walk_at "gx" | with_reducible refine L2.g_seq ?_)
local macro_rules | `(tactic| walk_at "gou") => `(tactic| repeat (walk_at "gx"))
local macro_rules | `(tactic| walk_at "gos") => `(tactic| repeat (walk_at "go"))
local macro_rules | `(tactic| walk_at "sl") => `(tactic| first
  | assumption
  | exact L2.Same.l (by assumption)
  | exact L2.SameD.l (by assumption)
  | exact L2.extN_l (by assumption))
local macro_rules | `(tactic| walk_at "up") => `(tactic| first
  | assumption
  | ((with_reducible apply L2.SameL.lst); walk_at "sl"; walk_at "up")
  | ((with_reducible apply L2.SameL.tupA); walk_at "sl"; walk_at "up")
  | ((with_reducible apply L2.SameL.ins); walk_at "sl"; walk_at "up")
  | ((with_reducible apply Ev.PB.l); walk_at "sl"; walk_at "up")
  | ((with_reducible apply Ev.IsP.l); walk_at "sl"; walk_at "up")
  | ((with_reducible apply L2.sqL); walk_at "up")
  | ((with_reducible apply L2.sqT); walk_at "up")
  | ((with_reducible apply L2.SameL.seq); walk_at "sl"; walk_at "up")
  | ((with_reducible apply Ev.Pen.same); assumption; walk_at "up")
  | ((with_reducible apply Ev.Pen.extN); assumption; walk_at "up")
  | ((with_reducible apply L2.tabs_s); assumption; walk_at "up")
  | ((with_reducible apply L2.tabs_dd); assumption; walk_at "up")
  | ((with_reducible apply Or.inl); walk_at "up")
  | ((with_reducible apply Or.inr); walk_at "up"))
local macro_rules | `(tactic| walk_at "new") => `(tactic| (
  first
    | refine ⟨L2.size_ok (by rfl), fun p hp => ?_⟩
    | refine fun p hp => ?_
  generalize hX : L2.upd _ p _ = H1
  obtain ⟨e, h⟩ := L2.news hp hX
  clear hX))
local macro_rules | `(tactic| walk_at "o") => `(tactic| first
  | ((with_reducible apply Ev.o_add); walk_at "up"; walk_at "up"; rfl; rfl; rfl)
  | ((with_reducible apply Ev.o_sub); walk_at "up"; walk_at "up"; rfl; rfl; rfl)
  | ((with_reducible apply Ev.o_mul); walk_at "up"; walk_at "up"; rfl; rfl; rfl)
  | ((with_reducible apply Ev.o_addI); walk_at "up"; assumption; rfl; rfl; rfl)
  | ((with_reducible apply Ev.o_subI); walk_at "up"; assumption; rfl; rfl; rfl)
  | ((with_reducible apply Ev.o_mulI); walk_at "up"; assumption; rfl; rfl; rfl)
  | ((with_reducible apply Ev.o_radd); walk_at "up"; assumption; rfl; rfl; rfl)
  | ((with_reducible apply Ev.o_rsub); walk_at "up"; assumption; rfl; rfl; rfl)
  | ((with_reducible apply Ev.o_rmul); walk_at "up"; assumption; rfl; rfl; rfl)
  | ((with_reducible apply Ev.o_neg); walk_at "up"; rfl; rfl; rfl))
local macro_rules | `(tactic| walk_at "eq") => `(tactic| ((with_reducible apply Ev.u_ownB); assumption; walk_at "up"; walk_at "up"; (focus (intro k; first | rfl | exact Pl.e_add | exact Pl.e_sub | exact Pl.e_mul | exact Pl.e_rsub | exact Pl.e_rsub2))))
local macro_rules | `(tactic| walk_at "isp") => `(tactic| (apply Ev.u_isB; walk_at "up"; walk_at "up"; rfl; rfl))

/-! the least form of a row, a row's value -/
namespace Ev
open PySem PySem.Spec PyProof.Rows L2 Pl
section
variable {P : Program} {w : World} {K : PySem.W.Frag} {mg : Str → Option Value} {base : Heap}
def spLeast (K : PySem.W.Frag) : Sp := fun vs H Q _ => ∃ (a : Addr) (ns : List Int) (u : Int), vs = [.ref a, .int u] ∧ SqL K H a (ns.map V.int) ∧ 0 < u ∧ Bd 8000 u ∧ ns.length < 100000 ∧
  ∀ p t H' rs u', Same H H' → H' p = some (.tup [.ref t, .int u']) → H' t = some (.tup (rs.map V.int)) → FormOf ns u rs u' → Q (.ref p) H'
theorem at_ints {ns : List Int} {i : Nat} {x : V} (h : (ns.map V.int)[i]? = some x) : x = V.int (at0 ns i) := by
  rw [List.getElem?_map] at h
  cases e : ns[i]? with
  | none => rw [e] at h; cases h
  | some y => rw [e] at h; rw [at0_get e]; exact (Option.some.inj h).symm
theorem sc_least_form : FnScope ["row", "under", "k", "part", "left", "many", "divisor"] ["row", "under"] (defScope (topS 16)) := ⟨rfl, rfl, rfl, by decide +kernel, rfl, by decide +kernel, by decide +kernel⟩
theorem ok_least_form (B : Bn mg) (G_common_divisor : CallF P w K mg base "common_divisor" ["one", "other"] 1 spGcd) {f : Addr} {fd : FuncData} (F : Fun K "least_form" "least_form" (topS 16) f fd) :
    FnOk P w K mg base (L2.CX P w) 3 f fd ["row", "under"] (spLeast K) := by
  have nd := sc_least_form.nd
  refine F.okX sc_least_form (fun vs H Q E h => ?_) (fun cdv A outer s H vs Q E hr h => ?_)
  · obtain ⟨a, ns, u, rfl, _⟩ := h
    rfl
  · refine ⟨_, (pss_cons (ps_setLc (i := 4) (own := [("k", 2), ("part", 3)]) (g := gTup K 2 (gCons (gName 2) (gCons (gName 3) (gNil)))) rfl nd rfl rfl (sw_true rfl rfl rfl (by decide +kernel)) (pi_enumAK (K := K) rfl (by rfl) B.enumerate (pa_cons (pv 0) pa_nil)) (blkOk_by (N := ["row", "under", "k", "part", "left", "many", "divisor"]) (sc := defScope (topS 16)) (by decide +kernel)) (fun _ _ _ _ _ => (pg_tupK (K := K) (n := 2) rfl rfl (pgs_cons (pg_name (i := 2) nd rfl (.inl rfl)) (pgs_cons (pg_name (i := 3) nd rfl (.inl rfl)) pgs_nil)))) (fun _ _ _ _ _ => (pts_one (pt_cmpR op_ne (pv 3) pe_int (nomark _)))) (fun _ _ _ _ _ => (pv 2)))
      (pss_cons (ps_set (i := 5) nd rfl (.inl rfl) (pe_ifExp (pt_truK (K := K) rfl (pv 4) (by intro _; rfl)) (pe_op op_add (pe_ix (ix_listK (K := K) rfl) (pv 4) (pe_un un_neg pe_int) (fun _ _ => rfl)) pe_int) pe_int))
      (pss_cons (ps_set (i := 6) nd rfl (.inr rfl) (pv 1))
      (pss_cons (ps_for (passes_of rfl) rfl (pi_listK (K := K) rfl (pe_slice (sl_listK (K := K) rfl) (pv 0) po_none (po_some (pv 5)))) (pg_name (i := 3) nd rfl (.inl rfl)) (pss_one (ps_set (i := 6) nd rfl (.inr rfl) (pe_callF G_common_divisor (hr.mono (by decide)) rfl passL (pa_cons (pv 6) (pa_cons (pv 3) pa_nil))))))
      (pss_one (ps_ret (pe_tup (pa_cons (pe_callTy (call_tplK (K := K) rfl) (by rfl) B.tuple_ (by decide +kernel) (pa_cons (pe_lc (own := [("part", 3)]) (g := gName 3) (tt := tYes) rfl nd (pi_listK (K := K) rfl (pe_slice (sl_listK (K := K) rfl) (pv 0) po_none (po_some (pv 5)))) (blkOk_by (N := ["row", "under", "k", "part", "left", "many", "divisor"]) (sc := defScope (topS 16)) (by decide +kernel)) (fun _ _ _ _ _ => (pg_name (i := 3) nd rfl (.inl rfl))) (fun _ _ _ _ _ => pts_nil) (fun _ _ _ _ _ => (pe_op op_fdivX (pv 3) (pv 6)))) pa_nil)) (pa_cons (pe_op op_fdivX (pv 1) (pv 6)) pa_nil))))))))), ?_⟩
    obtain ⟨a, ns, u, rfl, hx, hu, hb, hn, q⟩ := h
    refine g_st (σ' := [some (.ref a), some (.int u), none, none, none, none, none]) rfl ?_
    walk_at "gos"
    refine enum_any (.inl hx) fun J G wk hG => fun D hD => ?_
    refine lc_it wk (PvL H D (fun i => !decide (at0 ns i = 0)) (fun i => V.int (i : Nat))) (lc_start hD) (fun i H' _ p => hG H' p.1) (fun i x H1 H2 hi p y => ?_) (fun H1 p => ?_)
    · obtain ⟨T, u1, v, rfl, e2, hT, hu1, hv⟩ := pair_of y
      obtain rfl : V.int (i : Nat) = u1 := Option.some.inj hu1
      obtain rfl := at_ints hv
      refine g_tupT hT rfl ?_
      walk_at "gos"
      refine ⟨rfl, ?_⟩
      walk_at "gos"
      rw [List.length_map] at hi
      refine g_ite (fun hb => ?_) (fun hb => ?_)
      · walk_at "gos"
        exact lc_yes hD p e2 hb rfl (by omega)
      · exact lc_no p e2 hb
    · have hn' : (ns.map V.int).length = ns.length := List.length_map ..
      rw [hn'] at p
      obtain ⟨e1, hD1⟩ := p
      walk_at "go"
      refine g_seq (g_asg (g_cut (fun v H' => H' = H1 ∧ ∃ m : Nat, kept ns m ∧ v = .int m) (fun Q hq => ?_) (fun v H' ⟨eH, m, hm, hv⟩ => ?_)))
      · walk_at "gos"
        refine u_truL (sqL hD1) ?_
        rcases last_of (fun i => !decide (at0 ns i = 0)) ns.length with ⟨h1, h2⟩ | ⟨k, l, h1, h2, h3, h4⟩
        · have e0 : given ns.length (fun i => !decide (at0 ns i = 0)) (fun i => V.int (i : Nat)) = [] := by unfold given; rw [h1]; rfl
          rw [e0]
          walk_at "gos"
          refine hq _ _ ⟨rfl, 0, ⟨Nat.zero_le _, fun k _ => ?_, fun h => absurd h (Nat.lt_irrefl 0)⟩, rfl⟩
          by_cases hk : k < ns.length
          · have := h2 k hk
            simpa using this
          · exact at0_out (by omega)
        · have e0 : given ns.length (fun i => !decide (at0 ns i = 0)) (fun i => V.int (i : Nat)) = l.map (fun i => V.int (i : Nat)) ++ [V.int (k : Nat)] := by unfold given; rw [h4, List.map_append]; rfl
          rw [e0] at hD1 ⊢
          rw [show (!(l.map (fun i => V.int (i : Nat)) ++ [V.int (k : Nat)]).isEmpty) = true by simp]
          walk_at "gos"
          refine u_ixL (sqL hD1) (atI_last _ _) ?_
          walk_at "gos"
          refine hq _ _ ⟨rfl, k + 1, ⟨h1, fun j hj => ?_, fun _ => ?_⟩, rfl⟩
          · by_cases hj2 : j < ns.length
            · have := h3 j (by omega) hj2
              simpa using this
            · exact at0_out (by omega)
          · rw [Nat.add_sub_cancel]
            simpa using h2
      · subst eH hv
        walk_at "gos"
        refine u_sl (e1.seq hx) fun p H2 hp e2 h2 => ?_
        rw [cut_to] at h2
        walk_at "gos"
        refine u_it (sqL h2) ?_
        have ht : (ns.map V.int).take m = (ns.take m).map V.int := (List.map_take ..).symm
        rw [ht] at h2
        have hD2 := e2 _ _ hD1
        refine for_it walk_list (fun i σ' H' => Same H2 H' ∧ ∃ x, σ' = [some (.ref a), some (.int u), none, x, some (.ref D), some (.int (m : Nat)), some (.int (gl u ((ns.take m).take i)))]) ?_ (fun i _ H' _ p => p.1.seq (sqL h2)) (fun i x σ' H' H3 hi p y => ?_) (fun σ' H' p => ?_)
        · exact ⟨Same.refl _, _, rfl⟩
        · obtain ⟨e3, x0, rfl⟩ := p
          obtain ⟨rfl, hy⟩ := y
          walk_at "gos"
          rw [List.getElem?_map] at hy
          obtain ⟨y, hy1, rfl⟩ := Option.map_eq_some_iff.mp hy
          refine ⟨_, _, rfl, ?_⟩
          walk_at "gos"
          refine ⟨e3, some (V.int y), ?_⟩
          rw [List.take_succ, hy1, Option.toList_some, gl_snoc]
        · obtain ⟨e3, x0, rfl⟩ := p
          have hl : ((ns.take m).map V.int).length = (ns.take m).length := List.length_map ..
          rw [hl, List.take_length]
          walk_at "gos"
          have e13 : Same H H' := e1.trans (e2.trans e3)
          refine u_sl (e13.seq hx) fun p2 H4 hp2 e4 h4 => ?_
          rw [cut_to, ht] at h4
          refine u_it (sqL h4) fun D2 hD2' => ?_
          have hgl : CDivX 0 (gl u (ns.take m)) := Bd.divX (n := 8000) (by have := gl_pos (xs := ns.take m) hu; omega) (hb.le (by have := gl_pos (xs := ns.take m) hu; have := gl_le (xs := ns.take m) hu; omega)) (by decide)
          refine lc_it walk_list (PvL H4 D2 (fun _ => true) (fun i => V.int ((at0 (ns.take m) i).fdiv (gl u (ns.take m))))) (lc_start hD2') (fun i H' _ p => p.1.seq (sqL h4)) (fun i x H5 H6 hi p y => ?_) (fun H5 p => ?_)
          · obtain ⟨rfl, hy⟩ := y
            obtain rfl := at_ints hy
            walk_at "gos"
            refine ⟨rfl, ?_⟩
            walk_at "gos"
            refine ⟨_, _, rfl, rfl, hgl, ?_⟩
            rw [hl] at hi
            have := List.length_take_le m ns
            exact lc_yes hD2' p (Same.refl _) rfl rfl (by rw [List.length_take] at hi; omega)
          · obtain ⟨e5, h5⟩ := p
            rw [hl, given_all] at h5
            walk_at "gos"
            refine u_tuple (sqL h5) fun t H7 ht7 e7 h7 => ?_
            walk_at "gos"
            refine ⟨_, _, rfl, rfl, hgl, ?_⟩
            walk_at "gos"
            refine g_newS fun p8 H8 hp8 e8 h8 => ?_
            refine q p8 t H8 ((ns.take m).map fun x => x.fdiv (gl u (ns.take m))) _ (e13.trans (e4.trans (e5.trans (e7.trans e8)))) h8 ?_ (form_made hu hm)
            rw [e8 _ _ h7]
            rw [range_map (ns.take m) fun x => V.int (x.fdiv (gl u (ns.take m))), List.map_map]
            rfl
end
end Ev

end
/-! == and != of an own class that has __eq__ alone, whatever it answers. -/
namespace PySem.W
open PySem PySem.Calls PyProof.Rows PyProof.V PySem.Spec PySem.Builtin
theorem one_slot : Slot "object" "__ne__" "object.__ne__" := Slot.of (T := "object") (name := "__ne__") (owner := "object") (n := "__ne__") (by rw [typeLookup_type, builtinLookup_eq_fast]; kernel_rfl) (by decide +kernel) (by decide +kernel) (by decide +kernel)
    (.inl (by decide +kernel)) (by rw [isSubtype_type]; kernel_rfl)
theorem one_bind (self : Value) : bindSpecial (.builtin "object.__ne__") self = pure (.builtin "object.__ne__", [self]) := one_slot.bind self
section
variable {prog : Program} {w : World} {A : Around} {E : Value → Shared → Prop} {s : Shared} {K : Frag} {x C L f : Addr} {h₀ : Heap} {m : Str → Option Value} {ox : Obj} {od : Option Obj} {b tb : Value}
theorem one_entry {Q : Fin → Shared → Prop} (hu : A.units < cLine) (X : K.In s.heap) (I : InstAt s.heap x ox C od) (hs : findIn K (.ref C) "__eq__" = some (some (.ref f))) (hf : isFn K (.ref f) = true)
    (h : wpAny (model prog w) A (call (.ref f) [.ref x, b]) (fun v s' => ∃ r, v = .bool r ∧ Q (.done (.ret (.bool (!r)))) s') E s) : wpAny (model prog w) A (Builtin.«object.__ne__» ⟨[.ref x, b], []⟩) Q E s := by
  unfold Builtin.«object.__ne__»
  repeat (first
    | with_reducible refine wpAny_cRoomFor hu ?_
    | (refine wpAny_bind (m := callSpecialIfBound? (.ref x) (Str.ofString "__eq__") [b])
        (ifBound_K X I hs hf (wpAny_mono h (fun r s' hr => by
          obtain ⟨b, rfl, hq⟩ := hr
          repeat (first | exact hq | exact wpAny_pure hq | exact wpAny_truthy_bool hq | (refine wpAny_bind (m := truthy (.bool _)) (wpAny_truthy_bool ?_)) | wp_step)) fun _ _ e => e)))
    | wp_step)
theorem ne_K {Q : Value → Shared → Prop} (hu : A.units + 1 < cLine) (F : Fr h₀ L s.heap m) (X₀ : K.In h₀) (I : InstAt s.heap x ox C od) (hb : Looks (model prog w) s.heap (typeOf b) tb) (hn : notFirst K C tb = true)
    (hne : findIn K (.ref C) "__ne__" = some (some (.builtin "object.__ne__"))) (hm : mroIn K C (.type "object") = some true) (hs : findIn K (.ref C) "__eq__" = some (some (.ref f))) (hf : isFn K (.ref f) = true)
    (h : wpAny (model prog w) A.in1 (call (.ref f) [.ref x, b]) (fun v s' => ∃ r, v = .bool r ∧ Q (.bool (!r)) s') E s) : wpAny (model prog w) A (richCompare .NotEq (.ref x) b) Q E s := by
  have X := X₀.keeps F.keep
  have sub : Looks (model prog w) s.heap (isInstance (.ref x) (.type "object")) true := I.type.andThen (looks_mroIn X hm)
  have one : wpAny (model prog w) A (tryCompare (.ref x) (cmpInfo .NotEq).2.1 b) (fun r s' => ∃ v, r = some v ∧ Q v s') E s := by
    unfold tryCompare
    refine wpAny_bind ?_
    simp only [callSpecialIfBound?, bindSpecialIfBound?]
    refine wpAny_holding (wpAny_bind (wpAny_bind (wpAny_bind (I.type.here ((looks_findIn X hne).here ?_)))))
    have fin : wpAny (model prog w) A (call (.builtin "object.__ne__") ([.ref x] ++ [b]) >>= fun v => pure (some v)) (fun r s' => wpAny (model prog w) A (match r with | some .notImplemented | none => pure none | some v => pure (some v)) (fun r s' => ∃ v, r = some v ∧ Q v s') E s') E s := by
      refine wpAny_bind (wpAny_call (codeAny_call_builtin one_slot.plain PySem.F.cmpEntry_ne (@check_slot (model prog w) _ _ s "object.__ne__" "object" "__ne__" (.ref x) [b] [] _ PySem.F.cmpKind_ne PySem.F.cmpSplit_ne sub (PySem.F.cmpArgs_ne _ _) (one_entry hu X I hs hf (wpAny_mono h (fun v s' z => ?_) fun _ _ e => e)))))
      obtain ⟨r, hr, q⟩ := z
      refine ⟨r, hr, wpAny_pure (wpAny_pure ⟨_, rfl, q⟩)⟩
    refine wpAny_bind (wpAny_askSetting (wpAny_ite ?_))
    split
    · exact wpAny_bind (by rw [one_bind]; exact wpAny_pure (wpAny_pure (by exact fin)))
    · exact wpAny_tryCatch (wpAny_bind (by rw [one_bind]; exact wpAny_pure (wpAny_pure (by exact fin))))
  unfold richCompare
  simp only [oneThing_ref]
  refine wpAny_holding (wpAny_bind (wpAny_cRoomFor (Nat.lt_of_succ_lt hu) ?_))
  refine wpAny_bind (I.type.here (wpAny_bind (hb.here ?_)))
  split
  · rename_i q
    have e : subIn K tb (.ref C) = some false := by
      rcases Bool.or_eq_true_iff.mp hn with e | e
      · rw [beq_iff_eq.mp e] at q; simp at q
      · exact beq_iff_eq.mp e
    refine wpAny_bind ((looks_subIn X e).here ?_)
    simp only [Bool.false_eq_true, if_false]
    refine wpAny_bind (wpAny_mono one (fun r s' z => ?_) fun _ _ e => e)
    obtain ⟨v, rfl, hq⟩ := z
    exact wpAny_pure hq
  · refine wpAny_bind (wpAny_pure ?_)
    simp only [Bool.false_eq_true, if_false]
    refine wpAny_bind (wpAny_mono one (fun r s' z => ?_) fun _ _ e => e)
    obtain ⟨v, rfl, hq⟩ := z
    exact wpAny_pure hq
end
end PySem.W

/-! x == y, x != y where x is of an own class with __eq__ alone; whatever it answers. -/
namespace L2
open PySem PySem.Spec PyProof.Rows
/-- the special method m of the class at C -/
structure OwnF (P : Program) (w : World) (K : PySem.W.Frag) (mg : Str → Option Value) (base : Heap) (C : Addr) (m : Str) (ps : List Str) (k : Nat) (sp : Sp) : Prop where
  ex : ∃ f fd, FnOk P w K mg base (L2.CX P w) k f fd ps sp ∧ PySem.W.findIn K (.ref C) m = some (some (.ref f)) ∧ PySem.W.isFn K (.ref f) = true ∧ Binds K fd ps []
/-- the class has no != of its own -/
structure NoNe (K : PySem.W.Frag) (C : Addr) : Prop where
  ne : PySem.W.findIn K (.ref C) "__ne__" = some (some (.builtin "object.__ne__"))
  ob : PySem.W.mroIn K C (.type "object") = some true
def rOwn (K : PySem.W.Frag) (C : Addr) (sp : Sp) (E : XK) (neg : Bool) : R2 := fun x y H Q => ∃ a dx fs t, x = .ref a ∧ H a = some (.ins C dx fs) ∧ TyX K H y t ∧ PySem.W.notFirst K C t = true ∧ sp [x, y] H (fun v H' => ∃ r, v = .bl r ∧ Q (.bl (if neg then !r else r)) H') E
section
variable {X : Cx} {C f : Addr} {fd : FuncData} {ps : List Str} {n : Nat} {sp : Sp} {E : XK}
/-- a method of two runs below the body -/
theorem run_two {A : Around} {pins : List (Addr × Obj)} {σ : St} {H : Hp} {s : Shared} {Q : VK} {x y : V} {u v : Value} (F : FnOk X.prog X.w X.K X.mg X.base (L2.CX X.prog X.w) n f fd ps sp) (sb : Sub X n A) (hb : Binds X.K fd ps []) (hx : Passes (L2.CX X.prog X.w) X E)
    (I : Inv X pins σ H s) (r1 : RelV x u) (r2 : RelV y v) (h : sp [x, y] H Q E) : wpAny (model X.prog X.w) A (call (.ref f) [u, v]) (EP X pins σ Q) X.xe s := by
  have e0 : Env0 X.prog X.w X.K X.mg X.base A X.stack s H := by
    have e := I.env0
    exact ⟨by rw [sb.fr]; exact e.frames, e.mod, e.bs, e.bsz, e.funs, e.frf, e.hok, e.bare⟩
  have hl := F.len _ _ _ _ h
  have rr : Vals [x, y] [u, v] := .cons r1 (.cons r2 .nil)
  refine wpAny_call (codeAny_mono (F.run A X.stack s H ⟨[u, v], []⟩ [u, v] [x, y] _ E sb.room e0 (by
    have := hb s [u, v] I.kIn (by simpa using hl)
    simpa using this) rr h) fun r s' hq => ?_)
  cases r with
  | error e => exact hx pins σ H s e s' I hq
  | ok fl =>
    cases fl with
    | ret w => exact I.after hq
    | next => exact False.elim hq
    | brk => exact False.elim hq
    | cont => exact False.elim hq
theorem op_ownEq (G : OwnF X.prog X.w X.K X.mg X.base C "__eq__" ps n sp) (hr : Room n X.A) (hx : Passes (L2.CX X.prog X.w) X E) : OpR X (compareOp .Eq) (rOwn X.K C sp E false) := by
  intro pins s σ H x y v u Q I rx ry hq
  obtain ⟨f, fd, F, hs, hf, hb⟩ := G.ex
  obtain ⟨a, dx, fs, t, rfl, ha, ty, hn, q⟩ := hq
  obtain ⟨P, Z, p, _⟩ := kit_of I ry ty
  cases rx
  obtain ⟨mA, J, _⟩ := ins_get I.hok ha
  obtain ⟨od, J, _⟩ := J.look
  obtain ⟨m, hF⟩ := I.fr
  show wpAny (model X.prog X.w) X.A (richCompare .Eq (.ref a) u) (EP X pins σ Q) X.xe s
  refine PySem.W.cmp_K (op := .Eq) (tb := t) hr.units0 hF I.ok.mod.kin J (Z.ty _ _ I.kIn p) hn hs hf ?_
  refine wpAny_mono (run_two F ⟨hr, rfl⟩ hb hx I (x := .ref a) (u := .ref a) rfl ry q) (fun r s' z => ?_) fun _ _ e => e
  obtain ⟨z, H', I', rz, b, rfl, q'⟩ := z
  cases rz
  exact ⟨.bl b, H', I', rfl, q'⟩
theorem op_ownNe (G : OwnF X.prog X.w X.K X.mg X.base C "__eq__" ps n sp) (N : NoNe X.K C) (hr : Room (n + 1) X.A) (hx : Passes (L2.CX X.prog X.w) X E) : OpR X (compareOp .NotEq) (rOwn X.K C sp E true) := by
  intro pins s σ H x y v u Q I rx ry hq
  obtain ⟨f, fd, F, hs, hf, hb⟩ := G.ex
  obtain ⟨a, dx, fs, t, rfl, ha, ty, hn, q⟩ := hq
  obtain ⟨P, Z, p, _⟩ := kit_of I ry ty
  cases rx
  obtain ⟨mA, J, _⟩ := ins_get I.hok ha
  obtain ⟨od, J, _⟩ := J.look
  obtain ⟨m, hF⟩ := I.fr
  show wpAny (model X.prog X.w) X.A (richCompare .NotEq (.ref a) u) (EP X pins σ Q) X.xe s
  have sb : Sub X n X.A.in1 := Sub.in1 ⟨hr, rfl⟩
  refine PySem.W.ne_K (tb := t) (by have := sb.room.units0; exact this) hF I.ok.mod.kin J (Z.ty _ _ I.kIn p) hn N.ne N.ob hs hf ?_
  refine wpAny_mono (run_two F sb hb hx I (x := .ref a) (u := .ref a) rfl ry q) (fun r s' z => ?_) fun _ _ e => e
  obtain ⟨z, H', I', rz, b, rfl, q'⟩ := z
  cases rz
  exact ⟨b, rfl, .bl (!b), H', I', rfl, q'⟩
end
end L2

section
open L2 in
local macro_rules | `(tactic| walk_at "gx") => `(tactic| first
  | ((with_reducible show tVar _ _ _ _); refine g_var rfl ?_)
  | with_reducible refine g_c ?_
  | with_reducible refine g_op ?_
  | with_reducible refine g_cons ?_
  | with_reducible refine g_nil ?_
  | with_reducible refine g_test ?_
  | with_reducible refine g_blp ?_
  | with_reducible refine g_asg ?_
  | (with_reducible refine g_name ?_; (try simp only [List.set_cons_zero, List.set_cons_succ]))
  | with_reducible refine g_call ?_
  | with_reducible refine g_cb ?_
  | with_reducible refine g_I0 ?_
  | with_reducible refine g_U ?_
  | with_reducible refine g_eqI ?_
  | with_reducible refine g_neI ?_
  | with_reducible refine g_if ?_
  | with_reducible refine g_ret ?_
  | with_reducible refine g_retN ?_
  | with_reducible refine g_next ?_
  | with_reducible refine g_drop ?_
  | with_reducible refine g_un ?_
  | with_reducible refine g_tb ?_
  | with_reducible refine g_tup ?_
  | with_reducible refine g_lst ?_
  | with_reducible refine g_and ?_
  | with_reducible refine g_or ?_
  | with_reducible refine g_not ?_
  | with_reducible refine g_andV ?_
  | with_reducible refine g_orV ?_
  | with_reducible refine g_notV ?_
  | with_reducible refine g_ifE ?_
  | with_reducible refine g_fld ?_
  | with_reducible refine g_tt ?_
  | with_reducible refine g_ff ?_
  | with_reducible refine g_ntt ?_
  | with_reducible refine g_nff ?_
  | with_reducible refine g_for ?_
  | with_reducible refine g_list ?_
  | with_reducible refine g_tupI ?_
  | with_reducible refine g_rng1 ?_
  | with_reducible refine g_rng2 ?_
  | with_reducible refine g_enumA ?_
  | with_reducible refine g_rev ?_
  | with_reducible refine g_lc ?_
  | with_reducible refine g_gcons ?_
  | with_reducible refine g_gnil ?_
  | with_reducible refine g_yes ?_
  | with_reducible refine g_sl ?_
  | with_reducible refine g_nopart ?_
  | with_reducible refine g_part ?_
  | with_reducible refine g_int ?_
  | with_reducible refine g_dget ?_
  | with_reducible refine g_dput ?_
  | with_reducible refine g_raiseX ?_
  | with_reducible refine g_tru ?_
  | with_reducible refine g_sub ?_
  | with_reducible refine g_isN ?_
  | with_reducible refine g_notN ?_
  | with_reducible refine g_bm ?_
  | with_reducible refine L2.g_bm0 ?_
  | with_reducible refine g_pair ?_
  | with_reducible refine g_pair0 ?_
  | with_reducible refine u_int1 ?_
  | with_reducible refine g_chain ?_
  | with_reducible refine L2.g_sfld ?_
  | (with_reducible refine g_par3 ?_)
  | (with_reducible refine g_three ?_; (try simp only [List.set_cons_zero, List.set_cons_succ]))
  | ((with_reducible apply L2.g_tupT); walk_at "up"; rfl)
  | (with_reducible refine g_par ?_)
  | (with_reducible refine g_two ?_; (try simp only [List.set_cons_zero, List.set_cons_succ]))
  )
local macro_rules | `(tactic| walk_at "go") => `(tactic| first | walk_at "gx" | with_reducible refine L2.g_seq ?_)
local macro_rules | `(tactic| walk_at "gou") => `(tactic| repeat (walk_at "gx"))
local macro_rules | `(tactic| walk_at "gos") => `(tactic| repeat (walk_at "go"))
local macro_rules | `(tactic| walk_at "sl") => `(tactic| first
  | assumption
  | exact L2.Same.l (by assumption)
  | exact L2.SameD.l (by assumption)
  | exact L2.extN_l (by assumption))
local macro_rules | `(tactic| walk_at "up") => `(tactic| first
  | assumption
  | ((with_reducible apply L2.SameL.lst); walk_at "sl"; walk_at "up")
  | ((with_reducible apply L2.SameL.tupA); walk_at "sl"; walk_at "up")
  | ((with_reducible apply L2.SameL.ins); walk_at "sl"; walk_at "up")
  | ((with_reducible apply Ev.PB.l); walk_at "sl"; walk_at "up")
  | ((with_reducible apply Ev.IsP.l); walk_at "sl"; walk_at "up")
  | ((with_reducible apply L2.sqL); walk_at "up")
  | ((with_reducible apply L2.sqT); walk_at "up")
  | ((with_reducible apply L2.SameL.seq); walk_at "sl"; walk_at "up")
  | ((with_reducible apply Ev.Pen.same); assumption; walk_at "up")
  | ((with_reducible apply Ev.Pen.extN); assumption; walk_at "up")
  | ((with_reducible apply L2.tabs_s); assumption; walk_at "up")
  | ((with_reducible apply L2.tabs_dd); assumption; walk_at "up")
  | ((with_reducible apply Or.inl); walk_at "up")
  | ((with_reducible apply Or.inr); walk_at "up"))
local macro_rules | `(tactic| walk_at "new") => `(tactic| (
  first
    | refine ⟨L2.size_ok (by rfl), fun p hp => ?_⟩
    | refine fun p hp => ?_
  generalize hX : L2.upd _ p _ = H1
  obtain ⟨e, h⟩ := L2.news hp hX
  clear hX))
local macro_rules | `(tactic| walk_at "o") => `(tactic| first
  | ((with_reducible apply Ev.o_add); walk_at "up"; walk_at "up"; rfl; rfl; rfl)
  | ((with_reducible apply Ev.o_sub); walk_at "up"; walk_at "up"; rfl; rfl; rfl)
  | ((with_reducible apply Ev.o_mul); walk_at "up"; walk_at "up"; rfl; rfl; rfl)
  | ((with_reducible apply Ev.o_addI); walk_at "up"; assumption; rfl; rfl; rfl)
  | ((with_reducible apply Ev.o_subI); walk_at "up"; assumption; rfl; rfl; rfl)
  | ((with_reducible apply Ev.o_mulI); walk_at "up"; assumption; rfl; rfl; rfl)
  | ((with_reducible apply Ev.o_radd); walk_at "up"; assumption; rfl; rfl; rfl)
  | ((with_reducible apply Ev.o_rsub); walk_at "up"; assumption; rfl; rfl; rfl)
  | ((with_reducible apply Ev.o_rmul); walk_at "up"; assumption; rfl; rfl; rfl)
  | ((with_reducible apply Ev.o_neg); walk_at "up"; rfl; rfl; rfl))
local macro_rules | `(tactic| walk_at "eq") => `(tactic| ((with_reducible apply Ev.u_ownB); assumption; walk_at "up"; walk_at "up"; (focus (intro k; first | rfl | exact Pl.e_add | exact Pl.e_sub | exact Pl.e_mul | exact Pl.e_rsub | exact Pl.e_rsub2))))
local macro_rules | `(tactic| walk_at "isp") => `(tactic| (apply Ev.u_isB; walk_at "up"; walk_at "up"; rfl; rfl))

/-! Piece(row, under), == -/
namespace Ev
open PySem PySem.Spec PyProof.Rows L2 Pl
/-- the piece at x -/
def IsP (H : Hp) (x C : Addr) (rs : List Int) (u : Int) : Prop := ∃ dx t, H x = some (.ins C dx [("row", .ref t), ("under", .int u)]) ∧ H t = some (.tup (rs.map V.int))
theorem IsP.same {H H' : Hp} {x C : Addr} {rs : List Int} {u : Int} (e : Same H H') : IsP H x C rs u → IsP H' x C rs u := fun ⟨dx, t, h1, h2⟩ => ⟨dx, t, e _ _ h1, e _ _ h2⟩
theorem IsP.sameD {H H' : Hp} {x C : Addr} {rs : List Int} {u : Int} (e : SameD H H') : IsP H x C rs u → IsP H' x C rs u := fun ⟨dx, t, h1, h2⟩ => ⟨dx, t, e.ins h1, e.tupA h2⟩
/-- what the arguments are -/
structure ArgP (K : PySem.W.Frag) (H : Hp) (a : Addr) (un : V) (xs : List V) (kd : Nat → Bool) (ku : Bool) : Prop where
  sq : SqL K H a xs ∨ SqT K H a xs
  kinds : ∀ i x, xs[i]? = some x → Kd K H x (kd i)
  kdu : Kd K H un ku
  nums : (∀ i, i < xs.length → kd i = true) → ∃ ns : List Int, xs = ns.map V.int
  num : ku = true → ∃ u : Int, un = .int u
  len : xs.length < 100000
theorem ArgP.same {K : PySem.W.Frag} {H H' : Hp} {a : Addr} {un : V} {xs : List V} {kd : Nat → Bool} {ku : Bool} (e : Same H H') (h : ArgP K H a un xs kd ku) : ArgP K H' a un xs kd ku :=
  ⟨h.sq.elim (fun q => .inl (e.seq q)) (fun q => .inr (e.tup q)), fun i x hx => (h.kinds i x hx).same e, h.kdu.same e, h.nums, h.num, h.len⟩
/-- what is raised -/
structure ExcP (CR CU : Addr) (H : Hp) (un : V) (n : Nat) (kd : Nat → Bool) (ku : Bool) (E : XK) : Prop where
  row : ∀ i, i < n → kd i = false → (∀ j, j < i → kd j = true) → ∀ H', Exc1 H H' CR "index" (.int (i : Nat)) E
  under : (∀ i, i < n → kd i = true) → (ku = false ∨ ∃ u : Int, un = .int u ∧ u < 1) → ∀ H', Exc1 H H' CU "under" un E
def spPiece (K : PySem.W.Frag) (C CR CU : Addr) : Sp := fun vs H Q E => ∃ (a : Addr) (un : V) (xs : List V) (kd : Nat → Bool) (ku : Bool), vs = [.ref a, un] ∧ ArgP K H a un xs kd ku ∧ ExcP CR CU H un xs.length kd ku E ∧
  ∀ (ns : List Int) (u : Int), (∀ i, i < xs.length → kd i = true) → xs = ns.map V.int → un = .int u → 1 ≤ u → Bd 8000 u ∧ ∀ x H' rs u', H x = none → Same H H' → IsP H' x C rs u' → FormOf ns u rs u' → Q (.ref x) H'
def spPieceInit (K : PySem.W.Frag) (C CR CU : Addr) : Sp := fun vs H Q E => ∃ (x dx a : Addr) (un : V) (xs : List V) (kd : Nat → Bool) (ku : Bool), vs = [.ref x, .ref a, un] ∧ H x = some (.ins C dx []) ∧ ArgP K H a un xs kd ku ∧ ExcP CR CU H un xs.length kd ku E ∧
  ∀ (ns : List Int) (u : Int), (∀ i, i < xs.length → kd i = true) → xs = ns.map V.int → un = .int u → 1 ≤ u → Bd 8000 u ∧ ∀ H' rs u', (∀ b o, b ≠ x → H b = some o → H' b = some o) → IsP H' x C rs u' → FormOf ns u rs u' → Q .non H'
section
variable {P : Program} {w : World} {K : PySem.W.Frag} {mg : Str → Option Value} {base : Heap}
theorem sc_Piece___init__ : FnScope ["self", "row", "under"] ["self", "row", "under"] (defScope (inClass (topS 18) 0)) := ⟨rfl, rfl, rfl, by decide +kernel, rfl, by decide +kernel, by decide +kernel⟩
theorem ok_Piece_init {C CR CU : Addr} (B : Bn mg) (c_Piece : Cls K C) (n_row : NoAttr K C "row") (n_under : NoAttr K C "under") (X_BadUnder : ExT P K mg "BadUnder" CU ["under"])
    (G_is_integer : CallF P w K mg base "is_integer" ["value"] 1 (spIsInteger K)) (G_need_integers : CallF P w K mg base "need_integers" ["row"] 3 (spNeed K CR)) (G_least_form : CallF P w K mg base "least_form" ["row", "under"] 3 (spLeast K))
    {f : Addr} {fd : FuncData} (F : FunD K "__init__" "Piece.__init__" (defArgs (inClass (topS 18) 0)) (defBody (inClass (topS 18) 0)) (defScope (inClass (topS 18) 0)) [.int 1] [] f fd) : FnOk P w K mg base (L2.CX P w) 5 f fd ["self", "row", "under"] (spPieceInit K C CR CU) := by
  have nd := sc_Piece___init__.nd
  refine F.ok sc_Piece___init__ (fun vs H Q E h => ?_) (fun cdv A outer s H vs Q E hr h => ?_)
  · obtain ⟨x, dx, a, un, xs, kd, ku, rfl, _⟩ := h
    rfl
  · refine ⟨_, (pss_cons (ps_expr (pe_callF G_need_integers (hr.mono (by decide)) rfl (passes_call (takes_of rfl rfl rfl rfl) (fun _ _ _ _ h => h)) (pa_cons (pv 1) pa_nil)))
      (pss_cons (ps_if (PW.pt (pw_or (pt_not (pt_val (pe_callF G_is_integer (hr.mono (by decide)) rfl passL (pa_cons (pv 2) pa_nil)))) (pw_or1 (pt_cmpR op_lt (pv 2) pe_int (nomark _))))) (pss_one (ps_raiseX rfl X_BadUnder hr (takes_of rfl rfl rfl rfl) (pa_cons (pv 2) pa_nil))) pss_nil)
      (pss_one (ps_asg (pe_callF G_least_form (hr.mono (by decide)) rfl passL (pa_cons (pe_callTy (call_lstK (K := K) rfl) (by rfl) B.list_ (by decide +kernel) (pa_cons (pv 1) pa_nil)) (pa_cons (pv 2) pa_nil))) (pg_tupK (K := K) (n := 2) rfl rfl (pgs_cons (pg_fldK (K := K) rfl (pv 0)) (pgs_cons (pg_fldK (K := K) rfl (pv 0)) pgs_nil))))))), ?_⟩
    obtain ⟨x, dx, a, un, xs, kd, ku, rfl, hx, ha, he, q⟩ := h
    refine g_st (σ' := [some (.ref x), some (.ref a), some un]) rfl ?_
    walk_at "gos"
    refine ⟨a, xs, kd, rfl, ha.sq, ha.kinds, fun hall H1 e1 => ?_, he.row⟩
    have a1 := ha.same e1
    walk_at "gos"
    refine ⟨un, ku, rfl, a1.kdu, ?_⟩
    walk_at "gos"
    refine g_itn' (fun hb => ?_) (fun hb => ?_)
    · walk_at "gos"
      exact u_raise rfl (by decide) fun d H3 _ e3 hd => he.under hall (.inl hb) H3 (e1.trans e3) d hd
    · obtain ⟨u, rfl⟩ := ha.num hb
      obtain ⟨ns, rfl⟩ := ha.nums hall
      walk_at "gos"
      refine g_itd (fun hp => ?_) (fun hp => ?_)
      · walk_at "gos"
        exact u_raise rfl (by decide) fun d H3 _ e3 hd => he.under hall (.inr ⟨u, rfl, hp⟩) H3 (e1.trans e3) d hd
      · obtain ⟨hbd, q⟩ := q ns u hall rfl rfl (by omega)
        walk_at "gos"
        refine u_list a1.sq fun p H2 hp2 e2 h2 => ?_
        walk_at "gos"
        refine ⟨p, ns, u, rfl, sqL h2, by omega, hbd, by have := ha.len; rwa [List.length_map] at this, fun p3 t H3 rs u' e3 h3 ht hf => ?_⟩
        have e123 := e1.trans (e2.trans e3)
        refine g_tupT (sqT h3) rfl ?_
        walk_at "gos"
        have hx3 := e123 _ _ hx
        have htx : t ≠ x := fun z => by rw [z, hx3] at ht; cases ht
        refine u_gfld rfl hx3 c_Piece n_row ?_
        walk_at "gos"
        refine u_gfld rfl upd_same c_Piece n_under ?_
        walk_at "gos"
        refine q _ rs u' (fun b o hb hb2 => ?_) ⟨dx, t, upd_same, ?_⟩ hf
        · rw [upd_ne hb, upd_ne hb]
          exact e123 _ _ hb2
        · rw [upd_ne htx, upd_ne htx]
          exact ht
theorem binds_Piece3 {f : Addr} {fd : FuncData} (F : FunD K "__init__" "Piece.__init__" (defArgs (inClass (topS 18) 0)) (defBody (inClass (topS 18) 0)) (defScope (inClass (topS 18) 0)) [.int 1] [] f fd) : Binds K fd ["self", "row", "under"] [] := by
  obtain ⟨ds, h1, h2⟩ := F.binds1 (ps := ["self", "row", "under"]) 3 1 (fun z => by cases z) rfl (fun T kV doc pm an cdv ct us its hl hl2 => match us, its, hl, hl2 with | [_, _, _], [_], _, _ => ⟨_, rfl, rfl⟩)
  cases h1
  exact h2
theorem binds_Piece2 {f : Addr} {fd : FuncData} (F : FunD K "__init__" "Piece.__init__" (defArgs (inClass (topS 18) 0)) (defBody (inClass (topS 18) 0)) (defScope (inClass (topS 18) 0)) [.int 1] [] f fd) : ∃ ds, Vals [.int 1] ds ∧ Binds K fd ["self", "row", "under"] ds :=
  F.binds1 (ps := ["self", "row", "under"]) 2 0 (fun z => by cases z) rfl (fun T kV doc pm an cdv ct us its hl hl2 => match us, its, hl, hl2 with | [_, _], [_], _, _ => ⟨_, rfl, rfl⟩)
/-- Piece(..) by its promise -/
theorem make_Piece {C CR CU : Addr} {f : Addr} {fd : FuncData} (Fn : FnOk P w K mg base (L2.CX P w) 5 f fd ["self", "row", "under"] (spPieceInit K C CR CU)) (M : Mk K C f) (hC : mg "Piece" = some (.ref C)) (hb : Binds K fd ["self", "row", "under"] []) :
    MakeF P w K mg base "Piece" C 5 (spPiece K C CR CU) := by
  refine ⟨f, fd, _, _, [], [], Fn, M, hC, hb, .nil, fun vs H Q E h => ?_⟩
  obtain ⟨a, un, xs, kd, ku, rfl, ha, he, q⟩ := h
  intro x dx hx hdx hne
  have es : Same H (upd (upd H dx (.own x)) x (.ins C dx [])) := (same_new hdx).trans (same_new (by rw [upd_ne (Ne.symm hne)]; exact hx))
  refine ⟨x, dx, a, un, xs, kd, ku, rfl, upd_same, ha.same es, ⟨fun i h1 h2 h3 H' e' d hd => he.row i h1 h2 h3 H' (es.trans e') d hd, fun h1 h2 H' e' d hd => he.under h1 h2 H' (es.trans e') d hd⟩, fun ns u h1 h2 h3 h4 => ?_⟩
  obtain ⟨q1, q2⟩ := q ns u h1 h2 h3 h4
  refine ⟨q1, fun H' rs u' hk hp hf => ⟨rfl, q2 x H' rs u' hx (fun b o hb => ?_) hp hf⟩⟩
  exact hk b o (ne_of_none hb hx) (es b o hb)
theorem make_Piece1 {C CR CU : Addr} {f : Addr} {fd : FuncData} (Fn : FnOk P w K mg base (L2.CX P w) 5 f fd ["self", "row", "under"] (spPieceInit K C CR CU)) (M : Mk K C f) (hC : mg "Piece" = some (.ref C)) {ds : List Value} (hb : Binds K fd ["self", "row", "under"] ds) (hd : Vals [.int 1] ds) :
    MakeF P w K mg base "Piece" C 5 (fun vs H Q E => ∃ a : Addr, vs = [.ref a] ∧ spPiece K C CR CU [.ref a, .int 1] H Q E) := by
  refine ⟨f, fd, _, _, [.int 1], ds, Fn, M, hC, hb, hd, fun vs H Q E h => ?_⟩
  obtain ⟨a0, rfl, a, un, xs, kd, ku, e0, ha, he, q⟩ := h
  obtain ⟨rfl, rfl⟩ : a0 = a ∧ V.int 1 = un := by cases e0; exact ⟨rfl, rfl⟩
  intro x dx hx hdx hne
  have es : Same H (upd (upd H dx (.own x)) x (.ins C dx [])) := (same_new hdx).trans (same_new (by rw [upd_ne (Ne.symm hne)]; exact hx))
  refine ⟨x, dx, a0, _, xs, kd, ku, rfl, upd_same, ha.same es, ⟨fun i h1 h2 h3 H' e' d hd => he.row i h1 h2 h3 H' (es.trans e') d hd, fun h1 h2 H' e' d hd => he.under h1 h2 H' (es.trans e') d hd⟩, fun ns u h1 h2 h3 h4 => ?_⟩
  obtain ⟨q1, q2⟩ := q ns u h1 h2 h3 h4
  refine ⟨q1, fun H' rs u' hk hp hf => ⟨rfl, q2 x H' rs u' hx (fun b o hb => ?_) hp hf⟩⟩
  exact hk b o (ne_of_none hb hx) (es b o hb)
/-! == -/
theorem isP_ty {H : Hp} {x C : Addr} {rs : List Int} {u : Int} (h : IsP H x C rs u) (cl : Cls K C) (ha : PySem.W.findIn K (.ref C) "__class__" = some (some (.builtin "object.__class__")))
    (hn : PySem.W.specialIn K (.builtin "object.__class__") "__get__" = some (some (.builtin "getset_descriptor.__get__"))) (htk : PySem.W.takesIn K (.builtin "object.__class__") = some true)
    (hm : PySem.W.mroIn K C (.type "object") = some true) : TyX K H (.ref x) (.ref C) := let ⟨_, _, h1, _⟩ := h; .base (.ins h1 cl ha hn htk hm)
/-- the other is a piece, or a value whose type is not Piece -/
def spEqP (K : PySem.W.Frag) (C : Addr) : Sp := fun vs H Q _ => ∃ (x : Addr) (y : V) (rs : List Int) (u : Int), vs = [.ref x, y] ∧ IsP H x C rs u ∧
  ((∃ (z : Addr) (rs' : List Int) (u' : Int), y = .ref z ∧ IsP H z C rs' u' ∧ Q (.bl (decide (rs = rs') && decide (u = u'))) H) ∨ (∃ t, TyX K H y t ∧ PySem.W.kitOne K t (.ref C) = some false ∧ Q (.bl false) H))
theorem sc_Piece___eq__ : FnScope ["self", "other"] ["self", "other"] (defScope (inClass (topS 18) 2)) := ⟨rfl, rfl, rfl, by decide +kernel, rfl, by decide +kernel, by decide +kernel⟩
theorem ok_Piece_eq {C_Piece : Addr} (B : Bn mg) (c_Piece : Cls K C_Piece) (n_row : NoAttr K C_Piece "row") (n_under : NoAttr K C_Piece "under") (g_Piece : mg "Piece" = some (.ref C_Piece)) (hy : ∀ H x rs u, IsP H x C_Piece rs u → TyX K H (.ref x) (.ref C_Piece)) (hi : PySem.W.kitOne K (.ref C_Piece) (.ref C_Piece) = some true)
    {f : Addr} {fd : FuncData} (F : Fun K "__eq__" "Piece.__eq__" (inClass (topS 18) 2) f fd) : FnOk P w K mg base (L2.CX P w) 3 f fd ["self", "other"] (spEqP K C_Piece) := by
  have nd := sc_Piece___eq__.nd
  refine F.okX sc_Piece___eq__ (fun vs H Q E h => ?_) (fun cdv A outer s H vs Q E hr h => ?_)
  · obtain ⟨x, y, rs, u, rfl, _⟩ := h
    rfl
  · refine ⟨_, (pss_one (ps_ret (pe_and (pe_callB (call_isiK' (K := K) rfl) (by rfl) B.isinstance (by decide +kernel) (pa_cons (pv 1) (pa_cons (pe_glob (v := .ref C_Piece) rfl g_Piece rfl) pa_nil))) (pe_and (pe_cmpR (op_eqDK (K := K) rfl hr.units) (pe_fldK (K := K) rfl (pv 0) rfl) (pe_fldK (K := K) rfl (pv 1) rfl) (nomark _)) (pe_one (pe_cmpR op_eq (pe_fldK (K := K) rfl (pv 0) rfl) (pe_fldK (K := K) rfl (pv 1) rfl) (nomark _))))))), ?_⟩
    obtain ⟨x, y, rs, u, rfl, ⟨dx, t, hx, ht⟩, q⟩ := h
    refine g_st (σ' := [some (.ref x), some y]) rfl ?_
    walk_at "gos"
    rcases q with ⟨z, rs', u', rfl, hz, q⟩ | ⟨t', ht', hk, q⟩
    · refine u_isi (.own C_Piece) (hy _ _ _ _ hz) hi ?_
      obtain ⟨dz, tz, hz1, hz2⟩ := hz
      walk_at "gos"
      refine u_tfld rfl hx c_Piece n_row rfl ?_
      refine u_tfld rfl hz1 c_Piece n_row rfl ?_
      refine u_eqT (sqT ht) (sqT hz2) ?_
      refine ⟨_, rfl, g_itd (fun h1 => ?_) (fun h1 => ?_)⟩
      · walk_at "go"
        refine u_tfld rfl hx c_Piece n_under rfl ?_
        refine u_tfld rfl hz1 c_Piece n_under rfl ?_
        walk_at "gos"
        rw [decide_eq_true h1, Bool.true_and] at q
        exact q
      · rw [decide_eq_false h1, Bool.false_and] at q
        exact q
    · refine u_isi (.own C_Piece) ht' hk ?_
      walk_at "gos"
      exact q
end
end Ev

end
section
open L2 in
local macro_rules | `(tactic| walk_at "gx") => `(tactic| first
  | ((with_reducible show tVar _ _ _ _); refine g_var rfl ?_)
  | with_reducible refine g_c ?_
  | with_reducible refine g_op ?_
  | with_reducible refine g_cons ?_
  | with_reducible refine g_nil ?_
  | with_reducible refine g_test ?_
  | with_reducible refine g_blp ?_
  | with_reducible refine g_asg ?_
  | (with_reducible refine g_name ?_; (try simp only [List.set_cons_zero, List.set_cons_succ]))
  | with_reducible refine g_call ?_
  | with_reducible refine g_cb ?_
  | with_reducible refine g_I0 ?_
  | with_reducible refine g_U ?_
  | with_reducible refine g_eqI ?_
  | with_reducible refine g_neI ?_
  | with_reducible refine g_if ?_
  | with_reducible refine g_ret ?_
  | with_reducible refine g_retN ?_
  | with_reducible refine g_next ?_
  | with_reducible refine g_drop ?_
  | with_reducible refine g_un ?_
  | with_reducible refine g_tb ?_
  | with_reducible refine g_tup ?_
  | with_reducible refine g_lst ?_
  | with_reducible refine g_and ?_
  | with_reducible refine g_or ?_
  | with_reducible refine g_not ?_
  | with_reducible refine g_andV ?_
  | with_reducible refine g_orV ?_
  | with_reducible refine g_notV ?_
  | with_reducible refine g_ifE ?_
  | with_reducible refine g_fld ?_
  | with_reducible refine g_tt ?_
  | with_reducible refine g_ff ?_
  | with_reducible refine g_ntt ?_
  | with_reducible refine g_nff ?_
  | with_reducible refine g_for ?_
  | with_reducible refine g_list ?_
  | with_reducible refine g_tupI ?_
  | with_reducible refine g_rng1 ?_
  | with_reducible refine g_rng2 ?_
  | with_reducible refine g_enumA ?_
  | with_reducible refine g_rev ?_
  | with_reducible refine g_lc ?_
  | with_reducible refine g_gcons ?_
  | with_reducible refine g_gnil ?_
  | with_reducible refine g_yes ?_
  | with_reducible refine g_sl ?_
  | with_reducible refine g_nopart ?_
  | with_reducible refine g_part ?_
  | with_reducible refine g_int ?_
  | with_reducible refine g_dget ?_
  | with_reducible refine g_dput ?_
  | with_reducible refine g_raiseX ?_
  | with_reducible refine g_tru ?_
  | with_reducible refine g_sub ?_
  | with_reducible refine g_isN ?_
  | with_reducible refine g_notN ?_
  | with_reducible refine g_bm ?_
  | with_reducible refine L2.g_bm0 ?_
  | with_reducible refine g_pair ?_
  | with_reducible refine g_pair0 ?_
  | with_reducible refine u_int1 ?_
  | with_reducible refine g_chain ?_
  | with_reducible refine L2.g_sfld ?_
  | (with_reducible refine g_par3 ?_)
  | (with_reducible refine g_three ?_; (try simp only [List.set_cons_zero, List.set_cons_succ]))
  | ((with_reducible apply L2.g_tupT); walk_at "up"; rfl)
  | (with_reducible refine g_par ?_)
  | (with_reducible refine g_two ?_; (try simp only [List.set_cons_zero, List.set_cons_succ]))
  )
local macro_rules | `(tactic| walk_at "go") => `(tactic| first | walk_at "gx" | with_reducible refine L2.g_seq ?_)
local macro_rules | `(tactic| walk_at "gou") => `(tactic| repeat (walk_at "gx"))
local macro_rules | `(tactic| walk_at "gos") => `(tactic| repeat (walk_at "go"))
local macro_rules | `(tactic| walk_at "sl") => `(tactic| first
  | assumption
  | exact L2.Same.l (by assumption)
  | exact L2.SameD.l (by assumption)
  | exact L2.extN_l (by assumption))
local macro_rules | `(tactic| walk_at "up") => `(tactic| first
  | assumption
  | ((with_reducible apply L2.SameL.lst); walk_at "sl"; walk_at "up")
  | ((with_reducible apply L2.SameL.tupA); walk_at "sl"; walk_at "up")
  | ((with_reducible apply L2.SameL.ins); walk_at "sl"; walk_at "up")
  | ((with_reducible apply Ev.PB.l); walk_at "sl"; walk_at "up")
  | ((with_reducible apply Ev.IsP.l); walk_at "sl"; walk_at "up")
  | ((with_reducible apply L2.sqL); walk_at "up")
  | ((with_reducible apply L2.sqT); walk_at "up")
  | ((with_reducible apply L2.SameL.seq); walk_at "sl"; walk_at "up")
  | ((with_reducible apply Ev.Pen.same); assumption; walk_at "up")
  | ((with_reducible apply Ev.Pen.extN); assumption; walk_at "up")
  | ((with_reducible apply L2.tabs_s); assumption; walk_at "up")
  | ((with_reducible apply L2.tabs_dd); assumption; walk_at "up")
  | ((with_reducible apply Or.inl); walk_at "up")
  | ((with_reducible apply Or.inr); walk_at "up"))
local macro_rules | `(tactic| walk_at "new") => `(tactic| (
  first
    | refine ⟨L2.size_ok (by rfl), fun p hp => ?_⟩
    | refine fun p hp => ?_
  generalize hX : L2.upd _ p _ = H1
  obtain ⟨e, h⟩ := L2.news hp hX
  clear hX))
local macro_rules | `(tactic| walk_at "o") => `(tactic| first
  | ((with_reducible apply Ev.o_add); walk_at "up"; walk_at "up"; rfl; rfl; rfl)
  | ((with_reducible apply Ev.o_sub); walk_at "up"; walk_at "up"; rfl; rfl; rfl)
  | ((with_reducible apply Ev.o_mul); walk_at "up"; walk_at "up"; rfl; rfl; rfl)
  | ((with_reducible apply Ev.o_addI); walk_at "up"; assumption; rfl; rfl; rfl)
  | ((with_reducible apply Ev.o_subI); walk_at "up"; assumption; rfl; rfl; rfl)
  | ((with_reducible apply Ev.o_mulI); walk_at "up"; assumption; rfl; rfl; rfl)
  | ((with_reducible apply Ev.o_radd); walk_at "up"; assumption; rfl; rfl; rfl)
  | ((with_reducible apply Ev.o_rsub); walk_at "up"; assumption; rfl; rfl; rfl)
  | ((with_reducible apply Ev.o_rmul); walk_at "up"; assumption; rfl; rfl; rfl)
  | ((with_reducible apply Ev.o_neg); walk_at "up"; rfl; rfl; rfl))
local macro_rules | `(tactic| walk_at "eq") => `(tactic| ((with_reducible apply Ev.u_ownB); assumption; walk_at "up"; walk_at "up"; (focus (intro k; first | rfl | exact Pl.e_add | exact Pl.e_sub | exact Pl.e_mul | exact Pl.e_rsub | exact Pl.e_rsub2))))
local macro_rules | `(tactic| walk_at "isp") => `(tactic| (apply Ev.u_isB; walk_at "up"; walk_at "up"; rfl; rfl))

/-! Picks, entries, fractions; what a piece must be. -/
namespace Ev
open PySem PySem.Spec PyProof.Rows L2 Pl
section
variable {P : Program} {w : World} {K : PySem.W.Frag} {mg : Str → Option Value} {base : Heap}
def spPick (K : PySem.W.Frag) : Sp := fun vs H Q _ => ∃ (p c a : Addr) (xs : List V) (n : Nat), vs = [.ref p, .ref a] ∧ Pen H p c n ∧ n < 2 ^ 40 ∧ SqL K H a xs ∧ xs ≠ [] ∧ xs.length < 100000 ∧ ∀ (i : Nat) v H', xs[i]? = some v → SameD H H' → Pen H' p c (n + 1) → Q v H'
theorem sc__law_pick : FnScope ["pen", "some"] ["pen", "some"] (defScope (topS 37)) := ⟨rfl, rfl, rfl, by decide +kernel, rfl, by decide +kernel, by decide +kernel⟩
theorem ok__law_pick (B : Bn mg) (G__law_draw : CallF P w K mg base "_law_draw" ["pen", "many"] 2 spDraw) {f : Addr} {fd : FuncData} (F : Fun K "_law_pick" "_law_pick" (topS 37) f fd) : FnOk P w K mg base (L2.CX P w) 3 f fd ["pen", "some"] (spPick K) := by
  have nd := sc__law_pick.nd
  refine F.okX sc__law_pick (fun vs H Q E h => ?_) (fun cdv A outer s H vs Q E hr h => ?_)
  · obtain ⟨p, c, a, xs, n, rfl, _⟩ := h
    rfl
  · refine ⟨_, (pss_one (ps_ret (pe_ix (ix_listK (K := K) rfl) (pv 1) (pe_callF G__law_draw (hr.mono (by decide)) rfl passL (pa_cons (pv 0) (pa_cons (pe_callB (call_lnK (K := K) rfl) (by rfl) B.len_ (by decide +kernel) (pa_cons (pv 1) pa_nil)) pa_nil))) (fun _ _ => rfl)))), ?_⟩
    obtain ⟨p, c, a, xs, n, rfl, hp, hn, hx, hne, hl, q⟩ := h
    refine g_st (σ' := [some (.ref p), some (.ref a)]) rfl ?_
    walk_at "gos"
    refine u_lenL hx ?_
    walk_at "gos"
    have hl0 : 0 < xs.length := List.length_pos_iff.mpr hne
    refine ⟨p, c, xs.length, n, rfl, hp, hn, by omega, by omega, fun r H' h0 h1 e hp' => ?_⟩
    obtain ⟨j, rfl⟩ := Int.eq_ofNat_of_zero_le h0
    have hj : j < xs.length := by omega
    refine u_ixL (e.seq hx) (atI_nat (v := xs[j]) (List.getElem?_eq_getElem hj)) ?_
    exact q j _ H' (List.getElem?_eq_getElem hj) e hp'
def spEntry : Sp := fun vs H Q _ => ∃ (p c : Addr) (n : Nat), vs = [.ref p] ∧ Pen H p c n ∧ n + 10 < 2 ^ 40 ∧ ∀ i H', Bd 210 i → SameD H H' → Pen H' p c (n + 3) → Q (.int i) H'
theorem sc__law_entry : FnScope ["pen", "way"] ["pen"] (defScope (topS 38)) := ⟨rfl, rfl, rfl, by decide +kernel, rfl, by decide +kernel, by decide +kernel⟩
theorem ok__law_entry (B : Bn mg) (G__law_draw : CallF P w K mg base "_law_draw" ["pen", "many"] 2 spDraw) (G__law_pick : CallF P w K mg base "_law_pick" ["pen", "some"] 3 (spPick K)) {f : Addr} {fd : FuncData} (F : Fun K "_law_entry" "_law_entry" (topS 38) f fd) : FnOk P w K mg base (L2.CX P w) 4 f fd ["pen"] spEntry := by
  have nd := sc__law_entry.nd
  refine F.okX sc__law_entry (fun vs H Q E h => ?_) (fun cdv A outer s H vs Q E hr h => ?_)
  · obtain ⟨p, c, n, rfl, _⟩ := h
    rfl
  · refine ⟨_, (pss_cons (ps_set (i := 1) nd rfl (.inl rfl) (pe_callF G__law_draw (hr.mono (by decide)) rfl passL (pa_cons (pv 0) (pa_cons pe_int pa_nil))))
      (pss_cons (ps_if (pt_cmpR op_eq (pv 1) pe_int (nomark _)) (pss_one (ps_ret pe_int)) pss_nil)
      (pss_cons (ps_if (pt_cmpR op_lt (pv 1) pe_int (nomark _)) (pss_one (ps_ret (pe_op op_sub (pe_callF G__law_draw (hr.mono (by decide)) rfl passL (pa_cons (pv 0) (pa_cons pe_int pa_nil))) pe_int))) pss_nil)
      (pss_one (ps_ret (pe_op op_add (pe_callF G__law_pick (hr.mono (by decide)) rfl passL (pa_cons (pv 0) (pa_cons (pe_lst (pa_cons (pe_op op_add (pe_op op_pow pe_int pe_int) pe_int) (pa_cons (pe_op op_sub (pe_un un_neg (pe_op op_pow pe_int pe_int)) pe_int) (pa_cons (pe_op op_pow pe_int pe_int) (pa_cons (pe_un un_neg (pe_op op_pow pe_int pe_int)) pa_nil))))) pa_nil))) (pe_callF G__law_draw (hr.mono (by decide)) rfl passL (pa_cons (pv 0) (pa_cons pe_int pa_nil))))))))), ?_⟩
    obtain ⟨p, c, n, rfl, hp, hn, q⟩ := h
    refine g_st (σ' := [some (.ref p), none]) rfl ?_
    walk_at "gos"
    refine ⟨p, c, _, n, rfl, hp, by omega, by decide, by decide, fun r H1 h0 h1 e1 hp1 => ?_⟩
    walk_at "gos"
    refine g_itd (fun h2 => ?_) (fun h2 => ?_)
    · walk_at "gos"
      exact q _ _ (by unfold Bd; decide) e1 (hp1.mono (by omega))
    · walk_at "gos"
      refine g_itd (fun h3 => ?_) (fun h3 => ?_)
      · walk_at "gos"
        refine ⟨p, c, _, n + 1, rfl, hp1, by omega, by decide, by decide, fun r2 H2 h4 h5 e2 hp2 => ?_⟩
        walk_at "gos"
        exact q _ _ (by unfold Bd; have : (2 : Nat) ^ 210 = 2 ^ 10 * 2 ^ 200 := rfl; have : 0 < (2 : Nat) ^ 200 := Nat.two_pow_pos 200; omega) (e1.trans e2) (hp2.mono (by omega))
      · walk_at "gos"
        refine g_I (by unfold CPow; decide) ?_
        walk_at "gos"
        refine g_I (by unfold CPow; decide) ?_
        walk_at "gos"
        refine g_I (by unfold CPow; decide) ?_
        walk_at "gos"
        refine g_I (by unfold CPow; decide) ?_
        walk_at "gos"
        refine ⟨by show 4 ≤ sizeLine; decide, fun l hl => ?_⟩
        generalize hxs : [V.int (10 ^ (30 : Int).toNat + 7), V.int (-10 ^ (30 : Int).toNat - 1), V.int (10 ^ (60 : Int).toNat), V.int (-10 ^ (17 : Int).toNat)] = xs
        have hall : ∀ (i : Nat) v, xs[i]? = some v → ∃ z : Int, v = .int z ∧ Bd 205 z := by
          subst hxs
          intro i v hv
          match i, hv with
          | 0, hv => exact ⟨_, (Option.some.inj hv).symm, by unfold Bd; decide⟩
          | 1, hv => exact ⟨_, (Option.some.inj hv).symm, by unfold Bd; decide⟩
          | 2, hv => exact ⟨_, (Option.some.inj hv).symm, by unfold Bd; decide⟩
          | 3, hv => exact ⟨_, (Option.some.inj hv).symm, by unfold Bd; decide⟩
          | i + 4, hv => cases hv
        have hne : xs ≠ [] := by subst hxs; exact fun z => by cases z
        have hlen : xs.length < 100000 := by subst hxs; show 4 < 100000; decide
        walk_at "gos"
        have e2 : Same H1 (upd H1 l (.lst xs)) := same_new hl
        have h2 : (upd H1 l (.lst xs)) l = some (.lst xs) := upd_same
        refine ⟨p, c, l, xs, n + 1, rfl, hp1.same e2, by omega, sqL h2, hne, hlen, fun i v H3 hv e3 hp3 => ?_⟩
        obtain ⟨z, rfl, hz⟩ := hall i v hv
        walk_at "gos"
        refine ⟨p, c, _, n + 2, rfl, hp3, by omega, by decide, by decide, fun r2 H4 h4 h5 e4 hp4 => ?_⟩
        walk_at "gos"
        refine q _ _ ?_ (((e1.trans e2.d).trans e3).trans e4) hp4
        have : Bd 206 (z + r2) := hz.add (bd_of h4 (by have : (2 : Nat) ^ 205 = 2 ^ 10 * 2 ^ 195 := rfl; have : 0 < (2 : Nat) ^ 195 := Nat.two_pow_pos 195; omega))
        exact this.mono (by decide)
def spFraction : Sp := fun vs H Q _ => ∃ (p c : Addr) (most : Int) (n : Nat), vs = [.ref p, .int most] ∧ Pen H p c n ∧ n + 1000 < 2 ^ 40 ∧ 0 ≤ most ∧ most < 40 ∧
  ∀ t a (ns : List Int) (u : Int) H', SameD H H' → Pen H' p c (n + 200) → H' t = some (.tup [.ref a, .int u]) → H' a = some (.lst (ns.map V.int)) → (ns.length : Int) ≤ most + 1 → (∀ x, x ∈ ns → Bd 210 x) → 1 ≤ u → Bd 100 u → Q (.ref t) H'
theorem sc__law_fraction : FnScope ["pen", "most", "k", "row"] ["pen", "most"] (defScope (topS 39)) := ⟨rfl, rfl, rfl, by decide +kernel, rfl, by decide +kernel, by decide +kernel⟩
theorem ok__law_fraction (B : Bn mg) (G__law_draw : CallF P w K mg base "_law_draw" ["pen", "many"] 2 spDraw) (G__law_pick : CallF P w K mg base "_law_pick" ["pen", "some"] 3 (spPick K)) (G__law_entry : CallF P w K mg base "_law_entry" ["pen"] 4 spEntry)
    {f : Addr} {fd : FuncData} (F : Fun K "_law_fraction" "_law_fraction" (topS 39) f fd) : FnOk P w K mg base (L2.CX P w) 5 f fd ["pen", "most"] spFraction := by
  have nd := sc__law_fraction.nd
  refine F.okX sc__law_fraction (fun vs H Q E h => ?_) (fun cdv A outer s H vs Q E hr h => ?_)
  · obtain ⟨p, c, most, n, rfl, _⟩ := h
    rfl
  · refine ⟨_, (pss_cons (ps_setLc (i := 3) (own := [("k", 2)]) (g := gName 2) (tt := tYes) rfl nd rfl rfl (sw_true rfl rfl rfl (by decide +kernel)) (pi_range1 rfl B.range (pa_cons (pe_callF G__law_draw (hr.mono (by decide)) rfl passL (pa_cons (pv 0) (pa_cons (pe_op op_add (pv 1) pe_int) pa_nil))) pa_nil)) (blkOk_by (N := ["pen", "most", "k", "row"]) (sc := defScope (topS 39)) (by decide +kernel)) (fun _ _ _ _ _ => (pg_name (i := 2) nd rfl (.inl rfl))) (fun _ _ _ _ _ => pts_nil) (fun _ _ _ _ _ => (pe_callF G__law_entry (hr.mono (by decide)) rfl passL (pa_cons (pv 0) pa_nil))))
      (pss_one (ps_ret (pe_tup (pa_cons (pv 3) (pa_cons (pe_callF G__law_pick (hr.mono (by decide)) rfl passL (pa_cons (pv 0) (pa_cons (pe_lst (pa_cons pe_int (pa_cons pe_int (pa_cons pe_int (pa_cons pe_int (pa_cons pe_int (pa_cons pe_int (pa_cons pe_int (pa_cons (pe_op op_pow pe_int pe_int) pa_nil))))))))) pa_nil))) pa_nil)))))), ?_⟩
    obtain ⟨p, c, most, n, rfl, hp, hn, h0, h1, q⟩ := h
    refine g_st (σ' := [some (.ref p), some (.int most), none, none]) rfl ?_
    walk_at "gos"
    refine ⟨p, c, _, n, rfl, hp, by omega, by omega, by omega, fun r H1 h2 h3 e1 hp1 => ?_⟩
    walk_at "gos"
    refine u_rng (by omega) (by omega) fun D hD => ?_
    refine lc_it walk_range (fun i H' => SameD H1 H' ∧ Pen H' p c (n + 1 + 3 * i) ∧ ∃ ns : List Int, H' D = some (.lst (ns.map V.int)) ∧ ns.length = i ∧ ∀ x, x ∈ ns → Bd 210 x) ?_ (fun _ _ _ _ => trivial) (fun i x H2 H3 hi q2 y => ?_) (fun H2 q2 => ?_)
    · exact ⟨(same_new hD).d, hp1.same (same_new hD), [], upd_same, rfl, fun x hx => by cases hx⟩
    · obtain ⟨e2, hp2, ns, hns, hnl, hb⟩ := q2
      obtain ⟨rfl, rfl⟩ := y
      walk_at "gos"
      refine ⟨rfl, ?_⟩
      walk_at "gos"
      refine ⟨p, c, n + 1 + 3 * i, rfl, hp2, by omega, fun z H4 hz e4 hp4 => ?_⟩
      refine ⟨ns.map V.int, e4.lst hns, by rw [sizeLine_eq, List.length_map]; omega, SameD.mut (e2.trans e4) hD, ?_, ns ++ [z], ?_, by simp [hnl], fun x hx => ?_⟩
      · exact (hp4.mono (by omega)).upd (hp1.ne hD).1 (hp1.ne hD).2
      · rw [upd_same, List.map_append]; rfl
      · rcases List.mem_append.mp hx with hx | hx
        · exact hb x hx
        · rw [List.mem_singleton.mp hx]; exact hz
    · obtain ⟨e2, hp2, ns, hns, hnl, hb⟩ := q2
      walk_at "gos"
      refine g_I (by unfold CPow; decide) ?_
      walk_at "gos"
      refine ⟨by show 8 ≤ sizeLine; decide, fun l hl => ?_⟩
      generalize hxs : [V.int 1, V.int 1, V.int 2, V.int 3, V.int 4, V.int 6, V.int 12, V.int (10 ^ (20 : Int).toNat)] = xs
      have hall : ∀ (i : Nat) v, xs[i]? = some v → ∃ z : Int, v = .int z ∧ 1 ≤ z ∧ Bd 100 z := by
        subst hxs
        intro i v hv
        match i, hv with
        | 0, hv => exact ⟨_, (Option.some.inj hv).symm, by decide, by unfold Bd; decide⟩
        | 1, hv => exact ⟨_, (Option.some.inj hv).symm, by decide, by unfold Bd; decide⟩
        | 2, hv => exact ⟨_, (Option.some.inj hv).symm, by decide, by unfold Bd; decide⟩
        | 3, hv => exact ⟨_, (Option.some.inj hv).symm, by decide, by unfold Bd; decide⟩
        | 4, hv => exact ⟨_, (Option.some.inj hv).symm, by decide, by unfold Bd; decide⟩
        | 5, hv => exact ⟨_, (Option.some.inj hv).symm, by decide, by unfold Bd; decide⟩
        | 6, hv => exact ⟨_, (Option.some.inj hv).symm, by decide, by unfold Bd; decide⟩
        | 7, hv => exact ⟨_, (Option.some.inj hv).symm, by decide, by unfold Bd; decide⟩
        | i + 8, hv => cases hv
      have hne : xs ≠ [] := by subst hxs; exact fun z => by cases z
      have hlen : xs.length < 100000 := by subst hxs; show 8 < 100000; decide
      walk_at "gos"
      have e3 : Same H2 (upd H2 l (.lst xs)) := same_new hl
      have h3 : (upd H2 l (.lst xs)) l = some (.lst xs) := upd_same
      generalize upd H2 l (.lst xs) = H3 at e3 h3 ⊢
      refine ⟨p, c, l, xs, n + 1 + 3 * r.toNat, rfl, hp2.same e3, by omega, sqL h3, hne, hlen, fun i v H4 hv e4 hp4 => ?_⟩
      obtain ⟨z, rfl, hz1, hz2⟩ := hall i v hv
      walk_at "gos"
      refine g_newS fun t H5 ht e5 h5 => ?_
      refine q t D ns z H5 (e1.trans (e2.trans (e3.d.trans (e4.trans e5.d)))) ((hp4.same e5).mono (by omega)) h5 ?_ (by omega) hb hz1 hz2
      exact e5 _ _ (e4.lst (e3 _ _ hns))
/-- what a piece must be, as the law asks it -/
def spIsPiece (K : PySem.W.Frag) (C : Addr) : Sp := fun vs H Q _ => ∃ (x a : Addr) (rs ns : List Int) (u v : Int), vs = [.ref x, .ref a, .int v] ∧ IsP H x C rs u ∧ SqL K H a (ns.map V.int) ∧ FormOf ns v rs u ∧ Bd 8000 v ∧ (∀ k, Bd 8000 (at0 ns k)) ∧ ns.length < 100000 ∧ ∀ H', Same H H' → Q (.bl true) H'
end
end Ev

end
/-! What a law keeps: all but dicts and tables of code objects. -/
namespace L2
open PySem PySem.Spec PyProof.Rows
def SameL (H H' : Hp) : Prop := ∀ b o, H b = some o → (∀ kvs, o ≠ .dK kvs) → (∀ ps, o ≠ .tbl ps) → H' b = some o
theorem Same.l {H H' : Hp} (e : Same H H') : SameL H H' := fun b o h _ _ => e b o h
theorem SameD.l {H H' : Hp} (e : SameD H H') : SameL H H' := fun b o h n _ => e b o h n
theorem extN_l {H H' : Hp} (e : LamX.ExtN H H') : SameL H H' := fun b o h _ n => e b o h n
theorem SameL.refl (H : Hp) : SameL H H := fun _ _ h _ _ => h
theorem SameL.trans {H H1 H2 : Hp} (a : SameL H H1) (b : SameL H1 H2) : SameL H H2 := fun c o h n m => b c o (a c o h n m) n m
theorem SameL.lst {H H' : Hp} (e : SameL H H') {a : Addr} {xs : List V} (h : H a = some (.lst xs)) : H' a = some (.lst xs) := e a _ h (fun _ z => nomatch z) fun _ z => nomatch z
theorem SameL.tupA {H H' : Hp} (e : SameL H H') {a : Addr} {xs : List V} (h : H a = some (.tup xs)) : H' a = some (.tup xs) := e a _ h (fun _ z => nomatch z) fun _ z => nomatch z
theorem SameL.ins {H H' : Hp} (e : SameL H H') {a C dx : Addr} {fs : List (Str × V)} (h : H a = some (.ins C dx fs)) : H' a = some (.ins C dx fs) := e a _ h (fun _ z => nomatch z) fun _ z => nomatch z
theorem SameL.seq {K : PySem.W.Frag} {H H' : Hp} {a : Addr} {xs : List V} (e : SameL H H') (h : SqL K H a xs) : SqL K H' a xs := by
  rcases h with (h | ⟨o, h⟩) | h
  · exact .inl (.inl (e _ _ h (fun _ z => nomatch z) fun _ z => nomatch z))
  · exact .inl (.inr ⟨o, e _ _ h (fun _ z => nomatch z) fun _ z => nomatch z⟩)
  · exact .inr h
theorem SameL.mut {H H' : Hp} {p : Addr} {o : HO} (e : SameL H H') (h : H p = none) : SameL H (upd H' p o) := fun a u ha n m => by
  rw [upd_ne (ne_of_none ha h)]
  exact e a u ha n m
theorem extN_ext {H H' H'' : Hp} (a : LamX.ExtN H H') (b : Same H' H'') : LamX.ExtN H H'' := a.trans (LamX.ExtN.of b)
theorem tabs_d {T : List (Addr × Str)} {H H' : Hp} (t : LamX.Tabs T H) (e : SameD H H') : LamX.Tabs T H' := fun p hp => by
  obtain ⟨ps, h1, h2, h3⟩ := t p hp
  refine ⟨ps, e _ _ h1 (fun _ z => nomatch z), h2, fun pos cv hc => ?_⟩
  obtain ⟨c, e1, e2⟩ := h3 pos cv hc
  exact ⟨c, e1, e _ _ e2 (fun kvs z => by unfold LamX.CodeO at z; cases z)⟩
theorem tabs_s {T : List (Addr × Str)} {H H' : Hp} (e : Same H H') (t : LamX.Tabs T H) : LamX.Tabs T H' := t.ext e
theorem tabs_dd {T : List (Addr × Str)} {H H' : Hp} (e : SameD H H') (t : LamX.Tabs T H) : LamX.Tabs T H' := tabs_d t e
theorem tabs_upd {T : List (Addr × Str)} {H : Hp} {l : Addr} {xs : List V} {o : HO} (t : LamX.Tabs T H) (h : H l = some (.lst xs)) : LamX.Tabs T (upd H l o) := fun p hp => by
  obtain ⟨ps, h1, h2, h3⟩ := t p hp
  refine ⟨ps, ?_, h2, fun pos cv hc => ?_⟩
  · rw [upd_ne (fun z => by rw [z, h] at h1; cases h1)]; exact h1
  · obtain ⟨c, e1, e2⟩ := h3 pos cv hc
    exact ⟨c, e1, by rw [upd_ne (fun z => by rw [z, h] at e2; unfold LamX.CodeO at e2; cases e2)]; exact e2⟩
end L2

/-! Lists or tuples, whichever. -/
namespace L2
open PySem PySem.Spec PyProof.Rows
def SqA (K : PySem.W.Frag) (H : Hp) (a : Addr) (xs : List V) : Prop := SqL K H a xs ∨ SqT K H a xs
theorem SameL.tupS {K : PySem.W.Frag} {H H' : Hp} {a : Addr} {xs : List V} (e : SameL H H') (h : SqT K H a xs) : SqT K H' a xs := by
  rcases h with (h | ⟨o, h⟩) | h
  · exact .inl (.inl (e _ _ h (fun _ z => nomatch z) fun _ z => nomatch z))
  · exact .inl (.inr ⟨o, e _ _ h (fun _ z => nomatch z) fun _ z => nomatch z⟩)
  · exact .inr h
theorem SqA.l {K : PySem.W.Frag} {H H' : Hp} {a : Addr} {xs : List V} (e : SameL H H') (h : SqA K H a xs) : SqA K H' a xs := h.elim (fun q => .inl (e.seq q)) fun q => .inr (e.tupS q)
theorem SqA.same {K : PySem.W.Frag} {H H' : Hp} {a : Addr} {xs : List V} (e : Same H H') (h : SqA K H a xs) : SqA K H' a xs := h.l e.l
/-- nothing but x is changed -/
def SameB (x : Addr) (H H' : Hp) : Prop := ∀ b o, b ≠ x → H b = some o → H' b = some o
theorem SameB.of {x : Addr} {H H' : Hp} (e : Same H H') : SameB x H H' := fun b o _ h => e b o h
theorem SameB.trans {x : Addr} {H H1 H2 : Hp} (a : SameB x H H1) (b : SameB x H1 H2) : SameB x H H2 := fun c o n h => b c o n (a c o n h)
theorem SameB.upd {x : Addr} {H H1 : Hp} {o : HO} (a : SameB x H H1) : SameB x H (upd H1 x o) := fun c u n h => by rw [upd_ne n]; exact a c u n h
theorem SqL.updI {K : PySem.W.Frag} {H : Hp} {a x C dx : Addr} {fs : List (Str × V)} {xs : List V} {o : HO} (hx : H x = some (.ins C dx fs)) (h : SqL K H a xs) : SqL K (upd H x o) a xs := by
  rcases h with (h | ⟨u, h⟩) | h
  · exact .inl (.inl (by rw [upd_ne (fun z => by rw [z, hx] at h; cases h)]; exact h))
  · exact .inl (.inr ⟨u, by rw [upd_ne (fun z => by rw [z, hx] at h; cases h)]; exact h⟩)
  · exact .inr h
theorem SqT.updI {K : PySem.W.Frag} {H : Hp} {a x C dx : Addr} {fs : List (Str × V)} {xs : List V} {o : HO} (hx : H x = some (.ins C dx fs)) (h : SqT K H a xs) : SqT K (upd H x o) a xs := by
  rcases h with (h | ⟨u, h⟩) | h
  · exact .inl (.inl (by rw [upd_ne (fun z => by rw [z, hx] at h; cases h)]; exact h))
  · exact .inl (.inr ⟨u, by rw [upd_ne (fun z => by rw [z, hx] at h; cases h)]; exact h⟩)
  · exact .inr h
theorem SqA.updI {K : PySem.W.Frag} {H : Hp} {a x C dx : Addr} {fs : List (Str × V)} {xs : List V} {o : HO} (hx : H x = some (.ins C dx fs)) (h : SqA K H a xs) : SqA K (upd H x o) a xs := h.elim (fun q => .inl (q.updI hx)) fun q => .inr (q.updI hx)
/-- a place, a slice of any of both -/
def rIxA (K : PySem.W.Frag) : R2 := fun x y H Q => rIxL K x y H Q ∨ rIxT K x y H Q
def rSlX (K : PySem.W.Frag) : V → Option Int → Option Int → Hp → VK → Prop := fun x lo hi H Q => rSlL K x lo hi H Q ∨ rSlA K x lo hi H Q
section
variable {X : Cx} {K : PySem.W.Frag}
theorem ix_anyK (h : X.K = K) : IxR X (rIxA K) := (ix_listK h).or (ix_tupK h)
theorem sl_tupAK (h : X.K = K) : SlR X (rSlA K) := h ▸ sl_tupA
theorem sl_anyK (h : X.K = K) : SlR X (rSlX K) := (sl_listK h).or (sl_tupAK h)
end
section
variable {σ : St} {H H' : Hp} {Q : VK} {K : PySem.W.Frag} {a : Addr} {xs : List V} {v : V}
theorem u_ixA {i : Int} (h : SqA K H a xs) (e : atI xs i = some v) (q : Q v H) : rIxA K (.ref a) (.int i) H Q := h.elim (fun z => .inl (u_ixL z e q)) fun z => .inr (u_ixT z e q)
theorem cut_whole {lo hi : Option Int} (h : HT.sIx xs.length 0 lo = 0 ∧ HT.sIx xs.length xs.length hi = xs.length) : cutV xs lo hi = xs := by
  unfold cutV
  rw [h.1, h.2, List.drop_zero, Nat.sub_zero, List.take_length]
theorem u_slT {lo hi : Option Int} (h : SqT K H a xs) (q : ∀ b H', Same H H' → SqT K H' b (cutV xs lo hi) → Q (.ref b) H') : rSlA K (.ref a) lo hi H Q :=
  ⟨a, xs, rfl, h, fun w => q a H (Same.refl H) (by rw [cut_whole w]; exact h), fun _ => g_new0 fun p H' _ e hp => q p H' e (sqT hp)⟩
theorem u_slA {lo hi : Option Int} (h : SqA K H a xs) (q : ∀ b H', Same H H' → SqA K H' b (cutV xs lo hi) → Q (.ref b) H') : rSlX K (.ref a) lo hi H Q :=
  h.elim (fun z => .inl (u_sl z fun p H' _ e hp => q p H' e (.inl (sqL hp)))) fun z => .inr (u_slT z fun b H' e hb => q b H' e (.inr hb))
theorem u_tupA (h : SqA K H a xs) (q : ∀ t H', Same H H' → SqT K H' t xs → Q (.ref t) H') : rTplS K [.ref a] H Q :=
  h.elim (fun z => u_tuple z fun p H' _ e hp => q p H' e (sqT hp)) fun z => u_tupleT z (q a H (Same.refl H) z)
theorem u_lenA (h : SqA K H a xs) (q : Q (.int xs.length) H) : rLenS K [.ref a] H Q := h.elim (fun z => u_lenL z q) fun z => u_lenT z q
theorem g_rng3 {t : TA} {R : It → Hp → Prop} (q : t σ H fun vs H1 => ∃ (i j c : Int) (n : Nat), vs = [.int i, .int j, .int c] ∧ RgC i j c n ∧ R (Itc i c n) H1) : iRng3 t σ H R := q
theorem u_neD {x y : V} {d e : PyData} {b : Bool} {Q : VK} (h1 : Dp K H x d) (h2 : Dp K H y e) (s1 : SeqAt.shaped d = true) (s2 : SeqAt.shaped e = true) (hb : PyData.eqv d e = b) (q : Q (.bl (!b)) H) : rNeD K x y H Q := ⟨d, e, h1, h2, s1, s2, by rw [hb]; exact q⟩
theorem shaped_tag {x : Str} {d : PyData} (hx : PyData.canLay0 (.str x) = true) (h : d.canLay0 = true) (h2 : d.depth ≤ 3) : SeqAt.shaped (.tuple [.str x, d]) = true := by
  show (PyData.canLay0 (.tuple [.str x, d]) && decide (PyData.depth (.tuple [.str x, d]) ≤ 64)) = true
  rw [Bool.and_eq_true]
  have e : PyData.depth (.tuple [.str x, d]) = max 0 (max d.depth 0) + 1 := by simp only [PyData.depth, PyData.depthAll]
  have e2 : PyData.canLay0 (.tuple [.str x, d]) = (PyData.canLay0 (.str x) && (d.canLay0 && true)) := by simp only [PyData.canLay0, PyData.canLayAll0]
  exact ⟨by rw [e2, hx, h]; rfl, decide_eq_true (by omega)⟩
/-! rows of truths -/
theorem dpAll_bools : ∀ ns : List Bool, DpAll K H (ns.map V.bl) (ns.map PyData.bool)
  | [] => .nil
  | n :: r => .cons (.bl n) (dpAll_bools r)
theorem eqv_bools : ∀ ns ms : List Bool, PyData.eqvAll (ns.map PyData.bool) (ms.map PyData.bool) = decide (ns = ms)
  | [], [] => by simp [PyData.eqvAll]
  | [], _ :: _ => by simp [PyData.eqvAll]
  | _ :: _, [] => by simp [PyData.eqvAll]
  | a :: r, b :: t => by
    simp only [List.map_cons, PyData.eqvAll, PyData.eqv, eqv_bools r t]
    by_cases h : a = b <;> by_cases h' : r = t <;> simp [h, h']
theorem lay_bools : ∀ ns : List Bool, PyData.canLayAll0 (ns.map PyData.bool) = true
  | [] => by simp [PyData.canLayAll0]
  | a :: r => by simp [PyData.canLayAll0, PyData.canLay0, lay_bools r]
theorem depth_bools : ∀ ns : List Bool, PyData.depthAll (ns.map PyData.bool) = 0
  | [] => by simp [PyData.depthAll]
  | a :: r => by simp [PyData.depthAll, PyData.depth, depth_bools r]
theorem shaped_boolsL (ns : List Bool) : SeqAt.shaped (.list (ns.map PyData.bool)) = true := by
  simp [SeqAt.shaped, PyData.canLay0, PyData.depth, lay_bools, depth_bools]
theorem shaped_boolsT (ns : List Bool) : SeqAt.shaped (.tuple (ns.map PyData.bool)) = true := by
  simp [SeqAt.shaped, PyData.canLay0, PyData.depth, lay_bools, depth_bools]
theorem u_eqLB {b : Addr} {ns ms : List Bool} (h1 : SqL K H a (ns.map V.bl)) (h2 : SqL K H b (ms.map V.bl)) (q : Q (.bl (decide (ns = ms))) H) : rEqD K (.ref a) (.ref b) H Q :=
  ⟨_, _, .lst h1 (dpAll_bools ns), .lst h2 (dpAll_bools ms), shaped_boolsL _, shaped_boolsL _, by
    show Q (.bl (PyData.eqv (.list (ns.map PyData.bool)) (.list (ms.map PyData.bool)))) H
    rw [PyData.eqv, eqv_bools]; exact q⟩
theorem u_eqTB {b : Addr} {ns ms : List Bool} (h1 : SqT K H a (ns.map V.bl)) (h2 : SqT K H b (ms.map V.bl)) (q : Q (.bl (decide (ns = ms))) H) : rEqD K (.ref a) (.ref b) H Q :=
  ⟨_, _, .tup h1 (dpAll_bools ns), .tup h2 (dpAll_bools ms), shaped_boolsT _, shaped_boolsT _, by
    show Q (.bl (PyData.eqv (.tuple (ns.map PyData.bool)) (.tuple (ms.map PyData.bool)))) H
    rw [PyData.eqv, eqv_bools]; exact q⟩
theorem bools_inj {ns ms : List Bool} (h : ns.map V.bl = ms.map V.bl) : ns = ms := by
  induction ns generalizing ms with
  | nil => cases ms with
    | nil => rfl
    | cons a b => cases h
  | cons a r ih => cases ms with
    | nil => cases h
    | cons b s =>
      rw [List.map_cons, List.map_cons] at h
      injection h with h1 h2
      injection h1 with h1
      rw [h1, ih h2]
end
end L2

/-! try with several clauses, each with or without a name. -/
namespace L2
open PySem PySem.Spec PyProof.Rows
abbrev Cl := Value × Option Nat × (Addr → Value → Option Addr → TS)
/-- the ends behind a clause with a name: the name goes -/
def asEnds (i : Nat) (D : Ends) : Ends where
  nx := fun σ H => D.nx (σ.set i none) H
  rt := D.rt
  bk := fun σ H => D.bk (σ.set i none) H
  ct := fun σ H => D.ct (σ.set i none) H
/-- one clause's suite, entered -/
def inClause (D : Ends) (oi : Option Nat) (t : TS) (a : Addr) (σ : St) (H : Hp) : Prop := match oi with
  | none => t D σ H
  | some i => t (asEnds i D) (σ.set i (some (.ref a))) H
theorem in_named {D : Ends} {i : Nat} {t : TS} {a : Addr} {σ : St} {H : Hp} (q : t (asEnds i D) (σ.set i (some (.ref a))) H) : inClause D (some i) t a σ H := q
/-- what the clauses wish of an exception of the body, one after the other -/
def wCls (K : PySem.W.Frag) (Wout : WX) (D : Ends) : List Cl → WX
  | [] => Wout
  | (c, oi, ts) :: r => fun cls d σ H => ∃ b, PySem.W.exmOne K cls c = some b ∧ (b = true → ∀ a, H a = none → inClause D oi (ts a cls d) a σ H) ∧ (b = false → wCls K Wout D r cls d σ H)
/-- the suite's derivation, for whatever is caught -/
def SuiteOk (X : Cx) (body : List Stmt) (ts : Addr → Value → Option Addr → TS) : Prop :=
  ∀ (a : Addr) (oe : Obj) (cls : Value) (d : Option Addr) (pn : List (Addr × Obj)), Zc cls d oe → (∃ fields, oe.data = .fields fields) → PSs (X.suite a ((a, oe) :: pn)) body (ts a cls d)
inductive ClsOk (X : Cx) : List ExceptHandler → List Cl → Prop
  | nil : ClsOk X [] []
  | plain {x : Str} {c : Value} {ts : Addr → Value → Option Addr → TS} {st : Stmt} {more : List Stmt} {q1 q2 : Pos} {hds : List ExceptHandler} {l : List Cl} (nm : Names X x c) (ok : SuiteOk X (st :: more) ts) (rest : ClsOk X hds l) :
      ClsOk X (.ExceptHandler (some (.Name x q1)) none (st :: more) q2 :: hds) ((c, none, ts) :: l)
  | named {x n : Str} {i : Nat} {c : Value} {ts : Addr → Value → Option Addr → TS} {st : Stmt} {more : List Stmt} {q1 q2 : Pos} {hds : List ExceptHandler} {l : List Cl} (slot : X.N[i]? = some n) (own : X.env.kindOf n = some .local) (nm : Names X x c)
      (ok : SuiteOk X (st :: more) ts) (rest : ClsOk X hds l) : ClsOk X (.ExceptHandler (some (.Name x q1)) (some n) (st :: more) q2 :: hds) ((c, some i, ts) :: l)
section
variable {X : Cx} {D : Ends} {Wout : WX}
/-- an exception at a is held by the try of X: it was let out at sI, where σ and H stood -/
structure Caught (X : Cx) (pins : List (Addr × Obj)) (σ : St) (H : Hp) (B : Heap) (sI : Shared) (a : Addr) (cls : Value) (d : Option Addr) (s : Shared) : Prop where
  was : Inv X pins σ H sI
  ground : ∀ b o, sI.heap.get? b = some o → b ∉ frs X.stack → B.get? b = some o
  near : sI.heap.UpToSlots s.heap
  fly : HandSPX.FlyingZ B (X.env :: X.outer) a (Zc cls d) s.heap
  free : H a = none
  os : s.os = sI.os
  bare : AllBare s.gens
section
variable {pins : List (Addr × Obj)} {σ : St} {H : Hp} {B : Heap} {sI s : Shared} {a : Addr} {cls : Value} {d : Option Addr}
theorem Caught.now (C : Caught X pins σ H B sI a cls d s) : Inv X pins σ H s := C.was.landed C.ground C.fly.1 C.near C.os C.bare
/-- it is no frame -/
theorem Caught.apart (C : Caught X pins σ H B sI a cls d s) (hf : X.env.frame = some X.env.locals) : a ≠ X.env.locals ∧ a ∉ X.fs := by
  obtain ⟨oe, fields, at_, _, isF⟩ := C.fly.there
  have nfr : a ∉ frs (X.env :: X.outer) := by
    intro m
    obtain ⟨_, o, at2, no⟩ := C.fly.2.2.1.mem m
    obtain rfl : oe = o := Option.some.inj (at_.symm.trans at2)
    exact no _ isF
  refine ⟨fun z => nfr (List.mem_filterMap.mpr ⟨_, List.mem_cons_self, by rw [z]; exact hf⟩), fun m => ?_⟩
  obtain ⟨e, he, q⟩ := List.mem_filterMap.mp m
  exact nfr (List.mem_filterMap.mpr ⟨e, List.mem_cons_of_mem _ he, q⟩)
/-- in the suite of a clause -/
theorem Caught.within (C : Caught X pins σ H B sI a cls d s) (hf : X.env.frame = some X.env.locals) : ∃ oe, Zc cls d oe ∧ (∃ fields, oe.data = .fields fields) ∧ s.heap.get? a = some oe ∧ Inv (X.suite a ((a, oe) :: (X.pn ++ pins))) [] σ H s := by
  obtain ⟨oe, fields, at_, z, isF⟩ := C.fly.there
  exact ⟨oe, z, ⟨fields, isF⟩, at_, C.now.suite at_ isF C.free (C.apart hf).1 (C.apart hf).2⟩
/-- no clause is left: it goes on outward -/
theorem Caught.onward (C : Caught X pins σ H B sI a cls d s) (hs : X.stack = X.env :: X.outer) (hf : X.env.frame = some X.env.locals) (tk : Takes X Wout) (wish : Wout cls d σ H) : wpAny (model X.prog X.w) X.A (handleBy (.ref a) X.env []) (SP X pins D) X.xe s := by
  have raised : wpAny (model X.prog X.w) X.A (setFlight (.ref a) X.env.frame >>= fun _ => (throw (.ref a) : Sem Flow)) (SP X pins D) X.xe s := wpAny_bind (by
    rw [hf]
    exact HandSPX.setFlight_upZ C.fly fun h held up => wpAny_throw (tk _ _ ⟨a, B, sI, pins, σ, H, cls, d, rfl, C.was, C.ground, C.near.trans up, .inr (.inr (hs ▸ held)), C.free, C.os, C.bare, wish⟩))
  obtain ⟨_, _, _, oe, fields, T, oT, tk', at_, _, isF, one, _⟩ := id C.fly
  refine wpAny_handleBy_nil ?_
  unfold PySem.passOn
  refine wpAny_bind (wpAny_field at_ isF one ?_)
  rw [if_neg (by simp)]
  first
    | exact raised
    | exact wpAny_bind (wpAny_pure raised)
/-- what stands behind a suite with a name -/
theorem Caught.behind {oe : Obj} {n : Str} {i : Nat} {q2 : Pos} (J : Inv X pins σ H sI) (hN : X.N.Nodup) (slot : X.N[i]? = some n) (own : X.env.kindOf n = some .local) {f : Flow} {s' : Shared} (h : SP (X.suite a ((a, oe) :: (X.pn ++ pins))) [] (asEnds i D) f s') :
    wpAny (model X.prog X.w) X.A (do bindName X.env n .none; unbindBehindTheSuite X.env n q2) (fun _ s2 => SP X pins D f s2) X.xe s' := by
  have go : ∀ {σ1 : St} {H1 : Hp} {G : Shared → Prop}, Inv (X.suite a ((a, oe) :: (X.pn ++ pins))) [] σ1 H1 s' → (∀ s2, Inv X pins (σ1.set i none) H1 s2 → G s2) →
      wpAny (model X.prog X.w) X.A (do bindName X.env n .none; unbindBehindTheSuite X.env n q2) (fun _ s2 => G s2) X.xe s' := fun I g => gone_ok (I.unsuite J.ok) hN slot own g
  cases f with
  | next => obtain ⟨_, _, I, q⟩ := h; exact go I fun _ I2 => ⟨_, _, I2, q⟩
  | brk => obtain ⟨_, _, I, q⟩ := h; exact go I fun _ I2 => ⟨_, _, I2, q⟩
  | cont => obtain ⟨_, _, I, q⟩ := h; exact go I fun _ I2 => ⟨_, _, I2, q⟩
  | ret u => obtain ⟨_, _, _, I, r, q⟩ := h; exact go I fun _ I2 => ⟨_, _, _, I2, r, q⟩
theorem Caught.plainEnd {oe : Obj} (J : Inv X pins σ H sI) {f : Flow} {s' : Shared} (h : SP (X.suite a ((a, oe) :: (X.pn ++ pins))) [] D f s') : SP X pins D f s' := by
  cases f with
  | next => obtain ⟨_, _, I, q⟩ := h; exact ⟨_, _, I.unsuite J.ok, q⟩
  | brk => obtain ⟨_, _, I, q⟩ := h; exact ⟨_, _, I.unsuite J.ok, q⟩
  | cont => obtain ⟨_, _, I, q⟩ := h; exact ⟨_, _, I.unsuite J.ok, q⟩
  | ret u => obtain ⟨_, _, _, I, r, q⟩ := h; exact ⟨_, _, _, I.unsuite J.ok, r, q⟩
/-- the clause's class is asked for -/
theorem Caught.asked {x : Str} {c : Value} {q1 : Pos} {Q : Value → Shared → Prop} {E : Value → Shared → Prop} (C : Caught X pins σ H B sI a cls d s) (hf : X.env.frame = some X.env.locals) (nm : Names X x c) (q : Q c s) :
    wpAny (model X.prog X.w) (X.A.mark (some (.ref a))) (eval (.Name x q1) X.env) Q E s := by
  obtain ⟨oe, _, _, _, S⟩ := C.within hf
  obtain ⟨g, dbg, m | ⟨m, v, n⟩⟩ := nm
  · exact ld_glob (X := X.suite a ((a, oe) :: (X.pn ++ pins))) S g m q dbg
  · exact ld_blt (X := X.suite a ((a, oe) :: (X.pn ++ pins))) S g m v q n dbg
theorem Caught.fits {c : Value} {b : Bool} (C : Caught X pins σ H B sI a cls d s) (e : PySem.W.exmOne X.K cls c = some b) : PySem.W.Looks (model X.prog X.w) s.heap (excMatches (.ref a) c) b := by
  obtain ⟨oe, fields, at_, z, _⟩ := C.fly.there
  exact PySem.W.exm_one C.now.kIn (fun _ _ _ _ k q => wpAny_typeOf_ref (k _ _ at_) (z.1.symm ▸ q)) e
/-- a clause's suite runs, its exception landed anew -/
theorem Caught.lands (C : Caught X pins σ H B sI a cls d s) {k : Sem Unit → Prop} {Q : Unit → Shared → Prop} {E : Value → Shared → Prop} (h : ∀ s2, Caught X pins σ H B sI a cls d s2 → Q () s2) :
    wpAny (model X.prog X.w) (X.A.mark (some (.ref a))) (setFlight (.ref a) none) Q E s :=
  HandSPX.lands_againZ C.fly fun h2 fl2 up2 => h { s with heap := h2 } ⟨C.was, C.ground, C.near.trans up2, fl2, C.free, C.os, C.bare⟩
/-- the clauses, one after another -/
theorem Caught.through (hs : X.stack = X.env :: X.outer) (hf : X.env.frame = some X.env.locals) (hN : X.N.Nodup) (tk : Takes X Wout) {hds : List ExceptHandler} {l : List Cl} (ok : ClsOk X hds l) :
    ∀ {s : Shared}, Caught X pins σ H B sI a cls d s → wCls X.K Wout D l cls d σ H → wpAny (model X.prog X.w) X.A (handleBy (.ref a) X.env hds) (SP X pins D) X.xe s := by
  induction ok with
  | nil => exact fun C wish => C.onward hs hf tk wish
  | plain nm su _ ih =>
    intro s C ⟨b, e, yes, no⟩
    refine wpAny_handleBy_cons (codeAny_handlers_test (C.asked hf nm ((C.fits e).here ?_))) (fun z => nomatch z)
    cases b with
    | false => exact ih C (no rfl)
    | true =>
      refine codeAny_handlers_suite (C.lands (k := fun _ => True) fun s2 C2 => ?_)
      obtain ⟨oe, z, isF, _, S⟩ := C2.within hf
      exact wpAny_mono ((su a oe cls d (X.pn ++ pins) z isF).run [] s2 σ H D S (yes rfl a C.free)) (fun _ _ r => Caught.plainEnd C.was r) fun _ _ none_ => none_.elim
  | named slot own nm su _ ih =>
    intro s C ⟨b, e, yes, no⟩
    refine wpAny_handleBy_cons (codeAny_handlers_test (C.asked hf nm ((C.fits e).here ?_))) (fun z => nomatch z)
    cases b with
    | false => exact ih C (no rfl)
    | true =>
      refine codeAny_handlers_suite_as (C.lands (k := fun _ => True) fun s2 C2 => ?_)
      obtain ⟨oe, z, isF, _, S⟩ := C2.within hf
      refine store_ok (X := X.suite a ((a, oe) :: (X.pn ++ pins))) (v := .ref a) S hN slot (.inl own) rfl (fun s3 S3 => ?_) (.inr own)
      exact wpAny_mono ((su a oe cls d (X.pn ++ pins) z isF).run [] s3 _ H _ S3 (yes rfl a C.free)) (fun _ _ r => Caught.behind C.was hN slot own r) fun _ _ none_ => none_.elim
end
variable {body : List Stmt} {h₀ : ExceptHandler} {hds : List ExceptHandler} {l : List Cl} {pos : Pos} {tb : WX → TS}
theorem ps_try_cls (hs : X.stack = X.env :: X.outer) (hf : X.env.frame = some X.env.locals) (hN : X.N.Nodup) (tk : Takes X Wout)
    (hb : ∀ (W : WX) (pn : List (Addr × Obj)) (xe : Value → Shared → Prop), Takes (X.tr pn xe) W → PassesOwn (model X.prog X.w) X.A X.env xe → PSs (X.tr pn xe) body (tb W))
    (hh : ClsOk X (h₀ :: hds) l) : PS X (.Try body (h₀ :: hds) [] [] pos) (fun D σ H => tb (wCls X.K Wout D l) D σ H) := by
  refine ⟨fun pins s σ H D I wish => wpAny_Try_except ?_⟩
  have frames : X.A.frames = some (X.env :: X.outer) := hs ▸ I.ok.frames
  refine wpAny_mono ((hb (wCls X.K Wout D l) (X.pn ++ pins) (fun e s1 => wpAny (model X.prog X.w) X.A (noteFrame e X.env) (fun _ s2 => wpAny (model X.prog X.w) X.A (setFlight e none) (fun _ s3 => wpAny (model X.prog X.w) X.A (handleBy e X.env (h₀ :: hds)) (SP X pins D) X.xe s3) X.xe s2) X.xe s1)
    ?takes PassesOwn.looking).run [] s σ H D (I.toTry _) wish) ?ends (fun _ _ z => z)
  case takes =>
    intro u s1 ⟨a, B, sI, _, σ1, H1, cls, d, eu, J, ground, near, sky, free, os, bare, w⟩
    subst eu
    refine Sky.land Zc.steady frames hf (hs ▸ sky) fun h2 fly up2 => ?_
    exact Caught.through hs hf hN tk hh ⟨J.ofTry I.ok, ground, near.trans up2, fly, free, os, bare⟩ w
  case ends =>
    intro f s1 r
    cases f with
    | next => obtain ⟨_, _, J, q⟩ := r; exact wpAny_execs_nil ⟨_, _, J.ofTry I.ok, q⟩
    | brk => obtain ⟨_, _, J, q⟩ := r; exact ⟨_, _, J.ofTry I.ok, q⟩
    | cont => obtain ⟨_, _, J, q⟩ := r; exact ⟨_, _, J.ofTry I.ok, q⟩
    | ret u => obtain ⟨_, _, _, J, rv, q⟩ := r; exact ⟨_, _, _, J.ofTry I.ok, rv, q⟩
end
end L2

/-! Readings of defs that call what they got, and tell what was raised. -/
namespace LamX
open PySem PySem.Spec PyProof.Rows L2
theorem takes_len {X : Cx} {W : WX} (t : Takes X W) : Takes X (fun cls d σ H => σ.length = X.N.length → W cls d σ H) := fun u s' ⟨a, B, sI, pins, σ, H, cls, d, e, I, nb, up, sky, na, os, ag, w⟩ =>
  t u s' ⟨a, B, sI, pins, σ, H, cls, d, e, I, nb, up, sky, na, os, ag, w I.len⟩
/-- (tag, e.field) for the first clause that fits -/
def EF (K : PySem.W.Frag) (Q : VK) : List (Addr × Str × Str) → XK
  | [] => fun _ _ _ => False
  | (C, tag, fld) :: r => fun cls d H => ∃ b, PySem.W.exmOne K cls (.ref C) = some b ∧ (b = true → cls = .ref C ∧ ∃ dd v, d = some dd ∧ H dd = some (.xd [(fld, v)]) ∧ ∀ t, H t = none → Q (.ref t) (upd H t (.tup [.str tag, v]))) ∧ (b = false → EF K Q r cls d H)
/-- try: a() / except .. as e: return (tag, e.field) .. / return None -/
def TFault (K : PySem.W.Frag) (l : List (Addr × Str × Str)) : (XK → Hp → VK → Prop) → Hp → VK → Prop := fun tl H Q => tl (EF K Q l) H fun _ H' => Q .non H'
/-- return (tag, e.field) -/
def tsF (K : PySem.W.Frag) (i : Nat) (C : Addr) (tag fld : Str) (a : Addr) (cls : Value) (d : Option Addr) : TS := tRet (tTup (tCons (tC (.str tag)) (tCons (tXf a cls d C fld (tVar i)) tNil)))
def clF (K : PySem.W.Frag) (i : Nat) : List (Addr × Str × Str) → List Cl
  | [] => []
  | (C, tag, fld) :: r => (.ref C, some i, tsF K i C tag fld) :: clF K i r
theorem ef_cls {K : PySem.W.Frag} {i : Nat} {D : Ends} {l : List (Addr × Str × Str)} {cls : Value} {d : Option Addr} {σ : L2.St} {H : Hp} {n : Nat} (hn : σ.length = n) (hi : i < n) : EF K D.rt l cls d H → wCls K (fun _ _ _ _ => False) D (clF K i l) cls d σ H := by
  induction l with
  | nil => exact fun h => h
  | cons p r ih =>
    obtain ⟨C, tag, fld⟩ := p
    intro ⟨b, h1, h2, h3⟩
    refine ⟨b, h1, fun hb a ha => ?_, fun hb => ih (h3 hb)⟩
    obtain ⟨hc, dd, v, e1, e2, e3⟩ := h2 hb
    refine ⟨.ref a, ?_, rfl, hc, dd, _, v, e1, e2, ?_, ?_⟩
    · rw [List.getElem?_set_self (by omega)]
    · simp [List.lookup]
    · exact ⟨by show 2 ≤ sizeLine; decide, fun t ht => e3 t ht⟩
theorem ef_here {K : PySem.W.Frag} {Q : VK} {r : List (Addr × Str × Str)} {C : Addr} {tag fld : Str} {v : V} {d : Addr} {H : Hp} (h : PySem.W.exmOne K (.ref C) (.ref C) = some true) (hd : H d = some (.xd [(fld, v)])) (q : ∀ t H', Same H H' → H' t = some (.tup [.str tag, v]) → Q (.ref t) H') : EF K Q ((C, tag, fld) :: r) (.ref C) (some d) H :=
  ⟨true, h, fun _ => ⟨rfl, d, v, rfl, hd, fun t ht => q t _ (same_new ht) upd_same⟩, fun z => nomatch z⟩
theorem ef_next {K : PySem.W.Frag} {Q : VK} {r : List (Addr × Str × Str)} {C : Addr} {tag fld : Str} {cls : Value} {d : Option Addr} {H : Hp} (h : PySem.W.exmOne K cls (.ref C) = some false) (q : EF K Q r cls d H) : EF K Q ((C, tag, fld) :: r) cls d H :=
  ⟨false, h, fun z => (nomatch z), fun _ => q⟩
theorem g_fault {K : PySem.W.Frag} {l : List (Addr × Str × Str)} {tl : XK → Hp → VK → Prop} {H : Hp} {Q : VK} (q : tl (EF K Q l) H fun _ H' => Q .non H') : TFault K l tl H Q := q
theorem g_lam {T : List (Addr × Str)} {TT : (XK → Hp → VK → Prop) → Hp → VK → Prop} {t : XK → TE} {σ : L2.St} {H : Hp} {Q : VK} (hT : Tabs T H) (q : ∀ H1, ExtN H H1 → Tabs T H1 → TT (fun E H' Q' => t E σ H' Q') H1 Q) : tLam T TT t σ H Q := ⟨hT, q⟩
end LamX

section
open L2 in
local macro_rules | `(tactic| walk_at "gx") => `(tactic| first
  | ((with_reducible show tVar _ _ _ _); refine g_var rfl ?_)
  | with_reducible refine g_c ?_
  | with_reducible refine g_op ?_
  | with_reducible refine g_cons ?_
  | with_reducible refine g_nil ?_
  | with_reducible refine g_test ?_
  | with_reducible refine g_blp ?_
  | with_reducible refine g_asg ?_
  | (with_reducible refine g_name ?_; (try simp only [List.set_cons_zero, List.set_cons_succ]))
  | with_reducible refine g_call ?_
  | with_reducible refine g_cb ?_
  | with_reducible refine g_I0 ?_
  | with_reducible refine g_U ?_
  | with_reducible refine g_eqI ?_
  | with_reducible refine g_neI ?_
  | with_reducible refine g_if ?_
  | with_reducible refine g_ret ?_
  | with_reducible refine g_retN ?_
  | with_reducible refine g_next ?_
  | with_reducible refine g_drop ?_
  | with_reducible refine g_un ?_
  | with_reducible refine g_tb ?_
  | with_reducible refine g_tup ?_
  | with_reducible refine g_lst ?_
  | with_reducible refine g_and ?_
  | with_reducible refine g_or ?_
  | with_reducible refine g_not ?_
  | with_reducible refine g_andV ?_
  | with_reducible refine g_orV ?_
  | with_reducible refine g_notV ?_
  | with_reducible refine g_ifE ?_
  | with_reducible refine g_fld ?_
  | with_reducible refine g_tt ?_
  | with_reducible refine g_ff ?_
  | with_reducible refine g_ntt ?_
  | with_reducible refine g_nff ?_
  | with_reducible refine g_for ?_
  | with_reducible refine g_list ?_
  | with_reducible refine g_tupI ?_
  | with_reducible refine g_rng1 ?_
  | with_reducible refine g_rng2 ?_
  | with_reducible refine g_enumA ?_
  | with_reducible refine g_rev ?_
  | with_reducible refine g_lc ?_
  | with_reducible refine g_gcons ?_
  | with_reducible refine g_gnil ?_
  | with_reducible refine g_yes ?_
  | with_reducible refine g_sl ?_
  | with_reducible refine g_nopart ?_
  | with_reducible refine g_part ?_
  | with_reducible refine g_int ?_
  | with_reducible refine g_dget ?_
  | with_reducible refine g_dput ?_
  | with_reducible refine g_raiseX ?_
  | with_reducible refine g_tru ?_
  | with_reducible refine g_sub ?_
  | with_reducible refine g_isN ?_
  | with_reducible refine g_notN ?_
  | with_reducible refine g_bm ?_
  | with_reducible refine L2.g_bm0 ?_
  | with_reducible refine g_pair ?_
  | with_reducible refine g_pair0 ?_
  | with_reducible refine u_int1 ?_
  | with_reducible refine g_chain ?_
  | with_reducible refine L2.g_sfld ?_
  | (with_reducible refine g_par3 ?_)
  | (with_reducible refine g_three ?_; (try simp only [List.set_cons_zero, List.set_cons_succ]))
  | ((with_reducible apply L2.g_tupT); walk_at "up"; rfl)
  | (with_reducible refine g_par ?_)
  | (with_reducible refine g_two ?_; (try simp only [List.set_cons_zero, List.set_cons_succ]))
  )
local macro_rules | `(tactic| walk_at "go") => `(tactic| first | walk_at "gx" | with_reducible refine L2.g_seq ?_)
local macro_rules | `(tactic| walk_at "gou") => `(tactic| repeat (walk_at "gx"))
local macro_rules | `(tactic| walk_at "gos") => `(tactic| repeat (walk_at "go"))
local macro_rules | `(tactic| walk_at "sl") => `(tactic| first
  | assumption
  | exact L2.Same.l (by assumption)
  | exact L2.SameD.l (by assumption)
  | exact L2.extN_l (by assumption))
local macro_rules | `(tactic| walk_at "up") => `(tactic| first
  | assumption
  | ((with_reducible apply L2.SameL.lst); walk_at "sl"; walk_at "up")
  | ((with_reducible apply L2.SameL.tupA); walk_at "sl"; walk_at "up")
  | ((with_reducible apply L2.SameL.ins); walk_at "sl"; walk_at "up")
  | ((with_reducible apply Ev.PB.l); walk_at "sl"; walk_at "up")
  | ((with_reducible apply Ev.IsP.l); walk_at "sl"; walk_at "up")
  | ((with_reducible apply L2.sqL); walk_at "up")
  | ((with_reducible apply L2.sqT); walk_at "up")
  | ((with_reducible apply L2.SameL.seq); walk_at "sl"; walk_at "up")
  | ((with_reducible apply Ev.Pen.same); assumption; walk_at "up")
  | ((with_reducible apply Ev.Pen.extN); assumption; walk_at "up")
  | ((with_reducible apply L2.tabs_s); assumption; walk_at "up")
  | ((with_reducible apply L2.tabs_dd); assumption; walk_at "up")
  | ((with_reducible apply Or.inl); walk_at "up")
  | ((with_reducible apply Or.inr); walk_at "up"))
local macro_rules | `(tactic| walk_at "new") => `(tactic| (
  first
    | refine ⟨L2.size_ok (by rfl), fun p hp => ?_⟩
    | refine fun p hp => ?_
  generalize hX : L2.upd _ p _ = H1
  obtain ⟨e, h⟩ := L2.news hp hX
  clear hX))
local macro_rules | `(tactic| walk_at "o") => `(tactic| first
  | ((with_reducible apply Ev.o_add); walk_at "up"; walk_at "up"; rfl; rfl; rfl)
  | ((with_reducible apply Ev.o_sub); walk_at "up"; walk_at "up"; rfl; rfl; rfl)
  | ((with_reducible apply Ev.o_mul); walk_at "up"; walk_at "up"; rfl; rfl; rfl)
  | ((with_reducible apply Ev.o_addI); walk_at "up"; assumption; rfl; rfl; rfl)
  | ((with_reducible apply Ev.o_subI); walk_at "up"; assumption; rfl; rfl; rfl)
  | ((with_reducible apply Ev.o_mulI); walk_at "up"; assumption; rfl; rfl; rfl)
  | ((with_reducible apply Ev.o_radd); walk_at "up"; assumption; rfl; rfl; rfl)
  | ((with_reducible apply Ev.o_rsub); walk_at "up"; assumption; rfl; rfl; rfl)
  | ((with_reducible apply Ev.o_rmul); walk_at "up"; assumption; rfl; rfl; rfl)
  | ((with_reducible apply Ev.o_neg); walk_at "up"; rfl; rfl; rfl))
local macro_rules | `(tactic| walk_at "eq") => `(tactic| ((with_reducible apply Ev.u_ownB); assumption; walk_at "up"; walk_at "up"; (focus (intro k; first | rfl | exact Pl.e_add | exact Pl.e_sub | exact Pl.e_mul | exact Pl.e_rsub | exact Pl.e_rsub2))))
local macro_rules | `(tactic| walk_at "isp") => `(tactic| (apply Ev.u_isB; walk_at "up"; walk_at "up"; rfl; rfl))

/-! Pieces in the law's hands. -/
namespace Ev
open PySem PySem.Spec PyProof.Rows L2 LamX Pl
section
variable {K : PySem.W.Frag} {H H' : Hp}
theorem IsP.l {x C : Addr} {rs : List Int} {u : Int} (e : SameL H H') : IsP H x C rs u → IsP H' x C rs u := fun ⟨dx, t, h1, h2⟩ => ⟨dx, t, e.ins h1, e.tupA h2⟩
theorem IsP.upd {x C l : Addr} {rs : List Int} {u : Int} {xs : List V} {o : HO} (h : H l = some (.lst xs)) : IsP H x C rs u → IsP (upd H l o) x C rs u := fun ⟨dx, t, h1, h2⟩ =>
  ⟨dx, t, by rw [upd_ne (fun z => by rw [z, h] at h1; cases h1)]; exact h1, by rw [upd_ne (fun z => by rw [z, h] at h2; cases h2)]; exact h2⟩
theorem kd_ints {ns : List Int} : ∀ (i : Nat) (x : V), (ns.map V.int)[i]? = some x → Kd K H x true := fun i x h => by rw [at_ints h]; exact Kd.int
theorem argP_ints {a : Addr} {ns : List Int} {un : V} {ku : Bool} (h : SqL K H a (ns.map V.int) ∨ SqT K H a (ns.map V.int)) (hk : Kd K H un ku) (hu : ku = true → ∃ u : Int, un = .int u) (hl : ns.length < 100000) : ArgP K H a un (ns.map V.int) (fun _ => true) ku :=
  ⟨h, kd_ints, hk, fun _ => ⟨ns, rfl⟩, hu, by rw [List.length_map]; exact hl⟩
theorem argP_int {a : Addr} {ns : List Int} {u : Int} (h : SqL K H a (ns.map V.int) ∨ SqT K H a (ns.map V.int)) (hl : ns.length < 100000) : ArgP K H a (.int u) (ns.map V.int) (fun _ => true) true := argP_ints h Kd.int (fun _ => ⟨u, rfl⟩) hl
theorem excP_int {CR CU : Addr} {u : Int} {n : Nat} {E : XK} (h : 1 ≤ u) : ExcP CR CU H (.int u) n (fun _ => true) true E :=
  ⟨fun i _ h _ => (nomatch h), fun _ h => by
    rcases h with h | ⟨v, h1, h2⟩
    · cases h
    · cases h1; omega⟩
theorem ints_inj {ns ms : List Int} (h : ns.map V.int = ms.map V.int) : ns = ms := by
  induction ns generalizing ms with
  | nil => cases ms with
    | nil => rfl
    | cons a b => cases h
  | cons a r ih => cases ms with
    | nil => cases h
    | cons b s =>
      rw [List.map_cons, List.map_cons] at h
      injection h with h1 h2
      injection h1 with h1
      rw [h1, ih h2]
/-- Piece(a, u) of ints, u from 1 on -/
theorem u_piece {C CR CU a : Addr} {ns : List Int} {u : Int} {Q : VK} {E : XK} (h : SqL K H a (ns.map V.int) ∨ SqT K H a (ns.map V.int)) (hl : ns.length < 100000) (hu : 1 ≤ u) (hb : Bd 8000 u)
    (q : ∀ x H' rs u', H x = none → Same H H' → IsP H' x C rs u' → FormOf ns u rs u' → Q (.ref x) H') : spPiece K C CR CU [.ref a, .int u] H Q E :=
  ⟨a, .int u, ns.map V.int, fun _ => true, true, rfl, argP_int h hl, excP_int hu, fun ns' v _ e1 e2 _ => by
    cases e2
    rw [← ints_inj e1]
    exact ⟨hb, q⟩⟩
theorem u_isPiece {C x a : Addr} {rs ns : List Int} {u v : Int} {Q : VK} {E : XK} (h : IsP H x C rs u) (ha : SqL K H a (ns.map V.int)) (hf : FormOf ns v rs u) (hv : Bd 8000 v) (hb : ∀ x, x ∈ ns → Bd 8000 x) (hl : ns.length < 100000) (q : ∀ H', Same H H' → Q (.bl true) H') :
    spIsPiece K C [.ref x, .ref a, .int v] H Q E :=
  ⟨x, a, rs, ns, u, v, rfl, h, ha, hf, hv, fun k => by
    by_cases hk : k < ns.length
    · rw [at0_in hk]; exact hb _ (List.getElem_mem hk)
    · rw [at0_out (by omega)]; unfold Bd; exact Nat.two_pow_pos _, hl, q⟩
/-- p == y, p != y -/
theorem u_own {C x y : Addr} {rs rs' : List Int} {u u' : Int} {Q : VK} {E : XK} {neg : Bool} (hy : ∀ H x rs u, IsP H x C rs u → TyX K H (.ref x) (.ref C)) (h : IsP H x C rs u) (h' : IsP H y C rs' u') (q : Q (.bl (if neg then !(decide (rs = rs') && decide (u = u')) else (decide (rs = rs') && decide (u = u')))) H) :
    rOwn K C (spEqP K C) E neg (.ref x) (.ref y) H Q := by
  obtain ⟨dx, t, h1, h2⟩ := id h
  exact ⟨x, dx, _, .ref C, rfl, h1, hy _ _ _ _ h', by unfold PySem.W.notFirst; simp, x, .ref y, rs, u, rfl, h, .inl ⟨y, rs', u', rfl, h', _, rfl, q⟩⟩
theorem u_own_eq {C x y : Addr} {rs : List Int} {u : Int} {Q : VK} {E : XK} {neg : Bool} (hy : ∀ H x rs u, IsP H x C rs u → TyX K H (.ref x) (.ref C)) (h : IsP H x C rs u) (h' : IsP H y C rs u) (q : Q (.bl (!neg)) H) :
    rOwn K C (spEqP K C) E neg (.ref x) (.ref y) H Q := u_own hy h h' (by
      have e : (if neg then !(decide (rs = rs) && decide (u = u)) else (decide (rs = rs) && decide (u = u))) = !neg := by cases neg <;> simp
      rw [e]; exact q)
/-- (p.row, p.under) -/
theorem dp_pair {a t : Addr} {rs : List Int} {u : Int} (h : H a = some (.tup [.ref t, .int u])) (ht : H t = some (.tup (rs.map V.int))) : Dp K H (.ref a) (.tuple [.tuple (rs.map PyData.int), .int u]) :=
  .tup (sqT h) (.cons (.tup (sqT ht) (dpAll_ints rs)) (.cons (.int u) .nil))
theorem shaped_pair {rs : List Int} {u : Int} : SeqAt.shaped (.tuple [.tuple (rs.map PyData.int), .int u]) = true := by
  simp [SeqAt.shaped, PyData.canLay0, PyData.canLayAll0, PyData.depth, PyData.depthAll, PySem.W.ke_canLayAll0, PySem.W.ke_depthAll]
theorem u_nePair {a b t t' : Addr} {rs rs' : List Int} {u u' : Int} {Q : VK} (h : H a = some (.tup [.ref t, .int u])) (ht : H t = some (.tup (rs.map V.int))) (h' : H b = some (.tup [.ref t', .int u'])) (ht' : H t' = some (.tup (rs'.map V.int)))
    (q : Q (.bl (!(decide (rs = rs') && decide (u = u')))) H) : rNeD K (.ref a) (.ref b) H Q :=
  ⟨_, _, dp_pair h ht, dp_pair h' ht', shaped_pair, shaped_pair, by
    have e : PyData.eqv (.tuple [.tuple (rs.map PyData.int), .int u]) (.tuple [.tuple (rs'.map PyData.int), .int u']) = (decide (rs = rs') && decide (u = u')) := by
      simp only [PyData.eqv, PyData.eqvAll, eqv_ints, Bool.and_true]
      rfl
    rw [e]; exact q⟩
theorem u_ownL {C x y : Addr} {rs : List Int} {u : Int} {xs : List V} {Q : VK} {E : XK} {neg : Bool} (hk : PySem.W.kitOne K (.type "list") (.ref C) = some false) (hn : PySem.W.notFirst K C (.type "list") = true) (h : IsP H x C rs u) (h' : H y = some (.lst xs)) (q : Q (.bl neg) H) :
    rOwn K C (spEqP K C) E neg (.ref x) (.ref y) H Q := by
  obtain ⟨dx, t, h1, h2⟩ := id h
  refine ⟨x, dx, _, .type "list", rfl, h1, .base (.lst h'), hn, x, .ref y, rs, u, rfl, h, .inr ⟨_, .base (.lst h'), hk, false, rfl, ?_⟩⟩
  cases neg <;> exact q
/-- what is no under -/
inductive WrongV (H : Hp) : V → Prop
  | int (i : Int) (h : i < 1) : WrongV H (.int i)
  | bl (b : Bool) : WrongV H (.bl b)
  | non : WrongV H .non
  | str (x : Str) (h : PyData.canLay0 (.str x) = true) : WrongV H (.str x)
  | tup (t : Addr) (h : H t = some (.tup [.int 1])) : WrongV H (.ref t)
theorem WrongV.l {v : V} (e : SameL H H') : WrongV H v → WrongV H' v
  | .int i h => .int i h
  | .bl b => .bl b
  | .non => .non
  | .str x h => .str x h
  | .tup t h => .tup t (e.tupA h)
theorem WrongV.kd {v : V} : WrongV H v → ∃ ku, Kd K H v ku ∧ (ku = true → ∃ u : Int, v = .int u) ∧ (ku = false ∨ ∃ u : Int, v = .int u ∧ u < 1)
  | .int i h => ⟨true, Kd.int, fun _ => ⟨i, rfl⟩, .inr ⟨i, rfl, h⟩⟩
  | .bl b => ⟨false, Kd.bl, fun z => (nomatch z), .inl rfl⟩
  | .non => ⟨false, Kd.non, fun z => (nomatch z), .inl rfl⟩
  | .str x h => ⟨false, Kd.str, fun z => (nomatch z), .inl rfl⟩
  | .tup t h => ⟨false, Kd.tup h, fun z => (nomatch z), .inl rfl⟩
theorem WrongV.dp {v : V} : WrongV H v → ∃ d, Dp K H v d ∧ d.canLay0 = true ∧ d.depth ≤ 3 ∧ PyData.eqv d d = true
  | .int i h => ⟨.int i, .int i, rfl, Nat.zero_le 3, by simp [PyData.eqv]⟩
  | .bl b => ⟨.bool b, .bl b, rfl, Nat.zero_le 3, by simp [PyData.eqv]⟩
  | .non => ⟨.none, .non, rfl, Nat.zero_le 3, by simp [PyData.eqv]⟩
  | .str x h => ⟨.str x, .str x, h, Nat.zero_le 3, by simp [PyData.eqv]⟩
  | .tup t h => ⟨.tuple [.int 1], .tup (sqT h) (.cons (.int 1) .nil), by decide, by decide, by decide⟩
/-- what is no integer -/
inductive OddV (H : Hp) : V → Prop
  | bl (b : Bool) : OddV H (.bl b)
  | non : OddV H .non
  | str (x : Str) : OddV H (.str x)
  | tup (t : Addr) (xs : List V) (h : H t = some (.tup xs)) : OddV H (.ref t)
  | lst (t : Addr) (xs : List V) (h : H t = some (.lst xs)) : OddV H (.ref t)
theorem OddV.l {v : V} (e : SameL H H') : OddV H v → OddV H' v
  | .bl b => .bl b
  | .non => .non
  | .str x => .str x
  | .tup t xs h => .tup t xs (e.tupA h)
  | .lst t xs h => .lst t xs (e.lst h)
theorem OddV.kd {v : V} : OddV H v → Kd K H v false
  | .bl b => Kd.bl
  | .non => Kd.non
  | .str x => Kd.str
  | .tup t xs h => Kd.tup h
  | .lst t xs h => Kd.lst h
/-- a member put in another's place -/
theorem at0_put {rn : List Int} {k : Nat} {d : Int} (hk : k ≤ rn.length) (j : Nat) : at0 (rn.take k ++ [d] ++ rn.drop (k + 1)) j = if j = k then d else at0 rn j := by
  have hl : (rn.take k).length = k := by rw [List.length_take]; omega
  unfold at0
  rw [List.getD_eq_getElem?_getD, List.getD_eq_getElem?_getD]
  by_cases h1 : j < k
  · rw [List.append_assoc, List.getElem?_append_left (by omega), List.getElem?_take, if_pos h1, if_neg (by omega)]
  · by_cases h2 : j = k
    · subst h2
      rw [List.append_assoc, List.getElem?_append_right (by omega), hl, Nat.sub_self, if_pos rfl]
      rfl
    · rw [List.getElem?_append_right (by rw [List.length_append, hl, List.length_singleton]; omega), List.length_append, hl, List.length_singleton, List.getElem?_drop, if_neg h2, show k + 1 + (j - (k + 1)) = j by omega]
theorem cut_put {rn : List Int} {k : Nat} {d : Int} (hk : k ≤ rn.length) : ((rn.take k ++ [d] ++ rn.drop (k + 1)).drop k).take 1 = [d] := by
  have hl : (rn.take k).length = k := by rw [List.length_take]; omega
  rw [List.append_assoc, List.drop_append, List.drop_of_length_le (by omega), hl, Nat.sub_self]
  rfl
theorem put_eq {rn rs rs3 : List Int} {u v v3 d : Int} {k : Nat} (hk : k ≤ rn.length) (hu : 1 ≤ u) (hd : 1 ≤ d) (h3 : FormOf (rn.take k ++ [d] ++ rn.drop (k + 1)) u rs3 v3) (h : FormOf rn u rs v) :
    (decide (rs3 = rs) && decide (v3 = v)) = decide ((rn.drop k).take 1 = ((rn.take k ++ [d] ++ rn.drop (k + 1)).drop k).take 1) := by
  rw [cut_put hk]
  have key : (rs3 = rs ∧ v3 = v) ↔ at0 rn k = d := by
    constructor
    · rintro ⟨rfl, rfl⟩
      have e1 := h3.same k
      have e2 := h.same k
      rw [at0_put hk, if_pos rfl] at e1
      rw [e1] at e2
      have := h.least.pos
      exact (Int.eq_of_mul_eq_mul_right (by omega) e2).symm
    · intro e
      refine form_uniq h3 h (by omega) (by omega) fun j => ?_
      rw [at0_put hk]
      split
      · rename_i hj
        rw [hj, e]
      · rfl
  have key2 : (rn.drop k).take 1 = [d] ↔ at0 rn k = d := by
    by_cases hlt : k < rn.length
    · have e : (rn.drop k).take 1 = [rn[k]] := by rw [List.drop_eq_getElem_cons hlt]; rfl
      rw [at0_in hlt, e]
      constructor
      · intro z; exact (List.cons.inj z).1
      · intro z; rw [z]
    · rw [at0_out (by omega), List.drop_of_length_le (by omega)]
      simp
      omega
  by_cases e : at0 rn k = d
  · obtain ⟨h1, h2⟩ := key.mpr e
    rw [decide_eq_true h1, decide_eq_true h2, decide_eq_true (key2.mpr e)]
    rfl
  · rw [decide_eq_false (fun z => e (key2.mp z))]
    by_cases h1 : rs3 = rs
    · rw [decide_eq_false (fun z => e (key.mp ⟨h1, z⟩)), Bool.and_false]
    · rw [decide_eq_false h1, Bool.false_and]
/-- a row with an odd member -/
def kdBad (n k : Nat) (i : Nat) : Bool := !decide (i = k) && decide (i ≤ n)
theorem argP_bad {a : Addr} {rn : List Int} {k : Nat} {odd un : V} {ex : List V} {ku : Bool} (hk : k ≤ rn.length) (ho : OddV H odd) (hex : ex = [] ∨ ex = [.non]) (hl : rn.length < 1000)
    (ha : H a = some (.lst ((rn.map V.int).take k ++ [odd] ++ (rn.map V.int).drop k ++ ex))) (hu : Kd K H un ku) (hu2 : ku = true → ∃ u : Int, un = .int u) :
    ArgP K H a un ((rn.map V.int).take k ++ [odd] ++ (rn.map V.int).drop k ++ ex) (kdBad rn.length k) ku := by
  have hlm : (rn.map V.int).length = rn.length := List.length_map ..
  have h1 : ((rn.map V.int).take k).length = k := by rw [List.length_take]; omega
  have h2 : ((rn.map V.int).drop k).length = rn.length - k := by rw [List.length_drop]; omega
  have hle : ex.length ≤ 1 := by rcases hex with z | z <;> rw [z] <;> decide
  have h3 : ((rn.map V.int).take k ++ [odd] ++ (rn.map V.int).drop k).length = rn.length + 1 := by rw [List.length_append, List.length_append, h1, h2, List.length_singleton]; omega
  have h4 : ((rn.map V.int).take k ++ [odd] ++ (rn.map V.int).drop k ++ ex).length = rn.length + 1 + ex.length := by rw [List.length_append, h3]
  refine ⟨.inl (sqL ha), fun i x hx => ?_, hu, fun hall => ?_, hu2, by rw [h4]; omega⟩
  · unfold kdBad
    by_cases c1 : i < k
    · rw [List.append_assoc, List.append_assoc, List.getElem?_append_left (by omega), List.getElem?_take, if_pos c1] at hx
      rw [decide_eq_false (by omega), decide_eq_true (by omega)]
      exact kd_ints i x hx
    · by_cases c2 : i = k
      · subst c2
        rw [List.append_assoc, List.append_assoc, List.getElem?_append_right (by omega), h1, Nat.sub_self] at hx
        obtain rfl : odd = x := Option.some.inj hx
        rw [decide_eq_true rfl]
        exact ho.kd
      · by_cases c3 : i ≤ rn.length
        · rw [List.getElem?_append_left (by omega), List.getElem?_append_right (by rw [List.length_append, h1, List.length_singleton]; omega), List.getElem?_drop] at hx
          rw [decide_eq_false c2, decide_eq_true c3]
          exact kd_ints _ x hx
        · rw [List.getElem?_append_right (by omega)] at hx
          rw [decide_eq_false c3, Bool.and_false]
          rcases hex with z | z
          · rw [z] at hx; cases hx
          · rw [z, h3] at hx
            have hi := (List.getElem?_eq_some_iff.mp hx).1
            have hi2 : i - (rn.length + 1) = 0 := by simpa using hi
            rw [hi2] at hx
            obtain rfl : V.non = x := Option.some.inj hx
            exact Kd.non
  · have := hall k (by rw [h4]; omega)
    unfold kdBad at this
    rw [decide_eq_true rfl] at this
    cases this
end
end Ev

end
/-! A row's value. -/
namespace Pl
/-- the polynomial's value -/
def hv : List Int → Int → Int
  | [], _ => 0
  | a :: r, n => hv r n * n + a
theorem hv_nil {n : Int} : hv [] n = 0 := rfl
theorem hv_cons {a n : Int} {r : List Int} : hv (a :: r) n = hv r n * n + a := rfl
/-- behind i steps from the end -/
theorem hv_step {rs : List Int} {n : Int} {i : Nat} (h : i < rs.length) : hv (rs.drop (rs.length - (i + 1))) n = hv (rs.drop (rs.length - i)) n * n + at0 rs (rs.length - 1 - i) := by
  have e : rs.length - i = rs.length - (i + 1) + 1 := by omega
  rw [List.drop_eq_getElem_cons (show rs.length - (i + 1) < rs.length by omega), hv_cons, ← e, show rs.length - 1 - i = rs.length - (i + 1) by omega, at0_in (by omega)]
theorem hv_map_mul {c : Int} {n : Int} : ∀ {rs : List Int}, hv (rs.map fun x => x * c) n = hv rs n * c := by
  intro rs
  induction rs with
  | nil => simp [hv]
  | cons a r ih => rw [List.map_cons, hv_cons, ih, hv_cons, Int.add_mul, Int.mul_assoc, Int.mul_assoc, Int.mul_comm c n]
/-- two rows with the same members have one value -/
theorem hv_ext {n : Int} : ∀ {rs ns : List Int}, (∀ k, at0 rs k = at0 ns k) → hv rs n = hv ns n := by
  intro rs
  induction rs with
  | nil =>
    intro ns
    induction ns with
    | nil => intro _; rfl
    | cons a r ih =>
      intro h
      have h0 : (0 : Int) = a := h 0
      have hr : hv [] n = hv r n := ih fun k => h (k + 1)
      rw [hv_cons, ← hr, ← h0, hv_nil]
      simp
  | cons b s ih =>
    intro ns h
    cases ns with
    | nil =>
      have h0 : b = 0 := h 0
      have hr : hv s n = hv [] n := ih fun k => h (k + 1)
      rw [hv_cons, hr, h0, hv_nil]
      simp
    | cons a r =>
      have h0 : b = a := h 0
      rw [hv_cons, hv_cons, h0, ih fun k => h (k + 1)]
/-- the least form's value -/
theorem form_hv {ns rs : List Int} {v u n : Int} (h : FormOf ns v rs u) : hv rs n * v = hv ns n * u := by
  rw [← hv_map_mul, ← hv_map_mul]
  refine hv_ext fun k => ?_
  rw [at0_map (by simp), at0_map (by simp), h.same k]
/-! products -/
/-- the k-th member of the product, the first i members of xs taken -/
def conv (xs ys : List Int) : Nat → Nat → Int
  | 0, _ => 0
  | i + 1, k => conv xs ys i k + if i ≤ k then at0 xs i * at0 ys (k - i) else 0
/-- behind j more products of the i-th member -/
def convJ (xs ys : List Int) (i j k : Nat) : Int := conv xs ys i k + if i ≤ k ∧ k - i < j then at0 xs i * at0 ys (k - i) else 0
theorem convJ_zero {xs ys : List Int} {i k : Nat} : convJ xs ys i 0 k = conv xs ys i k := by unfold convJ; rw [if_neg (by omega)]; omega
theorem convJ_all {xs ys : List Int} {i k : Nat} : convJ xs ys i ys.length k = conv xs ys (i + 1) k := by
  unfold convJ
  show _ = conv xs ys i k + _
  by_cases h : i ≤ k
  · rw [if_pos h]
    by_cases h2 : k - i < ys.length
    · rw [if_pos ⟨h, h2⟩]
    · rw [if_neg (by omega), at0_out (l := ys) (by omega)]
      simp
  · rw [if_neg (by omega), if_neg h]
theorem convJ_step {xs ys : List Int} {i j k : Nat} : convJ xs ys i (j + 1) k = convJ xs ys i j k + if k = i + j then at0 xs i * at0 ys j else 0 := by
  unfold convJ
  by_cases h : k = i + j
  · subst h
    rw [if_pos (by omega), if_neg (by omega), if_pos rfl, show i + j - i = j by omega]
    omega
  · rw [if_neg h]
    by_cases h2 : i ≤ k ∧ k - i < j
    · rw [if_pos h2, if_pos (by omega)]
      omega
    · rw [if_neg h2, if_neg (by omega)]
      omega
theorem at0_set {zs : List Int} {i k : Nat} {v : Int} (h : i < zs.length) : at0 (zs.set i v) k = if k = i then v else at0 zs k := by
  unfold at0
  rw [List.getD_eq_getElem?_getD, List.getD_eq_getElem?_getD, List.getElem?_set]
  by_cases hk : i = k
  · subst hk
    rw [if_pos rfl, if_pos h, if_pos rfl]
    rfl
  · rw [if_neg hk, if_neg (fun z => hk z.symm)]
/-! whole values -/
/-- the row of the differences f(n + 1) - f(n) -/
def shift1 : List Int → List Int
  | [] => []
  | a :: r => addz (a :: shift1 r) (shift1 r)
where
  /-- member by member, the longer one's tail kept -/
  addz : List Int → List Int → List Int
  | [], ys => ys
  | xs, [] => xs
  | x :: xs, y :: ys => (x + y) :: addz xs ys
theorem hv_addz {n : Int} : ∀ (xs ys : List Int), hv (shift1.addz xs ys) n = hv xs n + hv ys n
  | [], ys => by rw [shift1.addz, hv_nil]; simp
  | x :: xs, [] => by rw [shift1.addz, hv_nil] <;> simp
  | x :: xs, y :: ys => by
    rw [shift1.addz, hv_cons, hv_addz xs ys, hv_cons, hv_cons, Int.add_mul]
    omega
theorem hv_shift1 {n : Int} : ∀ rs : List Int, hv (shift1 rs) n = hv rs (n + 1)
  | [] => rfl
  | a :: r => by
    rw [shift1, hv_addz, hv_cons, hv_shift1 r, hv_cons, Int.mul_add, Int.mul_one]
    omega
/-- a function whose d-th differences are 0 -/
def Flat : Nat → (Int → Int) → Prop
  | 0, f => ∀ n, f n = 0
  | d + 1, f => Flat d fun n => f (n + 1) - f n
theorem Flat.congr {d : Nat} : ∀ {f g : Int → Int}, (∀ n, f n = g n) → Flat d f → Flat d g := by
  induction d with
  | zero => intro f g e h n; rw [← e]; exact h n
  | succ d ih => intro f g e h; exact ih (fun n => by rw [e, e]) h
theorem Flat.add {d : Nat} : ∀ {f g : Int → Int}, Flat d f → Flat d g → Flat d fun n => f n + g n := by
  induction d with
  | zero => intro f g h1 h2 n; show f n + g n = 0; rw [h1 n, h2 n]; rfl
  | succ d ih =>
    intro f g h1 h2
    show Flat d fun n => f (n + 1) + g (n + 1) - (f n + g n)
    exact (ih h1 h2).congr fun n => by omega
theorem Flat.up {d : Nat} : ∀ {f : Int → Int}, Flat d f → Flat (d + 1) f := by
  induction d with
  | zero => intro f h n; show f (n + 1) - f n = 0; rw [h, h]; rfl
  | succ d ih => intro f h; exact ih h
/-- times n: one difference more -/
theorem Flat.mulN {d : Nat} : ∀ {f : Int → Int}, Flat d f → Flat (d + 1) fun n => f n * n := by
  induction d with
  | zero => intro f h n; show f (n + 1) * (n + 1) - f n * n = 0; rw [h, h]; simp
  | succ d ih =>
    intro f h
    show Flat (d + 1) fun n => f (n + 1) * (n + 1) - f n * n
    have h1 : Flat (d + 1) fun n => (f (n + 1) - f n) * n := ih h
    have h2 : Flat (d + 1) fun n => f (n + 1) := by
      have h3 : Flat (d + 1) fun n => f n + (f (n + 1) - f n) := Flat.add h (Flat.up h)
      exact h3.congr fun n => by omega
    exact (h1.add h2).congr fun n => by
      rw [Int.mul_add, Int.mul_one, Int.sub_mul]
      omega
theorem flat_hv : ∀ rs : List Int, Flat rs.length (hv rs)
  | [] => fun n => rfl
  | a :: r => by
    have h1 : Flat (r.length + 1) fun n => hv r n * n := (flat_hv r).mulN
    have h2 : Flat (r.length + 1) fun _ => a := by
      have : ∀ d, Flat (d + 1) fun _ => a := fun d => by
        induction d with
        | zero => intro n; show a - a = 0; omega
        | succ d ih => exact ih.up
      exact this _
    exact (h1.add h2).congr fun n => rfl
/-- divided at d neighbours, divided everywhere -/
theorem Flat.all {u : Int} {d : Nat} : ∀ {f : Int → Int} {s : Int}, Flat d f → (∀ i : Nat, i < d → u ∣ f (s + i)) → ∀ n, u ∣ f n := by
  induction d with
  | zero => intro f s h _ n; rw [h n]; exact Int.dvd_zero u
  | succ d ih =>
    intro f s h hd
    have hD : ∀ n, u ∣ f (n + 1) - f n := ih (s := s) h fun i hi => by
      have h1 := hd (i + 1) (by omega)
      have h2 := hd i (by omega)
      have e : s + ((i + 1 : Nat) : Int) = s + (i : Int) + 1 := by omega
      rw [e] at h1
      exact Int.dvd_sub h1 h2
    have h0 := hd 0 (Nat.succ_pos d)
    have e0 : s + ((0 : Nat) : Int) = s := by omega
    rw [e0] at h0
    have up : ∀ k : Nat, u ∣ f (s + k) := fun k => by
      induction k with
      | zero => rw [e0]; exact h0
      | succ k ihk =>
        have := Int.dvd_add ihk (hD (s + k))
        rw [show s + ((k + 1 : Nat) : Int) = s + (k : Int) + 1 by omega]
        rwa [show f (s + (k : Int)) + (f (s + (k : Int) + 1) - f (s + (k : Int))) = f (s + (k : Int) + 1) by omega] at this
    have down : ∀ k : Nat, u ∣ f (s - k) := fun k => by
      induction k with
      | zero => rw [show s - ((0 : Nat) : Int) = s by omega]; exact h0
      | succ k ihk =>
        have h3 := hD (s - ((k + 1 : Nat) : Int))
        rw [show s - ((k + 1 : Nat) : Int) + 1 = s - (k : Int) by omega] at h3
        have := Int.dvd_sub ihk h3
        rwa [show f (s - (k : Int)) - (f (s - (k : Int)) - f (s - ((k + 1 : Nat) : Int))) = f (s - ((k + 1 : Nat) : Int)) by omega] at this
    intro n
    by_cases hn : s ≤ n
    · have := up (n - s).toNat
      rwa [show s + (((n - s).toNat : Nat) : Int) = n by omega] at this
    · have := down (s - n).toNat
      rwa [show s - (((s - n).toNat : Nat) : Int) = n by omega] at this
/-- the values at the first places tell all -/
theorem whole_iff {rs : List Int} {u : Int} : (∀ i : Nat, i < rs.length → u ∣ hv rs i) ↔ ∀ n, u ∣ hv rs n :=
  ⟨fun h => (flat_hv rs).all (s := 0) fun i hi => by rw [show (0 : Int) + (i : Int) = (i : Int) by omega]; exact h i hi, fun h i _ => h i⟩
/-- a fraction's whole values are its least form's -/
theorem quot_eq {x y u v : Int} (hu : 0 < u) (hv : 0 < v) (h : x * u = y * v) : (v ∣ x ↔ u ∣ y) ∧ (u ∣ y → x.fdiv v = y.fdiv u) := by
  have back : ∀ {x y u v : Int}, 0 < u → 0 < v → x * u = y * v → u ∣ y → ∃ q, y = u * q ∧ x = v * q := by
    intro x y u v hu hv h ⟨q, hq⟩
    refine ⟨q, hq, ?_⟩
    have e : x * u = (v * q) * u := by rw [h, hq, Int.mul_comm v q, Int.mul_assoc, Int.mul_comm u, Int.mul_right_comm]
    exact Int.eq_of_mul_eq_mul_right (by omega) e
  refine ⟨⟨fun hx => ?_, fun hy => ?_⟩, fun hy => ?_⟩
  · obtain ⟨q, h1, h2⟩ := back hv hu h.symm hx
    exact ⟨q, h2⟩
  · obtain ⟨q, h1, h2⟩ := back hu hv h hy
    exact ⟨q, h2⟩
  · obtain ⟨q, h1, h2⟩ := back hu hv h hy
    rw [h1, h2, Int.fdiv_eq_ediv_of_nonneg _ (Int.le_of_lt hv), Int.fdiv_eq_ediv_of_nonneg _ (Int.le_of_lt hu), Int.mul_ediv_cancel_left _ (by omega), Int.mul_ediv_cancel_left _ (by omega)]
theorem form_zero {ns rs : List Int} {v u : Int} (h : FormOf ns v rs u) (hv : 0 < v) (k : Nat) : at0 rs k = 0 ↔ at0 ns k = 0 := by
  have e := h.same k
  have hu := h.least.pos
  constructor
  · intro z
    rw [z, Int.zero_mul] at e
    rcases Int.mul_eq_zero.mp e.symm with z | z
    · exact z
    · omega
  · intro z
    rw [z, Int.zero_mul] at e
    rcases Int.mul_eq_zero.mp e with z | z
    · exact z
    · omega
theorem form_sign {ns rs : List Int} {v u : Int} (h : FormOf ns v rs u) (hv : 0 < v) (k : Nat) : (at0 rs k).sign = (at0 ns k).sign := by
  have e := congrArg Int.sign (h.same k)
  rw [Int.sign_mul, Int.sign_mul, Int.sign_eq_one_of_pos hv, Int.sign_eq_one_of_pos h.least.pos, Int.mul_one, Int.mul_one] at e
  exact e
/-- the least form's length by the last member that is not 0 -/
theorem form_len0 {ns rs : List Int} {v u : Int} (h : FormOf ns v rs u) (hv : 0 < v) (hz : ∀ i, i < ns.length → at0 ns i = 0) : rs = [] := by
  cases hr : rs with
  | nil => rfl
  | cons a r =>
    exfalso
    have hne : rs ≠ [] := fun z => by rw [hr] at z; cases z
    have h1 := h.least.low hne
    rw [Ne, form_zero h hv] at h1
    by_cases hk : rs.length - 1 < ns.length
    · exact h1 (hz _ hk)
    · exact h1 (at0_out (by omega))
theorem form_len {ns rs : List Int} {v u : Int} {k : Nat} (h : FormOf ns v rs u) (hv : 0 < v) (hk : at0 ns k ≠ 0) (hz : ∀ i, k < i → i < ns.length → at0 ns i = 0) : rs.length = k + 1 := by
  have h1 : k < rs.length := by
    by_cases c : k < rs.length
    · exact c
    · exact absurd ((form_zero h hv k).mp (at0_out (by omega))) hk
  have hne : rs ≠ [] := fun z => by rw [z] at h1; exact absurd h1 (Nat.not_lt_zero _)
  have h2 := h.least.low hne
  rw [Ne, form_zero h hv] at h2
  by_cases c : k < rs.length - 1
  · by_cases c2 : rs.length - 1 < ns.length
    · exact absurd (hz _ c c2) h2
    · exact absurd (at0_out (by omega)) h2
  · omega
end Pl

/-! own operators: p op q, p op i, i op p, -p. -/
namespace L2
open PySem PySem.Spec PyProof.Rows
theorem rel_back {v : V} {u : Value} {Q : Value → Shared → Prop} {s : Shared} (r : RelV v u) (q : Q u s) : PySem.W.CmpBack Q u s := by
  cases v <;> first
    | (obtain rfl := r; exact q)
    | (obtain ⟨t, rfl⟩ := r; exact q)
    | exact (show PySem.W.CmpBack Q u s from by cases u <;> first | exact q | cases r)
/-- p op q, both of the class -/
def rOp2 (C : Addr) (sp : Sp) (E : XK) : R2 := fun x y H Q => ∃ a dx fs b dy gs, x = .ref a ∧ H a = some (.ins C dx fs) ∧ y = .ref b ∧ H b = some (.ins C dy gs) ∧ sp [x, y] H Q E
/-- p op i -/
def rOpI (C : Addr) (sp : Sp) (E : XK) : R2 := fun x y H Q => ∃ a dx fs i, x = .ref a ∧ H a = some (.ins C dx fs) ∧ y = .int i ∧ sp [x, y] H Q E
/-- -p -/
def rNegO (C : Addr) (sp : Sp) (E : XK) : V → Hp → VK → Prop := fun x H Q => ∃ a dx fs, x = .ref a ∧ H a = some (.ins C dx fs) ∧ sp [x] H Q E
section
variable {X : Cx} {C f : Addr} {fd : FuncData} {ps : List Str} {n : Nat} {sp : Sp} {E : XK} {op : Operator} {m : Str}
theorem op_own2 (G : OwnF X.prog X.w X.K X.mg X.base C m ps n sp) (hm : m = PySem.dunder op.info.2) (hc : PySem.W.selfFirst X.K C = true) (hr : Room n X.A) (hx : Passes (L2.CX X.prog X.w) X E) : OpR X (binaryOp op) (rOp2 C sp E) := by
  intro pins s σ H x y v u Q I rx ry hq
  obtain ⟨f, fd, F, hs, hf, hb⟩ := G.ex
  obtain ⟨a, dx, fs, b, dy, gs, rfl, ha, rfl, hb', q⟩ := hq
  subst hm
  cases rx
  cases ry
  obtain ⟨_, J1, _⟩ := ins_get I.hok ha
  obtain ⟨_, J, _⟩ := J1.look
  obtain ⟨_, J2, _⟩ := ins_get I.hok hb'
  obtain ⟨_, J', _⟩ := J2.look
  obtain ⟨mm, hF⟩ := I.fr
  refine PySem.W.binop_K hF I.ok.mod.kin J J'.type hc hs hf ?_
  refine wpAny_mono (run_two F ⟨hr, rfl⟩ hb hx I (x := .ref a) (u := .ref a) (y := .ref b) (v := .ref b) rfl rfl q) (fun r s' z => ?_) fun _ _ e => e
  obtain ⟨z, H', I', rz, q'⟩ := z
  exact rel_back rz ⟨z, H', I', rz, q'⟩
theorem op_ownI {fo ro rc : Option Value} (G : OwnF X.prog X.w X.K X.mg X.base C m ps n sp) (hm : m = PySem.dunder op.info.2) (hc : PySem.W.selfFirst X.K C = true) (h1 : PySem.W.findIn X.K (.type "int") (PySem.dunder op.info.2) = some fo) (h2 : PySem.W.findIn X.K (.type "int") (dunderR op.info.2) = some ro)
    (h3 : PySem.W.findIn X.K (.ref C) (dunderR op.info.2) = some rc) (h4 : rc = none ∨ ∃ g : Addr, rc = some (.ref g)) (h5 : PySem.W.subIn X.K (.type "int") (.ref C) = some false) (hr : Room n X.A) (hx : Passes (L2.CX X.prog X.w) X E) : OpR X (binaryOp op) (rOpI C sp E) := by
  intro pins s σ H x y v u Q I rx ry hq
  obtain ⟨f, fd, F, hs, hf, hb⟩ := G.ex
  obtain ⟨a, dx, fs, i, rfl, ha, rfl, q⟩ := hq
  subst hm
  cases rx
  obtain ⟨t, rfl⟩ := ry
  obtain ⟨_, J1, _⟩ := ins_get I.hok ha
  obtain ⟨_, J, _⟩ := J1.look
  obtain ⟨mm, hF⟩ := I.fr
  refine PySem.W.ksp_binT (T := "int") hF I.ok.mod.kin J (by rfl) hc hs hf h3 h4 h1 h2 h5 ?_
  refine wpAny_mono (run_two F ⟨hr, rfl⟩ hb hx I (x := .ref a) (u := .ref a) (y := .int i) (v := .int i t) rfl ⟨t, rfl⟩ q) (fun r s' z => ?_) fun _ _ e => e
  obtain ⟨z, H', I', rz, q'⟩ := z
  exact rel_back rz ⟨z, H', I', rz, q'⟩
theorem un_own (G : OwnF X.prog X.w X.K X.mg X.base C "__neg__" ps n sp) (hr : Room n X.A) (hx : Passes (L2.CX X.prog X.w) X E) : UnR X (unaryOp .USub) (rNegO C sp E) := by
  intro pins s σ H x v Q I rx hq
  obtain ⟨f, fd, F, hs, hf, hb⟩ := G.ex
  obtain ⟨a, dx, fs, rfl, ha, q⟩ := hq
  cases rx
  obtain ⟨_, J1, _⟩ := ins_get I.hok ha
  obtain ⟨_, J, _⟩ := J1.look
  obtain ⟨mm, hF⟩ := I.fr
  refine PySem.W.ksp_neg hF I.ok.mod.kin J hs hf ?_
  exact run_fn F hr hb .nil hx I (.cons (show RelV (.ref a) (.ref a) from rfl) .nil) (by simpa using q)
theorem op_ownEqK {K : PySem.W.Frag} (h : X.K = K) (G : OwnF X.prog X.w K X.mg X.base C "__eq__" ps n sp) (hr : Room n X.A) (hx : Passes (L2.CX X.prog X.w) X E) : OpR X (compareOp .Eq) (rOwn K C sp E false) := by
  subst h
  exact op_ownEq G hr hx
theorem op_ownNeK {K : PySem.W.Frag} (h : X.K = K) (G : OwnF X.prog X.w K X.mg X.base C "__eq__" ps n sp) (N : NoNe K C) (hr : Room (n + 1) X.A) (hx : Passes (L2.CX X.prog X.w) X E) : OpR X (compareOp .NotEq) (rOwn K C sp E true) := by
  subst h
  exact op_ownNe G N hr hx
end
end L2

/-! i op p: the int declines, the class's own reflected method answers. -/
namespace PySem.W
open PySem PySem.Calls PyProof.Rows PyProof.V PySem.Spec PySem.Builtin
/-- the int's own method gives NotImplemented at an instance -/
def Declines (B : Builtin) : Prop := ∀ (i : Int) (t : Tok) (b : Addr) (o : Obj), o.data = .plain → Meets (B ⟨[.int i t, .ref b], []⟩) (fun _ R s => s.heap.get? b = some o ∧ R (.ok (.ret .notImplemented)) s)
theorem dec_int_add : Declines Builtin.«int.__add__» := fun i t b o hp => .of_wp fun prog w A R s h => by
  obtain ⟨hh, g, d, tk, os⟩ := s
  obtain ⟨hl, h⟩ := h
  wp_walk using wpAny_load hl
  rw [hp]
  wp_walk
  exact ⟨_, rfl, h⟩
theorem dec_int_sub : Declines Builtin.«int.__sub__» := fun i t b o hp => .of_wp fun prog w A R s h => by
  obtain ⟨hh, g, d, tk, os⟩ := s
  obtain ⟨hl, h⟩ := h
  wp_walk using wpAny_load hl
  rw [hp]
  wp_walk
  exact ⟨_, rfl, h⟩
theorem dec_int_mul : Declines Builtin.«int.__mul__» := fun i t b o hp => .of_wp fun prog w A R s h => by
  obtain ⟨hh, g, d, tk, os⟩ := s
  obtain ⟨hl, h⟩ := h
  wp_walk using wpAny_load hl
  rw [hp]
  wp_walk
  exact ⟨_, rfl, h⟩
section
variable {prog : Program} {w : World} {A : Around} {E : Value → Shared → Prop} {s : Shared} {K : Frag} {x C L f g0 : Addr} {h₀ : Heap} {m : Str → Option Value} {ox : Obj} {od : Option Obj}
theorem rop_K {op : Operator} {i : Int} {t : Tok} {idl : String} {B : Builtin} {Q : Value → Shared → Prop} (slot : Slot "int" (PySem.dunder op.info.2) idl) (entry : entryFor table idl = some B) (args : ∀ a b, argsOk idl ⟨[a, b], []⟩) (dec : Declines B)
    (fills : fillsNumberSlot (.type "int") op.info.2 = pure true) (F : Fr h₀ L s.heap m) (X₀ : K.In h₀) (I : InstAt s.heap x ox C od) (hd : ox.data = .plain) (hc : selfFirst K C = true) (hs : findIn K (.ref C) (PySem.dunder op.info.2) = some (some (.ref g0)))
    (hr : findIn K (.ref C) (dunderR op.info.2) = some (some (.ref f))) (hf : isFn K (.ref f) = true) (hsub : subIn K (.ref C) (.type "int") = some false)
    (h : wpAny (model prog w) A (call (.ref f) [.ref x, .int i t]) (CmpBack Q) E s) : wpAny (model prog w) A (binaryOp op (.int i t) (.ref x)) Q E s := by
  have X := X₀.keeps F.keep
  obtain ⟨cd, rest, hcd, hm⟩ := ksp_first hc
  rcases hi : op.info with ⟨sym, nm⟩
  rw [hi] at slot fills hs hr
  dsimp only at slot fills hs hr
  have back := ksp_try (E := E) X I hr hf h
  have decl : ∀ {Q' : Option Value → Shared → Prop}, Q' none s → wpAny (model prog w) A (tryMethod (.int i t) (PySem.dunder nm) (.ref x)) Q' E s := fun q =>
    wpAny_tryMethod_declines (typeIs_int s i t) slot (call_meets slot (typeIs_int s i t) entry (args _ _) (dec i t x ox hd) ⟨I.at_, rfl, q⟩)
  have hne : (Value.type "int" == Value.ref C) = false := Bool.eq_false_iff.mpr fun q => by cases beq_iff_eq.mp q
  simp only [binaryOp, hi]
  refine wpAny_holding (wpAny_bind ?_)
  simp only [binaryOp1]
  refine wpAny_bind (wpAny_typeOf (typeIs_int s i t) (wpAny_bind (I.type.here (wpAny_bind (wpAny_of_eq fills ?_)))))
  simp only [hne, Bool.false_eq_true, if_false]
  refine wpAny_bind ((fills_K X hcd hm hs).here ?_)
  simp only [Bool.and_self, if_true]
  refine wpAny_bind ((looks_subIn X hsub).here ?_)
  have py : numberSlotInPython (.type "int") nm = pure false := rfl
  simp only [Bool.false_eq_true, if_false, pure_bind, Bool.not_false, Bool.and_self, if_true, py]
  refine wpAny_bind (decl ?_)
  refine wpAny_bind (wpAny_mono back (fun r s' z => ?_) fun _ _ e => e)
  obtain ⟨v, rfl, q⟩ := z
  exact wpAny_bind (wpAny_rule (wpAny_pure (wpAny_pure q)))
end
end PySem.W
namespace L2
open PySem PySem.Spec PyProof.Rows
/-- i op p -/
def rOpR (C : Addr) (sp : Sp) (E : XK) : R2 := fun x y H Q => ∃ a dx fs i, y = .ref a ∧ H a = some (.ins C dx fs) ∧ x = .int i ∧ sp [y, x] H Q E
section
variable {X : Cx} {C g0 : Addr} {ps : List Str} {n : Nat} {sp : Sp} {E : XK} {op : Operator} {m : Str} {idl : String} {B : Builtin}
theorem op_rop (slot : Slot "int" (PySem.dunder op.info.2) idl) (entry : entryFor table idl = some B) (args : ∀ a b, argsOk idl ⟨[a, b], []⟩) (dec : PySem.W.Declines B) (fills : fillsNumberSlot (.type "int") op.info.2 = pure true)
    (G : OwnF X.prog X.w X.K X.mg X.base C m ps n sp) (hm : m = dunderR op.info.2) (hc : PySem.W.selfFirst X.K C = true) (hs : PySem.W.findIn X.K (.ref C) (PySem.dunder op.info.2) = some (some (.ref g0))) (hsub : PySem.W.subIn X.K (.ref C) (.type "int") = some false)
    (hr : Room n X.A) (hx : Passes (L2.CX X.prog X.w) X E) : OpR X (binaryOp op) (rOpR C sp E) := by
  intro pins s σ H x y v u Q I rx ry hq
  obtain ⟨f, fd, F, hs', hf, hb⟩ := G.ex
  obtain ⟨a, dx, fs, i, rfl, ha, rfl, q⟩ := hq
  subst hm
  cases ry
  obtain ⟨t, rfl⟩ := rx
  obtain ⟨_, J1, _⟩ := ins_get I.hok ha
  obtain ⟨_, J, _⟩ := J1.look
  obtain ⟨mm, hF⟩ := I.fr
  refine PySem.W.rop_K slot entry args dec fills hF I.ok.mod.kin J rfl hc hs hs' hf hsub ?_
  refine wpAny_mono (run_two F ⟨hr, rfl⟩ hb hx I (x := .ref a) (u := .ref a) (y := .int i) (v := .int i t) rfl ⟨t, rfl⟩ q) (fun r s' z => ?_) fun _ _ e => e
  obtain ⟨z, H', I', rz, q'⟩ := z
  exact rel_back rz ⟨z, H', I', rz, q'⟩
theorem op_radd (G : OwnF X.prog X.w X.K X.mg X.base C "__radd__" ps n sp) (hc : PySem.W.selfFirst X.K C = true) (hs : PySem.W.findIn X.K (.ref C) "__add__" = some (some (.ref g0))) (hsub : PySem.W.subIn X.K (.ref C) (.type "int") = some false)
    (hr : Room n X.A) (hx : Passes (L2.CX X.prog X.w) X E) : OpR X (binaryOp .Add) (rOpR C sp E) := op_rop PySem.F.slot_int_add PySem.F.entry_int_add PySem.F.args_int_add_2 PySem.W.dec_int_add PySem.F.fills_int_add G (by rfl) hc hs hsub hr hx
theorem op_rsub (G : OwnF X.prog X.w X.K X.mg X.base C "__rsub__" ps n sp) (hc : PySem.W.selfFirst X.K C = true) (hs : PySem.W.findIn X.K (.ref C) "__sub__" = some (some (.ref g0))) (hsub : PySem.W.subIn X.K (.ref C) (.type "int") = some false)
    (hr : Room n X.A) (hx : Passes (L2.CX X.prog X.w) X E) : OpR X (binaryOp .Sub) (rOpR C sp E) := op_rop PySem.F.slot_int_sub PySem.F.entry_int_sub PySem.F.args_int_sub_2 PySem.W.dec_int_sub PySem.F.fills_int_sub G (by rfl) hc hs hsub hr hx
theorem op_rmul (G : OwnF X.prog X.w X.K X.mg X.base C "__rmul__" ps n sp) (hc : PySem.W.selfFirst X.K C = true) (hs : PySem.W.findIn X.K (.ref C) "__mul__" = some (some (.ref g0))) (hsub : PySem.W.subIn X.K (.ref C) (.type "int") = some false)
    (hr : Room n X.A) (hx : Passes (L2.CX X.prog X.w) X E) : OpR X (binaryOp .Mult) (rOpR C sp E) := op_rop PySem.F.slot_int_mul PySem.F.entry_int_mul PySem.F.args_int_mul_2 PySem.W.dec_int_mul PySem.F.fills_int_mul G (by rfl) hc hs hsub hr hx
end
end L2

section
open L2 in
local macro_rules | `(tactic| walk_at "gx") => `(tactic| first
  | ((with_reducible show tVar _ _ _ _); refine g_var rfl ?_)
  | with_reducible refine g_c ?_
  | with_reducible refine g_op ?_
  | with_reducible refine g_cons ?_
  | with_reducible refine g_nil ?_
  | with_reducible refine g_test ?_
  | with_reducible refine g_blp ?_
  | with_reducible refine g_asg ?_
  | (with_reducible refine g_name ?_; (try simp only [List.set_cons_zero, List.set_cons_succ]))
  | with_reducible refine g_call ?_
  | with_reducible refine g_cb ?_
  | with_reducible refine g_I0 ?_
  | with_reducible refine g_U ?_
  | with_reducible refine g_eqI ?_
  | with_reducible refine g_neI ?_
  | with_reducible refine g_if ?_
  | with_reducible refine g_ret ?_
  | with_reducible refine g_retN ?_
  | with_reducible refine g_next ?_
  | with_reducible refine g_drop ?_
  | with_reducible refine g_un ?_
  | with_reducible refine g_tb ?_
  | with_reducible refine g_tup ?_
  | with_reducible refine g_lst ?_
  | with_reducible refine g_and ?_
  | with_reducible refine g_or ?_
  | with_reducible refine g_not ?_
  | with_reducible refine g_andV ?_
  | with_reducible refine g_orV ?_
  | with_reducible refine g_notV ?_
  | with_reducible refine g_ifE ?_
  | with_reducible refine g_fld ?_
  | with_reducible refine g_tt ?_
  | with_reducible refine g_ff ?_
  | with_reducible refine g_ntt ?_
  | with_reducible refine g_nff ?_
  | with_reducible refine g_for ?_
  | with_reducible refine g_list ?_
  | with_reducible refine g_tupI ?_
  | with_reducible refine g_rng1 ?_
  | with_reducible refine g_rng2 ?_
  | with_reducible refine g_enumA ?_
  | with_reducible refine g_rev ?_
  | with_reducible refine g_lc ?_
  | with_reducible refine g_gcons ?_
  | with_reducible refine g_gnil ?_
  | with_reducible refine g_yes ?_
  | with_reducible refine g_sl ?_
  | with_reducible refine g_nopart ?_
  | with_reducible refine g_part ?_
  | with_reducible refine g_int ?_
  | with_reducible refine g_dget ?_
  | with_reducible refine g_dput ?_
  | with_reducible refine g_raiseX ?_
  | with_reducible refine g_tru ?_
  | with_reducible refine g_sub ?_
  | with_reducible refine g_isN ?_
  | with_reducible refine g_notN ?_
  | with_reducible refine g_bm ?_
  | with_reducible refine L2.g_bm0 ?_
  | with_reducible refine g_pair ?_
  | with_reducible refine g_pair0 ?_
  | with_reducible refine u_int1 ?_
  | with_reducible refine g_chain ?_
  | with_reducible refine L2.g_sfld ?_
  | (with_reducible refine g_par3 ?_)
  | (with_reducible refine g_three ?_; (try simp only [List.set_cons_zero, List.set_cons_succ]))
  | ((with_reducible apply L2.g_tupT); walk_at "up"; rfl)
  | (with_reducible refine g_par ?_)
  | (with_reducible refine g_two ?_; (try simp only [List.set_cons_zero, List.set_cons_succ]))
  )
local macro_rules | `(tactic| walk_at "go") => `(tactic| first | walk_at "gx" | with_reducible refine L2.g_seq ?_)
local macro_rules | `(tactic| walk_at "gou") => `(tactic| repeat (walk_at "gx"))
local macro_rules | `(tactic| walk_at "gos") => `(tactic| repeat (walk_at "go"))
local macro_rules | `(tactic| walk_at "sl") => `(tactic| first
  | assumption
  | exact L2.Same.l (by assumption)
  | exact L2.SameD.l (by assumption)
  | exact L2.extN_l (by assumption))
local macro_rules | `(tactic| walk_at "up") => `(tactic| first
  | assumption
  | ((with_reducible apply L2.SameL.lst); walk_at "sl"; walk_at "up")
  | ((with_reducible apply L2.SameL.tupA); walk_at "sl"; walk_at "up")
  | ((with_reducible apply L2.SameL.ins); walk_at "sl"; walk_at "up")
  | ((with_reducible apply Ev.PB.l); walk_at "sl"; walk_at "up")
  | ((with_reducible apply Ev.IsP.l); walk_at "sl"; walk_at "up")
  | ((with_reducible apply L2.sqL); walk_at "up")
  | ((with_reducible apply L2.sqT); walk_at "up")
  | ((with_reducible apply L2.SameL.seq); walk_at "sl"; walk_at "up")
  | ((with_reducible apply Ev.Pen.same); assumption; walk_at "up")
  | ((with_reducible apply Ev.Pen.extN); assumption; walk_at "up")
  | ((with_reducible apply L2.tabs_s); assumption; walk_at "up")
  | ((with_reducible apply L2.tabs_dd); assumption; walk_at "up")
  | ((with_reducible apply Or.inl); walk_at "up")
  | ((with_reducible apply Or.inr); walk_at "up"))
local macro_rules | `(tactic| walk_at "new") => `(tactic| (
  first
    | refine ⟨L2.size_ok (by rfl), fun p hp => ?_⟩
    | refine fun p hp => ?_
  generalize hX : L2.upd _ p _ = H1
  obtain ⟨e, h⟩ := L2.news hp hX
  clear hX))
local macro_rules | `(tactic| walk_at "o") => `(tactic| first
  | ((with_reducible apply Ev.o_add); walk_at "up"; walk_at "up"; rfl; rfl; rfl)
  | ((with_reducible apply Ev.o_sub); walk_at "up"; walk_at "up"; rfl; rfl; rfl)
  | ((with_reducible apply Ev.o_mul); walk_at "up"; walk_at "up"; rfl; rfl; rfl)
  | ((with_reducible apply Ev.o_addI); walk_at "up"; assumption; rfl; rfl; rfl)
  | ((with_reducible apply Ev.o_subI); walk_at "up"; assumption; rfl; rfl; rfl)
  | ((with_reducible apply Ev.o_mulI); walk_at "up"; assumption; rfl; rfl; rfl)
  | ((with_reducible apply Ev.o_radd); walk_at "up"; assumption; rfl; rfl; rfl)
  | ((with_reducible apply Ev.o_rsub); walk_at "up"; assumption; rfl; rfl; rfl)
  | ((with_reducible apply Ev.o_rmul); walk_at "up"; assumption; rfl; rfl; rfl)
  | ((with_reducible apply Ev.o_neg); walk_at "up"; rfl; rfl; rfl))
local macro_rules | `(tactic| walk_at "eq") => `(tactic| ((with_reducible apply Ev.u_ownB); assumption; walk_at "up"; walk_at "up"; (focus (intro k; first | rfl | exact Pl.e_add | exact Pl.e_sub | exact Pl.e_mul | exact Pl.e_rsub | exact Pl.e_rsub2))))
local macro_rules | `(tactic| walk_at "isp") => `(tactic| (apply Ev.u_isB; walk_at "up"; walk_at "up"; rfl; rfl))

/-! sums and products of pieces -/
namespace Ev
open PySem PySem.Spec PyProof.Rows L2 Pl
/-- a term: a piece, or an integer -/
def TermV (H : Hp) (v : V) (C : Addr) : Prop := (∃ x rs u, v = .ref x ∧ IsP H x C rs u) ∨ ∃ i : Int, v = .int i
section
variable {P : Program} {w : World} {K : PySem.W.Frag} {mg : Str → Option Value} {base : Heap}
def spTerm (C : Addr) : Sp := fun vs H Q _ => ∃ v, vs = [v] ∧ TermV H v C ∧ Q (.bl true) H
theorem sc_is_term : FnScope ["value"] ["value"] (defScope (topS 19)) := ⟨rfl, rfl, rfl, by decide +kernel, rfl, by decide +kernel, by decide +kernel⟩
theorem ok_is_term {C_Piece : Addr} (B : Bn mg) (g_Piece : mg "Piece" = some (.ref C_Piece)) (hy : ∀ H x rs u, IsP H x C_Piece rs u → TyX K H (.ref x) (.ref C_Piece)) (hi : PySem.W.kitOne K (.ref C_Piece) (.ref C_Piece) = some true) (hn : PySem.W.kitOne K (.type "int") (.ref C_Piece) = some false)
    (G_is_integer : CallF P w K mg base "is_integer" ["value"] 1 (spIsInteger K)) {f : Addr} {fd : FuncData} (F : Fun K "is_term" "is_term" (topS 19) f fd) : FnOk P w K mg base (L2.CX P w) 2 f fd ["value"] (spTerm C_Piece) := by
  have nd := sc_is_term.nd
  refine F.okX sc_is_term (fun vs H Q E h => ?_) (fun cdv A outer s H vs Q E hr h => ?_)
  · obtain ⟨v, rfl, _⟩ := h
    rfl
  · refine ⟨_, (pss_one (ps_ret (pe_or (pe_callB (call_isiK' (K := K) rfl) (by rfl) B.isinstance (by decide +kernel) (pa_cons (pv 0) (pa_cons (pe_glob (v := .ref C_Piece) rfl g_Piece rfl) pa_nil))) (pe_one (pe_callF G_is_integer (hr.mono (by decide)) rfl passL (pa_cons (pv 0) pa_nil)))))), ?_⟩
    obtain ⟨v, rfl, ⟨x, rs, u, rfl, hP⟩ | ⟨i, rfl⟩, q⟩ := h
    · refine g_st (σ' := [some (.ref x)]) rfl ?_
      walk_at "gos"
      refine u_isi (.own C_Piece) (hy _ _ _ _ hP) hi ?_
      walk_at "gos"
      exact q
    · refine g_st (σ' := [some (.int i)]) rfl ?_
      walk_at "gos"
      refine u_isi (.own C_Piece) (.base (.int i)) hn ?_
      walk_at "gos"
      exact ⟨_, true, rfl, Kd.int, q⟩
def spAsP (K : PySem.W.Frag) (C : Addr) : Sp := fun vs H Q _ => (∃ x rs u, vs = [.ref x] ∧ IsP H x C rs u ∧ Q (.ref x) H) ∨
  ∃ i : Int, vs = [.int i] ∧ ∀ y H' rs u, Same H H' → IsP H' y C rs u → FormOf [i] 1 rs u → Q (.ref y) H'
theorem sc_as_piece : FnScope ["value"] ["value"] (defScope (topS 20)) := ⟨rfl, rfl, rfl, by decide +kernel, rfl, by decide +kernel, by decide +kernel⟩
theorem ok_as_piece {C_Piece CR CU : Addr} (B : Bn mg) (g_Piece : mg "Piece" = some (.ref C_Piece)) (hy : ∀ H x rs u, IsP H x C_Piece rs u → TyX K H (.ref x) (.ref C_Piece)) (hi : PySem.W.kitOne K (.ref C_Piece) (.ref C_Piece) = some true) (hn : PySem.W.kitOne K (.type "int") (.ref C_Piece) = some false)
    (M_Piece_1 : MakeF P w K mg base "Piece" C_Piece 5 (fun vs H Q E => ∃ a : Addr, vs = [.ref a] ∧ spPiece K C_Piece CR CU [.ref a, .int 1] H Q E)) {f : Addr} {fd : FuncData} (F : Fun K "as_piece" "as_piece" (topS 20) f fd) :
    FnOk P w K mg base (L2.CX P w) 7 f fd ["value"] (spAsP K C_Piece) := by
  have nd := sc_as_piece.nd
  refine F.okX sc_as_piece (fun vs H Q E h => ?_) (fun cdv A outer s H vs Q E hr h => ?_)
  · rcases h with ⟨x, rs, u, rfl, _⟩ | ⟨i, rfl, _⟩
    · rfl
    · rfl
  · refine ⟨_, (pss_one (ps_ret (pe_ifExp (pt_val (pe_callB (call_isiK' (K := K) rfl) (by rfl) B.isinstance (by decide +kernel) (pa_cons (pv 0) (pa_cons (pe_glob (v := .ref C_Piece) rfl g_Piece rfl) pa_nil)))) (pv 0) (pe_makeF M_Piece_1 (hr.mono (by decide)) rfl (passes_call (takes_of rfl rfl rfl rfl) (fun _ _ _ _ h => h)) (pa_cons (pe_tup (pa_cons (pv 0) pa_nil)) pa_nil))))), ?_⟩
    rcases h with ⟨x, rs, u, rfl, hP, q⟩ | ⟨i, rfl, q⟩
    · refine g_st (σ' := [some (.ref x)]) rfl ?_
      walk_at "gos"
      refine u_isi (.own C_Piece) (hy _ _ _ _ hP) hi ?_
      walk_at "gos"
      exact q
    · refine g_st (σ' := [some (.int i)]) rfl ?_
      walk_at "gos"
      refine u_isi (.own C_Piece) (.base (.int i)) hn ?_
      walk_at "gos"
      refine ⟨by show 1 ≤ sizeLine; decide, fun t ht => ?_⟩
      have e1 := same_new (o := .tup [V.int i]) ht
      have h1 : (upd H t (.tup [V.int i])) t = some (.tup [V.int i]) := upd_same
      generalize upd H t (.tup [V.int i]) = H1 at e1 h1 ⊢
      walk_at "gos"
      refine ⟨t, rfl, u_piece (ns := [i]) (.inr (sqT h1)) (Nat.le_of_ble_eq_true rfl) (by decide) (Bd.mono (n := 1) (by unfold Bd; decide) (by decide)) fun y H2 rs u _ e2 hP hF => ?_⟩
      exact q y H2 rs u (e1.trans e2) hP hF
/-- one + other -/
structure SmP (rs : List Int) (u : Int) : Prop where
  len : rs.length ≤ 1000
  row : ∀ k, Bd 100000 (at0 rs k)
  pos : 0 < u
  und : Bd 3900 u
def spAdded (K : PySem.W.Frag) (C : Addr) : Sp := fun vs H Q _ => ∃ (x y : Addr) (r1 r2 : List Int) (u1 u2 : Int), vs = [.ref x, .ref y] ∧ IsP H x C r1 u1 ∧ IsP H y C r2 u2 ∧ SmP r1 u1 ∧ SmP r2 u2 ∧
  ∀ z H' rs u ns, Same H H' → IsP H' z C rs u → ns.length = max r1.length r2.length → (∀ k, at0 ns k = at0 r1 k * u2 + at0 r2 k * u1) → FormOf ns (u1 * u2) rs u → Q (.ref z) H'
theorem sc_added : FnScope ["one", "other", "many", "first", "second", "a", "b", "row"] ["one", "other"] (defScope (topS 21)) := ⟨rfl, rfl, rfl, by decide +kernel, rfl, by decide +kernel, by decide +kernel⟩
theorem ok_added {C_Piece CR CU : Addr} (B : Bn mg) (c_Piece : Cls K C_Piece) (n_row : NoAttr K C_Piece "row") (n_under : NoAttr K C_Piece "under") (M_Piece : MakeF P w K mg base "Piece" C_Piece 5 (spPiece K C_Piece CR CU)) {f : Addr} {fd : FuncData} (F : Fun K "added" "added" (topS 21) f fd) :
    FnOk P w K mg base (L2.CX P w) 7 f fd ["one", "other"] (spAdded K C_Piece) := by
  have nd := sc_added.nd
  refine F.okX sc_added (fun vs H Q E h => ?_) (fun cdv A outer s H vs Q E hr h => ?_)
  · obtain ⟨x, y, r1, r2, u1, u2, rfl, _⟩ := h
    rfl
  · refine ⟨_, (pss_cons (ps_set (i := 2) nd rfl (.inl rfl) (pe_callB (call_max2 rfl) (by rfl) B.max_ (by decide +kernel) (pa_cons (pe_callB (call_lnK (K := K) rfl) (by rfl) B.len_ (by decide +kernel) (pa_cons (pe_fldK (K := K) rfl (pv 0) rfl) pa_nil)) (pa_cons (pe_callB (call_lnK (K := K) rfl) (by rfl) B.len_ (by decide +kernel) (pa_cons (pe_fldK (K := K) rfl (pv 1) rfl) pa_nil)) pa_nil))))
      (pss_cons (ps_set (i := 3) nd rfl (.inl rfl) (pe_op op_cat (pe_callTy (call_lstK (K := K) rfl) (by rfl) B.list_ (by decide +kernel) (pa_cons (pe_fldK (K := K) rfl (pv 0) rfl) pa_nil)) (pe_op op_rep (pe_lst (pa_cons pe_int pa_nil)) (pe_op op_sub (pv 2) (pe_callB (call_lnK (K := K) rfl) (by rfl) B.len_ (by decide +kernel) (pa_cons (pe_fldK (K := K) rfl (pv 0) rfl) pa_nil))))))
      (pss_cons (ps_set (i := 4) nd rfl (.inl rfl) (pe_op op_cat (pe_callTy (call_lstK (K := K) rfl) (by rfl) B.list_ (by decide +kernel) (pa_cons (pe_fldK (K := K) rfl (pv 1) rfl) pa_nil)) (pe_op op_rep (pe_lst (pa_cons pe_int pa_nil)) (pe_op op_sub (pv 2) (pe_callB (call_lnK (K := K) rfl) (by rfl) B.len_ (by decide +kernel) (pa_cons (pe_fldK (K := K) rfl (pv 1) rfl) pa_nil))))))
      (pss_cons (ps_setLc (i := 7) (own := [("a", 5), ("b", 6)]) (g := gTup K 2 (gCons (gName 5) (gCons (gName 6) (gNil)))) (tt := tYes) rfl nd rfl rfl (sw_true rfl rfl rfl (by decide +kernel)) (pi_zipK (K := K) rfl (by rfl) B.zip (pa_cons (pv 3) (pa_cons (pv 4) pa_nil))) (blkOk_by (N := ["one", "other", "many", "first", "second", "a", "b", "row"]) (sc := defScope (topS 21)) (by decide +kernel)) (fun _ _ _ _ _ => (pg_tupK (K := K) (n := 2) rfl rfl (pgs_cons (pg_name (i := 5) nd rfl (.inl rfl)) (pgs_cons (pg_name (i := 6) nd rfl (.inl rfl)) pgs_nil)))) (fun _ _ _ _ _ => pts_nil) (fun _ _ _ _ _ => (pe_op op_add (pe_op op_mulX (pv 5) (pe_fldK (K := K) rfl (pv 1) rfl)) (pe_op op_mulX (pv 6) (pe_fldK (K := K) rfl (pv 0) rfl)))))
      (pss_one (ps_ret (pe_makeF M_Piece (hr.mono (by decide)) rfl (passes_call (takes_of rfl rfl rfl rfl) (fun _ _ _ _ h => h)) (pa_cons (pv 7) (pa_cons (pe_op op_mulX (pe_fldK (K := K) rfl (pv 0) rfl) (pe_fldK (K := K) rfl (pv 1) rfl)) pa_nil))))))))), ?_⟩
    obtain ⟨x, y, r1, r2, u1, u2, rfl, ⟨d1, t1, hx, ht1⟩, ⟨d2, t2, hy, ht2⟩, s1, s2, q⟩ := h
    refine g_st (σ' := [some (.ref x), some (.ref y), none, none, none, none, none, none]) rfl ?_
    walk_at "gos"
    refine u_tfld rfl hx c_Piece n_row rfl ?_
    walk_at "gos"
    refine u_lenT (sqT ht1) ?_
    walk_at "gos"
    refine u_tfld rfl hy c_Piece n_row rfl ?_
    walk_at "gos"
    refine u_lenT (sqT ht2) ?_
    have hmx : (r1.map V.int).length = r1.length := List.length_map ..
    have hmy : (r2.map V.int).length = r2.length := List.length_map ..
    rw [hmx, hmy]
    refine ⟨_, _, rfl, ?_⟩
    have hm : (if (r2.length : Int) > (r1.length : Int) then (r2.length : Int) else (r1.length : Int)) = ((max r1.length r2.length : Nat) : Int) := by split <;> omega
    rw [hm]
    have hl1 := s1.len
    have hl2 := s2.len
    generalize hM : max r1.length r2.length = M
    walk_at "gos"
    refine u_tfld rfl hx c_Piece n_row rfl ?_
    walk_at "gos"
    refine ⟨t1, _, rfl, .inr (sqT ht1), fun z1 hz1 => ?_⟩
    have e1 := same_new (o := .lst (r1.map V.int)) hz1
    have h1 : (upd H z1 (.lst (r1.map V.int))) z1 = some (.lst (r1.map V.int)) := upd_same
    generalize upd H z1 (.lst (r1.map V.int)) = H1 at e1 h1 ⊢
    walk_at "gos"
    refine ⟨by show 1 ≤ sizeLine; decide, fun z2 hz2 => ?_⟩
    have e2 := same_new (o := .lst [V.int 0]) hz2
    have h2 : (upd H1 z2 (.lst [V.int 0])) z2 = some (.lst [V.int 0]) := upd_same
    generalize upd H1 z2 (.lst [V.int 0]) = H2 at e2 h2 ⊢
    have e12 := e1.trans e2
    walk_at "gos"
    refine u_tfld rfl (e12 _ _ hx) c_Piece n_row rfl ?_
    walk_at "gos"
    refine u_lenT (sqT (e12 _ _ ht1)) ?_
    rw [hmx]
    walk_at "gos"
    refine u_rep h2 (by omega) (by omega) fun f1 H3 hf1 e3 h3 => ?_
    refine u_cat ((e2.trans e3) _ _ h1) h3 (by rw [hmx, List.length_replicate]; omega) fun f2 H4 hf2 e4 h4 => ?_
    have e14 := e12.trans (e3.trans e4)
    walk_at "gos"
    refine u_tfld rfl (e14 _ _ hy) c_Piece n_row rfl ?_
    walk_at "gos"
    refine ⟨t2, _, rfl, .inr (sqT (e14 _ _ ht2)), fun z3 hz3 => ?_⟩
    have e5 := same_new (o := .lst (r2.map V.int)) hz3
    have h5 : (upd H4 z3 (.lst (r2.map V.int))) z3 = some (.lst (r2.map V.int)) := upd_same
    generalize upd H4 z3 (.lst (r2.map V.int)) = H5 at e5 h5 ⊢
    walk_at "gos"
    refine ⟨by show 1 ≤ sizeLine; decide, fun z4 hz4 => ?_⟩
    have e6 := same_new (o := .lst [V.int 0]) hz4
    have h6 : (upd H5 z4 (.lst [V.int 0])) z4 = some (.lst [V.int 0]) := upd_same
    generalize upd H5 z4 (.lst [V.int 0]) = H6 at e6 h6 ⊢
    have e16 := e14.trans (e5.trans e6)
    walk_at "gos"
    refine u_tfld rfl (e16 _ _ hy) c_Piece n_row rfl ?_
    walk_at "gos"
    refine u_lenT (sqT (e16 _ _ ht2)) ?_
    rw [hmy]
    walk_at "gos"
    refine u_rep h6 (by omega) (by omega) fun f3 H7 hf3 e7 h7 => ?_
    refine u_cat ((e6.trans e7) _ _ h5) h7 (by rw [hmy, List.length_replicate]; omega) fun f4 H8 hf4 e8 h8 => ?_
    have e18 := e16.trans (e7.trans e8)
    have h48 := (e5.trans (e6.trans (e7.trans e8))) _ _ h4
    walk_at "gos"
    refine g_zip ?_
    walk_at "gos"
    have pads : ∀ (l : List Int) (n k : Nat), k < l.length + n → (l.map V.int ++ List.replicate n (V.int 0))[k]? = some (V.int (at0 l k)) := fun l n k hk => by
      have hl : (l.map V.int).length = l.length := List.length_map ..
      by_cases h : k < l.length
      · rw [List.getElem?_append_left (by omega), List.getElem?_map, List.getElem?_eq_getElem h, at0_in h]; rfl
      · rw [List.getElem?_append_right (by omega), List.getElem?_replicate, if_pos (by omega), at0_out (by omega)]
    refine ⟨f2, f4, _, _, rfl, sqL h48, sqL h8, fun D hD => ?_⟩
    refine lc_it (walk_zip (n := M) (by simp only [List.length_append, List.length_map, List.length_replicate]; omega)) (PvL H8 D (fun _ => true) (fun i => .int (at0 r1 i * u2 + at0 r2 i * u1))) (lc_start hD) (fun i H' _ p => ⟨p.1.seq (sqL h48), p.1.seq (sqL h8)⟩) (fun i v H9 H10 hi p yy => ?_) (fun H9 p => ?_)
    · obtain ⟨T, v1, v2, rfl, e9, hT, hv1, hv2⟩ := pair_of yy
      rw [pads r1 _ i (by omega)] at hv1
      rw [pads r2 _ i (by omega)] at hv2
      obtain rfl := Option.some.inj hv1
      obtain rfl := Option.some.inj hv2
      refine g_tupT hT rfl ?_
      walk_at "gos"
      refine ⟨rfl, ?_⟩
      have e89 := e18.trans (p.1.trans e9)
      walk_at "gos"
      refine u_tfld rfl (e89 _ _ hy) c_Piece n_under rfl ?_
      walk_at "gos"
      refine g_I (cmul_small (s1.row i) s2.und) ?_
      walk_at "gos"
      refine u_tfld rfl (e89 _ _ hx) c_Piece n_under rfl ?_
      walk_at "gos"
      refine g_I (cmul_small (s2.row i) s1.und) ?_
      walk_at "gos"
      exact lc_yes hD p e9 rfl rfl (by omega)
    · obtain ⟨e9, h9⟩ := p
      rw [given_all] at h9
      have h9' : H9 D = some (.lst (((List.range M).map fun i => at0 r1 i * u2 + at0 r2 i * u1).map V.int)) := by rw [h9, List.map_map]; rfl
      have e19 := e18.trans e9
      have hlen : ((List.range M).map fun i => at0 r1 i * u2 + at0 r2 i * u1).length = M := by rw [List.length_map, List.length_range]
      walk_at "gos"
      refine u_tfld rfl (e19 _ _ hx) c_Piece n_under rfl ?_
      walk_at "gos"
      refine u_tfld rfl (e19 _ _ hy) c_Piece n_under rfl ?_
      walk_at "gos"
      refine g_I (cmul_small s1.und s2.und) ?_
      walk_at "gos"
      refine u_piece (.inl (sqL h9')) (by rw [hlen]; omega) (Int.mul_pos s1.pos s2.pos) ((s1.und.mul s2.und).mono (by decide)) fun z H10 rs u hz e10 hP hF => ?_
      refine q z H10 rs u _ (e19.trans e10) hP (hlen.trans hM.symm) (fun k => ?_) hF
      by_cases hk : k < M
      · rw [at0_in (by rw [hlen]; exact hk), List.getElem_map, List.getElem_range]
      · rw [at0_out (by rw [hlen]; omega), at0_out (by omega), at0_out (by omega), Int.zero_mul, Int.zero_mul]; rfl
theorem given_conv (xs ys : List Int) (k : Nat) : ∀ n, ∃ l : List Int, given n (fun j => decide (j ≤ k) && decide (k - j < ys.length)) (fun j => V.int (at0 xs j * at0 ys (k - j))) = l.map V.int ∧ l.sum = conv xs ys n k
  | 0 => ⟨[], rfl, rfl⟩
  | n + 1 => by
    obtain ⟨l, hl, hs⟩ := given_conv xs ys k n
    cases hf : (decide (n ≤ k) && decide (k - n < ys.length)) with
    | true =>
      refine ⟨l ++ [at0 xs n * at0 ys (k - n)], ?_, ?_⟩
      · rw [given_yes hf, hl, List.map_append]; rfl
      · rw [Bool.and_eq_true] at hf
        rw [List.sum_append, hs]
        show _ = conv xs ys n k + _
        rw [if_pos (of_decide_eq_true hf.1)]
        simp
    | false =>
      refine ⟨l, by rw [given_no hf, hl], ?_⟩
      rw [hs]
      show _ = conv xs ys n k + _
      by_cases h : n ≤ k
      · rw [if_pos h]
        rw [decide_eq_true h, Bool.true_and] at hf
        have := of_decide_eq_false hf
        rw [at0_out (l := ys) (by omega), Int.mul_zero, Int.add_zero]
      · rw [if_neg h, Int.add_zero]
/-- one entry of a product's row -/
def spEntryOf (K : PySem.W.Frag) : Sp := fun vs H Q _ => ∃ (a b : Addr) (xs ys : List Int) (k : Nat), vs = [.ref a, .ref b, .int k] ∧ SqT K H a (xs.map V.int) ∧ SqT K H b (ys.map V.int) ∧ xs.length ≤ 1000 ∧ ys.length ≤ 1000 ∧ k ≤ 2000 ∧ (∀ k, Bd 100000 (at0 xs k)) ∧ (∀ k, Bd 100000 (at0 ys k)) ∧
  ∀ H', Same H H' → Q (.int (conv xs ys xs.length k)) H'
theorem sc_product_entry : FnScope ["one", "other", "k", "j", "part"] ["one", "other", "k"] (defScope (topS 23)) := ⟨rfl, rfl, rfl, by decide +kernel, rfl, by decide +kernel, by decide +kernel⟩
theorem ok_product_entry (B : Bn mg) {f : Addr} {fd : FuncData} (F : Fun K "product_entry" "product_entry" (topS 23) f fd) : FnOk P w K mg base (L2.CX P w) 1 f fd ["one", "other", "k"] (spEntryOf K) := by
  have nd := sc_product_entry.nd
  refine F.okX sc_product_entry (fun vs H Q E h => ?_) (fun cdv A outer s H vs Q E hr h => ?_)
  · obtain ⟨a, b, xs, ys, k, rfl, _⟩ := h
    rfl
  · refine ⟨_, (pss_one (ps_ret (pe_callB (cr_sumK (K := K) rfl rfl) (by rfl) B.sum_ (by decide +kernel) (pa_cons (pe_lc (own := [("j", 3), ("part", 4)]) (g := gTup K 2 (gCons (gName 3) (gCons (gName 4) (gNil)))) rfl nd (pi_enumAK (K := K) rfl (by rfl) B.enumerate (pa_cons (pv 0) pa_nil)) (blkOk_by (N := ["one", "other", "k", "j", "part"]) (sc := defScope (topS 23)) (by decide +kernel)) (fun _ _ _ _ _ => (pg_tupK (K := K) (n := 2) rfl rfl (pgs_cons (pg_name (i := 3) nd rfl (.inl rfl)) (pgs_cons (pg_name (i := 4) nd rfl (.inl rfl)) pgs_nil)))) (fun _ _ _ _ _ => (pts_one (pt_chain op_le op_lt pe_int (pe_op op_sub (pv 2) (pv 3)) (pe_callB (call_lnK (K := K) rfl) (by rfl) B.len_ (by decide +kernel) (pa_cons (pv 1) pa_nil))))) (fun _ _ _ _ _ => (pe_op op_mulX (pv 4) (pe_ix (ix_tupK (K := K) rfl) (pv 1) (pe_op op_sub (pv 2) (pv 3)) (fun _ _ => rfl))))) pa_nil)))), ?_⟩
    obtain ⟨a, b, xs, ys, k, rfl, ha, hb, hlx, hly, hk, bx, by_, q⟩ := h
    refine g_st (σ' := [some (.ref a), some (.ref b), some (.int k), none, none]) rfl ?_
    walk_at "gos"
    have hxm : (xs.map V.int).length = xs.length := List.length_map ..
    have hym : (ys.map V.int).length = ys.length := List.length_map ..
    refine enum_any (.inr ha) fun J G wk hG D hD => ?_
    rw [hxm] at wk
    refine lc_it wk (PvL H D (fun j => decide (j ≤ k) && decide (k - j < ys.length)) (fun j => .int (at0 xs j * at0 ys (k - j)))) (lc_start hD) (fun i H' _ p => hG H' p.1) (fun i v H1 H2 hi p yy => ?_) (fun H1 p => ?_)
    · obtain ⟨T, v1, v2, rfl, e2, hT, hv1, hv2⟩ := pair_of yy
      obtain rfl : V.int (i : Nat) = v1 := Option.some.inj hv1
      rw [List.getElem?_map, List.getElem?_eq_getElem hi] at hv2
      obtain rfl := Option.some.inj hv2
      refine g_tupT hT rfl ?_
      walk_at "gos"
      refine ⟨rfl, ?_⟩
      walk_at "gos"
      have hnk : (0 : Int) ≤ (k : Int) - (i : Int) ↔ i ≤ k := by omega
      by_cases hik : i ≤ k
      · rw [if_pos (decide_eq_true (hnk.mpr hik))]
        walk_at "gos"
        refine u_lenT (e2.tup (p.1.tup hb)) ?_
        walk_at "gos"
        rw [hym]
        by_cases hly' : k - i < ys.length
        · rw [if_pos (decide_eq_true (by omega))]
          walk_at "gos"
          have hki : (k : Int) - (i : Int) = ((k - i : Nat) : Int) := by omega
          rw [hki]
          refine u_ixT (e2.tup (p.1.tup hb)) (atI_nat (by rw [List.getElem?_map, List.getElem?_eq_getElem hly']; rfl)) ?_
          walk_at "gos"
          rw [← at0_in hi, ← at0_in hly']
          refine g_I (cmul_small (bx i) (by_ (k - i))) ?_
          exact lc_yes hD p e2 (by rw [decide_eq_true hik, decide_eq_true hly']; rfl) rfl (by omega)
        · rw [if_neg (by rw [decide_eq_true_iff]; omega)]
          exact lc_no p e2 (by rw [decide_eq_false hly', Bool.and_false])
      · rw [if_neg (by rw [decide_eq_true_iff]; exact fun h => hik (hnk.mp h))]
        refine ⟨false, rfl, ?_⟩
        rw [if_neg (by decide)]
        exact lc_no p e2 (by rw [decide_eq_false hik, Bool.false_and])
    · obtain ⟨e1, h1⟩ := p
      obtain ⟨l, hl, hs⟩ := given_conv xs ys k xs.length
      rw [hl] at h1
      walk_at "gos"
      refine u_sum (sqL h1) ?_
      rw [hs]
      exact q H1 e1
def spMultiplied (K : PySem.W.Frag) (C : Addr) : Sp := fun vs H Q _ => ∃ (x y : Addr) (r1 r2 : List Int) (u1 u2 : Int), vs = [.ref x, .ref y] ∧ IsP H x C r1 u1 ∧ IsP H y C r2 u2 ∧ SmP r1 u1 ∧ SmP r2 u2 ∧
  ∀ z H' rs u ns, Same H H' → IsP H' z C rs u → ns.length = r1.length + r2.length → (∀ k, k < r1.length + r2.length → at0 ns k = conv r1 r2 r1.length k) → FormOf ns (u1 * u2) rs u → Q (.ref z) H'
theorem sc_multiplied : FnScope ["one", "other", "k", "row"] ["one", "other"] (defScope (topS 22)) := ⟨rfl, rfl, rfl, by decide +kernel, rfl, by decide +kernel, by decide +kernel⟩
theorem ok_multiplied {C_Piece CR CU : Addr} (B : Bn mg) (c_Piece : Cls K C_Piece) (n_row : NoAttr K C_Piece "row") (n_under : NoAttr K C_Piece "under") (M_Piece : MakeF P w K mg base "Piece" C_Piece 5 (spPiece K C_Piece CR CU))
    (G_product_entry : CallF P w K mg base "product_entry" ["one", "other", "k"] 1 (spEntryOf K)) {f : Addr} {fd : FuncData} (F : Fun K "multiplied" "multiplied" (topS 22) f fd) :
    FnOk P w K mg base (L2.CX P w) 7 f fd ["one", "other"] (spMultiplied K C_Piece) := by
  have nd := sc_multiplied.nd
  refine F.okX sc_multiplied (fun vs H Q E h => ?_) (fun cdv A outer s H vs Q E hr h => ?_)
  · obtain ⟨x, y, r1, r2, u1, u2, rfl, _⟩ := h
    rfl
  · refine ⟨_, (pss_cons (ps_setLc (i := 3) (own := [("k", 2)]) (g := gName 2) (tt := tYes) rfl nd rfl rfl (sw_true rfl rfl rfl (by decide +kernel)) (pi_range1 rfl B.range (pa_cons (pe_op op_add (pe_callB (call_lnK (K := K) rfl) (by rfl) B.len_ (by decide +kernel) (pa_cons (pe_fldK (K := K) rfl (pv 0) rfl) pa_nil)) (pe_callB (call_lnK (K := K) rfl) (by rfl) B.len_ (by decide +kernel) (pa_cons (pe_fldK (K := K) rfl (pv 1) rfl) pa_nil))) pa_nil)) (blkOk_by (N := ["one", "other", "k", "row"]) (sc := defScope (topS 22)) (by decide +kernel)) (fun _ _ _ _ _ => (pg_name (i := 2) nd rfl (.inl rfl))) (fun _ _ _ _ _ => pts_nil) (fun _ _ _ _ _ => (pe_callF G_product_entry (hr.mono (by decide)) rfl passL (pa_cons (pe_fldK (K := K) rfl (pv 0) rfl) (pa_cons (pe_fldK (K := K) rfl (pv 1) rfl) (pa_cons (pv 2) pa_nil))))))
      (pss_one (ps_ret (pe_makeF M_Piece (hr.mono (by decide)) rfl (passes_call (takes_of rfl rfl rfl rfl) (fun _ _ _ _ h => h)) (pa_cons (pv 3) (pa_cons (pe_op op_mulX (pe_fldK (K := K) rfl (pv 0) rfl) (pe_fldK (K := K) rfl (pv 1) rfl)) pa_nil)))))), ?_⟩
    obtain ⟨x, y, r1, r2, u1, u2, rfl, ⟨d1, t1, hx, ht1⟩, ⟨d2, t2, hy, ht2⟩, s1, s2, q⟩ := h
    refine g_st (σ' := [some (.ref x), some (.ref y), none, none]) rfl ?_
    have hmx : (r1.map V.int).length = r1.length := List.length_map ..
    have hmy : (r2.map V.int).length = r2.length := List.length_map ..
    have hl1 := s1.len
    have hl2 := s2.len
    walk_at "gos"
    refine u_tfld rfl hx c_Piece n_row rfl ?_
    walk_at "gos"
    refine u_lenT (sqT ht1) ?_
    walk_at "gos"
    refine u_tfld rfl hy c_Piece n_row rfl ?_
    walk_at "gos"
    refine u_lenT (sqT ht2) ?_
    rw [hmx, hmy]
    walk_at "gos"
    refine u_rng (by omega) (by omega) fun D hD => ?_
    refine lc_it walk_range (PvL H D (fun _ => true) (fun i => .int (conv r1 r2 r1.length i))) (lc_start hD) (fun _ _ _ _ => trivial) (fun i y' H7 H8 hi p q6 => ?_) (fun H9 p => ?_)
    · obtain ⟨rfl, rfl⟩ := q6
      walk_at "gos"
      refine ⟨rfl, ?_⟩
      walk_at "gos"
      refine u_tfld rfl (p.1 _ _ hx) c_Piece n_row rfl ?_
      walk_at "gos"
      refine u_tfld rfl (p.1 _ _ hy) c_Piece n_row rfl ?_
      walk_at "gos"
      rw [show (0 : Int) + (i : Int) = (i : Int) from Int.zero_add _]
      refine ⟨t1, t2, r1, r2, i, rfl, sqT (p.1 _ _ ht1), sqT (p.1 _ _ ht2), hl1, hl2, by omega, s1.row, s2.row, fun H9 e9 => ?_⟩
      exact lc_yes hD p e9 rfl rfl (by omega)
    · obtain ⟨e9, h9⟩ := p
      rw [given_all] at h9
      have hM : ((r1.length : Int) + (r2.length : Int)).toNat = r1.length + r2.length := by omega
      rw [hM] at h9
      have h9' : H9 D = some (.lst (((List.range (r1.length + r2.length)).map fun i => conv r1 r2 r1.length i).map V.int)) := by rw [h9, List.map_map]; rfl
      have hlen : ((List.range (r1.length + r2.length)).map fun i => conv r1 r2 r1.length i).length = r1.length + r2.length := by rw [List.length_map, List.length_range]
      walk_at "gos"
      refine u_tfld rfl (e9 _ _ hx) c_Piece n_under rfl ?_
      walk_at "gos"
      refine u_tfld rfl (e9 _ _ hy) c_Piece n_under rfl ?_
      walk_at "gos"
      refine g_I (cmul_small s1.und s2.und) ?_
      walk_at "gos"
      refine u_piece (.inl (sqL h9')) (by rw [hlen]; omega) (Int.mul_pos s1.pos s2.pos) ((s1.und.mul s2.und).mono (by decide)) fun z H10 rs u hz e10 hP hF => ?_
      refine q z H10 rs u _ (e9.trans e10) hP hlen (fun k hk => ?_) hF
      rw [at0_in (by rw [hlen]; exact hk), List.getElem_map, List.getElem_range]
end
end Ev

end
section
open L2 in
local macro_rules | `(tactic| walk_at "gx") => `(tactic| first
  | ((with_reducible show tVar _ _ _ _); refine g_var rfl ?_)
  | with_reducible refine g_c ?_
  | with_reducible refine g_op ?_
  | with_reducible refine g_cons ?_
  | with_reducible refine g_nil ?_
  | with_reducible refine g_test ?_
  | with_reducible refine g_blp ?_
  | with_reducible refine g_asg ?_
  | (with_reducible refine g_name ?_; (try simp only [List.set_cons_zero, List.set_cons_succ]))
  | with_reducible refine g_call ?_
  | with_reducible refine g_cb ?_
  | with_reducible refine g_I0 ?_
  | with_reducible refine g_U ?_
  | with_reducible refine g_eqI ?_
  | with_reducible refine g_neI ?_
  | with_reducible refine g_if ?_
  | with_reducible refine g_ret ?_
  | with_reducible refine g_retN ?_
  | with_reducible refine g_next ?_
  | with_reducible refine g_drop ?_
  | with_reducible refine g_un ?_
  | with_reducible refine g_tb ?_
  | with_reducible refine g_tup ?_
  | with_reducible refine g_lst ?_
  | with_reducible refine g_and ?_
  | with_reducible refine g_or ?_
  | with_reducible refine g_not ?_
  | with_reducible refine g_andV ?_
  | with_reducible refine g_orV ?_
  | with_reducible refine g_notV ?_
  | with_reducible refine g_ifE ?_
  | with_reducible refine g_fld ?_
  | with_reducible refine g_tt ?_
  | with_reducible refine g_ff ?_
  | with_reducible refine g_ntt ?_
  | with_reducible refine g_nff ?_
  | with_reducible refine g_for ?_
  | with_reducible refine g_list ?_
  | with_reducible refine g_tupI ?_
  | with_reducible refine g_rng1 ?_
  | with_reducible refine g_rng2 ?_
  | with_reducible refine g_enumA ?_
  | with_reducible refine g_rev ?_
  | with_reducible refine g_lc ?_
  | with_reducible refine g_gcons ?_
  | with_reducible refine g_gnil ?_
  | with_reducible refine g_yes ?_
  | with_reducible refine g_sl ?_
  | with_reducible refine g_nopart ?_
  | with_reducible refine g_part ?_
  | with_reducible refine g_int ?_
  | with_reducible refine g_dget ?_
  | with_reducible refine g_dput ?_
  | with_reducible refine g_raiseX ?_
  | with_reducible refine g_tru ?_
  | with_reducible refine g_sub ?_
  | with_reducible refine g_isN ?_
  | with_reducible refine g_notN ?_
  | with_reducible refine g_bm ?_
  | with_reducible refine L2.g_bm0 ?_
  | with_reducible refine g_pair ?_
  | with_reducible refine g_pair0 ?_
  | with_reducible refine u_int1 ?_
  | with_reducible refine g_chain ?_
  | with_reducible refine L2.g_sfld ?_
  | (with_reducible refine g_par3 ?_)
  | (with_reducible refine g_three ?_; (try simp only [List.set_cons_zero, List.set_cons_succ]))
  | ((with_reducible apply L2.g_tupT); walk_at "up"; rfl)
  | (with_reducible refine g_par ?_)
  | (with_reducible refine g_two ?_; (try simp only [List.set_cons_zero, List.set_cons_succ]))
  )
local macro_rules | `(tactic| walk_at "go") => `(tactic| first | walk_at "gx" | with_reducible refine L2.g_seq ?_)
local macro_rules | `(tactic| walk_at "gou") => `(tactic| repeat (walk_at "gx"))
local macro_rules | `(tactic| walk_at "gos") => `(tactic| repeat (walk_at "go"))
local macro_rules | `(tactic| walk_at "sl") => `(tactic| first
  | assumption
  | exact L2.Same.l (by assumption)
  | exact L2.SameD.l (by assumption)
  | exact L2.extN_l (by assumption))
local macro_rules | `(tactic| walk_at "up") => `(tactic| first
  | assumption
  | ((with_reducible apply L2.SameL.lst); walk_at "sl"; walk_at "up")
  | ((with_reducible apply L2.SameL.tupA); walk_at "sl"; walk_at "up")
  | ((with_reducible apply L2.SameL.ins); walk_at "sl"; walk_at "up")
  | ((with_reducible apply Ev.PB.l); walk_at "sl"; walk_at "up")
  | ((with_reducible apply Ev.IsP.l); walk_at "sl"; walk_at "up")
  | ((with_reducible apply L2.sqL); walk_at "up")
  | ((with_reducible apply L2.sqT); walk_at "up")
  | ((with_reducible apply L2.SameL.seq); walk_at "sl"; walk_at "up")
  | ((with_reducible apply Ev.Pen.same); assumption; walk_at "up")
  | ((with_reducible apply Ev.Pen.extN); assumption; walk_at "up")
  | ((with_reducible apply L2.tabs_s); assumption; walk_at "up")
  | ((with_reducible apply L2.tabs_dd); assumption; walk_at "up")
  | ((with_reducible apply Or.inl); walk_at "up")
  | ((with_reducible apply Or.inr); walk_at "up"))
local macro_rules | `(tactic| walk_at "new") => `(tactic| (
  first
    | refine ⟨L2.size_ok (by rfl), fun p hp => ?_⟩
    | refine fun p hp => ?_
  generalize hX : L2.upd _ p _ = H1
  obtain ⟨e, h⟩ := L2.news hp hX
  clear hX))
local macro_rules | `(tactic| walk_at "o") => `(tactic| first
  | ((with_reducible apply Ev.o_add); walk_at "up"; walk_at "up"; rfl; rfl; rfl)
  | ((with_reducible apply Ev.o_sub); walk_at "up"; walk_at "up"; rfl; rfl; rfl)
  | ((with_reducible apply Ev.o_mul); walk_at "up"; walk_at "up"; rfl; rfl; rfl)
  | ((with_reducible apply Ev.o_addI); walk_at "up"; assumption; rfl; rfl; rfl)
  | ((with_reducible apply Ev.o_subI); walk_at "up"; assumption; rfl; rfl; rfl)
  | ((with_reducible apply Ev.o_mulI); walk_at "up"; assumption; rfl; rfl; rfl)
  | ((with_reducible apply Ev.o_radd); walk_at "up"; assumption; rfl; rfl; rfl)
  | ((with_reducible apply Ev.o_rsub); walk_at "up"; assumption; rfl; rfl; rfl)
  | ((with_reducible apply Ev.o_rmul); walk_at "up"; assumption; rfl; rfl; rfl)
  | ((with_reducible apply Ev.o_neg); walk_at "up"; rfl; rfl; rfl))
local macro_rules | `(tactic| walk_at "eq") => `(tactic| ((with_reducible apply Ev.u_ownB); assumption; walk_at "up"; walk_at "up"; (focus (intro k; first | rfl | exact Pl.e_add | exact Pl.e_sub | exact Pl.e_mul | exact Pl.e_rsub | exact Pl.e_rsub2))))
local macro_rules | `(tactic| walk_at "isp") => `(tactic| (apply Ev.u_isB; walk_at "up"; walk_at "up"; rfl; rfl))

/-! operators of pieces -/
namespace Ev
open PySem PySem.Spec PyProof.Rows L2 Pl
section
variable {P : Program} {w : World} {K : PySem.W.Frag} {mg : Str → Option Value} {base : Heap}
/-- what the table says of p op i -/
structure OpI (K : PySem.W.Frag) (C : Addr) (op : Operator) : Prop where
  hc : PySem.W.selfFirst K C = true
  ex : ∃ fo ro rc, PySem.W.findIn K (.type "int") (PySem.dunder op.info.2) = some fo ∧ PySem.W.findIn K (.type "int") (dunderR op.info.2) = some ro ∧ PySem.W.findIn K (.ref C) (dunderR op.info.2) = some rc ∧ (rc = none ∨ ∃ g : Addr, rc = some (.ref g))
  sub : PySem.W.subIn K (.type "int") (.ref C) = some false
theorem op_ownJ {X : Cx} {C : Addr} {ps : List Str} {n : Nat} {sp : Sp} {E : XK} {op : Operator} {m : Str} (G : OwnF X.prog X.w X.K X.mg X.base C m ps n sp) (hm : m = PySem.dunder op.info.2) (I : OpI X.K C op) (hr : Room n X.A) (hx : Passes (L2.CX X.prog X.w) X E) : OpR X (binaryOp op) (rOpI C sp E) := by
  obtain ⟨fo, ro, rc, h1, h2, h3, h4⟩ := I.ex
  exact op_ownI G hm I.hc h1 h2 h3 h4 I.sub hr hx
/-- a term's row and under -/
def TermF (H : Hp) (v : V) (C : Addr) (ns : List Int) (u : Int) : Prop := (∃ x, v = .ref x ∧ IsP H x C ns u) ∨ ∃ i : Int, v = .int i ∧ FormOf [i] 1 ns u
def spAdd (K : PySem.W.Frag) (C : Addr) : Sp := fun vs H Q _ => ∃ (x : Addr) (v : V) (r1 r2 : List Int) (u1 u2 : Int), vs = [.ref x, v] ∧ IsP H x C r1 u1 ∧ TermF H v C r2 u2 ∧ SmP r1 u1 ∧ SmP r2 u2 ∧
  ∀ z H' rs u ns, Same H H' → IsP H' z C rs u → ns.length = max r1.length r2.length → (∀ k, at0 ns k = at0 r1 k * u2 + at0 r2 k * u1) → FormOf ns (u1 * u2) rs u → Q (.ref z) H'
theorem sc_Piece___add__ : FnScope ["self", "other"] ["self", "other"] (defScope (inClass (topS 18) 7)) := ⟨rfl, rfl, rfl, by decide +kernel, rfl, by decide +kernel, by decide +kernel⟩
theorem ok_add {C_Piece : Addr} (B : Bn mg) (G_is_term : CallF P w K mg base "is_term" ["value"] 2 (spTerm C_Piece)) (G_as_piece : CallF P w K mg base "as_piece" ["value"] 7 (spAsP K C_Piece)) (G_added : CallF P w K mg base "added" ["one", "other"] 7 (spAdded K C_Piece))
    {f : Addr} {fd : FuncData} (F : Fun K "__add__" "Piece.__add__" (inClass (topS 18) 7) f fd) : FnOk P w K mg base (L2.CX P w) 8 f fd ["self", "other"] (spAdd K C_Piece) := by
  have nd := sc_Piece___add__.nd
  refine F.okX sc_Piece___add__ (fun vs H Q E h => ?_) (fun cdv A outer s H vs Q E hr h => ?_)
  · obtain ⟨x, v, r1, r2, u1, u2, rfl, _⟩ := h
    rfl
  · refine ⟨_, (pss_cons (ps_if (pt_not (pt_val (pe_callF G_is_term (hr.mono (by decide)) rfl passL (pa_cons (pv 1) pa_nil)))) (pss_one ps_never) pss_nil)
      (pss_one (ps_ret (pe_callF G_added (hr.mono (by decide)) rfl passL (pa_cons (pv 0) (pa_cons (pe_callF G_as_piece (hr.mono (by decide)) rfl passL (pa_cons (pv 1) pa_nil)) pa_nil)))))), ?_⟩
    obtain ⟨x, v, r1, r2, u1, u2, rfl, hx, hv, s1, s2, q⟩ := h
    refine g_st (σ' := [some (.ref x), some v]) rfl ?_
    walk_at "gos"
    have hT : TermV H v C_Piece := by
      rcases hv with ⟨y, rfl, hy⟩ | ⟨i, rfl, _⟩
      · exact .inl ⟨y, r2, u2, rfl, hy⟩
      · exact .inr ⟨i, rfl⟩
    refine ⟨v, rfl, hT, ?_⟩
    refine ⟨true, rfl, ?_⟩
    rw [if_neg (by decide)]
    walk_at "gos"
    rcases hv with ⟨y, rfl, hy⟩ | ⟨i, rfl, hF⟩
    · refine .inl ⟨y, r2, u2, rfl, hy, ?_⟩
      walk_at "gos"
      exact ⟨x, y, r1, r2, u1, u2, rfl, hx, hy, s1, s2, q⟩
    · refine .inr ⟨i, rfl, fun y H1 rs u e1 hP hF' => ?_⟩
      obtain ⟨rfl, rfl⟩ := form_uniq hF hF' (by decide) (by decide) fun _ => rfl
      walk_at "gos"
      exact ⟨x, y, r1, _, u1, _, rfl, hx.same e1, hP, s1, s2, fun z H2 rs' u' ns e2 => q z H2 rs' u' ns (e1.trans e2)⟩
def spMul (K : PySem.W.Frag) (C : Addr) : Sp := fun vs H Q _ => ∃ (x : Addr) (v : V) (r1 r2 : List Int) (u1 u2 : Int), vs = [.ref x, v] ∧ IsP H x C r1 u1 ∧ TermF H v C r2 u2 ∧ SmP r1 u1 ∧ SmP r2 u2 ∧
  ∀ z H' rs u ns, Same H H' → IsP H' z C rs u → ns.length = r1.length + r2.length → (∀ k, k < r1.length + r2.length → at0 ns k = conv r1 r2 r1.length k) → FormOf ns (u1 * u2) rs u → Q (.ref z) H'
theorem sc_Piece___mul__ : FnScope ["self", "other"] ["self", "other"] (defScope (inClass (topS 18) 12)) := ⟨rfl, rfl, rfl, by decide +kernel, rfl, by decide +kernel, by decide +kernel⟩
theorem ok_mul {C_Piece : Addr} (B : Bn mg) (G_is_term : CallF P w K mg base "is_term" ["value"] 2 (spTerm C_Piece)) (G_as_piece : CallF P w K mg base "as_piece" ["value"] 7 (spAsP K C_Piece)) (G_multiplied : CallF P w K mg base "multiplied" ["one", "other"] 7 (spMultiplied K C_Piece))
    {f : Addr} {fd : FuncData} (F : Fun K "__mul__" "Piece.__mul__" (inClass (topS 18) 12) f fd) : FnOk P w K mg base (L2.CX P w) 8 f fd ["self", "other"] (spMul K C_Piece) := by
  have nd := sc_Piece___mul__.nd
  refine F.okX sc_Piece___mul__ (fun vs H Q E h => ?_) (fun cdv A outer s H vs Q E hr h => ?_)
  · obtain ⟨x, v, r1, r2, u1, u2, rfl, _⟩ := h
    rfl
  · refine ⟨_, (pss_cons (ps_if (pt_not (pt_val (pe_callF G_is_term (hr.mono (by decide)) rfl passL (pa_cons (pv 1) pa_nil)))) (pss_one ps_never) pss_nil)
      (pss_one (ps_ret (pe_callF G_multiplied (hr.mono (by decide)) rfl passL (pa_cons (pv 0) (pa_cons (pe_callF G_as_piece (hr.mono (by decide)) rfl passL (pa_cons (pv 1) pa_nil)) pa_nil)))))), ?_⟩
    obtain ⟨x, v, r1, r2, u1, u2, rfl, hx, hv, s1, s2, q⟩ := h
    refine g_st (σ' := [some (.ref x), some v]) rfl ?_
    walk_at "gos"
    have hT : TermV H v C_Piece := by
      rcases hv with ⟨y, rfl, hy⟩ | ⟨i, rfl, _⟩
      · exact .inl ⟨y, r2, u2, rfl, hy⟩
      · exact .inr ⟨i, rfl⟩
    refine ⟨v, rfl, hT, ?_⟩
    refine ⟨true, rfl, ?_⟩
    rw [if_neg (by decide)]
    walk_at "gos"
    rcases hv with ⟨y, rfl, hy⟩ | ⟨i, rfl, hF⟩
    · refine .inl ⟨y, r2, u2, rfl, hy, ?_⟩
      walk_at "gos"
      exact ⟨x, y, r1, r2, u1, u2, rfl, hx, hy, s1, s2, q⟩
    · refine .inr ⟨i, rfl, fun y H1 rs u e1 hP hF' => ?_⟩
      obtain ⟨rfl, rfl⟩ := form_uniq hF hF' (by decide) (by decide) fun _ => rfl
      walk_at "gos"
      exact ⟨x, y, r1, _, u1, _, rfl, hx.same e1, hP, s1, s2, fun z H2 rs' u' ns e2 => q z H2 rs' u' ns (e1.trans e2)⟩
def spRadd (K : PySem.W.Frag) (C : Addr) : Sp := fun vs H Q E => (∃ x i, vs = [.ref x, .int i]) ∧ spAdd K C vs H Q E
theorem sc_Piece___radd__ : FnScope ["self", "other"] ["self", "other"] (defScope (inClass (topS 18) 8)) := ⟨rfl, rfl, rfl, by decide +kernel, rfl, by decide +kernel, by decide +kernel⟩
theorem ok_radd {C_Piece : Addr} (B : Bn mg) (OA_Piece : OwnF P w K mg base C_Piece "__add__" ["self", "other"] 8 (spAdd K C_Piece)) (OI_Piece : OpI K C_Piece .Add)
    {f : Addr} {fd : FuncData} (F : Fun K "__radd__" "Piece.__radd__" (inClass (topS 18) 8) f fd) : FnOk P w K mg base (L2.CX P w) 9 f fd ["self", "other"] (spRadd K C_Piece) := by
  have nd := sc_Piece___radd__.nd
  refine F.okX sc_Piece___radd__ (fun vs H Q E h => ?_) (fun cdv A outer s H vs Q E hr h => ?_)
  · obtain ⟨⟨x, i, rfl⟩, _⟩ := h
    rfl
  · refine ⟨_, (pss_one (ps_ret (pe_op (op_ownJ OA_Piece rfl OI_Piece (hr.mono (by decide)) passL) (pv 0) (pv 1)))), ?_⟩
    obtain ⟨⟨x, i, rfl⟩, h⟩ := h
    refine g_st (σ' := [some (.ref x), some (.int i)]) rfl ?_
    walk_at "gos"
    obtain ⟨x', v, r1, r2, u1, u2, hv, hx, h⟩ := h
    obtain ⟨dx, t, hx1, hx2⟩ := id hx
    cases hv
    exact ⟨x, dx, _, i, rfl, hx1, rfl, x, .int i, r1, r2, u1, u2, rfl, hx, h⟩
def spRmul (K : PySem.W.Frag) (C : Addr) : Sp := fun vs H Q E => (∃ x i, vs = [.ref x, .int i]) ∧ spMul K C vs H Q E
theorem sc_Piece___rmul__ : FnScope ["self", "other"] ["self", "other"] (defScope (inClass (topS 18) 13)) := ⟨rfl, rfl, rfl, by decide +kernel, rfl, by decide +kernel, by decide +kernel⟩
theorem ok_rmul {C_Piece : Addr} (B : Bn mg) (OM_Piece : OwnF P w K mg base C_Piece "__mul__" ["self", "other"] 8 (spMul K C_Piece)) (OIM_Piece : OpI K C_Piece .Mult)
    {f : Addr} {fd : FuncData} (F : Fun K "__rmul__" "Piece.__rmul__" (inClass (topS 18) 13) f fd) : FnOk P w K mg base (L2.CX P w) 9 f fd ["self", "other"] (spRmul K C_Piece) := by
  have nd := sc_Piece___rmul__.nd
  refine F.okX sc_Piece___rmul__ (fun vs H Q E h => ?_) (fun cdv A outer s H vs Q E hr h => ?_)
  · obtain ⟨⟨x, i, rfl⟩, _⟩ := h
    rfl
  · refine ⟨_, (pss_one (ps_ret (pe_op (op_ownJ OM_Piece rfl OIM_Piece (hr.mono (by decide)) passL) (pv 0) (pv 1)))), ?_⟩
    obtain ⟨⟨x, i, rfl⟩, h⟩ := h
    refine g_st (σ' := [some (.ref x), some (.int i)]) rfl ?_
    walk_at "gos"
    obtain ⟨x', v, r1, r2, u1, u2, hv, hx, h⟩ := h
    obtain ⟨dx, t, hx1, hx2⟩ := id hx
    cases hv
    exact ⟨x, dx, _, i, rfl, hx1, rfl, x, .int i, r1, r2, u1, u2, rfl, hx, h⟩
def spNeg (K : PySem.W.Frag) (C : Addr) : Sp := fun vs H Q _ => ∃ (x : Addr) (r : List Int) (u : Int), vs = [.ref x] ∧ IsP H x C r u ∧ SmP r u ∧ ∀ z H' rs u', Same H H' → IsP H' z C rs u' → FormOf (r.map fun a => -a) u rs u' → Q (.ref z) H'
theorem sc_Piece___neg__ : FnScope ["self", "part"] ["self"] (defScope (inClass (topS 18) 9)) := ⟨rfl, rfl, rfl, by decide +kernel, rfl, by decide +kernel, by decide +kernel⟩
theorem ok_neg {C_Piece CR CU : Addr} (B : Bn mg) (c_Piece : Cls K C_Piece) (n_row : NoAttr K C_Piece "row") (n_under : NoAttr K C_Piece "under") (M_Piece : MakeF P w K mg base "Piece" C_Piece 5 (spPiece K C_Piece CR CU))
    {f : Addr} {fd : FuncData} (F : Fun K "__neg__" "Piece.__neg__" (inClass (topS 18) 9) f fd) : FnOk P w K mg base (L2.CX P w) 7 f fd ["self"] (spNeg K C_Piece) := by
  have nd := sc_Piece___neg__.nd
  refine F.okX sc_Piece___neg__ (fun vs H Q E h => ?_) (fun cdv A outer s H vs Q E hr h => ?_)
  · obtain ⟨x, r, u, rfl, _⟩ := h
    rfl
  · refine ⟨_, (pss_one (ps_ret (pe_makeF M_Piece (hr.mono (by decide)) rfl (passes_call (takes_of rfl rfl rfl rfl) (fun _ _ _ _ h => h)) (pa_cons (pe_lc (own := [("part", 1)]) (g := gName 1) (tt := tYes) rfl nd (pi_tupK (K := K) rfl (pe_fldK (K := K) rfl (pv 0) rfl)) (blkOk_by (N := ["self", "part"]) (sc := defScope (inClass (topS 18) 9)) (by decide +kernel)) (fun _ _ _ _ _ => (pg_name (i := 1) nd rfl (.inl rfl))) (fun _ _ _ _ _ => pts_nil) (fun _ _ _ _ _ => (pe_un un_neg (pv 1)))) (pa_cons (pe_fldK (K := K) rfl (pv 0) rfl) pa_nil))))), ?_⟩
    obtain ⟨x, r, u, rfl, ⟨d, t, hx, ht⟩, sm, q⟩ := h
    refine g_st (σ' := [some (.ref x), none]) rfl ?_
    have hm : (r.map V.int).length = r.length := List.length_map ..
    have hl := sm.len
    walk_at "gos"
    refine u_tfld rfl hx c_Piece n_row rfl ?_
    refine u_itT (sqT ht) fun D hD => ?_
    refine lc_it walk_tup (PvL H D (fun _ => true) (fun i => V.int (-(at0 r i)))) (lc_start hD) (fun i H' _ p => sqT (p.1 _ _ ht)) (fun i v H8 H9 hi p y => ?_) (fun H8 p => ?_)
    · obtain ⟨rfl, hy⟩ := y
      obtain rfl := at_ints hy
      walk_at "gos"
      refine ⟨rfl, ?_⟩
      walk_at "gos"
      exact lc_yes hD p (Same.refl _) rfl rfl (by omega)
    · obtain ⟨e8, h8⟩ := p
      rw [hm, given_all, range_map r fun x => V.int (-x)] at h8
      have h8' : H8 D = some (.lst ((r.map fun a => -a).map V.int)) := by rw [h8, List.map_map]; rfl
      walk_at "gos"
      refine u_tfld rfl (e8 _ _ hx) c_Piece n_under rfl ?_
      walk_at "gos"
      exact u_piece (.inl (sqL h8')) (by rw [List.length_map]; omega) sm.pos (sm.und.mono (by decide)) fun z H10 rs u' hz e10 hP hF => q z H10 rs u' (e8.trans e10) hP hF
def spSub (K : PySem.W.Frag) (C : Addr) : Sp := fun vs H Q _ => ∃ (x : Addr) (v : V) (r1 r2 r3 : List Int) (u1 u2 u3 : Int), vs = [.ref x, v] ∧ IsP H x C r1 u1 ∧ TermF H v C r2 u2 ∧ SmP r1 u1 ∧ SmP r2 u2 ∧ SmP r3 u3 ∧ FormOf (r2.map fun a => -a) u2 r3 u3 ∧
  ∀ z H' rs u ns, Same H H' → IsP H' z C rs u → ns.length = max r1.length r3.length → (∀ k, at0 ns k = at0 r1 k * u3 + at0 r3 k * u1) → FormOf ns (u1 * u3) rs u → Q (.ref z) H'
theorem sc_Piece___sub__ : FnScope ["self", "other"] ["self", "other"] (defScope (inClass (topS 18) 10)) := ⟨rfl, rfl, rfl, by decide +kernel, rfl, by decide +kernel, by decide +kernel⟩
theorem ok_sub {C_Piece : Addr} (B : Bn mg) (G_is_term : CallF P w K mg base "is_term" ["value"] 2 (spTerm C_Piece)) (G_as_piece : CallF P w K mg base "as_piece" ["value"] 7 (spAsP K C_Piece)) (G_added : CallF P w K mg base "added" ["one", "other"] 7 (spAdded K C_Piece))
    (ON_Piece : OwnF P w K mg base C_Piece "__neg__" ["self"] 7 (spNeg K C_Piece)) {f : Addr} {fd : FuncData} (F : Fun K "__sub__" "Piece.__sub__" (inClass (topS 18) 10) f fd) : FnOk P w K mg base (L2.CX P w) 8 f fd ["self", "other"] (spSub K C_Piece) := by
  have nd := sc_Piece___sub__.nd
  refine F.okX sc_Piece___sub__ (fun vs H Q E h => ?_) (fun cdv A outer s H vs Q E hr h => ?_)
  · obtain ⟨x, v, r1, r2, r3, u1, u2, u3, rfl, _⟩ := h
    rfl
  · refine ⟨_, (pss_cons (ps_if (pt_not (pt_val (pe_callF G_is_term (hr.mono (by decide)) rfl passL (pa_cons (pv 1) pa_nil)))) (pss_one ps_never) pss_nil)
      (pss_one (ps_ret (pe_callF G_added (hr.mono (by decide)) rfl passL (pa_cons (pv 0) (pa_cons (pe_un (un_own ON_Piece (hr.mono (by decide)) passL) (pe_callF G_as_piece (hr.mono (by decide)) rfl passL (pa_cons (pv 1) pa_nil))) pa_nil)))))), ?_⟩
    obtain ⟨x, v, r1, r2, r3, u1, u2, u3, rfl, hx, hv, s1, s2, s3, hN, q⟩ := h
    refine g_st (σ' := [some (.ref x), some v]) rfl ?_
    walk_at "gos"
    have hT : TermV H v C_Piece := by
      rcases hv with ⟨y, rfl, hy⟩ | ⟨i, rfl, _⟩
      · exact .inl ⟨y, r2, u2, rfl, hy⟩
      · exact .inr ⟨i, rfl⟩
    refine ⟨v, rfl, hT, ?_⟩
    refine ⟨true, rfl, ?_⟩
    rw [if_neg (by decide)]
    walk_at "gos"
    rcases hv with ⟨y, rfl, hy⟩ | ⟨i, rfl, hF⟩
    · refine .inl ⟨y, r2, u2, rfl, hy, ?_⟩
      walk_at "gos"
      show rNegO C_Piece (spNeg K C_Piece) E0 (.ref y) H _
      obtain ⟨dy, ty, hy1, hy2⟩ := id hy
      refine ⟨y, dy, _, rfl, hy1, y, _, _, rfl, hy, s2, fun z H2 rs' u' e2 hP2 hF2 => ?_⟩
      obtain ⟨rfl, rfl⟩ := form_uniq hN hF2 s2.pos s2.pos fun _ => rfl
      walk_at "gos"
      exact ⟨x, z, r1, _, u1, _, rfl, hx.same e2, hP2, s1, s3, fun z' H3 rs' u' ns e3 => q z' H3 rs' u' ns (e2.trans e3)⟩
    · refine .inr ⟨i, rfl, fun y H1 rs u e1 hP hF' => ?_⟩
      obtain ⟨rfl, rfl⟩ := form_uniq hF hF' (by decide) (by decide) fun _ => rfl
      walk_at "gos"
      obtain ⟨dy, ty, hy1, hy2⟩ := id hP
      refine ⟨y, dy, _, rfl, hy1, y, _, _, rfl, hP, s2, fun z H2 rs' u' e2 hP2 hF2 => ?_⟩
      obtain ⟨rfl, rfl⟩ := form_uniq hN hF2 s2.pos s2.pos fun _ => rfl
      walk_at "gos"
      exact ⟨x, z, r1, _, u1, _, rfl, hx.same (e1.trans e2), hP2, s1, s3, fun z' H3 rs' u' ns e3 => q z' H3 rs' u' ns ((e1.trans e2).trans e3)⟩
def spRsub (K : PySem.W.Frag) (C : Addr) : Sp := fun vs H Q _ => ∃ (x : Addr) (i : Int) (r1 r2 r3 : List Int) (u1 u2 u3 : Int), vs = [.ref x, .int i] ∧ IsP H x C r1 u1 ∧ FormOf [i] 1 r2 u2 ∧ SmP r1 u1 ∧ SmP r2 u2 ∧ SmP r3 u3 ∧ FormOf (r1.map fun a => -a) u1 r3 u3 ∧
  ∀ z H' rs u ns, Same H H' → IsP H' z C rs u → ns.length = max r3.length r2.length → (∀ k, at0 ns k = at0 r3 k * u2 + at0 r2 k * u3) → FormOf ns (u3 * u2) rs u → Q (.ref z) H'
theorem sc_Piece___rsub__ : FnScope ["self", "other"] ["self", "other"] (defScope (inClass (topS 18) 11)) := ⟨rfl, rfl, rfl, by decide +kernel, rfl, by decide +kernel, by decide +kernel⟩
theorem ok_rsub {C_Piece : Addr} (B : Bn mg) (OA_Piece : OwnF P w K mg base C_Piece "__add__" ["self", "other"] 8 (spAdd K C_Piece)) (ON_Piece : OwnF P w K mg base C_Piece "__neg__" ["self"] 7 (spNeg K C_Piece)) (OI_Piece : OpI K C_Piece .Add)
    {f : Addr} {fd : FuncData} (F : Fun K "__rsub__" "Piece.__rsub__" (inClass (topS 18) 11) f fd) : FnOk P w K mg base (L2.CX P w) 9 f fd ["self", "other"] (spRsub K C_Piece) := by
  have nd := sc_Piece___rsub__.nd
  refine F.okX sc_Piece___rsub__ (fun vs H Q E h => ?_) (fun cdv A outer s H vs Q E hr h => ?_)
  · obtain ⟨x, i, r1, r2, r3, u1, u2, u3, rfl, _⟩ := h
    rfl
  · refine ⟨_, (pss_one (ps_ret (pe_op (op_ownJ OA_Piece rfl OI_Piece (hr.mono (by decide)) passL) (pe_un (un_own ON_Piece (hr.mono (by decide)) passL) (pv 0)) (pv 1)))), ?_⟩
    obtain ⟨x, i, r1, r2, r3, u1, u2, u3, rfl, hx, hF, s1, s2, s3, hN, q⟩ := h
    refine g_st (σ' := [some (.ref x), some (.int i)]) rfl ?_
    walk_at "gos"
    obtain ⟨dy, ty, hy1, hy2⟩ := id hx
    refine ⟨x, dy, _, rfl, hy1, x, _, _, rfl, hx, s1, fun z H2 rs' u' e2 hP2 hF2 => ?_⟩
    obtain ⟨rfl, rfl⟩ := form_uniq hN hF2 s1.pos s1.pos fun _ => rfl
    walk_at "gos"
    obtain ⟨dz, tz, hz1, hz2⟩ := id hP2
    exact ⟨z, dz, _, i, rfl, hz1, rfl, z, .int i, _, r2, _, u2, rfl, hP2, .inr ⟨i, rfl, hF⟩, s3, s2, fun z' H3 rs' u' ns e3 => q z' H3 rs' u' ns (e2.trans e3)⟩
end
end Ev

end
section
open L2 in
local macro_rules | `(tactic| walk_at "gx") => `(tactic| first
  | ((with_reducible show tVar _ _ _ _); refine g_var rfl ?_)
  | with_reducible refine g_c ?_
  | with_reducible refine g_op ?_
  | with_reducible refine g_cons ?_
  | with_reducible refine g_nil ?_
  | with_reducible refine g_test ?_
  | with_reducible refine g_blp ?_
  | with_reducible refine g_asg ?_
  | (with_reducible refine g_name ?_; (try simp only [List.set_cons_zero, List.set_cons_succ]))
  | with_reducible refine g_call ?_
  | with_reducible refine g_cb ?_
  | with_reducible refine g_I0 ?_
  | with_reducible refine g_U ?_
  | with_reducible refine g_eqI ?_
  | with_reducible refine g_neI ?_
  | with_reducible refine g_if ?_
  | with_reducible refine g_ret ?_
  | with_reducible refine g_retN ?_
  | with_reducible refine g_next ?_
  | with_reducible refine g_drop ?_
  | with_reducible refine g_un ?_
  | with_reducible refine g_tb ?_
  | with_reducible refine g_tup ?_
  | with_reducible refine g_lst ?_
  | with_reducible refine g_and ?_
  | with_reducible refine g_or ?_
  | with_reducible refine g_not ?_
  | with_reducible refine g_andV ?_
  | with_reducible refine g_orV ?_
  | with_reducible refine g_notV ?_
  | with_reducible refine g_ifE ?_
  | with_reducible refine g_fld ?_
  | with_reducible refine g_tt ?_
  | with_reducible refine g_ff ?_
  | with_reducible refine g_ntt ?_
  | with_reducible refine g_nff ?_
  | with_reducible refine g_for ?_
  | with_reducible refine g_list ?_
  | with_reducible refine g_tupI ?_
  | with_reducible refine g_rng1 ?_
  | with_reducible refine g_rng2 ?_
  | with_reducible refine g_enumA ?_
  | with_reducible refine g_rev ?_
  | with_reducible refine g_lc ?_
  | with_reducible refine g_gcons ?_
  | with_reducible refine g_gnil ?_
  | with_reducible refine g_yes ?_
  | with_reducible refine g_sl ?_
  | with_reducible refine g_nopart ?_
  | with_reducible refine g_part ?_
  | with_reducible refine g_int ?_
  | with_reducible refine g_dget ?_
  | with_reducible refine g_dput ?_
  | with_reducible refine g_raiseX ?_
  | with_reducible refine g_tru ?_
  | with_reducible refine g_sub ?_
  | with_reducible refine g_isN ?_
  | with_reducible refine g_notN ?_
  | with_reducible refine g_bm ?_
  | with_reducible refine L2.g_bm0 ?_
  | with_reducible refine g_pair ?_
  | with_reducible refine g_pair0 ?_
  | with_reducible refine u_int1 ?_
  | with_reducible refine g_chain ?_
  | with_reducible refine L2.g_sfld ?_
  | (with_reducible refine g_par3 ?_)
  | (with_reducible refine g_three ?_; (try simp only [List.set_cons_zero, List.set_cons_succ]))
  | ((with_reducible apply L2.g_tupT); walk_at "up"; rfl)
  | (with_reducible refine g_par ?_)
  | (with_reducible refine g_two ?_; (try simp only [List.set_cons_zero, List.set_cons_succ]))
  )
local macro_rules | `(tactic| walk_at "go") => `(tactic| first | walk_at "gx" | with_reducible refine L2.g_seq ?_)
local macro_rules | `(tactic| walk_at "gou") => `(tactic| repeat (walk_at "gx"))
local macro_rules | `(tactic| walk_at "gos") => `(tactic| repeat (walk_at "go"))
local macro_rules | `(tactic| walk_at "sl") => `(tactic| first
  | assumption
  | exact L2.Same.l (by assumption)
  | exact L2.SameD.l (by assumption)
  | exact L2.extN_l (by assumption))
local macro_rules | `(tactic| walk_at "up") => `(tactic| first
  | assumption
  | ((with_reducible apply L2.SameL.lst); walk_at "sl"; walk_at "up")
  | ((with_reducible apply L2.SameL.tupA); walk_at "sl"; walk_at "up")
  | ((with_reducible apply L2.SameL.ins); walk_at "sl"; walk_at "up")
  | ((with_reducible apply Ev.PB.l); walk_at "sl"; walk_at "up")
  | ((with_reducible apply Ev.IsP.l); walk_at "sl"; walk_at "up")
  | ((with_reducible apply L2.sqL); walk_at "up")
  | ((with_reducible apply L2.sqT); walk_at "up")
  | ((with_reducible apply L2.SameL.seq); walk_at "sl"; walk_at "up")
  | ((with_reducible apply Ev.Pen.same); assumption; walk_at "up")
  | ((with_reducible apply Ev.Pen.extN); assumption; walk_at "up")
  | ((with_reducible apply L2.tabs_s); assumption; walk_at "up")
  | ((with_reducible apply L2.tabs_dd); assumption; walk_at "up")
  | ((with_reducible apply Or.inl); walk_at "up")
  | ((with_reducible apply Or.inr); walk_at "up"))
local macro_rules | `(tactic| walk_at "new") => `(tactic| (
  first
    | refine ⟨L2.size_ok (by rfl), fun p hp => ?_⟩
    | refine fun p hp => ?_
  generalize hX : L2.upd _ p _ = H1
  obtain ⟨e, h⟩ := L2.news hp hX
  clear hX))
local macro_rules | `(tactic| walk_at "o") => `(tactic| first
  | ((with_reducible apply Ev.o_add); walk_at "up"; walk_at "up"; rfl; rfl; rfl)
  | ((with_reducible apply Ev.o_sub); walk_at "up"; walk_at "up"; rfl; rfl; rfl)
  | ((with_reducible apply Ev.o_mul); walk_at "up"; walk_at "up"; rfl; rfl; rfl)
  | ((with_reducible apply Ev.o_addI); walk_at "up"; assumption; rfl; rfl; rfl)
  | ((with_reducible apply Ev.o_subI); walk_at "up"; assumption; rfl; rfl; rfl)
  | ((with_reducible apply Ev.o_mulI); walk_at "up"; assumption; rfl; rfl; rfl)
  | ((with_reducible apply Ev.o_radd); walk_at "up"; assumption; rfl; rfl; rfl)
  | ((with_reducible apply Ev.o_rsub); walk_at "up"; assumption; rfl; rfl; rfl)
  | ((with_reducible apply Ev.o_rmul); walk_at "up"; assumption; rfl; rfl; rfl)
  | ((with_reducible apply Ev.o_neg); walk_at "up"; rfl; rfl; rfl))
local macro_rules | `(tactic| walk_at "eq") => `(tactic| ((with_reducible apply Ev.u_ownB); assumption; walk_at "up"; walk_at "up"; (focus (intro k; first | rfl | exact Pl.e_add | exact Pl.e_sub | exact Pl.e_mul | exact Pl.e_rsub | exact Pl.e_rsub2))))
local macro_rules | `(tactic| walk_at "isp") => `(tactic| (apply Ev.u_isB; walk_at "up"; walk_at "up"; rfl; rfl))

/-! p ** n -/
namespace Ev
open PySem PySem.Spec PyProof.Rows L2 Pl
section
variable {P : Program} {w : World} {K : PySem.W.Frag} {mg : Str → Option Value} {base : Heap}
/-- the powers: the j-th is fr j over fu j -/
def spPow (K : PySem.W.Frag) (C CB : Addr) : Sp := fun vs H Q E => (∃ (x : Addr) (n : Nat), vs = [.ref x, .int n] ∧ 6 < n ∧ ∀ d H', Same H H' → H' d = some (.xd [("number", .int n)]) → E (.ref CB) (some d) H') ∨ ∃ (x : Addr) (r : List Int) (u : Int) (n : Nat) (fr : Nat → List Int) (fu : Nat → Int), vs = [.ref x, .int n] ∧ IsP H x C r u ∧ n ≤ 6 ∧ SmP r u ∧ FormOf [1] 1 (fr 0) (fu 0) ∧ (∀ j, j < n → SmP (fr j) (fu j)) ∧
  (∀ j ns rs v, j < n → ns.length = (fr j).length + r.length → (∀ k, k < (fr j).length + r.length → at0 ns k = conv (fr j) r (fr j).length k) → FormOf ns (fu j * u) rs v → rs = fr (j + 1) ∧ v = fu (j + 1)) ∧
  ∀ z H', Same H H' → IsP H' z C (fr n) (fu n) → Q (.ref z) H'
theorem sc_Piece___pow__ : FnScope ["self", "number", "found", "turn"] ["self", "number"] (defScope (inClass (topS 18) 14)) := ⟨rfl, rfl, rfl, by decide +kernel, rfl, by decide +kernel, by decide +kernel⟩
theorem ok_pow {C_Piece CR CU : Addr} (B : Bn mg) {tk : Tok} (c_MOST_POWER : mg "MOST_POWER" = some (.int 6 tk)) {CB : Addr} (X_BadNumber : ExT P K mg "BadNumber" CB ["number"]) (sf_Piece : PySem.W.selfFirst K C_Piece = true) (G_is_integer : CallF P w K mg base "is_integer" ["value"] 1 (spIsInteger K)) (OM_Piece : OwnF P w K mg base C_Piece "__mul__" ["self", "other"] 8 (spMul K C_Piece))
    (M_Piece_1 : MakeF P w K mg base "Piece" C_Piece 5 (fun vs H Q E => ∃ a : Addr, vs = [.ref a] ∧ spPiece K C_Piece CR CU [.ref a, .int 1] H Q E))
    {f : Addr} {fd : FuncData} (F : Fun K "__pow__" "Piece.__pow__" (inClass (topS 18) 14) f fd) : FnOk P w K mg base (L2.CX P w) 9 f fd ["self", "number"] (spPow K C_Piece CB) := by
  have nd := sc_Piece___pow__.nd
  refine F.okX sc_Piece___pow__ (fun vs H Q E h => ?_) (fun cdv A outer s H vs Q E hr h => ?_)
  · obtain ⟨x, n, rfl, _⟩ | ⟨x, r, u, n, fr, fu, rfl, _⟩ := h <;> rfl
  · refine ⟨_, (pss_cons (ps_if (PW.pt (pw_or (pt_not (pt_val (pe_callF G_is_integer (hr.mono (by decide)) rfl passL (pa_cons (pv 1) pa_nil)))) (pw_or1 (pt_not (pt_chain op_le op_le pe_int (pv 1) (pe_globI rfl c_MOST_POWER)))))) (pss_one (ps_raiseX rfl X_BadNumber hr (takes_of rfl rfl rfl rfl) (pa_cons (pv 1) pa_nil))) pss_nil)
      (pss_cons (ps_set (i := 2) nd rfl (.inl rfl) (pe_makeF M_Piece_1 (hr.mono (by decide)) rfl (passes_call (takes_of rfl rfl rfl rfl) (fun _ _ _ _ h => h)) (pa_cons (pe_tup (pa_cons pe_int pa_nil)) pa_nil)))
      (pss_cons (ps_for (passes_of rfl) rfl (pi_range1 rfl B.range (pa_cons (pv 1) pa_nil)) (pg_name (i := 3) nd rfl (.inl rfl)) (pss_one (ps_set (i := 2) nd rfl (.inl rfl) (pe_op (op_own2 OM_Piece rfl sf_Piece (hr.mono (by decide)) passL) (pv 2) (pv 0)))))
      (pss_one (ps_ret (pv 2)))))), ?_⟩
    obtain ⟨x, n, rfl, hn, q⟩ | ⟨x, r, u, n, fr, fu, rfl, hx, hn, sm, f0, sf, step, q⟩ := h
    · refine g_st (σ' := [some (.ref x), some (.int n), none, none]) rfl ?_
      walk_at "gos"
      refine ⟨_, true, rfl, Kd.int, ?_⟩
      refine ⟨true, rfl, ?_⟩
      rw [if_neg (by decide)]
      walk_at "gos"
      rw [if_pos (decide_eq_true (by omega))]
      walk_at "gos"
      rw [if_pos (by rw [decide_eq_false (by omega : ¬ (n : Int) ≤ 6)]; decide)]
      walk_at "gos"
      exact u_raise rfl (by decide) fun d H3 _ e3 hd => q d H3 e3 hd
    refine g_st (σ' := [some (.ref x), some (.int n), none, none]) rfl ?_
    walk_at "gos"
    refine ⟨_, true, rfl, Kd.int, ?_⟩
    refine ⟨true, rfl, ?_⟩
    rw [if_neg (by decide)]
    walk_at "gos"
    rw [if_pos (decide_eq_true (by omega))]
    walk_at "gos"
    rw [if_neg (by rw [decide_eq_true (by omega : (n : Int) ≤ 6)]; decide)]
    walk_at "gos"
    refine ⟨by show 1 ≤ sizeLine; decide, fun t1 ht1 => ?_⟩
    have e1 := same_new (o := .tup [V.int 1]) ht1
    have h1 : (upd H t1 (.tup [V.int 1])) t1 = some (.tup [V.int 1]) := upd_same
    generalize upd H t1 (.tup [V.int 1]) = H1 at e1 h1 ⊢
    walk_at "gos"
    refine ⟨t1, rfl, u_piece (ns := [1]) (.inr (sqT h1)) (by decide) (by decide) (by unfold Bd; decide) fun z H2 rs u' hz e2 hP hF => ?_⟩
    obtain ⟨rfl, rfl⟩ := form_uniq f0 hF (by decide) (by decide) fun _ => rfl
    walk_at "gos"
    refine u_rng (by omega) (by omega) ?_
    refine for_it walk_range (fun j σ' H' => ∃ z x3, σ' = [some (.ref x), some (.int n), some (.ref z), x3] ∧ Same H H' ∧ IsP H' z C_Piece (fr j) (fu j)) ⟨z, none, rfl, e1.trans e2, hP⟩ (fun _ _ _ _ _ => trivial) (fun j y σ' H' H3 hj p yy => ?_) (fun σ' H' p => ?_)
    · obtain ⟨z, x3, rfl, e3, hz3⟩ := p
      obtain ⟨rfl, rfl⟩ := yy
      rw [Int.toNat_natCast] at hj
      walk_at "gos"
      obtain ⟨dz, tz, hz1, hz2⟩ := id hz3
      obtain ⟨dx, tx, hx1, hx2⟩ := id (hx.same e3)
      refine ⟨z, dz, _, x, dx, _, rfl, hz1, rfl, hx1, z, .ref x, fr j, r, fu j, u, rfl, hz3, .inl ⟨x, rfl, hx.same e3⟩, sf j hj, sm, fun z' H4 rs v ns e4 hP4 hl hk hF4 => ?_⟩
      obtain ⟨rfl, rfl⟩ := step j ns rs v hj hl hk hF4
      walk_at "gos"
      exact ⟨z', _, rfl, e3.trans e4, hP4⟩
    · obtain ⟨z, x3, rfl, e3, hz3⟩ := p
      rw [Int.toNat_natCast] at hz3
      walk_at "gos"
      exact q z H' e3 hz3
end
end Ev

end
/-! Pieces by any row and under. -/
namespace Pl
theorem le_mulR {u c : Int} (hu : 0 < u) (hc : 0 < c) : u ≤ u * c := by
  have := Int.mul_le_mul_of_nonneg_left (show 1 ≤ c by omega) (Int.le_of_lt hu)
  rwa [Int.mul_one] at this
/-- members of a product, by functions -/
def cvF (f g : Nat → Int) : Nat → Nat → Int
  | 0, _ => 0
  | i + 1, k => cvF f g i k + if i ≤ k then f i * g (k - i) else 0
theorem conv_cvF {xs ys : List Int} {n k : Nat} : conv xs ys n k = cvF (at0 xs) (at0 ys) n k := by
  induction n with
  | zero => rfl
  | succ n ih => show conv xs ys n k + _ = cvF _ _ n k + _; rw [ih]
theorem cvF_ge {f g : Nat → Int} {n k : Nat} (h : ∀ i, n ≤ i → f i = 0) : ∀ m, cvF f g (n + m) k = cvF f g n k
  | 0 => rfl
  | m + 1 => by
    show cvF f g (n + m) k + (if n + m ≤ k then f (n + m) * g (k - (n + m)) else 0) = _
    rw [cvF_ge h m, h (n + m) (by omega)]
    split <;> simp
theorem cvF_big {f g : Nat → Int} {k : Nat} : ∀ m, cvF f g (k + 1 + m) k = cvF f g (k + 1) k
  | 0 => rfl
  | m + 1 => by
    show cvF f g (k + 1 + m) k + (if k + 1 + m ≤ k then f (k + 1 + m) * g (k - (k + 1 + m)) else 0) = _
    rw [cvF_big m, if_neg (by omega)]
    simp
/-- the k-th member of a product -/
def cv (f g : Nat → Int) (k : Nat) : Int := cvF f g (k + 1) k
theorem cvF_cv {f g : Nat → Int} {n k : Nat} (h : ∀ i, n ≤ i → f i = 0) : cvF f g n k = cv f g k := by
  unfold cv
  rw [← cvF_ge h (k + 1), ← cvF_big (f := f) (g := g) (k := k) n, Nat.add_comm]
theorem cv_conv {xs ys : List Int} {k : Nat} : conv xs ys xs.length k = cv (at0 xs) (at0 ys) k := by
  rw [conv_cvF]
  exact cvF_cv fun i h => at0_out h
theorem cvF_mul {f g f' g' : Nat → Int} {p p' q q' : Int} (h1 : ∀ k, f k * p = f' k * p') (h2 : ∀ k, g k * q = g' k * q') : ∀ n k, cvF f g n k * (p * q) = cvF f' g' n k * (p' * q')
  | 0, _ => by show 0 * _ = 0 * _; rw [Int.zero_mul, Int.zero_mul]
  | n + 1, k => by
    show (cvF f g n k + _) * _ = (cvF f' g' n k + _) * _
    rw [Int.add_mul, Int.add_mul, cvF_mul h1 h2 n k]
    split
    · have a := h1 n
      have b := h2 (k - n)
      have e : f n * g (k - n) * (p * q) = f n * p * (g (k - n) * q) := by grind
      rw [e, a, b]
      grind
    · simp
theorem cv_mul {f g f' g' : Nat → Int} {p p' q q' : Int} (h1 : ∀ k, f k * p = f' k * p') (h2 : ∀ k, g k * q = g' k * q') (k : Nat) : cv f g k * (p * q) = cv f' g' k * (p' * q') := cvF_mul h1 h2 _ _
theorem cv_ext {f g f' g' : Nat → Int} (h1 : ∀ k, f k = f' k) (h2 : ∀ k, g k = g' k) (k : Nat) : cv f g k = cv f' g' k := by rw [funext h1, funext h2]
/-- the same sum, from the other end -/
theorem cvF_split {f g : Nat → Int} {k : Nat} : ∀ n, n ≤ k + 1 → cvF f g n k + cvF g f (k + 1 - n) k = cv g f k
  | 0, _ => by show 0 + cvF g f (k + 1) k = _; rw [Int.zero_add]; rfl
  | n + 1, h => by
    have ih := cvF_split (f := f) (g := g) (k := k) n (by omega)
    have e : k + 1 - n = (k + 1 - (n + 1)) + 1 := by omega
    rw [e] at ih
    have e2 : cvF g f (k + 1 - (n + 1) + 1) k = cvF g f (k + 1 - (n + 1)) k + if k + 1 - (n + 1) ≤ k then g (k + 1 - (n + 1)) * f (k - (k + 1 - (n + 1))) else 0 := rfl
    rw [e2, if_pos (by omega)] at ih
    show (cvF f g n k + if n ≤ k then f n * g (k - n) else 0) + _ = _
    rw [if_pos (by omega), ← ih, show k - (k + 1 - (n + 1)) = n by omega, show k + 1 - (n + 1) = k - n by omega]
    grind
theorem cv_comm {f g : Nat → Int} {k : Nat} : cv f g k = cv g f k := by
  have := cvF_split (f := f) (g := g) (k := k) (k + 1) (Nat.le_refl _)
  rw [Nat.sub_self] at this
  rw [← this]
  show _ = cvF f g (k + 1) k + 0
  rw [Int.add_zero]
  rfl
/-- (f, v): a row and its under, of a size that is served -/
structure Sz (f : Nat → Int) (v : Int) : Prop where
  pos : 0 < v
  low : ∀ k, 1000 ≤ k → f k = 0
/-- what the least form is, by any row -/
def Frac (rs : List Int) (u : Int) (f : Nat → Int) (v : Int) : Prop := Least rs u ∧ 0 < v ∧ ∀ k, at0 rs k * v = f k * u
theorem FormOf.frac {ns rs : List Int} {v u : Int} (h : FormOf ns v rs u) (hv : 0 < v) : Frac rs u (at0 ns) v := ⟨h.least, hv, h.same⟩
theorem Frac.form {ns rs : List Int} {v u : Int} {f : Nat → Int} {w : Int} (h : Frac rs u f w) (hv : 0 < v) (e : ∀ k, f k * v = at0 ns k * w) : FormOf ns v rs u := by
  obtain ⟨hl, hw, hs⟩ := h
  have same : ∀ k, at0 rs k * v = at0 ns k * u := fun k => by
    have h1 := hs k
    have h2 := e k
    refine Int.eq_of_mul_eq_mul_right (show w ≠ 0 by omega) ?_
    calc at0 rs k * v * w = at0 rs k * w * v := by grind
      _ = f k * u * v := by rw [h1]
      _ = f k * v * u := by grind
      _ = at0 ns k * w * u := by rw [h2]
      _ = at0 ns k * u * w := by grind
  have hu := hl.pos
  obtain ⟨c, hc⟩ : u ∣ v := dvd_all hl fun k => ⟨at0 ns k, by rw [same k, Int.mul_comm]⟩
  have hcp : 0 < c := by
    rcases Int.lt_trichotomy 0 c with h | h | h
    · exact h
    · rw [← h, Int.mul_zero] at hc; omega
    · have := Int.mul_neg_of_pos_of_neg hu h; omega
  have hk : ∀ k, at0 rs k * c = at0 ns k := fun k => by
    have h1 := same k
    rw [hc] at h1
    refine Int.eq_of_mul_eq_mul_right (show u ≠ 0 by omega) ?_
    rw [← h1]
    grind
  refine ⟨hl, same, ?_, ?_, fun k => ?_⟩
  · by_cases hne : rs = []
    · rw [hne]; exact Nat.zero_le _
    · have h1 := hl.low hne
      have h0 : 0 < rs.length := List.length_pos_iff.mpr hne
      by_cases h2 : rs.length - 1 < ns.length
      · omega
      · exfalso
        have := hk (rs.length - 1)
        rw [at0_out (l := ns) (by omega)] at this
        rcases Int.mul_eq_zero.mp this with z | z
        · exact h1 z
        · omega
  · rw [hc]
    exact le_mulR hu hcp
  · rw [← hk k, Int.natAbs_mul]
    exact Nat.le_mul_of_pos_right _ (by omega)
theorem Frac.uniq {rs rs' : List Int} {u u' v w : Int} {f g : Nat → Int} (h : Frac rs u f v) (h' : Frac rs' u' g w) (e : ∀ k, f k * w = g k * v) : rs = rs' ∧ u = u' := by
  refine least_uniq h.1 h'.1 fun k => ?_
  have h1 := h.2.2 k
  have h2 := h'.2.2 k
  have h3 := e k
  have hv := h.2.1
  have hw := h'.2.1
  refine Int.eq_of_mul_eq_mul_right (show v * w ≠ 0 from Int.mul_ne_zero (by omega) (by omega)) ?_
  calc at0 rs k * u' * (v * w) = (at0 rs k * v) * (u' * w) := by grind
    _ = (f k * w) * (u * u') := by rw [h1]; grind
    _ = (g k * u') * (u * v) := by rw [h3]; grind
    _ = at0 rs' k * u * (v * w) := by rw [← h2]; grind
theorem Frac.to {rs : List Int} {u v w : Int} {f g : Nat → Int} (h : Frac rs u f v) (hw : 0 < w) (e : ∀ k, f k * w = g k * v) : Frac rs u g w := by
  obtain ⟨hl, hv, hs⟩ := h
  refine ⟨hl, hw, fun k => ?_⟩
  have h1 := hs k
  have h2 := e k
  refine Int.eq_of_mul_eq_mul_right (show v ≠ 0 by omega) ?_
  calc at0 rs k * w * v = at0 rs k * v * w := by grind
    _ = f k * u * w := by rw [h1]
    _ = f k * w * u := by grind
    _ = g k * v * u := by rw [h2]
    _ = g k * u * v := by grind
/-- sums -/
theorem Frac.add {r1 r2 rs ns : List Int} {u1 u2 u v1 v2 : Int} {f g : Nat → Int} (h1 : Frac r1 u1 f v1) (h2 : Frac r2 u2 g v2) (hk : ∀ k, at0 ns k = at0 r1 k * u2 + at0 r2 k * u1) (h : FormOf ns (u1 * u2) rs u) : Frac rs u (fun k => f k * v2 + g k * v1) (v1 * v2) := by
  have hp := Int.mul_pos h1.1.pos h2.1.pos
  refine (h.frac hp).to (Int.mul_pos h1.2.1 h2.2.1) fun k => ?_
  have a := h1.2.2 k
  have b := h2.2.2 k
  rw [hk]
  calc (at0 r1 k * u2 + at0 r2 k * u1) * (v1 * v2) = (at0 r1 k * v1) * (u2 * v2) + (at0 r2 k * v2) * (u1 * v1) := by grind
    _ = _ := by rw [a, b]; grind
theorem Frac.neg {r rs ns : List Int} {u u' v : Int} {f : Nat → Int} (h1 : Frac r u f v) (hk : ∀ k, at0 ns k = -at0 r k) (h : FormOf ns u rs u') : Frac rs u' (fun k => -f k) v := by
  refine (h.frac h1.1.pos).to h1.2.1 fun k => ?_
  have a := h1.2.2 k
  rw [hk]
  grind
theorem Frac.mul {r1 r2 rs ns : List Int} {u1 u2 u v1 v2 : Int} {f g : Nat → Int} (h1 : Frac r1 u1 f v1) (h2 : Frac r2 u2 g v2) (hl : ns.length = r1.length + r2.length) (hk : ∀ k, k < r1.length + r2.length → at0 ns k = conv r1 r2 r1.length k) (h : FormOf ns (u1 * u2) rs u) : Frac rs u (cv f g) (v1 * v2) := by
  have hp := Int.mul_pos h1.1.pos h2.1.pos
  refine (h.frac hp).to (Int.mul_pos h1.2.1 h2.2.1) fun k => ?_
  have e : at0 ns k = cv (at0 r1) (at0 r2) k := by
    rw [← cv_conv]
    by_cases hlt : k < r1.length + r2.length
    · exact hk k hlt
    · rw [at0_out (by omega), cv_conv, ← cvF_cv (n := r1.length) fun i h => at0_out h]
      have : ∀ n, n ≤ r1.length → cvF (at0 r1) (at0 r2) n k = 0 := by
        intro n
        induction n with
        | zero => intro _; rfl
        | succ n ih =>
          intro hn
          show cvF _ _ n k + _ = 0
          rw [ih (by omega)]
          split
          · rw [at0_out (l := r2) (by omega)]; simp
          · rfl
      exact (this _ (Nat.le_refl _)).symm
  rw [e]
  exact cv_mul h1.2.2 h2.2.2 k
theorem lf (ns : List Int) (v : Int) (hv : 0 < v) : ∃ rs u, FormOf ns v rs u := by
  obtain ⟨m, hm⟩ : ∃ m, kept ns m := by
    rcases last_of (fun i => !decide (at0 ns i = 0)) ns.length with ⟨_, h2⟩ | ⟨k, l, h1, h2, h3, _⟩
    · refine ⟨0, Nat.zero_le _, fun k _ => ?_, fun h => absurd h (Nat.lt_irrefl 0)⟩
      by_cases hk : k < ns.length
      · have := h2 k hk
        simpa using this
      · exact at0_out (by omega)
    · refine ⟨k + 1, h1, fun j hj => ?_, fun _ => ?_⟩
      · by_cases hj2 : j < ns.length
        · have := h3 j (by omega) hj2
          simpa using this
        · exact at0_out (by omega)
      · rw [Nat.add_sub_cancel]
        simpa using h2
  exact ⟨_, _, form_made hv hm⟩
/-- no member behind, no greater one -/
theorem Frac.small {rs : List Int} {u v : Int} {f : Nat → Int} (h : Frac rs u f v) : u ≤ v ∧ (∀ k, (at0 rs k).natAbs ≤ (f k).natAbs) ∧ ∀ n, (∀ k, n ≤ k → f k = 0) → rs.length ≤ n := by
  obtain ⟨hl, hv, hs⟩ := h
  have hu := hl.pos
  obtain ⟨c, hc⟩ : u ∣ v := dvd_all hl fun k => ⟨f k, by rw [hs k, Int.mul_comm]⟩
  have hcp : 0 < c := by
    rcases Int.lt_trichotomy 0 c with h | h | h
    · exact h
    · rw [← h, Int.mul_zero] at hc; omega
    · have := Int.mul_neg_of_pos_of_neg hu h; omega
  have hk : ∀ k, at0 rs k * c = f k := fun k => by
    have h1 := hs k
    rw [hc] at h1
    refine Int.eq_of_mul_eq_mul_right (show u ≠ 0 by omega) ?_
    rw [← h1]
    grind
  refine ⟨?_, fun k => ?_, fun n hn => ?_⟩
  · rw [hc]
    exact le_mulR hu hcp
  · rw [← hk k, Int.natAbs_mul]
    exact Nat.le_mul_of_pos_right _ (by omega)
  · by_cases hne : rs = []
    · rw [hne]; exact Nat.zero_le _
    · have h1 := hl.low hne
      have h0 : 0 < rs.length := List.length_pos_iff.mpr hne
      by_cases h2 : rs.length ≤ n
      · exact h2
      · exfalso
        have := hk (rs.length - 1)
        rw [hn _ (by omega)] at this
        rcases Int.mul_eq_zero.mp this with z | z
        · exact h1 z
        · omega
end Pl

section
open L2 in
local macro_rules | `(tactic| walk_at "gx") => `(tactic| first
  | ((with_reducible show tVar _ _ _ _); refine g_var rfl ?_)
  | with_reducible refine g_c ?_
  | with_reducible refine g_op ?_
  | with_reducible refine g_cons ?_
  | with_reducible refine g_nil ?_
  | with_reducible refine g_test ?_
  | with_reducible refine g_blp ?_
  | with_reducible refine g_asg ?_
  | (with_reducible refine g_name ?_; (try simp only [List.set_cons_zero, List.set_cons_succ]))
  | with_reducible refine g_call ?_
  | with_reducible refine g_cb ?_
  | with_reducible refine g_I0 ?_
  | with_reducible refine g_U ?_
  | with_reducible refine g_eqI ?_
  | with_reducible refine g_neI ?_
  | with_reducible refine g_if ?_
  | with_reducible refine g_ret ?_
  | with_reducible refine g_retN ?_
  | with_reducible refine g_next ?_
  | with_reducible refine g_drop ?_
  | with_reducible refine g_un ?_
  | with_reducible refine g_tb ?_
  | with_reducible refine g_tup ?_
  | with_reducible refine g_lst ?_
  | with_reducible refine g_and ?_
  | with_reducible refine g_or ?_
  | with_reducible refine g_not ?_
  | with_reducible refine g_andV ?_
  | with_reducible refine g_orV ?_
  | with_reducible refine g_notV ?_
  | with_reducible refine g_ifE ?_
  | with_reducible refine g_fld ?_
  | with_reducible refine g_tt ?_
  | with_reducible refine g_ff ?_
  | with_reducible refine g_ntt ?_
  | with_reducible refine g_nff ?_
  | with_reducible refine g_for ?_
  | with_reducible refine g_list ?_
  | with_reducible refine g_tupI ?_
  | with_reducible refine g_rng1 ?_
  | with_reducible refine g_rng2 ?_
  | with_reducible refine g_enumA ?_
  | with_reducible refine g_rev ?_
  | with_reducible refine g_lc ?_
  | with_reducible refine g_gcons ?_
  | with_reducible refine g_gnil ?_
  | with_reducible refine g_yes ?_
  | with_reducible refine g_sl ?_
  | with_reducible refine g_nopart ?_
  | with_reducible refine g_part ?_
  | with_reducible refine g_int ?_
  | with_reducible refine g_dget ?_
  | with_reducible refine g_dput ?_
  | with_reducible refine g_raiseX ?_
  | with_reducible refine g_tru ?_
  | with_reducible refine g_sub ?_
  | with_reducible refine g_isN ?_
  | with_reducible refine g_notN ?_
  | with_reducible refine g_bm ?_
  | with_reducible refine L2.g_bm0 ?_
  | with_reducible refine g_pair ?_
  | with_reducible refine g_pair0 ?_
  | with_reducible refine u_int1 ?_
  | with_reducible refine g_chain ?_
  | with_reducible refine L2.g_sfld ?_
  | (with_reducible refine g_par3 ?_)
  | (with_reducible refine g_three ?_; (try simp only [List.set_cons_zero, List.set_cons_succ]))
  | ((with_reducible apply L2.g_tupT); walk_at "up"; rfl)
  | (with_reducible refine g_par ?_)
  | (with_reducible refine g_two ?_; (try simp only [List.set_cons_zero, List.set_cons_succ]))
  )
local macro_rules | `(tactic| walk_at "go") => `(tactic| first | walk_at "gx" | with_reducible refine L2.g_seq ?_)
local macro_rules | `(tactic| walk_at "gou") => `(tactic| repeat (walk_at "gx"))
local macro_rules | `(tactic| walk_at "gos") => `(tactic| repeat (walk_at "go"))
local macro_rules | `(tactic| walk_at "sl") => `(tactic| first
  | assumption
  | exact L2.Same.l (by assumption)
  | exact L2.SameD.l (by assumption)
  | exact L2.extN_l (by assumption))
local macro_rules | `(tactic| walk_at "up") => `(tactic| first
  | assumption
  | ((with_reducible apply L2.SameL.lst); walk_at "sl"; walk_at "up")
  | ((with_reducible apply L2.SameL.tupA); walk_at "sl"; walk_at "up")
  | ((with_reducible apply L2.SameL.ins); walk_at "sl"; walk_at "up")
  | ((with_reducible apply Ev.PB.l); walk_at "sl"; walk_at "up")
  | ((with_reducible apply Ev.IsP.l); walk_at "sl"; walk_at "up")
  | ((with_reducible apply L2.sqL); walk_at "up")
  | ((with_reducible apply L2.sqT); walk_at "up")
  | ((with_reducible apply L2.SameL.seq); walk_at "sl"; walk_at "up")
  | ((with_reducible apply Ev.Pen.same); assumption; walk_at "up")
  | ((with_reducible apply Ev.Pen.extN); assumption; walk_at "up")
  | ((with_reducible apply L2.tabs_s); assumption; walk_at "up")
  | ((with_reducible apply L2.tabs_dd); assumption; walk_at "up")
  | ((with_reducible apply Or.inl); walk_at "up")
  | ((with_reducible apply Or.inr); walk_at "up"))
local macro_rules | `(tactic| walk_at "new") => `(tactic| (
  first
    | refine ⟨L2.size_ok (by rfl), fun p hp => ?_⟩
    | refine fun p hp => ?_
  generalize hX : L2.upd _ p _ = H1
  obtain ⟨e, h⟩ := L2.news hp hX
  clear hX))
local macro_rules | `(tactic| walk_at "o") => `(tactic| first
  | ((with_reducible apply Ev.o_add); walk_at "up"; walk_at "up"; rfl; rfl; rfl)
  | ((with_reducible apply Ev.o_sub); walk_at "up"; walk_at "up"; rfl; rfl; rfl)
  | ((with_reducible apply Ev.o_mul); walk_at "up"; walk_at "up"; rfl; rfl; rfl)
  | ((with_reducible apply Ev.o_addI); walk_at "up"; assumption; rfl; rfl; rfl)
  | ((with_reducible apply Ev.o_subI); walk_at "up"; assumption; rfl; rfl; rfl)
  | ((with_reducible apply Ev.o_mulI); walk_at "up"; assumption; rfl; rfl; rfl)
  | ((with_reducible apply Ev.o_radd); walk_at "up"; assumption; rfl; rfl; rfl)
  | ((with_reducible apply Ev.o_rsub); walk_at "up"; assumption; rfl; rfl; rfl)
  | ((with_reducible apply Ev.o_rmul); walk_at "up"; assumption; rfl; rfl; rfl)
  | ((with_reducible apply Ev.o_neg); walk_at "up"; rfl; rfl; rfl))
local macro_rules | `(tactic| walk_at "eq") => `(tactic| ((with_reducible apply Ev.u_ownB); assumption; walk_at "up"; walk_at "up"; (focus (intro k; first | rfl | exact Pl.e_add | exact Pl.e_sub | exact Pl.e_mul | exact Pl.e_rsub | exact Pl.e_rsub2))))
local macro_rules | `(tactic| walk_at "isp") => `(tactic| (apply Ev.u_isB; walk_at "up"; walk_at "up"; rfl; rfl))

/-! Pieces by any row and under: the operators' rules. -/
namespace Pl
/-- a row's bounds: no member from n on, b bits a member, c bits the under -/
structure Sb (f : Nat → Int) (v : Int) (n b c : Nat) : Prop where
  low : ∀ k, n ≤ k → f k = 0
  row : ∀ k, L2.Bd b (f k)
  und : L2.Bd c v
  pos : 0 < v
/-- the row of an integer -/
def one (i : Int) (k : Nat) : Int := if k = 0 then i else 0
theorem at0_by {ns : List Int} {i : Int} {k : Nat} : at0 (ns.map fun x => x * i) k = at0 ns k * i := at0_map (Int.zero_mul i) k
theorem one_at {i : Int} {k : Nat} : at0 [i] k = one i k := by
  unfold one
  match k with
  | 0 => rfl
  | k + 1 => rw [if_neg (by omega)]; rfl
theorem one_mul {i j : Int} {k : Nat} : one (i * j) k = one i k * j := by unfold one; split <;> simp
theorem e_add {a b v w : Int} : (a * w + b * v) * (w * v) = (b * v + a * w) * (v * w) := by grind
theorem e_sub {a b v w : Int} : (b * v + -a * w) * (v * w) = -(a * w + -b * v) * (w * v) := by grind
theorem e_mul {f g : Nat → Int} {v w : Int} {k : Nat} : cv f g k * (w * v) = cv g f k * (v * w) := by rw [cv_comm, Int.mul_comm w v]
theorem e_rsub {a b u : Int} : (a + -b) * u = -(-a + b) * u := by grind
theorem e_rsub2 {a b u : Int} : (a + -b * u) * u = -(-a + b * u) * u := by grind
theorem bd0 {b : Nat} : L2.Bd b 0 := Nat.two_pow_pos b
theorem Sb.one {i : Int} {b : Nat} (h : L2.Bd b i) : Sb (Pl.one i) 1 1 b 1 := ⟨fun k hk => by unfold Pl.one; rw [if_neg (by omega)], fun k => by unfold Pl.one; split; exact h; exact bd0, by unfold L2.Bd; decide, by decide⟩
theorem Sb.neg {f : Nat → Int} {v : Int} {n b c : Nat} (h : Sb f v n b c) : Sb (fun k => -f k) v n b c := ⟨fun k hk => by show -f k = 0; rw [h.low k hk]; rfl, fun k => (h.row k).neg, h.und, h.pos⟩
theorem Sb.add {f g : Nat → Int} {v w : Int} {n m b b' c c' : Nat} (h : Sb f v n b c) (h' : Sb g w m b' c') : Sb (fun k => f k * w + g k * v) (v * w) (max n m) (b + b' + c + c' + 1) (c + c') :=
  ⟨fun k hk => by show f k * w + g k * v = 0; rw [h.low k (by omega), h'.low k (by omega), Int.zero_mul, Int.zero_mul]; rfl,
   fun k => (((h.row k).mul h'.und).mono (m := b + b' + c + c') (by omega)).add (((h'.row k).mul h.und).mono (by omega)), h.und.mul h'.und, Int.mul_pos h.pos h'.pos⟩
theorem Sb.mul {f g : Nat → Int} {v w : Int} {n m b b' c c' : Nat} (h : Sb f v n b c) (h' : Sb g w m b' c') : Sb (cv f g) (v * w) (n + m) (b + b' + n) (c + c') := by
  have key : ∀ k i, L2.Bd (b + b' + i) (cvF f g i k) := by
    intro k i
    induction i with
    | zero => exact bd0
    | succ i ih =>
      show L2.Bd (b + b' + i + 1) (cvF f g i k + _)
      refine L2.Bd.add ih ?_
      split
      · exact ((h.row i).mul (h'.row (k - i))).mono (by omega)
      · exact bd0
  refine ⟨fun k hk => ?_, fun k => ?_, h.und.mul h'.und, Int.mul_pos h.pos h'.pos⟩
  · rw [← cvF_cv h.low]
    have : ∀ i, i ≤ n → cvF f g i k = 0 := by
      intro i
      induction i with
      | zero => intro _; rfl
      | succ i ih =>
        intro hi
        show cvF f g i k + _ = 0
        rw [ih (by omega)]
        split
        · rw [h'.low _ (by omega)]; simp
        · rfl
    exact this n (Nat.le_refl _)
  · rw [← cvF_cv h.low]
    exact key k n
theorem Sb.mono {f : Nat → Int} {v : Int} {n b c n' b' c' : Nat} (h : Sb f v n b c) (h1 : n ≤ n') (h2 : b ≤ b') (h3 : c ≤ c') : Sb f v n' b' c' := ⟨fun k hk => h.low k (by omega), fun k => (h.row k).mono h2, h.und.mono h3, h.pos⟩
theorem Sb.ext {f g : Nat → Int} {v : Int} {n b c : Nat} (h : Sb f v n b c) (e : ∀ k, g k = f k) : Sb g v n b c := by rw [funext e]; exact h
end Pl
namespace Ev
open PySem PySem.Spec PyProof.Rows L2 Pl
/-- x is the piece of the row f over v -/
def PB (H : Hp) (x C : Addr) (f : Nat → Int) (v : Int) (n b c : Nat) : Prop := Sb f v n b c ∧ ∃ rs u, IsP H x C rs u ∧ Frac rs u f v
theorem PB.l {H H' : Hp} {x C : Addr} {f : Nat → Int} {v : Int} {n b c : Nat} (e : SameL H H') : PB H x C f v n b c → PB H' x C f v n b c := fun ⟨h, rs, u, h1, h2⟩ => ⟨h, rs, u, h1.l e, h2⟩
theorem PB.same {H H' : Hp} {x C : Addr} {f : Nat → Int} {v : Int} {n b c : Nat} (e : Same H H') : PB H x C f v n b c → PB H' x C f v n b c := fun h => h.l e.l
theorem smP_of {rs : List Int} {u v : Int} {f : Nat → Int} {n b c : Nat} (h : Sb f v n b c) (hf : Frac rs u f v) (h1 : n ≤ 1000) (h2 : b ≤ 100000) (h3 : c ≤ 3900) : SmP rs u := by
  obtain ⟨s1, s2, s3⟩ := hf.small
  have hp := hf.1.pos
  exact ⟨Nat.le_trans (s3 n h.low) h1, fun k => ((h.row k).le (s2 k)).mono h2, hp, (h.und.le (by omega)).mono h3⟩
section
variable {K : PySem.W.Frag} {H : Hp} {x y C : Addr} {f g : Nat → Int} {v w i : Int} {n m b b' c c' : Nat} {Q : VK} {E : XK}
theorem PB.of {rs ns : List Int} {u : Int} (h : IsP H x C rs u) (hf : FormOf ns v rs u) (hs : Sb (at0 ns) v n b c) : PB H x C (at0 ns) v n b c := ⟨hs, rs, u, h, hf.frac hs.pos⟩
theorem PB.ins (h : PB H x C f v n b c) : ∃ dx fs, H x = some (.ins C dx fs) := let ⟨_, _, _, ⟨dx, _, h1, _⟩, _⟩ := h; ⟨dx, _, h1⟩
theorem termB {r : List Int} {u : Int} (h : PB H x C f v n b c) : ∃ r u, TermF H (.ref x) C r u ∧ Frac r u f v := let ⟨_, rs, u, h1, h2⟩ := h; ⟨rs, u, .inl ⟨x, rfl, h1⟩, h2⟩
/-- an operand -/
def TB (H : Hp) (z : V) (C : Addr) (f : Nat → Int) (v : Int) (n b c : Nat) : Prop := Sb f v n b c ∧ ∃ rs u, TermF H z C rs u ∧ Frac rs u f v
theorem TB.p (h : PB H x C f v n b c) : TB H (.ref x) C f v n b c := let ⟨h0, rs, u, h1, h2⟩ := h; ⟨h0, rs, u, .inl ⟨x, rfl, h1⟩, h2⟩
theorem TB.int (h : Bd b i) : TB H (.int i) C (one i) 1 1 b 1 := by
  obtain ⟨rs, u, hf⟩ := lf [i] 1 (by decide)
  exact ⟨Sb.one h, rs, u, .inr ⟨i, rfl, hf⟩, (hf.frac (by decide)).to (by decide) fun k => by rw [one_at]⟩
theorem sp_add {z : V} (h : PB H x C f v n b c) (h' : TB H z C g w m b' c') (q : ∀ p H', Same H H' → PB H' p C (fun k => f k * w + g k * v) (v * w) (max n m) (b + b' + c + c' + 1) (c + c') → Q (.ref p) H')
    (s1 : Nat.ble (max n m) 1000 = true := by rfl) (s2 : Nat.ble (max b b') 100000 = true := by rfl) (s3 : Nat.ble (max c c') 3900 = true := by rfl) : spAdd K C [.ref x, z] H Q E := by
  have s1 := Nat.le_of_ble_eq_true s1
  have s2 := Nat.le_of_ble_eq_true s2
  have s3 := Nat.le_of_ble_eq_true s3
  obtain ⟨sb, rs, u, h1, h2⟩ := h
  obtain ⟨sb', rs', u', h1', h2'⟩ := h'
  exact ⟨x, z, rs, rs', u, u', rfl, h1, h1', smP_of sb h2 (by omega) (by omega) (by omega), smP_of sb' h2' (by omega) (by omega) (by omega), fun p H' r t ns e hp hl hk hf => q p H' e ⟨sb.add sb', r, t, hp, h2.add h2' hk hf⟩⟩
theorem sp_mul {z : V} (h : PB H x C f v n b c) (h' : TB H z C g w m b' c') (q : ∀ p H', Same H H' → PB H' p C (cv f g) (v * w) (n + m) (b + b' + n) (c + c') → Q (.ref p) H')
    (s1 : Nat.ble (max n m) 1000 = true := by rfl) (s2 : Nat.ble (max b b') 100000 = true := by rfl) (s3 : Nat.ble (max c c') 3900 = true := by rfl) : spMul K C [.ref x, z] H Q E := by
  have s1 := Nat.le_of_ble_eq_true s1
  have s2 := Nat.le_of_ble_eq_true s2
  have s3 := Nat.le_of_ble_eq_true s3
  obtain ⟨sb, rs, u, h1, h2⟩ := h
  obtain ⟨sb', rs', u', h1', h2'⟩ := h'
  exact ⟨x, z, rs, rs', u, u', rfl, h1, h1', smP_of sb h2 (by omega) (by omega) (by omega), smP_of sb' h2' (by omega) (by omega) (by omega), fun p H' r t ns e hp hl hk hf => q p H' e ⟨sb.mul sb', r, t, hp, h2.mul h2' hl hk hf⟩⟩
theorem neg_at {r : List Int} (k : Nat) : at0 (r.map fun a => -a) k = -at0 r k := at0_map rfl k
theorem sp_neg (h : PB H x C f v n b c) (q : ∀ p H', Same H H' → PB H' p C (fun k => -f k) v n b c → Q (.ref p) H')
    (s1 : Nat.ble n 1000 = true := by rfl) (s2 : Nat.ble b 100000 = true := by rfl) (s3 : Nat.ble c 3900 = true := by rfl) : spNeg K C [.ref x] H Q E := by
  have s1 := Nat.le_of_ble_eq_true s1
  have s2 := Nat.le_of_ble_eq_true s2
  have s3 := Nat.le_of_ble_eq_true s3
  obtain ⟨sb, rs, u, h1, h2⟩ := h
  exact ⟨x, rs, u, rfl, h1, smP_of sb h2 s1 s2 s3, fun p H' r t e hp hf => q p H' e ⟨sb.neg, r, t, hp, h2.neg neg_at hf⟩⟩
theorem neg_of {r : List Int} {u : Int} (h2 : Frac r u f v) : ∃ r3 u3, FormOf (r.map fun a => -a) u r3 u3 ∧ Frac r3 u3 (fun k => -f k) v := by
  obtain ⟨r3, u3, hf⟩ := lf (r.map fun a => -a) u h2.1.pos
  exact ⟨r3, u3, hf, h2.neg neg_at hf⟩
theorem sp_sub {z : V} (h : PB H x C f v n b c) (h' : TB H z C g w m b' c') (q : ∀ p H', Same H H' → PB H' p C (fun k => f k * w + -g k * v) (v * w) (max n m) (b + b' + c + c' + 1) (c + c') → Q (.ref p) H')
    (s1 : Nat.ble (max n m) 1000 = true := by rfl) (s2 : Nat.ble (max b b') 100000 = true := by rfl) (s3 : Nat.ble (max c c') 3900 = true := by rfl) : spSub K C [.ref x, z] H Q E := by
  have s1 := Nat.le_of_ble_eq_true s1
  have s2 := Nat.le_of_ble_eq_true s2
  have s3 := Nat.le_of_ble_eq_true s3
  obtain ⟨sb, rs, u, h1, h2⟩ := h
  obtain ⟨sb', rs', u', h1', h2'⟩ := h'
  obtain ⟨r3, u3, h3, h3'⟩ := neg_of h2'
  exact ⟨x, z, rs, rs', r3, u, u', u3, rfl, h1, h1', smP_of sb h2 (by omega) (by omega) (by omega), smP_of sb' h2' (by omega) (by omega) (by omega), smP_of sb'.neg h3' (by omega) (by omega) (by omega), h3,
    fun p H' r t ns e hp hl hk hf => q p H' e ⟨sb.add sb'.neg, r, t, hp, h2.add h3' hk hf⟩⟩
theorem sp_rsub (h : PB H x C f v n b c) (hi : Bd b' i) (q : ∀ p H', Same H H' → PB H' p C (fun k => -f k * 1 + one i k * v) (v * 1) (max n 1) (b + b' + c + 1 + 1) (c + 1) → Q (.ref p) H')
    (s1 : Nat.ble n 1000 = true := by rfl) (s2 : Nat.ble (max b b') 100000 = true := by rfl) (s3 : Nat.ble c 3900 = true := by rfl) : spRsub K C [.ref x, .int i] H Q E := by
  have s1 := Nat.le_of_ble_eq_true s1
  have s2 := Nat.le_of_ble_eq_true s2
  have s3 := Nat.le_of_ble_eq_true s3
  obtain ⟨sb, rs, u, h1, h2⟩ := h
  obtain ⟨r2, u2, hf2⟩ := lf [i] 1 (by decide)
  have hF2 : Frac r2 u2 (one i) 1 := (hf2.frac (by decide)).to (by decide) fun k => by rw [one_at]
  obtain ⟨r3, u3, h3, h3'⟩ := neg_of h2
  exact ⟨x, i, rs, r2, r3, u, u2, u3, rfl, h1, hf2, smP_of sb h2 (by omega) (by omega) (by omega), smP_of (Sb.one hi) hF2 (by omega) (by omega) (by omega), smP_of sb.neg h3' (by omega) (by omega) (by omega), h3,
    fun p H' r t ns e hp hl hk hf => q p H' e ⟨sb.neg.add (Sb.one hi), r, t, hp, h3'.add hF2 hk hf⟩⟩
/-- the j-th power's row -/
def powF (f : Nat → Int) : Nat → Nat → Int
  | 0 => one 1
  | j + 1 => cv (powF f j) f
theorem Sb.pow (h : Sb f v n b c) : ∀ j, Sb (powF f j) (v ^ j) (1 + j * n) (1 + j * (b + 1 + n * 6)) (1 + j * c) ∨ 6 < j
  | 0 => .inl (by
    rw [Int.pow_zero]
    exact (Sb.one (b := 1) (i := 1) (by unfold Bd; decide)).mono (by omega) (by omega) (by omega))
  | j + 1 => by
    rcases Sb.pow h j with h2 | h2
    · by_cases hj : 6 < j + 1
      · exact .inr hj
      · refine .inl ?_
        rw [Int.pow_succ]
        have hjn : j * n ≤ 5 * n := Nat.mul_le_mul_right _ (by omega)
        refine (h2.mul h).mono ?_ ?_ ?_
        · rw [Nat.add_mul]; omega
        · rw [Nat.add_mul]; omega
        · rw [Nat.add_mul]; omega
    · exact .inr (by omega)
theorem sp_pow {CB : Addr} (h : PB H x C f v n b c) {j : Nat} (hj : j ≤ 6) (q : ∀ p H', Same H H' → PB H' p C (powF f j) (v ^ j) (1 + j * n) (1 + j * (b + 1 + n * 6)) (1 + j * c) → Q (.ref p) H')
    (s1 : Nat.ble (1 + 6 * n) 1000 = true := by rfl) (s2 : Nat.ble (1 + 6 * (b + 1 + n * 6)) 100000 = true := by rfl) (s3 : Nat.ble (1 + 6 * c) 3900 = true := by rfl) : spPow K C CB [.ref x, .int j] H Q E := by
  have s1 := Nat.le_of_ble_eq_true s1
  have s2 := Nat.le_of_ble_eq_true s2
  have s3 := Nat.le_of_ble_eq_true s3
  obtain ⟨sb, rs, u, h1, h2⟩ := h
  have hpow : ∀ j, ∃ r t, Frac r t (powF f j) (v ^ j) := by
    intro j
    induction j with
    | zero =>
      obtain ⟨r, t, hf⟩ := lf [1] 1 (by decide)
      exact ⟨r, t, by rw [Int.pow_zero]; exact (hf.frac (by decide)).to (by decide) fun k => by rw [one_at]; rfl⟩
    | succ j ih =>
      obtain ⟨r, t, hf⟩ := ih
      have : ∃ ns : List Int, ns.length = r.length + rs.length ∧ ∀ k, k < r.length + rs.length → at0 ns k = conv r rs r.length k := by
        refine ⟨(List.range (r.length + rs.length)).map fun k => conv r rs r.length k, by simp, fun k hk => ?_⟩
        rw [at0_in (by simpa using hk)]
        simp
      obtain ⟨ns, hl, hk⟩ := this
      obtain ⟨r', t', hf'⟩ := lf ns (t * u) (Int.mul_pos hf.1.pos h2.1.pos)
      exact ⟨r', t', by have := hf.mul h2 hl hk hf'; rw [Int.pow_succ]; exact this⟩
  have bnd : ∀ i, i ≤ 6 → Sb (powF f i) (v ^ i) (1 + i * n) (1 + i * (b + 1 + n * 6)) (1 + i * c) := fun i hi => (Sb.pow sb i).resolve_right (by omega)
  have hle : ∀ (i d : Nat), i ≤ 6 → i * d ≤ 6 * d := fun i d hi => Nat.mul_le_mul_right _ hi
  have smj : ∀ i, i ≤ 6 → ∀ r t, Frac r t (powF f i) (v ^ i) → SmP r t := fun i hi r t hf => by
    have a1 := hle i n hi
    have a2 := hle i (b + 1 + n * 6) hi
    have a3 := hle i c hi
    exact smP_of (bnd i hi) hf (by omega) (by omega) (by omega)
  refine .inr ⟨x, rs, u, j, fun i => (hpow i).choose, fun i => (hpow i).choose_spec.choose, rfl, h1, hj, smP_of sb h2 (by omega) (by omega) (by omega), ?_, fun i hi => smj i (by omega) _ _ (hpow i).choose_spec.choose_spec, fun i ns r t hi hl hk hf => ?_, fun z H' e hz => ?_⟩
  · exact (hpow 0).choose_spec.choose_spec.form (by decide) fun k => by rw [one_at, Int.pow_zero]; rfl
  · have h3 := (hpow i).choose_spec.choose_spec
    have h4 := h3.mul h2 hl hk hf
    have h5 := (hpow (i + 1)).choose_spec.choose_spec
    exact h4.uniq h5 fun k => by
      rw [Int.pow_succ]
      rfl
  · exact q z H' e ⟨bnd j hj, _, _, hz, (hpow j).choose_spec.choose_spec⟩
/-- Piece(a, u) -/
theorem u_pieceB {CR CU a : Addr} {ns : List Int} (h : SqL K H a (ns.map V.int) ∨ SqT K H a (ns.map V.int)) (hs : Sb (at0 ns) v n b c) (hl : Nat.ble ns.length 99999 = true)
    (q : ∀ x H', H x = none → Same H H' → PB H' x C (at0 ns) v n b c → Q (.ref x) H') (s3 : Nat.ble c 8000 = true := by rfl) : spPiece K C CR CU [.ref a, .int v] H Q E :=
  u_piece h (by have := Nat.le_of_ble_eq_true hl; omega) hs.pos (hs.und.mono (Nat.le_of_ble_eq_true s3)) fun x H' rs u h0 e hP hF => q x H' h0 e (.of hP hF hs)
/-- _law_is_piece(x, told, v) -/
theorem u_isB {a : Addr} {ns : List Int} (h : PB H x C f v n b c) (ha : SqL K H a (ns.map V.int)) (s2 : Nat.ble b 8000 = true) (s3 : Nat.ble c 8000 = true) (hk : ∀ k, at0 ns k = f k) (hl : ns.length < 100000) (q : ∀ H', Same H H' → Q (.bl true) H') : spIsPiece K C [.ref x, .ref a, .int v] H Q E := by
  obtain ⟨sb, rs, u, h1, h2⟩ := h
  exact ⟨x, a, rs, ns, u, v, rfl, h1, ha, h2.form sb.pos fun k => by rw [hk], sb.und.mono (Nat.le_of_ble_eq_true s3), fun k => by rw [hk]; exact (sb.row k).mono (Nat.le_of_ble_eq_true s2), hl, q⟩
/-- x == y, x != y, the same -/
theorem u_ownB {neg : Bool} (hy : ∀ H x rs u, IsP H x C rs u → TyX K H (.ref x) (.ref C)) (h : PB H x C f v n b c) (h' : PB H y C g w m b' c') (e : ∀ k, f k * w = g k * v) (q : Q (.bl (!neg)) H) : rOwn K C (spEqP K C) E neg (.ref x) (.ref y) H Q := by
  obtain ⟨sb, rs, u, h1, h2⟩ := h
  obtain ⟨sb', rs', u', h1', h2'⟩ := h'
  obtain ⟨rfl, rfl⟩ := h2.uniq h2' e
  exact u_own_eq hy h1 h1' q
/-! at the operators -/
theorem cv_one (k : Nat) : cv f (one i) k = f k * i := by
  rw [cv_comm]
  have h : ∀ m, cvF (one i) f (m + 1) k = i * f k := by
    intro m
    induction m with
    | zero => show 0 + (if 0 ≤ k then one i 0 * f (k - 0) else 0) = _; rw [if_pos (Nat.zero_le _)]; simp [one]
    | succ m ih =>
      show cvF (one i) f (m + 1) k + (if m + 1 ≤ k then one i (m + 1) * f (k - (m + 1)) else 0) = _
      have h0 : one i (m + 1) = 0 := by unfold one; rw [if_neg (by omega)]
      rw [ih, h0]
      simp
  unfold cv
  rw [h k, Int.mul_comm]
theorem o_add (h : PB H x C f v n b c) (h' : PB H y C g w m b' c')
    (s1 : Nat.ble (max n m) 1000 = true) (s2 : Nat.ble (max b b') 100000 = true) (s3 : Nat.ble (max c c') 3900 = true) (q : ∀ p H', Same H H' → PB H' p C (fun k => f k * w + g k * v) (v * w) (max n m) (b + b' + c + c' + 1) (c + c') → Q (.ref p) H') : rOp2 C (spAdd K C) E (.ref x) (.ref y) H Q := by
  obtain ⟨dx, fs, hx⟩ := h.ins
  obtain ⟨dy, gs, hy⟩ := h'.ins
  exact ⟨x, dx, fs, y, dy, gs, rfl, hx, rfl, hy, sp_add h (TB.p h') q s1 s2 s3⟩
theorem o_addI (h : PB H x C f v n b c) (hi : Bd b' i)
    (s1 : Nat.ble (max n 1) 1000 = true) (s2 : Nat.ble (max b b') 100000 = true) (s3 : Nat.ble (max c 1) 3900 = true) (q : ∀ p H', Same H H' → PB H' p C (fun k => f k + one i k * v) v (max n 1) (b + b' + c + 1 + 1) (c + 1) → Q (.ref p) H') : rOpI C (spAdd K C) E (.ref x) (.int i) H Q := by
  obtain ⟨dx, fs, hx⟩ := h.ins
  exact ⟨x, dx, fs, i, rfl, hx, rfl, sp_add h (TB.int hi) (fun p H' e h => q p H' e (by simp only [Int.mul_one] at h; exact h)) s1 s2 s3⟩
theorem o_radd (h : PB H x C f v n b c) (hi : Bd b' i)
    (s1 : Nat.ble (max n 1) 1000 = true) (s2 : Nat.ble (max b b') 100000 = true) (s3 : Nat.ble (max c 1) 3900 = true) (q : ∀ p H', Same H H' → PB H' p C (fun k => f k + one i k * v) v (max n 1) (b + b' + c + 1 + 1) (c + 1) → Q (.ref p) H') : rOpR C (spRadd K C) E (.int i) (.ref x) H Q := by
  obtain ⟨dx, fs, hx⟩ := h.ins
  exact ⟨x, dx, fs, i, rfl, hx, rfl, ⟨x, i, rfl⟩, sp_add h (TB.int hi) (fun p H' e h => q p H' e (by simp only [Int.mul_one] at h; exact h)) s1 s2 s3⟩
theorem o_sub (h : PB H x C f v n b c) (h' : PB H y C g w m b' c')
    (s1 : Nat.ble (max n m) 1000 = true) (s2 : Nat.ble (max b b') 100000 = true) (s3 : Nat.ble (max c c') 3900 = true) (q : ∀ p H', Same H H' → PB H' p C (fun k => f k * w + -g k * v) (v * w) (max n m) (b + b' + c + c' + 1) (c + c') → Q (.ref p) H') : rOp2 C (spSub K C) E (.ref x) (.ref y) H Q := by
  obtain ⟨dx, fs, hx⟩ := h.ins
  obtain ⟨dy, gs, hy⟩ := h'.ins
  exact ⟨x, dx, fs, y, dy, gs, rfl, hx, rfl, hy, sp_sub h (TB.p h') q s1 s2 s3⟩
theorem o_subI (h : PB H x C f v n b c) (hi : Bd b' i)
    (s1 : Nat.ble (max n 1) 1000 = true) (s2 : Nat.ble (max b b') 100000 = true) (s3 : Nat.ble (max c 1) 3900 = true) (q : ∀ p H', Same H H' → PB H' p C (fun k => f k + -one i k * v) v (max n 1) (b + b' + c + 1 + 1) (c + 1) → Q (.ref p) H') : rOpI C (spSub K C) E (.ref x) (.int i) H Q := by
  obtain ⟨dx, fs, hx⟩ := h.ins
  exact ⟨x, dx, fs, i, rfl, hx, rfl, sp_sub h (TB.int hi) (fun p H' e h => q p H' e (by simp only [Int.mul_one] at h; exact h)) s1 s2 s3⟩
theorem o_rsub (h : PB H x C f v n b c) (hi : Bd b' i)
    (s1 : Nat.ble n 1000 = true) (s2 : Nat.ble (max b b') 100000 = true) (s3 : Nat.ble c 3900 = true) (q : ∀ p H', Same H H' → PB H' p C (fun k => -f k + one i k * v) v (max n 1) (b + b' + c + 1 + 1) (c + 1) → Q (.ref p) H') : rOpR C (spRsub K C) E (.int i) (.ref x) H Q := by
  obtain ⟨dx, fs, hx⟩ := h.ins
  exact ⟨x, dx, fs, i, rfl, hx, rfl, sp_rsub h hi (fun p H' e h => q p H' e (by simp only [Int.mul_one] at h; exact h)) s1 s2 s3⟩
theorem o_mul (h : PB H x C f v n b c) (h' : PB H y C g w m b' c')
    (s1 : Nat.ble (max n m) 1000 = true) (s2 : Nat.ble (max b b') 100000 = true) (s3 : Nat.ble (max c c') 3900 = true) (q : ∀ p H', Same H H' → PB H' p C (cv f g) (v * w) (n + m) (b + b' + n) (c + c') → Q (.ref p) H') : rOp2 C (spMul K C) E (.ref x) (.ref y) H Q := by
  obtain ⟨dx, fs, hx⟩ := h.ins
  obtain ⟨dy, gs, hy⟩ := h'.ins
  exact ⟨x, dx, fs, y, dy, gs, rfl, hx, rfl, hy, sp_mul h (TB.p h') q s1 s2 s3⟩
theorem o_mulI (h : PB H x C f v n b c) (hi : Bd b' i)
    (s1 : Nat.ble (max n 1) 1000 = true) (s2 : Nat.ble (max b b') 100000 = true) (s3 : Nat.ble (max c 1) 3900 = true) (q : ∀ p H', Same H H' → PB H' p C (fun k => f k * i) v (n + 1) (b + b' + n) (c + 1) → Q (.ref p) H') : rOpI C (spMul K C) E (.ref x) (.int i) H Q := by
  obtain ⟨dx, fs, hx⟩ := h.ins
  exact ⟨x, dx, fs, i, rfl, hx, rfl, sp_mul h (TB.int hi) (fun p H' e h => q p H' e (by rw [Int.mul_one, funext (cv_one (f := f) (i := i))] at h; exact h)) s1 s2 s3⟩
theorem o_rmul (h : PB H x C f v n b c) (hi : Bd b' i)
    (s1 : Nat.ble (max n 1) 1000 = true) (s2 : Nat.ble (max b b') 100000 = true) (s3 : Nat.ble (max c 1) 3900 = true) (q : ∀ p H', Same H H' → PB H' p C (fun k => f k * i) v (n + 1) (b + b' + n) (c + 1) → Q (.ref p) H') : rOpR C (spRmul K C) E (.int i) (.ref x) H Q := by
  obtain ⟨dx, fs, hx⟩ := h.ins
  exact ⟨x, dx, fs, i, rfl, hx, rfl, ⟨x, i, rfl⟩, sp_mul h (TB.int hi) (fun p H' e h => q p H' e (by rw [Int.mul_one, funext (cv_one (f := f) (i := i))] at h; exact h)) s1 s2 s3⟩
theorem o_neg (h : PB H x C f v n b c)
    (s1 : Nat.ble n 1000 = true) (s2 : Nat.ble b 100000 = true) (s3 : Nat.ble c 3900 = true) (q : ∀ p H', Same H H' → PB H' p C (fun k => -f k) v n b c → Q (.ref p) H') : rNegO C (spNeg K C) E (.ref x) H Q := by
  obtain ⟨dx, fs, hx⟩ := h.ins
  exact ⟨x, dx, fs, rfl, hx, sp_neg h q s1 s2 s3⟩
theorem o_pow {CB : Addr} (h : PB H x C f v n b c) {j : Nat} (hj : Nat.ble j 6 = true)
    (s1 : Nat.ble (1 + 6 * n) 1000 = true) (s2 : Nat.ble (1 + 6 * (b + 1 + n * 6)) 100000 = true) (s3 : Nat.ble (1 + 6 * c) 3900 = true) (q : ∀ p H', Same H H' → PB H' p C (powF f j) (v ^ j) (1 + j * n) (1 + j * (b + 1 + n * 6)) (1 + j * c) → Q (.ref p) H') : rOpI C (spPow K C CB) E (.ref x) (.int j) H Q := by
  obtain ⟨dx, fs, hx⟩ := h.ins
  exact ⟨x, dx, fs, j, rfl, hx, rfl, sp_pow h (Nat.le_of_ble_eq_true hj) q s1 s2 s3⟩
theorem o_powX {CB : Addr} (h : PB H x C f v n b c) {j : Nat} (hj : Nat.ble 7 j = true) (q : ∀ d H', Same H H' → H' d = some (.xd [("number", .int j)]) → E (.ref CB) (some d) H') : rOpI C (spPow K C CB) E (.ref x) (.int j) H Q := by
  obtain ⟨dx, fs, hx⟩ := h.ins
  exact ⟨x, dx, fs, j, rfl, hx, rfl, .inl ⟨x, j, rfl, by have := Nat.le_of_ble_eq_true hj; omega, q⟩⟩
end
end Ev

end
/-! Division of rows, plainly. -/
namespace Pl
/-- a n^d -/
def mono (d : Nat) (a : Int) (k : Nat) : Int := if k = d then a else 0
theorem cvF_mono {d : Nat} {a : Int} {g : Nat → Int} {k : Nat} : ∀ i, cvF (mono d a) g i k = if d < i ∧ d ≤ k then a * g (k - d) else 0
  | 0 => by rw [if_neg (by omega)]; rfl
  | i + 1 => by
    show cvF (mono d a) g i k + (if i ≤ k then mono d a i * g (k - i) else 0) = _
    rw [cvF_mono i]
    unfold mono
    by_cases h : i = d
    · subst h
      rw [if_neg (by omega), if_pos rfl]
      by_cases h2 : i ≤ k
      · rw [if_pos h2, if_pos ⟨by omega, h2⟩, Int.zero_add]
      · rw [if_neg h2, if_neg (by omega)]; rfl
    · rw [if_neg h, Int.zero_mul]
      have e : (if i ≤ k then (0 : Int) else 0) = 0 := by split <;> rfl
      rw [e, Int.add_zero]
      by_cases h2 : d < i ∧ d ≤ k
      · rw [if_pos h2, if_pos (by omega)]
      · rw [if_neg h2, if_neg (by omega)]
theorem cv_mono {d : Nat} {a : Int} {g : Nat → Int} {k : Nat} : cv (mono d a) g k = if d ≤ k then a * g (k - d) else 0 := by
  unfold cv
  rw [cvF_mono]
  by_cases h : d ≤ k
  · rw [if_pos ⟨by omega, h⟩, if_pos h]
  · rw [if_neg (by omega), if_neg h]
theorem cvF_lin {f f' g : Nat → Int} {a b : Int} {k : Nat} : ∀ i, cvF (fun j => f j * a + f' j * b) g i k = cvF f g i k * a + cvF f' g i k * b
  | 0 => by show (0 : Int) = 0 * a + 0 * b; simp
  | i + 1 => by
    show cvF _ g i k + (if i ≤ k then (f i * a + f' i * b) * g (k - i) else 0) = (cvF f g i k + (if i ≤ k then f i * g (k - i) else 0)) * a + (cvF f' g i k + (if i ≤ k then f' i * g (k - i) else 0)) * b
    rw [cvF_lin i]
    split <;> grind
theorem cv_lin {f f' g : Nat → Int} {a b : Int} {k : Nat} : cv (fun j => f j * a + f' j * b) g k = cv f g k * a + cv f' g k * b := cvF_lin _
/-- the greatest place that is not 0 -/
def Top (f : Nat → Int) (T : Nat) : Prop := f T ≠ 0 ∧ ∀ k, T < k → f k = 0
theorem top_ex {f : Nat → Int} : ∀ n, (∀ k, n ≤ k → f k = 0) → (∀ k, f k = 0) ∨ ∃ T, T < n ∧ Top f T
  | 0, h => .inl fun k => h k (Nat.zero_le k)
  | n + 1, h => by
    by_cases e : f n = 0
    · rcases top_ex (f := f) n (fun k hk => by
        by_cases h2 : k = n
        · rw [h2]; exact e
        · exact h k (by omega)) with z | ⟨T, h1, h2⟩
      · exact .inl z
      · exact .inr ⟨T, by omega, h2⟩
    · exact .inr ⟨n, by omega, e, fun k hk => h k hk⟩
theorem cvF_top {f g : Nat → Int} {T G : Nat} (hf : ∀ k, T < k → f k = 0) (hg : ∀ k, G < k → g k = 0) : ∀ i, cvF f g i (T + G) = if T < i then f T * g G else 0
  | 0 => by rw [if_neg (by omega)]; rfl
  | i + 1 => by
    show cvF f g i (T + G) + (if i ≤ T + G then f i * g (T + G - i) else 0) = _
    rw [cvF_top hf hg i]
    rcases Nat.lt_trichotomy i T with h | h | h
    · rw [if_neg (show ¬ T < i by omega), if_pos (show i ≤ T + G by omega), if_neg (show ¬ T < i + 1 by omega), hg (T + G - i) (by omega)]; simp
    · subst h
      rw [if_neg (show ¬ i < i by omega), if_pos (show i ≤ i + G by omega), if_pos (show i < i + 1 by omega), Nat.add_sub_cancel_left]; simp
    · rw [if_pos h, if_pos (show T < i + 1 by omega), hf i h]; simp
theorem cv_top {f g : Nat → Int} {T G : Nat} (hf : Top f T) (hg : Top g G) : cv f g (T + G) = f T * g G := by
  unfold cv
  rw [cvF_top hf.2 hg.2, if_pos (by omega)]
/-- quotient and rest are the only ones -/
theorem div_uniq {f0 q r g qa b : Nat → Int} {v0 V w va vb : Int} {G n : Nat} (hv0 : 0 < v0) (hV : 0 < V) (hw : 0 < w) (hva : 0 < va) (hvb : 0 < vb) (h1 : ∀ k, f0 k * (V * w) = (cv q g k + r k * w) * v0) (h2 : ∀ k, f0 k * (va * w * vb) = (cv qa g k * vb + b k * (va * w)) * v0) (hg : Top g G)
    (hr : ∀ k, G ≤ k → r k = 0) (hb : ∀ k, G ≤ k → b k = 0) (hn : ∀ k, n ≤ k → q k = 0 ∧ qa k = 0) : (∀ k, q k * va = qa k * V) ∧ ∀ k, r k * vb = b k * V := by
  have key : ∀ k, cv (fun j => q j * va + qa j * -V) g k * vb = (b k * V - r k * vb) * (va * w) := fun k => by
    rw [cv_lin]
    have e1 := h1 k
    have e2 := h2 k
    have e3 : (cv q g k + r k * w) * v0 * (va * vb) = (cv qa g k * vb + b k * (va * w)) * v0 * V := by rw [← e1, ← e2]; grind
    have e4 : (cv q g k + r k * w) * (va * vb) = (cv qa g k * vb + b k * (va * w)) * V := by
      refine Int.eq_of_mul_eq_mul_right (show v0 ≠ 0 by omega) ?_
      grind
    grind
  have hD : ∀ k, q k * va + qa k * -V = 0 := by
    rcases top_ex (f := fun j => q j * va + qa j * -V) n (fun k hk => by
      obtain ⟨z1, z2⟩ := hn k hk
      show q k * va + qa k * -V = 0
      rw [z1, z2]; simp) with z | ⟨T, _, hT⟩
    · exact z
    · have e := key (T + G)
      rw [cv_top hT hg, hr _ (by omega), hb _ (by omega)] at e
      have : (0 * V - 0 * vb) * (va * w) = 0 := by simp
      rw [this] at e
      rcases Int.mul_eq_zero.mp e with z | z
      · rcases Int.mul_eq_zero.mp z with z | z
        · exact absurd z hT.1
        · exact absurd z hg.1
      · omega
  refine ⟨fun k => by have := hD k; rw [Int.mul_neg] at this; omega, fun k => ?_⟩
  have e := key k
  have z : cv (fun j => q j * va + qa j * -V) g k = 0 := by
    rw [show (fun j => q j * va + qa j * -V) = mono 0 0 from funext fun j => by rw [hD j]; unfold mono; split <;> rfl, cv_mono]
    split <;> simp
  rw [z, Int.zero_mul] at e
  rcases Int.mul_eq_zero.mp e.symm with z | z
  · omega
  · rcases Int.mul_eq_zero.mp z with z | z <;> omega
theorem Frac.len {rs : List Int} {u v : Int} {f : Nat → Int} {T : Nat} (h : Frac rs u f v) (hT : Top f T) : rs.length = T + 1 := by
  have hz : ∀ k, at0 rs k = 0 ↔ f k = 0 := fun k => by
    have e := h.2.2 k
    have hu := h.1.pos
    have hv := h.2.1
    constructor
    · intro z
      rw [z, Int.zero_mul] at e
      rcases Int.mul_eq_zero.mp e.symm with z | z
      · exact z
      · omega
    · intro z
      rw [z, Int.zero_mul] at e
      rcases Int.mul_eq_zero.mp e with z | z
      · exact z
      · omega
  have h1 : T < rs.length := by
    by_cases c : T < rs.length
    · exact c
    · exact absurd ((hz T).mp (at0_out (by omega))) hT.1
  by_cases c : rs.length = T + 1
  · exact c
  · have hne : rs ≠ [] := fun z => by rw [z] at h1; exact absurd h1 (Nat.not_lt_zero _)
    exact absurd ((hz _).mpr (hT.2 (rs.length - 1) (by omega))) (h.1.low hne)
theorem Frac.nil {rs : List Int} {u v : Int} {f : Nat → Int} (h : Frac rs u f v) (h0 : ∀ k, f k = 0) : rs = [] := by
  have := h.small.2.2 0 fun k _ => h0 k
  exact List.length_eq_zero_iff.mp (by omega)
/-- the term's fraction -/
theorem sgn_abs {a : Int} : a.sign * a = a.natAbs := by
  rw [Int.mul_comm, Int.mul_sign_self]
end Pl

/-! Values of rows given as functions. -/
namespace Pl
def ev (f : Nat → Int) : Nat → Int → Int
  | 0, _ => 0
  | n + 1, t => ev f n t + f n * t ^ n
theorem ev_congr {f g : Nat → Int} {t : Int} : ∀ n, (∀ k, k < n → f k = g k) → ev f n t = ev g n t
  | 0, _ => rfl
  | n + 1, h => by show ev f n t + _ = ev g n t + _; rw [ev_congr n fun k hk => h k (by omega), h n (by omega)]
theorem ev_add {f g : Nat → Int} {t : Int} : ∀ n, ev (fun k => f k + g k) n t = ev f n t + ev g n t
  | 0 => rfl
  | n + 1 => by show ev (fun k => f k + g k) n t + (f n + g n) * t ^ n = ev f n t + f n * t ^ n + (ev g n t + g n * t ^ n); rw [ev_add n]; grind
theorem ev_scale {f : Nat → Int} {a t : Int} : ∀ n, ev (fun k => f k * a) n t = ev f n t * a
  | 0 => by show (0 : Int) = 0 * a; simp
  | n + 1 => by show ev (fun k => f k * a) n t + f n * a * t ^ n = (ev f n t + f n * t ^ n) * a; rw [ev_scale n]; grind
theorem ev_big {f : Nat → Int} {n : Nat} {t : Int} (h : ∀ k, n ≤ k → f k = 0) : ∀ m, ev f (n + m) t = ev f n t
  | 0 => rfl
  | m + 1 => by show ev f (n + m) t + f (n + m) * t ^ (n + m) = _; rw [ev_big h m, h (n + m) (by omega)]; simp
theorem ev_cons {f : Nat → Int} {t : Int} : ∀ n, ev f (n + 1) t = f 0 + t * ev (fun k => f (k + 1)) n t
  | 0 => by show 0 + f 0 * t ^ 0 = f 0 + t * 0; simp
  | n + 1 => by
    show ev f (n + 1) t + f (n + 1) * t ^ (n + 1) = f 0 + t * (ev (fun k => f (k + 1)) n t + f (n + 1) * t ^ n)
    rw [ev_cons n, Int.pow_succ]; grind
theorem hv_ev {t : Int} : ∀ rs : List Int, hv rs t = ev (at0 rs) rs.length t
  | [] => rfl
  | a :: r => by
    rw [hv_cons, hv_ev r, List.length_cons, ev_cons]
    show ev (at0 r) r.length t * t + a = a + t * ev (fun k => at0 (a :: r) (k + 1)) r.length t
    rw [show (fun k => at0 (a :: r) (k + 1)) = at0 r from funext fun k => rfl]
    grind
theorem ev_shift {g : Nat → Int} {d : Nat} {a t : Int} : ∀ m, ev (fun k => if d ≤ k then a * g (k - d) else 0) (d + m) t = a * t ^ d * ev g m t
  | 0 => by
    have h : ∀ n, n ≤ d → ev (fun k => if d ≤ k then a * g (k - d) else 0) n t = 0 := fun n => by
      induction n with
      | zero => intro _; rfl
      | succ n ih =>
        intro hn
        show ev _ n t + (if d ≤ n then a * g (n - d) else 0) * t ^ n = 0
        rw [ih (by omega), if_neg (by omega)]; simp
    rw [Nat.add_zero, h d (Nat.le_refl _)]
    show (0 : Int) = a * t ^ d * 0
    simp
  | m + 1 => by
    show ev _ (d + m) t + (if d ≤ d + m then a * g (d + m - d) else 0) * t ^ (d + m) = a * t ^ d * (ev g m t + g m * t ^ m)
    rw [ev_shift m, if_pos (by omega), Nat.add_sub_cancel_left, Int.pow_add]; grind
theorem ev_cvF {f g : Nat → Int} {m : Nat} {t : Int} (hg : ∀ k, m ≤ k → g k = 0) : ∀ i N, i + m ≤ N → ev (cvF f g i) N t = ev f i t * ev g m t
  | 0, N, _ => by
    have h : ∀ n, ev (cvF f g 0) n t = 0 := fun n => by
      induction n with
      | zero => rfl
      | succ n ih => show ev (cvF f g 0) n t + 0 * t ^ n = 0; rw [ih]; simp
    rw [h N]
    show (0 : Int) = 0 * _
    simp
  | i + 1, N, hN => by
    have e : cvF f g (i + 1) = fun k => cvF f g i k + if i ≤ k then f i * g (k - i) else 0 := funext fun k => rfl
    obtain ⟨M, rfl⟩ : ∃ M, N = i + M := ⟨N - i, by omega⟩
    obtain ⟨M', rfl⟩ : ∃ M', M = m + M' := ⟨M - m, by omega⟩
    rw [e, ev_add, ev_cvF hg i _ (by omega), ev_shift, ev_big hg]
    show _ = (ev f i t + f i * t ^ i) * _
    grind
theorem ev_mul {f g : Nat → Int} {n m : Nat} {t : Int} (hf : ∀ k, n ≤ k → f k = 0) (hg : ∀ k, m ≤ k → g k = 0) : ev (cv f g) (n + m) t = ev f n t * ev g m t := by
  rw [← ev_cvF hg n (n + m) (Nat.le_refl _)]
  exact ev_congr _ fun k _ => (cvF_cv hf).symm
theorem ev_row {f : Nat → Int} {n : Nat} {t : Int} : ev f n t = hv ((List.range n).map f) t := by
  rw [hv_ev, List.length_map, List.length_range]
  exact ev_congr n fun k hk => by rw [at0_in (by rw [List.length_map, List.length_range]; exact hk), List.getElem_map, List.getElem_range]
theorem flat_ev {f : Nat → Int} {n : Nat} : Flat n (ev f n) := by
  have := flat_hv ((List.range n).map f)
  rw [List.length_map, List.length_range] at this
  exact this.congr fun t => ev_row.symm
/-- 0 at d neighbours, 0 everywhere -/
theorem Flat.zero {f : Int → Int} {d : Nat} {s : Int} (h : Flat d f) (h0 : ∀ i : Nat, i < d → f (s + i) = 0) (n : Int) : f n = 0 := by
  have := h.all (u := (f n).natAbs + 1) (s := s) (fun i hi => by rw [h0 i hi]; exact Int.dvd_zero _) n
  by_cases z : f n = 0
  · exact z
  · have h1 := Int.natAbs_dvd_natAbs.mpr this
    have h2 := Nat.le_of_dvd (Int.natAbs_pos.mpr z) h1
    rw [show (((f n).natAbs : Int) + 1).natAbs = (f n).natAbs + 1 by omega] at h2
    omega
/-- a row that is 0 everywhere -/
theorem ev_zero : ∀ {n : Nat} {f : Nat → Int}, (∀ t, ev f n t = 0) → ∀ k, k < n → f k = 0
  | 0, _, _, k, hk => absurd hk (Nat.not_lt_zero k)
  | n + 1, f, h, k, hk => by
    have h0 : f 0 = 0 := by
      have := h 0
      rw [ev_cons] at this
      simpa using this
    have h1 : ∀ t, ev (fun k => f (k + 1)) n t = 0 := by
      refine Flat.zero (s := 1) flat_ev fun i _ => ?_
      have := h (1 + i)
      rw [ev_cons, h0, Int.zero_add] at this
      rcases Int.mul_eq_zero.mp this with z | z
      · omega
      · exact z
    match k with
    | 0 => exact h0
    | k + 1 => exact ev_zero h1 k (by omega)
/-- Pascal's numbers -/
def ch : Nat → Nat → Int
  | _, 0 => 1
  | 0, _ + 1 => 0
  | i + 1, j + 1 => ch i j + ch i (j + 1)
theorem ch_zero {i : Nat} : ch i 0 = 1 := by cases i <;> rfl
theorem ch_step : ∀ i j : Nat, ((j : Int) + 1) * ch i (j + 1) = ((i : Int) - j) * ch i j
  | 0, 0 => by
    show (((0 : Nat) : Int) + 1) * 0 = (((0 : Nat) : Int) - ((0 : Nat) : Int)) * 1
    simp
  | 0, j + 1 => by
    show (((j + 1 : Nat) : Int) + 1) * 0 = (((0 : Nat) : Int) - ((j + 1 : Nat) : Int)) * 0
    simp
  | i + 1, 0 => by
    have := ch_step i 0
    show (((0 : Nat) : Int) + 1) * (ch i 0 + ch i 1) = (((i + 1 : Nat) : Int) - ((0 : Nat) : Int)) * ch (i + 1) 0
    rw [ch_zero, ch_zero] at *
    push_cast at *
    omega
  | i + 1, j + 1 => by
    have h1 := ch_step i j
    have h2 := ch_step i (j + 1)
    show (((j + 1 : Nat) : Int) + 1) * (ch i (j + 1) + ch i (j + 2)) = (((i + 1 : Nat) : Int) - ((j + 1 : Nat) : Int)) * (ch i j + ch i (j + 1))
    push_cast at *
    grind
/-- the k-th differences of a row -/
def dif : Nat → (Nat → Int) → Nat → Int
  | 0, v => v
  | k + 1, v => dif k fun i => v (i + 1) - v i
def nsum (v : Nat → Int) (i : Nat) : Nat → Int
  | 0 => 0
  | k + 1 => nsum v i k + ch i k * dif k v 0
theorem dif_succ : ∀ (k : Nat) (v : Nat → Int) (i : Nat), dif (k + 1) v i = dif k v (i + 1) - dif k v i
  | 0, _, _ => rfl
  | k + 1, v, i => dif_succ k (fun i => v (i + 1) - v i) i
theorem dif_add : ∀ (k : Nat) (v : Nat → Int) (i : Nat), dif k (fun j => v (j + 1)) i = dif k v (i + 1)
  | 0, _, _ => rfl
  | k + 1, v, i => dif_add k (fun j => v (j + 1) - v j) i
theorem nsum_step (v : Nat → Int) (i : Nat) : ∀ k, nsum v (i + 1) (k + 1) = nsum v i (k + 1) + nsum (fun j => v (j + 1) - v j) i k
  | 0 => by show 0 + ch (i + 1) 0 * _ = 0 + ch i 0 * _ + 0; rw [ch_zero, ch_zero]; omega
  | k + 1 => by
    show nsum v (i + 1) (k + 1) + (ch i k + ch i (k + 1)) * dif (k + 1) v 0 = nsum v i (k + 1) + ch i (k + 1) * dif (k + 1) v 0 + (nsum (fun j => v (j + 1) - v j) i k + ch i k * dif k (fun j => v (j + 1) - v j) 0)
    rw [nsum_step v i k]
    show _ + (ch i k + ch i (k + 1)) * dif k (fun j => v (j + 1) - v j) 0 = _ + ch i (k + 1) * dif k (fun j => v (j + 1) - v j) 0 + _
    grind
/-- Newton's row tells the values -/
theorem newton : ∀ (i k : Nat) (v : Nat → Int), i < k → nsum v i k = v i
  | 0, k + 1, v, _ => by
    have h : ∀ k, nsum v 0 (k + 1) = v 0 := fun k => by
      induction k with
      | zero => show 0 + ch 0 0 * dif 0 v 0 = v 0; rw [ch_zero]; show 0 + 1 * v 0 = v 0; omega
      | succ k ih => show nsum v 0 (k + 1) + ch 0 (k + 1) * _ = _; rw [ih]; show v 0 + 0 * _ = v 0; simp
    exact h k
  | i + 1, k + 1, v, h => by
    rw [nsum_step]
    obtain ⟨k', rfl⟩ : ∃ k', k = k' + 1 := ⟨k - 1, by omega⟩
    rw [newton i (k' + 1 + 1) v (by omega), newton i (k' + 1) _ (by omega)]
    omega
end Pl

section
open L2 in
local macro_rules | `(tactic| walk_at "gx") => `(tactic| first
  | ((with_reducible show tVar _ _ _ _); refine g_var rfl ?_)
  | with_reducible refine g_c ?_
  | with_reducible refine g_op ?_
  | with_reducible refine g_cons ?_
  | with_reducible refine g_nil ?_
  | with_reducible refine g_test ?_
  | with_reducible refine g_blp ?_
  | with_reducible refine g_asg ?_
  | (with_reducible refine g_name ?_; (try simp only [List.set_cons_zero, List.set_cons_succ]))
  | with_reducible refine g_call ?_
  | with_reducible refine g_cb ?_
  | with_reducible refine g_I0 ?_
  | with_reducible refine g_U ?_
  | with_reducible refine g_eqI ?_
  | with_reducible refine g_neI ?_
  | with_reducible refine g_if ?_
  | with_reducible refine g_ret ?_
  | with_reducible refine g_retN ?_
  | with_reducible refine g_next ?_
  | with_reducible refine g_drop ?_
  | with_reducible refine g_un ?_
  | with_reducible refine g_tb ?_
  | with_reducible refine g_tup ?_
  | with_reducible refine g_lst ?_
  | with_reducible refine g_and ?_
  | with_reducible refine g_or ?_
  | with_reducible refine g_not ?_
  | with_reducible refine g_andV ?_
  | with_reducible refine g_orV ?_
  | with_reducible refine g_notV ?_
  | with_reducible refine g_ifE ?_
  | with_reducible refine g_fld ?_
  | with_reducible refine g_tt ?_
  | with_reducible refine g_ff ?_
  | with_reducible refine g_ntt ?_
  | with_reducible refine g_nff ?_
  | with_reducible refine g_for ?_
  | with_reducible refine g_list ?_
  | with_reducible refine g_tupI ?_
  | with_reducible refine g_rng1 ?_
  | with_reducible refine g_rng2 ?_
  | with_reducible refine g_enumA ?_
  | with_reducible refine g_rev ?_
  | with_reducible refine g_lc ?_
  | with_reducible refine g_gcons ?_
  | with_reducible refine g_gnil ?_
  | with_reducible refine g_yes ?_
  | with_reducible refine g_sl ?_
  | with_reducible refine g_nopart ?_
  | with_reducible refine g_part ?_
  | with_reducible refine g_int ?_
  | with_reducible refine g_dget ?_
  | with_reducible refine g_dput ?_
  | with_reducible refine g_raiseX ?_
  | with_reducible refine g_tru ?_
  | with_reducible refine g_sub ?_
  | with_reducible refine g_isN ?_
  | with_reducible refine g_notN ?_
  | with_reducible refine g_bm ?_
  | with_reducible refine L2.g_bm0 ?_
  | with_reducible refine g_pair ?_
  | with_reducible refine g_pair0 ?_
  | with_reducible refine u_int1 ?_
  | with_reducible refine g_chain ?_
  | with_reducible refine L2.g_sfld ?_
  | (with_reducible refine g_par3 ?_)
  | (with_reducible refine g_three ?_; (try simp only [List.set_cons_zero, List.set_cons_succ]))
  | ((with_reducible apply L2.g_tupT); walk_at "up"; rfl)
  | (with_reducible refine g_par ?_)
  | (with_reducible refine g_two ?_; (try simp only [List.set_cons_zero, List.set_cons_succ]))
  )
local macro_rules | `(tactic| walk_at "go") => `(tactic| first | walk_at "gx" | with_reducible refine L2.g_seq ?_)
local macro_rules | `(tactic| walk_at "gou") => `(tactic| repeat (walk_at "gx"))
local macro_rules | `(tactic| walk_at "gos") => `(tactic| repeat (walk_at "go"))
local macro_rules | `(tactic| walk_at "sl") => `(tactic| first
  | assumption
  | exact L2.Same.l (by assumption)
  | exact L2.SameD.l (by assumption)
  | exact L2.extN_l (by assumption))
local macro_rules | `(tactic| walk_at "up") => `(tactic| first
  | assumption
  | ((with_reducible apply L2.SameL.lst); walk_at "sl"; walk_at "up")
  | ((with_reducible apply L2.SameL.tupA); walk_at "sl"; walk_at "up")
  | ((with_reducible apply L2.SameL.ins); walk_at "sl"; walk_at "up")
  | ((with_reducible apply Ev.PB.l); walk_at "sl"; walk_at "up")
  | ((with_reducible apply Ev.IsP.l); walk_at "sl"; walk_at "up")
  | ((with_reducible apply L2.sqL); walk_at "up")
  | ((with_reducible apply L2.sqT); walk_at "up")
  | ((with_reducible apply L2.SameL.seq); walk_at "sl"; walk_at "up")
  | ((with_reducible apply Ev.Pen.same); assumption; walk_at "up")
  | ((with_reducible apply Ev.Pen.extN); assumption; walk_at "up")
  | ((with_reducible apply L2.tabs_s); assumption; walk_at "up")
  | ((with_reducible apply L2.tabs_dd); assumption; walk_at "up")
  | ((with_reducible apply Or.inl); walk_at "up")
  | ((with_reducible apply Or.inr); walk_at "up"))
local macro_rules | `(tactic| walk_at "new") => `(tactic| (
  first
    | refine ⟨L2.size_ok (by rfl), fun p hp => ?_⟩
    | refine fun p hp => ?_
  generalize hX : L2.upd _ p _ = H1
  obtain ⟨e, h⟩ := L2.news hp hX
  clear hX))
local macro_rules | `(tactic| walk_at "o") => `(tactic| first
  | ((with_reducible apply Ev.o_add); walk_at "up"; walk_at "up"; rfl; rfl; rfl)
  | ((with_reducible apply Ev.o_sub); walk_at "up"; walk_at "up"; rfl; rfl; rfl)
  | ((with_reducible apply Ev.o_mul); walk_at "up"; walk_at "up"; rfl; rfl; rfl)
  | ((with_reducible apply Ev.o_addI); walk_at "up"; assumption; rfl; rfl; rfl)
  | ((with_reducible apply Ev.o_subI); walk_at "up"; assumption; rfl; rfl; rfl)
  | ((with_reducible apply Ev.o_mulI); walk_at "up"; assumption; rfl; rfl; rfl)
  | ((with_reducible apply Ev.o_radd); walk_at "up"; assumption; rfl; rfl; rfl)
  | ((with_reducible apply Ev.o_rsub); walk_at "up"; assumption; rfl; rfl; rfl)
  | ((with_reducible apply Ev.o_rmul); walk_at "up"; assumption; rfl; rfl; rfl)
  | ((with_reducible apply Ev.o_neg); walk_at "up"; rfl; rfl; rfl))
local macro_rules | `(tactic| walk_at "eq") => `(tactic| ((with_reducible apply Ev.u_ownB); assumption; walk_at "up"; walk_at "up"; (focus (intro k; first | rfl | exact Pl.e_add | exact Pl.e_sub | exact Pl.e_mul | exact Pl.e_rsub | exact Pl.e_rsub2))))
local macro_rules | `(tactic| walk_at "isp") => `(tactic| (apply Ev.u_isB; walk_at "up"; walk_at "up"; rfl; rfl))

/-! a row's value; a piece at a place, its degree, end, wholeness -/
namespace Ev
open PySem PySem.Spec PyProof.Rows L2 Pl
/-- bounds of a row and of a place -/
structure Sm (rs : List Int) (n : Int) : Prop where
  len : rs.length ≤ 1000
  row : ∀ k, Bd 100000 (at0 rs k)
  at_ : Bd 10000 n
theorem Sm.val {rs : List Int} {n : Int} (h : Sm rs n) : ∀ i, i ≤ rs.length → Bd (100000 + i * 10001) (hv (rs.drop (rs.length - i)) n) := by
  intro i
  induction i with
  | zero =>
    intro _
    rw [Nat.sub_zero, List.drop_length, hv_nil]
    unfold Bd
    exact Nat.two_pow_pos _
  | succ i ih =>
    intro hi
    rw [hv_step (by omega)]
    have h1 := (ih (by omega)).mul h.at_
    have h2 : Bd (100000 + i * 10001 + 10000) (at0 rs (rs.length - 1 - i)) := (h.row _).mono (by omega)
    exact (h1.add h2).mono (by omega)
section
variable {P : Program} {w : World} {K : PySem.W.Frag} {mg : Str → Option Value} {base : Heap}
def spValue (K : PySem.W.Frag) : Sp := fun vs H Q _ => ∃ (a : Addr) (rs : List Int) (n : Int), vs = [.ref a, .int n] ∧ (SqL K H a (rs.map V.int) ∨ SqT K H a (rs.map V.int)) ∧ Sm rs n ∧ ∀ H', Same H H' → Q (.int (hv rs n)) H'
theorem sc_row_value : FnScope ["row", "n", "value", "part"] ["row", "n"] (defScope (topS 17)) := ⟨rfl, rfl, rfl, by decide +kernel, rfl, by decide +kernel, by decide +kernel⟩
theorem ok_row_value (B : Bn mg) {f : Addr} {fd : FuncData} (F : Fun K "row_value" "row_value" (topS 17) f fd) : FnOk P w K mg base (L2.CX P w) 1 f fd ["row", "n"] (spValue K) := by
  have nd := sc_row_value.nd
  refine F.okX sc_row_value (fun vs H Q E h => ?_) (fun cdv A outer s H vs Q E hr h => ?_)
  · obtain ⟨a, rs, n, rfl, _⟩ := h
    rfl
  · refine ⟨_, (pss_cons (ps_set (i := 2) nd rfl (.inl rfl) pe_int)
      (pss_cons (ps_for (passes_of rfl) rfl (pi_reversedK (K := K) rfl (by rfl) B.reversed (pa_cons (pe_callTy (call_lstK (K := K) rfl) (by rfl) B.list_ (by decide +kernel) (pa_cons (pv 0) pa_nil)) pa_nil)) (pg_name (i := 3) nd rfl (.inl rfl)) (pss_one (ps_set (i := 2) nd rfl (.inl rfl) (pe_op op_add (pe_op op_mulX (pv 2) (pv 1)) (pv 3)))))
      (pss_one (ps_ret (pv 2))))), ?_⟩
    obtain ⟨a, rs, n, rfl, ha, sm, q⟩ := h
    refine g_st (σ' := [some (.ref a), some (.int n), none, none]) rfl ?_
    walk_at "gos"
    refine u_list ha fun l H1 hl e1 h1 => ?_
    walk_at "gos"
    refine u_rev (sqL h1) ?_
    have hln : (rs.map V.int).length = rs.length := List.length_map ..
    refine for_it walk_rev (fun i σ' H' => H' = H1 ∧ ∃ x, σ' = [some (.ref a), some (.int n), some (.int (hv (rs.drop (rs.length - i)) n)), x]) ?_ (fun i _ H' _ p => by rw [p.1]; exact sqL h1) (fun i x σ' H' H2 hi p y => ?_) (fun σ' H' p => ?_)
    · refine ⟨rfl, none, ?_⟩
      rw [Nat.sub_zero, List.drop_length, hv_nil]
    · obtain ⟨rfl, x0, rfl⟩ := p
      obtain ⟨rfl, hy⟩ := y
      rw [hln] at hi hy
      obtain rfl := at_ints hy
      walk_at "gos"
      refine g_I (Bd.mulX (sm.val i (by omega)) sm.at_ (by have := sm.len; omega)) ?_
      walk_at "gos"
      refine ⟨by trivial, some (.int (at0 rs (rs.length - 1 - i))), ?_⟩
      rw [hv_step hi]
    · obtain ⟨rfl, x0, rfl⟩ := p
      walk_at "gos"
      rw [hln, Nat.sub_self, List.drop_zero]
      exact q _ e1
/-- p(n) -/
def spAt (K : PySem.W.Frag) (C CP CN : Addr) : Sp := fun vs H Q E => ∃ (x : Addr) (nv : V) (rs : List Int) (u : Int) (b : Bool), vs = [.ref x, nv] ∧ IsP H x C rs u ∧ 0 < u ∧ Bd 8000 u ∧ Kd K H nv b ∧ (b = false → ∀ H', Exc1 H H' CP "n" nv E) ∧
  (b = true → ∃ n, nv = .int n ∧ Sm rs n ∧ (¬ u ∣ hv rs n → ∀ H', Exc1 H H' CN "n" nv E) ∧ (u ∣ hv rs n → ∀ H', Same H H' → Q (.int ((hv rs n).fdiv u)) H'))
theorem sc_Piece___call__ : FnScope ["self", "n", "value"] ["self", "n"] (defScope (inClass (topS 18) 3)) := ⟨rfl, rfl, rfl, by decide +kernel, rfl, by decide +kernel, by decide +kernel⟩
theorem ok_Piece_call {C CP CN : Addr} (B : Bn mg) (c_Piece : Cls K C) (n_row : NoAttr K C "row") (n_under : NoAttr K C "under") (X_BadPlace : ExT P K mg "BadPlace" CP ["n"]) (X_NotWhole : ExT P K mg "NotWhole" CN ["n"])
    (G_is_integer : CallF P w K mg base "is_integer" ["value"] 1 (spIsInteger K)) (G_row_value : CallF P w K mg base "row_value" ["row", "n"] 1 (spValue K))
    {f : Addr} {fd : FuncData} (F : Fun K "__call__" "Piece.__call__" (inClass (topS 18) 3) f fd) : FnOk P w K mg base (L2.CX P w) 3 f fd ["self", "n"] (spAt K C CP CN) := by
  have nd := sc_Piece___call__.nd
  refine F.okX sc_Piece___call__ (fun vs H Q E h => ?_) (fun cdv A outer s H vs Q E hr h => ?_)
  · obtain ⟨x, nv, rs, u, b, rfl, _⟩ := h
    rfl
  · refine ⟨_, (pss_cons (ps_if (pt_not (pt_val (pe_callF G_is_integer (hr.mono (by decide)) rfl passL (pa_cons (pv 1) pa_nil)))) (pss_one (ps_raiseX rfl X_BadPlace hr (takes_of rfl rfl rfl rfl) (pa_cons (pv 1) pa_nil))) pss_nil)
      (pss_cons (ps_set (i := 2) nd rfl (.inl rfl) (pe_callF G_row_value (hr.mono (by decide)) rfl passL (pa_cons (pe_fldK (K := K) rfl (pv 0) rfl) (pa_cons (pv 1) pa_nil))))
      (pss_cons (ps_if (pt_cmpR op_ne (pe_op op_modN (pv 2) (pe_fldK (K := K) rfl (pv 0) rfl)) pe_int (nomark _)) (pss_one (ps_raiseX rfl X_NotWhole hr (takes_of rfl rfl rfl rfl) (pa_cons (pv 1) pa_nil))) pss_nil)
      (pss_one (ps_ret (pe_op op_fdivX (pv 2) (pe_fldK (K := K) rfl (pv 0) rfl))))))), ?_⟩
    obtain ⟨x, nv, rs, u, b, rfl, ⟨dx, t, hx, ht⟩, hu, hb, hk, q1, q2⟩ := h
    refine g_st (σ' := [some (.ref x), some nv, none]) rfl ?_
    walk_at "gos"
    refine ⟨nv, b, rfl, hk, ?_⟩
    walk_at "gos"
    refine g_itn' (fun hbf => ?_) (fun hbt => ?_)
    · walk_at "gos"
      exact u_raise rfl (by decide) fun d H1 _ e1 hd => q1 hbf H1 e1 d hd
    · obtain ⟨n, rfl, sm, q3, q4⟩ := q2 hbt
      walk_at "gos"
      refine u_tfld rfl hx c_Piece n_row rfl ?_
      walk_at "gos"
      refine ⟨t, rs, n, rfl, .inr (sqT ht), sm, fun H1 e1 => ?_⟩
      walk_at "gos"
      refine u_tfld rfl (e1 _ _ hx) c_Piece n_under rfl ?_
      refine g_I (by omega) ?_
      walk_at "gos"
      have hm : (hv rs n).fmod u = 0 ↔ u ∣ hv rs n := by
        rw [Int.fmod_eq_emod_of_nonneg _ (Int.le_of_lt hu)]
        exact ⟨Int.dvd_of_emod_eq_zero, Int.emod_eq_zero_of_dvd⟩
      refine g_itn (fun hz => ?_) (fun hz => ?_)
      · walk_at "gos"
        exact u_raise rfl (by decide) fun d H2 _ e2 hd => q3 (fun z => hz (hm.mpr z)) H2 (e1.trans e2) d hd
      · walk_at "gos"
        refine u_tfld rfl (e1 _ _ hx) c_Piece n_under rfl ?_
        refine g_I (Bd.divX (n := 8000) (by omega) hb (by decide)) ?_
        exact q4 (hm.mp hz) H1 e1
/-- p.degree -/
def spDeg (C : Addr) : Sp := fun vs H Q _ => ∃ (x : Addr) (rs : List Int) (u : Int), vs = [.ref x] ∧ IsP H x C rs u ∧ Q (.int ((rs.length : Int) - 1)) H
theorem sc_Piece_degree : FnScope ["self"] ["self"] (defScope (inClass (topS 18) 4)) := ⟨rfl, rfl, rfl, by decide +kernel, rfl, by decide +kernel, by decide +kernel⟩
theorem ok_Piece_degree {C : Addr} (B : Bn mg) (c_Piece : Cls K C) (n_row : NoAttr K C "row") {f : Addr} {fd : FuncData} (F : Fun K "degree" "Piece.degree" (inClass (topS 18) 4) f fd) : FnOk P w K mg base (L2.CX P w) 1 f fd ["self"] (spDeg C) := by
  have nd := sc_Piece_degree.nd
  refine F.okX sc_Piece_degree (fun vs H Q E h => ?_) (fun cdv A outer s H vs Q E hr h => ?_)
  · obtain ⟨x, rs, u, rfl, _⟩ := h
    rfl
  · refine ⟨_, (pss_one (ps_ret (pe_op op_sub (pe_callB (call_lnK (K := K) rfl) (by rfl) B.len_ (by decide +kernel) (pa_cons (pe_fldK (K := K) rfl (pv 0) rfl) pa_nil)) pe_int))), ?_⟩
    obtain ⟨x, rs, u, rfl, ⟨dx, t, hx, ht⟩, q⟩ := h
    refine g_st (σ' := [some (.ref x)]) rfl ?_
    walk_at "gos"
    refine u_tfld rfl hx c_Piece n_row rfl ?_
    walk_at "gos"
    refine u_lenT (sqT ht) ?_
    walk_at "gos"
    rw [List.length_map]
    exact q
/-- p.end -/
def endOf (rs : List Int) : Int := (at0 rs (rs.length - 1)).sign
def spEnd (C : Addr) : Sp := fun vs H Q _ => ∃ (x : Addr) (rs : List Int) (u : Int), vs = [.ref x] ∧ IsP H x C rs u ∧ Q (.int (endOf rs)) H
theorem sc_Piece_end : FnScope ["self"] ["self"] (defScope (inClass (topS 18) 5)) := ⟨rfl, rfl, rfl, by decide +kernel, rfl, by decide +kernel, by decide +kernel⟩
theorem ok_Piece_end {C : Addr} (B : Bn mg) (c_Piece : Cls K C) (n_row : NoAttr K C "row") (G_sign_of : CallF P w K mg base "sign_of" ["value"] 1 spSign) {f : Addr} {fd : FuncData} (F : Fun K "end" "Piece.end" (inClass (topS 18) 5) f fd) :
    FnOk P w K mg base (L2.CX P w) 3 f fd ["self"] (spEnd C) := by
  have nd := sc_Piece_end.nd
  refine F.okX sc_Piece_end (fun vs H Q E h => ?_) (fun cdv A outer s H vs Q E hr h => ?_)
  · obtain ⟨x, rs, u, rfl, _⟩ := h
    rfl
  · refine ⟨_, (pss_one (ps_ret (pe_ifExp (pt_truK (K := K) rfl (pe_fldK (K := K) rfl (pv 0) rfl) (by intro _; rfl)) (pe_callF G_sign_of (hr.mono (by decide)) rfl passL (pa_cons (pe_ix (ix_tupK (K := K) rfl) (pe_fldK (K := K) rfl (pv 0) rfl) (pe_un un_neg pe_int) (fun _ _ => rfl)) pa_nil)) pe_int))), ?_⟩
    obtain ⟨x, rs, u, rfl, ⟨dx, t, hx, ht⟩, q⟩ := h
    refine g_st (σ' := [some (.ref x)]) rfl ?_
    walk_at "gos"
    refine u_tfld rfl hx c_Piece n_row rfl ?_
    refine u_truT (sqT ht) ?_
    cases rs with
    | nil =>
      walk_at "gos"
      exact q
    | cons a r =>
      rw [show (!((a :: r).map V.int).isEmpty) = true from rfl]
      walk_at "gos"
      refine u_tfld rfl hx c_Piece n_row rfl ?_
      walk_at "gos"
      refine u_ixT (sqT ht) (v := .int (at0 (a :: r) ((a :: r).length - 1))) (atI_m1 ?_) ?_
      · rw [List.length_map, List.getElem?_map, List.getElem?_eq_getElem (by simp), at0_in (by simp)]
        rfl
      · walk_at "gos"
        exact ⟨_, rfl, q⟩
/-- p.is_whole -/
def spWhole (C : Addr) : Sp := fun vs H Q _ => ∃ (x : Addr) (rs : List Int) (u : Int) (b : Bool), vs = [.ref x] ∧ IsP H x C rs u ∧ 0 < u ∧ (∀ i : Nat, i < rs.length → Sm rs i) ∧ rs.length ≤ 1000 ∧ (b = true ↔ ∀ n : Int, u ∣ hv rs n) ∧ ∀ H', Same H H' → Q (.bl b) H'
end
end Ev

end
section
open L2 in
local macro_rules | `(tactic| walk_at "gx") => `(tactic| first
  | ((with_reducible show tVar _ _ _ _); refine g_var rfl ?_)
  | with_reducible refine g_c ?_
  | with_reducible refine g_op ?_
  | with_reducible refine g_cons ?_
  | with_reducible refine g_nil ?_
  | with_reducible refine g_test ?_
  | with_reducible refine g_blp ?_
  | with_reducible refine g_asg ?_
  | (with_reducible refine g_name ?_; (try simp only [List.set_cons_zero, List.set_cons_succ]))
  | with_reducible refine g_call ?_
  | with_reducible refine g_cb ?_
  | with_reducible refine g_I0 ?_
  | with_reducible refine g_U ?_
  | with_reducible refine g_eqI ?_
  | with_reducible refine g_neI ?_
  | with_reducible refine g_if ?_
  | with_reducible refine g_ret ?_
  | with_reducible refine g_retN ?_
  | with_reducible refine g_next ?_
  | with_reducible refine g_drop ?_
  | with_reducible refine g_un ?_
  | with_reducible refine g_tb ?_
  | with_reducible refine g_tup ?_
  | with_reducible refine g_lst ?_
  | with_reducible refine g_and ?_
  | with_reducible refine g_or ?_
  | with_reducible refine g_not ?_
  | with_reducible refine g_andV ?_
  | with_reducible refine g_orV ?_
  | with_reducible refine g_notV ?_
  | with_reducible refine g_ifE ?_
  | with_reducible refine g_fld ?_
  | with_reducible refine g_tt ?_
  | with_reducible refine g_ff ?_
  | with_reducible refine g_ntt ?_
  | with_reducible refine g_nff ?_
  | with_reducible refine g_for ?_
  | with_reducible refine g_list ?_
  | with_reducible refine g_tupI ?_
  | with_reducible refine g_rng1 ?_
  | with_reducible refine g_rng2 ?_
  | with_reducible refine g_enumA ?_
  | with_reducible refine g_rev ?_
  | with_reducible refine g_lc ?_
  | with_reducible refine g_gcons ?_
  | with_reducible refine g_gnil ?_
  | with_reducible refine g_yes ?_
  | with_reducible refine g_sl ?_
  | with_reducible refine g_nopart ?_
  | with_reducible refine g_part ?_
  | with_reducible refine g_int ?_
  | with_reducible refine g_dget ?_
  | with_reducible refine g_dput ?_
  | with_reducible refine g_raiseX ?_
  | with_reducible refine g_tru ?_
  | with_reducible refine g_sub ?_
  | with_reducible refine g_isN ?_
  | with_reducible refine g_notN ?_
  | with_reducible refine g_bm ?_
  | with_reducible refine L2.g_bm0 ?_
  | with_reducible refine g_pair ?_
  | with_reducible refine g_pair0 ?_
  | with_reducible refine u_int1 ?_
  | with_reducible refine g_chain ?_
  | with_reducible refine L2.g_sfld ?_
  | (with_reducible refine g_par3 ?_)
  | (with_reducible refine g_three ?_; (try simp only [List.set_cons_zero, List.set_cons_succ]))
  | ((with_reducible apply L2.g_tupT); walk_at "up"; rfl)
  | (with_reducible refine g_par ?_)
  | (with_reducible refine g_two ?_; (try simp only [List.set_cons_zero, List.set_cons_succ]))
  )
local macro_rules | `(tactic| walk_at "go") => `(tactic| first | walk_at "gx" | with_reducible refine L2.g_seq ?_)
local macro_rules | `(tactic| walk_at "gou") => `(tactic| repeat (walk_at "gx"))
local macro_rules | `(tactic| walk_at "gos") => `(tactic| repeat (walk_at "go"))
local macro_rules | `(tactic| walk_at "sl") => `(tactic| first
  | assumption
  | exact L2.Same.l (by assumption)
  | exact L2.SameD.l (by assumption)
  | exact L2.extN_l (by assumption))
local macro_rules | `(tactic| walk_at "up") => `(tactic| first
  | assumption
  | ((with_reducible apply L2.SameL.lst); walk_at "sl"; walk_at "up")
  | ((with_reducible apply L2.SameL.tupA); walk_at "sl"; walk_at "up")
  | ((with_reducible apply L2.SameL.ins); walk_at "sl"; walk_at "up")
  | ((with_reducible apply Ev.PB.l); walk_at "sl"; walk_at "up")
  | ((with_reducible apply Ev.IsP.l); walk_at "sl"; walk_at "up")
  | ((with_reducible apply L2.sqL); walk_at "up")
  | ((with_reducible apply L2.sqT); walk_at "up")
  | ((with_reducible apply L2.SameL.seq); walk_at "sl"; walk_at "up")
  | ((with_reducible apply Ev.Pen.same); assumption; walk_at "up")
  | ((with_reducible apply Ev.Pen.extN); assumption; walk_at "up")
  | ((with_reducible apply L2.tabs_s); assumption; walk_at "up")
  | ((with_reducible apply L2.tabs_dd); assumption; walk_at "up")
  | ((with_reducible apply Or.inl); walk_at "up")
  | ((with_reducible apply Or.inr); walk_at "up"))
local macro_rules | `(tactic| walk_at "new") => `(tactic| (
  first
    | refine ⟨L2.size_ok (by rfl), fun p hp => ?_⟩
    | refine fun p hp => ?_
  generalize hX : L2.upd _ p _ = H1
  obtain ⟨e, h⟩ := L2.news hp hX
  clear hX))
local macro_rules | `(tactic| walk_at "o") => `(tactic| first
  | ((with_reducible apply Ev.o_add); walk_at "up"; walk_at "up"; rfl; rfl; rfl)
  | ((with_reducible apply Ev.o_sub); walk_at "up"; walk_at "up"; rfl; rfl; rfl)
  | ((with_reducible apply Ev.o_mul); walk_at "up"; walk_at "up"; rfl; rfl; rfl)
  | ((with_reducible apply Ev.o_addI); walk_at "up"; assumption; rfl; rfl; rfl)
  | ((with_reducible apply Ev.o_subI); walk_at "up"; assumption; rfl; rfl; rfl)
  | ((with_reducible apply Ev.o_mulI); walk_at "up"; assumption; rfl; rfl; rfl)
  | ((with_reducible apply Ev.o_radd); walk_at "up"; assumption; rfl; rfl; rfl)
  | ((with_reducible apply Ev.o_rsub); walk_at "up"; assumption; rfl; rfl; rfl)
  | ((with_reducible apply Ev.o_rmul); walk_at "up"; assumption; rfl; rfl; rfl)
  | ((with_reducible apply Ev.o_neg); walk_at "up"; rfl; rfl; rfl))
local macro_rules | `(tactic| walk_at "eq") => `(tactic| ((with_reducible apply Ev.u_ownB); assumption; walk_at "up"; walk_at "up"; (focus (intro k; first | rfl | exact Pl.e_add | exact Pl.e_sub | exact Pl.e_mul | exact Pl.e_rsub | exact Pl.e_rsub2))))
local macro_rules | `(tactic| walk_at "isp") => `(tactic| (apply Ev.u_isB; walk_at "up"; walk_at "up"; rfl; rfl))

/-! Pieces by their values; stretched. -/
namespace Ev
open PySem PySem.Spec PyProof.Rows L2 Pl
/-- x has the values φ over w -/
def PWv (H : Hp) (x C : Addr) (φ : Int → Int) (w : Int) (n b c : Nat) : Prop := 0 < w ∧ ∃ f v, PB H x C f v n b c ∧ ∀ t, ev f n t * w = φ t * v
section
variable {K : PySem.W.Frag} {H H' : Hp} {x y C : Addr} {φ ψ : Int → Int} {w w' : Int} {n b c m b' c' : Nat} {Q : VK} {E : XK}
theorem PWv.same (e : Same H H') : PWv H x C φ w n b c → PWv H' x C φ w n b c := fun ⟨h, f, v, h1, h2⟩ => ⟨h, f, v, h1.same e, h2⟩
theorem PWv.l (e : SameL H H') : PWv H x C φ w n b c → PWv H' x C φ w n b c := fun ⟨h, f, v, h1, h2⟩ => ⟨h, f, v, h1.l e, h2⟩
theorem PWv.mono (h : PWv H x C φ w n b c) (h1 : n ≤ m) (h2 : b ≤ b') (h3 : c ≤ c') : PWv H x C φ w m b' c' := by
  obtain ⟨h0, f, v, ⟨hs, hp⟩, he⟩ := h
  refine ⟨h0, f, v, ⟨hs.mono h1 h2 h3, hp⟩, fun t => ?_⟩
  obtain ⟨d, rfl⟩ : ∃ d, m = n + d := ⟨m - n, by omega⟩
  rw [ev_big hs.low, he]
theorem PWv.congr (h : PWv H x C φ w n b c) (e : ∀ t, φ t = ψ t) : PWv H x C ψ w n b c := by rwa [← funext e]
/-- the actual row's values -/
theorem PWv.val {rs : List Int} {u : Int} (h : PWv H x C φ w n b c) (hx : IsP H x C rs u) : ∀ t, hv rs t * w = φ t * u := by
  obtain ⟨h0, f, v, ⟨hs, rs', u', hx', hF⟩, he⟩ := h
  obtain ⟨dx, t1, g1, g2⟩ := hx
  obtain ⟨dx', t1', g1', g2'⟩ := hx'
  rw [g1] at g1'
  cases g1'
  rw [g2] at g2'
  have : rs = rs' := by
    have h3 := Option.some.inj g2'
    injection h3 with h3
    exact ints_inj h3
  subst this
  intro t
  have e1 : hv rs t * v = ev f n t * u := by
    rw [hv_ev, ← ev_big (n := rs.length) (fun k hk => at0_out hk) (n - rs.length), show rs.length + (n - rs.length) = n by have := hF.small.2.2 n hs.low; omega, ← ev_scale, ← ev_scale]
    exact ev_congr n fun k _ => hF.2.2 k
  refine Int.eq_of_mul_eq_mul_right (show v ≠ 0 by have := hs.pos; omega) ?_
  have e2 := he t
  grind
theorem pv_mul (h : PWv H x C φ w n b c) (h' : PWv H y C ψ w' m b' c') (s1 : Nat.ble (max n m) 1000 = true) (s2 : Nat.ble (max b b') 100000 = true) (s3 : Nat.ble (max c c') 3900 = true)
    (q : ∀ p H', Same H H' → PWv H' p C (fun t => φ t * ψ t) (w * w') (n + m) (b + b' + n) (c + c') → Q (.ref p) H') : rOp2 C (spMul K C) E (.ref x) (.ref y) H Q := by
  obtain ⟨h0, f, v, hp, he⟩ := h
  obtain ⟨h0', g, v', hp', he'⟩ := h'
  refine o_mul hp hp' s1 s2 s3 fun p H' e hq => q p H' e ⟨Int.mul_pos h0 h0', _, _, hq, fun t => ?_⟩
  rw [ev_mul hp.1.low hp'.1.low]
  have a := he t
  have b := he' t
  grind
theorem cvF_low {f g : Nat → Int} {n m k : Nat} (hf : ∀ i, n ≤ i → f i = 0) (hg : ∀ i, m ≤ i → g i = 0) (h : n = 0 ∨ n + m ≤ k + 1) : ∀ i, cvF f g i k = 0
  | 0 => rfl
  | i + 1 => by
    show cvF f g i k + (if i ≤ k then f i * g (k - i) else 0) = 0
    rw [cvF_low hf hg h i]
    by_cases h2 : n ≤ i
    · rw [hf i h2]; split <;> simp
    · rw [hg (k - i) (by omega)]; split <;> simp
/-- a product of degrees that add up -/
theorem pv_mulN (n' : Nat) (hn : (n = 0 ∧ n' ≤ m) ∨ (n + m ≤ n' + 1 ∧ n' ≤ n + m)) (h : PWv H x C φ w n b c) (h' : PWv H y C ψ w' m b' c') (s1 : Nat.ble (max n m) 1000 = true) (s2 : Nat.ble (max b b') 100000 = true) (s3 : Nat.ble (max c c') 3900 = true)
    (q : ∀ p H', Same H H' → PWv H' p C (fun t => φ t * ψ t) (w * w') n' (b + b' + n) (c + c') → Q (.ref p) H') : rOp2 C (spMul K C) E (.ref x) (.ref y) H Q := by
  obtain ⟨h0, f, v, hp, he⟩ := h
  obtain ⟨h0', g, v', hp', he'⟩ := h'
  refine o_mul hp hp' s1 s2 s3 fun p H' e hq => ?_
  have low : ∀ k, n' ≤ k → cv f g k = 0 := fun k hk => cvF_low hp.1.low hp'.1.low (by omega) _
  refine q p H' e ⟨Int.mul_pos h0 h0', _, _, ⟨⟨low, hq.1.row, hq.1.und, hq.1.pos⟩, hq.2⟩, fun t => ?_⟩
  obtain ⟨d, hd⟩ : ∃ d, n + m = n' + d := ⟨n + m - n', by omega⟩
  have e1 : ev (cv f g) (n + m) t = ev (cv f g) n' t := by rw [hd]; exact ev_big low d
  rw [← e1, ev_mul hp.1.low hp'.1.low]
  have a := he t
  have b := he' t
  grind
/-- N values tell the piece -/
theorem pv_uniq {N : Nat} {s : Int} (h : PWv H x C φ w n b c) (h' : PWv H y C ψ w' m b' c') (hn : n ≤ N) (hm : m ≤ N) (e : ∀ i : Nat, i < N → φ (s + i) * w' = ψ (s + i) * w) : ∃ rs u, IsP H x C rs u ∧ IsP H y C rs u := by
  obtain ⟨h0, f, v, ⟨hs, rs, u, hx, hF⟩, he⟩ := h
  obtain ⟨h0', g, v', ⟨hs', rs', u', hy, hF'⟩, he'⟩ := h'
  have e1 : ∀ t, ev f N t = ev f n t := fun t => by
    obtain ⟨d, rfl⟩ : ∃ d, N = n + d := ⟨N - n, by omega⟩
    exact ev_big hs.low d
  have e2 : ∀ t, ev g N t = ev g m t := fun t => by
    obtain ⟨d, rfl⟩ : ∃ d, N = m + d := ⟨N - m, by omega⟩
    exact ev_big hs'.low d
  have z : ∀ t, ev (fun k => f k * v' + g k * -v) N t = 0 := by
    refine Flat.zero (s := s) flat_ev fun i hi => ?_
    rw [ev_add, ev_scale, ev_scale, e1, e2]
    have a := he (s + i)
    have b := he' (s + i)
    have c := e i hi
    refine Int.eq_of_mul_eq_mul_right (show w * w' ≠ 0 from Int.mul_ne_zero (by omega) (by omega)) ?_
    grind
  have z2 : ∀ k, f k * v' = g k * v := fun k => by
    by_cases hk : k < N
    · have := ev_zero z k hk
      rw [Int.mul_neg] at this
      omega
    · rw [hs.low k (by omega), hs'.low k (by omega)]; simp
  obtain ⟨rfl, rfl⟩ := hF.uniq hF' z2
  exact ⟨rs, u, hx, hy⟩
theorem ev_one {i t : Int} : ∀ m, ev (one i) (m + 1) t = i
  | 0 => by show 0 + one i 0 * t ^ 0 = i; unfold one; simp
  | m + 1 => by show ev (one i) (m + 1) t + one i (m + 1) * _ = i; rw [ev_one m]; unfold one; rw [if_neg (by omega)]; simp
theorem pv_addI {i : Int} (h : PWv H x C φ w n b c) (hi : Bd b' i) (s1 : Nat.ble (max n 1) 1000 = true) (s2 : Nat.ble (max b b') 100000 = true) (s3 : Nat.ble (max c 1) 3900 = true)
    (q : ∀ p H', Same H H' → PWv H' p C (fun t => φ t + i * w) w (max n 1) (b + b' + c + 1 + 1) (c + 1) → Q (.ref p) H') : rOpI C (spAdd K C) E (.ref x) (.int i) H Q := by
  obtain ⟨h0, f, v, hp, he⟩ := h
  refine o_addI hp hi s1 s2 s3 fun p H' e hq => q p H' e ⟨h0, _, _, hq, fun t => ?_⟩
  obtain ⟨d, hd⟩ : ∃ d, max n 1 = n + d := ⟨max n 1 - n, by omega⟩
  obtain ⟨d', hd'⟩ : ∃ d', max n 1 = d' + 1 := ⟨max n 1 - 1, by omega⟩
  rw [ev_add, ev_scale (f := one i) (a := v)]
  have e1 : ev f (max n 1) t = ev f n t := by rw [hd]; exact ev_big hp.1.low d
  have e2 : ev (one i) (max n 1) t = i := by rw [hd']; exact ev_one d'
  rw [e1, e2]
  have a := he t
  grind
theorem pv_add (h : PWv H x C φ w n b c) (h' : PWv H y C ψ w' m b' c') (s1 : Nat.ble (max n m) 1000 = true) (s2 : Nat.ble (max b b') 100000 = true) (s3 : Nat.ble (max c c') 3900 = true)
    (q : ∀ p H', Same H H' → PWv H' p C (fun t => φ t * w' + ψ t * w) (w * w') (max n m) (b + b' + c + c' + 1) (c + c') → Q (.ref p) H') : rOp2 C (spAdd K C) E (.ref x) (.ref y) H Q := by
  obtain ⟨h0, f, v, hp, he⟩ := h
  obtain ⟨h0', g, v', hp', he'⟩ := h'
  refine o_add hp hp' s1 s2 s3 fun p H' e hq => q p H' e ⟨Int.mul_pos h0 h0', _, _, hq, fun t => ?_⟩
  obtain ⟨d, hd⟩ : ∃ d, max n m = n + d := ⟨max n m - n, by omega⟩
  obtain ⟨d', hd'⟩ : ∃ d', max n m = m + d' := ⟨max n m - m, by omega⟩
  rw [ev_add, ev_scale, ev_scale]
  have e1 : ev f (max n m) t = ev f n t := by rw [hd]; exact ev_big hp.1.low d
  have e2 : ev g (max n m) t = ev g m t := by rw [hd']; exact ev_big hp'.1.low d'
  rw [e1, e2]
  have a := he t
  have b := he' t
  grind
theorem pv_mulI {i : Int} (h : PWv H x C φ w n b c) (hi : Bd b' i) (s1 : Nat.ble (max n 1) 1000 = true) (s2 : Nat.ble (max b b') 100000 = true) (s3 : Nat.ble (max c 1) 3900 = true)
    (q : ∀ p H', Same H H' → PWv H' p C (fun t => φ t * i) w (n + 1) (b + b' + n) (c + 1) → Q (.ref p) H') : rOpI C (spMul K C) E (.ref x) (.int i) H Q := by
  obtain ⟨h0, f, v, hp, he⟩ := h
  refine o_mulI hp hi s1 s2 s3 fun p H' e hq => q p H' e ⟨h0, _, _, hq, fun t => ?_⟩
  rw [ev_scale, ev_big hp.1.low 1]
  have a := he t
  grind
/-- a piece of a row -/
theorem PWv.of {f : Nat → Int} {v : Int} (h : PB H x C f v n b c) : PWv H x C (ev f n) v n b c := ⟨h.1.pos, f, v, h, fun _ => rfl⟩
end
end Ev

end
section
open L2 in
local macro_rules | `(tactic| walk_at "gx") => `(tactic| first
  | ((with_reducible show tVar _ _ _ _); refine g_var rfl ?_)
  | with_reducible refine g_c ?_
  | with_reducible refine g_op ?_
  | with_reducible refine g_cons ?_
  | with_reducible refine g_nil ?_
  | with_reducible refine g_test ?_
  | with_reducible refine g_blp ?_
  | with_reducible refine g_asg ?_
  | (with_reducible refine g_name ?_; (try simp only [List.set_cons_zero, List.set_cons_succ]))
  | with_reducible refine g_call ?_
  | with_reducible refine g_cb ?_
  | with_reducible refine g_I0 ?_
  | with_reducible refine g_U ?_
  | with_reducible refine g_eqI ?_
  | with_reducible refine g_neI ?_
  | with_reducible refine g_if ?_
  | with_reducible refine g_ret ?_
  | with_reducible refine g_retN ?_
  | with_reducible refine g_next ?_
  | with_reducible refine g_drop ?_
  | with_reducible refine g_un ?_
  | with_reducible refine g_tb ?_
  | with_reducible refine g_tup ?_
  | with_reducible refine g_lst ?_
  | with_reducible refine g_and ?_
  | with_reducible refine g_or ?_
  | with_reducible refine g_not ?_
  | with_reducible refine g_andV ?_
  | with_reducible refine g_orV ?_
  | with_reducible refine g_notV ?_
  | with_reducible refine g_ifE ?_
  | with_reducible refine g_fld ?_
  | with_reducible refine g_tt ?_
  | with_reducible refine g_ff ?_
  | with_reducible refine g_ntt ?_
  | with_reducible refine g_nff ?_
  | with_reducible refine g_for ?_
  | with_reducible refine g_list ?_
  | with_reducible refine g_tupI ?_
  | with_reducible refine g_rng1 ?_
  | with_reducible refine g_rng2 ?_
  | with_reducible refine g_enumA ?_
  | with_reducible refine g_rev ?_
  | with_reducible refine g_lc ?_
  | with_reducible refine g_gcons ?_
  | with_reducible refine g_gnil ?_
  | with_reducible refine g_yes ?_
  | with_reducible refine g_sl ?_
  | with_reducible refine g_nopart ?_
  | with_reducible refine g_part ?_
  | with_reducible refine g_int ?_
  | with_reducible refine g_dget ?_
  | with_reducible refine g_dput ?_
  | with_reducible refine g_raiseX ?_
  | with_reducible refine g_tru ?_
  | with_reducible refine g_sub ?_
  | with_reducible refine g_isN ?_
  | with_reducible refine g_notN ?_
  | with_reducible refine g_bm ?_
  | with_reducible refine L2.g_bm0 ?_
  | with_reducible refine g_pair ?_
  | with_reducible refine g_pair0 ?_
  | with_reducible refine u_int1 ?_
  | with_reducible refine g_chain ?_
  | with_reducible refine L2.g_sfld ?_
  | (with_reducible refine g_par3 ?_)
  | (with_reducible refine g_three ?_; (try simp only [List.set_cons_zero, List.set_cons_succ]))
  | ((with_reducible apply L2.g_tupT); walk_at "up"; rfl)
  | (with_reducible refine g_par ?_)
  | (with_reducible refine g_two ?_; (try simp only [List.set_cons_zero, List.set_cons_succ]))
  )
local macro_rules | `(tactic| walk_at "go") => `(tactic| first | walk_at "gx" | with_reducible refine L2.g_seq ?_)
local macro_rules | `(tactic| walk_at "gou") => `(tactic| repeat (walk_at "gx"))
local macro_rules | `(tactic| walk_at "gos") => `(tactic| repeat (walk_at "go"))
local macro_rules | `(tactic| walk_at "sl") => `(tactic| first
  | assumption
  | exact L2.Same.l (by assumption)
  | exact L2.SameD.l (by assumption)
  | exact L2.extN_l (by assumption))
local macro_rules | `(tactic| walk_at "up") => `(tactic| first
  | assumption
  | ((with_reducible apply L2.SameL.lst); walk_at "sl"; walk_at "up")
  | ((with_reducible apply L2.SameL.tupA); walk_at "sl"; walk_at "up")
  | ((with_reducible apply L2.SameL.ins); walk_at "sl"; walk_at "up")
  | ((with_reducible apply Ev.PB.l); walk_at "sl"; walk_at "up")
  | ((with_reducible apply Ev.IsP.l); walk_at "sl"; walk_at "up")
  | ((with_reducible apply L2.sqL); walk_at "up")
  | ((with_reducible apply L2.sqT); walk_at "up")
  | ((with_reducible apply L2.SameL.seq); walk_at "sl"; walk_at "up")
  | ((with_reducible apply Ev.Pen.same); assumption; walk_at "up")
  | ((with_reducible apply Ev.Pen.extN); assumption; walk_at "up")
  | ((with_reducible apply L2.tabs_s); assumption; walk_at "up")
  | ((with_reducible apply L2.tabs_dd); assumption; walk_at "up")
  | ((with_reducible apply Or.inl); walk_at "up")
  | ((with_reducible apply Or.inr); walk_at "up"))
local macro_rules | `(tactic| walk_at "new") => `(tactic| (
  first
    | refine ⟨L2.size_ok (by rfl), fun p hp => ?_⟩
    | refine fun p hp => ?_
  generalize hX : L2.upd _ p _ = H1
  obtain ⟨e, h⟩ := L2.news hp hX
  clear hX))
local macro_rules | `(tactic| walk_at "o") => `(tactic| first
  | ((with_reducible apply Ev.o_add); walk_at "up"; walk_at "up"; rfl; rfl; rfl)
  | ((with_reducible apply Ev.o_sub); walk_at "up"; walk_at "up"; rfl; rfl; rfl)
  | ((with_reducible apply Ev.o_mul); walk_at "up"; walk_at "up"; rfl; rfl; rfl)
  | ((with_reducible apply Ev.o_addI); walk_at "up"; assumption; rfl; rfl; rfl)
  | ((with_reducible apply Ev.o_subI); walk_at "up"; assumption; rfl; rfl; rfl)
  | ((with_reducible apply Ev.o_mulI); walk_at "up"; assumption; rfl; rfl; rfl)
  | ((with_reducible apply Ev.o_radd); walk_at "up"; assumption; rfl; rfl; rfl)
  | ((with_reducible apply Ev.o_rsub); walk_at "up"; assumption; rfl; rfl; rfl)
  | ((with_reducible apply Ev.o_rmul); walk_at "up"; assumption; rfl; rfl; rfl)
  | ((with_reducible apply Ev.o_neg); walk_at "up"; rfl; rfl; rfl))
local macro_rules | `(tactic| walk_at "eq") => `(tactic| ((with_reducible apply Ev.u_ownB); assumption; walk_at "up"; walk_at "up"; (focus (intro k; first | rfl | exact Pl.e_add | exact Pl.e_sub | exact Pl.e_mul | exact Pl.e_rsub | exact Pl.e_rsub2))))
local macro_rules | `(tactic| walk_at "isp") => `(tactic| (apply Ev.u_isB; walk_at "up"; walk_at "up"; rfl; rfl))

/-! stretched. -/
namespace Ev
open PySem PySem.Spec PyProof.Rows L2 Pl
section
variable {P : Program} {w : World} {K : PySem.W.Frag} {mg : Str → Option Value} {base : Heap}
def ExcN (H : Hp) (CB : Addr) (v : V) (E : XK) : Prop := ∀ H' d, Same H H' → H' d = some (.xd [("number", v)]) → E (.ref CB) (some d) H'
theorem pv_0 {K : PySem.W.Frag} {H : Hp} {Q : VK} {E : XK} {C CR CU l : Addr} (h : SqL K H l [] ∨ SqT K H l []) (q : ∀ x H', Same H H' → PWv H' x C (fun _ => 0) 1 0 1 1 → Q (.ref x) H') : spPiece K C CR CU [.ref l, .int 1] H Q E :=
  u_pieceB (ns := []) (v := 1) (n := 0) (b := 1) (c := 1) h ⟨fun k _ => at0_out (Nat.zero_le k), fun k => by rw [at0_out (Nat.zero_le k)]; exact bd0, by unfold Bd; decide, by decide⟩ rfl fun x H' _ e hP => q x H' e ((PWv.of hP).congr fun t => rfl)
/-- Piece((a, b), 1) -/
theorem pv_lin {K : PySem.W.Frag} {H : Hp} {Q : VK} {E : XK} {C CR CU l : Addr} {a b v : Int} {k c : Nat} (h : SqL K H l [.int a, .int b] ∨ SqT K H l [.int a, .int b]) (ha : Bd k a) (hb : Bd k b) (hv : 1 ≤ v) (hc : Bd c v) (s3 : Nat.ble c 8000 = true) (q : ∀ x H', Same H H' → PWv H' x C (fun t => b * t + a) v 2 k c → Q (.ref x) H') : spPiece K C CR CU [.ref l, .int v] H Q E :=
  u_pieceB (ns := [a, b]) (v := v) (n := 2) (b := k) (c := c) h ⟨fun k hk => at0_out hk, fun k => by
    match k with
    | 0 => exact ha
    | 1 => exact hb
    | k + 2 => exact bd0, hc, by omega⟩ rfl (fun x H' _ e hP => q x H' e ((PWv.of hP).congr fun t => by
      show 0 + a * t ^ 0 + b * t ^ 1 = b * t + a
      rw [Int.pow_zero, Int.pow_succ, Int.pow_zero, Int.one_mul]; omega)) s3
/-- Piece((1,), v) -/
theorem pv_one {K : PySem.W.Frag} {H : Hp} {Q : VK} {E : XK} {C CR CU l : Addr} {v : Int} {c : Nat} (h : SqL K H l [.int 1] ∨ SqT K H l [.int 1]) (hv : 1 ≤ v) (hc : Bd c v) (s3 : Nat.ble c 8000 = true) (q : ∀ x H', Same H H' → PWv H' x C (fun _ => 1) v 1 1 c → Q (.ref x) H') : spPiece K C CR CU [.ref l, .int v] H Q E :=
  u_pieceB (ns := [1]) (v := v) (n := 1) (b := 1) (c := c) h ⟨fun k hk => at0_out hk, fun k => by
    match k with
    | 0 => unfold Bd; decide
    | k + 1 => exact bd0, hc, by omega⟩ rfl (fun x H' _ e hP => q x H' e ((PWv.of hP).congr fun t => by
      show 0 + 1 * t ^ 0 = 1
      rw [Int.pow_zero]; rfl)) s3
def spStretched (K : PySem.W.Frag) (C CB : Addr) : Sp := fun vs H Q E => ∃ (x : Addr) (mv rv : V), vs = [.ref x, mv, rv] ∧
  ((∃ (rs : List Int) (u m r : Int), mv = .int m ∧ rv = .int r ∧ 1 ≤ m ∧ IsP H x C rs u ∧ rs.length ≤ 6 ∧ (∀ k, Bd 250 (at0 rs k)) ∧ Bd 250 u ∧ 0 < u ∧ Bd 250 m ∧ Bd 250 r ∧ ∀ z H', Same H H' → PWv H' z C (fun t => hv rs (m * t + r)) u rs.length 8000 400 → Q (.ref z) H') ∨
   ((Kd K H mv false ∨ ∃ i : Int, mv = .int i ∧ i < 1) ∧ ExcN H CB mv E) ∨ (∃ m : Int, mv = .int m ∧ 1 ≤ m ∧ Kd K H rv false ∧ ExcN H CB rv E))
theorem sc_Piece_stretched : FnScope ["self", "m", "r", "found", "part"] ["self", "m", "r"] (defScope (inClass (topS 18) 16)) := ⟨rfl, rfl, rfl, by decide +kernel, rfl, by decide +kernel, by decide +kernel⟩
theorem ok_stretched {C_Piece CR CU CB : Addr} (B : Bn mg) (c_Piece : Cls K C_Piece) (n_row : NoAttr K C_Piece "row") (n_under : NoAttr K C_Piece "under") (sf_Piece : PySem.W.selfFirst K C_Piece = true) (M_Piece : MakeF P w K mg base "Piece" C_Piece 5 (spPiece K C_Piece CR CU)) (M_Piece_1 : MakeF P w K mg base "Piece" C_Piece 5 (fun vs H Q E => ∃ a : Addr, vs = [.ref a] ∧ spPiece K C_Piece CR CU [.ref a, .int 1] H Q E))
    (X_BadNumber : ExT P K mg "BadNumber" CB ["number"]) (G_is_integer : CallF P w K mg base "is_integer" ["value"] 1 (spIsInteger K)) (OA_Piece : OwnF P w K mg base C_Piece "__add__" ["self", "other"] 8 (spAdd K C_Piece)) (OM_Piece : OwnF P w K mg base C_Piece "__mul__" ["self", "other"] 8 (spMul K C_Piece)) (OI_Piece : OpI K C_Piece .Add)
    {f : Addr} {fd : FuncData} (F : Fun K "stretched" "Piece.stretched" (inClass (topS 18) 16) f fd) : FnOk P w K mg base (L2.CX P w) 11 f fd ["self", "m", "r"] (spStretched K C_Piece CB) := by
  have nd := sc_Piece_stretched.nd
  refine F.okX sc_Piece_stretched (fun vs H Q E h => ?_) (fun cdv A outer s H vs Q E hr h => ?_)
  · obtain ⟨x, mv, rv, rfl, _⟩ := h
    rfl
  · refine ⟨_, (pss_cons (ps_if (PW.pt (pw_or (pt_not (pt_val (pe_callF G_is_integer (hr.mono (by decide)) rfl passL (pa_cons (pv 1) pa_nil)))) (pw_or1 (pt_cmpR op_lt (pv 1) pe_int (nomark _))))) (pss_one (ps_raiseX rfl X_BadNumber hr (takes_of rfl rfl rfl rfl) (pa_cons (pv 1) pa_nil))) pss_nil)
      (pss_cons (ps_if (pt_not (pt_val (pe_callF G_is_integer (hr.mono (by decide)) rfl passL (pa_cons (pv 2) pa_nil)))) (pss_one (ps_raiseX rfl X_BadNumber hr (takes_of rfl rfl rfl rfl) (pa_cons (pv 2) pa_nil))) pss_nil)
      (pss_cons (ps_set (i := 3) nd rfl (.inl rfl) (pe_makeF M_Piece_1 (hr.mono (by decide)) rfl (passes_call (takes_of rfl rfl rfl rfl) (fun _ _ _ _ h => h)) (pa_cons (pe_tup pa_nil) pa_nil)))
      (pss_cons (ps_for (passes_of rfl) rfl (pi_reversedK (K := K) rfl (by rfl) B.reversed (pa_cons (pe_callTy (call_lstK (K := K) rfl) (by rfl) B.list_ (by decide +kernel) (pa_cons (pe_fldK (K := K) rfl (pv 0) rfl) pa_nil)) pa_nil)) (pg_name (i := 4) nd rfl (.inl rfl)) (pss_one (ps_set (i := 3) nd rfl (.inl rfl) (pe_op (op_ownJ OA_Piece rfl OI_Piece (hr.mono (by decide)) passL) (pe_op (op_own2 OM_Piece rfl sf_Piece (hr.mono (by decide)) passL) (pv 3) (pe_makeF M_Piece_1 (hr.mono (by decide)) rfl (passes_call (takes_of rfl rfl rfl rfl) (fun _ _ _ _ h => h)) (pa_cons (pe_tup (pa_cons (pv 2) (pa_cons (pv 1) pa_nil))) pa_nil))) (pv 4)))))
      (pss_one (ps_ret (pe_op (op_own2 OM_Piece rfl sf_Piece (hr.mono (by decide)) passL) (pv 3) (pe_makeF M_Piece (hr.mono (by decide)) rfl (passes_call (takes_of rfl rfl rfl rfl) (fun _ _ _ _ h => h)) (pa_cons (pe_tup (pa_cons pe_int pa_nil)) (pa_cons (pe_fldK (K := K) rfl (pv 0) rfl) pa_nil)))))))))), ?_⟩
    obtain ⟨x, mv, rv, rfl, q⟩ := h
    refine g_st (σ' := [some (.ref x), some mv, some rv, none, none]) rfl ?_
    walk_at "gos"
    rcases q with ⟨rs, u, m, r, rfl, rfl, hm1, hx, hl, hb, hbu, hu, hbm, hbr, q⟩ | ⟨hk, hq⟩ | ⟨m, rfl, hm1, hk, hq⟩
    · refine ⟨_, true, rfl, Kd.int, ?_⟩
      walk_at "gos"
      rw [if_neg (by rw [decide_eq_true_iff]; omega)]
      walk_at "gos"
      refine ⟨_, true, rfl, Kd.int, ?_⟩
      walk_at "gos"
      (walk_at "new"; rename_i t1 _ H1 e1 h1; walk_at "gos")
      refine ⟨t1, rfl, pv_0 (.inr (sqT h1)) fun z0 H2 e2 hz0 => ?_⟩
      walk_at "gos"
      obtain ⟨dx, tx, hx1, htx⟩ := hx.same (e1.trans e2)
      refine u_tfld rfl hx1 c_Piece n_row rfl ?_
      walk_at "gos"
      refine u_list (.inr (sqT htx)) fun l3 H3 _ e3 h3 => ?_
      walk_at "gos"
      refine u_rev (sqL h3) ?_
      have hln : (rs.map V.int).length = rs.length := List.length_map ..
      refine for_it walk_rev (fun i σ' H' => Same H3 H' ∧ ∃ (z : Addr) (y : Option V), σ' = [some (.ref x), some (.int m), some (.int r), some (.ref z), y] ∧ PWv H' z C_Piece (fun t => hv (rs.drop (rs.length - i)) (m * t + r)) 1 i (1000 * i + 1) (10 * i + 1)) ?_ (fun i _ H' _ p => p.1.seq (sqL h3)) (fun i y σ' H' H4 hi p yy => ?_) (fun σ' H' p => ?_)
      · refine ⟨Same.refl _, z0, none, rfl, ?_⟩
        rw [Nat.sub_zero, List.drop_length]
        exact (hz0.same e3).mono (by decide) (by decide) (by decide)
      · obtain ⟨e4, z, y0, rfl, hz⟩ := p
        obtain ⟨rfl, hyy⟩ := yy
        rw [hln] at hi hyy
        obtain rfl := at_ints hyy
        walk_at "gos"
        (walk_at "new"; rename_i t5 _ H5 e5 h5; walk_at "gos")
        refine ⟨t5, rfl, pv_lin (.inr (sqT h5)) hbr hbm (by decide) (show Bd 1 (1 : Int) by unfold Bd; decide) rfl fun zl H6 e6 hzl => ?_⟩
        walk_at "gos"
        refine pv_mulN (if i = 0 then 0 else i + 1) (by split <;> omega) (hz.same (e5.trans e6)) hzl (Nat.ble_eq_true_of_le (by omega)) (Nat.ble_eq_true_of_le (by omega)) (Nat.ble_eq_true_of_le (by omega)) fun z7 H7 e7 hz7 => ?_
        walk_at "gos"
        refine pv_addI hz7 (hb _) (Nat.ble_eq_true_of_le (by split <;> omega)) (Nat.ble_eq_true_of_le (by omega)) (Nat.ble_eq_true_of_le (by omega)) fun z8 H8 e8 hz8 => ?_
        walk_at "gos"
        refine ⟨e4.trans (e5.trans (e6.trans (e7.trans e8))), z8, _, rfl, (hz8.congr fun t => ?_).mono (by split <;> omega) (by omega) (by omega)⟩
        rw [hv_step hi]
        simp
      · obtain ⟨e4, z, y0, rfl, hz⟩ := p
        rw [hln, Nat.sub_self, List.drop_zero] at hz
        walk_at "gos"
        (walk_at "new"; rename_i t5 _ H5 e5 h5; walk_at "gos")
        refine u_tfld rfl ((e3.trans (e4.trans e5)) _ _ hx1) c_Piece n_under rfl ?_
        walk_at "gos"
        refine pv_one (.inr (sqT h5)) (by omega) hbu rfl fun z6 H6 e6 hz6 => ?_
        walk_at "gos"
        refine pv_mulN rs.length (by omega) (hz.same (e5.trans e6)) hz6 (Nat.ble_eq_true_of_le (by omega)) (Nat.ble_eq_true_of_le (by omega)) (Nat.ble_eq_true_of_le (by omega)) fun z7 H7 e7 hz7 => ?_
        walk_at "gos"
        refine q z7 H7 (e1.trans (e2.trans (e3.trans (e4.trans (e5.trans (e6.trans e7)))))) ?_
        have h8 := hz7.congr (ψ := fun t => hv rs (m * t + r)) fun t => by simp
        rw [Int.one_mul] at h8
        exact h8.mono (by omega) (by omega) (by omega)
    · rcases hk with hk | ⟨i, rfl, hi⟩
      · refine ⟨_, false, rfl, hk, ?_⟩
        walk_at "gos"
        exact u_raise rfl (by decide) fun d H1 _ e1 hd => hq H1 d e1 hd
      · refine ⟨_, true, rfl, Kd.int, ?_⟩
        walk_at "gos"
        rw [if_pos (decide_eq_true hi)]
        walk_at "gos"
        exact u_raise rfl (by decide) fun d H1 _ e1 hd => hq H1 d e1 hd
    · refine ⟨_, true, rfl, Kd.int, ?_⟩
      walk_at "gos"
      rw [if_neg (by rw [decide_eq_true_iff]; omega)]
      walk_at "gos"
      refine ⟨_, false, rfl, hk, ?_⟩
      walk_at "gos"
      exact u_raise rfl (by decide) fun d H1 _ e1 hd => hq H1 d e1 hd
end
end Ev

end
/-! Signs from some place on: stretches, joining, uniqueness; the bound behind which a polynomial keeps its sign. -/
namespace Pl
abbrev Tri := Int × Option Int × Int
/-- a cover of the places from l to ahead of e (none: without end) by stretches on which σ stays -/
def WL (σ : Int → Int) : Int → List Tri → Option Int → Prop
  | l, [], e => e = some l
  | l, (a, none, s) :: T, e => a = l ∧ T = [] ∧ e = none ∧ ∀ n, l ≤ n → σ n = s
  | l, (a, some h, s) :: T, e => a = l ∧ l ≤ h ∧ (∀ n, l ≤ n → n ≤ h → σ n = s) ∧ WL σ (h + 1) T e
/-- neighbours are unlike -/
def AD : List Int → Prop
  | a :: b :: r => a ≠ b ∧ AD (b :: r)
  | _ => True
def sgs (T : List Tri) : List Int := T.map fun t => t.2.2
theorem WL.app {σ : Int → Int} : ∀ {T1 : List Tri} {l m : Int} {T2 : List Tri} {e : Option Int}, WL σ l T1 (some m) → WL σ m T2 e → WL σ l (T1 ++ T2) e
  | [], l, m, T2, e, h1, h2 => by
    have : m = l := Option.some.inj h1
    subst this
    exact h2
  | (a, none, s) :: T, l, m, T2, e, h1, h2 => by obtain ⟨_, _, z, _⟩ := h1; cases z
  | (a, some h, s) :: T, l, m, T2, e, h1, h2 => by
    obtain ⟨z1, z2, z3, z4⟩ := h1
    exact ⟨z1, z2, z3, z4.app h2⟩
theorem WL.split {σ : Int → Int} : ∀ {T1 : List Tri} {l : Int} {T2 : List Tri} {e : Option Int}, T2 ≠ [] → WL σ l (T1 ++ T2) e → ∃ m, WL σ l T1 (some m) ∧ WL σ m T2 e
  | [], l, T2, e, _, h => ⟨l, rfl, h⟩
  | (a, none, s) :: T, l, T2, e, h0, h => by obtain ⟨_, z, _, _⟩ := h; exact absurd (List.append_eq_nil_iff.mp z).2 h0
  | (a, some h, s) :: T, l, T2, e, h0, hh => by
    obtain ⟨z1, z2, z3, z4⟩ := hh
    obtain ⟨m, y1, y2⟩ := z4.split h0
    exact ⟨m, ⟨z1, z2, z3, y1⟩, y2⟩
theorem AD.snoc : ∀ {xs : List Int} {a : Int}, AD xs → (∀ b, xs.getLast? = some b → b ≠ a) → AD (xs ++ [a])
  | [], a, _, _ => trivial
  | [b], a, _, h => ⟨h b rfl, trivial⟩
  | b :: c :: r, a, hx, h => ⟨hx.1, AD.snoc (xs := c :: r) hx.2 fun d hd => h d (by rw [← hd]; rfl)⟩
theorem AD.init : ∀ {xs ys : List Int}, AD (xs ++ ys) → AD xs
  | [], _, _ => trivial
  | [_], _, _ => trivial
  | b :: c :: r, ys, h => ⟨h.1, AD.init (xs := c :: r) (ys := ys) h.2⟩
/-- stretches side by side with equal signs as one: one step -/
def jstep (F : List Tri) (p : Tri) : List Tri := match F.getLast? with
  | some q => if q.2.2 = p.2.2 then F.dropLast ++ [(q.1, p.2.1, p.2.2)] else F ++ [p]
  | none => [p]
theorem jstep_ok {σ : Int → Int} {l m : Int} {F : List Tri} {p : Tri} {e : Option Int} (hF : WL σ l F (some m)) (hA : AD (sgs F)) (hp : WL σ m [p] e) : WL σ l (jstep F p) e ∧ AD (sgs (jstep F p)) := by
  unfold jstep
  cases hq : F.getLast? with
  | none =>
    rw [List.getLast?_eq_none_iff] at hq
    subst hq
    exact ⟨hF.app hp, trivial⟩
  | some q =>
    obtain ⟨F0, rfl⟩ := List.getLast?_eq_some_iff.mp hq
    obtain ⟨m', h1, h2⟩ := WL.split (by simp) hF
    obtain ⟨a, ho, s⟩ := q
    obtain ⟨a', h', s'⟩ := p
    dsimp only
    by_cases hs : s = s'
    · subst hs
      rw [if_pos rfl, List.dropLast_concat]
      refine ⟨h1.app ?_, ?_⟩
      · cases ho with
        | none => obtain ⟨_, _, z, _⟩ := h2; cases z
        | some h0 =>
          obtain ⟨z1, z2, z3, z4⟩ := h2
          have z4 : m = h0 + 1 := Option.some.inj z4
          subst z4
          cases h' with
          | none =>
            obtain ⟨y1, y2, y3, y4⟩ := hp
            exact ⟨z1, rfl, y3, fun n hn => if c : n ≤ h0 then z3 n hn c else y4 n (by omega)⟩
          | some h' =>
            obtain ⟨y1, y2, y3, y4⟩ := hp
            exact ⟨z1, by omega, fun n hn hn' => if c : n ≤ h0 then z3 n hn c else y3 n (by omega) hn', y4⟩
      · simpa [sgs] using hA
    · rw [if_neg hs]
      refine ⟨hF.app hp, ?_⟩
      show AD (sgs (F0 ++ [(a, ho, s)] ++ [(a', h', s')]))
      unfold sgs at hA ⊢
      rw [List.map_append (l₁ := F0 ++ _)]
      refine hA.snoc fun b hb => ?_
      rw [List.map_append, List.map_cons, List.map_nil, List.getLast?_concat] at hb
      cases hb
      exact hs
theorem joined_ok {σ : Int → Int} : ∀ {T : List Tri} {l m : Int} {F : List Tri} {e : Option Int}, WL σ l F (some m) → AD (sgs F) → WL σ m T e → WL σ l (T.foldl jstep F) e ∧ AD (sgs (T.foldl jstep F))
  | [], l, m, F, e, hF, hA, hT => by
    have : e = some m := hT
    subst this
    exact ⟨hF, hA⟩
  | p :: T, l, m, F, e, hF, hA, hT => by
    rw [List.foldl_cons]
    obtain ⟨a, ho, s⟩ := p
    cases ho with
    | none =>
      obtain ⟨z1, z2, z3, z4⟩ := hT
      subst z2
      exact jstep_ok hF hA ⟨z1, rfl, z3, z4⟩
    | some h =>
      obtain ⟨z1, z2, z3, z4⟩ := hT
      obtain ⟨y1, y2⟩ := jstep_ok hF hA (p := (a, some h, s)) (e := some (h + 1)) ⟨z1, z2, z3, rfl⟩
      exact joined_ok y1 y2 z4
/-- the last stretch has no end: its sign at any place of it -/
theorem WL.head {σ : Int → Int} {l : Int} {a : Int} {ho : Option Int} {s : Int} {T : List Tri} {e : Option Int} (h : WL σ l ((a, ho, s) :: T) e) : a = l ∧ σ l = s := by
  cases ho with
  | none => obtain ⟨z1, _, _, z4⟩ := h; exact ⟨z1, z4 l (Int.le_refl _)⟩
  | some h0 => obtain ⟨z1, z2, z3, _⟩ := h; exact ⟨z1, z3 l (Int.le_refl _) z2⟩
theorem WL.uniq {σ : Int → Int} : ∀ {T T' : List Tri} {l : Int}, WL σ l T none → WL σ l T' none → AD (sgs T) → AD (sgs T') → T = T'
  | [], _, l, h, _, _, _ => by cases h
  | _ :: _, [], l, _, h, _, _ => by cases h
  | (a, ho, s) :: T, (a', ho', s') :: T', l, h, h', hA, hA' => by
    obtain ⟨rfl, g2⟩ := h.head
    obtain ⟨rfl, g2'⟩ := h'.head
    have hs : s = s' := g2.symm.trans g2'
    subst hs
    have key : ∀ {x y : Int} {T : List Tri}, a' ≤ x → (∀ n, a' ≤ n → n ≤ y → σ n = s) → x < y → WL σ (x + 1) T none → AD (sgs ((a', some x, s) :: T)) → False := by
      intro x y T h0 h1 h2 h3 h4
      match T with
      | [] => cases h3
      | (b, hb, t) :: T2 =>
        obtain ⟨q1, q2⟩ := h3.head
        have q3 := h1 (x + 1) (by omega) (by omega)
        exact h4.1 (q3.symm.trans q2)
    cases ho with
    | none =>
      obtain ⟨_, z2, _, z4⟩ := h
      subst z2
      cases ho' with
      | none =>
        obtain ⟨_, y2, _, _⟩ := h'
        subst y2
        rfl
      | some x =>
        obtain ⟨_, y2, y3, y4⟩ := h'
        exact (key (y := x + 1) y2 (fun n hn _ => z4 n hn) (by omega) y4 hA').elim
    | some x =>
      obtain ⟨_, z2, z3, z4⟩ := h
      cases ho' with
      | none =>
        obtain ⟨_, y2, _, y4⟩ := h'
        exact (key (y := x + 1) z2 (fun n hn _ => y4 n hn) (by omega) z4 hA).elim
      | some y =>
        obtain ⟨_, y2, y3, y4⟩ := h'
        rcases Int.lt_trichotomy x y with c | c | c
        · exact (key z2 y3 c z4 hA).elim
        · subst c
          have tl : ∀ {q : Tri} {T : List Tri}, AD (sgs (q :: T)) → AD (sgs T) := fun {q T} h => by
            match T with
            | [] => trivial
            | _ :: _ => exact h.2
          rw [z4.uniq y4 (tl hA) (tl hA')]
        · exact (key y2 z3 c y4 hA').elim
/-- where a stretch begins, the sign changes -/
theorem WL.change {σ : Int → Int} {X : Int} (hX : ∀ n, X ≤ n → σ n = σ X) : ∀ {T : List Tri} {l : Int}, WL σ l T none → AD (sgs T) → ∀ t ∈ T, t.1 ≤ max l X ∧ ∀ h, t.2.1 = some h → h < max l X
  | [], l, h, _ => by cases h
  | (a, none, s) :: T, l, h, hA => by
    obtain ⟨z1, z2, _, _⟩ := h
    subst z2
    intro t ht
    rw [List.mem_singleton.mp ht]
    exact ⟨by show a ≤ _; omega, fun h z => by cases z⟩
  | (a, some x, s) :: T, l, h, hA => by
    obtain ⟨z1, z2, z3, z4⟩ := h
    have hx : x < max l X := by
      refine Int.not_le.mp fun c => ?_
      match T, z4, hA with
      | [], z4, _ => cases z4
      | (b, hb, t) :: T2, z4, hA =>
        obtain ⟨q1, q2⟩ := z4.head
        have q3 := z3 x z2 (by omega)
        have q4 := hX x (by omega)
        have q5 := hX (x + 1) (by omega)
        exact hA.1 (by show s = t; omega)
    have hA2 : AD (sgs T) := by
      match T, hA with
      | [], _ => trivial
      | _ :: _, hA => exact hA.2
    intro t ht
    rcases List.mem_cons.mp ht with rfl | ht
    · exact ⟨by show a ≤ _; omega, fun h z => by cases z; exact hx⟩
    · obtain ⟨r1, r2⟩ := z4.change hX hA2 t ht
      exact ⟨by omega, fun h z => by have := r2 h z; omega⟩
theorem at0_cons0 {a : Int} {r : List Int} : at0 (a :: r) 0 = a := rfl
theorem at0_consS {a : Int} {r : List Int} {k : Nat} : at0 (a :: r) (k + 1) = at0 r k := rfl
/-- behind 2 ^ b a row with members below 2 ^ b has the sign of its last member -/
theorem cauchy {b : Nat} {n : Int} (hn : (2 ^ b : Nat) ≤ n) : ∀ {rs : List Int}, (∀ k, (at0 rs k).natAbs < 2 ^ b) → rs ≠ [] → at0 rs (rs.length - 1) ≠ 0 → (hv rs n).sign = (at0 rs (rs.length - 1)).sign
  | [], _, h, _ => absurd rfl h
  | [a], _, _, _ => by rw [hv_cons, hv_nil]; show (0 * n + a).sign = a.sign; rw [Int.zero_mul, Int.zero_add]
  | a :: c :: r, hb, _, h0 => by
    have ih := cauchy hn (rs := c :: r) (fun k => hb (k + 1)) (by simp) h0
    have e : at0 (a :: c :: r) ((a :: c :: r).length - 1) = at0 (c :: r) ((c :: r).length - 1) := rfl
    rw [e] at h0 ⊢
    rw [hv_cons, ← ih]
    have hne : hv (c :: r) n ≠ 0 := fun z => by
      rw [z] at ih
      exact h0 (Int.sign_eq_zero_iff_zero.mp ih.symm)
    have ha : a.natAbs < 2 ^ b := hb 0
    generalize hv (c :: r) n = y at hne ⊢
    generalize (2 ^ b : Nat) = B at hn ha
    rcases Int.lt_or_gt_of_ne hne with c | c
    · have h1 : y * n ≤ -1 * n := Int.mul_le_mul_of_nonneg_right (by omega) (by omega)
      rw [Int.sign_eq_neg_one_of_neg c, Int.sign_eq_neg_one_of_neg (by omega)]
    · have h1 : 1 * n ≤ y * n := Int.mul_le_mul_of_nonneg_right (by omega) (by omega)
      rw [Int.sign_eq_one_of_pos c, Int.sign_eq_one_of_pos (by omega)]
/-- so the sign stays -/
theorem cauchy_sign {b : Nat} {rs : List Int} (hb : ∀ k, (at0 rs k).natAbs < 2 ^ b) (hl : rs ≠ [] → at0 rs (rs.length - 1) ≠ 0) : ∀ n, ((2 ^ b : Nat) : Int) ≤ n → (hv rs n).sign = (hv rs (2 ^ b : Nat)).sign := fun n hn => by
  by_cases h : rs = []
  · subst h; rfl
  · rw [cauchy hn hb h (hl h), cauchy (Int.le_refl _) hb h (hl h)]
/-- a function that rises -/
theorem rises {g : Int → Int} {l h : Int} (hg : ∀ n, l ≤ n → n < h → g n < g (n + 1)) : ∀ {x y : Int}, l ≤ x → x ≤ y → y ≤ h → g x + (y - x) ≤ g y := by
  intro x y hx hxy hy
  obtain ⟨d, rfl⟩ : ∃ d : Nat, y = x + d := ⟨(y - x).toNat, by omega⟩
  induction d with
  | zero => simp
  | succ d ih =>
    have h1 := ih (by omega) (by omega)
    have h2 := hg (x + d) (by omega) (by omega)
    have e : x + ((d + 1 : Nat) : Int) = x + d + 1 := by omega
    rw [e]
    omega
end Pl
namespace Pl
/-! the row of p(m * t + r) -/
def subF (m r : Int) : List Int → Nat → Int
  | [], _ => 0
  | a :: q, 0 => a + r * subF m r q 0
  | _ :: q, k + 1 => r * subF m r q (k + 1) + m * subF m r q k
theorem subF_low {m r : Int} : ∀ {rs : List Int} {k : Nat}, rs.length ≤ k → subF m r rs k = 0
  | [], k, _ => by cases k <;> rfl
  | a :: q, 0, h => absurd h (by simp)
  | a :: q, k + 1, h => by
    show r * subF m r q (k + 1) + m * subF m r q k = 0
    have h' : q.length ≤ k := Nat.le_of_succ_le_succ h
    rw [subF_low h', subF_low (Nat.le_succ_of_le h')]; simp
theorem ev_sub {m r t : Int} : ∀ rs : List Int, ev (subF m r rs) rs.length t = hv rs (m * t + r)
  | [] => rfl
  | a :: q => by
    have ih := ev_sub (m := m) (r := r) (t := t) q
    have e1 : ev (subF m r q) (q.length + 1) t = ev (subF m r q) q.length t := ev_big (fun k hk => subF_low hk) 1
    rw [ev_cons] at e1
    rw [hv_cons, ← ih, List.length_cons, ev_cons]
    show a + r * subF m r q 0 + t * ev (fun k => r * subF m r q (k + 1) + m * subF m r q k) q.length t = _
    have e2 : ev (fun k => r * subF m r q (k + 1) + m * subF m r q k) q.length t = ev (fun k => subF m r q (k + 1)) q.length t * r + ev (subF m r q) q.length t * m := by
      rw [← ev_scale, ← ev_scale, ← ev_add]
      exact ev_congr _ fun k _ => by rw [Int.mul_comm r, Int.mul_comm m]
    rw [e2]
    generalize ev (fun k => subF m r q (k + 1)) q.length t = x at e1 ⊢
    generalize ev (subF m r q) q.length t = y at e1 ⊢
    generalize subF m r q 0 = z at e1 ⊢
    have e3 : r * (z + t * x) = r * y := by rw [e1]
    grind
theorem mul_bits {x y : Int} {b c : Nat} (hx : x.natAbs < 2 ^ b) (hy : y.natAbs < 2 ^ c) : (x * y).natAbs < 2 ^ (b + c) := by
  rw [Int.natAbs_mul, Nat.pow_add]
  exact Nat.mul_lt_mul'' hx hy
theorem add_bits {x y : Int} {b : Nat} (hx : x.natAbs < 2 ^ b) (hy : y.natAbs < 2 ^ b) : (x + y).natAbs < 2 ^ (b + 1) := by
  rw [Nat.pow_succ]
  omega
theorem bits_up {x : Int} {b c : Nat} (h : x.natAbs < 2 ^ b) (hb : b ≤ c) : x.natAbs < 2 ^ c := Nat.lt_of_lt_of_le h (Nat.pow_le_pow_right (by decide) hb)
theorem subF_bits {m r : Int} {b d : Nat} (hm : m.natAbs < 2 ^ d) (hr : r.natAbs < 2 ^ d) : ∀ {rs : List Int}, (∀ k, (at0 rs k).natAbs < 2 ^ b) → ∀ k, (subF m r rs k).natAbs < 2 ^ (b + rs.length * (d + 1))
  | [], _, k => by cases k <;> exact Nat.two_pow_pos _
  | a :: q, h, k => by
    have ih := subF_bits hm hr (rs := q) (fun k => h (k + 1))
    have e : b + (a :: q).length * (d + 1) = d + (b + q.length * (d + 1)) + 1 := by rw [List.length_cons, Nat.add_mul]; omega
    rw [e]
    cases k with
    | zero => exact add_bits (bits_up (h 0) (by omega)) (mul_bits hr (ih 0))
    | succ k => exact add_bits (mul_bits hr (ih (k + 1))) (mul_bits hm (ih k))
/-- the last member stays under n + r -/
theorem subF_top {r : Int} : ∀ {rs : List Int} {k : Nat}, rs.length ≤ k + 1 → subF 1 r rs k = at0 rs k
  | [], k, _ => by rw [subF_low (Nat.zero_le k), at0_out (Nat.zero_le k)]
  | [a], 0, _ => by show a + r * 0 = a; omega
  | a :: b :: q, 0, h => absurd h (by simp)
  | a :: q, k + 1, h => by
    show r * subF 1 r q (k + 1) + 1 * subF 1 r q k = at0 q k
    rw [subF_low (by simp at h; omega), subF_top (by simpa using h)]
    simp
end Pl
namespace Pl
def keepT (t : Tri) : Bool := match t.2.1 with
  | none => true
  | some h => decide (t.1 ≤ h)
theorem WL.opt {σ : Int → Int} {l m s : Int} {T : List Tri} {e : Option Int} (hlm : l ≤ m) (hs : ∀ n, l ≤ n → n < m → σ n = s) (h : WL σ m T e) : WL σ l ((if keepT (l, some (m - 1), s) then [(l, some (m - 1), s)] else []) ++ T) e := by
  unfold keepT
  dsimp only
  by_cases c : l ≤ m - 1
  · rw [if_pos (decide_eq_true c)]
    exact ⟨rfl, c, fun n h1 h2 => hs n h1 (by omega), by rw [show m - 1 + 1 = m by omega]; exact h⟩
  · rw [if_neg (by rw [decide_eq_true_iff]; exact c)]
    have : l = m := by omega
    subst this
    exact h
theorem sign_is {v tr : Int} (h : tr = 1 ∨ tr = -1) : (1 ≤ tr * v → v.sign = tr) ∧ (tr * v < 0 → v.sign = -tr) ∧ (0 ≤ tr * v → tr * v < 1 → v.sign = 0) := by
  rcases h with rfl | rfl
  · refine ⟨fun h => Int.sign_eq_one_of_pos (by omega), fun h => Int.sign_eq_neg_one_of_neg (by omega), fun h h' => ?_⟩
    rw [show v = 0 by omega]; rfl
  · refine ⟨fun h => Int.sign_eq_neg_one_of_neg (by omega), fun h => Int.sign_eq_one_of_pos (by omega), fun h h' => ?_⟩
    rw [show v = 0 by omega]; rfl
theorem trend_ok {φ : Int → Int} {tr lo zero above : Int} {hi : Option Int} (ht : tr = 1 ∨ tr = -1) (hlo : ∀ h, hi = some h → lo ≤ h)
    (z1 : lo ≤ zero) (z2 : ∀ h, hi = some h → zero ≤ h + 1) (z3 : ∀ n, lo ≤ n → n < zero → tr * φ n < 0) (z4 : ∀ n, zero ≤ n → (∀ h, hi = some h → n ≤ h) → 0 ≤ tr * φ n)
    (a1 : lo ≤ above) (a2 : ∀ h, hi = some h → above ≤ h + 1) (a3 : ∀ n, lo ≤ n → n < above → tr * φ n < 1) (a4 : ∀ n, above ≤ n → (∀ h, hi = some h → n ≤ h) → 1 ≤ tr * φ n) :
    WL (fun n => (φ n).sign) lo ([(lo, some (zero - 1), -tr), (zero, some (above - 1), 0), (above, hi, tr)].filter keepT) (hi.map (· + 1)) := by
  have hza : zero ≤ above := Int.not_lt.mp fun c => by
    have h1 := z3 above a1 c
    have h2 := a4 above (Int.le_refl _) fun h e => by have := z2 h e; omega
    omega
  have e : ([(lo, some (zero - 1), -tr), (zero, some (above - 1), 0), (above, hi, tr)] : List Tri).filter keepT
      = (if keepT (lo, some (zero - 1), -tr) then [(lo, some (zero - 1), -tr)] else []) ++ ((if keepT (zero, some (above - 1), 0) then [(zero, some (above - 1), 0)] else []) ++ [(above, hi, tr)].filter keepT) := by
    simp only [List.filter_cons, List.filter_nil]
    split <;> split <;> simp
  rw [e]
  refine WL.opt z1 (fun n h1 h2 => (sign_is ht).2.1 (z3 n h1 h2)) (WL.opt hza (fun n h1 h2 => (sign_is ht).2.2 (z4 n h1 fun h e => by have := a2 h e; omega) (a3 n (by omega) h2)) ?_)
  cases hi with
  | none => exact ⟨rfl, rfl, rfl, fun n hn => (sign_is ht).1 (a4 n hn fun h e => by cases e)⟩
  | some h =>
    have := a2 h rfl
    by_cases c : above ≤ h
    · rw [List.filter_cons, if_pos (show keepT (above, some h, tr) = true from decide_eq_true c)]
      exact ⟨rfl, c, fun n h1 h2 => (sign_is ht).1 (a4 n h1 fun h' e => by cases e; exact h2), rfl⟩
    · rw [List.filter_cons, if_neg (show ¬ keepT (above, some h, tr) = true by unfold keepT; dsimp only; rw [decide_eq_true_iff]; exact c)]
      have : above = h + 1 := by omega
      subst this
      exact rfl
/-- the differences keep one sign: the function rises by tr -/
theorem trend_rise {φ : Int → Int} {tr n : Int} (ht : tr = 1 ∨ tr = -1) (h : (φ (n + 1) - φ n).sign = tr) : tr * φ n < tr * φ (n + 1) := by
  rcases ht with rfl | rfl
  · have := Int.sign_eq_one_iff_pos.mp h; omega
  · have := Int.sign_eq_neg_one_iff_neg.mp h; omega
theorem trend_end {φ : Int → Int} {tr lo X : Int} (ht : tr = 1 ∨ tr = -1) (hr : ∀ n, lo ≤ n → tr * φ n < tr * φ (n + 1)) (hlX : lo ≤ X) (hX : ∀ n, X ≤ n → (φ n).sign = (φ X).sign) : ∀ n, X ≤ n → 1 ≤ tr * φ n := fun n hn => by
  obtain ⟨N, hN⟩ : ∃ N, N = X + (1 + (tr * φ X).natAbs : Nat) := ⟨_, rfl⟩
  have h1 := rises (g := fun n => tr * φ n) (l := lo) (h := N) (fun n g1 _ => hr n g1) hlX (by omega) (Int.le_refl N)
  have h2 : 1 ≤ tr * φ N := by omega
  have h3 := (hX n hn).trans (hX N (by omega)).symm
  have h4 := (sign_is ht).1 h2
  rw [h4] at h3
  rcases ht with rfl | rfl
  · have := Int.sign_eq_one_iff_pos.mp h3; omega
  · have := Int.sign_eq_neg_one_iff_neg.mp h3; omega
theorem trend_flat {φ : Int → Int} {lo : Int} {hi : Option Int} (h : ∀ n, lo ≤ n → (∀ h, hi = some h → n ≤ h) → (φ (n + 1) - φ n).sign = 0) : ∀ n, lo ≤ n → (∀ h, hi = some h → n ≤ h + 1) → φ n = φ lo := by
  intro n hn hu
  obtain ⟨d, rfl⟩ : ∃ d : Nat, n = lo + d := ⟨(n - lo).toNat, by omega⟩
  induction d with
  | zero => simp
  | succ d ih =>
    have h1 := ih (by omega) fun h e => by have := hu h e; omega
    have h2 := Int.sign_eq_zero_iff_zero.mp (h (lo + d) (by omega) fun h e => by have := hu h e; omega)
    rw [show lo + ((d + 1 : Nat) : Int) = lo + d + 1 by omega]
    omega
end Pl
namespace Pl
theorem WL.seg {σ : Int → Int} {l a s : Int} {ho : Option Int} {T : List Tri} {e : Option Int} (h : WL σ l ((a, ho, s) :: T) e) : ∀ n, l ≤ n → (∀ h, ho = some h → n ≤ h) → σ n = s := by
  cases ho with
  | none => obtain ⟨_, _, _, z⟩ := h; exact fun n hn _ => z n hn
  | some h0 => obtain ⟨_, _, z, _⟩ := h; exact fun n hn hu => z n hn (hu h0 rfl)
theorem WL.up {σ : Int → Int} {l a s : Int} {ho : Option Int} {T : List Tri} {e : Option Int} (h : WL σ l ((a, ho, s) :: T) e) : ∀ h, ho = some h → l ≤ h := by
  cases ho with
  | none => intro h z; cases z
  | some h0 => obtain ⟨_, z, _, _⟩ := h; intro h e; cases e; exact z
theorem WL.next {σ : Int → Int} {l a s : Int} {ho : Option Int} {T : List Tri} {e : Option Int} (h : WL σ l ((a, ho, s) :: T) e) : match ho with | none => T = [] ∧ e = none | some h0 => WL σ (h0 + 1) T e := by
  cases ho with
  | none => obtain ⟨_, z, z2, _⟩ := h; exact ⟨z, z2⟩
  | some h0 => obtain ⟨_, _, _, z⟩ := h; exact z
end Pl
namespace Pl
def shT (lo : Int) (t : Tri) : Tri := (t.1 + lo, t.2.1.map (· + lo), t.2.2)
theorem WL.shift {σ τ : Int → Int} {lo : Int} (h : ∀ n, τ (n + lo) = σ n) : ∀ {T : List Tri} {l : Int} {e : Option Int}, WL σ l T e → WL τ (l + lo) (T.map (shT lo)) (e.map (· + lo))
  | [], l, e, hT => by
    have : e = some l := hT
    subst this
    rfl
  | (a, none, s) :: T, l, e, hT => by
    obtain ⟨rfl, rfl, rfl, h4⟩ := hT
    exact ⟨rfl, rfl, rfl, fun n hn => by rw [← h4 (n - lo) (by omega), ← h, Int.sub_add_cancel]⟩
  | (a, some x, s) :: T, l, e, hT => by
    obtain ⟨rfl, h2, h3, h4⟩ := hT
    have h5 := WL.shift h h4
    rw [show x + 1 + lo = x + lo + 1 by omega] at h5
    exact ⟨rfl, show a + lo ≤ x + lo by omega, fun n (hn : a + lo ≤ n) (hn' : n ≤ x + lo) => by rw [← h3 (n - lo) (by omega) (by omega), ← h, Int.sub_add_cancel], h5⟩
theorem sgs_shift (lo : Int) (T : List Tri) : sgs (T.map (shT lo)) = sgs T := by
  unfold sgs
  rw [List.map_map]
  rfl
theorem WL.congr {σ τ : Int → Int} {l : Int} {T : List Tri} {e : Option Int} (h : ∀ n, σ n = τ n) (hT : WL σ l T e) : WL τ l T e := by rwa [← funext h]
end Pl

section
open L2 in
local macro_rules | `(tactic| walk_at "gx") => `(tactic| first
  | ((with_reducible show tVar _ _ _ _); refine g_var rfl ?_)
  | with_reducible refine g_c ?_
  | with_reducible refine g_op ?_
  | with_reducible refine g_cons ?_
  | with_reducible refine g_nil ?_
  | with_reducible refine g_test ?_
  | with_reducible refine g_blp ?_
  | with_reducible refine g_asg ?_
  | (with_reducible refine g_name ?_; (try simp only [List.set_cons_zero, List.set_cons_succ]))
  | with_reducible refine g_call ?_
  | with_reducible refine g_cb ?_
  | with_reducible refine g_I0 ?_
  | with_reducible refine g_U ?_
  | with_reducible refine g_eqI ?_
  | with_reducible refine g_neI ?_
  | with_reducible refine g_if ?_
  | with_reducible refine g_ret ?_
  | with_reducible refine g_retN ?_
  | with_reducible refine g_next ?_
  | with_reducible refine g_drop ?_
  | with_reducible refine g_un ?_
  | with_reducible refine g_tb ?_
  | with_reducible refine g_tup ?_
  | with_reducible refine g_lst ?_
  | with_reducible refine g_and ?_
  | with_reducible refine g_or ?_
  | with_reducible refine g_not ?_
  | with_reducible refine g_andV ?_
  | with_reducible refine g_orV ?_
  | with_reducible refine g_notV ?_
  | with_reducible refine g_ifE ?_
  | with_reducible refine g_fld ?_
  | with_reducible refine g_tt ?_
  | with_reducible refine g_ff ?_
  | with_reducible refine g_ntt ?_
  | with_reducible refine g_nff ?_
  | with_reducible refine g_for ?_
  | with_reducible refine g_list ?_
  | with_reducible refine g_tupI ?_
  | with_reducible refine g_rng1 ?_
  | with_reducible refine g_rng2 ?_
  | with_reducible refine g_enumA ?_
  | with_reducible refine g_rev ?_
  | with_reducible refine g_lc ?_
  | with_reducible refine g_gcons ?_
  | with_reducible refine g_gnil ?_
  | with_reducible refine g_yes ?_
  | with_reducible refine g_sl ?_
  | with_reducible refine g_nopart ?_
  | with_reducible refine g_part ?_
  | with_reducible refine g_int ?_
  | with_reducible refine g_dget ?_
  | with_reducible refine g_dput ?_
  | with_reducible refine g_raiseX ?_
  | with_reducible refine g_tru ?_
  | with_reducible refine g_sub ?_
  | with_reducible refine g_isN ?_
  | with_reducible refine g_notN ?_
  | with_reducible refine g_bm ?_
  | with_reducible refine L2.g_bm0 ?_
  | with_reducible refine g_pair ?_
  | with_reducible refine g_pair0 ?_
  | with_reducible refine u_int1 ?_
  | with_reducible refine g_chain ?_
  | with_reducible refine L2.g_sfld ?_
  | (with_reducible refine g_par3 ?_)
  | (with_reducible refine g_three ?_; (try simp only [List.set_cons_zero, List.set_cons_succ]))
  | ((with_reducible apply L2.g_tupT); walk_at "up"; rfl)
  | (with_reducible refine g_par ?_)
  | (with_reducible refine g_two ?_; (try simp only [List.set_cons_zero, List.set_cons_succ]))
  )
local macro_rules | `(tactic| walk_at "go") => `(tactic| first | walk_at "gx" | with_reducible refine L2.g_seq ?_)
local macro_rules | `(tactic| walk_at "gou") => `(tactic| repeat (walk_at "gx"))
local macro_rules | `(tactic| walk_at "gos") => `(tactic| repeat (walk_at "go"))
local macro_rules | `(tactic| walk_at "sl") => `(tactic| first
  | assumption
  | exact L2.Same.l (by assumption)
  | exact L2.SameD.l (by assumption)
  | exact L2.extN_l (by assumption))
local macro_rules | `(tactic| walk_at "up") => `(tactic| first
  | assumption
  | ((with_reducible apply L2.SameL.lst); walk_at "sl"; walk_at "up")
  | ((with_reducible apply L2.SameL.tupA); walk_at "sl"; walk_at "up")
  | ((with_reducible apply L2.SameL.ins); walk_at "sl"; walk_at "up")
  | ((with_reducible apply Ev.PB.l); walk_at "sl"; walk_at "up")
  | ((with_reducible apply Ev.IsP.l); walk_at "sl"; walk_at "up")
  | ((with_reducible apply L2.sqL); walk_at "up")
  | ((with_reducible apply L2.sqT); walk_at "up")
  | ((with_reducible apply L2.SameL.seq); walk_at "sl"; walk_at "up")
  | ((with_reducible apply Ev.Pen.same); assumption; walk_at "up")
  | ((with_reducible apply Ev.Pen.extN); assumption; walk_at "up")
  | ((with_reducible apply L2.tabs_s); assumption; walk_at "up")
  | ((with_reducible apply L2.tabs_dd); assumption; walk_at "up")
  | ((with_reducible apply Or.inl); walk_at "up")
  | ((with_reducible apply Or.inr); walk_at "up"))
local macro_rules | `(tactic| walk_at "new") => `(tactic| (
  first
    | refine ⟨L2.size_ok (by rfl), fun p hp => ?_⟩
    | refine fun p hp => ?_
  generalize hX : L2.upd _ p _ = H1
  obtain ⟨e, h⟩ := L2.news hp hX
  clear hX))
local macro_rules | `(tactic| walk_at "o") => `(tactic| first
  | ((with_reducible apply Ev.o_add); walk_at "up"; walk_at "up"; rfl; rfl; rfl)
  | ((with_reducible apply Ev.o_sub); walk_at "up"; walk_at "up"; rfl; rfl; rfl)
  | ((with_reducible apply Ev.o_mul); walk_at "up"; walk_at "up"; rfl; rfl; rfl)
  | ((with_reducible apply Ev.o_addI); walk_at "up"; assumption; rfl; rfl; rfl)
  | ((with_reducible apply Ev.o_subI); walk_at "up"; assumption; rfl; rfl; rfl)
  | ((with_reducible apply Ev.o_mulI); walk_at "up"; assumption; rfl; rfl; rfl)
  | ((with_reducible apply Ev.o_radd); walk_at "up"; assumption; rfl; rfl; rfl)
  | ((with_reducible apply Ev.o_rsub); walk_at "up"; assumption; rfl; rfl; rfl)
  | ((with_reducible apply Ev.o_rmul); walk_at "up"; assumption; rfl; rfl; rfl)
  | ((with_reducible apply Ev.o_neg); walk_at "up"; rfl; rfl; rfl))
local macro_rules | `(tactic| walk_at "eq") => `(tactic| ((with_reducible apply Ev.u_ownB); assumption; walk_at "up"; walk_at "up"; (focus (intro k; first | rfl | exact Pl.e_add | exact Pl.e_sub | exact Pl.e_mul | exact Pl.e_rsub | exact Pl.e_rsub2))))
local macro_rules | `(tactic| walk_at "isp") => `(tactic| (apply Ev.u_isB; walk_at "up"; walk_at "up"; rfl; rfl))

/-! stretched for rows of any size that is served; the row of the differences. -/
namespace Ev
open PySem PySem.Spec PyProof.Rows L2 Pl
section
variable {K : PySem.W.Frag} {H : Hp} {x C : Addr} {φ : Int → Int} {w : Int} {n b c n2 b2 c2 : Nat} {g : Nat → Int}
/-- the same piece, told by another row -/
theorem PWv.pb (h : PWv H x C φ w n b c) (hg : Sb g w n2 b2 c2) (e : ∀ t, ev g n2 t = φ t) : PB H x C g w n2 b2 c2 := by
  obtain ⟨h0, f, v, ⟨hs, rs, u, hx, hF⟩, he⟩ := h
  refine ⟨hg, rs, u, hx, hF.to h0 fun k => ?_⟩
  have e1 : ∀ t, ev f (max n n2) t = ev f n t := fun t => by
    obtain ⟨d, hd⟩ : ∃ d, max n n2 = n + d := ⟨max n n2 - n, by omega⟩
    rw [hd]; exact ev_big hs.low d
  have e2 : ∀ t, ev g (max n n2) t = ev g n2 t := fun t => by
    obtain ⟨d, hd⟩ : ∃ d, max n n2 = n2 + d := ⟨max n n2 - n2, by omega⟩
    rw [hd]; exact ev_big hg.low d
  have z : ∀ t, ev (fun k => f k * w + g k * -v) (max n n2) t = 0 := fun t => by
    rw [ev_add, ev_scale, ev_scale, e1, e2, e]
    have a := he t
    grind
  by_cases hk : k < max n n2
  · have := ev_zero z k hk
    rw [Int.mul_neg] at this
    omega
  · rw [hs.low k (by omega), hg.low k (by omega)]; simp
theorem g_methT {C : Addr} {m : Str} {sp : Sp} {E : XK} {ta : TE} {t : TA} {σ : L2.St} {H : Hp} {Q : VK} (q : ta σ H fun x H1 => ∃ a dx fs, x = .ref a ∧ H1 a = some (.ins C dx fs) ∧ fs.lookup m = none ∧ t σ H1 fun vs H2 => sp (x :: (vs ++ [])) H2 Q E) : tMeth C m sp [] E ta t σ H Q := q
theorem PB.insP {f : Nat → Int} {v : Int} (h : PB H x C f v n b c) : ∃ dx fs, H x = some (.ins C dx fs) ∧ fs.lookup ("stretched" : Str) = none := let ⟨_, _, _, ⟨dx, _, h1, _⟩, _⟩ := h; ⟨dx, _, h1, rfl⟩
/-- a piece whose under is 1 is its row -/
theorem PB.whole {f : Nat → Int} (h : PB H x C f 1 n b c) : ∃ rs, IsP H x C rs 1 ∧ (∀ k, at0 rs k = f k) ∧ (rs ≠ [] → at0 rs (rs.length - 1) ≠ 0) ∧ ∀ m, (∀ k, m ≤ k → f k = 0) → rs.length ≤ m := by
  obtain ⟨hs, rs, u, hx, hF⟩ := h
  obtain ⟨s1, s2, s3⟩ := hF.small
  have hu : u = 1 := by have := hF.1.pos; omega
  subst hu
  refine ⟨rs, hx, fun k => ?_, hF.1.low, s3⟩
  have := hF.2.2 k
  omega
end
section
variable {P : Program} {w : World} {K : PySem.W.Frag} {mg : Str → Option Value} {base : Heap}
def spStretchG (K : PySem.W.Frag) (C CB : Addr) : Sp := fun vs H Q E => ∃ (x : Addr) (mv rv : V), vs = [.ref x, mv, rv] ∧
  ((∃ (rs : List Int) (u m r : Int) (b d c : Nat), mv = .int m ∧ rv = .int r ∧ 1 ≤ m ∧ IsP H x C rs u ∧ rs.length ≤ 14 ∧ (∀ k, Bd b (at0 rs k)) ∧ Bd c u ∧ 0 < u ∧ Bd d m ∧ Bd d r ∧ b + d ≤ 5500 ∧ c ≤ 3000 ∧ ∀ z H', Same H H' → PB H' z C (subF m r rs) u rs.length (b + rs.length * (d + 1)) c → Q (.ref z) H') ∨
   ((Kd K H mv false ∨ ∃ i : Int, mv = .int i ∧ i < 1) ∧ ExcN H CB mv E) ∨ (∃ m : Int, mv = .int m ∧ 1 ≤ m ∧ Kd K H rv false ∧ ExcN H CB rv E))
theorem ok_stretchG {C_Piece CR CU CB : Addr} (B : Bn mg) (c_Piece : Cls K C_Piece) (n_row : NoAttr K C_Piece "row") (n_under : NoAttr K C_Piece "under") (sf_Piece : PySem.W.selfFirst K C_Piece = true) (M_Piece : MakeF P w K mg base "Piece" C_Piece 5 (spPiece K C_Piece CR CU)) (M_Piece_1 : MakeF P w K mg base "Piece" C_Piece 5 (fun vs H Q E => ∃ a : Addr, vs = [.ref a] ∧ spPiece K C_Piece CR CU [.ref a, .int 1] H Q E))
    (X_BadNumber : ExT P K mg "BadNumber" CB ["number"]) (G_is_integer : CallF P w K mg base "is_integer" ["value"] 1 (spIsInteger K)) (OA_Piece : OwnF P w K mg base C_Piece "__add__" ["self", "other"] 8 (spAdd K C_Piece)) (OM_Piece : OwnF P w K mg base C_Piece "__mul__" ["self", "other"] 8 (spMul K C_Piece)) (OI_Piece : OpI K C_Piece .Add)
    {f : Addr} {fd : FuncData} (F : Fun K "stretched" "Piece.stretched" (inClass (topS 18) 16) f fd) : FnOk P w K mg base (L2.CX P w) 11 f fd ["self", "m", "r"] (spStretchG K C_Piece CB) := by
  have nd := sc_Piece_stretched.nd
  refine F.okX sc_Piece_stretched (fun vs H Q E h => ?_) (fun cdv A outer s H vs Q E hr h => ?_)
  · obtain ⟨x, mv, rv, rfl, _⟩ := h
    rfl
  · refine ⟨_, (pss_cons (ps_if (PW.pt (pw_or (pt_not (pt_val (pe_callF G_is_integer (hr.mono (by decide)) rfl passL (pa_cons (pv 1) pa_nil)))) (pw_or1 (pt_cmpR op_lt (pv 1) pe_int (nomark _))))) (pss_one (ps_raiseX rfl X_BadNumber hr (takes_of rfl rfl rfl rfl) (pa_cons (pv 1) pa_nil))) pss_nil)
      (pss_cons (ps_if (pt_not (pt_val (pe_callF G_is_integer (hr.mono (by decide)) rfl passL (pa_cons (pv 2) pa_nil)))) (pss_one (ps_raiseX rfl X_BadNumber hr (takes_of rfl rfl rfl rfl) (pa_cons (pv 2) pa_nil))) pss_nil)
      (pss_cons (ps_set (i := 3) nd rfl (.inl rfl) (pe_makeF M_Piece_1 (hr.mono (by decide)) rfl (passes_call (takes_of rfl rfl rfl rfl) (fun _ _ _ _ h => h)) (pa_cons (pe_tup pa_nil) pa_nil)))
      (pss_cons (ps_for (passes_of rfl) rfl (pi_reversedK (K := K) rfl (by rfl) B.reversed (pa_cons (pe_callTy (call_lstK (K := K) rfl) (by rfl) B.list_ (by decide +kernel) (pa_cons (pe_fldK (K := K) rfl (pv 0) rfl) pa_nil)) pa_nil)) (pg_name (i := 4) nd rfl (.inl rfl)) (pss_one (ps_set (i := 3) nd rfl (.inl rfl) (pe_op (op_ownJ OA_Piece rfl OI_Piece (hr.mono (by decide)) passL) (pe_op (op_own2 OM_Piece rfl sf_Piece (hr.mono (by decide)) passL) (pv 3) (pe_makeF M_Piece_1 (hr.mono (by decide)) rfl (passes_call (takes_of rfl rfl rfl rfl) (fun _ _ _ _ h => h)) (pa_cons (pe_tup (pa_cons (pv 2) (pa_cons (pv 1) pa_nil))) pa_nil))) (pv 4)))))
      (pss_one (ps_ret (pe_op (op_own2 OM_Piece rfl sf_Piece (hr.mono (by decide)) passL) (pv 3) (pe_makeF M_Piece (hr.mono (by decide)) rfl (passes_call (takes_of rfl rfl rfl rfl) (fun _ _ _ _ h => h)) (pa_cons (pe_tup (pa_cons pe_int pa_nil)) (pa_cons (pe_fldK (K := K) rfl (pv 0) rfl) pa_nil)))))))))), ?_⟩
    obtain ⟨x, mv, rv, rfl, q⟩ := h
    refine g_st (σ' := [some (.ref x), some mv, some rv, none, none]) rfl ?_
    walk_at "gos"
    rcases q with ⟨rs, u, m, r, b, d, c, rfl, rfl, hm1, hx, hl, hb, hbu, hu, hbm, hbr, hbd, hc3, q⟩ | ⟨hk, hq⟩ | ⟨m, rfl, hm1, hk, hq⟩
    · obtain ⟨T, hT⟩ : ∃ T, T = b + d + 160 := ⟨_, rfl⟩
      have hT14 : ∀ i, i ≤ 14 → T * i ≤ T * 14 := fun i hi => Nat.mul_le_mul_left T hi
      refine ⟨_, true, rfl, Kd.int, ?_⟩
      walk_at "gos"
      rw [if_neg (by rw [decide_eq_true_iff]; omega)]
      walk_at "gos"
      refine ⟨_, true, rfl, Kd.int, ?_⟩
      walk_at "gos"
      (walk_at "new"; rename_i t1 _ H1 e1 h1; walk_at "gos")
      refine ⟨t1, rfl, pv_0 (.inr (sqT h1)) fun z0 H2 e2 hz0 => ?_⟩
      walk_at "gos"
      obtain ⟨dx, tx, hx1, htx⟩ := hx.same (e1.trans e2)
      refine u_tfld rfl hx1 c_Piece n_row rfl ?_
      walk_at "gos"
      refine u_list (.inr (sqT htx)) fun l3 H3 _ e3 h3 => ?_
      walk_at "gos"
      refine u_rev (sqL h3) ?_
      have hln : (rs.map V.int).length = rs.length := List.length_map ..
      refine for_it walk_rev (fun i σ' H' => Same H3 H' ∧ ∃ (z : Addr) (y : Option V), σ' = [some (.ref x), some (.int m), some (.int r), some (.ref z), y] ∧ PWv H' z C_Piece (fun t => hv (rs.drop (rs.length - i)) (m * t + r)) 1 i (T * i + 1) (10 * i + 1)) ?_ (fun i _ H' _ p => p.1.seq (sqL h3)) (fun i y σ' H' H4 hi p yy => ?_) (fun σ' H' p => ?_)
      · refine ⟨Same.refl _, z0, none, rfl, ?_⟩
        rw [Nat.sub_zero, List.drop_length]
        exact (hz0.same e3).mono (by decide) (by omega) (by decide)
      · obtain ⟨e4, z, y0, rfl, hz⟩ := p
        obtain ⟨rfl, hyy⟩ := yy
        rw [hln] at hi hyy
        obtain rfl := at_ints hyy
        have hTi := hT14 i (by omega)
        have hTs : T * (i + 1) = T * i + T := Nat.mul_succ T i
        walk_at "gos"
        (walk_at "new"; rename_i t5 _ H5 e5 h5; walk_at "gos")
        refine ⟨t5, rfl, pv_lin (.inr (sqT h5)) hbr hbm (by decide) (show Bd 1 (1 : Int) by unfold Bd; decide) rfl fun zl H6 e6 hzl => ?_⟩
        walk_at "gos"
        refine pv_mulN (if i = 0 then 0 else i + 1) (by split <;> omega) (hz.same (e5.trans e6)) hzl (Nat.ble_eq_true_of_le (by omega)) (Nat.ble_eq_true_of_le (by omega)) (Nat.ble_eq_true_of_le (by omega)) fun z7 H7 e7 hz7 => ?_
        walk_at "gos"
        refine pv_addI hz7 (hb _) (Nat.ble_eq_true_of_le (by split <;> omega)) (Nat.ble_eq_true_of_le (by omega)) (Nat.ble_eq_true_of_le (by omega)) fun z8 H8 e8 hz8 => ?_
        walk_at "gos"
        refine ⟨e4.trans (e5.trans (e6.trans (e7.trans e8))), z8, _, rfl, (hz8.congr fun t => ?_).mono (by split <;> omega) (by omega) (by omega)⟩
        rw [hv_step hi]
        simp
      · obtain ⟨e4, z, y0, rfl, hz⟩ := p
        rw [hln, Nat.sub_self, List.drop_zero] at hz
        have hTi := hT14 rs.length hl
        walk_at "gos"
        (walk_at "new"; rename_i t5 _ H5 e5 h5; walk_at "gos")
        refine u_tfld rfl ((e3.trans (e4.trans e5)) _ _ hx1) c_Piece n_under rfl ?_
        walk_at "gos"
        refine pv_one (.inr (sqT h5)) (by omega) hbu (Nat.ble_eq_true_of_le (by omega)) fun z6 H6 e6 hz6 => ?_
        walk_at "gos"
        refine pv_mulN rs.length (by omega) (hz.same (e5.trans e6)) hz6 (Nat.ble_eq_true_of_le (by omega)) (Nat.ble_eq_true_of_le (by omega)) (Nat.ble_eq_true_of_le (by omega)) fun z7 H7 e7 hz7 => ?_
        walk_at "gos"
        refine q z7 H7 (e1.trans (e2.trans (e3.trans (e4.trans (e5.trans (e6.trans e7)))))) ?_
        have h8 := hz7.congr (ψ := fun t => hv rs (m * t + r)) fun t => by simp
        rw [Int.one_mul] at h8
        exact h8.pb ⟨fun k hk => subF_low hk, subF_bits hbm hbr hb, hbu, hu⟩ fun t => ev_sub rs
    · rcases hk with hk | ⟨i, rfl, hi⟩
      · refine ⟨_, false, rfl, hk, ?_⟩
        walk_at "gos"
        exact u_raise rfl (by decide) fun d H1 _ e1 hd => hq H1 d e1 hd
      · refine ⟨_, true, rfl, Kd.int, ?_⟩
        walk_at "gos"
        rw [if_pos (decide_eq_true hi)]
        walk_at "gos"
        exact u_raise rfl (by decide) fun d H1 _ e1 hd => hq H1 d e1 hd
    · refine ⟨_, true, rfl, Kd.int, ?_⟩
      walk_at "gos"
      rw [if_neg (by rw [decide_eq_true_iff]; omega)]
      walk_at "gos"
      refine ⟨_, false, rfl, hk, ?_⟩
      walk_at "gos"
      exact u_raise rfl (by decide) fun d H1 _ e1 hd => hq H1 d e1 hd
/-- the row of p(n + 1) - p(n) -/
def spDiff (K : PySem.W.Frag) : Sp := fun vs H Q _ => ∃ (a : Addr) (rs : List Int) (b : Nat), vs = [.ref a] ∧ SqT K H a (rs.map V.int) ∧ rs.length ≤ 14 ∧ (∀ k, Bd b (at0 rs k)) ∧ b ≤ 5400 ∧
  ∀ t rs' H', Same H H' → H' t = some (.tup (rs'.map V.int)) → (rs' ≠ [] → at0 rs' (rs'.length - 1) ≠ 0) → rs'.length ≤ rs.length - 1 → (∀ k, Bd (b + 30) (at0 rs' k)) → (∀ n, hv rs' n = hv rs (n + 1) - hv rs n) → Q (.ref t) H'
theorem sc_difference_row : FnScope ["row", "piece"] ["row"] (defScope (topS 26)) := ⟨rfl, rfl, rfl, by decide +kernel, rfl, by decide +kernel, by decide +kernel⟩
theorem ok_difference_row {C_Piece CR CU CB : Addr} (B : Bn mg) (c_Piece : Cls K C_Piece) (n_row : NoAttr K C_Piece "row") (sf_Piece : PySem.W.selfFirst K C_Piece = true) (M_Piece_1 : MakeF P w K mg base "Piece" C_Piece 5 (fun vs H Q E => ∃ a : Addr, vs = [.ref a] ∧ spPiece K C_Piece CR CU [.ref a, .int 1] H Q E))
    (G_Piece_stretched : MethF P w K mg base C_Piece "stretched" ["self", "m", "r"] 11 (spStretchG K C_Piece CB)) (OS_Piece : OwnF P w K mg base C_Piece "__sub__" ["self", "other"] 8 (spSub K C_Piece))
    {f : Addr} {fd : FuncData} (F : Fun K "difference_row" "difference_row" (topS 26) f fd) : FnOk P w K mg base (L2.CX P w) 12 f fd ["row"] (spDiff K) := by
  have nd := sc_difference_row.nd
  refine F.okX sc_difference_row (fun vs H Q E h => ?_) (fun cdv A outer s H vs Q E hr h => ?_)
  · obtain ⟨a, rs, b, rfl, _⟩ := h
    rfl
  · refine ⟨_, (pss_cons (ps_set (i := 1) nd rfl (.inl rfl) (pe_makeF M_Piece_1 (hr.mono (by decide)) rfl (passes_call (takes_of rfl rfl rfl rfl) (fun _ _ _ _ h => h)) (pa_cons (pv 0) pa_nil)))
      (pss_one (ps_ret (pe_fldK (K := K) rfl (pe_op (op_own2 OS_Piece rfl sf_Piece (hr.mono (by decide)) passL) (pe_methF c_Piece G_Piece_stretched (pv 1) (hr.mono (by decide)) (passes_call (takes_of rfl rfl rfl rfl) (fun _ _ _ _ h => h)) (pa_cons pe_int (pa_cons pe_int pa_nil))) (pv 1)) rfl)))), ?_⟩
    obtain ⟨a, rs, b, rfl, ha, hl, hb, hb5, q⟩ := h
    refine g_st (σ' := [some (.ref a), none]) rfl ?_
    walk_at "gos"
    refine ⟨a, rfl, u_pieceB (ns := rs) (v := 1) (n := rs.length) (b := b) (c := 1) (.inr ha) ⟨fun k hk => at0_out hk, hb, by unfold Bd; decide, by decide⟩ (Nat.ble_eq_true_of_le (by omega)) fun x H1 _ e1 hP => ?_⟩
    walk_at "gos"
    obtain ⟨rs1, hI, hk1, hl1, hm1⟩ := hP.whole
    have hlen : rs1.length ≤ rs.length := hm1 _ fun k hk => at0_out hk
    obtain ⟨dx, fs, hx1, hlk⟩ := hP.insP
    refine g_methT ?_
    walk_at "gos"
    refine ⟨x, dx, fs, rfl, hx1, hlk, ?_⟩
    walk_at "gos"
    refine ⟨x, _, _, rfl, .inl ⟨rs1, 1, 1, 1, b, 1, 1, rfl, rfl, by decide, hI, by omega, fun k => by rw [hk1]; exact hb k, by unfold Bd; decide, by decide, by unfold Bd; decide, by unfold Bd; decide, by omega, by decide, fun z H2 e2 hz => ?_⟩⟩
    walk_at "gos"
    refine o_sub hz (hP.same e2) (Nat.ble_eq_true_of_le (by omega)) (Nat.ble_eq_true_of_le (by omega)) (Nat.ble_eq_true_of_le (by decide)) fun y H3 e3 hy3 => ?_
    obtain ⟨rs', hI', hk', hl', hm'⟩ := hy3.whole
    obtain ⟨dy, ty, hy1, hty⟩ := hI'
    refine ⟨y, C_Piece, dy, _, _, rfl, hy1, c_Piece, n_row, rfl, ?_⟩
    have hev : ∀ n, hv rs1 n = hv rs n := fun n => hv_ext hk1
    refine q ty rs' H3 (e1.trans (e2.trans e3)) hty hl' (hm' _ fun k hk => ?_) (fun k => ?_) (fun n => ?_)
    · by_cases c : rs.length ≤ k
      · rw [subF_low (by omega), at0_out c]; rfl
      · rw [subF_top (by omega), hk1]; omega
    · rw [hk']
      have b1 := subF_bits (m := 1) (r := 1) (b := b) (d := 1) (by decide) (by decide) (rs := rs1) (fun k => by rw [hk1]; exact hb k) k
      have b2 : Bd (b + 29) (subF 1 1 rs1 k * 1) := by rw [Int.mul_one]; exact Bd.mono b1 (by omega)
      have b3 : Bd (b + 29) (-at0 rs k * 1) := by rw [Int.mul_one]; exact (hb k).neg.mono (by omega)
      exact b2.add b3
    · have h1 : hv rs' n = ev (fun k => subF 1 1 rs1 k + at0 rs k * -1) (max rs'.length (max rs1.length rs.length)) n := by
        rw [hv_ev, ← ev_big (n := rs'.length) (fun k hk => at0_out hk) (max rs'.length (max rs1.length rs.length) - rs'.length), show rs'.length + (max rs'.length (max rs1.length rs.length) - rs'.length) = max rs'.length (max rs1.length rs.length) by omega]
        exact ev_congr _ fun k _ => by rw [hk']; omega
      obtain ⟨N, hN⟩ : ∃ N, N = max rs'.length (max rs1.length rs.length) := ⟨_, rfl⟩
      rw [h1, ev_add, ev_scale, ← hN]
      have h2 : ev (subF 1 1 rs1) N n = hv rs (n + 1) := by
        obtain ⟨d, hd⟩ : ∃ d, N = rs1.length + d := ⟨N - rs1.length, by omega⟩
        rw [hd, ev_big (fun k hk => subF_low hk) d, ev_sub, hev]
        congr 1
        omega
      have h3 : ev (at0 rs) N n = hv rs n := by
        obtain ⟨d, hd⟩ : ∃ d, N = rs.length + d := ⟨N - rs.length, by omega⟩
        rw [hd, ev_big (fun k hk => at0_out hk) d, hv_ev]
      rw [h2, h3]
      omega
end
end Ev

end
section
open L2 in
local macro_rules | `(tactic| walk_at "gx") => `(tactic| first
  | ((with_reducible show tVar _ _ _ _); refine g_var rfl ?_)
  | with_reducible refine g_c ?_
  | with_reducible refine g_op ?_
  | with_reducible refine g_cons ?_
  | with_reducible refine g_nil ?_
  | with_reducible refine g_test ?_
  | with_reducible refine g_blp ?_
  | with_reducible refine g_asg ?_
  | (with_reducible refine g_name ?_; (try simp only [List.set_cons_zero, List.set_cons_succ]))
  | with_reducible refine g_call ?_
  | with_reducible refine g_cb ?_
  | with_reducible refine g_I0 ?_
  | with_reducible refine g_U ?_
  | with_reducible refine g_eqI ?_
  | with_reducible refine g_neI ?_
  | with_reducible refine g_if ?_
  | with_reducible refine g_ret ?_
  | with_reducible refine g_retN ?_
  | with_reducible refine g_next ?_
  | with_reducible refine g_drop ?_
  | with_reducible refine g_un ?_
  | with_reducible refine g_tb ?_
  | with_reducible refine g_tup ?_
  | with_reducible refine g_lst ?_
  | with_reducible refine g_and ?_
  | with_reducible refine g_or ?_
  | with_reducible refine g_not ?_
  | with_reducible refine g_andV ?_
  | with_reducible refine g_orV ?_
  | with_reducible refine g_notV ?_
  | with_reducible refine g_ifE ?_
  | with_reducible refine g_fld ?_
  | with_reducible refine g_tt ?_
  | with_reducible refine g_ff ?_
  | with_reducible refine g_ntt ?_
  | with_reducible refine g_nff ?_
  | with_reducible refine g_for ?_
  | with_reducible refine g_list ?_
  | with_reducible refine g_tupI ?_
  | with_reducible refine g_rng1 ?_
  | with_reducible refine g_rng2 ?_
  | with_reducible refine g_enumA ?_
  | with_reducible refine g_rev ?_
  | with_reducible refine g_lc ?_
  | with_reducible refine g_gcons ?_
  | with_reducible refine g_gnil ?_
  | with_reducible refine g_yes ?_
  | with_reducible refine g_sl ?_
  | with_reducible refine g_nopart ?_
  | with_reducible refine g_part ?_
  | with_reducible refine g_int ?_
  | with_reducible refine g_dget ?_
  | with_reducible refine g_dput ?_
  | with_reducible refine g_raiseX ?_
  | with_reducible refine g_tru ?_
  | with_reducible refine g_sub ?_
  | with_reducible refine g_isN ?_
  | with_reducible refine g_notN ?_
  | with_reducible refine g_bm ?_
  | with_reducible refine L2.g_bm0 ?_
  | with_reducible refine g_pair ?_
  | with_reducible refine g_pair0 ?_
  | with_reducible refine u_int1 ?_
  | with_reducible refine g_chain ?_
  | with_reducible refine L2.g_sfld ?_
  | (with_reducible refine g_par3 ?_)
  | (with_reducible refine g_three ?_; (try simp only [List.set_cons_zero, List.set_cons_succ]))
  | ((with_reducible apply L2.g_tupT); walk_at "up"; rfl)
  | (with_reducible refine g_par ?_)
  | (with_reducible refine g_two ?_; (try simp only [List.set_cons_zero, List.set_cons_succ]))
  )
local macro_rules | `(tactic| walk_at "go") => `(tactic| first | walk_at "gx" | with_reducible refine L2.g_seq ?_)
local macro_rules | `(tactic| walk_at "gou") => `(tactic| repeat (walk_at "gx"))
local macro_rules | `(tactic| walk_at "gos") => `(tactic| repeat (walk_at "go"))
local macro_rules | `(tactic| walk_at "sl") => `(tactic| first
  | assumption
  | exact L2.Same.l (by assumption)
  | exact L2.SameD.l (by assumption)
  | exact L2.extN_l (by assumption))
local macro_rules | `(tactic| walk_at "up") => `(tactic| first
  | assumption
  | ((with_reducible apply L2.SameL.lst); walk_at "sl"; walk_at "up")
  | ((with_reducible apply L2.SameL.tupA); walk_at "sl"; walk_at "up")
  | ((with_reducible apply L2.SameL.ins); walk_at "sl"; walk_at "up")
  | ((with_reducible apply Ev.PB.l); walk_at "sl"; walk_at "up")
  | ((with_reducible apply Ev.IsP.l); walk_at "sl"; walk_at "up")
  | ((with_reducible apply L2.sqL); walk_at "up")
  | ((with_reducible apply L2.sqT); walk_at "up")
  | ((with_reducible apply L2.SameL.seq); walk_at "sl"; walk_at "up")
  | ((with_reducible apply Ev.Pen.same); assumption; walk_at "up")
  | ((with_reducible apply Ev.Pen.extN); assumption; walk_at "up")
  | ((with_reducible apply L2.tabs_s); assumption; walk_at "up")
  | ((with_reducible apply L2.tabs_dd); assumption; walk_at "up")
  | ((with_reducible apply Or.inl); walk_at "up")
  | ((with_reducible apply Or.inr); walk_at "up"))
local macro_rules | `(tactic| walk_at "new") => `(tactic| (
  first
    | refine ⟨L2.size_ok (by rfl), fun p hp => ?_⟩
    | refine fun p hp => ?_
  generalize hX : L2.upd _ p _ = H1
  obtain ⟨e, h⟩ := L2.news hp hX
  clear hX))
local macro_rules | `(tactic| walk_at "o") => `(tactic| first
  | ((with_reducible apply Ev.o_add); walk_at "up"; walk_at "up"; rfl; rfl; rfl)
  | ((with_reducible apply Ev.o_sub); walk_at "up"; walk_at "up"; rfl; rfl; rfl)
  | ((with_reducible apply Ev.o_mul); walk_at "up"; walk_at "up"; rfl; rfl; rfl)
  | ((with_reducible apply Ev.o_addI); walk_at "up"; assumption; rfl; rfl; rfl)
  | ((with_reducible apply Ev.o_subI); walk_at "up"; assumption; rfl; rfl; rfl)
  | ((with_reducible apply Ev.o_mulI); walk_at "up"; assumption; rfl; rfl; rfl)
  | ((with_reducible apply Ev.o_radd); walk_at "up"; assumption; rfl; rfl; rfl)
  | ((with_reducible apply Ev.o_rsub); walk_at "up"; assumption; rfl; rfl; rfl)
  | ((with_reducible apply Ev.o_rmul); walk_at "up"; assumption; rfl; rfl; rfl)
  | ((with_reducible apply Ev.o_neg); walk_at "up"; rfl; rfl; rfl))
local macro_rules | `(tactic| walk_at "eq") => `(tactic| ((with_reducible apply Ev.u_ownB); assumption; walk_at "up"; walk_at "up"; (focus (intro k; first | rfl | exact Pl.e_add | exact Pl.e_sub | exact Pl.e_mul | exact Pl.e_rsub | exact Pl.e_rsub2))))
local macro_rules | `(tactic| walk_at "isp") => `(tactic| (apply Ev.u_isB; walk_at "up"; walk_at "up"; rfl; rfl))

/-! first_from, trend_signs. -/
namespace Ev
open PySem PySem.Spec PyProof.Rows L2 Pl
def oV : Option Int → V
  | none => .non
  | some h => .int h
theorem oV_non (o : Option Int) : decide (oV o = .non) = o.isNone := by cases o <;> simp [oV]
theorem Sm.bits {rs : List Int} {n : Int} (h : Sm rs n) : Bd 10200000 (hv rs n) := by
  have := h.val rs.length (Nat.le_refl _)
  rw [Nat.sub_self, List.drop_zero] at this
  exact this.mono (by have := h.len; omega)
/-- a number below n (or without end) -/
def Up (hi : Option Int) (n : Int) : Prop := ∀ h, hi = some h → n ≤ h
section
variable {P : Program} {w : World} {K : PySem.W.Frag} {mg : Str → Option Value} {base : Heap}
/-- the least n from lo to hi with bd ≤ tr * value, or hi + 1 -/
def spFirstG (K : PySem.W.Frag) : Sp := fun vs H Q _ => ∃ (a : Addr) (rs : List Int) (tr bd lo X : Int) (hi : Option Int), vs = [.ref a, .int tr, .int bd, .int lo, oV hi] ∧ SqT K H a (rs.map V.int) ∧ Bd 1 tr ∧ 0 ≤ lo ∧ lo ≤ X ∧ (∀ h, hi = some h → lo ≤ h ∧ h ≤ X) ∧
  (∀ n, 0 ≤ n → n ≤ 3 * X + 3 → Sm rs n) ∧ (∀ n, lo ≤ n → Up hi n → tr * hv rs n < tr * hv rs (n + 1)) ∧ (hi = none → ∀ n, X ≤ n → bd ≤ tr * hv rs n) ∧
  ∀ z H', Same H H' → lo ≤ z → z ≤ 3 * X + 3 → (∀ h, hi = some h → z ≤ h + 1) → (∀ n, lo ≤ n → n < z → tr * hv rs n < bd) → (∀ n, z ≤ n → Up hi n → bd ≤ tr * hv rs n) → Q (.int z) H'
theorem sc_first_from : FnScope ["row", "trend", "bound", "low", "high", "short", "far", "middle"] ["row", "trend", "bound", "low", "high"] (defScope (topS 27)) := ⟨rfl, rfl, rfl, by decide +kernel, rfl, by decide +kernel, by decide +kernel⟩
theorem ok_first_from (G_row_value : CallF P w K mg base "row_value" ["row", "n"] 1 (spValue K)) {f : Addr} {fd : FuncData} (F : Fun K "first_from" "first_from" (topS 27) f fd) : FnOk P w K mg base (L2.CX P w) 2 f fd ["row", "trend", "bound", "low", "high"] (spFirstG K) := by
  have nd := sc_first_from.nd
  refine F.okX sc_first_from (fun vs H Q E h => ?_) (fun cdv A outer s H vs Q E hr h => ?_)
  · obtain ⟨a, rs, tr, bd, lo, X, hi, rfl, _⟩ := h
    rfl
  · refine ⟨_, (pss_cons (ps_if (pt_cmpR op_ge (pe_op op_mulX (pv 1) (pe_callF G_row_value (hr.mono (by decide)) rfl passL (pa_cons (pv 0) (pa_cons (pv 3) pa_nil)))) (pv 2) (nomark _)) (pss_one (ps_ret (pv 3))) pss_nil)
      (pss_cons (ps_par (i := 5) (j := 6) rfl nd rfl rfl (by decide) rfl rfl (pa_cons (pv 3) (pa_cons (pe_op op_add (pv 3) pe_int) pa_nil)) (by rfl))
      (pss_cons (ps_while (passes_of rfl) (PW.pt (pw_and (PW.pt (pw_or (pt_cmpR op_isNS (pv 4) pe_non (nomark _)) (pw_or1 (pt_cmpR op_le (pv 6) (pv 4) (nomark _))))) (pw_and1 (pt_cmpR op_lt (pe_op op_mulX (pv 1) (pe_callF G_row_value (hr.mono (by decide)) rfl passL (pa_cons (pv 0) (pa_cons (pv 6) pa_nil)))) (pv 2) (nomark _))))) (pss_one (ps_par (i := 5) (j := 6) rfl nd rfl rfl (by decide) rfl rfl (pa_cons (pv 6) (pa_cons (pe_op op_add (pv 6) (pe_op op_mulX pe_int (pe_op op_sub (pv 6) (pv 3)))) pa_nil)) (by rfl))))
      (pss_cons (ps_if (PW.pt (pw_and (pt_cmpR op_notNS (pv 4) pe_non (nomark _)) (pw_and1 (pt_cmpR op_gt (pv 6) (pv 4) (nomark _))))) (pss_one (ps_set (i := 6) nd rfl (.inl rfl) (pe_op op_add (pv 4) pe_int))) pss_nil)
      (pss_cons (ps_while (passes_of rfl) (pt_cmpR op_gt (pe_op op_sub (pv 6) (pv 5)) pe_int (nomark _)) (pss_cons (ps_set (i := 7) nd rfl (.inl rfl) (pe_op op_fdivX (pe_op op_add (pv 5) (pv 6)) pe_int))
      (pss_one (ps_if (pt_cmpR op_ge (pe_op op_mulX (pv 1) (pe_callF G_row_value (hr.mono (by decide)) rfl passL (pa_cons (pv 0) (pa_cons (pv 7) pa_nil)))) (pv 2) (nomark _)) (pss_one (ps_set (i := 6) nd rfl (.inl rfl) (pv 7))) (pss_one (ps_set (i := 5) nd rfl (.inl rfl) (pv 7)))))))
      (pss_one (ps_ret (pv 6)))))))), ?_⟩
    obtain ⟨a, rs, tr, bd, lo, X, hi, rfl, ha, btr, h0, hlX, hhi, sm, hg, hX, q⟩ := h
    have rise : ∀ x y, lo ≤ x → x ≤ y → (∀ h, hi = some h → y ≤ h + 1) → tr * hv rs x + (y - x) ≤ tr * hv rs y := fun x y h1 h2 h3 =>
      rises (g := fun n => tr * hv rs n) (l := lo) (h := y) (fun n g1 g2 => hg n g1 fun h e => by have := h3 h e; omega) h1 h2 (Int.le_refl _)
    have cm : ∀ n, 0 ≤ n → n ≤ 3 * X + 3 → CMulX tr (hv rs n) := fun n h1 h2 => btr.mulX (sm n h1 h2).bits (by omega)
    refine g_st (σ' := [some (.ref a), some (.int tr), some (.int bd), some (.int lo), some (oV hi), none, none, none]) rfl ?_
    walk_at "gos"
    refine ⟨a, rs, lo, rfl, .inr ha, sm lo h0 (by omega), fun H1 e1 => ?_⟩
    walk_at "gos"
    refine g_I (cm lo h0 (by omega)) ?_
    walk_at "gos"
    by_cases c0 : bd ≤ tr * hv rs lo
    · rw [if_pos (decide_eq_true c0)]
      walk_at "gos"
      refine q lo H1 e1 (Int.le_refl _) (by omega) (fun h e => by have := hhi h e; omega) (fun n g1 g2 => absurd g1 (by omega)) fun n g1 g2 => ?_
      have := rise lo n (Int.le_refl _) g1 (fun h e => by have := g2 h e; omega)
      omega
    · rw [if_neg (by rw [decide_eq_true_iff]; exact c0)]
      walk_at "gou"
      with_reducible refine L2.g_seq ?_
      walk_at "gou"
      ((with_reducible change tSeq _ _ _ _ _); refine L2.g_cutS (fun σ' H' => Same H H' ∧ ∃ short far : Int, σ' = [some (.ref a), some (.int tr), some (.int bd), some (.int lo), some (oV hi), some (.int short), some (.int far), none] ∧ lo ≤ short ∧ short < far ∧ far ≤ 3 * X + 3 ∧ (∀ h, hi = some h → short ≤ h) ∧ tr * hv rs short < bd ∧ ((∃ h, hi = some h ∧ h < far) ∨ bd ≤ tr * hv rs far)) (fun nx hnx => ?_) (fun σ' H' hR => ?_))
      · obtain ⟨W, hW⟩ : ∃ W : Nat → L2.St → Hp → Prop, W = fun m σ' H' => Same H H' ∧ ∃ short far : Int, σ' = [some (.ref a), some (.int tr), some (.int bd), some (.int lo), some (oV hi), some (.int short), some (.int far), none] ∧ lo ≤ short ∧ short < far ∧ far ≤ 3 * X + 3 ∧ (∀ h, hi = some h → short ≤ h) ∧ tr * hv rs short < bd ∧ m = (3 * X + 3 - far).toNat := ⟨_, rfl⟩
        refine ⟨W, ⟨_, by rw [hW]; exact ⟨e1, lo, lo + 1, rfl, Int.le_refl _, by omega, by omega, fun h e => (hhi h e).1, by omega, rfl⟩⟩, fun m σ' H' w => ?_⟩
        rw [hW] at w
        obtain ⟨e2, short, far, rfl, s1, s2, s3, s4, s5, s6⟩ := w
        with_reducible refine g_and ?_
        refine g_cutT (fun b H1 => H1 = H' ∧ (b = true ↔ Up hi far)) (fun Q1 hQ => ?_) (fun b H1 hb => ?_)
        · walk_at "gos"
          cases hi with
          | none =>
            refine hQ _ _ ⟨rfl, iff_of_true rfl fun h e => by cases e⟩
          | some h =>
            show if decide (V.int h = V.non) = true then _ else _
            rw [if_neg (by simp)]
            walk_at "gou"
            refine L2.g_I0 (b := h) ?_
            walk_at "gos"
            refine hQ _ _ ⟨rfl, ?_⟩
            rw [decide_eq_true_iff]
            exact ⟨fun g h' e => by cases e; exact g, fun g => g h rfl⟩
        · obtain ⟨rfl, hb⟩ := hb
          cases b with
          | false =>
            walk_at "gos"
            refine hnx _ _ ⟨e2, short, far, rfl, s1, s2, s3, s4, s5, .inl ?_⟩
            cases hi with
            | none => exact absurd (hb.mpr fun h e => by cases e) (by simp)
            | some h => exact ⟨h, rfl, Int.not_le.mp fun z => absurd (hb.mpr fun h' e => by cases e; exact z) (by simp)⟩
          | true =>
            have hup := hb.mp rfl
            walk_at "gos"
            refine ⟨a, rs, far, rfl, .inr (e2.d.tup ha), sm far (by omega) (by omega), fun H2 e3 => ?_⟩
            walk_at "gos"
            refine g_I (cm far (by omega) (by omega)) ?_
            walk_at "gos"
            by_cases c1 : tr * hv rs far < bd
            · rw [if_pos (decide_eq_true c1)]
              have hfX : far ≤ X := by
                cases hi with
                | none => exact Int.not_lt.mp fun z => by have := hX rfl far (by omega); omega
                | some h => have := hup h rfl; have := hhi h rfl; omega
              refine ⟨fun σ' H' => ∃ m', m' < m ∧ W m' σ' H', fun _ _ z => z, ?_⟩
              walk_at "gos"
              refine g_I ((show Bd 2 (2 : Int) by unfold Bd; decide).mulX ((sm (3 * X + 3) (by omega) (by omega)).at_.le (i := far - lo) (by omega)) (by decide)) ?_
              walk_at "gos"
              refine ⟨(3 * X + 3 - (far + 2 * (far - lo))).toNat, by omega, ?_⟩
              rw [hW]
              exact ⟨e2.trans e3, far, far + 2 * (far - lo), rfl, by omega, by omega, by omega, hup, c1, rfl⟩
            · rw [if_neg (by rw [decide_eq_true_iff]; exact c1)]
              exact hnx _ _ ⟨e2.trans e3, short, far, rfl, s1, s2, s3, s4, s5, .inr (by omega)⟩
      · obtain ⟨e2, short, far, rfl, s1, s2, s3, s4, s5, s6⟩ := hR
        walk_at "gou"
        ((with_reducible change tSeq _ _ _ _ _); refine L2.g_cutS (fun σ2 H2 => H2 = H' ∧ ∃ far' : Int, σ2 = [some (.ref a), some (.int tr), some (.int bd), some (.int lo), some (oV hi), some (.int short), some (.int far'), none] ∧ short < far' ∧ far' ≤ 3 * X + 3 ∧ (∀ h, hi = some h → far' ≤ h + 1) ∧ ((∃ h, hi = some h ∧ far' = h + 1) ∨ bd ≤ tr * hv rs far')) (fun nx hnx => ?_) (fun σ2 H2 hR => ?_))
        rotate_left
        · obtain ⟨rfl, far', rfl, t1, t2, t3, t4⟩ := hR
          with_reducible refine L2.g_seq ?_
          obtain ⟨W, hW⟩ : ∃ W : Nat → L2.St → Hp → Prop, W = fun m σ' H' => Same H H' ∧ ∃ (short far : Int) (y : Option V), σ' = [some (.ref a), some (.int tr), some (.int bd), some (.int lo), some (oV hi), some (.int short), some (.int far), y] ∧ lo ≤ short ∧ short < far ∧ far ≤ 3 * X + 3 ∧ (∀ h, hi = some h → far ≤ h + 1) ∧ tr * hv rs short < bd ∧ ((∃ h, hi = some h ∧ far = h + 1) ∨ bd ≤ tr * hv rs far) ∧ m = (far - short).toNat := ⟨_, rfl⟩
          refine ⟨W, ⟨_, by rw [hW]; exact ⟨e2, short, far', none, rfl, s1, t1, t2, t3, s5, t4, rfl⟩⟩, fun m σ' H' w => ?_⟩
          rw [hW] at w
          obtain ⟨e3, short, far, y, rfl, u1, u2, u3, u4, u5, u6, u7⟩ := w
          walk_at "gos"
          by_cases c2 : 1 < far - short
          · rw [if_pos (decide_eq_true c2)]
            refine ⟨fun σ' H' => ∃ m', m' < m ∧ W m' σ' H', fun _ _ z => z, ?_⟩
            walk_at "gos"
            refine g_I ⟨by decide, by decide⟩ ?_
            walk_at "gos"
            obtain ⟨mid, hm⟩ : ∃ mid, mid = (short + far).fdiv 2 := ⟨_, rfl⟩
            have hm2 : short < mid ∧ mid < far := by
              rw [Int.fdiv_eq_ediv_of_nonneg _ (by decide)] at hm
              omega
            rw [← hm]
            refine ⟨a, rs, mid, rfl, .inr (e3.d.tup ha), sm mid (by omega) (by omega), fun H4 e4 => ?_⟩
            walk_at "gos"
            refine g_I (cm mid (by omega) (by omega)) ?_
            walk_at "gos"
            by_cases c3 : bd ≤ tr * hv rs mid
            · rw [if_pos (decide_eq_true c3)]
              walk_at "gos"
              refine ⟨(mid - short).toNat, by omega, ?_⟩
              rw [hW]
              exact ⟨e3.trans e4, short, mid, _, rfl, u1, hm2.1, by omega, fun h e => by have := u4 h e; omega, u5, .inr c3, rfl⟩
            · rw [if_neg (by rw [decide_eq_true_iff]; exact c3)]
              walk_at "gos"
              refine ⟨(far - mid).toNat, by omega, ?_⟩
              rw [hW]
              exact ⟨e3.trans e4, mid, far, _, rfl, by omega, hm2.2, u3, u4, by omega, u6, rfl⟩
          · rw [if_neg (by rw [decide_eq_true_iff]; exact c2)]
            walk_at "gos"
            refine q far H' e3 (by omega) u3 u4 (fun n g1 g2 => ?_) (fun n g1 g2 => ?_)
            · have := rise n short g1 (by omega) (fun h e => by have := u4 h e; omega)
              omega
            · rcases u6 with ⟨h, e, u6⟩ | u6
              · have := g2 h e
                omega
              · have := rise far n (by omega) g1 (fun h e => by have := g2 h e; omega)
                omega
        with_reducible refine g_if ?_
        refine g_cutT (fun b H1 => H1 = H' ∧ (b = true ↔ ∃ h, hi = some h ∧ h < far)) (fun Q1 hQ => ?_) (fun b H1 hb => ?_)
        · walk_at "gos"
          cases hi with
          | none =>
            show if (!decide (V.non = V.non)) = true then _ else _
            rw [if_neg (by simp)]
            refine hQ _ _ ⟨rfl, iff_of_false (by simp) (by simp)⟩
          | some h =>
            show if (!decide (V.int h = V.non)) = true then _ else _
            rw [if_pos (by simp)]
            walk_at "gou"
            refine L2.g_I0 (b := h) ?_
            walk_at "gos"
            refine hQ _ _ ⟨rfl, ?_⟩
            rw [decide_eq_true_iff]
            exact ⟨fun g => ⟨h, rfl, g⟩, fun ⟨h', e, g⟩ => by cases e; exact g⟩
        · obtain ⟨rfl, hb⟩ := hb
          cases b with
          | true =>
            obtain ⟨h, rfl, hf⟩ := hb.mp rfl
            walk_at "gos"
            refine L2.g_I0 (a := h) ?_
            walk_at "gos"
            have h1 := hhi h rfl
            have h2 := s4 h rfl
            exact hnx _ _ ⟨rfl, h + 1, rfl, by omega, by omega, fun h' e => by cases e; exact Int.le_refl _, .inl ⟨h, rfl, rfl⟩⟩
          | false =>
            walk_at "gos"
            have h3 : ¬ ∃ h, hi = some h ∧ h < far := fun z => by have := hb.mpr z; cases this
            refine hnx _ _ ⟨rfl, far, rfl, s2, s3, fun h e => Int.not_lt.mp fun z => h3 ⟨h, e, by omega⟩, .inr (s6.resolve_left h3)⟩
end
end Ev

end
section
open L2 in
local macro_rules | `(tactic| walk_at "gx") => `(tactic| first
  | ((with_reducible show tVar _ _ _ _); refine g_var rfl ?_)
  | with_reducible refine g_c ?_
  | with_reducible refine g_op ?_
  | with_reducible refine g_cons ?_
  | with_reducible refine g_nil ?_
  | with_reducible refine g_test ?_
  | with_reducible refine g_blp ?_
  | with_reducible refine g_asg ?_
  | (with_reducible refine g_name ?_; (try simp only [List.set_cons_zero, List.set_cons_succ]))
  | with_reducible refine g_call ?_
  | with_reducible refine g_cb ?_
  | with_reducible refine g_I0 ?_
  | with_reducible refine g_U ?_
  | with_reducible refine g_eqI ?_
  | with_reducible refine g_neI ?_
  | with_reducible refine g_if ?_
  | with_reducible refine g_ret ?_
  | with_reducible refine g_retN ?_
  | with_reducible refine g_next ?_
  | with_reducible refine g_drop ?_
  | with_reducible refine g_un ?_
  | with_reducible refine g_tb ?_
  | with_reducible refine g_tup ?_
  | with_reducible refine g_lst ?_
  | with_reducible refine g_and ?_
  | with_reducible refine g_or ?_
  | with_reducible refine g_not ?_
  | with_reducible refine g_andV ?_
  | with_reducible refine g_orV ?_
  | with_reducible refine g_notV ?_
  | with_reducible refine g_ifE ?_
  | with_reducible refine g_fld ?_
  | with_reducible refine g_tt ?_
  | with_reducible refine g_ff ?_
  | with_reducible refine g_ntt ?_
  | with_reducible refine g_nff ?_
  | with_reducible refine g_for ?_
  | with_reducible refine g_list ?_
  | with_reducible refine g_tupI ?_
  | with_reducible refine g_rng1 ?_
  | with_reducible refine g_rng2 ?_
  | with_reducible refine g_enumA ?_
  | with_reducible refine g_rev ?_
  | with_reducible refine g_lc ?_
  | with_reducible refine g_gcons ?_
  | with_reducible refine g_gnil ?_
  | with_reducible refine g_yes ?_
  | with_reducible refine g_sl ?_
  | with_reducible refine g_nopart ?_
  | with_reducible refine g_part ?_
  | with_reducible refine g_int ?_
  | with_reducible refine g_dget ?_
  | with_reducible refine g_dput ?_
  | with_reducible refine g_raiseX ?_
  | with_reducible refine g_tru ?_
  | with_reducible refine g_sub ?_
  | with_reducible refine g_isN ?_
  | with_reducible refine g_notN ?_
  | with_reducible refine g_bm ?_
  | with_reducible refine L2.g_bm0 ?_
  | with_reducible refine g_pair ?_
  | with_reducible refine g_pair0 ?_
  | with_reducible refine u_int1 ?_
  | with_reducible refine g_chain ?_
  | with_reducible refine L2.g_sfld ?_
  | (with_reducible refine g_par3 ?_)
  | (with_reducible refine g_three ?_; (try simp only [List.set_cons_zero, List.set_cons_succ]))
  | ((with_reducible apply L2.g_tupT); walk_at "up"; rfl)
  | (with_reducible refine g_par ?_)
  | (with_reducible refine g_two ?_; (try simp only [List.set_cons_zero, List.set_cons_succ]))
  )
local macro_rules | `(tactic| walk_at "go") => `(tactic| first | walk_at "gx" | with_reducible refine L2.g_seq ?_)
local macro_rules | `(tactic| walk_at "gou") => `(tactic| repeat (walk_at "gx"))
local macro_rules | `(tactic| walk_at "gos") => `(tactic| repeat (walk_at "go"))
local macro_rules | `(tactic| walk_at "sl") => `(tactic| first
  | assumption
  | exact L2.Same.l (by assumption)
  | exact L2.SameD.l (by assumption)
  | exact L2.extN_l (by assumption))
local macro_rules | `(tactic| walk_at "up") => `(tactic| first
  | assumption
  | ((with_reducible apply L2.SameL.lst); walk_at "sl"; walk_at "up")
  | ((with_reducible apply L2.SameL.tupA); walk_at "sl"; walk_at "up")
  | ((with_reducible apply L2.SameL.ins); walk_at "sl"; walk_at "up")
  | ((with_reducible apply Ev.PB.l); walk_at "sl"; walk_at "up")
  | ((with_reducible apply Ev.IsP.l); walk_at "sl"; walk_at "up")
  | ((with_reducible apply L2.sqL); walk_at "up")
  | ((with_reducible apply L2.sqT); walk_at "up")
  | ((with_reducible apply L2.SameL.seq); walk_at "sl"; walk_at "up")
  | ((with_reducible apply Ev.Pen.same); assumption; walk_at "up")
  | ((with_reducible apply Ev.Pen.extN); assumption; walk_at "up")
  | ((with_reducible apply L2.tabs_s); assumption; walk_at "up")
  | ((with_reducible apply L2.tabs_dd); assumption; walk_at "up")
  | ((with_reducible apply Or.inl); walk_at "up")
  | ((with_reducible apply Or.inr); walk_at "up"))
local macro_rules | `(tactic| walk_at "new") => `(tactic| (
  first
    | refine ⟨L2.size_ok (by rfl), fun p hp => ?_⟩
    | refine fun p hp => ?_
  generalize hX : L2.upd _ p _ = H1
  obtain ⟨e, h⟩ := L2.news hp hX
  clear hX))
local macro_rules | `(tactic| walk_at "o") => `(tactic| first
  | ((with_reducible apply Ev.o_add); walk_at "up"; walk_at "up"; rfl; rfl; rfl)
  | ((with_reducible apply Ev.o_sub); walk_at "up"; walk_at "up"; rfl; rfl; rfl)
  | ((with_reducible apply Ev.o_mul); walk_at "up"; walk_at "up"; rfl; rfl; rfl)
  | ((with_reducible apply Ev.o_addI); walk_at "up"; assumption; rfl; rfl; rfl)
  | ((with_reducible apply Ev.o_subI); walk_at "up"; assumption; rfl; rfl; rfl)
  | ((with_reducible apply Ev.o_mulI); walk_at "up"; assumption; rfl; rfl; rfl)
  | ((with_reducible apply Ev.o_radd); walk_at "up"; assumption; rfl; rfl; rfl)
  | ((with_reducible apply Ev.o_rsub); walk_at "up"; assumption; rfl; rfl; rfl)
  | ((with_reducible apply Ev.o_rmul); walk_at "up"; assumption; rfl; rfl; rfl)
  | ((with_reducible apply Ev.o_neg); walk_at "up"; rfl; rfl; rfl))
local macro_rules | `(tactic| walk_at "eq") => `(tactic| ((with_reducible apply Ev.u_ownB); assumption; walk_at "up"; walk_at "up"; (focus (intro k; first | rfl | exact Pl.e_add | exact Pl.e_sub | exact Pl.e_mul | exact Pl.e_rsub | exact Pl.e_rsub2))))
local macro_rules | `(tactic| walk_at "isp") => `(tactic| (apply Ev.u_isB; walk_at "up"; walk_at "up"; rfl; rfl))

/-! trend_signs, joined. -/
namespace Ev
open PySem PySem.Spec PyProof.Rows L2 Pl
/-- a tuple (low, high or None, sign) -/
def TriV (K : PySem.W.Frag) (H : Hp) (v : V) (t : Tri) : Prop := ∃ a, v = .ref a ∧ SqT K H a [.int t.1, oV t.2.1, .int t.2.2]
def Trs (K : PySem.W.Frag) (H : Hp) : List V → List Tri → Prop
  | [], [] => True
  | v :: vs, t :: T => TriV K H v t ∧ Trs K H vs T
  | _, _ => False
/-- a list of such tuples -/
def TrL (K : PySem.W.Frag) (H : Hp) (l : Addr) (T : List Tri) : Prop := ∃ vs, H l = some (.lst vs) ∧ Trs K H vs T
section
variable {K : PySem.W.Frag} {H H' : Hp}
theorem TriV.d (e : SameD H H') {v : V} {t : Tri} : TriV K H v t → TriV K H' v t := fun ⟨a, h1, h2⟩ => ⟨a, h1, e.tup h2⟩
theorem Trs.d (e : SameD H H') : ∀ {vs : List V} {T : List Tri}, Trs K H vs T → Trs K H' vs T
  | [], [], _ => trivial
  | _ :: _, _ :: _, h => ⟨h.1.d e, Trs.d e h.2⟩
theorem TrL.d (e : SameD H H') {l : Addr} {T : List Tri} : TrL K H l T → TrL K H' l T := fun ⟨vs, h1, h2⟩ => ⟨vs, e.lst h1, h2.d e⟩
theorem SqT.mut {D : Addr} {us xs : List V} {o : HO} {a : Addr} (hD : H D = some (.lst us)) (h : SqT K H a xs) : SqT K (upd H D o) a xs := by
  rcases h with (h | ⟨p, h⟩) | h
  · exact .inl (.inl (by rw [upd_ne (fun z => by rw [z, hD] at h; cases h)]; exact h))
  · exact .inl (.inr ⟨p, by rw [upd_ne (fun z => by rw [z, hD] at h; cases h)]; exact h⟩)
  · exact .inr h
theorem Trs.mut {D : Addr} {us : List V} {o : HO} (hD : H D = some (.lst us)) : ∀ {vs : List V} {T : List Tri}, Trs K H vs T → Trs K (upd H D o) vs T
  | [], [], _ => trivial
  | _ :: _, _ :: _, h => ⟨let ⟨a, h1, h2⟩ := h.1; ⟨a, h1, SqT.mut hD h2⟩, Trs.mut hD h.2⟩
theorem Trs.len : ∀ {vs : List V} {T : List Tri}, Trs K H vs T → vs.length = T.length
  | [], [], _ => rfl
  | _ :: _, _ :: _, h => by rw [List.length_cons, List.length_cons, Trs.len h.2]
theorem Trs.app : ∀ {vs us : List V} {T S : List Tri}, Trs K H vs T → Trs K H us S → Trs K H (vs ++ us) (T ++ S)
  | [], _, [], _, _, h => h
  | _ :: _, _, _ :: _, _, h1, h2 => ⟨h1.1, Trs.app h1.2 h2⟩
theorem Trs.at_ : ∀ {vs : List V} {T : List Tri} {i : Nat} {v : V}, Trs K H vs T → vs[i]? = some v → ∃ t, T[i]? = some t ∧ TriV K H v t
  | [], [], _, _, _, h => by cases h
  | _ :: _, t :: _, 0, _, h, hv => by cases hv; exact ⟨t, rfl, h.1⟩
  | _ :: _, _ :: _, i + 1, _, h, hv => by
    obtain ⟨t, h1, h2⟩ := Trs.at_ (i := i) h.2 hv
    exact ⟨t, h1, h2⟩
theorem Trs.init : ∀ {vs : List V} {T : List Tri}, Trs K H vs T → Trs K H vs.dropLast T.dropLast
  | [], [], _ => trivial
  | [_], [_], _ => trivial
  | _ :: _ :: _, _ :: _ :: _, h => ⟨h.1, Trs.init h.2⟩
  | [_], _ :: _ :: _, h => nomatch h.2
  | _ :: _ :: _, [_], h => nomatch h.2
theorem g_sign {tb ta : TS} {D : Ends} {σ : L2.St} {p : Prop} [Decidable p] (h1 : p → tb D σ H) (h2 : ¬ p → ta D σ H) : if decide p = true then tb D σ H else ta D σ H := by
  by_cases h : p
  · rw [if_pos (decide_eq_true h)]; exact h1 h
  · rw [if_neg (by rw [decide_eq_true_iff]; exact h)]; exact h2 h
end
section
variable {P : Program} {w : World} {K : PySem.W.Frag} {mg : Str → Option Value} {base : Heap}
def spTrend (K : PySem.W.Frag) : Sp := fun vs H Q _ => ∃ (a : Addr) (rs : List Int) (tr lo X : Int) (hi : Option Int), vs = [.ref a, .int lo, oV hi, .int tr] ∧ SqT K H a (rs.map V.int) ∧ (tr = 0 ∨ tr = 1 ∨ tr = -1) ∧ 0 ≤ lo ∧ lo ≤ X ∧ (∀ h, hi = some h → lo ≤ h ∧ h ≤ X) ∧
  (∀ n, 0 ≤ n → n ≤ 3 * X + 3 → Sm rs n) ∧ (∀ n, lo ≤ n → Up hi n → (hv rs (n + 1) - hv rs n).sign = tr) ∧ (∀ n, X ≤ n → (hv rs n).sign = (hv rs X).sign) ∧
  ∀ l H' T, Same H H' → TrL K H' l T → T.length ≤ 3 → WL (fun n => (hv rs n).sign) lo T (hi.map (· + 1)) → Q (.ref l) H'
theorem sc_trend_signs : FnScope ["row", "low", "high", "trend", "zero", "above", "found", "part"] ["row", "low", "high", "trend"] (defScope (topS 28)) := ⟨rfl, rfl, rfl, by decide +kernel, rfl, by decide +kernel, by decide +kernel⟩
theorem ok_trend_signs (B : Bn mg) (G_sign_of : CallF P w K mg base "sign_of" ["value"] 1 spSign) (G_row_value : CallF P w K mg base "row_value" ["row", "n"] 1 (spValue K)) (G_first_from : CallF P w K mg base "first_from" ["row", "trend", "bound", "low", "high"] 2 (spFirstG K)) {f : Addr} {fd : FuncData} (F : Fun K "trend_signs" "trend_signs" (topS 28) f fd) : FnOk P w K mg base (L2.CX P w) 3 f fd ["row", "low", "high", "trend"] (spTrend K) := by
  have nd := sc_trend_signs.nd
  refine F.okX sc_trend_signs (fun vs H Q E h => ?_) (fun cdv A outer s H vs Q E hr h => ?_)
  · obtain ⟨a, rs, tr, lo, X, hi, rfl, _⟩ := h
    rfl
  · refine ⟨_, (pss_cons (ps_if (pt_cmpR op_eq (pv 3) pe_int (nomark _)) (pss_one (ps_ret (pe_lst (pa_cons (pe_tup (pa_cons (pv 1) (pa_cons (pv 2) (pa_cons (pe_callF G_sign_of (hr.mono (by decide)) rfl passL (pa_cons (pe_callF G_row_value (hr.mono (by decide)) rfl passL (pa_cons (pv 0) (pa_cons (pv 1) pa_nil))) pa_nil)) pa_nil)))) pa_nil)))) pss_nil)
      (pss_cons (ps_set (i := 4) nd rfl (.inl rfl) (pe_callF G_first_from (hr.mono (by decide)) rfl passL (pa_cons (pv 0) (pa_cons (pv 3) (pa_cons pe_int (pa_cons (pv 1) (pa_cons (pv 2) pa_nil)))))))
      (pss_cons (ps_set (i := 5) nd rfl (.inl rfl) (pe_callF G_first_from (hr.mono (by decide)) rfl passL (pa_cons (pv 0) (pa_cons (pv 3) (pa_cons pe_int (pa_cons (pv 1) (pa_cons (pv 2) pa_nil)))))))
      (pss_cons (ps_set (i := 6) nd rfl (.inl rfl) (pe_lst (pa_cons (pe_tup (pa_cons (pv 1) (pa_cons (pe_op op_sub (pv 4) pe_int) (pa_cons (pe_un un_neg (pv 3)) pa_nil)))) (pa_cons (pe_tup (pa_cons (pv 4) (pa_cons (pe_op op_sub (pv 5) pe_int) (pa_cons pe_int pa_nil)))) (pa_cons (pe_tup (pa_cons (pv 5) (pa_cons (pv 2) (pa_cons (pv 3) pa_nil)))) pa_nil)))))
      (pss_one (ps_ret (pe_lc (own := [("part", 7)]) (g := gName 7) rfl nd (pi_listK (K := K) rfl (pv 6)) (blkOk_by (N := ["row", "low", "high", "trend", "zero", "above", "found", "part"]) (sc := defScope (topS 28)) (by decide +kernel)) (fun _ _ _ _ _ => (pg_name (i := 7) nd rfl (.inl rfl))) (fun _ _ _ _ _ => (pts_one (PW.pt (pw_or (pt_cmpR op_isNS (pe_ix (ix_tupK (K := K) rfl) (pv 7) pe_int (fun _ _ => rfl)) pe_non (nomark _)) (pw_or1 (pt_cmpR op_le (pe_ix (ix_tupK (K := K) rfl) (pv 7) pe_int (fun _ _ => rfl)) (pe_ix (ix_tupK (K := K) rfl) (pv 7) pe_int (fun _ _ => rfl)) (nomark _))))))) (fun _ _ _ _ _ => (pv 7))))))))), ?_⟩
    obtain ⟨a, rs, tr, lo, X, hi, rfl, ha, ht, h0, hlX, hhi, sm, hg, hX, q⟩ := h
    refine g_st (σ' := [some (.ref a), some (.int lo), some (oV hi), some (.int tr), none, none, none, none]) rfl ?_
    walk_at "gos"
    by_cases c0 : tr = 0
    · subst c0
      rw [if_pos (decide_eq_true rfl)]
      walk_at "gos"
      refine ⟨a, rs, lo, rfl, .inr ha, sm lo h0 (by omega), fun H1 e1 => ?_⟩
      walk_at "gos"
      refine ⟨_, rfl, ?_⟩
      walk_at "gos"
      (walk_at "new"; rename_i t2 _ H2 e2 h2; walk_at "gos")
      (walk_at "new"; rename_i l3 _ H3 e3 h3; walk_at "gos")
      refine q l3 H3 [(lo, hi, (hv rs lo).sign)] (e1.trans (e2.trans e3)) ⟨_, h3, ⟨t2, rfl, sqT (e3 _ _ h2)⟩, trivial⟩ (by simp) ?_
      have fl := trend_flat (φ := hv rs) (lo := lo) (hi := hi) hg
      cases hi with
      | none => exact ⟨rfl, rfl, rfl, fun n hn => by dsimp only; rw [fl n hn fun h e => by cases e]⟩
      | some h => exact ⟨rfl, (hhi h rfl).1, fun n h1 h2 => by dsimp only; rw [fl n h1 fun h' e => by cases e; omega], rfl⟩
    · have ht' : tr = 1 ∨ tr = -1 := ht.resolve_left c0
      have btr : Bd 1 tr := by rcases ht' with rfl | rfl <;> (unfold Bd; decide)
      have rise : ∀ n, lo ≤ n → Up hi n → tr * hv rs n < tr * hv rs (n + 1) := fun n g1 g2 => trend_rise ht' (hg n g1 g2)
      have hend : hi = none → ∀ n, X ≤ n → 1 ≤ tr * hv rs n := fun e => trend_end ht' (fun n hn => rise n hn fun h e' => by rw [e] at e'; cases e') hlX hX
      rw [if_neg (by rw [decide_eq_true_iff]; exact c0)]
      walk_at "gos"
      refine ⟨a, rs, tr, 0, lo, X, hi, rfl, ha, btr, h0, hlX, hhi, sm, rise, fun e n hn => by have := hend e n hn; omega, fun zero H1 e1 z1 _ z2 z3 z4 => ?_⟩
      walk_at "gos"
      refine ⟨a, rs, tr, 1, lo, X, hi, rfl, e1.d.tup ha, btr, h0, hlX, hhi, sm, rise, hend, fun above H2 e2 a1 _ a2 a3 a4 => ?_⟩
      walk_at "gos"
      (walk_at "new"; rename_i p3 _ H3 e3 h3; walk_at "gos")
      (walk_at "new"; rename_i p4 _ H4 e4 h4; walk_at "gos")
      (walk_at "new"; rename_i p5 _ H5 e5 h5; walk_at "gos")
      (walk_at "new"; rename_i l6 _ H6 e6 h6; walk_at "gos")
      refine u_it (sqL h6) ?_
      obtain ⟨T, hT⟩ : ∃ T : List Tri, T = [(lo, some (zero - 1), -tr), (zero, some (above - 1), 0), (above, hi, tr)] := ⟨_, rfl⟩
      have hTr : Trs K H6 [V.ref p3, V.ref p4, V.ref p5] T := by
        rw [hT]
        exact ⟨⟨p3, rfl, sqT ((e4.trans (e5.trans e6)) _ _ h3)⟩, ⟨p4, rfl, sqT ((e5.trans e6) _ _ h4)⟩, ⟨p5, rfl, sqT (e6 _ _ h5)⟩, trivial⟩
      intro D hD
      refine lc_it walk_list (fun i H' => Same H6 H' ∧ ∃ us, H' D = some (.lst us) ∧ us.length ≤ i ∧ Trs K H' us ((T.take i).filter keepT)) ?_ (fun i _ H' p => p.1.seq (sqL h6)) (fun i x H7 H8 hi' p y => ?_) (fun H7 p => ?_)
      · exact ⟨same_new hD, [], upd_same, Nat.le_refl _, trivial⟩
      · obtain ⟨e7, us, hus, hul, hus2⟩ := p
        obtain ⟨rfl, hy⟩ := y
        obtain ⟨t, ht1, a7, rfl, ht2⟩ := (hTr.d e7.d).at_ hy
        have htk : (T.take (i + 1)).filter keepT = (T.take i).filter keepT ++ (if keepT t then [t] else []) := by
          rw [List.take_add_one, ht1, List.filter_append]
          show _ ++ List.filter keepT [t] = _
          rw [List.filter_cons, List.filter_nil]
        walk_at "gos"
        refine ⟨by trivial, ?_⟩
        have hi3 : i < 3 := hi'
        obtain ⟨tl, th, ts⟩ := t
        refine g_cutT (fun b H1 => H1 = H8 ∧ b = keepT (tl, th, ts)) (fun Q1 hQ => ?_) (fun b H1 hb => ?_)
        · walk_at "gos"
          refine u_ixT ht2 rfl ?_
          walk_at "gos"
          cases th with
          | none =>
            exact hQ _ _ ⟨rfl, rfl⟩
          | some h =>
            show if decide (V.int h = V.non) = true then _ else _
            rw [if_neg (by simp)]
            walk_at "gos"
            refine u_ixT ht2 (v := .int tl) rfl ?_
            walk_at "gos"
            refine u_ixT ht2 (v := .int h) rfl ?_
            walk_at "gos"
            exact hQ _ _ ⟨rfl, rfl⟩
        · obtain ⟨rfl, rfl⟩ := hb
          cases hk : keepT (tl, th, ts) with
          | true =>
            rw [hk, if_pos rfl] at htk
            walk_at "gos"
            refine ⟨us, hus, by rw [sizeLine_eq]; omega, e7.mut hD, us ++ [.ref a7], upd_same, by simp; omega, ?_⟩
            rw [htk]
            exact (hus2.app (us := [.ref a7]) (S := [(tl, th, ts)]) ⟨⟨a7, rfl, ht2⟩, trivial⟩).mut hus
          | false =>
            rw [hk, if_neg (by simp), List.append_nil] at htk
            walk_at "gos"
            exact ⟨e7, us, hus, by omega, by rw [htk]; exact hus2⟩
      · obtain ⟨e7, us, hus, hul, hus2⟩ := p
        walk_at "gos"
        refine q D H7 (T.filter keepT) (e1.trans (e2.trans (e3.trans (e4.trans (e5.trans (e6.trans e7)))))) ⟨us, hus, ?_⟩ ?_ ?_
        · rw [List.take_of_length_le (by rw [hT]; simp)] at hus2
          exact hus2
        · exact Nat.le_trans (List.length_filter_le _ _) (by rw [hT]; simp)
        · rw [hT]
          exact trend_ok ht' (fun h e => (hhi h e).1) z1 z2 z3 z4 a1 a2 a3 a4
end
end Ev

end
section
open L2 in
local macro_rules | `(tactic| walk_at "gx") => `(tactic| first
  | ((with_reducible show tVar _ _ _ _); refine g_var rfl ?_)
  | with_reducible refine g_c ?_
  | with_reducible refine g_op ?_
  | with_reducible refine g_cons ?_
  | with_reducible refine g_nil ?_
  | with_reducible refine g_test ?_
  | with_reducible refine g_blp ?_
  | with_reducible refine g_asg ?_
  | (with_reducible refine g_name ?_; (try simp only [List.set_cons_zero, List.set_cons_succ]))
  | with_reducible refine g_call ?_
  | with_reducible refine g_cb ?_
  | with_reducible refine g_I0 ?_
  | with_reducible refine g_U ?_
  | with_reducible refine g_eqI ?_
  | with_reducible refine g_neI ?_
  | with_reducible refine g_if ?_
  | with_reducible refine g_ret ?_
  | with_reducible refine g_retN ?_
  | with_reducible refine g_next ?_
  | with_reducible refine g_drop ?_
  | with_reducible refine g_un ?_
  | with_reducible refine g_tb ?_
  | with_reducible refine g_tup ?_
  | with_reducible refine g_lst ?_
  | with_reducible refine g_and ?_
  | with_reducible refine g_or ?_
  | with_reducible refine g_not ?_
  | with_reducible refine g_andV ?_
  | with_reducible refine g_orV ?_
  | with_reducible refine g_notV ?_
  | with_reducible refine g_ifE ?_
  | with_reducible refine g_fld ?_
  | with_reducible refine g_tt ?_
  | with_reducible refine g_ff ?_
  | with_reducible refine g_ntt ?_
  | with_reducible refine g_nff ?_
  | with_reducible refine g_for ?_
  | with_reducible refine g_list ?_
  | with_reducible refine g_tupI ?_
  | with_reducible refine g_rng1 ?_
  | with_reducible refine g_rng2 ?_
  | with_reducible refine g_enumA ?_
  | with_reducible refine g_rev ?_
  | with_reducible refine g_lc ?_
  | with_reducible refine g_gcons ?_
  | with_reducible refine g_gnil ?_
  | with_reducible refine g_yes ?_
  | with_reducible refine g_sl ?_
  | with_reducible refine g_nopart ?_
  | with_reducible refine g_part ?_
  | with_reducible refine g_int ?_
  | with_reducible refine g_dget ?_
  | with_reducible refine g_dput ?_
  | with_reducible refine g_raiseX ?_
  | with_reducible refine g_tru ?_
  | with_reducible refine g_sub ?_
  | with_reducible refine g_isN ?_
  | with_reducible refine g_notN ?_
  | with_reducible refine g_bm ?_
  | with_reducible refine L2.g_bm0 ?_
  | with_reducible refine g_pair ?_
  | with_reducible refine g_pair0 ?_
  | with_reducible refine u_int1 ?_
  | with_reducible refine g_chain ?_
  | with_reducible refine L2.g_sfld ?_
  | (with_reducible refine g_par3 ?_)
  | (with_reducible refine g_three ?_; (try simp only [List.set_cons_zero, List.set_cons_succ]))
  | ((with_reducible apply L2.g_tupT); walk_at "up"; rfl)
  | (with_reducible refine g_par ?_)
  | (with_reducible refine g_two ?_; (try simp only [List.set_cons_zero, List.set_cons_succ]))
  )
local macro_rules | `(tactic| walk_at "go") => `(tactic| first | walk_at "gx" | with_reducible refine L2.g_seq ?_)
local macro_rules | `(tactic| walk_at "gou") => `(tactic| repeat (walk_at "gx"))
local macro_rules | `(tactic| walk_at "gos") => `(tactic| repeat (walk_at "go"))
local macro_rules | `(tactic| walk_at "sl") => `(tactic| first
  | assumption
  | exact L2.Same.l (by assumption)
  | exact L2.SameD.l (by assumption)
  | exact L2.extN_l (by assumption))
local macro_rules | `(tactic| walk_at "up") => `(tactic| first
  | assumption
  | ((with_reducible apply L2.SameL.lst); walk_at "sl"; walk_at "up")
  | ((with_reducible apply L2.SameL.tupA); walk_at "sl"; walk_at "up")
  | ((with_reducible apply L2.SameL.ins); walk_at "sl"; walk_at "up")
  | ((with_reducible apply Ev.PB.l); walk_at "sl"; walk_at "up")
  | ((with_reducible apply Ev.IsP.l); walk_at "sl"; walk_at "up")
  | ((with_reducible apply L2.sqL); walk_at "up")
  | ((with_reducible apply L2.sqT); walk_at "up")
  | ((with_reducible apply L2.SameL.seq); walk_at "sl"; walk_at "up")
  | ((with_reducible apply Ev.Pen.same); assumption; walk_at "up")
  | ((with_reducible apply Ev.Pen.extN); assumption; walk_at "up")
  | ((with_reducible apply L2.tabs_s); assumption; walk_at "up")
  | ((with_reducible apply L2.tabs_dd); assumption; walk_at "up")
  | ((with_reducible apply Or.inl); walk_at "up")
  | ((with_reducible apply Or.inr); walk_at "up"))
local macro_rules | `(tactic| walk_at "new") => `(tactic| (
  first
    | refine ⟨L2.size_ok (by rfl), fun p hp => ?_⟩
    | refine fun p hp => ?_
  generalize hX : L2.upd _ p _ = H1
  obtain ⟨e, h⟩ := L2.news hp hX
  clear hX))
local macro_rules | `(tactic| walk_at "o") => `(tactic| first
  | ((with_reducible apply Ev.o_add); walk_at "up"; walk_at "up"; rfl; rfl; rfl)
  | ((with_reducible apply Ev.o_sub); walk_at "up"; walk_at "up"; rfl; rfl; rfl)
  | ((with_reducible apply Ev.o_mul); walk_at "up"; walk_at "up"; rfl; rfl; rfl)
  | ((with_reducible apply Ev.o_addI); walk_at "up"; assumption; rfl; rfl; rfl)
  | ((with_reducible apply Ev.o_subI); walk_at "up"; assumption; rfl; rfl; rfl)
  | ((with_reducible apply Ev.o_mulI); walk_at "up"; assumption; rfl; rfl; rfl)
  | ((with_reducible apply Ev.o_radd); walk_at "up"; assumption; rfl; rfl; rfl)
  | ((with_reducible apply Ev.o_rsub); walk_at "up"; assumption; rfl; rfl; rfl)
  | ((with_reducible apply Ev.o_rmul); walk_at "up"; assumption; rfl; rfl; rfl)
  | ((with_reducible apply Ev.o_neg); walk_at "up"; rfl; rfl; rfl))
local macro_rules | `(tactic| walk_at "eq") => `(tactic| ((with_reducible apply Ev.u_ownB); assumption; walk_at "up"; walk_at "up"; (focus (intro k; first | rfl | exact Pl.e_add | exact Pl.e_sub | exact Pl.e_mul | exact Pl.e_rsub | exact Pl.e_rsub2))))
local macro_rules | `(tactic| walk_at "isp") => `(tactic| (apply Ev.u_isB; walk_at "up"; walk_at "up"; rfl; rfl))

/-! Lists of triples as data; joined. -/
namespace Ev
open PySem PySem.Spec PyProof.Rows L2 Pl
def optD : Option Int → PyData
  | none => .none
  | some h => .int h
def triD (t : Tri) : PyData := .tuple [.int t.1, optD t.2.1, .int t.2.2]
section
variable {K : PySem.W.Frag} {H H' : Hp}
theorem dp_oV (o : Option Int) : Dp K H (oV o) (optD o) := by cases o with | none => exact .non | some h => exact .int h
theorem Trs.dp : ∀ {vs : List V} {T : List Tri}, Trs K H vs T → DpAll K H vs (T.map triD)
  | [], [], _ => .nil
  | _ :: _, t :: _, h => by
    obtain ⟨⟨a, rfl, h1⟩, h2⟩ := h
    exact .cons (.tup h1 (.cons (.int _) (.cons (dp_oV _) (.cons (.int _) .nil)))) (Trs.dp h2)
theorem tri_lay : ∀ T : List Tri, PyData.canLayAll0 (T.map triD) = true ∧ PyData.depthAll (T.map triD) ≤ 1
  | [] => ⟨rfl, Nat.zero_le _⟩
  | t :: T => by
    obtain ⟨h1, h2⟩ := tri_lay T
    obtain ⟨a, o, s⟩ := t
    refine ⟨?_, ?_⟩
    · show (PyData.canLay0 (triD (a, o, s)) && PyData.canLayAll0 (T.map triD)) = true
      rw [h1, Bool.and_true]
      cases o <;> rfl
    · show max (PyData.depth (triD (a, o, s))) (PyData.depthAll (T.map triD)) ≤ 1
      have : PyData.depth (triD (a, o, s)) = 1 := by cases o <;> rfl
      omega
theorem tri_shaped (T : List Tri) : SeqAt.shaped (.list (T.map triD)) = true := by
  obtain ⟨h1, h2⟩ := tri_lay T
  unfold SeqAt.shaped
  rw [Bool.and_eq_true]
  refine ⟨h1, decide_eq_true ?_⟩
  show PyData.depthAll (T.map triD) + 1 ≤ 64
  omega
theorem eqv_opt (o p : Option Int) : PyData.eqv (optD o) (optD p) = decide (o = p) := by
  cases o <;> cases p <;> first | rfl | (simp [optD, PyData.eqv]; done) | (simp [optD, PyData.eqv]; rfl)
theorem eqv_tri (t u : Tri) : PyData.eqv (triD t) (triD u) = decide (t = u) := by
  obtain ⟨a, o, s⟩ := t
  obtain ⟨b, p, r⟩ := u
  simp only [triD, PyData.eqv, PyData.eqvAll, eqv_opt, Bool.and_true]
  by_cases h1 : a = b <;> by_cases h2 : o = p <;> by_cases h3 : s = r <;> simp [h1, h2, h3]
theorem eqv_tris : ∀ T S : List Tri, PyData.eqvAll (T.map triD) (S.map triD) = decide (T = S)
  | [], [] => by simp [PyData.eqvAll]
  | [], _ :: _ => by simp [PyData.eqvAll]
  | _ :: _, [] => by simp [PyData.eqvAll]
  | t :: T, u :: S => by
    simp only [List.map_cons, PyData.eqvAll, eqv_tri, eqv_tris T S]
    by_cases h : t = u <;> by_cases h' : T = S <;> simp [h, h']
theorem u_neTr {a b : Addr} {T S : List Tri} {Q : VK} (h1 : TrL K H a T) (h2 : TrL K H b S) (q : Q (.bl (!decide (T = S))) H) : rNeD K (.ref a) (.ref b) H Q := by
  obtain ⟨vs, h1, h3⟩ := h1
  obtain ⟨us, h2, h4⟩ := h2
  refine ⟨_, _, .lst (sqL h1) h3.dp, .lst (sqL h2) h4.dp, tri_shaped _, tri_shaped _, ?_⟩
  show Q (.bl (!PyData.eqv (.list (T.map triD)) (.list (S.map triD)))) H
  rw [PyData.eqv, eqv_tris]
  exact q
theorem u_eqTr {a b : Addr} {T S : List Tri} {Q : VK} (h1 : TrL K H a T) (h2 : TrL K H b S) (q : Q (.bl (decide (T = S))) H) : rEqD K (.ref a) (.ref b) H Q := by
  obtain ⟨vs, h1, h3⟩ := h1
  obtain ⟨us, h2, h4⟩ := h2
  refine ⟨_, _, .lst (sqL h1) h3.dp, .lst (sqL h2) h4.dp, tri_shaped _, tri_shaped _, ?_⟩
  show Q (.bl (PyData.eqv (.list (T.map triD)) (.list (S.map triD)))) H
  rw [PyData.eqv, eqv_tris]
  exact q
theorem Trs.snoc {q : Tri} (F0 : List Tri) : ∀ (us : List V), Trs K H us (F0 ++ [q]) → ∃ us0 v, us = us0 ++ [v] ∧ Trs K H us0 F0 ∧ TriV K H v q := by
  induction F0 with
  | nil =>
    intro us h
    cases us with
    | nil => exact h.elim
    | cons v us =>
      cases us with
      | nil => exact ⟨[], v, rfl, trivial, h.1⟩
      | cons _ _ => exact h.2.elim
  | cons t F0 ih =>
    intro us h
    cases us with
    | nil => exact h.elim
    | cons v us =>
      obtain ⟨us0, v', h1, h2, h3⟩ := ih us h.2
      exact ⟨v :: us0, v', by rw [h1]; rfl, ⟨h.1, h2⟩, h3⟩
theorem trL_nil {a : Addr} (h : H a = some (.lst [])) : TrL K H a [] := ⟨[], h, trivial⟩
end
section
variable {P : Program} {w : World} {K : PySem.W.Frag} {mg : Str → Option Value} {base : Heap}
def spJoin (K : PySem.W.Frag) : Sp := fun vs H Q _ => ∃ (a : Addr) (T : List Tri), vs = [.ref a] ∧ TrL K H a T ∧ T.length ≤ 600000 ∧ ∀ l H', Same H H' → TrL K H' l (T.foldl jstep []) → Q (.ref l) H'
theorem take_foldl {T : List Tri} {i : Nat} {t : Tri} (h : T[i]? = some t) : (T.take (i + 1)).foldl jstep [] = jstep ((T.take i).foldl jstep []) t := by
  rw [List.take_add_one, h, List.foldl_append]
  rfl
theorem jstep_len (F : List Tri) (p : Tri) : (jstep F p).length ≤ F.length + 1 := by
  unfold jstep
  cases h : F.getLast? with
  | none => simp
  | some q =>
    dsimp only
    split
    · simp <;> omega
    · simp
theorem fold_len : ∀ (T F : List Tri), (T.foldl jstep F).length ≤ F.length + T.length
  | [], F => by simp
  | p :: T, F => by
    have h1 := fold_len T (jstep F p)
    have h2 := jstep_len F p
    rw [List.foldl_cons, List.length_cons]
    omega
theorem sc_joined : FnScope ["parts", "found", "low", "high", "sign"] ["parts"] (defScope (topS 29)) := ⟨rfl, rfl, rfl, by decide +kernel, rfl, by decide +kernel, by decide +kernel⟩
theorem ok_joined (B : Bn mg) {f : Addr} {fd : FuncData} (F : Fun K "joined" "joined" (topS 29) f fd) : FnOk P w K mg base (L2.CX P w) 1 f fd ["parts"] (spJoin K) := by
  have nd := sc_joined.nd
  refine F.okX sc_joined (fun vs H Q E h => ?_) (fun cdv A outer s H vs Q E hr h => ?_)
  · obtain ⟨a, T, rfl, _⟩ := h
    rfl
  · refine ⟨_, (pss_cons (ps_set (i := 1) nd rfl (.inl rfl) (pe_lst pa_nil))
      (pss_cons (ps_for (passes_of rfl) rfl (pi_listK (K := K) rfl (pv 0)) (pg_tupK (K := K) (n := 3) rfl rfl (pgs_cons (pg_name (i := 2) nd rfl (.inl rfl)) (pgs_cons (pg_name (i := 3) nd rfl (.inl rfl)) (pgs_cons (pg_name (i := 4) nd rfl (.inl rfl)) pgs_nil)))) (pss_cons (ps_if (PW.pt (pw_and (pt_cmpR (op_neDK (K := K) rfl hr.units) (pv 1) (pe_lst pa_nil) (nomark _)) (pw_and1 (pt_cmpR op_eq (pe_ix (ix_tupK (K := K) rfl) (pe_ix (ix_listK (K := K) rfl) (pv 1) (pe_un un_neg pe_int) (fun _ _ => rfl)) pe_int (fun _ _ => rfl)) (pv 4) (nomark _))))) (pss_one (ps_set (i := 2) nd rfl (.inl rfl) (pe_ix (ix_tupK (K := K) rfl) (pe_bm0 PySem.F.plainAttrs_list PySem.F.slot_list_pop PySem.F.type_list_pop mt_pop (pv 1)) pe_int (fun _ _ => rfl)))) pss_nil)
      (pss_one (ps_expr (pe_bm PySem.F.plainAttrs_list PySem.F.slot_list_append PySem.F.type_list_append mt_append (pv 1) (pa_cons (pe_tup (pa_cons (pv 2) (pa_cons (pv 3) (pa_cons (pv 4) pa_nil)))) pa_nil))))))
      (pss_one (ps_ret (pv 1))))), ?_⟩
    obtain ⟨a, T, rfl, hT, hl, q⟩ := h
    refine g_st (σ' := [some (.ref a), none, none, none, none]) rfl ?_
    walk_at "gos"
    (walk_at "new"; rename_i l hl0 H1 e1 h1; walk_at "gos")
    obtain ⟨vs, hvs, hTr⟩ := hT
    have hln := hTr.len
    refine u_it (sqL (e1 _ _ hvs)) ?_
    refine for_it walk_list (fun i σ' H' => Same H H' ∧ TrL K H' l ((T.take i).foldl jstep []) ∧ ∃ y1 y2 y3, σ' = [some (.ref a), some (.ref l), y1, y2, y3]) ?_ (fun i _ H' _ p => sqL (p.1 _ _ hvs)) (fun i y σ' H' H4 hi p yy => ?_) (fun σ' H' p => ?_)
    · exact ⟨e1, trL_nil h1, none, none, none, rfl⟩
    · obtain ⟨e2, ⟨us, hus, hTu⟩, y1, y2, y3, rfl⟩ := p
      obtain ⟨rfl, hy⟩ := yy
      obtain ⟨t, ht1, a7, rfl, ht2⟩ := (hTr.d e2.d).at_ hy
      rw [take_foldl ht1]
      have hFl := fold_len (T.take i) []
      have hFl2 : (T.take i).length ≤ T.length := by rw [List.length_take]; omega
      generalize (T.take i).foldl jstep [] = F at hTu hFl ⊢
      obtain ⟨tl, th, ts⟩ := t
      walk_at "gou"
      ((with_reducible change tSeq _ _ _ _ _); refine L2.g_cutS (fun σ2 H2 => ∃ (low' : Int) (us' : List V) (F' : List Tri), σ2 = [some (.ref a), some (.ref l), some (.int low'), some (oV th), some (.int ts)] ∧ Same H H2 ∧ H2 l = some (.lst us') ∧ Trs K H2 us' F' ∧ F'.length ≤ T.length ∧ jstep F (tl, th, ts) = F' ++ [(low', th, ts)]) (fun nx hnx => ?_) (fun σ2 H2 hR => ?_))
      · walk_at "gos"
        (walk_at "new"; rename_i l5 _ H5 e5 h5; walk_at "gos")
        refine u_neTr (T := F) (S := []) ⟨us, e5 _ _ hus, hTu.d e5.d⟩ (trL_nil h5) ?_
        rcases List.eq_nil_or_concat F with rfl | ⟨F0, ⟨ql, qh, qs⟩, rfl⟩
        · rw [decide_eq_true rfl]
          walk_at "gos"
          exact hnx _ _ ⟨tl, us, [], rfl, e2.trans e5, e5 _ _ hus, hTu.d e5.d, by simp, rfl⟩
        · obtain ⟨us0, v, rfl, g1, aq, rfl, g2⟩ := Trs.snoc F0 us (List.concat_eq_append ▸ hTu)
          have hj : jstep (F0 ++ [(ql, qh, qs)]) (tl, th, ts) = if qs = ts then F0 ++ [(ql, th, ts)] else F0 ++ [(ql, qh, qs)] ++ [(tl, th, ts)] := by
            unfold jstep
            rw [List.getLast?_concat, List.dropLast_concat]
          rw [List.concat_eq_append] at hFl ⊢
          rw [decide_eq_false (by simp)]
          walk_at "gos"
          refine u_ixL (sqL (e5 _ _ hus)) (v := .ref aq) (atI_m1 (by simp)) ?_
          walk_at "gos"
          refine u_ixT (e5.d.tup g2) (v := .int qs) rfl ?_
          walk_at "gos"
          by_cases c : qs = ts
          · rw [if_pos (decide_eq_true c)]
            rw [if_pos c] at hj
            walk_at "gos"
            refine ⟨.inl ⟨rfl, _, sqL (e5 _ _ hus)⟩, l, _, .ref aq, rfl, rfl, e5 _ _ hus, by simp, ?_⟩
            walk_at "gos"
            refine u_ixT (SqT.mut (e5 _ _ hus) (e5.d.tup g2)) (v := .int ql) rfl ?_
            walk_at "gos"
            refine hnx _ _ ⟨ql, us0, F0, rfl, (e2.trans e5).mut hl0, by rw [List.dropLast_concat]; exact upd_same, (g1.d e5.d).mut (e5 _ _ hus), by simp at hFl; omega, by rw [List.concat_eq_append]; exact hj⟩
          · rw [if_neg (by rw [decide_eq_true_iff]; exact c)]
            rw [if_neg c] at hj
            walk_at "gos"
            exact hnx _ _ ⟨tl, _, F0 ++ [(ql, qh, qs)], rfl, e2.trans e5, e5 _ _ hus, ⟨(g1.d e5.d).app ⟨⟨aq, rfl, e5.d.tup g2⟩, trivial⟩, by simp at hFl ⊢; omega, by rw [List.concat_eq_append]; exact hj⟩⟩
      · obtain ⟨low', us', F', rfl, e5, hus', hTu', hF', hj⟩ := hR
        walk_at "gos"
        refine ⟨.inl ⟨rfl, _, sqL hus'⟩, ?_⟩
        walk_at "gos"
        (walk_at "new"; rename_i t6 _ H6 e6 h6; walk_at "gos")
        refine u_app (e6 _ _ hus') (by rw [hTu'.len]; omega) ?_
        walk_at "gos"
        refine ⟨(e5.trans e6).mut hl0, ⟨_, upd_same, ?_⟩, _, _, _, rfl⟩
        rw [hj]
        exact ((hTu'.d e6.d).app (us := [.ref t6]) (S := [(low', th, ts)]) ⟨⟨t6, rfl, sqT h6⟩, trivial⟩).mut (e6 _ _ hus')
    · obtain ⟨e2, hF, y1, y2, y3, rfl⟩ := p
      walk_at "gos"
      rw [List.take_of_length_le (by omega)] at hF
      exact q l H' e2 hF
end
end Ev

end
section
open L2 in
local macro_rules | `(tactic| walk_at "gx") => `(tactic| first
  | ((with_reducible show tVar _ _ _ _); refine g_var rfl ?_)
  | with_reducible refine g_c ?_
  | with_reducible refine g_op ?_
  | with_reducible refine g_cons ?_
  | with_reducible refine g_nil ?_
  | with_reducible refine g_test ?_
  | with_reducible refine g_blp ?_
  | with_reducible refine g_asg ?_
  | (with_reducible refine g_name ?_; (try simp only [List.set_cons_zero, List.set_cons_succ]))
  | with_reducible refine g_call ?_
  | with_reducible refine g_cb ?_
  | with_reducible refine g_I0 ?_
  | with_reducible refine g_U ?_
  | with_reducible refine g_eqI ?_
  | with_reducible refine g_neI ?_
  | with_reducible refine g_if ?_
  | with_reducible refine g_ret ?_
  | with_reducible refine g_retN ?_
  | with_reducible refine g_next ?_
  | with_reducible refine g_drop ?_
  | with_reducible refine g_un ?_
  | with_reducible refine g_tb ?_
  | with_reducible refine g_tup ?_
  | with_reducible refine g_lst ?_
  | with_reducible refine g_and ?_
  | with_reducible refine g_or ?_
  | with_reducible refine g_not ?_
  | with_reducible refine g_andV ?_
  | with_reducible refine g_orV ?_
  | with_reducible refine g_notV ?_
  | with_reducible refine g_ifE ?_
  | with_reducible refine g_fld ?_
  | with_reducible refine g_tt ?_
  | with_reducible refine g_ff ?_
  | with_reducible refine g_ntt ?_
  | with_reducible refine g_nff ?_
  | with_reducible refine g_for ?_
  | with_reducible refine g_list ?_
  | with_reducible refine g_tupI ?_
  | with_reducible refine g_rng1 ?_
  | with_reducible refine g_rng2 ?_
  | with_reducible refine g_enumA ?_
  | with_reducible refine g_rev ?_
  | with_reducible refine g_lc ?_
  | with_reducible refine g_gcons ?_
  | with_reducible refine g_gnil ?_
  | with_reducible refine g_yes ?_
  | with_reducible refine g_sl ?_
  | with_reducible refine g_nopart ?_
  | with_reducible refine g_part ?_
  | with_reducible refine g_int ?_
  | with_reducible refine g_dget ?_
  | with_reducible refine g_dput ?_
  | with_reducible refine g_raiseX ?_
  | with_reducible refine g_tru ?_
  | with_reducible refine g_sub ?_
  | with_reducible refine g_isN ?_
  | with_reducible refine g_notN ?_
  | with_reducible refine g_bm ?_
  | with_reducible refine L2.g_bm0 ?_
  | with_reducible refine g_pair ?_
  | with_reducible refine g_pair0 ?_
  | with_reducible refine u_int1 ?_
  | with_reducible refine g_chain ?_
  | with_reducible refine L2.g_sfld ?_
  | (with_reducible refine g_par3 ?_)
  | (with_reducible refine g_three ?_; (try simp only [List.set_cons_zero, List.set_cons_succ]))
  | ((with_reducible apply L2.g_tupT); walk_at "up"; rfl)
  | (with_reducible refine g_par ?_)
  | (with_reducible refine g_two ?_; (try simp only [List.set_cons_zero, List.set_cons_succ]))
  )
local macro_rules | `(tactic| walk_at "go") => `(tactic| first | walk_at "gx" | with_reducible refine L2.g_seq ?_)
local macro_rules | `(tactic| walk_at "gou") => `(tactic| repeat (walk_at "gx"))
local macro_rules | `(tactic| walk_at "gos") => `(tactic| repeat (walk_at "go"))
local macro_rules | `(tactic| walk_at "sl") => `(tactic| first
  | assumption
  | exact L2.Same.l (by assumption)
  | exact L2.SameD.l (by assumption)
  | exact L2.extN_l (by assumption))
local macro_rules | `(tactic| walk_at "up") => `(tactic| first
  | assumption
  | ((with_reducible apply L2.SameL.lst); walk_at "sl"; walk_at "up")
  | ((with_reducible apply L2.SameL.tupA); walk_at "sl"; walk_at "up")
  | ((with_reducible apply L2.SameL.ins); walk_at "sl"; walk_at "up")
  | ((with_reducible apply Ev.PB.l); walk_at "sl"; walk_at "up")
  | ((with_reducible apply Ev.IsP.l); walk_at "sl"; walk_at "up")
  | ((with_reducible apply L2.sqL); walk_at "up")
  | ((with_reducible apply L2.sqT); walk_at "up")
  | ((with_reducible apply L2.SameL.seq); walk_at "sl"; walk_at "up")
  | ((with_reducible apply Ev.Pen.same); assumption; walk_at "up")
  | ((with_reducible apply Ev.Pen.extN); assumption; walk_at "up")
  | ((with_reducible apply L2.tabs_s); assumption; walk_at "up")
  | ((with_reducible apply L2.tabs_dd); assumption; walk_at "up")
  | ((with_reducible apply Or.inl); walk_at "up")
  | ((with_reducible apply Or.inr); walk_at "up"))
local macro_rules | `(tactic| walk_at "new") => `(tactic| (
  first
    | refine ⟨L2.size_ok (by rfl), fun p hp => ?_⟩
    | refine fun p hp => ?_
  generalize hX : L2.upd _ p _ = H1
  obtain ⟨e, h⟩ := L2.news hp hX
  clear hX))
local macro_rules | `(tactic| walk_at "o") => `(tactic| first
  | ((with_reducible apply Ev.o_add); walk_at "up"; walk_at "up"; rfl; rfl; rfl)
  | ((with_reducible apply Ev.o_sub); walk_at "up"; walk_at "up"; rfl; rfl; rfl)
  | ((with_reducible apply Ev.o_mul); walk_at "up"; walk_at "up"; rfl; rfl; rfl)
  | ((with_reducible apply Ev.o_addI); walk_at "up"; assumption; rfl; rfl; rfl)
  | ((with_reducible apply Ev.o_subI); walk_at "up"; assumption; rfl; rfl; rfl)
  | ((with_reducible apply Ev.o_mulI); walk_at "up"; assumption; rfl; rfl; rfl)
  | ((with_reducible apply Ev.o_radd); walk_at "up"; assumption; rfl; rfl; rfl)
  | ((with_reducible apply Ev.o_rsub); walk_at "up"; assumption; rfl; rfl; rfl)
  | ((with_reducible apply Ev.o_rmul); walk_at "up"; assumption; rfl; rfl; rfl)
  | ((with_reducible apply Ev.o_neg); walk_at "up"; rfl; rfl; rfl))
local macro_rules | `(tactic| walk_at "eq") => `(tactic| ((with_reducible apply Ev.u_ownB); assumption; walk_at "up"; walk_at "up"; (focus (intro k; first | rfl | exact Pl.e_add | exact Pl.e_sub | exact Pl.e_mul | exact Pl.e_rsub | exact Pl.e_rsub2))))
local macro_rules | `(tactic| walk_at "isp") => `(tactic| (apply Ev.u_isB; walk_at "up"; walk_at "up"; rfl; rfl))

/-! row_signs, signs_of. -/
namespace Ev
open PySem PySem.Spec PyProof.Rows L2 Pl
/-- all but l -/
def SameX (l : Addr) (H H' : Hp) : Prop := ∀ b o, b ≠ l → H b = some o → H' b = some o
section
variable {K : PySem.W.Frag} {H H' H2 : Hp} {l : Addr}
theorem SameX.trans (h : SameX l H H') (h' : SameX l H' H2) : SameX l H H2 := fun b o hb hh => h' b o hb (h b o hb hh)
theorem Same.x (h : Same H H') : SameX l H H' := fun b o _ hh => h b o hh
theorem SameX.upd {o : HO} : SameX l H (upd H l o) := fun b o hb hh => by rw [upd_ne hb]; exact hh
theorem SameX.tup {us xs : List V} {a : Addr} (hl : H l = some (.lst us)) (e : SameX l H H') (h : SqT K H a xs) : SqT K H' a xs := by
  rcases h with (h | ⟨p, h⟩) | h
  · exact .inl (.inl (e _ _ (fun z => by rw [z, hl] at h; cases h) h))
  · exact .inl (.inr ⟨p, e _ _ (fun z => by rw [z, hl] at h; cases h) h⟩)
  · exact .inr h
theorem Trs.x {us : List V} (hl : H l = some (.lst us)) (e : SameX l H H') : ∀ {vs : List V} {T : List Tri}, Trs K H vs T → Trs K H' vs T
  | [], [], _ => trivial
  | _ :: _, _ :: _, h => ⟨let ⟨a, h1, h2⟩ := h.1; ⟨a, h1, e.tup hl h2⟩, Trs.x hl e h.2⟩
theorem SameX.same (h0 : H l = none) (e : Same H H') (e' : SameX l H' H2) : Same H H2 := fun b o hb => e' b o (fun z => by rw [z, h0] at hb; cases hb) (e b o hb)
end
theorem sgn3 (i : Int) : i.sign = 0 ∨ i.sign = 1 ∨ i.sign = -1 := by
  rcases Int.lt_trichotomy i 0 with h | h | h
  · exact .inr (.inr (Int.sign_eq_neg_one_of_neg h))
  · subst h; exact .inl rfl
  · exact .inr (.inl (Int.sign_eq_one_of_pos h))
section
variable {P : Program} {w : World} {K : PySem.W.Frag} {mg : Str → Option Value} {base : Heap}
def spRS (K : PySem.W.Frag) (n : Nat) : Sp := fun vs H Q _ => ∃ (a : Addr) (rs : List Int) (b : Nat), vs = [.ref a] ∧ SqT K H a (rs.map V.int) ∧ rs.length < n ∧ n ≤ 14 ∧ (rs ≠ [] → at0 rs (rs.length - 1) ≠ 0) ∧ (∀ k, Bd b (at0 rs k)) ∧ b + 30 * n ≤ 5400 ∧
  ∀ l H' T, Same H H' → TrL K H' l T → T.length ≤ 3 ^ (rs.length - 1) → WL (fun n => (hv rs n).sign) 0 T none → AD (sgs T) → Q (.ref l) H'
theorem sc_row_signs : FnScope ["row", "found", "low", "high", "trend"] ["row"] (defScope (topS 30)) := ⟨rfl, rfl, rfl, by decide +kernel, rfl, by decide +kernel, by decide +kernel⟩
theorem ok_row_signs0 (n : Nat) (hn : n ≤ 13) (B : Bn mg) (G_sign_of : CallF P w K mg base "sign_of" ["value"] 1 spSign) (G_difference_row : CallF P w K mg base "difference_row" ["row"] 12 (spDiff K)) (G_trend_signs : CallF P w K mg base "trend_signs" ["row", "low", "high", "trend"] 3 (spTrend K)) (G_joined : CallF P w K mg base "joined" ["parts"] 1 (spJoin K))
    (G_row_signs : CallF P w K mg base "row_signs" ["row"] (13 + n) (spRS K n))
    {f : Addr} {fd : FuncData} (F : Fun K "row_signs" "row_signs" (topS 30) f fd) : FnOk P w K mg base (L2.CX P w) (13 + n + 1) f fd ["row"] (spRS K (n + 1)) := by
  have nd := sc_row_signs.nd
  refine F.okX sc_row_signs (fun vs H Q E h => ?_) (fun cdv A outer s H vs Q E hr h => ?_)
  · obtain ⟨a, rs, b, rfl, _⟩ := h
    rfl
  · refine ⟨_, (pss_cons (ps_if (pt_cmpR op_lt (pe_callB (call_lnK (K := K) rfl) (by rfl) B.len_ (by decide +kernel) (pa_cons (pv 0) pa_nil)) pe_int (nomark _)) (pss_one (ps_ret (pe_lst (pa_cons (pe_tup (pa_cons pe_int (pa_cons pe_non (pa_cons (pe_ifExp (pt_truK (K := K) rfl (pv 0) (by intro _; rfl)) (pe_callF G_sign_of (hr.mono (by omega)) rfl passL (pa_cons (pe_ix (ix_tupK (K := K) rfl) (pv 0) pe_int (fun _ _ => rfl)) pa_nil)) pe_int) pa_nil)))) pa_nil)))) pss_nil)
      (pss_cons (ps_set (i := 1) nd rfl (.inl rfl) (pe_lst pa_nil))
      (pss_cons (ps_for (passes_of rfl) rfl (pi_listK (K := K) rfl (pe_callF G_row_signs (hr.mono (by omega)) rfl passL (pa_cons (pe_callF G_difference_row (hr.mono (by omega)) rfl passL (pa_cons (pv 0) pa_nil)) pa_nil))) (pg_tupK (K := K) (n := 3) rfl rfl (pgs_cons (pg_name (i := 2) nd rfl (.inl rfl)) (pgs_cons (pg_name (i := 3) nd rfl (.inl rfl)) (pgs_cons (pg_name (i := 4) nd rfl (.inl rfl)) pgs_nil)))) (pss_one (ps_expr (pe_bm PySem.F.plainAttrs_list PySem.F.slot_list_extend PySem.F.type_list_extend mt_extend (pv 1) (pa_cons (pe_callF G_trend_signs (hr.mono (by omega)) rfl passL (pa_cons (pv 0) (pa_cons (pv 2) (pa_cons (pv 3) (pa_cons (pv 4) pa_nil))))) pa_nil)))))
      (pss_one (ps_ret (pe_callF G_joined (hr.mono (by omega)) rfl passL (pa_cons (pv 1) pa_nil))))))), ?_⟩
    obtain ⟨a, rs, b, rfl, ha, hl, hn14, htr, hb, hbn, q⟩ := h
    refine g_st (σ' := [some (.ref a), none, none, none, none]) rfl ?_
    walk_at "gos"
    refine u_lenT ha ?_
    rw [List.length_map]
    walk_at "gos"
    by_cases c0 : rs.length < 2
    · rw [if_pos (by rw [decide_eq_true_iff]; omega)]
      walk_at "gos"
      refine u_truT ha ?_
      rcases rs with _ | ⟨i, _ | ⟨j, r⟩⟩
      · rw [if_neg (by simp)]
        walk_at "gos"
        (walk_at "new"; rename_i t1 _ H1 e1 h1; walk_at "gos")
        (walk_at "new"; rename_i l2 _ H2 e2 h2; walk_at "gos")
        exact q l2 H2 [(0, none, 0)] (e1.trans e2) ⟨_, h2, ⟨t1, rfl, sqT (e2 _ _ h1)⟩, trivial⟩ (by decide) ⟨rfl, rfl, rfl, fun n _ => rfl⟩ trivial
      · rw [if_pos (by simp)]
        walk_at "gos"
        refine u_ixT ha (v := .int i) rfl ?_
        walk_at "gos"
        refine ⟨i, rfl, ?_⟩
        walk_at "gos"
        (walk_at "new"; rename_i t1 _ H1 e1 h1; walk_at "gos")
        (walk_at "new"; rename_i l2 _ H2 e2 h2; walk_at "gos")
        refine q l2 H2 [(0, none, i.sign)] (e1.trans e2) ⟨_, h2, ⟨t1, rfl, sqT (e2 _ _ h1)⟩, trivial⟩ (Nat.le_refl 1) ⟨rfl, rfl, rfl, fun n _ => ?_⟩ trivial
        show (hv [i] n).sign = i.sign
        rw [hv_cons, hv_nil, Int.zero_mul, Int.zero_add]
      · exact absurd c0 (by simp)
    · rw [if_neg (by rw [decide_eq_true_iff]; omega)]
      walk_at "gos"
      (walk_at "new"; rename_i l hl0 H1 e1 h1; walk_at "gos")
      refine ⟨a, rs, b, rfl, e1.d.tup ha, by omega, hb, by omega, fun t rs' H2 e2 ht htr' hl' hb' hev => ?_⟩
      walk_at "gos"
      refine ⟨t, rs', b + 30, rfl, sqT ht, by omega, by omega, htr', hb', by omega, fun lt H3 T e3 hT hTl hW hA => ?_⟩
      walk_at "gos"
      obtain ⟨us, hus, hTr⟩ := hT
      have h3 := (e2.trans e3) _ _ h1
      have hltl : lt ≠ l := fun z => by
        rw [z, h3] at hus
        cases hus
        cases T with
        | nil => cases hW
        | cons _ _ => exact hTr.elim
      have hX1 := cauchy_sign hb' htr'
      have hX := cauchy_sign hb htr
      obtain ⟨X, hXd⟩ : ∃ X : Int, X = ((2 ^ (b + 30) : Nat) : Int) := ⟨_, rfl⟩
      have hXb : ((2 ^ b : Nat) : Int) ≤ X := by rw [hXd]; exact_mod_cast Nat.pow_le_pow_right (by decide) (by omega)
      have hch := hW.change (X := X) (fun n hn => by rw [hXd] at hn ⊢; exact hX1 n hn) hA
      have h0X : 0 ≤ X := by rw [hXd]; exact Int.natCast_nonneg _
      have sm : ∀ n, 0 ≤ n → n ≤ 3 * X + 3 → Sm rs n := fun n g1 g2 => ⟨by omega, fun k => (hb k).mono (by omega), by
        have g3 : (3 * X + 3).natAbs < 2 ^ (b + 30 + 3) := by
          rw [hXd, Nat.pow_add _ (b + 30)]
          have : 1 ≤ 2 ^ (b + 30) := Nat.one_le_two_pow
          omega
        exact Bd.mono (n := b + 30 + 3) (Nat.lt_of_le_of_lt (by omega) g3) (by omega)⟩
      refine u_it (sqL hus) ?_
      refine for_it walk_list (fun i σ' H' => SameX l H3 H' ∧ (∃ (F : List Tri) (e : Option Int), TrL K H' l F ∧ F.length ≤ 3 * i ∧ WL (fun n => (hv rs n).sign) 0 F e ∧ match e with | some m => 0 ≤ m ∧ WL (fun n => (hv rs' n).sign) m (T.drop i) none | none => T.drop i = []) ∧ ∃ y1 y2 y3, σ' = [some (.ref a), some (.ref l), y1, y2, y3]) ?_ (fun i _ H' _ p => sqL (p.1 _ _ hltl hus)) (fun i y σ' H' H4 hi p yy => ?_) (fun σ' H' p => ?_)
      · exact ⟨fun b o _ h => h, ⟨[], some 0, trL_nil h3, Nat.le_refl _, rfl, Int.le_refl _, hW⟩, none, none, none, rfl⟩
      · obtain ⟨e4, ⟨F, e, ⟨fs, hfs, hF⟩, hFl, hFW, hm⟩, y1, y2, y3, rfl⟩ := p
        obtain ⟨rfl, hy⟩ := yy
        obtain ⟨tt, ht1, a7, rfl, ht2⟩ := (hTr.x h3 e4).at_ hy
        have hdr : T.drop i = tt :: T.drop (i + 1) := by
          obtain ⟨hlt, hget⟩ := List.getElem?_eq_some_iff.mp ht1
          rw [List.drop_eq_getElem_cons hlt, hget]
        rw [hdr] at hm
        have htm := List.mem_of_getElem? ht1
        obtain ⟨c1, c2⟩ := hch tt htm
        cases e with
        | none => cases hm
        | some m =>
        obtain ⟨hm0, hm⟩ := hm
        obtain ⟨tl, th, ts⟩ := tt
        obtain ⟨rfl, hsg⟩ := hm.head
        walk_at "gos"
        refine ⟨.inl ⟨rfl, _, sqL hfs⟩, ?_⟩
        walk_at "gos"
        refine ⟨a, rs, ts, tl, X, th, rfl, e4.tup h3 ((e1.trans (e2.trans e3)).d.tup ha), ?_, hm0, by dsimp only at c1; omega, fun h e => ⟨hm.up h e, by have := c2 h e; omega⟩, sm, fun n g1 g2 => ?_, fun n hn => ?_, fun l5 H5 T5 e5 hT5 hT5l hW5 => ?_⟩
        · rw [← hsg]; exact sgn3 _
        · rw [← hev]; exact hm.seg n g1 g2
        · rw [hX n (by omega), hX X hXb]
        · walk_at "gos"
          obtain ⟨us5, hus5, hTr5⟩ := hT5
          have hln := hF.len
          have hln5 := hTr5.len
          have hi' : i < us.length := hi
          have hln6 := hTr.len
          have hp13 : 3 ^ (rs'.length - 1) ≤ 3 ^ 13 := Nat.pow_le_pow_right (by decide) (by omega)
          refine ⟨l, l5, _, _, rfl, rfl, e5 _ _ hfs, hus5, by rw [sizeLine_eq]; omega, ?_⟩
          walk_at "gos"
          refine ⟨(e4.trans (Same.x e5)).trans SameX.upd, ⟨F ++ T5, th.map (· + 1), ⟨_, upd_same, ?_⟩, by rw [List.length_append]; omega, hFW.app hW5, ?_⟩, _, _, _, rfl⟩
          · exact ((hF.d e5.d).app hTr5).mut (e5 _ _ hfs)
          · have hnx := hm.next
            cases th with
            | none => exact hnx.1
            | some h => exact ⟨by have := hm.up h rfl; show 0 ≤ h + 1; omega, hnx⟩
      · obtain ⟨e4, ⟨F, e, hF, hFl, hFW, hm⟩, y1, y2, y3, rfl⟩ := p
        have hTl0 := hTr.len
        rw [List.drop_of_length_le (by omega)] at hm
        have he : e = none := by
          cases e with
          | none => rfl
          | some m => cases hm.2
        subst he
        obtain ⟨j1, j2⟩ := joined_ok (F := []) (l := 0) (m := 0) rfl trivial hFW
        have hp13 : 3 ^ (rs'.length - 1) ≤ 3 ^ 11 := Nat.pow_le_pow_right (by decide) (by omega)
        have hp1 : 3 * 3 ^ (rs'.length - 1) ≤ 3 ^ (rs.length - 1) := by
          rw [← Nat.pow_succ']
          exact Nat.pow_le_pow_right (by decide) (by omega)
        walk_at "gos"
        refine ⟨l, F, rfl, hF, by omega, fun l6 H6 e6 h6 => ?_⟩
        have hfl := fold_len F []
        exact q l6 H6 _ ((SameX.same hl0 (e1.trans (e2.trans e3)) e4).trans e6) h6 (by simp only [List.length_nil] at hfl; omega) j1 j2
end
end Ev

end
section
open L2 in
local macro_rules | `(tactic| walk_at "gx") => `(tactic| first
  | ((with_reducible show tVar _ _ _ _); refine g_var rfl ?_)
  | with_reducible refine g_c ?_
  | with_reducible refine g_op ?_
  | with_reducible refine g_cons ?_
  | with_reducible refine g_nil ?_
  | with_reducible refine g_test ?_
  | with_reducible refine g_blp ?_
  | with_reducible refine g_asg ?_
  | (with_reducible refine g_name ?_; (try simp only [List.set_cons_zero, List.set_cons_succ]))
  | with_reducible refine g_call ?_
  | with_reducible refine g_cb ?_
  | with_reducible refine g_I0 ?_
  | with_reducible refine g_U ?_
  | with_reducible refine g_eqI ?_
  | with_reducible refine g_neI ?_
  | with_reducible refine g_if ?_
  | with_reducible refine g_ret ?_
  | with_reducible refine g_retN ?_
  | with_reducible refine g_next ?_
  | with_reducible refine g_drop ?_
  | with_reducible refine g_un ?_
  | with_reducible refine g_tb ?_
  | with_reducible refine g_tup ?_
  | with_reducible refine g_lst ?_
  | with_reducible refine g_and ?_
  | with_reducible refine g_or ?_
  | with_reducible refine g_not ?_
  | with_reducible refine g_andV ?_
  | with_reducible refine g_orV ?_
  | with_reducible refine g_notV ?_
  | with_reducible refine g_ifE ?_
  | with_reducible refine g_fld ?_
  | with_reducible refine g_tt ?_
  | with_reducible refine g_ff ?_
  | with_reducible refine g_ntt ?_
  | with_reducible refine g_nff ?_
  | with_reducible refine g_for ?_
  | with_reducible refine g_list ?_
  | with_reducible refine g_tupI ?_
  | with_reducible refine g_rng1 ?_
  | with_reducible refine g_rng2 ?_
  | with_reducible refine g_enumA ?_
  | with_reducible refine g_rev ?_
  | with_reducible refine g_lc ?_
  | with_reducible refine g_gcons ?_
  | with_reducible refine g_gnil ?_
  | with_reducible refine g_yes ?_
  | with_reducible refine g_sl ?_
  | with_reducible refine g_nopart ?_
  | with_reducible refine g_part ?_
  | with_reducible refine g_int ?_
  | with_reducible refine g_dget ?_
  | with_reducible refine g_dput ?_
  | with_reducible refine g_raiseX ?_
  | with_reducible refine g_tru ?_
  | with_reducible refine g_sub ?_
  | with_reducible refine g_isN ?_
  | with_reducible refine g_notN ?_
  | with_reducible refine g_bm ?_
  | with_reducible refine L2.g_bm0 ?_
  | with_reducible refine g_pair ?_
  | with_reducible refine g_pair0 ?_
  | with_reducible refine u_int1 ?_
  | with_reducible refine g_chain ?_
  | with_reducible refine L2.g_sfld ?_
  | (with_reducible refine g_par3 ?_)
  | (with_reducible refine g_three ?_; (try simp only [List.set_cons_zero, List.set_cons_succ]))
  | ((with_reducible apply L2.g_tupT); walk_at "up"; rfl)
  | (with_reducible refine g_par ?_)
  | (with_reducible refine g_two ?_; (try simp only [List.set_cons_zero, List.set_cons_succ]))
  )
local macro_rules | `(tactic| walk_at "go") => `(tactic| first | walk_at "gx" | with_reducible refine L2.g_seq ?_)
local macro_rules | `(tactic| walk_at "gou") => `(tactic| repeat (walk_at "gx"))
local macro_rules | `(tactic| walk_at "gos") => `(tactic| repeat (walk_at "go"))
local macro_rules | `(tactic| walk_at "sl") => `(tactic| first
  | assumption
  | exact L2.Same.l (by assumption)
  | exact L2.SameD.l (by assumption)
  | exact L2.extN_l (by assumption))
local macro_rules | `(tactic| walk_at "up") => `(tactic| first
  | assumption
  | ((with_reducible apply L2.SameL.lst); walk_at "sl"; walk_at "up")
  | ((with_reducible apply L2.SameL.tupA); walk_at "sl"; walk_at "up")
  | ((with_reducible apply L2.SameL.ins); walk_at "sl"; walk_at "up")
  | ((with_reducible apply Ev.PB.l); walk_at "sl"; walk_at "up")
  | ((with_reducible apply Ev.IsP.l); walk_at "sl"; walk_at "up")
  | ((with_reducible apply L2.sqL); walk_at "up")
  | ((with_reducible apply L2.sqT); walk_at "up")
  | ((with_reducible apply L2.SameL.seq); walk_at "sl"; walk_at "up")
  | ((with_reducible apply Ev.Pen.same); assumption; walk_at "up")
  | ((with_reducible apply Ev.Pen.extN); assumption; walk_at "up")
  | ((with_reducible apply L2.tabs_s); assumption; walk_at "up")
  | ((with_reducible apply L2.tabs_dd); assumption; walk_at "up")
  | ((with_reducible apply Or.inl); walk_at "up")
  | ((with_reducible apply Or.inr); walk_at "up"))
local macro_rules | `(tactic| walk_at "new") => `(tactic| (
  first
    | refine ⟨L2.size_ok (by rfl), fun p hp => ?_⟩
    | refine fun p hp => ?_
  generalize hX : L2.upd _ p _ = H1
  obtain ⟨e, h⟩ := L2.news hp hX
  clear hX))
local macro_rules | `(tactic| walk_at "o") => `(tactic| first
  | ((with_reducible apply Ev.o_add); walk_at "up"; walk_at "up"; rfl; rfl; rfl)
  | ((with_reducible apply Ev.o_sub); walk_at "up"; walk_at "up"; rfl; rfl; rfl)
  | ((with_reducible apply Ev.o_mul); walk_at "up"; walk_at "up"; rfl; rfl; rfl)
  | ((with_reducible apply Ev.o_addI); walk_at "up"; assumption; rfl; rfl; rfl)
  | ((with_reducible apply Ev.o_subI); walk_at "up"; assumption; rfl; rfl; rfl)
  | ((with_reducible apply Ev.o_mulI); walk_at "up"; assumption; rfl; rfl; rfl)
  | ((with_reducible apply Ev.o_radd); walk_at "up"; assumption; rfl; rfl; rfl)
  | ((with_reducible apply Ev.o_rsub); walk_at "up"; assumption; rfl; rfl; rfl)
  | ((with_reducible apply Ev.o_rmul); walk_at "up"; assumption; rfl; rfl; rfl)
  | ((with_reducible apply Ev.o_neg); walk_at "up"; rfl; rfl; rfl))
local macro_rules | `(tactic| walk_at "eq") => `(tactic| ((with_reducible apply Ev.u_ownB); assumption; walk_at "up"; walk_at "up"; (focus (intro k; first | rfl | exact Pl.e_add | exact Pl.e_sub | exact Pl.e_mul | exact Pl.e_rsub | exact Pl.e_rsub2))))
local macro_rules | `(tactic| walk_at "isp") => `(tactic| (apply Ev.u_isB; walk_at "up"; walk_at "up"; rfl; rfl))

/-! The recursion closed; signs_of. -/
namespace Ev
open PySem PySem.Spec PyProof.Rows L2 Pl
section
variable {P : Program} {w : World} {K : PySem.W.Frag} {mg : Str → Option Value} {base : Heap}
theorem ok_row_signs (B : Bn mg) (G_sign_of : CallF P w K mg base "sign_of" ["value"] 1 spSign) (G_difference_row : CallF P w K mg base "difference_row" ["row"] 12 (spDiff K)) (G_trend_signs : CallF P w K mg base "trend_signs" ["row", "low", "high", "trend"] 3 (spTrend K)) (G_joined : CallF P w K mg base "joined" ["parts"] 1 (spJoin K))
    {f : Addr} {fd : FuncData} (F : Fun K "row_signs" "row_signs" (topS 30) f fd) (hm : mg "row_signs" = some (.ref f)) (hk : PySem.W.keepIn K (.ref f) = true) (hb : Binds K fd ["row"] []) :
    ∀ n, n ≤ 14 → CallF P w K mg base "row_signs" ["row"] (13 + n) (spRS K n) := by
  intro n
  induction n with
  | zero =>
    intro _
    refine ⟨f, fd, F.okX sc_row_signs (fun vs H Q E h => ?_) (fun cdv A outer s H vs Q E hr h => ?_), hm, hk, hb⟩
    · obtain ⟨a, rs, b, _, _, hl, _⟩ := h
      exact absurd hl (Nat.not_lt_zero _)
    · obtain ⟨a, rs, b, _, _, hl, _⟩ := h
      exact absurd hl (Nat.not_lt_zero _)
  | succ n ih =>
    intro hn
    exact ⟨f, fd, ok_row_signs0 n (by omega) B G_sign_of G_difference_row G_trend_signs G_joined (ih (by omega)) F, hm, hk, hb⟩
def ExcPl (H : Hp) (CP : Addr) (v : V) (E : XK) : Prop := ∀ H' d, Same H H' → H' d = some (.xd [("n", v)]) → E (.ref CP) (some d) H'
def spSigns (K : PySem.W.Frag) (C CP : Addr) : Sp := fun vs H Q E => ∃ (x : Addr) (lv : V), vs = [.ref x, lv] ∧
  ((∃ (rs : List Int) (u lo : Int) (b d c : Nat), lv = .int lo ∧ IsP H x C rs u ∧ rs.length ≤ 13 ∧ (∀ k, Bd b (at0 rs k)) ∧ Bd c u ∧ 0 < u ∧ Bd d lo ∧ 1 ≤ d ∧ b + rs.length * (d + 1) ≤ 4900 ∧ b + d ≤ 5500 ∧ c ≤ 3000 ∧ ∀ l H' T, H l = none → Same H H' → TrL K H' l T → T.length ≤ 600000 → WL (fun n => (hv rs n).sign) lo T none → AD (sgs T) → Q (.ref l) H') ∨
   (Kd K H lv false ∧ ExcPl H CP lv E))
theorem sc_signs_of : FnScope ["p", "low", "parts", "first", "last", "sign"] ["p", "low"] (defScope (topS 31)) := ⟨rfl, rfl, rfl, by decide +kernel, rfl, by decide +kernel, by decide +kernel⟩
theorem ok_signs_of {C_Piece CB CP : Addr} (B : Bn mg) (c_Piece : Cls K C_Piece) (n_row : NoAttr K C_Piece "row") (X_BadPlace : ExT P K mg "BadPlace" CP ["n"]) (G_is_integer : CallF P w K mg base "is_integer" ["value"] 1 (spIsInteger K))
    (G_Piece_stretched : MethF P w K mg base C_Piece "stretched" ["self", "m", "r"] 11 (spStretchG K C_Piece CB)) (G_row_signs : CallF P w K mg base "row_signs" ["row"] 27 (spRS K 14))
    {f : Addr} {fd : FuncData} (F : FunD K "signs_of" "signs_of" (defArgs (topS 31)) (defBody (topS 31)) (defScope (topS 31)) [.int 0] [] f fd) : FnOk P w K mg base (L2.CX P w) 28 f fd ["p", "low"] (spSigns K C_Piece CP) := by
  have nd := sc_signs_of.nd
  refine F.ok sc_signs_of (fun vs H Q E h => ?_) (fun cdv A outer s H vs Q E hr h => ?_)
  · obtain ⟨x, lv, rfl, _⟩ := h
    rfl
  · refine ⟨_, (pss_cons (ps_if (pt_not (pt_val (pe_callF G_is_integer (hr.mono (by decide)) rfl passL (pa_cons (pv 1) pa_nil)))) (pss_one (ps_raiseX rfl X_BadPlace hr (takes_of rfl rfl rfl rfl) (pa_cons (pv 1) pa_nil))) pss_nil)
      (pss_cons (ps_set (i := 2) nd rfl (.inl rfl) (pe_callF G_row_signs (hr.mono (by decide)) rfl passL (pa_cons (pe_fldK (K := K) rfl (pe_methF c_Piece G_Piece_stretched (pv 0) (hr.mono (by decide)) (passes_call (takes_of rfl rfl rfl rfl) (fun _ _ _ _ h => h)) (pa_cons pe_int (pa_cons (pv 1) pa_nil))) rfl) pa_nil)))
      (pss_one (ps_ret (pe_lc (own := [("first", 3), ("last", 4), ("sign", 5)]) (g := gTup K 3 (gCons (gName 3) (gCons (gName 4) (gCons (gName 5) (gNil))))) (tt := tYes) rfl nd (pi_listK (K := K) rfl (pv 2)) (blkOk_by (N := ["p", "low", "parts", "first", "last", "sign"]) (sc := defScope (topS 31)) (by decide +kernel)) (fun _ _ _ _ _ => (pg_tupK (K := K) (n := 3) rfl rfl (pgs_cons (pg_name (i := 3) nd rfl (.inl rfl)) (pgs_cons (pg_name (i := 4) nd rfl (.inl rfl)) (pgs_cons (pg_name (i := 5) nd rfl (.inl rfl)) pgs_nil))))) (fun _ _ _ _ _ => pts_nil) (fun _ _ _ _ _ => (pe_tup (pa_cons (pe_op op_add (pv 3) (pv 1)) (pa_cons (pe_ifExp (pt_cmpR op_isNS (pv 4) pe_non (nomark _)) pe_non (pe_op op_add (pv 4) (pv 1))) (pa_cons (pv 5) pa_nil)))))))))), ?_⟩
    obtain ⟨x, lv, rfl, h⟩ := h
    refine g_st (σ' := [some (.ref x), some lv, none, none, none, none]) rfl ?_
    walk_at "gos"
    rcases h with ⟨rs, u, lo, b, d, c, rfl, hx, hl, hb, hbu, hu, hbl, hd1, hbd, hbd2, hc, q⟩ | ⟨hk, hq⟩
    · refine ⟨_, true, rfl, Kd.int, ?_⟩
      walk_at "gos"
      obtain ⟨dx, tx, hx1, htx⟩ := id hx
      refine g_methT ?_
      walk_at "gos"
      refine ⟨x, dx, _, rfl, hx1, rfl, ?_⟩
      walk_at "gos"
      refine ⟨x, _, _, rfl, .inl ⟨rs, u, 1, lo, b, d, c, rfl, rfl, by decide, hx, by omega, hb, hbu, hu, Bd.mono (n := 1) (by unfold Bd; decide) hd1, hbl, hbd2, hc, fun z H1 e1 hz => ?_⟩⟩
      walk_at "gos"
      obtain ⟨hs, rs', u', hI, hF⟩ := id hz
      obtain ⟨f1, f2, f3⟩ := hF.small
      obtain ⟨dz, tz, hz1, htz⟩ := id hI
      have hu' := hF.1.pos
      refine ⟨z, C_Piece, dz, _, _, rfl, hz1, c_Piece, n_row, rfl, ?_⟩
      have hrl : rs'.length ≤ rs.length := f3 _ hs.low
      walk_at "gos"
      refine ⟨tz, rs', b + rs.length * (d + 1), rfl, sqT htz, by omega, by decide, hF.1.low, fun k => (hs.row k).le (f2 k), by omega, fun l2 H2 T e2 hT hTl hW hA => ?_⟩
      have hval : ∀ n, (hv rs (n + lo)).sign = (hv rs' n).sign := fun n => by
        have h1 : hv rs' n * u = hv rs (1 * n + lo) * u' := by
          rw [hv_ev, ← ev_sub, ← ev_scale, ← ev_scale]
          have e1 : ev (fun k => at0 rs' k * u) rs.length n = ev (fun k => at0 rs' k * u) rs'.length n := by
            obtain ⟨d, hd⟩ : ∃ d, rs.length = rs'.length + d := ⟨rs.length - rs'.length, by omega⟩
            rw [hd]
            exact ev_big (fun k hk => by rw [at0_out hk]; simp) d
          rw [← e1]
          exact ev_congr _ fun k _ => hF.2.2 k
        rw [Int.one_mul] at h1
        have h2 : (hv rs' n * u).sign = (hv rs (n + lo) * u').sign := by rw [h1]
        rw [Int.sign_mul, Int.sign_mul, Int.sign_eq_one_of_pos hu, Int.sign_eq_one_of_pos hu', Int.mul_one, Int.mul_one] at h2
        exact h2.symm
      have hW2 := hW.shift (τ := fun n => (hv rs n).sign) (lo := lo) hval
      rw [Int.zero_add] at hW2
      have hA2 : AD (sgs (T.map (shT lo))) := by rw [sgs_shift]; exact hA
      have hTl2 : T.length ≤ 3 ^ 13 := Nat.le_trans hTl (Nat.pow_le_pow_right (by decide) (by omega))
      walk_at "gos"
      obtain ⟨us, hus, hTr⟩ := hT
      have hln := hTr.len
      refine u_it (sqL hus) ?_
      intro D hD
      refine lc_it walk_list (fun i H' => Same H2 H' ∧ ∃ vs, H' D = some (.lst vs) ∧ vs.length = i ∧ Trs K H' vs ((T.take i).map (shT lo))) ?_ (fun i _ H' p => sqL (p.1 _ _ hus)) (fun i y H3 H4 hi p yy => ?_) (fun H3 p => ?_)
      · exact ⟨same_new hD, [], upd_same, rfl, trivial⟩
      · obtain ⟨e3, vs, hvs, hvl, hTv⟩ := p
        obtain ⟨rfl, hy⟩ := yy
        obtain ⟨t, ht1, a7, rfl, ht2⟩ := (hTr.d e3.d).at_ hy
        obtain ⟨tl, th, ts⟩ := t
        have htk : (T.take (i + 1)).map (shT lo) = (T.take i).map (shT lo) ++ [shT lo (tl, th, ts)] := by
          rw [List.take_add_one, ht1, List.map_append]
          rfl
        walk_at "gos"
        refine ⟨rfl, ?_⟩
        have fin : ∀ (p : Addr) (H5 : Hp), Same H4 H5 → H5 p = some (.tup [.int (tl + lo), oV (th.map (· + lo)), .int ts]) → ∃ acc, H5 D = some (.lst acc) ∧ acc.length < sizeLine ∧ Same H2 (upd H5 D (.lst (acc ++ [.ref p]))) ∧
            ∃ vs, upd H5 D (.lst (acc ++ [.ref p])) D = some (.lst vs) ∧ vs.length = i + 1 ∧ Trs K (upd H5 D (.lst (acc ++ [.ref p]))) vs ((T.take (i + 1)).map (shT lo)) := fun p H5 e5 hp5 => by
          refine ⟨vs, e5 _ _ hvs, by rw [sizeLine_eq]; omega, Same.mut (e3.trans e5) hD, _, upd_same, by simp [hvl], ?_⟩
          rw [htk]
          exact ((hTv.d e5.d).app (us := [.ref p]) (S := [shT lo (tl, th, ts)]) ⟨⟨p, rfl, sqT hp5⟩, trivial⟩).mut (e5 _ _ hvs)
        cases th with
        | none =>
          walk_at "gos"
          rw [if_pos (by simp [oV])]
          walk_at "gos"
          (walk_at "new"; rename_i t5 _ H5 e5 h5; walk_at "gos")
          exact fin t5 H5 e5 h5
        | some h =>
          walk_at "gos"
          rw [if_neg (by simp [oV])]
          walk_at "gou"
          refine L2.g_I0 (a := h) ?_
          walk_at "gos"
          (walk_at "new"; rename_i t5 _ H5 e5 h5; walk_at "gos")
          exact fin t5 H5 e5 h5
      · obtain ⟨e3, vs, hvs, hvl, hTv⟩ := p
        rw [List.take_of_length_le (by omega)] at hTv
        walk_at "gos"
        exact q D H3 _ (by
          cases hz : H D with
          | none => rfl
          | some o => have := (e1.trans e2) _ _ hz; rw [hD] at this; cases this) (e1.trans (e2.trans e3)) ⟨vs, hvs, hTv⟩ (by rw [List.length_map]; have : 3 ^ (rs'.length - 1) ≤ 3 ^ 12 := Nat.pow_le_pow_right (by decide) (by omega); omega) hW2 hA2
    · refine ⟨_, false, rfl, hk, ?_⟩
      walk_at "gos"
      exact u_raise rfl (by decide) fun d H1 _ e1 hd => hq H1 d e1 hd
theorem binds_signs2 {f : Addr} {fd : FuncData} (F : FunD K "signs_of" "signs_of" (defArgs (topS 31)) (defBody (topS 31)) (defScope (topS 31)) [.int 0] [] f fd) : Binds K fd ["p", "low"] [] := by
  obtain ⟨ds, h1, h2⟩ := F.binds1 (ps := ["p", "low"]) 2 1 (fun z => by cases z) rfl (fun T kV doc pm an cdv ct us its hl hl2 => match us, its, hl, hl2 with | [_, _], [_], _, _ => ⟨_, rfl, rfl⟩)
  cases h1
  exact h2
theorem binds_signs1 {f : Addr} {fd : FuncData} (F : FunD K "signs_of" "signs_of" (defArgs (topS 31)) (defBody (topS 31)) (defScope (topS 31)) [.int 0] [] f fd) : ∃ ds, Vals [.int 0] ds ∧ Binds K fd ["p", "low"] ds :=
  F.binds1 (ps := ["p", "low"]) 1 0 (fun z => by cases z) rfl (fun T kV doc pm an cdv ct us its hl hl2 => match us, its, hl, hl2 with | [_], [_], _, _ => ⟨_, rfl, rfl⟩)
end
end Ev

end
/-! Calls of defs with defaults left out. -/
namespace L2
open PySem PySem.Spec PyProof.Rows
/-- the def x of the module, called without its last arguments dvs, keeps sp at the level k -/
structure CallFD (P : Program) (w : World) (K : PySem.W.Frag) (mg : Str → Option Value) (base : Heap) (x : Str) (ps : List Str) (k : Nat) (sp : Sp) (dvs : List V) : Prop where
  ex : ∃ f fd ds, FnOk P w K mg base (L2.CX P w) k f fd ps sp ∧ mg x = some (.ref f) ∧ PySem.W.keepIn K (.ref f) = true ∧ Binds K fd ps ds ∧ Vals dvs ds
section
variable {X : Cx} {x : Str} {ps : List Str} {k : Nat} {sp : Sp} {dvs : List V} {E : XK} {e : Expr} {es : List Expr} {t : TA} {p pos : Pos}
theorem pe_callFD (G : CallFD X.prog X.w X.K X.mg X.base x ps k sp dvs) (hr : Room k X.A) (hg : Gl X x) (hx : Passes (L2.CX X.prog X.w) X E) (ha : PA X (e :: es) t)
    (hdb : (x == ("__debug__" : Str)) = false := by decide) (he : starEach (e :: es) X.env = (false, eval e X.env) :: starEach es X.env := by rfl) (hpl : (backTo pos (starEach es X.env)).any (·.1) = false := by rfl) :
    PE X (.Call (.Name x p) (e :: es) [] pos) (tCall sp dvs E t) := by
  obtain ⟨f, fd, ds, F, h1, h2, h3, h4⟩ := G.ex
  exact pe_call F hr hg h1 h2 h3 h4 hx ha hdb he hpl
end
end L2

/-! list(range(a, b)) of great bounds. -/
namespace L2
open PySem PySem.Spec PyProof.Rows
section
variable {P : Program} {w : World} {A : Around} {E : Value → Shared → Prop} {s : Shared} {r : Addr} {a b c : Int} {t u v : Tok} {n : Nat}
abbrev doneQ (P : Program) (w : World) (A : Around) (R : PySem.Result → Shared → Prop) : PySem.Fin → Shared → Prop := fun fin s' => match fin with
  | .done f => R (.ok f) s'
  | .again c' => c'.quiet = true ∧ codeAny (model P w) A c' R s'
abbrev lngO (a b c : Int) : Obj := { cls := .type "longrange_iterator", data := .fields #[rawInt a, rawInt (Builtin.Range.rangeSize a b c), rawInt c] }
theorem ext_long {R : PySem.Result → Shared → Prop} (hA : A.handled = none) (hr : IsRange s.heap r a b c t u v) (hbig : Builtin.Range.small a b c = false) (hn : Builtin.Range.rangeSize a b c = n) (hlen : n ≤ 2 ^ 24)
    {S : Addr} {res : Value} {c0 : Nat} (hS : s.heap.get? S = some { cls := .type "list", data := .seq #[] c0 })
    (q : ∀ h' tk acc c1, (∀ x o, x ≠ S → s.heap.get? x = some o → h'.get? x = some o) → h'.get? S = some { cls := .type "list", dict := none, data := .seq acc c1, slots := #[] } → ItemsOf (fun i v => ∃ t, v = .int (a + i * c) t) acc n → R (.ok (.ret res)) { s with heap := h', toks := tk }) :
    wpAny (model P w) A.in1 (Builtin.List.listExtendWith (.ref S) (.ref r) res) (doneQ P w A R) (fun e s' => R (.error e) s') s := by
  have ne1 : S ≠ r := fun z => by rw [z, hr] at hS; simp at hS
  have lt1 := Heap.lt_size hS
  have ne2 := Nat.ne_of_lt lt1
  have no : S ∉ [s.heap.objs.size] := fun z => ne2 (List.mem_singleton.mp z)
  have go : ∀ (h : Heap) (c1 tk : Nat), IsLongIter h s.heap.objs.size (a + ((0 : Nat) : Int) * c) ((n : Int) - ((0 : Nat) : Int)) c → (∀ x o, x ≠ S → s.heap.get? x = some o → h.get? x = some o) →
      h.get? S = some { cls := .type "list", data := .seq #[] c1 } → codeAny (model P w) A (.builtin "list.extend.loop" ⟨[.ref S, .ref s.heap.objs.size, res], []⟩) R { s with heap := h, toks := tk } := fun h c1 tk it k h1 => by
    refine codeAny_extend_loopS (Walks.longrange (prog := P) (w := w) (A := A.in1) hA s.heap.objs.size a c n).toS (by rw [sizeLine_eq]; omega) S no res n 0 _ #[] c1 rfl (Nat.zero_le _) it h1 (ItemsOf.nil _) fun s2 acc c2 hm h2 hacc => ?_
    rw [Moved.eq_with hm]
    refine q s2.heap s2.toks acc c2 (fun x o hx e => hm.heap x o (fun z => ?_) (k x o hx e)) h2 hacc
    rcases List.mem_cons.mp z with z | z
    · exact hx z
    · rw [List.mem_singleton.mp z] at e; exact Nat.lt_irrefl _ (Heap.lt_size e)
  unfold Builtin.List.listExtendWith
  refine wpAny_bind (wpAny_typeOf (T := "range") ⟨_, hr, rfl⟩ ?_)
  rw [show Builtin.List.listSameRef (.ref S) (.ref r) = false by simp [Builtin.List.listSameRef, ne1]]
  simp only [show (Value.type "range" == Value.type "list") = false by decide, show (Value.type "range" == Value.type "tuple") = false by decide, Bool.or_false, Bool.false_eq_true, if_false]
  refine wpAny_bind (wpAny_pyIter_longrange hr hbig (wpAny_bind (wpAny_holding (wpAny_hint_range (n := n) (Heap.get?_push_of_some _ hr) hn hlen ?_))))
  have it : IsLongIter (s.heap.push (lngO a b c)) s.heap.objs.size (a + ((0 : Nat) : Int) * c) ((n : Int) - ((0 : Nat) : Int)) c := by
    have z : (s.heap.push (lngO a b c)).get? s.heap.objs.size = some (lngO a b c) := Heap.get?_push_size _ rfl
    unfold IsLongIter
    rw [z]
    unfold lngO
    rw [hn]
    simp
  have hS1 := Heap.get?_push_of_some (lngO a b c) hS
  refine wpAny_ite_split (fun _ => ?_) (fun _ => wpAny_pure ⟨plainId_quiet F.plain_extend_loop _, go _ c0 _ it (fun x o _ e => Heap.get?_push_of_some _ e) hS1⟩)
  refine wpAny_bind (wpAny_rule (wpAny_bind ?_))
  show wpAny _ _ (updateSeq S (·.push .none) >>= fun _ => updateSeq S (·.pop)) _ _ _
  refine wpAny_bind (wpAny_updateSeq hS1 rfl ?_)
  have hS2 := Heap.get?_update_self (Obj.mapSeq (·.push Value.none)) hS1 rfl
  refine wpAny_updateSeq (hz := by seq_fits) hS2 rfl (wpAny_pure ⟨plainId_quiet F.plain_extend_loop _, go _ _ _ ((Heap.get?_update_other _ _ ne2).trans ((Heap.get?_update_other _ _ ne2).trans it)) (fun x o hx e => ?_) (Heap.get?_update_self (Obj.mapSeq (·.pop)) hS2 rfl)⟩)
  exact (Heap.get?_update_other _ _ (Ne.symm hx)).trans ((Heap.get?_update_other _ _ (Ne.symm hx)).trans (Heap.get?_push_of_some _ e))
theorem list_long {Q : Value → Shared → Prop} (hA : A.handled = none) (hr : IsRange s.heap r a b c t u v) (hbig : Builtin.Range.small a b c = false) (hn : Builtin.Range.rangeSize a b c = n) (hlen : n ≤ 2 ^ 24)
    (q : ∀ h' tk acc c1, (∀ x o, s.heap.get? x = some o → h'.get? x = some o) → h'.get? s.heap.objs.size = some { cls := .type "list", dict := none, data := .seq acc c1, slots := #[] } → ItemsOf (fun i v => ∃ t, v = .int (a + i * c) t) acc n → Q (.ref s.heap.objs.size) { s with heap := h', toks := tk }) :
    wpAny (model P w) A (call (.type "list") [.ref r]) Q E s := by
  refine callType_codes (Q₁ := fun x y => x = .ref s.heap.objs.size ∧ y = { s with heap := s.heap.push { cls := .type "list", data := .seq #[] } }) F.called_list (F.typeCall_list_1 _) F.entry_list_init (code_list_new _ ⟨rfl, rfl⟩) fun x y hxy => ?_
  obtain ⟨rfl, rfl⟩ := hxy
  have h0 : (s.heap.push { cls := .type "list", data := .seq #[] }).get? s.heap.objs.size = some { cls := .type "list", data := .seq #[] } := Heap.get?_push_size _ rfl
  refine ⟨⟨_, h0, rfl⟩, F.args_list_init_2 _ _, ?_⟩
  have hr1 := Heap.get?_push_of_some { cls := .type "list", data := .seq #[] } hr
  have ne1 : s.heap.objs.size ≠ r := fun z => by
    have k := Heap.lt_size hr
    rw [← z] at k
    exact Nat.lt_irrefl _ k
  show wpAny _ _ (do let old ← Builtin.List.listItems (.ref s.heap.objs.size); Builtin.List.listUpdate (.ref s.heap.objs.size) (fun _ => #[]); letGo old.toList.reverse; Builtin.List.listExtendWith (.ref s.heap.objs.size) (.ref r) .none) _ _ _
  refine wpAny_bind ?_
  unfold Builtin.List.listItems
  refine wpAny_bind (wpAny_seqItems h0 rfl (wpAny_pure ?_))
  show wpAny _ _ (updateSeq s.heap.objs.size (fun _ => #[]) >>= fun _ => letGo (#[] : Array Value).toList.reverse >>= fun _ => Builtin.List.listExtendWith (.ref s.heap.objs.size) (.ref r) .none) _ _ _
  refine wpAny_bind (wpAny_updateSeq h0 rfl (wpAny_bind (wpAny_letGo ?_)))
  refine ext_long (A := A.in1) (by simp [hA]) ((Heap.get?_update_other _ _ ne1).trans hr1) hbig hn hlen (Heap.get?_update_self (Obj.mapSeq (fun _ => (#[] : Array Value))) h0 rfl) fun h' tk acc c1 k h1 hacc => ⟨rfl, q h' tk acc c1 (fun x o e => ?_) h1 hacc⟩
  have nx := Nat.ne_of_lt (Heap.lt_size e)
  exact k x o nx ((Heap.get?_update_other _ _ (Ne.symm nx)).trans (Heap.get?_push_of_some _ e))
end
section
variable {X : Cx} {e : Expr} {te : St → Hp → (Int → Int → Hp → Prop) → Prop}
def tLstRgL (te : St → Hp → (Int → Int → Hp → Prop) → Prop) : TE := fun σ H Q => te σ H fun a b H1 => (b - a).toNat ≤ 2 ^ 24 ∧ ∀ q, H1 q = none → Q (.ref q) (upd H1 q (.lst (rgV a b)))
theorem pe_listRgL {p pos : Pos} (hc : X.calm = true) (hg : Gl X "list") (hm : X.mg "list" = none) (he : PRg X e te) (na : starEach [e] X.env = (false, eval e X.env) :: starEach [] X.env := by rfl) : PE X (.Call (.Name "list" p) [e] [] pos) (tLstRgL te) := by
  refine ⟨fun pins s σ H Q I h => ?_⟩
  refine Call_ (ld_blt I hg hm boot_list (PyProof.Rows.callWith_type1 (args_cons (thn (he pins s σ H _ I h) fun x s1 ⟨r, a, b, t, u, v, H1, ex, hr, I1, ok, q⟩ => args_nil ?_) na) na))
  subst ex
  have fin : ∀ (h' : Heap) (tk : Nat) (acc : Array Value) (c1 : Nat), (∀ x o, s1.heap.get? x = some o → h'.get? x = some o) → h'.get? s1.heap.objs.size = some { cls := .type "list", dict := none, data := .seq acc c1, slots := #[] } → ItemsOf (fun i v => ∃ t, v = .int (a + i * 1) t) acc (b - a).toNat → EP X pins σ Q (.ref s1.heap.objs.size) { s1 with heap := h', toks := tk } := fun h' tk acc c1 k h1 hi => by
    refine ⟨.ref s1.heap.objs.size, upd H1 s1.heap.objs.size (.lst (rgV a b)), I1.laid k (Nat.le_refl _) (show ObjOk X.prog X.w _ _ _ (.lst (rgV a b)) from ⟨?_, acc.toList, c1, vals_rg hi, ?_⟩), rfl, q _ (I1.hok.fresh (Nat.le_refl _))⟩
    · rw [rgV_length, sizeLine_eq]; omega
    · rw [Array.toArray_toList]; exact h1
  cases hs : Builtin.Range.small a b 1 with
  | true => exact call_list_range (n := (b - a).toNat) (I1.ok.hd hc) hr hs (rangeSize_nat a b) ok fin
  | false => exact list_long (n := (b - a).toNat) (I1.ok.hd hc) hr hs (rangeSize_nat a b) ok fin
end
theorem g_lrgL {ta tb : TE} {σ : St} {H : Hp} {Q : VK} (q : ta σ H fun x H1 => tb σ H1 fun y H2 => ∃ m n, x = .int m ∧ y = .int n ∧ ((n - m).toNat ≤ 2 ^ 24 ∧ ∀ l, H2 l = none → Q (.ref l) (upd H2 l (.lst (rgV m n))))) : tLstRgL (tRg2 ta tb) σ H Q := q
end L2

section
open L2 in
local macro_rules | `(tactic| walk_at "gx") => `(tactic| first
  | ((with_reducible show tVar _ _ _ _); refine g_var rfl ?_)
  | with_reducible refine g_c ?_
  | with_reducible refine g_op ?_
  | with_reducible refine g_cons ?_
  | with_reducible refine g_nil ?_
  | with_reducible refine g_test ?_
  | with_reducible refine g_blp ?_
  | with_reducible refine g_asg ?_
  | (with_reducible refine g_name ?_; (try simp only [List.set_cons_zero, List.set_cons_succ]))
  | with_reducible refine g_call ?_
  | with_reducible refine g_cb ?_
  | with_reducible refine g_I0 ?_
  | with_reducible refine g_U ?_
  | with_reducible refine g_eqI ?_
  | with_reducible refine g_neI ?_
  | with_reducible refine g_if ?_
  | with_reducible refine g_ret ?_
  | with_reducible refine g_retN ?_
  | with_reducible refine g_next ?_
  | with_reducible refine g_drop ?_
  | with_reducible refine g_un ?_
  | with_reducible refine g_tb ?_
  | with_reducible refine g_tup ?_
  | with_reducible refine g_lst ?_
  | with_reducible refine g_and ?_
  | with_reducible refine g_or ?_
  | with_reducible refine g_not ?_
  | with_reducible refine g_andV ?_
  | with_reducible refine g_orV ?_
  | with_reducible refine g_notV ?_
  | with_reducible refine g_ifE ?_
  | with_reducible refine g_fld ?_
  | with_reducible refine g_tt ?_
  | with_reducible refine g_ff ?_
  | with_reducible refine g_ntt ?_
  | with_reducible refine g_nff ?_
  | with_reducible refine g_for ?_
  | with_reducible refine g_list ?_
  | with_reducible refine g_tupI ?_
  | with_reducible refine g_rng1 ?_
  | with_reducible refine g_rng2 ?_
  | with_reducible refine g_enumA ?_
  | with_reducible refine g_rev ?_
  | with_reducible refine g_lc ?_
  | with_reducible refine g_gcons ?_
  | with_reducible refine g_gnil ?_
  | with_reducible refine g_yes ?_
  | with_reducible refine g_sl ?_
  | with_reducible refine g_nopart ?_
  | with_reducible refine g_part ?_
  | with_reducible refine g_int ?_
  | with_reducible refine g_dget ?_
  | with_reducible refine g_dput ?_
  | with_reducible refine g_raiseX ?_
  | with_reducible refine g_tru ?_
  | with_reducible refine g_sub ?_
  | with_reducible refine g_isN ?_
  | with_reducible refine g_notN ?_
  | with_reducible refine g_bm ?_
  | with_reducible refine L2.g_bm0 ?_
  | with_reducible refine g_pair ?_
  | with_reducible refine g_pair0 ?_
  | with_reducible refine u_int1 ?_
  | with_reducible refine g_chain ?_
  | with_reducible refine L2.g_sfld ?_
  | (with_reducible refine g_par3 ?_)
  | (with_reducible refine g_three ?_; (try simp only [List.set_cons_zero, List.set_cons_succ]))
  | ((with_reducible apply L2.g_tupT); walk_at "up"; rfl)
  | (with_reducible refine g_par ?_)
  | (with_reducible refine g_two ?_; (try simp only [List.set_cons_zero, List.set_cons_succ]))
  )
local macro_rules | `(tactic| walk_at "go") => `(tactic| first | walk_at "gx" | with_reducible refine L2.g_seq ?_)
local macro_rules | `(tactic| walk_at "gou") => `(tactic| repeat (walk_at "gx"))
local macro_rules | `(tactic| walk_at "gos") => `(tactic| repeat (walk_at "go"))
local macro_rules | `(tactic| walk_at "sl") => `(tactic| first
  | assumption
  | exact L2.Same.l (by assumption)
  | exact L2.SameD.l (by assumption)
  | exact L2.extN_l (by assumption))
local macro_rules | `(tactic| walk_at "up") => `(tactic| first
  | assumption
  | ((with_reducible apply L2.SameL.lst); walk_at "sl"; walk_at "up")
  | ((with_reducible apply L2.SameL.tupA); walk_at "sl"; walk_at "up")
  | ((with_reducible apply L2.SameL.ins); walk_at "sl"; walk_at "up")
  | ((with_reducible apply Ev.PB.l); walk_at "sl"; walk_at "up")
  | ((with_reducible apply Ev.IsP.l); walk_at "sl"; walk_at "up")
  | ((with_reducible apply L2.sqL); walk_at "up")
  | ((with_reducible apply L2.sqT); walk_at "up")
  | ((with_reducible apply L2.SameL.seq); walk_at "sl"; walk_at "up")
  | ((with_reducible apply Ev.Pen.same); assumption; walk_at "up")
  | ((with_reducible apply Ev.Pen.extN); assumption; walk_at "up")
  | ((with_reducible apply L2.tabs_s); assumption; walk_at "up")
  | ((with_reducible apply L2.tabs_dd); assumption; walk_at "up")
  | ((with_reducible apply Or.inl); walk_at "up")
  | ((with_reducible apply Or.inr); walk_at "up"))
local macro_rules | `(tactic| walk_at "new") => `(tactic| (
  first
    | refine ⟨L2.size_ok (by rfl), fun p hp => ?_⟩
    | refine fun p hp => ?_
  generalize hX : L2.upd _ p _ = H1
  obtain ⟨e, h⟩ := L2.news hp hX
  clear hX))
local macro_rules | `(tactic| walk_at "o") => `(tactic| first
  | ((with_reducible apply Ev.o_add); walk_at "up"; walk_at "up"; rfl; rfl; rfl)
  | ((with_reducible apply Ev.o_sub); walk_at "up"; walk_at "up"; rfl; rfl; rfl)
  | ((with_reducible apply Ev.o_mul); walk_at "up"; walk_at "up"; rfl; rfl; rfl)
  | ((with_reducible apply Ev.o_addI); walk_at "up"; assumption; rfl; rfl; rfl)
  | ((with_reducible apply Ev.o_subI); walk_at "up"; assumption; rfl; rfl; rfl)
  | ((with_reducible apply Ev.o_mulI); walk_at "up"; assumption; rfl; rfl; rfl)
  | ((with_reducible apply Ev.o_radd); walk_at "up"; assumption; rfl; rfl; rfl)
  | ((with_reducible apply Ev.o_rsub); walk_at "up"; assumption; rfl; rfl; rfl)
  | ((with_reducible apply Ev.o_rmul); walk_at "up"; assumption; rfl; rfl; rfl)
  | ((with_reducible apply Ev.o_neg); walk_at "up"; rfl; rfl; rfl))
local macro_rules | `(tactic| walk_at "eq") => `(tactic| ((with_reducible apply Ev.u_ownB); assumption; walk_at "up"; walk_at "up"; (focus (intro k; first | rfl | exact Pl.e_add | exact Pl.e_sub | exact Pl.e_mul | exact Pl.e_rsub | exact Pl.e_rsub2))))
local macro_rules | `(tactic| walk_at "isp") => `(tactic| (apply Ev.u_isB; walk_at "up"; walk_at "up"; rfl; rfl))

/-! last_above, all_with. -/
namespace Pl
theorem sorted_ext : ∀ {xs ys : List Int}, xs.Pairwise (· < ·) → ys.Pairwise (· < ·) → (∀ k, k ∈ xs ↔ k ∈ ys) → xs = ys
  | [], [], _, _, _ => rfl
  | [], y :: _, _, _, h => absurd ((h y).mpr List.mem_cons_self) (by simp)
  | x :: _, [], _, _, h => absurd ((h x).mp List.mem_cons_self) (by simp)
  | x :: xs, y :: ys, h1, h2, h => by
    obtain ⟨a1, a2⟩ := List.pairwise_cons.mp h1
    obtain ⟨b1, b2⟩ := List.pairwise_cons.mp h2
    have e : x = y := by
      rcases List.mem_cons.mp ((h x).mp List.mem_cons_self) with z | z
      · exact z
      · rcases List.mem_cons.mp ((h y).mpr List.mem_cons_self) with w | w
        · exact w.symm
        · have := a1 y w; have := b1 x z; omega
    subst e
    rw [sorted_ext a2 b2 fun k => ?_]
    constructor
    · intro hk
      rcases List.mem_cons.mp ((h k).mp (List.mem_cons_of_mem _ hk)) with z | z
      · have := a1 k hk; omega
      · exact z
    · intro hk
      rcases List.mem_cons.mp ((h k).mpr (List.mem_cons_of_mem _ hk)) with z | z
      · have := b1 k hk; omega
      · exact z
/-- the zeros below m, ascending -/
def Zs (φ : Int → Int) (m : Int) (zs : List Int) : Prop := zs.Pairwise (· < ·) ∧ ∀ k, k ∈ zs ↔ 0 ≤ k ∧ k < m ∧ φ k = 0
def upto (a h : Int) : List Int := (List.range (h + 1 - a).toNat).map fun i => a + (i : Nat)
theorem mem_upto {a h k : Int} : k ∈ upto a h ↔ a ≤ k ∧ k ≤ h := by
  unfold upto
  rw [List.mem_map]
  constructor
  · rintro ⟨i, hi, rfl⟩
    rw [List.mem_range] at hi
    omega
  · rintro ⟨h1, h2⟩
    exact ⟨(k - a).toNat, by rw [List.mem_range]; omega, by omega⟩
theorem upto_sorted (a h : Int) : (upto a h).Pairwise (· < ·) := by
  unfold upto
  rw [List.pairwise_map]
  exact List.pairwise_lt_range.imp fun h => by omega
theorem Zs.zero {φ : Int → Int} {m h : Int} {zs : List Int} (hz : Zs φ m zs) (h0 : 0 ≤ m) (hm : m ≤ h) (hφ : ∀ n, m ≤ n → n ≤ h → φ n = 0) : Zs φ (h + 1) (zs ++ upto m h) := by
  refine ⟨List.pairwise_append.mpr ⟨hz.1, upto_sorted m h, fun a ha b hb => ?_⟩, fun k => ?_⟩
  · have := ((hz.2 a).mp ha).2.1
    have := (mem_upto.mp hb).1
    omega
  · rw [List.mem_append, hz.2, mem_upto]
    constructor
    · rintro (⟨a, b, c⟩ | ⟨a, b⟩)
      · exact ⟨a, by omega, c⟩
      · exact ⟨by omega, by omega, hφ k a b⟩
    · rintro ⟨a, b, c⟩
      by_cases z : k < m
      · exact .inl ⟨a, z, c⟩
      · exact .inr ⟨by omega, by omega⟩
theorem Zs.skip {φ : Int → Int} {m h : Int} {zs : List Int} (hz : Zs φ m zs) (hm : m ≤ h) (hφ : ∀ n, m ≤ n → n ≤ h → φ n ≠ 0) : Zs φ (h + 1) zs := by
  refine ⟨hz.1, fun k => ?_⟩
  rw [hz.2]
  constructor
  · rintro ⟨a, b, c⟩; exact ⟨a, by omega, c⟩
  · rintro ⟨a, b, c⟩
    exact ⟨a, Int.not_le.mp fun z => hφ k z (by omega) c, c⟩
/-- a row of its own is nowhere 0 so often in a row -/
theorem few_zeros {rs : List Int} (hne : rs ≠ []) (hl : at0 rs (rs.length - 1) ≠ 0) {a : Int} (h : ∀ n, a ≤ n → n < a + rs.length → hv rs n = 0) : False := by
  have z : ∀ n, hv rs n = 0 := (flat_hv rs).zero (s := a) fun i hi => h _ (by omega) (by omega)
  have z2 : ∀ t, ev (at0 rs) rs.length t = 0 := fun t => by rw [← hv_ev]; exact z t
  have h0 : 0 < rs.length := List.length_pos_iff.mpr hne
  exact hl (ev_zero z2 (rs.length - 1) (by omega))
end Pl
namespace Ev
open PySem PySem.Spec PyProof.Rows L2 Pl
theorem pb_val {H : Hp} {x C : Addr} {f : Nat → Int} {v : Int} {n b c : Nat} {rs : List Int} {u : Int} (h : PB H x C f v n b c) (hx : IsP H x C rs u) (t : Int) : hv rs t * v = ev f n t * u := (PWv.of h).val hx t
theorem pb_sgn {H : Hp} {x C : Addr} {f : Nat → Int} {v : Int} {n b c : Nat} {rs : List Int} {u : Int} (h : PB H x C f v n b c) (hx : IsP H x C rs u) (hu : 0 < u) (t : Int) : (hv rs t).sign = (ev f n t).sign := by
  have hv0 := h.1.pos
  have h2 : (hv rs t * v).sign = (ev f n t * u).sign := by rw [pb_val h hx]
  rw [Int.sign_mul, Int.sign_mul, Int.sign_eq_one_of_pos hv0, Int.sign_eq_one_of_pos hu, Int.mul_one, Int.mul_one] at h2
  exact h2
/-- what is wanted of a piece that signs_of is asked of -/
theorem pb_signs {K : PySem.W.Frag} {C CP : Addr} {H : Hp} {x : Addr} {f : Nat → Int} {v lo : Int} {n b c : Nat} {Q : VK} {E : XK} (h : PB H x C f v n b c) (hn : n ≤ 13) (hb : b ≤ 4500) (hc : c ≤ 3000) (hlo : Bd 1 lo)
    (q : ∀ l H' T, H l = none → Same H H' → TrL K H' l T → T.length ≤ 600000 → WL (fun k => (ev f n k).sign) lo T none → AD (sgs T) → Q (.ref l) H') : spSigns K C CP [.ref x, .int lo] H Q E := by
  obtain ⟨sb, rs, u, hx, hF⟩ := id h
  obtain ⟨f1, f2, f3⟩ := hF.small
  have hu := hF.1.pos
  have hrl := f3 _ sb.low
  refine ⟨x, _, rfl, .inl ⟨rs, u, lo, b, 1, c, rfl, hx, by omega, fun k => (sb.row k).le (f2 k), sb.und.le (by omega), hu, hlo, by decide, by omega, by omega, hc, fun l H' T fr e hT hTl hW hA => q l H' T fr e hT hTl (hW.congr fun k => pb_sgn h hx hu k) hA⟩⟩
section
variable {P : Program} {w : World} {K : PySem.W.Frag} {mg : Str → Option Value} {base : Heap}
def lastA (T : List Tri) : V := T.foldl (fun v t => if t.2.2 = 1 then oV t.2.1 else v) (.int (-1))
def spLastA (K : PySem.W.Frag) (C : Addr) : Sp := fun vs H Q _ => ∃ (x : Addr) (f : Nat → Int) (v : Int) (n b c : Nat), vs = [.ref x] ∧ PB H x C f v n b c ∧ n ≤ 13 ∧ b ≤ 4500 ∧ c ≤ 3000 ∧ ∀ T H', Same H H' → WL (fun k => (ev f n k).sign) 0 T none → AD (sgs T) → Q (lastA T) H'
theorem sc_last_above : FnScope ["p", "last", "low", "high", "sign"] ["p"] (defScope (topS 32)) := ⟨rfl, rfl, rfl, by decide +kernel, rfl, by decide +kernel, by decide +kernel⟩
theorem ok_last_above {C_Piece CP : Addr} (B : Bn mg) (G_signs_of_1 : CallFD P w K mg base "signs_of" ["p", "low"] 28 (spSigns K C_Piece CP) [.int 0])
    {f : Addr} {fd : FuncData} (F : Fun K "last_above" "last_above" (topS 32) f fd) : FnOk P w K mg base (L2.CX P w) 29 f fd ["p"] (spLastA K C_Piece) := by
  have nd := sc_last_above.nd
  refine F.okX sc_last_above (fun vs H Q E h => ?_) (fun cdv A outer s H vs Q E hr h => ?_)
  · obtain ⟨x, g, v, n, b, c, rfl, _⟩ := h
    rfl
  · refine ⟨_, (pss_cons (ps_set (i := 1) nd rfl (.inl rfl) (pe_un un_neg pe_int))
      (pss_cons (ps_for (passes_of rfl) rfl (pi_listK (K := K) rfl (pe_callFD G_signs_of_1 (hr.mono (by decide)) rfl (passes_call (takes_of rfl rfl rfl rfl) (fun _ _ _ _ h => h)) (pa_cons (pv 0) pa_nil))) (pg_tupK (K := K) (n := 3) rfl rfl (pgs_cons (pg_name (i := 2) nd rfl (.inl rfl)) (pgs_cons (pg_name (i := 3) nd rfl (.inl rfl)) (pgs_cons (pg_name (i := 4) nd rfl (.inl rfl)) pgs_nil)))) (pss_one (ps_if (pt_cmpR op_eq (pv 4) pe_int (nomark _)) (pss_one (ps_set (i := 1) nd rfl (.inl rfl) (pv 3))) pss_nil)))
      (pss_one (ps_ret (pv 1))))), ?_⟩
    obtain ⟨x, g, v, n, b, c, rfl, hx, hn, hb, hc, q⟩ := h
    refine g_st (σ' := [some (.ref x), none, none, none, none]) rfl ?_
    walk_at "gos"
    refine pb_signs hx hn hb hc (by unfold Bd; decide) fun l H1 T _ e1 hT hTl hW hA => ?_
    walk_at "gos"
    obtain ⟨vs, hvs, hTr⟩ := hT
    have hln := hTr.len
    refine u_it (sqL hvs) ?_
    refine for_it walk_list (fun i σ' H' => Same H1 H' ∧ ∃ y2 y3 y4, σ' = [some (.ref x), some (lastA (T.take i)), y2, y3, y4]) ?_ (fun i _ H' _ p => sqL (p.1 _ _ hvs)) (fun i y σ' H' H4 hi p yy => ?_) (fun σ' H' p => ?_)
    · exact ⟨Same.refl _, none, none, none, rfl⟩
    · obtain ⟨e2, y2, y3, y4, rfl⟩ := p
      obtain ⟨rfl, hy⟩ := yy
      obtain ⟨⟨tl, th, ts⟩, ht1, a7, rfl, ht2⟩ := (hTr.d e2.d).at_ hy
      have hstep : lastA (T.take (i + 1)) = if ts = 1 then oV th else lastA (T.take i) := by
        unfold lastA
        rw [List.take_add_one, ht1, List.foldl_append]
        rfl
      walk_at "gos"
      by_cases c1 : ts = 1
      · rw [if_pos (by rw [decide_eq_true_iff]; exact c1)]
        rw [if_pos c1] at hstep
        walk_at "gos"
        exact ⟨e2, _, _, _, by rw [hstep]⟩
      · rw [if_neg (by rw [decide_eq_true_iff]; exact c1)]
        rw [if_neg c1] at hstep
        walk_at "gos"
        exact ⟨e2, _, _, _, by rw [hstep]⟩
    · obtain ⟨e2, y2, y3, y4, rfl⟩ := p
      walk_at "gos"
      rw [List.take_of_length_le (by omega)]
      exact q T H' (e1.trans e2) hW hA
def AllW (H H' : Hp) (φ : Int → Int) (r : V) : Prop := (r = .non ∧ ∀ k, φ k = 0) ∨ ∃ (l : Addr) (zs : List Int), r = .ref l ∧ H l = none ∧ H' l = some (.lst (zs.map V.int)) ∧ zs.Pairwise (· < ·) ∧ (∀ k, k ∈ zs ↔ 0 ≤ k ∧ φ k = 0) ∧ ∀ k ∈ zs, Bd 4400 k
def spAllW (K : PySem.W.Frag) (C CB : Addr) : Sp := fun vs H Q E => ∃ (x : Addr) (iv : V), vs = [.ref x, iv] ∧
  ((∃ (f : Nat → Int) (v i : Int) (n b c : Nat), iv = .int i ∧ PB H x C f v n b c ∧ n ≤ 13 ∧ b ≤ 3000 ∧ c ≤ 1000 ∧ Bd 300 i ∧ ∀ r H', Same H H' → AllW H H' (fun k => ev f n k - i * v) r → Q r H') ∨ (Kd K H iv false ∧ ExcN H CB iv E))
theorem sc_all_with : FnScope ["p", "value", "rest", "found", "low", "high", "sign"] ["p", "value"] (defScope (topS 33)) := ⟨rfl, rfl, rfl, by decide +kernel, rfl, by decide +kernel, by decide +kernel⟩
theorem ok_all_with {C_Piece CP CB : Addr} (B : Bn mg) (c_Piece : Cls K C_Piece) (n_row : NoAttr K C_Piece "row") (X_BadNumber : ExT P K mg "BadNumber" CB ["number"]) (G_is_integer : CallF P w K mg base "is_integer" ["value"] 1 (spIsInteger K)) (OS_Piece : OwnF P w K mg base C_Piece "__sub__" ["self", "other"] 8 (spSub K C_Piece)) (OIS_Piece : OpI K C_Piece .Sub)
    (G_signs_of_1 : CallFD P w K mg base "signs_of" ["p", "low"] 28 (spSigns K C_Piece CP) [.int 0])
    {f : Addr} {fd : FuncData} (F : Fun K "all_with" "all_with" (topS 33) f fd) : FnOk P w K mg base (L2.CX P w) 29 f fd ["p", "value"] (spAllW K C_Piece CB) := by
  have nd := sc_all_with.nd
  refine F.okX sc_all_with (fun vs H Q E h => ?_) (fun cdv A outer s H vs Q E hr h => ?_)
  · obtain ⟨x, iv, rfl, _⟩ := h
    rfl
  · refine ⟨_, (pss_cons (ps_if (pt_not (pt_val (pe_callF G_is_integer (hr.mono (by decide)) rfl passL (pa_cons (pv 1) pa_nil)))) (pss_one (ps_raiseX rfl X_BadNumber hr (takes_of rfl rfl rfl rfl) (pa_cons (pv 1) pa_nil))) pss_nil)
      (pss_cons (ps_set (i := 2) nd rfl (.inl rfl) (pe_op (op_ownJ OS_Piece rfl OIS_Piece (hr.mono (by decide)) passL) (pv 0) (pv 1)))
      (pss_cons (ps_if (pt_cmpR (op_eqDK (K := K) rfl hr.units) (pe_fldK (K := K) rfl (pv 2) rfl) (pe_tup pa_nil) (nomark _)) (pss_one (ps_ret pe_non)) pss_nil)
      (pss_cons (ps_set (i := 3) nd rfl (.inl rfl) (pe_lst pa_nil))
      (pss_cons (ps_for (passes_of rfl) rfl (pi_listK (K := K) rfl (pe_callFD G_signs_of_1 (hr.mono (by decide)) rfl (passes_call (takes_of rfl rfl rfl rfl) (fun _ _ _ _ h => h)) (pa_cons (pv 2) pa_nil))) (pg_tupK (K := K) (n := 3) rfl rfl (pgs_cons (pg_name (i := 4) nd rfl (.inl rfl)) (pgs_cons (pg_name (i := 5) nd rfl (.inl rfl)) (pgs_cons (pg_name (i := 6) nd rfl (.inl rfl)) pgs_nil)))) (pss_one (ps_if (pt_cmpR op_eq (pv 6) pe_int (nomark _)) (pss_one (ps_expr (pe_bm PySem.F.plainAttrs_list PySem.F.slot_list_extend PySem.F.type_list_extend mt_extend (pv 3) (pa_cons (pe_listRgL rfl (by rfl) B.list_ (prg_2 (by rfl) B.range (pv 4) (pe_op op_add (pv 5) pe_int))) pa_nil)))) pss_nil)))
      (pss_one (ps_ret (pv 3)))))))), ?_⟩
    obtain ⟨x, iv, rfl, h⟩ := h
    refine g_st (σ' := [some (.ref x), some iv, none, none, none, none, none]) rfl ?_
    walk_at "gos"
    rcases h with ⟨g, v, i, n, b, c, rfl, hx, hn, hb, hc, hbi, q⟩ | ⟨hk, hq⟩
    · refine ⟨_, true, rfl, Kd.int, ?_⟩
      walk_at "gos"
      refine o_subI hx hbi (Nat.ble_eq_true_of_le (by omega)) (Nat.ble_eq_true_of_le (by omega)) (Nat.ble_eq_true_of_le (by omega)) fun y H1 e1 hy => ?_
      walk_at "gos"
      obtain ⟨sb, rs, u, hI, hF⟩ := id hy
      obtain ⟨f1, f2, f3⟩ := hF.small
      have hu := hF.1.pos
      obtain ⟨dy, ty, hy1, hty⟩ := id hI
      have hev : ∀ k, ev (fun k => g k + -one i k * v) (max n 1) k = ev g n k - i * v := fun k => by
        obtain ⟨d, hd⟩ : ∃ d, max n 1 = n + d := ⟨max n 1 - n, by omega⟩
        obtain ⟨d', hd'⟩ : ∃ d', max n 1 = d' + 1 := ⟨max n 1 - 1, by omega⟩
        have e1 : ev g (max n 1) k = ev g n k := by rw [hd]; exact ev_big hx.1.low d
        have e2 : ev (one i) (max n 1) k = i := by rw [hd']; exact ev_one d'
        have e3 : (fun k => -one i k * v) = fun k => one i k * -v := funext fun k => by rw [Int.neg_mul, Int.mul_neg]
        rw [ev_add, e3, ev_scale, e1, e2, Int.mul_neg]
        omega
      have hzero : ∀ k, hv rs k = 0 ↔ ev g n k - i * v = 0 := fun k => by
        have z := pb_val hy hI k
        rw [hev] at z
        have hv0 := hy.1.pos
        constructor
        · intro y0
          rw [y0, Int.zero_mul] at z
          rcases Int.mul_eq_zero.mp z.symm with y1 | y1
          · exact y1
          · omega
        · intro y0
          rw [y0, Int.zero_mul] at z
          rcases Int.mul_eq_zero.mp z with y1 | y1
          · exact y1
          · omega
      refine u_tfld rfl hy1 c_Piece n_row rfl ?_
      walk_at "gos"
      (walk_at "new"; rename_i t2 _ H2 e2 h2; walk_at "gos")
      refine u_eqT (ns := rs) (ms := []) (sqT (e2 _ _ hty)) (sqT h2) ?_
      by_cases c0 : rs = []
      · rw [decide_eq_true c0]
        walk_at "gos"
        refine q _ _ (e1.trans e2) (.inl ⟨rfl, fun k => (hzero k).mp ?_⟩)
        rw [c0]; rfl
      · rw [decide_eq_false c0]
        walk_at "gos"
        (walk_at "new"; rename_i l3 hl3 H3 e3 h3; walk_at "gos")
        have hy3 := hy.same (e2.trans e3)
        have hrl := f3 _ sb.low
        refine pb_signs hy3 (by omega) (by omega) (by omega) (by unfold Bd; decide) fun l4 H4 T _ e4 hT hTl hW hA => ?_
        walk_at "gos"
        have hW2 : WL (fun k => (hv rs k).sign) 0 T none := hW.congr fun k => (pb_sgn hy hI hu k).symm
        obtain ⟨us4, hus4, hTr⟩ := hT
        have hln := hTr.len
        have hl43 : l4 ≠ l3 := fun z => by
          have := e4 _ _ h3
          rw [z, this] at hus4
          cases hus4
          cases T with
          | nil => cases hW
          | cons _ _ => exact hTr.elim
        have hnz : ∀ {a : Int}, (∀ k, a ≤ k → k < a + rs.length → hv rs k = 0) → False := fun h => few_zeros c0 (hF.1.low c0) h
        refine u_it (sqL hus4) ?_
        refine for_it walk_list (fun j σ' H' => SameX l3 H4 H' ∧ ∃ (zs : List Int) (y4 y5 y6 : Option V), σ' = [some (.ref x), some (.int i), some (.ref y), some (.ref l3), y4, y5, y6] ∧ H' l3 = some (.lst (zs.map V.int)) ∧ zs.length ≤ 13 * j ∧ ((∃ m, 0 ≤ m ∧ WL (fun k => (hv rs k).sign) m (T.drop j) none ∧ Zs (hv rs) m zs) ∨ (T.drop j = [] ∧ zs.Pairwise (· < ·) ∧ ∀ k, k ∈ zs ↔ 0 ≤ k ∧ hv rs k = 0))) ?_ (fun i _ H' _ p => sqL (p.1 _ _ hl43 hus4)) (fun j y' σ' H5 H6 hj p yy => ?_) (fun σ' H5 p => ?_)
        · exact ⟨fun b o _ h => h, [], none, none, none, rfl, e4 _ _ h3, Nat.le_refl _, .inl ⟨0, Int.le_refl _, hW2, List.Pairwise.nil, fun k => ⟨fun z => (by cases z), fun ⟨z1, z2, _⟩ => (by omega)⟩⟩⟩
        · obtain ⟨e5, zs, y4, y5, y6, rfl, hzs, hzl, hst⟩ := p
          obtain ⟨rfl, hyy⟩ := yy
          obtain ⟨⟨tl, th, ts⟩, ht1, a7, rfl, ht2⟩ := (hTr.x (e4 _ _ h3) e5).at_ hyy
          have hjl : j < us4.length := hj
          have hdr : T.drop j = (tl, th, ts) :: T.drop (j + 1) := by
            obtain ⟨hlt, hget⟩ := List.getElem?_eq_some_iff.mp ht1
            rw [List.drop_eq_getElem_cons hlt, hget]
          obtain ⟨m, hm0, hWm, hZ⟩ : ∃ m, 0 ≤ m ∧ WL (fun k => (hv rs k).sign) m (T.drop j) none ∧ Zs (hv rs) m zs := by
            rcases hst with h | ⟨hd, _⟩
            · exact h
            · rw [hdr] at hd; cases hd
          rw [hdr] at hWm
          obtain ⟨rfl, _⟩ := hWm.head
          have hseg := hWm.seg
          have hup := hWm.up
          walk_at "gos"
          by_cases c1 : ts = 0
          · rw [if_pos (by rw [decide_eq_true_iff]; exact c1)]
            subst c1
            cases th with
            | none =>
              exact (hnz (a := tl) fun k k1 _ => Int.sign_eq_zero_iff_zero.mp (hseg k k1 fun h e => by cases e)).elim
            | some h =>
              have hth := hup h rfl
              have hzz : ∀ k, tl ≤ k → k ≤ h → hv rs k = 0 := fun k k1 k2 => Int.sign_eq_zero_iff_zero.mp (hseg k k1 fun h' e => by cases e; exact k2)
              have hshort : (h + 1 - tl).toNat ≤ 13 := by
                refine Nat.not_lt.mp fun z => hnz (a := tl) fun k k1 k2 => hzz k k1 (by omega)
              walk_at "gou"
              refine ⟨.inl ⟨rfl, _, sqL hzs⟩, ?_⟩
              refine g_lrgL ?_
              walk_at "gou"
              refine L2.g_I0 (a := h) ?_
              refine ⟨tl, h + 1, rfl, rfl, by omega, fun l7 hl7 => ?_⟩
              have e67 := same_new (o := .lst (rgV tl (h + 1))) hl7
              have h67 : (upd H6 l7 (.lst (rgV tl (h + 1)))) l7 = some (.lst (rgV tl (h + 1))) := upd_same
              generalize upd H6 l7 (.lst (rgV tl (h + 1))) = H7 at e67 h67 ⊢
              walk_at "gos"
              refine ⟨l3, l7, _, _, rfl, rfl, e67 _ _ hzs, h67, by rw [sizeLine_eq, List.length_map, rgV_length]; omega, ?_⟩
              walk_at "gos"
              refine ⟨(e5.trans (Same.x e67)).trans SameX.upd, zs ++ upto tl h, _, _, _, rfl, ?_, ?_, .inl ⟨h + 1, by omega, hWm.2.2.2, hZ.zero hm0 hth hzz⟩⟩
              · rw [upd_same, List.map_append]
                congr 3
                unfold rgV upto
                rw [List.map_map]
                rfl
              · rw [List.length_append]
                unfold upto
                rw [List.length_map, List.length_range]
                omega
          · rw [if_neg (by rw [decide_eq_true_iff]; exact c1)]
            have hnn : ∀ k, tl ≤ k → (∀ h, th = some h → k ≤ h) → hv rs k ≠ 0 := fun k k1 k2 z => c1 (by rw [← hseg k k1 k2, z]; rfl)
            walk_at "gos"
            refine ⟨e5, zs, _, _, _, rfl, hzs, by omega, ?_⟩
            cases th with
            | none =>
              refine .inr ⟨hWm.2.1, hZ.1, fun k => ?_⟩
              rw [hZ.2]
              constructor
              · rintro ⟨z1, z2, z3⟩; exact ⟨z1, z3⟩
              · rintro ⟨z1, z2⟩
                exact ⟨z1, Int.not_le.mp fun y => hnn k y (fun h e => by cases e) z2, z2⟩
            | some h =>
              exact .inl ⟨h + 1, by have := hup h rfl; omega, hWm.2.2.2, hZ.skip (hup h rfl) fun k k1 k2 => hnn k k1 fun h' e => by cases e; exact k2⟩
        · obtain ⟨e5, zs, y4, y5, y6, rfl, hzs, hzl, hst⟩ := p
          rw [List.drop_of_length_le (by omega)] at hst
          walk_at "gos"
          rcases hst with ⟨m, _, hWm, _⟩ | ⟨_, z1, z2⟩
          · cases hWm
          · refine q _ _ (SameX.same (by
              cases hz : H l3 with
              | none => rfl
              | some o => have := (e1.trans e2) _ _ hz; rw [hl3] at this; cases this) (e1.trans (e2.trans (e3.trans e4))) e5) (.inr ⟨l3, zs, rfl, ?_, hzs, z1, fun k => by rw [z2, hzero], fun k hk => ?_⟩)
            · cases hz : H l3 with
              | none => rfl
              | some o => have := (e1.trans e2) _ _ hz; rw [hl3] at this; cases this
            · obtain ⟨k0, k1⟩ := (z2 k).mp hk
              have brs : ∀ k, Bd 4400 (at0 rs k) := fun k => ((sb.row k).le (f2 k)).mono (by omega)
              have hlt : k < ((2 ^ 4400 : Nat) : Int) := Int.not_le.mp fun z => by
                have y1 := cauchy z brs c0 (hF.1.low c0)
                rw [k1] at y1
                exact hF.1.low c0 (Int.sign_eq_zero_iff_zero.mp y1.symm)
              exact bd_of k0 hlt
    · refine ⟨_, false, rfl, hk, ?_⟩
      walk_at "gos"
      exact u_raise rfl (by decide) fun d H1 _ e1 hd => hq H1 d e1 hd
end
end Ev

end
/-! Signs of a product of factors a * n - b (plain). -/
namespace Pl
abbrev Pr := Int × Int
def fval (c : Int) (ps : List Pr) (n : Int) : Int := ps.foldl (fun v p => v * (p.1 * n - p.2)) c
def fsgn (c : Int) (ps : List Pr) (n : Int) : Int := ps.foldl (fun v p => v * (p.1 * n - p.2).sign) c.sign
theorem fval_sign (n : Int) : ∀ (ps : List Pr) (c : Int), (fval c ps n).sign = fsgn c ps n
  | [], c => rfl
  | p :: ps, c => by
    show (fval (c * (p.1 * n - p.2)) ps n).sign = ps.foldl (fun v p => v * (p.1 * n - p.2).sign) (c.sign * (p.1 * n - p.2).sign)
    rw [fval_sign n ps, ← Int.sign_mul]
    rfl
theorem fsgn_same {n m : Int} : ∀ (ps : List Pr) (c : Int), (∀ p ∈ ps, (p.1 * n - p.2).sign = (p.1 * m - p.2).sign) → fsgn c ps n = fsgn c ps m
  | [], c, _ => rfl
  | p :: ps, c, h => by
    show ps.foldl (fun v p => v * (p.1 * n - p.2).sign) (c.sign * (p.1 * n - p.2).sign) = ps.foldl (fun v p => v * (p.1 * m - p.2).sign) (c.sign * (p.1 * m - p.2).sign)
    rw [h p List.mem_cons_self, ← Int.sign_mul]
    exact fsgn_same ps (c * (p.1 * m - p.2)) fun q hq => h q (List.mem_cons_of_mem _ hq)
/-- one factor's sign does not change but at b // a and behind -/
theorem factor_stays {a b n : Int} (ha : 1 ≤ a) (h0 : n + 1 ≠ b.fdiv a) (h1 : n + 1 ≠ b.fdiv a + 1) : (a * (n + 1) - b).sign = (a * n - b).sign := by
  obtain ⟨q, hq⟩ : ∃ q, q = b.fdiv a := ⟨_, rfl⟩
  rw [← hq] at h0 h1
  have e1 : a * q ≤ b ∧ b < a * q + a := by
    rw [hq, Int.fdiv_eq_ediv_of_nonneg _ (by omega)]
    have z1 := Int.mul_ediv_add_emod b a
    have z2 := Int.emod_nonneg b (show a ≠ 0 by omega)
    have z3 := Int.emod_lt_of_pos b (show 0 < a by omega)
    omega
  rcases (show n + 1 ≤ q - 1 ∨ q + 1 ≤ n by omega) with c | c
  · have z := Int.mul_le_mul_of_nonneg_left c (show 0 ≤ a by omega)
    rw [Int.mul_sub, Int.mul_one] at z
    have z2 : a * (n + 1) = a * n + a := by rw [Int.mul_add, Int.mul_one]
    rw [Int.sign_eq_neg_one_of_neg (by omega), Int.sign_eq_neg_one_of_neg (by omega)]
  · have z := Int.mul_le_mul_of_nonneg_left c (show 0 ≤ a by omega)
    rw [Int.mul_add, Int.mul_one] at z
    have z2 : a * (n + 1) = a * n + a := by rw [Int.mul_add, Int.mul_one]
    rw [Int.sign_eq_one_of_pos (by omega), Int.sign_eq_one_of_pos (by omega)]
theorem fsgn_stays {c n : Int} {ps : List Pr} (ha : ∀ p ∈ ps, 1 ≤ p.1) (h : ∀ p ∈ ps, n + 1 ≠ p.2.fdiv p.1 ∧ n + 1 ≠ p.2.fdiv p.1 + 1) : fsgn c ps (n + 1) = fsgn c ps n :=
  fsgn_same ps c fun p hp => factor_stays (ha p hp) (h p hp).1 (h p hp).2
/-- pairs (place, sign) that cover l .. ahead of m -/
def CP (σ : Int → Int) : Int → List Pr → Int → Prop
  | l, [], m => l = m
  | l, (p, s) :: G, m => p = l ∧ ∃ q, l < q ∧ (∀ n, l ≤ n → n < q → σ n = s) ∧ CP σ q G m
theorem CP.snoc {σ : Int → Int} {s m : Int} : ∀ {G : List Pr} {l q : Int}, CP σ l G q → q < m → (∀ n, q ≤ n → n < m → σ n = s) → CP σ l (G ++ [(q, s)]) m
  | [], l, q, h, h1, h2 => by
    have : l = q := h
    subst this
    exact ⟨rfl, m, h1, h2, rfl⟩
  | (p, t) :: G, l, q, h, h1, h2 => by
    obtain ⟨g1, r, g2, g3, g4⟩ := h
    exact ⟨g1, r, g2, g3, g4.snoc h1 h2⟩
theorem CP.more {σ : Int → Int} {p s m : Int} : ∀ {G : List Pr} {l q : Int}, CP σ l (G ++ [(p, s)]) q → q ≤ m → (∀ n, q ≤ n → n < m → σ n = s) → CP σ l (G ++ [(p, s)]) m
  | [], l, q, h, h1, h2 => by
    obtain ⟨g1, r, g2, g3, g4⟩ := h
    have : r = q := g4
    subst this
    exact ⟨g1, m, by omega, fun n n1 n2 => if c : n < r then g3 n n1 c else h2 n (by omega) n2, rfl⟩
  | (p', t) :: G, l, q, h, h1, h2 => by
    obtain ⟨g1, r, g2, g3, g4⟩ := h
    exact ⟨g1, r, g2, g3, CP.more (G := G) g4 h1 h2⟩
/-- the triples of such pairs -/
def trip : List Pr → List Tri
  | [] => []
  | [(p, s)] => [(p, none, s)]
  | (p, s) :: (q, t) :: r => (p, some (q - 1), s) :: trip ((q, t) :: r)
theorem trip_len : ∀ G : List Pr, (trip G).length = G.length
  | [] => rfl
  | [_] => rfl
  | (p, s) :: (q, t) :: r => by
    show (trip ((q, t) :: r)).length + 1 = _
    rw [trip_len ((q, t) :: r)]
    rfl
theorem trip_sgs : ∀ G : List Pr, sgs (trip G) = G.map fun p => p.2
  | [] => rfl
  | [_] => rfl
  | (p, s) :: (q, t) :: r => by
    show s :: sgs (trip ((q, t) :: r)) = _
    rw [trip_sgs ((q, t) :: r)]
    rfl
theorem trip_at : ∀ {G : List Pr} {k : Nat} {p : Pr}, G[k]? = some p → (trip G)[k]? = some (p.1, (G[k + 1]?).map (fun q => q.1 - 1), p.2)
  | [], _, _, h => by cases h
  | [x], 0, _, h => by cases h; rfl
  | [x], k + 1, _, h => by cases h
  | (a, s) :: (b, t) :: r, 0, _, h => by cases h; rfl
  | (a, s) :: (b, t) :: r, k + 1, p, h => trip_at (G := (b, t) :: r) (k := k) h
theorem CP.trip {σ : Int → Int} {M : Int} : ∀ {G : List Pr} {l : Int}, G ≠ [] → (∀ m, M < m → CP σ l G m) → WL σ l (trip G) none
  | [], _, h, _ => absurd rfl h
  | [(p, s)], l, _, h => by
    obtain ⟨rfl, _⟩ := h (M + 1) (by omega)
    refine ⟨rfl, rfl, rfl, fun n hn => ?_⟩
    obtain ⟨_, q, q1, q2, q3⟩ := h (max (n + 1) (M + 1)) (by omega)
    have : q = max (n + 1) (M + 1) := q3
    exact q2 n hn (by omega)
  | (p, s) :: (p', s') :: r, l, _, h => by
    obtain ⟨rfl, q, q1, q2, rfl, _⟩ := h (M + 1) (by omega)
    refine ⟨rfl, by omega, fun n n1 n2 => q2 n n1 (by omega), ?_⟩
    rw [show p' - 1 + 1 = p' by omega]
    refine CP.trip (M := M) (G := (p', s') :: r) (by simp) fun m hm => ?_
    obtain ⟨_, q', _, _, h3⟩ := h m hm
    obtain ⟨h4, h5⟩ := id h3
    rw [← h4] at h3
    exact h3
/-- what the law's loop over the spots keeps -/
def GS (σ : Int → Int) (low : Int) (S : List Int) (i : Nat) (G : List Pr) : Prop :=
  (i = 0 → G = []) ∧ (0 < i → G ≠ [] ∧ ∀ m, (∀ s ∈ S.take i, s < m) → (∀ s ∈ S.drop i, m ≤ s) → CP σ low G m) ∧ AD (G.map fun p => p.2) ∧ G.length ≤ i
def gstep (G : List Pr) (s t : Int) : List Pr := match G.getLast? with
  | some p => if p.2 ≠ t then G ++ [(s, t)] else G
  | none => [(s, t)]
theorem gs_step {σ : Int → Int} {low : Int} {S : List Int} (hp : S.Pairwise (· < ·)) (hl : low ∈ S) (hg : ∀ s ∈ S, low ≤ s) (hs : ∀ n, low ≤ n → n + 1 ∉ S → σ (n + 1) = σ n)
    {i : Nat} {s : Int} (hi : S[i]? = some s) {G : List Pr} (h : GS σ low S i G) : GS σ low S (i + 1) (gstep G s (σ s)) := by
  obtain ⟨h0, h1, hA, hL⟩ := h
  obtain ⟨hil, his⟩ := List.getElem?_eq_some_iff.mp hi
  have hsm : s ∈ S := List.mem_of_getElem? hi
  have tk : S.take (i + 1) = S.take i ++ [s] := by rw [List.take_add_one, hi]; rfl
  have dr : S.drop i = s :: S.drop (i + 1) := by rw [List.drop_eq_getElem_cons hil, his]
  have split := List.take_append_drop i S
  have hp2 : (S.take i ++ S.drop i).Pairwise (· < ·) := by rw [split]; exact hp
  obtain ⟨_, pd, px⟩ := List.pairwise_append.mp hp2
  rw [dr] at pd px
  have pd2 := (List.pairwise_cons.mp pd).1
  have con : ∀ m, (∀ t ∈ S.drop (i + 1), m ≤ t) → ∀ (d : Nat), s + d < m → σ (s + d) = σ s := by
    intro m hm d
    induction d with
    | zero => intro _; simp
    | succ d ih =>
      intro hd
      have e : s + ((d + 1 : Nat) : Int) = s + d + 1 := by omega
      rw [e, hs (s + d) (by have := hg s hsm; omega) fun z => ?_, ih (by omega)]
      rw [← split, dr] at z
      rcases List.mem_append.mp z with z | z
      · have := px _ z s List.mem_cons_self; omega
      · rcases List.mem_cons.mp z with z | z
        · omega
        · have := hm _ z; omega
  have con2 : ∀ m, (∀ t ∈ S.drop (i + 1), m ≤ t) → ∀ n, s ≤ n → n < m → σ n = σ s := fun m hm n n1 n2 => by
    have := con m hm (n - s).toNat (by omega)
    rwa [show s + ((n - s).toNat : Int) = n by omega] at this
  refine ⟨fun z => by omega, fun _ => ?_, ?_, ?_⟩
  · rcases Nat.eq_zero_or_pos i with z | z
    · have hG := h0 z
      subst hG
      subst z
      have hsl : s = low := by
        have := hg s hsm
        rw [← split, dr] at hl
        rcases List.mem_append.mp hl with y | y
        · rw [List.take_zero] at y; cases y
        · rcases List.mem_cons.mp y with y | y
          · exact y.symm
          · have := pd2 _ y; omega
      refine ⟨by simp [gstep], fun m m1 m2 => ?_⟩
      rw [tk] at m1
      have := m1 s (by simp)
      show CP σ low [(s, σ s)] m
      rw [← hsl]
      exact ⟨rfl, m, this, con2 m m2, rfl⟩
    · obtain ⟨g1, g2⟩ := h1 z
      obtain ⟨G0, p, rfl⟩ : ∃ G0 p, G = G0 ++ [p] := ⟨_, _, (List.dropLast_concat_getLast g1).symm⟩
      have cps : CP σ low (G0 ++ [p]) s := g2 s (fun t ht => px t ht s List.mem_cons_self) (fun t ht => by
        rw [dr] at ht
        rcases List.mem_cons.mp ht with y | y
        · omega
        · have := pd2 _ y; omega)
      unfold gstep
      rw [List.getLast?_concat]
      dsimp only
      by_cases c : p.2 = σ s
      · rw [if_neg (by simp [c])]
        refine ⟨by simp, fun m m1 m2 => ?_⟩
        rw [tk] at m1
        have := m1 s (by simp)
        obtain ⟨p1, p2⟩ := p
        dsimp only at c
        exact CP.more cps (by omega) fun n n1 n2 => by rw [c]; exact con2 m m2 n n1 n2
      · rw [if_pos c]
        refine ⟨by simp, fun m m1 m2 => ?_⟩
        rw [tk] at m1
        have := m1 s (by simp)
        exact CP.snoc cps this (con2 m m2)
  · unfold gstep
    cases hq : G.getLast? with
    | none => trivial
    | some p =>
      dsimp only
      split
      · rename_i c
        rw [List.map_append]
        refine hA.snoc fun b hb => ?_
        rw [List.getLast?_map, hq] at hb
        cases hb
        exact c
      · exact hA
  · unfold gstep
    cases hq : G.getLast? with
    | none => simp
    | some p =>
      dsimp only
      split
      · rw [List.length_append, List.length_singleton]; omega
      · omega
theorem gs_end {σ : Int → Int} {low : Int} {S : List Int} {G : List Pr} (hl : low ∈ S) (hp : ∃ M, ∀ s ∈ S, s ≤ M) (h : GS σ low S S.length G) : WL σ low (trip G) none ∧ AD (sgs (trip G)) := by
  obtain ⟨M, hM⟩ := hp
  have h0 : 0 < S.length := List.length_pos_of_mem hl
  obtain ⟨g1, g2⟩ := h.2.1 h0
  refine ⟨CP.trip (M := M) g1 fun m hm => g2 m (fun s hs => ?_) (fun s hs => ?_), by rw [trip_sgs]; exact h.2.2.1⟩
  · rw [List.take_length] at hs
    have := hM s hs
    omega
  · rw [List.drop_length] at hs; cases hs
theorem bounded : ∀ S : List Int, ∃ M, ∀ s ∈ S, s ≤ M
  | [] => ⟨0, fun s h => by cases h⟩
  | x :: S => by
    obtain ⟨M, hM⟩ := bounded S
    refine ⟨max x M, fun s hs => ?_⟩
    rcases List.mem_cons.mp hs with h | h
    · omega
    · have := hM s h; omega
end Pl
namespace Pl
def negT (t : Tri) : Tri := (t.1, t.2.1, -t.2.2)
theorem WL.neg {σ τ : Int → Int} (h : ∀ n, τ n = -σ n) : ∀ {T : List Tri} {l : Int} {e : Option Int}, WL σ l T e → WL τ l (T.map negT) e
  | [], _, _, hT => hT
  | (a, none, s) :: T, l, e, hT => by
    obtain ⟨h1, rfl, h3, h4⟩ := hT
    exact ⟨h1, rfl, h3, fun n hn => by rw [h, h4 n hn]⟩
  | (a, some x, s) :: T, l, e, hT => by
    obtain ⟨h1, h2, h3, h4⟩ := hT
    exact ⟨h1, h2, fun n n1 n2 => by rw [h, h3 n n1 n2], WL.neg h h4⟩
theorem AD.neg : ∀ {xs : List Int}, AD xs → AD (xs.map fun x => -x)
  | [], _ => trivial
  | [_], _ => trivial
  | a :: b :: r, h => ⟨fun z => h.1 (by have : -a = -b := z; omega), AD.neg (xs := b :: r) h.2⟩
theorem sgs_neg (T : List Tri) : sgs (T.map negT) = (sgs T).map fun x => -x := by
  unfold sgs
  rw [List.map_map, List.map_map]
  rfl
theorem ev_neg {f : Nat → Int} {n : Nat} {t : Int} : ev (fun k => -f k) n t = -ev f n t := by
  have e : (fun k => -f k) = fun k => f k * -1 := funext fun k => by omega
  rw [e, ev_scale]
  omega
end Pl

/-! x(e, ..), x a local that holds an instance of an own class with __call__. -/
namespace PySem.W
open PySem PySem.Calls PyProof.Rows PyProof.V PySem.Spec
theorem callWith_ins {M : Model} {A : Around} {E : Value → Shared → Prop} {s : Shared} {pos : Pos} {x : Addr} {ob : Obj} {first : List Value} {Q : Value → Shared → Prop} {args : List (Bool × Sem Value)} {keywords : List (Option Str × Sem Value)}
    (plain : (args.any (·.1) || keywords.any (·.1.isNone)) = false) (hd : ob.data = .plain)
    (h : wpAny M A (evalArgs (.ref x) true args keywords) (fun a s1 => s1.heap.get? x = some ob ∧ wpAny M A (call (.ref x) (first ++ a.pos) a.kw) Q E s1) E s) : wpAny M A (callWith pos (.ref x) first args keywords) Q E s := by
  unfold callWith
  refine wpAny_bind (wpAny_holding (wpAny_mono h (fun a s1 ⟨at_, run⟩ => ?_) fun _ _ z => z))
  have keeper : Looks M s1.heap (keeperOf (.ref x)) .caller := (Looks.ld (part := none) at_).andThen (by simp only [hd]; exact .now)
  refine wpAny_bind (wpAny_standAt ?_)
  simp only [plain]
  exact wpAny_bind (keeper.here (wpAny_bind (wpAny_mono (wpAny_operateT run) (fun _ _ r => wpAny_bind (wpAny_holding (wpAny_point (wpAny_pure r)))) fun _ _ z => z)))
end PySem.W
namespace L2
open PySem PySem.Spec PyProof.Rows
/-- the i-th slot holds an instance of the class at C; its __call__ is promised -/
def tCallO (C : Addr) (i : Nat) (sp : Sp) (E : St → XK) (t : TA) : TE := fun σ H Q => ∃ a dx fs, σ[i]? = some (some (.ref a)) ∧ H a = some (.ins C dx fs) ∧ t σ H fun vs H1 => H1 a = some (.ins C dx fs) ∧ sp (.ref a :: vs) H1 Q (E σ)
/-- .. from what holds at all slots -/
theorem passAtOf {X : Cx} {CX : CXT} {E : XK} (h : Passes CX X E) (σ : St) : PassesAt CX X σ E := fun pins H s e s' I c => h pins σ H s e s' I c
section
variable {X : Cx} {C : Addr} {k i : Nat} {ps : List Str} {sp : Sp} {E : St → XK} {x : Str} {p pos : Pos} {e : Expr} {es : List Expr} {t : TA}
theorem pe_callO (G : OwnF X.prog X.w X.K X.mg X.base C "__call__" ps k sp) (hfn : ∀ f, PySem.W.findIn X.K (.ref C) "__call__" = some (some (.ref f)) → PySem.W.fnIn X.K f = true) (hr : Room k X.A) (hN : X.N[i]? = some x) (hv : Vis X.env.scope x) (hx : ∀ σ, PassesAt (L2.CX X.prog X.w) X σ (E σ)) (ha : PA X (e :: es) t)
    (hdb : (x == ("__debug__" : Str)) = false := by decide) (hcd : (x == ("__classdict__" : Str)) = false := by decide) (he : starEach (e :: es) X.env = (false, eval e X.env) :: starEach es X.env := by rfl) (hpl : (backTo pos (starEach es X.env)).any (·.1) = false := by rfl) :
    PE X (.Call (.Name x p) (e :: es) [] pos) (tCallO C i sp E t) := by
  refine ⟨fun pins s σ H Q I h => ?_⟩
  obtain ⟨a, dx, fs, hs, hC, ht⟩ := h
  obtain ⟨f, fd, F, find, isf, bnd⟩ := G.ex
  refine wpAny_Call_Name_kw (thn ((pe_var (pos := p) hN hv hdb hcd).run pins s σ H (fun v H1 => v = .ref a ∧ H1 = H) I ⟨.ref a, hs, rfl, rfl⟩) fun u s1 ⟨v, H1, I1, r1, e1, e2⟩ => ?_)
  subst e1 e2
  cases r1
  show wpAny _ _ (callWith pos (.ref a) [] (backTo pos (starEach (e :: es) X.env)) []) _ _ _
  have args := ha.run pos pins s1 σ H1 _ I1 ht
  rw [he] at args ⊢
  refine PySem.W.callWith_ins (ob := PySem.W.instObj C dx) (by show ((false || (backTo pos (starEach es X.env)).any (·.1)) || false) = false; rw [hpl]; rfl) rfl (PySem.Calls.evalArgs_plain (thn args fun us s2 ⟨vs, H2, I2, r, at2, q⟩ => ?_))
  obtain ⟨mA, O, _⟩ := ins_get I2.hok at2
  obtain ⟨od, J, _⟩ := O.look
  refine ⟨O.obj, ?_⟩
  have rr : Vals (.ref a :: vs) (.ref a :: us) := .cons rfl r
  have hl : ((Value.ref a :: us)).length = ps.length := by rw [← rr.length]; exact F.len _ _ _ _ q
  refine wpAny_call (PySem.W.kco_code (a := ⟨us, []⟩) I2.kIn J rfl find isf (hfn f find) (codeAny_mono (F.run X.A X.stack s2 H2 ⟨.ref a :: us, []⟩ (.ref a :: us) (.ref a :: vs) Q (E σ) hr I2.env0 (by
    have := bnd s2 (.ref a :: us) I2.kIn (by simpa using hl)
    simpa using this) rr q) fun res s3 z => ?_))
  cases res with
  | error e => exact hx σ pins H2 s2 e s3 I2 z
  | ok fl =>
    cases fl with
    | ret w => exact I2.after z
    | next => exact z.elim
    | brk => exact z.elim
    | cont => exact z.elim
/-- a def of the module, its exceptions by the slots -/
theorem pe_callFS {x : Str} (G : CallF X.prog X.w X.K X.mg X.base x ps k sp) (hr : Room k X.A) (hg : Gl X x) (hx : ∀ σ, PassesAt (L2.CX X.prog X.w) X σ (E σ)) (ha : PA X (e :: es) t)
    (hdb : (x == ("__debug__" : Str)) = false := by decide) (he : starEach (e :: es) X.env = (false, eval e X.env) :: starEach es X.env := by rfl) (hpl : (backTo pos (starEach es X.env)).any (·.1) = false := by rfl) :
    PE X (.Call (.Name x p) (e :: es) [] pos) (tCallS sp E t) := by
  obtain ⟨f, fd, F, h1, h2, h3⟩ := G.ex
  exact pe_callS F hr hg h1 h2 h3 hx ha hdb he hpl
theorem g_callS {sp : Sp} {E : St → XK} {t : TA} {σ : St} {H : Hp} {Q : VK} (q : t σ H fun vs H1 => sp vs H1 Q (E σ)) : tCallS sp E t σ H Q := q
theorem u_xf {i : Nat} {a C dd : Addr} {f : Str} {fs : List (Str × V)} {v : V} {σ : St} {H : Hp} {Q : VK} (hv : σ[i]? = some (some (.ref a))) (hd : H dd = some (.xd fs)) (hl : fs.lookup f = some v) (q : Q v H) : tXf a (.ref C) (some dd) C f (tVar i) σ H Q :=
  ⟨.ref a, hv, rfl, rfl, dd, fs, v, rfl, hd, hl, q⟩
theorem g_callO {C : Addr} {i : Nat} {sp : Sp} {E : St → XK} {t : TA} {σ : St} {H : Hp} {Q : VK} {a dx : Addr} {fs : List (Str × V)} (hs : σ[i]? = some (some (.ref a))) (h : H a = some (.ins C dx fs)) (q : t σ H fun vs H1 => H1 a = some (.ins C dx fs) ∧ sp (.ref a :: vs) H1 Q (E σ)) : tCallO C i sp E t σ H Q := ⟨a, dx, fs, hs, h, q⟩
end
end L2

section
open L2 in
local macro_rules | `(tactic| walk_at "gx") => `(tactic| first
  | ((with_reducible show tVar _ _ _ _); refine g_var rfl ?_)
  | with_reducible refine g_c ?_
  | with_reducible refine g_op ?_
  | with_reducible refine g_cons ?_
  | with_reducible refine g_nil ?_
  | with_reducible refine g_test ?_
  | with_reducible refine g_blp ?_
  | with_reducible refine g_asg ?_
  | (with_reducible refine g_name ?_; (try simp only [List.set_cons_zero, List.set_cons_succ]))
  | with_reducible refine g_call ?_
  | with_reducible refine g_cb ?_
  | with_reducible refine g_I0 ?_
  | with_reducible refine g_U ?_
  | with_reducible refine g_eqI ?_
  | with_reducible refine g_neI ?_
  | with_reducible refine g_if ?_
  | with_reducible refine g_ret ?_
  | with_reducible refine g_retN ?_
  | with_reducible refine g_next ?_
  | with_reducible refine g_drop ?_
  | with_reducible refine g_un ?_
  | with_reducible refine g_tb ?_
  | with_reducible refine g_tup ?_
  | with_reducible refine g_lst ?_
  | with_reducible refine g_and ?_
  | with_reducible refine g_or ?_
  | with_reducible refine g_not ?_
  | with_reducible refine g_andV ?_
  | with_reducible refine g_orV ?_
  | with_reducible refine g_notV ?_
  | with_reducible refine g_ifE ?_
  | with_reducible refine g_fld ?_
  | with_reducible refine g_tt ?_
  | with_reducible refine g_ff ?_
  | with_reducible refine g_ntt ?_
  | with_reducible refine g_nff ?_
  | with_reducible refine g_for ?_
  | with_reducible refine g_list ?_
  | with_reducible refine g_tupI ?_
  | with_reducible refine g_rng1 ?_
  | with_reducible refine g_rng2 ?_
  | with_reducible refine g_enumA ?_
  | with_reducible refine g_rev ?_
  | with_reducible refine g_lc ?_
  | with_reducible refine g_gcons ?_
  | with_reducible refine g_gnil ?_
  | with_reducible refine g_yes ?_
  | with_reducible refine g_sl ?_
  | with_reducible refine g_nopart ?_
  | with_reducible refine g_part ?_
  | with_reducible refine g_int ?_
  | with_reducible refine g_dget ?_
  | with_reducible refine g_dput ?_
  | with_reducible refine g_raiseX ?_
  | with_reducible refine g_tru ?_
  | with_reducible refine g_sub ?_
  | with_reducible refine g_isN ?_
  | with_reducible refine g_notN ?_
  | with_reducible refine g_bm ?_
  | with_reducible refine L2.g_bm0 ?_
  | with_reducible refine g_pair ?_
  | with_reducible refine g_pair0 ?_
  | with_reducible refine u_int1 ?_
  | with_reducible refine g_chain ?_
  | with_reducible refine L2.g_sfld ?_
  | (with_reducible refine g_par3 ?_)
  | (with_reducible refine g_three ?_; (try simp only [List.set_cons_zero, List.set_cons_succ]))
  | ((with_reducible apply L2.g_tupT); walk_at "up"; rfl)
  | (with_reducible refine g_par ?_)
  | (with_reducible refine g_two ?_; (try simp only [List.set_cons_zero, List.set_cons_succ]))
  )
local macro_rules | `(tactic| walk_at "go") => `(tactic| first | walk_at "gx" | with_reducible refine L2.g_seq ?_)
local macro_rules | `(tactic| walk_at "gou") => `(tactic| repeat (walk_at "gx"))
local macro_rules | `(tactic| walk_at "gos") => `(tactic| repeat (walk_at "go"))
local macro_rules | `(tactic| walk_at "sl") => `(tactic| first
  | assumption
  | exact L2.Same.l (by assumption)
  | exact L2.SameD.l (by assumption)
  | exact L2.extN_l (by assumption))
local macro_rules | `(tactic| walk_at "up") => `(tactic| first
  | assumption
  | ((with_reducible apply L2.SameL.lst); walk_at "sl"; walk_at "up")
  | ((with_reducible apply L2.SameL.tupA); walk_at "sl"; walk_at "up")
  | ((with_reducible apply L2.SameL.ins); walk_at "sl"; walk_at "up")
  | ((with_reducible apply Ev.PB.l); walk_at "sl"; walk_at "up")
  | ((with_reducible apply Ev.IsP.l); walk_at "sl"; walk_at "up")
  | ((with_reducible apply L2.sqL); walk_at "up")
  | ((with_reducible apply L2.sqT); walk_at "up")
  | ((with_reducible apply L2.SameL.seq); walk_at "sl"; walk_at "up")
  | ((with_reducible apply Ev.Pen.same); assumption; walk_at "up")
  | ((with_reducible apply Ev.Pen.extN); assumption; walk_at "up")
  | ((with_reducible apply L2.tabs_s); assumption; walk_at "up")
  | ((with_reducible apply L2.tabs_dd); assumption; walk_at "up")
  | ((with_reducible apply Or.inl); walk_at "up")
  | ((with_reducible apply Or.inr); walk_at "up"))
local macro_rules | `(tactic| walk_at "new") => `(tactic| (
  first
    | refine ⟨L2.size_ok (by rfl), fun p hp => ?_⟩
    | refine fun p hp => ?_
  generalize hX : L2.upd _ p _ = H1
  obtain ⟨e, h⟩ := L2.news hp hX
  clear hX))
local macro_rules | `(tactic| walk_at "o") => `(tactic| first
  | ((with_reducible apply Ev.o_add); walk_at "up"; walk_at "up"; rfl; rfl; rfl)
  | ((with_reducible apply Ev.o_sub); walk_at "up"; walk_at "up"; rfl; rfl; rfl)
  | ((with_reducible apply Ev.o_mul); walk_at "up"; walk_at "up"; rfl; rfl; rfl)
  | ((with_reducible apply Ev.o_addI); walk_at "up"; assumption; rfl; rfl; rfl)
  | ((with_reducible apply Ev.o_subI); walk_at "up"; assumption; rfl; rfl; rfl)
  | ((with_reducible apply Ev.o_mulI); walk_at "up"; assumption; rfl; rfl; rfl)
  | ((with_reducible apply Ev.o_radd); walk_at "up"; assumption; rfl; rfl; rfl)
  | ((with_reducible apply Ev.o_rsub); walk_at "up"; assumption; rfl; rfl; rfl)
  | ((with_reducible apply Ev.o_rmul); walk_at "up"; assumption; rfl; rfl; rfl)
  | ((with_reducible apply Ev.o_neg); walk_at "up"; rfl; rfl; rfl))
local macro_rules | `(tactic| walk_at "eq") => `(tactic| ((with_reducible apply Ev.u_ownB); assumption; walk_at "up"; walk_at "up"; (focus (intro k; first | rfl | exact Pl.e_add | exact Pl.e_sub | exact Pl.e_mul | exact Pl.e_rsub | exact Pl.e_rsub2))))
local macro_rules | `(tactic| walk_at "isp") => `(tactic| (apply Ev.u_isB; walk_at "up"; walk_at "up"; rfl; rfl))

/-! More of the law's own defs. -/
namespace Ev
open PySem PySem.Spec PyProof.Rows L2 Pl
section
variable {P : Program} {w : World} {K : PySem.W.Frag} {mg : Str → Option Value} {base : Heap}
theorem sc__law_upper : FnScope ["row", "n", "found", "entry"] ["row", "n"] (defScope (topS 40)) := ⟨rfl, rfl, rfl, by decide +kernel, rfl, by decide +kernel, by decide +kernel⟩
theorem ok__law_upper (B : Bn mg) {f : Addr} {fd : FuncData} (F : Fun K "_law_upper" "_law_upper" (topS 40) f fd) : FnOk P w K mg base (L2.CX P w) 1 f fd ["row", "n"] (spValue K) := by
  have nd := sc__law_upper.nd
  refine F.okX sc__law_upper (fun vs H Q E h => ?_) (fun cdv A outer s H vs Q E hr h => ?_)
  · obtain ⟨a, rs, n, rfl, _⟩ := h
    rfl
  · refine ⟨_, (pss_cons (ps_set (i := 2) nd rfl (.inl rfl) pe_int)
      (pss_cons (ps_for (passes_of rfl) rfl (pi_reversedK (K := K) rfl (by rfl) B.reversed (pa_cons (pe_callTy (call_lstK (K := K) rfl) (by rfl) B.list_ (by decide +kernel) (pa_cons (pv 0) pa_nil)) pa_nil)) (pg_name (i := 3) nd rfl (.inl rfl)) (pss_one (ps_set (i := 2) nd rfl (.inl rfl) (pe_op op_add (pe_op op_mulX (pv 2) (pv 1)) (pv 3)))))
      (pss_one (ps_ret (pv 2))))), ?_⟩
    obtain ⟨a, rs, n, rfl, ha, sm, q⟩ := h
    refine g_st (σ' := [some (.ref a), some (.int n), none, none]) rfl ?_
    walk_at "gos"
    refine u_list ha fun l H1 hl e1 h1 => ?_
    walk_at "gos"
    refine u_rev (sqL h1) ?_
    have hln : (rs.map V.int).length = rs.length := List.length_map ..
    refine for_it walk_rev (fun i σ' H' => H' = H1 ∧ ∃ x, σ' = [some (.ref a), some (.int n), some (.int (hv (rs.drop (rs.length - i)) n)), x]) ?_ (fun i _ H' _ p => by rw [p.1]; exact sqL h1) (fun i x σ' H' H2 hi p y => ?_) (fun σ' H' p => ?_)
    · refine ⟨rfl, none, ?_⟩
      rw [Nat.sub_zero, List.drop_length, hv_nil]
    · obtain ⟨rfl, x0, rfl⟩ := p
      obtain ⟨rfl, hy⟩ := y
      rw [hln] at hi hy
      obtain rfl := at_ints hy
      walk_at "gos"
      refine g_I (Bd.mulX (sm.val i (by omega)) sm.at_ (by have := sm.len; omega)) ?_
      walk_at "gos"
      refine ⟨by trivial, some (.int (at0 rs (rs.length - 1 - i))), ?_⟩
      rw [hv_step hi]
    · obtain ⟨rfl, x0, rfl⟩ := p
      walk_at "gos"
      rw [hln, Nat.sub_self, List.drop_zero]
      exact q _ e1
theorem sc__law_sign : FnScope ["value"] ["value"] (defScope (topS 45)) := ⟨rfl, rfl, rfl, by decide +kernel, rfl, by decide +kernel, by decide +kernel⟩
theorem ok__law_sign (B : Bn mg) {f : Addr} {fd : FuncData} (F : Fun K "_law_sign" "_law_sign" (topS 45) f fd) : FnOk P w K mg base (L2.CX P w) 1 f fd ["value"] spSign := by
  have nd := sc__law_sign.nd
  refine F.okX sc__law_sign (fun vs H Q E h => ?_) (fun cdv A outer s H vs Q E hr h => ?_)
  · obtain ⟨a, rfl, _⟩ := h
    rfl
  · refine ⟨_, (pss_one (ps_ret (pe_op op_sub (pe_callTy call_in1 (by rfl) B.int_ (by decide +kernel) (pa_cons (pe_cmpR op_gt (pv 0) pe_int (nomark _)) pa_nil)) (pe_callTy call_in1 (by rfl) B.int_ (by decide +kernel) (pa_cons (pe_cmpR op_lt (pv 0) pe_int (nomark _)) pa_nil))))), ?_⟩
    obtain ⟨a, rfl, q⟩ := h
    refine g_st (σ' := [some (.int a)]) rfl ?_
    walk_at "gos"
    refine u_int1b ?_
    walk_at "gos"
    refine u_int1b ?_
    walk_at "gos"
    have e : (if decide (0 < a) = true then (1 : Int) else 0) - (if decide (a < 0) = true then (1 : Int) else 0) = a.sign := by
      rcases Int.lt_trichotomy a 0 with h | h | h
      · rw [Int.sign_eq_neg_one_of_neg h, if_neg (by simp; omega), if_pos (by simp; omega)]; rfl
      · subst h; rfl
      · rw [Int.sign_eq_one_of_pos h, if_pos (by simp; omega), if_neg (by simp; omega)]; rfl
    show Q (.int _) H
    rw [e]
    exact q
/-- a far place -/
def spFar : Sp := fun vs H Q _ => ∃ (p c : Addr) (n : Nat), vs = [.ref p] ∧ Pen H p c n ∧ n + 10 < 2 ^ 40 ∧ ∀ i H', Bd 210 i → SameD H H' → Pen H' p c (n + 2) → Q (.int i) H'
/-- ('fraction', n), ('place', n), or the value -/
def spTold (K : PySem.W.Frag) (C : Addr) : Sp := fun vs H Q _ => ∃ (x : Addr) (nv : V) (rs : List Int) (u : Int) (b : Bool), vs = [.ref x, nv] ∧ IsP H x C rs u ∧ 0 < u ∧ Bd 8000 u ∧ Kd K H nv b ∧
  (b = false → ∀ t H', Same H H' → H' t = some (.tup [.str "place", nv]) → Q (.ref t) H') ∧
  (b = true → ∃ n, nv = .int n ∧ Sm rs n ∧ (¬ u ∣ hv rs n → ∀ t H', Same H H' → H' t = some (.tup [.str "fraction", nv]) → Q (.ref t) H') ∧ (u ∣ hv rs n → ∀ H', Same H H' → Q (.int ((hv rs n).fdiv u)) H'))
/-! rows: product, sum -/
theorem conv_bd {xs ys : List Int} {n m : Nat} (hx : ∀ k, Bd n (at0 xs k)) (hy : ∀ k, Bd m (at0 ys k)) : ∀ i k, Bd (n + m + i) (conv xs ys i k) := by
  intro i
  induction i with
  | zero => intro k; show Bd _ 0; unfold Bd; exact Nat.two_pow_pos _
  | succ i ih =>
    intro k
    show Bd _ (conv xs ys i k + if i ≤ k then at0 xs i * at0 ys (k - i) else 0)
    have h2 : Bd (n + m + i) (if i ≤ k then at0 xs i * at0 ys (k - i) else 0) := by
      split
      · exact ((hx i).mul (hy (k - i))).mono (by omega)
      · unfold Bd; exact Nat.two_pow_pos _
    exact (ih k).add h2
def spTimes (K : PySem.W.Frag) : Sp := fun vs H Q _ => ∃ (a b : Addr) (xs ys : List Int), vs = [.ref a, .ref b] ∧ SqL K H a (xs.map V.int) ∧ SqL K H b (ys.map V.int) ∧ xs.length + ys.length ≤ 1000 ∧ (∀ k, Bd 9000 (at0 xs k)) ∧ (∀ k, Bd 9000 (at0 ys k)) ∧
  ∀ p zs H', Same H H' → H' p = some (.lst (zs.map V.int)) → zs.length = xs.length + ys.length → (∀ k, at0 zs k = conv xs ys xs.length k) → Q (.ref p) H'
theorem sc__law_times : FnScope ["one", "other", "found", "k", "j"] ["one", "other"] (defScope (topS 41)) := ⟨rfl, rfl, rfl, by decide +kernel, rfl, by decide +kernel, by decide +kernel⟩
theorem ok__law_times (B : Bn mg) {f : Addr} {fd : FuncData} (F : Fun K "_law_times" "_law_times" (topS 41) f fd) : FnOk P w K mg base (L2.CX P w) 1 f fd ["one", "other"] (spTimes K) := by
  have nd := sc__law_times.nd
  refine F.okX sc__law_times (fun vs H Q E h => ?_) (fun cdv A outer s H vs Q E hr h => ?_)
  · obtain ⟨a, b, xs, ys, rfl, _⟩ := h
    rfl
  · refine ⟨_, (pss_cons (ps_set (i := 2) nd rfl (.inl rfl) (pe_op op_rep (pe_lst (pa_cons pe_int pa_nil)) (pe_op op_add (pe_callB (call_lnK (K := K) rfl) (by rfl) B.len_ (by decide +kernel) (pa_cons (pv 0) pa_nil)) (pe_callB (call_lnK (K := K) rfl) (by rfl) B.len_ (by decide +kernel) (pa_cons (pv 1) pa_nil)))))
      (pss_cons (ps_for (passes_of rfl) rfl (pi_range1 rfl B.range (pa_cons (pe_callB (call_lnK (K := K) rfl) (by rfl) B.len_ (by decide +kernel) (pa_cons (pv 0) pa_nil)) pa_nil)) (pg_name (i := 3) nd rfl (.inl rfl)) (pss_one (ps_for (passes_of rfl) rfl (pi_range1 rfl B.range (pa_cons (pe_callB (call_lnK (K := K) rfl) (by rfl) B.len_ (by decide +kernel) (pa_cons (pv 1) pa_nil)) pa_nil)) (pg_name (i := 4) nd rfl (.inl rfl)) (pss_one (ps_asg (pe_op op_add (pe_ix (ix_listK (K := K) rfl) (pv 2) (pe_op op_add (pv 3) (pv 4)) (fun _ _ => rfl)) (pe_op op_mulX (pe_ix (ix_listK (K := K) rfl) (pv 0) (pv 3) (fun _ _ => rfl)) (pe_ix (ix_listK (K := K) rfl) (pv 1) (pv 4) (fun _ _ => rfl)))) (pg_sub (pv 2) (pe_op op_add (pv 3) (pv 4)) set_list))))))
      (pss_one (ps_ret (pv 2))))), ?_⟩
    obtain ⟨a, b, xs, ys, rfl, ha, hb, hl, bx, by_, q⟩ := h
    refine g_st (σ' := [some (.ref a), some (.ref b), none, none, none]) rfl ?_
    have hlx : (xs.map V.int).length = xs.length := List.length_map ..
    have hly : (ys.map V.int).length = ys.length := List.length_map ..
    walk_at "gos"
    refine ⟨by show 1 ≤ sizeLine; decide, fun z hz => ?_⟩
    have e1 := same_new (o := .lst [V.int 0]) hz
    have h1 : (upd H z (.lst [V.int 0])) z = some (.lst [V.int 0]) := upd_same
    generalize upd H z (.lst [V.int 0]) = H1 at e1 h1 ⊢
    walk_at "gos"
    refine u_lenL (e1.seq ha) ?_
    walk_at "gos"
    refine u_lenL (e1.seq hb) ?_
    walk_at "gos"
    rw [hlx, hly]
    refine u_rep h1 (by omega) (by omega) fun p H2 hp e2 h2 => ?_
    have e12 := e1.trans e2
    have hpH : H p = none := by
      cases hq : H p with
      | none => rfl
      | some o => rw [e1 _ _ hq] at hp; cases hp
    walk_at "gos"
    refine u_lenL (e12.seq ha) ?_
    rw [hlx]
    walk_at "gos"
    refine u_rng (by omega) (by omega) ?_
    refine for_it walk_range (fun i σ' H' => (∃ x3 x4, σ' = [some (.ref a), some (.ref b), some (.ref p), x3, x4]) ∧ Same H H' ∧ ∃ zs : List Int, H' p = some (.lst (zs.map V.int)) ∧ zs.length = xs.length + ys.length ∧ ∀ k, at0 zs k = conv xs ys i k) ?_ (fun _ _ _ _ _ => trivial) (fun i x σ' H' H3 hi q2 y => ?_) (fun σ' H' q2 => ?_)
    · refine ⟨⟨none, none, rfl⟩, e12, List.replicate (xs.length + ys.length) 0, ?_, List.length_replicate .., fun k => ?_⟩
      · rw [h2, List.map_replicate, show ((xs.length : Int) + (ys.length : Int)).toNat = xs.length + ys.length by omega]
      · rw [show List.replicate (xs.length + ys.length) (0 : Int) = [] ++ List.replicate (xs.length + ys.length) 0 from rfl, at0_app0]
        rfl
    · obtain ⟨⟨x3, x4, rfl⟩, e3, zs, hzs, hzl, hzk⟩ := q2
      obtain ⟨rfl, rfl⟩ := y
      rw [Int.toNat_natCast] at hi
      walk_at "gos"
      refine u_lenL (e3.seq hb) ?_
      rw [hly]
      walk_at "gos"
      refine u_rng (by omega) (by omega) ?_
      refine for_it walk_range (fun j σ' H' => (∃ x4, σ' = [some (.ref a), some (.ref b), some (.ref p), some (.int (0 + (i : Int))), x4]) ∧ Same H H' ∧ ∃ zs : List Int, H' p = some (.lst (zs.map V.int)) ∧ zs.length = xs.length + ys.length ∧ ∀ k, at0 zs k = convJ xs ys i j k) ?_ (fun _ _ _ _ _ => trivial) (fun j x σ' H' H4 hj q3 y => ?_) (fun σ' H' q3 => ?_)
      · exact ⟨⟨x4, rfl⟩, e3, zs, hzs, hzl, fun k => by rw [hzk, convJ_zero]⟩
      · obtain ⟨⟨x4, rfl⟩, e4, zs2, hz2, hzl2, hzk2⟩ := q3
        obtain ⟨rfl, rfl⟩ := y
        rw [Int.toNat_natCast] at hj
        have ij : (0 : Int) + (i : Int) + (0 + (j : Int)) = ((i + j : Nat) : Int) := by omega
        have i0 : (0 : Int) + (i : Int) = (i : Int) := by omega
        have j0 : (0 : Int) + (j : Int) = (j : Int) := by omega
        have gets : ∀ (l : List Int) k, k < l.length → (l.map V.int)[k]? = some (V.int (at0 l k)) := fun l k hk => by rw [List.getElem?_map, List.getElem?_eq_getElem hk, at0_in hk]; rfl
        walk_at "gos"
        rw [ij]
        refine u_ixL (sqL hz2) (atI_nat (gets zs2 (i + j) (by omega))) ?_
        walk_at "gos"
        rw [i0]
        refine u_ixL (e4.seq ha) (atI_nat (gets xs i hi)) ?_
        walk_at "gos"
        rw [j0]
        refine u_ixL (e4.seq hb) (atI_nat (gets ys j hj)) ?_
        refine g_I (Bd.mulX (n := 9000) (m := 9000) (bx i) (by_ j) (by decide)) ?_
        walk_at "gos"
        rw [show (i : Int) + (j : Int) = ((i + j : Nat) : Int) by omega]
        refine u_setL hz2 (by rw [List.length_map]; omega) ?_
        refine ⟨⟨_, rfl⟩, e4.mut hpH, zs2.set (i + j) (at0 zs2 (i + j) + at0 xs i * at0 ys j), ?_, by rw [List.length_set]; exact hzl2, fun k => ?_⟩
        · rw [upd_same, List.map_set]
        · rw [at0_set (by omega), convJ_step, hzk2 k]
          by_cases hk : k = i + j
          · subst hk
            rw [if_pos rfl, if_pos rfl, hzk2]
          · rw [if_neg hk, if_neg hk, Int.add_zero]
      · obtain ⟨⟨x4, rfl⟩, e4, zs2, hz2, hzl2, hzk2⟩ := q3
        rw [Int.toNat_natCast] at hzk2
        exact ⟨⟨_, x4, rfl⟩, e4, zs2, hz2, hzl2, fun k => by rw [hzk2, convJ_all]⟩
    · obtain ⟨⟨x3, x4, rfl⟩, e3, zs, hzs, hzl, hzk⟩ := q2
      rw [Int.toNat_natCast] at hzk
      walk_at "gos"
      exact q p zs H' e3 hzs hzl hzk
def spPlus (K : PySem.W.Frag) : Sp := fun vs H Q _ => ∃ (a b : Addr) (xs ys : List Int), vs = [.ref a, .ref b] ∧ H a = some (.lst (xs.map V.int)) ∧ H b = some (.lst (ys.map V.int)) ∧ xs.length ≤ 10000 ∧ ys.length ≤ 10000 ∧
  ∀ p zs H', Same H H' → H' p = some (.lst (zs.map V.int)) → zs.length = max xs.length ys.length → (∀ k, at0 zs k = at0 xs k + at0 ys k) → Q (.ref p) H'
theorem sc__law_plus : FnScope ["one", "other", "many", "first", "second", "k"] ["one", "other"] (defScope (topS 42)) := ⟨rfl, rfl, rfl, by decide +kernel, rfl, by decide +kernel, by decide +kernel⟩
theorem ok__law_plus (B : Bn mg) {f : Addr} {fd : FuncData} (F : Fun K "_law_plus" "_law_plus" (topS 42) f fd) : FnOk P w K mg base (L2.CX P w) 1 f fd ["one", "other"] (spPlus K) := by
  have nd := sc__law_plus.nd
  refine F.okX sc__law_plus (fun vs H Q E h => ?_) (fun cdv A outer s H vs Q E hr h => ?_)
  · obtain ⟨a, b, xs, ys, rfl, _⟩ := h
    rfl
  · refine ⟨_, (pss_cons (ps_set (i := 2) nd rfl (.inl rfl) (pe_callB (call_max2 rfl) (by rfl) B.max_ (by decide +kernel) (pa_cons (pe_callB (call_lnK (K := K) rfl) (by rfl) B.len_ (by decide +kernel) (pa_cons (pv 0) pa_nil)) (pa_cons (pe_callB (call_lnK (K := K) rfl) (by rfl) B.len_ (by decide +kernel) (pa_cons (pv 1) pa_nil)) pa_nil))))
      (pss_cons (ps_set (i := 3) nd rfl (.inr rfl) (pe_op op_cat (pv 0) (pe_op op_rep (pe_lst (pa_cons pe_int pa_nil)) (pe_op op_sub (pv 2) (pe_callB (call_lnK (K := K) rfl) (by rfl) B.len_ (by decide +kernel) (pa_cons (pv 0) pa_nil))))))
      (pss_cons (ps_set (i := 4) nd rfl (.inr rfl) (pe_op op_cat (pv 1) (pe_op op_rep (pe_lst (pa_cons pe_int pa_nil)) (pe_op op_sub (pv 2) (pe_callB (call_lnK (K := K) rfl) (by rfl) B.len_ (by decide +kernel) (pa_cons (pv 1) pa_nil))))))
      (pss_one (ps_ret (pe_lc (own := [("k", 5)]) (g := gName 5) (tt := tYes) rfl nd (pi_range1 rfl B.range (pa_cons (pv 2) pa_nil)) (blkOk_by (N := ["one", "other", "many", "first", "second", "k"]) (sc := defScope (topS 42)) (by decide +kernel)) (fun _ _ _ _ _ => (pg_name (i := 5) nd rfl (.inl rfl))) (fun _ _ _ _ _ => pts_nil) (fun _ _ _ _ _ => (pe_op op_add (pe_ix (ix_listK (K := K) rfl) (pv 3) (pv 5) (fun _ _ => rfl)) (pe_ix (ix_listK (K := K) rfl) (pv 4) (pv 5) (fun _ _ => rfl)))))))))), ?_⟩
    obtain ⟨a, b, xs, ys, rfl, ha, hb, hlx, hly, q⟩ := h
    refine g_st (σ' := [some (.ref a), some (.ref b), none, none, none, none]) rfl ?_
    have hmx : (xs.map V.int).length = xs.length := List.length_map ..
    have hmy : (ys.map V.int).length = ys.length := List.length_map ..
    walk_at "gos"
    refine u_lenL (sqL ha) ?_
    walk_at "gos"
    refine u_lenL (sqL hb) ?_
    rw [hmx, hmy]
    refine ⟨_, _, rfl, ?_⟩
    have hm : (if (ys.length : Int) > (xs.length : Int) then (ys.length : Int) else (xs.length : Int)) = ((max xs.length ys.length : Nat) : Int) := by split <;> omega
    rw [hm]
    generalize hM : max xs.length ys.length = M
    walk_at "gos"
    refine ⟨by show 1 ≤ sizeLine; decide, fun z hz => ?_⟩
    have e1 := same_new (o := .lst [V.int 0]) hz
    have h1 : (upd H z (.lst [V.int 0])) z = some (.lst [V.int 0]) := upd_same
    generalize upd H z (.lst [V.int 0]) = H1 at e1 h1 ⊢
    walk_at "gos"
    refine u_lenL (sqL (e1 _ _ ha)) ?_
    rw [hmx]
    walk_at "gos"
    refine u_rep h1 (by omega) (by omega) fun r1 H2 hr1 e2 h2 => ?_
    refine u_cat ((e1.trans e2) _ _ ha) h2 (by rw [hmx, List.length_replicate]; omega) fun f1 H3 hf1 e3 h3 => ?_
    have e13 := e1.trans (e2.trans e3)
    walk_at "gos"
    refine ⟨by show 1 ≤ sizeLine; decide, fun z2 hz2 => ?_⟩
    have e4 := same_new (o := .lst [V.int 0]) hz2
    have h4 : (upd H3 z2 (.lst [V.int 0])) z2 = some (.lst [V.int 0]) := upd_same
    generalize upd H3 z2 (.lst [V.int 0]) = H4 at e4 h4 ⊢
    walk_at "gos"
    refine u_lenL (sqL ((e13.trans e4) _ _ hb)) ?_
    rw [hmy]
    walk_at "gos"
    refine u_rep h4 (by omega) (by omega) fun r2 H5 hr2 e5 h5 => ?_
    refine u_cat ((e13.trans (e4.trans e5)) _ _ hb) h5 (by rw [hmy, List.length_replicate]; omega) fun f2 H6 hf2 e6 h6 => ?_
    have e36 := e4.trans (e5.trans e6)
    walk_at "gos"
    refine u_rng (by omega) (by omega) fun D hD => ?_
    have pads : ∀ (l : List Int) (n k : Nat), k < l.length + n → (l.map V.int ++ List.replicate n (V.int 0))[k]? = some (V.int (at0 l k)) := fun l n k hk => by
      have hl : (l.map V.int).length = l.length := List.length_map ..
      by_cases h : k < l.length
      · rw [List.getElem?_append_left (by omega), List.getElem?_map, List.getElem?_eq_getElem h, at0_in h]; rfl
      · rw [List.getElem?_append_right (by omega), List.getElem?_replicate, if_pos (by omega), at0_out (by omega)]
    refine lc_it walk_range (PvL H6 D (fun _ => true) (fun i => .int (at0 xs i + at0 ys i))) (lc_start hD) (fun _ _ _ _ => trivial) (fun i y H7 H8 hi p q6 => ?_) (fun H7 p => ?_)
    · obtain ⟨rfl, rfl⟩ := q6
      rw [Int.toNat_natCast] at hi
      walk_at "gos"
      refine ⟨rfl, ?_⟩
      walk_at "gos"
      rw [show (0 : Int) + (i : Int) = (i : Int) from Int.zero_add _]
      refine u_ixL (sqL ((e36.trans p.1) _ _ h3)) (atI_nat (pads xs _ i (by omega))) ?_
      walk_at "gos"
      refine u_ixL (sqL (p.1 _ _ h6)) (atI_nat (pads ys _ i (by omega))) ?_
      walk_at "gos"
      exact lc_yes hD p (Same.refl _) rfl rfl (by omega)
    · obtain ⟨e7, h7⟩ := p
      rw [Int.toNat_natCast, given_all] at h7
      walk_at "gos"
      refine q D ((List.range M).map fun i => at0 xs i + at0 ys i) H7 (e13.trans (e36.trans e7)) ?_ (by rw [List.length_map, List.length_range, hM]) fun k => ?_
      · rw [h7, List.map_map]; rfl
      · by_cases hk : k < M
        · rw [at0_in (by rw [List.length_map, List.length_range]; exact hk), List.getElem_map, List.getElem_range]
        · rw [at0_out (by rw [List.length_map, List.length_range]; omega), at0_out (by omega), at0_out (by omega)]; rfl
def spWholeRow : Sp := fun vs H Q _ => ∃ (p c : Addr) (n : Nat), vs = [.ref p] ∧ Pen H p c n ∧ n + 1000 < 2 ^ 40 ∧
  ∀ t a (ns : List Int) (u : Int) H', SameD H H' → Pen H' p c (n + 200) → H' t = some (.tup [.ref a, .int u]) → H' a = some (.lst (ns.map V.int)) → ns.length ≤ 6 → (∀ k, Bd 300 (at0 ns k)) → 1 ≤ u → Bd 100 u → Q (.ref t) H'
end
end Ev

end
/-! set(xs) of a list of ints, as an object that sorted() and the walks take. -/
namespace L2
open PySem PySem.Spec PyProof.Rows
section
variable {P : Program} {w : World} {A : Around} {E : Value → Shared → Prop} {s : Shared}
/-- an empty set, as it is made -/
abbrev emS (w : World) : Obj := { cls := .type "set", dict := none, data := .set #[] 0 (.fresh 0 0 (!w.params.followText "set-order")) }
abbrev emH (w : World) (s : Shared) : Heap := s.heap.push (emS w)
theorem fill_list {B : Around} {Q : PySem.Fin → Shared → Prop} {l : Addr} {its : Array Value} {ns : List Int} (hB : B.handled = none) (hl : s.heap.IsList l its) (hi : IntsAre its.toList ns) (hb : ns.length + 1 < scanBound)
    (q : ∀ (h' : Heap) (tk c : Nat), SetR w h' s.heap.objs.size (fun j => decide (j ∈ ns)) c → c ≤ ns.length → (∀ b o, s.heap.get? b = some o → h'.get? b = some o) → wpAny (model P w) B (ret Value.none) Q E { s with heap := h', toks := tk }) :
    wpAny (model P w) B (Builtin.«set.__init__» ⟨[.ref s.heap.objs.size, .ref l], []⟩) Q E { s with heap := emH w s } := by
  have hn : its.size = ns.length := by
    have z := hi.length
    rwa [Array.length_toList] at z
  have hat : (emH w s).get? s.heap.objs.size = some (emS w) := Heap.get?_push_size _ rfl
  have hold : ∀ b o, s.heap.get? b = some o → (emH w s).get? b = some o := fun b o e => Heap.get?_push_of_some _ e
  obtain ⟨⟨oc, od, oda, osl⟩, ho, hcl, nl, hda⟩ := hl
  dsimp only at hcl hda
  subst hcl
  subst hda
  have ho2 := hold _ _ ho
  have hL : (emH w s).IsList l its := ⟨_, ho2, rfl, nl, rfl⟩
  have k1 := F.sub_list_set
  have k2 := F.sub_list_frozenset
  have k3 : (Value.type "list" == Value.type "dict") = false := by decide
  unfold Builtin.«set.__init__» noKeywords Builtin.Frozenset.updateFrom
  generalize hg : pyIter = G
  wp_walk
  subst hg
  refine wpAny_pyIter_list hL ?_
  refine wpAny_bind (wpAny_runValue ?_)
  have hsz : (emH w s).objs.size = s.heap.objs.size + 1 := Heap.size_push ..
  have hls : l < s.heap.objs.size := Heap.lt_size ho
  have n1 : l ≠ (emH w s).objs.size := fun z => absurd hls (by rw [z, hsz]; exact Nat.not_lt_of_le (Nat.le_succ _))
  have n2 : s.heap.objs.size ∉ [(emH w s).objs.size, l] := fun z => by
    rcases List.mem_cons.mp z with z | z
    · rw [hsz] at z; exact absurd z (Nat.ne_of_lt (Nat.lt_succ_self _))
    · exact absurd (List.mem_singleton.mp z) (Nat.ne_of_gt hls)
  have each : ∀ (i : Nat) (v : Value), its[i]? = some v → ∃ k t, ns[i]? = some k ∧ v = .int k t := fun i v e => by
    have hin : i < ns.length := hn ▸ (Array.getElem?_eq_some_iff.mp e).1
    obtain ⟨t, rfl⟩ := hi.int_at i v (by rw [Array.getElem?_toList]; exact e)
    exact ⟨_, t, List.getElem?_eq_getElem hin, by rw [List.getD_eq_getElem?_getD, List.getElem?_eq_getElem hin]; rfl⟩
  have hB2 : B.in1.handled = none := by simp [hB]
  refine set_update_ints ((Walks.list (prog := P) (w := w) hB2 _ l n1 its).toS) s.heap.objs.size n2 ns hn hb each its.size 0 _ (Nat.sub_zero _) (Nat.zero_le _) ⟨⟨_, Heap.get?_push_size _ rfl, rfl, rfl⟩, hL.push _⟩ ⟨0, Nat.le_refl 0, setR_new_at (Heap.get?_push_of_some _ hat)⟩ fun s2 c hm hc hS => ?_
  refine wpAny_pure ?_
  have es : s2 = { s with heap := s2.heap, toks := s2.toks } := by
    obtain ⟨h2, g2, d2, t2, o2⟩ := s2
    have a1 : g2 = s.gens := hm.gens
    have a2 : d2 = s.drawn := hm.drawn
    have a3 : o2 = s.os := hm.os
    rw [a1, a2, a3]
  rw [es]
  refine q s2.heap s2.toks c hS (by omega) fun b o e => hm.heap b o (fun z => ?_) (Heap.get?_push_of_some _ (hold b o e))
  have hb0 : b < s.heap.objs.size := Heap.lt_size e
  rcases List.mem_cons.mp z with z | z
  · rw [z] at hb0; exact Nat.lt_irrefl _ hb0
  · rw [List.mem_singleton.mp z, hsz] at hb0; exact absurd hb0 (Nat.not_lt_of_le (Nat.le_succ _))
theorem set_of_list {l : Addr} {its : Array Value} {ns : List Int} {Q : Value → Shared → Prop} (hA : A.handled = none) (hl : s.heap.IsList l its) (hi : IntsAre its.toList ns) (hb : ns.length + 1 < scanBound)
    (q : ∀ (h' : Heap) (tk c : Nat), SetR w h' s.heap.objs.size (fun j => decide (j ∈ ns)) c → c ≤ ns.length → (∀ b o, s.heap.get? b = some o → h'.get? b = some o) → Q (.ref s.heap.objs.size) { s with heap := h', toks := tk }) :
    wpAny (model P w) A (call (.type "set") [.ref l]) Q E s := by
  have m0 := F.called_set
  obtain ⟨c, tl, hmro⟩ := m0.mro
  have m1 := m0.made
  have m2 := m0.sub
  have m3 := m0.notType
  have m4 := m0.canCreate
  have m5 := F.typeCall_set_1 (.ref l)
  refine wpAny_call (codeAny_of_tree (show wpAny _ _ (callAny (.type "set") _) _ _ _ from wpAny_pure ⟨Code.quiet_builtin _ (by decide +kernel), codeAny_builtin F.entry_type_call ?_⟩))
  rw [Around.under_plain (weight_type_call_type "set" [.ref l] []) rfl]
  repeat (any_goals (first | assumption | wp_step))
  refine codeAny_mono (code_set_led1 (.ref l) (E := E) (Q₁ := fun v t => v = .ref s.heap.objs.size ∧ t = { s with heap := emH w s }) ⟨rfl, rfl⟩) fun r t hr => ?_
  rcases r with e | fl
  · exact hr
  cases fl with
  | ret v =>
    obtain ⟨rfl, rfl⟩ := hr
    have t1 : Shared.TypeIs { s with heap := emH w s } (.ref s.heap.objs.size) "set" := ⟨_, Heap.get?_push_size _ rfl, rfl⟩
    have t2 := m0.init.lookup
    have t3 := m0.init.bind (.ref s.heap.objs.size)
    repeat (any_goals (first | assumption | wp_step))
    refine codeAny_mono (codeAny_call_builtin (R := wants (fun v t => v = .none ∧ ∃ h' tk c, t = { s with heap := h', toks := tk } ∧ SetR w h' s.heap.objs.size (fun j => decide (j ∈ ns)) c ∧ c ≤ ns.length ∧ ∀ b o, s.heap.get? b = some o → h'.get? b = some o) E) m0.init.plain F.entry_set_init (check_set_init_1 t1 (fill_list (by simp [hA]) hl hi hb fun h' tk c g1 g2 g3 => wpAny_pure ⟨rfl, h', tk, c, rfl, g1, g2, g3⟩))) fun r2 t4 hr2 => ?_
    rcases r2 with e | fl2
    · exact hr2
    cases fl2 with
    | ret v2 =>
      obtain ⟨rfl, h', tk, c, rfl, g1, g2, g3⟩ := hr2
      repeat (any_goals (first | assumption | wp_step))
      exact q _ _ _ g1 g2 g3
    | _ => exact hr2.elim
  | _ => exact hr.elim
end
/-- set(xs), ints -/
def rSetLs (K : PySem.W.Frag) (w : World) : List V → Hp → VK → Prop := fun vs H Q => ∃ (a : Addr) (ns : List Int), vs = [.ref a] ∧ SqL K H a (ns.map V.int) ∧ ns.length + 1 < scanBound ∧
  ∀ p c, c ≤ ns.length → H p = none → Q (.ref p) (upd H p (SetO w p (fun j => decide (j ∈ ns)) c))
section
variable {X : Cx}
theorem cr_setL (hc : X.calm = true) : CallR X (.type "set") (rSetLs X.K X.w) := by
  intro pins s σ H vs us Q I r h
  obtain ⟨a, ns, rfl, hs, hb, q⟩ := h
  obtain ⟨its, rv, hl, hz⟩ := I.list hs
  rw [Vals.ref1 r]
  refine set_of_list (I.ok.hd hc) hl.isList (ns := ns) (by simpa using rv.ints) hb fun h' tk c g1 g2 g3 => ?_
  exact ⟨.ref _, upd H s.heap.objs.size (SetO X.w s.heap.objs.size (fun j => decide (j ∈ ns)) c), I.laid (t' := tk) g3 (Nat.le_refl _) (setO_new g1), rfl, q _ c g2 (I.hok.fresh (Nat.le_refl _))⟩
theorem cr_setLK {K : PySem.W.Frag} {w : World} (h : X.K = K) (h2 : X.w = w) (hc : X.calm = true) : CallR X (.type "set") (rSetLs K w) := h ▸ h2 ▸ cr_setL hc
theorem cr_sortedSetK {w : World} (h2 : X.w = w) (hc : X.calm = true) : CallR X (.builtin "sorted") (rSortedSet w) := h2 ▸ cr_sortedSet hc
end
/-- sorted(set(xs)) -/
theorem u_setLs {K : PySem.W.Frag} {w : World} {H : Hp} {Q : VK} {a : Addr} {ns : List Int} (h : SqL K H a (ns.map V.int)) (hb : ns.length < 60) (q : ∀ p H' c, c ≤ ns.length → Same H H' → H' p = some (SetO w p (fun j => decide (j ∈ ns)) c) → Q (.ref p) H') : rSetLs K w [.ref a] H Q :=
  ⟨a, ns, rfl, h, by unfold scanBound; omega, fun p c hc hp => q p _ c hc (same_new hp) upd_same⟩
theorem u_sortedSet {w : World} {H : Hp} {Q : VK} {p : Addr} {ns : List Int} {c : Nat} (h : H p = some (SetO w p (fun j => decide (j ∈ ns)) c)) (hc : c < 64) (q : ∀ (out : List Int) (l : Addr) (H' : Hp), H l = none → Same H H' → H' l = some (.lst (out.map V.int)) → out.Pairwise (· < ·) → (∀ k, k ∈ out ↔ k ∈ ns) → out.length = c → Q (.ref l) H') : rSortedSet w [.ref p] H Q :=
  ⟨p, _, c, rfl, h, hc, fun out l h1 h2 hn hl => q out l _ hl (same_new hl) upd_same h1 (fun k => (h2 k).trans decide_eq_true_iff) hn⟩
end L2

section
open L2 in
local macro_rules | `(tactic| walk_at "gx") => `(tactic| first
  | ((with_reducible show tVar _ _ _ _); refine g_var rfl ?_)
  | with_reducible refine g_c ?_
  | with_reducible refine g_op ?_
  | with_reducible refine g_cons ?_
  | with_reducible refine g_nil ?_
  | with_reducible refine g_test ?_
  | with_reducible refine g_blp ?_
  | with_reducible refine g_asg ?_
  | (with_reducible refine g_name ?_; (try simp only [List.set_cons_zero, List.set_cons_succ]))
  | with_reducible refine g_call ?_
  | with_reducible refine g_cb ?_
  | with_reducible refine g_I0 ?_
  | with_reducible refine g_U ?_
  | with_reducible refine g_eqI ?_
  | with_reducible refine g_neI ?_
  | with_reducible refine g_if ?_
  | with_reducible refine g_ret ?_
  | with_reducible refine g_retN ?_
  | with_reducible refine g_next ?_
  | with_reducible refine g_drop ?_
  | with_reducible refine g_un ?_
  | with_reducible refine g_tb ?_
  | with_reducible refine g_tup ?_
  | with_reducible refine g_lst ?_
  | with_reducible refine g_and ?_
  | with_reducible refine g_or ?_
  | with_reducible refine g_not ?_
  | with_reducible refine g_andV ?_
  | with_reducible refine g_orV ?_
  | with_reducible refine g_notV ?_
  | with_reducible refine g_ifE ?_
  | with_reducible refine g_fld ?_
  | with_reducible refine g_tt ?_
  | with_reducible refine g_ff ?_
  | with_reducible refine g_ntt ?_
  | with_reducible refine g_nff ?_
  | with_reducible refine g_for ?_
  | with_reducible refine g_list ?_
  | with_reducible refine g_tupI ?_
  | with_reducible refine g_rng1 ?_
  | with_reducible refine g_rng2 ?_
  | with_reducible refine g_enumA ?_
  | with_reducible refine g_rev ?_
  | with_reducible refine g_lc ?_
  | with_reducible refine g_gcons ?_
  | with_reducible refine g_gnil ?_
  | with_reducible refine g_yes ?_
  | with_reducible refine g_sl ?_
  | with_reducible refine g_nopart ?_
  | with_reducible refine g_part ?_
  | with_reducible refine g_int ?_
  | with_reducible refine g_dget ?_
  | with_reducible refine g_dput ?_
  | with_reducible refine g_raiseX ?_
  | with_reducible refine g_tru ?_
  | with_reducible refine g_sub ?_
  | with_reducible refine g_isN ?_
  | with_reducible refine g_notN ?_
  | with_reducible refine g_bm ?_
  | with_reducible refine L2.g_bm0 ?_
  | with_reducible refine g_pair ?_
  | with_reducible refine g_pair0 ?_
  | with_reducible refine u_int1 ?_
  | with_reducible refine g_chain ?_
  | with_reducible refine L2.g_sfld ?_
  | (with_reducible refine g_par3 ?_)
  | (with_reducible refine g_three ?_; (try simp only [List.set_cons_zero, List.set_cons_succ]))
  | ((with_reducible apply L2.g_tupT); walk_at "up"; rfl)
  | (with_reducible refine g_par ?_)
  | (with_reducible refine g_two ?_; (try simp only [List.set_cons_zero, List.set_cons_succ]))
  )
local macro_rules | `(tactic| walk_at "go") => `(tactic| first | walk_at "gx" | with_reducible refine L2.g_seq ?_)
local macro_rules | `(tactic| walk_at "gou") => `(tactic| repeat (walk_at "gx"))
local macro_rules | `(tactic| walk_at "gos") => `(tactic| repeat (walk_at "go"))
local macro_rules | `(tactic| walk_at "sl") => `(tactic| first
  | assumption
  | exact L2.Same.l (by assumption)
  | exact L2.SameD.l (by assumption)
  | exact L2.extN_l (by assumption))
local macro_rules | `(tactic| walk_at "up") => `(tactic| first
  | assumption
  | ((with_reducible apply L2.SameL.lst); walk_at "sl"; walk_at "up")
  | ((with_reducible apply L2.SameL.tupA); walk_at "sl"; walk_at "up")
  | ((with_reducible apply L2.SameL.ins); walk_at "sl"; walk_at "up")
  | ((with_reducible apply Ev.PB.l); walk_at "sl"; walk_at "up")
  | ((with_reducible apply Ev.IsP.l); walk_at "sl"; walk_at "up")
  | ((with_reducible apply L2.sqL); walk_at "up")
  | ((with_reducible apply L2.sqT); walk_at "up")
  | ((with_reducible apply L2.SameL.seq); walk_at "sl"; walk_at "up")
  | ((with_reducible apply Ev.Pen.same); assumption; walk_at "up")
  | ((with_reducible apply Ev.Pen.extN); assumption; walk_at "up")
  | ((with_reducible apply L2.tabs_s); assumption; walk_at "up")
  | ((with_reducible apply L2.tabs_dd); assumption; walk_at "up")
  | ((with_reducible apply Or.inl); walk_at "up")
  | ((with_reducible apply Or.inr); walk_at "up"))
local macro_rules | `(tactic| walk_at "new") => `(tactic| (
  first
    | refine ⟨L2.size_ok (by rfl), fun p hp => ?_⟩
    | refine fun p hp => ?_
  generalize hX : L2.upd _ p _ = H1
  obtain ⟨e, h⟩ := L2.news hp hX
  clear hX))
local macro_rules | `(tactic| walk_at "o") => `(tactic| first
  | ((with_reducible apply Ev.o_add); walk_at "up"; walk_at "up"; rfl; rfl; rfl)
  | ((with_reducible apply Ev.o_sub); walk_at "up"; walk_at "up"; rfl; rfl; rfl)
  | ((with_reducible apply Ev.o_mul); walk_at "up"; walk_at "up"; rfl; rfl; rfl)
  | ((with_reducible apply Ev.o_addI); walk_at "up"; assumption; rfl; rfl; rfl)
  | ((with_reducible apply Ev.o_subI); walk_at "up"; assumption; rfl; rfl; rfl)
  | ((with_reducible apply Ev.o_mulI); walk_at "up"; assumption; rfl; rfl; rfl)
  | ((with_reducible apply Ev.o_radd); walk_at "up"; assumption; rfl; rfl; rfl)
  | ((with_reducible apply Ev.o_rsub); walk_at "up"; assumption; rfl; rfl; rfl)
  | ((with_reducible apply Ev.o_rmul); walk_at "up"; assumption; rfl; rfl; rfl)
  | ((with_reducible apply Ev.o_neg); walk_at "up"; rfl; rfl; rfl))
local macro_rules | `(tactic| walk_at "eq") => `(tactic| ((with_reducible apply Ev.u_ownB); assumption; walk_at "up"; walk_at "up"; (focus (intro k; first | rfl | exact Pl.e_add | exact Pl.e_sub | exact Pl.e_mul | exact Pl.e_rsub | exact Pl.e_rsub2))))
local macro_rules | `(tactic| walk_at "isp") => `(tactic| (apply Ev.u_isB; walk_at "up"; walk_at "up"; rfl; rfl))

/-! The law's factors: drawn, as a row. -/
namespace Ev
open PySem PySem.Spec PyProof.Rows L2 Pl
def PrV (K : PySem.W.Frag) (H : Hp) (v : V) (p : Pr) : Prop := ∃ a, v = .ref a ∧ SqT K H a [.int p.1, .int p.2]
def Prs (K : PySem.W.Frag) (H : Hp) : List V → List Pr → Prop
  | [], [] => True
  | v :: vs, p :: ps => PrV K H v p ∧ Prs K H vs ps
  | _, _ => False
section
variable {K : PySem.W.Frag} {H H' : Hp}
theorem Prs.d (e : SameD H H') : ∀ {vs : List V} {T : List Pr}, Prs K H vs T → Prs K H' vs T
  | [], [], _ => trivial
  | _ :: _, _ :: _, h => ⟨let ⟨a, h1, h2⟩ := h.1; ⟨a, h1, e.tup h2⟩, Prs.d e h.2⟩
theorem Prs.mut {D : Addr} {us : List V} {o : HO} (hD : H D = some (.lst us)) : ∀ {vs : List V} {T : List Pr}, Prs K H vs T → Prs K (upd H D o) vs T
  | [], [], _ => trivial
  | _ :: _, _ :: _, h => ⟨let ⟨a, h1, h2⟩ := h.1; ⟨a, h1, SqT.mut hD h2⟩, Prs.mut hD h.2⟩
theorem Prs.len : ∀ {vs : List V} {T : List Pr}, Prs K H vs T → vs.length = T.length
  | [], [], _ => rfl
  | _ :: _, _ :: _, h => by rw [List.length_cons, List.length_cons, Prs.len h.2]
theorem Prs.app : ∀ {vs us : List V} {T S : List Pr}, Prs K H vs T → Prs K H us S → Prs K H (vs ++ us) (T ++ S)
  | [], _, [], _, _, h => h
  | _ :: _, _, _ :: _, _, h1, h2 => ⟨h1.1, Prs.app h1.2 h2⟩
theorem Prs.rep {v : V} {p : Pr} (h : PrV K H v p) : ∀ n, Prs K H (List.replicate n v) (List.replicate n p)
  | 0 => trivial
  | n + 1 => ⟨h, Prs.rep h n⟩
theorem Prs.at_ : ∀ {vs : List V} {T : List Pr} {i : Nat} {v : V}, Prs K H vs T → vs[i]? = some v → ∃ t, T[i]? = some t ∧ PrV K H v t
  | [], [], _, _, _, h => by cases h
  | _ :: _, t :: _, 0, _, h, hv => by cases hv; exact ⟨t, rfl, h.1⟩
  | _ :: _, _ :: _, i + 1, _, h, hv => by
    obtain ⟨t, h1, h2⟩ := Prs.at_ (i := i) h.2 hv
    exact ⟨t, h1, h2⟩
end
/-- factors within the law's bounds -/
structure FacOk (c : Int) (ps : List Pr) : Prop where
  num : Bd 101 c
  nz : c ≠ 0
  few : ps.length ≤ 6
  up : ∀ p ∈ ps, 1 ≤ p.1 ∧ p.1 ≤ 10
  bd : ∀ p ∈ ps, Bd 110 p.2
def FacV (K : PySem.W.Frag) (H : Hp) (t : Addr) (c : Int) (ps : List Pr) : Prop := ∃ l vs, H t = some (.tup [.int c, .ref l]) ∧ H l = some (.lst vs) ∧ Prs K H vs ps
theorem FacV.d {K : PySem.W.Frag} {H H' : Hp} {t : Addr} {c : Int} {ps : List Pr} (e : SameD H H') : FacV K H t c ps → FacV K H' t c ps := fun ⟨l, vs, h1, h2, h3⟩ => ⟨l, vs, e.tupA h1, e.lst h2, h3.d e⟩
section
variable {P : Program} {w : World} {K : PySem.W.Frag} {mg : Str → Option Value} {base : Heap}
def spFactors (K : PySem.W.Frag) : Sp := fun vs H Q _ => ∃ (p pc : Addr) (n : Nat), vs = [.ref p] ∧ Pen H p pc n ∧ n + 100 < 2 ^ 40 ∧ ∀ t c ps H', SameD H H' → Pen H' p pc (n + 50) → FacV K H' t c ps → FacOk c ps → Q (.ref t) H'
theorem sc__law_factors : FnScope ["pen", "number", "found", "middle", "turn", "a", "root"] ["pen"] (defScope (topS 43)) := ⟨rfl, rfl, rfl, by decide +kernel, rfl, by decide +kernel, by decide +kernel⟩
theorem ok__law_factors (B : Bn mg) (G__law_draw : CallF P w K mg base "_law_draw" ["pen", "many"] 2 spDraw) (G__law_pick : CallF P w K mg base "_law_pick" ["pen", "some"] 3 (spPick K)) {f : Addr} {fd : FuncData} (F : Fun K "_law_factors" "_law_factors" (topS 43) f fd) : FnOk P w K mg base (L2.CX P w) 4 f fd ["pen"] (spFactors K) := by
  have nd := sc__law_factors.nd
  refine F.okX sc__law_factors (fun vs H Q E h => ?_) (fun cdv A outer s H vs Q E hr h => ?_)
  · obtain ⟨p, pc, n, rfl, _⟩ := h
    rfl
  · refine ⟨_, (pss_cons (ps_par (i := 1) (j := 2) rfl nd rfl rfl (by decide) rfl rfl (pa_cons (pe_callF G__law_pick (hr.mono (by decide)) rfl passL (pa_cons (pv 0) (pa_cons (pe_lst (pa_cons pe_int (pa_cons pe_int (pa_cons (pe_un un_neg pe_int) (pa_cons pe_int (pa_cons (pe_un un_neg (pe_op op_pow pe_int pe_int)) pa_nil)))))) pa_nil))) (pa_cons (pe_lst pa_nil) pa_nil)) (by rfl))
      (pss_cons (ps_set (i := 3) nd rfl (.inl rfl) (pe_callF G__law_pick (hr.mono (by decide)) rfl passL (pa_cons (pv 0) (pa_cons (pe_lst (pa_cons pe_int (pa_cons pe_int (pa_cons pe_int (pa_cons pe_int (pa_cons (pe_op op_add (pe_op op_pow pe_int pe_int) pe_int) pa_nil)))))) pa_nil))))
      (pss_cons (ps_for (passes_of rfl) rfl (pi_range1 rfl B.range (pa_cons (pe_callF G__law_draw (hr.mono (by decide)) rfl passL (pa_cons (pv 0) (pa_cons pe_int pa_nil))) pa_nil)) (pg_name (i := 4) nd rfl (.inl rfl)) (pss_cons (ps_set (i := 5) nd rfl (.inl rfl) (pe_callF G__law_pick (hr.mono (by decide)) rfl passL (pa_cons (pv 0) (pa_cons (pe_lst (pa_cons pe_int (pa_cons pe_int (pa_cons pe_int (pa_cons pe_int (pa_cons pe_int (pa_cons pe_int pa_nil))))))) pa_nil))))
      (pss_cons (ps_set (i := 6) nd rfl (.inl rfl) (pe_tup (pa_cons (pv 5) (pa_cons (pe_op op_sub (pe_op op_add (pe_op op_mulX (pv 5) (pv 3)) (pe_callF G__law_draw (hr.mono (by decide)) rfl passL (pa_cons (pv 0) (pa_cons pe_int pa_nil)))) pe_int) pa_nil))))
      (pss_one (ps_set (i := 2) nd rfl (.inl rfl) (pe_op op_cat (pv 2) (pe_op op_rep (pe_lst (pa_cons (pv 6) pa_nil)) (pe_callF G__law_pick (hr.mono (by decide)) rfl passL (pa_cons (pv 0) (pa_cons (pe_lst (pa_cons pe_int (pa_cons pe_int (pa_cons pe_int (pa_cons pe_int pa_nil))))) pa_nil))))))))))
      (pss_one (ps_ret (pe_tup (pa_cons (pv 1) (pa_cons (pv 2) pa_nil)))))))), ?_⟩
    obtain ⟨p, pc, n, rfl, hp, hn, q⟩ := h
    refine g_st (σ' := [some (.ref p), none, none, none, none, none, none]) rfl ?_
    walk_at "gos"
    refine g_I (by unfold CPow; decide) ?_
    walk_at "gos"
    (walk_at "new"; rename_i l1 _ H1 e1 h1; walk_at "gos")
    refine ⟨p, pc, l1, _, n, rfl, hp.same e1, by omega, sqL h1, (fun z => by cases z), (by show 5 < 100000; decide), fun i1 cv H2 hcv e2 hp2 => ?_⟩
    obtain ⟨c, rfl, hbc, hc0⟩ : ∃ c : Int, cv = .int c ∧ Bd 101 c ∧ c ≠ 0 := by
      match i1, hcv with
      | 0, hv => exact ⟨_, (Option.some.inj hv).symm, (by unfold Bd; decide), by decide⟩
      | 1, hv => exact ⟨_, (Option.some.inj hv).symm, (by unfold Bd; decide), by decide⟩
      | 2, hv => exact ⟨_, (Option.some.inj hv).symm, (by unfold Bd; decide), by decide⟩
      | 3, hv => exact ⟨_, (Option.some.inj hv).symm, (by unfold Bd; decide), by decide⟩
      | 4, hv => exact ⟨_, (Option.some.inj hv).symm, (by unfold Bd; decide), by decide⟩
      | i + 5, hv => cases hv
    walk_at "gos"
    (walk_at "new"; rename_i l3 _ H3 e3 h3; walk_at "gos")
    refine g_I (by unfold CPow; decide) ?_
    walk_at "gos"
    (walk_at "new"; rename_i l4 _ H4 e4 h4; walk_at "gos")
    refine ⟨p, pc, l4, _, _, rfl, hp2.same (e3.trans e4), by omega, sqL h4, (fun z => by cases z), (by show 5 < 100000; decide), fun i2 mv H5 hmv e5 hp5 => ?_⟩
    obtain ⟨m, rfl, hbm⟩ : ∃ c : Int, mv = .int c ∧ Bd 101 c := by
      match i2, hmv with
      | 0, hv => exact ⟨_, (Option.some.inj hv).symm, by unfold Bd; decide⟩
      | 1, hv => exact ⟨_, (Option.some.inj hv).symm, by unfold Bd; decide⟩
      | 2, hv => exact ⟨_, (Option.some.inj hv).symm, by unfold Bd; decide⟩
      | 3, hv => exact ⟨_, (Option.some.inj hv).symm, by unfold Bd; decide⟩
      | 4, hv => exact ⟨_, (Option.some.inj hv).symm, by unfold Bd; decide⟩
      | i + 5, hv => cases hv
    walk_at "gos"
    refine ⟨p, pc, 4, _, rfl, hp5, by omega, by decide, by decide, fun r H6 r0 r1 e6 hp6 => ?_⟩
    walk_at "gos"
    refine u_rng (by omega) (by omega) ?_
    refine for_it walk_range (fun i σ' H' => SameD H H' ∧ Pen H' p pc (n + 5 + 10 * i) ∧ (∃ (l : Addr) (vs : List V) (ps : List Pr) (y4 y5 y6 : Option V), σ' = [some (.ref p), some (.int c), some (.ref l), some (.int m), y4, y5, y6] ∧ H' l = some (.lst vs) ∧ Prs K H' vs ps ∧ ps.length ≤ 2 * i ∧ (∀ p ∈ ps, 1 ≤ p.1 ∧ p.1 ≤ 10) ∧ ∀ p ∈ ps, Bd 110 p.2)) ?_ (fun _ _ _ _ _ => trivial) (fun i y σ' H7 H8 hi q2 hy' => ?_) (fun σ' H7 q2 => ?_)
    · exact ⟨(e1.d.trans e2).trans (e3.d.trans (e4.d.trans (e5.trans e6))), hp6.mono (by omega), l3, [], [], none, none, none, rfl, (e5.trans e6).lst (e4 _ _ h3), trivial, Nat.le_refl _, by simp, by simp⟩
    · obtain ⟨e7, hp7, l, vs, ps, y4, y5, y6, rfl, hl, hps, hpl, hup, hbd⟩ := q2
      obtain ⟨rfl, rfl⟩ := hy'
      have hi3 : i < 3 := by omega
      walk_at "gos"
      (walk_at "new"; rename_i l9 _ H9 e9 h9; walk_at "gos")
      refine ⟨p, pc, l9, _, _, rfl, hp7.same e9, by omega, sqL h9, (fun z => by cases z), (by show 6 < 100000; decide), fun i3 av H10 hav e10 hp10 => ?_⟩
      obtain ⟨a, rfl, ha1, ha2⟩ : ∃ c : Int, av = .int c ∧ 1 ≤ c ∧ c ≤ 10 := by
        match i3, hav with
        | 0, hv => exact ⟨_, (Option.some.inj hv).symm, by decide, by decide⟩
        | 1, hv => exact ⟨_, (Option.some.inj hv).symm, by decide, by decide⟩
        | 2, hv => exact ⟨_, (Option.some.inj hv).symm, by decide, by decide⟩
        | 3, hv => exact ⟨_, (Option.some.inj hv).symm, by decide, by decide⟩
        | 4, hv => exact ⟨_, (Option.some.inj hv).symm, by decide, by decide⟩
        | 5, hv => exact ⟨_, (Option.some.inj hv).symm, by decide, by decide⟩
        | i + 6, hv => cases hv
      have ba : Bd 4 a := by unfold Bd; omega
      walk_at "gos"
      refine g_I (cmul_small ba hbm) ?_
      walk_at "gos"
      refine ⟨p, pc, 25, _, rfl, hp10, by omega, by decide, by decide, fun d H11 d0 d1 e11 hp11 => ?_⟩
      walk_at "gos"
      (walk_at "new"; rename_i t12 _ H12 e12 h12; walk_at "gos")
      (walk_at "new"; rename_i l13 _ H13 e13 h13; walk_at "gos")
      (walk_at "new"; rename_i l14 _ H14 e14 h14; walk_at "gos")
      refine ⟨p, pc, l14, _, _, rfl, hp11.same (e12.trans (e13.trans e14)), by omega, sqL h14, (fun z => by cases z), (by show 4 < 100000; decide), fun i4 kv H15 hkv e15 hp15 => ?_⟩
      obtain ⟨k, rfl, hk1, hk2⟩ : ∃ c : Int, kv = .int c ∧ 1 ≤ c ∧ c ≤ 2 := by
        match i4, hkv with
        | 0, hv => exact ⟨_, (Option.some.inj hv).symm, by decide, by decide⟩
        | 1, hv => exact ⟨_, (Option.some.inj hv).symm, by decide, by decide⟩
        | 2, hv => exact ⟨_, (Option.some.inj hv).symm, by decide, by decide⟩
        | 3, hv => exact ⟨_, (Option.some.inj hv).symm, by decide, by decide⟩
        | i + 4, hv => cases hv
      walk_at "gos"
      refine u_rep (e15.lst (e14 _ _ h13)) (by omega) (by omega) fun l16 H16 _ e16 h16 => ?_
      walk_at "gos"
      have e716 : SameD H8 H16 := e9.d.trans (e10.trans (e11.trans (e12.d.trans (e13.d.trans (e14.d.trans (e15.trans e16.d))))))
      have hlen := hps.len
      refine u_cat (e716.lst hl) h16 (by rw [List.length_replicate]; omega) fun l17 H17 _ e17 h17 => ?_
      walk_at "gos"
      have bb : Bd 110 (a * m + d - 8) := by
        have z1 : Bd 106 (a * m) := (ba.mul hbm).mono (by decide)
        have z2 : Bd 106 d := Bd.mono (n := 5) (by unfold Bd; omega) (by decide)
        have z3 : Bd 107 (-8 : Int) := Bd.mono (n := 5) (by unfold Bd; decide) (by decide)
        have z4 := (z1.add z2).add z3
        rw [show a * m + d + -8 = a * m + d - 8 by omega] at z4
        exact z4.mono (by decide)
      refine ⟨e7.trans (e716.trans e17.d), (hp15.same (e16.trans e17)).mono (by omega), l17, _, ps ++ List.replicate k.toNat (a, a * m + d - 8), _, _, _, rfl, h17, ?_, ?_, ?_, ?_⟩
      · exact (hps.d (e716.trans e17.d)).app (Prs.rep ⟨t12, rfl, sqT ((e15.trans (e16.trans e17).d).tupA (e14 _ _ (e13 _ _ h12)))⟩ _)
      · rw [List.length_append, List.length_replicate]; omega
      · intro p hp
        rcases List.mem_append.mp hp with z | z
        · exact hup p z
        · rw [(List.mem_replicate.mp z).2]; exact ⟨ha1, ha2⟩
      · intro p hp
        rcases List.mem_append.mp hp with z | z
        · exact hbd p z
        · rw [(List.mem_replicate.mp z).2]; exact bb
    · obtain ⟨e7, hp7, l, vs, ps, y4, y5, y6, rfl, hl, hps, hpl, hup, hbd⟩ := q2
      walk_at "gos"
      (walk_at "new"; rename_i t8 _ H8 e8 h8; walk_at "gos")
      exact q t8 c ps H8 (e7.trans e8.d) ((hp7.same e8).mono (by omega)) ⟨l, vs, h8, e8 _ _ hl, hps.d e8.d⟩ ⟨hbc, hc0, by omega, hup, hbd⟩
end
end Ev

end
section
open L2 in
local macro_rules | `(tactic| walk_at "gx") => `(tactic| first
  | ((with_reducible show tVar _ _ _ _); refine g_var rfl ?_)
  | with_reducible refine g_c ?_
  | with_reducible refine g_op ?_
  | with_reducible refine g_cons ?_
  | with_reducible refine g_nil ?_
  | with_reducible refine g_test ?_
  | with_reducible refine g_blp ?_
  | with_reducible refine g_asg ?_
  | (with_reducible refine g_name ?_; (try simp only [List.set_cons_zero, List.set_cons_succ]))
  | with_reducible refine g_call ?_
  | with_reducible refine g_cb ?_
  | with_reducible refine g_I0 ?_
  | with_reducible refine g_U ?_
  | with_reducible refine g_eqI ?_
  | with_reducible refine g_neI ?_
  | with_reducible refine g_if ?_
  | with_reducible refine g_ret ?_
  | with_reducible refine g_retN ?_
  | with_reducible refine g_next ?_
  | with_reducible refine g_drop ?_
  | with_reducible refine g_un ?_
  | with_reducible refine g_tb ?_
  | with_reducible refine g_tup ?_
  | with_reducible refine g_lst ?_
  | with_reducible refine g_and ?_
  | with_reducible refine g_or ?_
  | with_reducible refine g_not ?_
  | with_reducible refine g_andV ?_
  | with_reducible refine g_orV ?_
  | with_reducible refine g_notV ?_
  | with_reducible refine g_ifE ?_
  | with_reducible refine g_fld ?_
  | with_reducible refine g_tt ?_
  | with_reducible refine g_ff ?_
  | with_reducible refine g_ntt ?_
  | with_reducible refine g_nff ?_
  | with_reducible refine g_for ?_
  | with_reducible refine g_list ?_
  | with_reducible refine g_tupI ?_
  | with_reducible refine g_rng1 ?_
  | with_reducible refine g_rng2 ?_
  | with_reducible refine g_enumA ?_
  | with_reducible refine g_rev ?_
  | with_reducible refine g_lc ?_
  | with_reducible refine g_gcons ?_
  | with_reducible refine g_gnil ?_
  | with_reducible refine g_yes ?_
  | with_reducible refine g_sl ?_
  | with_reducible refine g_nopart ?_
  | with_reducible refine g_part ?_
  | with_reducible refine g_int ?_
  | with_reducible refine g_dget ?_
  | with_reducible refine g_dput ?_
  | with_reducible refine g_raiseX ?_
  | with_reducible refine g_tru ?_
  | with_reducible refine g_sub ?_
  | with_reducible refine g_isN ?_
  | with_reducible refine g_notN ?_
  | with_reducible refine g_bm ?_
  | with_reducible refine L2.g_bm0 ?_
  | with_reducible refine g_pair ?_
  | with_reducible refine g_pair0 ?_
  | with_reducible refine u_int1 ?_
  | with_reducible refine g_chain ?_
  | with_reducible refine L2.g_sfld ?_
  | (with_reducible refine g_par3 ?_)
  | (with_reducible refine g_three ?_; (try simp only [List.set_cons_zero, List.set_cons_succ]))
  | ((with_reducible apply L2.g_tupT); walk_at "up"; rfl)
  | (with_reducible refine g_par ?_)
  | (with_reducible refine g_two ?_; (try simp only [List.set_cons_zero, List.set_cons_succ]))
  )
local macro_rules | `(tactic| walk_at "go") => `(tactic| first | walk_at "gx" | with_reducible refine L2.g_seq ?_)
local macro_rules | `(tactic| walk_at "gou") => `(tactic| repeat (walk_at "gx"))
local macro_rules | `(tactic| walk_at "gos") => `(tactic| repeat (walk_at "go"))
local macro_rules | `(tactic| walk_at "sl") => `(tactic| first
  | assumption
  | exact L2.Same.l (by assumption)
  | exact L2.SameD.l (by assumption)
  | exact L2.extN_l (by assumption))
local macro_rules | `(tactic| walk_at "up") => `(tactic| first
  | assumption
  | ((with_reducible apply L2.SameL.lst); walk_at "sl"; walk_at "up")
  | ((with_reducible apply L2.SameL.tupA); walk_at "sl"; walk_at "up")
  | ((with_reducible apply L2.SameL.ins); walk_at "sl"; walk_at "up")
  | ((with_reducible apply Ev.PB.l); walk_at "sl"; walk_at "up")
  | ((with_reducible apply Ev.IsP.l); walk_at "sl"; walk_at "up")
  | ((with_reducible apply L2.sqL); walk_at "up")
  | ((with_reducible apply L2.sqT); walk_at "up")
  | ((with_reducible apply L2.SameL.seq); walk_at "sl"; walk_at "up")
  | ((with_reducible apply Ev.Pen.same); assumption; walk_at "up")
  | ((with_reducible apply Ev.Pen.extN); assumption; walk_at "up")
  | ((with_reducible apply L2.tabs_s); assumption; walk_at "up")
  | ((with_reducible apply L2.tabs_dd); assumption; walk_at "up")
  | ((with_reducible apply Or.inl); walk_at "up")
  | ((with_reducible apply Or.inr); walk_at "up"))
local macro_rules | `(tactic| walk_at "new") => `(tactic| (
  first
    | refine ⟨L2.size_ok (by rfl), fun p hp => ?_⟩
    | refine fun p hp => ?_
  generalize hX : L2.upd _ p _ = H1
  obtain ⟨e, h⟩ := L2.news hp hX
  clear hX))
local macro_rules | `(tactic| walk_at "o") => `(tactic| first
  | ((with_reducible apply Ev.o_add); walk_at "up"; walk_at "up"; rfl; rfl; rfl)
  | ((with_reducible apply Ev.o_sub); walk_at "up"; walk_at "up"; rfl; rfl; rfl)
  | ((with_reducible apply Ev.o_mul); walk_at "up"; walk_at "up"; rfl; rfl; rfl)
  | ((with_reducible apply Ev.o_addI); walk_at "up"; assumption; rfl; rfl; rfl)
  | ((with_reducible apply Ev.o_subI); walk_at "up"; assumption; rfl; rfl; rfl)
  | ((with_reducible apply Ev.o_mulI); walk_at "up"; assumption; rfl; rfl; rfl)
  | ((with_reducible apply Ev.o_radd); walk_at "up"; assumption; rfl; rfl; rfl)
  | ((with_reducible apply Ev.o_rsub); walk_at "up"; assumption; rfl; rfl; rfl)
  | ((with_reducible apply Ev.o_rmul); walk_at "up"; assumption; rfl; rfl; rfl)
  | ((with_reducible apply Ev.o_neg); walk_at "up"; rfl; rfl; rfl))
local macro_rules | `(tactic| walk_at "eq") => `(tactic| ((with_reducible apply Ev.u_ownB); assumption; walk_at "up"; walk_at "up"; (focus (intro k; first | rfl | exact Pl.e_add | exact Pl.e_sub | exact Pl.e_mul | exact Pl.e_rsub | exact Pl.e_rsub2))))
local macro_rules | `(tactic| walk_at "isp") => `(tactic| (apply Ev.u_isB; walk_at "up"; walk_at "up"; rfl; rfl))

/-! The factors' row and signs. -/
namespace Ev
open PySem PySem.Spec PyProof.Rows L2 Pl
theorem fval_snoc {c n : Int} {ps : List Pr} {p : Pr} : fval c (ps ++ [p]) n = fval c ps n * (p.1 * n - p.2) := by
  unfold fval
  rw [List.foldl_append]
  rfl
theorem fsgn_snoc {c n : Int} {ps : List Pr} {p : Pr} : fsgn c (ps ++ [p]) n = fsgn c ps n * (p.1 * n - p.2).sign := by
  unfold fsgn
  rw [List.foldl_append]
  rfl
theorem take_snoc {α : Type} {xs : List α} {i : Nat} {x : α} (h : xs[i]? = some x) : xs.take (i + 1) = xs.take i ++ [x] := by
  rw [List.take_add_one, h]
  rfl
theorem hv_times {xs ys zs : List Int} {n : Int} (hl : zs.length = xs.length + ys.length) (h : ∀ k, at0 zs k = conv xs ys xs.length k) : hv zs n = hv xs n * hv ys n := by
  rw [hv_ev zs, hl, hv_ev xs, hv_ev ys, ← ev_mul (fun k hk => at0_out hk) (fun k hk => at0_out hk)]
  exact ev_congr _ fun k _ => by rw [h, cv_conv]
section
variable {P : Program} {w : World} {K : PySem.W.Frag} {mg : Str → Option Value} {base : Heap}
def spFacRow (K : PySem.W.Frag) : Sp := fun vs H Q _ => ∃ (t : Addr) (c : Int) (ps : List Pr), vs = [.ref t] ∧ FacV K H t c ps ∧ FacOk c ps ∧ ∀ l (ns : List Int) H', Same H H' → H' l = some (.lst (ns.map V.int)) → ns.length = 1 + 2 * ps.length → (∀ n, hv ns n = fval c ps n) → (∀ k, Bd 900 (at0 ns k)) → Q (.ref l) H'
theorem sc__law_factor_row : FnScope ["factors", "number", "found", "row", "a", "b"] ["factors"] (defScope (topS 44)) := ⟨rfl, rfl, rfl, by decide +kernel, rfl, by decide +kernel, by decide +kernel⟩
theorem ok__law_factor_row (B : Bn mg) (G__law_times : CallF P w K mg base "_law_times" ["one", "other"] 1 (spTimes K)) {f : Addr} {fd : FuncData} (F : Fun K "_law_factor_row" "_law_factor_row" (topS 44) f fd) : FnOk P w K mg base (L2.CX P w) 2 f fd ["factors"] (spFacRow K) := by
  have nd := sc__law_factor_row.nd
  refine F.okX sc__law_factor_row (fun vs H Q E h => ?_) (fun cdv A outer s H vs Q E hr h => ?_)
  · obtain ⟨t, c, ps, rfl, _⟩ := h
    rfl
  · refine ⟨_, (pss_cons (ps_asg (pv 0) (pg_tupK (K := K) (n := 2) rfl rfl (pgs_cons (pg_name (i := 1) nd rfl (.inl rfl)) (pgs_cons (pg_name (i := 2) nd rfl (.inl rfl)) pgs_nil))))
      (pss_cons (ps_set (i := 3) nd rfl (.inl rfl) (pe_lst (pa_cons (pv 1) pa_nil)))
      (pss_cons (ps_for (passes_of rfl) rfl (pi_listK (K := K) rfl (pv 2)) (pg_tupK (K := K) (n := 2) rfl rfl (pgs_cons (pg_name (i := 4) nd rfl (.inl rfl)) (pgs_cons (pg_name (i := 5) nd rfl (.inl rfl)) pgs_nil))) (pss_one (ps_set (i := 3) nd rfl (.inl rfl) (pe_callF G__law_times (hr.mono (by decide)) rfl passL (pa_cons (pv 3) (pa_cons (pe_lst (pa_cons (pe_un un_neg (pv 5)) (pa_cons (pv 4) pa_nil))) pa_nil))))))
      (pss_one (ps_ret (pv 3)))))), ?_⟩
    obtain ⟨t, c, ps, rfl, ⟨l, vs, ht, hl, hps⟩, ok, q⟩ := h
    refine g_st (σ' := [some (.ref t), none, none, none, none, none]) rfl ?_
    walk_at "gos"
    (walk_at "new"; rename_i l1 _ H1 e1 h1; walk_at "gos")
    have hlen := hps.len
    have few := ok.few
    refine u_it (sqL (e1 _ _ hl)) ?_
    refine for_it walk_list (fun i σ' H' => Same H H' ∧ ∃ (lr : Addr) (ns : List Int) (y4 y5 : Option V), σ' = [some (.ref t), some (.int c), some (.ref l), some (.ref lr), y4, y5] ∧ H' lr = some (.lst (ns.map V.int)) ∧ ns.length = 1 + 2 * i ∧ (∀ n, hv ns n = fval c (ps.take i) n) ∧ ∀ k, Bd (101 + 130 * i) (at0 ns k)) ?_ (fun i _ H' _ p => sqL (p.1 _ _ hl)) (fun i y σ' H' H4 hi p yy => ?_) (fun σ' H' p => ?_)
    · refine ⟨e1, l1, [c], none, none, rfl, h1, rfl, fun n => ?_, fun k => ?_⟩
      · show 0 * n + c = c
        omega
      · match k with
        | 0 => exact ok.num
        | k + 1 => exact bd0
    · obtain ⟨e2, lr, ns, y4, y5, rfl, hlr, hnl, hnv, hnb⟩ := p
      obtain ⟨rfl, hy⟩ := yy
      obtain ⟨⟨a, b⟩, ht1, a7, rfl, ht2⟩ := (hps.d e2.d).at_ hy
      have hmem := List.mem_of_getElem? ht1
      have hup := ok.up _ hmem
      have hbd := ok.bd _ hmem
      dsimp only at hup hbd ht2
      have hi6 : i < ps.length := by have : i < vs.length := hi; omega
      walk_at "gos"
      (walk_at "new"; rename_i l5 _ H5 e5 h5; walk_at "gos")
      have ba : Bd 110 a := Bd.mono (n := 4) (by unfold Bd; omega) (by decide)
      have b2 : ∀ k, Bd 110 (at0 [-b, a] k) := fun k => by
        match k with
        | 0 => exact hbd.neg
        | 1 => exact ba
        | k + 2 => exact bd0
      refine ⟨lr, l5, ns, [-b, a], rfl, sqL (e5 _ _ hlr), sqL h5, by simp; omega, fun k => (hnb k).mono (by omega), fun k => (b2 k).mono (by decide), fun l6 zs H6 e6 h6 hzl hzk => ?_⟩
      walk_at "gos"
      refine ⟨e2.trans (e5.trans e6), l6, zs, _, _, rfl, h6, by rw [hzl]; simp; omega, fun n => ?_, fun k => ?_⟩
      · rw [hv_times hzl hzk, hnv, take_snoc ht1, fval_snoc]
        congr 1
        show ((0 * n + a) * n + -b) = a * n - b
        rw [Int.zero_mul, Int.zero_add]
        omega
      · rw [hzk]
        exact (conv_bd hnb b2 ns.length k).mono (by omega)
    · obtain ⟨e2, lr, ns, y4, y5, rfl, hlr, hnl, hnv, hnb⟩ := p
      rw [hlen] at hnl hnb
      rw [List.take_of_length_le (by omega)] at hnv
      walk_at "gos"
      exact q lr ns H' e2 hlr hnl hnv fun k => (hnb k).mono (by omega)
def spFacSign (K : PySem.W.Frag) : Sp := fun vs H Q _ => ∃ (t : Addr) (c n : Int) (ps : List Pr), vs = [.ref t, .int n] ∧ FacV K H t c ps ∧ FacOk c ps ∧ Bd 1000 n ∧ ∀ H', Same H H' → Q (.int (fsgn c ps n)) H'
theorem sc__law_factor_sign : FnScope ["factors", "n", "number", "found", "sign", "a", "b"] ["factors", "n"] (defScope (topS 46)) := ⟨rfl, rfl, rfl, by decide +kernel, rfl, by decide +kernel, by decide +kernel⟩
theorem ok__law_factor_sign (B : Bn mg) (G__law_sign : CallF P w K mg base "_law_sign" ["value"] 1 spSign) {f : Addr} {fd : FuncData} (F : Fun K "_law_factor_sign" "_law_factor_sign" (topS 46) f fd) : FnOk P w K mg base (L2.CX P w) 2 f fd ["factors", "n"] (spFacSign K) := by
  have nd := sc__law_factor_sign.nd
  refine F.okX sc__law_factor_sign (fun vs H Q E h => ?_) (fun cdv A outer s H vs Q E hr h => ?_)
  · obtain ⟨t, c, n, ps, rfl, _⟩ := h
    rfl
  · refine ⟨_, (pss_cons (ps_asg (pv 0) (pg_tupK (K := K) (n := 2) rfl rfl (pgs_cons (pg_name (i := 2) nd rfl (.inl rfl)) (pgs_cons (pg_name (i := 3) nd rfl (.inl rfl)) pgs_nil))))
      (pss_cons (ps_set (i := 4) nd rfl (.inl rfl) (pe_callF G__law_sign (hr.mono (by decide)) rfl passL (pa_cons (pv 2) pa_nil)))
      (pss_cons (ps_for (passes_of rfl) rfl (pi_listK (K := K) rfl (pv 3)) (pg_tupK (K := K) (n := 2) rfl rfl (pgs_cons (pg_name (i := 5) nd rfl (.inl rfl)) (pgs_cons (pg_name (i := 6) nd rfl (.inl rfl)) pgs_nil))) (pss_one (ps_set (i := 4) nd rfl (.inl rfl) (pe_op op_mulX (pv 4) (pe_callF G__law_sign (hr.mono (by decide)) rfl passL (pa_cons (pe_op op_sub (pe_op op_mulX (pv 5) (pv 1)) (pv 6)) pa_nil))))))
      (pss_one (ps_ret (pv 4)))))), ?_⟩
    obtain ⟨t, c, n, ps, rfl, ⟨l, vs, ht, hl, hps⟩, ok, hbn, q⟩ := h
    refine g_st (σ' := [some (.ref t), some (.int n), none, none, none, none, none]) rfl ?_
    walk_at "gos"
    refine ⟨_, rfl, ?_⟩
    walk_at "gos"
    have hlen := hps.len
    have few := ok.few
    refine u_it (sqL hl) ?_
    refine for_it walk_list (fun i σ' H' => Same H H' ∧ ∃ (y5 y6 : Option V), σ' = [some (.ref t), some (.int n), some (.int c), some (.ref l), some (.int (fsgn c (ps.take i) n)), y5, y6]) ?_ (fun i _ H' _ p => sqL (p.1 _ _ hl)) (fun i y σ' H' H4 hi p yy => ?_) (fun σ' H' p => ?_)
    · exact ⟨Same.refl _, none, none, rfl⟩
    · obtain ⟨e2, y5, y6, rfl⟩ := p
      obtain ⟨rfl, hy⟩ := yy
      obtain ⟨⟨a, b⟩, ht1, a7, rfl, ht2⟩ := (hps.d e2.d).at_ hy
      have hmem := List.mem_of_getElem? ht1
      have hup := ok.up _ hmem
      dsimp only at hup ht2
      have ba : Bd 4 a := by unfold Bd; omega
      walk_at "gos"
      refine g_I (cmul_small ba hbn) ?_
      walk_at "gos"
      refine ⟨_, rfl, ?_⟩
      walk_at "gos"
      have s1 : ∀ z : Int, Bd 2 z.sign := fun z => by rcases sgn3 z with e | e | e <;> (rw [e]; unfold Bd; decide)
      refine g_I (cmul_small (by rw [← fval_sign]; exact s1 _) (s1 _)) ?_
      walk_at "gos"
      rw [take_snoc ht1, fsgn_snoc]
      exact ⟨e2, _, _, rfl⟩
    · obtain ⟨e2, y5, y6, rfl⟩ := p
      walk_at "gos"
      rw [List.take_of_length_le (by omega)]
      exact q H' e2
end
end Ev

end
section
open L2 in
local macro_rules | `(tactic| walk_at "gx") => `(tactic| first
  | ((with_reducible show tVar _ _ _ _); refine g_var rfl ?_)
  | with_reducible refine g_c ?_
  | with_reducible refine g_op ?_
  | with_reducible refine g_cons ?_
  | with_reducible refine g_nil ?_
  | with_reducible refine g_test ?_
  | with_reducible refine g_blp ?_
  | with_reducible refine g_asg ?_
  | (with_reducible refine g_name ?_; (try simp only [List.set_cons_zero, List.set_cons_succ]))
  | with_reducible refine g_call ?_
  | with_reducible refine g_cb ?_
  | with_reducible refine g_I0 ?_
  | with_reducible refine g_U ?_
  | with_reducible refine g_eqI ?_
  | with_reducible refine g_neI ?_
  | with_reducible refine g_if ?_
  | with_reducible refine g_ret ?_
  | with_reducible refine g_retN ?_
  | with_reducible refine g_next ?_
  | with_reducible refine g_drop ?_
  | with_reducible refine g_un ?_
  | with_reducible refine g_tb ?_
  | with_reducible refine g_tup ?_
  | with_reducible refine g_lst ?_
  | with_reducible refine g_and ?_
  | with_reducible refine g_or ?_
  | with_reducible refine g_not ?_
  | with_reducible refine g_andV ?_
  | with_reducible refine g_orV ?_
  | with_reducible refine g_notV ?_
  | with_reducible refine g_ifE ?_
  | with_reducible refine g_fld ?_
  | with_reducible refine g_tt ?_
  | with_reducible refine g_ff ?_
  | with_reducible refine g_ntt ?_
  | with_reducible refine g_nff ?_
  | with_reducible refine g_for ?_
  | with_reducible refine g_list ?_
  | with_reducible refine g_tupI ?_
  | with_reducible refine g_rng1 ?_
  | with_reducible refine g_rng2 ?_
  | with_reducible refine g_enumA ?_
  | with_reducible refine g_rev ?_
  | with_reducible refine g_lc ?_
  | with_reducible refine g_gcons ?_
  | with_reducible refine g_gnil ?_
  | with_reducible refine g_yes ?_
  | with_reducible refine g_sl ?_
  | with_reducible refine g_nopart ?_
  | with_reducible refine g_part ?_
  | with_reducible refine g_int ?_
  | with_reducible refine g_dget ?_
  | with_reducible refine g_dput ?_
  | with_reducible refine g_raiseX ?_
  | with_reducible refine g_tru ?_
  | with_reducible refine g_sub ?_
  | with_reducible refine g_isN ?_
  | with_reducible refine g_notN ?_
  | with_reducible refine g_bm ?_
  | with_reducible refine L2.g_bm0 ?_
  | with_reducible refine g_pair ?_
  | with_reducible refine g_pair0 ?_
  | with_reducible refine u_int1 ?_
  | with_reducible refine g_chain ?_
  | with_reducible refine L2.g_sfld ?_
  | (with_reducible refine g_par3 ?_)
  | (with_reducible refine g_three ?_; (try simp only [List.set_cons_zero, List.set_cons_succ]))
  | ((with_reducible apply L2.g_tupT); walk_at "up"; rfl)
  | (with_reducible refine g_par ?_)
  | (with_reducible refine g_two ?_; (try simp only [List.set_cons_zero, List.set_cons_succ]))
  )
local macro_rules | `(tactic| walk_at "go") => `(tactic| first | walk_at "gx" | with_reducible refine L2.g_seq ?_)
local macro_rules | `(tactic| walk_at "gou") => `(tactic| repeat (walk_at "gx"))
local macro_rules | `(tactic| walk_at "gos") => `(tactic| repeat (walk_at "go"))
local macro_rules | `(tactic| walk_at "sl") => `(tactic| first
  | assumption
  | exact L2.Same.l (by assumption)
  | exact L2.SameD.l (by assumption)
  | exact L2.extN_l (by assumption))
local macro_rules | `(tactic| walk_at "up") => `(tactic| first
  | assumption
  | ((with_reducible apply L2.SameL.lst); walk_at "sl"; walk_at "up")
  | ((with_reducible apply L2.SameL.tupA); walk_at "sl"; walk_at "up")
  | ((with_reducible apply L2.SameL.ins); walk_at "sl"; walk_at "up")
  | ((with_reducible apply Ev.PB.l); walk_at "sl"; walk_at "up")
  | ((with_reducible apply Ev.IsP.l); walk_at "sl"; walk_at "up")
  | ((with_reducible apply L2.sqL); walk_at "up")
  | ((with_reducible apply L2.sqT); walk_at "up")
  | ((with_reducible apply L2.SameL.seq); walk_at "sl"; walk_at "up")
  | ((with_reducible apply Ev.Pen.same); assumption; walk_at "up")
  | ((with_reducible apply Ev.Pen.extN); assumption; walk_at "up")
  | ((with_reducible apply L2.tabs_s); assumption; walk_at "up")
  | ((with_reducible apply L2.tabs_dd); assumption; walk_at "up")
  | ((with_reducible apply Or.inl); walk_at "up")
  | ((with_reducible apply Or.inr); walk_at "up"))
local macro_rules | `(tactic| walk_at "new") => `(tactic| (
  first
    | refine ⟨L2.size_ok (by rfl), fun p hp => ?_⟩
    | refine fun p hp => ?_
  generalize hX : L2.upd _ p _ = H1
  obtain ⟨e, h⟩ := L2.news hp hX
  clear hX))
local macro_rules | `(tactic| walk_at "o") => `(tactic| first
  | ((with_reducible apply Ev.o_add); walk_at "up"; walk_at "up"; rfl; rfl; rfl)
  | ((with_reducible apply Ev.o_sub); walk_at "up"; walk_at "up"; rfl; rfl; rfl)
  | ((with_reducible apply Ev.o_mul); walk_at "up"; walk_at "up"; rfl; rfl; rfl)
  | ((with_reducible apply Ev.o_addI); walk_at "up"; assumption; rfl; rfl; rfl)
  | ((with_reducible apply Ev.o_subI); walk_at "up"; assumption; rfl; rfl; rfl)
  | ((with_reducible apply Ev.o_mulI); walk_at "up"; assumption; rfl; rfl; rfl)
  | ((with_reducible apply Ev.o_radd); walk_at "up"; assumption; rfl; rfl; rfl)
  | ((with_reducible apply Ev.o_rsub); walk_at "up"; assumption; rfl; rfl; rfl)
  | ((with_reducible apply Ev.o_rmul); walk_at "up"; assumption; rfl; rfl; rfl)
  | ((with_reducible apply Ev.o_neg); walk_at "up"; rfl; rfl; rfl))
local macro_rules | `(tactic| walk_at "eq") => `(tactic| ((with_reducible apply Ev.u_ownB); assumption; walk_at "up"; walk_at "up"; (focus (intro k; first | rfl | exact Pl.e_add | exact Pl.e_sub | exact Pl.e_mul | exact Pl.e_rsub | exact Pl.e_rsub2))))
local macro_rules | `(tactic| walk_at "isp") => `(tactic| (apply Ev.u_isB; walk_at "up"; walk_at "up"; rfl; rfl))

/-! The law's own stretches of a product of factors. -/
namespace Ev
open PySem PySem.Spec PyProof.Rows L2 Pl
def prD (p : Pr) : PyData := .tuple [.int p.1, .int p.2]
section
variable {K : PySem.W.Frag} {H H' : Hp}
theorem Prs.dp : ∀ {vs : List V} {T : List Pr}, Prs K H vs T → DpAll K H vs (T.map prD)
  | [], [], _ => .nil
  | _ :: _, _ :: _, h => by
    obtain ⟨⟨a, rfl, h1⟩, h2⟩ := h
    exact .cons (.tup h1 (.cons (.int _) (.cons (.int _) .nil))) (Prs.dp h2)
theorem pr_lay : ∀ T : List Pr, PyData.canLayAll0 (T.map prD) = true ∧ PyData.depthAll (T.map prD) ≤ 1
  | [] => ⟨rfl, Nat.zero_le _⟩
  | t :: T => by
    obtain ⟨h1, h2⟩ := pr_lay T
    refine ⟨?_, ?_⟩
    · show (true && PyData.canLayAll0 (T.map prD)) = true
      rw [h1]; rfl
    · show max 1 (PyData.depthAll (T.map prD)) ≤ 1
      omega
theorem u_eqPr0 {a b : Addr} {vs : List V} {T : List Pr} {Q : VK} (h1 : H a = some (.lst vs)) (hp : Prs K H vs T) (h2 : H b = some (.lst [])) (q : Q (.bl (decide (T = []))) H) : rEqD K (.ref a) (.ref b) H Q := by
  obtain ⟨l1, l2⟩ := pr_lay T
  refine ⟨_, _, .lst (sqL h1) hp.dp, .lst (sqL h2) .nil, ?_, rfl, ?_⟩
  · unfold SeqAt.shaped
    rw [Bool.and_eq_true]
    refine ⟨l1, decide_eq_true ?_⟩
    show PyData.depthAll (T.map prD) + 1 ≤ 64
    omega
  · show Q (.bl (PyData.eqv (.list (T.map prD)) (.list []))) H
    have : PyData.eqv (.list (T.map prD)) (.list []) = decide (T = []) := by
      cases T <;> simp [PyData.eqv, PyData.eqvAll]
    rw [this]
    exact q
theorem Prs.x {l : Addr} {us : List V} (hl : H l = some (.lst us)) (e : SameX l H H') : ∀ {vs : List V} {T : List Pr}, Prs K H vs T → Prs K H' vs T
  | [], [], _ => trivial
  | _ :: _, _ :: _, h => ⟨let ⟨a, h1, h2⟩ := h.1; ⟨a, h1, e.tup hl h2⟩, Prs.x hl e h.2⟩
theorem Prs.last {us : List V} {G : List Pr} {p : Pr} (h : Prs K H us G) (hp : G.getLast? = some p) : ∃ v, us[us.length - 1]? = some v ∧ PrV K H v p := by
  have hl := h.len
  obtain ⟨G0, rfl⟩ := List.getLast?_eq_some_iff.mp hp
  rw [List.length_append, List.length_singleton] at hl
  obtain ⟨v, hv⟩ : ∃ v, us[us.length - 1]? = some v := ⟨_, List.getElem?_eq_getElem (by omega)⟩
  obtain ⟨t, h1, h2⟩ := h.at_ hv
  rw [hl, Nat.add_sub_cancel, List.getElem?_concat_length] at h1
  cases h1
  exact ⟨v, hv, h2⟩
end
/-- the places about b // a -/
def about (p : Pr) : List Int := [p.2.fdiv p.1 + -1, p.2.fdiv p.1 + 0, p.2.fdiv p.1 + 1, p.2.fdiv p.1 + 2]
theorem fdiv_bd {a b : Int} (ha : 1 ≤ a) (hb : Bd 110 b) : Bd 111 (b.fdiv a) := by
  rw [Int.fdiv_eq_ediv_of_nonneg _ (by omega)]
  have z1 := Int.mul_ediv_add_emod b a
  have z2 := Int.emod_nonneg b (show a ≠ 0 by omega)
  have z3 := Int.emod_lt_of_pos b (show 0 < a by omega)
  have hb' : b.natAbs < 2 ^ 110 := hb
  show (b / a).natAbs < 2 ^ 111
  have h2 : (b / a).natAbs ≤ b.natAbs + 1 := by
    generalize b / a = q at z1 ⊢
    by_cases c : 0 ≤ q
    · have := Int.mul_le_mul_of_nonneg_right ha c
      rw [Int.one_mul] at this
      omega
    · by_cases c2 : q < -1
      · have : a * (q + 1) ≤ 1 * (q + 1) := Int.mul_le_mul_of_nonpos_right ha (by omega)
        rw [Int.mul_add, Int.mul_one, Int.one_mul] at this
        omega
      · omega
  have : (2 : Nat) ^ 111 = 2 ^ 110 * 2 := by rw [Nat.pow_succ]
  omega
section
variable {P : Program} {w : World} {K : PySem.W.Frag} {mg : Str → Option Value} {base : Heap}
def spFacSigns (K : PySem.W.Frag) : Sp := fun vs H Q _ => ∃ (t : Addr) (c low : Int) (ps : List Pr), vs = [.ref t, .int low] ∧ FacV K H t c ps ∧ FacOk c ps ∧ Bd 300 low ∧ ∀ l T H', Same H H' → TrL K H' l T → WL (fun n => fsgn c ps n) low T none → AD (sgs T) → T.length ≤ 25 → Q (.ref l) H'
theorem sc__law_factor_signs : FnScope ["factors", "low", "spots", "a", "b", "k", "spot", "found", "sign", "row", "ends"] ["factors", "low"] (defScope (topS 47)) := ⟨rfl, rfl, rfl, by decide +kernel, rfl, by decide +kernel, by decide +kernel⟩
theorem ok__law_factor_signs (B : Bn mg) (G__law_factor_sign : CallF P w K mg base "_law_factor_sign" ["factors", "n"] 2 (spFacSign K)) {f : Addr} {fd : FuncData} (F : Fun K "_law_factor_signs" "_law_factor_signs" (topS 47) f fd) : FnOk P w K mg base (L2.CX P w) 3 f fd ["factors", "low"] (spFacSigns K) := by
  have nd := sc__law_factor_signs.nd
  refine F.okX sc__law_factor_signs (fun vs H Q E h => ?_) (fun cdv A outer s H vs Q E hr h => ?_)
  · obtain ⟨t, c, low, ps, rfl, _⟩ := h
    rfl
  · refine ⟨_, (pss_cons (ps_set (i := 2) nd rfl (.inl rfl) (pe_lst (pa_cons (pv 1) pa_nil)))
      (pss_cons (ps_for (passes_of rfl) rfl (pi_listK (K := K) rfl (pe_ix (ix_tupK (K := K) rfl) (pv 0) pe_int (fun _ _ => rfl))) (pg_tupK (K := K) (n := 2) rfl rfl (pgs_cons (pg_name (i := 3) nd rfl (.inr rfl)) (pgs_cons (pg_name (i := 4) nd rfl (.inr rfl)) pgs_nil))) (pss_one (ps_set (i := 2) nd rfl (.inl rfl) (pe_op op_cat (pv 2) (pe_lc (own := [("k", 5)]) (g := gName 5) (tt := tYes) rfl nd (pi_tupK (K := K) rfl (pe_tup (pa_cons (pe_un un_neg pe_int) (pa_cons pe_int (pa_cons pe_int (pa_cons pe_int pa_nil)))))) (blkOk_by (N := ["factors", "low", "spots", "a", "b", "k", "spot", "found", "sign", "row", "ends"]) (sc := defScope (topS 47)) (by decide +kernel)) (fun _ _ _ _ _ => (pg_name (i := 5) nd rfl (.inl rfl))) (fun _ _ _ _ _ => pts_nil) (fun _ _ _ _ _ => (pe_op op_add (pe_op op_fdivX (pv 4) (pv 3)) (pv 5))))))))
      (pss_cons (ps_set (i := 2) nd rfl (.inl rfl) (pe_callB (cr_sortedSetK (w := w) rfl rfl) (by rfl) B.sorted (by decide +kernel) (pa_cons (pe_callTy (cr_setLK (K := K) (w := w) rfl rfl rfl) (by rfl) B.set_ (by decide +kernel) (pa_cons (pe_lc (own := [("spot", 6)]) (g := gName 6) rfl nd (pi_listK (K := K) rfl (pv 2)) (blkOk_by (N := ["factors", "low", "spots", "a", "b", "k", "spot", "found", "sign", "row", "ends"]) (sc := defScope (topS 47)) (by decide +kernel)) (fun _ _ _ _ _ => (pg_name (i := 6) nd rfl (.inl rfl))) (fun _ _ _ _ _ => (pts_one (pt_cmpR op_ge (pv 6) (pv 1) (nomark _)))) (fun _ _ _ _ _ => (pe_callTy call_in1 (by rfl) B.int_ (by decide +kernel) (pa_cons (pv 6) pa_nil)))) pa_nil)) pa_nil)))
      (pss_cons (ps_set (i := 7) nd rfl (.inr rfl) (pe_lst pa_nil))
      (pss_cons (ps_for (passes_of rfl) rfl (pi_listK (K := K) rfl (pv 2)) (pg_name (i := 6) nd rfl (.inl rfl)) (pss_cons (ps_set (i := 8) nd rfl (.inl rfl) (pe_callF G__law_factor_sign (hr.mono (by decide)) rfl passL (pa_cons (pv 0) (pa_cons (pv 6) pa_nil))))
      (pss_one (ps_if (PW.pt (pw_or (pt_cmpR (op_eqDK (K := K) rfl hr.units) (pv 7) (pe_lst pa_nil) (nomark _)) (pw_or1 (pt_cmpR op_ne (pe_ix (ix_tupK (K := K) rfl) (pe_ix (ix_listK (K := K) rfl) (pv 7) (pe_un un_neg pe_int) (fun _ _ => rfl)) pe_int (fun _ _ => rfl)) (pv 8) (nomark _))))) (pss_one (ps_expr (pe_bm PySem.F.plainAttrs_list PySem.F.slot_list_append PySem.F.type_list_append mt_append (pv 7) (pa_cons (pe_tup (pa_cons (pv 6) (pa_cons (pv 8) pa_nil))) pa_nil)))) pss_nil))))
      (pss_cons (ps_set (i := 10) nd rfl (.inr rfl) (pe_op op_cat (pe_lc (own := [("row", 9)]) (g := gName 9) (tt := tYes) rfl nd (pi_listK (K := K) rfl (pe_slice (sl_listK (K := K) rfl) (pv 7) (po_some pe_int) po_none)) (blkOk_by (N := ["factors", "low", "spots", "a", "b", "k", "spot", "found", "sign", "row", "ends"]) (sc := defScope (topS 47)) (by decide +kernel)) (fun _ _ _ _ _ => (pg_name (i := 9) nd rfl (.inl rfl))) (fun _ _ _ _ _ => pts_nil) (fun _ _ _ _ _ => (pe_op op_sub (pe_ix (ix_tupK (K := K) rfl) (pv 9) pe_int (fun _ _ => rfl)) pe_int))) (pe_lst (pa_cons pe_non pa_nil))))
      (pss_one (ps_ret (pe_lc (own := [("k", 5)]) (g := gName 5) (tt := tYes) rfl nd (pi_range1 rfl B.range (pa_cons (pe_callB (call_lnK (K := K) rfl) (by rfl) B.len_ (by decide +kernel) (pa_cons (pv 7) pa_nil)) pa_nil)) (blkOk_by (N := ["factors", "low", "spots", "a", "b", "k", "spot", "found", "sign", "row", "ends"]) (sc := defScope (topS 47)) (by decide +kernel)) (fun _ _ _ _ _ => (pg_name (i := 5) nd rfl (.inl rfl))) (fun _ _ _ _ _ => pts_nil) (fun _ _ _ _ _ => (pe_tup (pa_cons (pe_ix (ix_tupK (K := K) rfl) (pe_ix (ix_listK (K := K) rfl) (pv 7) (pv 5) (fun _ _ => rfl)) pe_int (fun _ _ => rfl)) (pa_cons (pe_ix (ix_listK (K := K) rfl) (pv 10) (pv 5) (fun _ _ => rfl)) (pa_cons (pe_ix (ix_tupK (K := K) rfl) (pe_ix (ix_listK (K := K) rfl) (pv 7) (pv 5) (fun _ _ => rfl)) pe_int (fun _ _ => rfl)) pa_nil)))))))))))))), ?_⟩
    obtain ⟨t, c, low, ps, rfl, ⟨l, vs, ht, hl, hps⟩, ok, hbl, q⟩ := h
    have hlen := hps.len
    have few := ok.few
    refine g_st (σ' := [some (.ref t), some (.int low), none, none, none, none, none, none, none, none, none]) rfl ?_
    walk_at "gos"
    (walk_at "new"; rename_i l1 _ H1 e1 h1; walk_at "gos")
    refine u_ixT (sqT (e1 _ _ ht)) (v := .ref l) rfl ?_
    refine u_it (sqL (e1 _ _ hl)) ?_
    refine for_it walk_list (fun i σ' H' => Same H H' ∧ ∃ (ls : Addr) (ns : List Int) (y3 y4 y5 : Option V), σ' = [some (.ref t), some (.int low), some (.ref ls), y3, y4, y5, none, none, none, none, none] ∧ H' ls = some (.lst (ns.map V.int)) ∧ ns.length = 1 + 4 * i ∧ low ∈ ns ∧ (∀ p ∈ ps.take i, ∀ x ∈ about p, x ∈ ns) ∧ ∀ x ∈ ns, Bd 300 x) ?_ (fun i _ H' _ p => sqL (p.1 _ _ hl)) (fun i y σ' H' H4 hi p yy => ?_) (fun σ' H' p => ?_)
    · exact ⟨e1, l1, [low], none, none, none, rfl, h1, rfl, List.mem_singleton.mpr rfl, (fun p hp => by cases hp), fun x hx => by rw [List.mem_singleton.mp hx]; exact hbl⟩
    · obtain ⟨e2, ls, ns, y3, y4, y5, rfl, hls, hnl, hlow, hab, hbd⟩ := p
      obtain ⟨rfl, hy⟩ := yy
      obtain ⟨⟨a, b⟩, ht1, a7, rfl, ht2⟩ := (hps.d e2.d).at_ hy
      have hmem := List.mem_of_getElem? ht1
      have hup := ok.up _ hmem
      have hbb := ok.bd _ hmem
      dsimp only at hup hbb ht2
      have hi6 : i < ps.length := by have : i < vs.length := hi; omega
      walk_at "gos"
      (walk_at "new"; rename_i t5 _ H5 e5 h5; walk_at "gos")
      refine u_itT (sqT h5) fun D hD => ?_
      refine lc_it walk_tup (PvL H5 D (fun _ => true) (fun k => V.int (at0 (about (a, b)) k))) (lc_start hD) (fun k H' _ p => sqT (p.1 _ _ h5)) (fun k v H8 H9 hk p y => ?_) (fun H8 p => ?_)
      · obtain ⟨rfl, hy⟩ := y
        have hk4 : k < 4 := hk
        walk_at "gos"
        refine ⟨rfl, ?_⟩
        have ba : Bd 110 a := Bd.mono (n := 4) (by unfold Bd; omega) (by decide)
        obtain ⟨z, rfl, hz⟩ : ∃ z : Int, v = .int z ∧ b.fdiv a + z = at0 (about (a, b)) k := by
          match k, hy with
          | 0, hy => exact ⟨-1, (Option.some.inj hy).symm, rfl⟩
          | 1, hy => exact ⟨0, (Option.some.inj hy).symm, rfl⟩
          | 2, hy => exact ⟨1, (Option.some.inj hy).symm, rfl⟩
          | 3, hy => exact ⟨2, (Option.some.inj hy).symm, rfl⟩
          | k + 4, hy => cases hy
        walk_at "gos"
        refine g_I (Bd.divX (by omega) ba (by decide)) ?_
        walk_at "gos"
        exact lc_yes hD p (Same.refl _) rfl (by rw [hz]) (by omega)
      · obtain ⟨e8, h8⟩ := p
        rw [given_all] at h8
        have h8' : H8 D = some (.lst ((about (a, b)).map V.int)) := by rw [h8]; rfl
        walk_at "gos"
        have e48 := e5.trans e8
        refine u_cat (e48 _ _ hls) h8' (by rw [List.length_map, List.length_map]; show ns.length + 4 ≤ _; omega) fun l9 H9 _ e9 h9 => ?_
        walk_at "gos"
        refine ⟨e2.trans (e48.trans e9), l9, ns ++ about (a, b), _, _, _, rfl, by rw [List.map_append]; exact h9, by rw [List.length_append]; show ns.length + 4 = _; omega, List.mem_append_left _ hlow, fun p hp x hx => ?_, fun x hx => ?_⟩
        · rw [take_snoc ht1] at hp
          rcases List.mem_append.mp hp with z | z
          · exact List.mem_append_left _ (hab p z x hx)
          · rw [List.mem_singleton.mp z] at hx; exact List.mem_append_right _ hx
        · rcases List.mem_append.mp hx with z | z
          · exact hbd x z
          · have bq := fdiv_bd hup.1 hbb
            have small : ∀ y : Int, -1 ≤ y → y ≤ 2 → Bd 300 (b.fdiv a + y) := fun y y1 y2 => (bq.add (Bd.mono (n := 2) (m := 111) (by unfold Bd; omega) (by decide))).mono (by decide)
            unfold about at z
            simp only [List.mem_cons, List.not_mem_nil, or_false] at z
            rcases z with rfl | rfl | rfl | rfl
            · exact small _ (by decide) (by decide)
            · exact small _ (by decide) (by decide)
            · exact small _ (by decide) (by decide)
            · exact small _ (by decide) (by decide)
    · obtain ⟨e2, ls, ns, y3, y4, y5, rfl, hls, hnl, hlow, hab, hbd⟩ := p
      rw [hlen] at hnl hab
      rw [List.take_of_length_le (Nat.le_refl _)] at hab
      walk_at "gos"
      refine u_it (sqL hls) fun D hD => ?_
      refine lc_it walk_list (fun i H8 => Same H' H8 ∧ H8 D = some (.lst (((ns.take i).filter fun x => decide (low ≤ x)).map V.int))) ?_ (fun i _ H8 p => sqL (p.1 _ _ hls)) (fun i y H8 H9 hi p yy => ?_) (fun H8 p => ?_)
      · exact ⟨same_new hD, upd_same⟩
      · obtain ⟨e8, h8⟩ := p
        obtain ⟨rfl, hy⟩ := yy
        have hi' : i < ns.length := by have : i < (ns.map V.int).length := hi; rwa [List.length_map] at this
        have hg : ns[i]? = some (at0 ns i) := by rw [at0_in hi']; exact List.getElem?_eq_getElem hi'
        obtain rfl := at_ints hy
        have hfl : ((ns.take i).filter fun x => decide (low ≤ x)).length ≤ i := Nat.le_trans (List.length_filter_le _ _) (by rw [List.length_take]; omega)
        rw [take_snoc hg, List.filter_append, List.filter_cons, List.filter_nil]
        walk_at "gos"
        refine ⟨by trivial, ?_⟩
        walk_at "gos"
        by_cases c : low ≤ at0 ns i
        · rw [if_pos (by rw [decide_eq_true_iff]; exact c), if_pos (decide_eq_true c)]
          walk_at "gos"
          refine ⟨_, h8, by rw [sizeLine_eq, List.length_map]; omega, e8.mut hD, ?_⟩
          rw [upd_same, List.map_append]
          rfl
        · rw [if_neg (by rw [decide_eq_true_iff]; exact c), if_neg (by rw [decide_eq_true_iff]; exact c), List.append_nil]
          exact ⟨e8, h8⟩
      · obtain ⟨e8, h8⟩ := p
        rw [List.take_of_length_le (by rw [List.length_map]; omega)] at h8
        walk_at "gos"
        have hfl : (ns.filter fun x => decide (low ≤ x)).length ≤ 25 := Nat.le_trans (List.length_filter_le _ _) (by omega)
        refine u_setLs (sqL h8) (by omega) fun p9 H9 c9 hc9 e9 h9 => ?_
        walk_at "gos"
        refine u_sortedSet h9 (by omega) fun S l10 H10 _ e10 h10 hS1 hS2 hS3 => ?_
        walk_at "gos"
        have hSl : S.length ≤ 25 := by omega
        have hlowS : low ∈ S := (hS2 low).mpr (List.mem_filter.mpr ⟨hlow, decide_eq_true (Int.le_refl _)⟩)
        have hSge : ∀ s ∈ S, low ≤ s := fun s hs => of_decide_eq_true (List.mem_filter.mp ((hS2 s).mp hs)).2
        have hSbd : ∀ s ∈ S, Bd 300 s := fun s hs => hbd s (List.mem_filter.mp ((hS2 s).mp hs)).1
        have hstay : ∀ n, low ≤ n → n + 1 ∉ S → fsgn c ps (n + 1) = fsgn c ps n := fun n hn hns => by
          have hnot : ∀ p ∈ ps, ∀ x ∈ about p, n + 1 ≠ x := fun p hp x hx e => hns ((hS2 _).mpr (List.mem_filter.mpr ⟨by rw [e]; exact hab p hp x hx, decide_eq_true (by omega)⟩))
          refine fsgn_stays (fun p hp => (ok.up p hp).1) fun p hp => ⟨fun e => hnot p hp (p.2.fdiv p.1 + 0) (by simp [about]) (by omega), hnot p hp (p.2.fdiv p.1 + 1) (by simp [about])⟩
        have e10' := e2.trans (e8.trans (e9.trans e10))
        clear e2 e8 e9 e10 h8 h9 hls
        (walk_at "new"; rename_i l11 hl11 H11 e11 h11; walk_at "gos")
        refine u_it (sqL (e11 _ _ h10)) ?_
        refine for_it walk_list (fun i σ' H' => SameX l11 H11 H' ∧ ∃ (us : List V) (G : List Pr) (y6 y8 : Option V), σ' = [some (.ref t), some (.int low), some (.ref l10), y3, y4, y5, y6, some (.ref l11), y8, none, none] ∧ H' l11 = some (.lst us) ∧ Prs K H' us G ∧ GS (fun n => fsgn c ps n) low S i G) ?_ (fun i _ H' _ p => sqL (p.1 _ _ (fun z => by rw [z, hl11] at h10; cases h10) (e11 _ _ h10))) (fun i y σ' H12 H13 hi p yy => ?_) (fun σ' H12 p => ?_)
        · exact ⟨fun b o _ h => h, [], [], none, none, rfl, h11, trivial, fun _ => rfl, fun z => absurd z (Nat.lt_irrefl 0), trivial, Nat.le_refl _⟩
        · obtain ⟨e12, us, G, y6, y8, rfl, hus, hG, hGS⟩ := p
          obtain ⟨rfl, hy⟩ := yy
          have hi' : i < S.length := by have : i < (S.map V.int).length := hi; rwa [List.length_map] at this
          have hg : S[i]? = some (at0 S i) := by rw [at0_in hi']; exact List.getElem?_eq_getElem hi'
          have hsm := List.mem_of_getElem? hg
          obtain rfl := at_ints hy
          have hGS2 := gs_step hS1 hlowS hSge hstay hg hGS
          generalize at0 S i = sp at hg hsm hGS2 ⊢
          have ht10 := e10' _ _ ht
          have hl10 := e10' _ _ hl
          have hF13 : FacV K H13 t c ps := ⟨l, vs, e12 _ _ (fun z => by rw [z, hl11] at ht10; cases ht10) (e11 _ _ ht10), e12 _ _ (fun z => by rw [z, hl11] at hl10; cases hl10) (e11 _ _ hl10), (hps.d (e10'.trans e11).d).x h11 e12⟩
          have hGl := hGS.2.2.2
          have hGn := hG.len
          walk_at "gos"
          refine ⟨t, c, sp, ps, rfl, hF13, ok, (hSbd sp hsm).mono (by decide), fun H14 e14 => ?_⟩
          with_reducible refine g_name ?_
          (try simp only [List.set_cons_zero, List.set_cons_succ])
          have hus14 := e14 _ _ hus
          have hG14 := hG.d e14.d
          generalize hsv : fsgn c ps sp = sv at hGS2 ⊢
          with_reducible refine g_if ?_
          refine g_cutT (fun b H15 => Same H14 H15 ∧ b = match G.getLast? with | some p => decide (p.2 ≠ sv) | none => true) (fun Q1 hQ => ?_) (fun b H15 hb => ?_)
          · walk_at "gos"
            (walk_at "new"; rename_i l15 _ H15 e15 h15; walk_at "gos")
            refine u_eqPr0 (e15 _ _ hus14) (hG14.d e15.d) h15 ?_
            cases hgl : G.getLast? with
            | none =>
              rw [hgl] at hQ
              rw [decide_eq_true (List.getLast?_eq_none_iff.mp hgl)]
              walk_at "gos"
              exact hQ _ _ ⟨e15, rfl⟩
            | some pl =>
              rw [hgl] at hQ
              obtain ⟨vl, hv1, al, rfl, hv2⟩ := (hG14.d e15.d).last hgl
              rw [decide_eq_false (fun z => by rw [z] at hgl; cases hgl)]
              walk_at "gos"
              refine u_ixL (sqL (e15 _ _ hus14)) (v := .ref al) (atI_m1 hv1) ?_
              walk_at "gos"
              refine u_ixT hv2 (v := .int pl.2) rfl ?_
              walk_at "gos"
              refine hQ _ _ ⟨e15, ?_⟩
              by_cases c : pl.2 = sv <;> simp [c]
          · obtain ⟨e15, rfl⟩ := hb
            have hus15 := e15 _ _ hus14
            have hG15 := hG14.d e15.d
            have hadd : ∀ (hgs : gstep G sp sv = G ++ [(sp, sv)]), tDrop (tBM (cxOf (CX P w) P w K mg base ["factors", "low", "spots", "a", "b", "k", "spot", "found", "sign", "row", "ends"] "_law_factor_signs" (defScope (topS 47)) f cdv A outer s H E).K "list" rAppend (tVar 7) (tCons (tTup (tCons (tVar 6) (tCons (tVar 8) tNil))) tNil)) { nx := fun σ' H' => SameX l11 H11 H' ∧ ∃ (us : List V) (G : List Pr) (y6 y8 : Option V), σ' = [some (.ref t), some (.int low), some (.ref l10), y3, y4, y5, y6, some (.ref l11), y8, none, none] ∧ H' l11 = some (.lst us) ∧ Prs K H' us G ∧ GS (fun n => fsgn c ps n) low S (i + 1) G, rt := fun _ _ => False, bk := fun _ _ => False, ct := fun _ _ => False } [some (.ref t), some (.int low), some (.ref l10), y3, y4, y5, some (.int sp), some (.ref l11), some (.int sv), none, none] H15 := fun hgs => by
              walk_at "gos"
              refine ⟨.inl ⟨rfl, _, sqL hus15⟩, ?_⟩
              walk_at "gos"
              (walk_at "new"; rename_i t16 _ H16 e16 h16; walk_at "gos")
              refine u_app (e16 _ _ hus15) (by omega) ?_
              refine ⟨(e12.trans (Same.x (e14.trans (e15.trans e16)))).trans SameX.upd, us ++ [.ref t16], _, _, _, rfl, upd_same, ?_, hGS2⟩
              rw [hgs]
              exact ((hG15.d e16.d).app (us := [.ref t16]) (S := [(sp, sv)]) ⟨⟨t16, rfl, sqT h16⟩, trivial⟩).mut (e16 _ _ hus15)
            have hkeep : ∀ (hgs : gstep G sp sv = G), SameX l11 H11 H15 ∧ ∃ (us : List V) (G : List Pr) (y6 y8 : Option V), [some (.ref t), some (.int low), some (.ref l10), y3, y4, y5, some (.int sp), some (.ref l11), some (.int sv), none, none] = [some (.ref t), some (.int low), some (.ref l10), y3, y4, y5, y6, some (.ref l11), y8, none, none] ∧ H15 l11 = some (.lst us) ∧ Prs K H15 us G ∧ GS (fun n => fsgn c ps n) low S (i + 1) G := fun hgs =>
              ⟨e12.trans (Same.x (e14.trans e15)), us, G, _, _, rfl, hus15, hG15, by rw [hgs] at hGS2; exact hGS2⟩
            cases hgl : G.getLast? with
            | none =>
              show if true = true then _ else _
              rw [if_pos rfl]
              exact hadd (by unfold gstep; rw [hgl, List.getLast?_eq_none_iff.mp hgl]; rfl)
            | some pl =>
              show if decide (pl.2 ≠ sv) = true then _ else _
              by_cases c : pl.2 ≠ sv
              · rw [if_pos (decide_eq_true c)]
                exact hadd (by unfold gstep; rw [hgl]; dsimp only; rw [if_pos c])
              · rw [if_neg (by rw [decide_eq_true_iff]; exact c)]
                walk_at "gos"
                exact hkeep (by unfold gstep; rw [hgl]; dsimp only; rw [if_neg c])
        · obtain ⟨e12, us, G, y6, y8, rfl, hus, hG, hGS⟩ := p
          rw [List.length_map] at hGS
          obtain ⟨hW, hA⟩ := gs_end hlowS (bounded S) hGS
          have hGl := hGS.2.2.2
          have hGn := hG.len
          have h12 : Same H H12 := SameX.same (by
            cases hz : H l11 with
            | none => rfl
            | some o => have := e10' _ _ hz; rw [hl11] at this; cases this) (e10'.trans e11) e12
          have hG0 : G ≠ [] := fun z => by rw [z] at hW; cases hW
          walk_at "gos"
          refine u_sl (sqL hus) fun l13 H13 _ e13 h13 => ?_
          rw [show (some (1 : Int)) = some ((1 : Nat) : Int) from rfl, cut_from] at h13
          refine u_it (sqL h13) fun D hD => ?_
          refine lc_it walk_list (PvL H13 D (fun _ => true) (fun k => V.int ((G.getD (k + 1) (0, 0)).1 - 1))) (lc_start hD) (fun k _ H' p => sqL (p.1 _ _ h13)) (fun k y H14 H15 hk p yy => ?_) (fun H14 p => ?_)
          · obtain ⟨rfl, hy⟩ := yy
            rw [List.getElem?_drop] at hy
            obtain ⟨pr, hp1, a7, rfl, hp2⟩ := (hG.d (e13.trans p.1).d).at_ hy
            have hk' : k < us.length - 1 := by have : k < (us.drop 1).length := hk; rwa [List.length_drop] at this
            walk_at "gos"
            refine ⟨rfl, ?_⟩
            walk_at "gos"
            refine u_ixT hp2 (v := .int pr.1) rfl ?_
            walk_at "gos"
            refine lc_yes hD p (Same.refl _) rfl ?_ (by omega)
            rw [List.getD_eq_getElem?_getD, show k + 1 = 1 + k by omega, hp1]
            rfl
          · obtain ⟨e14, h14⟩ := p
            rw [given_all, List.length_drop] at h14
            walk_at "gos"
            (walk_at "new"; rename_i l15 _ H15 e15 h15; walk_at "gos")
            refine u_cat (e15 _ _ h14) h15 (by rw [List.length_map, List.length_range]; simp; omega) fun l16 H16 _ e16 h16 => ?_
            have e1216 := e13.trans (e14.trans (e15.trans e16))
            have hus16 := e1216 _ _ hus
            have hG16 := hG.d e1216.d
            have hends : ∀ (k : Nat) (p : Pr), G[k]? = some p → ((List.range (us.length - 1)).map (fun k => V.int ((G.getD (k + 1) (0, 0)).1 - 1)) ++ [V.non])[k]? = some (oV ((G[k + 1]?).map fun q => q.1 - 1)) := fun k p hk => by
              have hkl := (List.getElem?_eq_some_iff.mp hk).1
              by_cases z : k < us.length - 1
              · rw [List.getElem?_append_left (by rw [List.length_map, List.length_range]; exact z), List.getElem?_map, List.getElem?_range z]
                have hk1 : k + 1 < G.length := by omega
                show some (V.int ((G.getD (k + 1) (0, 0)).1 - 1)) = _
                rw [List.getD_eq_getElem?_getD, List.getElem?_eq_getElem hk1]
                rfl
              · rw [List.getElem?_append_right (by rw [List.length_map, List.length_range]; omega), List.length_map, List.length_range, show k - (us.length - 1) = 0 by omega, List.getElem?_eq_none (show G.length ≤ k + 1 by omega)]
                rfl
            walk_at "gos"
            refine u_lenL (sqL hus16) ?_
            walk_at "gos"
            refine u_rng (by omega) (by omega) fun D2 hD2 => ?_
            rw [Int.toNat_natCast]
            refine lc_it walk_range (fun k H' => Same H16 H' ∧ ∃ ws, H' D2 = some (.lst ws) ∧ ws.length = k ∧ Trs K H' ws ((trip G).take k)) ?_ (fun _ _ _ _ => trivial) (fun k y H17 H18 hk p yy => ?_) (fun H17 p => ?_)
            · exact ⟨same_new hD2, [], upd_same, rfl, trivial⟩
            · obtain ⟨e17, ws, hws, hwl, hTw⟩ := p
              obtain ⟨rfl, rfl⟩ := yy
              have hkl : k < us.length := hk
              obtain ⟨v, hv⟩ : ∃ v, us[k]? = some v := ⟨_, List.getElem?_eq_getElem hkl⟩
              obtain ⟨pr, hp1, a7, rfl, hp2⟩ := (hG16.d e17.d).at_ hv
              have htr := trip_at hp1
              rw [take_snoc htr]
              walk_at "gos"
              refine ⟨rfl, ?_⟩
              have hix : atI us (0 + (k : Int)) = some (.ref a7) := by rw [Int.zero_add]; unfold atI; rw [ixN_at hkl]; exact hv
              walk_at "gos"
              refine u_ixL (sqL (e17 _ _ hus16)) hix ?_
              walk_at "gos"
              refine u_ixT hp2 (v := .int pr.1) rfl ?_
              walk_at "gos"
              refine u_ixL (sqL (e17 _ _ h16)) (v := oV ((G[k + 1]?).map fun q => q.1 - 1)) (by rw [Int.zero_add]; unfold atI; rw [ixN_at (by simp; omega)]; exact hends k pr hp1) ?_
              walk_at "gos"
              refine u_ixL (sqL (e17 _ _ hus16)) hix ?_
              walk_at "gos"
              refine u_ixT hp2 (v := .int pr.2) rfl ?_
              walk_at "gos"
              (walk_at "new"; rename_i t19 _ H19 e19 h19; walk_at "gos")
              refine ⟨ws, e19 _ _ hws, by rw [sizeLine_eq]; omega, Same.mut (e17.trans e19) hD2, _, upd_same, by simp [hwl], ?_⟩
              exact ((hTw.d e19.d).app (us := [.ref t19]) (S := [(pr.1, (G[k + 1]?).map (fun q => q.1 - 1), pr.2)]) ⟨⟨t19, rfl, sqT h19⟩, trivial⟩).mut (e19 _ _ hws)
            · obtain ⟨e17, ws, hws, hwl, hTw⟩ := p
              rw [List.take_of_length_le (by rw [trip_len]; omega)] at hTw
              walk_at "gos"
              exact q D2 _ H17 (h12.trans (e1216.trans e17)) ⟨ws, hws, hTw⟩ hW hA (by rw [trip_len]; omega)
end
end Ev

end
/-! Sets of n, plainly. -/
namespace Wp
/-- a member of a row of truths -/
def bt (l : List Bool) (k : Nat) : Bool := l.getD k false
theorem bt_in {l : List Bool} {k : Nat} (h : k < l.length) : bt l k = l[k] := by
  unfold bt
  rw [List.getD_eq_getElem?_getD, List.getElem?_eq_getElem h]
  rfl
theorem bt_get {l : List Bool} {k : Nat} {x : Bool} (h : l[k]? = some x) : bt l k = x := by
  unfold bt
  rw [List.getD_eq_getElem?_getD, h]
  rfl
theorem bt_some {l : List Bool} {k : Nat} (h : k < l.length) : l[k]? = some (bt l k) := by rw [bt_in h, List.getElem?_eq_getElem h]
theorem bt_take {l : List Bool} {m k : Nat} (h : k < m) : bt (l.take m) k = bt l k := by
  unfold bt
  rw [List.getD_eq_getElem?_getD, List.getD_eq_getElem?_getD, List.getElem?_take, if_pos h]
theorem bt_ext {a b : List Bool} (hl : a.length = b.length) (h : ∀ k, k < a.length → bt a k = bt b k) : a = b := by
  refine List.ext_getElem hl fun i h1 h2 => ?_
  rw [← bt_in h1, ← bt_in h2]
  exact h i h1
/-- the truth at n -/
def mem (b r : List Bool) (n : Nat) : Bool := if n < b.length then bt b n else bt r (n % r.length)
/-- q is a period from s on -/
def Per (f : Nat → Bool) (s q : Nat) : Prop := ∀ n, s ≤ n → f (n + q) = f n
theorem Per.mul {f : Nat → Bool} {s q : Nat} (h : Per f s q) : ∀ k, Per f s (k * q)
  | 0 => fun n _ => by rw [Nat.zero_mul]; rfl
  | k + 1 => fun n hn => by rw [Nat.add_mul, Nat.one_mul, ← Nat.add_assoc, h _ (by omega), Per.mul h k n hn]
theorem Per.gcd {f : Nat → Bool} {s : Nat} (p q : Nat) : Per f s p → Per f s q → Per f s (Nat.gcd p q) := by
  induction p, q using Nat.gcd.induction with
  | H0 n => intro _ h; rw [Nat.gcd_zero_left]; exact h
  | H1 m n hm ih =>
    intro h1 h2
    rw [Nat.gcd_rec]
    refine ih (fun k hk => ?_) h1
    have e : k + n = k + n % m + n / m * m := by
      have := Nat.mod_add_div n m
      rw [Nat.mul_comm] at this
      omega
    rw [← h2 k hk, e, (h1.mul (n / m)) _ (by omega)]
theorem Per.le {f : Nat → Bool} {s t q : Nat} (h : Per f s q) (hs : s ≤ t) : Per f t q := fun n hn => h n (by omega)
theorem Per.congr {f g : Nat → Bool} {s q : Nat} (h : Per f s q) (e : ∀ n, f n = g n) : Per g s q := fun n hn => by rw [← e, ← e]; exact h n hn
theorem mem_per {b r : List Bool} : Per (mem b r) b.length r.length := fun n hn => by
  unfold mem
  rw [if_neg (by omega), if_neg (by omega), Nat.add_mod_right]
/-- the least data -/
structure Nm (b r : List Bool) : Prop where
  pos : 0 < r.length
  per : ∀ s q, 0 < q → Per (mem b r) s q → r.length ≤ q
  low : 0 < b.length → bt b (b.length - 1) ≠ bt r ((b.length - 1) % r.length)
theorem Nm.uniq {b r b' r' : List Bool} (h : Nm b r) (h' : Nm b' r') (e : ∀ n, mem b r n = mem b' r' n) : b = b' ∧ r = r' := by
  have hl : r.length = r'.length := Nat.le_antisymm (h.per _ _ h'.pos (mem_per.congr fun n => (e n).symm)) (h'.per _ _ h.pos (mem_per.congr e))
  have hr : r = r' := by
    refine bt_ext hl fun k hk => ?_
    have h1 := e (k + (b.length + b'.length) * r.length)
    unfold mem at h1
    have hm : b.length + b'.length ≤ (b.length + b'.length) * r.length := Nat.le_mul_of_pos_right _ h.pos
    rw [if_neg (by omega), if_neg (by omega), ← hl, Nat.add_mul_mod_self_right, Nat.mod_eq_of_lt hk] at h1
    exact h1
  subst hr
  have hb : b.length = b'.length := by
    rcases Nat.lt_trichotomy b.length b'.length with hlt | he | hlt
    · have h1 := e (b'.length - 1)
      unfold mem at h1
      rw [if_neg (by omega), if_pos (by omega)] at h1
      exact absurd h1.symm (h'.low (by omega))
    · exact he
    · have h1 := e (b.length - 1)
      unfold mem at h1
      rw [if_pos (by omega), if_neg (by omega)] at h1
      exact absurd h1 (h.low (by omega))
  refine ⟨bt_ext hb fun k hk => ?_, rfl⟩
  have h1 := e k
  unfold mem at h1
  rw [if_pos hk, if_pos (by omega)] at h1
  exact h1
/-- the row comes round after d -/
def Rnd (R : List Bool) (d : Nat) : Prop := ∀ i, i < R.length → bt R i = bt R (i % d)
/-- the row's least round -/
structure LP (R : List Bool) (d : Nat) : Prop where
  pos : 0 < d
  dvd : R.length % d = 0
  rnd : Rnd R d
  least : ∀ e, 0 < e → e < d → R.length % e = 0 → ¬ Rnd R e
theorem rnd_self {R : List Bool} : Rnd R R.length := fun i hi => by rw [Nat.mod_eq_of_lt hi]
theorem LP.le {R : List Bool} {d : Nat} (h : LP R d) (hR : 0 < R.length) : d ≤ R.length := Nat.le_of_dvd hR (Nat.dvd_of_mod_eq_zero h.dvd)
theorem mem_take {b R : List Bool} {d : Nat} (h : LP R d) (hR : 0 < R.length) (n : Nat) : mem b (R.take d) n = mem b R n := by
  unfold mem
  split
  · rfl
  · have hd := h.le hR
    have hl : (R.take d).length = d := by rw [List.length_take]; omega
    have h1 := Nat.mod_lt n hR
    rw [hl, bt_take (Nat.mod_lt _ h.pos), h.rnd _ h1, Nat.mod_mod_of_dvd _ (Nat.dvd_of_mod_eq_zero h.dvd)]
theorem lp_per {b R : List Bool} {d : Nat} (h : LP R d) (hR : 0 < R.length) {s q : Nat} (hq : 0 < q) (hp : Per (mem b (R.take d)) s q) : (R.take d).length ≤ q := by
  have hd := h.le hR
  have hl : (R.take d).length = d := by rw [List.length_take]; omega
  have hm := mem_per (b := b) (r := R.take d)
  rw [hl] at hm ⊢
  have hS : Per (mem b (R.take d)) (s + b.length) (Nat.gcd d q) := Per.gcd d q (hm.le (by omega)) (hp.le (by omega))
  have hg : 0 < Nat.gcd d q := Nat.gcd_pos_of_pos_left _ h.pos
  have hgd : Nat.gcd d q ∣ d := Nat.gcd_dvd_left d q
  have hdl : d ∣ R.length := Nat.dvd_of_mod_eq_zero h.dvd
  have hgl : Nat.gcd d q ∣ R.length := Nat.dvd_trans hgd hdl
  have hrnd : Rnd R (Nat.gcd d q) := fun i hi => by
    -- far out
    have far : ∀ j, bt R (j % R.length) = mem b (R.take d) (j + (s + b.length) * R.length) := fun j => by
      rw [mem_take h hR]
      unfold mem
      have : s + b.length ≤ (s + b.length) * R.length := Nat.le_mul_of_pos_right _ hR
      rw [if_neg (by omega), Nat.add_mul_mod_self_right]
    have e1 := far i
    rw [Nat.mod_eq_of_lt hi] at e1
    have e2 := far (i % Nat.gcd d q)
    have hlt : i % Nat.gcd d q < R.length := by have := Nat.mod_le i (Nat.gcd d q); omega
    rw [Nat.mod_eq_of_lt hlt] at e2
    rw [e1, e2]
    have hsl : s + b.length ≤ (s + b.length) * R.length := Nat.le_mul_of_pos_right _ hR
    have e3 := (hS.mul (i / Nat.gcd d q)) (i % Nat.gcd d q + (s + b.length) * R.length) (by omega)
    rw [← e3]
    have := Nat.mod_add_div i (Nat.gcd d q)
    rw [Nat.mul_comm] at this
    congr 1
    omega
  have hle := Nat.le_of_dvd hq (Nat.gcd_dvd_right d q)
  by_cases hlt : Nat.gcd d q < d
  · exact absurd hrnd (h.least _ hg hlt (Nat.mod_eq_zero_of_dvd hgl))
  · omega
/-- the start: the last s truths of b from there on are those of the round -/
structure St (b r : List Bool) (s : Nat) : Prop where
  le : s ≤ b.length
  same : ∀ k, s ≤ k → k < b.length → bt b k = bt r (k % r.length)
  low : 0 < s → bt b (s - 1) ≠ bt r ((s - 1) % r.length)
theorem mem_cut {b r : List Bool} {s : Nat} (h : St b r s) (n : Nat) : mem (b.take s) r n = mem b r n := by
  have hl : (b.take s).length = s := by rw [List.length_take]; have := h.le; omega
  unfold mem
  rw [hl]
  by_cases h1 : n < s
  · rw [if_pos h1, if_pos (by have := h.le; omega), bt_take h1]
  · rw [if_neg h1]
    by_cases h2 : n < b.length
    · rw [if_pos h2, h.same n (by omega) h2]
    · rw [if_neg h2]
theorem nm_made {b R : List Bool} {d s : Nat} (hR : 0 < R.length) (h : LP R d) (hs : St b (R.take d) s) : Nm (b.take s) (R.take d) ∧ ∀ n, mem (b.take s) (R.take d) n = mem b R n := by
  have hd := h.le hR
  have hl : (R.take d).length = d := by rw [List.length_take]; omega
  have hl2 : (b.take s).length = s := by rw [List.length_take]; have := hs.le; omega
  refine ⟨⟨by rw [hl]; exact h.pos, fun s' q hq hp => lp_per h hR hq (hp.congr fun n => mem_cut hs n), fun h0 => ?_⟩, fun n => by rw [mem_cut hs, mem_take h hR]⟩
  rw [hl2] at h0 ⊢
  rw [bt_take (by omega)]
  exact hs.low h0
/-- rounds put side by side -/
theorem rep_len {xs : List Bool} : ∀ k, ((List.replicate k xs).flatten).length = k * xs.length
  | 0 => by simp
  | k + 1 => by rw [List.replicate_succ, List.flatten_cons, List.length_append, rep_len k, Nat.add_mul, Nat.one_mul]; omega
theorem rep_at {xs : List Bool} (hx : 0 < xs.length) : ∀ k i, i < k * xs.length → bt ((List.replicate k xs).flatten) i = bt xs (i % xs.length)
  | 0, i, h => by omega
  | k + 1, i, h => by
    rw [List.replicate_succ, List.flatten_cons]
    unfold bt
    rw [List.getD_eq_getElem?_getD, List.getD_eq_getElem?_getD]
    by_cases h1 : i < xs.length
    · rw [List.getElem?_append_left h1, Nat.mod_eq_of_lt h1]
    · rw [Nat.add_mul, Nat.one_mul] at h
      rw [List.getElem?_append_right (by omega), ← List.getD_eq_getElem?_getD, ← List.getD_eq_getElem?_getD]
      have := rep_at hx k (i - xs.length) (by omega)
      unfold bt at this
      rw [this, Nat.mod_eq_sub_mod (a := i) (by omega)]
/-- the row is its first d, k times -/
theorem rnd_iff {R : List Bool} {d : Nat} (hd : 0 < d) (hle : d ≤ R.length) (hm : R.length % d = 0) : R = (List.replicate (R.length / d) (R.take d)).flatten ↔ Rnd R d := by
  have hl : (R.take d).length = d := by rw [List.length_take]; omega
  have hk : R.length / d * d = R.length := Nat.div_mul_cancel (Nat.dvd_of_mod_eq_zero hm)
  constructor
  · intro e i hi
    have h1 : bt R i = bt (R.take d) (i % d) := by
      conv => lhs; rw [e]
      rw [rep_at (by omega) _ _ (by rw [hl, hk]; exact hi), hl]
    rw [h1, bt_take (Nat.mod_lt _ hd)]
  · intro h
    refine bt_ext (by rw [rep_len, hl, hk]) fun k hk' => ?_
    rw [rep_at (by omega) _ _ (by rw [hl, hk]; exact hk'), hl, bt_take (Nat.mod_lt _ hd)]
    exact h k hk'
/-- a function that comes round has least data -/
theorem lp_ex (R : List Bool) (hR : 0 < R.length) : ∃ d, LP R d := by
  have key : ∀ n, (∃ d, d ≤ n ∧ LP R d) ∨ ∀ e, 0 < e → e ≤ n → R.length % e = 0 → ¬ Rnd R e := by
    intro n
    induction n with
    | zero => exact .inr fun e h1 h2 => by omega
    | succ n ih =>
      rcases ih with ⟨d, h1, h2⟩ | h
      · exact .inl ⟨d, by omega, h2⟩
      · by_cases hc : R.length % (n + 1) = 0 ∧ Rnd R (n + 1)
        · exact .inl ⟨n + 1, Nat.le_refl _, by omega, hc.1, hc.2, fun e h1 h2 => h e h1 (by omega)⟩
        · refine .inr fun e h1 h2 h3 h4 => ?_
          by_cases he : e = n + 1
          · subst he; exact hc ⟨h3, h4⟩
          · exact h e h1 (by omega) h3 h4
  rcases key R.length with ⟨d, _, h⟩ | h
  · exact ⟨d, h⟩
  · exact absurd rnd_self (h R.length hR (Nat.le_refl _) (Nat.mod_self _))
theorem st_ex (b r : List Bool) : ∃ s, St b r s := by
  have key : ∀ n, n ≤ b.length → (∀ k, n ≤ k → k < b.length → bt b k = bt r (k % r.length)) → ∃ s, St b r s := by
    intro n
    induction n with
    | zero => exact fun h1 h2 => ⟨0, Nat.zero_le _, h2, fun h => absurd h (Nat.lt_irrefl 0)⟩
    | succ n ih =>
      intro h1 h2
      by_cases hc : bt b n = bt r (n % r.length)
      · refine ih (by omega) fun k h3 h4 => ?_
        by_cases hk : k = n
        · subst hk; exact hc
        · exact h2 k (by omega) h4
      · exact ⟨n + 1, h1, h2, fun _ => by rw [Nat.add_sub_cancel]; exact hc⟩
  exact key b.length (Nat.le_refl _) fun k h1 h2 => by omega
theorem nm_ex (b R : List Bool) (hR : 0 < R.length) : ∃ b' r', Nm b' r' ∧ ∀ n, mem b' r' n = mem b R n := by
  obtain ⟨d, hd⟩ := lp_ex R hR
  obtain ⟨s, hs⟩ := st_ex b (R.take d)
  exact ⟨_, _, nm_made hR hd hs⟩
end Wp
namespace Wp
theorem nm_len {bl rl B R : List Bool} (hR : 0 < R.length) (h : Nm bl rl) (e : ∀ n, mem bl rl n = mem B R n) : rl.length ≤ R.length ∧ bl.length ≤ B.length := by
  obtain ⟨d, hd⟩ := lp_ex R hR
  obtain ⟨s, hs⟩ := st_ex B (R.take d)
  obtain ⟨h1, h2⟩ := nm_made hR hd hs
  obtain ⟨rfl, rfl⟩ := h.uniq h1 fun n => by rw [e, h2]
  rw [List.length_take, List.length_take]
  omega
/-- more truths, more rounds -/
theorem mem_longer {B R M : List Bool} {k : Nat} (hR : 0 < R.length) (hk : 0 < k) (hl : B.length ≤ M.length) (hM : ∀ i, i < M.length → bt M i = mem B R i) (n : Nat) : mem M (List.replicate k R).flatten n = mem B R n := by
  have hlen := rep_len (xs := R) k
  have hpos : 0 < k * R.length := Nat.mul_pos hk hR
  by_cases h : n < M.length
  · unfold mem
    rw [if_pos h, hM n h]
    rfl
  · unfold mem
    rw [if_neg h, if_neg (by omega), hlen, rep_at hR _ _ (Nat.mod_lt _ hpos), Nat.mod_mod_of_dvd _ (Nat.dvd_mul_left _ _)]
end Wp
namespace Wp
theorem lp_rep {R : List Bool} {d k : Nat} (h : LP R d) (hR : 0 < R.length) (hk : 0 < k) : LP (List.replicate k R).flatten d := by
  have hlen := rep_len (xs := R) k
  have hpos : 0 < (List.replicate k R).flatten.length := by rw [hlen]; exact Nat.mul_pos hk hR
  obtain ⟨d', hd'⟩ := lp_ex _ hpos
  have s0 : ∀ r : List Bool, St [] r 0 := fun r => ⟨Nat.le_refl _, fun k _ h => absurd h (Nat.not_lt_zero k), fun h => absurd h (Nat.lt_irrefl 0)⟩
  obtain ⟨n1, e1⟩ := nm_made hR h (s0 _)
  obtain ⟨n2, e2⟩ := nm_made hpos hd' (s0 _)
  have := (n1.uniq n2 fun n => by rw [e1, e2, mem_longer (M := []) hR hk (Nat.le_refl _) (fun i hi => absurd hi (Nat.not_lt_zero i))]).2
  have hl := congrArg List.length this
  rw [List.length_take, List.length_take, Nat.min_eq_left (h.le hR), Nat.min_eq_left (hd'.le hpos)] at hl
  rw [hl]
  exact hd'
/-- one truth at 5 -/
def hot (m : Nat) : List Bool := (List.range m).map fun k => decide (k = 5)
theorem hot_len {m : Nat} : (hot m).length = m := by unfold hot; rw [List.length_map, List.length_range]
theorem hot_at {m k : Nat} (h : k < m) : bt (hot m) k = decide (k = 5) := by
  rw [bt_in (by rw [hot_len]; exact h)]
  unfold hot
  rw [List.getElem_map, List.getElem_range]
theorem hot_lp {m : Nat} (h : 10 < m) : LP (hot m) m := by
  refine ⟨by omega, by rw [hot_len]; exact Nat.mod_self _, by have := rnd_self (R := hot m); rwa [hot_len] at this, fun e h1 h2 h3 h4 => ?_⟩
  rw [hot_len] at h3
  by_cases he : e ≤ 5
  · have := h4 5 (by rw [hot_len]; omega)
    have hlt := Nat.mod_lt 5 h1
    rw [hot_at (by omega), hot_at (by omega), decide_eq_true rfl] at this
    have := of_decide_eq_true this.symm
    omega
  · obtain ⟨c, hc⟩ := Nat.dvd_of_mod_eq_zero h3
    have hc2 : 2 ≤ c := by
      rcases Nat.lt_or_ge c 2 with z | z
      · exfalso
        have : c = 0 ∨ c = 1 := by omega
        rcases this with rfl | rfl
        · rw [Nat.mul_zero] at hc; omega
        · rw [Nat.mul_one] at hc; omega
      · exact z
    have h2e : e * 2 ≤ m := by rw [hc]; exact Nat.mul_le_mul_left _ hc2
    have := h4 (5 + e) (by rw [hot_len]; omega)
    rw [Nat.add_mod_right, Nat.mod_eq_of_lt (by omega), hot_at (by omega), hot_at (by omega), decide_eq_true rfl] at this
    have := of_decide_eq_true this
    omega
theorem st_nil {r : List Bool} : St [] r 0 := ⟨Nat.le_refl _, fun k _ h => absurd h (Nat.not_lt_zero k), fun h => absurd h (Nat.lt_irrefl 0)⟩
/-- one truth at the end -/
def lateB (low : Nat) : List Bool := List.replicate (low - 1) false ++ [true]
theorem late_len {low : Nat} (h : 0 < low) : (lateB low).length = low := by unfold lateB; rw [List.length_append, List.length_replicate, List.length_singleton]; omega
theorem late_st {low : Nat} {r : List Bool} (h : 0 < low) (hr : bt r ((low - 1) % r.length) = false) : St (lateB low) r low := by
  refine ⟨by rw [late_len h]; exact Nat.le_refl _, fun k h1 h2 => by rw [late_len h] at h2; omega, fun _ => ?_⟩
  rw [hr]
  have : bt (lateB low) (low - 1) = true := by
    unfold bt lateB
    rw [List.getD_eq_getElem?_getD, List.getElem?_append_right (by rw [List.length_replicate]; exact Nat.le_refl _), List.length_replicate, Nat.sub_self]
    rfl
  rw [this]
  decide
theorem lp1 {b : Bool} : LP [b] 1 := ⟨by decide, by simp, fun i hi => by
  have : i = 0 := by simpa using hi
  subst this; rfl, fun e h1 h2 => by omega⟩
theorem lp2 : LP [false, true] 2 := ⟨by decide, by decide, fun i hi => by
  have : i < 2 := hi
  rw [Nat.mod_eq_of_lt this], fun e h1 h2 _ h4 => by
  obtain rfl : e = 1 := by omega
  have := h4 1 (by decide)
  exact absurd this (by decide)⟩
end Wp

section
open L2 in
local macro_rules | `(tactic| walk_at "gx") => `(tactic| first
  | ((with_reducible show tVar _ _ _ _); refine g_var rfl ?_)
  | with_reducible refine g_c ?_
  | with_reducible refine g_op ?_
  | with_reducible refine g_cons ?_
  | with_reducible refine g_nil ?_
  | with_reducible refine g_test ?_
  | with_reducible refine g_blp ?_
  | with_reducible refine g_asg ?_
  | (with_reducible refine g_name ?_; (try simp only [List.set_cons_zero, List.set_cons_succ]))
  | with_reducible refine g_call ?_
  | with_reducible refine g_cb ?_
  | with_reducible refine g_I0 ?_
  | with_reducible refine g_U ?_
  | with_reducible refine g_eqI ?_
  | with_reducible refine g_neI ?_
  | with_reducible refine g_if ?_
  | with_reducible refine g_ret ?_
  | with_reducible refine g_retN ?_
  | with_reducible refine g_next ?_
  | with_reducible refine g_drop ?_
  | with_reducible refine g_un ?_
  | with_reducible refine g_tb ?_
  | with_reducible refine g_tup ?_
  | with_reducible refine g_lst ?_
  | with_reducible refine g_and ?_
  | with_reducible refine g_or ?_
  | with_reducible refine g_not ?_
  | with_reducible refine g_andV ?_
  | with_reducible refine g_orV ?_
  | with_reducible refine g_notV ?_
  | with_reducible refine g_ifE ?_
  | with_reducible refine g_fld ?_
  | with_reducible refine g_tt ?_
  | with_reducible refine g_ff ?_
  | with_reducible refine g_ntt ?_
  | with_reducible refine g_nff ?_
  | with_reducible refine g_for ?_
  | with_reducible refine g_list ?_
  | with_reducible refine g_tupI ?_
  | with_reducible refine g_rng1 ?_
  | with_reducible refine g_rng2 ?_
  | with_reducible refine g_enumA ?_
  | with_reducible refine g_rev ?_
  | with_reducible refine g_lc ?_
  | with_reducible refine g_gcons ?_
  | with_reducible refine g_gnil ?_
  | with_reducible refine g_yes ?_
  | with_reducible refine g_sl ?_
  | with_reducible refine g_nopart ?_
  | with_reducible refine g_part ?_
  | with_reducible refine g_int ?_
  | with_reducible refine g_dget ?_
  | with_reducible refine g_dput ?_
  | with_reducible refine g_raiseX ?_
  | with_reducible refine g_tru ?_
  | with_reducible refine g_sub ?_
  | with_reducible refine g_isN ?_
  | with_reducible refine g_notN ?_
  | with_reducible refine g_bm ?_
  | with_reducible refine L2.g_bm0 ?_
  | with_reducible refine g_pair ?_
  | with_reducible refine g_pair0 ?_
  | with_reducible refine u_int1 ?_
  | with_reducible refine g_chain ?_
  | with_reducible refine L2.g_sfld ?_
  | (with_reducible refine g_par3 ?_)
  | (with_reducible refine g_three ?_; (try simp only [List.set_cons_zero, List.set_cons_succ]))
  | ((with_reducible apply L2.g_tupT); walk_at "up"; rfl)
  | (with_reducible refine g_par ?_)
  | (with_reducible refine g_two ?_; (try simp only [List.set_cons_zero, List.set_cons_succ]))
  )
local macro_rules | `(tactic| walk_at "go") => `(tactic| first | walk_at "gx" | with_reducible refine L2.g_seq ?_)
local macro_rules | `(tactic| walk_at "gou") => `(tactic| repeat (walk_at "gx"))
local macro_rules | `(tactic| walk_at "gos") => `(tactic| repeat (walk_at "go"))
local macro_rules | `(tactic| walk_at "sl") => `(tactic| first
  | assumption
  | exact L2.Same.l (by assumption)
  | exact L2.SameD.l (by assumption)
  | exact L2.extN_l (by assumption))
local macro_rules | `(tactic| walk_at "up") => `(tactic| first
  | assumption
  | ((with_reducible apply L2.SameL.lst); walk_at "sl"; walk_at "up")
  | ((with_reducible apply L2.SameL.tupA); walk_at "sl"; walk_at "up")
  | ((with_reducible apply L2.SameL.ins); walk_at "sl"; walk_at "up")
  | ((with_reducible apply Ev.PB.l); walk_at "sl"; walk_at "up")
  | ((with_reducible apply Ev.IsP.l); walk_at "sl"; walk_at "up")
  | ((with_reducible apply L2.sqL); walk_at "up")
  | ((with_reducible apply L2.sqT); walk_at "up")
  | ((with_reducible apply L2.SameL.seq); walk_at "sl"; walk_at "up")
  | ((with_reducible apply Ev.Pen.same); assumption; walk_at "up")
  | ((with_reducible apply Ev.Pen.extN); assumption; walk_at "up")
  | ((with_reducible apply L2.tabs_s); assumption; walk_at "up")
  | ((with_reducible apply L2.tabs_dd); assumption; walk_at "up")
  | ((with_reducible apply Or.inl); walk_at "up")
  | ((with_reducible apply Or.inr); walk_at "up"))
local macro_rules | `(tactic| walk_at "new") => `(tactic| (
  first
    | refine ⟨L2.size_ok (by rfl), fun p hp => ?_⟩
    | refine fun p hp => ?_
  generalize hX : L2.upd _ p _ = H1
  obtain ⟨e, h⟩ := L2.news hp hX
  clear hX))
local macro_rules | `(tactic| walk_at "o") => `(tactic| first
  | ((with_reducible apply Ev.o_add); walk_at "up"; walk_at "up"; rfl; rfl; rfl)
  | ((with_reducible apply Ev.o_sub); walk_at "up"; walk_at "up"; rfl; rfl; rfl)
  | ((with_reducible apply Ev.o_mul); walk_at "up"; walk_at "up"; rfl; rfl; rfl)
  | ((with_reducible apply Ev.o_addI); walk_at "up"; assumption; rfl; rfl; rfl)
  | ((with_reducible apply Ev.o_subI); walk_at "up"; assumption; rfl; rfl; rfl)
  | ((with_reducible apply Ev.o_mulI); walk_at "up"; assumption; rfl; rfl; rfl)
  | ((with_reducible apply Ev.o_radd); walk_at "up"; assumption; rfl; rfl; rfl)
  | ((with_reducible apply Ev.o_rsub); walk_at "up"; assumption; rfl; rfl; rfl)
  | ((with_reducible apply Ev.o_rmul); walk_at "up"; assumption; rfl; rfl; rfl)
  | ((with_reducible apply Ev.o_neg); walk_at "up"; rfl; rfl; rfl))
local macro_rules | `(tactic| walk_at "eq") => `(tactic| ((with_reducible apply Ev.u_ownB); assumption; walk_at "up"; walk_at "up"; (focus (intro k; first | rfl | exact Pl.e_add | exact Pl.e_sub | exact Pl.e_mul | exact Pl.e_rsub | exact Pl.e_rsub2))))
local macro_rules | `(tactic| walk_at "isp") => `(tactic| (apply Ev.u_isB; walk_at "up"; walk_at "up"; rfl; rfl))

/-! wheres.py: sets made -/
namespace Ev
open PySem PySem.Spec PyProof.Rows L2 Wp
/-- isinstance(x, bool) is b -/
def KdB (K : PySem.W.Frag) (H : Hp) (x : V) (b : Bool) : Prop := ∃ t, TyX K H x t ∧ PySem.W.kitOne K t (.type "bool") = some b
section
variable {P : Program} {w : World} {K : PySem.W.Frag} {mg : Str → Option Value} {base : Heap}
theorem KdB.same {H H' : Hp} {x : V} {b : Bool} (e : Same H H') : KdB K H x b → KdB K H' x b := fun ⟨t, h1, h2⟩ => ⟨t, e.ty h1, h2⟩
theorem KdB.bl {H : Hp} {i : Bool} : KdB K H (.bl i) true := ⟨.type "bool", .base (.bl i), kit_ty (by decide +kernel)⟩
theorem KdB.int {H : Hp} {i : Int} : KdB K H (.int i) false := ⟨.type "int", .base (.int i), kit_ty (by decide +kernel)⟩
theorem KdB.non {H : Hp} : KdB K H .non false := ⟨.type "NoneType", .base .non, kit_ty (by decide +kernel)⟩
theorem KdB.str {H : Hp} {i : Str} : KdB K H (.str i) false := ⟨.type "str", .base (.str i), kit_ty (by decide +kernel)⟩
theorem KdB.tup {H : Hp} {a : Addr} {xs : List V} (h : H a = some (.tup xs)) : KdB K H (.ref a) false := ⟨.type "tuple", .base (.tup h), kit_ty (by decide +kernel)⟩
theorem KdB.lst {H : Hp} {a : Addr} {xs : List V} (h : H a = some (.lst xs)) : KdB K H (.ref a) false := ⟨.type "list", .base (.lst h), kit_ty (by decide +kernel)⟩
def spNeedT (K : PySem.W.Frag) (C : Addr) : Sp := fun vs H Q E => ∃ (a : Addr) (xs : List V) (kd : Nat → Bool), vs = [.ref a] ∧ SqA K H a xs ∧ (∀ i x, xs[i]? = some x → KdB K H x (kd i)) ∧
  ((∀ i, i < xs.length → kd i = true) → ∀ H', Same H H' → Q .non H') ∧
  ∀ i, i < xs.length → kd i = false → (∀ j, j < i → kd j = true) → ∀ H', Exc1 H H' C "index" (.int (i : Nat)) E
/-- the least round of a row -/
def spLeastP : Sp := fun vs H Q _ => ∃ (a : Addr) (R : List Bool), vs = [.ref a] ∧ H a = some (.lst (R.map V.bl)) ∧ 0 < R.length ∧ R.length ≤ 100000 ∧ ∀ d H', Same H H' → LP R d → Q (.int (d : Nat)) H'
theorem flat_bl {R : List Bool} : ∀ k, (List.replicate k (R.map V.bl)).flatten = ((List.replicate k R).flatten).map V.bl
  | 0 => rfl
  | k + 1 => by rw [List.replicate_succ, List.replicate_succ, List.flatten_cons, List.flatten_cons, List.map_append, flat_bl k]
theorem fmod_nat {i j : Nat} : ((i : Int).fmod (j : Int)) = ((i % j : Nat) : Int) := by
  rw [Int.fmod_eq_emod_of_nonneg _ (Int.natCast_nonneg j), Int.natCast_emod]
theorem fdiv_nat {i j : Nat} : ((i : Int).fdiv (j : Int)) = ((i / j : Nat) : Int) := by
  rw [Int.fdiv_eq_ediv_of_nonneg _ (Int.natCast_nonneg j), Int.natCast_ediv]
end
end Ev

end
section
open L2 in
local macro_rules | `(tactic| walk_at "gx") => `(tactic| first
  | ((with_reducible show tVar _ _ _ _); refine g_var rfl ?_)
  | with_reducible refine g_c ?_
  | with_reducible refine g_op ?_
  | with_reducible refine g_cons ?_
  | with_reducible refine g_nil ?_
  | with_reducible refine g_test ?_
  | with_reducible refine g_blp ?_
  | with_reducible refine g_asg ?_
  | (with_reducible refine g_name ?_; (try simp only [List.set_cons_zero, List.set_cons_succ]))
  | with_reducible refine g_call ?_
  | with_reducible refine g_cb ?_
  | with_reducible refine g_I0 ?_
  | with_reducible refine g_U ?_
  | with_reducible refine g_eqI ?_
  | with_reducible refine g_neI ?_
  | with_reducible refine g_if ?_
  | with_reducible refine g_ret ?_
  | with_reducible refine g_retN ?_
  | with_reducible refine g_next ?_
  | with_reducible refine g_drop ?_
  | with_reducible refine g_un ?_
  | with_reducible refine g_tb ?_
  | with_reducible refine g_tup ?_
  | with_reducible refine g_lst ?_
  | with_reducible refine g_and ?_
  | with_reducible refine g_or ?_
  | with_reducible refine g_not ?_
  | with_reducible refine g_andV ?_
  | with_reducible refine g_orV ?_
  | with_reducible refine g_notV ?_
  | with_reducible refine g_ifE ?_
  | with_reducible refine g_fld ?_
  | with_reducible refine g_tt ?_
  | with_reducible refine g_ff ?_
  | with_reducible refine g_ntt ?_
  | with_reducible refine g_nff ?_
  | with_reducible refine g_for ?_
  | with_reducible refine g_list ?_
  | with_reducible refine g_tupI ?_
  | with_reducible refine g_rng1 ?_
  | with_reducible refine g_rng2 ?_
  | with_reducible refine g_enumA ?_
  | with_reducible refine g_rev ?_
  | with_reducible refine g_lc ?_
  | with_reducible refine g_gcons ?_
  | with_reducible refine g_gnil ?_
  | with_reducible refine g_yes ?_
  | with_reducible refine g_sl ?_
  | with_reducible refine g_nopart ?_
  | with_reducible refine g_part ?_
  | with_reducible refine g_int ?_
  | with_reducible refine g_dget ?_
  | with_reducible refine g_dput ?_
  | with_reducible refine g_raiseX ?_
  | with_reducible refine g_tru ?_
  | with_reducible refine g_sub ?_
  | with_reducible refine g_isN ?_
  | with_reducible refine g_notN ?_
  | with_reducible refine g_bm ?_
  | with_reducible refine L2.g_bm0 ?_
  | with_reducible refine g_pair ?_
  | with_reducible refine g_pair0 ?_
  | with_reducible refine u_int1 ?_
  | with_reducible refine g_chain ?_
  | with_reducible refine L2.g_sfld ?_
  | (with_reducible refine g_par3 ?_)
  | (with_reducible refine g_three ?_; (try simp only [List.set_cons_zero, List.set_cons_succ]))
  | ((with_reducible apply L2.g_tupT); walk_at "up"; rfl)
  | (with_reducible refine g_par ?_)
  | (with_reducible refine g_two ?_; (try simp only [List.set_cons_zero, List.set_cons_succ]))
  )
local macro_rules | `(tactic| walk_at "go") => `(tactic| first | walk_at "gx" | with_reducible refine L2.g_seq ?_)
local macro_rules | `(tactic| walk_at "gou") => `(tactic| repeat (walk_at "gx"))
local macro_rules | `(tactic| walk_at "gos") => `(tactic| repeat (walk_at "go"))
local macro_rules | `(tactic| walk_at "sl") => `(tactic| first
  | assumption
  | exact L2.Same.l (by assumption)
  | exact L2.SameD.l (by assumption)
  | exact L2.extN_l (by assumption))
local macro_rules | `(tactic| walk_at "up") => `(tactic| first
  | assumption
  | ((with_reducible apply L2.SameL.lst); walk_at "sl"; walk_at "up")
  | ((with_reducible apply L2.SameL.tupA); walk_at "sl"; walk_at "up")
  | ((with_reducible apply L2.SameL.ins); walk_at "sl"; walk_at "up")
  | ((with_reducible apply Ev.PB.l); walk_at "sl"; walk_at "up")
  | ((with_reducible apply Ev.IsP.l); walk_at "sl"; walk_at "up")
  | ((with_reducible apply L2.sqL); walk_at "up")
  | ((with_reducible apply L2.sqT); walk_at "up")
  | ((with_reducible apply L2.SameL.seq); walk_at "sl"; walk_at "up")
  | ((with_reducible apply Ev.Pen.same); assumption; walk_at "up")
  | ((with_reducible apply Ev.Pen.extN); assumption; walk_at "up")
  | ((with_reducible apply L2.tabs_s); assumption; walk_at "up")
  | ((with_reducible apply L2.tabs_dd); assumption; walk_at "up")
  | ((with_reducible apply Or.inl); walk_at "up")
  | ((with_reducible apply Or.inr); walk_at "up"))
local macro_rules | `(tactic| walk_at "new") => `(tactic| (
  first
    | refine ⟨L2.size_ok (by rfl), fun p hp => ?_⟩
    | refine fun p hp => ?_
  generalize hX : L2.upd _ p _ = H1
  obtain ⟨e, h⟩ := L2.news hp hX
  clear hX))
local macro_rules | `(tactic| walk_at "o") => `(tactic| first
  | ((with_reducible apply Ev.o_add); walk_at "up"; walk_at "up"; rfl; rfl; rfl)
  | ((with_reducible apply Ev.o_sub); walk_at "up"; walk_at "up"; rfl; rfl; rfl)
  | ((with_reducible apply Ev.o_mul); walk_at "up"; walk_at "up"; rfl; rfl; rfl)
  | ((with_reducible apply Ev.o_addI); walk_at "up"; assumption; rfl; rfl; rfl)
  | ((with_reducible apply Ev.o_subI); walk_at "up"; assumption; rfl; rfl; rfl)
  | ((with_reducible apply Ev.o_mulI); walk_at "up"; assumption; rfl; rfl; rfl)
  | ((with_reducible apply Ev.o_radd); walk_at "up"; assumption; rfl; rfl; rfl)
  | ((with_reducible apply Ev.o_rsub); walk_at "up"; assumption; rfl; rfl; rfl)
  | ((with_reducible apply Ev.o_rmul); walk_at "up"; assumption; rfl; rfl; rfl)
  | ((with_reducible apply Ev.o_neg); walk_at "up"; rfl; rfl; rfl))
local macro_rules | `(tactic| walk_at "eq") => `(tactic| ((with_reducible apply Ev.u_ownB); assumption; walk_at "up"; walk_at "up"; (focus (intro k; first | rfl | exact Pl.e_add | exact Pl.e_sub | exact Pl.e_mul | exact Pl.e_rsub | exact Pl.e_rsub2))))
local macro_rules | `(tactic| walk_at "isp") => `(tactic| (apply Ev.u_isB; walk_at "up"; walk_at "up"; rfl; rfl))

/-! Where(..), its == -/
namespace Ev
open PySem PySem.Spec PyProof.Rows L2 Wp
/-- the set x has the data bl, rl -/
def IsW (K : PySem.W.Frag) (H : Hp) (x C : Addr) (bl rl : List Bool) : Prop := ∃ dx t1 t2, H x = some (.ins C dx [("period", .int (rl.length : Nat)), ("rests", .ref t1), ("start", .int (bl.length : Nat)), ("below", .ref t2)]) ∧ SqT K H t1 (rl.map V.bl) ∧ SqT K H t2 (bl.map V.bl)
theorem IsW.l {K : PySem.W.Frag} {H H' : Hp} {x C : Addr} {bl rl : List Bool} (e : SameL H H') : IsW K H x C bl rl → IsW K H' x C bl rl := fun ⟨dx, t1, t2, h1, h2, h3⟩ => ⟨dx, t1, t2, e.ins h1, e.tupS h2, e.tupS h3⟩
theorem IsW.same {K : PySem.W.Frag} {H H' : Hp} {x C : Addr} {bl rl : List Bool} (e : Same H H') : IsW K H x C bl rl → IsW K H' x C bl rl := fun h => h.l e.l
/-- C is raised with n = v, in a heap as told -/
def ExcR (Rl : Hp → Prop) (C : Addr) (n : Str) (v : V) (E : XK) : Prop := ∀ H' d, Rl H' → H' d = some (.xd [(n, v)]) → E (.ref C) (some d) H'
structure WArg (K : PySem.W.Frag) (H : Hp) (a b : Addr) (xs ys : List V) (kx ky : Nat → Bool) : Prop where
  sx : SqA K H a xs
  sy : SqA K H b ys
  hx : ∀ i x, xs[i]? = some x → KdB K H x (kx i)
  hy : ∀ i x, ys[i]? = some x → KdB K H x (ky i)
  bx : (∀ i, i < xs.length → kx i = true) → ∃ B : List Bool, xs = B.map V.bl
  by_ : (∀ i, i < ys.length → ky i = true) → ∃ R : List Bool, ys = R.map V.bl
  lx : xs.length ≤ 100000
  ly : ys.length ≤ 100000
structure WTo (Rl : Hp → Prop) (CT CF CL : Addr) (xs ys : List V) (kx ky : Nat → Bool) (E : XK) : Prop where
  ex : ∀ i, i < xs.length → kx i = false → (∀ j, j < i → kx j = true) → ExcR Rl CT "index" (.int (i : Nat)) E
  ey : (∀ i, i < xs.length → kx i = true) → ∀ i, i < ys.length → ky i = false → (∀ j, j < i → ky j = true) → ExcR Rl CT "index" (.int (i : Nat)) E
  e0 : (∀ i, i < xs.length → kx i = true) → ys = [] → ExcR Rl CT "index" (.int 0) E
  ef : ∀ (B R bl rl : List Bool), xs = B.map V.bl → ys = R.map V.bl → 0 < R.length → Nm bl rl → (∀ n, mem bl rl n = mem B R n) → 720 < rl.length → ExcR Rl CF "most" (.int 720) E
  el : ∀ (B R bl rl : List Bool), xs = B.map V.bl → ys = R.map V.bl → 0 < R.length → Nm bl rl → (∀ n, mem bl rl n = mem B R n) → rl.length ≤ 720 → 10000 < bl.length → ExcR Rl CL "most" (.int 10000) E
theorem ExcR.le {Rl Rl' : Hp → Prop} {C : Addr} {n : Str} {v : V} {E : XK} (h : ExcR Rl C n v E) (hl : ∀ H', Rl' H' → Rl H') : ExcR Rl' C n v E := fun H' d hr hd => h H' d (hl H' hr) hd
theorem WTo.le {Rl Rl' : Hp → Prop} {CT CF CL : Addr} {xs ys : List V} {kx ky : Nat → Bool} {E : XK} (h : WTo Rl CT CF CL xs ys kx ky E) (hl : ∀ H', Rl' H' → Rl H') : WTo Rl' CT CF CL xs ys kx ky E :=
  ⟨fun i a b c => (h.ex i a b c).le hl, fun z i a b c => (h.ey z i a b c).le hl, fun a b => (h.e0 a b).le hl, fun B R bl rl a b c d e f => (h.ef B R bl rl a b c d e f).le hl, fun B R bl rl a b c d e f g => (h.el B R bl rl a b c d e f g).le hl⟩
def spWhereInit (K : PySem.W.Frag) (C CT CF CL : Addr) : Sp := fun vs H Q E => ∃ (x dx a b : Addr) (xs ys : List V) (kx ky : Nat → Bool), vs = [.ref x, .ref a, .ref b] ∧ H x = some (.ins C dx []) ∧ WArg K H a b xs ys kx ky ∧ WTo (SameB x H) CT CF CL xs ys kx ky E ∧
  ∀ (B R bl rl : List Bool), xs = B.map V.bl → ys = R.map V.bl → 0 < R.length → Nm bl rl → (∀ n, mem bl rl n = mem B R n) → rl.length ≤ 720 → bl.length ≤ 10000 → ∀ H', SameB x H H' → IsW K H' x C bl rl → Q .non H'
def spWhere (K : PySem.W.Frag) (C CT CF CL : Addr) : Sp := fun vs H Q E => ∃ (a b : Addr) (xs ys : List V) (kx ky : Nat → Bool), vs = [.ref a, .ref b] ∧ WArg K H a b xs ys kx ky ∧ WTo (Same H) CT CF CL xs ys kx ky E ∧
  ∀ (B R bl rl : List Bool), xs = B.map V.bl → ys = R.map V.bl → 0 < R.length → Nm bl rl → (∀ n, mem bl rl n = mem B R n) → rl.length ≤ 720 → bl.length ≤ 10000 → ∀ x H', H x = none → Same H H' → IsW K H' x C bl rl → Q (.ref x) H'
theorem atB {l : List Bool} {k : Nat} (h : k < l.length) : (l.map V.bl)[k]? = some (V.bl (bt l k)) := by rw [List.getElem?_map, bt_some h]; rfl
section
variable {P : Program} {w : World} {K : PySem.W.Frag} {mg : Str → Option Value} {base : Heap}
/-- Where(..) by its promise -/
theorem make_Where {C CT CF CL : Addr} {f : Addr} {fd : FuncData} (Fn : FnOk P w K mg base (L2.CX P w) 5 f fd ["self", "below", "rests"] (spWhereInit K C CT CF CL)) (M : Mk K C f) (hC : mg "Where" = some (.ref C)) (hb : Binds K fd ["self", "below", "rests"] []) :
    MakeF P w K mg base "Where" C 5 (spWhere K C CT CF CL) := by
  refine ⟨f, fd, _, _, [], [], Fn, M, hC, hb, .nil, fun vs H Q E h => ?_⟩
  obtain ⟨a, b, xs, ys, kx, ky, rfl, ha, he, q⟩ := h
  intro x dx hx hdx hne
  have es : Same H (upd (upd H dx (.own x)) x (.ins C dx [])) := (same_new hdx).trans (same_new (by rw [upd_ne (Ne.symm hne)]; exact hx))
  have bs : ∀ H', SameB x (upd (upd H dx (.own x)) x (.ins C dx [])) H' → Same H H' := fun H' hs c o hc => hs c o (ne_of_none hc hx) (es c o hc)
  refine ⟨x, dx, a, b, xs, ys, kx, ky, rfl, upd_same, ⟨ha.sx.same es, ha.sy.same es, fun i z hz => (ha.hx i z hz).same es, fun i z hz => (ha.hy i z hz).same es, ha.bx, ha.by_, ha.lx, ha.ly⟩, he.le bs, fun B R bl rl h1 h2 h3 h4 h5 h6 h7 H' h8 h9 => ⟨rfl, ?_⟩⟩
  exact q B R bl rl h1 h2 h3 h4 h5 h6 h7 x H' hx (bs H' h8) h9
/-! == -/
theorem isW_ty {H : Hp} {x C : Addr} {bl rl : List Bool} (h : IsW K H x C bl rl) (cl : Cls K C) (ha : PySem.W.findIn K (.ref C) "__class__" = some (some (.builtin "object.__class__")))
    (hn : PySem.W.specialIn K (.builtin "object.__class__") "__get__" = some (some (.builtin "getset_descriptor.__get__"))) (htk : PySem.W.takesIn K (.builtin "object.__class__") = some true)
    (hm : PySem.W.mroIn K C (.type "object") = some true) : TyX K H (.ref x) (.ref C) := let ⟨_, _, _, h1, _, _⟩ := h; .base (.ins h1 cl ha hn htk hm)
/-- the other is a set, or a value whose type is not Where -/
def spEqW (K : PySem.W.Frag) (C : Addr) : Sp := fun vs H Q _ => ∃ (x : Addr) (y : V) (bl rl : List Bool), vs = [.ref x, y] ∧ IsW K H x C bl rl ∧
  ((∃ (z : Addr) (bl' rl' : List Bool), y = .ref z ∧ IsW K H z C bl' rl' ∧ Q (.bl (decide (bl = bl') && decide (rl = rl'))) H) ∨ (∃ t, TyX K H y t ∧ PySem.W.kitOne K t (.ref C) = some false ∧ Q (.bl false) H))
end
end Ev

end
section
open L2 in
local macro_rules | `(tactic| walk_at "gx") => `(tactic| first
  | ((with_reducible show tVar _ _ _ _); refine g_var rfl ?_)
  | with_reducible refine g_c ?_
  | with_reducible refine g_op ?_
  | with_reducible refine g_cons ?_
  | with_reducible refine g_nil ?_
  | with_reducible refine g_test ?_
  | with_reducible refine g_blp ?_
  | with_reducible refine g_asg ?_
  | (with_reducible refine g_name ?_; (try simp only [List.set_cons_zero, List.set_cons_succ]))
  | with_reducible refine g_call ?_
  | with_reducible refine g_cb ?_
  | with_reducible refine g_I0 ?_
  | with_reducible refine g_U ?_
  | with_reducible refine g_eqI ?_
  | with_reducible refine g_neI ?_
  | with_reducible refine g_if ?_
  | with_reducible refine g_ret ?_
  | with_reducible refine g_retN ?_
  | with_reducible refine g_next ?_
  | with_reducible refine g_drop ?_
  | with_reducible refine g_un ?_
  | with_reducible refine g_tb ?_
  | with_reducible refine g_tup ?_
  | with_reducible refine g_lst ?_
  | with_reducible refine g_and ?_
  | with_reducible refine g_or ?_
  | with_reducible refine g_not ?_
  | with_reducible refine g_andV ?_
  | with_reducible refine g_orV ?_
  | with_reducible refine g_notV ?_
  | with_reducible refine g_ifE ?_
  | with_reducible refine g_fld ?_
  | with_reducible refine g_tt ?_
  | with_reducible refine g_ff ?_
  | with_reducible refine g_ntt ?_
  | with_reducible refine g_nff ?_
  | with_reducible refine g_for ?_
  | with_reducible refine g_list ?_
  | with_reducible refine g_tupI ?_
  | with_reducible refine g_rng1 ?_
  | with_reducible refine g_rng2 ?_
  | with_reducible refine g_enumA ?_
  | with_reducible refine g_rev ?_
  | with_reducible refine g_lc ?_
  | with_reducible refine g_gcons ?_
  | with_reducible refine g_gnil ?_
  | with_reducible refine g_yes ?_
  | with_reducible refine g_sl ?_
  | with_reducible refine g_nopart ?_
  | with_reducible refine g_part ?_
  | with_reducible refine g_int ?_
  | with_reducible refine g_dget ?_
  | with_reducible refine g_dput ?_
  | with_reducible refine g_raiseX ?_
  | with_reducible refine g_tru ?_
  | with_reducible refine g_sub ?_
  | with_reducible refine g_isN ?_
  | with_reducible refine g_notN ?_
  | with_reducible refine g_bm ?_
  | with_reducible refine L2.g_bm0 ?_
  | with_reducible refine g_pair ?_
  | with_reducible refine g_pair0 ?_
  | with_reducible refine u_int1 ?_
  | with_reducible refine g_chain ?_
  | with_reducible refine L2.g_sfld ?_
  | (with_reducible refine g_par3 ?_)
  | (with_reducible refine g_three ?_; (try simp only [List.set_cons_zero, List.set_cons_succ]))
  | ((with_reducible apply L2.g_tupT); walk_at "up"; rfl)
  | (with_reducible refine g_par ?_)
  | (with_reducible refine g_two ?_; (try simp only [List.set_cons_zero, List.set_cons_succ]))
  )
local macro_rules | `(tactic| walk_at "go") => `(tactic| first | walk_at "gx" | with_reducible refine L2.g_seq ?_)
local macro_rules | `(tactic| walk_at "gou") => `(tactic| repeat (walk_at "gx"))
local macro_rules | `(tactic| walk_at "gos") => `(tactic| repeat (walk_at "go"))
local macro_rules | `(tactic| walk_at "sl") => `(tactic| first
  | assumption
  | exact L2.Same.l (by assumption)
  | exact L2.SameD.l (by assumption)
  | exact L2.extN_l (by assumption))
local macro_rules | `(tactic| walk_at "up") => `(tactic| first
  | assumption
  | ((with_reducible apply L2.SameL.lst); walk_at "sl"; walk_at "up")
  | ((with_reducible apply L2.SameL.tupA); walk_at "sl"; walk_at "up")
  | ((with_reducible apply L2.SameL.ins); walk_at "sl"; walk_at "up")
  | ((with_reducible apply Ev.PB.l); walk_at "sl"; walk_at "up")
  | ((with_reducible apply Ev.IsP.l); walk_at "sl"; walk_at "up")
  | ((with_reducible apply L2.sqL); walk_at "up")
  | ((with_reducible apply L2.sqT); walk_at "up")
  | ((with_reducible apply L2.SameL.seq); walk_at "sl"; walk_at "up")
  | ((with_reducible apply Ev.Pen.same); assumption; walk_at "up")
  | ((with_reducible apply Ev.Pen.extN); assumption; walk_at "up")
  | ((with_reducible apply L2.tabs_s); assumption; walk_at "up")
  | ((with_reducible apply L2.tabs_dd); assumption; walk_at "up")
  | ((with_reducible apply Or.inl); walk_at "up")
  | ((with_reducible apply Or.inr); walk_at "up"))
local macro_rules | `(tactic| walk_at "new") => `(tactic| (
  first
    | refine ⟨L2.size_ok (by rfl), fun p hp => ?_⟩
    | refine fun p hp => ?_
  generalize hX : L2.upd _ p _ = H1
  obtain ⟨e, h⟩ := L2.news hp hX
  clear hX))
local macro_rules | `(tactic| walk_at "o") => `(tactic| first
  | ((with_reducible apply Ev.o_add); walk_at "up"; walk_at "up"; rfl; rfl; rfl)
  | ((with_reducible apply Ev.o_sub); walk_at "up"; walk_at "up"; rfl; rfl; rfl)
  | ((with_reducible apply Ev.o_mul); walk_at "up"; walk_at "up"; rfl; rfl; rfl)
  | ((with_reducible apply Ev.o_addI); walk_at "up"; assumption; rfl; rfl; rfl)
  | ((with_reducible apply Ev.o_subI); walk_at "up"; assumption; rfl; rfl; rfl)
  | ((with_reducible apply Ev.o_mulI); walk_at "up"; assumption; rfl; rfl; rfl)
  | ((with_reducible apply Ev.o_radd); walk_at "up"; assumption; rfl; rfl; rfl)
  | ((with_reducible apply Ev.o_rsub); walk_at "up"; assumption; rfl; rfl; rfl)
  | ((with_reducible apply Ev.o_rmul); walk_at "up"; assumption; rfl; rfl; rfl)
  | ((with_reducible apply Ev.o_neg); walk_at "up"; rfl; rfl; rfl))
local macro_rules | `(tactic| walk_at "eq") => `(tactic| ((with_reducible apply Ev.u_ownB); assumption; walk_at "up"; walk_at "up"; (focus (intro k; first | rfl | exact Pl.e_add | exact Pl.e_sub | exact Pl.e_mul | exact Pl.e_rsub | exact Pl.e_rsub2))))
local macro_rules | `(tactic| walk_at "isp") => `(tactic| (apply Ev.u_isB; walk_at "up"; walk_at "up"; rfl; rfl))

/-! Sets by their truths. -/
namespace Ev
open PySem PySem.Spec PyProof.Rows L2 Wp
/-- x is the set of the truths f -/
def WF (K : PySem.W.Frag) (H : Hp) (x C : Addr) (f : Nat → Bool) : Prop := ∃ bl rl, IsW K H x C bl rl ∧ Nm bl rl ∧ ∀ n, mem bl rl n = f n
theorem WF.l {K : PySem.W.Frag} {H H' : Hp} {x C : Addr} {f : Nat → Bool} (e : SameL H H') : WF K H x C f → WF K H' x C f := fun ⟨bl, rl, h1, h2⟩ => ⟨bl, rl, h1.l e, h2⟩
section
variable {K : PySem.W.Frag} {H : Hp} {x y C CT CF CL a b : Addr} {f g : Nat → Bool} {Q : VK} {E : XK}
theorem WF.ins (h : WF K H x C f) : ∃ dx fs, H x = some (.ins C dx fs) := let ⟨_, _, ⟨dx, _, _, h1, _⟩, _⟩ := h; ⟨dx, _, h1⟩
theorem kdB_bools {B : List Bool} : ∀ (i : Nat) (x : V), (B.map V.bl)[i]? = some x → KdB K H x true := fun i x h => by
  rw [List.getElem?_map] at h
  obtain ⟨y, _, rfl⟩ := Option.map_eq_some_iff.mp h
  exact KdB.bl
theorem wArg_bools {B R : List Bool} (ha : SqA K H a (B.map V.bl)) (hb : SqA K H b (R.map V.bl)) (hl : B.length ≤ 100000) (hl2 : R.length ≤ 100000) : WArg K H a b (B.map V.bl) (R.map V.bl) (fun _ => true) (fun _ => true) :=
  ⟨ha, hb, kdB_bools, kdB_bools, fun _ => ⟨B, rfl⟩, fun _ => ⟨R, rfl⟩, by rw [List.length_map]; exact hl, by rw [List.length_map]; exact hl2⟩
/-- Where(a, b) of truths, within the bounds -/
theorem u_where {B R : List Bool} (ha : SqA K H a (B.map V.bl)) (hb : SqA K H b (R.map V.bl)) (hR : 0 < R.length) (hB : B.length ≤ 10000) (hR2 : R.length ≤ 720)
    (q : ∀ x H', H x = none → Same H H' → WF K H' x C (mem B R) → Q (.ref x) H') : spWhere K C CT CF CL [.ref a, .ref b] H Q E := by
  refine ⟨a, b, _, _, _, _, rfl, wArg_bools ha hb (by omega) (by omega), ⟨fun _ _ h _ => (nomatch h), fun _ _ _ h _ => (nomatch h), fun _ h => ?_, fun B' R' bl rl e1 e2 h1 h2 h3 h4 => ?_, fun B' R' bl rl e1 e2 h1 h2 h3 h4 h5 => ?_⟩, fun B' R' bl rl e1 e2 h1 h2 h3 h4 h5 x H' hx e hw => ?_⟩
  · rw [List.map_eq_nil_iff] at h; rw [h] at hR; exact absurd hR (Nat.lt_irrefl 0)
  · have := bools_inj e1; have := bools_inj e2; subst B' R'
    have := nm_len h1 h2 h3; omega
  · have := bools_inj e1; have := bools_inj e2; subst B' R'
    have := nm_len h1 h2 h3; omega
  · have := bools_inj e1; have := bools_inj e2; subst B' R'
    exact q x H' hx e ⟨bl, rl, hw, h2, h3⟩
/-- .. beyond the bounds -/
theorem u_whereX {B R bl rl : List Bool} (ha : SqA K H a (B.map V.bl)) (hb : SqA K H b (R.map V.bl)) (hR : 0 < R.length) (hB : B.length ≤ 100000) (hR2 : R.length ≤ 100000) (hn : Nm bl rl) (hm : ∀ n, mem bl rl n = mem B R n)
    (q1 : 720 < rl.length → ∀ H' d, Same H H' → H' d = some (.xd [("most", .int 720)]) → E (.ref CF) (some d) H')
    (q2 : rl.length ≤ 720 → 10000 < bl.length → ∀ H' d, Same H H' → H' d = some (.xd [("most", .int 10000)]) → E (.ref CL) (some d) H')
    (q : rl.length ≤ 720 → bl.length ≤ 10000 → ∀ x H', H x = none → Same H H' → IsW K H' x C bl rl → Q (.ref x) H') : spWhere K C CT CF CL [.ref a, .ref b] H Q E := by
  refine ⟨a, b, _, _, _, _, rfl, wArg_bools ha hb hB hR2, ⟨fun _ _ h _ => (nomatch h), fun _ _ _ h _ => (nomatch h), fun _ h => ?_, fun B' R' bl' rl' e1 e2 h1 h2 h3 h4 => ?_, fun B' R' bl' rl' e1 e2 h1 h2 h3 h4 h5 => ?_⟩, fun B' R' bl' rl' e1 e2 h1 h2 h3 h4 h5 x H' hx e hw => ?_⟩
  · rw [List.map_eq_nil_iff] at h; rw [h] at hR; exact absurd hR (Nat.lt_irrefl 0)
  · have := bools_inj e1; have := bools_inj e2; subst B' R'
    obtain ⟨rfl, rfl⟩ := hn.uniq h2 fun n => by rw [hm, h3]
    exact q1 h4
  · have := bools_inj e1; have := bools_inj e2; subst B' R'
    obtain ⟨rfl, rfl⟩ := hn.uniq h2 fun n => by rw [hm, h3]
    exact q2 h4 h5
  · have := bools_inj e1; have := bools_inj e2; subst B' R'
    obtain ⟨rfl, rfl⟩ := hn.uniq h2 fun n => by rw [hm, h3]
    exact q h4 h5 x H' hx e hw
/-- x == y, x != y -/
theorem WF.uniq {bl rl bl' rl' : List Bool} (h1 : Nm bl rl) (h1' : Nm bl' rl') (e : ∀ n, mem bl rl n = f n) (e' : ∀ n, mem bl' rl' n = g n) : ((decide (bl = bl') && decide (rl = rl')) = true ↔ ∀ n, f n = g n) := by
  constructor
  · intro h n
    rw [Bool.and_eq_true] at h
    rw [← e, ← e', of_decide_eq_true h.1, of_decide_eq_true h.2]
  · intro h
    obtain ⟨rfl, rfl⟩ := h1.uniq h1' fun n => by rw [e, e', h]
    simp
theorem u_ownW {neg : Bool} {r : Bool} (hy : ∀ H x bl rl, IsW K H x C bl rl → TyX K H (.ref x) (.ref C)) (h : WF K H x C f) (h' : WF K H y C g) (hr : r = true ↔ ∀ n, f n = g n) (q : Q (.bl (if neg then !r else r)) H) : rOwn K C (spEqW K C) E neg (.ref x) (.ref y) H Q := by
  obtain ⟨bl, rl, hw, hn, hm⟩ := h
  obtain ⟨bl', rl', hw', hn', hm'⟩ := h'
  obtain ⟨dx, t1, t2, h1, h2⟩ := id hw
  refine ⟨x, dx, _, .ref C, rfl, h1, hy _ _ _ _ hw', by unfold PySem.W.notFirst; simp, x, .ref y, bl, rl, rfl, hw, .inl ⟨y, bl', rl', rfl, hw', _, rfl, ?_⟩⟩
  have e : (decide (bl = bl') && decide (rl = rl')) = r := by
    have := WF.uniq hn hn' hm hm'
    rw [← hr] at this
    cases r with
    | true => exact this.mpr rfl
    | false => cases h : (decide (bl = bl') && decide (rl = rl')) with
      | true => exact absurd (this.mp h) (by decide)
      | false => rfl
  rw [e]
  exact q
theorem u_ownWe {neg : Bool} (hy : ∀ H x bl rl, IsW K H x C bl rl → TyX K H (.ref x) (.ref C)) (h : WF K H x C f) (h' : WF K H y C g) (e : ∀ n, f n = g n) (q : Q (.bl (!neg)) H) : rOwn K C (spEqW K C) E neg (.ref x) (.ref y) H Q :=
  u_ownW (r := true) hy h h' ⟨fun _ => e, fun _ => rfl⟩ (by cases neg <;> exact q)
theorem u_ownWn {neg : Bool} (hy : ∀ H x bl rl, IsW K H x C bl rl → TyX K H (.ref x) (.ref C)) (h : WF K H x C f) (h' : WF K H y C g) {n : Nat} (e : f n ≠ g n) (q : Q (.bl neg) H) : rOwn K C (spEqW K C) E neg (.ref x) (.ref y) H Q :=
  u_ownW (r := false) hy h h' ⟨fun z => (nomatch z), fun z => absurd (z n) e⟩ (by cases neg <;> exact q)
theorem u_ownWo {neg : Bool} {v : V} {t : Value} (hk : PySem.W.kitOne K t (.ref C) = some false) (hn : PySem.W.notFirst K C t = true) (h : WF K H x C f) (h' : TyX K H v t) (q : Q (.bl neg) H) : rOwn K C (spEqW K C) E neg (.ref x) v H Q := by
  obtain ⟨bl, rl, hw, _⟩ := h
  obtain ⟨dx, t1, t2, h1, h2⟩ := id hw
  refine ⟨x, dx, _, t, rfl, h1, h', hn, x, v, bl, rl, rfl, hw, .inr ⟨t, h', hk, false, rfl, ?_⟩⟩
  cases neg <;> exact q
/-- (i, j) != (k, l) -/
theorem u_neII {i j k l : Int} (h : SqT K H a [.int i, .int j]) (h' : SqT K H b [.int k, .int l]) (q : Q (.bl (!(decide (i = k) && decide (j = l)))) H) : rNeD K (.ref a) (.ref b) H Q :=
  ⟨_, _, .tup h (.cons (.int i) (.cons (.int j) .nil)), .tup h' (.cons (.int k) (.cons (.int l) .nil)), by simp [SeqAt.shaped, PyData.canLay0, PyData.canLayAll0, PyData.depth, PyData.depthAll], by simp [SeqAt.shaped, PyData.canLay0, PyData.canLayAll0, PyData.depth, PyData.depthAll], by
    have e : PyData.eqv (.tuple [.int i, .int j]) (.tuple [.int k, .int l]) = (decide (i = k) && decide (j = l)) := by
      simp only [PyData.eqv, PyData.eqvAll, Bool.and_true]
      rfl
    rw [e]; exact q⟩
end
/-! the law's hands -/
section
variable {P : Program} {w : World} {K : PySem.W.Frag} {mg : Str → Option Value} {base : Heap}
/-- no object but a dict lay at a -/
def Fr (H : Hp) (a : Addr) : Prop := ∀ o, H a = some o → ∃ kvs, o = .dK kvs
theorem Fr.of {H : Hp} {a : Addr} (h : H a = none) : Fr H a := fun o z => by rw [h] at z; cases z
theorem Fr.d {H H' : Hp} {a : Addr} (e : SameD H H') (h : Fr H' a) : Fr H a := fun o z => by
  apply Classical.byContradiction
  intro hn
  obtain ⟨kvs, rfl⟩ := h o (e a o z fun kvs hk => hn ⟨kvs, hk⟩)
  exact hn ⟨kvs, rfl⟩
theorem Fr.ne {H : Hp} {a D : Addr} {xs : List V} (h : Fr H a) (hD : H D = some (.lst xs)) : a ≠ D := fun z => by
  subst z
  obtain ⟨kvs, e⟩ := h _ hD
  cases e
/-- a row of drawn truths -/
def spTruths : Sp := fun vs H Q _ => ∃ (p c : Addr) (many n : Nat), vs = [.ref p, .int many] ∧ Pen H p c n ∧ n + 3000 < 2 ^ 40 ∧ many ≤ 1000 ∧ ∀ l (bs : List Bool) H', Fr H l → SameD H H' → Pen H' p c (n + many + 3) → H' l = some (.lst (bs.map V.bl)) → bs.length = many → Q (.ref l) H'
theorem bset {bs : List Bool} {j : Nat} {b : Bool} : (bs.map V.bl).set j (V.bl b) = (bs.set j b).map V.bl := by rw [List.map_set]
theorem WF.updL {K : PySem.W.Frag} {H : Hp} {x C l : Addr} {f : Nat → Bool} {xs : List V} {o : HO} (hl : H l = some (.lst xs)) : WF K H x C f → WF K (upd H l o) x C f := fun ⟨bl, rl, ⟨dx, t1, t2, h1, h2, h3⟩, hn⟩ => by
  have ht : ∀ {t ys}, SqT K H t ys → SqT K (upd H l o) t ys := fun {t ys} h => by
    rcases h with (h | ⟨u, h⟩) | h
    · exact .inl (.inl (by rw [upd_ne (fun z => by rw [z, hl] at h; cases h)]; exact h))
    · exact .inl (.inr ⟨u, by rw [upd_ne (fun z => by rw [z, hl] at h; cases h)]; exact h⟩)
    · exact .inr h
  exact ⟨bl, rl, ⟨dx, t1, t2, by rw [upd_ne (fun z => by rw [z, hl] at h1; cases h1)]; exact h1, ht h2, ht h3⟩, hn⟩
theorem Same.none {H H' : Hp} {l : Addr} (e : Same H H') (h : H' l = none) : H l = none := by
  cases q : H l with
  | none => rfl
  | some o => rw [e l o q] at h; cases h
/-- (tag, i) != (tag, i) -/
theorem u_neTag {K : PySem.W.Frag} {H : Hp} {a b : Addr} {x : Str} {i : Int} {Q : VK} (hx : PyData.canLay0 (.str x) = true) (h : H a = some (.tup [.str x, .int i])) (h' : H b = some (.tup [.str x, .int i])) (q : Q (.bl false) H) : rNeD K (.ref a) (.ref b) H Q :=
  u_neD (b := true) (.tup (sqT h) (.cons (.str _) (.cons (.int _) .nil))) (.tup (sqT h') (.cons (.str _) (.cons (.int _) .nil))) (shaped_tag hx rfl (Nat.zero_le 3)) (shaped_tag hx rfl (Nat.zero_le 3)) (by simp [PyData.eqv, PyData.eqvAll]) q
theorem u_neNon {K : PySem.W.Frag} {H : Hp} {Q : VK} (q : Q (.bl false) H) : rNeD K .non .non H Q := u_neD (b := true) .non .non (by decide) (by decide) (by simp [PyData.eqv]) q
/-- a drawn model: truths below, truths by rests -/
def IsM (H : Hp) (m : Addr) (B R : List Bool) : Prop := ∃ a b, H m = some (.tup [.ref a, .ref b]) ∧ H a = some (.lst (B.map V.bl)) ∧ H b = some (.lst (R.map V.bl))
theorem IsM.l {H H' : Hp} {m : Addr} {B R : List Bool} (e : SameL H H') : IsM H m B R → IsM H' m B R := fun ⟨a, b, h1, h2, h3⟩ => ⟨a, b, e.tupA h1, e.lst h2, e.lst h3⟩
def spModel (K : PySem.W.Frag) : Sp := fun vs H Q _ => ∃ (p c pl : Addr) (most n : Nat) (ps : List Int), vs = [.ref p, .int most, .ref pl] ∧ Pen H p c n ∧ n + 10000 < 2 ^ 40 ∧ most ≤ 900 ∧ SqL K H pl (ps.map V.int) ∧ ps ≠ [] ∧ ps.length < 1000 ∧ (∀ z, z ∈ ps → 1 ≤ z ∧ z ≤ 720) ∧
  ∀ m (B R : List Bool) H', (∃ a b, H' m = some (.tup [.ref a, .ref b]) ∧ Fr H a ∧ Fr H b) → SameD H H' → Pen H' p c (n + most + 1000) → IsM H' m B R → B.length ≤ most → (∃ z, z ∈ ps ∧ z = (R.length : Nat)) → Q (.ref m) H'
/-- the truth of a model at n -/
def spTruthM : Sp := fun vs H Q _ => ∃ (m : Addr) (n : Nat) (B R : List Bool), vs = [.ref m, .int n] ∧ IsM H m B R ∧ 0 < R.length ∧ Q (.bl (mem B R n)) H
end
end Ev

end
/-! C.m(..) where m is a classmethod; cls(..) in its body. -/
namespace L2
open PySem PySem.Spec PyProof.Rows StX
theorem fnR_of {P : Program} {w : World} {K : PySem.W.Frag} {mg : Str → Option Value} {base : Heap} {k : Nat} {f : Addr} {fd : FuncData} {ps : List Str} {sp : Sp} (F : FnOk P w K mg base (L2.CX P w) k f fd ps sp) (hb : Binds K fd ps []) : FnR P w K mg base (L2.CX P w) k f sp :=
  (F.raw hb .nil).imp fun vs H Q E h => by
    show sp (vs ++ []) H Q E
    rw [List.append_nil]
    exact h
/-- the i-th slot holds the class at C -/
def tMakeL (i : Nat) (C : Addr) (sp : Sp) (E : XK) (t : TA) : TE := fun σ H Q => σ[i]? = some (some (.ref C)) ∧ t σ H fun vs H1 => sp vs H1 Q E
/-- the classmethod m of the class at C -/
structure ClsF (P : Program) (w : World) (K : PySem.W.Frag) (mg : Str → Option Value) (base : Heap) (C : Addr) (m : Str) (k : Nat) (sp : Sp) : Prop where
  ex : ∃ mc p g, ClX.CRead K C mc ∧ ClX.CMet K C mc m p g ∧ FnR P w K mg base (L2.CX P w) k g sp
section
variable {X : Cx} {x y m : Str} {C : Addr} {k i : Nat} {sp : Sp} {E : XK} {e o : Expr} {es : List Expr} {t : TA} {ta : TE} {p pos apos : Pos}
theorem pe_makeL (G : MakeF X.prog X.w X.K X.mg X.base y C k sp) (hr : Room (k + 1) X.A) (hN : X.N[i]? = some x) (hv : Vis X.env.scope x) (hx : Passes (L2.CX X.prog X.w) X E) (ha : PA X (e :: es) t)
    (hdb : (x == ("__debug__" : Str)) = false := by decide) (hcd : (x == ("__classdict__" : Str)) = false := by decide)
    (he : starEach (e :: es) X.env = (false, eval e X.env) :: starEach es X.env := by rfl) (hpl : (backTo pos (starEach es X.env)).any (·.1) = false := by rfl) : PE X (.Call (.Name x p) (e :: es) [] pos) (tMakeL i C sp E t) := by
  obtain ⟨f, fd, ps, sp0, dvs, ds, F, M, h1, h2, h3, h4⟩ := G.ex
  refine ⟨fun pins s σ H Q I h => ?_⟩
  obtain ⟨hs, ht⟩ := h
  refine wpAny_Call_Name_kw (thn ((pe_var (pos := p) hN hv hdb hcd).run pins s σ H (fun v H1 => v = .ref C ∧ H1 = H) I ⟨.ref C, hs, rfl, rfl⟩) fun u s1 ⟨v, H1, I1, r1, q1⟩ => ?_)
  obtain ⟨rfl, rfl⟩ := q1
  cases r1
  refine PySem.W.callWith_K (h₀ := X.base) I1.ok.mod.kin M.kp (thn (ha.run pos pins s1 σ _ _ I1 ht) fun us s2 ⟨vs, H2, I2, r, q⟩ => ⟨I2.kIn, ?_⟩) he hpl
  exact run_make M F hr h2 h3 hx I2 r (h4 _ _ _ _ q)
theorem pe_clsF {pl : Sem Bool} (G : ClsF X.prog X.w X.K X.mg X.base C m k sp) (he : PE X o ta) (hr : Room k X.A) (hx : Passes (L2.CX X.prog X.w) X E) (ha : PA X (e :: es) t)
    (hst : starEach (e :: es) X.env = (false, eval e X.env) :: starEach es X.env := by rfl) (hpl : (backTo pos (starEach es X.env)).any (·.1) = false := by rfl)
    (ht : eval (.Call (.Attribute o m apos) (e :: es) [] pos) X.env = (do
      let ov ← eval o X.env
      standAt apos.atName
      let (f, first) ← holding [ov] (getMethod ov m pl)
      callWith pos f first (backTo pos (starEach (e :: es) X.env)) (backToKw pos (keywordEach [] X.env))) := by rfl) :
    PE X (.Call (.Attribute o m apos) (e :: es) [] pos) (ClX.tCMeth C sp E ta t) := by
  obtain ⟨mc, p, g, r, c, F⟩ := G.ex
  exact ClX.pe_cmeth he r c F hr hx ha hst hpl ht

theorem pa_starK {K : PySem.W.Frag} (h : X.K = K) (he : PE X e ta) (hr : PA X es t) (hs : starEach (.Starred e p :: es) X.env = (true, eval e X.env) :: starEach es X.env := by rfl) : PA X (.Starred e p :: es) (tStar K ta t) := h ▸ pa_star he hr hs

theorem StX.g_star {K : PySem.W.Frag} {te : TE} {t : TA} {σ : St} {H : Hp} {Q : List V → Hp → Prop} (q : te σ H fun x H1 => ∃ p xs, x = V.ref p ∧ (SqT K H1 p xs ∨ SqL K H1 p xs) ∧ t σ H1 fun ys H2 => Q (xs ++ ys) H2) : tStar K te t σ H Q := q
theorem op_inK {K : PySem.W.Frag} (h : X.K = K) : OpR X (compareOp .In) (rIn K false) := h ▸ op_in_seq
theorem op_notInK {K : PySem.W.Frag} (h : X.K = K) : OpR X (compareOp .NotIn) (rIn K true) := h ▸ op_notIn_seq
theorem g_cmeth {C : Addr} {ta : TE} {t : TA} {sp : Sp} {E : XK} {σ : St} {H : Hp} {Q : VK} (q : ta σ H fun x H1 => x = .ref C ∧ t σ H1 fun vs H2 => sp (.ref C :: vs) H2 Q E) : ClX.tCMeth C sp E ta t σ H Q := q
theorem g_makeL {C : Addr} {i : Nat} {t : TA} {sp : Sp} {E : XK} {σ : St} {H : Hp} {Q : VK} (hs : σ[i]? = some (some (.ref C))) (q : t σ H fun vs H1 => sp vs H1 Q E) : tMakeL i C sp E t σ H Q := ⟨hs, q⟩
theorem u_max {K : PySem.W.Frag} {a : Addr} {ns : List Int} {H : Hp} {Q : VK} (h : SqL K H a (ns.map V.int)) (h0 : 0 < ns.length) (q : ∀ m, m ∈ ns → (∀ y, y ∈ ns → y ≤ m) → Q (.int m) H) : rMax K [.ref a] H Q := ⟨a, ns, rfl, h, h0, q⟩
end
end L2

section
open L2 in
local macro_rules | `(tactic| walk_at "gx") => `(tactic| first
  | ((with_reducible show tVar _ _ _ _); refine g_var rfl ?_)
  | with_reducible refine g_c ?_
  | with_reducible refine g_op ?_
  | with_reducible refine g_cons ?_
  | with_reducible refine g_nil ?_
  | with_reducible refine g_test ?_
  | with_reducible refine g_blp ?_
  | with_reducible refine g_asg ?_
  | (with_reducible refine g_name ?_; (try simp only [List.set_cons_zero, List.set_cons_succ]))
  | with_reducible refine g_call ?_
  | with_reducible refine g_cb ?_
  | with_reducible refine g_I0 ?_
  | with_reducible refine g_U ?_
  | with_reducible refine g_eqI ?_
  | with_reducible refine g_neI ?_
  | with_reducible refine g_if ?_
  | with_reducible refine g_ret ?_
  | with_reducible refine g_retN ?_
  | with_reducible refine g_next ?_
  | with_reducible refine g_drop ?_
  | with_reducible refine g_un ?_
  | with_reducible refine g_tb ?_
  | with_reducible refine g_tup ?_
  | with_reducible refine g_lst ?_
  | with_reducible refine g_and ?_
  | with_reducible refine g_or ?_
  | with_reducible refine g_not ?_
  | with_reducible refine g_andV ?_
  | with_reducible refine g_orV ?_
  | with_reducible refine g_notV ?_
  | with_reducible refine g_ifE ?_
  | with_reducible refine g_fld ?_
  | with_reducible refine g_tt ?_
  | with_reducible refine g_ff ?_
  | with_reducible refine g_ntt ?_
  | with_reducible refine g_nff ?_
  | with_reducible refine g_for ?_
  | with_reducible refine g_list ?_
  | with_reducible refine g_tupI ?_
  | with_reducible refine g_rng1 ?_
  | with_reducible refine g_rng2 ?_
  | with_reducible refine g_enumA ?_
  | with_reducible refine g_rev ?_
  | with_reducible refine g_lc ?_
  | with_reducible refine g_gcons ?_
  | with_reducible refine g_gnil ?_
  | with_reducible refine g_yes ?_
  | with_reducible refine g_sl ?_
  | with_reducible refine g_nopart ?_
  | with_reducible refine g_part ?_
  | with_reducible refine g_int ?_
  | with_reducible refine g_dget ?_
  | with_reducible refine g_dput ?_
  | with_reducible refine g_raiseX ?_
  | with_reducible refine g_tru ?_
  | with_reducible refine g_sub ?_
  | with_reducible refine g_isN ?_
  | with_reducible refine g_notN ?_
  | with_reducible refine g_bm ?_
  | with_reducible refine L2.g_bm0 ?_
  | with_reducible refine g_pair ?_
  | with_reducible refine g_pair0 ?_
  | with_reducible refine u_int1 ?_
  | with_reducible refine g_chain ?_
  | with_reducible refine L2.g_sfld ?_
  | (with_reducible refine g_par3 ?_)
  | (with_reducible refine g_three ?_; (try simp only [List.set_cons_zero, List.set_cons_succ]))
  | ((with_reducible apply L2.g_tupT); walk_at "up"; rfl)
  | (with_reducible refine g_par ?_)
  | (with_reducible refine g_two ?_; (try simp only [List.set_cons_zero, List.set_cons_succ]))
  )
local macro_rules | `(tactic| walk_at "go") => `(tactic| first | walk_at "gx" | with_reducible refine L2.g_seq ?_)
local macro_rules | `(tactic| walk_at "gou") => `(tactic| repeat (walk_at "gx"))
local macro_rules | `(tactic| walk_at "gos") => `(tactic| repeat (walk_at "go"))
local macro_rules | `(tactic| walk_at "sl") => `(tactic| first
  | assumption
  | exact L2.Same.l (by assumption)
  | exact L2.SameD.l (by assumption)
  | exact L2.extN_l (by assumption))
local macro_rules | `(tactic| walk_at "up") => `(tactic| first
  | assumption
  | ((with_reducible apply L2.SameL.lst); walk_at "sl"; walk_at "up")
  | ((with_reducible apply L2.SameL.tupA); walk_at "sl"; walk_at "up")
  | ((with_reducible apply L2.SameL.ins); walk_at "sl"; walk_at "up")
  | ((with_reducible apply Ev.PB.l); walk_at "sl"; walk_at "up")
  | ((with_reducible apply Ev.IsP.l); walk_at "sl"; walk_at "up")
  | ((with_reducible apply L2.sqL); walk_at "up")
  | ((with_reducible apply L2.sqT); walk_at "up")
  | ((with_reducible apply L2.SameL.seq); walk_at "sl"; walk_at "up")
  | ((with_reducible apply Ev.Pen.same); assumption; walk_at "up")
  | ((with_reducible apply Ev.Pen.extN); assumption; walk_at "up")
  | ((with_reducible apply L2.tabs_s); assumption; walk_at "up")
  | ((with_reducible apply L2.tabs_dd); assumption; walk_at "up")
  | ((with_reducible apply Or.inl); walk_at "up")
  | ((with_reducible apply Or.inr); walk_at "up"))
local macro_rules | `(tactic| walk_at "new") => `(tactic| (
  first
    | refine ⟨L2.size_ok (by rfl), fun p hp => ?_⟩
    | refine fun p hp => ?_
  generalize hX : L2.upd _ p _ = H1
  obtain ⟨e, h⟩ := L2.news hp hX
  clear hX))
local macro_rules | `(tactic| walk_at "o") => `(tactic| first
  | ((with_reducible apply Ev.o_add); walk_at "up"; walk_at "up"; rfl; rfl; rfl)
  | ((with_reducible apply Ev.o_sub); walk_at "up"; walk_at "up"; rfl; rfl; rfl)
  | ((with_reducible apply Ev.o_mul); walk_at "up"; walk_at "up"; rfl; rfl; rfl)
  | ((with_reducible apply Ev.o_addI); walk_at "up"; assumption; rfl; rfl; rfl)
  | ((with_reducible apply Ev.o_subI); walk_at "up"; assumption; rfl; rfl; rfl)
  | ((with_reducible apply Ev.o_mulI); walk_at "up"; assumption; rfl; rfl; rfl)
  | ((with_reducible apply Ev.o_radd); walk_at "up"; assumption; rfl; rfl; rfl)
  | ((with_reducible apply Ev.o_rsub); walk_at "up"; assumption; rfl; rfl; rfl)
  | ((with_reducible apply Ev.o_rmul); walk_at "up"; assumption; rfl; rfl; rfl)
  | ((with_reducible apply Ev.o_neg); walk_at "up"; rfl; rfl; rfl))
local macro_rules | `(tactic| walk_at "eq") => `(tactic| ((with_reducible apply Ev.u_ownB); assumption; walk_at "up"; walk_at "up"; (focus (intro k; first | rfl | exact Pl.e_add | exact Pl.e_sub | exact Pl.e_mul | exact Pl.e_rsub | exact Pl.e_rsub2))))
local macro_rules | `(tactic| walk_at "isp") => `(tactic| (apply Ev.u_isB; walk_at "up"; walk_at "up"; rfl; rfl))

/-! Where.since, Where.rest, Where.of. -/
namespace Ev
open PySem PySem.Spec PyProof.Rows L2 Wp
/-- what is no place -/
def Np (K : PySem.W.Frag) (H : Hp) (v : V) : Prop := Kd K H v false ∨ ∃ i : Int, i < 0 ∧ v = .int i
theorem mem_since {n k : Nat} : mem (List.replicate n false) [true] k = decide (n ≤ k) := by
  unfold mem
  rw [List.length_replicate]
  by_cases h : k < n
  · rw [if_pos h, bt_in (by rw [List.length_replicate]; exact h), List.getElem_replicate, decide_eq_false (by omega)]
  · rw [if_neg h, decide_eq_true (by omega)]
    simp [bt, Nat.mod_one]
theorem mem_rest {m r k : Nat} (h : 0 < m) : mem [] ((List.range m).map fun i => decide (i = r)) k = decide (k % m = r) := by
  unfold mem
  rw [if_neg (show ¬ k < ([] : List Bool).length from Nat.not_lt_zero k), List.length_map, List.length_range, bt_in (by rw [List.length_map, List.length_range]; exact Nat.mod_lt _ h), List.getElem_map, List.getElem_range]
section
variable {P : Program} {w : World} {K : PySem.W.Frag} {mg : Str → Option Value} {base : Heap}
def spPlace (K : PySem.W.Frag) : Sp := fun vs H Q _ => ∃ x, vs = [x] ∧ ((∃ i : Int, x = .int i ∧ 0 ≤ i ∧ Q (.bl true) H) ∨ (Np K H x ∧ Q (.bl false) H))
/-- what a maker gives -/
def spSince (K : PySem.W.Frag) (C CP CL : Addr) : Sp := fun vs H Q E => ∃ low : V, vs = [.ref C, low] ∧
  ((∃ n : Nat, low = .int n ∧ n ≤ 10000 ∧ ∀ x H', H x = none → Same H H' → WF K H' x C (fun k => decide (n ≤ k)) → Q (.ref x) H') ∨
   (∃ n : Nat, low = .int n ∧ 10000 < n ∧ ExcR (Same H) CL "most" (.int 10000) E) ∨
   (Np K H low ∧ ExcR (Same H) CP "n" low E))
def spRest (K : PySem.W.Frag) (C CN CF : Addr) : Sp := fun vs H Q E => ∃ m r : V, vs = [.ref C, m, r] ∧
  ((∃ a b : Nat, m = .int a ∧ r = .int b ∧ b < a ∧ a ≤ 720 ∧ ∀ x H', H x = none → Same H H' → WF K H' x C (fun k => decide (k % a = b)) → Q (.ref x) H') ∨
   (∃ a b : Nat, m = .int a ∧ r = .int b ∧ b < a ∧ 720 < a ∧ ExcR (Same H) CF "most" (.int 720) E) ∨
   ((Kd K H m false ∨ ∃ i : Int, i < 1 ∧ m = .int i) ∧ ExcR (Same H) CN "number" m E) ∨
   (∃ a : Nat, 0 < a ∧ m = .int a ∧ (Np K H r ∨ ∃ b : Nat, a ≤ b ∧ r = .int b) ∧ ExcR (Same H) CN "number" r E))
end
end Ev

end
section
open L2 in
local macro_rules | `(tactic| walk_at "gx") => `(tactic| first
  | ((with_reducible show tVar _ _ _ _); refine g_var rfl ?_)
  | with_reducible refine g_c ?_
  | with_reducible refine g_op ?_
  | with_reducible refine g_cons ?_
  | with_reducible refine g_nil ?_
  | with_reducible refine g_test ?_
  | with_reducible refine g_blp ?_
  | with_reducible refine g_asg ?_
  | (with_reducible refine g_name ?_; (try simp only [List.set_cons_zero, List.set_cons_succ]))
  | with_reducible refine g_call ?_
  | with_reducible refine g_cb ?_
  | with_reducible refine g_I0 ?_
  | with_reducible refine g_U ?_
  | with_reducible refine g_eqI ?_
  | with_reducible refine g_neI ?_
  | with_reducible refine g_if ?_
  | with_reducible refine g_ret ?_
  | with_reducible refine g_retN ?_
  | with_reducible refine g_next ?_
  | with_reducible refine g_drop ?_
  | with_reducible refine g_un ?_
  | with_reducible refine g_tb ?_
  | with_reducible refine g_tup ?_
  | with_reducible refine g_lst ?_
  | with_reducible refine g_and ?_
  | with_reducible refine g_or ?_
  | with_reducible refine g_not ?_
  | with_reducible refine g_andV ?_
  | with_reducible refine g_orV ?_
  | with_reducible refine g_notV ?_
  | with_reducible refine g_ifE ?_
  | with_reducible refine g_fld ?_
  | with_reducible refine g_tt ?_
  | with_reducible refine g_ff ?_
  | with_reducible refine g_ntt ?_
  | with_reducible refine g_nff ?_
  | with_reducible refine g_for ?_
  | with_reducible refine g_list ?_
  | with_reducible refine g_tupI ?_
  | with_reducible refine g_rng1 ?_
  | with_reducible refine g_rng2 ?_
  | with_reducible refine g_enumA ?_
  | with_reducible refine g_rev ?_
  | with_reducible refine g_lc ?_
  | with_reducible refine g_gcons ?_
  | with_reducible refine g_gnil ?_
  | with_reducible refine g_yes ?_
  | with_reducible refine g_sl ?_
  | with_reducible refine g_nopart ?_
  | with_reducible refine g_part ?_
  | with_reducible refine g_int ?_
  | with_reducible refine g_dget ?_
  | with_reducible refine g_dput ?_
  | with_reducible refine g_raiseX ?_
  | with_reducible refine g_tru ?_
  | with_reducible refine g_sub ?_
  | with_reducible refine g_isN ?_
  | with_reducible refine g_notN ?_
  | with_reducible refine g_bm ?_
  | with_reducible refine L2.g_bm0 ?_
  | with_reducible refine g_pair ?_
  | with_reducible refine g_pair0 ?_
  | with_reducible refine u_int1 ?_
  | with_reducible refine g_chain ?_
  | with_reducible refine L2.g_sfld ?_
  | (with_reducible refine g_par3 ?_)
  | (with_reducible refine g_three ?_; (try simp only [List.set_cons_zero, List.set_cons_succ]))
  | ((with_reducible apply L2.g_tupT); walk_at "up"; rfl)
  | (with_reducible refine g_par ?_)
  | (with_reducible refine g_two ?_; (try simp only [List.set_cons_zero, List.set_cons_succ]))
  )
local macro_rules | `(tactic| walk_at "go") => `(tactic| first | walk_at "gx" | with_reducible refine L2.g_seq ?_)
local macro_rules | `(tactic| walk_at "gou") => `(tactic| repeat (walk_at "gx"))
local macro_rules | `(tactic| walk_at "gos") => `(tactic| repeat (walk_at "go"))
local macro_rules | `(tactic| walk_at "sl") => `(tactic| first
  | assumption
  | exact L2.Same.l (by assumption)
  | exact L2.SameD.l (by assumption)
  | exact L2.extN_l (by assumption))
local macro_rules | `(tactic| walk_at "up") => `(tactic| first
  | assumption
  | ((with_reducible apply L2.SameL.lst); walk_at "sl"; walk_at "up")
  | ((with_reducible apply L2.SameL.tupA); walk_at "sl"; walk_at "up")
  | ((with_reducible apply L2.SameL.ins); walk_at "sl"; walk_at "up")
  | ((with_reducible apply Ev.PB.l); walk_at "sl"; walk_at "up")
  | ((with_reducible apply Ev.IsP.l); walk_at "sl"; walk_at "up")
  | ((with_reducible apply L2.sqL); walk_at "up")
  | ((with_reducible apply L2.sqT); walk_at "up")
  | ((with_reducible apply L2.SameL.seq); walk_at "sl"; walk_at "up")
  | ((with_reducible apply Ev.Pen.same); assumption; walk_at "up")
  | ((with_reducible apply Ev.Pen.extN); assumption; walk_at "up")
  | ((with_reducible apply L2.tabs_s); assumption; walk_at "up")
  | ((with_reducible apply L2.tabs_dd); assumption; walk_at "up")
  | ((with_reducible apply Or.inl); walk_at "up")
  | ((with_reducible apply Or.inr); walk_at "up"))
local macro_rules | `(tactic| walk_at "new") => `(tactic| (
  first
    | refine ⟨L2.size_ok (by rfl), fun p hp => ?_⟩
    | refine fun p hp => ?_
  generalize hX : L2.upd _ p _ = H1
  obtain ⟨e, h⟩ := L2.news hp hX
  clear hX))
local macro_rules | `(tactic| walk_at "o") => `(tactic| first
  | ((with_reducible apply Ev.o_add); walk_at "up"; walk_at "up"; rfl; rfl; rfl)
  | ((with_reducible apply Ev.o_sub); walk_at "up"; walk_at "up"; rfl; rfl; rfl)
  | ((with_reducible apply Ev.o_mul); walk_at "up"; walk_at "up"; rfl; rfl; rfl)
  | ((with_reducible apply Ev.o_addI); walk_at "up"; assumption; rfl; rfl; rfl)
  | ((with_reducible apply Ev.o_subI); walk_at "up"; assumption; rfl; rfl; rfl)
  | ((with_reducible apply Ev.o_mulI); walk_at "up"; assumption; rfl; rfl; rfl)
  | ((with_reducible apply Ev.o_radd); walk_at "up"; assumption; rfl; rfl; rfl)
  | ((with_reducible apply Ev.o_rsub); walk_at "up"; assumption; rfl; rfl; rfl)
  | ((with_reducible apply Ev.o_rmul); walk_at "up"; assumption; rfl; rfl; rfl)
  | ((with_reducible apply Ev.o_neg); walk_at "up"; rfl; rfl; rfl))
local macro_rules | `(tactic| walk_at "eq") => `(tactic| ((with_reducible apply Ev.u_ownB); assumption; walk_at "up"; walk_at "up"; (focus (intro k; first | rfl | exact Pl.e_add | exact Pl.e_sub | exact Pl.e_mul | exact Pl.e_rsub | exact Pl.e_rsub2))))
local macro_rules | `(tactic| walk_at "isp") => `(tactic| (apply Ev.u_isB; walk_at "up"; walk_at "up"; rfl; rfl))

/-! Where.of. -/
namespace Ev
open PySem PySem.Spec PyProof.Rows L2 Wp
def nV (n : Nat) : V := .int n
theorem nat_row : ∀ {xs : List V}, (∀ j, j < xs.length → ∃ n : Nat, xs[j]? = some (V.int n)) → ∃ ns : List Nat, xs = ns.map nV
  | [], _ => ⟨[], rfl⟩
  | x :: r, h => by
    obtain ⟨n, hn⟩ := h 0 (Nat.zero_lt_succ _)
    obtain rfl : x = V.int n := Option.some.inj hn
    obtain ⟨ns, rfl⟩ := nat_row (xs := r) fun j hj => by
      obtain ⟨m, hm⟩ := h (j + 1) (by simpa using hj)
      exact ⟨m, by simpa using hm⟩
    exact ⟨n :: ns, rfl⟩
theorem at_nats {ns : List Nat} {j : Nat} {x : V} (h : (ns.map nV)[j]? = some x) : x = .int (ns.getD j 0 : Nat) := by
  rw [List.getElem?_map] at h
  obtain ⟨y, hy, rfl⟩ := Option.map_eq_some_iff.mp h
  rw [List.getD_eq_getElem?_getD, hy]
  rfl
theorem range_getD {α β : Type} {ns : List α} {d : α} {f : α → β} : (List.range ns.length).map (fun i => f (ns.getD i d)) = ns.map f := by
  refine List.ext_getElem (by rw [List.length_map, List.length_map, List.length_range]) fun i h1 h2 => ?_
  rw [List.getElem_map, List.getElem_map, List.getElem_range, List.getD_eq_getElem?_getD, List.getElem?_eq_getElem (by rw [List.length_map] at h2; exact h2)]
  rfl
theorem bt_set {bs : List Bool} {j k : Nat} (hj : j < bs.length) : bt (bs.set j true) k = (decide (k = j) || bt bs k) := by
  unfold bt
  rw [List.getD_eq_getElem?_getD, List.getD_eq_getElem?_getD, List.getElem?_set]
  by_cases h : j = k
  · subst h; rw [if_pos rfl, if_pos hj]; simp
  · rw [if_neg h, decide_eq_false (by omega), Bool.false_or]
theorem mem_take_succ {ns : List Nat} {i k : Nat} (h : i < ns.length) : decide (k ∈ ns.take (i + 1)) = (decide (k = ns.getD i 0) || decide (k ∈ ns.take i)) := by
  rw [List.take_succ, List.getElem?_eq_getElem h, List.getD_eq_getElem?_getD, List.getElem?_eq_getElem h]
  simp only [Option.toList_some, List.mem_append, List.mem_singleton, Option.getD_some]
  by_cases h1 : k = ns[i] <;> by_cases h2 : k ∈ ns.take i <;> simp [h1, h2]
theorem flat_bls {l : List Bool} : (l.map V.bl).all flatV = true := by
  rw [List.all_map, List.all_eq_true]
  intro n _
  rfl
def spOf (K : PySem.W.Frag) (C CP CL : Addr) : Sp := fun vs H Q E => ∃ (a : Addr) (xs : List V), vs = [.ref C, .ref a] ∧ SqL K H a xs ∧ xs.length ≤ 100000 ∧
  (∀ (j : Nat) (x : V), xs[j]? = some x → (∃ n : Nat, x = .int n) ∨ (Np K H x ∧ ((∀ i : Nat, i < j → ∃ n : Nat, xs[i]? = some (V.int n)) → ExcR (Same H) CP "n" x E))) ∧
  (∀ ns : List Nat, xs = ns.map nV → ((∀ n, n ∈ ns → n < 10000) → ∀ x H', H x = none → Same H H' → WF K H' x C (fun k => decide (k ∈ ns)) → Q (.ref x) H') ∧ ((∃ n, n ∈ ns ∧ 10000 ≤ n) → ExcR (Same H) CL "most" (.int 10000) E))
section
variable {P : Program} {w : World} {K : PySem.W.Frag} {mg : Str → Option Value} {base : Heap}
theorem Np.same {H H' : Hp} {v : V} (e : Same H H') : Np K H v → Np K H' v := fun h => h.elim (fun z => .inl (z.same e)) .inr
end
end Ev

end
section
open L2 in
local macro_rules | `(tactic| walk_at "gx") => `(tactic| first
  | ((with_reducible show tVar _ _ _ _); refine g_var rfl ?_)
  | with_reducible refine g_c ?_
  | with_reducible refine g_op ?_
  | with_reducible refine g_cons ?_
  | with_reducible refine g_nil ?_
  | with_reducible refine g_test ?_
  | with_reducible refine g_blp ?_
  | with_reducible refine g_asg ?_
  | (with_reducible refine g_name ?_; (try simp only [List.set_cons_zero, List.set_cons_succ]))
  | with_reducible refine g_call ?_
  | with_reducible refine g_cb ?_
  | with_reducible refine g_I0 ?_
  | with_reducible refine g_U ?_
  | with_reducible refine g_eqI ?_
  | with_reducible refine g_neI ?_
  | with_reducible refine g_if ?_
  | with_reducible refine g_ret ?_
  | with_reducible refine g_retN ?_
  | with_reducible refine g_next ?_
  | with_reducible refine g_drop ?_
  | with_reducible refine g_un ?_
  | with_reducible refine g_tb ?_
  | with_reducible refine g_tup ?_
  | with_reducible refine g_lst ?_
  | with_reducible refine g_and ?_
  | with_reducible refine g_or ?_
  | with_reducible refine g_not ?_
  | with_reducible refine g_andV ?_
  | with_reducible refine g_orV ?_
  | with_reducible refine g_notV ?_
  | with_reducible refine g_ifE ?_
  | with_reducible refine g_fld ?_
  | with_reducible refine g_tt ?_
  | with_reducible refine g_ff ?_
  | with_reducible refine g_ntt ?_
  | with_reducible refine g_nff ?_
  | with_reducible refine g_for ?_
  | with_reducible refine g_list ?_
  | with_reducible refine g_tupI ?_
  | with_reducible refine g_rng1 ?_
  | with_reducible refine g_rng2 ?_
  | with_reducible refine g_enumA ?_
  | with_reducible refine g_rev ?_
  | with_reducible refine g_lc ?_
  | with_reducible refine g_gcons ?_
  | with_reducible refine g_gnil ?_
  | with_reducible refine g_yes ?_
  | with_reducible refine g_sl ?_
  | with_reducible refine g_nopart ?_
  | with_reducible refine g_part ?_
  | with_reducible refine g_int ?_
  | with_reducible refine g_dget ?_
  | with_reducible refine g_dput ?_
  | with_reducible refine g_raiseX ?_
  | with_reducible refine g_tru ?_
  | with_reducible refine g_sub ?_
  | with_reducible refine g_isN ?_
  | with_reducible refine g_notN ?_
  | with_reducible refine g_bm ?_
  | with_reducible refine L2.g_bm0 ?_
  | with_reducible refine g_pair ?_
  | with_reducible refine g_pair0 ?_
  | with_reducible refine u_int1 ?_
  | with_reducible refine g_chain ?_
  | with_reducible refine L2.g_sfld ?_
  | (with_reducible refine g_par3 ?_)
  | (with_reducible refine g_three ?_; (try simp only [List.set_cons_zero, List.set_cons_succ]))
  | ((with_reducible apply L2.g_tupT); walk_at "up"; rfl)
  | (with_reducible refine g_par ?_)
  | (with_reducible refine g_two ?_; (try simp only [List.set_cons_zero, List.set_cons_succ]))
  )
local macro_rules | `(tactic| walk_at "go") => `(tactic| first | walk_at "gx" | with_reducible refine L2.g_seq ?_)
local macro_rules | `(tactic| walk_at "gou") => `(tactic| repeat (walk_at "gx"))
local macro_rules | `(tactic| walk_at "gos") => `(tactic| repeat (walk_at "go"))
local macro_rules | `(tactic| walk_at "sl") => `(tactic| first
  | assumption
  | exact L2.Same.l (by assumption)
  | exact L2.SameD.l (by assumption)
  | exact L2.extN_l (by assumption))
local macro_rules | `(tactic| walk_at "up") => `(tactic| first
  | assumption
  | ((with_reducible apply L2.SameL.lst); walk_at "sl"; walk_at "up")
  | ((with_reducible apply L2.SameL.tupA); walk_at "sl"; walk_at "up")
  | ((with_reducible apply L2.SameL.ins); walk_at "sl"; walk_at "up")
  | ((with_reducible apply Ev.PB.l); walk_at "sl"; walk_at "up")
  | ((with_reducible apply Ev.IsP.l); walk_at "sl"; walk_at "up")
  | ((with_reducible apply L2.sqL); walk_at "up")
  | ((with_reducible apply L2.sqT); walk_at "up")
  | ((with_reducible apply L2.SameL.seq); walk_at "sl"; walk_at "up")
  | ((with_reducible apply Ev.Pen.same); assumption; walk_at "up")
  | ((with_reducible apply Ev.Pen.extN); assumption; walk_at "up")
  | ((with_reducible apply L2.tabs_s); assumption; walk_at "up")
  | ((with_reducible apply L2.tabs_dd); assumption; walk_at "up")
  | ((with_reducible apply Or.inl); walk_at "up")
  | ((with_reducible apply Or.inr); walk_at "up"))
local macro_rules | `(tactic| walk_at "new") => `(tactic| (
  first
    | refine ⟨L2.size_ok (by rfl), fun p hp => ?_⟩
    | refine fun p hp => ?_
  generalize hX : L2.upd _ p _ = H1
  obtain ⟨e, h⟩ := L2.news hp hX
  clear hX))
local macro_rules | `(tactic| walk_at "o") => `(tactic| first
  | ((with_reducible apply Ev.o_add); walk_at "up"; walk_at "up"; rfl; rfl; rfl)
  | ((with_reducible apply Ev.o_sub); walk_at "up"; walk_at "up"; rfl; rfl; rfl)
  | ((with_reducible apply Ev.o_mul); walk_at "up"; walk_at "up"; rfl; rfl; rfl)
  | ((with_reducible apply Ev.o_addI); walk_at "up"; assumption; rfl; rfl; rfl)
  | ((with_reducible apply Ev.o_subI); walk_at "up"; assumption; rfl; rfl; rfl)
  | ((with_reducible apply Ev.o_mulI); walk_at "up"; assumption; rfl; rfl; rfl)
  | ((with_reducible apply Ev.o_radd); walk_at "up"; assumption; rfl; rfl; rfl)
  | ((with_reducible apply Ev.o_rsub); walk_at "up"; assumption; rfl; rfl; rfl)
  | ((with_reducible apply Ev.o_rmul); walk_at "up"; assumption; rfl; rfl; rfl)
  | ((with_reducible apply Ev.o_neg); walk_at "up"; rfl; rfl; rfl))
local macro_rules | `(tactic| walk_at "eq") => `(tactic| ((with_reducible apply Ev.u_ownB); assumption; walk_at "up"; walk_at "up"; (focus (intro k; first | rfl | exact Pl.e_add | exact Pl.e_sub | exact Pl.e_mul | exact Pl.e_rsub | exact Pl.e_rsub2))))
local macro_rules | `(tactic| walk_at "isp") => `(tactic| (apply Ev.u_isB; walk_at "up"; walk_at "up"; rfl; rfl))

/-! Values that are handed and told again. -/
namespace Ev
open PySem PySem.Spec PyProof.Rows L2 Wp
/-- a plain value, an integer only if p -/
inductive PV (p : Int → Prop) (H : Hp) : V → Prop
  | int (i : Int) (h : p i) : PV p H (.int i)
  | bl (b : Bool) : PV p H (.bl b)
  | non : PV p H .non
  | str (x : Str) (h : PyData.canLay0 (.str x) = true) : PV p H (.str x)
  | tup (t : Addr) (j : Int) (h : H t = some (.tup [.int j])) : PV p H (.ref t)
theorem PV.l {p : Int → Prop} {H H' : Hp} {v : V} (e : SameL H H') : PV p H v → PV p H' v
  | .int i h => .int i h
  | .bl b => .bl b
  | .non => .non
  | .str x h => .str x h
  | .tup t j h => .tup t j (e.tupA h)
theorem PV.mono {p p' : Int → Prop} {H : Hp} {v : V} (e : ∀ i, p i → p' i) : PV p H v → PV p' H v
  | .int i h => .int i (e i h)
  | .bl b => .bl b
  | .non => .non
  | .str x h => .str x h
  | .tup t j h => .tup t j h
theorem PV.dp {K : PySem.W.Frag} {p : Int → Prop} {H : Hp} {v : V} : PV p H v → ∃ d, Dp K H v d ∧ d.canLay0 = true ∧ d.depth ≤ 3 ∧ PyData.eqv d d = true
  | .int i h => ⟨.int i, .int i, rfl, Nat.zero_le 3, by simp [PyData.eqv]⟩
  | .bl b => ⟨.bool b, .bl b, rfl, Nat.zero_le 3, by simp [PyData.eqv]⟩
  | .non => ⟨.none, .non, rfl, Nat.zero_le 3, by simp [PyData.eqv]⟩
  | .str x h => ⟨.str x, .str x, h, Nat.zero_le 3, by simp [PyData.eqv]⟩
  | .tup t j h => ⟨.tuple [.int j], .tup (sqT h) (.cons (.int j) .nil), by simp [PyData.canLay0, PyData.canLayAll0], by simp [PyData.depth, PyData.depthAll], by simp [PyData.eqv, PyData.eqvAll]⟩
theorem PV.kd {K : PySem.W.Frag} {p : Int → Prop} {H : Hp} {v : V} : PV p H v → Kd K H v false ∨ ∃ i, p i ∧ v = .int i
  | .int i h => .inr ⟨i, h, rfl⟩
  | .bl b => .inl Kd.bl
  | .non => .inl Kd.non
  | .str x h => .inl Kd.str
  | .tup t j h => .inl (Kd.tup h)
theorem PV.nat {p : Int → Prop} {H : Hp} {v : V} {n : Nat} (hp : ∀ i, p i → i < 0) (h : PV p H v) (e : v = nV n) : False := by
  subst e
  unfold nV at h
  cases h with
  | int i h => have := hp _ h; omega
theorem nats_inj : ∀ {ns ms : List Nat}, ns.map nV = ms.map nV → ns = ms
  | [], [], _ => rfl
  | [], _ :: _, h => by cases h
  | _ :: _, [], h => by cases h
  | a :: r, b :: t, h => by
    rw [List.map_cons, List.map_cons] at h
    injection h with h1 h2
    unfold nV at h1
    injection h1 with h1
    rw [Int.ofNat_inj.mp h1, nats_inj h2]
theorem nat_mem {ns : List Nat} {x : V} (h : x ∈ ns.map nV) : ∃ n : Nat, n ∈ ns ∧ x = .int n := by
  obtain ⟨n, h1, rfl⟩ := List.mem_map.mp h
  exact ⟨n, h1, rfl⟩
/-- an odd member put among others -/
theorem bad_at {l : List V} {k j : Nat} {odd big x : V} (hk : k ≤ l.length) (h : (l.take k ++ [odd] ++ l.drop k ++ [big])[j]? = some x) : (j = k ∧ x = odd) ∨ (j ≠ k ∧ (x ∈ l ∨ x = big)) := by
  have hl : (l.take k).length = k := by rw [List.length_take]; omega
  have hl2 : (l.take k ++ [odd]).length = k + 1 := by rw [List.length_append, hl]; rfl
  by_cases h1 : j < k
  · rw [List.append_assoc, List.append_assoc, List.getElem?_append_left (by omega)] at h
    exact .inr ⟨by omega, .inl (List.mem_of_mem_take (List.mem_of_getElem? h))⟩
  · by_cases h2 : j = k
    · subst h2
      rw [List.append_assoc, List.append_assoc, List.getElem?_append_right (by omega), hl, Nat.sub_self] at h
      exact .inl ⟨rfl, (Option.some.inj h).symm⟩
    · rw [List.append_assoc, List.getElem?_append_right (by omega)] at h
      rcases List.mem_append.mp (List.mem_of_getElem? h) with h | h
      · exact .inr ⟨h2, .inl (List.mem_of_mem_drop h)⟩
      · exact .inr ⟨h2, .inr (List.mem_singleton.mp h)⟩
theorem bad_no {l : List V} {k : Nat} {odd big : V} {ns : List Nat} {p : Int → Prop} {H : Hp} (hk : k ≤ l.length) (hp : ∀ i, p i → i < 0) (ho : PV p H odd) (h : l.take k ++ [odd] ++ l.drop k ++ [big] = ns.map nV) : False := by
  have hl : (l.take k).length = k := by rw [List.length_take]; omega
  have e : (l.take k ++ [odd] ++ l.drop k ++ [big])[k]? = some odd := by
    rw [List.append_assoc, List.append_assoc, List.getElem?_append_right (by omega), hl, Nat.sub_self]; rfl
  rw [h] at e
  exact ho.nat hp (at_nats e)
theorem mem_list {N k : Nat} {ps : List Nat} (h : ∀ n, n ∈ ps → n < N) : mem ((List.range N).map fun n => decide (n ∈ ps)) [false] k = decide (k ∈ ps) := by
  unfold mem
  rw [List.length_map, List.length_range]
  by_cases hk : k < N
  · rw [if_pos hk, bt_in (by rw [List.length_map, List.length_range]; exact hk), List.getElem_map, List.getElem_range]
  · rw [if_neg hk, decide_eq_false (fun z => hk (h k z))]
    simp [bt, Nat.mod_one]
section
variable {K : PySem.W.Frag} {H : Hp} {a b : Addr} {x : Str} {v : V} {p : Int → Prop} {Q : VK}
theorem u_neTagV (hx : PyData.canLay0 (.str x) = true) (h : H a = some (.tup [.str x, v])) (h' : H b = some (.tup [.str x, v])) (hv : PV p H v) (q : Q (.bl false) H) : rNeD K (.ref a) (.ref b) H Q := by
  obtain ⟨d, h1, h2, h3, h4⟩ := hv.dp (K := K)
  exact u_neD (b := true) (.tup (sqT h) (.cons (.str _) (.cons h1 .nil))) (.tup (sqT h') (.cons (.str _) (.cons h1 .nil))) (shaped_tag hx h2 h3) (shaped_tag hx h2 h3) (by simp [PyData.eqv, PyData.eqvAll, h4]) q
theorem u_eqTagV (hx : PyData.canLay0 (.str x) = true) (h : H a = some (.tup [.str x, v])) (h' : H b = some (.tup [.str x, v])) (hv : PV p H v) (q : Q (.bl true) H) : rEqD K (.ref a) (.ref b) H Q := by
  obtain ⟨d, h1, h2, h3, h4⟩ := hv.dp (K := K)
  refine ⟨_, _, .tup (sqT h) (.cons (.str _) (.cons h1 .nil)), .tup (sqT h') (.cons (.str _) (.cons h1 .nil)), shaped_tag hx h2 h3, shaped_tag hx h2 h3, ?_⟩
  have e : PyData.eqv (.tuple [.str x, d]) (.tuple [.str x, d]) = true := by simp [PyData.eqv, PyData.eqvAll, h4]
  rw [e]
  exact q
theorem u_eqNon (q : Q (.bl true) H) : rEqD K .non .non H Q := ⟨_, _, .non, .non, by decide, by decide, by
  have e : PyData.eqv .none .none = true := by simp [PyData.eqv]
  rw [e]; exact q⟩
theorem in_nats {n : Nat} {ns : List Nat} : inV (.int n) (ns.map nV) = decide (n ∈ ns) := by
  unfold inV
  rw [List.any_map]
  induction ns with
  | nil => rfl
  | cons m r ih =>
    rw [List.any_cons, ih]
    have e : ((fun y => eqV y (V.int n)) ∘ nV) m = decide (n = m) := by
      show eqV (.int m) (.int n) = _
      simp only [eqV]
      by_cases h : n = m
      · subst h; simp
      · rw [decide_eq_false h, beq_eq_false_iff_ne]; omega
    rw [e]
    by_cases h1 : n = m <;> by_cases h2 : n ∈ r <;> simp [h1, h2]
theorem flat_nats {ns : List Nat} : (ns.map nV).all flatV = true := by
  rw [List.all_map, List.all_eq_true]
  intro n _
  rfl
end
end Ev

end
section
open L2 in
local macro_rules | `(tactic| walk_at "gx") => `(tactic| first
  | ((with_reducible show tVar _ _ _ _); refine g_var rfl ?_)
  | with_reducible refine g_c ?_
  | with_reducible refine g_op ?_
  | with_reducible refine g_cons ?_
  | with_reducible refine g_nil ?_
  | with_reducible refine g_test ?_
  | with_reducible refine g_blp ?_
  | with_reducible refine g_asg ?_
  | (with_reducible refine g_name ?_; (try simp only [List.set_cons_zero, List.set_cons_succ]))
  | with_reducible refine g_call ?_
  | with_reducible refine g_cb ?_
  | with_reducible refine g_I0 ?_
  | with_reducible refine g_U ?_
  | with_reducible refine g_eqI ?_
  | with_reducible refine g_neI ?_
  | with_reducible refine g_if ?_
  | with_reducible refine g_ret ?_
  | with_reducible refine g_retN ?_
  | with_reducible refine g_next ?_
  | with_reducible refine g_drop ?_
  | with_reducible refine g_un ?_
  | with_reducible refine g_tb ?_
  | with_reducible refine g_tup ?_
  | with_reducible refine g_lst ?_
  | with_reducible refine g_and ?_
  | with_reducible refine g_or ?_
  | with_reducible refine g_not ?_
  | with_reducible refine g_andV ?_
  | with_reducible refine g_orV ?_
  | with_reducible refine g_notV ?_
  | with_reducible refine g_ifE ?_
  | with_reducible refine g_fld ?_
  | with_reducible refine g_tt ?_
  | with_reducible refine g_ff ?_
  | with_reducible refine g_ntt ?_
  | with_reducible refine g_nff ?_
  | with_reducible refine g_for ?_
  | with_reducible refine g_list ?_
  | with_reducible refine g_tupI ?_
  | with_reducible refine g_rng1 ?_
  | with_reducible refine g_rng2 ?_
  | with_reducible refine g_enumA ?_
  | with_reducible refine g_rev ?_
  | with_reducible refine g_lc ?_
  | with_reducible refine g_gcons ?_
  | with_reducible refine g_gnil ?_
  | with_reducible refine g_yes ?_
  | with_reducible refine g_sl ?_
  | with_reducible refine g_nopart ?_
  | with_reducible refine g_part ?_
  | with_reducible refine g_int ?_
  | with_reducible refine g_dget ?_
  | with_reducible refine g_dput ?_
  | with_reducible refine g_raiseX ?_
  | with_reducible refine g_tru ?_
  | with_reducible refine g_sub ?_
  | with_reducible refine g_isN ?_
  | with_reducible refine g_notN ?_
  | with_reducible refine g_bm ?_
  | with_reducible refine L2.g_bm0 ?_
  | with_reducible refine g_pair ?_
  | with_reducible refine g_pair0 ?_
  | with_reducible refine u_int1 ?_
  | with_reducible refine g_chain ?_
  | with_reducible refine L2.g_sfld ?_
  | (with_reducible refine g_par3 ?_)
  | (with_reducible refine g_three ?_; (try simp only [List.set_cons_zero, List.set_cons_succ]))
  | ((with_reducible apply L2.g_tupT); walk_at "up"; rfl)
  | (with_reducible refine g_par ?_)
  | (with_reducible refine g_two ?_; (try simp only [List.set_cons_zero, List.set_cons_succ]))
  )
local macro_rules | `(tactic| walk_at "go") => `(tactic| first | walk_at "gx" | with_reducible refine L2.g_seq ?_)
local macro_rules | `(tactic| walk_at "gou") => `(tactic| repeat (walk_at "gx"))
local macro_rules | `(tactic| walk_at "gos") => `(tactic| repeat (walk_at "go"))
local macro_rules | `(tactic| walk_at "sl") => `(tactic| first
  | assumption
  | exact L2.Same.l (by assumption)
  | exact L2.SameD.l (by assumption)
  | exact L2.extN_l (by assumption))
local macro_rules | `(tactic| walk_at "up") => `(tactic| first
  | assumption
  | ((with_reducible apply L2.SameL.lst); walk_at "sl"; walk_at "up")
  | ((with_reducible apply L2.SameL.tupA); walk_at "sl"; walk_at "up")
  | ((with_reducible apply L2.SameL.ins); walk_at "sl"; walk_at "up")
  | ((with_reducible apply Ev.PB.l); walk_at "sl"; walk_at "up")
  | ((with_reducible apply Ev.IsP.l); walk_at "sl"; walk_at "up")
  | ((with_reducible apply L2.sqL); walk_at "up")
  | ((with_reducible apply L2.sqT); walk_at "up")
  | ((with_reducible apply L2.SameL.seq); walk_at "sl"; walk_at "up")
  | ((with_reducible apply Ev.Pen.same); assumption; walk_at "up")
  | ((with_reducible apply Ev.Pen.extN); assumption; walk_at "up")
  | ((with_reducible apply L2.tabs_s); assumption; walk_at "up")
  | ((with_reducible apply L2.tabs_dd); assumption; walk_at "up")
  | ((with_reducible apply Or.inl); walk_at "up")
  | ((with_reducible apply Or.inr); walk_at "up"))
local macro_rules | `(tactic| walk_at "new") => `(tactic| (
  first
    | refine ⟨L2.size_ok (by rfl), fun p hp => ?_⟩
    | refine fun p hp => ?_
  generalize hX : L2.upd _ p _ = H1
  obtain ⟨e, h⟩ := L2.news hp hX
  clear hX))
local macro_rules | `(tactic| walk_at "o") => `(tactic| first
  | ((with_reducible apply Ev.o_add); walk_at "up"; walk_at "up"; rfl; rfl; rfl)
  | ((with_reducible apply Ev.o_sub); walk_at "up"; walk_at "up"; rfl; rfl; rfl)
  | ((with_reducible apply Ev.o_mul); walk_at "up"; walk_at "up"; rfl; rfl; rfl)
  | ((with_reducible apply Ev.o_addI); walk_at "up"; assumption; rfl; rfl; rfl)
  | ((with_reducible apply Ev.o_subI); walk_at "up"; assumption; rfl; rfl; rfl)
  | ((with_reducible apply Ev.o_mulI); walk_at "up"; assumption; rfl; rfl; rfl)
  | ((with_reducible apply Ev.o_radd); walk_at "up"; assumption; rfl; rfl; rfl)
  | ((with_reducible apply Ev.o_rsub); walk_at "up"; assumption; rfl; rfl; rfl)
  | ((with_reducible apply Ev.o_rmul); walk_at "up"; assumption; rfl; rfl; rfl)
  | ((with_reducible apply Ev.o_neg); walk_at "up"; rfl; rfl; rfl))
local macro_rules | `(tactic| walk_at "eq") => `(tactic| ((with_reducible apply Ev.u_ownB); assumption; walk_at "up"; walk_at "up"; (focus (intro k; first | rfl | exact Pl.e_add | exact Pl.e_sub | exact Pl.e_mul | exact Pl.e_rsub | exact Pl.e_rsub2))))
local macro_rules | `(tactic| walk_at "isp") => `(tactic| (apply Ev.u_isB; walk_at "up"; walk_at "up"; rfl; rfl))

/-! k08: the roots of the factors, the refused values (plain and walked). -/
namespace Pl
theorem fval_zero {n : Int} : ∀ {ps : List Pr} {c : Int}, fval c ps n = 0 ↔ c = 0 ∨ ∃ p ∈ ps, p.1 * n = p.2
  | [], c => by
    show c = 0 ↔ _
    simp
  | p :: ps, c => by
    show fval (c * (p.1 * n - p.2)) ps n = 0 ↔ _
    rw [fval_zero (ps := ps), Int.mul_eq_zero]
    constructor
    · rintro ((h | h) | ⟨q, hq, h⟩)
      · exact .inl h
      · exact .inr ⟨p, List.mem_cons_self, by omega⟩
      · exact .inr ⟨q, List.mem_cons_of_mem _ hq, h⟩
    · rintro (h | ⟨q, hq, h⟩)
      · exact .inl (.inl h)
      · rcases List.mem_cons.mp hq with z | z
        · exact .inl (.inr (by rw [← z]; omega))
        · exact .inr ⟨q, z, h⟩
theorem fval_some {ps : List Pr} {c : Int} (hc : c ≠ 0) (ha : ∀ p ∈ ps, 1 ≤ p.1) : ∃ n, fval c ps n ≠ 0 := by
  obtain ⟨M, hM⟩ := bounded (ps.map fun p => (p.2.natAbs : Int))
  refine ⟨max M 0 + 1, fun h => ?_⟩
  rcases fval_zero.mp h with z | ⟨p, hp, z⟩
  · exact hc z
  · have h1 := hM _ (List.mem_map.mpr ⟨p, hp, rfl⟩)
    have h2 := Int.mul_le_mul_of_nonneg_right (ha p hp) (show 0 ≤ max M 0 + 1 by omega)
    rw [Int.one_mul] at h2
    omega
/-- the places that the law takes as roots -/
def good (p : Pr) : Bool := decide (p.2.fmod p.1 = 0) && decide (0 ≤ p.2)
theorem root_iff {ps : List Pr} {c k : Int} (hc : c ≠ 0) (ha : ∀ p ∈ ps, 1 ≤ p.1) : k ∈ (ps.filter good).map (fun p => p.2.fdiv p.1) ↔ 0 ≤ k ∧ fval c ps k = 0 := by
  rw [List.mem_map]
  have key : ∀ p ∈ ps, (good p = true ∧ p.2.fdiv p.1 = k) ↔ (0 ≤ k ∧ p.1 * k = p.2) := fun p hp => by
    have h1 := ha p hp
    unfold good
    rw [Bool.and_eq_true, decide_eq_true_iff, decide_eq_true_iff, Int.fmod_eq_emod_of_nonneg _ (by omega), Int.fdiv_eq_ediv_of_nonneg _ (by omega)]
    have z1 := Int.mul_ediv_add_emod p.2 p.1
    have z2 := Int.emod_nonneg p.2 (show p.1 ≠ 0 by omega)
    constructor
    · rintro ⟨⟨a1, a2⟩, rfl⟩
      exact ⟨Int.ediv_nonneg a2 (by omega), by omega⟩
    · rintro ⟨a1, a2⟩
      have e : p.2 / p.1 = k := by rw [← a2]; exact Int.mul_ediv_cancel_left _ (by omega)
      have e2 : 0 ≤ p.1 * k := Int.mul_nonneg (by omega) a1
      refine ⟨⟨?_, by omega⟩, e⟩
      rw [e] at z1
      omega
  rw [fval_zero]
  constructor
  · rintro ⟨p, hp, h⟩
    obtain ⟨g1, g2⟩ := List.mem_filter.mp hp
    obtain ⟨a1, a2⟩ := (key p g1).mp ⟨g2, h⟩
    exact ⟨a1, .inr ⟨p, g1, a2⟩⟩
  · rintro ⟨h0, h | ⟨p, hp, h⟩⟩
    · exact absurd h hc
    · obtain ⟨a1, a2⟩ := (key p hp).mpr ⟨h0, h⟩
      exact ⟨p, List.mem_filter.mpr ⟨hp, a1⟩, a2⟩
end Pl
namespace Ev
open PySem PySem.Spec PyProof.Rows L2 Pl
theorem u_eqPX {K : PySem.W.Frag} {p : Int → Prop} {H : Hp} {v : V} {Q : VK} (hv : Ev.PV p H v) (q : Q (.bl true) H) : rEqD K v v H Q := by
  obtain ⟨d, h1, h2, h3, h4⟩ := hv.dp (K := K)
  refine ⟨d, d, h1, h1, ?_, ?_, by rw [h4]; exact q⟩ <;>
    (show (d.canLay0 && decide (PyData.depth d ≤ 64)) = true; rw [h2, decide_eq_true (by omega)]; rfl)
/-- a list of ints and Nones beside the empty one -/
theorem opt_lay : ∀ os : List (Option Int), PyData.canLayAll0 (os.map optD) = true ∧ PyData.depthAll (os.map optD) = 0
  | [] => ⟨rfl, rfl⟩
  | o :: os => by
    obtain ⟨h1, h2⟩ := opt_lay os
    refine ⟨?_, ?_⟩
    · show (PyData.canLay0 (optD o) && PyData.canLayAll0 (os.map optD)) = true
      rw [h1]; cases o <;> rfl
    · show max (PyData.depth (optD o)) (PyData.depthAll (os.map optD)) = 0
      rw [h2]; cases o <;> rfl
theorem dp_opts {K : PySem.W.Frag} {H : Hp} : ∀ os : List (Option Int), DpAll K H (os.map oV) (os.map optD)
  | [] => .nil
  | o :: os => .cons (dp_oV o) (dp_opts os)
theorem u_neOv {K : PySem.W.Frag} {H : Hp} {a b : Addr} {os : List (Option Int)} {Q : VK} (h1 : H a = some (.lst (os.map oV))) (h2 : H b = some (.lst [])) (q : Q (.bl (!decide (os = []))) H) : rNeD K (.ref a) (.ref b) H Q := by
  obtain ⟨l1, l2⟩ := opt_lay os
  refine ⟨_, _, .lst (sqL h1) (dp_opts os), .lst (sqL h2) .nil, ?_, rfl, ?_⟩
  · unfold SeqAt.shaped
    rw [Bool.and_eq_true]
    refine ⟨l1, decide_eq_true ?_⟩
    show PyData.depthAll (os.map optD) + 1 ≤ 64
    omega
  · show Q (.bl (!PyData.eqv (.list (os.map optD)) (.list []))) H
    have : PyData.eqv (.list (os.map optD)) (.list []) = decide (os = []) := by
      cases os <;> simp [PyData.eqv, PyData.eqvAll]
    rw [this]
    exact q
theorem lastA_filter (T : List Tri) : lastA T = match ((T.filter fun t => decide (t.2.2 = 1)).map fun t => t.2.1).getLast? with | some o => oV o | none => .int (-1) := by
  have key : ∀ (T : List Tri) (v : V), T.foldl (fun v t => if t.2.2 = 1 then oV t.2.1 else v) v = match ((T.filter fun t => decide (t.2.2 = 1)).map fun t => t.2.1).getLast? with | some o => oV o | none => v := by
    intro T
    induction T with
    | nil => intro v; rfl
    | cons t T ih =>
      intro v
      rw [List.foldl_cons, ih, List.filter_cons]
      by_cases c : t.2.2 = 1
      · rw [if_pos c, if_pos (decide_eq_true c), List.map_cons, List.getLast?_cons]
        cases ((T.filter fun t => decide (t.2.2 = 1)).map fun t => t.2.1).getLast? <;> rfl
      · rw [if_neg c, if_neg (by rw [decide_eq_true_iff]; exact c)]
  exact key T _
theorem scal_A (T : List Tri) : scal (lastA T) (lastA T) = true := by
  rw [lastA_filter]
  cases ((T.filter fun t => decide (t.2.2 = 1)).map fun t => t.2.1).getLast? with
  | none => rfl
  | some o => cases o <;> rfl
section
variable {P : Program} {w : World} {K : PySem.W.Frag} {mg : Str → Option Value} {base : Heap}
def spRefA (C : Addr) : Sp := fun vs H Q _ => ∃ (x : Addr) (v : V), vs = [.ref x, v] ∧ Ev.PV (fun _ => False) H v ∧ ∀ H', Same H H' → Q (.bl true) H'
theorem sc__law_is_refused : FnScope ["piece", "value", "e"] ["piece", "value"] (defScope (topS 48)) := ⟨rfl, rfl, rfl, by decide +kernel, rfl, by decide +kernel, by decide +kernel⟩
theorem ok__law_is_refusedA {C_Piece CB : Addr} (B : Bn mg) (X_BadNumber : ExT P K mg "BadNumber" CB ["number"]) (bb : PySem.W.exmOne K (.ref CB) (.ref CB) = some true) (G_all_with : CallF P w K mg base "all_with" ["p", "value"] 29 (spAllW K C_Piece CB))
    {f : Addr} {fd : FuncData} (F : Fun K "_law_is_refused" "_law_is_refused" (topS 48) f fd) : FnOk P w K mg base (L2.CX P w) 30 f fd ["piece", "value"] (spRefA C_Piece) := by
  have nd := sc__law_is_refused.nd
  refine F.okX sc__law_is_refused (fun vs H Q E h => ?_) (fun cdv A outer s H vs Q E hr h => ?_)
  · obtain ⟨x, v, rfl, _⟩ := h
    rfl
  · refine ⟨_, (pss_cons (ps_try_cls rfl rfl nd (takes_of rfl rfl rfl rfl) (fun W pn xe tk _ => by exact (pss_one (ps_expr (pe_callFS G_all_with (hr.mono (by decide)) rfl (passAt tk) (pa_cons (pv 0) (pa_cons (pv 1) pa_nil)))))) (.named (i := 2) rfl rfl ⟨rfl, by decide, .inl X_BadNumber.gC⟩ (fun a oe cls d pn hz hf => by exact (pss_one (ps_ret (pe_cmpR (op_eqDK (K := K) rfl hr.units) (pe_xf X_BadNumber.xf (X_BadNumber.noF (by decide)) hz hf (pv 2)) (pv 1) (nomark _))))) .nil))
      (pss_one (ps_ret pe_bl))), ?_⟩
    obtain ⟨x, v, rfl, hv, q⟩ := h
    refine g_st (σ' := [some (.ref x), some v, none]) rfl ?_
    walk_at "gos"
    refine L2.g_callS ?_
    walk_at "gos"
    refine ⟨x, v, rfl, .inr ⟨hv.kd.elim id fun ⟨_, z, _⟩ => z.elim, fun H1 d e1 hd => ?_⟩⟩
    refine ⟨true, bb, fun _ a ha => ?_, fun z => absurd z.symm Bool.false_ne_true⟩
    refine in_named ?_
    walk_at "gos"
    refine u_xf rfl hd rfl ?_
    walk_at "gos"
    exact u_eqPX (hv.l e1.l) (q _ e1)
end
end Ev

end
section
open L2 in
local macro_rules | `(tactic| walk_at "gx") => `(tactic| first
  | ((with_reducible show tVar _ _ _ _); refine g_var rfl ?_)
  | with_reducible refine g_c ?_
  | with_reducible refine g_op ?_
  | with_reducible refine g_cons ?_
  | with_reducible refine g_nil ?_
  | with_reducible refine g_test ?_
  | with_reducible refine g_blp ?_
  | with_reducible refine g_asg ?_
  | (with_reducible refine g_name ?_; (try simp only [List.set_cons_zero, List.set_cons_succ]))
  | with_reducible refine g_call ?_
  | with_reducible refine g_cb ?_
  | with_reducible refine g_I0 ?_
  | with_reducible refine g_U ?_
  | with_reducible refine g_eqI ?_
  | with_reducible refine g_neI ?_
  | with_reducible refine g_if ?_
  | with_reducible refine g_ret ?_
  | with_reducible refine g_retN ?_
  | with_reducible refine g_next ?_
  | with_reducible refine g_drop ?_
  | with_reducible refine g_un ?_
  | with_reducible refine g_tb ?_
  | with_reducible refine g_tup ?_
  | with_reducible refine g_lst ?_
  | with_reducible refine g_and ?_
  | with_reducible refine g_or ?_
  | with_reducible refine g_not ?_
  | with_reducible refine g_andV ?_
  | with_reducible refine g_orV ?_
  | with_reducible refine g_notV ?_
  | with_reducible refine g_ifE ?_
  | with_reducible refine g_fld ?_
  | with_reducible refine g_tt ?_
  | with_reducible refine g_ff ?_
  | with_reducible refine g_ntt ?_
  | with_reducible refine g_nff ?_
  | with_reducible refine g_for ?_
  | with_reducible refine g_list ?_
  | with_reducible refine g_tupI ?_
  | with_reducible refine g_rng1 ?_
  | with_reducible refine g_rng2 ?_
  | with_reducible refine g_enumA ?_
  | with_reducible refine g_rev ?_
  | with_reducible refine g_lc ?_
  | with_reducible refine g_gcons ?_
  | with_reducible refine g_gnil ?_
  | with_reducible refine g_yes ?_
  | with_reducible refine g_sl ?_
  | with_reducible refine g_nopart ?_
  | with_reducible refine g_part ?_
  | with_reducible refine g_int ?_
  | with_reducible refine g_dget ?_
  | with_reducible refine g_dput ?_
  | with_reducible refine g_raiseX ?_
  | with_reducible refine g_tru ?_
  | with_reducible refine g_sub ?_
  | with_reducible refine g_isN ?_
  | with_reducible refine g_notN ?_
  | with_reducible refine g_bm ?_
  | with_reducible refine L2.g_bm0 ?_
  | with_reducible refine g_pair ?_
  | with_reducible refine g_pair0 ?_
  | with_reducible refine u_int1 ?_
  | with_reducible refine g_chain ?_
  | with_reducible refine L2.g_sfld ?_
  | (with_reducible refine g_par3 ?_)
  | (with_reducible refine g_three ?_; (try simp only [List.set_cons_zero, List.set_cons_succ]))
  | ((with_reducible apply L2.g_tupT); walk_at "up"; rfl)
  | (with_reducible refine g_par ?_)
  | (with_reducible refine g_two ?_; (try simp only [List.set_cons_zero, List.set_cons_succ]))
  )
local macro_rules | `(tactic| walk_at "go") => `(tactic| first | walk_at "gx" | with_reducible refine L2.g_seq ?_)
local macro_rules | `(tactic| walk_at "gou") => `(tactic| repeat (walk_at "gx"))
local macro_rules | `(tactic| walk_at "gos") => `(tactic| repeat (walk_at "go"))
local macro_rules | `(tactic| walk_at "sl") => `(tactic| first
  | assumption
  | exact L2.Same.l (by assumption)
  | exact L2.SameD.l (by assumption)
  | exact L2.extN_l (by assumption))
local macro_rules | `(tactic| walk_at "up") => `(tactic| first
  | assumption
  | ((with_reducible apply L2.SameL.lst); walk_at "sl"; walk_at "up")
  | ((with_reducible apply L2.SameL.tupA); walk_at "sl"; walk_at "up")
  | ((with_reducible apply L2.SameL.ins); walk_at "sl"; walk_at "up")
  | ((with_reducible apply Ev.PB.l); walk_at "sl"; walk_at "up")
  | ((with_reducible apply Ev.IsP.l); walk_at "sl"; walk_at "up")
  | ((with_reducible apply L2.sqL); walk_at "up")
  | ((with_reducible apply L2.sqT); walk_at "up")
  | ((with_reducible apply L2.SameL.seq); walk_at "sl"; walk_at "up")
  | ((with_reducible apply Ev.Pen.same); assumption; walk_at "up")
  | ((with_reducible apply Ev.Pen.extN); assumption; walk_at "up")
  | ((with_reducible apply L2.tabs_s); assumption; walk_at "up")
  | ((with_reducible apply L2.tabs_dd); assumption; walk_at "up")
  | ((with_reducible apply Or.inl); walk_at "up")
  | ((with_reducible apply Or.inr); walk_at "up"))
local macro_rules | `(tactic| walk_at "new") => `(tactic| (
  first
    | refine ⟨L2.size_ok (by rfl), fun p hp => ?_⟩
    | refine fun p hp => ?_
  generalize hX : L2.upd _ p _ = H1
  obtain ⟨e, h⟩ := L2.news hp hX
  clear hX))
local macro_rules | `(tactic| walk_at "o") => `(tactic| first
  | ((with_reducible apply Ev.o_add); walk_at "up"; walk_at "up"; rfl; rfl; rfl)
  | ((with_reducible apply Ev.o_sub); walk_at "up"; walk_at "up"; rfl; rfl; rfl)
  | ((with_reducible apply Ev.o_mul); walk_at "up"; walk_at "up"; rfl; rfl; rfl)
  | ((with_reducible apply Ev.o_addI); walk_at "up"; assumption; rfl; rfl; rfl)
  | ((with_reducible apply Ev.o_subI); walk_at "up"; assumption; rfl; rfl; rfl)
  | ((with_reducible apply Ev.o_mulI); walk_at "up"; assumption; rfl; rfl; rfl)
  | ((with_reducible apply Ev.o_radd); walk_at "up"; assumption; rfl; rfl; rfl)
  | ((with_reducible apply Ev.o_rsub); walk_at "up"; assumption; rfl; rfl; rfl)
  | ((with_reducible apply Ev.o_rmul); walk_at "up"; assumption; rfl; rfl; rfl)
  | ((with_reducible apply Ev.o_neg); walk_at "up"; rfl; rfl; rfl))
local macro_rules | `(tactic| walk_at "eq") => `(tactic| ((with_reducible apply Ev.u_ownB); assumption; walk_at "up"; walk_at "up"; (focus (intro k; first | rfl | exact Pl.e_add | exact Pl.e_sub | exact Pl.e_mul | exact Pl.e_rsub | exact Pl.e_rsub2))))
local macro_rules | `(tactic| walk_at "isp") => `(tactic| (apply Ev.u_isB; walk_at "up"; walk_at "up"; rfl; rfl))

/-! The law of last places and all places. -/
namespace Ev
open PySem PySem.Spec PyProof.Rows L2 Pl
theorem g_lrg1x {ta : TE} {σ : L2.St} {H : Hp} {Q : VK} (q : ta σ H fun x H1 => ∃ n, x = .int n ∧ (RgOk 0 n ∧ ∀ l, H1 l = none → Q (.ref l) (upd H1 l (.lst (rgV 0 n))))) : tLstRg (tRg1 ta) σ H Q := q
theorem all_list {H H' : Hp} {φ : Int → Int} {r : V} {S : List Int} (h : AllW H H' φ r) (hs : S.Pairwise (· < ·)) (hm : ∀ k, k ∈ S ↔ 0 ≤ k ∧ φ k = 0) (hn : ∃ k, φ k ≠ 0) : ∃ l, r = .ref l ∧ H l = none ∧ H' l = some (.lst (S.map V.int)) := by
  rcases h with ⟨_, h⟩ | ⟨l, zs, rfl, h1, h2, h3, h4, _⟩
  · obtain ⟨k, hk⟩ := hn
    exact absurd (h k) hk
  · refine ⟨l, rfl, h1, ?_⟩
    rw [sorted_ext hs h3 fun k => by rw [hm, h4]]
    exact h2
theorem all_non {H H' : Hp} {φ : Int → Int} {r : V} (h : AllW H H' φ r) (h0 : ∀ k, φ k = 0) : r = .non := by
  rcases h with ⟨h, _⟩ | ⟨l, zs, rfl, h1, h2, h3, h4, _⟩
  · exact h
  · obtain ⟨M, hM⟩ := bounded zs
    have := hM (max M 0 + 1) ((h4 _).mpr ⟨by omega, h0 _⟩)
    omega
theorem few_below {xs : List Int} (h : xs.Pairwise (· < ·)) (hb : ∀ x ∈ xs, 0 ≤ x ∧ x < 30) : xs.length ≤ 30 := by
  have key : ∀ (xs : List Int) (a : Int), a ≤ 30 → xs.Pairwise (· < ·) → (∀ x ∈ xs, a ≤ x ∧ x < 30) → xs.length ≤ (30 - a).toNat := by
    intro xs
    induction xs with
    | nil => intro a _ _ _; exact Nat.zero_le _
    | cons x xs ih =>
      intro a ha h hb
      obtain ⟨h1, h2⟩ := List.pairwise_cons.mp h
      have hx := hb x List.mem_cons_self
      have := ih (x + 1) (by omega) h2 fun y hy => ⟨by have := h1 y hy; omega, (hb y (List.mem_cons_of_mem _ hy)).2⟩
      rw [List.length_cons]
      omega
  exact key xs 0 (by decide) h hb
section
variable {P : Program} {w : World} {K : PySem.W.Frag} {mg : Str → Option Value} {base : Heap}
theorem bd_at8 {ns : List Int} {b : Nat} (h : ∀ x, x ∈ ns → Bd b x) (k : Nat) : Bd b (at0 ns k) := by
  by_cases z : k < ns.length
  · rw [at0_in z]; exact h _ (List.getElem_mem z)
  · rw [at0_out (by omega)]; exact bd0
def spLaw (K : PySem.W.Frag) : Sp := fun vs H Q _ => ∃ (a : Addr) (ns : List Int), vs = [.ref a] ∧ ns.length ≤ 63 ∧ SqL K H a (ns.map V.int) ∧ ∀ H', Q (.bl true) H'
theorem sc_law : FnScope ["script", "pen", "turn", "factors", "value", "row", "under", "parts", "first", "last", "sign", "above", "due", "a", "b", "roots", "root", "wanted", "piece", "told", "steady", "some", "lower", "n", "near"] ["script"] (defScope (topS 49)) := ⟨rfl, rfl, rfl, by decide +kernel, rfl, by decide +kernel, by decide +kernel⟩
structure LawF (P : Program) (w : World) (K : PySem.W.Frag) (mg : Str → Option Value) (base : Heap) (C CR CU CB : Addr) : Prop where
  B : Bn mg
  M_Piece : MakeF P w K mg base "Piece" C 5 (spPiece K C CR CU)
  M_Piece_1 : MakeF P w K mg base "Piece" C 5 (fun vs H Q E => ∃ a : Addr, vs = [.ref a] ∧ spPiece K C CR CU [.ref a, .int 1] H Q E)
  G_last_above : CallF P w K mg base "last_above" ["p"] 29 (spLastA K C)
  G_all_with : CallF P w K mg base "all_with" ["p", "value"] 29 (spAllW K C CB)
  G__law_pen : CallF P w K mg base "_law_pen" ["script"] 1 (spPen K)
  G__law_pick : CallF P w K mg base "_law_pick" ["pen", "some"] 3 (spPick K)
  G__law_entry : CallF P w K mg base "_law_entry" ["pen"] 4 spEntry
  G__law_fraction : CallF P w K mg base "_law_fraction" ["pen", "most"] 5 spFraction
  G__law_upper : CallF P w K mg base "_law_upper" ["row", "n"] 1 (spValue K)
  G__law_plus : CallF P w K mg base "_law_plus" ["one", "other"] 1 (spPlus K)
  G__law_factors : CallF P w K mg base "_law_factors" ["pen"] 4 (spFactors K)
  G__law_factor_row : CallF P w K mg base "_law_factor_row" ["factors"] 2 (spFacRow K)
  G__law_factor_signs : CallF P w K mg base "_law_factor_signs" ["factors", "low"] 3 (spFacSigns K)
  G__law_is_refused : CallF P w K mg base "_law_is_refused" ["piece", "value"] 30 (spRefA C)
theorem ok_law {C_Piece CR CU CB : Addr} (L : LawF P w K mg base C_Piece CR CU CB) {f : Addr} {fd : FuncData} (F : Fun K "law" "law" (topS 49) f fd) : FnOk P w K mg base (L2.CX P w) 32 f fd ["script"] (spLaw K) := by
  have nd := sc_law.nd
  have B := L.B
  have M_Piece := L.M_Piece
  have M_Piece_1 := L.M_Piece_1
  have G_last_above := L.G_last_above
  have G_all_with := L.G_all_with
  have G__law_pen := L.G__law_pen
  have G__law_pick := L.G__law_pick
  have G__law_entry := L.G__law_entry
  have G__law_fraction := L.G__law_fraction
  have G__law_upper := L.G__law_upper
  have G__law_plus := L.G__law_plus
  have G__law_factors := L.G__law_factors
  have G__law_factor_row := L.G__law_factor_row
  have G__law_factor_signs := L.G__law_factor_signs
  have G__law_is_refused := L.G__law_is_refused
  refine F.okX sc_law (fun vs H Q E h => ?_) (fun cdv A outer s H vs Q E hr h => ?_)
  · obtain ⟨a, ns, rfl, _⟩ := h
    rfl
  · refine ⟨_, (pss_cons (ps_set (i := 1) nd rfl (.inl rfl) (pe_callF G__law_pen (hr.mono (by decide)) rfl passL (pa_cons (pv 0) pa_nil)))
      (pss_cons (ps_for (passes_of rfl) rfl (pi_range1 rfl B.range (pa_cons (pe_op op_add pe_int (pe_callB (call_min2 rfl) (by rfl) B.min_ (by decide +kernel) (pa_cons pe_int (pa_cons (pe_callB (call_lnK (K := K) rfl) (by rfl) B.len_ (by decide +kernel) (pa_cons (pv 0) pa_nil)) pa_nil)))) pa_nil)) (pg_name (i := 2) nd rfl (.inl rfl)) (pss_cons (ps_asg (pe_tup (pa_cons (pe_callF G__law_factors (hr.mono (by decide)) rfl passL (pa_cons (pv 1) pa_nil)) (pa_cons (pe_callF G__law_entry (hr.mono (by decide)) rfl passL (pa_cons (pv 1) pa_nil)) pa_nil))) (pg_tupK (K := K) (n := 2) rfl rfl (pgs_cons (pg_name (i := 3) nd rfl (.inl rfl)) (pgs_cons (pg_name (i := 4) nd rfl (.inr rfl)) pgs_nil))))
      (pss_cons (ps_par (i := 5) (j := 6) rfl nd rfl rfl (by decide) rfl rfl (pa_cons (pe_callF G__law_factor_row (hr.mono (by decide)) rfl passL (pa_cons (pv 3) pa_nil)) (pa_cons (pe_callF G__law_pick (hr.mono (by decide)) rfl passL (pa_cons (pv 1) (pa_cons (pe_lst (pa_cons pe_int (pa_cons pe_int (pa_cons (pe_op op_pow pe_int pe_int) pa_nil)))) pa_nil))) pa_nil)) (by rfl))
      (pss_cons (ps_set (i := 7) nd rfl (.inl rfl) (pe_callF G__law_factor_signs (hr.mono (by decide)) rfl passL (pa_cons (pv 3) (pa_cons pe_int pa_nil))))
      (pss_cons (ps_setLc (i := 11) (own := [("first", 8), ("last", 9), ("sign", 10)]) (g := gTup K 3 (gCons (gName 8) (gCons (gName 9) (gCons (gName 10) (gNil))))) rfl nd rfl rfl (sw_true rfl rfl rfl (by decide +kernel)) (pi_listK (K := K) rfl (pv 7)) (blkOk_by (N := ["script", "pen", "turn", "factors", "value", "row", "under", "parts", "first", "last", "sign", "above", "due", "a", "b", "roots", "root", "wanted", "piece", "told", "steady", "some", "lower", "n", "near"]) (sc := defScope (topS 49)) (by decide +kernel)) (fun _ _ _ _ _ => (pg_tupK (K := K) (n := 3) rfl rfl (pgs_cons (pg_name (i := 8) nd rfl (.inl rfl)) (pgs_cons (pg_name (i := 9) nd rfl (.inl rfl)) (pgs_cons (pg_name (i := 10) nd rfl (.inl rfl)) pgs_nil))))) (fun _ _ _ _ _ => (pts_one (pt_cmpR op_eq (pv 10) pe_int (nomark _)))) (fun _ _ _ _ _ => (pv 9)))
      (pss_cons (ps_set (i := 12) nd rfl (.inl rfl) (pe_ifExp (pt_cmpR (op_neDK (K := K) rfl hr.units) (pv 11) (pe_lst pa_nil) (nomark _)) (pe_ix (ix_listK (K := K) rfl) (pv 11) (pe_un un_neg pe_int) (fun _ _ => rfl)) (pe_un un_neg pe_int)))
      (pss_cons (ps_if (pt_cmpR op_ne (pe_callF G_last_above (hr.mono (by decide)) rfl passL (pa_cons (pe_makeF M_Piece (hr.mono (by decide)) rfl passL (pa_cons (pv 5) (pa_cons (pv 6) pa_nil))) pa_nil)) (pv 12) (nomark _)) (pss_one (ps_ret pe_bl)) pss_nil)
      (pss_cons (ps_setLc (i := 15) (own := [("a", 13), ("b", 14)]) (g := gTup K 2 (gCons (gName 13) (gCons (gName 14) (gNil)))) rfl nd rfl rfl (sw_true rfl rfl rfl (by decide +kernel)) (pi_listK (K := K) rfl (pe_ix (ix_tupK (K := K) rfl) (pv 3) pe_int (fun _ _ => rfl))) (blkOk_by (N := ["script", "pen", "turn", "factors", "value", "row", "under", "parts", "first", "last", "sign", "above", "due", "a", "b", "roots", "root", "wanted", "piece", "told", "steady", "some", "lower", "n", "near"]) (sc := defScope (topS 49)) (by decide +kernel)) (fun _ _ _ _ _ => (pg_tupK (K := K) (n := 2) rfl rfl (pgs_cons (pg_name (i := 13) nd rfl (.inl rfl)) (pgs_cons (pg_name (i := 14) nd rfl (.inl rfl)) pgs_nil)))) (fun _ _ _ _ _ => (pts_one (PW.pt (pw_and (pt_cmpR op_eq (pe_op op_modN (pe_callTy call_in1 (by rfl) B.int_ (by decide +kernel) (pa_cons (pv 14) pa_nil)) (pv 13)) pe_int (nomark _)) (pw_and1 (pt_cmpR op_ge (pv 14) pe_int (nomark _))))))) (fun _ _ _ _ _ => (pe_op op_fdivX (pv 14) (pv 13))))
      (pss_cons (ps_set (i := 17) nd rfl (.inl rfl) (pe_callB (cr_sortedSetK (w := w) rfl rfl) (by rfl) B.sorted (by decide +kernel) (pa_cons (pe_callTy (cr_setLK (K := K) (w := w) rfl rfl rfl) (by rfl) B.set_ (by decide +kernel) (pa_cons (pe_lc (own := [("root", 16)]) (g := gName 16) (tt := tYes) rfl nd (pi_listK (K := K) rfl (pv 15)) (blkOk_by (N := ["script", "pen", "turn", "factors", "value", "row", "under", "parts", "first", "last", "sign", "above", "due", "a", "b", "roots", "root", "wanted", "piece", "told", "steady", "some", "lower", "n", "near"]) (sc := defScope (topS 49)) (by decide +kernel)) (fun _ _ _ _ _ => (pg_name (i := 16) nd rfl (.inl rfl))) (fun _ _ _ _ _ => pts_nil) (fun _ _ _ _ _ => (pe_callTy call_in1 (by rfl) B.int_ (by decide +kernel) (pa_cons (pv 16) pa_nil)))) pa_nil)) pa_nil)))
      (pss_cons (ps_set (i := 18) nd rfl (.inl rfl) (pe_makeF M_Piece (hr.mono (by decide)) rfl passL (pa_cons (pe_callF G__law_plus (hr.mono (by decide)) rfl passL (pa_cons (pv 5) (pa_cons (pe_lst (pa_cons (pe_op op_mulX (pv 4) (pv 6)) pa_nil)) pa_nil))) (pa_cons (pv 6) pa_nil))))
      (pss_cons (ps_set (i := 19) nd rfl (.inl rfl) (pe_callF G_all_with (hr.mono (by decide)) rfl passL (pa_cons (pv 18) (pa_cons (pv 4) pa_nil))))
      (pss_cons (ps_if (PW.pt (pw_or (pt_cmpR (op_neDK (K := K) rfl hr.units) (pv 19) (pv 17) (nomark _)) (pw_or1 (pt_not (pt_val (pe_callB (call_isiK' (K := K) rfl) (by rfl) B.isinstance (by decide +kernel) (pa_cons (pv 19) (pa_cons (pe_bltn (v := .ty "list") (by rfl) B.list_ (by decide +kernel) rfl) pa_nil)))))))) (pss_one (ps_ret pe_bl)) pss_nil)
      (pss_cons (ps_expr (pe_bm PySem.F.plainAttrs_list PySem.F.slot_list_append PySem.F.type_list_append mt_append (pv 19) (pa_cons pe_int pa_nil)))
      (pss_cons (ps_if (PW.pt (pw_or (pt_cmpR (op_neDK (K := K) rfl hr.units) (pe_callF G_all_with (hr.mono (by decide)) rfl passL (pa_cons (pv 18) (pa_cons (pv 4) pa_nil))) (pv 17) (nomark _)) (pw_or1 (pt_cmpR (op_neDK (K := K) rfl hr.units) (pe_callF G_all_with (hr.mono (by decide)) rfl passL (pa_cons (pe_makeF M_Piece (hr.mono (by decide)) rfl passL (pa_cons (pv 5) (pa_cons (pv 6) pa_nil))) (pa_cons pe_int pa_nil))) (pv 17) (nomark _))))) (pss_one (ps_ret pe_bl)) pss_nil)
      (pss_cons (ps_set (i := 20) nd rfl (.inl rfl) (pe_makeF M_Piece_1 (hr.mono (by decide)) rfl passL (pa_cons (pe_lst (pa_cons (pv 4) pa_nil)) pa_nil)))
      (pss_cons (ps_if (PW.pt (pw_or (pt_cmpR op_notNS (pe_callF G_all_with (hr.mono (by decide)) rfl passL (pa_cons (pv 20) (pa_cons (pv 4) pa_nil))) pe_non (nomark _)) (pw_or1 (pt_cmpR (op_neDK (K := K) rfl hr.units) (pe_callF G_all_with (hr.mono (by decide)) rfl passL (pa_cons (pv 20) (pa_cons (pe_op op_add (pv 4) pe_int) pa_nil))) (pe_lst pa_nil) (nomark _))))) (pss_one (ps_ret pe_bl)) pss_nil)
      (pss_cons (ps_if (pt_cmpR op_ne (pe_callF G_last_above (hr.mono (by decide)) rfl passL (pa_cons (pv 20) pa_nil)) (pe_ifExp (pt_cmpR op_gt (pv 4) pe_int (nomark _)) pe_non (pe_un un_neg pe_int)) (nomark _)) (pss_one (ps_ret pe_bl)) pss_nil)
      (pss_cons (ps_asg (pe_callF G__law_fraction (hr.mono (by decide)) rfl passL (pa_cons (pv 1) (pa_cons pe_int pa_nil))) (pg_tupK (K := K) (n := 2) rfl rfl (pgs_cons (pg_name (i := 21) nd rfl (.inr rfl)) (pgs_cons (pg_name (i := 22) nd rfl (.inr rfl)) pgs_nil))))
      (pss_cons (ps_setLc (i := 24) (own := [("n", 23)]) (g := gName 23) rfl nd rfl rfl (sw_true rfl rfl rfl (by decide +kernel)) (pi_range1 rfl B.range (pa_cons pe_int pa_nil)) (blkOk_by (N := ["script", "pen", "turn", "factors", "value", "row", "under", "parts", "first", "last", "sign", "above", "due", "a", "b", "roots", "root", "wanted", "piece", "told", "steady", "some", "lower", "n", "near"]) (sc := defScope (topS 49)) (by decide +kernel)) (fun _ _ _ _ _ => (pg_name (i := 23) nd rfl (.inl rfl))) (fun _ _ _ _ _ => (pts_one (pt_cmpR op_eq (pe_callF G__law_upper (hr.mono (by decide)) rfl passL (pa_cons (pv 21) (pa_cons (pv 23) pa_nil))) (pe_op op_mulX (pv 4) (pv 22)) (nomark _)))) (fun _ _ _ _ _ => (pv 23)))
      (pss_cons (ps_set (i := 19) nd rfl (.inl rfl) (pe_callF G_all_with (hr.mono (by decide)) rfl passL (pa_cons (pe_makeF M_Piece (hr.mono (by decide)) rfl passL (pa_cons (pv 21) (pa_cons (pv 22) pa_nil))) (pa_cons (pv 4) pa_nil))))
      (pss_cons (ps_if (pt_cmpR op_isNS (pv 19) pe_non (nomark _)) (pss_one (ps_if (pt_cmpR (op_neDK (K := K) rfl hr.units) (pv 24) (pe_listRg rfl (by rfl) B.list_ (prg_1 (by rfl) B.range pe_int)) (nomark _)) (pss_one (ps_ret pe_bl)) pss_nil)) (pss_one (ps_if (PW.pt (pw_or (pt_cmpR (op_neDK (K := K) rfl hr.units) (pe_lc (own := [("n", 23)]) (g := gName 23) rfl nd (pi_listK (K := K) rfl (pv 19)) (blkOk_by (N := ["script", "pen", "turn", "factors", "value", "row", "under", "parts", "first", "last", "sign", "above", "due", "a", "b", "roots", "root", "wanted", "piece", "told", "steady", "some", "lower", "n", "near"]) (sc := defScope (topS 49)) (by decide +kernel)) (fun _ _ _ _ _ => (pg_name (i := 23) nd rfl (.inl rfl))) (fun _ _ _ _ _ => (pts_one (pt_cmpR op_lt (pv 23) pe_int (nomark _)))) (fun _ _ _ _ _ => (pv 23))) (pv 24) (nomark _)) (pw_or1 (pt_cmpR (op_neDK (K := K) rfl hr.units) (pe_lc (own := [("n", 23)]) (g := gName 23) rfl nd (pi_listK (K := K) rfl (pv 19)) (blkOk_by (N := ["script", "pen", "turn", "factors", "value", "row", "under", "parts", "first", "last", "sign", "above", "due", "a", "b", "roots", "root", "wanted", "piece", "told", "steady", "some", "lower", "n", "near"]) (sc := defScope (topS 49)) (by decide +kernel)) (fun _ _ _ _ _ => (pg_name (i := 23) nd rfl (.inl rfl))) (fun _ _ _ _ _ => (pts_one (pt_cmpR op_ne (pe_callF G__law_upper (hr.mono (by decide)) rfl passL (pa_cons (pv 21) (pa_cons (pv 23) pa_nil))) (pe_op op_mulX (pv 4) (pv 22)) (nomark _)))) (fun _ _ _ _ _ => (pv 23))) (pe_lst pa_nil) (nomark _))))) (pss_one (ps_ret pe_bl)) pss_nil)))
      (pss_one (ps_if (pt_not (pt_val (pe_callF G__law_is_refused (hr.mono (by decide)) rfl passL (pa_cons (pv 18) (pa_cons (pe_callF G__law_pick (hr.mono (by decide)) rfl passL (pa_cons (pv 1) (pa_cons (pe_lst (pa_cons pe_non (pa_cons pe_bl (pa_cons pe_str (pa_cons (pe_tup (pa_cons pe_int pa_nil)) pa_nil))))) pa_nil))) pa_nil))))) (pss_one (ps_ret pe_bl)) pss_nil)))))))))))))))))))))))
      (pss_one (ps_ret pe_bl)))), ?_⟩
    obtain ⟨a, ns, rfl, hns, ha, q⟩ := h
    refine g_st (σ' := [some (.ref a), none, none, none, none, none, none, none, none, none, none, none, none, none, none, none, none, none, none, none, none, none, none, none, none]) rfl ?_
    walk_at "gos"
    refine ⟨a, ns, rfl, ha, fun p pc H1 e1 hp1 => ?_⟩
    walk_at "gos"
    refine u_lenL (e1.seq ha) ?_
    rw [List.length_map]
    refine ⟨_, _, rfl, ?_⟩
    walk_at "gos"
    have hj : (0 : Int) ≤ 4 + (if ((ns.length : Int) < 4) then (ns.length : Int) else 4) ∧ 4 + (if ((ns.length : Int) < 4) then (ns.length : Int) else 4) ≤ 8 := by split <;> omega
    generalize 4 + (if ((ns.length : Int) < 4) then (ns.length : Int) else 4) = j at hj ⊢
    refine u_rng (by omega) (by omega) ?_
    refine for_it walk_range (fun i σ' H' => Pen H' p pc (1000 * i) ∧ ∃ x2 x3 x4 x5 x6 x7 x8 x9 x10 x11 x12 x13 x14 x15 x16 x17 x18 x19 x20 x21 x22 x23 x24, σ' = [some (.ref a), some (.ref p), x2, x3, x4, x5, x6, x7, x8, x9, x10, x11, x12, x13, x14, x15, x16, x17, x18, x19, x20, x21, x22, x23, x24]) ?_ (fun _ _ _ _ _ => trivial) (fun i y σ' H' H0 hi q2 hy' => ?_) (fun σ' H' q2 => ?_)
    · exact ⟨hp1, none, none, none, none, none, none, none, none, none, none, none, none, none, none, none, none, none, none, none, none, none, none, none, rfl⟩
    · obtain ⟨hp, x2, x3, x4, x5, x6, x7, x8, x9, x10, x11, x12, x13, x14, x15, x16, x17, x18, x19, x20, x21, x22, x23, x24, rfl⟩ := q2
      obtain ⟨rfl, rfl⟩ := hy'
      have hi9 : i < 8 := by omega
      walk_at "gos"
      refine ⟨p, pc, _, rfl, hp, by omega, fun t c ps H1 e1 hp1 hF ok => ?_⟩
      walk_at "gos"
      refine ⟨p, pc, _, rfl, hp1, by omega, fun value H2 hbv e2 hp2 => ?_⟩
      walk_at "gos"
      (walk_at "new"; rename_i t3 _ H3 e3 h3; walk_at "gos")
      refine ⟨t, c, ps, rfl, hF.d (e2.trans e3.d), ok, fun lr row H4 e4 hlr hnl hnv hnb => ?_⟩
      walk_at "gos"
      refine g_I (by unfold CPow; decide) ?_
      walk_at "gos"
      (walk_at "new"; rename_i l5 _ H5 e5 h5; walk_at "gos")
      refine ⟨p, pc, l5, _, _, rfl, hp2.same (e3.trans (e4.trans e5)), by omega, sqL h5, (fun z => by cases z), (by show 3 < 100000; decide), fun i1 uv H6 huv e6 hp6 => ?_⟩
      obtain ⟨under, rfl, hu1, hcu⟩ : ∃ under : Int, uv = .int under ∧ 1 ≤ under ∧ Bd 100 under := by
        match i1, huv with
        | 0, hv => exact ⟨_, (Option.some.inj hv).symm, by decide, by unfold Bd; decide⟩
        | 1, hv => exact ⟨_, (Option.some.inj hv).symm, by decide, by unfold Bd; decide⟩
        | 2, hv => exact ⟨_, (Option.some.inj hv).symm, by decide, by unfold Bd; decide⟩
        | i + 3, hv => cases hv
      walk_at "gos"
      have hF6 := hF.d (e2.trans (e3.d.trans (e4.d.trans (e5.d.trans e6))))
      have hlr6 := (e5.d.trans e6).lst hlr
      have few := ok.few
      have hu0 : 0 < under := by omega
      have hup1 := fun p hp => (ok.up p hp).1
      clear e1 e2 e3 h3 e4 e5 h5 huv hlr hF hp hp1 hp2
      refine ⟨t, c, 0, ps, rfl, hF6, ok, by unfold Bd; decide, fun l7 T H7 e7 hT hW hA hTl => ?_⟩
      walk_at "gos"
      obtain ⟨vs7, hvs7, hTr7⟩ := id hT
      have hln7 := hTr7.len
      refine u_it (sqL hvs7) fun D hD => ?_
      refine lc_it walk_list (fun k H' => Same H7 H' ∧ H' D = some (.lst ((((T.take k).filter fun t => decide (t.2.2 = 1)).map fun t => t.2.1).map oV))) ?_ (fun k _ H' pv => sqL (pv.1 _ _ hvs7)) (fun k y H8 H9 hk pv yy => ?_) (fun H8 pv => ?_)
      · exact ⟨same_new hD, upd_same⟩
      · obtain ⟨e8, h8⟩ := pv
        obtain ⟨rfl, hy⟩ := yy
        obtain ⟨⟨tl, th, ts⟩, ht1, a7, rfl, ht2⟩ := (hTr7.d e8.d).at_ hy
        have hfl : ((T.take k).filter fun t => decide (t.2.2 = 1)).length ≤ 25 := Nat.le_trans (List.length_filter_le _ _) (by rw [List.length_take]; omega)
        rw [take_snoc ht1, List.filter_append, List.filter_cons, List.filter_nil]
        walk_at "gos"
        refine ⟨by trivial, ?_⟩
        walk_at "gos"
        by_cases c1 : ts = 1
        · rw [if_pos (by rw [decide_eq_true_iff]; exact c1), if_pos (by exact decide_eq_true c1)]
          walk_at "gos"
          refine ⟨_, h8, by rw [sizeLine_eq, List.length_map, List.length_map]; omega, e8.mut hD, ?_⟩
          rw [upd_same, List.map_append, List.map_append]
          rfl
        · rw [if_neg (by rw [decide_eq_true_iff]; exact c1), if_neg (by rw [decide_eq_true_iff]; exact c1), List.append_nil]
          exact ⟨e8, h8⟩
      obtain ⟨e8, h8⟩ := pv
      rw [List.take_of_length_le (by omega)] at h8
      obtain ⟨os, hos⟩ : ∃ os : List (Option Int), os = (T.filter fun t => decide (t.2.2 = 1)).map fun t => t.2.1 := ⟨_, rfl⟩
      have hlast := lastA_filter T
      rw [← hos] at h8 hlast
      walk_at "gou"
      ((with_reducible change tSeq _ _ _ _ _); refine L2.g_cutS (fun σ' H' => Same H8 H' ∧ σ' = [some (.ref a), some (.ref p), some (.int (0 + (i : Int))), some (.ref t), some (.int value), some (.ref lr), some (.int under), some (.ref l7), x8, x9, x10, some (.ref D), some (lastA T), x13, x14, x15, x16, x17, x18, x19, x20, x21, x22, x23, x24]) (fun nx hnx => ?_) (fun σ' H9 hR => ?_))
      · walk_at "gos"
        (walk_at "new"; rename_i l9 _ H9 e9 h9; walk_at "gos")
        refine u_neOv (e9 _ _ h8) h9 ?_
        walk_at "gos"
        rcases List.eq_nil_or_concat os with z | ⟨os0, o, z⟩
        · rw [z] at hlast
          have hl2 : lastA T = .int (-1) := hlast
          rw [decide_eq_true z]
          walk_at "gos"
          exact hnx _ _ ⟨e9, by rw [hl2]⟩
        · rw [List.concat_eq_append] at z
          rw [z, List.getLast?_concat] at hlast
          have hl2 : lastA T = oV o := hlast
          rw [decide_eq_false (by rw [z]; simp)]
          walk_at "gos"
          refine u_ixL (sqL (e9 _ _ h8)) (v := oV o) (atI_m1 (by rw [z]; simp)) ?_
          walk_at "gos"
          exact hnx _ _ ⟨e9, by rw [hl2]⟩
      obtain ⟨e9, rfl⟩ := hR
      have hF9 := hF6.d (e7.trans (e8.trans e9)).d
      have hlr9 := (e7.trans (e8.trans e9)) _ _ hlr6
      have hp9 := hp6.same (e7.trans (e8.trans e9))
      clear hF6 hlr6 hp6 hT hvs7 hTr7 h8 e7 e8 e9
      walk_at "gos"
      refine u_piece (.inl (sqL hlr9)) (by omega) hu1 (hcu.mono (by decide)) fun x10' H10 rs u _ e10 hP hFm => ?_
      walk_at "gos"
      have hPB : PB H10 x10' C_Piece (at0 row) under row.length 900 100 := .of hP hFm ⟨fun k hk => at0_out hk, hnb, hcu, hu0⟩
      have hev : ∀ k, ev (at0 row) row.length k = fval c ps k := fun k => by rw [← hv_ev, hnv]
      refine ⟨x10', at0 row, under, row.length, 900, 100, rfl, hPB, by omega, by decide, by decide, fun T2 H11 e11 hW2 hA2 => ?_⟩
      obtain rfl : T = T2 := hW.uniq (hW2.congr fun k => by rw [hev, fval_sign]) hA hA2
      walk_at "gos"
      refine ⟨scal_A T, ?_⟩
      rw [decide_eq_true rfl]
      walk_at "gos"
      have hF11 := hF9.d (e10.trans e11).d
      have hlr11 := (e10.trans e11) _ _ hlr9
      have hp11 := hp9.same (e10.trans e11)
      clear hF9 hlr9 hp9 hP hPB e10 e11 hW2 hA2
      obtain ⟨l0, vs0, ht0, hl0, hps0⟩ := id hF11
      have hln0 := hps0.len
      refine u_ixT (sqT ht0) (v := .ref l0) rfl ?_
      refine u_it (sqL hl0) fun D2 hD2 => ?_
      refine lc_it walk_list (fun k H' => Same H11 H' ∧ H' D2 = some (.lst ((((ps.take k).filter good).map fun p => p.2.fdiv p.1).map V.int))) ?_ (fun k _ H' pv => sqL (pv.1 _ _ hl0)) (fun k y H12 H13 hk pv yy => ?_) (fun H12 pv => ?_)
      · exact ⟨same_new hD2, upd_same⟩
      · obtain ⟨e12, h12⟩ := pv
        obtain ⟨rfl, hy⟩ := yy
        obtain ⟨⟨pa, pb⟩, ht1, a7, rfl, ht2⟩ := (hps0.d e12.d).at_ hy
        have hmem := List.mem_of_getElem? ht1
        have hupp := ok.up _ hmem
        dsimp only at hupp ht2
        have hfl : ((ps.take k).filter good).length ≤ 6 := Nat.le_trans (List.length_filter_le _ _) (by rw [List.length_take]; omega)
        rw [take_snoc ht1, List.filter_append, List.filter_cons, List.filter_nil]
        walk_at "gos"
        refine ⟨by trivial, ?_⟩
        refine g_cutT (fun b H1 => H1 = H13 ∧ b = good (pa, pb)) (fun Q1 hQ => ?_) (fun b H1 hb => ?_)
        · walk_at "gos"
          refine g_I (by omega) ?_
          walk_at "gos"
          by_cases c1 : pb.fmod pa = 0
          · rw [if_pos (decide_eq_true c1)]
            walk_at "gos"
            exact hQ _ _ ⟨rfl, by simp [good, c1]⟩
          · rw [if_neg (by rw [decide_eq_true_iff]; exact c1)]
            exact hQ _ _ ⟨rfl, by simp [good, c1]⟩
        · obtain ⟨rfl, rfl⟩ := hb
          cases hg : good (pa, pb) with
          | true =>
            walk_at "gos"
            refine g_I (Bd.divX (by omega) (Bd.mono (n := 4) (m := 110) (by unfold Bd; omega) (by decide)) (by decide)) ?_
            refine ⟨_, h12, by rw [sizeLine_eq, List.length_map, List.length_map]; omega, e12.mut hD2, ?_⟩
            rw [upd_same, if_pos rfl, List.map_append, List.map_append]
            rfl
          | false =>
            walk_at "gos"
            rw [if_neg (by simp), List.append_nil]
            exact ⟨e12, h12⟩
      obtain ⟨e12, h12⟩ := pv
      rw [List.take_of_length_le (by omega)] at h12
      have hroot := fun k => root_iff (k := k) ok.nz hup1
      have hrl : ((ps.filter good).map fun p => p.2.fdiv p.1).length ≤ 6 := by rw [List.length_map]; exact Nat.le_trans (List.length_filter_le _ _) few
      generalize ((ps.filter good).map fun p => p.2.fdiv p.1) = roots at h12 hroot hrl
      walk_at "gos"
      refine u_it (sqL h12) fun D3 hD3 => ?_
      refine lc_it walk_list (PvL H12 D3 (fun _ => true) (fun k => V.int (at0 roots k))) (lc_start hD3) (fun k _ H' pv => sqL (pv.1 _ _ h12)) (fun k y H13 H14 hk pv yy => ?_) (fun H13 pv => ?_)
      · obtain ⟨rfl, hy⟩ := yy
        have hk6 : k < roots.length := by have : k < (roots.map V.int).length := hk; rwa [List.length_map] at this
        obtain rfl := at_ints hy
        walk_at "gos"
        refine ⟨rfl, ?_⟩
        walk_at "gos"
        exact lc_yes hD3 pv (Same.refl _) rfl rfl (by omega)
      obtain ⟨e13, h13⟩ := pv
      rw [given_all, List.length_map, range_map roots fun x => V.int x] at h13
      walk_at "gos"
      refine u_setLs (sqL h13) (by omega) fun p14 H14 c14 hc14 e14 h14 => ?_
      walk_at "gos"
      refine u_sortedSet h14 (by omega) fun S l15 H15 _ e15 h15 hS1 hS2 hS3 => ?_
      walk_at "gos"
      have hSm : ∀ k, k ∈ S ↔ 0 ≤ k ∧ fval c ps k = 0 := fun k => by rw [hS2, hroot]
      have hnzv := fval_some ok.nz hup1
      have hF15 := hF11.d (e12.trans (e13.trans (e14.trans e15))).d
      have hlr15 := (e12.trans (e13.trans (e14.trans e15))) _ _ hlr11
      have hp15 := hp11.same (e12.trans (e13.trans (e14.trans e15)))
      clear hF11 hlr11 hp11 ht0 hl0 hps0 e12 h12 e13 h13 e14 h14 e15
      have bvu : Bd 310 (value * under) := hbv.mul hcu
      refine g_I (cmul_small hbv hcu) ?_
      walk_at "gos"
      (walk_at "new"; rename_i l16 _ H16 e16 h16; walk_at "gos")
      refine ⟨lr, l16, row, [value * under], rfl, e16 _ _ hlr15, h16, by omega, by simp, fun l17 zs H17 e17 hzs hzl hzk => ?_⟩
      walk_at "gos"
      have hzl2 : zs.length = max row.length 1 := hzl
      have hzb : ∀ k, Bd 901 (at0 zs k) := fun k => by
        rw [hzk]
        refine (hnb k).add ?_
        match k with
        | 0 => exact bvu.mono (by decide)
        | k + 1 => exact bd0
      have hzv : ∀ k, ev (at0 zs) zs.length k - value * under = fval c ps k := fun k => by
        have e1 : ev (at0 zs) zs.length k = ev (fun k => at0 row k + at0 [value * under] k) zs.length k := ev_congr _ fun k _ => hzk k
        have e2 : ev (at0 row) zs.length k = ev (at0 row) row.length k := by
          obtain ⟨d, hd⟩ : ∃ d, zs.length = row.length + d := ⟨zs.length - row.length, by omega⟩
          rw [hd]; exact ev_big (fun k hk => at0_out hk) d
        have e3 : ev (at0 [value * under]) zs.length k = value * under := by
          obtain ⟨d, hd⟩ : ∃ d, zs.length = 1 + d := ⟨zs.length - 1, by omega⟩
          rw [hd, show ev (at0 [value * under]) (1 + d) k = ev (at0 [value * under]) 1 k from ev_big (n := 1) (fun k hk => at0_out hk) d]
          show 0 + value * under * k ^ 0 = _
          rw [Int.pow_zero]; omega
        rw [e1, ev_add, e2, e3, hev]
        omega
      refine u_piece (.inl (sqL hzs)) (by omega) hu1 (hcu.mono (by decide)) fun x18' H18 rs18 u18 _ e18 hP18 hFm18 => ?_
      walk_at "gos"
      have hPB18 : PB H18 x18' C_Piece (at0 zs) under zs.length 901 100 := .of hP18 hFm18 ⟨fun k hk => at0_out hk, hzb, hcu, hu0⟩
      have e1518 := e16.trans (e17.trans e18)
      have hlr18 := e1518 _ _ hlr15
      have hp18 := hp15.same e1518
      have hw18 := e1518 _ _ h15
      clear hF15 hlr15 hp15 h15 e16 h16 e17 hzs e18 e1518
      refine ⟨x18', _, rfl, .inl ⟨at0 zs, under, value, zs.length, 901, 100, rfl, hPB18, by omega, by decide, by decide, hbv.mono (by decide), fun r19 H19 e19 hall => ?_⟩⟩
      obtain ⟨l19, rfl, fr19, h19⟩ := all_list hall hS1 (fun k => by rw [hSm, ← hzv]) (by obtain ⟨k, hk⟩ := hnzv; exact ⟨k, by rw [hzv]; exact hk⟩)
      walk_at "gos"
      refine u_neL (sqL h19) (sqL (e19 _ _ hw18)) ?_
      rw [decide_eq_true rfl]
      walk_at "gos"
      refine u_isi (.ty "list") (.base (.lst h19)) (kit_ty (b := "list") (r := true) (by decide +kernel)) ?_
      walk_at "gos"
      refine ⟨.inl ⟨rfl, _, sqL h19⟩, ?_⟩
      walk_at "gos"
      refine u_app h19 (by rw [List.length_map]; omega) ?_
      have e20 : Same H18 (upd H19 l19 (.lst (S.map V.int ++ [.int 5]))) := e19.mut fr19
      generalize upd H19 l19 (.lst (S.map V.int ++ [.int 5])) = H20 at e20 ⊢
      have hPB20 := hPB18.same e20
      have hlr20 := e20 _ _ hlr18
      have hp20 := hp18.same e20
      have hw20 := e20 _ _ hw18
      clear hPB18 hP18 hlr18 hp18 hw18 e19 h19 fr19 hall e20
      walk_at "gos"
      refine ⟨x18', _, rfl, .inl ⟨at0 zs, under, value, zs.length, 901, 100, rfl, hPB20, by omega, by decide, by decide, hbv.mono (by decide), fun r21 H21 e21 hall => ?_⟩⟩
      obtain ⟨l21, rfl, _, h21⟩ := all_list hall hS1 (fun k => by rw [hSm, ← hzv]) (by obtain ⟨k, hk⟩ := hnzv; exact ⟨k, by rw [hzv]; exact hk⟩)
      walk_at "gos"
      refine u_neL (sqL h21) (sqL (e21 _ _ hw20)) ?_
      rw [decide_eq_true rfl]
      walk_at "gos"
      refine u_piece (.inl (sqL (e21 _ _ hlr20))) (by omega) hu1 (hcu.mono (by decide)) fun x22' H22 rs22 u22 _ e22 hP22 hFm22 => ?_
      walk_at "gos"
      have hPB22 : PB H22 x22' C_Piece (at0 row) under row.length 900 100 := .of hP22 hFm22 ⟨fun k hk => at0_out hk, hnb, hcu, hu0⟩
      refine ⟨x22', _, rfl, .inl ⟨at0 row, under, 0, row.length, 900, 100, rfl, hPB22, by omega, by decide, by decide, by unfold Bd; decide, fun r23 H23 e23 hall2 => ?_⟩⟩
      obtain ⟨l23, rfl, _, h23⟩ := all_list hall2 hS1 (fun k => by rw [hSm, hev, Int.zero_mul, Int.sub_zero]) (by obtain ⟨k, hk⟩ := hnzv; exact ⟨k, by rw [hev, Int.zero_mul, Int.sub_zero]; exact hk⟩)
      walk_at "gos"
      refine u_neL (sqL h23) (sqL ((e21.trans (e22.trans e23)) _ _ hw20)) ?_
      rw [decide_eq_true rfl]
      walk_at "gos"
      have e2023 := e21.trans (e22.trans e23)
      have hPB23 := hPB20.same e2023
      have hp23 := hp20.same e2023
      clear hPB20 hlr20 hp20 hw20 e21 h21 hall e22 hP22 hPB22 e23 h23 hall2 e2023
      (walk_at "new"; rename_i l24 _ H24 e24 h24; walk_at "gos")
      refine ⟨l24, rfl, u_pieceB (ns := [value]) (v := 1) (n := 1) (b := 210) (c := 1) (.inl (sqL h24)) ⟨fun k hk => at0_out hk, fun k => ?_, by unfold Bd; decide, by decide⟩ rfl fun x25' H25 _ e25 hPB25 => ?_⟩
      · match k with
        | 0 => exact hbv
        | k + 1 => exact bd0
      walk_at "gos"
      have hcv : ∀ k, ev (at0 [value]) 1 k = value := fun k => by
        show 0 + value * k ^ 0 = value
        rw [Int.pow_zero]; omega
      refine ⟨x25', _, rfl, .inl ⟨at0 [value], 1, value, 1, 210, 1, rfl, hPB25, by decide, by decide, by decide, hbv.mono (by decide), fun r26 H26 e26 hall => ?_⟩⟩
      obtain rfl := all_non hall fun k => by rw [hcv]; omega
      walk_at "gos"
      rw [if_neg (by simp)]
      walk_at "gos"
      have bv1 : Bd 300 (value + 1) := (hbv.add (Bd.mono (n := 1) (m := 210) (i := 1) (by unfold Bd; decide) (by decide))).mono (by decide)
      refine ⟨x25', _, rfl, .inl ⟨at0 [value], 1, value + 1, 1, 210, 1, rfl, hPB25.same e26, by decide, by decide, by decide, bv1, fun r27 H27 e27 hall2 => ?_⟩⟩
      obtain ⟨l27, rfl, _, h27⟩ := all_list (S := []) hall2 List.Pairwise.nil (fun k => by rw [hcv]; constructor; (intro z; cases z); (rintro ⟨_, z⟩; omega)) ⟨0, by rw [hcv]; omega⟩
      walk_at "gos"
      (walk_at "new"; rename_i l28 _ H28 e28 h28; walk_at "gos")
      refine u_neL (ns := []) (ms := []) (sqL (e28 _ _ h27)) (sqL h28) ?_
      rw [decide_eq_true rfl]
      walk_at "gou"
      have hPB28 := hPB25.same (e26.trans (e27.trans e28))
      have hp28 := hp23.same (e24.trans (e25.trans (e26.trans (e27.trans e28))))
      clear hPB25 hp23 hPB23 e24 h24 e25 e26 hall e27 hall2 h27 h28
      ((with_reducible change tSeq _ _ _ _ _); refine L2.g_cutS (fun σ' H' => Same H28 H' ∧ σ' = [some (.ref a), some (.ref p), some (.int (0 + (i : Int))), some (.ref t), some (.int value), some (.ref lr), some (.int under), some (.ref l7), x8, x9, x10, some (.ref D), some (lastA T), x13, x14, some (.ref D2), x16, some (.ref l15), some (.ref x18'), some (.ref l19), some (.ref x25'), x21, x22, x23, x24]) (fun nx hnx => ?_) (fun σ' H29 hR => ?_))
      · walk_at "gos"
        refine ⟨x25', at0 [value], 1, 1, 210, 1, rfl, hPB28, by decide, by decide, by decide, fun T3 H29 e29 hW3 hA3 => ?_⟩
        have hT3 : T3 = [(0, none, value.sign)] := hW3.uniq ⟨rfl, rfl, rfl, fun n _ => by show (ev (at0 [value]) 1 n).sign = value.sign; rw [hcv]⟩ hA3 trivial
        subst hT3
        walk_at "gos"
        by_cases c1 : 0 < value
        · rw [if_pos (by rw [decide_eq_true_iff]; exact c1)]
          rw [show lastA [(0, none, value.sign)] = .non by rw [Int.sign_eq_one_of_pos c1]; rfl]
          walk_at "gos"
          refine ⟨rfl, ?_⟩
          rw [decide_eq_true rfl]
          walk_at "gos"
          exact hnx _ _ ⟨e29, rfl⟩
        · rw [if_neg (by rw [decide_eq_true_iff]; exact c1)]
          have hs1 : value.sign ≠ 1 := fun z => c1 (Int.sign_eq_one_iff_pos.mp z)
          rw [show lastA [(0, none, value.sign)] = .int (-1) by unfold lastA; rw [List.foldl_cons, List.foldl_nil, if_neg hs1]]
          walk_at "gos"
          rw [decide_eq_true rfl]
          walk_at "gos"
          exact hnx _ _ ⟨e29, rfl⟩
      obtain ⟨e29, rfl⟩ := hR
      have hp29 := hp28.same e29
      clear hPB28 hp28 e29 e28
      walk_at "gos"
      refine ⟨p, pc, 4, _, rfl, hp29, by omega, by decide, by decide, fun t30 lsm some_ lower H30 e30 hp30 ht30 hls hnr hbr hlo1 hlob => ?_⟩
      walk_at "gos"
      have hlo0 : 0 < lower := by omega
      have bso : ∀ k, Bd 210 (at0 some_ k) := bd_at8 hbr
      refine u_rng (by omega) (by omega) fun D4 hD4 => ?_
      refine lc_it walk_range (PvL H30 D4 (fun k => decide (hv some_ (k : Nat) = value * lower)) (fun k => V.int (k : Nat))) (lc_start hD4) (fun _ _ _ _ => trivial) (fun k y H31 H32 hk pv yy => ?_) (fun H31 pv => ?_)
      · obtain ⟨rfl, rfl⟩ := yy
        have hk30 : k < 30 := hk
        walk_at "gos"
        refine ⟨rfl, ?_⟩
        walk_at "gos"
        refine ⟨lsm, some_, (0 + (k : Int)), rfl, .inl (sqL (pv.1 _ _ hls)), ⟨by omega, fun k => (bso k).mono (by decide), Bd.mono (n := 5) (by unfold Bd; omega) (by decide)⟩, fun H33 e33 => ?_⟩
        walk_at "gos"
        refine g_I (cmul_small hbv hlob) ?_
        walk_at "gos"
        by_cases c1 : hv some_ (0 + (k : Int)) = value * lower
        · rw [if_pos (by rw [decide_eq_true_iff]; exact c1)]
          walk_at "gos"
          exact lc_yes hD4 pv e33 (by rw [decide_eq_true_iff]; rw [Int.zero_add] at c1; exact c1) (by rw [Int.zero_add]) (by omega)
        · rw [if_neg (by rw [decide_eq_true_iff]; exact c1)]
          exact lc_no pv e33 (by rw [decide_eq_false_iff_not]; rw [Int.zero_add] at c1; exact c1)
      obtain ⟨e31, h31⟩ := pv
      have hnear : given (30 : Int).toNat (fun k => decide (hv some_ (k : Nat) = value * lower)) (fun k => V.int (k : Nat)) = (((List.range 30).filter fun (k : Nat) => decide (hv some_ (k : Nat) = value * lower)).map fun (k : Nat) => (k : Int)).map V.int := by
        unfold given
        rw [List.map_map]
        rfl
      rw [hnear] at h31
      obtain ⟨near, hnr2⟩ : ∃ near, near = ((List.range 30).filter fun (k : Nat) => decide (hv some_ (k : Nat) = value * lower)).map fun (k : Nat) => (k : Int) := ⟨_, rfl⟩
      rw [← hnr2] at h31
      walk_at "gos"
      refine u_piece (.inl (sqL (e31 _ _ hls))) (by omega) hlo1 (hlob.mono (by decide)) fun x32' H32 rs32 u32 _ e32 hP32 hFm32 => ?_
      walk_at "gos"
      have hPB32 : PB H32 x32' C_Piece (at0 some_) lower some_.length 210 100 := .of hP32 hFm32 ⟨fun k hk => at0_out hk, bso, hlob, hlo0⟩
      refine ⟨x32', _, rfl, .inl ⟨at0 some_, lower, value, some_.length, 210, 100, rfl, hPB32, by omega, by decide, by decide, hbv.mono (by decide), fun r33 H33 e33 hall => ?_⟩⟩
      have hφ : ∀ k, ev (at0 some_) some_.length k - value * lower = 0 ↔ hv some_ k = value * lower := fun k => by rw [← hv_ev]; omega
      have hls33 := (e31.trans (e32.trans e33)) _ _ hls
      have h33 := (e32.trans e33) _ _ h31
      have hp33 := hp30.same (e31.trans (e32.trans e33))
      walk_at "gou"
      ((with_reducible change tSeq _ _ _ _ _); refine L2.g_cutS (fun σ' H' => Same H33 H' ∧ ∃ y19 y21 y22 y23 y24, σ' = [some (.ref a), some (.ref p), some (.int (0 + (i : Int))), some (.ref t), some (.int value), some (.ref lr), some (.int under), some (.ref l7), x8, x9, x10, some (.ref D), some (lastA T), x13, x14, some (.ref D2), x16, some (.ref l15), some (.ref x18'), y19, some (.ref x25'), y21, y22, y23, y24]) (fun nx hnx => ?_) (fun σ' H34 hR => ?_))
      · have near1 : near.Pairwise (· < ·) := by
          rw [hnr2, List.pairwise_map]
          exact (List.pairwise_lt_range.sublist List.filter_sublist).imp fun h => by omega
        have near2 : ∀ k, k ∈ near ↔ 0 ≤ k ∧ k < 30 ∧ hv some_ k = value * lower := fun k => by
          rw [hnr2, List.mem_map]
          constructor
          · rintro ⟨m, hm, rfl⟩
            obtain ⟨g1, g2⟩ := List.mem_filter.mp hm
            have := List.mem_range.mp g1
            exact ⟨by omega, by omega, of_decide_eq_true g2⟩
          · rintro ⟨g1, g2, g3⟩
            refine ⟨k.toNat, List.mem_filter.mpr ⟨List.mem_range.mpr (by omega), decide_eq_true ?_⟩, by omega⟩
            rw [show ((k.toNat : Nat) : Int) = k by omega]
            exact g3
        rcases hall with ⟨rfl, hall0⟩ | ⟨l33, zs33, rfl, _, hz0, hz1, hz2, hz3⟩
        · walk_at "gos"
          rw [if_pos (by simp)]
          walk_at "gos"
          refine g_lrg1x ?_
          walk_at "gos"
          refine ⟨RgOk.of_le (by decide) (by decide) (by decide) (by decide), fun l34 hl34 => ?_⟩
          have e34 := same_new (o := .lst (rgV 0 30)) hl34
          have h34 : (upd H33 l34 (.lst (rgV 0 30))) l34 = some (.lst (rgV 0 30)) := upd_same
          generalize upd H33 l34 (.lst (rgV 0 30)) = H34 at e34 h34 ⊢
          have hrg : rgV 0 30 = ((List.range 30).map fun (k : Nat) => (k : Int)).map V.int := by
            unfold rgV
            rw [List.map_map]
            exact List.map_congr_left fun k _ => by show V.int (0 + (k : Int)) = V.int k; rw [Int.zero_add]
          have hall30 : near = (List.range 30).map fun (k : Nat) => (k : Int) := by
            rw [hnr2, List.filter_eq_self.mpr fun (k : Nat) _ => decide_eq_true ((hφ (k : Int)).mp (hall0 (k : Int)))]
          rw [hrg] at h34
          refine u_neL (sqL (e34 _ _ h33)) (sqL h34) ?_
          rw [decide_eq_true hall30]
          walk_at "gos"
          exact hnx _ _ ⟨e34, _, _, _, _, _, rfl⟩
        · walk_at "gos"
          rw [if_neg (by simp)]
          walk_at "gos"
          refine u_it (sqL hz0) fun D5 hD5 => ?_
          refine lc_it walk_list (fun m H' => Same H33 H' ∧ H' D5 = some (.lst (((zs33.take m).filter fun x => decide (x < 30)).map V.int))) ?_ (fun m _ H' pv => sqL (pv.1 _ _ hz0)) (fun m y H34 H35 hm pv yy => ?_) (fun H34 pv => ?_)
          · exact ⟨same_new hD5, upd_same⟩
          · obtain ⟨e34, h34⟩ := pv
            obtain ⟨rfl, hy⟩ := yy
            have hm' : m < zs33.length := by have : m < (zs33.map V.int).length := hm; rwa [List.length_map] at this
            have hg : zs33[m]? = some (at0 zs33 m) := by rw [at0_in hm']; exact List.getElem?_eq_getElem hm'
            obtain rfl := at_ints hy
            have hsub : ((zs33.take m).filter fun x => decide (x < 30)).length ≤ 30 := by
              have h1 : ((zs33.take m).filter fun x => decide (x < 30)).Pairwise (· < ·) := (hz1.sublist (List.take_sublist ..)).sublist List.filter_sublist
              exact few_below h1 fun x hx => by
                obtain ⟨g1, g2⟩ := List.mem_filter.mp hx
                exact ⟨((hz2 x).mp (List.mem_of_mem_take g1)).1, of_decide_eq_true g2⟩
            rw [take_snoc hg, List.filter_append, List.filter_cons, List.filter_nil]
            walk_at "gos"
            refine ⟨by trivial, ?_⟩
            walk_at "gos"
            by_cases c1 : at0 zs33 m < 30
            · rw [if_pos (by rw [decide_eq_true_iff]; exact c1), if_pos (decide_eq_true c1)]
              walk_at "gos"
              refine ⟨_, h34, by rw [sizeLine_eq, List.length_map]; omega, e34.mut hD5, ?_⟩
              rw [upd_same, List.map_append]
              rfl
            · rw [if_neg (by rw [decide_eq_true_iff]; exact c1), if_neg (by rw [decide_eq_true_iff]; exact c1), List.append_nil]
              exact ⟨e34, h34⟩
          obtain ⟨e34, h34⟩ := pv
          rw [List.take_of_length_le (by rw [List.length_map]; omega)] at h34
          have heq : (zs33.filter fun x => decide (x < 30)) = near := sorted_ext (hz1.sublist List.filter_sublist) near1 fun k => by
            rw [List.mem_filter, near2, hz2, decide_eq_true_iff]
            dsimp only
            rw [hφ]
            constructor
            · rintro ⟨⟨a1, a2⟩, a3⟩; exact ⟨a1, a3, a2⟩
            · rintro ⟨a1, a2, a3⟩; exact ⟨⟨a1, a3⟩, a2⟩
          rw [heq] at h34
          walk_at "gos"
          refine u_neL (sqL h34) (sqL (e34 _ _ h33)) ?_
          rw [decide_eq_true rfl]
          walk_at "gos"
          have hz0' := e34 _ _ hz0
          refine u_it (sqL hz0') fun D6 hD6 => ?_
          refine lc_it walk_list (fun m H' => Same H34 H' ∧ H' D6 = some (.lst [])) ?_ (fun m _ H' pv => sqL (pv.1 _ _ hz0')) (fun m y H35 H36 hm pv yy => ?_) (fun H35 pv => ?_)
          · exact ⟨same_new hD6, upd_same⟩
          · obtain ⟨e35, h35⟩ := pv
            obtain ⟨rfl, hy⟩ := yy
            have hm' : m < zs33.length := by have : m < (zs33.map V.int).length := hm; rwa [List.length_map] at this
            have hmem : at0 zs33 m ∈ zs33 := by rw [at0_in hm']; exact List.getElem_mem hm'
            obtain rfl := at_ints hy
            have hb1 := hz3 _ hmem
            have hv1 := (hφ _).mp ((hz2 _).mp hmem).2
            generalize at0 zs33 m = n at hb1 hv1 ⊢
            walk_at "gos"
            refine ⟨by trivial, ?_⟩
            walk_at "gos"
            refine ⟨lsm, some_, n, rfl, .inl (sqL ((e34.trans e35) _ _ hls33)), ⟨by omega, fun k => (bso k).mono (by decide), hb1.mono (by decide)⟩, fun H37 e37 => ?_⟩
            walk_at "gos"
            refine g_I (cmul_small hbv hlob) ?_
            walk_at "gos"
            rw [if_neg (by simp [hv1])]
            exact ⟨e35.trans e37, e37 _ _ h35⟩
          obtain ⟨e35, h35⟩ := pv
          walk_at "gos"
          (walk_at "new"; rename_i l36 _ H36 e36 h36; walk_at "gos")
          refine u_neL (ns := []) (ms := []) (sqL (e36 _ _ h35)) (sqL h36) ?_
          rw [decide_eq_true rfl]
          walk_at "gos"
          exact hnx _ _ ⟨e34.trans (e35.trans e36), _, _, _, _, _, rfl⟩
      obtain ⟨e34, y19, y21, y22, y23, y24, rfl⟩ := hR
      have hp34 := hp33.same e34
      clear hp29 e30 hp30 ht30 hls e31 h31 e32 hP32 hPB32 e33 hall hls33 h33 hp33 e34
      walk_at "gos"
      (walk_at "new"; rename_i t35 _ H35 e35 h35; walk_at "gos")
      (walk_at "new"; rename_i l36 _ H36 e36 h36; walk_at "gos")
      refine ⟨p, pc, l36, _, _, rfl, hp34.same (e35.trans e36), by omega, sqL h36, (fun z => by cases z), (by show 4 < 100000; decide), fun i2 wrong H37 hwr e37 hp37 => ?_⟩
      have hwrong : Ev.PV (fun _ => False) H37 wrong := by
        match i2, hwr with
        | 0, hv => obtain rfl := Option.some.inj hv; exact .non
        | 1, hv => obtain rfl := Option.some.inj hv; exact .bl true
        | 2, hv => obtain rfl := Option.some.inj hv; exact .str _ (by decide +kernel)
        | 3, hv => obtain rfl := Option.some.inj hv; exact .tup t35 0 (e37.tupA (e36 _ _ h35))
        | i + 4, hv => cases hv
      walk_at "gos"
      refine ⟨x18', wrong, rfl, hwrong, fun H38 e38 => ?_⟩
      walk_at "gos"
      exact ⟨(hp37.same e38).mono (by omega), _, _, _, _, _, _, _, _, _, _, _, _, _, _, _, _, _, _, _, _, _, _, _, rfl⟩
    · obtain ⟨hp, x2, x3, x4, x5, x6, x7, x8, x9, x10, x11, x12, x13, x14, x15, x16, x17, x18, x19, x20, x21, x22, x23, x24, rfl⟩ := q2
      walk_at "gos"
      exact q _
end
end Ev

end
/-! The written part's facts, put together. -/
namespace L2
open PySem PySem.Spec PyProof.Rows PySem.W PySem.SupX
/-- the __init__ of an exception: super().__init__(text), then its fields -/
structure ExS (S : Stmt) (fs : List Str) (l : List (Str × Pos × Pos × Pos × Pos)) (tx : Str) (j : Nat) (p0 p1 p2 p3 p4 p5 : Pos) (ar : Arg) : Prop where
  body : defBody S = .Expr (.Call (.Attribute (.Call (.Name "super" p0) [] [] p1) "__init__" p2) [.Constant (.str tx) j p3] [] p4) p5 :: l.map mkStore
  names : l.map (·.1) = fs
  head : ((defArgs S).posonlyargs ++ (defArgs S).args).head? = some ar
  ar : ar.arg = "self"
  kind : (defScope S).kind = .function
  co : (defScope S).isCoroutine = false
  gen : (defScope S).isGenerator = false
  nocell : (defScope S).names.all (fun x => !decide (x.2 = .cell)) = true
  loc : (("self" : Str) :: fs).all (fun y => decide ((defScope S).names.lookup y = some .local)) = true
  dbg : fs.all (fun y => !(y == ("__debug__" : Str))) = true
  sup : (defScope S).names.lookup ("super" : Str) = some .globalImplicit
  cls : (defScope S).names.lookup ("__class__" : Str) = some .free
  nd : (("self" : Str) :: fs).Nodup
  ev : ∀ (qual : Str) (fI cda cc : Addr), ∃ pl : Addr → Sem Bool, ∀ L : Addr, eval (.Call (.Attribute (.Call (.Name "super" p0) [] [] p1) "__init__" p2) [.Constant (.str tx) j p3] [] p4) (ksEnv qual (defScope S) L fI (.ref cda) cc) = (do
      let ov ← attributeBase (.Call (.Name "super" p0) [] [] p1) "__init__" (ksEnv qual (defScope S) L fI (.ref cda) cc) (eval (.Call (.Name "super" p0) [] [] p1) (ksEnv qual (defScope S) L fI (.ref cda) cc))
      standAt p2.atName
      let (f, first) ← holding [ov] (getMethod ov "__init__" (pl L))
      callWith p4 f first (backTo p4 (starEach [Expr.Constant (.str tx) j p3] (ksEnv qual (defScope S) L fI (.ref cda) cc))) [])
theorem ext_of {prog : Program} {K : Frag} {h : Heap} {mg : Str → Option Value} {x : Str} {C fI cc cda : Addr} {fs : List Str} {S : Stmt} {l : List (Str × Pos × Pos × Pos × Pos)} {tx : Str} {j : Nat} {p0 p1 p2 p3 p4 p5 : Pos} {ar : Arg}
    (KX : K.In h) (G : h.Ns mainGlobals mg) (md : SupMod prog K mg) (E : ExS S fs l tx j p0 p1 p2 p3 p4 p5 ar) {qual : Str}
    (hbind : ∀ (doc pm ct : Value) (an : Option Addr) (us : List Value), us.length = (("self" : Str) :: fs).length → bindArgs (ksFn "__init__" qual (defArgs S) (defBody S) (defScope S) .none .none doc pm an (.ref cda) ct cc) ⟨us, []⟩ = pure ((("self" : Str) :: fs).zip us))
    (n : nsIn K mainGlobals x = some (some (.ref C))) {nm q : Str} {N : Addr} {bs bm : List Value} {sn : List Str} {sub : List Value} {ab : Bool} {col : Option Bool} {dd : Option Addr} {k0 k1 k2 k3 k5 : Option Value}
    (hc : K.lookup C = some (excClassObj nm q C N bs bm true sn sub ab col dd k0 k1 k2 k3 k5 "ValueError.__new__")) (hbm : PySem.HandSPX.refsVE bm = true) (sa : findIn K (.ref C) "__setattr__" = some (some (.builtin "object.__setattr__")))
    (x1 : findIn K (.ref C) "__getattribute__" = some (some (.builtin "BaseException.__getattribute__"))) (x2 : findIn K (.ref C) "__getattr__" = some none) (x3 : subIn K (.ref C) (.type "BaseException") = some true) (x4 : hasDictIn K C = true)
    (iC : findIn K (.ref C) "__init__" = some (some (.ref fI))) (tI : typeIn K (.ref fI) = some (.type "function")) (kC : keepIn K (.ref C) = true) (tyC : typeIn K (.ref C) = some (.type "type")) (noF : ∀ f ∈ fs, findIn K (.ref C) f = some none)
    (self : mroIn K C (.ref C) = some true) (hB : subIn K (.ref C) (.type "ValueError") = some true) (sup : ks_superIn K C C "__init__" = some (some (.builtin "ValueError.__init__")))
    {oc : Value} {od : Option Addr} {osl : Array (Option Value)} {doc pm ct : Value} {an : Option Addr}
    (lI : K.lookup fI = some ⟨oc, od, .func (ksFn "__init__" qual (defArgs S) (defBody S) (defScope S) .none .none doc pm an (.ref cda) ct cc), osl⟩) (cI : codeIn K (.ref cda) qual = true)
    {cl : Value} {cld : Option Addr} {csl : Array (Option Value)} (cell : K.lookup cc = some ⟨cl, cld, .cell (some (.ref C)), csl⟩)
    {ccl : Value} {cdd : Option Addr} {vs : Array Value} {ccs : Array (Option Value)} {file : Str} {tf : Tok} (code : K.lookup cda = some ⟨ccl, cdd, .fields vs, ccs⟩) (hvs : vs[2]? = some (.str file tf)) (hfile : ((prog.main.file : Str) == file) = true) (hle : fs.length ≤ 900) :
    ExT prog K mg x C fs := by
  have hb : defBody S = _ := E.body
  refine ⟨⟨fI, cc, cda, ⟨mg_of KX G n, ⟨nm, q, N, bs, bm, sn, sub, ab, col, dd, k0, k1, k2, k3, k5, hc, hbm⟩, sa, ⟨x1, x2, x3, x4⟩, iC, tI, kC, tyC, noF, self, hB, sup, ⟨ccl, cdd, vs, ccs, file, tf, code, hvs, hfile⟩, ⟨cl, cld, csl, cell⟩⟩,
    ⟨oc, od, osl, qual, defArgs S, defScope S, doc, pm, ct, an, l, tx, j, p0, p1, p2, p3, p4, p5, ar, by rw [← hb]; exact lI, cI, E.names, E.head, E.ar, E.kind, E.co, E.gen, ?_, ?_, ?_, E.sup, E.cls, E.nd, ?_, E.ev _ _ _ _⟩⟩, md, (List.nodup_cons.mp E.nd).2, hle⟩
  · intro y hy
    have := List.all_eq_true.mp E.nocell y hy
    simpa using this
  · intro y hy
    have := List.all_eq_true.mp E.loc y hy
    simpa using this
  · intro y hy
    have := List.all_eq_true.mp E.dbg y hy
    simpa using this
  · intro us hl
    rw [← hb]
    exact hbind doc pm ct an us hl
theorem exm_of {K : Frag} {C : Addr} {cls : Value} {b : Bool} {cd : ClassData} (h1 : subIn K (.ref C) (.type "BaseException") = some true) (h2 : clsIn K C = some cd) (h3 : typeIn K (.ref C) = some (.type "type")) (h4 : subIn K cls (.ref C) = some b) : exmOne K cls (.ref C) = some b := by
  unfold exmOne
  rw [h1, if_pos (by simp)]
  show (if ((clsIn K C).isSome && typeIn K (.ref C) == some (.type "type")) = true then subIn K cls (.ref C) else none) = some b
  rw [h2, h3, if_pos (by simp), h4]
theorem kit_self {K : Frag} {C : Addr} : kitOne K (.ref C) (.ref C) = some true := by unfold kitOne; rw [if_pos (by simp)]
theorem codeHd_of {K : Frag} {h : Heap} {c P : Addr} {cd : Option Addr} {vs : Array Value} {sl : Array (Option Value)} (KX : K.In h) (l : K.lookup c = some ⟨.type "code", cd, .fields vs, sl⟩) {file : Str} {tf tg tt : Tok} {flags text : Int} {inF : Bool}
    (h1 : vs[11]? = some (.ref P)) (h2 : vs.getD 18 .none = .str file tf) (h3 : vs.getD 7 .none = .int flags tg) (h4 : vs.getD 9 .none = .bool inF) (h5 : vs.getD 10 .none = .int text tt) (hne : (c != P) = true) : CodeHd h c P :=
  ⟨_, vs, file, tf, flags, tg, inF, text, tt, KX _ _ l, rfl, rfl, h1, by rw [Array.getD_eq_getD_getElem?, h1]; rfl, h2, h3, h4, h5, by simpa using hne⟩
theorem bn_of {K : Frag} {h : Heap} {mg : Str → Option Value} (KX : K.In h) (G : h.Ns mainGlobals mg) (h1 : nsIn K mainGlobals "len" = some none) (h2 : nsIn K mainGlobals "range" = some none) (h3 : nsIn K mainGlobals "int" = some none) (h4 : nsIn K mainGlobals "bool" = some none)
    (h5 : nsIn K mainGlobals "str" = some none) (h6 : nsIn K mainGlobals "list" = some none) (h7 : nsIn K mainGlobals "tuple" = some none) (h8 : nsIn K mainGlobals "set" = some none) (h9 : nsIn K mainGlobals "abs" = some none) (h10 : nsIn K mainGlobals "min" = some none)
    (h11 : nsIn K mainGlobals "max" = some none) (h12 : nsIn K mainGlobals "sum" = some none) (h13 : nsIn K mainGlobals "any" = some none) (h14 : nsIn K mainGlobals "all" = some none) (h15 : nsIn K mainGlobals "sorted" = some none) (h16 : nsIn K mainGlobals "isinstance" = some none)
    (h17 : nsIn K mainGlobals "enumerate" = some none) (h18 : nsIn K mainGlobals "reversed" = some none) (h19 : nsIn K mainGlobals "zip" = some none) : Bn mg :=
  ⟨mg_none_of KX G h1, mg_none_of KX G h2, mg_none_of KX G h3, mg_none_of KX G h4, mg_none_of KX G h5, mg_none_of KX G h6, mg_none_of KX G h7, mg_none_of KX G h8, mg_none_of KX G h9, mg_none_of KX G h10, mg_none_of KX G h11, mg_none_of KX G h12, mg_none_of KX G h13, mg_none_of KX G h14, mg_none_of KX G h15, mg_none_of KX G h16, mg_none_of KX G h17, mg_none_of KX G h18, mg_none_of KX G h19⟩
end L2

/-! a law without code tables; its defs may raise within -/
namespace L2
open PySem PySem.Spec PyProof.Rows
theorem walk_ofKX {l : PySem.W.OpenLaw} {n k : Nat} {q : Program} {loose : List Str} {XP : (Str → Option Value) → Heap → Prop} {YP : World → Heap → Prop} {d : DefRec} {K : Params → PySem.W.Frag} {sp : PySem.W.Frag → Sp} {x : Str} {pr : Program}
    (most : l.most = some n) (line : n ≤ sizeLine) (nodef : d.params.defaults = []) (room : Room k callerA) (part : ∀ (w : World) (h : Heap), YP w h → (K w.params).In h)
    (main : ∀ (w : World) (mg : Str → Option Value) (fa : Addr) (h : Heap), (K w.params).In h → h.Ns mainGlobals mg → mg d.name = some (.ref fa) →
      ∃ fd : FuncData, (∀ (s : Shared) (u : Value), BindsTo s fd ⟨[u], []⟩ [(x, u)]) ∧ ∀ base : Heap, (K w.params).In base → base.Ns mainGlobals mg → FnOk l.prog w (K w.params) mg base (L2.CX pr w) k fa fd [x] (sp (K w.params)))
    (start : ∀ (K : PySem.W.Frag) (H : Hp) (a : Addr) (ns : List Int), ns.length ≤ n → SqL K H a (ns.map V.int) → sp K [.ref a] H (fun v _ => v = .bl true) fun _ _ _ => False) : PySem.W.WalkO q loose XP YP l.row.toRowW d [] (fun f vs => PySem.call f vs) :=
  walk_of (K := K) (CX := fun w => L2.CX pr w) (sp := fun w => sp (K w.params)) most line nodef room part main (fun w H a ns hl _ hs => start (K w.params) H a ns hl hs)
    fun w H s e s' z => by
      obtain ⟨_, _, _, _, _, _, _, _, _, _, _, _, no⟩ := z
      exact no.elim
end L2

/-! The end: the written part's facts, the law. -/
namespace Ev
open PySem PySem.Spec PyProof.Rows PySem.W L2 LamX Pl
abbrev topP : Program := PySem.Challenge.pw_everyfloor_k08_whole_last_and_all_places
theorem exs_BadRow : ∃ l tx j p0 p1 p2 p3 p4 p5 ar, ExS (inClass (topS 3) 0) ["index"] l tx j p0 p1 p2 p3 p4 p5 ar := ⟨[("index", _, _, _, _)], _, _, _, _, _, _, _, _, _, ⟨rfl, rfl, rfl, rfl, rfl, rfl, rfl, by decide +kernel, by decide +kernel, by decide +kernel, by decide +kernel, by decide +kernel, by decide +kernel, fun _ _ _ _ => ⟨_, fun _ => rfl⟩⟩⟩
theorem exs_BadUnder : ∃ l tx j p0 p1 p2 p3 p4 p5 ar, ExS (inClass (topS 4) 0) ["under"] l tx j p0 p1 p2 p3 p4 p5 ar := ⟨[("under", _, _, _, _)], _, _, _, _, _, _, _, _, _, ⟨rfl, rfl, rfl, rfl, rfl, rfl, rfl, by decide +kernel, by decide +kernel, by decide +kernel, by decide +kernel, by decide +kernel, by decide +kernel, fun _ _ _ _ => ⟨_, fun _ => rfl⟩⟩⟩
theorem exs_BadPlace : ∃ l tx j p0 p1 p2 p3 p4 p5 ar, ExS (inClass (topS 5) 0) ["n"] l tx j p0 p1 p2 p3 p4 p5 ar := ⟨[("n", _, _, _, _)], _, _, _, _, _, _, _, _, _, ⟨rfl, rfl, rfl, rfl, rfl, rfl, rfl, by decide +kernel, by decide +kernel, by decide +kernel, by decide +kernel, by decide +kernel, by decide +kernel, fun _ _ _ _ => ⟨_, fun _ => rfl⟩⟩⟩
theorem exs_BadNumber : ∃ l tx j p0 p1 p2 p3 p4 p5 ar, ExS (inClass (topS 7) 0) ["number"] l tx j p0 p1 p2 p3 p4 p5 ar := ⟨[("number", _, _, _, _)], _, _, _, _, _, _, _, _, _, ⟨rfl, rfl, rfl, rfl, rfl, rfl, rfl, by decide +kernel, by decide +kernel, by decide +kernel, by decide +kernel, by decide +kernel, by decide +kernel, fun _ _ _ _ => ⟨_, fun _ => rfl⟩⟩⟩
theorem join {w : World} {K : Frag} {h : Heap} {mg : Str → Option Value} {fa : Addr} (KX : K.In h) (G : h.Ns mainGlobals mg) (hmg : mg "law" = some (.ref fa))
    {a_is_integer : Addr} (n_is_integer : nsIn K mainGlobals "is_integer" = some (some (.ref a_is_integer)))
    {oc_is_integer kV_is_integer doc_is_integer pm_is_integer cdv_is_integer ct_is_integer : Value} {od_is_integer an_is_integer : Option Addr} {osl_is_integer : Array (Option Value)} (l_is_integer : K.lookup a_is_integer = some ⟨oc_is_integer, od_is_integer, .func (fnOf "is_integer" "is_integer" (defArgs (topS 10)) (defBody (topS 10)) (defScope (topS 10)) .none kV_is_integer doc_is_integer pm_is_integer an_is_integer cdv_is_integer ct_is_integer), osl_is_integer⟩)
     (c_is_integer : codeIn K cdv_is_integer "is_integer" = true)
     (k_is_integer : keepIn K (.ref a_is_integer) = true)
    {a_common_divisor : Addr} (n_common_divisor : nsIn K mainGlobals "common_divisor" = some (some (.ref a_common_divisor)))
    {oc_common_divisor kV_common_divisor doc_common_divisor pm_common_divisor cdv_common_divisor ct_common_divisor : Value} {od_common_divisor an_common_divisor : Option Addr} {osl_common_divisor : Array (Option Value)} (l_common_divisor : K.lookup a_common_divisor = some ⟨oc_common_divisor, od_common_divisor, .func (fnOf "common_divisor" "common_divisor" (defArgs (topS 11)) (defBody (topS 11)) (defScope (topS 11)) .none kV_common_divisor doc_common_divisor pm_common_divisor an_common_divisor cdv_common_divisor ct_common_divisor), osl_common_divisor⟩)
     (c_common_divisor : codeIn K cdv_common_divisor "common_divisor" = true)
     (k_common_divisor : keepIn K (.ref a_common_divisor) = true)
    {a_sign_of : Addr} (n_sign_of : nsIn K mainGlobals "sign_of" = some (some (.ref a_sign_of)))
    {oc_sign_of kV_sign_of doc_sign_of pm_sign_of cdv_sign_of ct_sign_of : Value} {od_sign_of an_sign_of : Option Addr} {osl_sign_of : Array (Option Value)} (l_sign_of : K.lookup a_sign_of = some ⟨oc_sign_of, od_sign_of, .func (fnOf "sign_of" "sign_of" (defArgs (topS 12)) (defBody (topS 12)) (defScope (topS 12)) .none kV_sign_of doc_sign_of pm_sign_of an_sign_of cdv_sign_of ct_sign_of), osl_sign_of⟩)
     (c_sign_of : codeIn K cdv_sign_of "sign_of" = true)
     (k_sign_of : keepIn K (.ref a_sign_of) = true)
    {a_need_integers : Addr} (n_need_integers : nsIn K mainGlobals "need_integers" = some (some (.ref a_need_integers)))
    {oc_need_integers kV_need_integers doc_need_integers pm_need_integers cdv_need_integers ct_need_integers : Value} {od_need_integers an_need_integers : Option Addr} {osl_need_integers : Array (Option Value)} (l_need_integers : K.lookup a_need_integers = some ⟨oc_need_integers, od_need_integers, .func (fnOf "need_integers" "need_integers" (defArgs (topS 15)) (defBody (topS 15)) (defScope (topS 15)) .none kV_need_integers doc_need_integers pm_need_integers an_need_integers cdv_need_integers ct_need_integers), osl_need_integers⟩)
     (c_need_integers : codeIn K cdv_need_integers "need_integers" = true)
     (k_need_integers : keepIn K (.ref a_need_integers) = true)
    {a_least_form : Addr} (n_least_form : nsIn K mainGlobals "least_form" = some (some (.ref a_least_form)))
    {oc_least_form kV_least_form doc_least_form pm_least_form cdv_least_form ct_least_form : Value} {od_least_form an_least_form : Option Addr} {osl_least_form : Array (Option Value)} (l_least_form : K.lookup a_least_form = some ⟨oc_least_form, od_least_form, .func (fnOf "least_form" "least_form" (defArgs (topS 16)) (defBody (topS 16)) (defScope (topS 16)) .none kV_least_form doc_least_form pm_least_form an_least_form cdv_least_form ct_least_form), osl_least_form⟩)
     (c_least_form : codeIn K cdv_least_form "least_form" = true)
     (k_least_form : keepIn K (.ref a_least_form) = true)
    {a_row_value : Addr} (n_row_value : nsIn K mainGlobals "row_value" = some (some (.ref a_row_value)))
    {oc_row_value kV_row_value doc_row_value pm_row_value cdv_row_value ct_row_value : Value} {od_row_value an_row_value : Option Addr} {osl_row_value : Array (Option Value)} (l_row_value : K.lookup a_row_value = some ⟨oc_row_value, od_row_value, .func (fnOf "row_value" "row_value" (defArgs (topS 17)) (defBody (topS 17)) (defScope (topS 17)) .none kV_row_value doc_row_value pm_row_value an_row_value cdv_row_value ct_row_value), osl_row_value⟩)
     (c_row_value : codeIn K cdv_row_value "row_value" = true)
     (k_row_value : keepIn K (.ref a_row_value) = true)
    {a_is_term : Addr} (n_is_term : nsIn K mainGlobals "is_term" = some (some (.ref a_is_term)))
    {oc_is_term kV_is_term doc_is_term pm_is_term cdv_is_term ct_is_term : Value} {od_is_term an_is_term : Option Addr} {osl_is_term : Array (Option Value)} (l_is_term : K.lookup a_is_term = some ⟨oc_is_term, od_is_term, .func (fnOf "is_term" "is_term" (defArgs (topS 19)) (defBody (topS 19)) (defScope (topS 19)) .none kV_is_term doc_is_term pm_is_term an_is_term cdv_is_term ct_is_term), osl_is_term⟩)
     (c_is_term : codeIn K cdv_is_term "is_term" = true)
     (k_is_term : keepIn K (.ref a_is_term) = true)
    {a_product_entry : Addr} (n_product_entry : nsIn K mainGlobals "product_entry" = some (some (.ref a_product_entry)))
    {oc_product_entry kV_product_entry doc_product_entry pm_product_entry cdv_product_entry ct_product_entry : Value} {od_product_entry an_product_entry : Option Addr} {osl_product_entry : Array (Option Value)} (l_product_entry : K.lookup a_product_entry = some ⟨oc_product_entry, od_product_entry, .func (fnOf "product_entry" "product_entry" (defArgs (topS 23)) (defBody (topS 23)) (defScope (topS 23)) .none kV_product_entry doc_product_entry pm_product_entry an_product_entry cdv_product_entry ct_product_entry), osl_product_entry⟩)
     (c_product_entry : codeIn K cdv_product_entry "product_entry" = true)
     (k_product_entry : keepIn K (.ref a_product_entry) = true)
    {a_as_piece : Addr} (n_as_piece : nsIn K mainGlobals "as_piece" = some (some (.ref a_as_piece)))
    {oc_as_piece kV_as_piece doc_as_piece pm_as_piece cdv_as_piece ct_as_piece : Value} {od_as_piece an_as_piece : Option Addr} {osl_as_piece : Array (Option Value)} (l_as_piece : K.lookup a_as_piece = some ⟨oc_as_piece, od_as_piece, .func (fnOf "as_piece" "as_piece" (defArgs (topS 20)) (defBody (topS 20)) (defScope (topS 20)) .none kV_as_piece doc_as_piece pm_as_piece an_as_piece cdv_as_piece ct_as_piece), osl_as_piece⟩)
     (c_as_piece : codeIn K cdv_as_piece "as_piece" = true)
     (k_as_piece : keepIn K (.ref a_as_piece) = true)
    {a_added : Addr} (n_added : nsIn K mainGlobals "added" = some (some (.ref a_added)))
    {oc_added kV_added doc_added pm_added cdv_added ct_added : Value} {od_added an_added : Option Addr} {osl_added : Array (Option Value)} (l_added : K.lookup a_added = some ⟨oc_added, od_added, .func (fnOf "added" "added" (defArgs (topS 21)) (defBody (topS 21)) (defScope (topS 21)) .none kV_added doc_added pm_added an_added cdv_added ct_added), osl_added⟩)
     (c_added : codeIn K cdv_added "added" = true)
     (k_added : keepIn K (.ref a_added) = true)
    {a_multiplied : Addr} (n_multiplied : nsIn K mainGlobals "multiplied" = some (some (.ref a_multiplied)))
    {oc_multiplied kV_multiplied doc_multiplied pm_multiplied cdv_multiplied ct_multiplied : Value} {od_multiplied an_multiplied : Option Addr} {osl_multiplied : Array (Option Value)} (l_multiplied : K.lookup a_multiplied = some ⟨oc_multiplied, od_multiplied, .func (fnOf "multiplied" "multiplied" (defArgs (topS 22)) (defBody (topS 22)) (defScope (topS 22)) .none kV_multiplied doc_multiplied pm_multiplied an_multiplied cdv_multiplied ct_multiplied), osl_multiplied⟩)
     (c_multiplied : codeIn K cdv_multiplied "multiplied" = true)
     (k_multiplied : keepIn K (.ref a_multiplied) = true)
    {a_difference_row : Addr} (n_difference_row : nsIn K mainGlobals "difference_row" = some (some (.ref a_difference_row)))
    {oc_difference_row kV_difference_row doc_difference_row pm_difference_row cdv_difference_row ct_difference_row : Value} {od_difference_row an_difference_row : Option Addr} {osl_difference_row : Array (Option Value)} (l_difference_row : K.lookup a_difference_row = some ⟨oc_difference_row, od_difference_row, .func (fnOf "difference_row" "difference_row" (defArgs (topS 26)) (defBody (topS 26)) (defScope (topS 26)) .none kV_difference_row doc_difference_row pm_difference_row an_difference_row cdv_difference_row ct_difference_row), osl_difference_row⟩)
     (c_difference_row : codeIn K cdv_difference_row "difference_row" = true)
     (k_difference_row : keepIn K (.ref a_difference_row) = true)
    {a_first_from : Addr} (n_first_from : nsIn K mainGlobals "first_from" = some (some (.ref a_first_from)))
    {oc_first_from kV_first_from doc_first_from pm_first_from cdv_first_from ct_first_from : Value} {od_first_from an_first_from : Option Addr} {osl_first_from : Array (Option Value)} (l_first_from : K.lookup a_first_from = some ⟨oc_first_from, od_first_from, .func (fnOf "first_from" "first_from" (defArgs (topS 27)) (defBody (topS 27)) (defScope (topS 27)) .none kV_first_from doc_first_from pm_first_from an_first_from cdv_first_from ct_first_from), osl_first_from⟩)
     (c_first_from : codeIn K cdv_first_from "first_from" = true)
     (k_first_from : keepIn K (.ref a_first_from) = true)
    {a_trend_signs : Addr} (n_trend_signs : nsIn K mainGlobals "trend_signs" = some (some (.ref a_trend_signs)))
    {oc_trend_signs kV_trend_signs doc_trend_signs pm_trend_signs cdv_trend_signs ct_trend_signs : Value} {od_trend_signs an_trend_signs : Option Addr} {osl_trend_signs : Array (Option Value)} (l_trend_signs : K.lookup a_trend_signs = some ⟨oc_trend_signs, od_trend_signs, .func (fnOf "trend_signs" "trend_signs" (defArgs (topS 28)) (defBody (topS 28)) (defScope (topS 28)) .none kV_trend_signs doc_trend_signs pm_trend_signs an_trend_signs cdv_trend_signs ct_trend_signs), osl_trend_signs⟩)
     (c_trend_signs : codeIn K cdv_trend_signs "trend_signs" = true)
     (k_trend_signs : keepIn K (.ref a_trend_signs) = true)
    {a_joined : Addr} (n_joined : nsIn K mainGlobals "joined" = some (some (.ref a_joined)))
    {oc_joined kV_joined doc_joined pm_joined cdv_joined ct_joined : Value} {od_joined an_joined : Option Addr} {osl_joined : Array (Option Value)} (l_joined : K.lookup a_joined = some ⟨oc_joined, od_joined, .func (fnOf "joined" "joined" (defArgs (topS 29)) (defBody (topS 29)) (defScope (topS 29)) .none kV_joined doc_joined pm_joined an_joined cdv_joined ct_joined), osl_joined⟩)
     (c_joined : codeIn K cdv_joined "joined" = true)
     (k_joined : keepIn K (.ref a_joined) = true)
    {a_row_signs : Addr} (n_row_signs : nsIn K mainGlobals "row_signs" = some (some (.ref a_row_signs)))
    {oc_row_signs kV_row_signs doc_row_signs pm_row_signs cdv_row_signs ct_row_signs : Value} {od_row_signs an_row_signs : Option Addr} {osl_row_signs : Array (Option Value)} (l_row_signs : K.lookup a_row_signs = some ⟨oc_row_signs, od_row_signs, .func (fnOf "row_signs" "row_signs" (defArgs (topS 30)) (defBody (topS 30)) (defScope (topS 30)) .none kV_row_signs doc_row_signs pm_row_signs an_row_signs cdv_row_signs ct_row_signs), osl_row_signs⟩)
     (c_row_signs : codeIn K cdv_row_signs "row_signs" = true)
     (k_row_signs : keepIn K (.ref a_row_signs) = true)
    {a_signs_of : Addr} (n_signs_of : nsIn K mainGlobals "signs_of" = some (some (.ref a_signs_of)))
    {oc_signs_of kV_signs_of doc_signs_of pm_signs_of cdv_signs_of ct_signs_of dV_signs_of : Value} {od_signs_of an_signs_of : Option Addr} {osl_signs_of : Array (Option Value)} (l_signs_of : K.lookup a_signs_of = some ⟨oc_signs_of, od_signs_of, .func (fnOf "signs_of" "signs_of" (defArgs (topS 31)) (defBody (topS 31)) (defScope (topS 31)) dV_signs_of kV_signs_of doc_signs_of pm_signs_of an_signs_of cdv_signs_of ct_signs_of), osl_signs_of⟩)
     (c_signs_of : codeIn K cdv_signs_of "signs_of" = true)
     (k_signs_of : keepIn K (.ref a_signs_of) = true)
    {a_last_above : Addr} (n_last_above : nsIn K mainGlobals "last_above" = some (some (.ref a_last_above)))
    {oc_last_above kV_last_above doc_last_above pm_last_above cdv_last_above ct_last_above : Value} {od_last_above an_last_above : Option Addr} {osl_last_above : Array (Option Value)} (l_last_above : K.lookup a_last_above = some ⟨oc_last_above, od_last_above, .func (fnOf "last_above" "last_above" (defArgs (topS 32)) (defBody (topS 32)) (defScope (topS 32)) .none kV_last_above doc_last_above pm_last_above an_last_above cdv_last_above ct_last_above), osl_last_above⟩)
     (c_last_above : codeIn K cdv_last_above "last_above" = true)
     (k_last_above : keepIn K (.ref a_last_above) = true)
    {a_all_with : Addr} (n_all_with : nsIn K mainGlobals "all_with" = some (some (.ref a_all_with)))
    {oc_all_with kV_all_with doc_all_with pm_all_with cdv_all_with ct_all_with : Value} {od_all_with an_all_with : Option Addr} {osl_all_with : Array (Option Value)} (l_all_with : K.lookup a_all_with = some ⟨oc_all_with, od_all_with, .func (fnOf "all_with" "all_with" (defArgs (topS 33)) (defBody (topS 33)) (defScope (topS 33)) .none kV_all_with doc_all_with pm_all_with an_all_with cdv_all_with ct_all_with), osl_all_with⟩)
     (c_all_with : codeIn K cdv_all_with "all_with" = true)
     (k_all_with : keepIn K (.ref a_all_with) = true)
    {a__law_pen : Addr} (n__law_pen : nsIn K mainGlobals "_law_pen" = some (some (.ref a__law_pen)))
    {oc__law_pen kV__law_pen doc__law_pen pm__law_pen cdv__law_pen ct__law_pen : Value} {od__law_pen an__law_pen : Option Addr} {osl__law_pen : Array (Option Value)} (l__law_pen : K.lookup a__law_pen = some ⟨oc__law_pen, od__law_pen, .func (fnOf "_law_pen" "_law_pen" (defArgs (topS 35)) (defBody (topS 35)) (defScope (topS 35)) .none kV__law_pen doc__law_pen pm__law_pen an__law_pen cdv__law_pen ct__law_pen), osl__law_pen⟩)
     (c__law_pen : codeIn K cdv__law_pen "_law_pen" = true)
     (k__law_pen : keepIn K (.ref a__law_pen) = true)
    {a__law_draw : Addr} (n__law_draw : nsIn K mainGlobals "_law_draw" = some (some (.ref a__law_draw)))
    {oc__law_draw kV__law_draw doc__law_draw pm__law_draw cdv__law_draw ct__law_draw : Value} {od__law_draw an__law_draw : Option Addr} {osl__law_draw : Array (Option Value)} (l__law_draw : K.lookup a__law_draw = some ⟨oc__law_draw, od__law_draw, .func (fnOf "_law_draw" "_law_draw" (defArgs (topS 36)) (defBody (topS 36)) (defScope (topS 36)) .none kV__law_draw doc__law_draw pm__law_draw an__law_draw cdv__law_draw ct__law_draw), osl__law_draw⟩)
     (c__law_draw : codeIn K cdv__law_draw "_law_draw" = true)
     (k__law_draw : keepIn K (.ref a__law_draw) = true)
    {a__law_pick : Addr} (n__law_pick : nsIn K mainGlobals "_law_pick" = some (some (.ref a__law_pick)))
    {oc__law_pick kV__law_pick doc__law_pick pm__law_pick cdv__law_pick ct__law_pick : Value} {od__law_pick an__law_pick : Option Addr} {osl__law_pick : Array (Option Value)} (l__law_pick : K.lookup a__law_pick = some ⟨oc__law_pick, od__law_pick, .func (fnOf "_law_pick" "_law_pick" (defArgs (topS 37)) (defBody (topS 37)) (defScope (topS 37)) .none kV__law_pick doc__law_pick pm__law_pick an__law_pick cdv__law_pick ct__law_pick), osl__law_pick⟩)
     (c__law_pick : codeIn K cdv__law_pick "_law_pick" = true)
     (k__law_pick : keepIn K (.ref a__law_pick) = true)
    {a__law_entry : Addr} (n__law_entry : nsIn K mainGlobals "_law_entry" = some (some (.ref a__law_entry)))
    {oc__law_entry kV__law_entry doc__law_entry pm__law_entry cdv__law_entry ct__law_entry : Value} {od__law_entry an__law_entry : Option Addr} {osl__law_entry : Array (Option Value)} (l__law_entry : K.lookup a__law_entry = some ⟨oc__law_entry, od__law_entry, .func (fnOf "_law_entry" "_law_entry" (defArgs (topS 38)) (defBody (topS 38)) (defScope (topS 38)) .none kV__law_entry doc__law_entry pm__law_entry an__law_entry cdv__law_entry ct__law_entry), osl__law_entry⟩)
     (c__law_entry : codeIn K cdv__law_entry "_law_entry" = true)
     (k__law_entry : keepIn K (.ref a__law_entry) = true)
    {a__law_fraction : Addr} (n__law_fraction : nsIn K mainGlobals "_law_fraction" = some (some (.ref a__law_fraction)))
    {oc__law_fraction kV__law_fraction doc__law_fraction pm__law_fraction cdv__law_fraction ct__law_fraction : Value} {od__law_fraction an__law_fraction : Option Addr} {osl__law_fraction : Array (Option Value)} (l__law_fraction : K.lookup a__law_fraction = some ⟨oc__law_fraction, od__law_fraction, .func (fnOf "_law_fraction" "_law_fraction" (defArgs (topS 39)) (defBody (topS 39)) (defScope (topS 39)) .none kV__law_fraction doc__law_fraction pm__law_fraction an__law_fraction cdv__law_fraction ct__law_fraction), osl__law_fraction⟩)
     (c__law_fraction : codeIn K cdv__law_fraction "_law_fraction" = true)
     (k__law_fraction : keepIn K (.ref a__law_fraction) = true)
    {a__law_upper : Addr} (n__law_upper : nsIn K mainGlobals "_law_upper" = some (some (.ref a__law_upper)))
    {oc__law_upper kV__law_upper doc__law_upper pm__law_upper cdv__law_upper ct__law_upper : Value} {od__law_upper an__law_upper : Option Addr} {osl__law_upper : Array (Option Value)} (l__law_upper : K.lookup a__law_upper = some ⟨oc__law_upper, od__law_upper, .func (fnOf "_law_upper" "_law_upper" (defArgs (topS 40)) (defBody (topS 40)) (defScope (topS 40)) .none kV__law_upper doc__law_upper pm__law_upper an__law_upper cdv__law_upper ct__law_upper), osl__law_upper⟩)
     (c__law_upper : codeIn K cdv__law_upper "_law_upper" = true)
     (k__law_upper : keepIn K (.ref a__law_upper) = true)
    {a__law_times : Addr} (n__law_times : nsIn K mainGlobals "_law_times" = some (some (.ref a__law_times)))
    {oc__law_times kV__law_times doc__law_times pm__law_times cdv__law_times ct__law_times : Value} {od__law_times an__law_times : Option Addr} {osl__law_times : Array (Option Value)} (l__law_times : K.lookup a__law_times = some ⟨oc__law_times, od__law_times, .func (fnOf "_law_times" "_law_times" (defArgs (topS 41)) (defBody (topS 41)) (defScope (topS 41)) .none kV__law_times doc__law_times pm__law_times an__law_times cdv__law_times ct__law_times), osl__law_times⟩)
     (c__law_times : codeIn K cdv__law_times "_law_times" = true)
     (k__law_times : keepIn K (.ref a__law_times) = true)
    {a__law_plus : Addr} (n__law_plus : nsIn K mainGlobals "_law_plus" = some (some (.ref a__law_plus)))
    {oc__law_plus kV__law_plus doc__law_plus pm__law_plus cdv__law_plus ct__law_plus : Value} {od__law_plus an__law_plus : Option Addr} {osl__law_plus : Array (Option Value)} (l__law_plus : K.lookup a__law_plus = some ⟨oc__law_plus, od__law_plus, .func (fnOf "_law_plus" "_law_plus" (defArgs (topS 42)) (defBody (topS 42)) (defScope (topS 42)) .none kV__law_plus doc__law_plus pm__law_plus an__law_plus cdv__law_plus ct__law_plus), osl__law_plus⟩)
     (c__law_plus : codeIn K cdv__law_plus "_law_plus" = true)
     (k__law_plus : keepIn K (.ref a__law_plus) = true)
    {a__law_factors : Addr} (n__law_factors : nsIn K mainGlobals "_law_factors" = some (some (.ref a__law_factors)))
    {oc__law_factors kV__law_factors doc__law_factors pm__law_factors cdv__law_factors ct__law_factors : Value} {od__law_factors an__law_factors : Option Addr} {osl__law_factors : Array (Option Value)} (l__law_factors : K.lookup a__law_factors = some ⟨oc__law_factors, od__law_factors, .func (fnOf "_law_factors" "_law_factors" (defArgs (topS 43)) (defBody (topS 43)) (defScope (topS 43)) .none kV__law_factors doc__law_factors pm__law_factors an__law_factors cdv__law_factors ct__law_factors), osl__law_factors⟩)
     (c__law_factors : codeIn K cdv__law_factors "_law_factors" = true)
     (k__law_factors : keepIn K (.ref a__law_factors) = true)
    {a__law_factor_row : Addr} (n__law_factor_row : nsIn K mainGlobals "_law_factor_row" = some (some (.ref a__law_factor_row)))
    {oc__law_factor_row kV__law_factor_row doc__law_factor_row pm__law_factor_row cdv__law_factor_row ct__law_factor_row : Value} {od__law_factor_row an__law_factor_row : Option Addr} {osl__law_factor_row : Array (Option Value)} (l__law_factor_row : K.lookup a__law_factor_row = some ⟨oc__law_factor_row, od__law_factor_row, .func (fnOf "_law_factor_row" "_law_factor_row" (defArgs (topS 44)) (defBody (topS 44)) (defScope (topS 44)) .none kV__law_factor_row doc__law_factor_row pm__law_factor_row an__law_factor_row cdv__law_factor_row ct__law_factor_row), osl__law_factor_row⟩)
     (c__law_factor_row : codeIn K cdv__law_factor_row "_law_factor_row" = true)
     (k__law_factor_row : keepIn K (.ref a__law_factor_row) = true)
    {a__law_sign : Addr} (n__law_sign : nsIn K mainGlobals "_law_sign" = some (some (.ref a__law_sign)))
    {oc__law_sign kV__law_sign doc__law_sign pm__law_sign cdv__law_sign ct__law_sign : Value} {od__law_sign an__law_sign : Option Addr} {osl__law_sign : Array (Option Value)} (l__law_sign : K.lookup a__law_sign = some ⟨oc__law_sign, od__law_sign, .func (fnOf "_law_sign" "_law_sign" (defArgs (topS 45)) (defBody (topS 45)) (defScope (topS 45)) .none kV__law_sign doc__law_sign pm__law_sign an__law_sign cdv__law_sign ct__law_sign), osl__law_sign⟩)
     (c__law_sign : codeIn K cdv__law_sign "_law_sign" = true)
     (k__law_sign : keepIn K (.ref a__law_sign) = true)
    {a__law_factor_sign : Addr} (n__law_factor_sign : nsIn K mainGlobals "_law_factor_sign" = some (some (.ref a__law_factor_sign)))
    {oc__law_factor_sign kV__law_factor_sign doc__law_factor_sign pm__law_factor_sign cdv__law_factor_sign ct__law_factor_sign : Value} {od__law_factor_sign an__law_factor_sign : Option Addr} {osl__law_factor_sign : Array (Option Value)} (l__law_factor_sign : K.lookup a__law_factor_sign = some ⟨oc__law_factor_sign, od__law_factor_sign, .func (fnOf "_law_factor_sign" "_law_factor_sign" (defArgs (topS 46)) (defBody (topS 46)) (defScope (topS 46)) .none kV__law_factor_sign doc__law_factor_sign pm__law_factor_sign an__law_factor_sign cdv__law_factor_sign ct__law_factor_sign), osl__law_factor_sign⟩)
     (c__law_factor_sign : codeIn K cdv__law_factor_sign "_law_factor_sign" = true)
     (k__law_factor_sign : keepIn K (.ref a__law_factor_sign) = true)
    {a__law_factor_signs : Addr} (n__law_factor_signs : nsIn K mainGlobals "_law_factor_signs" = some (some (.ref a__law_factor_signs)))
    {oc__law_factor_signs kV__law_factor_signs doc__law_factor_signs pm__law_factor_signs cdv__law_factor_signs ct__law_factor_signs : Value} {od__law_factor_signs an__law_factor_signs : Option Addr} {osl__law_factor_signs : Array (Option Value)} (l__law_factor_signs : K.lookup a__law_factor_signs = some ⟨oc__law_factor_signs, od__law_factor_signs, .func (fnOf "_law_factor_signs" "_law_factor_signs" (defArgs (topS 47)) (defBody (topS 47)) (defScope (topS 47)) .none kV__law_factor_signs doc__law_factor_signs pm__law_factor_signs an__law_factor_signs cdv__law_factor_signs ct__law_factor_signs), osl__law_factor_signs⟩)
     (c__law_factor_signs : codeIn K cdv__law_factor_signs "_law_factor_signs" = true)
     (k__law_factor_signs : keepIn K (.ref a__law_factor_signs) = true)
    {a__law_is_refused : Addr} (n__law_is_refused : nsIn K mainGlobals "_law_is_refused" = some (some (.ref a__law_is_refused)))
    {oc__law_is_refused kV__law_is_refused doc__law_is_refused pm__law_is_refused cdv__law_is_refused ct__law_is_refused : Value} {od__law_is_refused an__law_is_refused : Option Addr} {osl__law_is_refused : Array (Option Value)} (l__law_is_refused : K.lookup a__law_is_refused = some ⟨oc__law_is_refused, od__law_is_refused, .func (fnOf "_law_is_refused" "_law_is_refused" (defArgs (topS 48)) (defBody (topS 48)) (defScope (topS 48)) .none kV__law_is_refused doc__law_is_refused pm__law_is_refused an__law_is_refused cdv__law_is_refused ct__law_is_refused), osl__law_is_refused⟩)
     (c__law_is_refused : codeIn K cdv__law_is_refused "_law_is_refused" = true)
     (k__law_is_refused : keepIn K (.ref a__law_is_refused) = true)
    {C_Piece : Addr} (n_Piece : nsIn K mainGlobals "Piece" = some (some (.ref C_Piece)))
     (pg_Piece : plainGet K C_Piece Str.empty = true)
     (hd_Piece : hasDictIn K C_Piece = true)
     (po_Piece : plainOver K C_Piece = true)
     (sa_Piece : findIn K (.ref C_Piece) "__setattr__" = some (some (.builtin "object.__setattr__")))
     (mk_Piece : makesIn K C_Piece = true)
     (kc_Piece : keepIn K (.ref C_Piece) = true)
     (cl_Piece : findIn K (.ref C_Piece) "__class__" = some (some (.builtin "object.__class__")))
     (ob_Piece : mroIn K C_Piece (.type "object") = some true)
     (ne_Piece : findIn K (.ref C_Piece) "__ne__" = some (some (.builtin "object.__ne__")))
     (nl_Piece : notFirst K C_Piece (.type "list") = true)
     (nt_Piece : notFirst K C_Piece (.type "tuple") = true)
     (kl_Piece : kitOne K (.type "list") (.ref C_Piece) = some false)
     (kt_Piece : kitOne K (.type "tuple") (.ref C_Piece) = some false)
     (ki_Piece : kitOne K (.type "int") (.ref C_Piece) = some false)
     (no_Piece_row : findIn K (.ref C_Piece) "row" = some none)
     (no_Piece_under : findIn K (.ref C_Piece) "under" = some none)
    {a_Piece_init : Addr} (n_Piece_init : findIn K (.ref C_Piece) "__init__" = some (some (.ref a_Piece_init)))
     (i_Piece_init : isFn K (.ref a_Piece_init) = true)
    {oc_Piece_init kV_Piece_init doc_Piece_init pm_Piece_init cdv_Piece_init ct_Piece_init dV_Piece_init : Value} {od_Piece_init an_Piece_init : Option Addr} {osl_Piece_init : Array (Option Value)} (l_Piece_init : K.lookup a_Piece_init = some ⟨oc_Piece_init, od_Piece_init, .func (fnOf "__init__" "Piece.__init__" (defArgs (inClass (topS 18) 0)) (defBody (inClass (topS 18) 0)) (defScope (inClass (topS 18) 0)) dV_Piece_init kV_Piece_init doc_Piece_init pm_Piece_init an_Piece_init cdv_Piece_init ct_Piece_init), osl_Piece_init⟩)
     (c_Piece_init : codeIn K cdv_Piece_init "Piece.__init__" = true)
     (k_Piece_init : keepIn K (.ref a_Piece_init) = true)
    {a_Piece_neg : Addr} (n_Piece_neg : findIn K (.ref C_Piece) "__neg__" = some (some (.ref a_Piece_neg)))
     (i_Piece_neg : isFn K (.ref a_Piece_neg) = true)
    {oc_Piece_neg kV_Piece_neg doc_Piece_neg pm_Piece_neg cdv_Piece_neg ct_Piece_neg : Value} {od_Piece_neg an_Piece_neg : Option Addr} {osl_Piece_neg : Array (Option Value)} (l_Piece_neg : K.lookup a_Piece_neg = some ⟨oc_Piece_neg, od_Piece_neg, .func (fnOf "__neg__" "Piece.__neg__" (defArgs (inClass (topS 18) 9)) (defBody (inClass (topS 18) 9)) (defScope (inClass (topS 18) 9)) .none kV_Piece_neg doc_Piece_neg pm_Piece_neg an_Piece_neg cdv_Piece_neg ct_Piece_neg), osl_Piece_neg⟩)
     (c_Piece_neg : codeIn K cdv_Piece_neg "Piece.__neg__" = true)
     (k_Piece_neg : keepIn K (.ref a_Piece_neg) = true)
    {a_Piece_add : Addr} (n_Piece_add : findIn K (.ref C_Piece) "__add__" = some (some (.ref a_Piece_add)))
     (i_Piece_add : isFn K (.ref a_Piece_add) = true)
    {oc_Piece_add kV_Piece_add doc_Piece_add pm_Piece_add cdv_Piece_add ct_Piece_add : Value} {od_Piece_add an_Piece_add : Option Addr} {osl_Piece_add : Array (Option Value)} (l_Piece_add : K.lookup a_Piece_add = some ⟨oc_Piece_add, od_Piece_add, .func (fnOf "__add__" "Piece.__add__" (defArgs (inClass (topS 18) 7)) (defBody (inClass (topS 18) 7)) (defScope (inClass (topS 18) 7)) .none kV_Piece_add doc_Piece_add pm_Piece_add an_Piece_add cdv_Piece_add ct_Piece_add), osl_Piece_add⟩)
     (c_Piece_add : codeIn K cdv_Piece_add "Piece.__add__" = true)
     (k_Piece_add : keepIn K (.ref a_Piece_add) = true)
    {a_Piece_sub : Addr} (n_Piece_sub : findIn K (.ref C_Piece) "__sub__" = some (some (.ref a_Piece_sub)))
     (i_Piece_sub : isFn K (.ref a_Piece_sub) = true)
    {oc_Piece_sub kV_Piece_sub doc_Piece_sub pm_Piece_sub cdv_Piece_sub ct_Piece_sub : Value} {od_Piece_sub an_Piece_sub : Option Addr} {osl_Piece_sub : Array (Option Value)} (l_Piece_sub : K.lookup a_Piece_sub = some ⟨oc_Piece_sub, od_Piece_sub, .func (fnOf "__sub__" "Piece.__sub__" (defArgs (inClass (topS 18) 10)) (defBody (inClass (topS 18) 10)) (defScope (inClass (topS 18) 10)) .none kV_Piece_sub doc_Piece_sub pm_Piece_sub an_Piece_sub cdv_Piece_sub ct_Piece_sub), osl_Piece_sub⟩)
     (c_Piece_sub : codeIn K cdv_Piece_sub "Piece.__sub__" = true)
     (k_Piece_sub : keepIn K (.ref a_Piece_sub) = true)
    {a_Piece_mul : Addr} (n_Piece_mul : findIn K (.ref C_Piece) "__mul__" = some (some (.ref a_Piece_mul)))
     (i_Piece_mul : isFn K (.ref a_Piece_mul) = true)
    {oc_Piece_mul kV_Piece_mul doc_Piece_mul pm_Piece_mul cdv_Piece_mul ct_Piece_mul : Value} {od_Piece_mul an_Piece_mul : Option Addr} {osl_Piece_mul : Array (Option Value)} (l_Piece_mul : K.lookup a_Piece_mul = some ⟨oc_Piece_mul, od_Piece_mul, .func (fnOf "__mul__" "Piece.__mul__" (defArgs (inClass (topS 18) 12)) (defBody (inClass (topS 18) 12)) (defScope (inClass (topS 18) 12)) .none kV_Piece_mul doc_Piece_mul pm_Piece_mul an_Piece_mul cdv_Piece_mul ct_Piece_mul), osl_Piece_mul⟩)
     (c_Piece_mul : codeIn K cdv_Piece_mul "Piece.__mul__" = true)
     (k_Piece_mul : keepIn K (.ref a_Piece_mul) = true)
    {a_Piece_stretched : Addr} (n_Piece_stretched : findIn K (.ref C_Piece) "stretched" = some (some (.ref a_Piece_stretched)))
     (i_Piece_stretched : isFn K (.ref a_Piece_stretched) = true)
    {oc_Piece_stretched kV_Piece_stretched doc_Piece_stretched pm_Piece_stretched cdv_Piece_stretched ct_Piece_stretched : Value} {od_Piece_stretched an_Piece_stretched : Option Addr} {osl_Piece_stretched : Array (Option Value)} (l_Piece_stretched : K.lookup a_Piece_stretched = some ⟨oc_Piece_stretched, od_Piece_stretched, .func (fnOf "stretched" "Piece.stretched" (defArgs (inClass (topS 18) 16)) (defBody (inClass (topS 18) 16)) (defScope (inClass (topS 18) 16)) .none kV_Piece_stretched doc_Piece_stretched pm_Piece_stretched an_Piece_stretched cdv_Piece_stretched ct_Piece_stretched), osl_Piece_stretched⟩)
     (c_Piece_stretched : codeIn K cdv_Piece_stretched "Piece.stretched" = true)
     (k_Piece_stretched : keepIn K (.ref a_Piece_stretched) = true)
     (gs : specialIn K (.builtin "object.__class__") "__get__" = some (some (.builtin "getset_descriptor.__get__")))
     (tk : takesIn K (.builtin "object.__class__") = some true)
     (b_len : nsIn K mainGlobals "len" = some none)
     (b_range : nsIn K mainGlobals "range" = some none)
     (b_int : nsIn K mainGlobals "int" = some none)
     (b_bool : nsIn K mainGlobals "bool" = some none)
     (b_str : nsIn K mainGlobals "str" = some none)
     (b_list : nsIn K mainGlobals "list" = some none)
     (b_tuple : nsIn K mainGlobals "tuple" = some none)
     (b_set : nsIn K mainGlobals "set" = some none)
     (b_abs : nsIn K mainGlobals "abs" = some none)
     (b_min : nsIn K mainGlobals "min" = some none)
     (b_max : nsIn K mainGlobals "max" = some none)
     (b_sum : nsIn K mainGlobals "sum" = some none)
     (b_any : nsIn K mainGlobals "any" = some none)
     (b_all : nsIn K mainGlobals "all" = some none)
     (b_sorted : nsIn K mainGlobals "sorted" = some none)
     (b_isinstance : nsIn K mainGlobals "isinstance" = some none)
     (b_enumerate : nsIn K mainGlobals "enumerate" = some none)
     (b_reversed : nsIn K mainGlobals "reversed" = some none)
     (b_zip : nsIn K mainGlobals "zip" = some none)
     (su : nsIn K mainGlobals "super" = some none)
     (th : nsIn K cStatics "thirdparty.any" = some none)
    {C_BadRow : Addr} (n_BadRow : nsIn K mainGlobals "BadRow" = some (some (.ref C_BadRow)))
    {nm_BadRow q_BadRow : Str} {N_BadRow : Addr} {bs_BadRow bm_BadRow : List Value} {sn_BadRow : List Str} {sub_BadRow : List Value} {ab_BadRow : Bool} {col_BadRow : Option Bool} {dd_BadRow : Option Addr} {k0_BadRow k1_BadRow k2_BadRow k3_BadRow k5_BadRow : Option Value} (x0_BadRow : K.lookup C_BadRow = some (excClassObj nm_BadRow q_BadRow C_BadRow N_BadRow bs_BadRow bm_BadRow true sn_BadRow sub_BadRow ab_BadRow col_BadRow dd_BadRow k0_BadRow k1_BadRow k2_BadRow k3_BadRow k5_BadRow "ValueError.__new__"))
     (x1_BadRow : PySem.HandSPX.refsVE bm_BadRow = true)
     (x2_BadRow : findIn K (.ref C_BadRow) "__setattr__" = some (some (.builtin "object.__setattr__")))
     (x3_BadRow : findIn K (.ref C_BadRow) "__getattribute__" = some (some (.builtin "BaseException.__getattribute__")))
     (x4_BadRow : findIn K (.ref C_BadRow) "__getattr__" = some none)
     (x5_BadRow : subIn K (.ref C_BadRow) (.type "BaseException") = some true)
     (x6_BadRow : hasDictIn K C_BadRow = true)
    {fI_BadRow : Addr} (x7_BadRow : findIn K (.ref C_BadRow) "__init__" = some (some (.ref fI_BadRow)))
     (x8_BadRow : typeIn K (.ref fI_BadRow) = some (.type "function"))
     (x9_BadRow : keepIn K (.ref C_BadRow) = true)
     (y0_BadRow : typeIn K (.ref C_BadRow) = some (.type "type"))
     (yf_BadRow_index : findIn K (.ref C_BadRow) "index" = some none)
     (y1_BadRow : mroIn K C_BadRow (.ref C_BadRow) = some true)
     (y2_BadRow : subIn K (.ref C_BadRow) (.type "ValueError") = some true)
     (y3_BadRow : ks_superIn K C_BadRow C_BadRow "__init__" = some (some (.builtin "ValueError.__init__")))
    {qu_BadRow : Str} {xoc_BadRow xdoc_BadRow xpm_BadRow xct_BadRow : Value} {xod_BadRow xan_BadRow : Option Addr} {xosl_BadRow : Array (Option Value)} {cda_BadRow cc_BadRow : Addr} (y4_BadRow : K.lookup fI_BadRow = some ⟨xoc_BadRow, xod_BadRow, .func (ksFn "__init__" qu_BadRow (defArgs (inClass (topS 3) 0)) (defBody (inClass (topS 3) 0)) (defScope (inClass (topS 3) 0)) .none .none xdoc_BadRow xpm_BadRow xan_BadRow (.ref cda_BadRow) xct_BadRow cc_BadRow), xosl_BadRow⟩)
     (y5_BadRow : codeIn K (.ref cda_BadRow) qu_BadRow = true)
    {xl_BadRow : Value} {xld_BadRow : Option Addr} {xsl_BadRow : Array (Option Value)} (y6_BadRow : K.lookup cc_BadRow = some ⟨xl_BadRow, xld_BadRow, .cell (some (.ref C_BadRow)), xsl_BadRow⟩)
    {xcl_BadRow : Value} {xcd_BadRow : Option Addr} {xvs_BadRow : Array Value} {xcs_BadRow : Array (Option Value)} (y7_BadRow : K.lookup cda_BadRow = some ⟨xcl_BadRow, xcd_BadRow, .fields xvs_BadRow, xcs_BadRow⟩)
    {fi_BadRow : Str} {tf_BadRow : Tok} (y8_BadRow : xvs_BadRow[2]? = some (.str fi_BadRow tf_BadRow))
     (y9_BadRow : ((topP.main.file : Str) == fi_BadRow) = true)
    {cd_BadRow : ClassData} (z0_BadRow : clsIn K C_BadRow = some cd_BadRow)
    {C_BadUnder : Addr} (n_BadUnder : nsIn K mainGlobals "BadUnder" = some (some (.ref C_BadUnder)))
    {nm_BadUnder q_BadUnder : Str} {N_BadUnder : Addr} {bs_BadUnder bm_BadUnder : List Value} {sn_BadUnder : List Str} {sub_BadUnder : List Value} {ab_BadUnder : Bool} {col_BadUnder : Option Bool} {dd_BadUnder : Option Addr} {k0_BadUnder k1_BadUnder k2_BadUnder k3_BadUnder k5_BadUnder : Option Value} (x0_BadUnder : K.lookup C_BadUnder = some (excClassObj nm_BadUnder q_BadUnder C_BadUnder N_BadUnder bs_BadUnder bm_BadUnder true sn_BadUnder sub_BadUnder ab_BadUnder col_BadUnder dd_BadUnder k0_BadUnder k1_BadUnder k2_BadUnder k3_BadUnder k5_BadUnder "ValueError.__new__"))
     (x1_BadUnder : PySem.HandSPX.refsVE bm_BadUnder = true)
     (x2_BadUnder : findIn K (.ref C_BadUnder) "__setattr__" = some (some (.builtin "object.__setattr__")))
     (x3_BadUnder : findIn K (.ref C_BadUnder) "__getattribute__" = some (some (.builtin "BaseException.__getattribute__")))
     (x4_BadUnder : findIn K (.ref C_BadUnder) "__getattr__" = some none)
     (x5_BadUnder : subIn K (.ref C_BadUnder) (.type "BaseException") = some true)
     (x6_BadUnder : hasDictIn K C_BadUnder = true)
    {fI_BadUnder : Addr} (x7_BadUnder : findIn K (.ref C_BadUnder) "__init__" = some (some (.ref fI_BadUnder)))
     (x8_BadUnder : typeIn K (.ref fI_BadUnder) = some (.type "function"))
     (x9_BadUnder : keepIn K (.ref C_BadUnder) = true)
     (y0_BadUnder : typeIn K (.ref C_BadUnder) = some (.type "type"))
     (yf_BadUnder_under : findIn K (.ref C_BadUnder) "under" = some none)
     (y1_BadUnder : mroIn K C_BadUnder (.ref C_BadUnder) = some true)
     (y2_BadUnder : subIn K (.ref C_BadUnder) (.type "ValueError") = some true)
     (y3_BadUnder : ks_superIn K C_BadUnder C_BadUnder "__init__" = some (some (.builtin "ValueError.__init__")))
    {qu_BadUnder : Str} {xoc_BadUnder xdoc_BadUnder xpm_BadUnder xct_BadUnder : Value} {xod_BadUnder xan_BadUnder : Option Addr} {xosl_BadUnder : Array (Option Value)} {cda_BadUnder cc_BadUnder : Addr} (y4_BadUnder : K.lookup fI_BadUnder = some ⟨xoc_BadUnder, xod_BadUnder, .func (ksFn "__init__" qu_BadUnder (defArgs (inClass (topS 4) 0)) (defBody (inClass (topS 4) 0)) (defScope (inClass (topS 4) 0)) .none .none xdoc_BadUnder xpm_BadUnder xan_BadUnder (.ref cda_BadUnder) xct_BadUnder cc_BadUnder), xosl_BadUnder⟩)
     (y5_BadUnder : codeIn K (.ref cda_BadUnder) qu_BadUnder = true)
    {xl_BadUnder : Value} {xld_BadUnder : Option Addr} {xsl_BadUnder : Array (Option Value)} (y6_BadUnder : K.lookup cc_BadUnder = some ⟨xl_BadUnder, xld_BadUnder, .cell (some (.ref C_BadUnder)), xsl_BadUnder⟩)
    {xcl_BadUnder : Value} {xcd_BadUnder : Option Addr} {xvs_BadUnder : Array Value} {xcs_BadUnder : Array (Option Value)} (y7_BadUnder : K.lookup cda_BadUnder = some ⟨xcl_BadUnder, xcd_BadUnder, .fields xvs_BadUnder, xcs_BadUnder⟩)
    {fi_BadUnder : Str} {tf_BadUnder : Tok} (y8_BadUnder : xvs_BadUnder[2]? = some (.str fi_BadUnder tf_BadUnder))
     (y9_BadUnder : ((topP.main.file : Str) == fi_BadUnder) = true)
    {cd_BadUnder : ClassData} (z0_BadUnder : clsIn K C_BadUnder = some cd_BadUnder)
    {C_BadPlace : Addr} (n_BadPlace : nsIn K mainGlobals "BadPlace" = some (some (.ref C_BadPlace)))
    {nm_BadPlace q_BadPlace : Str} {N_BadPlace : Addr} {bs_BadPlace bm_BadPlace : List Value} {sn_BadPlace : List Str} {sub_BadPlace : List Value} {ab_BadPlace : Bool} {col_BadPlace : Option Bool} {dd_BadPlace : Option Addr} {k0_BadPlace k1_BadPlace k2_BadPlace k3_BadPlace k5_BadPlace : Option Value} (x0_BadPlace : K.lookup C_BadPlace = some (excClassObj nm_BadPlace q_BadPlace C_BadPlace N_BadPlace bs_BadPlace bm_BadPlace true sn_BadPlace sub_BadPlace ab_BadPlace col_BadPlace dd_BadPlace k0_BadPlace k1_BadPlace k2_BadPlace k3_BadPlace k5_BadPlace "ValueError.__new__"))
     (x1_BadPlace : PySem.HandSPX.refsVE bm_BadPlace = true)
     (x2_BadPlace : findIn K (.ref C_BadPlace) "__setattr__" = some (some (.builtin "object.__setattr__")))
     (x3_BadPlace : findIn K (.ref C_BadPlace) "__getattribute__" = some (some (.builtin "BaseException.__getattribute__")))
     (x4_BadPlace : findIn K (.ref C_BadPlace) "__getattr__" = some none)
     (x5_BadPlace : subIn K (.ref C_BadPlace) (.type "BaseException") = some true)
     (x6_BadPlace : hasDictIn K C_BadPlace = true)
    {fI_BadPlace : Addr} (x7_BadPlace : findIn K (.ref C_BadPlace) "__init__" = some (some (.ref fI_BadPlace)))
     (x8_BadPlace : typeIn K (.ref fI_BadPlace) = some (.type "function"))
     (x9_BadPlace : keepIn K (.ref C_BadPlace) = true)
     (y0_BadPlace : typeIn K (.ref C_BadPlace) = some (.type "type"))
     (yf_BadPlace_n : findIn K (.ref C_BadPlace) "n" = some none)
     (y1_BadPlace : mroIn K C_BadPlace (.ref C_BadPlace) = some true)
     (y2_BadPlace : subIn K (.ref C_BadPlace) (.type "ValueError") = some true)
     (y3_BadPlace : ks_superIn K C_BadPlace C_BadPlace "__init__" = some (some (.builtin "ValueError.__init__")))
    {qu_BadPlace : Str} {xoc_BadPlace xdoc_BadPlace xpm_BadPlace xct_BadPlace : Value} {xod_BadPlace xan_BadPlace : Option Addr} {xosl_BadPlace : Array (Option Value)} {cda_BadPlace cc_BadPlace : Addr} (y4_BadPlace : K.lookup fI_BadPlace = some ⟨xoc_BadPlace, xod_BadPlace, .func (ksFn "__init__" qu_BadPlace (defArgs (inClass (topS 5) 0)) (defBody (inClass (topS 5) 0)) (defScope (inClass (topS 5) 0)) .none .none xdoc_BadPlace xpm_BadPlace xan_BadPlace (.ref cda_BadPlace) xct_BadPlace cc_BadPlace), xosl_BadPlace⟩)
     (y5_BadPlace : codeIn K (.ref cda_BadPlace) qu_BadPlace = true)
    {xl_BadPlace : Value} {xld_BadPlace : Option Addr} {xsl_BadPlace : Array (Option Value)} (y6_BadPlace : K.lookup cc_BadPlace = some ⟨xl_BadPlace, xld_BadPlace, .cell (some (.ref C_BadPlace)), xsl_BadPlace⟩)
    {xcl_BadPlace : Value} {xcd_BadPlace : Option Addr} {xvs_BadPlace : Array Value} {xcs_BadPlace : Array (Option Value)} (y7_BadPlace : K.lookup cda_BadPlace = some ⟨xcl_BadPlace, xcd_BadPlace, .fields xvs_BadPlace, xcs_BadPlace⟩)
    {fi_BadPlace : Str} {tf_BadPlace : Tok} (y8_BadPlace : xvs_BadPlace[2]? = some (.str fi_BadPlace tf_BadPlace))
     (y9_BadPlace : ((topP.main.file : Str) == fi_BadPlace) = true)
    {cd_BadPlace : ClassData} (z0_BadPlace : clsIn K C_BadPlace = some cd_BadPlace)
    {C_BadNumber : Addr} (n_BadNumber : nsIn K mainGlobals "BadNumber" = some (some (.ref C_BadNumber)))
    {nm_BadNumber q_BadNumber : Str} {N_BadNumber : Addr} {bs_BadNumber bm_BadNumber : List Value} {sn_BadNumber : List Str} {sub_BadNumber : List Value} {ab_BadNumber : Bool} {col_BadNumber : Option Bool} {dd_BadNumber : Option Addr} {k0_BadNumber k1_BadNumber k2_BadNumber k3_BadNumber k5_BadNumber : Option Value} (x0_BadNumber : K.lookup C_BadNumber = some (excClassObj nm_BadNumber q_BadNumber C_BadNumber N_BadNumber bs_BadNumber bm_BadNumber true sn_BadNumber sub_BadNumber ab_BadNumber col_BadNumber dd_BadNumber k0_BadNumber k1_BadNumber k2_BadNumber k3_BadNumber k5_BadNumber "ValueError.__new__"))
     (x1_BadNumber : PySem.HandSPX.refsVE bm_BadNumber = true)
     (x2_BadNumber : findIn K (.ref C_BadNumber) "__setattr__" = some (some (.builtin "object.__setattr__")))
     (x3_BadNumber : findIn K (.ref C_BadNumber) "__getattribute__" = some (some (.builtin "BaseException.__getattribute__")))
     (x4_BadNumber : findIn K (.ref C_BadNumber) "__getattr__" = some none)
     (x5_BadNumber : subIn K (.ref C_BadNumber) (.type "BaseException") = some true)
     (x6_BadNumber : hasDictIn K C_BadNumber = true)
    {fI_BadNumber : Addr} (x7_BadNumber : findIn K (.ref C_BadNumber) "__init__" = some (some (.ref fI_BadNumber)))
     (x8_BadNumber : typeIn K (.ref fI_BadNumber) = some (.type "function"))
     (x9_BadNumber : keepIn K (.ref C_BadNumber) = true)
     (y0_BadNumber : typeIn K (.ref C_BadNumber) = some (.type "type"))
     (yf_BadNumber_number : findIn K (.ref C_BadNumber) "number" = some none)
     (y1_BadNumber : mroIn K C_BadNumber (.ref C_BadNumber) = some true)
     (y2_BadNumber : subIn K (.ref C_BadNumber) (.type "ValueError") = some true)
     (y3_BadNumber : ks_superIn K C_BadNumber C_BadNumber "__init__" = some (some (.builtin "ValueError.__init__")))
    {qu_BadNumber : Str} {xoc_BadNumber xdoc_BadNumber xpm_BadNumber xct_BadNumber : Value} {xod_BadNumber xan_BadNumber : Option Addr} {xosl_BadNumber : Array (Option Value)} {cda_BadNumber cc_BadNumber : Addr} (y4_BadNumber : K.lookup fI_BadNumber = some ⟨xoc_BadNumber, xod_BadNumber, .func (ksFn "__init__" qu_BadNumber (defArgs (inClass (topS 7) 0)) (defBody (inClass (topS 7) 0)) (defScope (inClass (topS 7) 0)) .none .none xdoc_BadNumber xpm_BadNumber xan_BadNumber (.ref cda_BadNumber) xct_BadNumber cc_BadNumber), xosl_BadNumber⟩)
     (y5_BadNumber : codeIn K (.ref cda_BadNumber) qu_BadNumber = true)
    {xl_BadNumber : Value} {xld_BadNumber : Option Addr} {xsl_BadNumber : Array (Option Value)} (y6_BadNumber : K.lookup cc_BadNumber = some ⟨xl_BadNumber, xld_BadNumber, .cell (some (.ref C_BadNumber)), xsl_BadNumber⟩)
    {xcl_BadNumber : Value} {xcd_BadNumber : Option Addr} {xvs_BadNumber : Array Value} {xcs_BadNumber : Array (Option Value)} (y7_BadNumber : K.lookup cda_BadNumber = some ⟨xcl_BadNumber, xcd_BadNumber, .fields xvs_BadNumber, xcs_BadNumber⟩)
    {fi_BadNumber : Str} {tf_BadNumber : Tok} (y8_BadNumber : xvs_BadNumber[2]? = some (.str fi_BadNumber tf_BadNumber))
     (y9_BadNumber : ((topP.main.file : Str) == fi_BadNumber) = true)
    {cd_BadNumber : ClassData} (z0_BadNumber : clsIn K C_BadNumber = some cd_BadNumber)
    {tA_signs_of : Addr} {tc_signs_of : Value} {td_signs_of : Option Addr} {ts_signs_of : Array Value} {tn_signs_of : Nat} {tsl_signs_of : Array (Option Value)} {tk1_signs_of : Tok}  (dt_signs_of : dV_signs_of = .ref tA_signs_of)
     (dt2_signs_of : K.lookup tA_signs_of = some ⟨tc_signs_of, td_signs_of, .seq ts_signs_of tn_signs_of, tsl_signs_of⟩)
     (dt3_signs_of : ts_signs_of = ([.int 0 tk1_signs_of] : List Value).toArray)
    {tA_Piece : Addr} {tc_Piece : Value} {td_Piece : Option Addr} {ts_Piece : Array Value} {tn_Piece : Nat} {tsl_Piece : Array (Option Value)} {tk1_Piece : Tok}  (dt_Piece : dV_Piece_init = .ref tA_Piece)
     (dt2_Piece : K.lookup tA_Piece = some ⟨tc_Piece, td_Piece, .seq ts_Piece tn_Piece, tsl_Piece⟩)
     (dt3_Piece : ts_Piece = ([.int 1 tk1_Piece] : List Value).toArray)
     (sf_Piece : selfFirst K C_Piece = true)
     (si_Piece : subIn K (.ref C_Piece) (.type "int") = some false)
     (is_Piece : subIn K (.type "int") (.ref C_Piece) = some false)
    {fo_add : Option Value} (f1_add : findIn K (.type "int") "__add__" = some fo_add)
    {ro_add : Option Value} (f2_add : findIn K (.type "int") "__radd__" = some ro_add)
    {rc_add : Option Value} (f3_add : findIn K (.ref C_Piece) "__radd__" = some rc_add)
     (f4_add : rc_add = none ∨ ∃ g : Addr, rc_add = some (.ref g))
    {fo_sub : Option Value} (f1_sub : findIn K (.type "int") "__sub__" = some fo_sub)
    {ro_sub : Option Value} (f2_sub : findIn K (.type "int") "__rsub__" = some ro_sub)
    {rc_sub : Option Value} (f3_sub : findIn K (.ref C_Piece) "__rsub__" = some rc_sub)
     (f4_sub : rc_sub = none ∨ ∃ g : Addr, rc_sub = some (.ref g))
     (e_bb : subIn K (.ref C_BadNumber) (.ref C_BadNumber) = some true)
    {a_law : Addr} (n_law : nsIn K mainGlobals "law" = some (some (.ref a_law)))
    {oc_law kV_law doc_law pm_law cdv_law ct_law : Value} {od_law an_law : Option Addr} {osl_law : Array (Option Value)} (l_law : K.lookup a_law = some ⟨oc_law, od_law, .func (fnOf "law" "law" (defArgs (topS 49)) (defBody (topS 49)) (defScope (topS 49)) .none kV_law doc_law pm_law an_law cdv_law ct_law), osl_law⟩)
     (c_law : codeIn K cdv_law "law" = true)
     (k_law : keepIn K (.ref a_law) = true)
    : ∃ fd : FuncData, (∀ (s : Shared) (u : Value), BindsTo s fd ⟨[u], []⟩ [("script", u)]) ∧ ∀ base : Heap, K.In base → base.Ns mainGlobals mg → FnOk topP w K mg base (L2.CX topP w) 32 fa fd ["script"] (spLaw K) := by
  obtain rfl : fa = a_law := Value.ref.inj (Option.some.inj (hmg.symm.trans (mg_of KX G n_law)))
  subst dt_Piece dt3_Piece
  subst dt_signs_of dt3_signs_of
  have B : Bn mg := bn_of KX G b_len b_range b_int b_bool b_str b_list b_tuple b_set b_abs b_min b_max b_sum b_any b_all b_sorted b_isinstance b_enumerate b_reversed b_zip
  have F_is_integer := fun_mk l_is_integer c_is_integer k_is_integer
  have F_common_divisor := fun_mk l_common_divisor c_common_divisor k_common_divisor
  have F_sign_of := fun_mk l_sign_of c_sign_of k_sign_of
  have F_need_integers := fun_mk l_need_integers c_need_integers k_need_integers
  have F_least_form := fun_mk l_least_form c_least_form k_least_form
  have F_row_value := fun_mk l_row_value c_row_value k_row_value
  have F_is_term := fun_mk l_is_term c_is_term k_is_term
  have F_product_entry := fun_mk l_product_entry c_product_entry k_product_entry
  have F_as_piece := fun_mk l_as_piece c_as_piece k_as_piece
  have F_added := fun_mk l_added c_added k_added
  have F_multiplied := fun_mk l_multiplied c_multiplied k_multiplied
  have F_difference_row := fun_mk l_difference_row c_difference_row k_difference_row
  have F_first_from := fun_mk l_first_from c_first_from k_first_from
  have F_trend_signs := fun_mk l_trend_signs c_trend_signs k_trend_signs
  have F_joined := fun_mk l_joined c_joined k_joined
  have F_row_signs := fun_mk l_row_signs c_row_signs k_row_signs
  have F_signs_of : FunD K "signs_of" "signs_of" (defArgs (topS 31)) (defBody (topS 31)) (defScope (topS 31)) [.int 0] [] a_signs_of _ := ⟨⟨_, _, _, _, _, _, _, _, _, _, rfl, l_signs_of, c_signs_of, .inr ⟨(fun z => by cases z), _, _, [.int 0 tk1_signs_of], _, rfl, dt2_signs_of, rfl, .cons ⟨_, rfl⟩ .nil⟩, .inl rfl⟩, k_signs_of⟩
  have F_last_above := fun_mk l_last_above c_last_above k_last_above
  have F_all_with := fun_mk l_all_with c_all_with k_all_with
  have F__law_pen := fun_mk l__law_pen c__law_pen k__law_pen
  have F__law_draw := fun_mk l__law_draw c__law_draw k__law_draw
  have F__law_pick := fun_mk l__law_pick c__law_pick k__law_pick
  have F__law_entry := fun_mk l__law_entry c__law_entry k__law_entry
  have F__law_fraction := fun_mk l__law_fraction c__law_fraction k__law_fraction
  have F__law_upper := fun_mk l__law_upper c__law_upper k__law_upper
  have F__law_times := fun_mk l__law_times c__law_times k__law_times
  have F__law_plus := fun_mk l__law_plus c__law_plus k__law_plus
  have F__law_factors := fun_mk l__law_factors c__law_factors k__law_factors
  have F__law_factor_row := fun_mk l__law_factor_row c__law_factor_row k__law_factor_row
  have F__law_sign := fun_mk l__law_sign c__law_sign k__law_sign
  have F__law_factor_sign := fun_mk l__law_factor_sign c__law_factor_sign k__law_factor_sign
  have F__law_factor_signs := fun_mk l__law_factor_signs c__law_factor_signs k__law_factor_signs
  have F__law_is_refused := fun_mk l__law_is_refused c__law_is_refused k__law_is_refused
  have F_law := fun_mk l_law c_law k_law
  have F_Piece_neg := fun_mk l_Piece_neg c_Piece_neg k_Piece_neg
  have F_Piece_add := fun_mk l_Piece_add c_Piece_add k_Piece_add
  have F_Piece_sub := fun_mk l_Piece_sub c_Piece_sub k_Piece_sub
  have F_Piece_mul := fun_mk l_Piece_mul c_Piece_mul k_Piece_mul
  have F_Piece_stretched := fun_mk l_Piece_stretched c_Piece_stretched k_Piece_stretched
  have F_Piece_init : FunD K "__init__" "Piece.__init__" (defArgs (inClass (topS 18) 0)) (defBody (inClass (topS 18) 0)) (defScope (inClass (topS 18) 0)) [.int 1] [] a_Piece_init _ := ⟨⟨_, _, _, _, _, _, _, _, _, _, rfl, l_Piece_init, c_Piece_init, .inr ⟨(fun z => by cases z), _, _, [.int 1 tk1_Piece], _, rfl, dt2_Piece, rfl, .cons ⟨_, rfl⟩ .nil⟩, .inl rfl⟩, k_Piece_init⟩
  have c_Piece : Cls K C_Piece := ⟨pg_Piece, hd_Piece, po_Piece, sa_Piece⟩
  have g_Piece := mg_of KX G n_Piece
  have NN_Piece : NoNe K C_Piece := ⟨ne_Piece, ob_Piece⟩
  have mk0_Piece : Mk K C_Piece a_Piece_init := ⟨mk_Piece, n_Piece_init, i_Piece_init, kc_Piece⟩
  have hy : ∀ H x rs u, IsP H x C_Piece rs u → TyX K H (.ref x) (.ref C_Piece) := fun H x rs u q => isP_ty q c_Piece cl_Piece gs tk ob_Piece
  have n_row := no_Piece_row
  have n_under := no_Piece_under
  have md : PySem.SupX.SupMod topP K mg := ⟨mg_none_of KX G su, th, by decide +kernel⟩
  obtain ⟨l_BadRow, tx_BadRow, j_BadRow, p0_BadRow, p1_BadRow, p2_BadRow, p3_BadRow, p4_BadRow, p5_BadRow, ar_BadRow, xs_BadRow⟩ := exs_BadRow
  have X_BadRow : ExT topP K mg "BadRow" C_BadRow ["index"] := ext_of KX G md xs_BadRow (fun doc pm ct an us hl => match us, hl with | [_, _], _ => rfl) n_BadRow x0_BadRow x1_BadRow x2_BadRow x3_BadRow x4_BadRow x5_BadRow x6_BadRow x7_BadRow x8_BadRow x9_BadRow y0_BadRow (fun z hz => by rw [List.mem_singleton.mp hz]; exact yf_BadRow_index) y1_BadRow y2_BadRow y3_BadRow y4_BadRow y5_BadRow y6_BadRow y7_BadRow y8_BadRow y9_BadRow (by decide)
  obtain ⟨l_BadUnder, tx_BadUnder, j_BadUnder, p0_BadUnder, p1_BadUnder, p2_BadUnder, p3_BadUnder, p4_BadUnder, p5_BadUnder, ar_BadUnder, xs_BadUnder⟩ := exs_BadUnder
  have X_BadUnder : ExT topP K mg "BadUnder" C_BadUnder ["under"] := ext_of KX G md xs_BadUnder (fun doc pm ct an us hl => match us, hl with | [_, _], _ => rfl) n_BadUnder x0_BadUnder x1_BadUnder x2_BadUnder x3_BadUnder x4_BadUnder x5_BadUnder x6_BadUnder x7_BadUnder x8_BadUnder x9_BadUnder y0_BadUnder (fun z hz => by rw [List.mem_singleton.mp hz]; exact yf_BadUnder_under) y1_BadUnder y2_BadUnder y3_BadUnder y4_BadUnder y5_BadUnder y6_BadUnder y7_BadUnder y8_BadUnder y9_BadUnder (by decide)
  obtain ⟨l_BadPlace, tx_BadPlace, j_BadPlace, p0_BadPlace, p1_BadPlace, p2_BadPlace, p3_BadPlace, p4_BadPlace, p5_BadPlace, ar_BadPlace, xs_BadPlace⟩ := exs_BadPlace
  have X_BadPlace : ExT topP K mg "BadPlace" C_BadPlace ["n"] := ext_of KX G md xs_BadPlace (fun doc pm ct an us hl => match us, hl with | [_, _], _ => rfl) n_BadPlace x0_BadPlace x1_BadPlace x2_BadPlace x3_BadPlace x4_BadPlace x5_BadPlace x6_BadPlace x7_BadPlace x8_BadPlace x9_BadPlace y0_BadPlace (fun z hz => by rw [List.mem_singleton.mp hz]; exact yf_BadPlace_n) y1_BadPlace y2_BadPlace y3_BadPlace y4_BadPlace y5_BadPlace y6_BadPlace y7_BadPlace y8_BadPlace y9_BadPlace (by decide)
  obtain ⟨l_BadNumber, tx_BadNumber, j_BadNumber, p0_BadNumber, p1_BadNumber, p2_BadNumber, p3_BadNumber, p4_BadNumber, p5_BadNumber, ar_BadNumber, xs_BadNumber⟩ := exs_BadNumber
  have X_BadNumber : ExT topP K mg "BadNumber" C_BadNumber ["number"] := ext_of KX G md xs_BadNumber (fun doc pm ct an us hl => match us, hl with | [_, _], _ => rfl) n_BadNumber x0_BadNumber x1_BadNumber x2_BadNumber x3_BadNumber x4_BadNumber x5_BadNumber x6_BadNumber x7_BadNumber x8_BadNumber x9_BadNumber y0_BadNumber (fun z hz => by rw [List.mem_singleton.mp hz]; exact yf_BadNumber_number) y1_BadNumber y2_BadNumber y3_BadNumber y4_BadNumber y5_BadNumber y6_BadNumber y7_BadNumber y8_BadNumber y9_BadNumber (by decide)
  have bb := exm_of x5_BadNumber z0_BadNumber y0_BadNumber e_bb
  refine ⟨fnOf "law" "law" (defArgs (topS 49)) (defBody (topS 49)) (defScope (topS 49)) .none kV_law doc_law pm_law an_law cdv_law ct_law, fun s u => BindsTo.of_looks fun M => Looks.of_pure rfl, fun base KB GB => ?_⟩
  have G_is_integer : CallF topP w K mg base "is_integer" ["value"] 1 (spIsInteger K) := ⟨_, _, ok_is_integer B F_is_integer, mg_of KX G n_is_integer, k_is_integer, F_is_integer.binds (fun _ _ _ _ _ _ us hl => match us, hl with | [_], _ => rfl)⟩
  have G_common_divisor : CallF topP w K mg base "common_divisor" ["one", "other"] 1 spGcd := ⟨_, _, ok_common_divisor B F_common_divisor, mg_of KX G n_common_divisor, k_common_divisor, F_common_divisor.binds (fun _ _ _ _ _ _ us hl => match us, hl with | [_, _], _ => rfl)⟩
  have G_sign_of : CallF topP w K mg base "sign_of" ["value"] 1 spSign := ⟨_, _, ok_sign_of F_sign_of, mg_of KX G n_sign_of, k_sign_of, F_sign_of.binds (fun _ _ _ _ _ _ us hl => match us, hl with | [_], _ => rfl)⟩
  have G_need_integers : CallF topP w K mg base "need_integers" ["row"] 3 (spNeed K C_BadRow) := ⟨_, _, ok_need_integers B X_BadRow G_is_integer F_need_integers, mg_of KX G n_need_integers, k_need_integers, F_need_integers.binds (fun _ _ _ _ _ _ us hl => match us, hl with | [_], _ => rfl)⟩
  have G_least_form : CallF topP w K mg base "least_form" ["row", "under"] 3 (spLeast K) := ⟨_, _, ok_least_form B G_common_divisor F_least_form, mg_of KX G n_least_form, k_least_form, F_least_form.binds (fun _ _ _ _ _ _ us hl => match us, hl with | [_, _], _ => rfl)⟩
  have G_row_value : CallF topP w K mg base "row_value" ["row", "n"] 1 (spValue K) := ⟨_, _, ok_row_value B F_row_value, mg_of KX G n_row_value, k_row_value, F_row_value.binds (fun _ _ _ _ _ _ us hl => match us, hl with | [_, _], _ => rfl)⟩
  have O_Piece_init := ok_Piece_init (P := topP) (w := w) (base := base) B c_Piece n_row n_under X_BadUnder G_is_integer G_need_integers G_least_form F_Piece_init
  obtain ⟨ds, hds1, hds2⟩ := binds_Piece2 F_Piece_init
  have M_Piece := make_Piece O_Piece_init mk0_Piece g_Piece (binds_Piece3 F_Piece_init)
  have M_Piece_1 := make_Piece1 O_Piece_init mk0_Piece g_Piece hds2 hds1
  have G_is_term : CallF topP w K mg base "is_term" ["value"] 2 (spTerm C_Piece) := ⟨_, _, ok_is_term B g_Piece hy kit_self ki_Piece G_is_integer F_is_term, mg_of KX G n_is_term, k_is_term, F_is_term.binds (fun _ _ _ _ _ _ us hl => match us, hl with | [_], _ => rfl)⟩
  have G_product_entry : CallF topP w K mg base "product_entry" ["one", "other", "k"] 1 (spEntryOf K) := ⟨_, _, ok_product_entry B F_product_entry, mg_of KX G n_product_entry, k_product_entry, F_product_entry.binds (fun _ _ _ _ _ _ us hl => match us, hl with | [_, _, _], _ => rfl)⟩
  have G_as_piece : CallF topP w K mg base "as_piece" ["value"] 7 (spAsP K C_Piece) := ⟨_, _, ok_as_piece B g_Piece hy kit_self ki_Piece M_Piece_1 F_as_piece, mg_of KX G n_as_piece, k_as_piece, F_as_piece.binds (fun _ _ _ _ _ _ us hl => match us, hl with | [_], _ => rfl)⟩
  have G_added : CallF topP w K mg base "added" ["one", "other"] 7 (spAdded K C_Piece) := ⟨_, _, ok_added B c_Piece n_row n_under M_Piece F_added, mg_of KX G n_added, k_added, F_added.binds (fun _ _ _ _ _ _ us hl => match us, hl with | [_, _], _ => rfl)⟩
  have G_multiplied : CallF topP w K mg base "multiplied" ["one", "other"] 7 (spMultiplied K C_Piece) := ⟨_, _, ok_multiplied B c_Piece n_row n_under M_Piece G_product_entry F_multiplied, mg_of KX G n_multiplied, k_multiplied, F_multiplied.binds (fun _ _ _ _ _ _ us hl => match us, hl with | [_, _], _ => rfl)⟩
  have ON_Piece : OwnF topP w K mg base C_Piece "__neg__" ["self"] 7 (spNeg K C_Piece) := ⟨_, _, ok_neg B c_Piece n_row n_under M_Piece F_Piece_neg, n_Piece_neg, i_Piece_neg, F_Piece_neg.binds (fun _ _ _ _ _ _ us hl => match us, hl with | [_], _ => rfl)⟩
  have OA_Piece : OwnF topP w K mg base C_Piece "__add__" ["self", "other"] 8 (spAdd K C_Piece) := ⟨_, _, ok_add B G_is_term G_as_piece G_added F_Piece_add, n_Piece_add, i_Piece_add, F_Piece_add.binds (fun _ _ _ _ _ _ us hl => match us, hl with | [_, _], _ => rfl)⟩
  have OS_Piece : OwnF topP w K mg base C_Piece "__sub__" ["self", "other"] 8 (spSub K C_Piece) := ⟨_, _, ok_sub B G_is_term G_as_piece G_added ON_Piece F_Piece_sub, n_Piece_sub, i_Piece_sub, F_Piece_sub.binds (fun _ _ _ _ _ _ us hl => match us, hl with | [_, _], _ => rfl)⟩
  have OM_Piece : OwnF topP w K mg base C_Piece "__mul__" ["self", "other"] 8 (spMul K C_Piece) := ⟨_, _, ok_mul B G_is_term G_as_piece G_multiplied F_Piece_mul, n_Piece_mul, i_Piece_mul, F_Piece_mul.binds (fun _ _ _ _ _ _ us hl => match us, hl with | [_, _], _ => rfl)⟩
  have OI_Piece : OpI K C_Piece .Add := ⟨sf_Piece, ⟨_, _, _, f1_add, f2_add, f3_add, f4_add⟩, is_Piece⟩
  have fdA_Piece : ∃ g0 : Addr, findIn K (.ref C_Piece) "__add__" = some (some (.ref g0)) := ⟨_, n_Piece_add⟩
  have OIS_Piece : OpI K C_Piece .Sub := ⟨sf_Piece, ⟨_, _, _, f1_sub, f2_sub, f3_sub, f4_sub⟩, is_Piece⟩
  have fdS_Piece : ∃ g0 : Addr, findIn K (.ref C_Piece) "__sub__" = some (some (.ref g0)) := ⟨_, n_Piece_sub⟩
  have G_Piece_stretched : MethF topP w K mg base C_Piece "stretched" ["self", "m", "r"] 11 (spStretchG K C_Piece C_BadNumber) := ⟨_, _, ok_stretchG B c_Piece n_row n_under sf_Piece M_Piece M_Piece_1 X_BadNumber G_is_integer OA_Piece OM_Piece OI_Piece F_Piece_stretched, ⟨n_Piece_stretched, i_Piece_stretched, k_Piece_stretched⟩, F_Piece_stretched.binds (fun _ _ _ _ _ _ us hl => match us, hl with | [_, _, _], _ => rfl)⟩
  have G_difference_row : CallF topP w K mg base "difference_row" ["row"] 12 (spDiff K) := ⟨_, _, ok_difference_row B c_Piece n_row sf_Piece M_Piece_1 G_Piece_stretched OS_Piece F_difference_row, mg_of KX G n_difference_row, k_difference_row, F_difference_row.binds (fun _ _ _ _ _ _ us hl => match us, hl with | [_], _ => rfl)⟩
  have G_first_from : CallF topP w K mg base "first_from" ["row", "trend", "bound", "low", "high"] 2 (spFirstG K) := ⟨_, _, ok_first_from G_row_value F_first_from, mg_of KX G n_first_from, k_first_from, F_first_from.binds (fun _ _ _ _ _ _ us hl => match us, hl with | [_, _, _, _, _], _ => rfl)⟩
  have G_trend_signs : CallF topP w K mg base "trend_signs" ["row", "low", "high", "trend"] 3 (spTrend K) := ⟨_, _, ok_trend_signs B G_sign_of G_row_value G_first_from F_trend_signs, mg_of KX G n_trend_signs, k_trend_signs, F_trend_signs.binds (fun _ _ _ _ _ _ us hl => match us, hl with | [_, _, _, _], _ => rfl)⟩
  have G_joined : CallF topP w K mg base "joined" ["parts"] 1 (spJoin K) := ⟨_, _, ok_joined B F_joined, mg_of KX G n_joined, k_joined, F_joined.binds (fun _ _ _ _ _ _ us hl => match us, hl with | [_], _ => rfl)⟩
  have G_row_signs : CallF topP w K mg base "row_signs" ["row"] 27 (spRS K 14) := ok_row_signs B G_sign_of G_difference_row G_trend_signs G_joined F_row_signs (mg_of KX G n_row_signs) k_row_signs (F_row_signs.binds (fun _ _ _ _ _ _ us hl => match us, hl with | [_], _ => rfl)) 14 (by decide)
  have O_signs_of := ok_signs_of (P := topP) (w := w) (base := base) B c_Piece n_row X_BadPlace G_is_integer G_Piece_stretched G_row_signs F_signs_of
  have G_signs_of : CallF topP w K mg base "signs_of" ["p", "low"] 28 (spSigns K C_Piece C_BadPlace) := ⟨_, _, O_signs_of, mg_of KX G n_signs_of, k_signs_of, binds_signs2 F_signs_of⟩
  obtain ⟨dsS, hdsS1, hdsS2⟩ := binds_signs1 F_signs_of
  have G_signs_of_1 : CallFD topP w K mg base "signs_of" ["p", "low"] 28 (spSigns K C_Piece C_BadPlace) [.int 0] := ⟨_, _, dsS, O_signs_of, mg_of KX G n_signs_of, k_signs_of, hdsS2, hdsS1⟩
  have G_last_above : CallF topP w K mg base "last_above" ["p"] 29 (spLastA K C_Piece) := ⟨_, _, ok_last_above B G_signs_of_1 F_last_above, mg_of KX G n_last_above, k_last_above, F_last_above.binds (fun _ _ _ _ _ _ us hl => match us, hl with | [_], _ => rfl)⟩
  have G_all_with : CallF topP w K mg base "all_with" ["p", "value"] 29 (spAllW K C_Piece C_BadNumber) := ⟨_, _, ok_all_with B c_Piece n_row X_BadNumber G_is_integer OS_Piece OIS_Piece G_signs_of_1 F_all_with, mg_of KX G n_all_with, k_all_with, F_all_with.binds (fun _ _ _ _ _ _ us hl => match us, hl with | [_, _], _ => rfl)⟩
  have G__law_pen : CallF topP w K mg base "_law_pen" ["script"] 1 (spPen K) := ⟨_, _, ok__law_pen B F__law_pen, mg_of KX G n__law_pen, k__law_pen, F__law_pen.binds (fun _ _ _ _ _ _ us hl => match us, hl with | [_], _ => rfl)⟩
  have G__law_draw : CallF topP w K mg base "_law_draw" ["pen", "many"] 2 spDraw := ⟨_, _, ok__law_draw B F__law_draw, mg_of KX G n__law_draw, k__law_draw, F__law_draw.binds (fun _ _ _ _ _ _ us hl => match us, hl with | [_, _], _ => rfl)⟩
  have G__law_pick : CallF topP w K mg base "_law_pick" ["pen", "some"] 3 (spPick K) := ⟨_, _, ok__law_pick B G__law_draw F__law_pick, mg_of KX G n__law_pick, k__law_pick, F__law_pick.binds (fun _ _ _ _ _ _ us hl => match us, hl with | [_, _], _ => rfl)⟩
  have G__law_entry : CallF topP w K mg base "_law_entry" ["pen"] 4 spEntry := ⟨_, _, ok__law_entry B G__law_draw G__law_pick F__law_entry, mg_of KX G n__law_entry, k__law_entry, F__law_entry.binds (fun _ _ _ _ _ _ us hl => match us, hl with | [_], _ => rfl)⟩
  have G__law_fraction : CallF topP w K mg base "_law_fraction" ["pen", "most"] 5 spFraction := ⟨_, _, ok__law_fraction B G__law_draw G__law_pick G__law_entry F__law_fraction, mg_of KX G n__law_fraction, k__law_fraction, F__law_fraction.binds (fun _ _ _ _ _ _ us hl => match us, hl with | [_, _], _ => rfl)⟩
  have G__law_upper : CallF topP w K mg base "_law_upper" ["row", "n"] 1 (spValue K) := ⟨_, _, ok__law_upper B F__law_upper, mg_of KX G n__law_upper, k__law_upper, F__law_upper.binds (fun _ _ _ _ _ _ us hl => match us, hl with | [_, _], _ => rfl)⟩
  have G__law_times : CallF topP w K mg base "_law_times" ["one", "other"] 1 (spTimes K) := ⟨_, _, ok__law_times B F__law_times, mg_of KX G n__law_times, k__law_times, F__law_times.binds (fun _ _ _ _ _ _ us hl => match us, hl with | [_, _], _ => rfl)⟩
  have G__law_plus : CallF topP w K mg base "_law_plus" ["one", "other"] 1 (spPlus K) := ⟨_, _, ok__law_plus B F__law_plus, mg_of KX G n__law_plus, k__law_plus, F__law_plus.binds (fun _ _ _ _ _ _ us hl => match us, hl with | [_, _], _ => rfl)⟩
  have G__law_factors : CallF topP w K mg base "_law_factors" ["pen"] 4 (spFactors K) := ⟨_, _, ok__law_factors B G__law_draw G__law_pick F__law_factors, mg_of KX G n__law_factors, k__law_factors, F__law_factors.binds (fun _ _ _ _ _ _ us hl => match us, hl with | [_], _ => rfl)⟩
  have G__law_factor_row : CallF topP w K mg base "_law_factor_row" ["factors"] 2 (spFacRow K) := ⟨_, _, ok__law_factor_row B G__law_times F__law_factor_row, mg_of KX G n__law_factor_row, k__law_factor_row, F__law_factor_row.binds (fun _ _ _ _ _ _ us hl => match us, hl with | [_], _ => rfl)⟩
  have G__law_sign : CallF topP w K mg base "_law_sign" ["value"] 1 spSign := ⟨_, _, ok__law_sign B F__law_sign, mg_of KX G n__law_sign, k__law_sign, F__law_sign.binds (fun _ _ _ _ _ _ us hl => match us, hl with | [_], _ => rfl)⟩
  have G__law_factor_sign : CallF topP w K mg base "_law_factor_sign" ["factors", "n"] 2 (spFacSign K) := ⟨_, _, ok__law_factor_sign B G__law_sign F__law_factor_sign, mg_of KX G n__law_factor_sign, k__law_factor_sign, F__law_factor_sign.binds (fun _ _ _ _ _ _ us hl => match us, hl with | [_, _], _ => rfl)⟩
  have G__law_factor_signs : CallF topP w K mg base "_law_factor_signs" ["factors", "low"] 3 (spFacSigns K) := ⟨_, _, ok__law_factor_signs B G__law_factor_sign F__law_factor_signs, mg_of KX G n__law_factor_signs, k__law_factor_signs, F__law_factor_signs.binds (fun _ _ _ _ _ _ us hl => match us, hl with | [_, _], _ => rfl)⟩
  have G__law_is_refused : CallF topP w K mg base "_law_is_refused" ["piece", "value"] 30 (spRefA C_Piece) := ⟨_, _, ok__law_is_refusedA B X_BadNumber bb G_all_with F__law_is_refused, mg_of KX G n__law_is_refused, k__law_is_refused, F__law_is_refused.binds (fun _ _ _ _ _ _ us hl => match us, hl with | [_, _], _ => rfl)⟩
  have LF : LawF topP w K mg base C_Piece C_BadRow C_BadUnder C_BadNumber := { B := B, M_Piece := M_Piece, M_Piece_1 := M_Piece_1, G_last_above := G_last_above, G_all_with := G_all_with, G__law_pen := G__law_pen, G__law_pick := G__law_pick, G__law_entry := G__law_entry, G__law_fraction := G__law_fraction, G__law_upper := G__law_upper, G__law_plus := G__law_plus, G__law_factors := G__law_factors, G__law_factor_row := G__law_factor_row, G__law_factor_signs := G__law_factor_signs, G__law_is_refused := G__law_is_refused }
  exact ok_law LF F_law
end Ev
namespace HK
open PySem PySem.W PyProof.Rows
set_option maxHeartbeats 0 in
open_top head for PySem.Challenge.rw_everyfloor_k08_whole_last_and_all_places
end HK
open PySem PySem.W PyProof.Rows in
set_option maxHeartbeats 0 in
theorem PySem.Challenge.cw_everyfloor_k08_whole_last_and_all_places_holds : PySem.Challenge.rw_everyfloor_k08_whole_last_and_all_places.Holds := by
  refine HK.head ?_
  k_fill
  refine L2.walk_ofKX (l := PySem.Challenge.rw_everyfloor_k08_whole_last_and_all_places) (n := 63) (k := 32) (sp := Ev.spLaw) (x := "script") (pr := PySem.Challenge.pw_everyfloor_k08_whole_last_and_all_places) rfl (by decide) rfl ⟨rfl, by decide, by decide⟩ (fun w h Y => kIn_of Y) ?F ?S
  case F =>
    intro w mg fa h KX G hmg
    refine' Ev.join KX G hmg ?n_is_integer ?l_is_integer ?c_is_integer ?k_is_integer ?n_common_divisor ?l_common_divisor ?c_common_divisor ?k_common_divisor ?n_sign_of ?l_sign_of ?c_sign_of ?k_sign_of ?n_need_integers ?l_need_integers ?c_need_integers ?k_need_integers ?n_least_form ?l_least_form ?c_least_form ?k_least_form ?n_row_value ?l_row_value ?c_row_value ?k_row_value ?n_is_term ?l_is_term ?c_is_term ?k_is_term ?n_product_entry ?l_product_entry ?c_product_entry ?k_product_entry ?n_as_piece ?l_as_piece ?c_as_piece ?k_as_piece ?n_added ?l_added ?c_added ?k_added ?n_multiplied ?l_multiplied ?c_multiplied ?k_multiplied ?n_difference_row ?l_difference_row ?c_difference_row ?k_difference_row ?n_first_from ?l_first_from ?c_first_from ?k_first_from ?n_trend_signs ?l_trend_signs ?c_trend_signs ?k_trend_signs ?n_joined ?l_joined ?c_joined ?k_joined ?n_row_signs ?l_row_signs ?c_row_signs ?k_row_signs ?n_signs_of ?l_signs_of ?c_signs_of ?k_signs_of ?n_last_above ?l_last_above ?c_last_above ?k_last_above ?n_all_with ?l_all_with ?c_all_with ?k_all_with ?n__law_pen ?l__law_pen ?c__law_pen ?k__law_pen ?n__law_draw ?l__law_draw ?c__law_draw ?k__law_draw ?n__law_pick ?l__law_pick ?c__law_pick ?k__law_pick ?n__law_entry ?l__law_entry ?c__law_entry ?k__law_entry ?n__law_fraction ?l__law_fraction ?c__law_fraction ?k__law_fraction ?n__law_upper ?l__law_upper ?c__law_upper ?k__law_upper ?n__law_times ?l__law_times ?c__law_times ?k__law_times ?n__law_plus ?l__law_plus ?c__law_plus ?k__law_plus ?n__law_factors ?l__law_factors ?c__law_factors ?k__law_factors ?n__law_factor_row ?l__law_factor_row ?c__law_factor_row ?k__law_factor_row ?n__law_sign ?l__law_sign ?c__law_sign ?k__law_sign ?n__law_factor_sign ?l__law_factor_sign ?c__law_factor_sign ?k__law_factor_sign ?n__law_factor_signs ?l__law_factor_signs ?c__law_factor_signs ?k__law_factor_signs ?n__law_is_refused ?l__law_is_refused ?c__law_is_refused ?k__law_is_refused ?n_Piece ?pg_Piece ?hd_Piece ?po_Piece ?sa_Piece ?mk_Piece ?kc_Piece ?cl_Piece ?ob_Piece ?ne_Piece ?nl_Piece ?nt_Piece ?kl_Piece ?kt_Piece ?ki_Piece ?no_Piece_row ?no_Piece_under ?n_Piece_init ?i_Piece_init ?l_Piece_init ?c_Piece_init ?k_Piece_init ?n_Piece_neg ?i_Piece_neg ?l_Piece_neg ?c_Piece_neg ?k_Piece_neg ?n_Piece_add ?i_Piece_add ?l_Piece_add ?c_Piece_add ?k_Piece_add ?n_Piece_sub ?i_Piece_sub ?l_Piece_sub ?c_Piece_sub ?k_Piece_sub ?n_Piece_mul ?i_Piece_mul ?l_Piece_mul ?c_Piece_mul ?k_Piece_mul ?n_Piece_stretched ?i_Piece_stretched ?l_Piece_stretched ?c_Piece_stretched ?k_Piece_stretched ?gs ?tk ?b_len ?b_range ?b_int ?b_bool ?b_str ?b_list ?b_tuple ?b_set ?b_abs ?b_min ?b_max ?b_sum ?b_any ?b_all ?b_sorted ?b_isinstance ?b_enumerate ?b_reversed ?b_zip ?su ?th ?n_BadRow ?x0_BadRow ?x1_BadRow ?x2_BadRow ?x3_BadRow ?x4_BadRow ?x5_BadRow ?x6_BadRow ?x7_BadRow ?x8_BadRow ?x9_BadRow ?y0_BadRow ?yf_BadRow_index ?y1_BadRow ?y2_BadRow ?y3_BadRow ?y4_BadRow ?y5_BadRow ?y6_BadRow ?y7_BadRow ?y8_BadRow ?y9_BadRow ?z0_BadRow ?n_BadUnder ?x0_BadUnder ?x1_BadUnder ?x2_BadUnder ?x3_BadUnder ?x4_BadUnder ?x5_BadUnder ?x6_BadUnder ?x7_BadUnder ?x8_BadUnder ?x9_BadUnder ?y0_BadUnder ?yf_BadUnder_under ?y1_BadUnder ?y2_BadUnder ?y3_BadUnder ?y4_BadUnder ?y5_BadUnder ?y6_BadUnder ?y7_BadUnder ?y8_BadUnder ?y9_BadUnder ?z0_BadUnder ?n_BadPlace ?x0_BadPlace ?x1_BadPlace ?x2_BadPlace ?x3_BadPlace ?x4_BadPlace ?x5_BadPlace ?x6_BadPlace ?x7_BadPlace ?x8_BadPlace ?x9_BadPlace ?y0_BadPlace ?yf_BadPlace_n ?y1_BadPlace ?y2_BadPlace ?y3_BadPlace ?y4_BadPlace ?y5_BadPlace ?y6_BadPlace ?y7_BadPlace ?y8_BadPlace ?y9_BadPlace ?z0_BadPlace ?n_BadNumber ?x0_BadNumber ?x1_BadNumber ?x2_BadNumber ?x3_BadNumber ?x4_BadNumber ?x5_BadNumber ?x6_BadNumber ?x7_BadNumber ?x8_BadNumber ?x9_BadNumber ?y0_BadNumber ?yf_BadNumber_number ?y1_BadNumber ?y2_BadNumber ?y3_BadNumber ?y4_BadNumber ?y5_BadNumber ?y6_BadNumber ?y7_BadNumber ?y8_BadNumber ?y9_BadNumber ?z0_BadNumber ?dt_signs_of ?dt2_signs_of ?dt3_signs_of ?dt_Piece ?dt2_Piece ?dt3_Piece ?sf_Piece ?si_Piece ?is_Piece ?f1_add ?f2_add ?f3_add ?f4_add ?f1_sub ?f2_sub ?f3_sub ?f4_sub ?e_bb ?n_law ?l_law ?c_law ?k_law
    (case n_is_integer => k_is)
    (case l_is_integer => k_is)
    (case c_is_integer => k_is)
    (case k_is_integer => k_is)
    (case n_common_divisor => k_is)
    (case l_common_divisor => k_is)
    (case c_common_divisor => k_is)
    (case k_common_divisor => k_is)
    (case n_sign_of => k_is)
    (case l_sign_of => k_is)
    (case c_sign_of => k_is)
    (case k_sign_of => k_is)
    (case n_need_integers => k_is)
    (case l_need_integers => k_is)
    (case c_need_integers => k_is)
    (case k_need_integers => k_is)
    (case n_least_form => k_is)
    (case l_least_form => k_is)
    (case c_least_form => k_is)
    (case k_least_form => k_is)
    (case n_row_value => k_is)
    (case l_row_value => k_is)
    (case c_row_value => k_is)
    (case k_row_value => k_is)
    (case n_is_term => k_is)
    (case l_is_term => k_is)
    (case c_is_term => k_is)
    (case k_is_term => k_is)
    (case n_product_entry => k_is)
    (case l_product_entry => k_is)
    (case c_product_entry => k_is)
    (case k_product_entry => k_is)
    (case n_as_piece => k_is)
    (case l_as_piece => k_is)
    (case c_as_piece => k_is)
    (case k_as_piece => k_is)
    (case n_added => k_is)
    (case l_added => k_is)
    (case c_added => k_is)
    (case k_added => k_is)
    (case n_multiplied => k_is)
    (case l_multiplied => k_is)
    (case c_multiplied => k_is)
    (case k_multiplied => k_is)
    (case n_difference_row => k_is)
    (case l_difference_row => k_is)
    (case c_difference_row => k_is)
    (case k_difference_row => k_is)
    (case n_first_from => k_is)
    (case l_first_from => k_is)
    (case c_first_from => k_is)
    (case k_first_from => k_is)
    (case n_trend_signs => k_is)
    (case l_trend_signs => k_is)
    (case c_trend_signs => k_is)
    (case k_trend_signs => k_is)
    (case n_joined => k_is)
    (case l_joined => k_is)
    (case c_joined => k_is)
    (case k_joined => k_is)
    (case n_row_signs => k_is)
    (case l_row_signs => k_is)
    (case c_row_signs => k_is)
    (case k_row_signs => k_is)
    (case n_signs_of => k_is)
    (case l_signs_of => k_is)
    (case c_signs_of => k_is)
    (case k_signs_of => k_is)
    (case n_last_above => k_is)
    (case l_last_above => k_is)
    (case c_last_above => k_is)
    (case k_last_above => k_is)
    (case n_all_with => k_is)
    (case l_all_with => k_is)
    (case c_all_with => k_is)
    (case k_all_with => k_is)
    (case n__law_pen => k_is)
    (case l__law_pen => k_is)
    (case c__law_pen => k_is)
    (case k__law_pen => k_is)
    (case n__law_draw => k_is)
    (case l__law_draw => k_is)
    (case c__law_draw => k_is)
    (case k__law_draw => k_is)
    (case n__law_pick => k_is)
    (case l__law_pick => k_is)
    (case c__law_pick => k_is)
    (case k__law_pick => k_is)
    (case n__law_entry => k_is)
    (case l__law_entry => k_is)
    (case c__law_entry => k_is)
    (case k__law_entry => k_is)
    (case n__law_fraction => k_is)
    (case l__law_fraction => k_is)
    (case c__law_fraction => k_is)
    (case k__law_fraction => k_is)
    (case n__law_upper => k_is)
    (case l__law_upper => k_is)
    (case c__law_upper => k_is)
    (case k__law_upper => k_is)
    (case n__law_times => k_is)
    (case l__law_times => k_is)
    (case c__law_times => k_is)
    (case k__law_times => k_is)
    (case n__law_plus => k_is)
    (case l__law_plus => k_is)
    (case c__law_plus => k_is)
    (case k__law_plus => k_is)
    (case n__law_factors => k_is)
    (case l__law_factors => k_is)
    (case c__law_factors => k_is)
    (case k__law_factors => k_is)
    (case n__law_factor_row => k_is)
    (case l__law_factor_row => k_is)
    (case c__law_factor_row => k_is)
    (case k__law_factor_row => k_is)
    (case n__law_sign => k_is)
    (case l__law_sign => k_is)
    (case c__law_sign => k_is)
    (case k__law_sign => k_is)
    (case n__law_factor_sign => k_is)
    (case l__law_factor_sign => k_is)
    (case c__law_factor_sign => k_is)
    (case k__law_factor_sign => k_is)
    (case n__law_factor_signs => k_is)
    (case l__law_factor_signs => k_is)
    (case c__law_factor_signs => k_is)
    (case k__law_factor_signs => k_is)
    (case n__law_is_refused => k_is)
    (case l__law_is_refused => k_is)
    (case c__law_is_refused => k_is)
    (case k__law_is_refused => k_is)
    (case n_Piece => k_is)
    (case pg_Piece => k_is)
    (case hd_Piece => k_is)
    (case po_Piece => k_is)
    (case sa_Piece => k_is)
    (case mk_Piece => k_is)
    (case kc_Piece => k_is)
    (case cl_Piece => k_is)
    (case ob_Piece => k_is)
    (case ne_Piece => k_is)
    (case nl_Piece => k_is)
    (case nt_Piece => k_is)
    (case kl_Piece => kit_is)
    (case kt_Piece => kit_is)
    (case ki_Piece => kit_is)
    (case no_Piece_row => k_is)
    (case no_Piece_under => k_is)
    (case n_Piece_init => k_is)
    (case i_Piece_init => k_is)
    (case l_Piece_init => k_is)
    (case c_Piece_init => k_is)
    (case k_Piece_init => k_is)
    (case n_Piece_neg => k_is)
    (case i_Piece_neg => k_is)
    (case l_Piece_neg => k_is)
    (case c_Piece_neg => k_is)
    (case k_Piece_neg => k_is)
    (case n_Piece_add => k_is)
    (case i_Piece_add => k_is)
    (case l_Piece_add => k_is)
    (case c_Piece_add => k_is)
    (case k_Piece_add => k_is)
    (case n_Piece_sub => k_is)
    (case i_Piece_sub => k_is)
    (case l_Piece_sub => k_is)
    (case c_Piece_sub => k_is)
    (case k_Piece_sub => k_is)
    (case n_Piece_mul => k_is)
    (case i_Piece_mul => k_is)
    (case l_Piece_mul => k_is)
    (case c_Piece_mul => k_is)
    (case k_Piece_mul => k_is)
    (case n_Piece_stretched => k_is)
    (case i_Piece_stretched => k_is)
    (case l_Piece_stretched => k_is)
    (case c_Piece_stretched => k_is)
    (case k_Piece_stretched => k_is)
    (case gs => k_is)
    (case tk => k_is)
    (case b_len => k_is)
    (case b_range => k_is)
    (case b_int => k_is)
    (case b_bool => k_is)
    (case b_str => k_is)
    (case b_list => k_is)
    (case b_tuple => k_is)
    (case b_set => k_is)
    (case b_abs => k_is)
    (case b_min => k_is)
    (case b_max => k_is)
    (case b_sum => k_is)
    (case b_any => k_is)
    (case b_all => k_is)
    (case b_sorted => k_is)
    (case b_isinstance => k_is)
    (case b_enumerate => k_is)
    (case b_reversed => k_is)
    (case b_zip => k_is)
    (case su => k_is)
    (case th => k_is)
    (case n_BadRow => k_is)
    (case x0_BadRow => k_is)
    (case x1_BadRow => exact rfl)
    (case x2_BadRow => k_is)
    (case x3_BadRow => k_is)
    (case x4_BadRow => k_is)
    (case x5_BadRow => k_is)
    (case x6_BadRow => k_is)
    (case x7_BadRow => k_is)
    (case x8_BadRow => k_is)
    (case x9_BadRow => k_is)
    (case y0_BadRow => k_is)
    (case yf_BadRow_index => k_is)
    (case y1_BadRow => k_is)
    (case y2_BadRow => k_is)
    (case y3_BadRow => ks_is)
    (case y4_BadRow => k_is)
    (case y5_BadRow => k_is)
    (case y6_BadRow => k_is)
    (case y7_BadRow => k_is)
    (case y8_BadRow => exact rfl)
    (case y9_BadRow => exact rfl)
    (case z0_BadRow => k_is)
    (case n_BadUnder => k_is)
    (case x0_BadUnder => k_is)
    (case x1_BadUnder => exact rfl)
    (case x2_BadUnder => k_is)
    (case x3_BadUnder => k_is)
    (case x4_BadUnder => k_is)
    (case x5_BadUnder => k_is)
    (case x6_BadUnder => k_is)
    (case x7_BadUnder => k_is)
    (case x8_BadUnder => k_is)
    (case x9_BadUnder => k_is)
    (case y0_BadUnder => k_is)
    (case yf_BadUnder_under => k_is)
    (case y1_BadUnder => k_is)
    (case y2_BadUnder => k_is)
    (case y3_BadUnder => ks_is)
    (case y4_BadUnder => k_is)
    (case y5_BadUnder => k_is)
    (case y6_BadUnder => k_is)
    (case y7_BadUnder => k_is)
    (case y8_BadUnder => exact rfl)
    (case y9_BadUnder => exact rfl)
    (case z0_BadUnder => k_is)
    (case n_BadPlace => k_is)
    (case x0_BadPlace => k_is)
    (case x1_BadPlace => exact rfl)
    (case x2_BadPlace => k_is)
    (case x3_BadPlace => k_is)
    (case x4_BadPlace => k_is)
    (case x5_BadPlace => k_is)
    (case x6_BadPlace => k_is)
    (case x7_BadPlace => k_is)
    (case x8_BadPlace => k_is)
    (case x9_BadPlace => k_is)
    (case y0_BadPlace => k_is)
    (case yf_BadPlace_n => k_is)
    (case y1_BadPlace => k_is)
    (case y2_BadPlace => k_is)
    (case y3_BadPlace => ks_is)
    (case y4_BadPlace => k_is)
    (case y5_BadPlace => k_is)
    (case y6_BadPlace => k_is)
    (case y7_BadPlace => k_is)
    (case y8_BadPlace => exact rfl)
    (case y9_BadPlace => exact rfl)
    (case z0_BadPlace => k_is)
    (case n_BadNumber => k_is)
    (case x0_BadNumber => k_is)
    (case x1_BadNumber => exact rfl)
    (case x2_BadNumber => k_is)
    (case x3_BadNumber => k_is)
    (case x4_BadNumber => k_is)
    (case x5_BadNumber => k_is)
    (case x6_BadNumber => k_is)
    (case x7_BadNumber => k_is)
    (case x8_BadNumber => k_is)
    (case x9_BadNumber => k_is)
    (case y0_BadNumber => k_is)
    (case yf_BadNumber_number => k_is)
    (case y1_BadNumber => k_is)
    (case y2_BadNumber => k_is)
    (case y3_BadNumber => ks_is)
    (case y4_BadNumber => k_is)
    (case y5_BadNumber => k_is)
    (case y6_BadNumber => k_is)
    (case y7_BadNumber => k_is)
    (case y8_BadNumber => exact rfl)
    (case y9_BadNumber => exact rfl)
    (case z0_BadNumber => k_is)
    (case dt_signs_of => exact rfl)
    (case dt2_signs_of => k_is)
    (case dt3_signs_of => exact rfl)
    (case dt_Piece => exact rfl)
    (case dt2_Piece => k_is)
    (case dt3_Piece => exact rfl)
    (case sf_Piece => k_is)
    (case si_Piece => k_is)
    (case is_Piece => k_is)
    (case f1_add => k_is)
    (case f2_add => k_is)
    (case f3_add => k_is)
    (case f4_add => first | exact .inl rfl | exact .inr ⟨_, rfl⟩)
    (case f1_sub => k_is)
    (case f2_sub => k_is)
    (case f3_sub => k_is)
    (case f4_sub => first | exact .inl rfl | exact .inr ⟨_, rfl⟩)
    (case e_bb => k_is)
    (case n_law => k_is)
    (case l_law => k_is)
    (case c_law => k_is)
    (case k_law => k_is)
  case S => exact fun K H a ns hl hS => ⟨a, ns, rfl, hl, hS, fun _ => rfl⟩
