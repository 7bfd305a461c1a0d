import PyProof.Rows.All
import Wide.All
import OpenK.AllK
import Wide.FinOn
import KE.KExcSuper
import KE.KExcInit
import KE.KTryMore
import HandS.ForMost
import HandS.ForExc
import HandS.ExcInit
import HandS.ExcIs
import KE.KExcIs
import HandS.IsInst
import HandS.ExcField
import HandS.Star
import HandS.Wide
import HandS.Evl
import HandS.EndBits
import HandS.Defaults
import PyProof.ReprRoads
import HandS.Style
import PySem.Challenge.RW_roompace_k03_arithmetic
set_option Elab.async false
set_option linter.all false
set_option maxRecDepth 100000
set_option maxHeartbeats 4000000
/-! Making an exception of an own class whose __init__ says super().__init__(text) and then self.field = argument. -/
namespace Rm
open PySem PySem.W PySem.Calls PyProof.Rows

/-- the two statements of such an __init__ -/
def xBody (msg fld : Str) (p0 p1 p2 p3 p4 p5 p6 p7 p8 p9 : Pos) (k : Nat) : List Stmt :=
  [.Expr (.Call (.Attribute (.Call (.Name "super" p0) [] [] p1) "__init__" p2) [.Constant (.str msg) k p3] [] p4) p5,
   .Assign [.Attribute (.Name "self" p6) fld p7] (.Name fld p8) p9]

/-- what the written part says of such a class -/
structure XCls (prog : Program) (K : Frag) (mg : Str → Option Value) (B newId initId : String) (bmB : List Value) (fld : Str) (C : Addr) : Prop where
  fb : ExcBaseFacts B newId initId bmB
  kf : KxsFacts B initId
  sf : StoreFacts B bmB "object.__setattr__" "object"
  ei : excInitIn K C bmB newId = true
  eo : excOver K C bmB = true
  fn : ∃ (fI cc cda : Addr) (oc : Value) (od : Option Addr) (osl : Array (Option Value)) (qual : Str) (params : Arguments) (scope : Scope) (dV kV doc pm ct : Value) (an : Option Addr) (msg : Str)
      (p0 p1 p2 p3 p4 p5 p6 p7 p8 p9 : Pos) (kk : Nat) (cl : Value) (cld : Option Addr) (csl : Array (Option Value)) (ccl : Value) (cdd : Option Addr) (vs : Array Value) (ccs : Array (Option Value)) (file : Str) (tf : Tok),
    findIn K (.ref C) "__init__" = some (some (.ref fI)) ∧ isFn K (.ref fI) = true ∧
    K.lookup fI = some ⟨oc, od, .func (ksFn "__init__" qual params (xBody msg fld p0 p1 p2 p3 p4 p5 p6 p7 p8 p9 kk) scope dV kV doc pm an (.ref cda) ct cc), osl⟩ ∧
    codeIn K (.ref cda) qual = true ∧
    K.lookup cc = some ⟨cl, cld, .cell (some (.ref C)), csl⟩ ∧
    K.lookup cda = some ⟨ccl, cdd, .fields vs, ccs⟩ ∧ vs[2]? = some (.str file tf) ∧ ((prog.main.file : Str) == file) = true ∧
    (params.posonlyargs ++ params.args).head?.map (·.arg) = some ("self" : Str) ∧
    (∀ (s : Shared) (a b : Value), BindsTo s (ksFn "__init__" qual params (xBody msg fld p0 p1 p2 p3 p4 p5 p6 p7 p8 p9 kk) scope dV kV doc pm an (.ref cda) ct cc) ⟨[a, b], []⟩ [("self", a), (fld, b)]) ∧
    (∀ (s : Shared) (a b : Value), BindsTo s (ksFn "__init__" qual params (xBody msg fld p0 p1 p2 p3 p4 p5 p6 p7 p8 p9 kk) scope dV kV doc pm an (.ref cda) ct cc) ⟨[a], [(fld, b)]⟩ [("self", a), (fld, b)]) ∧
    scope.names.lookup ("super" : Str) = some .globalImplicit ∧ scope.names.lookup ("__class__" : Str) = some .free ∧ scope.names.lookup ("self" : Str) = some .local ∧ scope.names.lookup fld = some .local ∧
    (∀ x ∈ scope.names, x.2 ≠ .cell) ∧ scope.isCoroutine = false ∧ scope.isGenerator = false ∧ scope.kind = .function ∧
    (∀ L : Addr, ∃ pl : Sem Bool, eval (.Call (.Attribute (.Call (.Name "super" p0) [] [] p1) "__init__" p2) [.Constant (.str msg) kk p3] [] p4) (ksEnv qual scope L fI (.ref cda) cc) = (do
      let ov ← attributeBase (.Call (.Name "super" p0) [] [] p1) "__init__" (ksEnv qual scope L fI (.ref cda) cc) (eval (.Call (.Name "super" p0) [] [] p1) (ksEnv qual scope L fI (.ref cda) cc))
      standAt p2.atName
      let (g, first) ← holding [ov] (getMethod ov "__init__" pl)
      callWith p4 g first (backTo p4 (starEach [.Constant (.str msg) kk p3] (ksEnv qual scope L fI (.ref cda) cc))) []))
  fs : ¬ ("self" : Str) = fld
  fd : (fld == ("__debug__" : Str)) = false
  fcd : (fld == ("__classdict__" : Str)) = false
  su : mg "super" = none
  cd : ∃ cd, clsIn K C = some cd
  sup : ks_superIn K C C "__init__" = some (some (.builtin initId))
  sB : subIn K (.ref C) (.type B) = some true
  sC : subIn K (.ref C) (.ref C) = some true
  op : nsIn K cStatics "thirdparty.any" = some none
  sa : findIn K (.ref C) "__setattr__" = some (some (.builtin "object.__setattr__"))
  tk : takerIn K C fld = some none
  hd : hasDictIn K C = true
  top : (prog.main.scope.names.lookup ("super" : Str)).isSome = false
end Rm
namespace Rm
open PySem PySem.W PySem.Calls PyProof.Rows
open Builtin Builtin.ObjectAttr
section
variable {prog : Program} {w : World} {A : Around} {E : Value → Shared → Prop} {R : Result → Shared → Prop} {s : Shared} {K : Frag} {mg mb : Str → Option Value} {B newId initId fieldN : String} {bmB : List Value} {fld : Str} {C : Addr}

/-- self.fld = v on an exception that has no dict yet, any base -/
theorem x_store {x t : Addr} {v : Value} {tk : Tok} (T : XCls prog K mg B newId initId bmB fld C) (X : K.In s.heap) (hx : s.heap.get? x = some (excObj C t none .none))
    (hq : ∀ h' tk' dx, (∀ b o, b ≠ x → s.heap.get? b = some o → h'.get? b = some o) → s.heap.objs.size ≤ dx → dx ≠ x → h'.get? x = some (excObj C t (some dx) .none) →
      h'.Ns1 dx (fun y => if y = fld then some v else none) → R (.ok (.ret .none)) { s with heap := h', toks := tk' }) :
    codeAny (model prog w) A (.call (.builtin "object.__setattr__") ⟨[.ref x, .str fld tk, v], []⟩) R s := by
  have I : InstAt s.heap x (excObj C t none .none) C none := ⟨hx, rfl, rfl, trivial⟩
  have hxs : x ≠ s.heap.objs.size := Nat.ne_of_lt (Heap.lt_size hx)
  obtain ⟨cd, hcd⟩ := T.cd
  have hcls : Looks (model prog w) s.heap (classData C) cd := looks_clsIn X hcd
  have hh : cd.hasDict = true := by
    have := T.hd
    unfold hasDictIn at this
    rw [hcd] at this
    exact this
  refine osa_openX T.sf X I T.eo T.tk fun b => ?_
  obtain ⟨hp, g, d, t0, os⟩ := s
  obtain ⟨nm, bs, mro, ns, qn, hd', sn, sb, ab, col, del⟩ := cd
  dsimp only at hh
  subst hh
  show wpAny _ _ (storeInOwnDict (.ref x) (.ref C) (.str fld tk) fld v b) _ _ _
  unfold storeInOwnDict ownDictForStores
  repeat (first | with_reducible refine HandSPX.store_in_new ?_ ?_ | with_reducible refine wpAny_loadPart_at hx ?_ | with_reducible refine hcls.at ?_ | wp_step)
  · exact ⟨_, #[], _, (Heap.get?_update_ne _ _ _ _ hxs.symm).trans (Heap.get?_push_at rfl rfl), rfl, fun e he => absurd he (by simp), fun _ => rfl⟩
  · intro h' tk' hn' hs
    have hx1 := Heap.get?_push_of_some (h := hp) { cls := .type "dict", data := .dict #[] } hx
    refine hq h' tk' hp.objs.size (fun b o hb ho => ?_) (Nat.le_refl _) hxs.symm ?_ hn'
    · exact (hs.2 b (Nat.ne_of_lt (Heap.lt_size ho))).trans ((Heap.get?_update_ne _ _ _ _ hb).trans (Heap.get?_push_of_some _ ho))
    · exact (hs.2 x hxs).trans (Heap.get?_update_self _ hx1 rfl)
end
end Rm
namespace Rm
open PySem PySem.W PySem.Calls PyProof.Rows
section
variable {prog : Program} {w : World} {A : Around} {E : Value → Shared → Prop} {R : Result → Shared → Prop} {s : Shared} {K : Frag} {mg mb : Str → Option Value} {B newId initId fieldN : String} {bmB : List Value} {fld : Str} {C : Addr}

/-- the globals and the built-ins stand in the heap -/
structure Gnd (K : Frag) (mg : Str → Option Value) (h : Heap) : Prop where
  k : K.In h
  g : h.Ns mainGlobals mg
  b : ∃ mb, h.Ns builtinsNs mb ∧ ∀ x : Str, x ≠ "__name__" → mb x = bootBuiltins x
  l : h.NoLimit
theorem Gnd.keeps {h h' : Heap} (G : Gnd K mg h) (k : ∀ b o, h.get? b = some o → h'.get? b = some o) : Gnd K mg h' := by
  obtain ⟨a, b, ⟨mb, c, d⟩, l⟩ := G
  exact ⟨a.keeps k, b.keeps k, ⟨mb, c.keeps k, d⟩, l.keeps k⟩

theorem x_body {e t L f cc cda : Addr} {q msg : Str} {scope : Scope} {u : Value} {p0 p1 p2 p3 p4 p5 p6 p7 p8 p9 : Pos} {kk : Nat}
    {body : List Stmt} {of oc : Obj} {fd : FuncData} {ar : Arg} {vs : Array Value} {file : Str} {tf : Tok} {m : Str → Option Value}
    (T : XCls prog K mg B newId initId bmB fld C) (G : Gnd K mg s.heap) (he : s.heap.get? e = some (excObj C t none .none)) (heK : K.lookup e = none)
    (hL : s.heap.Ns L m) (m1 : m "self" = some (.ref e)) (m2 : m fld = some u)
    (hf : s.heap.get? f = some of) (hfd : of.data = .func fd) (hp : (fd.params.posonlyargs ++ fd.params.args).head? = some ar) (har : ar.arg = "self")
    (hcc : s.heap.get? cda = some oc) (hoc : oc.data = .fields vs) (hvs : vs[2]? = some (.str file tf)) (hfile : ((prog.main.file : Str) == file) = true)
    (hcell : s.heap.IsCell cc (some (.ref C)))
    (sk1 : scope.names.lookup ("super" : Str) = some .globalImplicit) (sk2 : scope.names.lookup ("__class__" : Str) = some .free) (sk3 : scope.names.lookup ("self" : Str) = some .local) (sk4 : scope.names.lookup fld = some .local)
    (hk : scope.kind = .function) {pl : Sem Bool}
    (hev : eval (.Call (.Attribute (.Call (.Name "super" p0) [] [] p1) "__init__" p2) [.Constant (.str msg) kk p3] [] p4) (ksEnv q scope L f (.ref cda) cc) = (do
      let ov ← attributeBase (.Call (.Name "super" p0) [] [] p1) "__init__" (ksEnv q scope L f (.ref cda) cc) (eval (.Call (.Name "super" p0) [] [] p1) (ksEnv q scope L f (.ref cda) cc))
      standAt p2.atName
      let (g, first) ← holding [ov] (getMethod ov "__init__" pl)
      callWith p4 g first (backTo p4 (starEach [.Constant (.str msg) kk p3] (ksEnv q scope L f (.ref cda) cc))) []))
    (hq : ∀ h' t1 dx tk', (∀ b o, b ≠ e → s.heap.get? b = some o → h'.get? b = some o) → s.heap.objs.size ≤ dx → dx ≠ e → h'.get? e = some (excObj C t1 (some dx) .none) →
      h'.Ns1 dx (fun y => if y = fld then some u else none) → R (.ok (.ret .none)) { s with heap := h', toks := tk' }) :
    _root_.PySem.wpAt (model prog w) A (.func body (ksEnv q scope L f (.ref cda) cc)) (execs (xBody msg fld p0 p1 p2 p3 p4 p5 p6 p7 p8 p9 kk) (ksEnv q scope L f (.ref cda) cc))
      (fun fl s' => R (.ok (.ret (match fl with | .ret v => v | _ => .none))) s') E s := by
  obtain ⟨cd, hcd⟩ := T.cd
  obtain ⟨mb, hmb, hbb⟩ := G.b
  have eL : L ≠ e := fun z => by
    obtain ⟨oL, es, ep, h1, h2, _⟩ := hL
    rw [z, he] at h1
    cases h1
    cases h2
  unfold xBody
  refine ks_wpAt_execs_cons (ks_wpAt_Expr_any (ks_wpAt_MethodCall (ks_wpAt_super_base (env := ksEnv q scope L f (.ref cda) cc) sk1 sk2 (by decide +kernel) rfl hf hfd hp rfl hcc hoc hvs hfile T.top ?_) hev) (by unfold interactive; simp [hk]; done))
  obtain ⟨hh, g, d, t0, os⟩ := s
  obtain ⟨oD, hD1, hD2⟩ : ∃ oD, hh.get? C = some oD ∧ oD.data = .cls cd := by
    unfold clsIn at hcd
    split at hcd
    · rename_i c d cd' sl ho
      cases hcd
      exact ⟨_, G.k _ _ ho, rfl⟩
    · cases hcd
  refine ks_loadName_global hk sk1 (loadGlobal_builtin (env := ksEnv q scope L f (.ref cda) cc) G.g T.su hmb ((hbb _ (by decide +kernel)).trans (by decide +kernel)) ⟨rfl, ?_⟩)
  refine wpAny_loadName_free hk sk2 rfl hcell ?_
  refine wpAny_loadName_local hk (by rw [har]; exact sk3) hL (by rw [har]; exact m1) ?_
  refine ks_wpAny_isType_cls hD1 hD2 ⟨rfl, ?_⟩
  refine ks_wpAny_call_super hD1 hD2 he rfl (fun c z => by cases z) (looks_subIn G.k T.sC) (fun h1 hso k1 => ?_)
  have G1 := G.keeps (h' := h1) k1
  have he1 := k1 _ _ he
  have I1 : InstAt h1 e (excObj C t none .none) C none := ⟨he1, rfl, rfl, trivial⟩
  have hI : Looks (model prog w) h1 (isInstance (.ref e) (.type B)) true := I1.type.andThen (looks_subIn G1.k T.sB)
  have hsp := T.sup
  unfold ks_superIn at hsp
  rw [hcd] at hsp
  refine kxs_getMethod T.kf hso (looks_opaque G1.k T.op) (l₀ := cd.mro) (fun A Q E s k q => wpAny_bind ((looks_clsIn G1.k hcd) A _ E s k (wpAny_pure q))) rfl G1.k hsp hI (fun z => ?_) (by decide +kernel) ?_
  · rw [z, hD1] at he
    cases he
    cases hD2
  -- the method-wrapper stands
  have hmw : (h1.push (kxs_mw initId e)).get? h1.objs.size = some (kxs_mw initId e) := Heap.get?_push_at rfl rfl
  have k2 : ∀ b o, h1.get? b = some o → (h1.push (kxs_mw initId e)).get? b = some o := fun b o z => Heap.get?_push_of_some _ z
  have he2 := k2 _ _ he1
  refine kxs_callWith (i := initId) (x := e) rfl ?_
  have hse : starEach [Expr.Constant (.str msg) kk p3] (ksEnv q scope L f (.ref cda) cc) = (false, eval (.Constant (.str msg) kk p3) (ksEnv q scope L f (.ref cda) cc)) :: starEach [] (ksEnv q scope L f (.ref cda) cc) := by rfl
  rw [hse]
  refine evalArgs_plain ?_
  have goal : ∀ {Q : List Value → Shared → Prop} {s1 : Shared}, (∀ tk, Q [.str msg tk] { s1 with toks := s1.toks + 1 }) → wpAny (model prog w) A (spliced (backTo p4 (starEach [Expr.Constant (.str msg) kk p3] (ksEnv q scope L f (.ref cda) cc)))) Q E s1 := fun {Q s1} h =>
    spliced_more (wpAny_Constant_str (spliced_none (h _)))
  refine goal fun tk => ⟨hmw, ?_⟩
  -- BaseException.__init__ lays the args anew
  obtain ⟨nm, N', qn, bs, bm, hdct, sn, sub, ab, col, dd, k0, k3, k4, k5, k6, hC, hT⟩ := excInit_of G1.k T.ei
  refine wpAny_call (codeAny_of_tree ?_)
  show wpAny _ A.in1 (callAny (.ref h1.objs.size) ⟨[.str msg tk], []⟩) _ _ _
  simp only [callAny]
  refine wpAny_bind (wpAny_load hmw ?_)
  simp only [kxs_mw]
  refine KFB.if_so (by decide) (wpAny_bind (check_bound_init T.fb.toExcCallFacts (k2 _ _ hC) he2 rfl ?_))
  refine wpAny_bind (wpAny_pure (wpAny_pure ⟨plainId_quiet T.fb.init.plain _, codeAny_builtin T.fb.initEntry ?_⟩))
  refine exc_init_tree (cls := .ref C) (t0 := t) (dv := none) (c2 := .none) (c3 := .none) (b4 := .bool false) he2 (by rw [sizeLine_eq]; show 1 ≤ 16777216; decide) (fun h3 k3' he3 _ => ?_)
  have k13 : ∀ b o, b ≠ e → hh.get? b = some o → h3.get? b = some o := fun b o hb z => k3' b o hb (k2 _ _ (k1 _ _ z))
  have X3 : K.In h3 := fun b o z => k13 b o (fun y => by
    rw [y, heK] at z
    cases z) (G.k _ _ z)
  have hL3 : h3.Ns L m := by
    obtain ⟨oL, es, ep, z1, z2⟩ := hL
    exact ⟨oL, es, ep, k13 _ _ eL z1, z2⟩
  -- self.field = field
  refine wpAt_of_wpAny (wpAny_execs_cons (plainObj_wpAny_Assign_Attribute (wpAny_Name (wpAny_loadName_local hk sk4 hL3 m2 ?_) T.fd) rfl))
  refine wpAny_Name (wpAny_loadName_local hk sk3 hL3 m1 ?_) (by decide)
  refine set_plain X3 (ox := excObj C _ none .none) (od := none) ⟨he3, rfl, rfl, trivial⟩ T.sa ?_
  refine x_store T X3 he3 fun h4 tk' dx k4' hdx hde he4 hn4 => ?_
  refine wpAny_execs_nil ?_
  have sz : hh.objs.size ≤ dx := by
    exact Nat.le_trans (Nat.le_of_lt (Heap.lt_size (k3' _ _ (Nat.ne_of_gt (Heap.lt_size he)) (k2 _ _ hso)))) hdx
  exact hq h4 _ dx tk' (fun b o hb z => k4' b o hb (k13 b o hb z)) sz hde he4 hn4

/-- the call of such an __init__: R of the answer None, whatever the tokens -/
theorem x_call {e t fI : Addr} {u : Value} {args : Args} (T : XCls prog K mg B newId initId bmB fld C) (G : Gnd K mg s.heap) (he : s.heap.get? e = some (excObj C t none .none)) (heK : K.lookup e = none) (hroom : A.depth < recursionLimit)
    (hi : findIn K (.ref C) "__init__" = some (some (.ref fI))) (ha : args = ⟨[.ref e, u], []⟩ ∨ args = ⟨[.ref e], [(fld, u)]⟩)
    (hq : ∀ h' t1 dx tk', (∀ b o, b ≠ e → s.heap.get? b = some o → h'.get? b = some o) → s.heap.objs.size ≤ dx → dx ≠ e → h'.get? e = some (excObj C t1 (some dx) .none) →
      h'.Ns1 dx (fun y => if y = fld then some u else none) → R (.ok (.ret .none)) { s with heap := h', toks := tk' }) :
    codeAny (model prog w) A (.call (.ref fI) args) R s := by
  obtain ⟨fI', cc, cda, oc, od, osl, qual, params, scope, dV, kV, doc, pm, ct, an, msg, p0, p1, p2, p3, p4, p5, p6, p7, p8, p9, kk, cl, cld, csl, ccl, cdd, vs, ccs, file, tf, f1, f2, f3, f4, f5, f6, f7, f8, f9, b1, b2, k1, k2, k3, k4, k5, k6, k7, k8, hev⟩ := T.fn
  rw [hi] at f1
  cases f1
  obtain ⟨ar, har, har2⟩ : ∃ ar, (params.posonlyargs ++ params.args).head? = some ar ∧ ar.arg = "self" := by
    cases z : (params.posonlyargs ++ params.args).head? with
    | none => rw [z] at f9; cases f9
    | some ar => rw [z] at f9; exact ⟨ar, rfl, Option.some.inj f9⟩
  have hbind : BindsTo s (ksFn "__init__" qual params (xBody msg fld p0 p1 p2 p3 p4 p5 p6 p7 p8 p9 kk) scope dV kV doc pm an (.ref cda) ct cc) args [("self", .ref e), (fld, u)] := by
    rcases ha with rfl | rfl
    · exact b1 _ _ _
    · exact b2 _ _ _
  refine ks_codeAny_call_defAt (fd := ksFn "__init__" qual params (xBody msg fld p0 p1 p2 p3 p4 p5 p6 p7 p8 p9 kk) scope dV kV doc pm an (.ref cda) ct cc) (body := xBody msg fld p0 p1 p2 p3 p4 p5 p6 p7 p8 p9 kk)
    (binds := [("self", .ref e), (fld, u)]) hroom (G.k _ _ f3) rfl G.l (codeRec_of G.k f4) rfl hbind k5 ?_ (fun h1 hns hk1 => ?_) k6 k7 k8
  · intro x hx
    rcases List.mem_cons.mp hx with rfl | hx
    · exact k3
    · rcases List.mem_cons.mp hx with rfl | hx
      · exact k4
      · cases hx
  · obtain ⟨pl, hpl⟩ := hev s.heap.objs.size
    have G1 := G.keeps (h' := h1) hk1
    have e1 := hk1 _ _ he
    refine x_body (s := { s with heap := h1, toks := s.toks + 2 }) (e := e) (t := t) (L := s.heap.objs.size) (f := fI) (cc := cc) (cda := cda) (u := u) T G1 e1 heK hns ?_ ?_ (G1.k _ _ f3) rfl har har2 (G1.k _ _ f6) rfl f7 f8 ⟨_, G1.k _ _ f5, rfl⟩ k1 k2 k3 k4 k8 hpl (fun h' t1 dx tk' a1 a2 a3 a4 a5 => ?_)
    · have z : (("self" : Str) == fld) = false := beq_false_of_ne T.fs
      show List.lookup ("self" : Str) [(fld, u), ("self", Value.ref e)] = some (Value.ref e)
      rw [List.lookup, z]
      simp [List.lookup]
    · show List.lookup fld [(fld, u), ("self", Value.ref e)] = some u
      simp [List.lookup]
    · refine hq h' t1 dx tk' (fun b o hb z => a1 b o hb (hk1 _ _ z)) (Nat.le_trans ?_ a2) a3 a4 a5
      obtain ⟨oL, es, ep, z1, _⟩ := hns
      exact Nat.le_of_lt (Heap.lt_size z1)
end
end Rm
namespace Rm
open PySem PySem.W PySem.Calls PyProof.Rows PySem.Spec L2
/-- an exception at a, of the class cls, its own dict at d; fr: not raised yet -/
def xV (a : Addr) (cls : Value) (d : Option Addr) (fr : Bool) : HO := .ext fun h => ∃ (o : Obj) (vs : Array Value), h.get? a = some o ∧ Zc cls d o ∧ o.data = .fields vs ∧ (fr = true → vs[1]? = some .none)
theorem xV_ok {P : Program} {w : World} {H : Hp} {h : Heap} {a : Addr} {cls : Value} {d : Option Addr} {fr : Bool} {o : Obj} {vs : Array Value} (e : h.get? a = some o) (z : Zc cls d o) (dd : o.data = .fields vs) (h1 : fr = true → vs[1]? = some .none) : ObjOk P w H h a (xV a cls d fr) :=
  ⟨⟨o, vs, e, z, dd, h1⟩, ⟨o, e⟩, fun _ _ y k => by
    obtain ⟨o', vs', y1, y2⟩ := y
    exact ⟨o', vs', k _ y1, y2⟩⟩
theorem xV_at {P : Program} {w : World} {H : Hp} {h : Heap} {a : Addr} {cls : Value} {d : Option Addr} {fr : Bool} (hok : HOk P w H h) (e : H a = some (xV a cls d fr)) :
    ∃ (o : Obj) (vs : Array Value), h.get? a = some o ∧ Zc cls d o ∧ o.data = .fields vs ∧ (fr = true → vs[1]? = some .none) := (hok a _ e).1
theorem xd_ok {P : Program} {w : World} {H : Hp} {h : Heap} {dx : Addr} {f : Str} {v : V} {u : Value} (r : RelV v u) (hn : h.Ns1 dx (fun y => if y = f then some u else none)) : ObjOk P w H h dx (.xd [(f, v)]) :=
  ⟨_, hn, fun g => by
    by_cases e : g = f
    · subst e
      simp [List.lookup]
      exact r
    · have e' : (g == f) = false := by simpa using e
      simp only [List.lookup, e', if_neg e]
      trivial⟩

section
variable {X : Cx} {B newId initId : String} {bmB : List Value} {fld : Str} {C : Addr} {pins : List (Addr × Obj)} {σ : L2.St} {H : Hp} {s : Shared}
theorem gnd_of (I : Inv X pins σ H s) : Gnd X.K X.mg s.heap := by
  obtain ⟨mb, h1, h2⟩ := I.mod.blt
  exact ⟨I.kIn, I.mod.glob.keeps I.bk, ⟨mb, h1.keeps I.bk, h2⟩, I.nolimit⟩
theorem x_new {u : Value} {Q : Value → Shared → Prop} {E : Value → Shared → Prop} (T : XCls X.prog X.K X.mg B newId initId bmB fld C) (hr : Room 1 X.A) (I : Inv X pins σ H s)
    (hq : ∀ h' a t dx tk', (∀ b o, s.heap.get? b = some o → h'.get? b = some o) → s.heap.objs.size ≤ a → s.heap.objs.size ≤ dx → dx ≠ a → h'.get? a = some (excObj C t (some dx) .none) →
      h'.Ns1 dx (fun y => if y = fld then some u else none) → Q (.ref a) { s with heap := h', toks := tk' }) :
    wpAny (model X.prog X.w) X.A (call (.ref C) [u]) Q E s := by
  obtain ⟨fI, _, _, _, _, _, _, _, _, _, _, _, _, _, _, _, _, _, _, _, _, _, _, _, _, _, _, _, _, _, _, _, _, _, _, _, f1, f2, f3, _⟩ := T.fn
  obtain ⟨nm, N', qn, bs, bm, hdct, sn, sub, ab, col, dd, k0, k3, k4, k5, k6, hC, hT⟩ := excInit_of I.kIn T.ei
  have G := gnd_of I
  obtain ⟨hh, g, d, t0, os⟩ := s
  have kp : ∀ b o, hh.get? b = some o → ((hh.push (kdv_tup [u])).push (HandSPX.excO C hh.objs.size)).get? b = some o := fun b o e => Heap.get?_push_of_some _ (Heap.get?_push_of_some _ e)
  have hget : ((hh.push (kdv_tup [u])).push (HandSPX.excO C hh.objs.size)).get? (hh.objs.size + 1) = some (HandSPX.excO C hh.objs.size) := by heap_get
  have tf : typeIn X.K (.ref fI) = some (.type "function") := by
    unfold isFn at f2
    exact eq_of_beq f2
  refine wpAny_call (HandSPX.call_own T.fb hT hC (looks_findIn I.kIn f1) (fun self => bind_fn I.kIn self tf) (by rw [sizeLine_eq]; show 1 ≤ 16777216; decide) ?_)
  refine x_call (s := ⟨(hh.push (kdv_tup [u])).push (HandSPX.excO C hh.objs.size), g, d, t0, os⟩) (e := hh.objs.size + 1) (t := hh.objs.size) T (G.keeps kp) hget ?_ ?_ f1 (.inl rfl) (fun h' t1 dx tk' a1 a2 a3 a4 a5 => ?_)
  · cases z : X.K.lookup (hh.objs.size + 1) with
    | none => rfl
    | some o => exact absurd (Heap.lt_size (I.kIn _ _ z)) (by show ¬ hh.objs.size + 1 < hh.objs.size; omega)
  · have := hr.dp
    rw [make_depth]
    omega
  · refine ⟨rfl, ?_⟩
    refine hq h' (hh.objs.size + 1) t1 dx tk' (fun b o z => a1 b o (Nat.ne_of_lt (Nat.lt_succ_of_lt (Heap.lt_size z))) (kp b o z)) (Nat.le_succ _) (Nat.le_trans ?_ a2) a3 a4 a5
    exact Nat.le_of_lt (Nat.lt_of_succ_lt (Heap.lt_size hget))

/-- the heap with such an exception is a state of ours -/
theorem x_laid {h' : Heap} {a t dx : Addr} {tk : Nat} {v : V} {u : Value} (I : Inv X pins σ H s) (k : ∀ b o, s.heap.get? b = some o → h'.get? b = some o) (ha : s.heap.objs.size ≤ a) (hd : s.heap.objs.size ≤ dx) (nd : dx ≠ a)
    (he : h'.get? a = some (excObj C t (some dx) .none)) (hn : h'.Ns1 dx (fun y => if y = fld then some u else none)) (r : RelV v u) :
    Inv X pins σ (upd (upd H dx (.xd [(fld, v)])) a (xV a (.ref C) (some dx) true)) { s with heap := h', toks := tk } := by
  have na := I.hok.fresh ha
  have nx := I.hok.fresh hd
  have lt : ∀ {b : Addr} {o : Obj}, s.heap.get? b = some o → b ≠ a ∧ b ≠ dx := fun {b o} z =>
    ⟨Nat.ne_of_lt (Nat.lt_of_lt_of_le (Heap.lt_size z) ha), Nat.ne_of_lt (Nat.lt_of_lt_of_le (Heap.lt_size z) hd)⟩
  have at' : ∀ {b : Addr} {o : HO}, H b = some o → b ≠ a ∧ b ≠ dx := fun {b o} z => ⟨ne_of_none z na, ne_of_none z nx⟩
  have same : ∀ {b : Addr} {o : HO}, H b = some o → upd (upd H dx (.xd [(fld, v)])) a (xV a (.ref C) (some dx) true) b = some o := fun {b o} z => by
    rw [upd_ne (at' z).1, upd_ne (at' z).2]
    exact z
  refine I.un (t' := tk) { keep := fun b o z n _ _ => k b o z, slot := fun b o z n _ _ => ⟨o.slots, k b o z⟩, free := fun b o z n _ => ?_, there := fun b o z _ => ⟨o, k b o z⟩, tups := fun b xs z => same z, frzs := fun b o u z => same z, tbls := fun b ps z => ⟨#[], by rw [same z]; simp⟩ } (fun b o z => ?_)
  · rw [upd_ne (lt z).1, upd_ne (lt z).2]
    exact n
  · by_cases hb : b = a
    · subst hb
      rw [upd_same] at z
      cases z
      exact xV_ok he ⟨rfl, rfl⟩ rfl fun _ => rfl
    · rw [upd_ne hb] at z
      by_cases hb2 : b = dx
      · subst hb2
        rw [upd_same] at z
        cases z
        exact xd_ok r hn
      · rw [upd_ne hb2] at z
        exact (I.hok b o z).stay (fun c u _ y => k c u y) (fun c y => same y) (fun c xs y => same y)
/-- the same, the exception itself left out (it's about to be raised) -/
theorem x_laidR {h' : Heap} {a dx : Addr} {tk : Nat} {v : V} {u : Value} (I : Inv X pins σ H s) (k : ∀ b o, s.heap.get? b = some o → h'.get? b = some o) (ha : s.heap.objs.size ≤ a) (hd : s.heap.objs.size ≤ dx) (nd : dx ≠ a)
    (hn : h'.Ns1 dx (fun y => if y = fld then some u else none)) (r : RelV v u) :
    ∃ G : Heap, (∀ b o, G.get? b = some o → h'.get? b = some o) ∧ G.get? a = none ∧ Inv X pins σ (upd H dx (.xd [(fld, v)])) { s with heap := G, toks := tk } := by
  obtain ⟨G, g1, g2⟩ := restrict h' fun b => decide (b ≠ a)
  have gk : ∀ b, b ≠ a → G.get? b = h'.get? b := fun b hb => g1 b (decide_eq_true hb)
  have ge : G.get? a = none := g2 a (by simp)
  have nx := I.hok.fresh hd
  have lt : ∀ {b : Addr} {o : Obj}, s.heap.get? b = some o → b ≠ a ∧ b ≠ dx := fun {b o} z =>
    ⟨Nat.ne_of_lt (Nat.lt_of_lt_of_le (Heap.lt_size z) ha), Nat.ne_of_lt (Nat.lt_of_lt_of_le (Heap.lt_size z) hd)⟩
  have k' : ∀ b o, s.heap.get? b = some o → G.get? b = some o := fun b o z => (gk b (lt z).1).trans (k b o z)
  have same : ∀ {b : Addr} {o : HO}, H b = some o → upd H dx (.xd [(fld, v)]) b = some o := fun {b o} z => by
    rw [upd_ne (ne_of_none z nx)]
    exact z
  refine ⟨G, fun b o z => ?_, ge, I.un (t' := tk) { keep := fun b o z n _ _ => k' b o z, slot := fun b o z n _ _ => ⟨o.slots, k' b o z⟩, free := fun b o z n _ => ?_, there := fun b o z _ => ⟨o, k' b o z⟩, tups := fun b xs z => same z, frzs := fun b o u z => same z, tbls := fun b ps z => ⟨#[], by rw [same z]; simp⟩ } (fun b o z => ?_)⟩
  · by_cases hb : b = a
    · rw [hb, ge] at z
      cases z
    · exact (gk b hb).symm.trans z
  · rw [upd_ne (lt z).2]
    exact n
  · by_cases hb2 : b = dx
    · subst hb2
      rw [upd_same] at z
      cases z
      obtain ⟨oD, es, ep, z1, z2⟩ := hn
      exact xd_ok r ⟨oD, es, ep, (gk _ nd).trans z1, z2⟩
    · rw [upd_ne hb2] at z
      exact (I.hok b o z).stay (fun c u _ y => k' c u y) (fun c y => same y) (fun c xs y => same y)

def tNewX (fld : Str) (C : Addr) (te : TE) : TE := fun σ H Q => te σ H fun v H1 => ∀ a d, H1 a = none → H1 d = none → d ≠ a → Q (.ref a) (upd (upd H1 d (.xd [(fld, v)])) a (xV a (.ref C) (some d) true))
def tRzX (fld : Str) (C : Addr) (te : TE) : L2.St → Hp → XK → Prop := fun σ H Q => te σ H fun v H1 => ∀ d, H1 d = none → Q (.ref C) (some d) (upd H1 d (.xd [(fld, v)]))
variable {x : Str} {e : Expr} {te : TE} {p pos : Pos}
/-- C(e) as a value -/
theorem pe_newX (T : XCls X.prog X.K X.mg B newId initId bmB fld C) (hr : Room 1 X.A) (kC : keepIn X.K (.ref C) = true) (hg : Gl X x) (hm : X.mg x = some (.ref C)) (he : PE X e te)
    (hdb : (x == ("__debug__" : Str)) = false := by decide) (hs : starEach [e] X.env = (false, eval e X.env) :: starEach [] X.env := by rfl) : PE X (.Call (.Name x p) [e] [] pos) (tNewX fld C te) := by
  refine ⟨fun pins s σ H Q I h => ?_⟩
  refine wpAny_Call_Name_kw (ld_glob I hg hm ?_ hdb)
  refine callWith_K (h₀ := X.base) I.ok.mod.kin kC (spliced_more (thn (he.run pins s σ H _ I h) fun u s1 ⟨v, H1, I1, r1, q1⟩ => spliced_none ⟨I1.kIn, ?_⟩) hs) hs rfl
  refine x_new T hr I1 fun h' a t dx tk' k ha hd nd hx hn => ?_
  exact ⟨.ref a, _, x_laid I1 k ha hd nd hx hn r1, rfl, q1 a dx (I1.hok.fresh ha) (I1.hok.fresh hd) nd⟩
/-- raise C(e) -/
theorem pmk_newX (T : XCls X.prog X.K X.mg B newId initId bmB fld C) (hr : Room 1 X.A) (kC : keepIn X.K (.ref C) = true) (rC : Raises X (.ref C)) (hg : Gl X x) (hm : X.mg x = some (.ref C)) (he : PE X e te)
    (hdb : (x == ("__debug__" : Str)) = false := by decide) (hs : starEach [e] X.env = (false, eval e X.env) :: starEach [] X.env := by rfl) : PMk X (.Call (.Name x p) [e] [] pos) (tRzX fld C te) := by
  intro pins s σ H Q I h
  refine wpAny_Call_Name_kw (ld_glob I hg hm ?_ hdb)
  refine callWith_K (h₀ := X.base) I.ok.mod.kin kC (spliced_more (thn (he.run pins s σ H _ I h) fun u s1 ⟨v, H1, I1, r1, q1⟩ => spliced_none ⟨I1.kIn, ?_⟩) hs) hs rfl
  refine x_new T hr I1 fun h' a t dx tk' k ha hd nd hx hn => ?_
  obtain ⟨G, g1, g2, J⟩ := x_laidR (tk := tk') I1 k ha hd nd hn r1
  exact ⟨a, _, _, _, _, _, _, rfl, J, g1, g2, hx, ⟨rfl, rfl⟩, rfl, rfl, by rw [upd_ne (Ne.symm nd)]; exact I1.hok.fresh ha, rfl, I1.bare, rC, q1 dx (I1.hok.fresh hd)⟩
end
end Rm
namespace Rm
open PySem PySem.W PySem.Calls PyProof.Rows PySem.Spec L2
/-- what is asked of an exception's class for reading fields and isinstance -/
structure XKit (K : Frag) (C : Addr) : Prop where
  cl : (clsIn K C).isSome = true
  ga : findIn K (.ref C) "__getattribute__" = some (some (.builtin "BaseException.__getattribute__"))
  gg : findIn K (.ref C) "__getattr__" = some none
  ex : subIn K (.ref C) (.type "BaseException") = some true
  hd : hasDictIn K C = true
  ha : findIn K (.ref C) "__class__" = some (some (.builtin "object.__class__"))
  hn : specialIn K (.builtin "object.__class__") "__get__" = some (some (.builtin "getset_descriptor.__get__"))
  ht : takesIn K (.builtin "object.__class__") = some true
  hm : mroIn K C (.type "object") = some true
section
variable {X : Cx} {pins : List (Addr × Obj)} {σ : L2.St} {H : Hp} {s : Shared} {a C d : Addr} {fr : Bool} {fs : List (Str × V)}
theorem x_inst (I : Inv X pins σ H s) (ha : H a = some (xV a (.ref C) (some d) fr)) (hd : H d = some (.xd fs)) :
    ∃ (ox od : Obj), InstAt s.heap a ox C (some od) ∧ ∀ name, ∃ o, lookIn name od = some o ∧ RelO (fs.lookup name) o := by
  obtain ⟨o, vs, e, z, dd, _⟩ := xV_at I.hok ha
  have hx : ObjOk X.prog X.w H s.heap d (.xd fs) := I.hok d _ hd
  obtain ⟨mA, hns, hr⟩ := hx
  obtain ⟨od, ho, hl⟩ := lookIn_ns hns
  exact ⟨o, od, ⟨e, z.1, by unfold notCls; rw [dd], by rw [z.2]; exact ho⟩, fun name => ⟨_, hl name, hr name⟩⟩
/-- e.f where e is an exception -/
def tXat (K : Frag) (f : Str) (te : TE) : TE := fun σ H Q => te σ H fun x H1 => ∃ (a C d : Addr) (fr : Bool) (fs : List (Str × V)) (v : V), x = .ref a ∧ H1 a = some (xV a (.ref C) (some d) fr) ∧ H1 d = some (.xd fs) ∧ XKit K C ∧ findIn K (.ref C) f = some none ∧ fs.lookup f = some v ∧ Q v H1
theorem pe_xat {e : Expr} {te : TE} {pos : Pos} {n : Str} (he : PE X e te) (hb : attributeBase e n X.env (eval e X.env) = eval e X.env := by rfl) : PE X (.Attribute e n pos) (tXat X.K n te) := by
  refine ⟨fun pins s σ H Q I h => ?_⟩
  refine attr_of hb (thn (he.run pins s σ H _ I h) fun u s1 ⟨x, H1, I1, rx, a, C, d, fr, fs, v, ex, ha, hd, T, hno, l, q⟩ => ?_)
  subst ex
  obtain rfl : u = Value.ref a := rx
  obtain ⟨ox, od, J, hl⟩ := x_inst I1 ha hd
  obtain ⟨o, h1, h2⟩ := hl n
  rw [l] at h2
  obtain ⟨u, rfl, ru⟩ := RelO.some_of h2
  exact HandSPX.exc_get I1.kIn J T.ga T.gg T.ex (findObj_own T.hd hno rfl h1) (handed_of ru) ⟨v, H1, I1.tok _, ru, q⟩
/-- isinstance(e, C) where e is an exception -/
def rIsX (K : Frag) : List V → Hp → VK → Prop := fun xs H Q => ∃ (a C d : Addr) (fr : Bool) (fs : List (Str × V)) (c : V) (u : Value) (b : Bool), xs = [.ref a, c] ∧ ClsV c u ∧ H a = some (xV a (.ref C) (some d) fr) ∧ H d = some (.xd fs) ∧ XKit K C ∧ kitOne K (.ref C) u = some b ∧ Q (.bl b) H
theorem call_isX : CallR X (.builtin "isinstance") (rIsX X.K) := fun pins s σ H xs us Q I r ⟨a, C, d, fr, fs, c, u, b, ex, hc, ha, hd, T, hk, q⟩ => by
  subst ex
  obtain ⟨u1, u2, rfl, r1, r2⟩ := vals2 r
  obtain rfl : u1 = Value.ref a := r1
  obtain rfl := ClsV.eq hc r2
  obtain ⟨ox, od, J, hl⟩ := x_inst I ha hd
  exact kia_one (kitx_exc T.cl T.ga T.gg T.ex T.ha T.hn T.ht T.hm) I.kIn J hk (by intro z; cases z) fun tk => ⟨.bl b, _, I.tok _, rfl, q⟩
end
end Rm
namespace Rm
open PySem PySem.W PySem.Calls PyProof.Rows PySem.Spec L2
theorem traced_keeps {h h' base : Heap} {e : Addr} {Z : Obj → Prop} {fl : Value} (x : HandSPX.TracedZ h base e Z fl) (k : ∀ b o, h.get? b = some o → h'.get? b = some o) : HandSPX.TracedZ h' base e Z fl := by
  obtain ⟨oe, vs, T, oT, ts, a1, a2, a3, a4, a5, a6, a7, a8, a9⟩ := x
  exact ⟨oe, vs, T, oT, ts, k _ _ a1, a2, a3, a4, a5, a6, k _ _ a7, a8, a9⟩
theorem flying_keeps {h h' base : Heap} {l : List Env} {e : Addr} {Z : Obj → Prop} (x : HandSPX.FlyingZ base l e Z h) (k : ∀ b o, h.get? b = some o → h'.get? b = some o) : HandSPX.FlyingZ base l e Z h' := by
  obtain ⟨a1, a2, a3, a4⟩ := x
  exact ⟨fun b o z => k b o (a1 b o z), a2, Heap.FunFrames.of_keeps (fun b o z _ => ⟨o, k b o z, rfl⟩) a3, traced_keeps a4 k⟩
section
variable {X : Cx} {pins : List (Addr × Obj)} {σ : L2.St} {H : Hp} {s : Shared}
/-- a pinned record is tracked from now on -/
theorem Inv_retrack {a : Addr} {oe : Obj} {vs : Array Value} {cls : Value} {d : Option Addr} (I : Inv X ((a, oe) :: pins) σ H s) (hz : Zc cls d oe) (hd : oe.data = .fields vs) (h0 : X.s_0.heap.get? a = none) (hp : ∀ p ∈ X.pn ++ pins, p.1 ≠ a) :
    Inv X pins σ (upd H a (xV a cls d false)) s := by
  obtain ⟨ea, na, nL, nF, _⟩ := I.pin (a, oe) (List.mem_append_right _ List.mem_cons_self)
  have na : H a = none := na
  have at' : ∀ {b : Addr} {o : HO}, H b = some o → b ≠ a := fun {b o} z => ne_of_none z na
  have same : ∀ {b : Addr} {o : HO}, H b = some o → upd H a (xV a cls d false) b = some o := fun {b o} z => by
    rw [upd_ne (at' z)]
    exact z
  have n0 : ∀ {b : Addr} {o : Obj}, X.s_0.heap.get? b = some o → b ≠ a := fun {b o} z y => by
    rw [y, h0] at z
    cases z
  refine ⟨I.ok, I.os, I.bare, ⟨fun b o e n hb hx => I.base.keep b o e n hb hx, fun b o e n hb hx => I.base.slot b o e n hb hx, fun b o e n hx => ?_, fun b o e hx => I.base.there b o e hx, fun b xs e => same (I.base.tups b xs e), fun b o u e => same (I.base.frzs b o u e), fun b ps e => ?_⟩,
    I.loc, I.cell, ?_, fun x c e => ?_, fun p hq => ?_, fun b o z => ?_, I.len⟩
  · rw [upd_ne (n0 e)]
    exact I.base.free b o e n hx
  · obtain ⟨m, y⟩ := I.base.tbls b ps e
    exact ⟨m, same y⟩
  · rw [upd_ne (Ne.symm nL)]
    exact I.free
  · have hc : c ≠ a := fun y => by
      obtain ⟨v, o, z1, z2⟩ := I.cell x c e
      have ea' : s.heap.get? a = some oe := ea
      rw [y, ea'] at z1
      cases z1
      rw [hd] at z2
      cases z2
    rw [upd_ne hc]
    exact I.freeC x c e
  · obtain ⟨y1, y2, y3⟩ := I.pin p (by
      rcases List.mem_append.mp hq with q | q
      · exact List.mem_append_left _ q
      · exact List.mem_append_right _ (List.mem_cons_of_mem _ q))
    exact ⟨y1, by rw [upd_ne (hp p hq)]; exact y2, y3⟩
  · by_cases hb : b = a
    · subst hb
      rw [upd_same] at z
      cases z
      exact xV_ok ea hz hd fun q => by cases q
    · rw [upd_ne hb] at z
      exact (I.hok b o z).stay (fun c u _ y => y) (fun c y => same y) (fun c xs y => same y)

/-- what 'except (A, B, C) as e: caught = e' wishes of an exception of the body: e in slot i, caught in slot j -/
def wCaught (K : Frag) (cs : List Value) (i j : Nat) (Wout : WX) (D : Ends) : WX := fun cls d σ H =>
  ∃ b, exmAny K cls cs = some b ∧ (b = true → ∀ a, H a = none → D.nx (((σ.set i (some (.ref a))).set j (some (.ref a))).set i none) (upd H a (xV a cls d false))) ∧ (b = false → Wout cls d σ H)

theorem names_load {x : Str} {c : Value} {np : Pos} {A : Around} {Q : Value → Shared → Prop} {E : Value → Shared → Prop} (I : Inv X pins σ H s) (hA : X.A = A) (hc : Names X x c) (q : Q c s) : wpAny (model X.prog X.w) A (eval (.Name x np) X.env) Q E s := by
  subst hA
  obtain ⟨hg, hdbg, hm | ⟨hm, hv, hnn⟩⟩ := hc
  · exact ld_glob I hg hm q hdbg
  · exact ld_blt I hg hm hv q hnn hdbg

variable {x1 x2 x3 n m : Str} {c1 c2 c3 : Value} {i j : Nat} {body : List Stmt} {np1 np2 np3 tp0 pos pos' p1 p2 p3 : Pos} {tk : Nat} {tb : WX → TS} {Wout : WX}
theorem ps_try_caught (hs : X.stack = X.env :: X.outer) (hf : X.env.frame = some X.env.locals) (hN : X.N.Nodup) (hi : X.N[i]? = some n) (hln : X.env.kindOf n = some .local) (hj : X.N[j]? = some m) (hlm : X.env.kindOf m = some .local)
    (h1 : Names X x1 c1) (h2 : Names X x2 c2) (h3 : Names X x3 c3) (tko : Takes X Wout)
    (hb : ∀ (W : WX) (pn : List (Addr × Obj)) (xe : Value → Shared → Prop), Takes (X.tr pn xe) W → PassesOwn (model X.prog X.w) X.A X.env xe → PSs (X.tr pn xe) body (tb W))
    (hex : X.ex = [] := by rfl) (hd1 : (n == ("__debug__" : Str)) = false := by decide) (hd2 : (n == ("__classdict__" : Str)) = false := by decide) :
    PS X (.Try body [.ExceptHandler (some (.Tuple [.Name x1 np1, .Name x2 np2, .Name x3 np3] tk tp0)) (some n) [.Assign [.Name m p1] (.Name n p2) p3] pos'] [] [] pos)
      (fun D σ H => tb (wCaught X.K [c1, c2, c3] i j Wout D) D σ H) := by
  refine ⟨fun pins s σ H D I h => ?_⟩
  have ok := I.ok
  have hfr : X.A.frames = some (X.env :: X.outer) := by rw [ok.frames, hs]
  refine wpAny_Try_except ?_
  refine wpAny_mono ((hb (wCaught X.K [c1, c2, c3] i j Wout D) (X.pn ++ pins) (fun e s1 => wpAny (model X.prog X.w) X.A (noteFrame e X.env) (fun _ s2 => wpAny (model X.prog X.w) X.A (setFlight e none) (fun _ s3 =>
    wpAny (model X.prog X.w) X.A (handleBy e X.env [.ExceptHandler (some (.Tuple [.Name x1 np1, .Name x2 np2, .Name x3 np3] tk tp0)) (some n) [.Assign [.Name m p1] (.Name n p2) p3] pos']) (SP X pins D) X.xe s3) X.xe s2) X.xe s1) (fun u s' xx => ?_) PassesOwn.looking).run [] s σ H D (I.toTry _) h) (fun f s1 hsp => ?_) (fun e s1 he => he)
  · obtain ⟨a, G, sI, pins', σ', H', cls, d, rfl, J', nb, up, sky, na, os, ag, b, hb1, hyes, hno⟩ := xx
    have J : Inv X pins σ' H' sI := J'.ofTry ok
    have sky' : Sky G (X.env :: X.outer) a (Zc cls d) X.env.locals s'.heap := by rw [← hs]; exact sky
    show wpAny (model X.prog X.w) X.A (noteFrame (.ref a) X.env) _ _ _
    refine Sky.land Zc.steady hfr hf sky' fun g3 fl3 up3 => ?_
    have J3 : Inv X pins σ' H' { s' with heap := g3 } := J.landed nb fl3.1 (up.trans up3) os ag
    obtain ⟨oe3, vs3, he3, hz3, hd3⟩ := fl3.there
    have nfr : a ∉ frs (X.env :: X.outer) := fun hm => by
      obtain ⟨_, o', e', hnf⟩ := fl3.2.2.1.mem hm
      rw [he3] at e'
      cases e'
      exact hnf _ hd3
    have nL : a ≠ X.env.locals := fun z => nfr (List.mem_filterMap.mpr ⟨X.env, List.mem_cons_self, by rw [hf, z]⟩)
    have nF : a ∉ X.fs := fun hm => by
      obtain ⟨e, he, q⟩ := List.mem_filterMap.mp hm
      exact nfr (List.mem_filterMap.mpr ⟨e, List.mem_cons_of_mem _ he, q⟩)
    -- it stood neither at the start of the def nor among what is pinned
    have gnone : G.get? a = none := fl3.2.1
    have stk : ∀ b ∈ frs X.stack, b ≠ a := fun b hb y => nfr (by rw [hs] at hb; rw [← y]; exact hb)
    have hp : ∀ p ∈ X.pn ++ pins, p.1 ≠ a := fun p hp y => by
      obtain ⟨z1, _, z3, z4, _⟩ := J.pin p hp
      have z5 : p.1 ∉ frs X.stack := fun hm => by
        rcases List.mem_cons.mp (J.stkSub _ hm) with q | q
        · exact z3 q
        · exact z4 q
      have := nb _ _ z1 z5
      rw [y, gnone] at this
      cases this
    have h0 : X.s_0.heap.get? a = none := by
      cases z : X.s_0.heap.get? a with
      | none => rfl
      | some o =>
        exfalso
        obtain ⟨o', z'⟩ := J.base.there a o z (by rw [hex]; simp)
        have := nb a o' z' (fun hm => stk a hm rfl)
        rw [gnone] at this
        cases this
    have S3 := J3.suite he3 hd3 na nL nF
    refine wpAny_handleBy_cons (codeAny_handlers_test ?_) (by intro q; cases q)
    have LT : ∀ {h : Heap}, (∀ b o, g3.get? b = some o → h.get? b = some o) → Looks (model X.prog X.w) h (typeOf (.ref a)) cls := fun {h} kk A Q E s k q => wpAny_typeOf_ref (k _ _ (kk _ _ he3)) (by rw [hz3.1]; exact q)
    refine wpAny_Tuple_spliced ?_
    have ld : ∀ {x : Str} {c : Value} {np : Pos} {Q : Value → Shared → Prop} {E : Value → Shared → Prop}, Names X x c → Q c { s' with heap := g3 } → wpAny (model X.prog X.w) (X.A.mark (some (.ref a))) (eval (.Name x np) X.env) Q E { s' with heap := g3 } :=
      fun {x c np Q E} hc q => names_load (X := X.suite a ((a, oe3) :: (X.pn ++ pins))) S3 rfl hc q
    refine spliced_more (ld h1 (spliced_more (ld h2 (spliced_more (ld h3 (spliced_none ⟨by rw [sizeLine_eq]; show 3 ≤ 16777216; decide, ?_⟩)))))) 
    obtain ⟨g4, hg4⟩ : ∃ g4, g4 = g3.push { cls := .type "tuple", data := .seq [c1, c2, c3].toArray } := ⟨_, rfl⟩
    have k4 : ∀ b o, g3.get? b = some o → g4.get? b = some o := fun b o z => by rw [hg4]; exact Heap.get?_push_of_some _ z
    have htp : g4.get? g3.objs.size = some { cls := .type "tuple", data := .seq [c1, c2, c3].toArray } := by rw [hg4]; exact Heap.get?_push_size _ rfl
    have J4 : Inv X pins σ' H' { s' with heap := g4 } := J3.kept (t' := s'.toks) k4
    have fl4 := flying_keeps fl3 k4
    rw [← hg4]
    have LM := exm_tup3 (M := model X.prog X.w) J4.kIn (LT k4) htp hb1
    refine LM.here ?_
    cases b with
    | true =>
      refine codeAny_handlers_suite_as ?_
      refine HandSPX.lands_againZ fl4 fun g5 fl5 up5 => ?_
      have u35 : g3.UpToSlots g5 := fun b o z hd => up5 b o (k4 b o z) hd
      have J5 : Inv X pins σ' H' { s' with heap := g5 } := J.landed nb fl5.1 ((up.trans up3).trans u35) os ag
      obtain ⟨oe5, vs5, he5, hz5, hd5⟩ := fl5.there
      have S5 := J5.suite he5 hd5 na nL nF
      refine store_ok (X := X.suite a ((a, oe5) :: (X.pn ++ pins))) (v := .ref a) S5 hN hi (.inl hln) rfl (fun s6 S6 => ?_) (.inr hln)
      have hlen : i < σ'.length := by
        have := J5.len
        rw [this]
        exact (List.getElem?_eq_some_iff.mp hi).1
      have B : PSs (X.suite a ((a, oe5) :: (X.pn ++ pins))) [.Assign [.Name m p1] (.Name n p2) p3] (tAsg (tVar i) (gName j)) :=
        pss_one (ps_set hN hj (.inl hlm) (pe_var hi (.inl hln) hd1 hd2) rfl (.inr hlm))
      refine wpAny_mono (B.run [] s6 _ H' { nx := fun σ7 H7 => σ7 = ((σ'.set i (some (.ref a))).set j (some (.ref a))) ∧ H7 = H', rt := fun _ _ => False } S6 ⟨.ref a, by simp [hlen], rfl, rfl⟩) (fun f s7 hsp => ?_) (fun _ _ z => False.elim z)
      cases f with
      | next =>
        obtain ⟨σ7, H7, S7, rfl, rfl⟩ := hsp
        have U : Inv X ((a, oe5) :: pins) ((σ'.set i (some (.ref a))).set j (some (.ref a))) H7 s7 :=
          ⟨ok, S7.os, S7.bare, S7.base, S7.loc, S7.cell, S7.free, S7.freeC, fun p hq => S7.pin p (by
            rw [List.append_nil]
            rcases List.mem_append.mp hq with q | q
            · exact List.mem_cons_of_mem _ (List.mem_append_left _ q)
            · rcases List.mem_cons.mp q with q | q
              · exact q ▸ List.mem_cons_self
              · exact List.mem_cons_of_mem _ (List.mem_append_right _ q)), S7.hok, S7.len⟩
        exact gone_ok U hN hi hln fun s8 J8 => ⟨_, _, Inv_retrack J8 hz5 hd5 h0 hp, hyes rfl a na⟩
      | brk =>
        obtain ⟨_, _, _, q⟩ := hsp
        exact False.elim q
      | cont =>
        obtain ⟨_, _, _, q⟩ := hsp
        exact False.elim q
      | ret u =>
        obtain ⟨_, _, _, _, _, q⟩ := hsp
        exact False.elim q
    | false =>
      show wpAny _ X.A (handleBy (.ref a) X.env []) _ _ _
      refine wpAny_handleBy_nil ?_
      obtain ⟨_, _, _, oe, vs, T, oT, ts', he, hz, hd, h1', hr⟩ := id fl4
      unfold PySem.passOn
      refine wpAny_bind (wpAny_field he hd h1' ?_)
      rw [if_neg (show ¬ ((Value.ref T == Value.none) = true) from by simp)]
      have u34 : g3.UpToSlots g4 := Heap.UpToSlots.of_keeps k4
      have fin : wpAny (model X.prog X.w) X.A (setFlight (.ref a) X.env.frame) (fun _ s4 => wpAny (model X.prog X.w) X.A (throw (.ref a) : Sem Flow) (SP X pins D) X.xe s4) X.xe { s' with heap := g4 } := by
        rw [hf]
        refine HandSPX.setFlight_upZ fl4 fun g5 hh5 up5 => wpAny_throw (tko _ _ ?_)
        exact ⟨a, G, sI, pins, σ', H', cls, d, rfl, J, nb, ((up.trans up3).trans u34).trans up5, .inr (.inr (by rw [hs]; exact hh5)), na, os, ag, hno rfl⟩
      first
        | exact wpAny_bind (wpAny_pure (wpAny_bind fin))
        | exact wpAny_bind fin
  · cases f with
    | next =>
      obtain ⟨σ', H', J', q⟩ := hsp
      exact wpAny_execs_nil ⟨σ', H', J'.ofTry ok, q⟩
    | brk =>
      obtain ⟨σ', H', J', q⟩ := hsp
      exact ⟨σ', H', J'.ofTry ok, q⟩
    | cont =>
      obtain ⟨σ', H', J', q⟩ := hsp
      exact ⟨σ', H', J'.ofTry ok, q⟩
    | ret u =>
      obtain ⟨v, σ', H', J', r, q⟩ := hsp
      exact ⟨v, σ', H', J'.ofTry ok, r, q⟩
end
end Rm
/-! Defs that may raise and may show data: what is around a call shows nothing yet (guards). -/
namespace Rm
open PySem PySem.W PySem.Calls PyProof.Rows PySem.Spec L2
/-- a def's body keeps spB, whatever way its parameters were bound -/
def FnB (P : Program) (w : World) (K : Frag) (mg : Str → Option Value) (base : Heap) (k : Nat) (f : Addr) (fd : FuncData) (ps : List Str) (spB : Sp) : Prop :=
  ∀ (A : Around) (outer : List Env) (s : Shared) (H : Hp) (args : Args) (Q : VK) (E : XK) (G : List V → Hp → Prop), Room k A → A.guards = some [] → Env0 P w K mg base A outer s H →
    StX.Bnd (L2.CX P w) P w K mg base fd args ps A outer s H E G → (∀ vs H2, G vs H2 → spB vs H2 Q E) → codeAny (model P w) A (.call (.ref f) args) (CR (L2.CX P w) outer P w H s Q E) s
/-- f called with positional arguments and then the keywords ks -/
def CallG (P : Program) (w : World) (K : Frag) (mg : Str → Option Value) (base : Heap) (k : Nat) (f : Addr) (ks : List Str) (sp : Sp) : Prop :=
  ∀ (A : Around) (outer : List Env) (s : Shared) (H : Hp) (us ws : List Value) (vs zs : List V) (Q : VK) (E : XK), Room k A → A.guards = some [] → Env0 P w K mg base A outer s H → Vals vs us → Vals zs ws →
    ws.length = ks.length → sp (vs ++ zs) H Q E → codeAny (model P w) A (.call (.ref f) ⟨us, ks.zip ws⟩) (CR (L2.CX P w) outer P w H s Q E) s
section
variable {P : Program} {w : World} {K : Frag} {mg : Str → Option Value} {base : Heap} {k n : Nat} {f : Addr} {fd : FuncData} {ps ks : List Str} {spB sp : Sp}
theorem FnB.mono {j : Nat} (F : FnB P w K mg base j f fd ps spB) (h : j ≤ k) : FnB P w K mg base k f fd ps spB := fun A o s H a Q E G r g e b q => F A o s H a Q E G (r.mono h) g e b q
theorem CallG.mono {j : Nat} (F : CallG P w K mg base j f ks sp) (h : j ≤ k) : CallG P w K mg base k f ks sp := fun A o s H us ws vs zs Q E r g e a b c d => F A o s H us ws vs zs Q E (r.mono h) g e a b c d
/-- bound without anything made: parameters in the order ps -/
theorem FnB.call (F : FnB P w K mg base k f fd ps spB) (gV : List V → List V) (g : List Value → List Value)
    (hg : ∀ (vs : List V) (us : List Value), Vals vs us → Vals (gV vs) (g us)) (hl : ∀ vs H Q E, spB vs H Q E → vs.length = ps.length)
    (hb : ∀ (s : Shared) (us ws : List Value), K.In s.heap → ws.length = ks.length → (g (us ++ ws)).length = ps.length → BindsTo s fd ⟨us, ks.zip ws⟩ (ps.zip (g (us ++ ws)))) :
    CallG P w K mg base k f ks (fun vs H Q E => spB (gV vs) H Q E) := fun A outer s H us ws vs zs Q E hr hgd e0 r1 r2 hw hsp => by
  have r := hg _ _ (r1.append r2)
  have len := hl _ _ _ _ hsp
  refine F A outer s H _ Q E (fun vs' H2 => vs' = gV (vs ++ zs) ∧ H2 = H) hr hgd e0 (fun A' Ex Q' h => ?_) fun vs' H2 z => by
    obtain ⟨rfl, rfl⟩ := z
    exact hsp
  refine hb s us ws (e0.mod.kin.keeps fun b o e => (e0.bs b o e).1) hw (by rw [← r.length]; exact len) _ _ _ _ ?_
  exact h s H _ _ e0 Un.refl rfl (fun _ _ z => z) r len ⟨rfl, rfl⟩
/-- plain positional -/
theorem FnB.pos (F : FnB P w K mg base k f fd ps spB) (hl : ∀ vs H Q E, spB vs H Q E → vs.length = ps.length) (hb : Binds K fd ps []) : CallG P w K mg base k f [] spB :=
  F.call (ks := []) (fun vs => vs) (fun us => us) (fun _ _ r => r) hl (fun s us ws hk hw hl => by
    cases ws with
    | nil =>
      have := hb s us hk (by simpa using hl)
      simpa using this
    | cons _ _ => cases hw)
theorem FnB.posD (F : FnB P w K mg base k f fd ps spB) (hl : ∀ vs H Q E, spB vs H Q E → vs.length = ps.length) {ds : List Value} {dvs : List V} (hd : Vals dvs ds) (hb : Binds K fd ps ds) : CallG P w K mg base k f [] (fun vs H Q E => spB (vs ++ dvs) H Q E) :=
  F.call (ks := []) (fun vs => vs ++ dvs) (fun us => us ++ ds) (fun _ _ r => r.append hd) hl (fun s us ws hk hw hl => by
    cases ws with
    | nil =>
      have := hb s us hk (by simpa using hl)
      simpa using this
    | cons _ _ => cases hw)
/-- def f(*xs) -/
theorem FnB.star {pv : Str} (F : FnB P w K mg base k f fd [pv] spB) (hb : ∀ rest : List Value, bindArgs fd ⟨rest, []⟩ = (newTuple rest >>= fun t => pure [(pv, t)])) :
    CallG P w K mg base k f [] (fun vs H Q E => vs.length ≤ sizeLine ∧ ∀ p, H p = none → spB [.ref p] (upd H p (.tup vs)) Q E) := fun A outer s H us ws vs zs Q E hr hgd e0 r1 r2 hw hsp => by
  cases ws with
  | cons _ _ => cases hw
  | nil =>
    cases r2
    rw [List.append_nil] at hsp
    obtain ⟨hz, hsp⟩ := hsp
    have hn : H s.heap.objs.size = none := e0.hok.fresh (Nat.le_refl _)
    have hl : us.length ≤ sizeLine := by rw [← r1.length]; exact hz
    refine F A outer s H _ Q E (fun vs' H2 => ∃ p, H p = none ∧ vs' = [.ref p] ∧ H2 = upd H p (.tup vs)) hr hgd e0 (fun A' Ex Q' h => ?_) fun vs' H2 z => by
      obtain ⟨p, hp, rfl, rfl⟩ := z
      exact hsp p hp
    show wpAny _ _ (bindArgs fd ⟨us, []⟩) _ _ _
    rw [hb]
    have new : ObjOk P w (upd H s.heap.objs.size (.tup vs)) (s.heap.push ({ cls := .type "tuple", data := .seq us.toArray } : Obj)) s.heap.objs.size (.tup vs) := ⟨hz, us, r1, ⟨_, Heap.get?_push_size _ rfl, rfl, _, rfl⟩⟩
    refine wpAny_bind (wpAny_newTuple (wpAny_pure ?_) hl)
    exact h _ _ [.ref s.heap.objs.size] [.ref s.heap.objs.size] (StX.env0_laid e0 new) (StX.un_laid hn) rfl (fun e s' z => StX.cxUp outer s H { s with heap := s.heap.push ({ cls := .type "tuple", data := .seq us.toArray } : Obj) } (upd H s.heap.objs.size (.tup vs)) E e s' (StX.un_laid hn) (fun b o q => Heap.get?_push_of_some _ q) rfl z) (.cons rfl .nil) rfl ⟨_, hn, rfl, rfl⟩
/-- from a body to the def -/
theorem fnB_of {name qual : Str} {params : Arguments} {body : List Stmt} {scope : Scope} {dV kV doc pm cdv ct oc : Value} {an od : Option Addr} {osl : Array (Option Value)} {N : List Str}
    (lk : K.lookup f = some ⟨oc, od, .func (fnOf name qual params body scope dV kV doc pm an cdv ct), osl⟩) (hcd : codeIn K cdv qual = true) (S : FnScope N ps scope)
    (hbody : ∀ (A : Around) (outer : List Env) (s : Shared) (H : Hp) (vs : List V) (Q : VK) (E : XK), Room k (A.deeper (envOfC qual scope s.heap.objs.size f cdv)) → A.guards = some [] → spB vs H Q E →
      ∃ t, PSs (cxOf (L2.CX P w) P w K mg base N qual scope f cdv A outer s H E) body t ∧ t { nx := fun _ H' => Q .non H', rt := Q } (start N vs) H) :
    FnB P w K mg base (k + 1) f (fnOf name qual params body scope dV kV doc pm an cdv ct) ps spB := fun A outer s H args Q E G hr hg e0 hb hsp =>
  StX.run_bnd lk hcd S hr e0 hb fun s2 H2 vs g hr' => hbody A outer s2 H2 vs Q E hr' hg (hsp vs H2 g)
/-- the same, of a def of the text -/
theorem Fun_okB {x qual : Str} {st : Stmt} {N : List Str} (F : Fun K x qual st f fd) (S : FnScope N ps (defScope st))
    (hbody : ∀ (cdv : Value) (A : Around) (outer : List Env) (s : Shared) (H : Hp) (vs : List V) (Q : VK) (E : XK), Room k (A.deeper (envOfC qual (defScope st) s.heap.objs.size f cdv)) → A.guards = some [] → spB vs H Q E →
      ∃ t, PSs (cxOf (L2.CX P w) P w K mg base N qual (defScope st) f cdv A outer s H E) (defBody st) t ∧ t { nx := fun _ H' => Q .non H', rt := Q } (start N vs) H) : FnB P w K mg base (k + 1) f fd ps spB := by
  obtain ⟨oc, od, kV, doc, pm, an, cdv, ct, osl, rfl, lk, hcd⟩ := F.ex
  exact fnB_of lk hcd S fun A outer s H vs Q E hr hg hsp => hbody cdv A outer s H vs Q E hr hg hsp
end
section
variable {X : Cx} {k : Nat} {f : Addr} {ks : List Str} {sp : Sp} {W : WX} {x : Str} {p pos : Pos} {e : Expr} {es : List Expr} {kws : List Keyword} {t tk : TA}
theorem run_callG {pins : List (Addr × Obj)} {σ : L2.St} {H : Hp} {s : Shared} {Q : VK} {us ws : List Value} {vs zs : List V} (F : CallG X.prog X.w X.K X.mg X.base k f ks sp) (hr : Room k X.A) (hg : X.A.guards = some []) (tko : Takes X W) (I : Inv X pins σ H s)
    (r : Vals vs us) (rz : Vals zs ws) (hl : ws.length = ks.length) (h : sp (vs ++ zs) H Q (WE W σ)) : wpAny (model X.prog X.w) X.A (call (.ref f) us (ks.zip ws)) (EP X pins σ Q) X.xe s := by
  refine wpAny_call (codeAny_mono (F X.A X.stack s H us ws vs zs Q (WE W σ) hr hg I.env0 r rz hl h) fun r s' hq => ?_)
  cases r with
  | error e => exact passAt tko σ pins H s e s' I hq
  | ok fl =>
    cases fl with
    | ret u => exact I.after hq
    | next => exact False.elim hq
    | brk => exact False.elim hq
    | cont => exact False.elim hq
def tCallG (sp : Sp) (W : WX) (t : TA) : TE := fun σ H Q => t σ H fun vs H1 => sp vs H1 Q (WE W σ)
def tCallGK (sp : Sp) (W : WX) (t tk : TA) : TE := fun σ H Q => t σ H fun vs H1 => tk σ H1 fun zs H2 => sp (vs ++ zs) H2 Q (WE W σ)
/-- f(e, ..) -/
theorem pe_callG (F : CallG X.prog X.w X.K X.mg X.base k f [] sp) (hr : Room k X.A) (hgd : X.A.guards = some []) (tko : Takes X W) (hg : Gl X x) (hm : X.mg x = some (.ref f)) (hk : keepIn X.K (.ref f) = true) (ha : PA X (e :: es) t)
    (hdb : (x == ("__debug__" : Str)) = false := by decide) (he : starEach (e :: es) X.env = (false, eval e X.env) :: starEach es X.env := by rfl) (hpl : (backTo pos (starEach es X.env)).any (·.1) = false := by rfl) :
    PE X (.Call (.Name x p) (e :: es) [] pos) (tCallG sp W t) := by
  refine ⟨fun pins s σ H Q I h => wpAny_Call_Name_kw (ld_glob I hg hm ?_ hdb)⟩
  refine callWith_K (h₀ := X.base) I.ok.mod.kin hk (thn (ha.run pos pins s σ H _ I h) fun us s1 ⟨vs, H1, I1, r, q⟩ => ⟨I1.kIn, ?_⟩) he hpl
  exact run_callG (ws := []) (zs := []) F hr hgd tko I1 r .nil rfl (by rw [List.append_nil]; exact q)
/-- f() -/
theorem pe_callG0 (F : CallG X.prog X.w X.K X.mg X.base k f [] sp) (hr : Room k X.A) (hgd : X.A.guards = some []) (tko : Takes X W) (hg : Gl X x) (hm : X.mg x = some (.ref f)) (hk : keepIn X.K (.ref f) = true)
    (hdb : (x == ("__debug__" : Str)) = false := by decide) : PE X (.Call (.Name x p) [] [] pos) (tCallG sp W tNil) := by
  refine ⟨fun pins s σ H Q I h => wpAny_Call_Name_kw (ld_glob I hg hm ?_ hdb)⟩
  refine callWith_K0 I.kIn hk ?_
  exact run_callG (ws := []) (zs := []) F hr hgd tko I .nil .nil rfl h
/-- f(e, .., k=v, ..) -/
theorem pe_callGK (F : CallG X.prog X.w X.K X.mg X.base k f ks sp) (hr : Room k X.A) (hgd : X.A.guards = some []) (tko : Takes X W) (hg : Gl X x) (hm : X.mg x = some (.ref f)) (hk : keepIn X.K (.ref f) = true) (ha : PA X (e :: es) t) (hkw : PK X kws tk)
    (hall : (backToKw pos (keywordEach kws X.env)).all (·.1.isSome) = true := by rfl) (hks : (backToKw pos (keywordEach kws X.env)).filterMap (·.1) = ks := by rfl)
    (hdb : (x == ("__debug__" : Str)) = false := by decide) (he : starEach (e :: es) X.env = (false, eval e X.env) :: starEach es X.env := by rfl)
    (hpl : ((backTo pos (starEach (e :: es) X.env)).any (·.1) || (backToKw pos (keywordEach kws X.env)).any (·.1.isNone)) = false := by rfl) :
    PE X (.Call (.Name x p) (e :: es) kws pos) (fun σ H Q => t σ H fun vs H1 => tk σ H1 fun zs H2 => zs.length = ks.length ∧ sp (vs ++ zs) H2 Q (WE W σ)) := by
  refine ⟨fun pins s σ H Q I h => wpAny_Call_Name_kw (ld_glob I hg hm ?_ hdb)⟩
  refine callWith_KW (h₀ := X.base) I.ok.mod.kin hk hall (thn (ha.run pos pins s σ H _ I h) fun us s1 ⟨vs, H1, I1, r, q⟩ => ?_) hpl he
  refine thn (hkw.run pos pins s1 σ H1 _ I1 q) fun ws s2 ⟨zs, H2, I2, rz, hl, q2⟩ => ⟨I2.kIn, ?_⟩
  rw [hks]
  exact run_callG F hr hgd tko I2 r rz (by rw [← rz.length]; exact hl) q2
/-- f(k=v, ..) -/
theorem pe_callGK0 (F : CallG X.prog X.w X.K X.mg X.base k f ks sp) (hr : Room k X.A) (hgd : X.A.guards = some []) (tko : Takes X W) (hg : Gl X x) (hm : X.mg x = some (.ref f)) (hk : keepIn X.K (.ref f) = true) (hkw : PK X kws tk)
    (hall : (backToKw pos (keywordEach kws X.env)).all (·.1.isSome) = true := by rfl) (hks : (backToKw pos (keywordEach kws X.env)).filterMap (·.1) = ks := by rfl)
    (hdb : (x == ("__debug__" : Str)) = false := by decide)
    (hpl : ((backToKw pos (keywordEach kws X.env)).any (·.1.isNone)) = false := by rfl) :
    PE X (.Call (.Name x p) [] kws pos) (fun σ H Q => tk σ H fun zs H2 => zs.length = ks.length ∧ sp zs H2 Q (WE W σ)) := by
  refine ⟨fun pins s σ H Q I h => wpAny_Call_Name_kw (ld_glob I hg hm ?_ hdb)⟩
  show wpAny _ _ (callWith pos (.ref f) [] [] (backToKw pos (keywordEach kws X.env))) _ _ _
  refine callWith_of (P := Frag.In X.K) (by show (false || _) = false; rw [hpl]; rfl) (keeps_K hk) (evalArgs_kw_nil hall ?_)
  refine thn (hkw.run pos pins s σ H _ I h) fun ws s2 ⟨zs, H2, I2, rz, hl, q2⟩ => ⟨I2.kIn, ?_⟩
  rw [hks]
  exact run_callG (us := []) (vs := []) F hr hgd tko I2 .nil rz (by rw [← rz.length]; exact hl) q2
end
end Rm
namespace Rm
open PySem PySem.W PySem.Calls PyProof.Rows PySem.Spec L2
/-- the law's own call: from its promise to what the statement wants -/
theorem lawG {P : Program} {w : World} {K : Frag} {mg mb : Str → Option Value} {k : Nat} {fa a : Addr} {sp : Sp} {s₁ : Shared} {vs : List Value} {ns : List Int}
    (KX : K.In s₁.heap) (hns : s₁.heap.Ns mainGlobals mg) (hb : s₁.heap.Ns builtinsNs mb) (hbb : ∀ x : Str, x ≠ "__name__" → mb x = bootBuiltins x) (hlim : s₁.heap.NoLimit) (hg : s₁.gens = #[])
    (ha : s₁.heap.get? a = some { cls := .type "list", data := .seq vs.toArray }) (hi : IntsAre vs ns) (hl : ns.length ≤ sizeLine) (hr : Room k callerA)
    (F : ∀ base : Heap, K.In base → base.Ns mainGlobals mg → CallG P w K mg base k fa [] sp)
    (hsp : ∀ H : Hp, Only H → SqL K H a (ns.map V.int) → sp [.ref a] H (fun v _ => v = .bl true) fun _ _ _ => False) :
    codeAny (model P w) callerA (.call (.ref fa) ⟨[.ref a], []⟩) (fun r s' => r = .ok (.ret (.bool true)) ∧ OldK s₁.heap s'.heap ∧ s'.os = s₁.os ∧ AllBare s'.gens) s₁ := by
  have rv := vals_ints hi
  obtain ⟨H, hO, hS, hok, hA⟩ : ∃ H : Hp, Only H ∧ SqL K H a (ns.map V.int) ∧ HOk P w H s₁.heap ∧ ∀ b u, H b = some u → b = a ∧ K.lookup a = none := by
    cases hk : K.lookup a with
    | some o =>
      have e := KX a o hk
      rw [ha] at e
      cases e
      exact ⟨fun _ => none, fun _ => .inl rfl, .inr ⟨_, vs.toArray, _, hk, rfl, rfl, rfl, by rw [List.size_toArray, hi.length]; exact hl, by simpa using rv⟩, (fun b u z => absurd (show (none : Option HO) = some u from z) (by simp)), (fun b u z => absurd (show (none : Option HO) = some u from z) (by simp))⟩
    | none =>
      refine ⟨upd (fun _ => none) a (.frz { cls := .type "list", data := .seq vs.toArray } (.lst (ns.map V.int))), fun b => ?_, .inl (.inr ⟨_, upd_same⟩), fun b u z => ?_, fun b u z => ?_⟩
      · by_cases hb : b = a
        · exact .inr ⟨_, _, by rw [hb]; exact upd_same⟩
        · exact .inl (upd_ne hb)
      · by_cases hb : b = a
        · subst hb
          rw [upd_same] at z
          cases z
          exact ⟨ha, by rw [List.length_map]; exact hl, vs, _, rv, ha⟩
        · rw [upd_ne hb] at z
          cases z
      · by_cases hb : b = a
        · exact ⟨hb, rfl⟩
        · rw [upd_ne hb] at z
          cases z
  have nonA : ∀ {b : Addr} {o : Obj}, s₁.heap.get? b = some o → (∀ (xs : Array Value) (n : Nat), o.data ≠ .seq xs n) → H b = none := fun {b o} e d => by
    cases q : H b with
    | none => rfl
    | some u =>
      rw [(hA b u q).1, ha] at e
      cases e
      exact absurd rfl (d _ _)
  have ns' : ∀ {b : Addr} {m : Str → Option Value}, s₁.heap.Ns b m → (hidT s₁.heap H).Ns b m := fun {b m} ⟨o, es, ep, e, d, r⟩ =>
    ⟨o, es, ep, hidT_get e (nonA e fun xs n z => by rw [d] at z; cases z), d, r⟩
  have hKb : K.In (hidT s₁.heap H) := fun b o e => hidT_get (KX b o e) (by
    cases q : H b with
    | none => rfl
    | some u =>
      obtain ⟨rfl, z⟩ := hA b u q
      rw [z] at e
      cases e)
  obtain ⟨mc, l1, l2⟩ := hlim
  have e0 : Env0 P w K mg (hidT s₁.heap H) callerA [] s₁ H :=
    ⟨rfl, ⟨hKb, ns' hns, ⟨mb, ns' hb, hbb⟩, mc, ns' l1, l2⟩, fun b o e => of_hidT e, Nat.le_of_eq (hidT_size _ _), trivial, (fun b z => absurd (show b ∈ ([] : List Addr) from z) (by simp)), hok, AllBare.of_eq hg⟩
  refine codeAny_mono (F _ hKb (ns' hns) callerA [] s₁ H [.ref a] [] [.ref a] [] _ _ hr rfl e0 (.cons rfl .nil) .nil rfl (hsp H hO hS)) fun r s' h => ?_
  cases r with
  | error e =>
    obtain ⟨_, _, _, _, _, _, _, _, _, _, _, _, z⟩ := h
    exact z.elim
  | ok fl =>
    cases fl with
    | next => exact h.elim
    | brk => exact h.elim
    | cont => exact h.elim
    | ret u =>
      obtain ⟨v, H', os, bare, un, hok', r', q⟩ := h
      obtain rfl : v = .bl true := q
      obtain rfl : u = Value.bool true := r'
      refine ⟨rfl, OldK.of_keep fun b o e => ?_, os, bare⟩
      cases q : H b with
      | none => exact un.keep b o e q (by intro z; cases z) (by simp)
      | some u =>
        rcases hO b with z | ⟨ob, xs, z⟩
        · rw [q] at z
          cases z
        · obtain ⟨e1, _⟩ := hok b _ z
          obtain ⟨e2, _⟩ := hok' b _ (un.frzs b ob _ z)
          rw [e] at e1
          cases e1
          exact e2
theorem walk_ofG {l : OpenLaw} {n k : Nat} {q : Program} {loose : List Str} {XP : (Str → Option Value) → Heap → Prop} {YP : World → Heap → Prop} {d : DefRec} {K : Params → Frag} {sp : World → Sp}
    (hn : l.most = some n) (hn2 : n ≤ sizeLine) (hdf : d.params.defaults = []) (hr : Room k callerA)
    (hY : ∀ (w : World) (h : Heap), YP w h → (K w.params).In h)
    (F : ∀ (w : World) (mg : Str → Option Value) (fa : Addr) (h : Heap), (K w.params).In h → h.Ns mainGlobals mg → mg d.name = some (.ref fa) →
      ∀ base : Heap, (K w.params).In base → base.Ns mainGlobals mg → CallG l.prog w (K w.params) mg base k fa [] (sp w))
    (hsp : ∀ (w : World) (H : Hp) (a : Addr) (ns : List Int), ns.length ≤ n → (∀ z ∈ ns, Builtin.Int.intBits z ≤ 1048576) → Only H → SqL (K w.params) H a (ns.map V.int) → sp w [.ref a] H (fun v _ => v = .bl true) fun _ _ _ => False) :
    WalkO q loose XP YP l.row.toRowW d [] (fun f vs => PySem.call f vs) :=
  Att.attach_callB hn hdf fun w _ s₁ mg mb fa o pm cd doc a vs ns G Y ho hd hcd hmg hobj hints hlen hbits hg =>
    lawG (hY w _ Y) G.T.g G.T.b G.T.builtins G.T.nolimit hg hobj hints (Nat.le_trans hlen hn2) hr (F w mg fa _ (hY w _ Y) G.T.g hmg) fun H hO hS => hsp w H a ns hlen hbits hO hS

/-! ### values by rule -/
section
variable {X : Cx}
/-- // by a divisor of either sign -/
def CDivS (_ j : Int) : Prop := j ≠ 0 ∧ j.natAbs.log2 < 9000
theorem op_fdivS : OpR X (binaryOp .FloorDiv) (rI CDivS fun i j => .int (i.fdiv j)) := opI fun i j _ _ _ _ _ hc q =>
  floordiv_int hc.1 q (.inl (PyProof.noPylong_of_log2 hc.2))
/-- repr of data -/
def rReprD (K : Frag) : List V → Hp → VK → Prop := fun xs H Q => ∃ x d, xs = [x] ∧ Dp K H x d ∧ d.showable = true ∧ d.hasDict = false ∧ d.depth ≤ 100 ∧ d.shown.length ≤ sizeLine ∧ Q (.str d.shown) H
theorem call_reprD {k : Nat} (hr : Room k X.A) (hg : X.A.guards = some []) : CallR X (.builtin "repr") (rReprD X.K) := fun pins s σ H xs us Q I r ⟨x, d, ex, hd, hs, hnd, hdp, hsz, q⟩ => by
  subst ex
  obtain ⟨u, rfl, ru⟩ := vals1 r
  obtain ⟨as, rd⟩ := Dp.reads I d x u hd ru
  have hu : X.A.units + (d.depth + 1) < cLine := by have := hr.un; omega
  cases hd with
  | non =>
    cases ru
    exact PySem.P.repr_of_none ⟨.str "None", H, I.tok _, ⟨_, rfl⟩, q⟩
  | bl b =>
    cases ru
    exact PySem.P.repr_of_bool ⟨.str (if b then "True" else "False"), H, I.tok _, ⟨_, rfl⟩, q⟩
  | int i =>
    obtain ⟨t, rfl⟩ := ru
    exact PySem.P.repr_of_int (by simpa [PyData.showable] using hs) ⟨.str (toString i), H, I.tok _, ⟨_, rfl⟩, q⟩
  | str y =>
    obtain ⟨t, rfl⟩ := ru
    exact PySem.P.repr_of_str ⟨.str (reprText y), H, I.tok _, ⟨_, rfl⟩, q⟩ hsz
  | lst _ _ =>
    cases ru
    exact repr_of_reads' rd hs (PyData.noDict_hsm hnd) hg hu (fun _ _ e => e) (fun h' u tk hk => ⟨.str _, H, I.kept hk, ⟨_, rfl⟩, q⟩) hsz
  | tup _ _ =>
    cases ru
    exact repr_of_reads' rd hs (PyData.noDict_hsm hnd) hg hu (fun _ _ e => e) (fun h' u tk hk => ⟨.str _, H, I.kept hk, ⟨_, rfl⟩, q⟩) hsz
end
end Rm
/-! Plain mathematics of numbers in lowest terms. -/
namespace Rm
/-- above / below in lowest terms, the sign above -/
def dv (a b : Int) : Int := if b < 0 then -(Int.gcd a b : Int) else (Int.gcd a b : Int)
def red (a b : Int) : Int × Int := (a.fdiv (dv a b), b.fdiv (dv a b))
def IsNum (p q : Int) : Prop := 1 ≤ q ∧ Int.gcd p q = 1
instance (p q : Int) : Decidable (IsNum p q) := by unfold IsNum; infer_instance
theorem gcd_pos' {a b : Int} (hb : b ≠ 0) : 0 < Int.gcd a b := Int.gcd_pos_of_ne_zero_right a hb
theorem dv_ne {a b : Int} (hb : b ≠ 0) : dv a b ≠ 0 := by
  have := gcd_pos' (a := a) hb
  unfold dv
  split <;> omega
theorem dv_abs (a b : Int) : (dv a b).natAbs = Int.gcd a b := by
  unfold dv
  split <;> omega
theorem dv_l (a b : Int) : dv a b ∣ a := by
  unfold dv
  split
  · exact Int.neg_dvd.mpr (Int.gcd_dvd_left ..)
  · exact Int.gcd_dvd_left ..
theorem dv_r (a b : Int) : dv a b ∣ b := by
  unfold dv
  split
  · exact Int.neg_dvd.mpr (Int.gcd_dvd_right ..)
  · exact Int.gcd_dvd_right ..
theorem fdiv_of_dvd {a d : Int} (h : d ∣ a) (hd : d ≠ 0) : a.fdiv d * d = a := by
  obtain ⟨k, rfl⟩ := h
  rw [Int.mul_fdiv_cancel_left _ hd, Int.mul_comm]
theorem red_l {a b : Int} (hb : b ≠ 0) : (red a b).1 * dv a b = a := fdiv_of_dvd (dv_l a b) (dv_ne hb)
theorem red_r {a b : Int} (hb : b ≠ 0) : (red a b).2 * dv a b = b := fdiv_of_dvd (dv_r a b) (dv_ne hb)
theorem red_pos {a b : Int} (hb : b ≠ 0) : 1 ≤ (red a b).2 := by
  have h1 := red_r (a := a) hb
  have h2 := gcd_pos' (a := a) hb
  unfold dv at h1
  split at h1
  · rename_i h
    have h3 : (red a b).2 * (Int.gcd a b : Int) = -b := by rw [Int.mul_neg] at h1; omega
    refine Int.not_lt.mp fun h4 => ?_
    have : (red a b).2 * (Int.gcd a b : Int) ≤ 0 := Int.mul_nonpos_of_nonpos_of_nonneg (by omega) (by omega)
    omega
  · rename_i h
    refine Int.not_lt.mp fun h4 => ?_
    have : (red a b).2 * (Int.gcd a b : Int) ≤ 0 := Int.mul_nonpos_of_nonpos_of_nonneg (by omega) (by omega)
    omega
theorem red_cross {a b : Int} (hb : b ≠ 0) : (red a b).1 * b = a * (red a b).2 := by
  have h1 := red_l (a := a) hb
  have h2 := red_r (a := a) hb
  generalize (red a b).1 = p at *
  generalize (red a b).2 = q at *
  generalize dv a b = d at *
  subst h1
  rw [← h2]
  rw [Int.mul_assoc, Int.mul_comm d q]
theorem red_gcd {a b : Int} (hb : b ≠ 0) : Int.gcd (red a b).1 (red a b).2 = 1 := by
  have h1 := red_l (a := a) hb
  have h2 := red_r (a := a) hb
  have h3 := gcd_pos' (a := a) hb
  have h4 : Int.gcd ((red a b).1 * dv a b) ((red a b).2 * dv a b) = Int.gcd (red a b).1 (red a b).2 * (dv a b).natAbs := Int.gcd_mul_right ..
  rw [h1, h2, dv_abs] at h4
  have h5 : Int.gcd (red a b).1 (red a b).2 * Int.gcd a b = 1 * Int.gcd a b := by omega
  exact Nat.eq_of_mul_eq_mul_right h3 h5
theorem red_num {a b : Int} (hb : b ≠ 0) : IsNum (red a b).1 (red a b).2 := ⟨red_pos hb, red_gcd hb⟩
theorem red_le1 {a b : Int} (hb : b ≠ 0) : (red a b).1.natAbs ≤ a.natAbs := by
  have h1 := congrArg Int.natAbs (red_l (a := a) hb)
  rw [Int.natAbs_mul, dv_abs] at h1
  have h3 := gcd_pos' (a := a) hb
  rw [← h1]
  exact Nat.le_mul_of_pos_right _ h3
theorem red_le2 {a b : Int} (hb : b ≠ 0) : (red a b).2.natAbs ≤ b.natAbs := by
  have h1 := congrArg Int.natAbs (red_r (a := a) hb)
  rw [Int.natAbs_mul, dv_abs] at h1
  have h3 := gcd_pos' (a := a) hb
  rw [← h1]
  exact Nat.le_mul_of_pos_right _ h3
/-- two numbers in lowest terms with the same value are the same -/
theorem num_ext {p q r s : Int} (h1 : IsNum p q) (h2 : IsNum r s) (h : p * s = r * q) : p = r ∧ q = s := by
  have e1 : q.natAbs ∣ s.natAbs := by
    have : q.natAbs ∣ p.natAbs * s.natAbs := by
      rw [← Int.natAbs_mul, h, Int.natAbs_mul]
      exact Nat.dvd_mul_left _ _
    exact Nat.Coprime.dvd_of_dvd_mul_left (by have := h1.2; unfold Int.gcd at this; exact Nat.Coprime.symm this) this
  have e2 : s.natAbs ∣ q.natAbs := by
    have : s.natAbs ∣ r.natAbs * q.natAbs := by
      rw [← Int.natAbs_mul, ← h, Int.natAbs_mul]
      exact Nat.dvd_mul_left _ _
    exact Nat.Coprime.dvd_of_dvd_mul_left (by have := h2.2; unfold Int.gcd at this; exact Nat.Coprime.symm this) this
  have e3 : q.natAbs = s.natAbs := Nat.dvd_antisymm e1 e2
  have e4 : q = s := by have := h1.1; have := h2.1; omega
  subst e4
  refine ⟨?_, rfl⟩
  exact Int.eq_of_mul_eq_mul_right (by have := h1.1; omega) h
theorem red_same {p q : Int} (h : IsNum p q) : red p q = (p, q) := by
  have hq : q ≠ 0 := by have := h.1; omega
  obtain ⟨e1, e2⟩ := num_ext (red_num (a := p) hq) h (red_cross hq)
  exact Prod.ext e1 e2
/-- a result is known by its cross product -/
theorem red_eq {a b p q : Int} (hb : b ≠ 0) (h : IsNum p q) (e : a * q = p * b) : red a b = (p, q) := by
  have h1 := red_cross (a := a) hb
  have h2 := red_num (a := a) hb
  have : (red a b).1 * q = p * (red a b).2 := by
    apply Int.eq_of_mul_eq_mul_right hb
    calc (red a b).1 * q * b = (red a b).1 * b * q := by rw [Int.mul_right_comm]
      _ = a * (red a b).2 * q := by rw [h1]
      _ = a * q * (red a b).2 := by rw [Int.mul_right_comm]
      _ = p * b * (red a b).2 := by rw [e]
      _ = p * (red a b).2 * b := by rw [Int.mul_right_comm]
  obtain ⟨e1, e2⟩ := num_ext h2 h this
  exact Prod.ext e1 e2
theorem gcd_step {x y : Int} (hx : 0 ≤ x) (hy : 0 < y) : Int.gcd y (x % y) = Int.gcd x y := by
  unfold Int.gcd
  rw [Int.natAbs_emod_of_nonneg hx, Nat.gcd_comm, ← Nat.gcd_rec, Nat.gcd_comm]
end Rm
/-! Data in the abstract heap: what kind it is, how it is carried over, how long its text is; rules by data. -/
namespace Rm
open PySem PySem.W PySem.Calls PyProof.Rows PySem.Spec L2
/-- all that is tracked stays, but at d -/
def Exb (d : Addr) (H H' : Hp) : Prop := ∀ a o, a ≠ d → H a = some o → H' a = some o
abbrev Ex := Evl.Ex
theorem Exb.refl {d : Addr} {H : Hp} : Exb d H H := fun _ _ _ e => e
theorem Exb.of {d : Addr} {H H' : Hp} (e : Ex H H') : Exb d H H' := fun a o _ z => e a o z
theorem Exb.trans {d : Addr} {H H1 H2 : Hp} (a : Exb d H H1) (b : Exb d H1 H2) : Exb d H H2 := fun x o n e => b x o n (a x o n e)
theorem Ex.upd {H : Hp} {p : Addr} {o : HO} (h : H p = none) : Ex H (upd H p o) := Evl.Ex.new h
/-- what carries data over -/
structure Car (H H' : Hp) : Prop where
  lst : ∀ a xs, Rd H a (.lst xs) → Rd H' a (.lst xs)
  tup : ∀ a xs, Rd H a (.tup xs) → Rd H' a (.tup xs)
theorem Car.ex {H H' : Hp} (e : Ex H H') : Car H H' := ⟨fun _ _ r => Evl.ex_rd e r, fun _ _ r => Evl.ex_rd e r⟩
theorem Car.exb {d : Addr} {kvs : List (Key × V)} {H H' : Hp} (hd : H d = some (.dK kvs)) (e : Exb d H H') : Car H H' := by
  have key : ∀ (a : Addr) (u : HO), (∀ k, u ≠ .dK k) → Rd H a u → Rd H' a u := fun a u hu r => by
    rcases r with r | ⟨o, r⟩
    · exact .inl (e a _ (fun z => by rw [z, hd] at r; cases r; exact hu _ rfl) r)
    · exact .inr ⟨o, e a _ (fun z => by rw [z, hd] at r; cases r) r⟩
  exact ⟨fun a xs r => key a _ (by intro k z; cases z) r, fun a xs r => key a _ (by intro k z; cases z) r⟩
theorem Car.l {K : Frag} {H H' : Hp} {a : Addr} {xs : List V} (c : Car H H') (h : SqL K H a xs) : SqL K H' a xs := h.imp (c.lst a xs) id
theorem Car.t {K : Frag} {H H' : Hp} {a : Addr} {xs : List V} (c : Car H H') (h : SqT K H a xs) : SqT K H' a xs := h.imp (c.tup a xs) id
theorem Car.trans {H H1 H2 : Hp} (a : Car H H1) (b : Car H1 H2) : Car H H2 := ⟨fun x xs r => b.lst x xs (a.lst x xs r), fun x xs r => b.tup x xs (a.tup x xs r)⟩
theorem Car.refl {H : Hp} : Car H H := ⟨fun _ _ r => r, fun _ _ r => r⟩
mutual
theorem Car.d {K : Frag} {H H' : Hp} (c : Car H H') : ∀ {d : PyData} {v : V}, Dp K H v d → Dp K H' v d
  | .none, _, h => by cases h; exact .non
  | .bool b, _, h => by cases h; exact .bl b
  | .int i, _, h => by cases h; exact .int i
  | .str x, _, h => by cases h; exact .str x
  | .list ds, _, h => by cases h with | lst a b => exact .lst (c.l a) (c.ds b)
  | .tuple ds, _, h => by cases h with | tup a b => exact .tup (c.t a) (c.ds b)
  | .dict _, _, h => by cases h
theorem Car.ds {K : Frag} {H H' : Hp} (c : Car H H') : ∀ {ds : List PyData} {vs : List V}, DpAll K H vs ds → DpAll K H' vs ds
  | [], _, h => by cases h; exact .nil
  | d :: ds, _, h => by cases h with | cons a b => exact .cons (c.d a) (c.ds b)
end
/-- the kind of data -/
def tyOf : PyData → String
  | .none => "NoneType" | .bool _ => "bool" | .int _ => "int" | .str _ => "str" | .list _ => "list" | .tuple _ => "tuple" | .dict _ => "dict"
theorem Dp.ty {K : Frag} {H : Hp} {v : V} {d : PyData} (h : Dp K H v d) : TyX K H v (.type (tyOf d)) := by
  cases h with
  | non => exact .base .non
  | bl b => exact .base (.bl b)
  | int i => exact .base (.int i)
  | str x => exact .base (.str x)
  | lst a _ =>
    rcases a with (a | ⟨o, a⟩) | ⟨o, its, n, e, c, _⟩
    · exact .base (.lst a)
    · exact .base (.frz a)
    · exact .kList e c
  | tup a _ =>
    rcases a with (a | ⟨o, a⟩) | ⟨o, its, n, e, c, _⟩
    · exact .base (.tup a)
    · exact .fTuple a
    · exact .kTuple e c
/-- isinstance(x, T) of data by a built-in class -/
def rIsD (K : Frag) : List V → Hp → VK → Prop := fun xs H Q => ∃ (x : V) (n : String) (d : PyData) (b : Bool), xs = [x, .ty n] ∧ Dp K H x d ∧ kitB (tyOf d) n = some b ∧ Q (.bl b) H
theorem call_isD {X : Cx} : CallR X (.builtin "isinstance") (rIsD X.K) := fun pins s σ H xs us Q I r ⟨x, n, d, b, ex, hd, hk, q⟩ =>
  call_isi pins s σ H xs us Q I r ⟨x, .ty n, .type (tyOf d), .type n, b, ex, .ty n, Dp.ty hd, kit_ty hk, q⟩
/-- a pair of ints stands at x -/
def NumAt (K : Frag) (H : Hp) (x : V) (p q : Int) : Prop := ∃ a, x = .ref a ∧ SqT K H a [.int p, .int q]
theorem NumAt.d {K : Frag} {H : Hp} {x : V} {p q : Int} (h : NumAt K H x p q) : Dp K H x (.tuple [.int p, .int q]) := by
  obtain ⟨a, rfl, h⟩ := h
  exact .tup h (.cons (.int p) (.cons (.int q) .nil))
theorem NumAt.of {K : Frag} {H : Hp} {x : V} {p q : Int} (h : Dp K H x (.tuple [.int p, .int q])) : NumAt K H x p q := by
  cases h with
  | tup a b =>
    cases b with
    | cons c d =>
      cases c
      cases d with
      | cons e f =>
        cases e
        cases f
        exact ⟨_, rfl, a⟩
theorem NumAt.c {K : Frag} {H H' : Hp} {x : V} {p q : Int} (h : NumAt K H x p q) (c : Car H H') : NumAt K H' x p q := by
  obtain ⟨a, e, h⟩ := h
  exact ⟨a, e, c.t h⟩
theorem NumAt.new {K : Frag} {H : Hp} {a : Addr} {p q : Int} (h : H a = some (.tup [.int p, .int q])) : NumAt K H (.ref a) p q := ⟨a, rfl, SqT.of h⟩
/-- a pair is handed back -/
def RNum (H : Hp) (Q : VK) (r : Int × Int) : Prop := ∀ p H', H p = none → Ex H H' → H' p = some (.tup [.int r.1, .int r.2]) → Q (.ref p) H'
/-! ### lengths of texts -/
mutual
def wt : PyData → Nat
  | .none => 4
  | .bool _ => 5
  | .int _ => 1921
  | .str x => (reprText x).length
  | .list xs => wtAll xs + 2
  | .tuple xs => wtAll xs + 3
  | .dict _ => 0
def wtAll : List PyData → Nat
  | [] => 0
  | x :: xs => wt x + 2 + wtAll xs
end
def lens (ts : List Str) : Nat := (ts.map fun t => t.length + 2).sum
theorem textFrom_le : ∀ (ts : List Str) (k : Nat) (acc : Str), (textFrom k acc ts).length ≤ acc.length + lens ts
  | [], k, acc => by simp [textFrom, lens]
  | t :: r, k, acc => by
    have h := textFrom_le r (k + 1) (acc ++ (if k > 0 then ", " else "" : String) ++ t)
    have e : textFrom k acc (t :: r) = textFrom (k + 1) (acc ++ (if k > 0 then ", " else "" : String) ++ t) r := rfl
    rw [e]
    have e2 : (acc ++ (if k > 0 then ", " else "" : String) ++ t : Str).length ≤ acc.length + 2 + t.length := by
      rw [Str.length_append, Str.length_append]
      have : (Str.ofString (if k > 0 then ", " else "")).length ≤ 2 := by split <;> decide
      omega
    have e3 : lens (t :: r) = t.length + 2 + lens r := by simp [lens]
    omega
theorem listText_le (ts : List Str) : (listText ts).length ≤ lens ts + 2 := by
  have h := textFrom_le ts 0 "["
  unfold listText
  rw [Str.length_append]
  have e1 : (Str.ofString "[").length = 1 := by decide
  have e2 : (Str.ofString "]").length = 1 := by decide
  omega
theorem join_le : ∀ ts : List Str, (Str.join ", " ts).length ≤ lens ts
  | [] => by decide
  | [x] => by show x.length ≤ _; simp [lens]
  | x :: y :: r => by
    have h := join_le (y :: r)
    show (x ++ Str.ofString ", " ++ Str.join ", " (y :: r)).length ≤ _
    rw [Str.length_append, Str.length_append]
    have e1 : (Str.ofString ", ").length = 2 := by decide
    have e3 : lens (x :: y :: r) = x.length + 2 + lens (y :: r) := by simp [lens]
    omega
theorem tupleText_le (ts : List Str) : (tupleText ts).length ≤ lens ts + 3 := by
  have h := join_le ts
  unfold tupleText
  rw [Str.length_append, Str.length_append]
  have e1 : (Str.ofString "(").length = 1 := by decide
  have e2 : (Str.ofString (if ts.length == 1 then ",)" else ")")).length ≤ 2 := by split <;> decide
  omega
mutual
theorem shown_le : ∀ d : PyData, d.showable = true → d.hasDict = false → d.shown.length ≤ wt d
  | .none, _, _ => by simp only [PyData.shown, wt]; decide
  | .bool b, _, _ => by simp only [PyData.shown, wt]; cases b <;> decide
  | .int i, h, _ => by
    simp only [PyData.shown, wt]
    exact int_text_len_1921 (by simpa [PyData.showable] using h)
  | .str x, _, _ => by simp only [PyData.shown, wt]; exact Nat.le_refl _
  | .list xs, h, hd => by
    simp only [PyData.shown, wt]
    have := shownAll_le xs (by simpa [PyData.showable] using h) (by simpa [PyData.hasDict] using hd)
    exact Nat.le_trans (listText_le _) (by omega)
  | .tuple xs, h, hd => by
    simp only [PyData.shown, wt]
    have := shownAll_le xs (by simpa [PyData.showable] using h) (by simpa [PyData.hasDict] using hd)
    exact Nat.le_trans (tupleText_le _) (by omega)
  | .dict _, _, hd => by simp [PyData.hasDict] at hd
theorem shownAll_le : ∀ xs : List PyData, PyData.showableAll xs = true → PyData.hasDictAll xs = false → lens (PyData.shownAll xs) ≤ wtAll xs
  | [], _, _ => by simp [PyData.shownAll, lens, wtAll]
  | x :: xs, h, hd => by
    have h' : x.showable = true ∧ PyData.showableAll xs = true := by simpa [PyData.showableAll] using h
    have hd' : x.hasDict = false ∧ PyData.hasDictAll xs = false := by simpa [PyData.hasDictAll] using hd
    have h1 := shown_le x h'.1 hd'.1
    have h2 := shownAll_le xs h'.2 hd'.2
    have e : lens (PyData.shownAll (x :: xs)) = x.shown.length + 2 + lens (PyData.shownAll xs) := by simp [lens, PyData.shownAll]
    simp only [wtAll]
    omega
end
end Rm
/-! Promises of the program's defs about numbers. -/
namespace Rm
open PySem PySem.W PySem.Calls PyProof.Rows PySem.Spec L2
def sp1 (f : V → Hp → VK → XK → Prop) : Sp := fun vs H Q E => ∃ a, vs = [a] ∧ f a H Q E
def sp2 (f : V → V → Hp → VK → XK → Prop) : Sp := fun vs H Q E => ∃ a b, vs = [a, b] ∧ f a b H Q E
def sp3 (f : V → V → V → Hp → VK → XK → Prop) : Sp := fun vs H Q E => ∃ a b c, vs = [a, b, c] ∧ f a b c H Q E
def sp4 (f : V → V → V → V → Hp → VK → XK → Prop) : Sp := fun vs H Q E => ∃ a b c d, vs = [a, b, c, d] ∧ f a b c d H Q E
theorem sp1_len {f} {x : Str} (vs : List V) (H : Hp) (Q : VK) (E : XK) (h : sp1 f vs H Q E) : vs.length = [x].length := by obtain ⟨_, rfl, _⟩ := h; rfl
theorem sp2_len {f} {x y : Str} (vs : List V) (H : Hp) (Q : VK) (E : XK) (h : sp2 f vs H Q E) : vs.length = [x, y].length := by obtain ⟨_, _, rfl, _⟩ := h; rfl
theorem sp3_len {f} {x y z : Str} (vs : List V) (H : Hp) (Q : VK) (E : XK) (h : sp3 f vs H Q E) : vs.length = [x, y, z].length := by obtain ⟨_, _, _, rfl, _⟩ := h; rfl
theorem sp4_len {f} {x y z u : Str} (vs : List V) (H : Hp) (Q : VK) (E : XK) (h : sp4 f vs H Q E) : vs.length = [x, y, z, u].length := by obtain ⟨_, _, _, _, rfl, _⟩ := h; rfl
/-- sizes: below two to the n -/
def Bd (n : Nat) (i : Int) : Prop := i.natAbs < 2 ^ n
theorem Bd.mono {m n : Nat} {i : Int} (h : Bd m i) (hm : m ≤ n) : Bd n i := Nat.lt_of_lt_of_le h (Nat.pow_le_pow_right (by decide) hm)
theorem Bd.mul {m n : Nat} {i j : Int} (h : Bd m i) (k : Bd n j) : Bd (m + n) (i * j) := by
  unfold Bd at *
  rw [Int.natAbs_mul, Nat.pow_add]
  exact Nat.mul_lt_mul'' h k
theorem Bd.add {m : Nat} {i j : Int} (h : Bd m i) (k : Bd m j) : Bd (m + 1) (i + j) := by
  unfold Bd at *
  have : (i + j).natAbs ≤ i.natAbs + j.natAbs := Int.natAbs_add_le ..
  rw [Nat.pow_succ]
  omega
theorem Bd.neg {m : Nat} {i : Int} (h : Bd m i) : Bd m (-i) := by unfold Bd at *; rwa [Int.natAbs_neg]
theorem Bd.sub {m : Nat} {i j : Int} (h : Bd m i) (k : Bd m j) : Bd (m + 1) (i - j) := by rw [Int.sub_eq_add_neg]; exact h.add k.neg
theorem Bd.log {n : Nat} {i : Int} (h : Bd n i) (hn : 0 < n) : i.natAbs.log2 < n := PySem.Flt.log2_lt_of hn h
theorem Bd.mulW {m n : Nat} {i j : Int} (h : Bd m i) (k : Bd n j) (hm : 0 < m := by decide) (hn : 0 < n := by decide) (hs : m + n ≤ 1000000 := by decide) : CMulW i j := wide_mul h k hm hn hs
theorem Bd.fdiv {i j : Int} (h : Bd 9000 j) (h0 : j ≠ 0) : CDivS i j := ⟨h0, h.log (by decide)⟩
theorem Bd.red1 {n : Nat} {a b : Int} (h : Bd n a) (hb : b ≠ 0) : Bd n (red a b).1 := Nat.lt_of_le_of_lt (red_le1 hb) h
theorem Bd.red2 {n : Nat} {a b : Int} (h : Bd n b) (hb : b ≠ 0) : Bd n (red a b).2 := Nat.lt_of_le_of_lt (red_le2 hb) h

def isIntD : PyData → Bool
  | .int _ => true
  | _ => false
def isNumD : PyData → Bool
  | .tuple [.int a, .int b] => decide (IsNum a b)
  | _ => false
def spIsInt (K : Frag) : Sp := sp1 fun x H Q _ => ∃ d, Dp K H x d ∧ Q (.bl (isIntD d)) H
def spGcd : Sp := sp2 fun x y H Q _ => ∃ a b, x = .int a ∧ y = .int b ∧ Q (.int (Int.gcd a b : Nat)) H
def spRed : Sp := sp2 fun x y H Q _ => ∃ a b, x = .int a ∧ y = .int b ∧ b ≠ 0 ∧ Bd 9000 b ∧ RNum H Q (red a b)
def spIsNum (K : Frag) : Sp := sp1 fun x H Q _ => ∃ d, Dp K H x d ∧ ∀ H', Ex H H' → Q (.bl (isNumD d)) H'
/-- the first that is no number -/
def fb : List V → List PyData → Option V
  | x :: xs, d :: ds => if isNumD d = true then fb xs ds else some x
  | _, _ => none
/-- an error of the class C with the one field f = x -/
def RErr (H : Hp) (E : XK) (C : Addr) (f : Str) (x : V) : Prop := ∀ d H', Ex H H' → H' d = some (.xd [(f, x)]) → E (.ref C) (some d) H'
def spCheckNums (K : Frag) (C : Addr) : Sp := fun vs H Q E => ∃ ds, vs.length ≤ 1000 ∧ DpAll K H vs ds ∧ match fb vs ds with
  | none => ∀ H', Ex H H' → Q .non H'
  | some x => RErr H E C "thing" x
def spCheckNums1 (K : Frag) (C : Addr) : Sp := sp1 fun x H Q E => ∃ p vs, x = .ref p ∧ SqT K H p vs ∧ spCheckNums K C vs H Q E
def spNumber (K : Frag) (C : Addr) : Sp := sp2 fun x y H Q E => ∃ dx dy, Dp K H x dx ∧ Dp K H y dy ∧
  ((∀ a b, dx = .int a → dy = .int b → b ≠ 0 → Bd 9000 b ∧ RNum H Q (red a b)) ∧
   ((∀ a b, dx = .int a → dy = .int b → b = 0) → ∀ t H1, H t = none → H1 = upd H t (.tup [x, y]) → RErr H1 E C "thing" (.ref t)))
/-- two numbers in, an operation by parts -/
def spNum2 (K : Frag) (f : Int → Int → Int → Int → Hp → VK → XK → Prop) : Sp := sp2 fun x y H Q E => ∃ p q r s, NumAt K H x p q ∧ NumAt K H y r s ∧ f p q r s H Q E
def spPlus (K : Frag) : Sp := spNum2 K fun p q r s H Q _ => Bd 4000 p ∧ Bd 4000 q ∧ Bd 4000 r ∧ Bd 4000 s ∧ q * s ≠ 0 ∧ RNum H Q (red (p * s + r * q) (q * s))
def spMinus (K : Frag) : Sp := spNum2 K fun p q r s H Q _ => Bd 4000 p ∧ Bd 4000 q ∧ Bd 4000 r ∧ Bd 4000 s ∧ q * s ≠ 0 ∧ RNum H Q (red (p * s - r * q) (q * s))
def spTimes (K : Frag) : Sp := spNum2 K fun p q r s H Q _ => Bd 4000 p ∧ Bd 4000 q ∧ Bd 4000 r ∧ Bd 4000 s ∧ q * s ≠ 0 ∧ RNum H Q (red (p * r) (q * s))
def spOver (K : Frag) : Sp := spNum2 K fun p q r s H Q _ => Bd 4000 p ∧ Bd 4000 q ∧ Bd 4000 r ∧ Bd 4000 s ∧ q * r ≠ 0 ∧ RNum H Q (red (p * s) (q * r))
def spLess (K : Frag) : Sp := spNum2 K fun p q r s H Q _ => Bd 4000 p ∧ Bd 4000 q ∧ Bd 4000 r ∧ Bd 4000 s ∧ Q (.bl (decide (p * s < r * q))) H
/-- any two things in: the first that is no number is refused, else f -/
def spBin (K : Frag) (C : Addr) (f : V → V → Int → Int → Int → Int → Hp → VK → XK → Prop) : Sp := sp2 fun x y H Q E => ∃ dx dy, Dp K H x dx ∧ Dp K H y dy ∧
  (∀ z, fb [x, y] [dx, dy] = some z → RErr H E C "thing" z) ∧
  (∀ p q r s, dx = .tuple [.int p, .int q] → dy = .tuple [.int r, .int s] → IsNum p q → IsNum r s → Bd 4000 p ∧ Bd 4000 q ∧ Bd 4000 r ∧ Bd 4000 s ∧ f x y p q r s H Q E)
def spAdd (K : Frag) (C : Addr) : Sp := spBin K C fun _ _ p q r s H Q _ => RNum H Q (red (p * s + r * q) (q * s))
def spSub (K : Frag) (C : Addr) : Sp := spBin K C fun _ _ p q r s H Q _ => RNum H Q (red (p * s - r * q) (q * s))
def spMul (K : Frag) (C : Addr) : Sp := spBin K C fun _ _ p q r s H Q _ => RNum H Q (red (p * r) (q * s))
def spDiv (K : Frag) (C : Addr) : Sp := spBin K C fun _ y p q r s H Q E => (r = 0 → RErr H E C "thing" y) ∧ (r ≠ 0 → RNum H Q (red (p * s) (q * r)))
def sgn3 (a b : Int) : Int := (if b < a then 1 else 0) - (if a < b then 1 else 0)
def spCmp (K : Frag) (C : Addr) : Sp := spBin K C fun _ _ p q r s H Q _ => ∀ H', Ex H H' → Q (.int (sgn3 (p * s) (r * q))) H'
def spWhole (K : Frag) : Sp := sp1 fun x H Q _ => ∃ p q, NumAt K H x p q ∧ q ≠ 0 ∧ Bd 9000 q ∧ Q (.int (p.fdiv q)) H
def spFloor (K : Frag) (C : Addr) : Sp := sp1 fun x H Q E => ∃ dx, Dp K H x dx ∧ (isNumD dx = false → RErr H E C "thing" x) ∧ (∀ p q, dx = .tuple [.int p, .int q] → IsNum p q → Bd 9000 q ∧ ∀ H', Ex H H' → Q (.int (p.fdiv q)) H')
theorem isNumD_inv {d : PyData} (h : isNumD d = true) : ∃ p q, d = .tuple [.int p, .int q] ∧ IsNum p q := by
  unfold isNumD at h
  split at h
  · exact ⟨_, _, rfl, of_decide_eq_true h⟩
  · cases h
end Rm
namespace Rm
open PySem PySem.W PySem.Calls PyProof.Rows PySem.Spec L2
def isIB : PyData → Bool
  | .int _ => true
  | .bool _ => true
  | _ => false
def isBoolD : PyData → Bool
  | .bool _ => true
  | _ => false
def isTupD : PyData → Bool
  | .tuple _ => true
  | _ => false
def isStrD : PyData → Bool
  | .str _ => true
  | _ => false
theorem kit_int (d : PyData) : kitB (tyOf d) "int" = some (isIB d) := by cases d <;> (simp only [tyOf, isIB]; decide +kernel)
theorem kit_bool (d : PyData) : kitB (tyOf d) "bool" = some (isBoolD d) := by cases d <;> (simp only [tyOf, isBoolD]; decide +kernel)
theorem kit_tuple (d : PyData) : kitB (tyOf d) "tuple" = some (isTupD d) := by cases d <;> (simp only [tyOf, isTupD]; decide +kernel)
theorem kit_str (d : PyData) : kitB (tyOf d) "str" = some (isStrD d) := by cases d <;> (simp only [tyOf, isStrD]; decide +kernel)
theorem DpAll.len {K : Frag} {H : Hp} : ∀ {vs : List V} {ds : List PyData}, DpAll K H vs ds → vs.length = ds.length
  | [], [], .nil => rfl
  | _ :: _, _ :: _, .cons _ t => congrArg (· + 1) (DpAll.len t)
theorem isNumD_tup {ds : List PyData} (h : ds.length ≠ 2) : isNumD (.tuple ds) = false := by
  match ds, h with
  | [], _ => rfl
  | [a], _ => cases a <;> rfl
  | a :: b :: c :: r, _ => cases a <;> (try rfl) <;> cases b <;> rfl
theorem isNumD_1 {a b : PyData} (h : isIntD a = false) : isNumD (.tuple [a, b]) = false := by cases a <;> first | rfl | cases h
theorem isNumD_2 {a b : PyData} (h : isIntD b = false) : isNumD (.tuple [a, b]) = false := by cases a <;> (try rfl) <;> cases b <;> first | rfl | cases h
theorem isIntD_inv {d : PyData} (h : isIntD d = true) : ∃ i, d = .int i := by cases d <;> first | exact ⟨_, rfl⟩ | cases h
theorem iteB {b : Bool} {A B : Prop} (h1 : b = true → A) (h2 : b = false → B) : if b = true then A else B := by
  cases b
  · exact iteF (h2 rfl)
  · exact iteT (h1 rfl)
theorem DpAll.two {K : Frag} {H : Hp} : ∀ {vs : List V} {ds : List PyData}, DpAll K H vs ds → vs.length = 2 → ∃ u v du dv, vs = [u, v] ∧ ds = [du, dv] ∧ Dp K H u du ∧ Dp K H v dv
  | [u, v], _, .cons a (.cons b .nil), _ => ⟨u, v, _, _, rfl, rfl, a, b⟩
theorem fb_drop {K : Frag} {H : Hp} : ∀ {vs : List V} {ds : List PyData} {i : Nat} {x : V}, DpAll K H vs ds → vs[i]? = some x → ∃ d, ds[i]? = some d ∧ Dp K H x d ∧ fb (vs.drop i) (ds.drop i) = (if isNumD d = true then fb (vs.drop (i + 1)) (ds.drop (i + 1)) else some x)
  | v :: vs, d :: ds, 0, x, .cons a b, h => by
    simp at h
    subst h
    exact ⟨d, rfl, a, rfl⟩
  | v :: vs, d :: ds, i + 1, x, .cons a b, h => by
    obtain ⟨d', e1, e2, e3⟩ := fb_drop (i := i) (x := x) b (by simpa using h)
    exact ⟨d', by simpa using e1, e2, by simpa using e3⟩
  | [], [], _, _, .nil, h => by simp at h
end Rm
namespace Rm
open PySem PySem.W PySem.Calls PyProof.Rows PySem.Spec L2
section
variable {P : Program} {w : World} {K : Frag} {mg : Str → Option Value} {base : Heap} {k : Nat} {f C : Addr} {fd : FuncData} {ps : List Str} {spB : Sp}
theorem FunD_okB {x qual : Str} {params : Arguments} {body : List Stmt} {scope : Scope} {dvs : List V} {kws : List (Str × V)} {N : List Str} (F : FunD K x qual params body scope dvs kws f fd) (S : FnScope N ps scope)
    (hbody : ∀ (cdv : Value) (A : Around) (outer : List Env) (s : Shared) (H : Hp) (vs : List V) (Q : VK) (E : XK), Room k (A.deeper (envOfC qual scope s.heap.objs.size f cdv)) → A.guards = some [] → spB vs H Q E →
      ∃ t, PSs (cxOf (L2.CX P w) P w K mg base N qual scope f cdv A outer s H E) body t ∧ t { nx := fun _ H' => Q .non H', rt := Q } (start N vs) H) : FnB P w K mg base (k + 1) f fd ps spB := by
  obtain ⟨oc, od, dV, kV, doc, pm, an, cdv, ct, osl, rfl, lk, hcd, _⟩ := F.ex
  exact fnB_of lk hcd S fun A outer s H vs Q E hr hg hsp => hbody cdv A outer s H vs Q E hr hg hsp
theorem pe_gcc {X : Cx} {x : Str} {v : V} {pos : Pos} (hg : Gl X x) (h : ∃ u, X.mg x = some u ∧ RelV v u) (hd : (x == ("__debug__" : Str)) = false := by decide) : PE X (.Name x pos) (tC v) := by
  obtain ⟨u, hm, r⟩ := h
  exact pe_glob hg hm r hd
variable {H H1 : Hp} {Q : VK} {E : XK} {vs : List V} {x y : V} {dx dy : PyData}
theorem RErr.ex {s : Str} (e : Ex H H1) (h : RErr H E C s x) : RErr H1 E C s x := fun d H' e' hd => h d H' (e.trans e') hd
theorem RNum.ex {r : Int × Int} (e : Ex H H1) (h : RNum H Q r) : RNum H1 Q r := fun p H' hp e' hd => h p H' (Evl.fresh_back e hp) (e.trans e') hd
theorem checkNums_in (h : spCheckNums K C vs H Q E) : vs.length ≤ sizeLine ∧ ∀ p, H p = none → spCheckNums1 K C [.ref p] (upd H p (.tup vs)) Q E := by
  obtain ⟨ds, hl, hd, q⟩ := h
  refine ⟨by rw [sizeLine_eq]; omega, fun p hp => ⟨_, rfl, p, vs, rfl, SqT.of upd_same, ds, hl, (Car.ex (Evl.Ex.new hp)).ds hd, ?_⟩⟩
  cases e : fb vs ds with
  | none =>
    rw [e] at q
    exact fun H' e' => q H' ((Evl.Ex.new hp).trans e')
  | some z =>
    rw [e] at q
    exact RErr.ex (Evl.Ex.new hp) q
theorem fb_none2 (h : fb [x, y] [dx, dy] = none) : isNumD dx = true ∧ isNumD dy = true := by
  simp only [fb] at h
  split at h
  · split at h
    · constructor <;> assumption
    · cases h
  · cases h
theorem fb_none1 (h : fb [x] [dx] = none) : isNumD dx = true := by
  simp only [fb] at h
  split at h
  · assumption
  · cases h
theorem fb_some1 {z : V} (h : fb [x] [dx] = some z) : isNumD dx = false ∧ z = x := by
  simp only [fb] at h
  split at h
  · cases h
  · cases h
    exact ⟨by simp_all, rfl⟩
/-- check_numbers(first, second) ahead of an operation by parts -/
theorem bin_in {Q' : VK} (hx : Dp K H x dx) (hy : Dp K H y dy) (qe : ∀ z, fb [x, y] [dx, dy] = some z → RErr H E C "thing" z)
    (qn : ∀ p q r s, dx = .tuple [.int p, .int q] → dy = .tuple [.int r, .int s] → IsNum p q → IsNum r s → ∀ H', Ex H H' → NumAt K H' x p q → NumAt K H' y r s → Q' .non H') :
    [x, y].length ≤ sizeLine ∧ ∀ p, H p = none → spCheckNums1 K C [.ref p] (upd H p (.tup [x, y])) Q' E := by
  refine checkNums_in ⟨[dx, dy], by show 2 ≤ 1000; decide, .cons hx (.cons hy .nil), ?_⟩
  cases e : fb [x, y] [dx, dy] with
  | some z => exact qe z e
  | none =>
    obtain ⟨h1, h2⟩ := fb_none2 e
    obtain ⟨p, q, rfl, i1⟩ := isNumD_inv h1
    obtain ⟨r, s, rfl, i2⟩ := isNumD_inv h2
    exact fun H' e' => qn p q r s rfl rfl i1 i2 H' e' (NumAt.of ((Car.ex e').d hx)) (NumAt.of ((Car.ex e').d hy))
end
theorem ne0_of {p q r s : Int} (h1 : IsNum p q) (h2 : IsNum r s) : q * s ≠ 0 := by
  have := Int.mul_pos (show (0 : Int) < q from h1.1) (show (0 : Int) < s from h2.1)
  omega
theorem shaped_num (p q : Int) : SeqAt.shaped (.tuple [.int p, .int q]) = true := by
  simp [SeqAt.shaped, PyData.canLay0, PyData.canLayAll0, PyData.depth, PyData.depthAll]
theorem eqv_num (p q r s : Int) : PyData.eqv (.tuple [.int p, .int q]) (.tuple [.int r, .int s]) = (decide (p = r) && decide (q = s)) := by
  simp only [PyData.eqv, PyData.eqvAll, Bool.and_true]
  rfl
end Rm
namespace Rm
open PySem PySem.W PySem.Calls PyProof.Rows PySem.Spec L2
/-- all parameters given by place, whatever the defaults are -/
theorem _root_.L2.FunD.bindsP {K : Frag} {x qual : Str} {params : Arguments} {body : List Stmt} {scope : Scope} {dvs : List V} {kws : List (Str × V)} {f : Addr} {fd : FuncData} {ps : List Str} (F : FunD K x qual params body scope dvs kws f fd)
    (h : ∀ (dV kV doc pm : Value) (an : Option Addr) (cdv ct : Value) (us : List Value), us.length = ps.length → bindArgs (fnOf x qual params body scope dV kV doc pm an cdv ct) ⟨us, []⟩ = pure (ps.zip us)) : Binds K fd ps [] := by
  obtain ⟨oc, od, dV, kV, doc, pm, an, cdv, ct, osl, rfl, _⟩ := F.ex
  exact Binds.all fun us hl => h dV kV doc pm an cdv ct us hl
end Rm
namespace Rm
open PySem PySem.W PySem.Calls PyProof.Rows PySem.Spec L2
/-- a call of a def with defaults, whatever its shape: the defaults' tuple is read -/
theorem _root_.L2.FunD.toB {K : Frag} {x qual : Str} {params : Arguments} {body : List Stmt} {scope : Scope} {dvs : List V} {kws : List (Str × V)} {f : Addr} {fd : FuncData} (F : FunD K x qual params body scope dvs kws f fd) (hd : dvs ≠ []) {args : Args} {binds : List (Str × Value)}
    (h : ∀ (T : Addr) (kV doc pm : Value) (an : Option Addr) (cdv ct : Value) (its : List Value), its.length = dvs.length →
      ∃ k, bindArgs (fnOf x qual params body scope (.ref T) kV doc pm an cdv ct) args = seqItems? (.ref T) >>= k ∧ k (some its.toArray) = pure binds) (s : Shared) (X : K.In s.heap) : BindsTo s fd args binds := by
  obtain ⟨oc, od, dV, kV, doc, pm, an, cdv, ct, osl, rfl, _, _, hD, _⟩ := F.ex
  rcases hD with ⟨e, _⟩ | ⟨_, T, o, its, n, rfl, lT, oT, r⟩
  · exact absurd e hd
  · obtain ⟨k, h1, h2⟩ := h T kV doc pm an cdv ct its r.length.symm
    refine BindsTo.of_looks fun M => ?_
    rw [h1]
    exact looks_items X lT oT (Looks.of_pure h2)
end Rm
namespace Rm
open PySem PySem.W PySem.Calls PyProof.Rows PySem.Spec L2
/-- the arguments in another order -/
def permV (ix : List Nat) (vs : List V) : List V := ix.map fun i => vs.getD i .non
def permU (ix : List Nat) (us : List Value) : List Value := ix.map fun i => us.getD i Value.none
theorem vals_getD : ∀ {vs : List V} {us : List Value} (i : Nat), Vals vs us → RelV (vs.getD i .non) (us.getD i Value.none)
  | [], [], i, .nil => by simp; rfl
  | _ :: _, _ :: _, 0, .cons a _ => by simpa using a
  | v :: vs, u :: us, i + 1, .cons _ b => by simpa using vals_getD i b
theorem vals_perm {vs : List V} {us : List Value} (r : Vals vs us) : ∀ ix : List Nat, Vals (permV ix vs) (permU ix us)
  | [] => .nil
  | i :: ix => .cons (vals_getD i r) (vals_perm r ix)
theorem FnB.perm {P : Program} {w : World} {K : Frag} {mg : Str → Option Value} {base : Heap} {k : Nat} {f : Addr} {fd : FuncData} {ps ks : List Str} {spB : Sp} (F : FnB P w K mg base k f fd ps spB) (ix : List Nat) (m : Nat)
    (hl : ∀ vs H Q E, spB vs H Q E → vs.length = ps.length)
    (hb : ∀ (s : Shared) (us ws : List Value), K.In s.heap → ws.length = ks.length → (us ++ ws).length = m → BindsTo s fd ⟨us, ks.zip ws⟩ (ps.zip (permU ix (us ++ ws)))) :
    CallG P w K mg base k f ks (fun vs H Q E => vs.length = m ∧ spB (permV ix vs) H Q E) := fun A outer s H us ws vs zs Q E hr hgd e0 r1 r2 hw hsp => by
  obtain ⟨hm, hsp⟩ := hsp
  have r0 := r1.append r2
  have r := vals_perm r0 ix
  have len := hl _ _ _ _ hsp
  refine F A outer s H _ Q E (fun vs' H2 => vs' = permV ix (vs ++ zs) ∧ H2 = H) hr hgd e0 (fun A' Ex Q' h => ?_) fun vs' H2 z => by
    obtain ⟨rfl, rfl⟩ := z
    exact hsp
  refine hb s us ws (e0.mod.kin.keeps fun b o e => (e0.bs b o e).1) hw (by rw [← r0.length]; exact hm) _ _ _ _ ?_
  exact h s H _ _ e0 Un.refl rfl (fun _ _ z => z) r len ⟨rfl, rfl⟩
end Rm
/-! The draws of a law: a dict of the cells that are left. -/
namespace Rm
open PySem PySem.W PySem.Calls PyProof.Rows PySem.Spec L2
/-- list + list, whoever laid them -/
def rCatL (K : Frag) : R2 := fun x y H Q => ∃ l b xs zs, x = .ref l ∧ y = .ref b ∧ SqL K H l xs ∧ SqL K H b zs ∧ xs.length + zs.length ≤ sizeLine ∧ ∀ p, H p = none → Q (.ref p) (upd H p (.lst (xs ++ zs)))
theorem op_catL {X : Cx} : OpR X (binaryOp .Add) (rCatL X.K) := by
  intro pins s σ H x y v u Q I rx ry h
  obtain ⟨l, b, xs, zs, rfl, rfl, hH, hB, hz, q⟩ := h
  cases rx
  cases ry
  obtain ⟨its, r, ⟨⟨cls, dd, data, sl⟩, n, ho, hc, _, hd⟩, _⟩ := I.list hH
  obtain ⟨its2, r2, ⟨⟨cls2, dd2, data2, sl2⟩, n2, ho2, hc2, _, hd2⟩, _⟩ := I.list hB
  simp only at hc hd hc2 hd2
  subst hc hd hc2 hd2
  have hsz : its.toArray.size + its2.toArray.size ≤ sizeLine := by
    rw [List.size_toArray, List.size_toArray, ← r.length, ← r2.length]
    exact hz
  refine concat_meets ⟨_, ho, rfl⟩ ⟨_, ho2, rfl⟩ noFill_list_add seq_list_add PySem.F.slot_list_add PySem.F.entry_list_add (PySem.F.args_list_add_2 _ _) (list_addW l b its.toArray its2.toArray n n2 dd dd2 sl sl2 hsz) ⟨ho, ho2, ?_⟩
  have ea : its.toArray ++ its2.toArray = (its ++ its2).toArray := by simp
  rw [ea]
  exact ⟨.ref _, _, I.lnew (t' := s.toks) (r.append r2) (by rw [List.length_append]; exact hz), rfl, q _ I.fresh⟩
def drawD (c : Addr) (a l u : Int) : List (Key × V) := [(.inr "cells", .ref c), (.inr "at", .int a), (.inr "left", .int l), (.inr "used", .int u)]
/-- the draws at d after n of them at most -/
def DrawAt (K : Frag) (H : Hp) (d : Addr) (n : Nat) : Prop := ∃ (c : Addr) (cells : List Int) (a l u : Int), H d = some (.dK (drawD c a l u)) ∧ SqL K H c (cells.map V.int) ∧ cells ≠ [] ∧ cells.length ≤ 1000 ∧ 0 ≤ a ∧ a ≤ n ∧ 0 ≤ u ∧ u ≤ n
section
variable {K : Frag} {H H' : Hp} {d : Addr} {n m : Nat}
theorem DrawAt.mono (h : DrawAt K H d n) (hm : n ≤ m) : DrawAt K H d m := by
  obtain ⟨c, cells, a, l, u, h1, h2, h3, h4, h5, h6, h7, h8⟩ := h
  exact ⟨c, cells, a, l, u, h1, h2, h3, h4, h5, by omega, h7, by omega⟩
theorem DrawAt.ex (h : DrawAt K H d n) (e : Ex H H') : DrawAt K H' d n := by
  obtain ⟨c, cells, a, l, u, h1, h2, h3⟩ := h
  exact ⟨c, cells, a, l, u, e _ _ h1, (Car.ex e).l h2, h3⟩
theorem DrawAt.car (h : DrawAt K H d n) (e : Exb d H H') : Car H H' := by
  obtain ⟨c, cells, a, l, u, h1, _⟩ := h
  exact Car.exb h1 e
end
theorem draw_cells {c : Addr} {a l u : Int} : valV (drawD c a l u) (.inr "cells") = some (.ref c) := by kernel_rfl
theorem draw_at {c : Addr} {a l u : Int} : valV (drawD c a l u) (.inr "at") = some (.int a) := by kernel_rfl
theorem draw_left {c : Addr} {a l u : Int} : valV (drawD c a l u) (.inr "left") = some (.int l) := by kernel_rfl
theorem draw_used {c : Addr} {a l u : Int} : valV (drawD c a l u) (.inr "used") = some (.int u) := by kernel_rfl
theorem put_at {c : Addr} {a l u i : Int} : putK (drawD c a l u) (.inr "at") (.int i) = drawD c i l u := by kernel_rfl
theorem put_left {c : Addr} {a l u i : Int} : putK (drawD c a l u) (.inr "left") (.int i) = drawD c a i u := by kernel_rfl
theorem put_used {c : Addr} {a l u i : Int} : putK (drawD c a l u) (.inr "used") (.int i) = drawD c a l i := by kernel_rfl
section
variable {H : Hp} {d c : Addr} {a l u i : Int}
theorem dget_cells (h : H d = some (.dK (drawD c a l u))) : DGet H d (.str "cells") (some (.ref c)) := draw_cells (c := c) (a := a) (l := l) (u := u) ▸ DGet.k (k := Sum.inr "cells") h
theorem dget_at (h : H d = some (.dK (drawD c a l u))) : DGet H d (.str "at") (some (.int a)) := draw_at (c := c) (a := a) (l := l) (u := u) ▸ DGet.k (k := Sum.inr "at") h
theorem dget_left (h : H d = some (.dK (drawD c a l u))) : DGet H d (.str "left") (some (.int l)) := draw_left (c := c) (a := a) (l := l) (u := u) ▸ DGet.k (k := Sum.inr "left") h
theorem dget_used (h : H d = some (.dK (drawD c a l u))) : DGet H d (.str "used") (some (.int u)) := draw_used (c := c) (a := a) (l := l) (u := u) ▸ DGet.k (k := Sum.inr "used") h
theorem lenD : (drawD c a l u).length < sizeLine := by rw [sizeLine_eq]; show 4 < 16777216; decide
theorem dput_at (h : H d = some (.dK (drawD c a l u))) : DPut H d (.str "at") (.int i) (upd H d (.dK (drawD c i l u))) := put_at (c := c) (a := a) (l := l) (u := u) (i := i) ▸ DPut.k (k := Sum.inr "at") h lenD
theorem dput_left (h : H d = some (.dK (drawD c a l u))) : DPut H d (.str "left") (.int i) (upd H d (.dK (drawD c a i u))) := put_left (c := c) (a := a) (l := l) (u := u) (i := i) ▸ DPut.k (k := Sum.inr "left") h lenD
theorem dput_used (h : H d = some (.dK (drawD c a l u))) : DPut H d (.str "used") (.int i) (upd H d (.dK (drawD c a l i))) := put_used (c := c) (a := a) (l := l) (u := u) (i := i) ▸ DPut.k (k := Sum.inr "used") h lenD
end
theorem Exb.upd {d : Addr} {H H' : Hp} {o : HO} (e : Exb d H H') : Exb d H (upd H' d o) := fun a u n h => by
  rw [upd_ne n]
  exact e a u n h
theorem Exb.ex {d : Addr} {H H1 H' : Hp} (a : Exb d H H1) (b : Ex H1 H') : Exb d H H' := a.trans (Exb.of b)
theorem Exb.exl {d : Addr} {H H1 H' : Hp} (a : Ex H H1) (b : Exb d H1 H') : Exb d H H' := (Exb.of a).trans b
/-- promises of the drawing defs -/
def spBegin (K : Frag) : Sp := sp1 fun x H Q _ => ∃ (a : Addr) (ns : List Int), x = .ref a ∧ SqL K H a (ns.map V.int) ∧ ns.length ≤ 63 ∧ ∀ d H', H d = none → Ex H H' → DrawAt K H' d 0 → Q (.ref d) H'
def spMixed : Sp := sp2 fun x y H Q _ => ∃ c k, x = .int c ∧ y = .int k ∧ 0 ≤ k ∧ k < 2 ^ 60 ∧ ∀ r, Q (.int r) H
def RDr (K : Frag) (H : Hp) (d : Addr) (n : Nat) (k : Hp → Prop) : Prop := ∀ H', DrawAt K H' d n → Exb d H H' → k H'
def spNext (K : Frag) : Sp := sp2 fun x y H Q _ => ∃ d n b, x = .ref d ∧ y = .int b ∧ DrawAt K H d n ∧ n < 2 ^ 50 ∧ 0 < b ∧ b < 2 ^ 60 ∧ ∀ r, 0 ≤ r → r < b → RDr K H d (n + 1) (Q (.int r))
theorem atI_mem {xs : List V} {r : Int} (h0 : 0 ≤ r) (h1 : r < xs.length) : ∃ v, atI xs r = some v ∧ v ∈ xs := by
  have e : ((r.toNat : Nat) : Int) = r := Int.toNat_of_nonneg h0
  have hn : r.toNat < xs.length := by omega
  refine ⟨xs[r.toNat], ?_, List.getElem_mem hn⟩
  have h : ixN xs.length r = some r.toNat := by
    unfold ixN
    rw [if_pos h0, if_pos (by omega)]
  unfold atI
  rw [h]
  show xs[r.toNat]? = _
  rw [List.getElem?_eq_getElem hn]
theorem sz5 {n : Nat} (h : n ≤ 1000) : n ≤ sizeLine := by rw [sizeLine_eq]; omega
theorem isNumD_is {p q : Int} (i : IsNum p q) : isNumD (.tuple [.int p, .int q]) = true := decide_eq_true i
theorem fb_nums {x y : V} {p q r s : Int} (i1 : IsNum p q) (i2 : IsNum r s) : fb [x, y] [.tuple [.int p, .int q], .tuple [.int r, .int s]] = none := by
  simp only [fb, isNumD_is i1, isNumD_is i2, if_true]
/-- an operation that refuses -/
theorem bin_ref {K : Frag} {C : Addr} {f : V → V → Int → Int → Int → Int → Hp → VK → XK → Prop} {x y v : V} {dx dy : PyData} {H : Hp} {Q : VK} {E : XK} (hx : Dp K H x dx) (hy : Dp K H y dy) (h : fb [x, y] [dx, dy] = some v) (r : RErr H E C "thing" v) :
    spBin K C f [x, y] H Q E := ⟨x, y, rfl, dx, dy, hx, hy, (fun z e => by
    rw [h] at e
    cases e
    exact r), (fun p q r s e1 e2 i1 i2 => by
    subst e1 e2
    rw [fb_nums i1 i2] at h
    cases h)⟩
/-- an operation of two numbers -/
theorem bin_num {K : Frag} {C : Addr} {f : V → V → Int → Int → Int → Int → Hp → VK → XK → Prop} {x y : V} {p q r s : Int} {H : Hp} {Q : VK} {E : XK} (hx : NumAt K H x p q) (hy : NumAt K H y r s) (i1 : IsNum p q) (i2 : IsNum r s)
    (b1 : Bd 4000 p) (b2 : Bd 4000 q) (b3 : Bd 4000 r) (b4 : Bd 4000 s) (h : f x y p q r s H Q E) :
    spBin K C f [x, y] H Q E := ⟨x, y, rfl, _, _, hx.d, hy.d, (fun z e => by
    rw [fb_nums i1 i2] at e
    cases e), (fun p' q' r' s' e1 e2 _ _ => by
    cases e1
    cases e2
    exact ⟨b1, b2, b3, b4, h⟩)⟩
/-- data that repr shows: how deep, how long -/
structure Gd (k m : Nat) (d : PyData) : Prop where
  s : d.showable = true
  n : d.hasDict = false
  p : d.depth ≤ k
  w : wt d ≤ m
theorem Gd.mono {k m k' m' : Nat} {d : PyData} (g : Gd k m d) (h1 : k ≤ k') (h2 : m ≤ m') : Gd k' m' d := ⟨g.s, g.n, Nat.le_trans g.p h1, Nat.le_trans g.w h2⟩
theorem Gd.l {k : Nat} {d : PyData} (g : Gd k 16000000 d) : d.shown.length ≤ sizeLine := by rw [sizeLine_eq]; have := shown_le d g.s g.n; have := g.w; omega
theorem rep_gd {K : Frag} {H : Hp} {Q : VK} {x : V} {d : PyData} (hd : Dp K H x d) (g : Gd 100 16000000 d) (q : Q (.str d.shown) H) : rReprD K [x] H Q :=
  ⟨x, d, rfl, hd, g.s, g.n, g.p, by rw [sizeLine_eq]; have := shown_le d g.s g.n; have := g.w; omega, q⟩
theorem Gd.int {i : Int} (h : Bd 1900 i) : Gd 0 1921 (.int i) := ⟨by simp only [PyData.showable]; have := h.log (by decide); simp; omega, by simp [PyData.hasDict], by simp [PyData.depth], by simp [wt]⟩
theorem Gd.two {k m : Nat} {x y : PyData} (a : Gd k m x) (b : Gd k m y) : Gd (k + 1) (2 * m + 10) (.list [x, y]) := by
  have h1 := a.p
  have h2 := b.p
  have h3 := a.w
  have h4 := b.w
  refine ⟨?_, ?_, ?_, ?_⟩
  · simp [PyData.showable, PyData.showableAll, a.s, b.s]
  · simp [PyData.hasDict, PyData.hasDictAll, a.n, b.n]
  · simp only [PyData.depth, PyData.depthAll]; omega
  · simp only [wt, wtAll]; omega
theorem Gd.pair {k m : Nat} {x y : PyData} (a : Gd k m x) (b : Gd k m y) : Gd (k + 1) (2 * m + 10) (.tuple [x, y]) := by
  have h1 := a.p
  have h2 := b.p
  have h3 := a.w
  have h4 := b.w
  refine ⟨?_, ?_, ?_, ?_⟩
  · simp [PyData.showable, PyData.showableAll, a.s, b.s]
  · simp [PyData.hasDict, PyData.hasDictAll, a.n, b.n]
  · simp only [PyData.depth, PyData.depthAll]; omega
  · simp only [wt, wtAll]; omega
theorem Gd.number {m : Nat} (hm : 20 ≤ m) {k : Nat} {x : PyData} (a : Gd k m x) : Gd (k + 1) (2 * m + 10) (.list [.str "number", x]) :=
  Gd.two (Gd.mono (k := 0) (m := 20) ⟨by decide +kernel, by simp [PyData.hasDict], by simp [PyData.depth], by decide +kernel⟩ (Nat.zero_le _) hm) a
theorem pick {K : Frag} {H : Hp} {Pd : PyData → Prop} : ∀ {xs : List V} {ds : List PyData} {r : Int}, DpAll K H xs ds → 0 ≤ r → r < xs.length → (∀ d ∈ ds, Pd d) → ∃ v d, atI xs r = some v ∧ Dp K H v d ∧ Pd d := by
  intro xs ds r h h0 h1 hp
  have key : ∀ (xs : List V) (ds : List PyData) (n : Nat), DpAll K H xs ds → n < xs.length → ∃ v d, xs[n]? = some v ∧ Dp K H v d ∧ d ∈ ds := by
    intro xs
    induction xs with
    | nil => intro ds n _ z; cases z
    | cons x xs ih =>
      intro ds n h z
      cases h with
      | cons a b =>
        cases n with
        | zero => exact ⟨_, _, rfl, a, List.mem_cons_self⟩
        | succ n =>
          obtain ⟨v, d, h1, h2, h3⟩ := ih _ n b (by simpa using z)
          exact ⟨v, d, by simpa using h1, h2, List.mem_cons_of_mem _ h3⟩
  have e : ((r.toNat : Nat) : Int) = r := Int.toNat_of_nonneg h0
  have hn : r.toNat < xs.length := by omega
  obtain ⟨v, d, h1, h2, h3⟩ := key xs ds r.toNat h hn
  refine ⟨v, d, ?_, h2, hp d h3⟩
  have h : ixN xs.length r = some r.toNat := by
    unfold ixN
    rw [if_pos h0, if_pos (by omega)]
  unfold atI
  rw [h]
  exact h1
/-- what one carries over a new object -/
theorem Dp.new {K : Frag} {H : Hp} {p : Addr} {x : V} {d : PyData} (o : HO) (h : H p = none) (hd : Dp K H x d) : Dp K (upd H p o) x d := (Car.ex (Evl.Ex.new h)).d hd
theorem Dp.tupN {K : Frag} {H : Hp} {p : Addr} {vs : List V} {ds : List PyData} (h : H p = none) (hd : DpAll K H vs ds) : Dp K (upd H p (.tup vs)) (.ref p) (.tuple ds) := .tup (SqT.of upd_same) ((Car.ex (Evl.Ex.new h)).ds hd)
theorem Dp.lstN {K : Frag} {H : Hp} {p : Addr} {vs : List V} {ds : List PyData} (h : H p = none) (hd : DpAll K H vs ds) : Dp K (upd H p (.lst vs)) (.ref p) (.list ds) := .lst (SqL.of upd_same) ((Car.ex (Evl.Ex.new h)).ds hd)
theorem red_all {A B : Int} {m n : Nat} (hB : B ≠ 0) (bA : Bd m A) (bB : Bd n B) : ∃ t1 t2, red A B = (t1, t2) ∧ IsNum t1 t2 ∧ Bd m t1 ∧ Bd n t2 ∧ t1 * B = A * t2 := ⟨(red A B).1, (red A B).2, rfl, red_num hB, bA.red1 hB, bB.red2 hB, red_cross hB⟩
theorem floor_num {K : Frag} {C : Addr} {x : V} {p q : Int} {H : Hp} {Q : VK} {E : XK} (hx : NumAt K H x p q) (i : IsNum p q) (b : Bd 9000 q) (h : ∀ H', Ex H H' → Q (.int (p.fdiv q)) H') : spFloor K C [x] H Q E :=
  ⟨x, rfl, _, hx.d, (fun z => absurd (isNumD_is i) (by rw [z]; simp)), (fun p' q' e _ => by
    cases e
    exact ⟨b, h⟩)⟩
theorem sgn3_neg (a b : Int) : sgn3 b a = 0 - sgn3 a b := by unfold sgn3; omega
theorem due_in {σ : L2.St} {H : Hp} {Q : VK} {p q r s : Int} {n m k j : Nat} (h1 : σ[n]? = some (some (.int p))) (h2 : σ[m]? = some (some (.int q))) (h3 : σ[k]? = some (some (.int r))) (h4 : σ[j]? = some (some (.int s))) (c1 : CMulW p s) (c2 : CMulW q r) (h : Q (.int (sgn3 (p * s) (r * q))) H) :
    tIf (tTest (tOp rEq (tOp (rI CMulW fun i j => .int (i * j)) (tVar n) (tVar j)) (tOp (rI CMulW fun i j => .int (i * j)) (tVar m) (tVar k)))) (tC (.int 0))
      (tIf (tTest (tOp (rI0 fun i j => .bl (decide (i > j))) (tOp (rI CMulW fun i j => .int (i * j)) (tVar n) (tVar j)) (tOp (rI CMulW fun i j => .int (i * j)) (tVar m) (tVar k)))) (tC (.int 1)) (tOp (rI0 fun i j => .int (i - j)) (tC (.int 0)) (tC (.int 1)))) σ H Q := by
  refine ⟨_, h1, _, h4, _, _, rfl, rfl, c1, _, h2, _, h3, _, _, rfl, rfl, c2, rfl, _, rfl, iteB (fun g => ?_) (fun g => ?_)⟩
  · have e : p * s = q * r := V.int.inj (of_decide_eq_true g)
    have : sgn3 (p * s) (r * q) = 0 := by rw [e, Int.mul_comm r q]; unfold sgn3; omega
    rw [this] at h
    exact h
  · have e : p * s ≠ q * r := fun z => of_decide_eq_false g (congrArg V.int z)
    refine ⟨_, h1, _, h4, _, _, rfl, rfl, c1, _, h2, _, h3, _, _, rfl, rfl, c2, _, _, rfl, rfl, _, rfl, iteB (fun g => ?_) (fun g => ?_)⟩
    · have e : p * s > q * r := of_decide_eq_true g
      have : sgn3 (p * s) (r * q) = 1 := by rw [Int.mul_comm r q]; unfold sgn3; omega
      rw [this] at h
      exact h
    · have e : ¬ p * s > q * r := of_decide_eq_false g
      have : sgn3 (p * s) (r * q) = 0 - 1 := by rw [Int.mul_comm r q]; unfold sgn3; omega
      rw [this] at h
      exact ⟨_, _, rfl, rfl, h⟩
theorem fdiv_le {p q : Int} (h : 1 ≤ q) : p.fdiv q * q ≤ p ∧ p < (p.fdiv q + 1) * q := by
  rw [Int.fdiv_eq_ediv_of_nonneg _ (by omega)]
  exact ⟨Int.ediv_mul_le p (by omega), Int.lt_ediv_add_one_mul_self p (by omega)⟩
theorem fdiv_bd {n : Nat} {p q : Int} (h : 1 ≤ q) (b : Bd n p) : Bd n (p.fdiv q) := by
  obtain ⟨h1, h2⟩ := fdiv_le (p := p) h
  unfold Bd at *
  refine Nat.lt_of_le_of_lt ?_ b
  generalize p.fdiv q = l at h1 h2
  by_cases h0 : 0 ≤ l
  · have : l * 1 ≤ l * q := Int.mul_le_mul_of_nonneg_left h h0
    omega
  · have : (l + 1) * q ≤ (l + 1) * 1 := Int.mul_le_mul_of_nonpos_left (by omega) h
    omega
theorem sgn3_bd (a b : Int) : Bd 2 (sgn3 a b) := by unfold sgn3 Bd; split <;> split <;> decide
theorem bin_no {x y : V} {p q r s : Int} {C : V → Prop} (i1 : IsNum p q) (i2 : IsNum r s) : ∀ z, fb [x, y] [.tuple [.int p, .int q], .tuple [.int r, .int s]] = some z → C z := fun z e => by
  rw [fb_nums i1 i2] at e
  cases e
theorem bin_yes {p q r s : Int} {X : Int → Int → Int → Int → Prop} (b1 : Bd 4000 p) (b2 : Bd 4000 q) (b3 : Bd 4000 r) (b4 : Bd 4000 s) (h : X p q r s) :
    ∀ p' q' r' s', PyData.tuple [.int p, .int q] = .tuple [.int p', .int q'] → PyData.tuple [.int r, .int s] = .tuple [.int r', .int s'] → IsNum p' q' → IsNum r' s' → Bd 4000 p' ∧ Bd 4000 q' ∧ Bd 4000 r' ∧ Bd 4000 s' ∧ X p' q' r' s' := fun p' q' r' s' e1 e2 _ _ => by
  cases e1
  cases e2
  exact ⟨b1, b2, b3, b4, h⟩
theorem floor_no {p q : Int} {C : Prop} (i : IsNum p q) : isNumD (.tuple [.int p, .int q]) = false → C := fun z => absurd (isNumD_is i) (by rw [z]; simp)
theorem floor_yes {p q : Int} {X : Int → Int → Prop} (b : Bd 9000 q) (h : X p q) : ∀ p' q', PyData.tuple [.int p, .int q] = .tuple [.int p', .int q'] → IsNum p' q' → Bd 9000 q' ∧ X p' q' := fun p' q' e _ => by
  cases e
  exact ⟨b, h⟩
end Rm
namespace K3
open PySem PySem.W PySem.Calls PyProof.Rows PySem.Spec L2 Rm
def top (i : Nat) : Stmt := PySem.Challenge.pw_roompace_k03_arithmetic.main.body.getD i (.Pass ⟨0, 0, 0, 0⟩)
abbrev s_is_integer : Stmt := top 7
abbrev s_common_divisor : Stmt := top 8
abbrev s_reduced : Stmt := top 9
abbrev s_is_number : Stmt := top 10
abbrev s_check_numbers : Stmt := top 11
abbrev s_number : Stmt := top 12
abbrev s_plus : Stmt := top 13
abbrev s_minus : Stmt := top 14
abbrev s_times : Stmt := top 15
abbrev s_over : Stmt := top 16
abbrev s_is_less : Stmt := top 17
abbrev s_add : Stmt := top 18
abbrev s_subtract : Stmt := top 19
abbrev s_multiply : Stmt := top 20
abbrev s_divide : Stmt := top 21
abbrev s_compare : Stmt := top 22
abbrev s_whole_part : Stmt := top 23
abbrev s_floor_of : Stmt := top 24
abbrev s__law_begin : Stmt := top 26
abbrev s__law_mixed : Stmt := top 27
abbrev s__law_next : Stmt := top 28
abbrev s__law_integer : Stmt := top 29
abbrev s__law_number : Stmt := top 30
abbrev s__law_same : Stmt := top 31
abbrev s__law_right : Stmt := top 32
abbrev s__law_done : Stmt := top 33
abbrev s__law_word : Stmt := top 34
abbrev s__law_refused_right : Stmt := top 35
abbrev s_law : Stmt := top 36
structure Ad where
  (is_integer common_divisor reduced is_number check_numbers number plus minus times over is_less add subtract multiply divide compare whole_part floor_of _law_begin _law_mixed _law_next _law_integer _law_number _law_same _law_right _law_done _law_word _law_refused_right law InvalidNumber MissingError PaceError StateError ZERO : Addr)
structure Txt (P : Program) (K : Frag) (mg : Str → Option Value) (D : Ad) : Prop where
  f_is_integer : ∃ fd, Fun K "is_integer" "is_integer" s_is_integer D.is_integer fd
  g_is_integer : mg "is_integer" = some (.ref D.is_integer)
  k_is_integer : keepIn K (.ref D.is_integer) = true
  f_common_divisor : ∃ fd, Fun K "common_divisor" "common_divisor" s_common_divisor D.common_divisor fd
  g_common_divisor : mg "common_divisor" = some (.ref D.common_divisor)
  k_common_divisor : keepIn K (.ref D.common_divisor) = true
  f_reduced : ∃ fd, Fun K "reduced" "reduced" s_reduced D.reduced fd
  g_reduced : mg "reduced" = some (.ref D.reduced)
  k_reduced : keepIn K (.ref D.reduced) = true
  f_is_number : ∃ fd, Fun K "is_number" "is_number" s_is_number D.is_number fd
  g_is_number : mg "is_number" = some (.ref D.is_number)
  k_is_number : keepIn K (.ref D.is_number) = true
  f_check_numbers : ∃ fd, Fun K "check_numbers" "check_numbers" s_check_numbers D.check_numbers fd
  g_check_numbers : mg "check_numbers" = some (.ref D.check_numbers)
  k_check_numbers : keepIn K (.ref D.check_numbers) = true
  f_number : ∃ fd, FunD K "number" "number" (defArgs s_number) (defBody s_number) (defScope s_number) [.int 1] [] D.number fd
  g_number : mg "number" = some (.ref D.number)
  k_number : keepIn K (.ref D.number) = true
  f_plus : ∃ fd, Fun K "plus" "plus" s_plus D.plus fd
  g_plus : mg "plus" = some (.ref D.plus)
  k_plus : keepIn K (.ref D.plus) = true
  f_minus : ∃ fd, Fun K "minus" "minus" s_minus D.minus fd
  g_minus : mg "minus" = some (.ref D.minus)
  k_minus : keepIn K (.ref D.minus) = true
  f_times : ∃ fd, Fun K "times" "times" s_times D.times fd
  g_times : mg "times" = some (.ref D.times)
  k_times : keepIn K (.ref D.times) = true
  f_over : ∃ fd, Fun K "over" "over" s_over D.over fd
  g_over : mg "over" = some (.ref D.over)
  k_over : keepIn K (.ref D.over) = true
  f_is_less : ∃ fd, Fun K "is_less" "is_less" s_is_less D.is_less fd
  g_is_less : mg "is_less" = some (.ref D.is_less)
  k_is_less : keepIn K (.ref D.is_less) = true
  f_add : ∃ fd, Fun K "add" "add" s_add D.add fd
  g_add : mg "add" = some (.ref D.add)
  k_add : keepIn K (.ref D.add) = true
  f_subtract : ∃ fd, Fun K "subtract" "subtract" s_subtract D.subtract fd
  g_subtract : mg "subtract" = some (.ref D.subtract)
  k_subtract : keepIn K (.ref D.subtract) = true
  f_multiply : ∃ fd, Fun K "multiply" "multiply" s_multiply D.multiply fd
  g_multiply : mg "multiply" = some (.ref D.multiply)
  k_multiply : keepIn K (.ref D.multiply) = true
  f_divide : ∃ fd, Fun K "divide" "divide" s_divide D.divide fd
  g_divide : mg "divide" = some (.ref D.divide)
  k_divide : keepIn K (.ref D.divide) = true
  f_compare : ∃ fd, Fun K "compare" "compare" s_compare D.compare fd
  g_compare : mg "compare" = some (.ref D.compare)
  k_compare : keepIn K (.ref D.compare) = true
  f_whole_part : ∃ fd, Fun K "whole_part" "whole_part" s_whole_part D.whole_part fd
  g_whole_part : mg "whole_part" = some (.ref D.whole_part)
  k_whole_part : keepIn K (.ref D.whole_part) = true
  f_floor_of : ∃ fd, Fun K "floor_of" "floor_of" s_floor_of D.floor_of fd
  g_floor_of : mg "floor_of" = some (.ref D.floor_of)
  k_floor_of : keepIn K (.ref D.floor_of) = true
  f__law_begin : ∃ fd, Fun K "_law_begin" "_law_begin" s__law_begin D._law_begin fd
  g__law_begin : mg "_law_begin" = some (.ref D._law_begin)
  k__law_begin : keepIn K (.ref D._law_begin) = true
  f__law_mixed : ∃ fd, Fun K "_law_mixed" "_law_mixed" s__law_mixed D._law_mixed fd
  g__law_mixed : mg "_law_mixed" = some (.ref D._law_mixed)
  k__law_mixed : keepIn K (.ref D._law_mixed) = true
  f__law_next : ∃ fd, Fun K "_law_next" "_law_next" s__law_next D._law_next fd
  g__law_next : mg "_law_next" = some (.ref D._law_next)
  k__law_next : keepIn K (.ref D._law_next) = true
  f__law_integer : ∃ fd, Fun K "_law_integer" "_law_integer" s__law_integer D._law_integer fd
  g__law_integer : mg "_law_integer" = some (.ref D._law_integer)
  k__law_integer : keepIn K (.ref D._law_integer) = true
  f__law_number : ∃ fd, Fun K "_law_number" "_law_number" s__law_number D._law_number fd
  g__law_number : mg "_law_number" = some (.ref D._law_number)
  k__law_number : keepIn K (.ref D._law_number) = true
  f__law_same : ∃ fd, Fun K "_law_same" "_law_same" s__law_same D._law_same fd
  g__law_same : mg "_law_same" = some (.ref D._law_same)
  k__law_same : keepIn K (.ref D._law_same) = true
  f__law_right : ∃ fd, Fun K "_law_right" "_law_right" s__law_right D._law_right fd
  g__law_right : mg "_law_right" = some (.ref D._law_right)
  k__law_right : keepIn K (.ref D._law_right) = true
  f__law_done : ∃ fd, Fun K "_law_done" "_law_done" s__law_done D._law_done fd
  g__law_done : mg "_law_done" = some (.ref D._law_done)
  k__law_done : keepIn K (.ref D._law_done) = true
  f__law_word : ∃ fd, Fun K "_law_word" "_law_word" s__law_word D._law_word fd
  g__law_word : mg "_law_word" = some (.ref D._law_word)
  k__law_word : keepIn K (.ref D._law_word) = true
  f__law_refused_right : ∃ fd, Fun K "_law_refused_right" "_law_refused_right" s__law_refused_right D._law_refused_right fd
  g__law_refused_right : mg "_law_refused_right" = some (.ref D._law_refused_right)
  k__law_refused_right : keepIn K (.ref D._law_refused_right) = true
  f_law : ∃ fd, Fun K "law" "law" s_law D.law fd
  g_law : mg "law" = some (.ref D.law)
  k_law : keepIn K (.ref D.law) = true
  n_abs : mg "abs" = none
  n_bool : mg "bool" = none
  n_int : mg "int" = none
  n_isinstance : mg "isinstance" = none
  n_len : mg "len" = none
  n_max : mg "max" = none
  n_min : mg "min" = none
  n_range : mg "range" = none
  n_repr : mg "repr" = none
  n_tuple : mg "tuple" = none
  g_InvalidNumber : mg "InvalidNumber" = some (.ref D.InvalidNumber)
  g_MissingError : mg "MissingError" = some (.ref D.MissingError)
  g_PaceError : mg "PaceError" = some (.ref D.PaceError)
  g_StateError : mg "StateError" = some (.ref D.StateError)
  k_InvalidNumber : keepIn K (.ref D.InvalidNumber) = true
  x_InvalidNumber : XCls P K mg "ValueError" "ValueError.__new__" "ValueError.__init__" [.type "ValueError", .type "Exception", .type "BaseException", .type "object"] "thing" D.InvalidNumber
  z_InvalidNumber : ∀ X : Cx, X.K = K → Raises X (.ref D.InvalidNumber)
  t_InvalidNumber : XKit K D.InvalidNumber
  h_InvalidNumber : findIn K (.ref D.InvalidNumber) "thing" = some none
  g_ZERO : ∃ u, mg "ZERO" = some u ∧ RelV (.ref D.ZERO) u
  q_ZERO : ∀ H : Hp, NumAt K H (.ref D.ZERO) 0 1
  e_InvalidNumber : exmAny K (.ref D.InvalidNumber) [.ref D.PaceError, .ref D.StateError, .ref D.MissingError] = some true
  i_InvalidNumber : kitOne K (.ref D.InvalidNumber) (.ref D.InvalidNumber) = some true
section
variable {P : Program} {w : World} {K : Frag} {mg : Str → Option Value} {base : Heap} {D : Ad}
abbrev N_is_integer : List Str := ["thing"]
theorem sc_is_integer : FnScope N_is_integer ["thing"] (defScope s_is_integer) := ⟨rfl, rfl, rfl, by decide +kernel, rfl, by decide +kernel, by decide +kernel⟩
theorem fb_is_integer (T : Txt P K mg D) : ∃ fd, Fun K "is_integer" "is_integer" s_is_integer D.is_integer fd ∧ FnB P w K mg base 1 D.is_integer fd ["thing"] (spIsInt K) := by
  obtain ⟨fd, F⟩ := T.f_is_integer
  refine ⟨fd, F, Fun_okB (k := 0) F sc_is_integer fun cdv A outer s H vs Q E hr hg h => ?_⟩
  have nd := sc_is_integer.nd
  obtain ⟨x, rfl, d, hd, q⟩ := h
  refine ⟨_, (pss_one (ps_ret (pe_and (pe_callB call_isD rfl T.n_isinstance (by decide +kernel) (pa_cons (pv 0) (pa_cons (pe_bltn (v := .ty "int") rfl T.n_int (by decide +kernel) rfl) pa_nil))) (pe_one (pe_not (pe_callB call_isD rfl T.n_isinstance (by decide +kernel) (pa_cons (pv 0) (pa_cons (pe_bltn (v := .ty "bool") rfl T.n_bool (by decide +kernel) rfl) pa_nil)))))))), ?_⟩
  refine ⟨_, rfl, _, _, d, _, rfl, hd, kit_int d, _, rfl, ?_⟩
  cases d <;> first | exact iteF q | exact iteT ⟨_, rfl, _, _, _, _, rfl, hd, kit_bool _, _, rfl, q⟩
theorem ok_is_integer (T : Txt P K mg D) : CallG P w K mg base 1 D.is_integer [] (spIsInt K) := by
  obtain ⟨fd, F, B⟩ := fb_is_integer (w := w) (base := base) T
  exact B.pos sp1_len (F.binds (ps := ["thing"]) fun _ _ _ _ _ _ us hl => match us, hl with | [_], _ => rfl)
abbrev N_common_divisor : List Str := ["first", "second"]
theorem sc_common_divisor : FnScope N_common_divisor ["first", "second"] (defScope s_common_divisor) := ⟨rfl, rfl, rfl, by decide +kernel, rfl, by decide +kernel, by decide +kernel⟩
theorem fb_common_divisor (T : Txt P K mg D) : ∃ fd, Fun K "common_divisor" "common_divisor" s_common_divisor D.common_divisor fd ∧ FnB P w K mg base 1 D.common_divisor fd ["first", "second"] spGcd := by
  obtain ⟨fd, F⟩ := T.f_common_divisor
  refine ⟨fd, F, Fun_okB (k := 0) F sc_common_divisor fun cdv A outer s H vs Q E hr hg h => ?_⟩
  have nd := sc_common_divisor.nd
  obtain ⟨x, y, rfl, a, b, rfl, rfl, q⟩ := h
  refine ⟨_, (pss_cons (ps_par rfl nd (i := 0) (j := 1) rfl rfl (by decide) rfl rfl (pa_cons (pe_callB call_abs rfl T.n_abs (by decide +kernel) (pa_cons (pv 0) pa_nil)) (pa_cons (pe_callB call_abs rfl T.n_abs (by decide +kernel) (pa_cons (pv 1) pa_nil)) pa_nil)) (by rfl))
        (pss_cons (ps_while (passes_of rfl) (pt_cmpR op_gt (pv 1) pe_int (nomark _)) (pss_one (ps_par rfl nd (i := 0) (j := 1) rfl rfl (by decide) rfl rfl (pa_cons (pv 1) (pa_cons (pe_op op_mod (pv 0) (pv 1)) pa_nil)) (by rfl))))
        (pss_one (ps_ret (pv 0))))), ?_⟩
  refine ⟨_, rfl, _, rfl, _, rfl, _, rfl, _, _, rfl, ?_⟩
  refine while_by (fun σ H' => ∃ x y : Int, σ = [some (.int x), some (.int y)] ∧ H' = H ∧ 0 ≤ x ∧ 0 ≤ y ∧ Int.gcd x y = Int.gcd a b)
    (fun σ _ => match σ with | [_, some (.int y)] => y.toNat | _ => 0) ⟨if a < 0 then -a else a, if b < 0 then -b else b, rfl, rfl, by split <;> omega, by split <;> omega, ?_⟩ ?_ ?_
  · split <;> split <;> simp [Int.gcd]
  · rintro σ H' ⟨x, y, rfl, rfl, hx, hy, hg'⟩
    refine ⟨_, rfl, _, _, rfl, rfl, _, rfl, ?_⟩
    refine iteB (fun c => ?_) (fun c => ?_)
    · have hy' : 0 < y := of_decide_eq_true c
      refine ⟨_, rfl, _, rfl, _, rfl, _, _, rfl, rfl, hy', _, _, rfl, ⟨y, x % y, rfl, rfl, hy, Int.emod_nonneg _ (by omega), by rw [gcd_step hx hy', hg']⟩, ?_⟩
      have := Int.emod_lt_of_pos x hy'
      have := Int.emod_nonneg x (show y ≠ 0 by omega)
      show (x % y).toNat < y.toNat
      omega
    · have hy' : ¬ 0 < y := of_decide_eq_false c
      have hy0 : y = 0 := by omega
      refine ⟨_, rfl, ?_⟩
      subst hy0
      have : (x : Int) = (Int.gcd a b : Nat) := by rw [← hg']; simp [Int.gcd]; omega
      rw [this]
      exact q
  · rintro σ H' Q1 Q2 hq ⟨v, e, i, j, e1, e2, k, e3, z⟩
    exact ⟨v, e, i, j, e1, e2, k, e3, hq _ _ z⟩
theorem ok_common_divisor (T : Txt P K mg D) : CallG P w K mg base 1 D.common_divisor [] spGcd := by
  obtain ⟨fd, F, B⟩ := fb_common_divisor (w := w) (base := base) T
  exact B.pos sp2_len (F.binds (ps := ["first", "second"]) fun _ _ _ _ _ _ us hl => match us, hl with | [_, _], _ => rfl)
abbrev N_reduced : List Str := ["above", "below", "divisor"]
theorem sc_reduced : FnScope N_reduced ["above", "below"] (defScope s_reduced) := ⟨rfl, rfl, rfl, by decide +kernel, rfl, by decide +kernel, by decide +kernel⟩
theorem fb_reduced (T : Txt P K mg D) : ∃ fd, Fun K "reduced" "reduced" s_reduced D.reduced fd ∧ FnB P w K mg base 2 D.reduced fd ["above", "below"] spRed := by
  obtain ⟨fd, F⟩ := T.f_reduced
  refine ⟨fd, F, Fun_okB (k := 1) F sc_reduced fun cdv A outer s H vs Q E hr hg h => ?_⟩
  have nd := sc_reduced.nd
  obtain ⟨x, y, rfl, a, b, rfl, rfl, hb, hB, q⟩ := h
  refine ⟨_, (pss_cons (ps_set (i := 2) nd rfl (.inl rfl) (pe_callG (ok_common_divisor T) (hr.mono (by decide)) hg (takes_of rfl rfl rfl rfl) rfl T.g_common_divisor T.k_common_divisor (pa_cons (pv 0) (pa_cons (pv 1) pa_nil))))
        (pss_cons (ps_if (pt_cmpR op_lt (pv 1) pe_int (nomark _)) (pss_one (ps_set (i := 2) nd rfl (.inl rfl) (pe_un un_neg (pv 2)))) pss_nil)
        (pss_one (ps_ret (pe_tup (pa_cons (pe_op op_fdivS (pv 0) (pv 2)) (pa_cons (pe_op op_fdivS (pv 1) (pv 2)) pa_nil))))))), ?_⟩
  have hdv : Bd 9000 (dv a b) := by
    unfold Bd
    rw [dv_abs]
    exact Nat.lt_of_le_of_lt (Nat.le_of_dvd (by omega) (by unfold Int.gcd; exact Nat.gcd_dvd_right _ _)) hB
  have fin : ∀ {H' : Hp}, Ex H H' → ∀ σ : L2.St, σ = [some (.int a), some (.int b), some (.int (dv a b))] → tRet (tTup (tCons (tOp (rI CDivS fun i j => .int (i.fdiv j)) (tVar 0) (tVar 2)) (tCons (tOp (rI CDivS fun i j => .int (i.fdiv j)) (tVar 1) (tVar 2)) tNil))) { nx := fun _ H' => Q .non H', rt := Q } σ H' := by
    rintro H' ex σ rfl
    refine ⟨_, rfl, _, rfl, _, _, rfl, rfl, hdv.fdiv (dv_ne hb), _, rfl, _, rfl, _, _, rfl, rfl, hdv.fdiv (dv_ne hb), by rw [sizeLine_eq]; show 2 ≤ 16777216; decide, fun p hp => ?_⟩
    exact q p _ (Evl.fresh_back ex hp) (ex.trans (Evl.Ex.new hp)) upd_same
  refine ⟨_, rfl, _, rfl, _, _, rfl, a, b, rfl, rfl, ?_⟩
  refine ⟨_, rfl, _, _, rfl, rfl, _, rfl, ?_⟩
  refine iteB (fun c => ?_) (fun c => ?_)
  · have hb' : b < 0 := of_decide_eq_true c
    refine ⟨_, rfl, _, rfl, ?_⟩
    exact fin (Evl.Ex.refl H) _ (by show [some (V.int a), some (V.int b), some (V.int (-(Int.gcd a b : Int)))] = _; unfold dv; rw [if_pos hb'])
  · have hb' : ¬ b < 0 := of_decide_eq_false c
    exact fin (Evl.Ex.refl H) _ (by show [some (V.int a), some (V.int b), some (V.int (Int.gcd a b : Int))] = _; unfold dv; rw [if_neg hb'])
theorem ok_reduced (T : Txt P K mg D) : CallG P w K mg base 2 D.reduced [] spRed := by
  obtain ⟨fd, F, B⟩ := fb_reduced (w := w) (base := base) T
  exact B.pos sp2_len (F.binds (ps := ["above", "below"]) fun _ _ _ _ _ _ us hl => match us, hl with | [_, _], _ => rfl)
abbrev N_is_number : List Str := ["thing", "above", "below"]
theorem sc_is_number : FnScope N_is_number ["thing"] (defScope s_is_number) := ⟨rfl, rfl, rfl, by decide +kernel, rfl, by decide +kernel, by decide +kernel⟩
theorem fb_is_number (T : Txt P K mg D) : ∃ fd, Fun K "is_number" "is_number" s_is_number D.is_number fd ∧ FnB P w K mg base 2 D.is_number fd ["thing"] (spIsNum K) := by
  obtain ⟨fd, F⟩ := T.f_is_number
  refine ⟨fd, F, Fun_okB (k := 1) F sc_is_number fun cdv A outer s H vs Q E hr hg h => ?_⟩
  have nd := sc_is_number.nd
  obtain ⟨x, rfl, d, hd, q⟩ := h
  refine ⟨_, (pss_cons (ps_if (PW.pt (pw_or (pt_not (pt_val (pe_callB call_isD rfl T.n_isinstance (by decide +kernel) (pa_cons (pv 0) (pa_cons (pe_bltn (v := .ty "tuple") rfl T.n_tuple (by decide +kernel) rfl) pa_nil))))) (pw_or1 (pt_cmpR op_ne (pe_callB call_len rfl T.n_len (by decide +kernel) (pa_cons (pv 0) pa_nil)) pe_int (nomark _))))) (pss_one (ps_ret pe_bl)) pss_nil)
        (pss_cons (ps_asg (pv 0) (pg_tup rfl (pgs_cons (pg_name (i := 1) nd rfl (.inl rfl)) (pgs_cons (pg_name (i := 2) nd rfl (.inl rfl)) pgs_nil))))
        (pss_cons (ps_if (PW.pt (pw_or (pt_not (pt_val (pe_callG (ok_is_integer T) (hr.mono (by decide)) hg (takes_of rfl rfl rfl rfl) rfl T.g_is_integer T.k_is_integer (pa_cons (pv 1) pa_nil)))) (pw_or (pt_not (pt_val (pe_callG (ok_is_integer T) (hr.mono (by decide)) hg (takes_of rfl rfl rfl rfl) rfl T.g_is_integer T.k_is_integer (pa_cons (pv 2) pa_nil)))) (pw_or1 (pt_cmpR op_lt (pv 2) pe_int (nomark _)))))) (pss_one (ps_ret pe_bl)) pss_nil)
        (pss_one (ps_ret (pe_cmpR op_eq (pe_callG (ok_common_divisor T) (hr.mono (by decide)) hg (takes_of rfl rfl rfl rfl) rfl T.g_common_divisor T.k_common_divisor (pa_cons (pv 1) (pa_cons (pv 2) pa_nil))) pe_int (nomark _))))))), ?_⟩
  have q0 := q H (Evl.Ex.refl H)
  refine ⟨_, rfl, _, _, d, _, rfl, hd, kit_tuple d, _, rfl, ?_⟩
  cases hd with
  | non => exact iteT (iteT q0)
  | bl b => exact iteT (iteT q0)
  | int i => exact iteT (iteT q0)
  | str x => exact iteT (iteT q0)
  | lst _ _ => exact iteT (iteT q0)
  | @tup a xs ds ha hds =>
    have hl := DpAll.len hds
    refine iteF ⟨_, rfl, _, _, rfl, .inr ⟨_, ha, rfl⟩, rfl, _, rfl, ?_⟩
    refine iteB (fun c => ?_) (fun c => ?_)
    · have : isNumD (.tuple ds) = false := isNumD_tup (fun z => by rw [hl, z] at c; simp at c)
      rw [this] at q0
      exact q0
    · have h2 : xs.length = 2 := by
        have : V.int (xs.length : Int) = V.int 2 := by simpa using c
        have := V.int.inj this
        omega
      obtain ⟨u, v, du, dw, rfl, rfl, hu, hv⟩ := DpAll.two hds h2
      · refine ⟨_, rfl, _, _, rfl, ha, rfl, _, _, rfl, _, _, rfl, rfl, ?_⟩
        refine ⟨_, rfl, _, rfl, du, hu, _, rfl, ?_⟩
        refine iteB (fun c => ?_) (fun c => ?_)
        · rw [isNumD_1 (by simpa using c)] at q0
          exact iteT q0
        · obtain ⟨i, rfl⟩ := isIntD_inv (by simpa using c)
          refine ⟨_, rfl, _, rfl, dw, hv, _, rfl, ?_⟩
          refine iteB (fun c => ?_) (fun c => ?_)
          · rw [isNumD_2 (by simpa using c)] at q0
            exact iteT q0
          · obtain ⟨j, rfl⟩ := isIntD_inv (by simpa using c)
            cases hu
            cases hv
            refine ⟨_, rfl, _, _, rfl, rfl, _, rfl, ?_⟩
            refine iteB (fun c => ?_) (fun c => ?_)
            · have hj : j < 1 := of_decide_eq_true c
              have : isNumD (.tuple [.int i, .int j]) = false := decide_eq_false fun z => by have := z.1; omega
              rw [this] at q0
              exact q0
            · have hj : ¬ j < 1 := of_decide_eq_false c
              refine ⟨_, rfl, _, rfl, _, _, rfl, i, j, rfl, rfl, rfl, ?_⟩
              have : decide (V.int (Int.gcd i j : Nat) = V.int 1) = isNumD (.tuple [.int i, .int j]) := by
                unfold isNumD IsNum
                by_cases g : Int.gcd i j = 1
                · have e1 : V.int (Int.gcd i j : Nat) = V.int 1 := by rw [g]; rfl
                  rw [decide_eq_true e1]
                  exact (decide_eq_true (show 1 ≤ j ∧ Int.gcd i j = 1 from ⟨by omega, g⟩)).symm
                · have g' : ¬ V.int (Int.gcd i j : Nat) = V.int 1 := fun z => g (by have := V.int.inj z; omega)
                  simp [g, g']
              rw [this]
              exact q0
theorem ok_is_number (T : Txt P K mg D) : CallG P w K mg base 2 D.is_number [] (spIsNum K) := by
  obtain ⟨fd, F, B⟩ := fb_is_number (w := w) (base := base) T
  exact B.pos sp1_len (F.binds (ps := ["thing"]) fun _ _ _ _ _ _ us hl => match us, hl with | [_], _ => rfl)
abbrev N_check_numbers : List Str := ["things", "thing"]
theorem sc_check_numbers : FnScope N_check_numbers ["things"] (defScope s_check_numbers) := ⟨rfl, rfl, rfl, by decide +kernel, rfl, by decide +kernel, by decide +kernel⟩
theorem fb_check_numbers (T : Txt P K mg D) : ∃ fd, Fun K "check_numbers" "check_numbers" s_check_numbers D.check_numbers fd ∧ FnB P w K mg base 3 D.check_numbers fd ["things"] (spCheckNums1 K D.InvalidNumber) := by
  obtain ⟨fd, F⟩ := T.f_check_numbers
  refine ⟨fd, F, Fun_okB (k := 2) F sc_check_numbers fun cdv A outer s H vs Q E hr hg h => ?_⟩
  have nd := sc_check_numbers.nd
  obtain ⟨x, rfl, p, vs, rfl, hp, ds, hlen, hds, q⟩ := h
  refine ⟨_, (pss_one (ps_for (passes_of rfl) rfl (pi_tup (pv 0)) (pg_name (i := 1) nd rfl (.inl rfl)) (pss_one (ps_if (pt_not (pt_val (pe_callG (ok_is_number T) (hr.mono (by decide)) hg (takes_of rfl rfl rfl rfl) rfl T.g_is_number T.k_is_number (pa_cons (pv 1) pa_nil)))) (pss_one (ps_raise rfl (takes_of rfl rfl rfl rfl) (pmk_newX T.x_InvalidNumber (hr.mono (by decide)) T.k_InvalidNumber (T.z_InvalidNumber _ rfl) rfl T.g_InvalidNumber (pv 1)))) pss_nil)))), ?_⟩
  refine ⟨_, rfl, p, rfl, ⟨_, hp⟩, for_tup (K := K) (a := p) (xs := vs) (fun i σ H' => Ex H H' ∧ (∃ v, σ = [some (.ref p), v]) ∧ fb (vs.drop i) (ds.drop i) = fb vs ds)
    ⟨Evl.Ex.refl H, ⟨none, rfl⟩, rfl⟩ (fun i σ H' _ z => Evl.ex_t z.1 hp) ?_ ?_⟩
  · rintro i x σ H' hx ⟨ex, ⟨v, rfl⟩, hf⟩
    obtain ⟨d, e1, e2, e3⟩ := fb_drop ((Car.ex ex).ds hds) hx
    refine ⟨_, rfl, _, rfl, d, e2, fun H2 ex2 => ⟨_, rfl, ?_⟩⟩
    refine iteB (fun c => ?_) (fun c => ?_)
    · have c' : isNumD d = false := by simpa using c
      rw [hf, if_neg (by rw [c']; simp)] at e3
      rw [e3] at q
      refine ⟨_, rfl, fun dd hdd => ?_⟩
      exact q dd _ (ex.trans (ex2.trans (Evl.Ex.new hdd))) upd_same
    · have c' : isNumD d = true := by simpa using c
      rw [hf, if_pos c'] at e3
      exact ⟨ex.trans ex2, ⟨some x, rfl⟩, e3.symm⟩
  · rintro σ H' ⟨ex, ⟨v, rfl⟩, hf⟩
    have : fb vs ds = none := by
      rw [← hf, List.drop_length]
      rfl
    rw [this] at q
    exact q H' ex
theorem ok_check_numbers (T : Txt P K mg D) : CallG P w K mg base 3 D.check_numbers [] (fun vs H Q E => vs.length ≤ sizeLine ∧ ∀ p, H p = none → (spCheckNums1 K D.InvalidNumber) [.ref p] (upd H p (.tup vs)) Q E) := by
  obtain ⟨fd, F, B⟩ := fb_check_numbers (w := w) (base := base) T
  exact FnB.star (pv := "things") B (by obtain ⟨_, _, _, _, _, _, _, _, _, rfl, _⟩ := F.ex; intro rest; cases rest <;> rfl)
abbrev N_number : List Str := ["above", "below"]
theorem sc_number : FnScope N_number ["above", "below"] (defScope s_number) := ⟨rfl, rfl, rfl, by decide +kernel, rfl, by decide +kernel, by decide +kernel⟩
theorem fb_number (T : Txt P K mg D) : ∃ fd, FunD K "number" "number" (defArgs s_number) (defBody s_number) (defScope s_number) [.int 1] [] D.number fd ∧ FnB P w K mg base 3 D.number fd ["above", "below"] (spNumber K D.InvalidNumber) := by
  obtain ⟨fd, F⟩ := T.f_number
  refine ⟨fd, F, FunD_okB (k := 2) F sc_number fun cdv A outer s H vs Q E hr hg h => ?_⟩
  have nd := sc_number.nd
  obtain ⟨x, y, rfl, dx, dy, hx, hy, q1, q2⟩ := h
  refine ⟨_, (pss_cons (ps_if (PW.pt (pw_or (pt_not (pt_val (pe_callG (ok_is_integer T) (hr.mono (by decide)) hg (takes_of rfl rfl rfl rfl) rfl T.g_is_integer T.k_is_integer (pa_cons (pv 0) pa_nil)))) (pw_or (pt_not (pt_val (pe_callG (ok_is_integer T) (hr.mono (by decide)) hg (takes_of rfl rfl rfl rfl) rfl T.g_is_integer T.k_is_integer (pa_cons (pv 1) pa_nil)))) (pw_or1 (pt_cmpR op_eq (pv 1) pe_int (nomark _)))))) (pss_one (ps_raise rfl (takes_of rfl rfl rfl rfl) (pmk_newX T.x_InvalidNumber (hr.mono (by decide)) T.k_InvalidNumber (T.z_InvalidNumber _ rfl) rfl T.g_InvalidNumber (pe_tup (pa_cons (pv 0) (pa_cons (pv 1) pa_nil)))))) pss_nil)
        (pss_one (ps_ret (pe_callG (ok_reduced T) (hr.mono (by decide)) hg (takes_of rfl rfl rfl rfl) rfl T.g_reduced T.k_reduced (pa_cons (pv 0) (pa_cons (pv 1) pa_nil)))))), ?_⟩
  have rz : (∀ a b, dx = .int a → dy = .int b → b = 0) → ∀ (t : Addr), H t = none → ∀ dd, upd H t (.tup [x, y]) dd = none → E (.ref D.InvalidNumber) (some dd) (upd (upd H t (.tup [x, y])) dd (.xd [("thing", .ref t)])) := fun hc t ht dd hdd =>
    q2 hc t _ ht rfl dd _ (Evl.Ex.new hdd) upd_same
  have sz : [x, y].length ≤ sizeLine := by rw [sizeLine_eq]; show 2 ≤ 16777216; decide
  refine ⟨_, rfl, _, rfl, dx, hx, _, rfl, ?_⟩
  refine iteB (fun c => ?_) (fun c => ?_)
  · have c' : isIntD dx = false := by simpa using c
    exact iteT ⟨_, rfl, _, rfl, sz, fun t ht dd hdd => rz (fun a b e _ => by rw [e] at c'; cases c') t ht dd hdd⟩
  · obtain ⟨a, rfl⟩ := isIntD_inv (by simpa using c)
    refine ⟨_, rfl, _, rfl, dy, hy, _, rfl, ?_⟩
    refine iteB (fun c => ?_) (fun c => ?_)
    · have c' : isIntD dy = false := by simpa using c
      exact iteT ⟨_, rfl, _, rfl, sz, fun t ht dd hdd => rz (fun a b _ e => by rw [e] at c'; cases c') t ht dd hdd⟩
    · obtain ⟨b, rfl⟩ := isIntD_inv (by simpa using c)
      cases hx
      cases hy
      refine ⟨_, rfl, rfl, _, rfl, ?_⟩
      refine iteB (fun c => ?_) (fun c => ?_)
      · have hb : b = 0 := V.int.inj (of_decide_eq_true c)
        exact ⟨_, rfl, _, rfl, sz, fun t ht dd hdd => rz (fun a' b' _ e => by cases e; exact hb) t ht dd hdd⟩
      · have hb : b ≠ 0 := fun z => of_decide_eq_false c (by rw [z])
        obtain ⟨hB, hq⟩ := q1 a b rfl rfl hb
        exact ⟨_, rfl, _, rfl, _, _, rfl, a, b, rfl, rfl, hb, hB, hq⟩
theorem ok_number (T : Txt P K mg D) : CallG P w K mg base 3 D.number [] (spNumber K D.InvalidNumber) := by
  obtain ⟨fd, F, B⟩ := fb_number (w := w) (base := base) T
  exact B.pos sp2_len fun s us hk hl => match us, hl with | [_, _], _ => F.toB (by simp) (fun _ _ _ _ _ _ _ its hi => match its, hi with | [_], _ => ⟨_, rfl, rfl⟩) s hk
abbrev N_plus : List Str := ["first", "second"]
theorem sc_plus : FnScope N_plus ["first", "second"] (defScope s_plus) := ⟨rfl, rfl, rfl, by decide +kernel, rfl, by decide +kernel, by decide +kernel⟩
theorem fb_plus (T : Txt P K mg D) : ∃ fd, Fun K "plus" "plus" s_plus D.plus fd ∧ FnB P w K mg base 3 D.plus fd ["first", "second"] (spPlus K) := by
  obtain ⟨fd, F⟩ := T.f_plus
  refine ⟨fd, F, Fun_okB (k := 2) F sc_plus fun cdv A outer s H vs Q E hr hg h => ?_⟩
  have nd := sc_plus.nd
  obtain ⟨x, y, rfl, p, q, r, s, ⟨a, rfl, ha⟩, ⟨b, rfl, hb⟩, b1, b2, b3, b4, hne, hq⟩ := h
  refine ⟨_, (pss_one (ps_ret (pe_callG (ok_reduced T) (hr.mono (by decide)) hg (takes_of rfl rfl rfl rfl) rfl T.g_reduced T.k_reduced (pa_cons (pe_op op_add (pe_op op_mulW (pe_ix ix_tup (pv 0) pe_int (fun _ _ => rfl)) (pe_ix ix_tup (pv 1) pe_int (fun _ _ => rfl))) (pe_op op_mulW (pe_ix ix_tup (pv 1) pe_int (fun _ _ => rfl)) (pe_ix ix_tup (pv 0) pe_int (fun _ _ => rfl)))) (pa_cons (pe_op op_mulW (pe_ix ix_tup (pv 0) pe_int (fun _ _ => rfl)) (pe_ix ix_tup (pv 1) pe_int (fun _ _ => rfl))) pa_nil))))), ?_⟩
  exact ⟨_, rfl, _, _, _, _, rfl, rfl, ha, rfl, _, rfl, _, _, _, _, rfl, rfl, hb, rfl, _, _, rfl, rfl, (b1.mulW b4), _, rfl, _, _, _, _, rfl, rfl, hb, rfl, _, rfl, _, _, _, _, rfl, rfl, ha, rfl, _, _, rfl, rfl, (b3.mulW b2), _, _, rfl, rfl, _, rfl, _, _, _, _, rfl, rfl, ha, rfl, _, rfl, _, _, _, _, rfl, rfl, hb, rfl, _, _, rfl, rfl, (b2.mulW b4), _, _, rfl, _, _, rfl, rfl, hne, (b2.mul b4).mono (by decide), hq⟩
theorem ok_plus (T : Txt P K mg D) : CallG P w K mg base 3 D.plus [] (spPlus K) := by
  obtain ⟨fd, F, B⟩ := fb_plus (w := w) (base := base) T
  exact B.pos sp2_len (F.binds (ps := ["first", "second"]) fun _ _ _ _ _ _ us hl => match us, hl with | [_, _], _ => rfl)
abbrev N_minus : List Str := ["first", "second"]
theorem sc_minus : FnScope N_minus ["first", "second"] (defScope s_minus) := ⟨rfl, rfl, rfl, by decide +kernel, rfl, by decide +kernel, by decide +kernel⟩
theorem fb_minus (T : Txt P K mg D) : ∃ fd, Fun K "minus" "minus" s_minus D.minus fd ∧ FnB P w K mg base 3 D.minus fd ["first", "second"] (spMinus K) := by
  obtain ⟨fd, F⟩ := T.f_minus
  refine ⟨fd, F, Fun_okB (k := 2) F sc_minus fun cdv A outer s H vs Q E hr hg h => ?_⟩
  have nd := sc_minus.nd
  obtain ⟨x, y, rfl, p, q, r, s, ⟨a, rfl, ha⟩, ⟨b, rfl, hb⟩, b1, b2, b3, b4, hne, hq⟩ := h
  refine ⟨_, (pss_one (ps_ret (pe_callG (ok_reduced T) (hr.mono (by decide)) hg (takes_of rfl rfl rfl rfl) rfl T.g_reduced T.k_reduced (pa_cons (pe_op op_sub (pe_op op_mulW (pe_ix ix_tup (pv 0) pe_int (fun _ _ => rfl)) (pe_ix ix_tup (pv 1) pe_int (fun _ _ => rfl))) (pe_op op_mulW (pe_ix ix_tup (pv 1) pe_int (fun _ _ => rfl)) (pe_ix ix_tup (pv 0) pe_int (fun _ _ => rfl)))) (pa_cons (pe_op op_mulW (pe_ix ix_tup (pv 0) pe_int (fun _ _ => rfl)) (pe_ix ix_tup (pv 1) pe_int (fun _ _ => rfl))) pa_nil))))), ?_⟩
  exact ⟨_, rfl, _, _, _, _, rfl, rfl, ha, rfl, _, rfl, _, _, _, _, rfl, rfl, hb, rfl, _, _, rfl, rfl, (b1.mulW b4), _, rfl, _, _, _, _, rfl, rfl, hb, rfl, _, rfl, _, _, _, _, rfl, rfl, ha, rfl, _, _, rfl, rfl, (b3.mulW b2), _, _, rfl, rfl, _, rfl, _, _, _, _, rfl, rfl, ha, rfl, _, rfl, _, _, _, _, rfl, rfl, hb, rfl, _, _, rfl, rfl, (b2.mulW b4), _, _, rfl, _, _, rfl, rfl, hne, (b2.mul b4).mono (by decide), hq⟩
theorem ok_minus (T : Txt P K mg D) : CallG P w K mg base 3 D.minus [] (spMinus K) := by
  obtain ⟨fd, F, B⟩ := fb_minus (w := w) (base := base) T
  exact B.pos sp2_len (F.binds (ps := ["first", "second"]) fun _ _ _ _ _ _ us hl => match us, hl with | [_, _], _ => rfl)
abbrev N_times : List Str := ["first", "second"]
theorem sc_times : FnScope N_times ["first", "second"] (defScope s_times) := ⟨rfl, rfl, rfl, by decide +kernel, rfl, by decide +kernel, by decide +kernel⟩
theorem fb_times (T : Txt P K mg D) : ∃ fd, Fun K "times" "times" s_times D.times fd ∧ FnB P w K mg base 3 D.times fd ["first", "second"] (spTimes K) := by
  obtain ⟨fd, F⟩ := T.f_times
  refine ⟨fd, F, Fun_okB (k := 2) F sc_times fun cdv A outer s H vs Q E hr hg h => ?_⟩
  have nd := sc_times.nd
  obtain ⟨x, y, rfl, p, q, r, s, ⟨a, rfl, ha⟩, ⟨b, rfl, hb⟩, b1, b2, b3, b4, hne, hq⟩ := h
  refine ⟨_, (pss_one (ps_ret (pe_callG (ok_reduced T) (hr.mono (by decide)) hg (takes_of rfl rfl rfl rfl) rfl T.g_reduced T.k_reduced (pa_cons (pe_op op_mulW (pe_ix ix_tup (pv 0) pe_int (fun _ _ => rfl)) (pe_ix ix_tup (pv 1) pe_int (fun _ _ => rfl))) (pa_cons (pe_op op_mulW (pe_ix ix_tup (pv 0) pe_int (fun _ _ => rfl)) (pe_ix ix_tup (pv 1) pe_int (fun _ _ => rfl))) pa_nil))))), ?_⟩
  exact ⟨_, rfl, _, _, _, _, rfl, rfl, ha, rfl, _, rfl, _, _, _, _, rfl, rfl, hb, rfl, _, _, rfl, rfl, (b1.mulW b3), _, rfl, _, _, _, _, rfl, rfl, ha, rfl, _, rfl, _, _, _, _, rfl, rfl, hb, rfl, _, _, rfl, rfl, (b2.mulW b4), _, _, rfl, _, _, rfl, rfl, hne, (b2.mul b4).mono (by decide), hq⟩
theorem ok_times (T : Txt P K mg D) : CallG P w K mg base 3 D.times [] (spTimes K) := by
  obtain ⟨fd, F, B⟩ := fb_times (w := w) (base := base) T
  exact B.pos sp2_len (F.binds (ps := ["first", "second"]) fun _ _ _ _ _ _ us hl => match us, hl with | [_, _], _ => rfl)
abbrev N_over : List Str := ["first", "second"]
theorem sc_over : FnScope N_over ["first", "second"] (defScope s_over) := ⟨rfl, rfl, rfl, by decide +kernel, rfl, by decide +kernel, by decide +kernel⟩
theorem fb_over (T : Txt P K mg D) : ∃ fd, Fun K "over" "over" s_over D.over fd ∧ FnB P w K mg base 3 D.over fd ["first", "second"] (spOver K) := by
  obtain ⟨fd, F⟩ := T.f_over
  refine ⟨fd, F, Fun_okB (k := 2) F sc_over fun cdv A outer s H vs Q E hr hg h => ?_⟩
  have nd := sc_over.nd
  obtain ⟨x, y, rfl, p, q, r, s, ⟨a, rfl, ha⟩, ⟨b, rfl, hb⟩, b1, b2, b3, b4, hne, hq⟩ := h
  refine ⟨_, (pss_one (ps_ret (pe_callG (ok_reduced T) (hr.mono (by decide)) hg (takes_of rfl rfl rfl rfl) rfl T.g_reduced T.k_reduced (pa_cons (pe_op op_mulW (pe_ix ix_tup (pv 0) pe_int (fun _ _ => rfl)) (pe_ix ix_tup (pv 1) pe_int (fun _ _ => rfl))) (pa_cons (pe_op op_mulW (pe_ix ix_tup (pv 0) pe_int (fun _ _ => rfl)) (pe_ix ix_tup (pv 1) pe_int (fun _ _ => rfl))) pa_nil))))), ?_⟩
  exact ⟨_, rfl, _, _, _, _, rfl, rfl, ha, rfl, _, rfl, _, _, _, _, rfl, rfl, hb, rfl, _, _, rfl, rfl, (b1.mulW b4), _, rfl, _, _, _, _, rfl, rfl, ha, rfl, _, rfl, _, _, _, _, rfl, rfl, hb, rfl, _, _, rfl, rfl, (b2.mulW b3), _, _, rfl, _, _, rfl, rfl, hne, (b2.mul b3).mono (by decide), hq⟩
theorem ok_over (T : Txt P K mg D) : CallG P w K mg base 3 D.over [] (spOver K) := by
  obtain ⟨fd, F, B⟩ := fb_over (w := w) (base := base) T
  exact B.pos sp2_len (F.binds (ps := ["first", "second"]) fun _ _ _ _ _ _ us hl => match us, hl with | [_, _], _ => rfl)
abbrev N_is_less : List Str := ["first", "second"]
theorem sc_is_less : FnScope N_is_less ["first", "second"] (defScope s_is_less) := ⟨rfl, rfl, rfl, by decide +kernel, rfl, by decide +kernel, by decide +kernel⟩
theorem fb_is_less (T : Txt P K mg D) : ∃ fd, Fun K "is_less" "is_less" s_is_less D.is_less fd ∧ FnB P w K mg base 1 D.is_less fd ["first", "second"] (spLess K) := by
  obtain ⟨fd, F⟩ := T.f_is_less
  refine ⟨fd, F, Fun_okB (k := 0) F sc_is_less fun cdv A outer s H vs Q E hr hg h => ?_⟩
  have nd := sc_is_less.nd
  obtain ⟨x, y, rfl, p, q, r, s, ⟨a, rfl, ha⟩, ⟨b, rfl, hb⟩, b1, b2, b3, b4, hq⟩ := h
  refine ⟨_, (pss_one (ps_ret (pe_cmpR op_lt (pe_op op_mulW (pe_ix ix_tup (pv 0) pe_int (fun _ _ => rfl)) (pe_ix ix_tup (pv 1) pe_int (fun _ _ => rfl))) (pe_op op_mulW (pe_ix ix_tup (pv 1) pe_int (fun _ _ => rfl)) (pe_ix ix_tup (pv 0) pe_int (fun _ _ => rfl))) (nomark _)))), ?_⟩
  exact ⟨_, rfl, _, _, _, _, rfl, rfl, ha, rfl, _, rfl, _, _, _, _, rfl, rfl, hb, rfl, _, _, rfl, rfl, (b1.mulW b4), _, rfl, _, _, _, _, rfl, rfl, hb, rfl, _, rfl, _, _, _, _, rfl, rfl, ha, rfl, _, _, rfl, rfl, (b3.mulW b2), _, _, rfl, rfl, hq⟩
theorem ok_is_less (T : Txt P K mg D) : CallG P w K mg base 1 D.is_less [] (spLess K) := by
  obtain ⟨fd, F, B⟩ := fb_is_less (w := w) (base := base) T
  exact B.pos sp2_len (F.binds (ps := ["first", "second"]) fun _ _ _ _ _ _ us hl => match us, hl with | [_, _], _ => rfl)
abbrev N_add : List Str := ["first", "second"]
theorem sc_add : FnScope N_add ["first", "second"] (defScope s_add) := ⟨rfl, rfl, rfl, by decide +kernel, rfl, by decide +kernel, by decide +kernel⟩
theorem fb_add (T : Txt P K mg D) : ∃ fd, Fun K "add" "add" s_add D.add fd ∧ FnB P w K mg base 4 D.add fd ["first", "second"] (spAdd K D.InvalidNumber) := by
  obtain ⟨fd, F⟩ := T.f_add
  refine ⟨fd, F, Fun_okB (k := 3) F sc_add fun cdv A outer s H vs Q E hr hg h => ?_⟩
  have nd := sc_add.nd
  obtain ⟨x, y, rfl, dx, dy, hx, hy, qe, qn⟩ := h
  refine ⟨_, (pss_cons (ps_expr (pe_callG (ok_check_numbers T) (hr.mono (by decide)) hg (takes_of rfl rfl rfl rfl) rfl T.g_check_numbers T.k_check_numbers (pa_cons (pv 0) (pa_cons (pv 1) pa_nil))))
        (pss_one (ps_ret (pe_callG (ok_plus T) (hr.mono (by decide)) hg (takes_of rfl rfl rfl rfl) rfl T.g_plus T.k_plus (pa_cons (pv 0) (pa_cons (pv 1) pa_nil)))))), ?_⟩
  refine ⟨_, rfl, _, rfl, bin_in hx hy qe fun p q r s e1 e2 i1 i2 H1 ex n1 n2 => ?_⟩
  obtain ⟨b1, b2, b3, b4, hq⟩ := qn p q r s e1 e2 i1 i2
  exact ⟨_, rfl, _, rfl, _, _, rfl, p, q, r, s, n1, n2, b1, b2, b3, b4, ne0_of i1 i2, hq.ex ex⟩
theorem ok_add (T : Txt P K mg D) : CallG P w K mg base 4 D.add [] (spAdd K D.InvalidNumber) := by
  obtain ⟨fd, F, B⟩ := fb_add (w := w) (base := base) T
  exact B.pos sp2_len (F.binds (ps := ["first", "second"]) fun _ _ _ _ _ _ us hl => match us, hl with | [_, _], _ => rfl)
theorem ok_add_second_first (T : Txt P K mg D) : CallG P w K mg base 4 D.add ["second", "first"] (fun vs H Q E => vs.length = 2 ∧ (spAdd K D.InvalidNumber) (permV [1, 0] vs) H Q E) := by
  obtain ⟨fd, F, B⟩ := fb_add (w := w) (base := base) T
  refine FnB.perm (ks := ["second", "first"]) B [1, 0] 2 sp2_len fun s us ws hk hw hl => ?_
  match us, ws, hw, hl with
  | [], [_, _], _, _ =>
    obtain ⟨_, _, _, _, _, _, _, _, _, rfl, _⟩ := F.ex
    exact BindsTo.of_eq rfl
  | _ :: _, [_, _], _, h => exact absurd h (by simp)
abbrev N_subtract : List Str := ["first", "second"]
theorem sc_subtract : FnScope N_subtract ["first", "second"] (defScope s_subtract) := ⟨rfl, rfl, rfl, by decide +kernel, rfl, by decide +kernel, by decide +kernel⟩
theorem fb_subtract (T : Txt P K mg D) : ∃ fd, Fun K "subtract" "subtract" s_subtract D.subtract fd ∧ FnB P w K mg base 4 D.subtract fd ["first", "second"] (spSub K D.InvalidNumber) := by
  obtain ⟨fd, F⟩ := T.f_subtract
  refine ⟨fd, F, Fun_okB (k := 3) F sc_subtract fun cdv A outer s H vs Q E hr hg h => ?_⟩
  have nd := sc_subtract.nd
  obtain ⟨x, y, rfl, dx, dy, hx, hy, qe, qn⟩ := h
  refine ⟨_, (pss_cons (ps_expr (pe_callG (ok_check_numbers T) (hr.mono (by decide)) hg (takes_of rfl rfl rfl rfl) rfl T.g_check_numbers T.k_check_numbers (pa_cons (pv 0) (pa_cons (pv 1) pa_nil))))
        (pss_one (ps_ret (pe_callG (ok_minus T) (hr.mono (by decide)) hg (takes_of rfl rfl rfl rfl) rfl T.g_minus T.k_minus (pa_cons (pv 0) (pa_cons (pv 1) pa_nil)))))), ?_⟩
  refine ⟨_, rfl, _, rfl, bin_in hx hy qe fun p q r s e1 e2 i1 i2 H1 ex n1 n2 => ?_⟩
  obtain ⟨b1, b2, b3, b4, hq⟩ := qn p q r s e1 e2 i1 i2
  exact ⟨_, rfl, _, rfl, _, _, rfl, p, q, r, s, n1, n2, b1, b2, b3, b4, ne0_of i1 i2, hq.ex ex⟩
theorem ok_subtract (T : Txt P K mg D) : CallG P w K mg base 4 D.subtract [] (spSub K D.InvalidNumber) := by
  obtain ⟨fd, F, B⟩ := fb_subtract (w := w) (base := base) T
  exact B.pos sp2_len (F.binds (ps := ["first", "second"]) fun _ _ _ _ _ _ us hl => match us, hl with | [_, _], _ => rfl)
theorem ok_subtract_second_first (T : Txt P K mg D) : CallG P w K mg base 4 D.subtract ["second", "first"] (fun vs H Q E => vs.length = 2 ∧ (spSub K D.InvalidNumber) (permV [1, 0] vs) H Q E) := by
  obtain ⟨fd, F, B⟩ := fb_subtract (w := w) (base := base) T
  refine FnB.perm (ks := ["second", "first"]) B [1, 0] 2 sp2_len fun s us ws hk hw hl => ?_
  match us, ws, hw, hl with
  | [], [_, _], _, _ =>
    obtain ⟨_, _, _, _, _, _, _, _, _, rfl, _⟩ := F.ex
    exact BindsTo.of_eq rfl
  | _ :: _, [_, _], _, h => exact absurd h (by simp)
abbrev N_multiply : List Str := ["first", "second"]
theorem sc_multiply : FnScope N_multiply ["first", "second"] (defScope s_multiply) := ⟨rfl, rfl, rfl, by decide +kernel, rfl, by decide +kernel, by decide +kernel⟩
theorem fb_multiply (T : Txt P K mg D) : ∃ fd, Fun K "multiply" "multiply" s_multiply D.multiply fd ∧ FnB P w K mg base 4 D.multiply fd ["first", "second"] (spMul K D.InvalidNumber) := by
  obtain ⟨fd, F⟩ := T.f_multiply
  refine ⟨fd, F, Fun_okB (k := 3) F sc_multiply fun cdv A outer s H vs Q E hr hg h => ?_⟩
  have nd := sc_multiply.nd
  obtain ⟨x, y, rfl, dx, dy, hx, hy, qe, qn⟩ := h
  refine ⟨_, (pss_cons (ps_expr (pe_callG (ok_check_numbers T) (hr.mono (by decide)) hg (takes_of rfl rfl rfl rfl) rfl T.g_check_numbers T.k_check_numbers (pa_cons (pv 0) (pa_cons (pv 1) pa_nil))))
        (pss_one (ps_ret (pe_callG (ok_times T) (hr.mono (by decide)) hg (takes_of rfl rfl rfl rfl) rfl T.g_times T.k_times (pa_cons (pv 0) (pa_cons (pv 1) pa_nil)))))), ?_⟩
  refine ⟨_, rfl, _, rfl, bin_in hx hy qe fun p q r s e1 e2 i1 i2 H1 ex n1 n2 => ?_⟩
  obtain ⟨b1, b2, b3, b4, hq⟩ := qn p q r s e1 e2 i1 i2
  exact ⟨_, rfl, _, rfl, _, _, rfl, p, q, r, s, n1, n2, b1, b2, b3, b4, ne0_of i1 i2, hq.ex ex⟩
theorem ok_multiply (T : Txt P K mg D) : CallG P w K mg base 4 D.multiply [] (spMul K D.InvalidNumber) := by
  obtain ⟨fd, F, B⟩ := fb_multiply (w := w) (base := base) T
  exact B.pos sp2_len (F.binds (ps := ["first", "second"]) fun _ _ _ _ _ _ us hl => match us, hl with | [_, _], _ => rfl)
theorem ok_multiply_second_first (T : Txt P K mg D) : CallG P w K mg base 4 D.multiply ["second", "first"] (fun vs H Q E => vs.length = 2 ∧ (spMul K D.InvalidNumber) (permV [1, 0] vs) H Q E) := by
  obtain ⟨fd, F, B⟩ := fb_multiply (w := w) (base := base) T
  refine FnB.perm (ks := ["second", "first"]) B [1, 0] 2 sp2_len fun s us ws hk hw hl => ?_
  match us, ws, hw, hl with
  | [], [_, _], _, _ =>
    obtain ⟨_, _, _, _, _, _, _, _, _, rfl, _⟩ := F.ex
    exact BindsTo.of_eq rfl
  | _ :: _, [_, _], _, h => exact absurd h (by simp)
abbrev N_divide : List Str := ["first", "second"]
theorem sc_divide : FnScope N_divide ["first", "second"] (defScope s_divide) := ⟨rfl, rfl, rfl, by decide +kernel, rfl, by decide +kernel, by decide +kernel⟩
theorem fb_divide (T : Txt P K mg D) : ∃ fd, Fun K "divide" "divide" s_divide D.divide fd ∧ FnB P w K mg base 4 D.divide fd ["first", "second"] (spDiv K D.InvalidNumber) := by
  obtain ⟨fd, F⟩ := T.f_divide
  refine ⟨fd, F, Fun_okB (k := 3) F sc_divide fun cdv A outer s H vs Q E hr hg h => ?_⟩
  have nd := sc_divide.nd
  obtain ⟨x, y, rfl, dx, dy, hx, hy, qe, qn⟩ := h
  refine ⟨_, (pss_cons (ps_expr (pe_callG (ok_check_numbers T) (hr.mono (by decide)) hg (takes_of rfl rfl rfl rfl) rfl T.g_check_numbers T.k_check_numbers (pa_cons (pv 0) (pa_cons (pv 1) pa_nil))))
        (pss_cons (ps_if (pt_cmpR (op_eqD hr.units) (pv 1) (pe_gcc (v := .ref D.ZERO) rfl T.g_ZERO) (nomark _)) (pss_one (ps_raise rfl (takes_of rfl rfl rfl rfl) (pmk_newX T.x_InvalidNumber (hr.mono (by decide)) T.k_InvalidNumber (T.z_InvalidNumber _ rfl) rfl T.g_InvalidNumber (pv 1)))) pss_nil)
        (pss_one (ps_ret (pe_callG (ok_over T) (hr.mono (by decide)) hg (takes_of rfl rfl rfl rfl) rfl T.g_over T.k_over (pa_cons (pv 0) (pa_cons (pv 1) pa_nil))))))), ?_⟩
  refine ⟨_, rfl, _, rfl, bin_in hx hy qe fun p q r s e1 e2 i1 i2 H1 ex n1 n2 => ?_⟩
  obtain ⟨b1, b2, b3, b4, hz, hq⟩ := qn p q r s e1 e2 i1 i2
  refine ⟨_, rfl, _, _, n2.d, (T.q_ZERO H1).d, shaped_num _ _, shaped_num _ _, _, rfl, ?_⟩
  rw [eqv_num]
  refine iteB (fun c => ?_) (fun c => ?_)
  · have hr0 : r = 0 := of_decide_eq_true (Bool.and_eq_true_iff.mp c).1
    exact ⟨_, rfl, fun dd hdd => hz hr0 dd _ (ex.trans (Evl.Ex.new hdd)) upd_same⟩
  · have hr0 : r ≠ 0 := fun z => by
      subst z
      have h1 := i2.2
      have h2 := i2.1
      have : s = 1 := by
        unfold Int.gcd at h1
        simp at h1
        omega
      subst this
      simp at c
    have hn : q * r ≠ 0 := Int.mul_ne_zero (by have := i1.1; omega) hr0
    exact ⟨_, rfl, _, rfl, _, _, rfl, p, q, r, s, n1, n2, b1, b2, b3, b4, hn, (hq hr0).ex ex⟩
theorem ok_divide (T : Txt P K mg D) : CallG P w K mg base 4 D.divide [] (spDiv K D.InvalidNumber) := by
  obtain ⟨fd, F, B⟩ := fb_divide (w := w) (base := base) T
  exact B.pos sp2_len (F.binds (ps := ["first", "second"]) fun _ _ _ _ _ _ us hl => match us, hl with | [_, _], _ => rfl)
theorem ok_divide_second_first (T : Txt P K mg D) : CallG P w K mg base 4 D.divide ["second", "first"] (fun vs H Q E => vs.length = 2 ∧ (spDiv K D.InvalidNumber) (permV [1, 0] vs) H Q E) := by
  obtain ⟨fd, F, B⟩ := fb_divide (w := w) (base := base) T
  refine FnB.perm (ks := ["second", "first"]) B [1, 0] 2 sp2_len fun s us ws hk hw hl => ?_
  match us, ws, hw, hl with
  | [], [_, _], _, _ =>
    obtain ⟨_, _, _, _, _, _, _, _, _, rfl, _⟩ := F.ex
    exact BindsTo.of_eq rfl
  | _ :: _, [_, _], _, h => exact absurd h (by simp)
abbrev N_compare : List Str := ["first", "second"]
theorem sc_compare : FnScope N_compare ["first", "second"] (defScope s_compare) := ⟨rfl, rfl, rfl, by decide +kernel, rfl, by decide +kernel, by decide +kernel⟩
theorem fb_compare (T : Txt P K mg D) : ∃ fd, Fun K "compare" "compare" s_compare D.compare fd ∧ FnB P w K mg base 4 D.compare fd ["first", "second"] (spCmp K D.InvalidNumber) := by
  obtain ⟨fd, F⟩ := T.f_compare
  refine ⟨fd, F, Fun_okB (k := 3) F sc_compare fun cdv A outer s H vs Q E hr hg h => ?_⟩
  have nd := sc_compare.nd
  obtain ⟨x, y, rfl, dx, dy, hx, hy, qe, qn⟩ := h
  refine ⟨_, (pss_cons (ps_expr (pe_callG (ok_check_numbers T) (hr.mono (by decide)) hg (takes_of rfl rfl rfl rfl) rfl T.g_check_numbers T.k_check_numbers (pa_cons (pv 0) (pa_cons (pv 1) pa_nil))))
        (pss_one (ps_ret (pe_op op_sub (pe_callTy call_int1 rfl T.n_int (by decide +kernel) (pa_cons (pe_callG (ok_is_less T) (hr.mono (by decide)) hg (takes_of rfl rfl rfl rfl) rfl T.g_is_less T.k_is_less (pa_cons (pv 1) (pa_cons (pv 0) pa_nil))) pa_nil)) (pe_callTy call_int1 rfl T.n_int (by decide +kernel) (pa_cons (pe_callG (ok_is_less T) (hr.mono (by decide)) hg (takes_of rfl rfl rfl rfl) rfl T.g_is_less T.k_is_less (pa_cons (pv 0) (pa_cons (pv 1) pa_nil))) pa_nil)))))), ?_⟩
  refine ⟨_, rfl, _, rfl, bin_in hx hy qe fun p q r s e1 e2 i1 i2 H1 ex n1 n2 => ?_⟩
  obtain ⟨b1, b2, b3, b4, hq⟩ := qn p q r s e1 e2 i1 i2
  refine ⟨_, rfl, _, rfl, _, _, rfl, r, s, p, q, n2, n1, b3, b4, b1, b2, .inr ⟨_, rfl, ?_⟩⟩
  refine ⟨_, rfl, _, rfl, _, _, rfl, p, q, r, s, n1, n2, b1, b2, b3, b4, .inr ⟨_, rfl, _, _, rfl, rfl, ?_⟩⟩
  have e : ((if decide (r * q < p * s) = true then (1 : Int) else 0) - (if decide (p * s < r * q) = true then (1 : Int) else 0)) = sgn3 (p * s) (r * q) := by
    unfold sgn3
    simp
  show Q (.int _) H1
  rw [e]
  exact hq H1 ex
theorem ok_compare (T : Txt P K mg D) : CallG P w K mg base 4 D.compare [] (spCmp K D.InvalidNumber) := by
  obtain ⟨fd, F, B⟩ := fb_compare (w := w) (base := base) T
  exact B.pos sp2_len (F.binds (ps := ["first", "second"]) fun _ _ _ _ _ _ us hl => match us, hl with | [_, _], _ => rfl)
theorem ok_compare_second_first (T : Txt P K mg D) : CallG P w K mg base 4 D.compare ["second", "first"] (fun vs H Q E => vs.length = 2 ∧ (spCmp K D.InvalidNumber) (permV [1, 0] vs) H Q E) := by
  obtain ⟨fd, F, B⟩ := fb_compare (w := w) (base := base) T
  refine FnB.perm (ks := ["second", "first"]) B [1, 0] 2 sp2_len fun s us ws hk hw hl => ?_
  match us, ws, hw, hl with
  | [], [_, _], _, _ =>
    obtain ⟨_, _, _, _, _, _, _, _, _, rfl, _⟩ := F.ex
    exact BindsTo.of_eq rfl
  | _ :: _, [_, _], _, h => exact absurd h (by simp)
abbrev N_whole_part : List Str := ["value"]
theorem sc_whole_part : FnScope N_whole_part ["value"] (defScope s_whole_part) := ⟨rfl, rfl, rfl, by decide +kernel, rfl, by decide +kernel, by decide +kernel⟩
theorem fb_whole_part (T : Txt P K mg D) : ∃ fd, Fun K "whole_part" "whole_part" s_whole_part D.whole_part fd ∧ FnB P w K mg base 1 D.whole_part fd ["value"] (spWhole K) := by
  obtain ⟨fd, F⟩ := T.f_whole_part
  refine ⟨fd, F, Fun_okB (k := 0) F sc_whole_part fun cdv A outer s H vs Q E hr hg h => ?_⟩
  have nd := sc_whole_part.nd
  obtain ⟨x, rfl, p, q, ⟨a, rfl, ha⟩, h0, hB, hq⟩ := h
  refine ⟨_, (pss_one (ps_ret (pe_op op_fdivS (pe_ix ix_tup (pv 0) pe_int (fun _ _ => rfl)) (pe_ix ix_tup (pv 0) pe_int (fun _ _ => rfl))))), ?_⟩
  exact ⟨_, rfl, _, _, _, _, rfl, rfl, ha, rfl, _, rfl, _, _, _, _, rfl, rfl, ha, rfl, _, _, rfl, rfl, hB.fdiv h0, hq⟩
theorem ok_whole_part (T : Txt P K mg D) : CallG P w K mg base 1 D.whole_part [] (spWhole K) := by
  obtain ⟨fd, F, B⟩ := fb_whole_part (w := w) (base := base) T
  exact B.pos sp1_len (F.binds (ps := ["value"]) fun _ _ _ _ _ _ us hl => match us, hl with | [_], _ => rfl)
abbrev N_floor_of : List Str := ["value"]
theorem sc_floor_of : FnScope N_floor_of ["value"] (defScope s_floor_of) := ⟨rfl, rfl, rfl, by decide +kernel, rfl, by decide +kernel, by decide +kernel⟩
theorem fb_floor_of (T : Txt P K mg D) : ∃ fd, Fun K "floor_of" "floor_of" s_floor_of D.floor_of fd ∧ FnB P w K mg base 4 D.floor_of fd ["value"] (spFloor K D.InvalidNumber) := by
  obtain ⟨fd, F⟩ := T.f_floor_of
  refine ⟨fd, F, Fun_okB (k := 3) F sc_floor_of fun cdv A outer s H vs Q E hr hg h => ?_⟩
  have nd := sc_floor_of.nd
  obtain ⟨x, rfl, dx, hx, qe, qn⟩ := h
  refine ⟨_, (pss_cons (ps_expr (pe_callG (ok_check_numbers T) (hr.mono (by decide)) hg (takes_of rfl rfl rfl rfl) rfl T.g_check_numbers T.k_check_numbers (pa_cons (pv 0) pa_nil)))
        (pss_one (ps_ret (pe_callG (ok_whole_part T) (hr.mono (by decide)) hg (takes_of rfl rfl rfl rfl) rfl T.g_whole_part T.k_whole_part (pa_cons (pv 0) pa_nil))))), ?_⟩
  refine ⟨_, rfl, checkNums_in ⟨[dx], by show 1 ≤ 1000; decide, .cons hx .nil, ?_⟩⟩
  cases e : fb [x] [dx] with
  | some z =>
    obtain ⟨h1, rfl⟩ := fb_some1 e
    exact qe h1
  | none =>
    obtain ⟨p, q, rfl, i1⟩ := isNumD_inv (fb_none1 e)
    intro H1 ex
    obtain ⟨hB, hq⟩ := qn p q rfl i1
    exact ⟨_, rfl, _, rfl, p, q, NumAt.of ((Car.ex ex).d hx), by have := i1.1; omega, hB, hq H1 ex⟩
theorem ok_floor_of (T : Txt P K mg D) : CallG P w K mg base 4 D.floor_of [] (spFloor K D.InvalidNumber) := by
  obtain ⟨fd, F, B⟩ := fb_floor_of (w := w) (base := base) T
  exact B.pos sp1_len (F.binds (ps := ["value"]) fun _ _ _ _ _ _ us hl => match us, hl with | [_], _ => rfl)
theorem ok_floor_of_value (T : Txt P K mg D) : CallG P w K mg base 4 D.floor_of ["value"] (fun vs H Q E => vs.length = 1 ∧ (spFloor K D.InvalidNumber) (permV [0] vs) H Q E) := by
  obtain ⟨fd, F, B⟩ := fb_floor_of (w := w) (base := base) T
  refine FnB.perm (ks := ["value"]) B [0] 1 sp1_len fun s us ws hk hw hl => ?_
  match us, ws, hw, hl with
  | [], [_], _, _ =>
    obtain ⟨_, _, _, _, _, _, _, _, _, rfl, _⟩ := F.ex
    exact BindsTo.of_eq rfl
  | _ :: _, [_], _, h => exact absurd h (by simp)
abbrev N__law_begin : List Str := ["script"]
theorem sc__law_begin : FnScope N__law_begin ["script"] (defScope s__law_begin) := ⟨rfl, rfl, rfl, by decide +kernel, rfl, by decide +kernel, by decide +kernel⟩
theorem fb__law_begin (T : Txt P K mg D) : ∃ fd, Fun K "_law_begin" "_law_begin" s__law_begin D._law_begin fd ∧ FnB P w K mg base 1 D._law_begin fd ["script"] (spBegin K) := by
  obtain ⟨fd, F⟩ := T.f__law_begin
  refine ⟨fd, F, Fun_okB (k := 0) F sc__law_begin fun cdv A outer s H vs Q E hr hg h => ?_⟩
  have nd := sc__law_begin.nd
  obtain ⟨x, rfl, a, ns, rfl, hs, hl, q⟩ := h
  refine ⟨_, (pss_one (ps_ret (pe_disp (pps_cons pe_str (pe_op op_catL (pv 0) (pe_lst (pa_cons pe_int pa_nil))) (pps_cons pe_str pe_int (pps_cons pe_str pe_int (pps_cons pe_str pe_int pps_nil)))) (by rfl) (by rfl) (fun z => by cases z) (by decide)))), ?_⟩
  refine fun p hp => ⟨_, rfl, by rw [sizeLine_eq]; show 1 ≤ 16777216; decide, fun b hb => ⟨a, b, ns.map V.int, [.int 0], rfl, rfl, (Car.ex ((Evl.Ex.new hp).trans (Evl.Ex.new hb))).l hs, SqL.of upd_same, by rw [sizeLine_eq, List.length_map]; show ns.length + 1 ≤ 16777216; omega, fun c hc => ?_⟩⟩
  have bp : p ≠ b := ne_of_none upd_same hb
  have cb : b ≠ c := ne_of_none upd_same hc
  have cp : p ≠ c := fun z => by rw [← z, upd_ne bp, upd_same] at hc; cases hc
  refine ⟨by rw [upd_ne cp, upd_ne bp, upd_same], drawD c 0 0 0, rfl, by show 4 ≤ 15; decide, ?_⟩
  have em : mergeK [] (drawD c 0 0 0) = drawD c 0 0 0 := by kernel_rfl
  rw [em]
  refine q p _ hp (fun x o e => ?_) ⟨c, ns ++ [0], 0, 0, 0, upd_same, .inl (.inl ?_), by simp, by rw [List.length_append]; show ns.length + 1 ≤ 1000; omega, by decide, by decide, by decide, by decide⟩
  · have xp := ne_of_none e hp
    have e1 : upd H p (.dK []) x = some o := by rw [upd_ne xp, e]
    have xb := ne_of_none e1 hb
    have e2 : upd (upd H p (.dK [])) b (.lst [.int 0]) x = some o := by rw [upd_ne xb, e1]
    have xc := ne_of_none e2 hc
    rw [upd_ne xp, upd_ne xc, e2]
  · rw [upd_ne (Ne.symm cp), upd_same, List.map_append]
    rfl
theorem ok__law_begin (T : Txt P K mg D) : CallG P w K mg base 1 D._law_begin [] (spBegin K) := by
  obtain ⟨fd, F, B⟩ := fb__law_begin (w := w) (base := base) T
  exact B.pos sp1_len (F.binds (ps := ["script"]) fun _ _ _ _ _ _ us hl => match us, hl with | [_], _ => rfl)
abbrev N__law_mixed : List Str := ["cell", "k", "mixed"]
theorem sc__law_mixed : FnScope N__law_mixed ["cell", "k"] (defScope s__law_mixed) := ⟨rfl, rfl, rfl, by decide +kernel, rfl, by decide +kernel, by decide +kernel⟩
theorem fb__law_mixed (T : Txt P K mg D) : ∃ fd, Fun K "_law_mixed" "_law_mixed" s__law_mixed D._law_mixed fd ∧ FnB P w K mg base 1 D._law_mixed fd ["cell", "k"] spMixed := by
  obtain ⟨fd, F⟩ := T.f__law_mixed
  refine ⟨fd, F, Fun_okB (k := 0) F sc__law_mixed fun cdv A outer s H vs Q E hr hg h => ?_⟩
  have nd := sc__law_mixed.nd
  obtain ⟨x, y, rfl, c, k, rfl, rfl, h0, h1, q⟩ := h
  refine ⟨_, (pss_cons (ps_set (i := 2) nd rfl (.inl rfl) (pe_op op_mod (pe_op op_add (pe_op op_add (pe_op op_add (pe_op op_mod (pv 0) pe_int) (pe_op op_mulW (pe_op op_mulW pe_int (pv 1)) (pv 1))) (pe_op op_mulW pe_int (pv 1))) pe_int) pe_int))
        (pss_cons (ps_set (i := 2) nd rfl (.inl rfl) (pe_op op_mod (pe_op op_mulW (pe_op op_mod (pe_op op_mulW (pv 2) (pv 2)) pe_int) (pv 2)) pe_int))
        (pss_one (ps_ret (pe_op op_fdivW (pe_op op_mod (pe_op op_mulW (pv 2) (pe_op op_add pe_int (pe_op op_mulW pe_int (pe_op op_mod (pv 1) pe_int)))) pe_int) pe_int))))), ?_⟩
  have bk : Bd 60 k := by unfold Bd; omega
  have md : ∀ (n : Nat) (a j : Int), 0 < j → j < 2 ^ n → Bd n (a % j) := fun n a j h0 h1 => by
    unfold Bd
    have z0 := Int.emod_nonneg a (show j ≠ 0 by omega)
    have z1 := Int.emod_lt_of_pos a h0
    have : ((2 ^ n : Nat) : Int) = 2 ^ n := by simp
    omega
  have b1 : Bd 13 7919 := by unfold Bd; decide
  have b2 : Bd 5 31 := by unfold Bd; decide
  have b3 : Bd 2 2 := by unfold Bd; decide
  refine ⟨_, rfl, _, _, rfl, rfl, show (0 : Int) < 1000000007 by decide, _, rfl, _, _, rfl, rfl, b1.mulW bk, _, rfl, _, _, rfl, rfl, (b1.mul bk).mulW bk, _, _, rfl, rfl, _, rfl, _, _, rfl, rfl, b2.mulW bk, _, _, rfl, rfl, _, _, rfl, rfl, _, _, rfl, rfl, show (0 : Int) < 2147483647 by decide, ?_⟩
  have bm := md 31 (c % 1000000007 + 7919 * k * k + 31 * k + 7) 2147483647 (by decide) (by decide)
  refine ⟨_, rfl, _, rfl, _, _, rfl, rfl, bm.mulW bm, _, _, rfl, rfl, show (0 : Int) < 2147483647 by decide, _, rfl, _, _, rfl, rfl, (md 31 _ _ (by decide) (by decide)).mulW bm, _, _, rfl, rfl, show (0 : Int) < 2147483629 by decide, ?_⟩
  refine ⟨_, rfl, _, rfl, _, _, rfl, rfl, show (0 : Int) < 1000 by decide, _, _, rfl, rfl, b3.mulW (md 10 k 1000 (by decide) (by decide)), _, _, rfl, rfl, _, _, rfl, rfl, (md 31 _ _ (by decide) (by decide)).mulW (n := 20) ?_, _, _, rfl, rfl, show (0 : Int) < 2147483647 by decide, _, _, rfl, rfl, ⟨by decide, by decide⟩, q _⟩
  exact Bd.add (m := 19) (by unfold Bd; decide) ((b3.mul (md 10 k 1000 (by decide) (by decide))).mono (by decide))
theorem ok__law_mixed (T : Txt P K mg D) : CallG P w K mg base 1 D._law_mixed [] spMixed := by
  obtain ⟨fd, F, B⟩ := fb__law_mixed (w := w) (base := base) T
  exact B.pos sp2_len (F.binds (ps := ["cell", "k"]) fun _ _ _ _ _ _ us hl => match us, hl with | [_, _], _ => rfl)
abbrev N__law_next : List Str := ["draw", "bound", "found", "cells", "cell"]
theorem sc__law_next : FnScope N__law_next ["draw", "bound"] (defScope s__law_next) := ⟨rfl, rfl, rfl, by decide +kernel, rfl, by decide +kernel, by decide +kernel⟩
theorem fb__law_next (T : Txt P K mg D) : ∃ fd, Fun K "_law_next" "_law_next" s__law_next D._law_next fd ∧ FnB P w K mg base 2 D._law_next fd ["draw", "bound"] (spNext K) := by
  obtain ⟨fd, F⟩ := T.f__law_next
  refine ⟨fd, F, Fun_okB (k := 1) F sc__law_next fun cdv A outer s H vs Q E hr hg h => ?_⟩
  have nd := sc__law_next.nd
  obtain ⟨x, y, rfl, d, n, b, rfl, rfl, ⟨c, cells, at', l, u, hd, hc, hne, hlen, a0, a1, u0, u1⟩, hn, b0, b1, q⟩ := h
  refine ⟨_, (pss_cons (ps_if (pt_cmpR op_gt (pe_dget (hu_of hr) (pv 0) pe_str (fun _ _ => rfl)) pe_int (nomark _)) (pss_cons (ps_set (i := 2) nd rfl (.inl rfl) (pe_op op_mod (pe_dget (hu_of hr) (pv 0) pe_str (fun _ _ => rfl)) (pv 1)))
        (pss_cons (ps_dput (hu_of hr) (pv 0) pe_str (pe_op op_fdivW (pe_dget (hu_of hr) (pv 0) pe_str (fun _ _ => rfl)) (pv 1)) rfl)
        (pss_one (ps_ret (pv 2))))) pss_nil)
        (pss_cons (ps_set (i := 3) nd rfl (.inl rfl) (pe_dget (hu_of hr) (pv 0) pe_str (fun _ _ => rfl)))
        (pss_cons (ps_set (i := 4) nd rfl (.inl rfl) (pe_ix ix_list (pv 3) (pe_op op_mod (pe_dget (hu_of hr) (pv 0) pe_str (fun _ _ => rfl)) (pe_callB call_len rfl T.n_len (by decide +kernel) (pa_cons (pv 3) pa_nil))) (fun _ _ => rfl)))
        (pss_cons (ps_dput (hu_of hr) (pv 0) pe_str (pe_op op_add (pe_dget (hu_of hr) (pv 0) pe_str (fun _ _ => rfl)) pe_int) rfl)
        (pss_cons (ps_if (PW.pt (pw_and (pt_cmpR op_ge (pv 4) (pe_op op_pow pe_int pe_int) (nomark _)) (pw_and1 (pt_cmpR op_le (pe_dget (hu_of hr) (pv 0) pe_str (fun _ _ => rfl)) (pe_callB call_len rfl T.n_len (by decide +kernel) (pa_cons (pv 3) pa_nil)) (nomark _))))) (pss_cons (ps_dput (hu_of hr) (pv 0) pe_str (pe_op op_fdivW (pv 4) (pv 1)) rfl)
        (pss_one (ps_ret (pe_op op_mod (pv 4) (pv 1))))) pss_nil)
        (pss_cons (ps_dput (hu_of hr) (pv 0) pe_str (pe_op op_add (pe_dget (hu_of hr) (pv 0) pe_str (fun _ _ => rfl)) pe_int) rfl)
        (pss_one (ps_ret (pe_op op_mod (pe_callG (ok__law_mixed T) (hr.mono (by decide)) hg (takes_of rfl rfl rfl rfl) rfl T.g__law_mixed T.k__law_mixed (pa_cons (pe_callG (ok__law_mixed T) (hr.mono (by decide)) hg (takes_of rfl rfl rfl rfl) rfl T.g__law_mixed T.k__law_mixed (pa_cons (pv 4) (pa_cons (pe_dget (hu_of hr) (pv 0) pe_str (fun _ _ => rfl)) pa_nil))) (pa_cons (pe_dget (hu_of hr) (pv 0) pe_str (fun _ _ => rfl)) pa_nil))) (pv 1)))))))))), ?_⟩
  have hB : Bd 60 b := by unfold Bd; omega
  have hdv : ∀ i, CDivW i b := fun i => ⟨b0, Nat.lt_trans (hB.log (by decide)) (by decide)⟩
  have fin : ∀ (i l' a' u' : Int) (H' : Hp), Exb d H H' → 0 ≤ a' → a' ≤ (n + 1 : Nat) → 0 ≤ u' → u' ≤ (n + 1 : Nat) → H' d = some (.dK (drawD c a' l' u')) → Q (.int (i % b)) H' := fun i l' a' u' H' e h1 h2 h3 h4 h =>
    q _ (Int.emod_nonneg i (by omega)) (Int.emod_lt_of_pos i b0) H' ⟨c, cells, a', l', u', h, (Car.exb hd e).l hc, hne, hlen, h1, h2, h3, h4⟩ e
  have hnn : (n : Int) < 2 ^ 50 := by
    have : ((2 ^ 50 : Nat) : Int) = 2 ^ 50 := by simp
    omega
  refine ⟨_, rfl, d, _, rfl, dget_left hd, _, _, rfl, rfl, _, rfl, ?_⟩
  refine iteB (fun g => ?_) (fun g => ?_)
  · refine ⟨_, rfl, d, _, rfl, dget_left hd, _, rfl, _, _, rfl, rfl, b0, ?_⟩
    refine ⟨_, rfl, d, _, rfl, dget_left hd, _, rfl, _, _, rfl, rfl, hdv _, _, rfl, d, _, rfl, dput_left hd, _, rfl, ?_⟩
    exact fin l _ at' u _ (Exb.refl.upd) a0 (by omega) u0 (by omega) upd_same
  · have hl : 0 < cells.length := List.length_pos_iff.mpr hne
    refine ⟨_, rfl, d, _, rfl, dget_cells hd, _, rfl, _, rfl, d, _, rfl, dget_at hd, _, rfl, _, _, rfl, .inl ⟨_, hc, rfl⟩, _, _, rfl, rfl, ?_⟩
    have hlm : (cells.map V.int).length = cells.length := List.length_map ..
    rw [hlm]
    refine ⟨by omega, ?_⟩
    have mp : (at' % (cells.length : Int)).toNat < cells.length ∧ (((at' % (cells.length : Int)).toNat : Nat) : Int) = at' % (cells.length : Int) := by
      have h1 : 0 ≤ at' % (cells.length : Int) := Int.emod_nonneg _ (by omega)
      have h2 : at' % (cells.length : Int) < (cells.length : Int) := Int.emod_lt_of_pos _ (by omega)
      omega
    obtain ⟨cv, hcv⟩ : ∃ cv, atI (cells.map V.int) (at' % (cells.length : Int)) = some (.int cv) := by
      refine ⟨cells[(at' % (cells.length : Int)).toNat]'(mp.1), ?_⟩
      have h1 : ixN (cells.map V.int).length (at' % (cells.length : Int)) = some (at' % (cells.length : Int)).toNat := by
        have := mp.2
        have := mp.1
        unfold ixN
        rw [if_pos (by omega), if_pos (by rw [hlm]; omega)]
      unfold atI
      rw [h1]
      show (cells.map V.int)[(at' % (cells.length : Int)).toNat]? = _
      rw [List.getElem?_map, List.getElem?_eq_getElem mp.1]
      rfl
    refine ⟨c, _, _, _, rfl, rfl, hc, hcv, ?_⟩
    refine ⟨_, rfl, d, _, rfl, dget_at hd, _, _, rfl, rfl, _, rfl, d, _, rfl, dput_at hd, ?_⟩
    have hc1 : SqL K (upd H d (.dK (drawD c (at' + 1) l u))) c (cells.map V.int) := (Car.exb hd Exb.refl.upd).l hc
    have p1 : CPow 10 18 := ⟨by decide, by decide, by decide⟩
    refine ⟨_, rfl, _, _, rfl, rfl, p1, _, _, rfl, rfl, _, rfl, iteB (fun g1 => ⟨_, rfl, d, _, rfl, dget_at upd_same, _, rfl, _, _, rfl, .inl ⟨_, hc1, rfl⟩, _, _, rfl, rfl, _, rfl, iteB (fun g2 => ?_) (fun g2 => ?_)⟩) (fun g1 => iteF ?_)⟩
    · refine ⟨_, rfl, _, rfl, _, _, rfl, rfl, hdv _, _, rfl, d, _, rfl, dput_left upd_same, _, rfl, _, rfl, _, _, rfl, rfl, b0, ?_⟩
      exact fin cv _ (at' + 1) u _ (Exb.refl.upd.upd) (by omega) (by omega) u0 (by omega) upd_same
    all_goals
      refine ⟨_, rfl, d, _, rfl, dget_used upd_same, _, _, rfl, rfl, _, rfl, d, _, rfl, dput_used upd_same, ?_⟩
      refine ⟨_, rfl, _, rfl, d, _, rfl, dget_at upd_same, _, _, rfl, cv, _, rfl, rfl, by omega, by omega, fun r1 => ?_⟩
      refine ⟨_, rfl, d, _, rfl, dget_used upd_same, _, _, rfl, r1, _, rfl, rfl, by omega, by omega, fun r2 => ?_⟩
      refine ⟨_, rfl, _, _, rfl, rfl, b0, ?_⟩
      exact fin r2 _ (at' + 1) (u + 1) _ (Exb.refl.upd.upd) (by omega) (by omega) (by omega) (by omega) upd_same
theorem ok__law_next (T : Txt P K mg D) : CallG P w K mg base 2 D._law_next [] (spNext K) := by
  obtain ⟨fd, F, B⟩ := fb__law_next (w := w) (base := base) T
  exact B.pos sp2_len (F.binds (ps := ["draw", "bound"]) fun _ _ _ _ _ _ us hl => match us, hl with | [_, _], _ => rfl)
abbrev N__law_integer : List Str := ["draw", "great", "k"]
theorem sc__law_integer : FnScope N__law_integer ["draw"] (defScope s__law_integer) := ⟨rfl, rfl, rfl, by decide +kernel, rfl, by decide +kernel, by decide +kernel⟩
def spInteger (K : Frag) : Sp := sp1 fun x H Q _ => ∃ d n, x = .ref d ∧ DrawAt K H d n ∧ n < 2 ^ 49 ∧ ∀ r H', Bd 410 r → DrawAt K H' d (n + 10) → Exb d H H' → Q (.int r) H'
theorem fb__law_integer (T : Txt P K mg D) : ∃ fd, Fun K "_law_integer" "_law_integer" s__law_integer D._law_integer fd ∧ FnB P w K mg base 3 D._law_integer fd ["draw"] (spInteger K) := by
  obtain ⟨fd, F⟩ := T.f__law_integer
  refine ⟨fd, F, Fun_okB (k := 2) F sc__law_integer fun cdv A outer s H vs Q E hr hg h => ?_⟩
  have nd := sc__law_integer.nd
  obtain ⟨x, rfl, d, n, rfl, hD, hn, q⟩ := h
  refine ⟨_, (pss_cons (ps_set (i := 1) nd rfl (.inl rfl) (pe_op op_add pe_int (pe_callG (ok__law_next T) (hr.mono (by decide)) hg (takes_of rfl rfl rfl rfl) rfl T.g__law_next T.k__law_next (pa_cons (pv 0) (pa_cons pe_int pa_nil)))))
        (pss_cons (ps_for (passes_of rfl) rfl (pi_range1 rfl T.n_range (pa_cons (pe_callG (ok__law_next T) (hr.mono (by decide)) hg (takes_of rfl rfl rfl rfl) rfl T.g__law_next T.k__law_next (pa_cons (pv 0) (pa_cons pe_int pa_nil))) pa_nil)) (pg_name (i := 2) nd rfl (.inl rfl)) (pss_one (ps_set (i := 1) nd rfl (.inl rfl) (pe_op op_add (pe_op op_mulW (pv 1) (pe_op op_pow pe_int pe_int)) (pe_callG (ok__law_next T) (hr.mono (by decide)) hg (takes_of rfl rfl rfl rfl) rfl T.g__law_next T.k__law_next (pa_cons (pv 0) (pa_cons pe_int pa_nil)))))))
        (pss_one (ps_ret (pe_ix ix_list (pe_lst (pa_cons (pv 1) (pa_cons pe_int (pa_cons (pe_op op_sub pe_int (pv 1)) (pa_cons (pv 1) (pa_cons pe_int pa_nil)))))) (pe_callG (ok__law_next T) (hr.mono (by decide)) hg (takes_of rfl rfl rfl rfl) rfl T.g__law_next T.k__law_next (pa_cons (pv 0) (pa_cons pe_int pa_nil))) (fun _ _ => rfl)))))), ?_⟩
  refine ⟨_, rfl, _, _, rfl, d, n, 40, rfl, rfl, hD, by omega, by decide, by decide, fun r r0 r1 H1 D1 e1 => ⟨_, _, rfl, rfl, ?_⟩⟩
  refine ⟨_, rfl, _, _, rfl, d, _, 4, rfl, rfl, D1, by omega, by decide, by decide, fun m m0 m1 H2 D2 e2 => ⟨m, rfl, by omega, by omega, ?_⟩⟩
  have hm4 : m.toNat ≤ 3 := by omega
  refine for_range (lo := 0) (n := m.toNat) (fun i σ H' => ∃ g kv, σ = [some (.ref d), some (.int g), kv] ∧ Bd (10 + 131 * i) g ∧ DrawAt K H' d (n + 2 + i) ∧ Exb d H H') ⟨1 + r, none, rfl, by unfold Bd; omega, D2.mono (by omega), e1.trans e2⟩ ?_ ?_
  · rintro i σ H' hi ⟨g, kv, rfl, bg, D', e'⟩
    have p1 : CPow 10 39 := ⟨by decide, by decide, by decide⟩
    have b10 : Bd 130 (10 ^ (39 : Int).toNat) := by unfold Bd; decide
    have bm := bg.mul b10
    refine ⟨_, rfl, _, _, rfl, rfl, p1, _, _, rfl, rfl, wide_mul bg b10 (by omega) (by omega) (by omega), _, rfl, _, _, rfl, d, _, 1000, rfl, rfl, D', by omega, by decide, by decide, fun r' r0 r1 H3 D3 e3 => ⟨_, _, rfl, rfl, ?_⟩⟩
    refine ⟨_, _, rfl, ?_, D3.mono (by omega), e'.trans e3⟩
    have br : Bd 10 r' := by unfold Bd; omega
    exact (bm.add (br.mono (by omega))).mono (by omega)
  · rintro σ H' ⟨g, kv, rfl, bg, D', e'⟩
    refine ⟨_, rfl, _, rfl, _, _, rfl, rfl, _, rfl, sz5 (by show 5 ≤ 1000; decide), fun p hp => ?_⟩
    refine ⟨_, rfl, _, _, rfl, d, _, 5, rfl, rfl, D'.ex (Evl.Ex.new hp), by omega, by decide, by decide, fun r' r0 r1 H3 D3 e3 => ?_⟩
    obtain ⟨v, hv, hm⟩ := atI_mem (xs := [.int g, .int 0, .int (0 - g), .int g, .int 1]) r0 (by show r' < 5; exact r1)
    have bg' : Bd 410 g := bg.mono (by omega)
    obtain ⟨z, rfl, bz⟩ : ∃ z, v = .int z ∧ Bd 410 z := by
      simp only [List.mem_cons, List.not_mem_nil, or_false] at hm
      rcases hm with rfl | rfl | rfl | rfl | rfl
      · exact ⟨_, rfl, bg'⟩
      · exact ⟨_, rfl, Bd.mono (m := 1) (by unfold Bd; decide) (by decide)⟩
      · exact ⟨_, rfl, by rw [Int.zero_sub]; exact bg'.neg⟩
      · exact ⟨_, rfl, bg'⟩
      · exact ⟨_, rfl, Bd.mono (m := 1) (by unfold Bd; decide) (by decide)⟩
    exact ⟨p, _, r', _, rfl, rfl, ((D'.ex (Evl.Ex.new hp)).car e3).l (SqL.of upd_same), hv, q z H3 bz (D3.mono (by omega)) ((Exb.ex e' (Evl.Ex.new hp)).trans e3)⟩
theorem ok__law_integer (T : Txt P K mg D) : CallG P w K mg base 3 D._law_integer [] (spInteger K) := by
  obtain ⟨fd, F, B⟩ := fb__law_integer (w := w) (base := base) T
  exact B.pos sp1_len (F.binds (ps := ["draw"]) fun _ _ _ _ _ _ us hl => match us, hl with | [_], _ => rfl)
abbrev N__law_number : List Str := ["draw"]
theorem sc__law_number : FnScope N__law_number ["draw"] (defScope s__law_number) := ⟨rfl, rfl, rfl, by decide +kernel, rfl, by decide +kernel, by decide +kernel⟩
def spLNumber (K : Frag) : Sp := sp1 fun x H Q _ => ∃ d n, x = .ref d ∧ DrawAt K H d n ∧ n < 2 ^ 48 ∧ ∀ x p q H', NumAt K H' x p q → IsNum p q → Bd 410 p → Bd 410 q → DrawAt K H' d (n + 20) → Exb d H H' → Q x H'
theorem fb__law_number (T : Txt P K mg D) : ∃ fd, Fun K "_law_number" "_law_number" s__law_number D._law_number fd ∧ FnB P w K mg base 4 D._law_number fd ["draw"] (spLNumber K) := by
  obtain ⟨fd, F⟩ := T.f__law_number
  refine ⟨fd, F, Fun_okB (k := 3) F sc__law_number fun cdv A outer s H vs Q E hr hg h => ?_⟩
  have nd := sc__law_number.nd
  obtain ⟨x, rfl, d, n, rfl, hD, hn, q⟩ := h
  refine ⟨_, (pss_one (ps_ret (pe_callG (ok_number T) (hr.mono (by decide)) hg (takes_of rfl rfl rfl rfl) rfl T.g_number T.k_number (pa_cons (pe_callG (ok__law_integer T) (hr.mono (by decide)) hg (takes_of rfl rfl rfl rfl) rfl T.g__law_integer T.k__law_integer (pa_cons (pv 0) pa_nil)) (pa_cons (pe_callB (call_max2 rfl) rfl T.n_max (by decide +kernel) (pa_cons pe_int (pa_cons (pe_callG (ok__law_integer T) (hr.mono (by decide)) hg (takes_of rfl rfl rfl rfl) rfl T.g__law_integer T.k__law_integer (pa_cons (pv 0) pa_nil)) pa_nil))) pa_nil))))), ?_⟩
  refine ⟨_, rfl, _, rfl, d, n, rfl, hD, by omega, fun a H1 ba D1 e1 => ?_⟩
  refine ⟨_, rfl, _, rfl, d, _, rfl, D1, by omega, fun b H2 bb D2 e2 => ⟨_, _, rfl, ?_⟩⟩
  have hb : (if b > 1 then b else 1) ≠ 0 := by split <;> omega
  have bB : Bd 410 (if b > 1 then b else 1) := by
    split
    · exact bb
    · exact Bd.mono (m := 1) (by unfold Bd; decide) (by decide)
  refine ⟨_, _, rfl, .int a, .int (if b > 1 then b else 1), .int _, .int _, fun a' b' ea eb _ => ?_, fun hc => absurd (hc _ _ rfl rfl) hb⟩
  cases ea
  cases eb
  refine ⟨bB.mono (by decide), fun p H' hp e' hd => ?_⟩
  exact q (.ref p) _ _ H' (NumAt.new hd) (red_num hb) (ba.red1 hb) (bB.red2 hb) ((D2.ex e').mono (by omega)) ((e1.trans e2).ex e')
theorem ok__law_number (T : Txt P K mg D) : CallG P w K mg base 4 D._law_number [] (spLNumber K) := by
  obtain ⟨fd, F, B⟩ := fb__law_number (w := w) (base := base) T
  exact B.pos sp1_len (F.binds (ps := ["draw"]) fun _ _ _ _ _ _ us hl => match us, hl with | [_], _ => rfl)
abbrev N__law_same : List Str := ["found", "above", "below"]
theorem sc__law_same : FnScope N__law_same ["found", "above", "below"] (defScope s__law_same) := ⟨rfl, rfl, rfl, by decide +kernel, rfl, by decide +kernel, by decide +kernel⟩
def spSame (K : Frag) : Sp := sp3 fun x y z H Q _ => ∃ p q a b, NumAt K H x p q ∧ y = .int a ∧ z = .int b ∧ IsNum p q ∧ Bd 4000 p ∧ Bd 4000 q ∧ Bd 4000 a ∧ Bd 4000 b ∧ p * b = a * q ∧ ∀ H', Ex H H' → Q (.bl true) H'
theorem fb__law_same (T : Txt P K mg D) : ∃ fd, Fun K "_law_same" "_law_same" s__law_same D._law_same fd ∧ FnB P w K mg base 3 D._law_same fd ["found", "above", "below"] (spSame K) := by
  obtain ⟨fd, F⟩ := T.f__law_same
  refine ⟨fd, F, Fun_okB (k := 2) F sc__law_same fun cdv A outer s H vs Q E hr hg h => ?_⟩
  have nd := sc__law_same.nd
  obtain ⟨x, y, z, rfl, p, q, a, b, ⟨u, rfl, hu⟩, rfl, rfl, hi, b1, b2, b3, b4, hc, hq⟩ := h
  refine ⟨_, (pss_one (ps_ret (pe_and (pe_callG (ok_is_number T) (hr.mono (by decide)) hg (takes_of rfl rfl rfl rfl) rfl T.g_is_number T.k_is_number (pa_cons (pv 0) pa_nil)) (pe_one (pe_cmpR op_eq (pe_op op_mulW (pe_ix ix_tup (pv 0) pe_int (fun _ _ => rfl)) (pv 2)) (pe_op op_mulW (pv 1) (pe_ix ix_tup (pv 0) pe_int (fun _ _ => rfl))) (nomark _)))))), ?_⟩
  refine ⟨_, rfl, _, rfl, .tuple [.int p, .int q], (NumAt.d ⟨u, rfl, hu⟩), fun H1 e1 => ?_⟩
  refine ⟨_, rfl, iteB (fun _ => ?_) (fun c => absurd (decide_eq_true hi) (by rw [show decide (IsNum p q) = false from c]; simp))⟩
  have hu1 := (Car.ex e1).t hu
  refine ⟨_, rfl, _, _, _, _, rfl, rfl, hu1, rfl, _, rfl, _, _, rfl, rfl, b1.mulW b4, _, rfl, _, rfl, _, _, _, _, rfl, rfl, hu1, rfl, _, _, rfl, rfl, b3.mulW b2, ?_⟩
  refine ⟨rfl, ?_⟩
  show Q (.bl (decide (V.int (p * b) = V.int (a * q)))) H1
  rw [hc, decide_eq_true rfl]
  exact hq H1 e1
theorem ok__law_same (T : Txt P K mg D) : CallG P w K mg base 3 D._law_same [] (spSame K) := by
  obtain ⟨fd, F, B⟩ := fb__law_same (w := w) (base := base) T
  exact B.pos sp3_len (F.binds (ps := ["found", "above", "below"]) fun _ _ _ _ _ _ us hl => match us, hl with | [_, _, _], _ => rfl)
abbrev N__law_right : List Str := ["one", "other", "a", "b", "c", "d", "total", "rest", "due", "low", "named"]
theorem sc__law_right : FnScope N__law_right ["one", "other"] (defScope s__law_right) := ⟨rfl, rfl, rfl, by decide +kernel, rfl, by decide +kernel, by decide +kernel⟩
def spRight (K : Frag) : Sp := sp2 fun x y H Q _ => ∃ p q r s, NumAt K H x p q ∧ NumAt K H y r s ∧ IsNum p q ∧ IsNum r s ∧ Bd 410 p ∧ Bd 410 q ∧ Bd 410 r ∧ Bd 410 s ∧ ∀ H', Ex H H' → Q (.bl true) H'
theorem fb__law_right (T : Txt P K mg D) : ∃ fd, Fun K "_law_right" "_law_right" s__law_right D._law_right fd ∧ FnB P w K mg base 5 D._law_right fd ["one", "other"] (spRight K) := by
  obtain ⟨fd, F⟩ := T.f__law_right
  refine ⟨fd, F, Fun_okB (k := 4) F sc__law_right fun cdv A outer s H vs Q E hr hg h => ?_⟩
  have nd := sc__law_right.nd
  obtain ⟨x, y, rfl, p, q, r, s', ⟨a, rfl, ha⟩, ⟨b, rfl, hb⟩, i1, i2, b1, b2, b3, b4, hq⟩ := h
  refine ⟨_, (pss_cons (ps_asg (pe_tup (pa_cons (pe_ix ix_tup (pv 0) pe_int (fun _ _ => rfl)) (pa_cons (pe_ix ix_tup (pv 0) pe_int (fun _ _ => rfl)) (pa_cons (pe_ix ix_tup (pv 1) pe_int (fun _ _ => rfl)) (pa_cons (pe_ix ix_tup (pv 1) pe_int (fun _ _ => rfl)) pa_nil))))) (pg_tup rfl (pgs_cons (pg_name (i := 2) nd rfl (.inl rfl)) (pgs_cons (pg_name (i := 3) nd rfl (.inl rfl)) (pgs_cons (pg_name (i := 4) nd rfl (.inl rfl)) (pgs_cons (pg_name (i := 5) nd rfl (.inl rfl)) pgs_nil))))))
        (pss_cons (ps_par rfl nd (i := 6) (j := 7) rfl rfl (by decide) rfl rfl (pa_cons (pe_callG (ok_add T) (hr.mono (by decide)) hg (takes_of rfl rfl rfl rfl) rfl T.g_add T.k_add (pa_cons (pv 0) (pa_cons (pv 1) pa_nil))) (pa_cons (pe_callG (ok_subtract T) (hr.mono (by decide)) hg (takes_of rfl rfl rfl rfl) rfl T.g_subtract T.k_subtract (pa_cons (pv 0) (pa_cons (pv 1) pa_nil))) pa_nil)) (by rfl))
        (pss_cons (ps_if (PW.pt (pw_or (pt_not (pt_val (pe_callG (ok__law_same T) (hr.mono (by decide)) hg (takes_of rfl rfl rfl rfl) rfl T.g__law_same T.k__law_same (pa_cons (pv 6) (pa_cons (pe_op op_add (pe_op op_mulW (pv 2) (pv 5)) (pe_op op_mulW (pv 3) (pv 4))) (pa_cons (pe_op op_mulW (pv 3) (pv 5)) pa_nil)))))) (pw_or1 (pt_not (pt_val (pe_callG (ok__law_same T) (hr.mono (by decide)) hg (takes_of rfl rfl rfl rfl) rfl T.g__law_same T.k__law_same (pa_cons (pv 7) (pa_cons (pe_op op_sub (pe_op op_mulW (pv 2) (pv 5)) (pe_op op_mulW (pv 3) (pv 4))) (pa_cons (pe_op op_mulW (pv 3) (pv 5)) pa_nil))))))))) (pss_one (ps_ret pe_bl)) pss_nil)
        (pss_cons (ps_if (PW.pt (pw_or (pt_not (pt_val (pe_callG (ok__law_same T) (hr.mono (by decide)) hg (takes_of rfl rfl rfl rfl) rfl T.g__law_same T.k__law_same (pa_cons (pe_callG (ok_multiply T) (hr.mono (by decide)) hg (takes_of rfl rfl rfl rfl) rfl T.g_multiply T.k_multiply (pa_cons (pv 0) (pa_cons (pv 1) pa_nil))) (pa_cons (pe_op op_mulW (pv 2) (pv 4)) (pa_cons (pe_op op_mulW (pv 3) (pv 5)) pa_nil)))))) (pw_or1 (pt_cmpR (op_neD hr.units) (pe_callG (ok_subtract T) (hr.mono (by decide)) hg (takes_of rfl rfl rfl rfl) rfl T.g_subtract T.k_subtract (pa_cons (pv 6) (pa_cons (pv 1) pa_nil))) (pv 0) (nomark _))))) (pss_one (ps_ret pe_bl)) pss_nil)
        (pss_cons (ps_if (PW.pt (pw_and (pt_cmpR op_ne (pv 4) pe_int (nomark _)) (pw_and1 (pt_not (pt_val (pe_callG (ok__law_same T) (hr.mono (by decide)) hg (takes_of rfl rfl rfl rfl) rfl T.g__law_same T.k__law_same (pa_cons (pe_callG (ok_divide T) (hr.mono (by decide)) hg (takes_of rfl rfl rfl rfl) rfl T.g_divide T.k_divide (pa_cons (pv 0) (pa_cons (pv 1) pa_nil))) (pa_cons (pe_op op_mulW (pv 2) (pv 5)) (pa_cons (pe_op op_mulW (pv 3) (pv 4)) pa_nil))))))))) (pss_one (ps_ret pe_bl)) pss_nil)
        (pss_cons (ps_if (PW.pt (pw_and (pt_cmpR op_ne (pv 4) pe_int (nomark _)) (pw_and1 (pt_cmpR (op_neD hr.units) (pe_callG (ok_multiply T) (hr.mono (by decide)) hg (takes_of rfl rfl rfl rfl) rfl T.g_multiply T.k_multiply (pa_cons (pe_callG (ok_divide T) (hr.mono (by decide)) hg (takes_of rfl rfl rfl rfl) rfl T.g_divide T.k_divide (pa_cons (pv 0) (pa_cons (pv 1) pa_nil))) (pa_cons (pv 1) pa_nil))) (pv 0) (nomark _))))) (pss_one (ps_ret pe_bl)) pss_nil)
        (pss_cons (ps_set (i := 8) nd rfl (.inl rfl) (pe_ifExp (pt_cmpR op_eq (pe_op op_mulW (pv 2) (pv 5)) (pe_op op_mulW (pv 3) (pv 4)) (nomark _)) pe_int (pe_ifExp (pt_cmpR op_gt (pe_op op_mulW (pv 2) (pv 5)) (pe_op op_mulW (pv 3) (pv 4)) (nomark _)) pe_int (pe_op op_sub pe_int pe_int))))
        (pss_cons (ps_if (pt_cmpR op_ne (pe_callB (call_reprD hr hg) rfl T.n_repr (by decide +kernel) (pa_cons (pe_lst (pa_cons (pe_callG (ok_compare T) (hr.mono (by decide)) hg (takes_of rfl rfl rfl rfl) rfl T.g_compare T.k_compare (pa_cons (pv 0) (pa_cons (pv 1) pa_nil))) (pa_cons (pe_callG (ok_compare T) (hr.mono (by decide)) hg (takes_of rfl rfl rfl rfl) rfl T.g_compare T.k_compare (pa_cons (pv 1) (pa_cons (pv 0) pa_nil))) pa_nil))) pa_nil)) (pe_callB (call_reprD hr hg) rfl T.n_repr (by decide +kernel) (pa_cons (pe_lst (pa_cons (pv 8) (pa_cons (pe_op op_sub pe_int (pv 8)) pa_nil))) pa_nil)) (nomark _)) (pss_one (ps_ret pe_bl)) pss_nil)
        (pss_cons (ps_set (i := 9) nd rfl (.inl rfl) (pe_callG (ok_floor_of T) (hr.mono (by decide)) hg (takes_of rfl rfl rfl rfl) rfl T.g_floor_of T.k_floor_of (pa_cons (pv 0) pa_nil)))
        (pss_cons (ps_if (PW.pt (pw_or (pt_not (pt_val (pe_callB call_isD rfl T.n_isinstance (by decide +kernel) (pa_cons (pv 9) (pa_cons (pe_bltn (v := .ty "int") rfl T.n_int (by decide +kernel) rfl) pa_nil))))) (pw_or (pt_val (pe_callB call_isD rfl T.n_isinstance (by decide +kernel) (pa_cons (pv 9) (pa_cons (pe_bltn (v := .ty "bool") rfl T.n_bool (by decide +kernel) rfl) pa_nil)))) (pw_or1 (pt_not (pt_chain op_le op_lt (pe_op op_mulW (pv 9) (pv 3)) (pv 2) (pe_op op_mulW (pe_op op_add (pv 9) pe_int) (pv 3)))))))) (pss_one (ps_ret pe_bl)) pss_nil)
        (pss_cons (ps_set (i := 10) nd rfl (.inl rfl) (pe_lst (pa_cons (pe_callGK0 (ok_add_second_first T) (hr.mono (by decide)) hg (takes_of rfl rfl rfl rfl) rfl T.g_add T.k_add (pk_cons (pv 1) (pk_cons (pv 0) pk_nil))) (pa_cons (pe_callGK0 (ok_subtract_second_first T) (hr.mono (by decide)) hg (takes_of rfl rfl rfl rfl) rfl T.g_subtract T.k_subtract (pk_cons (pv 1) (pk_cons (pv 0) pk_nil))) (pa_cons (pe_callGK0 (ok_multiply_second_first T) (hr.mono (by decide)) hg (takes_of rfl rfl rfl rfl) rfl T.g_multiply T.k_multiply (pk_cons (pv 1) (pk_cons (pv 0) pk_nil))) pa_nil)))))
        (pss_cons (ps_if (PW.pt (pw_or (pt_cmpR (op_neD hr.units) (pv 10) (pe_lst (pa_cons (pv 6) (pa_cons (pv 7) (pa_cons (pe_callG (ok_multiply T) (hr.mono (by decide)) hg (takes_of rfl rfl rfl rfl) rfl T.g_multiply T.k_multiply (pa_cons (pv 0) (pa_cons (pv 1) pa_nil))) pa_nil)))) (nomark _)) (pw_or1 (pt_cmpR op_ne (pe_callGK0 (ok_floor_of_value T) (hr.mono (by decide)) hg (takes_of rfl rfl rfl rfl) rfl T.g_floor_of T.k_floor_of (pk_cons (pv 0) pk_nil)) (pv 9) (nomark _))))) (pss_one (ps_ret pe_bl)) pss_nil)
        (pss_one (ps_ret (pe_and (pe_cmpR op_eq (pe_callGK0 (ok_compare_second_first T) (hr.mono (by decide)) hg (takes_of rfl rfl rfl rfl) rfl T.g_compare T.k_compare (pk_cons (pv 1) (pk_cons (pv 0) pk_nil))) (pv 8) (nomark _)) (pe_one (pe_or (pe_cmpR op_eq (pv 4) pe_int (nomark _)) (pe_one (pe_cmpR (op_eqD hr.units) (pe_callGK0 (ok_divide_second_first T) (hr.mono (by decide)) hg (takes_of rfl rfl rfl rfl) rfl T.g_divide T.k_divide (pk_cons (pv 1) (pk_cons (pv 0) pk_nil))) (pe_callG (ok_divide T) (hr.mono (by decide)) hg (takes_of rfl rfl rfl rfl) rfl T.g_divide T.k_divide (pa_cons (pv 0) (pa_cons (pv 1) pa_nil))) (nomark _)))))))))))))))))))), ?_⟩
  have hx : NumAt K H (.ref a) p q := ⟨a, rfl, ha⟩
  have hy : NumAt K H (.ref b) r s' := ⟨b, rfl, hb⟩
  have NX : ∀ {G : Hp}, Ex H G → NumAt K G (.ref a) p q := fun e => hx.c (Car.ex e)
  have NY : ∀ {G : Hp}, Ex H G → NumAt K G (.ref b) r s' := fun e => hy.c (Car.ex e)
  have w4 : ∀ {i : Int}, Bd 410 i → Bd 4000 i := fun h => h.mono (by decide)
  have w8 : ∀ {i : Int}, Bd 821 i → Bd 4000 i := fun h => h.mono (by decide)
  have nqs : q * s' ≠ 0 := ne0_of i1 i2
  obtain ⟨t1, t2, hT, it, bt1, bt2, ct⟩ := red_all nqs (((b1.mul b4).add (b3.mul b2)) : Bd 821 (p * s' + r * q)) ((b2.mul b4).mono (by decide) : Bd 821 (q * s'))
  obtain ⟨u1, u2, hU, iu, bu1, bu2, cu⟩ := red_all nqs (((b1.mul b4).sub (b3.mul b2)) : Bd 821 (p * s' - r * q)) ((b2.mul b4).mono (by decide) : Bd 821 (q * s'))
  obtain ⟨m1, m2, hM, im, bm1, bm2, cm⟩ := red_all nqs ((b1.mul b3).mono (by decide) : Bd 821 (p * r)) ((b2.mul b4).mono (by decide) : Bd 821 (q * s'))
  have hS : red (t1 * s' - r * t2) (t2 * s') = (p, q) := red_eq (ne0_of it i2) i1 (by
    clear hT hU hM hx hy NX NY cu cm
    grind)
  have NUMT : ∀ {G G' : Hp} {z : Addr} {i j : Int}, G z = some (.tup [.int i, .int j]) → Ex G G' → NumAt K G' (.ref z) i j := fun h e => (NumAt.new h).c (Car.ex e)
  refine ⟨_, rfl, _, _, _, _, rfl, rfl, ha, rfl, _, rfl, _, _, _, _, rfl, rfl, ha, rfl, _, rfl, _, _, _, _, rfl, rfl, hb, rfl, _, rfl, _, _, _, _, rfl, rfl, hb, rfl,  sz5 (by simp), fun t h_t => ?_⟩
  have e1 := Evl.Ex.new (o := .tup [.int p, .int q, .int r, .int s']) h_t
  refine ⟨_, _, rfl, SqT.of upd_same, rfl, ?_⟩
  refine ⟨_, _, rfl, _, _, rfl, _, _, rfl, _, _, rfl, rfl, ?_⟩
  -- total, rest
  refine ⟨_, rfl, _, rfl, (bin_num (NX e1) (NY e1) i1 i2 (w4 b1) (w4 b2) (w4 b3) (w4 b4) (fun tp H2 htp x2 d2 => ?_) : spAdd K D.InvalidNumber [.ref a, .ref b] _ _ _)⟩
  rw [hT] at d2
  have e3 := e1.trans x2
  refine ⟨_, rfl, _, rfl, (bin_num (NX e3) (NY e3) i1 i2 (w4 b1) (w4 b2) (w4 b3) (w4 b4) (fun rp H4 hrp x4 d4 => ?_) : spSub K D.InvalidNumber [.ref a, .ref b] _ _ _)⟩
  rw [hU] at d4
  have e4 := e3.trans x4
  refine ⟨_, _, rfl, ?_⟩
  have NT : ∀ {G : Hp}, Ex H4 G → NumAt K G (.ref tp) t1 t2 := fun e => NUMT d2 (x4.trans e)
  have NU : ∀ {G : Hp}, Ex H4 G → NumAt K G (.ref rp) u1 u2 := fun e => NUMT d4 e
  -- same, same
  refine ⟨_, rfl, _, rfl, _, rfl, _, _, rfl, rfl, (b1.mulW b4), _, rfl, _, rfl, _, _, rfl, rfl, (b2.mulW b3), _, _, rfl, rfl, _, rfl, _, rfl, _, _, rfl, rfl, (b2.mulW b4), _, _, _, rfl, t1, t2, _, _, NT (Evl.Ex.refl _), rfl, rfl, it, w8 bt1, w8 bt2, w8 (((b1.mul b4).add (b2.mul b3))), w8 ((b2.mul b4).mono (by decide)), by rw [ct, Int.mul_comm r q], fun H5 e5 => ⟨_, rfl, iteF ?_⟩⟩
  refine ⟨_, rfl, _, rfl, _, rfl, _, _, rfl, rfl, (b1.mulW b4), _, rfl, _, rfl, _, _, rfl, rfl, (b2.mulW b3), _, _, rfl, rfl, _, rfl, _, rfl, _, _, rfl, rfl, (b2.mulW b4), _, _, _, rfl, u1, u2, _, _, NU e5, rfl, rfl, iu, w8 bu1, w8 bu2, w8 (((b1.mul b4).sub (b2.mul b3))), w8 ((b2.mul b4).mono (by decide)), by rw [cu, Int.mul_comm r q], fun H6 e6 => ⟨_, rfl, iteF ?_⟩⟩
  have g6 := e4.trans (e5.trans e6)
  have k6 := e5.trans e6
  -- product, total less other
  refine ⟨_, rfl, _, rfl, (bin_num (NX g6) (NY g6) i1 i2 (w4 b1) (w4 b2) (w4 b3) (w4 b4) (fun mp H7 hmp x7 d7 => ?_) : spMul K D.InvalidNumber [.ref a, .ref b] _ _ _)⟩
  rw [hM] at d7
  refine ⟨_, rfl, _, rfl, _, _, rfl, rfl, (b1.mulW b3), _, rfl, _, rfl, _, _, rfl, rfl, (b2.mulW b4), _, _, _, rfl, m1, m2, _, _, NumAt.new d7, rfl, rfl, im, w8 bm1, w8 bm2, w8 ((b1.mul b3).mono (by decide)), w8 ((b2.mul b4).mono (by decide)), cm, fun H8 e8 => ⟨_, rfl, iteF ?_⟩⟩
  have g8 := g6.trans (x7.trans e8)
  have k8 := k6.trans (x7.trans e8)
  refine ⟨_, rfl, _, rfl, (bin_num ((NT k8) ) ((NY g8) ) it i2 (w8 bt1) (w8 bt2) (w4 b3) (w4 b4) (fun sp H9 hsp x9 d9 => ?_) : spSub K D.InvalidNumber [.ref tp, .ref b] _ _ _)⟩
  rw [hS] at d9
  have g9 := g8.trans x9
  have k9 := k8.trans x9
  refine ⟨_, rfl, _, _, (NumAt.new d9).d, (NX g9).d, shaped_num _ _, shaped_num _ _, _, rfl, iteB (fun c => absurd c (by rw [eqv_num]; simp)) (fun _ => ?_)⟩
  clear d9 hS
  by_cases hr0 : r = 0
  · refine ⟨_, rfl, rfl, _, rfl, iteB (fun c => absurd c (by simp [hr0])) (fun _ => iteF ?_)⟩
    refine ⟨_, rfl, rfl, _, rfl, iteB (fun c => absurd c (by simp [hr0])) (fun _ => iteF ?_)⟩
    have g10 := g9
    have k10 := k9

    refine due_in rfl rfl rfl rfl (b1.mulW b4) (b2.mulW b3) ?_
    refine ⟨_, rfl, _, rfl, _, _, rfl, _, _, (NX g10).d, (NY g10).d, bin_no i1 i2, bin_yes (w4 b1) (w4 b2) (w4 b3) (w4 b4) (fun H14 e14 => ?_)⟩
    refine ⟨_, rfl, _, rfl, _, _, rfl, _, _, (NY (g10.trans e14)).d, (NX (g10.trans e14)).d, bin_no i2 i1, bin_yes (w4 b3) (w4 b4) (w4 b1) (w4 b2) (fun H15 e15 => ?_)⟩
    have g15 := g10.trans (e14.trans e15)
    have k15 := k10.trans (e14.trans e15)
    have gl : Gd 100 16000000 (.list [.int (sgn3 (p * s') (r * q)), .int (sgn3 (r * q) (p * s'))]) := (Gd.two (Gd.int ((sgn3_bd _ _).mono (by decide))) (Gd.int ((sgn3_bd _ _).mono (by decide)))).mono (by decide) (by decide)
    have gl' : Gd 100 16000000 (.list [.int (sgn3 (p * s') (r * q)), .int (0 - sgn3 (p * s') (r * q))]) := by
      rw [sgn3_neg (p * s') (r * q)] at gl
      exact gl
    refine ⟨sz5 (by simp), fun l h_l => ⟨_, _, rfl, Dp.lstN h_l (.cons (.int _) (.cons (.int _) .nil)), gl.s, gl.n, gl.p, gl.l, ?_⟩⟩
    refine ⟨_, rfl, _, rfl, _, _, rfl, rfl, sz5 (by simp), fun l2 h_l2 => ⟨_, _, rfl, Dp.lstN h_l2 (.cons (.int _) (.cons (.int _) .nil)), gl'.s, gl'.n, gl'.p, gl'.l, ?_⟩⟩
    refine ⟨rfl, _, rfl, iteB (fun c => absurd c (by rw [sgn3_neg (p * s') (r * q)]; simp)) (fun _ => ?_)⟩
    have x16 := (Evl.Ex.new (o := .lst [.int (sgn3 (p * s') (r * q)), .int (sgn3 (r * q) (p * s'))]) h_l).trans (Evl.Ex.new (o := .lst [.int (sgn3 (p * s') (r * q)), .int (0 - sgn3 (p * s') (r * q))]) h_l2)
    have g16 := g15.trans x16
    have k16 := k15.trans x16
    -- floor
    have hfl := fdiv_le (p := p) i1.1
    have bl : Bd 410 (p.fdiv q) := fdiv_bd i1.1 b1
    refine ⟨_, rfl, _, rfl, _, (NX g16).d, floor_no i1, floor_yes (b2.mono (by decide)) (fun H17 e17 => ?_)⟩
    have g17 := g16.trans e17
    have k17 := k16.trans e17
    refine ⟨_, rfl, _, _, .int _, _, rfl, .int _, kit_int _, _, rfl, iteF ?_⟩
    refine ⟨_, rfl, _, _, .int _, _, rfl, .int _, kit_bool _, _, rfl, iteF ?_⟩
    refine ⟨_, rfl, _, rfl, _, _, rfl, rfl, (bl.mulW b2), _, rfl, _, _, rfl, rfl, _, rfl, iteB (fun _ => ?_) (fun c => absurd hfl.1 (of_decide_eq_false c))⟩
    refine ⟨_, rfl, _, _, rfl, rfl, _, rfl, _, _, rfl, rfl, ((bl.add (j := 1) (Bd.mono (m := 1) (by unfold Bd; decide) (by decide)) : Bd 411 (p.fdiv q + 1)).mulW b2), _, _, rfl, rfl, _, rfl, iteB (fun c => absurd hfl.2 (by simpa using c)) (fun _ => ?_)⟩
    -- by names
    refine ⟨_, rfl, _, rfl, rfl, rfl, (bin_num (NX g17) (NY g17) i1 i2 (w4 b1) (w4 b2) (w4 b3) (w4 b4) (fun ap H18 hap x18 d18 => ?_) : spAdd K D.InvalidNumber [.ref a, .ref b] _ _ _)⟩
    rw [hT] at d18
    refine ⟨_, rfl, _, rfl, rfl, rfl, (bin_num (NX (g17.trans x18)) (NY (g17.trans x18)) i1 i2 (w4 b1) (w4 b2) (w4 b3) (w4 b4) (fun bp H19 hbp x19 d19 => ?_) : spSub K D.InvalidNumber [.ref a, .ref b] _ _ _)⟩
    rw [hU] at d19
    refine ⟨_, rfl, _, rfl, rfl, rfl, (bin_num (NX (g17.trans (x18.trans x19))) (NY (g17.trans (x18.trans x19))) i1 i2 (w4 b1) (w4 b2) (w4 b3) (w4 b4) (fun cp H20 hcp x20 d20 => ?_) : spMul K D.InvalidNumber [.ref a, .ref b] _ _ _)⟩
    rw [hM] at d20
    have na := (NUMT d18 (x19.trans x20)).d
    have nb := (NUMT d19 x20).d
    have nc := (NumAt.new (K := K) d20).d
    refine ⟨sz5 (by simp), fun nl h_nl => ?_⟩
    have x21 := (x18.trans (x19.trans x20)).trans (Evl.Ex.new (o := .lst [.ref ap, .ref bp, .ref cp]) h_nl)
    have g21 := g17.trans x21
    have k21 := k17.trans x21
    have dl := Dp.lstN (K := K) h_nl (.cons na (.cons nb (.cons nc .nil)))
    refine ⟨_, rfl, _, rfl, _, rfl, _, rfl, _, rfl, (bin_num (NX g21) (NY g21) i1 i2 (w4 b1) (w4 b2) (w4 b3) (w4 b4) (fun mp2 H22 hmp2 x22 d22 => ?_) : spMul K D.InvalidNumber [.ref a, .ref b] _ _ _)⟩
    rw [hM] at d22
    refine ⟨sz5 (by simp), fun nl2 h_nl2 => ?_⟩
    have x23 := x22.trans (Evl.Ex.new (o := .lst [.ref tp, .ref rp, .ref mp2]) h_nl2)
    have dl2 := Dp.lstN (K := K) h_nl2 (.cons ((NT (k21.trans x22)).d) (.cons ((NU (k21.trans x22)).d) (.cons (NumAt.new (K := K) d22).d .nil)))
    have eqt : PyData.eqv (.list [.tuple [.int t1, .int t2], .tuple [.int u1, .int u2], .tuple [.int m1, .int m2]]) (.list [.tuple [.int t1, .int t2], .tuple [.int u1, .int u2], .tuple [.int m1, .int m2]]) = true := by simp [PyData.eqv, PyData.eqvAll]
    have sht : SeqAt.shaped (.list [.tuple [.int t1, .int t2], .tuple [.int u1, .int u2], .tuple [.int m1, .int m2]]) = true := by simp [SeqAt.shaped, PyData.canLay0, PyData.canLayAll0, PyData.depth, PyData.depthAll]
    refine ⟨_, _, (Car.ex x23).d dl, dl2, sht, sht, _, rfl, iteB (fun c => absurd eqt (by simpa using c)) (fun _ => ?_)⟩
    clear dl dl2 na nb nc eqt sht d18 d19 d20 d22
    have g23 := g21.trans x23
    refine ⟨_, rfl, rfl, rfl, _, rfl, _, (NX g23).d, floor_no i1, floor_yes (b2.mono (by decide)) (fun H24 e24 => ?_)⟩
    refine ⟨_, rfl, rfl, _, rfl, iteB (fun c => absurd c (by simp)) (fun _ => ?_)⟩
    have g24 := g23.trans e24
    refine ⟨_, rfl, _, rfl, rfl, rfl, _, _, rfl, _, _, (NX g24).d, (NY g24).d, bin_no i1 i2, bin_yes (w4 b1) (w4 b2) (w4 b3) (w4 b4) (fun H25 e25 => ?_)⟩
    refine ⟨_, rfl, rfl, _, rfl, iteB (fun _ => ?_) (fun c => absurd c (by simp))⟩
    have g25 := g24.trans e25
    refine ⟨_, rfl, rfl, _, rfl, ?_⟩
    exact iteB (fun _ => hq _ g25) (fun c => absurd c (by simp [hr0]))
  · have nqr : q * r ≠ 0 := Int.mul_ne_zero (by have := i1.1; omega) hr0
    obtain ⟨v1, v2, hV, iv, bv1, bv2, cv⟩ := red_all nqr ((b1.mul b4).mono (by decide) : Bd 821 (p * s')) ((b2.mul b3).mono (by decide) : Bd 821 (q * r))
    have hW : red (v1 * r) (v2 * s') = (p, q) := red_eq (ne0_of iv i2) i1 (by
      clear hT hU hM hx hy NX NY cu cm
      grind)
    refine ⟨_, rfl, rfl, _, rfl, iteB (fun _ => ?_) (fun c => absurd (by simpa using c) hr0)⟩
    refine ⟨_, rfl, _, rfl, (bin_num (NX g9) (NY g9) i1 i2 (w4 b1) (w4 b2) (w4 b3) (w4 b4) ⟨fun z => absurd z hr0, fun _ => (fun dp H10 hdp x10 d10 => ?_)⟩ : spDiv K D.InvalidNumber [.ref a, .ref b] _ _ _)⟩
    rw [hV] at d10
    refine ⟨_, rfl, _, rfl, _, _, rfl, rfl, (b1.mulW b4), _, rfl, _, rfl, _, _, rfl, rfl, (b2.mulW b3), _, _, _, rfl, v1, v2, _, _, NumAt.new d10, rfl, rfl, iv, w8 bv1, w8 bv2, w8 ((b1.mul b4).mono (by decide)), w8 ((b2.mul b3).mono (by decide)), cv, fun H11 e11 => ⟨_, rfl, iteF ?_⟩⟩
    have g11 := g9.trans (x10.trans e11)
    have k11 := k9.trans (x10.trans e11)
    refine ⟨_, rfl, rfl, _, rfl, iteB (fun _ => ?_) (fun c => absurd (by simpa using c) hr0)⟩
    refine ⟨_, rfl, _, rfl, (bin_num (NX g11) (NY g11) i1 i2 (w4 b1) (w4 b2) (w4 b3) (w4 b4) ⟨fun z => absurd z hr0, fun _ => (fun dp2 H12 hdp2 x12 d12 => ?_)⟩ : spDiv K D.InvalidNumber [.ref a, .ref b] _ _ _)⟩
    rw [hV] at d12
    have g12 := g11.trans x12
    refine ⟨_, rfl, (bin_num (NumAt.new d12) (NY g12 ) iv i2 (w8 bv1) (w8 bv2) (w4 b3) (w4 b4) (fun qp H13 hqp x13 d13 => ?_) : spMul K D.InvalidNumber [.ref dp2, .ref b] _ _ _)⟩
    rw [hW] at d13
    have g10 := g12.trans x13
    have k10 := (k11.trans x12).trans x13
    refine ⟨_, rfl, _, _, (NumAt.new d13).d, (NX g10).d, shaped_num _ _, shaped_num _ _, _, rfl, iteB (fun c => absurd c (by rw [eqv_num]; simp)) (fun _ => ?_)⟩

    refine due_in rfl rfl rfl rfl (b1.mulW b4) (b2.mulW b3) ?_
    refine ⟨_, rfl, _, rfl, _, _, rfl, _, _, (NX g10).d, (NY g10).d, bin_no i1 i2, bin_yes (w4 b1) (w4 b2) (w4 b3) (w4 b4) (fun H14 e14 => ?_)⟩
    refine ⟨_, rfl, _, rfl, _, _, rfl, _, _, (NY (g10.trans e14)).d, (NX (g10.trans e14)).d, bin_no i2 i1, bin_yes (w4 b3) (w4 b4) (w4 b1) (w4 b2) (fun H15 e15 => ?_)⟩
    have g15 := g10.trans (e14.trans e15)
    have k15 := k10.trans (e14.trans e15)
    have gl : Gd 100 16000000 (.list [.int (sgn3 (p * s') (r * q)), .int (sgn3 (r * q) (p * s'))]) := (Gd.two (Gd.int ((sgn3_bd _ _).mono (by decide))) (Gd.int ((sgn3_bd _ _).mono (by decide)))).mono (by decide) (by decide)
    have gl' : Gd 100 16000000 (.list [.int (sgn3 (p * s') (r * q)), .int (0 - sgn3 (p * s') (r * q))]) := by
      rw [sgn3_neg (p * s') (r * q)] at gl
      exact gl
    refine ⟨sz5 (by simp), fun l h_l => ⟨_, _, rfl, Dp.lstN h_l (.cons (.int _) (.cons (.int _) .nil)), gl.s, gl.n, gl.p, gl.l, ?_⟩⟩
    refine ⟨_, rfl, _, rfl, _, _, rfl, rfl, sz5 (by simp), fun l2 h_l2 => ⟨_, _, rfl, Dp.lstN h_l2 (.cons (.int _) (.cons (.int _) .nil)), gl'.s, gl'.n, gl'.p, gl'.l, ?_⟩⟩
    refine ⟨rfl, _, rfl, iteB (fun c => absurd c (by rw [sgn3_neg (p * s') (r * q)]; simp)) (fun _ => ?_)⟩
    have x16 := (Evl.Ex.new (o := .lst [.int (sgn3 (p * s') (r * q)), .int (sgn3 (r * q) (p * s'))]) h_l).trans (Evl.Ex.new (o := .lst [.int (sgn3 (p * s') (r * q)), .int (0 - sgn3 (p * s') (r * q))]) h_l2)
    have g16 := g15.trans x16
    have k16 := k15.trans x16
    -- floor
    have hfl := fdiv_le (p := p) i1.1
    have bl : Bd 410 (p.fdiv q) := fdiv_bd i1.1 b1
    refine ⟨_, rfl, _, rfl, _, (NX g16).d, floor_no i1, floor_yes (b2.mono (by decide)) (fun H17 e17 => ?_)⟩
    have g17 := g16.trans e17
    have k17 := k16.trans e17
    refine ⟨_, rfl, _, _, .int _, _, rfl, .int _, kit_int _, _, rfl, iteF ?_⟩
    refine ⟨_, rfl, _, _, .int _, _, rfl, .int _, kit_bool _, _, rfl, iteF ?_⟩
    refine ⟨_, rfl, _, rfl, _, _, rfl, rfl, (bl.mulW b2), _, rfl, _, _, rfl, rfl, _, rfl, iteB (fun _ => ?_) (fun c => absurd hfl.1 (of_decide_eq_false c))⟩
    refine ⟨_, rfl, _, _, rfl, rfl, _, rfl, _, _, rfl, rfl, ((bl.add (j := 1) (Bd.mono (m := 1) (by unfold Bd; decide) (by decide)) : Bd 411 (p.fdiv q + 1)).mulW b2), _, _, rfl, rfl, _, rfl, iteB (fun c => absurd hfl.2 (by simpa using c)) (fun _ => ?_)⟩
    -- by names
    refine ⟨_, rfl, _, rfl, rfl, rfl, (bin_num (NX g17) (NY g17) i1 i2 (w4 b1) (w4 b2) (w4 b3) (w4 b4) (fun ap H18 hap x18 d18 => ?_) : spAdd K D.InvalidNumber [.ref a, .ref b] _ _ _)⟩
    rw [hT] at d18
    refine ⟨_, rfl, _, rfl, rfl, rfl, (bin_num (NX (g17.trans x18)) (NY (g17.trans x18)) i1 i2 (w4 b1) (w4 b2) (w4 b3) (w4 b4) (fun bp H19 hbp x19 d19 => ?_) : spSub K D.InvalidNumber [.ref a, .ref b] _ _ _)⟩
    rw [hU] at d19
    refine ⟨_, rfl, _, rfl, rfl, rfl, (bin_num (NX (g17.trans (x18.trans x19))) (NY (g17.trans (x18.trans x19))) i1 i2 (w4 b1) (w4 b2) (w4 b3) (w4 b4) (fun cp H20 hcp x20 d20 => ?_) : spMul K D.InvalidNumber [.ref a, .ref b] _ _ _)⟩
    rw [hM] at d20
    have na := (NUMT d18 (x19.trans x20)).d
    have nb := (NUMT d19 x20).d
    have nc := (NumAt.new (K := K) d20).d
    refine ⟨sz5 (by simp), fun nl h_nl => ?_⟩
    have x21 := (x18.trans (x19.trans x20)).trans (Evl.Ex.new (o := .lst [.ref ap, .ref bp, .ref cp]) h_nl)
    have g21 := g17.trans x21
    have k21 := k17.trans x21
    have dl := Dp.lstN (K := K) h_nl (.cons na (.cons nb (.cons nc .nil)))
    refine ⟨_, rfl, _, rfl, _, rfl, _, rfl, _, rfl, (bin_num (NX g21) (NY g21) i1 i2 (w4 b1) (w4 b2) (w4 b3) (w4 b4) (fun mp2 H22 hmp2 x22 d22 => ?_) : spMul K D.InvalidNumber [.ref a, .ref b] _ _ _)⟩
    rw [hM] at d22
    refine ⟨sz5 (by simp), fun nl2 h_nl2 => ?_⟩
    have x23 := x22.trans (Evl.Ex.new (o := .lst [.ref tp, .ref rp, .ref mp2]) h_nl2)
    have dl2 := Dp.lstN (K := K) h_nl2 (.cons ((NT (k21.trans x22)).d) (.cons ((NU (k21.trans x22)).d) (.cons (NumAt.new (K := K) d22).d .nil)))
    have eqt : PyData.eqv (.list [.tuple [.int t1, .int t2], .tuple [.int u1, .int u2], .tuple [.int m1, .int m2]]) (.list [.tuple [.int t1, .int t2], .tuple [.int u1, .int u2], .tuple [.int m1, .int m2]]) = true := by simp [PyData.eqv, PyData.eqvAll]
    have sht : SeqAt.shaped (.list [.tuple [.int t1, .int t2], .tuple [.int u1, .int u2], .tuple [.int m1, .int m2]]) = true := by simp [SeqAt.shaped, PyData.canLay0, PyData.canLayAll0, PyData.depth, PyData.depthAll]
    refine ⟨_, _, (Car.ex x23).d dl, dl2, sht, sht, _, rfl, iteB (fun c => absurd eqt (by simpa using c)) (fun _ => ?_)⟩
    clear dl dl2 na nb nc eqt sht d18 d19 d20 d22
    have g23 := g21.trans x23
    refine ⟨_, rfl, rfl, rfl, _, rfl, _, (NX g23).d, floor_no i1, floor_yes (b2.mono (by decide)) (fun H24 e24 => ?_)⟩
    refine ⟨_, rfl, rfl, _, rfl, iteB (fun c => absurd c (by simp)) (fun _ => ?_)⟩
    have g24 := g23.trans e24
    refine ⟨_, rfl, _, rfl, rfl, rfl, _, _, rfl, _, _, (NX g24).d, (NY g24).d, bin_no i1 i2, bin_yes (w4 b1) (w4 b2) (w4 b3) (w4 b4) (fun H25 e25 => ?_)⟩
    refine ⟨_, rfl, rfl, _, rfl, iteB (fun _ => ?_) (fun c => absurd c (by simp))⟩
    have g25 := g24.trans e25
    refine ⟨_, rfl, rfl, _, rfl, ?_⟩
    refine iteB (fun c => absurd (by simpa using c) hr0) (fun _ => ?_)
    refine ⟨_, rfl, _, rfl, rfl, rfl, (bin_num (NX g25) (NY g25) i1 i2 (w4 b1) (w4 b2) (w4 b3) (w4 b4) ⟨fun z => absurd z hr0, fun _ => (fun dp3 H26 hdp3 x26 d26 => ?_)⟩ : spDiv K D.InvalidNumber [.ref a, .ref b] _ _ _)⟩
    rw [hV] at d26
    have g26 := g25.trans x26
    refine ⟨_, rfl, _, rfl, (bin_num (NX g26) (NY g26) i1 i2 (w4 b1) (w4 b2) (w4 b3) (w4 b4) ⟨fun z => absurd z hr0, fun _ => (fun dp4 H27 hdp4 x27 d27 => ?_)⟩ : spDiv K D.InvalidNumber [.ref a, .ref b] _ _ _)⟩
    rw [hV] at d27
    refine ⟨_, _, (NUMT d26 x27).d, (NumAt.new d27).d, shaped_num _ _, shaped_num _ _, ?_⟩
    show Q (.bl (PyData.eqv (.tuple [.int v1, .int v2]) (.tuple [.int v1, .int v2]))) _
    rw [eqv_num, decide_eq_true rfl, decide_eq_true rfl]
    exact hq _ (g26.trans x27)
theorem ok__law_right (T : Txt P K mg D) : CallG P w K mg base 5 D._law_right [] (spRight K) := by
  obtain ⟨fd, F, B⟩ := fb__law_right (w := w) (base := base) T
  exact B.pos sp2_len (F.binds (ps := ["one", "other"]) fun _ _ _ _ _ _ us hl => match us, hl with | [_, _], _ => rfl)
abbrev N__law_done : List Str := ["way", "one", "other"]
theorem sc__law_done : FnScope N__law_done ["way", "one", "other"] (defScope s__law_done) := ⟨rfl, rfl, rfl, by decide +kernel, rfl, by decide +kernel, by decide +kernel⟩
def Refd (way : Int) (y z : V) (dx dy : PyData) (v : V) : Prop :=
  (0 ≤ way ∧ way < 5 ∧ fb [y, z] [dx, dy] = some v) ∨ (way = 5 ∧ isNumD dx = false ∧ v = y) ∨ (way = 3 ∧ v = z ∧ ∃ p q, dx = .tuple [.int p, .int q] ∧ IsNum p q ∧ Bd 4000 p ∧ Bd 4000 q ∧ dy = .tuple [.int 0, .int 1])
def spDone (K : Frag) (C : Addr) : Sp := sp3 fun x y z H Q E => ∃ way dx dy v, x = .int way ∧ Dp K H y dx ∧ Dp K H z dy ∧ Refd way y z dx dy v ∧ RErr H E C "thing" v
def spWord (K : Frag) : Sp := sp3 fun x y z H Q E => ∃ way dx dy v, x = .int way ∧ Dp K H y dx ∧ Dp K H z dy ∧ Refd way y z dx dy v ∧ ∀ p H', H p = none → Ex H H' → H' p = some (.lst [.str "number", v]) → Q (.ref p) H'
theorem fb__law_done (T : Txt P K mg D) : ∃ fd, Fun K "_law_done" "_law_done" s__law_done D._law_done fd ∧ FnB P w K mg base 5 D._law_done fd ["way", "one", "other"] (spDone K D.InvalidNumber) := by
  obtain ⟨fd, F⟩ := T.f__law_done
  refine ⟨fd, F, Fun_okB (k := 4) F sc__law_done fun cdv A outer s H vs Q E hr hg h => ?_⟩
  have nd := sc__law_done.nd
  obtain ⟨x, y, z, rfl, way, dx, dy, v, rfl, hy, hz, hr', hE⟩ := h
  refine ⟨_, (pss_cons (ps_if (pt_cmpR op_lt (pv 0) pe_int (nomark _)) (pss_one (ps_ret (pe_ifExp (pt_cmpR op_eq (pv 0) pe_int (nomark _)) (pe_callG (ok_add T) (hr.mono (by decide)) hg (takes_of rfl rfl rfl rfl) rfl T.g_add T.k_add (pa_cons (pv 1) (pa_cons (pv 2) pa_nil))) (pe_callG (ok_subtract T) (hr.mono (by decide)) hg (takes_of rfl rfl rfl rfl) rfl T.g_subtract T.k_subtract (pa_cons (pv 1) (pa_cons (pv 2) pa_nil)))))) pss_nil)
        (pss_cons (ps_if (pt_cmpR op_lt (pv 0) pe_int (nomark _)) (pss_one (ps_ret (pe_ifExp (pt_cmpR op_eq (pv 0) pe_int (nomark _)) (pe_callG (ok_multiply T) (hr.mono (by decide)) hg (takes_of rfl rfl rfl rfl) rfl T.g_multiply T.k_multiply (pa_cons (pv 1) (pa_cons (pv 2) pa_nil))) (pe_callG (ok_divide T) (hr.mono (by decide)) hg (takes_of rfl rfl rfl rfl) rfl T.g_divide T.k_divide (pa_cons (pv 1) (pa_cons (pv 2) pa_nil)))))) pss_nil)
        (pss_one (ps_ret (pe_ifExp (pt_cmpR op_eq (pv 0) pe_int (nomark _)) (pe_callG (ok_compare T) (hr.mono (by decide)) hg (takes_of rfl rfl rfl rfl) rfl T.g_compare T.k_compare (pa_cons (pv 1) (pa_cons (pv 2) pa_nil))) (pe_callG (ok_floor_of T) (hr.mono (by decide)) hg (takes_of rfl rfl rfl rfl) rfl T.g_floor_of T.k_floor_of (pa_cons (pv 1) pa_nil))))))), ?_⟩
  rcases hr' with ⟨w0, w1, hf⟩ | ⟨rfl, hn, rfl⟩ | ⟨rfl, rfl, p, q, rfl, i, b1, b2, rfl⟩
  · have hw : way = 0 ∨ way = 1 ∨ way = 2 ∨ way = 3 ∨ way = 4 := by omega
    rcases hw with rfl | rfl | rfl | rfl | rfl
    · exact ⟨_, rfl, _, _, rfl, rfl, _, rfl, iteT ⟨_, rfl, rfl, _, rfl, iteT ⟨_, rfl, _, rfl, (bin_ref hy hz hf hE : spAdd K D.InvalidNumber [y, z] H _ E)⟩⟩⟩
    · exact ⟨_, rfl, _, _, rfl, rfl, _, rfl, iteT ⟨_, rfl, rfl, _, rfl, iteF ⟨_, rfl, _, rfl, (bin_ref hy hz hf hE : spSub K D.InvalidNumber [y, z] H _ E)⟩⟩⟩
    · exact ⟨_, rfl, _, _, rfl, rfl, _, rfl, iteF ⟨_, rfl, _, _, rfl, rfl, _, rfl, iteT ⟨_, rfl, rfl, _, rfl, iteT ⟨_, rfl, _, rfl, (bin_ref hy hz hf hE : spMul K D.InvalidNumber [y, z] H _ E)⟩⟩⟩⟩
    · exact ⟨_, rfl, _, _, rfl, rfl, _, rfl, iteF ⟨_, rfl, _, _, rfl, rfl, _, rfl, iteT ⟨_, rfl, rfl, _, rfl, iteF ⟨_, rfl, _, rfl, (bin_ref hy hz hf hE : spDiv K D.InvalidNumber [y, z] H _ E)⟩⟩⟩⟩
    · exact ⟨_, rfl, _, _, rfl, rfl, _, rfl, iteF ⟨_, rfl, _, _, rfl, rfl, _, rfl, iteF ⟨_, rfl, rfl, _, rfl, iteT ⟨_, rfl, _, rfl, (bin_ref hy hz hf hE : spCmp K D.InvalidNumber [y, z] H _ E)⟩⟩⟩⟩
  · exact ⟨_, rfl, _, _, rfl, rfl, _, rfl, iteF ⟨_, rfl, _, _, rfl, rfl, _, rfl, iteF ⟨_, rfl, rfl, _, rfl, iteF ⟨_, rfl, _, rfl, dx, hy, fun _ => hE, fun p q e i => absurd hn (by rw [e, isNumD_is i]; simp)⟩⟩⟩⟩
  · exact ⟨_, rfl, _, _, rfl, rfl, _, rfl, iteF ⟨_, rfl, _, _, rfl, rfl, _, rfl, iteT ⟨_, rfl, rfl, _, rfl, iteF ⟨_, rfl, _, rfl, (bin_num (NumAt.of hy) (NumAt.of hz) i ⟨by decide, by decide⟩ b1 b2 (Bd.mono (m := 1) (by unfold Bd; decide) (by decide)) (Bd.mono (m := 1) (by unfold Bd; decide) (by decide)) ⟨fun _ => hE, fun z => absurd rfl z⟩ : spDiv K D.InvalidNumber [y, v] H _ E)⟩⟩⟩⟩
theorem ok__law_done (T : Txt P K mg D) : CallG P w K mg base 5 D._law_done [] (spDone K D.InvalidNumber) := by
  obtain ⟨fd, F, B⟩ := fb__law_done (w := w) (base := base) T
  exact B.pos sp3_len (F.binds (ps := ["way", "one", "other"]) fun _ _ _ _ _ _ us hl => match us, hl with | [_, _, _], _ => rfl)
abbrev N__law_word : List Str := ["way", "one", "other", "caught", "e"]
theorem sc__law_word : FnScope N__law_word ["way", "one", "other"] (defScope s__law_word) := ⟨rfl, rfl, rfl, by decide +kernel, rfl, by decide +kernel, by decide +kernel⟩
theorem fb__law_word (T : Txt P K mg D) : ∃ fd, Fun K "_law_word" "_law_word" s__law_word D._law_word fd ∧ FnB P w K mg base 6 D._law_word fd ["way", "one", "other"] (spWord K) := by
  obtain ⟨fd, F⟩ := T.f__law_word
  refine ⟨fd, F, Fun_okB (k := 5) F sc__law_word fun cdv A outer s H vs Q E hr hg h => ?_⟩
  have nd := sc__law_word.nd
  obtain ⟨x, y, z, rfl, way, dx, dy, v, rfl, hy, hz, hr', hq⟩ := h
  refine ⟨_, (pss_cons (ps_set (i := 3) nd rfl (.inl rfl) pe_non)
        (pss_cons (ps_try_caught (i := 4) (j := 3) rfl rfl nd rfl rfl rfl rfl ⟨rfl, by decide, .inl T.g_PaceError⟩ ⟨rfl, by decide, .inl T.g_StateError⟩ ⟨rfl, by decide, .inl T.g_MissingError⟩ (takes_of rfl rfl rfl rfl) (fun W pn xe tk' _ => (pss_one (ps_expr (pe_callG (ok__law_done T) (hr.mono (by decide)) hg tk' rfl T.g__law_done T.k__law_done (pa_cons (pv 0) (pa_cons (pv 1) (pa_cons (pv 2) pa_nil))))))))
        (pss_cons (ps_if (pt_cmpR op_isN (pv 3) pe_non (nomark _)) (pss_one (ps_ret (pe_lst (pa_cons pe_str pa_nil)))) pss_nil)
        (pss_one (ps_ret (pe_ifExp (pt_val (pe_callB call_isX rfl T.n_isinstance (by decide +kernel) (pa_cons (pv 3) (pa_cons (pe_glob (v := .ref D.InvalidNumber) rfl T.g_InvalidNumber rfl) pa_nil)))) (pe_lst (pa_cons pe_str (pa_cons (pe_xat (pv 3)) pa_nil))) (pe_lst (pa_cons pe_str pa_nil)))))))), ?_⟩
  refine ⟨_, rfl, _, rfl, _, rfl, _, _, _, rfl, way, dx, dy, v, rfl, hy, hz, hr', fun d H1 e1 hd => ⟨true, T.e_InvalidNumber, fun _ a ha => ?_, fun z => by cases z⟩⟩
  have hd' : upd H1 a (xV a (.ref D.InvalidNumber) (some d) false) d = some (.xd [("thing", v)]) := by rw [upd_ne (ne_of_none hd ha), hd]
  have ha' : upd H1 a (xV a (.ref D.InvalidNumber) (some d) false) a = some (xV a (.ref D.InvalidNumber) (some d) false) := upd_same
  have lk : List.lookup ("thing" : Str) [(("thing" : Str), v)] = some v := by kernel_rfl
  refine ⟨_, rfl, rfl, _, rfl, iteF ⟨_, rfl, a, _, d, _, _, _, _, _, rfl, .own _, ha', hd', T.t_InvalidNumber, T.i_InvalidNumber, _, rfl, iteT ⟨_, rfl, a, _, d, _, _, _, rfl, ha', hd', T.t_InvalidNumber, T.h_InvalidNumber, lk, sz5 (by show 2 ≤ 1000; decide), fun p hp => ?_⟩⟩⟩
  have e2 : Ex H (upd H1 a (xV a (.ref D.InvalidNumber) (some d) false)) := e1.trans (Evl.Ex.new ha)
  exact hq p _ (Evl.fresh_back e2 hp) (e2.trans (Evl.Ex.new hp)) upd_same
theorem ok__law_word (T : Txt P K mg D) : CallG P w K mg base 6 D._law_word [] (spWord K) := by
  obtain ⟨fd, F, B⟩ := fb__law_word (w := w) (base := base) T
  exact B.pos sp3_len (F.binds (ps := ["way", "one", "other"]) fun _ _ _ _ _ _ us hl => match us, hl with | [_, _, _], _ => rfl)
abbrev N__law_refused_right : List Str := ["draw", "one", "odd", "bad", "way"]
theorem sc__law_refused_right : FnScope N__law_refused_right ["draw", "one"] (defScope s__law_refused_right) := ⟨rfl, rfl, rfl, by decide +kernel, rfl, by decide +kernel, by decide +kernel⟩
theorem odd_ok : ∀ d ∈ ([.none, .bool true, .int 3, .str "1", .tuple [.int 1], .tuple [.int 2, .int 2], .tuple [.int 1, .int 0], .tuple [.int 1, .int (-1)], .list [.int 1, .int 1], .tuple [.int 1, .int 1, .int 1], .tuple [.bool true, .int 1], .tuple []] : List PyData), isNumD d = false ∧ Gd 2 100000 d := by
  intro d hd
  simp only [List.mem_cons, List.not_mem_nil, or_false] at hd
  rcases hd with rfl | rfl | rfl | rfl | rfl | rfl | rfl | rfl | rfl | rfl | rfl | rfl <;> exact ⟨by decide, by simp [PyData.showable, PyData.showableAll] <;> decide, by simp [PyData.hasDict, PyData.hasDictAll], by simp [PyData.depth, PyData.depthAll], by simp [wt, wtAll] <;> decide +kernel⟩
def spRefused (K : Frag) : Sp := sp2 fun x y H Q _ => ∃ d n p q, x = .ref d ∧ DrawAt K H d n ∧ n < 2 ^ 48 ∧ NumAt K H y p q ∧ IsNum p q ∧ Bd 410 p ∧ Bd 410 q ∧ ∀ H', DrawAt K H' d (n + 2) → Exb d H H' → Q (.bl true) H'
theorem fb__law_refused_right (T : Txt P K mg D) : ∃ fd, Fun K "_law_refused_right" "_law_refused_right" s__law_refused_right D._law_refused_right fd ∧ FnB P w K mg base 7 D._law_refused_right fd ["draw", "one"] (spRefused K) := by
  obtain ⟨fd, F⟩ := T.f__law_refused_right
  refine ⟨fd, F, Fun_okB (k := 6) F sc__law_refused_right fun cdv A outer s H vs Q E hr hg h => ?_⟩
  have nd := sc__law_refused_right.nd
  obtain ⟨x, y, rfl, d, n, p, q, rfl, hD, hn, hy, hi, b1, b2, hq⟩ := h
  refine ⟨_, (pss_cons (ps_set (i := 2) nd rfl (.inl rfl) (pe_ix ix_list (pe_lst (pa_cons pe_non (pa_cons pe_bl (pa_cons pe_int (pa_cons pe_str (pa_cons (pe_tup (pa_cons pe_int pa_nil)) (pa_cons (pe_tup (pa_cons pe_int (pa_cons pe_int pa_nil))) (pa_cons (pe_tup (pa_cons pe_int (pa_cons pe_int pa_nil))) (pa_cons (pe_tup (pa_cons pe_int (pa_cons (pe_un un_neg pe_int) pa_nil))) (pa_cons (pe_lst (pa_cons pe_int (pa_cons pe_int pa_nil))) (pa_cons (pe_tup (pa_cons pe_int (pa_cons pe_int (pa_cons pe_int pa_nil)))) (pa_cons (pe_tup (pa_cons pe_bl (pa_cons pe_int pa_nil))) (pa_cons (pe_tup pa_nil) pa_nil))))))))))))) (pe_callG (ok__law_next T) (hr.mono (by decide)) hg (takes_of rfl rfl rfl rfl) rfl T.g__law_next T.k__law_next (pa_cons (pv 0) (pa_cons pe_int pa_nil))) (fun _ _ => rfl)))
        (pss_cons (ps_set (i := 3) nd rfl (.inl rfl) (pe_ix ix_list (pe_lst (pa_cons pe_str (pa_cons (pe_tup (pa_cons pe_int (pa_cons pe_int pa_nil))) (pa_cons pe_non pa_nil)))) (pe_callG (ok__law_next T) (hr.mono (by decide)) hg (takes_of rfl rfl rfl rfl) rfl T.g__law_next T.k__law_next (pa_cons (pv 0) (pa_cons pe_int pa_nil))) (fun _ _ => rfl)))
        (pss_cons (ps_for (passes_of rfl) rfl (pi_range1 rfl T.n_range (pa_cons pe_int pa_nil)) (pg_name (i := 4) nd rfl (.inl rfl)) (pss_cons (ps_if (pt_cmpR op_ne (pe_callB (call_reprD hr hg) rfl T.n_repr (by decide +kernel) (pa_cons (pe_callG (ok__law_word T) (hr.mono (by decide)) hg (takes_of rfl rfl rfl rfl) rfl T.g__law_word T.k__law_word (pa_cons (pv 4) (pa_cons (pv 2) (pa_cons (pv 3) pa_nil)))) pa_nil)) (pe_callB (call_reprD hr hg) rfl T.n_repr (by decide +kernel) (pa_cons (pe_lst (pa_cons pe_str (pa_cons (pv 2) pa_nil))) pa_nil)) (nomark _)) (pss_one (ps_ret pe_bl)) pss_nil)
        (pss_one (ps_if (PW.pt (pw_and (pt_cmpR op_lt (pv 4) pe_int (nomark _)) (pw_and1 (pt_cmpR op_ne (pe_callB (call_reprD hr hg) rfl T.n_repr (by decide +kernel) (pa_cons (pe_callG (ok__law_word T) (hr.mono (by decide)) hg (takes_of rfl rfl rfl rfl) rfl T.g__law_word T.k__law_word (pa_cons (pv 4) (pa_cons (pv 1) (pa_cons (pv 2) pa_nil)))) pa_nil)) (pe_callB (call_reprD hr hg) rfl T.n_repr (by decide +kernel) (pa_cons (pe_lst (pa_cons pe_str (pa_cons (pv 2) pa_nil))) pa_nil)) (nomark _))))) (pss_one (ps_ret pe_bl)) pss_nil))))
        (pss_one (ps_ret (pe_and (pe_cmpR (op_eqD hr.units) (pe_callG (ok__law_word T) (hr.mono (by decide)) hg (takes_of rfl rfl rfl rfl) rfl T.g__law_word T.k__law_word (pa_cons pe_int (pa_cons (pv 1) (pa_cons (pe_tup (pa_cons pe_int (pa_cons pe_int pa_nil))) pa_nil)))) (pe_lst (pa_cons pe_str (pa_cons (pe_tup (pa_cons pe_int (pa_cons pe_int pa_nil))) pa_nil))) (nomark _)) (pe_one (pe_cmpR (op_eqD hr.units) (pe_callG (ok__law_word T) (hr.mono (by decide)) hg (takes_of rfl rfl rfl rfl) rfl T.g__law_word T.k__law_word (pa_cons pe_int (pa_cons (pe_tup (pa_cons pe_int (pa_cons pe_int pa_nil))) (pa_cons (pe_tup (pa_cons pe_int (pa_cons pe_int pa_nil))) pa_nil)))) (pe_lst (pa_cons pe_str (pa_cons (pe_tup (pa_cons pe_int (pa_cons pe_int pa_nil))) pa_nil))) (nomark _))))))))), ?_⟩
  refine ⟨sz5 (by show _ ≤ 1000; decide), fun a1 h_a1 => ?_⟩
  have d_a1 := Dp.tupN (K := K) h_a1 ((.cons (.int 1) .nil) : DpAll K _ ([.int 1] : List V) ([.int 1] : List PyData))
  refine ⟨sz5 (by show _ ≤ 1000; decide), fun a2 h_a2 => ?_⟩
  have d_a1 := Dp.new (HO.tup [.int 2, .int 2]) h_a2 d_a1
  have d_a2 := Dp.tupN (K := K) h_a2 ((.cons (.int 2) (.cons (.int 2) .nil)) : DpAll K _ ([.int 2, .int 2] : List V) ([.int 2, .int 2] : List PyData))
  refine ⟨sz5 (by show _ ≤ 1000; decide), fun a3 h_a3 => ?_⟩
  have d_a1 := Dp.new (HO.tup [.int 1, .int 0]) h_a3 d_a1
  have d_a2 := Dp.new (HO.tup [.int 1, .int 0]) h_a3 d_a2
  have d_a3 := Dp.tupN (K := K) h_a3 ((.cons (.int 1) (.cons (.int 0) .nil)) : DpAll K _ ([.int 1, .int 0] : List V) ([.int 1, .int 0] : List PyData))
  refine ⟨_, rfl, sz5 (by show _ ≤ 1000; decide), fun a4 h_a4 => ?_⟩
  have d_a1 := Dp.new (HO.tup [.int 1, .int (-1)]) h_a4 d_a1
  have d_a2 := Dp.new (HO.tup [.int 1, .int (-1)]) h_a4 d_a2
  have d_a3 := Dp.new (HO.tup [.int 1, .int (-1)]) h_a4 d_a3
  have d_a4 := Dp.tupN (K := K) h_a4 ((.cons (.int 1) (.cons (.int (-1)) .nil)) : DpAll K _ ([.int 1, .int (-1)] : List V) ([.int 1, .int (-1)] : List PyData))
  refine ⟨sz5 (by show _ ≤ 1000; decide), fun a5 h_a5 => ?_⟩
  have d_a1 := Dp.new (HO.lst [.int 1, .int 1]) h_a5 d_a1
  have d_a2 := Dp.new (HO.lst [.int 1, .int 1]) h_a5 d_a2
  have d_a3 := Dp.new (HO.lst [.int 1, .int 1]) h_a5 d_a3
  have d_a4 := Dp.new (HO.lst [.int 1, .int 1]) h_a5 d_a4
  have d_a5 := Dp.lstN (K := K) h_a5 ((.cons (.int 1) (.cons (.int 1) .nil)) : DpAll K _ ([.int 1, .int 1] : List V) ([.int 1, .int 1] : List PyData))
  refine ⟨sz5 (by show _ ≤ 1000; decide), fun a6 h_a6 => ?_⟩
  have d_a1 := Dp.new (HO.tup [.int 1, .int 1, .int 1]) h_a6 d_a1
  have d_a2 := Dp.new (HO.tup [.int 1, .int 1, .int 1]) h_a6 d_a2
  have d_a3 := Dp.new (HO.tup [.int 1, .int 1, .int 1]) h_a6 d_a3
  have d_a4 := Dp.new (HO.tup [.int 1, .int 1, .int 1]) h_a6 d_a4
  have d_a5 := Dp.new (HO.tup [.int 1, .int 1, .int 1]) h_a6 d_a5
  have d_a6 := Dp.tupN (K := K) h_a6 ((.cons (.int 1) (.cons (.int 1) (.cons (.int 1) .nil))) : DpAll K _ ([.int 1, .int 1, .int 1] : List V) ([.int 1, .int 1, .int 1] : List PyData))
  refine ⟨sz5 (by show _ ≤ 1000; decide), fun a7 h_a7 => ?_⟩
  have d_a1 := Dp.new (HO.tup [.bl true, .int 1]) h_a7 d_a1
  have d_a2 := Dp.new (HO.tup [.bl true, .int 1]) h_a7 d_a2
  have d_a3 := Dp.new (HO.tup [.bl true, .int 1]) h_a7 d_a3
  have d_a4 := Dp.new (HO.tup [.bl true, .int 1]) h_a7 d_a4
  have d_a5 := Dp.new (HO.tup [.bl true, .int 1]) h_a7 d_a5
  have d_a6 := Dp.new (HO.tup [.bl true, .int 1]) h_a7 d_a6
  have d_a7 := Dp.tupN (K := K) h_a7 ((.cons (.bl true) (.cons (.int 1) .nil)) : DpAll K _ ([.bl true, .int 1] : List V) ([.bool true, .int 1] : List PyData))
  refine ⟨sz5 (by show _ ≤ 1000; decide), fun a8 h_a8 => ?_⟩
  have d_a1 := Dp.new (HO.tup []) h_a8 d_a1
  have d_a2 := Dp.new (HO.tup []) h_a8 d_a2
  have d_a3 := Dp.new (HO.tup []) h_a8 d_a3
  have d_a4 := Dp.new (HO.tup []) h_a8 d_a4
  have d_a5 := Dp.new (HO.tup []) h_a8 d_a5
  have d_a6 := Dp.new (HO.tup []) h_a8 d_a6
  have d_a7 := Dp.new (HO.tup []) h_a8 d_a7
  have d_a8 := Dp.tupN (K := K) h_a8 (.nil : DpAll K _ ([] : List V) ([] : List PyData))
  refine ⟨sz5 (by show 12 ≤ 1000; decide), fun l h_l => ?_⟩
  have d_a1 := Dp.new (.lst [.non, .bl true, .int 3, .str "1", .ref a1, .ref a2, .ref a3, .ref a4, .ref a5, .ref a6, .ref a7, .ref a8]) h_l d_a1
  have d_a2 := Dp.new (.lst [.non, .bl true, .int 3, .str "1", .ref a1, .ref a2, .ref a3, .ref a4, .ref a5, .ref a6, .ref a7, .ref a8]) h_l d_a2
  have d_a3 := Dp.new (.lst [.non, .bl true, .int 3, .str "1", .ref a1, .ref a2, .ref a3, .ref a4, .ref a5, .ref a6, .ref a7, .ref a8]) h_l d_a3
  have d_a4 := Dp.new (.lst [.non, .bl true, .int 3, .str "1", .ref a1, .ref a2, .ref a3, .ref a4, .ref a5, .ref a6, .ref a7, .ref a8]) h_l d_a4
  have d_a5 := Dp.new (.lst [.non, .bl true, .int 3, .str "1", .ref a1, .ref a2, .ref a3, .ref a4, .ref a5, .ref a6, .ref a7, .ref a8]) h_l d_a5
  have d_a6 := Dp.new (.lst [.non, .bl true, .int 3, .str "1", .ref a1, .ref a2, .ref a3, .ref a4, .ref a5, .ref a6, .ref a7, .ref a8]) h_l d_a6
  have d_a7 := Dp.new (.lst [.non, .bl true, .int 3, .str "1", .ref a1, .ref a2, .ref a3, .ref a4, .ref a5, .ref a6, .ref a7, .ref a8]) h_l d_a7
  have d_a8 := Dp.new (.lst [.non, .bl true, .int 3, .str "1", .ref a1, .ref a2, .ref a3, .ref a4, .ref a5, .ref a6, .ref a7, .ref a8]) h_l d_a8
  have dl : DpAll K _ ([.non, .bl true, .int 3, .str "1", .ref a1, .ref a2, .ref a3, .ref a4, .ref a5, .ref a6, .ref a7, .ref a8] : List V) ([.none, .bool true, .int 3, .str "1", .tuple [.int 1], .tuple [.int 2, .int 2], .tuple [.int 1, .int 0], .tuple [.int 1, .int (-1)], .list [.int 1, .int 1], .tuple [.int 1, .int 1, .int 1], .tuple [.bool true, .int 1], .tuple []] : List PyData) := (.cons .non (.cons (.bl true) (.cons (.int 3) (.cons (.str "1") (.cons d_a1 (.cons d_a2 (.cons d_a3 (.cons d_a4 (.cons d_a5 (.cons d_a6 (.cons d_a7 (.cons d_a8 .nil))))))))))))
  refine ⟨_, rfl, _, _, rfl, d, n, 12, rfl, rfl, hD.ex ((Evl.Ex.new h_a1).trans ((Evl.Ex.new h_a2).trans ((Evl.Ex.new h_a3).trans ((Evl.Ex.new h_a4).trans ((Evl.Ex.new h_a5).trans ((Evl.Ex.new h_a6).trans ((Evl.Ex.new h_a7).trans ((Evl.Ex.new h_a8).trans ((Evl.Ex.new h_l)))))))))), by omega, by decide, by decide, fun r r0 r1 H1 D1 e1 => ?_⟩
  have c1 := (hD.ex ((Evl.Ex.new h_a1).trans ((Evl.Ex.new h_a2).trans ((Evl.Ex.new h_a3).trans ((Evl.Ex.new h_a4).trans ((Evl.Ex.new h_a5).trans ((Evl.Ex.new h_a6).trans ((Evl.Ex.new h_a7).trans ((Evl.Ex.new h_a8).trans ((Evl.Ex.new h_l))))))))))).car e1
  have e1' : Exb d H H1 := (Exb.of ((Evl.Ex.new h_a1).trans ((Evl.Ex.new h_a2).trans ((Evl.Ex.new h_a3).trans ((Evl.Ex.new h_a4).trans ((Evl.Ex.new h_a5).trans ((Evl.Ex.new h_a6).trans ((Evl.Ex.new h_a7).trans ((Evl.Ex.new h_a8).trans ((Evl.Ex.new h_l))))))))))).trans e1
  obtain ⟨x, od, hx, hdx, hno, hgd⟩ := pick (c1.ds dl) r0 r1 odd_ok
  refine ⟨l, _, r, x, rfl, rfl, c1.l (SqL.of upd_same), hx, ?_⟩
  clear dl d_a1 d_a2 d_a3 d_a4 d_a5 d_a6 d_a7 d_a8 c1 e1
  refine ⟨sz5 (by show 2 ≤ 1000; decide), fun t h_t => ⟨sz5 (by show 3 ≤ 1000; decide), fun l2 h_l2 => ?_⟩⟩
  have eb := (Evl.Ex.new (o := .tup [.int 0, .int 2]) h_t).trans (Evl.Ex.new (o := .lst [.str "x", .ref t, .non]) h_l2)
  refine ⟨_, rfl, _, _, rfl, d, _, 3, rfl, rfl, D1.ex eb, by omega, by decide, by decide, fun r' r0' r1' H2 D2 e2 => ?_⟩
  have c2 := (D1.ex eb).car e2
  have e2' : Exb d H H2 := (e1'.ex eb).trans e2
  have dt := Dp.new (.lst [.str "x", .ref t, .non]) h_l2 (Dp.tupN (K := K) h_t ((.cons (.int 0) (.cons (.int 2) .nil)) : DpAll K _ ([.int 0, .int 2] : List V) ([.int 0, .int 2] : List PyData)))
  have dl2 : DpAll K _ ([.str "x", .ref t, .non] : List V) ([.str "x", .tuple [.int 0, .int 2], .none] : List PyData) := .cons (.str _) (.cons dt (.cons .non .nil))
  obtain ⟨z, bd, hz, hdz, _⟩ := pick (Pd := fun _ => True) (c2.ds dl2) r0' r1' (fun _ _ => trivial)
  refine ⟨l2, _, r', z, rfl, rfl, c2.l (SqL.of upd_same), hz, ?_⟩
  replace hdx : Dp K H2 x od := c2.d ((Car.ex eb).d hdx)
  replace hy : NumAt K H2 y p q := hy.c (hD.car e2')
  clear dl2 c2 e2 eb D1
  have go : Gd 100 16000000 (.list [.str "number", od]) := (Gd.number (by decide) hgd).mono (by decide) (by decide)
  have fb1 : ∀ v, fb [x, v] [od, bd] = some x := fun v => by simp [fb, hno]
  refine ⟨6, rfl, by decide, by decide, for_range (lo := 0) (n := 6) (fun i σ H' => ∃ kv, σ = [some (.ref d), some y, some x, some z, kv] ∧ Ex H2 H') ⟨none, rfl, Evl.Ex.refl _⟩ ?_ ?_⟩
  · rintro i σ H3 hi' ⟨kv, rfl, e3⟩
    have dx3 := (Car.ex e3).d hdx
    have dz3 := (Car.ex e3).d hdz
    refine ⟨_, rfl, _, rfl, _, rfl, _, _, _, rfl, (0 : Int) + (i : Nat), od, bd, x, rfl, dx3, dz3, ?_, fun w H4 hw e4 h4 => ?_⟩
    · by_cases h5 : i < 5
      · exact .inl ⟨by omega, by omega, fb1 _⟩
      · exact .inr (.inl ⟨by omega, hno, rfl⟩)
    have dx4 := (Car.ex e4).d dx3
    refine ⟨_, _, rfl, .lst (SqL.of h4) (.cons (.str _) (.cons dx4 .nil)), go.s, go.n, go.p, go.l, ?_⟩
    refine ⟨_, rfl, sz5 (by show 2 ≤ 1000; decide), fun w2 hw2 => ?_⟩
    have e5 := Evl.Ex.new (o := .lst [.str "number", x]) hw2
    have dx5 := (Car.ex e5).d dx4
    refine ⟨_, _, rfl, .lst (SqL.of upd_same) (.cons (.str _) (.cons dx5 .nil)), go.s, go.n, go.p, go.l, ?_⟩
    refine ⟨rfl, _, rfl, ?_⟩
    refine iteB (fun c => absurd c (by simp)) (fun _ => ?_)
    have e35 := (e3.trans e4).trans e5
    refine ⟨_, rfl, _, _, rfl, rfl, _, rfl, iteB (fun c5 => ?_) (fun _ => iteF ⟨_, rfl, e35⟩)⟩
    have h5 : (0 : Int) + (i : Nat) < 5 := of_decide_eq_true c5
    have fb2 : fb [y, x] [.tuple [.int p, .int q], od] = some x := by simp [fb, isNumD_is hi, hno]
    refine ⟨_, rfl, _, rfl, _, rfl, _, _, _, rfl, (0 : Int) + (i : Nat), _, od, x, rfl, (hy.c (Car.ex e35)).d, dx5, .inl ⟨by omega, h5, fb2⟩, fun w3 H6 hw3 e6 h6 => ?_⟩
    have dx6 := (Car.ex e6).d dx5
    refine ⟨_, _, rfl, .lst (SqL.of h6) (.cons (.str _) (.cons dx6 .nil)), go.s, go.n, go.p, go.l, ?_⟩
    refine ⟨_, rfl, sz5 (by show 2 ≤ 1000; decide), fun w4 hw4 => ?_⟩
    have e7 := Evl.Ex.new (o := .lst [.str "number", x]) hw4
    have dx7 := (Car.ex e7).d dx6
    refine ⟨_, _, rfl, .lst (SqL.of upd_same) (.cons (.str _) (.cons dx7 .nil)), go.s, go.n, go.p, go.l, ?_⟩
    refine ⟨rfl, _, rfl, ?_⟩
    exact iteB (fun c => absurd c (by simp)) (fun _ => ⟨_, rfl, (e35.trans e6).trans e7⟩)
  · rintro σ H3 ⟨kv, rfl, e3⟩
    have hEq : PyData.eqv (.list [.str "number", .tuple [.int 0, .int 1]]) (.list [.str "number", .tuple [.int 0, .int 1]]) = true := by decide +kernel
    have hSh : SeqAt.shaped (.list [.str "number", .tuple [.int 0, .int 1]]) = true := by simp [SeqAt.shaped, PyData.canLay0, PyData.canLayAll0, PyData.depth, PyData.depthAll] <;> decide +kernel
    have zz : ∀ {G : Hp} {a : Addr}, G a = none → Dp K (upd G a (.tup [.int 0, .int 1])) (.ref a) (.tuple [.int 0, .int 1]) := fun h => Dp.tupN h (.cons (.int 0) (.cons (.int 1) .nil))
    refine ⟨_, rfl, sz5 (by show 2 ≤ 1000; decide), fun t1 h1 => ?_⟩
    have e4 := e3.trans (Evl.Ex.new (o := .tup [.int 0, .int 1]) h1)
    refine ⟨_, _, _, rfl, 3, _, _, _, rfl, (hy.c (Car.ex e4)).d, zz h1, .inr (.inr ⟨rfl, rfl, p, q, rfl, hi, b1.mono (by decide), b2.mono (by decide), rfl⟩), fun w H5 hw e5 h5 => ?_⟩
    refine ⟨sz5 (by show 2 ≤ 1000; decide), fun t2 h2 => ⟨sz5 (by show 2 ≤ 1000; decide), fun w2 hw2 => ?_⟩⟩
    have x2 := Evl.Ex.new (o := .tup [.int 0, .int 1]) h2
    have x3 := Evl.Ex.new (o := .lst [.str "number", .ref t2]) hw2
    have z1 := (Car.ex (e5.trans (x2.trans x3))).d (zz h1)
    have l1 := Dp.lst (SqL.of ((x2.trans x3) _ _ h5)) (.cons (.str _) (.cons z1 .nil))
    have z2 := (Car.ex x3).d (zz h2)
    have l2' := Dp.lst (K := K) (SqL.of upd_same) (.cons (.str "number") (.cons z2 .nil))
    refine ⟨_, _, l1, l2', hSh, hSh, _, rfl, iteB (fun _ => ?_) (fun c => absurd hEq (by rw [c]; simp))⟩
    clear l1 l2' z1 z2
    have e6 := e4.trans (e5.trans (x2.trans x3))
    refine ⟨sz5 (by show 2 ≤ 1000; decide), fun t3 h3 => ⟨sz5 (by show 2 ≤ 1000; decide), fun t4 h4 => ?_⟩⟩
    have x4 := Evl.Ex.new (o := .tup [.int 0, .int 1]) h3
    have x5 := Evl.Ex.new (o := .tup [.int 0, .int 1]) h4
    refine ⟨_, _, _, rfl, 3, _, _, _, rfl, (Car.ex x5).d (zz h3), zz h4, .inr (.inr ⟨rfl, rfl, 0, 1, rfl, ⟨by decide, by decide⟩, Bd.mono (m := 1) (by unfold Bd; decide) (by decide), Bd.mono (m := 1) (by unfold Bd; decide) (by decide), rfl⟩), fun w3 H7 hw3 e7 h7 => ?_⟩
    refine ⟨sz5 (by show 2 ≤ 1000; decide), fun t6 h6 => ⟨sz5 (by show 2 ≤ 1000; decide), fun w6 hw6 => ?_⟩⟩
    have y2 := Evl.Ex.new (o := .tup [.int 0, .int 1]) h6
    have y3 := Evl.Ex.new (o := .lst [.str "number", .ref t6]) hw6
    have z1 := (Car.ex (e7.trans (y2.trans y3))).d (zz h4)
    have l1 := Dp.lst (SqL.of ((y2.trans y3) _ _ h7)) (.cons (.str _) (.cons z1 .nil))
    have z2 := (Car.ex y3).d (zz h6)
    have l2' := Dp.lst (K := K) (SqL.of upd_same) (.cons (.str "number") (.cons z2 .nil))
    refine ⟨_, _, l1, l2', hSh, hSh, ?_⟩
    show Q (.bl (PyData.eqv (.list [.str "number", .tuple [.int 0, .int 1]]) (.list [.str "number", .tuple [.int 0, .int 1]]))) _
    rw [hEq]
    have e8 := e6.trans ((x4.trans x5).trans (e7.trans (y2.trans y3)))
    exact hq _ (D2.ex e8) (e2'.ex e8)
theorem ok__law_refused_right (T : Txt P K mg D) : CallG P w K mg base 7 D._law_refused_right [] (spRefused K) := by
  obtain ⟨fd, F, B⟩ := fb__law_refused_right (w := w) (base := base) T
  exact B.pos sp2_len (F.binds (ps := ["draw", "one"]) fun _ _ _ _ _ _ us hl => match us, hl with | [_, _], _ => rfl)
abbrev N_law : List Str := ["script", "draw", "turn", "one", "other", "stays"]
theorem sc_law : FnScope N_law ["script"] (defScope s_law) := ⟨rfl, rfl, rfl, by decide +kernel, rfl, by decide +kernel, by decide +kernel⟩
def spLaw (K : Frag) : Sp := sp1 fun x H Q _ => ∃ (a : Addr) (ns : List Int), x = .ref a ∧ SqL K H a (ns.map V.int) ∧ ns.length ≤ 63 ∧ ∀ H', Q (.bl true) H'
theorem fb_law (T : Txt P K mg D) : ∃ fd, Fun K "law" "law" s_law D.law fd ∧ FnB P w K mg base 8 D.law fd ["script"] (spLaw K) := by
  obtain ⟨fd, F⟩ := T.f_law
  refine ⟨fd, F, Fun_okB (k := 7) F sc_law fun cdv A outer s H vs Q E hr hg h => ?_⟩
  have nd := sc_law.nd
  obtain ⟨x, rfl, a, ns, rfl, hs, hl, hq⟩ := h
  refine ⟨_, (pss_cons (ps_set (i := 1) nd rfl (.inl rfl) (pe_callG (ok__law_begin T) (hr.mono (by decide)) hg (takes_of rfl rfl rfl rfl) rfl T.g__law_begin T.k__law_begin (pa_cons (pv 0) pa_nil)))
        (pss_cons (ps_for (passes_of rfl) rfl (pi_range1 rfl T.n_range (pa_cons (pe_callB (call_min2 rfl) rfl T.n_min (by decide +kernel) (pa_cons pe_int (pa_cons (pe_op op_add pe_int (pe_callB call_len rfl T.n_len (by decide +kernel) (pa_cons (pv 0) pa_nil))) pa_nil))) pa_nil)) (pg_name (i := 2) nd rfl (.inl rfl)) (pss_cons (ps_par rfl nd (i := 3) (j := 4) rfl rfl (by decide) rfl rfl (pa_cons (pe_callG (ok__law_number T) (hr.mono (by decide)) hg (takes_of rfl rfl rfl rfl) rfl T.g__law_number T.k__law_number (pa_cons (pv 1) pa_nil)) (pa_cons (pe_callG (ok__law_number T) (hr.mono (by decide)) hg (takes_of rfl rfl rfl rfl) rfl T.g__law_number T.k__law_number (pa_cons (pv 1) pa_nil)) pa_nil)) (by rfl))
        (pss_cons (ps_if (pt_cmpR op_eq (pe_callG (ok__law_next T) (hr.mono (by decide)) hg (takes_of rfl rfl rfl rfl) rfl T.g__law_next T.k__law_next (pa_cons (pv 1) (pa_cons pe_int pa_nil))) pe_int (nomark _)) (pss_one (ps_set (i := 4) nd rfl (.inl rfl) (pv 3))) pss_nil)
        (pss_cons (ps_set (i := 5) nd rfl (.inl rfl) (pe_callB (call_reprD hr hg) rfl T.n_repr (by decide +kernel) (pa_cons (pe_lst (pa_cons (pv 3) (pa_cons (pv 4) pa_nil))) pa_nil)))
        (pss_cons (ps_if (PW.pt (pw_or (pt_not (pt_val (pe_callG (ok__law_right T) (hr.mono (by decide)) hg (takes_of rfl rfl rfl rfl) rfl T.g__law_right T.k__law_right (pa_cons (pv 3) (pa_cons (pv 4) pa_nil))))) (pw_or (pt_not (pt_val (pe_callG (ok__law_right T) (hr.mono (by decide)) hg (takes_of rfl rfl rfl rfl) rfl T.g__law_right T.k__law_right (pa_cons (pv 4) (pa_cons (pv 3) pa_nil))))) (pw_or1 (pt_not (pt_val (pe_callG (ok__law_refused_right T) (hr.mono (by decide)) hg (takes_of rfl rfl rfl rfl) rfl T.g__law_refused_right T.k__law_refused_right (pa_cons (pv 1) (pa_cons (pv 3) pa_nil))))))))) (pss_one (ps_ret pe_bl)) pss_nil)
        (pss_one (ps_if (pt_cmpR op_ne (pe_callB (call_reprD hr hg) rfl T.n_repr (by decide +kernel) (pa_cons (pe_lst (pa_cons (pv 3) (pa_cons (pv 4) pa_nil))) pa_nil)) (pv 5) (nomark _)) (pss_one (ps_ret pe_bl)) pss_nil)))))))
        (pss_one (ps_ret pe_bl)))), ?_⟩
  refine ⟨_, rfl, _, rfl, a, ns, rfl, hs, hl, fun d H1 hd e1 D1 => ?_⟩
  have hsl : SqL K H1 a (ns.map V.int) := (Car.ex e1).l hs
  have hml : (ns.map V.int).length = ns.length := List.length_map ..
  refine ⟨_, rfl, _, _, rfl, .inl ⟨_, hsl, rfl⟩, _, _, rfl, rfl, _, _, rfl, _, rfl, ?_⟩
  rw [hml]
  have hb : 0 ≤ (if 8 + (ns.length : Int) < 30 then 8 + (ns.length : Int) else 30) ∧ (if 8 + (ns.length : Int) < 30 then 8 + (ns.length : Int) else 30) ≤ 30 := by split <;> omega
  refine ⟨by omega, by omega, for_range (lo := 0) (fun i σ H' => ∃ t o1 o2 st, σ = [some (.ref a), some (.ref d), t, o1, o2, st] ∧ DrawAt K H' d (100 * i)) ⟨_, _, _, _, rfl, D1⟩ ?_ ?_⟩
  · rintro i σ H0 hi ⟨t, o1, o2, st, rfl, D0⟩
    have hi' : i < 31 := by omega
    refine ⟨_, rfl, _, rfl, d, _, rfl, D0, by omega, fun x p q H2 nx0 ix bp bq D2 e2 => ⟨_, rfl, _, rfl, d, _, rfl, D2, by omega, fun y r s' H3 ny0 iy br bs D3 e3 => ⟨_, _, rfl, ?_⟩⟩⟩
    refine ⟨_, rfl, _, _, rfl, d, _, 6, rfl, rfl, D3, by omega, by decide, by decide, fun k k0 k1 H4 D4 e4 => ⟨rfl, _, rfl, iteB (fun _ => ⟨_, rfl, ?_⟩) (fun _ => ?_)⟩⟩
    all_goals have nx := nx0.c ((D2.car e3).trans (D3.car e4))
    all_goals have ny := ny0.c (D3.car e4)
    · have gz : Gd 100 16000000 (.list [.tuple [.int p, .int q], .tuple [.int p, .int q]]) := (Gd.two (Gd.pair (Gd.int (bp.mono (by decide))) (Gd.int (bq.mono (by decide)))) (Gd.pair (Gd.int (bp.mono (by decide))) (Gd.int (bq.mono (by decide))))).mono (by decide) (by decide)
      refine ⟨_, rfl, _, rfl, sz5 (by simp), fun l hl => ⟨_, _, rfl, Dp.lstN hl (.cons nx.d (.cons nx.d .nil)), gz.s, gz.n, gz.p, gz.l, ?_⟩⟩
      have e5 := Evl.Ex.new (o := .lst [x, x]) hl
      refine ⟨_, rfl, _, rfl, _, _, rfl, p, q, p, q, nx.c (Car.ex e5), nx.c (Car.ex e5), ix, ix, bp, bq, bp, bq, fun H6 e6 => ⟨_, rfl, iteF ?_⟩⟩
      have e56 := e5.trans e6
      refine ⟨_, rfl, _, rfl, _, _, rfl, p, q, p, q, nx.c (Car.ex e56), nx.c (Car.ex e56), ix, ix, bp, bq, bp, bq, fun H7 e7 => ⟨_, rfl, iteF ?_⟩⟩
      have e57 := e56.trans e7
      refine ⟨_, rfl, _, rfl, _, _, rfl, d, _, p, q, rfl, D4.ex e57, by omega, nx.c (Car.ex e57), ix, bp, bq, fun H8 D8 e8 => ⟨_, rfl, iteF ?_⟩⟩
      have c8 := (Car.ex e57).trans ((D4.ex e57).car e8)
      refine ⟨_, rfl, _, rfl, sz5 (by simp), fun l2 hl2 => ⟨_, _, rfl, Dp.lstN hl2 (.cons (nx.c c8).d (.cons (nx.c c8).d .nil)), gz.s, gz.n, gz.p, gz.l, ?_⟩⟩
      refine ⟨_, rfl, rfl, _, rfl, iteB (fun c => absurd c (by simp)) (fun _ => ?_)⟩
      exact ⟨_, _, _, _, rfl, (D8.ex (Evl.Ex.new hl2)).mono (by omega)⟩
    · have gz : Gd 100 16000000 (.list [.tuple [.int p, .int q], .tuple [.int r, .int s']]) := (Gd.two (Gd.pair (Gd.int (bp.mono (by decide))) (Gd.int (bq.mono (by decide)))) (Gd.pair (Gd.int (br.mono (by decide))) (Gd.int (bs.mono (by decide))))).mono (by decide) (by decide)
      refine ⟨_, rfl, _, rfl, sz5 (by simp), fun l hl => ⟨_, _, rfl, Dp.lstN hl (.cons nx.d (.cons ny.d .nil)), gz.s, gz.n, gz.p, gz.l, ?_⟩⟩
      have e5 := Evl.Ex.new (o := .lst [x, y]) hl
      refine ⟨_, rfl, _, rfl, _, _, rfl, p, q, r, s', nx.c (Car.ex e5), ny.c (Car.ex e5), ix, iy, bp, bq, br, bs, fun H6 e6 => ⟨_, rfl, iteF ?_⟩⟩
      have e56 := e5.trans e6
      refine ⟨_, rfl, _, rfl, _, _, rfl, r, s', p, q, ny.c (Car.ex e56), nx.c (Car.ex e56), iy, ix, br, bs, bp, bq, fun H7 e7 => ⟨_, rfl, iteF ?_⟩⟩
      have e57 := e56.trans e7
      refine ⟨_, rfl, _, rfl, _, _, rfl, d, _, p, q, rfl, D4.ex e57, by omega, nx.c (Car.ex e57), ix, bp, bq, fun H8 D8 e8 => ⟨_, rfl, iteF ?_⟩⟩
      have c8 := (Car.ex e57).trans ((D4.ex e57).car e8)
      refine ⟨_, rfl, _, rfl, sz5 (by simp), fun l2 hl2 => ⟨_, _, rfl, Dp.lstN hl2 (.cons (nx.c c8).d (.cons (ny.c c8).d .nil)), gz.s, gz.n, gz.p, gz.l, ?_⟩⟩
      refine ⟨_, rfl, rfl, _, rfl, iteB (fun c => absurd c (by simp)) (fun _ => ?_)⟩
      exact ⟨_, _, _, _, rfl, (D8.ex (Evl.Ex.new hl2)).mono (by omega)⟩
  · rintro σ H0 ⟨t, o1, o2, st, rfl, D0⟩
    exact hq _
theorem ok_law (T : Txt P K mg D) : CallG P w K mg base 8 D.law [] (spLaw K) := by
  obtain ⟨fd, F, B⟩ := fb_law (w := w) (base := base) T
  exact B.pos sp1_len (F.binds (ps := ["script"]) fun _ _ _ _ _ _ us hl => match us, hl with | [_], _ => rfl)
end
theorem cls_some {K : Frag} {C : Addr} (h : hasDictIn K C = true) : ∃ cd, clsIn K C = some cd := by
  unfold hasDictIn at h
  cases e : clsIn K C with
  | none => rw [e] at h; cases h
  | some cd => exact ⟨cd, rfl⟩
theorem cls_isSome {K : Frag} {C : Addr} (h : hasDictIn K C = true) : (clsIn K C).isSome = true := by
  obtain ⟨cd, e⟩ := cls_some h
  rw [e]
  rfl
theorem all_mk {P : Program} {K : Frag} {h : Heap} {mg : Str → Option Value} {fa : Addr} (X : K.In h) (G : h.Ns mainGlobals mg) (hfa : mg "law" = some (.ref fa))
    {A_is_integer : Addr} {od_is_integer an_is_integer : Option Addr} {sl_is_integer : Array (Option Value)} {oc_is_integer kV_is_integer dc_is_integer pm_is_integer cd_is_integer ct_is_integer : Value} {A_common_divisor : Addr} {od_common_divisor an_common_divisor : Option Addr} {sl_common_divisor : Array (Option Value)} {oc_common_divisor kV_common_divisor dc_common_divisor pm_common_divisor cd_common_divisor ct_common_divisor : Value} {A_reduced : Addr} {od_reduced an_reduced : Option Addr} {sl_reduced : Array (Option Value)} {oc_reduced kV_reduced dc_reduced pm_reduced cd_reduced ct_reduced : Value} {A_is_number : Addr} {od_is_number an_is_number : Option Addr} {sl_is_number : Array (Option Value)} {oc_is_number kV_is_number dc_is_number pm_is_number cd_is_number ct_is_number : Value} {A_check_numbers : Addr} {od_check_numbers an_check_numbers : Option Addr} {sl_check_numbers : Array (Option Value)} {oc_check_numbers kV_check_numbers dc_check_numbers pm_check_numbers cd_check_numbers ct_check_numbers : Value} {A_number : Addr} {od_number an_number : Option Addr} {sl_number : Array (Option Value)} {oc_number kV_number dc_number pm_number cd_number ct_number : Value} {T_number : Addr} {to_number : Value} {td_number : Option Addr} {tn_number : Nat} {ts_number : Array (Option Value)} {tt_number_0 : Tok} {A_plus : Addr} {od_plus an_plus : Option Addr} {sl_plus : Array (Option Value)} {oc_plus kV_plus dc_plus pm_plus cd_plus ct_plus : Value} {A_minus : Addr} {od_minus an_minus : Option Addr} {sl_minus : Array (Option Value)} {oc_minus kV_minus dc_minus pm_minus cd_minus ct_minus : Value} {A_times : Addr} {od_times an_times : Option Addr} {sl_times : Array (Option Value)} {oc_times kV_times dc_times pm_times cd_times ct_times : Value} {A_over : Addr} {od_over an_over : Option Addr} {sl_over : Array (Option Value)} {oc_over kV_over dc_over pm_over cd_over ct_over : Value} {A_is_less : Addr} {od_is_less an_is_less : Option Addr} {sl_is_less : Array (Option Value)} {oc_is_less kV_is_less dc_is_less pm_is_less cd_is_less ct_is_less : Value} {A_add : Addr} {od_add an_add : Option Addr} {sl_add : Array (Option Value)} {oc_add kV_add dc_add pm_add cd_add ct_add : Value} {A_subtract : Addr} {od_subtract an_subtract : Option Addr} {sl_subtract : Array (Option Value)} {oc_subtract kV_subtract dc_subtract pm_subtract cd_subtract ct_subtract : Value} {A_multiply : Addr} {od_multiply an_multiply : Option Addr} {sl_multiply : Array (Option Value)} {oc_multiply kV_multiply dc_multiply pm_multiply cd_multiply ct_multiply : Value} {A_divide : Addr} {od_divide an_divide : Option Addr} {sl_divide : Array (Option Value)} {oc_divide kV_divide dc_divide pm_divide cd_divide ct_divide : Value} {A_compare : Addr} {od_compare an_compare : Option Addr} {sl_compare : Array (Option Value)} {oc_compare kV_compare dc_compare pm_compare cd_compare ct_compare : Value} {A_whole_part : Addr} {od_whole_part an_whole_part : Option Addr} {sl_whole_part : Array (Option Value)} {oc_whole_part kV_whole_part dc_whole_part pm_whole_part cd_whole_part ct_whole_part : Value} {A_floor_of : Addr} {od_floor_of an_floor_of : Option Addr} {sl_floor_of : Array (Option Value)} {oc_floor_of kV_floor_of dc_floor_of pm_floor_of cd_floor_of ct_floor_of : Value} {A__law_begin : Addr} {od__law_begin an__law_begin : Option Addr} {sl__law_begin : Array (Option Value)} {oc__law_begin kV__law_begin dc__law_begin pm__law_begin cd__law_begin ct__law_begin : Value} {A__law_mixed : Addr} {od__law_mixed an__law_mixed : Option Addr} {sl__law_mixed : Array (Option Value)} {oc__law_mixed kV__law_mixed dc__law_mixed pm__law_mixed cd__law_mixed ct__law_mixed : Value} {A__law_next : Addr} {od__law_next an__law_next : Option Addr} {sl__law_next : Array (Option Value)} {oc__law_next kV__law_next dc__law_next pm__law_next cd__law_next ct__law_next : Value} {A__law_integer : Addr} {od__law_integer an__law_integer : Option Addr} {sl__law_integer : Array (Option Value)} {oc__law_integer kV__law_integer dc__law_integer pm__law_integer cd__law_integer ct__law_integer : Value} {A__law_number : Addr} {od__law_number an__law_number : Option Addr} {sl__law_number : Array (Option Value)} {oc__law_number kV__law_number dc__law_number pm__law_number cd__law_number ct__law_number : Value} {A__law_same : Addr} {od__law_same an__law_same : Option Addr} {sl__law_same : Array (Option Value)} {oc__law_same kV__law_same dc__law_same pm__law_same cd__law_same ct__law_same : Value} {A__law_right : Addr} {od__law_right an__law_right : Option Addr} {sl__law_right : Array (Option Value)} {oc__law_right kV__law_right dc__law_right pm__law_right cd__law_right ct__law_right : Value} {A__law_done : Addr} {od__law_done an__law_done : Option Addr} {sl__law_done : Array (Option Value)} {oc__law_done kV__law_done dc__law_done pm__law_done cd__law_done ct__law_done : Value} {A__law_word : Addr} {od__law_word an__law_word : Option Addr} {sl__law_word : Array (Option Value)} {oc__law_word kV__law_word dc__law_word pm__law_word cd__law_word ct__law_word : Value} {A__law_refused_right : Addr} {od__law_refused_right an__law_refused_right : Option Addr} {sl__law_refused_right : Array (Option Value)} {oc__law_refused_right kV__law_refused_right dc__law_refused_right pm__law_refused_right cd__law_refused_right ct__law_refused_right : Value} {A_law : Addr} {od_law an_law : Option Addr} {sl_law : Array (Option Value)} {oc_law kV_law dc_law pm_law cd_law ct_law : Value} {A_InvalidNumber : Addr} {fI_InvalidNumber : Addr} {cc_InvalidNumber : Addr} {cda_InvalidNumber : Addr} {xoc_InvalidNumber : Value} {xdV_InvalidNumber : Value} {xkV_InvalidNumber : Value} {xdoc_InvalidNumber : Value} {xpm_InvalidNumber : Value} {xct_InvalidNumber : Value} {xcl_InvalidNumber : Value} {xccl_InvalidNumber : Value} {xod_InvalidNumber : Option Addr} {xan_InvalidNumber : Option Addr} {xcld_InvalidNumber : Option Addr} {xcdd_InvalidNumber : Option Addr} {xosl_InvalidNumber : Array (Option Value)} {xcsl_InvalidNumber : Array (Option Value)} {xccs_InvalidNumber : Array (Option Value)} {xqual_InvalidNumber : Str} {xmsg_InvalidNumber : Str} {xfile_InvalidNumber : Str} {xpar_InvalidNumber : Arguments} {xsc_InvalidNumber : Scope} {xkk_InvalidNumber : Nat} {xtf_InvalidNumber : Tok} {xvs_InvalidNumber : Array Value} {xp0_InvalidNumber xp1_InvalidNumber xp2_InvalidNumber xp3_InvalidNumber xp4_InvalidNumber xp5_InvalidNumber xp6_InvalidNumber xp7_InvalidNumber xp8_InvalidNumber xp9_InvalidNumber : Pos} {A_MissingError : Addr} {A_PaceError : Addr} {A_StateError : Addr} {A_ZERO : Addr} {zo_ZERO : Option Addr} {zn_ZERO : Nat} {zs_ZERO : Array (Option Value)} {zt_ZERO zu_ZERO : Tok}
    (a_is_integer : nsIn K mainGlobals "is_integer" = some (some (.ref A_is_integer)))
    (l_is_integer : K.lookup A_is_integer = some ⟨oc_is_integer, od_is_integer, .func (fnOf "is_integer" "is_integer" (defArgs s_is_integer) (defBody s_is_integer) (defScope s_is_integer) .none kV_is_integer dc_is_integer pm_is_integer an_is_integer cd_is_integer ct_is_integer), sl_is_integer⟩)
    (c_is_integer : codeIn K cd_is_integer "is_integer" = true)
    (k_is_integer : keepIn K (.ref A_is_integer) = true)
    (a_common_divisor : nsIn K mainGlobals "common_divisor" = some (some (.ref A_common_divisor)))
    (l_common_divisor : K.lookup A_common_divisor = some ⟨oc_common_divisor, od_common_divisor, .func (fnOf "common_divisor" "common_divisor" (defArgs s_common_divisor) (defBody s_common_divisor) (defScope s_common_divisor) .none kV_common_divisor dc_common_divisor pm_common_divisor an_common_divisor cd_common_divisor ct_common_divisor), sl_common_divisor⟩)
    (c_common_divisor : codeIn K cd_common_divisor "common_divisor" = true)
    (k_common_divisor : keepIn K (.ref A_common_divisor) = true)
    (a_reduced : nsIn K mainGlobals "reduced" = some (some (.ref A_reduced)))
    (l_reduced : K.lookup A_reduced = some ⟨oc_reduced, od_reduced, .func (fnOf "reduced" "reduced" (defArgs s_reduced) (defBody s_reduced) (defScope s_reduced) .none kV_reduced dc_reduced pm_reduced an_reduced cd_reduced ct_reduced), sl_reduced⟩)
    (c_reduced : codeIn K cd_reduced "reduced" = true)
    (k_reduced : keepIn K (.ref A_reduced) = true)
    (a_is_number : nsIn K mainGlobals "is_number" = some (some (.ref A_is_number)))
    (l_is_number : K.lookup A_is_number = some ⟨oc_is_number, od_is_number, .func (fnOf "is_number" "is_number" (defArgs s_is_number) (defBody s_is_number) (defScope s_is_number) .none kV_is_number dc_is_number pm_is_number an_is_number cd_is_number ct_is_number), sl_is_number⟩)
    (c_is_number : codeIn K cd_is_number "is_number" = true)
    (k_is_number : keepIn K (.ref A_is_number) = true)
    (a_check_numbers : nsIn K mainGlobals "check_numbers" = some (some (.ref A_check_numbers)))
    (l_check_numbers : K.lookup A_check_numbers = some ⟨oc_check_numbers, od_check_numbers, .func (fnOf "check_numbers" "check_numbers" (defArgs s_check_numbers) (defBody s_check_numbers) (defScope s_check_numbers) .none kV_check_numbers dc_check_numbers pm_check_numbers an_check_numbers cd_check_numbers ct_check_numbers), sl_check_numbers⟩)
    (c_check_numbers : codeIn K cd_check_numbers "check_numbers" = true)
    (k_check_numbers : keepIn K (.ref A_check_numbers) = true)
    (a_number : nsIn K mainGlobals "number" = some (some (.ref A_number)))
    (l_number : K.lookup A_number = some ⟨oc_number, od_number, .func (fnOf "number" "number" (defArgs s_number) (defBody s_number) (defScope s_number) (.ref T_number) kV_number dc_number pm_number an_number cd_number ct_number), sl_number⟩)
    (c_number : codeIn K cd_number "number" = true)
    (k_number : keepIn K (.ref A_number) = true)
    (d_number : K.lookup T_number = some ⟨to_number, td_number, .seq #[.int 1 tt_number_0] tn_number, ts_number⟩)
    (a_plus : nsIn K mainGlobals "plus" = some (some (.ref A_plus)))
    (l_plus : K.lookup A_plus = some ⟨oc_plus, od_plus, .func (fnOf "plus" "plus" (defArgs s_plus) (defBody s_plus) (defScope s_plus) .none kV_plus dc_plus pm_plus an_plus cd_plus ct_plus), sl_plus⟩)
    (c_plus : codeIn K cd_plus "plus" = true)
    (k_plus : keepIn K (.ref A_plus) = true)
    (a_minus : nsIn K mainGlobals "minus" = some (some (.ref A_minus)))
    (l_minus : K.lookup A_minus = some ⟨oc_minus, od_minus, .func (fnOf "minus" "minus" (defArgs s_minus) (defBody s_minus) (defScope s_minus) .none kV_minus dc_minus pm_minus an_minus cd_minus ct_minus), sl_minus⟩)
    (c_minus : codeIn K cd_minus "minus" = true)
    (k_minus : keepIn K (.ref A_minus) = true)
    (a_times : nsIn K mainGlobals "times" = some (some (.ref A_times)))
    (l_times : K.lookup A_times = some ⟨oc_times, od_times, .func (fnOf "times" "times" (defArgs s_times) (defBody s_times) (defScope s_times) .none kV_times dc_times pm_times an_times cd_times ct_times), sl_times⟩)
    (c_times : codeIn K cd_times "times" = true)
    (k_times : keepIn K (.ref A_times) = true)
    (a_over : nsIn K mainGlobals "over" = some (some (.ref A_over)))
    (l_over : K.lookup A_over = some ⟨oc_over, od_over, .func (fnOf "over" "over" (defArgs s_over) (defBody s_over) (defScope s_over) .none kV_over dc_over pm_over an_over cd_over ct_over), sl_over⟩)
    (c_over : codeIn K cd_over "over" = true)
    (k_over : keepIn K (.ref A_over) = true)
    (a_is_less : nsIn K mainGlobals "is_less" = some (some (.ref A_is_less)))
    (l_is_less : K.lookup A_is_less = some ⟨oc_is_less, od_is_less, .func (fnOf "is_less" "is_less" (defArgs s_is_less) (defBody s_is_less) (defScope s_is_less) .none kV_is_less dc_is_less pm_is_less an_is_less cd_is_less ct_is_less), sl_is_less⟩)
    (c_is_less : codeIn K cd_is_less "is_less" = true)
    (k_is_less : keepIn K (.ref A_is_less) = true)
    (a_add : nsIn K mainGlobals "add" = some (some (.ref A_add)))
    (l_add : K.lookup A_add = some ⟨oc_add, od_add, .func (fnOf "add" "add" (defArgs s_add) (defBody s_add) (defScope s_add) .none kV_add dc_add pm_add an_add cd_add ct_add), sl_add⟩)
    (c_add : codeIn K cd_add "add" = true)
    (k_add : keepIn K (.ref A_add) = true)
    (a_subtract : nsIn K mainGlobals "subtract" = some (some (.ref A_subtract)))
    (l_subtract : K.lookup A_subtract = some ⟨oc_subtract, od_subtract, .func (fnOf "subtract" "subtract" (defArgs s_subtract) (defBody s_subtract) (defScope s_subtract) .none kV_subtract dc_subtract pm_subtract an_subtract cd_subtract ct_subtract), sl_subtract⟩)
    (c_subtract : codeIn K cd_subtract "subtract" = true)
    (k_subtract : keepIn K (.ref A_subtract) = true)
    (a_multiply : nsIn K mainGlobals "multiply" = some (some (.ref A_multiply)))
    (l_multiply : K.lookup A_multiply = some ⟨oc_multiply, od_multiply, .func (fnOf "multiply" "multiply" (defArgs s_multiply) (defBody s_multiply) (defScope s_multiply) .none kV_multiply dc_multiply pm_multiply an_multiply cd_multiply ct_multiply), sl_multiply⟩)
    (c_multiply : codeIn K cd_multiply "multiply" = true)
    (k_multiply : keepIn K (.ref A_multiply) = true)
    (a_divide : nsIn K mainGlobals "divide" = some (some (.ref A_divide)))
    (l_divide : K.lookup A_divide = some ⟨oc_divide, od_divide, .func (fnOf "divide" "divide" (defArgs s_divide) (defBody s_divide) (defScope s_divide) .none kV_divide dc_divide pm_divide an_divide cd_divide ct_divide), sl_divide⟩)
    (c_divide : codeIn K cd_divide "divide" = true)
    (k_divide : keepIn K (.ref A_divide) = true)
    (a_compare : nsIn K mainGlobals "compare" = some (some (.ref A_compare)))
    (l_compare : K.lookup A_compare = some ⟨oc_compare, od_compare, .func (fnOf "compare" "compare" (defArgs s_compare) (defBody s_compare) (defScope s_compare) .none kV_compare dc_compare pm_compare an_compare cd_compare ct_compare), sl_compare⟩)
    (c_compare : codeIn K cd_compare "compare" = true)
    (k_compare : keepIn K (.ref A_compare) = true)
    (a_whole_part : nsIn K mainGlobals "whole_part" = some (some (.ref A_whole_part)))
    (l_whole_part : K.lookup A_whole_part = some ⟨oc_whole_part, od_whole_part, .func (fnOf "whole_part" "whole_part" (defArgs s_whole_part) (defBody s_whole_part) (defScope s_whole_part) .none kV_whole_part dc_whole_part pm_whole_part an_whole_part cd_whole_part ct_whole_part), sl_whole_part⟩)
    (c_whole_part : codeIn K cd_whole_part "whole_part" = true)
    (k_whole_part : keepIn K (.ref A_whole_part) = true)
    (a_floor_of : nsIn K mainGlobals "floor_of" = some (some (.ref A_floor_of)))
    (l_floor_of : K.lookup A_floor_of = some ⟨oc_floor_of, od_floor_of, .func (fnOf "floor_of" "floor_of" (defArgs s_floor_of) (defBody s_floor_of) (defScope s_floor_of) .none kV_floor_of dc_floor_of pm_floor_of an_floor_of cd_floor_of ct_floor_of), sl_floor_of⟩)
    (c_floor_of : codeIn K cd_floor_of "floor_of" = true)
    (k_floor_of : keepIn K (.ref A_floor_of) = true)
    (a__law_begin : nsIn K mainGlobals "_law_begin" = some (some (.ref A__law_begin)))
    (l__law_begin : K.lookup A__law_begin = some ⟨oc__law_begin, od__law_begin, .func (fnOf "_law_begin" "_law_begin" (defArgs s__law_begin) (defBody s__law_begin) (defScope s__law_begin) .none kV__law_begin dc__law_begin pm__law_begin an__law_begin cd__law_begin ct__law_begin), sl__law_begin⟩)
    (c__law_begin : codeIn K cd__law_begin "_law_begin" = true)
    (k__law_begin : keepIn K (.ref A__law_begin) = true)
    (a__law_mixed : nsIn K mainGlobals "_law_mixed" = some (some (.ref A__law_mixed)))
    (l__law_mixed : K.lookup A__law_mixed = some ⟨oc__law_mixed, od__law_mixed, .func (fnOf "_law_mixed" "_law_mixed" (defArgs s__law_mixed) (defBody s__law_mixed) (defScope s__law_mixed) .none kV__law_mixed dc__law_mixed pm__law_mixed an__law_mixed cd__law_mixed ct__law_mixed), sl__law_mixed⟩)
    (c__law_mixed : codeIn K cd__law_mixed "_law_mixed" = true)
    (k__law_mixed : keepIn K (.ref A__law_mixed) = true)
    (a__law_next : nsIn K mainGlobals "_law_next" = some (some (.ref A__law_next)))
    (l__law_next : K.lookup A__law_next = some ⟨oc__law_next, od__law_next, .func (fnOf "_law_next" "_law_next" (defArgs s__law_next) (defBody s__law_next) (defScope s__law_next) .none kV__law_next dc__law_next pm__law_next an__law_next cd__law_next ct__law_next), sl__law_next⟩)
    (c__law_next : codeIn K cd__law_next "_law_next" = true)
    (k__law_next : keepIn K (.ref A__law_next) = true)
    (a__law_integer : nsIn K mainGlobals "_law_integer" = some (some (.ref A__law_integer)))
    (l__law_integer : K.lookup A__law_integer = some ⟨oc__law_integer, od__law_integer, .func (fnOf "_law_integer" "_law_integer" (defArgs s__law_integer) (defBody s__law_integer) (defScope s__law_integer) .none kV__law_integer dc__law_integer pm__law_integer an__law_integer cd__law_integer ct__law_integer), sl__law_integer⟩)
    (c__law_integer : codeIn K cd__law_integer "_law_integer" = true)
    (k__law_integer : keepIn K (.ref A__law_integer) = true)
    (a__law_number : nsIn K mainGlobals "_law_number" = some (some (.ref A__law_number)))
    (l__law_number : K.lookup A__law_number = some ⟨oc__law_number, od__law_number, .func (fnOf "_law_number" "_law_number" (defArgs s__law_number) (defBody s__law_number) (defScope s__law_number) .none kV__law_number dc__law_number pm__law_number an__law_number cd__law_number ct__law_number), sl__law_number⟩)
    (c__law_number : codeIn K cd__law_number "_law_number" = true)
    (k__law_number : keepIn K (.ref A__law_number) = true)
    (a__law_same : nsIn K mainGlobals "_law_same" = some (some (.ref A__law_same)))
    (l__law_same : K.lookup A__law_same = some ⟨oc__law_same, od__law_same, .func (fnOf "_law_same" "_law_same" (defArgs s__law_same) (defBody s__law_same) (defScope s__law_same) .none kV__law_same dc__law_same pm__law_same an__law_same cd__law_same ct__law_same), sl__law_same⟩)
    (c__law_same : codeIn K cd__law_same "_law_same" = true)
    (k__law_same : keepIn K (.ref A__law_same) = true)
    (a__law_right : nsIn K mainGlobals "_law_right" = some (some (.ref A__law_right)))
    (l__law_right : K.lookup A__law_right = some ⟨oc__law_right, od__law_right, .func (fnOf "_law_right" "_law_right" (defArgs s__law_right) (defBody s__law_right) (defScope s__law_right) .none kV__law_right dc__law_right pm__law_right an__law_right cd__law_right ct__law_right), sl__law_right⟩)
    (c__law_right : codeIn K cd__law_right "_law_right" = true)
    (k__law_right : keepIn K (.ref A__law_right) = true)
    (a__law_done : nsIn K mainGlobals "_law_done" = some (some (.ref A__law_done)))
    (l__law_done : K.lookup A__law_done = some ⟨oc__law_done, od__law_done, .func (fnOf "_law_done" "_law_done" (defArgs s__law_done) (defBody s__law_done) (defScope s__law_done) .none kV__law_done dc__law_done pm__law_done an__law_done cd__law_done ct__law_done), sl__law_done⟩)
    (c__law_done : codeIn K cd__law_done "_law_done" = true)
    (k__law_done : keepIn K (.ref A__law_done) = true)
    (a__law_word : nsIn K mainGlobals "_law_word" = some (some (.ref A__law_word)))
    (l__law_word : K.lookup A__law_word = some ⟨oc__law_word, od__law_word, .func (fnOf "_law_word" "_law_word" (defArgs s__law_word) (defBody s__law_word) (defScope s__law_word) .none kV__law_word dc__law_word pm__law_word an__law_word cd__law_word ct__law_word), sl__law_word⟩)
    (c__law_word : codeIn K cd__law_word "_law_word" = true)
    (k__law_word : keepIn K (.ref A__law_word) = true)
    (a__law_refused_right : nsIn K mainGlobals "_law_refused_right" = some (some (.ref A__law_refused_right)))
    (l__law_refused_right : K.lookup A__law_refused_right = some ⟨oc__law_refused_right, od__law_refused_right, .func (fnOf "_law_refused_right" "_law_refused_right" (defArgs s__law_refused_right) (defBody s__law_refused_right) (defScope s__law_refused_right) .none kV__law_refused_right dc__law_refused_right pm__law_refused_right an__law_refused_right cd__law_refused_right ct__law_refused_right), sl__law_refused_right⟩)
    (c__law_refused_right : codeIn K cd__law_refused_right "_law_refused_right" = true)
    (k__law_refused_right : keepIn K (.ref A__law_refused_right) = true)
    (a_law : nsIn K mainGlobals "law" = some (some (.ref A_law)))
    (l_law : K.lookup A_law = some ⟨oc_law, od_law, .func (fnOf "law" "law" (defArgs s_law) (defBody s_law) (defScope s_law) .none kV_law dc_law pm_law an_law cd_law ct_law), sl_law⟩)
    (c_law : codeIn K cd_law "law" = true)
    (k_law : keepIn K (.ref A_law) = true)
    (n_abs : nsIn K mainGlobals "abs" = some none)
    (n_bool : nsIn K mainGlobals "bool" = some none)
    (n_int : nsIn K mainGlobals "int" = some none)
    (n_isinstance : nsIn K mainGlobals "isinstance" = some none)
    (n_len : nsIn K mainGlobals "len" = some none)
    (n_max : nsIn K mainGlobals "max" = some none)
    (n_min : nsIn K mainGlobals "min" = some none)
    (n_range : nsIn K mainGlobals "range" = some none)
    (n_repr : nsIn K mainGlobals "repr" = some none)
    (n_tuple : nsIn K mainGlobals "tuple" = some none)
    (n_super : nsIn K mainGlobals "super" = some none)
    (h_op : nsIn K cStatics "thirdparty.any" = some none)
    (a_InvalidNumber : nsIn K mainGlobals "InvalidNumber" = some (some (.ref A_InvalidNumber)))
    (k_InvalidNumber : keepIn K (.ref A_InvalidNumber) = true)
    (ei_InvalidNumber : excInitIn K A_InvalidNumber [.type "ValueError", .type "Exception", .type "BaseException", .type "object"] "ValueError.__new__" = true)
    (eo_InvalidNumber : excOver K A_InvalidNumber [.type "ValueError", .type "Exception", .type "BaseException", .type "object"] = true)
    (fi_InvalidNumber : findIn K (.ref A_InvalidNumber) "__init__" = some (some (.ref fI_InvalidNumber)))
    (if_InvalidNumber : isFn K (.ref fI_InvalidNumber) = true)
    (lf_InvalidNumber : K.lookup fI_InvalidNumber = some ⟨xoc_InvalidNumber, xod_InvalidNumber, .func (ksFn "__init__" xqual_InvalidNumber xpar_InvalidNumber (xBody xmsg_InvalidNumber "thing" xp0_InvalidNumber xp1_InvalidNumber xp2_InvalidNumber xp3_InvalidNumber xp4_InvalidNumber xp5_InvalidNumber xp6_InvalidNumber xp7_InvalidNumber xp8_InvalidNumber xp9_InvalidNumber xkk_InvalidNumber) xsc_InvalidNumber xdV_InvalidNumber xkV_InvalidNumber xdoc_InvalidNumber xpm_InvalidNumber xan_InvalidNumber (.ref cda_InvalidNumber) xct_InvalidNumber cc_InvalidNumber), xosl_InvalidNumber⟩)
    (co_InvalidNumber : codeIn K (.ref cda_InvalidNumber) xqual_InvalidNumber = true)
    (lc_InvalidNumber : K.lookup cc_InvalidNumber = some ⟨xcl_InvalidNumber, xcld_InvalidNumber, .cell (some (.ref A_InvalidNumber)), xcsl_InvalidNumber⟩)
    (ld_InvalidNumber : K.lookup cda_InvalidNumber = some ⟨xccl_InvalidNumber, xcdd_InvalidNumber, .fields xvs_InvalidNumber, xccs_InvalidNumber⟩)
    (lv_InvalidNumber : xvs_InvalidNumber[2]? = some (.str xfile_InvalidNumber xtf_InvalidNumber))
    (le_InvalidNumber : (P.main.file == xfile_InvalidNumber) = true)
    (lh_InvalidNumber : (xpar_InvalidNumber.posonlyargs ++ xpar_InvalidNumber.args).head?.map (·.arg) = some ("self" : Str))
    (b1_InvalidNumber : ∀ (s : Shared) (a b : Value), BindsTo s (ksFn "__init__" xqual_InvalidNumber xpar_InvalidNumber (xBody xmsg_InvalidNumber "thing" xp0_InvalidNumber xp1_InvalidNumber xp2_InvalidNumber xp3_InvalidNumber xp4_InvalidNumber xp5_InvalidNumber xp6_InvalidNumber xp7_InvalidNumber xp8_InvalidNumber xp9_InvalidNumber xkk_InvalidNumber) xsc_InvalidNumber xdV_InvalidNumber xkV_InvalidNumber xdoc_InvalidNumber xpm_InvalidNumber xan_InvalidNumber (.ref cda_InvalidNumber) xct_InvalidNumber cc_InvalidNumber) ⟨[a, b], []⟩ [("self", a), ("thing", b)])
    (b2_InvalidNumber : ∀ (s : Shared) (a b : Value), BindsTo s (ksFn "__init__" xqual_InvalidNumber xpar_InvalidNumber (xBody xmsg_InvalidNumber "thing" xp0_InvalidNumber xp1_InvalidNumber xp2_InvalidNumber xp3_InvalidNumber xp4_InvalidNumber xp5_InvalidNumber xp6_InvalidNumber xp7_InvalidNumber xp8_InvalidNumber xp9_InvalidNumber xkk_InvalidNumber) xsc_InvalidNumber xdV_InvalidNumber xkV_InvalidNumber xdoc_InvalidNumber xpm_InvalidNumber xan_InvalidNumber (.ref cda_InvalidNumber) xct_InvalidNumber cc_InvalidNumber) ⟨[a], [("thing", b)]⟩ [("self", a), ("thing", b)])
    (s0_InvalidNumber : xsc_InvalidNumber.names.lookup ("super" : Str) = some .globalImplicit)
    (s1_InvalidNumber : xsc_InvalidNumber.names.lookup ("__class__" : Str) = some .free)
    (s2_InvalidNumber : xsc_InvalidNumber.names.lookup ("self" : Str) = some .local)
    (s3_InvalidNumber : xsc_InvalidNumber.names.lookup ("thing" : Str) = some .local)
    (s4_InvalidNumber : ∀ x ∈ xsc_InvalidNumber.names, x.2 ≠ .cell)
    (s5_InvalidNumber : xsc_InvalidNumber.isCoroutine = false)
    (s6_InvalidNumber : xsc_InvalidNumber.isGenerator = false)
    (s7_InvalidNumber : xsc_InvalidNumber.kind = .function)
    (ev_InvalidNumber : ∀ L : Addr, ∃ pl : Sem Bool, eval (.Call (.Attribute (.Call (.Name "super" xp0_InvalidNumber) [] [] xp1_InvalidNumber) "__init__" xp2_InvalidNumber) [.Constant (.str xmsg_InvalidNumber) xkk_InvalidNumber xp3_InvalidNumber] [] xp4_InvalidNumber) (ksEnv xqual_InvalidNumber xsc_InvalidNumber L fI_InvalidNumber (.ref cda_InvalidNumber) cc_InvalidNumber) = (do let ov ← attributeBase (.Call (.Name "super" xp0_InvalidNumber) [] [] xp1_InvalidNumber) "__init__" (ksEnv xqual_InvalidNumber xsc_InvalidNumber L fI_InvalidNumber (.ref cda_InvalidNumber) cc_InvalidNumber) (eval (.Call (.Name "super" xp0_InvalidNumber) [] [] xp1_InvalidNumber) (ksEnv xqual_InvalidNumber xsc_InvalidNumber L fI_InvalidNumber (.ref cda_InvalidNumber) cc_InvalidNumber)); standAt xp2_InvalidNumber.atName; let (g, first) ← holding [ov] (getMethod ov "__init__" pl); callWith xp4_InvalidNumber g first (backTo xp4_InvalidNumber (starEach [.Constant (.str xmsg_InvalidNumber) xkk_InvalidNumber xp3_InvalidNumber] (ksEnv xqual_InvalidNumber xsc_InvalidNumber L fI_InvalidNumber (.ref cda_InvalidNumber) cc_InvalidNumber))) []))
    (su_InvalidNumber : ks_superIn K A_InvalidNumber A_InvalidNumber "__init__" = some (some (.builtin "ValueError.__init__")))
    (sB_InvalidNumber : subIn K (.ref A_InvalidNumber) (.type "ValueError") = some true)
    (sC_InvalidNumber : subIn K (.ref A_InvalidNumber) (.ref A_InvalidNumber) = some true)
    (sa_InvalidNumber : findIn K (.ref A_InvalidNumber) "__setattr__" = some (some (.builtin "object.__setattr__")))
    (tk_InvalidNumber : takerIn K A_InvalidNumber "thing" = some none)
    (hd_InvalidNumber : hasDictIn K A_InvalidNumber = true)
    (ex_InvalidNumber : subIn K (.ref A_InvalidNumber) (.type "BaseException") = some true)
    (ty_InvalidNumber : typeIn K (.ref A_InvalidNumber) = some (.type "type"))
    (ga_InvalidNumber : findIn K (.ref A_InvalidNumber) "__getattribute__" = some (some (.builtin "BaseException.__getattribute__")))
    (gg_InvalidNumber : findIn K (.ref A_InvalidNumber) "__getattr__" = some none)
    (ha_InvalidNumber : findIn K (.ref A_InvalidNumber) "__class__" = some (some (.builtin "object.__class__")))
    (hn_InvalidNumber : specialIn K (.builtin "object.__class__") "__get__" = some (some (.builtin "getset_descriptor.__get__")))
    (ht_InvalidNumber : takesIn K (.builtin "object.__class__") = some true)
    (hm_InvalidNumber : mroIn K A_InvalidNumber (.type "object") = some true)
    (hf_InvalidNumber : findIn K (.ref A_InvalidNumber) "thing" = some none)
    (a_MissingError : nsIn K mainGlobals "MissingError" = some (some (.ref A_MissingError)))
    (a_PaceError : nsIn K mainGlobals "PaceError" = some (some (.ref A_PaceError)))
    (a_StateError : nsIn K mainGlobals "StateError" = some (some (.ref A_StateError)))
    (h_top : (P.main.scope.names.lookup ("super" : Str)).isSome = false)
    (a_ZERO : nsIn K mainGlobals "ZERO" = some (some (.ref A_ZERO)))
    (l_ZERO : K.lookup A_ZERO = some ⟨.type "tuple", zo_ZERO, .seq #[.int 0 zt_ZERO, .int 1 zu_ZERO] zn_ZERO, zs_ZERO⟩)
    (e_InvalidNumber : exmAny K (.ref A_InvalidNumber) [.ref A_PaceError, .ref A_StateError, .ref A_MissingError] = some true)
    (i_InvalidNumber : kitOne K (.ref A_InvalidNumber) (.ref A_InvalidNumber) = some true) : ∃ D : Ad, Txt P K mg D ∧ D.law = fa := by
  have e := hfa.symm.trans (mg_of X G a_law)
  cases e
  exact ⟨⟨A_is_integer, A_common_divisor, A_reduced, A_is_number, A_check_numbers, A_number, A_plus, A_minus, A_times, A_over, A_is_less, A_add, A_subtract, A_multiply, A_divide, A_compare, A_whole_part, A_floor_of, A__law_begin, A__law_mixed, A__law_next, A__law_integer, A__law_number, A__law_same, A__law_right, A__law_done, A__law_word, A__law_refused_right, fa, A_InvalidNumber, A_MissingError, A_PaceError, A_StateError, A_ZERO⟩, {
    f_is_integer := ⟨_, fun_mk (st := s_is_integer) l_is_integer c_is_integer k_is_integer⟩,
    g_is_integer := mg_of X G a_is_integer,
    k_is_integer := k_is_integer,
    f_common_divisor := ⟨_, fun_mk (st := s_common_divisor) l_common_divisor c_common_divisor k_common_divisor⟩,
    g_common_divisor := mg_of X G a_common_divisor,
    k_common_divisor := k_common_divisor,
    f_reduced := ⟨_, fun_mk (st := s_reduced) l_reduced c_reduced k_reduced⟩,
    g_reduced := mg_of X G a_reduced,
    k_reduced := k_reduced,
    f_is_number := ⟨_, fun_mk (st := s_is_number) l_is_number c_is_number k_is_number⟩,
    g_is_number := mg_of X G a_is_number,
    k_is_number := k_is_number,
    f_check_numbers := ⟨_, fun_mk (st := s_check_numbers) l_check_numbers c_check_numbers k_check_numbers⟩,
    g_check_numbers := mg_of X G a_check_numbers,
    k_check_numbers := k_check_numbers,
    f_number := ⟨_, ⟨⟨_, _, _, _, _, _, _, _, _, _, rfl, l_number, c_number, .inr ⟨by simp, _, _, [.int 1 tt_number_0], _, rfl, d_number, rfl, (.cons (⟨_, rfl⟩) .nil)⟩, .inl rfl⟩, k_number⟩⟩,
    g_number := mg_of X G a_number,
    k_number := k_number,
    f_plus := ⟨_, fun_mk (st := s_plus) l_plus c_plus k_plus⟩,
    g_plus := mg_of X G a_plus,
    k_plus := k_plus,
    f_minus := ⟨_, fun_mk (st := s_minus) l_minus c_minus k_minus⟩,
    g_minus := mg_of X G a_minus,
    k_minus := k_minus,
    f_times := ⟨_, fun_mk (st := s_times) l_times c_times k_times⟩,
    g_times := mg_of X G a_times,
    k_times := k_times,
    f_over := ⟨_, fun_mk (st := s_over) l_over c_over k_over⟩,
    g_over := mg_of X G a_over,
    k_over := k_over,
    f_is_less := ⟨_, fun_mk (st := s_is_less) l_is_less c_is_less k_is_less⟩,
    g_is_less := mg_of X G a_is_less,
    k_is_less := k_is_less,
    f_add := ⟨_, fun_mk (st := s_add) l_add c_add k_add⟩,
    g_add := mg_of X G a_add,
    k_add := k_add,
    f_subtract := ⟨_, fun_mk (st := s_subtract) l_subtract c_subtract k_subtract⟩,
    g_subtract := mg_of X G a_subtract,
    k_subtract := k_subtract,
    f_multiply := ⟨_, fun_mk (st := s_multiply) l_multiply c_multiply k_multiply⟩,
    g_multiply := mg_of X G a_multiply,
    k_multiply := k_multiply,
    f_divide := ⟨_, fun_mk (st := s_divide) l_divide c_divide k_divide⟩,
    g_divide := mg_of X G a_divide,
    k_divide := k_divide,
    f_compare := ⟨_, fun_mk (st := s_compare) l_compare c_compare k_compare⟩,
    g_compare := mg_of X G a_compare,
    k_compare := k_compare,
    f_whole_part := ⟨_, fun_mk (st := s_whole_part) l_whole_part c_whole_part k_whole_part⟩,
    g_whole_part := mg_of X G a_whole_part,
    k_whole_part := k_whole_part,
    f_floor_of := ⟨_, fun_mk (st := s_floor_of) l_floor_of c_floor_of k_floor_of⟩,
    g_floor_of := mg_of X G a_floor_of,
    k_floor_of := k_floor_of,
    f__law_begin := ⟨_, fun_mk (st := s__law_begin) l__law_begin c__law_begin k__law_begin⟩,
    g__law_begin := mg_of X G a__law_begin,
    k__law_begin := k__law_begin,
    f__law_mixed := ⟨_, fun_mk (st := s__law_mixed) l__law_mixed c__law_mixed k__law_mixed⟩,
    g__law_mixed := mg_of X G a__law_mixed,
    k__law_mixed := k__law_mixed,
    f__law_next := ⟨_, fun_mk (st := s__law_next) l__law_next c__law_next k__law_next⟩,
    g__law_next := mg_of X G a__law_next,
    k__law_next := k__law_next,
    f__law_integer := ⟨_, fun_mk (st := s__law_integer) l__law_integer c__law_integer k__law_integer⟩,
    g__law_integer := mg_of X G a__law_integer,
    k__law_integer := k__law_integer,
    f__law_number := ⟨_, fun_mk (st := s__law_number) l__law_number c__law_number k__law_number⟩,
    g__law_number := mg_of X G a__law_number,
    k__law_number := k__law_number,
    f__law_same := ⟨_, fun_mk (st := s__law_same) l__law_same c__law_same k__law_same⟩,
    g__law_same := mg_of X G a__law_same,
    k__law_same := k__law_same,
    f__law_right := ⟨_, fun_mk (st := s__law_right) l__law_right c__law_right k__law_right⟩,
    g__law_right := mg_of X G a__law_right,
    k__law_right := k__law_right,
    f__law_done := ⟨_, fun_mk (st := s__law_done) l__law_done c__law_done k__law_done⟩,
    g__law_done := mg_of X G a__law_done,
    k__law_done := k__law_done,
    f__law_word := ⟨_, fun_mk (st := s__law_word) l__law_word c__law_word k__law_word⟩,
    g__law_word := mg_of X G a__law_word,
    k__law_word := k__law_word,
    f__law_refused_right := ⟨_, fun_mk (st := s__law_refused_right) l__law_refused_right c__law_refused_right k__law_refused_right⟩,
    g__law_refused_right := mg_of X G a__law_refused_right,
    k__law_refused_right := k__law_refused_right,
    f_law := ⟨_, fun_mk (st := s_law) l_law c_law k_law⟩,
    g_law := mg_of X G a_law,
    k_law := k_law,
    n_abs := mg_none_of X G n_abs,
    n_bool := mg_none_of X G n_bool,
    n_int := mg_none_of X G n_int,
    n_isinstance := mg_none_of X G n_isinstance,
    n_len := mg_none_of X G n_len,
    n_max := mg_none_of X G n_max,
    n_min := mg_none_of X G n_min,
    n_range := mg_none_of X G n_range,
    n_repr := mg_none_of X G n_repr,
    n_tuple := mg_none_of X G n_tuple,
    g_InvalidNumber := mg_of X G a_InvalidNumber,
    k_InvalidNumber := k_InvalidNumber,
    x_InvalidNumber := ⟨PySem.F.excBase_ValueError, kxs_ValueError, PySem.F.store_ValueError, ei_InvalidNumber, eo_InvalidNumber, ⟨_, _, _, _, _, _, _, _, _, _, _, _, _, _, _, _, _, _, _, _, _, _, _, _, _, _, _, _, _, _, _, _, _, _, _, _, fi_InvalidNumber, if_InvalidNumber, lf_InvalidNumber, co_InvalidNumber, lc_InvalidNumber, ld_InvalidNumber, lv_InvalidNumber, le_InvalidNumber, lh_InvalidNumber, b1_InvalidNumber, b2_InvalidNumber, s0_InvalidNumber, s1_InvalidNumber, s2_InvalidNumber, s3_InvalidNumber, s4_InvalidNumber, s5_InvalidNumber, s6_InvalidNumber, s7_InvalidNumber, ev_InvalidNumber⟩, by decide, by decide, by decide, mg_none_of X G n_super, cls_some hd_InvalidNumber, su_InvalidNumber, sB_InvalidNumber, sC_InvalidNumber, h_op, sa_InvalidNumber, tk_InvalidNumber, hd_InvalidNumber, h_top⟩,
    z_InvalidNumber := fun Y e => raises_own (by rw [e]; exact ex_InvalidNumber) (by rw [e]; exact ty_InvalidNumber),
    t_InvalidNumber := ⟨cls_isSome hd_InvalidNumber, ga_InvalidNumber, gg_InvalidNumber, ex_InvalidNumber, hd_InvalidNumber, ha_InvalidNumber, hn_InvalidNumber, ht_InvalidNumber, hm_InvalidNumber⟩,
    h_InvalidNumber := hf_InvalidNumber,
    g_MissingError := mg_of X G a_MissingError,
    g_PaceError := mg_of X G a_PaceError,
    g_StateError := mg_of X G a_StateError,
    g_ZERO := ⟨_, mg_of X G a_ZERO, rfl⟩,
    q_ZERO := fun H => ⟨_, rfl, .inr ⟨_, _, _, l_ZERO, rfl, rfl, by rw [sizeLine_eq]; simp, .cons ⟨_, rfl⟩ (.cons ⟨_, rfl⟩ .nil)⟩⟩,
    e_InvalidNumber := e_InvalidNumber,
    i_InvalidNumber := i_InvalidNumber }, rfl⟩
theorem walk {l : OpenLaw} {q : Program} {loose : List Str} {XP : (Str → Option Value) → Heap → Prop} {YP : World → Heap → Prop} {d : DefRec} {K : Params → Frag} (hn : l.most = some 63) (hdf : d.params.defaults = [])
    (hY : ∀ (w : World) (h : Heap), YP w h → (K w.params).In h)
    (F : ∀ (w : World) (mg : Str → Option Value) (fa : Addr) (h : Heap), (K w.params).In h → h.Ns mainGlobals mg → mg d.name = some (.ref fa) → ∃ D : Ad, Txt l.prog (K w.params) mg D ∧ D.law = fa) :
    WalkO q loose XP YP l.row.toRowW d [] (fun f vs => PySem.call f vs) :=
  Rm.walk_ofG (n := 63) (k := 8) (sp := fun w => spLaw (K w.params)) hn (by decide) hdf ⟨rfl, by decide, by decide⟩ hY (fun w mg fa h KX G hmg base _ _ => by
    obtain ⟨D, T, e⟩ := F w mg fa h KX G hmg
    rw [← e]
    exact ok_law T) fun w H a ns hl _ hO hS => ⟨_, rfl, a, ns, rfl, hS, hl, fun _ => rfl⟩
end K3
open PySem PySem.W PyProof.Rows
set_option maxRecDepth 100000 in
set_option maxHeartbeats 0 in
theorem PySem.Challenge.cw_roompace_k03_arithmetic_holds : PySem.Challenge.rw_roompace_k03_arithmetic.Holds := by
  w_on; o_law; k_head; (case hw => w_witness2)
  k_fill
  refine K3.walk (l := PySem.Challenge.rw_roompace_k03_arithmetic) rfl rfl (fun w h Y => kIn_of Y) ?F
  case F =>
    intro w mg fa h KX G hmg
    refine' K3.all_mk KX G hmg ?a_is_integer ?l_is_integer ?c_is_integer ?k_is_integer ?a_common_divisor ?l_common_divisor ?c_common_divisor ?k_common_divisor ?a_reduced ?l_reduced ?c_reduced ?k_reduced ?a_is_number ?l_is_number ?c_is_number ?k_is_number ?a_check_numbers ?l_check_numbers ?c_check_numbers ?k_check_numbers ?a_number ?l_number ?c_number ?k_number ?d_number ?a_plus ?l_plus ?c_plus ?k_plus ?a_minus ?l_minus ?c_minus ?k_minus ?a_times ?l_times ?c_times ?k_times ?a_over ?l_over ?c_over ?k_over ?a_is_less ?l_is_less ?c_is_less ?k_is_less ?a_add ?l_add ?c_add ?k_add ?a_subtract ?l_subtract ?c_subtract ?k_subtract ?a_multiply ?l_multiply ?c_multiply ?k_multiply ?a_divide ?l_divide ?c_divide ?k_divide ?a_compare ?l_compare ?c_compare ?k_compare ?a_whole_part ?l_whole_part ?c_whole_part ?k_whole_part ?a_floor_of ?l_floor_of ?c_floor_of ?k_floor_of ?a__law_begin ?l__law_begin ?c__law_begin ?k__law_begin ?a__law_mixed ?l__law_mixed ?c__law_mixed ?k__law_mixed ?a__law_next ?l__law_next ?c__law_next ?k__law_next ?a__law_integer ?l__law_integer ?c__law_integer ?k__law_integer ?a__law_number ?l__law_number ?c__law_number ?k__law_number ?a__law_same ?l__law_same ?c__law_same ?k__law_same ?a__law_right ?l__law_right ?c__law_right ?k__law_right ?a__law_done ?l__law_done ?c__law_done ?k__law_done ?a__law_word ?l__law_word ?c__law_word ?k__law_word ?a__law_refused_right ?l__law_refused_right ?c__law_refused_right ?k__law_refused_right ?a_law ?l_law ?c_law ?k_law ?n_abs ?n_bool ?n_int ?n_isinstance ?n_len ?n_max ?n_min ?n_range ?n_repr ?n_tuple ?n_super ?h_op ?a_InvalidNumber ?k_InvalidNumber ?ei_InvalidNumber ?eo_InvalidNumber ?fi_InvalidNumber ?if_InvalidNumber ?lf_InvalidNumber ?co_InvalidNumber ?lc_InvalidNumber ?ld_InvalidNumber ?lv_InvalidNumber ?le_InvalidNumber ?lh_InvalidNumber ?b1_InvalidNumber ?b2_InvalidNumber ?s0_InvalidNumber ?s1_InvalidNumber ?s2_InvalidNumber ?s3_InvalidNumber ?s4_InvalidNumber ?s5_InvalidNumber ?s6_InvalidNumber ?s7_InvalidNumber ?ev_InvalidNumber ?su_InvalidNumber ?sB_InvalidNumber ?sC_InvalidNumber ?sa_InvalidNumber ?tk_InvalidNumber ?hd_InvalidNumber ?ex_InvalidNumber ?ty_InvalidNumber ?ga_InvalidNumber ?gg_InvalidNumber ?ha_InvalidNumber ?hn_InvalidNumber ?ht_InvalidNumber ?hm_InvalidNumber ?hf_InvalidNumber ?a_MissingError ?a_PaceError ?a_StateError ?h_top ?a_ZERO ?l_ZERO ?e_InvalidNumber ?i_InvalidNumber
    (case a_is_integer => k_is)
    (case l_is_integer => k_is)
    (case c_is_integer => k_is)
    (case k_is_integer => k_is)
    (case a_common_divisor => k_is)
    (case l_common_divisor => k_is)
    (case c_common_divisor => k_is)
    (case k_common_divisor => k_is)
    (case a_reduced => k_is)
    (case l_reduced => k_is)
    (case c_reduced => k_is)
    (case k_reduced => k_is)
    (case a_is_number => k_is)
    (case l_is_number => k_is)
    (case c_is_number => k_is)
    (case k_is_number => k_is)
    (case a_check_numbers => k_is)
    (case l_check_numbers => k_is)
    (case c_check_numbers => k_is)
    (case k_check_numbers => k_is)
    (case a_number => k_is)
    (case l_number => k_is)
    (case c_number => k_is)
    (case k_number => k_is)
    (case d_number => k_is)
    (case a_plus => k_is)
    (case l_plus => k_is)
    (case c_plus => k_is)
    (case k_plus => k_is)
    (case a_minus => k_is)
    (case l_minus => k_is)
    (case c_minus => k_is)
    (case k_minus => k_is)
    (case a_times => k_is)
    (case l_times => k_is)
    (case c_times => k_is)
    (case k_times => k_is)
    (case a_over => k_is)
    (case l_over => k_is)
    (case c_over => k_is)
    (case k_over => k_is)
    (case a_is_less => k_is)
    (case l_is_less => k_is)
    (case c_is_less => k_is)
    (case k_is_less => k_is)
    (case a_add => k_is)
    (case l_add => k_is)
    (case c_add => k_is)
    (case k_add => k_is)
    (case a_subtract => k_is)
    (case l_subtract => k_is)
    (case c_subtract => k_is)
    (case k_subtract => k_is)
    (case a_multiply => k_is)
    (case l_multiply => k_is)
    (case c_multiply => k_is)
    (case k_multiply => k_is)
    (case a_divide => k_is)
    (case l_divide => k_is)
    (case c_divide => k_is)
    (case k_divide => k_is)
    (case a_compare => k_is)
    (case l_compare => k_is)
    (case c_compare => k_is)
    (case k_compare => k_is)
    (case a_whole_part => k_is)
    (case l_whole_part => k_is)
    (case c_whole_part => k_is)
    (case k_whole_part => k_is)
    (case a_floor_of => k_is)
    (case l_floor_of => k_is)
    (case c_floor_of => k_is)
    (case k_floor_of => k_is)
    (case a__law_begin => k_is)
    (case l__law_begin => k_is)
    (case c__law_begin => k_is)
    (case k__law_begin => k_is)
    (case a__law_mixed => k_is)
    (case l__law_mixed => k_is)
    (case c__law_mixed => k_is)
    (case k__law_mixed => k_is)
    (case a__law_next => k_is)
    (case l__law_next => k_is)
    (case c__law_next => k_is)
    (case k__law_next => k_is)
    (case a__law_integer => k_is)
    (case l__law_integer => k_is)
    (case c__law_integer => k_is)
    (case k__law_integer => k_is)
    (case a__law_number => k_is)
    (case l__law_number => k_is)
    (case c__law_number => k_is)
    (case k__law_number => k_is)
    (case a__law_same => k_is)
    (case l__law_same => k_is)
    (case c__law_same => k_is)
    (case k__law_same => k_is)
    (case a__law_right => k_is)
    (case l__law_right => k_is)
    (case c__law_right => k_is)
    (case k__law_right => k_is)
    (case a__law_done => k_is)
    (case l__law_done => k_is)
    (case c__law_done => k_is)
    (case k__law_done => k_is)
    (case a__law_word => k_is)
    (case l__law_word => k_is)
    (case c__law_word => k_is)
    (case k__law_word => k_is)
    (case a__law_refused_right => k_is)
    (case l__law_refused_right => k_is)
    (case c__law_refused_right => k_is)
    (case k__law_refused_right => k_is)
    (case a_law => k_is)
    (case l_law => k_is)
    (case c_law => k_is)
    (case k_law => k_is)
    (case n_abs => k_is)
    (case n_bool => k_is)
    (case n_int => k_is)
    (case n_isinstance => k_is)
    (case n_len => k_is)
    (case n_max => k_is)
    (case n_min => k_is)
    (case n_range => k_is)
    (case n_repr => k_is)
    (case n_tuple => k_is)
    (case n_super => k_is)
    (case h_op => k_is)
    (case a_InvalidNumber => k_is)
    (case k_InvalidNumber => k_is)
    (case ei_InvalidNumber => kernel_rfl)
    (case eo_InvalidNumber => kernel_rfl)
    (case fi_InvalidNumber => k_is)
    (case if_InvalidNumber => k_is)
    (case lf_InvalidNumber => k_is)
    (case co_InvalidNumber => k_is)
    (case lc_InvalidNumber => k_is)
    (case ld_InvalidNumber => k_is)
    (case lv_InvalidNumber => rfl)
    (case le_InvalidNumber => first | rfl | decide +kernel)
    (case lh_InvalidNumber => rfl)
    (case b1_InvalidNumber => exact fun _ _ _ => .of_eq rfl)
    (case b2_InvalidNumber => exact fun _ _ _ => .of_eq rfl)
    (case s0_InvalidNumber => first | rfl | decide +kernel)
    (case s1_InvalidNumber => first | rfl | decide +kernel)
    (case s2_InvalidNumber => first | rfl | decide +kernel)
    (case s3_InvalidNumber => first | rfl | decide +kernel)
    (case s4_InvalidNumber => decide +kernel)
    (case s5_InvalidNumber => rfl)
    (case s6_InvalidNumber => rfl)
    (case s7_InvalidNumber => rfl)
    (case ev_InvalidNumber => exact fun _ => ⟨_, rfl⟩)
    (case su_InvalidNumber => kernel_rfl)
    (case sB_InvalidNumber => k_is)
    (case sC_InvalidNumber => k_is)
    (case sa_InvalidNumber => k_is)
    (case tk_InvalidNumber => k_is)
    (case hd_InvalidNumber => k_is)
    (case ex_InvalidNumber => k_is)
    (case ty_InvalidNumber => k_is)
    (case ga_InvalidNumber => k_is)
    (case gg_InvalidNumber => k_is)
    (case ha_InvalidNumber => k_is)
    (case hn_InvalidNumber => k_is)
    (case ht_InvalidNumber => k_is)
    (case hm_InvalidNumber => k_is)
    (case hf_InvalidNumber => k_is)
    (case a_MissingError => k_is)
    (case a_PaceError => k_is)
    (case a_StateError => k_is)
    (case h_top => first | rfl | decide +kernel)
    (case a_ZERO => k_is)
    (case l_ZERO => k_is)
    (case e_InvalidNumber => kernel_rfl)
    (case i_InvalidNumber => kernel_rfl)
